import PyProof.Rows.All
import Wide.All
import OpenK.AllK
import Wide.FinOn
import HandS.ForMost
import HandS.ForExc
import KE.KDictKeyed
import HandS.Wide
import HandS.TupAny
import HandS.Conv
import HandS.WideBits
import HandS.Style
import HandS.IsInst
import HandS.CallSlots
import HandS.Defaults
import HandS.HeadHook2
import HandS.ExcOwn
import HandS.More
import KE.OsArith
import KE.KStateDown
import HandS.EndBits
import HandS.Head0
import HandS.Head1
import HandS.Head2
import HandS.HeadEnd
import HandS.HeadHook1
import HandS.Iter
import HandS.Zip
import HandS.Rev
import HandS.Small
import HandS.NoneIn
import HandS.Sort
import HandS.StrMore
import PyProof.StrOps2
import HandS.ExcIs
import HandS.TryOnly
import HandS.TryMany
import HandS.SortInts
import HandS.Dict
import PyProof.Rows.SortShellAny
import KE.KDictPairs
import PyProof.Rows.StrRev
import KE.SortData
import HandS.RevTup
import KE.KDictList
import KE.KEqNest
import KE.GoesEnumKw
import KE.KRevIter
import PyProof.JoinWalk
import PyProof.ListStr
import KE.KDictDisplayH
import KE.DataCmp
import PySem.Challenge.RW_blotsure_k04_spots_lead_there
set_option Elab.async false
set_option linter.all false
set_option maxRecDepth 100000
set_option maxHeartbeats 1000000
/-! DL1: values seen as data; what a function's own frame owns; the relation between both and the hand layer's heap. -/
namespace DL
open PySem L2
abbrev D := PyData
abbrev K0 := PySem.W.Frag

/-- a key of a dict as data -/
def kD : Key → D
  | .inl i => .int i
  | .inr x => .str x

/-- smaller heap -/
def Le (B H : Hp) : Prop := ∀ a o, B a = some o → H a = some o
theorem Le.refl (H : Hp) : Le H H := fun _ _ h => h
theorem Le.trans {A B C : Hp} (h : Le A B) (g : Le B C) : Le A C := fun a o x => g a o (h a o x)
theorem Le.none {B H : Hp} (h : Le B H) {a : Addr} (n : H a = none) : B a = none := by
  cases q : B a with
  | none => rfl
  | some o => rw [h a o q] at n; cases n
theorem Le.sqL {K : K0} {B H : Hp} (h : Le B H) {a : Addr} {xs : List V} (s : SqL K B a xs) : SqL K H a xs := by
  rcases s with (s | ⟨o, s⟩) | s
  · exact .inl (.inl (h _ _ s))
  · exact .inl (.inr ⟨o, h _ _ s⟩)
  · exact .inr s
theorem Le.sqT {K : K0} {B H : Hp} (h : Le B H) {a : Addr} {xs : List V} (s : SqT K B a xs) : SqT K H a xs := by
  rcases s with (s | ⟨o, s⟩) | s
  · exact .inl (.inl (h _ _ s))
  · exact .inl (.inr ⟨o, h _ _ s⟩)
  · exact .inr s
theorem Le.rd {B H : Hp} (h : Le B H) {a : Addr} {u : HO} (s : Rd B a u) : Rd H a u := by
  rcases s with s | ⟨o, s⟩
  · exact .inl (h _ _ s)
  · exact .inr ⟨o, h _ _ s⟩

/-- flat data -/
def flatD : D → Bool
  | .none => true | .bool _ => true | .int _ => true | .str _ => true | _ => false
/-- a tuple's object has no dict of its own, or one of its items is flat -/
def Pln (B : Hp) (a : Addr) : Prop := ∃ (o : Obj) (vs : List V), B a = some (.frz o (.tup vs)) ∧ o.dict = none
def TupP (B : Hp) (a : Addr) (ds : List D) : Prop := Pln B a ∨ ∃ d ∈ ds, flatD d = true
theorem Pln.mono {B B' : Hp} {a : Addr} (l : Le B B') (h : Pln B a) : Pln B' a := let ⟨o, u, e, q⟩ := h; ⟨o, u, l _ _ e, q⟩
theorem TupP.mono {B B' : Hp} {a : Addr} {ds : List D} (l : Le B B') (h : TupP B a ds) : TupP B' a ds := h.imp (·.mono l) id
mutual
/-- no text in a key -/
def tfK : NestedKey → Bool
  | .none => true
  | .num _ => true
  | .text _ => false
  | .tup ks => tfKs ks
def tfKs : List NestedKey → Bool
  | [] => true
  | k :: ks => tfK k && tfKs ks
end
mutual
theorem hash_tf (w w' : World) : ∀ k : NestedKey, tfK k = true → k.hash w = k.hash w'
  | .none, _ => by simp only [NestedKey.hash]
  | .num i, _ => by simp only [NestedKey.hash]
  | .text x, h => by simp [tfK] at h
  | .tup ks, h => by
    rw [tfK] at h
    rw [NestedKey.hash, NestedKey.hash, hashes_tf w w' ks h]
theorem hashes_tf (w w' : World) : ∀ ks : List NestedKey, tfKs ks = true → NestedKey.hashes w ks = NestedKey.hashes w' ks
  | [], _ => by simp only [NestedKey.hashes]
  | k :: ks, h => by
    rw [tfKs, Bool.and_eq_true] at h
    rw [NestedKey.hashes, NestedKey.hashes, hash_tf w w' k h.1, hashes_tf w w' ks h.2]
end
/-- a key that a dict of nested keys has: a tuple without texts, of eight levels at most -/
def okNK (k : NestedKey) : Prop := (∃ ks, k = .tup ks) ∧ tfK k = true ∧ k.depth ≤ 8
/-- a dict keyed by tuples, told by its object alone -/
def NDp (a : Addr) (xs : List (NestedKey × Addr × Value)) (h : Heap) : Prop :=
  ((a == sysModules) = false ∧ xs.length ≤ sizeLine ∧ (xs.map (·.1)).Nodup) ∧
  ∃ o es ep, h.get? a = some o ∧ o.ExactDict ∧ o.data = .dict es ep ∧ ∀ w : World, es.toList = xs.map fun x => (⟨x.1.hash w, .ref x.2.1, x.2.2⟩ : DictEntry)
/-- .. as it is tracked; the empty one as any empty dict -/
def ndHO (a : Addr) : List (NestedKey × Addr × Value) → HO
  | [] => .dK []
  | x :: xs => .ext (NDp a (x :: xs))
mutual
/-- a value that stands for data, all of it within the still part B -/
inductive Rep (K : K0) (B : Hp) : V → D → Prop
  | non : Rep K B .non .none
  | bl (b : Bool) : Rep K B (.bl b) (.bool b)
  | int (i : Int) : Rep K B (.int i) (.int i)
  | str (x : Str) : Rep K B (.str x) (.str x)
  | lst {a : Addr} {vs : List V} {ds : List D} : SqL K B a vs → RepAll K B vs ds → Rep K B (.ref a) (.list ds)
  | tup {a : Addr} {vs : List V} {ds : List D} : SqT K B a vs → RepAll K B vs ds → TupP B a ds → Rep K B (.ref a) (.tuple ds)
  | dic {a : Addr} {kvs : List (Key × V)} {ds : List (D × D)} : Rd B a (.dK kvs) → RepKV K B kvs ds → Rep K B (.ref a) (.dict ds)
  | nd {a : Addr} {xs : List (NestedKey × Addr × Value)} {ds : List (D × D)} : Rd B a (ndHO a xs) → RepND K B xs ds → Rep K B (.ref a) (.dict ds)
inductive RepND (K : K0) (B : Hp) : List (NestedKey × Addr × Value) → List (D × D) → Prop
  | nil : RepND K B [] []
  | cons {k : NestedKey} {a : Addr} {v : V} {u : Value} {d : D} {xs : List (NestedKey × Addr × Value)} {ds : List (D × D)} : okNK k → Rep K B (.ref a) k.data → Rep K B v d → RelV v u → RepND K B xs ds → RepND K B ((k, a, u) :: xs) ((k.data, d) :: ds)
inductive RepAll (K : K0) (B : Hp) : List V → List D → Prop
  | nil : RepAll K B [] []
  | cons {v : V} {vs : List V} {d : D} {ds : List D} : Rep K B v d → RepAll K B vs ds → RepAll K B (v :: vs) (d :: ds)
inductive RepKV (K : K0) (B : Hp) : List (Key × V) → List (D × D) → Prop
  | nil : RepKV K B [] []
  | cons {k : Key} {v : V} {kvs : List (Key × V)} {d : D} {ds : List (D × D)} : Rep K B v d → RepKV K B kvs ds → RepKV K B ((k, v) :: kvs) ((kD k, d) :: ds)
end

section
variable {K : K0} {B B' H : Hp}
mutual
theorem Rep.mono (l : Le B B') : ∀ {v : V} {d : D}, Rep K B v d → Rep K B' v d
  | _, _, .non => .non
  | _, _, .bl b => .bl b
  | _, _, .int i => .int i
  | _, _, .str x => .str x
  | _, _, .lst s r => .lst (l.sqL s) (RepAll.mono l r)
  | _, _, .tup s r p => .tup (l.sqT s) (RepAll.mono l r) (p.mono l)
  | _, _, .dic s r => .dic (l.rd s) (RepKV.mono l r)
  | _, _, .nd s r => .nd (l.rd s) (RepND.mono l r)
theorem RepND.mono (l : Le B B') : ∀ {xs : List (NestedKey × Addr × Value)} {ds : List (D × D)}, RepND K B xs ds → RepND K B' xs ds
  | _, _, .nil => .nil
  | _, _, .cons o k r e t => .cons o (Rep.mono l k) (Rep.mono l r) e (RepND.mono l t)
theorem RepAll.mono (l : Le B B') : ∀ {vs : List V} {ds : List D}, RepAll K B vs ds → RepAll K B' vs ds
  | _, _, .nil => .nil
  | _, _, .cons r t => .cons (Rep.mono l r) (RepAll.mono l t)
theorem RepKV.mono (l : Le B B') : ∀ {vs : List (Key × V)} {ds : List (D × D)}, RepKV K B vs ds → RepKV K B' vs ds
  | _, _, .nil => .nil
  | _, _, .cons r t => .cons (Rep.mono l r) (RepKV.mono l t)
end
theorem RepAll.length : ∀ {vs : List V} {ds : List D}, RepAll K B vs ds → vs.length = ds.length
  | _, _, .nil => rfl
  | _, _, .cons _ t => congrArg (· + 1) (RepAll.length t)
theorem RepAll.get : ∀ {vs : List V} {ds : List D} {i : Nat} {d : D}, RepAll K B vs ds → ds[i]? = some d → ∃ v, vs[i]? = some v ∧ Rep K B v d
  | _, _, _, _, .nil, e => by simp at e
  | _, _, 0, _, .cons r _, e => by simp at e; subst e; exact ⟨_, rfl, r⟩
  | _, _, i + 1, d, .cons _ t, e => by
    obtain ⟨v, h1, h2⟩ := RepAll.get (i := i) (d := d) t (by simpa using e)
    exact ⟨v, by simpa using h1, h2⟩
theorem RepAll.getV : ∀ {vs : List V} {ds : List D} {i : Nat} {v : V}, RepAll K B vs ds → vs[i]? = some v → ∃ d, ds[i]? = some d ∧ Rep K B v d
  | _, _, _, _, .nil, e => by simp at e
  | _, _, 0, _, .cons r _, e => by simp at e; subst e; exact ⟨_, rfl, r⟩
  | _, _, i + 1, d, .cons _ t, e => by
    obtain ⟨v, h1, h2⟩ := RepAll.getV (i := i) (v := d) t (by simpa using e)
    exact ⟨v, by simpa using h1, h2⟩
theorem RepAll.append : ∀ {vs ws : List V} {ds es : List D}, RepAll K B vs ds → RepAll K B ws es → RepAll K B (vs ++ ws) (ds ++ es)
  | _, _, _, _, .nil, s => s
  | _, _, _, _, .cons r t, s => .cons r (RepAll.append t s)
theorem RepAll.one {v : V} {d : D} (r : Rep K B v d) : RepAll K B [v] [d] := .cons r .nil
theorem RepAll.take : ∀ {vs : List V} {ds : List D} (n : Nat), RepAll K B vs ds → RepAll K B (vs.take n) (ds.take n)
  | _, _, 0, _ => .nil
  | _, _, _ + 1, .nil => .nil
  | _, _, n + 1, .cons r t => .cons r (RepAll.take n t)
theorem RepAll.drop : ∀ {vs : List V} {ds : List D} (n : Nat), RepAll K B vs ds → RepAll K B (vs.drop n) (ds.drop n)
  | _, _, 0, r => r
  | _, _, _ + 1, .nil => .nil
  | _, _, n + 1, .cons _ t => RepAll.drop n t
theorem RepAll.set {v : V} {d : D} (r : Rep K B v d) : ∀ {vs : List V} {ds : List D} (i : Nat), RepAll K B vs ds → RepAll K B (vs.set i v) (ds.set i d)
  | _, _, _, .nil => .nil
  | _, _, 0, .cons _ t => .cons r t
  | _, _, i + 1, .cons q t => .cons q (RepAll.set r i t)
theorem RepAll.reverse : ∀ {vs : List V} {ds : List D}, RepAll K B vs ds → RepAll K B vs.reverse ds.reverse
  | _, _, .nil => .nil
  | _, _, .cons r t => by
    rw [List.reverse_cons, List.reverse_cons]
    exact (RepAll.reverse t).append (.one r)
theorem RepAll.dropLast {vs : List V} {ds : List D} (r : RepAll K B vs ds) : RepAll K B vs.dropLast ds.dropLast := by
  rw [List.dropLast_eq_take, List.dropLast_eq_take, r.length]
  exact r.take _
theorem RepAll.rep {vs : List V} {ds : List D} (r : RepAll K B vs ds) : ∀ n : Nat, RepAll K B (List.replicate n vs).flatten (List.replicate n ds).flatten
  | 0 => .nil
  | n + 1 => by
    rw [List.replicate_succ, List.replicate_succ, List.flatten_cons, List.flatten_cons]
    exact r.append (RepAll.rep r n)
theorem RepAll.insertIdx : ∀ {vs : List V} {ds : List D} {v : V} {d : D} (i : Nat), RepAll K B vs ds → Rep K B v d → RepAll K B (vs.insertIdx i v) (ds.insertIdx i d)
  | _, _, _, _, 0, t, r => .cons r t
  | _, _, _, _, _ + 1, .nil, _ => .nil
  | _, _, _, _, i + 1, .cons q t, r => .cons q (RepAll.insertIdx i t r)
theorem RepAll.eraseIdx : ∀ {vs : List V} {ds : List D} (i : Nat), RepAll K B vs ds → RepAll K B (vs.eraseIdx i) (ds.eraseIdx i)
  | _, _, _, .nil => .nil
  | _, _, 0, .cons _ t => t
  | _, _, i + 1, .cons q t => .cons q (RepAll.eraseIdx i t)
theorem RepAll.ints {ns : List Int} : RepAll K B (ns.map V.int) (ns.map PyData.int) := by
  induction ns with
  | nil => exact .nil
  | cons n r ih => exact .cons (.int n) ih
theorem RepND.length : ∀ {xs : List (NestedKey × Addr × Value)} {ds : List (D × D)}, RepND K B xs ds → xs.length = ds.length
  | _, _, .nil => rfl
  | _, _, .cons _ _ _ _ t => congrArg (· + 1) (RepND.length t)
theorem RepKV.length : ∀ {vs : List (Key × V)} {ds : List (D × D)}, RepKV K B vs ds → vs.length = ds.length
  | _, _, .nil => rfl
  | _, _, .cons _ t => congrArg (· + 1) (RepKV.length t)
end

/-! ### what a frame owns -/
inductive O where
  /-- still: never changed from here on -/
  | fro (d : D)
  /-- an own list of still items, an own dict of still values, an own list of own things -/
  | lst (ds : List D)
  | dic (kvs : List (D × D))
  | lsts (os : List O)
  /-- a caught exception -/
  | raw (a : Addr)
  /-- an own dict keyed by tuples -/
  | nd (kvs : List (D × D))
  /-- an own thing that stands at an address; data beside such a thing -/
  | pin (a : Addr) (o : O)
  | io (d : D) (a : Addr) (o : O)
mutual
def O.frz : O → D
  | .fro d => d
  | .lst ds => .list ds
  | .dic kvs => .dict kvs
  | .lsts os => .list (O.frzs os)
  | .raw _ => .none
  | .nd kvs => .dict kvs
  | .pin _ o => O.frz o
  | .io d _ _ => d
def O.frzs : List O → List D
  | [] => []
  | o :: os => O.frz o :: O.frzs os
end
theorem O.frzs_map : ∀ os : List O, O.frzs os = os.map O.frz
  | [] => by rw [O.frzs]; rfl
  | o :: os => by rw [O.frzs, O.frzs_map os]; rfl
@[simp] theorem O.frz_fro (d : D) : O.frz (.fro d) = d := by rw [O.frz]
@[simp] theorem O.frz_lst (ds : List D) : O.frz (.lst ds) = .list ds := by rw [O.frz]
@[simp] theorem O.frz_dic (ds : List (D × D)) : O.frz (.dic ds) = .dict ds := by rw [O.frz]
@[simp] theorem O.frz_lsts (os : List O) : O.frz (.lsts os) = .list (os.map O.frz) := by rw [O.frz, O.frzs_map]
@[simp] theorem O.frz_nd (ds : List (D × D)) : O.frz (.nd ds) = .dict ds := by rw [O.frz]
@[simp] theorem O.frz_pin (a : Addr) (o : O) : O.frz (.pin a o) = o.frz := by rw [O.frz]
@[simp] theorem O.frz_io (d : D) (a : Addr) (o : O) : O.frz (.io d a o) = d := by rw [O.frz]

mutual
/-- v is the thing o; fp: the addresses that are owned -/
inductive Own (K : K0) (B H : Hp) : V → O → List Addr → Prop
  | fro {v : V} {d : D} : Rep K B v d → Own K B H v (.fro d) []
  | lst {a : Addr} {vs : List V} {ds : List D} : H a = some (.lst vs) → RepAll K B vs ds → Own K B H (.ref a) (.lst ds) [a]
  | dic {a : Addr} {kvs : List (Key × V)} {ds : List (D × D)} : H a = some (.dK kvs) → RepKV K B kvs ds → Own K B H (.ref a) (.dic ds) [a]
  | lsts {a : Addr} {vs : List V} {os : List O} {fp : List Addr} : H a = some (.lst vs) → OwnAll K B H vs os fp → Own K B H (.ref a) (.lsts os) (a :: fp)
  | nd {a : Addr} {xs : List (NestedKey × Addr × Value)} {ds : List (D × D)} : H a = some (ndHO a xs) → RepND K B xs ds → Own K B H (.ref a) (.nd ds) [a]
  | pin {a : Addr} {o : O} {fp : List Addr} : Own K B H (.ref a) o fp → Own K B H (.ref a) (.pin a o) fp
  | io {v : V} {d : D} {a : Addr} {o : O} {fp : List Addr} : Rep K B v d → Own K B H (.ref a) o fp → Own K B H v (.io d a o) fp
inductive OwnAll (K : K0) (B H : Hp) : List V → List O → List Addr → Prop
  | nil : OwnAll K B H [] [] []
  | cons {v : V} {vs : List V} {o : O} {os : List O} {f g : List Addr} : Own K B H v o f → OwnAll K B H vs os g → OwnAll K B H (v :: vs) (o :: os) (f ++ g)
end
section
variable {K : K0} {B B' H H' : Hp}
mutual
theorem Own.mono (l : Le B B') : ∀ {v : V} {o : O} {f : List Addr}, (∀ a ∈ f, H' a = H a) → Own K B H v o f → Own K B' H' v o f
  | _, _, _, _, .fro r => .fro (r.mono l)
  | _, _, _, k, .lst h r => .lst (by rw [k _ (by simp)]; exact h) (r.mono l)
  | _, _, _, k, .dic h r => .dic (by rw [k _ (by simp)]; exact h) (r.mono l)
  | _, _, _, k, .lsts h r => .lsts (by rw [k _ (by simp)]; exact h) (OwnAll.mono l (fun a m => k a (List.mem_cons_of_mem _ m)) r)
  | _, _, _, k, .nd h r => .nd (by rw [k _ (by simp)]; exact h) (r.mono l)
  | _, _, _, k, .pin r => .pin (Own.mono l k r)
  | _, _, _, k, .io e r => .io (e.mono l) (Own.mono l k r)
theorem OwnAll.mono (l : Le B B') : ∀ {vs : List V} {os : List O} {f : List Addr}, (∀ a ∈ f, H' a = H a) → OwnAll K B H vs os f → OwnAll K B' H' vs os f
  | _, _, _, _, .nil => .nil
  | _, _, _, k, .cons r t => .cons (Own.mono l (fun a m => k a (List.mem_append_left _ m)) r) (OwnAll.mono l (fun a m => k a (List.mem_append_right _ m)) t)
end
mutual
theorem Own.dom : ∀ {v : V} {o : O} {f : List Addr}, Own K B H v o f → ∀ a ∈ f, ∃ u, H a = some u
  | _, _, _, .fro r, a, m => by simp at m
  | _, _, _, .lst h r, a, m => by simp at m; subst m; exact ⟨_, h⟩
  | _, _, _, .dic h r, a, m => by simp at m; subst m; exact ⟨_, h⟩
  | _, _, _, .lsts h r, a, m => by
    rcases List.mem_cons.mp m with rfl | m
    · exact ⟨_, h⟩
    · exact OwnAll.dom r a m
  | _, _, _, .nd h r, a, m => by simp at m; subst m; exact ⟨_, h⟩
  | _, _, _, .pin r, a, m => Own.dom r a m
  | _, _, _, .io _ r, a, m => Own.dom r a m
theorem OwnAll.dom : ∀ {vs : List V} {os : List O} {f : List Addr}, OwnAll K B H vs os f → ∀ a ∈ f, ∃ u, H a = some u
  | _, _, _, .nil, a, m => by simp at m
  | _, _, _, .cons r t, a, m => by
    rcases List.mem_append.mp m with m | m
    · exact Own.dom r a m
    · exact OwnAll.dom t a m
end
mutual
/-- made still: what stood at its addresses stands in B' -/
theorem Own.freeze (l : Le B B') : ∀ {v : V} {o : O} {f : List Addr}, (∀ a ∈ f, ∀ u, H a = some u → B' a = some u) → Own K B H v o f → Rep K B' v o.frz
  | _, _, _, _, .fro r => by rw [O.frz_fro]; exact r.mono l
  | _, _, _, k, .lst h r => by rw [O.frz_lst]; exact .lst (.inl (.inl (k _ (by simp) _ h))) (r.mono l)
  | _, _, _, k, .dic h r => by rw [O.frz_dic]; exact .dic (.inl (k _ (by simp) _ h)) (r.mono l)
  | _, _, _, k, .lsts h r => by
    rw [O.frz_lsts]
    exact .lst (.inl (.inl (k _ (by simp) _ h))) (OwnAll.freeze l (fun a m => k a (List.mem_cons_of_mem _ m)) r)
  | _, _, _, k, .nd h r => by rw [O.frz_nd]; exact .nd (.inl (k _ (by simp) _ h)) (r.mono l)
  | _, _, _, k, .pin r => by rw [O.frz_pin]; exact Own.freeze l k r
  | _, _, _, k, .io e r => by rw [O.frz_io]; exact e.mono l
theorem OwnAll.freeze (l : Le B B') : ∀ {vs : List V} {os : List O} {f : List Addr}, (∀ a ∈ f, ∀ u, H a = some u → B' a = some u) → OwnAll K B H vs os f → RepAll K B' vs (os.map O.frz)
  | _, _, _, _, .nil => .nil
  | _, _, _, k, .cons r t => .cons (Own.freeze l (fun a m => k a (List.mem_append_left _ m)) r) (OwnAll.freeze l (fun a m => k a (List.mem_append_right _ m)) t)
end
/-- as it stands now, in the whole heap -/
theorem Own.rep (l : Le B H) {v : V} {o : O} {f : List Addr} (r : Own K B H v o f) : Rep K H v o.frz := r.freeze l fun _ _ _ h => h
theorem OwnAll.length : ∀ {vs : List V} {os : List O} {f : List Addr}, OwnAll K B H vs os f → vs.length = os.length
  | _, _, _, .nil => rfl
  | _, _, _, .cons _ t => congrArg (· + 1) (OwnAll.length t)
theorem OwnAll.get : ∀ {vs : List V} {os : List O} {f : List Addr} {i : Nat} {o : O}, OwnAll K B H vs os f → os[i]? = some o → ∃ v g, vs[i]? = some v ∧ Own K B H v o g ∧ g.Sublist f
  | _, _, _, _, _, .nil, e => by simp at e
  | _, _, _, 0, _, .cons r _, e => by simp at e; subst e; exact ⟨_, _, rfl, r, List.sublist_append_left _ _⟩
  | _, _, _, i + 1, o, .cons _ t, e => by
    obtain ⟨v, g, h1, h2, h3⟩ := OwnAll.get (i := i) (o := o) t (by simpa using e)
    exact ⟨v, g, by simpa using h1, h2, h3.trans (List.sublist_append_right _ _)⟩
theorem OwnAll.append : ∀ {vs ws : List V} {os ps : List O} {f g : List Addr}, OwnAll K B H vs os f → OwnAll K B H ws ps g → OwnAll K B H (vs ++ ws) (os ++ ps) (f ++ g)
  | _, _, _, _, _, _, .nil, s => s
  | _, _, _, _, _, _, .cons r t, s => by
    rw [List.append_assoc]
    exact .cons r (OwnAll.append t s)
end

/-! ### the frame -/
abbrev Env := List (Option O)
inductive OwnEnv (K : K0) (B H : Hp) : St → Env → List Addr → Prop
  | raw {a : Addr} {σ : St} {env : Env} {f : List Addr} : OwnEnv K B H σ env f → OwnEnv K B H (.some (.ref a) :: σ) (.some (.raw a) :: env) f
  | nil : OwnEnv K B H [] [] []
  | no {x : Option V} {σ : St} {env : Env} {f : List Addr} : OwnEnv K B H σ env f → OwnEnv K B H (x :: σ) (none :: env) f
  | some {v : V} {o : O} {σ : St} {env : Env} {f g : List Addr} : Own K B H v o f → OwnEnv K B H σ env g → OwnEnv K B H (some v :: σ) (some o :: env) (f ++ g)
section
variable {K : K0} {B B' H H' : Hp}
theorem OwnEnv.mono (l : Le B B') : ∀ {σ : St} {env : Env} {f : List Addr}, (∀ a ∈ f, H' a = H a) → OwnEnv K B H σ env f → OwnEnv K B' H' σ env f
  | _, _, _, _, .nil => .nil
  | _, _, _, k, .no t => .no (OwnEnv.mono l k t)
  | _, _, _, k, .raw t => .raw (OwnEnv.mono l k t)
  | _, _, _, k, .some r t => .some (r.mono l fun a m => k a (List.mem_append_left _ m)) (OwnEnv.mono l (fun a m => k a (List.mem_append_right _ m)) t)
theorem OwnEnv.dom : ∀ {σ : St} {env : Env} {f : List Addr}, OwnEnv K B H σ env f → ∀ a ∈ f, ∃ u, H a = .some u
  | _, _, _, .nil, a, m => by simp at m
  | _, _, _, .no t, a, m => OwnEnv.dom t a m
  | _, _, _, .raw t, a, m => OwnEnv.dom t a m
  | _, _, _, .some r t, a, m => by
    rcases List.mem_append.mp m with m | m
    · exact r.dom a m
    · exact OwnEnv.dom t a m
theorem OwnEnv.length : ∀ {σ : St} {env : Env} {f : List Addr}, OwnEnv K B H σ env f → σ.length = env.length
  | _, _, _, .nil => rfl
  | _, _, _, .no t => congrArg (· + 1) (OwnEnv.length t)
  | _, _, _, .raw t => congrArg (· + 1) (OwnEnv.length t)
  | _, _, _, .some _ t => congrArg (· + 1) (OwnEnv.length t)
theorem OwnEnv.get0 : ∀ {σ : St} {env : Env} {f : List Addr} {i : Nat} {o : O}, OwnEnv K B H σ env f → env[i]? = .some (.some o) → (∀ a, o ≠ .raw a) → ∃ v g, σ[i]? = .some (.some v) ∧ Own K B H v o g ∧ g.Sublist f
  | _, _, _, _, _, .nil, e, _ => by simp at e
  | _, _, _, 0, _, .no _, e, _ => by simp at e
  | _, _, _, 0, _, .raw _, e, hr => by simp at e; exact (hr _ e.symm).elim
  | _, _, _, i + 1, o, .no t, e, hr => by
    obtain ⟨v, g, h1, h2, h3⟩ := OwnEnv.get0 (i := i) (o := o) t (by simpa using e) hr
    exact ⟨v, g, by simpa using h1, h2, h3⟩
  | _, _, _, i + 1, o, .raw t, e, hr => by
    obtain ⟨v, g, h1, h2, h3⟩ := OwnEnv.get0 (i := i) (o := o) t (by simpa using e) hr
    exact ⟨v, g, by simpa using h1, h2, h3⟩
  | _, _, _, 0, _, .some r _, e, _ => by simp at e; subst e; exact ⟨_, _, rfl, r, List.sublist_append_left _ _⟩
  | _, _, _, i + 1, o, .some _ t, e, hr => by
    obtain ⟨v, g, h1, h2, h3⟩ := OwnEnv.get0 (i := i) (o := o) t (by simpa using e) hr
    exact ⟨v, g, by simpa using h1, h2, h3.trans (List.sublist_append_right _ _)⟩
theorem OwnEnv.get {σ : St} {env : Env} {f : List Addr} {i : Nat} {o : O} (x : OwnEnv K B H σ env f) (e : env[i]? = .some (.some o)) (hr : ∀ a, o ≠ .raw a := by intro _ h; cases h) : ∃ v g, σ[i]? = .some (.some v) ∧ Own K B H v o g ∧ g.Sublist f := x.get0 e hr
theorem OwnEnv.getRaw : ∀ {σ : St} {env : Env} {f : List Addr} {i : Nat} {a : Addr}, OwnEnv K B H σ env f → env[i]? = .some (.some (.raw a)) → σ[i]? = .some (.some (.ref a))
  | _, _, _, _, _, .nil, e => by simp at e
  | _, _, _, 0, _, .no _, e => by simp at e
  | _, _, _, 0, _, .raw _, e => by simp at e; subst e; rfl
  | _, _, _, 0, _, .some r _, e => by simp at e; subst e; cases r
  | _, _, _, i + 1, a, .no t, e => by
    have := OwnEnv.getRaw (i := i) (a := a) t (by simpa using e)
    simpa using this
  | _, _, _, i + 1, a, .raw t, e => by
    have := OwnEnv.getRaw (i := i) (a := a) t (by simpa using e)
    simpa using this
  | _, _, _, i + 1, a, .some _ t, e => by
    have := OwnEnv.getRaw (i := i) (a := a) t (by simpa using e)
    simpa using this
end
end DL

set_option Elab.async false
set_option linter.all false
set_option maxRecDepth 100000
set_option maxHeartbeats 1000000
/-! DL2: the judgements over data. -/
namespace DL
open PySem L2

/-- a result: still data, a thing just made, a look into an own thing -/
inductive R where
  | v (d : D) | t (o : O) | b (o : O)
/-- as data -/
def R.d : R → D
  | .v d => d
  | .t o => o.frz
  | .b o => o.frz
@[simp] theorem R.d_v (d : D) : (R.v d).d = d := rfl
@[simp] theorem R.d_t (o : O) : (R.t o).d = o.frz := rfl
@[simp] theorem R.d_b (o : O) : (R.b o).d = o.frz := rfl
/-- its items are still -/
def R.sh : R → Prop
  | .b (.lsts _) => False
  | .b (.pin _ _) => False
  | .b (.io _ _ _) => False
  | _ => True
@[simp] theorem R.sh_v (d : D) : (R.v d).sh = True := rfl
@[simp] theorem R.sh_t (o : O) : (R.t o).sh = True := rfl
@[simp] theorem R.sh_bf (o : D) : (R.b (.fro o)).sh = True := rfl
@[simp] theorem R.sh_bl (o : List D) : (R.b (.lst o)).sh = True := rfl
@[simp] theorem R.sh_bn (o : List (D × D)) : (R.b (.nd o)).sh = True := rfl
@[simp] theorem R.sh_bd (o : List (D × D)) : (R.b (.dic o)).sh = True := rfl
/-- it may be kept -/
def R.st : R → Prop
  | .b _ => False
  | _ => True
@[simp] theorem R.st_v (d : D) : (R.v d).st = True := rfl
@[simp] theorem R.st_t (o : O) : (R.t o).st = True := rfl

/-- from one heap to a later one: what stood stands, the still part has grown by new things alone -/
structure Ext (H B H' B' : Hp) : Prop where
  same : Le H H'
  le : Le B B'
  bh : Le B' H'
  new : ∀ a o, H a = some o → B a = none → B' a = none
theorem Ext.refl {H B : Hp} (h : Le B H) : Ext H B H B := ⟨.refl _, .refl _, h, fun _ _ _ n => n⟩
theorem Ext.trans {H B H1 B1 H2 B2 : Hp} (x : Ext H B H1 B1) (y : Ext H1 B1 H2 B2) : Ext H B H2 B2 :=
  ⟨x.same.trans y.same, x.le.trans y.le, y.bh, fun a o h n => y.new a o (x.same a o h) (x.new a o h n)⟩
/-- a new object, still from its birth -/
theorem Ext.put {H B : Hp} (h : Le B H) {p : Addr} (np : H p = none) (o : HO) : Ext H B (upd H p o) (upd B p o) where
  same := fun a u e => by rw [upd_ne (ne_of_none e np)]; exact e
  le := fun a u e => by rw [upd_ne (ne_of_none (h a u e) np)]; exact e
  bh := fun a u e => by
    by_cases q : a = p
    · subst q; rw [upd_same] at e ⊢; exact e
    · rw [upd_ne q] at e ⊢; exact h a u e
  new := fun a u e n => by rw [upd_ne (ne_of_none e np)]; exact n
/-- a new object, not still -/
theorem Ext.make {H B : Hp} (h : Le B H) {p : Addr} (np : H p = none) (o : HO) : Ext H B (upd H p o) B where
  same := fun a u e => by rw [upd_ne (ne_of_none e np)]; exact e
  le := .refl _
  bh := fun a u e => by rw [upd_ne (ne_of_none (h a u e) np)]; exact h a u e
  new := fun a u e n => n

/-- what a result is, behind a step from H; fp: what the frame owns -/
def VOk (K : K0) (H : Hp) (fp : List Addr) (B' H' : Hp) (v : V) : R → Prop
  | .v d => Rep K B' v d
  | .t o => ∃ f, Own K B' H' v o f ∧ f.Nodup ∧ ∀ a ∈ f, H a = none ∧ B' a = none
  | .b o => ∃ f, Own K B' H' v o f ∧ f.Sublist fp

/-- the frame: B what is still, G what others keep, fp what the frame owns -/
structure RR (K : K0) (G B : Hp) (env : Env) (fp : List Addr) (σ : St) (H : Hp) : Prop where
  bh : Le B H
  gh : Le G H
  gb : ∀ a o, G a = some o → B a = none
  own : OwnEnv K B H σ env fp
  nd : fp.Nodup
  fb : ∀ a ∈ fp, B a = none ∧ G a = none

section
variable {K : K0} {G B B' B1 B2 H H' H1 H2 : Hp} {env : Env} {fp : List Addr} {σ : St} {v : V} {r : R}
theorem RR.ext (x : RR K G B env fp σ H) (e : Ext H B H' B') : RR K G B' env fp σ H' where
  bh := e.bh
  gh := x.gh.trans e.same
  gb := fun a o h => e.new a o (x.gh a o h) (x.gb a o h)
  own := x.own.mono e.le fun a m => by
    obtain ⟨u, h⟩ := x.own.dom a m
    rw [h]; exact e.same a u h
  nd := x.nd
  fb := fun a m => by
    obtain ⟨u, h⟩ := x.own.dom a m
    exact ⟨e.new a u h (x.fb a m).1, (x.fb a m).2⟩

/-- the heap part that lies at some addresses, put to B -/
def addB (B H : Hp) (f : List Addr) : Hp := fun a => if a ∈ f then H a else B a
theorem addB_in {f : List Addr} {a : Addr} (m : a ∈ f) : addB B H f a = H a := by unfold addB; rw [if_pos m]
theorem addB_out {f : List Addr} {a : Addr} (m : a ∉ f) : addB B H f a = B a := by unfold addB; rw [if_neg m]
theorem addB_le (f : List Addr) (l : Le B H) : Le B (addB B H f) := fun a o h => by
  by_cases m : a ∈ f
  · rw [addB_in m]; exact l a o h
  · rw [addB_out m]; exact h
theorem addB_bh (f : List Addr) (l : Le B H) : Le (addB B H f) H := fun a o h => by
  by_cases m : a ∈ f
  · rw [addB_in m] at h; exact h
  · rw [addB_out m] at h; exact l a o h

/-- the keys of a dict are flat -/
def flK (ds : List (D × D)) : Prop := ∀ p ∈ ds, flatD p.1 = true
/-- a result as data that may be read now and later: its items are still, itself stands in the heap -/
inductive RV (K : K0) (B H : Hp) : V → D → Prop
  | rep {v : V} {d : D} : Rep K B v d → RV K B H v d
  | lst {a : Addr} {vs : List V} {ds : List D} : H a = some (.lst vs) → RepAll K B vs ds → RV K B H (.ref a) (.list ds)
  | dic {a : Addr} {kvs : List (Key × V)} {ds : List (D × D)} : H a = some (.dK kvs) → RepKV K B kvs ds → RV K B H (.ref a) (.dict ds)
  | nd {a : Addr} {xs : List (NestedKey × Addr × Value)} {ds : List (D × D)} : H a = some (ndHO a xs) → RepND K B xs ds → RV K B H (.ref a) (.dict ds)
theorem RV.mono {d : D} (x : RV K B H v d) (l : Le B B') (s : Le H H') : RV K B' H' v d := by
  cases x with
  | rep r => exact .rep (r.mono l)
  | lst h r => exact .lst (s _ _ h) (r.mono l)
  | dic h r => exact .dic (s _ _ h) (r.mono l)
  | nd h r => exact .nd (s _ _ h) (r.mono l)
theorem RV.ext {d : D} (x : RV K B H v d) (e : Ext H B H' B') : RV K B' H' v d := x.mono e.le e.same
theorem RV.toH {d : D} (x : RV K B H v d) (l : Le B H) : Rep K H v d := by
  cases x with
  | rep r => exact r.mono l
  | lst h r => exact .lst (.inl (.inl h)) (r.mono l)
  | dic h r => exact .dic (.inl h) (r.mono l)
  | nd h r => exact .nd (.inl h) (r.mono l)
theorem RV.list {ds : List D} (x : RV K B H v (.list ds)) (l : Le B H) : ∃ a vs, v = .ref a ∧ SqL K H a vs ∧ RepAll K B vs ds := by
  cases x with
  | rep r => cases r with | lst s r => exact ⟨_, _, rfl, l.sqL s, r⟩
  | lst h r => exact ⟨_, _, rfl, .inl (.inl h), r⟩
theorem RV.tup {ds : List D} (x : RV K B H v (.tuple ds)) (l : Le B H) : ∃ a vs, v = .ref a ∧ SqT K H a vs ∧ RepAll K B vs ds := by
  cases x with
  | rep r => cases r with | tup s r p => exact ⟨_, _, rfl, l.sqT s, r⟩
/-- a dict of nested keys, all of them flat, is empty -/
theorem RepND.flat {xs : List (NestedKey × Addr × Value)} {ds : List (D × D)} (r : RepND K B xs ds) (h : flK ds) : xs = [] ∧ ds = [] := by
  cases r with
  | nil => exact ⟨rfl, rfl⟩
  | cons o rk rv e t =>
    obtain ⟨⟨ks, q⟩, _⟩ := o
    have := h _ List.mem_cons_self
    subst q
    simp [NestedKey.data, flatD] at this
theorem RV.dict {ds : List (D × D)} (x : RV K B H v (.dict ds)) (l : Le B H) (fl : flK ds) : ∃ a kvs, v = .ref a ∧ Rd H a (.dK kvs) ∧ RepKV K B kvs ds := by
  cases x with
  | rep r =>
    cases r with
    | dic s r => exact ⟨_, _, rfl, l.rd s, r⟩
    | nd s r => obtain ⟨rfl, rfl⟩ := r.flat fl; exact ⟨_, _, rfl, l.rd s, .nil⟩
  | dic h r => exact ⟨_, _, rfl, .inl h, r⟩
  | nd s r => obtain ⟨rfl, rfl⟩ := r.flat fl; exact ⟨_, _, rfl, .inl s, .nil⟩
theorem RV.dict_or {ds : List (D × D)} (x : RV K B H v (.dict ds)) (l : Le B H) : (∃ a kvs, v = .ref a ∧ Rd H a (.dK kvs) ∧ RepKV K B kvs ds) ∨ ∃ a xs, v = .ref a ∧ Rd H a (ndHO a xs) ∧ RepND K B xs ds := by
  cases x with
  | rep r =>
    cases r with
    | dic s r => exact .inl ⟨_, _, rfl, l.rd s, r⟩
    | nd s r => exact .inr ⟨_, _, rfl, l.rd s, r⟩
  | dic h r => exact .inl ⟨_, _, rfl, .inl h, r⟩
  | nd s r => exact .inr ⟨_, _, rfl, .inl s, r⟩
theorem RV.int {i : Int} (x : RV K B H v (.int i)) : v = .int i := by cases x with | rep r => cases r; rfl
theorem RV.str {i : Str} (x : RV K B H v (.str i)) : v = .str i := by cases x with | rep r => cases r; rfl
theorem RV.bool {i : Bool} (x : RV K B H v (.bool i)) : v = .bl i := by cases x with | rep r => cases r; rfl
theorem RV.none (x : RV K B H v .none) : v = .non := by cases x with | rep r => cases r; rfl

/-- a thing just made is let be still -/
theorem still {o : O} {f : List Addr} (e : Ext H B H' B') (x : Own K B' H' v o f) (hf : ∀ a ∈ f, H a = .none ∧ B' a = .none) :
    Ext H B H' (addB B' H' f) ∧ Le B' (addB B' H' f) ∧ Rep K (addB B' H' f) v o.frz := by
  refine ⟨⟨e.same, e.le.trans (addB_le f e.bh), addB_bh f e.bh, fun a u h n => ?_⟩, addB_le f e.bh, x.freeze (addB_le f e.bh) fun a m u h => by rw [addB_in m]; exact h⟩
  have na : a ∉ f := fun m => by rw [(hf a m).1] at h; cases h
  rw [addB_out na]
  exact e.new a u h n

/-- a result to be read -/
theorem VOk.view (e : Ext H B H' B') (x : VOk K H fp B' H' v r) (s : r.sh) : ∃ B2, Ext H B H' B2 ∧ Le B' B2 ∧ RV K B2 H' v r.d := by
  cases r with
  | v d => exact ⟨B', e, .refl _, .rep x⟩
  | t o =>
    obtain ⟨f, x, nd, hf⟩ := x
    obtain ⟨h1, h2, h3⟩ := still e x hf
    exact ⟨_, h1, h2, .rep h3⟩
  | b o =>
    obtain ⟨f, x, hs⟩ := x
    refine ⟨B', e, .refl _, ?_⟩
    cases o with
    | fro d => cases x with | fro r => show RV K B' H' v (O.frz (.fro d)); rw [O.frz_fro]; exact .rep r
    | lst ds => cases x with | lst h r => show RV K B' H' _ (O.frz (.lst ds)); rw [O.frz_lst]; exact .lst h r
    | dic ds => cases x with | dic h r => show RV K B' H' _ (O.frz (.dic ds)); rw [O.frz_dic]; exact .dic h r
    | lsts os => exact s.elim
    | raw _ => cases x
    | nd ds => cases x with | nd h r => show RV K B' H' _ (O.frz (.nd ds)); rw [O.frz_nd]; exact .nd h r
    | pin a o => exact s.elim
    | io d a o => exact s.elim
/-- a result to be kept -/
theorem VOk.keep (e : Ext H B H' B') (x : VOk K H fp B' H' v r) (s : r.st) : ∃ B2, Ext H B H' B2 ∧ Le B' B2 ∧ Rep K B2 v r.d := by
  cases r with
  | v d => exact ⟨B', e, .refl _, x⟩
  | t o =>
    obtain ⟨f, x, nd, hf⟩ := x
    obtain ⟨h1, h2, h3⟩ := still e x hf
    exact ⟨_, h1, h2, h3⟩
  | b o => exact s.elim
/-- a result as it stands in the whole heap -/
theorem VOk.now (e : Ext H B H' B') (x : VOk K H fp B' H' v r) : Rep K H' v r.d := by
  cases r with
  | v d => exact x.mono e.bh
  | t o => obtain ⟨f, x, _⟩ := x; exact x.rep e.bh
  | b o => obtain ⟨f, x, _⟩ := x; exact x.rep e.bh
theorem VOk.back (e : Ext H B H1 B1) (x : VOk K H1 fp B' H' v r) : VOk K H fp B' H' v r := by
  cases r with
  | v d => exact x
  | t o =>
    obtain ⟨f, x, nd, hf⟩ := x
    exact ⟨f, x, nd, fun a m => ⟨e.same.none (hf a m).1, (hf a m).2⟩⟩
  | b o => exact x
end

/-! ### readings over data -/
abbrev WE := Env → (R → Prop) → (Str → Prop) → Prop
abbrev WT := Env → (Bool → Prop) → (Str → Prop) → Prop
abbrev WA := Env → (List R → Prop) → (Str → Prop) → Prop
structure En where
  nx : Env → Prop
  rt : R → Prop
  bk : Env → Prop
  ct : Env → Prop
  ex : Str → Env → Prop
abbrev WS := En → Env → Prop

/-- the wish about exceptions: E of the class's name -/
def XOk (mg : Str → Option Value) (W : WX) (H : Hp) (σ : St) (E : Str → Prop) : Prop :=
  ∀ n cls H', E n → mg n = some cls → Le H H' → W cls none σ H'
theorem XOk.later {mg : Str → Option Value} {W : WX} {H H1 : Hp} {σ : St} {E : Str → Prop} (x : XOk mg W H σ E) (l : Le H H1) : XOk mg W H1 σ E :=
  fun n cls H' e m s => x n cls H' e m (l.trans s)

/-- how what follows takes a result -/
def QOk (K : K0) (B H : Hp) (fp : List Addr) (Q : R → Prop) (QV : VK) : Prop :=
  ∀ v H' B' r, Ext H B H' B' → VOk K H fp B' H' v r → Q r → QV v H'
theorem QOk.later {K : K0} {B H B1 H1 : Hp} {fp : List Addr} {Q : R → Prop} {QV : VK} (q : QOk K B H fp Q QV) (e : Ext H B H1 B1) : QOk K B1 H1 fp Q QV :=
  fun v H' B' r e' x h => q v H' B' r (e.trans e') (x.back e) h

section
variable (X : Cx) (W : WX) (G : Hp)
def tD (m : WE) : TE := fun σ H QV => ∃ B env fp Q E, RR X.K G B env fp σ H ∧ m env Q E ∧ QOk X.K B H fp Q QV ∧ XOk X.mg W H σ E
def tDT (m : WT) : TT := fun σ H QV => ∃ B env fp Q E, RR X.K G B env fp σ H ∧ m env Q E ∧ (∀ b H' B', Ext H B H' B' → Q b → QV b H') ∧ XOk X.mg W H σ E
/-- several results, each kept or looked at: what they are in the end -/
inductive VAll (K : K0) (B' H' : Hp) : List V → List R → Prop
  | nil : VAll K B' H' [] []
  | st {v : V} {r : R} {vs : List V} {rs : List R} : r.st → Rep K B' v r.d → VAll K B' H' vs rs → VAll K B' H' (v :: vs) (r :: rs)
  | lk {v : V} {o : O} {f : List Addr} {vs : List V} {rs : List R} : Own K B' H' v o f → VAll K B' H' vs rs → VAll K B' H' (v :: vs) (.b o :: rs)
def tDA (m : WA) : TA := fun σ H QV => ∃ B env fp Q E, RR X.K G B env fp σ H ∧ m env Q E ∧ (∀ vs H' B' rs, Ext H B H' B' → VAll X.K B' H' vs rs → Q rs → QV vs H') ∧ XOk X.mg W H σ E
/-- the links of a statement's ends -/
structure SOk (B : Hp) (d : En) (D : Ends) (σ₀ : St) : Prop where
  nx : ∀ σ H B' env fp, Le B B' → RR X.K G B' env fp σ H → d.nx env → D.nx σ H
  bk : ∀ σ H B' env fp, Le B B' → RR X.K G B' env fp σ H → d.bk env → D.bk σ H
  ct : ∀ σ H B' env fp, Le B B' → RR X.K G B' env fp σ H → d.ct env → D.ct σ H
  rt : ∀ v H B' r (f : List Addr), Le B B' → Le B' H → Le G H → (∀ a o, G a = some o → B' a = none) → (∀ a ∈ f, B' a = none ∧ G a = none) → f.Nodup →
    (match r with | .v d => Rep X.K B' v d | .t o => Own X.K B' H v o f | .b _ => False) → d.rt r → D.rt v H
  ex : ∀ n cls σ H B' env fp, Le B B' → RR X.K G B' env fp σ H → d.ex n env → X.mg n = some cls → W cls .none σ H
def tDS (m : WS) : TS := fun D σ H => ∃ B env fp d, RR X.K G B env fp σ H ∧ m d env ∧ SOk X W G B d D σ
def DE (e : Expr) (m : WE) : Prop := PE X e (tD X W G m)
def DT (e : Expr) (m : WT) : Prop := PT X e (tDT X W G m)
def DA (es : List Expr) (m : WA) : Prop := PA X es (tDA X W G m)
def DS (st : Stmt) (m : WS) : Prop := PS X st (tDS X W G m)
def DSs (st : List Stmt) (m : WS) : Prop := PSs X st (tDS X W G m)
end

section
variable {X : Cx} {e : Expr} {es : List Expr} {st : Stmt} {sts : List Stmt}
theorem PEi {t t' : TE} (h : PE X e t) (f : ∀ σ H Q, t' σ H Q → t σ H Q) : PE X e t' := ⟨fun pins s σ H Q I w => h.run pins s σ H Q I (f σ H Q w)⟩
theorem PTi {t t' : TT} (h : PT X e t) (f : ∀ σ H Q, t' σ H Q → t σ H Q) : PT X e t' := ⟨fun pins s σ H Q I w => h.run pins s σ H Q I (f σ H Q w)⟩
theorem PWi {t t' : TT} (h : PW X e t) (f : ∀ σ H Q, t' σ H Q → t σ H Q) : PW X e t' := ⟨fun wh pins s σ H Q I w => h.run wh pins s σ H Q I (f σ H Q w)⟩
theorem PAi {t t' : TA} (h : PA X es t) (f : ∀ σ H Q, t' σ H Q → t σ H Q) : PA X es t' := ⟨fun p pins s σ H Q I w => h.run p pins s σ H Q I (f σ H Q w)⟩
theorem PSi {t t' : TS} (h : PS X st t) (f : ∀ D σ H, t' D σ H → t D σ H) : PS X st t' := ⟨fun pins s σ H D I w => h.run pins s σ H D I (f D σ H w)⟩
theorem PSsi {t t' : TS} (h : PSs X sts t) (f : ∀ D σ H, t' D σ H → t D σ H) : PSs X sts t' := ⟨fun pins s σ H D I w => h.run pins s σ H D I (f D σ H w)⟩
end
end DL

set_option Elab.async false
set_option linter.all false
set_option maxRecDepth 100000
set_option maxHeartbeats 1000000
/-! DLT: tuples made, their objects known: no dict of their own. -/
namespace DL
open PySem L2 PyProof.Rows
section
variable {X : Cx} {es : List Expr} {pos : Pos}
/-- what follows a new tuple -/
abbrev NewT (H : Hp) (xs : List V) (Q : VK) : Prop := ∀ p o, H p = none → Obj.dict o = none → Q (.ref p) (upd H p (.frz o (.tup xs)))
theorem newT {pins : List (Addr × Obj)} {σ : L2.St} {H : Hp} {s : Shared} (I : Inv X pins σ H s) {xs : List V} {its : List Value} {Q : VK} (z : xs.length ≤ sizeLine) (r : Vals xs its) (q : NewT H xs Q) {t' : Nat} :
    ∃ x H', Inv X pins σ H' { s with heap := s.heap.push { cls := .type "tuple", data := .seq its.toArray }, toks := t' } ∧ RelV x (.ref s.heap.objs.size) ∧ Q x H' :=
  ⟨.ref s.heap.objs.size, _, I.laid (t' := t') (o := .frz { cls := .type "tuple", data := .seq its.toArray } (.tup xs)) (fun b u e => Heap.get?_push_of_some _ e) (Nat.le_refl _) ⟨Heap.get?_push_size _ rfl, z, its, r, IsTup.new _ _⟩, rfl, q _ _ (I.hok.fresh (Nat.le_refl _)) rfl⟩
def tTupP (t : TA) : TE := fun σ H Q => t σ H fun xs H1 => xs.length ≤ sizeLine ∧ NewT H1 xs Q
theorem pe_tupP {t : TA} {x1} (h : PA X es t) : PE X (.Tuple es x1 pos) (tTupP t) := by
  refine ⟨fun pins s σ H Q I hq => ?_⟩
  refine wpAny_Tuple_spliced (thn (h.run pos pins s σ H _ I hq) fun us s1 ⟨xs, H1, I1, r, z, q⟩ => ⟨by rw [← r.length]; exact z, ?_⟩)
  exact newT I1 z r q
theorem call_tuple_ofP : CallR X (.type "tuple") (fun xs H Q => ∃ p ys, xs = [.ref p] ∧ ((SqL X.K H p ys ∧ NewT H ys Q) ∨ (SqT X.K H p ys ∧ Q (.ref p) H))) := by
  intro pins s σ H xs us Q I r h
  obtain ⟨p, ys, rfl, h⟩ := h
  obtain ⟨u, rfl, rx⟩ := vals1 r
  cases rx
  rcases h with ⟨hq, q⟩ | ⟨hq, q⟩
  · obtain ⟨its, r', pl, hz⟩ := I.list hq
    have hlen := r'.length
    refine call_tuple_list pl.isList (fun h' kp => ?_) (by simp only [List.size_toArray] <;> omega)
    have I1 : Inv X pins σ H { s with heap := h' } := I.kept (t' := s.toks) kp
    exact newT I1 hz r' q
  · obtain ⟨its, r', pl, hz⟩ := I.tuple hq
    exact call_tuple_same pl ⟨.ref p, H, I, rfl, q⟩
def rSlP (K : PySem.W.Frag) : V → Option Int → Option Int → Hp → VK → Prop := fun x lo hi H Q => ∃ a xs, x = .ref a ∧ SqT K H a xs ∧
  (HT.sIx xs.length 0 lo = 0 ∧ HT.sIx xs.length xs.length hi = xs.length → Q (.ref a) H) ∧ (¬ (HT.sIx xs.length 0 lo = 0 ∧ HT.sIx xs.length xs.length hi = xs.length) → NewT H (cutV xs lo hi) Q)
theorem sl_tupP : SlR X (rSlP X.K) := by
  intro pins s σ H x v vl vu lo hi sl Q I rx hs pl pu h
  obtain ⟨a, xs, rfl, hx, q1, q2⟩ := h
  cases rx
  obtain ⟨its, r, ht, hz⟩ := I.tuple hx
  have hlen : its.toArray.size = xs.length := by rw [List.size_toArray]; exact r.length.symm
  refine ⟨"tuple", _, PyProof.Rows.slot_tuple_getitem.lookup, ht.typeIs, ?_⟩
  by_cases hw : HT.sIx xs.length 0 lo = 0 ∧ HT.sIx xs.length xs.length hi = xs.length
  · exact getItem_tuple_whole ht hs pl pu (by rw [hlen]; exact hw) ⟨.ref a, H, I, rfl, q1 hw⟩
  · refine HT.getItem_tuple_cut ht hs pl pu (by rw [hlen]; exact hw) ?_ (by rw [hlen]; exact hz)
    rw [hlen]
    exact newT I (t' := s.toks) (Nat.le_trans (cutV_length xs lo hi) hz) ((r.drop (HT.sIx xs.length 0 lo)).take (HT.sIx xs.length xs.length hi - HT.sIx xs.length 0 lo)) (q2 hw)
def rCatP (K : PySem.W.Frag) : R2 := fun x y H Q => ∃ a b xs ys, x = .ref a ∧ y = .ref b ∧ SqT K H a xs ∧ SqT K H b ys ∧ xs.length + ys.length ≤ sizeLine ∧
  (xs = [] → Q (.ref b) H) ∧ (xs ≠ [] → ys = [] → Q (.ref a) H) ∧ (xs ≠ [] → ys ≠ [] → NewT H (xs ++ ys) Q)
theorem op_catP : OpR X (binaryOp .Add) (rCatP X.K) := by
  intro pins s σ H x y v u Q I rx ry h
  obtain ⟨a, b, xs, ys, rfl, rfl, ha, hb, hz, q0, q1, q2⟩ := h
  cases rx
  cases ry
  obtain ⟨its, r1, p1, _⟩ := I.tuple ha
  obtain ⟨its2, r2, p2, _⟩ := I.tuple hb
  by_cases hx : xs = []
  · subst hx
    cases r1
    exact cat_tup0 p1 p2 ⟨.ref b, H, I, rfl, q0 rfl⟩
  · refine HT.cat_tup p1 p2 (fun z => hx (r1.nil_iff.mp z)) (fun z => ⟨.ref a, H, I, rfl, q1 hx (r2.nil_iff.mp z)⟩) (fun z => ?_) (by rw [← r1.length, ← r2.length]; exact hz)
    exact newT I (t' := s.toks) (by rw [List.length_append]; exact hz) (r1.append r2) (q2 hx fun w => z (r2.nil_iff.mpr w))
theorem call_divmodP : CallR X (.builtin "divmod") (fun xs H Q => ∃ i j, xs = [.int i, .int j] ∧ CDivP i j ∧ NewT H [.int (i / j), .int (i % j)] Q) := by
  intro pins s σ H xs us Q I r h
  obtain ⟨i, j, rfl, ⟨h1, h2⟩, q⟩ := h
  obtain ⟨u, w', rfl, ⟨t, rfl⟩, ⟨t', rfl⟩⟩ := vals2 r
  refine divmod_int (by omega) ?_ (.inl h2)
  rw [Int.fdiv_eq_ediv_of_nonneg i (by omega), Int.fmod_eq_emod_of_nonneg i (by omega)]
  exact newT (xs := [.int (i / j), .int (i % j)]) (its := [.int (i / j) s.toks, .int (i % j) (s.toks + 1)]) I (by simp only [List.length_cons, List.length_nil]; rw [sizeLine_eq]; decide) (.cons ⟨_, rfl⟩ (.cons ⟨_, rfl⟩ .nil)) q
end
/-- a new still tuple -/
theorem newT_rep {K : K0} {B H : Hp} {p : Addr} {o : Obj} {vs : List V} {ds : List D} (l : Le B H) (np : H p = none) (ho : o.dict = none) (t : RepAll K B vs ds) : Rep K (upd B p (.frz o (.tup vs))) (.ref p) (.tuple ds) :=
  .tup (.inl (.inr ⟨o, upd_same⟩)) (t.mono (Ext.put l np (HO.frz o (.tup vs))).le) (.inl ⟨o, _, upd_same, ho⟩)
end DL

set_option Elab.async false
set_option linter.all false
set_option maxRecDepth 100000
set_option maxHeartbeats 1000000
/-! DL3: expressions over data: names, constants, operators, comparisons, tests. -/
namespace DL
open PySem L2 PyProof.Rows

/-! ### names, constants -/
def wVar (i : Nat) : WE := fun env Q _ => match env[i]? with
  | some (some (.fro d)) => Q (.v d)
  | some (some (.raw _)) => False
  | some (some (.pin _ o)) => Q (.b o)
  | some (some (.io _ _ _)) => False
  | some (some o) => Q (.b o)
  | _ => False
def wC (d : D) : WE := fun _ Q _ => Q (.v d)
/-- flat data -/
def vD : D → Option V
  | .none => some .non
  | .bool b => some (.bl b)
  | .int i => some (.int i)
  | .str x => some (.str x)
  | _ => none
theorem vD_rep {K : K0} {B : Hp} {d : D} {v : V} (h : vD d = some v) : Rep K B v d := by
  cases d <;> simp [vD] at h <;> subst h
  · exact .non
  · exact .bl _
  · exact .int _
  · exact .str _
section
variable {X : Cx} {W : WX} {G : Hp} {e a b c : Expr} {m ma mb mc : WE}
theorem de_var (i : Nat) (h : PE X e (tVar i)) : DE X W G e (wVar i) := by
  refine PEi h fun σ H QV ⟨B, env, fp, Q, E, rr, hm, hq, _⟩ => ?_
  unfold wVar at hm
  split at hm
  · rename_i d he
    obtain ⟨v, g, h1, h2, h3⟩ := rr.own.get he
    cases h2 with
    | fro r => exact ⟨v, h1, hq v H B (.v d) (.refl rr.bh) r hm⟩
  · exact hm.elim
  · rename_i a o he
    obtain ⟨v, g, h1, h2, h3⟩ := rr.own.get he
    cases h2 with
    | pin h2 => exact ⟨_, h1, hq _ H B (.b o) (.refl rr.bh) ⟨g, h2, h3⟩ hm⟩
  · exact hm.elim
  · rename_i o _ hr _ _ he
    obtain ⟨v, g, h1, h2, h3⟩ := rr.own.get he fun a q => hr a q
    exact ⟨v, h1, hq v H B (.b o) (.refl rr.bh) ⟨g, h2, h3⟩ hm⟩
  · exact hm.elim
theorem de_c {d : D} {v : V} (h : PE X e (tC v)) (hv : vD d = some v) : DE X W G e (wC d) :=
  PEi h fun σ H QV ⟨B, env, fp, Q, E, rr, hm, hq, _⟩ => hq v H B (.v d) (.refl rr.bh) (vD_rep hv) hm

/-! ### two values -/
/-- a reading of a two-place operation on data -/
abbrev Op2 := D → D → (R → Prop) → Prop
def r2 (K : K0) (f : Op2) : R2 := fun x y H QV => ∃ B fp dx dy Q, Le B H ∧ RV K B H x dx ∧ RV K B H y dy ∧ f dx dy Q ∧ QOk K B H fp Q QV
def w2 (f : Op2) (ta tb : WE) : WE := fun env Q E => ta env (fun x => tb env (fun y => x.sh ∧ y.sh ∧ f x.d y.d Q) E) E
theorem two {K : K0} {ta tb : TE} {f : Op2} {r : R2} (ha : ∀ σ H QV, tD X W G ma σ H QV → ta σ H QV) (hb : ∀ σ H QV, tD X W G mb σ H QV → tb σ H QV)
    (hr : ∀ x y H QV, r2 X.K f x y H QV → r x y H QV) : ∀ σ H QV, tD X W G (w2 f ma mb) σ H QV → tOp r ta tb σ H QV := by
  rintro σ H QV ⟨B, env, fp, Q, E, rr, hm, hq, hx⟩
  refine ha σ H _ ⟨B, env, fp, _, E, rr, hm, fun v1 H1 B1 r1 e1 o1 q1 => ?_, hx⟩
  -- the first may be no value to look into: then the second way is never asked
  refine hb σ H1 _ ?_
  by_cases s1 : r1.sh
  · obtain ⟨B2, e2, l2, rv1⟩ := o1.view e1 s1
    refine ⟨B2, env, fp, _, E, rr.ext e2, q1, fun v2 H3 B3 r2 e3 o2 q2 => ?_, hx.later e1.same⟩
    obtain ⟨_, s2, hf⟩ := q2
    obtain ⟨B4, e4, l4, rv2⟩ := o2.view e3 s2
    exact hr _ _ _ _ ⟨B4, fp, _, _, Q, e4.bh, rv1.ext e4, rv2, hf, hq.later (e2.trans e4)⟩
  · refine ⟨B1, env, fp, _, E, rr.ext e1, q1, fun v2 H3 B3 r2 e3 o2 q2 => ?_, hx.later e1.same⟩
    exact (s1 q2.1).elim
theorem de_2 {f : Op2} {op : Operator} {pos : Pos} (ho : OpR X (binaryOp op) (r2 X.K f)) (ha : DE X W G a ma) (hb : DE X W G b mb) : DE X W G (.BinOp a op b pos) (w2 f ma mb) :=
  PEi (pe_op ho ha hb) (two (K := X.K) (fun _ _ _ h => h) (fun _ _ _ h => h) fun _ _ _ _ h => h)

def bAdd : Op2
  | .int i, .int j, Q => Q (.v (.int (i + j)))
  | .str i, .str j, Q => i.length + j.length ≤ sizeLine ∧ Q (.v (.str (i ++ j)))
  | .list i, .list j, Q => i.length + j.length ≤ sizeLine ∧ Q (.t (.lst (i ++ j)))
  | .tuple i, .tuple j, Q => i.length + j.length ≤ sizeLine ∧ Q (.v (.tuple (i ++ j)))
  | _, _, _ => False
def bI (C : Int → Int → Prop) (g : Int → Int → Int) : Op2
  | .int i, .int j, Q => C i j ∧ Q (.v (.int (g i j)))
  | _, _, _ => False
@[simp] theorem bI_int (C : Int → Int → Prop) (g : Int → Int → Int) (i j : Int) (Q : R → Prop) : bI C g (.int i) (.int j) Q = (C i j ∧ Q (.v (.int (g i j)))) := rfl
abbrev CT : Int → Int → Prop := fun _ _ => True
theorem bI_inv {C : Int → Int → Prop} {g : Int → Int → Int} {dx dy : D} {Q : R → Prop} (h : bI C g dx dy Q) : ∃ i j, dx = .int i ∧ dy = .int j ∧ C i j ∧ Q (.v (.int (g i j))) := by
  cases dx <;> cases dy <;> first | exact h.elim | exact ⟨_, _, rfl, rfl, h⟩
theorem opIr {f : Value → Value → Sem Value} {C : Int → Int → Prop} {g : Int → Int → Int} (h : OpR X f (rI C fun i j => .int (g i j))) : OpR X f (r2 X.K (bI C g)) := by
  intro pins s σ H x y v u Q I rx ry ⟨B, fp, dx, dy, Q', l, hx, hy, hf, hq⟩
  obtain ⟨i, j, rfl, rfl, hc, hf⟩ := bI_inv hf
  exact h pins s σ H x y v u Q I rx ry ⟨i, j, hx.int, hy.int, hc, hq _ H B (.v _) (.refl l) (.int _) hf⟩
theorem opIr0 {f : Value → Value → Sem Value} {g : Int → Int → Int} (h : OpR X f (rI0 fun i j => .int (g i j))) : OpR X f (r2 X.K (bI CT g)) := by
  intro pins s σ H x y v u Q I rx ry ⟨B, fp, dx, dy, Q', l, hx, hy, hf, hq⟩
  obtain ⟨i, j, rfl, rfl, hc, hf⟩ := bI_inv hf
  exact h pins s σ H x y v u Q I rx ry ⟨i, j, hx.int, hy.int, hq _ H B (.v _) (.refl l) (.int _) hf⟩
def CMulG (i j : Int) : Prop := IntMulOk i j
theorem op_mulG : OpR X (binaryOp .Mult) (rI CMulG fun i j => .int (i * j)) := opI fun _ _ _ _ _ _ _ hc q => mul_int q hc
abbrev wSub := w2 (bI CT fun i j => i - j)
abbrev wMul := w2 (bI CMulG fun i j => i * j)
abbrev wDiv := w2 (bI CDivW fun i j => i / j)
abbrev wMod := w2 (bI (fun _ j => 0 < j) fun i j => i % j)
abbrev wPow := w2 (bI CPow fun i j => i ^ j.toNat)
abbrev wShl := w2 (bI CPow fun i j => i * 2 ^ j.toNat)
abbrev wShr := w2 (bI (fun _ j => 0 ≤ j) fun i j => i / 2 ^ j.toNat)
abbrev wAnd := w2 (bI CT fun i j => Builtin.bitAnd i j)
abbrev wOr := w2 (bI CT fun i j => Builtin.bitOr i j)
abbrev wXor := w2 (bI CT fun i j => Builtin.bitXor i j)
abbrev wAdd := w2 bAdd
theorem de_sub {pos} (ha : DE X W G a ma) (hb : DE X W G b mb) : DE X W G (.BinOp a .Sub b pos) (wSub ma mb) := de_2 (opIr0 op_sub) ha hb
theorem de_mul {pos} (ha : DE X W G a ma) (hb : DE X W G b mb) : DE X W G (.BinOp a .Mult b pos) (wMul ma mb) := de_2 (opIr op_mulG) ha hb
theorem de_div {pos} (ha : DE X W G a ma) (hb : DE X W G b mb) : DE X W G (.BinOp a .FloorDiv b pos) (wDiv ma mb) := de_2 (opIr op_fdivW) ha hb
theorem de_mod {pos} (ha : DE X W G a ma) (hb : DE X W G b mb) : DE X W G (.BinOp a .Mod b pos) (wMod ma mb) := de_2 (opIr op_mod) ha hb
theorem de_pow {pos} (ha : DE X W G a ma) (hb : DE X W G b mb) : DE X W G (.BinOp a .Pow b pos) (wPow ma mb) := de_2 (opIr op_pow) ha hb
theorem de_shl {pos} (ha : DE X W G a ma) (hb : DE X W G b mb) : DE X W G (.BinOp a .LShift b pos) (wShl ma mb) := de_2 (opIr op_shl) ha hb
theorem de_shr {pos} (ha : DE X W G a ma) (hb : DE X W G b mb) : DE X W G (.BinOp a .RShift b pos) (wShr ma mb) := de_2 (opIr op_shr) ha hb
theorem de_and {pos} (ha : DE X W G a ma) (hb : DE X W G b mb) : DE X W G (.BinOp a .BitAnd b pos) (wAnd ma mb) := de_2 (opIr0 op_and) ha hb
theorem de_or {pos} (ha : DE X W G a ma) (hb : DE X W G b mb) : DE X W G (.BinOp a .BitOr b pos) (wOr ma mb) := de_2 (opIr0 op_or) ha hb
theorem de_xor {pos} (ha : DE X W G a ma) (hb : DE X W G b mb) : DE X W G (.BinOp a .BitXor b pos) (wXor ma mb) := de_2 (opIr0 op_xor) ha hb

/-- a list, raw: whatever its slots -/
theorem op_catS : OpR X (binaryOp .Add) (fun x y H Q => ∃ l b xs zs, x = .ref l ∧ y = .ref b ∧ SqL X.K H l xs ∧ SqL X.K H b zs ∧ xs.length + zs.length ≤ sizeLine ∧ ∀ p, H p = none → Q (.ref p) (upd H p (.lst (xs ++ zs)))) := by
  intro pins s σ H x y v u Q I rx ry ⟨l, b, xs, zs, ex, ey, h1, h2, hz, q⟩
  subst ex ey
  cases rx
  cases ry
  obtain ⟨its, r, ⟨o, n, e, c, dd, ed⟩, z1⟩ := I.list h1
  obtain ⟨its2, r2, ⟨o2, n2, e2, c2, dd2, ed2⟩, z2⟩ := I.list h2
  obtain ⟨c0, d0, da, sl⟩ := o
  obtain ⟨c0', d0', da', sl'⟩ := o2
  simp only at c dd ed c2 dd2 ed2
  subst c dd ed c2 dd2 ed2
  have hl := r.length
  have hl2 := r2.length
  have ea : its.toArray ++ its2.toArray = (its ++ its2).toArray := by simp
  refine concat_meets ⟨_, e, rfl⟩ ⟨_, e2, rfl⟩ noFill_list_add seq_list_add F.slot_list_add F.entry_list_add (F.args_list_add_2 _ _)
    (list_addW l b its.toArray its2.toArray n n2 none none sl sl' (by rw [List.size_toArray, List.size_toArray]; omega)) ⟨e, e2, ?_⟩
  rw [ea]
  exact ⟨.ref _, _, I.lnew (t' := s.toks) (r.append r2) (by rw [List.length_append]; omega), rfl, q _ I.fresh⟩
theorem RV.tupRep {K : K0} {B H : Hp} {v : V} {ds : List D} (x : RV K B H v (.tuple ds)) : Rep K B v (.tuple ds) := by cases x with | rep r => exact r
theorem opAdd : OpR X (binaryOp .Add) (r2 X.K bAdd) := by
  intro pins s σ H x y v u Q I rx ry ⟨B, fp, dx, dy, Q', l, hx, hy, hf, hq⟩
  cases dx <;> cases dy <;> first
    | exact (show False from hf).elim
    | skip
  · exact op_add pins s σ H x y v u Q I rx ry ⟨_, _, hx.int, hy.int, hq _ H B (.v _) (.refl l) (.int _) hf⟩
  · exact op_add_str pins s σ H x y v u Q I rx ry ⟨_, _, hx.str, hy.str, hf.1, hq _ H B (.v _) (.refl l) (.str _) hf.2⟩
  · obtain ⟨a1, v1, e1, s1, t1⟩ := hx.list l
    obtain ⟨a2, v2, e2, s2, t2⟩ := hy.list l
    refine op_catS pins s σ H x y v u Q I rx ry ⟨_, _, _, _, e1, e2, s1, s2, by rw [t1.length, t2.length]; exact hf.1, fun p np => ?_⟩
    refine hq _ _ B (.t _) (.make l np _) ⟨[p], .lst upd_same (t1.append t2), by simp, fun a m => ?_⟩ hf.2
    simp at m; subst m
    exact ⟨np, l.none np⟩
  · obtain ⟨a1, v1, e1, s1, t1⟩ := hx.tup l
    obtain ⟨a2, v2, e2, s2, t2⟩ := hy.tup l
    have ry' := RV.tupRep hy
    have rx' := RV.tupRep hx
    refine op_catP pins s σ H x y v u Q I rx ry ⟨_, _, _, _, e1, e2, s1, s2, by rw [t1.length, t2.length]; exact hf.1, fun z => ?_, fun z z2 => ?_, fun _ _ p o np ho => ?_⟩
    · subst z; cases t1
      rw [e2] at ry'
      exact hq _ H B (.v _) (.refl l) ry' hf.2
    · subst z2; cases t2
      rw [e1] at rx'
      have hf2 := hf.2
      rw [List.append_nil] at hf2
      exact hq _ H B (.v _) (.refl l) rx' hf2
    · exact hq _ _ (upd B p _) (.v _) (.put l np _) (newT_rep l np ho (t1.append t2)) hf.2
end
end DL

set_option Elab.async false
set_option linter.all false
set_option maxRecDepth 100000
set_option maxHeartbeats 1000000
/-! DL4: comparisons and tests over data. -/
namespace DL
open PySem L2 PyProof.Rows

/-! ### keys of dicts -/
def keyD : D → Option Key
  | .int i => some (.inl i)
  | .str x => some (.inr x)
  | _ => none
theorem keyD_kD (k : Key) : keyD (kD k) = some k := by cases k <;> rfl
theorem kD_of {d : D} {k : Key} (h : keyD d = some k) : d = kD k := by
  cases d <;> simp [keyD] at h <;> subst h <;> rfl
def lookK (kvs : List (D × D)) (k : Key) : Option D := (kvs.find? fun p => decide (keyD p.1 = some k)).map (·.2)
theorem lookK_cons (p : D × D) (r : List (D × D)) (k : Key) : lookK (p :: r) k = if keyD p.1 = some k then some p.2 else lookK r k := by
  unfold lookK
  rw [List.find?_cons]
  by_cases h : keyD p.1 = some k
  · rw [if_pos h, decide_eq_true h]; rfl
  · rw [if_neg h, decide_eq_false h]
@[simp] theorem lookK_nil (k : Key) : lookK [] k = none := rfl
theorem flK_nil : flK [] := fun p m => absurd m List.not_mem_nil
theorem flK_cons {p : D × D} {ds : List (D × D)} (h : flatD p.1 = true) (t : flK ds) : flK (p :: ds) := fun q m => by
  rcases List.mem_cons.mp m with rfl | m
  · exact h
  · exact t q m
theorem flK_app {ds es : List (D × D)} (h : flK ds) (t : flK es) : flK (ds ++ es) := fun q m => by
  rcases List.mem_append.mp m with m | m
  · exact h q m
  · exact t q m
theorem flK_map {α : Type} {xs : List α} {f : α → D × D} (h : ∀ x, flatD (f x).1 = true) : flK (xs.map f) := fun q m => by
  obtain ⟨x, _, rfl⟩ := List.mem_map.mp m
  exact h x
theorem flat_kD (k : Key) : flatD (kD k) = true := by cases k <;> rfl
theorem RepKV.flK {K : K0} {B : Hp} : ∀ {kvs : List (Key × V)} {ds : List (D × D)}, RepKV K B kvs ds → flK ds
  | _, _, .nil => flK_nil
  | _, _, .cons r t => flK_cons (flat_kD _) (RepKV.flK t)
theorem RepND.look0 {K : K0} {B : Hp} {k : Key} : ∀ {kvs : List (NestedKey × Addr × Value)} {ds : List (D × D)}, RepND K B kvs ds → lookK ds k = none
  | _, _, .nil => rfl
  | _, _, .cons (k := j) o rk r e t => by
    rw [lookK_cons, if_neg, RepND.look0 t]
    obtain ⟨⟨ks, rfl⟩, _⟩ := o
    simp [NestedKey.data, keyD]
theorem RepKV.look {K : K0} {B : Hp} {k : Key} : ∀ {kvs : List (Key × V)} {ds : List (D × D)}, RepKV K B kvs ds →
    (valV kvs k = none ∧ lookK ds k = none) ∨ ∃ v d, valV kvs k = some v ∧ lookK ds k = some d ∧ Rep K B v d
  | _, _, .nil => .inl ⟨rfl, rfl⟩
  | _, _, .cons (k := j) r t => by
    rw [lookK_cons, keyD_kD]
    by_cases h : j = k
    · subst h
      rw [if_pos rfl, valV_pos rfl]
      exact .inr ⟨_, _, rfl, rfl, r⟩
    · rw [if_neg (fun q => h (Option.some.inj q)), valV_neg h]
      exact RepKV.look t
theorem RepKV.has {K : K0} {B : Hp} {k : Key} {kvs : List (Key × V)} {ds : List (D × D)} (r : RepKV K B kvs ds) : (valV kvs k).isSome = (lookK ds k).isSome := by
  rcases r.look (k := k) with ⟨a, b⟩ | ⟨v, d, a, b, _⟩
  · rw [a, b]; rfl
  · rw [a, b]; rfl
theorem kV_rep {K : K0} {B : Hp} {k : Key} {v : V} (r : Rep K B v (kD k)) : v = kV k := by
  cases k <;> cases r <;> rfl
theorem Rep.dict_inv {K : K0} {B : Hp} {v : V} {ds : List (D × D)} (r : Rep K B v (.dict ds)) (fl : flK ds) : ∃ a kvs, v = .ref a ∧ Rd B a (.dK kvs) ∧ RepKV K B kvs ds := by
  cases r with
  | dic s r => exact ⟨_, _, rfl, s, r⟩
  | nd s r => obtain ⟨rfl, rfl⟩ := r.flat fl; exact ⟨_, _, rfl, s, .nil⟩
theorem Rep.list_inv {K : K0} {B : Hp} {v : V} {ds : List D} (r : Rep K B v (.list ds)) : ∃ a vs, v = .ref a ∧ SqL K B a vs ∧ RepAll K B vs ds := by
  cases r with | lst s r => exact ⟨_, _, rfl, s, r⟩
theorem Rep.tup_inv {K : K0} {B : Hp} {v : V} {ds : List D} (r : Rep K B v (.tuple ds)) : ∃ a vs, v = .ref a ∧ SqT K B a vs ∧ RepAll K B vs ds := by
  cases r with | tup s r p => exact ⟨_, _, rfl, s, r⟩
theorem Rep.tup_p {K : K0} {B : Hp} {a : Addr} {ds : List D} (r : Rep K B (.ref a) (.tuple ds)) : TupP B a ds := by
  cases r with | tup s r p => exact p
theorem Rep.int_inv {K : K0} {B : Hp} {v : V} {i : Int} (r : Rep K B v (.int i)) : v = .int i := by cases r; rfl
theorem Rep.str_inv {K : K0} {B : Hp} {v : V} {i : Str} (r : Rep K B v (.str i)) : v = .str i := by cases r; rfl
theorem Rep.bool_inv {K : K0} {B : Hp} {v : V} {i : Bool} (r : Rep K B v (.bool i)) : v = .bl i := by cases r; rfl
theorem Rep.none_inv {K : K0} {B : Hp} {v : V} (r : Rep K B v .none) : v = .non := by cases r; rfl

mutual
theorem Rep.dp {K : K0} {H : Hp} : ∀ {v : V} {d : D}, d.canLay0 = true → Rep K H v d → Dp K H v d
  | _, _, _, .non => .non
  | _, _, _, .bl b => .bl b
  | _, _, _, .int i => .int i
  | _, _, _, .str x => .str x
  | _, _, h, .lst s r => .lst s (RepAll.dp (by simpa [PyData.canLay0] using h) r)
  | _, _, h, .tup s r _ => .tup s (RepAll.dp (by simpa [PyData.canLay0] using h) r)
  | _, _, h, .dic s r => by simp [PyData.canLay0] at h
  | _, _, h, .nd s r => by simp [PyData.canLay0] at h
theorem RepAll.dp {K : K0} {H : Hp} : ∀ {vs : List V} {ds : List D}, PyData.canLayAll0 ds = true → RepAll K H vs ds → DpAll K H vs ds
  | _, _, _, .nil => .nil
  | _, _, h, .cons r t => by
    simp only [PyData.canLayAll0, Bool.and_eq_true] at h
    exact .cons (Rep.dp h.1 r) (RepAll.dp h.2 t)
end

/-! ### comparisons on data -/
abbrev Op2B := D → D → (Bool → Prop) → Prop
/-- which pairs == is asked of -/
def okEq : D → D → Prop
  | .int _, .int _ => True
  | .str _, .str _ => True
  | .bool _, .bool _ => True
  | .none, .none => True
  | .none, .int _ => True
  | .int _, .none => True
  | .none, .str _ => True
  | .str _, .none => True
  | .str _, .int _ => True
  | .int _, .str _ => True
  | .none, .bool _ => True
  | .bool _, .none => True
  | x, y => SeqAt.shaped x = true ∧ SeqAt.shaped y = true
def cEq : Op2B := fun x y Q => okEq x y ∧ Q (PyData.eqv x y)
def cNe : Op2B := fun x y Q => okEq x y ∧ Q (!PyData.eqv x y)
@[simp] theorem eqv_int (i j : Int) : PyData.eqv (.int i) (.int j) = decide (i = j) := by rw [show PyData.eqv (.int i) (.int j) = (i == j) from by simp only [PyData.eqv], Bool.beq_eq_decide_eq]
@[simp] theorem eqv_str (i j : Str) : PyData.eqv (.str i) (.str j) = decide (i = j) := by rw [show PyData.eqv (.str i) (.str j) = (i == j) from by simp only [PyData.eqv], Bool.beq_eq_decide_eq]
@[simp] theorem eqv_bool (i j : Bool) : PyData.eqv (.bool i) (.bool j) = decide (i = j) := by rw [show PyData.eqv (.bool i) (.bool j) = (i == j) from by simp only [PyData.eqv], Bool.beq_eq_decide_eq]
@[simp] theorem eqv_none : PyData.eqv .none .none = true := by simp [PyData.eqv]
@[simp] theorem okEq_int (i j : Int) : okEq (.int i) (.int j) = True := rfl
@[simp] theorem okEq_str (i j : Str) : okEq (.str i) (.str j) = True := rfl
@[simp] theorem okEq_bool (i j : Bool) : okEq (.bool i) (.bool j) = True := rfl

def rc2 (K : K0) (f : Op2B) : R2 := fun x y H QV => ∃ B dx dy Q, Le B H ∧ Rep K H x dx ∧ Rep K H y dy ∧ f dx dy Q ∧ ∀ b, Q b → QV (.bl b) H
def c2 (f : Op2B) (ta tb : WE) : WT := fun env Q E => ta env (fun x => tb env (fun y => f x.d y.d Q) E) E
/-- a test's answer as a value -/
def wtv (t : WT) : WE := fun env Q E => t env (fun b => Q (.v (.bool b))) E

section
variable {X : Cx} {W : WX} {G : Hp} {e a b c : Expr} {m ma mb mc : WE} {t t1 t2 : WT}
theorem opEqD (hu : X.A.units + 64 < cLine) : OpR X (compareOp .Eq) (rc2 X.K cEq) := by
  intro pins s σ H x y v u Q I rx ry ⟨B, dx, dy, Q', l, hx, hy, ⟨hok, hf⟩, hq⟩
  have viaD : SeqAt.shaped dx = true → SeqAt.shaped dy = true → _ := fun s1 s2 =>
    op_eqD hu pins s σ H x y v u Q I rx ry ⟨dx, dy, hx.dp (by simp [SeqAt.shaped] at s1; exact s1.1), hy.dp (by simp [SeqAt.shaped] at s2; exact s2.1), s1, s2, hq _ hf⟩
  have viaS : ∀ k, scal x y = true → decide (x = y) = k → k = PyData.eqv dx dy → _ := fun k h1 h2 h3 =>
    op_eq pins s σ H x y v u Q I rx ry ⟨h1, by rw [h2, h3]; exact hq _ hf⟩
  cases dx <;> cases dy <;> first
    | exact viaD hok.1 hok.2
    | (cases hx; cases hy; refine viaS _ rfl rfl ?_; first | (simp; done) | (simp [PyData.eqv]; done))
theorem opNeD (hu : X.A.units + 64 < cLine) : OpR X (compareOp .NotEq) (rc2 X.K cNe) := by
  intro pins s σ H x y v u Q I rx ry ⟨B, dx, dy, Q', l, hx, hy, ⟨hok, hf⟩, hq⟩
  have viaD : SeqAt.shaped dx = true → SeqAt.shaped dy = true → _ := fun s1 s2 =>
    op_neD hu pins s σ H x y v u Q I rx ry ⟨dx, dy, hx.dp (by simp [SeqAt.shaped] at s1; exact s1.1), hy.dp (by simp [SeqAt.shaped] at s2; exact s2.1), s1, s2, hq _ hf⟩
  have viaS : ∀ k, scal x y = true → decide (x = y) = k → k = PyData.eqv dx dy → _ := fun k h1 h2 h3 =>
    op_ne pins s σ H x y v u Q I rx ry ⟨h1, by rw [h2, h3]; exact hq _ hf⟩
  cases dx <;> cases dy <;> first
    | exact viaD hok.1 hok.2
    | (cases hx; cases hy; refine viaS _ rfl rfl ?_; first | (simp; done) | (simp [PyData.eqv]; done))
def cI (p : Int → Int → Bool) (q : Str → Str → Bool) (r : List Int → List Int → Bool) : Op2B
  | .int i, .int j, Q => Q (p i j)
  | .str i, .str j, Q => Q (q i j)
  | .tuple xs, .tuple ys, Q => ∃ ns ms, xs = ns.map PyData.int ∧ ys = ms.map PyData.int ∧ Q (r ns ms)
  | _, _, _ => False
abbrev cLt := cI (fun i j => decide (i < j)) (fun i j => decide (i.cps.toList < j.cps.toList)) HT.lexLt
abbrev noT : List Int → List Int → Bool := fun _ _ => false
def cI0 (p : Int → Int → Bool) (q : Str → Str → Bool) : Op2B
  | .int i, .int j, Q => Q (p i j)
  | .str i, .str j, Q => Q (q i j)
  | _, _, _ => False
abbrev cLe := cI0 (fun i j => decide (i ≤ j)) (fun i j => !decide (j.cps.toList < i.cps.toList))
abbrev cGt := cI0 (fun i j => decide (j < i)) (fun i j => decide (j.cps.toList < i.cps.toList))
abbrev cGe := cI0 (fun i j => decide (j ≤ i)) (fun i j => !decide (i.cps.toList < j.cps.toList))
theorem RepAll.intsV {K : K0} {B : Hp} : ∀ {ns : List Int} {vs : List V}, RepAll K B vs (ns.map PyData.int) → vs = ns.map V.int
  | [], _, .nil => rfl
  | n :: ns, _, .cons r t => by rw [r.int_inv, RepAll.intsV t]; rfl
theorem opLtD (hu : X.A.units < cLine) : OpR X (compareOp .Lt) (rc2 X.K cLt) := by
  intro pins s σ H x y v u Q I rx ry ⟨B, dx, dy, Q', l, hx, hy, hf, hq⟩
  cases dx <;> cases dy <;> first
    | exact (show False from hf).elim
    | skip
  · exact op_lt pins s σ H x y v u Q I rx ry ⟨_, _, hx.int_inv, hy.int_inv, hq _ hf⟩
  · exact op_lt_str pins s σ H x y v u Q I rx ry ⟨_, _, hx.str_inv, hy.str_inv, hq _ hf⟩
  · obtain ⟨ns, ms, e1, e2, hf⟩ := hf
    subst e1 e2
    obtain ⟨a1, v1, q1, s1, t1⟩ := hx.tup_inv
    obtain ⟨a2, v2, q2, s2, t2⟩ := hy.tup_inv
    have z1 := t1.intsV
    have z2 := t2.intsV
    subst z1 z2
    exact op_ltT hu pins s σ H x y v u Q I rx ry ⟨_, _, ns, ms, q1, q2, s1, s2, hq _ hf⟩
theorem opLeD : OpR X (compareOp .LtE) (rc2 X.K cLe) := by
  intro pins s σ H x y v u Q I rx ry ⟨B, dx, dy, Q', l, hx, hy, hf, hq⟩
  cases dx <;> cases dy <;> first
    | exact (show False from hf).elim
    | exact op_le pins s σ H x y v u Q I rx ry ⟨_, _, hx.int_inv, hy.int_inv, hq _ hf⟩
    | exact op_le_str pins s σ H x y v u Q I rx ry ⟨_, _, hx.str_inv, hy.str_inv, hq _ hf⟩
theorem opGtD : OpR X (compareOp .Gt) (rc2 X.K cGt) := by
  intro pins s σ H x y v u Q I rx ry ⟨B, dx, dy, Q', l, hx, hy, hf, hq⟩
  cases dx <;> cases dy <;> first
    | exact (show False from hf).elim
    | exact op_gt pins s σ H x y v u Q I rx ry ⟨_, _, hx.int_inv, hy.int_inv, hq _ hf⟩
    | exact op_gt_str pins s σ H x y v u Q I rx ry ⟨_, _, hx.str_inv, hy.str_inv, hq _ hf⟩
theorem opGeD : OpR X (compareOp .GtE) (rc2 X.K cGe) := by
  intro pins s σ H x y v u Q I rx ry ⟨B, dx, dy, Q', l, hx, hy, hf, hq⟩
  cases dx <;> cases dy <;> first
    | exact (show False from hf).elim
    | exact op_ge pins s σ H x y v u Q I rx ry ⟨_, _, hx.int_inv, hy.int_inv, hq _ hf⟩
    | exact op_ge_str pins s σ H x y v u Q I rx ry ⟨_, _, hx.str_inv, hy.str_inv, hq _ hf⟩
/-- is None, is not None -/
def isN : D → Bool
  | .none => true
  | _ => false
def cIs : Op2B := fun x y Q => match y with
  | .none => Q (isN x)
  | _ => False
def cIsNot : Op2B := fun x y Q => match y with
  | .none => Q (!isN x)
  | _ => False
theorem opIsD : OpR X (compareOp .Is) (rc2 X.K cIs) := by
  intro pins s σ H x y v u Q I rx ry ⟨B, dx, dy, Q', l, hx, hy, hf, hq⟩
  cases dy <;> first
    | exact (show False from hf).elim
    | skip
  refine op_isN pins s σ H x y v u Q I rx ry ⟨hy.none_inv, ?_⟩
  have : decide (x = .non) = isN dx := by cases dx <;> cases hx <;> simp [isN]
  rw [this]
  exact hq _ hf
theorem opIsNotD : OpR X (compareOp .IsNot) (rc2 X.K cIsNot) := by
  intro pins s σ H x y v u Q I rx ry ⟨B, dx, dy, Q', l, hx, hy, hf, hq⟩
  cases dy <;> first
    | exact (show False from hf).elim
    | skip
  refine op_notN pins s σ H x y v u Q I rx ry ⟨hy.none_inv, ?_⟩
  have : (!decide (x = .non)) = !isN dx := by cases dx <;> cases hx <;> simp [isN]
  rw [this]
  exact hq _ hf
/-- in: a flat thing in a list or tuple of flat things; a text in a text; a key in a dict -/
def memD (x : D) (ys : List D) : Bool := ys.any fun y => PyData.eqv y x
def cIn (neg : Bool) : Op2B := fun x y Q => match y with
  | .list ys => flatD x = true ∧ ys.all flatD = true ∧ Q (neg != memD x ys)
  | .tuple ys => flatD x = true ∧ ys.all flatD = true ∧ Q (neg != memD x ys)
  | .dict kvs => flK kvs ∧ ∃ k, keyD x = some k ∧ Q (neg != (lookK kvs k).isSome)
  | .str j => match x with
    | .str i => Q (neg != !(Builtin.Str.occurrences j i 0 j.length 1).isEmpty)
    | _ => False
  | _ => False
theorem flatV_of {K : K0} {B : Hp} {v : V} {d : D} (r : Rep K B v d) (h : flatD d = true) : flatV v = true := by
  cases r <;> first | rfl | (simp [flatD] at h)
theorem flatAll_of {K : K0} {B : Hp} : ∀ {vs : List V} {ds : List D}, RepAll K B vs ds → ds.all flatD = true → vs.all flatV = true
  | _, _, .nil, _ => rfl
  | _, _, .cons r t, h => by
    rw [List.all_cons, Bool.and_eq_true] at h ⊢
    exact ⟨flatV_of r h.1, flatAll_of t h.2⟩
theorem eqV_of {K : K0} {B : Hp} {v w : V} {d e : D} (r : Rep K B v d) (q : Rep K B w e) (h : flatD d = true) (g : flatD e = true) : eqV v w = PyData.eqv d e := by
  cases r <;> cases q <;> first | (simp [eqV, PyData.eqv]; done) | (simp [flatD] at h; done) | (simp [flatD] at g; done)
theorem inV_of {K : K0} {B : Hp} {w : V} {e : D} (q : Rep K B w e) (g : flatD e = true) : ∀ {vs : List V} {ds : List D}, RepAll K B vs ds → ds.all flatD = true → inV w vs = memD e ds
  | _, _, .nil, _ => rfl
  | _, _, .cons r t, h => by
    rw [List.all_cons, Bool.and_eq_true] at h
    unfold inV memD
    rw [List.any_cons, List.any_cons, eqV_of r q h.1 g]
    exact congrArg _ (inV_of q g t h.2)
theorem opInD (hu : X.A.units + 1 < cLine) : OpR X (compareOp .In) (rc2 X.K (cIn false)) := by
  intro pins s σ H x y v u Q I rx ry ⟨B, dx, dy, Q', l, hx, hy, hf, hq⟩
  cases dy with
  | list ys =>
    obtain ⟨f1, f2, hf⟩ := hf
    obtain ⟨a1, v1, q1, s1, t1⟩ := hy.list_inv
    refine op_in_seq pins s σ H x y v u Q I rx ry ⟨a1, v1, q1, .inl s1, flatV_of hx f1, flatAll_of t1 f2, ?_⟩
    rw [if_neg (by decide), inV_of hx f1 t1 f2]
    simpa using hq _ hf
  | tuple ys =>
    obtain ⟨f1, f2, hf⟩ := hf
    obtain ⟨a1, v1, q1, s1, t1⟩ := hy.tup_inv
    refine op_in_seq pins s σ H x y v u Q I rx ry ⟨a1, v1, q1, .inr s1, flatV_of hx f1, flatAll_of t1 f2, ?_⟩
    rw [if_neg (by decide), inV_of hx f1 t1 f2]
    simpa using hq _ hf
  | dict kvs =>
    obtain ⟨fl, k, hk, hf⟩ := hf
    obtain ⟨a1, v1, q1, s1, t1⟩ := hy.dict_inv fl
    subst q1
    cases ry
    have e1 := kD_of hk
    subst e1
    have e2 := kV_rep hx
    subst e2
    refine d_in hu I (.inl ⟨v1, k, s1, rfl, rfl⟩) rx fun s' I' => ?_
    rw [t1.has]
    exact ⟨.bl _, H, I', rfl, by simpa using hq _ hf⟩
  | str j =>
    cases dx <;> first | exact (show False from hf).elim | skip
    refine op_in_str pins s σ H x y v u Q I rx ry ⟨_, _, hx.str_inv, hy.str_inv, ?_⟩
    simpa using hq _ hf
  | _ => exact (show False from hf).elim
theorem opNotInD (hu : X.A.units + 1 < cLine) : OpR X (compareOp .NotIn) (rc2 X.K (cIn true)) := by
  intro pins s σ H x y v u Q I rx ry ⟨B, dx, dy, Q', l, hx, hy, hf, hq⟩
  cases dy with
  | list ys =>
    obtain ⟨f1, f2, hf⟩ := hf
    obtain ⟨a1, v1, q1, s1, t1⟩ := hy.list_inv
    refine op_notIn_seq pins s σ H x y v u Q I rx ry ⟨a1, v1, q1, .inl s1, flatV_of hx f1, flatAll_of t1 f2, ?_⟩
    rw [if_pos rfl, inV_of hx f1 t1 f2]
    simpa using hq _ hf
  | tuple ys =>
    obtain ⟨f1, f2, hf⟩ := hf
    obtain ⟨a1, v1, q1, s1, t1⟩ := hy.tup_inv
    refine op_notIn_seq pins s σ H x y v u Q I rx ry ⟨a1, v1, q1, .inr s1, flatV_of hx f1, flatAll_of t1 f2, ?_⟩
    rw [if_pos rfl, inV_of hx f1 t1 f2]
    simpa using hq _ hf
  | dict kvs =>
    obtain ⟨fl, k, hk, hf⟩ := hf
    obtain ⟨a1, v1, q1, s1, t1⟩ := hy.dict_inv fl
    subst q1
    cases ry
    have e1 := kD_of hk
    subst e1
    have e2 := kV_rep hx
    subst e2
    refine d_notIn hu I (.inl ⟨v1, k, s1, rfl, rfl⟩) rx fun s' I' => ?_
    rw [t1.has]
    exact ⟨.bl _, H, I', rfl, by simpa using hq _ hf⟩
  | str j =>
    cases dx <;> first | exact (show False from hf).elim | skip
    refine op_notIn_str pins s σ H x y v u Q I rx ry ⟨_, _, hx.str_inv, hy.str_inv, ?_⟩
    simpa using hq _ hf
  | _ => exact (show False from hf).elim

/-! ### the judgements -/
theorem twoB {ta tb : TE} {f : Op2B} {r : R2} (ha : ∀ σ H QV, tD X W G ma σ H QV → ta σ H QV) (hb : ∀ σ H QV, tD X W G mb σ H QV → tb σ H QV)
    (hr : ∀ x y H QV, rc2 X.K f x y H QV → r x y H QV) {σ : L2.St} {H : Hp} {QV : VK} {QB : Bool → Hp → Prop} (h : tDT X W G (c2 f ma mb) σ H QB) (hQ : ∀ b H', QB b H' → QV (.bl b) H') : tOp r ta tb σ H QV := by
  obtain ⟨B, env, fp, Q, E, rr, hm, hq, hx⟩ := h
  refine ha σ H _ ⟨B, env, fp, _, E, rr, hm, fun v1 H1 B1 r1 e1 o1 q1 => ?_, hx⟩
  refine hb σ H1 _ ⟨B1, env, fp, _, E, rr.ext e1, q1, fun v2 H3 B3 r2 e3 o2 q2 => ?_, hx.later e1.same⟩
  exact hr _ _ _ _ ⟨B3, _, _, Q, e3.bh, (o1.now e1).mono e3.same, o2.now e3, q2, fun b qb => hQ _ _ (hq b H3 B3 (e1.trans e3) qb)⟩
theorem dt_cmp {f : Op2B} {op : CmpOp} {pos : Pos} (ho : OpR X (compareOp op) (rc2 X.K f)) (ha : DE X W G a ma) (hb : DE X W G b mb) (hm : behindInMarks op b = false) : DT X W G (.Compare a [op] [b] pos) (c2 f ma mb) :=
  PTi (pt_cmpR ho ha hb hm) fun σ H QB h => twoB (f := f) (r := rc2 X.K f) (ta := tD X W G ma) (tb := tD X W G mb) (fun _ _ _ h => h) (fun _ _ _ h => h) (fun _ _ _ _ h => h) h fun b H' q => ⟨b, rfl, q⟩
theorem tD_wtv {σ : L2.St} {H : Hp} {QV : VK} (h : tD X W G (wtv t) σ H QV) : tDT X W G t σ H (fun b H' => QV (.bl b) H') := by
  obtain ⟨B, env, fp, Q, E, rr, hm, hq, hx⟩ := h
  exact ⟨B, env, fp, _, E, rr, hm, fun b H' B' e q => hq _ H' B' (.v (.bool b)) e (.bl b) q, hx⟩
theorem de_cmp {f : Op2B} {op : CmpOp} {pos : Pos} (ho : OpR X (compareOp op) (rc2 X.K f)) (ha : DE X W G a ma) (hb : DE X W G b mb) (hm : behindInMarks op b = false) : DE X W G (.Compare a [op] [b] pos) (wtv (c2 f ma mb)) :=
  PEi (pe_cmpR ho ha hb hm) fun σ H QV h => twoB (f := f) (r := rc2 X.K f) (ta := tD X W G ma) (tb := tD X W G mb) (fun _ _ _ h => h) (fun _ _ _ h => h) (fun _ _ _ _ h => h) (tD_wtv h) fun b H' q => q

/-- a chain of two -/
def wChain (f g : Op2B) (ta tb tc : WE) : WT := fun env Q E => ta env (fun x => tb env (fun y => f x.d y.d fun k => if k = true then tc env (fun z => g y.d z.d Q) E else Q false) E) E
theorem chain_ok {f g : Op2B} {σ : L2.St} {H : Hp} {QV : VK} {QB : Bool → Hp → Prop} (h : tDT X W G (wChain f g ma mb mc) σ H QB) (hQ : ∀ b H', QB b H' → QV (.bl b) H') :
    tChain (rc2 X.K f) (rc2 X.K g) (tD X W G ma) (tD X W G mb) (tD X W G mc) σ H QV := by
  obtain ⟨B, env, fp, Q, E, rr, hm, hq, hx⟩ := h
  refine ⟨B, env, fp, _, E, rr, hm, fun v1 H1 B1 r1 e1 o1 q1 => ?_, hx⟩
  refine ⟨B1, env, fp, _, E, rr.ext e1, q1, fun v2 H2 B2 r2 e2 o2 q2 => ?_, hx.later e1.same⟩
  refine ⟨B2, _, _, _, e2.bh, (o1.now e1).mono e2.same, o2.now e2, q2, fun k hk => ⟨k, rfl, ?_⟩⟩
  cases k with
  | false => rw [if_neg (by simp)] at hk ⊢; exact hQ _ _ (hq false H2 B2 (e1.trans e2) hk)
  | true =>
    rw [if_pos rfl] at hk ⊢
    refine ⟨B2, env, fp, _, E, (rr.ext e1).ext e2, hk, fun v3 H3 B3 r3 e3 o3 q3 => ?_, hx.later (e1.same.trans e2.same)⟩
    exact ⟨B3, _, _, Q, e3.bh, (o2.now e2).mono e3.same, o3.now e3, q3, fun b qb => hQ _ _ (hq b H3 B3 ((e1.trans e2).trans e3) qb)⟩
theorem dt_chain {f g : Op2B} {op op' : CmpOp} {pos : Pos} (ho : OpR X (compareOp op) (rc2 X.K f)) (ho' : OpR X (compareOp op') (rc2 X.K g)) (ha : DE X W G a ma) (hb : DE X W G b mb) (hc : DE X W G c mc)
    (hm : lastMarks [op, op'] [b, c] = false) : DT X W G (.Compare a [op, op'] [b, c] pos) (wChain f g ma mb mc) :=
  PTi (pt_chain ho ho' ha hb hc hm) fun σ H QB h => chain_ok h fun b H' q => ⟨b, rfl, q⟩
theorem de_chain {f g : Op2B} {op op' : CmpOp} {pos : Pos} (ho : OpR X (compareOp op) (rc2 X.K f)) (ho' : OpR X (compareOp op') (rc2 X.K g)) (ha : DE X W G a ma) (hb : DE X W G b mb) (hc : DE X W G c mc)
    (hm : lastMarks [op, op'] [b, c] = false) : DE X W G (.Compare a [op, op'] [b, c] pos) (wtv (wChain f g ma mb mc)) :=
  PEi (pe_chain ho ho' ha hb hc hm) fun σ H QV h => chain_ok (tD_wtv h) fun b H' q => q

/-! ### and, or, not -/
def DW (X : Cx) (W : WX) (G : Hp) (e : Expr) (m : WT) : Prop := PW X e (tDT X W G m)
def wtAnd (p q : WT) : WT := fun env Q E => p env (fun k => if k = true then q env Q E else Q false) E
def wtOr (p q : WT) : WT := fun env Q E => p env (fun k => if k = true then Q true else q env Q E) E
def wtNot (p : WT) : WT := fun env Q E => p env (fun k => Q (!k)) E
theorem and_ok {σ : L2.St} {H : Hp} {QB : Bool → Hp → Prop} (h : tDT X W G (wtAnd t1 t2) σ H QB) : tAnd (tDT X W G t1) (tDT X W G t2) σ H QB := by
  obtain ⟨B, env, fp, Q, E, rr, hm, hq, hx⟩ := h
  refine ⟨B, env, fp, _, E, rr, hm, fun k H1 B1 e1 hk => ?_, hx⟩
  cases k with
  | false => rw [if_neg (by simp)] at hk ⊢; exact hq false H1 B1 e1 hk
  | true => rw [if_pos rfl] at hk ⊢; exact ⟨B1, env, fp, Q, E, rr.ext e1, hk, fun b H2 B2 e2 q2 => hq b H2 B2 (e1.trans e2) q2, hx.later e1.same⟩
theorem or_ok {σ : L2.St} {H : Hp} {QB : Bool → Hp → Prop} (h : tDT X W G (wtOr t1 t2) σ H QB) : tOr (tDT X W G t1) (tDT X W G t2) σ H QB := by
  obtain ⟨B, env, fp, Q, E, rr, hm, hq, hx⟩ := h
  refine ⟨B, env, fp, _, E, rr, hm, fun k H1 B1 e1 hk => ?_, hx⟩
  cases k with
  | true => rw [if_pos rfl] at hk ⊢; exact hq true H1 B1 e1 hk
  | false => rw [if_neg (by simp)] at hk ⊢; exact ⟨B1, env, fp, Q, E, rr.ext e1, hk, fun b H2 B2 e2 q2 => hq b H2 B2 (e1.trans e2) q2, hx.later e1.same⟩
variable {rest : List Expr} {pos : Pos}
theorem dw_and1 (ha : DT X W G a t) : DW X W G (.BoolOp .And [a] pos) t := pw_and1 ha
theorem dw_or1 (ha : DT X W G a t) : DW X W G (.BoolOp .Or [a] pos) t := pw_or1 ha
theorem dw_and (ha : DT X W G a t1) (hb : DW X W G (.BoolOp .And (b :: rest) pos) t2) : DW X W G (.BoolOp .And (a :: b :: rest) pos) (wtAnd t1 t2) :=
  PWi (pw_and ha hb) fun _ _ _ h => and_ok h
theorem dw_or (ha : DT X W G a t1) (hb : DW X W G (.BoolOp .Or (b :: rest) pos) t2) : DW X W G (.BoolOp .Or (a :: b :: rest) pos) (wtOr t1 t2) :=
  PWi (pw_or ha hb) fun _ _ _ h => or_ok h
theorem dt_w (h : DW X W G e t) : DT X W G e t := PW.pt h
theorem dt_not (ha : DT X W G a t) : DT X W G (.UnaryOp .Not a pos) (wtNot t) :=
  PTi (pt_not ha) fun σ H QB ⟨B, env, fp, Q, E, rr, hm, hq, hx⟩ => ⟨B, env, fp, _, E, rr, hm, fun k H1 B1 e1 hk => hq _ H1 B1 e1 hk, hx⟩
/-- .. as values, of truths -/
def wAndV (p q : WE) : WE := fun env Q E => p env (fun x => ∃ k, x.d = .bool k ∧ if k = true then q env Q E else Q (.v (.bool false))) E
def wOrV (p q : WE) : WE := fun env Q E => p env (fun x => ∃ k, x.d = .bool k ∧ if k = true then Q (.v (.bool true)) else q env Q E) E
def wNotV (p : WE) : WE := fun env Q E => p env (fun x => ∃ k, x.d = .bool k ∧ Q (.v (.bool (!k)))) E
theorem de_one {op} (h : DE X W G a m) : DE X W G (.BoolOp op [a] pos) m := pe_one h
theorem de_andV (ha : DE X W G a ma) (hb : DE X W G (.BoolOp .And (b :: rest) pos) mb) : DE X W G (.BoolOp .And (a :: b :: rest) pos) (wAndV ma mb) := by
  refine PEi (pe_and ha hb) fun σ H QV ⟨B, env, fp, Q, E, rr, hm, hq, hx⟩ => ?_
  refine ⟨B, env, fp, _, E, rr, hm, fun v H1 B1 r e1 o ⟨k, hk, hf⟩ => ?_, hx⟩
  have hv := o.now e1
  rw [hk] at hv
  refine ⟨k, hv.bool_inv, ?_⟩
  cases k with
  | false => rw [if_neg (by simp)] at hf ⊢; exact hq _ H1 B1 (.v (.bool false)) e1 (Rep.bl false) hf
  | true => rw [if_pos rfl] at hf ⊢; exact ⟨B1, env, fp, Q, E, rr.ext e1, hf, hq.later e1, hx.later e1.same⟩
theorem de_orV (ha : DE X W G a ma) (hb : DE X W G (.BoolOp .Or (b :: rest) pos) mb) : DE X W G (.BoolOp .Or (a :: b :: rest) pos) (wOrV ma mb) := by
  refine PEi (pe_or ha hb) fun σ H QV ⟨B, env, fp, Q, E, rr, hm, hq, hx⟩ => ?_
  refine ⟨B, env, fp, _, E, rr, hm, fun v H1 B1 r e1 o ⟨k, hk, hf⟩ => ?_, hx⟩
  have hv := o.now e1
  rw [hk] at hv
  refine ⟨k, hv.bool_inv, ?_⟩
  cases k with
  | true => rw [if_pos rfl] at hf ⊢; exact hq _ H1 B1 (.v (.bool true)) e1 (Rep.bl true) hf
  | false => rw [if_neg (by simp)] at hf ⊢; exact ⟨B1, env, fp, Q, E, rr.ext e1, hf, hq.later e1, hx.later e1.same⟩
theorem de_notV (ha : DE X W G a ma) : DE X W G (.UnaryOp .Not a pos) (wNotV ma) := by
  refine PEi (pe_not ha) fun σ H QV ⟨B, env, fp, Q, E, rr, hm, hq, hx⟩ => ?_
  refine ⟨B, env, fp, _, E, rr, hm, fun v H1 B1 r e1 o ⟨k, hk, hf⟩ => ?_, hx⟩
  have hv := o.now e1
  rw [hk] at hv
  exact ⟨k, hv.bool_inv, hq _ H1 B1 (.v (.bool (!k))) e1 (Rep.bl _) hf⟩
/-- a if t else b -/
def wIfE (t : WT) (p q : WE) : WE := fun env Q E => t env (fun k => if k = true then p env Q E else q env Q E) E
theorem de_ifE (hc : DT X W G c t) (ha : DE X W G a ma) (hb : DE X W G b mb) : DE X W G (.IfExp c a b pos) (wIfE t ma mb) := by
  refine PEi (pe_ifExp hc ha hb) fun σ H QV ⟨B, env, fp, Q, E, rr, hm, hq, hx⟩ => ?_
  refine ⟨B, env, fp, _, E, rr, hm, fun k H1 B1 e1 hf => ?_, hx⟩
  cases k with
  | true => rw [if_pos rfl] at hf ⊢; exact ⟨B1, env, fp, Q, E, rr.ext e1, hf, hq.later e1, hx.later e1.same⟩
  | false => rw [if_neg (by simp)] at hf ⊢; exact ⟨B1, env, fp, Q, E, rr.ext e1, hf, hq.later e1, hx.later e1.same⟩
/-- a value's truth -/
def tru : D → (Bool → Prop) → Prop
  | .none, Q => Q false
  | .bool b, Q => Q b
  | .int i, Q => Q (i != 0)
  | .str x, Q => x.length ≤ sizeLine ∧ Q ((x.length : Int) != 0)
  | .list ds, Q => Q (!ds.isEmpty)
  | .tuple ds, Q => Q (!ds.isEmpty)
  | .dict _, _ => False
def wTru (m : WE) : WT := fun env Q E => m env (fun x => tru x.d Q) E
theorem isEmpty_rep {K : K0} {B : Hp} {vs : List V} {ds : List D} (r : RepAll K B vs ds) : vs.isEmpty = ds.isEmpty := by cases r <;> rfl
theorem dt_tru (ha : DE X W G a m) (he : ∀ whole, isTrue a X.env whole = (do let v ← whole; standAt a.pos; holding [v] (truthy v))) : DT X W G a (wTru m) := by
  refine PTi (pt_truth ha he) fun σ H QV ⟨B, env, fp, Q, E, rr, hm, hq, hx⟩ => ?_
  refine ⟨B, env, fp, _, E, rr, hm, fun v H1 B1 r e1 o hf => ?_, hx⟩
  have hv := o.now e1
  have hf : tru r.d Q := hf
  generalize r.d = d at hv hf
  cases d with
  | none => rw [hv.none_inv]; exact ⟨_, rfl, hq _ H1 B1 e1 hf⟩
  | bool b => rw [hv.bool_inv]; exact ⟨_, rfl, hq _ H1 B1 e1 hf⟩
  | int i => rw [hv.int_inv]; exact ⟨_, rfl, hq _ H1 B1 e1 hf⟩
  | str x => rw [hv.str_inv]; exact ⟨_, ⟨hf.1, rfl⟩, hq _ H1 B1 e1 hf.2⟩
  | list ds =>
    obtain ⟨a1, v1, q1, s1, t1⟩ := hv.list_inv
    subst q1
    exact ⟨_, .inl ⟨v1, s1, by rw [isEmpty_rep t1]⟩, hq _ H1 B1 e1 hf⟩
  | tuple ds =>
    obtain ⟨a1, v1, q1, s1, t1⟩ := hv.tup_inv
    subst q1
    exact ⟨_, .inr (.inl ⟨v1, s1, by rw [isEmpty_rep t1]⟩), hq _ H1 B1 e1 hf⟩
  | dict _ => exact (show False from hf).elim
end
end DL

set_option Elab.async false
set_option linter.all false
set_option maxRecDepth 100000
set_option maxHeartbeats 1000000
/-! DL5: items, slices, displays, calls of built-ins and of defs over data. -/
namespace DL
open PySem L2 PyProof.Rows

/-! ### items -/
theorem atI_map {α β : Type} (f : α → β) (xs : List α) (i : Int) : atI (xs.map f) i = (atI xs i).map f := by
  unfold atI
  rw [List.length_map]
  cases ixN xs.length i with
  | none => rfl
  | some j => simp
theorem RepAll.atI {K : K0} {B : Hp} {vs : List V} {ds : List D} (r : RepAll K B vs ds) {i : Int} {d : D} (h : L2.atI ds i = some d) : ∃ v, L2.atI vs i = some v ∧ Rep K B v d := by
  unfold L2.atI at h ⊢
  rw [r.length]
  cases q : ixN ds.length i with
  | none => rw [q] at h; simp at h
  | some j =>
    rw [q] at h
    exact r.get h
theorem OwnAll.atI {K : K0} {B H : Hp} {vs : List V} {os : List O} {f : List Addr} (r : OwnAll K B H vs os f) {i : Int} {o : O} (h : L2.atI os i = some o) : ∃ v g, L2.atI vs i = some v ∧ Own K B H v o g ∧ g.Sublist f := by
  unfold L2.atI at h ⊢
  rw [r.length]
  cases q : ixN os.length i with
  | none => rw [q] at h; simp at h
  | some j =>
    rw [q] at h
    exact r.get h
def ixD : D → D → (D → Prop) → Prop
  | .list ds, .int i, Q => ∃ d, atI ds i = some d ∧ Q d
  | .tuple ds, .int i, Q => ∃ d, atI ds i = some d ∧ Q d
  | .str z, .int i, Q => z.length ≤ sizeLine ∧ ∃ c, atI z.cps.toList i = some c ∧ Q (.str ⟨#[c]⟩)
  | .dict kvs, k, Q => ∃ j d, keyD k = some j ∧ lookK kvs j = some d ∧ Q d
  | _, _, _ => False
/-- an item of an own list of own things -/
def oR : O → R
  | .fro d => .v d
  | o => .b o
def ixR : R → D → (R → Prop) → Prop
  | .b (.lsts os), .int i, Q => ∃ o, atI os i = some o ∧ Q (oR o)
  | .b (.lsts _), _, _ => False
  | .b (.pin _ _), _, _ => False
  | .b (.io _ _ _), _, _ => False
  | x, k, Q => ixD x.d k fun d => Q (.v d)
@[simp] theorem ixR_v (d k : D) (Q : R → Prop) : ixR (.v d) k Q = ixD d k fun d => Q (.v d) := by cases k <;> rfl
@[simp] theorem ixR_t (o : O) (k : D) (Q : R → Prop) : ixR (.t o) k Q = ixD o.frz k fun d => Q (.v d) := by cases k <;> rfl
@[simp] theorem ixR_bl (o : List D) (k : D) (Q : R → Prop) : ixR (.b (.lst o)) k Q = ixD (.list o) k fun d => Q (.v d) := by
  show ixD (R.b (.lst o)).d k _ = _
  rw [R.d_b, O.frz_lst]
@[simp] theorem ixR_bd (o : List (D × D)) (k : D) (Q : R → Prop) : ixR (.b (.dic o)) k Q = ixD (.dict o) k fun d => Q (.v d) := by
  show ixD (R.b (.dic o)).d k _ = _
  rw [R.d_b, O.frz_dic]
@[simp] theorem ixR_bn (o : List (D × D)) (k : D) (Q : R → Prop) : ixR (.b (.nd o)) k Q = ixD (.dict o) k fun d => Q (.v d) := by
  show ixD (R.b (.nd o)).d k _ = _
  rw [R.d_b, O.frz_nd]
@[simp] theorem ixR_bls (os : List O) (i : Int) (Q : R → Prop) : ixR (.b (.lsts os)) (.int i) Q = ∃ o, atI os i = some o ∧ Q (oR o) := rfl
def wIx (ta tb : WE) : WE := fun env Q E => ta env (fun x => tb env (fun y => ixR x y.d Q) E) E

section
variable {X : Cx} {W : WX} {G : Hp} {e a b c : Expr} {m ma mb mc : WE} {pos : Pos}
theorem ix_dict (hu : X.A.units + 1 < cLine) : IxR X (fun x y H Q => ∃ a v, x = .ref a ∧ DGet H a y (some v) ∧ Q v H) := by
  intro value slice pins s σ H x y v u Q I rx ry ⟨a, z, ex, g, q⟩ hs
  subst ex
  cases rx
  have hT := dict_typeIs I g
  have h2 : wpAny (model X.prog X.w) X.A (getItem (.ref a) u) (EP X pins σ Q) X.xe s := d_getItem hu I g ry fun w' s3 I3 rw' => ⟨z, H, I3, rw', q⟩
  unfold subscriptTail
  refine wpAny_bind ?_
  rw [getitemInPython_of_ne hT.not_modules]
  refine wpAny_bind (wpAny_specialOf hT PySem.F.slot_dict_getitem.lookup ?_)
  have fin : wpAny (model X.prog X.w) X.A (subscripted slice false (.ref a) u) (fun r s3 => wpAny (model X.prog X.w) X.A (letTemporaryGo value (.ref a) r >>= fun _ => pure r) (EP X pins σ Q) X.xe s3) X.xe s := by
    rw [hs]
    exact wpAny_operating (wpAny_mono h2 (fun r s3 h3 => wpAny_bind (wpAny_letTemporaryGo (wpAny_pure h3))) fun _ _ x => x)
  first
    | exact wpAny_pure (wpAny_bind fin)
    | exact wpAny_bind (wpAny_pure (wpAny_bind fin))
    | exact wpAny_bind fin
/-- by values: an item, by the four kinds of things -/
theorem ix_any (hu : X.A.units + 1 < cLine) : IxR X (fun x y H Q => (rIxL X.K x y H Q ∨ rIxT X.K x y H Q ∨ rIxS x y H Q) ∨ ∃ a v, x = .ref a ∧ DGet H a y (some v) ∧ Q v H) := ix_seq.or (ix_dict hu)
theorem ixD_ok {K : K0} {B H : Hp} {x y : V} {dx dy : D} {Q : D → Prop} {QV : VK} (l : Le B H) (hx : RV K B H x dx) (hy : Rep K H y dy) (hf : ixD dx dy Q) (hq : ∀ v d, Rep K B v d → Q d → QV v H) :
    (rIxL K x y H QV ∨ rIxT K x y H QV ∨ rIxS x y H QV) ∨ ∃ a v, x = .ref a ∧ DGet H a y (some v) ∧ QV v H := by
  cases dx with
  | list ds =>
    cases dy <;> first | exact (show False from hf).elim | skip
    obtain ⟨d, h1, h2⟩ := hf
    obtain ⟨a, vs, e, s, t⟩ := hx.list l
    obtain ⟨v, h3, h4⟩ := t.atI h1
    exact .inl (.inl ⟨a, vs, _, v, e, hy.int_inv, s, h3, hq v d h4 h2⟩)
  | tuple ds =>
    cases dy <;> first | exact (show False from hf).elim | skip
    obtain ⟨d, h1, h2⟩ := hf
    obtain ⟨a, vs, e, s, t⟩ := hx.tup l
    obtain ⟨v, h3, h4⟩ := t.atI h1
    exact .inl (.inr (.inl ⟨a, vs, _, v, e, hy.int_inv, s, h3, hq v d h4 h2⟩))
  | str z =>
    cases dy <;> first | exact (show False from hf).elim | skip
    obtain ⟨h0, c, h1, h2⟩ := hf
    exact .inl (.inr (.inr ⟨z, _, c, hx.str, hy.int_inv, h0, h1, hq _ _ (.str _) h2⟩))
  | dict kvs =>
    obtain ⟨j, d, h0, h1, h2⟩ := (show ∃ j d, keyD dy = some j ∧ lookK kvs j = some d ∧ Q d from hf)
    have e1 := kD_of h0
    subst e1
    rcases hx.dict_or l with ⟨a, vs, e, s, t⟩ | ⟨a, xs, e, s, t⟩
    rotate_left
    · rw [t.look0] at h1; cases h1
    have e2 := kV_rep hy
    subst e2
    rcases t.look (k := j) with ⟨z1, z2⟩ | ⟨v, d', z1, z2, z3⟩
    · rw [z2] at h1; cases h1
    · rw [z2] at h1; cases h1
      exact .inr ⟨a, v, e, .inl ⟨vs, j, s, rfl, z1.symm⟩, hq _ _ z3 h2⟩
  | _ => exact (show False from hf).elim
theorem de_ix (hu : X.A.units + 1 < cLine) (ha : DE X W G a ma) (hb : DE X W G b mb) (hs : PlainIx b) : DE X W G (.Subscript a b pos) (wIx ma mb) := by
  refine PEi (pe_ix (ix_any hu) ha hb hs) fun σ H QV ⟨B, env, fp, Q, E, rr, hm, hq, hx⟩ => ?_
  refine ⟨B, env, fp, _, E, rr, hm, fun v1 H1 B1 r1 e1 o1 q1 => ?_, hx⟩
  by_cases hs1 : ∃ os, r1 = .b (.lsts os)
  · obtain ⟨os, er⟩ := hs1
    subst er
    refine ⟨B1, env, fp, _, E, rr.ext e1, q1, fun v2 H3 B3 r2 e3 o2 q2 => ?_, hx.later e1.same⟩
    have hy := o2.now e3
    have q2 : ixR (.b (.lsts os)) r2.d Q := q2
    generalize r2.d = d2 at hy q2
    cases d2 <;> first | exact (show False from q2).elim | skip
    rw [ixR_bls] at q2
    obtain ⟨o, h1, h2⟩ := q2
    obtain ⟨f, x, hs⟩ := o1
    have x3 := x.mono (H' := H3) e3.le fun a m => by
      obtain ⟨u, hu'⟩ := x.dom a m
      rw [hu']; exact e3.same _ _ hu'
    cases x3 with
    | lsts h r =>
      obtain ⟨v, g, z1, z2, z3⟩ := r.atI h1
      refine .inl (.inl ⟨_, _, _, v, rfl, hy.int_inv, .inl (.inl h), z1, hq v H3 B3 _ (e1.trans e3) ?_ h2⟩)
      cases o with
      | fro d => cases z2 with | fro z => exact z
      | lst ds => exact ⟨g, z2, (z3.trans (List.sublist_cons_self _ _)).trans hs⟩
      | dic ds => exact ⟨g, z2, (z3.trans (List.sublist_cons_self _ _)).trans hs⟩
      | raw _ => cases z2
      | _ => exact ⟨g, z2, (z3.trans (List.sublist_cons_self _ _)).trans hs⟩
  · by_cases s1 : r1.sh
    rotate_left
    · refine ⟨B1, env, fp, _, E, rr.ext e1, q1, fun v2 H3 B3 r2 e3 o2 q2 => ?_, hx.later e1.same⟩
      have q2 : ixR r1 r2.d Q := q2
      cases r1 with
      | v d => exact (s1 True.intro).elim
      | t o => exact (s1 True.intro).elim
      | b o => cases o <;> first | exact (s1 True.intro).elim | exact (hs1 ⟨_, rfl⟩).elim | exact q2.elim
    have ei : ∀ k Q', ixR r1 k Q' = ixD r1.d k fun d => Q' (.v d) := fun k Q' => by
      cases r1 with
      | v d => exact ixR_v d k Q'
      | t o => exact ixR_t o k Q'
      | b o => cases o <;> cases k <;> first | rfl | exact (hs1 ⟨_, rfl⟩).elim | exact s1.elim
    obtain ⟨B2, e2, l2, rv1⟩ := o1.view e1 s1
    refine ⟨B2, env, fp, _, E, rr.ext e2, q1, fun v2 H3 B3 r2 e3 o2 q2 => ?_, hx.later e1.same⟩
    have q2 : ixR r1 r2.d Q := q2
    rw [ei] at q2
    exact ixD_ok e3.bh (rv1.ext e3) (o2.now e3) q2 fun v d r q => hq v H3 B3 (.v d) (e2.trans e3) r q

/-! ### slices -/
def cut {α : Type} (xs : List α) (lo hi : Option Int) : List α := (xs.drop (HT.sIx xs.length 0 lo)).take (HT.sIx xs.length xs.length hi - HT.sIx xs.length 0 lo)
theorem RepAll.cut {K : K0} {B : Hp} {vs : List V} {ds : List D} (r : RepAll K B vs ds) (lo hi : Option Int) : RepAll K B (cutV vs lo hi) (DL.cut ds lo hi) := by
  unfold cutV DL.cut
  rw [r.length]
  exact (r.drop _).take _
theorem cut_whole {α : Type} (xs : List α) (lo hi : Option Int) (h : HT.sIx xs.length 0 lo = 0 ∧ HT.sIx xs.length xs.length hi = xs.length) : cut xs lo hi = xs := by
  unfold cut
  rw [h.1, h.2]
  simp
abbrev WO := Env → (Option Int → Prop) → (Str → Prop) → Prop
def woN : WO := fun _ Q _ => Q none
def woE (t : WE) : WO := fun env Q E => t env (fun x => ∃ i, x.d = .int i ∧ Q (some i)) E
def tDO (X : Cx) (W : WX) (G : Hp) (m : WO) : TO := fun σ H QV => ∃ B env fp Q E, RR X.K G B env fp σ H ∧ m env Q E ∧ (∀ o H' B', Ext H B H' B' → Q o → QV o H') ∧ XOk X.mg W H σ E
def DO (X : Cx) (W : WX) (G : Hp) (e : Option Expr) (m : WO) : Prop := PO X e (tDO X W G m)
theorem POi {eo : Option Expr} {t t' : TO} (h : PO X eo t) (f : ∀ σ H Q, t' σ H Q → t σ H Q) : PO X eo t' := ⟨fun pins s σ H Q I w => h.run pins s σ H Q I (f σ H Q w)⟩
theorem do_none : DO X W G none woN := POi po_none fun σ H QV ⟨B, env, fp, Q, E, rr, hm, hq, hx⟩ => hq _ H B (.refl rr.bh) hm
theorem do_some (h : DE X W G e m) : DO X W G (some e) (woE m) := POi (po_some h) fun σ H QV ⟨B, env, fp, Q, E, rr, hm, hq, hx⟩ =>
  ⟨B, env, fp, _, E, rr, hm, fun v1 H1 B1 r1 e1 o1 ⟨i, hi, hf⟩ => ⟨i, by have := o1.now e1; rw [hi] at this; exact this.int_inv, hq _ H1 B1 e1 hf⟩, hx⟩
def slD : D → Option Int → Option Int → (R → Prop) → Prop
  | .list ds, lo, hi, Q => Q (.t (.lst (cut ds lo hi)))
  | .tuple ds, lo, hi, Q => Q (.v (.tuple (cut ds lo hi)))
  | .str z, lo, hi, Q => z.length ≤ sizeLine ∧ Q (.v (.str (cutS z lo hi)))
  | _, _, _, _ => False
def wSl (t : WE) (lo hi : WO) : WE := fun env Q E => t env (fun x => lo env (fun l => hi env (fun u => x.sh ∧ slD x.d l u Q) E) E) E
theorem sl_any : SlR X (fun x lo hi H Q => rSlL X.K x lo hi H Q ∨ rSlP X.K x lo hi H Q ∨ rSlS x lo hi H Q) := sl_list.or (sl_tupP.or sl_str)
theorem t_lst {K : K0} {H B : Hp} {fp : List Addr} {p : Addr} {vs : List V} {ds : List D} (l : Le B H) (np : H p = none) (r : RepAll K B vs ds) : VOk K H fp B (upd H p (.lst vs)) (.ref p) (.t (.lst ds)) :=
  ⟨[p], .lst upd_same r, by simp, fun a m => by simp at m; subst m; exact ⟨np, l.none np⟩⟩
theorem de_slice {lo hi : Option Expr} {l h : WO} {p2 : Pos} (he : DE X W G e m) (hl : DO X W G lo l) (hh : DO X W G hi h) : DE X W G (.Subscript e (.Slice lo hi none p2) pos) (wSl m l h) := by
  refine PEi (pe_slice sl_any he hl hh) fun σ H QV ⟨B, env, fp, Q, E, rr, hm, hq, hx⟩ => ?_
  refine ⟨B, env, fp, _, E, rr, hm, fun v1 H1 B1 r1 e1 o1 q1 => ?_, hx⟩
  by_cases s1 : r1.sh
  · obtain ⟨B2, e2, l2, rv1⟩ := o1.view e1 s1
    refine ⟨B2, env, fp, _, E, rr.ext e2, q1, fun lo H3 B3 e3 q2 => ?_, hx.later e2.same⟩
    refine ⟨B3, env, fp, _, E, (rr.ext e2).ext e3, q2, fun hi H4 B4 e4 q3 => ?_, hx.later (e2.same.trans e3.same)⟩
    have x4 := (rv1.ext e3).ext e4
    obtain ⟨_, hf⟩ := q3
    have eT := (e2.trans e3).trans e4
    generalize r1.d = d at x4 hf
    cases d <;> first | exact (show False from hf).elim | skip
    · exact .inr (.inr ⟨_, x4.str, hf.1, hq _ H4 B4 (.v _) eT (.str _) hf.2⟩)
    · obtain ⟨a, vs, ev, s, t⟩ := x4.list e4.bh
      exact .inl ⟨a, vs, ev, s, fun p np => hq _ _ B4 (.t _) (eT.trans (.make e4.bh np _)) (VOk.back eT (t_lst e4.bh np (t.cut lo hi))) hf⟩
    · have xr := x4.tupRep
      obtain ⟨a, vs, ev, s, t⟩ := x4.tup e4.bh
      refine .inr (.inl ⟨a, vs, ev, s, fun hw => ?_, fun hw p o np ho => ?_⟩)
      · rw [t.length] at hw
        have hf : Q (.v (.tuple (cut _ lo hi))) := hf
        rw [cut_whole _ _ _ hw] at hf
        rw [ev] at xr
        exact hq _ H4 B4 (.v _) eT xr hf
      · exact hq _ _ (upd B4 p _) (.v _) (eT.trans (.put e4.bh np _)) (newT_rep e4.bh np ho (t.cut lo hi)) hf
  · refine ⟨B1, env, fp, _, E, rr.ext e1, q1, fun lo H3 B3 e3 q2 => ?_, hx.later e1.same⟩
    exact ⟨B3, env, fp, _, E, (rr.ext e1).ext e3, q2, fun hi H4 B4 e4 q3 => (s1 q3.1).elim, hx.later (e1.same.trans e3.same)⟩
/-- xs[::-1] -/
def wRev (t : WE) : WE := fun env Q E => t env (fun x => x.sh ∧ ∃ ds, x.d = .list ds ∧ Q (.t (.lst ds.reverse))) E
theorem de_rev {k : Nat} {p1 p2 p3 pos : Pos} (he : DE X W G e m) : DE X W G (.Subscript e (.Slice none none (some (.UnaryOp .USub (.Constant (.int 1) k p1) p2)) p3) pos) (wRev m) := by
  refine PEi (pe_revL he) fun σ H QV ⟨B, env, fp, Q, E, rr, hm, hq, hx⟩ => ?_
  refine ⟨B, env, fp, _, E, rr, hm, fun v1 H1 B1 r1 e1 o1 ⟨s1, ds, ed, hf⟩ => ?_, hx⟩
  obtain ⟨B2, e2, l2, rv1⟩ := o1.view e1 s1
  rw [ed] at rv1
  obtain ⟨a, vs, ev, s, t⟩ := rv1.list e2.bh
  exact ⟨a, vs, ev, s, fun p np => hq _ _ B2 (.t _) (e2.trans (.make e2.bh np _)) (VOk.back e2 (t_lst e2.bh np t.reverse)) hf⟩
/-- minus -/
def wNeg (t : WE) : WE := fun env Q E => t env (fun x => ∃ i, x.d = .int i ∧ Q (.v (.int (-i)))) E
theorem de_neg (he : DE X W G e m) : DE X W G (.UnaryOp .USub e pos) (wNeg m) := by
  refine PEi (pe_un un_neg he) fun σ H QV ⟨B, env, fp, Q, E, rr, hm, hq, hx⟩ => ?_
  refine ⟨B, env, fp, _, E, rr, hm, fun v1 H1 B1 r1 e1 o1 ⟨i, ed, hf⟩ => ?_, hx⟩
  have h := o1.now e1
  rw [ed] at h
  exact ⟨i, h.int_inv, hq _ H1 B1 (.v _) e1 (.int _) hf⟩

/-! ### arguments, displays -/
theorem VAll.ext {K : K0} {H B H' B' : Hp} (e : Ext H B H' B') : ∀ {vs : List V} {rs : List R}, VAll K B H vs rs → VAll K B' H' vs rs
  | _, _, .nil => .nil
  | _, _, .st s r t => .st s (r.mono e.le) (VAll.ext e t)
  | _, _, .lk x t => .lk (x.mono e.le fun a m => by
      obtain ⟨u, hu'⟩ := x.dom a m
      rw [hu']; exact e.same _ _ hu') (VAll.ext e t)
def waN : WA := fun _ Q _ => Q []
def waC (t : WE) (ta : WA) : WA := fun env Q E => t env (fun r => ta env (fun rs => Q (r :: rs)) E) E
theorem da_nil : DA X W G [] waN := PAi pa_nil fun σ H QV ⟨B, env, fp, Q, E, rr, hm, hq, hx⟩ => hq [] H B [] (.refl rr.bh) .nil hm
theorem da_cons {es : List Expr} {ms : WA} (ha : DE X W G e m) (hr : DA X W G es ms) (hs : starEach (e :: es) X.env = (false, eval e X.env) :: starEach es X.env) : DA X W G (e :: es) (waC m ms) := by
  refine PAi (pa_cons ha hr hs) fun σ H QV ⟨B, env, fp, Q, E, rr, hm, hq, hx⟩ => ?_
  refine ⟨B, env, fp, _, E, rr, hm, fun v1 H1 B1 r1 e1 o1 q1 => ?_, hx⟩
  by_cases s1 : r1.st
  · obtain ⟨B2, e2, l2, rp⟩ := o1.keep e1 s1
    refine ⟨B2, env, fp, _, E, rr.ext e2, q1, fun vs H3 B3 rs e3 o3 q3 => ?_, hx.later e2.same⟩
    exact hq _ H3 B3 (r1 :: rs) (e2.trans e3) (.st s1 (rp.mono e3.le) o3) q3
  · refine ⟨B1, env, fp, _, E, rr.ext e1, q1, fun vs H3 B3 rs e3 o3 q3 => ?_, hx.later e1.same⟩
    cases r1 with
    | v d => exact (s1 True.intro).elim
    | t o => exact (s1 True.intro).elim
    | b o =>
      obtain ⟨f, x, hs⟩ := o1
      exact hq _ H3 B3 (.b o :: rs) (e1.trans e3) (.lk (x.mono e3.le fun a m => by
        obtain ⟨u, hu'⟩ := x.dom a m
        rw [hu']; exact e3.same _ _ hu') o3) q3
/-- all may be kept -/
def allSt : List R → Prop
  | [] => True
  | r :: rs => r.st ∧ allSt rs
@[simp] theorem allSt_nil : allSt [] = True := rfl
@[simp] theorem allSt_cons (r : R) (rs : List R) : allSt (r :: rs) = (r.st ∧ allSt rs) := rfl
theorem VAll.reps {K : K0} {B H : Hp} : ∀ {vs : List V} {rs : List R}, VAll K B H vs rs → allSt rs → RepAll K B vs (rs.map R.d)
  | _, _, .nil, _ => .nil
  | _, _, .st s r t, h => .cons r (VAll.reps t h.2)
  | _, _, .lk _ _, h => h.1.elim
theorem VAll.now {K : K0} {B H : Hp} (l : Le B H) : ∀ {vs : List V} {rs : List R}, VAll K B H vs rs → RepAll K H vs (rs.map R.d)
  | _, _, .nil => .nil
  | _, _, .st s r t => .cons (r.mono l) (VAll.now l t)
  | _, _, .lk x t => .cons (x.rep l) (VAll.now l t)
def wTup (ta : WA) : WE := fun env Q E => ta env (fun rs => allSt rs ∧ rs.length ≤ sizeLine ∧ Q (.v (.tuple (rs.map R.d)))) E
def wLst (ta : WA) : WE := fun env Q E => ta env (fun rs => allSt rs ∧ rs.length ≤ sizeLine ∧ Q (.t (.lst (rs.map R.d)))) E
theorem de_tup {es : List Expr} {ms : WA} {x1} (h : DA X W G es ms) : DE X W G (.Tuple es x1 pos) (wTup ms) := by
  refine PEi (pe_tupP h) fun σ H QV ⟨B, env, fp, Q, E, rr, hm, hq, hx⟩ => ?_
  refine ⟨B, env, fp, _, E, rr, hm, fun vs H1 B1 rs e1 o1 ⟨s1, hz, hf⟩ => ?_, hx⟩
  have t := o1.reps s1
  refine ⟨by rw [t.length, List.length_map]; exact hz, fun p o np ho => ?_⟩
  exact hq _ _ (upd B1 p _) (.v _) (e1.trans (.put e1.bh np _)) (newT_rep e1.bh np ho t) hf
theorem de_lst {es : List Expr} {ms : WA} (h : DA X W G es ms) : DE X W G (.List es pos) (wLst ms) := by
  refine PEi (pe_lst h) fun σ H QV ⟨B, env, fp, Q, E, rr, hm, hq, hx⟩ => ?_
  refine ⟨B, env, fp, _, E, rr, hm, fun vs H1 B1 rs e1 o1 ⟨s1, hz, hf⟩ => ?_, hx⟩
  have t := o1.reps s1
  refine ⟨by rw [t.length, List.length_map]; exact hz, fun p np => ?_⟩
  exact hq _ _ B1 (.t _) (e1.trans (.make e1.bh np _)) (VOk.back e1 (t_lst e1.bh np t)) hf
/-- {} -/
def wDic0 : WE := fun _ Q _ => Q (.t (.dic []))
theorem de_dic0 : DE X W G (.Dict [] [] pos) wDic0 := by
  refine PEi pe_dnewK fun σ H QV ⟨B, env, fp, Q, E, rr, hm, hq, hx⟩ p np => ?_
  exact hq _ _ B (.t (.dic [])) (.make rr.bh np _) ⟨[p], .dic upd_same .nil, by simp, fun a m => by simp at m; subst m; exact ⟨np, rr.bh.none np⟩⟩ hm

/-! ### calls of built-ins -/
def rB (K : K0) (f : List R → (R → Prop) → Prop) : List V → Hp → VK → Prop := fun vs H QV => ∃ B fp rs Q, Le B H ∧ VAll K B H vs rs ∧ f rs Q ∧ QOk K B H fp Q QV
def wB (f : List R → (R → Prop) → Prop) (ta : WA) : WE := fun env Q E => ta env (fun rs => f rs Q) E
theorem cb_ok {f : List R → (R → Prop) → Prop} {ms : WA} {es : List Expr} {σ : L2.St} {H : Hp} {QV : VK} (h : tD X W G (wB f ms) σ H QV) : tCB (rB X.K f) (tDA X W G ms) σ H QV := by
  obtain ⟨B, env, fp, Q, E, rr, hm, hq, hx⟩ := h
  exact ⟨B, env, fp, _, E, rr, hm, fun vs H1 B1 rs e1 o1 q => ⟨B1, fp, rs, Q, e1.bh, o1, q, hq.later e1⟩, hx⟩
theorem de_B {f : List R → (R → Prop) → Prop} {ms : WA} {es : List Expr} {x : Str} {id : String} {p : Pos} (hc : CallR X (.builtin id) (rB X.K f)) (hg : Gl X x) (hm : X.mg x = none) (hv : bootBuiltins x = some (.builtin id)) (ha : DA X W G (e :: es) ms)
    (hn : x ≠ "__name__") (hdb : (x == ("__debug__" : Str)) = false)
    (he : starEach (e :: es) X.env = (false, eval e X.env) :: starEach es X.env) (hpl : (backTo pos (starEach es X.env)).any (·.1) = false) : DE X W G (.Call (.Name x p) (e :: es) [] pos) (wB f ms) :=
  PEi (pe_callB hc hg hm hv ha hn hdb he hpl) fun _ _ _ h => cb_ok (es := es) h
theorem de_T {f : List R → (R → Prop) → Prop} {ms : WA} {es : List Expr} {x : Str} {id : String} {p : Pos} (hc : CallR X (.type id) (rB X.K f)) (hg : Gl X x) (hm : X.mg x = none) (hv : bootBuiltins x = some (.type id)) (ha : DA X W G (e :: es) ms)
    (hn : x ≠ "__name__") (hdb : (x == ("__debug__" : Str)) = false)
    (he : starEach (e :: es) X.env = (false, eval e X.env) :: starEach es X.env) (hpl : (backTo pos (starEach es X.env)).any (·.1) = false) : DE X W G (.Call (.Name x p) (e :: es) [] pos) (wB f ms) :=
  PEi (pe_callTy hc hg hm hv ha hn hdb he hpl) fun _ _ _ h => cb_ok (es := es) h
end
end DL

set_option Elab.async false
set_option linter.all false
set_option maxRecDepth 100000
set_option maxHeartbeats 1000000
/-! DL6: built-ins over data. -/
namespace DL
open PySem L2 PyProof.Rows

/-- what a one-place built-in does to data as it stands -/
abbrev F1 := D → (R → Prop) → Prop
def f1 (f : F1) : List R → (R → Prop) → Prop
  | [r], Q => f r.d Q
  | _, _ => False
@[simp] theorem f1_one (f : F1) (r : R) (Q : R → Prop) : f1 f [r] Q = f r.d Q := rfl
/-- .. whose items must be still -/
def f1s (f : F1) : List R → (R → Prop) → Prop
  | [r], Q => r.sh ∧ f r.d Q
  | _, _ => False
@[simp] theorem f1s_one (f : F1) (r : R) (Q : R → Prop) : f1s f [r] Q = (r.sh ∧ f r.d Q) := rfl
def f2 (f : Op2) : List R → (R → Prop) → Prop
  | [r, q], Q => f r.d q.d Q
  | _, _ => False
@[simp] theorem f2_two (f : Op2) (r q : R) (Q : R → Prop) : f2 f [r, q] Q = f r.d q.d Q := rfl

section
variable {K : K0} {B H : Hp} {vs : List V} {rs : List R}
theorem VAll.one {r : R} (x : VAll K B H vs [r]) (l : Le B H) : ∃ v, vs = [v] ∧ Rep K H v r.d := by
  have h := x.now l
  cases x with
  | st s r t => cases t; cases h with | cons h _ => exact ⟨_, rfl, h⟩
  | lk s t => cases t; cases h with | cons h _ => exact ⟨_, rfl, h⟩
theorem VAll.two {r q : R} (x : VAll K B H vs [r, q]) (l : Le B H) : ∃ v u, vs = [v, u] ∧ Rep K H v r.d ∧ Rep K H u q.d := by
  have h := x.now l
  cases x with
  | st s r t =>
    obtain ⟨u, e, hu⟩ := VAll.one t l
    subst e
    cases h with | cons h _ => exact ⟨_, _, rfl, h, hu⟩
  | lk s t =>
    obtain ⟨u, e, hu⟩ := VAll.one t l
    subst e
    cases h with | cons h _ => exact ⟨_, _, rfl, h, hu⟩
theorem VAll.one_sh {r : R} (x : VAll K B H vs [r]) (s : r.sh) : ∃ v, vs = [v] ∧ RV K B H v r.d := by
  cases x with
  | st s r t => cases t; exact ⟨_, rfl, .rep r⟩
  | @lk v o f _ _ x t =>
    cases t
    refine ⟨_, rfl, ?_⟩
    cases o with
    | fro d => cases x with | fro r => show RV K B H v (O.frz (.fro d)); rw [O.frz_fro]; exact .rep r
    | lst ds => cases x with | lst h r => show RV K B H _ (O.frz (.lst ds)); rw [O.frz_lst]; exact .lst h r
    | dic ds => cases x with | dic h r => show RV K B H _ (O.frz (.dic ds)); rw [O.frz_dic]; exact .dic h r
    | lsts os => exact s.elim
    | raw _ => cases x
    | nd ds => cases x with | nd h r => show RV K B H _ (O.frz (.nd ds)); rw [O.frz_nd]; exact .nd h r
    | pin a o => exact s.elim
    | io d a o => exact s.elim
theorem f1_inv {f : F1} {Q : R → Prop} (h : f1 f rs Q) : ∃ r, rs = [r] ∧ f r.d Q := by
  match rs, h with
  | [r], h => exact ⟨r, rfl, h⟩
theorem f1s_inv {f : F1} {Q : R → Prop} (h : f1s f rs Q) : ∃ r, rs = [r] ∧ r.sh ∧ f r.d Q := by
  match rs, h with
  | [r], h => exact ⟨r, rfl, h⟩
theorem f2_inv {f : Op2} {Q : R → Prop} (h : f2 f rs Q) : ∃ r q, rs = [r, q] ∧ f r.d q.d Q := by
  match rs, h with
  | [r, q], h => exact ⟨r, q, rfl, h⟩
/-- a flat answer -/
theorem QOk.flat {fp : List Addr} {Q : R → Prop} {QV : VK} (q : QOk K B H fp Q QV) (l : Le B H) {d : D} {v : V} (h : vD d = some v) (hf : Q (.v d)) : QV v H :=
  q v H B (.v d) (.refl l) (vD_rep h) hf
end

/-! ### the less one of two texts -/
theorem cmpOf_strs {prog : Program} {w : World} {A : Around} {a b : Str} {t u : Tok} :
    CmpOf prog w A .Lt (fun i v => (#[Value.str a t, Value.str b u] : Array Value)[i]? = some v) (fun i j => decide ((if i = 0 then a else b).cps.toList < (if j = 0 then a else b).cps.toList)) := fun i j vi vj s Q E hi hj h => by
  have at' : ∀ (i : Nat) (v : Value), (#[Value.str a t, Value.str b u] : Array Value)[i]? = some v → ∃ tk, v = .str (if i = 0 then a else b) tk := fun i v hi => by
    match i with
    | 0 => simp at hi; exact ⟨t, by simp [← hi]⟩
    | 1 => simp at hi; exact ⟨u, by simp [← hi]⟩
    | i + 2 => simp at hi
  obtain ⟨t1, rfl⟩ := at' i vi hi
  obtain ⟨t2, rfl⟩ := at' j vj hj
  exact richCompare_gives (op := .Lt) (typeIs_str s _ t1) (typeIs_str s _ t2) F.slot_str_lt F.entry_str_lt (F.args_str_lt_2 _ _) (gives_str_lt _ _ t1 t2) (fun x => nomatch x) h
theorem min_two_strs {prog : Program} {w : World} {A : Around} {E : Value → Shared → Prop} {s : Shared} {Q : Value → Shared → Prop} {a b : Str} {t u : Tok} (hh : A.handled = none)
    (h : ∀ h' tk, (∀ c o, s.heap.get? c = some o → h'.get? c = some o) → Q (if b.cps.toList < a.cps.toList then .str b u else .str a t) { s with heap := h', toks := tk }) :
    wpAny (model prog w) A (call (.builtin "min") [.str a t, .str b u]) Q E s := by
  have hT : (s.heap.push { cls := .type "tuple", data := .seq #[Value.str a t, Value.str b u] }).IsTuple s.heap.objs.size #[Value.str a t, Value.str b u] := ⟨_, Heap.get?_push_size _ rfl, rfl, 0, rfl⟩
  refine call_min_two (wpAny_pyIter_tuple hT ?_)
  have hsz : (s.heap.push { cls := .type "tuple", data := .seq #[Value.str a t, Value.str b u] }).objs.size = s.heap.objs.size + 1 := Heap.size_push ..
  refine ⟨_, [_, s.heap.objs.size], [_], _, _, _, _, rfl, Walks.tuple (A := A.in1) hh _ s.heap.objs.size (by rw [hsz]; exact Nat.ne_of_lt (Nat.lt_succ_self _)) #[Value.str a t, Value.str b u],
    ⟨⟨_, Heap.get?_push_size _ rfl, rfl, rfl⟩, hT.push _⟩, fun c hc => ?_, by simp, cmpOf_strs, fun v h' tk hP hk => ?_⟩
  · show c < ((s.heap.push _).push _).objs.size
    rw [Heap.size_push, hsz]
    rcases List.mem_cons.mp hc with rfl | hc
    · rw [hsz]; exact Nat.lt_succ_self _
    · rcases List.mem_cons.mp hc with rfl | hc
      · exact Nat.lt_succ_of_lt (Nat.lt_succ_self _)
      · cases hc
  · have hold : ∀ c o, s.heap.get? c = some o → h'.get? c = some o := fun c o e => by
      refine hk c o (fun hm => ?_) (Heap.get?_push_of_some _ (Heap.get?_push_of_some _ e))
      rcases List.mem_cons.mp hm with e1 | hm
      · have := Heap.lt_size e; rw [e1, hsz] at this; exact Nat.lt_irrefl _ (Nat.lt_of_succ_lt this)
      · cases hm
    have := h h' tk hold
    have hv : v = if b.cps.toList < a.cps.toList then Value.str b u else Value.str a t := by
      have hP' : (#[Value.str a t, Value.str b u] : Array Value)[argBest (fun i j => decide ((if i = 0 then a else b).cps.toList < (if j = 0 then a else b).cps.toList)) 1]? = some v := hP
      by_cases hc : b.cps.toList < a.cps.toList
      · have e : argBest (fun i j => decide ((if i = 0 then a else b).cps.toList < (if j = 0 then a else b).cps.toList)) 1 = 1 := by simp [argBest, hc]
        rw [e] at hP'
        rw [if_pos hc]
        simpa using hP'.symm
      · have e : argBest (fun i j => decide ((if i = 0 then a else b).cps.toList < (if j = 0 then a else b).cps.toList)) 1 = 0 := by simp [argBest, hc]
        rw [e] at hP'
        rw [if_neg hc]
        simpa using hP'.symm
    rw [hv]; exact this
theorem call_min2S {X : Cx} (hc : X.calm = true) : CallR X (.builtin "min") (fun xs H Q => ∃ i j : Str, xs = [.str i, .str j] ∧ Q (.str (if j.cps.toList < i.cps.toList then j else i)) H) := by
  intro pins s σ H xs us Q I r h
  obtain ⟨i, j, rfl, q⟩ := h
  obtain ⟨u, w', rfl, ⟨t, rfl⟩, ⟨t', rfl⟩⟩ := vals2 r
  refine min_two_strs (I.ok.hd hc) fun h' tk k => ⟨_, H, I.kept k, ?_, q⟩
  by_cases hj : j.cps.toList < i.cps.toList
  · rw [if_pos hj, if_pos hj]; exact ⟨_, rfl⟩
  · rw [if_neg hj, if_neg hj]; exact ⟨_, rfl⟩
section
variable {X : Cx}
/-- by one value as it stands, to a flat one -/
theorem cr1 {f : Value} {r : List V → Hp → VK → Prop} {g : F1} (h : CallR X f r)
    (hr : ∀ v d H QV (Q : R → Prop), Rep X.K H v d → g d Q → (∀ d' v', vD d' = some v' → Q (.v d') → QV v' H) → r [v] H QV) : CallR X f (rB X.K (f1 g)) := by
  intro pins s σ H xs us QV I rv ⟨B, fp, rs, Q, l, x, hf, hq⟩
  obtain ⟨a, e, hf⟩ := f1_inv hf
  subst e
  obtain ⟨v, e, hv⟩ := x.one l
  subst e
  exact h pins s σ H _ us QV I rv (hr v a.d H QV Q hv hf fun d' v' hd hq' => hq.flat l hd hq')
theorem cr2 {f : Value} {r : List V → Hp → VK → Prop} {g : Op2} (h : CallR X f r)
    (hr : ∀ v d u e H QV (Q : R → Prop), Rep X.K H v d → Rep X.K H u e → g d e Q → (∀ d' v', vD d' = some v' → Q (.v d') → QV v' H) → r [v, u] H QV) : CallR X f (rB X.K (f2 g)) := by
  intro pins s σ H xs us QV I rv ⟨B, fp, rs, Q, l, x, hf, hq⟩
  obtain ⟨a, b, e, hf⟩ := f2_inv hf
  subst e
  obtain ⟨v, u, e, hv, hu⟩ := x.two l
  subst e
  exact h pins s σ H _ us QV I rv (hr v a.d u b.d H QV Q hv hu hf fun d' v' hd hq' => hq.flat l hd hq')

def lenD : F1
  | .str z, Q => z.length ≤ sizeLine ∧ Q (.v (.int z.length))
  | .list ds, Q => Q (.v (.int ds.length))
  | .tuple ds, Q => Q (.v (.int ds.length))
  | .dict ds, Q => Q (.v (.int ds.length))
  | _, _ => False
theorem call_lenDict : CallR X (.builtin "len") (fun xs H Q => ∃ a kvs, xs = [.ref a] ∧ Rd H a (.dK kvs) ∧ Q (.int kvs.length) H) := by
  intro pins s σ H xs us Q I rv ⟨a, kvs, e, h, q⟩
  subst e
  have := rv.ref1
  subst this
  exact d_len I h fun t s' I' => ⟨.int kvs.length, H, I', ⟨t, rfl⟩, q⟩
/-- the object of a dict of nested keys -/
theorem nd_obj {P : Program} {w : World} {H : Hp} {h : Heap} {a : Addr} {xs : List (NestedKey × Addr × Value)} (ok : HOk P w H h) (e : Rd H a (ndHO a xs)) : (a == sysModules) = false ∧ xs.length ≤ sizeLine ∧ (xs.map (·.1)).Nodup ∧
    ∃ o es ep, h.get? a = some o ∧ o.ExactDict ∧ o.data = .dict es ep ∧ es.toList = xs.map (fun x => (⟨x.1.hash w, .ref x.2.1, x.2.2⟩ : DictEntry)) := by
  cases xs with
  | nil =>
    obtain ⟨z, lo, vs, rel, o, es, ep, h1, h2, h3, _, h4, _⟩ := dk_rd ok (show Rd H a (.dK []) from e)
    cases rel
    have := h4.length
    exact ⟨lo, by simp, by simp, o, es, ep, h1, h2, h3, by cases q : es.toList with | nil => rfl | cons x y => rw [q] at this; simp at this⟩
  | cons x xs =>
    have := rd_of ok (show Rd H a (.ext (NDp a (x :: xs))) from e)
    obtain ⟨⟨⟨h1, h2, h3⟩, o, es, ep, h4, h5, h6, h7⟩, _⟩ := this
    exact ⟨h1, h2, h3, o, es, ep, h4, h5, h6, h7 w⟩
theorem call_lenND : CallR X (.builtin "len") (fun xs H Q => ∃ a ys, xs = [.ref a] ∧ Rd H a (ndHO a ys) ∧ Q (.int ys.length) H) := by
  intro pins s σ H xs us Q I rv ⟨a, ys, e, h, q⟩
  subst e
  have := rv.ref1
  subst this
  obtain ⟨hd, hz, _, o, es, ep, h1, h2, h3, h4⟩ := nd_obj I.hok h
  have hl : es.size = ys.length := by rw [← Array.length_toList, h4, List.length_map]
  have hm : s.heap.DictRaw a es ep := ⟨o, h1, h2, h3⟩
  have key : wpAny (model X.prog X.w) (X.A.under (.builtin "len" ⟨[.ref a], []⟩)) (Builtin.«len» ⟨[.ref a], []⟩) (fun fin s' => ∃ r, fin = .done (.ret r) ∧ EP X pins σ Q r s') X.xe s := by
    unfold Builtin.«len»
    refine wpAny_bind (m := oneArg "len" _) (wpAny_pure ?_)
    refine wpAny_bind (m := callSpecial? (.ref a) (Str.ofString "__len__")) (wpAny_callSpecial?_slot (name := Str.ofString "__len__") hm.typeIs PySem.F.slot_dict_len
      (call_meetsIn PySem.F.slot_dict_len hm.typeIs PySem.F.entry_dict_len (PySem.F.args_dict_len_1 _) (meets_dict_len_raw a hd) ⟨es, ep, hm, ?_⟩))
    refine wpAny_bind (wpAny_holding (wpAny_pure ?_))
    refine wpAny_bind (wpAny_letGo ?_)
    have hfit : (es.size : Int) < 2 ^ 63 := by rw [hl]; rw [sizeLine_eq] at hz; omega
    show wpAny _ _ (if ((es.size : Nat) : Int) < 0 then _ else _) _ _ _
    rw [if_neg (by omega)]
    show wpAny _ _ (if ((es.size : Nat) : Int) ≥ 2 ^ 63 then _ else _) _ _ _
    rw [if_neg (by omega)]
    exact wpAny_bind (wpAny_mkInt (wpAny_pure ⟨_, rfl, .int ys.length, H, I.tok _, ⟨_, by rw [hl]⟩, q⟩))
  first
    | exact Calls.call_function_entry kind_len plain_len entry_len (args_len1 _) key
    | (rw [Around.under_plainId plain_len _] at key; exact Calls.call_function_entry kind_len plain_len entry_len (args_len1 _) key)
theorem cLen : CallR X (.builtin "len") (rB X.K (f1 lenD)) := by
  refine cr1 ((call_len.or call_lenDict).or call_lenND) fun v d H QV Q hv hf hq => ?_
  cases d <;> first | exact (show False from hf).elim | skip
  · exact .inl (.inl ⟨_, _, rfl, by rw [hv.str_inv]; exact ⟨hf.1, rfl⟩, hq _ _ rfl hf.2⟩)
  · obtain ⟨a, vs, e, s, t⟩ := hv.list_inv
    subst e
    exact .inl (.inl ⟨_, _, rfl, .inl ⟨vs, s, t.length.symm⟩, hq _ _ rfl hf⟩)
  · obtain ⟨a, vs, e, s, t⟩ := hv.tup_inv
    subst e
    exact .inl (.inl ⟨_, _, rfl, .inr ⟨vs, s, t.length.symm⟩, hq _ _ rfl hf⟩)
  · cases hv with
    | dic s t => exact .inl (.inr ⟨_, _, rfl, s, by rw [t.length]; exact hq _ _ rfl hf⟩)
    | nd s t => exact .inr ⟨_, _, rfl, s, by rw [t.length]; exact hq _ _ rfl hf⟩
def min2D : Op2
  | .int i, .int j, Q => Q (.v (.int (if j < i then j else i)))
  | .str i, .str j, Q => Q (.v (.str (if j.cps.toList < i.cps.toList then j else i)))
  | _, _, _ => False
def max2D : Op2
  | .int i, .int j, Q => Q (.v (.int (if j > i then j else i)))
  | _, _, _ => False
theorem cMin2 (hc : X.calm = true) : CallR X (.builtin "min") (rB X.K (f2 min2D)) := by
  refine cr2 ((call_min2 hc).or (call_min2S hc)) fun v d u e H QV Q hv hu hf hq => ?_
  cases d <;> cases e <;> first | exact (show False from hf).elim | skip
  · exact .inl ⟨_, _, by rw [hv.int_inv, hu.int_inv], hq _ _ rfl hf⟩
  · exact .inr ⟨_, _, by rw [hv.str_inv, hu.str_inv], hq _ _ rfl hf⟩
theorem cMax2 (hc : X.calm = true) : CallR X (.builtin "max") (rB X.K (f2 max2D)) := by
  refine cr2 (call_max2 hc) fun v d u e H QV Q hv hu hf hq => ?_
  cases d <;> cases e <;> first | exact (show False from hf).elim | skip
  exact ⟨_, _, by rw [hv.int_inv, hu.int_inv], hq _ _ rfl hf⟩
def sumD : F1
  | .list ds, Q => ∃ ns : List Int, ds = ns.map PyData.int ∧ Q (.v (.int ns.sum))
  | _, _ => False
theorem cSum (hc : X.calm = true) : CallR X (.builtin "sum") (rB X.K (f1 sumD)) := by
  refine cr1 (cr_sum hc) fun v d H QV Q hv hf hq => ?_
  cases d <;> first | exact (show False from hf).elim | skip
  obtain ⟨ns, e, hf⟩ := hf
  subst e
  obtain ⟨a, vs, e, s, t⟩ := hv.list_inv
  subst e
  exact ⟨a, ns, rfl, by rw [← t.intsV]; exact s, hq _ _ rfl hf⟩
def isGreatest (ns : List Int) (m : Int) : Prop := m ∈ ns ∧ ∀ y ∈ ns, y ≤ m
def isLeast (ns : List Int) (m : Int) : Prop := m ∈ ns ∧ ∀ y ∈ ns, m ≤ y
def maxD : F1
  | .list ds, Q => ∃ ns : List Int, ds = ns.map PyData.int ∧ 0 < ns.length ∧ ∀ m, isGreatest ns m → Q (.v (.int m))
  | _, _ => False
def minD : F1
  | .list ds, Q => ∃ ns : List Int, ds = ns.map PyData.int ∧ 0 < ns.length ∧ ∀ m, isLeast ns m → Q (.v (.int m))
  | _, _ => False
theorem cMax (hc : X.calm = true) : CallR X (.builtin "max") (rB X.K (f1 maxD)) := by
  refine cr1 (cr_max hc) fun v d H QV Q hv hf hq => ?_
  cases d <;> first | exact (show False from hf).elim | skip
  obtain ⟨ns, e, hl, hf⟩ := hf
  subst e
  obtain ⟨a, vs, e, s, t⟩ := hv.list_inv
  subst e
  exact ⟨a, ns, rfl, by rw [← t.intsV]; exact s, hl, fun m h1 h2 => hq _ _ rfl (hf m ⟨h1, h2⟩)⟩
theorem cMin (hc : X.calm = true) : CallR X (.builtin "min") (rB X.K (f1 minD)) := by
  refine cr1 (cr_min hc) fun v d H QV Q hv hf hq => ?_
  cases d <;> first | exact (show False from hf).elim | skip
  obtain ⟨ns, e, hl, hf⟩ := hf
  subst e
  obtain ⟨a, vs, e, s, t⟩ := hv.list_inv
  subst e
  exact ⟨a, ns, rfl, by rw [← t.intsV]; exact s, hl, fun m h1 h2 => hq _ _ rfl (hf m ⟨h1, h2⟩)⟩
def boolsOf (ds : List D) (bs : List Bool) : Prop := ds = bs.map PyData.bool
theorem RepAll.boolsV {K : K0} {B : Hp} : ∀ {bs : List Bool} {vs : List V}, RepAll K B vs (bs.map PyData.bool) → vs = bs.map V.bl
  | [], _, .nil => rfl
  | n :: ns, _, .cons r t => by rw [r.bool_inv, RepAll.boolsV t]; rfl
def allD : F1
  | .list ds, Q => ∃ bs : List Bool, ds = bs.map PyData.bool ∧ Q (.v (.bool (bs.all id)))
  | _, _ => False
def anyD : F1
  | .list ds, Q => ∃ bs : List Bool, ds = bs.map PyData.bool ∧ Q (.v (.bool (bs.any id)))
  | _, _ => False
theorem cAll (hc : X.calm = true) : CallR X (.builtin "all") (rB X.K (f1 allD)) := by
  refine cr1 (cr_all hc) fun v d H QV Q hv hf hq => ?_
  cases d <;> first | exact (show False from hf).elim | skip
  obtain ⟨ns, e, hf⟩ := hf
  subst e
  obtain ⟨a, vs, e, s, t⟩ := hv.list_inv
  subst e
  exact ⟨a, ns, rfl, by rw [← t.boolsV]; exact s, hq _ _ rfl hf⟩
theorem cAny (hc : X.calm = true) : CallR X (.builtin "any") (rB X.K (f1 anyD)) := by
  refine cr1 (cr_any hc) fun v d H QV Q hv hf hq => ?_
  cases d <;> first | exact (show False from hf).elim | skip
  obtain ⟨ns, e, hf⟩ := hf
  subst e
  obtain ⟨a, vs, e, s, t⟩ := hv.list_inv
  subst e
  exact ⟨a, ns, rfl, by rw [← t.boolsV]; exact s, hq _ _ rfl hf⟩
def ordD : F1
  | .str z, Q => z.length = 1 ∧ Q (.v (.int (z.cps.getD 0 0 : Nat)))
  | _, _ => False
theorem cOrd : CallR X (.builtin "ord") (rB X.K (f1 ordD)) := by
  refine cr1 call_ord fun v d H QV Q hv hf hq => ?_
  cases d <;> first | exact (show False from hf).elim | skip
  exact ⟨_, by rw [hv.str_inv], hf.1, hq _ _ rfl hf.2⟩
def strD : F1
  | .int i, Q => i.natAbs.log2 < 1920 ∧ Q (.v (.str (toString i)))
  | _, _ => False
theorem cStr : CallR X (.type "str") (rB X.K (f1 strD)) := by
  refine cr1 call_str_int fun v d H QV Q hv hf hq => ?_
  cases d <;> first | exact (show False from hf).elim | skip
  exact ⟨_, by rw [hv.int_inv], hf.1, hq _ _ rfl hf.2⟩
def intD : F1
  | .int i, Q => Q (.v (.int i))
  | .bool k, Q => Q (.v (.int (if k then 1 else 0)))
  | .str a, Q => ∃ n, PySem.intText? a = some n ∧ a.length ≤ 640 ∧ Q (.v (.int n))
  | _, _ => False
theorem cInt : CallR X (.type "int") (rB X.K (f1 intD)) := by
  refine cr1 (call_int1.or call_int_str) fun v d H QV Q hv hf hq => ?_
  cases d <;> first | exact (show False from hf).elim | skip
  · exact .inl (.inr ⟨_, by rw [hv.bool_inv], hq _ _ rfl hf⟩)
  · exact .inl (.inl ⟨_, by rw [hv.int_inv], hq _ _ rfl hf⟩)
  · obtain ⟨n, h1, h2, h3⟩ := hf
    exact .inr ⟨_, n, by rw [hv.str_inv], h1, h2, hq _ _ rfl h3⟩
/-- list(x), tuple(x) of a list or tuple -/
def listD : F1
  | .list ds, Q => Q (.t (.lst ds))
  | .tuple ds, Q => Q (.t (.lst ds))
  | _, _ => False
def tupleD : F1
  | .list ds, Q => Q (.v (.tuple ds))
  | .tuple ds, Q => Q (.v (.tuple ds))
  | _, _ => False
theorem cList : CallR X (.type "list") (rB X.K (f1s listD)) := by
  intro pins s σ H xs us QV I rv ⟨B, fp, rs, Q, l, x, hf, hq⟩
  obtain ⟨a, e, sh, hg⟩ := f1s_inv hf
  clear hf
  subst e
  obtain ⟨v, e, hv⟩ := x.one_sh sh
  subst e
  generalize a.d = d at hv hg
  cases d <;> first | exact (show False from hg).elim | skip
  · obtain ⟨p, vs, e, s', t⟩ := hv.list l
    subst e
    exact call_list_of pins s σ H _ us QV I rv ⟨p, vs, rfl, .inl s', fun p' np => hq _ _ B (.t _) (.make l np _) (t_lst l np t) hg⟩
  · obtain ⟨p, vs, e, s', t⟩ := hv.tup l
    subst e
    exact call_list_of pins s σ H _ us QV I rv ⟨p, vs, rfl, .inr s', fun p' np => hq _ _ B (.t _) (.make l np _) (t_lst l np t) hg⟩
theorem cTuple : CallR X (.type "tuple") (rB X.K (f1s tupleD)) := by
  intro pins s σ H xs us QV I rv ⟨B, fp, rs, Q, l, x, hf, hq⟩
  obtain ⟨a, e, sh, hg⟩ := f1s_inv hf
  clear hf
  subst e
  obtain ⟨v, e, hv⟩ := x.one_sh sh
  subst e
  generalize a.d = d at hv hg
  cases d <;> first | exact (show False from hg).elim | skip
  · obtain ⟨p, vs, e, s', t⟩ := hv.list l
    subst e
    refine call_tuple_ofP pins s σ H _ us QV I rv ⟨p, vs, rfl, .inl ⟨s', fun p' o np ho => hq _ _ (upd B p' _) (.v _) (.put l np _) (newT_rep l np ho t) hg⟩⟩
  · have hr := hv.tupRep
    obtain ⟨p, vs, e, s', t⟩ := hv.tup l
    subst e
    exact call_tuple_ofP pins s σ H _ us QV I rv ⟨p, vs, rfl, .inr ⟨s', hq _ _ B (.v _) (.refl l) hr hg⟩⟩

/-! ### isinstance by built-in types -/
def tyD : D → String
  | .none => "NoneType"
  | .bool _ => "bool"
  | .int _ => "int"
  | .str _ => "str"
  | .list _ => "list"
  | .tuple _ => "tuple"
  | .dict _ => "dict"
def TyD (K : K0) (H : Hp) (v : V) (t : Value) : Prop := TyX K H v t ∨ (t = .type "dict" ∧ ∃ a xs, v = .ref a ∧ Rd H a (ndHO a xs))
theorem tyX_of {K : K0} {H : Hp} {v : V} {d : D} (r : Rep K H v d) : TyD K H v (.type (tyD d)) := by
  cases r with
  | non => exact .inl (.base .non)
  | bl b => exact .inl (.base (.bl b))
  | int i => exact .inl (.base (.int i))
  | str x => exact .inl (.base (.str x))
  | lst s _ =>
    rcases s with (s | ⟨o, s⟩) | ⟨o, its, n, h1, h2, _⟩
    · exact .inl (.base (.lst s))
    · exact .inl (.base (.frz s))
    · exact .inl (.kList h1 h2)
  | tup s _ =>
    rcases s with (s | ⟨o, s⟩) | ⟨o, its, n, h1, h2, _⟩
    · exact .inl (.base (.tup s))
    · exact .inl (.fTuple s)
    · exact .inl (.kTuple h1 h2)
  | dic s _ =>
    rcases s with s | ⟨o, s⟩
    · exact .inl (.base (.dK s))
    · exact .inl (.fDict s)
  | nd s _ => exact .inr ⟨rfl, _, _, rfl, s⟩
theorem call_isiD : CallR X (.builtin "isinstance") (fun xs H Q => ∃ (x c : V) (t u : Value) (b : Bool), xs = [x, c] ∧ ClsV c u ∧ TyD X.K H x t ∧ PySem.W.kitOne X.K t u = some b ∧ Q (.bl b) H) := by
  intro pins s σ H xs us Q I r h
  obtain ⟨x, c, t, u, b, rfl, k, ty, e, q⟩ := h
  obtain ⟨u1, u2, rfl, r1, r2⟩ := vals2 r
  have e2 := k.eq r2
  subst e2
  rcases ty with ty | ⟨et, a, ys, ex, hr⟩
  · obtain ⟨P, Z, p, hx⟩ := kit_of I r1 ty
    exact PySem.W.kia_one Z I.kIn p e hx fun tk => ⟨.bl b, H, I.tok tk, rfl, q⟩
  · subst et ex
    cases (show u1 = Value.ref a from r1)
    obtain ⟨_, _, _, o, es, ep, h1, h2, _⟩ := nd_obj I.hok hr
    exact PySem.W.kia_one PySem.W.kitx_dict I.kIn ⟨o, h1, h2.1⟩ e (fun z => nomatch z) fun tk => ⟨.bl b, H, I.tok tk, rfl, q⟩
def isiB (c : String) (d : D) : Bool := match c, d with
  | "int", .int _ => true
  | "int", .bool _ => true
  | "bool", .bool _ => true
  | "str", .str _ => true
  | "list", .list _ => true
  | "tuple", .tuple _ => true
  | "dict", .dict _ => true
  | _, _ => false
/-- isinstance(x, C), C a built-in class -/
def fIsi (c : String) : List R → (R → Prop) → Prop
  | [r], Q => Q (.v (.bool (isiB c r.d)))
  | _, _ => False
@[simp] theorem fIsi_one (c : String) (r : R) (Q : R → Prop) : fIsi c [r] Q = Q (.v (.bool (isiB c r.d))) := rfl
theorem kit_d {K : K0} {c : String} (h : c = "int" ∨ c = "bool" ∨ c = "str" ∨ c = "list" ∨ c = "tuple" ∨ c = "dict") (d : D) : PySem.W.kitOne K (.type (tyD d)) (.type c) = some (isiB c d) := by
  rcases h with rfl | rfl | rfl | rfl | rfl | rfl
  · cases d with
    | none => exact kit_ty (a := "NoneType") (b := "int") (r := false) (by decide +kernel)
    | bool b => exact kit_ty (a := "bool") (b := "int") (r := true) (by decide +kernel)
    | int i => exact kit_ty (a := "int") (b := "int") (r := true) (by decide +kernel)
    | str s => exact kit_ty (a := "str") (b := "int") (r := false) (by decide +kernel)
    | list xs => exact kit_ty (a := "list") (b := "int") (r := false) (by decide +kernel)
    | tuple xs => exact kit_ty (a := "tuple") (b := "int") (r := false) (by decide +kernel)
    | dict xs => exact kit_ty (a := "dict") (b := "int") (r := false) (by decide +kernel)
  · cases d with
    | none => exact kit_ty (a := "NoneType") (b := "bool") (r := false) (by decide +kernel)
    | bool b => exact kit_ty (a := "bool") (b := "bool") (r := true) (by decide +kernel)
    | int i => exact kit_ty (a := "int") (b := "bool") (r := false) (by decide +kernel)
    | str s => exact kit_ty (a := "str") (b := "bool") (r := false) (by decide +kernel)
    | list xs => exact kit_ty (a := "list") (b := "bool") (r := false) (by decide +kernel)
    | tuple xs => exact kit_ty (a := "tuple") (b := "bool") (r := false) (by decide +kernel)
    | dict xs => exact kit_ty (a := "dict") (b := "bool") (r := false) (by decide +kernel)
  · cases d with
    | none => exact kit_ty (a := "NoneType") (b := "str") (r := false) (by decide +kernel)
    | bool b => exact kit_ty (a := "bool") (b := "str") (r := false) (by decide +kernel)
    | int i => exact kit_ty (a := "int") (b := "str") (r := false) (by decide +kernel)
    | str s => exact kit_ty (a := "str") (b := "str") (r := true) (by decide +kernel)
    | list xs => exact kit_ty (a := "list") (b := "str") (r := false) (by decide +kernel)
    | tuple xs => exact kit_ty (a := "tuple") (b := "str") (r := false) (by decide +kernel)
    | dict xs => exact kit_ty (a := "dict") (b := "str") (r := false) (by decide +kernel)
  · cases d with
    | none => exact kit_ty (a := "NoneType") (b := "list") (r := false) (by decide +kernel)
    | bool b => exact kit_ty (a := "bool") (b := "list") (r := false) (by decide +kernel)
    | int i => exact kit_ty (a := "int") (b := "list") (r := false) (by decide +kernel)
    | str s => exact kit_ty (a := "str") (b := "list") (r := false) (by decide +kernel)
    | list xs => exact kit_ty (a := "list") (b := "list") (r := true) (by decide +kernel)
    | tuple xs => exact kit_ty (a := "tuple") (b := "list") (r := false) (by decide +kernel)
    | dict xs => exact kit_ty (a := "dict") (b := "list") (r := false) (by decide +kernel)
  · cases d with
    | none => exact kit_ty (a := "NoneType") (b := "tuple") (r := false) (by decide +kernel)
    | bool b => exact kit_ty (a := "bool") (b := "tuple") (r := false) (by decide +kernel)
    | int i => exact kit_ty (a := "int") (b := "tuple") (r := false) (by decide +kernel)
    | str s => exact kit_ty (a := "str") (b := "tuple") (r := false) (by decide +kernel)
    | list xs => exact kit_ty (a := "list") (b := "tuple") (r := false) (by decide +kernel)
    | tuple xs => exact kit_ty (a := "tuple") (b := "tuple") (r := true) (by decide +kernel)
    | dict xs => exact kit_ty (a := "dict") (b := "tuple") (r := false) (by decide +kernel)
  · cases d with
    | none => exact kit_ty (a := "NoneType") (b := "dict") (r := false) (by decide +kernel)
    | bool b => exact kit_ty (a := "bool") (b := "dict") (r := false) (by decide +kernel)
    | int i => exact kit_ty (a := "int") (b := "dict") (r := false) (by decide +kernel)
    | str s => exact kit_ty (a := "str") (b := "dict") (r := false) (by decide +kernel)
    | list xs => exact kit_ty (a := "list") (b := "dict") (r := false) (by decide +kernel)
    | tuple xs => exact kit_ty (a := "tuple") (b := "dict") (r := false) (by decide +kernel)
    | dict xs => exact kit_ty (a := "dict") (b := "dict") (r := true) (by decide +kernel)
/-- isinstance(e, C): the class is the second argument, a built-in name -/
def wIsi (c : String) (t : WE) : WE := fun env Q E => t env (fun x => Q (.v (.bool (isiB c x.d)))) E
theorem de_isi {W : WX} {G : Hp} {e e2 : Expr} {m : WE} {p pos : Pos} {c : String} (hc : c = "int" ∨ c = "bool" ∨ c = "str" ∨ c = "list" ∨ c = "tuple" ∨ c = "dict") (hg : Gl X "isinstance") (hm : X.mg "isinstance" = none) (ha : DE X W G e m)
    (hc2 : PE X e2 (tC (.ty c)))
    (h1 : starEach [e, e2] X.env = (false, eval e X.env) :: starEach [e2] X.env) (h2 : starEach [e2] X.env = (false, eval e2 X.env) :: starEach [] X.env)
    (hpl : (backTo pos (starEach [e2] X.env)).any (·.1) = false) : DE X W G (.Call (.Name "isinstance" p) [e, e2] [] pos) (wIsi c m) := by
  refine PEi (pe_callB call_isiD hg hm (by decide +kernel) (pa_cons ha (pa_cons hc2 pa_nil h2) h1) (by decide) (by decide) h1 hpl) fun σ H QV ⟨B, env, fp, Q, E, rr, hm, hq, hx⟩ => ?_
  refine ⟨B, env, fp, _, E, rr, hm, fun v1 H1 B1 r1 e1 o1 hf => ?_, hx⟩
  exact ⟨v1, .ty c, _, _, _, rfl, .ty c, tyX_of (o1.now e1), kit_d hc _, hq _ H1 B1 (.v _) e1 (.bl _) hf⟩
end
end DL

set_option Elab.async false
set_option linter.all false
set_option maxRecDepth 100000
set_option maxHeartbeats 1000000
/-! DL7: statements over data. -/
namespace DL
open PySem L2 PyProof.Rows

def R.o : R → O
  | .v d => .fro d
  | .t o => o
  | .b o => o
@[simp] theorem R.o_v (d : D) : (R.v d).o = .fro d := rfl
@[simp] theorem R.o_t (o : O) : (R.t o).o = o := rfl
/-- a result that leaves the frame -/
def R.out : R → R
  | .b o => .t o
  | r => r
@[simp] theorem R.out_v (d : D) : (R.v d).out = .v d := rfl
@[simp] theorem R.out_t (d : O) : (R.t d).out = .t d := rfl
@[simp] theorem R.out_b (d : O) : (R.b d).out = .t d := rfl
theorem R.out_st (r : R) : r.out.st := by cases r <;> exact True.intro

/-! ### the frame, changed -/
section
variable {K : K0} {G B B' H H' : Hp} {env : Env} {fp : List Addr} {σ : L2.St} {v : V} {o : O} {g : List Addr}
theorem ownEnv_set (l : Le B B') : ∀ {σ : L2.St} {env : Env} {fp : List Addr} (i : Nat), OwnEnv K B H σ env fp → fp.Nodup → Own K B' H v o g → g.Nodup → (∀ a ∈ g, a ∉ fp) →
    ∃ fp', OwnEnv K B' H (σ.set i (some v)) (env.set i (some o)) fp' ∧ fp'.Nodup ∧ ∀ a ∈ fp', a ∈ fp ∨ a ∈ g
  | _, _, _, _, .nil, _, _, _, _ => ⟨[], .nil, by simp, fun _ m => absurd m (by simp)⟩
  | _, _, fp, 0, .no t, nd, w, ng, dj => ⟨g ++ fp, .some w (t.mono l fun _ _ => rfl), List.nodup_append.mpr ⟨ng, nd, fun a m b m' e => dj a m (e ▸ m')⟩, fun a m => (List.mem_append.mp m).symm⟩
  | _, _, fp, 0, .raw t, nd, w, ng, dj => ⟨g ++ fp, .some w (t.mono l fun _ _ => rfl), List.nodup_append.mpr ⟨ng, nd, fun a m b m' e => dj a m (e ▸ m')⟩, fun a m => (List.mem_append.mp m).symm⟩
  | _, _, _, 0, .some (f := f) (g := r) x t, nd, w, ng, dj => by
    obtain ⟨n1, n2, n3⟩ := List.nodup_append.mp nd
    exact ⟨g ++ r, .some w (t.mono l fun _ _ => rfl), List.nodup_append.mpr ⟨ng, n2, fun a m b m' e => dj a m (List.mem_append_right _ (e ▸ m'))⟩, fun a m => (List.mem_append.mp m).elim .inr fun z => .inl (List.mem_append_right _ z)⟩
  | _, _, _, i + 1, .no t, nd, w, ng, dj => by
    obtain ⟨fp', h1, h2, h3⟩ := ownEnv_set l i t nd w ng dj
    exact ⟨fp', .no h1, h2, h3⟩
  | _, _, _, i + 1, .raw t, nd, w, ng, dj => by
    obtain ⟨fp', h1, h2, h3⟩ := ownEnv_set l i t nd w ng dj
    exact ⟨fp', .raw h1, h2, h3⟩
  | _, _, _, i + 1, .some (f := f) (g := r) x t, nd, w, ng, dj => by
    obtain ⟨n1, n2, n3⟩ := List.nodup_append.mp nd
    obtain ⟨fp', h1, h2, h3⟩ := ownEnv_set l i t n2 w ng fun a m m' => dj a m (List.mem_append_right _ m')
    refine ⟨f ++ fp', .some (x.mono l fun _ _ => rfl) h1, List.nodup_append.mpr ⟨n1, h2, fun a m b m' e => ?_⟩, fun a m => ?_⟩
    · subst e
      rcases h3 a m' with z | z
      · exact n3 a m a z rfl
      · exact dj a z (List.mem_append_left _ m)
    · rcases List.mem_append.mp m with z | z
      · exact .inl (List.mem_append_left _ z)
      · exact (h3 a z).elim (fun z => .inl (List.mem_append_right _ z)) .inr
theorem ownEnv_put {o0 : O} (hr : ∀ a, o0 ≠ .raw a) : ∀ {σ : L2.St} {env : Env} {fp : List Addr} {i : Nat}, OwnEnv K B H σ env fp → fp.Nodup → env[i]? = some (some o0) →
    ∃ v g, σ[i]? = some (some v) ∧ Own K B H v o0 g ∧ g.Nodup ∧ (∀ a ∈ g, a ∈ fp) ∧
      ∀ (B' H' : Hp) (o' : O) (g' : List Addr), Le B B' → (∀ a ∈ fp, a ∉ g → H' a = H a) → Own K B' H' v o' g' → g'.Nodup → (∀ a ∈ g', a ∈ fp → a ∈ g) →
        ∃ fp', OwnEnv K B' H' σ (env.set i (some o')) fp' ∧ fp'.Nodup ∧ ∀ a ∈ fp', (a ∈ fp ∧ a ∉ g) ∨ a ∈ g'
  | _, _, _, _, .nil, _, e => by simp at e
  | _, _, _, 0, .no t, _, e => by simp at e
  | _, _, _, 0, .raw t, _, e => by simp at e; exact (hr _ e.symm).elim
  | _, _, _, 0, .some (v := v) (f := f) (g := r) x t, nd, e => by
    simp at e; subst e
    obtain ⟨n1, n2, n3⟩ := List.nodup_append.mp nd
    refine ⟨v, f, rfl, x, n1, fun a m => List.mem_append_left _ m, fun B' H' o' g' l k w ng dj => ⟨g' ++ r, .some w (t.mono l fun a m => k a (List.mem_append_right _ m) fun z => n3 a z a m rfl), ?_, fun a m => ?_⟩⟩
    · refine List.nodup_append.mpr ⟨ng, n2, fun a m b m' e => ?_⟩
      subst e
      exact n3 a (dj a m (List.mem_append_right _ m')) a m' rfl
    · rcases List.mem_append.mp m with z | z
      · exact .inr z
      · exact .inl ⟨List.mem_append_right _ z, fun q => n3 a q a z rfl⟩
  | _, _, _, i + 1, .no t, nd, e => by
    obtain ⟨v, g, h1, h2, h3, h4, h5⟩ := ownEnv_put hr (i := i) t nd (by simpa using e)
    refine ⟨v, g, by simpa using h1, h2, h3, h4, fun B' H' o' g' l k w ng dj => ?_⟩
    obtain ⟨fp', q1, q2, q3⟩ := h5 B' H' o' g' l k w ng dj
    exact ⟨fp', .no q1, q2, q3⟩
  | _, _, _, i + 1, .raw t, nd, e => by
    obtain ⟨v, g, h1, h2, h3, h4, h5⟩ := ownEnv_put hr (i := i) t nd (by simpa using e)
    refine ⟨v, g, by simpa using h1, h2, h3, h4, fun B' H' o' g' l k w ng dj => ?_⟩
    obtain ⟨fp', q1, q2, q3⟩ := h5 B' H' o' g' l k w ng dj
    exact ⟨fp', .raw q1, q2, q3⟩
  | _, _, _, i + 1, .some (f := f) (g := r) x t, nd, e => by
    obtain ⟨n1, n2, n3⟩ := List.nodup_append.mp nd
    obtain ⟨v, g, h1, h2, h3, h4, h5⟩ := ownEnv_put hr (i := i) t n2 (by simpa using e)
    refine ⟨v, g, by simpa using h1, h2, h3, fun a m => List.mem_append_right _ (h4 a m), fun B' H' o' g' l k w ng dj => ?_⟩
    obtain ⟨fp', q1, q2, q3⟩ := h5 B' H' o' g' l (fun a m n => k a (List.mem_append_right _ m) n) w ng fun a m m' => dj a m (List.mem_append_right _ m')
    refine ⟨f ++ fp', .some (x.mono l fun a m => k a (List.mem_append_left _ m) fun z => n3 a m a (h4 a z) rfl) q1, List.nodup_append.mpr ⟨n1, q2, fun a m b m' e => ?_⟩, fun a m => ?_⟩
    · subst e
      rcases q3 a m' with ⟨z, _⟩ | z
      · exact n3 a m a z rfl
      · exact n3 a m a (h4 a (dj a z (List.mem_append_left _ m))) rfl
    · rcases List.mem_append.mp m with z | z
      · exact .inl ⟨List.mem_append_left _ z, fun q => n3 a z a (h4 a q) rfl⟩
      · exact (q3 a z).elim (fun ⟨z1, z2⟩ => .inl ⟨List.mem_append_right _ z1, z2⟩) .inr

/-- a name gets a result -/
theorem RR.asg {Hs : Hp} {r : R} (x : RR K G B env fp σ Hs) (e : Ext Hs B H B') (w : VOk K Hs fp B' H v r) (s : r.st) (i : Nat) : ∃ fp', RR K G B' (env.set i (some r.o)) fp' (σ.set i (some v)) H := by
  have y := x.ext e
  have main : ∀ g, Own K B' H v r.o g → g.Nodup → (∀ a ∈ g, Hs a = none ∧ B' a = none) → ∃ fp', RR K G B' (env.set i (some r.o)) fp' (σ.set i (some v)) H := fun g wg ng hg => by
    obtain ⟨fp', h1, h2, h3⟩ := ownEnv_set (Le.refl _) i y.own y.nd wg ng fun a m z => by
      obtain ⟨u, h⟩ := x.own.dom a z
      rw [(hg a m).1] at h; cases h
    exact ⟨fp', y.bh, y.gh, y.gb, h1, h2, fun a m => (h3 a m).elim (y.fb a) fun z => ⟨(hg a z).2, x.gh.none (hg a z).1⟩⟩
  cases r with
  | v d => exact main [] (.fro w) (by simp) fun a m => absurd m (by simp)
  | t o => obtain ⟨f, w, nf, hf⟩ := w; exact main f w nf hf
  | b o => exact s.elim
/-- a name's own thing changes -/
theorem RR.put {o0 : O} {i : Nat} (x : RR K G B env fp σ H) (hi : env[i]? = some (some o0)) (hr : ∀ a, o0 ≠ .raw a := by intro _ h; cases h) : ∃ v g, σ[i]? = some (some v) ∧ Own K B H v o0 g ∧ g.Nodup ∧ (∀ a ∈ g, a ∈ fp ∧ B a = none ∧ G a = none) ∧
    ∀ (B' H' : Hp) (o' : O) (g' : List Addr), Le B B' → Le B' H' → (∀ a o, a ∉ g → H a = some o → H' a = some o) → (∀ a o, H a = some o → a ∉ g → B a = none → B' a = none) → Own K B' H' v o' g' → g'.Nodup →
      (∀ a ∈ g', (a ∈ fp → a ∈ g) ∧ B' a = none ∧ G a = none) → ∃ fp', RR K G B' (env.set i (some o')) fp' σ H' := by
  obtain ⟨v, g, h1, h2, h3, h4, h5⟩ := ownEnv_put hr x.own x.nd hi
  refine ⟨v, g, h1, h2, h3, fun a m => ⟨h4 a m, x.fb a (h4 a m)⟩, fun B' H' o' g' l bh k nb w ng hg => ?_⟩
  have gn : ∀ a o, G a = some o → a ∉ g := fun a o q m => by rw [(x.fb a (h4 a m)).2] at q; cases q
  obtain ⟨fp', q1, q2, q3⟩ := h5 B' H' o' g' l (fun a m n => by
    obtain ⟨u, h⟩ := x.own.dom a m
    rw [h]; exact k a u n h) w ng fun a m m' => (hg a m).1 m'
  refine ⟨fp', bh, fun a o q => k a o (gn a o q) (x.gh a o q), fun a o q => nb a o (x.gh a o q) (gn a o q) (x.gb a o q), q1, q2, fun a m => ?_⟩
  rcases q3 a m with ⟨z1, z2⟩ | z
  · obtain ⟨u, h⟩ := x.own.dom a z1
    exact ⟨nb a u h z2 (x.fb a z1).1, (x.fb a z1).2⟩
  · exact (hg a z).2
/-- what a name holds is let be still -/
theorem RR.frz {o0 : O} {i : Nat} (x : RR K G B env fp σ H) (hi : env[i]? = some (some o0)) (hr : ∀ a, o0 ≠ .raw a) : ∃ B' fp', Le B B' ∧ RR K G B' (env.set i (some (.fro o0.frz))) fp' σ H := by
  obtain ⟨v, g, h1, h2, h3, h4, h5⟩ := x.put hi hr
  have l := addB_le g x.bh
  obtain ⟨fp', h⟩ := h5 (addB B H g) H (.fro o0.frz) [] l (addB_bh g x.bh) (fun _ _ _ h => h) (fun a o _ n z => by rw [addB_out n]; exact z)
    (.fro (h2.freeze l fun a m u q => by rw [addB_in m]; exact q)) (by simp) fun a m => absurd m (by simp)
  exact ⟨_, fp', l, h⟩
/-- a change beside all that is known -/
theorem RR.beside {a : Addr} {u : HO} (x : RR K G B env fp σ H) (h1 : a ∉ fp) (h2 : B a = none) (h3 : G a = none) : RR K G B env fp σ (upd H a u) where
  bh := fun b o q => by rw [upd_ne (ne_of_none q h2)]; exact x.bh b o q
  gh := fun b o q => by rw [upd_ne (ne_of_none q h3)]; exact x.gh b o q
  gb := x.gb
  own := x.own.mono (.refl _) fun b m => upd_ne fun e => h1 (e ▸ m)
  nd := x.nd
  fb := x.fb
end

section
variable {X : Cx} {W : WX} {G B B' : Hp} {d : En} {D : Ends} {st : Stmt} {rest : List Stmt} {m m1 m2 : WS} {σ σ' : L2.St} {e : Expr} {t : WE} {pos : Pos}
theorem SOk.later (x : SOk X W G B d D σ) (l : Le B B') : SOk X W G B' d D σ' where
  nx := fun σ H B2 env fp l2 => x.nx σ H B2 env fp (l.trans l2)
  bk := fun σ H B2 env fp l2 => x.bk σ H B2 env fp (l.trans l2)
  ct := fun σ H B2 env fp l2 => x.ct σ H B2 env fp (l.trans l2)
  rt := fun v H B2 r f l2 => x.rt v H B2 r f (l.trans l2)
  ex := fun n cls σ H B2 env fp l2 => x.ex n cls σ H B2 env fp (l.trans l2)
theorem RR.same {K : K0} {H H' : Hp} {env : Env} {fp : List Addr} (rr : RR K G B env fp σ H) (l : Le H H') : RR K G B env fp σ H' :=
  rr.ext ⟨l, .refl _, rr.bh.trans l, fun _ _ _ n => n⟩
theorem SOk.x {H : Hp} {env : Env} {fp : List Addr} (x : SOk X W G B d D σ) (rr : RR X.K G B env fp σ H) : XOk X.mg W H σ (fun n => d.ex n env) :=
  fun n cls H' en hm l => x.ex n cls σ H' B env fp (.refl _) (rr.same l) en hm
/-- a result goes out -/
theorem SOk.ret {H H' : Hp} {env : Env} {fp : List Addr} {v : V} {r : R} (x : SOk X W G B d D σ) (rr : RR X.K G B env fp σ H) (e : Ext H B H' B') (w : VOk X.K H fp B' H' v r) (q : d.rt r.out) : D.rt v H' := by
  have y := rr.ext e
  cases r with
  | v z => exact x.rt v H' B' (.v z) [] e.le y.bh y.gh y.gb (by simp) (by simp) w q
  | t o =>
    obtain ⟨f, w, nf, hf⟩ := w
    exact x.rt v H' B' (.t o) f e.le y.bh y.gh y.gb (fun a m => ⟨(hf a m).2, rr.gh.none (hf a m).1⟩) nf w q
  | b o =>
    obtain ⟨f, w, hs⟩ := w
    exact x.rt v H' B' (.t o) f e.le y.bh y.gh y.gb (fun a m => y.fb a (hs.subset m)) (y.nd.sublist hs) w q

/-! ### blocks -/
def wNil : WS := fun D env => D.nx env
def wSq (s r : WS) : WS := fun D env => ∃ J : Env → Prop, s { D with nx := J } env ∧ ∀ e, J e → r D e
theorem wSq_of {s r : WS} {D : En} {env : Env} (h : s { D with nx := r D } env) : wSq s r D env := ⟨_, h, fun _ h => h⟩
theorem dss_nil : DSs X W G [] wNil := PSsi pss_nil fun D σ H ⟨B, env, fp, d, rr, hm, x⟩ => x.nx σ H B env fp (.refl _) rr hm
theorem dss_cons (h1 : DS X W G st m1) (h2 : DSs X W G rest m2) : DSs X W G (st :: rest) (wSq m1 m2) := by
  refine PSsi (pss_cons h1 h2) fun D σ H ⟨B, env, fp, d, rr, ⟨J, hm, hj⟩, x⟩ => ?_
  refine ⟨B, env, fp, { d with nx := J }, rr, hm, ⟨fun σ' H' B' env' fp' l rr' j => ?_, x.bk, x.ct, x.rt, x.ex⟩⟩
  exact ⟨B', env', fp', d, rr', hj _ j, x.later l⟩
theorem dss_one (h1 : DS X W G st m) : DSs X W G [st] m := pss_one h1
/-- names whose things are let be still ahead of a statement -/
def frzAt (env : Env) (i : Nat) : Env := match env[i]? with
  | some (some (.raw _)) => env
  | some (some o) => env.set i (some (.fro o.frz))
  | _ => env
def wFrz (is : List Nat) (s : WS) : WS := fun D env => s D (is.foldl frzAt env)
theorem RR.frzAll {K : K0} {H : Hp} : ∀ (is : List Nat) {env : Env} {fp : List Addr} {B : Hp}, RR K G B env fp σ H → ∃ B' fp', Le B B' ∧ RR K G B' (is.foldl frzAt env) fp' σ H
  | [], _, fp, B, x => ⟨B, fp, .refl _, x⟩
  | i :: is, env, fp, B, x => by
    have one : ∃ B' fp', Le B B' ∧ RR K G B' (frzAt env i) fp' σ H := by
      unfold frzAt
      split
      · exact ⟨B, fp, .refl _, x⟩
      · rename_i o hr e
        exact x.frz e fun a q => hr a q
      · exact ⟨B, fp, .refl _, x⟩
    obtain ⟨B1, f1, l1, x1⟩ := one
    obtain ⟨B2, f2, l2, x2⟩ := RR.frzAll is x1
    exact ⟨B2, f2, l1.trans l2, x2⟩
theorem ds_frz (is : List Nat) (h : DS X W G st m) : DS X W G st (wFrz is m) := PSi h fun D σ H ⟨B, env, fp, d, rr, hm, x⟩ => by
  obtain ⟨B', fp', l, y⟩ := rr.frzAll is
  exact ⟨B', _, fp', d, y, hm, x.later l⟩

/-! ### small statements -/
def wPass : WS := fun D env => D.nx env
def wBrk : WS := fun D env => D.bk env
def wCnt : WS := fun D env => D.ct env
theorem ds_pass : DS X W G (.Pass pos) wPass := PSi ps_pass fun D σ H ⟨B, env, fp, d, rr, hm, x⟩ => x.nx σ H B env fp (.refl _) rr hm
theorem ds_break : DS X W G (.Break pos) wBrk := PSi ps_break fun D σ H ⟨B, env, fp, d, rr, hm, x⟩ => x.bk σ H B env fp (.refl _) rr hm
theorem ds_continue : DS X W G (.Continue pos) wCnt := PSi ps_continue fun D σ H ⟨B, env, fp, d, rr, hm, x⟩ => x.ct σ H B env fp (.refl _) rr hm
def wRet (t : WE) : WS := fun D env => t env (fun r => D.rt r.out) (fun n => D.ex n env)
def wRetN : WS := fun D _ => D.rt (.v .none)
theorem ds_ret (h : DE X W G e t) : DS X W G (.Return (some e) pos) (wRet t) := PSi (ps_ret h) fun D σ H ⟨B, env, fp, d, rr, hm, x⟩ =>
  ⟨B, env, fp, _, _, rr, hm, fun v H' B' r e' w q => x.ret rr e' w q, x.x rr⟩
theorem ds_retN : DS X W G (.Return none pos) wRetN := PSi ps_retN fun D σ H ⟨B, env, fp, d, rr, hm, x⟩ =>
  x.rt .non H B (.v .none) [] (.refl _) rr.bh rr.gh rr.gb (by simp) (by simp) .non hm
def wAsg (i : Nat) (t : WE) : WS := fun D env => t env (fun r => r.st ∧ D.nx (env.set i (some r.o))) (fun n => D.ex n env)
theorem asg_ok {i : Nat} {te : TE} (ht : ∀ σ H QV, tD X W G t σ H QV → te σ H QV) (H : Hp) (h : tDS X W G (wAsg i t) D σ H) : tAsg te (gName i) D σ H := by
  obtain ⟨B, env, fp, d, rr, hm, x⟩ := h
  refine ht σ H _ ⟨B, env, fp, _, _, rr, hm, fun v H' B' r e' w ⟨s, q⟩ => ?_, x.x rr⟩
  obtain ⟨fp', y⟩ := rr.asg e' w s i
  exact x.nx _ H' B' _ fp' e'.le y q
theorem ds_set {i : Nat} {y : Str} {pos' : Pos} (hN : X.N.Nodup) (hi : X.N[i]? = some y) (hx : Loc X.env.scope y) (he : DE X W G e t) (hs : swapsWith e (some (.Name y pos')) pos.line X.env = pure false)
    (hf : X.fn y = true ∨ X.env.scope.names.lookup y = some .local) : DS X W G (.Assign [.Name y pos'] e pos) (wAsg i t) :=
  PSi (ps_set hN hi hx he hs hf) fun D σ H h => asg_ok (fun _ _ _ h => h) H h
/-- .. to be still from here on -/
def wLet (i : Nat) (t : WE) : WS := fun D env => t env (fun r => r.st ∧ D.nx (env.set i (some (.fro r.d)))) (fun n => D.ex n env)
theorem let_ok {i : Nat} {te : TE} (ht : ∀ σ H QV, tD X W G t σ H QV → te σ H QV) (H : Hp) (h : tDS X W G (wLet i t) D σ H) : tAsg te (gName i) D σ H := by
  obtain ⟨B, env, fp, d, rr, hm, x⟩ := h
  refine ht σ H _ ⟨B, env, fp, _, _, rr, hm, fun v H' B' r e' w ⟨s, q⟩ => ?_, x.x rr⟩
  obtain ⟨B2, e2, l2, rp⟩ := w.keep e' s
  obtain ⟨fp', y⟩ := rr.asg (r := .v r.d) e2 rp True.intro i
  exact x.nx _ H' B2 _ fp' e2.le y q
theorem ds_let {i : Nat} {y : Str} {pos' : Pos} (hN : X.N.Nodup) (hi : X.N[i]? = some y) (hx : Loc X.env.scope y) (he : DE X W G e t) (hs : swapsWith e (some (.Name y pos')) pos.line X.env = pure false)
    (hf : X.fn y = true ∨ X.env.scope.names.lookup y = some .local) : DS X W G (.Assign [.Name y pos'] e pos) (wLet i t) :=
  PSi (ps_set hN hi hx he hs hf) fun D σ H h => let_ok (fun _ _ _ h => h) H h
/-- an expression alone -/
def wExp (t : WE) : WS := fun D env => t env (fun _ => D.nx env) (fun n => D.ex n env)
theorem ds_expr (he : DE X W G e t) (hs : swapsWith e none pos.line X.env = pure false) : DS X W G (.Expr e pos) (wExp t) :=
  PSi (ps_expr he hs) fun D σ H ⟨B, env, fp, d, rr, hm, x⟩ => ⟨B, env, fp, _, _, rr, hm, fun v H' B' r e' w q => x.nx _ H' B' env fp e'.le (rr.ext e') q, x.x rr⟩
def wIf (c : WT) (a b : WS) : WS := fun D env => c env (fun k => if k = true then a D env else b D env) (fun n => D.ex n env)
theorem ds_if {c : Expr} {a b : List Stmt} {tc : WT} (hc : DT X W G c tc) (ha : DSs X W G a m1) (hb : DSs X W G b m2) : DS X W G (.If c a b pos) (wIf tc m1 m2) := by
  refine PSi (ps_if hc ha hb) fun D σ H ⟨B, env, fp, d, rr, hm, x⟩ => ?_
  refine ⟨B, env, fp, _, _, rr, hm, fun k H' B' e' q => ?_, x.x rr⟩
  cases k with
  | true => rw [if_pos rfl] at q ⊢; exact ⟨B', env, fp, d, rr.ext e', q, x.later e'.le⟩
  | false => rw [if_neg (by simp)] at q ⊢; exact ⟨B', env, fp, d, rr.ext e', q, x.later e'.le⟩
/-- n += e, ints -/
def wAug (i : Nat) (t : WE) : WS := fun D env => ∃ k, env[i]? = some (some (.fro (.int k))) ∧ t env (fun r => ∃ j, r.d = .int j ∧ D.nx (env.set i (some (.fro (.int (k + j)))))) (fun n => D.ex n env)
theorem ip_addI : PIp X .Add (fun x y H Q => ∃ i j, x = .int i ∧ y = .int j ∧ Q (.int (i + j)) H) := iop_add
theorem ds_aug {i : Nat} {y : Str} {pos' : Pos} (hN : X.N.Nodup) (hi : X.N[i]? = some y) (hx : Loc X.env.scope y) (he : DE X W G e t)
    (hf : X.fn y = true ∨ X.env.scope.names.lookup y = some .local) : DS X W G (.AugAssign (.Name y pos') .Add e pos) (wAug i t) := by
  refine PSi (ps_aug hN hi hx he ip_addI hf) fun D σ H ⟨B, env, fp, d, rr, ⟨k, h0, hm⟩, x⟩ => ?_
  obtain ⟨v, g, h1, h2, h3⟩ := rr.own.get h0
  refine ⟨v, h1, B, env, fp, _, _, rr, hm, fun u H' B' r e' w ⟨j, q2, q3⟩ => ?_, x.x rr⟩
  cases h2 with
  | fro rk =>
    have hj := w.now e'
    rw [q2] at hj
    refine ⟨k, j, rk.int_inv, hj.int_inv, ?_⟩
    obtain ⟨fp', y⟩ := rr.asg (v := .int (k + j)) (r := .v (.int (k + j))) e' (.int _) True.intro i
    exact x.nx _ H' B' _ fp' e'.le y q3
/-- raise X('..') -/
def wRaise (n : Str) : WS := fun D env => D.ex n env
theorem ds_raise {n : Str} {C : Addr} (hc : X.calm = true) (tk : Takes X W) (gC : X.mg n = some (.ref C)) (he : PMk X e (fun _ H Q => Q (.ref C) none H)) : DS X W G (.Raise (some e) none pos) (wRaise n) :=
  PSi (ps_raise hc tk he) fun D σ H ⟨B, env, fp, d, rr, hm, x⟩ => x.ex n (.ref C) σ H B env fp (.refl _) rr hm gC
end
end DL

set_option Elab.async false
set_option linter.all false
set_option maxRecDepth 100000
set_option maxHeartbeats 1000000
/-! DL8: changes of own things, targets, loops, comprehensions over data. -/
namespace DL
open PySem L2 PyProof.Rows

/-! ### own lists and dicts changed at a name -/
section
variable {X : Cx} {W : WX} {G : Hp} {e : Expr} {t : WE} {pos : Pos}
/-- what an append makes of an own thing -/
def appO : O → R → (O → Prop) → Prop
  | .lst ds, r, Q => ds.length < sizeLine ∧ Q (.lst (ds ++ [r.d]))
  | .lsts os, r, Q => os.length < sizeLine ∧ Q (.lsts (os ++ [r.o]))
  | _, _, _ => False
def isLst : O → Prop
  | .lst _ => True
  | .lsts _ => True
  | _ => False
@[simp] theorem isLst_lst (ds : List D) : isLst (.lst ds) = True := rfl
@[simp] theorem isLst_lsts (ds : List O) : isLst (.lsts ds) = True := rfl
@[simp] theorem appO_lst (ds : List D) (r : R) (Q : O → Prop) : appO (.lst ds) r Q = (ds.length < sizeLine ∧ Q (.lst (ds ++ [r.d]))) := rfl
@[simp] theorem appO_lsts (os : List O) (r : R) (Q : O → Prop) : appO (.lsts os) r Q = (os.length < sizeLine ∧ Q (.lsts (os ++ [r.o]))) := rfl
def wApp (i : Nat) (t : WE) : WS := fun D env => ∃ o, env[i]? = some (some o) ∧ isLst o ∧ t env (fun r => r.st ∧ appO o r fun o' => D.nx (env.set i (some o'))) (fun n => D.ex n env)
theorem upd_keep {H : Hp} {a b : Addr} {u o : HO} (h : H b = some o) (n : b ≠ a) : upd H a u b = some o := by rw [upd_ne n]; exact h
/-- a temp's addresses are none of the frame's -/
theorem RR.apart {K : K0} {B Hs : Hp} {env : Env} {fp g : List Addr} {σ : L2.St} {B' : Hp} (x : RR K G B env fp σ Hs) (h : ∀ a ∈ g, Hs a = none ∧ B' a = none) : ∀ a ∈ g, a ∉ fp ∧ B' a = none ∧ G a = none := fun a m =>
  ⟨fun z => (x.own.dom a z).elim fun u hu => (by rw [(h a m).1] at hu; cases hu), (h a m).2, x.gh.none (h a m).1⟩
theorem app_core {B H Hs Bs : Hp} {env : Env} {fp : List Addr} {σ : L2.St} {D : Ends} {d : En} {r : R} {v : V} {i : Nat} {o : O} (rr0 : RR X.K G Bs env fp σ Hs) (e' : Ext Hs Bs H B) (w : VOk X.K Hs fp B H v r) (s : r.st) (x : SOk X W G Bs d D σ)
    (hi : env[i]? = some (some o)) (ha : appO o r fun o' => d.nx (env.set i (some o'))) :
    ∃ vi, σ[i]? = some (some vi) ∧ rAppend vi [v] H (fun _ H1 => D.nx σ H1) := by
  have rr := rr0.ext e'
  cases o with
  | lst ds =>
    obtain ⟨B2, e2, l2, rp⟩ := w.keep e' s
    have rr2 := rr0.ext e2
    obtain ⟨vi, g, h1, h2, h3, h4, h5⟩ := rr2.put hi
    cases h2 with
    | @lst a vs _ hl rl =>
      refine ⟨_, h1, a, vs, v, rfl, rfl, hl, by rw [rl.length]; exact ha.1, ?_⟩
      have na : B2 a = none := (h4 a (by simp)).2.1
      obtain ⟨fp', y⟩ := h5 B2 (upd H a (.lst (vs ++ [v]))) (.lst (ds ++ [r.d])) [a] (.refl _)
        (fun b u q => upd_keep (rr2.bh b u q) (ne_of_none q na)) (fun b u n q => upd_keep q fun z => n (by simp [z])) (fun _ _ _ _ q => q)
        (.lst upd_same (rl.append (.one rp))) (by simp) (fun b m => ⟨fun _ => m, (h4 b m).2⟩)
      exact x.nx σ _ B2 _ fp' e2.le y ha.2
  | lsts os =>
    obtain ⟨vi, g, h1, h2, h3, h4, h5⟩ := rr.put hi
    cases h2 with
    | @lsts a vs _ f hl rl =>
      refine ⟨_, h1, a, vs, v, rfl, rfl, hl, by rw [rl.length]; exact ha.1, ?_⟩
      have na : B a = none := (h4 a (by simp)).2.1
      have key : ∀ g', Own X.K B H v r.o g' → g'.Nodup → (∀ b ∈ g', b ∉ fp ∧ B b = none ∧ G b = none) → D.nx σ (upd H a (.lst (vs ++ [v]))) := fun g' wg ng hg => by
        have dj : ∀ b ∈ g', b ∉ a :: f := fun b m z => (hg b m).1 (h4 b z).1
        have nd2 : (a :: (f ++ g')).Nodup := by
          obtain ⟨n1, n2⟩ := List.nodup_cons.mp h3
          refine List.nodup_cons.mpr ⟨fun m => ?_, List.nodup_append.mpr ⟨n2, ng, fun b m c m' e => dj c m' (e ▸ List.mem_cons_of_mem _ m)⟩⟩
          rcases List.mem_append.mp m with m | m
          · exact n1 m
          · exact dj a m List.mem_cons_self
        have hne : ∀ b ∈ f ++ g', upd H a (.lst (vs ++ [v])) b = H b := fun b m => upd_ne fun z => by
          subst z
          exact (List.nodup_cons.mp nd2).1 m
        have t1 := rl.mono (H' := upd H a (.lst (vs ++ [v]))) (Le.refl B) fun b m => hne b (List.mem_append_left _ m)
        have t2 := wg.mono (H' := upd H a (.lst (vs ++ [v]))) (Le.refl B) fun b m => hne b (List.mem_append_right _ m)
        have t3 := t1.append (OwnAll.cons t2 .nil)
        rw [List.append_nil] at t3
        obtain ⟨fp', y⟩ := h5 B (upd H a (.lst (vs ++ [v]))) (.lsts (os ++ [r.o])) (a :: (f ++ g')) (.refl _)
          (fun b u q => upd_keep (rr.bh b u q) (ne_of_none q na)) (fun b u n q => upd_keep q fun z => n (by simp [z])) (fun _ _ _ _ q => q)
          (.lsts upd_same t3) nd2 (fun b m => by
            rcases List.mem_cons.mp m with z | z
            · subst z; exact ⟨fun _ => List.mem_cons_self, (h4 b List.mem_cons_self).2⟩
            · rcases List.mem_append.mp z with z | z
              · exact ⟨fun _ => List.mem_cons_of_mem _ z, (h4 b (List.mem_cons_of_mem _ z)).2⟩
              · exact ⟨fun q => absurd q (hg b z).1, (hg b z).2⟩)
        exact x.nx σ _ B _ fp' e'.le y ha.2
      cases r with
      | v d => exact key [] (.fro w) (by simp) fun b m => absurd m (by simp)
      | t o => obtain ⟨g', w, ng, hg⟩ := w; exact key g' w ng (rr0.apart hg)
      | b o => exact s.elim
  | _ => exact (show False from ha).elim
/-- x.append(e), x a name -/
theorem ds_app {i : Nat} {ob : Expr} {apos cpos : Pos} (ho : PE X ob (tVar i)) (he : DE X W G e t)
    (hbase : attributeBase ob "append" X.env (eval ob X.env) = eval ob X.env)
    (hfew : ((backTo cpos (starEach [e] X.env)).all (fun x => !x.1) && (backToKw cpos (keywordEach [] X.env)).all (fun x => x.1.isSome)
      && decide ([e].length + ([] : List Keyword).length + (if ([] : List Keyword).isEmpty then 0 else 1) < 30)) = true)
    (hline : (apos.endLine == cpos.line) = true) (hs : starEach [e] X.env = (false, eval e X.env) :: starEach [] X.env) (hplain : (backTo cpos (starEach [] X.env)).any (·.1) = false)
    (hsw : swapsWith (.Call (.Attribute ob "append" apos) [e] [] cpos) none pos.line X.env = pure false) :
    DS X W G (.Expr (.Call (.Attribute ob "append" apos) [e] [] cpos) pos) (wApp i t) := by
  refine PSi (ps_expr (pe_bm PySem.F.plainAttrs_list PySem.F.slot_list_append PySem.F.type_list_append mt_append ho (pa_cons he pa_nil hs) hbase hfew hline hs hplain) hsw) fun D σ H ⟨B, env, fp, d, rr, ⟨o, hi, hl, hm⟩, x⟩ => ?_
  obtain ⟨v, g, h1, h2, h3⟩ := rr.own.get hi fun a q => by subst q; exact hl
  have ty : tyV X.K "list" v H := by
    cases h2 with
    | lst h r => exact .inl ⟨rfl, _, .inl (.inl h)⟩
    | lsts h r => exact .inl ⟨rfl, _, .inl (.inl h)⟩
    | _ => exact hl.elim
  refine ⟨v, h1, ty, B, env, fp, _, _, rr, hm, fun u H' B' r e' w ⟨s, q⟩ => ?_, x.x rr⟩
  obtain ⟨vi, z1, z2⟩ := app_core rr e' w s x hi q
  rw [h1] at z1
  cases z1
  exact z2
end
end DL

set_option Elab.async false
set_option linter.all false
set_option maxRecDepth 100000
set_option maxHeartbeats 1000000
/-! DL9: targets, what is walked, loops, comprehensions over data. -/
namespace DL
open PySem L2 PyProof.Rows

/-! ### targets -/
abbrev WG := D → Env → (Env → Prop) → Prop
abbrev WGs := List D → Env → (Env → Prop) → Prop
/-- the slots outside vs are as they were -/
def Touch (vs : List Nat) (σ σ' : L2.St) : Prop := σ'.length = σ.length ∧ ∀ i, i ∉ vs → σ'[i]? = σ[i]?
theorem Touch.refl (vs : List Nat) (σ : L2.St) : Touch vs σ σ := ⟨rfl, fun _ _ => rfl⟩
theorem Touch.trans {vs : List Nat} {a b c : L2.St} (h : Touch vs a b) (g : Touch vs b c) : Touch vs a c := ⟨g.1.trans h.1, fun i n => (g.2 i n).trans (h.2 i n)⟩
theorem wipe_get : ∀ (vs : List Nat) (σ : L2.St) (i : Nat), (wipe σ vs)[i]? = if i ∈ vs then (if i < σ.length then some none else none) else σ[i]?
  | [], σ, i => by simp [wipe]
  | v :: vs, σ, i => by
    unfold wipe
    have ih := wipe_get vs σ i
    by_cases h : v = i
    · subst h
      rw [if_pos List.mem_cons_self]
      by_cases hl : v < σ.length
      · rw [List.getElem?_set_self (by rw [wipe_length]; exact hl), if_pos hl]
      · rw [if_neg hl, List.getElem?_eq_none (by rw [List.length_set, wipe_length]; omega)]
    · rw [List.getElem?_set_ne h, ih]
      have : i ∈ v :: vs ↔ i ∈ vs := by simp [Ne.symm h]
      simp only [this]
theorem Touch.wipe {vs : List Nat} {σ σ' : L2.St} (h : Touch vs σ σ') : L2.wipe σ' vs = L2.wipe σ vs := by
  apply List.ext_getElem?
  intro i
  rw [wipe_get, wipe_get, h.1]
  split
  · rfl
  · rename_i n; exact h.2 i n

section
variable (X : Cx) (G : Hp)
def tDG (vs : List Nat) (g : WG) : TG := fun v σ H QV => ∃ B env fp d Q, RR X.K G B env fp σ H ∧ Rep X.K B v d ∧ g d env Q ∧ ∀ σ' env' fp', RR X.K G B env' fp' σ' H → Touch vs σ σ' → Q env' → QV σ' H
def tDGs (vs : List Nat) (g : WGs) : TGs := fun us σ H QV => ∃ B env fp ds Q, RR X.K G B env fp σ H ∧ RepAll X.K B us ds ∧ g ds env Q ∧ ∀ σ' env' fp', RR X.K G B env' fp' σ' H → Touch vs σ σ' → Q env' → QV σ' H
def DG (vs : List Nat) (tg : Expr) (g : WG) : Prop := PG X tg (tDG X G vs g)
def DGs (vs : List Nat) (ts : List Expr) (g : WGs) : Prop := PGs X ts (tDGs X G vs g)
end
def gN (i : Nat) : WG := fun d env Q => Q (env.set i (some (.fro d)))
def gsN : WGs := fun ds env Q => ds = [] ∧ Q env
def gsC (g : WG) (r : WGs) : WGs := fun ds env Q => ∃ d ds', ds = d :: ds' ∧ g d env fun env' => r ds' env' Q
def gT (n : Nat) (g : WGs) : WG := fun d env Q => ∃ ds, d = .tuple ds ∧ ds.length = n ∧ g ds env Q
section
variable {X : Cx} {G : Hp} {vs : List Nat} {e : Expr} {es : List Expr} {g : WG} {gs : WGs} {pos : Pos}
theorem PGi {t t' : TG} (h : PG X e t) (f : ∀ v σ H Q, t' v σ H Q → t v σ H Q) : PG X e t' := ⟨fun pins s σ H v u Q I r w => h.run pins s σ H v u Q I r (f v σ H Q w)⟩
theorem PGsi {t t' : TGs} (h : PGs X es t) (f : ∀ v σ H Q, t' v σ H Q → t v σ H Q) : PGs X es t' := ⟨fun pins s σ H v u Q I r w => h.run pins s σ H v u Q I r (f v σ H Q w)⟩
theorem dg_name {i : Nat} {x : Str} (hv : i ∈ vs) (hN : X.N.Nodup) (hi : X.N[i]? = some x) (hx : Loc X.env.scope x) (hf : X.fn x = true ∨ X.env.scope.names.lookup x = some .local) : DG X G vs (.Name x pos) (gN i) := by
  refine PGi (pg_name hN hi hx hf) fun v σ H QV ⟨B, env, fp, d, Q, rr, rp, hm, hq⟩ => ?_
  obtain ⟨fp', y⟩ := rr.asg (r := .v d) (.refl rr.bh) rp True.intro i
  refine hq _ _ fp' y ⟨by simp, fun j n => ?_⟩ hm
  rw [List.getElem?_set_ne]
  intro q; subst q; exact n hv
theorem dgs_nil : DGs X G vs [] gsN := PGsi pgs_nil fun us σ H QV ⟨B, env, fp, ds, Q, rr, rp, ⟨e, hm⟩, hq⟩ => by
  subst e
  cases rp
  exact ⟨rfl, hq σ env fp rr (.refl _ _) hm⟩
theorem dgs_cons (h1 : DG X G vs e g) (h2 : DGs X G vs es gs) (hs : (assignEach (e :: es) X.env).map (·.2) = assign e X.env :: (assignEach es X.env).map (·.2)) : DGs X G vs (e :: es) (gsC g gs) := by
  refine PGsi (pgs_cons h1 h2 hs) fun us σ H QV ⟨B, env, fp, ds, Q, rr, rp, ⟨d, ds', e1, hm⟩, hq⟩ => ?_
  subst e1
  cases rp with
  | cons r t =>
    refine ⟨_, _, rfl, B, env, fp, d, _, rr, r, hm, fun σ1 env1 fp1 rr1 t1 q1 => ?_⟩
    exact ⟨B, env1, fp1, ds', Q, rr1, t, q1, fun σ2 env2 fp2 rr2 t2 q2 => hq σ2 env2 fp2 rr2 (t1.trans t2) q2⟩
theorem dg_tup {k n : Nat} (hc : X.calm = true) (h : DGs X G vs es gs) (hn : (assignEach es X.env).length = n) (hst : (assignEach es X.env).findIdx? (·.1) = none) : DG X G vs (.Tuple es k pos) (gT n gs) := by
  refine PGi (pg_tup hc h hn hst) fun v σ H QV ⟨B, env, fp, d, Q, rr, rp, ⟨ds, e1, hl, hm⟩, hq⟩ => ?_
  subst e1
  obtain ⟨a, us, ev, s, t⟩ := rp.tup_inv
  exact ⟨a, us, ev, rr.bh.sqT s, by rw [t.length]; exact hl, B, env, fp, ds, Q, rr, t, hm, hq⟩
end

/-! ### what is walked -/
/-- the iterator J gives the things ds, one by one -/
structure Walk (K : K0) (B : Hp) (J : It) (ds : List D) : Prop where
  go : ∀ i H B1, Le B B1 → Le B1 H → i < ds.length → J.go i H
  stop : ∀ i H B1, Le B B1 → Le B1 H → ds.length ≤ i → J.stop i H
  yld : ∀ i H x H' B1, i < ds.length → Le B B1 → Le B1 H → J.yld i H x H' → ∃ d B2, ds[i]? = some d ∧ Ext H B1 H' B2 ∧ Rep K B2 x d
/-- .. while all that stood at its begin stands -/
structure WalkH (K : K0) (B H0 : Hp) (J : It) (ds : List D) : Prop where
  go : ∀ i H B1, Le B B1 → Le B1 H → Le H0 H → i < ds.length → J.go i H
  stop : ∀ i H B1, Le B B1 → Le B1 H → Le H0 H → ds.length ≤ i → J.stop i H
  yld : ∀ i H x H' B1, i < ds.length → Le B B1 → Le B1 H → Le H0 H → J.yld i H x H' → ∃ d B2, ds[i]? = some d ∧ Ext H B1 H' B2 ∧ Rep K B2 x d
theorem Walk.toH {K : K0} {B H0 : Hp} {J : It} {ds : List D} (w : Walk K B J ds) : WalkH K B H0 J ds :=
  ⟨fun i H B1 l1 l2 _ h => w.go i H B1 l1 l2 h, fun i H B1 l1 l2 _ h => w.stop i H B1 l1 l2 h, fun i H x H' B1 h l1 l2 _ y => w.yld i H x H' B1 h l1 l2 y⟩
abbrev WI := Env → (List D → Prop) → (Str → Prop) → Prop
section
variable (X : Cx) (W : WX) (G : Hp)
def tDI (m : WI) : TI := fun σ H R => ∃ B env fp Q E, RR X.K G B env fp σ H ∧ m env Q E ∧ (∀ J H' B' ds, Ext H B H' B' → Walk X.K B' J ds → Q ds → R J H') ∧ XOk X.mg W H σ E
def DI (tg iter : Expr) (m : WI) : Prop := PI X tg iter (tDI X W G m)
end
section
variable {X : Cx} {W : WX} {G : Hp} {tg iter e a b : Expr} {m ma mb : WE} {pos : Pos}
def tDIc (X : Cx) (W : WX) (G : Hp) (m : WI) : TI := fun σ H R => ∃ B env fp Q E, RR X.K G B env fp σ H ∧ m env Q E ∧ (∀ J H' B' ds, Ext H B H' B' → WalkH X.K B' H' J ds → Q ds → R J H') ∧ XOk X.mg W H σ E
def DIc (X : Cx) (W : WX) (G : Hp) (tg iter : Expr) (m : WI) : Prop := PI X tg iter (tDIc X W G m)
theorem PIi {t t' : TI} (h : PI X tg iter t) (f : ∀ σ H Q, t' σ H Q → t σ H Q) : PI X tg iter t' := ⟨fun pins s σ H R I w => h.run pins s σ H R I (f σ H R w)⟩
theorem walk_list {K : K0} {B : Hp} {a : Addr} {vs : List V} {ds : List D} (s : SqL K B a vs) (r : RepAll K B vs ds) : Walk K B (Itl K a) ds where
  go := fun i H B1 l1 l2 h => by
    have hl : i < vs.length := by rw [r.length]; exact h
    exact ⟨vs, vs[i], (l1.trans l2).sqL s, by simp [hl]⟩
  stop := fun i H B1 l1 l2 h => ⟨vs, (l1.trans l2).sqL s, by rw [r.length]; exact h⟩
  yld := fun i H x H' B1 hlt l1 l2 ⟨e, y⟩ => by
    subst e
    obtain ⟨d, h1, h2⟩ := r.getV (y vs ((l1.trans l2).sqL s))
    exact ⟨d, B1, h1, .refl l2, h2.mono l1⟩
theorem walk_tup {K : K0} {B : Hp} {a : Addr} {vs : List V} {ds : List D} (s : SqT K B a vs) (r : RepAll K B vs ds) : Walk K B (Itt K a) ds where
  go := fun i H B1 l1 l2 h => by
    have hl : i < vs.length := by rw [r.length]; exact h
    exact ⟨vs, vs[i], (l1.trans l2).sqT s, by simp [hl]⟩
  stop := fun i H B1 l1 l2 h => ⟨vs, (l1.trans l2).sqT s, by rw [r.length]; exact h⟩
  yld := fun i H x H' B1 hlt l1 l2 ⟨e, y⟩ => by
    subst e
    obtain ⟨d, h1, h2⟩ := r.getV (y vs ((l1.trans l2).sqT s))
    exact ⟨d, B1, h1, .refl l2, h2.mono l1⟩
def rgD (lo : Int) (n : Nat) : List D := (List.range n).map fun (i : Nat) => .int (lo + (i : Int))
theorem rgD_len (lo : Int) (n : Nat) : (rgD lo n).length = n := by simp [rgD]
theorem walk_range {K : K0} {B : Hp} (lo : Int) (n : Nat) : Walk K B (Itr lo n) (rgD lo n) where
  go := fun i H B1 l1 l2 h => by rw [rgD_len] at h; exact h
  stop := fun i H B1 l1 l2 h => by rw [rgD_len] at h; exact h
  yld := fun i H x H' B1 hlt l1 l2 y => by
    obtain ⟨e1, e2⟩ := y
    subst e1 e2
    rw [rgD_len] at hlt
    exact ⟨.int (lo + (i : Int)), B1, by unfold rgD; rw [List.getElem?_map, List.getElem?_range hlt]; rfl, .refl l2, .int _⟩
/-- a list: still -/
def wiL (t : WE) : WI := fun env Q E => t env (fun r => r.st ∧ ∃ ds, r.d = .list ds ∧ Q ds) E
def wiT (t : WE) : WI := fun env Q E => t env (fun r => r.sh ∧ ∃ ds, r.d = .tuple ds ∧ Q ds) E
theorem dic_of {m : WI} (h : DI X W G tg iter m) : DIc X W G tg iter m := PIi h fun σ H R ⟨B, env, fp, Q, E, rr, hm, hq, hx⟩ => ⟨B, env, fp, Q, E, rr, hm, fun J H' B' ds e w q => hq J H' B' ds e w.toH q, hx⟩
theorem walkH_list {K : K0} {B H0 : Hp} {a : Addr} {vs : List V} {ds : List D} (s : SqL K H0 a vs) (r : RepAll K B vs ds) : WalkH K B H0 (Itl K a) ds where
  go := fun i H B1 l1 l2 l3 h => by
    have hl : i < vs.length := by rw [r.length]; exact h
    exact ⟨vs, vs[i], l3.sqL s, by simp [hl]⟩
  stop := fun i H B1 l1 l2 l3 h => ⟨vs, l3.sqL s, by rw [r.length]; exact h⟩
  yld := fun i H x H' B1 hlt l1 l2 l3 ⟨e, y⟩ => by
    subst e
    obtain ⟨d, h1, h2⟩ := r.getV (y vs (l3.sqL s))
    exact ⟨d, B1, h1, .refl l2, h2.mono l1⟩
/-- a list that is looked at -/
def wiLB (t : WE) : WI := fun env Q E => t env (fun r => r.sh ∧ ∃ ds, r.d = .list ds ∧ Q ds) E
theorem dic_listB (h : DE X W G e m) : DIc X W G tg e (wiLB m) := by
  refine PIi (pi_list h) fun σ H R ⟨B, env, fp, Q, E, rr, hm, hq, hx⟩ => ?_
  refine ⟨B, env, fp, _, E, rr, hm, fun v H1 B1 r e1 w ⟨s, ds, ed, q⟩ => ?_, hx⟩
  obtain ⟨B2, e2, l2, rp⟩ := w.view e1 s
  rw [ed] at rp
  obtain ⟨a, vs, ev, sv, t⟩ := rp.list e2.bh
  exact ⟨a, ev, ⟨vs, sv⟩, hq _ H1 B2 ds e2 (walkH_list sv t) q⟩
theorem di_list (h : DE X W G e m) : DI X W G tg e (wiL m) := by
  refine PIi (pi_list h) fun σ H R ⟨B, env, fp, Q, E, rr, hm, hq, hx⟩ => ?_
  refine ⟨B, env, fp, _, E, rr, hm, fun v H1 B1 r e1 w ⟨s, ds, ed, q⟩ => ?_, hx⟩
  obtain ⟨B2, e2, l2, rp⟩ := w.keep e1 s
  rw [ed] at rp
  obtain ⟨a, vs, ev, sv, t⟩ := rp.list_inv
  exact ⟨a, ev, ⟨vs, e2.bh.sqL sv⟩, hq _ H1 B2 ds e2 (walk_list sv t) q⟩
theorem di_tup (h : DE X W G e m) : DI X W G tg e (wiT m) := by
  refine PIi (pi_tup h) fun σ H R0 ⟨B, env, fp, Q, E, rr, hm, hq, hx⟩ => ?_
  refine ⟨B, env, fp, _, E, rr, hm, fun v H1 B1 r e1 w ⟨s, ds, ed, q⟩ => ?_, hx⟩
  obtain ⟨B2, e2, l2, rp⟩ := w.view e1 s
  rw [ed] at rp
  obtain ⟨a, vs, ev, sv, t⟩ := rp.tupRep.tup_inv
  exact ⟨a, ev, ⟨vs, e2.bh.sqT sv⟩, hq _ H1 B2 ds e2 (walk_tup sv t) q⟩
def wiR1 (t : WE) : WI := fun env Q E => t env (fun r => ∃ j, r.d = .int j ∧ j < 2 ^ 62 ∧ -(2 ^ 62) ≤ j ∧ Q (rgD 0 j.toNat)) E
def wiR2 (p q : WE) : WI := fun env Q E => p env (fun x => q env (fun y => ∃ i j, x.d = .int i ∧ y.d = .int j ∧ (-(2 ^ 62) ≤ i ∧ i < 2 ^ 62 ∧ -(2 ^ 62) ≤ j ∧ j < 2 ^ 62) ∧ Q (rgD i (j - i).toNat)) E) E
theorem di_range1 {p : Pos} (hg : Gl X "range") (hm : X.mg "range" = none) (ha : DE X W G a ma) (hs : starEach [a] X.env = [(false, eval a X.env)]) (hs2 : starEach [a] X.env = (false, eval a X.env) :: starEach [] X.env) : DI X W G tg (.Call (.Name "range" p) [a] [] pos) (wiR1 ma) := by
  refine PIi (pi_range1 hg hm (pa_cons ha pa_nil hs2) hs) fun σ H R ⟨B, env, fp, Q, E, rr, hm, hq, hx⟩ => ?_
  refine ⟨B, env, fp, _, E, rr, hm, fun v H1 B1 r e1 w ⟨j, ed, h1, h2, q⟩ => ?_, hx⟩
  have hv := w.now e1
  rw [ed] at hv
  exact ⟨j, by rw [hv.int_inv], h2, h1, hq _ H1 B1 _ e1 (walk_range 0 _) q⟩
theorem di_range2 {p : Pos} (hg : Gl X "range") (hm : X.mg "range" = none) (ha : DE X W G a ma) (hb : DE X W G b mb) (hs : starEach [a, b] X.env = [(false, eval a X.env), (false, eval b X.env)]) (hs2 : starEach [b] X.env = [(false, eval b X.env)])
    (hs3 : starEach [a, b] X.env = (false, eval a X.env) :: starEach [b] X.env) (hs4 : starEach [b] X.env = (false, eval b X.env) :: starEach [] X.env) : DI X W G tg (.Call (.Name "range" p) [a, b] [] pos) (wiR2 ma mb) := by
  refine PIi (pi_range2 hg hm (pa_cons ha (pa_cons hb pa_nil hs4) hs3) hs hs2) fun σ H R ⟨B, env, fp, Q, E, rr, hm, hq, hx⟩ => ?_
  refine ⟨B, env, fp, _, E, rr, hm, fun v H1 B1 r e1 w q1 => ?_, hx⟩
  refine ⟨B1, env, fp, _, E, rr.ext e1, q1, fun v2 H2 B2 r2 e2 w2 ⟨i, j, ed1, ed2, hb, q⟩ => ?_, hx.later e1.same⟩
  have hv := (w.now e1).mono e2.same
  have hv2 := w2.now e2
  rw [ed1] at hv
  rw [ed2] at hv2
  exact ⟨i, j, by rw [hv.int_inv, hv2.int_inv], hb, hq _ H2 B2 _ (e1.trans e2) (walk_range i _) q⟩
end

/-! ### loops -/
def wFor (it : WI) (g : WG) (body : WS) : WS := fun D env => it env (fun ds => ∃ J : Nat → Env → Prop, J 0 env ∧
  (∀ i d env', ds[i]? = some d → J i env' → g d env' fun env2 => body { D with nx := J (i + 1), ct := J (i + 1), bk := D.nx } env2) ∧ ∀ env', J ds.length env' → D.nx env') (fun n => D.ex n env)
def wWhile (c : WT) (body : WS) : WS := fun D env => ∃ J : Nat → Env → Prop, (∃ n, J n env) ∧ ∀ n env', J n env' →
  c env' (fun k => if k = true then body { D with nx := fun e => ∃ m, m < n ∧ J m e, ct := fun e => ∃ m, m < n ∧ J m e, bk := D.nx } env' else D.nx env') (fun n => D.ex n env')
theorem while_st {α : Type} {c : WT} {body : WS} {D : En} {env : Env} (st : α → Env) (I : α → Prop) (μ : α → Nat) (x0 : α) (h0 : env = st x0) (hI : I x0)
    (step : ∀ x, I x → c (st x) (fun k => if k = true then body { D with nx := fun e => ∃ m, m < μ x ∧ ∃ y, e = st y ∧ I y ∧ m = μ y, ct := fun e => ∃ m, m < μ x ∧ ∃ y, e = st y ∧ I y ∧ m = μ y, bk := D.nx } (st x) else D.nx (st x)) (fun n => D.ex n (st x))) : wWhile c body D env := by
  subst h0
  refine ⟨fun n e => ∃ y, e = st y ∧ I y ∧ n = μ y, ⟨_, x0, rfl, hI, rfl⟩, ?_⟩
  rintro n e ⟨y, rfl, hy, rfl⟩
  exact step y hy
/-- a turn's end -/
theorem turn_to {α : Type} {st : α → Env} {I : α → Prop} {μ : α → Nat} {n : Nat} {e : Env} (y : α) (he : e = st y) (hI : I y) (hm : μ y < n) : ∃ m, m < n ∧ ∃ y, e = st y ∧ I y ∧ m = μ y := ⟨_, hm, y, he, hI, rfl⟩
theorem for_st {α : Type} {g : WG} {body : WS} {D : En} {env : Env} {ds : List PyData} (st : α → Env) (I : Nat → α → Prop) (x0 : α) (h0 : env = st x0) (hI : I 0 x0)
    (step : ∀ i d x, ds[i]? = some d → I i x → g d (st x) fun env2 => body { D with nx := fun e => ∃ y, e = st y ∧ I (i + 1) y, ct := fun e => ∃ y, e = st y ∧ I (i + 1) y, bk := D.nx } env2) (fin : ∀ x, I ds.length x → D.nx (st x)) :
    ∃ J : Nat → Env → Prop, J 0 env ∧ (∀ i d env', ds[i]? = some d → J i env' → g d env' fun env2 => body { D with nx := J (i + 1), ct := J (i + 1), bk := D.nx } env2) ∧ ∀ env', J ds.length env' → D.nx env' := by
  subst h0
  refine ⟨fun i e => ∃ y, e = st y ∧ I i y, ⟨x0, rfl, hI⟩, ?_, ?_⟩
  · rintro i d e hd ⟨y, rfl, hy⟩
    exact step i d y hd hy
  · rintro e ⟨y, rfl, hy⟩
    exact fin y hy
section
variable {X : Cx} {W : WX} {G : Hp} {tg iter c : Expr} {body : List Stmt} {it : WI} {g : WG} {vs : List Nat} {mb : WS} {tc : WT} {pos : Pos}
theorem ds_for (hp : PassesOwn (model X.prog X.w) X.A X.env X.xe) (hc : X.calm = true) (hi : DI X W G tg iter it) (hg : DG X G vs tg g) (hb : DSs X W G body mb) (hs : ∀ x, foldedSetIterable iter X.env x = pure x) :
    DS X W G (.For tg iter body [] pos) (wFor it g mb) := by
  refine PSi (ps_for hp hc hi hg hb hs) fun D σ H ⟨B, env, fp, d, rr, hm, x⟩ => ?_
  refine ⟨B, env, fp, _, _, rr, hm, fun J H1 B1 ds e1 wk ⟨P, p0, pt, pe⟩ => ?_, x.x rr⟩
  refine ⟨fun i m σ H => m = ds.length - i ∧ i ≤ ds.length ∧ ∃ B2 env' fp', Le B1 B2 ∧ RR X.K G B2 env' fp' σ H ∧ P i env', ⟨_, rfl, Nat.zero_le _, B1, env, fp, .refl _, rr.ext e1, p0⟩, ?_⟩
  rintro i m σ2 H2 ⟨rfl, hle, B2, env2, fp2, l2, rr2, pi⟩
  by_cases hlt : i < ds.length
  · refine .inr ⟨wk.go i H2 B2 l2 rr2.bh hlt, fun σ' H' => ∃ B2 env' fp', Le B1 B2 ∧ RR X.K G B2 env' fp' σ' H' ∧ P (i + 1) env', fun σ' H' ⟨B3, env3, fp3, l3, rr3, p3⟩ => ⟨_, (by omega), rfl, hlt, B3, env3, fp3, l3, rr3, p3⟩, fun y H3 hy => ?_⟩
    obtain ⟨dd, B3, hd, e3, rp⟩ := wk.yld i H2 y H3 B2 hlt l2 rr2.bh hy
    refine ⟨B3, env2, fp2, dd, _, rr2.ext e3, rp, pt i dd env2 hd pi, fun σ4 env4 fp4 rr4 t4 q4 => ?_⟩
    have l3 := l2.trans e3.le
    refine ⟨B3, env4, fp4, _, rr4, q4, ⟨fun σ5 H5 B5 env5 fp5 l5 rr5 p5 => ⟨B5, env5, fp5, l3.trans l5, rr5, p5⟩, fun σ5 H5 B5 env5 fp5 l5 rr5 p5 => x.nx σ5 H5 B5 env5 fp5 ((e1.le.trans l3).trans l5) rr5 p5,
      fun σ5 H5 B5 env5 fp5 l5 rr5 p5 => ⟨B5, env5, fp5, l3.trans l5, rr5, p5⟩, fun v H5 B5 r f l5 => x.rt v H5 B5 r f ((e1.le.trans l3).trans l5), fun n cls σ5 H5 B5 env5 fp5 l5 => x.ex n cls σ5 H5 B5 env5 fp5 ((e1.le.trans l3).trans l5)⟩⟩
  · have e : i = ds.length := by omega
    subst e
    exact .inl ⟨wk.stop _ H2 B2 l2 rr2.bh (Nat.le_refl _), x.nx σ2 H2 B2 env2 fp2 (e1.le.trans l2) rr2 (pe env2 pi)⟩
theorem ds_while (hp : PassesOwn (model X.prog X.w) X.A X.env X.xe) (hc : DT X W G c tc) (hb : DSs X W G body mb) : DS X W G (.While c body [] pos) (wWhile tc mb) := by
  refine PSi (ps_while hp hc hb) fun D σ H ⟨B, env, fp, d, rr, ⟨P, ⟨n0, p0⟩, pt⟩, x⟩ => ?_
  refine ⟨fun m σ H => ∃ B2 env' fp', Le B B2 ∧ RR X.K G B2 env' fp' σ H ∧ P m env', ⟨n0, B, env, fp, .refl _, rr, p0⟩, ?_⟩
  rintro m σ2 H2 ⟨B2, env2, fp2, l2, rr2, p2⟩
  have x2 : SOk X W G B2 d D σ := x.later l2
  refine ⟨B2, env2, fp2, _, _, rr2, pt m env2 p2, fun k H3 B3 e3 q => ?_, fun n cls H' en hm l => x2.ex n cls σ2 H' B2 env2 fp2 (.refl _) (rr2.same l) en hm⟩
  cases k with
  | true =>
    rw [if_pos rfl] at q ⊢
    refine ⟨fun σ' H' => ∃ m', m' < m ∧ ∃ B4 env' fp', Le B B4 ∧ RR X.K G B4 env' fp' σ' H' ∧ P m' env', fun σ' H' ⟨m', h4, B4, env4, fp4, l4, rr4, p4⟩ => ⟨m', h4, B4, env4, fp4, l4, rr4, p4⟩, B3, env2, fp2, _, rr2.ext e3, q, ?_⟩
    have l3 := l2.trans e3.le
    exact ⟨fun σ5 H5 B5 env5 fp5 l5 rr5 ⟨m', h5, p5⟩ => ⟨m', h5, B5, env5, fp5, l3.trans l5, rr5, p5⟩, fun σ5 H5 B5 env5 fp5 l5 rr5 p5 => x.nx σ5 H5 B5 env5 fp5 (l3.trans l5) rr5 p5,
      fun σ5 H5 B5 env5 fp5 l5 rr5 ⟨m', h5, p5⟩ => ⟨m', h5, B5, env5, fp5, l3.trans l5, rr5, p5⟩, fun v H5 B5 r f l5 => x.rt v H5 B5 r f (l3.trans l5), fun n cls σ5 H5 B5 env5 fp5 l5 => x.ex n cls σ5 H5 B5 env5 fp5 (l3.trans l5)⟩
  | false => rw [if_neg (by simp)] at q ⊢; exact x.nx σ2 H3 B3 env2 fp2 (l2.trans e3.le) (rr2.ext e3) q
end

/-! ### comprehensions -/
def wipeE (env : Env) : List Nat → Env
  | [] => env
  | v :: vs => (wipeE env vs).set v none
theorem ownEnv_no {K : K0} {B H : Hp} : ∀ {σ : L2.St} {env : Env} {fp : List Addr} (i : Nat), OwnEnv K B H σ env fp → ∃ fp', OwnEnv K B H (σ.set i none) (env.set i none) fp' ∧ fp'.Sublist fp
  | _, _, _, _, .nil => ⟨[], .nil, .slnil⟩
  | _, _, _, 0, .no t => ⟨_, .no t, List.Sublist.refl _⟩
  | _, _, _, 0, .some x t => ⟨_, .no t, List.sublist_append_right _ _⟩
  | _, _, _, i + 1, .no t => by
    obtain ⟨fp', h1, h2⟩ := ownEnv_no i t
    exact ⟨fp', .no h1, h2⟩
  | _, _, _, 0, .raw t => ⟨_, .no t, List.Sublist.refl _⟩
  | _, _, _, i + 1, .raw t => by
    obtain ⟨fp', h1, h2⟩ := ownEnv_no i t
    exact ⟨fp', .raw h1, h2⟩
  | _, _, _, i + 1, .some (f := f) x t => by
    obtain ⟨fp', h1, h2⟩ := ownEnv_no i t
    exact ⟨f ++ fp', .some x h1, List.Sublist.append (List.Sublist.refl _) h2⟩
theorem ownEnv_wipe {K : K0} {B H : Hp} {σ : L2.St} {env : Env} {fp : List Addr} (x : OwnEnv K B H σ env fp) : ∀ vs : List Nat, ∃ fp', OwnEnv K B H (wipe σ vs) (wipeE env vs) fp' ∧ fp'.Sublist fp
  | [] => ⟨fp, x, List.Sublist.refl _⟩
  | v :: vs => by
    obtain ⟨f1, h1, h2⟩ := ownEnv_wipe x vs
    obtain ⟨f2, h3, h4⟩ := ownEnv_no v h1
    exact ⟨f2, h3, h4.trans h2⟩
theorem RR.wipe {K : K0} {G B H : Hp} {σ : L2.St} {env : Env} {fp : List Addr} (x : RR K G B env fp σ H) (vs : List Nat) : ∃ fp', RR K G B (wipeE env vs) fp' (L2.wipe σ vs) H := by
  obtain ⟨fp', h1, h2⟩ := ownEnv_wipe x.own vs
  exact ⟨fp', x.bh, x.gh, x.gb, h1, x.nd.sublist h2, fun a m => x.fb a (h2.subset m)⟩
def noE : Str → Prop := fun _ => False
/-- a comprehension whose list holds still things -/
def wLc (it : WI) (vs : List Nat) (g : WG) (c : WT) (t : WE) : WE := fun env Q E => it env (fun ds => ∃ P : Nat → List D → Prop, P 0 [] ∧
  (∀ i d acc, ds[i]? = some d → P i acc → g d (wipeE env vs) fun env2 => c env2 (fun k => if k = true then t env2 (fun r => r.st ∧ acc.length < sizeLine ∧ P (i + 1) (acc ++ [r.d])) noE else P (i + 1) acc) noE) ∧
  ∀ acc, P ds.length acc → Q (.t (.lst acc))) E
def wYes : WT := fun _ Q _ => Q true
/-- what the middle of a comprehension's reading asks -/
def LcI (env : Env) (ds : List PyData) (vs : List Nat) (g : WG) (c : WT) (t : WE) (Q : R → Prop) : Prop := ∃ P : Nat → List PyData → Prop, P 0 [] ∧
  (∀ i d acc, ds[i]? = some d → P i acc → g d (wipeE env vs) fun env2 => c env2 (fun k => if k = true then t env2 (fun r => r.st ∧ acc.length < sizeLine ∧ P (i + 1) (acc ++ [r.d])) noE else P (i + 1) acc) noE) ∧
  ∀ acc, P ds.length acc → Q (.t (.lst acc))
theorem wLc_eq (it : WI) (vs : List Nat) (g : WG) (c : WT) (t : WE) (env : Env) (Q : R → Prop) (E : Str → Prop) : wLc it vs g c t env Q E = it env (fun ds => LcI env ds vs g c t Q) E := rfl
theorem take_succ {α : Type} {l : List α} {i : Nat} {d : α} (h : l[i]? = some d) : l.take (i + 1) = l.take i ++ [d] := by
  rw [List.take_succ, h]; rfl
theorem lc_map {env : Env} {ds : List PyData} {vs : List Nat} {g : WG} {t : WE} {Q : R → Prop} (f : PyData → PyData) (hz : ds.length ≤ sizeLine)
    (h : ∀ (i : Nat) d, ds[i]? = some d → ∀ A : R → Prop, (∀ r, r.st → r.d = f d → A r) → g d (wipeE env vs) fun env2 => t env2 A noE) (q : Q (.t (.lst (ds.map f)))) : LcI env ds vs g wYes t Q := by
  refine ⟨fun i acc => acc = (ds.take i).map f, by simp, fun i d acc hd ha => ?_, fun acc ha => ?_⟩
  · have ha : acc = (ds.take i).map f := ha
    refine h i d hd (fun r => r.st ∧ acc.length < sizeLine ∧ acc ++ [r.d] = (ds.take (i + 1)).map f) fun r rs rd => ⟨rs, ?_, ?_⟩
    · have hi := (List.getElem?_eq_some_iff.mp hd).1
      rw [ha, List.length_map, List.length_take]
      omega
    · rw [take_succ hd, List.map_append, ha, rd]; rfl
  · have ha : acc = (ds.take ds.length).map f := ha
    rw [ha, List.take_length]; exact q
theorem lc_filter {env : Env} {ds : List PyData} {vs : List Nat} {g : WG} {c : WT} {t : WE} {Q : R → Prop} (p : PyData → Bool) (f : PyData → PyData) (hz : ds.length ≤ sizeLine)
    (h : ∀ (i : Nat) d, ds[i]? = some d → ∀ (A : R → Prop) (B : Prop), (p d = true → ∀ r, r.st → r.d = f d → A r) → (p d = false → B) → g d (wipeE env vs) fun env2 => c env2 (fun k => if k = true then t env2 A noE else B) noE)
    (q : Q (.t (.lst ((ds.filter p).map f)))) : LcI env ds vs g c t Q := by
  refine ⟨fun i acc => acc = ((ds.take i).filter p).map f, by simp, fun i d acc hd ha => ?_, fun acc ha => ?_⟩
  · have ha : acc = ((ds.take i).filter p).map f := ha
    refine h i d hd _ _ (fun pd r rs rd => ⟨rs, ?_, ?_⟩) fun pd => ?_
    · have hi := (List.getElem?_eq_some_iff.mp hd).1
      rw [ha, List.length_map]
      have h1 := List.length_filter_le p (ds.take i)
      rw [List.length_take] at h1
      omega
    · show acc ++ [r.d] = ((ds.take (i + 1)).filter p).map f
      rw [take_succ hd, List.filter_append, List.map_append, ha, rd]
      simp [pd]
    · show acc = ((ds.take (i + 1)).filter p).map f
      rw [take_succ hd, List.filter_append, ha]
      simp [pd]
  · have ha : acc = ((ds.take ds.length).filter p).map f := ha
    rw [ha, List.take_length]; exact q
abbrev W0 : WX := fun _ _ _ _ => False
theorem xok0 {mg : Str → Option Value} {H : Hp} {σ : L2.St} : XOk mg W0 H σ noE := fun _ _ _ h => h.elim
section
variable {X : Cx} {W : WX} {G : Hp} {tg iter elt : Expr} {ifs : List Expr} {scope : Scope} {own : List (Str × Nat)} {it : WI} {g : WG} {c : WT} {t : WE} {pos : Pos}
abbrev Bk (X : Cx) (scope : Scope) (s : Shared) (H : Hp) (C : Addr) (cl : List (Str × Addr)) (fp : List Addr) : Cx := X.blk s H scope (compEnvC scope cl C X.env) fp
theorem lc_ok {σ : L2.St} {H : Hp} {QV : VK} {vs : List Nat} (h : tD X W G (wLc it vs g c t) σ H QV) :
    tLc (tDIc X W G it) (tDG X G vs g) (tDT X W0 G c) (tD X W0 G t) vs σ H QV := by
  obtain ⟨B, env, fp, Q, E, rr, hm, hq, hx⟩ := h
  refine ⟨B, env, fp, _, E, rr, hm, fun J H1 B1 ds e1 wk ⟨P, p0, pt, pe⟩ L nL => ?_, hx⟩
  -- the list at L is nobody's
  have out : ∀ {H2 B2 : Hp}, RR X.K G B2 env fp σ H2 → L ∉ fp := fun {H2 B2} r2 m => by
    obtain ⟨u, hu⟩ := (rr.ext e1).own.dom L m
    rw [nL] at hu; cases hu
  have gL : G L = none := (rr.ext e1).gh.none nL
  refine ⟨fun i m H2 => m = ds.length - i ∧ i ≤ ds.length ∧ ∃ B2 acc vs2, Le B1 B2 ∧ RR X.K G B2 env fp σ H2 ∧ B2 L = none ∧ H2 L = some (.lst vs2) ∧ RepAll X.K B2 vs2 acc ∧ (∀ a o, H1 a = some o → H2 a = some o) ∧ (∀ a o, H1 a = some o → B1 a = none → B2 a = none) ∧ P i acc,
    ⟨_, rfl, Nat.zero_le _, B1, [], [], .refl _, (rr.ext e1).beside (out (rr.ext e1)) (e1.bh.none nL) gL, e1.bh.none nL, upd_same, .nil, fun a o q => upd_keep q (ne_of_none q nL), fun _ _ _ n => n, p0⟩, ?_⟩
  rintro i m H2 ⟨rfl, hle, B2, acc, vs2, l2, rr2, bL, hL, ra, s2, n2, pi⟩
  by_cases hlt : i < ds.length
  · refine .inr ⟨wk.go i H2 B2 l2 rr2.bh s2 hlt, fun H' => ∃ B2 acc vs2, Le B1 B2 ∧ RR X.K G B2 env fp σ H' ∧ B2 L = none ∧ H' L = some (.lst vs2) ∧ RepAll X.K B2 vs2 acc ∧ (∀ a o, H1 a = some o → H' a = some o) ∧ (∀ a o, H1 a = some o → B1 a = none → B2 a = none) ∧ P (i + 1) acc,
      fun H' ⟨B3, acc3, vs3, z1, z2, z3, z4, z5, z6, z7, z8⟩ => ⟨_, (by omega), rfl, hlt, B3, acc3, vs3, z1, z2, z3, z4, z5, z6, z7, z8⟩, fun y H3 hy => ?_⟩
    obtain ⟨dd, B3, hd, e3, rp⟩ := wk.yld i H2 y H3 B2 hlt l2 rr2.bh s2 hy
    obtain ⟨fpw, rrw⟩ := (rr2.ext e3).wipe vs
    refine ⟨B3, _, fpw, dd, _, rrw, rp, pt i dd acc hd pi, fun σ4 env4 fp4 rr4 t4 q4 => ⟨?_, ?_⟩⟩
    · have := t4.wipe
      rw [this]
      exact (Touch.wipe ⟨wipe_length σ vs, fun j nj => by rw [wipe_get, if_neg nj]⟩)
    · refine ⟨B3, env4, fp4, _, noE, rr4, q4, fun k H5 B5 e5 q5 => ?_, xok0⟩
      have eA := e3.trans e5
      cases k with
      | false =>
        rw [if_neg (by simp)] at q5
        refine iteF ?_
        exact ⟨B5, acc, vs2, l2.trans eA.le, rr2.ext eA, eA.new L _ hL bL, eA.same _ _ hL, ra.mono eA.le, fun a o q => eA.same _ _ (s2 a o q), fun a o q n => eA.new a o (s2 a o q) (n2 a o q n), q5⟩
      | true =>
        rw [if_pos rfl] at q5
        refine iteT ?_
        refine ⟨B5, env4, fp4, _, noE, rr4.ext e5, q5, fun u H6 B6 r e6 w ⟨sr, hz, p6⟩ => ?_, xok0⟩
        obtain ⟨B7, e7, l7, rk⟩ := w.keep e6 sr
        have eB := eA.trans e7
        have hL6 := eB.same _ _ hL
        have bL7 := eB.new L _ hL bL
        have rr7 := rr2.ext eB
        refine ⟨vs2, hL6, by rw [ra.length]; exact hz, B7, acc ++ [r.d], vs2 ++ [u], l2.trans eB.le, rr7.beside (out rr7) bL7 gL, bL7, upd_same, (ra.mono eB.le).append (.one rk), fun a o q => ?_, fun a o q n => eB.new a o (s2 a o q) (n2 a o q n), p6⟩
        exact upd_keep (eB.same _ _ (s2 a o q)) (ne_of_none q nL)
  · have e : i = ds.length := by omega
    subst e
    refine .inl ⟨wk.stop _ H2 B2 l2 rr2.bh s2 (Nat.le_refl _), hq _ H2 B2 (.t (.lst acc)) ⟨e1.same.trans s2, e1.le.trans l2, rr2.bh, fun a o q n => n2 a o (e1.same _ _ q) (e1.new a o q n)⟩ ⟨[L], .lst hL ra, by simp, fun a m => ?_⟩ (pe acc pi)⟩
    simp at m; subst m
    exact ⟨e1.same.none nL, bL⟩
theorem de_lc (hc : X.calm = true) (hN : X.N.Nodup) (hi : DIc X W G tg iter it) {N : List Str} {sc : Scope} (ok : blkC N sc scope own = true) (eN : X.N = N) (eS : X.env.scope = sc)
    (hg : ∀ s H C cl fp, DG (Bk X scope s H C cl fp) G (own.map (·.2)) tg g) (ht : ∀ s H C cl fp, PTs (Bk X scope s H C cl fp) ifs (tDT X W0 G c)) (he : ∀ s H C cl fp, DE (Bk X scope s H C cl fp) W0 G elt t)
    (hs : ∀ x, foldedSetIterable iter X.env x = pure x) : DE X W G (.ListComp elt [⟨tg, iter, ifs, 0⟩] scope pos) (wLc it (own.map (·.2)) g c t) :=
  PEi (pe_lc (g := tDG X G (own.map fun p : Str × Nat => p.2) g) (tt := tDT X W0 G c) (te := tD X W0 G t) hc hN hi (by subst eN eS; exact blkOk_by ok) hg ht he hs) fun _ _ _ h => lc_ok h
theorem ds_setLc {i : Nat} {y : Str} {py spos : Pos} (hc : X.calm = true) (hN : X.N.Nodup) (hy : X.N[i]? = some y) (hyl : X.env.scope.names.lookup y = some .local)
    (hsw : swapsWith (.ListComp elt [⟨tg, iter, ifs, 0⟩] scope pos) (some (.Name y py)) spos.line X.env = pure true) (hi : DIc X W G tg iter it) {N : List Str} {sc : Scope} (ok : blkC N sc scope own = true) (eN : X.N = N) (eS : X.env.scope = sc)
    (hg : ∀ s H C cl fp, DG (Bk X scope s H C cl fp) G (own.map (·.2)) tg g) (ht : ∀ s H C cl fp, PTs (Bk X scope s H C cl fp) ifs (tDT X W0 G c)) (he : ∀ s H C cl fp, DE (Bk X scope s H C cl fp) W0 G elt t)
    (hs : ∀ x, foldedSetIterable iter X.env x = pure x) : DS X W G (.Assign [.Name y py] (.ListComp elt [⟨tg, iter, ifs, 0⟩] scope pos) spos) (wAsg i (wLc it (own.map (·.2)) g c t)) :=
  PSi (ps_setLc (g := tDG X G (own.map fun p : Str × Nat => p.2) g) (tt := tDT X W0 G c) (te := tD X W0 G t) hc hN hy hyl hsw hi (by subst eN eS; exact blkOk_by ok) hg ht he hs) fun D σ H h => asg_ok (fun _ _ _ h => lc_ok h) H h
theorem ds_letLc {i : Nat} {y : Str} {py spos : Pos} (hc : X.calm = true) (hN : X.N.Nodup) (hy : X.N[i]? = some y) (hyl : X.env.scope.names.lookup y = some .local)
    (hsw : swapsWith (.ListComp elt [⟨tg, iter, ifs, 0⟩] scope pos) (some (.Name y py)) spos.line X.env = pure true) (hi : DIc X W G tg iter it) {N : List Str} {sc : Scope} (ok : blkC N sc scope own = true) (eN : X.N = N) (eS : X.env.scope = sc)
    (hg : ∀ s H C cl fp, DG (Bk X scope s H C cl fp) G (own.map (·.2)) tg g) (ht : ∀ s H C cl fp, PTs (Bk X scope s H C cl fp) ifs (tDT X W0 G c)) (he : ∀ s H C cl fp, DE (Bk X scope s H C cl fp) W0 G elt t)
    (hs : ∀ x, foldedSetIterable iter X.env x = pure x) : DS X W G (.Assign [.Name y py] (.ListComp elt [⟨tg, iter, ifs, 0⟩] scope pos) spos) (wLet i (wLc it (own.map (·.2)) g c t)) :=
  PSi (ps_setLc (g := tDG X G (own.map fun p : Str × Nat => p.2) g) (tt := tDT X W0 G c) (te := tD X W0 G t) hc hN hy hyl hsw hi (by subst eN eS; exact blkOk_by ok) hg ht he hs) fun D σ H h => let_ok (fun _ _ _ h => lc_ok h) H h
theorem pts_no : PTs X [] (tDT X W0 G wYes) := ⟨fun pins s σ H Q I ⟨B, env, fp, Q', E, rr, hm, hq, hx⟩ => pts_nil.run pins s σ H Q I (hq true H B (.refl rr.bh) hm)⟩
theorem pts_if {e : Expr} (h : DT X W0 G e c) : PTs X [e] (tDT X W0 G c) := pts_one h
end
end DL

set_option Elab.async false
set_option linter.all false
set_option maxRecDepth 100000
set_option maxHeartbeats 1000000
/-! DL10: promises of defs over data, calls, a def's body. -/
namespace DL
open PySem L2 PyProof.Rows

/-- a promise: from the arguments, to what is wanted of the result, to what is wanted of an exception's class -/
abbrev Spec := List D → (R → Prop) → (Str → Prop) → Prop
def dsp (K : K0) (mg : Str → Option Value) (S : Spec) : Sp := fun vs H QV EX => ∃ B ds Q E, Le B H ∧ RepAll K B vs ds ∧ S ds Q E ∧
  (∀ v H' B' r, Ext H B H' B' → VOk K H [] B' H' v r → r.st → Q r → QV v H') ∧ ∀ n cls H', E n → mg n = some cls → Le H H' → EX cls none H'
mutual
/-- no lists, no dicts within -/
def noL : D → Bool
  | .list _ => false
  | .dict _ => false
  | .tuple ds => noLs ds
  | _ => true
def noLs : List D → Bool
  | [] => true
  | d :: ds => noL d && noLs ds
end
theorem noLs_of : ∀ {ds : List D}, (∀ d ∈ ds, noL d = true) → noLs ds = true
  | [], _ => by rw [noLs]
  | d :: ds, h => by rw [noLs, h d (List.mem_cons_self ..), noLs_of fun x m => h x (List.mem_cons_of_mem _ m)]; rfl
@[simp] theorem noL_int (i : Int) : noL (.int i) = true := by rw [noL] <;> simp
@[simp] theorem noL_str (i : Str) : noL (.str i) = true := by rw [noL] <;> simp
@[simp] theorem noL_bool (i : Bool) : noL (.bool i) = true := by rw [noL] <;> simp
@[simp] theorem noL_none : noL .none = true := by rw [noL] <;> simp
@[simp] theorem noL_tuple (ds : List D) : noL (.tuple ds) = noLs ds := by rw [noL]
@[simp] theorem noLs_nil : noLs [] = true := by rw [noLs]
@[simp] theorem noLs_cons (d : D) (ds : List D) : noLs (d :: ds) = (noL d && noLs ds) := by rw [noLs]
theorem noLs_flat : ∀ {ds : List D}, ds.all flatD = true → noLs ds = true
  | [], _ => by rw [noLs]
  | d :: ds, h => by
    rw [List.all_cons, Bool.and_eq_true] at h
    rw [noLs, noLs_flat h.2, Bool.and_true]
    cases d <;> simp [flatD] at h ⊢
/-- a result that leans on nothing that stood -/
def R.free : R → Prop
  | .v d => noL d = true
  | .t (.lst ds) => noLs ds = true
  | _ => False
@[simp] theorem R.free_v (d : D) : (R.v d).free = (noL d = true) := rfl
@[simp] theorem R.free_t (d : List D) : (R.t (.lst d)).free = (noLs d = true) := rfl
@[simp] theorem flatD_int (i : Int) : flatD (.int i) = true := rfl
@[simp] theorem flatD_str (i : Str) : flatD (.str i) = true := rfl
@[simp] theorem flatD_bool (i : Bool) : flatD (.bool i) = true := rfl
@[simp] theorem flatD_none : flatD .none = true := rfl
def wCall (S : Spec) (dds : List D) (ta : WA) : WE := fun env Q E => ta env (fun rs => S (rs.map R.d ++ dds) (fun r => (allSt rs ∨ r.free) ∧ Q r) E) E
section
variable {K : K0} {B B' H H' : Hp}
theorem Rep.anyB {v : V} {d : D} (r : Rep K B v d) (h : flatD d = true) : Rep K B' v d := by
  cases r with
  | non => exact .non
  | bl b => exact .bl b
  | int i => exact .int i
  | str x => exact .str x
  | _ => simp [flatD] at h
theorem RepAll.anyB : ∀ {vs : List V} {ds : List D}, RepAll K B vs ds → ds.all flatD = true → RepAll K B' vs ds
  | _, _, .nil, _ => .nil
  | _, _, .cons r t, h => by
    rw [List.all_cons, Bool.and_eq_true] at h
    exact .cons (r.anyB h.1) (RepAll.anyB t h.2)
/-- a list or a dict -/
def isLD : HO → Prop
  | .lst _ => True
  | .dK _ => True
  | .ext _ => True
  | _ => False
mutual
theorem Own.ld : ∀ {v : V} {o : O} {f : List Addr}, Own K B H v o f → ∀ a ∈ f, ∃ u, H a = some u ∧ isLD u
  | _, _, _, .fro r, a, m => by simp at m
  | _, _, _, .lst h r, a, m => by simp at m; subst m; exact ⟨_, h, True.intro⟩
  | _, _, _, .dic h r, a, m => by simp at m; subst m; exact ⟨_, h, True.intro⟩
  | _, _, _, .lsts h r, a, m => by
    rcases List.mem_cons.mp m with rfl | m
    · exact ⟨_, h, True.intro⟩
    · exact OwnAll.ld r a m
  | _, _, _, .nd (xs := xs) h r, a, m => by
    simp at m; subst m
    cases xs with
    | nil => exact ⟨_, h, True.intro⟩
    | cons x xs => exact ⟨_, h, True.intro⟩
  | _, _, _, .pin r, a, m => Own.ld r a m
  | _, _, _, .io _ r, a, m => Own.ld r a m
theorem OwnAll.ld : ∀ {vs : List V} {os : List O} {f : List Addr}, OwnAll K B H vs os f → ∀ a ∈ f, ∃ u, H a = some u ∧ isLD u
  | _, _, _, .nil, a, m => by simp at m
  | _, _, _, .cons r t, a, m => by
    rcases List.mem_append.mp m with m | m
    · exact Own.ld r a m
    · exact OwnAll.ld t a m
end
/-- .. without some lists and dicts -/
def cutB (B B0 : Hp) (g : List Addr) : Hp := fun a => if a ∈ g ∧ B0 a = none then none else B a
theorem cutB_out {B0 : Hp} {g : List Addr} {a : Addr} (h : ¬ (a ∈ g ∧ B0 a = none)) : cutB B B0 g a = B a := by unfold cutB; rw [if_neg h]
theorem cutB_le {B0 : Hp} (g : List Addr) : Le (cutB B B0 g) B := fun a o h => by
  unfold cutB at h
  split at h
  · cases h
  · exact h
mutual
theorem Rep.cutL {B0 : Hp} {g : List Addr} (hg : ∀ a ∈ g, ∃ u, B a = some u ∧ isLD u) : ∀ {v : V} {d : D}, noL d = true → Rep K B v d → Rep K (cutB B B0 g) v d
  | _, _, _, .non => .non
  | _, _, _, .bl b => .bl b
  | _, _, _, .int i => .int i
  | _, _, _, .str x => .str x
  | _, _, h, .lst s r => by simp [noL] at h
  | _, _, h, .tup (a := a) s r p => by
    have out : ∀ u, B a = some u → ¬ isLD u → cutB B B0 g a = some u := fun u e n => by
      rw [cutB_out (fun m => ?_)]
      · exact e
      · obtain ⟨u', e', l⟩ := hg a m.1
        rw [e] at e'; cases e'
        exact n l
    refine .tup ?_ (RepAll.cutL hg (by simpa using h) r) ?_
    · rcases s with (s | ⟨o, s⟩) | s
      · exact .inl (.inl (out _ s id))
      · exact .inl (.inr ⟨o, out _ s id⟩)
      · exact .inr s
    · rcases p with ⟨o, u, e, q⟩ | p
      · exact .inl ⟨o, u, out _ e id, q⟩
      · exact .inr p
  | _, _, h, .dic s r => by simp [noL] at h
  | _, _, h, .nd s r => by simp [noL] at h
theorem RepAll.cutL {B0 : Hp} {g : List Addr} (hg : ∀ a ∈ g, ∃ u, B a = some u ∧ isLD u) : ∀ {vs : List V} {ds : List D}, noLs ds = true → RepAll K B vs ds → RepAll K (cutB B B0 g) vs ds
  | _, _, _, .nil => .nil
  | _, _, h, .cons r t => by
    simp only [noLs_cons, Bool.and_eq_true] at h
    exact .cons (Rep.cutL hg h.1 r) (RepAll.cutL hg h.2 t)
end
/-- all as still data, what was looked at let be still -/
theorem VAll.borrow (l : Le B H) : ∀ {vs : List V} {rs : List R}, VAll K B H vs rs → ∃ f, RepAll K (addB B H f) vs (rs.map R.d) ∧ ∀ a ∈ f, ∃ u, H a = some u ∧ isLD u
  | _, _, .nil => ⟨[], .nil, by simp⟩
  | _, _, .st s r t => by
    obtain ⟨f, h, hf⟩ := VAll.borrow l t
    exact ⟨f, .cons (r.mono (addB_le f l)) h, hf⟩
  | _, _, .lk (f := g) x t => by
    obtain ⟨f, h, hf⟩ := VAll.borrow l t
    have le2 : ∀ f' : List Addr, (∀ a ∈ f, a ∈ f') → Le (addB B H f) (addB B H f') := fun f' hs a o q => by
      by_cases m : a ∈ f'
      · rw [addB_in m]; exact addB_bh f l a o q
      · rw [addB_out m]; rw [addB_out fun z => m (hs a z)] at q; exact q
    refine ⟨g ++ f, .cons (x.freeze (addB_le _ l) fun a m u q => by rw [addB_in (List.mem_append_left _ m)]; exact q) (h.mono (le2 _ fun a m => List.mem_append_right _ m)), fun a m => ?_⟩
    rcases List.mem_append.mp m with m | m
    · exact x.ld a m
    · exact hf a m
end
section
variable {X : Cx} {W : WX} {G : Hp} {k : Nat} {f : Addr} {fd : FuncData} {ps : List Str} {S : Spec} {dvs : List V} {dds : List D} {ds : List Value} {x : Str} {p pos : Pos} {e : Expr} {es : List Expr} {ms : WA}
theorem call_ok (hdv : ∀ B, RepAll X.K B dvs dds) {σ : L2.St} {H : Hp} {QV : VK} (h : tD X W G (wCall S dds ms) σ H QV) : tCallSD (dsp X.K X.mg S) dvs (fun σ cls d H => W cls d σ H) (tDA X W G ms) σ H QV := by
  obtain ⟨B, env, fp, Q, E, rr, hm, hq, hx⟩ := h
  refine ⟨B, env, fp, _, E, rr, hm, fun vs H1 B1 rs e1 va hs => ?_, hx⟩
  by_cases ha : allSt rs
  · refine ⟨B1, _, _, E, e1.bh, (va.reps ha).append (hdv _), hs, fun v H' B' r e2 w st ⟨_, q⟩ => ?_, fun n cls H' en hm l => hx n cls H' en hm (e1.same.trans l)⟩
    refine hq v H' B' r (e1.trans e2) ?_ q
    cases r with
    | v d => exact w
    | t o =>
      obtain ⟨g, w, ng, hg⟩ := w
      exact ⟨g, w, ng, fun a m => ⟨e1.same.none (hg a m).1, (hg a m).2⟩⟩
    | b o => exact st.elim
  · obtain ⟨g, hr, hld⟩ := va.borrow e1.bh
    refine ⟨addB B1 H1 g, _, _, E, addB_bh g e1.bh, hr.append (hdv _), hs, fun v H' B' r e2 w st ⟨fr, q⟩ => ?_, fun n cls H' en hm l => hx n cls H' en hm (e1.same.trans l)⟩
    have fr : r.free := fr.resolve_left ha
    have hg' : ∀ a ∈ g, ∃ u, B' a = some u ∧ isLD u := fun a m => by
      obtain ⟨u, hu, l⟩ := hld a m
      exact ⟨u, e2.le _ _ (by rw [addB_in m]; exact hu), l⟩
    have eC : Ext H1 B1 H' (cutB B' B1 g) := ⟨e2.same, fun a o h => by
      rw [cutB_out (fun m => by rw [m.2] at h; cases h)]
      exact e2.le _ _ (addB_le g e1.bh _ _ h), (cutB_le g).trans e2.bh, fun a o h n => by
      by_cases m : a ∈ g
      · unfold cutB; rw [if_pos ⟨m, n⟩]
      · rw [cutB_out fun z => m z.1]
        exact e2.new a o h (by rw [addB_out m]; exact n)⟩
    refine hq v H' (cutB B' B1 g) r (e1.trans eC) ?_ q
    cases r with
    | v d => exact Rep.cutL hg' fr w
    | t o =>
      obtain ⟨g', w, ng, hgn⟩ := w
      cases w with
      | lst h r => exact ⟨_, .lst h (RepAll.cutL hg' fr r), ng, fun a m => ⟨e1.same.none (hgn a m).1, (cutB_le g).none (hgn a m).2⟩⟩
      | _ => exact fr.elim
    | b o => exact fr.elim
theorem de_call (F : FnOk X.prog X.w X.K X.mg X.base (L2.CX X.prog X.w) k f fd ps (dsp X.K X.mg S)) (hr : Room k X.A) (hg : Gl X x) (hm : X.mg x = some (.ref f)) (hk : PySem.W.keepIn X.K (.ref f) = true) (hb : Binds X.K fd ps ds) (hd : Vals dvs ds)
    (hdv : ∀ B, RepAll X.K B dvs dds) (tk : Takes X W) (ha : DA X W G (e :: es) ms) (hdb : (x == ("__debug__" : Str)) = false)
    (he : starEach (e :: es) X.env = (false, eval e X.env) :: starEach es X.env) (hpl : (backTo pos (starEach es X.env)).any (·.1) = false) : DE X W G (.Call (.Name x p) (e :: es) [] pos) (wCall S dds ms) :=
  PEi (pe_callSD (E := fun σ cls d H => W cls d σ H) F hr hg hm hk hb hd (fun σ => passAt tk σ) ha hdb he hpl) fun _ _ _ h => call_ok hdv h
end

/-! ### a def's body -/
def enD (Q : R → Prop) (E : Str → Prop) : En := { nx := fun _ => Q (.v .none), rt := Q, bk := fun _ => False, ct := fun _ => False, ex := fun n _ => E n }
@[simp] theorem enD_rt (Q : R → Prop) (E : Str → Prop) : (enD Q E).rt = Q := rfl
def startD (N : List Str) (ds : List D) : Env := ds.map (fun d => some (.fro d)) ++ List.replicate (N.length - ds.length) none
theorem ownEnv_start {K : K0} {B H : Hp} : ∀ {vs : List V} {ds : List D} (n : Nat), RepAll K B vs ds → OwnEnv K B H (vs.map some ++ List.replicate n none) (ds.map (fun d => some (.fro d)) ++ List.replicate n none) []
  | _, _, 0, .nil => .nil
  | _, _, n + 1, .nil => by
    have := ownEnv_start (K := K) (B := B) (H := H) n RepAll.nil
    rw [List.replicate_succ]
    exact .no (by simpa using this)
  | _, _, n, .cons r t => by
    have := OwnEnv.some (f := []) (.fro r) (ownEnv_start (H := H) n t)
    simpa using this
section
variable {P : Program} {w : World} {K : K0} {mg : Str → Option Value} {base : Heap} {x qual : Str} {params : Arguments} {body : List Stmt} {scope : Scope} {dvs : List V} {kws : List (Str × V)} {f : Addr} {fd : FuncData} {N ps : List Str} {k : Nat} {S : Spec} {m : WS}
abbrev XB (P : Program) (w : World) (K : K0) (mg : Str → Option Value) (base : Heap) (N : List Str) (qual : Str) (scope : Scope) (f : Addr) (cdv : Value) (A : Around) (outer : List PySem.Env) (s : Shared) (H : Hp) (E : XK) : Cx :=
  cxOf (L2.CX P w) P w K mg base N qual scope f cdv A outer s H E
theorem fn_d (F : FunD K x qual params body scope dvs kws f fd) (Sc : FnScope N ps scope) (len : ∀ ds Q E, S ds Q E → ds.length = ps.length)
    (der : ∀ (cdv : Value) (A : Around) (outer : List PySem.Env) (s : Shared) (H : Hp) (E : XK) (G : Hp), Room k (A.deeper (envOfC qual scope s.heap.objs.size f cdv)) →
      Takes (XB P w K mg base N qual scope f cdv A outer s H E) (fun cls d _ H => E cls d H) → PassesOwn (model P w) (XB P w K mg base N qual scope f cdv A outer s H E).A (XB P w K mg base N qual scope f cdv A outer s H E).env (XB P w K mg base N qual scope f cdv A outer s H E).xe →
      DSs (XB P w K mg base N qual scope f cdv A outer s H E) (fun cls d _ H => E cls d H) G body m)
    (wp : ∀ ds Q E, S ds Q E → m (enD Q E) (startD N ds)) : FnOk P w K mg base (L2.CX P w) (k + 1) f fd ps (dsp K mg S) := by
  refine F.ok Sc (fun vs H Q E h => ?_) fun cdv A outer s H vs QV EX hr h => ?_
  · obtain ⟨B, ds, Q', E', l, r, hs, _⟩ := h
    rw [r.length]
    exact len _ _ _ hs
  · obtain ⟨B, ds, Q, E, l, r, hs, hq, hx⟩ := h
    let G : Hp := fun a => match B a with | none => H a | some _ => none
    have gH : ∀ a o, G a = some o → H a = some o ∧ B a = none := fun a o q => by
      cases e : B a with
      | none => have : G a = H a := by show (match B a with | none => H a | some _ => none) = _; rw [e]
                rw [this] at q; exact ⟨q, rfl⟩
      | some u => have : G a = none := by show (match B a with | none => H a | some _ => none) = _; rw [e]
                  rw [this] at q; cases q
    have gN : ∀ a, B a = none → G a = H a := fun a e => by show (match B a with | none => H a | some _ => none) = _; rw [e]
    refine ⟨_, der cdv A outer s H EX G hr (takes_of rfl rfl rfl rfl) (passes_of rfl), B, startD N ds, [], enD Q E, ⟨l, fun a o q => (gH a o q).1, fun a o q => (gH a o q).2, ?_, by simp, by simp⟩, wp ds Q E hs, ?_⟩
    · have := ownEnv_start (K := K) (B := B) (H := H) (N.length - ds.length) r
      unfold startD L2.start
      rw [r.length]
      exact this
    · have fin : ∀ v H' B' r (f : List Addr), Le B B' → Le B' H' → Le G H' → (∀ a o, G a = some o → B' a = none) → (∀ a ∈ f, B' a = none ∧ G a = none) → f.Nodup →
          (match r with | .v d => Rep K B' v d | .t o => Own K B' H' v o f | .b _ => False) → Q r → QV v H' := fun v H' B' r f l1 l2 l3 l4 hf nf w q => by
        have e : Ext H B H' B' := ⟨fun a o h => by
          cases eb : B a with
          | none => exact l3 a o (by rw [gN a eb]; exact h)
          | some u =>
            have : H a = some u := l a u eb
            rw [this] at h; cases h
            exact l2 _ _ (l1 _ _ eb), l1, l2, fun a o h n => l4 a o (by rw [gN a n]; exact h)⟩
        refine hq v H' B' r e ?_ ?_ q
        · cases r with
          | v d => exact w
          | t o =>
            refine ⟨f, w, nf, fun a m => ⟨?_, (hf a m).1⟩⟩
            have nb : B a = none := l1.none (hf a m).1
            rw [← gN a nb]; exact (hf a m).2
          | b o => exact w.elim
        · cases r with
          | v d => exact True.intro
          | t o => exact True.intro
          | b o => exact w.elim
      refine ⟨fun σ H' B' env fp l1 rr q => ?_, fun σ H' B' env fp l1 rr q => q.elim, fun σ H' B' env fp l1 rr q => q.elim, fun v H' B' r f l1 l2 l3 l4 hf nf w q => fin v H' B' r f l1 l2 l3 l4 hf nf w q, fun n cls σ H' B' env fp l1 rr en hm => ?_⟩
      · exact fin .non H' B' (.v .none) [] l1 rr.bh rr.gh rr.gb (by simp) (by simp) .non q
      · refine hx n cls H' en hm fun a o h => ?_
        cases eb : B a with
        | none => exact rr.gh a o (by rw [gN a eb]; exact h)
        | some u =>
          have : H a = some u := l a u eb
          rw [this] at h; cases h
          exact rr.bh _ _ (l1 _ _ eb)
end
end DL

set_option Elab.async false
set_option linter.all false
set_option maxRecDepth 100000
set_option maxHeartbeats 1000000
/-! DL11: what a text's top says, short rules for printing. -/
namespace DL
open PySem L2 PyProof.Rows

/-- names that are the built-ins' own -/
structure Gb (mg : Str → Option Value) : Prop where
  len : mg "len" = none
  range : mg "range" = none
  isinstance : mg "isinstance" = none
  int : mg "int" = none
  bool : mg "bool" = none
  str : mg "str" = none
  list : mg "list" = none
  tuple : mg "tuple" = none
  dict : mg "dict" = none
  set : mg "set" = none
  sorted : mg "sorted" = none
  sum : mg "sum" = none
  max : mg "max" = none
  min : mg "min" = none
  all : mg "all" = none
  any : mg "any" = none
  ord : mg "ord" = none
  zip : mg "zip" = none
  enumerate : mg "enumerate" = none
  reversed : mg "reversed" = none
  divmod : mg "divmod" = none
  ValueError : mg "ValueError" = none

/-- a def of the top that keeps a promise -/
def FnAt (P : Program) (w : World) (K : K0) (mg : Str → Option Value) (base : Heap) (k : Nat) (x : Str) (ps : List Str) (dvs : List V) (S : Spec) : Prop :=
  ∃ (f : Addr) (fd : FuncData) (ds : List Value), mg x = some (.ref f) ∧ PySem.W.keepIn K (.ref f) = true ∧ FnOk P w K mg base (L2.CX P w) k f fd ps (dsp K mg S) ∧ Binds K fd ps ds ∧ Vals dvs ds
/-- an own exception class -/
def ExAt (K : K0) (mg : Str → Option Value) (n : Str) : Prop :=
  ∃ C : Addr, mg n = some (.ref C) ∧ PySem.W.excIn K C He.veBase "ValueError.__new__" = true ∧ PySem.W.keepIn K (.ref C) = true ∧ PySem.W.subIn K (.ref C) (.type "BaseException") = some true ∧ PySem.W.typeIn K (.ref C) = some (.type "type")
section
variable {X : Cx} {W : WX} {G : Hp} {k j : Nat} {ps : List Str} {S : Spec} {dvs : List V} {dds : List D} {x : Str} {p pos : Pos} {e a b : Expr} {es : List Expr} {ms : WA} {ma mb : WE}
theorem de_call' (F : FnAt X.prog X.w X.K X.mg X.base k x ps dvs S) (hr : Room j X.A) (hk : k ≤ j) (hg : Gl X x) (hdv : ∀ B, RepAll X.K B dvs dds) (tk : Takes X W) (ha : DA X W G (e :: es) ms) (hdb : (x == ("__debug__" : Str)) = false)
    (he : starEach (e :: es) X.env = (false, eval e X.env) :: starEach es X.env) (hpl : (backTo pos (starEach es X.env)).any (·.1) = false) : DE X W G (.Call (.Name x p) (e :: es) [] pos) (wCall S dds ms) := by
  obtain ⟨f, fd, ds, hm, hkp, F, hb, hd⟩ := F
  exact de_call F (hr.mono hk) hg hm hkp hb hd hdv tk ha hdb he hpl
theorem ds_raise' {n m : Str} {jj : Nat} {p2 p3 : Pos} (hx : ExAt X.K X.mg n) (hc : X.calm = true) (tk : Takes X W) (hg : Gl X n) (hdb : (n == ("__debug__" : Str)) = false) : DS X W G (.Raise (some (.Call (.Name n p) [.Constant (.str m) jj p2] [] p3)) none pos) (wRaise n) := by
  obtain ⟨C, gC, xC, kC, bC, tC⟩ := hx
  exact ds_raise hc tk gC (pmk_own PySem.F.excBase_ValueError xC gC kC (raises_own bC tC) hg hdb)
theorem de_add (ha : DE X W G a ma) (hb : DE X W G b mb) : DE X W G (.BinOp a .Add b pos) (wAdd ma mb) := de_2 opAdd ha hb
abbrev wEq (a b : WE) : WE := wtv (c2 cEq a b)
abbrev wNe (a b : WE) : WE := wtv (c2 cNe a b)
end
section
variable {P : Program} {w : World} {K : K0} {mg : Str → Option Value} {base : Heap} {x qual : Str} {params : Arguments} {body : List Stmt} {scope : Scope} {f : Addr} {fd : FuncData} {N ps : List Str} {k : Nat} {S : Spec} {m : WS}
theorem fnAt (F : FunD K x qual params body scope [] [] f fd) (g : mg x = some (.ref f)) (Sc : FnScope N ps scope)
    (hb : ∀ (kV doc pm : Value) (an : Option Addr) (cdv ct : Value) (us : List Value), us.length = ps.length → bindArgs (PySem.W.fnOf x qual params body scope .none kV doc pm an cdv ct) ⟨us, []⟩ = pure (ps.zip us))
    (len : ∀ ds Q E, S ds Q E → ds.length = ps.length)
    (der : ∀ (cdv : Value) (A : Around) (outer : List PySem.Env) (s : Shared) (H : Hp) (E : XK) (G : Hp), Room k (A.deeper (envOfC qual scope s.heap.objs.size f cdv)) →
      Takes (XB P w K mg base N qual scope f cdv A outer s H E) (fun cls d _ H => E cls d H) → PassesOwn (model P w) (XB P w K mg base N qual scope f cdv A outer s H E).A (XB P w K mg base N qual scope f cdv A outer s H E).env (XB P w K mg base N qual scope f cdv A outer s H E).xe →
      DSs (XB P w K mg base N qual scope f cdv A outer s H E) (fun cls d _ H => E cls d H) G body m)
    (wp : ∀ ds Q E, S ds Q E → m (enD Q E) (startD N ds)) : FnAt P w K mg base (k + 1) x ps [] S :=
  ⟨f, fd, [], g, F.kp, fn_d F Sc len der wp, F.bindsN hb, .nil⟩
end
/-- what the derivation of a body is given -/
structure Ctx (X : Cx) (W : WX) (k : Nat) : Prop where
  hr : Room k X.A
  tk : Takes X W
  hp : PassesOwn (model X.prog X.w) X.A X.env X.xe
end DL

set_option Elab.async false
set_option linter.all false
set_option maxRecDepth 100000
set_option maxHeartbeats 1000000
/-! DL12: insert, extend, items stored, over data. -/
namespace DL
open PySem L2 PyProof.Rows
section
open PySem.AutoSeq1
theorem list_extW (l : Addr) (items : Array Value) (n : Nat) (b : Addr) (items2 : Array Value) (n2 : Nat) (dd2 : Option Addr) (sl2 : Array (Option Value)) (hs0 : ¬(!items.isEmpty && Builtin.List.listTooLong (items.size + items2.size)) = true) (hs1 : items.size ≤ sizeLine) (hs2 : items.size + items2.size ≤ sizeLine + 1) :
    Meets (Builtin.«list.extend» ⟨[.ref l, .ref b], []⟩) (fun _ R s => s.heap.get? l = some { cls := .type "list", dict := none, data := .seq items n, slots := #[] } ∧ s.heap.get? b = some { cls := .type "list", dict := dd2, data := .seq items2 n2, slots := sl2 } ∧ R (.ok (.ret Value.none)) { s with heap := s.heap.update l (Obj.mapSeq fun x => x ++ items2), toks := s.toks }) :=
  .of_wp fun prog w A R s h => by
    obtain ⟨hp, g, d, tk, os⟩ := s
    obtain ⟨hl, hb, h⟩ := h
    have f1 := AutoSeq1.idx_int
    have f2 := AutoSeq1.sub_tuple_tuple
    have f3 := AutoSeq1.sub_list_list
    have f4 := AutoSeq1.sub_tuple_list
    have f5 := AutoSeq1.sub_list_tuple
    have hz' : (items ++ items2).size ≤ sizeLine + 1 := by
      rw [Array.size_append]
      exact hs2
    wp_walk using (wpAny_updateSeq hl rfl (hz := hs1) (_hz' := hz')), wpAny_loadPart' hl, wpAny_loadPart' hb
    exact ⟨_, rfl, h⟩
theorem list_extWt (l : Addr) (items : Array Value) (n : Nat) (b : Addr) (items2 : Array Value) (n2 : Nat) (dd2 : Option Addr) (sl2 : Array (Option Value)) (hs0 : ¬(!items.isEmpty && Builtin.List.listTooLong (items.size + items2.size)) = true) (hs1 : items.size ≤ sizeLine) (hs2 : items.size + items2.size ≤ sizeLine + 1) :
    Meets (Builtin.«list.extend» ⟨[.ref l, .ref b], []⟩) (fun _ R s => s.heap.get? l = some { cls := .type "list", dict := none, data := .seq items n, slots := #[] } ∧ s.heap.get? b = some { cls := .type "tuple", dict := dd2, data := .seq items2 n2, slots := sl2 } ∧ R (.ok (.ret Value.none)) { s with heap := s.heap.update l (Obj.mapSeq fun x => x ++ items2), toks := s.toks }) :=
  .of_wp fun prog w A R s h => by
    obtain ⟨hp, g, d, tk, os⟩ := s
    obtain ⟨hl, hb, h⟩ := h
    have f1 := AutoSeq1.idx_int
    have f2 := AutoSeq1.sub_tuple_tuple
    have f3 := AutoSeq1.sub_list_list
    have f4 := AutoSeq1.sub_tuple_list
    have f5 := AutoSeq1.sub_list_tuple
    have hz' : (items ++ items2).size ≤ sizeLine + 1 := by
      rw [Array.size_append]
      exact hs2
    wp_walk using (wpAny_updateSeq hl rfl (hz := hs1) (_hz' := hz')), wpAny_loadPart' hl, wpAny_loadPart' hb
    exact ⟨_, rfl, h⟩
end
section
variable {X : Cx} {W : WX} {G : Hp} {e e2 : Expr} {t t2 : WE} {pos : Pos}
theorem mt_extS : MtR X "list.extend" (fun x vs H Q => ∃ l b xs zs, x = .ref l ∧ vs = [.ref b] ∧ H l = some (.lst xs) ∧ (SqL X.K H b zs ∨ SqT X.K H b zs) ∧ xs.length + zs.length ≤ sizeLine ∧ Q .non (upd H l (.lst (xs ++ zs)))) := by
  intro pins s σ H x vs v us Q I rx rv ⟨l, b, xs, zs, ex, ev, hH, hB, hz, q⟩
  subst ex ev
  cases rx
  obtain ⟨u, rfl, ru⟩ := rv.one
  cases ru
  obtain ⟨z, its, n, r, hl, e⟩ := I.lstM hH
  have go : ∀ its2 : List Value, Vals zs its2 → (∀ R : Result → Shared → Prop, True) → ¬ (!its.toArray.isEmpty && Builtin.List.listTooLong (its.toArray.size + its2.toArray.size)) = true := fun its2 r2 _ => by
    rw [notLongL (by rw [List.size_toArray, List.size_toArray, ← r.length, ← r2.length]; exact hz), Bool.and_false]
    exact Bool.false_ne_true
  have fin : ∀ its2 : List Value, Vals zs its2 → EP X pins σ Q .none { s with heap := s.heap.update l (Obj.mapSeq fun x => x ++ its2.toArray), toks := s.toks } := fun its2 r2 =>
    ⟨.non, _, I.lset (its' := its ++ its2) hH e (by simp) (r.append r2) (by rw [List.length_append]; exact hz), rfl, q⟩
  rcases hB with hB | hB
  · obtain ⟨its2, r2, ⟨o2, n2, e2, c2, d2, ed2⟩, z2⟩ := I.list hB
    obtain ⟨c0, d0, da, sl⟩ := o2
    simp only at c2 d2 ed2
    subst c2 d2 ed2
    refine call_meets F.slot_list_extend ⟨_, e, rfl⟩ F.entry_list_extend (F.args_list_extend_2 _ _)
      (list_extW l its.toArray n b its2.toArray n2 none sl (go its2 r2 fun _ => True.intro) (by rw [List.size_toArray]; omega) (by rw [List.size_toArray, List.size_toArray, ← r.length, ← r2.length]; omega)) ⟨e, e2, fin its2 r2⟩
  · obtain ⟨its2, r2, ⟨o2, e2, c2, n2, ed2⟩, z2⟩ := I.tuple hB
    obtain ⟨c0, d0, da, sl⟩ := o2
    simp only at c2 ed2
    subst c2 ed2
    refine call_meets F.slot_list_extend ⟨_, e, rfl⟩ F.entry_list_extend (F.args_list_extend_2 _ _)
      (list_extWt l its.toArray n b its2.toArray n2 d0 sl (go its2 r2 fun _ => True.intro) (by rw [List.size_toArray]; omega) (by rw [List.size_toArray, List.size_toArray, ← r.length, ← r2.length]; omega)) ⟨e, e2, fin its2 r2⟩

/-- a list or tuple as its items -/
def seqD : D → Option (List D)
  | .list ds => some ds
  | .tuple ds => some ds
  | _ => none
@[simp] theorem seqD_list (ds : List D) : seqD (.list ds) = some ds := rfl
@[simp] theorem seqD_tuple (ds : List D) : seqD (.tuple ds) = some ds := rfl
/-- one own list changes to another of still things -/
theorem lst_turn {B H : Hp} {env : Env} {fp : List Addr} {σ : L2.St} {D : Ends} {d : En} {B0 : Hp} {σ0 : L2.St} {i : Nat} {a : Addr} {ds ds' : List PyData} {vs vs' : List V} (rr : RR X.K G B env fp σ H) (x : SOk X W G B0 d D σ0) (l : Le B0 B)
    (hi : env[i]? = some (some (.lst ds))) (hσ : σ[i]? = some (some (.ref a))) (hl : H a = some (.lst vs)) (r : RepAll X.K B vs' ds') (q : d.nx (env.set i (some (.lst ds')))) : D.nx σ (upd H a (.lst vs')) := by
  obtain ⟨vi, g, h1, h2, h3, h4, h5⟩ := rr.put hi
  rw [hσ] at h1
  cases h1
  cases h2 with
  | lst hl2 rl =>
    have na : B a = none := (h4 a (by simp)).2.1
    obtain ⟨fp', y⟩ := h5 B (upd H a (.lst vs')) (.lst ds') [a] (.refl _) (fun b u q => upd_keep (rr.bh b u q) (ne_of_none q na)) (fun b u n q => upd_keep q fun z => n (by simp [z])) (fun _ _ _ _ q => q)
      (.lst upd_same r) (by simp) (fun b m => ⟨fun _ => m, (h4 b m).2⟩)
    exact x.nx σ _ B _ fp' l y q
/-- x.extend(e) -/
def wExt (i : Nat) (t : WE) : WS := fun D env => ∃ ds, env[i]? = some (some (.lst ds)) ∧ t env (fun r => r.sh ∧ ∃ es, seqD r.d = some es ∧ ds.length + es.length ≤ sizeLine ∧ D.nx (env.set i (some (.lst (ds ++ es))))) (fun n => D.ex n env)
theorem ds_ext {i : Nat} {ob : Expr} {apos cpos : Pos} (ho : PE X ob (tVar i)) (he : DE X W G e t)
    (hbase : attributeBase ob "extend" X.env (eval ob X.env) = eval ob X.env)
    (hfew : ((backTo cpos (starEach [e] X.env)).all (fun x => !x.1) && (backToKw cpos (keywordEach [] X.env)).all (fun x => x.1.isSome)
      && decide ([e].length + ([] : List Keyword).length + (if ([] : List Keyword).isEmpty then 0 else 1) < 30)) = true)
    (hline : (apos.endLine == cpos.line) = true) (hs : starEach [e] X.env = (false, eval e X.env) :: starEach [] X.env) (hplain : (backTo cpos (starEach [] X.env)).any (·.1) = false)
    (hsw : swapsWith (.Call (.Attribute ob "extend" apos) [e] [] cpos) none pos.line X.env = pure false) :
    DS X W G (.Expr (.Call (.Attribute ob "extend" apos) [e] [] cpos) pos) (wExt i t) := by
  refine PSi (ps_expr (pe_bm PySem.F.plainAttrs_list PySem.F.slot_list_extend PySem.F.type_list_extend mt_extS ho (pa_cons he pa_nil hs) hbase hfew hline hs hplain) hsw) fun D σ H ⟨B, env, fp, d, rr, ⟨ds, hi, hm⟩, x⟩ => ?_
  obtain ⟨v, g, h1, h2, h3⟩ := rr.own.get hi
  cases h2 with
  | @lst a vs _ hl rl =>
    refine ⟨.ref a, h1, .inl ⟨rfl, _, .inl (.inl hl)⟩, B, env, fp, _, _, rr, hm, fun u H' B' r e' w ⟨s, es, hes, hz, q⟩ => ?_, x.x rr⟩
    obtain ⟨B2, e2, l2, rv⟩ := w.view e' s
    have hl' := e2.same _ _ hl
    have fin : ∀ zs, RepAll X.K B2 zs es → D.nx σ (upd H' a (.lst (vs ++ zs))) := fun zs rz => lst_turn (rr.ext e2) x e2.le hi h1 hl' ((rl.mono e2.le).append rz) q
    generalize r.d = rd at rv hes
    cases rd <;> simp [seqD] at hes
    · subst hes
      obtain ⟨b, zs, ez, sz, rz⟩ := rv.list e2.bh
      subst ez
      exact ⟨a, b, vs, zs, rfl, rfl, hl', .inl sz, by rw [rl.length, rz.length]; exact hz, fin zs rz⟩
    · subst hes
      obtain ⟨b, zs, ez, sz, rz⟩ := rv.tup e2.bh
      subst ez
      exact ⟨a, b, vs, zs, rfl, rfl, hl', .inr sz, by rw [rl.length, rz.length]; exact hz, fin zs rz⟩
/-- x.insert(i, e), at no place below 0 -/
def insD {α : Type} (xs : List α) (i : Int) (x : α) : List α := xs.take i.toNat ++ [x] ++ xs.drop i.toNat
def wIns (i : Nat) (t t2 : WE) : WS := fun D env => ∃ ds, env[i]? = some (some (.lst ds)) ∧ t env (fun k => t2 env (fun r => r.st ∧ ∃ j : Int, k.d = .int j ∧ 0 ≤ j ∧ j < 2 ^ 63 ∧ ds.length < sizeLine ∧ D.nx (env.set i (some (.lst (insD ds j r.d))))) (fun n => D.ex n env)) (fun n => D.ex n env)
theorem ds_ins {i : Nat} {ob : Expr} {apos cpos : Pos} (ho : PE X ob (tVar i)) (he : DE X W G e t) (he2 : DE X W G e2 t2)
    (hbase : attributeBase ob "insert" X.env (eval ob X.env) = eval ob X.env)
    (hfew : ((backTo cpos (starEach [e, e2] X.env)).all (fun x => !x.1) && (backToKw cpos (keywordEach [] X.env)).all (fun x => x.1.isSome)
      && decide ([e, e2].length + ([] : List Keyword).length + (if ([] : List Keyword).isEmpty then 0 else 1) < 30)) = true)
    (hline : (apos.endLine == cpos.line) = true) (hs : starEach [e, e2] X.env = (false, eval e X.env) :: starEach [e2] X.env) (hs2 : starEach [e2] X.env = (false, eval e2 X.env) :: starEach [] X.env) (hplain : (backTo cpos (starEach [e2] X.env)).any (·.1) = false)
    (hsw : swapsWith (.Call (.Attribute ob "insert" apos) [e, e2] [] cpos) none pos.line X.env = pure false) :
    DS X W G (.Expr (.Call (.Attribute ob "insert" apos) [e, e2] [] cpos) pos) (wIns i t t2) := by
  refine PSi (ps_expr (pe_bm PySem.F.plainAttrs_list PySem.F.slot_list_insert PySem.F.type_list_insert mt_insert ho (pa_cons he (pa_cons he2 pa_nil hs2) hs) hbase hfew hline hs hplain) hsw) fun D σ H ⟨B, env, fp, d, rr, ⟨ds, hi, hm⟩, x⟩ => ?_
  obtain ⟨v, g, h1, h2, h3⟩ := rr.own.get hi
  cases h2 with
  | @lst a vs _ hl rl =>
    refine ⟨.ref a, h1, .inl ⟨rfl, _, .inl (.inl hl)⟩, B, env, fp, _, _, rr, hm, fun u H' B' r e' w q1 => ?_, x.x rr⟩
    refine ⟨B', env, fp, _, _, rr.ext e', q1, fun u2 H2 B2 r2 e2 w2 ⟨s, j, hj, j0, j1, hz, q⟩ => ?_, (x.x rr).later e'.same⟩
    obtain ⟨B3, e3, l3, rk⟩ := w2.keep e2 s
    have eT := e'.trans e3
    have hk := (w.now e').mono e3.same
    rw [hj] at hk
    exact ⟨a, vs, j, u2, rfl, by rw [hk.int_inv], eT.same _ _ hl, by rw [rl.length]; exact hz, j0, j1, lst_turn (rr.ext eT) x eT.le hi h1 (eT.same _ _ hl) ((((rl.mono eT.le).take _).append (.one rk)).append ((rl.mono eT.le).drop _)) q⟩
end
end DL

set_option Elab.async false
set_option linter.all false
set_option maxRecDepth 100000
set_option maxHeartbeats 1000000
/-! DLS: forms of promises; how a reading is opened. -/
namespace DL
open PySem L2 PyProof.Rows
def sp0 (f : (R → Prop) → (Str → Prop) → Prop) : Spec := fun ds Q E => match ds with
  | [] => f Q E
  | _ => False
def sp1 (f : D → (R → Prop) → (Str → Prop) → Prop) : Spec := fun ds Q E => match ds with
  | [a] => f a Q E
  | _ => False
def sp2 (f : D → D → (R → Prop) → (Str → Prop) → Prop) : Spec := fun ds Q E => match ds with
  | [a, b] => f a b Q E
  | _ => False
def sp3 (f : D → D → D → (R → Prop) → (Str → Prop) → Prop) : Spec := fun ds Q E => match ds with
  | [a, b, c] => f a b c Q E
  | _ => False
def sp4 (f : D → D → D → D → (R → Prop) → (Str → Prop) → Prop) : Spec := fun ds Q E => match ds with
  | [a, b, c, d] => f a b c d Q E
  | _ => False
def sp5 (f : D → D → D → D → D → (R → Prop) → (Str → Prop) → Prop) : Spec := fun ds Q E => match ds with
  | [a, b, c, d, e] => f a b c d e Q E
  | _ => False
def sp6 (f : D → D → D → D → D → D → (R → Prop) → (Str → Prop) → Prop) : Spec := fun ds Q E => match ds with
  | [x1, x2, x3, x4, x5, x6] => f x1 x2 x3 x4 x5 x6 Q E
  | _ => False
theorem sp6_len {f} {n : Nat} (hn : n = 6) (ds : List D) (Q : R → Prop) (E : Str → Prop) (h : sp6 f ds Q E) : ds.length = n := by
  subst hn
  match ds, h with
  | [_, _, _, _, _, _], _ => rfl
theorem sp6_w {f} {m : WS} {N : List Str} (h : ∀ x1 x2 x3 x4 x5 x6 Q E, f x1 x2 x3 x4 x5 x6 Q E → m (enD Q E) (startD N [x1, x2, x3, x4, x5, x6])) (ds : List D) (Q : R → Prop) (E : Str → Prop) (x : sp6 f ds Q E) : m (enD Q E) (startD N ds) := by
  match ds, x with
  | [_, _, _, _, _, _], x => exact h _ _ _ _ _ _ _ _ x
@[simp] theorem sp1_at (f) (a : D) (Q : R → Prop) (E : Str → Prop) : sp1 f [a] Q E = f a Q E := rfl
@[simp] theorem sp2_at (f) (a b : D) (Q : R → Prop) (E : Str → Prop) : sp2 f [a, b] Q E = f a b Q E := rfl
@[simp] theorem sp3_at (f) (a b c : D) (Q : R → Prop) (E : Str → Prop) : sp3 f [a, b, c] Q E = f a b c Q E := rfl
@[simp] theorem sp4_at (f) (a b c d : D) (Q : R → Prop) (E : Str → Prop) : sp4 f [a, b, c, d] Q E = f a b c d Q E := rfl
@[simp] theorem sp5_at (f) (a b c d e : D) (Q : R → Prop) (E : Str → Prop) : sp5 f [a, b, c, d, e] Q E = f a b c d e Q E := rfl
theorem sp0_len {f} {n : Nat} (hn : n = 0) (ds : List D) (Q : R → Prop) (E : Str → Prop) (h : sp0 f ds Q E) : ds.length = n := by
  subst hn
  match ds, h with
  | [], _ => rfl
theorem sp1_len {f} {n : Nat} (hn : n = 1) (ds : List D) (Q : R → Prop) (E : Str → Prop) (h : sp1 f ds Q E) : ds.length = n := by
  subst hn
  match ds, h with
  | [_], _ => rfl
theorem sp2_len {f} {n : Nat} (hn : n = 2) (ds : List D) (Q : R → Prop) (E : Str → Prop) (h : sp2 f ds Q E) : ds.length = n := by
  subst hn
  match ds, h with
  | [_, _], _ => rfl
theorem sp3_len {f} {n : Nat} (hn : n = 3) (ds : List D) (Q : R → Prop) (E : Str → Prop) (h : sp3 f ds Q E) : ds.length = n := by
  subst hn
  match ds, h with
  | [_, _, _], _ => rfl
theorem sp4_len {f} {n : Nat} (hn : n = 4) (ds : List D) (Q : R → Prop) (E : Str → Prop) (h : sp4 f ds Q E) : ds.length = n := by
  subst hn
  match ds, h with
  | [_, _, _, _], _ => rfl
theorem sp5_len {f} {n : Nat} (hn : n = 5) (ds : List D) (Q : R → Prop) (E : Str → Prop) (h : sp5 f ds Q E) : ds.length = n := by
  subst hn
  match ds, h with
  | [_, _, _, _, _], _ => rfl
section
variable {m : WS} {N : List Str}
theorem sp0_w {f} (h : ∀ Q E, f Q E → m (enD Q E) (startD N [])) (ds : List D) (Q : R → Prop) (E : Str → Prop) (x : sp0 f ds Q E) : m (enD Q E) (startD N ds) := by
  match ds, x with
  | [], x => exact h _ _ x
theorem sp1_w {f} (h : ∀ a Q E, f a Q E → m (enD Q E) (startD N [a])) (ds : List D) (Q : R → Prop) (E : Str → Prop) (x : sp1 f ds Q E) : m (enD Q E) (startD N ds) := by
  match ds, x with
  | [_], x => exact h _ _ _ x
theorem sp2_w {f} (h : ∀ a b Q E, f a b Q E → m (enD Q E) (startD N [a, b])) (ds : List D) (Q : R → Prop) (E : Str → Prop) (x : sp2 f ds Q E) : m (enD Q E) (startD N ds) := by
  match ds, x with
  | [_, _], x => exact h _ _ _ _ x
theorem sp3_w {f} (h : ∀ a b c Q E, f a b c Q E → m (enD Q E) (startD N [a, b, c])) (ds : List D) (Q : R → Prop) (E : Str → Prop) (x : sp3 f ds Q E) : m (enD Q E) (startD N ds) := by
  match ds, x with
  | [_, _, _], x => exact h _ _ _ _ _ x
theorem sp4_w {f} (h : ∀ a b c d Q E, f a b c d Q E → m (enD Q E) (startD N [a, b, c, d])) (ds : List D) (Q : R → Prop) (E : Str → Prop) (x : sp4 f ds Q E) : m (enD Q E) (startD N ds) := by
  match ds, x with
  | [_, _, _, _], x => exact h _ _ _ _ _ _ x
theorem sp5_w {f} (h : ∀ a b c d e Q E, f a b c d e Q E → m (enD Q E) (startD N [a, b, c, d, e])) (ds : List D) (Q : R → Prop) (E : Str → Prop) (x : sp5 f ds Q E) : m (enD Q E) (startD N ds) := by
  match ds, x with
  | [_, _, _, _, _], x => exact h _ _ _ _ _ _ _ x
end
@[simp] theorem enD_nx (Q : R → Prop) (E : Str → Prop) (e : Env) : (enD Q E).nx e = Q (.v .none) := rfl
@[simp] theorem enD_bk (Q : R → Prop) (E : Str → Prop) (e : Env) : (enD Q E).bk e = False := rfl
@[simp] theorem enD_ct (Q : R → Prop) (E : Str → Prop) (e : Env) : (enD Q E).ct e = False := rfl
@[simp] theorem enD_ex (Q : R → Prop) (E : Str → Prop) (n : Str) (e : Env) : (enD Q E).ex n e = E n := rfl
/-- the promises of defs whose value is a function of the arguments -/
abbrev fn1 (f : D → (R → Prop) → Prop) : Spec := sp1 fun a Q _ => f a Q
theorem list_get0 {α : Type} (a : α) (l : List α) : (a :: l)[0]? = some a := rfl
theorem list_getS {α : Type} (a : α) (l : List α) (n : Nat) : (a :: l)[n + 1]? = l[n]? := rfl
theorem getE1 {α : Type} (a b : α) (l : List α) : (a :: b :: l)[1]? = some b := rfl
theorem getE2 {α : Type} (a b c : α) (l : List α) : (a :: b :: c :: l)[2]? = some c := rfl
theorem getE3 {α : Type} (a b c d : α) (l : List α) : (a :: b :: c :: d :: l)[3]? = some d := rfl
theorem ints_of (ns : List Int) : ns.map PyData.int = ns.map PyData.int := rfl
end DL

set_option Elab.async false
set_option linter.all false
set_option maxRecDepth 100000
set_option maxHeartbeats 1000000
/-! DLH: from a law's promise to its row. -/
namespace DL
open PySem L2 PyProof.Rows
def S_law : Spec := sp1 fun a Q _ => ∃ ns : List Int, a = .list (ns.map PyData.int) ∧ ns.length ≤ 63 ∧ (∀ z ∈ ns, Builtin.Int.intBits z ≤ 1048576) ∧ Q (.v (.bool true))
theorem walk_EB {l : PySem.W.OpenLaw} {n k : Nat} {q : Program} {loose : List Str} {XP : (Str → Option Value) → Heap → Prop} {YP : World → Heap → Prop} {d : DefRec} {CX : World → CXT} {x : Str}
    (hn : l.most = some n) (hn2 : n ≤ sizeLine) (hdf : d.params.defaults = []) (hr : Room k callerA)
    (F : ∀ (w : World) (mg : Str → Option Value) (fa : Addr) (h : Heap), YP w h → h.Ns mainGlobals mg → mg d.name = some (.ref fa) →
      ∃ (K : PySem.W.Frag) (fd : FuncData) (sp : Sp), K.In h ∧ (∀ (s : Shared) (u : Value), BindsTo s fd ⟨[u], []⟩ [(x, u)]) ∧
        (∀ (H : Hp) (a : Addr) (ns : List Int), ns.length ≤ n → (∀ z ∈ ns, Builtin.Int.intBits z ≤ 1048576) → Only H → SqL K H a (ns.map V.int) → sp [.ref a] H (fun v _ => v = .bl true) fun _ _ _ => False) ∧
        ∀ base : Heap, K.In base → base.Ns mainGlobals mg → FnOk l.prog w K mg base (CX w) k fa fd [x] sp)
    (hCX : ∀ (w : World) (H : Hp) (s : Shared) (e : Value) (s' : Shared), CX w [] H s (fun _ _ _ => False) e s' → False) :
    PySem.W.WalkO q loose XP YP l.row.toRowW d [] (fun f vs => PySem.call f vs) := by
  refine Att.attach_callB hn hdf fun w s₀ s₁ mg mb fa o pm cd doc a vs ns G Y ho hd hcd hmg hobj hints hlen hbits hg => ?_
  obtain ⟨K, fd, sp, KX, hb, hsp, hF⟩ := F w mg fa _ Y G.T.g hmg
  exact law_call KX G.T.g G.T.b G.T.builtins G.T.nolimit hg hobj hints (Nat.le_trans hlen hn2) hr hF hb (fun H hO hS => hsp H a ns hlen hbits hO hS) fun H e s' => hCX w H s₁ e s'
theorem cx_none {P : Program} (w : World) (H : Hp) (s : Shared) (e : Value) (s' : Shared) (h : L2.CX P w [] H s (fun _ _ _ => False) e s') : False := by
  obtain ⟨_, _, _, _, _, _, _, _, _, _, _, _, z⟩ := h
  exact z.elim
theorem law_sp {K : K0} {mg : Str → Option Value} (H : Hp) (a : Addr) (ns : List Int) (hl : ns.length ≤ 63) (hb : ∀ z ∈ ns, Builtin.Int.intBits z ≤ 1048576) (_ : Only H) (hS : SqL K H a (ns.map V.int)) :
    dsp K mg S_law [.ref a] H (fun v _ => v = .bl true) fun _ _ _ => False := by
  refine ⟨H, [.list (ns.map PyData.int)], fun r => r.d = .bool true, fun _ => False, .refl H, .cons (.lst hS .ints) .nil, ⟨ns, rfl, hl, hb, rfl⟩, fun v H' B' r e w _ q => ?_, fun _ _ _ h => h.elim⟩
  have h := w.now e
  have q : r.d = .bool true := q
  rw [q] at h
  exact h.bool_inv
/-- the facts that are asked of each text's top -/
def fas0 : List He.Fa := [.free "len", .free "range", .free "isinstance", .free "int", .free "bool", .free "str", .free "list", .free "tuple", .free "dict", .free "set", .free "sorted", .free "sum", .free "max", .free "min", .free "all", .free "any", .free "ord", .free "zip",
  .free "enumerate", .free "reversed", .free "divmod", .free "ValueError"]
section
variable {K : K0} {h : Heap} {mg : Str → Option Value} {fa : List He.Fa} {fn : List He.DefD}
theorem gb_of (X : K.In h) (G : h.Ns mainGlobals mg) (c : He.SaysD (fas0 ++ fa) fn K) : Gb mg where
  len := He.free_ok X G (c.fact 0 (f := .free "len") rfl)
  range := He.free_ok X G (c.fact 1 (f := .free "range") rfl)
  isinstance := He.free_ok X G (c.fact 2 (f := .free "isinstance") rfl)
  int := He.free_ok X G (c.fact 3 (f := .free "int") rfl)
  bool := He.free_ok X G (c.fact 4 (f := .free "bool") rfl)
  str := He.free_ok X G (c.fact 5 (f := .free "str") rfl)
  list := He.free_ok X G (c.fact 6 (f := .free "list") rfl)
  tuple := He.free_ok X G (c.fact 7 (f := .free "tuple") rfl)
  dict := He.free_ok X G (c.fact 8 (f := .free "dict") rfl)
  set := He.free_ok X G (c.fact 9 (f := .free "set") rfl)
  sorted := He.free_ok X G (c.fact 10 (f := .free "sorted") rfl)
  sum := He.free_ok X G (c.fact 11 (f := .free "sum") rfl)
  max := He.free_ok X G (c.fact 12 (f := .free "max") rfl)
  min := He.free_ok X G (c.fact 13 (f := .free "min") rfl)
  all := He.free_ok X G (c.fact 14 (f := .free "all") rfl)
  any := He.free_ok X G (c.fact 15 (f := .free "any") rfl)
  ord := He.free_ok X G (c.fact 16 (f := .free "ord") rfl)
  zip := He.free_ok X G (c.fact 17 (f := .free "zip") rfl)
  enumerate := He.free_ok X G (c.fact 18 (f := .free "enumerate") rfl)
  reversed := He.free_ok X G (c.fact 19 (f := .free "reversed") rfl)
  divmod := He.free_ok X G (c.fact 20 (f := .free "divmod") rfl)
  ValueError := He.free_ok X G (c.fact 21 (f := .free "ValueError") rfl)
/-- a def's function object and its place -/
theorem fun_of (X : K.In h) (G : h.Ns mainGlobals mg) (c : He.SaysD fa fn K) {x : Str} {st : Stmt} (i j : Nat) (hi : fn[i]? = some ⟨(x, none), x, x, defArgs st, defBody st, defScope st, [], []⟩) (hj : fa[j]? = some (.glo x)) :
    ∃ (f : Addr) (fd : FuncData), FunD K x x (defArgs st) (defBody st) (defScope st) [] [] f fd ∧ mg x = some (.ref f) := by
  obtain ⟨fd, F⟩ := c.def_ i hi
  exact ⟨_, fd, F, He.glo_ok X G (c.fact j hj)⟩
theorem ex_of (X : K.In h) (G : h.Ns mainGlobals mg) (c : He.SaysD fa fn K) {x : Str} (i j : Nat) (hi : fa[i]? = some (.exc x)) (hj : fa[j]? = some (.glo x)) : ExAt K mg x := by
  obtain ⟨h1, h2, h3, h4⟩ := He.exc_ok (c.fact i hi)
  exact ⟨_, He.glo_ok X G (c.fact j hj), h1, h2, h3, h4⟩
theorem law_binds {st : Stmt} {f : Addr} {fd : FuncData} (F : FunD K "law" "law" (defArgs st) (defBody st) (defScope st) [] [] f fd)
    (h : ∀ (kV doc pm : Value) (an : Option Addr) (cdv ct : Value) (us : List Value), us.length = 1 → bindArgs (PySem.W.fnOf "law" "law" (defArgs st) (defBody st) (defScope st) .none kV doc pm an cdv ct) ⟨us, []⟩ = pure ((["script"] : List Str).zip us)) (s : Shared) (u : Value) : BindsTo s fd ⟨[u], []⟩ [("script", u)] :=
  FunD.bindsA (ps := ["script"]) F h s [u] rfl
end
end DL

set_option Elab.async false
set_option linter.all false
set_option maxRecDepth 100000
set_option maxHeartbeats 1000000
/-! DLE: equal data, choices. -/
namespace DL
open PySem L2 PyProof.Rows
theorem ite_i {c : Prop} [Decidable c] {a b : Prop} (h1 : c → a) (h2 : ¬c → b) : if c then a else b := by
  by_cases h : c
  · rw [if_pos h]; exact h1 h
  · rw [if_neg h]; exact h2 h
/-- data without dicts, no deeper than k -/
def Sh (k : Nat) (d : D) : Prop := d.canLay0 = true ∧ d.depth ≤ k
theorem Sh.shaped {k : Nat} {d : D} (h : Sh k d) (hk : k ≤ 64) : SeqAt.shaped d = true := by
  unfold SeqAt.shaped
  rw [h.1, decide_eq_true (Nat.le_trans h.2 hk)]; rfl
theorem Sh.mono {k j : Nat} {d : D} (h : Sh k d) (hk : k ≤ j) : Sh j d := ⟨h.1, Nat.le_trans h.2 hk⟩
theorem sh_int (k : Nat) (i : Int) : Sh k (.int i) := ⟨by simp [PyData.canLay0], by simp [PyData.depth]⟩
theorem sh_bool (k : Nat) (i : Bool) : Sh k (.bool i) := ⟨by simp [PyData.canLay0], by simp [PyData.depth]⟩
theorem sh_none (k : Nat) : Sh k .none := ⟨by simp [PyData.canLay0], by simp [PyData.depth]⟩
theorem sh_str (k : Nat) {x : Str} (h : PyData.strOk x = true) : Sh k (.str x) := ⟨by simp [PyData.canLay0, h], by simp [PyData.depth]⟩
theorem sh_all {k : Nat} : ∀ {ds : List D}, (∀ x ∈ ds, Sh k x) → PyData.canLayAll0 ds = true ∧ PyData.depthAll ds ≤ k
  | [], _ => ⟨by simp [PyData.canLayAll0], by simp [PyData.depthAll]⟩
  | x :: xs, h => by
    obtain ⟨h1, h2⟩ := sh_all (ds := xs) fun y m => h y (List.mem_cons_of_mem _ m)
    obtain ⟨h3, h4⟩ := h x (List.mem_cons_self ..)
    exact ⟨by simp [PyData.canLayAll0, h1, h3], by simp [PyData.depthAll]; omega⟩
theorem sh_list {k : Nat} {ds : List D} (h : ∀ x ∈ ds, Sh k x) : Sh (k + 1) (.list ds) := by
  obtain ⟨h1, h2⟩ := sh_all h
  exact ⟨by simp [PyData.canLay0, h1], by simp [PyData.depth]; omega⟩
theorem sh_tuple {k : Nat} {ds : List D} (h : ∀ x ∈ ds, Sh k x) : Sh (k + 1) (.tuple ds) := by
  obtain ⟨h1, h2⟩ := sh_all h
  exact ⟨by simp [PyData.canLay0, h1], by simp [PyData.depth]; omega⟩
theorem eqv_self {k : Nat} {d : D} (h : Sh k d) : PyData.eqv d d = true := SeqAt.eqv_refl d h.1
mutual
/-- no truth values, no dicts within: equal by == is equal -/
def pl : D → Bool
  | .none => true
  | .bool _ => false
  | .int _ => true
  | .str _ => true
  | .list xs => pls xs
  | .tuple xs => pls xs
  | .dict _ => false
def pls : List D → Bool
  | [] => true
  | x :: xs => pl x && pls xs
end
theorem pls_all : ∀ {ds : List D}, (∀ x ∈ ds, pl x = true) → pls ds = true
  | [], _ => by rw [pls]
  | x :: xs, h => by
    rw [pls, h x (List.mem_cons_self ..), pls_all fun y m => h y (List.mem_cons_of_mem _ m)]; rfl
mutual
theorem eqv_pl : ∀ {a b : D}, pl a = true → pl b = true → (PyData.eqv a b = true ↔ a = b)
  | .none, b, _, h => by cases b <;> simp [PyData.eqv, pl] at h ⊢
  | .bool _, _, h, _ => by simp [pl] at h
  | .dict _, _, h, _ => by simp [pl] at h
  | .int _, b, _, h => by cases b <;> simp [PyData.eqv, pl] at h ⊢
  | .str _, b, _, h => by cases b <;> simp [PyData.eqv, pl] at h ⊢
  | .list xs, b, ha, h => by
    rw [pl] at ha
    cases b <;> first | (simp [PyData.eqv, pl] at h ⊢; done) | skip
    rename_i ys
    rw [pl] at h
    simp only [PyData.eqv, PyData.list.injEq]
    exact eqv_pls ha h
  | .tuple xs, b, ha, h => by
    rw [pl] at ha
    cases b <;> first | (simp [PyData.eqv, pl] at h ⊢; done) | skip
    rename_i ys
    rw [pl] at h
    simp only [PyData.eqv, PyData.tuple.injEq]
    exact eqv_pls ha h
theorem eqv_pls : ∀ {a b : List D}, pls a = true → pls b = true → (PyData.eqvAll a b = true ↔ a = b)
  | [], [], _, _ => by simp [PyData.eqvAll]
  | [], _ :: _, _, _ => by simp [PyData.eqvAll]
  | _ :: _, [], _, _ => by simp [PyData.eqvAll]
  | x :: xs, y :: ys, ha, hb => by
    rw [pls, Bool.and_eq_true] at ha hb
    rw [PyData.eqvAll, Bool.and_eq_true, eqv_pl ha.1 hb.1, eqv_pls ha.2 hb.2]
    simp
end
/-- lists of whole numbers -/
abbrev iL (ns : List Int) : List D := ns.map PyData.int
abbrev nL (ns : List Nat) : List D := ns.map fun (n : Nat) => PyData.int (n : Int)
theorem sh_iL (ns : List Int) : Sh 1 (.list (iL ns)) := sh_list fun x m => by
  obtain ⟨n, _, e⟩ := List.mem_map.mp m
  subst e; exact sh_int 0 n
theorem sh_nL (ns : List Nat) : Sh 1 (.list (nL ns)) := sh_list fun x m => by
  obtain ⟨n, _, e⟩ := List.mem_map.mp m
  subst e; exact sh_int 0 n
theorem pl_iL (ns : List Int) : pl (.list (iL ns)) = true := by
  rw [pl]; exact pls_all fun x m => by
    obtain ⟨n, _, e⟩ := List.mem_map.mp m
    subst e; rw [pl]
theorem pl_nL (ns : List Nat) : pl (.list (nL ns)) = true := by
  rw [pl]; exact pls_all fun x m => by
    obtain ⟨n, _, e⟩ := List.mem_map.mp m
    subst e; rw [pl]
theorem nL_inj {a b : List Nat} (h : nL a = nL b) : a = b := by
  refine (List.map_inj_right fun x y e => ?_).mp h
  exact Int.ofNat.inj (PyData.int.inj e)
theorem okEq_lists {k : Nat} {a b : List D} (h1 : Sh k (.list a)) (h2 : Sh k (.list b)) (hk : k ≤ 64) : okEq (.list a) (.list b) := ⟨h1.shaped hk, h2.shaped hk⟩
theorem okEq_tups {k : Nat} {a b : List D} (h1 : Sh k (.tuple a)) (h2 : Sh k (.tuple b)) (hk : k ≤ 64) : okEq (.tuple a) (.tuple b) := ⟨h1.shaped hk, h2.shaped hk⟩
theorem mul_by {a b : Int} (h : b.natAbs < 2 ^ 64) : CMulG a b := IntMulOk.of_right (intBits_le_64 (by omega) (by omega))
theorem mul_of {a b : Int} (h : a.natAbs < 2 ^ 64) : CMulG a b := IntMulOk.of_left (intBits_le_64 (by omega) (by omega))
/-- a row of numbers from lo -/
theorem rgD_get {lo : Int} {n i : Nat} {d : D} (h : (rgD lo n)[i]? = some d) : i < n ∧ d = .int (lo + (i : Int)) := by
  unfold rgD at h
  rw [List.getElem?_map] at h
  cases e : (List.range n)[i]? with
  | none => rw [e] at h; cases h
  | some j =>
    rw [e] at h
    obtain ⟨h1, h2⟩ := List.getElem?_eq_some_iff.mp e
    simp at h h1 h2
    subst h2
    exact ⟨h1, h.symm⟩
theorem rgD_0 (n : Nat) : rgD 0 n = nL (List.range n) := by simp [rgD]
theorem map_get {α : Type} {f : α → D} {l : List α} {i : Nat} {d : D} (h : (l.map f)[i]? = some d) : ∃ x, l[i]? = some x ∧ d = f x := by
  rw [List.getElem?_map] at h
  cases e : l[i]? with
  | none => rw [e] at h; cases h
  | some x => rw [e] at h; exact ⟨x, rfl, (Option.some.inj h).symm⟩
theorem sizeLine_eq : sizeLine = 16777216 := by decide
/-- what the middle of a for's reading asks -/
def FoI (ds : List D) (g : WG) (body : WS) (D : En) (env : Env) : Prop := ∃ J : Nat → Env → Prop, J 0 env ∧ (∀ i d env', ds[i]? = some d → J i env' → g d env' fun env2 => body { D with nx := J (i + 1), ct := J (i + 1), bk := D.nx } env2) ∧ ∀ env', J ds.length env' → D.nx env'
theorem wFor_eq (it : WI) (g : WG) (body : WS) (D : En) (env : Env) : wFor it g body D env = it env (fun ds => FoI ds g body D env) (fun n => D.ex n env) := rfl
/-- a turn of a for is over -/
def NxF {α : Type} (st : α → Env) (I : Nat → α → Prop) (i : Nat) : Env → Prop := fun e => ∃ y, e = st y ∧ I i y
theorem nxF {α : Type} {st : α → Env} {I : Nat → α → Prop} {i : Nat} {e : Env} (y : α) (he : e = st y) (hI : I i y) : NxF st I i e := ⟨y, he, hI⟩
theorem for_go {α : Type} {g : WG} {body : WS} {D : En} {env : Env} {ds : List PyData} (st : α → Env) (I : Nat → α → Prop) (x0 : α) (h0 : env = st x0) (hI : I 0 x0)
    (step : ∀ i d x, ds[i]? = some d → I i x → g d (st x) fun env2 => body { D with nx := NxF st I (i + 1), ct := NxF st I (i + 1), bk := D.nx } env2) (fin : ∀ x, I ds.length x → D.nx (st x)) :
    FoI ds g body D env := for_st st I x0 h0 hI step fin
/-- a turn of a while is over -/
def NxW {α : Type} (st : α → Env) (I : α → Prop) (μ : α → Nat) (n : Nat) : Env → Prop := fun e => ∃ m, m < n ∧ ∃ y, e = st y ∧ I y ∧ m = μ y
theorem nxW {α : Type} {st : α → Env} {I : α → Prop} {μ : α → Nat} {n : Nat} {e : Env} (y : α) (he : e = st y) (hI : I y) (hm : μ y < n) : NxW st I μ n e := ⟨_, hm, y, he, hI, rfl⟩
theorem while_go {α : Type} {c : WT} {body : WS} {D : En} {env : Env} (st : α → Env) (I : α → Prop) (μ : α → Nat) (x0 : α) (h0 : env = st x0) (hI : I x0)
    (step : ∀ x, I x → c (st x) (fun k => if k = true then body { D with nx := NxW st I μ (μ x), ct := NxW st I μ (μ x), bk := D.nx } (st x) else D.nx (st x)) (fun n => D.ex n (st x))) : wWhile c body D env := while_st st I μ x0 h0 hI step
theorem cpow_ok {i j : Int} (h0 : 0 ≤ j) (h1 : j ≤ 1000000) (h2 : i.natAbs < 2 ^ 64) : CPow i j := ⟨h0, h1, h2⟩
theorem cdiv_ok {i j : Int} (h0 : 0 < j) (h1 : j.natAbs.log2 < 9000) : CDivW i j := ⟨h0, h1⟩
theorem bor_nat (a b : Nat) : Builtin.bitOr (a : Int) (b : Int) = ((a ||| b : Nat) : Int) := by
  rw [bitOr_nn (by omega) (by omega)]; rfl
theorem shl_nat (l : Nat) : (1 : Int) * 2 ^ ((l : Nat) : Int).toNat = ((2 ^ l : Nat) : Int) := by simp
theorem shr_nat (a l : Nat) : (a : Int) / 2 ^ ((l : Nat) : Int).toNat = ((a / 2 ^ l : Nat) : Int) := by simp
theorem band1_nat (a : Nat) : Builtin.bitAnd (a : Int) 1 = ((a % 2 : Nat) : Int) := by
  rw [show (1 : Int) = ((1 : Nat) : Int) from rfl, PySem.W.os_band, Nat.and_one_is_mod]
/-- comprehensions over a list of alike things -/
theorem lc_mapE {α : Type} {ls : List α} {enc : α → D} {env : Env} {vs : List Nat} {g : WG} {t : WE} {Q : R → Prop} (f : α → D) (hz : ls.length ≤ sizeLine)
    (h : ∀ x ∈ ls, ∀ A : R → Prop, (∀ r, r.st → r.d = f x → A r) → g (enc x) (wipeE env vs) fun env2 => t env2 A noE) (q : Q (.t (.lst (ls.map f)))) : LcI env (ls.map enc) vs g wYes t Q := by
  refine ⟨fun i acc => acc = (ls.take i).map f, by simp, fun i d acc hd ha => ?_, fun acc ha => ?_⟩
  · obtain ⟨x, hx, e⟩ := map_get hd
    subst e
    have ha : acc = (ls.take i).map f := ha
    refine h x (List.mem_of_getElem? hx) (fun r => r.st ∧ acc.length < sizeLine ∧ acc ++ [r.d] = (ls.take (i + 1)).map f) fun r rs rd => ⟨rs, ?_, ?_⟩
    · have hi := (List.getElem?_eq_some_iff.mp hx).1
      rw [ha, List.length_map, List.length_take]
      omega
    · rw [take_succ hx, List.map_append, ha, rd]; rfl
  · have ha : acc = (ls.take (ls.map enc).length).map f := ha
    rw [ha, List.length_map, List.take_length]; exact q
theorem lc_filterE {α : Type} {ls : List α} {enc : α → D} {env : Env} {vs : List Nat} {g : WG} {c : WT} {t : WE} {Q : R → Prop} (p : α → Bool) (f : α → D) (hz : ls.length ≤ sizeLine)
    (h : ∀ x ∈ ls, ∀ (A : R → Prop) (B : Prop), (p x = true → ∀ r, r.st → r.d = f x → A r) → (p x = false → B) → g (enc x) (wipeE env vs) fun env2 => c env2 (fun k => if k = true then t env2 A noE else B) noE)
    (q : Q (.t (.lst ((ls.filter p).map f)))) : LcI env (ls.map enc) vs g c t Q := by
  refine ⟨fun i acc => acc = ((ls.take i).filter p).map f, by simp, fun i d acc hd ha => ?_, fun acc ha => ?_⟩
  · obtain ⟨x, hx, e⟩ := map_get hd
    subst e
    have ha : acc = ((ls.take i).filter p).map f := ha
    refine h x (List.mem_of_getElem? hx) _ _ (fun pd r rs rd => ⟨rs, ?_, ?_⟩) fun pd => ?_
    · have hi := (List.getElem?_eq_some_iff.mp hx).1
      rw [ha, List.length_map]
      have h1 := List.length_filter_le p (ls.take i)
      rw [List.length_take] at h1
      omega
    · show acc ++ [r.d] = ((ls.take (i + 1)).filter p).map f
      rw [take_succ hx, List.filter_append, List.map_append, ha, rd]
      simp [pd]
    · show acc = ((ls.take (i + 1)).filter p).map f
      rw [take_succ hx, List.filter_append, ha]
      simp [pd]
  · have ha : acc = ((ls.take (ls.map enc).length).filter p).map f := ha
    rw [ha, List.length_map, List.take_length]; exact q
/-- a for over a list of alike things -/
theorem for_goE {α β : Type} {ls : List β} {enc : β → D} {g : WG} {body : WS} {D : En} {env : Env} (st : α → Env) (I : Nat → α → Prop) (x0 : α) (h0 : env = st x0) (hI : I 0 x0)
    (step : ∀ i d x, ls[i]? = some d → I i x → g (enc d) (st x) fun env2 => body { D with nx := NxF st I (i + 1), ct := NxF st I (i + 1), bk := D.nx } env2) (fin : ∀ x, I ls.length x → D.nx (st x)) :
    FoI (ls.map enc) g body D env := for_go st I x0 h0 hI (fun i d x hd hx => by
      obtain ⟨y, hy, e⟩ := map_get hd
      subst e
      exact step i y x hy hx) fun x hx => fin x (by rw [List.length_map] at hx; exact hx)
/-! ### the cases, each by itself -/
section
variable (Q : R → Prop) (q : Bool → Prop) (z : D → Prop)
theorem bAdd_i (i j : Int) : bAdd (.int i) (.int j) Q = Q (.v (.int (i + j))) := rfl
theorem bAdd_s (i j : Str) : bAdd (.str i) (.str j) Q = (i.length + j.length ≤ sizeLine ∧ Q (.v (.str (i ++ j)))) := rfl
theorem bAdd_l (i j : List D) : bAdd (.list i) (.list j) Q = (i.length + j.length ≤ sizeLine ∧ Q (.t (.lst (i ++ j)))) := rfl
theorem bAdd_t (i j : List D) : bAdd (.tuple i) (.tuple j) Q = (i.length + j.length ≤ sizeLine ∧ Q (.v (.tuple (i ++ j)))) := rfl
theorem lenD_s (i : Str) : lenD (.str i) Q = (i.length ≤ sizeLine ∧ Q (.v (.int i.length))) := rfl
theorem lenD_l (i : List D) : lenD (.list i) Q = Q (.v (.int i.length)) := rfl
theorem lenD_t (i : List D) : lenD (.tuple i) Q = Q (.v (.int i.length)) := rfl
theorem lenD_d (i : List (D × D)) : lenD (.dict i) Q = Q (.v (.int i.length)) := rfl
theorem min2D_s (i j : Str) : min2D (.str i) (.str j) Q = Q (.v (.str (if j.cps.toList < i.cps.toList then j else i))) := rfl
theorem min2D_i (i j : Int) : min2D (.int i) (.int j) Q = Q (.v (.int (if j < i then j else i))) := rfl
theorem max2D_i (i j : Int) : max2D (.int i) (.int j) Q = Q (.v (.int (if j > i then j else i))) := rfl
theorem sumD_l (i : List D) : sumD (.list i) Q = ∃ ns : List Int, i = ns.map PyData.int ∧ Q (.v (.int ns.sum)) := rfl
theorem maxD_l (i : List D) : maxD (.list i) Q = ∃ ns : List Int, i = ns.map PyData.int ∧ 0 < ns.length ∧ ∀ m, isGreatest ns m → Q (.v (.int m)) := rfl
theorem minD_l (i : List D) : minD (.list i) Q = ∃ ns : List Int, i = ns.map PyData.int ∧ 0 < ns.length ∧ ∀ m, isLeast ns m → Q (.v (.int m)) := rfl
theorem allD_l (i : List D) : allD (.list i) Q = ∃ bs : List Bool, i = bs.map PyData.bool ∧ Q (.v (.bool (bs.all id))) := rfl
theorem anyD_l (i : List D) : anyD (.list i) Q = ∃ bs : List Bool, i = bs.map PyData.bool ∧ Q (.v (.bool (bs.any id))) := rfl
theorem ordD_s (i : Str) : ordD (.str i) Q = (i.length = 1 ∧ Q (.v (.int (i.cps.getD 0 0 : Nat)))) := rfl
theorem strD_i (i : Int) : strD (.int i) Q = (i.natAbs.log2 < 1920 ∧ Q (.v (.str (toString i)))) := rfl
theorem intD_i (i : Int) : intD (.int i) Q = Q (.v (.int i)) := rfl
theorem intD_b (i : Bool) : intD (.bool i) Q = Q (.v (.int (if i then 1 else 0))) := rfl
theorem intD_s (i : Str) : intD (.str i) Q = ∃ n, PySem.intText? i = some n ∧ i.length ≤ 640 ∧ Q (.v (.int n)) := rfl
theorem listD_l (i : List D) : listD (.list i) Q = Q (.t (.lst i)) := rfl
theorem listD_t (i : List D) : listD (.tuple i) Q = Q (.t (.lst i)) := rfl
theorem tupleD_l (i : List D) : tupleD (.list i) Q = Q (.v (.tuple i)) := rfl
theorem tupleD_t (i : List D) : tupleD (.tuple i) Q = Q (.v (.tuple i)) := rfl
theorem slD_l (i : List D) (lo hi : Option Int) : slD (.list i) lo hi Q = Q (.t (.lst (cut i lo hi))) := rfl
theorem slD_t (i : List D) (lo hi : Option Int) : slD (.tuple i) lo hi Q = Q (.v (.tuple (cut i lo hi))) := rfl
theorem slD_s (i : Str) (lo hi : Option Int) : slD (.str i) lo hi Q = (i.length ≤ sizeLine ∧ Q (.v (.str (cutS i lo hi)))) := rfl
theorem ixD_l (ds : List D) (i : Int) : ixD (.list ds) (.int i) z = ∃ d, atI ds i = some d ∧ z d := rfl
theorem ixD_t (ds : List D) (i : Int) : ixD (.tuple ds) (.int i) z = ∃ d, atI ds i = some d ∧ z d := rfl
theorem ixD_s (x : Str) (i : Int) : ixD (.str x) (.int i) z = (x.length ≤ sizeLine ∧ ∃ c, atI x.cps.toList i = some c ∧ z (.str ⟨#[c]⟩)) := rfl
theorem ixD_d (kvs : List (D × D)) (k : D) : ixD (.dict kvs) k z = ∃ j d, keyD k = some j ∧ lookK kvs j = some d ∧ z d := rfl
theorem cI_i (p a c) (i j : Int) : cI p a c (.int i) (.int j) q = q (p i j) := rfl
theorem cI_s (p a c) (i j : Str) : cI p a c (.str i) (.str j) q = q (a i j) := rfl
theorem cI_t (p a c) (xs ys : List D) : cI p a c (.tuple xs) (.tuple ys) q = ∃ ns ms, xs = ns.map PyData.int ∧ ys = ms.map PyData.int ∧ q (c ns ms) := rfl
theorem cI0_i (p a) (i j : Int) : cI0 p a (.int i) (.int j) q = q (p i j) := rfl
theorem cI0_s (p a) (i j : Str) : cI0 p a (.str i) (.str j) q = q (a i j) := rfl
theorem cIs_n (x : D) : cIs x .none q = q (isN x) := rfl
theorem cIsNot_n (x : D) : cIsNot x .none q = q (!isN x) := rfl
theorem cIn_l (neg : Bool) (x : D) (ys : List D) : cIn neg x (.list ys) q = (flatD x = true ∧ ys.all flatD = true ∧ q (neg != memD x ys)) := rfl
theorem cIn_t (neg : Bool) (x : D) (ys : List D) : cIn neg x (.tuple ys) q = (flatD x = true ∧ ys.all flatD = true ∧ q (neg != memD x ys)) := rfl
theorem cIn_d (neg : Bool) (x : D) (ys : List (D × D)) : cIn neg x (.dict ys) q = (flK ys ∧ ∃ k, keyD x = some k ∧ q (neg != (lookK ys k).isSome)) := rfl
theorem cIn_s (neg : Bool) (i j : Str) : cIn neg (.str i) (.str j) q = q (neg != !(Builtin.Str.occurrences j i 0 j.length 1).isEmpty) := rfl
theorem tru_n : tru .none q = q false := rfl
theorem tru_b (b : Bool) : tru (.bool b) q = q b := rfl
theorem tru_i (b : Int) : tru (.int b) q = q (b != 0) := rfl
theorem tru_s (b : Str) : tru (.str b) q = (b.length ≤ sizeLine ∧ q ((b.length : Int) != 0)) := rfl
theorem tru_l (b : List D) : tru (.list b) q = q (!b.isEmpty) := rfl
theorem tru_t (b : List D) : tru (.tuple b) q = q (!b.isEmpty) := rfl
end
/-! ### slices -/
theorem cut_to {α : Type} (xs : List α) (j : Nat) : cut xs none (some (j : Int)) = xs.take j := by
  unfold cut
  rw [HT.sIx_none, HT.sIx_nat, List.drop_zero, Nat.sub_zero]
  by_cases h : j ≤ xs.length
  · rw [Nat.min_eq_left h]
  · rw [Nat.min_eq_right (by omega), List.take_length, List.take_of_length_le (by omega)]
theorem cut_from {α : Type} (xs : List α) (j : Nat) : cut xs (some (j : Int)) none = xs.drop j := by
  unfold cut
  rw [HT.sIx_none, HT.sIx_nat]
  by_cases h : j ≤ xs.length
  · rw [Nat.min_eq_left h, List.take_of_length_le (by simp)]
  · rw [Nat.min_eq_right (by omega), List.drop_length, List.drop_of_length_le (by omega)]; simp
theorem cut_in {α : Type} (xs : List α) (i j : Nat) : cut xs (some (i : Int)) (some (j : Int)) = (xs.take j).drop i := by
  unfold cut
  rw [HT.sIx_nat, HT.sIx_nat, List.drop_take]
  by_cases h : i ≤ xs.length
  · rw [Nat.min_eq_left h]
    by_cases h2 : j ≤ xs.length
    · rw [Nat.min_eq_left h2]
    · rw [Nat.min_eq_right (by omega), List.take_of_length_le (by simp), List.take_of_length_le (by simp; omega)]
  · rw [show min i xs.length = xs.length from by omega, List.drop_length, List.drop_of_length_le (by omega)]; simp
theorem cut_all {α : Type} (xs : List α) : cut xs none none = xs := by
  unfold cut
  rw [HT.sIx_none, HT.sIx_none]
  simp
theorem cut_front {α : Type} (xs : List α) : cut xs none (some (-1)) = xs.dropLast := by
  unfold cut
  have e : HT.sIx xs.length xs.length (some (-1)) = xs.length - 1 := by
    simp only [HT.sIx]
    rw [if_pos (by decide)]; omega
  rw [HT.sIx_none, e, List.dropLast_eq_take]
  simp
theorem atI_nat {α : Type} (xs : List α) (i : Nat) : atI xs (i : Int) = xs[i]? := by
  unfold atI ixN
  rw [if_pos (by omega)]
  by_cases h : i < xs.length
  · rw [if_pos (by omega)]; rfl
  · rw [if_neg (by omega), List.getElem?_eq_none (by omega)]; rfl
end DL

set_option Elab.async false
set_option linter.all false
set_option maxRecDepth 100000
set_option maxHeartbeats 1000000
/-! DLF: loops by the slots that they change; comprehensions by relations. -/
namespace DL
open PySem L2 PyProof.Rows
/-- some slots set -/
def setL (env : Env) : List Nat → List (Option O) → Env
  | i :: is, o :: os => setL (env.set i o) is os
  | _, _ => env
/-! bits -/
theorem and_div2 (a b : Nat) : (a &&& b) / 2 = a / 2 &&& b / 2 := by
  have h : (a &&& b) >>> 1 = a >>> 1 &&& b >>> 1 := by simp [Nat.shiftRight_and_distrib]
  simpa [Nat.shiftRight_eq_div_pow] using h
theorem and_mod2 (a b : Nat) : (a &&& b) % 2 = (a % 2) * (b % 2) := by
  have := Nat.and_mod_two_pow (a := a) (b := b) (n := 1)
  simp only [Nat.pow_one] at this
  rw [this]
  have ha : a % 2 = 0 ∨ a % 2 = 1 := by omega
  have hb : b % 2 = 0 ∨ b % 2 = 1 := by omega
  rcases ha with ha | ha <;> rcases hb with hb | hb <;> rw [ha, hb] <;> decide
theorem or_div2 (a b : Nat) : (a ||| b) / 2 = a / 2 ||| b / 2 := by
  have h : (a ||| b) >>> 1 = a >>> 1 ||| b >>> 1 := by simp [Nat.shiftRight_or_distrib]
  simpa [Nat.shiftRight_eq_div_pow] using h
theorem xor_div2 (a b : Nat) : (a ^^^ b) / 2 = a / 2 ^^^ b / 2 := by
  have h : (a ^^^ b) >>> 1 = a >>> 1 ^^^ b >>> 1 := by simp [Nat.shiftRight_xor_distrib]
  simpa [Nat.shiftRight_eq_div_pow] using h
theorem or_mod2 (a b : Nat) : (a ||| b) % 2 = (a % 2) ||| (b % 2) := by
  have := Nat.or_mod_two_pow (a := a) (b := b) (n := 1)
  simpa only [Nat.pow_one] using this
theorem xor_mod2 (a b : Nat) : (a ^^^ b) % 2 = (a % 2) ^^^ (b % 2) := by
  have := Nat.xor_mod_two_pow (a := a) (b := b) (n := 1)
  simpa only [Nat.pow_one] using this
theorem xor_and (a : Nat) : ∀ b : Nat, (a ^^^ b) + (a &&& b) = a ||| b := by
  induction a using Nat.strongRecOn with
  | ind a ih =>
    intro b
    by_cases h0 : a = 0
    · subst h0; simp
    have h := ih (a / 2) (by omega) (b / 2)
    have e1 := Nat.div_add_mod (a ^^^ b) 2
    have e2 := Nat.div_add_mod (a &&& b) 2
    have e3 := Nat.div_add_mod (a ||| b) 2
    rw [xor_div2, xor_mod2] at e1
    rw [and_div2, and_mod2] at e2
    rw [or_div2, or_mod2] at e3
    have ha : a % 2 = 0 ∨ a % 2 = 1 := by omega
    have hb : b % 2 = 0 ∨ b % 2 = 1 := by omega
    rcases ha with ha | ha <;> rcases hb with hb | hb <;> rw [ha, hb] at e1 e2 e3 <;> simp at e1 e2 e3 <;> omega
theorem bxor_nat (a b : Nat) : Builtin.bitXor (a : Int) (b : Int) = ((a ^^^ b : Nat) : Int) := by
  have h := xor_and a b
  show Builtin.bitOr (a : Int) (b : Int) - Builtin.bitAnd (a : Int) (b : Int) = _
  rw [bor_nat, PySem.W.os_band]
  omega
theorem shl_nat2 (l : Nat) : (1 : Int) * 2 ^ l = ((2 ^ l : Nat) : Int) := by simp
theorem shr_nat2 (a l : Nat) : (a : Int) / 2 ^ l = ((a / 2 ^ l : Nat) : Int) := by simp
/-- two ways meet: what holds then -/
def wSqM (s r : WS) : WS := wSq s r
theorem wSqM_of {s r : WS} {D : En} {env : Env} (h : s { D with nx := r D } env) : wSqM s r D env := wSq_of h
theorem wSqM_by {s r : WS} {D : En} {env : Env} {α : Type} (is : List Nat) (os : α → List (Option O)) (I : α → Prop) (h : s { D with nx := fun e => ∃ x, e = setL env is (os x) ∧ I x } env) (g : ∀ x, I x → r D (setL env is (os x))) : wSqM s r D env :=
  ⟨fun e => ∃ x, e = setL env is (os x) ∧ I x, h, fun e ⟨x, q, i⟩ => by rw [q]; exact g x i⟩
theorem setL_cons (env : Env) (i : Nat) (is : List Nat) (o : Option O) (os : List (Option O)) : setL env (i :: is) (o :: os) = setL (env.set i o) is os := rfl
theorem setL_nil (env : Env) : setL env [] [] = env := rfl
theorem range_get {n i d : Nat} (h : (List.range n)[i]? = some d) : d = i ∧ i < n := by
  obtain ⟨h1, h2⟩ := List.getElem?_eq_some_iff.mp h
  simp at h1 h2
  exact ⟨h2.symm, h1⟩
/-- a for by the slots that it changes -/
theorem for_gs {α β : Type} {ls : List β} {enc : β → D} {g : WG} {body : WS} {D : En} {env : Env} (is : List Nat) (os : α → List (Option O)) (I : Nat → α → Prop) (x0 : α) (h0 : env = setL env is (os x0)) (hI : I 0 x0)
    (step : ∀ i d x, ls[i]? = some d → I i x → g (enc d) (setL env is (os x)) fun env2 => body { D with nx := NxF (fun x => setL env is (os x)) I (i + 1), ct := NxF (fun x => setL env is (os x)) I (i + 1), bk := D.nx } env2)
    (fin : ∀ x, I ls.length x → D.nx (setL env is (os x))) : FoI (ls.map enc) g body D env := for_goE (fun x => setL env is (os x)) I x0 h0 hI step fin
theorem while_gs {α : Type} {c : WT} {body : WS} {D : En} {env : Env} (is : List Nat) (os : α → List (Option O)) (I : α → Prop) (μ : α → Nat) (x0 : α) (h0 : env = setL env is (os x0)) (hI : I x0)
    (step : ∀ x, I x → c (setL env is (os x)) (fun k => if k = true then body { D with nx := NxW (fun x => setL env is (os x)) I μ (μ x), ct := NxW (fun x => setL env is (os x)) I μ (μ x), bk := D.nx } (setL env is (os x)) else D.nx (setL env is (os x))) (fun n => D.ex n (setL env is (os x)))) : wWhile c body D env :=
  while_go (fun x => setL env is (os x)) I μ x0 h0 hI step
theorem set_same (env : Env) (i : Nat) : env.set i ((env[i]?).getD none) = env := by
  apply List.ext_getElem?
  intro j
  by_cases h : i = j
  · subst h
    by_cases hl : i < env.length
    · rw [List.getElem?_set_self hl, List.getElem?_eq_getElem hl]; rfl
    · rw [List.getElem?_eq_none (by simp; omega), List.getElem?_eq_none (by omega)]
  · rw [List.getElem?_set_ne h]
/-- a for that changes no slot but its target's -/
def Stay (env : Env) (i : Nat) : Env → Prop := fun e => ∃ o, e = env.set i o
theorem stay {env e : Env} {i : Nat} (o : Option O) (h : e = env.set i o) : Stay env i e := ⟨o, h⟩
theorem for_chk {β : Type} {ls : List β} {enc : β → D} {body : WS} {D : En} {env : Env} {i : Nat}
    (step : ∀ (k : Nat) x, ls[k]? = some x → body { D with nx := Stay env i, ct := Stay env i, bk := D.nx } (env.set i (some (.fro (enc x)))))
    (fin : ∀ o, D.nx (env.set i o)) : FoI (ls.map enc) (gN i) body D env := by
  refine ⟨fun _ e => Stay env i e, ⟨_, (set_same env i).symm⟩, ?_, ?_⟩
  · rintro k d e hd ⟨o, rfl⟩
    obtain ⟨x, hx, ed⟩ := map_get hd
    subst ed
    have := step k x hx
    unfold gN
    rw [List.set_set]
    exact this
  · rintro e ⟨o, rfl⟩
    exact fin o
theorem for_chk_list {ds : List D} {body : WS} {D : En} {env : Env} {i : Nat}
    (step : ∀ (k : Nat) d, ds[k]? = some d → body { D with nx := Stay env i, ct := Stay env i, bk := D.nx } (env.set i (some (.fro d))))
    (fin : ∀ o, D.nx (env.set i o)) : FoI ds (gN i) body D env := by
  have := for_chk (ls := ds) (enc := id) (i := i) (env := env) (D := D) (body := body) step fin
  rwa [List.map_id] at this
/-- comprehensions by a relation -/
theorem lc_relE {α β : Type} {ls : List α} {enc : α → D} {enc2 : β → D} {env : Env} {vs : List Nat} {g : WG} {t : WE} {Q : R → Prop} (P : α → β → Prop) (hz : ls.length ≤ sizeLine)
    (h : ∀ x ∈ ls, ∀ A : R → Prop, (∀ r y, r.st → r.d = enc2 y → P x y → A r) → g (enc x) (wipeE env vs) fun env2 => t env2 A noE)
    (q : ∀ ys : List β, ys.length = ls.length → (∀ (i : Nat) (x : α) (y : β), ls[i]? = some x → ys[i]? = some y → P x y) → Q (.t (.lst (ys.map enc2)))) : LcI env (ls.map enc) vs g wYes t Q := by
  refine ⟨fun i acc => ∃ ys : List β, acc = ys.map enc2 ∧ ys.length = i ∧ ∀ (j : Nat) (x : α) (y : β), ls[j]? = some x → ys[j]? = some y → P x y, ⟨[], rfl, rfl, by simp⟩, fun i d acc hd ha => ?_, fun acc ha => ?_⟩
  · obtain ⟨x, hx, e⟩ := map_get hd
    subst e
    obtain ⟨ys, e, hl, hp⟩ := ha
    subst e
    have hi := (List.getElem?_eq_some_iff.mp hx).1
    refine h x (List.mem_of_getElem? hx) (fun r => r.st ∧ (ys.map enc2).length < sizeLine ∧ _) fun r y rs rd hy => ⟨rs, by rw [List.length_map]; omega, ys ++ [y], by rw [rd]; simp, by simp [hl], fun j x' y' hx' hy' => ?_⟩
    by_cases hj : j < ys.length
    · rw [List.getElem?_append_left hj] at hy'
      exact hp j x' y' hx' hy'
    · rw [List.getElem?_append_right (by omega)] at hy'
      have hj2 : j - ys.length = 0 := by
        rcases Nat.eq_zero_or_pos (j - ys.length) with z | z
        · exact z
        · rw [List.getElem?_eq_none (by simp; omega)] at hy'; cases hy'
      rw [hj2] at hy'
      have ej : j = i := by omega
      subst ej
      rw [hx] at hx'
      cases hx'
      simp at hy'
      subst hy'
      exact hy
  · obtain ⟨ys, e, hl, hp⟩ := ha
    subst e
    exact q ys (by rw [hl, List.length_map]) hp
/-- .. by a property -/
theorem lc_allE {α β : Type} {ls : List α} {enc : α → D} {enc2 : β → D} {env : Env} {vs : List Nat} {g : WG} {t : WE} {Q : R → Prop} (P : β → Prop) (hz : ls.length ≤ sizeLine)
    (h : ∀ x ∈ ls, ∀ A : R → Prop, (∀ r y, r.st → r.d = enc2 y → P y → A r) → g (enc x) (wipeE env vs) fun env2 => t env2 A noE)
    (q : ∀ ys : List β, ys.length = ls.length → (∀ y ∈ ys, P y) → Q (.t (.lst (ys.map enc2)))) : LcI env (ls.map enc) vs g wYes t Q := by
  refine lc_relE (enc2 := enc2) (fun _ y => P y) hz h fun ys hl hp => q ys hl fun y m => ?_
  obtain ⟨i, hi⟩ := List.mem_iff_getElem?.mp m
  have hlt : i < ls.length := by rw [← hl]; exact (List.getElem?_eq_some_iff.mp hi).1
  exact hp i ls[i] y (List.getElem?_eq_getElem hlt) hi
/-! alike data -/
theorem nL_iff (a b : List Nat) : (nL a = nL b) = (a = b) := propext ⟨nL_inj, fun h => by rw [h]⟩
theorem iL_iff (a b : List Int) : (iL a = iL b) = (a = b) := propext ⟨fun h => (List.map_inj_right fun x y e => PyData.int.inj e).mp h, fun h => by rw [h]⟩
/-- pairs of numbers as data -/
abbrev pD (p : Nat × Nat) : D := .tuple [.int (p.1 : Int), .int (p.2 : Int)]
abbrev pL (ps : List (Nat × Nat)) : List D := ps.map pD
abbrev zD (p : Int × Int) : D := .tuple [.int p.1, .int p.2]
abbrev zL (ps : List (Int × Int)) : List D := ps.map zD
abbrev sL (ps : List Str) : List D := ps.map PyData.str
theorem map_iff {α : Type} {f : α → D} (hf : ∀ x y, f x = f y → x = y) (a b : List α) : (a.map f = b.map f) = (a = b) := propext ⟨fun h => (List.map_inj_right hf).mp h, fun h => by rw [h]⟩
theorem zL_iff (a b : List (Int × Int)) : (zL a = zL b) = (a = b) := map_iff (fun x y e => by simp [zD] at e; exact Prod.ext e.1 e.2) a b
theorem pL_iff (a b : List (Nat × Nat)) : (pL a = pL b) = (a = b) := map_iff (fun x y e => by simp [pD] at e; exact Prod.ext (by omega) (by omega)) a b
theorem sL_iff (a b : List Str) : (sL a = sL b) = (a = b) := map_iff (fun x y e => PyData.str.inj e) a b
theorem pL_snoc (ps : List (Nat × Nat)) (x y : Nat) : pL ps ++ [.tuple [.int (x : Int), .int (y : Int)]] = pL (ps ++ [(x, y)]) := by simp
theorem zL_snoc (ps : List (Int × Int)) (x y : Int) : zL ps ++ [.tuple [.int x, .int y]] = zL (ps ++ [(x, y)]) := by simp
theorem lit_iff (n k : Nat) : ((no_index (OfNat.ofNat n) : Int) = (k : Int)) = (n = k) := propext ⟨fun h => Int.ofNat.inj h, fun h => by rw [h]; rfl⟩
theorem nat_iff (a b : Nat) : ((a : Int) = (b : Int)) = (a = b) := propext ⟨fun h => by omega, fun h => by rw [h]⟩
theorem ex_and {α : Sort _} {a : α} {p : α → Prop} : (∃ x, a = x ∧ p x) = p a := propext ⟨fun ⟨_, rfl, h⟩ => h, fun h => ⟨a, rfl, h⟩⟩
/-! targets of known forms -/
theorem gT_t (n : Nat) (g : WGs) (ds : List D) (env : Env) (Q : Env → Prop) : gT n g (.tuple ds) env Q = (ds.length = n ∧ g ds env Q) := by
  unfold gT
  apply propext
  constructor
  · rintro ⟨d, e, h⟩
    cases e; exact h
  · intro h; exact ⟨ds, rfl, h⟩
theorem gsC_c (g : WG) (r : WGs) (d : D) (ds : List D) (env : Env) (Q : Env → Prop) : gsC g r (d :: ds) env Q = g d env fun env' => r ds env' Q := by
  unfold gsC
  apply propext
  constructor
  · rintro ⟨d, ds, e, h⟩
    cases e; exact h
  · intro h; exact ⟨d, ds, rfl, h⟩
theorem gsN_n (env : Env) (Q : Env → Prop) : gsN [] env Q = Q env := by
  unfold gsN
  simp
/-! in, flat lists -/
theorem flat_iL (ns : List Int) : (iL ns).all flatD = true := by
  rw [List.all_eq_true]; intro x m; obtain ⟨n, _, rfl⟩ := List.mem_map.mp m; rfl
theorem flat_nL (ns : List Nat) : (nL ns).all flatD = true := by
  rw [List.all_eq_true]; intro x m; obtain ⟨n, _, rfl⟩ := List.mem_map.mp m; rfl
theorem flat_sL (ns : List Str) : (ns.map PyData.str).all flatD = true := by
  rw [List.all_eq_true]; intro x m; obtain ⟨n, _, rfl⟩ := List.mem_map.mp m; rfl
theorem memD_iL (x : Int) (ns : List Int) : memD (.int x) (iL ns) = decide (x ∈ ns) := by
  unfold memD
  rw [Bool.eq_iff_iff, List.any_eq_true, decide_eq_true_eq]
  constructor
  · rintro ⟨d, m, e⟩
    obtain ⟨n, hn, rfl⟩ := List.mem_map.mp m
    rw [eqv_int, decide_eq_true_eq] at e
    subst e; exact hn
  · intro h
    exact ⟨_, List.mem_map_of_mem h, by simp⟩
theorem memD_nL (x : Nat) (ns : List Nat) : memD (.int (x : Int)) (nL ns) = decide (x ∈ ns) := by
  unfold memD
  rw [Bool.eq_iff_iff, List.any_eq_true, decide_eq_true_eq]
  constructor
  · rintro ⟨d, m, e⟩
    obtain ⟨n, hn, rfl⟩ := List.mem_map.mp m
    rw [eqv_int, decide_eq_true_eq] at e
    have : n = x := by omega
    subst this; exact hn
  · intro h
    exact ⟨_, List.mem_map_of_mem h, by simp⟩
theorem memD_sL (x : Str) (ns : List Str) : memD (.str x) (ns.map PyData.str) = decide (x ∈ ns) := by
  unfold memD
  rw [Bool.eq_iff_iff, List.any_eq_true, decide_eq_true_eq]
  constructor
  · rintro ⟨d, m, e⟩
    obtain ⟨n, hn, rfl⟩ := List.mem_map.mp m
    rw [eqv_str, decide_eq_true_eq] at e
    subst e; exact hn
  · intro h
    exact ⟨_, List.mem_map_of_mem h, by simp⟩
theorem atI_last {α : Type} {xs : List α} (h : xs ≠ []) : atI xs (-1) = some (xs.getLast h) := by
  unfold atI ixN
  have : 0 < xs.length := List.length_pos_iff.mpr h
  rw [if_neg (by decide), if_pos (by omega)]
  show xs[_]? = _
  rw [List.getLast_eq_getElem h, List.getElem?_eq_getElem (by omega)]
  congr 2
  all_goals first | omega | (simp; omega) | skip
theorem atI_lt {α : Type} {xs : List α} {i : Nat} (h : i < xs.length) : atI xs (i : Int) = some xs[i] := by
  rw [atI_nat, List.getElem?_eq_getElem h]
theorem atI_c0 {α : Type} (a : α) (xs : List α) : atI (a :: xs) 0 = some a := atI_nat (a :: xs) 0
theorem atI_c1 {α : Type} (a b : α) (xs : List α) : atI (a :: b :: xs) 1 = some b := atI_nat (a :: b :: xs) 1
theorem atI_c2 {α : Type} (a b c : α) (xs : List α) : atI (a :: b :: c :: xs) 2 = some c := atI_nat (a :: b :: c :: xs) 2
theorem atI_c3 {α : Type} (a b c d : α) (xs : List α) : atI (a :: b :: c :: d :: xs) 3 = some d := atI_nat (a :: b :: c :: d :: xs) 3
theorem atI_c4 {α : Type} (a b c d e : α) (xs : List α) : atI (a :: b :: c :: d :: e :: xs) 4 = some e := atI_nat (a :: b :: c :: d :: e :: xs) 4
theorem atI_snoc {α : Type} (xs : List α) (x : α) : atI (xs ++ [x]) (-1) = some x := by
  rw [atI_last (by simp)]; simp
theorem atI_msnoc {α β : Type} (f : α → β) (xs : List α) (x : α) : atI ((xs ++ [x]).map f) (-1) = some (f x) := by
  rw [atI_map, atI_snoc]; rfl
/-- a rest that is a natural number -/
theorem emod_nat {a b : Int} (hb : 0 < b) : ∃ n : Nat, a % b = (n : Int) ∧ (n : Int) < b :=
  ⟨(a % b).toNat, (Int.toNat_of_nonneg (Int.emod_nonneg _ (by omega))).symm, by rw [Int.toNat_of_nonneg (Int.emod_nonneg _ (by omega))]; exact Int.emod_lt_of_pos _ hb⟩
/-! equal -/
theorem eqv_nilL (xs : List D) : PyData.eqv (.list xs) (.list []) = xs.isEmpty := by cases xs <;> simp [PyData.eqv, PyData.eqvAll]
theorem eqv_nilT (xs : List D) : PyData.eqv (.tuple xs) (.tuple []) = xs.isEmpty := by cases xs <;> simp [PyData.eqv, PyData.eqvAll]
theorem okEq_of {k : Nat} {a b : D} (h1 : Sh k a) (h2 : Sh k b) (hk : k ≤ 64) : okEq a b := by
  have x1 := h1.shaped hk
  have x2 := h2.shaped hk
  cases a <;> cases b <;> first | exact True.intro | exact ⟨x1, x2⟩
theorem sh_map {α : Type} {k : Nat} {f : α → D} (h : ∀ x, Sh k (f x)) (l : List α) : Sh (k + 1) (.list (l.map f)) := sh_list fun x m => by
  obtain ⟨n, _, rfl⟩ := List.mem_map.mp m; exact h n
theorem sh_mapT {α : Type} {k : Nat} {f : α → D} (h : ∀ x, Sh k (f x)) (l : List α) : Sh (k + 1) (.tuple (l.map f)) := sh_tuple fun x m => by
  obtain ⟨n, _, rfl⟩ := List.mem_map.mp m; exact h n
/-- alike data of a known depth, held against itself -/
theorem same_go {k : Nat} {a : D} {Q : Bool → Prop} (h : Sh k a) (hk : k ≤ 64) (hq : Q true) : okEq a a ∧ Q (PyData.eqv a a) := ⟨okEq_of h h hk, by rw [eqv_self h]; exact hq⟩
theorem ne_self_go {k : Nat} {a : D} {A B : Prop} (h : Sh k a) (hk : k ≤ 64) (hb : B) : okEq a a ∧ if (!PyData.eqv a a) = true then A else B := ⟨okEq_of h h hk, by rw [eqv_self h, if_neg (by simp)]; exact hb⟩
theorem sh_nLs (l : List (List Nat)) : Sh 2 (.list (l.map fun xs => .list (nL xs))) := sh_map (fun xs => sh_nL xs) l
theorem okEq_nL (a b : List Nat) : okEq (.list (nL a)) (.list (nL b)) = True := eq_true (okEq_of (sh_nL a) (sh_nL b) (by decide))
theorem eqv_nL (a b : List Nat) : PyData.eqv (.list (nL a)) (.list (nL b)) = decide (a = b) := by
  rw [Bool.eq_iff_iff, eqv_pl (pl_nL a) (pl_nL b), decide_eq_true_eq]
  simp only [PyData.list.injEq]
  exact ⟨nL_inj, fun h => by rw [h]⟩
theorem okEq_iL (a b : List Int) : okEq (.list (iL a)) (.list (iL b)) = True := eq_true (okEq_of (sh_iL a) (sh_iL b) (by decide))
theorem eqv_iL (a b : List Int) : PyData.eqv (.list (iL a)) (.list (iL b)) = decide (a = b) := by
  rw [Bool.eq_iff_iff, eqv_pl (pl_iL a) (pl_iL b), decide_eq_true_eq]
  simp only [PyData.list.injEq]
  exact ⟨fun h => (List.map_inj_right fun x y e => PyData.int.inj e).mp h, fun h => by rw [h]⟩
theorem okEq_nL0 (a : List Nat) : okEq (.list (nL a)) (.list []) = True := okEq_nL a []
theorem okEq_bL (a b : List Bool) : okEq (.list (a.map PyData.bool)) (.list (b.map PyData.bool)) := okEq_of (k := 1) (sh_list fun x m => by
  obtain ⟨n, _, rfl⟩ := List.mem_map.mp m; exact sh_bool 0 n) (sh_list fun x m => by
  obtain ⟨n, _, rfl⟩ := List.mem_map.mp m; exact sh_bool 0 n) (by decide)
theorem eqv_bL_self (a : List Bool) : PyData.eqv (.list (a.map PyData.bool)) (.list (a.map PyData.bool)) = true := eqv_self (k := 1) (sh_list fun x m => by
  obtain ⟨n, _, rfl⟩ := List.mem_map.mp m; exact sh_bool 0 n)
/-- what a refusal's kinds are held against -/
theorem kinds_go {a b : List Bool} {Q : R → Prop} (h : a = b) (hq : Q (.v (.bool true))) : okEq (.list (a.map PyData.bool)) (.list (b.map PyData.bool)) ∧ Q (.v (.bool (PyData.eqv (.list (a.map PyData.bool)) (.list (b.map PyData.bool))))) := by
  subst h
  exact ⟨okEq_bL _ _, by rw [eqv_bL_self]; exact hq⟩
theorem isEmpty_map {α β : Type} (f : α → β) (xs : List α) : (xs.map f).isEmpty = xs.isEmpty := by cases xs <;> rfl
theorem ixN_lt {n i : Nat} (h : i < n) : ixN n (i : Int) = some i := by
  unfold ixN
  rw [if_pos (by omega), if_pos (by omega)]; simp
theorem nL_snoc (xs : List Nat) (c : Nat) : nL xs ++ [PyData.int (c : Int)] = nL (xs ++ [c]) := by simp
theorem nL_set (xs : List Nat) (i : Nat) (v : Nat) : (nL xs).set i (PyData.int (v : Int)) = nL (xs.set i v) := by simp
theorem iL_set (xs : List Int) (i : Nat) (v : Int) : (iL xs).set i (PyData.int v) = iL (xs.set i v) := by simp
theorem iL_snoc (xs : List Int) (c : Int) : iL xs ++ [PyData.int c] = iL (xs ++ [c]) := by simp
theorem sL_snoc (xs : List Str) (c : Str) : xs.map PyData.str ++ [PyData.str c] = (xs ++ [c]).map PyData.str := by simp
theorem map_insD {α β : Type} (f : α → β) (xs : List α) (i : Int) (x : α) : insD (xs.map f) i (f x) = (insD xs i x).map f := by
  unfold insD
  simp [List.map_take, List.map_drop]
theorem mem_insD {α : Type} {xs : List α} {i : Int} {x y : α} : y ∈ insD xs i x ↔ y = x ∨ y ∈ xs := by
  unfold insD
  constructor
  · intro h
    simp only [List.mem_append, List.mem_singleton] at h
    rcases h with (h | h) | h
    · exact .inr (List.mem_of_mem_take h)
    · exact .inl h
    · exact .inr (List.mem_of_mem_drop h)
  · rintro (h | h)
    · simp [h]
    · rw [← List.take_append_drop i.toNat xs] at h
      simp only [List.mem_append] at h
      simp only [List.mem_append, List.mem_singleton]
      rcases h with h | h
      · exact .inl (.inl h)
      · exact .inr h
theorem insD_length {α : Type} (xs : List α) (i : Int) (x : α) : (insD xs i x).length = xs.length + 1 := by
  unfold insD
  simp only [List.length_append, List.length_take, List.length_drop, List.length_cons, List.length_nil]
  omega
theorem atI_map_lt {α β : Type} (f : α → β) {xs : List α} {i : Nat} (h : i < xs.length) : atI (xs.map f) (i : Int) = some (f xs[i]) := by
  rw [atI_map, atI_lt h]; rfl
theorem atI_map_last {α β : Type} (f : α → β) {xs : List α} (h : xs ≠ []) : atI (xs.map f) (-1) = some (f (xs.getLast h)) := by
  rw [atI_map, atI_last h]; rfl
/-! slices at written places -/
theorem cut_toL {α : Type} (xs : List α) (n : Nat) : cut xs none (some (no_index (OfNat.ofNat n))) = xs.take n := cut_to xs n
theorem cut_fromL {α : Type} (xs : List α) (n : Nat) : cut xs (some (no_index (OfNat.ofNat n))) none = xs.drop n := cut_from xs n
theorem cut_toM {α β : Type} (f : α → β) (xs : List α) (n : Nat) : cut (xs.map f) none (some (no_index (OfNat.ofNat n))) = (xs.take n).map f := by
  rw [cut_toL, List.map_take]
theorem cut_fromM {α β : Type} (f : α → β) (xs : List α) (n : Nat) : cut (xs.map f) (some (no_index (OfNat.ofNat n))) none = (xs.drop n).map f := by
  rw [cut_fromL, List.map_drop]
theorem cut_inL {α : Type} (xs : List α) (m n : Nat) : cut xs (some (no_index (OfNat.ofNat m))) (some (no_index (OfNat.ofNat n))) = (xs.take n).drop m := cut_in xs m n
theorem cut_inM {α β : Type} (f : α → β) (xs : List α) (m n : Nat) : cut (xs.map f) (some (no_index (OfNat.ofNat m))) (some (no_index (OfNat.ofNat n))) = ((xs.take n).drop m).map f := by
  rw [cut_inL, List.map_drop, List.map_take]
theorem take_len {α : Type} {xs : List α} {n k : Nat} (h : xs.length ≤ k) : (xs.take n).length ≤ k := by rw [List.length_take]; omega
theorem drop_len {α : Type} {xs : List α} {n k : Nat} (h : xs.length ≤ k) : (xs.drop n).length ≤ k := by rw [List.length_drop]; omega
theorem le_line {n k : Nat} (h : n ≤ k) (hk : k ≤ 16777216) : n ≤ sizeLine := by rw [sizeLine_eq]; omega
theorem lt_line {n k : Nat} (h : n < k) (hk : k ≤ 16777216) : n < sizeLine := by rw [sizeLine_eq]; omega
end DL

set_option Elab.async false
set_option linter.all false
set_option maxRecDepth 100000
set_option maxHeartbeats 1000000
/-! DL13: zip, enumerate, reversed, ranges by steps, texts, walked over data. -/
namespace DL
open PySem L2 PyProof.Rows
theorem zipD_get {xs ys : List D} {i : Nat} {d e : D} (h : xs[i]? = some d) (g : ys[i]? = some e) : (List.zipWith (fun a b => PyData.tuple [a, b]) xs ys)[i]? = some (.tuple [d, e]) := by
  rw [List.getElem?_zipWith, h, g]
theorem zip_flat {xs ys : List D} {i : Nat} {d e : D} (fl : xs.all flatD = true ∨ ys.all flatD = true) (h : xs[i]? = some d) (g : ys[i]? = some e) : ∃ x ∈ [d, e], flatD x = true := by
  rcases fl with fl | fl
  · exact ⟨d, by simp, List.all_eq_true.mp fl d (List.mem_of_getElem? h)⟩
  · exact ⟨e, by simp, List.all_eq_true.mp fl e (List.mem_of_getElem? g)⟩
def zipD (xs ys : List D) : List D := List.zipWith (fun a b => PyData.tuple [a, b]) xs ys
theorem zipD_len (xs ys : List D) : (zipD xs ys).length = min xs.length ys.length := by unfold zipD; rw [List.length_zipWith]
theorem zipD_map {α β : Type} (f : α → D) (g : β → D) (xs : List α) (ys : List β) : zipD (xs.map f) (ys.map g) = (xs.zip ys).map fun p => PyData.tuple [f p.1, g p.2] := by
  unfold zipD
  rw [List.zipWith_map, List.zip, List.map_zipWith]
theorem walk_zip {K : K0} {B : Hp} {a b : Addr} {vs ws : List V} {ds es : List D} (s : SqL K B a vs) (r : RepAll K B vs ds) (s2 : SqL K B b ws) (r2 : RepAll K B ws es) (fl : ds.all flatD = true ∨ es.all flatD = true) : Walk K B (Itz K a b) (zipD ds es) where
  go := fun i H B1 l1 l2 h => by
    rw [zipD_len] at h
    have h1 : i < vs.length := by rw [r.length]; omega
    have h2 : i < ws.length := by rw [r2.length]; omega
    exact ⟨vs, ws, vs[i], ws[i], (l1.trans l2).sqL s, (l1.trans l2).sqL s2, by simp [h1], by simp [h2]⟩
  stop := fun i H B1 l1 l2 h => by
    rw [zipD_len] at h
    exact ⟨vs, ws, (l1.trans l2).sqL s, (l1.trans l2).sqL s2, by rw [r.length, r2.length]; omega⟩
  yld := fun i H x H' B1 hlt l1 l2 ⟨T, x1, y1, e, n, e2, y, y'⟩ => by
    subst e e2
    obtain ⟨d, h1, h2⟩ := r.getV (y vs ((l1.trans l2).sqL s))
    obtain ⟨d', h3, h4⟩ := r2.getV (y' ws ((l1.trans l2).sqL s2))
    refine ⟨_, upd B1 T (.tup [x1, y1]), zipD_get h1 h3, .put l2 n _, .tup (.inl (.inl upd_same)) ?_ (.inr (zip_flat fl h1 h3))⟩
    have m := Ext.put l2 n (HO.tup [x1, y1])
    exact .cons ((h2.mono l1).mono m.le) (.cons ((h4.mono l1).mono m.le) .nil)
theorem walk_zipT {K : K0} {B : Hp} {a b : Addr} {vs ws : List V} {ds es : List D} (s : SqT K B a vs) (r : RepAll K B vs ds) (s2 : SqT K B b ws) (r2 : RepAll K B ws es) (fl : ds.all flatD = true ∨ es.all flatD = true) : Walk K B (RZ.ItzT K a b) (zipD ds es) where
  go := fun i H B1 l1 l2 h => by
    rw [zipD_len] at h
    have h1 : i < vs.length := by rw [r.length]; omega
    have h2 : i < ws.length := by rw [r2.length]; omega
    exact ⟨vs, ws, vs[i], ws[i], (l1.trans l2).sqT s, (l1.trans l2).sqT s2, by simp [h1], by simp [h2]⟩
  stop := fun i H B1 l1 l2 h => by
    rw [zipD_len] at h
    exact ⟨vs, ws, (l1.trans l2).sqT s, (l1.trans l2).sqT s2, by rw [r.length, r2.length]; omega⟩
  yld := fun i H x H' B1 hlt l1 l2 ⟨T, x1, y1, e, n, e2, y, y'⟩ => by
    subst e e2
    obtain ⟨d, h1, h2⟩ := r.getV (y vs ((l1.trans l2).sqT s))
    obtain ⟨d', h3, h4⟩ := r2.getV (y' ws ((l1.trans l2).sqT s2))
    refine ⟨_, upd B1 T (.tup [x1, y1]), zipD_get h1 h3, .put l2 n _, .tup (.inl (.inl upd_same)) ?_ (.inr (zip_flat fl h1 h3))⟩
    have m := Ext.put l2 n (HO.tup [x1, y1])
    exact .cons ((h2.mono l1).mono m.le) (.cons ((h4.mono l1).mono m.le) .nil)
/-- zip of two lists or of two tuples -/
def zipR : D → D → (List D → Prop) → Prop
  | .list xs, .list ys, Q => (xs.all flatD = true ∨ ys.all flatD = true) ∧ Q (zipD xs ys)
  | .tuple xs, .tuple ys, Q => (xs.all flatD = true ∨ ys.all flatD = true) ∧ Q (zipD xs ys)
  | _, _, _ => False
theorem zipR_l (xs ys : List D) (Q : List D → Prop) : zipR (.list xs) (.list ys) Q = ((xs.all flatD = true ∨ ys.all flatD = true) ∧ Q (zipD xs ys)) := rfl
theorem zipR_t (xs ys : List D) (Q : List D → Prop) : zipR (.tuple xs) (.tuple ys) Q = ((xs.all flatD = true ∨ ys.all flatD = true) ∧ Q (zipD xs ys)) := rfl
def wiZip (p q : WE) : WI := fun env Q E => p env (fun x => q env (fun y => (x.st ∧ y.st) ∧ zipR x.d y.d Q) E) E
section
variable {X : Cx} {W : WX} {G : Hp} {tg iter e a b c : Expr} {m ma mb mc : WE} {pos tpos : Pos}
theorem di_zip {p : Pos} {elts : List Expr} {kk : Nat} (hg : Gl X "zip") (hm : X.mg "zip" = none) (ha : DE X W G a ma) (hb : DE X W G b mb) (hs : starEach [a, b] X.env = (false, eval a X.env) :: starEach [b] X.env := by rfl) (hs2 : starEach [b] X.env = (false, eval b X.env) :: starEach [] X.env := by rfl)
    (hpl : (backTo pos (starEach [b] X.env)).any (·.1) = false := by rfl) : DI X W G (.Tuple elts kk tpos) (.Call (.Name "zip" p) [a, b] [] pos) (wiZip ma mb) := by
  refine PIi (RZ.pi_zipA hg hm (pa_cons ha (pa_cons hb pa_nil hs2) hs) hs hpl) fun σ H R ⟨B, env, fp, Q, E, rr, hm, hq, hx⟩ => ?_
  refine ⟨B, env, fp, _, E, rr, hm, fun v H1 B1 r e1 w q1 => ?_, hx⟩
  by_cases sr : r.st
  · obtain ⟨B2, e2, l2, rp⟩ := w.keep e1 sr
    refine ⟨B2, env, fp, _, E, rr.ext e2, q1, fun v2 H3 B3 r2 e3 w2 ⟨⟨s1, s2⟩, q⟩ => ?_, hx.later e2.same⟩
    obtain ⟨B4, e4, l4, rp2⟩ := w2.keep e3 s2
    have rp := rp.mono e4.le
    generalize r.d = d1 at rp q
    generalize r2.d = d2 at rp2 q
    have eT := e2.trans e4
    cases d1 <;> cases d2 <;> first | exact (show False from q).elim | skip
    · obtain ⟨x1, vs, ev, s, t⟩ := rp.list_inv
      obtain ⟨x2, ws, ev2, s2, t2⟩ := rp2.list_inv
      subst ev ev2
      exact ⟨x1, x2, vs, ws, rfl, .inl ⟨e4.bh.sqL s, e4.bh.sqL s2, hq _ _ B4 _ eT (walk_zip s t s2 t2 q.1) q.2⟩⟩
    · obtain ⟨x1, vs, ev, s, t⟩ := rp.tup_inv
      obtain ⟨x2, ws, ev2, s2, t2⟩ := rp2.tup_inv
      subst ev ev2
      exact ⟨x1, x2, vs, ws, rfl, .inr ⟨e4.bh.sqT s, e4.bh.sqT s2, hq _ _ B4 _ eT (walk_zipT s t s2 t2 q.1) q.2⟩⟩
  · exact ⟨B1, env, fp, _, E, rr.ext e1, q1, fun v2 H3 B3 r2 e3 w2 q => (sr q.1.1).elim, hx.later e1.same⟩
def enumD (xs : List D) : List D := xs.mapIdx fun i d => PyData.tuple [.int (i : Int), d]
theorem walk_enum {K : K0} {B : Hp} {a : Addr} {vs : List V} {ds : List D} (s : SqL K B a vs) (r : RepAll K B vs ds) : Walk K B (Ite K a) (enumD ds) where
  go := fun i H B1 l1 l2 h => by
    have h : i < ds.length := by simpa [enumD] using h
    have h1 : i < vs.length := by rw [r.length]; omega
    exact ⟨vs, vs[i], (l1.trans l2).sqL s, by simp [h1]⟩
  stop := fun i H B1 l1 l2 h => by
    have h : ds.length ≤ i := by simpa [enumD] using h
    exact ⟨vs, (l1.trans l2).sqL s, by rw [r.length]; exact h⟩
  yld := fun i H x H' B1 hlt l1 l2 ⟨T, x1, e, n, e2, y⟩ => by
    subst e e2
    obtain ⟨d, h1, h2⟩ := r.getV (y vs ((l1.trans l2).sqL s))
    refine ⟨_, upd B1 T (.tup [.int (i : Nat), x1]), by unfold enumD; rw [List.getElem?_mapIdx, h1]; rfl, .put l2 n _, .tup (.inl (.inl upd_same)) ?_ (.inr ⟨_, List.mem_cons_self, rfl⟩)⟩
    exact .cons (.int _) (.cons ((h2.mono l1).mono (Ext.put l2 n (HO.tup [.int (i : Nat), x1])).le) .nil)
def wiEnum (p : WE) : WI := fun env Q E => p env (fun x => x.st ∧ ∃ ds, x.d = .list ds ∧ Q (enumD ds)) E
theorem di_enum {p : Pos} {elts : List Expr} {kk : Nat} (hg : Gl X "enumerate") (hm : X.mg "enumerate" = none) (ha : DE X W G a ma) (hs : starEach [a] X.env = [(false, eval a X.env)] := by rfl) (hs2 : starEach [a] X.env = (false, eval a X.env) :: starEach [] X.env := by rfl) :
    DI X W G (.Tuple elts kk tpos) (.Call (.Name "enumerate" p) [a] [] pos) (wiEnum ma) := by
  refine PIi (pi_enum hg hm (pa_cons ha pa_nil hs2) hs) fun σ H R ⟨B, env, fp, Q, E, rr, hm, hq, hx⟩ => ?_
  refine ⟨B, env, fp, _, E, rr, hm, fun v H1 B1 r e1 w ⟨s, ds, ed, q⟩ => ?_, hx⟩
  obtain ⟨B2, e2, l2, rp⟩ := w.keep e1 s
  rw [ed] at rp
  obtain ⟨a, vs, ev, sv, t⟩ := rp.list_inv
  subst ev
  exact ⟨a, vs, rfl, e2.bh.sqL sv, hq _ H1 B2 _ e2 (walk_enum sv t) q⟩
theorem rev_get {α : Type} {xs : List α} {i : Nat} (h : i < xs.length) : xs.reverse[i]? = xs[xs.length - 1 - i]? := by
  rw [List.getElem?_reverse h]
theorem walk_rev {K : K0} {B : Hp} {a : Addr} {vs : List V} {ds : List D} (s : SqL K B a vs) (r : RepAll K B vs ds) : Walk K B (Itv K a vs.length) ds.reverse where
  go := fun i H B1 l1 l2 h => by
    rw [List.length_reverse, ← r.length] at h
    have h1 : vs.length - 1 - i < vs.length := by omega
    exact ⟨h, vs, vs[vs.length - 1 - i], (l1.trans l2).sqL s, by simp [h1]⟩
  stop := fun i H B1 l1 l2 h => by
    rw [List.length_reverse, ← r.length] at h
    exact h
  yld := fun i H x H' B1 hlt l1 l2 ⟨e, y⟩ => by
    subst e
    rw [List.length_reverse] at hlt
    obtain ⟨d, h1, h2⟩ := r.getV (y vs ((l1.trans l2).sqL s))
    rw [r.length] at h1
    exact ⟨d, B1, by rw [rev_get hlt, h1], .refl l2, h2.mono l1⟩
theorem walk_revT {K : K0} {B : Hp} {a : Addr} {vs : List V} {ds : List D} (s : SqT K B a vs) (r : RepAll K B vs ds) : Walk K B (RT.ItvT K a vs.length) ds.reverse where
  go := fun i H B1 l1 l2 h => by
    rw [List.length_reverse, ← r.length] at h
    have h1 : vs.length - 1 - i < vs.length := by omega
    exact ⟨h, vs, vs[vs.length - 1 - i], (l1.trans l2).sqT s, by simp [h1]⟩
  stop := fun i H B1 l1 l2 h => by
    rw [List.length_reverse, ← r.length] at h
    exact h
  yld := fun i H x H' B1 hlt l1 l2 ⟨e, y⟩ => by
    subst e
    rw [List.length_reverse] at hlt
    obtain ⟨d, h1, h2⟩ := r.getV (y vs ((l1.trans l2).sqT s))
    rw [r.length] at h1
    exact ⟨d, B1, by rw [rev_get hlt, h1], .refl l2, h2.mono l1⟩
def wiRev (p : WE) : WI := fun env Q E => p env (fun x => x.st ∧ ∃ ds, seqD x.d = some ds ∧ Q ds.reverse) E
theorem di_rev {p : Pos} (hg : Gl X "reversed") (hm : X.mg "reversed" = none) (ha : DE X W G a ma) (hs : starEach [a] X.env = (false, eval a X.env) :: starEach [] X.env := by rfl) : DI X W G tg (.Call (.Name "reversed" p) [a] [] pos) (wiRev ma) := by
  refine PIi (RT.pi_revA hg hm ha hs) fun σ H R ⟨B, env, fp, Q, E, rr, hm, hq, hx⟩ => ?_
  refine ⟨B, env, fp, _, E, rr, hm, fun v H1 B1 r e1 w ⟨s, ds, ed, q⟩ => ?_, hx⟩
  obtain ⟨B2, e2, l2, rp⟩ := w.keep e1 s
  generalize r.d = d at rp ed
  cases d <;> simp [seqD] at ed
  · subst ed
    obtain ⟨a, vs, ev, sv, t⟩ := rp.list_inv
    exact ⟨a, vs, ev, .inl ⟨e2.bh.sqL sv, hq _ H1 B2 _ e2 (walk_rev sv t) q⟩⟩
  · subst ed
    obtain ⟨a, vs, ev, sv, t⟩ := rp.tup_inv
    exact ⟨a, vs, ev, .inr ⟨e2.bh.sqT sv, hq _ H1 B2 _ e2 (walk_revT sv t) q⟩⟩
/-- a range by steps -/
def rgS (lo c : Int) (n : Nat) : List D := (List.range n).map fun (i : Nat) => .int (lo + (i : Int) * c)
theorem walk_range3 {K : K0} {B : Hp} (lo c : Int) (n : Nat) : Walk K B (Itc lo c n) (rgS lo c n) where
  go := fun i H B1 l1 l2 h => by
    have h : i < n := by simpa [rgS] using h
    exact h
  stop := fun i H B1 l1 l2 h => by
    have h : n ≤ i := by simpa [rgS] using h
    exact h
  yld := fun i H x H' B1 hlt l1 l2 y => by
    obtain ⟨e1, e2⟩ := y
    subst e1 e2
    have hlt : i < n := by simpa [rgS] using hlt
    exact ⟨_, B1, by unfold rgS; rw [List.getElem?_map, List.getElem?_range hlt]; rfl, .refl l2, .int _⟩
def wiR3 (p q t : WE) : WI := fun env Q E => p env (fun x => q env (fun y => t env (fun z => ∃ i j c : Int, x.d = .int i ∧ y.d = .int j ∧ z.d = .int c ∧ ∃ n, RgC i j c n ∧ Q (rgS i c n)) E) E) E
theorem di_range3 {p : Pos} (hg : Gl X "range") (hm : X.mg "range" = none) (ha : DE X W G a ma) (hb : DE X W G b mb) (hc : DE X W G c mc) (hs : starEach [a, b, c] X.env = (false, eval a X.env) :: starEach [b, c] X.env := by rfl) (hs2 : starEach [b, c] X.env = (false, eval b X.env) :: starEach [c] X.env := by rfl)
    (hs3 : starEach [c] X.env = (false, eval c X.env) :: starEach [] X.env := by rfl) (hpl : (backTo pos (starEach [b, c] X.env)).any (·.1) = false := by rfl) : DI X W G tg (.Call (.Name "range" p) [a, b, c] [] pos) (wiR3 ma mb mc) := by
  refine PIi (pi_range3 hg hm (pa_cons ha (pa_cons hb (pa_cons hc pa_nil hs3) hs2) hs) hs hpl) fun σ H R ⟨B, env, fp, Q, E, rr, hm, hq, hx⟩ => ?_
  refine ⟨B, env, fp, _, E, rr, hm, fun v H1 B1 r e1 w q1 => ?_, hx⟩
  refine ⟨B1, env, fp, _, E, rr.ext e1, q1, fun v2 H2 B2 r2 e2 w2 q2 => ?_, hx.later e1.same⟩
  refine ⟨B2, env, fp, _, E, (rr.ext e1).ext e2, q2, fun v3 H3 B3 r3 e3 w3 ⟨i, j, k, ed1, ed2, ed3, n, hc, q⟩ => ?_, hx.later (e1.same.trans e2.same)⟩
  have h1 := ((w.now e1).mono e2.same).mono e3.same
  have h2 := (w2.now e2).mono e3.same
  have h3 := w3.now e3
  rw [ed1] at h1
  rw [ed2] at h2
  rw [ed3] at h3
  exact ⟨i, j, k, n, by rw [h1.int_inv, h2.int_inv, h3.int_inv], hc, hq _ H3 B3 _ ((e1.trans e2).trans e3) (walk_range3 i k n) q⟩
theorem rgc_up {i j c : Int} (hc : 1 ≤ c) (hc2 : c < 1000000) (h1 : -(2 ^ 60) ≤ i) (h2 : i < 2 ^ 60) (h3 : -(2 ^ 60) ≤ j) (h4 : j < 2 ^ 60) : RgC i j c (if i < j then (j - i - 1) / c + 1 else 0).toNat := by
  have hd : i < j → 0 ≤ (j - i - 1) / c := fun h => Int.ediv_nonneg (by omega) (by omega)
  have hle : i < j → (j - i - 1) / c ≤ j - i - 1 := fun h => Int.ediv_le_self _ (by omega)
  have e : Builtin.Range.rangeSize i j c = ((if i < j then (j - i - 1) / c + 1 else 0).toNat : Int) := by
    unfold Builtin.Range.rangeSize
    rw [if_pos (by omega)]
    split
    · have := hd (by assumption)
      omega
    · rfl
  refine ⟨by omega, by omega, ?_, e⟩
  unfold Builtin.Range.small
  rw [e]
  generalize hm : (if i < j then (j - i - 1) / c + 1 else 0).toNat = m
  have hm2 : m ≤ 2 ^ 61 := by
    subst hm
    split
    · have := hd (by assumption); have := hle (by assumption); omega
    · omega
  simp only [Builtin.Range.rangeFitsLong, Bool.and_eq_true, Bool.or_eq_true, decide_eq_true_eq, beq_iff_eq]
  rw [if_pos (by omega)]
  simp only [Bool.and_eq_true, decide_eq_true_eq]
  omega
theorem rgc_down {i j : Int} (h1 : -(2 ^ 62) ≤ i) (h2 : i < 2 ^ 62) (h3 : -(2 ^ 62) ≤ j) (h4 : j < 2 ^ 62) : RgC i j (-1) (i - j).toNat :=
  ⟨by decide, by decide, PySem.W.small_down h1 h2 h3 h4, PySem.W.rangeSize_downNat i j⟩
/-- a text's signs -/
def sgD (x : Str) : List D := x.cps.toList.map fun c => .str ⟨#[c]⟩
theorem walk_str {K : K0} {B : Hp} (x : Str) : Walk K B (Its x) (sgD x) where
  go := fun i H B1 l1 l2 h => by
    have h : i < x.cps.size := by simpa [sgD] using h
    exact h
  stop := fun i H B1 l1 l2 h => by
    have h : x.cps.size ≤ i := by simpa [sgD] using h
    exact h
  yld := fun i H v H' B1 hlt l1 l2 ⟨e, c, h, ev⟩ => by
    subst e ev
    refine ⟨_, B1, by unfold sgD; rw [List.getElem?_map, Array.getElem?_toList, h]; rfl, .refl l2, .str _⟩
def wiS (p : WE) : WI := fun env Q E => p env (fun r => ∃ x, r.d = .str x ∧ Q (sgD x)) E
theorem di_str (h : DE X W G e m) : DI X W G tg e (wiS m) := by
  refine PIi (pi_str h) fun σ H R ⟨B, env, fp, Q, E, rr, hm, hq, hx⟩ => ?_
  refine ⟨B, env, fp, _, E, rr, hm, fun v H1 B1 r e1 w ⟨x, ed, q⟩ => ?_, hx⟩
  have hv := w.now e1
  rw [ed] at hv
  exact ⟨x, hv.str_inv, hq _ H1 B1 _ e1 (walk_str x) q⟩
/-! ### a list, a tuple or a text, as it comes -/
def iAny (K : PySem.W.Frag) (te : TE) : TI := fun σ H R => te σ H fun x H1 => (∃ a xs, x = .ref a ∧ SqL K H1 a xs ∧ R (Itl K a) H1) ∨ (∃ a xs, x = .ref a ∧ SqT K H1 a xs ∧ R (Itt K a) H1) ∨ ∃ z, x = .str z ∧ R (Its z) H1
theorem pi_any {te : TE} (he : PE X e te) : PI X tg e (iAny X.K te) := by
  refine ⟨fun pins s σ H R I h => ?_⟩
  refine thn (he.run pins s σ H _ I h) fun v s1 ⟨x, H1, I1, r1, q1⟩ => ?_
  rcases q1 with ⟨a, xs, ex, hq, q⟩ | ⟨a, xs, ex, hq, q⟩ | ⟨x, ex, q⟩
  · subst ex
    cases r1
    obtain ⟨its, rv, p, hz⟩ := I1.list hq
    refine wpAny_pyIter_list p.isList ?_
    refine ⟨s1.heap.objs.size, [s1.heap.objs.size], _, _, H1, rfl, I1.kept (t' := s1.toks) fun b o e => Heap.get?_push_of_some _ e, turn_list a _, ⟨_, Heap.get?_push_size _ rfl, rfl, rfl⟩, fun b hb => ?_, q⟩
    have e : b = s1.heap.objs.size := by simpa using hb
    subst e
    exact I1.fpOk (Nat.le_refl _) (I1.hok.fresh (Nat.le_refl _))
  · subst ex
    cases r1
    obtain ⟨its, rv, p, hz⟩ := I1.tuple hq
    refine wpAny_pyIter_tuple (show s1.heap.IsTuple a its.toArray from p) ?_
    refine ⟨s1.heap.objs.size, [s1.heap.objs.size], _, _, H1, rfl, I1.kept (t' := s1.toks) fun b o e => Heap.get?_push_of_some _ e, turn_tuple a _, ⟨_, Heap.get?_push_size _ rfl, rfl, rfl⟩, fun b hb => ?_, q⟩
    have e : b = s1.heap.objs.size := by simpa using hb
    subst e
    exact I1.fpOk (Nat.le_refl _) (I1.hok.fresh (Nat.le_refl _))
  · subst ex
    obtain ⟨t, rfl⟩ := r1
    cases ha : x.cps.all (· < 128)
    · exact wpAny_pyIter_wide ha (pi_one (tk := s1.toks) I1 _ (turn_str _ x t "str_iterator" (.inr rfl)) ⟨_, Heap.get?_push_size _ rfl, rfl, rfl⟩ q)
    · exact wpAny_pyIter_ascii ha (pi_one (tk := s1.toks) I1 _ (turn_str _ x t "str_ascii_iterator" (.inl rfl)) ⟨_, Heap.get?_push_size _ rfl, rfl, rfl⟩ q)
def walkA (r : R) (Q : List D → Prop) : Prop := (r.st ∧ ∃ ds, r.d = .list ds ∧ Q ds) ∨ (r.st ∧ ∃ ds, r.d = .tuple ds ∧ Q ds) ∨ ∃ x, r.d = .str x ∧ Q (sgD x)
def walkAB (r : R) (Q : List D → Prop) : Prop := (r.sh ∧ ∃ ds, r.d = .list ds ∧ Q ds) ∨ (r.st ∧ ∃ ds, r.d = .tuple ds ∧ Q ds) ∨ ∃ x, r.d = .str x ∧ Q (sgD x)
theorem walkA_l (ds : List D) (Q : List D → Prop) : walkA (.v (.list ds)) Q = Q ds := by simp [walkA]
theorem walkA_t (ds : List D) (Q : List D → Prop) : walkA (.v (.tuple ds)) Q = Q ds := by simp [walkA]
theorem walkA_s (x : Str) (Q : List D → Prop) : walkA (.v (.str x)) Q = Q (sgD x) := by simp [walkA]
theorem walkA_n (ds : List D) (Q : List D → Prop) : walkA (.t (.lst ds)) Q = Q ds := by simp [walkA]
theorem walkAB_l (ds : List D) (Q : List D → Prop) : walkAB (.v (.list ds)) Q = Q ds := by simp [walkAB]
theorem walkAB_t (ds : List D) (Q : List D → Prop) : walkAB (.v (.tuple ds)) Q = Q ds := by simp [walkAB]
theorem walkAB_s (x : Str) (Q : List D → Prop) : walkAB (.v (.str x)) Q = Q (sgD x) := by simp [walkAB]
theorem walkAB_n (ds : List D) (Q : List D → Prop) : walkAB (.t (.lst ds)) Q = Q ds := by simp [walkAB]
theorem walkAB_b (ds : List D) (Q : List D → Prop) : walkAB (.b (.lst ds)) Q = Q ds := by simp [walkAB]
def wiA (t : WE) : WI := fun env Q E => t env (fun r => walkA r Q) E
def wiAB (t : WE) : WI := fun env Q E => t env (fun r => walkAB r Q) E
theorem di_any (h : DE X W G e m) : DI X W G tg e (wiA m) := by
  refine PIi (pi_any h) fun σ H R ⟨B, env, fp, Q, E, rr, hm, hq, hx⟩ => ?_
  refine ⟨B, env, fp, _, E, rr, hm, fun v H1 B1 r e1 w q => ?_, hx⟩
  rcases q with ⟨s, ds, ed, q⟩ | ⟨s, ds, ed, q⟩ | ⟨x, ed, q⟩
  · obtain ⟨B2, e2, l2, rp⟩ := w.keep e1 s
    rw [ed] at rp
    obtain ⟨a, vs, ev, sv, t⟩ := rp.list_inv
    exact .inl ⟨a, vs, ev, e2.bh.sqL sv, hq _ H1 B2 ds e2 (walk_list sv t) q⟩
  · obtain ⟨B2, e2, l2, rp⟩ := w.keep e1 s
    rw [ed] at rp
    obtain ⟨a, vs, ev, sv, t⟩ := rp.tup_inv
    exact .inr (.inl ⟨a, vs, ev, e2.bh.sqT sv, hq _ H1 B2 ds e2 (walk_tup sv t) q⟩)
  · have hv := w.now e1
    rw [ed] at hv
    exact .inr (.inr ⟨x, hv.str_inv, hq _ H1 B1 _ e1 (walk_str x) q⟩)
theorem dic_any (h : DE X W G e m) : DIc X W G tg e (wiAB m) := by
  refine PIi (pi_any h) fun σ H R ⟨B, env, fp, Q, E, rr, hm, hq, hx⟩ => ?_
  refine ⟨B, env, fp, _, E, rr, hm, fun v H1 B1 r e1 w q => ?_, hx⟩
  rcases q with ⟨s, ds, ed, q⟩ | ⟨s, ds, ed, q⟩ | ⟨x, ed, q⟩
  · obtain ⟨B2, e2, l2, rp⟩ := w.view e1 s
    rw [ed] at rp
    obtain ⟨a, vs, ev, sv, t⟩ := rp.list e2.bh
    exact .inl ⟨a, vs, ev, sv, hq _ H1 B2 ds e2 (walkH_list sv t) q⟩
  · obtain ⟨B2, e2, l2, rp⟩ := w.keep e1 s
    rw [ed] at rp
    obtain ⟨a, vs, ev, sv, t⟩ := rp.tup_inv
    exact .inr (.inl ⟨a, vs, ev, e2.bh.sqT sv, hq _ H1 B2 ds e2 (walk_tup sv t).toH q⟩)
  · have hv := w.now e1
    rw [ed] at hv
    exact .inr (.inr ⟨x, hv.str_inv, hq _ H1 B1 _ e1 (walk_str x).toH q⟩)
end
end DL

set_option Elab.async false
set_option linter.all false
set_option maxRecDepth 100000
set_option maxHeartbeats 1000000
/-! DL14: items stored, own lists of own things changed within, unpacking, two targets at once. -/
namespace DL
open PySem L2 PyProof.Rows
section
variable {K : K0} {B B' H H' : Hp}
theorem OwnAll.setO {v : V} {o : O} {g : List Addr} (w : Own K B H v o g) (ng : g.Nodup) : ∀ {vs : List V} {os : List O} {f : List Addr} (j : Nat), OwnAll K B H vs os f → f.Nodup → (∀ a ∈ g, a ∉ f) →
    ∃ f', OwnAll K B H (vs.set j v) (os.set j o) f' ∧ f'.Nodup ∧ ∀ a ∈ f', a ∈ f ∨ a ∈ g
  | _, _, _, _, .nil, nf, _ => ⟨[], .nil, by simp, by simp⟩
  | _, _, _, 0, .cons (f := f1) (g := f2) r t, nf, dj => by
    obtain ⟨n1, n2, n3⟩ := List.nodup_append.mp nf
    refine ⟨g ++ f2, .cons w t, List.nodup_append.mpr ⟨ng, n2, fun a m b m' e => dj a m (e ▸ List.mem_append_right _ m')⟩, fun a m => ?_⟩
    rcases List.mem_append.mp m with m | m
    · exact .inr m
    · exact .inl (List.mem_append_right _ m)
  | _, _, _, j + 1, .cons (f := f1) (g := f2) r t, nf, dj => by
    obtain ⟨n1, n2, n3⟩ := List.nodup_append.mp nf
    obtain ⟨f', h1, h2, h3⟩ := OwnAll.setO w ng j t n2 fun a m z => dj a m (List.mem_append_right _ z)
    refine ⟨f1 ++ f', .cons r h1, List.nodup_append.mpr ⟨n1, h2, fun a m b m' e => ?_⟩, fun a m => ?_⟩
    · subst e
      rcases h3 a m' with z | z
      · exact n3 a m a z rfl
      · exact dj a z (List.mem_append_left _ m)
    · rcases List.mem_append.mp m with m | m
      · exact .inl (List.mem_append_left _ m)
      · rcases h3 a m with z | z
        · exact .inl (List.mem_append_right _ z)
        · exact .inr z
/-- an own thing within an own list changes -/
theorem OwnAll.atO : ∀ {vs : List V} {os : List O} {f : List Addr} {j : Nat} {o : O}, OwnAll K B H vs os f → f.Nodup → os[j]? = some o →
    ∃ v g, vs[j]? = some v ∧ Own K B H v o g ∧ (∀ a ∈ g, a ∈ f) ∧ g.Nodup ∧ ∀ (B' H' : Hp) (o' : O) (g' : List Addr), Le B B' → (∀ a ∈ f, a ∉ g → H' a = H a) → Own K B' H' v o' g' → g'.Nodup → (∀ a ∈ g', a ∈ f → a ∈ g) →
      ∃ f', OwnAll K B' H' vs (os.set j o') f' ∧ f'.Nodup ∧ ∀ a ∈ f', (a ∈ f ∧ a ∉ g) ∨ a ∈ g'
  | _, _, _, _, _, .nil, _, e => by simp at e
  | _, _, _, 0, _, .cons (f := f1) (g := f2) r t, nf, e => by
    simp at e; subst e
    obtain ⟨n1, n2, n3⟩ := List.nodup_append.mp nf
    refine ⟨_, f1, rfl, r, fun a m => List.mem_append_left _ m, n1, fun B' H' o' g' l k w ng dj => ?_⟩
    refine ⟨g' ++ f2, .cons w (t.mono l fun a m => k a (List.mem_append_right _ m) fun z => n3 a z a m rfl), List.nodup_append.mpr ⟨ng, n2, fun a m b m' e => ?_⟩, fun a m => ?_⟩
    · subst e; exact n3 a (dj a m (List.mem_append_right _ m')) a m' rfl
    · rcases List.mem_append.mp m with m | m
      · exact .inr m
      · exact .inl ⟨List.mem_append_right _ m, fun z => n3 a z a m rfl⟩
  | _, _, _, j + 1, _, .cons (f := f1) (g := f2) r t, nf, e => by
    obtain ⟨n1, n2, n3⟩ := List.nodup_append.mp nf
    obtain ⟨v, g, h1, h2, h3, h4, h5⟩ := OwnAll.atO (j := j) t n2 (by simpa using e)
    refine ⟨v, g, by simpa using h1, h2, fun a m => List.mem_append_right _ (h3 a m), h4, fun B' H' o' g' l k w ng dj => ?_⟩
    obtain ⟨f', q1, q2, q3⟩ := h5 B' H' o' g' l (fun a m n => k a (List.mem_append_right _ m) n) w ng fun a m z => dj a m (List.mem_append_right _ z)
    refine ⟨f1 ++ f', .cons (r.mono l fun a m => k a (List.mem_append_left _ m) fun z => n3 a m a (h3 a z) rfl) q1, List.nodup_append.mpr ⟨n1, q2, fun a m b m' e => ?_⟩, fun a m => ?_⟩
    · subst e
      rcases q3 a m' with z | z
      · exact n3 a m a z.1 rfl
      · have := dj a z (List.mem_append_left _ m)
        exact n3 a m a (h3 a this) rfl
    · rcases List.mem_append.mp m with m | m
      · exact .inl ⟨List.mem_append_left _ m, fun z => n3 a m a (h3 a z) rfl⟩
      · rcases q3 a m with z | z
        · exact .inl ⟨List.mem_append_right _ z.1, z.2⟩
        · exact .inr z
end
/-! ### dicts: an item put -/
def putD (kvs : List (D × D)) (k : Key) (d : D) : List (D × D) := if (lookK kvs k).isSome = true then kvs.map (fun p => if keyD p.1 = some k then (p.1, d) else p) else kvs ++ [(kD k, d)]
theorem any_valV (kvs : List (Key × V)) (k : Key) : (kvs.any fun kv => decide (kv.1 = k)) = (valV kvs k).isSome := by
  induction kvs with
  | nil => rfl
  | cons p r ih =>
    rw [List.any_cons]
    by_cases h : p.1 = k
    · rw [valV_pos h]; simp [h]
    · rw [valV_neg h, ← ih]; simp [h]
theorem RepKV.append {K : K0} {B : Hp} : ∀ {xs ys : List (Key × V)} {ds es : List (D × D)}, RepKV K B xs ds → RepKV K B ys es → RepKV K B (xs ++ ys) (ds ++ es)
  | _, _, _, _, .nil, s => s
  | _, _, _, _, .cons r t, s => .cons r (RepKV.append t s)
theorem RepKV.mapPut {K : K0} {B : Hp} {k : Key} {v : V} {d : D} (w : Rep K B v d) : ∀ {kvs : List (Key × V)} {ds : List (D × D)}, RepKV K B kvs ds → RepKV K B (kvs.map fun kv => if kv.1 = k then (kv.1, v) else kv) (ds.map fun p => if keyD p.1 = some k then (p.1, d) else p)
  | _, _, .nil => .nil
  | _, _, .cons (k := j) r t => by
    rw [List.map_cons, List.map_cons]
    by_cases h : j = k
    · subst h
      simp only [keyD_kD, if_true]
      exact .cons w (RepKV.mapPut w t)
    · simp only [keyD_kD, if_neg h, if_neg (fun q : some j = some k => h (Option.some.inj q))]
      exact .cons r (RepKV.mapPut w t)
theorem RepKV.put {K : K0} {B : Hp} {k : Key} {v : V} {d : D} {kvs : List (Key × V)} {ds : List (D × D)} (r : RepKV K B kvs ds) (w : Rep K B v d) : RepKV K B (putK kvs k v) (putD ds k d) := by
  unfold putK putD
  rw [any_valV, r.has]
  split
  · exact r.mapPut w
  · exact r.append (.cons w .nil)
theorem look_put (kvs : List (D × D)) (k j : Key) (d : D) : lookK (putD kvs k d) j = if j = k then some d else lookK kvs j := by
  unfold putD
  split
  · rename_i h
    induction kvs with
    | nil => simp [lookK] at h
    | cons p r ih =>
      rw [List.map_cons, lookK_cons]
      rw [lookK_cons] at h
      by_cases hp : keyD p.1 = some k
      · rw [if_pos hp]
        dsimp only
        by_cases hj : j = k
        · subst hj; rw [if_pos hp, if_pos rfl]
        · rw [hp, if_neg (fun q => hj (Option.some.inj q).symm), if_neg hj, lookK_cons, hp, if_neg (fun q => hj (Option.some.inj q).symm)]
          clear ih h
          induction r with
          | nil => rfl
          | cons p' r' ih' =>
            rw [List.map_cons, lookK_cons, lookK_cons]
            by_cases h2 : keyD p'.1 = some k
            · rw [if_pos h2]; dsimp only; rw [h2, if_neg (fun q => hj (Option.some.inj q).symm), if_neg (fun q => hj (Option.some.inj q).symm)]; exact ih'
            · rw [if_neg h2]
              split
              · rfl
              · exact ih'
      · rw [if_neg hp] at h
        rw [if_neg hp, lookK_cons]
        by_cases hj : keyD p.1 = some j
        · rw [if_pos hj, if_pos hj, if_neg (fun q => hp (by rw [hj, q]))]
        · rw [if_neg hj, if_neg hj, ih h]
  · rename_i h
    have hn : lookK kvs k = none := by
      cases q : lookK kvs k with
      | none => rfl
      | some _ => rw [q] at h; exact absurd rfl h
    clear h
    induction kvs with
    | nil =>
      rw [List.nil_append, lookK_cons]
      dsimp only
      rw [keyD_kD]
      by_cases hj : j = k
      · subst hj; rw [if_pos rfl, if_pos rfl]
      · rw [if_neg (fun q => hj (Option.some.inj q).symm), if_neg hj]
    | cons p r ih =>
      rw [lookK_cons] at hn
      rw [List.cons_append, lookK_cons, lookK_cons]
      by_cases hp : keyD p.1 = some k
      · rw [if_pos hp] at hn; cases hn
      · rw [if_neg hp] at hn
        by_cases hj : keyD p.1 = some j
        · rw [if_pos hj, if_pos hj, if_neg (fun q => hp (by rw [hj, q]))]
        · rw [if_neg hj, if_neg hj, ih hn]
/-! ### an item stored at a name -/
def stO : O → D → R → (O → Prop) → Prop
  | .lst ds, .int j, r, Q => ∃ n, ixN ds.length j = some n ∧ Q (.lst (ds.set n r.d))
  | .lsts os, .int j, r, Q => ∃ n, ixN os.length j = some n ∧ Q (.lsts (os.set n r.o))
  | .dic kvs, k, r, Q => ∃ key, keyD k = some key ∧ kvs.length < sizeLine ∧ Q (.dic (putD kvs key r.d))
  | _, _, _, _ => False
theorem stO_lst (ds : List D) (j : Int) (r : R) (Q : O → Prop) : stO (.lst ds) (.int j) r Q = ∃ n, ixN ds.length j = some n ∧ Q (.lst (ds.set n r.d)) := rfl
theorem stO_lsts (ds : List O) (j : Int) (r : R) (Q : O → Prop) : stO (.lsts ds) (.int j) r Q = ∃ n, ixN ds.length j = some n ∧ Q (.lsts (ds.set n r.o)) := rfl
theorem stO_dic (kvs : List (D × D)) (k : D) (r : R) (Q : O → Prop) : stO (.dic kvs) k r Q = ∃ key, keyD k = some key ∧ kvs.length < sizeLine ∧ Q (.dic (putD kvs key r.d)) := by cases k <;> rfl
def isMut : O → Prop
  | .lst _ => True
  | .lsts _ => True
  | .dic _ => True
  | _ => False
theorem isMut_lst (ds : List D) : isMut (.lst ds) = True := rfl
theorem isMut_lsts (ds : List O) : isMut (.lsts ds) = True := rfl
theorem isMut_dic (ds : List (D × D)) : isMut (.dic ds) = True := rfl
theorem isMut.nraw {o : O} (h : isMut o) (a : Addr) : o ≠ .raw a := fun q => by subst q; exact h
def wSt (i : Nat) (k m : WE) : WS := fun D env => ∃ o, env[i]? = some (some o) ∧ isMut o ∧ m env (fun r => k env (fun kk => r.st ∧ stO o kk.d r fun o' => D.nx (env.set i (some o'))) (fun n => D.ex n env)) (fun n => D.ex n env)
/-- a result, later -/
theorem VOk.fwd {K : K0} {H H1 B1 H3 B3 : Hp} {fp : List Addr} {v : V} {r : R} (e : Ext H1 B1 H3 B3) (x : VOk K H fp B1 H1 v r) : VOk K H fp B3 H3 v r := by
  have keep : ∀ {o : O} {f : List Addr}, Own K B1 H1 v o f → Own K B3 H3 v o f := fun x => x.mono e.le fun a m => by
    obtain ⟨u, h⟩ := x.dom a m
    rw [h]; exact e.same a u h
  cases r with
  | v d => exact Rep.mono e.le x
  | t o =>
    obtain ⟨f, x, nd, hf⟩ := x
    refine ⟨f, keep x, nd, fun a m => ⟨(hf a m).1, ?_⟩⟩
    obtain ⟨u, h⟩ := x.dom a m
    exact e.new a u h (hf a m).2
  | b o => obtain ⟨f, x, hs⟩ := x; exact ⟨f, keep x, hs⟩
theorem PSet.orS {X : Cx} {t t' : TSet} (h : PSet X t) (h' : PSet X t') : PSet X (fun o i v H Q => t o i v H Q ∨ t' o i v H Q) := by
  intro pins s σ H o i v ov iv u Q I ro ri rv q
  rcases q with q | q
  · exact h pins s σ H o i v ov iv u Q I ro ri rv q
  · exact h' pins s σ H o i v ov iv u Q I ro ri rv q
section
open L2 in
variable {X : Cx} {W : WX} {G : Hp} {e ob ix : Expr} {t k m : WE} {pos : Pos}
theorem st_core {B H Hs Bs : Hp} {env : Env} {fp : List Addr} {σ : L2.St} {D : Ends} {d : En} {r : R} {v y : V} {kd : PyData} {i : Nat} {o : O} (rr0 : RR X.K G Bs env fp σ Hs) (e' : Ext Hs Bs H B) (w : VOk X.K Hs fp B H v r) (s : r.st) (hy : Rep X.K H y kd) (x : SOk X W G Bs d D σ)
    (hi : env[i]? = some (some o)) (ha : stO o kd r fun o' => d.nx (env.set i (some o'))) :
    ∃ vi, σ[i]? = some (some vi) ∧ (rSetL vi y v H (fun H1 => D.nx σ H1) ∨ rSetD vi y v H (fun H1 => D.nx σ H1)) := by
  have rr := rr0.ext e'
  cases o with
  | lst ds =>
    cases kd <;> first | exact (show False from ha).elim | skip
    obtain ⟨n, hn, q⟩ := ha
    obtain ⟨B2, e2, l2, rp⟩ := w.keep e' s
    have rr2 := rr0.ext e2
    obtain ⟨vi, g, h1, h2, h3, h4, h5⟩ := rr2.put hi
    cases h2 with
    | @lst a vs _ hl rl =>
      refine ⟨_, h1, .inl ⟨a, vs, _, n, rfl, hy.int_inv, hl, by rw [rl.length]; exact hn, ?_⟩⟩
      have na : B2 a = none := (h4 a (by simp)).2.1
      obtain ⟨fp', z⟩ := h5 B2 (upd H a (.lst (vs.set n v))) (.lst (ds.set n r.d)) [a] (.refl _)
        (fun b u q => upd_keep (rr2.bh b u q) (ne_of_none q na)) (fun b u n q => upd_keep q fun z => n (by simp [z])) (fun _ _ _ _ q => q)
        (.lst upd_same (rl.set rp n)) (by simp) (fun b m => ⟨fun _ => m, (h4 b m).2⟩)
      exact x.nx σ _ B2 _ fp' e2.le z q
  | lsts os =>
    cases kd <;> first | exact (show False from ha).elim | skip
    obtain ⟨n, hn, q⟩ := ha
    obtain ⟨vi, g, h1, h2, h3, h4, h5⟩ := rr.put hi
    cases h2 with
    | @lsts a vs _ f hl rl =>
      refine ⟨_, h1, .inl ⟨a, vs, _, n, rfl, hy.int_inv, hl, by rw [rl.length]; exact hn, ?_⟩⟩
      have na : B a = none := (h4 a (by simp)).2.1
      obtain ⟨na1, nf⟩ := List.nodup_cons.mp h3
      have key : ∀ g', Own X.K B H v r.o g' → g'.Nodup → (∀ b ∈ g', b ∉ fp ∧ B b = none ∧ G b = none) → D.nx σ (upd H a (.lst (vs.set n v))) := fun g' wg ng hg => by
        have dj : ∀ b ∈ g', b ∉ a :: f := fun b m z => (hg b m).1 (h4 b z).1
        obtain ⟨f', t1, t2, t3⟩ := rl.setO wg ng n nf fun b m z => dj b m (List.mem_cons_of_mem _ z)
        have nd2 : (a :: f').Nodup := List.nodup_cons.mpr ⟨fun m => by
          rcases t3 a m with z | z
          · exact na1 z
          · exact dj a z List.mem_cons_self, t2⟩
        have hne : ∀ b ∈ f', upd H a (.lst (vs.set n v)) b = H b := fun b m => upd_ne fun z => by
          subst z
          exact (List.nodup_cons.mp nd2).1 m
        have t1 := t1.mono (H' := upd H a (.lst (vs.set n v))) (Le.refl B) hne
        obtain ⟨fp', y⟩ := h5 B (upd H a (.lst (vs.set n v))) (.lsts (os.set n r.o)) (a :: f') (.refl _)
          (fun b u q => upd_keep (rr.bh b u q) (ne_of_none q na)) (fun b u n q => upd_keep q fun z => n (by simp [z])) (fun _ _ _ _ q => q)
          (.lsts upd_same t1) nd2 (fun b m => by
            rcases List.mem_cons.mp m with z | z
            · subst z; exact ⟨fun _ => List.mem_cons_self, (h4 b List.mem_cons_self).2⟩
            · rcases t3 b z with z | z
              · exact ⟨fun _ => List.mem_cons_of_mem _ z, (h4 b (List.mem_cons_of_mem _ z)).2⟩
              · exact ⟨fun q => absurd q (hg b z).1, (hg b z).2⟩)
        exact x.nx σ _ B _ fp' e'.le y q
      cases r with
      | v d => exact key [] (.fro w) (by simp) fun b m => absurd m (by simp)
      | t o => obtain ⟨g', w, ng, hg⟩ := w; exact key g' w ng (rr0.apart hg)
      | b o => exact s.elim
  | dic kvs =>
    rw [stO_dic] at ha
    obtain ⟨key, hk, hz, q⟩ := ha
    have e1 := kD_of hk
    subst e1
    have e2 := kV_rep hy
    subst e2
    obtain ⟨B2, e2, l2, rp⟩ := w.keep e' s
    have rr2 := rr0.ext e2
    obtain ⟨vi, g, h1, h2, h3, h4, h5⟩ := rr2.put hi
    cases h2 with
    | @dic a vs _ hl rl =>
      refine ⟨_, h1, .inr ⟨a, _, rfl, DPut.k hl (by rw [rl.length]; exact hz), ?_⟩⟩
      have na : B2 a = none := (h4 a (by simp)).2.1
      obtain ⟨fp', z⟩ := h5 B2 (upd H a (.dK (putK vs key v))) (.dic (putD kvs key r.d)) [a] (.refl _)
        (fun b u q => upd_keep (rr2.bh b u q) (ne_of_none q na)) (fun b u n q => upd_keep q fun z => n (by simp [z])) (fun _ _ _ _ q => q)
        (.dic upd_same (rl.put rp)) (by simp) (fun b m => ⟨fun _ => m, (h4 b m).2⟩)
      exact x.nx σ _ B2 _ fp' e2.le z q
  | fro d => cases kd <;> exact (show False from ha).elim
  | _ => cases kd <;> exact (show False from ha).elim
theorem ds_st {i : Nat} {p2 : Pos} (hu : X.A.units + 1 < cLine) (ho : PE X ob (tVar i)) (hk : DE X W G ix k) (hm : DE X W G e m)
    (ha : ∀ v, assign (.Subscript ob ix p2) X.env v = (do
      let ov ← holding [v] (eval ob X.env)
      let iv ← holding [v, ov] (eval ix X.env)
      standAt p2
      holding [v, ov, iv] (setItem ov iv v)
      release [v, ov, iv] []))
    (hs : swapsWithSole [.Subscript ob ix p2] e pos.line X.env = pure false) (hw : swappedStores [.Subscript ob ix p2] e X.env = pure none)
    : DS X W G (.Assign [.Subscript ob ix p2] e pos) (wSt i k m) := by
  refine PSi (ps_asg hm (pg_sub ho hk (PSet.orS set_list (set_dict hu)) ha) hs hw) fun D σ H ⟨B, env, fp, d, rr, ⟨o, hi, mu, hmm⟩, x⟩ => ?_
  refine ⟨B, env, fp, _, _, rr, hmm, fun v H1 B1 r e1 w q1 => ?_, x.x rr⟩
  obtain ⟨vi, g, h1, h2, h3⟩ := rr.own.get hi mu.nraw
  refine ⟨vi, h1, B1, env, fp, _, _, rr.ext e1, q1, fun y H3 B3 kr e3 wk ⟨s, q⟩ => ?_, (x.x rr).later e1.same⟩
  obtain ⟨vi', h1', q'⟩ := st_core rr (e1.trans e3) (VOk.fwd e3 w) s (wk.now e3) x hi q
  rw [h1] at h1'
  cases h1'
  exact q'
end
end DL

set_option Elab.async false
set_option linter.all false
set_option maxRecDepth 100000
set_option maxHeartbeats 1000000
/-! DL15: lists repeated, methods of texts, dicts asked with a default, unpacking, two targets, the last item taken off. -/
namespace DL
open PySem L2 PyProof.Rows
theorem q_mulI (l : Addr) (items : Array Value) (n : Nat) (d : Option Addr) (sl : Array (Option Value)) (x : Int) (u : Tok) (hc0 : ¬(!Builtin.List.listFitsIndex x) = true) (hc1 : ¬items.size * x.toNat > (2 ^ 63 - 1) / 8) (hc2 : ¬Builtin.List.listTooLong (items.size * x.toNat) = true) :
    Meets (Builtin.«list.__mul__» ⟨[.ref l, .int x u], []⟩) (fun _ R s => s.heap.get? l = some { cls := .type "list", dict := d, data := .seq items n, slots := sl } ∧ R (.ok (.ret (Value.ref s.heap.objs.size))) { s with heap := s.heap.push { cls := Value.type "list", data := Data.seq (List.foldl (fun x1 x2 => x1 ++ x2) #[] (List.replicate (if items.isEmpty = true then 0 else x.toNat) items)) }, toks := s.toks }) :=
  .of_wp fun prog w A R s h => by
    obtain ⟨hp, g, d, tk, os⟩ := s; obtain ⟨hl, h⟩ := h
    have hsz := AutoListH.joined_fits hc2
    wp_walk; refine wpAny_ite_false (decide_eq_false (Nat.not_lt.mpr hsz)) ?_; wp_walk; exact ⟨_, rfl, h⟩
theorem q_rmulI (a : Int) (t : Tok) (l : Addr) (items : Array Value) (n : Nat) (d : Option Addr) (sl : Array (Option Value)) :
    Meets (Builtin.«int.__rmul__» ⟨[.int a t, .ref l], []⟩) (fun _ R s => s.heap.get? l = some { cls := .type "list", dict := d, data := .seq items n, slots := sl } ∧ R (.ok (.ret Value.notImplemented)) s) :=
  .of_wp fun prog w A R s h => by obtain ⟨hp, g, d, tk, os⟩ := s; obtain ⟨hl, h⟩ := h; wp_walk; exact ⟨_, rfl, h⟩
def repS (a : Str) (k : Int) : Str := ⟨(List.replicate k.toNat a.cps.toList).flatten.toArray⟩
theorem repS_fold (a : Array Nat) : ∀ (n : Nat) (l : List Nat), (List.replicate n a).foldl (· ++ ·) l.toArray = (l ++ (List.replicate n a.toList).flatten).toArray
  | 0, l => by simp
  | n + 1, l => by
    rw [List.replicate_succ, List.foldl_cons, show l.toArray ++ a = (l ++ a.toList).toArray from by obtain ⟨l2⟩ := a; simp, repS_fold a n, List.replicate_succ, List.flatten_cons, List.append_assoc]
theorem repS_size (a : Str) (k : Int) : (repS a k).length = k.toNat * a.length := by
  unfold repS
  show (List.flatten _).toArray.size = _
  simp
  rfl
theorem op_mulStr {X : Cx} : OpR X (binaryOp .Mult) (fun x y H Q => ∃ (a : Str) (k : Int), x = .str a ∧ y = .int k ∧ -(2 ^ 62) ≤ k ∧ k < 2 ^ 62 ∧ a.length * k.toNat ≤ 10000000 ∧ k ≤ 10000000 ∧ Q (.str (repS a k)) H) := by
  intro pins s σ H x y v u Q I rx ry h
  obtain ⟨a, k, rfl, rfl, h1, h2, h3, h4, q⟩ := h
  obtain ⟨t, rfl⟩ := rx
  obtain ⟨t', rfl⟩ := ry
  have e1 : decide (k < -(2 ^ 63 : Int)) = false := decide_eq_false (by omega)
  have e2 : decide (k ≥ 2 ^ 63) = false := decide_eq_false (by omega)
  refine P.mul_str (by rw [e1, e2]; rfl) (fun hk hn hgt => ?_) (fun hk hn => ?_) ?_
  · have hal : (a.length : Int) ≤ 10000000 := by
      have : a.length * 1 ≤ a.length * k.toNat := Nat.mul_le_mul_left _ (by omega)
      omega
    have : (10000000 : Int) ≤ (2 ^ 63 - 1) / k := by
      have := Int.le_ediv_of_mul_le (a := 10000000) (b := 2 ^ 63 - 1) (c := k) (by omega) (by omega)
      exact this
    omega
  · show Builtin.Str.tooLong _ = false
    unfold Builtin.Str.tooLong
    rw [decide_eq_false_iff_not, PySem.sizeLine]
    omega
  · by_cases hk : k < 1
    · rw [if_pos hk]
      have e : repS a k = Str.empty := by
        unfold repS
        rw [show k.toNat = 0 from by omega]
        rfl
      rw [e] at q
      exact ⟨by decide, .str _, H, I.tok _, ⟨_, rfl⟩, q⟩
    rw [if_neg hk]
    by_cases hn : (k == 1 || a.length == 0) = true
    · rw [if_pos hn]
      have e : repS a k = a := by
        unfold repS
        simp only [Bool.or_eq_true, beq_iff_eq] at hn
        rcases hn with rfl | hn
        · simp [List.replicate]
        · obtain ⟨⟨l⟩⟩ := a
          have : l = [] := List.length_eq_zero_iff.mp hn
          subst this
          simp
      rw [e] at q
      exact ⟨.str _, H, I, ⟨_, rfl⟩, q⟩
    · rw [if_neg hn]
      have e : (⟨(List.replicate k.toNat a.cps).foldl (· ++ ·) #[]⟩ : Str) = repS a k := by
        unfold repS
        have := repS_fold a.cps k.toNat []
        rw [List.nil_append] at this
        rw [← this]
      rw [e]
      refine ⟨?_, .str _, H, I.tok _, ⟨_, rfl⟩, q⟩
      show (repS a k).length ≤ _
      rw [repS_size, PySem.sizeLine, Nat.mul_comm]
      omega
def bMul : Op2
  | .int i, .int j, Q => CMulG i j ∧ Q (.v (.int (i * j)))
  | .list ds, .int k, Q => -(2 ^ 63) ≤ k ∧ k < 2 ^ 63 ∧ ds.length * k.toNat ≤ sizeLine ∧ Q (.t (.lst (List.replicate k.toNat ds).flatten))
  | .str a, .int k, Q => -(2 ^ 62) ≤ k ∧ k < 2 ^ 62 ∧ a.length * k.toNat ≤ 10000000 ∧ k ≤ 10000000 ∧ Q (.v (.str (repS a k)))
  | _, _, _ => False
theorem bMul_s (a : Str) (k : Int) (Q : R → Prop) : bMul (.str a) (.int k) Q = (-(2 ^ 62) ≤ k ∧ k < 2 ^ 62 ∧ a.length * k.toNat ≤ 10000000 ∧ k ≤ 10000000 ∧ Q (.v (.str (repS a k)))) := rfl
theorem bMul_i (i j : Int) (Q : R → Prop) : bMul (.int i) (.int j) Q = (CMulG i j ∧ Q (.v (.int (i * j)))) := rfl
theorem bMul_l (ds : List D) (k : Int) (Q : R → Prop) : bMul (.list ds) (.int k) Q = (-(2 ^ 63) ≤ k ∧ k < 2 ^ 63 ∧ ds.length * k.toNat ≤ sizeLine ∧ Q (.t (.lst (List.replicate k.toNat ds).flatten))) := rfl
section
variable {X : Cx} {W : WX} {G : Hp} {e ob a b tg : Expr} {ma mb m mo : WE} {pos : Pos}
theorem op_repS : OpR X (binaryOp .Mult) (fun x y H Q => ∃ l k xs, x = .ref l ∧ y = .int k ∧ SqL X.K H l xs ∧ -(2 ^ 63) ≤ k ∧ k < 2 ^ 63 ∧ xs.length * k.toNat ≤ sizeLine ∧
    ∀ p, H p = none → Q (.ref p) (upd H p (.lst (List.replicate k.toNat xs).flatten))) := by
  intro pins s σ H x y v u Q I rx ry h
  obtain ⟨l, k, xs, rfl, rfl, hS, h1, h2, hz, q⟩ := h
  cases rx
  obtain ⟨t, rfl⟩ := ry
  obtain ⟨its, r, ⟨⟨cls, dd, data, sl⟩, n, e, c, dn, ed⟩, z⟩ := I.list hS
  simp only at c ed
  subst c ed
  have hl : xs.length = its.length := r.length
  have hlen : its.toArray.size * k.toNat ≤ sizeLine := by rw [List.size_toArray, ← hl]; exact hz
  have hcap : ¬ its.toArray.size * k.toNat > (2 ^ 63 - 1) / 8 := by
    have : (sizeLine : Nat) ≤ (2 ^ 63 - 1) / 8 := by decide
    omega
  have hfit : ¬ (!Builtin.List.listFitsIndex k) = true := by
    rw [fitsIndex_both h1 h2]
    exact Bool.false_ne_true
  have hlong : ¬ Builtin.List.listTooLong (its.toArray.size * k.toNat) = true := by
    rw [notLongL hlen]
    exact Bool.false_ne_true
  have hnew : List.foldl (fun x1 x2 => x1 ++ x2) #[] (List.replicate (if its.toArray.isEmpty = true then 0 else k.toNat) its.toArray) = (List.replicate k.toNat its).flatten.toArray := by
    have f0 : ∀ m : Nat, List.foldl (fun x1 x2 => x1 ++ x2) #[] (List.replicate m its.toArray) = (List.replicate m its).flatten.toArray := fun m => by
      have := foldl_rep its m []
      rw [List.nil_append] at this
      exact this
    rw [f0]
    cases its with
    | nil => simp
    | cons a r' => rw [if_neg (by simp)]
  refine wpAny_binaryOp_repeat_ref (T := "list") (U := "int") (by decide) ⟨_, e, rfl⟩ (fun s' => typeIs_int s' k t) noFill_list_mul F.fills_int_mul F.slot_int_rmul repeat_list F.slot_int_index.lookup
    (call_meets F.slot_int_rmul (typeIs_int s k t) F.entry_int_rmul (F.args_int_rmul_2 _ _) (q_rmulI k t l its.toArray n dd sl)
      ⟨e, rfl, ⟨_, e, rfl⟩, call_meets F.slot_list_mul ⟨_, e, rfl⟩ F.entry_list_mul (F.args_list_mul_2 _ _) (q_mulI l its.toArray n dd sl k t hfit hcap hlong) ⟨e, ?_⟩⟩)
  rw [hnew]
  have rep : ∀ m : Nat, Vals (List.replicate m xs).flatten (List.replicate m its).flatten := fun m => by
    induction m with
    | zero => exact .nil
    | succ m ih =>
      rw [List.replicate_succ, List.replicate_succ, List.flatten_cons, List.flatten_cons]
      exact r.append ih
  have len : ∀ m : Nat, (List.replicate m xs).flatten.length = xs.length * m := fun m => by
    induction m with
    | zero => rfl
    | succ m ih => rw [List.replicate_succ, List.flatten_cons, List.length_append, ih, Nat.mul_succ, Nat.add_comm]
  exact ⟨.ref _, _, I.lnew (t' := s.toks) (rep _) (by rw [len]; exact hz), rfl, q _ I.fresh⟩
theorem opMul : OpR X (binaryOp .Mult) (r2 X.K bMul) := by
  intro pins s σ H x y v u Q I rx ry ⟨B, fp, dx, dy, Q', l, hx, hy, hf, hq⟩
  cases dx <;> cases dy <;> first
    | exact (show False from hf).elim
    | skip
  · exact op_mulG pins s σ H x y v u Q I rx ry ⟨_, _, hx.int, hy.int, hf.1, hq _ H B (.v _) (.refl l) (.int _) hf.2⟩
  · exact op_mulStr pins s σ H x y v u Q I rx ry ⟨_, _, hx.str, hy.int, hf.1, hf.2.1, hf.2.2.1, hf.2.2.2.1, hq _ H B (.v _) (.refl l) (.str _) hf.2.2.2.2⟩
  · obtain ⟨a1, v1, e1, s1, t1⟩ := hx.list l
    exact op_repS pins s σ H x y v u Q I rx ry ⟨_, _, _, e1, hy.int, s1, hf.1, hf.2.1, by rw [t1.length]; exact hf.2.2.1, fun p np => hq _ _ B (.t _) (.make l np _) (t_lst l np (t1.rep _)) hf.2.2.2⟩
abbrev wMulA := w2 bMul
theorem de_mulA {pos} (ha : DE X W G a ma) (hb : DE X W G b mb) : DE X W G (.BinOp a .Mult b pos) (wMulA ma mb) := de_2 opMul ha hb
/-! ### methods of texts -/
abbrev FM := Str → List R → (R → Prop) → Prop
def wMe (f : FM) (o : WE) (ta : WA) : WE := fun env Q E => o env (fun x => ∃ a, x.d = .str a ∧ ta env (fun rs => f a rs Q) E) E
/-- the texts of a list or tuple -/
def txtsD (d : D) (ys : List Str) : Prop := d = .list (ys.map PyData.str) ∨ d = .tuple (ys.map PyData.str)
def fJoin : FM
  | a, [r], Q => r.sh ∧ ∃ ys, txtsD r.d ys ∧ (ys.map (·.length)).sum + ys.length * a.length ≤ 16777216 ∧ Q (.v (.str (Txt.join a ys)))
  | _, _, _ => False
def fSplit : FM
  | a, [r], Q => ∃ b, r.d = .str b ∧ (b.length == 0) = false ∧ a.length + 2 ≤ sizeLine ∧ Q (.t (.lst ((Txt.split a b).map PyData.str)))
  | _, _, _ => False
def fRstrip : FM
  | a, [r], Q => ∃ b, r.d = .str b ∧ a.length ≤ sizeLine ∧ Q (.v (.str (Txt.rstripChars a b)))
  | _, _, _ => False
theorem fJoin_1 (a : Str) (r : R) (Q : R → Prop) : fJoin a [r] Q = (r.sh ∧ ∃ ys, txtsD r.d ys ∧ (ys.map (·.length)).sum + ys.length * a.length ≤ 16777216 ∧ Q (.v (.str (Txt.join a ys)))) := rfl
theorem fSplit_1 (a : Str) (r : R) (Q : R → Prop) : fSplit a [r] Q = ∃ b, r.d = .str b ∧ (b.length == 0) = false ∧ a.length + 2 ≤ sizeLine ∧ Q (.t (.lst ((Txt.split a b).map PyData.str))) := rfl
theorem fRstrip_1 (a : Str) (r : R) (Q : R → Prop) : fRstrip a [r] Q = ∃ b, r.d = .str b ∧ a.length ≤ sizeLine ∧ Q (.v (.str (Txt.rstripChars a b))) := rfl
theorem RepAll.strsV {K : K0} {B : Hp} : ∀ {ys : List Str} {vs : List V}, RepAll K B vs (ys.map PyData.str) → vs = ys.map V.str
  | [], _, .nil => rfl
  | n :: ns, _, .cons r t => by rw [r.str_inv, RepAll.strsV t]; rfl
theorem RepAll.strs {K : K0} {B : Hp} (ys : List Str) : RepAll K B (ys.map V.str) (ys.map PyData.str) := by
  induction ys with
  | nil => exact .nil
  | cons n r ih => exact .cons (.str n) ih
variable {es : List Expr} {ms : WA} {apos cpos : Pos}
theorem me_ok {f : FM} {r : V → List V → Hp → VK → Prop} (hr : ∀ (B H : Hp) (fp : List Addr) (a : Str) (vs : List V) (rs : List R) (Q : R → Prop) (QV : VK), Le B H → VAll X.K B H vs rs → f a rs Q → QOk X.K B H fp Q QV → r (.str a) vs H QV)
    (σ : L2.St) (H : Hp) (QV : VK) (h : tD X W G (wMe f mo ms) σ H QV) : tBM X.K "str" r (tD X W G mo) (tDA X W G ms) σ H QV := by
  obtain ⟨B, env, fp, Q, E, rr, hm, hq, hx⟩ := h
  refine ⟨B, env, fp, _, E, rr, hm, fun v H1 B1 r1 e1 w ⟨a, ea, q1⟩ => ?_, hx⟩
  have hv := w.now e1
  rw [ea] at hv
  have e := hv.str_inv
  subst e
  exact ⟨rfl, B1, env, fp, _, E, rr.ext e1, q1, fun vs H2 B2 rs e2 va q => hr B2 H2 fp a vs rs Q QV e2.bh va q (hq.later (e1.trans e2)), hx.later e1.same⟩
theorem join_r (B H : Hp) (fp : List Addr) (a : Str) (vs : List V) (rs : List R) (Q : R → Prop) (QV : VK) (l : Le B H) (va : VAll X.K B H vs rs) (hf : fJoin a rs Q) (hq : QOk X.K B H fp Q QV) :
    ∃ a' p, ∃ ys : List Str, (V.str a) = .str a' ∧ vs = [.ref p] ∧ (SqL X.K H p (ys.map V.str) ∨ SqT X.K H p (ys.map V.str)) ∧ (ys.map (·.length)).sum + ys.length * a'.length ≤ 16777216 ∧ QV (.str (Txt.join a' ys)) H := by
  match rs, hf with
  | [r], ⟨s, ys, ht, hz, q⟩ =>
    obtain ⟨v, ev, rv⟩ := va.one_sh s
    subst ev
    have fin := hq _ H B (.v _) (.refl l) (.str _) q
    rcases ht with ht | ht
    · rw [ht] at rv
      obtain ⟨p, us, e, sq, t⟩ := rv.list l
      subst e
      rw [t.strsV] at sq
      exact ⟨a, p, ys, rfl, rfl, .inl sq, hz, fin⟩
    · rw [ht] at rv
      obtain ⟨p, us, e, sq, t⟩ := rv.tup l
      subst e
      rw [t.strsV] at sq
      exact ⟨a, p, ys, rfl, rfl, .inr sq, hz, fin⟩
theorem split_r (B H : Hp) (fp : List Addr) (a : Str) (vs : List V) (rs : List R) (Q : R → Prop) (QV : VK) (l : Le B H) (va : VAll X.K B H vs rs) (hf : fSplit a rs Q) (hq : QOk X.K B H fp Q QV) :
    ∃ a' b, (V.str a) = .str a' ∧ vs = [.str b] ∧ (b.length == 0) = false ∧ a'.length + 2 ≤ sizeLine ∧ rNewStrs (Txt.split a' b) H QV := by
  match rs, hf with
  | [r], ⟨b, ht, h1, h2, q⟩ =>
    obtain ⟨v, ev, rv⟩ := va.one l
    subst ev
    rw [ht] at rv
    rw [rv.str_inv]
    exact ⟨a, b, rfl, rfl, h1, h2, fun p np => hq _ _ B (.t _) (.make l np _) (t_lst l np (RepAll.strs _)) q⟩
theorem rstrip_r (B H : Hp) (fp : List Addr) (a : Str) (vs : List V) (rs : List R) (Q : R → Prop) (QV : VK) (l : Le B H) (va : VAll X.K B H vs rs) (hf : fRstrip a rs Q) (hq : QOk X.K B H fp Q QV) :
    ∃ a' b, (V.str a) = .str a' ∧ vs = [.str b] ∧ a'.length ≤ sizeLine ∧ QV (.str (Txt.rstripChars a' b)) H := by
  match rs, hf with
  | [r], ⟨b, ht, h1, q⟩ =>
    obtain ⟨v, ev, rv⟩ := va.one l
    subst ev
    rw [ht] at rv
    rw [rv.str_inv]
    exact ⟨a, b, rfl, rfl, h1, hq _ H B (.v _) (.refl l) (.str _) q⟩
/-- the forms that such a call has -/
structure MF (X : Cx) (o : Expr) (name : Str) (e : Expr) (es : List Expr) (apos cpos : Pos) : Prop where
  base : attributeBase o name X.env (eval o X.env) = eval o X.env
  few : ((backTo cpos (starEach (e :: es) X.env)).all (fun x => !x.1) && (backToKw cpos (keywordEach [] X.env)).all (fun x => x.1.isSome)
      && decide ((e :: es).length + ([] : List Keyword).length + (if ([] : List Keyword).isEmpty then 0 else 1) < 30)) = true
  line : (apos.endLine == cpos.line) = true
  hs : starEach (e :: es) X.env = (false, eval e X.env) :: starEach es X.env
  pl : (backTo cpos (starEach es X.env)).any (·.1) = false
theorem dm_join (c : MF X ob "join" e es apos cpos) (ho : DE X W G ob mo) (ha : DA X W G (e :: es) ms) : DE X W G (.Call (.Attribute ob "join" apos) (e :: es) [] cpos) (wMe fJoin mo ms) :=
  PEi (pe_bm PySem.F.plainAttrs_str PySem.F.slot_str_join PySem.F.type_str_join mt_join ho ha c.base c.few c.line c.hs c.pl) (me_ok join_r)
theorem dm_split (c : MF X ob "split" e es apos cpos) (ho : DE X W G ob mo) (ha : DA X W G (e :: es) ms) : DE X W G (.Call (.Attribute ob "split" apos) (e :: es) [] cpos) (wMe fSplit mo ms) :=
  PEi (pe_bm PySem.F.plainAttrs_str PySem.F.slot_str_split PySem.F.type_str_split mt_split ho ha c.base c.few c.line c.hs c.pl) (me_ok split_r)
theorem dm_rstrip (c : MF X ob "rstrip" e es apos cpos) (ho : DE X W G ob mo) (ha : DA X W G (e :: es) ms) : DE X W G (.Call (.Attribute ob "rstrip" apos) (e :: es) [] cpos) (wMe fRstrip mo ms) :=
  PEi (pe_bm PySem.F.plainAttrs_str PySem.F.slot_str_rstrip PySem.F.type_str_rstrip mt_rstripChars ho ha c.base c.few c.line c.hs c.pl) (me_ok rstrip_r)
/-! ### d.get(k, x) -/
def getD (kvs : List (D × D)) (k z : D) (Q : D → Prop) : Prop := ∃ j, keyD k = some j ∧ Q ((lookK kvs j).getD z)
def wGet2 (o k z : WE) : WE := fun env Q E => o env (fun x => x.sh ∧ ∃ kvs, x.d = .dict kvs ∧ flK kvs ∧ k env (fun y => z env (fun u => u.st ∧ getD kvs y.d u.d fun d => Q (.v d)) E) E) E
theorem de_get2 {kx zx : Expr} {mk mz : WE} (hu : X.A.units + 1 < cLine) (c : M2 X ob "get" apos kx zx cpos) (ho : DE X W G ob mo) (hk : DE X W G kx mk) (hz : DE X W G zx mz) : DE X W G (.Call (.Attribute ob "get" apos) [kx, zx] [] cpos) (wGet2 mo mk mz) := by
  refine PEi (pe_dget2 hu ho hk hz c) fun σ H QV ⟨B, env, fp, Q, E, rr, hm, hq, hx⟩ => ?_
  refine ⟨B, env, fp, _, E, rr, hm, fun v H1 B1 r e1 w ⟨s, kvs, ed, fl, q1⟩ => ?_, hx⟩
  obtain ⟨B2, e2, l2, rv⟩ := w.view e1 s
  rw [ed] at rv
  obtain ⟨a, vs, ev, hd, t⟩ := rv.dict e2.bh fl
  refine ⟨a, ev, .inl ⟨vs, hd⟩, B2, env, fp, _, E, rr.ext e2, q1, fun y H3 B3 ry e3 wy q2 => ?_, hx.later e2.same⟩
  refine ⟨B3, env, fp, _, E, (rr.ext e2).ext e3, q2, fun z H4 B4 rz e4 wz ⟨sz, j, hj, q3⟩ => ?_, hx.later (e2.same.trans e3.same)⟩
  obtain ⟨B5, e5, l5, rz'⟩ := wz.keep e4 sz
  have hy := (wy.now e3).mono e5.same
  have e1 := kD_of hj
  rw [e1] at hy
  have e6 := kV_rep hy
  have eT := (e2.trans e3).trans e5
  have hd' : Rd H4 a (.dK vs) := (e3.same.trans e5.same).rd hd
  refine ⟨valV vs j, .inl ⟨vs, j, hd', e6, rfl⟩, ?_⟩
  have t' := (t.mono e3.le).mono e5.le
  rcases t'.look (k := j) with ⟨z1, z2⟩ | ⟨v', d', z1, z2, z3⟩
  · rw [z1]; rw [z2] at q3
    exact hq _ H4 B5 (.v _) eT rz' q3
  · rw [z1]; rw [z2] at q3
    exact hq _ H4 B5 (.v _) eT z3 q3
/-! ### unpacking; two targets; the last item taken off -/
section
variable {g : WG} {vs : List Nat} {t : WE} {ta : WA}
def wUnp (t : WE) (g : WG) : WS := fun D env => t env (fun r => r.st ∧ g r.d env D.nx) (fun n => D.ex n env)
theorem ds_unp (he : DE X W G e t) (hg : DG X G vs tg g) (h1 : (assignEach [tg] X.env).map (·.2) = [assign tg X.env]) (hs : swapsWithSole [tg] e pos.line X.env = pure false) (hw : swappedStores [tg] e X.env = pure none) : DS X W G (.Assign [tg] e pos) (wUnp t g) := by
  refine PSi (ps_asg he hg hs hw h1) fun D σ H ⟨B, env, fp, d, rr, hm, x⟩ => ?_
  refine ⟨B, env, fp, _, _, rr, hm, fun v H1 B1 r e1 w ⟨s, q⟩ => ?_, x.x rr⟩
  obtain ⟨B2, e2, l2, rp⟩ := w.keep e1 s
  exact ⟨B2, env, fp, _, _, rr.ext e2, rp, q, fun σ' env' fp' rr' t q' => x.nx σ' H1 B2 env' fp' e2.le rr' q'⟩
def wPar (i j : Nat) (ta : WA) : WS := fun D env => ta env (fun rs => match rs with
  | [r, q] => (r.st ∧ q.st) ∧ D.nx ((env.set i (some (.fro r.d))).set j (some (.fro q.d)))
  | _ => False) (fun n => D.ex n env)
theorem ds_par {i j : Nat} {x y : Str} {px py pt : Pos} {kt k2 pt2} (hc : X.calm = true) (hN : X.N.Nodup) (hi : X.N[i]? = some x) (hj : X.N[j]? = some y) (hij : i ≠ j)
    (hx : X.env.scope.names.lookup x = some .local) (hy : X.env.scope.names.lookup y = some .local) (ha : DA X W G [a, b] ta)
    (hw : swappedStores [.Tuple [.Name x px, .Name y py] kt pt] (.Tuple [a, b] k2 pt2) X.env = pure (some [x, y]))
    (hs : swapsWithSole [.Tuple [.Name x px, .Name y py] kt pt] (.Tuple [a, b] k2 pt2) pos.line X.env = pure false) :
    DS X W G (.Assign [.Tuple [.Name x px, .Name y py] kt pt] (.Tuple [a, b] k2 pt2) pos) (wPar i j ta) := by
  refine PSi (ps_par hc hN hi hj hij hx hy ha hw hs) fun D σ H ⟨B, env, fp, d, rr, hm, x⟩ => ?_
  refine ⟨B, env, fp, _, _, rr, hm, fun vs H1 B1 rs e1 va q => ?_, x.x rr⟩
  match rs, q with
  | [r, q], ⟨⟨s1, s2⟩, hh⟩ =>
    have t := va.reps (rs := [r, q]) ⟨s1, s2, True.intro⟩
    cases t with
    | cons r1 t =>
      cases t with
      | cons r2 t =>
        cases t
        obtain ⟨f1, y1⟩ := (rr.ext e1).asg (r := .v r.d) (.refl e1.bh) r1 True.intro i
        obtain ⟨f2, y2⟩ := y1.asg (r := .v q.d) (.refl e1.bh) r2 True.intro j
        exact ⟨_, _, rfl, x.nx _ H1 B1 _ f2 e1.le y2 hh⟩
end
theorem lst_rr {K : K0} {G B H : Hp} {env : Env} {fp : List Addr} {σ : L2.St} {i : Nat} {a : Addr} {ds ds' : List PyData} {vs vs' : List V} (rr : RR K G B env fp σ H)
    (hi : env[i]? = some (some (.lst ds))) (hσ : σ[i]? = some (some (.ref a))) (hl : H a = some (.lst vs)) (r : RepAll K B vs' ds') : ∃ fp', RR K G B (env.set i (some (.lst ds'))) fp' σ (upd H a (.lst vs')) := by
  obtain ⟨vi, g, h1, h2, h3, h4, h5⟩ := rr.put hi
  rw [hσ] at h1
  cases h1
  cases h2 with
  | lst hl2 rl =>
    have na : B a = none := (h4 a (by simp)).2.1
    exact h5 B (upd H a (.lst vs')) (.lst ds') [a] (.refl _) (fun b u q => upd_keep (rr.bh b u q) (ne_of_none q na)) (fun b u n q => upd_keep q fun z => n (by simp [z])) (fun _ _ _ _ q => q)
      (.lst upd_same r) (by simp) (fun b m => ⟨fun _ => m, (h4 b m).2⟩)
section
variable {g : WG} {vs : List Nat}
/-- tg = x.pop() -/
def wPop (i : Nat) (g : WG) : WS := fun D env => ∃ ds d, env[i]? = some (some (.lst (ds ++ [d]))) ∧ g d (env.set i (some (.lst ds))) D.nx
theorem ds_pop {i : Nat} (ho : PE X ob (tVar i)) (hg : DG X G vs tg g) (hbase : attributeBase ob "pop" X.env (eval ob X.env) = eval ob X.env) (hline : (apos.endLine == cpos.line) = true)
    (h1 : (assignEach [tg] X.env).map (·.2) = [assign tg X.env]) (hs : swapsWithSole [tg] (.Call (.Attribute ob "pop" apos) [] [] cpos) pos.line X.env = pure false) (hw : swappedStores [tg] (.Call (.Attribute ob "pop" apos) [] [] cpos) X.env = pure none) :
    DS X W G (.Assign [tg] (.Call (.Attribute ob "pop" apos) [] [] cpos) pos) (wPop i g) := by
  refine PSi (ps_asg (pe_bm0 PySem.F.plainAttrs_list PySem.F.slot_list_pop PySem.F.type_list_pop mt_pop ho hbase hline) hg hs hw h1) fun D σ H ⟨B, env, fp, d, rr, ⟨ds, dl, hi, hm⟩, x⟩ => ?_
  obtain ⟨v, gg, h1, h2, h3⟩ := rr.own.get hi
  cases h2 with
  | @lst a ws _ hl rl =>
    refine ⟨.ref a, h1, .inl ⟨rfl, _, .inl (.inl hl)⟩, ?_⟩
    obtain ⟨y, hy, ry⟩ := rl.get (i := ws.length - 1) (d := dl) (by rw [rl.length, List.length_append]; simp)
    refine ⟨a, ws, y, rfl, rfl, hl, hy, ?_⟩
    have rl' := rl.dropLast
    rw [List.dropLast_concat] at rl'
    obtain ⟨fp', rr'⟩ := lst_rr rr hi h1 hl rl'
    exact ⟨B, _, fp', _, _, rr', ry, hm, fun σ' env' fp2 rr2 t q' => x.nx σ' _ B env' fp2 (.refl _) rr2 q'⟩
end
end
end DL

set_option Elab.async false
set_option linter.all false
set_option maxRecDepth 100000
set_option maxHeartbeats 1000000
/-! DL16: try, what is caught, isinstance of it, over data. -/
namespace DL
open PySem L2 PyProof.Rows
/-- an own class under another one -/
def subE (n c : Str) : Bool := n == c || c == ("BlotError" : Str)
def subV (n c : Str) : Bool := subE n c || c == ("ValueError" : Str)
/-- the facts of the exceptions' classes -/
def ExAll (K : K0) (mg : Str → Option Value) (NS : List Str) : Prop := ∀ n ∈ NS, ∃ Cn : Addr, mg n = some (.ref Cn) ∧ ExcC K Cn ∧ PySem.W.kitOne K (.ref Cn) (.type "ValueError") = some true ∧
  ∀ c ∈ NS, ∃ Cc : Addr, mg c = some (.ref Cc) ∧ PySem.W.exmOne K (.ref Cn) (.ref Cc) = some (subE n c) ∧ PySem.W.kitOne K (.ref Cn) (.ref Cc) = some (subE n c)
section
variable {K : K0} {G B B' H H' : Hp} {env : Env} {fp : List Addr} {σ : L2.St}
theorem ownEnv_raw (a : Addr) : ∀ {σ : L2.St} {env : Env} {fp : List Addr} (i : Nat), OwnEnv K B H σ env fp → ∃ fp', OwnEnv K B H (σ.set i (some (.ref a))) (env.set i (some (.raw a))) fp' ∧ fp'.Sublist fp
  | _, _, _, _, .nil => ⟨[], .nil, .slnil⟩
  | _, _, _, 0, .no t => ⟨_, .raw t, List.Sublist.refl _⟩
  | _, _, _, 0, .raw t => ⟨_, .raw t, List.Sublist.refl _⟩
  | _, _, _, 0, .some x t => ⟨_, .raw t, List.sublist_append_right _ _⟩
  | _, _, _, i + 1, .no t => by
    obtain ⟨fp', h1, h2⟩ := ownEnv_raw a i t
    exact ⟨fp', .no h1, h2⟩
  | _, _, _, i + 1, .raw t => by
    obtain ⟨fp', h1, h2⟩ := ownEnv_raw a i t
    exact ⟨fp', .raw h1, h2⟩
  | _, _, _, i + 1, .some (f := f) x t => by
    obtain ⟨fp', h1, h2⟩ := ownEnv_raw a i t
    exact ⟨f ++ fp', .some x h1, List.Sublist.append (List.Sublist.refl _) h2⟩
theorem RR.raw (x : RR K G B env fp σ H) (i : Nat) (a : Addr) : ∃ fp', RR K G B (env.set i (some (.raw a))) fp' (σ.set i (some (.ref a))) H := by
  obtain ⟨fp', h1, h2⟩ := ownEnv_raw a i x.own
  exact ⟨fp', x.bh, x.gh, x.gb, h1, x.nd.sublist h2, fun a m => x.fb a (h2.subset m)⟩
theorem RR.no (x : RR K G B env fp σ H) (i : Nat) : ∃ fp', RR K G B (env.set i none) fp' (σ.set i none) H := by
  obtain ⟨fp', h1, h2⟩ := ownEnv_no i x.own
  exact ⟨fp', x.bh, x.gh, x.gb, h1, x.nd.sublist h2, fun a m => x.fb a (h2.subset m)⟩
end
/-- what a clause makes of the ends -/
def endN (i : Nat) (D : En) : En := { nx := fun e => D.nx (e.set i none), rt := D.rt, bk := fun e => D.bk (e.set i none), ct := fun e => D.ct (e.set i none), ex := fun _ _ => False }
def end0 (D : En) : En := { D with ex := fun _ _ => False }
/-- try: body except c as (slot i): suite -/
def wTry (NS : List Str) (c : Str) (i : Nat) (body : WS) (hnd : Str → Addr → WS) : WS := fun D env => body { D with ex := fun n env' => n ∈ NS ∧ if subE n c = true then ∀ a, hnd n a (endN i D) (env'.set i (some (.raw a))) else D.ex n env' } env
/-- try: body except c: suite -/
def wTryO (NS : List Str) (c : Str) (body : WS) (hnd : WS) : WS := fun D env => body { D with ex := fun n env' => n ∈ NS ∧ if subE n c = true then hnd (end0 D) env' else D.ex n env' } env
section
variable {X : Cx} {W : WX} {G : Hp} {body suite : List Stmt} {b₀ : Stmt} {mb : WS} {NS : List Str} {c n : Str} {i : Nat} {np pos pos' : Pos}
theorem PSs_ex {α : Sort _} {sts : List Stmt} {t : α → TS} (h : ∀ a, PSs X sts (t a)) : PSs X sts (fun D σ H => ∃ a, t a D σ H) := ⟨fun pins s σ H D I ⟨a, w⟩ => (h a).run pins s σ H D I w⟩
theorem names_of (EX : ExAll X.K X.mg NS) (hc : c ∈ NS) (hg : Gl X c) (hdb : (c == ("__debug__" : Str)) = false) : ∃ Cc : Addr, Names X c (.ref Cc) ∧ X.mg c = some (.ref Cc) := by
  obtain ⟨C, h1, _⟩ := EX c hc
  exact ⟨C, ⟨hg, hdb, .inl h1⟩, h1⟩
theorem exm_of (EX : ExAll X.K X.mg NS) {m : Str} (hm : m ∈ NS) (hc : c ∈ NS) {cls cc : Value} (e1 : X.mg m = some cls) (e2 : X.mg c = some cc) : PySem.W.exmOne X.K cls cc = some (subE m c) := by
  obtain ⟨Cn, h1, _, _, h2⟩ := EX m hm
  obtain ⟨Cc, h3, h4, _⟩ := h2 c hc
  rw [h1] at e1
  rw [h3] at e2
  cases e1
  cases e2
  exact h4
theorem tDS_suite {m : WS} {D : Ends} {σ : L2.St} {H : Hp} {W1 : WX} {a : Addr} {pn : List (Addr × Obj)} (h : tDS X W1 G m D σ H) : tDS (X.suite a pn) W1 G m D σ H := by
  obtain ⟨B, env, fp, d, rr, hm, x⟩ := h
  exact ⟨B, env, fp, d, rr, hm, ⟨x.nx, x.bk, x.ct, x.rt, x.ex⟩⟩
theorem tDS_tr {m : WS} {D : Ends} {σ : L2.St} {H : Hp} {W1 : WX} {pn : List (Addr × Obj)} {xe : Value → Shared → Prop} (h : tDS X W1 G m D σ H) : tDS (X.tr pn xe) W1 G m D σ H := by
  obtain ⟨B, env, fp, d, rr, hm, x⟩ := h
  exact ⟨B, env, fp, d, rr, hm, ⟨x.nx, x.bk, x.ct, x.rt, x.ex⟩⟩
theorem ds_try {hnd : Str → Addr → WS} (hs : X.stack = X.env :: X.outer) (hf : X.env.frame = some X.env.locals) (hN : X.N.Nodup) (hi : X.N[i]? = some n) (hln : X.env.kindOf n = some .local) (EX : ExAll X.K X.mg NS) (hc : c ∈ NS) (hg : Gl X c) (hdb : (c == ("__debug__" : Str)) = false) (tk : Takes X W)
    (hb : ∀ (W' : WX) (pn : List (Addr × Obj)) (xe : Value → Shared → Prop), Takes (X.tr pn xe) W' → PassesOwn (model X.prog X.w) X.A X.env xe → DSs (X.tr pn xe) W' G body mb)
    (hsu : ∀ (a D : Addr) (oe : Obj) (pn : List (Addr × Obj)) (m : Str), m ∈ NS → X.mg m = some (.ref D) → Zc (.ref D) none oe → (∃ vs, oe.data = .fields vs) → DSs (X.suite a ((a, oe) :: pn)) W0 G (b₀ :: suite) (hnd m a)) :
    DS X W G (.Try body [.ExceptHandler (some (.Name c np)) (some n) (b₀ :: suite) pos'] [] [] pos) (wTry NS c i mb hnd) := by
  obtain ⟨Cc, hnm, hmc⟩ := names_of EX hc hg hdb
  let ts : Addr → Value → Option Addr → TS := fun a cls d D σ H => ∃ m : { m : Str // m ∈ NS ∧ X.mg m = some cls ∧ d = none }, tDS X W0 G (hnd m.1 a) D σ H
  refine PSi (ps_try_as (c := .ref Cc) (tb := fun W' => tDS X W' G mb) (ts := ts) (Wout := W) hs hf hN hi hln hnm tk (fun W' pn xe tk' hp' => PSsi (hb W' pn xe tk' hp') fun _ _ _ => tDS_tr) fun a oe cls d pn hz hfl => PSs_ex fun m => ?_) fun D σ H ⟨B, env, fp, d, rr, hm, x⟩ => ?_
  · obtain ⟨m, h1, h2, h3⟩ := m
    obtain ⟨Cn, h4, _⟩ := EX m h1
    have e : cls = .ref Cn := by rw [h4] at h2; exact (Option.some.inj h2).symm
    subst e h3
    exact PSsi (hsu a Cn oe pn m h1 h2 hz hfl) fun _ _ _ => tDS_suite
  · refine ⟨B, env, fp, _, rr, hm, ⟨x.nx, x.bk, x.ct, x.rt, fun m cls σ' H' B' env' fp' l rr' ⟨hmN, hh⟩ hmg => ?_⟩⟩
    refine ⟨subE m c, exm_of EX hmN hc hmg hmc, fun hb' a na => ?_, fun hb' => ?_⟩
    · rw [if_pos hb'] at hh
      obtain ⟨f2, rr2⟩ := rr'.raw i a
      refine ⟨⟨m, hmN, hmg, rfl⟩, B', _, f2, endN i d, rr2, hh a, ⟨fun σ5 H5 B5 env5 fp5 l5 rr5 q => ?_, fun σ5 H5 B5 env5 fp5 l5 rr5 q => ?_, fun σ5 H5 B5 env5 fp5 l5 rr5 q => ?_, fun v H5 B5 r f l5 => x.rt v H5 B5 r f (l.trans l5), fun _ _ _ _ _ _ _ _ _ h => h.elim⟩⟩
      · obtain ⟨f6, rr6⟩ := rr5.no i
        exact x.nx _ H5 B5 _ f6 (l.trans l5) rr6 q
      · obtain ⟨f6, rr6⟩ := rr5.no i
        exact x.bk _ H5 B5 _ f6 (l.trans l5) rr6 q
      · obtain ⟨f6, rr6⟩ := rr5.no i
        exact x.ct _ H5 B5 _ f6 (l.trans l5) rr6 q
    · rw [if_neg (by rw [hb']; simp)] at hh
      exact x.ex m cls σ' H' B' env' fp' l rr' hh hmg
theorem ds_tryO {hnd : WS} (hs : X.stack = X.env :: X.outer) (hf : X.env.frame = some X.env.locals) (EX : ExAll X.K X.mg NS) (hc : c ∈ NS) (hg : Gl X c) (hdb : (c == ("__debug__" : Str)) = false) (tk : Takes X W)
    (hb : ∀ (W' : WX) (pn : List (Addr × Obj)) (xe : Value → Shared → Prop), Takes (X.tr pn xe) W' → PassesOwn (model X.prog X.w) X.A X.env xe → DSs (X.tr pn xe) W' G body mb)
    (hsu : ∀ (a : Addr) (oe : Obj) (pn : List (Addr × Obj)), DSs (X.suite a ((a, oe) :: pn)) W0 G (b₀ :: suite) hnd) :
    DS X W G (.Try body [.ExceptHandler (some (.Name c np)) none (b₀ :: suite) pos'] [] [] pos) (wTryO NS c mb hnd) := by
  obtain ⟨Cc, hnm, hmc⟩ := names_of EX hc hg hdb
  refine PSi (ps_try_only (c := .ref Cc) (tb := fun W' => tDS X W' G mb) (ts := fun a cls d => tDS X W0 G hnd) (Wout := W) hs hf hnm tk (fun W' pn xe tk' hp' => PSsi (hb W' pn xe tk' hp') fun _ _ _ => tDS_tr) fun a oe cls d pn hz hfl => PSsi (hsu a oe pn) fun _ _ _ => tDS_suite) fun D σ H ⟨B, env, fp, d, rr, hm, x⟩ => ?_
  refine ⟨B, env, fp, _, rr, hm, ⟨x.nx, x.bk, x.ct, x.rt, fun m cls σ' H' B' env' fp' l rr' ⟨hmN, hh⟩ hmg => ?_⟩⟩
  refine ⟨subE m c, exm_of EX hmN hc hmg hmc, fun hb' a na => ?_, fun hb' => ?_⟩
  · rw [if_pos hb'] at hh
    refine ⟨B', env', fp', end0 d, rr', hh, ⟨fun σ5 H5 B5 env5 fp5 l5 rr5 q => x.nx _ H5 B5 _ fp5 (l.trans l5) rr5 q, fun σ5 H5 B5 env5 fp5 l5 rr5 q => x.bk _ H5 B5 _ fp5 (l.trans l5) rr5 q, fun σ5 H5 B5 env5 fp5 l5 rr5 q => x.ct _ H5 B5 _ fp5 (l.trans l5) rr5 q, fun v H5 B5 r f l5 => x.rt v H5 B5 r f (l.trans l5), fun _ _ _ _ _ _ _ _ _ h => h.elim⟩⟩
  · rw [if_neg (by rw [hb']; simp)] at hh
    exact x.ex m cls σ' H' B' env' fp' l rr' hh hmg
/-! ### several clauses -/
def wClauses (D : En) (n : Str) (env : Env) : List (Str × WS) → Prop
  | [] => D.ex n env
  | (c, h) :: r => if subE n c = true then h (end0 D) env else wClauses D n env r
def wTryM (NS : List Str) (body : WS) (hs : List (Str × WS)) : WS := fun D env => body { D with ex := fun n env' => n ∈ NS ∧ wClauses D n env' hs } env
inductive HdsD (X : Cx) (G : Hp) (NS : List Str) : List ExceptHandler → List (Str × WS) → Prop
  | nil : HdsD X G NS [] []
  | cons {c : Str} {h : WS} {b₀ : Stmt} {suite : List Stmt} {np pos' : Pos} {hds : List ExceptHandler} {l : List (Str × WS)} (hc : c ∈ NS) (hg : Gl X c) (hdb : (c == ("__debug__" : Str)) = false)
      (hsu : ∀ (a : Addr) (oe : Obj) (pn : List (Addr × Obj)), DSs (X.suite a ((a, oe) :: pn)) W0 G (b₀ :: suite) h) (r : HdsD X G NS hds l) :
      HdsD X G NS (.ExceptHandler (some (.Name c np)) none (b₀ :: suite) pos' :: hds) ((c, h) :: l)
theorem hds_of (EX : ExAll X.K X.mg NS) : ∀ {hds : List ExceptHandler} {l : List (Str × WS)}, HdsD X G NS hds l → ∃ l' : List (Value × (Addr → Value → Option Addr → TS)), HdsOk X hds l' ∧
    ∀ (D : Ends) (d : En) (B : Hp) (σ : L2.St) (x : SOk X W G B d D σ) (m : Str) (cls : Value) (σ' : L2.St) (H' B' : Hp) (env' : Env) (fp' : List Addr), m ∈ NS → X.mg m = some cls → Le B B' → RR X.K G B' env' fp' σ' H' → wClauses d m env' l → wMany X.K W D l' cls none σ' H'
  | _, _, .nil => ⟨[], .nil, fun D d B σ x m cls σ' H' B' env' fp' hmN hmg l rr h => x.ex m cls σ' H' B' env' fp' l rr h hmg⟩
  | _, _, .cons (c := c) (h := h) hc hg hdb hsu r => by
    obtain ⟨l', h1, h2⟩ := hds_of EX r
    obtain ⟨Cc, hnm, hmc⟩ := names_of EX hc hg hdb
    refine ⟨(.ref Cc, fun a cls d => tDS X W0 G h) :: l', .cons hnm (fun a oe cls d pn hz hfl => PSsi (hsu a oe pn) fun _ _ _ => tDS_suite) h1, fun D d B σ x m cls σ' H' B' env' fp' hmN hmg l rr hh => ?_⟩
    have hh : (if subE m c = true then h (end0 d) env' else wClauses d m env' _) := hh
    refine ⟨subE m c, exm_of EX hmN hc hmg hmc, fun hb' a na => ?_, fun hb' => ?_⟩
    · rw [if_pos hb'] at hh
      exact ⟨B', env', fp', end0 d, rr, hh, ⟨fun σ5 H5 B5 env5 fp5 l5 rr5 q => x.nx _ H5 B5 _ fp5 (l.trans l5) rr5 q, fun σ5 H5 B5 env5 fp5 l5 rr5 q => x.bk _ H5 B5 _ fp5 (l.trans l5) rr5 q, fun σ5 H5 B5 env5 fp5 l5 rr5 q => x.ct _ H5 B5 _ fp5 (l.trans l5) rr5 q, fun v H5 B5 r f l5 => x.rt v H5 B5 r f (l.trans l5), fun _ _ _ _ _ _ _ _ _ h => h.elim⟩⟩
    · rw [if_neg (by rw [hb']; simp)] at hh
      exact h2 D d B σ x m cls σ' H' B' env' fp' hmN hmg l rr hh
theorem ds_tryM {h₀ : ExceptHandler} {hds : List ExceptHandler} {l : List (Str × WS)} (hs : X.stack = X.env :: X.outer) (hf : X.env.frame = some X.env.locals) (EX : ExAll X.K X.mg NS) (tk : Takes X W)
    (hb : ∀ (W' : WX) (pn : List (Addr × Obj)) (xe : Value → Shared → Prop), Takes (X.tr pn xe) W' → PassesOwn (model X.prog X.w) X.A X.env xe → DSs (X.tr pn xe) W' G body mb) (hh : HdsD X G NS (h₀ :: hds) l) :
    DS X W G (.Try body (h₀ :: hds) [] [] pos) (wTryM NS mb l) := by
  obtain ⟨l', h1, h2⟩ := hds_of (W := W) EX hh
  refine PSi (ps_try_many (tb := fun W' => tDS X W' G mb) (Wout := W) hs hf tk (fun W' pn xe tk' hp' => PSsi (hb W' pn xe tk' hp') fun _ _ _ => tDS_tr) h1) fun D σ H ⟨B, env, fp, d, rr, hm, x⟩ => ?_
  exact ⟨B, env, fp, _, rr, hm, ⟨x.nx, x.bk, x.ct, x.rt, fun m cls σ' H' B' env' fp' l rr' ⟨hmN, hh⟩ hmg => h2 D d B σ x m cls σ' H' B' env' fp' hmN hmg l rr' hh⟩⟩
/-! ### isinstance of what is caught -/
def wIsE (i : Nat) (a : Addr) (b : Bool) : WE := fun env Q _ => env[i]? = some (some (.raw a)) ∧ Q (.v (.bool b))
variable {a Dn : Addr} {oe : Obj} {pn : List (Addr × Obj)} {e : Expr} {p p1 p2 : Pos} {m : Str}
theorem tD_isE {σ : L2.St} {H : Hp} {QV : VK} {b : Bool} (h : tD X W G (wIsE i a b) σ H QV) : σ[i]? = some (some (.ref a)) ∧ QV (.bl b) H := by
  obtain ⟨B, env, fp, Q, E, rr, ⟨hi, hm⟩, hq, hx⟩ := h
  exact ⟨rr.own.getRaw hi, hq _ H B (.v _) (.refl rr.bh) (.bl _) hm⟩
theorem de_isE1 (EX : ExAll X.K X.mg NS) (hm : m ∈ NS) (hc : c ∈ NS) (hmg : X.mg m = some (.ref Dn)) (hz : Zc (.ref Dn) none oe) (hf : ∃ vs, oe.data = .fields vs) (hgi : Gl X "isinstance") (hni : X.mg "isinstance" = none) (he : PE (X.suite a ((a, oe) :: pn)) e (tVar i)) (hg : Gl X c) (hdb : (c == ("__debug__" : Str)) = false)
    (hs1 : starEach [e, .Name c p1] X.env = (false, eval e X.env) :: starEach [.Name c p1] X.env) (hs2 : starEach [.Name c p1] X.env = (false, eval (.Name c p1) X.env) :: starEach [] X.env) (hpl : (backTo p2 (starEach [.Name c p1] X.env)).any (·.1) = false) :
    DE (X.suite a ((a, oe) :: pn)) W G (.Call (.Name "isinstance" p) [e, .Name c p1] [] p2) (wIsE i a (subE m c)) := by
  obtain ⟨Cn, h1, h2, h3, h4⟩ := EX m hm
  obtain ⟨Cc, h5, h6, h7⟩ := h4 c hc
  rw [h1] at hmg
  cases hmg
  refine PEi (pe_callB (call_isE (X := X) (a := a) (pn := pn) h2 hz hf) hgi hni (by decide +kernel) (pa_cons he (pa_cons (pe_glob hg h5 (v := .ref Cc) rfl (hd := hdb)) pa_nil hs2) hs1) (by decide) (by decide) hs1 hpl) fun σ H QV h => ?_
  obtain ⟨h8, h9⟩ := tD_isE h
  exact ⟨_, h8, .ref Cc, .ref Cc, _, rfl, fun u r => by cases r; rfl, h7, h9⟩
end
end DL

set_option Elab.async false
set_option linter.all false
set_option maxRecDepth 100000
set_option maxHeartbeats 1000000
/-! DL17: isinstance of what is caught by ValueError and by several classes; calls without arguments; the head's facts with one more Bool. -/
namespace DL
open PySem L2 PyProof.Rows
section
variable {X : Cx} {W : WX} {G : Hp} {NS : List Str} {c m : Str} {i : Nat} {a Dn : Addr} {oe : Obj} {pn : List (Addr × Obj)} {e e2 : Expr} {p p1 p2 pos : Pos}
theorem de_isEV (EX : ExAll X.K X.mg NS) (hm : m ∈ NS) (hmg : X.mg m = some (.ref Dn)) (hz : Zc (.ref Dn) none oe) (hf : ∃ vs, oe.data = .fields vs) (hgi : Gl X "isinstance") (hni : X.mg "isinstance" = none) (he : PE (X.suite a ((a, oe) :: pn)) e (tVar i)) (hv : PE (X.suite a ((a, oe) :: pn)) e2 (tC (.ty "ValueError")))
    (hs1 : starEach [e, e2] X.env = (false, eval e X.env) :: starEach [e2] X.env) (hs2 : starEach [e2] X.env = (false, eval e2 X.env) :: starEach [] X.env) (hpl : (backTo p2 (starEach [e2] X.env)).any (·.1) = false) :
    DE (X.suite a ((a, oe) :: pn)) W G (.Call (.Name "isinstance" p) [e, e2] [] p2) (wIsE i a true) := by
  obtain ⟨Cn, h1, h2, h3, h4⟩ := EX m hm
  rw [h1] at hmg
  cases hmg
  refine PEi (pe_callB (call_isE (X := X) (a := a) (pn := pn) h2 hz hf) hgi hni (by decide +kernel) (pa_cons he (pa_cons hv pa_nil hs2) hs1) (by decide) (by decide) hs1 hpl) fun σ H QV h => ?_
  obtain ⟨h8, h9⟩ := tD_isE h
  exact ⟨_, h8, .ty "ValueError", .type "ValueError", _, rfl, fun u r => r, h3, h9⟩
/-- several own classes -/
def rIsET (K : PySem.W.Frag) (D a : Addr) : List V → Hp → VK → Prop := fun xs H Q => ∃ (tp : Addr) (cs : List V) (us : List Value) (b : Bool), xs = [.ref a, .ref tp] ∧ H tp = some (.tup cs) ∧ Paired ClsV cs us ∧ PySem.W.kitAny K (.ref D) us = some b ∧ Q (.bl b) H
theorem call_isET (C : ExcC X.K Dn) (hz : Zc (.ref Dn) none oe) (hf : ∃ vs, oe.data = .fields vs) : CallR (X.suite a ((a, oe) :: pn)) (.builtin "isinstance") (rIsET X.K Dn a) := by
  intro pins s σ H xs us Q I r h
  obtain ⟨tp, cs, ws, b, rfl, hT, k, e, q⟩ := h
  obtain ⟨u1, u2, rfl, r1, r2⟩ := vals2 r
  cases (show u2 = Value.ref tp from r2)
  cases (show u1 = Value.ref a from r1)
  obtain ⟨hget, _⟩ := I.pin (a, oe) (List.mem_append.mpr (.inl List.mem_cons_self))
  obtain ⟨vs, hv⟩ := hf
  have J : PySem.W.InstAt s.heap a oe Dn none := by
    obtain ⟨oc, od, oda, osl⟩ := oe
    obtain ⟨h1, h2⟩ := hz
    dsimp only at h1 h2 hv
    subst h1 h2 hv
    exact ⟨hget, rfl, rfl, trivial⟩
  obtain ⟨_, its, rv, o, h1, h2, n, h3⟩ := (show ObjOk X.prog X.w H s.heap tp (.tup cs) from I.hok tp _ hT)
  have e3 := ClsV.all k rv
  subst e3
  obtain ⟨oc, od, dt, sl⟩ := o
  simp only at h2 h3
  subst h2 h3
  exact PySem.W.kia_tup (PySem.W.handS_kitx_exc C.hg C.hk C.hs C.hd C.ha C.hn C.ht C.hm) I.kIn J h1 e (fun z => nomatch z) fun tk => ⟨.bl b, H, I.kept (t' := tk) fun _ _ z => z, rfl, q⟩
inductive ClsA (X : Cx) (NS : List Str) : List Expr → List Str → Prop
  | nil : ClsA X NS [] []
  | cons {c : Str} {p : Pos} {es : List Expr} {cs : List Str} (hc : c ∈ NS) (hg : Gl X c) (hdb : (c == ("__debug__" : Str)) = false) (hs : starEach (.Name c p :: es) X.env = (false, eval (.Name c p) X.env) :: starEach es X.env) (r : ClsA X NS es cs) : ClsA X NS (.Name c p :: es) (c :: cs)
theorem clsA_pa (EX : ExAll X.K X.mg NS) (hm : m ∈ NS) (hmg : X.mg m = some (.ref Dn)) : ∀ {es : List Expr} {cs : List Str}, ClsA X NS es cs → cs.length = es.length ∧ ∃ Cs : List Addr, Cs.length = cs.length ∧ PA (X.suite a ((a, oe) :: pn)) es (fun σ H Q => Q (Cs.map V.ref) H) ∧ PySem.W.kitAny X.K (.ref Dn) (Cs.map Value.ref) = some (cs.any (subE m))
  | _, _, .nil => ⟨rfl, [], rfl, PAi pa_nil fun σ H Q h => h, kitAny_nil⟩
  | _, _, .cons hc hg hdb hs r => by
    obtain ⟨hl, Cs, h0, h1, h2⟩ := clsA_pa EX hm hmg r
    obtain ⟨Cn, h3, h4, h5, h6⟩ := EX m hm
    obtain ⟨Cc, h7, h8, h9⟩ := h6 _ hc
    rw [h3] at hmg
    cases hmg
    refine ⟨by simp [hl], Cc :: Cs, by simp [h0], PAi (pa_cons (pe_glob hg h7 (v := .ref Cc) rfl (hd := hdb)) h1 hs) fun σ H Q h => h, ?_⟩
    rw [List.map_cons, List.any_cons]
    refine kitAny_cons h9 (fun q => ?_) fun q => ?_
    · rw [q, Bool.false_or]; exact h2
    · rw [q, Bool.true_or]
theorem paired_refs : ∀ Cs : List Addr, Paired ClsV (Cs.map V.ref) (Cs.map Value.ref)
  | [] => .nil
  | C :: r => .cons (.own C) (paired_refs r)
theorem de_isET {es : List Expr} {cs : List Str} {x1} {tpos : Pos} (EX : ExAll X.K X.mg NS) (hm : m ∈ NS) (hmg : X.mg m = some (.ref Dn)) (hz : Zc (.ref Dn) none oe) (hf : ∃ vs, oe.data = .fields vs) (hgi : Gl X "isinstance") (hni : X.mg "isinstance" = none) (he : PE (X.suite a ((a, oe) :: pn)) e (tVar i)) (hcs : ClsA X NS es cs) (hlen : es.length ≤ 100)
    (hs1 : starEach [e, .Tuple es x1 tpos] X.env = (false, eval e X.env) :: starEach [.Tuple es x1 tpos] X.env) (hs2 : starEach [.Tuple es x1 tpos] X.env = (false, eval (.Tuple es x1 tpos) X.env) :: starEach [] X.env) (hpl : (backTo p2 (starEach [.Tuple es x1 tpos] X.env)).any (·.1) = false) :
    DE (X.suite a ((a, oe) :: pn)) W G (.Call (.Name "isinstance" p) [e, .Tuple es x1 tpos] [] p2) (wIsE i a (cs.any (subE m))) := by
  obtain ⟨hl, Cs, h0, h5, h6⟩ := clsA_pa (a := a) (oe := oe) (pn := pn) EX hm hmg hcs
  obtain ⟨Cn, h1, h2, h3, h4⟩ := EX m hm
  rw [h1] at hmg
  cases hmg
  refine PEi (pe_callB (call_isET (X := X) (a := a) (pn := pn) h2 hz hf) hgi hni (by decide +kernel) (pa_cons he (pa_cons (pe_tup h5) pa_nil hs2) hs1) (by decide) (by decide) hs1 hpl) fun σ H QV ⟨B, env, fp, Q, E, rr, ⟨hi, hm'⟩, hq, hx⟩ => ?_
  refine ⟨_, rr.own.getRaw hi, by rw [List.length_map, h0, hl, sizeLine_eq]; omega, fun tp np => ?_⟩
  refine ⟨tp, Cs.map V.ref, Cs.map Value.ref, _, rfl, upd_same, paired_refs Cs, h6, ?_⟩
  exact hq _ _ B (.v _) (.make rr.bh np _) (.bl _) hm'
/-! ### a call without arguments -/
variable {k j : Nat} {x : Str} {S : Spec}
theorem de_call0 (F : FnAt X.prog X.w X.K X.mg X.base k x [] [] S) (hr : Room j X.A) (hk : k ≤ j) (hg : Gl X x) (tk : Takes X W) (hdb : (x == ("__debug__" : Str)) = false) : DE X W G (.Call (.Name x p) [] [] pos) (wCall S [] waN) := by
  obtain ⟨f, fd, ds, hm, hkp, F, hb, hd⟩ := F
  refine PEi (t := tCallSD (dsp X.K X.mg S) [] (fun σ cls d H => W cls d σ H) (tDA X W G waN)) ⟨fun pins s σ H Q I h => ?_⟩ fun _ _ _ h => call_ok (dvs := []) (dds := []) (fun _ => .nil) h
  refine wpAny_Call_Name_kw (ld_glob I hg hm ?_ hdb)
  cases hd
  refine PySem.W.callWith_K0 I.kIn hkp (run_fnSD (us := []) (dvs := []) (ds := []) (E := fun σ cls d H => W cls d σ H) F (hr.mono hk) hb .nil (passAt tk σ) I .nil ?_)
  obtain ⟨B, env, fp, Q', E, rr, hm', hq, hx⟩ := h
  exact hq [] H B [] (.refl rr.bh) .nil hm'
end
/-! ### the head's facts and one more Bool -/
abbrev AlE : Type := He.AlD × Bool
def obsE (n : Nat) (fa : List He.Fa) (fn : List He.DefD) (ex : PySem.W.Frag → Bool) (g : Addr → Option Obj) : AlE := (He.obsDG n fa fn g, ex (He.frG g (He.asD g n)))
def hookE (n : Nat) (fa : List He.Fa) (fn : List He.DefD) (ex : PySem.W.Frag → Bool) : PySem.W.Hook where
  α := AlE
  obs := fun s => obsE n fa fn ex s.heap.get?
  val := fun _ => (He.valD fn, true)
  says := fun _ h => ∃ K : PySem.W.Frag, K.In h ∧ He.SaysD fa fn K ∧ ex K = true
  of := fun _ s e => ⟨He.frG s.heap.get? (He.asD s.heap.get? n), He.frG_in, show _ = _ from congrArg (fun z : AlE => z.1) e, show _ = _ from congrArg (fun z : AlE => z.2) e⟩
  keeps := fun _ _ _ ⟨K, hK, c⟩ k => ⟨K, PySem.W.Frag.In.keeps hK k, c⟩
theorem obsE_eq {n : Nat} {fa : List He.Fa} {fn : List He.DefD} {ex : PySem.W.Frag → Bool} {g : Addr → Option Obj} {s : Shared} (h : ∀ a, g a = s.heap.get? a) : obsE n fa fn ex g = (hookE n fa fn ex).obs s := by
  have e : g = s.heap.get? := funext h
  rw [e] <;> rfl
/-- what is asked of the exceptions' classes -/
def excB (NS : List Str) (K : K0) : Bool := NS.all fun n =>
  decide (PySem.W.findIn K (.ref (He.ga K n)) "__getattribute__" = some (some (.builtin "BaseException.__getattribute__"))) && decide (PySem.W.findIn K (.ref (He.ga K n)) "__getattr__" = some none) &&
  decide (PySem.W.subIn K (.ref (He.ga K n)) (.type "BaseException") = some true) && PySem.W.hasDictIn K (He.ga K n) && decide (PySem.W.findIn K (.ref (He.ga K n)) "__class__" = some (some (.builtin "object.__class__"))) &&
  decide (PySem.W.mroIn K (He.ga K n) (.type "object") = some true) && decide (PySem.W.kitOne K (.ref (He.ga K n)) (.type "ValueError") = some true) &&
  decide (PySem.W.specialIn K (.builtin "object.__class__") "__get__" = some (some (.builtin "getset_descriptor.__get__"))) && decide (PySem.W.takesIn K (.builtin "object.__class__") = some true) &&
  NS.all fun c => decide (PySem.W.exmOne K (.ref (He.ga K n)) (.ref (He.ga K c)) = some (subE n c)) && decide (PySem.W.kitOne K (.ref (He.ga K n)) (.ref (He.ga K c)) = some (subE n c))
theorem exAll_of {K : K0} {mg : Str → Option Value} {NS : List Str} (hg : ∀ n ∈ NS, mg n = some (.ref (He.ga K n))) (h : excB NS K = true) : ExAll K mg NS := by
  intro n hn
  have h1 := List.all_eq_true.mp h n hn
  simp only [Bool.and_eq_true, decide_eq_true_eq] at h1
  obtain ⟨⟨⟨⟨⟨⟨⟨⟨⟨a1, a2⟩, a3⟩, a4⟩, a5⟩, a6⟩, a7⟩, a8⟩, a9⟩, a10⟩ := h1
  refine ⟨_, hg n hn, ⟨a1, a2, a3, a4, a5, a8, a9, a6⟩, a7, fun c hc => ?_⟩
  have h2 := List.all_eq_true.mp a10 c hc
  simp only [Bool.and_eq_true, decide_eq_true_eq] at h2
  exact ⟨_, hg c hc, h2.1, h2.2⟩
end DL

set_option Elab.async false
set_option linter.all false
set_option maxRecDepth 100000
set_option maxHeartbeats 1000000
/-! DL18: texts by their signs' numbers. -/
namespace DL
open PySem L2 PyProof.Rows
def tS (cs : List Nat) : Str := ⟨cs.toArray⟩
theorem tS_of (x : Str) : x = tS x.cps.toList := by unfold tS; simp
theorem tS_len (a : List Nat) : (tS a).length = a.length := by unfold tS Str.length; simp
theorem tS_app (a b : List Nat) : tS a ++ tS b = tS (a ++ b) := by
  show Str.append (tS a) (tS b) = _
  unfold tS Str.append
  simp
theorem tS_iff (a b : List Nat) : (tS a = tS b) = (a = b) := by
  unfold tS
  apply propext
  constructor
  · intro h
    have := congrArg (fun s : Str => s.cps.toList) h
    simpa using this
  · intro h; rw [h]
theorem repS_tS (l : List Nat) (k : Int) : repS (tS l) k = tS (List.replicate k.toNat l).flatten := by unfold repS tS; simp
theorem tS_cps (a : List Nat) : (tS a).cps.toList = a := by unfold tS; simp
theorem tS_one (c : Nat) : (⟨#[c]⟩ : Str) = tS [c] := rfl
theorem tS_sg (a : List Nat) : sgD (tS a) = a.map fun c => PyData.str (tS [c]) := by
  unfold sgD
  rw [tS_cps]; rfl
theorem tS_cut (a : List Nat) (lo hi : Option Int) : cutS (tS a) lo hi = tS (cut a lo hi) := by
  unfold cutS cut
  rw [tS_cps, tS_len]
  rfl
/-- texts joined -/
def joinL (sep : List Nat) : List (List Nat) → List Nat
  | [] => []
  | [x] => x
  | x :: y :: r => x ++ sep ++ joinL sep (y :: r)
theorem foldl_glue (sep : List Nat) : ∀ (ls : List (List Nat)) (x : List Nat), (ls.map tS).foldl (fun (acc : Array Nat) (p : Str) => acc ++ (tS sep).cps ++ p.cps) x.toArray = (joinL sep (x :: ls)).toArray
  | [], x => by simp [joinL]
  | y :: r, x => by
    rw [List.map_cons, List.foldl_cons]
    have e : x.toArray ++ (tS sep).cps ++ (tS y).cps = (x ++ sep ++ y).toArray := by unfold tS; simp
    rw [e, foldl_glue sep r]
    cases r with
    | nil => simp [joinL]
    | cons z r => simp [joinL, List.append_assoc]
theorem tS_join (sep : List Nat) (ls : List (List Nat)) : Txt.join (tS sep) (ls.map tS) = tS (joinL sep ls) := by
  unfold Txt.join Builtin.Str.glued
  cases ls with
  | nil => simp [joinL]; rfl
  | cons x r =>
    rw [List.map_cons, List.drop_one, List.tail_cons, List.headD_cons]
    have := foldl_glue sep r x
    unfold tS at this ⊢
    rw [this]
theorem joinL_nil : ∀ ls : List (List Nat), joinL [] ls = ls.flatten
  | [] => rfl
  | [x] => by simp [joinL]
  | x :: y :: r => by rw [joinL, joinL_nil (y :: r), List.append_nil]; rfl
theorem tS_nilE : Str.empty = tS [] := rfl
/-- lists of texts as data -/
abbrev tL (ls : List (List Nat)) : List D := ls.map fun l => .str (tS l)
theorem tL_iff (a b : List (List Nat)) : (tL a = tL b) = (a = b) := map_iff (fun x y e => by
  have := PyData.str.inj e
  rwa [tS_iff] at this) a b
theorem tL_snoc (ls : List (List Nat)) (l : List Nat) : tL ls ++ [PyData.str (tS l)] = tL (ls ++ [l]) := by simp
theorem tL_strs (ls : List (List Nat)) : tL ls = (ls.map tS).map PyData.str := by simp
theorem sh_tS (k : Nat) {l : List Nat} (h : PyData.strOk (tS l) = true) : Sh k (.str (tS l)) := sh_str k h
theorem pl_tL (ls : List (List Nat)) : pl (.list (tL ls)) = true := by
  rw [pl]; exact pls_all fun x m => by
    obtain ⟨n, _, e⟩ := List.mem_map.mp m
    subst e; rw [pl]
theorem flat_tL (ls : List (List Nat)) : (tL ls).all flatD = true := by
  rw [List.all_eq_true]; intro x m; obtain ⟨n, _, rfl⟩ := List.mem_map.mp m; rfl
theorem memD_tL (x : List Nat) (ls : List (List Nat)) : memD (.str (tS x)) (tL ls) = decide (x ∈ ls) := by
  unfold memD
  rw [Bool.eq_iff_iff, List.any_eq_true, decide_eq_true_eq]
  constructor
  · rintro ⟨d, m, e⟩
    obtain ⟨n, hn, rfl⟩ := List.mem_map.mp m
    rw [eqv_str, decide_eq_true_eq, tS_iff] at e
    subst e; exact hn
  · intro h
    exact ⟨_, List.mem_map_of_mem h, by simp⟩
theorem cps_getD (c : Nat) (l : List Nat) : (tS (c :: l)).cps.getD 0 0 = c := by unfold tS; simp
theorem join_go {d : D} {n : Nat} {Q : R → Prop} (ls : List (List Nat)) {a : List Nat} (hd : d = .list (tL ls)) (hn : n = a.length) (h : (ls.map (·.length)).sum + ls.length * a.length ≤ 16777216) (hq : Q (.v (.str (tS (joinL a ls))))) :
    ∃ ys, txtsD d ys ∧ (ys.map (fun x => x.length)).sum + ys.length * n ≤ 16777216 ∧ Q (.v (.str (Txt.join (tS a) ys))) := by
  subst hd hn
  refine ⟨ls.map tS, .inl (by simp), ?_, by rw [tS_join]; exact hq⟩
  rw [List.length_map, List.map_map]
  have : (fun x => x.length) ∘ tS = fun l : List Nat => l.length := by funext l; exact tS_len l
  rw [this]; exact h
theorem joinL_ones (f : Nat → Nat) : ∀ xs : List Nat, joinL [] (xs.map fun c => [f c]) = xs.map f := fun xs => by
  rw [joinL_nil]
  induction xs with
  | nil => rfl
  | cons x r ih => rw [List.map_cons, List.flatten_cons, ih]; rfl
theorem len_ones (f : Nat → Nat) (xs : List Nat) : ((xs.map fun c => [f c]).map (·.length)).sum = xs.length := by
  induction xs with
  | nil => rfl
  | cons x r ih => rw [List.map_cons, List.map_cons, List.sum_cons, ih, List.length_cons]; simp; omega
theorem rep_nL (n v : Nat) : (List.replicate n [PyData.int (v : Int)]).flatten = nL (List.replicate n v) := by
  induction n with
  | zero => rfl
  | succ n ih => rw [List.replicate_succ, List.flatten_cons, ih, List.replicate_succ]; rfl
theorem rep_one {α : Type} (n : Nat) (v : α) : (List.replicate n [v]).flatten = List.replicate n v := by
  induction n with
  | zero => rfl
  | succ n ih => rw [List.replicate_succ, List.flatten_cons, ih, List.replicate_succ]; rfl
theorem rep_range {α : Type} (n : Nat) (f : Nat → α) (v : α) (h : ∀ x, f x = v) : List.replicate n v = (List.range n).map f := by
  apply List.ext_getElem (by simp)
  intro i _ _
  simp [h]
theorem pick_go {α : Type} {L : List α} {z n : Int} {P : α → Prop} (hn : n = (L.length : Int)) (h0 : 0 < L.length) (h : ∀ c ∈ L, P c) : ∃ c, atI L (z % n) = some c ∧ P c := by
  subst hn
  obtain ⟨k, h1, h2⟩ := emod_nat (a := z) (b := (L.length : Int)) (by omega)
  rw [h1]
  exact ⟨_, atI_lt (by omega), h _ (List.getElem_mem _)⟩
theorem tL_set (ls : List (List Nat)) (i : Nat) (l : List Nat) : (tL ls).set i (PyData.str (tS l)) = tL (ls.set i l) := by simp
theorem cdiv_int {i j : Int} (h0 : 0 < j) (h1 : j < 2 ^ 60) : CDivW i j := by
  refine cdiv_ok h0 ?_
  have h2 : j.natAbs ≠ 0 := by omega
  have h3 : j.natAbs < 2 ^ 60 := by omega
  have := (Nat.log2_lt h2).mpr h3
  omega
theorem ite_and2 {p q : Prop} [Decidable p] [Decidable q] {A B : Prop} : (if p then (if q then A else B) else B) = if p ∧ q then A else B := by
  by_cases h : p <;> by_cases g : q <;> simp [h, g]
theorem ite_or2 {p q : Prop} [Decidable p] [Decidable q] {A B : Prop} : (if p then A else (if q then A else B)) = if p ∨ q then A else B := by
  by_cases h : p <;> by_cases g : q <;> simp [h, g]
theorem sum_ones {α : Type} (f : α → Nat) (l : List α) (k : Nat) (h : ∀ x ∈ l, f x ≤ k) : (l.map f).sum ≤ l.length * k := by
  induction l with
  | nil => simp
  | cons x r ih =>
    rw [List.map_cons, List.sum_cons, List.length_cons, Nat.succ_mul]
    have := ih fun y m => h y (List.mem_cons_of_mem _ m)
    have := h x (List.mem_cons_self ..)
    omega
theorem map_set_range {α : Type} {n j : Nat} {f g : Nat → α} {v : α} (h1 : ∀ x, x < n → x ≠ j → g x = f x) (h2 : j < n → g j = v) : ((List.range n).map f).set j v = (List.range n).map g := by
  apply List.ext_getElem (by simp)
  intro i hi _
  rw [List.getElem_set]
  simp at hi
  by_cases h : j = i
  · subst h
    simp [h2 hi]
  · rw [if_neg h]
    simp [h1 i hi (fun q => h q.symm)]
theorem tS_in (a : List Nat) (c : Nat) : (!(Builtin.Str.occurrences (tS a) (tS [c]) 0 (tS a).length 1).isEmpty) = decide (c ∈ a) := by
  have h := StrLaws.found_one (tS a) c
  rw [tS_cps] at h
  exact h
theorem tS_in' (a : List Nat) (c : Nat) : (!(Builtin.Str.occurrences (tS a) (tS [c]) 0 a.length 1).isEmpty) = decide (c ∈ a) := by
  have h := tS_in a c
  rwa [tS_len] at h
theorem log_small {n : Nat} (h : n < 2 ^ 60) : n.log2 < 1920 := by
  by_cases h0 : n = 0
  · subst h0; decide
  · have := (Nat.log2_lt h0).mpr h; omega
/-- plain signs -/
def okT (l : List Nat) : Prop := ∀ c ∈ l, c < 128
instance (l : List Nat) : Decidable (okT l) := by unfold okT; infer_instance
theorem okT.str {l : List Nat} (h : okT l) : PyData.strOk (tS l) = true := by
  unfold PyData.strOk tS
  simp only [List.all_toArray, List.all_eq_true]
  intro c m
  have := h c m
  simp; omega
theorem okT.sh {l : List Nat} (h : okT l) (k : Nat) : Sh k (.str (tS l)) := sh_str k h.str
theorem okT_nil : okT [] := by intro c m; cases m
theorem okT.app {a b : List Nat} (h : okT a) (g : okT b) : okT (a ++ b) := fun c m => (List.mem_append.mp m).elim (h c) (g c)
theorem okT_one {c : Nat} (h : c < 128) : okT [c] := by intro d m; simp at m; omega
theorem okT.sub {a b : List Nat} (h : okT a) (g : ∀ c ∈ b, c ∈ a) : okT b := fun c m => h c (g c m)
theorem sh_tL {ls : List (List Nat)} (h : ∀ l ∈ ls, okT l) : Sh 1 (.list (tL ls)) := sh_list fun x m => by
  obtain ⟨n, hn, rfl⟩ := List.mem_map.mp m; exact (h n hn).sh 0
theorem eqv_tL (a b : List (List Nat)) : PyData.eqv (.list (tL a)) (.list (tL b)) = decide (a = b) := by
  rw [Bool.eq_iff_iff, eqv_pl (pl_tL a) (pl_tL b), decide_eq_true_eq]
  simp only [PyData.list.injEq]
  rw [tL_iff]
theorem lt_tS (a b : List Nat) : ((tS a).cps.toList < (tS b).cps.toList) = (a < b) := by rw [tS_cps, tS_cps]
end DL

set_option Elab.async false
set_option linter.all false
set_option maxRecDepth 100000
set_option maxHeartbeats 1000000
/-! DL19: lists in lists changed, comprehensions that make own things, sorted, dict(pairs), divmod. -/
namespace DL
open PySem L2 PyProof.Rows
section
variable {K : K0} {G B H : Hp} {env : Env} {fp : List Addr} {σ : L2.St}
/-- an own thing within an own list of own things -/
theorem RR.put2 {os : List O} {o : O} {i n : Nat} (x : RR K G B env fp σ H) (hi : env[i]? = some (some (.lsts os))) (hn : os[n]? = some o) :
    ∃ a vs u g, σ[i]? = some (some (.ref a)) ∧ H a = some (.lst vs) ∧ vs.length = os.length ∧ vs[n]? = some u ∧ Own K B H u o g ∧ g.Nodup ∧ (∀ b ∈ g, b ∈ fp ∧ B b = none ∧ G b = none) ∧
    ∀ (B' H' : Hp) (o' : O) (g' : List Addr), Le B B' → Le B' H' → (∀ b w, b ∉ g → H b = some w → H' b = some w) → (∀ b w, H b = some w → b ∉ g → B b = none → B' b = none) → Own K B' H' u o' g' → g'.Nodup →
      (∀ b ∈ g', (b ∈ fp → b ∈ g) ∧ B' b = none ∧ G b = none) → ∃ fp', RR K G B' (env.set i (some (.lsts (os.set n o')))) fp' σ H' := by
  obtain ⟨v, gg, h1, h2, h3, h4, h5⟩ := x.put hi
  cases h2 with
  | @lsts a vs _ f hl rl =>
    obtain ⟨na, nf⟩ := List.nodup_cons.mp h3
    obtain ⟨u, g, z1, z2, z3, z4, z5⟩ := rl.atO nf hn
    have nag : a ∉ g := fun m => na (z3 a m)
    refine ⟨a, vs, u, g, h1, hl, rl.length, z1, z2, z4, fun b m => h4 b (List.mem_cons_of_mem _ (z3 b m)), fun B' H' o' g' l bh k nb w ng hg => ?_⟩
    obtain ⟨f', t1, t2, t3⟩ := z5 B' H' o' g' l (fun b m n => by
      obtain ⟨w', hw⟩ := rl.dom b m
      rw [hw]; exact k b w' n hw) w ng fun b m m' => (hg b m).1 (h4 b (List.mem_cons_of_mem _ m')).1
    have naf' : a ∉ f' := fun m => by
      rcases t3 a m with z | z
      · exact na z.1
      · exact nag ((hg a z).1 (h4 a List.mem_cons_self).1)
    refine h5 B' H' _ (a :: f') l bh (fun b w' n hw => k b w' (fun m => n (List.mem_cons_of_mem _ (z3 b m))) hw) (fun b w' hw n => nb b w' hw fun m => n (List.mem_cons_of_mem _ (z3 b m))) (.lsts (k a _ nag hl) t1) (List.nodup_cons.mpr ⟨naf', t2⟩) fun b m => ?_
    rcases List.mem_cons.mp m with z | z
    · subst z
      exact ⟨fun _ => List.mem_cons_self, nb b _ hl nag (h4 b List.mem_cons_self).2.1, (h4 b List.mem_cons_self).2.2⟩
    · rcases t3 b z with z | z
      · obtain ⟨w', hw⟩ := rl.dom b z.1
        have q := h4 b (List.mem_cons_of_mem _ z.1)
        exact ⟨fun _ => List.mem_cons_of_mem _ z.1, nb b w' hw z.2 q.2.1, q.2.2⟩
      · exact ⟨fun m => List.mem_cons_of_mem _ (z3 b ((hg b z).1 m)), (hg b z).2⟩
end
theorem atI_ixN {α : Type} {xs : List α} {i : Int} {n : Nat} {x : α} (h : ixN xs.length i = some n) (g : xs[n]? = some x) : atI xs i = some x := by
  unfold atI
  rw [h]; exact g
section
variable {X : Cx} {W : WX} {G : Hp} {e ob ix : Expr} {k t m : WE} {pos : Pos}
/-- xs[k].append(e), xs an own list of own lists -/
def wApp2 (i : Nat) (k t : WE) : WS := fun D env => ∃ os, env[i]? = some (some (.lsts os)) ∧ k env (fun kk => ∃ j n ds, kk.d = .int j ∧ ixN os.length j = some n ∧ os[n]? = some (.lst ds) ∧ t env (fun r => r.st ∧ ds.length < sizeLine ∧ D.nx (env.set i (some (.lsts (os.set n (.lst (ds ++ [r.d]))))))) (fun n => D.ex n env)) (fun n => D.ex n env)
theorem ds_app2 {i : Nat} {p2 apos cpos : Pos} (hu : X.A.units + 1 < cLine) (ho : PE X ob (tVar i)) (hk : DE X W G ix k) (he : DE X W G e t) (hpi : PlainIx ix)
    (hbase : attributeBase (.Subscript ob ix p2) "append" X.env (eval (.Subscript ob ix p2) X.env) = eval (.Subscript ob ix p2) X.env)
    (hfew : ((backTo cpos (starEach [e] X.env)).all (fun x => !x.1) && (backToKw cpos (keywordEach [] X.env)).all (fun x => x.1.isSome)
      && decide ([e].length + ([] : List Keyword).length + (if ([] : List Keyword).isEmpty then 0 else 1) < 30)) = true)
    (hline : (apos.endLine == cpos.line) = true) (hs : starEach [e] X.env = (false, eval e X.env) :: starEach [] X.env) (hplain : (backTo cpos (starEach [] X.env)).any (·.1) = false)
    (hsw : swapsWith (.Call (.Attribute (.Subscript ob ix p2) "append" apos) [e] [] cpos) none pos.line X.env = pure false) :
    DS X W G (.Expr (.Call (.Attribute (.Subscript ob ix p2) "append" apos) [e] [] cpos) pos) (wApp2 i k t) := by
  refine PSi (ps_expr (pe_bm PySem.F.plainAttrs_list PySem.F.slot_list_append PySem.F.type_list_append mt_append (pe_ix ix_list ho hk hpi) (pa_cons he pa_nil hs) hbase hfew hline hs hplain) hsw) fun D σ H ⟨B, env, fp, d, rr, ⟨os, hi, hm⟩, x⟩ => ?_
  obtain ⟨vi, g0, h1, _, _⟩ := rr.own.get hi
  refine ⟨vi, h1, B, env, fp, _, _, rr, hm, fun y H1 B1 kr e1 w1 ⟨j, n, ds, ej, hn, ho, hq⟩ => ?_, x.x rr⟩
  have rr1 := rr.ext e1
  have hy := w1.now e1
  rw [ej] at hy
  obtain ⟨a, vs, u, g, q1, q2, q3, q4, q5, q6, q7, q8⟩ := rr1.put2 hi ho
  rw [h1] at q1
  cases q1
  cases q5 with
  | @lst a2 vs2 _ hl rl =>
    refine ⟨a, vs, j, _, rfl, hy.int_inv, .inl (.inl q2), atI_ixN (by rw [q3]; exact hn) q4, .inl ⟨rfl, _, .inl (.inl hl)⟩, B1, env, fp, _, _, rr1, hq, fun v H2 B2 r e2 w2 ⟨st, hz, q⟩ => ?_, (x.x rr).later e1.same⟩
    obtain ⟨B3, e3, l3, rk⟩ := w2.keep e2 st
    have rr3 := rr1.ext e3
    obtain ⟨a', vs', u', g', z1, z2, z3, z4, z5, z6, z7, z8⟩ := rr3.put2 hi ho
    rw [h1] at z1
    cases z1
    have e4 := e2.same _ _ q2
    rw [z2] at e4
    cases e4
    rw [q4] at z4
    cases z4
    cases z5 with
    | @lst _ vs3 _ hl3 rl3 =>
      refine ⟨a2, vs3, v, rfl, rfl, hl3, by rw [rl3.length]; exact hz, ?_⟩
      have na : B3 a2 = none := (z7 a2 (by simp)).2.1
      obtain ⟨fp', y⟩ := z8 B3 (upd H2 a2 (.lst (vs3 ++ [v]))) (.lst (ds ++ [r.d])) [a2] (.refl _)
        (fun b u q => upd_keep (rr3.bh b u q) (ne_of_none q na)) (fun b u n q => upd_keep q fun z => n (by simp [z])) (fun _ _ _ _ q => q)
        (.lst upd_same (rl3.append (.one rk))) (by simp) (fun b m => ⟨fun _ => m, (z7 b m).2⟩)
      exact x.nx σ _ B3 _ fp' (e1.le.trans e3.le) y q
/-- xs[k][j] = e, xs an own list of own lists -/
def wSt2 (i : Nat) (k k2 m : WE) : WS := fun D env => ∃ os, env[i]? = some (some (.lsts os)) ∧ m env (fun r => k env (fun kk => ∃ j n ds, kk.d = .int j ∧ ixN os.length j = some n ∧ os[n]? = some (.lst ds) ∧
  k2 env (fun k2 => r.st ∧ ∃ j2 n2, k2.d = .int j2 ∧ ixN ds.length j2 = some n2 ∧ D.nx (env.set i (some (.lsts (os.set n (.lst (ds.set n2 r.d))))))) (fun n => D.ex n env)) (fun n => D.ex n env)) (fun n => D.ex n env)
theorem ds_st2 {i : Nat} {ix2 : Expr} {k2 : WE} {p2 p3 : Pos} (hu : X.A.units + 1 < cLine) (ho : PE X ob (tVar i)) (hk : DE X W G ix k) (hk2 : DE X W G ix2 k2) (hm : DE X W G e m) (hpi : PlainIx ix)
    (ha : ∀ v, assign (.Subscript (.Subscript ob ix p3) ix2 p2) X.env v = (do
      let ov ← holding [v] (eval (.Subscript ob ix p3) X.env)
      let iv ← holding [v, ov] (eval ix2 X.env)
      standAt p2
      holding [v, ov, iv] (setItem ov iv v)
      release [v, ov, iv] []))
    (hs : swapsWithSole [.Subscript (.Subscript ob ix p3) ix2 p2] e pos.line X.env = pure false) (hw : swappedStores [.Subscript (.Subscript ob ix p3) ix2 p2] e X.env = pure none) :
    DS X W G (.Assign [.Subscript (.Subscript ob ix p3) ix2 p2] e pos) (wSt2 i k k2 m) := by
  refine PSi (ps_asg hm (pg_sub (pe_ix ix_list ho hk hpi) hk2 set_list ha) hs hw) fun D σ H ⟨B, env, fp, d, rr, ⟨os, hi, hmm⟩, x⟩ => ?_
  refine ⟨B, env, fp, _, _, rr, hmm, fun v H1 B1 r e1 w1 q1 => ?_, x.x rr⟩
  obtain ⟨vi, g0, h1, _, _⟩ := rr.own.get hi
  have rr1 := rr.ext e1
  refine ⟨vi, h1, B1, env, fp, _, _, rr1, q1, fun y H2 B2 kr e2 w2 ⟨j, n, ds, ej, hn, ho, hq⟩ => ?_, (x.x rr).later e1.same⟩
  have rr2 := rr1.ext e2
  have hy := w2.now e2
  rw [ej] at hy
  obtain ⟨a, vs, u, g, q1, q2, q3, q4, q5, q6, q7, q8⟩ := rr2.put2 hi ho
  rw [h1] at q1
  cases q1
  cases q5 with
  | @lst a2 vs2 _ hl rl =>
    refine ⟨a, vs, j, _, rfl, hy.int_inv, .inl (.inl q2), atI_ixN (by rw [q3]; exact hn) q4, B2, env, fp, _, _, rr2, hq, fun y2 H3 B3 k2r e3 w3 ⟨st, j2, n2, ej2, hn2, q⟩ => ?_, (x.x rr).later (e1.same.trans e2.same)⟩
    have hy2 := w3.now e3
    rw [ej2] at hy2
    obtain ⟨B4, e4, l4, rk⟩ := (VOk.fwd (e2.trans e3) w1).keep (e1.trans (e2.trans e3)) st
    have rr4 := rr.ext e4
    obtain ⟨a', vs', u', g', z1, z2, z3, z4, z5, z6, z7, z8⟩ := rr4.put2 hi ho
    rw [h1] at z1
    cases z1
    have e5 := e3.same _ _ q2
    rw [z2] at e5
    cases e5
    rw [q4] at z4
    cases z4
    cases z5 with
    | @lst _ vs3 _ hl3 rl3 =>
      refine ⟨a2, vs3, _, n2, rfl, hy2.int_inv, hl3, by rw [rl3.length]; exact hn2, ?_⟩
      have na : B4 a2 = none := (z7 a2 (by simp)).2.1
      obtain ⟨fp', y⟩ := z8 B4 (upd H3 a2 (.lst (vs3.set n2 v))) (.lst (ds.set n2 r.d)) [a2] (.refl _)
        (fun b u q => upd_keep (rr4.bh b u q) (ne_of_none q na)) (fun b u n q => upd_keep q fun z => n (by simp [z])) (fun _ _ _ _ q => q)
        (.lst upd_same (rl3.set rk n2)) (by simp) (fun b m => ⟨fun _ => m, (z7 b m).2⟩)
      exact x.nx σ _ B4 _ fp' e4.le y q
end
end DL

set_option Elab.async false
set_option linter.all false
set_option maxRecDepth 100000
set_option maxHeartbeats 1000000
/-! DL20: comprehensions that make own things, sorted, dict(pairs), divmod, written dicts. -/
namespace DL
open PySem L2 PyProof.Rows
theorem pow_pos_go (h : Nat) : (0 : Int) < ((2 ^ h : Nat) : Int) := by have := Nat.two_pow_pos h; omega
/-! ### comprehensions whose list holds own things -/
def LcO (env : Env) (ds : List PyData) (vs : List Nat) (g : WG) (c : WT) (t : WE) (Q : R → Prop) : Prop := ∃ P : Nat → List O → Prop, P 0 [] ∧
  (∀ i d acc, ds[i]? = some d → P i acc → g d (wipeE env vs) fun env2 => c env2 (fun k => if k = true then t env2 (fun r => r.st ∧ acc.length < sizeLine ∧ P (i + 1) (acc ++ [r.o])) noE else P (i + 1) acc) noE) ∧
  ∀ acc, P ds.length acc → Q (.t (.lsts acc))
def wLcO (it : WI) (vs : List Nat) (g : WG) (c : WT) (t : WE) : WE := fun env Q E => it env (fun ds => LcO env ds vs g c t Q) E
theorem wLcO_eq (it : WI) (vs : List Nat) (g : WG) (c : WT) (t : WE) (env : Env) (Q : R → Prop) (E : Str → Prop) : wLcO it vs g c t env Q E = it env (fun ds => LcO env ds vs g c t Q) E := rfl
theorem lcO_mapE {α : Type} {ls : List α} {enc : α → D} {env : Env} {vs : List Nat} {g : WG} {t : WE} {Q : R → Prop} (f : α → O) (hz : ls.length ≤ sizeLine)
    (h : ∀ x ∈ ls, ∀ A : R → Prop, (∀ r, r.st → r.o = f x → A r) → g (enc x) (wipeE env vs) fun env2 => t env2 A noE) (q : Q (.t (.lsts (ls.map f)))) : LcO env (ls.map enc) vs g wYes t Q := by
  refine ⟨fun i acc => acc = (ls.take i).map f, by simp, fun i d acc hd ha => ?_, fun acc ha => ?_⟩
  · obtain ⟨x, hx, e⟩ := map_get hd
    subst e
    have ha : acc = (ls.take i).map f := ha
    refine h x (List.mem_of_getElem? hx) (fun r => r.st ∧ acc.length < sizeLine ∧ acc ++ [r.o] = (ls.take (i + 1)).map f) fun r rs rd => ⟨rs, ?_, ?_⟩
    · have hi := (List.getElem?_eq_some_iff.mp hx).1
      rw [ha, List.length_map, List.length_take]
      omega
    · rw [take_succ hx, List.map_append, ha, rd]; rfl
  · have ha : acc = (ls.take (ls.map enc).length).map f := ha
    rw [ha, List.length_map, List.take_length]; exact q
section
variable {X : Cx} {W : WX} {G : Hp} {tg iter elt : Expr} {ifs : List Expr} {scope : Scope} {own : List (Str × Nat)} {it : WI} {g : WG} {c : WT} {t : WE} {pos : Pos}
theorem lcO_ok {σ : L2.St} {H : Hp} {QV : VK} {vs : List Nat} (h : tD X W G (wLcO it vs g c t) σ H QV) :
    tLc (tDIc X W G it) (tDG X G vs g) (tDT X W0 G c) (tD X W0 G t) vs σ H QV := by
  obtain ⟨B, env, fp, Q, E, rr, hm, hq, hx⟩ := h
  refine ⟨B, env, fp, _, E, rr, hm, fun J H1 B1 ds e1 wk ⟨P, p0, pt, pe⟩ L nL => ?_, hx⟩
  have out : ∀ {H2 B2 : Hp}, RR X.K G B2 env fp σ H2 → L ∉ fp := fun {H2 B2} r2 m => by
    obtain ⟨u, hu⟩ := (rr.ext e1).own.dom L m
    rw [nL] at hu; cases hu
  have gL : G L = none := (rr.ext e1).gh.none nL
  let Iv : Nat → Hp → Prop := fun i H2 => ∃ B2 acc vs2 f, Le B1 B2 ∧ RR X.K G B2 env fp σ H2 ∧ B2 L = none ∧ H2 L = some (.lst vs2) ∧ OwnAll X.K B2 H2 vs2 acc f ∧ f.Nodup ∧ L ∉ f ∧ (∀ a ∈ f, H1 a = none ∧ B2 a = none) ∧
    (∀ a o, H1 a = some o → H2 a = some o) ∧ (∀ a o, H1 a = some o → B1 a = none → B2 a = none) ∧ P i acc
  refine ⟨fun i m H2 => m = ds.length - i ∧ i ≤ ds.length ∧ Iv i H2,
    ⟨_, rfl, Nat.zero_le _, B1, [], [], [], .refl _, (rr.ext e1).beside (out (rr.ext e1)) (e1.bh.none nL) gL, e1.bh.none nL, upd_same, .nil, by simp, by simp, by simp, fun a o q => upd_keep q (ne_of_none q nL), fun _ _ _ n => n, p0⟩, ?_⟩
  rintro i m H2 ⟨rfl, hle, B2, acc, vs2, f, l2, rr2, bL, hL, ra, nf, Lf, hf, s2, n2, pi⟩
  by_cases hlt : i < ds.length
  · refine .inr ⟨wk.go i H2 B2 l2 rr2.bh s2 hlt, fun H' => Iv (i + 1) H', fun H' z => ⟨_, (by omega), rfl, hlt, z⟩, fun y H3 hy => ?_⟩
    obtain ⟨dd, B3, hd, e3, rp⟩ := wk.yld i H2 y H3 B2 hlt l2 rr2.bh s2 hy
    obtain ⟨fpw, rrw⟩ := (rr2.ext e3).wipe vs
    refine ⟨B3, _, fpw, dd, _, rrw, rp, pt i dd acc hd pi, fun σ4 env4 fp4 rr4 t4 q4 => ⟨?_, ?_⟩⟩
    · have := t4.wipe
      rw [this]
      exact (Touch.wipe ⟨wipe_length σ vs, fun j nj => by rw [wipe_get, if_neg nj]⟩)
    · refine ⟨B3, env4, fp4, _, noE, rr4, q4, fun k H5 B5 e5 q5 => ?_, xok0⟩
      have eA := e3.trans e5
      have keepO : ∀ {H' B' : Hp}, Ext H2 B2 H' B' → OwnAll X.K B' H' vs2 acc f ∧ ∀ a ∈ f, H1 a = none ∧ B' a = none := fun {H' B'} e => ⟨ra.mono e.le fun a m => by
        obtain ⟨u, hu⟩ := ra.dom a m
        rw [hu]; exact e.same a u hu, fun a m => ⟨(hf a m).1, by
        obtain ⟨u, hu⟩ := ra.dom a m
        exact e.new a u hu (hf a m).2⟩⟩
      cases k with
      | false =>
        rw [if_neg (by simp)] at q5
        refine iteF ?_
        obtain ⟨k1, k2⟩ := keepO eA
        exact ⟨B5, acc, vs2, f, l2.trans eA.le, rr2.ext eA, eA.new L _ hL bL, eA.same _ _ hL, k1, nf, Lf, k2, fun a o q => eA.same _ _ (s2 a o q), fun a o q n => eA.new a o (s2 a o q) (n2 a o q n), q5⟩
      | true =>
        rw [if_pos rfl] at q5
        refine iteT ?_
        refine ⟨B5, env4, fp4, _, noE, rr4.ext e5, q5, fun u H6 B6 r e6 w ⟨sr, hz, p6⟩ => ?_, xok0⟩
        have eB := eA.trans e6
        have hL6 := eB.same _ _ hL
        have bL6 := eB.new L _ hL bL
        have rr6 := rr2.ext eB
        obtain ⟨k1, k2⟩ := keepO eB
        have key : ∀ g', Own X.K B6 H6 u r.o g' → g'.Nodup → (∀ a ∈ g', H5 a = none ∧ B6 a = none) → Iv (i + 1) (upd H6 L (.lst (vs2 ++ [u]))) := fun g' wg ng hg => by
          have h5 : ∀ a ∈ g', H1 a = none ∧ a ∉ f ∧ a ≠ L := fun a m => by
            have q := eA.same.none (hg a m).1
            have q1 : H1 a = none := by
              cases z : H1 a with
              | none => rfl
              | some o => rw [s2 a o z] at q; cases q
            refine ⟨q1, fun m' => ?_, fun e => ?_⟩
            · obtain ⟨o, ho⟩ := ra.dom a m'
              rw [ho] at q; cases q
            · subst e; rw [hL] at q; cases q
          have ne : ∀ a ∈ f ++ g', upd H6 L (.lst (vs2 ++ [u])) a = H6 a := fun a m => upd_ne fun e => by
            rcases List.mem_append.mp m with m | m
            · exact Lf (e ▸ m)
            · exact (h5 a m).2.2 e
          have t1 := k1.mono (H' := upd H6 L (.lst (vs2 ++ [u]))) (Le.refl B6) fun a m => ne a (List.mem_append_left _ m)
          have t2 := wg.mono (H' := upd H6 L (.lst (vs2 ++ [u]))) (Le.refl B6) fun a m => ne a (List.mem_append_right _ m)
          have t3 := t1.append (OwnAll.cons t2 .nil)
          rw [List.append_nil] at t3
          refine ⟨B6, acc ++ [r.o], vs2 ++ [u], f ++ g', l2.trans eB.le, rr6.beside (out rr6) bL6 gL, bL6, upd_same, t3, List.nodup_append.mpr ⟨nf, ng, fun a m b m' e => (h5 b m').2.1 (e ▸ m)⟩, fun m => ?_, fun a m => ?_, fun a o q => upd_keep (eB.same _ _ (s2 a o q)) (ne_of_none q nL), fun a o q n => eB.new a o (s2 a o q) (n2 a o q n), p6⟩
          · rcases List.mem_append.mp m with m | m
            · exact Lf m
            · exact (h5 L m).2.2 rfl
          · rcases List.mem_append.mp m with m | m
            · exact k2 a m
            · exact ⟨(h5 a m).1, (hg a m).2⟩
        refine ⟨vs2, hL6, by rw [k1.length]; exact hz, ?_⟩
        cases r with
        | v d => exact key [] (.fro w) (by simp) fun b m => absurd m (by simp)
        | t o => obtain ⟨g', w, ng, hg⟩ := w; exact key g' w ng hg
        | b o => exact sr.elim
  · have e : i = ds.length := by omega
    subst e
    refine .inl ⟨wk.stop _ H2 B2 l2 rr2.bh s2 (Nat.le_refl _), hq _ H2 B2 (.t (.lsts acc)) ⟨e1.same.trans s2, e1.le.trans l2, rr2.bh, fun a o q n => n2 a o (e1.same _ _ q) (e1.new a o q n)⟩ ⟨L :: f, .lsts hL ra, List.nodup_cons.mpr ⟨Lf, nf⟩, fun a m => ?_⟩ (pe acc pi)⟩
    rcases List.mem_cons.mp m with z | z
    · subst z; exact ⟨e1.same.none nL, bL⟩
    · exact ⟨e1.same.none (hf a z).1, (hf a z).2⟩
theorem de_lcO (hc : X.calm = true) (hN : X.N.Nodup) (hi : DIc X W G tg iter it) {N : List Str} {sc : Scope} (ok : blkC N sc scope own = true) (eN : X.N = N) (eS : X.env.scope = sc)
    (hg : ∀ s H C cl fp, DG (Bk X scope s H C cl fp) G (own.map (·.2)) tg g) (ht : ∀ s H C cl fp, PTs (Bk X scope s H C cl fp) ifs (tDT X W0 G c)) (he : ∀ s H C cl fp, DE (Bk X scope s H C cl fp) W0 G elt t)
    (hs : ∀ x, foldedSetIterable iter X.env x = pure x) : DE X W G (.ListComp elt [⟨tg, iter, ifs, 0⟩] scope pos) (wLcO it (own.map (·.2)) g c t) :=
  PEi (pe_lc (g := tDG X G (own.map fun p : Str × Nat => p.2) g) (tt := tDT X W0 G c) (te := tD X W0 G t) hc hN hi (by subst eN eS; exact blkOk_by ok) hg ht he hs) fun _ _ _ h => lcO_ok h
theorem ds_setLcO {i : Nat} {y : Str} {py spos : Pos} (hc : X.calm = true) (hN : X.N.Nodup) (hy : X.N[i]? = some y) (hyl : X.env.scope.names.lookup y = some .local)
    (hsw : swapsWith (.ListComp elt [⟨tg, iter, ifs, 0⟩] scope pos) (some (.Name y py)) spos.line X.env = pure true) (hi : DIc X W G tg iter it) {N : List Str} {sc : Scope} (ok : blkC N sc scope own = true) (eN : X.N = N) (eS : X.env.scope = sc)
    (hg : ∀ s H C cl fp, DG (Bk X scope s H C cl fp) G (own.map (·.2)) tg g) (ht : ∀ s H C cl fp, PTs (Bk X scope s H C cl fp) ifs (tDT X W0 G c)) (he : ∀ s H C cl fp, DE (Bk X scope s H C cl fp) W0 G elt t)
    (hs : ∀ x, foldedSetIterable iter X.env x = pure x) : DS X W G (.Assign [.Name y py] (.ListComp elt [⟨tg, iter, ifs, 0⟩] scope pos) spos) (wAsg i (wLcO it (own.map (·.2)) g c t)) :=
  PSi (ps_setLc (g := tDG X G (own.map fun p : Str × Nat => p.2) g) (tt := tDT X W0 G c) (te := tD X W0 G t) hc hN hy hyl hsw hi (by subst eN eS; exact blkOk_by ok) hg ht he hs) fun D σ H h => asg_ok (fun _ _ _ h => lcO_ok h) H h
end
/-! ### sorted -/
def ordS (xs ys : List Str) : Prop := ys.Perm xs ∧ sortedS ys = true
def ordI (xs ys : List Int) : Prop := ys.Perm xs ∧ ys.Pairwise (· ≤ ·)
def sortedD : F1
  | .list ds, Q => (∃ ns : List Int, ds = ns.map PyData.int ∧ ∀ ms, ordI ns ms → Q (.t (.lst (ms.map PyData.int)))) ∨ ∃ xs : List Str, ds = xs.map PyData.str ∧ ∀ ys, ordS xs ys → Q (.t (.lst (ys.map PyData.str)))
  | .dict kvs, Q => (∃ ns : List Int, ns.length < 64 ∧ kvs.map (·.1) = ns.map PyData.int ∧ ∀ ms, ordI ns ms → Q (.t (.lst (ms.map PyData.int)))) ∨ ∃ xs : List Str, kvs.map (·.1) = xs.map PyData.str ∧ ∀ ys, ordS xs ys → Q (.t (.lst (ys.map PyData.str)))
  | _, _ => False
theorem sortedD_l (ds : List D) (Q : R → Prop) : sortedD (.list ds) Q = ((∃ ns : List Int, ds = ns.map PyData.int ∧ ∀ ms, ordI ns ms → Q (.t (.lst (ms.map PyData.int)))) ∨ ∃ xs : List Str, ds = xs.map PyData.str ∧ ∀ ys, ordS xs ys → Q (.t (.lst (ys.map PyData.str)))) := rfl
theorem sortedD_d (kvs : List (D × D)) (Q : R → Prop) : sortedD (.dict kvs) Q = ((∃ ns : List Int, ns.length < 64 ∧ kvs.map (·.1) = ns.map PyData.int ∧ ∀ ms, ordI ns ms → Q (.t (.lst (ms.map PyData.int)))) ∨ ∃ xs : List Str, kvs.map (·.1) = xs.map PyData.str ∧ ∀ ys, ordS xs ys → Q (.t (.lst (ys.map PyData.str)))) := rfl
theorem flK_keys {α : Type} {f : α → D} {xs : List α} {ds : List (D × D)} (hf : ∀ x, flatD (f x) = true) (e : ds.map (·.1) = xs.map f) : flK ds := fun p m => by
  have : p.1 ∈ xs.map f := e ▸ List.mem_map_of_mem (f := (·.1)) m
  obtain ⟨x, _, q⟩ := List.mem_map.mp this
  rw [← q]; exact hf x
theorem RepKV.keysS {K : K0} {B : Hp} : ∀ {kvs : List (Key × V)} {ds : List (D × D)} {xs : List Str}, RepKV K B kvs ds → ds.map (·.1) = xs.map PyData.str → kvs.map (·.1) = xs.map Sum.inr
  | _, _, [], .nil, _ => rfl
  | _, _, x :: xs, .cons (k := k) r t, e => by
    simp only [List.map_cons, List.cons.injEq] at e ⊢
    exact ⟨by cases k <;> simp [kD] at e ⊢; exact e.1, RepKV.keysS t e.2⟩
theorem RepKV.keysI {K : K0} {B : Hp} : ∀ {kvs : List (Key × V)} {ds : List (D × D)} {xs : List Int}, RepKV K B kvs ds → ds.map (·.1) = xs.map PyData.int → kvs.map (·.1) = xs.map Sum.inl
  | _, _, [], .nil, _ => rfl
  | _, _, x :: xs, .cons (k := k) r t, e => by
    simp only [List.map_cons, List.cons.injEq] at e ⊢
    exact ⟨by cases k <;> simp [kD] at e ⊢; exact e.1, RepKV.keysI t e.2⟩
section
variable {X : Cx}
theorem sortedAnyS : CallR X (.builtin "sorted") (fun vs H Q => ∃ (a : Addr) (xs : List Str), vs = [V.ref a] ∧ SqL X.K H a (xs.map V.str) ∧ ∀ (ys : List Str) (p : Addr), ys.Perm xs → sortedS ys = true → H p = none → Q (.ref p) (upd H p (.lst (ys.map V.str)))) := by
  intro pins s σ H vs us Q I r h
  obtain ⟨a, xs, rfl, hs, q⟩ := h
  obtain ⟨its, rv, hl, hz⟩ := I.list hs
  rw [Vals.ref1 r]
  have hlen0 := rv.length
  rw [List.length_map] at hlen0 hz
  refine PyProof.Rows.sorted_strsAny hl.isList rv.strs (by rw [← hlen0]; exact hz) fun out ys h1 h2 h3 => ?_
  obtain ⟨ep, he'⟩ := PyProof.Rows.sortedAll_at s.heap its out
  have hlen : (ys.map V.str).length ≤ sizeLine := by rw [List.length_map, h2.length_eq]; exact hz
  exact ⟨.ref _, upd H (s.heap.objs.size + 1) (.lst (ys.map V.str)), I.laid (t' := s.toks) (fun _ _ => PyProof.Rows.sortedAll_old) (Nat.le_succ _) ⟨hlen, out.toList, ep, vals_of_strs h1, he'⟩, rfl, q ys _ h2 h3 (I.hok.fresh (Nat.le_succ _))⟩
theorem sortedAnyD (hcalm : X.calm = true) : CallR X (.builtin "sorted") (fun xs H Q => ∃ (a : Addr) (kvs : List (Key × V)) (ks : List Str), xs = [.ref a] ∧ Rd H a (.dK kvs) ∧ kvs.map (·.1) = ks.map Sum.inr ∧
    ∀ ys p, ys.Perm ks → sortedS ys = true → H p = none → Q (.ref p) (upd H p (.lst (ys.map V.str)))) := by
  intro pins s σ H xs us Q I r q
  obtain ⟨a, kvs, ks, ex, hd, hks, q⟩ := q
  subst ex
  obtain ⟨u, eu, rx⟩ := vals1 r
  subst eu
  cases rx
  obtain ⟨z, lo, vs, rel, dd⟩ := dk_rd I.hok hd
  obtain ⟨ep, hat⟩ := dd.dictAt
  have hkeys : vs.map (·.1) = ks.map Sum.inr := rel.keys.symm.trans hks
  have hl : vs.length = ks.length := by
    have e := congrArg List.length hkeys
    rw [List.length_map, List.length_map] at e
    exact e
  have h16 : vs.length ≤ sizeLine := by rw [← rel.length]; exact z
  have h17 : ks.length ≤ sizeLine := by rw [← hl]; exact h16
  refine Calls.call_function_entry PyProof.Rows.kind_sorted PyProof.Rows.plain_sorted PyProof.Rows.entry_sorted (PyProof.Rows.args_sorted1 _) ?_
  unfold Builtin.«sorted»
  refine wpAny_bind (m := checkCount "sorted" 1 1 _) (wpAny_pure ?_)
  refine wpAny_bind (PySem.W.kdu_collect (A := X.A.in1) (PySem.W.kdl_dict (knd := mixKind X.prog X.w) (kvs := vs) (ep := ep) lo) (I.ok.hd hcalm) hat h16 fun h' tk acc hk hacc => ?_)
  have hal : acc.toList.length = ks.length := by rw [Array.length_toList, hacc.1, hl]
  have hS : StrsAre acc.toList ks := strs_at hal fun j v e => by
    obtain ⟨k, x, e1, e2⟩ := hacc.2 j v (by rw [← Array.getElem?_toList]; exact e)
    have e3 : (vs.map (·.1))[j]? = some k := by rw [List.getElem?_map, e1]; all_goals rfl
    rw [hkeys, List.getElem?_map] at e3
    cases e4 : ks[j]? with
    | none => rw [e4] at e3; cases e3
    | some y =>
      rw [e4] at e3
      have e5 : Sum.inr y = k := Option.some.inj e3
      subst e5
      obtain ⟨t, ev⟩ := Value.isStrOf_shape (x := y) (v := v) e2
      exact ⟨y, t, rfl, ev⟩
  have I1 : Inv X pins σ H { s with heap := h', toks := tk } := I.kept hk
  refine wpAny_bind (wpAny_newList ?_ (by rw [hal]; exact h17))
  have hoL : (h'.push (seqObj "list" acc.toList.toArray 0)).get? h'.objs.size = some (seqObj "list" acc.toList.toArray 0) := Heap.get?_push_size _ rfl
  show wpAny _ _ _ _ _ { s with heap := h'.push (seqObj "list" acc.toList.toArray 0), toks := tk }
  refine wpAny_bind (wpAny_holding (wpAny_call_entry PyProof.Rows.slot_list_sort ⟨_, hoL, rfl⟩ PyProof.Rows.entry_list_sort
    (list_sort_treeKAny strKind_oneLt (s := { s with heap := h'.push (seqObj "list" acc.toList.toArray 0), toks := tk }) hoL hS.keysOf (fun v₁ v₂ rest e => keyKind_strs (by rw [← e]; exact hS)) (by rw [hal]; exact h17) fun st' hp hs => ⟨_, rfl, ?_⟩)
    (PyProof.Rows.args_list_sort _)))
  obtain ⟨ys, g1, g2, g3⟩ := sorted_out_str hS hp hs
  obtain ⟨e', he'⟩ := PyProof.Rows.sortedHeap_at (vs := acc.toList) (out := (arrOf st').map (·.2)) hoL
  have hlen : (ys.map V.str).length ≤ sizeLine := by
    rw [List.length_map, g2.length_eq]
    exact h17
  refine wpAny_pure ⟨_, rfl, .ref h'.objs.size, upd H h'.objs.size (.lst (ys.map V.str)), I1.laid (t' := tk) (fun b u e => ?_) (Nat.le_refl _)
    (show ObjOk X.prog X.w _ _ _ (.lst (ys.map V.str)) from ⟨hlen, ((arrOf st').map (·.2)).toList, e', vals_of_strs g1, by rw [Array.toArray_toList]; exact he'⟩), rfl, q ys _ g2 g3 (I1.hok.fresh (Nat.le_refl _))⟩
  have hb : b < h'.objs.size := Heap.lt_size e
  rw [PyProof.Rows.sortedHeap_old (Nat.ne_of_lt hb) (by rw [size_push']; exact Nat.lt_succ_of_lt hb)]
  exact Heap.get?_push_of_some _ e
theorem cSorted (hc : X.calm = true) : CallR X (.builtin "sorted") (rB X.K (f1s sortedD)) := by
  intro pins s σ H xs us QV I rv ⟨B, fp, rs, Q, l, x, hf, hq⟩
  obtain ⟨a, e, sh, hg⟩ := f1s_inv hf
  clear hf
  subst e
  obtain ⟨v, e, hv⟩ := x.one_sh sh
  subst e
  generalize a.d = d at hv hg
  cases d <;> first | exact (show False from hg).elim | skip
  · obtain ⟨p, vs, e, s', t⟩ := hv.list l
    subst e
    rcases hg with ⟨ns, e, hg⟩ | ⟨ys, e, hg⟩
    · subst e
      rw [t.intsV] at s'
      exact cr_sortedI pins s σ H _ us QV I rv ⟨p, ns, rfl, s', fun ms p' h1 h2 np => hq _ _ B (.t _) (.make l np _) (t_lst l np .ints) (hg ms ⟨h1, h2⟩)⟩
    · subst e
      rw [t.strsV] at s'
      exact sortedAnyS pins s σ H _ us QV I rv ⟨p, ys, rfl, s', fun ms p' h1 h2 np => hq _ _ B (.t _) (.make l np _) (t_lst l np (.strs ms)) (hg ms ⟨h1, h2⟩)⟩
  · rename_i dkv
    have fl : flK dkv := by
      rcases hg with ⟨ns, _, e, _⟩ | ⟨ys, e, _⟩
      · exact flK_keys (fun _ => rfl) e
      · exact flK_keys (fun _ => rfl) e
    obtain ⟨p, kvs, e, s', t⟩ := hv.dict l fl
    subst e
    rcases hg with ⟨ns, h64, e, hg⟩ | ⟨ys, e, hg⟩
    · exact call_sortedDI hc pins s σ H _ us QV I rv ⟨p, kvs, ns, rfl, s', t.keysI e, h64, fun ms p' h1 h2 np => hq _ _ B (.t _) (.make l np _) (t_lst l np .ints) (hg ms ⟨h1, h2⟩)⟩
    · exact sortedAnyD hc pins s σ H _ us QV I rv ⟨p, kvs, ys, rfl, s', t.keysS e, fun ms p' h1 h2 np => hq _ _ B (.t _) (.make l np _) (t_lst l np (.strs ms)) (hg ms ⟨h1, h2⟩)⟩
/-! ### dict(pairs) -/
def pairD (p : Key × D) : D := .tuple [kD p.1, p.2]
def mergeD (acc : List (D × D)) (ps : List (Key × D)) : List (D × D) := ps.foldl (fun acc p => putD acc p.1 p.2) acc
def dictD : F1
  | .list ds, Q => ∃ ps : List (Key × D), ds = ps.map pairD ∧ Q (.t (.dic (mergeD [] ps)))
  | .tuple ds, Q => ∃ ps : List (Key × D), ds = ps.map pairD ∧ Q (.t (.dic (mergeD [] ps)))
  | .dict kvs, Q => flK kvs ∧ Q (.t (.dic kvs))
  | _, _ => False
theorem dictD_l (ds : List D) (Q : R → Prop) : dictD (.list ds) Q = ∃ ps : List (Key × D), ds = ps.map pairD ∧ Q (.t (.dic (mergeD [] ps))) := rfl
theorem dictD_t (ds : List D) (Q : R → Prop) : dictD (.tuple ds) Q = ∃ ps : List (Key × D), ds = ps.map pairD ∧ Q (.t (.dic (mergeD [] ps))) := rfl
theorem pairs_rep {K : K0} {B : Hp} : ∀ {ps : List (Key × D)} {vs : List V}, RepAll K B vs (ps.map pairD) → ∃ (as : List Addr) (kvs : List (Key × V)), vs = as.map V.ref ∧ Paired (fun p kv => SqT K B p [kV kv.1, kv.2]) as kvs ∧ Paired (fun (kv : Key × V) (p : Key × D) => kv.1 = p.1 ∧ Rep K B kv.2 p.2) kvs ps
  | [], _, .nil => ⟨[], [], rfl, .nil, .nil⟩
  | p :: ps, _, .cons r t => by
    obtain ⟨as, kvs, e, h1, h2⟩ := pairs_rep t
    obtain ⟨a, us, e2, s, t2⟩ := (show Rep K B _ (.tuple [kD p.1, p.2]) from r).tup_inv
    subst e e2
    cases t2 with
    | cons r1 t3 =>
      cases t3 with
      | cons r2 t4 =>
        cases t4
        rw [kV_rep r1] at s
        exact ⟨a :: as, (p.1, _) :: kvs, rfl, .cons s h1, .cons ⟨rfl, r2⟩ h2⟩
theorem merge_rep {K : K0} {B : Hp} : ∀ {kvs : List (Key × V)} {ps : List (Key × D)} {acc : List (Key × V)} {accD : List (D × D)}, Paired (fun (kv : Key × V) (p : Key × D) => kv.1 = p.1 ∧ Rep K B kv.2 p.2) kvs ps → RepKV K B acc accD → RepKV K B (mergeK acc kvs) (mergeD accD ps)
  | _, _, _, _, .nil, r => r
  | _, _, _, _, .cons (a := kv) (b := p) h t, r => by
    show RepKV K B (mergeK (putK _ kv.1 kv.2) _) (mergeD (putD _ p.1 p.2) _)
    rw [h.1]
    exact merge_rep t (r.put h.2)
theorem Paired.mono {α β : Type} {F F' : α → β → Prop} (h : ∀ a b, F a b → F' a b) {l : List α} {m : List β} (p : Paired F l m) : Paired F' l m := L2.Paired.mapP p h
theorem pairs_of2 {pins : List (Addr × Obj)} {σ : L2.St} {H : Hp} {s : Shared} (I : Inv X pins σ H s) : ∀ {ps : List Addr} {kvs : List (Key × V)}, Paired (fun p kv => SqT X.K H p [kV kv.1, kv.2]) ps kvs →
    ∃ (vps : List (Value × Value)) (prs : List (Key × Value)), KV kvs prs ∧ prs.length = ps.length ∧ vps.length = ps.length ∧ ∀ (j : Nat) (q : Key × Value), prs[j]? = some q → ∃ (b : Addr) (u : Value), ps[j]? = some b ∧ vps[j]? = some (u, q.2) ∧ IsTup s.heap b #[u, q.2] ∧ keyIs q.1 u = true
  | _, _, .nil => ⟨[], [], .nil, rfl, rfl, fun j q e => by simp at e⟩
  | _, _, .cons (a := p) (b := kv) h t => by
    obtain ⟨vps, prs, r, hl, hl2, hp⟩ := pairs_of2 I t
    obtain ⟨its, rv, ht, _⟩ := I.tuple h
    obtain ⟨u, y, ei, ru, ry⟩ := vals2 rv
    subst ei
    refine ⟨(u, y) :: vps, (kv.1, y) :: prs, .cons ⟨rfl, ry⟩ r, by rw [List.length_cons, List.length_cons, hl], by rw [List.length_cons, List.length_cons, hl2], fun j q e => ?_⟩
    cases j with
    | zero =>
      have e' : (kv.1, y) = q := Option.some.inj e
      subst e'
      exact ⟨p, u, rfl, rfl, ht, kV_is (P := X.prog) (w := X.w) ru⟩
    | succ j =>
      obtain ⟨b, u', e1, e2, e3, e4⟩ := hp j q (by simpa using e)
      exact ⟨b, u', by simpa using e1, by simpa using e2, e3, e4⟩
theorem call_dictPT (hcalm : X.calm = true) : CallR X (.type "dict") (fun xs H Q => ∃ (a : Addr) (ps : List Addr) (kvs : List (Key × V)), xs = [.ref a] ∧ SqT X.K H a (ps.map V.ref) ∧ Pln H a ∧ Paired (fun p kv => SqT X.K H p [kV kv.1, kv.2]) ps kvs ∧
    ∀ p, H p = none → Q (.ref p) (upd H p (.dK (mergeK [] kvs)))) := by
  intro pins s σ H xs us Q I r q
  obtain ⟨a, ps, kvs, ex, hq, ⟨o, u, ho, hd⟩, hp, q⟩ := q
  subst ex
  obtain ⟨u', eu, rx⟩ := vals1 r
  subst eu
  cases rx
  obtain ⟨its, rv, pl, hz⟩ := I.tuple hq
  have ei := refs_at rv
  subst ei
  rw [List.length_map] at hz
  obtain ⟨vps, prs, rel, hl, hl2, hpr⟩ := pairs_of2 I hp
  obtain ⟨o', e1, e2, n, e3⟩ := pl
  have hob : s.heap.get? a = some o := (I.hok a _ ho).1
  rw [hob] at e1
  cases e1
  have hk : ∀ j k v, vps[j]? = some (k, v) → ∃ b key, ps[j]? = some b ∧ prs[j]? = some (key, v) ∧ IsTup s.heap b #[k, v] ∧ keyIs key k = true := fun j k v e => by
    have hj : j < prs.length := by rw [hl, ← hl2]; exact (List.getElem?_eq_some_iff.mp e).1
    obtain ⟨b, u2, q1, q2, q3, q4⟩ := hpr j prs[j] (List.getElem?_eq_getElem hj)
    rw [e] at q2
    have q2' := Option.some.inj q2
    have qa : k = u2 := congrArg Prod.fst q2'
    have qb : v = prs[j].2 := congrArg Prod.snd q2'
    exact ⟨b, prs[j].1, q1, by rw [List.getElem?_eq_getElem hj, qb], by rw [qa, qb]; exact q3, by rw [qa]; exact q4⟩
  refine PySem.call_dict_pairs (knd := mixKind X.prog X.w) (kvs := prs) (PairArg.tuple a (ps.map Value.ref).toArray (fun j => (ps[j]?).getD 0) vps) (I.ok.hd hcalm) ⟨⟨o, n, hob, e2, hd, e3⟩, by simp [hl2], fun j k v e => ?_⟩ ⟨by rw [hl, hl2], fun j k v e => ?_⟩ (by rw [hl2]; exact hz) fun h' tk hd' k => ?_
  · obtain ⟨b, key, q1, q2, q3, q4⟩ := hk j k v e
    refine ⟨by simp [q1], .inl ?_⟩
    show s.heap.IsTuple ((ps[j]?).getD 0) _
    rw [q1]; exact q3
  · obtain ⟨b, key, q1, q2, q3, q4⟩ := hk j k v e
    exact ⟨key, q2, q4⟩
  · have hm : (s.heap.objs.size == sysModules) = false := beq_eq_false_iff_ne.mpr (Nat.ne_of_gt I.big)
    have hlen : (mergeK [] kvs).length ≤ sizeLine := by
      refine Nat.le_trans (length_mergeK kvs []) ?_
      rw [List.length_nil, Nat.zero_add, rel.length, hl]
      exact hz
    exact ⟨.ref s.heap.objs.size, upd H s.heap.objs.size (.dK (mergeK [] kvs)), I.laid (t' := tk) (fun b o e => k b o (by simp) e) (Nat.le_refl _) (show ObjOk X.prog X.w _ _ _ (.dK (mergeK [] kvs)) from ⟨hlen, hm, merged [] prs, KV.merge rel .nil, hd'⟩), rfl, q _ (I.hok.fresh (Nat.le_refl _))⟩
theorem pln_pairs {B : Hp} {a : Addr} {ps : List (Key × D)} (h : TupP B a (ps.map pairD)) : Pln B a := by
  rcases h with h | ⟨d, m, e⟩
  · exact h
  · obtain ⟨p, _, rfl⟩ := List.mem_map.mp m
    simp [pairD, flatD] at e
theorem cDict (hc : X.calm = true) : CallR X (.type "dict") (rB X.K (f1s dictD)) := by
  intro pins s σ H xs us QV I rv ⟨B, fp, rs, Q, l, x, hf, hq⟩
  obtain ⟨a, e, sh, hg⟩ := f1s_inv hf
  clear hf
  subst e
  obtain ⟨v, e, hv⟩ := x.one_sh sh
  subst e
  generalize a.d = d at hv hg
  have fin : ∀ {kvs : List (Key × V)} {ds : List (D × D)} {p : Addr}, RepKV X.K B kvs ds → H p = none → Q (.t (.dic ds)) → QV (.ref p) (upd H p (.dK kvs)) := fun {kvs ds p} t np q =>
    hq _ _ B (.t _) (.make l np _) ⟨[p], .dic upd_same t, by simp, fun a m => by simp at m; subst m; exact ⟨np, l.none np⟩⟩ q
  cases d <;> first | exact (show False from hg).elim | skip
  · obtain ⟨p, vs, e, s', t⟩ := hv.list l
    subst e
    obtain ⟨ps, e, q⟩ := hg
    subst e
    obtain ⟨as, kvs, e, h1, h2⟩ := pairs_rep t
    subst e
    exact call_dictP hc pins s σ H _ us QV I rv ⟨p, as, kvs, rfl, s', L2.Paired.mapP h1 fun _ _ h => l.sqT h, fun p' np => fin (merge_rep h2 .nil) np q⟩
  · have hr := hv.tupRep
    obtain ⟨p, vs, e, s', t⟩ := hv.tup l
    subst e
    obtain ⟨ps, e, q⟩ := hg
    subst e
    obtain ⟨as, kvs, e, h1, h2⟩ := pairs_rep t
    subst e
    exact call_dictPT hc pins s σ H _ us QV I rv ⟨p, as, kvs, rfl, s', (pln_pairs hr.tup_p).mono l, L2.Paired.mapP h1 fun _ _ h => l.sqT h, fun p' np => fin (merge_rep h2 .nil) np q⟩
  · obtain ⟨fl, hg⟩ := hg
    obtain ⟨p, kvs, e, s', t⟩ := hv.dict l fl
    subst e
    exact call_dictD pins s σ H _ us QV I rv ⟨p, kvs, rfl, s', fun p' np => fin t np hg⟩
/-! ### divmod -/
def divmodD : Op2
  | .int i, .int j, Q => CDivP i j ∧ Q (.v (.tuple [.int (i / j), .int (i % j)]))
  | _, _, _ => False
theorem divmodD_i (i j : Int) (Q : R → Prop) : divmodD (.int i) (.int j) Q = (CDivP i j ∧ Q (.v (.tuple [.int (i / j), .int (i % j)]))) := rfl
theorem cDivmod : CallR X (.builtin "divmod") (rB X.K (f2 divmodD)) := by
  intro pins s σ H xs us QV I rv ⟨B, fp, rs, Q, l, x, hf, hq⟩
  obtain ⟨a, b, e, hg⟩ := f2_inv hf
  clear hf
  subst e
  obtain ⟨v, u, e, hv, hu⟩ := x.two l
  subst e
  generalize a.d = d1 at hv hg
  generalize b.d = d2 at hu hg
  have key : ∃ i j, d1 = .int i ∧ d2 = .int j ∧ CDivP i j ∧ Q (.v (.tuple [.int (i / j), .int (i % j)])) := by
    cases d1 with
    | int i => cases d2 with
      | int j => exact ⟨i, j, rfl, rfl, hg⟩
      | _ => exact False.elim hg
    | _ => exact False.elim hg
  obtain ⟨i, j, e1, e2, hf⟩ := key
  subst e1 e2
  have e1 := hv.int_inv
  have e2 := hu.int_inv
  subst e1 e2
  exact call_divmodP pins s σ H _ us QV I rv ⟨_, _, rfl, hf.1, fun p o np ho => hq _ _ _ (.v _) (.put l np _) (newT_rep l np ho (.cons (.int _) (.cons (.int _) .nil))) hf.2⟩
end
/-! ### written dicts -/
abbrev WPs := Env → (List (R × R) → Prop) → (Str → Prop) → Prop
inductive PAll (K : K0) (B : Hp) : List (V × V) → List (R × R) → Prop
  | nil : PAll K B [] []
  | cons {x y : V} {r q : R} {ps : List (V × V)} {rs : List (R × R)} : Rep K B x r.d → Rep K B y q.d → PAll K B ps rs → PAll K B ((x, y) :: ps) ((r, q) :: rs)
theorem PAll.mono {K : K0} {B B' : Hp} (l : Le B B') : ∀ {ps : List (V × V)} {rs : List (R × R)}, PAll K B ps rs → PAll K B' ps rs
  | _, _, .nil => .nil
  | _, _, .cons a b t => .cons (a.mono l) (b.mono l) (PAll.mono l t)
def tDPs (X : Cx) (W : WX) (G : Hp) (m : WPs) (σ : L2.St) (H : Hp) (QV : List (V × V) → Hp → Prop) : Prop := ∃ B env fp Q E, RR X.K G B env fp σ H ∧ m env Q E ∧ (∀ ps H' B' rs, Ext H B H' B' → PAll X.K B' ps rs → Q rs → QV ps H') ∧ XOk X.mg W H σ E
def DPs (X : Cx) (W : WX) (G : Hp) (pos : Pos) (ks : List (Option Expr)) (vs : List Expr) (m : WPs) : Prop := ∃ trs, PPs X pos ks vs trs ∧ ∀ σ H QV, tDPs X W G m σ H QV → tPairs trs σ H QV
def wpN : WPs := fun _ Q _ => Q []
def wpC (a b : WE) (m : WPs) : WPs := fun env Q E => a env (fun x => x.st ∧ b env (fun y => y.st ∧ m env (fun rs => Q ((x, y) :: rs)) E) E) E
def wDic (m : WPs) : WE := fun env Q E => m env (fun rs => ∃ ps : List (Key × D), rs.map (fun p => (p.1.d, p.2.d)) = ps.map (fun p => (kD p.1, p.2)) ∧ ps.length ≤ 15 ∧ Q (.t (.dic (mergeD [] ps)))) E
section
variable {X : Cx} {W : WX} {G : Hp} {pos : Pos} {k v : Expr} {ks : List (Option Expr)} {vs : List Expr} {a b : WE} {m : WPs}
theorem dps_nil : DPs X W G pos [] [] wpN := ⟨_, pps_nil, fun σ H QV ⟨B, env, fp, Q, E, rr, hm, hq, hx⟩ => hq [] H B [] (.refl rr.bh) .nil hm⟩
theorem dps_cons (ha : DE X W G k a) (hb : DE X W G v b) (hr : DPs X W G pos ks vs m) : DPs X W G pos (some k :: ks) (v :: vs) (wpC a b m) := by
  obtain ⟨trs, h1, h2⟩ := hr
  refine ⟨_, pps_cons ha hb h1, fun σ H QV ⟨B, env, fp, Q, E, rr, hm, hq, hx⟩ => ?_⟩
  refine ⟨B, env, fp, _, E, rr, hm, fun x H1 B1 r e1 w1 ⟨s1, q1⟩ => ?_, hx⟩
  obtain ⟨B2, e2, l2, r2⟩ := w1.keep e1 s1
  refine ⟨B2, env, fp, _, E, rr.ext e2, q1, fun y H3 B3 q e3 w3 ⟨s3, q3⟩ => ?_, hx.later e1.same⟩
  obtain ⟨B4, e4, l4, r4⟩ := w3.keep e3 s3
  refine h2 _ _ _ ⟨B4, env, fp, _, E, (rr.ext e2).ext e4, q3, fun ps H5 B5 rs e5 p5 q5 => ?_, hx.later (e1.same.trans e4.same)⟩
  exact hq _ H5 B5 _ ((e2.trans e4).trans e5) (.cons (r2.mono (e4.le.trans e5.le)) (r4.mono e5.le) p5) q5
theorem pall_kvs {K : K0} {B : Hp} : ∀ {vs : List (V × V)} {rs : List (R × R)} {ps : List (Key × D)}, PAll K B vs rs → rs.map (fun p => (p.1.d, p.2.d)) = ps.map (fun p => (kD p.1, p.2)) →
    ∃ kvs : List (Key × V), vs = kvs.map (fun kv => (kV kv.1, kv.2)) ∧ kvs.length = ps.length ∧ Paired (fun (kv : Key × V) (p : Key × D) => kv.1 = p.1 ∧ Rep K B kv.2 p.2) kvs ps
  | _, _, [], .nil, _ => ⟨[], rfl, rfl, .nil⟩
  | _, _, p :: ps, .cons (x := x) (y := y) h1 h2 t, e => by
    simp only [List.map_cons, List.cons.injEq, Prod.mk.injEq] at e
    obtain ⟨kvs, e1, e2, e3⟩ := pall_kvs t e.2
    rw [e.1.1] at h1
    rw [e.1.2] at h2
    exact ⟨(p.1, y) :: kvs, by rw [List.map_cons, ← e1, kV_rep h1], by simp [e2], .cons ⟨rfl, h2⟩ e3⟩
theorem de_dic (h : DPs X W G pos (some k :: ks) (v :: vs) m) (hall : (some k :: ks).all (·.isSome) = true := by rfl) (hl : (some k :: ks).length = (v :: vs).length := by rfl) (h15 : (some k :: ks).length ≤ 15 := by decide) : DE X W G (.Dict (some k :: ks) (v :: vs) pos) (wDic m) := by
  obtain ⟨trs, h1, h2⟩ := h
  refine PEi (pe_disp h1 hall hl (fun z => by cases z) h15) fun σ H QV ⟨B, env, fp, Q, E, rr, hm, hq, hx⟩ p np => ?_
  have e0 : Ext H B (upd H p (.dK [])) B := .make rr.bh np _
  refine h2 _ _ _ ⟨B, env, fp, _, E, rr.ext e0, hm, fun ws H1 B1 rs e1 pa ⟨ps, ep, hz, q⟩ => ?_, hx.later e0.same⟩
  obtain ⟨kvs, e2, e3, e4⟩ := pall_kvs pa ep
  have hp1 := e1.same _ _ (show upd H p (.dK []) p = some (.dK []) from upd_same)
  have nb : B1 p = none := e1.new p _ upd_same (rr.bh.none np)
  refine ⟨hp1, kvs, e2, by omega, ?_⟩
  refine hq _ _ B1 (.t _) ⟨fun a o q => ?_, e1.le, fun a o q => ?_, fun a o q n => e1.new a o (upd_keep q (ne_of_none q np)) n⟩ ⟨[p], .dic upd_same (merge_rep e4 .nil), by simp, fun a m => by simp at m; subst m; exact ⟨np, nb⟩⟩ q
  · rw [upd_ne (ne_of_none q np)]; exact e1.same _ _ (upd_keep q (ne_of_none q np))
  · have : a ≠ p := fun z => by subst z; rw [nb] at q; cases q
    rw [upd_ne this]; exact e1.bh _ _ q
end
end DL

set_option Elab.async false
set_option linter.all false
set_option maxRecDepth 100000
set_option maxHeartbeats 1000000
/-! DL21: lists and texts turned about. -/
namespace DL
open PySem L2 PyProof.Rows
def revS (z : Str) : Str := ⟨z.cps.toList.reverse.toArray⟩
theorem revS_tS (l : List Nat) : revS (tS l) = tS l.reverse := by unfold revS; rw [tS_cps]; rfl
theorem filterMap_rev (c : List Nat) : ((List.range c.length).map fun k => c.length - 1 - k).filterMap (c.toArray[·]?) = c.reverse := by
  apply List.ext_getElem?
  intro i
  have e : ((List.range c.length).map fun k => c.length - 1 - k).filterMap (c.toArray[·]?) = (List.range c.length).map fun k => c.getD (c.length - 1 - k) 0 := by
    rw [filterMap_get c.toArray _ (by intro i hi; obtain ⟨k, hk, rfl⟩ := List.mem_map.mp hi; have := List.mem_range.mp hk; simp; omega), List.map_map]
    apply List.map_congr_left
    intro k _
    by_cases h : c.length - 1 - k < c.length <;> simp [Array.getD, List.getD, h]
  rw [e]
  by_cases h : i < c.length
  · rw [List.getElem?_map, List.getElem?_range h, List.getElem?_reverse h]
    simp [List.getD, show c.length - 1 - i < c.length by omega]
  · rw [List.getElem?_eq_none (by simp; omega), List.getElem?_eq_none (by simp; omega)]
theorem sliceMade_rev (z : Str) (t u : Tok) (hz : z.length ≤ sizeLine) {pins : List (Addr × Obj)} {X : Cx} {σ : L2.St} {H : Hp} {s : Shared} {Q : VK} (I : Inv X pins σ H s) (q : Q (.str (revS z)) H) :
    (sliceMade z t none none (some ((-1 : Int), u))).post (EP X pins σ Q) s := by
  have e : (Builtin.Str.strSliceIndices none none (-1) z.length).filterMap (z.cps[·]?) = z.cps.toList.reverse := by
    obtain ⟨⟨l⟩⟩ := z
    rw [picked_rev]
    exact filterMap_rev l
  show Made.post (if ((-1 : Int) == 1 && (Builtin.Str.strSliceIndices none none (-1) z.length).length == z.length) = true then Made.val (.str z t)
    else Made.str ⟨((Builtin.Str.strSliceIndices none none (-1) z.length).filterMap (z.cps[·]?)).toArray⟩) (EP X pins σ Q) s
  rw [if_neg (by simp), e]
  exact ⟨by show Array.size _ ≤ _; simp; exact hz, .str _, H, I.tok _, ⟨_, rfl⟩, q⟩
theorem cut_map {α β : Type} (f : α → β) (xs : List α) (lo hi : Option Int) : cut (xs.map f) lo hi = (cut xs lo hi).map f := by
  unfold cut
  rw [List.length_map, List.map_take, List.map_drop]
theorem cut_len {α : Type} (xs : List α) (lo hi : Option Int) : (cut xs lo hi).length ≤ xs.length := by
  unfold cut
  rw [List.length_take, List.length_drop]; omega
section
variable {X : Cx} {W : WX} {G : Hp} {e : Expr} {m : WE}
def tRevA (K : PySem.W.Frag) (te : TE) : TE := fun σ H Q => te σ H fun x H1 => (∃ a xs, x = .ref a ∧ SqL K H1 a xs ∧ ∀ p, H1 p = none → Q (.ref p) (upd H1 p (.lst xs.reverse))) ∨ ∃ z, x = .str z ∧ z.length ≤ sizeLine ∧ Q (.str (revS z)) H1
theorem pe_revA {te : TE} {k : Nat} {p1 p2 p3 pos : Pos} (he : PE X e te) : PE X (.Subscript e (.Slice none none (some (.UnaryOp .USub (.Constant (.int 1) k p1) p2)) p3) pos) (tRevA X.K te) := by
  refine ⟨fun pins s σ H Q I h => ?_⟩
  refine Subscript_ (thn (he.run pins s σ H _ I h) fun v s1 ⟨x, H1, I1, r1, q1⟩ => ?_)
  have hst : PO X (some (.UnaryOp .USub (.Constant (.int 1) k p1) p2)) (tPart (tUn (rU fun i => .int (-i)) (tC (.int 1)))) := po_some (pe_un un_neg pe_int)
  refine wpAny_Slice (thn (po_none.run pins s1 σ H1 (fun o H2 => o = none ∧ H2 = H1) I1 ⟨rfl, rfl⟩) fun vl s2 ⟨l, H2, I2, pl, el, e2⟩ => ?_)
  subst el e2
  refine thn (po_none.run pins s2 σ H2 (fun o H3 => o = none ∧ H3 = H2) I2 ⟨rfl, rfl⟩) fun vu s3 ⟨u, H3, I3, pu, eu, e3⟩ => ?_
  subst eu e3
  refine thn (hst.run pins s3 σ H3 (fun o H4 => o = some (-1) ∧ H4 = H3) I3 ⟨1, rfl, -1, rfl, rfl, rfl⟩) fun vs s4 ⟨o, H4, I4, ps, eo, e4⟩ => ?_
  subst eo e4
  have I5 : Inv X pins σ H4 { s4 with heap := s4.heap.push { cls := .type "slice", data := .fields #[vl, vu, vs] } } := I4.kept (t' := s4.toks) fun b ob q => Heap.get?_push_of_some _ q
  rcases q1 with ⟨a, xs, ex, hx, q⟩ | ⟨z, ex, hz, q⟩
  · subst ex
    cases r1
    obtain ⟨its, r, ht, hz⟩ := I5.list hx
    have hlen := r.length
    show wpAny (model X.prog X.w) X.A (subscriptTail e (.Slice none none (some (.UnaryOp .USub (.Constant (.int 1) k p1) p2)) p3) (.ref a) (.ref s4.heap.objs.size)) (EP X pins σ Q) X.xe { s4 with heap := s4.heap.push { cls := .type "slice", data := .fields #[vl, vu, vs] } }
    refine tail_any (ops := [.ref a, .ref s4.heap.objs.size]) ht.isList.typeIs (PySem.slot_list_getitem.lookup) ?_ (by with_unfolding_all rfl)
    refine wpAny_getItem_list_slice ht.isList (Heap.IsSliceOf.new _ vl vu vs) pl pu ps (by decide) ?_ (by rw [List.size_toArray]; omega)
    rw [PySem.W.krv_pick]
    refine ⟨.ref _, _, I5.laid (t' := s4.toks) (o := .lst xs.reverse) (fun b ob q => Heap.get?_push_of_some _ q) (Nat.le_refl _) ?_, rfl, q _ (I5.hok.fresh (Nat.le_refl _))⟩
    exact ⟨by rw [List.length_reverse]; exact hz, _, 0, r.reverse, Heap.get?_push_size _ rfl⟩
  · subst ex
    obtain ⟨t, rfl⟩ := r1
    obtain ⟨l, rfl, el⟩ := IsPart.raw pl
    obtain ⟨u, rfl, eu⟩ := IsPart.raw pu
    obtain ⟨st, rfl, es⟩ := IsPart.raw ps
    cases l with
    | some _ => simp at el
    | none =>
    cases u with
    | some _ => simp at eu
    | none =>
    cases st with
    | none => simp at es
    | some st =>
    obtain ⟨j, tj⟩ := st
    simp at es
    subst es
    show wpAny (model X.prog X.w) X.A (subscriptTail e (.Slice none none (some (.UnaryOp .USub (.Constant (.int 1) k p1) p2)) p3) (.str z t) (.ref s4.heap.objs.size)) (EP X pins σ Q) X.xe _
    refine tail_any (ops := [.str z t, .ref s4.heap.objs.size]) (typeIs_str _ _ _) (F.slot_str_getitem.lookup) ?_ (by with_unfolding_all rfl)
    obtain ⟨os, hos, hcs, hds⟩ := Heap.IsSliceOf.new s4.heap (partValue none) (partValue none) (partValue (some (-1, tj)))
    exact wpAny_getItem_str_slice (l := none) (u := none) (st := some (-1, tj)) ⟨os, hos, hcs, hds⟩ rfl (sliceMade_rev z t tj hz I5 q)
/-- x[::-1], x a list or a text -/
def revD : D → (R → Prop) → Prop
  | .list ds, Q => Q (.t (.lst ds.reverse))
  | .str z, Q => z.length ≤ sizeLine ∧ Q (.v (.str (revS z)))
  | _, _ => False
theorem revD_l (ds : List D) (Q : R → Prop) : revD (.list ds) Q = Q (.t (.lst ds.reverse)) := rfl
theorem revD_s (z : Str) (Q : R → Prop) : revD (.str z) Q = (z.length ≤ sizeLine ∧ Q (.v (.str (revS z)))) := rfl
def wRevA (t : WE) : WE := fun env Q E => t env (fun x => x.sh ∧ revD x.d Q) E
theorem de_revA {k : Nat} {p1 p2 p3 pos : Pos} (he : DE X W G e m) : DE X W G (.Subscript e (.Slice none none (some (.UnaryOp .USub (.Constant (.int 1) k p1) p2)) p3) pos) (wRevA m) := by
  refine PEi (pe_revA he) fun σ H QV ⟨B, env, fp, Q, E, rr, hm, hq, hx⟩ => ?_
  refine ⟨B, env, fp, _, E, rr, hm, fun v1 H1 B1 r1 e1 o1 ⟨s1, hf⟩ => ?_, hx⟩
  obtain ⟨B2, e2, l2, rv1⟩ := o1.view e1 s1
  generalize r1.d = d at rv1 hf
  cases d with
  | list ds =>
    obtain ⟨a, vs, ev, s, t⟩ := rv1.list e2.bh
    exact .inl ⟨a, vs, ev, s, fun p np => hq _ _ B2 (.t _) (e2.trans (.make e2.bh np _)) (VOk.back e2 (t_lst e2.bh np t.reverse)) hf⟩
  | str z => exact .inr ⟨z, rv1.str, hf.1, hq _ H1 B2 (.v _) e2 (.str _) hf.2⟩
  | _ => exact False.elim hf
end
end DL

set_option Elab.async false
set_option linter.all false
set_option maxRecDepth 100000
set_option maxHeartbeats 1000000
/-! DLX: comprehensions whose items may raise. -/
namespace DL
open PySem L2 PyProof.Rows
theorem noteFrame_of {e : Value} {env env' : PySem.Env} (h : env.frame = env'.frame) : noteFrame e env = noteFrame e env' := by
  unfold PySem.noteFrame PySem.frameOf
  rw [h]
section
variable {M : Model} {A : Around} {E : Value → Shared → Prop} {s : Shared} {env : PySem.Env}
/-- behind a comprehension's block -/
def compPostE (M : Model) (A : Around) (E : Value → Shared → Prop) (use : Option (Value → Sem Unit)) (Q : Value → Shared → Prop) (acc : Value) (cenv : PySem.Env) (r : Result) (s' : Shared) : Prop :=
  match r, use with
  | .ok _, none => ∃ m, s'.heap.Ns cenv.locals m ∧ ∀ h', Heap.SameBut cenv.locals s'.heap h' → Q acc { s' with heap := h' }
  | .ok _, some u => wpAny M A (u acc) (fun _ s'' => ∃ m, s''.heap.Ns cenv.locals m ∧ ∀ h', Heap.SameBut cenv.locals s''.heap h' → Q .none { s'' with heap := h' }) E s'
  | .error x, _ => ∃ m, s'.heap.Ns cenv.locals m ∧ ∀ h', Heap.SameBut cenv.locals s'.heap h' → ∀ env' : PySem.Env, env'.locals = cenv.locals → env'.frame = cenv.frame → wpAny M A (PySem.passOn "comprehension.variables-let-go" x env' : Sem Value) (fun _ _ => False) E { s' with heap := h' }
theorem comprehension_freeE {e : Expr} {scope : Scope} {pos : Pos} {newAcc first : Sem Value} {g : Comprehension} {gs : List Comprehension} {cl : List (Str × Addr)} {use : Option (Value → Sem Unit)} {Q : Value → Shared → Prop}
    (hcl : clausesOf e = g :: gs) (hs : ∀ x, foldedSetIterable g.iter env x = pure x) (hclos : closureFor scope env = pure cl)
    (hkind : scope.kind = .function) (hnames : ∀ x ∈ scope.names, x.2 = .local → scope.names.lookup x.1 = some .local)
    (h : wpAny M A first (fun x s₁ => wpAny M A (pyIter x) (fun it s₂ => wpAny M A newAcc (fun acc s₃ =>
      wpAny M A (newFunctionEnv scope env.globals cl [] env.qual none .none (some env)) (fun cenv s₄ =>
        codeAny M A (.compStart e 0 it acc { cenv with scope := relabel scope env }) (compPostE M A E use Q acc cenv) s₄) E s₃) E s₂) E s₁) E s) :
    wpAny M A (comprehension e scope env pos newAcc false first use) Q E s := by
  unfold comprehension
  rw [hclos, hcl]
  refine wpAny_bind (wpAny_mono h (fun x s₁ h₁ => wpAny_bind (wpAny_standAt (wpAny_bind (wpAny_of_eq (hs x) (wpAny_bind (wpAny_holding (wpAny_mono h₁ (fun it s₂ h₂ =>
    wpAny_standIf (wpAny_bind (wpAny_mono h₂ (fun acc s₃ h₃ => wpAny_bind (wpAny_pure (wpAny_bind (wpAny_mono h₃ (fun cenv s₄ h₄ => ?_) fun _ _ h' => h')))) fun _ _ h' => h')))
      fun _ _ h' => h'))))))) fun _ _ h' => h')
  dsimp only
  have hv : ∀ x ∈ (scope.names.filter fun x => (x.2 == .local || x.2 == .cell) && x.1 != (".0" : Str)).reverse, x.2 = .local →
      Env.kindOf { cenv with scope := relabel scope env } x.1 = some .local := fun x hx hl => lookup_relabel_local (hnames x (List.mem_filter.mp (List.mem_reverse.mp hx)).1 hl)
  have hv' : ∀ x ∈ (scope.names.filter fun x => (x.2 == .local || x.2 == .cell) && x.1 != (".0" : Str)).reverse.drop 1 ++ (scope.names.filter fun x => (x.2 == .local || x.2 == .cell) && x.1 != (".0" : Str)).reverse.take 1,
      x.2 = .local → Env.kindOf { cenv with scope := relabel scope env } x.1 = some .local := fun x hx hl => by
    rcases List.mem_append.mp hx with h1 | h1
    · exact hv x (List.mem_of_mem_drop h1) hl
    · exact hv x (List.mem_of_mem_take h1) hl
  refine wpAny_holding (wpAny_bind (wpAny_attempt (wpAny_holding (wpAny_run (codeAny_mono h₄ fun r s' hr => ?_)))))
  cases r with
  | ok f =>
    cases use with
    | none =>
      obtain ⟨m, hn, hr⟩ := hr
      exact wpAny_bind (wpAny_holding (wpAny_comp_letGo (cenv := { cenv with scope := relabel scope env }) hkind _ s' m hv hn fun h' m' _ hs' => wpAny_pure (hr h' hs')))
    | some u =>
      refine wpAny_bind (wpAny_rule (wpAny_bind (wpAny_holding (wpAny_mono hr (fun _ s'' hr' => ?_) fun _ _ h' => h'))))
      obtain ⟨m, hn, hr'⟩ := hr'
      exact wpAny_bind (wpAny_comp_letGo (cenv := { cenv with scope := relabel scope env }) hkind _ s'' m hv' hn fun h' m' _ hs' => wpAny_pure (hr' h' hs'))
  | error x =>
    have hr' : ∃ m, s'.heap.Ns cenv.locals m ∧ ∀ h', Heap.SameBut cenv.locals s'.heap h' → ∀ env' : PySem.Env, env'.locals = cenv.locals → env'.frame = cenv.frame → wpAny M A (PySem.passOn "comprehension.variables-let-go" x env' : Sem Value) (fun _ _ => False) E { s' with heap := h' } := by cases use <;> exact hr
    obtain ⟨m, hn, hr⟩ := hr'
    exact wpAny_bind (wpAny_holding (wpAny_comp_letGo (cenv := { cenv with scope := relabel scope env }) hkind _ s' m hv hn fun h' m' _ hs' => wpAny_mono (hr h' hs' _ rfl rfl) (fun _ _ f => f.elim) fun _ _ y => y))
end
theorem funFrames_move {base base' h h' : Heap} : ∀ {l : List PySem.Env}, h.FunFrames base l → (∀ L ∈ frs l, base.get? L = none → base'.get? L = none ∧ h'.get? L = h.get? L) → h'.FunFrames base' l
  | [], _, _ => trivial
  | env :: l, ⟨hk, ⟨L, o, hf, hb, ho, hd⟩, hr⟩, q => by
    obtain ⟨q1, q2⟩ := q L (List.mem_filterMap.mpr ⟨env, List.mem_cons_self, hf⟩) hb
    exact ⟨hk, ⟨L, o, hf, q1, q2.trans ho, hd⟩, funFrames_move hr fun b hb => by
      obtain ⟨e, he, z⟩ := List.mem_filterMap.mp hb
      exact q b (List.mem_filterMap.mpr ⟨e, List.mem_cons_of_mem _ he, z⟩)⟩
theorem frames_none {base h : Heap} : ∀ {l : List PySem.Env}, h.FunFrames base l → ∀ L ∈ frs l, base.get? L = none ∧ ∃ o, h.get? L = some o
  | [], _, L, m => by simp [frs] at m
  | env :: l, ⟨hk, ⟨L', o, hf, hb, ho, hd⟩, hr⟩, L, m => by
    unfold frs at m
    rw [List.filterMap_cons, hf] at m
    rcases List.mem_cons.mp m with e | m
    · subst e; exact ⟨hb, o, ho⟩
    · exact frames_none hr L m
/-- .. as it is told, with the exception in flight -/
theorem of_call2 {X : Cx} {pins : List (Addr × Obj)} {σ : L2.St} {H : Hp} {s s' : Shared} {E : XK} (I : Inv X pins σ H s) {u : Value} (c : L2.CX X.prog X.w X.stack H s E u s') :
    ∃ (a : Addr) (B : Heap) (sI : Shared) (H' : Hp) (cls : Value) (d : Option Addr), u = .ref a ∧ Inv X pins σ H' sI ∧ (∀ b o, sI.heap.get? b = some o → b ∉ frs X.stack → B.get? b = some o) ∧ sI.heap.UpToSlots s'.heap ∧ HandSPX.FlyingZ B X.stack a (Zc cls d) s'.heap ∧ H' a = none ∧ s'.os = sI.os ∧ AllBare s'.gens ∧ E cls d H' := by
  obtain ⟨a, B, H', cls, d, rfl, fl, hok, ub, na, os, ag, hE⟩ := c
  obtain ⟨G, g1, g2⟩ := restrict s'.heap fun b => (B.get? b).isSome || decide (b ∈ frs X.stack)
  have st : B.StaysIn s'.heap := fl.1
  have gB : ∀ b o, B.get? b = some o → G.get? b = some o := fun b o e => by
    rw [g1 b (by simp [e])]
    exact st b o e
  have gF : ∀ b, b ∈ frs X.stack → G.get? b = s'.heap.get? b := fun b hb => g1 b (by simp [hb])
  have og : ∀ b o, G.get? b = some o → s'.heap.get? b = some o ∧ ((B.get? b).isSome = true ∨ b ∈ frs X.stack) := fun b o e => by
    cases q : ((B.get? b).isSome || decide (b ∈ frs X.stack)) with
    | false => rw [g2 b q] at e; cases e
    | true =>
      rw [g1 b q] at e
      exact ⟨e, by simpa [Bool.or_eq_true] using q⟩
  refine ⟨a, B, { s with heap := G, gens := s'.gens, drawn := s'.drawn, toks := s'.toks }, H', cls, d, rfl, ?_, fun b o e hb => ?_, Heap.UpToSlots.of_keeps fun b o e => (og b o e).1, fl, na, os, ag, hE⟩
  · refine I.call (ch := []) ⟨fun b o e n hb _ => gB b o (ub.keep b o e n hb), fun b o e n hb _ => ?_, fun b o e n _ => ub.free b o e n, fun b o e _ => ?_, ub.tups, ub.frzs, ub.tbls⟩ (hok.kept gB) ag (fun _ z => nomatch z)
    · obtain ⟨sl, q⟩ := ub.slot b o e hb
      exact ⟨sl, by rw [gF b hb]; exact q⟩
    · by_cases hb : b ∈ frs X.stack
      · obtain ⟨sl, q⟩ := ub.slot b o e hb
        exact ⟨_, by rw [gF b hb]; exact q⟩
      · obtain ⟨o', q⟩ := ub.there b o e hb
        exact ⟨o', gB b o' q⟩
  · obtain ⟨e', h⟩ := og b o e
    rcases h with h | h
    · obtain ⟨o', q⟩ := Option.isSome_iff_exists.mp h
      have z := st b o' q
      rw [e'] at z; cases z
      exact q
    · exact absurd h hb
section
variable {X : Cx} {W : WX}
/-- the block's context, with a wish about what is raised -/
abbrev BkE (X : Cx) (scope : Scope) (s : Shared) (H : Hp) (cenv : PySem.Env) (fp : List Addr) (xe : Value → Shared → Prop) : Cx := (X.blk s H scope cenv fp).tr [] xe
/-- an item's exception leaves the block -/
theorem comp_exc {pins : List (Addr × Obj)} {σ : L2.St} {H3 : Hp} {s3 : Shared} {use : Option (Value → Sem Unit)} {Qf : Value → Shared → Prop} {acc : Value} {scope : Scope} {ce ce2 : PySem.Env} {fp : List Addr} {xe : Value → Shared → Prop}
    (hs : X.stack = X.env :: X.outer) (hf : X.env.frame = some X.env.locals) (tk : Takes X W) (I3 : Inv X pins σ H3 s3) (f3 : ∀ b ∈ fp, FpOk X pins H3 b) (ceL : ce.locals = s3.heap.objs.size) (ceF : ce.frame = X.env.frame) (e2L : ce2.locals = ce.locals) (e2F : ce2.frame = ce.frame)
    {pins' : List (Addr × Obj)} {σ' : L2.St} {Hc : Hp} {sc : Shared} {u : Value} {s' : Shared} {E : XK} (I : Inv (BkE X scope s3 H3 ce fp xe) pins' σ' Hc sc) (c : L2.CX X.prog X.w X.stack Hc sc E u s') (hW : ∀ cls d H', E cls d H' → W cls d σ H') :
    notedBy (model X.prog X.w) X.A ce (fun e s' => compPostE (model X.prog X.w) X.A X.xe use Qf acc ce2 (.error e) s') u s' := by
  obtain ⟨a, B, sI, H', cls, d, rfl, I2, nb, up, fl, na, os, ag, w⟩ := of_call2 (X := BkE X scope s3 H3 ce fp xe) I c
  have nb : ∀ b o, sI.heap.get? b = some o → b ∉ frs X.stack → B.get? b = some o := nb
  have fl : HandSPX.FlyingZ B X.stack a (Zc cls d) s'.heap := fl
  have hfr : X.A.frames = some (X.env :: X.outer) := by rw [I3.ok.frames, hs]
  -- back in the def's context
  have IX : Inv X pins σ H' sI := I3.call' (ch := fp) I2.os I2.base I2.hok I2.bare fun b hb => ⟨(f3 b hb).2.2.2.1, (f3 b hb).2.1, (f3 b hb).2.2.2.2.1, (f3 b hb).2.2.2.2.2⟩
  obtain ⟨m, hn, _⟩ := I2.loc
  have hn : sI.heap.Ns ce.locals m := hn
  have nC : H' ce.locals = none := I2.free
  have fC : FpOk X pins H' ce.locals := by rw [ceL] at nC ⊢; exact I3.fpOk (Nat.le_refl _) nC
  obtain ⟨oC, esC, epC, hoC, rC⟩ := hn
  have cf : ce.locals ∉ frs X.stack := fun hm => by
    obtain ⟨_, o, e, _⟩ := I3.stack.mem hm
    have := Heap.lt_size e
    rw [ceL] at this
    exact Nat.lt_irrefl _ this
  have bC : B.get? ce.locals = some oC := nb _ _ hoC cf
  show wpAny _ X.A (noteFrame (.ref a) ce) _ _ s'
  rw [noteFrame_of ceF]
  rw [hs] at fl
  refine HandSPX.looks_onZ Zc.steady hfr hf fl fun h1 hh1 up1 => ?_
  rw [← hs] at hh1
  obtain ⟨k1, k2, k3, k4⟩ := hh1
  refine ⟨m, ⟨oC, esC, epC, by rw [e2L]; exact k1 _ _ bC, rC⟩, fun h2 sb env' eL eF => ?_⟩
  rw [e2L] at sb
  obtain ⟨oe, vs, T, oT, ts, he, hz, hd, h1v, hnT, hTe, hT, hdT, h3⟩ := k4
  have aC : a ≠ ce.locals := fun z => by rw [z, bC] at k2; cases k2
  have TC : T ≠ ce.locals := fun z => by rw [z, bC] at hnT; cases hnT
  have same : ∀ b o, b ≠ ce.locals → h1.get? b = some o → h2.get? b = some o := fun b o n e => (sb.2 b n).trans e
  have bh : ∀ b, B.get? b = none → (PySem.W.hideAll B [ce.locals]).get? b = none := fun b e => by
    cases q : (PySem.W.hideAll B [ce.locals]).get? b with
    | none => rfl
    | some o => have z := PySem.W.of_hideAll _ q; rw [e] at z; cases z
  have bk : ∀ b o, (PySem.W.hideAll B [ce.locals]).get? b = some o → b ≠ ce.locals ∧ B.get? b = some o := fun b o e => by
    refine ⟨fun z => ?_, PySem.W.of_hideAll _ e⟩
    rw [z, PySem.W.hideAll_none _ (by simp)] at e; cases e
  have held : HandSPX.HeldZ (PySem.W.hideAll B [ce.locals]) X.stack a (Zc cls d) X.env.locals h2 := by
    refine ⟨fun b o e => same b o (bk b o e).1 (k1 b o (bk b o e).2), bh a k2, funFrames_move k3 fun L hL hb => ⟨bh L hb, ?_⟩, oe, vs, T, oT, ts, same _ _ aC he, hz, hd, h1v, bh T hnT, hTe, same _ _ TC hT, hdT, h3⟩
    exact sb.2 L fun z => cf (z ▸ hL)
  unfold PySem.passOn
  refine wpAny_bind (wpAny_field (same _ _ aC he) hd h1v ?_)
  rw [if_neg (show ¬ ((Value.ref T == Value.none) = true) from by simp)]
  have fin : wpAny (model X.prog X.w) X.A (setFlight (.ref a) env'.frame) (fun _ s4 => wpAny (model X.prog X.w) X.A (throw (.ref a) : Sem Value) (fun _ _ => False) X.xe s4) X.xe { s' with heap := h2 } := by
    rw [eF, e2F, ceF, hf]
    refine HandSPX.setFlight_onZ held fun h4 hh4 up4 => wpAny_throw (tk _ _ ?_)
    refine ⟨a, PySem.W.hideAll B [ce.locals], { sI with heap := PySem.W.hideAll sI.heap [ce.locals] }, pins, σ, H', cls, d, rfl, ?_, fun b o e hb => ?_, fun b o e hnf => ?_, .inr (.inr hh4), na, os, ag, hW _ _ _ w⟩
    · exact IX.turned (t' := sI.toks) (fun b o hb e => PySem.W.hideAll_get _ e (by simpa using hb)) fC.1 fC.2.1.symm.symm fC.2.2.2.1 fC.2.2.2.2.1 fC.2.2.2.2.2
    · have e' := PySem.W.of_hideAll _ e
      have nc : b ≠ ce.locals := fun z => by rw [z, PySem.W.hideAll_none _ (by simp)] at e; cases e
      exact PySem.W.hideAll_get _ (nb b o e' hb) (by simpa using nc)
    · have e' := PySem.W.of_hideAll _ e
      have nc : b ≠ ce.locals := fun z => by rw [z, PySem.W.hideAll_none _ (by simp)] at e; cases e
      obtain ⟨sl, q⟩ := (up.trans up1) b o e' hnf
      obtain ⟨sl2, q2⟩ := up4 b _ (same b _ nc q) hnf
      exact ⟨sl2, q2⟩
  first
    | exact wpAny_bind (wpAny_pure (wpAny_bind fin))
    | exact wpAny_bind fin
end
end DL

set_option Elab.async false
set_option linter.all false
set_option maxRecDepth 100000
set_option maxHeartbeats 2000000
/-! DLY: comprehensions whose items may raise: the rules. -/
namespace DL
open PySem L2 PyProof.Rows
section
variable {X : Cx} {W : WX}
/-- a comprehension whose items may raise; the wish stands with the def's slots -/
def tLcE (wi : TI) (g : TG) (tt : TT) (te : L2.St → TE) (vs : List Nat) : TE := fun σ H Q => wi σ H fun J H1 => ∀ D, H1 D = none → ∃ W : Nat → Nat → Hp → Prop, (∃ m, W 0 m (upd H1 D (.lst []))) ∧ ∀ i m H, W i m H →
  (J.stop i H ∧ Q (.ref D) H) ∨ (J.go i H ∧ ∃ Nx : Hp → Prop, (∀ H', Nx H' → ∃ m', m' < m ∧ W (i + 1) m' H') ∧ ∀ x H', J.yld i H x H' → g x (wipe σ vs) H' fun σ2 H2 => wipe σ2 vs = wipe σ vs ∧ tt σ2 H2 fun b H3 =>
    if b = true then te σ σ2 H3 fun y H4 => ∃ acc, H4 D = some (.lst acc) ∧ acc.length < sizeLine ∧ Nx (upd H4 D (.lst (acc ++ [y]))) else Nx H3)
theorem inv_to {pins : List (Addr × Obj)} {σ : L2.St} {H : Hp} {s : Shared} {xe : Value → Shared → Prop} (hp : X.pn = []) (I : Inv X pins σ H s) : Inv (X.tr [] xe) pins σ H s :=
  ⟨I.ok.toTry [] xe, I.os, I.bare, I.base, I.loc, I.cell, I.free, I.freeC, by have := I.pin; rw [hp] at this; exact this, I.hok, I.len⟩
theorem inv_of {pins : List (Addr × Obj)} {σ : L2.St} {H : Hp} {s : Shared} {xe : Value → Shared → Prop} (hp : X.pn = []) (I : Inv (X.tr [] xe) pins σ H s) : Inv X pins σ H s :=
  ⟨I.ok.ofTry, I.os, I.bare, I.base, I.loc, I.cell, I.free, I.freeC, by have := I.pin; rw [hp]; exact this, I.hok, I.len⟩
/-- what a block's calls may let out -/
abbrev PassE (X : Cx) (W : WX) : Prop := ∀ σ', PassesAt (L2.CX X.prog X.w) X σ' (L2.WE W σ')
theorem lc_coreE {pins : List (Addr × Obj)} {s : Shared} {σ : L2.St} {H : Hp} {Q : VK} {elt tg iter : Expr} {ifs : List Expr} {scope : Scope} {own : List (Str × Nat)} {pos pos' : Pos} {wi : TI} {g : TG} {tt : TT} {te : L2.St → TE} {use : Option (Value → Sem Unit)} {Qf : Value → Shared → Prop}
    (hstk : X.stack = X.env :: X.outer) (hfrm : X.env.frame = some X.env.locals) (tk : Takes X W)
    (hc : X.calm = true) (hN : X.N.Nodup) (I : Inv X pins σ H s) (hi : PI X tg iter wi) (ok : BlkOk X.N X.env.scope scope own)
    (hg : ∀ (s : Shared) (H : Hp) (C : Addr) (cl : List (Str × Addr)) (fp : List Addr), PG (X.blk s H scope (compEnvC scope cl C X.env) fp) tg g) (ht : ∀ (s : Shared) (H : Hp) (C : Addr) (cl : List (Str × Addr)) (fp : List Addr), PTs (X.blk s H scope (compEnvC scope cl C X.env) fp) ifs tt)
    (he : ∀ (s : Shared) (H : Hp) (C : Addr) (cl : List (Str × Addr)) (fp : List Addr) (xe : Value → Shared → Prop), PassE (BkE X scope s H (compEnvC scope cl C X.env) fp xe) (fun cls d _ H => W cls d σ H) → PE (BkE X scope s H (compEnvC scope cl C X.env) fp xe) elt (te σ)) (hs : ∀ x, foldedSetIterable iter X.env x = pure x)
    (h : tLcE wi g tt te (own.map (·.2)) σ H Q)
    (hRR : ∀ D C s' m H', Inv X pins σ H' s' → Q (.ref D) H' → s'.heap.Ns C m → FpOk X pins H' C → ∀ ce : PySem.Env, ce.locals = C → compPostE (model X.prog X.w) X.A X.xe use Qf (.ref D) ce (.ok .next) s') :
    wpAny (model X.prog X.w) X.A (comprehension (.ListComp elt [⟨tg, iter, ifs, 0⟩] scope pos) scope X.env pos' (newList []) false (eval iter X.env) use) Qf X.xe s := by
  have hfree : ∀ y ∈ scope.names, y.2 = .free → ∃ c, X.env.cells.lookup y.1 = some c := fun y hy e => by
    rcases ok.free y hy e with k | k
    · exact I.ok.has _ (.inl k)
    · exact I.ok.has _ (.inr k)
  refine comprehension_freeE (use := use) rfl hs (closure_ok hfree) ok.kind (fun y hy e => by rw [ok.uniq y hy, e])
    (thn (hi.run pins s σ H _ I h) fun xv s1 hx => thn hx fun itv s2 h2 => ?_)
  obtain ⟨it, fp, tn, J, H2, e, I2, T, st2, f2, q⟩ := h2
  subst e
  refine wpAny_newObj_type (newEnv_comp ?_) (by show 0 ≤ sizeLine; decide)
  generalize hD : s2.heap.objs.size = D
  have hDn : H2 D = none := I2.hok.fresh (Nat.le_of_eq hD)
  obtain ⟨W', ⟨m0, w0⟩, turn⟩ := q D hDn
  generalize hs3 : ({ s2 with heap := s2.heap.push { cls := .type "list", data := .seq ([] : List Value).toArray } } : Shared) = s3
  have I3 : Inv X pins σ (upd H2 D (.lst [])) s3 := by
    rw [← hs3]
    refine I2.laid (t' := s2.toks) (fun b o e => Heap.get?_push_of_some _ e) (Nat.le_of_eq hD) ⟨Nat.zero_le _, [], 0, .nil, ?_⟩
    rw [← hD]
    exact Heap.get?_push_size _ rfl
  have h3 : s3.heap = s2.heap.push { cls := .type "list", data := .seq ([] : List Value).toArray } := by rw [← hs3]
  have sz : ∀ b ∈ fp, b < s2.heap.objs.size := fun b hb => by
    obtain ⟨o, e, _⟩ := T.obj _ _ st2 b hb
    exact Heap.lt_size e
  have f3 : ∀ b ∈ fp, FpOk X pins (upd H2 D (.lst [])) b ∧ b < s3.heap.objs.size := fun b hb => by
    have hlt := sz b hb
    refine ⟨⟨?_, (f2 b hb).2⟩, by rw [h3, Heap.size_push]; exact Nat.lt_succ_of_lt hlt⟩
    rw [upd_ne (by rw [← hD]; exact Nat.ne_of_lt hlt)]
    exact (f2 b hb).1
  have st3 : tn 0 s3.heap := T.keep _ _ _ st2 fun b _ o e => by rw [h3]; exact Heap.get?_push_of_some _ e
  have I4 := block_start I3 ok hN f3
  have pg := hg s3 (upd H2 D (.lst [])) s3.heap.objs.size (cellsFrom (s3.heap.objs.size + 1) scope.names (cloFrom X.env.cells scope.names [])) fp
  have pt := ht s3 (upd H2 D (.lst [])) s3.heap.objs.size (cellsFrom (s3.heap.objs.size + 1) scope.names (cloFrom X.env.cells scope.names [])) fp
  have pe := he s3 (upd H2 D (.lst [])) s3.heap.objs.size (cellsFrom (s3.heap.objs.size + 1) scope.names (cloFrom X.env.cells scope.names [])) fp
  have nfp : ∀ b ∈ fp, (upd H2 D (.lst [])) b = none := fun b hb => (f3 b hb).1.1
  show codeAny _ _ (.compStart (.ListComp elt [⟨tg, iter, ifs, 0⟩] scope pos) 0 (.ref it) (.ref D) (compEnvC scope (cellsFrom (s3.heap.objs.size + 1) scope.names (cloFrom X.env.cells scope.names [])) s3.heap.objs.size X.env)) (compPostE (model X.prog X.w) X.A X.xe use Qf (.ref D) _) { s3 with heap := pushCells (s3.heap.push { cls := .type "dict", data := .dict #[] }) scope.names }
  generalize hce2 : newEnv scope s3.heap.objs.size X.env.globals (cellsFrom (s3.heap.objs.size + 1) scope.names (cloFrom X.env.cells scope.names [])) X.env.qual none Value.none (some X.env) _ = ce2
  have e2L : ce2.locals = s3.heap.objs.size := by rw [← hce2]; rfl
  have e2F : ce2.frame = X.env.frame := by rw [← hce2]; rfl
  generalize hce : compEnvC scope (cellsFrom (s3.heap.objs.size + 1) scope.names (cloFrom X.env.cells scope.names [])) s3.heap.objs.size X.env = ce at I4 pg pt pe ⊢
  have cL : ce.locals = s3.heap.objs.size := by subst hce; rfl
  have cF : ce.frame = X.env.frame := by subst hce; rfl
  generalize hH3 : upd H2 D (.lst []) = H3 at I3 I4 pg pt pe w0 nfp f3
  generalize hs4 : ({ s3 with heap := pushCells (s3.heap.push { cls := .type "dict", data := .dict #[] }) scope.names } : Shared) = s4 at I4 ⊢
  have st4 : tn 0 s4.heap := T.keep _ _ _ st3 fun b _ o e => by rw [← hs4]; exact pushCells_keeps _ _ _ _ (Heap.get?_push_of_some _ e)
  have stat : ∀ {σ' : L2.St} {H' : Hp} {s' : Shared}, Inv (X.blk s3 H3 scope ce fp) [] σ' H' s' → (∀ b ∈ fp, H' b = none) → ∀ b ∈ fp, FpOk (X.blk s3 H3 scope ce fp) [] H' b := fun {σ' H' s'} I' hn b hb =>
    ⟨hn b hb, (I'.ok.exf b hb).1, I'.ok.exfs b hb, .inl hb, fun x c e => (I'.ok.exf b hb).2 x c e, fun p hp => absurd (show p ∈ ([] : List (Addr × Obj)) ++ [] from hp) (by simp)⟩
  -- what an item may raise
  generalize hxe : (notedBy (model X.prog X.w) X.A ce fun e s' => compPostE (model X.prog X.w) X.A X.xe use Qf (.ref D) ce2 (.error e) s') = xe
  have pe := pe xe fun σ' pins' Hc sc u s' I' c => by
    rw [← hxe]
    exact comp_exc hstk hfrm tk I3 (fun b hb => (f3 b hb).1) cL cF (e2L.trans cL.symm) (e2F.trans cF.symm) (xe := xe) I' c fun _ _ _ h => h
  have loop : codeAny (model X.prog X.w) X.A (.compLoop (.ListComp elt [⟨tg, iter, ifs, 0⟩] scope pos) 0 (.ref it) (.ref D) ce) (compPostE (model X.prog X.w) X.A X.xe use Qf (.ref D) ce2) s4 := by
    refine compLoop_any (fun n s' => ∃ i H', Inv (X.blk s3 H3 scope ce fp) [] (wipe σ (own.map (·.2))) H' s' ∧ tn i s'.heap ∧ (∀ b ∈ fp, H' b = none) ∧ W' i n H') ?_ m0 ⟨0, H3, I4, st4, nfp, w0⟩
    rintro n s5 ⟨i, H5, I5, st5, n5, w5⟩
    rcases turn i n H5 w5 with ⟨stop, qq⟩ | ⟨go, Nx, hNx, step⟩
    · have td := T.done (X.blk s3 H3 scope ce fp) rfl rfl rfl hc i [] s5 _ H5 (fun _ _ => False) I5 (stat I5 n5) st5 stop
      refine thnF td fun r s6 ⟨hr, I6⟩ => ?_
      subst hr
      have I7 : Inv X pins σ H5 s6 := I3.call' (ch := fp) I6.os I6.base I6.hok I6.bare fun b hb => ⟨(f3 b hb).1.2.2.2.1, (f3 b hb).1.2.1, (f3 b hb).1.2.2.2.2.1, (f3 b hb).1.2.2.2.2.2⟩
      have nC : H5 s3.heap.objs.size = none := by
        have z : H5 ce.locals = none := I6.free
        rw [cL] at z
        exact z
      obtain ⟨m, hn, _⟩ := I6.loc
      have hn : s6.heap.Ns ce.locals m := hn
      rw [cL] at hn
      exact hRR D s3.heap.objs.size s6 m H5 I7 qq hn (I3.fpOk (Nat.le_refl _) nC) ce2 e2L
    · have ti := T.item (X.blk s3 H3 scope ce fp) rfl rfl rfl hc i [] s5 _ H5 (fun _ _ => False) I5 (stat I5 n5) st5 go
      refine thnF ti fun r s6 ⟨u, hr, h6⟩ => ?_
      subst hr
      refine thnF h6 fun _ s7 ⟨x, H7, I7, r7, y7, st7, n7⟩ => ?_
      have I7' := I7.pinned (stat I7 n7) (T.obj _ _ st7)
      refine thnF (pg.run _ s7 _ H7 x u _ I7' r7 (step x H7 y7)) fun _ s8 ⟨σ8, H8, I8, hw8, q8⟩ => ?_
      refine thnF (pt.run _ s8 σ8 H8 _ I8 q8) fun b s9 ⟨H9, I9, q9⟩ => ?_
      have fin : ∀ {s' : Shared} {H' : Hp}, Inv (X.blk s3 H3 scope ce fp) ([] ++ pinsAt fp s7.heap) σ8 H' s' → Nx H' → ∃ m, m < n ∧ ∃ i H', Inv (X.blk s3 H3 scope ce fp) [] (wipe σ (own.map (·.2))) H' s' ∧ tn i s'.heap ∧ (∀ b ∈ fp, H' b = none) ∧ W' i m H' := fun {s' H'} I' nx => by
        obtain ⟨m', hm, w'⟩ := hNx H' nx
        have pin' : ∀ b ∈ fp, ∀ o, s7.heap.get? b = some o → s'.heap.get? b = some o ∧ H' b = none := fun b hb o e =>
          let z := I'.pin (b, o) (List.mem_append_right _ (List.mem_append_right _ (mem_pinsAt hb e)))
          ⟨z.1, z.2.1⟩
        have hl : (wipe σ (own.map (·.2))).length = σ8.length := by rw [← hw8, wipe_length]
        refine ⟨m', hm, i + 1, H', (I'.unpinned (pins := [])).weak hl (fun j v e => ?_), T.keep _ _ _ st7 fun b hb o e => (pin' b hb o e).1, fun b hb => ?_, w'⟩
        · rw [← hw8] at e
          exact (wipe_some e).1
        · obtain ⟨o, e, _⟩ := T.obj _ _ st7 b hb
          exact (pin' b hb o e).2
      cases b with
      | false =>
        simp only [Bool.false_eq_true, if_false] at q9 ⊢
        exact fin I9 q9
      | true =>
        simp only [if_true] at q9 ⊢
        rw [hxe]
        refine wpAny_mono (pe.run _ s9 σ8 H9 _ (inv_to rfl I9) q9) (fun z s10 ⟨yv, H10, I10, r10, acc, hD10, hz10, nx⟩ => ?_) fun _ _ z => z
        have I10 := inv_of (X := X.blk s3 H3 scope ce fp) rfl I10
        exact app_ok (X := X.blk s3 H3 scope ce fp) I10 hD10 hz10 r10 fun s11 I11 => fin I11 nx
  exact codeAny_compStart_list loop (T.self X.A 0 _ _ _ st4 loop)
theorem pe_lcE {elt tg iter : Expr} {ifs : List Expr} {scope : Scope} {own : List (Str × Nat)} {pos : Pos} {wi : TI} {g : TG} {tt : TT} {te : L2.St → TE}
    (hstk : X.stack = X.env :: X.outer) (hfrm : X.env.frame = some X.env.locals) (tk : Takes X W) (hc : X.calm = true) (hN : X.N.Nodup) (hi : PI X tg iter wi) (ok : BlkOk X.N X.env.scope scope own)
    (hg : ∀ (s : Shared) (H : Hp) (C : Addr) (cl : List (Str × Addr)) (fp : List Addr), PG (X.blk s H scope (compEnvC scope cl C X.env) fp) tg g) (ht : ∀ (s : Shared) (H : Hp) (C : Addr) (cl : List (Str × Addr)) (fp : List Addr), PTs (X.blk s H scope (compEnvC scope cl C X.env) fp) ifs tt)
    (he : ∀ (σ : L2.St) (s : Shared) (H : Hp) (C : Addr) (cl : List (Str × Addr)) (fp : List Addr) (xe : Value → Shared → Prop), PassE (BkE X scope s H (compEnvC scope cl C X.env) fp xe) (fun cls d _ H => W cls d σ H) → PE (BkE X scope s H (compEnvC scope cl C X.env) fp xe) elt (te σ)) (hs : ∀ x, foldedSetIterable iter X.env x = pure x := by intro _; rfl) :
    PE X (.ListComp elt [⟨tg, iter, ifs, 0⟩] scope pos) (tLcE wi g tt te (own.map (·.2))) := by
  refine ⟨fun pins s σ H Q I h => ?_⟩
  rw [eval_ListComp]
  refine lc_coreE hstk hfrm tk hc hN I hi ok hg ht (he σ) hs h fun D C s' m H' I' q hn f ce ec => ⟨m, by rw [ec]; exact hn, fun h'' sb => ?_⟩
  rw [ec] at sb
  obtain ⟨f0, f1, f2, f3, f4, f5⟩ := f
  exact ⟨.ref D, H', I'.turned (t' := s'.toks) (fun b o hb e => (sb.2 b hb).trans e) f0 f1 f3 f4 f5, rfl, q⟩
theorem ps_setLcE {i : Nat} {y : Str} {py : Pos} {elt tg iter : Expr} {ifs : List Expr} {scope : Scope} {own : List (Str × Nat)} {pos spos : Pos} {wi : TI} {g : TG} {tt : TT} {te : L2.St → TE}
    (hstk : X.stack = X.env :: X.outer) (hfrm : X.env.frame = some X.env.locals) (tk : Takes X W) (hc : X.calm = true) (hN : X.N.Nodup) (hy : X.N[i]? = some y) (hyl : X.env.scope.names.lookup y = some .local)
    (hsw : swapsWith (.ListComp elt [⟨tg, iter, ifs, 0⟩] scope pos) (some (.Name y py)) spos.line X.env = pure true) (hi : PI X tg iter wi) (ok : BlkOk X.N X.env.scope scope own)
    (hg : ∀ (s : Shared) (H : Hp) (C : Addr) (cl : List (Str × Addr)) (fp : List Addr), PG (X.blk s H scope (compEnvC scope cl C X.env) fp) tg g) (ht : ∀ (s : Shared) (H : Hp) (C : Addr) (cl : List (Str × Addr)) (fp : List Addr), PTs (X.blk s H scope (compEnvC scope cl C X.env) fp) ifs tt)
    (he : ∀ (σ : L2.St) (s : Shared) (H : Hp) (C : Addr) (cl : List (Str × Addr)) (fp : List Addr) (xe : Value → Shared → Prop), PassE (BkE X scope s H (compEnvC scope cl C X.env) fp xe) (fun cls d _ H => W cls d σ H) → PE (BkE X scope s H (compEnvC scope cl C X.env) fp xe) elt (te σ)) (hs : ∀ x, foldedSetIterable iter X.env x = pure x := by intro _; rfl) :
    PS X (.Assign [.Name y py] (.ListComp elt [⟨tg, iter, ifs, 0⟩] scope pos) spos) (tAsg (tLcE wi g tt te (own.map (·.2))) (gName i)) := by
  refine ⟨fun pins s σ H D I h => ?_⟩
  rw [exec_Assign_Name_used _ _ _ _ hsw]
  refine wpAny_bind (wpAny_standAt (wpAny_bind ?_))
  show wpAny _ X.A (do let _ ← comprehension (.ListComp elt [⟨tg, iter, ifs, 0⟩] scope pos) scope X.env (firstIterPos [⟨tg, iter, ifs, 0⟩] pos) (newList []) false (eval iter X.env) (some (assign (.Name y py) X.env))) _ _ s
  have h : tLcE wi g tt te (own.map (·.2)) σ H (fun x H1 => gName i x σ H1 D.nx) := h
  refine wpAny_bind (thn (lc_coreE (Qf := fun _ s' => SP X pins D .next s') hstk hfrm tk hc hN I hi ok hg ht (he σ) hs h fun L C s' m H' I' q hn f ce ec => ?_) fun _ s' hq => wpAny_pure (wpAny_pure hq))
  show wpAny _ _ (assign (.Name y py) X.env (.ref L)) _ _ _
  refine wpAny_assign_Name (store_ok2 (v := V.ref L) I' hN hy (.inl hyl) rfl (fun s2 I2 ⟨a, sb, ha⟩ => ?_) (.inr hyl))
  obtain ⟨f0, f1, f2, f3, f4, f5⟩ := f
  have haC : C ≠ a := by
    rcases ha with z | z
    · rw [z]; exact f1
    · exact fun e => f4 y a z e.symm
  refine ⟨m, by rw [ec]; exact hn.sameBut sb haC, fun h3 sb3 => ?_⟩
  rw [ec] at sb3
  exact ⟨_, H', I2.turned (t' := s2.toks) (fun b o hb e => (sb3.2 b hb).trans e) f0 f1 f3 f4 f5, q⟩
end
end DL

set_option Elab.async false
set_option linter.all false
set_option maxRecDepth 100000
set_option maxHeartbeats 1000000
/-! DLZ: comprehensions whose items may raise, over data. -/
namespace DL
open PySem L2 PyProof.Rows
def LcE (env : Env) (ds : List PyData) (vs : List Nat) (g : WG) (c : WT) (t : WE) (Q : R → Prop) (E : Str → Prop) : Prop := ∃ P : Nat → List PyData → Prop, P 0 [] ∧
  (∀ i d acc, ds[i]? = some d → P i acc → g d (wipeE env vs) fun env2 => c env2 (fun k => if k = true then t env2 (fun r => r.st ∧ acc.length < sizeLine ∧ P (i + 1) (acc ++ [r.d])) E else P (i + 1) acc) noE) ∧
  ∀ acc, P ds.length acc → Q (.t (.lst acc))
def wLcE (it : WI) (vs : List Nat) (g : WG) (c : WT) (t : WE) : WE := fun env Q E => it env (fun ds => LcE env ds vs g c t Q E) E
theorem wLcE_eq (it : WI) (vs : List Nat) (g : WG) (c : WT) (t : WE) (env : Env) (Q : R → Prop) (E : Str → Prop) : wLcE it vs g c t env Q E = it env (fun ds => LcE env ds vs g c t Q E) E := rfl
section
variable {X : Cx} {W : WX} {G : Hp} {tg iter elt : Expr} {ifs : List Expr} {scope : Scope} {own : List (Str × Nat)} {it : WI} {g : WG} {c : WT} {t : WE} {pos : Pos}
theorem lcE_ok {σ : L2.St} {H : Hp} {QV : VK} {vs : List Nat} (h : tD X W G (wLcE it vs g c t) σ H QV) :
    tLcE (tDIc X W G it) (tDG X G vs g) (tDT X W0 G c) (fun σ => tD X (fun cls d _ H => W cls d σ H) G t) vs σ H QV := by
  obtain ⟨B, env, fp, Q, E, rr, hm, hq, hx⟩ := h
  refine ⟨B, env, fp, _, E, rr, hm, fun J H1 B1 ds e1 wk ⟨P, p0, pt, pe⟩ L nL => ?_, hx⟩
  have out : ∀ {H2 B2 : Hp}, RR X.K G B2 env fp σ H2 → L ∉ fp := fun {H2 B2} r2 m => by
    obtain ⟨u, hu⟩ := (rr.ext e1).own.dom L m
    rw [nL] at hu; cases hu
  have gL : G L = none := (rr.ext e1).gh.none nL
  refine ⟨fun i m H2 => m = ds.length - i ∧ i ≤ ds.length ∧ ∃ B2 acc vs2, Le B1 B2 ∧ RR X.K G B2 env fp σ H2 ∧ B2 L = none ∧ H2 L = some (.lst vs2) ∧ RepAll X.K B2 vs2 acc ∧ (∀ a o, H1 a = some o → H2 a = some o) ∧ (∀ a o, H1 a = some o → B1 a = none → B2 a = none) ∧ P i acc,
    ⟨_, rfl, Nat.zero_le _, B1, [], [], .refl _, (rr.ext e1).beside (out (rr.ext e1)) (e1.bh.none nL) gL, e1.bh.none nL, upd_same, .nil, fun a o q => upd_keep q (ne_of_none q nL), fun _ _ _ n => n, p0⟩, ?_⟩
  rintro i m H2 ⟨rfl, hle, B2, acc, vs2, l2, rr2, bL, hL, ra, s2, n2, pi⟩
  by_cases hlt : i < ds.length
  · refine .inr ⟨wk.go i H2 B2 l2 rr2.bh s2 hlt, fun H' => ∃ B2 acc vs2, Le B1 B2 ∧ RR X.K G B2 env fp σ H' ∧ B2 L = none ∧ H' L = some (.lst vs2) ∧ RepAll X.K B2 vs2 acc ∧ (∀ a o, H1 a = some o → H' a = some o) ∧ (∀ a o, H1 a = some o → B1 a = none → B2 a = none) ∧ P (i + 1) acc,
      fun H' ⟨B3, acc3, vs3, z1, z2, z3, z4, z5, z6, z7, z8⟩ => ⟨_, (by omega), rfl, hlt, B3, acc3, vs3, z1, z2, z3, z4, z5, z6, z7, z8⟩, fun y H3 hy => ?_⟩
    obtain ⟨dd, B3, hd, e3, rp⟩ := wk.yld i H2 y H3 B2 hlt l2 rr2.bh s2 hy
    obtain ⟨fpw, rrw⟩ := (rr2.ext e3).wipe vs
    refine ⟨B3, _, fpw, dd, _, rrw, rp, pt i dd acc hd pi, fun σ4 env4 fp4 rr4 t4 q4 => ⟨?_, ?_⟩⟩
    · have := t4.wipe
      rw [this]
      exact (Touch.wipe ⟨wipe_length σ vs, fun j nj => by rw [wipe_get, if_neg nj]⟩)
    · refine ⟨B3, env4, fp4, _, noE, rr4, q4, fun k H5 B5 e5 q5 => ?_, xok0⟩
      have eA := e3.trans e5
      cases k with
      | false =>
        rw [if_neg (by simp)] at q5
        refine iteF ?_
        exact ⟨B5, acc, vs2, l2.trans eA.le, rr2.ext eA, eA.new L _ hL bL, eA.same _ _ hL, ra.mono eA.le, fun a o q => eA.same _ _ (s2 a o q), fun a o q n => eA.new a o (s2 a o q) (n2 a o q n), q5⟩
      | true =>
        rw [if_pos rfl] at q5
        refine iteT ?_
        refine ⟨B5, env4, fp4, _, E, rr4.ext e5, q5, fun u H6 B6 r e6 w ⟨sr, hz, p6⟩ => ?_, fun n cls H' e m s => hx n cls H' e m (e1.same.trans (Le.trans s2 (eA.same.trans s)))⟩
        obtain ⟨B7, e7, l7, rk⟩ := w.keep e6 sr
        have eB := eA.trans e7
        have hL6 := eB.same _ _ hL
        have bL7 := eB.new L _ hL bL
        have rr7 := rr2.ext eB
        refine ⟨vs2, hL6, by rw [ra.length]; exact hz, B7, acc ++ [r.d], vs2 ++ [u], l2.trans eB.le, rr7.beside (out rr7) bL7 gL, bL7, upd_same, (ra.mono eB.le).append (.one rk), fun a o q => ?_, fun a o q n => eB.new a o (s2 a o q) (n2 a o q n), p6⟩
        exact upd_keep (eB.same _ _ (s2 a o q)) (ne_of_none q nL)
  · have e : i = ds.length := by omega
    subst e
    refine .inl ⟨wk.stop _ H2 B2 l2 rr2.bh s2 (Nat.le_refl _), hq _ H2 B2 (.t (.lst acc)) ⟨e1.same.trans s2, e1.le.trans l2, rr2.bh, fun a o q n => n2 a o (e1.same _ _ q) (e1.new a o q n)⟩ ⟨[L], .lst hL ra, by simp, fun a m => ?_⟩ (pe acc pi)⟩
    simp at m; subst m
    exact ⟨e1.same.none nL, bL⟩
theorem de_lcE (hstk : X.stack = X.env :: X.outer) (hfrm : X.env.frame = some X.env.locals) (tk : Takes X W) (hc : X.calm = true) (hN : X.N.Nodup) (hi : DIc X W G tg iter it) {N : List Str} {sc : Scope} (ok : blkC N sc scope own = true) (eN : X.N = N) (eS : X.env.scope = sc)
    (hg : ∀ s H C cl fp, DG (Bk X scope s H C cl fp) G (own.map (·.2)) tg g) (ht : ∀ s H C cl fp, PTs (Bk X scope s H C cl fp) ifs (tDT X W0 G c)) (he : ∀ W' s H C cl fp xe, PassE (BkE X scope s H (compEnvC scope cl C X.env) fp xe) W' → DE (BkE X scope s H (compEnvC scope cl C X.env) fp xe) W' G elt t)
    (hs : ∀ x, foldedSetIterable iter X.env x = pure x) : DE X W G (.ListComp elt [⟨tg, iter, ifs, 0⟩] scope pos) (wLcE it (own.map (·.2)) g c t) :=
  PEi (pe_lcE (g := tDG X G (own.map fun p : Str × Nat => p.2) g) (tt := tDT X W0 G c) (te := fun σ => tD X (fun cls d _ H => W cls d σ H) G t) hstk hfrm tk hc hN hi (by subst eN eS; exact blkOk_by ok) hg ht (fun σ s H C cl fp xe pa => he _ s H C cl fp xe pa) hs) fun _ _ _ h => lcE_ok h
theorem ds_setLcE {i : Nat} {y : Str} {py spos : Pos} (hstk : X.stack = X.env :: X.outer) (hfrm : X.env.frame = some X.env.locals) (tk : Takes X W) (hc : X.calm = true) (hN : X.N.Nodup) (hy : X.N[i]? = some y) (hyl : X.env.scope.names.lookup y = some .local)
    (hsw : swapsWith (.ListComp elt [⟨tg, iter, ifs, 0⟩] scope pos) (some (.Name y py)) spos.line X.env = pure true) (hi : DIc X W G tg iter it) {N : List Str} {sc : Scope} (ok : blkC N sc scope own = true) (eN : X.N = N) (eS : X.env.scope = sc)
    (hg : ∀ s H C cl fp, DG (Bk X scope s H C cl fp) G (own.map (·.2)) tg g) (ht : ∀ s H C cl fp, PTs (Bk X scope s H C cl fp) ifs (tDT X W0 G c)) (he : ∀ W' s H C cl fp xe, PassE (BkE X scope s H (compEnvC scope cl C X.env) fp xe) W' → DE (BkE X scope s H (compEnvC scope cl C X.env) fp xe) W' G elt t)
    (hs : ∀ x, foldedSetIterable iter X.env x = pure x) : DS X W G (.Assign [.Name y py] (.ListComp elt [⟨tg, iter, ifs, 0⟩] scope pos) spos) (wAsg i (wLcE it (own.map (·.2)) g c t)) :=
  PSi (ps_setLcE (g := tDG X G (own.map fun p : Str × Nat => p.2) g) (tt := tDT X W0 G c) (te := fun σ => tD X (fun cls d _ H => W cls d σ H) G t) hstk hfrm tk hc hN hy hyl hsw hi (by subst eN eS; exact blkOk_by ok) hg ht (fun σ s H C cl fp xe pa => he _ s H C cl fp xe pa) hs) fun D σ H h => asg_ok (fun _ _ _ h => lcE_ok h) H h
theorem ds_letLcE {i : Nat} {y : Str} {py spos : Pos} (hstk : X.stack = X.env :: X.outer) (hfrm : X.env.frame = some X.env.locals) (tk : Takes X W) (hc : X.calm = true) (hN : X.N.Nodup) (hy : X.N[i]? = some y) (hyl : X.env.scope.names.lookup y = some .local)
    (hsw : swapsWith (.ListComp elt [⟨tg, iter, ifs, 0⟩] scope pos) (some (.Name y py)) spos.line X.env = pure true) (hi : DIc X W G tg iter it) {N : List Str} {sc : Scope} (ok : blkC N sc scope own = true) (eN : X.N = N) (eS : X.env.scope = sc)
    (hg : ∀ s H C cl fp, DG (Bk X scope s H C cl fp) G (own.map (·.2)) tg g) (ht : ∀ s H C cl fp, PTs (Bk X scope s H C cl fp) ifs (tDT X W0 G c)) (he : ∀ W' s H C cl fp xe, PassE (BkE X scope s H (compEnvC scope cl C X.env) fp xe) W' → DE (BkE X scope s H (compEnvC scope cl C X.env) fp xe) W' G elt t)
    (hs : ∀ x, foldedSetIterable iter X.env x = pure x) : DS X W G (.Assign [.Name y py] (.ListComp elt [⟨tg, iter, ifs, 0⟩] scope pos) spos) (wLet i (wLcE it (own.map (·.2)) g c t)) :=
  PSi (ps_setLcE (g := tDG X G (own.map fun p : Str × Nat => p.2) g) (tt := tDT X W0 G c) (te := fun σ => tD X (fun cls d _ H => W cls d σ H) G t) hstk hfrm tk hc hN hy hyl hsw hi (by subst eN eS; exact blkOk_by ok) hg ht (fun σ s H C cl fp xe pa => he _ s H C cl fp xe pa) hs) fun D σ H h => let_ok (fun _ _ _ h => lcE_ok h) H h
end
/-! ### over lists of alike things -/
theorem lcE_mapE {α : Type} {ls : List α} {enc : α → D} {env : Env} {vs : List Nat} {g : WG} {t : WE} {Q : R → Prop} {E : Str → Prop} (f : α → D) (hz : ls.length ≤ sizeLine)
    (h : ∀ (i : Nat) (x : α), ls[i]? = some x → ∀ A : R → Prop, (∀ r, r.st → r.d = f x → A r) → g (enc x) (wipeE env vs) fun env2 => t env2 A E) (q : Q (.t (.lst (ls.map f)))) : LcE env (ls.map enc) vs g wYes t Q E := by
  refine ⟨fun i acc => acc = (ls.take i).map f, by simp, fun i d acc hd ha => ?_, fun acc ha => ?_⟩
  · obtain ⟨x, hx, e⟩ := map_get hd
    subst e
    have ha : acc = (ls.take i).map f := ha
    refine h i x hx (fun r => r.st ∧ acc.length < sizeLine ∧ acc ++ [r.d] = (ls.take (i + 1)).map f) fun r rs rd => ⟨rs, ?_, ?_⟩
    · have hi := (List.getElem?_eq_some_iff.mp hx).1
      rw [ha, List.length_map, List.length_take]
      omega
    · rw [take_succ hx, List.map_append, ha, rd]; rfl
  · have ha : acc = (ls.take (ls.map enc).length).map f := ha
    rw [ha, List.length_map, List.take_length]; exact q
/-- item by item, what is known of those ahead -/
theorem lcE_inv {α : Type} {ls : List α} {enc : α → D} {env : Env} {vs : List Nat} {g : WG} {t : WE} {Q : R → Prop} {E : Str → Prop} (f : α → D) (J : Nat → Prop) (hz : ls.length ≤ sizeLine) (j0 : J 0)
    (h : ∀ (i : Nat) (x : α), ls[i]? = some x → J i → ∀ A : R → Prop, (∀ r, r.st → r.d = f x → J (i + 1) → A r) → g (enc x) (wipeE env vs) fun env2 => t env2 A E) (q : J ls.length → Q (.t (.lst (ls.map f)))) : LcE env (ls.map enc) vs g wYes t Q E := by
  refine ⟨fun i acc => acc = (ls.take i).map f ∧ J i, ⟨by simp, j0⟩, fun i d acc hd ha => ?_, fun acc ha => ?_⟩
  · obtain ⟨x, hx, e⟩ := map_get hd
    subst e
    obtain ⟨ha, hj⟩ := ha
    refine h i x hx hj (fun r => r.st ∧ acc.length < sizeLine ∧ acc ++ [r.d] = (ls.take (i + 1)).map f ∧ J (i + 1)) fun r rs rd hj' => ⟨rs, ?_, ?_, hj'⟩
    · have hi := (List.getElem?_eq_some_iff.mp hx).1
      rw [ha, List.length_map, List.length_take]
      omega
    · rw [take_succ hx, List.map_append, ha, rd]; rfl
  · obtain ⟨ha, hj⟩ := ha
    rw [List.length_map] at ha hj
    rw [ha, List.take_length]; exact q hj
section
variable {X : Cx} {W : WX} {G : Hp} {k j : Nat} {ps : List Str} {S : Spec} {dvs : List V} {dds : List D} {x : Str} {p pos : Pos} {e : Expr} {es : List Expr} {ms : WA}
theorem de_callP (F : FnAt X.prog X.w X.K X.mg X.base k x ps dvs S) (hr : Room j X.A) (hk : k ≤ j) (hg : Gl X x) (hdv : ∀ B, RepAll X.K B dvs dds) (pa : PassE X W) (ha : DA X W G (e :: es) ms) (hdb : (x == ("__debug__" : Str)) = false)
    (he : starEach (e :: es) X.env = (false, eval e X.env) :: starEach es X.env) (hpl : (backTo pos (starEach es X.env)).any (·.1) = false) : DE X W G (.Call (.Name x p) (e :: es) [] pos) (wCall S dds ms) := by
  obtain ⟨f, fd, ds, hm, hkp, F, hb, hd⟩ := F
  exact PEi (pe_callSD (E := fun σ cls d H => W cls d σ H) F (hr.mono hk) hg hm hkp hb hd (fun σ => pa σ) ha hdb he hpl) fun _ _ _ h => call_ok hdv h
end
end DL

set_option Elab.async false
set_option linter.all false
set_option maxRecDepth 100000
set_option maxHeartbeats 1000000
/-! DLW: sorted, of alike data of any kind. -/
namespace DL
open PySem L2 PyProof.Rows
open PySem.W (alike alikeAll AllAlike Sortable EachIs dataLe)
def dle : D → D → Bool := dataLe false (id : D → D)
def sortDs (ds : List D) : List D := ds.mergeSort dle
def sortOk (ds : List D) : Prop := AllAlike ds ∧ Sortable ds ∧ ∀ d ∈ ds, d.depth ≤ 8
def sortedE : F1
  | .list ds, Q => sortedD (.list ds) Q ∨ (sortOk ds ∧ Q (.t (.lst (sortDs ds))))
  | d, Q => sortedD d Q
theorem sortedE_l (ds : List D) (Q : R → Prop) : sortedE (.list ds) Q = ((∃ ns : List Int, ds = ns.map PyData.int ∧ ∀ ms, ordI ns ms → Q (.t (.lst (ms.map PyData.int)))) ∨ (∃ xs : List Str, ds = xs.map PyData.str ∧ ∀ ys, ordS xs ys → Q (.t (.lst (ys.map PyData.str)))) ∨ (sortOk ds ∧ Q (.t (.lst (sortDs ds))))) := by
  rw [← or_assoc]; rfl
theorem sortedE_d (kvs : List (D × D)) (Q : R → Prop) : sortedE (.dict kvs) Q = sortedD (.dict kvs) Q := rfl
section
variable {X : Cx}
mutual
theorem rep_reads {pins : List (Addr × Obj)} {σ : L2.St} {H : Hp} {s : Shared} (I : Inv X pins σ H s) : ∀ (d : D) (v : V) (u : Value), alike d d = true → Rep X.K H v d → RelV v u → ∃ as, PySem.Reads s.heap u d as
  | .none, _, u, _, r, q => by
    cases r
    rw [show u = Value.none from q]
    exact ⟨_, .none⟩
  | .bool b, _, u, _, r, q => by
    cases r
    rw [show u = Value.bool b from q]
    exact ⟨_, .bool _⟩
  | .int i, _, u, _, r, q => by
    cases r
    obtain ⟨t, e⟩ : ∃ t, u = Value.int i t := q
    rw [e]
    exact ⟨_, .int _ _⟩
  | .str x, _, u, _, r, q => by
    cases r
    obtain ⟨t, e⟩ : ∃ t, u = Value.str x t := q
    rw [e]
    exact ⟨_, .str _ _⟩
  | .list ds, _, u, ha, r, q => by
    cases r with
    | @lst a vs _ sq t =>
      rw [show u = Value.ref a from q]
      obtain ⟨its, rv, ⟨o2, n2, e2, c2, d2, ed2⟩, hz⟩ := I.list sq
      obtain ⟨as, h⟩ := repAll_reads I ds vs its (by simpa [alike] using ha) t rv
      exact ⟨_, .list e2 c2 ed2 h⟩
  | .tuple ds, _, u, ha, r, q => by
    cases r with
    | @tup a vs _ sq t _ =>
      rw [show u = Value.ref a from q]
      obtain ⟨its, rv, ⟨o2, e2, c2, n2, ed2⟩, hz⟩ := I.tuple sq
      obtain ⟨as, h⟩ := repAll_reads I ds vs its (by simpa [alike] using ha) t rv
      exact ⟨_, .tuple e2 c2 ed2 h⟩
  | .dict _, _, _, ha, _, _ => absurd ha (by simp [alike])
theorem repAll_reads {pins : List (Addr × Obj)} {σ : L2.St} {H : Hp} {s : Shared} (I : Inv X pins σ H s) : ∀ (ds : List D) (vs : List V) (us : List Value), alikeAll ds ds = true → RepAll X.K H vs ds → Vals vs us → ∃ as, PySem.ReadsAll s.heap us ds as
  | [], _, _, _, r, q => by
    cases r
    cases q
    exact ⟨_, .nil⟩
  | d :: ds, _, _, ha, r, q => by
    cases r with
    | cons r1 r2 =>
      cases q with
      | cons q1 q2 =>
        obtain ⟨h1, h2⟩ := PySem.W.alike_all_cons ha
        obtain ⟨as, x⟩ := rep_reads I d _ _ h1 r1 q1
        obtain ⟨bs, y⟩ := repAll_reads I ds _ _ h2 r2 q2
        exact ⟨_, .cons x y⟩
end
theorem each_zip {K : K0} {B : Hp} : ∀ {vs : List V} {ds : List D} {us : List Value}, RepAll K B vs ds → Vals vs us → EachIs (fun u (b : V × D) => RelV b.1 u ∧ Rep K B b.1 b.2) us (vs.zip ds)
  | _, _, _, .nil, .nil => .nil
  | _, _, _, .cons r t, .cons q z => .cons ⟨q, r⟩ (each_zip t z)
theorem each_back {K : K0} {B : Hp} : ∀ {us : List Value} {ps : List (V × D)}, EachIs (fun u (b : V × D) => RelV b.1 u ∧ Rep K B b.1 b.2) us ps → Vals (ps.map (·.1)) us ∧ RepAll K B (ps.map (·.1)) (ps.map (·.2))
  | _, _, .nil => ⟨.nil, .nil⟩
  | _, _, .cons h t => ⟨.cons h.1 (each_back t).1, .cons h.2 (each_back t).2⟩
theorem zip_snd {K : K0} {B : Hp} : ∀ {vs : List V} {ds : List D}, RepAll K B vs ds → (vs.zip ds).map Prod.snd = ds
  | _, _, .nil => rfl
  | _, _, .cons r t => by
    show _ :: (List.zip _ _).map Prod.snd = _
    rw [zip_snd t]
theorem cSortedE (hc : X.calm = true) (hu : X.A.units + 64 < PySem.cLine) : CallR X (.builtin "sorted") (rB X.K (f1s sortedE)) := by
  intro pins s σ H xs us QV I rv ⟨B, fp, rs, Q, l, x, hf, hq⟩
  obtain ⟨a, e, sh, hg⟩ := f1s_inv hf
  have key : ∀ {g : F1}, g a.d Q → f1s g rs Q := by
    intro g hg2
    subst e
    exact ⟨sh, hg2⟩
  by_cases old : sortedD a.d Q
  · exact cSorted hc pins s σ H xs us QV I rv ⟨B, fp, rs, Q, l, x, key old, hq⟩
  clear key hf
  subst e
  obtain ⟨v, e, hv⟩ := x.one_sh sh
  subst e
  generalize a.d = d at hv hg old
  cases d <;> first | exact (old hg).elim | skip
  rename_i ds
  rcases hg with hg | ⟨⟨hal, hk, hd⟩, q⟩
  · exact (old hg).elim
  obtain ⟨p, vs, e, s', t⟩ := hv.list l
  subst e
  obtain ⟨its, rvs, hl, hz⟩ := I.list s'
  rw [Vals.ref1 rv]
  have ez := zip_snd t
  have e1 := each_zip t rvs
  have er : EachIs (fun u (b : V × D) => ∃ as, PySem.Reads s.heap u b.2 as) its (vs.zip ds) := by
    refine (PySem.W.EachIs.of_zip e1.length fun q m => ?_)
    have h1 := e1.zip q m
    have hm : q.2.2 ∈ ds := by
      have := (List.of_mem_zip m).2
      rw [← ez]
      exact List.mem_map_of_mem this
    exact rep_reads I _ _ _ (hal _ hm _ hm) (h1.2.mono l) h1.1
  refine PySem.W.sorted_data (R := fun u (b : V × D) => RelV b.1 u ∧ Rep X.K B b.1 b.2) (enc := Prod.snd) hl.isList e1 er (by rw [ez]; exact hal) (by rw [ez]; exact hk) (by rw [List.length_zip, t.length, Nat.min_self, ← t.length]; exact hz)
    (fun b m => ?_) fun out ho eo => ?_
  · have hm : b.2 ∈ ds := by
      rw [← ez]
      exact List.mem_map_of_mem (f := Prod.snd) m
    have := hd _ hm
    omega
  · obtain ⟨g1, g2⟩ := each_back eo
    have hs : ((vs.zip ds).mergeSort (dataLe false Prod.snd)).map (·.2) = sortDs ds := by
      have e3 : ((vs.zip ds).map Prod.snd).mergeSort dle = sortDs ds := by rw [ez]; rfl
      rw [← e3]
      exact PySem.W.sort_maps (Prod.snd : V × D → D) fun a _ b _ => rfl
    rw [hs] at g2
    have hlen : (((vs.zip ds).mergeSort (dataLe false Prod.snd)).map (·.1)).length ≤ sizeLine := by
      rw [List.length_map, List.length_mergeSort, List.length_zip, t.length, Nat.min_self, ← t.length]
      exact hz
    obtain ⟨ep, he'⟩ := PyProof.Rows.sortedAll_at s.heap its (List.toArray out)
    have np := I.hok.fresh (Nat.le_succ s.heap.objs.size)
    exact ⟨.ref _, upd H (s.heap.objs.size + 1) (.lst _), I.laid (t' := s.toks) (fun _ _ => PyProof.Rows.sortedAll_old) (Nat.le_succ _) ⟨hlen, out, ep, g1, he'⟩, rfl, hq _ _ B (.t _) (.make l np _) (t_lst l np g2) q⟩
end
end DL

set_option Elab.async false
set_option linter.all false
set_option maxRecDepth 100000
set_option maxHeartbeats 2000000
/-! DLV: list(reversed(x)). -/
namespace DL
open PySem L2 PyProof.Rows
section
variable {prog : Program} {w : World} {A : Around} {E : Value → Shared → Prop} {s : Shared}
open RT in
theorem rev_extend {R : Result → Shared → Prop} {it l : Addr} {items : Array Value} (hh : A.handled = none) (hit : s.heap.IsRevIter it l ((items.size : Int) - 1)) (hl : s.heap.IsList l items) (hne : l ≠ it) (hn : items.size ≤ sizeLine)
    (S : Addr) (hSi : S ≠ it) (hSl : S ≠ l) (res : Value) (c₀ : Nat) (hS : s.heap.get? S = some { cls := .type "list", data := .seq #[] c₀ })
    (hR : ∀ h' tk acc' c', (∀ b o, b ≠ S → b ≠ it → s.heap.get? b = some o → h'.get? b = some o) → h'.get? S = some { cls := .type "list", dict := none, data := .seq acc' c', slots := #[] } → ItemsOf (fun i v => items[items.size - 1 - i]? = some v) acc' items.size → R (.ok (.ret res)) { s with heap := h', toks := tk }) :
    wpAny (model prog w) A.in1 (Builtin.List.listExtendWith (.ref S) (.ref it) res)
      (fun fin s' => match fin with | .done f => R (.ok f) s' | .again c' => c'.quiet = true ∧ codeAny (model prog w) A c' R s') (fun e s' => R (.error e) s') s := by
  have W := (Walks.listRev (prog := prog) (w := w) (A := A.in1) hh it l hne items).toS
  have hSf : S ∉ [it, l] := by simp only [List.mem_cons, List.not_mem_nil, or_false, not_or]; exact ⟨hSi, hSl⟩
  have hT : s.TypeIs (.ref it) "list_reverseiterator" := hit.typeIs
  have h1 : Builtin.List.listSameRef (.ref S) (.ref it) = false := by simp [Builtin.List.listSameRef, hSi]
  unfold Builtin.List.listExtendWith
  refine wpAny_bind (wpAny_typeOf hT ?_)
  rw [if_neg (by rw [h1]; decide)]
  refine wpAny_bind (wpAny_pyIter_revIter hit ?_)
  refine wpAny_bind (wpAny_holding ?_)
  unfold Builtin.List.listLengthHint
  refine wpAny_bind (wpAny_specialOf hT nolen_lri ?_)
  show wpAny _ A.in1 (specialOf (Value.ref it) (Str.ofString "__length_hint__") >>= _) _ _ _
  refine wpAny_bind (wpAny_specialOf hT hint_lri ?_)
  generalize hid : ("list_reverseiterator.__length_hint__" : String) = id0
  wp_delta
  rw [show splitId id0 = some ("list_reverseiterator", "__length_hint__") from by subst hid; decide +kernel]
  subst hid
  refine wpAny_bind (wpAny_isInstance (b := true) hT (by rw [isSubtype_type]; kernel_rfl) ?_)
  refine wpAny_pure ?_
  rw [if_neg (by decide)]
  have e0 : ((items.size : Nat) : Int) - 1 - ((0 : Nat) : Int) = (items.size : Int) - 1 := by omega
  refine wpAny_pure ⟨plainId_quiet F.plain_extend_loop _, codeAny_extend_loopS W hn _ hSf _ items.size 0 _ _ _ rfl (Nat.zero_le _) ⟨Nat.zero_le _, by rw [e0]; exact hit, hl⟩ hS (ItemsOf.nil _) fun s' acc' c' hm hS' hacc => ?_⟩
  rw [Moved.eq_with hm]
  refine hR s'.heap s'.toks acc' c' (fun b o hb hi e => hm.heap b o (fun hmem => ?_) e) hS' hacc
  rcases List.mem_cons.mp hmem with e' | hmem
  · exact hb e'
  · exact hi (List.mem_singleton.mp hmem)
theorem call_list_rev {it l : Addr} {items : Array Value} {Q : Value → Shared → Prop} (hh : A.handled = none) (hit : s.heap.IsRevIter it l ((items.size : Int) - 1)) (hl : s.heap.IsList l items) (hne : l ≠ it) (hn : items.size ≤ sizeLine)
    (hQ : ∀ h' tk acc' c', (∀ b o, b ≠ it → s.heap.get? b = some o → h'.get? b = some o) → h'.get? s.heap.objs.size = some { cls := .type "list", dict := none, data := .seq acc' c', slots := #[] } → ItemsOf (fun i v => items[items.size - 1 - i]? = some v) acc' items.size → Q (.ref s.heap.objs.size) { s with heap := h', toks := tk }) :
    wpAny (model prog w) A (call (.type "list") [.ref it]) Q E s := by
  refine callType_codes (Q₁ := fun obj s₁ => obj = .ref s.heap.objs.size ∧ s₁ = { s with heap := s.heap.push { cls := .type "list", data := .seq #[] } }) PySem.F.called_list (PySem.F.typeCall_list_1 _) PySem.F.entry_list_init
    (code_list_new _ ⟨rfl, rfl⟩) fun obj s₁ h₁ => ?_
  obtain ⟨rfl, rfl⟩ := h₁
  have hS : (s.heap.push { cls := .type "list", data := .seq #[] }).get? s.heap.objs.size = some { cls := .type "list", data := .seq #[] } := Heap.get?_push_size _ rfl
  obtain ⟨oi, hoi, _⟩ := id hit
  obtain ⟨ol, hol, _⟩ := id hl
  have hSi : s.heap.objs.size ≠ it := Nat.ne_of_gt (Heap.lt_size hoi)
  have hSl : s.heap.objs.size ≠ l := Nat.ne_of_gt (Heap.lt_size hol)
  refine ⟨⟨_, hS, rfl⟩, PySem.F.args_list_init_2 _ _, ?_⟩
  show wpAny _ _ (do let old ← Builtin.List.listItems (.ref s.heap.objs.size); Builtin.List.listUpdate (.ref s.heap.objs.size) (fun _ => #[]); letGo old.toList.reverse; Builtin.List.listExtendWith (.ref s.heap.objs.size) (.ref it) .none) _ _ _
  refine wpAny_bind ?_
  unfold Builtin.List.listItems
  refine wpAny_bind (wpAny_seqItems hS rfl (wpAny_pure ?_))
  show wpAny _ _ (updateSeq s.heap.objs.size (fun _ => #[]) >>= fun _ => letGo (#[] : Array Value).toList.reverse >>= fun _ => Builtin.List.listExtendWith (.ref s.heap.objs.size) (.ref it) .none) _ _ _
  refine wpAny_bind (wpAny_updateSeq hS rfl ?_)
  have hS₂ := Heap.get?_update_self (Obj.mapSeq (fun _ => (#[] : Array Value))) hS rfl
  have oth : ∀ b o, b ≠ s.heap.objs.size → s.heap.get? b = some o → ((s.heap.push { cls := .type "list", data := .seq #[] }).update s.heap.objs.size (Obj.mapSeq (fun _ => (#[] : Array Value)))).get? b = some o :=
    fun b o hb e => (Heap.get?_update_other _ _ (Ne.symm hb)).trans (Heap.get?_push_of_some _ e)
  refine wpAny_bind (wpAny_letGo ?_)
  refine rev_extend (A := A.in1) hh (hit.at fun o e => oth _ _ hSi.symm e) (hl.at fun o e => oth _ _ hSl.symm e) hne hn s.heap.objs.size hSi hSl .none _ hS₂ fun h' tk acc' c' hk hS' hacc => ?_
  exact ⟨rfl, hQ h' tk acc' c' (fun b o hi e => hk b o (Nat.ne_of_lt (Heap.lt_size e)) hi (oth b o (Nat.ne_of_lt (Heap.lt_size e)) e)) hS' hacc⟩
end
section
variable {X : Cx} {W : WX} {G : Hp} {e : Expr} {m : WE} {te : TE} {p p1 p2 pos : Pos}
def tLRev (K : PySem.W.Frag) (te : TE) : TE := fun σ H Q => te σ H fun x H1 => ∃ a xs, x = .ref a ∧ SqL K H1 a xs ∧ ∀ q, H1 q = none → Q (.ref q) (upd H1 q (.lst xs.reverse))
theorem pe_lrev (hc : X.calm = true) (hgl : Gl X "list") (hml : X.mg "list" = none) (hg : Gl X "reversed") (hm : X.mg "reversed" = none) (he : PE X e te)
    (hs : starEach [e] X.env = (false, eval e X.env) :: starEach [] X.env := by rfl) (hs2 : starEach [.Call (.Name "reversed" p) [e] [] p2] X.env = (false, eval (.Call (.Name "reversed" p) [e] [] p2) X.env) :: starEach [] X.env := by rfl) :
    PE X (.Call (.Name "list" p1) [.Call (.Name "reversed" p) [e] [] p2] [] pos) (tLRev X.K te) := by
  refine ⟨fun pins s σ H Q I h => ?_⟩
  refine Call_ (ld_blt I hgl hml boot_list (PyProof.Rows.callWith_type1 (args_cons ?_ hs2) hs2))
  refine Call_ (ld_blt I hg hm PyProof.Rows.boot_reversed (PyProof.Rows.callWith_type1 (args_cons (thn (he.run pins s σ H _ I h) fun u s1 ⟨v, H1, I1, r1, q1⟩ => args_nil ?_) hs) hs rfl))
  obtain ⟨a, xs, ev, hq, q⟩ := q1
  subst ev
  obtain rfl : u = Value.ref a := r1
  obtain ⟨its, rv, p', hz⟩ := I1.list hq
  have hl := rv.length
  obtain ⟨ol, hol, _⟩ := id p'.isList
  refine call_reversed_list p'.isList (args_nil ?_)
  refine call_list_rev (it := s1.heap.objs.size) (l := a) (items := its.toArray) (I1.ok.hd hc) ⟨_, Heap.get?_push_size _ rfl, rfl, rfl⟩ (p'.isList.at fun o e => Heap.get?_push_of_some _ e) (Nat.ne_of_lt (Heap.lt_size hol)) (by rw [List.size_toArray]; omega) fun h' tk acc c' hk hn hi => ?_
  have hz2 : (s1.heap.push (revObj a ((its.toArray.size : Int) - 1))).objs.size = s1.heap.objs.size + 1 := Heap.size_push ..
  refine ⟨.ref _, upd H1 (s1.heap.push (revObj a ((its.toArray.size : Int) - 1))).objs.size (.lst xs.reverse), I1.laid (t' := tk) (fun b o e => hk b o (Nat.ne_of_lt (Heap.lt_size e)) (Heap.get?_push_of_some _ e)) (by rw [hz2]; omega) ⟨by rw [List.length_reverse]; exact hz, acc.toList, c', ?_, by rw [Array.toArray_toList]; exact hn⟩, rfl, q _ (I1.hok.fresh (by rw [hz2]; omega))⟩
  have ea : acc.toList = its.reverse := by
    apply List.ext_getElem?
    intro j
    have hs : acc.size = its.length := by rw [hi.1, List.size_toArray]
    by_cases hj : j < its.length
    · have h1 : acc[j]? = some (acc[j]'(by omega)) := Array.getElem?_eq_getElem (by omega)
      have h2 := hi.2 j _ h1
      rw [Array.getElem?_toList, h1, ← h2, List.getElem?_reverse hj, List.size_toArray]
      simp
    · rw [List.getElem?_eq_none (by rw [Array.length_toList]; omega), List.getElem?_eq_none (by rw [List.length_reverse]; omega)]
  rw [ea]
  exact rv.reverse
/-- list(reversed(x)), x a list -/
def wLRev (t : WE) : WE := fun env Q E => t env (fun x => x.sh ∧ ∃ ds, x.d = .list ds ∧ Q (.t (.lst ds.reverse))) E
theorem de_lrev (hc : X.calm = true) (hgl : Gl X "list") (hml : X.mg "list" = none) (hg : Gl X "reversed") (hm : X.mg "reversed" = none) (he : DE X W G e m)
    (hs : starEach [e] X.env = (false, eval e X.env) :: starEach [] X.env := by rfl) (hs2 : starEach [.Call (.Name "reversed" p) [e] [] p2] X.env = (false, eval (.Call (.Name "reversed" p) [e] [] p2) X.env) :: starEach [] X.env := by rfl) :
    DE X W G (.Call (.Name "list" p1) [.Call (.Name "reversed" p) [e] [] p2] [] pos) (wLRev m) := by
  refine PEi (pe_lrev hc hgl hml hg hm he hs hs2) fun σ H QV ⟨B, env, fp, Q, E, rr, hm, hq, hx⟩ => ?_
  refine ⟨B, env, fp, _, E, rr, hm, fun v1 H1 B1 r1 e1 o1 ⟨s1, ds, ed, hf⟩ => ?_, hx⟩
  obtain ⟨B2, e2, l2, rv1⟩ := o1.view e1 s1
  rw [ed] at rv1
  obtain ⟨a, vs, ev, s, t⟩ := rv1.list e2.bh
  exact ⟨a, vs, ev, s, fun p np => hq _ _ B2 (.t _) (e2.trans (.make e2.bh np _)) (VOk.back e2 (t_lst e2.bh np t.reverse)) hf⟩
end
/-! ### loops over any things -/
theorem for_gd {α : Type} {ds : List PyData} {g : WG} {body : WS} {D : En} {env : Env} (is : List Nat) (os : α → List (Option O)) (I : Nat → α → Prop) (x0 : α) (h0 : env = setL env is (os x0)) (hI : I 0 x0)
    (step : ∀ i d x, ds[i]? = some d → I i x → g d (setL env is (os x)) fun env2 => body { D with nx := NxF (fun x => setL env is (os x)) I (i + 1), ct := NxF (fun x => setL env is (os x)) I (i + 1), bk := D.nx } env2)
    (fin : ∀ x, I ds.length x → D.nx (setL env is (os x))) : FoI ds g body D env := by
  have := for_gs (ls := ds) (enc := id) (g := g) (body := body) (D := D) (env := env) is os I x0 h0 hI step fin
  rwa [List.map_id] at this
theorem oR_f (d : PyData) : oR (.fro d) = .v d := rfl
theorem oR_l (ds : List PyData) : oR (.lst ds) = .b (.lst ds) := rfl
theorem oR_d (ds : List (PyData × PyData)) : oR (.dic ds) = .b (.dic ds) := rfl
theorem oR_ls (ds : List O) : oR (.lsts ds) = .b (.lsts ds) := rfl
end DL

set_option Elab.async false
set_option linter.all false
set_option maxRecDepth 100000
set_option maxHeartbeats 1000000
/-! DLU: a thing held against what is the same, dicts within. -/
namespace DL
open PySem L2 PyProof.Rows
/-- data of a depth below n, its dicts' keys each once -/
def SmOk : Nat → D → Prop
  | _, .none => True
  | _, .bool _ => True
  | _, .int _ => True
  | _, .str _ => True
  | n + 1, .list ds => ∀ d ∈ ds, SmOk n d
  | n + 1, .tuple ds => ∀ d ∈ ds, SmOk n d
  | n + 1, .dict ds => flK ds ∧ (ds.map (·.1)).Nodup ∧ ∀ p ∈ ds, SmOk n p.2
  | 0, .list _ => False
  | 0, .tuple _ => False
  | 0, .dict _ => False
theorem sok_none (n : Nat) : SmOk n .none := by cases n <;> exact True.intro
theorem sok_bool (n : Nat) (b : Bool) : SmOk n (.bool b) := by cases n <;> exact True.intro
theorem sok_int (n : Nat) (b : Int) : SmOk n (.int b) := by cases n <;> exact True.intro
theorem sok_str (n : Nat) (b : Str) : SmOk n (.str b) := by cases n <;> exact True.intro
theorem sok_list {n : Nat} {ds : List PyData} (h : ∀ d ∈ ds, SmOk n d) : SmOk (n + 1) (.list ds) := h
theorem sok_tuple {n : Nat} {ds : List PyData} (h : ∀ d ∈ ds, SmOk n d) : SmOk (n + 1) (.tuple ds) := h
theorem sok_dict0 (n : Nat) : SmOk (n + 1) (.dict []) := ⟨flK_nil, by simp, by simp⟩
theorem RepKV.keysK {K : K0} {B : Hp} : ∀ {kvs : List (Key × V)} {ds : List (D × D)}, RepKV K B kvs ds → (kvs.map (·.1)).map kD = ds.map (·.1)
  | _, _, .nil => rfl
  | _, _, .cons r t => by rw [List.map_cons, List.map_cons, List.map_cons, RepKV.keysK t]
theorem kD_inj {a b : Key} (h : kD a = kD b) : a = b := by
  have := congrArg keyD h
  rw [keyD_kD, keyD_kD] at this
  exact Option.some.inj this
theorem RepKV.two {K : K0} {B B2 : Hp} {F : V → V → Prop} : ∀ {ks ls : List (Key × V)} {ds : List (D × D)}, RepKV K B ks ds → RepKV K B2 ls ds → (∀ x y d, d ∈ ds.map (·.2) → Rep K B x d → Rep K B2 y d → F x y) → Paired (fun p q => p.1 = q.1 ∧ F p.2 q.2) ks ls
  | _, _, _, .nil, h, _ => by cases h; exact .nil
  | _, _, _, .cons r t, h, f => by
    generalize hd : kD _ = kd at h
    cases h with
    | cons r2 t2 =>
      refine .cons ⟨kD_inj (by first | exact hd | rfl), f _ _ _ (by simp) r r2⟩ (RepKV.two t t2 fun x y d m => f x y d (by simp at m ⊢; exact .inr m))
section
variable {X : Cx} {pins : List (Addr × Obj)} {σ : L2.St} {H : Hp} {s : Shared}
open PySem.W (EqTree)
theorem all_true (n : Nat) : ((List.range n).all fun _ => true) = true := List.all_eq_true.mpr fun _ _ => rfl
theorem paired_val {κ : Type} [DecidableEq κ] {F : Value → Value → Prop} : ∀ {ka kb : List (κ × Value)}, Paired (fun p q => p.1 = q.1 ∧ F p.2 q.2) ka kb → (ka.map (·.1)).Nodup → ∀ k v y, (k, v) ∈ ka → valueAt kb k = some y → F v y
  | _, _, .nil, _, _, _, _, m, _ => by simp at m
  | p :: ps, q :: qs, .cons h t, nd, k, v, y, m, e => by
    rw [List.map_cons] at nd
    obtain ⟨n1, n2⟩ := List.nodup_cons.mp nd
    by_cases hk : q.1 = k
    · have e2 : valueAt (q :: qs) k = some q.2 := by simp [valueAt, List.find?_cons, hk]
      rw [e2] at e
      cases e
      rcases List.mem_cons.mp m with rfl | m
      · exact h.2
      · exact absurd (List.mem_map_of_mem (f := (·.1)) m) (by simp only; rw [← hk, ← h.1]; exact n1)
    · have e2 : valueAt (q :: qs) k = valueAt qs k := by simp [valueAt, List.find?_cons, hk]
      rw [e2] at e
      rcases List.mem_cons.mp m with rfl | m
      · exact absurd h.1.symm hk
      · exact paired_val t n2 k v y m e
theorem paired_comp {F : V → V → Prop} {G : Value → Value → Prop} (hg : ∀ x y v u, F x y → RelV x v → RelV y u → G v u) : ∀ {ks ls : List (Key × V)} {va vb : List (Key × Value)}, Paired (fun p q => p.1 = q.1 ∧ F p.2 q.2) ks ls → KV ks va → KV ls vb → Paired (fun (p q : Key × Value) => p.1 = q.1 ∧ G p.2 q.2) va vb
  | _, _, _, _, .nil, .nil, .nil => .nil
  | _, _, _, _, .cons h t, .cons h1 t1, .cons h2 t2 => .cons ⟨h1.1.symm.trans (h.1.trans h2.1), hg _ _ _ _ h.2 h1.2 h2.2⟩ (paired_comp hg t t1 t2)
theorem paired_keys {κ : Type} {F : Value → Value → Prop} : ∀ {ka kb : List (κ × Value)}, Paired (fun p q => p.1 = q.1 ∧ F p.2 q.2) ka kb → ka.map (·.1) = kb.map (·.1)
  | _, _, .nil => rfl
  | _, _, .cons h t => by rw [List.map_cons, List.map_cons, h.1, paired_keys t]
theorem same_tree (I : Inv X pins σ H s) : ∀ (n : Nat) (d : D) (x y : V) (v u : Value), SmOk n d → Rep X.K H x d → Rep X.K H y d → RelV x v → RelV y u → EqTree X.prog X.w s n v u true := by
  intro n
  induction n with
  | zero =>
    intro d x y v u h rx ry ex ey
    cases d with
    | none => cases rx; cases ry; rw [show v = Value.none from ex, show u = Value.none from ey]; exact .same
    | bool b => cases rx; cases ry; rw [show v = Value.bool b from ex, show u = Value.bool b from ey]; exact .same
    | int i =>
      cases rx; cases ry
      obtain ⟨t, rfl⟩ := (show ∃ t, v = Value.int i t from ex)
      obtain ⟨t2, rfl⟩ := (show ∃ t, u = Value.int i t from ey)
      exact .leaf fun A _ => by have := SeqAt.EqAt.int_int (A := A) (s := s) i t i t2; rwa [beq_self_eq_true] at this
    | str i =>
      cases rx; cases ry
      obtain ⟨t, rfl⟩ := (show ∃ t, v = Value.str i t from ex)
      obtain ⟨t2, rfl⟩ := (show ∃ t, u = Value.str i t from ey)
      exact .leaf fun A _ => by have := SeqAt.EqAt.str_str (A := A) (s := s) i t i t2; rwa [beq_self_eq_true] at this
    | _ => exact h.elim
  | succ n ih =>
    intro d x y v u h rx ry ex ey
    cases d with
    | none => cases rx; cases ry; rw [show v = Value.none from ex, show u = Value.none from ey]; exact .same
    | bool b => cases rx; cases ry; rw [show v = Value.bool b from ex, show u = Value.bool b from ey]; exact .same
    | int i =>
      cases rx; cases ry
      obtain ⟨t, rfl⟩ := (show ∃ t, v = Value.int i t from ex)
      obtain ⟨t2, rfl⟩ := (show ∃ t, u = Value.int i t from ey)
      exact .leaf fun A _ => by have := SeqAt.EqAt.int_int (A := A) (s := s) i t i t2; rwa [beq_self_eq_true] at this
    | str i =>
      cases rx; cases ry
      obtain ⟨t, rfl⟩ := (show ∃ t, v = Value.str i t from ex)
      obtain ⟨t2, rfl⟩ := (show ∃ t, u = Value.str i t from ey)
      exact .leaf fun A _ => by have := SeqAt.EqAt.str_str (A := A) (s := s) i t i t2; rwa [beq_self_eq_true] at this
    | list ds =>
      obtain ⟨a, vs, rfl, sa, ta⟩ := rx.list_inv
      obtain ⟨b, ws, rfl, sb, tb⟩ := ry.list_inv
      cases (show v = Value.ref a from ex)
      cases (show u = Value.ref b from ey)
      by_cases e : a = b
      · subst e; exact .same
      obtain ⟨us, r1, p1, _⟩ := I.list sa
      obtain ⟨zs, r2, p2, _⟩ := I.list sb
      have l1 : us.length = ds.length := by rw [← r1.length, ta.length]
      have l2 : zs.length = ds.length := by rw [← r2.length, tb.length]
      have := EqTree.lists (prog := X.prog) (w := X.w) (n := n) (e := fun _ => true) e p1.isList p2.isList (by simp; omega) (fun j h1 h2 => by
        have hj : j < ds.length := by simpa [l1] using h1
        obtain ⟨x1, g1, q1⟩ := ta.get (List.getElem?_eq_getElem hj)
        obtain ⟨x2, g2, q2⟩ := tb.get (List.getElem?_eq_getElem hj)
        obtain ⟨u1, f1, w1⟩ := r1.get g1
        obtain ⟨u2, f2, w2⟩ := r2.get g2
        have k1 : us.toArray[j] = u1 := by
          have := (List.getElem?_eq_some_iff.mp f1).2
          simpa using this
        have k2 : zs.toArray[j] = u2 := by
          have := (List.getElem?_eq_some_iff.mp f2).2
          simpa using this
        rw [k1, k2]
        exact ih _ x1 x2 u1 u2 (h _ (List.getElem_mem hj)) q1 q2 w1 w2)
      rwa [all_true] at this
    | tuple ds =>
      obtain ⟨a, vs, rfl, sa, ta⟩ := rx.tup_inv
      obtain ⟨b, ws, rfl, sb, tb⟩ := ry.tup_inv
      cases (show v = Value.ref a from ex)
      cases (show u = Value.ref b from ey)
      by_cases e : a = b
      · subst e; exact .same
      obtain ⟨us, r1, p1, _⟩ := I.tuple sa
      obtain ⟨zs, r2, p2, _⟩ := I.tuple sb
      have l1 : us.length = ds.length := by rw [← r1.length, ta.length]
      have l2 : zs.length = ds.length := by rw [← r2.length, tb.length]
      have := EqTree.tuples (prog := X.prog) (w := X.w) (n := n) (e := fun _ => true) e (show s.heap.IsTuple a us.toArray from p1) (show s.heap.IsTuple b zs.toArray from p2) (fun j h1 h2 => by
        have hj : j < ds.length := by simpa [l1] using h1
        obtain ⟨x1, g1, q1⟩ := ta.get (List.getElem?_eq_getElem hj)
        obtain ⟨x2, g2, q2⟩ := tb.get (List.getElem?_eq_getElem hj)
        obtain ⟨u1, f1, w1⟩ := r1.get g1
        obtain ⟨u2, f2, w2⟩ := r2.get g2
        have k1 : us.toArray[j] = u1 := by
          have := (List.getElem?_eq_some_iff.mp f1).2
          simpa using this
        have k2 : zs.toArray[j] = u2 := by
          have := (List.getElem?_eq_some_iff.mp f2).2
          simpa using this
        rw [k1, k2]
        exact ih _ x1 x2 u1 u2 (h _ (List.getElem_mem hj)) q1 q2 w1 w2)
      rw [all_true] at this
      simpa [l1, l2] using this
    | dict ds =>
      obtain ⟨fl, h⟩ := h
      obtain ⟨a, ks, rfl, sa, ta⟩ := rx.dict_inv fl
      obtain ⟨b, ls, rfl, sb, tb⟩ := ry.dict_inv fl
      cases (show v = Value.ref a from ex)
      cases (show u = Value.ref b from ey)
      by_cases e : a = b
      · subst e; exact .same
      obtain ⟨_, ya, va, ra, da⟩ := dk_rd I.hok sa
      obtain ⟨_, yb, vb, rb, db⟩ := dk_rd I.hok sb
      obtain ⟨hn, hv⟩ := h
      have two := RepKV.two (F := fun x y => ∀ v u, RelV x v → RelV y u → EqTree X.prog X.w s n v u true) ta tb fun x y d m r1 r2 v u e1 e2 => by
        obtain ⟨p, mp, rfl⟩ := List.mem_map.mp m
        exact ih _ x y v u (hv p mp) r1 r2 e1 e2
      have nk : (va.map (·.1)).Nodup := by
        rw [← ra.keys]
        have := ta.keysK
        rw [← this] at hn
        exact (List.pairwise_map.mp hn).imp fun h e => h (by rw [e])
      have pv := paired_comp (F := fun x y => ∀ v u, RelV x v → RelV y u → EqTree X.prog X.w s n v u true) (G := fun v u => EqTree X.prog X.w s n v u true) (fun x y v u f e1 e2 => f v u e1 e2) two ra rb
      have := EqTree.dicts (prog := X.prog) (w := X.w) (n := n) (e := fun _ => true) e ya yb da db fun k v y m hy => paired_val (F := fun v y => EqTree X.prog X.w s n v y true) pv nk k v y m hy
      have hlen : va.length = vb.length := Paired.length pv
      have hall : (va.all fun p => (valueAt vb p.1).isSome && true) = true := by
        rw [List.all_eq_true]
        intro p mp
        have hk : p.1 ∈ vb.map (·.1) := by
          have e2 := paired_keys (F := fun v y => EqTree X.prog X.w s n v y true) pv
          rw [← e2]; exact List.mem_map_of_mem mp
        obtain ⟨q, mq, eq⟩ := List.mem_map.mp hk
        have : (vb.find? fun r => decide (r.1 = p.1)).isSome := by
          rw [List.find?_isSome]
          exact ⟨q, mq, by simp [eq]⟩
        simp [valueAt, this]
      rw [hlen, hall] at this
      simpa using this
/-- held against the same -/
def cEqS : Op2B := fun x y Q => (x = y ∧ (∀ ds, x ≠ .dict ds)) ∧ SmOk 40 x ∧ Q true
theorem opEqS (hu : X.A.units + 64 < cLine) : OpR X (compareOp .Eq) (rc2 X.K cEqS) := by
  intro pins s σ H x y v u Q I rx ry ⟨B, dx, dy, Q', l, hx, hy, ⟨⟨e, hnd⟩, hs, hf⟩, hq⟩
  subst e
  have fin : EP X pins σ Q (.bool true) s := ⟨.bl true, H, I, rfl, hq _ hf⟩
  have flat : flatD dx = true → _ := fun hfl => op_eq pins s σ H x y v u Q I rx ry ⟨by cases hx <;> cases hy <;> first | rfl | (simp [flatD] at hfl; done), by
    have : decide (x = y) = true := by cases hx <;> cases hy <;> first | (simp [flatD] at hfl; done) | (simp; done)
    rw [this]; exact hq _ hf⟩
  cases dx with
  | list ds =>
    obtain ⟨a, vs, rfl, sa, ta⟩ := hx.list_inv
    obtain ⟨b, ws, rfl, sb, tb⟩ := hy.list_inv
    cases (show v = Value.ref a from rx)
    cases (show u = Value.ref b from ry)
    obtain ⟨us, r1, p1, _⟩ := I.list sa
    obtain ⟨zs, r2, p2, _⟩ := I.list sb
    have l1 : us.length = ds.length := by rw [← r1.length, ta.length]
    have l2 : zs.length = ds.length := by rw [← r2.length, tb.length]
    refine PySem.W.eq_listsT (n := 39) (e := fun _ => true) p1.isList p2.isList (by simp; omega) (fun j h1 h2 => ?_) (by omega) (by rw [all_true]; exact fin)
    have hj : j < ds.length := by simpa [l1] using h1
    obtain ⟨x1, g1, q1⟩ := ta.get (List.getElem?_eq_getElem hj)
    obtain ⟨x2, g2, q2⟩ := tb.get (List.getElem?_eq_getElem hj)
    obtain ⟨u1, f1, w1⟩ := r1.get g1
    obtain ⟨u2, f2, w2⟩ := r2.get g2
    have k1 : us.toArray[j] = u1 := by
      have := (List.getElem?_eq_some_iff.mp f1).2
      simpa using this
    have k2 : zs.toArray[j] = u2 := by
      have := (List.getElem?_eq_some_iff.mp f2).2
      simpa using this
    rw [k1, k2]
    exact same_tree I 39 _ x1 x2 u1 u2 (hs _ (List.getElem_mem hj)) q1 q2 w1 w2
  | tuple ds =>
    obtain ⟨a, vs, rfl, sa, ta⟩ := hx.tup_inv
    obtain ⟨b, ws, rfl, sb, tb⟩ := hy.tup_inv
    cases (show v = Value.ref a from rx)
    cases (show u = Value.ref b from ry)
    obtain ⟨us, r1, p1, _⟩ := I.tuple sa
    obtain ⟨zs, r2, p2, _⟩ := I.tuple sb
    have l1 : us.length = ds.length := by rw [← r1.length, ta.length]
    have l2 : zs.length = ds.length := by rw [← r2.length, tb.length]
    refine PySem.W.eq_tuplesT (n := 39) (e := fun _ => true) (show s.heap.IsTuple a us.toArray from p1) (show s.heap.IsTuple b zs.toArray from p2) (fun j h1 h2 => ?_) (by omega) (by rw [all_true]; simpa [l1, l2] using fin)
    have hj : j < ds.length := by simpa [l1] using h1
    obtain ⟨x1, g1, q1⟩ := ta.get (List.getElem?_eq_getElem hj)
    obtain ⟨x2, g2, q2⟩ := tb.get (List.getElem?_eq_getElem hj)
    obtain ⟨u1, f1, w1⟩ := r1.get g1
    obtain ⟨u2, f2, w2⟩ := r2.get g2
    have k1 : us.toArray[j] = u1 := by
      have := (List.getElem?_eq_some_iff.mp f1).2
      simpa using this
    have k2 : zs.toArray[j] = u2 := by
      have := (List.getElem?_eq_some_iff.mp f2).2
      simpa using this
    rw [k1, k2]
    exact same_tree I 39 _ x1 x2 u1 u2 (hs _ (List.getElem_mem hj)) q1 q2 w1 w2
  | dict ds => exact absurd rfl (hnd ds)
  | _ => exact flat rfl
end
end DL

set_option Elab.async false
set_option linter.all false
set_option maxRecDepth 100000
set_option maxHeartbeats 1000000
/-! DLL: an own thing looked at as if still, while what comes of it leans on nothing of it. -/
namespace DL
open PySem L2 PyProof.Rows
def O.leanL : O → Prop
  | .lst ds => noLs ds = true
  | .fro d => noL d = true
  | _ => False
def R.lean : R → Prop
  | .v d => noL d = true
  | .t (.lst ds) => noLs ds = true
  | .t (.lsts os) => ∀ o ∈ os, o.leanL
  | _ => False
theorem R.lean_v (d : D) : (R.v d).lean = (noL d = true) := rfl
theorem R.lean_t (ds : List D) : (R.t (.lst ds)).lean = (noLs ds = true) := rfl
theorem R.lean_ts (os : List O) : (R.t (.lsts os)).lean = ∀ o ∈ os, o.leanL := rfl
theorem O.leanL_lst (ds : List D) : (O.lst ds).leanL = (noLs ds = true) := rfl
theorem O.leanL_fro (d : D) : (O.fro d).leanL = (noL d = true) := rfl
/-- an expression, with the thing at a slot still the while -/
def wLook (i : Nat) (m : WE) : WE := fun env Q E => m (frzAt env i) (fun r => r.lean ∧ Q r) E
section
variable {K : K0}
theorem OwnAll.cutL {B B0 H : Hp} {g : List Addr} (hg : ∀ a ∈ g, ∃ u, B a = some u ∧ isLD u) : ∀ {vs : List V} {os : List O} {f : List Addr}, (∀ o ∈ os, o.leanL) → OwnAll K B H vs os f → OwnAll K (cutB B B0 g) H vs os f
  | _, _, _, _, .nil => .nil
  | _, o :: _, _, h, .cons x t => by
    refine .cons ?_ (OwnAll.cutL hg (fun o m => h o (List.mem_cons_of_mem _ m)) t)
    have hl := h o (List.mem_cons_self ..)
    cases x with
    | fro r => exact .fro (Rep.cutL hg hl r)
    | lst h' r => exact .lst h' (RepAll.cutL hg hl r)
    | _ => exact hl.elim
theorem look_ok {X : Cx} {W : WX} {G : Hp} {i : Nat} {m : WE} {σ : L2.St} {H : Hp} {QV : VK} (h : tD X W G (wLook i m) σ H QV) : tD X W G m σ H QV := by
  obtain ⟨B, env, fp, Q, E, rr, hm, hq, hx⟩ := h
  have same : frzAt env i = env → tD X W G m σ H QV := fun e => by
    refine ⟨B, env, fp, fun r => r.lean ∧ Q r, E, rr, ?_, fun v H' B' r e2 w q => hq v H' B' r e2 w q.2, hx⟩
    have hm : m (frzAt env i) (fun r => r.lean ∧ Q r) E := hm
    rw [e] at hm; exact hm
  by_cases own : ∃ o0, env[i]? = some (some o0) ∧ ∀ a, o0 ≠ .raw a
  · obtain ⟨o0, hi, hr⟩ := own
    obtain ⟨v, g, h1, h2, h3, h4, h5⟩ := rr.put hi hr
    have l := addB_le g rr.bh
    obtain ⟨fp', rr'⟩ := h5 (addB B H g) H (.fro o0.frz) [] l (addB_bh g rr.bh) (fun _ _ _ h => h) (fun a o _ n z => by rw [addB_out n]; exact z)
      (.fro (h2.freeze l fun a m u q => by rw [addB_in m]; exact q)) (by simp) fun a m => absurd m (by simp)
    have fz : frzAt env i = env.set i (some (.fro o0.frz)) := by
      unfold frzAt
      rw [hi]
      cases o0 <;> first | rfl | exact (hr _ rfl).elim
    refine ⟨addB B H g, frzAt env i, fp', _, E, by rw [fz]; exact rr', hm, fun v' H' B' r e2 w ⟨le, q⟩ => ?_, hx⟩
    have hg' : ∀ a ∈ g, ∃ u, B' a = some u ∧ isLD u := fun a m => by
      obtain ⟨u, hu, l⟩ := h2.ld a m
      exact ⟨u, e2.le _ _ (by rw [addB_in m]; exact hu), l⟩
    have eC : Ext H B H' (cutB B' B g) := ⟨e2.same, fun a o h => by
      rw [cutB_out (fun m => by rw [m.2] at h; cases h)]
      exact e2.le _ _ (l _ _ h), (cutB_le g).trans e2.bh, fun a o h n => by
      by_cases m : a ∈ g
      · unfold cutB; rw [if_pos ⟨m, n⟩]
      · rw [cutB_out fun z => m z.1]
        exact e2.new a o h (by rw [addB_out m]; exact n)⟩
    refine hq v' H' (cutB B' B g) r eC ?_ q
    cases r with
    | v d => exact Rep.cutL hg' le w
    | t o =>
      obtain ⟨g', w, ng, hgn⟩ := w
      have out : ∀ a ∈ g', H a = none ∧ cutB B' B g a = none := fun a m => ⟨(hgn a m).1, (cutB_le g).none (hgn a m).2⟩
      cases w with
      | lst h r => exact ⟨_, .lst h (RepAll.cutL hg' le r), ng, out⟩
      | lsts h r => exact ⟨_, .lsts h (OwnAll.cutL hg' le r), ng, out⟩
      | _ => exact le.elim
    | b o => exact le.elim
  · refine same ?_
    unfold frzAt
    split
    · rfl
    · rename_i o hr e
      exact absurd ⟨o, e, hr⟩ own
    · rfl
theorem de_look {X : Cx} {W : WX} {G : Hp} {i : Nat} {m : WE} {e : Expr} (h : DE X W G e m) : DE X W G e (wLook i m) := PEi h fun σ H Q x => look_ok x
end
section
variable {X : Cx} {W : WX} {G : Hp} {tg iter elt : Expr} {ifs : List Expr} {scope : Scope} {own : List (Str × Nat)} {it : WI} {g : WG} {c : WT} {t : WE} {pos : Pos}
theorem ds_letLook {i k : Nat} {y : Str} {py spos : Pos} (hc : X.calm = true) (hN : X.N.Nodup) (hy : X.N[i]? = some y) (hyl : X.env.scope.names.lookup y = some .local)
    (hsw : swapsWith (.ListComp elt [⟨tg, iter, ifs, 0⟩] scope pos) (some (.Name y py)) spos.line X.env = pure true) (hi : DIc X W G tg iter it) {N : List Str} {sc : Scope} (ok : blkC N sc scope own = true) (eN : X.N = N) (eS : X.env.scope = sc)
    (hg : ∀ s H C cl fp, DG (Bk X scope s H C cl fp) G (own.map (·.2)) tg g) (ht : ∀ s H C cl fp, PTs (Bk X scope s H C cl fp) ifs (tDT X W0 G c)) (he : ∀ s H C cl fp, DE (Bk X scope s H C cl fp) W0 G elt t)
    (hs : ∀ x, foldedSetIterable iter X.env x = pure x) : DS X W G (.Assign [.Name y py] (.ListComp elt [⟨tg, iter, ifs, 0⟩] scope pos) spos) (wLet i (wLook k (wLcO it (own.map (·.2)) g c t))) :=
  PSi (ps_setLc (g := tDG X G (own.map fun p : Str × Nat => p.2) g) (tt := tDT X W0 G c) (te := tD X W0 G t) hc hN hy hyl hsw hi (by subst eN eS; exact blkOk_by ok) hg ht he hs) fun D σ H h => let_ok (fun _ _ _ h => lcO_ok (look_ok h)) H h
theorem ds_setLook {i k : Nat} {y : Str} {py spos : Pos} (hc : X.calm = true) (hN : X.N.Nodup) (hy : X.N[i]? = some y) (hyl : X.env.scope.names.lookup y = some .local)
    (hsw : swapsWith (.ListComp elt [⟨tg, iter, ifs, 0⟩] scope pos) (some (.Name y py)) spos.line X.env = pure true) (hi : DIc X W G tg iter it) {N : List Str} {sc : Scope} (ok : blkC N sc scope own = true) (eN : X.N = N) (eS : X.env.scope = sc)
    (hg : ∀ s H C cl fp, DG (Bk X scope s H C cl fp) G (own.map (·.2)) tg g) (ht : ∀ s H C cl fp, PTs (Bk X scope s H C cl fp) ifs (tDT X W0 G c)) (he : ∀ s H C cl fp, DE (Bk X scope s H C cl fp) W0 G elt t)
    (hs : ∀ x, foldedSetIterable iter X.env x = pure x) : DS X W G (.Assign [.Name y py] (.ListComp elt [⟨tg, iter, ifs, 0⟩] scope pos) spos) (wAsg i (wLook k (wLcO it (own.map (·.2)) g c t))) :=
  PSi (ps_setLc (g := tDG X G (own.map fun p : Str × Nat => p.2) g) (tt := tDT X W0 G c) (te := tD X W0 G t) hc hN hy hyl hsw hi (by subst eN eS; exact blkOk_by ok) hg ht he hs) fun D σ H h => asg_ok (fun _ _ _ h => lcO_ok (look_ok h)) H h
end
end DL

set_option Elab.async false
set_option linter.all false
set_option maxRecDepth 100000
set_option maxHeartbeats 1000000
/-! DLN: sorted, of a text. -/
namespace DL
open PySem L2 PyProof.Rows
def sgS (x : Str) : List Str := x.cps.toList.map fun c => ⟨#[c]⟩
def sortedF : F1
  | .str x, Q => x.cps.size ≤ sizeLine ∧ ∀ ys : List Str, ordS (sgS x) ys → Q (.t (.lst (ys.map PyData.str)))
  | d, Q => sortedE d Q
theorem sortedF_s (x : Str) (Q : R → Prop) : sortedF (.str x) Q = (x.cps.size ≤ sizeLine ∧ ∀ ys : List Str, ordS (sgS x) ys → Q (.t (.lst (ys.map PyData.str)))) := rfl
section
variable {X : Cx}
theorem sortedAnyT (hcalm : X.calm = true) : CallR X (.builtin "sorted") (fun xs H Q => ∃ x : Str, xs = [.str x] ∧ x.cps.size ≤ sizeLine ∧
    ∀ ys p, ys.Perm (sgS x) → sortedS ys = true → H p = none → Q (.ref p) (upd H p (.lst (ys.map V.str)))) := by
  intro pins s σ H xs us Q I r q
  obtain ⟨x, ex, hz, q⟩ := q
  subst ex
  obtain ⟨u, eu, rx⟩ := vals1 r
  subst eu
  obtain ⟨t, rfl⟩ : ∃ t, u = Value.str x t := rx
  refine Calls.call_function_entry PyProof.Rows.kind_sorted PyProof.Rows.plain_sorted PyProof.Rows.entry_sorted (PyProof.Rows.args_sorted1 _) ?_
  unfold Builtin.«sorted»
  refine wpAny_bind (m := checkCount "sorted" 1 1 _) (wpAny_pure ?_)
  refine wpAny_bind (wpAny_collect_str (A := X.A.in1) (I.ok.hd hcalm) x t (fun s' acc hk hg hd ho hacc => ?_) hz)
  obtain ⟨h', g', d', tk, o'⟩ := s'
  simp only at hk hg hd ho
  subst hg hd ho
  have hl : (sgS x).length = x.cps.size := by rw [sgS, List.length_map, Array.length_toList]
  have hal : acc.toList.length = (sgS x).length := by rw [Array.length_toList, hacc.1, hl]
  have h17 : (sgS x).length ≤ sizeLine := by rw [hl]; exact hz
  have hS : StrsAre acc.toList (sgS x) := strs_at hal fun j v e => by
    obtain ⟨c, u, e1, e2⟩ := hacc.2 j v (by rw [← Array.getElem?_toList]; exact e)
    exact ⟨⟨#[c]⟩, u, by rw [sgS, List.getElem?_map, Array.getElem?_toList, e1]; rfl, e2⟩
  have I1 : Inv X pins σ H { s with heap := h', toks := tk } := I.kept hk
  show wpAny _ _ _ _ _ { s with heap := h', toks := tk }
  refine wpAny_bind (wpAny_newList ?_ (by rw [hal]; exact h17))
  have hoL : (h'.push (seqObj "list" acc.toList.toArray 0)).get? h'.objs.size = some (seqObj "list" acc.toList.toArray 0) := Heap.get?_push_size _ rfl
  show wpAny _ _ _ _ _ { s with heap := h'.push (seqObj "list" acc.toList.toArray 0), toks := tk }
  refine wpAny_bind (wpAny_holding (wpAny_call_entry PyProof.Rows.slot_list_sort ⟨_, hoL, rfl⟩ PyProof.Rows.entry_list_sort
    (list_sort_treeKAny strKind_oneLt (s := { s with heap := h'.push (seqObj "list" acc.toList.toArray 0), toks := tk }) hoL hS.keysOf (fun v₁ v₂ rest e => keyKind_strs (by rw [← e]; exact hS)) (by rw [hal]; exact h17) fun st' hp hs => ⟨_, rfl, ?_⟩)
    (PyProof.Rows.args_list_sort _)))
  obtain ⟨ys, g1, g2, g3⟩ := sorted_out_str hS hp hs
  obtain ⟨e', he'⟩ := PyProof.Rows.sortedHeap_at (vs := acc.toList) (out := (arrOf st').map (·.2)) hoL
  have hlen : (ys.map V.str).length ≤ sizeLine := by
    rw [List.length_map, g2.length_eq]
    exact h17
  refine wpAny_pure ⟨_, rfl, .ref h'.objs.size, upd H h'.objs.size (.lst (ys.map V.str)), I1.laid (t' := tk) (fun b u e => ?_) (Nat.le_refl _)
    (show ObjOk X.prog X.w _ _ _ (.lst (ys.map V.str)) from ⟨hlen, ((arrOf st').map (·.2)).toList, e', vals_of_strs g1, by rw [Array.toArray_toList]; exact he'⟩), rfl, q ys _ g2 g3 (I1.hok.fresh (Nat.le_refl _))⟩
  have hb : b < h'.objs.size := Heap.lt_size e
  rw [PyProof.Rows.sortedHeap_old (Nat.ne_of_lt hb) (by rw [size_push']; exact Nat.lt_succ_of_lt hb)]
  exact Heap.get?_push_of_some _ e
theorem cSortedF (hc : X.calm = true) (hu : X.A.units + 64 < PySem.cLine) : CallR X (.builtin "sorted") (rB X.K (f1s sortedF)) := by
  intro pins s σ H xs us QV I rv ⟨B, fp, rs, Q, l, x, hf, hq⟩
  obtain ⟨a, e, sh, hg⟩ := f1s_inv hf
  have key : ∀ {g : F1}, g a.d Q → f1s g rs Q := by
    intro g hg2
    subst e
    exact ⟨sh, hg2⟩
  by_cases old : sortedE a.d Q
  · exact cSortedE hc hu pins s σ H xs us QV I rv ⟨B, fp, rs, Q, l, x, key old, hq⟩
  clear key hf
  subst e
  obtain ⟨v, e, hv⟩ := x.one_sh sh
  subst e
  generalize a.d = d at hv hg old
  cases d <;> first | exact (old hg).elim | skip
  rename_i z
  obtain ⟨hz, hg⟩ := hg
  have e : v = V.str z := by cases hv with | rep r => cases r; rfl
  subst e
  exact sortedAnyT hc pins s σ H _ us QV I rv ⟨z, rfl, hz, fun ms p' h1 h2 np => hq _ _ B (.t _) (.make l np _) (t_lst l np (.strs ms)) (hg ms ⟨h1, h2⟩)⟩
end
end DL

set_option Elab.async false
set_option linter.all false
set_option maxRecDepth 100000
set_option maxHeartbeats 1000000
/-! DLP: comprehensions whose items may raise and that hold own things. -/
namespace DL
open PySem L2 PyProof.Rows
def LcOE (env : Env) (ds : List PyData) (vs : List Nat) (g : WG) (c : WT) (t : WE) (Q : R → Prop) (E : Str → Prop) : Prop := ∃ P : Nat → List O → Prop, P 0 [] ∧
  (∀ i d acc, ds[i]? = some d → P i acc → g d (wipeE env vs) fun env2 => c env2 (fun k => if k = true then t env2 (fun r => r.st ∧ acc.length < sizeLine ∧ P (i + 1) (acc ++ [r.o])) E else P (i + 1) acc) noE) ∧
  ∀ acc, P ds.length acc → Q (.t (.lsts acc))
def wLcOE (it : WI) (vs : List Nat) (g : WG) (c : WT) (t : WE) : WE := fun env Q E => it env (fun ds => LcOE env ds vs g c t Q E) E
theorem wLcOE_eq (it : WI) (vs : List Nat) (g : WG) (c : WT) (t : WE) (env : Env) (Q : R → Prop) (E : Str → Prop) : wLcOE it vs g c t env Q E = it env (fun ds => LcOE env ds vs g c t Q E) E := rfl
section
variable {X : Cx} {W : WX} {G : Hp} {tg iter elt : Expr} {ifs : List Expr} {scope : Scope} {own : List (Str × Nat)} {it : WI} {g : WG} {c : WT} {t : WE} {pos : Pos}
theorem lcOE_ok {σ : L2.St} {H : Hp} {QV : VK} {vs : List Nat} (h : tD X W G (wLcOE it vs g c t) σ H QV) :
    tLcE (tDIc X W G it) (tDG X G vs g) (tDT X W0 G c) (fun σ => tD X (fun cls d _ H => W cls d σ H) G t) vs σ H QV := by
  obtain ⟨B, env, fp, Q, E, rr, hm, hq, hx⟩ := h
  refine ⟨B, env, fp, _, E, rr, hm, fun J H1 B1 ds e1 wk ⟨P, p0, pt, pe⟩ L nL => ?_, hx⟩
  have out : ∀ {H2 B2 : Hp}, RR X.K G B2 env fp σ H2 → L ∉ fp := fun {H2 B2} r2 m => by
    obtain ⟨u, hu⟩ := (rr.ext e1).own.dom L m
    rw [nL] at hu; cases hu
  have gL : G L = none := (rr.ext e1).gh.none nL
  let Iv : Nat → Hp → Prop := fun i H2 => ∃ B2 acc vs2 f, Le B1 B2 ∧ RR X.K G B2 env fp σ H2 ∧ B2 L = none ∧ H2 L = some (.lst vs2) ∧ OwnAll X.K B2 H2 vs2 acc f ∧ f.Nodup ∧ L ∉ f ∧ (∀ a ∈ f, H1 a = none ∧ B2 a = none) ∧
    (∀ a o, H1 a = some o → H2 a = some o) ∧ (∀ a o, H1 a = some o → B1 a = none → B2 a = none) ∧ P i acc
  refine ⟨fun i m H2 => m = ds.length - i ∧ i ≤ ds.length ∧ Iv i H2,
    ⟨_, rfl, Nat.zero_le _, B1, [], [], [], .refl _, (rr.ext e1).beside (out (rr.ext e1)) (e1.bh.none nL) gL, e1.bh.none nL, upd_same, .nil, by simp, by simp, by simp, fun a o q => upd_keep q (ne_of_none q nL), fun _ _ _ n => n, p0⟩, ?_⟩
  rintro i m H2 ⟨rfl, hle, B2, acc, vs2, f, l2, rr2, bL, hL, ra, nf, Lf, hf, s2, n2, pi⟩
  by_cases hlt : i < ds.length
  · refine .inr ⟨wk.go i H2 B2 l2 rr2.bh s2 hlt, fun H' => Iv (i + 1) H', fun H' z => ⟨_, (by omega), rfl, hlt, z⟩, fun y H3 hy => ?_⟩
    obtain ⟨dd, B3, hd, e3, rp⟩ := wk.yld i H2 y H3 B2 hlt l2 rr2.bh s2 hy
    obtain ⟨fpw, rrw⟩ := (rr2.ext e3).wipe vs
    refine ⟨B3, _, fpw, dd, _, rrw, rp, pt i dd acc hd pi, fun σ4 env4 fp4 rr4 t4 q4 => ⟨?_, ?_⟩⟩
    · have := t4.wipe
      rw [this]
      exact (Touch.wipe ⟨wipe_length σ vs, fun j nj => by rw [wipe_get, if_neg nj]⟩)
    · refine ⟨B3, env4, fp4, _, noE, rr4, q4, fun k H5 B5 e5 q5 => ?_, xok0⟩
      have eA := e3.trans e5
      have keepO : ∀ {H' B' : Hp}, Ext H2 B2 H' B' → OwnAll X.K B' H' vs2 acc f ∧ ∀ a ∈ f, H1 a = none ∧ B' a = none := fun {H' B'} e => ⟨ra.mono e.le fun a m => by
        obtain ⟨u, hu⟩ := ra.dom a m
        rw [hu]; exact e.same a u hu, fun a m => ⟨(hf a m).1, by
        obtain ⟨u, hu⟩ := ra.dom a m
        exact e.new a u hu (hf a m).2⟩⟩
      cases k with
      | false =>
        rw [if_neg (by simp)] at q5
        refine iteF ?_
        obtain ⟨k1, k2⟩ := keepO eA
        exact ⟨B5, acc, vs2, f, l2.trans eA.le, rr2.ext eA, eA.new L _ hL bL, eA.same _ _ hL, k1, nf, Lf, k2, fun a o q => eA.same _ _ (s2 a o q), fun a o q n => eA.new a o (s2 a o q) (n2 a o q n), q5⟩
      | true =>
        rw [if_pos rfl] at q5
        refine iteT ?_
        refine ⟨B5, env4, fp4, _, E, rr4.ext e5, q5, fun u H6 B6 r e6 w ⟨sr, hz, p6⟩ => ?_, fun n cls H' e m s => hx n cls H' e m (e1.same.trans (Le.trans s2 (eA.same.trans s)))⟩
        have eB := eA.trans e6
        have hL6 := eB.same _ _ hL
        have bL6 := eB.new L _ hL bL
        have rr6 := rr2.ext eB
        obtain ⟨k1, k2⟩ := keepO eB
        have key : ∀ g', Own X.K B6 H6 u r.o g' → g'.Nodup → (∀ a ∈ g', H5 a = none ∧ B6 a = none) → Iv (i + 1) (upd H6 L (.lst (vs2 ++ [u]))) := fun g' wg ng hg => by
          have h5 : ∀ a ∈ g', H1 a = none ∧ a ∉ f ∧ a ≠ L := fun a m => by
            have q := eA.same.none (hg a m).1
            have q1 : H1 a = none := by
              cases z : H1 a with
              | none => rfl
              | some o => rw [s2 a o z] at q; cases q
            refine ⟨q1, fun m' => ?_, fun e => ?_⟩
            · obtain ⟨o, ho⟩ := ra.dom a m'
              rw [ho] at q; cases q
            · subst e; rw [hL] at q; cases q
          have ne : ∀ a ∈ f ++ g', upd H6 L (.lst (vs2 ++ [u])) a = H6 a := fun a m => upd_ne fun e => by
            rcases List.mem_append.mp m with m | m
            · exact Lf (e ▸ m)
            · exact (h5 a m).2.2 e
          have t1 := k1.mono (H' := upd H6 L (.lst (vs2 ++ [u]))) (Le.refl B6) fun a m => ne a (List.mem_append_left _ m)
          have t2 := wg.mono (H' := upd H6 L (.lst (vs2 ++ [u]))) (Le.refl B6) fun a m => ne a (List.mem_append_right _ m)
          have t3 := t1.append (OwnAll.cons t2 .nil)
          rw [List.append_nil] at t3
          refine ⟨B6, acc ++ [r.o], vs2 ++ [u], f ++ g', l2.trans eB.le, rr6.beside (out rr6) bL6 gL, bL6, upd_same, t3, List.nodup_append.mpr ⟨nf, ng, fun a m b m' e => (h5 b m').2.1 (e ▸ m)⟩, fun m => ?_, fun a m => ?_, fun a o q => upd_keep (eB.same _ _ (s2 a o q)) (ne_of_none q nL), fun a o q n => eB.new a o (s2 a o q) (n2 a o q n), p6⟩
          · rcases List.mem_append.mp m with m | m
            · exact Lf m
            · exact (h5 L m).2.2 rfl
          · rcases List.mem_append.mp m with m | m
            · exact k2 a m
            · exact ⟨(h5 a m).1, (hg a m).2⟩
        refine ⟨vs2, hL6, by rw [k1.length]; exact hz, ?_⟩
        cases r with
        | v d => exact key [] (.fro w) (by simp) fun b m => absurd m (by simp)
        | t o => obtain ⟨g', w, ng, hg⟩ := w; exact key g' w ng hg
        | b o => exact sr.elim
  · have e : i = ds.length := by omega
    subst e
    refine .inl ⟨wk.stop _ H2 B2 l2 rr2.bh s2 (Nat.le_refl _), hq _ H2 B2 (.t (.lsts acc)) ⟨e1.same.trans s2, e1.le.trans l2, rr2.bh, fun a o q n => n2 a o (e1.same _ _ q) (e1.new a o q n)⟩ ⟨L :: f, .lsts hL ra, List.nodup_cons.mpr ⟨Lf, nf⟩, fun a m => ?_⟩ (pe acc pi)⟩
    rcases List.mem_cons.mp m with z | z
    · subst z; exact ⟨e1.same.none nL, bL⟩
    · exact ⟨e1.same.none (hf a z).1, (hf a z).2⟩
theorem de_lcOE (hstk : X.stack = X.env :: X.outer) (hfrm : X.env.frame = some X.env.locals) (tk : Takes X W) (hc : X.calm = true) (hN : X.N.Nodup) (hi : DIc X W G tg iter it) {N : List Str} {sc : Scope} (ok : blkC N sc scope own = true) (eN : X.N = N) (eS : X.env.scope = sc)
    (hg : ∀ s H C cl fp, DG (Bk X scope s H C cl fp) G (own.map (·.2)) tg g) (ht : ∀ s H C cl fp, PTs (Bk X scope s H C cl fp) ifs (tDT X W0 G c)) (he : ∀ W' s H C cl fp xe, PassE (BkE X scope s H (compEnvC scope cl C X.env) fp xe) W' → DE (BkE X scope s H (compEnvC scope cl C X.env) fp xe) W' G elt t)
    (hs : ∀ x, foldedSetIterable iter X.env x = pure x) : DE X W G (.ListComp elt [⟨tg, iter, ifs, 0⟩] scope pos) (wLcOE it (own.map (·.2)) g c t) :=
  PEi (pe_lcE (g := tDG X G (own.map fun p : Str × Nat => p.2) g) (tt := tDT X W0 G c) (te := fun σ => tD X (fun cls d _ H => W cls d σ H) G t) hstk hfrm tk hc hN hi (by subst eN eS; exact blkOk_by ok) hg ht (fun σ s H C cl fp xe pa => he _ s H C cl fp xe pa) hs) fun _ _ _ h => lcOE_ok h
theorem ds_setLcOE {i : Nat} {y : Str} {py spos : Pos} (hstk : X.stack = X.env :: X.outer) (hfrm : X.env.frame = some X.env.locals) (tk : Takes X W) (hc : X.calm = true) (hN : X.N.Nodup) (hy : X.N[i]? = some y) (hyl : X.env.scope.names.lookup y = some .local)
    (hsw : swapsWith (.ListComp elt [⟨tg, iter, ifs, 0⟩] scope pos) (some (.Name y py)) spos.line X.env = pure true) (hi : DIc X W G tg iter it) {N : List Str} {sc : Scope} (ok : blkC N sc scope own = true) (eN : X.N = N) (eS : X.env.scope = sc)
    (hg : ∀ s H C cl fp, DG (Bk X scope s H C cl fp) G (own.map (·.2)) tg g) (ht : ∀ s H C cl fp, PTs (Bk X scope s H C cl fp) ifs (tDT X W0 G c)) (he : ∀ W' s H C cl fp xe, PassE (BkE X scope s H (compEnvC scope cl C X.env) fp xe) W' → DE (BkE X scope s H (compEnvC scope cl C X.env) fp xe) W' G elt t)
    (hs : ∀ x, foldedSetIterable iter X.env x = pure x) : DS X W G (.Assign [.Name y py] (.ListComp elt [⟨tg, iter, ifs, 0⟩] scope pos) spos) (wAsg i (wLcOE it (own.map (·.2)) g c t)) :=
  PSi (ps_setLcE (g := tDG X G (own.map fun p : Str × Nat => p.2) g) (tt := tDT X W0 G c) (te := fun σ => tD X (fun cls d _ H => W cls d σ H) G t) hstk hfrm tk hc hN hy hyl hsw hi (by subst eN eS; exact blkOk_by ok) hg ht (fun σ s H C cl fp xe pa => he _ s H C cl fp xe pa) hs) fun D σ H h => asg_ok (fun _ _ _ h => lcOE_ok h) H h
theorem ds_letLcOE {i : Nat} {y : Str} {py spos : Pos} (hstk : X.stack = X.env :: X.outer) (hfrm : X.env.frame = some X.env.locals) (tk : Takes X W) (hc : X.calm = true) (hN : X.N.Nodup) (hy : X.N[i]? = some y) (hyl : X.env.scope.names.lookup y = some .local)
    (hsw : swapsWith (.ListComp elt [⟨tg, iter, ifs, 0⟩] scope pos) (some (.Name y py)) spos.line X.env = pure true) (hi : DIc X W G tg iter it) {N : List Str} {sc : Scope} (ok : blkC N sc scope own = true) (eN : X.N = N) (eS : X.env.scope = sc)
    (hg : ∀ s H C cl fp, DG (Bk X scope s H C cl fp) G (own.map (·.2)) tg g) (ht : ∀ s H C cl fp, PTs (Bk X scope s H C cl fp) ifs (tDT X W0 G c)) (he : ∀ W' s H C cl fp xe, PassE (BkE X scope s H (compEnvC scope cl C X.env) fp xe) W' → DE (BkE X scope s H (compEnvC scope cl C X.env) fp xe) W' G elt t)
    (hs : ∀ x, foldedSetIterable iter X.env x = pure x) : DS X W G (.Assign [.Name y py] (.ListComp elt [⟨tg, iter, ifs, 0⟩] scope pos) spos) (wLet i (wLcOE it (own.map (·.2)) g c t)) :=
  PSi (ps_setLcE (g := tDG X G (own.map fun p : Str × Nat => p.2) g) (tt := tDT X W0 G c) (te := fun σ => tD X (fun cls d _ H => W cls d σ H) G t) hstk hfrm tk hc hN hy hyl hsw hi (by subst eN eS; exact blkOk_by ok) hg ht (fun σ s H C cl fp xe pa => he _ s H C cl fp xe pa) hs) fun D σ H h => let_ok (fun _ _ _ h => lcOE_ok h) H h
end
theorem lcOE_mapE {α : Type} {ls : List α} {enc : α → D} {env : Env} {vs : List Nat} {g : WG} {t : WE} {Q : R → Prop} {E : Str → Prop} (f : α → O) (hz : ls.length ≤ sizeLine)
    (h : ∀ (i : Nat) (x : α), ls[i]? = some x → ∀ A : R → Prop, (∀ r, r.st → r.o = f x → A r) → g (enc x) (wipeE env vs) fun env2 => t env2 A E) (q : Q (.t (.lsts (ls.map f)))) : LcOE env (ls.map enc) vs g wYes t Q E := by
  refine ⟨fun i acc => acc = (ls.take i).map f, by simp, fun i d acc hd ha => ?_, fun acc ha => ?_⟩
  · obtain ⟨x, hx, e⟩ := map_get hd
    subst e
    have ha : acc = (ls.take i).map f := ha
    refine h i x hx (fun r => r.st ∧ acc.length < sizeLine ∧ acc ++ [r.o] = (ls.take (i + 1)).map f) fun r rs rd => ⟨rs, ?_, ?_⟩
    · have hi := (List.getElem?_eq_some_iff.mp hx).1
      rw [ha, List.length_map, List.length_take]
      omega
    · rw [take_succ hx, List.map_append, ha, rd]; rfl
  · have ha : acc = (ls.take (ls.map enc).length).map f := ha
    rw [ha, List.length_map, List.take_length]; exact q
/-- item by item, what is known of those ahead -/
theorem lcOE_inv {α : Type} {ls : List α} {enc : α → D} {env : Env} {vs : List Nat} {g : WG} {t : WE} {Q : R → Prop} {E : Str → Prop} (f : α → O) (J : Nat → Prop) (hz : ls.length ≤ sizeLine) (j0 : J 0)
    (h : ∀ (i : Nat) (x : α), ls[i]? = some x → J i → ∀ A : R → Prop, (∀ r, r.st → r.o = f x → J (i + 1) → A r) → g (enc x) (wipeE env vs) fun env2 => t env2 A E) (q : J ls.length → Q (.t (.lsts (ls.map f)))) : LcOE env (ls.map enc) vs g wYes t Q E := by
  refine ⟨fun i acc => acc = (ls.take i).map f ∧ J i, ⟨by simp, j0⟩, fun i d acc hd ha => ?_, fun acc ha => ?_⟩
  · obtain ⟨x, hx, e⟩ := map_get hd
    subst e
    obtain ⟨ha, hj⟩ := ha
    refine h i x hx hj (fun r => r.st ∧ acc.length < sizeLine ∧ acc ++ [r.o] = (ls.take (i + 1)).map f ∧ J (i + 1)) fun r rs rd hj' => ⟨rs, ?_, ?_, hj'⟩
    · have hi := (List.getElem?_eq_some_iff.mp hx).1
      rw [ha, List.length_map, List.length_take]
      omega
    · rw [take_succ hx, List.map_append, ha, rd]; rfl
  · obtain ⟨ha, hj⟩ := ha
    rw [List.length_map] at ha hj
    rw [ha, List.take_length]; exact q hj
/-! ### a test, with an own thing still the while -/
def wLookT (i : Nat) (m : WT) : WT := fun env Q E => m (frzAt env i) Q E
section
variable {K : K0}
theorem lookT_ok {X : Cx} {W : WX} {G : Hp} {i : Nat} {m : WT} {σ : L2.St} {H : Hp} {QV : Bool → Hp → Prop} (h : tDT X W G (wLookT i m) σ H QV) : tDT X W G m σ H QV := by
  obtain ⟨B, env, fp, Q, E, rr, hm, hq, hx⟩ := h
  have same : frzAt env i = env → tDT X W G m σ H QV := fun e => by
    refine ⟨B, env, fp, Q, E, rr, ?_, hq, hx⟩
    have hm : m (frzAt env i) Q E := hm
    rw [e] at hm; exact hm
  by_cases own : ∃ o0, env[i]? = some (some o0) ∧ ∀ a, o0 ≠ .raw a
  · obtain ⟨o0, hi, hr⟩ := own
    obtain ⟨v, g, h1, h2, h3, h4, h5⟩ := rr.put hi hr
    have l := addB_le g rr.bh
    obtain ⟨fp', rr'⟩ := h5 (addB B H g) H (.fro o0.frz) [] l (addB_bh g rr.bh) (fun _ _ _ h => h) (fun a o _ n z => by rw [addB_out n]; exact z)
      (.fro (h2.freeze l fun a m u q => by rw [addB_in m]; exact q)) (by simp) fun a m => absurd m (by simp)
    have fz : frzAt env i = env.set i (some (.fro o0.frz)) := by
      unfold frzAt
      rw [hi]
      cases o0 <;> first | rfl | exact (hr _ rfl).elim
    refine ⟨addB B H g, frzAt env i, fp', _, E, by rw [fz]; exact rr', hm, fun b H' B' e2 q => ?_, hx⟩
    have eC : Ext H B H' (cutB B' B g) := ⟨e2.same, fun a o h => by
      rw [cutB_out (fun m => by rw [m.2] at h; cases h)]
      exact e2.le _ _ (l _ _ h), (cutB_le g).trans e2.bh, fun a o h n => by
      by_cases m : a ∈ g
      · unfold cutB; rw [if_pos ⟨m, n⟩]
      · rw [cutB_out fun z => m z.1]
        exact e2.new a o h (by rw [addB_out m]; exact n)⟩
    exact hq b H' (cutB B' B g) eC q
  · refine same ?_
    unfold frzAt
    split
    · rfl
    · rename_i o hr e
      exact absurd ⟨o, e, hr⟩ own
    · rfl
theorem dt_look {X : Cx} {W : WX} {G : Hp} {i : Nat} {m : WT} {e : Expr} (h : DT X W G e m) : DT X W G e (wLookT i m) := PTi h fun σ H Q x => lookT_ok x
end
end DL

set_option Elab.async false
set_option linter.all false
set_option maxRecDepth 100000
set_option maxHeartbeats 1000000
/-! DLQ: more methods of texts. -/
namespace DL
open PySem L2 PyProof.Rows
def fFind : FM
  | a, [r], Q => ∃ b, r.d = .str b ∧ Q (.v (.int (Txt.find a b)))
  | _, _, _ => False
theorem fFind_1 (a : Str) (r : R) (Q : R → Prop) : fFind a [r] Q = ∃ b, r.d = .str b ∧ Q (.v (.int (Txt.find a b))) := rfl
section
variable {X : Cx} {W : WX} {G : Hp} {ob e : Expr} {mo : WE} {es : List Expr} {ms : WA} {apos cpos : Pos}
theorem find_r (B H : Hp) (fp : List Addr) (a : Str) (vs : List V) (rs : List R) (Q : R → Prop) (QV : VK) (l : Le B H) (va : VAll X.K B H vs rs) (hf : fFind a rs Q) (hq : QOk X.K B H fp Q QV) :
    ∃ a' b, (V.str a) = .str a' ∧ vs = [.str b] ∧ QV (.int (Txt.find a' b)) H := by
  match rs, hf with
  | [r], ⟨b, ht, q⟩ =>
    obtain ⟨v, ev, rv⟩ := va.one l
    subst ev
    rw [ht] at rv
    rw [rv.str_inv]
    exact ⟨a, b, rfl, rfl, hq _ H B (.v _) (.refl l) (.int _) q⟩
theorem dm_find (c : MF X ob "find" e es apos cpos) (ho : DE X W G ob mo) (ha : DA X W G (e :: es) ms) : DE X W G (.Call (.Attribute ob "find" apos) (e :: es) [] cpos) (wMe fFind mo ms) :=
  PEi (pe_bm PySem.F.plainAttrs_str PySem.F.slot_str_find PySem.F.type_str_find mt_find ho ha c.base c.few c.line c.hs c.pl) (me_ok find_r)
end
end DL

set_option Elab.async false
set_option linter.all false
set_option maxRecDepth 100000
set_option maxHeartbeats 1000000
/-! DLK: comprehensions over a dict's keys. -/
namespace DL
open PySem L2 PyProof.Rows
section
variable {K : K0} {B H : Hp} {d : Addr} {od : Obj} {ks : List (Key × V)}
theorem Rd.lockD {a : Addr} {u : HO} (hd : B d = some (.dK ks)) (h : Rd B a u) : Rd (upd B d (.frz od (.dK ks))) a u := by
  by_cases e : a = d
  · subst e
    rcases h with h | ⟨o, h⟩
    · rw [hd] at h; cases h; exact .inr ⟨od, upd_same⟩
    · rw [hd] at h; cases h
  · rcases h with h | ⟨o, h⟩
    · exact .inl (by rw [upd_ne e]; exact h)
    · exact .inr ⟨o, by rw [upd_ne e]; exact h⟩
theorem sqL_lockD {a : Addr} {vs : List V} (hd : B d = some (.dK ks)) (h : SqL K B a vs) : SqL K (upd B d (.frz od (.dK ks))) a vs := h.imp (Rd.lockD hd) id
theorem sqT_lockD {a : Addr} {vs : List V} (hd : B d = some (.dK ks)) (h : SqT K B a vs) : SqT K (upd B d (.frz od (.dK ks))) a vs := h.imp (Rd.lockD hd) id
theorem tupP_lockD {a : Addr} {ds : List D} (hd : B d = some (.dK ks)) (h : TupP B a ds) : TupP (upd B d (.frz od (.dK ks))) a ds := h.imp (fun ⟨o, u, e, q⟩ => ⟨o, u, by
  rw [upd_ne (fun z => by rw [z, hd] at e; cases e)]; exact e, q⟩) id
mutual
theorem Rep.lockD (hd : B d = some (.dK ks)) : ∀ {v : V} {x : D}, Rep K B v x → Rep K (upd B d (.frz od (.dK ks))) v x
  | _, _, .non => .non
  | _, _, .bl b => .bl b
  | _, _, .int i => .int i
  | _, _, .str x => .str x
  | _, _, .lst s r => .lst (sqL_lockD hd s) (RepAll.lockD hd r)
  | _, _, .tup s r p => .tup (sqT_lockD hd s) (RepAll.lockD hd r) (tupP_lockD hd p)
  | _, _, .dic s r => .dic (Rd.lockD hd s) (RepKV.lockD hd r)
  | _, _, .nd s r => .nd (Rd.lockD hd s) (RepND.lockD hd r)
theorem RepND.lockD (hd : B d = some (.dK ks)) : ∀ {vs : List (NestedKey × Addr × Value)} {ds : List (D × D)}, RepND K B vs ds → RepND K (upd B d (.frz od (.dK ks))) vs ds
  | _, _, .nil => .nil
  | _, _, .cons o k r e t => .cons o (Rep.lockD hd k) (Rep.lockD hd r) e (RepND.lockD hd t)
theorem RepAll.lockD (hd : B d = some (.dK ks)) : ∀ {vs : List V} {ds : List D}, RepAll K B vs ds → RepAll K (upd B d (.frz od (.dK ks))) vs ds
  | _, _, .nil => .nil
  | _, _, .cons r t => .cons (Rep.lockD hd r) (RepAll.lockD hd t)
theorem RepKV.lockD (hd : B d = some (.dK ks)) : ∀ {vs : List (Key × V)} {ds : List (D × D)}, RepKV K B vs ds → RepKV K (upd B d (.frz od (.dK ks))) vs ds
  | _, _, .nil => .nil
  | _, _, .cons r t => .cons (Rep.lockD hd r) (RepKV.lockD hd t)
end
mutual
theorem Own.lockD (hd : B d = some (.dK ks)) : ∀ {v : V} {o : O} {f : List Addr}, (∀ a ∈ f, a ≠ d) → Own K B H v o f → Own K (upd B d (.frz od (.dK ks))) (upd H d (.frz od (.dK ks))) v o f
  | _, _, _, _, .fro r => .fro (Rep.lockD hd r)
  | _, _, _, k, .lst h r => .lst (by rw [upd_ne (k _ (by simp))]; exact h) (RepAll.lockD hd r)
  | _, _, _, k, .dic h r => .dic (by rw [upd_ne (k _ (by simp))]; exact h) (RepKV.lockD hd r)
  | _, _, _, k, .lsts h r => .lsts (by rw [upd_ne (k _ (by simp))]; exact h) (OwnAll.lockD hd (fun a m => k a (List.mem_cons_of_mem _ m)) r)
  | _, _, _, k, .nd h r => .nd (by rw [upd_ne (k _ (by simp))]; exact h) (RepND.lockD hd r)
  | _, _, _, k, .pin r => .pin (Own.lockD hd k r)
  | _, _, _, k, .io e r => .io (Rep.lockD hd e) (Own.lockD hd k r)
theorem OwnAll.lockD (hd : B d = some (.dK ks)) : ∀ {vs : List V} {os : List O} {f : List Addr}, (∀ a ∈ f, a ≠ d) → OwnAll K B H vs os f → OwnAll K (upd B d (.frz od (.dK ks))) (upd H d (.frz od (.dK ks))) vs os f
  | _, _, _, _, .nil => .nil
  | _, _, _, k, .cons r t => .cons (Own.lockD hd (fun a m => k a (List.mem_append_left _ m)) r) (OwnAll.lockD hd (fun a m => k a (List.mem_append_right _ m)) t)
end
theorem ownEnv_lockD (hd : B d = some (.dK ks)) : ∀ {σ : L2.St} {env : Env} {f : List Addr}, (∀ a ∈ f, a ≠ d) → OwnEnv K B H σ env f → OwnEnv K (upd B d (.frz od (.dK ks))) (upd H d (.frz od (.dK ks))) σ env f
  | _, _, _, _, .nil => .nil
  | _, _, _, k, .no t => .no (ownEnv_lockD hd k t)
  | _, _, _, k, .raw t => .raw (ownEnv_lockD hd k t)
  | _, _, _, k, .some r t => .some (Own.lockD hd (fun a m => k a (List.mem_append_left _ m)) r) (ownEnv_lockD hd (fun a m => k a (List.mem_append_right _ m)) t)
theorem RR.lockD {G : Hp} {env : Env} {fp : List Addr} {σ : L2.St} (hd : B d = some (.dK ks)) (x : RR K G B env fp σ H) : RR K G (upd B d (.frz od (.dK ks))) env fp σ (upd H d (.frz od (.dK ks))) where
  bh := fun a o h => by
    by_cases e : a = d
    · subst e; rw [upd_same] at h ⊢; exact h
    · rw [upd_ne e] at h ⊢; exact x.bh a o h
  gh := fun a o h => by
    rw [upd_ne (fun e => by rw [e] at h; have := x.gb d o h; rw [hd] at this; cases this)]
    exact x.gh a o h
  gb := fun a o h => by
    rw [upd_ne (fun e => by rw [e] at h; have := x.gb d o h; rw [hd] at this; cases this)]
    exact x.gb a o h
  own := ownEnv_lockD hd (fun a m e => by
    have := (x.fb a m).1
    rw [e, hd] at this; cases this) x.own
  nd := x.nd
  fb := fun a m => by
    rw [upd_ne (fun e => by have := (x.fb a m).1; rw [e, hd] at this; cases this)]
    exact x.fb a m
theorem RepAll.flatB {B' : Hp} : ∀ {vs : List V} {ds : List D}, ds.all flatD = true → RepAll K B vs ds → RepAll K B' vs ds
  | _, _, _, .nil => .nil
  | _, _, h, .cons r t => by
    simp only [List.all_cons, Bool.and_eq_true] at h
    refine .cons ?_ (RepAll.flatB h.2 t)
    cases r with
    | non => exact .non
    | bl b => exact .bl b
    | int i => exact .int i
    | str x => exact .str x
    | _ => simp [flatD] at h
theorem RepKV.keyAt : ∀ {vs : List (Key × V)} {ds : List (D × D)} {i : Nat} {k : Key} {v : V}, RepKV K B vs ds → vs[i]? = some (k, v) → (ds.map (·.1))[i]? = some (kD k)
  | _, _, _, _, _, .nil, e => by simp at e
  | _, _, 0, _, _, .cons r t, e => by simp at e ⊢; rw [e.1]
  | _, _, i + 1, _, _, .cons r t, e => by
    have := RepKV.keyAt (i := i) t (by simpa using e)
    simpa using this
theorem RepKV.lenK : ∀ {vs : List (Key × V)} {ds : List (D × D)}, RepKV K B vs ds → vs.length = ds.length
  | _, _, .nil => rfl
  | _, _, .cons r t => congrArg (· + 1) t.lenK
end
theorem walk_keysD {K : K0} {B H0 : Hp} {d : Addr} {od : Obj} {ks : List (Key × V)} {kvs : List (D × D)} (h0 : H0 d = some (.frz od (.dK ks))) (rl : ks.length = kvs.length) (r : ∀ (i : Nat) (k : Key) (v : V), ks[i]? = some (k, v) → (kvs.map (·.1))[i]? = some (kD k)) : WalkH K B H0 (Itk d od ks) (kvs.map (·.1)) where
  go := fun i H B1 l1 l2 l3 h => ⟨l3 _ _ h0, by rw [rl]; simpa using h⟩
  stop := fun i H B1 l1 l2 l3 h => ⟨l3 _ _ h0, by rw [rl]; simpa using h⟩
  yld := fun i H x H' B1 hlt l1 l2 l3 ⟨e, k, v, hk, ex⟩ => by
    subst e ex
    refine ⟨kD k, B1, r _ _ _ hk, .refl l2, ?_⟩
    cases k with
    | inl i => exact .int i
    | inr x => exact .str x
def flatR : R → Prop
  | .t (.lst ds) => ds.all flatD = true
  | _ => False
theorem flatR_l (ds : List D) : flatR (.t (.lst ds)) = (ds.all flatD = true) := rfl
/-- a comprehension over the keys of the dict at a slot; what comes of it is flat -/
def wLcK (i : Nat) (vs : List Nat) (g : WG) (c : WT) (t : WE) : WE := fun env Q E => ∃ kvs, env[i]? = some (some (.fro (.dict kvs))) ∧ flK kvs ∧ LcI env (kvs.map (·.1)) vs g c t fun r => flatR r ∧ Q r
theorem wLcK_eq (i : Nat) (vs : List Nat) (g : WG) (c : WT) (t : WE) (env : Env) (Q : R → Prop) (E : Str → Prop) : wLcK i vs g c t env Q E = ∃ kvs, env[i]? = some (some (.fro (.dict kvs))) ∧ flK kvs ∧ LcI env (kvs.map (·.1)) vs g c t fun r => flatR r ∧ Q r := rfl
section
variable {X : Cx} {W : WX} {G : Hp} {tg iter elt : Expr} {ifs : List Expr} {scope : Scope} {own : List (Str × Nat)} {i : Nat} {g : WG} {c : WT} {t : WE} {pos : Pos}
theorem lcK_at {σ : L2.St} {H B : Hp} {QV : VK} {vs : List Nat} {env : Env} {fp : List Addr} {a : Addr} {od : Obj} {ks : List (Key × V)} {kvs : List (D × D)} {Q : R → Prop} (rr : RR X.K G B env fp σ H) (hσ : σ[i]? = some (some (.ref a))) (ha : H a = some (.frz od (.dK ks))) (rk : RepKV X.K B ks kvs)
    (hm : LcI env (kvs.map (·.1)) vs g c t Q) (hq : QOk X.K B H fp Q QV) : tLc (iKeys (tVar i)) (tDG X G vs g) (tDT X W0 G c) (tD X W0 G t) vs σ H QV := by
  have h : tD X W0 G (wLc (fun env Q E => Q (kvs.map (·.1))) vs g c t) σ H QV := ⟨B, env, fp, Q, noE, rr, hm, hq, xok0⟩
  obtain ⟨B1, env1, fp1, Q1, E1, rr1, q1, cont, _⟩ := lc_ok h
  exact ⟨_, hσ, a, od, rfl, .inl ⟨ks, ha, cont _ H B1 _ (.refl rr1.bh) (walk_keysD (B := B1) (kvs := kvs) ha rk.lenK fun i k v e => rk.keyAt e) q1⟩⟩
theorem lcK_ok {σ : L2.St} {H : Hp} {QV : VK} {vs : List Nat} (h : tD X W G (wLcK i vs g c t) σ H QV) :
    tLockE (tLc (iKeys (tVar i)) (tDG X G vs g) (tDT X W0 G c) (tD X W0 G t) vs) σ H QV ∨ tLc (iKeys (tVar i)) (tDG X G vs g) (tDT X W0 G c) (tD X W0 G t) vs σ H QV := by
  obtain ⟨B, env, fp, Q, E, rr, ⟨kvs, hi, flk, hm⟩, hq, hx⟩ := h
  obtain ⟨v, g0, h1, h2, h3⟩ := rr.own.get hi
  cases h2 with
  | fro r =>
    obtain ⟨a, ks, rfl, sa, ta⟩ := r.dict_inv flk
    rcases sa with sa | ⟨o, sa⟩
    · refine .inl ⟨a, .dK ks, rr.bh _ _ sa, True.intro, fun od => ?_⟩
      refine lcK_at (rr.lockD sa) h1 upd_same (RepKV.lockD sa ta) hm fun v H' B' r e w ⟨fl, q⟩ => ?_
      refine ⟨e.same _ _ upd_same, ?_⟩
      cases r with
      | t o =>
        cases o with
        | lst ds =>
          obtain ⟨gg, w, ng, hg⟩ := w
          cases w with
          | lst hL ra =>
            rename_i L vs2
            have hL0 := (hg L (by simp)).1
            have hne : L ≠ a := fun e => by rw [e, upd_same] at hL0; cases hL0
            have hL1 : H L = none := by rw [upd_ne hne] at hL0; exact hL0
            have same : Le H (upd H' a (.dK ks)) := fun b o hb => by
              by_cases eb : b = a
              · subst eb
                have := rr.bh _ _ sa
                rw [upd_same, ← hb]; exact this.symm
              · rw [upd_ne eb]
                exact e.same b o (by rw [upd_ne eb]; exact hb)
            refine hq _ _ B (.t (.lst ds)) ⟨same, .refl _, rr.bh.trans same, fun _ _ _ n => n⟩ ⟨[L], .lst (by rw [upd_ne hne]; exact hL) (ra.flatB fl), by simp, fun b m => ?_⟩ q
            simp at m; subst m
            exact ⟨hL1, rr.bh.none hL1⟩
        | _ => exact fl.elim
      | _ => exact fl.elim
    · refine .inr (lcK_at rr h1 (rr.bh _ _ sa) ta hm fun v H' B' r e w ⟨fl, q⟩ => hq v H' B' r e w q)
theorem de_lcK (hv : PE X iter (tVar i)) (hc : X.calm = true) (hN : X.N.Nodup) {N : List Str} {sc : Scope} (ok : blkC N sc scope own = true) (eN : X.N = N) (eS : X.env.scope = sc)
    (hg : ∀ s H C cl fp, DG (Bk X scope s H C cl fp) G (own.map (·.2)) tg g) (ht : ∀ s H C cl fp, PTs (Bk X scope s H C cl fp) ifs (tDT X W0 G c)) (he : ∀ s H C cl fp, DE (Bk X scope s H C cl fp) W0 G elt t)
    (hs : ∀ x, foldedSetIterable iter X.env x = pure x) : DE X W G (.ListComp elt [⟨tg, iter, ifs, 0⟩] scope pos) (wLcK i (own.map (·.2)) g c t) := by
  have h1 := pe_lc (pos := pos) (g := tDG X G (own.map fun p : Str × Nat => p.2) g) (tt := tDT X W0 G c) (te := tD X W0 G t) hc hN (pi_keys (tg := tg) hv) (by subst eN eS; exact blkOk_by ok) hg ht he hs
  refine ⟨fun pins s σ H Q I w => ?_⟩
  rcases lcK_ok w with w | w
  · exact (pe_lock h1).run pins s σ H Q I w
  · exact h1.run pins s σ H Q I w
end
end DL

set_option Elab.async false
set_option linter.all false
set_option maxRecDepth 100000
set_option maxHeartbeats 1000000
/-! DLG: a def that is given a new list as its own. -/
namespace DL
open PySem L2 PyProof.Rows
def delH (H : Hp) (L : Addr) : Hp := fun a => if a = L then none else H a
theorem delH_same (H : Hp) (L : Addr) : delH H L L = none := if_pos rfl
theorem delH_ne {H : Hp} {L a : Addr} (h : a ≠ L) : delH H L a = H a := if_neg h
theorem delH_some {H : Hp} {L a : Addr} {o : HO} (h : delH H L a = some o) : H a = some o ∧ a ≠ L := by
  by_cases e : a = L
  · rw [e, delH_same] at h; cases h
  · rw [delH_ne e] at h; exact ⟨h, e⟩
/-- what a call of it asks: the first thing handed in is a list that nobody else has -/
def dspT (K : K0) (mg : Str → Option Value) (S : Spec) : Sp := fun vs H QV EX => ∃ B L items vs' xs ds Q E, vs = .ref L :: vs' ∧ H L = some (.lst items) ∧ B L = none ∧ Le B H ∧ RepAll K B items xs ∧ RepAll K B vs' ds ∧ S (.list xs :: ds) Q E ∧
  (∀ v H' B' r, Ext (delH H L) B H' B' → VOk K (delH H L) [] B' H' v r → r.st → Q r → QV v H') ∧ ∀ n cls H', E n → mg n = some cls → Le (delH H L) H' → EX cls none H'
def startT (N : List Str) (xs : List D) (ds : List D) : Env := some (.lst xs) :: (ds.map (fun d => some (.fro d)) ++ List.replicate (N.length - (ds.length + 1)) none)
section
variable {P : Program} {w : World} {K : K0} {mg : Str → Option Value} {base : Heap} {x qual : Str} {params : Arguments} {body : List Stmt} {scope : Scope} {dvs : List V} {kws : List (Str × V)} {f : Addr} {fd : FuncData} {N ps : List Str} {k : Nat} {S : Spec} {m : WS}
theorem fn_dT (F : FunD K x qual params body scope dvs kws f fd) (Sc : FnScope N ps scope) (len : ∀ ds Q E, S ds Q E → ds.length = ps.length)
    (der : ∀ (cdv : Value) (A : Around) (outer : List PySem.Env) (s : Shared) (H : Hp) (E : XK) (G : Hp), Room k (A.deeper (envOfC qual scope s.heap.objs.size f cdv)) →
      Takes (XB P w K mg base N qual scope f cdv A outer s H E) (fun cls d _ H => E cls d H) → PassesOwn (model P w) (XB P w K mg base N qual scope f cdv A outer s H E).A (XB P w K mg base N qual scope f cdv A outer s H E).env (XB P w K mg base N qual scope f cdv A outer s H E).xe →
      DSs (XB P w K mg base N qual scope f cdv A outer s H E) (fun cls d _ H => E cls d H) G body m)
    (wp : ∀ xs ds Q E, S (.list xs :: ds) Q E → m (enD Q E) (startT N xs ds)) : FnOk P w K mg base (L2.CX P w) (k + 1) f fd ps (dspT K mg S) := by
  refine F.ok Sc (fun vs H Q E h => ?_) fun cdv A outer s H vs QV EX hr h => ?_
  · obtain ⟨B, L, items, vs', xs, ds, Q', E', e, hL, bL, l, ri, r, hs, _⟩ := h
    have := len _ _ _ hs
    rw [e, List.length_cons, r.length]
    exact this
  · obtain ⟨B, L, items, vs', xs, ds, Q, E, ev, hL, bL, l, ri, r, hs, hq, hx⟩ := h
    subst ev
    let G : Hp := fun a => match B a with | none => delH H L a | some _ => none
    have gH : ∀ a o, G a = some o → H a = some o ∧ B a = none := fun a o q => by
      cases e : B a with
      | none => have : G a = delH H L a := by show (match B a with | none => delH H L a | some _ => none) = _; rw [e]
                rw [this] at q; exact ⟨(delH_some q).1, rfl⟩
      | some u => have : G a = none := by show (match B a with | none => delH H L a | some _ => none) = _; rw [e]
                  rw [this] at q; cases q
    have gN : ∀ a, B a = none → G a = delH H L a := fun a e => by show (match B a with | none => delH H L a | some _ => none) = _; rw [e]
    have bD : ∀ a u, B a = some u → delH H L a = some u := fun a u e => by
      rw [delH_ne (fun z => by rw [z, bL] at e; cases e)]
      exact l a u e
    refine ⟨_, der cdv A outer s H EX G hr (takes_of rfl rfl rfl rfl) (passes_of rfl), B, startT N xs ds, [L], enD Q E, ⟨l, fun a o q => (gH a o q).1, fun a o q => (gH a o q).2, ?_, by simp, fun a m => ?_⟩, wp xs ds Q E hs, ?_⟩
    · have h1 := ownEnv_start (K := K) (B := B) (H := H) (N.length - (ds.length + 1)) r
      have h2 := OwnEnv.some (f := [L]) (.lst hL ri) h1
      unfold startT L2.start
      rw [List.length_cons, r.length]
      have h3 : OwnEnv K B H (some (V.ref L) :: (vs'.map some ++ List.replicate (N.length - (ds.length + 1)) none)) (some (O.lst xs) :: (ds.map (fun d => some (O.fro d)) ++ List.replicate (N.length - (ds.length + 1)) none)) [L] := by simpa using h2
      exact h3
    · obtain rfl := List.mem_singleton.mp m
      exact ⟨bL, by rw [gN _ bL, delH_same]⟩
    · have fin : ∀ v H' B' r (f : List Addr), Le B B' → Le B' H' → Le G H' → (∀ a o, G a = some o → B' a = none) → (∀ a ∈ f, B' a = none ∧ G a = none) → f.Nodup →
          (match r with | .v d => Rep K B' v d | .t o => Own K B' H' v o f | .b _ => False) → Q r → QV v H' := fun v H' B' r f l1 l2 l3 l4 hf nf w q => by
        have e : Ext (delH H L) B H' B' := ⟨fun a o h => by
          cases eb : B a with
          | none => exact l3 a o (by rw [gN a eb]; exact h)
          | some u =>
            have : delH H L a = some u := bD a u eb
            rw [this] at h; cases h
            exact l2 _ _ (l1 _ _ eb), l1, l2, fun a o h n => l4 a o (by rw [gN a n]; exact h)⟩
        refine hq v H' B' r e ?_ ?_ q
        · cases r with
          | v d => exact w
          | t o =>
            refine ⟨f, w, nf, fun a m => ⟨?_, (hf a m).1⟩⟩
            have nb : B a = none := l1.none (hf a m).1
            rw [← gN a nb]; exact (hf a m).2
          | b o => exact w.elim
        · cases r with
          | v d => exact True.intro
          | t o => exact True.intro
          | b o => exact w.elim
      refine ⟨fun σ H' B' env fp l1 rr q => ?_, fun σ H' B' env fp l1 rr q => q.elim, fun σ H' B' env fp l1 rr q => q.elim, fun v H' B' r f l1 l2 l3 l4 hf nf w q => fin v H' B' r f l1 l2 l3 l4 hf nf w q, fun n cls σ H' B' env fp l1 rr en hm => ?_⟩
      · exact fin .non H' B' (.v .none) [] l1 rr.bh rr.gh rr.gb (by simp) (by simp) .non q
      · refine hx n cls H' en hm fun a o h => ?_
        cases eb : B a with
        | none => exact rr.gh a o (by rw [gN a eb]; exact h)
        | some u =>
          have : delH H L a = some u := bD a u eb
          rw [this] at h; cases h
          exact rr.bh _ _ (l1 _ _ eb)
end
def FnAtT (P : Program) (w : World) (K : K0) (mg : Str → Option Value) (base : Heap) (k : Nat) (x : Str) (ps : List Str) (S : Spec) : Prop :=
  ∃ (f : Addr) (fd : FuncData), mg x = some (.ref f) ∧ PySem.W.keepIn K (.ref f) = true ∧ FnOk P w K mg base (L2.CX P w) k f fd ps (dspT K mg S) ∧ Binds K fd ps []
section
variable {P : Program} {w : World} {K : K0} {mg : Str → Option Value} {base : Heap} {x qual : Str} {params : Arguments} {body : List Stmt} {scope : Scope} {f : Addr} {fd : FuncData} {N ps : List Str} {k : Nat} {S : Spec} {m : WS}
theorem fnAtT (F : FunD K x qual params body scope [] [] f fd) (g : mg x = some (.ref f)) (Sc : FnScope N ps scope)
    (hb : ∀ (kV doc pm : Value) (an : Option Addr) (cdv ct : Value) (us : List Value), us.length = ps.length → bindArgs (PySem.W.fnOf x qual params body scope .none kV doc pm an cdv ct) ⟨us, []⟩ = pure (ps.zip us))
    (len : ∀ ds Q E, S ds Q E → ds.length = ps.length)
    (der : ∀ (cdv : Value) (A : Around) (outer : List PySem.Env) (s : Shared) (H : Hp) (E : XK) (G : Hp), Room k (A.deeper (envOfC qual scope s.heap.objs.size f cdv)) →
      Takes (XB P w K mg base N qual scope f cdv A outer s H E) (fun cls d _ H => E cls d H) → PassesOwn (model P w) (XB P w K mg base N qual scope f cdv A outer s H E).A (XB P w K mg base N qual scope f cdv A outer s H E).env (XB P w K mg base N qual scope f cdv A outer s H E).xe →
      DSs (XB P w K mg base N qual scope f cdv A outer s H E) (fun cls d _ H => E cls d H) G body m)
    (wp : ∀ xs ds Q E, S (.list xs :: ds) Q E → m (enD Q E) (startT N xs ds)) : FnAtT P w K mg base (k + 1) x ps S :=
  ⟨f, fd, g, F.kp, fn_dT F Sc len der wp, F.bindsN hb⟩
end
/-- a call that gives a new list away -/
def wCallT (S : Spec) (m0 : WE) (ms : WA) : WE := fun env Q E => m0 env (fun r0 => ∃ xs, r0 = .t (.lst xs) ∧ ms env (fun rs => allSt rs ∧ S (.list xs :: rs.map R.d) Q E) E) E
theorem tlst_iff (xs : List D) (P : List D → Prop) : (∃ ys, R.t (.lst xs) = R.t (.lst ys) ∧ P ys) = P xs := by
  apply propext
  exact ⟨fun ⟨ys, e, p⟩ => by cases e; exact p, fun p => ⟨xs, rfl, p⟩⟩
section
variable {X : Cx} {W : WX} {G : Hp} {k j : Nat} {ps : List Str} {S : Spec} {x : Str} {p pos : Pos} {e : Expr} {es : List Expr} {m0 : WE} {ms : WA}
theorem callT_ok {σ : L2.St} {H : Hp} {QV : VK} (h : tD X W G (wCallT S m0 ms) σ H QV) : tCallSD (dspT X.K X.mg S) [] (fun σ cls d H => W cls d σ H) (tCons (tD X W G m0) (tDA X W G ms)) σ H QV := by
  obtain ⟨B, env, fp, Q, E, rr, hm, hq, hx⟩ := h
  refine ⟨B, env, fp, _, E, rr, hm, fun v H1 B1 r0 e1 w0 ⟨xs, er, h2⟩ => ?_, hx⟩
  subst er
  obtain ⟨g, own, ng, hg⟩ := w0
  cases own with
  | lst hL ra =>
    rename_i L items
    refine ⟨B1, env, fp, _, E, rr.ext e1, h2, fun vs H2 B2 rs e2 va ⟨ha, hs⟩ => ?_, hx.later e1.same⟩
    have hL0 := (hg L (by simp)).1
    have e12 := e1.trans e2
    have keep : ∀ a o, H a = some o → delH H2 L a = some o := fun a o h => by
      rw [delH_ne (fun z => by rw [z, hL0] at h; cases h)]
      exact e12.same a o h
    refine ⟨B2, L, items, vs ++ [], xs, _, Q, E, rfl, e2.same _ _ hL, e2.new L _ hL (hg L (by simp)).2, e2.bh, ra.mono e2.le, by rw [List.append_nil]; exact va.reps ha, hs, fun v H' B' r e3 w3 st q => ?_, fun n cls H' en hm l => hx n cls H' en hm fun a o h => l a o (keep a o h)⟩
    refine hq v H' B' r ⟨fun a o h => e3.same a o (keep a o h), e12.le.trans e3.le, e3.bh, fun a o h n => e3.new a o (keep a o h) (e12.new a o h n)⟩ ?_ q
    cases r with
    | v d => exact w3
    | t o =>
      obtain ⟨g', w', ng', hg'⟩ := w3
      refine ⟨g', w', ng', fun a m => ⟨?_, (hg' a m).2⟩⟩
      cases z : H a with
      | none => rfl
      | some o => have := (hg' a m).1; rw [keep a o z] at this; cases this
    | b o => exact st.elim
theorem de_callT (F : FnAtT X.prog X.w X.K X.mg X.base k x ps S) (hr : Room j X.A) (hk : k ≤ j) (hg : Gl X x) (tk : Takes X W) (h0 : DE X W G e m0) (ha : DA X W G es ms) (hs : starEach (e :: es) X.env = (false, eval e X.env) :: starEach es X.env) (hdb : (x == ("__debug__" : Str)) = false)
    (hpl : (backTo pos (starEach es X.env)).any (·.1) = false) : DE X W G (.Call (.Name x p) (e :: es) [] pos) (wCallT S m0 ms) := by
  obtain ⟨f, fd, hm, hkp, F, hb⟩ := F
  exact PEi (pe_callSD (E := fun σ cls d H => W cls d σ H) F (hr.mono hk) hg hm hkp hb .nil (fun σ => passAt tk σ) (pa_cons h0 ha hs) hdb hs hpl) fun _ _ _ h => callT_ok h
end
section
variable {N : List Str} {m : WS}
theorem sp3_wT {f} (h : ∀ xs b c Q E, f (.list xs) b c Q E → m (enD Q E) (startT N xs [b, c])) (xs ds : List D) (Q : R → Prop) (E : Str → Prop) (x : sp3 f (.list xs :: ds) Q E) : m (enD Q E) (startT N xs ds) := by
  match ds, x with
  | [_, _], x => exact h _ _ _ _ _ x
theorem sp2_wT {f} (h : ∀ xs b Q E, f (.list xs) b Q E → m (enD Q E) (startT N xs [b])) (xs ds : List D) (Q : R → Prop) (E : Str → Prop) (x : sp2 f (.list xs :: ds) Q E) : m (enD Q E) (startT N xs ds) := by
  match ds, x with
  | [_], x => exact h _ _ _ _ x
theorem sp1_wT {f} (h : ∀ xs Q E, f (.list xs) Q E → m (enD Q E) (startT N xs [])) (xs ds : List D) (Q : R → Prop) (E : Str → Prop) (x : sp1 f (.list xs :: ds) Q E) : m (enD Q E) (startT N xs ds) := by
  match ds, x with
  | [], x => exact h _ _ _ x
end
end DL

set_option Elab.async false
set_option linter.all false
set_option maxRecDepth 100000
set_option maxHeartbeats 1000000
/-! DLJ: enumerate over a tuple; enumerate over a text from a start that is given by name. -/
namespace DL
open PySem L2 PyProof.Rows
section
variable {prog : Program} {w : World} {A : Around} {E : Value → Shared → Prop} {s : Shared}
theorem new_enum1 {v : Value} {o : Obj} {H : Heap → Prop} (B : Begins v o H) :
    Meets (Builtin.«enumerate.__new__» ⟨[.type "enumerate", v], []⟩) (fun _ R s => H s.heap ∧
      R (.ok (.ret (.ref (s.heap.push o).objs.size))) { s with heap := (s.heap.push o).push { cls := .type "enumerate", data := .fields #[.none, .bool false, .ref s.heap.objs.size, rawInt 0, .none, .none] } }) :=
  .of_wp fun prog w A R s h => by
    obtain ⟨hp, g, d, tk, os⟩ := s; obtain ⟨h1, h⟩ := h
    have hsub := sub_enumerate
    have q1 : ∀ {A' : Around} {E : Value → Shared → Prop} {Q : Value → Shared → Prop}, Q (.ref hp.objs.size) ⟨hp.push o, g, d, tk, os⟩ → wpAny (model prog w) A' (pyIter v) Q E ⟨hp, g, d, tk, os⟩ :=
      fun q => B.iter prog w _ _ ⟨hp, g, d, tk, os⟩ _ h1 q
    wp_walk using q1
    refine wpAny_stack_any fun st => wpAny_pure ?_
    split
    · rename_i c _ _ _ _ _
      cases (c == Value.type "enumerate")
      · wp_walk using q1
        exact ⟨_, rfl, h⟩
      · wp_walk using q1
        exact ⟨_, rfl, h⟩
    · wp_walk using q1
      exact ⟨_, rfl, h⟩
theorem enum_begins1 {v : Value} {o : Obj} {H : Heap → Prop} {Q : Value → Shared → Prop} (B : Begins v o H) (h1 : H s.heap)
    (h : ∀ h', IsEnum h' (s.heap.objs.size + 1) s.heap.objs.size 0 .none → h'.get? s.heap.objs.size = some o → h'.objs.size = s.heap.objs.size + 2 →
      (∀ b o, s.heap.get? b = some o → h'.get? b = some o) → Q (.ref (s.heap.objs.size + 1)) { s with heap := h' }) :
    wpAny (model prog w) A (call (.type "enumerate") [v]) Q E s := by
  refine callType_new F.called_enumerate (by decide) (F.typeCall_enumerate_1 _) (F.newCall_enumerate_1 _) (fun obj => F.args_object_init_2 obj _) F.entry_enumerate_new (new_enum1 B) ⟨h1, ?_⟩
  have hz : (s.heap.push o).objs.size = s.heap.objs.size + 1 := Heap.size_push ..
  show _ ∧ _
  rw [hz]
  have he : IsEnum ((s.heap.push o).push { cls := .type "enumerate", data := .fields #[.none, .bool false, .ref s.heap.objs.size, rawInt 0, .none, .none] }) (s.heap.objs.size + 1) s.heap.objs.size 0 .none := by
    have := Heap.get?_push_size (s.heap.push o) (o := { cls := .type "enumerate", data := .fields #[.none, .bool false, .ref s.heap.objs.size, rawInt 0, .none, .none] }) rfl
    rw [hz] at this; exact this
  refine ⟨⟨_, he, rfl⟩, h _ he (Heap.get?_push_of_some _ (Heap.get?_push_size _ B.free)) (by rw [Heap.size_push, hz]) fun b o x => Heap.get?_push_of_some _ (Heap.get?_push_of_some _ x)⟩
theorem callWith_typeK {M : Model} {env : PySem.Env} {pos : Pos} {T : String} {e : Expr} {rest : List Expr} {kws : List Keyword} {Q : Value → Shared → Prop}
    (h : wpAny M A (spliced (backTo pos (starEach (e :: rest) env))) (fun vs s₁ => wpAny M A (evalAll ((backToKw pos (keywordEach kws env)).map (·.2)))
      (fun kvs s₂ => wpAny M A (call (.type T) vs (((backToKw pos (keywordEach kws env)).filterMap (·.1)).zip kvs)) Q E s₂) E s₁) E s)
    (he : backTo pos (starEach (e :: rest) env) = (false, eval e env) :: backTo pos (starEach rest env))
    (hplain : (backTo pos (starEach (e :: rest) env)).any (·.1) = false)
    (hall : (backToKw pos (keywordEach kws env)).all (·.1.isSome) = true)
    (hkw : (backToKw pos (keywordEach kws env)).any (·.1.isNone) = false) :
    wpAny M A (callWith pos (.type T) [] (backTo pos (starEach (e :: rest) env)) (backToKw pos (keywordEach kws env))) Q E s := by
  unfold callWith
  have key : wpAny M A (evalArgs (.type T) true (backTo pos (starEach (e :: rest) env)) (backToKw pos (keywordEach kws env))) (fun a s₁ => wpAny M A (call (.type T) ([] ++ a.pos) a.kw) Q E s₁) E s := by
    rw [he] at h ⊢
    exact evalArgs_kwB hall h
  refine wpAny_bind (wpAny_holding (wpAny_mono key (fun a s₁ h₁ => wpAny_bind (wpAny_standAt ?_)) fun _ _ x => x))
  simp only [hplain, hkw, Bool.or_false]
  refine wpAny_bind (wpAny_pure ?_)
  exact wpAny_bind (wpAny_mono h₁ (fun r s₂ hr => wpAny_bind (wpAny_holding (wpAny_point (wpAny_pure hr)))) fun _ _ x => x)
end
/-- a tuple, each item in a new pair with its number -/
def Itte (K : PySem.W.Frag) (a : Addr) (n : Nat) : It :=
  ⟨fun i H => i < n ∧ ∃ (xs : List V) (x : V), SqT K H a xs ∧ xs[i]? = some x, fun i H v H' => ∃ T x, v = .ref T ∧ H T = none ∧ H' = upd H T (.tup [.int (i : Nat), x]) ∧ ∀ xs, SqT K H a xs → xs[i]? = some x, fun i H => n ≤ i ∧ ∃ xs : List V, SqT K H a xs ∧ xs.length = n⟩
/-- a text, each sign in a new pair with its number -/
def Itse (k : Int) (x : Str) : It :=
  ⟨fun i _ => i < x.cps.size, fun i H v H' => ∃ T c, v = .ref T ∧ H T = none ∧ H' = upd H T (.tup [.int (k + (i : Nat)), .str ⟨#[c]⟩]) ∧ x.cps[i]? = some c, fun i _ => x.cps.size ≤ i⟩
theorem turn_enumS {P : Program} {w : World} {K : PySem.W.Frag} {elts : List Expr} {kk : Nat} {tpos : Pos} (k : Int) (x : Str) (t : Tok) (e it : Addr) :
    Turn P w K (.Tuple elts kk tpos) (Itse k x) [e, it] e (fun i h => (∃ old, IsEnum h e it (k + ((i : Nat) : Int)) old) ∧ h.IsStrIter it (strIterType x) x t i ∧ e ≠ it ∧ i ≤ x.cps.size) where
  mem := by simp
  obj := fun i h st b hb => by
    obtain ⟨⟨old, he⟩, ⟨o, ho, hc, hd⟩, _, _⟩ := st
    have e' : b = e ∨ b = it := by simpa using hb
    rcases e' with z | z
    · rw [z]; exact ⟨_, he, fun v q => nomatch q⟩
    · rw [z]; exact ⟨o, ho, fun v q => by rw [hd] at q; cases q⟩
  keep := fun i h h' st kp => let ⟨⟨old, he⟩, ⟨o, ho, r⟩, hne, hle⟩ := st; ⟨⟨old, kp e (by simp) _ he⟩, ⟨o, kp it (by simp) o ho, r⟩, hne, hle⟩
  item := by
    intro X hP hw hK hc i pins s σ H E I hf st hg
    subst hP hw hK
    obtain ⟨⟨old, he⟩, hit, hne, hle⟩ := st
    have hlt : i < x.cps.size := hg
    have D := Draws.text (prog := X.prog) (w := X.w) (A := X.A.in1) (I.ok.hd hc) it x t
    have hel : e < s.heap.objs.size := Heap.lt_size he
    have hil : it < s.heap.objs.size := by obtain ⟨_, q, _⟩ := hit; exact Heap.lt_size q
    refine wpAny_pyNext_enum_itemC D he hit hlt hne (by simpa using hne) fun v h' tk ⟨c, u, hx, ev⟩ ho hit' hT hsz hk => ?_
    subst ev
    refine ⟨_, rfl, wpAny_letOwnedTupleGo_enum (s := { s with heap := h', toks := tk + 1 }) ho fun h'' he' sb => ?_⟩
    have hT2 : h''.get? s.heap.objs.size = some { cls := .type "tuple", data := .seq #[.int (k + (i : Nat)) tk, .str ⟨#[c]⟩ u] } := (sb.2 _ (Nat.ne_of_gt hel)).trans hT
    have new : ObjOk X.prog X.w (upd H s.heap.objs.size (.tup [.int (k + (i : Nat)), .str ⟨#[c]⟩])) h'' s.heap.objs.size (.tup [.int (k + (i : Nat)), .str ⟨#[c]⟩]) :=
      ⟨by show 2 ≤ sizeLine; decide, [.int (k + (i : Nat)) tk, .str ⟨#[c]⟩ u], .cons ⟨_, rfl⟩ (.cons ⟨_, rfl⟩ .nil), ⟨_, hT2, rfl, _, rfl⟩⟩
    have I1 : Inv X pins σ (upd H s.heap.objs.size (.tup [.int (k + (i : Nat)), .str ⟨#[c]⟩])) { s with heap := h'', toks := tk + 1 } :=
      I.turnedNew (ch := [e, it]) (fun b ob hb q => (sb.2 b (fun z => hb (by simp [z]))).trans (hk b ob (fun z => hb (by simp [z])) (fun z => hb (by simp [z])) q)) hf (Nat.le_refl _) new
    refine ⟨.ref s.heap.objs.size, _, I1, rfl, ⟨_, c, rfl, I.hok.fresh (Nat.le_refl _), rfl, hx⟩, ⟨⟨.str ⟨#[c]⟩ u, ?_⟩, ?_, hne, hlt⟩, fun b hb => ?_⟩
    · have e1 : k + ((i + 1 : Nat) : Int) = k + (i : Int) + 1 := by omega
      rw [e1]; exact he'
    · obtain ⟨o, ho', r⟩ := hit'
      exact ⟨o, (sb.2 it (Ne.symm hne)).trans ho', r⟩
    · have hb' : b < s.heap.objs.size := by
        have e' : b = e ∨ b = it := by simpa using hb
        rcases e' with z | z
        · rw [z]; exact hel
        · rw [z]; exact hil
      rw [upd_ne (Nat.ne_of_lt hb')]
      exact (hf b hb).1
  done := by
    intro X hP hw hK hc i pins s σ H E I hf st hg
    subst hP hw hK
    obtain ⟨⟨old, he⟩, hit, hne, hle⟩ := st
    have hg : x.cps.size ≤ i := hg
    have hi : x.cps.size = i := Nat.le_antisymm hg hle
    obtain ⟨f0, f1, f2, f3, f4, f5⟩ := hf it (by simp)
    have D := Draws.text (prog := X.prog) (w := X.w) (A := X.A.in1) (I.ok.hd hc) it x t
    subst hi
    exact wpAny_pyNext_enum_endD D he hit fun h' eb => ⟨rfl, I.turned (t' := s.toks) (fun b o hb q => eb b o hb q) f0 f1 f3 f4 f5⟩
  self := fun A i s Q E st h => let ⟨⟨_, he⟩, _⟩ := st; wpAny_pyIter_enum he h
theorem turn_enumT {P : Program} {w : World} {K : PySem.W.Frag} {elts : List Expr} {kk : Nat} {tpos : Pos} (a e it : Addr) (n : Nat) :
    Turn P w K (.Tuple elts kk tpos) (Itte K a n) [e, it] e (fun i h => (∃ old, IsEnum h e it ((i : Nat) : Int) old) ∧ h.IsTupleIter it a i ∧ e ≠ it ∧ i ≤ n) where
  mem := by simp
  obj := fun i h st b hb => by
    obtain ⟨⟨old, he⟩, ⟨o, ho, hc, hd⟩, _, _⟩ := st
    have e' : b = e ∨ b = it := by simpa using hb
    rcases e' with z | z
    · rw [z]; exact ⟨_, he, fun v q => nomatch q⟩
    · rw [z]; exact ⟨o, ho, fun v q => by rw [hd] at q; cases q⟩
  keep := fun i h h' st kp => let ⟨⟨old, he⟩, hi, hne, hle⟩ := st; ⟨⟨old, kp e (by simp) _ he⟩, hi.at fun o q => kp it (by simp) o q, hne, hle⟩
  item := by
    intro X hP hw hK hc i pins s σ H E I hf st hg
    subst hP hw hK
    obtain ⟨⟨old, he⟩, hit, hne, hle⟩ := st
    obtain ⟨hlt0, xs, x, hq, hx⟩ := hg
    obtain ⟨its, rv, p, hz⟩ := I.tuple hq
    obtain ⟨u, hu, ru⟩ := rv.get hx
    have hel : e < s.heap.objs.size := Heap.lt_size he
    have hil : it < s.heap.objs.size := by obtain ⟨_, q, _⟩ := hit; exact Heap.lt_size q
    have pT : s.heap.IsTuple a its.toArray := p
    have hai : a ≠ it := fun z => by
      obtain ⟨o1, q1, c1, d1⟩ := hit
      obtain ⟨o2, q2, c2, n2, d2⟩ := pT
      rw [z, q1] at q2; cases q2
      rw [d1] at d2; cases d2
    have hae : a ≠ e := fun z => by
      obtain ⟨o2, q2, c2, n2, d2⟩ := pT
      have he2 : s.heap.get? e = _ := he
      rw [z, he2] at q2; cases q2
      cases d2
    have D := Draws.tuple (prog := X.prog) (w := X.w) (A := X.A.in1) (I.ok.hd hc) it a hai its.toArray
    have hlt : i < its.toArray.size := by
      have := (List.getElem?_eq_some_iff.mp hu).1
      simpa using this
    refine wpAny_pyNext_enum_itemC D he ⟨hit, pT⟩ hlt hne (by simpa using ⟨hne, Ne.symm hae⟩) fun v h' tk hv ho hit' hT hsz hk => ?_
    have hv : u = v := by
      have hv2 : its[i]? = some v := by simpa using hv
      rw [hu] at hv2; exact Option.some.inj hv2
    subst hv
    refine ⟨_, rfl, wpAny_letOwnedTupleGo_enum (s := { s with heap := h', toks := tk + 1 }) ho fun h'' he' sb => ?_⟩
    have hT2 : h''.get? s.heap.objs.size = some { cls := .type "tuple", data := .seq #[.int i tk, u] } := (sb.2 _ (Nat.ne_of_gt hel)).trans hT
    have new : ObjOk X.prog X.w (upd H s.heap.objs.size (.tup [.int (i : Nat), x])) h'' s.heap.objs.size (.tup [.int (i : Nat), x]) :=
      ⟨by show 2 ≤ sizeLine; decide, [.int i tk, u], .cons ⟨_, rfl⟩ (.cons ru .nil), ⟨_, hT2, rfl, _, rfl⟩⟩
    have I1 : Inv X pins σ (upd H s.heap.objs.size (.tup [.int (i : Nat), x])) { s with heap := h'', toks := tk + 1 } :=
      I.turnedNew (ch := [e, it]) (fun b ob hb q => (sb.2 b (fun z => hb (by simp [z]))).trans (hk b ob (fun z => hb (by simp [z])) (fun z => hb (by simp [z])) q)) hf (Nat.le_refl _) new
    refine ⟨.ref s.heap.objs.size, _, I1, rfl, ⟨_, x, rfl, I.hok.fresh (Nat.le_refl _), rfl, fun ys hy => by rw [I.tuple_inj hy hq]; exact hx⟩, ⟨⟨u, ?_⟩, hit'.1.at fun o q => (sb.2 it (Ne.symm hne)).trans q, hne, hlt0⟩, fun b hb => ?_⟩
    · have e1 : ((i + 1 : Nat) : Int) = (i : Int) + 1 := by omega
      rw [e1]; exact he'
    · have hb' : b < s.heap.objs.size := by
        have e' : b = e ∨ b = it := by simpa using hb
        rcases e' with z | z
        · rw [z]; exact hel
        · rw [z]; exact hil
      rw [upd_ne (Nat.ne_of_lt hb')]
      exact (hf b hb).1
  done := by
    intro X hP hw hK hc i pins s σ H E I hf st hg
    subst hP hw hK
    obtain ⟨⟨old, he⟩, hit, hne, hle⟩ := st
    obtain ⟨hge, xs, hq, hx⟩ := hg
    obtain ⟨its, rv, p, hz⟩ := I.tuple hq
    obtain ⟨f0, f1, f2, f3, f4, f5⟩ := hf it (by simp)
    have hl := rv.length
    have pT : s.heap.IsTuple a its.toArray := p
    have hai : a ≠ it := fun z => by
      obtain ⟨o1, q1, c1, d1⟩ := hit
      obtain ⟨o2, q2, c2, n2, d2⟩ := pT
      rw [z, q1] at q2; cases q2
      rw [d1] at d2; cases d2
    have D := Draws.tuple (prog := X.prog) (w := X.w) (A := X.A.in1) (I.ok.hd hc) it a hai its.toArray
    have hi : its.toArray.size = i := by simp; omega
    subst hi
    exact wpAny_pyNext_enum_endD D he ⟨hit, pT⟩ fun h' eb => ⟨rfl, I.turned (t' := s.toks) (fun b o hb q => eb b o hb q) f0 f1 f3 f4 f5⟩
  self := fun A i s Q E st h => let ⟨⟨_, he⟩, _⟩ := st; wpAny_pyIter_enum he h
def enumS (k : Int) (x : Str) : List D := x.cps.toList.mapIdx fun i c => PyData.tuple [.int (k + (i : Int)), .str ⟨#[c]⟩]
theorem walk_enumS {K : K0} {B : Hp} (k : Int) (x : Str) : Walk K B (Itse k x) (enumS k x) where
  go := fun i H B1 l1 l2 h => by
    have h : i < x.cps.size := by simpa [enumS] using h
    exact h
  stop := fun i H B1 l1 l2 h => by
    have h : x.cps.size ≤ i := by simpa [enumS] using h
    exact h
  yld := fun i H v H' B1 hlt l1 l2 ⟨T, c, e, n, e2, h⟩ => by
    subst e e2
    refine ⟨_, upd B1 T (.tup [.int (k + (i : Nat)), .str ⟨#[c]⟩]), by unfold enumS; rw [List.getElem?_mapIdx, Array.getElem?_toList, h]; rfl, .put l2 n _, .tup (.inl (.inl upd_same)) ?_ (.inr ⟨_, List.mem_cons_self, rfl⟩)⟩
    exact .cons (.int _) (.cons (.str _) .nil)
theorem walk_enumT {K : K0} {B : Hp} {a : Addr} {vs : List V} {ds : List D} (s : SqT K B a vs) (r : RepAll K B vs ds) : Walk K B (Itte K a vs.length) (enumD ds) where
  go := fun i H B1 l1 l2 h => by
    have h : i < ds.length := by simpa [enumD] using h
    have h1 : i < vs.length := by rw [r.length]; omega
    exact ⟨h1, vs, vs[i], (l1.trans l2).sqT s, by simp [h1]⟩
  stop := fun i H B1 l1 l2 h => by
    have h : ds.length ≤ i := by simpa [enumD] using h
    exact ⟨by rw [r.length]; exact h, vs, (l1.trans l2).sqT s, rfl⟩
  yld := fun i H x H' B1 hlt l1 l2 ⟨T, x1, e, n, e2, y⟩ => by
    subst e e2
    obtain ⟨d, h1, h2⟩ := r.getV (y vs ((l1.trans l2).sqT s))
    refine ⟨_, upd B1 T (.tup [.int (i : Nat), x1]), by unfold enumD; rw [List.getElem?_mapIdx, h1]; rfl, .put l2 n _, .tup (.inl (.inl upd_same)) ?_ (.inr ⟨_, List.mem_cons_self, rfl⟩)⟩
    exact .cons (.int _) (.cons ((h2.mono l1).mono (Ext.put l2 n (HO.tup [.int (i : Nat), x1])).le) .nil)
section
variable {X : Cx} {W : WX} {G : Hp} {a b : Expr} {ma mb : WE} {p pos tpos kpos : Pos} {elts : List Expr} {kk : Nat}
def iEnumT (K : PySem.W.Frag) (ta : TA) : TI := fun σ H R => ta σ H fun vs H1 => ∃ a xs, vs = [.ref a] ∧ SqT K H1 a xs ∧ R (Itte K a xs.length) H1
theorem pi_enumT {e : Expr} {ta : TA} (hg : Gl X "enumerate") (hm : X.mg "enumerate" = none) (ha : PA X [e] ta) (hs : starEach [e] X.env = [(false, eval e X.env)]) :
    PI X (.Tuple elts kk tpos) (.Call (.Name "enumerate" p) [e] [] pos) (iEnumT X.K ta) := by
  refine ⟨fun pins s σ H R I h => ?_⟩
  refine Call_ (ld_blt I hg hm boot_enumerate (PyProof.Rows.callWith_type1 (thn (ha.run pos pins s σ H _ I h) fun us s1 ⟨vs, H1, I1, r1, q1⟩ => ?_) hs rfl))
  obtain ⟨a, xs, ex, hq, q⟩ := q1
  subst ex
  cases r1 with
  | cons r rr =>
    cases rr
    cases r
    obtain ⟨its, rv, p', hz⟩ := I1.tuple hq
    refine enum_begins1 (begins_tuple a its.toArray) p' fun h' he hit hsz hk => wpAny_pyIter_enum he ?_
    have I2 : Inv X pins σ H1 { s1 with heap := h' } := I1.kept (t' := s1.toks) hk
    refine ⟨s1.heap.objs.size + 1, [s1.heap.objs.size + 1, s1.heap.objs.size], _, _, H1, rfl, I2, turn_enumT a (s1.heap.objs.size + 1) s1.heap.objs.size xs.length, ⟨⟨.none, he⟩, ⟨_, hit, rfl, rfl⟩, Nat.succ_ne_self _, Nat.zero_le _⟩, fun b hb => ?_, q⟩
    have e' : b = s1.heap.objs.size + 1 ∨ b = s1.heap.objs.size := by simpa using hb
    have hle : s1.heap.objs.size ≤ b := by
      rcases e' with z | z
      · rw [z]; exact Nat.le_add_right _ _
      · rw [z]; exact Nat.le_refl _
    exact I1.fpOk hle (I1.hok.fresh hle)
def iEnumS (ta tk : TA) : TI := fun σ H R => ta σ H fun vs H1 => tk σ H1 fun ws H2 => ∃ x k, vs = [.str x] ∧ ws = [.int k] ∧ -(2 ^ 63) ≤ k ∧ k < 2 ^ 63 ∧ R (Itse k x) H2
theorem pi_enumS {e f : Expr} {ta tk : TA} (hg : Gl X "enumerate") (hm : X.mg "enumerate" = none) (ha : PA X [e] ta) (hk : PK X [⟨some "start", f, kpos⟩] tk)
    (he : backTo pos (starEach [e] X.env) = (false, eval e X.env) :: backTo pos (starEach [] X.env)) (hpl : (backTo pos (starEach [e] X.env)).any (·.1) = false)
    (hall : (backToKw pos (keywordEach [⟨some "start", f, kpos⟩] X.env)).all (·.1.isSome) = true) (hno : (backToKw pos (keywordEach [⟨some "start", f, kpos⟩] X.env)).any (·.1.isNone) = false) (hks : (backToKw pos (keywordEach [⟨some "start", f, kpos⟩] X.env)).filterMap (·.1) = [Str.ofString "start"]) :
    PI X (.Tuple elts kk tpos) (.Call (.Name "enumerate" p) [e] [⟨some "start", f, kpos⟩] pos) (iEnumS ta tk) := by
  refine ⟨fun pins s σ H R I h => ?_⟩
  refine wpAny_Call_Name_kw (ld_blt I hg hm boot_enumerate (callWith_typeK (thn (ha.run pos pins s σ H _ I h) fun us s1 ⟨vs, H1, I1, r1, q1⟩ => thn (hk.run pos pins s1 σ H1 _ I1 q1) fun ws s2 ⟨zs, H2, I2, r2, q2⟩ => ?_) he hpl hall hno))
  obtain ⟨x, k, ex, ez, k1, k2, q⟩ := q2
  subst ex ez
  rw [hks]
  cases r1 with
  | cons r rr =>
    cases rr
    obtain ⟨t, rfl⟩ := r
    cases r2 with
    | cons r rr =>
      cases rr
      obtain ⟨t2, rfl⟩ := r
      refine enum_begins_start (begins_text x t) trivial k1 k2 fun h' he hit hsz hk => wpAny_pyIter_enum he ?_
      have I3 : Inv X pins σ H2 { s2 with heap := h' } := I2.kept (t' := s2.toks) hk
      refine ⟨s2.heap.objs.size + 1, [s2.heap.objs.size + 1, s2.heap.objs.size], _, _, H2, rfl, I3, turn_enumS k x t (s2.heap.objs.size + 1) s2.heap.objs.size, ⟨⟨.none, ?_⟩, ⟨_, hit, rfl, rfl⟩, Nat.succ_ne_self _, Nat.zero_le _⟩, fun b hb => ?_, q⟩
      · rw [show k + ((0 : Nat) : Int) = k from by omega]; exact he
      have e' : b = s2.heap.objs.size + 1 ∨ b = s2.heap.objs.size := by simpa using hb
      have hle : s2.heap.objs.size ≤ b := by
        rcases e' with z | z
        · rw [z]; exact Nat.le_add_right _ _
        · rw [z]; exact Nat.le_refl _
      exact I2.fpOk hle (I2.hok.fresh hle)
def wiEnumT (p : WE) : WI := fun env Q E => p env (fun x => x.st ∧ ∃ ds, x.d = .tuple ds ∧ Q (enumD ds)) E
theorem di_enumT (hg : Gl X "enumerate") (hm : X.mg "enumerate" = none) (ha : DE X W G a ma) (hs : starEach [a] X.env = [(false, eval a X.env)] := by rfl) (hs2 : starEach [a] X.env = (false, eval a X.env) :: starEach [] X.env := by rfl) :
    DI X W G (.Tuple elts kk tpos) (.Call (.Name "enumerate" p) [a] [] pos) (wiEnumT ma) := by
  refine PIi (pi_enumT hg hm (pa_cons ha pa_nil hs2) hs) fun σ H R ⟨B, env, fp, Q, E, rr, hm, hq, hx⟩ => ?_
  refine ⟨B, env, fp, _, E, rr, hm, fun v H1 B1 r e1 w ⟨s, ds, ed, q⟩ => ?_, hx⟩
  obtain ⟨B2, e2, l2, rp⟩ := w.keep e1 s
  rw [ed] at rp
  obtain ⟨a, vs, ev, sv, t⟩ := rp.tup_inv
  subst ev
  exact ⟨a, vs, rfl, e2.bh.sqT sv, hq _ H1 B2 _ e2 (walk_enumT sv t) q⟩
def wiEnumS (p q : WE) : WI := fun env Q E => p env (fun x => x.st ∧ q env (fun y => ∃ t k, x.d = .str t ∧ y.d = .int k ∧ -(2 ^ 63) ≤ k ∧ k < 2 ^ 63 ∧ Q (enumS k t)) E) E
theorem di_enumS (hg : Gl X "enumerate") (hm : X.mg "enumerate" = none) (ha : DE X W G a ma) (hb : DE X W G b mb) (he : backTo pos (starEach [a] X.env) = (false, eval a X.env) :: backTo pos (starEach [] X.env) := by rfl)
    (hs2 : starEach [a] X.env = (false, eval a X.env) :: starEach [] X.env := by rfl)
    (hpl : (backTo pos (starEach [a] X.env)).any (·.1) = false := by rfl) (hall : (backToKw pos (keywordEach [⟨some "start", b, kpos⟩] X.env)).all (·.1.isSome) = true := by rfl) (hno : (backToKw pos (keywordEach [⟨some "start", b, kpos⟩] X.env)).any (·.1.isNone) = false := by rfl) (hks : (backToKw pos (keywordEach [⟨some "start", b, kpos⟩] X.env)).filterMap (·.1) = [Str.ofString "start"] := by rfl) :
    DI X W G (.Tuple elts kk tpos) (.Call (.Name "enumerate" p) [a] [⟨some "start", b, kpos⟩] pos) (wiEnumS ma mb) := by
  refine PIi (pi_enumS hg hm (pa_cons ha pa_nil hs2) (pk_cons hb pk_nil) he hpl hall hno hks) fun σ H R ⟨B, env, fp, Q, E, rr, hm, hq, hx⟩ => ?_
  refine ⟨B, env, fp, _, E, rr, hm, fun v H1 B1 r e1 w ⟨s, q1⟩ => ?_, hx⟩
  have hv := w.now e1
  obtain ⟨B2, e2, l2, rp⟩ := w.keep e1 s
  refine ⟨B2, env, fp, _, E, rr.ext e2, q1, fun v2 H3 B3 r2 e3 w2 ⟨t, k, e4, e5, k1, k2, q⟩ => ?_, hx.later e2.same⟩
  rw [e4] at hv
  have hv2 := w2.now e3
  rw [e5] at hv2
  exact ⟨t, k, by rw [hv.str_inv], by rw [hv2.int_inv], k1, k2, hq _ H3 B3 _ (e2.trans e3) (walk_enumS k t) q⟩
end
section
variable {P : Program} {w : World} {K : K0} {mg : Str → Option Value} {base : Heap} {x qual : Str} {params : Arguments} {body : List Stmt} {scope : Scope} {dvs : List V} {f : Addr} {fd : FuncData} {N ps : List Str} {k : Nat} {S : Spec} {m : WS}
/-- a def with defaults, n values written, the defaults from j on fill up -/
theorem fnAtJ (F : FunD K x qual params body scope dvs [] f fd) (hd : dvs ≠ []) (n j : Nat) (hn : n + (dvs.length - j) = ps.length) (g : mg x = some (.ref f)) (Sc : FnScope N ps scope)
    (hb : ∀ (T : Addr) (kV doc pm : Value) (an : Option Addr) (cdv ct : Value) (us its : List Value), us.length = n → its.length = dvs.length →
      ∃ k, bindArgs (PySem.W.fnOf x qual params body scope (.ref T) kV doc pm an cdv ct) ⟨us, []⟩ = seqItems? (.ref T) >>= k ∧ k (some its.toArray) = pure (ps.zip (us ++ its.drop j)))
    (len : ∀ ds Q E, S ds Q E → ds.length = ps.length)
    (der : ∀ (cdv : Value) (A : Around) (outer : List PySem.Env) (s : Shared) (H : Hp) (E : XK) (G : Hp), Room k (A.deeper (envOfC qual scope s.heap.objs.size f cdv)) →
      Takes (XB P w K mg base N qual scope f cdv A outer s H E) (fun cls d _ H => E cls d H) → PassesOwn (model P w) (XB P w K mg base N qual scope f cdv A outer s H E).A (XB P w K mg base N qual scope f cdv A outer s H E).env (XB P w K mg base N qual scope f cdv A outer s H E).xe →
      DSs (XB P w K mg base N qual scope f cdv A outer s H E) (fun cls d _ H => E cls d H) G body m)
    (wp : ∀ ds Q E, S ds Q E → m (enD Q E) (startD N ds)) : FnAt P w K mg base (k + 1) x ps (dvs.drop j) S := by
  obtain ⟨ds, hv, hb⟩ := F.binds1 n j hd hn hb
  exact ⟨f, fd, ds, g, F.kp, fn_d F Sc len der wp, hb, hv⟩
end
section
variable {K : K0} {h : Heap} {mg : Str → Option Value} {fa : List He.Fa} {fn : List He.DefD}
theorem fun_ofN (X : K.In h) (G : h.Ns mainGlobals mg) (c : He.SaysD fa fn K) {x : Str} {st : Stmt} (i j : Nat) (hi : fn[i]? = some ⟨(x, none), x, x, defArgs st, defBody st, defScope st, [.non], []⟩) (hj : fa[j]? = some (.glo x)) :
    ∃ (f : Addr) (fd : FuncData), FunD K x x (defArgs st) (defBody st) (defScope st) [.non] [] f fd ∧ mg x = some (.ref f) := by
  obtain ⟨fd, F⟩ := c.def_ i hi
  exact ⟨_, fd, F, He.glo_ok X G (c.fact j hj)⟩
end
end DL

set_option Elab.async false
set_option linter.all false
set_option maxRecDepth 100000
set_option maxHeartbeats 2000000
/-! DLB: a text joined from a list turned round. -/
namespace DL
open PySem L2 PyProof.Rows
section
variable {prog : Program} {w : World} {A : Around} {E : Value → Shared → Prop} {s : Shared}
theorem iadd_rev {R : Result → Shared → Prop} {S it l : Addr} {items : Array Value} (hh : A.handled = none) (hit : s.heap.IsRevIter it l ((items.size : Int) - 1)) (hl : s.heap.IsList l items) (hne : l ≠ it) (hn : items.size ≤ sizeLine)
    (hSi : S ≠ it) (hSl : S ≠ l) (c₀ : Nat) (hS : s.heap.get? S = some { cls := .type "list", data := .seq #[] c₀ })
    (hR : ∀ h' tk acc' c', (∀ b o, b ≠ S → b ≠ it → s.heap.get? b = some o → h'.get? b = some o) → h'.get? S = some { cls := .type "list", dict := none, data := .seq acc' c', slots := #[] } → ItemsOf (fun i v => items[items.size - 1 - i]? = some v) acc' items.size → R (.ok (.ret (.ref S))) { s with heap := h', toks := tk }) :
    codeAny (model prog w) A (.builtin "list.__iadd__" ⟨[.ref S, .ref it], []⟩) R s := by
  refine codeAny_builtin PySem.F.entry_list_iadd ?_
  rw [Around.under_plainId PySem.F.plain_list_iadd _]
  exact rev_extend (A := A) hh hit hl hne hn S hSi hSl _ c₀ hS hR
theorem collect_rev {it l : Addr} {items : Array Value} {Q : List Value → Shared → Prop} (hh : A.handled = none) (hit : s.heap.IsRevIter it l ((items.size : Int) - 1)) (hl : s.heap.IsList l items) (hne : l ≠ it) (hn : items.size ≤ sizeLine)
    (hQ : ∀ h' tk acc', (∀ b o, b ≠ it → s.heap.get? b = some o → h'.get? b = some o) → ItemsOf (fun i v => items[items.size - 1 - i]? = some v) acc' items.size → Q acc'.toList { s with heap := h', toks := tk }) :
    wpAny (model prog w) A (collect (.ref it)) Q E s := by
  obtain ⟨oi, hoi, _⟩ := id hit
  obtain ⟨ol, hol, _⟩ := id hl
  have hSi : s.heap.objs.size ≠ it := Nat.ne_of_gt (Heap.lt_size hoi)
  have hSl : s.heap.objs.size ≠ l := Nat.ne_of_gt (Heap.lt_size hol)
  unfold collect
  refine wpAny_bind (wpAny_runValue (codeAny_builtin PySem.F.entry_proto_collect ?_))
  rw [Around.under_plainId PySem.F.plain_proto_collect _]
  show wpAny _ A.in1 (newList [] >>= fun l => again (.builtin "list.__iadd__" ⟨[l, .ref it], []⟩)) _ _ s
  refine wpAny_bind (wpAny_newObj_type ?_)
  have hS : (s.heap.push { cls := .type "list", data := .seq ([] : List Value).toArray }).get? s.heap.objs.size = some { cls := .type "list", data := .seq ([] : List Value).toArray } := Heap.get?_push_size _ rfl
  refine wpAny_pure ⟨plainId_quiet PySem.F.plain_list_iadd _, iadd_rev (s := { s with heap := s.heap.push { cls := .type "list", data := .seq ([] : List Value).toArray } }) hh (hit.at fun o e => Heap.get?_push_of_some _ e) (hl.at fun o e => Heap.get?_push_of_some _ e) hne hn hSi hSl _ hS fun h' tk acc' c' hk hS' hacc => ?_⟩
  show wpAny _ A (load s.heap.objs.size >>= _) _ _ _
  refine wpAny_bind (wpAny_load hS' ?_)
  exact wpAny_pure (hQ h' tk acc' (fun b o hi e => hk b o (Nat.ne_of_lt (Heap.lt_size e)) hi (Heap.get?_push_of_some _ e)) hacc)
theorem rev_items {items acc : Array Value} (hi : ItemsOf (fun i v => items[items.size - 1 - i]? = some v) acc items.size) : acc.toList = items.toList.reverse := by
  apply List.ext_getElem?
  intro j
  have hs : acc.size = items.size := hi.1
  by_cases hj : j < items.size
  · have h1 : acc[j]? = some (acc[j]'(by omega)) := Array.getElem?_eq_getElem (by omega)
    have h2 := hi.2 j _ h1
    rw [Array.getElem?_toList, h1, ← h2, List.getElem?_reverse (by simpa using hj), Array.length_toList, Array.getElem?_toList]
  · rw [List.getElem?_eq_none (by rw [Array.length_toList]; omega), List.getElem?_eq_none (by rw [List.length_reverse, Array.length_toList]; omega)]
theorem strsAre_rev {us : List Value} {ys : List Str} (h : StrsAre us ys) : StrsAre us.reverse ys.reverse := by
  obtain ⟨l, hv, ht⟩ := strsAre_values h
  subst hv ht
  have : StrsAre (strValues l.reverse) (l.reverse.map (·.1)) := by
    generalize l.reverse = r
    induction r with
    | nil => exact .nil
    | cons p r ih => constructor; exact ih
  have e1 : (strValues l).reverse = strValues l.reverse := by unfold strValues; rw [List.map_reverse]
  have e2 : (l.map (·.1)).reverse = l.reverse.map (·.1) := by rw [List.map_reverse]
  rw [e1, e2]; exact this
theorem call_join_rev {x : Str} {t : Tok} {it l : Addr} {items : Array Value} {ys : List Str} {Q : Value → Shared → Prop} (hh : A.handled = none) (hit : s.heap.IsRevIter it l ((items.size : Int) - 1)) (hl : s.heap.IsList l items) (hne : l ≠ it) (hn : items.size ≤ sizeLine)
    (hi : StrsAre items.toList ys) (hz : (ys.map (·.length)).sum + ys.length * x.length ≤ 16777216)
    (hQ : ∀ h' tk t', (∀ b o, b ≠ it → s.heap.get? b = some o → h'.get? b = some o) → Q (.str (Txt.join x ys.reverse) t') { s with heap := h', toks := tk }) :
    wpAny (model prog w) A (call (.builtin "str.join") [.str x t, .ref it]) Q E s := by
  refine wpAny_call (codeAny_call_builtin PySem.F.slot_str_join.plain PySem.F.entry_str_join (PySem.F.slot_str_join.check _ _ _ _ _ _ _ _ (typeIs_str _ _ _) (PySem.F.args_str_join_2 _ _) ?_))
  rw [join_tree_other]
  refine wpAny_bind (wpAny_typeOf hit.typeIs ?_)
  show wpAny _ A.in1 ((pyIter (.ref it)).tryCatch _ >>= fun it => collect it >>= fun items => PySem.joinTail x items) _ _ s
  refine wpAny_bind (wpAny_tryCatch (wpAny_pyIter_revIter hit ?_))
  refine wpAny_bind (collect_rev (A := A.in1) hh hit hl hne hn fun h' tk acc hk hacc => ?_)
  rw [rev_items hacc]
  obtain ⟨lv, hv, ht⟩ := strsAre_values (strsAre_rev hi)
  rw [hv]
  have hok : JoinOk x (lv.map (·.1)) = true := by
    rw [ht]
    refine joinOk_of ?_
    rw [List.map_reverse, List.sum_reverse, List.length_reverse]
    exact hz
  unfold JoinOk at hok
  rw [Bool.not_eq_true'] at hok
  have g : Gives (PySem.joinTail x (strValues lv)) (joinMade x lv) := by
    have g0 := gives_joinTail x lv hok
    cases lv with
    | nil => exact g0
    | cons p r => cases r with
      | nil => exact g0
      | cons q r' => exact g0
  refine g prog w A (wants Q E) _ (post_join lv ⟨joinFit_length hok, fun t' k => ?_⟩)
  rw [ht]
  exact hQ h' k t' hk
end
section
variable {X : Cx} {W : WX} {G : Hp} {ob e : Expr} {mo m : WE} {to te : TE} {p p2 apos cpos : Pos}
def tJoinRev (K : PySem.W.Frag) (to te : TE) : TE := fun σ H Q => to σ H fun x H1 => ∃ a, x = .str a ∧ te σ H1 fun y H2 => ∃ q, ∃ ys : List Str, y = .ref q ∧ SqL K H2 q (ys.map V.str) ∧ (ys.map (·.length)).sum + ys.length * a.length ≤ 16777216 ∧ Q (.str (Txt.join a ys.reverse)) H2
theorem pe_joinrev (c : MF X ob "join" (.Call (.Name "reversed" p) [e] [] p2) [] apos cpos) (hc : X.calm = true) (hg : Gl X "reversed") (hm : X.mg "reversed" = none) (ho : PE X ob to) (he : PE X e te)
    (hs : starEach [e] X.env = (false, eval e X.env) :: starEach [] X.env := by rfl) :
    PE X (.Call (.Attribute ob "join" apos) [.Call (.Name "reversed" p) [e] [] p2] [] cpos) (tJoinRev X.K to te) := by
  refine ⟨fun pins s σ H Q I h => ?_⟩
  refine wpAny_Call_method_late c.base c.few c.line rfl (thn (ho.run pins s σ H _ I h) fun v s1 ⟨x, H1, I1, r1, a, ex, q1⟩ => ?_)
  subst ex
  obtain ⟨h1, h2⟩ := tyV_is (T := "str") I1 r1 rfl
  refine ⟨"str", "str.join", PySem.F.plainAttrs_str, PySem.F.slot_str_join, PySem.F.type_str_join, h1, h2, ?_⟩
  obtain ⟨t, rfl⟩ := r1
  rw [c.hs]
  refine Calls.callWith_builtin (by show (false || (backTo cpos (starEach [] X.env)).any (·.1)) = false; rw [c.pl] <;> rfl) (Calls.evalArgs_plain ?_)
  show wpAny _ _ (spliced (backTo cpos ((false, eval (.Call (.Name "reversed" p) [e] [] p2) X.env) :: starEach [] X.env))) _ _ _
  rw [← c.hs]
  refine args_cons ?_ c.hs
  refine Call_ (ld_blt I1 hg hm PyProof.Rows.boot_reversed (PyProof.Rows.callWith_type1 (args_cons (thn (he.run pins s1 σ H1 _ I1 q1) fun u s2 ⟨v2, H2, I2, r2, q, ys, ev, hq, hz, q2⟩ => args_nil ?_) hs) hs rfl))
  subst ev
  obtain rfl : u = Value.ref q := r2
  obtain ⟨its, rv, p', hz2⟩ := I2.list hq
  have hl := rv.length
  obtain ⟨ol, hol, _⟩ := id p'.isList
  refine call_reversed_list p'.isList (args_nil ?_)
  refine call_join_rev (it := s2.heap.objs.size) (l := q) (items := its.toArray) (ys := ys) (I2.ok.hd hc) ⟨_, Heap.get?_push_size _ rfl, rfl, rfl⟩ (p'.isList.at fun o e => Heap.get?_push_of_some _ e) (Nat.ne_of_lt (Heap.lt_size hol)) (by rw [List.size_toArray]; omega) (by rw [List.toList_toArray]; exact strs_of_vals rv) hz fun h' tk t' hk => ?_
  exact ⟨.str _, H2, I2.kept (t' := tk) (fun b o e => hk b o (Nat.ne_of_lt (Heap.lt_size e)) (Heap.get?_push_of_some _ e)), ⟨t', rfl⟩, q2⟩
/-- sep.join(reversed(x)), x a list -/
def wJoinRev (p q : WE) : WE := fun env Q E => p env (fun x => ∃ a, x.d = .str a ∧ q env (fun y => y.sh ∧ ∃ ys : List Str, y.d = .list (ys.map PyData.str) ∧ (ys.map (·.length)).sum + ys.length * a.length ≤ 16777216 ∧ Q (.v (.str (Txt.join a ys.reverse)))) E) E
theorem de_joinrev (c : MF X ob "join" (.Call (.Name "reversed" p) [e] [] p2) [] apos cpos) (hc : X.calm = true) (hg : Gl X "reversed") (hm : X.mg "reversed" = none) (ho : DE X W G ob mo) (he : DE X W G e m)
    (hs : starEach [e] X.env = (false, eval e X.env) :: starEach [] X.env := by rfl) :
    DE X W G (.Call (.Attribute ob "join" apos) [.Call (.Name "reversed" p) [e] [] p2] [] cpos) (wJoinRev mo m) := by
  refine PEi (pe_joinrev c hc hg hm ho he hs) fun σ H QV ⟨B, env, fp, Q, E, rr, hm, hq, hx⟩ => ?_
  refine ⟨B, env, fp, _, E, rr, hm, fun v1 H1 B1 r1 e1 o1 ⟨a, ea, q1⟩ => ?_, hx⟩
  have hv := o1.now e1
  rw [ea] at hv
  refine ⟨a, hv.str_inv, B1, env, fp, _, E, rr.ext e1, q1, fun v2 H2 B2 r2 e2 o2 ⟨s2, ys, ed, hz, q⟩ => ?_, hx.later e1.same⟩
  obtain ⟨B3, e3, l3, rv⟩ := o2.view e2 s2
  rw [ed] at rv
  obtain ⟨adr, vs, ev, sq, tt⟩ := rv.list e3.bh
  rw [tt.strsV] at sq
  exact ⟨adr, ys, ev, sq, hz, hq _ H2 B3 (.v _) (e1.trans e3) (.str _) q⟩
end
section
variable {X : Cx} {W : WX} {G : Hp} {tg iter elt : Expr} {ifs : List Expr} {scope : Scope} {own : List (Str × Nat)} {i k : Nat} {g : WG} {c : WT} {t : WE} {pos : Pos} {y : Str} {py spos : Pos}
theorem ds_letLcK (hv : PE X iter (tVar k)) (hc : X.calm = true) (hN : X.N.Nodup) (hy : X.N[i]? = some y) (hyl : X.env.scope.names.lookup y = some .local)
    (hsw : swapsWith (.ListComp elt [⟨tg, iter, ifs, 0⟩] scope pos) (some (.Name y py)) spos.line X.env = pure true) {N : List Str} {sc : Scope} (ok : blkC N sc scope own = true) (eN : X.N = N) (eS : X.env.scope = sc)
    (hg : ∀ s H C cl fp, DG (Bk X scope s H C cl fp) G (own.map (·.2)) tg g) (ht : ∀ s H C cl fp, PTs (Bk X scope s H C cl fp) ifs (tDT X W0 G c)) (he : ∀ s H C cl fp, DE (Bk X scope s H C cl fp) W0 G elt t)
    (hs : ∀ x, foldedSetIterable iter X.env x = pure x) : DS X W G (.Assign [.Name y py] (.ListComp elt [⟨tg, iter, ifs, 0⟩] scope pos) spos) (wLet i (wLcK k (own.map (·.2)) g c t)) := by
  have h1 := ps_setLc (pos := pos) (py := py) (spos := spos) (g := tDG X G (own.map fun p : Str × Nat => p.2) g) (tt := tDT X W0 G c) (te := tD X W0 G t) hc hN hy hyl hsw (pi_keys (tg := tg) hv) (by subst eN eS; exact blkOk_by ok) hg ht he hs
  refine ⟨fun pins s σ H D I w => ?_⟩
  have w2 := let_ok (te := fun σ H QV => tLockE (tLc (iKeys (tVar k)) (tDG X G (own.map fun p : Str × Nat => p.2) g) (tDT X W0 G c) (tD X W0 G t) (own.map (·.2))) σ H QV ∨ tLc (iKeys (tVar k)) (tDG X G (own.map fun p : Str × Nat => p.2) g) (tDT X W0 G c) (tD X W0 G t) (own.map (·.2)) σ H QV) (fun _ _ _ h => lcK_ok h) H w
  rcases w2 with w2 | w2
  · obtain ⟨d, u, a, b, w3⟩ := w2
    exact (ps_lock h1).run pins s σ H D I ⟨d, u, a, b, w3⟩
  · exact h1.run pins s σ H D I w2
end
/-! ### list(text) -/
def listS : F1
  | .str x, Q => x.cps.size ≤ sizeLine ∧ Q (.t (.lst ((sgS x).map PyData.str)))
  | d, Q => listD d Q
theorem listS_s (x : Str) (Q : R → Prop) : listS (.str x) Q = (x.cps.size ≤ sizeLine ∧ Q (.t (.lst ((sgS x).map PyData.str)))) := rfl
section
variable {X : Cx}
theorem listAnyT (hcalm : X.calm = true) : CallR X (.type "list") (fun xs H Q => ∃ x : Str, xs = [.str x] ∧ x.cps.size ≤ sizeLine ∧ ∀ p, H p = none → Q (.ref p) (upd H p (.lst ((sgS x).map V.str)))) := by
  intro pins s σ H xs us Q I r q
  obtain ⟨x, ex, hz, q⟩ := q
  subst ex
  obtain ⟨u, eu, rx⟩ := vals1 r
  subst eu
  obtain ⟨t, rfl⟩ : ∃ t, u = Value.str x t := rx
  refine call_list_str (I.ok.hd hcalm) x t (fun h' tk acc c hk hn hacc => ?_) hz
  have hl : (sgS x).length = x.cps.size := by rw [sgS, List.length_map, Array.length_toList]
  have hal : acc.toList.length = (sgS x).length := by rw [Array.length_toList, hacc.1, hl]
  have hS : StrsAre acc.toList (sgS x) := strs_at hal fun j v e => by
    obtain ⟨c, u, e1, e2⟩ := hacc.2 j v (by rw [← Array.getElem?_toList]; exact e)
    exact ⟨⟨#[c]⟩, u, by rw [sgS, List.getElem?_map, Array.getElem?_toList, e1]; rfl, e2⟩
  exact ⟨.ref _, upd H s.heap.objs.size (.lst ((sgS x).map V.str)), I.laid (t' := tk) hk (Nat.le_refl _) (show ObjOk X.prog X.w _ _ _ (.lst ((sgS x).map V.str)) from ⟨by rw [List.length_map, hl]; exact hz, acc.toList, c, vals_of_strs hS, by rw [Array.toArray_toList]; exact hn⟩), rfl, q _ (I.hok.fresh (Nat.le_refl _))⟩
theorem cListS (hc : X.calm = true) : CallR X (.type "list") (rB X.K (f1s listS)) := by
  intro pins s σ H xs us QV I rv ⟨B, fp, rs, Q, l, x, hf, hq⟩
  obtain ⟨a, e, sh, hg⟩ := f1s_inv hf
  have key : ∀ {g : F1}, g a.d Q → f1s g rs Q := by
    intro g hg2
    subst e
    exact ⟨sh, hg2⟩
  by_cases old : listD a.d Q
  · exact cList pins s σ H xs us QV I rv ⟨B, fp, rs, Q, l, x, key old, hq⟩
  clear key hf
  subst e
  obtain ⟨v, e, hv⟩ := x.one_sh sh
  subst e
  generalize a.d = d at hv hg old
  cases d <;> first | exact (old hg).elim | skip
  rename_i z
  obtain ⟨hz, hg⟩ := hg
  have e : v = V.str z := by cases hv with | rep r => cases r; rfl
  subst e
  exact listAnyT hc pins s σ H _ us QV I rv ⟨z, rfl, hz, fun p' np => hq _ _ B (.t _) (.make l np _) (t_lst l np (.strs (sgS z))) hg⟩
end
end DL

set_option Elab.async false
set_option linter.all false
set_option maxRecDepth 100000
set_option maxHeartbeats 1000000
/-! DLC: dicts keyed by tuples of numbers, of tuples of such. -/
namespace DL
open PySem L2 PyProof.Rows
/-! ### keys as data -/
mutual
theorem data_inj : ∀ a b : NestedKey, a.data = b.data → a = b
  | .none, .none, _ => rfl
  | .num i, .num j, h => by simp only [NestedKey.data, PyData.int.injEq] at h; rw [h]
  | .text i, .text j, h => by simp only [NestedKey.data, PyData.str.injEq] at h; rw [h]
  | .tup xs, .tup ys, h => by simp only [NestedKey.data, PyData.tuple.injEq] at h; rw [datas_inj xs ys h]
  | .none, .num _, h => by simp [NestedKey.data] at h
  | .none, .text _, h => by simp [NestedKey.data] at h
  | .none, .tup _, h => by simp [NestedKey.data] at h
  | .num _, .none, h => by simp [NestedKey.data] at h
  | .num _, .text _, h => by simp [NestedKey.data] at h
  | .num _, .tup _, h => by simp [NestedKey.data] at h
  | .text _, .none, h => by simp [NestedKey.data] at h
  | .text _, .num _, h => by simp [NestedKey.data] at h
  | .text _, .tup _, h => by simp [NestedKey.data] at h
  | .tup _, .none, h => by simp [NestedKey.data] at h
  | .tup _, .num _, h => by simp [NestedKey.data] at h
  | .tup _, .text _, h => by simp [NestedKey.data] at h
theorem datas_inj : ∀ a b : List NestedKey, NestedKey.datas a = NestedKey.datas b → a = b
  | [], [], _ => rfl
  | a :: as, b :: bs, h => by
    simp only [NestedKey.datas, List.cons.injEq] at h
    rw [data_inj a b h.1, datas_inj as bs h.2]
  | [], _ :: _, h => by simp [NestedKey.datas] at h
  | _ :: _, [], h => by simp [NestedKey.datas] at h
end
/-- data that may be a key -/
def okD (d : D) : Prop := ∃ k, okNK k ∧ d = k.data
mutual
def okB : Nat → D → Bool
  | _, .none => true
  | _, .int _ => true
  | n + 1, .tuple ds => okBs n ds
  | _, _ => false
def okBs : Nat → List D → Bool
  | _, [] => true
  | n, d :: ds => okB n d && okBs n ds
end
mutual
theorem okB_key : ∀ (n : Nat) (d : D), okB n d = true → ∃ k : NestedKey, d = k.data ∧ tfK k = true ∧ k.depth ≤ n ∧ (∀ ds, d = .tuple ds → ∃ ks, k = .tup ks)
  | n, .none, _ => ⟨.none, by simp [NestedKey.data], rfl, by simp [NestedKey.depth], fun _ e => by cases e⟩
  | n, .int i, _ => ⟨.num i, by simp [NestedKey.data], rfl, by simp [NestedKey.depth], fun _ e => by cases e⟩
  | n + 1, .tuple ds, h => by
    rw [okB] at h
    obtain ⟨ks, e, t, dp⟩ := okBs_key n ds h
    exact ⟨.tup ks, by rw [NestedKey.data, e], by rw [tfK]; exact t, by rw [NestedKey.depth]; omega, fun _ _ => ⟨ks, rfl⟩⟩
  | 0, .tuple _, h => by simp [okB] at h
  | n, .bool _, h => by cases n <;> simp [okB] at h
  | n, .str _, h => by cases n <;> simp [okB] at h
  | n, .list _, h => by cases n <;> simp [okB] at h
  | n, .dict _, h => by cases n <;> simp [okB] at h
theorem okBs_key : ∀ (n : Nat) (ds : List D), okBs n ds = true → ∃ ks : List NestedKey, ds = NestedKey.datas ks ∧ tfKs ks = true ∧ NestedKey.depthAll ks ≤ n
  | n, [], _ => ⟨[], by simp [NestedKey.datas], rfl, by simp [NestedKey.depthAll]⟩
  | n, d :: ds, h => by
    rw [okBs, Bool.and_eq_true] at h
    obtain ⟨k, e1, t1, d1, _⟩ := okB_key n d h.1
    obtain ⟨ks, e2, t2, d2⟩ := okBs_key n ds h.2
    exact ⟨k :: ks, by rw [NestedKey.datas, ← e1, ← e2], by rw [tfKs, t1, t2]; rfl, by rw [NestedKey.depthAll]; omega⟩
end
theorem okD_of {ds : List D} (h : okBs 7 ds = true) : okD (.tuple ds) := by
  obtain ⟨k, e, t, dp, ht⟩ := okB_key 8 (.tuple ds) (by rw [okB]; exact h)
  exact ⟨k, ⟨ht ds rfl, t, dp⟩, e⟩
theorem okBs_ints (n : Nat) (ns : List Int) : okBs n (ns.map PyData.int) = true := by
  induction ns with
  | nil => rfl
  | cons x r ih => rw [List.map_cons, okBs, ih]; cases n <;> rfl
theorem okBs_nL (n : Nat) (ns : List Nat) : okBs n (nL ns) = true := by
  induction ns with
  | nil => rfl
  | cons x r ih =>
    have : okBs n (PyData.int x :: nL r) = true := by rw [okBs, ih]; cases n <;> rfl
    exact this
/-- two numbers; two numbers and a tuple of numbers -/
theorem okD_2 (a b : Int) : okD (.tuple [.int a, .int b]) := okD_of rfl
theorem okD_3 (a b c : Int) : okD (.tuple [.int a, .int b, .int c]) := okD_of rfl
theorem okD_st (a b : Int) (ns : List Int) : okD (.tuple [.int a, .int b, .tuple (ns.map PyData.int)]) := okD_of (by simp [okBs, okB, okBs_ints])
theorem okD_stN (a b : Int) (ns : List Nat) : okD (.tuple [.int a, .int b, .tuple (nL ns)]) := okD_of (by simp [okBs, okB, okBs_nL])
theorem okD_tuple {d : D} (h : okD d) : ∃ ds, d = .tuple ds := by
  obtain ⟨k, ⟨⟨ks, e⟩, _⟩, rfl⟩ := h
  subst e
  exact ⟨_, by rw [NestedKey.data]⟩
/-! ### what stands at a key -/
open Classical in
noncomputable def lookN (kvs : List (D × D)) (k : D) : Option D := (kvs.find? fun p => decide (p.1 = k)).map (·.2)
open Classical in
noncomputable def putN (kvs : List (D × D)) (k d : D) : List (D × D) := if (lookN kvs k).isSome = true then kvs.map (fun p => if p.1 = k then (p.1, d) else p) else kvs ++ [(k, d)]
@[simp] theorem lookN_nil (k : D) : lookN [] k = none := rfl
open Classical in
theorem lookN_cons (p : D × D) (r : List (D × D)) (k : D) : lookN (p :: r) k = if p.1 = k then some p.2 else lookN r k := by
  unfold lookN
  rw [List.find?_cons]
  by_cases h : p.1 = k
  · rw [if_pos h, decide_eq_true h]; rfl
  · rw [if_neg h, decide_eq_false h]
theorem lookN_app (ds es : List (D × D)) (k : D) : lookN (ds ++ es) k = (lookN ds k).or (lookN es k) := by
  induction ds with
  | nil => rfl
  | cons p r ih =>
    rw [List.cons_append, lookN_cons, lookN_cons]
    split
    · rfl
    · exact ih
open Classical in
theorem lookN_put (kvs : List (D × D)) (k j d : D) : lookN (putN kvs k d) j = if j = k then some d else lookN kvs j := by
  unfold putN
  split
  · rename_i h
    have key : ∀ l : List (D × D), lookN (l.map fun p => if p.1 = k then (p.1, d) else p) j = if j = k ∧ (lookN l k).isSome = true then some d else lookN l j := by
      intro l
      induction l with
      | nil => simp
      | cons p r ih =>
        rw [List.map_cons, lookN_cons, ih, lookN_cons, lookN_cons]
        by_cases hp : p.1 = k
        · rw [if_pos hp]
          by_cases hj : j = k
          · subst hj; simp [hp]
          · have : ¬ (k = j) := fun e => hj e.symm
            simp [hp, hj, this]
        · rw [if_neg hp]
          by_cases hj : j = k
          · subst hj; simp [hp]
          · simp [hj]
    rw [key]
    by_cases hj : j = k
    · simp [hj, h]
    · simp [hj]
  · rename_i h
    rw [lookN_app, lookN_cons]
    by_cases hj : j = k
    · subst hj
      have hn : lookN kvs j = none := by
        cases q : lookN kvs j with
        | none => rfl
        | some _ => rw [q] at h; exact absurd rfl h
      rw [hn, if_pos rfl, if_pos rfl]; rfl
    · have : ¬ (k = j) := fun e => hj e.symm
      rw [if_neg this, if_neg hj, lookN_nil]
      cases lookN kvs j <;> rfl
open Classical in
theorem keys_put (kvs : List (D × D)) (k d : D) : (putN kvs k d).map (·.1) = if k ∈ kvs.map (·.1) then kvs.map (·.1) else kvs.map (·.1) ++ [k] := by
  have hm : (lookN kvs k).isSome = true ↔ k ∈ kvs.map (·.1) := by
    induction kvs with
    | nil => simp
    | cons p r ih =>
      rw [lookN_cons, List.map_cons, List.mem_cons]
      by_cases hp : p.1 = k
      · simp [hp]
      · have : ¬ (k = p.1) := fun e => hp e.symm
        simp [hp, this, ih]
  unfold putN
  by_cases h : (lookN kvs k).isSome = true
  · rw [if_pos h, if_pos (hm.mp h), List.map_map]
    refine List.map_congr_left fun p _ => ?_
    by_cases hp : p.1 = k <;> simp [hp]
  · rw [if_neg h, if_neg (fun z => h (hm.mpr z)), List.map_append]; rfl
theorem lookN_mem {kvs : List (D × D)} {k : D} : (lookN kvs k).isSome = true ↔ k ∈ kvs.map (·.1) := by
  induction kvs with
  | nil => simp
  | cons p r ih =>
    rw [lookN_cons, List.map_cons, List.mem_cons]
    by_cases hp : p.1 = k
    · simp [hp]
    · have : ¬ (k = p.1) := fun e => hp e.symm
      simp [hp, this, ih]
theorem lookN_none {kvs : List (D × D)} {k : D} : lookN kvs k = none ↔ k ∉ kvs.map (·.1) := by
  rw [← lookN_mem]
  cases lookN kvs k <;> simp
theorem put_length (kvs : List (D × D)) (k d : D) : (putN kvs k d).length ≤ kvs.length + 1 := by
  unfold putN
  split
  · simp
  · simp
section
variable {K : K0} {B : Hp}
theorem RepND.look {k : NestedKey} : ∀ {xs : List (NestedKey × Addr × Value)} {ds : List (D × D)}, RepND K B xs ds →
    (atKey xs k = none ∧ lookN ds k.data = none) ∨ ∃ p v d, atKey xs k = some p ∧ lookN ds k.data = some d ∧ Rep K B v d ∧ RelV v p.2
  | _, _, .nil => .inl ⟨rfl, rfl⟩
  | _, _, .cons (k := j) (a := a) (v := v) (u := u) (d := d) o rk r e t => by
    rw [lookN_cons]
    by_cases h : j = k
    · subst h
      exact .inr ⟨(a, u), v, d, by simp [atKey], by simp, r, e⟩
    · have h2 : ¬ j.data = k.data := fun q => h (data_inj _ _ q)
      simp only [h2, if_false]
      rcases RepND.look (k := k) t with ⟨h1, h3⟩ | ⟨p, v', d', h1, h3⟩
      · exact .inl ⟨by simpa [atKey, h] using h1, h3⟩
      · exact .inr ⟨p, v', d', by simpa [atKey, h] using h1, h3⟩
theorem RepND.has {k : NestedKey} {xs : List (NestedKey × Addr × Value)} {ds : List (D × D)} (r : RepND K B xs ds) : (atKey xs k).isSome = (lookN ds k.data).isSome := by
  rcases r.look (k := k) with ⟨a, b⟩ | ⟨p, v, d, a, b, _⟩
  · rw [a, b]; rfl
  · rw [a, b]; rfl
theorem RepND.app : ∀ {xs ys : List (NestedKey × Addr × Value)} {ds es : List (D × D)}, RepND K B xs ds → RepND K B ys es → RepND K B (xs ++ ys) (ds ++ es)
  | _, _, _, _, .nil, s => s
  | _, _, _, _, .cons o k r e t, s => .cons o k r e (RepND.app t s)
open Classical in
theorem RepND.mapPut {k : NestedKey} {v : V} {u : Value} {d : D} (w : Rep K B v d) (e : RelV v u) : ∀ {xs : List (NestedKey × Addr × Value)} {ds : List (D × D)}, RepND K B xs ds → RepND K B (xs.map (putAt k u)) (ds.map fun p => if p.1 = k.data then (p.1, d) else p)
  | _, _, .nil => .nil
  | _, _, .cons (k := j) o rk r e' t => by
    rw [List.map_cons, List.map_cons]
    by_cases h : j = k
    · subst h
      simp only [putAt, if_true]
      exact .cons o rk w e (RepND.mapPut w e t)
    · have h2 : ¬ j.data = k.data := fun q => h (data_inj _ _ q)
      simp only [putAt, h, h2, if_false]
      exact .cons o rk r e' (RepND.mapPut w e t)
theorem RepND.put {k : NestedKey} {a : Addr} {v : V} {u : Value} {d : D} {xs : List (NestedKey × Addr × Value)} {ds : List (D × D)} (o : okNK k) (rk : Rep K B (.ref a) k.data) (w : Rep K B v d) (e : RelV v u) (r : RepND K B xs ds) : RepND K B (storedH xs k a u) (putN ds k.data d) := by
  unfold storedH putN
  rw [r.has]
  split
  · exact r.mapPut w e
  · exact r.app (.cons o rk w e .nil)
theorem RepND.all : ∀ {xs : List (NestedKey × Addr × Value)} {ds : List (D × D)}, RepND K B xs ds → ∀ x ∈ xs, okNK x.1 ∧ Rep K B (.ref x.2.1) x.1.data
  | _, _, .nil, x, m => absurd m List.not_mem_nil
  | _, _, .cons o rk r e t, x, m => by
    rcases List.mem_cons.mp m with rfl | m
    · exact ⟨o, rk⟩
    · exact RepND.all t x m
theorem RepND.keys : ∀ {xs : List (NestedKey × Addr × Value)} {ds : List (D × D)}, RepND K B xs ds → RepAll K B (xs.map fun x => V.ref x.2.1) (ds.map (·.1))
  | _, _, .nil => .nil
  | _, _, .cons o rk r e t => .cons rk (RepND.keys t)
end
section
variable {X : Cx} {pins : List (Addr × Obj)} {σ : L2.St} {H : Hp} {s : Shared}
mutual
theorem nested_of (I : Inv X pins σ H s) : ∀ (k : NestedKey) (v : V) (u : Value), Rep X.K H v k.data → RelV v u → NestedIs s.heap k u
  | .none, v, u, r, q => by
    rw [NestedKey.data] at r
    cases r
    rw [show u = Value.none from q]
    exact .none
  | .num i, v, u, r, q => by
    rw [NestedKey.data] at r
    cases r
    obtain ⟨t, e⟩ : ∃ t, u = Value.int i t := q
    rw [e]
    exact .int i t
  | .text x, v, u, r, q => by
    rw [NestedKey.data] at r
    cases r
    obtain ⟨t, e⟩ : ∃ t, u = Value.str x t := q
    rw [e]
    exact .text x t
  | .tup ks, v, u, r, q => by
    rw [NestedKey.data] at r
    obtain ⟨a, vs, e, sq, t⟩ := r.tup_inv
    subst e
    rw [show u = Value.ref a from q]
    obtain ⟨its, rv, ⟨o, e, c, n, hd⟩, hz⟩ := I.tuple sq
    exact .tup e c hd (by simpa using nestedAll_of I ks vs its t rv)
theorem nestedAll_of (I : Inv X pins σ H s) : ∀ (ks : List NestedKey) (vs : List V) (us : List Value), RepAll X.K H vs (NestedKey.datas ks) → Vals vs us → NestedAll s.heap ks us
  | [], _, _, r, q => by
    rw [NestedKey.datas] at r
    cases r
    cases q
    exact .nil
  | k :: ks, _, _, r, q => by
    rw [NestedKey.datas] at r
    cases r with
    | cons r1 r2 =>
      cases q with
      | cons q1 q2 => exact .cons (nested_of I k _ _ r1 q1) (nestedAll_of I ks _ _ r2 q2)
end
abbrev NK (X : Cx) := nestedKind X.prog X.w
theorem key_is (I : Inv X pins σ H s) {k : NestedKey} {a : Addr} (o : okNK k) (r : Rep X.K H (.ref a) k.data) : (NK X).is s.heap k a := ⟨nested_of I k _ _ r rfl, o.2.2⟩
theorem nd_of (I : Inv X pins σ H s) {a : Addr} {xs : List (NestedKey × Addr × Value)} {ds : List (D × D)} (e : Rd H a (ndHO a xs)) (r : RepND X.K H xs ds) : (a == sysModules) = false ∧ xs.length ≤ sizeLine ∧ s.heap.DictOfH (NK X) a xs := by
  obtain ⟨h1, h2, h3, o, es, ep, h4, h5, h6, h7⟩ := nd_obj I.hok e
  exact ⟨h1, h2, o, es, ep, h4, h5, h6, h7, fun x m => key_is I (r.all x m).1 (r.all x m).2, h3⟩
theorem room_nk (hu : X.A.units + 64 < cLine) : (NK X).room X.A.in1 := by
  show X.A.units + 1 + 8 < cLine
  omega
/-- the object of a dict that a key was put to -/
theorem nd_new {P : Program} {w : World} {H' : Hp} {h' : Heap} {a : Addr} {xs : List (NestedKey × Addr × Value)} (z : xs.length ≤ sizeLine) (hd : (a == sysModules) = false) (all : ∀ y ∈ xs, tfK y.1 = true) (dd : h'.DictOfH (nestedKind P w) a xs) :
    ObjOk P w H' h' a (ndHO a xs) := by
  obtain ⟨o, es, ep, h1, h2, h3, h4, h5, h6⟩ := dd
  cases xs with
  | nil =>
    have he : es = #[] := by
      cases es with | mk l => simp at h4; subst h4; rfl
    subst he
    exact ⟨by simp, hd, [], .nil, o, #[], ep, h1, h2, h3, by first | trivial | (constructor <;> simp) | (simp [PySem.KeysOf]), by first | exact .nil | constructor, by simp⟩
  | cons x xs =>
    refine ⟨⟨⟨hd, z, h6⟩, o, es, ep, h1, h2, h3, fun w' => ?_⟩, ⟨o, h1⟩, ?_⟩
    · rw [h4]
      refine List.map_congr_left fun y m => ?_
      show (⟨y.1.hash w, _, _⟩ : DictEntry) = ⟨y.1.hash w', _, _⟩
      rw [hash_tf w w' y.1 (all y m)]
    · rintro g1 g2 ⟨q0, o', es', ep', q1, q2⟩ k
      exact ⟨q0, o', es', ep', k _ q1, q2⟩
end
end DL

set_option Elab.async false
set_option linter.all false
set_option maxRecDepth 100000
set_option maxHeartbeats 1000000
/-! DLD: what is done with dicts keyed by tuples. -/
namespace DL
open PySem L2 PyProof.Rows
open PySem.W (alike alikeAll AllAlike Sortable EachIs dataLe)
/-- no key is flat -/
def ndK (ds : List (D × D)) : Prop := ∀ p ∈ ds, flatD p.1 = false
theorem ndK_nil : ndK [] := fun p m => absurd m List.not_mem_nil
theorem ndK_map {α : Type} {xs : List α} {f : α → D × D} (h : ∀ x, flatD (f x).1 = false) : ndK (xs.map f) := fun q m => by
  obtain ⟨x, _, rfl⟩ := List.mem_map.mp m
  exact h x
theorem ndK_put {ds : List (D × D)} {k d : D} (h : ndK ds) (hk : flatD k = false) : ndK (putN ds k d) := by
  unfold putN
  split
  · intro p m
    obtain ⟨q, mq, rfl⟩ := List.mem_map.mp m
    by_cases e : q.1 = k
    · rw [if_pos e]; exact h q mq
    · rw [if_neg e]; exact h q mq
  · intro p m
    rcases List.mem_append.mp m with m | m
    · exact h p m
    · rw [List.mem_singleton.mp m]; exact hk
section
variable {K : K0} {B B' H : Hp} {v : V}
theorem RepKV.nd {kvs : List (Key × V)} {ds : List (D × D)} (r : RepKV K B kvs ds) (h : ndK ds) : kvs = [] ∧ ds = [] := by
  cases r with
  | nil => exact ⟨rfl, rfl⟩
  | cons r t =>
    have := h _ List.mem_cons_self
    rw [flat_kD] at this
    cases this
theorem Rep.ndict {ds : List (D × D)} (x : Rep K H v (.dict ds)) (h : ndK ds) : ∃ a xs, v = .ref a ∧ Rd H a (ndHO a xs) ∧ RepND K H xs ds := by
  cases x with
  | dic s r => obtain ⟨rfl, rfl⟩ := r.nd h; exact ⟨_, [], rfl, s, .nil⟩
  | nd s r => exact ⟨_, _, rfl, s, r⟩
theorem RV.ndict {ds : List (D × D)} (x : RV K B H v (.dict ds)) (l : Le B H) (h : ndK ds) : ∃ a xs, v = .ref a ∧ Rd H a (ndHO a xs) ∧ RepND K B xs ds := by
  cases x with
  | rep r =>
    obtain ⟨a, xs, e, s, t⟩ := r.ndict h
    exact ⟨a, xs, e, l.rd s, t⟩
  | dic s r => obtain ⟨rfl, rfl⟩ := r.nd h; exact ⟨_, [], rfl, .inl s, .nil⟩
  | nd s r => exact ⟨_, _, rfl, .inl s, r⟩
theorem look_ndK {ds : List (D × D)} {k d : D} (x : Rep K H v (.dict ds)) (ok : okD k) (h : lookN ds k = some d) : ndK ds := by
  cases x with
  | dic s r =>
    have : ∀ {kvs : List (Key × V)} {ds : List (D × D)}, RepKV K H kvs ds → lookN ds k = none := by
      intro kvs ds r
      induction kvs generalizing ds with
      | nil => cases r; rfl
      | cons kv t ih =>
        cases r with
        | cons r1 r2 =>
          rw [lookN_cons, if_neg, ih r2]
          intro e
          obtain ⟨ts, ek⟩ := okD_tuple ok
          rw [ek] at e
          have e : kD _ = PyData.tuple ts := e
          generalize hk : kD _ = kk at e
          subst e
          rename_i k0 _ _ _
          cases k0 <;> simp [kD] at hk
    rw [this r] at h
    cases h
  | nd s r =>
    have : ∀ {xs : List (NestedKey × Addr × Value)} {ds : List (D × D)}, RepND K H xs ds → ndK ds := by
      intro xs ds r
      induction xs generalizing ds with
      | nil => cases r; exact ndK_nil
      | cons x t ih =>
        cases r with
        | cons o rk r1 e r2 =>
          intro p m
          rcases List.mem_cons.mp m with rfl | m
          · obtain ⟨⟨ks, q⟩, _⟩ := o
            subst q
            simp [NestedKey.data, flatD]
          · exact ih r2 p m
    exact this r
end
/-! ### an item -/
def wIxN (ta tb : WE) : WE := fun env Q E => ta env (fun x => tb env (fun y => x.sh ∧ ∃ kvs d, x.d = .dict kvs ∧ okD y.d ∧ lookN kvs y.d = some d ∧ Q (.v d)) E) E
section
variable {X : Cx} {W : WX} {G : Hp} {e a b c : Expr} {m ma mb mc : WE} {pos : Pos}
def rIxN (K : K0) : V → V → Hp → VK → Prop := fun x y H QV => ∃ a b k xs ds p v, x = .ref a ∧ y = .ref b ∧ Rd H a (ndHO a xs) ∧ RepND K H xs ds ∧ okNK k ∧ Rep K H (.ref b) k.data ∧ atKey xs k = some p ∧ RelV v p.2 ∧ QV v H
theorem ix_nd (hu : X.A.units + 64 < cLine) : IxR X (rIxN X.K) := by
  intro value slice pins s σ H x y v u Q I rx ry ⟨a, bb, k, xs, ds, p, z, ex, ey, hr, rn, ok, rk, hp, hv, q⟩ hs
  subst ex ey
  cases rx
  cases (show u = Value.ref bb from ry)
  obtain ⟨hd, hz, dd⟩ := nd_of I hr rn
  have hT := dd.typeIs
  have h2 : wpAny (model X.prog X.w) X.A (getItem (.ref a) (.ref bb)) (EP X pins σ Q) X.xe s := wpAny_getItem_heap (room_nk hu) (key_is I ok rk) dd hp ⟨z, H, I.tok _, hv, q⟩
  unfold subscriptTail
  refine wpAny_bind ?_
  rw [getitemInPython_of_ne hT.not_modules]
  refine wpAny_bind (wpAny_specialOf hT PySem.F.slot_dict_getitem.lookup ?_)
  have fin : wpAny (model X.prog X.w) X.A (subscripted slice false (.ref a) (.ref bb)) (fun r s3 => wpAny (model X.prog X.w) X.A (letTemporaryGo value (.ref a) r >>= fun _ => pure r) (EP X pins σ Q) X.xe s3) X.xe s := by
    rw [hs]
    exact wpAny_operating (wpAny_mono h2 (fun r s3 h3 => wpAny_bind (wpAny_letTemporaryGo (wpAny_pure h3))) fun _ _ x => x)
  first
    | exact wpAny_pure (wpAny_bind fin)
    | exact wpAny_bind (wpAny_pure (wpAny_bind fin))
    | exact wpAny_bind fin
theorem de_ixN (hu : X.A.units + 64 < cLine) (ha : DE X W G a ma) (hb : DE X W G b mb) (hs : PlainIx b) : DE X W G (.Subscript a b pos) (wIxN ma mb) := by
  refine PEi (pe_ix (ix_nd hu) ha hb hs) fun σ H QV ⟨B, env, fp, Q, E, rr, hm, hq, hx⟩ => ?_
  refine ⟨B, env, fp, _, E, rr, hm, fun v1 H1 B1 r1 e1 o1 q1 => ?_, hx⟩
  by_cases s1 : r1.sh
  · obtain ⟨B2, e2, l2, rv1⟩ := o1.view e1 s1
    refine ⟨B2, env, fp, _, E, rr.ext e2, q1, fun v2 H3 B3 r2 e3 o2 q2 => ?_, hx.later e1.same⟩
    obtain ⟨_, kvs, d, ed, ok, hl, q⟩ := q2
    have x3 := rv1.ext e3
    rw [ed] at x3
    have hy := o2.now e3
    obtain ⟨k, ok2, ek⟩ := ok
    have nk := look_ndK (x3.toH e3.bh) ⟨k, ok2, ek⟩ hl
    obtain ⟨a1, xs, ev, hr, rn⟩ := x3.ndict e3.bh nk
    rw [ek] at hy hl
    obtain ⟨⟨ks, ekk⟩, _⟩ := id ok2
    have hy' := hy
    rw [ekk, NestedKey.data] at hy'
    obtain ⟨b1, vs, eb, _, _⟩ := hy'.tup_inv
    subst eb
    rcases rn.look (k := k) with ⟨_, z2⟩ | ⟨p, v, d', z1, z2, z3, z4⟩
    · rw [z2] at hl; cases hl
    · rw [z2] at hl; cases hl
      exact ⟨a1, b1, k, xs, kvs, p, v, ev, rfl, hr, rn.mono e3.bh, ok2, hy, z1, z4, hq v H3 B3 (.v d) (e2.trans e3) z3 q⟩
  · refine ⟨B1, env, fp, _, E, rr.ext e1, q1, fun v2 H3 B3 r2 e3 o2 q2 => (s1 q2.1).elim, hx.later e1.same⟩
/-! ### in -/
def cInN (neg : Bool) : Op2B := fun x y Q => ∃ kvs, y = .dict kvs ∧ ndK kvs ∧ okD x ∧ Q (neg != (lookN kvs x).isSome)
theorem inN_pre {pins : List (Addr × Obj)} {σ : L2.St} {H : Hp} {s : Shared} {x y : V} {v u : Value} {dx dy : D} {neg : Bool} {Q' : Bool → Prop} (I : Inv X pins σ H s) (rx : RelV x v) (ry : RelV y u) (hx : Rep X.K H x dx) (hy : Rep X.K H y dy) (hf : cInN neg dx dy Q') :
    ∃ a b k xs, v = .ref b ∧ u = .ref a ∧ (NK X).is s.heap k b ∧ (a == sysModules) = false ∧ s.heap.DictOfH (NK X) a xs ∧ Q' (neg != (atKey xs k).isSome) := by
  obtain ⟨kvs, ed, nk, ok, q⟩ := hf
  subst ed
  obtain ⟨a, xs, ev, hr, rn⟩ := hy.ndict nk
  obtain ⟨k, ok2, ek⟩ := ok
  rw [ek] at hx q
  obtain ⟨⟨ks, ekk⟩, _⟩ := id ok2
  have hx' := hx
  rw [ekk, NestedKey.data] at hx'
  obtain ⟨b, vs, eb, _, _⟩ := hx'.tup_inv
  subst eb ev
  cases rx
  cases ry
  obtain ⟨hd, hz, dd⟩ := nd_of I hr rn
  exact ⟨a, b, k, xs, rfl, rfl, key_is I ok2 hx, hd, dd, by rw [rn.has]; exact q⟩
theorem opInN (hu : X.A.units + 64 < cLine) : OpR X (compareOp .In) (rc2 X.K (cInN false)) := by
  intro pins s σ H x y v u Q I rx ry ⟨B, dx, dy, Q', l, hx, hy, hf, hq⟩
  obtain ⟨a, b, k, xs, rfl, rfl, hk, hd, dd, q⟩ := inN_pre I rx ry hx hy hf
  refine wpAny_in_heap (room_nk hu) hk hd dd ?_
  exact ⟨.bl _, H, I.tok _, rfl, by simpa using hq _ q⟩
theorem opNotInN (hu : X.A.units + 64 < cLine) : OpR X (compareOp .NotIn) (rc2 X.K (cInN true)) := by
  intro pins s σ H x y v u Q I rx ry ⟨B, dx, dy, Q', l, hx, hy, hf, hq⟩
  obtain ⟨a, b, k, xs, rfl, rfl, hk, hd, dd, q⟩ := inN_pre I rx ry hx hy hf
  refine wpAny_notIn_heap (room_nk hu) hk hd dd ?_
  exact ⟨.bl _, H, I.tok _, rfl, by simpa using hq _ q⟩
/-! ### d.get(k, x) -/
def wGetN (o k z : WE) : WE := fun env Q E => o env (fun x => x.sh ∧ ∃ kvs, x.d = .dict kvs ∧ ndK kvs ∧ k env (fun y => z env (fun u => u.st ∧ okD y.d ∧ Q (.v ((lookN kvs y.d).getD u.d))) E) E) E
def tGetN (K : K0) (td ty tx : TE) : TE := fun σ H Q => td σ H fun x H1 => ∃ a xs ds, x = .ref a ∧ Rd H1 a (ndHO a xs) ∧ RepND K H1 xs ds ∧ ty σ H1 fun y H2 => tx σ H2 fun z H3 => ∃ b k, y = .ref b ∧ Rd H3 a (ndHO a xs) ∧ RepND K H3 xs ds ∧ okNK k ∧ Rep K H3 (.ref b) k.data ∧
  (∀ p v, atKey xs k = some p → RelV v p.2 → Q v H3) ∧ (atKey xs k = none → Q z H3)
theorem pe_getN {o e f : Expr} {td ty tx : TE} {apos cpos : Pos} (hu : X.A.units + 64 < cLine) (ho : PE X o td) (he : PE X e ty) (hf : PE X f tx) (m : M2 X o "get" apos e f cpos) : PE X (.Call (.Attribute o "get" apos) [e, f] [] cpos) (tGetN X.K td ty tx) := by
  refine ⟨fun pins s σ H Q I h => ?_⟩
  refine wpAny_Call_method m.base m.few m.line PySem.F.plainAttrs_dict PySem.F.slot_dict_get PySem.F.type_dict_get (thn (ho.run pins s σ H _ I h) fun u s1 ⟨x, H1, I1, rx, a, xs, ds, ex, d, rn, q1⟩ => ?_)
  subst ex
  obtain rfl : u = Value.ref a := rx
  obtain ⟨hd, hz, dd⟩ := nd_of I1 d rn
  refine ⟨dd.typeIs, fun b q => ?_, ?_⟩
  · cases q
    obtain ⟨ob, _, _, h1, h2, _⟩ := dd
    exact ⟨ob, h1, h2.2.1⟩
  rw [m.trees]
  refine Calls.callWith_builtin rfl (Calls.evalArgs_plain (Calls.spliced_cons (thn (he.run pins s1 σ H1 _ I1 q1) fun iv s2 ⟨y, H2, I2, ry, q2⟩ =>
    Calls.spliced_cons (thn (hf.run pins s2 σ H2 _ I2 q2) fun fv s3 ⟨z, H3, I3, rz, b, k, ey, d3, rn3, ok, rk, q3, q4⟩ => Calls.spliced_nil ?_))))
  subst ey
  cases (show iv = Value.ref b from ry)
  obtain ⟨hd3, hz3, dd3⟩ := nd_of I3 d3 rn3
  refine call_meetsIn PySem.F.slot_dict_get dd3.typeIs PySem.F.entry_dict_get (PySem.F.args_dict_get_3 _ _ _) (meetsH_dict_get_default (NK X) a b hd3 fv) ⟨room_nk hu, k, xs, key_is I3 ok rk, dd3, ?_⟩
  rcases rn3.look (k := k) with ⟨h1, _⟩ | ⟨p, v, d, h1, _, _, hv⟩
  · rw [h1]
    exact ⟨z, H3, I3.tok _, rz, q4 h1⟩
  · rw [h1]
    exact ⟨v, H3, I3.tok _, hv, q3 p v h1 hv⟩
theorem de_getN {ob kx zx : Expr} {mo mk mz : WE} {apos cpos : Pos} (hu : X.A.units + 64 < cLine) (c : M2 X ob "get" apos kx zx cpos) (ho : DE X W G ob mo) (hk : DE X W G kx mk) (hz : DE X W G zx mz) : DE X W G (.Call (.Attribute ob "get" apos) [kx, zx] [] cpos) (wGetN mo mk mz) := by
  refine PEi (pe_getN hu ho hk hz c) fun σ H QV ⟨B, env, fp, Q, E, rr, hm, hq, hx⟩ => ?_
  refine ⟨B, env, fp, _, E, rr, hm, fun v H1 B1 r e1 w ⟨s, kvs, ed, nk, q1⟩ => ?_, hx⟩
  obtain ⟨B2, e2, l2, rv⟩ := w.view e1 s
  rw [ed] at rv
  obtain ⟨a, xs, ev, hd, t⟩ := rv.ndict e2.bh nk
  refine ⟨a, xs, kvs, ev, hd, t.mono e2.bh, B2, env, fp, _, E, rr.ext e2, q1, fun y H3 B3 ry e3 wy q2 => ?_, hx.later e2.same⟩
  refine ⟨B3, env, fp, _, E, (rr.ext e2).ext e3, q2, fun z H4 B4 rz e4 wz ⟨sz, ok, q3⟩ => ?_, hx.later (e2.same.trans e3.same)⟩
  obtain ⟨B5, e5, l5, rz'⟩ := wz.keep e4 sz
  have hy := (wy.now e3).mono e5.same
  obtain ⟨k, ok2, ek⟩ := ok
  rw [ek] at hy q3
  obtain ⟨⟨ks, ekk⟩, _⟩ := id ok2
  have hy' := hy
  rw [ekk, NestedKey.data] at hy'
  obtain ⟨b, vs, eb, _, _⟩ := hy'.tup_inv
  subst eb
  have eT := (e2.trans e3).trans e5
  have t' := (t.mono e3.le).mono e5.le
  refine ⟨b, k, rfl, (e3.same.trans e5.same).rd hd, t'.mono e5.bh, ok2, hy, fun p v hp hv => ?_, fun hn => ?_⟩
  · rcases t'.look (k := k) with ⟨z1, _⟩ | ⟨p', v', d', z1, z2, z3, z4⟩
    · rw [z1] at hp; cases hp
    · rw [z1] at hp; cases hp
      rw [z2] at q3
      have : v' = v := by
        exact RelV.inj z4 hv
      subst this
      exact hq _ H4 B5 (.v _) eT z3 q3
  · rcases t'.look (k := k) with ⟨_, z2⟩ | ⟨p', v', d', z1, _⟩
    · rw [z2] at q3
      exact hq _ H4 B5 (.v _) eT rz' q3
    · rw [z1] at hn; cases hn
end
end DL

set_option Elab.async false
set_option linter.all false
set_option maxRecDepth 100000
set_option maxHeartbeats 1000000
/-! DLM: dicts keyed by tuples: made, changed, listed, sorted. -/
namespace DL
open PySem L2 PyProof.Rows
open PySem.W (alike alikeAll AllAlike Sortable EachIs dataLe)
/-! ### {} -/
def wNd0 : WE := fun _ Q _ => Q (.t (.nd []))
section
variable {X : Cx} {W : WX} {G : Hp} {e a b c ob ix : Expr} {t k m ma mb mc : WE} {pos : Pos}
theorem de_nd0 : DE X W G (.Dict [] [] pos) wNd0 := by
  refine PEi pe_dnewK fun σ H QV ⟨B, env, fp, Q, E, rr, hm, hq, hx⟩ p np => ?_
  exact hq _ _ B (.t (.nd [])) (.make rr.bh np _) ⟨[p], .nd (xs := []) upd_same .nil, by simp, fun a m => by simp at m; subst m; exact ⟨np, rr.bh.none np⟩⟩ hm
/-! ### d[k] = v -/
def stN : O → D → D → (O → Prop) → Prop
  | .nd kvs, k, d, Q => kvs.length < sizeLine ∧ Q (.nd (putN kvs k d))
  | .pin a (.nd kvs), k, d, Q => kvs.length < sizeLine ∧ Q (.pin a (.nd (putN kvs k d)))
  | _, _, _, _ => False
theorem stN_nd (kvs : List (D × D)) (k d : D) (Q : O → Prop) : stN (.nd kvs) k d Q = (kvs.length < sizeLine ∧ Q (.nd (putN kvs k d))) := rfl
theorem stN_pin (a : Addr) (kvs : List (D × D)) (k d : D) (Q : O → Prop) : stN (.pin a (.nd kvs)) k d Q = (kvs.length < sizeLine ∧ Q (.pin a (.nd (putN kvs k d)))) := rfl
def isNd : O → Prop
  | .nd _ => True
  | .pin _ (.nd _) => True
  | _ => False
theorem isNd_nd (ds : List (D × D)) : isNd (.nd ds) = True := rfl
theorem isNd_pin (a : Addr) (ds : List (D × D)) : isNd (.pin a (.nd ds)) = True := rfl
def wStN (i : Nat) (k m : WE) : WS := fun D env => ∃ o, env[i]? = some (some o) ∧ isNd o ∧ m env (fun r => k env (fun kk => r.st ∧ kk.st ∧ okD kk.d ∧ stN o kk.d r.d fun o' => D.nx (env.set i (some o'))) (fun n => D.ex n env)) (fun n => D.ex n env)
def rSetN (K : K0) : TSet := fun o i v H Q => ∃ a b k xs ds, o = .ref a ∧ i = .ref b ∧ H a = some (ndHO a xs) ∧ RepND K H xs ds ∧ okNK k ∧ Rep K H (.ref b) k.data ∧ xs.length < sizeLine ∧ ∀ u, RelV v u → Q (upd H a (ndHO a (storedH xs k b u)))
theorem mut_nd (a : Addr) (xs : List (NestedKey × Addr × Value)) : Mut (some (ndHO a xs)) := by cases xs <;> exact True.intro
theorem stored_keys {xs : List (NestedKey × Addr × Value)} {k : NestedKey} {b : Addr} {u : Value} : ∀ y ∈ storedH xs k b u, y.1 = k ∨ ∃ x ∈ xs, x.1 = y.1 := by
  intro y m
  unfold storedH at m
  split at m
  · obtain ⟨x, mx, rfl⟩ := List.mem_map.mp m
    refine .inr ⟨x, mx, ?_⟩
    unfold putAt
    split <;> rfl
  · rcases List.mem_append.mp m with m | m
    · exact .inr ⟨y, m, rfl⟩
    · rw [List.mem_singleton.mp m]; exact .inl rfl
theorem set_nd (hu : X.A.units + 64 < cLine) : PSet X (rSetN X.K) := by
  intro pins s σ H o i v ov iv u Q I ro ri rv ⟨a, b, k, xs, ds, eo, ei, ha, rn, ok, rk, hz, q⟩
  subst eo ei
  cases (show ov = Value.ref a from ro)
  cases (show iv = Value.ref b from ri)
  obtain ⟨hd, hz2, dd⟩ := nd_of I (.inl ha) rn
  refine wpAny_setItem_heap (hsz := hz2) (room_nk hu) (key_is I ok rk) dd fun h' dd' hs => ⟨_, ?_, q u rv⟩
  obtain ⟨qq, es, ep, hq, _⟩ := id dd'
  refine d_write I (by rw [ha]; exact mut_nd _ _) hs ⟨qq, hq⟩ (nd_new ?_ hd (fun y m => ?_) dd')
  · unfold storedH
    split
    · rw [List.length_map]; omega
    · rw [List.length_append]; simp; omega
  · rcases stored_keys y m with e | ⟨x, mx, e⟩
    · rw [e]; exact ok.2.1
    · rw [← e]; exact (rn.all x mx).1.2.1
theorem okD_key {d : D} (h : okD d) : ∃ k ks, okNK k ∧ k = .tup ks ∧ d = k.data := by
  obtain ⟨k, o, e⟩ := h
  obtain ⟨⟨ks, e2⟩, _⟩ := id o
  exact ⟨k, ks, o, e2, e⟩
theorem Rep.key {K : K0} {H : Hp} {v : V} {d : D} (r : Rep K H v d) (h : okD d) : ∃ b k, v = .ref b ∧ okNK k ∧ d = k.data ∧ Rep K H (.ref b) k.data := by
  obtain ⟨k, ks, o, ek, e⟩ := okD_key h
  rw [e] at r
  have r' := r
  rw [ek, NestedKey.data] at r'
  obtain ⟨b, vs, eb, _, _⟩ := r'.tup_inv
  subst eb
  exact ⟨b, k, rfl, o, e, r⟩
theorem stN_core {B H Hs Bs : Hp} {env : Env} {fp : List Addr} {σ : L2.St} {D : Ends} {d : En} {r : R} {v y : V} {kd : PyData} {i : Nat} {o : O} (rr0 : RR X.K G Bs env fp σ Hs) (e' : Ext Hs Bs H B) (w : VOk X.K Hs fp B H v r) (s : r.st) (hy : Rep X.K B y kd) (ok : okD kd) (x : SOk X W G Bs d D σ)
    (hi : env[i]? = some (some o)) (mu : isNd o) (ha : stN o kd r.d fun o' => d.nx (env.set i (some o'))) :
    ∃ vi, σ[i]? = some (some vi) ∧ rSetN X.K vi y v H (fun H1 => D.nx σ H1) := by
  obtain ⟨b, k, eb, o1, ek, rk⟩ := hy.key ok
  subst eb
  obtain ⟨B2, e2, l2, rp⟩ := w.keep e' s
  have rr2 := rr0.ext e2
  obtain ⟨vi, g, h1, h2, h3, h4, h5⟩ := rr2.put hi fun a q => by subst q; exact mu
  have core : ∀ {a : Addr} {xs : List (NestedKey × Addr × Value)} {kvs : List (PyData × PyData)} {mk : List (PyData × PyData) → O}, vi = .ref a → H a = some (ndHO a xs) → RepND X.K B2 xs kvs → g = [a] → (∀ (B3 H3 : Hp) ys zs, H3 a = some (ndHO a ys) → RepND X.K B3 ys zs → Own X.K B3 H3 (.ref a) (mk zs) [a]) →
      kvs.length < sizeLine → d.nx (env.set i (some (mk (putN kvs kd r.d)))) → rSetN X.K vi (.ref b) v H (fun H1 => D.nx σ H1) := by
    intro a xs kvs mk ev hl rl eg om hz q
    subst ev eg
    refine ⟨a, b, k, xs, kvs, rfl, rfl, hl, rl.mono e2.bh, o1, (rk.mono l2).mono e2.bh, by rw [rl.length]; exact hz, fun u ru => ?_⟩
    have na : B2 a = none := (h4 a (by simp)).2.1
    obtain ⟨fp', z⟩ := h5 B2 (upd H a (ndHO a (storedH xs k b u))) (mk (putN kvs kd r.d)) [a] (.refl _)
      (fun b u q => upd_keep (rr2.bh b u q) (ne_of_none q na)) (fun b u n q => upd_keep q fun z => n (by simp [z])) (fun _ _ _ _ q => q)
      (by rw [ek]; exact om _ _ _ _ upd_same (rl.put o1 (rk.mono l2) rp ru)) (by simp) (fun b m => ⟨fun _ => m, (h4 b m).2⟩)
    exact x.nx σ _ B2 _ fp' e2.le z q
  cases o with
  | nd kvs =>
    cases h2 with
    | nd hl rl => exact ⟨_, h1, core (mk := O.nd) rfl hl rl rfl (fun B3 H3 ys zs a b => .nd a b) ha.1 ha.2⟩
  | pin a o =>
    cases o with
    | nd kvs =>
      cases h2 with
      | pin h2 =>
        cases h2 with
        | nd hl rl => exact ⟨_, h1, core (mk := fun z => O.pin a (.nd z)) rfl hl rl rfl (fun B3 H3 ys zs a b => .pin (.nd a b)) ha.1 ha.2⟩
    | _ => exact mu.elim
  | _ => exact mu.elim
theorem ds_stN {i : Nat} {p2 : Pos} (hu : X.A.units + 64 < cLine) (ho : PE X ob (tVar i)) (hk : DE X W G ix k) (hm : DE X W G e m)
    (ha : ∀ v, assign (.Subscript ob ix p2) X.env v = (do
      let ov ← holding [v] (eval ob X.env)
      let iv ← holding [v, ov] (eval ix X.env)
      standAt p2
      holding [v, ov, iv] (setItem ov iv v)
      release [v, ov, iv] []))
    (hs : swapsWithSole [.Subscript ob ix p2] e pos.line X.env = pure false) (hw : swappedStores [.Subscript ob ix p2] e X.env = pure none)
    : DS X W G (.Assign [.Subscript ob ix p2] e pos) (wStN i k m) := by
  refine PSi (ps_asg hm (pg_sub ho hk (set_nd hu) ha) hs hw) fun D σ H ⟨B, env, fp, d, rr, ⟨o, hi, mu, hmm⟩, x⟩ => ?_
  refine ⟨B, env, fp, _, _, rr, hmm, fun v H1 B1 r e1 w q1 => ?_, x.x rr⟩
  obtain ⟨vi, g, h1, h2, h3⟩ := rr.own.get hi fun a q => by subst q; exact mu
  refine ⟨vi, h1, B1, env, fp, _, _, rr.ext e1, q1, fun y H3 B3 kr e3 wk ⟨s, sk, ok, q⟩ => ?_, (x.x rr).later e1.same⟩
  obtain ⟨B4, e4, l4, rk⟩ := wk.keep e3 sk
  obtain ⟨vi', h1', q'⟩ := stN_core rr (e1.trans e4) (VOk.fwd e4 w) s rk ok x hi mu q
  rw [h1] at h1'
  cases h1'
  exact q'
end
/-! ### list(d), sorted(d) -/
def listN : F1 := fun d Q => ∃ kvs, d = .dict kvs ∧ ndK kvs ∧ Q (.t (.lst (kvs.map (·.1))))
def sortedN : F1 := fun d Q => ∃ kvs, d = .dict kvs ∧ ndK kvs ∧ sortOk (kvs.map (·.1)) ∧ Q (.t (.lst (sortDs (kvs.map (·.1)))))
section
variable {X : Cx}
theorem call_listND (hc : X.calm = true) : CallR X (.type "list") (fun vs H Q => ∃ a xs, vs = [V.ref a] ∧ Rd H a (ndHO a xs) ∧ ∀ p, H p = none → Q (.ref p) (upd H p (.lst (xs.map fun x => V.ref x.2.1)))) := by
  intro pins s σ H vs us Q I r ⟨a, xs, e, hr, q⟩
  subst e
  obtain ⟨u, rfl, rx⟩ := r.one
  cases rx
  obtain ⟨hs, hz, _, o, es, ep, ho, hx, hdt, he⟩ := nd_obj I.hok hr
  have l1 : es.size = xs.length := by rw [← Array.length_toList, he, List.length_map]
  refine PySem.W.kdl_call (kdl_raw hs hx hdt) (I.ok.hd hc) ho (by omega) fun h' tk acc' c' kp e it => ?_
  have ea : acc'.toList = (xs.map fun x => x.2.1).map Value.ref := by
    have hl : acc'.toList.length = xs.length := by rw [Array.length_toList, it.1]; exact l1
    apply List.ext_getElem?
    intro j
    rw [List.map_map, List.getElem?_map]
    cases hj : acc'.toList[j]? with
    | none =>
      have h1 := List.getElem?_eq_none_iff.mp hj
      rw [List.getElem?_eq_none (by omega)]
      rfl
    | some v =>
      obtain ⟨en, hen, hv⟩ := it.2 j v (by rw [← Array.getElem?_toList]; exact hj)
      rw [← Array.getElem?_toList, he, List.getElem?_map] at hen
      cases hb : xs[j]? with
      | none => rw [hb] at hen; cases hen
      | some b =>
        rw [hb] at hen
        cases hen
        rw [hv]
        rfl
  have rv : Vals ((xs.map fun x => x.2.1).map V.ref) acc'.toList := by rw [ea]; exact vals_refs _
  have hz2 : ((xs.map fun x => x.2.1).map V.ref).length ≤ sizeLine := by rw [List.length_map, List.length_map]; omega
  have eq2 : (xs.map fun x => V.ref x.2.1) = (xs.map fun x => x.2.1).map V.ref := by rw [List.map_map]; rfl
  rw [eq2] at q
  refine ⟨.ref s.heap.objs.size, _, I.laid (t' := tk) (o := .lst ((xs.map fun x => x.2.1).map V.ref)) kp (Nat.le_refl _) ?_, rfl, q _ (I.hok.fresh (Nat.le_refl _))⟩
  exact ⟨hz2, acc'.toList, c', rv, by rw [Array.toArray_toList]; exact e⟩
theorem cListN (hc : X.calm = true) : CallR X (.type "list") (rB X.K (f1s listN)) := by
  intro pins s σ H xs us QV I rv ⟨B, fp, rs, Q, l, x, hf, hq⟩
  obtain ⟨a, e, sh, hg⟩ := f1s_inv hf
  clear hf
  subst e
  obtain ⟨v, e, hv⟩ := x.one_sh sh
  subst e
  obtain ⟨kvs, ed, nk, q⟩ := hg
  rw [ed] at hv
  obtain ⟨p, ys, e, s', t⟩ := hv.ndict l nk
  subst e
  exact call_listND hc pins s σ H _ us QV I rv ⟨p, ys, rfl, s', fun p' np => hq _ _ B (.t _) (.make l np _) (t_lst l np t.keys) q⟩
end
section
variable {X : Cx}
theorem mem_zip_snd {α β : Type} {vs : List α} {ds : List β} {q : α × β} (m : q ∈ vs.zip ds) : q.2 ∈ ds := (List.of_mem_zip m).2
theorem sortedND (hcalm : X.calm = true) (hu : X.A.units + 64 < PySem.cLine) {B : Hp} : CallR X (.builtin "sorted") (fun vs H Q => ∃ (a : Addr) (xs : List (NestedKey × Addr × Value)) (ks : List PyData), vs = [.ref a] ∧ Rd H a (ndHO a xs) ∧ Le B H ∧ RepAll X.K B (xs.map fun x => V.ref x.2.1) ks ∧ sortOk ks ∧
    ∀ (ws : List V) (p : Addr), RepAll X.K B ws (sortDs ks) → H p = none → Q (.ref p) (upd H p (.lst ws))) := by
  intro pins s σ H vs us Q I r ⟨a, xs, ks, ex, hr, l, rk, ⟨hal, hso, hdp⟩, q⟩
  subst ex
  obtain ⟨u, eu, rx⟩ := vals1 r
  subst eu
  cases rx
  obtain ⟨hs, hz, _, o, es, ep, ho, hx, hdt, he⟩ := nd_obj I.hok hr
  have l1 : es.size = xs.length := by rw [← Array.length_toList, he, List.length_map]
  refine Calls.call_function_entry PyProof.Rows.kind_sorted PyProof.Rows.plain_sorted PyProof.Rows.entry_sorted (PyProof.Rows.args_sorted1 _) ?_
  unfold Builtin.«sorted»
  refine wpAny_bind (m := checkCount "sorted" 1 1 _) (wpAny_pure ?_)
  refine wpAny_bind (PySem.W.kdu_collect (A := X.A.in1) (kdl_raw hs hx hdt) (I.ok.hd hcalm) ho (by omega) fun h' tk acc hk hacc => ?_)
  have ea : acc.toList = (xs.map fun x => x.2.1).map Value.ref := by
    have hl : acc.toList.length = xs.length := by rw [Array.length_toList, hacc.1]; exact l1
    apply List.ext_getElem?
    intro j
    rw [List.map_map, List.getElem?_map]
    cases hj : acc.toList[j]? with
    | none =>
      have h1 := List.getElem?_eq_none_iff.mp hj
      rw [List.getElem?_eq_none (by omega)]
      rfl
    | some v =>
      obtain ⟨en, hen, hv⟩ := hacc.2 j v (by rw [← Array.getElem?_toList]; exact hj)
      rw [← Array.getElem?_toList, he, List.getElem?_map] at hen
      cases hb : xs[j]? with
      | none => rw [hb] at hen; cases hen
      | some b =>
        rw [hb] at hen
        cases hen
        rw [hv]
        rfl
  have rv : Vals (xs.map fun x => V.ref x.2.1) acc.toList := by
    have eq2 : (xs.map fun x => V.ref x.2.1) = (xs.map fun x => x.2.1).map V.ref := by rw [List.map_map]; rfl
    rw [ea, eq2]; exact vals_refs _
  have h17 : acc.toList.length ≤ sizeLine := by rw [← rv.length, List.length_map]; exact hz
  have I1 : Inv X pins σ H { s with heap := h', toks := tk } := I.kept hk
  have ez := zip_snd rk
  have e1 := each_zip rk rv
  have er : EachIs (fun u (b : V × D) => ∃ as, PySem.Reads h' u b.2 as) acc.toList ((xs.map fun x => V.ref x.2.1).zip ks) := by
    refine (PySem.W.EachIs.of_zip e1.length fun q m => ?_)
    have h1 := e1.zip q m
    have hm : q.2.2 ∈ ks := mem_zip_snd (List.of_mem_zip m).2
    exact rep_reads I1 _ _ _ (hal _ hm _ hm) (h1.2.mono l) h1.1
  generalize hvs : acc.toList = its at *
  generalize hbs : (xs.map fun x => V.ref x.2.1).zip ks = bs at *
  refine wpAny_bind (wpAny_newList ?_ h17)
  have hoL : (h'.push (seqObj "list" its.toArray 0)).get? h'.objs.size = some (seqObj "list" its.toArray 0) := Heap.get?_push_size _ rfl
  show wpAny _ _ _ _ _ { s with heap := h'.push (seqObj "list" its.toArray 0), toks := tk }
  have er' : EachIs (fun v (b : V × D) => ∃ as, PySem.Reads (PySem.W.sortingHeap (h'.push (seqObj "list" its.toArray 0)) h'.objs.size its) v (Prod.snd b) as) its bs := er.mono fun _ _ ⟨as, r⟩ => ⟨as, PyProof.Rows.Reads.keeps (fun b o e => by
    have hb : b < h'.objs.size := Heap.lt_size e
    first
      | (rw [PySem.W.sortingHeap_old (Nat.ne_of_lt hb)]; exact Heap.get?_push_of_some _ e)
      | exact PySem.W.sortingHeap_old (Nat.ne_of_lt hb) (Heap.get?_push_of_some _ e)) r⟩
  have eL : its.length = bs.length := e1.length
  refine wpAny_bind (wpAny_holding (wpAny_call_entry PyProof.Rows.slot_list_sort ⟨_, hoL, rfl⟩ PyProof.Rows.entry_list_sort
    (PySem.W.list_sort_vals (κ := PySem.W.dataKind (PySem.W.sortingHeap (h'.push (seqObj "list" its.toArray 0)) h'.objs.size its) (bs.map Prod.snd)) (s := { s with heap := h'.push (seqObj "list" its.toArray 0), toks := tk }) hoL
      (PySem.W.SortsAt.data (s := { s with heap := PySem.W.sortingHeap (h'.push (seqObj "list" its.toArray 0)) h'.objs.size its, toks := tk }) (PySem.W.each_map (R := fun v d => ∃ as, PySem.Reads (PySem.W.sortingHeap (h'.push (seqObj "list" its.toArray 0)) h'.objs.size its) v d as) Prod.snd er') (by rw [ez]; exact hal) (by rw [ez]; exact hso) (PySem.W.bound_map fun b m => ?_)) h17 ?_)
    (PyProof.Rows.args_list_sort _)))
  · have hm : b.2 ∈ ks := by rw [← ez]; exact List.mem_map_of_mem (f := Prod.snd) m
    have := hdp _ hm
    show X.A.units + 1 + 1 + b.2.depth < _
    omega
  · have eo := PySem.W.sortVals_data (enc := (Prod.snd : V × D → D)) false e1 er' (by rw [ez]; exact hal)
    have lo := PySem.W.sortVals_length (κ := PySem.W.dataKind (PySem.W.sortingHeap (h'.push (seqObj "list" its.toArray 0)) h'.objs.size its) (bs.map Prod.snd)) (ks := its) (vs := its) false rfl
    generalize PySem.W.sortVals _ false its its = out at eo lo
    obtain ⟨g1, g2⟩ := each_back eo
    have hsr : (bs.mergeSort (dataLe false Prod.snd)).map (·.2) = sortDs ks := by
      have e3 : (bs.map Prod.snd).mergeSort dle = sortDs ks := by rw [ez]; rfl
      rw [← e3]
      exact PySem.W.sort_maps (Prod.snd : V × D → D) fun a _ b _ => rfl
    rw [hsr] at g2
    have hlen : ((bs.mergeSort (dataLe false Prod.snd)).map (·.1)).length ≤ sizeLine := by
      rw [List.length_map, List.length_mergeSort, ← eL]
      exact h17
    obtain ⟨e', he'⟩ := PyProof.Rows.sortedHeap_at (vs := its) (out := out.toArray) hoL
    refine ⟨_, rfl, ?_⟩
    refine wpAny_pure ⟨_, rfl, .ref h'.objs.size, upd H h'.objs.size (.lst _), I1.laid (t' := tk) (fun b u e => ?_) (Nat.le_refl _)
      (show ObjOk X.prog X.w _ _ _ (.lst _) from ⟨hlen, out, e', g1, he'⟩), rfl, q _ _ g2 (I1.hok.fresh (Nat.le_refl _))⟩
    have hb : b < h'.objs.size := Heap.lt_size e
    rw [PyProof.Rows.sortedHeap_old (Nat.ne_of_lt hb) (by rw [size_push']; exact Nat.lt_succ_of_lt hb)]
    exact Heap.get?_push_of_some _ e
theorem cSortedN (hc : X.calm = true) (hu : X.A.units + 64 < PySem.cLine) : CallR X (.builtin "sorted") (rB X.K (f1s sortedN)) := by
  intro pins s σ H xs us QV I rv ⟨B, fp, rs, Q, l, x, hf, hq⟩
  obtain ⟨a, e, sh, hg⟩ := f1s_inv hf
  clear hf
  subst e
  obtain ⟨v, e, hv⟩ := x.one_sh sh
  subst e
  obtain ⟨kvs, ed, nk, ok, q⟩ := hg
  rw [ed] at hv
  obtain ⟨p, ys, e, s', t⟩ := hv.ndict l nk
  subst e
  exact sortedND hc hu (B := B) pins s σ H _ us QV I rv ⟨p, ys, _, rfl, s', l, t.keys, ok, fun ws p' g np => hq _ _ B (.t _) (.make l np _) (t_lst l np g) q⟩
end
end DL

set_option Elab.async false
set_option linter.all false
set_option maxRecDepth 100000
set_option maxHeartbeats 1000000
/-! DLO: loops over the keys of a dict. -/
namespace DL
open PySem L2 PyProof.Rows
/-! ### a still thing locked for a while -/
/-- a dict's thing -/
def isDc : HO → Prop
  | .dK _ => True
  | .ext _ => True
  | _ => False
theorem isDc_nd (a : Addr) (xs : List (NestedKey × Addr × Value)) : isDc (ndHO a xs) := by cases xs <;> exact True.intro
def notF : HO → Prop
  | .frz _ _ => False
  | _ => True
theorem isDc.nf {u : HO} (h : isDc u) : notF u := by cases u <;> first | exact True.intro | exact h.elim
theorem notF_nd (a : Addr) (xs : List (NestedKey × Addr × Value)) : notF (ndHO a xs) := (isDc_nd a xs).nf
section
variable {K : K0} {B H : Hp} {d : Addr} {od : Obj} {u : HO}
theorem Rd.lk {a : Addr} {x : HO} (hd : B d = some u) (hu : isDc u) (h : Rd B a x) : Rd (upd B d (.frz od u)) a x := by
  by_cases e : a = d
  · subst e
    rcases h with h | ⟨o, h⟩
    · rw [hd] at h; cases h; exact .inr ⟨od, upd_same⟩
    · rw [hd] at h; cases h; exact hu.elim
  · rcases h with h | ⟨o, h⟩
    · exact .inl (by rw [upd_ne e]; exact h)
    · exact .inr ⟨o, by rw [upd_ne e]; exact h⟩
theorem Rd.ul {a : Addr} {x : HO} (hd : B d = some (.frz od u)) (hx : notF x) (h : Rd B a x) : Rd (upd B d u) a x := by
  by_cases e : a = d
  · subst e
    rcases h with h | ⟨o, h⟩
    · rw [hd] at h; cases h; exact hx.elim
    · rw [hd] at h; cases h; exact .inl upd_same
  · rcases h with h | ⟨o, h⟩
    · exact .inl (by rw [upd_ne e]; exact h)
    · exact .inr ⟨o, by rw [upd_ne e]; exact h⟩
theorem tupP_lk {a : Addr} {ds : List D} (hd : B d = some u) (hu : isDc u) (h : TupP B a ds) : TupP (upd B d (.frz od u)) a ds := h.imp (fun ⟨o, vs, e, q⟩ => ⟨o, vs, by
  rw [upd_ne (fun z => by rw [z, hd] at e; cases e; exact hu)]; exact e, q⟩) id
theorem tupP_ul {a : Addr} {ds : List D} (hd : B d = some (.frz od u)) (hu : isDc u) (h : TupP B a ds) : TupP (upd B d u) a ds := h.imp (fun ⟨o, vs, e, q⟩ => ⟨o, vs, by
  rw [upd_ne (fun z => by rw [z, hd] at e; cases e; exact hu)]; exact e, q⟩) id
mutual
theorem Rep.lk (hd : B d = some u) (hu : isDc u) : ∀ {v : V} {x : D}, Rep K B v x → Rep K (upd B d (.frz od u)) v x
  | _, _, .non => .non
  | _, _, .bl b => .bl b
  | _, _, .int i => .int i
  | _, _, .str x => .str x
  | _, _, .lst s r => .lst (s.imp (Rd.lk hd hu) id) (RepAll.lk hd hu r)
  | _, _, .tup s r p => .tup (s.imp (Rd.lk hd hu) id) (RepAll.lk hd hu r) (tupP_lk hd hu p)
  | _, _, .dic s r => .dic (Rd.lk hd hu s) (RepKV.lk hd hu r)
  | _, _, .nd s r => .nd (Rd.lk hd hu s) (RepND.lk hd hu r)
theorem RepND.lk (hd : B d = some u) (hu : isDc u) : ∀ {vs : List (NestedKey × Addr × Value)} {ds : List (D × D)}, RepND K B vs ds → RepND K (upd B d (.frz od u)) vs ds
  | _, _, .nil => .nil
  | _, _, .cons o k r e t => .cons o (Rep.lk hd hu k) (Rep.lk hd hu r) e (RepND.lk hd hu t)
theorem RepAll.lk (hd : B d = some u) (hu : isDc u) : ∀ {vs : List V} {ds : List D}, RepAll K B vs ds → RepAll K (upd B d (.frz od u)) vs ds
  | _, _, .nil => .nil
  | _, _, .cons r t => .cons (Rep.lk hd hu r) (RepAll.lk hd hu t)
theorem RepKV.lk (hd : B d = some u) (hu : isDc u) : ∀ {vs : List (Key × V)} {ds : List (D × D)}, RepKV K B vs ds → RepKV K (upd B d (.frz od u)) vs ds
  | _, _, .nil => .nil
  | _, _, .cons r t => .cons (Rep.lk hd hu r) (RepKV.lk hd hu t)
end
mutual
theorem Rep.ul (hd : B d = some (.frz od u)) (hu : isDc u) : ∀ {v : V} {x : D}, Rep K B v x → Rep K (upd B d u) v x
  | _, _, .non => .non
  | _, _, .bl b => .bl b
  | _, _, .int i => .int i
  | _, _, .str x => .str x
  | _, _, .lst s r => .lst (s.imp (Rd.ul hd True.intro) id) (RepAll.ul hd hu r)
  | _, _, .tup s r p => .tup (s.imp (Rd.ul hd True.intro) id) (RepAll.ul hd hu r) (tupP_ul hd hu p)
  | _, _, .dic s r => .dic (Rd.ul hd True.intro s) (RepKV.ul hd hu r)
  | _, _, .nd s r => .nd (Rd.ul hd (notF_nd _ _) s) (RepND.ul hd hu r)
theorem RepND.ul (hd : B d = some (.frz od u)) (hu : isDc u) : ∀ {vs : List (NestedKey × Addr × Value)} {ds : List (D × D)}, RepND K B vs ds → RepND K (upd B d u) vs ds
  | _, _, .nil => .nil
  | _, _, .cons o k r e t => .cons o (Rep.ul hd hu k) (Rep.ul hd hu r) e (RepND.ul hd hu t)
theorem RepAll.ul (hd : B d = some (.frz od u)) (hu : isDc u) : ∀ {vs : List V} {ds : List D}, RepAll K B vs ds → RepAll K (upd B d u) vs ds
  | _, _, .nil => .nil
  | _, _, .cons r t => .cons (Rep.ul hd hu r) (RepAll.ul hd hu t)
theorem RepKV.ul (hd : B d = some (.frz od u)) (hu : isDc u) : ∀ {vs : List (Key × V)} {ds : List (D × D)}, RepKV K B vs ds → RepKV K (upd B d u) vs ds
  | _, _, .nil => .nil
  | _, _, .cons r t => .cons (Rep.ul hd hu r) (RepKV.ul hd hu t)
end
section
variable {B' H' : Hp}
theorem repAll_by (F : ∀ {v : V} {x : D}, Rep K B v x → Rep K B' v x) : ∀ {vs : List V} {ds : List D}, RepAll K B vs ds → RepAll K B' vs ds
  | _, _, .nil => .nil
  | _, _, .cons r t => .cons (F r) (repAll_by F t)
theorem repKV_by (F : ∀ {v : V} {x : D}, Rep K B v x → Rep K B' v x) : ∀ {vs : List (Key × V)} {ds : List (D × D)}, RepKV K B vs ds → RepKV K B' vs ds
  | _, _, .nil => .nil
  | _, _, .cons r t => .cons (F r) (repKV_by F t)
theorem repND_by (F : ∀ {v : V} {x : D}, Rep K B v x → Rep K B' v x) : ∀ {vs : List (NestedKey × Addr × Value)} {ds : List (D × D)}, RepND K B vs ds → RepND K B' vs ds
  | _, _, .nil => .nil
  | _, _, .cons o k r e t => .cons o (F k) (F r) e (repND_by F t)
mutual
theorem own_by (F : ∀ {v : V} {x : D}, Rep K B v x → Rep K B' v x) (h' : ∀ a, a ≠ d → H' a = H a) : ∀ {v : V} {o : O} {f : List Addr}, (∀ a ∈ f, a ≠ d) → Own K B H v o f → Own K B' H' v o f
  | _, _, _, _, .fro r => .fro (F r)
  | _, _, _, k, .lst h r => .lst (by rw [h' _ (k _ (by simp))]; exact h) (repAll_by F r)
  | _, _, _, k, .dic h r => .dic (by rw [h' _ (k _ (by simp))]; exact h) (repKV_by F r)
  | _, _, _, k, .lsts h r => .lsts (by rw [h' _ (k _ (by simp))]; exact h) (ownAll_by F h' (fun a m => k a (List.mem_cons_of_mem _ m)) r)
  | _, _, _, k, .nd h r => .nd (by rw [h' _ (k _ (by simp))]; exact h) (repND_by F r)
  | _, _, _, k, .pin r => .pin (own_by F h' k r)
  | _, _, _, k, .io e r => .io (F e) (own_by F h' k r)
theorem ownAll_by (F : ∀ {v : V} {x : D}, Rep K B v x → Rep K B' v x) (h' : ∀ a, a ≠ d → H' a = H a) : ∀ {vs : List V} {os : List O} {f : List Addr}, (∀ a ∈ f, a ≠ d) → OwnAll K B H vs os f → OwnAll K B' H' vs os f
  | _, _, _, _, .nil => .nil
  | _, _, _, k, .cons r t => .cons (own_by F h' (fun a m => k a (List.mem_append_left _ m)) r) (ownAll_by F h' (fun a m => k a (List.mem_append_right _ m)) t)
end
theorem ownEnv_by (F : ∀ {v : V} {x : D}, Rep K B v x → Rep K B' v x) (h' : ∀ a, a ≠ d → H' a = H a) : ∀ {σ : L2.St} {env : Env} {f : List Addr}, (∀ a ∈ f, a ≠ d) → OwnEnv K B H σ env f → OwnEnv K B' H' σ env f
  | _, _, _, _, .nil => .nil
  | _, _, _, k, .no t => .no (ownEnv_by F h' k t)
  | _, _, _, k, .raw t => .raw (ownEnv_by F h' k t)
  | _, _, _, k, .some r t => .some (own_by F h' (fun a m => k a (List.mem_append_left _ m)) r) (ownEnv_by F h' (fun a m => k a (List.mem_append_right _ m)) t)
end
variable {G : Hp} {env : Env} {fp : List Addr} {σ : L2.St}
theorem RR.lk (hd : B d = some u) (hu : isDc u) (x : RR K G B env fp σ H) : RR K G (upd B d (.frz od u)) env fp σ (upd H d (.frz od u)) where
  bh := fun a o h => by
    by_cases e : a = d
    · subst e; rw [upd_same] at h ⊢; exact h
    · rw [upd_ne e] at h ⊢; exact x.bh a o h
  gh := fun a o h => by
    rw [upd_ne (fun e => by rw [e] at h; have := x.gb d o h; rw [hd] at this; cases this)]
    exact x.gh a o h
  gb := fun a o h => by
    rw [upd_ne (fun e => by rw [e] at h; have := x.gb d o h; rw [hd] at this; cases this)]
    exact x.gb a o h
  own := ownEnv_by (d := d) (Rep.lk hd hu) (fun a n => upd_ne n) (fun a m e => by
    have := (x.fb a m).1
    rw [e, hd] at this; cases this) x.own
  nd := x.nd
  fb := fun a m => by
    rw [upd_ne (fun e => by have := (x.fb a m).1; rw [e, hd] at this; cases this)]
    exact x.fb a m
theorem RR.ul (hd : B d = some (.frz od u)) (hu : isDc u) (x : RR K G B env fp σ H) : RR K G (upd B d u) env fp σ (upd H d u) where
  bh := fun a o h => by
    by_cases e : a = d
    · subst e; rw [upd_same] at h ⊢; exact h
    · rw [upd_ne e] at h ⊢; exact x.bh a o h
  gh := fun a o h => by
    rw [upd_ne (fun e => by rw [e] at h; have := x.gb d o h; rw [hd] at this; cases this)]
    exact x.gh a o h
  gb := fun a o h => by
    rw [upd_ne (fun e => by rw [e] at h; have := x.gb d o h; rw [hd] at this; cases this)]
    exact x.gb a o h
  own := ownEnv_by (d := d) (Rep.ul hd hu) (fun a n => upd_ne n) (fun a m e => by
    have := (x.fb a m).1
    rw [e, hd] at this; cases this) x.own
  nd := x.nd
  fb := fun a m => by
    rw [upd_ne (fun e => by have := (x.fb a m).1; rw [e, hd] at this; cases this)]
    exact x.fb a m
theorem le_ul {B0 : Hp} (h0 : B0 d = some u) (l : Le (upd B0 d (.frz od u)) B) : Le B0 (upd B d u) := fun a o h => by
  by_cases e : a = d
  · subst e; rw [upd_same, ← h0]; exact h
  · rw [upd_ne e]; exact l a o (by rw [upd_ne e]; exact h)
/-- a statement's ends while a still thing is locked; no exception -/
theorem SOk.lk {X : Cx} {W : WX} {d0 : En} {D : Ends} (hd : B d = some u) (hu : isDc u) (x : SOk X W G B d0 D σ) :
    SOk X W G (upd B d (.frz od u)) { d0 with ex := fun _ _ => False } ⟨fun σ' H' => H' d = some (.frz od u) ∧ D.nx σ' (upd H' d u), fun v H' => H' d = some (.frz od u) ∧ D.rt v (upd H' d u), fun σ' H' => H' d = some (.frz od u) ∧ D.bk σ' (upd H' d u), fun σ' H' => H' d = some (.frz od u) ∧ D.ct σ' (upd H' d u)⟩ σ where
  nx := fun σ' H' B' env' fp' l rr q => ⟨rr.bh _ _ (l d _ upd_same), x.nx σ' _ _ env' fp' (le_ul hd l) (rr.ul (l d _ upd_same) hu) q⟩
  bk := fun σ' H' B' env' fp' l rr q => ⟨rr.bh _ _ (l d _ upd_same), x.bk σ' _ _ env' fp' (le_ul hd l) (rr.ul (l d _ upd_same) hu) q⟩
  ct := fun σ' H' B' env' fp' l rr q => ⟨rr.bh _ _ (l d _ upd_same), x.ct σ' _ _ env' fp' (le_ul hd l) (rr.ul (l d _ upd_same) hu) q⟩
  rt := fun v H' B' r f l bh gh gb hf nf w q => by
    have hB := l d _ upd_same
    have nG : ∀ a o, G a = some o → a ≠ d := fun a o h e => by rw [e] at h; have := gb d o h; rw [hB] at this; cases this
    refine ⟨bh _ _ hB, x.rt v _ (upd B' d u) r f (le_ul hd l) (fun a o h => ?_) (fun a o h => by rw [upd_ne (nG a o h)]; exact gh a o h) (fun a o h => by rw [upd_ne (nG a o h)]; exact gb a o h)
      (fun a m => ?_) nf ?_ q⟩
    · by_cases e : a = d
      · subst e; rw [upd_same] at h ⊢; exact h
      · rw [upd_ne e] at h ⊢; exact bh a o h
    · rw [upd_ne (fun e => by have := (hf a m).1; rw [e, hB] at this; cases this)]
      exact hf a m
    · cases r with
      | v dd => exact Rep.ul hB hu w
      | t o => exact own_by (d := d) (Rep.ul hB hu) (fun a n => upd_ne n) (fun a m e => by have := (hf a m).1; rw [e, hB] at this; cases this) w
      | b o => exact w.elim
  ex := fun n cls σ' H' B' env' fp' l rr q => q.elim
end
/-! ### the keys of a dict, walked -/
def Itn (d : Addr) (o : Obj) (xs : List (NestedKey × Addr × Value)) : It :=
  ⟨fun i H => H d = some (.frz o (ndHO d xs)) ∧ i < xs.length, fun i H x H' => H' = H ∧ ∃ y, xs[i]? = some y ∧ x = .ref y.2.1, fun i H => H d = some (.frz o (ndHO d xs)) ∧ xs.length ≤ i⟩
section
variable {X : Cx} {pins : List (Addr × Obj)} {σ : L2.St} {H : Hp} {s : Shared} {d : Addr} {o : Obj} {xs : List (NestedKey × Addr × Value)}
theorem inv_frzN (I : Inv X pins σ H s) (h : H d = some (.frz o (ndHO d xs))) : (d == sysModules) = false ∧ s.heap.get? d = some o ∧ o.ExactDict ∧ ∃ (es : Array DictEntry) (ep : Nat), o.data = .dict es ep ∧ es.size = xs.length ∧
    ∀ (i : Nat) y, xs[i]? = some y → ∃ en : DictEntry, es[i]? = some en ∧ en.key = .ref y.2.1 := by
  obtain ⟨hd, _⟩ := I.hok d _ h
  obtain ⟨h1, h2, h3, o', es, ep, h4, h5, h6, h7⟩ := nd_obj I.hok (.inr ⟨o, h⟩)
  rw [hd] at h4
  cases h4
  refine ⟨h1, hd, h5, es, ep, h6, by rw [← Array.length_toList, h7, List.length_map], fun i y e => ?_⟩
  refine ⟨_, by rw [← Array.getElem?_toList, h7, List.getElem?_map, e]; rfl, rfl⟩
theorem turn_keysN {P : Program} {w : World} {K : K0} {tg : Expr} {es : Array DictEntry} {ep : Nat} (it : Addr) (hod : o.data = .dict es ep) : Turn P w K tg (Itn d o xs) [it] it (fun i h => h.IsKeyIter it d i xs.length ep) where
  mem := by simp
  obj := fun i h st b hb => by
    have e : b = it := by simpa using hb
    subst e
    obtain ⟨oi, e, c, dd⟩ := st
    exact ⟨oi, e, fun v z => by rw [dd] at z; cases z⟩
  keep := fun i h h' st k => st.at fun oi e => k it (by simp) oi e
  item := by
    intro X hP hw hK hc i pins s σ H E I hf st hg
    subst hP hw hK
    obtain ⟨hd, hi⟩ := hg
    obtain ⟨f0, f1, f2, f3, f4, f5⟩ := hf it (by simp)
    obtain ⟨hs, hgd, hx, es', ep', hdt, hsz, ent⟩ := inv_frzN I hd
    obtain ⟨rfl, rfl⟩ := dict_ep hod hdt
    obtain ⟨y, hkv⟩ : ∃ p, xs[i]? = some p := ⟨xs[i], List.getElem?_eq_getElem hi⟩
    obtain ⟨en, hen, hkey⟩ := ent i y hkv
    refine next_key_item st hgd hdt hsz hen fun h' st' sb => ?_
    have I1 : Inv X pins σ H { s with heap := h' } := I.turned (t' := s.toks) (fun b ob hb e => (sb.2 b hb).trans e) f0 f1 f3 f4 f5
    obtain ⟨oi, e, c, dd⟩ := id st'
    exact ⟨en.key, rfl, go_of (s := { s with heap := h' }) e c dd (by decide) ⟨.ref y.2.1, H, I1, hkey, ⟨rfl, y, hkv, rfl⟩, st', fun b hb => (hf b hb).1⟩⟩
  done := by
    intro X hP hw hK hc i pins s σ H E I hf st hg
    subst hP hw hK
    obtain ⟨hd, hi⟩ := hg
    obtain ⟨f0, f1, f2, f3, f4, f5⟩ := hf it (by simp)
    obtain ⟨hs, hgd, hx, es', ep', hdt, hsz, ent⟩ := inv_frzN I hd
    obtain ⟨rfl, rfl⟩ := dict_ep hod hdt
    exact next_key_end (I.ok.hd hc) st hgd hdt hsz hi fun h' eb => ⟨rfl, I.turned (t' := s.toks) (fun b ob hb e => eb b ob hb e) f0 f1 f3 f4 f5⟩
  self := fun A i s Q E st h => by
    refine wpAny_pyIter_slot st.typeIs PySem.F.slot_dict_keyiterator_iter (wpAny_call_entry PySem.F.slot_dict_keyiterator_iter st.typeIs PySem.F.entry_dict_keyiterator_iter ?_ (PySem.F.args_dict_keyiterator_iter_1 _))
    show wpAny _ _ (ret (.ref it)) _ _ s
    exact wpAny_pure ⟨_, rfl, "dict_keyiterator", _, st.typeIs, PySem.F.slot_dict_keyiterator_next.lookup, h⟩
def iKeysD (td : TE) : TI := fun σ H R => td σ H fun x H1 => ∃ d o, x = .ref d ∧ ((∃ kvs, H1 d = some (.frz o (.dK kvs)) ∧ R (Itk d o kvs) H1) ∨ ∃ xs, H1 d = some (.frz o (ndHO d xs)) ∧ R (Itn d o xs) H1)
theorem pi_keysD {tg e : Expr} {td : TE} (he : PE X e td) : PI X tg e (iKeysD td) := by
  refine ⟨fun pins s σ H R I h => ?_⟩
  refine thn (he.run pins s σ H _ I h) fun u s1 ⟨x, H1, I1, rx, d, o, ex, q⟩ => ?_
  subst ex
  obtain rfl : u = Value.ref d := rx
  rcases q with ⟨kvs, hd, q⟩ | ⟨xs, hd, q⟩
  · obtain ⟨hs, hgd, hx, es, ep, vs, hdt, hsz, kv, hm⟩ := I1.frzK hd
    refine iter_keys hs hgd hx hdt (pi_one (tk := s1.toks) I1 _ (turn_keys _ hdt) ⟨_, Heap.get?_push_size _ rfl, rfl, ?_⟩ q)
    rw [hsz] <;> rfl
  · obtain ⟨hs, hgd, hx, es, ep, hdt, hsz, ent⟩ := inv_frzN I1 hd
    refine iter_keys hs hgd hx hdt (pi_one (tk := s1.toks) I1 _ (turn_keysN _ hdt) ⟨_, Heap.get?_push_size _ rfl, rfl, ?_⟩ q)
    rw [hsz] <;> rfl
end
section
variable {K : K0} {B : Hp} {d : Addr} {od : Obj} {kvs : List (D × D)}
theorem walkK {ks : List (Key × V)} (h0 : B d = some (.frz od (.dK ks))) (r : RepKV K B ks kvs) : Walk K B (Itk d od ks) (kvs.map (·.1)) where
  go := fun i H B1 l1 l2 h => ⟨l2 _ _ (l1 _ _ h0), by rw [r.lenK]; simpa using h⟩
  stop := fun i H B1 l1 l2 h => ⟨l2 _ _ (l1 _ _ h0), by rw [r.lenK]; simpa using h⟩
  yld := fun i H x H' B1 hlt l1 l2 ⟨e, k, v, hk, ex⟩ => by
    subst e ex
    refine ⟨kD k, B1, r.keyAt hk, .refl l2, ?_⟩
    cases k with
    | inl i => exact .int i
    | inr x => exact .str x
theorem walkN {xs : List (NestedKey × Addr × Value)} (h0 : B d = some (.frz od (ndHO d xs))) (r : RepND K B xs kvs) : Walk K B (Itn d od xs) (kvs.map (·.1)) where
  go := fun i H B1 l1 l2 h => ⟨l2 _ _ (l1 _ _ h0), by rw [r.length]; simpa using h⟩
  stop := fun i H B1 l1 l2 h => ⟨l2 _ _ (l1 _ _ h0), by rw [r.length]; simpa using h⟩
  yld := fun i H x H' B1 hlt l1 l2 ⟨e, y, hk, ex⟩ => by
    subst e ex
    obtain ⟨dd, h1, h2⟩ := r.keys.getV (i := i) (v := V.ref y.2.1) (by rw [List.getElem?_map, hk]; rfl)
    exact ⟨dd, B1, h1, .refl l2, h2.mono l1⟩
end
/-! ### the loop -/
def wForK (i : Nat) (g : WG) (body : WS) : WS := fun D env => ∃ kvs, env[i]? = some (some (.fro (.dict kvs))) ∧ wFor (fun _ Q _ => Q (kvs.map (·.1))) g body { D with ex := fun _ _ => False } env
section
variable {X : Cx} {W : WX} {G : Hp} {tg iter c : Expr} {body : List Stmt} {it : WI} {g : WG} {vs : List Nat} {mb : WS} {tc : WT} {pos : Pos}
theorem for_in {σ : L2.St} {H1 B1 : Hp} {env : Env} {fp : List Addr} {D : Ends} {d : En} {J : It} {ds : List PyData} (rr1 : RR X.K G B1 env fp σ H1) (wk : Walk X.K B1 J ds) (x : SOk X W G B1 d D σ)
    (hm : wFor (fun _ Q _ => Q ds) g mb d env) : ∃ Wp : Nat → Nat → L2.St → Hp → Prop, (∃ m, Wp 0 m σ H1) ∧ ∀ i m σ H, Wp i m σ H →
  (J.stop i H ∧ D.nx σ H) ∨ (J.go i H ∧ ∃ N : L2.St → Hp → Prop, (∀ σ' H', N σ' H' → ∃ m', m' < m ∧ Wp (i + 1) m' σ' H') ∧ ∀ x H', J.yld i H x H' → tDG X G vs g x σ H' fun σ2 H2 => tDS X W G mb { D with nx := N, ct := N, bk := D.nx } σ2 H2) := by
  obtain ⟨P, p0, pt, pe⟩ := hm
  refine ⟨fun i m σ H => m = ds.length - i ∧ i ≤ ds.length ∧ ∃ B2 env' fp', Le B1 B2 ∧ RR X.K G B2 env' fp' σ H ∧ P i env', ⟨_, rfl, Nat.zero_le _, B1, env, fp, .refl _, rr1, p0⟩, ?_⟩
  rintro i m σ2 H2 ⟨rfl, hle, B2, env2, fp2, l2, rr2, pi⟩
  by_cases hlt : i < ds.length
  · refine .inr ⟨wk.go i H2 B2 l2 rr2.bh hlt, fun σ' H' => ∃ B2 env' fp', Le B1 B2 ∧ RR X.K G B2 env' fp' σ' H' ∧ P (i + 1) env', fun σ' H' ⟨B3, env3, fp3, l3, rr3, p3⟩ => ⟨_, (by omega), rfl, hlt, B3, env3, fp3, l3, rr3, p3⟩, fun y H3 hy => ?_⟩
    obtain ⟨dd, B3, hd, e3, rp⟩ := wk.yld i H2 y H3 B2 hlt l2 rr2.bh hy
    refine ⟨B3, env2, fp2, dd, _, rr2.ext e3, rp, pt i dd env2 hd pi, fun σ4 env4 fp4 rr4 t4 q4 => ?_⟩
    have l3 := l2.trans e3.le
    refine ⟨B3, env4, fp4, _, rr4, q4, ⟨fun σ5 H5 B5 env5 fp5 l5 rr5 p5 => ⟨B5, env5, fp5, l3.trans l5, rr5, p5⟩, fun σ5 H5 B5 env5 fp5 l5 rr5 p5 => x.nx σ5 H5 B5 env5 fp5 (l3.trans l5) rr5 p5,
      fun σ5 H5 B5 env5 fp5 l5 rr5 p5 => ⟨B5, env5, fp5, l3.trans l5, rr5, p5⟩, fun v H5 B5 r f l5 => x.rt v H5 B5 r f (l3.trans l5), fun n cls σ5 H5 B5 env5 fp5 l5 => x.ex n cls σ5 H5 B5 env5 fp5 (l3.trans l5)⟩⟩
  · have e : i = ds.length := by omega
    subst e
    exact .inl ⟨wk.stop _ H2 B2 l2 rr2.bh (Nat.le_refl _), x.nx σ2 H2 B2 env2 fp2 l2 rr2 (pe env2 pi)⟩
theorem ds_forK {i : Nat} (hv : PE X iter (tVar i)) (hp : PassesOwn (model X.prog X.w) X.A X.env X.xe) (hc : X.calm = true) (hg : DG X G vs tg g) (hb : DSs X W G body mb) (hs : ∀ x, foldedSetIterable iter X.env x = pure x) :
    DS X W G (.For tg iter body [] pos) (wForK i g mb) := by
  have h0 := ps_for (pos := pos) hp hc (pi_keysD (tg := tg) hv) hg hb hs
  refine ⟨fun pins s σ H D I hw => ?_⟩
  obtain ⟨B, env, fp, d, rr, ⟨kvs, hi, hm⟩, x⟩ := hw
  obtain ⟨v, g0, h1, h2, h3⟩ := rr.own.get hi
  cases h2 with
  | fro r =>
    cases r with
    | @dic a ks _ sa ta =>
      rcases sa with sa | ⟨od, sa⟩
      · refine (ps_lock h0).run pins s σ H D I ⟨a, .dK ks, rr.bh _ _ sa, True.intro, fun od => ?_⟩
        have rr' := rr.lk (od := od) sa True.intro
        exact ⟨_, h1, a, od, rfl, .inl ⟨ks, upd_same, for_in rr' (walkK upd_same (ta.lk sa True.intro)) (x.lk sa True.intro) hm⟩⟩
      · exact h0.run pins s σ H D I ⟨_, h1, a, od, rfl, .inl ⟨ks, rr.bh _ _ sa, for_in rr (walkK sa ta) (show SOk X W G B { d with ex := fun _ _ => False } D σ from ⟨x.nx, x.bk, x.ct, x.rt, fun _ _ _ _ _ _ _ _ _ q => False.elim q⟩) hm⟩⟩
    | @nd a xs _ sa ta =>
      rcases sa with sa | ⟨od, sa⟩
      · refine (ps_lock h0).run pins s σ H D I ⟨a, ndHO a xs, rr.bh _ _ sa, mut_nd _ _, fun od => ?_⟩
        have rr' := rr.lk (od := od) sa (isDc_nd _ _)
        exact ⟨_, h1, a, od, rfl, .inr ⟨xs, upd_same, for_in rr' (walkN upd_same (ta.lk sa (isDc_nd _ _))) (x.lk sa (isDc_nd _ _)) hm⟩⟩
      · exact h0.run pins s σ H D I ⟨_, h1, a, od, rfl, .inr ⟨xs, rr.bh _ _ sa, for_in rr (walkN sa ta) (show SOk X W G B { d with ex := fun _ _ => False } D σ from ⟨x.nx, x.bk, x.ct, x.rt, fun _ _ _ _ _ _ _ _ _ q => False.elim q⟩) hm⟩⟩
end
/-! ### the keys of a dict just made -/
def iKeysT (td : TE) : TI := fun σ H R => td σ H fun x H1 => ∃ d u, x = .ref d ∧ H1 d = some u ∧ Mut (some u) ∧ ∀ od, (∃ kvs, u = .dK kvs ∧ R (Itk d od kvs) (upd H1 d (.frz od u))) ∨ ∃ xs, u = ndHO d xs ∧ R (Itn d od xs) (upd H1 d (.frz od u))
theorem pi_keysT {X : Cx} {tg e : Expr} {td : TE} (he : PE X e td) : PI X tg e (iKeysT td) := by
  refine ⟨fun pins s σ H R I h => ?_⟩
  refine thn (he.run pins s σ H _ I h) fun u s1 ⟨x, H1, I1, rx, d, o, ex, hd0, mu, q⟩ => ?_
  subst ex
  obtain rfl : u = Value.ref d := rx
  obtain ⟨od, I2⟩ := I1.lock hd0 mu
  rcases q od with ⟨kvs, eu, q⟩ | ⟨xs, eu, q⟩
  · subst eu
    obtain ⟨hs, hgd, hx, es, ep, vs, hdt, hsz, kv, hm⟩ := I2.frzK upd_same
    refine iter_keys hs hgd hx hdt (pi_one (tk := s1.toks) I2 _ (turn_keys _ hdt) ⟨_, Heap.get?_push_size _ rfl, rfl, ?_⟩ q)
    rw [hsz] <;> rfl
  · subst eu
    obtain ⟨hs, hgd, hx, es, ep, hdt, hsz, ent⟩ := inv_frzN I2 upd_same
    refine iter_keys hs hgd hx hdt (pi_one (tk := s1.toks) I2 _ (turn_keysN _ hdt) ⟨_, Heap.get?_push_size _ rfl, rfl, ?_⟩ q)
    rw [hsz] <;> rfl
def wiK (t : WE) : WI := fun env Q E => t env (fun r => ∃ kvs, (r = .t (.dic kvs) ∨ r = .t (.nd kvs)) ∧ Q (kvs.map (·.1))) E
theorem wiK_d (kvs : List (D × D)) (Q : List D → Prop) : (∃ ks, (R.t (.dic kvs) = R.t (.dic ks) ∨ R.t (.dic kvs) = R.t (.nd ks)) ∧ Q (ks.map (·.1))) = Q (kvs.map (·.1)) := by
  apply propext
  constructor
  · rintro ⟨ks, e | e, q⟩
    · cases e; exact q
    · cases e
  · exact fun q => ⟨kvs, .inl rfl, q⟩
theorem wiK_n (kvs : List (D × D)) (Q : List D → Prop) : (∃ ks, (R.t (.nd kvs) = R.t (.dic ks) ∨ R.t (.nd kvs) = R.t (.nd ks)) ∧ Q (ks.map (·.1))) = Q (kvs.map (·.1)) := by
  apply propext
  constructor
  · rintro ⟨ks, e | e, q⟩
    · cases e
    · cases e; exact q
  · exact fun q => ⟨kvs, .inr rfl, q⟩
theorem ext_lk {H B H1 B1 : Hp} {d : Addr} {o : HO} (e : Ext H B H1 B1) (hn : H d = none) (bn : B1 d = none) : Ext H B (upd H1 d o) (upd B1 d o) where
  same := fun a u h => by rw [upd_ne (ne_of_none h hn)]; exact e.same a u h
  le := fun a u h => by rw [upd_ne (ne_of_none (e.le a u h) bn)]; exact e.le a u h
  bh := fun a u h => by
    by_cases q : a = d
    · subst q; rw [upd_same] at h ⊢; exact h
    · rw [upd_ne q] at h ⊢; exact e.bh a u h
  new := fun a u h n => by rw [upd_ne (ne_of_none h hn)]; exact e.new a u h n
theorem le_new {B : Hp} {d : Addr} {o : HO} (bn : B d = none) : Le B (upd B d o) := fun a u h => by rw [upd_ne (ne_of_none h bn)]; exact h
theorem di_keysT {X : Cx} {W : WX} {G : Hp} {tg e : Expr} {m : WE} (h : DE X W G e m) : DI X W G tg e (wiK m) := by
  refine PIi (pi_keysT h) fun σ H R0 ⟨B, env, fp, Q, E, rr, hm, hq, hx⟩ => ?_
  refine ⟨B, env, fp, _, E, rr, hm, fun v H1 B1 r e1 w ⟨kvs, er, q⟩ => ?_, hx⟩
  rcases er with er | er
  · subst er
    obtain ⟨f, ow, nf, hf⟩ := w
    cases ow with
    | @dic a ks _ hl rl =>
      obtain ⟨hn, bn⟩ := hf a (by simp)
      exact ⟨a, _, rfl, hl, True.intro, fun od => .inl ⟨ks, rfl, hq _ _ _ _ (ext_lk e1 hn bn) (walkK upd_same (rl.mono (le_new bn))) q⟩⟩
  · subst er
    obtain ⟨f, ow, nf, hf⟩ := w
    cases ow with
    | @nd a xs _ hl rl =>
      obtain ⟨hn, bn⟩ := hf a (by simp)
      exact ⟨a, _, rfl, hl, mut_nd _ _, fun od => .inr ⟨xs, rfl, hq _ _ _ _ (ext_lk e1 hn bn) (walkN upd_same (rl.mono (le_new bn))) q⟩⟩
end DL

set_option Elab.async false
set_option linter.all false
set_option maxRecDepth 100000
set_option maxHeartbeats 1000000
/-! DLI: a written dict of one pair, keyed by a tuple; dict(pairs) of such keys. -/
namespace DL
open PySem L2 PyProof.Rows
/-- {k: v} -/
def wDicN (m : WPs) : WE := fun env Q E => m env (fun rs => ∃ x y, rs = [(x, y)] ∧ okD x.d ∧ Q (.t (.nd [(x.d, y.d)]))) E
section
variable {X : Cx} {W : WX} {G : Hp} {pos : Pos} {k v : Expr} {m : WPs}
def tDispN (X : Cx) (trs : List (TE × TE)) : TE := fun σ H Q => ∀ p, H p = none → tPairs trs σ (upd H p (.dK [])) fun ps H2 => H2 p = some (.dK []) ∧ ∃ (a : Addr) (nk : NestedKey) (y : V), ps = [(.ref a, y)] ∧ okNK nk ∧ Rep X.K H2 (.ref a) nk.data ∧ ∀ u, RelV y u → Q (.ref p) (upd H2 p (ndHO p [(nk, a, u)]))
theorem pe_dispN {trs : List (TE × TE)} (hu : X.A.units + 64 < cLine) (h : PPs X pos [some k] [v] trs) : PE X (.Dict [some k] [v] pos) (tDispN X trs) := by
  refine ⟨fun pins s σ H Q I q => ?_⟩
  have hn := I.hok.fresh (Nat.le_refl s.heap.objs.size)
  have I1 := I.laid (a := s.heap.objs.size) (o := .dK []) (h' := s.heap.push { cls := .type "dict", data := .dict #[] }) (t' := s.toks) (fun _ _ q => Heap.get?_push_of_some _ q) (Nat.le_refl _) (dk_empty s.heap I.big)
  have hlen := pairTrees_length [some k] [v] X.env pos rfl rfl
  rw [arm_eval_Dict, zip_pairTrees [some k] [v] X.env pos rfl rfl, dictDisplay_pairs (pairTrees [some k] [v] X.env pos) (by intro e; rw [e] at hlen; simp at hlen) (by rw [hlen]; simp)]
  refine wpAny_bind (wpAny_standAt (wpAny_bind (wpAny_subDictH (knd := NK X) (Q := fun d s' => wpAny (model X.prog X.w) X.A (pure (Value.ref d)) (EP X pins σ Q) X.xe s') (show X.A.units + 8 < cLine by omega) (by rw [hlen]; simp)
    (thn (h.run pins _ σ _ _ I1 (q _ hn)) fun ws s2 ⟨ps, H2, I2, rel, e, a, nk, y, ep, ok, rk, q2⟩ => ?_))))
  subst ep
  obtain ⟨⟨u1, u2⟩, rfl, r1, r2⟩ : ∃ w : Value × Value, ws = [w] ∧ RelV (.ref a) w.1 ∧ RelV y w.2 := by
    cases rel with
    | cons h t => cases t; exact ⟨_, rfl, h.1, h.2⟩
  cases (show u1 = Value.ref a from r1)
  have dd0 := nd_of I2 (xs := []) (.inl (show H2 s.heap.objs.size = some (ndHO _ []) from e)) .nil
  refine ⟨[(nk, a, u2)], ⟨rfl, rfl, key_is I2 ok rk, True.intro⟩, dd0.2.2, fun h' tk dd' hs => wpAny_pure ⟨.ref s.heap.objs.size, _, ?_, rfl, q2 u2 r2⟩⟩
  obtain ⟨qq, es, ep, hq, _⟩ := id dd'
  have sn : storedAllH ([] : List (NestedKey × Addr × Value)) [(nk, a, u2)] = [(nk, a, u2)] := rfl
  rw [sn] at dd'
  refine d_write I2 (by rw [e]; exact True.intro) hs ⟨qq, hq⟩ (nd_new (by simp [sizeLine_eq]) dd0.1 (fun y m => ?_) dd')
  rw [List.mem_singleton.mp m]
  exact ok.2.1
theorem de_dicN (hu : X.A.units + 64 < cLine) (h : DPs X W G pos [some k] [v] m) : DE X W G (.Dict [some k] [v] pos) (wDicN m) := by
  obtain ⟨trs, h1, h2⟩ := h
  refine PEi (pe_dispN hu h1) fun σ H QV ⟨B, env, fp, Q, E, rr, hm, hq, hx⟩ p np => ?_
  have e0 : Ext H B (upd H p (.dK [])) B := .make rr.bh np _
  refine h2 _ _ _ ⟨B, env, fp, _, E, rr.ext e0, hm, fun ws H1 B1 rs e1 pa ⟨x, y, er, ok, q⟩ => ?_, hx.later e0.same⟩
  subst er
  cases pa with
  | cons ra rb t =>
    cases t
    obtain ⟨a, nk, ev, o1, ek, rk⟩ := ra.key ok
    subst ev
    have hp1 := e1.same _ _ (show upd H p (.dK []) p = some (.dK []) from upd_same)
    have nb : B1 p = none := e1.new p _ upd_same (rr.bh.none np)
    refine ⟨hp1, a, nk, _, rfl, o1, rk.mono e1.bh, fun u ru => ?_⟩
    refine hq _ _ B1 (.t _) ⟨fun a o q => ?_, e1.le, fun a o q => ?_, fun a o q n => e1.new a o (upd_keep q (ne_of_none q np)) n⟩ ⟨[p], .nd upd_same (by rw [ek]; exact .cons o1 rk rb ru .nil), by simp, fun b mb => by simp at mb; subst mb; exact ⟨np, nb⟩⟩ q
    · rw [upd_ne (ne_of_none q np)]; exact e1.same a o (upd_keep q (ne_of_none q np))
    · rw [upd_ne (ne_of_none q nb)]; exact e1.bh a o q
end
end DL

set_option Elab.async false
set_option linter.all false
set_option maxRecDepth 100000
set_option maxHeartbeats 1000000
/-! DLR: a def that changes a dict of the caller's. -/
namespace DL
open PySem L2 PyProof.Rows
/-- an own dict, of either kind -/
def mkO : Bool → List (D × D) → O
  | true, kvs => .nd kvs
  | false, kvs => .dic kvs
theorem mkO_t (kvs : List (D × D)) : mkO true kvs = .nd kvs := rfl
theorem mkO_f (kvs : List (D × D)) : mkO false kvs = .dic kvs := rfl
theorem mkO_frz (b : Bool) (kvs : List (D × D)) : (mkO b kvs).frz = .dict kvs := by cases b <;> simp [mkO]
theorem own_mkO {K : K0} {B H : Hp} {v : V} {b : Bool} {kvs : List (D × D)} {f : List Addr} (h : Own K B H v (mkO b kvs) f) : ∃ a, v = .ref a ∧ f = [a] ∧ ∃ u, H a = some u ∧ isDc u := by
  cases b with
  | true => cases h with | nd h r => exact ⟨_, rfl, rfl, _, h, isDc_nd _ _⟩
  | false => cases h with | dic h r => exact ⟨_, rfl, rfl, _, h, True.intro⟩
/-- what is handed in: at place p the caller's own dict at a -/
inductive ArgM (K : K0) (B H : Hp) (a : Addr) (b : Bool) (kvs : List (D × D)) : Nat → List V → List D → Prop
  | here {vs : List V} {ds : List D} : Own K B H (.ref a) (mkO b kvs) [a] → RepAll K B vs ds → ArgM K B H a b kvs 0 (.ref a :: vs) (.dict kvs :: ds)
  | there {p : Nat} {v : V} {d : D} {vs : List V} {ds : List D} : Rep K B v d → ArgM K B H a b kvs p vs ds → ArgM K B H a b kvs (p + 1) (v :: vs) (d :: ds)
section
variable {K : K0} {B H : Hp} {a : Addr} {b : Bool} {kvs : List (D × D)}
theorem ArgM.length : ∀ {p : Nat} {vs : List V} {ds : List D}, ArgM K B H a b kvs p vs ds → vs.length = ds.length
  | _, _, _, .here _ r => congrArg (· + 1) r.length
  | _, _, _, .there _ t => congrArg (· + 1) (ArgM.length t)
theorem ArgM.own : ∀ {p : Nat} {vs : List V} {ds : List D}, ArgM K B H a b kvs p vs ds → Own K B H (.ref a) (mkO b kvs) [a]
  | _, _, _, .here o _ => o
  | _, _, _, .there _ t => ArgM.own t
theorem ArgM.at : ∀ {p : Nat} {vs : List V} {ds : List D}, ArgM K B H a b kvs p vs ds → ds[p]? = some (.dict kvs)
  | _, _, _, .here o _ => rfl
  | _, _, _, .there _ t => by simpa using ArgM.at t
theorem ArgM.env : ∀ {p : Nat} {vs : List V} {ds : List D} (n : Nat), ArgM K B H a b kvs p vs ds → OwnEnv K B H (vs.map some ++ List.replicate n none) ((ds.map (fun d => some (O.fro d)) ++ List.replicate n none).set p (some (.pin a (mkO b kvs)))) [a]
  | _, _, _, n, .here o r => by
    have := OwnEnv.some (f := [a]) (Own.pin o) (ownEnv_start (H := H) n r)
    simpa using this
  | _, _, _, n, .there r t => by
    have := OwnEnv.some (f := []) (.fro r) (ArgM.env n t)
    simpa using this
end
/-- what a call of it asks -/
def dspM (K : K0) (mg : Str → Option Value) (b : Bool) (p : Nat) (S : Spec) : Sp := fun vs H QV EX => ∃ B a kvs ds Q, ArgM K B H a b kvs p vs ds ∧ B a = none ∧ Le B H ∧ S ds Q (fun _ => False) ∧
  ∀ v H' B' d kvs', (∀ c u, c ≠ a → H c = some u → H' c = some u) → Le B B' → Le B' H' → (∀ c u, H c = some u → B c = none → B' c = none) → B' a = none → Rep K B' v d → Own K B' H' (.ref a) (mkO b kvs') [a] → Q (.t (.io d 0 (mkO b kvs'))) → QV v H'
def startM (N : List Str) (b : Bool) (p : Nat) (a : Addr) (kvs : List (D × D)) (ds : List D) : Env := (startD N ds).set p (some (.pin a (mkO b kvs)))
def enM (b : Bool) (p : Nat) (a : Addr) (Q : R → Prop) : En := { nx := fun env => ∃ kvs, env[p]? = some (some (.pin a (mkO b kvs))) ∧ Q (.t (.io .none 0 (mkO b kvs))), rt := fun r => ∃ d kvs, r = .t (.io d a (mkO b kvs)) ∧ Q (.t (.io d 0 (mkO b kvs))), bk := fun _ => False, ct := fun _ => False, ex := fun _ _ => False }
section
variable {P : Program} {w : World} {K : K0} {mg : Str → Option Value} {base : Heap} {x qual : Str} {params : Arguments} {body : List Stmt} {scope : Scope} {dvs : List V} {kws : List (Str × V)} {f : Addr} {fd : FuncData} {N ps : List Str} {k : Nat} {S : Spec} {m : WS} {b : Bool} {p : Nat}
theorem fn_dM (F : FunD K x qual params body scope dvs kws f fd) (Sc : FnScope N ps scope) (len : ∀ ds Q E, S ds Q E → ds.length = ps.length)
    (der : ∀ (cdv : Value) (A : Around) (outer : List PySem.Env) (s : Shared) (H : Hp) (E : XK) (G : Hp), Room k (A.deeper (envOfC qual scope s.heap.objs.size f cdv)) →
      Takes (XB P w K mg base N qual scope f cdv A outer s H E) (fun cls d _ H => E cls d H) → PassesOwn (model P w) (XB P w K mg base N qual scope f cdv A outer s H E).A (XB P w K mg base N qual scope f cdv A outer s H E).env (XB P w K mg base N qual scope f cdv A outer s H E).xe →
      DSs (XB P w K mg base N qual scope f cdv A outer s H E) (fun cls d _ H => E cls d H) G body m)
    (wp : ∀ a kvs ds Q, ds[p]? = some (.dict kvs) → S ds Q (fun _ => False) → m (enM b p a Q) (startM N b p a kvs ds)) : FnOk P w K mg base (L2.CX P w) (k + 1) f fd ps (dspM K mg b p S) := by
  refine F.ok Sc (fun vs H Q E h => ?_) fun cdv A outer s H vs QV EX hr h => ?_
  · obtain ⟨B, a, kvs, ds, Q', r, _, _, hs, _⟩ := h
    rw [r.length]
    exact len _ _ _ hs
  · obtain ⟨B, L, kvs, ds, Q, r, bL, l, hs, hq⟩ := h
    have own0 := r.own
    obtain ⟨_, e0, _, u0, hL, _⟩ := own_mkO own0
    cases e0
    let G : Hp := fun a => match B a with | none => delH H L a | some _ => none
    have gH : ∀ a o, G a = some o → H a = some o ∧ B a = none := fun a o q => by
      cases e : B a with
      | none => have : G a = delH H L a := by show (match B a with | none => delH H L a | some _ => none) = _; rw [e]
                rw [this] at q; exact ⟨(delH_some q).1, rfl⟩
      | some u => have : G a = none := by show (match B a with | none => delH H L a | some _ => none) = _; rw [e]
                  rw [this] at q; cases q
    have gN : ∀ a, B a = none → G a = delH H L a := fun a e => by show (match B a with | none => delH H L a | some _ => none) = _; rw [e]
    have bD : ∀ a u, B a = some u → delH H L a = some u := fun a u e => by
      rw [delH_ne (fun z => by rw [z, bL] at e; cases e)]
      exact l a u e
    refine ⟨_, der cdv A outer s H EX G hr (takes_of rfl rfl rfl rfl) (passes_of rfl), B, startM N b p L kvs ds, [L], enM b p L Q, ⟨l, fun a o q => (gH a o q).1, fun a o q => (gH a o q).2, ?_, by simp, fun a m => ?_⟩, wp L kvs ds Q r.at hs, ?_⟩
    · have h1 := r.env (N.length - ds.length)
      unfold startM startD L2.start
      rw [r.length]
      exact h1
    · obtain rfl := List.mem_singleton.mp m
      exact ⟨bL, by rw [gN _ bL, delH_same]⟩
    · have fin : ∀ v H' B' d kvs' , Le B B' → Le B' H' → Le G H' → (∀ a o, G a = some o → B' a = none) → Rep K B' v d → Own K B' H' (.ref L) (mkO b kvs') [L] → B' L = none → Q (.t (.io d 0 (mkO b kvs'))) → QV v H' := fun v H' B' d kvs' l1 l2 l3 l4 rv ow nL q => by
        refine hq v H' B' d kvs' (fun c u hc h => ?_) l1 l2 (fun c u h n => ?_) nL rv ow q
        · cases eb : B c with
          | none => exact l3 c u (by rw [gN c eb, delH_ne hc]; exact h)
          | some u' =>
            have := l c u' eb
            rw [h] at this; cases this
            exact l2 _ _ (l1 _ _ eb)
        · by_cases hc : c = L
          · rw [hc]; exact nL
          · exact l4 c u (by rw [gN c n, delH_ne hc]; exact h)
      refine ⟨fun σ H' B' env fp l1 rr q => ?_, fun σ H' B' env fp l1 rr q => q.elim, fun σ H' B' env fp l1 rr q => q.elim, fun v H' B' r f l1 l2 l3 l4 hf nf w q => ?_, fun n cls σ H' B' env fp l1 rr en hm => en.elim⟩
      · obtain ⟨kvs', hp, q⟩ := q
        obtain ⟨v, g, h1, h2, h3⟩ := rr.own.get hp
        cases h2 with
        | pin h2 =>
          obtain ⟨_, e1, e2, _⟩ := own_mkO h2
          cases e1; subst e2
          exact fin .non H' B' .none kvs' l1 rr.bh rr.gh rr.gb .non h2 (rr.fb L (h3.subset (by simp))).1 q
      · obtain ⟨d, kvs', er, q⟩ := q
        subst er
        cases w with
        | io rv ow =>
          obtain ⟨_, e1, e2, _⟩ := own_mkO ow
          cases e1; subst e2
          exact fin v H' B' d kvs' l1 l2 l3 l4 rv ow (hf L (by simp)).1 q
end
def FnAtM (P : Program) (w : World) (K : K0) (mg : Str → Option Value) (base : Heap) (k : Nat) (x : Str) (ps : List Str) (b : Bool) (p : Nat) (S : Spec) : Prop :=
  ∃ (f : Addr) (fd : FuncData), mg x = some (.ref f) ∧ PySem.W.keepIn K (.ref f) = true ∧ FnOk P w K mg base (L2.CX P w) k f fd ps (dspM K mg b p S) ∧ Binds K fd ps []
section
variable {P : Program} {w : World} {K : K0} {mg : Str → Option Value} {base : Heap} {x qual : Str} {params : Arguments} {body : List Stmt} {scope : Scope} {f : Addr} {fd : FuncData} {N ps : List Str} {k : Nat} {S : Spec} {m : WS} {b : Bool} {p : Nat}
theorem fnAtM (F : FunD K x qual params body scope [] [] f fd) (g : mg x = some (.ref f)) (Sc : FnScope N ps scope)
    (hb : ∀ (kV doc pm : Value) (an : Option Addr) (cdv ct : Value) (us : List Value), us.length = ps.length → bindArgs (PySem.W.fnOf x qual params body scope .none kV doc pm an cdv ct) ⟨us, []⟩ = pure (ps.zip us))
    (len : ∀ ds Q E, S ds Q E → ds.length = ps.length)
    (der : ∀ (cdv : Value) (A : Around) (outer : List PySem.Env) (s : Shared) (H : Hp) (E : XK) (G : Hp), Room k (A.deeper (envOfC qual scope s.heap.objs.size f cdv)) →
      Takes (XB P w K mg base N qual scope f cdv A outer s H E) (fun cls d _ H => E cls d H) → PassesOwn (model P w) (XB P w K mg base N qual scope f cdv A outer s H E).A (XB P w K mg base N qual scope f cdv A outer s H E).env (XB P w K mg base N qual scope f cdv A outer s H E).xe →
      DSs (XB P w K mg base N qual scope f cdv A outer s H E) (fun cls d _ H => E cls d H) G body m)
    (wp : ∀ a kvs ds Q, ds[p]? = some (.dict kvs) → S ds Q (fun _ => False) → m (enM b p a Q) (startM N b p a kvs ds)) : FnAtM P w K mg base (k + 1) x ps b p S :=
  ⟨f, fd, g, F.kp, fn_dM F Sc len der wp, F.bindsN hb⟩
end
/-! ### its return -/
def wRetM (p : Nat) (t : WE) : WS := fun D env => t env (fun r => ∃ d a o, r = .v d ∧ env[p]? = some (some (.pin a o)) ∧ D.rt (.t (.io d a o))) (fun n => D.ex n env)
section
variable {X : Cx} {W : WX} {G : Hp} {e : Expr} {es : List Expr} {t m : WE} {ms : WA} {pos : Pos}
theorem ds_retM {p : Nat} (h : DE X W G e t) : DS X W G (.Return (some e) pos) (wRetM p t) := PSi (ps_ret h) fun D σ H ⟨B, env, fp, d, rr, hm, x⟩ =>
  ⟨B, env, fp, _, _, rr, hm, fun v H' B' r e' w ⟨dd, a, o, er, hp, q⟩ => by
    subst er
    have rr' := rr.ext e'
    obtain ⟨vi, g, h1, h2, h3⟩ := rr'.own.get hp
    cases h2 with
    | pin h2 =>
      exact x.rt v H' B' (.t (.io dd a o)) g e'.le rr'.bh rr'.gh rr'.gb (fun a m => rr'.fb a (h3.subset m)) (rr'.nd.sublist h3) (.io w h2) q, x.x rr⟩
/-! ### the call -/
/-- what is handed in: at place p what the slot holds -/
inductive VAllM (K : K0) (B' H' : Hp) (v0 : V) (kv : D) : Nat → List V → List R → Prop
  | here {vs : List V} {rs : List R} : VAll K B' H' vs rs → allSt rs → VAllM K B' H' v0 kv 0 (v0 :: vs) (.v kv :: rs)
  | there {p : Nat} {v : V} {d : D} {vs : List V} {rs : List R} : Rep K B' v d → VAllM K B' H' v0 kv p vs rs → VAllM K B' H' v0 kv (p + 1) (v :: vs) (.v d :: rs)
def tDAM (X : Cx) (W : WX) (G : Hp) (p i : Nat) (b : Bool) (m : WA) : TA := fun σ H QV => ∃ B env fp Q E v kvs, RR X.K G B env fp σ H ∧ σ[i]? = some (some v) ∧ env[i]? = some (some (mkO b kvs)) ∧ m env Q E ∧ (∀ vs H' B' rs, Ext H B H' B' → VAllM X.K B' H' v (.dict kvs) p vs rs → Q rs → QV vs H') ∧ XOk X.mg W H σ E
def DAM (X : Cx) (W : WX) (G : Hp) (es : List Expr) (p i : Nat) (b : Bool) (m : WA) : Prop := PA X es (tDAM X W G p i b m)
theorem mkO_inj {b : Bool} {k l : List (D × D)} (h : mkO b k = mkO b l) : k = l := by cases b <;> simpa [mkO] using h
/-- the rest is kept -/
def wamH (i : Nat) (b : Bool) (ms : WA) : WA := fun env Q E => ∃ kvs, env[i]? = some (some (mkO b kvs)) ∧ ms env (fun rs => allSt rs ∧ Q (.v (.dict kvs) :: rs)) E
def wamC (m : WE) (ms : WA) : WA := fun env Q E => m env (fun r => r.st ∧ ms env (fun rs => Q (.v r.d :: rs)) E) E
theorem dam_here {i : Nat} {b : Bool} (hv : PE X e (tVar i)) (hr : DA X W G es ms) (hs : starEach (e :: es) X.env = (false, eval e X.env) :: starEach es X.env) : DAM X W G (e :: es) 0 i b (wamH i b ms) := by
  refine PAi (pa_cons hv hr hs) fun σ H QV ⟨B, env, fp, Q, E, v, kvs, rr, hi, hk, ⟨kvs', he, hm⟩, hq, hx⟩ => ?_
  rw [hk] at he
  have := mkO_inj (Option.some.inj (Option.some.inj he))
  subst this
  exact ⟨v, hi, B, env, fp, _, E, rr, hm, fun vs H' B' rs e' va ⟨st, q⟩ => hq _ H' B' _ e' (.here va st) q, hx⟩
theorem dam_there {p i : Nat} {b : Bool} (ha : DE X W G e m) (hr : DAM X W G es p i b ms) (hs : starEach (e :: es) X.env = (false, eval e X.env) :: starEach es X.env) : DAM X W G (e :: es) (p + 1) i b (wamC m ms) := by
  refine PAi (pa_cons ha hr hs) fun σ H QV ⟨B, env, fp, Q, E, v, kvs, rr, hi, hk, hm, hq, hx⟩ => ?_
  refine ⟨B, env, fp, _, E, rr, hm, fun v1 H1 B1 r1 e1 o1 ⟨s1, q1⟩ => ?_, hx⟩
  obtain ⟨B2, e2, l2, rp⟩ := o1.keep e1 s1
  refine ⟨B2, env, fp, _, E, v, kvs, rr.ext e2, hi, hk, q1, fun vs H3 B3 rs e3 o3 q3 => ?_, hx.later e2.same⟩
  exact hq _ H3 B3 (.v r1.d :: rs) (e2.trans e3) (.there (rp.mono e3.le) o3) q3
theorem VAllM.arg {K : K0} {B H : Hp} {a : Addr} {b : Bool} {kvs : List (D × D)} (own : Own K B H (.ref a) (mkO b kvs) [a]) : ∀ {p : Nat} {vs : List V} {rs : List R}, VAllM K B H (.ref a) (.dict kvs) p vs rs → ArgM K B H a b kvs p vs (rs.map R.d)
  | _, _, _, .here va st => .here own (va.reps st)
  | _, _, _, .there r t => .there r (VAllM.arg own t)
/-- y = f(.., x, ..), the dict of x changed -/
def wSetM (y i : Nat) (b : Bool) (S : Spec) (ms : WA) : WS := fun D env => ∃ kvs, env[i]? = some (some (mkO b kvs)) ∧
  ms env (fun rs => S (rs.map R.d) (fun r => ∃ d kvs', r = .t (.io d 0 (mkO b kvs')) ∧ D.nx ((env.set i (some (mkO b kvs'))).set y (some (.fro d)))) (fun _ => False)) (fun n => D.ex n env)
def wExpM (i : Nat) (b : Bool) (S : Spec) (ms : WA) : WS := fun D env => ∃ kvs, env[i]? = some (some (mkO b kvs)) ∧
  ms env (fun rs => S (rs.map R.d) (fun r => ∃ d kvs', r = .t (.io d 0 (mkO b kvs')) ∧ D.nx (env.set i (some (mkO b kvs')))) (fun _ => False)) (fun n => D.ex n env)
theorem callM_core {B env fp} {σ : L2.St} {H : Hp} {i p : Nat} {b : Bool} {S : Spec} {E : Str → Prop} {F : List R → (R → Prop)} {FV : V → Hp → Prop} (rr : RR X.K G B env fp σ H) {kvs : List (PyData × PyData)} (hi : env[i]? = some (some (mkO b kvs)))
    (hm : ms env (fun rs => S (rs.map R.d) (F rs) (fun _ => False)) E) (hx : XOk X.mg W H σ E)
    (fin : ∀ rs v H' B' dd kvs' fp', Le B B' → RR X.K G B' (env.set i (some (mkO b kvs'))) fp' σ H' → Rep X.K B' v dd → F rs (.t (.io dd 0 (mkO b kvs'))) → FV v H') :
    tCallSD (dspM X.K X.mg b p S) [] (fun σ cls d H => W cls d σ H) (tDAM X W G p i b ms) σ H FV := by
  obtain ⟨v, g, h1, h2, h3⟩ := rr.own.get hi (by intro a e; cases b <;> cases e)
  obtain ⟨a, ev, eg, _⟩ := own_mkO h2
  subst ev eg
  refine ⟨B, env, fp, _, E, .ref a, kvs, rr, h1, hi, hm, fun vs H1 B1 rs e1 va hs => ?_, hx⟩
  have rr1 := rr.ext e1
  obtain ⟨vi, g, g1, g2, g3, g4, g5⟩ := rr1.put hi (by intro a e; cases b <;> cases e)
  rw [h1] at g1; cases g1
  obtain ⟨_, e2, e3, _⟩ := own_mkO g2
  cases e2; subst e3
  refine ⟨B1, a, kvs, rs.map R.d, F rs, by rw [List.append_nil]; exact va.arg g2, (g4 a (by simp)).2.1, e1.bh, hs, fun v H' B' dd kvs' k1 k2 k3 k4 k5 rv ow q => ?_⟩
  obtain ⟨fp', rr'⟩ := g5 B' H' (mkO b kvs') [a] k2 k3 (fun c u n h => k1 c u (by simpa using n) h) (fun c u h n n2 => k4 c u h n2) ow (by simp) (fun c m => by
    obtain rfl := List.mem_singleton.mp m
    exact ⟨fun _ => List.mem_singleton.mpr rfl, k5, (g4 _ (by simp)).2.2⟩)
  exact fin rs v H' B' dd kvs' fp' (e1.le.trans k2) rr' rv q
section
variable {k j p0 : Nat} {ps : List Str} {S : Spec} {x : Str} {p p' : Pos} {i : Nat} {b : Bool}
theorem pe_callM (F : FnAtM X.prog X.w X.K X.mg X.base k x ps b p0 S) (hr : Room j X.A) (hk : k ≤ j) (hg : Gl X x) (tk : Takes X W) (ha : DAM X W G (e :: es) p0 i b ms) (hs : starEach (e :: es) X.env = (false, eval e X.env) :: starEach es X.env) (hdb : (x == ("__debug__" : Str)) = false)
    (hpl : (backTo pos (starEach es X.env)).any (·.1) = false) : PE X (.Call (.Name x p) (e :: es) [] pos) (tCallSD (dspM X.K X.mg b p0 S) [] (fun σ cls d H => W cls d σ H) (tDAM X W G p0 i b ms)) := by
  obtain ⟨f, fd, hm, hkp, F, hb⟩ := F
  exact pe_callSD (E := fun σ cls d H => W cls d σ H) F (hr.mono hk) hg hm hkp hb .nil (fun σ => passAt tk σ) ha hdb hs hpl
theorem ds_setM {iy : Nat} {y : Str} {pos' pos2 : Pos} (F : FnAtM X.prog X.w X.K X.mg X.base k x ps b p0 S) (hr : Room j X.A) (hk : k ≤ j) (hg : Gl X x) (tk : Takes X W) (ha : DAM X W G (e :: es) p0 i b ms) (hs : starEach (e :: es) X.env = (false, eval e X.env) :: starEach es X.env) (hdb : (x == ("__debug__" : Str)) = false)
    (hpl : (backTo pos (starEach es X.env)).any (·.1) = false) (hN : X.N.Nodup) (hi : X.N[iy]? = some y) (hl : Loc X.env.scope y) (hsw : swapsWith (.Call (.Name x p) (e :: es) [] pos) (some (.Name y pos')) pos2.line X.env = pure false)
    (hf : X.fn y = true ∨ X.env.scope.names.lookup y = some .local) : DS X W G (.Assign [.Name y pos'] (.Call (.Name x p) (e :: es) [] pos) pos2) (wSetM iy i b S ms) :=
  PSi (ps_set hN hi hl (pe_callM F hr hk hg tk ha hs hdb hpl) hsw hf) fun D σ H ⟨B, env, fp, d, rr, ⟨kvs, he, hm⟩, x⟩ => by
    refine callM_core (F := fun rs r => ∃ dd kvs', r = .t (.io dd 0 (mkO b kvs')) ∧ d.nx ((env.set i (some (mkO b kvs'))).set iy (some (.fro dd)))) rr he hm (x.x rr) fun rs v H' B' dd kvs' fp' l rr' rv q => ?_
    obtain ⟨d2, k2, e2, q⟩ := q
    have e3 : dd = d2 ∧ kvs' = k2 := by
      injection e2 with e2
      injection e2 with z1 z2 z3
      exact ⟨z1, mkO_inj z3⟩
    obtain ⟨rfl, rfl⟩ := e3
    obtain ⟨fp2, y2⟩ := rr'.asg (r := .v dd) (.refl rr'.bh) rv True.intro iy
    exact x.nx _ H' B' _ fp2 l y2 q
theorem ds_expM {pos2 : Pos} (F : FnAtM X.prog X.w X.K X.mg X.base k x ps b p0 S) (hr : Room j X.A) (hk : k ≤ j) (hg : Gl X x) (tk : Takes X W) (ha : DAM X W G (e :: es) p0 i b ms) (hs : starEach (e :: es) X.env = (false, eval e X.env) :: starEach es X.env) (hdb : (x == ("__debug__" : Str)) = false)
    (hpl : (backTo pos (starEach es X.env)).any (·.1) = false) (hsw : swapsWith (.Call (.Name x p) (e :: es) [] pos) none pos2.line X.env = pure false) : DS X W G (.Expr (.Call (.Name x p) (e :: es) [] pos) pos2) (wExpM i b S ms) :=
  PSi (ps_expr (pe_callM F hr hk hg tk ha hs hdb hpl) hsw) fun D σ H ⟨B, env, fp, d, rr, ⟨kvs, he, hm⟩, x⟩ => by
    refine callM_core (F := fun rs r => ∃ dd kvs', r = .t (.io dd 0 (mkO b kvs')) ∧ d.nx (env.set i (some (mkO b kvs')))) rr he hm (x.x rr) fun rs v H' B' dd kvs' fp' l rr' rv q => ?_
    obtain ⟨d2, k2, e2, q⟩ := q
    have e3 : kvs' = k2 := by
      injection e2 with e2
      injection e2 with z1 z2 z3
      exact mkO_inj z3
    subst e3
    exact x.nx _ H' B' _ fp' l rr' q
end
end
theorem enM_rt (b : Bool) (p : Nat) (a : Addr) (Q : R → Prop) (r : R) : (enM b p a Q).rt r = ∃ d kvs, r = .t (.io d a (mkO b kvs)) ∧ Q (.t (.io d 0 (mkO b kvs))) := rfl
theorem enM_nx (b : Bool) (p : Nat) (a : Addr) (Q : R → Prop) (env : Env) : (enM b p a Q).nx env = ∃ kvs, env[p]? = some (some (.pin a (mkO b kvs))) ∧ Q (.t (.io .none 0 (mkO b kvs))) := rfl
theorem enM_ex (b : Bool) (p : Nat) (a : Addr) (Q : R → Prop) (n : Str) (env : Env) : (enM b p a Q).ex n env = False := rfl
theorem io_iff (b : Bool) (d e : D) (a : Addr) (k : List (D × D)) (P : D → List (D × D) → Prop) : (∃ x l, R.t (.io d a (mkO b k)) = R.t (.io x a (mkO b l)) ∧ P x l) = P d k := by
  apply propext
  constructor
  · rintro ⟨x, l, h, p⟩
    injection h with h
    injection h with h1 h2 h3
    rw [h1, mkO_inj h3]; exact p
  · exact fun p => ⟨d, k, rfl, p⟩
section
variable {N : List Str} {m : WS} {b : Bool}
theorem sp4_wM3 {f} (h : ∀ ad x0 x1 x2 kvs Q, f x0 x1 x2 (.dict kvs) Q (fun _ => False) → m (enM b 3 ad Q) (startM N b 3 ad kvs [x0, x1, x2, .dict kvs])) (ad : Addr) (kvs : List (D × D)) (ds : List D) (Q : R → Prop) (e : ds[3]? = some (.dict kvs)) (x : sp4 f ds Q (fun _ => False)) : m (enM b 3 ad Q) (startM N b 3 ad kvs ds) := by
  match ds, x with
  | [_, _, _, _], x => simp at e; subst e; exact h _ _ _ _ _ _ x
theorem sp3_wM0 {f} (h : ∀ ad kvs x1 x2 Q, f (.dict kvs) x1 x2 Q (fun _ => False) → m (enM b 0 ad Q) (startM N b 0 ad kvs [.dict kvs, x1, x2])) (ad : Addr) (kvs : List (D × D)) (ds : List D) (Q : R → Prop) (e : ds[0]? = some (.dict kvs)) (x : sp3 f ds Q (fun _ => False)) : m (enM b 0 ad Q) (startM N b 0 ad kvs ds) := by
  match ds, x with
  | [_, _, _], x => simp at e; subst e; exact h _ _ _ _ _ x
end
end DL

set_option Elab.async false
set_option linter.all false
set_option maxRecDepth 100000
set_option maxHeartbeats 1000000
/-! DLA: order of alike data. -/
namespace DL
open PySem L2 PyProof.Rows
open PySem.W (alike alikeAll dataLt)
def okA (x y : D) : Prop := alike x x = true ∧ alike y y = true ∧ alike x y = true ∧ x ≠ .none ∧ x.depth ≤ 32
def cLtA : Op2B := fun x y Q => okA x y ∧ Q (dataLt x y)
def cLeA : Op2B := fun x y Q => okA x y ∧ Q (!dataLt y x)
section
variable {X : Cx}
theorem opLtA (hu : X.A.units + 64 < cLine) : OpR X (compareOp .Lt) (rc2 X.K cLtA) := by
  intro pins s σ H x y v u Q I rx ry ⟨B, dx, dy, Q', l, hx, hy, ⟨⟨h1, h2, h3, h4, h5⟩, hf⟩, hq⟩
  obtain ⟨as, r1⟩ := rep_reads I dx x v h1 hx rx
  obtain ⟨bs, r2⟩ := rep_reads I dy y u h2 hy ry
  exact PySem.W.lt_data r1 r2 h3 h4 (by have := Nat.min_le_left dx.depth dy.depth; omega) ⟨.bl _, H, I, rfl, hq _ hf⟩
theorem opLeA (hu : X.A.units + 64 < cLine) : OpR X (compareOp .LtE) (rc2 X.K cLeA) := by
  intro pins s σ H x y v u Q I rx ry ⟨B, dx, dy, Q', l, hx, hy, ⟨⟨h1, h2, h3, h4, h5⟩, hf⟩, hq⟩
  obtain ⟨as, r1⟩ := rep_reads I dx x v h1 hx rx
  obtain ⟨bs, r2⟩ := rep_reads I dy y u h2 hy ry
  exact PySem.W.le_data r1 r2 h3 h4 (by have := Nat.min_le_left dx.depth dy.depth; omega) ⟨.bl _, H, I, rfl, hq _ hf⟩
end
theorem okA_ii (a b c d : Int) : okA (.tuple [.int a, .int b]) (.tuple [.int c, .int d]) := ⟨by simp [alike, alikeAll], by simp [alike, alikeAll], by simp [alike, alikeAll], by simp, by simp [PyData.depth, PyData.depthAll]⟩
theorem dataLt_i (x y : Int) : dataLt (.int x) (.int y) = decide (x < y) := PySem.W.dataLt_int x y
theorem alike_ints (xs ys : List Int) : alikeAll (xs.map PyData.int) (ys.map PyData.int) = true := by
  induction xs generalizing ys with
  | nil => cases ys <;> simp [alikeAll]
  | cons x r ih =>
    cases ys with
    | nil => simp [alikeAll]
    | cons y t => simp [alikeAll, alike, ih]
theorem noLs_nL (ns : List Nat) : noLs (nL ns) = true := noLs_of fun d m => by
  obtain ⟨n, _, rfl⟩ := List.mem_map.mp m
  rfl
/-! ### d.get(k), keys tuples -/
def wGetN1 (o k : WE) : WE := fun env Q E => o env (fun x => x.sh ∧ ∃ kvs, x.d = .dict kvs ∧ ndK kvs ∧ k env (fun y => okD y.d ∧ Q (.v ((lookN kvs y.d).getD .none))) E) E
def tGetN1 (K : K0) (td ty : TE) : TE := fun σ H Q => td σ H fun x H1 => ∃ a xs ds, x = .ref a ∧ Rd H1 a (ndHO a xs) ∧ RepND K H1 xs ds ∧ ty σ H1 fun y H3 => ∃ b k, y = .ref b ∧ Rd H3 a (ndHO a xs) ∧ RepND K H3 xs ds ∧ okNK k ∧ Rep K H3 (.ref b) k.data ∧
  (∀ p v, atKey xs k = some p → RelV v p.2 → Q v H3) ∧ (atKey xs k = none → Q .non H3)
section
variable {X : Cx} {W : WX} {G : Hp}
theorem pe_getN1 {o e : Expr} {td ty : TE} {apos cpos : Pos} (hu : X.A.units + 64 < cLine) (ho : PE X o td) (he : PE X e ty) (m : M1 X o "get" apos e cpos) : PE X (.Call (.Attribute o "get" apos) [e] [] cpos) (tGetN1 X.K td ty) := by
  refine ⟨fun pins s σ H Q I h => ?_⟩
  refine wpAny_Call_method m.base m.few m.line PySem.F.plainAttrs_dict PySem.F.slot_dict_get PySem.F.type_dict_get (thn (ho.run pins s σ H _ I h) fun u s1 ⟨x, H1, I1, rx, a, xs, ds, ex, d, rn, q1⟩ => ?_)
  subst ex
  obtain rfl : u = Value.ref a := rx
  obtain ⟨hd, hz, dd⟩ := nd_of I1 d rn
  refine ⟨dd.typeIs, fun b q => ?_, ?_⟩
  · cases q
    obtain ⟨ob, _, _, h1, h2, _⟩ := dd
    exact ⟨ob, h1, h2.2.1⟩
  rw [m.trees]
  refine Calls.callWith_builtin rfl (Calls.evalArgs_plain (Calls.spliced_cons (thn (he.run pins s1 σ H1 _ I1 q1) fun iv s3 ⟨y, H3, I3, ry, b, k, ey, d3, rn3, ok, rk, q3, q4⟩ => Calls.spliced_nil ?_)))
  subst ey
  cases (show iv = Value.ref b from ry)
  obtain ⟨hd3, hz3, dd3⟩ := nd_of I3 d3 rn3
  refine call_meetsIn PySem.F.slot_dict_get dd3.typeIs PySem.F.entry_dict_get (PySem.F.args_dict_get_2 _ _) (meetsH_dict_get (NK X) a b hd3) ⟨room_nk hu, k, xs, key_is I3 ok rk, dd3, ?_⟩
  rcases rn3.look (k := k) with ⟨h1, _⟩ | ⟨p, v, d, h1, _, _, hv⟩
  · rw [h1]
    exact ⟨.non, H3, I3.tok _, rfl, q4 h1⟩
  · rw [h1]
    exact ⟨v, H3, I3.tok _, hv, q3 p v h1 hv⟩
theorem de_getN1 {ob kx : Expr} {mo mk : WE} {apos cpos : Pos} (hu : X.A.units + 64 < cLine) (c : M1 X ob "get" apos kx cpos) (ho : DE X W G ob mo) (hk : DE X W G kx mk) : DE X W G (.Call (.Attribute ob "get" apos) [kx] [] cpos) (wGetN1 mo mk) := by
  refine PEi (pe_getN1 hu ho hk c) fun σ H QV ⟨B, env, fp, Q, E, rr, hm, hq, hx⟩ => ?_
  refine ⟨B, env, fp, _, E, rr, hm, fun v H1 B1 r e1 w ⟨s, kvs, ed, nk, q1⟩ => ?_, hx⟩
  obtain ⟨B2, e2, l2, rv⟩ := w.view e1 s
  rw [ed] at rv
  obtain ⟨a, xs, ev, hd, t⟩ := rv.ndict e2.bh nk
  refine ⟨a, xs, kvs, ev, hd, t.mono e2.bh, B2, env, fp, _, E, rr.ext e2, q1, fun y H3 B3 ry e3 wy ⟨ok, q3⟩ => ?_, hx.later e2.same⟩
  have hy := wy.now e3
  obtain ⟨k, ok2, ek⟩ := ok
  rw [ek] at hy q3
  obtain ⟨⟨ks, ekk⟩, _⟩ := id ok2
  have hy' := hy
  rw [ekk, NestedKey.data] at hy'
  obtain ⟨b, vs, eb, _, _⟩ := hy'.tup_inv
  subst eb
  have t' := t.mono e3.le
  refine ⟨b, k, rfl, e3.same.rd hd, t'.mono e3.bh, ok2, hy, fun p v hp hv => ?_, fun hn => ?_⟩
  · rcases t'.look (k := k) with ⟨z1, _⟩ | ⟨p', v', d', z1, z2, z3, z4⟩
    · rw [z1] at hp; cases hp
    · rw [z1] at hp; cases hp
      rw [z2] at q3
      have : v' = v := RelV.inj z4 hv
      subst this
      exact hq _ H3 B3 (.v _) (e2.trans e3) z3 q3
  · rcases t'.look (k := k) with ⟨_, z2⟩ | ⟨p', v', d', z1, _⟩
    · rw [z2] at q3
      exact hq _ H3 B3 (.v .none) (e2.trans e3) .non q3
    · rw [z1] at hn; cases hn
end
end DL

set_option Elab.async false
set_option linter.all false
set_option maxRecDepth 100000
set_option maxHeartbeats 1000000
/-! MB: bits of whole numbers. -/
namespace DL
/-- the number of bits -/
def popN (n : Nat) : Nat := if n = 0 then 0 else n % 2 + popN (n / 2)
termination_by n
decreasing_by omega
theorem popN_zero : popN 0 = 0 := by rw [popN]; rfl
theorem popN_step (n : Nat) : popN n = n % 2 + popN (n / 2) := by
  by_cases h : n = 0
  · subst h; rw [show (0 : Nat) / 2 = 0 from rfl, popN_zero]
  · rw [popN, if_neg h]
theorem and_pred_lt {n : Nat} (h : 0 < n) : n &&& (n - 1) < n := by
  have := Nat.and_le_right (n := n) (m := n - 1)
  omega
theorem popN_pred : ∀ n : Nat, 0 < n → popN (n &&& (n - 1)) + 1 = popN n := by
  intro n
  induction n using Nat.strongRecOn with
  | ind n ih =>
    intro h
    rw [popN_step (n &&& (n - 1)), popN_step n, and_mod2, and_div2]
    by_cases p : n % 2 = 1
    · have e1 : (n - 1) % 2 = 0 := by omega
      have e2 : (n - 1) / 2 = n / 2 := by omega
      rw [p, e1, e2, Nat.and_self]
      omega
    · have e0 : n % 2 = 0 := by omega
      have e2 : (n - 1) / 2 = n / 2 - 1 := by omega
      rw [e0, e2]
      have := ih (n / 2) (by omega) (by omega)
      omega
/-- the places of the bits, from k on -/
def linesN (n k : Nat) : List Nat := if n = 0 then [] else (if n % 2 = 1 then [k] else []) ++ linesN (n / 2) (k + 1)
termination_by n
decreasing_by omega
theorem linesN_zero (k : Nat) : linesN 0 k = [] := by rw [linesN]; rfl
theorem linesN_step {n : Nat} (h : 0 < n) (k : Nat) : linesN n k = (if n % 2 = 1 then [k] else []) ++ linesN (n / 2) (k + 1) := by
  rw [linesN, if_neg (by omega)]
theorem linesN_length : ∀ (n k : Nat), (linesN n k).length = popN n := by
  intro n
  induction n using Nat.strongRecOn with
  | ind n ih =>
    intro k
    by_cases h : n = 0
    · subst h; rw [linesN_zero, popN_zero]; rfl
    · rw [linesN_step (by omega), popN_step, List.length_append, ih (n / 2) (by omega)]
      by_cases p : n % 2 = 1
      · rw [if_pos p, p]; rfl
      · rw [if_neg p]; simp; omega
theorem popN_le : ∀ (k n : Nat), n < 2 ^ k → popN n ≤ k
  | 0, n, h => by have : n = 0 := by simpa using h
                  subst this; rw [popN_zero]; omega
  | k + 1, n, h => by
    rw [popN_step]
    have := popN_le k (n / 2) (by rw [Nat.pow_succ] at h; omega)
    omega
/-- has the bit -/
abbrev bitAt (n i : Nat) : Bool := decide (n / 2 ^ i % 2 = 1)
theorem linesN_range : ∀ (j n k : Nat), n < 2 ^ j → linesN n k = ((List.range j).filter fun i => bitAt n i).map (· + k)
  | 0, n, k, h => by have : n = 0 := by simpa using h
                     subst this; rw [linesN_zero]; rfl
  | j + 1, n, k, h => by
    have h2 : n / 2 < 2 ^ j := by rw [Nat.pow_succ] at h; omega
    have ih := linesN_range j (n / 2) (k + 1) h2
    rw [List.range_succ_eq_map, List.filter_cons]
    have e : ((List.range j).map Nat.succ).filter (fun i => bitAt n i) = ((List.range j).filter fun i => bitAt (n / 2) i).map Nat.succ := by
      rw [List.filter_map]
      congr 1
      apply List.filter_congr
      intro i _
      simp only [Function.comp, bitAt, Nat.succ_eq_add_one]
      rw [Nat.pow_succ, Nat.mul_comm, ← Nat.div_div_eq_div_mul]
    rw [e]
    by_cases h0 : n = 0
    · subst h0
      rw [linesN_zero]
      simp [bitAt]
    · rw [linesN_step (by omega), ih]
      by_cases p : n % 2 = 1
      · rw [if_pos p, if_pos (by simp [bitAt, p])]
        simp [Nat.add_assoc, Nat.add_comm]
        try (intro a _ _; omega)
      · rw [if_neg p, if_neg (by simp [bitAt]; omega)]
        simp [Nat.add_assoc, Nat.add_comm]
        try (intro a _ _; omega)
/-- a number by the places of its bits -/
def colN (ls : List Nat) : Nat := ls.foldl (fun c l => c ||| 2 ^ l) 0
theorem fold_or (ls : List Nat) : ∀ c i : Nat, (ls.foldl (fun c l => c ||| 2 ^ l) c).testBit i = (c.testBit i || decide (i ∈ ls)) := by
  induction ls with
  | nil => intro c i; simp
  | cons l r ih =>
    intro c i
    rw [List.foldl_cons, ih, Nat.testBit_or, Nat.testBit_two_pow]
    by_cases h : l = i
    · subst h; simp
    · have : ¬ i = l := fun q => h q.symm
      simp [h, this]
theorem colN_bit (ls : List Nat) (i : Nat) : (colN ls).testBit i = decide (i ∈ ls) := by
  unfold colN
  rw [fold_or]
  simp
theorem testBit_at (n i : Nat) : n.testBit i = bitAt n i := by
  rw [Nat.testBit_eq_decide_div_mod_eq]
theorem colN_of {ls : List Nat} {n : Nat} (h : ∀ i, i ∈ ls ↔ n.testBit i = true) : colN ls = n := by
  apply Nat.eq_of_testBit_eq
  intro i
  rw [colN_bit]
  have := h i
  cases e : n.testBit i
  · rw [e] at this; simp at this; simp [this]
  · rw [e] at this; simp at this; simp [this]
theorem colN_congr {a b : List Nat} (h : ∀ i, i ∈ a ↔ i ∈ b) : colN a = colN b := by
  apply Nat.eq_of_testBit_eq
  intro i
  rw [colN_bit, colN_bit]
  simp [h]
theorem linesN_mem {j n : Nat} (h : n < 2 ^ j) (i : Nat) : i ∈ linesN n 0 ↔ n.testBit i = true := by
  rw [linesN_range j n 0 h, testBit_at]
  simp only [Nat.add_zero, List.map_id', List.mem_filter, List.mem_range]
  refine ⟨fun q => q.2, fun q => ⟨?_, q⟩⟩
  by_cases hi : i < j
  · exact hi
  · have : n / 2 ^ i = 0 := Nat.div_eq_of_lt (Nat.lt_of_lt_of_le h (Nat.pow_le_pow_right (by omega) (by omega)))
    rw [bitAt, this] at q
    simp at q
theorem linesN_lt {j n : Nat} (h : n < 2 ^ j) {i : Nat} (m : i ∈ linesN n 0) : i < j := by
  rw [linesN_range j n 0 h] at m
  simp only [Nat.add_zero, List.map_id', List.mem_filter, List.mem_range] at m
  exact m.1
theorem colN_lines {j n : Nat} (h : n < 2 ^ j) : colN (linesN n 0) = n := colN_of (linesN_mem h)
/-- the places of a list's numbers, summed -/
def dueN (ls : List Nat) : Nat → Nat
  | 0 => 0
  | k + 1 => dueN ls k + (if k ∈ ls then 2 ^ k else 0)
theorem dueN_lt (ls : List Nat) : ∀ k, dueN ls k < 2 ^ k
  | 0 => by simp [dueN]
  | k + 1 => by
    have := dueN_lt ls k
    rw [dueN, Nat.pow_succ]
    split <;> omega
theorem dueN_bit (ls : List Nat) : ∀ k i, (dueN ls k).testBit i = (decide (i < k) && decide (i ∈ ls))
  | 0, i => by simp [dueN]
  | k + 1, i => by
    have ih := dueN_bit ls k i
    have lt := dueN_lt ls k
    rw [dueN]
    by_cases h : k ∈ ls
    · rw [if_pos h]
      have e := Nat.two_pow_add_eq_or_of_lt lt 1
      rw [Nat.mul_one] at e
      rw [Nat.add_comm, e, Nat.testBit_or, ih, Nat.testBit_two_pow]
      by_cases hk : k = i
      · subst hk; simp [h]
      · have : (i < k + 1) = (i < k) := by apply propext; omega
        simp [hk, this]
    · rw [if_neg h, Nat.add_zero, ih]
      by_cases hk : i = k
      · subst hk; simp [h]
      · have : (i < k + 1) = (i < k) := by apply propext; omega
        simp [this]
theorem dueN_col {ls : List Nat} {k : Nat} (h : ∀ l ∈ ls, l < k) : dueN ls k = colN ls := by
  apply Nat.eq_of_testBit_eq
  intro i
  rw [dueN_bit, colN_bit]
  by_cases m : i ∈ ls
  · simp [m, h i m]
  · simp [m]
/-- in how many places two numbers are unlike -/
def apN (a b : Nat) : Nat := popN (a ^^^ b)
theorem apN_comm (a b : Nat) : apN a b = apN b a := by unfold apN; rw [Nat.xor_comm]
theorem apN_self (a : Nat) : apN a a = 0 := by unfold apN; rw [Nat.xor_self, popN_zero]
theorem bitAt_xor (m n i : Nat) : bitAt (m ^^^ n) i = (bitAt m i != bitAt n i) := by
  have h := Nat.testBit_xor m n i
  rw [testBit_at, testBit_at, testBit_at] at h
  exact h
/-- the gap of two strips -/
def gapN (xs ys : List Nat) : Nat := ((xs.zip ys).map fun p => apN p.1 p.2).sum
theorem gapN_nil (ys : List Nat) : gapN [] ys = 0 := rfl
theorem gapN_cons (x y : Nat) (xs ys : List Nat) : gapN (x :: xs) (y :: ys) = apN x y + gapN xs ys := rfl
theorem gapN_comm : ∀ xs ys : List Nat, gapN xs ys = gapN ys xs
  | [], [] => rfl
  | [], _ :: _ => rfl
  | _ :: _, [] => rfl
  | x :: xs, y :: ys => by rw [gapN_cons, gapN_cons, apN_comm, gapN_comm xs ys]
theorem gapN_self : ∀ xs : List Nat, gapN xs xs = 0
  | [] => rfl
  | x :: xs => by rw [gapN_cons, apN_self, gapN_self xs]
theorem gapN_append : ∀ {xs ys : List Nat} (us vs : List Nat), xs.length = ys.length → gapN (xs ++ us) (ys ++ vs) = gapN xs ys + gapN us vs
  | [], [], us, vs, _ => by simp [gapN_nil]
  | x :: xs, y :: ys, us, vs, h => by
    rw [List.cons_append, List.cons_append, gapN_cons, gapN_cons, gapN_append us vs (by simpa using h), Nat.add_assoc]
theorem popN_eq_zero : ∀ n : Nat, popN n = 0 → n = 0 := by
  intro n
  induction n using Nat.strongRecOn with
  | ind n ih =>
    intro h
    rw [popN_step] at h
    by_cases h0 : n = 0
    · exact h0
    · have := ih (n / 2) (by omega) (by omega)
      omega
theorem popN_xor_le (a : Nat) : ∀ b : Nat, popN (a ^^^ b) ≤ popN a + popN b := by
  induction a using Nat.strongRecOn with
  | ind a ih =>
    intro b
    by_cases h0 : a = 0
    · subst h0; simp
    have h := ih (a / 2) (by omega) (b / 2)
    rw [popN_step (a ^^^ b), popN_step a, popN_step b, xor_div2, xor_mod2]
    have ha : a % 2 = 0 ∨ a % 2 = 1 := by omega
    have hb : b % 2 = 0 ∨ b % 2 = 1 := by omega
    rcases ha with ha | ha <;> rcases hb with hb | hb <;> rw [ha, hb] <;> simp <;> omega
theorem apN_tri (a b c : Nat) : apN a c ≤ apN a b + apN b c := by
  unfold apN
  have e : a ^^^ c = (a ^^^ b) ^^^ (b ^^^ c) := by
    rw [Nat.xor_assoc, ← Nat.xor_assoc b b c, Nat.xor_self, Nat.zero_xor]
  rw [e]
  exact popN_xor_le _ _
theorem apN_zero {a b : Nat} (h : apN a b = 0) : a = b := by
  have h := popN_eq_zero _ h
  have e : (a ^^^ b) ^^^ b = b := by rw [h, Nat.zero_xor]
  rw [Nat.xor_assoc, Nat.xor_self, Nat.xor_zero] at e
  exact e
theorem apN_le {a b h : Nat} (ha : a < 2 ^ h) (hb : b < 2 ^ h) : apN a b ≤ h := popN_le h _ (Nat.xor_lt_two_pow ha hb)
theorem gapN_tri : ∀ {xs ys zs : List Nat}, xs.length = ys.length → ys.length = zs.length → gapN xs zs ≤ gapN xs ys + gapN ys zs
  | [], _, _, _, _ => by rw [gapN_nil]; omega
  | x :: xs, y :: ys, z :: zs, h, g => by
    rw [gapN_cons, gapN_cons, gapN_cons]
    have := gapN_tri (xs := xs) (ys := ys) (zs := zs) (by simpa using h) (by simpa using g)
    have := apN_tri x y z
    omega
theorem gapN_zero : ∀ {xs ys : List Nat}, xs.length = ys.length → gapN xs ys = 0 → xs = ys
  | [], [], _, _ => rfl
  | x :: xs, y :: ys, h, g => by
    rw [gapN_cons] at g
    rw [apN_zero (a := x) (b := y) (by omega), gapN_zero (xs := xs) (ys := ys) (by simpa using h) (by omega)]
theorem gapN_le {h : Nat} : ∀ {xs ys : List Nat}, (∀ x ∈ xs, x < 2 ^ h) → (∀ y ∈ ys, y < 2 ^ h) → gapN xs ys ≤ h * xs.length
  | [], _, _, _ => by rw [gapN_nil]; omega
  | x :: xs, [], _, _ => by simp [gapN]
  | x :: xs, y :: ys, hx, hy => by
    rw [gapN_cons, List.length_cons, Nat.mul_succ]
    have := gapN_le (xs := xs) (ys := ys) (fun z m => hx z (List.mem_cons_of_mem _ m)) fun z m => hy z (List.mem_cons_of_mem _ m)
    have := apN_le (hx x (List.mem_cons_self ..)) (hy y (List.mem_cons_self ..))
    omega
/-- the spots in which two strips are unlike, from column k on -/
def spotsN (k : Nat) : List Nat → List Nat → List (Nat × Nat)
  | x :: xs, y :: ys => (linesN (x ^^^ y) 0).map (fun l => (k, l)) ++ spotsN (k + 1) xs ys
  | _, _ => []
theorem spotsN_snoc : ∀ {xs ys : List Nat} (k x y : Nat), xs.length = ys.length → spotsN k (xs ++ [x]) (ys ++ [y]) = spotsN k xs ys ++ (linesN (x ^^^ y) 0).map fun l => (k + xs.length, l)
  | [], [], k, x, y, _ => by simp [spotsN]
  | x' :: xs, y' :: ys, k, x, y, h => by
    rw [List.cons_append, List.cons_append, spotsN, spotsN, spotsN_snoc (k + 1) x y (by simpa using h), List.append_assoc, List.length_cons]
    simp [Nat.add_assoc, Nat.add_comm, Nat.add_left_comm]
theorem spotsN_len : ∀ {xs ys : List Nat} (k : Nat), (spotsN k xs ys).length = gapN xs ys
  | [], _, k => by simp [spotsN, gapN]
  | _ :: _, [], k => by simp [spotsN, gapN]
  | x :: xs, y :: ys, k => by rw [spotsN, List.length_append, List.length_map, linesN_length, spotsN_len, gapN_cons]; rfl
theorem lt_pow {n h k : Nat} (a : n < 2 ^ h) (b : h ≤ k) : n < 2 ^ k := Nat.lt_of_lt_of_le a (Nat.pow_le_pow_right (by decide) b)
/-- a spot of a strip -/
def onS (h w : Nat) (p : Int × Int) : Prop := 0 ≤ p.1 ∧ p.1 < w ∧ 0 ≤ p.2 ∧ p.2 < h
instance (h w : Nat) (p : Int × Int) : Decidable (onS h w p) := by unfold onS; infer_instance
/-- one spot turned over -/
def turn1 (c : List Nat) (p : Int × Int) : List Nat := c.set p.1.toNat ((c[p.1.toNat]?.getD 0) ^^^ 2 ^ p.2.toNat)
def turnN (xs : List Nat) (ps : List (Int × Int)) : List Nat := ps.foldl turn1 xs
theorem turn1_len (c : List Nat) (p : Int × Int) : (turn1 c p).length = c.length := by unfold turn1; rw [List.length_set]
theorem turnN_len (ps : List (Int × Int)) : ∀ xs : List Nat, (turnN xs ps).length = xs.length := by
  induction ps with
  | nil => intro xs; rfl
  | cons p r ih => intro xs; show (turnN (turn1 xs p) r).length = _; rw [ih, turn1_len]
theorem turn1_lt {h : Nat} {c : List Nat} {p : Int × Int} (h1 : 1 ≤ h) (on : p.2 < h) (hc : ∀ x ∈ c, x < 2 ^ h) : ∀ x ∈ turn1 c p, x < 2 ^ h := by
  intro x m
  unfold turn1 at m
  rcases List.mem_or_eq_of_mem_set m with m | rfl
  · exact hc x m
  · have h2 : (c[p.1.toNat]?.getD 0) < 2 ^ h := by
      cases e : c[p.1.toNat]? with
      | none => simp; exact Nat.two_pow_pos h
      | some y => exact hc y (List.mem_of_getElem? e)
    exact Nat.xor_lt_two_pow h2 (Nat.pow_lt_pow_right (by decide) (by omega))
theorem turnN_lt {h : Nat} (h1 : 1 ≤ h) : ∀ {ps : List (Int × Int)} {xs : List Nat}, (∀ p ∈ ps, p.2 < h) → (∀ x ∈ xs, x < 2 ^ h) → ∀ x ∈ turnN xs ps, x < 2 ^ h
  | [], _, _, hx => hx
  | p :: r, xs, hp, hx => turnN_lt (ps := r) h1 (fun q m => hp q (List.mem_cons_of_mem _ m)) (turn1_lt h1 (hp p (List.mem_cons_self ..)) hx)
theorem turnN_take {xs : List Nat} {ps : List (Int × Int)} {k : Nat} {p : Int × Int} (h : ps[k]? = some p) : turnN xs (ps.take (k + 1)) = turn1 (turnN xs (ps.take k)) p := by
  unfold turnN
  rw [take_succ h, List.foldl_append]; rfl
/-- one line of a strip -/
def lineN (xs : List Nat) (y : Nat) : List Nat := xs.map fun c => if c / 2 ^ y % 2 = 1 then 35 else 46
def drawnN (h : Nat) (xs : List Nat) : List (List Nat) := (List.range h).map fun y => lineN xs y
/-- lines that draw a strip -/
def goodL (ls : List (List Nat)) : Prop := 1 ≤ ls.length ∧ ls.length ≤ 60 ∧ (∀ l ∈ ls, l.length = (ls.headD []).length) ∧ ∀ l ∈ ls, ∀ c ∈ l, c = 35 ∨ c = 46
/-- the sign at a place -/
def sgn (ls : List (List Nat)) (y x : Nat) : Nat := (ls[y]?.getD [])[x]?.getD 0
/-- the column of the first k lines' signs at place x -/
def colTo (ls : List (List Nat)) (k x : Nat) : Nat := colN ((List.range k).filter fun y => sgn ls y x = 35)
def undrawnN (ls : List (List Nat)) : List Nat := (List.range (ls.headD []).length).map (colTo ls ls.length)
theorem colN_snoc (ls : List Nat) (k : Nat) : colN (ls ++ [k]) = colN ls ||| 2 ^ k := by unfold colN; rw [List.foldl_append]; rfl
theorem colTo_succ (ls : List (List Nat)) (k x : Nat) : colTo ls (k + 1) x = if sgn ls k x = 35 then colTo ls k x ||| 2 ^ k else colTo ls k x := by
  unfold colTo
  rw [List.range_succ, List.filter_append]
  split
  · rename_i h
    rw [List.filter_cons_of_pos (by simp [h]), List.filter_nil, colN_snoc]
  · rename_i h
    rw [List.filter_cons_of_neg (by simp [h]), List.filter_nil, List.append_nil]
theorem colTo_zero (ls : List (List Nat)) (x : Nat) : colTo ls 0 x = 0 := by unfold colTo; rfl
theorem colTo_lt (ls : List (List Nat)) (k x : Nat) : colTo ls k x < 2 ^ k := by
  induction k with
  | zero => rw [colTo_zero]; decide
  | succ k ih =>
    rw [colTo_succ]
    split
    · exact Nat.or_lt_two_pow (Nat.lt_trans ih (Nat.pow_lt_pow_right (by decide) (by omega))) (Nat.pow_lt_pow_right (by decide) (by omega))
    · exact Nat.lt_trans ih (Nat.pow_lt_pow_right (by decide) (by omega))
theorem undrawn_drawn {h : Nat} {xs : List Nat} (h1 : 1 ≤ h) (hx : ∀ x ∈ xs, x < 2 ^ h) : undrawnN (drawnN h xs) = xs := by
  have e0 : (drawnN h xs).headD [] = lineN xs 0 := by
    unfold drawnN
    cases h with
    | zero => omega
    | succ h => rw [List.range_succ_eq_map]; rfl
  have el : (drawnN h xs).length = h := by unfold drawnN; simp
  unfold undrawnN
  rw [e0, el]
  apply List.ext_getElem
  · simp [lineN]
  intro i h2 h3
  rw [List.getElem_map, List.getElem_range]
  apply Nat.eq_of_testBit_eq
  intro j
  unfold colTo
  rw [colN_bit]
  have hlt := hx _ (List.getElem_mem h3)
  by_cases hj : j < h
  · have : sgn (drawnN h xs) j i = if xs[i] / 2 ^ j % 2 = 1 then 35 else 46 := by
      unfold sgn drawnN
      simp [hj, lineN, h3]
    simp only [List.mem_filter, List.mem_range, decide_eq_true_eq, this]
    rw [testBit_at]
    by_cases e : xs[i] / 2 ^ j % 2 = 1
    · simp [hj, e, bitAt]
    · simp [hj, e, bitAt]
  · have hz : xs[i].testBit j = false := Nat.testBit_lt_two_pow (Nat.lt_of_lt_of_le hlt (Nat.pow_le_pow_right (by decide) (by omega)))
    rw [hz]
    simp [hj]
theorem good_drawn {h : Nat} {xs : List Nat} (h1 : 1 ≤ h) (h60 : h ≤ 60) : goodL (drawnN h xs) := by
  refine ⟨by simp [drawnN]; exact h1, by simp [drawnN]; exact h60, ?_, ?_⟩
  · intro l m
    have e0 : (drawnN h xs).headD [] = lineN xs 0 := by
      unfold drawnN
      cases h with
      | zero => omega
      | succ h => rw [List.range_succ_eq_map]; rfl
    rw [e0]
    unfold drawnN at m
    obtain ⟨y, _, rfl⟩ := List.mem_map.mp m
    simp [lineN]
  · intro l m c mc
    unfold drawnN at m
    obtain ⟨y, _, rfl⟩ := List.mem_map.mp m
    unfold lineN at mc
    obtain ⟨x, _, rfl⟩ := List.mem_map.mp mc
    split
    · exact .inl rfl
    · exact .inr rfl
theorem not_good_len {ls : List (List Nat)} {i j : Nat} {a b : List Nat} (h1 : ls[i]? = some a) (h2 : ls[j]? = some b) (h : a.length ≠ b.length) : ¬ goodL ls := fun g => h (by rw [g.2.2.1 a (List.mem_of_getElem? h1), g.2.2.1 b (List.mem_of_getElem? h2)])
theorem not_good_sign {ls : List (List Nat)} {l : List Nat} {c : Nat} (h1 : l ∈ ls) (h2 : c ∈ l) (h : c ≠ 35) (h' : c ≠ 46) : ¬ goodL ls := fun g => (g.2.2.2 l h1 c h2).elim h h'
theorem not_good_many {ls : List (List Nat)} (h : 60 < ls.length) : ¬ goodL ls := fun g => by have := g.2.1; omega
theorem not_good_nil : ¬ goodL [] := fun g => by have := g.1; simp at this
end DL

set_option Elab.async false
set_option linter.all false
set_option maxRecDepth 100000
set_option maxHeartbeats 1000000
/-! ME: kinds of things: whole numbers, heights, signs, columns; the menu of signs. -/
namespace DL
open PySem L2 PyProof.Rows
def wholeB : D → Bool
  | .int _ => true
  | _ => false
def heightB : D → Bool
  | .int i => decide (1 ≤ i ∧ i ≤ 60)
  | _ => false
def colB (h : Nat) : D → Bool
  | .int i => decide (0 ≤ i ∧ i < ((2 ^ h : Nat) : Int))
  | _ => false
def okSg (c : Nat) : Prop := 32 ≤ c ∧ c ≤ 126 ∧ c ≠ 37
instance (c : Nat) : Decidable (okSg c) := by unfold okSg; infer_instance
def sgOf : List Nat → Bool
  | [c] => decide (okSg c)
  | _ => false
def signB : D → Bool
  | .str x => sgOf x.cps.toList
  | _ => false
theorem signB_tS (cs : List Nat) : signB (.str (tS cs)) = sgOf cs := by unfold signB; simp only [tS_cps]
theorem sgOf_one (c : Nat) : sgOf [c] = decide (okSg c) := rfl
theorem sgOf_len {cs : List Nat} (h : cs.length ≠ 1) : sgOf cs = false := by
  match cs, h with
  | [], _ => rfl
  | [_], h => exact absurd rfl h
  | _ :: _ :: _, _ => rfl
/-- texts of a handy length -/
def txtOk : D → Prop
  | .str x => x.length ≤ 16777216
  | _ => True
theorem txtOk_tS (cs : List Nat) : txtOk (.str (tS cs)) = (cs.length ≤ 16777216) := by show ((tS cs).length ≤ 16777216) = _; rw [tS_len]
theorem txtOk_int (i : Int) : txtOk (.int i) = True := rfl
theorem txtOk_none : txtOk .none = True := rfl
theorem txtOk_bool (i : Bool) : txtOk (.bool i) = True := rfl
theorem txtOk_list (i : List D) : txtOk (.list i) = True := rfl
theorem txtOk_tuple (i : List D) : txtOk (.tuple i) = True := rfl
theorem txtOk_dict (i : List (D × D)) : txtOk (.dict i) = True := rfl
def menuA : List Nat := [32, 33, 34, 35, 36, 38, 39, 40, 41, 42, 43, 44, 45, 46, 47, 48, 49, 50, 51, 52, 53, 54, 55, 56, 57, 58, 59, 60, 61, 62, 63, 64, 65, 66, 67, 68, 69, 70, 71, 72, 73, 74, 75, 76, 77, 78, 79, 80, 81, 82, 83, 84, 85, 86, 87, 88, 89, 90, 91, 92, 93, 94, 95, 96, 97, 98, 99, 100, 101, 102, 103, 104, 105, 106, 107, 108, 109, 110, 111, 112, 113, 114, 115, 116, 117, 118, 119, 120, 121, 122, 123, 124, 125, 126]
theorem menu_len : menuA.length = 94 := by decide
theorem menu_ok : ∀ c ∈ menuA, okSg c := by decide
theorem menu_128 : ∀ c ∈ menuA, c < 128 := by decide
theorem menu_nodup : menuA.Nodup := by decide
theorem mem_menu {c : Nat} (h : okSg c) : c ∈ menuA := by
  unfold okSg at h
  have : ∀ c : Fin 127, 32 ≤ c.val → c.val ≠ 37 → c.val ∈ menuA := by decide
  exact this ⟨c, by omega⟩ h.1 h.2.2
theorem okSg_lt {c : Nat} (h : okSg c) : c < 128 := by unfold okSg at h; omega
theorem sgOf_iff (cs : List Nat) : sgOf cs = true ↔ ∃ c, cs = [c] ∧ okSg c := by
  match cs with
  | [] => simp [sgOf]
  | [c] => simp [sgOf]
  | _ :: _ :: _ => simp [sgOf]
theorem menu_pick {z : Int} {P : Nat → Prop} (h : ∀ c, okSg c → P c) : ∃ c, atI menuA (z % 94) = some c ∧ P c := pick_go (by decide) (by decide) fun c m => h c (menu_ok c m)
theorem menu_pickL {z : Int} {P : Nat → Prop} (h : ∀ c, okSg c → P c) : ∃ c, atI menuA (z % (menuA.length : Int)) = some c ∧ P c := pick_go rfl (by decide) fun c m => h c (menu_ok c m)
end DL

set_option Elab.async false
set_option linter.all false
set_option maxRecDepth 100000
set_option maxHeartbeats 1000000
/-! MD: dicts by keys of one kind; sorted lists. -/
namespace DL
open PySem L2 PyProof.Rows
--simp kD_inr, kD_inl
theorem kD_inr (x : Str) : kD (Sum.inr x) = .str x := rfl
theorem kD_inl (x : Int) : kD (Sum.inl x) = .int x := rfl
section
variable {κ β : Type} [DecidableEq κ] {kk : κ → Key} {enc : β → D}
def dG (kk : κ → Key) (enc : β → D) (ls : List (κ × β)) : List (D × D) := ls.map fun p => (kD (kk p.1), enc p.2)
theorem flK_dG (ls : List (κ × β)) : flK (dG kk enc ls) := flK_map fun p => flat_kD _
theorem dG_nil : dG kk enc [] = [] := rfl
theorem dG_len (ls : List (κ × β)) : (dG kk enc ls).length = ls.length := by simp [dG]
theorem dG_keys (ls : List (κ × β)) : (dG kk enc ls).map (·.1) = (ls.map (·.1)).map fun k => kD (kk k) := by simp [dG]
def lookG (ls : List (κ × β)) (k : κ) : Option β := (ls.find? fun p => decide (p.1 = k)).map (·.2)
theorem lookG_nil (k : κ) : lookG ([] : List (κ × β)) k = none := rfl
theorem lookG_cons (p : κ × β) (ls : List (κ × β)) (k : κ) : lookG (p :: ls) k = if p.1 = k then some p.2 else lookG ls k := by
  unfold lookG
  rw [List.find?_cons]
  by_cases h : p.1 = k
  · rw [if_pos h, decide_eq_true h]; rfl
  · rw [if_neg h, decide_eq_false h]
theorem lookG_mem : ∀ {ls : List (κ × β)} {k : κ} {b : β}, lookG ls k = some b → (k, b) ∈ ls
  | p :: ls, k, b, h => by
    rw [lookG_cons] at h
    by_cases e : p.1 = k
    · rw [if_pos e] at h
      cases h; subst e; exact List.mem_cons_self
    · rw [if_neg e] at h
      exact List.mem_cons_of_mem _ (lookG_mem h)
theorem lookG_none : ∀ {ls : List (κ × β)} {k : κ}, lookG ls k = none ↔ k ∉ ls.map (·.1)
  | [], k => by simp [lookG_nil]
  | p :: ls, k => by
    rw [lookG_cons]
    by_cases e : p.1 = k
    · subst e; simp
    · rw [if_neg e, lookG_none]
      simp only [List.map_cons, List.mem_cons, not_or]
      exact ⟨fun h => ⟨fun q => e q.symm, h⟩, fun h => h.2⟩
theorem lookG_some {ls : List (κ × β)} {k : κ} (h : k ∈ ls.map (·.1)) : ∃ b, lookG ls k = some b := by
  cases e : lookG ls k with
  | none => exact absurd h (lookG_none.mp e)
  | some b => exact ⟨b, rfl⟩
theorem lookG_isSome {ls : List (κ × β)} {k : κ} : (lookG ls k).isSome = decide (k ∈ ls.map (·.1)) := by
  rw [Bool.eq_iff_iff, decide_eq_true_eq, Option.isSome_iff_ne_none, ne_eq, lookG_none, Decidable.not_not]
theorem lookG_nodup : ∀ {ls : List (κ × β)} {k : κ} {b : β}, (ls.map (·.1)).Nodup → (k, b) ∈ ls → lookG ls k = some b
  | p :: ls, k, b, nd, m => by
    rw [lookG_cons]
    simp only [List.map_cons, List.nodup_cons] at nd
    rcases List.mem_cons.mp m with e | m
    · subst e; simp
    · have : p.1 ≠ k := fun e => nd.1 (e ▸ List.mem_map_of_mem (f := fun l : κ × β => l.1) m)
      rw [if_neg this]
      exact lookG_nodup nd.2 m
def putG (ls : List (κ × β)) (k : κ) (b : β) : List (κ × β) := if k ∈ ls.map (·.1) then ls.map (fun p => if p.1 = k then (p.1, b) else p) else ls ++ [(k, b)]
theorem putG_keys (ls : List (κ × β)) (k : κ) (b : β) : (putG ls k b).map (·.1) = if k ∈ ls.map (·.1) then ls.map (·.1) else ls.map (·.1) ++ [k] := by
  unfold putG
  split
  · rw [List.map_map]
    apply List.map_congr_left
    intro p _
    simp only [Function.comp]
    split <;> rfl
  · simp
theorem putG_nodup {ls : List (κ × β)} {k : κ} {b : β} (h : (ls.map (·.1)).Nodup) : ((putG ls k b).map (·.1)).Nodup := by
  rw [putG_keys]
  split
  · exact h
  · rename_i n
    exact List.nodup_append.mpr ⟨h, by simp, fun a m c m' e => by simp at m'; subst e m'; exact n m⟩
theorem putG_len (ls : List (κ × β)) (k : κ) (b : β) : (putG ls k b).length ≤ ls.length + 1 := by
  unfold putG
  split <;> simp
theorem putG_new {ls : List (κ × β)} {k : κ} {b : β} (h : k ∉ ls.map (·.1)) : putG ls k b = ls ++ [(k, b)] := by unfold putG; rw [if_neg h]
theorem mem_putG {ls : List (κ × β)} {k : κ} {b : β} {p : κ × β} (h : p ∈ putG ls k b) : p ∈ ls ∨ p = (k, b) := by
  unfold putG at h
  split at h
  · obtain ⟨q, m, e⟩ := List.mem_map.mp h
    split at e
    · rename_i z; right; rw [← e, z]
    · left; rw [← e]; exact m
  · rcases List.mem_append.mp h with h | h
    · exact .inl h
    · exact .inr (by simpa using h)
theorem mem_putG_keys {ls : List (κ × β)} {k j : κ} {b : β} : j ∈ (putG ls k b).map (·.1) ↔ j ∈ ls.map (·.1) ∨ j = k := by
  rw [putG_keys]
  split
  · rename_i h
    exact ⟨.inl, fun q => q.elim id fun e => e ▸ h⟩
  · rw [List.mem_append, List.mem_singleton]
theorem lookG_map_put {k : κ} {b : β} (j : κ) : ∀ ls : List (κ × β), lookG (ls.map (fun p => if p.1 = k then (p.1, b) else p)) j = if j = k then (if k ∈ ls.map (·.1) then some b else none) else lookG ls j
  | [] => by simp [lookG_nil]
  | p :: ls => by
    rw [List.map_cons, lookG_cons, lookG_cons, lookG_map_put j ls]
    by_cases h : p.1 = k
    · rw [if_pos h]
      by_cases e : j = k
      · subst e; simp [h]
      · have e2 : ¬ p.1 = j := fun q => e (q.symm.trans h)
        have e3 : ¬ k = j := fun q => e q.symm
        simp [e, e2, h, e3]
    · rw [if_neg h]
      by_cases e : j = k
      · subst e
        have e4 : ¬ j = p.1 := fun q => h q.symm
        simp only [if_neg h, if_true, List.map_cons, List.mem_cons, e4, false_or]
      · simp [e]
theorem lookG_app (a b : List (κ × β)) (j : κ) : lookG (a ++ b) j = (lookG a j).or (lookG b j) := by
  induction a with
  | nil => rfl
  | cons p r ih =>
    rw [List.cons_append, lookG_cons, lookG_cons, ih]
    split <;> rfl
theorem lookG_put (ls : List (κ × β)) (k j : κ) (b : β) : lookG (putG ls k b) j = if j = k then some b else lookG ls j := by
  unfold putG
  split
  · rename_i h
    rw [lookG_map_put, if_pos h]
  · rename_i h
    rw [lookG_app]
    by_cases e : j = k
    · subst e
      rw [lookG_none.mpr h, if_pos rfl, lookG_cons]; simp
    · have : ¬ k = j := fun q => e q.symm
      rw [if_neg e, lookG_cons, if_neg this, lookG_nil, Option.or_none]
theorem kk_keyD (k j : κ) (hk : ∀ a b, kk a = kk b → a = b) : (keyD (kD (kk k)) = some (kk j)) = (k = j) := by
  rw [keyD_kD, Option.some.injEq]
  exact propext ⟨hk k j, fun h => by rw [h]⟩
theorem lookK_dG (hk : ∀ a b, kk a = kk b → a = b) (k : κ) : ∀ ls : List (κ × β), lookK (dG kk enc ls) (kk k) = (lookG ls k).map enc
  | [] => rfl
  | p :: ls => by
    show lookK ((kD (kk p.1), enc p.2) :: dG kk enc ls) (kk k) = _
    rw [lookK_cons, lookG_cons, lookK_dG hk k ls]
    simp only [kk_keyD p.1 k hk]
    split <;> rfl
theorem putD_dG (hk : ∀ a b, kk a = kk b → a = b) (ls : List (κ × β)) (k : κ) (b : β) : putD (dG kk enc ls) (kk k) (enc b) = dG kk enc (putG ls k b) := by
  unfold putD putG
  rw [lookK_dG hk]
  have e : ((lookG ls k).map enc).isSome = decide (k ∈ ls.map (·.1)) := by rw [Option.isSome_map, lookG_isSome]
  rw [e]
  by_cases h : k ∈ ls.map (·.1)
  · rw [if_pos h, if_pos (decide_eq_true h)]
    unfold dG
    rw [List.map_map, List.map_map]
    apply List.map_congr_left
    intro p _
    simp only [Function.comp, kk_keyD p.1 k hk]
    split <;> rfl
  · rw [if_neg h, if_neg (by simpa using h)]
    simp [dG]
/-- pairs laid one behind the other -/
def mergeG (acc : List (κ × β)) (ls : List (κ × β)) : List (κ × β) := ls.foldl (fun a p => putG a p.1 p.2) acc
theorem mergeD_dG (hk : ∀ a b, kk a = kk b → a = b) : ∀ (ls acc : List (κ × β)), mergeD (dG kk enc acc) (ls.map fun p => (kk p.1, enc p.2)) = dG kk enc (mergeG acc ls)
  | [], acc => rfl
  | p :: ls, acc => by
    show mergeD (putD (dG kk enc acc) (kk p.1) (enc p.2)) (ls.map fun p => (kk p.1, enc p.2)) = _
    rw [putD_dG hk, mergeD_dG hk ls]; rfl
theorem mergeG_nodup : ∀ (ls acc : List (κ × β)), ((acc ++ ls).map (·.1)).Nodup → mergeG acc ls = acc ++ ls
  | [], acc, _ => by simp [mergeG]
  | p :: ls, acc, h => by
    have hp : p.1 ∉ acc.map (·.1) := by
      rw [List.map_append, List.map_cons] at h
      have := (List.nodup_append.mp h).2.2
      exact fun m => this _ m _ (List.mem_cons_self ..) rfl
    show mergeG (putG acc p.1 p.2) ls = _
    rw [putG_new hp, mergeG_nodup ls (acc ++ [p]) (by rw [List.append_assoc]; exact h), List.append_assoc]; rfl
end
/-- keys: a sign, a text, a number -/
def kO (s : Nat) : Key := Sum.inr (tS [s])
def kT (l : List Nat) : Key := Sum.inr (tS l)
def kN (n : Nat) : Key := Sum.inl (n : Int)
theorem kO_inj (a b : Nat) (h : kO a = kO b) : a = b := by
  have h : Sum.inr (tS [a]) = (Sum.inr (tS [b]) : Key) := h
  have := Sum.inr.inj h
  rw [tS_iff] at this
  simpa using this
theorem kT_inj (a b : List Nat) (h : kT a = kT b) : a = b := by
  have h : Sum.inr (tS a) = (Sum.inr (tS b) : Key) := h
  have := Sum.inr.inj h
  rwa [tS_iff] at this
theorem kN_inj (a b : Nat) (h : kN a = kN b) : a = b := by
  have h : Sum.inl (a : Int) = (Sum.inl (b : Int) : Key) := h
  have := Sum.inl.inj h
  omega
theorem len_subset {α : Type} [DecidableEq α] : ∀ {a b : List α}, a.Nodup → (∀ x ∈ a, x ∈ b) → a.length ≤ b.length
  | [], _, _, _ => by simp
  | x :: a, b, nd, h => by
    obtain ⟨n1, n2⟩ := List.nodup_cons.mp nd
    have hx := h x (List.mem_cons_self ..)
    have := len_subset (a := a) (b := b.erase x) n2 fun y m => (List.mem_erase_of_ne (show y ≠ x from fun e => n1 (by rw [← e]; exact m))).mpr (h y (List.mem_cons_of_mem _ m))
    rw [List.length_erase_of_mem hx] at this
    have := List.length_pos_of_mem hx
    rw [List.length_cons]; omega
/-! ### sorted -/
theorem pairwise_rising : ∀ (l : List Str) (p : Str), risingS p l = true → (p :: l).Pairwise fun a b => ¬ b.cps.toList < a.cps.toList
  | [], p, _ => by simp
  | x :: r, p, h => by
    rw [risingS, Bool.and_eq_true] at h
    have ih := pairwise_rising r x h.2
    have hx : ¬ x.cps.toList < p.cps.toList := by
      have := h.1
      rw [ltCps_eq] at this
      simpa using this
    refine List.pairwise_cons.mpr ⟨fun y m => ?_, ih⟩
    rcases List.mem_cons.mp m with e | m
    · subst e; exact hx
    · have hy := (List.pairwise_cons.mp ih).1 y m
      intro q
      have h1 : p.cps.toList ≤ x.cps.toList := List.not_lt.mp hx
      have h2 : x.cps.toList ≤ y.cps.toList := List.not_lt.mp hy
      exact absurd q (List.not_lt.mpr (List.le_trans h1 h2))
theorem pairwise_sortedS : ∀ {l : List Str}, sortedS l = true → l.Pairwise fun a b => ¬ b.cps.toList < a.cps.toList
  | [], _ => .nil
  | x :: r, h => pairwise_rising r x h
theorem ordS_texts {ls : List (List Nat)} {ys : List Str} (h : ordS (ls.map tS) ys) : ∃ rs : List (List Nat), ys = rs.map tS ∧ rs.Perm ls ∧ rs.Pairwise fun a b => ¬ b < a := by
  refine ⟨ys.map fun y => y.cps.toList, ?_, ?_, ?_⟩
  · rw [List.map_map]
    conv => lhs; rw [← List.map_id ys]
    apply List.map_congr_left
    intro y _
    exact tS_of y
  · have := h.1.map fun y : Str => y.cps.toList
    rw [List.map_map] at this
    have e : (fun y : Str => y.cps.toList) ∘ tS = id := by funext l; exact tS_cps l
    rwa [e, List.map_id] at this
  · exact List.pairwise_map.mpr (pairwise_sortedS h.2)
theorem ordS_ones {ss : List Nat} {ys : List Str} (h : ordS (ss.map fun s => tS [s]) ys) : ∃ rs : List Nat, ys = rs.map (fun s => tS [s]) ∧ rs.Perm ss ∧ rs.Pairwise (· ≤ ·) := by
  have e0 : (ss.map fun s => tS [s]) = (ss.map fun s => [s]).map tS := by rw [List.map_map]; rfl
  rw [e0] at h
  obtain ⟨rs, e, p, o⟩ := ordS_texts h
  have hone : ∀ r ∈ rs, ∃ s, r = [s] := fun r m => by
    obtain ⟨s, _, q⟩ := List.mem_map.mp (p.mem_iff.mp m)
    exact ⟨s, q.symm⟩
  have e1 : (rs.map fun r => r.headD 0).map (fun s => [s]) = rs := by
    rw [List.map_map]
    conv => rhs; rw [← List.map_id rs]
    apply List.map_congr_left
    intro r m
    obtain ⟨s, rfl⟩ := hone r m
    rfl
  refine ⟨rs.map fun r => r.headD 0, ?_, ?_, ?_⟩
  · rw [e]
    conv => lhs; rw [← e1]
    rw [List.map_map]; rfl
  · have := p.map fun r : List Nat => r.headD 0
    rw [List.map_map] at this
    have e2 : ((fun r : List Nat => r.headD 0) ∘ fun s => [s]) = id := by funext s; rfl
    rwa [e2, List.map_id] at this
  · rw [← e1, List.pairwise_map] at o
    exact o.imp fun {a b} h => by
      by_cases q : b < a
      · exact absurd (List.Lex.rel q) h
      · omega
theorem asc_of_nodup {l : List Nat} (h : l.Pairwise (· ≤ ·)) (n : l.Nodup) : l.Pairwise (· < ·) := (h.and n).imp fun x => Nat.lt_of_le_of_ne x.1 x.2
theorem ordI_nats {ss : List Nat} {ms : List Int} (h : ordI (ss.map fun (n : Nat) => (n : Int)) ms) : ∃ rs : List Nat, ms = rs.map (fun (n : Nat) => (n : Int)) ∧ rs.Perm ss ∧ rs.Pairwise (· ≤ ·) := by
  have hnn : ∀ m ∈ ms, 0 ≤ m := fun m q => by
    obtain ⟨n, _, e⟩ := List.mem_map.mp (h.1.mem_iff.mp q)
    omega
  have e1 : (ms.map Int.toNat).map (fun (n : Nat) => (n : Int)) = ms := by
    rw [List.map_map]
    conv => rhs; rw [← List.map_id ms]
    apply List.map_congr_left
    intro m q
    exact Int.toNat_of_nonneg (hnn m q)
  refine ⟨ms.map Int.toNat, e1.symm, ?_, ?_⟩
  · have := h.1.map Int.toNat
    rw [List.map_map] at this
    have e2 : (Int.toNat ∘ fun n : Nat => (n : Int)) = id := by funext n; simp
    rwa [e2, List.map_id] at this
  · have o := h.2
    rw [← e1, List.pairwise_map] at o
    exact o.imp fun {a b} h => by omega
/-- sorted lists of the same things are the same -/
theorem asc_unique : ∀ {a b : List Nat}, a.Perm b → a.Pairwise (· ≤ ·) → b.Pairwise (· ≤ ·) → a = b := fun {a b} p ha hb => p.eq_of_pairwise (fun x y _ _ h g => Nat.le_antisymm h g) ha hb
end DL

set_option Elab.async false
set_option linter.all false
set_option maxRecDepth 100000
set_option maxHeartbeats 1000000
/-! MDN: dicts keyed by tuples, as rows of pairs. -/
namespace DL
open PySem L2 PyProof.Rows
section
variable {κ β : Type} [DecidableEq κ] {kk : κ → D} {enc : β → D}
def dN (kk : κ → D) (enc : β → D) (ls : List (κ × β)) : List (D × D) := ls.map fun p => (kk p.1, enc p.2)
theorem dN_nil : dN kk enc [] = [] := rfl
theorem dN_len (ls : List (κ × β)) : (dN kk enc ls).length = ls.length := by simp [dN]
theorem dN_keys (ls : List (κ × β)) : (dN kk enc ls).map (·.1) = (ls.map (·.1)).map kk := by simp [dN]
theorem ndK_dN (hk : ∀ k, flatD (kk k) = false) (ls : List (κ × β)) : ndK (dN kk enc ls) := ndK_map fun p => hk _
theorem lookN_dN (inj : ∀ a b, kk a = kk b → a = b) (k : κ) : ∀ ls : List (κ × β), lookN (dN kk enc ls) (kk k) = (lookG ls k).map enc
  | [] => rfl
  | p :: ls => by
    show lookN ((kk p.1, enc p.2) :: dN kk enc ls) (kk k) = _
    rw [lookN_cons, lookG_cons, lookN_dN inj k ls]
    by_cases h : p.1 = k
    · rw [if_pos h, if_pos (congrArg kk h)]; rfl
    · rw [if_neg h, if_neg fun e => h (inj _ _ e)]
theorem putN_dN (inj : ∀ a b, kk a = kk b → a = b) (ls : List (κ × β)) (k : κ) (b : β) : putN (dN kk enc ls) (kk k) (enc b) = dN kk enc (putG ls k b) := by
  unfold putN putG
  rw [lookN_dN inj, Option.isSome_map, lookG_isSome]
  by_cases h : k ∈ ls.map (·.1)
  · rw [if_pos h, if_pos (by simpa using h)]
    unfold dN
    rw [List.map_map, List.map_map]
    refine List.map_congr_left fun p _ => ?_
    by_cases e : p.1 = k
    · simp [e]
    · have : ¬ kk p.1 = kk k := fun q => e (inj _ _ q)
      simp [e, this]
  · rw [if_neg h, if_neg (by simpa using h)]
    unfold dN
    rw [List.map_append]; rfl
end
theorem pD_inj (a b : Nat × Nat) (h : pD a = pD b) : a = b := by
  simp [pD] at h
  exact Prod.ext (by omega) (by omega)
theorem pD_nf (a : Nat × Nat) : flatD (pD a) = false := rfl
theorem okD_pD (a : Nat × Nat) : okD (pD a) := okD_2 _ _
end DL

set_option Elab.async false
set_option linter.all false
set_option maxRecDepth 100000
set_option maxHeartbeats 1000000
/-! M3A: spots in order; strips turned over at spots, by a table. -/
namespace DL
open PySem L2 PyProof.Rows
def ltP (p q : Nat × Nat) : Prop := p.1 < q.1 ∨ (p.1 = q.1 ∧ p.2 < q.2)
theorem spotsN_mem : ∀ {xs ys : List Nat} {k : Nat} {p : Nat × Nat}, p ∈ spotsN k xs ys → ∃ i, p.1 = k + i ∧ i < xs.length ∧ i < ys.length ∧ p.2 ∈ linesN (xs.getD i 0 ^^^ ys.getD i 0) 0
  | [], _, k, p, m => by simp [spotsN] at m
  | _ :: _, [], k, p, m => by simp [spotsN] at m
  | x :: xs, y :: ys, k, p, m => by
    rw [spotsN, List.mem_append] at m
    rcases m with m | m
    · obtain ⟨l, ml, rfl⟩ := List.mem_map.mp m
      exact ⟨0, rfl, by simp, by simp, by simpa using ml⟩
    · obtain ⟨i, e, h1, h2, h3⟩ := spotsN_mem m
      exact ⟨i + 1, by omega, by simpa using h1, by simpa using h2, by simpa using h3⟩
theorem linesN_sorted {h n : Nat} (hn : n < 2 ^ h) : (linesN n 0).Pairwise (· < ·) := by
  have e := linesN_range h n 0 hn
  simp only [Nat.add_zero, List.map_id'] at e
  rw [e]
  exact List.pairwise_lt_range.filter _
theorem spotsN_sorted {h : Nat} : ∀ {xs ys : List Nat} (k : Nat), (∀ x ∈ xs, x < 2 ^ h) → (∀ y ∈ ys, y < 2 ^ h) → (spotsN k xs ys).Pairwise ltP
  | [], _, k, _, _ => by simp [spotsN]
  | _ :: _, [], k, _, _ => by simp [spotsN]
  | x :: xs, y :: ys, k, hx, hy => by
    rw [spotsN]
    refine List.pairwise_append.mpr ⟨?_, spotsN_sorted (k + 1) (fun z m => hx z (List.mem_cons_of_mem _ m)) (fun z m => hy z (List.mem_cons_of_mem _ m)), ?_⟩
    · refine List.pairwise_map.mpr ((linesN_sorted (Nat.xor_lt_two_pow (hx x (List.mem_cons_self ..)) (hy y (List.mem_cons_self ..)))).imp fun h => .inr ⟨rfl, h⟩)
    · intro p mp q mq
      obtain ⟨l, _, rfl⟩ := List.mem_map.mp mp
      obtain ⟨i, e, _⟩ := spotsN_mem mq
      exact .inl (by simp only; omega)
theorem pair_step {ps : List (Nat × Nat)} (h : ps.Pairwise ltP) {i : Nat} {p q : Nat × Nat} (h1 : ps[i]? = some p) (h2 : ps[i + 1]? = some q) : ltP p q := by
  obtain ⟨l1, e1⟩ := List.getElem?_eq_some_iff.mp h1
  obtain ⟨l2, e2⟩ := List.getElem?_eq_some_iff.mp h2
  have := List.pairwise_iff_getElem.mp h i (i + 1) l1 l2 (by omega)
  rwa [e1, e2] at this
theorem spots_ok {h : Nat} {xs ys : List Nat} (hl : xs.length = ys.length) (hx : ∀ x ∈ xs, x < 2 ^ h) (hy : ∀ y ∈ ys, y < 2 ^ h) {p : Nat × Nat} (m : p ∈ spotsN 0 xs ys) :
    p.1 < xs.length ∧ p.2 < h ∧ (xs.getD p.1 0 / 2 ^ p.2 % 2 ≠ ys.getD p.1 0 / 2 ^ p.2 % 2) := by
  obtain ⟨i, e, h1, h2, h3⟩ := spotsN_mem m
  have e : p.1 = i := by omega
  rw [e]
  have g1 : xs.getD i 0 < 2 ^ h := by rw [List.getD_eq_getElem?_getD, List.getElem?_eq_getElem h1]; exact hx _ (List.getElem_mem h1)
  have g2 : ys.getD i 0 < 2 ^ h := by rw [List.getD_eq_getElem?_getD, List.getElem?_eq_getElem h2]; exact hy _ (List.getElem_mem h2)
  have hb := (linesN_mem (Nat.xor_lt_two_pow g1 g2) p.2).mp h3
  refine ⟨h1, linesN_lt (Nat.xor_lt_two_pow g1 g2) h3, fun q => ?_⟩
  rw [testBit_at, bitAt_xor] at hb
  have : bitAt (xs.getD i 0) p.2 = bitAt (ys.getD i 0) p.2 := by unfold bitAt; rw [q]
  rw [this] at hb
  simp at hb
theorem gapN_range {xs ys : List Nat} (h : xs.length = ys.length) : ((List.range xs.length).map fun k => apN (xs.getD k 0) (ys.getD k 0)).sum = gapN xs ys := by
  unfold gapN
  congr 1
  apply List.ext_getElem
  · simp [h]
  · intro i h1 h2
    simp at h1 h2
    have h3 : i < ys.length := by omega
    simp [List.getElem?_eq_getElem h1, List.getElem?_eq_getElem h3]
/-! ### turned spots, by their parity -/
theorem or_and (a : Nat) : ∀ b : Nat, (a ||| b) + (a &&& b) = a + b := by
  induction a using Nat.strongRecOn with
  | ind a ih =>
    intro b
    by_cases h0 : a = 0
    · subst h0; simp
    have h := ih (a / 2) (by omega) (b / 2)
    have e2 := Nat.div_add_mod (a &&& b) 2
    have e3 := Nat.div_add_mod (a ||| b) 2
    rw [and_div2, and_mod2] at e2
    rw [or_div2, or_mod2] at e3
    have ha : a % 2 = 0 ∨ a % 2 = 1 := by omega
    have hb : b % 2 = 0 ∨ b % 2 = 1 := by omega
    rcases ha with ha | ha <;> rcases hb with hb | hb <;> rw [ha, hb] at e2 e3 <;> simp at e2 e3 <;> omega
theorem and_bit (n y : Nat) : n &&& 2 ^ y = if n.testBit y = true then 2 ^ y else 0 := by
  refine Nat.eq_of_testBit_eq fun i => ?_
  rw [Nat.testBit_and, Nat.testBit_two_pow]
  by_cases e : y = i
  · subst e
    cases h : n.testBit y <;> simp
  · by_cases h : n.testBit y = true <;> simp [e, h, Nat.testBit_two_pow]
theorem xor_bit1 {n y : Nat} (h : n / 2 ^ y % 2 = 1) : 2 ^ y ≤ n ∧ n ^^^ 2 ^ y = n - 2 ^ y := by
  have h1 := or_and n (2 ^ y)
  have h2 := xor_and n (2 ^ y)
  have h3 : n &&& 2 ^ y = 2 ^ y := by
    rw [and_bit, testBit_at]
    unfold bitAt
    rw [h]; simp
  have h4 := @Nat.and_le_left n (2 ^ y)
  rw [h3] at h1 h2 h4
  exact ⟨h4, by omega⟩
theorem xor_bit0 {n y : Nat} (h : n / 2 ^ y % 2 ≠ 1) : n ^^^ 2 ^ y = n + 2 ^ y := by
  have h1 := or_and n (2 ^ y)
  have h2 := xor_and n (2 ^ y)
  have h3 : n &&& 2 ^ y = 0 := by
    rw [and_bit, testBit_at]
    unfold bitAt
    simp [h]
  omega
abbrev cPs (ps : List (Nat × Nat)) : List (Int × Int) := ps.map fun p => ((p.1 : Int), (p.2 : Int))
def bitX (c : List Nat) (q : Nat × Nat) : Bool := (c[q.1]?.getD 0).testBit q.2
def parB : List (Nat × Nat) → Nat × Nat → Bool
  | [], _ => false
  | p :: ps, q => Bool.xor (decide (p = q)) (parB ps q)
theorem bit_turn1 {c : List Nat} {p : Nat × Nat} (h : p.1 < c.length) (q : Nat × Nat) : bitX (turn1 c ((p.1 : Int), (p.2 : Int))) q = Bool.xor (bitX c q) (decide (p = q)) := by
  unfold bitX turn1
  simp only [Int.toNat_natCast]
  by_cases e : p.1 = q.1
  · rw [← e, List.getElem?_set_self h]
    simp only [Option.getD_some, Nat.testBit_xor, Nat.testBit_two_pow]
    by_cases e2 : p.2 = q.2
    · have : p = q := Prod.ext e e2
      subst this; simp
    · have : p ≠ q := fun z => e2 (by rw [z])
      simp [e2, this]
  · rw [List.getElem?_set_ne e]
    have : p ≠ q := fun z => e (by rw [z])
    simp [this]
theorem bit_turn : ∀ {ps : List (Nat × Nat)} {c : List Nat}, (∀ p ∈ ps, p.1 < c.length) → ∀ q, bitX (turnN c (cPs ps)) q = Bool.xor (bitX c q) (parB ps q)
  | [], c, _, q => by simp [turnN, parB]
  | p :: ps, c, h, q => by
    have := bit_turn (ps := ps) (c := turn1 c ((p.1 : Int), (p.2 : Int))) (fun r m => by rw [turn1_len]; exact h r (List.mem_cons_of_mem _ m)) q
    show bitX (turnN (turn1 c ((p.1 : Int), (p.2 : Int))) (cPs ps)) q = _
    rw [this, bit_turn1 (h p (List.mem_cons_self ..)), parB]
    cases bitX c q <;> cases decide (p = q) <;> cases parB ps q <;> rfl
theorem bits_ext {a b : List Nat} (hl : a.length = b.length) (h : ∀ q, q.1 < a.length → bitX a q = bitX b q) : a = b := by
  apply List.ext_getElem hl
  intro i h1 h2
  refine Nat.eq_of_testBit_eq fun y => ?_
  have := h (i, y) h1
  unfold bitX at this
  simpa [List.getElem?_eq_getElem h1, List.getElem?_eq_getElem h2] using this
theorem parB_app : ∀ (a b : List (Nat × Nat)) (q : Nat × Nat), parB (a ++ b) q = Bool.xor (parB a q) (parB b q)
  | [], b, q => by simp [parB]
  | p :: a, b, q => by rw [List.cons_append, parB, parB, parB_app a b q]; cases decide (p = q) <;> cases parB a q <;> cases parB b q <;> rfl
theorem parB_rev (a : List (Nat × Nat)) (q : Nat × Nat) : parB a.reverse q = parB a q := by
  induction a with
  | nil => rfl
  | cons p r ih => rw [List.reverse_cons, parB_app, ih, parB, parB, parB]; cases decide (p = q) <;> cases parB r q <;> rfl
theorem parB_not {a : List (Nat × Nat)} {q : Nat × Nat} (h : q ∉ a) : parB a q = false := by
  induction a with
  | nil => rfl
  | cons p r ih =>
    simp only [List.mem_cons, not_or] at h
    rw [parB, ih h.2, decide_eq_false (fun e => h.1 e.symm)]; rfl
theorem parB_nodup {a : List (Nat × Nat)} (n : a.Nodup) (q : Nat × Nat) : parB a q = decide (q ∈ a) := by
  induction a with
  | nil => simp [parB]
  | cons p r ih =>
    obtain ⟨n1, n2⟩ := List.nodup_cons.mp n
    rw [parB, ih n2]
    by_cases e : p = q
    · subst e; simp [n1]
    · have : q ≠ p := fun z => e z.symm
      simp [e, this]
/-- turned again at the same spots, in any order: as it was -/
theorem turn_back {ps : List (Nat × Nat)} {c : List Nat} (h : ∀ p ∈ ps, p.1 < c.length) : turnN (turnN c (cPs ps)) (cPs ps.reverse) = c := by
  refine bits_ext (by rw [turnN_len, turnN_len]) fun q hq => ?_
  rw [bit_turn (by rw [turnN_len]; exact fun p m => h p (List.mem_reverse.mp m)), bit_turn h, parB_rev]
  cases bitX c q <;> cases parB ps q <;> rfl
theorem turn_rev {ps : List (Nat × Nat)} {c : List Nat} (h : ∀ p ∈ ps, p.1 < c.length) : turnN c (cPs ps.reverse) = turnN c (cPs ps) := by
  refine bits_ext (by rw [turnN_len, turnN_len]) fun q hq => ?_
  rw [bit_turn (fun p m => h p (List.mem_reverse.mp m)), bit_turn h, parB_rev]
theorem spotsN_nodup {h : Nat} {xs ys : List Nat} (hx : ∀ x ∈ xs, x < 2 ^ h) (hy : ∀ y ∈ ys, y < 2 ^ h) : (spotsN 0 xs ys).Nodup := by
  refine (spotsN_sorted (h := h) 0 hx hy).imp fun {a b} q e => ?_
  subst e
  rcases q with q | ⟨_, q⟩ <;> omega
theorem mem_spotsN : ∀ {xs ys : List Nat} {k i l : Nat}, i < xs.length → i < ys.length → l ∈ linesN (xs.getD i 0 ^^^ ys.getD i 0) 0 → (k + i, l) ∈ spotsN k xs ys
  | [], _, _, _, _, h, _, _ => by simp at h
  | _ :: _, [], _, _, _, _, h, _ => by simp at h
  | x :: xs, y :: ys, k, 0, l, _, _, m => by
    rw [spotsN]
    exact List.mem_append_left _ (List.mem_map.mpr ⟨l, by simpa using m, rfl⟩)
  | x :: xs, y :: ys, k, i + 1, l, h1, h2, m => by
    rw [spotsN]
    have := mem_spotsN (k := k + 1) (i := i) (l := l) (xs := xs) (ys := ys) (by simpa using h1) (by simpa using h2) (by simpa using m)
    rw [show k + (i + 1) = k + 1 + i from by omega]
    exact List.mem_append_right _ this
/-- turned over at all spots in which they are unlike -/
theorem turn_spots {h : Nat} {xs ys : List Nat} (hl : xs.length = ys.length) (hx : ∀ x ∈ xs, x < 2 ^ h) (hy : ∀ y ∈ ys, y < 2 ^ h) : turnN xs (cPs (spotsN 0 xs ys)) = ys := by
  refine bits_ext (by rw [turnN_len, hl]) fun q hq => ?_
  rw [turnN_len] at hq
  rw [bit_turn (fun p m => (spots_ok hl hx hy m).1), parB_nodup (spotsN_nodup hx hy)]
  have g1 : xs.getD q.1 0 < 2 ^ h := by rw [List.getD_eq_getElem?_getD, List.getElem?_eq_getElem hq]; exact hx _ (List.getElem_mem hq)
  have g2 : ys.getD q.1 0 < 2 ^ h := by rw [List.getD_eq_getElem?_getD, List.getElem?_eq_getElem (by omega)]; exact hy _ (List.getElem_mem (by omega))
  have key : q ∈ spotsN 0 xs ys ↔ (xs.getD q.1 0 ^^^ ys.getD q.1 0).testBit q.2 = true := by
    rw [← linesN_mem (Nat.xor_lt_two_pow g1 g2)]
    constructor
    · intro m
      obtain ⟨i, e, h1, h2, h3⟩ := spotsN_mem m
      have : q.1 = i := by omega
      rw [this]; exact h3
    · intro m
      have := mem_spotsN (k := 0) (i := q.1) (l := q.2) hq (by omega) m
      simpa using this
  have : decide (q ∈ spotsN 0 xs ys) = (xs.getD q.1 0 ^^^ ys.getD q.1 0).testBit q.2 := by
    rw [Bool.eq_iff_iff, decide_eq_true_eq]; exact key
  rw [this, Nat.testBit_xor]
  unfold bitX
  rw [List.getD_eq_getElem?_getD, List.getD_eq_getElem?_getD]
  cases (xs[q.1]?.getD 0).testBit q.2 <;> cases (ys[q.1]?.getD 0).testBit q.2 <;> rfl
/-! ### the table -/
def tabG (ps : List (Nat × Nat)) : List ((Nat × Nat) × Nat) := ps.foldl (fun t p => putG t p (1 - (lookG t p).getD 0)) []
theorem tabG_snoc (ps : List (Nat × Nat)) (p : Nat × Nat) : tabG (ps ++ [p]) = putG (tabG ps) p (1 - (lookG (tabG ps) p).getD 0) := by
  unfold tabG; rw [List.foldl_append]; rfl
theorem tabG_ok (n : Nat) : ∀ ps : List (Nat × Nat), ps.length = n → ((tabG ps).map (·.1)).Nodup ∧ (tabG ps).length ≤ n ∧ (∀ q, (lookG (tabG ps) q).getD 0 = if parB ps q then 1 else 0) ∧ ∀ e ∈ tabG ps, e.1 ∈ ps := by
  induction n with
  | zero => intro ps h; rw [List.length_eq_zero_iff.mp h]; simp [tabG, lookG_nil, parB]
  | succ n ih =>
    intro ps h
    obtain ⟨r, p, rfl⟩ : ∃ r p, ps = r ++ [p] := ⟨ps.dropLast, ps.getLast (by intro e; rw [e] at h; simp at h), (List.dropLast_concat_getLast _).symm⟩
    obtain ⟨h1, h2, h3, h4⟩ := ih r (by simpa using h)
    rw [tabG_snoc]
    refine ⟨putG_nodup h1, Nat.le_trans (putG_len ..) (by omega), fun q => ?_, fun e m => ?_⟩
    · rw [lookG_put, parB_app, parB, parB]
      by_cases e : q = p
      · subst e
        rw [if_pos rfl, h3]
        cases parB r q <;> simp
      · have : ¬ p = q := fun z => e z.symm
        rw [if_neg e, h3]
        cases parB r q <;> simp [this]
    · rcases mem_putG m with m | m
      · exact List.mem_append_left _ (h4 e m)
      · rw [m]; simp
/-- turned at what the table tells to turn -/
def onesG (t : List ((Nat × Nat) × Nat)) : List (Nat × Nat) := (t.filter fun e => e.2 = 1).map (·.1)
theorem turn_table {ps : List (Nat × Nat)} {c : List Nat} (h : ∀ p ∈ ps, p.1 < c.length) : turnN c (cPs (onesG (tabG ps))) = turnN c (cPs ps) := by
  obtain ⟨h1, _, h3, h4⟩ := tabG_ok _ ps rfl
  have hm : ∀ q, q ∈ onesG (tabG ps) ↔ parB ps q = true := fun q => by
    unfold onesG
    rw [List.mem_map]
    constructor
    · rintro ⟨e, m, rfl⟩
      rw [List.mem_filter] at m
      have := lookG_nodup h1 m.1
      have h5 := h3 e.1
      rw [this] at h5
      have h6 : e.2 = 1 := by simpa using m.2
      cases z : parB ps e.1 with
      | true => rfl
      | false => rw [z] at h5; simp at h5; omega
    · intro z
      have h5 := h3 q
      rw [z] at h5
      cases y : lookG (tabG ps) q with
      | none => rw [y] at h5; simp at h5
      | some v =>
        rw [y] at h5
        exact ⟨(q, v), List.mem_filter.mpr ⟨lookG_mem y, by simpa using h5⟩, rfl⟩
  have nd : (onesG (tabG ps)).Nodup := by
    unfold onesG
    exact List.Nodup.sublist (List.Sublist.map _ List.filter_sublist) h1
  refine bits_ext (by rw [turnN_len, turnN_len]) fun q hq => ?_
  rw [bit_turn h, bit_turn (fun p m => h p (by
    have := (hm p).mp m
    exact Classical.byContradiction fun n => by rw [parB_not n] at this; cases this)), parB_nodup nd]
  congr 1
  rw [Bool.eq_iff_iff, decide_eq_true_eq]
  exact hm q
theorem cPs_zL (ps : List (Nat × Nat)) : pL ps = zL (cPs ps) := by
  show ps.map pD = (ps.map _).map _
  rw [List.map_map]; rfl
theorem onesG_take {t : List ((Nat × Nat) × Nat)} {k : Nat} {e : (Nat × Nat) × Nat} (h : t[k]? = some e) : onesG (t.take (k + 1)) = if e.2 = 1 then onesG (t.take k) ++ [e.1] else onesG (t.take k) := by
  unfold onesG
  rw [List.take_add_one, h, Option.toList_some, List.filter_append, List.map_append]
  by_cases q : e.2 = 1
  · simp [q]
  · simp [q]
theorem turnN_snoc (xs : List Nat) (ps : List (Nat × Nat)) (p : Nat × Nat) : turnN xs (cPs (ps ++ [p])) = turn1 (turnN xs (cPs ps)) ((p.1 : Int), (p.2 : Int)) := by
  unfold turnN cPs; rw [List.map_append, List.foldl_append]; rfl
theorem turn1_at {c : List Nat} {p : Nat × Nat} (h : p.1 < c.length) : turn1 c ((p.1 : Int), (p.2 : Int)) = c.set p.1 (c[p.1] ^^^ 2 ^ p.2) := by
  unfold turn1
  simp only [Int.toNat_natCast, List.getElem?_eq_getElem h, Option.getD_some]
end DL

namespace DL.L
open PySem L2 PyProof.Rows
def top (i : Nat) : Stmt := PySem.Challenge.pw_blotsure_k04_spots_lead_there.main.body.getD i (.Pass ⟨0, 0, 0, 0⟩)
local macro_rules | `(tactic| walk_at "x") => `(tactic| fail)
local macro_rules | `(tactic| walk_at "sh") => `(tactic| repeat (first | exact sh_int _ _ | exact sh_bool _ _ | exact sh_none _ | assumption | exact (sh_nL _).mono (by decide) | exact okT.sh (by assumption) _ | exact (sh_iL _).mono (by decide) | refine sh_list ?_ | refine sh_tuple ?_ | refine (List.forall_mem_cons).mpr (And.intro ?_ ?_) | exact List.forall_mem_nil _ | refine List.forall_mem_map.mpr ?_ | intro _))
local macro_rules | `(tactic| walk_at "s") => `(tactic| (with_reducible refine wSq_of ?_))
local macro_rules | `(tactic| walk_at "e") => `(tactic| simp only [wLet, wAsg, wRet, wRetN, wAug, wApp, wExt, wIns, wExp, wPass, wBrk, wCnt, wFrz, wIf, wRaise, wNil, wVar, wC, w2, bI_int, wtv, c2, cEq, cNe, cEqS, isN, wChain, wtAnd, wtOr, wtNot, wAndV, wOrV, wNotV, wIfE, wTru, wIx, ixR_v, ixR_t, ixR_bl, ixR_bd, ixR_bls, wSl, woN, woE, wRev, wNeg, waN, waC, wTup, wLst, wDic0, wB, f1_one, f1s_one, f2_two, wIsi, isiB, wCall, wiL, wiLB, wiT, wiA, wiAB, walkA_l, walkA_t, walkA_s, walkA_n, walkAB_l, walkAB_t, walkAB_s, walkAB_n, walkAB_b, oR_f, oR_l, oR_d, oR_ls, wiR1, wiR2, Int.toNat_natCast, rgD_0, bxor_nat, bor_nat, shl_nat, shr_nat, shl_nat2, shr_nat2, band1_nat, atI_c0, atI_c1, atI_c2, atI_c3, atI_c4, atI_snoc, atI_msnoc, List.length_map, Int.reduceAdd, Int.reduceSub, Int.reduceMul, Int.reduceDiv, Int.reduceMod, Int.reduceNeg, Int.reduceToNat, Nat.reduceAdd, Nat.reduceSub, Nat.reduceMul, nL_snoc, nL_set, okEq_nL, eqv_nL, okEq_iL, eqv_iL, okEq_nL0, eqv_nilL, eqv_nilT, isEmpty_map, true_imp_iff, false_imp_iff, ne_eq, not_true_eq_false, not_false_eq_true, nL_iff, iL_iff, zL_iff, pL_iff, sL_iff, sL_snoc, nat_iff, gN, gT_t, gsC_c, gsN_n, R.d_v, R.d_t, R.d_b, decide_true, decide_false, Bool.not_eq_true, R.sh_v, R.sh_t, R.sh_bf, R.sh_bl, R.sh_bd, R.st_v, R.st_t, R.o_v, R.o_t, R.out_v, R.out_t, R.out_b, R.free_v, R.free_t, noL_int, noL_str, noL_bool, noL_none, noL_tuple, noLs_nil, noLs_cons, Bool.and_self, Bool.and_true, O.frz_fro, O.frz_lst, O.frz_dic, O.frz_lsts, allSt_nil, allSt_cons, isLst_lst, isLst_lsts, appO_lst, appO_lsts, eqv_int, eqv_str, eqv_bool, eqv_none, okEq_int, okEq_str, okEq_bool, startD, List.map_cons, List.map_nil, List.length_cons, List.length_nil, List.nil_append, List.cons_append, List.append_nil, List.getElem?_cons_zero, List.getElem?_cons_succ, List.set_cons_zero, List.set_cons_succ, List.replicate, List.foldl_cons, List.foldl_nil, frzAt, wLook, R.lean_v, R.lean_t, R.lean_ts, O.leanL_lst, O.leanL_fro, true_and, and_true, true_or, or_true, false_or, Bool.false_eq_true, if_true, if_false, ite_true, ite_false, PyData.int.injEq, PyData.str.injEq, PyData.bool.injEq, PyData.list.injEq, PyData.tuple.injEq, exists_eq_left, exists_eq_left', exists_eq', decide_eq_true_eq, Option.some.injEq, O.fro.injEq, O.lst.injEq, O.lsts.injEq, exists_and_left, exists_const, wipeE, seqD_list, seqD_tuple, enD_rt, enD_nx, enD_ex, enD_bk, enD_ct, List.set_nil, wipeE, wLc_eq, wFor_eq, Bool.not_true, Bool.not_false, reduceIte, bAdd_i, bAdd_s, bAdd_l, bAdd_t, lenD_s, lenD_l, lenD_t, lenD_d, min2D_i, min2D_s, max2D_i, sumD_l, maxD_l, minD_l, allD_l, anyD_l, ordD_s, strD_i, intD_i, intD_b, intD_s, listD_l, listD_t, tupleD_l, tupleD_t, slD_l, slD_t, slD_s, ixD_l, ixD_t, ixD_s, ixD_d, cI_i, cI_s, cI_t, cI0_i, cI0_s, cIs_n, cIsNot_n, cIn_l, cIn_t, cIn_d, cIn_s, tru_n, tru_b, tru_i, tru_s, tru_l, tru_t, ← List.map_take, ← List.map_drop, ← List.map_append, ← List.map_reverse, cut_toL, cut_fromL, cut_inL, cut_to, cut_from, cut_in, cut_all, cut_front, setL_cons, setL_nil, flatD_int, flatD_str, flatD_bool, flatD_none, bne_self_eq_false, Bool.false_bne, Bool.true_bne, wiZip, zipR_l, zipR_t, zipD_map, wiEnum, wiEnumT, wiEnumS, wiRev, wiR3, wiS, wSt, stO_lst, stO_lsts, stO_dic, isMut_lst, isMut_lsts, isMut_dic, wMulA, bMul_i, bMul_l, bMul_s, repS_tS, wMe, fJoin_1, fSplit_1, fRstrip_1, fFind_1, wGet2, getD, wUnp, wPar, wPop, wTry, wTryO, wTryM, wClauses, endN, end0, wIsE, PyData.dict.injEq, O.dic.injEq, O.raw.injEq, keyD, and_self, List.concat_eq_append, wLcO_eq, sortedE_l, sortedE_d, sortedD_d, dictD_l, dictD_t, divmodD_i, wApp2, wSt2, wDic, wpN, wpC, flat_nL, flat_iL, wRevA, wLRev, revD_l, revD_s, revS_tS, wLcE_eq, wLcOE_eq, wLookT, wJoinRev, listS_s, wLcK_eq, flatR_l, wCallT, tlst_iff, R.t.injEq, cLtA, cLeA, wIxN, wGetN, wGetN1, cInN, listN, sortedN, wStN, stN_nd, stN_pin, isNd_nd, isNd_pin, wNd0, wDicN, wForK, wiK, wiK_d, wiK_n, wSetM, wExpM, wamH, wamC, mkO_t, mkO_f, wRetM, startM, R.sh_bn, O.frz_nd, O.frz_pin, O.frz_io, ixR_bn, O.nd.injEq, O.pin.injEq, O.io.injEq, R.v.injEq, enM_rt, enM_nx, enM_ex])
local macro_rules | `(tactic| walk_at "c") => `(tactic| first | exact mul_by (by decide) | exact mul_of (by decide) | exact cpow_ok (by omega) (by omega) (by first | decide | omega) | exact cdiv_ok (by omega) (by decide +kernel) | exact cdiv_int (by omega) (by omega) | (with_reducible decide) | (with_reducible omega) | (rw [sizeLine_eq]; (try simp only [List.length_map, List.length_append, List.length_cons, List.length_nil, List.length_range, List.length_take, List.length_drop, List.length_reverse, List.length_set]); with_reducible omega) | (with_reducible assumption) | exact flK_nil | exact flK_dG _ | exact ndK_nil | exact flK_map (fun _ => rfl) | exact ndK_map (fun _ => rfl) | exact ndK_dN (fun _ => rfl) _ | exact okD_pD _ | exact okD_2 _ _ | exact okD_st _ _ _ | exact okD_stN _ _ _ | exact okD_3 _ _ _ | exact pow_pos_go _ | exact mul_by (by omega) | exact mul_of (by omega))
local macro_rules | `(tactic| walk_at "g") => `(tactic| repeat (first | (with_reducible refine wSq_of ?_) | simp only [wLet, wAsg, wRet, wRetN, wAug, wApp, wExt, wIns, wExp, wPass, wBrk, wCnt, wFrz, wIf, wRaise, wNil, wVar, wC, w2, bI_int, wtv, c2, cEq, cNe, cEqS, isN, wChain, wtAnd, wtOr, wtNot, wAndV, wOrV, wNotV, wIfE, wTru, wIx, ixR_v, ixR_t, ixR_bl, ixR_bd, ixR_bls, wSl, woN, woE, wRev, wNeg, waN, waC, wTup, wLst, wDic0, wB, f1_one, f1s_one, f2_two, wIsi, isiB, wCall, wiL, wiLB, wiT, wiA, wiAB, walkA_l, walkA_t, walkA_s, walkA_n, walkAB_l, walkAB_t, walkAB_s, walkAB_n, walkAB_b, oR_f, oR_l, oR_d, oR_ls, wiR1, wiR2, Int.toNat_natCast, rgD_0, bxor_nat, bor_nat, shl_nat, shr_nat, shl_nat2, shr_nat2, band1_nat, atI_c0, atI_c1, atI_c2, atI_c3, atI_c4, atI_snoc, atI_msnoc, List.length_map, Int.reduceAdd, Int.reduceSub, Int.reduceMul, Int.reduceDiv, Int.reduceMod, Int.reduceNeg, Int.reduceToNat, Nat.reduceAdd, Nat.reduceSub, Nat.reduceMul, nL_snoc, nL_set, okEq_nL, eqv_nL, okEq_iL, eqv_iL, okEq_nL0, eqv_nilL, eqv_nilT, isEmpty_map, true_imp_iff, false_imp_iff, ne_eq, not_true_eq_false, not_false_eq_true, nL_iff, iL_iff, zL_iff, pL_iff, sL_iff, sL_snoc, nat_iff, gN, gT_t, gsC_c, gsN_n, R.d_v, R.d_t, R.d_b, decide_true, decide_false, Bool.not_eq_true, R.sh_v, R.sh_t, R.sh_bf, R.sh_bl, R.sh_bd, R.st_v, R.st_t, R.o_v, R.o_t, R.out_v, R.out_t, R.out_b, R.free_v, R.free_t, noL_int, noL_str, noL_bool, noL_none, noL_tuple, noLs_nil, noLs_cons, Bool.and_self, Bool.and_true, O.frz_fro, O.frz_lst, O.frz_dic, O.frz_lsts, allSt_nil, allSt_cons, isLst_lst, isLst_lsts, appO_lst, appO_lsts, eqv_int, eqv_str, eqv_bool, eqv_none, okEq_int, okEq_str, okEq_bool, startD, List.map_cons, List.map_nil, List.length_cons, List.length_nil, List.nil_append, List.cons_append, List.append_nil, List.getElem?_cons_zero, List.getElem?_cons_succ, List.set_cons_zero, List.set_cons_succ, List.replicate, List.foldl_cons, List.foldl_nil, frzAt, wLook, R.lean_v, R.lean_t, R.lean_ts, O.leanL_lst, O.leanL_fro, true_and, and_true, true_or, or_true, false_or, Bool.false_eq_true, if_true, if_false, ite_true, ite_false, PyData.int.injEq, PyData.str.injEq, PyData.bool.injEq, PyData.list.injEq, PyData.tuple.injEq, exists_eq_left, exists_eq_left', exists_eq', decide_eq_true_eq, Option.some.injEq, O.fro.injEq, O.lst.injEq, O.lsts.injEq, exists_and_left, exists_const, wipeE, seqD_list, seqD_tuple, enD_rt, enD_nx, enD_ex, enD_bk, enD_ct, List.set_nil, wipeE, wLc_eq, wFor_eq, Bool.not_true, Bool.not_false, reduceIte, bAdd_i, bAdd_s, bAdd_l, bAdd_t, lenD_s, lenD_l, lenD_t, lenD_d, min2D_i, min2D_s, max2D_i, sumD_l, maxD_l, minD_l, allD_l, anyD_l, ordD_s, strD_i, intD_i, intD_b, intD_s, listD_l, listD_t, tupleD_l, tupleD_t, slD_l, slD_t, slD_s, ixD_l, ixD_t, ixD_s, ixD_d, cI_i, cI_s, cI_t, cI0_i, cI0_s, cIs_n, cIsNot_n, cIn_l, cIn_t, cIn_d, cIn_s, tru_n, tru_b, tru_i, tru_s, tru_l, tru_t, ← List.map_take, ← List.map_drop, ← List.map_append, ← List.map_reverse, cut_toL, cut_fromL, cut_inL, cut_to, cut_from, cut_in, cut_all, cut_front, setL_cons, setL_nil, flatD_int, flatD_str, flatD_bool, flatD_none, bne_self_eq_false, Bool.false_bne, Bool.true_bne, wiZip, zipR_l, zipR_t, zipD_map, wiEnum, wiEnumT, wiEnumS, wiRev, wiR3, wiS, wSt, stO_lst, stO_lsts, stO_dic, isMut_lst, isMut_lsts, isMut_dic, wMulA, bMul_i, bMul_l, bMul_s, repS_tS, wMe, fJoin_1, fSplit_1, fRstrip_1, fFind_1, wGet2, getD, wUnp, wPar, wPop, wTry, wTryO, wTryM, wClauses, endN, end0, wIsE, PyData.dict.injEq, O.dic.injEq, O.raw.injEq, keyD, and_self, List.concat_eq_append, wLcO_eq, sortedE_l, sortedE_d, sortedD_d, dictD_l, dictD_t, divmodD_i, wApp2, wSt2, wDic, wpN, wpC, flat_nL, flat_iL, wRevA, wLRev, revD_l, revD_s, revS_tS, wLcE_eq, wLcOE_eq, wLookT, wJoinRev, listS_s, wLcK_eq, flatR_l, wCallT, tlst_iff, R.t.injEq, cLtA, cLeA, wIxN, wGetN, wGetN1, cInN, listN, sortedN, wStN, stN_nd, stN_pin, isNd_nd, isNd_pin, wNd0, wDicN, wForK, wiK, wiK_d, wiK_n, wSetM, wExpM, wamH, wamC, mkO_t, mkO_f, wRetM, startM, R.sh_bn, O.frz_nd, O.frz_pin, O.frz_io, ixR_bn, O.nd.injEq, O.pin.injEq, O.io.injEq, R.v.injEq, enM_rt, enM_nx, enM_ex] | walk_at "x" | (with_reducible refine And.intro (by walk_at "c") ?_)))
local macro_rules | `(tactic| walk_at "h") => `(tactic| repeat (first | (with_reducible refine wSq_of ?_) | simp only [wLet, wAsg, wRet, wRetN, wAug, wApp, wExt, wIns, wExp, wPass, wBrk, wCnt, wFrz, wIf, wRaise, wNil, wVar, wC, w2, bI_int, wtv, c2, cEq, cNe, cEqS, isN, wChain, wtAnd, wtOr, wtNot, wAndV, wOrV, wNotV, wIfE, wTru, wIx, ixR_v, ixR_t, ixR_bl, ixR_bd, ixR_bls, wSl, woN, woE, wRev, wNeg, waN, waC, wTup, wLst, wDic0, wB, f1_one, f1s_one, f2_two, wIsi, isiB, wCall, wiL, wiLB, wiT, wiA, wiAB, walkA_l, walkA_t, walkA_s, walkA_n, walkAB_l, walkAB_t, walkAB_s, walkAB_n, walkAB_b, oR_f, oR_l, oR_d, oR_ls, wiR1, wiR2, Int.toNat_natCast, rgD_0, bxor_nat, bor_nat, shl_nat, shr_nat, shl_nat2, shr_nat2, band1_nat, atI_c0, atI_c1, atI_c2, atI_c3, atI_c4, atI_snoc, atI_msnoc, List.length_map, Int.reduceAdd, Int.reduceSub, Int.reduceMul, Int.reduceDiv, Int.reduceMod, Int.reduceNeg, Int.reduceToNat, Nat.reduceAdd, Nat.reduceSub, Nat.reduceMul, nL_snoc, nL_set, okEq_nL, eqv_nL, okEq_iL, eqv_iL, okEq_nL0, eqv_nilL, eqv_nilT, isEmpty_map, true_imp_iff, false_imp_iff, ne_eq, not_true_eq_false, not_false_eq_true, nL_iff, iL_iff, zL_iff, pL_iff, sL_iff, sL_snoc, nat_iff, tS_len, tS_app, tS_iff, tS_sg, tS_cut, tS_one, ite_and2, ite_or2, List.cons.injEq, tL_iff, tL_snoc, tL_set, cps_getD, lt_tS, tS_in, tS_in', tS_cps, eqv_tL, lit_iff, zL_snoc, pL_snoc, gN, gT_t, gsC_c, gsN_n, R.d_v, R.d_t, R.d_b, decide_true, decide_false, Bool.not_eq_true, R.sh_v, R.sh_t, R.sh_bf, R.sh_bl, R.sh_bd, R.st_v, R.st_t, R.o_v, R.o_t, R.out_v, R.out_t, R.out_b, R.free_v, R.free_t, noL_int, noL_str, noL_bool, noL_none, noL_tuple, noLs_nil, noLs_cons, Bool.and_self, Bool.and_true, O.frz_fro, O.frz_lst, O.frz_dic, O.frz_lsts, allSt_nil, allSt_cons, isLst_lst, isLst_lsts, appO_lst, appO_lsts, eqv_int, eqv_str, eqv_bool, eqv_none, okEq_int, okEq_str, okEq_bool, startD, List.map_cons, List.map_nil, List.length_cons, List.length_nil, List.nil_append, List.cons_append, List.append_nil, List.getElem?_cons_zero, List.getElem?_cons_succ, List.set_cons_zero, List.set_cons_succ, List.replicate, List.foldl_cons, List.foldl_nil, frzAt, wLook, R.lean_v, R.lean_t, R.lean_ts, O.leanL_lst, O.leanL_fro, true_and, and_true, true_or, or_true, false_or, Bool.false_eq_true, if_true, if_false, ite_true, ite_false, PyData.int.injEq, PyData.str.injEq, PyData.bool.injEq, PyData.list.injEq, PyData.tuple.injEq, exists_eq_left, exists_eq_left', exists_eq', decide_eq_true_eq, Option.some.injEq, O.fro.injEq, O.lst.injEq, O.lsts.injEq, exists_and_left, exists_const, wipeE, seqD_list, seqD_tuple, enD_rt, enD_nx, enD_ex, enD_bk, enD_ct, List.set_nil, wipeE, wLc_eq, wFor_eq, Bool.not_true, Bool.not_false, reduceIte, bAdd_i, bAdd_s, bAdd_l, bAdd_t, lenD_s, lenD_l, lenD_t, lenD_d, min2D_i, min2D_s, max2D_i, sumD_l, maxD_l, minD_l, allD_l, anyD_l, ordD_s, strD_i, intD_i, intD_b, intD_s, listD_l, listD_t, tupleD_l, tupleD_t, slD_l, slD_t, slD_s, ixD_l, ixD_t, ixD_s, ixD_d, cI_i, cI_s, cI_t, cI0_i, cI0_s, cIs_n, cIsNot_n, cIn_l, cIn_t, cIn_d, cIn_s, tru_n, tru_b, tru_i, tru_s, tru_l, tru_t, ← List.map_take, ← List.map_drop, ← List.map_append, ← List.map_reverse, cut_toL, cut_fromL, cut_inL, cut_to, cut_from, cut_in, cut_all, cut_front, setL_cons, setL_nil, flatD_int, flatD_str, flatD_bool, flatD_none, bne_self_eq_false, Bool.false_bne, Bool.true_bne, wiZip, zipR_l, zipR_t, zipD_map, wiEnum, wiEnumT, wiEnumS, wiRev, wiR3, wiS, wSt, stO_lst, stO_lsts, stO_dic, isMut_lst, isMut_lsts, isMut_dic, wMulA, bMul_i, bMul_l, bMul_s, repS_tS, wMe, fJoin_1, fSplit_1, fRstrip_1, fFind_1, wGet2, getD, wUnp, wPar, wPop, wTry, wTryO, wTryM, wClauses, endN, end0, wIsE, PyData.dict.injEq, O.dic.injEq, O.raw.injEq, keyD, and_self, List.concat_eq_append, wLcO_eq, sortedE_l, sortedE_d, sortedD_d, dictD_l, dictD_t, divmodD_i, wApp2, wSt2, wDic, wpN, wpC, flat_nL, flat_iL, wRevA, wLRev, revD_l, revD_s, revS_tS, wLcE_eq, wLcOE_eq, wLookT, wJoinRev, listS_s, wLcK_eq, flatR_l, wCallT, tlst_iff, R.t.injEq, cLtA, cLeA, wIxN, wGetN, wGetN1, cInN, listN, sortedN, wStN, stN_nd, stN_pin, isNd_nd, isNd_pin, wNd0, wDicN, wForK, wiK, wiK_d, wiK_n, wSetM, wExpM, wamH, wamC, mkO_t, mkO_f, wRetM, startM, R.sh_bn, O.frz_nd, O.frz_pin, O.frz_io, ixR_bn, O.nd.injEq, O.pin.injEq, O.io.injEq, R.v.injEq, enM_rt, enM_nx, enM_ex] | walk_at "x" | (with_reducible refine And.intro (by walk_at "c") ?_)))

/-! lines_of -/
--uses MB
def f_lines_of : D → (R → Prop) → (Str → Prop) → Prop := fun a Q E => ∃ n : Nat, a = .int n ∧ n < 2 ^ 1000 ∧ Q (.t (.lst (nL (linesN n 0))))
def S_lines_of : Spec := sp1 f_lines_of
theorem e_lines_of (x0 : D) (Q : R → Prop) (E : Str → Prop) : S_lines_of [x0] Q E = f_lines_of x0 Q E := rfl
abbrev st_lines_of : Stmt := top 1
def m_lines_of : WS := (wSq (wAsg 1 (wLst waN)) (wSq (wLet 2 (wC (.int 0))) (wSq (wWhile (c2 cGt (wVar 0) (wC (.int 0))) (wSqM (wIf (c2 cEq (wAnd (wVar 0) (wC (.int 1))) (wC (.int 1))) (wApp 1 (wVar 2)) wNil) (wSq (wLet 0 (wShr (wVar 0) (wC (.int 1)))) (wAug 2 (wC (.int 1)))))) (wRet (wVar 1)))))
theorem sc_lines_of : FnScope ["column", "found", "line"] ["column"] (defScope st_lines_of) := ⟨rfl, rfl, rfl, by decide +kernel, rfl, by decide +kernel, by decide +kernel⟩
theorem d_lines_of {P : Program} {w : World} {K : K0} {mg : Str → Option Value} {base : Heap} (T : Gb mg) {f : Addr} (cdv : Value) (A : Around) (outer : List PySem.Env) (s : Shared) (H : Hp) (E : XK) (G : Hp) (hr : Room 0 (A.deeper (envOfC "lines_of" (defScope st_lines_of) s.heap.objs.size f cdv)))
    (tk : Takes (XB P w K mg base ["column", "found", "line"] "lines_of" (defScope st_lines_of) f cdv A outer s H E) (fun cls d _ H => E cls d H)) (hp : PassesOwn (model P w) (XB P w K mg base ["column", "found", "line"] "lines_of" (defScope st_lines_of) f cdv A outer s H E).A (XB P w K mg base ["column", "found", "line"] "lines_of" (defScope st_lines_of) f cdv A outer s H E).env (XB P w K mg base ["column", "found", "line"] "lines_of" (defScope st_lines_of) f cdv A outer s H E).xe) :
    DSs (XB P w K mg base ["column", "found", "line"] "lines_of" (defScope st_lines_of) f cdv A outer s H E) (fun cls d _ H => E cls d H) G (defBody st_lines_of) m_lines_of :=
  (dss_cons (ds_set (i := 1) sc_lines_of.nd rfl (by first | exact Or.inl rfl | exact Or.inr rfl) (de_lst da_nil) (by rfl) (by first | exact Or.inl rfl | exact Or.inr rfl)) (dss_cons (ds_let (i := 2) sc_lines_of.nd rfl (by first | exact Or.inl rfl | exact Or.inr rfl) (de_c pe_int rfl) (by rfl) (by first | exact Or.inl rfl | exact Or.inr rfl)) (dss_cons (ds_while hp (dt_cmp opGtD (de_var 0 (pv 0)) (de_c pe_int rfl) (nomark _)) (dss_cons (ds_if (dt_cmp (opEqD hr.units) (de_and (de_var 0 (pv 0)) (de_c pe_int rfl)) (de_c pe_int rfl) (nomark _)) (dss_one (ds_app (i := 1) (pv 1) (de_var 2 (pv 2)) (by rfl) (by rfl) (by rfl) (by rfl) (by rfl) (by rfl))) dss_nil) (dss_cons (ds_let (i := 0) sc_lines_of.nd rfl (by first | exact Or.inl rfl | exact Or.inr rfl) (de_shr (de_var 0 (pv 0)) (de_c pe_int rfl)) (by rfl) (by first | exact Or.inl rfl | exact Or.inr rfl)) (dss_one (ds_aug (i := 2) sc_lines_of.nd rfl (by first | exact Or.inl rfl | exact Or.inr rfl) (de_c pe_int rfl) (by first | exact Or.inl rfl | exact Or.inr rfl)))))) (dss_one (ds_ret (de_var 1 (pv 1)))))))
theorem l_lines_of : ∀ ds Q E, S_lines_of ds Q E → ds.length = 1 := sp1_len rfl
local macro_rules | `(tactic| walk_at "x") => `(tactic| simp only [kD_inr, kD_inl])
theorem w_lines_of : ∀ ds Q E, S_lines_of ds Q E → m_lines_of (enD Q E) (startD ["column", "found", "line"] ds) := sp1_w fun a Q E ⟨n, ea, hn, hq⟩ => by
  subst ea
  unfold m_lines_of startD
  walk_at "g"
  have hp := popN_le 1000 n hn
  refine while_go (fun x : Nat × List Nat × Nat => [some (.fro (.int (x.1 : Int))), some (.lst (nL x.2.1)), some (.fro (.int (x.2.2 : Int)))]) (fun x => x.2.1 ++ linesN x.1 x.2.2 = linesN n 0 ∧ x.2.1.length + popN x.1 = popN n) (fun x => x.1) (n, [], 0) rfl ⟨rfl, by simp⟩ ?_
  rintro ⟨m, acc, k⟩ ⟨hI, hL⟩
  simp only at hI hL
  walk_at "g"
  refine ite_i (fun hm => ?_) fun hm => ?_
  · have hm : 0 < m := by omega
    have e := linesN_step hm k
    have e2 := popN_step m
    have e4 : (m : Int) / 2 ^ (1 : Int).toNat = ((m / 2 : Nat) : Int) := by
      rw [show (1 : Int).toNat = 1 from rfl, Int.pow_succ, Int.pow_zero]; omega
    walk_at "g"
    refine wSqM_of ?_
    walk_at "g"
    refine ite_i (fun h1 => ?_) fun h1 => ?_
    · have h1 : m % 2 = 1 := by omega
      rw [if_pos h1] at e
      walk_at "g"
      rw [show m / 2 ^ 1 = m / 2 from by rw [Nat.pow_one]]
      refine nxW (m / 2, acc ++ [k], k + 1) (by simp [setL]) ⟨?_, ?_⟩ (by simp; omega)
      · rw [← hI, e, List.append_assoc]
      · simp; omega
    · have h1 : ¬ m % 2 = 1 := by omega
      rw [if_neg h1] at e
      walk_at "g"
      rw [show m / 2 ^ 1 = m / 2 from by rw [Nat.pow_one]]
      refine nxW (m / 2, acc, k + 1) (by simp) ⟨?_, ?_⟩ (by simp; omega)
      · rw [← hI, e]; rfl
      · simp; omega
  · have e3 : m = 0 := by omega
    subst e3
    rw [linesN_zero, List.append_nil] at hI
    rw [hI]; exact hq
theorem ok_lines_of {P : Program} {w : World} {K : K0} {mg : Str → Option Value} {base : Heap} {f : Addr} {fd : FuncData} (F : FunD K "lines_of" "lines_of" (defArgs st_lines_of) (defBody st_lines_of) (defScope st_lines_of) [] [] f fd) (g : mg "lines_of" = some (.ref f)) (T : Gb mg) : FnAt P w K mg base 1 "lines_of" ["column"] [] S_lines_of :=
  fnAt F g sc_lines_of (fun _ _ _ _ _ _ us hl => match us, hl with | [_], _ => rfl) l_lines_of (fun cdv A outer s H E G hr tk hp => d_lines_of T cdv A outer s H E G hr tk hp) w_lines_of
/-! spots_apart -/
--uses MB
def f_spots_apart : D → D → (R → Prop) → (Str → Prop) → Prop := fun a b Q E => ∃ xs : List Nat, a = .list (nL xs) ∧ ∃ ys : List Nat, b = .list (nL ys) ∧ (∀ x ∈ xs, x < 2 ^ 60) ∧ (∀ y ∈ ys, y < 2 ^ 60) ∧ xs.length ≤ 1000 ∧ (xs.length ≠ ys.length → E "NotAlike") ∧ (xs.length = ys.length → Q (.t (.lst (pL (spotsN 0 xs ys)))))
def S_spots_apart : Spec := sp2 f_spots_apart
theorem e_spots_apart (x0 x1 : D) (Q : R → Prop) (E : Str → Prop) : S_spots_apart [x0, x1] Q E = f_spots_apart x0 x1 Q E := rfl
abbrev st_spots_apart : Stmt := top 7
def m_spots_apart : WS := (wSq (wIf (c2 cNe (wB (f1 lenD) (waC (wVar 0) waN)) (wB (f1 lenD) (waC (wVar 1) waN))) (wRaise "NotAlike") wNil) (wSq (wAsg 2 (wLst waN)) (wSq (wFor (wiR1 (wB (f1 lenD) (waC (wVar 0) waN))) (gN 3) (wFor (wiA (wCall S_lines_of [] (waC (wXor (wIx (wVar 0) (wVar 3)) (wIx (wVar 1) (wVar 3))) waN))) (gN 4) (wApp 2 (wTup (waC (wVar 3) (waC (wVar 4) waN)))))) (wRet (wVar 2)))))
theorem sc_spots_apart : FnScope ["one", "other", "found", "x", "y"] ["one", "other"] (defScope st_spots_apart) := ⟨rfl, rfl, rfl, by decide +kernel, rfl, by decide +kernel, by decide +kernel⟩
theorem d_spots_apart {P : Program} {w : World} {K : K0} {mg : Str → Option Value} {base : Heap} (T : Gb mg) (X_NotAlike : ExAt K mg "NotAlike") (F_lines_of : FnAt P w K mg base 1 "lines_of" ["column"] [] S_lines_of) {f : Addr} (cdv : Value) (A : Around) (outer : List PySem.Env) (s : Shared) (H : Hp) (E : XK) (G : Hp) (hr : Room 1 (A.deeper (envOfC "spots_apart" (defScope st_spots_apart) s.heap.objs.size f cdv)))
    (tk : Takes (XB P w K mg base ["one", "other", "found", "x", "y"] "spots_apart" (defScope st_spots_apart) f cdv A outer s H E) (fun cls d _ H => E cls d H)) (hp : PassesOwn (model P w) (XB P w K mg base ["one", "other", "found", "x", "y"] "spots_apart" (defScope st_spots_apart) f cdv A outer s H E).A (XB P w K mg base ["one", "other", "found", "x", "y"] "spots_apart" (defScope st_spots_apart) f cdv A outer s H E).env (XB P w K mg base ["one", "other", "found", "x", "y"] "spots_apart" (defScope st_spots_apart) f cdv A outer s H E).xe) :
    DSs (XB P w K mg base ["one", "other", "found", "x", "y"] "spots_apart" (defScope st_spots_apart) f cdv A outer s H E) (fun cls d _ H => E cls d H) G (defBody st_spots_apart) m_spots_apart :=
  (dss_cons (ds_if (dt_cmp (opNeD hr.units) (de_B cLen (by rfl) T.len (by decide +kernel) (da_cons (de_var 0 (pv 0)) da_nil (by rfl)) (by decide) (by decide) (by rfl) (by rfl)) (de_B cLen (by rfl) T.len (by decide +kernel) (da_cons (de_var 1 (pv 1)) da_nil (by rfl)) (by decide) (by decide) (by rfl) (by rfl)) (nomark _)) (dss_one (ds_raise' X_NotAlike rfl tk (by rfl) (by decide))) dss_nil) (dss_cons (ds_set (i := 2) sc_spots_apart.nd rfl (by first | exact Or.inl rfl | exact Or.inr rfl) (de_lst da_nil) (by rfl) (by first | exact Or.inl rfl | exact Or.inr rfl)) (dss_cons (ds_for (vs := [3]) hp rfl (di_range1 (by rfl) T.range (de_B cLen (by rfl) T.len (by decide +kernel) (da_cons (de_var 0 (pv 0)) da_nil (by rfl)) (by decide) (by decide) (by rfl) (by rfl)) (by rfl) (by rfl)) (dg_name (i := 3) (by decide) sc_spots_apart.nd rfl (by first | exact Or.inl rfl | exact Or.inr rfl) (by first | exact Or.inl rfl | exact Or.inr rfl)) (dss_one (ds_for (vs := [4]) hp rfl (di_any (de_call' F_lines_of hr (by decide) (by rfl) (fun _ => .nil) tk (da_cons (de_xor (de_ix (hu_of hr) (de_var 0 (pv 0)) (de_var 3 (pv 3)) (fun _ _ => rfl)) (de_ix (hu_of hr) (de_var 1 (pv 1)) (de_var 3 (pv 3)) (fun _ _ => rfl))) da_nil (by rfl)) (by decide) (by rfl) (by rfl))) (dg_name (i := 4) (by decide) sc_spots_apart.nd rfl (by first | exact Or.inl rfl | exact Or.inr rfl) (by first | exact Or.inl rfl | exact Or.inr rfl)) (dss_one (ds_app (i := 2) (pv 2) (de_tup (da_cons (de_var 3 (pv 3)) (da_cons (de_var 4 (pv 4)) da_nil (by rfl)) (by rfl))) (by rfl) (by rfl) (by rfl) (by rfl) (by rfl) (by rfl))) (by intro _; rfl))) (by intro _; rfl)) (dss_one (ds_ret (de_var 2 (pv 2)))))))
theorem l_spots_apart : ∀ ds Q E, S_spots_apart ds Q E → ds.length = 2 := sp2_len rfl
local macro_rules | `(tactic| walk_at "x") => `(tactic| simp only [e_lines_of, f_lines_of, kD_inr, kD_inl])
theorem w_spots_apart : ∀ ds Q E, S_spots_apart ds Q E → m_spots_apart (enD Q E) (startD ["one", "other", "found", "x", "y"] ds) := sp2_w (by
  rintro a0 a1 Q E ⟨xs, rfl, ys, rfl, hx, hy, hs, he, hq⟩
  unfold m_spots_apart startD
  walk_at "g"
  refine ite_i (fun h => he fun e => ?_) fun h => ?_
  · simp [e] at h
  have hl : xs.length = ys.length := by simp at h; omega
  walk_at "g"
  refine for_gs [2, 3, 4] (fun x : List (Nat × Nat) × Option O × Option O => [some (.lst (pL x.1)), x.2.1, x.2.2]) (fun k x => x.1 = spotsN 0 (xs.take k) (ys.take k)) ([], none, none) rfl (by simp [spotsN]) ?_ ?_
  · rintro k d ⟨ps, o1, o2⟩ hd hI
    obtain ⟨rfl, hk⟩ := range_get hd
    simp only at hI
    have hk2 : d < ys.length := by omega
    have b1 := hx _ (List.getElem_mem hk)
    have b2 := hy _ (List.getElem_mem hk2)
    walk_at "g"
    refine ⟨_, atI_map_lt _ hk, _, atI_map_lt _ hk2, ?_⟩
    walk_at "g"
    refine ⟨lt_pow (Nat.xor_lt_two_pow b1 b2) (by decide), ?_⟩
    walk_at "g"
    have hle := popN_le 60 _ (Nat.xor_lt_two_pow b1 b2)
    have hps : ps.length ≤ 60 * d := by
      rw [hI, spotsN_len]
      have := gapN_le (h := 60) (xs := xs.take d) (ys := ys.take d) (fun x m => hx x (List.mem_of_mem_take m)) fun y m => hy y (List.mem_of_mem_take m)
      rw [List.length_take] at this
      have e : min d xs.length = d := by omega
      rwa [e] at this
    refine for_gs [2, 4] (fun x : List (Nat × Nat) × Option O => [some (.lst (pL x.1)), x.2]) (fun j x => x.1 = ps ++ ((linesN (xs[d] ^^^ ys[d]) 0).take j).map fun l => (d, l)) (ps, o2) rfl (by simp) ?_ ?_
    · rintro j l ⟨qs, o3⟩ hl2 hJ
      simp only at hJ
      have hj := (List.getElem?_eq_some_iff.mp hl2).1
      rw [linesN_length] at hj
      have hqs : qs.length ≤ 60 * d + 60 := by rw [hJ]; simp; omega
      walk_at "g"
      rw [pL_snoc]
      exact nxF (qs ++ [(d, l)], _) rfl (by simp only; rw [hJ, take_succ hl2]; simp)
    · rintro ⟨qs, o3⟩ hJ
      simp only [List.take_length] at hJ
      walk_at "g"
      refine nxF (qs, _, _) rfl ?_
      simp only
      rw [hJ, hI, take_succ (List.getElem?_eq_getElem hk), take_succ (List.getElem?_eq_getElem hk2), spotsN_snoc 0 _ _ (by simp; omega), List.length_take, Nat.min_eq_left (by omega), Nat.zero_add]
  · rintro ⟨ps, o1, o2⟩ hI
    simp only [List.length_range] at hI
    rw [List.take_length, hl, List.take_length] at hI
    subst hI
    walk_at "g"
    exact hq hl)
theorem ok_spots_apart {P : Program} {w : World} {K : K0} {mg : Str → Option Value} {base : Heap} {f : Addr} {fd : FuncData} (F : FunD K "spots_apart" "spots_apart" (defArgs st_spots_apart) (defBody st_spots_apart) (defScope st_spots_apart) [] [] f fd) (g : mg "spots_apart" = some (.ref f)) (T : Gb mg) (X_NotAlike : ExAt K mg "NotAlike") (F_lines_of : FnAt P w K mg base 1 "lines_of" ["column"] [] S_lines_of) : FnAt P w K mg base 2 "spots_apart" ["one", "other"] [] S_spots_apart :=
  fnAt F g sc_spots_apart (fun _ _ _ _ _ _ us hl => match us, hl with | [_, _], _ => rfl) l_spots_apart (fun cdv A outer s H E G hr tk hp => d_spots_apart T X_NotAlike F_lines_of cdv A outer s H E G hr tk hp) w_spots_apart
/-! turned -/
--uses MB
def f_turned : D → D → D → (R → Prop) → (Str → Prop) → Prop := fun a b c Q E => ∃ h : Nat, a = .int h ∧ ∃ xs : List Nat, b = .list (nL xs) ∧ ∃ ps : List (Int × Int), c = .list (zL ps) ∧ h ≤ 60 ∧ ((¬ ∀ p ∈ ps, onS h xs.length p) → E "OffStrip") ∧ ((∀ p ∈ ps, onS h xs.length p) → Q (.t (.lst (nL (turnN xs ps)))))
def S_turned : Spec := sp3 f_turned
theorem e_turned (x0 x1 x2 : D) (Q : R → Prop) (E : Str → Prop) : S_turned [x0, x1, x2] Q E = f_turned x0 x1 x2 Q E := rfl
abbrev st_turned : Stmt := top 8
def m_turned : WS := (wSq (wAsg 3 (wB (f1s listD) (waC (wVar 1) waN))) (wSq (wFor (wiA (wVar 2)) (gT 2 (gsC (gN 4) (gsC (gN 5) gsN))) (wSq (wIf (wtOr (c2 cLt (wVar 4) (wC (.int 0))) (wtOr (c2 cGe (wVar 4) (wB (f1 lenD) (waC (wVar 3) waN))) (wtOr (c2 cLt (wVar 5) (wC (.int 0))) (c2 cGe (wVar 5) (wVar 0))))) (wRaise "OffStrip") wNil) (wSt 3 (wVar 4) (wXor (wIx (wVar 3) (wVar 4)) (wShl (wC (.int 1)) (wVar 5)))))) (wRet (wVar 3))))
theorem sc_turned : FnScope ["height", "strip", "spots", "found", "x", "y"] ["height", "strip", "spots"] (defScope st_turned) := ⟨rfl, rfl, rfl, by decide +kernel, rfl, by decide +kernel, by decide +kernel⟩
theorem d_turned {P : Program} {w : World} {K : K0} {mg : Str → Option Value} {base : Heap} (T : Gb mg) (X_OffStrip : ExAt K mg "OffStrip") {f : Addr} (cdv : Value) (A : Around) (outer : List PySem.Env) (s : Shared) (H : Hp) (E : XK) (G : Hp) (hr : Room 0 (A.deeper (envOfC "turned" (defScope st_turned) s.heap.objs.size f cdv)))
    (tk : Takes (XB P w K mg base ["height", "strip", "spots", "found", "x", "y"] "turned" (defScope st_turned) f cdv A outer s H E) (fun cls d _ H => E cls d H)) (hp : PassesOwn (model P w) (XB P w K mg base ["height", "strip", "spots", "found", "x", "y"] "turned" (defScope st_turned) f cdv A outer s H E).A (XB P w K mg base ["height", "strip", "spots", "found", "x", "y"] "turned" (defScope st_turned) f cdv A outer s H E).env (XB P w K mg base ["height", "strip", "spots", "found", "x", "y"] "turned" (defScope st_turned) f cdv A outer s H E).xe) :
    DSs (XB P w K mg base ["height", "strip", "spots", "found", "x", "y"] "turned" (defScope st_turned) f cdv A outer s H E) (fun cls d _ H => E cls d H) G (defBody st_turned) m_turned :=
  (dss_cons (ds_set (i := 3) sc_turned.nd rfl (by first | exact Or.inl rfl | exact Or.inr rfl) (de_T cList (by rfl) T.list (by decide +kernel) (da_cons (de_var 1 (pv 1)) da_nil (by rfl)) (by decide) (by decide) (by rfl) (by rfl)) (by rfl) (by first | exact Or.inl rfl | exact Or.inr rfl)) (dss_cons (ds_for (vs := [4, 5]) hp rfl (di_any (de_var 2 (pv 2))) (dg_tup rfl (dgs_cons (dg_name (i := 4) (by decide) sc_turned.nd rfl (by first | exact Or.inl rfl | exact Or.inr rfl) (by first | exact Or.inl rfl | exact Or.inr rfl)) (dgs_cons (dg_name (i := 5) (by decide) sc_turned.nd rfl (by first | exact Or.inl rfl | exact Or.inr rfl) (by first | exact Or.inl rfl | exact Or.inr rfl)) dgs_nil (by rfl)) (by rfl)) (by rfl) (by rfl)) (dss_cons (ds_if (dt_w (dw_or (dt_cmp (opLtD hr.units0) (de_var 4 (pv 4)) (de_c pe_int rfl) (nomark _)) (dw_or (dt_cmp opGeD (de_var 4 (pv 4)) (de_B cLen (by rfl) T.len (by decide +kernel) (da_cons (de_var 3 (pv 3)) da_nil (by rfl)) (by decide) (by decide) (by rfl) (by rfl)) (nomark _)) (dw_or (dt_cmp (opLtD hr.units0) (de_var 5 (pv 5)) (de_c pe_int rfl) (nomark _)) (dw_or1 (dt_cmp opGeD (de_var 5 (pv 5)) (de_var 0 (pv 0)) (nomark _))))))) (dss_one (ds_raise' X_OffStrip rfl tk (by rfl) (by decide))) dss_nil) (dss_one (ds_st (i := 3) (hu_of hr) (pv 3) (de_var 4 (pv 4)) (de_xor (de_ix (hu_of hr) (de_var 3 (pv 3)) (de_var 4 (pv 4)) (fun _ _ => rfl)) (de_shl (de_c pe_int rfl) (de_var 5 (pv 5)))) (by intro _; rfl) (by rfl) (by rfl)))) (by intro _; rfl)) (dss_one (ds_ret (de_var 3 (pv 3))))))
theorem l_turned : ∀ ds Q E, S_turned ds Q E → ds.length = 3 := sp3_len rfl
local macro_rules | `(tactic| walk_at "x") => `(tactic| simp only [kD_inr, kD_inl])
theorem w_turned : ∀ ds Q E, S_turned ds Q E → m_turned (enD Q E) (startD ["height", "strip", "spots", "found", "x", "y"] ds) := sp3_w (by
  rintro a0 a1 a2 Q E ⟨h, rfl, xs, rfl, ps, rfl, h60, he, hq⟩
  unfold m_turned startD
  walk_at "g"
  refine for_gs [3, 4, 5] (fun x : List Nat × Option O × Option O => [some (.lst (nL x.1)), x.2.1, x.2.2]) (fun k x => x.1 = turnN xs (ps.take k) ∧ ∀ p ∈ ps.take k, onS h xs.length p) (xs, none, none) rfl ⟨rfl, by simp⟩ ?_ ?_
  · rintro k ⟨x, y⟩ ⟨c, o1, o2⟩ hd ⟨hI, hJ⟩
    simp only at hI hJ
    have hlen : c.length = xs.length := by rw [hI, turnN_len]
    walk_at "g"
    have out : ¬ onS h xs.length (x, y) → E "OffStrip" := fun q => he fun r => q (r _ (List.mem_of_getElem? hd))
    refine ite_i (fun q => out fun r => absurd r.1 (by simp; omega)) fun q1 => ?_
    refine ite_i (fun q => out fun r => absurd r.2.1 (by simp; omega)) fun q2 => ?_
    refine ite_i (fun q => out fun r => absurd r.2.2.1 (by simp; omega)) fun q3 => ?_
    refine ite_i (fun q => out fun r => absurd r.2.2.2 (by simp; omega)) fun q4 => ?_
    obtain ⟨i, rfl⟩ := Int.eq_ofNat_of_zero_le (show 0 ≤ x by omega)
    obtain ⟨j, rfl⟩ := Int.eq_ofNat_of_zero_le (show 0 ≤ y by omega)
    have hi : i < c.length := by omega
    refine ⟨_, atI_map_lt _ hi, ?_⟩
    walk_at "g"
    refine ⟨i, ixN_lt hi, ?_⟩
    refine nxF (c.set i (c[i] ^^^ 2 ^ j), _, _) rfl ⟨?_, ?_⟩
    · simp only
      rw [turnN_take hd, ← hI]
      unfold turn1
      simp [hi]
    · intro p m
      rw [take_succ hd] at m
      simp at m
      rcases m with m | rfl
      · exact hJ p m
      · exact ⟨by omega, by simp; omega, by omega, by simp; omega⟩
  · rintro ⟨c, o1, o2⟩ ⟨hI, hJ⟩
    simp only [List.take_length] at hI hJ
    subst hI
    walk_at "g"
    exact hq hJ)
theorem ok_turned {P : Program} {w : World} {K : K0} {mg : Str → Option Value} {base : Heap} {f : Addr} {fd : FuncData} (F : FunD K "turned" "turned" (defArgs st_turned) (defBody st_turned) (defScope st_turned) [] [] f fd) (g : mg "turned" = some (.ref f)) (T : Gb mg) (X_OffStrip : ExAt K mg "OffStrip") : FnAt P w K mg base 1 "turned" ["height", "strip", "spots"] [] S_turned :=
  fnAt F g sc_turned (fun _ _ _ _ _ _ us hl => match us, hl with | [_, _, _], _ => rfl) l_turned (fun cdv A outer s H E G hr tk hp => d_turned T X_OffStrip cdv A outer s H E G hr tk hp) w_turned
/-! law_cell_at -/
def f_law_cell_at : D → D → (R → Prop) → (Str → Prop) → Prop := fun a b Q E => ∃ ns : List Int, a = .list (iL ns) ∧ ∃ k : Nat, b = .int k ∧ Q (.v (.int (ns[k]?.getD 0)))
def S_law_cell_at : Spec := sp2 f_law_cell_at
theorem e_law_cell_at (x0 x1 : D) (Q : R → Prop) (E : Str → Prop) : S_law_cell_at [x0, x1] Q E = f_law_cell_at x0 x1 Q E := rfl
abbrev st_law_cell_at : Stmt := top 10
def m_law_cell_at : WS := (wSq (wIf (c2 cLt (wVar 1) (wB (f1 lenD) (waC (wVar 0) waN))) (wRet (wIx (wVar 0) (wVar 1))) wNil) (wRet (wC (.int 0))))
theorem sc_law_cell_at : FnScope ["script", "k"] ["script", "k"] (defScope st_law_cell_at) := ⟨rfl, rfl, rfl, by decide +kernel, rfl, by decide +kernel, by decide +kernel⟩
theorem d_law_cell_at {P : Program} {w : World} {K : K0} {mg : Str → Option Value} {base : Heap} (T : Gb mg) {f : Addr} (cdv : Value) (A : Around) (outer : List PySem.Env) (s : Shared) (H : Hp) (E : XK) (G : Hp) (hr : Room 0 (A.deeper (envOfC "_law_cell_at" (defScope st_law_cell_at) s.heap.objs.size f cdv)))
    (tk : Takes (XB P w K mg base ["script", "k"] "_law_cell_at" (defScope st_law_cell_at) f cdv A outer s H E) (fun cls d _ H => E cls d H)) (hp : PassesOwn (model P w) (XB P w K mg base ["script", "k"] "_law_cell_at" (defScope st_law_cell_at) f cdv A outer s H E).A (XB P w K mg base ["script", "k"] "_law_cell_at" (defScope st_law_cell_at) f cdv A outer s H E).env (XB P w K mg base ["script", "k"] "_law_cell_at" (defScope st_law_cell_at) f cdv A outer s H E).xe) :
    DSs (XB P w K mg base ["script", "k"] "_law_cell_at" (defScope st_law_cell_at) f cdv A outer s H E) (fun cls d _ H => E cls d H) G (defBody st_law_cell_at) m_law_cell_at :=
  (dss_cons (ds_if (dt_cmp (opLtD hr.units0) (de_var 1 (pv 1)) (de_B cLen (by rfl) T.len (by decide +kernel) (da_cons (de_var 0 (pv 0)) da_nil (by rfl)) (by decide) (by decide) (by rfl) (by rfl)) (nomark _)) (dss_one (ds_ret (de_ix (hu_of hr) (de_var 0 (pv 0)) (de_var 1 (pv 1)) (fun _ _ => rfl)))) dss_nil) (dss_one (ds_ret (de_c pe_int rfl))))
theorem l_law_cell_at : ∀ ds Q E, S_law_cell_at ds Q E → ds.length = 2 := sp2_len rfl
local macro_rules | `(tactic| walk_at "x") => `(tactic| simp only [kD_inr, kD_inl])
theorem w_law_cell_at : ∀ ds Q E, S_law_cell_at ds Q E → m_law_cell_at (enD Q E) (startD ["script", "k"] ds) := sp2_w (by
  rintro a0 a1 Q E ⟨ns, rfl, k, rfl, hq⟩
  unfold m_law_cell_at startD
  walk_at "g"
  refine ite_i (fun h => ?_) fun h => ?_
  · have h : k < ns.length := by simpa using h
    walk_at "g"
    refine ⟨_, atI_map_lt _ h, ?_⟩
    rw [List.getElem?_eq_getElem h] at hq
    exact hq
  · have h : ¬ k < ns.length := by simpa using h
    rw [List.getElem?_eq_none (by omega)] at hq
    exact hq)
theorem ok_law_cell_at {P : Program} {w : World} {K : K0} {mg : Str → Option Value} {base : Heap} {f : Addr} {fd : FuncData} (F : FunD K "_law_cell_at" "_law_cell_at" (defArgs st_law_cell_at) (defBody st_law_cell_at) (defScope st_law_cell_at) [] [] f fd) (g : mg "_law_cell_at" = some (.ref f)) (T : Gb mg) : FnAt P w K mg base 1 "_law_cell_at" ["script", "k"] [] S_law_cell_at :=
  fnAt F g sc_law_cell_at (fun _ _ _ _ _ _ us hl => match us, hl with | [_, _], _ => rfl) l_law_cell_at (fun cdv A outer s H E G hr tk hp => d_law_cell_at T cdv A outer s H E G hr tk hp) w_law_cell_at
/-! law_whole -/
--uses ME
def f_law_whole : D → (R → Prop) → (Str → Prop) → Prop := fun a Q E => Q (.v (.bool (wholeB a)))
def S_law_whole : Spec := sp1 f_law_whole
theorem e_law_whole (x0 : D) (Q : R → Prop) (E : Str → Prop) : S_law_whole [x0] Q E = f_law_whole x0 Q E := rfl
abbrev st_law_whole : Stmt := top 11
def m_law_whole : WS := (wRet (wAndV (wIsi "int" (wVar 0)) (wNotV (wIsi "bool" (wVar 0)))))
theorem sc_law_whole : FnScope ["found"] ["found"] (defScope st_law_whole) := ⟨rfl, rfl, rfl, by decide +kernel, rfl, by decide +kernel, by decide +kernel⟩
theorem d_law_whole {P : Program} {w : World} {K : K0} {mg : Str → Option Value} {base : Heap} (T : Gb mg) {f : Addr} (cdv : Value) (A : Around) (outer : List PySem.Env) (s : Shared) (H : Hp) (E : XK) (G : Hp) (hr : Room 0 (A.deeper (envOfC "_law_whole" (defScope st_law_whole) s.heap.objs.size f cdv)))
    (tk : Takes (XB P w K mg base ["found"] "_law_whole" (defScope st_law_whole) f cdv A outer s H E) (fun cls d _ H => E cls d H)) (hp : PassesOwn (model P w) (XB P w K mg base ["found"] "_law_whole" (defScope st_law_whole) f cdv A outer s H E).A (XB P w K mg base ["found"] "_law_whole" (defScope st_law_whole) f cdv A outer s H E).env (XB P w K mg base ["found"] "_law_whole" (defScope st_law_whole) f cdv A outer s H E).xe) :
    DSs (XB P w K mg base ["found"] "_law_whole" (defScope st_law_whole) f cdv A outer s H E) (fun cls d _ H => E cls d H) G (defBody st_law_whole) m_law_whole :=
  (dss_one (ds_ret (de_andV (de_isi (c := "int") (by decide) (by rfl) T.isinstance (de_var 0 (pv 0)) (pe_bltn (by rfl) T.int (by decide +kernel) rfl) (by rfl) (by rfl) (by rfl)) (de_one (de_notV (de_isi (c := "bool") (by decide) (by rfl) T.isinstance (de_var 0 (pv 0)) (pe_bltn (by rfl) T.bool (by decide +kernel) rfl) (by rfl) (by rfl) (by rfl)))))))
theorem l_law_whole : ∀ ds Q E, S_law_whole ds Q E → ds.length = 1 := sp1_len rfl
local macro_rules | `(tactic| walk_at "x") => `(tactic| simp only [kD_inr, kD_inl])
theorem w_law_whole : ∀ ds Q E, S_law_whole ds Q E → m_law_whole (enD Q E) (startD ["found"] ds) := sp1_w fun a Q E hq => by
  have hq : Q (.v (.bool (wholeB a))) := hq
  unfold m_law_whole startD
  walk_at "g"
  cases a <;> simpa [isiB, wholeB] using hq
theorem ok_law_whole {P : Program} {w : World} {K : K0} {mg : Str → Option Value} {base : Heap} {f : Addr} {fd : FuncData} (F : FunD K "_law_whole" "_law_whole" (defArgs st_law_whole) (defBody st_law_whole) (defScope st_law_whole) [] [] f fd) (g : mg "_law_whole" = some (.ref f)) (T : Gb mg) : FnAt P w K mg base 1 "_law_whole" ["found"] [] S_law_whole :=
  fnAt F g sc_law_whole (fun _ _ _ _ _ _ us hl => match us, hl with | [_], _ => rfl) l_law_whole (fun cdv A outer s H E G hr tk hp => d_law_whole T cdv A outer s H E G hr tk hp) w_law_whole
/-! law_height -/
def f_law_height : D → (R → Prop) → (Str → Prop) → Prop := fun a Q E => ∃ z : Int, a = .int z ∧ ∀ h : Nat, 1 ≤ h → h ≤ 60 → Q (.v (.int h))
def S_law_height : Spec := sp1 f_law_height
theorem e_law_height (x0 : D) (Q : R → Prop) (E : Str → Prop) : S_law_height [x0] Q E = f_law_height x0 Q E := rfl
abbrev st_law_height : Stmt := top 12
def m_law_height : WS := (wSq (wIf (c2 cEq (wMod (wVar 0) (wC (.int 2))) (wC (.int 0))) (wRet (wAdd (wC (.int 1)) (wMod (wDiv (wVar 0) (wC (.int 2))) (wC (.int 6))))) wNil) (wRet (wAdd (wC (.int 1)) (wMod (wDiv (wVar 0) (wC (.int 2))) (wC (.int 60))))))
theorem sc_law_height : FnScope ["cell"] ["cell"] (defScope st_law_height) := ⟨rfl, rfl, rfl, by decide +kernel, rfl, by decide +kernel, by decide +kernel⟩
theorem d_law_height {P : Program} {w : World} {K : K0} {mg : Str → Option Value} {base : Heap} (T : Gb mg) {f : Addr} (cdv : Value) (A : Around) (outer : List PySem.Env) (s : Shared) (H : Hp) (E : XK) (G : Hp) (hr : Room 0 (A.deeper (envOfC "_law_height" (defScope st_law_height) s.heap.objs.size f cdv)))
    (tk : Takes (XB P w K mg base ["cell"] "_law_height" (defScope st_law_height) f cdv A outer s H E) (fun cls d _ H => E cls d H)) (hp : PassesOwn (model P w) (XB P w K mg base ["cell"] "_law_height" (defScope st_law_height) f cdv A outer s H E).A (XB P w K mg base ["cell"] "_law_height" (defScope st_law_height) f cdv A outer s H E).env (XB P w K mg base ["cell"] "_law_height" (defScope st_law_height) f cdv A outer s H E).xe) :
    DSs (XB P w K mg base ["cell"] "_law_height" (defScope st_law_height) f cdv A outer s H E) (fun cls d _ H => E cls d H) G (defBody st_law_height) m_law_height :=
  (dss_cons (ds_if (dt_cmp (opEqD hr.units) (de_mod (de_var 0 (pv 0)) (de_c pe_int rfl)) (de_c pe_int rfl) (nomark _)) (dss_one (ds_ret (de_add (de_c pe_int rfl) (de_mod (de_div (de_var 0 (pv 0)) (de_c pe_int rfl)) (de_c pe_int rfl))))) dss_nil) (dss_one (ds_ret (de_add (de_c pe_int rfl) (de_mod (de_div (de_var 0 (pv 0)) (de_c pe_int rfl)) (de_c pe_int rfl))))))
theorem l_law_height : ∀ ds Q E, S_law_height ds Q E → ds.length = 1 := sp1_len rfl
local macro_rules | `(tactic| walk_at "x") => `(tactic| simp only [kD_inr, kD_inl])
theorem w_law_height : ∀ ds Q E, S_law_height ds Q E → m_law_height (enD Q E) (startD ["cell"] ds) := sp1_w (by
  rintro a0 Q E ⟨z, rfl, hq⟩
  unfold m_law_height startD
  walk_at "g"
  refine ite_i (fun h => ?_) fun h => ?_
  · walk_at "g"
    have := hq (1 + z / 2 % 6).toNat (by omega) (by omega)
    rwa [Int.toNat_of_nonneg (by omega)] at this
  · walk_at "g"
    have := hq (1 + z / 2 % 60).toNat (by omega) (by omega)
    rwa [Int.toNat_of_nonneg (by omega)] at this)
theorem ok_law_height {P : Program} {w : World} {K : K0} {mg : Str → Option Value} {base : Heap} {f : Addr} {fd : FuncData} (F : FunD K "_law_height" "_law_height" (defArgs st_law_height) (defBody st_law_height) (defScope st_law_height) [] [] f fd) (g : mg "_law_height" = some (.ref f)) (T : Gb mg) : FnAt P w K mg base 1 "_law_height" ["cell"] [] S_law_height :=
  fnAt F g sc_law_height (fun _ _ _ _ _ _ us hl => match us, hl with | [_], _ => rfl) l_law_height (fun cdv A outer s H E G hr tk hp => d_law_height T cdv A outer s H E G hr tk hp) w_law_height
/-! law_column -/
--uses MB
def f_law_column : D → D → (R → Prop) → (Str → Prop) → Prop := fun a b Q E => ∃ z : Int, a = .int z ∧ ∃ h : Nat, b = .int h ∧ h ≤ 1000 ∧ ∀ n : Nat, n < 2 ^ h → Q (.v (.int n))
def S_law_column : Spec := sp2 f_law_column
theorem e_law_column (x0 x1 : D) (Q : R → Prop) (E : Str → Prop) : S_law_column [x0, x1] Q E = f_law_column x0 x1 Q E := rfl
abbrev st_law_column : Stmt := top 13
def m_law_column : WS := (wRet (wMod (wDiv (wMul (wVar 0) (wC (.int 2862933555777941757))) (wC (.int 16))) (wShl (wC (.int 1)) (wVar 1))))
theorem sc_law_column : FnScope ["cell", "height"] ["cell", "height"] (defScope st_law_column) := ⟨rfl, rfl, rfl, by decide +kernel, rfl, by decide +kernel, by decide +kernel⟩
theorem d_law_column {P : Program} {w : World} {K : K0} {mg : Str → Option Value} {base : Heap} (T : Gb mg) {f : Addr} (cdv : Value) (A : Around) (outer : List PySem.Env) (s : Shared) (H : Hp) (E : XK) (G : Hp) (hr : Room 0 (A.deeper (envOfC "_law_column" (defScope st_law_column) s.heap.objs.size f cdv)))
    (tk : Takes (XB P w K mg base ["cell", "height"] "_law_column" (defScope st_law_column) f cdv A outer s H E) (fun cls d _ H => E cls d H)) (hp : PassesOwn (model P w) (XB P w K mg base ["cell", "height"] "_law_column" (defScope st_law_column) f cdv A outer s H E).A (XB P w K mg base ["cell", "height"] "_law_column" (defScope st_law_column) f cdv A outer s H E).env (XB P w K mg base ["cell", "height"] "_law_column" (defScope st_law_column) f cdv A outer s H E).xe) :
    DSs (XB P w K mg base ["cell", "height"] "_law_column" (defScope st_law_column) f cdv A outer s H E) (fun cls d _ H => E cls d H) G (defBody st_law_column) m_law_column :=
  (dss_one (ds_ret (de_mod (de_div (de_mul (de_var 0 (pv 0)) (de_c pe_int rfl)) (de_c pe_int rfl)) (de_shl (de_c pe_int rfl) (de_var 1 (pv 1))))))
theorem l_law_column : ∀ ds Q E, S_law_column ds Q E → ds.length = 2 := sp2_len rfl
local macro_rules | `(tactic| walk_at "x") => `(tactic| simp only [kD_inr, kD_inl])
theorem w_law_column : ∀ ds Q E, S_law_column ds Q E → m_law_column (enD Q E) (startD ["cell", "height"] ds) := sp2_w (by
  rintro a0 a1 Q E ⟨z, rfl, h, rfl, hh, hq⟩
  unfold m_law_column startD
  walk_at "g"
  generalize z * 2862933555777941757 / 16 = y
  obtain ⟨n, h1, h2⟩ := emod_nat (a := y) (b := ((2 ^ h : Nat) : Int)) (by have := Nat.two_pow_pos h; omega)
  try refine ⟨by have := Nat.two_pow_pos h; omega, ?_⟩
  rw [h1]
  exact hq n (by omega))
theorem ok_law_column {P : Program} {w : World} {K : K0} {mg : Str → Option Value} {base : Heap} {f : Addr} {fd : FuncData} (F : FunD K "_law_column" "_law_column" (defArgs st_law_column) (defBody st_law_column) (defScope st_law_column) [] [] f fd) (g : mg "_law_column" = some (.ref f)) (T : Gb mg) : FnAt P w K mg base 1 "_law_column" ["cell", "height"] [] S_law_column :=
  fnAt F g sc_law_column (fun _ _ _ _ _ _ us hl => match us, hl with | [_, _], _ => rfl) l_law_column (fun cdv A outer s H E G hr tk hp => d_law_column T cdv A outer s H E G hr tk hp) w_law_column
/-! law_beside -/
--uses MB
def f_law_beside : D → D → D → (R → Prop) → (Str → Prop) → Prop := fun a b c Q E => ∃ n : Nat, a = .int n ∧ ∃ z : Int, b = .int z ∧ ∃ h : Nat, c = .int h ∧ 1 ≤ h ∧ h ≤ 60 ∧ n < 2 ^ h ∧ ∀ m : Nat, m < 2 ^ h → Q (.v (.int m))
def S_law_beside : Spec := sp3 f_law_beside
theorem e_law_beside (x0 x1 x2 : D) (Q : R → Prop) (E : Str → Prop) : S_law_beside [x0, x1, x2] Q E = f_law_beside x0 x1 x2 Q E := rfl
abbrev st_law_beside : Stmt := top 14
def m_law_beside : WS := (wSq (wIf (c2 cEq (wMod (wVar 1) (wC (.int 4))) (wC (.int 0))) (wRet (wVar 0)) wNil) (wSq (wIf (c2 cEq (wMod (wVar 1) (wC (.int 4))) (wC (.int 1))) (wRet (wXor (wVar 0) (wShl (wC (.int 1)) (wMod (wDiv (wVar 1) (wC (.int 4))) (wVar 2))))) wNil) (wRet (wCall S_law_column [] (waC (wDiv (wVar 1) (wC (.int 4))) (waC (wVar 2) waN))))))
theorem sc_law_beside : FnScope ["column", "cell", "height"] ["column", "cell", "height"] (defScope st_law_beside) := ⟨rfl, rfl, rfl, by decide +kernel, rfl, by decide +kernel, by decide +kernel⟩
theorem d_law_beside {P : Program} {w : World} {K : K0} {mg : Str → Option Value} {base : Heap} (T : Gb mg) (F_law_column : FnAt P w K mg base 1 "_law_column" ["cell", "height"] [] S_law_column) {f : Addr} (cdv : Value) (A : Around) (outer : List PySem.Env) (s : Shared) (H : Hp) (E : XK) (G : Hp) (hr : Room 1 (A.deeper (envOfC "_law_beside" (defScope st_law_beside) s.heap.objs.size f cdv)))
    (tk : Takes (XB P w K mg base ["column", "cell", "height"] "_law_beside" (defScope st_law_beside) f cdv A outer s H E) (fun cls d _ H => E cls d H)) (hp : PassesOwn (model P w) (XB P w K mg base ["column", "cell", "height"] "_law_beside" (defScope st_law_beside) f cdv A outer s H E).A (XB P w K mg base ["column", "cell", "height"] "_law_beside" (defScope st_law_beside) f cdv A outer s H E).env (XB P w K mg base ["column", "cell", "height"] "_law_beside" (defScope st_law_beside) f cdv A outer s H E).xe) :
    DSs (XB P w K mg base ["column", "cell", "height"] "_law_beside" (defScope st_law_beside) f cdv A outer s H E) (fun cls d _ H => E cls d H) G (defBody st_law_beside) m_law_beside :=
  (dss_cons (ds_if (dt_cmp (opEqD hr.units) (de_mod (de_var 1 (pv 1)) (de_c pe_int rfl)) (de_c pe_int rfl) (nomark _)) (dss_one (ds_ret (de_var 0 (pv 0)))) dss_nil) (dss_cons (ds_if (dt_cmp (opEqD hr.units) (de_mod (de_var 1 (pv 1)) (de_c pe_int rfl)) (de_c pe_int rfl) (nomark _)) (dss_one (ds_ret (de_xor (de_var 0 (pv 0)) (de_shl (de_c pe_int rfl) (de_mod (de_div (de_var 1 (pv 1)) (de_c pe_int rfl)) (de_var 2 (pv 2))))))) dss_nil) (dss_one (ds_ret (de_call' F_law_column hr (by decide) (by rfl) (fun _ => .nil) tk (da_cons (de_div (de_var 1 (pv 1)) (de_c pe_int rfl)) (da_cons (de_var 2 (pv 2)) da_nil (by rfl)) (by rfl)) (by decide) (by rfl) (by rfl))))))
theorem l_law_beside : ∀ ds Q E, S_law_beside ds Q E → ds.length = 3 := sp3_len rfl
local macro_rules | `(tactic| walk_at "x") => `(tactic| simp only [e_law_column, f_law_column, kD_inr, kD_inl])
theorem w_law_beside : ∀ ds Q E, S_law_beside ds Q E → m_law_beside (enD Q E) (startD ["column", "cell", "height"] ds) := sp3_w (by
  rintro a0 a1 a2 Q E ⟨n, rfl, z, rfl, h, rfl, h1, h2, hn, hq⟩
  unfold m_law_beside startD
  walk_at "g"
  refine ite_i (fun _ => hq n hn) fun _ => ?_
  walk_at "g"
  refine ite_i (fun _ => ?_) fun _ => ?_
  · walk_at "g"
    obtain ⟨k, h3, h4⟩ := emod_nat (a := z / 4) (b := (h : Int)) (by omega)
    rw [h3]
    refine ⟨cpow_ok (by omega) (by omega) (by decide), ?_⟩
    walk_at "g"
    exact hq _ (Nat.xor_lt_two_pow hn (Nat.pow_lt_pow_right (by decide) (by omega)))
  · walk_at "g"
    exact hq)
theorem ok_law_beside {P : Program} {w : World} {K : K0} {mg : Str → Option Value} {base : Heap} {f : Addr} {fd : FuncData} (F : FunD K "_law_beside" "_law_beside" (defArgs st_law_beside) (defBody st_law_beside) (defScope st_law_beside) [] [] f fd) (g : mg "_law_beside" = some (.ref f)) (T : Gb mg) (F_law_column : FnAt P w K mg base 1 "_law_column" ["cell", "height"] [] S_law_column) : FnAt P w K mg base 2 "_law_beside" ["column", "cell", "height"] [] S_law_beside :=
  fnAt F g sc_law_beside (fun _ _ _ _ _ _ us hl => match us, hl with | [_, _, _], _ => rfl) l_law_beside (fun cdv A outer s H E G hr tk hp => d_law_beside T F_law_column cdv A outer s H E G hr tk hp) w_law_beside
/-! law_unlike -/
--uses MB
def f_law_unlike : D → D → (R → Prop) → (Str → Prop) → Prop := fun a b Q E => ∃ m : Nat, a = .int m ∧ ∃ n : Nat, b = .int n ∧ m < 2 ^ 60 ∧ n < 2 ^ 60 ∧ Q (.v (.int (apN m n)))
def S_law_unlike : Spec := sp2 f_law_unlike
theorem e_law_unlike (x0 x1 : D) (Q : R → Prop) (E : Str → Prop) : S_law_unlike [x0, x1] Q E = f_law_unlike x0 x1 Q E := rfl
abbrev st_law_unlike : Stmt := top 15
def m_law_unlike : WS := (wRet (wB (f1 lenD) (waC (wLc (wiR1 (wC (.int 60))) [2] (gN 2) (c2 cNe (wMod (wShr (wVar 0) (wVar 2)) (wC (.int 2))) (wMod (wShr (wVar 1) (wVar 2)) (wC (.int 2)))) (wVar 2)) waN)))
theorem sc_law_unlike : FnScope ["one", "other", "line"] ["one", "other"] (defScope st_law_unlike) := ⟨rfl, rfl, rfl, by decide +kernel, rfl, by decide +kernel, by decide +kernel⟩
theorem d_law_unlike {P : Program} {w : World} {K : K0} {mg : Str → Option Value} {base : Heap} (T : Gb mg) {f : Addr} (cdv : Value) (A : Around) (outer : List PySem.Env) (s : Shared) (H : Hp) (E : XK) (G : Hp) (hr : Room 0 (A.deeper (envOfC "_law_unlike" (defScope st_law_unlike) s.heap.objs.size f cdv)))
    (tk : Takes (XB P w K mg base ["one", "other", "line"] "_law_unlike" (defScope st_law_unlike) f cdv A outer s H E) (fun cls d _ H => E cls d H)) (hp : PassesOwn (model P w) (XB P w K mg base ["one", "other", "line"] "_law_unlike" (defScope st_law_unlike) f cdv A outer s H E).A (XB P w K mg base ["one", "other", "line"] "_law_unlike" (defScope st_law_unlike) f cdv A outer s H E).env (XB P w K mg base ["one", "other", "line"] "_law_unlike" (defScope st_law_unlike) f cdv A outer s H E).xe) :
    DSs (XB P w K mg base ["one", "other", "line"] "_law_unlike" (defScope st_law_unlike) f cdv A outer s H E) (fun cls d _ H => E cls d H) G (defBody st_law_unlike) m_law_unlike :=
  (dss_one (ds_ret (de_B cLen (by rfl) T.len (by decide +kernel) (da_cons (de_lc (own := [("line", 2)]) (N := ["one", "other", "line"]) (sc := defScope st_law_unlike) rfl sc_law_unlike.nd (dic_of (di_range1 (by rfl) T.range (de_c pe_int rfl) (by rfl) (by rfl))) (by decide +kernel) rfl rfl (fun _ _ _ _ _ => (dg_name (i := 2) (by decide) sc_law_unlike.nd rfl (by first | exact Or.inl rfl | exact Or.inr rfl) (by first | exact Or.inl rfl | exact Or.inr rfl))) (fun _ _ _ _ _ => pts_if (dt_cmp (opNeD hr.units) (de_mod (de_shr (de_var 0 (pv 0)) (de_var 2 (pv 2))) (de_c pe_int rfl)) (de_mod (de_shr (de_var 1 (pv 1)) (de_var 2 (pv 2))) (de_c pe_int rfl)) (nomark _))) (fun _ _ _ _ _ => (de_var 2 (pv 2))) (by intro _; rfl)) da_nil (by rfl)) (by decide) (by decide) (by rfl) (by rfl))))
theorem l_law_unlike : ∀ ds Q E, S_law_unlike ds Q E → ds.length = 2 := sp2_len rfl
local macro_rules | `(tactic| walk_at "x") => `(tactic| simp only [kD_inr, kD_inl])
theorem w_law_unlike : ∀ ds Q E, S_law_unlike ds Q E → m_law_unlike (enD Q E) (startD ["one", "other", "line"] ds) := sp2_w (by
  rintro a0 a1 Q E ⟨m, rfl, n, rfl, hm, hn, hq⟩
  unfold m_law_unlike startD
  walk_at "g"
  refine lc_filterE (fun i => bitAt m i != bitAt n i) (fun i : Nat => .int (i : Int)) (by decide) ?_ ?_
  · intro l hl A B hA hB
    walk_at "g"
    unfold bitAt at hA hB
    generalize m / 2 ^ l = u at hA hB ⊢
    generalize n / 2 ^ l = v at hA hB ⊢
    refine ite_i (fun h => hA ?_ _ True.intro rfl) fun h => hB ?_
    · simp at h; rw [bne_iff_ne]; intro e; rw [decide_eq_decide] at e; omega
    · simp at h; rw [bne_eq_false_iff_eq, decide_eq_decide]; omega
  · walk_at "g"
    have e := linesN_range 60 (m ^^^ n) 0 (Nat.xor_lt_two_pow hm hn)
    simp only [Nat.add_zero, List.map_id'] at e
    rw [show ((List.range 60).filter fun i => bitAt m i != bitAt n i) = linesN (m ^^^ n) 0 from by rw [e]; congr 1; funext i; rw [bitAt_xor], linesN_length]
    exact hq)
theorem ok_law_unlike {P : Program} {w : World} {K : K0} {mg : Str → Option Value} {base : Heap} {f : Addr} {fd : FuncData} (F : FunD K "_law_unlike" "_law_unlike" (defArgs st_law_unlike) (defBody st_law_unlike) (defScope st_law_unlike) [] [] f fd) (g : mg "_law_unlike" = some (.ref f)) (T : Gb mg) : FnAt P w K mg base 1 "_law_unlike" ["one", "other"] [] S_law_unlike :=
  fnAt F g sc_law_unlike (fun _ _ _ _ _ _ us hl => match us, hl with | [_, _], _ => rfl) l_law_unlike (fun cdv A outer s H E G hr tk hp => d_law_unlike T cdv A outer s H E G hr tk hp) w_law_unlike
/-! law_spots -/
--uses M3A
def f_law_spots : D → D → D → D → (R → Prop) → (Str → Prop) → Prop := fun a b c d Q E => ∃ xs : List Nat, b = .list (nL xs) ∧ ∃ ys : List Nat, c = .list (nL ys) ∧ a = .list (pL (spotsN 0 xs ys)) ∧ ∃ h : Nat, d = .int h ∧ h ≤ 60 ∧ xs.length = ys.length ∧ xs.length ≤ 1000 ∧ (∀ x ∈ xs, x < 2 ^ h) ∧ (∀ y ∈ ys, y < 2 ^ h) ∧ Q (.v (.bool true))
def S_law_spots : Spec := sp4 f_law_spots
theorem e_law_spots (x0 x1 x2 x3 : D) (Q : R → Prop) (E : Str → Prop) : S_law_spots [x0, x1, x2, x3] Q E = f_law_spots x0 x1 x2 x3 Q E := rfl
abbrev st_law_spots : Stmt := top 16
def m_law_spots : WS := (wSq (wIf (wtNot (wTru (wIsi "list" (wVar 0)))) (wRet (wC (.bool false))) wNil) (wSq (wLet 4 (wTup (waC (wC (.int 0)) (waC (wNeg (wC (.int 1))) waN)))) (wSq (wFor (wiA (wVar 0)) (gN 5) (wSq (wIf (wtOr (wtNot (wTru (wIsi "tuple" (wVar 5)))) (c2 cNe (wB (f1 lenD) (waC (wVar 5) waN)) (wC (.int 2)))) (wRet (wC (.bool false))) wNil) (wSq (wIf (wtOr (wtNot (wTru (wCall S_law_whole [] (waC (wIx (wVar 5) (wC (.int 0))) waN)))) (wtOr (wtNot (wTru (wCall S_law_whole [] (waC (wIx (wVar 5) (wC (.int 1))) waN)))) (c2 cLeA (wVar 5) (wVar 4)))) (wRet (wC (.bool false))) wNil) (wSq (wIf (wtOr (c2 cGe (wIx (wVar 5) (wC (.int 0))) (wB (f1 lenD) (waC (wVar 1) waN))) (wtOr (c2 cLt (wIx (wVar 5) (wC (.int 1))) (wC (.int 0))) (c2 cGe (wIx (wVar 5) (wC (.int 1))) (wVar 3)))) (wRet (wC (.bool false))) wNil) (wSq (wIf (c2 cEq (wMod (wShr (wIx (wVar 1) (wIx (wVar 5) (wC (.int 0)))) (wIx (wVar 5) (wC (.int 1)))) (wC (.int 2))) (wMod (wShr (wIx (wVar 2) (wIx (wVar 5) (wC (.int 0)))) (wIx (wVar 5) (wC (.int 1)))) (wC (.int 2)))) (wRet (wC (.bool false))) wNil) (wLet 4 (wVar 5))))))) (wRet (wtv (c2 cEq (wB (f1 lenD) (waC (wVar 0) waN)) (wB (f1 sumD) (waC (wLc (wiR1 (wB (f1 lenD) (waC (wVar 1) waN))) [6] (gN 6) wYes (wCall S_law_unlike [] (waC (wIx (wVar 1) (wVar 6)) (waC (wIx (wVar 2) (wVar 6)) waN)))) waN))))))))
theorem sc_law_spots : FnScope ["found", "one", "other", "height", "last", "spot", "k"] ["found", "one", "other", "height"] (defScope st_law_spots) := ⟨rfl, rfl, rfl, by decide +kernel, rfl, by decide +kernel, by decide +kernel⟩
theorem d_law_spots {P : Program} {w : World} {K : K0} {mg : Str → Option Value} {base : Heap} (T : Gb mg) (F_law_unlike : FnAt P w K mg base 1 "_law_unlike" ["one", "other"] [] S_law_unlike) (F_law_whole : FnAt P w K mg base 1 "_law_whole" ["found"] [] S_law_whole) {f : Addr} (cdv : Value) (A : Around) (outer : List PySem.Env) (s : Shared) (H : Hp) (E : XK) (G : Hp) (hr : Room 1 (A.deeper (envOfC "_law_spots" (defScope st_law_spots) s.heap.objs.size f cdv)))
    (tk : Takes (XB P w K mg base ["found", "one", "other", "height", "last", "spot", "k"] "_law_spots" (defScope st_law_spots) f cdv A outer s H E) (fun cls d _ H => E cls d H)) (hp : PassesOwn (model P w) (XB P w K mg base ["found", "one", "other", "height", "last", "spot", "k"] "_law_spots" (defScope st_law_spots) f cdv A outer s H E).A (XB P w K mg base ["found", "one", "other", "height", "last", "spot", "k"] "_law_spots" (defScope st_law_spots) f cdv A outer s H E).env (XB P w K mg base ["found", "one", "other", "height", "last", "spot", "k"] "_law_spots" (defScope st_law_spots) f cdv A outer s H E).xe) :
    DSs (XB P w K mg base ["found", "one", "other", "height", "last", "spot", "k"] "_law_spots" (defScope st_law_spots) f cdv A outer s H E) (fun cls d _ H => E cls d H) G (defBody st_law_spots) m_law_spots :=
  (dss_cons (ds_if (dt_not (dt_tru (de_isi (c := "list") (by decide) (by rfl) T.isinstance (de_var 0 (pv 0)) (pe_bltn (by rfl) T.list (by decide +kernel) rfl) (by rfl) (by rfl) (by rfl)) (by intro _; rfl))) (dss_one (ds_ret (de_c pe_bl rfl))) dss_nil) (dss_cons (ds_let (i := 4) sc_law_spots.nd rfl (by first | exact Or.inl rfl | exact Or.inr rfl) (de_tup (da_cons (de_c pe_int rfl) (da_cons (de_neg (de_c pe_int rfl)) da_nil (by rfl)) (by rfl))) (by rfl) (by first | exact Or.inl rfl | exact Or.inr rfl)) (dss_cons (ds_for (vs := [5]) hp rfl (di_any (de_var 0 (pv 0))) (dg_name (i := 5) (by decide) sc_law_spots.nd rfl (by first | exact Or.inl rfl | exact Or.inr rfl) (by first | exact Or.inl rfl | exact Or.inr rfl)) (dss_cons (ds_if (dt_w (dw_or (dt_not (dt_tru (de_isi (c := "tuple") (by decide) (by rfl) T.isinstance (de_var 5 (pv 5)) (pe_bltn (by rfl) T.tuple (by decide +kernel) rfl) (by rfl) (by rfl) (by rfl)) (by intro _; rfl))) (dw_or1 (dt_cmp (opNeD hr.units) (de_B cLen (by rfl) T.len (by decide +kernel) (da_cons (de_var 5 (pv 5)) da_nil (by rfl)) (by decide) (by decide) (by rfl) (by rfl)) (de_c pe_int rfl) (nomark _))))) (dss_one (ds_ret (de_c pe_bl rfl))) dss_nil) (dss_cons (ds_if (dt_w (dw_or (dt_not (dt_tru (de_call' F_law_whole hr (by decide) (by rfl) (fun _ => .nil) tk (da_cons (de_ix (hu_of hr) (de_var 5 (pv 5)) (de_c pe_int rfl) (fun _ _ => rfl)) da_nil (by rfl)) (by decide) (by rfl) (by rfl)) (by intro _; rfl))) (dw_or (dt_not (dt_tru (de_call' F_law_whole hr (by decide) (by rfl) (fun _ => .nil) tk (da_cons (de_ix (hu_of hr) (de_var 5 (pv 5)) (de_c pe_int rfl) (fun _ _ => rfl)) da_nil (by rfl)) (by decide) (by rfl) (by rfl)) (by intro _; rfl))) (dw_or1 (dt_cmp (opLeA hr.units) (de_var 5 (pv 5)) (de_var 4 (pv 4)) (nomark _)))))) (dss_one (ds_ret (de_c pe_bl rfl))) dss_nil) (dss_cons (ds_if (dt_w (dw_or (dt_cmp opGeD (de_ix (hu_of hr) (de_var 5 (pv 5)) (de_c pe_int rfl) (fun _ _ => rfl)) (de_B cLen (by rfl) T.len (by decide +kernel) (da_cons (de_var 1 (pv 1)) da_nil (by rfl)) (by decide) (by decide) (by rfl) (by rfl)) (nomark _)) (dw_or (dt_cmp (opLtD hr.units0) (de_ix (hu_of hr) (de_var 5 (pv 5)) (de_c pe_int rfl) (fun _ _ => rfl)) (de_c pe_int rfl) (nomark _)) (dw_or1 (dt_cmp opGeD (de_ix (hu_of hr) (de_var 5 (pv 5)) (de_c pe_int rfl) (fun _ _ => rfl)) (de_var 3 (pv 3)) (nomark _)))))) (dss_one (ds_ret (de_c pe_bl rfl))) dss_nil) (dss_cons (ds_if (dt_cmp (opEqD hr.units) (de_mod (de_shr (de_ix (hu_of hr) (de_var 1 (pv 1)) (de_ix (hu_of hr) (de_var 5 (pv 5)) (de_c pe_int rfl) (fun _ _ => rfl)) (fun _ _ => rfl)) (de_ix (hu_of hr) (de_var 5 (pv 5)) (de_c pe_int rfl) (fun _ _ => rfl))) (de_c pe_int rfl)) (de_mod (de_shr (de_ix (hu_of hr) (de_var 2 (pv 2)) (de_ix (hu_of hr) (de_var 5 (pv 5)) (de_c pe_int rfl) (fun _ _ => rfl)) (fun _ _ => rfl)) (de_ix (hu_of hr) (de_var 5 (pv 5)) (de_c pe_int rfl) (fun _ _ => rfl))) (de_c pe_int rfl)) (nomark _)) (dss_one (ds_ret (de_c pe_bl rfl))) dss_nil) (dss_one (ds_let (i := 4) sc_law_spots.nd rfl (by first | exact Or.inl rfl | exact Or.inr rfl) (de_var 5 (pv 5)) (by rfl) (by first | exact Or.inl rfl | exact Or.inr rfl))))))) (by intro _; rfl)) (dss_one (ds_ret (de_cmp (opEqD hr.units) (de_B cLen (by rfl) T.len (by decide +kernel) (da_cons (de_var 0 (pv 0)) da_nil (by rfl)) (by decide) (by decide) (by rfl) (by rfl)) (de_B (cSum rfl) (by rfl) T.sum (by decide +kernel) (da_cons (de_lc (own := [("k", 6)]) (N := ["found", "one", "other", "height", "last", "spot", "k"]) (sc := defScope st_law_spots) rfl sc_law_spots.nd (dic_of (di_range1 (by rfl) T.range (de_B cLen (by rfl) T.len (by decide +kernel) (da_cons (de_var 1 (pv 1)) da_nil (by rfl)) (by decide) (by decide) (by rfl) (by rfl)) (by rfl) (by rfl))) (by decide +kernel) rfl rfl (fun _ _ _ _ _ => (dg_name (i := 6) (by decide) sc_law_spots.nd rfl (by first | exact Or.inl rfl | exact Or.inr rfl) (by first | exact Or.inl rfl | exact Or.inr rfl))) (fun _ _ _ _ _ => pts_no) (fun _ _ _ _ _ => (de_call' F_law_unlike hr (by decide) (by rfl) (fun _ => .nil) takes0 (da_cons (de_ix (hu_of hr) (de_var 1 (pv 1)) (de_var 6 (pv 6)) (fun _ _ => rfl)) (da_cons (de_ix (hu_of hr) (de_var 2 (pv 2)) (de_var 6 (pv 6)) (fun _ _ => rfl)) da_nil (by rfl)) (by rfl)) (by decide) (by rfl) (by rfl))) (by intro _; rfl)) da_nil (by rfl)) (by decide) (by decide) (by rfl) (by rfl)) (nomark _)))))))
theorem l_law_spots : ∀ ds Q E, S_law_spots ds Q E → ds.length = 4 := sp4_len rfl
local macro_rules | `(tactic| walk_at "x") => `(tactic| simp only [e_law_unlike, f_law_unlike, e_law_whole, f_law_whole, kD_inr, kD_inl])
theorem w_law_spots : ∀ ds Q E, S_law_spots ds Q E → m_law_spots (enD Q E) (startD ["found", "one", "other", "height", "last", "spot", "k"] ds) := sp4_w (by
  rintro a0 a1 a2 a3 Q E ⟨xs, rfl, ys, rfl, rfl, h, rfl, h60, hl, h1000, hx, hy, hq⟩
  unfold m_law_spots startD
  walk_at "h"
  have hs := spotsN_sorted (h := h) 0 hx hy
  refine for_gs [4, 5] (fun y : (Int × Int) × Option O => [some (.fro (.tuple [.int y.1.1, .int y.1.2])), y.2]) (fun k y => (k = 0 ∧ y.1 = (0, -1)) ∨ ∃ p, 0 < k ∧ (spotsN 0 xs ys)[k - 1]? = some p ∧ y.1 = ((p.1 : Int), (p.2 : Int))) ((0, -1), none) rfl (.inl ⟨rfl, rfl⟩) ?_ ?_
  · rintro k ⟨a, b⟩ ⟨⟨u, v⟩, o⟩ hd hI
    obtain ⟨g1, g2, g3⟩ := spots_ok hl hx hy (List.mem_of_getElem? hd)
    simp only at hI g1 g2 g3
    walk_at "h"
    refine ite_i (fun z => absurd z (by simp)) fun _ => ?_
    walk_at "h"
    simp only [wholeB]
    walk_at "h"
    have lt : W.dataLt (PyData.tuple [PyData.int u, PyData.int v]) (pD (a, b)) = true := by
      show W.dataLt (PyData.tuple [PyData.int u, PyData.int v]) (PyData.tuple [PyData.int (a : Int), PyData.int (b : Int)]) = true
      rw [PySem.W.dataLt_ii]
      rcases hI with ⟨rfl, e⟩ | ⟨p, hk, hp, e⟩
      · simp at e; simp; omega
      · obtain ⟨j, rfl⟩ : ∃ j, k = j + 1 := ⟨k - 1, by omega⟩
        have := pair_step hs hp hd
        simp at e
        simp [ltP] at this ⊢
        omega
    refine ⟨okA_ii _ _ _ _, ?_⟩
    refine ite_i (fun z => absurd z (by rw [lt]; simp)) fun _ => ?_
    walk_at "h"
    refine ite_i (fun z => absurd z (by simp; omega)) fun _ => ?_
    walk_at "h"
    refine ⟨_, atI_map_lt _ g1, ?_⟩
    walk_at "h"
    refine ⟨_, atI_map_lt _ (by omega : a < ys.length), ?_⟩
    walk_at "h"
    have e1 : xs.getD a 0 = xs[a] := by rw [List.getD_eq_getElem?_getD, List.getElem?_eq_getElem g1]; rfl
    have e2 : ys.getD a 0 = ys[a] := by rw [List.getD_eq_getElem?_getD, List.getElem?_eq_getElem (by omega)]; rfl
    rw [e1, e2] at g3
    exact ite_i (fun z => absurd z (by omega)) fun _ => nxF (((a : Int), (b : Int)), some (.fro (pD (a, b)))) rfl (.inr ⟨by omega, (a, b), by simpa using hd, rfl⟩)
  · rintro ⟨⟨u, v⟩, o⟩ hI
    walk_at "h"
    refine lc_mapE (ls := List.range xs.length) (fun j : Nat => .int (apN (xs.getD j 0) (ys.getD j 0))) (by rw [sizeLine_eq, List.length_range]; omega) (fun j mj A hA => ?_) ?_
    · have hj := List.mem_range.mp mj
      walk_at "h"
      refine ⟨_, atI_map_lt _ hj, _, atI_map_lt _ (by omega : j < ys.length), xs[j], rfl, ys[j], rfl, lt_pow (hx _ (List.getElem_mem _)) h60, lt_pow (hy _ (List.getElem_mem _)) h60, hA _ True.intro ?_⟩
      simp only [R.d_v]
      rw [List.getD_eq_getElem?_getD, List.getElem?_eq_getElem hj, List.getD_eq_getElem?_getD, List.getElem?_eq_getElem (by omega)]; rfl
    · walk_at "h"
      refine ⟨(List.range xs.length).map fun j => ((apN (xs.getD j 0) (ys.getD j 0) : Nat) : Int), by rw [List.map_map]; rfl, ?_⟩
      have e : ((List.range xs.length).map fun j => ((apN (xs.getD j 0) (ys.getD j 0) : Nat) : Int)).sum = ((spotsN 0 xs ys).length : Int) := by
        rw [spotsN_len, ← gapN_range hl]
        generalize List.range xs.length = ls
        induction ls with
        | nil => rfl
        | cons x r ih => simp only [List.map_cons, List.sum_cons, ih]; omega
      rw [e, decide_eq_true rfl]
      exact hq)
theorem ok_law_spots {P : Program} {w : World} {K : K0} {mg : Str → Option Value} {base : Heap} {f : Addr} {fd : FuncData} (F : FunD K "_law_spots" "_law_spots" (defArgs st_law_spots) (defBody st_law_spots) (defScope st_law_spots) [] [] f fd) (g : mg "_law_spots" = some (.ref f)) (T : Gb mg) (F_law_unlike : FnAt P w K mg base 1 "_law_unlike" ["one", "other"] [] S_law_unlike) (F_law_whole : FnAt P w K mg base 1 "_law_whole" ["found"] [] S_law_whole) : FnAt P w K mg base 2 "_law_spots" ["found", "one", "other", "height"] [] S_law_spots :=
  fnAt F g sc_law_spots (fun _ _ _ _ _ _ us hl => match us, hl with | [_, _, _, _], _ => rfl) l_law_spots (fun cdv A outer s H E G hr tk hp => d_law_spots T F_law_unlike F_law_whole cdv A outer s H E G hr tk hp) w_law_spots
/-! law_strip -/
--uses MB
def f_law_strip : D → D → (R → Prop) → (Str → Prop) → Prop := fun a b Q E => ∃ xs : List Nat, a = .list (nL xs) ∧ ∃ ys : List Nat, b = .list (nL ys) ∧ Q (.v (.bool (decide (xs = ys))))
def S_law_strip : Spec := sp2 f_law_strip
theorem e_law_strip (x0 x1 : D) (Q : R → Prop) (E : Str → Prop) : S_law_strip [x0, x1] Q E = f_law_strip x0 x1 Q E := rfl
abbrev st_law_strip : Stmt := top 17
def m_law_strip : WS := (wSq (wIf (wtNot (wTru (wIsi "list" (wVar 0)))) (wRet (wC (.bool false))) wNil) (wSq (wFor (wiA (wVar 0)) (gN 2) (wIf (wtNot (wTru (wCall S_law_whole [] (waC (wVar 2) waN)))) (wRet (wC (.bool false))) wNil)) (wRet (wtv (c2 cEq (wVar 0) (wVar 1))))))
theorem sc_law_strip : FnScope ["found", "due", "one"] ["found", "due"] (defScope st_law_strip) := ⟨rfl, rfl, rfl, by decide +kernel, rfl, by decide +kernel, by decide +kernel⟩
theorem d_law_strip {P : Program} {w : World} {K : K0} {mg : Str → Option Value} {base : Heap} (T : Gb mg) (F_law_whole : FnAt P w K mg base 1 "_law_whole" ["found"] [] S_law_whole) {f : Addr} (cdv : Value) (A : Around) (outer : List PySem.Env) (s : Shared) (H : Hp) (E : XK) (G : Hp) (hr : Room 1 (A.deeper (envOfC "_law_strip" (defScope st_law_strip) s.heap.objs.size f cdv)))
    (tk : Takes (XB P w K mg base ["found", "due", "one"] "_law_strip" (defScope st_law_strip) f cdv A outer s H E) (fun cls d _ H => E cls d H)) (hp : PassesOwn (model P w) (XB P w K mg base ["found", "due", "one"] "_law_strip" (defScope st_law_strip) f cdv A outer s H E).A (XB P w K mg base ["found", "due", "one"] "_law_strip" (defScope st_law_strip) f cdv A outer s H E).env (XB P w K mg base ["found", "due", "one"] "_law_strip" (defScope st_law_strip) f cdv A outer s H E).xe) :
    DSs (XB P w K mg base ["found", "due", "one"] "_law_strip" (defScope st_law_strip) f cdv A outer s H E) (fun cls d _ H => E cls d H) G (defBody st_law_strip) m_law_strip :=
  (dss_cons (ds_if (dt_not (dt_tru (de_isi (c := "list") (by decide) (by rfl) T.isinstance (de_var 0 (pv 0)) (pe_bltn (by rfl) T.list (by decide +kernel) rfl) (by rfl) (by rfl) (by rfl)) (by intro _; rfl))) (dss_one (ds_ret (de_c pe_bl rfl))) dss_nil) (dss_cons (ds_for (vs := [2]) hp rfl (di_any (de_var 0 (pv 0))) (dg_name (i := 2) (by decide) sc_law_strip.nd rfl (by first | exact Or.inl rfl | exact Or.inr rfl) (by first | exact Or.inl rfl | exact Or.inr rfl)) (dss_one (ds_if (dt_not (dt_tru (de_call' F_law_whole hr (by decide) (by rfl) (fun _ => .nil) tk (da_cons (de_var 2 (pv 2)) da_nil (by rfl)) (by decide) (by rfl) (by rfl)) (by intro _; rfl))) (dss_one (ds_ret (de_c pe_bl rfl))) dss_nil)) (by intro _; rfl)) (dss_one (ds_ret (de_cmp (opEqD hr.units) (de_var 0 (pv 0)) (de_var 1 (pv 1)) (nomark _))))))
theorem l_law_strip : ∀ ds Q E, S_law_strip ds Q E → ds.length = 2 := sp2_len rfl
local macro_rules | `(tactic| walk_at "x") => `(tactic| simp only [e_law_whole, f_law_whole, kD_inr, kD_inl])
theorem w_law_strip : ∀ ds Q E, S_law_strip ds Q E → m_law_strip (enD Q E) (startD ["found", "due", "one"] ds) := sp2_w (by
  rintro a0 a1 Q E ⟨xs, rfl, ys, rfl, hq⟩
  unfold m_law_strip startD
  walk_at "h"
  refine for_chk (fun k c hc => ?_) fun o => ?_
  · walk_at "h"
    simp only [wholeB]
    walk_at "h"
    exact stay _ rfl
  · walk_at "h"
    exact hq)
theorem ok_law_strip {P : Program} {w : World} {K : K0} {mg : Str → Option Value} {base : Heap} {f : Addr} {fd : FuncData} (F : FunD K "_law_strip" "_law_strip" (defArgs st_law_strip) (defBody st_law_strip) (defScope st_law_strip) [] [] f fd) (g : mg "_law_strip" = some (.ref f)) (T : Gb mg) (F_law_whole : FnAt P w K mg base 1 "_law_whole" ["found"] [] S_law_whole) : FnAt P w K mg base 2 "_law_strip" ["found", "due"] [] S_law_strip :=
  fnAt F g sc_law_strip (fun _ _ _ _ _ _ us hl => match us, hl with | [_, _], _ => rfl) l_law_strip (fun cdv A outer s H E G hr tk hp => d_law_strip T F_law_whole cdv A outer s H E G hr tk hp) w_law_strip
/-! law_turned -/
--uses M3A
def f_law_turned : D → D → (R → Prop) → (Str → Prop) → Prop := fun a b Q E => ∃ xs : List Nat, a = .list (nL xs) ∧ ∃ ps : List (Nat × Nat), b = .list (pL ps) ∧ (∀ p ∈ ps, p.1 < xs.length ∧ p.2 < 60) ∧ (∀ x ∈ xs, x < 2 ^ 60) ∧ ps.length ≤ 1000 ∧ Q (.t (.lst (nL (turnN xs (cPs ps)))))
def S_law_turned : Spec := sp2 f_law_turned
theorem e_law_turned (x0 x1 : D) (Q : R → Prop) (E : Str → Prop) : S_law_turned [x0, x1] Q E = f_law_turned x0 x1 Q E := rfl
abbrev st_law_turned : Stmt := top 18
def m_law_turned : WS := (wSq (wAsg 2 wNd0) (wSq (wFor (wiA (wVar 1)) (gN 3) (wStN 2 (wVar 3) (wSub (wC (.int 1)) (wGetN (wVar 2) (wVar 3) (wC (.int 0)))))) (wSq (wAsg 4 (wB (f1s listD) (waC (wVar 0) waN))) (wSq (wFrz [2] (wForK 2 (gN 3) (wIf (wtAnd (c2 cEq (wIxN (wVar 2) (wVar 3)) (wC (.int 1))) (c2 cEq (wMod (wShr (wIx (wVar 4) (wIx (wVar 3) (wC (.int 0)))) (wIx (wVar 3) (wC (.int 1)))) (wC (.int 2))) (wC (.int 1)))) (wSt 4 (wIx (wVar 3) (wC (.int 0))) (wSub (wIx (wVar 4) (wIx (wVar 3) (wC (.int 0)))) (wShl (wC (.int 1)) (wIx (wVar 3) (wC (.int 1)))))) (wIf (c2 cEq (wIxN (wVar 2) (wVar 3)) (wC (.int 1))) (wSt 4 (wIx (wVar 3) (wC (.int 0))) (wAdd (wIx (wVar 4) (wIx (wVar 3) (wC (.int 0)))) (wShl (wC (.int 1)) (wIx (wVar 3) (wC (.int 1)))))) wNil)))) (wRet (wVar 4))))))
theorem sc_law_turned : FnScope ["strip", "spots", "table", "spot", "due"] ["strip", "spots"] (defScope st_law_turned) := ⟨rfl, rfl, rfl, by decide +kernel, rfl, by decide +kernel, by decide +kernel⟩
theorem d_law_turned {P : Program} {w : World} {K : K0} {mg : Str → Option Value} {base : Heap} (T : Gb mg) {f : Addr} (cdv : Value) (A : Around) (outer : List PySem.Env) (s : Shared) (H : Hp) (E : XK) (G : Hp) (hr : Room 0 (A.deeper (envOfC "_law_turned" (defScope st_law_turned) s.heap.objs.size f cdv)))
    (tk : Takes (XB P w K mg base ["strip", "spots", "table", "spot", "due"] "_law_turned" (defScope st_law_turned) f cdv A outer s H E) (fun cls d _ H => E cls d H)) (hp : PassesOwn (model P w) (XB P w K mg base ["strip", "spots", "table", "spot", "due"] "_law_turned" (defScope st_law_turned) f cdv A outer s H E).A (XB P w K mg base ["strip", "spots", "table", "spot", "due"] "_law_turned" (defScope st_law_turned) f cdv A outer s H E).env (XB P w K mg base ["strip", "spots", "table", "spot", "due"] "_law_turned" (defScope st_law_turned) f cdv A outer s H E).xe) :
    DSs (XB P w K mg base ["strip", "spots", "table", "spot", "due"] "_law_turned" (defScope st_law_turned) f cdv A outer s H E) (fun cls d _ H => E cls d H) G (defBody st_law_turned) m_law_turned :=
  (dss_cons (ds_set (i := 2) sc_law_turned.nd rfl (by first | exact Or.inl rfl | exact Or.inr rfl) de_nd0 (by rfl) (by first | exact Or.inl rfl | exact Or.inr rfl)) (dss_cons (ds_for (vs := [3]) hp rfl (di_any (de_var 1 (pv 1))) (dg_name (i := 3) (by decide) sc_law_turned.nd rfl (by first | exact Or.inl rfl | exact Or.inr rfl) (by first | exact Or.inl rfl | exact Or.inr rfl)) (dss_one (ds_stN (i := 2) hr.units (pv 2) (de_var 3 (pv 3)) (de_sub (de_c pe_int rfl) (de_getN hr.units ⟨by rfl, by rfl, by rfl, by rfl⟩ (de_var 2 (pv 2)) (de_var 3 (pv 3)) (de_c pe_int rfl))) (by intro _; rfl) (by rfl) (by rfl))) (by intro _; rfl)) (dss_cons (ds_set (i := 4) sc_law_turned.nd rfl (by first | exact Or.inl rfl | exact Or.inr rfl) (de_T cList (by rfl) T.list (by decide +kernel) (da_cons (de_var 0 (pv 0)) da_nil (by rfl)) (by decide) (by decide) (by rfl) (by rfl)) (by rfl) (by first | exact Or.inl rfl | exact Or.inr rfl)) (dss_cons (ds_frz [2] (ds_forK (i := 2) (vs := [3]) (pv 2) hp rfl (dg_name (i := 3) (by decide) sc_law_turned.nd rfl (by first | exact Or.inl rfl | exact Or.inr rfl) (by first | exact Or.inl rfl | exact Or.inr rfl)) (dss_one (ds_if (dt_w (dw_and (dt_cmp (opEqD hr.units) (de_ixN hr.units (de_var 2 (pv 2)) (de_var 3 (pv 3)) (fun _ _ => rfl)) (de_c pe_int rfl) (nomark _)) (dw_and1 (dt_cmp (opEqD hr.units) (de_mod (de_shr (de_ix (hu_of hr) (de_var 4 (pv 4)) (de_ix (hu_of hr) (de_var 3 (pv 3)) (de_c pe_int rfl) (fun _ _ => rfl)) (fun _ _ => rfl)) (de_ix (hu_of hr) (de_var 3 (pv 3)) (de_c pe_int rfl) (fun _ _ => rfl))) (de_c pe_int rfl)) (de_c pe_int rfl) (nomark _))))) (dss_one (ds_st (i := 4) (hu_of hr) (pv 4) (de_ix (hu_of hr) (de_var 3 (pv 3)) (de_c pe_int rfl) (fun _ _ => rfl)) (de_sub (de_ix (hu_of hr) (de_var 4 (pv 4)) (de_ix (hu_of hr) (de_var 3 (pv 3)) (de_c pe_int rfl) (fun _ _ => rfl)) (fun _ _ => rfl)) (de_shl (de_c pe_int rfl) (de_ix (hu_of hr) (de_var 3 (pv 3)) (de_c pe_int rfl) (fun _ _ => rfl)))) (by intro _; rfl) (by rfl) (by rfl))) (dss_one (ds_if (dt_cmp (opEqD hr.units) (de_ixN hr.units (de_var 2 (pv 2)) (de_var 3 (pv 3)) (fun _ _ => rfl)) (de_c pe_int rfl) (nomark _)) (dss_one (ds_st (i := 4) (hu_of hr) (pv 4) (de_ix (hu_of hr) (de_var 3 (pv 3)) (de_c pe_int rfl) (fun _ _ => rfl)) (de_add (de_ix (hu_of hr) (de_var 4 (pv 4)) (de_ix (hu_of hr) (de_var 3 (pv 3)) (de_c pe_int rfl) (fun _ _ => rfl)) (fun _ _ => rfl)) (de_shl (de_c pe_int rfl) (de_ix (hu_of hr) (de_var 3 (pv 3)) (de_c pe_int rfl) (fun _ _ => rfl)))) (by intro _; rfl) (by rfl) (by rfl))) dss_nil)))) (by intro _; rfl))) (dss_one (ds_ret (de_var 4 (pv 4))))))))
theorem l_law_turned : ∀ ds Q E, S_law_turned ds Q E → ds.length = 2 := sp2_len rfl
local macro_rules | `(tactic| walk_at "x") => `(tactic| simp only [kD_inr, kD_inl])
theorem w_law_turned : ∀ ds Q E, S_law_turned ds Q E → m_law_turned (enD Q E) (startD ["strip", "spots", "table", "spot", "due"] ds) := sp2_w (by
  rintro a0 a1 Q E ⟨xs, rfl, ps, rfl, hp, hx, hl, hq⟩
  unfold m_law_turned startD
  walk_at "h"
  refine for_gs [2, 3] (fun y : List ((Nat × Nat) × Nat) × Option O => [some (.nd (dN pD (fun v : Nat => .int v) y.1)), y.2]) (fun k y => y.1 = tabG (ps.take k)) ([], none) rfl rfl ?_ ?_
  · rintro k p ⟨t, o⟩ hd hI
    simp only at hI
    have hk := (List.getElem?_eq_some_iff.mp hd).1
    have t3 := (tabG_ok _ (ps.take k) rfl).2.2.1 p
    have t2 := (tabG_ok _ (ps.take k) rfl).2.1
    rw [← hI] at t2 t3
    rw [List.length_take] at t2
    walk_at "h"
    rw [lookN_dN pD_inj]
    have e1 : ((lookG t p).map fun v : Nat => PyData.int v).getD (.int 0) = .int (((lookG t p).getD 0 : Nat) : Int) := by cases lookG t p <;> rfl
    rw [e1]
    walk_at "h"
    refine ⟨by rw [dN_len, sizeLine_eq]; omega, nxF (tabG (ps.take (k + 1)), some (.fro (pD p))) ?_ rfl⟩
    have e2 : (1 : Int) - (((lookG t p).getD 0 : Nat) : Int) = ((1 - (lookG t p).getD 0 : Nat) : Int) := by rw [t3]; split <;> rfl
    rw [e2, take_succ hd, tabG_snoc, ← hI]
    have := putN_dN (enc := fun v : Nat => PyData.int v) pD_inj t p (1 - (lookG t p).getD 0)
    rw [this]
  · rintro ⟨t, o⟩ hI
    simp only [List.take_length] at hI
    subst hI
    walk_at "h"
    obtain ⟨n1, n2, n3, n4⟩ := tabG_ok _ ps rfl
    have key : ∀ e ∈ tabG ps, e.1.1 < xs.length ∧ e.1.2 < 60 := fun e m => hp _ (n4 e m)
    rw [dN_keys]
    refine for_gs [3, 4] (fun y : Option O × List Nat => [y.1, some (.lst (nL y.2))]) (fun k y => y.2 = turnN xs (cPs (onesG ((tabG ps).take k)))) (o, xs) rfl rfl ?_ ?_
    · rintro k p ⟨o1, c⟩ hd hI
      simp only at hI
      rw [List.getElem?_map] at hd
      obtain ⟨e, he, rfl⟩ := Option.map_eq_some_iff.mp hd
      have hm := List.mem_of_getElem? he
      obtain ⟨k1, k2⟩ := key e hm
      have hc : c.length = xs.length := by rw [hI, turnN_len]
      have k1 : e.1.1 < c.length := by omega
      have hl2 : lookN (dN pD (fun v : Nat => PyData.int v) (tabG ps)) (pD e.1) = some (.int e.2) := by rw [lookN_dN pD_inj, lookG_nodup n1 hm]; rfl
      have st : e.2 ≠ 1 → c = turnN xs (cPs (onesG ((tabG ps).take (k + 1)))) := fun q => by rw [onesG_take he, if_neg q, hI]
      have sn : e.2 = 1 → c.set e.1.1 (c[e.1.1] ^^^ 2 ^ e.1.2) = turnN xs (cPs (onesG ((tabG ps).take (k + 1)))) := fun q => by rw [onesG_take he, if_pos q, turnN_snoc, ← hI, turn1_at k1]
      walk_at "h"
      have nx : ∀ c', c' = turnN xs (cPs (onesG ((tabG ps).take (k + 1)))) → NxF (fun x : Option O × List Nat => [some (O.fro (PyData.list (nL xs))), some (O.fro (PyData.list (pL ps))), some (O.fro (PyData.dict (dN pD (fun v : Nat => PyData.int v) (tabG ps)))), x.1, some (O.lst (nL x.2))]) (fun k y => y.2 = turnN xs (cPs (onesG ((tabG ps).take k)))) (k + 1)
          [some (O.fro (PyData.list (nL xs))), some (O.fro (PyData.list (pL ps))), some (O.fro (PyData.dict (dN pD (fun v : Nat => PyData.int v) (tabG ps)))), some (O.fro (pD e.1)), some (O.lst (nL c'))] := fun c' q => nxF (some (.fro (pD e.1)), c') rfl q
      refine ⟨_, hl2, ?_⟩
      walk_at "h"
      refine ite_i (fun q => ?_) fun q => ?_
      · have q : e.2 = 1 := by omega
        refine ⟨_, atI_map_lt _ k1, ?_⟩
        walk_at "h"
        refine ite_i (fun z => ?_) fun z => ?_
        · obtain ⟨b1, b2⟩ := xor_bit1 (n := c[e.1.1]) (y := e.1.2) (by omega)
          refine ⟨_, atI_map_lt _ k1, ?_⟩
          walk_at "h"
          refine ⟨_, ixN_lt k1, ?_⟩
          rw [show (c[e.1.1] : Int) - ((2 ^ e.1.2 : Nat) : Int) = ((c[e.1.1] - 2 ^ e.1.2 : Nat) : Int) from by omega, ← b2, nL_set]
          exact nx _ (sn q)
        · have b2 := xor_bit0 (n := c[e.1.1]) (y := e.1.2) (by omega)
          walk_at "h"
          refine ⟨_, hl2, ?_⟩
          walk_at "h"
          refine ite_i (fun _ => ?_) fun z => absurd (by omega) z
          refine ⟨_, atI_map_lt _ k1, ?_⟩
          walk_at "h"
          refine ⟨_, ixN_lt k1, ?_⟩
          rw [show (c[e.1.1] : Int) + ((2 ^ e.1.2 : Nat) : Int) = ((c[e.1.1] + 2 ^ e.1.2 : Nat) : Int) from by omega, ← b2, nL_set]
          exact nx _ (sn q)
      · walk_at "h"
        refine ⟨_, hl2, ?_⟩
        walk_at "h"
        refine ite_i (fun z => absurd z q) fun _ => ?_
        walk_at "h"
        exact nx _ (st (by omega))
    · rintro ⟨o1, c⟩ hI
      rw [List.length_map, List.take_length, turn_table (fun p m => (hp p m).1)] at hI
      simp only at hI
      subst hI
      walk_at "h"
      exact hq)
theorem ok_law_turned {P : Program} {w : World} {K : K0} {mg : Str → Option Value} {base : Heap} {f : Addr} {fd : FuncData} (F : FunD K "_law_turned" "_law_turned" (defArgs st_law_turned) (defBody st_law_turned) (defScope st_law_turned) [] [] f fd) (g : mg "_law_turned" = some (.ref f)) (T : Gb mg) : FnAt P w K mg base 1 "_law_turned" ["strip", "spots"] [] S_law_turned :=
  fnAt F g sc_law_turned (fun _ _ _ _ _ _ us hl => match us, hl with | [_, _], _ => rfl) l_law_turned (fun cdv A outer s H E G hr tk hp => d_law_turned T cdv A outer s H E G hr tk hp) w_law_turned
/-! law_doubled -/
--uses M3A
def f_law_doubled : D → D → D → (R → Prop) → (Str → Prop) → Prop := fun a b c Q E => ∃ ps : List (Nat × Nat), a = .list (pL ps) ∧ ∃ z : Int, b = .int z ∧ ∃ m : Int, c = .int m ∧ ps.length ≤ 1000 ∧ ∀ qs : List (Nat × Nat), (∀ q ∈ qs, q ∈ ps) → qs.length ≤ ps.length + 4 → Q (.v (.list (pL qs)))
def S_law_doubled : Spec := sp3 f_law_doubled
theorem e_law_doubled (x0 x1 x2 : D) (Q : R → Prop) (E : Str → Prop) : S_law_doubled [x0, x1, x2] Q E = f_law_doubled x0 x1 x2 Q E := rfl
abbrev st_law_doubled : Stmt := top 19
def m_law_doubled : WS := (wSq (wLet 3 (wB (f1s listD) (waC (wVar 0) waN))) (wSqM (wIf (c2 cEq (wMod (wVar 1) (wC (.int 2))) (wC (.int 1))) (wLet 3 (wSl (wVar 3) woN (woE (wMod (wDiv (wVar 1) (wC (.int 2))) (wAdd (wB (f1 lenD) (waC (wVar 3) waN)) (wC (.int 1))))))) wNil) (wSq (wIf (c2 cEq (wVar 3) (wLst waN)) (wRet (wVar 3)) wNil) (wSq (wFor (wiR1 (wMod (wVar 2) (wC (.int 4)))) (gN 4) (wSq (wLet 5 (wIx (wVar 3) (wMod (wAdd (wDiv (wVar 2) (wC (.int 4))) (wMul (wMul (wC (.int 7)) (wVar 4)) (wVar 4))) (wB (f1 lenD) (waC (wVar 3) waN))))) (wSq (wLet 6 (wMod (wAdd (wDiv (wVar 2) (wC (.int 50))) (wMul (wC (.int 5)) (wVar 4))) (wAdd (wB (f1 lenD) (waC (wVar 3) waN)) (wC (.int 1))))) (wLet 3 (wAdd (wAdd (wSl (wVar 3) woN (woE (wVar 6))) (wLst (waC (wVar 5) waN))) (wSl (wVar 3) (woE (wVar 6)) woN)))))) (wRet (wVar 3))))))
theorem sc_law_doubled : FnScope ["spots", "cell", "more", "found", "k", "spot", "at"] ["spots", "cell", "more"] (defScope st_law_doubled) := ⟨rfl, rfl, rfl, by decide +kernel, rfl, by decide +kernel, by decide +kernel⟩
theorem d_law_doubled {P : Program} {w : World} {K : K0} {mg : Str → Option Value} {base : Heap} (T : Gb mg) {f : Addr} (cdv : Value) (A : Around) (outer : List PySem.Env) (s : Shared) (H : Hp) (E : XK) (G : Hp) (hr : Room 0 (A.deeper (envOfC "_law_doubled" (defScope st_law_doubled) s.heap.objs.size f cdv)))
    (tk : Takes (XB P w K mg base ["spots", "cell", "more", "found", "k", "spot", "at"] "_law_doubled" (defScope st_law_doubled) f cdv A outer s H E) (fun cls d _ H => E cls d H)) (hp : PassesOwn (model P w) (XB P w K mg base ["spots", "cell", "more", "found", "k", "spot", "at"] "_law_doubled" (defScope st_law_doubled) f cdv A outer s H E).A (XB P w K mg base ["spots", "cell", "more", "found", "k", "spot", "at"] "_law_doubled" (defScope st_law_doubled) f cdv A outer s H E).env (XB P w K mg base ["spots", "cell", "more", "found", "k", "spot", "at"] "_law_doubled" (defScope st_law_doubled) f cdv A outer s H E).xe) :
    DSs (XB P w K mg base ["spots", "cell", "more", "found", "k", "spot", "at"] "_law_doubled" (defScope st_law_doubled) f cdv A outer s H E) (fun cls d _ H => E cls d H) G (defBody st_law_doubled) m_law_doubled :=
  (dss_cons (ds_let (i := 3) sc_law_doubled.nd rfl (by first | exact Or.inl rfl | exact Or.inr rfl) (de_T cList (by rfl) T.list (by decide +kernel) (da_cons (de_var 0 (pv 0)) da_nil (by rfl)) (by decide) (by decide) (by rfl) (by rfl)) (by rfl) (by first | exact Or.inl rfl | exact Or.inr rfl)) (dss_cons (ds_if (dt_cmp (opEqD hr.units) (de_mod (de_var 1 (pv 1)) (de_c pe_int rfl)) (de_c pe_int rfl) (nomark _)) (dss_one (ds_let (i := 3) sc_law_doubled.nd rfl (by first | exact Or.inl rfl | exact Or.inr rfl) (de_slice (de_var 3 (pv 3)) do_none (do_some (de_mod (de_div (de_var 1 (pv 1)) (de_c pe_int rfl)) (de_add (de_B cLen (by rfl) T.len (by decide +kernel) (da_cons (de_var 3 (pv 3)) da_nil (by rfl)) (by decide) (by decide) (by rfl) (by rfl)) (de_c pe_int rfl))))) (by rfl) (by first | exact Or.inl rfl | exact Or.inr rfl))) dss_nil) (dss_cons (ds_if (dt_cmp (opEqD hr.units) (de_var 3 (pv 3)) (de_lst da_nil) (nomark _)) (dss_one (ds_ret (de_var 3 (pv 3)))) dss_nil) (dss_cons (ds_for (vs := [4]) hp rfl (di_range1 (by rfl) T.range (de_mod (de_var 2 (pv 2)) (de_c pe_int rfl)) (by rfl) (by rfl)) (dg_name (i := 4) (by decide) sc_law_doubled.nd rfl (by first | exact Or.inl rfl | exact Or.inr rfl) (by first | exact Or.inl rfl | exact Or.inr rfl)) (dss_cons (ds_let (i := 5) sc_law_doubled.nd rfl (by first | exact Or.inl rfl | exact Or.inr rfl) (de_ix (hu_of hr) (de_var 3 (pv 3)) (de_mod (de_add (de_div (de_var 2 (pv 2)) (de_c pe_int rfl)) (de_mul (de_mul (de_c pe_int rfl) (de_var 4 (pv 4))) (de_var 4 (pv 4)))) (de_B cLen (by rfl) T.len (by decide +kernel) (da_cons (de_var 3 (pv 3)) da_nil (by rfl)) (by decide) (by decide) (by rfl) (by rfl))) (fun _ _ => rfl)) (by rfl) (by first | exact Or.inl rfl | exact Or.inr rfl)) (dss_cons (ds_let (i := 6) sc_law_doubled.nd rfl (by first | exact Or.inl rfl | exact Or.inr rfl) (de_mod (de_add (de_div (de_var 2 (pv 2)) (de_c pe_int rfl)) (de_mul (de_c pe_int rfl) (de_var 4 (pv 4)))) (de_add (de_B cLen (by rfl) T.len (by decide +kernel) (da_cons (de_var 3 (pv 3)) da_nil (by rfl)) (by decide) (by decide) (by rfl) (by rfl)) (de_c pe_int rfl))) (by rfl) (by first | exact Or.inl rfl | exact Or.inr rfl)) (dss_one (ds_let (i := 3) sc_law_doubled.nd rfl (by first | exact Or.inl rfl | exact Or.inr rfl) (de_add (de_add (de_slice (de_var 3 (pv 3)) do_none (do_some (de_var 6 (pv 6)))) (de_lst (da_cons (de_var 5 (pv 5)) da_nil (by rfl)))) (de_slice (de_var 3 (pv 3)) (do_some (de_var 6 (pv 6))) do_none)) (by rfl) (by first | exact Or.inl rfl | exact Or.inr rfl))))) (by intro _; rfl)) (dss_one (ds_ret (de_var 3 (pv 3))))))))
theorem l_law_doubled : ∀ ds Q E, S_law_doubled ds Q E → ds.length = 3 := sp3_len rfl
local macro_rules | `(tactic| walk_at "x") => `(tactic| simp only [kD_inr, kD_inl])
theorem w_law_doubled : ∀ ds Q E, S_law_doubled ds Q E → m_law_doubled (enD Q E) (startD ["spots", "cell", "more", "found", "k", "spot", "at"] ds) := sp3_w (by
  rintro a0 a1 a2 Q E ⟨ps, rfl, z, rfl, m, rfl, hl, hq⟩
  unfold m_law_doubled startD
  walk_at "h"
  have sz := sizeLine_eq
  refine wSqM_by [3] (fun qs : List (Nat × Nat) => [some (.fro (.list (pL qs)))]) (fun qs => (∀ q ∈ qs, q ∈ ps) ∧ qs.length ≤ ps.length) ?_ fun qs ⟨hs, hl2⟩ => ?_
  · walk_at "h"
    refine ite_i (fun e => ?_) fun e => ⟨fun q m => m, Nat.le_refl _⟩
    have h0 := Int.emod_nonneg (z / 2) (show (ps.length : Int) + 1 ≠ 0 by omega)
    have h1 := Int.emod_lt_of_pos (z / 2) (show 0 < (ps.length : Int) + 1 by omega)
    obtain ⟨j, hj⟩ := Int.eq_ofNat_of_zero_le h0
    refine ⟨cdiv_int (by omega) (by omega), by omega, ps.take j, ?_, fun q m => List.mem_of_mem_take m, by rw [List.length_take]; omega⟩
    rw [hj, show cut (pL ps) none (some (j : Int)) = (pL ps).take j from cut_to _ j]
    exact List.map_take.symm
  walk_at "h"
  refine ⟨okEq_of (k := 2) (sh_list (List.forall_mem_map.mpr fun p _ => sh_tuple (by walk_at "sh"))) (by walk_at "sh") (by decide), ?_⟩
  walk_at "h"
  refine ite_i (fun e => hq _ hs (by omega)) fun e => ?_
  walk_at "h"
  have hne : qs ≠ [] := by intro z; subst z; simp at e
  have hm0 := Int.emod_nonneg m (show (4 : Int) ≠ 0 by decide)
  have hm4 := Int.emod_lt_of_pos m (show (0 : Int) < 4 by decide)
  refine for_gs [3, 4, 5, 6] (fun y : List (Nat × Nat) × Option O × Option O × Option O => [some (.fro (.list (pL y.1))), y.2.1, y.2.2.1, y.2.2.2]) (fun k y => (∀ q ∈ y.1, q ∈ ps) ∧ y.1 ≠ [] ∧ y.1.length ≤ ps.length + k) (qs, none, none, none) rfl ⟨hs, hne, by simpa using hl2⟩ ?_ ?_
  · rintro k j ⟨us, o1, o2, o3⟩ hd ⟨hI, hJ, hK⟩
    simp only at hI hJ hK
    obtain ⟨rfl, hk⟩ := range_get hd
    have hp : 0 < us.length := List.length_pos_iff.mpr hJ
    have h0 := Int.emod_nonneg (m / 4 + 7 * (j : Int) * (j : Int)) (show (us.length : Int) ≠ 0 by omega)
    have h1 := Int.emod_lt_of_pos (m / 4 + 7 * (j : Int) * (j : Int)) (show 0 < (us.length : Int) by omega)
    obtain ⟨x, hx⟩ := Int.eq_ofNat_of_zero_le h0
    have g0 := Int.emod_nonneg (m / 50 + 5 * (j : Int)) (show (us.length : Int) + 1 ≠ 0 by omega)
    have g1 := Int.emod_lt_of_pos (m / 50 + 5 * (j : Int)) (show 0 < (us.length : Int) + 1 by omega)
    obtain ⟨y, hy⟩ := Int.eq_ofNat_of_zero_le g0
    walk_at "h"
    have hxl : x < us.length := by omega
    refine ⟨pD us[x], by rw [hx]; exact atI_map_lt _ hxl, ?_⟩
    walk_at "h"
    rw [hy, show cut (pL us) none (some (y : Int)) = (pL us).take y from cut_to _ y, show cut (pL us) (some (y : Int)) none = (pL us).drop y from cut_from _ y]
    refine ⟨by simp; omega, by simp; omega, nxF (us.take y ++ [us[x]] ++ us.drop y, some (.fro (.int j)), some (.fro (pD us[x])), some (.fro (.int y))) ?_ ⟨?_, by simp, by simp; omega⟩⟩
    · simp only [setL, List.map_append, List.map_take, List.map_drop]; rfl
    · intro q hq2
      simp only [List.mem_append, List.mem_singleton] at hq2
      rcases hq2 with (q2 | q2) | q2
      · exact hI q (List.mem_of_mem_take q2)
      · rw [q2]; exact hI _ (List.getElem_mem _)
      · exact hI q (List.mem_of_mem_drop q2)
  · rintro ⟨us, o1, o2, o3⟩ ⟨hI, hJ, hK⟩
    simp only [List.length_range] at hI hK
    walk_at "h"
    exact hq us hI (by omega))
theorem ok_law_doubled {P : Program} {w : World} {K : K0} {mg : Str → Option Value} {base : Heap} {f : Addr} {fd : FuncData} (F : FunD K "_law_doubled" "_law_doubled" (defArgs st_law_doubled) (defBody st_law_doubled) (defScope st_law_doubled) [] [] f fd) (g : mg "_law_doubled" = some (.ref f)) (T : Gb mg) : FnAt P w K mg base 1 "_law_doubled" ["spots", "cell", "more"] [] S_law_doubled :=
  fnAt F g sc_law_doubled (fun _ _ _ _ _ _ us hl => match us, hl with | [_, _, _], _ => rfl) l_law_doubled (fun cdv A outer s H E G hr tk hp => d_law_doubled T cdv A outer s H E G hr tk hp) w_law_doubled
/-! law_there -/
--uses M3A
def f_law_there : D → D → D → (R → Prop) → (Str → Prop) → Prop := fun a b c Q E => ∃ xs : List Nat, a = .list (nL xs) ∧ ∃ ys : List Nat, b = .list (nL ys) ∧ ∃ h : Nat, c = .int h ∧ 1 ≤ h ∧ h ≤ 60 ∧ xs.length = ys.length ∧ xs.length ≤ 1000 ∧ (∀ x ∈ xs, x < 2 ^ h) ∧ (∀ y ∈ ys, y < 2 ^ h) ∧ Q (.v (.bool true))
def S_law_there : Spec := sp3 f_law_there
theorem e_law_there (x0 x1 x2 : D) (Q : R → Prop) (E : Str → Prop) : S_law_there [x0, x1, x2] Q E = f_law_there x0 x1 x2 Q E := rfl
abbrev st_law_there : Stmt := top 20
def m_law_there : WS := (wSq (wLet 3 (wLst (waC (wB (f1s listD) (waC (wVar 0) waN)) (waC (wB (f1s listD) (waC (wVar 1) waN)) waN)))) (wSq (wAsg 4 (wCall S_spots_apart [] (waC (wIx (wVar 3) (wC (.int 0))) (waC (wIx (wVar 3) (wC (.int 1))) waN)))) (wSq (wIf (wtOr (c2 cNe (wVar 3) (wLst (waC (wVar 0) (waC (wVar 1) waN)))) (wtNot (wTru (wCall S_law_spots [] (waC (wVar 4) (waC (wVar 0) (waC (wVar 1) (waC (wVar 2) waN)))))))) (wRet (wC (.bool false))) wNil) (wSq (wLet 5 (wB (f1s listD) (waC (wVar 4) waN))) (wSq (wAsg 6 (wCall S_turned [] (waC (wVar 2) (waC (wIx (wVar 3) (wC (.int 0))) (waC (wVar 4) waN))))) (wSq (wIf (wtOr (wtNot (wTru (wCall S_law_strip [] (waC (wVar 6) (waC (wVar 1) waN))))) (wtNot (wTru (wCall S_law_strip [] (waC (wCall S_turned [] (waC (wVar 2) (waC (wIx (wVar 3) (wC (.int 1))) (waC (wVar 4) waN)))) (waC (wVar 0) waN)))))) (wRet (wC (.bool false))) wNil) (wSq (wApp 6 (wC (.int 0))) (wSq (wApp 4 (wTup (waC (wC (.int 0)) (waC (wC (.int 0)) waN)))) (wRet (wAndV (wtv (c2 cEq (wVar 3) (wLst (waC (wVar 0) (waC (wVar 1) waN))))) (wtv (c2 cEq (wCall S_spots_apart [] (waC (wVar 0) (waC (wVar 1) waN))) (wVar 5)))))))))))))
theorem sc_law_there : FnScope ["one", "other", "height", "handed", "spots", "kept", "there"] ["one", "other", "height"] (defScope st_law_there) := ⟨rfl, rfl, rfl, by decide +kernel, rfl, by decide +kernel, by decide +kernel⟩
theorem d_law_there {P : Program} {w : World} {K : K0} {mg : Str → Option Value} {base : Heap} (T : Gb mg) (F_law_spots : FnAt P w K mg base 2 "_law_spots" ["found", "one", "other", "height"] [] S_law_spots) (F_law_strip : FnAt P w K mg base 2 "_law_strip" ["found", "due"] [] S_law_strip) (F_spots_apart : FnAt P w K mg base 2 "spots_apart" ["one", "other"] [] S_spots_apart) (F_turned : FnAt P w K mg base 1 "turned" ["height", "strip", "spots"] [] S_turned) {f : Addr} (cdv : Value) (A : Around) (outer : List PySem.Env) (s : Shared) (H : Hp) (E : XK) (G : Hp) (hr : Room 2 (A.deeper (envOfC "_law_there" (defScope st_law_there) s.heap.objs.size f cdv)))
    (tk : Takes (XB P w K mg base ["one", "other", "height", "handed", "spots", "kept", "there"] "_law_there" (defScope st_law_there) f cdv A outer s H E) (fun cls d _ H => E cls d H)) (hp : PassesOwn (model P w) (XB P w K mg base ["one", "other", "height", "handed", "spots", "kept", "there"] "_law_there" (defScope st_law_there) f cdv A outer s H E).A (XB P w K mg base ["one", "other", "height", "handed", "spots", "kept", "there"] "_law_there" (defScope st_law_there) f cdv A outer s H E).env (XB P w K mg base ["one", "other", "height", "handed", "spots", "kept", "there"] "_law_there" (defScope st_law_there) f cdv A outer s H E).xe) :
    DSs (XB P w K mg base ["one", "other", "height", "handed", "spots", "kept", "there"] "_law_there" (defScope st_law_there) f cdv A outer s H E) (fun cls d _ H => E cls d H) G (defBody st_law_there) m_law_there :=
  (dss_cons (ds_let (i := 3) sc_law_there.nd rfl (by first | exact Or.inl rfl | exact Or.inr rfl) (de_lst (da_cons (de_T cList (by rfl) T.list (by decide +kernel) (da_cons (de_var 0 (pv 0)) da_nil (by rfl)) (by decide) (by decide) (by rfl) (by rfl)) (da_cons (de_T cList (by rfl) T.list (by decide +kernel) (da_cons (de_var 1 (pv 1)) da_nil (by rfl)) (by decide) (by decide) (by rfl) (by rfl)) da_nil (by rfl)) (by rfl))) (by rfl) (by first | exact Or.inl rfl | exact Or.inr rfl)) (dss_cons (ds_set (i := 4) sc_law_there.nd rfl (by first | exact Or.inl rfl | exact Or.inr rfl) (de_call' F_spots_apart hr (by decide) (by rfl) (fun _ => .nil) tk (da_cons (de_ix (hu_of hr) (de_var 3 (pv 3)) (de_c pe_int rfl) (fun _ _ => rfl)) (da_cons (de_ix (hu_of hr) (de_var 3 (pv 3)) (de_c pe_int rfl) (fun _ _ => rfl)) da_nil (by rfl)) (by rfl)) (by decide) (by rfl) (by rfl)) (by rfl) (by first | exact Or.inl rfl | exact Or.inr rfl)) (dss_cons (ds_if (dt_w (dw_or (dt_cmp (opNeD hr.units) (de_var 3 (pv 3)) (de_lst (da_cons (de_var 0 (pv 0)) (da_cons (de_var 1 (pv 1)) da_nil (by rfl)) (by rfl))) (nomark _)) (dw_or1 (dt_not (dt_tru (de_call' F_law_spots hr (by decide) (by rfl) (fun _ => .nil) tk (da_cons (de_var 4 (pv 4)) (da_cons (de_var 0 (pv 0)) (da_cons (de_var 1 (pv 1)) (da_cons (de_var 2 (pv 2)) da_nil (by rfl)) (by rfl)) (by rfl)) (by rfl)) (by decide) (by rfl) (by rfl)) (by intro _; rfl)))))) (dss_one (ds_ret (de_c pe_bl rfl))) dss_nil) (dss_cons (ds_let (i := 5) sc_law_there.nd rfl (by first | exact Or.inl rfl | exact Or.inr rfl) (de_T cList (by rfl) T.list (by decide +kernel) (da_cons (de_var 4 (pv 4)) da_nil (by rfl)) (by decide) (by decide) (by rfl) (by rfl)) (by rfl) (by first | exact Or.inl rfl | exact Or.inr rfl)) (dss_cons (ds_set (i := 6) sc_law_there.nd rfl (by first | exact Or.inl rfl | exact Or.inr rfl) (de_call' F_turned hr (by decide) (by rfl) (fun _ => .nil) tk (da_cons (de_var 2 (pv 2)) (da_cons (de_ix (hu_of hr) (de_var 3 (pv 3)) (de_c pe_int rfl) (fun _ _ => rfl)) (da_cons (de_var 4 (pv 4)) da_nil (by rfl)) (by rfl)) (by rfl)) (by decide) (by rfl) (by rfl)) (by rfl) (by first | exact Or.inl rfl | exact Or.inr rfl)) (dss_cons (ds_if (dt_w (dw_or (dt_not (dt_tru (de_call' F_law_strip hr (by decide) (by rfl) (fun _ => .nil) tk (da_cons (de_var 6 (pv 6)) (da_cons (de_var 1 (pv 1)) da_nil (by rfl)) (by rfl)) (by decide) (by rfl) (by rfl)) (by intro _; rfl))) (dw_or1 (dt_not (dt_tru (de_call' F_law_strip hr (by decide) (by rfl) (fun _ => .nil) tk (da_cons (de_call' F_turned hr (by decide) (by rfl) (fun _ => .nil) tk (da_cons (de_var 2 (pv 2)) (da_cons (de_ix (hu_of hr) (de_var 3 (pv 3)) (de_c pe_int rfl) (fun _ _ => rfl)) (da_cons (de_var 4 (pv 4)) da_nil (by rfl)) (by rfl)) (by rfl)) (by decide) (by rfl) (by rfl)) (da_cons (de_var 0 (pv 0)) da_nil (by rfl)) (by rfl)) (by decide) (by rfl) (by rfl)) (by intro _; rfl)))))) (dss_one (ds_ret (de_c pe_bl rfl))) dss_nil) (dss_cons (ds_app (i := 6) (pv 6) (de_c pe_int rfl) (by rfl) (by rfl) (by rfl) (by rfl) (by rfl) (by rfl)) (dss_cons (ds_app (i := 4) (pv 4) (de_tup (da_cons (de_c pe_int rfl) (da_cons (de_c pe_int rfl) da_nil (by rfl)) (by rfl))) (by rfl) (by rfl) (by rfl) (by rfl) (by rfl) (by rfl)) (dss_one (ds_ret (de_andV (de_cmp (opEqD hr.units) (de_var 3 (pv 3)) (de_lst (da_cons (de_var 0 (pv 0)) (da_cons (de_var 1 (pv 1)) da_nil (by rfl)) (by rfl))) (nomark _)) (de_one (de_cmp (opEqD hr.units) (de_call' F_spots_apart hr (by decide) (by rfl) (fun _ => .nil) tk (da_cons (de_var 0 (pv 0)) (da_cons (de_var 1 (pv 1)) da_nil (by rfl)) (by rfl)) (by decide) (by rfl) (by rfl)) (de_var 5 (pv 5)) (nomark _))))))))))))))
theorem l_law_there : ∀ ds Q E, S_law_there ds Q E → ds.length = 3 := sp3_len rfl
local macro_rules | `(tactic| walk_at "x") => `(tactic| simp only [e_law_spots, f_law_spots, e_law_strip, f_law_strip, e_spots_apart, f_spots_apart, e_turned, f_turned, kD_inr, kD_inl])
theorem w_law_there : ∀ ds Q E, S_law_there ds Q E → m_law_there (enD Q E) (startD ["one", "other", "height", "handed", "spots", "kept", "there"] ds) := sp3_w (by
  rintro a0 a1 a2 Q E ⟨xs, rfl, ys, rfl, h, rfl, h1, h60, hl, h1000, hx, hy, hq⟩
  unfold m_law_there startD
  walk_at "h"
  have hx60 : ∀ x ∈ xs, x < 2 ^ 60 := fun x m => lt_pow (hx x m) h60
  have hy60 : ∀ y ∈ ys, y < 2 ^ 60 := fun y m => lt_pow (hy y m) h60
  have t1 : turnN xs (cPs (spotsN 0 xs ys)) = ys := turn_spots hl hx hy
  have sp : ∀ p ∈ cPs (spotsN 0 xs ys), onS h xs.length p := fun p m => by
    obtain ⟨q, mq, rfl⟩ := List.mem_map.mp m
    obtain ⟨g1, g2, _⟩ := spots_ok hl hx hy mq
    exact ⟨by simp, by simp; omega, by simp, by simp; omega⟩
  have sl : (spotsN 0 xs ys).length ≤ 60000 := by
    rw [spotsN_len]
    have := gapN_le (h := 60) hx60 hy60
    omega
  refine ⟨hx60, hy60, h1000, fun z => absurd hl z, fun _ => ?_⟩
  have shh : Sh 3 (.list [.list (nL xs), .list (nL ys)]) := by walk_at "sh"
  walk_at "h"
  refine ⟨okEq_of shh shh (by decide), ?_⟩
  rw [eqv_self shh]
  walk_at "h"
  refine ⟨cPs (spotsN 0 xs ys), cPs_zL _, h60, fun z => absurd sp z, fun _ => ?_⟩
  refine ⟨.inr (noLs_nL _), ?_⟩
  rw [t1]
  walk_at "h"
  have t2 : turnN ys (cPs (spotsN 0 xs ys)) = xs := by
    have := turn_back (ps := spotsN 0 xs ys) (c := xs) (fun p m => (spots_ok hl hx hy m).1)
    rw [t1, turn_rev (fun p m => by have := (spots_ok hl hx hy m).1; omega)] at this
    exact this
  have sp2 : ∀ p ∈ cPs (spotsN 0 xs ys), onS h ys.length p := fun p m => by rw [← hl]; exact sp p m
  refine ⟨cPs (spotsN 0 xs ys), cPs_zL _, h60, fun z => absurd sp2 z, fun _ => ?_⟩
  rw [t2]
  refine ⟨.inr (noLs_nL _), ?_⟩
  walk_at "h"
  refine ⟨okEq_of shh shh (by decide), ?_⟩
  rw [eqv_self shh, if_pos rfl]
  have shp : Sh 2 (.list (pL (spotsN 0 xs ys))) := sh_list (List.forall_mem_map.mpr fun p _ => sh_tuple (by walk_at "sh"))
  refine ⟨hx60, hy60, h1000, fun z => absurd hl z, fun _ => ⟨okEq_of shp shp (by decide), ?_⟩⟩
  rw [eqv_self shp]
  exact hq)
theorem ok_law_there {P : Program} {w : World} {K : K0} {mg : Str → Option Value} {base : Heap} {f : Addr} {fd : FuncData} (F : FunD K "_law_there" "_law_there" (defArgs st_law_there) (defBody st_law_there) (defScope st_law_there) [] [] f fd) (g : mg "_law_there" = some (.ref f)) (T : Gb mg) (F_law_spots : FnAt P w K mg base 2 "_law_spots" ["found", "one", "other", "height"] [] S_law_spots) (F_law_strip : FnAt P w K mg base 2 "_law_strip" ["found", "due"] [] S_law_strip) (F_spots_apart : FnAt P w K mg base 2 "spots_apart" ["one", "other"] [] S_spots_apart) (F_turned : FnAt P w K mg base 1 "turned" ["height", "strip", "spots"] [] S_turned) : FnAt P w K mg base 3 "_law_there" ["one", "other", "height"] [] S_law_there :=
  fnAt F g sc_law_there (fun _ _ _ _ _ _ us hl => match us, hl with | [_, _, _], _ => rfl) l_law_there (fun cdv A outer s H E G hr tk hp => d_law_there T F_law_spots F_law_strip F_spots_apart F_turned cdv A outer s H E G hr tk hp) w_law_there
/-! law -/
--uses M3A

abbrev st_law : Stmt := top 21
def m_law : WS := (wSq (wLet 1 (wCall S_law_height [] (waC (wCall S_law_cell_at [] (waC (wVar 0) (waC (wC (.int 0)) waN))) waN))) (wSq (wAsg 2 (wLst waN)) (wSq (wAsg 3 (wLst waN)) (wSq (wFor (wiR3 (wC (.int 1)) (wB (f2 min2D) (waC (wB (f1 lenD) (waC (wVar 0) waN)) (waC (wC (.int 601)) waN))) (wC (.int 2))) (gN 4) (wSq (wApp 2 (wCall S_law_column [] (waC (wIx (wVar 0) (wVar 4)) (waC (wVar 1) waN)))) (wApp 3 (wCall S_law_beside [] (waC (wIx (wVar 2) (wNeg (wC (.int 1)))) (waC (wCall S_law_cell_at [] (waC (wVar 0) (waC (wAdd (wVar 4) (wC (.int 1))) waN))) (waC (wVar 1) waN))))))) (wSq (wIf (wtNot (wTru (wCall S_law_there [] (waC (wVar 2) (waC (wVar 3) (waC (wVar 1) waN)))))) (wRet (wC (.bool false))) wNil) (wSq (wFrz [5] (wAsg 5 (wLst waN))) (wSq (wFor (wiA (wSl (wVar 0) (woE (wC (.int 1))) (woE (wC (.int 601))))) (gN 6) (wApp 5 (wTup (waC (wMod (wMod (wMul (wVar 6) (wC (.int 48271))) (wC (.int 2147483647))) (wB (f1 lenD) (waC (wVar 2) waN))) (waC (wMod (wMod (wMul (wVar 6) (wC (.int 69621))) (wC (.int 2147483629))) (wVar 1)) waN))))) (wSq (wFrz [5] (wAsg 5 (wCall S_law_doubled [] (waC (wVar 5) (waC (wCall S_law_cell_at [] (waC (wVar 0) (waC (wC (.int 1)) waN))) (waC (wCall S_law_cell_at [] (waC (wVar 0) (waC (wC (.int 2)) waN))) waN)))))) (wSq (wLet 7 (wCall S_law_turned [] (waC (wVar 2) (waC (wVar 5) waN)))) (wSq (wLet 8 (wB (f1s listD) (waC (wVar 2) waN))) (wSq (wLet 9 (wB (f1s listD) (waC (wVar 5) waN))) (wSq (wLet 10 (wCall S_turned [] (waC (wVar 1) (waC (wVar 8) (waC (wVar 9) waN))))) (wSq (wIf (wtOr (wtNot (wTru (wCall S_law_strip [] (waC (wVar 10) (waC (wVar 7) waN))))) (wtOr (c2 cNe (wVar 8) (wVar 2)) (c2 cNe (wVar 9) (wVar 5)))) (wRet (wC (.bool false))) wNil) (wSq (wLet 11 (wCall S_turned [] (waC (wVar 1) (waC (wB (f1s listD) (waC (wVar 7) waN)) (waC (wRevA (wVar 5)) waN))))) (wFrz [2, 5] (wRet (wAndV (wCall S_law_strip [] (waC (wVar 11) (waC (wVar 2) waN))) (wCall S_law_strip [] (waC (wCall S_turned [] (waC (wVar 1) (waC (wVar 2) (waC (wRevA (wVar 5)) waN)))) (waC (wVar 7) waN))))))))))))))))))))
theorem sc_law : FnScope ["script", "height", "one", "other", "k", "spots", "cell", "due", "handed", "told", "found", "back"] ["script"] (defScope st_law) := ⟨rfl, rfl, rfl, by decide +kernel, rfl, by decide +kernel, by decide +kernel⟩
theorem d_law {P : Program} {w : World} {K : K0} {mg : Str → Option Value} {base : Heap} (T : Gb mg) (F_law_beside : FnAt P w K mg base 2 "_law_beside" ["column", "cell", "height"] [] S_law_beside) (F_law_cell_at : FnAt P w K mg base 1 "_law_cell_at" ["script", "k"] [] S_law_cell_at) (F_law_column : FnAt P w K mg base 1 "_law_column" ["cell", "height"] [] S_law_column) (F_law_doubled : FnAt P w K mg base 1 "_law_doubled" ["spots", "cell", "more"] [] S_law_doubled) (F_law_height : FnAt P w K mg base 1 "_law_height" ["cell"] [] S_law_height) (F_law_strip : FnAt P w K mg base 2 "_law_strip" ["found", "due"] [] S_law_strip) (F_law_there : FnAt P w K mg base 3 "_law_there" ["one", "other", "height"] [] S_law_there) (F_law_turned : FnAt P w K mg base 1 "_law_turned" ["strip", "spots"] [] S_law_turned) (F_turned : FnAt P w K mg base 1 "turned" ["height", "strip", "spots"] [] S_turned) {f : Addr} (cdv : Value) (A : Around) (outer : List PySem.Env) (s : Shared) (H : Hp) (E : XK) (G : Hp) (hr : Room 3 (A.deeper (envOfC "law" (defScope st_law) s.heap.objs.size f cdv)))
    (tk : Takes (XB P w K mg base ["script", "height", "one", "other", "k", "spots", "cell", "due", "handed", "told", "found", "back"] "law" (defScope st_law) f cdv A outer s H E) (fun cls d _ H => E cls d H)) (hp : PassesOwn (model P w) (XB P w K mg base ["script", "height", "one", "other", "k", "spots", "cell", "due", "handed", "told", "found", "back"] "law" (defScope st_law) f cdv A outer s H E).A (XB P w K mg base ["script", "height", "one", "other", "k", "spots", "cell", "due", "handed", "told", "found", "back"] "law" (defScope st_law) f cdv A outer s H E).env (XB P w K mg base ["script", "height", "one", "other", "k", "spots", "cell", "due", "handed", "told", "found", "back"] "law" (defScope st_law) f cdv A outer s H E).xe) :
    DSs (XB P w K mg base ["script", "height", "one", "other", "k", "spots", "cell", "due", "handed", "told", "found", "back"] "law" (defScope st_law) f cdv A outer s H E) (fun cls d _ H => E cls d H) G (defBody st_law) m_law :=
  (dss_cons (ds_let (i := 1) sc_law.nd rfl (by first | exact Or.inl rfl | exact Or.inr rfl) (de_call' F_law_height hr (by decide) (by rfl) (fun _ => .nil) tk (da_cons (de_call' F_law_cell_at hr (by decide) (by rfl) (fun _ => .nil) tk (da_cons (de_var 0 (pv 0)) (da_cons (de_c pe_int rfl) da_nil (by rfl)) (by rfl)) (by decide) (by rfl) (by rfl)) da_nil (by rfl)) (by decide) (by rfl) (by rfl)) (by rfl) (by first | exact Or.inl rfl | exact Or.inr rfl)) (dss_cons (ds_set (i := 2) sc_law.nd rfl (by first | exact Or.inl rfl | exact Or.inr rfl) (de_lst da_nil) (by rfl) (by first | exact Or.inl rfl | exact Or.inr rfl)) (dss_cons (ds_set (i := 3) sc_law.nd rfl (by first | exact Or.inl rfl | exact Or.inr rfl) (de_lst da_nil) (by rfl) (by first | exact Or.inl rfl | exact Or.inr rfl)) (dss_cons (ds_for (vs := [4]) hp rfl (di_range3 (by rfl) T.range (de_c pe_int rfl) (de_B (cMin2 rfl) (by rfl) T.min (by decide +kernel) (da_cons (de_B cLen (by rfl) T.len (by decide +kernel) (da_cons (de_var 0 (pv 0)) da_nil (by rfl)) (by decide) (by decide) (by rfl) (by rfl)) (da_cons (de_c pe_int rfl) da_nil (by rfl)) (by rfl)) (by decide) (by decide) (by rfl) (by rfl)) (de_c pe_int rfl)) (dg_name (i := 4) (by decide) sc_law.nd rfl (by first | exact Or.inl rfl | exact Or.inr rfl) (by first | exact Or.inl rfl | exact Or.inr rfl)) (dss_cons (ds_app (i := 2) (pv 2) (de_call' F_law_column hr (by decide) (by rfl) (fun _ => .nil) tk (da_cons (de_ix (hu_of hr) (de_var 0 (pv 0)) (de_var 4 (pv 4)) (fun _ _ => rfl)) (da_cons (de_var 1 (pv 1)) da_nil (by rfl)) (by rfl)) (by decide) (by rfl) (by rfl)) (by rfl) (by rfl) (by rfl) (by rfl) (by rfl) (by rfl)) (dss_one (ds_app (i := 3) (pv 3) (de_call' F_law_beside hr (by decide) (by rfl) (fun _ => .nil) tk (da_cons (de_ix (hu_of hr) (de_var 2 (pv 2)) (de_neg (de_c pe_int rfl)) (fun _ _ => rfl)) (da_cons (de_call' F_law_cell_at hr (by decide) (by rfl) (fun _ => .nil) tk (da_cons (de_var 0 (pv 0)) (da_cons (de_add (de_var 4 (pv 4)) (de_c pe_int rfl)) da_nil (by rfl)) (by rfl)) (by decide) (by rfl) (by rfl)) (da_cons (de_var 1 (pv 1)) da_nil (by rfl)) (by rfl)) (by rfl)) (by decide) (by rfl) (by rfl)) (by rfl) (by rfl) (by rfl) (by rfl) (by rfl) (by rfl)))) (by intro _; rfl)) (dss_cons (ds_if (dt_not (dt_tru (de_call' F_law_there hr (by decide) (by rfl) (fun _ => .nil) tk (da_cons (de_var 2 (pv 2)) (da_cons (de_var 3 (pv 3)) (da_cons (de_var 1 (pv 1)) da_nil (by rfl)) (by rfl)) (by rfl)) (by decide) (by rfl) (by rfl)) (by intro _; rfl))) (dss_one (ds_ret (de_c pe_bl rfl))) dss_nil) (dss_cons (ds_frz [5] (ds_set (i := 5) sc_law.nd rfl (by first | exact Or.inl rfl | exact Or.inr rfl) (de_lst da_nil) (by rfl) (by first | exact Or.inl rfl | exact Or.inr rfl))) (dss_cons (ds_for (vs := [6]) hp rfl (di_any (de_slice (de_var 0 (pv 0)) (do_some (de_c pe_int rfl)) (do_some (de_c pe_int rfl)))) (dg_name (i := 6) (by decide) sc_law.nd rfl (by first | exact Or.inl rfl | exact Or.inr rfl) (by first | exact Or.inl rfl | exact Or.inr rfl)) (dss_one (ds_app (i := 5) (pv 5) (de_tup (da_cons (de_mod (de_mod (de_mul (de_var 6 (pv 6)) (de_c pe_int rfl)) (de_c pe_int rfl)) (de_B cLen (by rfl) T.len (by decide +kernel) (da_cons (de_var 2 (pv 2)) da_nil (by rfl)) (by decide) (by decide) (by rfl) (by rfl))) (da_cons (de_mod (de_mod (de_mul (de_var 6 (pv 6)) (de_c pe_int rfl)) (de_c pe_int rfl)) (de_var 1 (pv 1))) da_nil (by rfl)) (by rfl))) (by rfl) (by rfl) (by rfl) (by rfl) (by rfl) (by rfl))) (by intro _; rfl)) (dss_cons (ds_frz [5] (ds_set (i := 5) sc_law.nd rfl (by first | exact Or.inl rfl | exact Or.inr rfl) (de_call' F_law_doubled hr (by decide) (by rfl) (fun _ => .nil) tk (da_cons (de_var 5 (pv 5)) (da_cons (de_call' F_law_cell_at hr (by decide) (by rfl) (fun _ => .nil) tk (da_cons (de_var 0 (pv 0)) (da_cons (de_c pe_int rfl) da_nil (by rfl)) (by rfl)) (by decide) (by rfl) (by rfl)) (da_cons (de_call' F_law_cell_at hr (by decide) (by rfl) (fun _ => .nil) tk (da_cons (de_var 0 (pv 0)) (da_cons (de_c pe_int rfl) da_nil (by rfl)) (by rfl)) (by decide) (by rfl) (by rfl)) da_nil (by rfl)) (by rfl)) (by rfl)) (by decide) (by rfl) (by rfl)) (by rfl) (by first | exact Or.inl rfl | exact Or.inr rfl))) (dss_cons (ds_let (i := 7) sc_law.nd rfl (by first | exact Or.inl rfl | exact Or.inr rfl) (de_call' F_law_turned hr (by decide) (by rfl) (fun _ => .nil) tk (da_cons (de_var 2 (pv 2)) (da_cons (de_var 5 (pv 5)) da_nil (by rfl)) (by rfl)) (by decide) (by rfl) (by rfl)) (by rfl) (by first | exact Or.inl rfl | exact Or.inr rfl)) (dss_cons (ds_let (i := 8) sc_law.nd rfl (by first | exact Or.inl rfl | exact Or.inr rfl) (de_T cList (by rfl) T.list (by decide +kernel) (da_cons (de_var 2 (pv 2)) da_nil (by rfl)) (by decide) (by decide) (by rfl) (by rfl)) (by rfl) (by first | exact Or.inl rfl | exact Or.inr rfl)) (dss_cons (ds_let (i := 9) sc_law.nd rfl (by first | exact Or.inl rfl | exact Or.inr rfl) (de_T cList (by rfl) T.list (by decide +kernel) (da_cons (de_var 5 (pv 5)) da_nil (by rfl)) (by decide) (by decide) (by rfl) (by rfl)) (by rfl) (by first | exact Or.inl rfl | exact Or.inr rfl)) (dss_cons (ds_let (i := 10) sc_law.nd rfl (by first | exact Or.inl rfl | exact Or.inr rfl) (de_call' F_turned hr (by decide) (by rfl) (fun _ => .nil) tk (da_cons (de_var 1 (pv 1)) (da_cons (de_var 8 (pv 8)) (da_cons (de_var 9 (pv 9)) da_nil (by rfl)) (by rfl)) (by rfl)) (by decide) (by rfl) (by rfl)) (by rfl) (by first | exact Or.inl rfl | exact Or.inr rfl)) (dss_cons (ds_if (dt_w (dw_or (dt_not (dt_tru (de_call' F_law_strip hr (by decide) (by rfl) (fun _ => .nil) tk (da_cons (de_var 10 (pv 10)) (da_cons (de_var 7 (pv 7)) da_nil (by rfl)) (by rfl)) (by decide) (by rfl) (by rfl)) (by intro _; rfl))) (dw_or (dt_cmp (opNeD hr.units) (de_var 8 (pv 8)) (de_var 2 (pv 2)) (nomark _)) (dw_or1 (dt_cmp (opNeD hr.units) (de_var 9 (pv 9)) (de_var 5 (pv 5)) (nomark _)))))) (dss_one (ds_ret (de_c pe_bl rfl))) dss_nil) (dss_cons (ds_let (i := 11) sc_law.nd rfl (by first | exact Or.inl rfl | exact Or.inr rfl) (de_call' F_turned hr (by decide) (by rfl) (fun _ => .nil) tk (da_cons (de_var 1 (pv 1)) (da_cons (de_T cList (by rfl) T.list (by decide +kernel) (da_cons (de_var 7 (pv 7)) da_nil (by rfl)) (by decide) (by decide) (by rfl) (by rfl)) (da_cons (de_revA (de_var 5 (pv 5))) da_nil (by rfl)) (by rfl)) (by rfl)) (by decide) (by rfl) (by rfl)) (by rfl) (by first | exact Or.inl rfl | exact Or.inr rfl)) (dss_one (ds_frz [2, 5] (ds_ret (de_andV (de_call' F_law_strip hr (by decide) (by rfl) (fun _ => .nil) tk (da_cons (de_var 11 (pv 11)) (da_cons (de_var 2 (pv 2)) da_nil (by rfl)) (by rfl)) (by decide) (by rfl) (by rfl)) (de_one (de_call' F_law_strip hr (by decide) (by rfl) (fun _ => .nil) tk (da_cons (de_call' F_turned hr (by decide) (by rfl) (fun _ => .nil) tk (da_cons (de_var 1 (pv 1)) (da_cons (de_var 2 (pv 2)) (da_cons (de_revA (de_var 5 (pv 5))) da_nil (by rfl)) (by rfl)) (by rfl)) (by decide) (by rfl) (by rfl)) (da_cons (de_var 7 (pv 7)) da_nil (by rfl)) (by rfl)) (by decide) (by rfl) (by rfl)))))))))))))))))))))
theorem l_law : ∀ ds Q E, S_law ds Q E → ds.length = 1 := sp1_len rfl
local macro_rules | `(tactic| walk_at "x") => `(tactic| simp only [e_law_beside, f_law_beside, e_law_cell_at, f_law_cell_at, e_law_column, f_law_column, e_law_doubled, f_law_doubled, e_law_height, f_law_height, e_law_strip, f_law_strip, e_law_there, f_law_there, e_law_turned, f_law_turned, e_turned, f_turned, kD_inr, kD_inl])
theorem w_law : ∀ ds Q E, S_law ds Q E → m_law (enD Q E) (startD ["script", "height", "one", "other", "k", "spots", "cell", "due", "handed", "told", "found", "back"] ds) := sp1_w (by
  rintro a0 Q E ⟨ns, rfl, hl, hb, hq⟩
  unfold m_law startD
  walk_at "h"
  walk_at "h"
  intro h h1 h60
  walk_at "h"
  have sz := sizeLine_eq
  refine ⟨_, rgc_up (by decide) (by decide) (by decide) (by decide) (by omega) (by split <;> omega), ?_⟩
  unfold rgS
  refine for_gs [2, 3, 4] (fun x : List Nat × List Nat × Option O => [some (.lst (nL x.1)), some (.lst (nL x.2.1)), x.2.2])
    (fun k x => x.1.length = k ∧ x.2.1.length = k ∧ (∀ c ∈ x.1, c < 2 ^ h) ∧ (∀ c ∈ x.2.1, c < 2 ^ h)) ([], [], none) rfl ⟨rfl, rfl, by simp, by simp⟩ ?_ ?_
  · rintro k d ⟨xs, ys, o1⟩ hd ⟨e1, e2, hx, hy⟩
    obtain ⟨rfl, hk⟩ := range_get hd
    simp only at e1 e2 hx hy
    have hk2 : 1 + 2 * d < ns.length := by split at hk <;> (try split at hk) <;> omega
    walk_at "h"
    rw [show 1 + (d : Int) * 2 = ((1 + 2 * d : Nat) : Int) from by omega]
    refine ⟨_, atI_map_lt _ hk2, ?_⟩
    walk_at "h"
    intro one hone
    refine ⟨by omega, 1 + 2 * d + 1, by omega, h1, h60, hone, fun m hm => ⟨by omega, nxF (xs ++ [one], ys ++ [m], _) rfl ⟨by simp [e1], by simp [e2], ?_, ?_⟩⟩⟩
    · intro c q; simp at q; rcases q with q | rfl
      · exact hx c q
      · exact hone
    · intro c q; simp at q; rcases q with q | rfl
      · exact hy c q
      · exact hm
  rintro ⟨xs, ys, o1⟩ ⟨e1, e2, hx, hy⟩
  simp only [List.length_range] at e1 e2 hx hy
  have q12 : xs.length = ys.length := by omega
  have xl : xs.length ≤ 301 := by rw [e1]; split <;> (try split) <;> omega
  walk_at "h"
  refine for_gs [5, 6] (fun y : List (Nat × Nat) × Option O => [some (.lst (pL y.1)), y.2]) (fun k y => y.1.length = k ∧ ∀ p ∈ y.1, p.1 < xs.length ∧ p.2 < h) ([], none) rfl ⟨rfl, by simp⟩ ?_ ?_
  · rintro k c ⟨ps, o2⟩ hd ⟨f1, f2⟩
    simp only at f1 f2
    have hk := (List.getElem?_eq_some_iff.mp hd).1
    rw [List.length_drop, List.length_take] at hk
    have xp : 0 < xs.length := by rw [e1]; split <;> (try split) <;> omega
    have hc : c ∈ ns := List.mem_of_mem_take (List.mem_of_mem_drop (List.mem_of_getElem? hd))
    walk_at "h"
    have a0 := Int.emod_nonneg (c * 48271 % 2147483647) (show (xs.length : Int) ≠ 0 by omega)
    have a1 := Int.emod_lt_of_pos (c * 48271 % 2147483647) (show 0 < (xs.length : Int) by omega)
    obtain ⟨x, hx2⟩ := Int.eq_ofNat_of_zero_le a0
    have b0 := Int.emod_nonneg (c * 69621 % 2147483629) (show (h : Int) ≠ 0 by omega)
    have b1 := Int.emod_lt_of_pos (c * 69621 % 2147483629) (show 0 < (h : Int) by omega)
    obtain ⟨y, hy2⟩ := Int.eq_ofNat_of_zero_le b0
    rw [hx2, hy2]
    refine nxF (ps ++ [(x, y)], some (.fro (.int c))) ?_ ⟨by simp [f1], fun p m => ?_⟩
    · simp only [setL, pL, List.map_append]; rfl
    · simp only [List.mem_append, List.mem_singleton] at m
      rcases m with m | m
      · exact f2 p m
      · rw [m]; exact ⟨by simp only; omega, by simp only; omega⟩
  rintro ⟨ps, o2⟩ ⟨f1, f2⟩
  simp only [List.length_drop, List.length_take] at f1
  simp only at f2
  walk_at "h"
  intro qs hs hl3
  have ql : qs.length ≤ 700 := by omega
  have on : ∀ p ∈ qs, p.1 < xs.length ∧ p.2 < h := fun p m => f2 p (hs p m)
  have on1 : ∀ p ∈ qs, p.1 < xs.length := fun p m => (on p m).1
  have hx60 : ∀ x ∈ xs, x < 2 ^ 60 := fun x m => lt_pow (hx x m) h60
  have onS1 : ∀ p ∈ cPs qs, onS h xs.length p := fun p m => by
    obtain ⟨q, mq, rfl⟩ := List.mem_map.mp m
    have := on q mq
    exact ⟨by simp, by simp; omega, by simp, by simp; omega⟩
  have onS2 : ∀ p ∈ cPs qs.reverse, onS h xs.length p := fun p m => by
    obtain ⟨q, mq, rfl⟩ := List.mem_map.mp m
    exact onS1 _ (List.mem_map_of_mem (List.mem_reverse.mp mq))
  have shp : Sh 2 (.list (pL qs)) := sh_list (List.forall_mem_map.mpr fun p _ => sh_tuple (by walk_at "sh"))
  have tl : (turnN xs (cPs qs)).length = xs.length := turnN_len _ _
  walk_at "h"
  refine ⟨fun p m => ⟨on1 p m, by have := (on p m).2; omega⟩, hx60, by omega, .inr (noLs_nL _), ?_⟩
  walk_at "h"
  refine ⟨cPs qs, cPs_zL _, h60, fun z => absurd onS1 z, fun _ => ?_⟩
  walk_at "h"
  refine ⟨okEq_of shp shp (by decide), ?_⟩
  refine ite_i (fun z => absurd z (by rw [eqv_self shp]; simp)) fun _ => ?_
  have rl : (pL qs).reverse = zL (cPs qs.reverse) := by rw [← cPs_zL]; exact (List.map_reverse ..).symm
  walk_at "h"
  refine ⟨cPs qs.reverse, by first | exact rl | (rw [← rl, List.map_reverse]), h60, fun z => absurd (fun p m => by rw [tl]; exact onS2 p m) z, fun _ => ?_⟩
  rw [turn_back on1]
  walk_at "h"
  refine ⟨cPs qs.reverse, by first | exact rl | (rw [← rl, List.map_reverse]), h60, fun z => absurd onS2 z, fun _ => ?_⟩
  rw [turn_rev on1]
  walk_at "h"
  exact hq)
theorem ok_law {P : Program} {w : World} {K : K0} {mg : Str → Option Value} {base : Heap} {f : Addr} {fd : FuncData} (F : FunD K "law" "law" (defArgs st_law) (defBody st_law) (defScope st_law) [] [] f fd) (T : Gb mg) (F_law_beside : FnAt P w K mg base 2 "_law_beside" ["column", "cell", "height"] [] S_law_beside) (F_law_cell_at : FnAt P w K mg base 1 "_law_cell_at" ["script", "k"] [] S_law_cell_at) (F_law_column : FnAt P w K mg base 1 "_law_column" ["cell", "height"] [] S_law_column) (F_law_doubled : FnAt P w K mg base 1 "_law_doubled" ["spots", "cell", "more"] [] S_law_doubled) (F_law_height : FnAt P w K mg base 1 "_law_height" ["cell"] [] S_law_height) (F_law_strip : FnAt P w K mg base 2 "_law_strip" ["found", "due"] [] S_law_strip) (F_law_there : FnAt P w K mg base 3 "_law_there" ["one", "other", "height"] [] S_law_there) (F_law_turned : FnAt P w K mg base 1 "_law_turned" ["strip", "spots"] [] S_law_turned) (F_turned : FnAt P w K mg base 1 "turned" ["height", "strip", "spots"] [] S_turned) : FnOk P w K mg base (L2.CX P w) 4 f fd ["script"] (dsp K mg S_law) :=
  fn_d F sc_law l_law (fun cdv A outer s H E G hr tk hp => d_law T F_law_beside F_law_cell_at F_law_column F_law_doubled F_law_height F_law_strip F_law_there F_law_turned F_turned cdv A outer s H E G hr tk hp) w_law
def dfs : List He.DefD := [⟨("lines_of", none), "lines_of", "lines_of", defArgs st_lines_of, defBody st_lines_of, defScope st_lines_of, [], []⟩, ⟨("spots_apart", none), "spots_apart", "spots_apart", defArgs st_spots_apart, defBody st_spots_apart, defScope st_spots_apart, [], []⟩, ⟨("turned", none), "turned", "turned", defArgs st_turned, defBody st_turned, defScope st_turned, [], []⟩, ⟨("_law_cell_at", none), "_law_cell_at", "_law_cell_at", defArgs st_law_cell_at, defBody st_law_cell_at, defScope st_law_cell_at, [], []⟩, ⟨("_law_whole", none), "_law_whole", "_law_whole", defArgs st_law_whole, defBody st_law_whole, defScope st_law_whole, [], []⟩, ⟨("_law_height", none), "_law_height", "_law_height", defArgs st_law_height, defBody st_law_height, defScope st_law_height, [], []⟩, ⟨("_law_column", none), "_law_column", "_law_column", defArgs st_law_column, defBody st_law_column, defScope st_law_column, [], []⟩, ⟨("_law_beside", none), "_law_beside", "_law_beside", defArgs st_law_beside, defBody st_law_beside, defScope st_law_beside, [], []⟩, ⟨("_law_unlike", none), "_law_unlike", "_law_unlike", defArgs st_law_unlike, defBody st_law_unlike, defScope st_law_unlike, [], []⟩, ⟨("_law_spots", none), "_law_spots", "_law_spots", defArgs st_law_spots, defBody st_law_spots, defScope st_law_spots, [], []⟩, ⟨("_law_strip", none), "_law_strip", "_law_strip", defArgs st_law_strip, defBody st_law_strip, defScope st_law_strip, [], []⟩, ⟨("_law_turned", none), "_law_turned", "_law_turned", defArgs st_law_turned, defBody st_law_turned, defScope st_law_turned, [], []⟩, ⟨("_law_doubled", none), "_law_doubled", "_law_doubled", defArgs st_law_doubled, defBody st_law_doubled, defScope st_law_doubled, [], []⟩, ⟨("_law_there", none), "_law_there", "_law_there", defArgs st_law_there, defBody st_law_there, defScope st_law_there, [], []⟩, ⟨("law", none), "law", "law", defArgs st_law, defBody st_law, defScope st_law, [], []⟩]
def fas : List He.Fa := [.glo "lines_of", .glo "spots_apart", .glo "turned", .glo "_law_cell_at", .glo "_law_whole", .glo "_law_height", .glo "_law_column", .glo "_law_beside", .glo "_law_unlike", .glo "_law_spots", .glo "_law_strip", .glo "_law_turned", .glo "_law_doubled", .glo "_law_there", .glo "law", .exc "NotAlike", .glo "NotAlike", .exc "OffStrip", .glo "OffStrip"]
def loose0 : List Str := ["lines_of", "BlotError", "NotAlike", "OffStrip", "spots_apart", "turned", "_law_cell_at", "_law_whole", "_law_height", "_law_column", "_law_beside", "_law_unlike", "_law_spots", "_law_strip", "_law_turned", "_law_doubled", "_law_there"]
def loose : List Str := loose0
abbrev Rw : PySem.W.OpenRow := PySem.W.OpenLaw.row PySem.Challenge.rw_blotsure_k04_spots_lead_there
abbrev hk : PySem.W.Hook := hookE 4 (fas0 ++ fas) dfs (excB [])
def ob (s : PySem.W.SharedT) : AlE := obsE 4 (fas0 ++ fas) dfs (excB []) (HandSHeadRun.getT s)
theorem ob_eq (s : PySem.W.SharedT) : ob s = hk.obs s.abs := obsE_eq (HandSHeadRun.getT_eq s)
theorem run (w : World) : HandSHeadRun.RunEq Rw (PySem.W.view Rw.prog [21]) hk ob 2920 loose w := by
  intro os
  kernel_rfl
theorem facts {P : Program} {w : World} {K : K0} {h : Heap} {mg : Str → Option Value} {f : Addr} (X : K.In h) (G : h.Ns mainGlobals mg) (hfa : mg ("law" : Str) = some (.ref f)) (c : He.SaysD (fas0 ++ fas) dfs K) (cx : excB [] K = true) :
    ∃ fd : FuncData, (∀ (s : Shared) (v : Value), BindsTo s fd ⟨[v], []⟩ [("script", v)]) ∧ ∀ base : Heap, K.In base → base.Ns mainGlobals mg → FnOk P w K mg base (L2.CX P w) 4 f fd ["script"] (dsp K mg S_law) := by
  have T := gb_of X G c
  obtain ⟨f_lines_of, fd_lines_of, D_lines_of, g_lines_of⟩ := fun_of X G c (x := "lines_of") (st := st_lines_of) 0 22 rfl rfl
  obtain ⟨f_spots_apart, fd_spots_apart, D_spots_apart, g_spots_apart⟩ := fun_of X G c (x := "spots_apart") (st := st_spots_apart) 1 23 rfl rfl
  obtain ⟨f_turned, fd_turned, D_turned, g_turned⟩ := fun_of X G c (x := "turned") (st := st_turned) 2 24 rfl rfl
  obtain ⟨f_law_cell_at, fd_law_cell_at, D_law_cell_at, g_law_cell_at⟩ := fun_of X G c (x := "_law_cell_at") (st := st_law_cell_at) 3 25 rfl rfl
  obtain ⟨f_law_whole, fd_law_whole, D_law_whole, g_law_whole⟩ := fun_of X G c (x := "_law_whole") (st := st_law_whole) 4 26 rfl rfl
  obtain ⟨f_law_height, fd_law_height, D_law_height, g_law_height⟩ := fun_of X G c (x := "_law_height") (st := st_law_height) 5 27 rfl rfl
  obtain ⟨f_law_column, fd_law_column, D_law_column, g_law_column⟩ := fun_of X G c (x := "_law_column") (st := st_law_column) 6 28 rfl rfl
  obtain ⟨f_law_beside, fd_law_beside, D_law_beside, g_law_beside⟩ := fun_of X G c (x := "_law_beside") (st := st_law_beside) 7 29 rfl rfl
  obtain ⟨f_law_unlike, fd_law_unlike, D_law_unlike, g_law_unlike⟩ := fun_of X G c (x := "_law_unlike") (st := st_law_unlike) 8 30 rfl rfl
  obtain ⟨f_law_spots, fd_law_spots, D_law_spots, g_law_spots⟩ := fun_of X G c (x := "_law_spots") (st := st_law_spots) 9 31 rfl rfl
  obtain ⟨f_law_strip, fd_law_strip, D_law_strip, g_law_strip⟩ := fun_of X G c (x := "_law_strip") (st := st_law_strip) 10 32 rfl rfl
  obtain ⟨f_law_turned, fd_law_turned, D_law_turned, g_law_turned⟩ := fun_of X G c (x := "_law_turned") (st := st_law_turned) 11 33 rfl rfl
  obtain ⟨f_law_doubled, fd_law_doubled, D_law_doubled, g_law_doubled⟩ := fun_of X G c (x := "_law_doubled") (st := st_law_doubled) 12 34 rfl rfl
  obtain ⟨f_law_there, fd_law_there, D_law_there, g_law_there⟩ := fun_of X G c (x := "_law_there") (st := st_law_there) 13 35 rfl rfl
  obtain ⟨f_law, fd_law, D_law, g_law⟩ := fun_of X G c (x := "law") (st := st_law) 14 36 rfl rfl
  have X_NotAlike := ex_of X G c (x := "NotAlike") 37 38 rfl rfl
  have X_OffStrip := ex_of X G c (x := "OffStrip") 39 40 rfl rfl
  have e := hfa.symm.trans g_law
  cases e
  refine ⟨fd_law, law_binds D_law fun _ _ _ _ _ _ us hl => match us, hl with | [_], _ => rfl, fun base _ _ => ?_⟩
  have F_lines_of := ok_lines_of (P := P) (w := w) (base := base) D_lines_of g_lines_of T
  have F_spots_apart := ok_spots_apart (P := P) (w := w) (base := base) D_spots_apart g_spots_apart T X_NotAlike F_lines_of
  have F_turned := ok_turned (P := P) (w := w) (base := base) D_turned g_turned T X_OffStrip
  have F_law_cell_at := ok_law_cell_at (P := P) (w := w) (base := base) D_law_cell_at g_law_cell_at T
  have F_law_whole := ok_law_whole (P := P) (w := w) (base := base) D_law_whole g_law_whole T
  have F_law_height := ok_law_height (P := P) (w := w) (base := base) D_law_height g_law_height T
  have F_law_column := ok_law_column (P := P) (w := w) (base := base) D_law_column g_law_column T
  have F_law_beside := ok_law_beside (P := P) (w := w) (base := base) D_law_beside g_law_beside T F_law_column
  have F_law_unlike := ok_law_unlike (P := P) (w := w) (base := base) D_law_unlike g_law_unlike T
  have F_law_spots := ok_law_spots (P := P) (w := w) (base := base) D_law_spots g_law_spots T F_law_unlike F_law_whole
  have F_law_strip := ok_law_strip (P := P) (w := w) (base := base) D_law_strip g_law_strip T F_law_whole
  have F_law_turned := ok_law_turned (P := P) (w := w) (base := base) D_law_turned g_law_turned T
  have F_law_doubled := ok_law_doubled (P := P) (w := w) (base := base) D_law_doubled g_law_doubled T
  have F_law_there := ok_law_there (P := P) (w := w) (base := base) D_law_there g_law_there T F_law_spots F_law_strip F_spots_apart F_turned
  exact ok_law D_law T F_law_beside F_law_cell_at F_law_column F_law_doubled F_law_height F_law_strip F_law_there F_law_turned F_turned
end DL.L
open PySem PySem.W PySem.Calls PyProof.Rows
theorem PySem.Challenge.cw_blotsure_k04_spots_lead_there_holds : PySem.Challenge.rw_blotsure_k04_spots_lead_there.Holds := by
  w_on
  o_law
  refine HandSHeadRun.head_any (r := DL.L.Rw) (q := view DL.L.Rw.prog [21]) (H := DL.L.hk) (ob := DL.L.ob) (M := 2920) (loose := DL.L.loose) (d := HandSHeadRun.topDef DL.L.Rw.prog 21) (kwd := []) DL.L.ob_eq
    (by kernel_rfl) (fun s => by kernel_rfl) DL.L.run (by kernel_rfl) (by kernel_rfl) (by kernel_rfl) (by rfl) (by first | assumption | decide +kernel) (by decide +kernel) ⟨rfl, rfl, rfl, rfl, rfl, by decide +kernel⟩ ?hw ?hc
  case hw => w_witness2
  case hc =>
    refine DL.walk_EB (l := PySem.Challenge.rw_blotsure_k04_spots_lead_there) (n := 63) (k := 4) (x := "script") (CX := fun w => L2.CX (PySem.Challenge.rw_blotsure_k04_spots_lead_there).prog w) rfl (by decide) (by kernel_rfl) ⟨rfl, by decide, by decide⟩ ?F (fun w => DL.cx_none w)
    intro w mg fa h Y G hmg0
    obtain ⟨K, KX, c, cx⟩ := Y
    have hmg : mg ("law" : PySem.Str) = some (.ref fa) := by
      have e : (HandSHeadRun.topDef DL.L.Rw.prog 21).name = ("law" : PySem.Str) := by kernel_rfl
      rw [← e]
      exact hmg0
    obtain ⟨fd, hb, hF⟩ := DL.L.facts (P := (PySem.Challenge.rw_blotsure_k04_spots_lead_there).prog) (w := w) KX G hmg c cx
    exact ⟨K, fd, DL.dsp K mg DL.S_law, KX, hb, fun H a ns hl hbt ho hS => DL.law_sp H a ns hl hbt ho hS, hF⟩

