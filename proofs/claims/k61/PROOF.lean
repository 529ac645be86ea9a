import PyProof.Rows.All
import Wide.All
import OpenK.AllK
import Wide.FinOn
import HandS.ForMost
import HandS.ForExc
import HandS.Wide
import HandS.TupAny
import HandS.Conv
import HandS.WideBits
import HandS.Style
import HandS.IsInst
import HandS.CallSlots
import HandS.Defaults
import HandS.HeadHook2
import HandS.ExcOwn
import HandS.More
import KE.OsArith
import KE.KStateDown
import HandS.EndBits
import HandS.Head0
import HandS.Head1
import HandS.Head2
import HandS.HeadEnd
import HandS.HeadHook1
import HandS.Iter
import HandS.Zip
import HandS.Rev
import HandS.Small
import HandS.NoneIn
import HandS.Sort
import HandS.StrMore
import PyProof.StrOps2
import HandS.ExcIs
import HandS.TryOnly
import HandS.TryMany
import HandS.SortInts
import HandS.Dict
import PyProof.Rows.SortShellAny
import KE.KDictPairs
import PyProof.Rows.StrRev
import KE.SortData
import HandS.RevTup
import KE.KDictList
import KE.KEqNest
import KE.GoesEnumKw
import KE.KRevIter
import PyProof.JoinWalk
import PyProof.ListStr
import KE.IntBitsLaws
import HandS.Codes
import PySem.Challenge.RW_blotsure_k61_halfway
set_option Elab.async false
set_option linter.all false
set_option maxRecDepth 100000
set_option maxHeartbeats 1000000
/-! DL1: values seen as data; what a function's own frame owns; the relation between both and the hand layer's heap. -/
namespace DL
open PySem L2
abbrev D := PyData
abbrev K0 := PySem.W.Frag

/-- a key of a dict as data -/
def kD : Key → D
  | .inl i => .int i
  | .inr x => .str x

/-- smaller heap -/
def Le (B H : Hp) : Prop := ∀ a o, B a = some o → H a = some o
theorem Le.refl (H : Hp) : Le H H := fun _ _ h => h
theorem Le.trans {A B C : Hp} (h : Le A B) (g : Le B C) : Le A C := fun a o x => g a o (h a o x)
theorem Le.none {B H : Hp} (h : Le B H) {a : Addr} (n : H a = none) : B a = none := by
  cases q : B a with
  | none => rfl
  | some o => rw [h a o q] at n; cases n
theorem Le.sqL {K : K0} {B H : Hp} (h : Le B H) {a : Addr} {xs : List V} (s : SqL K B a xs) : SqL K H a xs := by
  rcases s with (s | ⟨o, s⟩) | s
  · exact .inl (.inl (h _ _ s))
  · exact .inl (.inr ⟨o, h _ _ s⟩)
  · exact .inr s
theorem Le.sqT {K : K0} {B H : Hp} (h : Le B H) {a : Addr} {xs : List V} (s : SqT K B a xs) : SqT K H a xs := by
  rcases s with (s | ⟨o, s⟩) | s
  · exact .inl (.inl (h _ _ s))
  · exact .inl (.inr ⟨o, h _ _ s⟩)
  · exact .inr s
theorem Le.rd {B H : Hp} (h : Le B H) {a : Addr} {u : HO} (s : Rd B a u) : Rd H a u := by
  rcases s with s | ⟨o, s⟩
  · exact .inl (h _ _ s)
  · exact .inr ⟨o, h _ _ s⟩

/-- flat data -/
def flatD : D → Bool
  | .none => true | .bool _ => true | .int _ => true | .str _ => true | _ => false
/-- a tuple's object has no dict of its own, or one of its items is flat -/
def Pln (B : Hp) (a : Addr) : Prop := ∃ (o : Obj) (u : HO), B a = some (.frz o u) ∧ o.dict = none
def TupP (B : Hp) (a : Addr) (ds : List D) : Prop := Pln B a ∨ ∃ d ∈ ds, flatD d = true
theorem Pln.mono {B B' : Hp} {a : Addr} (l : Le B B') (h : Pln B a) : Pln B' a := let ⟨o, u, e, q⟩ := h; ⟨o, u, l _ _ e, q⟩
theorem TupP.mono {B B' : Hp} {a : Addr} {ds : List D} (l : Le B B') (h : TupP B a ds) : TupP B' a ds := h.imp (·.mono l) id
mutual
/-- a value that stands for data, all of it within the still part B -/
inductive Rep (K : K0) (B : Hp) : V → D → Prop
  | non : Rep K B .non .none
  | bl (b : Bool) : Rep K B (.bl b) (.bool b)
  | int (i : Int) : Rep K B (.int i) (.int i)
  | str (x : Str) : Rep K B (.str x) (.str x)
  | lst {a : Addr} {vs : List V} {ds : List D} : SqL K B a vs → RepAll K B vs ds → Rep K B (.ref a) (.list ds)
  | tup {a : Addr} {vs : List V} {ds : List D} : SqT K B a vs → RepAll K B vs ds → TupP B a ds → Rep K B (.ref a) (.tuple ds)
  | dic {a : Addr} {kvs : List (Key × V)} {ds : List (D × D)} : Rd B a (.dK kvs) → RepKV K B kvs ds → Rep K B (.ref a) (.dict ds)
inductive RepAll (K : K0) (B : Hp) : List V → List D → Prop
  | nil : RepAll K B [] []
  | cons {v : V} {vs : List V} {d : D} {ds : List D} : Rep K B v d → RepAll K B vs ds → RepAll K B (v :: vs) (d :: ds)
inductive RepKV (K : K0) (B : Hp) : List (Key × V) → List (D × D) → Prop
  | nil : RepKV K B [] []
  | cons {k : Key} {v : V} {kvs : List (Key × V)} {d : D} {ds : List (D × D)} : Rep K B v d → RepKV K B kvs ds → RepKV K B ((k, v) :: kvs) ((kD k, d) :: ds)
end

section
variable {K : K0} {B B' H : Hp}
mutual
theorem Rep.mono (l : Le B B') : ∀ {v : V} {d : D}, Rep K B v d → Rep K B' v d
  | _, _, .non => .non
  | _, _, .bl b => .bl b
  | _, _, .int i => .int i
  | _, _, .str x => .str x
  | _, _, .lst s r => .lst (l.sqL s) (RepAll.mono l r)
  | _, _, .tup s r p => .tup (l.sqT s) (RepAll.mono l r) (p.mono l)
  | _, _, .dic s r => .dic (l.rd s) (RepKV.mono l r)
theorem RepAll.mono (l : Le B B') : ∀ {vs : List V} {ds : List D}, RepAll K B vs ds → RepAll K B' vs ds
  | _, _, .nil => .nil
  | _, _, .cons r t => .cons (Rep.mono l r) (RepAll.mono l t)
theorem RepKV.mono (l : Le B B') : ∀ {vs : List (Key × V)} {ds : List (D × D)}, RepKV K B vs ds → RepKV K B' vs ds
  | _, _, .nil => .nil
  | _, _, .cons r t => .cons (Rep.mono l r) (RepKV.mono l t)
end
theorem RepAll.length : ∀ {vs : List V} {ds : List D}, RepAll K B vs ds → vs.length = ds.length
  | _, _, .nil => rfl
  | _, _, .cons _ t => congrArg (· + 1) (RepAll.length t)
theorem RepAll.get : ∀ {vs : List V} {ds : List D} {i : Nat} {d : D}, RepAll K B vs ds → ds[i]? = some d → ∃ v, vs[i]? = some v ∧ Rep K B v d
  | _, _, _, _, .nil, e => by simp at e
  | _, _, 0, _, .cons r _, e => by simp at e; subst e; exact ⟨_, rfl, r⟩
  | _, _, i + 1, d, .cons _ t, e => by
    obtain ⟨v, h1, h2⟩ := RepAll.get (i := i) (d := d) t (by simpa using e)
    exact ⟨v, by simpa using h1, h2⟩
theorem RepAll.getV : ∀ {vs : List V} {ds : List D} {i : Nat} {v : V}, RepAll K B vs ds → vs[i]? = some v → ∃ d, ds[i]? = some d ∧ Rep K B v d
  | _, _, _, _, .nil, e => by simp at e
  | _, _, 0, _, .cons r _, e => by simp at e; subst e; exact ⟨_, rfl, r⟩
  | _, _, i + 1, d, .cons _ t, e => by
    obtain ⟨v, h1, h2⟩ := RepAll.getV (i := i) (v := d) t (by simpa using e)
    exact ⟨v, by simpa using h1, h2⟩
theorem RepAll.append : ∀ {vs ws : List V} {ds es : List D}, RepAll K B vs ds → RepAll K B ws es → RepAll K B (vs ++ ws) (ds ++ es)
  | _, _, _, _, .nil, s => s
  | _, _, _, _, .cons r t, s => .cons r (RepAll.append t s)
theorem RepAll.one {v : V} {d : D} (r : Rep K B v d) : RepAll K B [v] [d] := .cons r .nil
theorem RepAll.take : ∀ {vs : List V} {ds : List D} (n : Nat), RepAll K B vs ds → RepAll K B (vs.take n) (ds.take n)
  | _, _, 0, _ => .nil
  | _, _, _ + 1, .nil => .nil
  | _, _, n + 1, .cons r t => .cons r (RepAll.take n t)
theorem RepAll.drop : ∀ {vs : List V} {ds : List D} (n : Nat), RepAll K B vs ds → RepAll K B (vs.drop n) (ds.drop n)
  | _, _, 0, r => r
  | _, _, _ + 1, .nil => .nil
  | _, _, n + 1, .cons _ t => RepAll.drop n t
theorem RepAll.set {v : V} {d : D} (r : Rep K B v d) : ∀ {vs : List V} {ds : List D} (i : Nat), RepAll K B vs ds → RepAll K B (vs.set i v) (ds.set i d)
  | _, _, _, .nil => .nil
  | _, _, 0, .cons _ t => .cons r t
  | _, _, i + 1, .cons q t => .cons q (RepAll.set r i t)
theorem RepAll.reverse : ∀ {vs : List V} {ds : List D}, RepAll K B vs ds → RepAll K B vs.reverse ds.reverse
  | _, _, .nil => .nil
  | _, _, .cons r t => by
    rw [List.reverse_cons, List.reverse_cons]
    exact (RepAll.reverse t).append (.one r)
theorem RepAll.dropLast {vs : List V} {ds : List D} (r : RepAll K B vs ds) : RepAll K B vs.dropLast ds.dropLast := by
  rw [List.dropLast_eq_take, List.dropLast_eq_take, r.length]
  exact r.take _
theorem RepAll.rep {vs : List V} {ds : List D} (r : RepAll K B vs ds) : ∀ n : Nat, RepAll K B (List.replicate n vs).flatten (List.replicate n ds).flatten
  | 0 => .nil
  | n + 1 => by
    rw [List.replicate_succ, List.replicate_succ, List.flatten_cons, List.flatten_cons]
    exact r.append (RepAll.rep r n)
theorem RepAll.insertIdx : ∀ {vs : List V} {ds : List D} {v : V} {d : D} (i : Nat), RepAll K B vs ds → Rep K B v d → RepAll K B (vs.insertIdx i v) (ds.insertIdx i d)
  | _, _, _, _, 0, t, r => .cons r t
  | _, _, _, _, _ + 1, .nil, _ => .nil
  | _, _, _, _, i + 1, .cons q t, r => .cons q (RepAll.insertIdx i t r)
theorem RepAll.eraseIdx : ∀ {vs : List V} {ds : List D} (i : Nat), RepAll K B vs ds → RepAll K B (vs.eraseIdx i) (ds.eraseIdx i)
  | _, _, _, .nil => .nil
  | _, _, 0, .cons _ t => t
  | _, _, i + 1, .cons q t => .cons q (RepAll.eraseIdx i t)
theorem RepAll.ints {ns : List Int} : RepAll K B (ns.map V.int) (ns.map PyData.int) := by
  induction ns with
  | nil => exact .nil
  | cons n r ih => exact .cons (.int n) ih
theorem RepKV.length : ∀ {vs : List (Key × V)} {ds : List (D × D)}, RepKV K B vs ds → vs.length = ds.length
  | _, _, .nil => rfl
  | _, _, .cons _ t => congrArg (· + 1) (RepKV.length t)
end

/-! ### what a frame owns -/
inductive O where
  /-- still: never changed from here on -/
  | fro (d : D)
  /-- an own list of still items, an own dict of still values, an own list of own things -/
  | lst (ds : List D)
  | dic (kvs : List (D × D))
  | lsts (os : List O)
  /-- a caught exception -/
  | raw (a : Addr)
mutual
def O.frz : O → D
  | .fro d => d
  | .lst ds => .list ds
  | .dic kvs => .dict kvs
  | .lsts os => .list (O.frzs os)
  | .raw _ => .none
def O.frzs : List O → List D
  | [] => []
  | o :: os => O.frz o :: O.frzs os
end
theorem O.frzs_map : ∀ os : List O, O.frzs os = os.map O.frz
  | [] => by rw [O.frzs]; rfl
  | o :: os => by rw [O.frzs, O.frzs_map os]; rfl
@[simp] theorem O.frz_fro (d : D) : O.frz (.fro d) = d := by rw [O.frz]
@[simp] theorem O.frz_lst (ds : List D) : O.frz (.lst ds) = .list ds := by rw [O.frz]
@[simp] theorem O.frz_dic (ds : List (D × D)) : O.frz (.dic ds) = .dict ds := by rw [O.frz]
@[simp] theorem O.frz_lsts (os : List O) : O.frz (.lsts os) = .list (os.map O.frz) := by rw [O.frz, O.frzs_map]

mutual
/-- v is the thing o; fp: the addresses that are owned -/
inductive Own (K : K0) (B H : Hp) : V → O → List Addr → Prop
  | fro {v : V} {d : D} : Rep K B v d → Own K B H v (.fro d) []
  | lst {a : Addr} {vs : List V} {ds : List D} : H a = some (.lst vs) → RepAll K B vs ds → Own K B H (.ref a) (.lst ds) [a]
  | dic {a : Addr} {kvs : List (Key × V)} {ds : List (D × D)} : H a = some (.dK kvs) → RepKV K B kvs ds → Own K B H (.ref a) (.dic ds) [a]
  | lsts {a : Addr} {vs : List V} {os : List O} {fp : List Addr} : H a = some (.lst vs) → OwnAll K B H vs os fp → Own K B H (.ref a) (.lsts os) (a :: fp)
inductive OwnAll (K : K0) (B H : Hp) : List V → List O → List Addr → Prop
  | nil : OwnAll K B H [] [] []
  | cons {v : V} {vs : List V} {o : O} {os : List O} {f g : List Addr} : Own K B H v o f → OwnAll K B H vs os g → OwnAll K B H (v :: vs) (o :: os) (f ++ g)
end
section
variable {K : K0} {B B' H H' : Hp}
mutual
theorem Own.mono (l : Le B B') : ∀ {v : V} {o : O} {f : List Addr}, (∀ a ∈ f, H' a = H a) → Own K B H v o f → Own K B' H' v o f
  | _, _, _, _, .fro r => .fro (r.mono l)
  | _, _, _, k, .lst h r => .lst (by rw [k _ (by simp)]; exact h) (r.mono l)
  | _, _, _, k, .dic h r => .dic (by rw [k _ (by simp)]; exact h) (r.mono l)
  | _, _, _, k, .lsts h r => .lsts (by rw [k _ (by simp)]; exact h) (OwnAll.mono l (fun a m => k a (List.mem_cons_of_mem _ m)) r)
theorem OwnAll.mono (l : Le B B') : ∀ {vs : List V} {os : List O} {f : List Addr}, (∀ a ∈ f, H' a = H a) → OwnAll K B H vs os f → OwnAll K B' H' vs os f
  | _, _, _, _, .nil => .nil
  | _, _, _, k, .cons r t => .cons (Own.mono l (fun a m => k a (List.mem_append_left _ m)) r) (OwnAll.mono l (fun a m => k a (List.mem_append_right _ m)) t)
end
mutual
theorem Own.dom : ∀ {v : V} {o : O} {f : List Addr}, Own K B H v o f → ∀ a ∈ f, ∃ u, H a = some u
  | _, _, _, .fro r, a, m => by simp at m
  | _, _, _, .lst h r, a, m => by simp at m; subst m; exact ⟨_, h⟩
  | _, _, _, .dic h r, a, m => by simp at m; subst m; exact ⟨_, h⟩
  | _, _, _, .lsts h r, a, m => by
    rcases List.mem_cons.mp m with rfl | m
    · exact ⟨_, h⟩
    · exact OwnAll.dom r a m
theorem OwnAll.dom : ∀ {vs : List V} {os : List O} {f : List Addr}, OwnAll K B H vs os f → ∀ a ∈ f, ∃ u, H a = some u
  | _, _, _, .nil, a, m => by simp at m
  | _, _, _, .cons r t, a, m => by
    rcases List.mem_append.mp m with m | m
    · exact Own.dom r a m
    · exact OwnAll.dom t a m
end
mutual
/-- made still: what stood at its addresses stands in B' -/
theorem Own.freeze (l : Le B B') : ∀ {v : V} {o : O} {f : List Addr}, (∀ a ∈ f, ∀ u, H a = some u → B' a = some u) → Own K B H v o f → Rep K B' v o.frz
  | _, _, _, _, .fro r => by rw [O.frz_fro]; exact r.mono l
  | _, _, _, k, .lst h r => by rw [O.frz_lst]; exact .lst (.inl (.inl (k _ (by simp) _ h))) (r.mono l)
  | _, _, _, k, .dic h r => by rw [O.frz_dic]; exact .dic (.inl (k _ (by simp) _ h)) (r.mono l)
  | _, _, _, k, .lsts h r => by
    rw [O.frz_lsts]
    exact .lst (.inl (.inl (k _ (by simp) _ h))) (OwnAll.freeze l (fun a m => k a (List.mem_cons_of_mem _ m)) r)
theorem OwnAll.freeze (l : Le B B') : ∀ {vs : List V} {os : List O} {f : List Addr}, (∀ a ∈ f, ∀ u, H a = some u → B' a = some u) → OwnAll K B H vs os f → RepAll K B' vs (os.map O.frz)
  | _, _, _, _, .nil => .nil
  | _, _, _, k, .cons r t => .cons (Own.freeze l (fun a m => k a (List.mem_append_left _ m)) r) (OwnAll.freeze l (fun a m => k a (List.mem_append_right _ m)) t)
end
/-- as it stands now, in the whole heap -/
theorem Own.rep (l : Le B H) {v : V} {o : O} {f : List Addr} (r : Own K B H v o f) : Rep K H v o.frz := r.freeze l fun _ _ _ h => h
theorem OwnAll.length : ∀ {vs : List V} {os : List O} {f : List Addr}, OwnAll K B H vs os f → vs.length = os.length
  | _, _, _, .nil => rfl
  | _, _, _, .cons _ t => congrArg (· + 1) (OwnAll.length t)
theorem OwnAll.get : ∀ {vs : List V} {os : List O} {f : List Addr} {i : Nat} {o : O}, OwnAll K B H vs os f → os[i]? = some o → ∃ v g, vs[i]? = some v ∧ Own K B H v o g ∧ g.Sublist f
  | _, _, _, _, _, .nil, e => by simp at e
  | _, _, _, 0, _, .cons r _, e => by simp at e; subst e; exact ⟨_, _, rfl, r, List.sublist_append_left _ _⟩
  | _, _, _, i + 1, o, .cons _ t, e => by
    obtain ⟨v, g, h1, h2, h3⟩ := OwnAll.get (i := i) (o := o) t (by simpa using e)
    exact ⟨v, g, by simpa using h1, h2, h3.trans (List.sublist_append_right _ _)⟩
theorem OwnAll.append : ∀ {vs ws : List V} {os ps : List O} {f g : List Addr}, OwnAll K B H vs os f → OwnAll K B H ws ps g → OwnAll K B H (vs ++ ws) (os ++ ps) (f ++ g)
  | _, _, _, _, _, _, .nil, s => s
  | _, _, _, _, _, _, .cons r t, s => by
    rw [List.append_assoc]
    exact .cons r (OwnAll.append t s)
end

/-! ### the frame -/
abbrev Env := List (Option O)
inductive OwnEnv (K : K0) (B H : Hp) : St → Env → List Addr → Prop
  | raw {a : Addr} {σ : St} {env : Env} {f : List Addr} : OwnEnv K B H σ env f → OwnEnv K B H (.some (.ref a) :: σ) (.some (.raw a) :: env) f
  | nil : OwnEnv K B H [] [] []
  | no {x : Option V} {σ : St} {env : Env} {f : List Addr} : OwnEnv K B H σ env f → OwnEnv K B H (x :: σ) (none :: env) f
  | some {v : V} {o : O} {σ : St} {env : Env} {f g : List Addr} : Own K B H v o f → OwnEnv K B H σ env g → OwnEnv K B H (some v :: σ) (some o :: env) (f ++ g)
section
variable {K : K0} {B B' H H' : Hp}
theorem OwnEnv.mono (l : Le B B') : ∀ {σ : St} {env : Env} {f : List Addr}, (∀ a ∈ f, H' a = H a) → OwnEnv K B H σ env f → OwnEnv K B' H' σ env f
  | _, _, _, _, .nil => .nil
  | _, _, _, k, .no t => .no (OwnEnv.mono l k t)
  | _, _, _, k, .raw t => .raw (OwnEnv.mono l k t)
  | _, _, _, k, .some r t => .some (r.mono l fun a m => k a (List.mem_append_left _ m)) (OwnEnv.mono l (fun a m => k a (List.mem_append_right _ m)) t)
theorem OwnEnv.dom : ∀ {σ : St} {env : Env} {f : List Addr}, OwnEnv K B H σ env f → ∀ a ∈ f, ∃ u, H a = .some u
  | _, _, _, .nil, a, m => by simp at m
  | _, _, _, .no t, a, m => OwnEnv.dom t a m
  | _, _, _, .raw t, a, m => OwnEnv.dom t a m
  | _, _, _, .some r t, a, m => by
    rcases List.mem_append.mp m with m | m
    · exact r.dom a m
    · exact OwnEnv.dom t a m
theorem OwnEnv.length : ∀ {σ : St} {env : Env} {f : List Addr}, OwnEnv K B H σ env f → σ.length = env.length
  | _, _, _, .nil => rfl
  | _, _, _, .no t => congrArg (· + 1) (OwnEnv.length t)
  | _, _, _, .raw t => congrArg (· + 1) (OwnEnv.length t)
  | _, _, _, .some _ t => congrArg (· + 1) (OwnEnv.length t)
theorem OwnEnv.get0 : ∀ {σ : St} {env : Env} {f : List Addr} {i : Nat} {o : O}, OwnEnv K B H σ env f → env[i]? = .some (.some o) → (∀ a, o ≠ .raw a) → ∃ v g, σ[i]? = .some (.some v) ∧ Own K B H v o g ∧ g.Sublist f
  | _, _, _, _, _, .nil, e, _ => by simp at e
  | _, _, _, 0, _, .no _, e, _ => by simp at e
  | _, _, _, 0, _, .raw _, e, hr => by simp at e; exact (hr _ e.symm).elim
  | _, _, _, i + 1, o, .no t, e, hr => by
    obtain ⟨v, g, h1, h2, h3⟩ := OwnEnv.get0 (i := i) (o := o) t (by simpa using e) hr
    exact ⟨v, g, by simpa using h1, h2, h3⟩
  | _, _, _, i + 1, o, .raw t, e, hr => by
    obtain ⟨v, g, h1, h2, h3⟩ := OwnEnv.get0 (i := i) (o := o) t (by simpa using e) hr
    exact ⟨v, g, by simpa using h1, h2, h3⟩
  | _, _, _, 0, _, .some r _, e, _ => by simp at e; subst e; exact ⟨_, _, rfl, r, List.sublist_append_left _ _⟩
  | _, _, _, i + 1, o, .some _ t, e, hr => by
    obtain ⟨v, g, h1, h2, h3⟩ := OwnEnv.get0 (i := i) (o := o) t (by simpa using e) hr
    exact ⟨v, g, by simpa using h1, h2, h3.trans (List.sublist_append_right _ _)⟩
theorem OwnEnv.get {σ : St} {env : Env} {f : List Addr} {i : Nat} {o : O} (x : OwnEnv K B H σ env f) (e : env[i]? = .some (.some o)) (hr : ∀ a, o ≠ .raw a := by intro _ h; cases h) : ∃ v g, σ[i]? = .some (.some v) ∧ Own K B H v o g ∧ g.Sublist f := x.get0 e hr
theorem OwnEnv.getRaw : ∀ {σ : St} {env : Env} {f : List Addr} {i : Nat} {a : Addr}, OwnEnv K B H σ env f → env[i]? = .some (.some (.raw a)) → σ[i]? = .some (.some (.ref a))
  | _, _, _, _, _, .nil, e => by simp at e
  | _, _, _, 0, _, .no _, e => by simp at e
  | _, _, _, 0, _, .raw _, e => by simp at e; subst e; rfl
  | _, _, _, 0, _, .some r _, e => by simp at e; subst e; cases r
  | _, _, _, i + 1, a, .no t, e => by
    have := OwnEnv.getRaw (i := i) (a := a) t (by simpa using e)
    simpa using this
  | _, _, _, i + 1, a, .raw t, e => by
    have := OwnEnv.getRaw (i := i) (a := a) t (by simpa using e)
    simpa using this
  | _, _, _, i + 1, a, .some _ t, e => by
    have := OwnEnv.getRaw (i := i) (a := a) t (by simpa using e)
    simpa using this
end
end DL

set_option Elab.async false
set_option linter.all false
set_option maxRecDepth 100000
set_option maxHeartbeats 1000000
/-! DL2: the judgements over data. -/
namespace DL
open PySem L2

/-- a result: still data, a thing just made, a look into an own thing -/
inductive R where
  | v (d : D) | t (o : O) | b (o : O)
/-- as data -/
def R.d : R → D
  | .v d => d
  | .t o => o.frz
  | .b o => o.frz
@[simp] theorem R.d_v (d : D) : (R.v d).d = d := rfl
@[simp] theorem R.d_t (o : O) : (R.t o).d = o.frz := rfl
@[simp] theorem R.d_b (o : O) : (R.b o).d = o.frz := rfl
/-- its items are still -/
def R.sh : R → Prop
  | .b (.lsts _) => False
  | _ => True
@[simp] theorem R.sh_v (d : D) : (R.v d).sh = True := rfl
@[simp] theorem R.sh_t (o : O) : (R.t o).sh = True := rfl
@[simp] theorem R.sh_bf (o : D) : (R.b (.fro o)).sh = True := rfl
@[simp] theorem R.sh_bl (o : List D) : (R.b (.lst o)).sh = True := rfl
@[simp] theorem R.sh_bd (o : List (D × D)) : (R.b (.dic o)).sh = True := rfl
/-- it may be kept -/
def R.st : R → Prop
  | .b _ => False
  | _ => True
@[simp] theorem R.st_v (d : D) : (R.v d).st = True := rfl
@[simp] theorem R.st_t (o : O) : (R.t o).st = True := rfl

/-- from one heap to a later one: what stood stands, the still part has grown by new things alone -/
structure Ext (H B H' B' : Hp) : Prop where
  same : Le H H'
  le : Le B B'
  bh : Le B' H'
  new : ∀ a o, H a = some o → B a = none → B' a = none
theorem Ext.refl {H B : Hp} (h : Le B H) : Ext H B H B := ⟨.refl _, .refl _, h, fun _ _ _ n => n⟩
theorem Ext.trans {H B H1 B1 H2 B2 : Hp} (x : Ext H B H1 B1) (y : Ext H1 B1 H2 B2) : Ext H B H2 B2 :=
  ⟨x.same.trans y.same, x.le.trans y.le, y.bh, fun a o h n => y.new a o (x.same a o h) (x.new a o h n)⟩
/-- a new object, still from its birth -/
theorem Ext.put {H B : Hp} (h : Le B H) {p : Addr} (np : H p = none) (o : HO) : Ext H B (upd H p o) (upd B p o) where
  same := fun a u e => by rw [upd_ne (ne_of_none e np)]; exact e
  le := fun a u e => by rw [upd_ne (ne_of_none (h a u e) np)]; exact e
  bh := fun a u e => by
    by_cases q : a = p
    · subst q; rw [upd_same] at e ⊢; exact e
    · rw [upd_ne q] at e ⊢; exact h a u e
  new := fun a u e n => by rw [upd_ne (ne_of_none e np)]; exact n
/-- a new object, not still -/
theorem Ext.make {H B : Hp} (h : Le B H) {p : Addr} (np : H p = none) (o : HO) : Ext H B (upd H p o) B where
  same := fun a u e => by rw [upd_ne (ne_of_none e np)]; exact e
  le := .refl _
  bh := fun a u e => by rw [upd_ne (ne_of_none (h a u e) np)]; exact h a u e
  new := fun a u e n => n

/-- what a result is, behind a step from H; fp: what the frame owns -/
def VOk (K : K0) (H : Hp) (fp : List Addr) (B' H' : Hp) (v : V) : R → Prop
  | .v d => Rep K B' v d
  | .t o => ∃ f, Own K B' H' v o f ∧ f.Nodup ∧ ∀ a ∈ f, H a = none ∧ B' a = none
  | .b o => ∃ f, Own K B' H' v o f ∧ f.Sublist fp

/-- the frame: B what is still, G what others keep, fp what the frame owns -/
structure RR (K : K0) (G B : Hp) (env : Env) (fp : List Addr) (σ : St) (H : Hp) : Prop where
  bh : Le B H
  gh : Le G H
  gb : ∀ a o, G a = some o → B a = none
  own : OwnEnv K B H σ env fp
  nd : fp.Nodup
  fb : ∀ a ∈ fp, B a = none ∧ G a = none

section
variable {K : K0} {G B B' B1 B2 H H' H1 H2 : Hp} {env : Env} {fp : List Addr} {σ : St} {v : V} {r : R}
theorem RR.ext (x : RR K G B env fp σ H) (e : Ext H B H' B') : RR K G B' env fp σ H' where
  bh := e.bh
  gh := x.gh.trans e.same
  gb := fun a o h => e.new a o (x.gh a o h) (x.gb a o h)
  own := x.own.mono e.le fun a m => by
    obtain ⟨u, h⟩ := x.own.dom a m
    rw [h]; exact e.same a u h
  nd := x.nd
  fb := fun a m => by
    obtain ⟨u, h⟩ := x.own.dom a m
    exact ⟨e.new a u h (x.fb a m).1, (x.fb a m).2⟩

/-- the heap part that lies at some addresses, put to B -/
def addB (B H : Hp) (f : List Addr) : Hp := fun a => if a ∈ f then H a else B a
theorem addB_in {f : List Addr} {a : Addr} (m : a ∈ f) : addB B H f a = H a := by unfold addB; rw [if_pos m]
theorem addB_out {f : List Addr} {a : Addr} (m : a ∉ f) : addB B H f a = B a := by unfold addB; rw [if_neg m]
theorem addB_le (f : List Addr) (l : Le B H) : Le B (addB B H f) := fun a o h => by
  by_cases m : a ∈ f
  · rw [addB_in m]; exact l a o h
  · rw [addB_out m]; exact h
theorem addB_bh (f : List Addr) (l : Le B H) : Le (addB B H f) H := fun a o h => by
  by_cases m : a ∈ f
  · rw [addB_in m] at h; exact h
  · rw [addB_out m] at h; exact l a o h

/-- a result as data that may be read now and later: its items are still, itself stands in the heap -/
inductive RV (K : K0) (B H : Hp) : V → D → Prop
  | rep {v : V} {d : D} : Rep K B v d → RV K B H v d
  | lst {a : Addr} {vs : List V} {ds : List D} : H a = some (.lst vs) → RepAll K B vs ds → RV K B H (.ref a) (.list ds)
  | dic {a : Addr} {kvs : List (Key × V)} {ds : List (D × D)} : H a = some (.dK kvs) → RepKV K B kvs ds → RV K B H (.ref a) (.dict ds)
theorem RV.mono {d : D} (x : RV K B H v d) (l : Le B B') (s : Le H H') : RV K B' H' v d := by
  cases x with
  | rep r => exact .rep (r.mono l)
  | lst h r => exact .lst (s _ _ h) (r.mono l)
  | dic h r => exact .dic (s _ _ h) (r.mono l)
theorem RV.ext {d : D} (x : RV K B H v d) (e : Ext H B H' B') : RV K B' H' v d := x.mono e.le e.same
theorem RV.toH {d : D} (x : RV K B H v d) (l : Le B H) : Rep K H v d := by
  cases x with
  | rep r => exact r.mono l
  | lst h r => exact .lst (.inl (.inl h)) (r.mono l)
  | dic h r => exact .dic (.inl h) (r.mono l)
theorem RV.list {ds : List D} (x : RV K B H v (.list ds)) (l : Le B H) : ∃ a vs, v = .ref a ∧ SqL K H a vs ∧ RepAll K B vs ds := by
  cases x with
  | rep r => cases r with | lst s r => exact ⟨_, _, rfl, l.sqL s, r⟩
  | lst h r => exact ⟨_, _, rfl, .inl (.inl h), r⟩
theorem RV.tup {ds : List D} (x : RV K B H v (.tuple ds)) (l : Le B H) : ∃ a vs, v = .ref a ∧ SqT K H a vs ∧ RepAll K B vs ds := by
  cases x with
  | rep r => cases r with | tup s r p => exact ⟨_, _, rfl, l.sqT s, r⟩
theorem RV.dict {ds : List (D × D)} (x : RV K B H v (.dict ds)) (l : Le B H) : ∃ a kvs, v = .ref a ∧ Rd H a (.dK kvs) ∧ RepKV K B kvs ds := by
  cases x with
  | rep r => cases r with | dic s r => exact ⟨_, _, rfl, l.rd s, r⟩
  | dic h r => exact ⟨_, _, rfl, .inl h, r⟩
theorem RV.int {i : Int} (x : RV K B H v (.int i)) : v = .int i := by cases x with | rep r => cases r; rfl
theorem RV.str {i : Str} (x : RV K B H v (.str i)) : v = .str i := by cases x with | rep r => cases r; rfl
theorem RV.bool {i : Bool} (x : RV K B H v (.bool i)) : v = .bl i := by cases x with | rep r => cases r; rfl
theorem RV.none (x : RV K B H v .none) : v = .non := by cases x with | rep r => cases r; rfl

/-- a thing just made is let be still -/
theorem still {o : O} {f : List Addr} (e : Ext H B H' B') (x : Own K B' H' v o f) (hf : ∀ a ∈ f, H a = .none ∧ B' a = .none) :
    Ext H B H' (addB B' H' f) ∧ Le B' (addB B' H' f) ∧ Rep K (addB B' H' f) v o.frz := by
  refine ⟨⟨e.same, e.le.trans (addB_le f e.bh), addB_bh f e.bh, fun a u h n => ?_⟩, addB_le f e.bh, x.freeze (addB_le f e.bh) fun a m u h => by rw [addB_in m]; exact h⟩
  have na : a ∉ f := fun m => by rw [(hf a m).1] at h; cases h
  rw [addB_out na]
  exact e.new a u h n

/-- a result to be read -/
theorem VOk.view (e : Ext H B H' B') (x : VOk K H fp B' H' v r) (s : r.sh) : ∃ B2, Ext H B H' B2 ∧ Le B' B2 ∧ RV K B2 H' v r.d := by
  cases r with
  | v d => exact ⟨B', e, .refl _, .rep x⟩
  | t o =>
    obtain ⟨f, x, nd, hf⟩ := x
    obtain ⟨h1, h2, h3⟩ := still e x hf
    exact ⟨_, h1, h2, .rep h3⟩
  | b o =>
    obtain ⟨f, x, hs⟩ := x
    refine ⟨B', e, .refl _, ?_⟩
    cases o with
    | fro d => cases x with | fro r => show RV K B' H' v (O.frz (.fro d)); rw [O.frz_fro]; exact .rep r
    | lst ds => cases x with | lst h r => show RV K B' H' _ (O.frz (.lst ds)); rw [O.frz_lst]; exact .lst h r
    | dic ds => cases x with | dic h r => show RV K B' H' _ (O.frz (.dic ds)); rw [O.frz_dic]; exact .dic h r
    | lsts os => exact s.elim
    | raw _ => cases x
/-- a result to be kept -/
theorem VOk.keep (e : Ext H B H' B') (x : VOk K H fp B' H' v r) (s : r.st) : ∃ B2, Ext H B H' B2 ∧ Le B' B2 ∧ Rep K B2 v r.d := by
  cases r with
  | v d => exact ⟨B', e, .refl _, x⟩
  | t o =>
    obtain ⟨f, x, nd, hf⟩ := x
    obtain ⟨h1, h2, h3⟩ := still e x hf
    exact ⟨_, h1, h2, h3⟩
  | b o => exact s.elim
/-- a result as it stands in the whole heap -/
theorem VOk.now (e : Ext H B H' B') (x : VOk K H fp B' H' v r) : Rep K H' v r.d := by
  cases r with
  | v d => exact x.mono e.bh
  | t o => obtain ⟨f, x, _⟩ := x; exact x.rep e.bh
  | b o => obtain ⟨f, x, _⟩ := x; exact x.rep e.bh
theorem VOk.back (e : Ext H B H1 B1) (x : VOk K H1 fp B' H' v r) : VOk K H fp B' H' v r := by
  cases r with
  | v d => exact x
  | t o =>
    obtain ⟨f, x, nd, hf⟩ := x
    exact ⟨f, x, nd, fun a m => ⟨e.same.none (hf a m).1, (hf a m).2⟩⟩
  | b o => exact x
end

/-! ### readings over data -/
abbrev WE := Env → (R → Prop) → (Str → Prop) → Prop
abbrev WT := Env → (Bool → Prop) → (Str → Prop) → Prop
abbrev WA := Env → (List R → Prop) → (Str → Prop) → Prop
structure En where
  nx : Env → Prop
  rt : R → Prop
  bk : Env → Prop
  ct : Env → Prop
  ex : Str → Env → Prop
abbrev WS := En → Env → Prop

/-- the wish about exceptions: E of the class's name -/
def XOk (mg : Str → Option Value) (W : WX) (H : Hp) (σ : St) (E : Str → Prop) : Prop :=
  ∀ n cls H', E n → mg n = some cls → Le H H' → W cls none σ H'
theorem XOk.later {mg : Str → Option Value} {W : WX} {H H1 : Hp} {σ : St} {E : Str → Prop} (x : XOk mg W H σ E) (l : Le H H1) : XOk mg W H1 σ E :=
  fun n cls H' e m s => x n cls H' e m (l.trans s)

/-- how what follows takes a result -/
def QOk (K : K0) (B H : Hp) (fp : List Addr) (Q : R → Prop) (QV : VK) : Prop :=
  ∀ v H' B' r, Ext H B H' B' → VOk K H fp B' H' v r → Q r → QV v H'
theorem QOk.later {K : K0} {B H B1 H1 : Hp} {fp : List Addr} {Q : R → Prop} {QV : VK} (q : QOk K B H fp Q QV) (e : Ext H B H1 B1) : QOk K B1 H1 fp Q QV :=
  fun v H' B' r e' x h => q v H' B' r (e.trans e') (x.back e) h

section
variable (X : Cx) (W : WX) (G : Hp)
def tD (m : WE) : TE := fun σ H QV => ∃ B env fp Q E, RR X.K G B env fp σ H ∧ m env Q E ∧ QOk X.K B H fp Q QV ∧ XOk X.mg W H σ E
def tDT (m : WT) : TT := fun σ H QV => ∃ B env fp Q E, RR X.K G B env fp σ H ∧ m env Q E ∧ (∀ b H' B', Ext H B H' B' → Q b → QV b H') ∧ XOk X.mg W H σ E
/-- several results, each kept or looked at: what they are in the end -/
inductive VAll (K : K0) (B' H' : Hp) : List V → List R → Prop
  | nil : VAll K B' H' [] []
  | st {v : V} {r : R} {vs : List V} {rs : List R} : r.st → Rep K B' v r.d → VAll K B' H' vs rs → VAll K B' H' (v :: vs) (r :: rs)
  | lk {v : V} {o : O} {f : List Addr} {vs : List V} {rs : List R} : Own K B' H' v o f → VAll K B' H' vs rs → VAll K B' H' (v :: vs) (.b o :: rs)
def tDA (m : WA) : TA := fun σ H QV => ∃ B env fp Q E, RR X.K G B env fp σ H ∧ m env Q E ∧ (∀ vs H' B' rs, Ext H B H' B' → VAll X.K B' H' vs rs → Q rs → QV vs H') ∧ XOk X.mg W H σ E
/-- the links of a statement's ends -/
structure SOk (B : Hp) (d : En) (D : Ends) (σ₀ : St) : Prop where
  nx : ∀ σ H B' env fp, Le B B' → RR X.K G B' env fp σ H → d.nx env → D.nx σ H
  bk : ∀ σ H B' env fp, Le B B' → RR X.K G B' env fp σ H → d.bk env → D.bk σ H
  ct : ∀ σ H B' env fp, Le B B' → RR X.K G B' env fp σ H → d.ct env → D.ct σ H
  rt : ∀ v H B' r (f : List Addr), Le B B' → Le B' H → Le G H → (∀ a o, G a = some o → B' a = none) → (∀ a ∈ f, B' a = none ∧ G a = none) → f.Nodup →
    (match r with | .v d => Rep X.K B' v d | .t o => Own X.K B' H v o f | .b _ => False) → d.rt r → D.rt v H
  ex : ∀ n cls σ H B' env fp, Le B B' → RR X.K G B' env fp σ H → d.ex n env → X.mg n = some cls → W cls .none σ H
def tDS (m : WS) : TS := fun D σ H => ∃ B env fp d, RR X.K G B env fp σ H ∧ m d env ∧ SOk X W G B d D σ
def DE (e : Expr) (m : WE) : Prop := PE X e (tD X W G m)
def DT (e : Expr) (m : WT) : Prop := PT X e (tDT X W G m)
def DA (es : List Expr) (m : WA) : Prop := PA X es (tDA X W G m)
def DS (st : Stmt) (m : WS) : Prop := PS X st (tDS X W G m)
def DSs (st : List Stmt) (m : WS) : Prop := PSs X st (tDS X W G m)
end

section
variable {X : Cx} {e : Expr} {es : List Expr} {st : Stmt} {sts : List Stmt}
theorem PEi {t t' : TE} (h : PE X e t) (f : ∀ σ H Q, t' σ H Q → t σ H Q) : PE X e t' := ⟨fun pins s σ H Q I w => h.run pins s σ H Q I (f σ H Q w)⟩
theorem PTi {t t' : TT} (h : PT X e t) (f : ∀ σ H Q, t' σ H Q → t σ H Q) : PT X e t' := ⟨fun pins s σ H Q I w => h.run pins s σ H Q I (f σ H Q w)⟩
theorem PWi {t t' : TT} (h : PW X e t) (f : ∀ σ H Q, t' σ H Q → t σ H Q) : PW X e t' := ⟨fun wh pins s σ H Q I w => h.run wh pins s σ H Q I (f σ H Q w)⟩
theorem PAi {t t' : TA} (h : PA X es t) (f : ∀ σ H Q, t' σ H Q → t σ H Q) : PA X es t' := ⟨fun p pins s σ H Q I w => h.run p pins s σ H Q I (f σ H Q w)⟩
theorem PSi {t t' : TS} (h : PS X st t) (f : ∀ D σ H, t' D σ H → t D σ H) : PS X st t' := ⟨fun pins s σ H D I w => h.run pins s σ H D I (f D σ H w)⟩
theorem PSsi {t t' : TS} (h : PSs X sts t) (f : ∀ D σ H, t' D σ H → t D σ H) : PSs X sts t' := ⟨fun pins s σ H D I w => h.run pins s σ H D I (f D σ H w)⟩
end
end DL

set_option Elab.async false
set_option linter.all false
set_option maxRecDepth 100000
set_option maxHeartbeats 1000000
/-! DLT: tuples made, their objects known: no dict of their own. -/
namespace DL
open PySem L2 PyProof.Rows
section
variable {X : Cx} {es : List Expr} {pos : Pos}
/-- what follows a new tuple -/
abbrev NewT (H : Hp) (xs : List V) (Q : VK) : Prop := ∀ p o, H p = none → Obj.dict o = none → Q (.ref p) (upd H p (.frz o (.tup xs)))
theorem newT {pins : List (Addr × Obj)} {σ : L2.St} {H : Hp} {s : Shared} (I : Inv X pins σ H s) {xs : List V} {its : List Value} {Q : VK} (z : xs.length ≤ sizeLine) (r : Vals xs its) (q : NewT H xs Q) {t' : Nat} :
    ∃ x H', Inv X pins σ H' { s with heap := s.heap.push { cls := .type "tuple", data := .seq its.toArray }, toks := t' } ∧ RelV x (.ref s.heap.objs.size) ∧ Q x H' :=
  ⟨.ref s.heap.objs.size, _, I.laid (t' := t') (o := .frz { cls := .type "tuple", data := .seq its.toArray } (.tup xs)) (fun b u e => Heap.get?_push_of_some _ e) (Nat.le_refl _) ⟨Heap.get?_push_size _ rfl, z, its, r, IsTup.new _ _⟩, rfl, q _ _ (I.hok.fresh (Nat.le_refl _)) rfl⟩
def tTupP (t : TA) : TE := fun σ H Q => t σ H fun xs H1 => xs.length ≤ sizeLine ∧ NewT H1 xs Q
theorem pe_tupP {t : TA} {x1} (h : PA X es t) : PE X (.Tuple es x1 pos) (tTupP t) := by
  refine ⟨fun pins s σ H Q I hq => ?_⟩
  refine wpAny_Tuple_spliced (thn (h.run pos pins s σ H _ I hq) fun us s1 ⟨xs, H1, I1, r, z, q⟩ => ⟨by rw [← r.length]; exact z, ?_⟩)
  exact newT I1 z r q
theorem call_tuple_ofP : CallR X (.type "tuple") (fun xs H Q => ∃ p ys, xs = [.ref p] ∧ ((SqL X.K H p ys ∧ NewT H ys Q) ∨ (SqT X.K H p ys ∧ Q (.ref p) H))) := by
  intro pins s σ H xs us Q I r h
  obtain ⟨p, ys, rfl, h⟩ := h
  obtain ⟨u, rfl, rx⟩ := vals1 r
  cases rx
  rcases h with ⟨hq, q⟩ | ⟨hq, q⟩
  · obtain ⟨its, r', pl, hz⟩ := I.list hq
    have hlen := r'.length
    refine call_tuple_list pl.isList (fun h' kp => ?_) (by simp only [List.size_toArray] <;> omega)
    have I1 : Inv X pins σ H { s with heap := h' } := I.kept (t' := s.toks) kp
    exact newT I1 hz r' q
  · obtain ⟨its, r', pl, hz⟩ := I.tuple hq
    exact call_tuple_same pl ⟨.ref p, H, I, rfl, q⟩
def rSlP (K : PySem.W.Frag) : V → Option Int → Option Int → Hp → VK → Prop := fun x lo hi H Q => ∃ a xs, x = .ref a ∧ SqT K H a xs ∧
  (HT.sIx xs.length 0 lo = 0 ∧ HT.sIx xs.length xs.length hi = xs.length → Q (.ref a) H) ∧ (¬ (HT.sIx xs.length 0 lo = 0 ∧ HT.sIx xs.length xs.length hi = xs.length) → NewT H (cutV xs lo hi) Q)
theorem sl_tupP : SlR X (rSlP X.K) := by
  intro pins s σ H x v vl vu lo hi sl Q I rx hs pl pu h
  obtain ⟨a, xs, rfl, hx, q1, q2⟩ := h
  cases rx
  obtain ⟨its, r, ht, hz⟩ := I.tuple hx
  have hlen : its.toArray.size = xs.length := by rw [List.size_toArray]; exact r.length.symm
  refine ⟨"tuple", _, PyProof.Rows.slot_tuple_getitem.lookup, ht.typeIs, ?_⟩
  by_cases hw : HT.sIx xs.length 0 lo = 0 ∧ HT.sIx xs.length xs.length hi = xs.length
  · exact getItem_tuple_whole ht hs pl pu (by rw [hlen]; exact hw) ⟨.ref a, H, I, rfl, q1 hw⟩
  · refine HT.getItem_tuple_cut ht hs pl pu (by rw [hlen]; exact hw) ?_ (by rw [hlen]; exact hz)
    rw [hlen]
    exact newT I (t' := s.toks) (Nat.le_trans (cutV_length xs lo hi) hz) ((r.drop (HT.sIx xs.length 0 lo)).take (HT.sIx xs.length xs.length hi - HT.sIx xs.length 0 lo)) (q2 hw)
def rCatP (K : PySem.W.Frag) : R2 := fun x y H Q => ∃ a b xs ys, x = .ref a ∧ y = .ref b ∧ SqT K H a xs ∧ SqT K H b ys ∧ xs.length + ys.length ≤ sizeLine ∧
  (xs = [] → Q (.ref b) H) ∧ (xs ≠ [] → ys = [] → Q (.ref a) H) ∧ (xs ≠ [] → ys ≠ [] → NewT H (xs ++ ys) Q)
theorem op_catP : OpR X (binaryOp .Add) (rCatP X.K) := by
  intro pins s σ H x y v u Q I rx ry h
  obtain ⟨a, b, xs, ys, rfl, rfl, ha, hb, hz, q0, q1, q2⟩ := h
  cases rx
  cases ry
  obtain ⟨its, r1, p1, _⟩ := I.tuple ha
  obtain ⟨its2, r2, p2, _⟩ := I.tuple hb
  by_cases hx : xs = []
  · subst hx
    cases r1
    exact cat_tup0 p1 p2 ⟨.ref b, H, I, rfl, q0 rfl⟩
  · refine HT.cat_tup p1 p2 (fun z => hx (r1.nil_iff.mp z)) (fun z => ⟨.ref a, H, I, rfl, q1 hx (r2.nil_iff.mp z)⟩) (fun z => ?_) (by rw [← r1.length, ← r2.length]; exact hz)
    exact newT I (t' := s.toks) (by rw [List.length_append]; exact hz) (r1.append r2) (q2 hx fun w => z (r2.nil_iff.mpr w))
theorem call_divmodP : CallR X (.builtin "divmod") (fun xs H Q => ∃ i j, xs = [.int i, .int j] ∧ CDivP i j ∧ NewT H [.int (i / j), .int (i % j)] Q) := by
  intro pins s σ H xs us Q I r h
  obtain ⟨i, j, rfl, ⟨h1, h2⟩, q⟩ := h
  obtain ⟨u, w', rfl, ⟨t, rfl⟩, ⟨t', rfl⟩⟩ := vals2 r
  refine divmod_int (by omega) ?_ (.inl h2)
  rw [Int.fdiv_eq_ediv_of_nonneg i (by omega), Int.fmod_eq_emod_of_nonneg i (by omega)]
  exact newT (xs := [.int (i / j), .int (i % j)]) (its := [.int (i / j) s.toks, .int (i % j) (s.toks + 1)]) I (by simp only [List.length_cons, List.length_nil]; rw [sizeLine_eq]; decide) (.cons ⟨_, rfl⟩ (.cons ⟨_, rfl⟩ .nil)) q
end
/-- a new still tuple -/
theorem newT_rep {K : K0} {B H : Hp} {p : Addr} {o : Obj} {vs : List V} {ds : List D} (l : Le B H) (np : H p = none) (ho : o.dict = none) (t : RepAll K B vs ds) : Rep K (upd B p (.frz o (.tup vs))) (.ref p) (.tuple ds) :=
  .tup (.inl (.inr ⟨o, upd_same⟩)) (t.mono (Ext.put l np (HO.frz o (.tup vs))).le) (.inl ⟨o, _, upd_same, ho⟩)
end DL

set_option Elab.async false
set_option linter.all false
set_option maxRecDepth 100000
set_option maxHeartbeats 1000000
/-! DL3: expressions over data: names, constants, operators, comparisons, tests. -/
namespace DL
open PySem L2 PyProof.Rows

/-! ### names, constants -/
def wVar (i : Nat) : WE := fun env Q _ => match env[i]? with
  | some (some (.fro d)) => Q (.v d)
  | some (some (.raw _)) => False
  | some (some o) => Q (.b o)
  | _ => False
def wC (d : D) : WE := fun _ Q _ => Q (.v d)
/-- flat data -/
def vD : D → Option V
  | .none => some .non
  | .bool b => some (.bl b)
  | .int i => some (.int i)
  | .str x => some (.str x)
  | _ => none
theorem vD_rep {K : K0} {B : Hp} {d : D} {v : V} (h : vD d = some v) : Rep K B v d := by
  cases d <;> simp [vD] at h <;> subst h
  · exact .non
  · exact .bl _
  · exact .int _
  · exact .str _
section
variable {X : Cx} {W : WX} {G : Hp} {e a b c : Expr} {m ma mb mc : WE}
theorem de_var (i : Nat) (h : PE X e (tVar i)) : DE X W G e (wVar i) := by
  refine PEi h fun σ H QV ⟨B, env, fp, Q, E, rr, hm, hq, _⟩ => ?_
  unfold wVar at hm
  split at hm
  · rename_i d he
    obtain ⟨v, g, h1, h2, h3⟩ := rr.own.get he
    cases h2 with
    | fro r => exact ⟨v, h1, hq v H B (.v d) (.refl rr.bh) r hm⟩
  · exact hm.elim
  · rename_i o _ hr he
    obtain ⟨v, g, h1, h2, h3⟩ := rr.own.get he fun a q => hr a q
    exact ⟨v, h1, hq v H B (.b o) (.refl rr.bh) ⟨g, h2, h3⟩ hm⟩
  · exact hm.elim
theorem de_c {d : D} {v : V} (h : PE X e (tC v)) (hv : vD d = some v) : DE X W G e (wC d) :=
  PEi h fun σ H QV ⟨B, env, fp, Q, E, rr, hm, hq, _⟩ => hq v H B (.v d) (.refl rr.bh) (vD_rep hv) hm

/-! ### two values -/
/-- a reading of a two-place operation on data -/
abbrev Op2 := D → D → (R → Prop) → Prop
def r2 (K : K0) (f : Op2) : R2 := fun x y H QV => ∃ B fp dx dy Q, Le B H ∧ RV K B H x dx ∧ RV K B H y dy ∧ f dx dy Q ∧ QOk K B H fp Q QV
def w2 (f : Op2) (ta tb : WE) : WE := fun env Q E => ta env (fun x => tb env (fun y => x.sh ∧ y.sh ∧ f x.d y.d Q) E) E
theorem two {K : K0} {ta tb : TE} {f : Op2} {r : R2} (ha : ∀ σ H QV, tD X W G ma σ H QV → ta σ H QV) (hb : ∀ σ H QV, tD X W G mb σ H QV → tb σ H QV)
    (hr : ∀ x y H QV, r2 X.K f x y H QV → r x y H QV) : ∀ σ H QV, tD X W G (w2 f ma mb) σ H QV → tOp r ta tb σ H QV := by
  rintro σ H QV ⟨B, env, fp, Q, E, rr, hm, hq, hx⟩
  refine ha σ H _ ⟨B, env, fp, _, E, rr, hm, fun v1 H1 B1 r1 e1 o1 q1 => ?_, hx⟩
  -- the first may be no value to look into: then the second way is never asked
  refine hb σ H1 _ ?_
  by_cases s1 : r1.sh
  · obtain ⟨B2, e2, l2, rv1⟩ := o1.view e1 s1
    refine ⟨B2, env, fp, _, E, rr.ext e2, q1, fun v2 H3 B3 r2 e3 o2 q2 => ?_, hx.later e1.same⟩
    obtain ⟨_, s2, hf⟩ := q2
    obtain ⟨B4, e4, l4, rv2⟩ := o2.view e3 s2
    exact hr _ _ _ _ ⟨B4, fp, _, _, Q, e4.bh, rv1.ext e4, rv2, hf, hq.later (e2.trans e4)⟩
  · refine ⟨B1, env, fp, _, E, rr.ext e1, q1, fun v2 H3 B3 r2 e3 o2 q2 => ?_, hx.later e1.same⟩
    exact (s1 q2.1).elim
theorem de_2 {f : Op2} {op : Operator} {pos : Pos} (ho : OpR X (binaryOp op) (r2 X.K f)) (ha : DE X W G a ma) (hb : DE X W G b mb) : DE X W G (.BinOp a op b pos) (w2 f ma mb) :=
  PEi (pe_op ho ha hb) (two (K := X.K) (fun _ _ _ h => h) (fun _ _ _ h => h) fun _ _ _ _ h => h)

def bAdd : Op2
  | .int i, .int j, Q => Q (.v (.int (i + j)))
  | .str i, .str j, Q => i.length + j.length ≤ sizeLine ∧ Q (.v (.str (i ++ j)))
  | .list i, .list j, Q => i.length + j.length ≤ sizeLine ∧ Q (.t (.lst (i ++ j)))
  | .tuple i, .tuple j, Q => i.length + j.length ≤ sizeLine ∧ Q (.v (.tuple (i ++ j)))
  | _, _, _ => False
def bI (C : Int → Int → Prop) (g : Int → Int → Int) : Op2
  | .int i, .int j, Q => C i j ∧ Q (.v (.int (g i j)))
  | _, _, _ => False
@[simp] theorem bI_int (C : Int → Int → Prop) (g : Int → Int → Int) (i j : Int) (Q : R → Prop) : bI C g (.int i) (.int j) Q = (C i j ∧ Q (.v (.int (g i j)))) := rfl
abbrev CT : Int → Int → Prop := fun _ _ => True
theorem bI_inv {C : Int → Int → Prop} {g : Int → Int → Int} {dx dy : D} {Q : R → Prop} (h : bI C g dx dy Q) : ∃ i j, dx = .int i ∧ dy = .int j ∧ C i j ∧ Q (.v (.int (g i j))) := by
  cases dx <;> cases dy <;> first | exact h.elim | exact ⟨_, _, rfl, rfl, h⟩
theorem opIr {f : Value → Value → Sem Value} {C : Int → Int → Prop} {g : Int → Int → Int} (h : OpR X f (rI C fun i j => .int (g i j))) : OpR X f (r2 X.K (bI C g)) := by
  intro pins s σ H x y v u Q I rx ry ⟨B, fp, dx, dy, Q', l, hx, hy, hf, hq⟩
  obtain ⟨i, j, rfl, rfl, hc, hf⟩ := bI_inv hf
  exact h pins s σ H x y v u Q I rx ry ⟨i, j, hx.int, hy.int, hc, hq _ H B (.v _) (.refl l) (.int _) hf⟩
theorem opIr0 {f : Value → Value → Sem Value} {g : Int → Int → Int} (h : OpR X f (rI0 fun i j => .int (g i j))) : OpR X f (r2 X.K (bI CT g)) := by
  intro pins s σ H x y v u Q I rx ry ⟨B, fp, dx, dy, Q', l, hx, hy, hf, hq⟩
  obtain ⟨i, j, rfl, rfl, hc, hf⟩ := bI_inv hf
  exact h pins s σ H x y v u Q I rx ry ⟨i, j, hx.int, hy.int, hq _ H B (.v _) (.refl l) (.int _) hf⟩
def CMulG (i j : Int) : Prop := IntMulOk i j
theorem op_mulG : OpR X (binaryOp .Mult) (rI CMulG fun i j => .int (i * j)) := opI fun _ _ _ _ _ _ _ hc q => mul_int q hc
abbrev wSub := w2 (bI CT fun i j => i - j)
abbrev wMul := w2 (bI CMulG fun i j => i * j)
abbrev wDiv := w2 (bI CDivW fun i j => i / j)
abbrev wMod := w2 (bI (fun _ j => 0 < j) fun i j => i % j)
abbrev wPow := w2 (bI CPow fun i j => i ^ j.toNat)
abbrev wShl := w2 (bI CPow fun i j => i * 2 ^ j.toNat)
abbrev wShr := w2 (bI (fun _ j => 0 ≤ j) fun i j => i / 2 ^ j.toNat)
abbrev wAnd := w2 (bI CT fun i j => Builtin.bitAnd i j)
abbrev wOr := w2 (bI CT fun i j => Builtin.bitOr i j)
abbrev wXor := w2 (bI CT fun i j => Builtin.bitXor i j)
abbrev wAdd := w2 bAdd
theorem de_sub {pos} (ha : DE X W G a ma) (hb : DE X W G b mb) : DE X W G (.BinOp a .Sub b pos) (wSub ma mb) := de_2 (opIr0 op_sub) ha hb
theorem de_mul {pos} (ha : DE X W G a ma) (hb : DE X W G b mb) : DE X W G (.BinOp a .Mult b pos) (wMul ma mb) := de_2 (opIr op_mulG) ha hb
theorem de_div {pos} (ha : DE X W G a ma) (hb : DE X W G b mb) : DE X W G (.BinOp a .FloorDiv b pos) (wDiv ma mb) := de_2 (opIr op_fdivW) ha hb
theorem de_mod {pos} (ha : DE X W G a ma) (hb : DE X W G b mb) : DE X W G (.BinOp a .Mod b pos) (wMod ma mb) := de_2 (opIr op_mod) ha hb
theorem de_pow {pos} (ha : DE X W G a ma) (hb : DE X W G b mb) : DE X W G (.BinOp a .Pow b pos) (wPow ma mb) := de_2 (opIr op_pow) ha hb
theorem de_shl {pos} (ha : DE X W G a ma) (hb : DE X W G b mb) : DE X W G (.BinOp a .LShift b pos) (wShl ma mb) := de_2 (opIr op_shl) ha hb
theorem de_shr {pos} (ha : DE X W G a ma) (hb : DE X W G b mb) : DE X W G (.BinOp a .RShift b pos) (wShr ma mb) := de_2 (opIr op_shr) ha hb
theorem de_and {pos} (ha : DE X W G a ma) (hb : DE X W G b mb) : DE X W G (.BinOp a .BitAnd b pos) (wAnd ma mb) := de_2 (opIr0 op_and) ha hb
theorem de_or {pos} (ha : DE X W G a ma) (hb : DE X W G b mb) : DE X W G (.BinOp a .BitOr b pos) (wOr ma mb) := de_2 (opIr0 op_or) ha hb
theorem de_xor {pos} (ha : DE X W G a ma) (hb : DE X W G b mb) : DE X W G (.BinOp a .BitXor b pos) (wXor ma mb) := de_2 (opIr0 op_xor) ha hb

/-- a list, raw: whatever its slots -/
theorem op_catS : OpR X (binaryOp .Add) (fun x y H Q => ∃ l b xs zs, x = .ref l ∧ y = .ref b ∧ SqL X.K H l xs ∧ SqL X.K H b zs ∧ xs.length + zs.length ≤ sizeLine ∧ ∀ p, H p = none → Q (.ref p) (upd H p (.lst (xs ++ zs)))) := by
  intro pins s σ H x y v u Q I rx ry ⟨l, b, xs, zs, ex, ey, h1, h2, hz, q⟩
  subst ex ey
  cases rx
  cases ry
  obtain ⟨its, r, ⟨o, n, e, c, dd, ed⟩, z1⟩ := I.list h1
  obtain ⟨its2, r2, ⟨o2, n2, e2, c2, dd2, ed2⟩, z2⟩ := I.list h2
  obtain ⟨c0, d0, da, sl⟩ := o
  obtain ⟨c0', d0', da', sl'⟩ := o2
  simp only at c dd ed c2 dd2 ed2
  subst c dd ed c2 dd2 ed2
  have hl := r.length
  have hl2 := r2.length
  have ea : its.toArray ++ its2.toArray = (its ++ its2).toArray := by simp
  refine concat_meets ⟨_, e, rfl⟩ ⟨_, e2, rfl⟩ noFill_list_add seq_list_add F.slot_list_add F.entry_list_add (F.args_list_add_2 _ _)
    (list_addW l b its.toArray its2.toArray n n2 none none sl sl' (by rw [List.size_toArray, List.size_toArray]; omega)) ⟨e, e2, ?_⟩
  rw [ea]
  exact ⟨.ref _, _, I.lnew (t' := s.toks) (r.append r2) (by rw [List.length_append]; omega), rfl, q _ I.fresh⟩
theorem RV.tupRep {K : K0} {B H : Hp} {v : V} {ds : List D} (x : RV K B H v (.tuple ds)) : Rep K B v (.tuple ds) := by cases x with | rep r => exact r
theorem opAdd : OpR X (binaryOp .Add) (r2 X.K bAdd) := by
  intro pins s σ H x y v u Q I rx ry ⟨B, fp, dx, dy, Q', l, hx, hy, hf, hq⟩
  cases dx <;> cases dy <;> first
    | exact (show False from hf).elim
    | skip
  · exact op_add pins s σ H x y v u Q I rx ry ⟨_, _, hx.int, hy.int, hq _ H B (.v _) (.refl l) (.int _) hf⟩
  · exact op_add_str pins s σ H x y v u Q I rx ry ⟨_, _, hx.str, hy.str, hf.1, hq _ H B (.v _) (.refl l) (.str _) hf.2⟩
  · obtain ⟨a1, v1, e1, s1, t1⟩ := hx.list l
    obtain ⟨a2, v2, e2, s2, t2⟩ := hy.list l
    refine op_catS pins s σ H x y v u Q I rx ry ⟨_, _, _, _, e1, e2, s1, s2, by rw [t1.length, t2.length]; exact hf.1, fun p np => ?_⟩
    refine hq _ _ B (.t _) (.make l np _) ⟨[p], .lst upd_same (t1.append t2), by simp, fun a m => ?_⟩ hf.2
    simp at m; subst m
    exact ⟨np, l.none np⟩
  · obtain ⟨a1, v1, e1, s1, t1⟩ := hx.tup l
    obtain ⟨a2, v2, e2, s2, t2⟩ := hy.tup l
    have ry' := RV.tupRep hy
    have rx' := RV.tupRep hx
    refine op_catP pins s σ H x y v u Q I rx ry ⟨_, _, _, _, e1, e2, s1, s2, by rw [t1.length, t2.length]; exact hf.1, fun z => ?_, fun z z2 => ?_, fun _ _ p o np ho => ?_⟩
    · subst z; cases t1
      rw [e2] at ry'
      exact hq _ H B (.v _) (.refl l) ry' hf.2
    · subst z2; cases t2
      rw [e1] at rx'
      have hf2 := hf.2
      rw [List.append_nil] at hf2
      exact hq _ H B (.v _) (.refl l) rx' hf2
    · exact hq _ _ (upd B p _) (.v _) (.put l np _) (newT_rep l np ho (t1.append t2)) hf.2
end
end DL

set_option Elab.async false
set_option linter.all false
set_option maxRecDepth 100000
set_option maxHeartbeats 1000000
/-! DL4: comparisons and tests over data. -/
namespace DL
open PySem L2 PyProof.Rows

/-! ### keys of dicts -/
def keyD : D → Option Key
  | .int i => some (.inl i)
  | .str x => some (.inr x)
  | _ => none
theorem keyD_kD (k : Key) : keyD (kD k) = some k := by cases k <;> rfl
theorem kD_of {d : D} {k : Key} (h : keyD d = some k) : d = kD k := by
  cases d <;> simp [keyD] at h <;> subst h <;> rfl
def lookK (kvs : List (D × D)) (k : Key) : Option D := (kvs.find? fun p => decide (keyD p.1 = some k)).map (·.2)
theorem lookK_cons (p : D × D) (r : List (D × D)) (k : Key) : lookK (p :: r) k = if keyD p.1 = some k then some p.2 else lookK r k := by
  unfold lookK
  rw [List.find?_cons]
  by_cases h : keyD p.1 = some k
  · rw [if_pos h, decide_eq_true h]; rfl
  · rw [if_neg h, decide_eq_false h]
@[simp] theorem lookK_nil (k : Key) : lookK [] k = none := rfl
theorem RepKV.look {K : K0} {B : Hp} {k : Key} : ∀ {kvs : List (Key × V)} {ds : List (D × D)}, RepKV K B kvs ds →
    (valV kvs k = none ∧ lookK ds k = none) ∨ ∃ v d, valV kvs k = some v ∧ lookK ds k = some d ∧ Rep K B v d
  | _, _, .nil => .inl ⟨rfl, rfl⟩
  | _, _, .cons (k := j) r t => by
    rw [lookK_cons, keyD_kD]
    by_cases h : j = k
    · subst h
      rw [if_pos rfl, valV_pos rfl]
      exact .inr ⟨_, _, rfl, rfl, r⟩
    · rw [if_neg (fun q => h (Option.some.inj q)), valV_neg h]
      exact RepKV.look t
theorem RepKV.has {K : K0} {B : Hp} {k : Key} {kvs : List (Key × V)} {ds : List (D × D)} (r : RepKV K B kvs ds) : (valV kvs k).isSome = (lookK ds k).isSome := by
  rcases r.look (k := k) with ⟨a, b⟩ | ⟨v, d, a, b, _⟩
  · rw [a, b]; rfl
  · rw [a, b]; rfl
theorem kV_rep {K : K0} {B : Hp} {k : Key} {v : V} (r : Rep K B v (kD k)) : v = kV k := by
  cases k <;> cases r <;> rfl
theorem Rep.dict_inv {K : K0} {B : Hp} {v : V} {ds : List (D × D)} (r : Rep K B v (.dict ds)) : ∃ a kvs, v = .ref a ∧ Rd B a (.dK kvs) ∧ RepKV K B kvs ds := by
  cases r with | dic s r => exact ⟨_, _, rfl, s, r⟩
theorem Rep.list_inv {K : K0} {B : Hp} {v : V} {ds : List D} (r : Rep K B v (.list ds)) : ∃ a vs, v = .ref a ∧ SqL K B a vs ∧ RepAll K B vs ds := by
  cases r with | lst s r => exact ⟨_, _, rfl, s, r⟩
theorem Rep.tup_inv {K : K0} {B : Hp} {v : V} {ds : List D} (r : Rep K B v (.tuple ds)) : ∃ a vs, v = .ref a ∧ SqT K B a vs ∧ RepAll K B vs ds := by
  cases r with | tup s r p => exact ⟨_, _, rfl, s, r⟩
theorem Rep.tup_p {K : K0} {B : Hp} {a : Addr} {ds : List D} (r : Rep K B (.ref a) (.tuple ds)) : TupP B a ds := by
  cases r with | tup s r p => exact p
theorem Rep.int_inv {K : K0} {B : Hp} {v : V} {i : Int} (r : Rep K B v (.int i)) : v = .int i := by cases r; rfl
theorem Rep.str_inv {K : K0} {B : Hp} {v : V} {i : Str} (r : Rep K B v (.str i)) : v = .str i := by cases r; rfl
theorem Rep.bool_inv {K : K0} {B : Hp} {v : V} {i : Bool} (r : Rep K B v (.bool i)) : v = .bl i := by cases r; rfl
theorem Rep.none_inv {K : K0} {B : Hp} {v : V} (r : Rep K B v .none) : v = .non := by cases r; rfl

mutual
theorem Rep.dp {K : K0} {H : Hp} : ∀ {v : V} {d : D}, d.canLay0 = true → Rep K H v d → Dp K H v d
  | _, _, _, .non => .non
  | _, _, _, .bl b => .bl b
  | _, _, _, .int i => .int i
  | _, _, _, .str x => .str x
  | _, _, h, .lst s r => .lst s (RepAll.dp (by simpa [PyData.canLay0] using h) r)
  | _, _, h, .tup s r _ => .tup s (RepAll.dp (by simpa [PyData.canLay0] using h) r)
  | _, _, h, .dic s r => by simp [PyData.canLay0] at h
theorem RepAll.dp {K : K0} {H : Hp} : ∀ {vs : List V} {ds : List D}, PyData.canLayAll0 ds = true → RepAll K H vs ds → DpAll K H vs ds
  | _, _, _, .nil => .nil
  | _, _, h, .cons r t => by
    simp only [PyData.canLayAll0, Bool.and_eq_true] at h
    exact .cons (Rep.dp h.1 r) (RepAll.dp h.2 t)
end

/-! ### comparisons on data -/
abbrev Op2B := D → D → (Bool → Prop) → Prop
/-- which pairs == is asked of -/
def okEq : D → D → Prop
  | .int _, .int _ => True
  | .str _, .str _ => True
  | .bool _, .bool _ => True
  | .none, .none => True
  | .none, .int _ => True
  | .int _, .none => True
  | .none, .str _ => True
  | .str _, .none => True
  | .str _, .int _ => True
  | .int _, .str _ => True
  | .none, .bool _ => True
  | .bool _, .none => True
  | x, y => SeqAt.shaped x = true ∧ SeqAt.shaped y = true
def cEq : Op2B := fun x y Q => okEq x y ∧ Q (PyData.eqv x y)
def cNe : Op2B := fun x y Q => okEq x y ∧ Q (!PyData.eqv x y)
@[simp] theorem eqv_int (i j : Int) : PyData.eqv (.int i) (.int j) = decide (i = j) := by rw [show PyData.eqv (.int i) (.int j) = (i == j) from by simp only [PyData.eqv], Bool.beq_eq_decide_eq]
@[simp] theorem eqv_str (i j : Str) : PyData.eqv (.str i) (.str j) = decide (i = j) := by rw [show PyData.eqv (.str i) (.str j) = (i == j) from by simp only [PyData.eqv], Bool.beq_eq_decide_eq]
@[simp] theorem eqv_bool (i j : Bool) : PyData.eqv (.bool i) (.bool j) = decide (i = j) := by rw [show PyData.eqv (.bool i) (.bool j) = (i == j) from by simp only [PyData.eqv], Bool.beq_eq_decide_eq]
@[simp] theorem eqv_none : PyData.eqv .none .none = true := by simp [PyData.eqv]
@[simp] theorem okEq_int (i j : Int) : okEq (.int i) (.int j) = True := rfl
@[simp] theorem okEq_str (i j : Str) : okEq (.str i) (.str j) = True := rfl
@[simp] theorem okEq_bool (i j : Bool) : okEq (.bool i) (.bool j) = True := rfl

def rc2 (K : K0) (f : Op2B) : R2 := fun x y H QV => ∃ B dx dy Q, Le B H ∧ Rep K H x dx ∧ Rep K H y dy ∧ f dx dy Q ∧ ∀ b, Q b → QV (.bl b) H
def c2 (f : Op2B) (ta tb : WE) : WT := fun env Q E => ta env (fun x => tb env (fun y => f x.d y.d Q) E) E
/-- a test's answer as a value -/
def wtv (t : WT) : WE := fun env Q E => t env (fun b => Q (.v (.bool b))) E

section
variable {X : Cx} {W : WX} {G : Hp} {e a b c : Expr} {m ma mb mc : WE} {t t1 t2 : WT}
theorem opEqD (hu : X.A.units + 64 < cLine) : OpR X (compareOp .Eq) (rc2 X.K cEq) := by
  intro pins s σ H x y v u Q I rx ry ⟨B, dx, dy, Q', l, hx, hy, ⟨hok, hf⟩, hq⟩
  have viaD : SeqAt.shaped dx = true → SeqAt.shaped dy = true → _ := fun s1 s2 =>
    op_eqD hu pins s σ H x y v u Q I rx ry ⟨dx, dy, hx.dp (by simp [SeqAt.shaped] at s1; exact s1.1), hy.dp (by simp [SeqAt.shaped] at s2; exact s2.1), s1, s2, hq _ hf⟩
  have viaS : ∀ k, scal x y = true → decide (x = y) = k → k = PyData.eqv dx dy → _ := fun k h1 h2 h3 =>
    op_eq pins s σ H x y v u Q I rx ry ⟨h1, by rw [h2, h3]; exact hq _ hf⟩
  cases dx <;> cases dy <;> first
    | exact viaD hok.1 hok.2
    | (cases hx; cases hy; refine viaS _ rfl rfl ?_; first | (simp; done) | (simp [PyData.eqv]; done))
theorem opNeD (hu : X.A.units + 64 < cLine) : OpR X (compareOp .NotEq) (rc2 X.K cNe) := by
  intro pins s σ H x y v u Q I rx ry ⟨B, dx, dy, Q', l, hx, hy, ⟨hok, hf⟩, hq⟩
  have viaD : SeqAt.shaped dx = true → SeqAt.shaped dy = true → _ := fun s1 s2 =>
    op_neD hu pins s σ H x y v u Q I rx ry ⟨dx, dy, hx.dp (by simp [SeqAt.shaped] at s1; exact s1.1), hy.dp (by simp [SeqAt.shaped] at s2; exact s2.1), s1, s2, hq _ hf⟩
  have viaS : ∀ k, scal x y = true → decide (x = y) = k → k = PyData.eqv dx dy → _ := fun k h1 h2 h3 =>
    op_ne pins s σ H x y v u Q I rx ry ⟨h1, by rw [h2, h3]; exact hq _ hf⟩
  cases dx <;> cases dy <;> first
    | exact viaD hok.1 hok.2
    | (cases hx; cases hy; refine viaS _ rfl rfl ?_; first | (simp; done) | (simp [PyData.eqv]; done))
def cI (p : Int → Int → Bool) (q : Str → Str → Bool) (r : List Int → List Int → Bool) : Op2B
  | .int i, .int j, Q => Q (p i j)
  | .str i, .str j, Q => Q (q i j)
  | .tuple xs, .tuple ys, Q => ∃ ns ms, xs = ns.map PyData.int ∧ ys = ms.map PyData.int ∧ Q (r ns ms)
  | _, _, _ => False
abbrev cLt := cI (fun i j => decide (i < j)) (fun i j => decide (i.cps.toList < j.cps.toList)) HT.lexLt
abbrev noT : List Int → List Int → Bool := fun _ _ => false
def cI0 (p : Int → Int → Bool) (q : Str → Str → Bool) : Op2B
  | .int i, .int j, Q => Q (p i j)
  | .str i, .str j, Q => Q (q i j)
  | _, _, _ => False
abbrev cLe := cI0 (fun i j => decide (i ≤ j)) (fun i j => !decide (j.cps.toList < i.cps.toList))
abbrev cGt := cI0 (fun i j => decide (j < i)) (fun i j => decide (j.cps.toList < i.cps.toList))
abbrev cGe := cI0 (fun i j => decide (j ≤ i)) (fun i j => !decide (i.cps.toList < j.cps.toList))
theorem RepAll.intsV {K : K0} {B : Hp} : ∀ {ns : List Int} {vs : List V}, RepAll K B vs (ns.map PyData.int) → vs = ns.map V.int
  | [], _, .nil => rfl
  | n :: ns, _, .cons r t => by rw [r.int_inv, RepAll.intsV t]; rfl
theorem opLtD (hu : X.A.units < cLine) : OpR X (compareOp .Lt) (rc2 X.K cLt) := by
  intro pins s σ H x y v u Q I rx ry ⟨B, dx, dy, Q', l, hx, hy, hf, hq⟩
  cases dx <;> cases dy <;> first
    | exact (show False from hf).elim
    | skip
  · exact op_lt pins s σ H x y v u Q I rx ry ⟨_, _, hx.int_inv, hy.int_inv, hq _ hf⟩
  · exact op_lt_str pins s σ H x y v u Q I rx ry ⟨_, _, hx.str_inv, hy.str_inv, hq _ hf⟩
  · obtain ⟨ns, ms, e1, e2, hf⟩ := hf
    subst e1 e2
    obtain ⟨a1, v1, q1, s1, t1⟩ := hx.tup_inv
    obtain ⟨a2, v2, q2, s2, t2⟩ := hy.tup_inv
    have z1 := t1.intsV
    have z2 := t2.intsV
    subst z1 z2
    exact op_ltT hu pins s σ H x y v u Q I rx ry ⟨_, _, ns, ms, q1, q2, s1, s2, hq _ hf⟩
theorem opLeD : OpR X (compareOp .LtE) (rc2 X.K cLe) := by
  intro pins s σ H x y v u Q I rx ry ⟨B, dx, dy, Q', l, hx, hy, hf, hq⟩
  cases dx <;> cases dy <;> first
    | exact (show False from hf).elim
    | exact op_le pins s σ H x y v u Q I rx ry ⟨_, _, hx.int_inv, hy.int_inv, hq _ hf⟩
    | exact op_le_str pins s σ H x y v u Q I rx ry ⟨_, _, hx.str_inv, hy.str_inv, hq _ hf⟩
theorem opGtD : OpR X (compareOp .Gt) (rc2 X.K cGt) := by
  intro pins s σ H x y v u Q I rx ry ⟨B, dx, dy, Q', l, hx, hy, hf, hq⟩
  cases dx <;> cases dy <;> first
    | exact (show False from hf).elim
    | exact op_gt pins s σ H x y v u Q I rx ry ⟨_, _, hx.int_inv, hy.int_inv, hq _ hf⟩
    | exact op_gt_str pins s σ H x y v u Q I rx ry ⟨_, _, hx.str_inv, hy.str_inv, hq _ hf⟩
theorem opGeD : OpR X (compareOp .GtE) (rc2 X.K cGe) := by
  intro pins s σ H x y v u Q I rx ry ⟨B, dx, dy, Q', l, hx, hy, hf, hq⟩
  cases dx <;> cases dy <;> first
    | exact (show False from hf).elim
    | exact op_ge pins s σ H x y v u Q I rx ry ⟨_, _, hx.int_inv, hy.int_inv, hq _ hf⟩
    | exact op_ge_str pins s σ H x y v u Q I rx ry ⟨_, _, hx.str_inv, hy.str_inv, hq _ hf⟩
/-- is None, is not None -/
def isN : D → Bool
  | .none => true
  | _ => false
def cIs : Op2B := fun x y Q => match y with
  | .none => Q (isN x)
  | _ => False
def cIsNot : Op2B := fun x y Q => match y with
  | .none => Q (!isN x)
  | _ => False
theorem opIsD : OpR X (compareOp .Is) (rc2 X.K cIs) := by
  intro pins s σ H x y v u Q I rx ry ⟨B, dx, dy, Q', l, hx, hy, hf, hq⟩
  cases dy <;> first
    | exact (show False from hf).elim
    | skip
  refine op_isN pins s σ H x y v u Q I rx ry ⟨hy.none_inv, ?_⟩
  have : decide (x = .non) = isN dx := by cases dx <;> cases hx <;> simp [isN]
  rw [this]
  exact hq _ hf
theorem opIsNotD : OpR X (compareOp .IsNot) (rc2 X.K cIsNot) := by
  intro pins s σ H x y v u Q I rx ry ⟨B, dx, dy, Q', l, hx, hy, hf, hq⟩
  cases dy <;> first
    | exact (show False from hf).elim
    | skip
  refine op_notN pins s σ H x y v u Q I rx ry ⟨hy.none_inv, ?_⟩
  have : (!decide (x = .non)) = !isN dx := by cases dx <;> cases hx <;> simp [isN]
  rw [this]
  exact hq _ hf
/-- in: a flat thing in a list or tuple of flat things; a text in a text; a key in a dict -/
def memD (x : D) (ys : List D) : Bool := ys.any fun y => PyData.eqv y x
def cIn (neg : Bool) : Op2B := fun x y Q => match y with
  | .list ys => flatD x = true ∧ ys.all flatD = true ∧ Q (neg != memD x ys)
  | .tuple ys => flatD x = true ∧ ys.all flatD = true ∧ Q (neg != memD x ys)
  | .dict kvs => ∃ k, keyD x = some k ∧ Q (neg != (lookK kvs k).isSome)
  | .str j => match x with
    | .str i => Q (neg != !(Builtin.Str.occurrences j i 0 j.length 1).isEmpty)
    | _ => False
  | _ => False
theorem flatV_of {K : K0} {B : Hp} {v : V} {d : D} (r : Rep K B v d) (h : flatD d = true) : flatV v = true := by
  cases r <;> first | rfl | (simp [flatD] at h)
theorem flatAll_of {K : K0} {B : Hp} : ∀ {vs : List V} {ds : List D}, RepAll K B vs ds → ds.all flatD = true → vs.all flatV = true
  | _, _, .nil, _ => rfl
  | _, _, .cons r t, h => by
    rw [List.all_cons, Bool.and_eq_true] at h ⊢
    exact ⟨flatV_of r h.1, flatAll_of t h.2⟩
theorem eqV_of {K : K0} {B : Hp} {v w : V} {d e : D} (r : Rep K B v d) (q : Rep K B w e) (h : flatD d = true) (g : flatD e = true) : eqV v w = PyData.eqv d e := by
  cases r <;> cases q <;> first | (simp [eqV, PyData.eqv]; done) | (simp [flatD] at h; done) | (simp [flatD] at g; done)
theorem inV_of {K : K0} {B : Hp} {w : V} {e : D} (q : Rep K B w e) (g : flatD e = true) : ∀ {vs : List V} {ds : List D}, RepAll K B vs ds → ds.all flatD = true → inV w vs = memD e ds
  | _, _, .nil, _ => rfl
  | _, _, .cons r t, h => by
    rw [List.all_cons, Bool.and_eq_true] at h
    unfold inV memD
    rw [List.any_cons, List.any_cons, eqV_of r q h.1 g]
    exact congrArg _ (inV_of q g t h.2)
theorem opInD (hu : X.A.units + 1 < cLine) : OpR X (compareOp .In) (rc2 X.K (cIn false)) := by
  intro pins s σ H x y v u Q I rx ry ⟨B, dx, dy, Q', l, hx, hy, hf, hq⟩
  cases dy with
  | list ys =>
    obtain ⟨f1, f2, hf⟩ := hf
    obtain ⟨a1, v1, q1, s1, t1⟩ := hy.list_inv
    refine op_in_seq pins s σ H x y v u Q I rx ry ⟨a1, v1, q1, .inl s1, flatV_of hx f1, flatAll_of t1 f2, ?_⟩
    rw [if_neg (by decide), inV_of hx f1 t1 f2]
    simpa using hq _ hf
  | tuple ys =>
    obtain ⟨f1, f2, hf⟩ := hf
    obtain ⟨a1, v1, q1, s1, t1⟩ := hy.tup_inv
    refine op_in_seq pins s σ H x y v u Q I rx ry ⟨a1, v1, q1, .inr s1, flatV_of hx f1, flatAll_of t1 f2, ?_⟩
    rw [if_neg (by decide), inV_of hx f1 t1 f2]
    simpa using hq _ hf
  | dict kvs =>
    obtain ⟨k, hk, hf⟩ := hf
    obtain ⟨a1, v1, q1, s1, t1⟩ := hy.dict_inv
    subst q1
    cases ry
    have e1 := kD_of hk
    subst e1
    have e2 := kV_rep hx
    subst e2
    refine d_in hu I (.inl ⟨v1, k, s1, rfl, rfl⟩) rx fun s' I' => ?_
    rw [t1.has]
    exact ⟨.bl _, H, I', rfl, by simpa using hq _ hf⟩
  | str j =>
    cases dx <;> first | exact (show False from hf).elim | skip
    refine op_in_str pins s σ H x y v u Q I rx ry ⟨_, _, hx.str_inv, hy.str_inv, ?_⟩
    simpa using hq _ hf
  | _ => exact (show False from hf).elim
theorem opNotInD (hu : X.A.units + 1 < cLine) : OpR X (compareOp .NotIn) (rc2 X.K (cIn true)) := by
  intro pins s σ H x y v u Q I rx ry ⟨B, dx, dy, Q', l, hx, hy, hf, hq⟩
  cases dy with
  | list ys =>
    obtain ⟨f1, f2, hf⟩ := hf
    obtain ⟨a1, v1, q1, s1, t1⟩ := hy.list_inv
    refine op_notIn_seq pins s σ H x y v u Q I rx ry ⟨a1, v1, q1, .inl s1, flatV_of hx f1, flatAll_of t1 f2, ?_⟩
    rw [if_pos rfl, inV_of hx f1 t1 f2]
    simpa using hq _ hf
  | tuple ys =>
    obtain ⟨f1, f2, hf⟩ := hf
    obtain ⟨a1, v1, q1, s1, t1⟩ := hy.tup_inv
    refine op_notIn_seq pins s σ H x y v u Q I rx ry ⟨a1, v1, q1, .inr s1, flatV_of hx f1, flatAll_of t1 f2, ?_⟩
    rw [if_pos rfl, inV_of hx f1 t1 f2]
    simpa using hq _ hf
  | dict kvs =>
    obtain ⟨k, hk, hf⟩ := hf
    obtain ⟨a1, v1, q1, s1, t1⟩ := hy.dict_inv
    subst q1
    cases ry
    have e1 := kD_of hk
    subst e1
    have e2 := kV_rep hx
    subst e2
    refine d_notIn hu I (.inl ⟨v1, k, s1, rfl, rfl⟩) rx fun s' I' => ?_
    rw [t1.has]
    exact ⟨.bl _, H, I', rfl, by simpa using hq _ hf⟩
  | str j =>
    cases dx <;> first | exact (show False from hf).elim | skip
    refine op_notIn_str pins s σ H x y v u Q I rx ry ⟨_, _, hx.str_inv, hy.str_inv, ?_⟩
    simpa using hq _ hf
  | _ => exact (show False from hf).elim

/-! ### the judgements -/
theorem twoB {ta tb : TE} {f : Op2B} {r : R2} (ha : ∀ σ H QV, tD X W G ma σ H QV → ta σ H QV) (hb : ∀ σ H QV, tD X W G mb σ H QV → tb σ H QV)
    (hr : ∀ x y H QV, rc2 X.K f x y H QV → r x y H QV) {σ : L2.St} {H : Hp} {QV : VK} {QB : Bool → Hp → Prop} (h : tDT X W G (c2 f ma mb) σ H QB) (hQ : ∀ b H', QB b H' → QV (.bl b) H') : tOp r ta tb σ H QV := by
  obtain ⟨B, env, fp, Q, E, rr, hm, hq, hx⟩ := h
  refine ha σ H _ ⟨B, env, fp, _, E, rr, hm, fun v1 H1 B1 r1 e1 o1 q1 => ?_, hx⟩
  refine hb σ H1 _ ⟨B1, env, fp, _, E, rr.ext e1, q1, fun v2 H3 B3 r2 e3 o2 q2 => ?_, hx.later e1.same⟩
  exact hr _ _ _ _ ⟨B3, _, _, Q, e3.bh, (o1.now e1).mono e3.same, o2.now e3, q2, fun b qb => hQ _ _ (hq b H3 B3 (e1.trans e3) qb)⟩
theorem dt_cmp {f : Op2B} {op : CmpOp} {pos : Pos} (ho : OpR X (compareOp op) (rc2 X.K f)) (ha : DE X W G a ma) (hb : DE X W G b mb) (hm : behindInMarks op b = false) : DT X W G (.Compare a [op] [b] pos) (c2 f ma mb) :=
  PTi (pt_cmpR ho ha hb hm) fun σ H QB h => twoB (f := f) (r := rc2 X.K f) (ta := tD X W G ma) (tb := tD X W G mb) (fun _ _ _ h => h) (fun _ _ _ h => h) (fun _ _ _ _ h => h) h fun b H' q => ⟨b, rfl, q⟩
theorem tD_wtv {σ : L2.St} {H : Hp} {QV : VK} (h : tD X W G (wtv t) σ H QV) : tDT X W G t σ H (fun b H' => QV (.bl b) H') := by
  obtain ⟨B, env, fp, Q, E, rr, hm, hq, hx⟩ := h
  exact ⟨B, env, fp, _, E, rr, hm, fun b H' B' e q => hq _ H' B' (.v (.bool b)) e (.bl b) q, hx⟩
theorem de_cmp {f : Op2B} {op : CmpOp} {pos : Pos} (ho : OpR X (compareOp op) (rc2 X.K f)) (ha : DE X W G a ma) (hb : DE X W G b mb) (hm : behindInMarks op b = false) : DE X W G (.Compare a [op] [b] pos) (wtv (c2 f ma mb)) :=
  PEi (pe_cmpR ho ha hb hm) fun σ H QV h => twoB (f := f) (r := rc2 X.K f) (ta := tD X W G ma) (tb := tD X W G mb) (fun _ _ _ h => h) (fun _ _ _ h => h) (fun _ _ _ _ h => h) (tD_wtv h) fun b H' q => q

/-- a chain of two -/
def wChain (f g : Op2B) (ta tb tc : WE) : WT := fun env Q E => ta env (fun x => tb env (fun y => f x.d y.d fun k => if k = true then tc env (fun z => g y.d z.d Q) E else Q false) E) E
theorem chain_ok {f g : Op2B} {σ : L2.St} {H : Hp} {QV : VK} {QB : Bool → Hp → Prop} (h : tDT X W G (wChain f g ma mb mc) σ H QB) (hQ : ∀ b H', QB b H' → QV (.bl b) H') :
    tChain (rc2 X.K f) (rc2 X.K g) (tD X W G ma) (tD X W G mb) (tD X W G mc) σ H QV := by
  obtain ⟨B, env, fp, Q, E, rr, hm, hq, hx⟩ := h
  refine ⟨B, env, fp, _, E, rr, hm, fun v1 H1 B1 r1 e1 o1 q1 => ?_, hx⟩
  refine ⟨B1, env, fp, _, E, rr.ext e1, q1, fun v2 H2 B2 r2 e2 o2 q2 => ?_, hx.later e1.same⟩
  refine ⟨B2, _, _, _, e2.bh, (o1.now e1).mono e2.same, o2.now e2, q2, fun k hk => ⟨k, rfl, ?_⟩⟩
  cases k with
  | false => rw [if_neg (by simp)] at hk ⊢; exact hQ _ _ (hq false H2 B2 (e1.trans e2) hk)
  | true =>
    rw [if_pos rfl] at hk ⊢
    refine ⟨B2, env, fp, _, E, (rr.ext e1).ext e2, hk, fun v3 H3 B3 r3 e3 o3 q3 => ?_, hx.later (e1.same.trans e2.same)⟩
    exact ⟨B3, _, _, Q, e3.bh, (o2.now e2).mono e3.same, o3.now e3, q3, fun b qb => hQ _ _ (hq b H3 B3 ((e1.trans e2).trans e3) qb)⟩
theorem dt_chain {f g : Op2B} {op op' : CmpOp} {pos : Pos} (ho : OpR X (compareOp op) (rc2 X.K f)) (ho' : OpR X (compareOp op') (rc2 X.K g)) (ha : DE X W G a ma) (hb : DE X W G b mb) (hc : DE X W G c mc)
    (hm : lastMarks [op, op'] [b, c] = false) : DT X W G (.Compare a [op, op'] [b, c] pos) (wChain f g ma mb mc) :=
  PTi (pt_chain ho ho' ha hb hc hm) fun σ H QB h => chain_ok h fun b H' q => ⟨b, rfl, q⟩
theorem de_chain {f g : Op2B} {op op' : CmpOp} {pos : Pos} (ho : OpR X (compareOp op) (rc2 X.K f)) (ho' : OpR X (compareOp op') (rc2 X.K g)) (ha : DE X W G a ma) (hb : DE X W G b mb) (hc : DE X W G c mc)
    (hm : lastMarks [op, op'] [b, c] = false) : DE X W G (.Compare a [op, op'] [b, c] pos) (wtv (wChain f g ma mb mc)) :=
  PEi (pe_chain ho ho' ha hb hc hm) fun σ H QV h => chain_ok (tD_wtv h) fun b H' q => q

/-! ### and, or, not -/
def DW (X : Cx) (W : WX) (G : Hp) (e : Expr) (m : WT) : Prop := PW X e (tDT X W G m)
def wtAnd (p q : WT) : WT := fun env Q E => p env (fun k => if k = true then q env Q E else Q false) E
def wtOr (p q : WT) : WT := fun env Q E => p env (fun k => if k = true then Q true else q env Q E) E
def wtNot (p : WT) : WT := fun env Q E => p env (fun k => Q (!k)) E
theorem and_ok {σ : L2.St} {H : Hp} {QB : Bool → Hp → Prop} (h : tDT X W G (wtAnd t1 t2) σ H QB) : tAnd (tDT X W G t1) (tDT X W G t2) σ H QB := by
  obtain ⟨B, env, fp, Q, E, rr, hm, hq, hx⟩ := h
  refine ⟨B, env, fp, _, E, rr, hm, fun k H1 B1 e1 hk => ?_, hx⟩
  cases k with
  | false => rw [if_neg (by simp)] at hk ⊢; exact hq false H1 B1 e1 hk
  | true => rw [if_pos rfl] at hk ⊢; exact ⟨B1, env, fp, Q, E, rr.ext e1, hk, fun b H2 B2 e2 q2 => hq b H2 B2 (e1.trans e2) q2, hx.later e1.same⟩
theorem or_ok {σ : L2.St} {H : Hp} {QB : Bool → Hp → Prop} (h : tDT X W G (wtOr t1 t2) σ H QB) : tOr (tDT X W G t1) (tDT X W G t2) σ H QB := by
  obtain ⟨B, env, fp, Q, E, rr, hm, hq, hx⟩ := h
  refine ⟨B, env, fp, _, E, rr, hm, fun k H1 B1 e1 hk => ?_, hx⟩
  cases k with
  | true => rw [if_pos rfl] at hk ⊢; exact hq true H1 B1 e1 hk
  | false => rw [if_neg (by simp)] at hk ⊢; exact ⟨B1, env, fp, Q, E, rr.ext e1, hk, fun b H2 B2 e2 q2 => hq b H2 B2 (e1.trans e2) q2, hx.later e1.same⟩
variable {rest : List Expr} {pos : Pos}
theorem dw_and1 (ha : DT X W G a t) : DW X W G (.BoolOp .And [a] pos) t := pw_and1 ha
theorem dw_or1 (ha : DT X W G a t) : DW X W G (.BoolOp .Or [a] pos) t := pw_or1 ha
theorem dw_and (ha : DT X W G a t1) (hb : DW X W G (.BoolOp .And (b :: rest) pos) t2) : DW X W G (.BoolOp .And (a :: b :: rest) pos) (wtAnd t1 t2) :=
  PWi (pw_and ha hb) fun _ _ _ h => and_ok h
theorem dw_or (ha : DT X W G a t1) (hb : DW X W G (.BoolOp .Or (b :: rest) pos) t2) : DW X W G (.BoolOp .Or (a :: b :: rest) pos) (wtOr t1 t2) :=
  PWi (pw_or ha hb) fun _ _ _ h => or_ok h
theorem dt_w (h : DW X W G e t) : DT X W G e t := PW.pt h
theorem dt_not (ha : DT X W G a t) : DT X W G (.UnaryOp .Not a pos) (wtNot t) :=
  PTi (pt_not ha) fun σ H QB ⟨B, env, fp, Q, E, rr, hm, hq, hx⟩ => ⟨B, env, fp, _, E, rr, hm, fun k H1 B1 e1 hk => hq _ H1 B1 e1 hk, hx⟩
/-- .. as values, of truths -/
def wAndV (p q : WE) : WE := fun env Q E => p env (fun x => ∃ k, x.d = .bool k ∧ if k = true then q env Q E else Q (.v (.bool false))) E
def wOrV (p q : WE) : WE := fun env Q E => p env (fun x => ∃ k, x.d = .bool k ∧ if k = true then Q (.v (.bool true)) else q env Q E) E
def wNotV (p : WE) : WE := fun env Q E => p env (fun x => ∃ k, x.d = .bool k ∧ Q (.v (.bool (!k)))) E
theorem de_one {op} (h : DE X W G a m) : DE X W G (.BoolOp op [a] pos) m := pe_one h
theorem de_andV (ha : DE X W G a ma) (hb : DE X W G (.BoolOp .And (b :: rest) pos) mb) : DE X W G (.BoolOp .And (a :: b :: rest) pos) (wAndV ma mb) := by
  refine PEi (pe_and ha hb) fun σ H QV ⟨B, env, fp, Q, E, rr, hm, hq, hx⟩ => ?_
  refine ⟨B, env, fp, _, E, rr, hm, fun v H1 B1 r e1 o ⟨k, hk, hf⟩ => ?_, hx⟩
  have hv := o.now e1
  rw [hk] at hv
  refine ⟨k, hv.bool_inv, ?_⟩
  cases k with
  | false => rw [if_neg (by simp)] at hf ⊢; exact hq _ H1 B1 (.v (.bool false)) e1 (Rep.bl false) hf
  | true => rw [if_pos rfl] at hf ⊢; exact ⟨B1, env, fp, Q, E, rr.ext e1, hf, hq.later e1, hx.later e1.same⟩
theorem de_orV (ha : DE X W G a ma) (hb : DE X W G (.BoolOp .Or (b :: rest) pos) mb) : DE X W G (.BoolOp .Or (a :: b :: rest) pos) (wOrV ma mb) := by
  refine PEi (pe_or ha hb) fun σ H QV ⟨B, env, fp, Q, E, rr, hm, hq, hx⟩ => ?_
  refine ⟨B, env, fp, _, E, rr, hm, fun v H1 B1 r e1 o ⟨k, hk, hf⟩ => ?_, hx⟩
  have hv := o.now e1
  rw [hk] at hv
  refine ⟨k, hv.bool_inv, ?_⟩
  cases k with
  | true => rw [if_pos rfl] at hf ⊢; exact hq _ H1 B1 (.v (.bool true)) e1 (Rep.bl true) hf
  | false => rw [if_neg (by simp)] at hf ⊢; exact ⟨B1, env, fp, Q, E, rr.ext e1, hf, hq.later e1, hx.later e1.same⟩
theorem de_notV (ha : DE X W G a ma) : DE X W G (.UnaryOp .Not a pos) (wNotV ma) := by
  refine PEi (pe_not ha) fun σ H QV ⟨B, env, fp, Q, E, rr, hm, hq, hx⟩ => ?_
  refine ⟨B, env, fp, _, E, rr, hm, fun v H1 B1 r e1 o ⟨k, hk, hf⟩ => ?_, hx⟩
  have hv := o.now e1
  rw [hk] at hv
  exact ⟨k, hv.bool_inv, hq _ H1 B1 (.v (.bool (!k))) e1 (Rep.bl _) hf⟩
/-- a if t else b -/
def wIfE (t : WT) (p q : WE) : WE := fun env Q E => t env (fun k => if k = true then p env Q E else q env Q E) E
theorem de_ifE (hc : DT X W G c t) (ha : DE X W G a ma) (hb : DE X W G b mb) : DE X W G (.IfExp c a b pos) (wIfE t ma mb) := by
  refine PEi (pe_ifExp hc ha hb) fun σ H QV ⟨B, env, fp, Q, E, rr, hm, hq, hx⟩ => ?_
  refine ⟨B, env, fp, _, E, rr, hm, fun k H1 B1 e1 hf => ?_, hx⟩
  cases k with
  | true => rw [if_pos rfl] at hf ⊢; exact ⟨B1, env, fp, Q, E, rr.ext e1, hf, hq.later e1, hx.later e1.same⟩
  | false => rw [if_neg (by simp)] at hf ⊢; exact ⟨B1, env, fp, Q, E, rr.ext e1, hf, hq.later e1, hx.later e1.same⟩
/-- a value's truth -/
def tru : D → (Bool → Prop) → Prop
  | .none, Q => Q false
  | .bool b, Q => Q b
  | .int i, Q => Q (i != 0)
  | .str x, Q => x.length ≤ sizeLine ∧ Q ((x.length : Int) != 0)
  | .list ds, Q => Q (!ds.isEmpty)
  | .tuple ds, Q => Q (!ds.isEmpty)
  | .dict _, _ => False
def wTru (m : WE) : WT := fun env Q E => m env (fun x => tru x.d Q) E
theorem isEmpty_rep {K : K0} {B : Hp} {vs : List V} {ds : List D} (r : RepAll K B vs ds) : vs.isEmpty = ds.isEmpty := by cases r <;> rfl
theorem dt_tru (ha : DE X W G a m) (he : ∀ whole, isTrue a X.env whole = (do let v ← whole; standAt a.pos; holding [v] (truthy v))) : DT X W G a (wTru m) := by
  refine PTi (pt_truth ha he) fun σ H QV ⟨B, env, fp, Q, E, rr, hm, hq, hx⟩ => ?_
  refine ⟨B, env, fp, _, E, rr, hm, fun v H1 B1 r e1 o hf => ?_, hx⟩
  have hv := o.now e1
  have hf : tru r.d Q := hf
  generalize r.d = d at hv hf
  cases d with
  | none => rw [hv.none_inv]; exact ⟨_, rfl, hq _ H1 B1 e1 hf⟩
  | bool b => rw [hv.bool_inv]; exact ⟨_, rfl, hq _ H1 B1 e1 hf⟩
  | int i => rw [hv.int_inv]; exact ⟨_, rfl, hq _ H1 B1 e1 hf⟩
  | str x => rw [hv.str_inv]; exact ⟨_, ⟨hf.1, rfl⟩, hq _ H1 B1 e1 hf.2⟩
  | list ds =>
    obtain ⟨a1, v1, q1, s1, t1⟩ := hv.list_inv
    subst q1
    exact ⟨_, .inl ⟨v1, s1, by rw [isEmpty_rep t1]⟩, hq _ H1 B1 e1 hf⟩
  | tuple ds =>
    obtain ⟨a1, v1, q1, s1, t1⟩ := hv.tup_inv
    subst q1
    exact ⟨_, .inr (.inl ⟨v1, s1, by rw [isEmpty_rep t1]⟩), hq _ H1 B1 e1 hf⟩
  | dict _ => exact (show False from hf).elim
end
end DL

set_option Elab.async false
set_option linter.all false
set_option maxRecDepth 100000
set_option maxHeartbeats 1000000
/-! DL5: items, slices, displays, calls of built-ins and of defs over data. -/
namespace DL
open PySem L2 PyProof.Rows

/-! ### items -/
theorem atI_map {α β : Type} (f : α → β) (xs : List α) (i : Int) : atI (xs.map f) i = (atI xs i).map f := by
  unfold atI
  rw [List.length_map]
  cases ixN xs.length i with
  | none => rfl
  | some j => simp
theorem RepAll.atI {K : K0} {B : Hp} {vs : List V} {ds : List D} (r : RepAll K B vs ds) {i : Int} {d : D} (h : L2.atI ds i = some d) : ∃ v, L2.atI vs i = some v ∧ Rep K B v d := by
  unfold L2.atI at h ⊢
  rw [r.length]
  cases q : ixN ds.length i with
  | none => rw [q] at h; simp at h
  | some j =>
    rw [q] at h
    exact r.get h
theorem OwnAll.atI {K : K0} {B H : Hp} {vs : List V} {os : List O} {f : List Addr} (r : OwnAll K B H vs os f) {i : Int} {o : O} (h : L2.atI os i = some o) : ∃ v g, L2.atI vs i = some v ∧ Own K B H v o g ∧ g.Sublist f := by
  unfold L2.atI at h ⊢
  rw [r.length]
  cases q : ixN os.length i with
  | none => rw [q] at h; simp at h
  | some j =>
    rw [q] at h
    exact r.get h
def ixD : D → D → (D → Prop) → Prop
  | .list ds, .int i, Q => ∃ d, atI ds i = some d ∧ Q d
  | .tuple ds, .int i, Q => ∃ d, atI ds i = some d ∧ Q d
  | .str z, .int i, Q => z.length ≤ sizeLine ∧ ∃ c, atI z.cps.toList i = some c ∧ Q (.str ⟨#[c]⟩)
  | .dict kvs, k, Q => ∃ j d, keyD k = some j ∧ lookK kvs j = some d ∧ Q d
  | _, _, _ => False
/-- an item of an own list of own things -/
def oR : O → R
  | .fro d => .v d
  | o => .b o
def ixR : R → D → (R → Prop) → Prop
  | .b (.lsts os), .int i, Q => ∃ o, atI os i = some o ∧ Q (oR o)
  | .b (.lsts _), _, _ => False
  | x, k, Q => ixD x.d k fun d => Q (.v d)
@[simp] theorem ixR_v (d k : D) (Q : R → Prop) : ixR (.v d) k Q = ixD d k fun d => Q (.v d) := by cases k <;> rfl
@[simp] theorem ixR_t (o : O) (k : D) (Q : R → Prop) : ixR (.t o) k Q = ixD o.frz k fun d => Q (.v d) := by cases k <;> rfl
@[simp] theorem ixR_bl (o : List D) (k : D) (Q : R → Prop) : ixR (.b (.lst o)) k Q = ixD (.list o) k fun d => Q (.v d) := by
  show ixD (R.b (.lst o)).d k _ = _
  rw [R.d_b, O.frz_lst]
@[simp] theorem ixR_bd (o : List (D × D)) (k : D) (Q : R → Prop) : ixR (.b (.dic o)) k Q = ixD (.dict o) k fun d => Q (.v d) := by
  show ixD (R.b (.dic o)).d k _ = _
  rw [R.d_b, O.frz_dic]
@[simp] theorem ixR_bls (os : List O) (i : Int) (Q : R → Prop) : ixR (.b (.lsts os)) (.int i) Q = ∃ o, atI os i = some o ∧ Q (oR o) := rfl
def wIx (ta tb : WE) : WE := fun env Q E => ta env (fun x => tb env (fun y => ixR x y.d Q) E) E

section
variable {X : Cx} {W : WX} {G : Hp} {e a b c : Expr} {m ma mb mc : WE} {pos : Pos}
theorem ix_dict (hu : X.A.units + 1 < cLine) : IxR X (fun x y H Q => ∃ a v, x = .ref a ∧ DGet H a y (some v) ∧ Q v H) := by
  intro value slice pins s σ H x y v u Q I rx ry ⟨a, z, ex, g, q⟩ hs
  subst ex
  cases rx
  have hT := dict_typeIs I g
  have h2 : wpAny (model X.prog X.w) X.A (getItem (.ref a) u) (EP X pins σ Q) X.xe s := d_getItem hu I g ry fun w' s3 I3 rw' => ⟨z, H, I3, rw', q⟩
  unfold subscriptTail
  refine wpAny_bind ?_
  rw [getitemInPython_of_ne hT.not_modules]
  refine wpAny_bind (wpAny_specialOf hT PySem.F.slot_dict_getitem.lookup ?_)
  have fin : wpAny (model X.prog X.w) X.A (subscripted slice false (.ref a) u) (fun r s3 => wpAny (model X.prog X.w) X.A (letTemporaryGo value (.ref a) r >>= fun _ => pure r) (EP X pins σ Q) X.xe s3) X.xe s := by
    rw [hs]
    exact wpAny_operating (wpAny_mono h2 (fun r s3 h3 => wpAny_bind (wpAny_letTemporaryGo (wpAny_pure h3))) fun _ _ x => x)
  first
    | exact wpAny_pure (wpAny_bind fin)
    | exact wpAny_bind (wpAny_pure (wpAny_bind fin))
    | exact wpAny_bind fin
/-- by values: an item, by the four kinds of things -/
theorem ix_any (hu : X.A.units + 1 < cLine) : IxR X (fun x y H Q => (rIxL X.K x y H Q ∨ rIxT X.K x y H Q ∨ rIxS x y H Q) ∨ ∃ a v, x = .ref a ∧ DGet H a y (some v) ∧ Q v H) := ix_seq.or (ix_dict hu)
theorem ixD_ok {K : K0} {B H : Hp} {x y : V} {dx dy : D} {Q : D → Prop} {QV : VK} (l : Le B H) (hx : RV K B H x dx) (hy : Rep K H y dy) (hf : ixD dx dy Q) (hq : ∀ v d, Rep K B v d → Q d → QV v H) :
    (rIxL K x y H QV ∨ rIxT K x y H QV ∨ rIxS x y H QV) ∨ ∃ a v, x = .ref a ∧ DGet H a y (some v) ∧ QV v H := by
  cases dx with
  | list ds =>
    cases dy <;> first | exact (show False from hf).elim | skip
    obtain ⟨d, h1, h2⟩ := hf
    obtain ⟨a, vs, e, s, t⟩ := hx.list l
    obtain ⟨v, h3, h4⟩ := t.atI h1
    exact .inl (.inl ⟨a, vs, _, v, e, hy.int_inv, s, h3, hq v d h4 h2⟩)
  | tuple ds =>
    cases dy <;> first | exact (show False from hf).elim | skip
    obtain ⟨d, h1, h2⟩ := hf
    obtain ⟨a, vs, e, s, t⟩ := hx.tup l
    obtain ⟨v, h3, h4⟩ := t.atI h1
    exact .inl (.inr (.inl ⟨a, vs, _, v, e, hy.int_inv, s, h3, hq v d h4 h2⟩))
  | str z =>
    cases dy <;> first | exact (show False from hf).elim | skip
    obtain ⟨h0, c, h1, h2⟩ := hf
    exact .inl (.inr (.inr ⟨z, _, c, hx.str, hy.int_inv, h0, h1, hq _ _ (.str _) h2⟩))
  | dict kvs =>
    obtain ⟨j, d, h0, h1, h2⟩ := (show ∃ j d, keyD dy = some j ∧ lookK kvs j = some d ∧ Q d from hf)
    obtain ⟨a, vs, e, s, t⟩ := hx.dict l
    have e1 := kD_of h0
    subst e1
    have e2 := kV_rep hy
    subst e2
    rcases t.look (k := j) with ⟨z1, z2⟩ | ⟨v, d', z1, z2, z3⟩
    · rw [z2] at h1; cases h1
    · rw [z2] at h1; cases h1
      exact .inr ⟨a, v, e, .inl ⟨vs, j, s, rfl, z1.symm⟩, hq _ _ z3 h2⟩
  | _ => exact (show False from hf).elim
theorem de_ix (hu : X.A.units + 1 < cLine) (ha : DE X W G a ma) (hb : DE X W G b mb) (hs : PlainIx b) : DE X W G (.Subscript a b pos) (wIx ma mb) := by
  refine PEi (pe_ix (ix_any hu) ha hb hs) fun σ H QV ⟨B, env, fp, Q, E, rr, hm, hq, hx⟩ => ?_
  refine ⟨B, env, fp, _, E, rr, hm, fun v1 H1 B1 r1 e1 o1 q1 => ?_, hx⟩
  by_cases hs1 : ∃ os, r1 = .b (.lsts os)
  · obtain ⟨os, er⟩ := hs1
    subst er
    refine ⟨B1, env, fp, _, E, rr.ext e1, q1, fun v2 H3 B3 r2 e3 o2 q2 => ?_, hx.later e1.same⟩
    have hy := o2.now e3
    have q2 : ixR (.b (.lsts os)) r2.d Q := q2
    generalize r2.d = d2 at hy q2
    cases d2 <;> first | exact (show False from q2).elim | skip
    rw [ixR_bls] at q2
    obtain ⟨o, h1, h2⟩ := q2
    obtain ⟨f, x, hs⟩ := o1
    have x3 := x.mono (H' := H3) e3.le fun a m => by
      obtain ⟨u, hu'⟩ := x.dom a m
      rw [hu']; exact e3.same _ _ hu'
    cases x3 with
    | lsts h r =>
      obtain ⟨v, g, z1, z2, z3⟩ := r.atI h1
      refine .inl (.inl ⟨_, _, _, v, rfl, hy.int_inv, .inl (.inl h), z1, hq v H3 B3 _ (e1.trans e3) ?_ h2⟩)
      cases o with
      | fro d => cases z2 with | fro z => exact z
      | lst ds => exact ⟨g, z2, (z3.trans (List.sublist_cons_self _ _)).trans hs⟩
      | dic ds => exact ⟨g, z2, (z3.trans (List.sublist_cons_self _ _)).trans hs⟩
      | lsts ds => exact ⟨g, z2, (z3.trans (List.sublist_cons_self _ _)).trans hs⟩
      | raw _ => cases z2
  · have s1 : r1.sh := by
      cases r1 with
      | v d => exact True.intro
      | t o => exact True.intro
      | b o => cases o <;> first | exact True.intro | exact (hs1 ⟨_, rfl⟩).elim
    have ei : ∀ k Q', ixR r1 k Q' = ixD r1.d k fun d => Q' (.v d) := fun k Q' => by
      cases r1 with
      | v d => exact ixR_v d k Q'
      | t o => exact ixR_t o k Q'
      | b o => cases o <;> cases k <;> first | rfl | exact (hs1 ⟨_, rfl⟩).elim
    obtain ⟨B2, e2, l2, rv1⟩ := o1.view e1 s1
    refine ⟨B2, env, fp, _, E, rr.ext e2, q1, fun v2 H3 B3 r2 e3 o2 q2 => ?_, hx.later e1.same⟩
    have q2 : ixR r1 r2.d Q := q2
    rw [ei] at q2
    exact ixD_ok e3.bh (rv1.ext e3) (o2.now e3) q2 fun v d r q => hq v H3 B3 (.v d) (e2.trans e3) r q

/-! ### slices -/
def cut {α : Type} (xs : List α) (lo hi : Option Int) : List α := (xs.drop (HT.sIx xs.length 0 lo)).take (HT.sIx xs.length xs.length hi - HT.sIx xs.length 0 lo)
theorem RepAll.cut {K : K0} {B : Hp} {vs : List V} {ds : List D} (r : RepAll K B vs ds) (lo hi : Option Int) : RepAll K B (cutV vs lo hi) (DL.cut ds lo hi) := by
  unfold cutV DL.cut
  rw [r.length]
  exact (r.drop _).take _
theorem cut_whole {α : Type} (xs : List α) (lo hi : Option Int) (h : HT.sIx xs.length 0 lo = 0 ∧ HT.sIx xs.length xs.length hi = xs.length) : cut xs lo hi = xs := by
  unfold cut
  rw [h.1, h.2]
  simp
abbrev WO := Env → (Option Int → Prop) → (Str → Prop) → Prop
def woN : WO := fun _ Q _ => Q none
def woE (t : WE) : WO := fun env Q E => t env (fun x => ∃ i, x.d = .int i ∧ Q (some i)) E
def tDO (X : Cx) (W : WX) (G : Hp) (m : WO) : TO := fun σ H QV => ∃ B env fp Q E, RR X.K G B env fp σ H ∧ m env Q E ∧ (∀ o H' B', Ext H B H' B' → Q o → QV o H') ∧ XOk X.mg W H σ E
def DO (X : Cx) (W : WX) (G : Hp) (e : Option Expr) (m : WO) : Prop := PO X e (tDO X W G m)
theorem POi {eo : Option Expr} {t t' : TO} (h : PO X eo t) (f : ∀ σ H Q, t' σ H Q → t σ H Q) : PO X eo t' := ⟨fun pins s σ H Q I w => h.run pins s σ H Q I (f σ H Q w)⟩
theorem do_none : DO X W G none woN := POi po_none fun σ H QV ⟨B, env, fp, Q, E, rr, hm, hq, hx⟩ => hq _ H B (.refl rr.bh) hm
theorem do_some (h : DE X W G e m) : DO X W G (some e) (woE m) := POi (po_some h) fun σ H QV ⟨B, env, fp, Q, E, rr, hm, hq, hx⟩ =>
  ⟨B, env, fp, _, E, rr, hm, fun v1 H1 B1 r1 e1 o1 ⟨i, hi, hf⟩ => ⟨i, by have := o1.now e1; rw [hi] at this; exact this.int_inv, hq _ H1 B1 e1 hf⟩, hx⟩
def slD : D → Option Int → Option Int → (R → Prop) → Prop
  | .list ds, lo, hi, Q => Q (.t (.lst (cut ds lo hi)))
  | .tuple ds, lo, hi, Q => Q (.v (.tuple (cut ds lo hi)))
  | .str z, lo, hi, Q => z.length ≤ sizeLine ∧ Q (.v (.str (cutS z lo hi)))
  | _, _, _, _ => False
def wSl (t : WE) (lo hi : WO) : WE := fun env Q E => t env (fun x => lo env (fun l => hi env (fun u => x.sh ∧ slD x.d l u Q) E) E) E
theorem sl_any : SlR X (fun x lo hi H Q => rSlL X.K x lo hi H Q ∨ rSlP X.K x lo hi H Q ∨ rSlS x lo hi H Q) := sl_list.or (sl_tupP.or sl_str)
theorem t_lst {K : K0} {H B : Hp} {fp : List Addr} {p : Addr} {vs : List V} {ds : List D} (l : Le B H) (np : H p = none) (r : RepAll K B vs ds) : VOk K H fp B (upd H p (.lst vs)) (.ref p) (.t (.lst ds)) :=
  ⟨[p], .lst upd_same r, by simp, fun a m => by simp at m; subst m; exact ⟨np, l.none np⟩⟩
theorem de_slice {lo hi : Option Expr} {l h : WO} {p2 : Pos} (he : DE X W G e m) (hl : DO X W G lo l) (hh : DO X W G hi h) : DE X W G (.Subscript e (.Slice lo hi none p2) pos) (wSl m l h) := by
  refine PEi (pe_slice sl_any he hl hh) fun σ H QV ⟨B, env, fp, Q, E, rr, hm, hq, hx⟩ => ?_
  refine ⟨B, env, fp, _, E, rr, hm, fun v1 H1 B1 r1 e1 o1 q1 => ?_, hx⟩
  by_cases s1 : r1.sh
  · obtain ⟨B2, e2, l2, rv1⟩ := o1.view e1 s1
    refine ⟨B2, env, fp, _, E, rr.ext e2, q1, fun lo H3 B3 e3 q2 => ?_, hx.later e2.same⟩
    refine ⟨B3, env, fp, _, E, (rr.ext e2).ext e3, q2, fun hi H4 B4 e4 q3 => ?_, hx.later (e2.same.trans e3.same)⟩
    have x4 := (rv1.ext e3).ext e4
    obtain ⟨_, hf⟩ := q3
    have eT := (e2.trans e3).trans e4
    generalize r1.d = d at x4 hf
    cases d <;> first | exact (show False from hf).elim | skip
    · exact .inr (.inr ⟨_, x4.str, hf.1, hq _ H4 B4 (.v _) eT (.str _) hf.2⟩)
    · obtain ⟨a, vs, ev, s, t⟩ := x4.list e4.bh
      exact .inl ⟨a, vs, ev, s, fun p np => hq _ _ B4 (.t _) (eT.trans (.make e4.bh np _)) (VOk.back eT (t_lst e4.bh np (t.cut lo hi))) hf⟩
    · have xr := x4.tupRep
      obtain ⟨a, vs, ev, s, t⟩ := x4.tup e4.bh
      refine .inr (.inl ⟨a, vs, ev, s, fun hw => ?_, fun hw p o np ho => ?_⟩)
      · rw [t.length] at hw
        have hf : Q (.v (.tuple (cut _ lo hi))) := hf
        rw [cut_whole _ _ _ hw] at hf
        rw [ev] at xr
        exact hq _ H4 B4 (.v _) eT xr hf
      · exact hq _ _ (upd B4 p _) (.v _) (eT.trans (.put e4.bh np _)) (newT_rep e4.bh np ho (t.cut lo hi)) hf
  · refine ⟨B1, env, fp, _, E, rr.ext e1, q1, fun lo H3 B3 e3 q2 => ?_, hx.later e1.same⟩
    exact ⟨B3, env, fp, _, E, (rr.ext e1).ext e3, q2, fun hi H4 B4 e4 q3 => (s1 q3.1).elim, hx.later (e1.same.trans e3.same)⟩
/-- xs[::-1] -/
def wRev (t : WE) : WE := fun env Q E => t env (fun x => x.sh ∧ ∃ ds, x.d = .list ds ∧ Q (.t (.lst ds.reverse))) E
theorem de_rev {k : Nat} {p1 p2 p3 pos : Pos} (he : DE X W G e m) : DE X W G (.Subscript e (.Slice none none (some (.UnaryOp .USub (.Constant (.int 1) k p1) p2)) p3) pos) (wRev m) := by
  refine PEi (pe_revL he) fun σ H QV ⟨B, env, fp, Q, E, rr, hm, hq, hx⟩ => ?_
  refine ⟨B, env, fp, _, E, rr, hm, fun v1 H1 B1 r1 e1 o1 ⟨s1, ds, ed, hf⟩ => ?_, hx⟩
  obtain ⟨B2, e2, l2, rv1⟩ := o1.view e1 s1
  rw [ed] at rv1
  obtain ⟨a, vs, ev, s, t⟩ := rv1.list e2.bh
  exact ⟨a, vs, ev, s, fun p np => hq _ _ B2 (.t _) (e2.trans (.make e2.bh np _)) (VOk.back e2 (t_lst e2.bh np t.reverse)) hf⟩
/-- minus -/
def wNeg (t : WE) : WE := fun env Q E => t env (fun x => ∃ i, x.d = .int i ∧ Q (.v (.int (-i)))) E
theorem de_neg (he : DE X W G e m) : DE X W G (.UnaryOp .USub e pos) (wNeg m) := by
  refine PEi (pe_un un_neg he) fun σ H QV ⟨B, env, fp, Q, E, rr, hm, hq, hx⟩ => ?_
  refine ⟨B, env, fp, _, E, rr, hm, fun v1 H1 B1 r1 e1 o1 ⟨i, ed, hf⟩ => ?_, hx⟩
  have h := o1.now e1
  rw [ed] at h
  exact ⟨i, h.int_inv, hq _ H1 B1 (.v _) e1 (.int _) hf⟩

/-! ### arguments, displays -/
theorem VAll.ext {K : K0} {H B H' B' : Hp} (e : Ext H B H' B') : ∀ {vs : List V} {rs : List R}, VAll K B H vs rs → VAll K B' H' vs rs
  | _, _, .nil => .nil
  | _, _, .st s r t => .st s (r.mono e.le) (VAll.ext e t)
  | _, _, .lk x t => .lk (x.mono e.le fun a m => by
      obtain ⟨u, hu'⟩ := x.dom a m
      rw [hu']; exact e.same _ _ hu') (VAll.ext e t)
def waN : WA := fun _ Q _ => Q []
def waC (t : WE) (ta : WA) : WA := fun env Q E => t env (fun r => ta env (fun rs => Q (r :: rs)) E) E
theorem da_nil : DA X W G [] waN := PAi pa_nil fun σ H QV ⟨B, env, fp, Q, E, rr, hm, hq, hx⟩ => hq [] H B [] (.refl rr.bh) .nil hm
theorem da_cons {es : List Expr} {ms : WA} (ha : DE X W G e m) (hr : DA X W G es ms) (hs : starEach (e :: es) X.env = (false, eval e X.env) :: starEach es X.env) : DA X W G (e :: es) (waC m ms) := by
  refine PAi (pa_cons ha hr hs) fun σ H QV ⟨B, env, fp, Q, E, rr, hm, hq, hx⟩ => ?_
  refine ⟨B, env, fp, _, E, rr, hm, fun v1 H1 B1 r1 e1 o1 q1 => ?_, hx⟩
  by_cases s1 : r1.st
  · obtain ⟨B2, e2, l2, rp⟩ := o1.keep e1 s1
    refine ⟨B2, env, fp, _, E, rr.ext e2, q1, fun vs H3 B3 rs e3 o3 q3 => ?_, hx.later e2.same⟩
    exact hq _ H3 B3 (r1 :: rs) (e2.trans e3) (.st s1 (rp.mono e3.le) o3) q3
  · refine ⟨B1, env, fp, _, E, rr.ext e1, q1, fun vs H3 B3 rs e3 o3 q3 => ?_, hx.later e1.same⟩
    cases r1 with
    | v d => exact (s1 True.intro).elim
    | t o => exact (s1 True.intro).elim
    | b o =>
      obtain ⟨f, x, hs⟩ := o1
      exact hq _ H3 B3 (.b o :: rs) (e1.trans e3) (.lk (x.mono e3.le fun a m => by
        obtain ⟨u, hu'⟩ := x.dom a m
        rw [hu']; exact e3.same _ _ hu') o3) q3
/-- all may be kept -/
def allSt : List R → Prop
  | [] => True
  | r :: rs => r.st ∧ allSt rs
@[simp] theorem allSt_nil : allSt [] = True := rfl
@[simp] theorem allSt_cons (r : R) (rs : List R) : allSt (r :: rs) = (r.st ∧ allSt rs) := rfl
theorem VAll.reps {K : K0} {B H : Hp} : ∀ {vs : List V} {rs : List R}, VAll K B H vs rs → allSt rs → RepAll K B vs (rs.map R.d)
  | _, _, .nil, _ => .nil
  | _, _, .st s r t, h => .cons r (VAll.reps t h.2)
  | _, _, .lk _ _, h => h.1.elim
theorem VAll.now {K : K0} {B H : Hp} (l : Le B H) : ∀ {vs : List V} {rs : List R}, VAll K B H vs rs → RepAll K H vs (rs.map R.d)
  | _, _, .nil => .nil
  | _, _, .st s r t => .cons (r.mono l) (VAll.now l t)
  | _, _, .lk x t => .cons (x.rep l) (VAll.now l t)
def wTup (ta : WA) : WE := fun env Q E => ta env (fun rs => allSt rs ∧ rs.length ≤ sizeLine ∧ Q (.v (.tuple (rs.map R.d)))) E
def wLst (ta : WA) : WE := fun env Q E => ta env (fun rs => allSt rs ∧ rs.length ≤ sizeLine ∧ Q (.t (.lst (rs.map R.d)))) E
theorem de_tup {es : List Expr} {ms : WA} {x1} (h : DA X W G es ms) : DE X W G (.Tuple es x1 pos) (wTup ms) := by
  refine PEi (pe_tupP h) fun σ H QV ⟨B, env, fp, Q, E, rr, hm, hq, hx⟩ => ?_
  refine ⟨B, env, fp, _, E, rr, hm, fun vs H1 B1 rs e1 o1 ⟨s1, hz, hf⟩ => ?_, hx⟩
  have t := o1.reps s1
  refine ⟨by rw [t.length, List.length_map]; exact hz, fun p o np ho => ?_⟩
  exact hq _ _ (upd B1 p _) (.v _) (e1.trans (.put e1.bh np _)) (newT_rep e1.bh np ho t) hf
theorem de_lst {es : List Expr} {ms : WA} (h : DA X W G es ms) : DE X W G (.List es pos) (wLst ms) := by
  refine PEi (pe_lst h) fun σ H QV ⟨B, env, fp, Q, E, rr, hm, hq, hx⟩ => ?_
  refine ⟨B, env, fp, _, E, rr, hm, fun vs H1 B1 rs e1 o1 ⟨s1, hz, hf⟩ => ?_, hx⟩
  have t := o1.reps s1
  refine ⟨by rw [t.length, List.length_map]; exact hz, fun p np => ?_⟩
  exact hq _ _ B1 (.t _) (e1.trans (.make e1.bh np _)) (VOk.back e1 (t_lst e1.bh np t)) hf
/-- {} -/
def wDic0 : WE := fun _ Q _ => Q (.t (.dic []))
theorem de_dic0 : DE X W G (.Dict [] [] pos) wDic0 := by
  refine PEi pe_dnewK fun σ H QV ⟨B, env, fp, Q, E, rr, hm, hq, hx⟩ p np => ?_
  exact hq _ _ B (.t (.dic [])) (.make rr.bh np _) ⟨[p], .dic upd_same .nil, by simp, fun a m => by simp at m; subst m; exact ⟨np, rr.bh.none np⟩⟩ hm

/-! ### calls of built-ins -/
def rB (K : K0) (f : List R → (R → Prop) → Prop) : List V → Hp → VK → Prop := fun vs H QV => ∃ B fp rs Q, Le B H ∧ VAll K B H vs rs ∧ f rs Q ∧ QOk K B H fp Q QV
def wB (f : List R → (R → Prop) → Prop) (ta : WA) : WE := fun env Q E => ta env (fun rs => f rs Q) E
theorem cb_ok {f : List R → (R → Prop) → Prop} {ms : WA} {es : List Expr} {σ : L2.St} {H : Hp} {QV : VK} (h : tD X W G (wB f ms) σ H QV) : tCB (rB X.K f) (tDA X W G ms) σ H QV := by
  obtain ⟨B, env, fp, Q, E, rr, hm, hq, hx⟩ := h
  exact ⟨B, env, fp, _, E, rr, hm, fun vs H1 B1 rs e1 o1 q => ⟨B1, fp, rs, Q, e1.bh, o1, q, hq.later e1⟩, hx⟩
theorem de_B {f : List R → (R → Prop) → Prop} {ms : WA} {es : List Expr} {x : Str} {id : String} {p : Pos} (hc : CallR X (.builtin id) (rB X.K f)) (hg : Gl X x) (hm : X.mg x = none) (hv : bootBuiltins x = some (.builtin id)) (ha : DA X W G (e :: es) ms)
    (hn : x ≠ "__name__") (hdb : (x == ("__debug__" : Str)) = false)
    (he : starEach (e :: es) X.env = (false, eval e X.env) :: starEach es X.env) (hpl : (backTo pos (starEach es X.env)).any (·.1) = false) : DE X W G (.Call (.Name x p) (e :: es) [] pos) (wB f ms) :=
  PEi (pe_callB hc hg hm hv ha hn hdb he hpl) fun _ _ _ h => cb_ok (es := es) h
theorem de_T {f : List R → (R → Prop) → Prop} {ms : WA} {es : List Expr} {x : Str} {id : String} {p : Pos} (hc : CallR X (.type id) (rB X.K f)) (hg : Gl X x) (hm : X.mg x = none) (hv : bootBuiltins x = some (.type id)) (ha : DA X W G (e :: es) ms)
    (hn : x ≠ "__name__") (hdb : (x == ("__debug__" : Str)) = false)
    (he : starEach (e :: es) X.env = (false, eval e X.env) :: starEach es X.env) (hpl : (backTo pos (starEach es X.env)).any (·.1) = false) : DE X W G (.Call (.Name x p) (e :: es) [] pos) (wB f ms) :=
  PEi (pe_callTy hc hg hm hv ha hn hdb he hpl) fun _ _ _ h => cb_ok (es := es) h
end
end DL

set_option Elab.async false
set_option linter.all false
set_option maxRecDepth 100000
set_option maxHeartbeats 1000000
/-! DL6: built-ins over data. -/
namespace DL
open PySem L2 PyProof.Rows

/-- what a one-place built-in does to data as it stands -/
abbrev F1 := D → (R → Prop) → Prop
def f1 (f : F1) : List R → (R → Prop) → Prop
  | [r], Q => f r.d Q
  | _, _ => False
@[simp] theorem f1_one (f : F1) (r : R) (Q : R → Prop) : f1 f [r] Q = f r.d Q := rfl
/-- .. whose items must be still -/
def f1s (f : F1) : List R → (R → Prop) → Prop
  | [r], Q => r.sh ∧ f r.d Q
  | _, _ => False
@[simp] theorem f1s_one (f : F1) (r : R) (Q : R → Prop) : f1s f [r] Q = (r.sh ∧ f r.d Q) := rfl
def f2 (f : Op2) : List R → (R → Prop) → Prop
  | [r, q], Q => f r.d q.d Q
  | _, _ => False
@[simp] theorem f2_two (f : Op2) (r q : R) (Q : R → Prop) : f2 f [r, q] Q = f r.d q.d Q := rfl

section
variable {K : K0} {B H : Hp} {vs : List V} {rs : List R}
theorem VAll.one {r : R} (x : VAll K B H vs [r]) (l : Le B H) : ∃ v, vs = [v] ∧ Rep K H v r.d := by
  have h := x.now l
  cases x with
  | st s r t => cases t; cases h with | cons h _ => exact ⟨_, rfl, h⟩
  | lk s t => cases t; cases h with | cons h _ => exact ⟨_, rfl, h⟩
theorem VAll.two {r q : R} (x : VAll K B H vs [r, q]) (l : Le B H) : ∃ v u, vs = [v, u] ∧ Rep K H v r.d ∧ Rep K H u q.d := by
  have h := x.now l
  cases x with
  | st s r t =>
    obtain ⟨u, e, hu⟩ := VAll.one t l
    subst e
    cases h with | cons h _ => exact ⟨_, _, rfl, h, hu⟩
  | lk s t =>
    obtain ⟨u, e, hu⟩ := VAll.one t l
    subst e
    cases h with | cons h _ => exact ⟨_, _, rfl, h, hu⟩
theorem VAll.one_sh {r : R} (x : VAll K B H vs [r]) (s : r.sh) : ∃ v, vs = [v] ∧ RV K B H v r.d := by
  cases x with
  | st s r t => cases t; exact ⟨_, rfl, .rep r⟩
  | @lk v o f _ _ x t =>
    cases t
    refine ⟨_, rfl, ?_⟩
    cases o with
    | fro d => cases x with | fro r => show RV K B H v (O.frz (.fro d)); rw [O.frz_fro]; exact .rep r
    | lst ds => cases x with | lst h r => show RV K B H _ (O.frz (.lst ds)); rw [O.frz_lst]; exact .lst h r
    | dic ds => cases x with | dic h r => show RV K B H _ (O.frz (.dic ds)); rw [O.frz_dic]; exact .dic h r
    | lsts os => exact s.elim
    | raw _ => cases x
theorem f1_inv {f : F1} {Q : R → Prop} (h : f1 f rs Q) : ∃ r, rs = [r] ∧ f r.d Q := by
  match rs, h with
  | [r], h => exact ⟨r, rfl, h⟩
theorem f1s_inv {f : F1} {Q : R → Prop} (h : f1s f rs Q) : ∃ r, rs = [r] ∧ r.sh ∧ f r.d Q := by
  match rs, h with
  | [r], h => exact ⟨r, rfl, h⟩
theorem f2_inv {f : Op2} {Q : R → Prop} (h : f2 f rs Q) : ∃ r q, rs = [r, q] ∧ f r.d q.d Q := by
  match rs, h with
  | [r, q], h => exact ⟨r, q, rfl, h⟩
/-- a flat answer -/
theorem QOk.flat {fp : List Addr} {Q : R → Prop} {QV : VK} (q : QOk K B H fp Q QV) (l : Le B H) {d : D} {v : V} (h : vD d = some v) (hf : Q (.v d)) : QV v H :=
  q v H B (.v d) (.refl l) (vD_rep h) hf
end

/-! ### the less one of two texts -/
theorem cmpOf_strs {prog : Program} {w : World} {A : Around} {a b : Str} {t u : Tok} :
    CmpOf prog w A .Lt (fun i v => (#[Value.str a t, Value.str b u] : Array Value)[i]? = some v) (fun i j => decide ((if i = 0 then a else b).cps.toList < (if j = 0 then a else b).cps.toList)) := fun i j vi vj s Q E hi hj h => by
  have at' : ∀ (i : Nat) (v : Value), (#[Value.str a t, Value.str b u] : Array Value)[i]? = some v → ∃ tk, v = .str (if i = 0 then a else b) tk := fun i v hi => by
    match i with
    | 0 => simp at hi; exact ⟨t, by simp [← hi]⟩
    | 1 => simp at hi; exact ⟨u, by simp [← hi]⟩
    | i + 2 => simp at hi
  obtain ⟨t1, rfl⟩ := at' i vi hi
  obtain ⟨t2, rfl⟩ := at' j vj hj
  exact richCompare_gives (op := .Lt) (typeIs_str s _ t1) (typeIs_str s _ t2) F.slot_str_lt F.entry_str_lt (F.args_str_lt_2 _ _) (gives_str_lt _ _ t1 t2) (fun x => nomatch x) h
theorem min_two_strs {prog : Program} {w : World} {A : Around} {E : Value → Shared → Prop} {s : Shared} {Q : Value → Shared → Prop} {a b : Str} {t u : Tok} (hh : A.handled = none)
    (h : ∀ h' tk, (∀ c o, s.heap.get? c = some o → h'.get? c = some o) → Q (if b.cps.toList < a.cps.toList then .str b u else .str a t) { s with heap := h', toks := tk }) :
    wpAny (model prog w) A (call (.builtin "min") [.str a t, .str b u]) Q E s := by
  have hT : (s.heap.push { cls := .type "tuple", data := .seq #[Value.str a t, Value.str b u] }).IsTuple s.heap.objs.size #[Value.str a t, Value.str b u] := ⟨_, Heap.get?_push_size _ rfl, rfl, 0, rfl⟩
  refine call_min_two (wpAny_pyIter_tuple hT ?_)
  have hsz : (s.heap.push { cls := .type "tuple", data := .seq #[Value.str a t, Value.str b u] }).objs.size = s.heap.objs.size + 1 := Heap.size_push ..
  refine ⟨_, [_, s.heap.objs.size], [_], _, _, _, _, rfl, Walks.tuple (A := A.in1) hh _ s.heap.objs.size (by rw [hsz]; exact Nat.ne_of_lt (Nat.lt_succ_self _)) #[Value.str a t, Value.str b u],
    ⟨⟨_, Heap.get?_push_size _ rfl, rfl, rfl⟩, hT.push _⟩, fun c hc => ?_, by simp, cmpOf_strs, fun v h' tk hP hk => ?_⟩
  · show c < ((s.heap.push _).push _).objs.size
    rw [Heap.size_push, hsz]
    rcases List.mem_cons.mp hc with rfl | hc
    · rw [hsz]; exact Nat.lt_succ_self _
    · rcases List.mem_cons.mp hc with rfl | hc
      · exact Nat.lt_succ_of_lt (Nat.lt_succ_self _)
      · cases hc
  · have hold : ∀ c o, s.heap.get? c = some o → h'.get? c = some o := fun c o e => by
      refine hk c o (fun hm => ?_) (Heap.get?_push_of_some _ (Heap.get?_push_of_some _ e))
      rcases List.mem_cons.mp hm with e1 | hm
      · have := Heap.lt_size e; rw [e1, hsz] at this; exact Nat.lt_irrefl _ (Nat.lt_of_succ_lt this)
      · cases hm
    have := h h' tk hold
    have hv : v = if b.cps.toList < a.cps.toList then Value.str b u else Value.str a t := by
      have hP' : (#[Value.str a t, Value.str b u] : Array Value)[argBest (fun i j => decide ((if i = 0 then a else b).cps.toList < (if j = 0 then a else b).cps.toList)) 1]? = some v := hP
      by_cases hc : b.cps.toList < a.cps.toList
      · have e : argBest (fun i j => decide ((if i = 0 then a else b).cps.toList < (if j = 0 then a else b).cps.toList)) 1 = 1 := by simp [argBest, hc]
        rw [e] at hP'
        rw [if_pos hc]
        simpa using hP'.symm
      · have e : argBest (fun i j => decide ((if i = 0 then a else b).cps.toList < (if j = 0 then a else b).cps.toList)) 1 = 0 := by simp [argBest, hc]
        rw [e] at hP'
        rw [if_neg hc]
        simpa using hP'.symm
    rw [hv]; exact this
theorem call_min2S {X : Cx} (hc : X.calm = true) : CallR X (.builtin "min") (fun xs H Q => ∃ i j : Str, xs = [.str i, .str j] ∧ Q (.str (if j.cps.toList < i.cps.toList then j else i)) H) := by
  intro pins s σ H xs us Q I r h
  obtain ⟨i, j, rfl, q⟩ := h
  obtain ⟨u, w', rfl, ⟨t, rfl⟩, ⟨t', rfl⟩⟩ := vals2 r
  refine min_two_strs (I.ok.hd hc) fun h' tk k => ⟨_, H, I.kept k, ?_, q⟩
  by_cases hj : j.cps.toList < i.cps.toList
  · rw [if_pos hj, if_pos hj]; exact ⟨_, rfl⟩
  · rw [if_neg hj, if_neg hj]; exact ⟨_, rfl⟩
section
variable {X : Cx}
/-- by one value as it stands, to a flat one -/
theorem cr1 {f : Value} {r : List V → Hp → VK → Prop} {g : F1} (h : CallR X f r)
    (hr : ∀ v d H QV (Q : R → Prop), Rep X.K H v d → g d Q → (∀ d' v', vD d' = some v' → Q (.v d') → QV v' H) → r [v] H QV) : CallR X f (rB X.K (f1 g)) := by
  intro pins s σ H xs us QV I rv ⟨B, fp, rs, Q, l, x, hf, hq⟩
  obtain ⟨a, e, hf⟩ := f1_inv hf
  subst e
  obtain ⟨v, e, hv⟩ := x.one l
  subst e
  exact h pins s σ H _ us QV I rv (hr v a.d H QV Q hv hf fun d' v' hd hq' => hq.flat l hd hq')
theorem cr2 {f : Value} {r : List V → Hp → VK → Prop} {g : Op2} (h : CallR X f r)
    (hr : ∀ v d u e H QV (Q : R → Prop), Rep X.K H v d → Rep X.K H u e → g d e Q → (∀ d' v', vD d' = some v' → Q (.v d') → QV v' H) → r [v, u] H QV) : CallR X f (rB X.K (f2 g)) := by
  intro pins s σ H xs us QV I rv ⟨B, fp, rs, Q, l, x, hf, hq⟩
  obtain ⟨a, b, e, hf⟩ := f2_inv hf
  subst e
  obtain ⟨v, u, e, hv, hu⟩ := x.two l
  subst e
  exact h pins s σ H _ us QV I rv (hr v a.d u b.d H QV Q hv hu hf fun d' v' hd hq' => hq.flat l hd hq')

def lenD : F1
  | .str z, Q => z.length ≤ sizeLine ∧ Q (.v (.int z.length))
  | .list ds, Q => Q (.v (.int ds.length))
  | .tuple ds, Q => Q (.v (.int ds.length))
  | .dict ds, Q => Q (.v (.int ds.length))
  | _, _ => False
theorem call_lenDict : CallR X (.builtin "len") (fun xs H Q => ∃ a kvs, xs = [.ref a] ∧ Rd H a (.dK kvs) ∧ Q (.int kvs.length) H) := by
  intro pins s σ H xs us Q I rv ⟨a, kvs, e, h, q⟩
  subst e
  have := rv.ref1
  subst this
  exact d_len I h fun t s' I' => ⟨.int kvs.length, H, I', ⟨t, rfl⟩, q⟩
theorem cLen : CallR X (.builtin "len") (rB X.K (f1 lenD)) := by
  refine cr1 (call_len.or call_lenDict) fun v d H QV Q hv hf hq => ?_
  cases d <;> first | exact (show False from hf).elim | skip
  · exact .inl ⟨_, _, rfl, by rw [hv.str_inv]; exact ⟨hf.1, rfl⟩, hq _ _ rfl hf.2⟩
  · obtain ⟨a, vs, e, s, t⟩ := hv.list_inv
    subst e
    exact .inl ⟨_, _, rfl, .inl ⟨vs, s, t.length.symm⟩, hq _ _ rfl hf⟩
  · obtain ⟨a, vs, e, s, t⟩ := hv.tup_inv
    subst e
    exact .inl ⟨_, _, rfl, .inr ⟨vs, s, t.length.symm⟩, hq _ _ rfl hf⟩
  · obtain ⟨a, vs, e, s, t⟩ := hv.dict_inv
    subst e
    exact .inr ⟨a, vs, rfl, s, by rw [t.length]; exact hq _ _ rfl hf⟩
def min2D : Op2
  | .int i, .int j, Q => Q (.v (.int (if j < i then j else i)))
  | .str i, .str j, Q => Q (.v (.str (if j.cps.toList < i.cps.toList then j else i)))
  | _, _, _ => False
def max2D : Op2
  | .int i, .int j, Q => Q (.v (.int (if j > i then j else i)))
  | _, _, _ => False
theorem cMin2 (hc : X.calm = true) : CallR X (.builtin "min") (rB X.K (f2 min2D)) := by
  refine cr2 ((call_min2 hc).or (call_min2S hc)) fun v d u e H QV Q hv hu hf hq => ?_
  cases d <;> cases e <;> first | exact (show False from hf).elim | skip
  · exact .inl ⟨_, _, by rw [hv.int_inv, hu.int_inv], hq _ _ rfl hf⟩
  · exact .inr ⟨_, _, by rw [hv.str_inv, hu.str_inv], hq _ _ rfl hf⟩
theorem cMax2 (hc : X.calm = true) : CallR X (.builtin "max") (rB X.K (f2 max2D)) := by
  refine cr2 (call_max2 hc) fun v d u e H QV Q hv hu hf hq => ?_
  cases d <;> cases e <;> first | exact (show False from hf).elim | skip
  exact ⟨_, _, by rw [hv.int_inv, hu.int_inv], hq _ _ rfl hf⟩
def sumD : F1
  | .list ds, Q => ∃ ns : List Int, ds = ns.map PyData.int ∧ Q (.v (.int ns.sum))
  | _, _ => False
theorem cSum (hc : X.calm = true) : CallR X (.builtin "sum") (rB X.K (f1 sumD)) := by
  refine cr1 (cr_sum hc) fun v d H QV Q hv hf hq => ?_
  cases d <;> first | exact (show False from hf).elim | skip
  obtain ⟨ns, e, hf⟩ := hf
  subst e
  obtain ⟨a, vs, e, s, t⟩ := hv.list_inv
  subst e
  exact ⟨a, ns, rfl, by rw [← t.intsV]; exact s, hq _ _ rfl hf⟩
def isGreatest (ns : List Int) (m : Int) : Prop := m ∈ ns ∧ ∀ y ∈ ns, y ≤ m
def isLeast (ns : List Int) (m : Int) : Prop := m ∈ ns ∧ ∀ y ∈ ns, m ≤ y
def maxD : F1
  | .list ds, Q => ∃ ns : List Int, ds = ns.map PyData.int ∧ 0 < ns.length ∧ ∀ m, isGreatest ns m → Q (.v (.int m))
  | _, _ => False
def minD : F1
  | .list ds, Q => ∃ ns : List Int, ds = ns.map PyData.int ∧ 0 < ns.length ∧ ∀ m, isLeast ns m → Q (.v (.int m))
  | _, _ => False
theorem cMax (hc : X.calm = true) : CallR X (.builtin "max") (rB X.K (f1 maxD)) := by
  refine cr1 (cr_max hc) fun v d H QV Q hv hf hq => ?_
  cases d <;> first | exact (show False from hf).elim | skip
  obtain ⟨ns, e, hl, hf⟩ := hf
  subst e
  obtain ⟨a, vs, e, s, t⟩ := hv.list_inv
  subst e
  exact ⟨a, ns, rfl, by rw [← t.intsV]; exact s, hl, fun m h1 h2 => hq _ _ rfl (hf m ⟨h1, h2⟩)⟩
theorem cMin (hc : X.calm = true) : CallR X (.builtin "min") (rB X.K (f1 minD)) := by
  refine cr1 (cr_min hc) fun v d H QV Q hv hf hq => ?_
  cases d <;> first | exact (show False from hf).elim | skip
  obtain ⟨ns, e, hl, hf⟩ := hf
  subst e
  obtain ⟨a, vs, e, s, t⟩ := hv.list_inv
  subst e
  exact ⟨a, ns, rfl, by rw [← t.intsV]; exact s, hl, fun m h1 h2 => hq _ _ rfl (hf m ⟨h1, h2⟩)⟩
def boolsOf (ds : List D) (bs : List Bool) : Prop := ds = bs.map PyData.bool
theorem RepAll.boolsV {K : K0} {B : Hp} : ∀ {bs : List Bool} {vs : List V}, RepAll K B vs (bs.map PyData.bool) → vs = bs.map V.bl
  | [], _, .nil => rfl
  | n :: ns, _, .cons r t => by rw [r.bool_inv, RepAll.boolsV t]; rfl
def allD : F1
  | .list ds, Q => ∃ bs : List Bool, ds = bs.map PyData.bool ∧ Q (.v (.bool (bs.all id)))
  | _, _ => False
def anyD : F1
  | .list ds, Q => ∃ bs : List Bool, ds = bs.map PyData.bool ∧ Q (.v (.bool (bs.any id)))
  | _, _ => False
theorem cAll (hc : X.calm = true) : CallR X (.builtin "all") (rB X.K (f1 allD)) := by
  refine cr1 (cr_all hc) fun v d H QV Q hv hf hq => ?_
  cases d <;> first | exact (show False from hf).elim | skip
  obtain ⟨ns, e, hf⟩ := hf
  subst e
  obtain ⟨a, vs, e, s, t⟩ := hv.list_inv
  subst e
  exact ⟨a, ns, rfl, by rw [← t.boolsV]; exact s, hq _ _ rfl hf⟩
theorem cAny (hc : X.calm = true) : CallR X (.builtin "any") (rB X.K (f1 anyD)) := by
  refine cr1 (cr_any hc) fun v d H QV Q hv hf hq => ?_
  cases d <;> first | exact (show False from hf).elim | skip
  obtain ⟨ns, e, hf⟩ := hf
  subst e
  obtain ⟨a, vs, e, s, t⟩ := hv.list_inv
  subst e
  exact ⟨a, ns, rfl, by rw [← t.boolsV]; exact s, hq _ _ rfl hf⟩
def ordD : F1
  | .str z, Q => z.length = 1 ∧ Q (.v (.int (z.cps.getD 0 0 : Nat)))
  | _, _ => False
theorem cOrd : CallR X (.builtin "ord") (rB X.K (f1 ordD)) := by
  refine cr1 call_ord fun v d H QV Q hv hf hq => ?_
  cases d <;> first | exact (show False from hf).elim | skip
  exact ⟨_, by rw [hv.str_inv], hf.1, hq _ _ rfl hf.2⟩
def strD : F1
  | .int i, Q => i.natAbs.log2 < 1920 ∧ Q (.v (.str (toString i)))
  | _, _ => False
theorem cStr : CallR X (.type "str") (rB X.K (f1 strD)) := by
  refine cr1 call_str_int fun v d H QV Q hv hf hq => ?_
  cases d <;> first | exact (show False from hf).elim | skip
  exact ⟨_, by rw [hv.int_inv], hf.1, hq _ _ rfl hf.2⟩
def intD : F1
  | .int i, Q => Q (.v (.int i))
  | .bool k, Q => Q (.v (.int (if k then 1 else 0)))
  | .str a, Q => ∃ n, PySem.intText? a = some n ∧ a.length ≤ 640 ∧ Q (.v (.int n))
  | _, _ => False
theorem cInt : CallR X (.type "int") (rB X.K (f1 intD)) := by
  refine cr1 (call_int1.or call_int_str) fun v d H QV Q hv hf hq => ?_
  cases d <;> first | exact (show False from hf).elim | skip
  · exact .inl (.inr ⟨_, by rw [hv.bool_inv], hq _ _ rfl hf⟩)
  · exact .inl (.inl ⟨_, by rw [hv.int_inv], hq _ _ rfl hf⟩)
  · obtain ⟨n, h1, h2, h3⟩ := hf
    exact .inr ⟨_, n, by rw [hv.str_inv], h1, h2, hq _ _ rfl h3⟩
/-- list(x), tuple(x) of a list or tuple -/
def listD : F1
  | .list ds, Q => Q (.t (.lst ds))
  | .tuple ds, Q => Q (.t (.lst ds))
  | _, _ => False
def tupleD : F1
  | .list ds, Q => Q (.v (.tuple ds))
  | .tuple ds, Q => Q (.v (.tuple ds))
  | _, _ => False
theorem cList : CallR X (.type "list") (rB X.K (f1s listD)) := by
  intro pins s σ H xs us QV I rv ⟨B, fp, rs, Q, l, x, hf, hq⟩
  obtain ⟨a, e, sh, hg⟩ := f1s_inv hf
  clear hf
  subst e
  obtain ⟨v, e, hv⟩ := x.one_sh sh
  subst e
  generalize a.d = d at hv hg
  cases d <;> first | exact (show False from hg).elim | skip
  · obtain ⟨p, vs, e, s', t⟩ := hv.list l
    subst e
    exact call_list_of pins s σ H _ us QV I rv ⟨p, vs, rfl, .inl s', fun p' np => hq _ _ B (.t _) (.make l np _) (t_lst l np t) hg⟩
  · obtain ⟨p, vs, e, s', t⟩ := hv.tup l
    subst e
    exact call_list_of pins s σ H _ us QV I rv ⟨p, vs, rfl, .inr s', fun p' np => hq _ _ B (.t _) (.make l np _) (t_lst l np t) hg⟩
theorem cTuple : CallR X (.type "tuple") (rB X.K (f1s tupleD)) := by
  intro pins s σ H xs us QV I rv ⟨B, fp, rs, Q, l, x, hf, hq⟩
  obtain ⟨a, e, sh, hg⟩ := f1s_inv hf
  clear hf
  subst e
  obtain ⟨v, e, hv⟩ := x.one_sh sh
  subst e
  generalize a.d = d at hv hg
  cases d <;> first | exact (show False from hg).elim | skip
  · obtain ⟨p, vs, e, s', t⟩ := hv.list l
    subst e
    refine call_tuple_ofP pins s σ H _ us QV I rv ⟨p, vs, rfl, .inl ⟨s', fun p' o np ho => hq _ _ (upd B p' _) (.v _) (.put l np _) (newT_rep l np ho t) hg⟩⟩
  · have hr := hv.tupRep
    obtain ⟨p, vs, e, s', t⟩ := hv.tup l
    subst e
    exact call_tuple_ofP pins s σ H _ us QV I rv ⟨p, vs, rfl, .inr ⟨s', hq _ _ B (.v _) (.refl l) hr hg⟩⟩

/-! ### isinstance by built-in types -/
def tyD : D → String
  | .none => "NoneType"
  | .bool _ => "bool"
  | .int _ => "int"
  | .str _ => "str"
  | .list _ => "list"
  | .tuple _ => "tuple"
  | .dict _ => "dict"
theorem tyX_of {K : K0} {H : Hp} {v : V} {d : D} (r : Rep K H v d) : TyX K H v (.type (tyD d)) := by
  cases r with
  | non => exact .base .non
  | bl b => exact .base (.bl b)
  | int i => exact .base (.int i)
  | str x => exact .base (.str x)
  | lst s _ =>
    rcases s with (s | ⟨o, s⟩) | ⟨o, its, n, h1, h2, _⟩
    · exact .base (.lst s)
    · exact .base (.frz s)
    · exact .kList h1 h2
  | tup s _ =>
    rcases s with (s | ⟨o, s⟩) | ⟨o, its, n, h1, h2, _⟩
    · exact .base (.tup s)
    · exact .fTuple s
    · exact .kTuple h1 h2
  | dic s _ =>
    rcases s with s | ⟨o, s⟩
    · exact .base (.dK s)
    · exact .fDict s
def isiB (c : String) (d : D) : Bool := match c, d with
  | "int", .int _ => true
  | "int", .bool _ => true
  | "bool", .bool _ => true
  | "str", .str _ => true
  | "list", .list _ => true
  | "tuple", .tuple _ => true
  | "dict", .dict _ => true
  | _, _ => false
/-- isinstance(x, C), C a built-in class -/
def fIsi (c : String) : List R → (R → Prop) → Prop
  | [r], Q => Q (.v (.bool (isiB c r.d)))
  | _, _ => False
@[simp] theorem fIsi_one (c : String) (r : R) (Q : R → Prop) : fIsi c [r] Q = Q (.v (.bool (isiB c r.d))) := rfl
theorem kit_d {K : K0} {c : String} (h : c = "int" ∨ c = "bool" ∨ c = "str" ∨ c = "list" ∨ c = "tuple" ∨ c = "dict") (d : D) : PySem.W.kitOne K (.type (tyD d)) (.type c) = some (isiB c d) := by
  rcases h with rfl | rfl | rfl | rfl | rfl | rfl
  · cases d with
    | none => exact kit_ty (a := "NoneType") (b := "int") (r := false) (by decide +kernel)
    | bool b => exact kit_ty (a := "bool") (b := "int") (r := true) (by decide +kernel)
    | int i => exact kit_ty (a := "int") (b := "int") (r := true) (by decide +kernel)
    | str s => exact kit_ty (a := "str") (b := "int") (r := false) (by decide +kernel)
    | list xs => exact kit_ty (a := "list") (b := "int") (r := false) (by decide +kernel)
    | tuple xs => exact kit_ty (a := "tuple") (b := "int") (r := false) (by decide +kernel)
    | dict xs => exact kit_ty (a := "dict") (b := "int") (r := false) (by decide +kernel)
  · cases d with
    | none => exact kit_ty (a := "NoneType") (b := "bool") (r := false) (by decide +kernel)
    | bool b => exact kit_ty (a := "bool") (b := "bool") (r := true) (by decide +kernel)
    | int i => exact kit_ty (a := "int") (b := "bool") (r := false) (by decide +kernel)
    | str s => exact kit_ty (a := "str") (b := "bool") (r := false) (by decide +kernel)
    | list xs => exact kit_ty (a := "list") (b := "bool") (r := false) (by decide +kernel)
    | tuple xs => exact kit_ty (a := "tuple") (b := "bool") (r := false) (by decide +kernel)
    | dict xs => exact kit_ty (a := "dict") (b := "bool") (r := false) (by decide +kernel)
  · cases d with
    | none => exact kit_ty (a := "NoneType") (b := "str") (r := false) (by decide +kernel)
    | bool b => exact kit_ty (a := "bool") (b := "str") (r := false) (by decide +kernel)
    | int i => exact kit_ty (a := "int") (b := "str") (r := false) (by decide +kernel)
    | str s => exact kit_ty (a := "str") (b := "str") (r := true) (by decide +kernel)
    | list xs => exact kit_ty (a := "list") (b := "str") (r := false) (by decide +kernel)
    | tuple xs => exact kit_ty (a := "tuple") (b := "str") (r := false) (by decide +kernel)
    | dict xs => exact kit_ty (a := "dict") (b := "str") (r := false) (by decide +kernel)
  · cases d with
    | none => exact kit_ty (a := "NoneType") (b := "list") (r := false) (by decide +kernel)
    | bool b => exact kit_ty (a := "bool") (b := "list") (r := false) (by decide +kernel)
    | int i => exact kit_ty (a := "int") (b := "list") (r := false) (by decide +kernel)
    | str s => exact kit_ty (a := "str") (b := "list") (r := false) (by decide +kernel)
    | list xs => exact kit_ty (a := "list") (b := "list") (r := true) (by decide +kernel)
    | tuple xs => exact kit_ty (a := "tuple") (b := "list") (r := false) (by decide +kernel)
    | dict xs => exact kit_ty (a := "dict") (b := "list") (r := false) (by decide +kernel)
  · cases d with
    | none => exact kit_ty (a := "NoneType") (b := "tuple") (r := false) (by decide +kernel)
    | bool b => exact kit_ty (a := "bool") (b := "tuple") (r := false) (by decide +kernel)
    | int i => exact kit_ty (a := "int") (b := "tuple") (r := false) (by decide +kernel)
    | str s => exact kit_ty (a := "str") (b := "tuple") (r := false) (by decide +kernel)
    | list xs => exact kit_ty (a := "list") (b := "tuple") (r := false) (by decide +kernel)
    | tuple xs => exact kit_ty (a := "tuple") (b := "tuple") (r := true) (by decide +kernel)
    | dict xs => exact kit_ty (a := "dict") (b := "tuple") (r := false) (by decide +kernel)
  · cases d with
    | none => exact kit_ty (a := "NoneType") (b := "dict") (r := false) (by decide +kernel)
    | bool b => exact kit_ty (a := "bool") (b := "dict") (r := false) (by decide +kernel)
    | int i => exact kit_ty (a := "int") (b := "dict") (r := false) (by decide +kernel)
    | str s => exact kit_ty (a := "str") (b := "dict") (r := false) (by decide +kernel)
    | list xs => exact kit_ty (a := "list") (b := "dict") (r := false) (by decide +kernel)
    | tuple xs => exact kit_ty (a := "tuple") (b := "dict") (r := false) (by decide +kernel)
    | dict xs => exact kit_ty (a := "dict") (b := "dict") (r := true) (by decide +kernel)
/-- isinstance(e, C): the class is the second argument, a built-in name -/
def wIsi (c : String) (t : WE) : WE := fun env Q E => t env (fun x => Q (.v (.bool (isiB c x.d)))) E
theorem de_isi {W : WX} {G : Hp} {e e2 : Expr} {m : WE} {p pos : Pos} {c : String} (hc : c = "int" ∨ c = "bool" ∨ c = "str" ∨ c = "list" ∨ c = "tuple" ∨ c = "dict") (hg : Gl X "isinstance") (hm : X.mg "isinstance" = none) (ha : DE X W G e m)
    (hc2 : PE X e2 (tC (.ty c)))
    (h1 : starEach [e, e2] X.env = (false, eval e X.env) :: starEach [e2] X.env) (h2 : starEach [e2] X.env = (false, eval e2 X.env) :: starEach [] X.env)
    (hpl : (backTo pos (starEach [e2] X.env)).any (·.1) = false) : DE X W G (.Call (.Name "isinstance" p) [e, e2] [] pos) (wIsi c m) := by
  refine PEi (pe_callB call_isi hg hm (by decide +kernel) (pa_cons ha (pa_cons hc2 pa_nil h2) h1) (by decide) (by decide) h1 hpl) fun σ H QV ⟨B, env, fp, Q, E, rr, hm, hq, hx⟩ => ?_
  refine ⟨B, env, fp, _, E, rr, hm, fun v1 H1 B1 r1 e1 o1 hf => ?_, hx⟩
  exact ⟨v1, .ty c, _, _, _, rfl, .ty c, tyX_of (o1.now e1), kit_d hc _, hq _ H1 B1 (.v _) e1 (.bl _) hf⟩
end
end DL

set_option Elab.async false
set_option linter.all false
set_option maxRecDepth 100000
set_option maxHeartbeats 1000000
/-! DL7: statements over data. -/
namespace DL
open PySem L2 PyProof.Rows

def R.o : R → O
  | .v d => .fro d
  | .t o => o
  | .b o => o
@[simp] theorem R.o_v (d : D) : (R.v d).o = .fro d := rfl
@[simp] theorem R.o_t (o : O) : (R.t o).o = o := rfl
/-- a result that leaves the frame -/
def R.out : R → R
  | .b o => .t o
  | r => r
@[simp] theorem R.out_v (d : D) : (R.v d).out = .v d := rfl
@[simp] theorem R.out_t (d : O) : (R.t d).out = .t d := rfl
@[simp] theorem R.out_b (d : O) : (R.b d).out = .t d := rfl
theorem R.out_st (r : R) : r.out.st := by cases r <;> exact True.intro

/-! ### the frame, changed -/
section
variable {K : K0} {G B B' H H' : Hp} {env : Env} {fp : List Addr} {σ : L2.St} {v : V} {o : O} {g : List Addr}
theorem ownEnv_set (l : Le B B') : ∀ {σ : L2.St} {env : Env} {fp : List Addr} (i : Nat), OwnEnv K B H σ env fp → fp.Nodup → Own K B' H v o g → g.Nodup → (∀ a ∈ g, a ∉ fp) →
    ∃ fp', OwnEnv K B' H (σ.set i (some v)) (env.set i (some o)) fp' ∧ fp'.Nodup ∧ ∀ a ∈ fp', a ∈ fp ∨ a ∈ g
  | _, _, _, _, .nil, _, _, _, _ => ⟨[], .nil, by simp, fun _ m => absurd m (by simp)⟩
  | _, _, fp, 0, .no t, nd, w, ng, dj => ⟨g ++ fp, .some w (t.mono l fun _ _ => rfl), List.nodup_append.mpr ⟨ng, nd, fun a m b m' e => dj a m (e ▸ m')⟩, fun a m => (List.mem_append.mp m).symm⟩
  | _, _, fp, 0, .raw t, nd, w, ng, dj => ⟨g ++ fp, .some w (t.mono l fun _ _ => rfl), List.nodup_append.mpr ⟨ng, nd, fun a m b m' e => dj a m (e ▸ m')⟩, fun a m => (List.mem_append.mp m).symm⟩
  | _, _, _, 0, .some (f := f) (g := r) x t, nd, w, ng, dj => by
    obtain ⟨n1, n2, n3⟩ := List.nodup_append.mp nd
    exact ⟨g ++ r, .some w (t.mono l fun _ _ => rfl), List.nodup_append.mpr ⟨ng, n2, fun a m b m' e => dj a m (List.mem_append_right _ (e ▸ m'))⟩, fun a m => (List.mem_append.mp m).elim .inr fun z => .inl (List.mem_append_right _ z)⟩
  | _, _, _, i + 1, .no t, nd, w, ng, dj => by
    obtain ⟨fp', h1, h2, h3⟩ := ownEnv_set l i t nd w ng dj
    exact ⟨fp', .no h1, h2, h3⟩
  | _, _, _, i + 1, .raw t, nd, w, ng, dj => by
    obtain ⟨fp', h1, h2, h3⟩ := ownEnv_set l i t nd w ng dj
    exact ⟨fp', .raw h1, h2, h3⟩
  | _, _, _, i + 1, .some (f := f) (g := r) x t, nd, w, ng, dj => by
    obtain ⟨n1, n2, n3⟩ := List.nodup_append.mp nd
    obtain ⟨fp', h1, h2, h3⟩ := ownEnv_set l i t n2 w ng fun a m m' => dj a m (List.mem_append_right _ m')
    refine ⟨f ++ fp', .some (x.mono l fun _ _ => rfl) h1, List.nodup_append.mpr ⟨n1, h2, fun a m b m' e => ?_⟩, fun a m => ?_⟩
    · subst e
      rcases h3 a m' with z | z
      · exact n3 a m a z rfl
      · exact dj a z (List.mem_append_left _ m)
    · rcases List.mem_append.mp m with z | z
      · exact .inl (List.mem_append_left _ z)
      · exact (h3 a z).elim (fun z => .inl (List.mem_append_right _ z)) .inr
theorem ownEnv_put {o0 : O} (hr : ∀ a, o0 ≠ .raw a) : ∀ {σ : L2.St} {env : Env} {fp : List Addr} {i : Nat}, OwnEnv K B H σ env fp → fp.Nodup → env[i]? = some (some o0) →
    ∃ v g, σ[i]? = some (some v) ∧ Own K B H v o0 g ∧ g.Nodup ∧ (∀ a ∈ g, a ∈ fp) ∧
      ∀ (B' H' : Hp) (o' : O) (g' : List Addr), Le B B' → (∀ a ∈ fp, a ∉ g → H' a = H a) → Own K B' H' v o' g' → g'.Nodup → (∀ a ∈ g', a ∈ fp → a ∈ g) →
        ∃ fp', OwnEnv K B' H' σ (env.set i (some o')) fp' ∧ fp'.Nodup ∧ ∀ a ∈ fp', (a ∈ fp ∧ a ∉ g) ∨ a ∈ g'
  | _, _, _, _, .nil, _, e => by simp at e
  | _, _, _, 0, .no t, _, e => by simp at e
  | _, _, _, 0, .raw t, _, e => by simp at e; exact (hr _ e.symm).elim
  | _, _, _, 0, .some (v := v) (f := f) (g := r) x t, nd, e => by
    simp at e; subst e
    obtain ⟨n1, n2, n3⟩ := List.nodup_append.mp nd
    refine ⟨v, f, rfl, x, n1, fun a m => List.mem_append_left _ m, fun B' H' o' g' l k w ng dj => ⟨g' ++ r, .some w (t.mono l fun a m => k a (List.mem_append_right _ m) fun z => n3 a z a m rfl), ?_, fun a m => ?_⟩⟩
    · refine List.nodup_append.mpr ⟨ng, n2, fun a m b m' e => ?_⟩
      subst e
      exact n3 a (dj a m (List.mem_append_right _ m')) a m' rfl
    · rcases List.mem_append.mp m with z | z
      · exact .inr z
      · exact .inl ⟨List.mem_append_right _ z, fun q => n3 a q a z rfl⟩
  | _, _, _, i + 1, .no t, nd, e => by
    obtain ⟨v, g, h1, h2, h3, h4, h5⟩ := ownEnv_put hr (i := i) t nd (by simpa using e)
    refine ⟨v, g, by simpa using h1, h2, h3, h4, fun B' H' o' g' l k w ng dj => ?_⟩
    obtain ⟨fp', q1, q2, q3⟩ := h5 B' H' o' g' l k w ng dj
    exact ⟨fp', .no q1, q2, q3⟩
  | _, _, _, i + 1, .raw t, nd, e => by
    obtain ⟨v, g, h1, h2, h3, h4, h5⟩ := ownEnv_put hr (i := i) t nd (by simpa using e)
    refine ⟨v, g, by simpa using h1, h2, h3, h4, fun B' H' o' g' l k w ng dj => ?_⟩
    obtain ⟨fp', q1, q2, q3⟩ := h5 B' H' o' g' l k w ng dj
    exact ⟨fp', .raw q1, q2, q3⟩
  | _, _, _, i + 1, .some (f := f) (g := r) x t, nd, e => by
    obtain ⟨n1, n2, n3⟩ := List.nodup_append.mp nd
    obtain ⟨v, g, h1, h2, h3, h4, h5⟩ := ownEnv_put hr (i := i) t n2 (by simpa using e)
    refine ⟨v, g, by simpa using h1, h2, h3, fun a m => List.mem_append_right _ (h4 a m), fun B' H' o' g' l k w ng dj => ?_⟩
    obtain ⟨fp', q1, q2, q3⟩ := h5 B' H' o' g' l (fun a m n => k a (List.mem_append_right _ m) n) w ng fun a m m' => dj a m (List.mem_append_right _ m')
    refine ⟨f ++ fp', .some (x.mono l fun a m => k a (List.mem_append_left _ m) fun z => n3 a m a (h4 a z) rfl) q1, List.nodup_append.mpr ⟨n1, q2, fun a m b m' e => ?_⟩, fun a m => ?_⟩
    · subst e
      rcases q3 a m' with ⟨z, _⟩ | z
      · exact n3 a m a z rfl
      · exact n3 a m a (h4 a (dj a z (List.mem_append_left _ m))) rfl
    · rcases List.mem_append.mp m with z | z
      · exact .inl ⟨List.mem_append_left _ z, fun q => n3 a z a (h4 a q) rfl⟩
      · exact (q3 a z).elim (fun ⟨z1, z2⟩ => .inl ⟨List.mem_append_right _ z1, z2⟩) .inr

/-- a name gets a result -/
theorem RR.asg {Hs : Hp} {r : R} (x : RR K G B env fp σ Hs) (e : Ext Hs B H B') (w : VOk K Hs fp B' H v r) (s : r.st) (i : Nat) : ∃ fp', RR K G B' (env.set i (some r.o)) fp' (σ.set i (some v)) H := by
  have y := x.ext e
  have main : ∀ g, Own K B' H v r.o g → g.Nodup → (∀ a ∈ g, Hs a = none ∧ B' a = none) → ∃ fp', RR K G B' (env.set i (some r.o)) fp' (σ.set i (some v)) H := fun g wg ng hg => by
    obtain ⟨fp', h1, h2, h3⟩ := ownEnv_set (Le.refl _) i y.own y.nd wg ng fun a m z => by
      obtain ⟨u, h⟩ := x.own.dom a z
      rw [(hg a m).1] at h; cases h
    exact ⟨fp', y.bh, y.gh, y.gb, h1, h2, fun a m => (h3 a m).elim (y.fb a) fun z => ⟨(hg a z).2, x.gh.none (hg a z).1⟩⟩
  cases r with
  | v d => exact main [] (.fro w) (by simp) fun a m => absurd m (by simp)
  | t o => obtain ⟨f, w, nf, hf⟩ := w; exact main f w nf hf
  | b o => exact s.elim
/-- a name's own thing changes -/
theorem RR.put {o0 : O} {i : Nat} (x : RR K G B env fp σ H) (hi : env[i]? = some (some o0)) (hr : ∀ a, o0 ≠ .raw a := by intro _ h; cases h) : ∃ v g, σ[i]? = some (some v) ∧ Own K B H v o0 g ∧ g.Nodup ∧ (∀ a ∈ g, a ∈ fp ∧ B a = none ∧ G a = none) ∧
    ∀ (B' H' : Hp) (o' : O) (g' : List Addr), Le B B' → Le B' H' → (∀ a o, a ∉ g → H a = some o → H' a = some o) → (∀ a o, H a = some o → a ∉ g → B a = none → B' a = none) → Own K B' H' v o' g' → g'.Nodup →
      (∀ a ∈ g', (a ∈ fp → a ∈ g) ∧ B' a = none ∧ G a = none) → ∃ fp', RR K G B' (env.set i (some o')) fp' σ H' := by
  obtain ⟨v, g, h1, h2, h3, h4, h5⟩ := ownEnv_put hr x.own x.nd hi
  refine ⟨v, g, h1, h2, h3, fun a m => ⟨h4 a m, x.fb a (h4 a m)⟩, fun B' H' o' g' l bh k nb w ng hg => ?_⟩
  have gn : ∀ a o, G a = some o → a ∉ g := fun a o q m => by rw [(x.fb a (h4 a m)).2] at q; cases q
  obtain ⟨fp', q1, q2, q3⟩ := h5 B' H' o' g' l (fun a m n => by
    obtain ⟨u, h⟩ := x.own.dom a m
    rw [h]; exact k a u n h) w ng fun a m m' => (hg a m).1 m'
  refine ⟨fp', bh, fun a o q => k a o (gn a o q) (x.gh a o q), fun a o q => nb a o (x.gh a o q) (gn a o q) (x.gb a o q), q1, q2, fun a m => ?_⟩
  rcases q3 a m with ⟨z1, z2⟩ | z
  · obtain ⟨u, h⟩ := x.own.dom a z1
    exact ⟨nb a u h z2 (x.fb a z1).1, (x.fb a z1).2⟩
  · exact (hg a z).2
/-- what a name holds is let be still -/
theorem RR.frz {o0 : O} {i : Nat} (x : RR K G B env fp σ H) (hi : env[i]? = some (some o0)) (hr : ∀ a, o0 ≠ .raw a) : ∃ B' fp', Le B B' ∧ RR K G B' (env.set i (some (.fro o0.frz))) fp' σ H := by
  obtain ⟨v, g, h1, h2, h3, h4, h5⟩ := x.put hi hr
  have l := addB_le g x.bh
  obtain ⟨fp', h⟩ := h5 (addB B H g) H (.fro o0.frz) [] l (addB_bh g x.bh) (fun _ _ _ h => h) (fun a o _ n z => by rw [addB_out n]; exact z)
    (.fro (h2.freeze l fun a m u q => by rw [addB_in m]; exact q)) (by simp) fun a m => absurd m (by simp)
  exact ⟨_, fp', l, h⟩
/-- a change beside all that is known -/
theorem RR.beside {a : Addr} {u : HO} (x : RR K G B env fp σ H) (h1 : a ∉ fp) (h2 : B a = none) (h3 : G a = none) : RR K G B env fp σ (upd H a u) where
  bh := fun b o q => by rw [upd_ne (ne_of_none q h2)]; exact x.bh b o q
  gh := fun b o q => by rw [upd_ne (ne_of_none q h3)]; exact x.gh b o q
  gb := x.gb
  own := x.own.mono (.refl _) fun b m => upd_ne fun e => h1 (e ▸ m)
  nd := x.nd
  fb := x.fb
end

section
variable {X : Cx} {W : WX} {G B B' : Hp} {d : En} {D : Ends} {st : Stmt} {rest : List Stmt} {m m1 m2 : WS} {σ σ' : L2.St} {e : Expr} {t : WE} {pos : Pos}
theorem SOk.later (x : SOk X W G B d D σ) (l : Le B B') : SOk X W G B' d D σ' where
  nx := fun σ H B2 env fp l2 => x.nx σ H B2 env fp (l.trans l2)
  bk := fun σ H B2 env fp l2 => x.bk σ H B2 env fp (l.trans l2)
  ct := fun σ H B2 env fp l2 => x.ct σ H B2 env fp (l.trans l2)
  rt := fun v H B2 r f l2 => x.rt v H B2 r f (l.trans l2)
  ex := fun n cls σ H B2 env fp l2 => x.ex n cls σ H B2 env fp (l.trans l2)
theorem RR.same {K : K0} {H H' : Hp} {env : Env} {fp : List Addr} (rr : RR K G B env fp σ H) (l : Le H H') : RR K G B env fp σ H' :=
  rr.ext ⟨l, .refl _, rr.bh.trans l, fun _ _ _ n => n⟩
theorem SOk.x {H : Hp} {env : Env} {fp : List Addr} (x : SOk X W G B d D σ) (rr : RR X.K G B env fp σ H) : XOk X.mg W H σ (fun n => d.ex n env) :=
  fun n cls H' en hm l => x.ex n cls σ H' B env fp (.refl _) (rr.same l) en hm
/-- a result goes out -/
theorem SOk.ret {H H' : Hp} {env : Env} {fp : List Addr} {v : V} {r : R} (x : SOk X W G B d D σ) (rr : RR X.K G B env fp σ H) (e : Ext H B H' B') (w : VOk X.K H fp B' H' v r) (q : d.rt r.out) : D.rt v H' := by
  have y := rr.ext e
  cases r with
  | v z => exact x.rt v H' B' (.v z) [] e.le y.bh y.gh y.gb (by simp) (by simp) w q
  | t o =>
    obtain ⟨f, w, nf, hf⟩ := w
    exact x.rt v H' B' (.t o) f e.le y.bh y.gh y.gb (fun a m => ⟨(hf a m).2, rr.gh.none (hf a m).1⟩) nf w q
  | b o =>
    obtain ⟨f, w, hs⟩ := w
    exact x.rt v H' B' (.t o) f e.le y.bh y.gh y.gb (fun a m => y.fb a (hs.subset m)) (y.nd.sublist hs) w q

/-! ### blocks -/
def wNil : WS := fun D env => D.nx env
def wSq (s r : WS) : WS := fun D env => ∃ J : Env → Prop, s { D with nx := J } env ∧ ∀ e, J e → r D e
theorem wSq_of {s r : WS} {D : En} {env : Env} (h : s { D with nx := r D } env) : wSq s r D env := ⟨_, h, fun _ h => h⟩
theorem dss_nil : DSs X W G [] wNil := PSsi pss_nil fun D σ H ⟨B, env, fp, d, rr, hm, x⟩ => x.nx σ H B env fp (.refl _) rr hm
theorem dss_cons (h1 : DS X W G st m1) (h2 : DSs X W G rest m2) : DSs X W G (st :: rest) (wSq m1 m2) := by
  refine PSsi (pss_cons h1 h2) fun D σ H ⟨B, env, fp, d, rr, ⟨J, hm, hj⟩, x⟩ => ?_
  refine ⟨B, env, fp, { d with nx := J }, rr, hm, ⟨fun σ' H' B' env' fp' l rr' j => ?_, x.bk, x.ct, x.rt, x.ex⟩⟩
  exact ⟨B', env', fp', d, rr', hj _ j, x.later l⟩
theorem dss_one (h1 : DS X W G st m) : DSs X W G [st] m := pss_one h1
/-- names whose things are let be still ahead of a statement -/
def frzAt (env : Env) (i : Nat) : Env := match env[i]? with
  | some (some (.raw _)) => env
  | some (some o) => env.set i (some (.fro o.frz))
  | _ => env
def wFrz (is : List Nat) (s : WS) : WS := fun D env => s D (is.foldl frzAt env)
theorem RR.frzAll {K : K0} {H : Hp} : ∀ (is : List Nat) {env : Env} {fp : List Addr} {B : Hp}, RR K G B env fp σ H → ∃ B' fp', Le B B' ∧ RR K G B' (is.foldl frzAt env) fp' σ H
  | [], _, fp, B, x => ⟨B, fp, .refl _, x⟩
  | i :: is, env, fp, B, x => by
    have one : ∃ B' fp', Le B B' ∧ RR K G B' (frzAt env i) fp' σ H := by
      unfold frzAt
      split
      · exact ⟨B, fp, .refl _, x⟩
      · rename_i o hr e
        exact x.frz e fun a q => hr a q
      · exact ⟨B, fp, .refl _, x⟩
    obtain ⟨B1, f1, l1, x1⟩ := one
    obtain ⟨B2, f2, l2, x2⟩ := RR.frzAll is x1
    exact ⟨B2, f2, l1.trans l2, x2⟩
theorem ds_frz (is : List Nat) (h : DS X W G st m) : DS X W G st (wFrz is m) := PSi h fun D σ H ⟨B, env, fp, d, rr, hm, x⟩ => by
  obtain ⟨B', fp', l, y⟩ := rr.frzAll is
  exact ⟨B', _, fp', d, y, hm, x.later l⟩

/-! ### small statements -/
def wPass : WS := fun D env => D.nx env
def wBrk : WS := fun D env => D.bk env
def wCnt : WS := fun D env => D.ct env
theorem ds_pass : DS X W G (.Pass pos) wPass := PSi ps_pass fun D σ H ⟨B, env, fp, d, rr, hm, x⟩ => x.nx σ H B env fp (.refl _) rr hm
theorem ds_break : DS X W G (.Break pos) wBrk := PSi ps_break fun D σ H ⟨B, env, fp, d, rr, hm, x⟩ => x.bk σ H B env fp (.refl _) rr hm
theorem ds_continue : DS X W G (.Continue pos) wCnt := PSi ps_continue fun D σ H ⟨B, env, fp, d, rr, hm, x⟩ => x.ct σ H B env fp (.refl _) rr hm
def wRet (t : WE) : WS := fun D env => t env (fun r => D.rt r.out) (fun n => D.ex n env)
def wRetN : WS := fun D _ => D.rt (.v .none)
theorem ds_ret (h : DE X W G e t) : DS X W G (.Return (some e) pos) (wRet t) := PSi (ps_ret h) fun D σ H ⟨B, env, fp, d, rr, hm, x⟩ =>
  ⟨B, env, fp, _, _, rr, hm, fun v H' B' r e' w q => x.ret rr e' w q, x.x rr⟩
theorem ds_retN : DS X W G (.Return none pos) wRetN := PSi ps_retN fun D σ H ⟨B, env, fp, d, rr, hm, x⟩ =>
  x.rt .non H B (.v .none) [] (.refl _) rr.bh rr.gh rr.gb (by simp) (by simp) .non hm
def wAsg (i : Nat) (t : WE) : WS := fun D env => t env (fun r => r.st ∧ D.nx (env.set i (some r.o))) (fun n => D.ex n env)
theorem asg_ok {i : Nat} {te : TE} (ht : ∀ σ H QV, tD X W G t σ H QV → te σ H QV) (H : Hp) (h : tDS X W G (wAsg i t) D σ H) : tAsg te (gName i) D σ H := by
  obtain ⟨B, env, fp, d, rr, hm, x⟩ := h
  refine ht σ H _ ⟨B, env, fp, _, _, rr, hm, fun v H' B' r e' w ⟨s, q⟩ => ?_, x.x rr⟩
  obtain ⟨fp', y⟩ := rr.asg e' w s i
  exact x.nx _ H' B' _ fp' e'.le y q
theorem ds_set {i : Nat} {y : Str} {pos' : Pos} (hN : X.N.Nodup) (hi : X.N[i]? = some y) (hx : Loc X.env.scope y) (he : DE X W G e t) (hs : swapsWith e (some (.Name y pos')) pos.line X.env = pure false)
    (hf : X.fn y = true ∨ X.env.scope.names.lookup y = some .local) : DS X W G (.Assign [.Name y pos'] e pos) (wAsg i t) :=
  PSi (ps_set hN hi hx he hs hf) fun D σ H h => asg_ok (fun _ _ _ h => h) H h
/-- .. to be still from here on -/
def wLet (i : Nat) (t : WE) : WS := fun D env => t env (fun r => r.st ∧ D.nx (env.set i (some (.fro r.d)))) (fun n => D.ex n env)
theorem let_ok {i : Nat} {te : TE} (ht : ∀ σ H QV, tD X W G t σ H QV → te σ H QV) (H : Hp) (h : tDS X W G (wLet i t) D σ H) : tAsg te (gName i) D σ H := by
  obtain ⟨B, env, fp, d, rr, hm, x⟩ := h
  refine ht σ H _ ⟨B, env, fp, _, _, rr, hm, fun v H' B' r e' w ⟨s, q⟩ => ?_, x.x rr⟩
  obtain ⟨B2, e2, l2, rp⟩ := w.keep e' s
  obtain ⟨fp', y⟩ := rr.asg (r := .v r.d) e2 rp True.intro i
  exact x.nx _ H' B2 _ fp' e2.le y q
theorem ds_let {i : Nat} {y : Str} {pos' : Pos} (hN : X.N.Nodup) (hi : X.N[i]? = some y) (hx : Loc X.env.scope y) (he : DE X W G e t) (hs : swapsWith e (some (.Name y pos')) pos.line X.env = pure false)
    (hf : X.fn y = true ∨ X.env.scope.names.lookup y = some .local) : DS X W G (.Assign [.Name y pos'] e pos) (wLet i t) :=
  PSi (ps_set hN hi hx he hs hf) fun D σ H h => let_ok (fun _ _ _ h => h) H h
/-- an expression alone -/
def wExp (t : WE) : WS := fun D env => t env (fun _ => D.nx env) (fun n => D.ex n env)
theorem ds_expr (he : DE X W G e t) (hs : swapsWith e none pos.line X.env = pure false) : DS X W G (.Expr e pos) (wExp t) :=
  PSi (ps_expr he hs) fun D σ H ⟨B, env, fp, d, rr, hm, x⟩ => ⟨B, env, fp, _, _, rr, hm, fun v H' B' r e' w q => x.nx _ H' B' env fp e'.le (rr.ext e') q, x.x rr⟩
def wIf (c : WT) (a b : WS) : WS := fun D env => c env (fun k => if k = true then a D env else b D env) (fun n => D.ex n env)
theorem ds_if {c : Expr} {a b : List Stmt} {tc : WT} (hc : DT X W G c tc) (ha : DSs X W G a m1) (hb : DSs X W G b m2) : DS X W G (.If c a b pos) (wIf tc m1 m2) := by
  refine PSi (ps_if hc ha hb) fun D σ H ⟨B, env, fp, d, rr, hm, x⟩ => ?_
  refine ⟨B, env, fp, _, _, rr, hm, fun k H' B' e' q => ?_, x.x rr⟩
  cases k with
  | true => rw [if_pos rfl] at q ⊢; exact ⟨B', env, fp, d, rr.ext e', q, x.later e'.le⟩
  | false => rw [if_neg (by simp)] at q ⊢; exact ⟨B', env, fp, d, rr.ext e', q, x.later e'.le⟩
/-- n += e, ints -/
def wAug (i : Nat) (t : WE) : WS := fun D env => ∃ k, env[i]? = some (some (.fro (.int k))) ∧ t env (fun r => ∃ j, r.d = .int j ∧ D.nx (env.set i (some (.fro (.int (k + j)))))) (fun n => D.ex n env)
theorem ip_addI : PIp X .Add (fun x y H Q => ∃ i j, x = .int i ∧ y = .int j ∧ Q (.int (i + j)) H) := iop_add
theorem ds_aug {i : Nat} {y : Str} {pos' : Pos} (hN : X.N.Nodup) (hi : X.N[i]? = some y) (hx : Loc X.env.scope y) (he : DE X W G e t)
    (hf : X.fn y = true ∨ X.env.scope.names.lookup y = some .local) : DS X W G (.AugAssign (.Name y pos') .Add e pos) (wAug i t) := by
  refine PSi (ps_aug hN hi hx he ip_addI hf) fun D σ H ⟨B, env, fp, d, rr, ⟨k, h0, hm⟩, x⟩ => ?_
  obtain ⟨v, g, h1, h2, h3⟩ := rr.own.get h0
  refine ⟨v, h1, B, env, fp, _, _, rr, hm, fun u H' B' r e' w ⟨j, q2, q3⟩ => ?_, x.x rr⟩
  cases h2 with
  | fro rk =>
    have hj := w.now e'
    rw [q2] at hj
    refine ⟨k, j, rk.int_inv, hj.int_inv, ?_⟩
    obtain ⟨fp', y⟩ := rr.asg (v := .int (k + j)) (r := .v (.int (k + j))) e' (.int _) True.intro i
    exact x.nx _ H' B' _ fp' e'.le y q3
/-- raise X('..') -/
def wRaise (n : Str) : WS := fun D env => D.ex n env
theorem ds_raise {n : Str} {C : Addr} (hc : X.calm = true) (tk : Takes X W) (gC : X.mg n = some (.ref C)) (he : PMk X e (fun _ H Q => Q (.ref C) none H)) : DS X W G (.Raise (some e) none pos) (wRaise n) :=
  PSi (ps_raise hc tk he) fun D σ H ⟨B, env, fp, d, rr, hm, x⟩ => x.ex n (.ref C) σ H B env fp (.refl _) rr hm gC
end
end DL

set_option Elab.async false
set_option linter.all false
set_option maxRecDepth 100000
set_option maxHeartbeats 1000000
/-! DL8: changes of own things, targets, loops, comprehensions over data. -/
namespace DL
open PySem L2 PyProof.Rows

/-! ### own lists and dicts changed at a name -/
section
variable {X : Cx} {W : WX} {G : Hp} {e : Expr} {t : WE} {pos : Pos}
theorem own_ref {K : K0} {B H : Hp} {v : V} {o : O} {g : List Addr} (x : Own K B H v o g) : (∃ d, o = .fro d) ∨ ∃ a, v = .ref a ∧ a ∈ g := by
  cases x with
  | fro r => exact .inl ⟨_, rfl⟩
  | lst h r => exact .inr ⟨_, rfl, by simp⟩
  | dic h r => exact .inr ⟨_, rfl, by simp⟩
  | lsts h r => exact .inr ⟨_, rfl, by simp⟩
/-- what an append makes of an own thing -/
def appO : O → R → (O → Prop) → Prop
  | .lst ds, r, Q => ds.length < sizeLine ∧ Q (.lst (ds ++ [r.d]))
  | .lsts os, r, Q => os.length < sizeLine ∧ Q (.lsts (os ++ [r.o]))
  | _, _, _ => False
def isLst : O → Prop
  | .lst _ => True
  | .lsts _ => True
  | _ => False
@[simp] theorem isLst_lst (ds : List D) : isLst (.lst ds) = True := rfl
@[simp] theorem isLst_lsts (ds : List O) : isLst (.lsts ds) = True := rfl
@[simp] theorem appO_lst (ds : List D) (r : R) (Q : O → Prop) : appO (.lst ds) r Q = (ds.length < sizeLine ∧ Q (.lst (ds ++ [r.d]))) := rfl
@[simp] theorem appO_lsts (os : List O) (r : R) (Q : O → Prop) : appO (.lsts os) r Q = (os.length < sizeLine ∧ Q (.lsts (os ++ [r.o]))) := rfl
def wApp (i : Nat) (t : WE) : WS := fun D env => ∃ o, env[i]? = some (some o) ∧ isLst o ∧ t env (fun r => r.st ∧ appO o r fun o' => D.nx (env.set i (some o'))) (fun n => D.ex n env)
theorem upd_keep {H : Hp} {a b : Addr} {u o : HO} (h : H b = some o) (n : b ≠ a) : upd H a u b = some o := by rw [upd_ne n]; exact h
/-- a temp's addresses are none of the frame's -/
theorem RR.apart {K : K0} {B Hs : Hp} {env : Env} {fp g : List Addr} {σ : L2.St} {B' : Hp} (x : RR K G B env fp σ Hs) (h : ∀ a ∈ g, Hs a = none ∧ B' a = none) : ∀ a ∈ g, a ∉ fp ∧ B' a = none ∧ G a = none := fun a m =>
  ⟨fun z => (x.own.dom a z).elim fun u hu => (by rw [(h a m).1] at hu; cases hu), (h a m).2, x.gh.none (h a m).1⟩
theorem app_core {B H Hs Bs : Hp} {env : Env} {fp : List Addr} {σ : L2.St} {D : Ends} {d : En} {r : R} {v : V} {i : Nat} {o : O} (rr0 : RR X.K G Bs env fp σ Hs) (e' : Ext Hs Bs H B) (w : VOk X.K Hs fp B H v r) (s : r.st) (x : SOk X W G Bs d D σ)
    (hi : env[i]? = some (some o)) (ha : appO o r fun o' => d.nx (env.set i (some o'))) :
    ∃ vi, σ[i]? = some (some vi) ∧ rAppend vi [v] H (fun _ H1 => D.nx σ H1) := by
  have rr := rr0.ext e'
  cases o with
  | lst ds =>
    obtain ⟨B2, e2, l2, rp⟩ := w.keep e' s
    have rr2 := rr0.ext e2
    obtain ⟨vi, g, h1, h2, h3, h4, h5⟩ := rr2.put hi
    cases h2 with
    | @lst a vs _ hl rl =>
      refine ⟨_, h1, a, vs, v, rfl, rfl, hl, by rw [rl.length]; exact ha.1, ?_⟩
      have na : B2 a = none := (h4 a (by simp)).2.1
      obtain ⟨fp', y⟩ := h5 B2 (upd H a (.lst (vs ++ [v]))) (.lst (ds ++ [r.d])) [a] (.refl _)
        (fun b u q => upd_keep (rr2.bh b u q) (ne_of_none q na)) (fun b u n q => upd_keep q fun z => n (by simp [z])) (fun _ _ _ _ q => q)
        (.lst upd_same (rl.append (.one rp))) (by simp) (fun b m => ⟨fun _ => m, (h4 b m).2⟩)
      exact x.nx σ _ B2 _ fp' e2.le y ha.2
  | lsts os =>
    obtain ⟨vi, g, h1, h2, h3, h4, h5⟩ := rr.put hi
    cases h2 with
    | @lsts a vs _ f hl rl =>
      refine ⟨_, h1, a, vs, v, rfl, rfl, hl, by rw [rl.length]; exact ha.1, ?_⟩
      have na : B a = none := (h4 a (by simp)).2.1
      have key : ∀ g', Own X.K B H v r.o g' → g'.Nodup → (∀ b ∈ g', b ∉ fp ∧ B b = none ∧ G b = none) → D.nx σ (upd H a (.lst (vs ++ [v]))) := fun g' wg ng hg => by
        have dj : ∀ b ∈ g', b ∉ a :: f := fun b m z => (hg b m).1 (h4 b z).1
        have nd2 : (a :: (f ++ g')).Nodup := by
          obtain ⟨n1, n2⟩ := List.nodup_cons.mp h3
          refine List.nodup_cons.mpr ⟨fun m => ?_, List.nodup_append.mpr ⟨n2, ng, fun b m c m' e => dj c m' (e ▸ List.mem_cons_of_mem _ m)⟩⟩
          rcases List.mem_append.mp m with m | m
          · exact n1 m
          · exact dj a m List.mem_cons_self
        have hne : ∀ b ∈ f ++ g', upd H a (.lst (vs ++ [v])) b = H b := fun b m => upd_ne fun z => by
          subst z
          exact (List.nodup_cons.mp nd2).1 m
        have t1 := rl.mono (H' := upd H a (.lst (vs ++ [v]))) (Le.refl B) fun b m => hne b (List.mem_append_left _ m)
        have t2 := wg.mono (H' := upd H a (.lst (vs ++ [v]))) (Le.refl B) fun b m => hne b (List.mem_append_right _ m)
        have t3 := t1.append (OwnAll.cons t2 .nil)
        rw [List.append_nil] at t3
        obtain ⟨fp', y⟩ := h5 B (upd H a (.lst (vs ++ [v]))) (.lsts (os ++ [r.o])) (a :: (f ++ g')) (.refl _)
          (fun b u q => upd_keep (rr.bh b u q) (ne_of_none q na)) (fun b u n q => upd_keep q fun z => n (by simp [z])) (fun _ _ _ _ q => q)
          (.lsts upd_same t3) nd2 (fun b m => by
            rcases List.mem_cons.mp m with z | z
            · subst z; exact ⟨fun _ => List.mem_cons_self, (h4 b List.mem_cons_self).2⟩
            · rcases List.mem_append.mp z with z | z
              · exact ⟨fun _ => List.mem_cons_of_mem _ z, (h4 b (List.mem_cons_of_mem _ z)).2⟩
              · exact ⟨fun q => absurd q (hg b z).1, (hg b z).2⟩)
        exact x.nx σ _ B _ fp' e'.le y ha.2
      cases r with
      | v d => exact key [] (.fro w) (by simp) fun b m => absurd m (by simp)
      | t o => obtain ⟨g', w, ng, hg⟩ := w; exact key g' w ng (rr0.apart hg)
      | b o => exact s.elim
  | _ => exact (show False from ha).elim
/-- x.append(e), x a name -/
theorem ds_app {i : Nat} {ob : Expr} {apos cpos : Pos} (ho : PE X ob (tVar i)) (he : DE X W G e t)
    (hbase : attributeBase ob "append" X.env (eval ob X.env) = eval ob X.env)
    (hfew : ((backTo cpos (starEach [e] X.env)).all (fun x => !x.1) && (backToKw cpos (keywordEach [] X.env)).all (fun x => x.1.isSome)
      && decide ([e].length + ([] : List Keyword).length + (if ([] : List Keyword).isEmpty then 0 else 1) < 30)) = true)
    (hline : (apos.endLine == cpos.line) = true) (hs : starEach [e] X.env = (false, eval e X.env) :: starEach [] X.env) (hplain : (backTo cpos (starEach [] X.env)).any (·.1) = false)
    (hsw : swapsWith (.Call (.Attribute ob "append" apos) [e] [] cpos) none pos.line X.env = pure false) :
    DS X W G (.Expr (.Call (.Attribute ob "append" apos) [e] [] cpos) pos) (wApp i t) := by
  refine PSi (ps_expr (pe_bm PySem.F.plainAttrs_list PySem.F.slot_list_append PySem.F.type_list_append mt_append ho (pa_cons he pa_nil hs) hbase hfew hline hs hplain) hsw) fun D σ H ⟨B, env, fp, d, rr, ⟨o, hi, hl, hm⟩, x⟩ => ?_
  obtain ⟨v, g, h1, h2, h3⟩ := rr.own.get hi fun a q => by subst q; exact hl
  have ty : tyV X.K "list" v H := by
    cases h2 with
    | lst h r => exact .inl ⟨rfl, _, .inl (.inl h)⟩
    | lsts h r => exact .inl ⟨rfl, _, .inl (.inl h)⟩
    | _ => exact hl.elim
  refine ⟨v, h1, ty, B, env, fp, _, _, rr, hm, fun u H' B' r e' w ⟨s, q⟩ => ?_, x.x rr⟩
  obtain ⟨vi, z1, z2⟩ := app_core rr e' w s x hi q
  rw [h1] at z1
  cases z1
  exact z2
end
end DL

set_option Elab.async false
set_option linter.all false
set_option maxRecDepth 100000
set_option maxHeartbeats 1000000
/-! DL9: targets, what is walked, loops, comprehensions over data. -/
namespace DL
open PySem L2 PyProof.Rows

/-! ### targets -/
abbrev WG := D → Env → (Env → Prop) → Prop
abbrev WGs := List D → Env → (Env → Prop) → Prop
/-- the slots outside vs are as they were -/
def Touch (vs : List Nat) (σ σ' : L2.St) : Prop := σ'.length = σ.length ∧ ∀ i, i ∉ vs → σ'[i]? = σ[i]?
theorem Touch.refl (vs : List Nat) (σ : L2.St) : Touch vs σ σ := ⟨rfl, fun _ _ => rfl⟩
theorem Touch.trans {vs : List Nat} {a b c : L2.St} (h : Touch vs a b) (g : Touch vs b c) : Touch vs a c := ⟨g.1.trans h.1, fun i n => (g.2 i n).trans (h.2 i n)⟩
theorem wipe_get : ∀ (vs : List Nat) (σ : L2.St) (i : Nat), (wipe σ vs)[i]? = if i ∈ vs then (if i < σ.length then some none else none) else σ[i]?
  | [], σ, i => by simp [wipe]
  | v :: vs, σ, i => by
    unfold wipe
    have ih := wipe_get vs σ i
    by_cases h : v = i
    · subst h
      rw [if_pos List.mem_cons_self]
      by_cases hl : v < σ.length
      · rw [List.getElem?_set_self (by rw [wipe_length]; exact hl), if_pos hl]
      · rw [if_neg hl, List.getElem?_eq_none (by rw [List.length_set, wipe_length]; omega)]
    · rw [List.getElem?_set_ne h, ih]
      have : i ∈ v :: vs ↔ i ∈ vs := by simp [Ne.symm h]
      simp only [this]
theorem Touch.wipe {vs : List Nat} {σ σ' : L2.St} (h : Touch vs σ σ') : L2.wipe σ' vs = L2.wipe σ vs := by
  apply List.ext_getElem?
  intro i
  rw [wipe_get, wipe_get, h.1]
  split
  · rfl
  · rename_i n; exact h.2 i n

section
variable (X : Cx) (G : Hp)
def tDG (vs : List Nat) (g : WG) : TG := fun v σ H QV => ∃ B env fp d Q, RR X.K G B env fp σ H ∧ Rep X.K B v d ∧ g d env Q ∧ ∀ σ' env' fp', RR X.K G B env' fp' σ' H → Touch vs σ σ' → Q env' → QV σ' H
def tDGs (vs : List Nat) (g : WGs) : TGs := fun us σ H QV => ∃ B env fp ds Q, RR X.K G B env fp σ H ∧ RepAll X.K B us ds ∧ g ds env Q ∧ ∀ σ' env' fp', RR X.K G B env' fp' σ' H → Touch vs σ σ' → Q env' → QV σ' H
def DG (vs : List Nat) (tg : Expr) (g : WG) : Prop := PG X tg (tDG X G vs g)
def DGs (vs : List Nat) (ts : List Expr) (g : WGs) : Prop := PGs X ts (tDGs X G vs g)
end
def gN (i : Nat) : WG := fun d env Q => Q (env.set i (some (.fro d)))
def gsN : WGs := fun ds env Q => ds = [] ∧ Q env
def gsC (g : WG) (r : WGs) : WGs := fun ds env Q => ∃ d ds', ds = d :: ds' ∧ g d env fun env' => r ds' env' Q
def gT (n : Nat) (g : WGs) : WG := fun d env Q => ∃ ds, d = .tuple ds ∧ ds.length = n ∧ g ds env Q
section
variable {X : Cx} {G : Hp} {vs : List Nat} {e : Expr} {es : List Expr} {g : WG} {gs : WGs} {pos : Pos}
theorem PGi {t t' : TG} (h : PG X e t) (f : ∀ v σ H Q, t' v σ H Q → t v σ H Q) : PG X e t' := ⟨fun pins s σ H v u Q I r w => h.run pins s σ H v u Q I r (f v σ H Q w)⟩
theorem PGsi {t t' : TGs} (h : PGs X es t) (f : ∀ v σ H Q, t' v σ H Q → t v σ H Q) : PGs X es t' := ⟨fun pins s σ H v u Q I r w => h.run pins s σ H v u Q I r (f v σ H Q w)⟩
theorem dg_name {i : Nat} {x : Str} (hv : i ∈ vs) (hN : X.N.Nodup) (hi : X.N[i]? = some x) (hx : Loc X.env.scope x) (hf : X.fn x = true ∨ X.env.scope.names.lookup x = some .local) : DG X G vs (.Name x pos) (gN i) := by
  refine PGi (pg_name hN hi hx hf) fun v σ H QV ⟨B, env, fp, d, Q, rr, rp, hm, hq⟩ => ?_
  obtain ⟨fp', y⟩ := rr.asg (r := .v d) (.refl rr.bh) rp True.intro i
  refine hq _ _ fp' y ⟨by simp, fun j n => ?_⟩ hm
  rw [List.getElem?_set_ne]
  intro q; subst q; exact n hv
theorem dgs_nil : DGs X G vs [] gsN := PGsi pgs_nil fun us σ H QV ⟨B, env, fp, ds, Q, rr, rp, ⟨e, hm⟩, hq⟩ => by
  subst e
  cases rp
  exact ⟨rfl, hq σ env fp rr (.refl _ _) hm⟩
theorem dgs_cons (h1 : DG X G vs e g) (h2 : DGs X G vs es gs) (hs : (assignEach (e :: es) X.env).map (·.2) = assign e X.env :: (assignEach es X.env).map (·.2)) : DGs X G vs (e :: es) (gsC g gs) := by
  refine PGsi (pgs_cons h1 h2 hs) fun us σ H QV ⟨B, env, fp, ds, Q, rr, rp, ⟨d, ds', e1, hm⟩, hq⟩ => ?_
  subst e1
  cases rp with
  | cons r t =>
    refine ⟨_, _, rfl, B, env, fp, d, _, rr, r, hm, fun σ1 env1 fp1 rr1 t1 q1 => ?_⟩
    exact ⟨B, env1, fp1, ds', Q, rr1, t, q1, fun σ2 env2 fp2 rr2 t2 q2 => hq σ2 env2 fp2 rr2 (t1.trans t2) q2⟩
theorem dg_tup {k n : Nat} (hc : X.calm = true) (h : DGs X G vs es gs) (hn : (assignEach es X.env).length = n) (hst : (assignEach es X.env).findIdx? (·.1) = none) : DG X G vs (.Tuple es k pos) (gT n gs) := by
  refine PGi (pg_tup hc h hn hst) fun v σ H QV ⟨B, env, fp, d, Q, rr, rp, ⟨ds, e1, hl, hm⟩, hq⟩ => ?_
  subst e1
  obtain ⟨a, us, ev, s, t⟩ := rp.tup_inv
  exact ⟨a, us, ev, rr.bh.sqT s, by rw [t.length]; exact hl, B, env, fp, ds, Q, rr, t, hm, hq⟩
end

/-! ### what is walked -/
/-- the iterator J gives the things ds, one by one -/
structure Walk (K : K0) (B : Hp) (J : It) (ds : List D) : Prop where
  go : ∀ i H B1, Le B B1 → Le B1 H → i < ds.length → J.go i H
  stop : ∀ i H B1, Le B B1 → Le B1 H → ds.length ≤ i → J.stop i H
  yld : ∀ i H x H' B1, i < ds.length → Le B B1 → Le B1 H → J.yld i H x H' → ∃ d B2, ds[i]? = some d ∧ Ext H B1 H' B2 ∧ Rep K B2 x d
/-- .. while all that stood at its begin stands -/
structure WalkH (K : K0) (B H0 : Hp) (J : It) (ds : List D) : Prop where
  go : ∀ i H B1, Le B B1 → Le B1 H → Le H0 H → i < ds.length → J.go i H
  stop : ∀ i H B1, Le B B1 → Le B1 H → Le H0 H → ds.length ≤ i → J.stop i H
  yld : ∀ i H x H' B1, i < ds.length → Le B B1 → Le B1 H → Le H0 H → J.yld i H x H' → ∃ d B2, ds[i]? = some d ∧ Ext H B1 H' B2 ∧ Rep K B2 x d
theorem Walk.toH {K : K0} {B H0 : Hp} {J : It} {ds : List D} (w : Walk K B J ds) : WalkH K B H0 J ds :=
  ⟨fun i H B1 l1 l2 _ h => w.go i H B1 l1 l2 h, fun i H B1 l1 l2 _ h => w.stop i H B1 l1 l2 h, fun i H x H' B1 h l1 l2 _ y => w.yld i H x H' B1 h l1 l2 y⟩
abbrev WI := Env → (List D → Prop) → (Str → Prop) → Prop
section
variable (X : Cx) (W : WX) (G : Hp)
def tDI (m : WI) : TI := fun σ H R => ∃ B env fp Q E, RR X.K G B env fp σ H ∧ m env Q E ∧ (∀ J H' B' ds, Ext H B H' B' → Walk X.K B' J ds → Q ds → R J H') ∧ XOk X.mg W H σ E
def DI (tg iter : Expr) (m : WI) : Prop := PI X tg iter (tDI X W G m)
end
section
variable {X : Cx} {W : WX} {G : Hp} {tg iter e a b : Expr} {m ma mb : WE} {pos : Pos}
def tDIc (X : Cx) (W : WX) (G : Hp) (m : WI) : TI := fun σ H R => ∃ B env fp Q E, RR X.K G B env fp σ H ∧ m env Q E ∧ (∀ J H' B' ds, Ext H B H' B' → WalkH X.K B' H' J ds → Q ds → R J H') ∧ XOk X.mg W H σ E
def DIc (X : Cx) (W : WX) (G : Hp) (tg iter : Expr) (m : WI) : Prop := PI X tg iter (tDIc X W G m)
theorem PIi {t t' : TI} (h : PI X tg iter t) (f : ∀ σ H Q, t' σ H Q → t σ H Q) : PI X tg iter t' := ⟨fun pins s σ H R I w => h.run pins s σ H R I (f σ H R w)⟩
theorem walk_list {K : K0} {B : Hp} {a : Addr} {vs : List V} {ds : List D} (s : SqL K B a vs) (r : RepAll K B vs ds) : Walk K B (Itl K a) ds where
  go := fun i H B1 l1 l2 h => by
    have hl : i < vs.length := by rw [r.length]; exact h
    exact ⟨vs, vs[i], (l1.trans l2).sqL s, by simp [hl]⟩
  stop := fun i H B1 l1 l2 h => ⟨vs, (l1.trans l2).sqL s, by rw [r.length]; exact h⟩
  yld := fun i H x H' B1 hlt l1 l2 ⟨e, y⟩ => by
    subst e
    obtain ⟨d, h1, h2⟩ := r.getV (y vs ((l1.trans l2).sqL s))
    exact ⟨d, B1, h1, .refl l2, h2.mono l1⟩
theorem walk_tup {K : K0} {B : Hp} {a : Addr} {vs : List V} {ds : List D} (s : SqT K B a vs) (r : RepAll K B vs ds) : Walk K B (Itt K a) ds where
  go := fun i H B1 l1 l2 h => by
    have hl : i < vs.length := by rw [r.length]; exact h
    exact ⟨vs, vs[i], (l1.trans l2).sqT s, by simp [hl]⟩
  stop := fun i H B1 l1 l2 h => ⟨vs, (l1.trans l2).sqT s, by rw [r.length]; exact h⟩
  yld := fun i H x H' B1 hlt l1 l2 ⟨e, y⟩ => by
    subst e
    obtain ⟨d, h1, h2⟩ := r.getV (y vs ((l1.trans l2).sqT s))
    exact ⟨d, B1, h1, .refl l2, h2.mono l1⟩
def rgD (lo : Int) (n : Nat) : List D := (List.range n).map fun (i : Nat) => .int (lo + (i : Int))
theorem rgD_len (lo : Int) (n : Nat) : (rgD lo n).length = n := by simp [rgD]
theorem walk_range {K : K0} {B : Hp} (lo : Int) (n : Nat) : Walk K B (Itr lo n) (rgD lo n) where
  go := fun i H B1 l1 l2 h => by rw [rgD_len] at h; exact h
  stop := fun i H B1 l1 l2 h => by rw [rgD_len] at h; exact h
  yld := fun i H x H' B1 hlt l1 l2 y => by
    obtain ⟨e1, e2⟩ := y
    subst e1 e2
    rw [rgD_len] at hlt
    exact ⟨.int (lo + (i : Int)), B1, by unfold rgD; rw [List.getElem?_map, List.getElem?_range hlt]; rfl, .refl l2, .int _⟩
/-- a list: still -/
def wiL (t : WE) : WI := fun env Q E => t env (fun r => r.st ∧ ∃ ds, r.d = .list ds ∧ Q ds) E
def wiT (t : WE) : WI := fun env Q E => t env (fun r => ∃ ds, r.d = .tuple ds ∧ Q ds) E
theorem dic_of {m : WI} (h : DI X W G tg iter m) : DIc X W G tg iter m := PIi h fun σ H R ⟨B, env, fp, Q, E, rr, hm, hq, hx⟩ => ⟨B, env, fp, Q, E, rr, hm, fun J H' B' ds e w q => hq J H' B' ds e w.toH q, hx⟩
theorem walkH_list {K : K0} {B H0 : Hp} {a : Addr} {vs : List V} {ds : List D} (s : SqL K H0 a vs) (r : RepAll K B vs ds) : WalkH K B H0 (Itl K a) ds where
  go := fun i H B1 l1 l2 l3 h => by
    have hl : i < vs.length := by rw [r.length]; exact h
    exact ⟨vs, vs[i], l3.sqL s, by simp [hl]⟩
  stop := fun i H B1 l1 l2 l3 h => ⟨vs, l3.sqL s, by rw [r.length]; exact h⟩
  yld := fun i H x H' B1 hlt l1 l2 l3 ⟨e, y⟩ => by
    subst e
    obtain ⟨d, h1, h2⟩ := r.getV (y vs (l3.sqL s))
    exact ⟨d, B1, h1, .refl l2, h2.mono l1⟩
/-- a list that is looked at -/
def wiLB (t : WE) : WI := fun env Q E => t env (fun r => r.sh ∧ ∃ ds, r.d = .list ds ∧ Q ds) E
theorem dic_listB (h : DE X W G e m) : DIc X W G tg e (wiLB m) := by
  refine PIi (pi_list h) fun σ H R ⟨B, env, fp, Q, E, rr, hm, hq, hx⟩ => ?_
  refine ⟨B, env, fp, _, E, rr, hm, fun v H1 B1 r e1 w ⟨s, ds, ed, q⟩ => ?_, hx⟩
  obtain ⟨B2, e2, l2, rp⟩ := w.view e1 s
  rw [ed] at rp
  obtain ⟨a, vs, ev, sv, t⟩ := rp.list e2.bh
  exact ⟨a, ev, ⟨vs, sv⟩, hq _ H1 B2 ds e2 (walkH_list sv t) q⟩
theorem di_list (h : DE X W G e m) : DI X W G tg e (wiL m) := by
  refine PIi (pi_list h) fun σ H R ⟨B, env, fp, Q, E, rr, hm, hq, hx⟩ => ?_
  refine ⟨B, env, fp, _, E, rr, hm, fun v H1 B1 r e1 w ⟨s, ds, ed, q⟩ => ?_, hx⟩
  obtain ⟨B2, e2, l2, rp⟩ := w.keep e1 s
  rw [ed] at rp
  obtain ⟨a, vs, ev, sv, t⟩ := rp.list_inv
  exact ⟨a, ev, ⟨vs, e2.bh.sqL sv⟩, hq _ H1 B2 ds e2 (walk_list sv t) q⟩
theorem di_tup (h : DE X W G e m) : DI X W G tg e (wiT m) := by
  refine PIi (pi_tup h) fun σ H R0 ⟨B, env, fp, Q, E, rr, hm, hq, hx⟩ => ?_
  refine ⟨B, env, fp, _, E, rr, hm, fun v H1 B1 r e1 w ⟨ds, ed, q⟩ => ?_, hx⟩
  have s : r.sh := by
    cases r with
    | v d => exact True.intro
    | t o => exact True.intro
    | b o => cases o <;> first | exact True.intro | (rw [R.d_b, O.frz_lsts] at ed; cases ed)
  obtain ⟨B2, e2, l2, rp⟩ := w.view e1 s
  rw [ed] at rp
  obtain ⟨a, vs, ev, sv, t⟩ := rp.tupRep.tup_inv
  exact ⟨a, ev, ⟨vs, e2.bh.sqT sv⟩, hq _ H1 B2 ds e2 (walk_tup sv t) q⟩
def wiR1 (t : WE) : WI := fun env Q E => t env (fun r => ∃ j, r.d = .int j ∧ j < 2 ^ 62 ∧ -(2 ^ 62) ≤ j ∧ Q (rgD 0 j.toNat)) E
def wiR2 (p q : WE) : WI := fun env Q E => p env (fun x => q env (fun y => ∃ i j, x.d = .int i ∧ y.d = .int j ∧ (-(2 ^ 62) ≤ i ∧ i < 2 ^ 62 ∧ -(2 ^ 62) ≤ j ∧ j < 2 ^ 62) ∧ Q (rgD i (j - i).toNat)) E) E
theorem di_range1 {p : Pos} (hg : Gl X "range") (hm : X.mg "range" = none) (ha : DE X W G a ma) (hs : starEach [a] X.env = [(false, eval a X.env)]) (hs2 : starEach [a] X.env = (false, eval a X.env) :: starEach [] X.env) : DI X W G tg (.Call (.Name "range" p) [a] [] pos) (wiR1 ma) := by
  refine PIi (pi_range1 hg hm (pa_cons ha pa_nil hs2) hs) fun σ H R ⟨B, env, fp, Q, E, rr, hm, hq, hx⟩ => ?_
  refine ⟨B, env, fp, _, E, rr, hm, fun v H1 B1 r e1 w ⟨j, ed, h1, h2, q⟩ => ?_, hx⟩
  have hv := w.now e1
  rw [ed] at hv
  exact ⟨j, by rw [hv.int_inv], h2, h1, hq _ H1 B1 _ e1 (walk_range 0 _) q⟩
theorem di_range2 {p : Pos} (hg : Gl X "range") (hm : X.mg "range" = none) (ha : DE X W G a ma) (hb : DE X W G b mb) (hs : starEach [a, b] X.env = [(false, eval a X.env), (false, eval b X.env)]) (hs2 : starEach [b] X.env = [(false, eval b X.env)])
    (hs3 : starEach [a, b] X.env = (false, eval a X.env) :: starEach [b] X.env) (hs4 : starEach [b] X.env = (false, eval b X.env) :: starEach [] X.env) : DI X W G tg (.Call (.Name "range" p) [a, b] [] pos) (wiR2 ma mb) := by
  refine PIi (pi_range2 hg hm (pa_cons ha (pa_cons hb pa_nil hs4) hs3) hs hs2) fun σ H R ⟨B, env, fp, Q, E, rr, hm, hq, hx⟩ => ?_
  refine ⟨B, env, fp, _, E, rr, hm, fun v H1 B1 r e1 w q1 => ?_, hx⟩
  refine ⟨B1, env, fp, _, E, rr.ext e1, q1, fun v2 H2 B2 r2 e2 w2 ⟨i, j, ed1, ed2, hb, q⟩ => ?_, hx.later e1.same⟩
  have hv := (w.now e1).mono e2.same
  have hv2 := w2.now e2
  rw [ed1] at hv
  rw [ed2] at hv2
  exact ⟨i, j, by rw [hv.int_inv, hv2.int_inv], hb, hq _ H2 B2 _ (e1.trans e2) (walk_range i _) q⟩
end

/-! ### loops -/
def wFor (it : WI) (g : WG) (body : WS) : WS := fun D env => it env (fun ds => ∃ J : Nat → Env → Prop, J 0 env ∧
  (∀ i d env', ds[i]? = some d → J i env' → g d env' fun env2 => body { D with nx := J (i + 1), ct := J (i + 1), bk := D.nx } env2) ∧ ∀ env', J ds.length env' → D.nx env') (fun n => D.ex n env)
def wWhile (c : WT) (body : WS) : WS := fun D env => ∃ J : Nat → Env → Prop, (∃ n, J n env) ∧ ∀ n env', J n env' →
  c env' (fun k => if k = true then body { D with nx := fun e => ∃ m, m < n ∧ J m e, ct := fun e => ∃ m, m < n ∧ J m e, bk := D.nx } env' else D.nx env') (fun n => D.ex n env')
theorem while_st {α : Type} {c : WT} {body : WS} {D : En} {env : Env} (st : α → Env) (I : α → Prop) (μ : α → Nat) (x0 : α) (h0 : env = st x0) (hI : I x0)
    (step : ∀ x, I x → c (st x) (fun k => if k = true then body { D with nx := fun e => ∃ m, m < μ x ∧ ∃ y, e = st y ∧ I y ∧ m = μ y, ct := fun e => ∃ m, m < μ x ∧ ∃ y, e = st y ∧ I y ∧ m = μ y, bk := D.nx } (st x) else D.nx (st x)) (fun n => D.ex n (st x))) : wWhile c body D env := by
  subst h0
  refine ⟨fun n e => ∃ y, e = st y ∧ I y ∧ n = μ y, ⟨_, x0, rfl, hI, rfl⟩, ?_⟩
  rintro n e ⟨y, rfl, hy, rfl⟩
  exact step y hy
/-- a turn's end -/
theorem turn_to {α : Type} {st : α → Env} {I : α → Prop} {μ : α → Nat} {n : Nat} {e : Env} (y : α) (he : e = st y) (hI : I y) (hm : μ y < n) : ∃ m, m < n ∧ ∃ y, e = st y ∧ I y ∧ m = μ y := ⟨_, hm, y, he, hI, rfl⟩
theorem for_st {α : Type} {g : WG} {body : WS} {D : En} {env : Env} {ds : List PyData} (st : α → Env) (I : Nat → α → Prop) (x0 : α) (h0 : env = st x0) (hI : I 0 x0)
    (step : ∀ i d x, ds[i]? = some d → I i x → g d (st x) fun env2 => body { D with nx := fun e => ∃ y, e = st y ∧ I (i + 1) y, ct := fun e => ∃ y, e = st y ∧ I (i + 1) y, bk := D.nx } env2) (fin : ∀ x, I ds.length x → D.nx (st x)) :
    ∃ J : Nat → Env → Prop, J 0 env ∧ (∀ i d env', ds[i]? = some d → J i env' → g d env' fun env2 => body { D with nx := J (i + 1), ct := J (i + 1), bk := D.nx } env2) ∧ ∀ env', J ds.length env' → D.nx env' := by
  subst h0
  refine ⟨fun i e => ∃ y, e = st y ∧ I i y, ⟨x0, rfl, hI⟩, ?_, ?_⟩
  · rintro i d e hd ⟨y, rfl, hy⟩
    exact step i d y hd hy
  · rintro e ⟨y, rfl, hy⟩
    exact fin y hy
section
variable {X : Cx} {W : WX} {G : Hp} {tg iter c : Expr} {body : List Stmt} {it : WI} {g : WG} {vs : List Nat} {mb : WS} {tc : WT} {pos : Pos}
theorem ds_for (hp : PassesOwn (model X.prog X.w) X.A X.env X.xe) (hc : X.calm = true) (hi : DI X W G tg iter it) (hg : DG X G vs tg g) (hb : DSs X W G body mb) (hs : ∀ x, foldedSetIterable iter X.env x = pure x) :
    DS X W G (.For tg iter body [] pos) (wFor it g mb) := by
  refine PSi (ps_for hp hc hi hg hb hs) fun D σ H ⟨B, env, fp, d, rr, hm, x⟩ => ?_
  refine ⟨B, env, fp, _, _, rr, hm, fun J H1 B1 ds e1 wk ⟨P, p0, pt, pe⟩ => ?_, x.x rr⟩
  refine ⟨fun i m σ H => m = ds.length - i ∧ i ≤ ds.length ∧ ∃ B2 env' fp', Le B1 B2 ∧ RR X.K G B2 env' fp' σ H ∧ P i env', ⟨_, rfl, Nat.zero_le _, B1, env, fp, .refl _, rr.ext e1, p0⟩, ?_⟩
  rintro i m σ2 H2 ⟨rfl, hle, B2, env2, fp2, l2, rr2, pi⟩
  by_cases hlt : i < ds.length
  · refine .inr ⟨wk.go i H2 B2 l2 rr2.bh hlt, fun σ' H' => ∃ B2 env' fp', Le B1 B2 ∧ RR X.K G B2 env' fp' σ' H' ∧ P (i + 1) env', fun σ' H' ⟨B3, env3, fp3, l3, rr3, p3⟩ => ⟨_, (by omega), rfl, hlt, B3, env3, fp3, l3, rr3, p3⟩, fun y H3 hy => ?_⟩
    obtain ⟨dd, B3, hd, e3, rp⟩ := wk.yld i H2 y H3 B2 hlt l2 rr2.bh hy
    refine ⟨B3, env2, fp2, dd, _, rr2.ext e3, rp, pt i dd env2 hd pi, fun σ4 env4 fp4 rr4 t4 q4 => ?_⟩
    have l3 := l2.trans e3.le
    refine ⟨B3, env4, fp4, _, rr4, q4, ⟨fun σ5 H5 B5 env5 fp5 l5 rr5 p5 => ⟨B5, env5, fp5, l3.trans l5, rr5, p5⟩, fun σ5 H5 B5 env5 fp5 l5 rr5 p5 => x.nx σ5 H5 B5 env5 fp5 ((e1.le.trans l3).trans l5) rr5 p5,
      fun σ5 H5 B5 env5 fp5 l5 rr5 p5 => ⟨B5, env5, fp5, l3.trans l5, rr5, p5⟩, fun v H5 B5 r f l5 => x.rt v H5 B5 r f ((e1.le.trans l3).trans l5), fun n cls σ5 H5 B5 env5 fp5 l5 => x.ex n cls σ5 H5 B5 env5 fp5 ((e1.le.trans l3).trans l5)⟩⟩
  · have e : i = ds.length := by omega
    subst e
    exact .inl ⟨wk.stop _ H2 B2 l2 rr2.bh (Nat.le_refl _), x.nx σ2 H2 B2 env2 fp2 (e1.le.trans l2) rr2 (pe env2 pi)⟩
theorem ds_while (hp : PassesOwn (model X.prog X.w) X.A X.env X.xe) (hc : DT X W G c tc) (hb : DSs X W G body mb) : DS X W G (.While c body [] pos) (wWhile tc mb) := by
  refine PSi (ps_while hp hc hb) fun D σ H ⟨B, env, fp, d, rr, ⟨P, ⟨n0, p0⟩, pt⟩, x⟩ => ?_
  refine ⟨fun m σ H => ∃ B2 env' fp', Le B B2 ∧ RR X.K G B2 env' fp' σ H ∧ P m env', ⟨n0, B, env, fp, .refl _, rr, p0⟩, ?_⟩
  rintro m σ2 H2 ⟨B2, env2, fp2, l2, rr2, p2⟩
  have x2 : SOk X W G B2 d D σ := x.later l2
  refine ⟨B2, env2, fp2, _, _, rr2, pt m env2 p2, fun k H3 B3 e3 q => ?_, fun n cls H' en hm l => x2.ex n cls σ2 H' B2 env2 fp2 (.refl _) (rr2.same l) en hm⟩
  cases k with
  | true =>
    rw [if_pos rfl] at q ⊢
    refine ⟨fun σ' H' => ∃ m', m' < m ∧ ∃ B4 env' fp', Le B B4 ∧ RR X.K G B4 env' fp' σ' H' ∧ P m' env', fun σ' H' ⟨m', h4, B4, env4, fp4, l4, rr4, p4⟩ => ⟨m', h4, B4, env4, fp4, l4, rr4, p4⟩, B3, env2, fp2, _, rr2.ext e3, q, ?_⟩
    have l3 := l2.trans e3.le
    exact ⟨fun σ5 H5 B5 env5 fp5 l5 rr5 ⟨m', h5, p5⟩ => ⟨m', h5, B5, env5, fp5, l3.trans l5, rr5, p5⟩, fun σ5 H5 B5 env5 fp5 l5 rr5 p5 => x.nx σ5 H5 B5 env5 fp5 (l3.trans l5) rr5 p5,
      fun σ5 H5 B5 env5 fp5 l5 rr5 ⟨m', h5, p5⟩ => ⟨m', h5, B5, env5, fp5, l3.trans l5, rr5, p5⟩, fun v H5 B5 r f l5 => x.rt v H5 B5 r f (l3.trans l5), fun n cls σ5 H5 B5 env5 fp5 l5 => x.ex n cls σ5 H5 B5 env5 fp5 (l3.trans l5)⟩
  | false => rw [if_neg (by simp)] at q ⊢; exact x.nx σ2 H3 B3 env2 fp2 (l2.trans e3.le) (rr2.ext e3) q
end

/-! ### comprehensions -/
def wipeE (env : Env) : List Nat → Env
  | [] => env
  | v :: vs => (wipeE env vs).set v none
theorem ownEnv_no {K : K0} {B H : Hp} : ∀ {σ : L2.St} {env : Env} {fp : List Addr} (i : Nat), OwnEnv K B H σ env fp → ∃ fp', OwnEnv K B H (σ.set i none) (env.set i none) fp' ∧ fp'.Sublist fp
  | _, _, _, _, .nil => ⟨[], .nil, .slnil⟩
  | _, _, _, 0, .no t => ⟨_, .no t, List.Sublist.refl _⟩
  | _, _, _, 0, .some x t => ⟨_, .no t, List.sublist_append_right _ _⟩
  | _, _, _, i + 1, .no t => by
    obtain ⟨fp', h1, h2⟩ := ownEnv_no i t
    exact ⟨fp', .no h1, h2⟩
  | _, _, _, 0, .raw t => ⟨_, .no t, List.Sublist.refl _⟩
  | _, _, _, i + 1, .raw t => by
    obtain ⟨fp', h1, h2⟩ := ownEnv_no i t
    exact ⟨fp', .raw h1, h2⟩
  | _, _, _, i + 1, .some (f := f) x t => by
    obtain ⟨fp', h1, h2⟩ := ownEnv_no i t
    exact ⟨f ++ fp', .some x h1, List.Sublist.append (List.Sublist.refl _) h2⟩
theorem ownEnv_wipe {K : K0} {B H : Hp} {σ : L2.St} {env : Env} {fp : List Addr} (x : OwnEnv K B H σ env fp) : ∀ vs : List Nat, ∃ fp', OwnEnv K B H (wipe σ vs) (wipeE env vs) fp' ∧ fp'.Sublist fp
  | [] => ⟨fp, x, List.Sublist.refl _⟩
  | v :: vs => by
    obtain ⟨f1, h1, h2⟩ := ownEnv_wipe x vs
    obtain ⟨f2, h3, h4⟩ := ownEnv_no v h1
    exact ⟨f2, h3, h4.trans h2⟩
theorem RR.wipe {K : K0} {G B H : Hp} {σ : L2.St} {env : Env} {fp : List Addr} (x : RR K G B env fp σ H) (vs : List Nat) : ∃ fp', RR K G B (wipeE env vs) fp' (L2.wipe σ vs) H := by
  obtain ⟨fp', h1, h2⟩ := ownEnv_wipe x.own vs
  exact ⟨fp', x.bh, x.gh, x.gb, h1, x.nd.sublist h2, fun a m => x.fb a (h2.subset m)⟩
def noE : Str → Prop := fun _ => False
/-- a comprehension whose list holds still things -/
def wLc (it : WI) (vs : List Nat) (g : WG) (c : WT) (t : WE) : WE := fun env Q E => it env (fun ds => ∃ P : Nat → List D → Prop, P 0 [] ∧
  (∀ i d acc, ds[i]? = some d → P i acc → g d (wipeE env vs) fun env2 => c env2 (fun k => if k = true then t env2 (fun r => r.st ∧ acc.length < sizeLine ∧ P (i + 1) (acc ++ [r.d])) noE else P (i + 1) acc) noE) ∧
  ∀ acc, P ds.length acc → Q (.t (.lst acc))) E
def wYes : WT := fun _ Q _ => Q true
/-- what the middle of a comprehension's reading asks -/
def LcI (env : Env) (ds : List PyData) (vs : List Nat) (g : WG) (c : WT) (t : WE) (Q : R → Prop) : Prop := ∃ P : Nat → List PyData → Prop, P 0 [] ∧
  (∀ i d acc, ds[i]? = some d → P i acc → g d (wipeE env vs) fun env2 => c env2 (fun k => if k = true then t env2 (fun r => r.st ∧ acc.length < sizeLine ∧ P (i + 1) (acc ++ [r.d])) noE else P (i + 1) acc) noE) ∧
  ∀ acc, P ds.length acc → Q (.t (.lst acc))
theorem wLc_eq (it : WI) (vs : List Nat) (g : WG) (c : WT) (t : WE) (env : Env) (Q : R → Prop) (E : Str → Prop) : wLc it vs g c t env Q E = it env (fun ds => LcI env ds vs g c t Q) E := rfl
theorem take_succ {α : Type} {l : List α} {i : Nat} {d : α} (h : l[i]? = some d) : l.take (i + 1) = l.take i ++ [d] := by
  rw [List.take_succ, h]; rfl
theorem lc_map {env : Env} {ds : List PyData} {vs : List Nat} {g : WG} {t : WE} {Q : R → Prop} (f : PyData → PyData) (hz : ds.length ≤ sizeLine)
    (h : ∀ (i : Nat) d, ds[i]? = some d → ∀ A : R → Prop, (∀ r, r.st → r.d = f d → A r) → g d (wipeE env vs) fun env2 => t env2 A noE) (q : Q (.t (.lst (ds.map f)))) : LcI env ds vs g wYes t Q := by
  refine ⟨fun i acc => acc = (ds.take i).map f, by simp, fun i d acc hd ha => ?_, fun acc ha => ?_⟩
  · have ha : acc = (ds.take i).map f := ha
    refine h i d hd (fun r => r.st ∧ acc.length < sizeLine ∧ acc ++ [r.d] = (ds.take (i + 1)).map f) fun r rs rd => ⟨rs, ?_, ?_⟩
    · have hi := (List.getElem?_eq_some_iff.mp hd).1
      rw [ha, List.length_map, List.length_take]
      omega
    · rw [take_succ hd, List.map_append, ha, rd]; rfl
  · have ha : acc = (ds.take ds.length).map f := ha
    rw [ha, List.take_length]; exact q
theorem lc_filter {env : Env} {ds : List PyData} {vs : List Nat} {g : WG} {c : WT} {t : WE} {Q : R → Prop} (p : PyData → Bool) (f : PyData → PyData) (hz : ds.length ≤ sizeLine)
    (h : ∀ (i : Nat) d, ds[i]? = some d → ∀ (A : R → Prop) (B : Prop), (p d = true → ∀ r, r.st → r.d = f d → A r) → (p d = false → B) → g d (wipeE env vs) fun env2 => c env2 (fun k => if k = true then t env2 A noE else B) noE)
    (q : Q (.t (.lst ((ds.filter p).map f)))) : LcI env ds vs g c t Q := by
  refine ⟨fun i acc => acc = ((ds.take i).filter p).map f, by simp, fun i d acc hd ha => ?_, fun acc ha => ?_⟩
  · have ha : acc = ((ds.take i).filter p).map f := ha
    refine h i d hd _ _ (fun pd r rs rd => ⟨rs, ?_, ?_⟩) fun pd => ?_
    · have hi := (List.getElem?_eq_some_iff.mp hd).1
      rw [ha, List.length_map]
      have h1 := List.length_filter_le p (ds.take i)
      rw [List.length_take] at h1
      omega
    · show acc ++ [r.d] = ((ds.take (i + 1)).filter p).map f
      rw [take_succ hd, List.filter_append, List.map_append, ha, rd]
      simp [pd]
    · show acc = ((ds.take (i + 1)).filter p).map f
      rw [take_succ hd, List.filter_append, ha]
      simp [pd]
  · have ha : acc = ((ds.take ds.length).filter p).map f := ha
    rw [ha, List.take_length]; exact q
abbrev W0 : WX := fun _ _ _ _ => False
theorem xok0 {mg : Str → Option Value} {H : Hp} {σ : L2.St} : XOk mg W0 H σ noE := fun _ _ _ h => h.elim
section
variable {X : Cx} {W : WX} {G : Hp} {tg iter elt : Expr} {ifs : List Expr} {scope : Scope} {own : List (Str × Nat)} {it : WI} {g : WG} {c : WT} {t : WE} {pos : Pos}
abbrev Bk (X : Cx) (scope : Scope) (s : Shared) (H : Hp) (C : Addr) (cl : List (Str × Addr)) (fp : List Addr) : Cx := X.blk s H scope (compEnvC scope cl C X.env) fp
theorem lc_ok {σ : L2.St} {H : Hp} {QV : VK} {vs : List Nat} (h : tD X W G (wLc it vs g c t) σ H QV) :
    tLc (tDIc X W G it) (tDG X G vs g) (tDT X W0 G c) (tD X W0 G t) vs σ H QV := by
  obtain ⟨B, env, fp, Q, E, rr, hm, hq, hx⟩ := h
  refine ⟨B, env, fp, _, E, rr, hm, fun J H1 B1 ds e1 wk ⟨P, p0, pt, pe⟩ L nL => ?_, hx⟩
  -- the list at L is nobody's
  have out : ∀ {H2 B2 : Hp}, RR X.K G B2 env fp σ H2 → L ∉ fp := fun {H2 B2} r2 m => by
    obtain ⟨u, hu⟩ := (rr.ext e1).own.dom L m
    rw [nL] at hu; cases hu
  have gL : G L = none := (rr.ext e1).gh.none nL
  refine ⟨fun i m H2 => m = ds.length - i ∧ i ≤ ds.length ∧ ∃ B2 acc vs2, Le B1 B2 ∧ RR X.K G B2 env fp σ H2 ∧ B2 L = none ∧ H2 L = some (.lst vs2) ∧ RepAll X.K B2 vs2 acc ∧ (∀ a o, H1 a = some o → H2 a = some o) ∧ (∀ a o, H1 a = some o → B1 a = none → B2 a = none) ∧ P i acc,
    ⟨_, rfl, Nat.zero_le _, B1, [], [], .refl _, (rr.ext e1).beside (out (rr.ext e1)) (e1.bh.none nL) gL, e1.bh.none nL, upd_same, .nil, fun a o q => upd_keep q (ne_of_none q nL), fun _ _ _ n => n, p0⟩, ?_⟩
  rintro i m H2 ⟨rfl, hle, B2, acc, vs2, l2, rr2, bL, hL, ra, s2, n2, pi⟩
  by_cases hlt : i < ds.length
  · refine .inr ⟨wk.go i H2 B2 l2 rr2.bh s2 hlt, fun H' => ∃ B2 acc vs2, Le B1 B2 ∧ RR X.K G B2 env fp σ H' ∧ B2 L = none ∧ H' L = some (.lst vs2) ∧ RepAll X.K B2 vs2 acc ∧ (∀ a o, H1 a = some o → H' a = some o) ∧ (∀ a o, H1 a = some o → B1 a = none → B2 a = none) ∧ P (i + 1) acc,
      fun H' ⟨B3, acc3, vs3, z1, z2, z3, z4, z5, z6, z7, z8⟩ => ⟨_, (by omega), rfl, hlt, B3, acc3, vs3, z1, z2, z3, z4, z5, z6, z7, z8⟩, fun y H3 hy => ?_⟩
    obtain ⟨dd, B3, hd, e3, rp⟩ := wk.yld i H2 y H3 B2 hlt l2 rr2.bh s2 hy
    obtain ⟨fpw, rrw⟩ := (rr2.ext e3).wipe vs
    refine ⟨B3, _, fpw, dd, _, rrw, rp, pt i dd acc hd pi, fun σ4 env4 fp4 rr4 t4 q4 => ⟨?_, ?_⟩⟩
    · have := t4.wipe
      rw [this]
      exact (Touch.wipe ⟨wipe_length σ vs, fun j nj => by rw [wipe_get, if_neg nj]⟩)
    · refine ⟨B3, env4, fp4, _, noE, rr4, q4, fun k H5 B5 e5 q5 => ?_, xok0⟩
      have eA := e3.trans e5
      cases k with
      | false =>
        rw [if_neg (by simp)] at q5
        refine iteF ?_
        exact ⟨B5, acc, vs2, l2.trans eA.le, rr2.ext eA, eA.new L _ hL bL, eA.same _ _ hL, ra.mono eA.le, fun a o q => eA.same _ _ (s2 a o q), fun a o q n => eA.new a o (s2 a o q) (n2 a o q n), q5⟩
      | true =>
        rw [if_pos rfl] at q5
        refine iteT ?_
        refine ⟨B5, env4, fp4, _, noE, rr4.ext e5, q5, fun u H6 B6 r e6 w ⟨sr, hz, p6⟩ => ?_, xok0⟩
        obtain ⟨B7, e7, l7, rk⟩ := w.keep e6 sr
        have eB := eA.trans e7
        have hL6 := eB.same _ _ hL
        have bL7 := eB.new L _ hL bL
        have rr7 := rr2.ext eB
        refine ⟨vs2, hL6, by rw [ra.length]; exact hz, B7, acc ++ [r.d], vs2 ++ [u], l2.trans eB.le, rr7.beside (out rr7) bL7 gL, bL7, upd_same, (ra.mono eB.le).append (.one rk), fun a o q => ?_, fun a o q n => eB.new a o (s2 a o q) (n2 a o q n), p6⟩
        exact upd_keep (eB.same _ _ (s2 a o q)) (ne_of_none q nL)
  · have e : i = ds.length := by omega
    subst e
    refine .inl ⟨wk.stop _ H2 B2 l2 rr2.bh s2 (Nat.le_refl _), hq _ H2 B2 (.t (.lst acc)) ⟨e1.same.trans s2, e1.le.trans l2, rr2.bh, fun a o q n => n2 a o (e1.same _ _ q) (e1.new a o q n)⟩ ⟨[L], .lst hL ra, by simp, fun a m => ?_⟩ (pe acc pi)⟩
    simp at m; subst m
    exact ⟨e1.same.none nL, bL⟩
theorem de_lc (hc : X.calm = true) (hN : X.N.Nodup) (hi : DIc X W G tg iter it) {N : List Str} {sc : Scope} (ok : blkC N sc scope own = true) (eN : X.N = N) (eS : X.env.scope = sc)
    (hg : ∀ s H C cl fp, DG (Bk X scope s H C cl fp) G (own.map (·.2)) tg g) (ht : ∀ s H C cl fp, PTs (Bk X scope s H C cl fp) ifs (tDT X W0 G c)) (he : ∀ s H C cl fp, DE (Bk X scope s H C cl fp) W0 G elt t)
    (hs : ∀ x, foldedSetIterable iter X.env x = pure x) : DE X W G (.ListComp elt [⟨tg, iter, ifs, 0⟩] scope pos) (wLc it (own.map (·.2)) g c t) :=
  PEi (pe_lc (g := tDG X G (own.map fun p : Str × Nat => p.2) g) (tt := tDT X W0 G c) (te := tD X W0 G t) hc hN hi (by subst eN eS; exact blkOk_by ok) hg ht he hs) fun _ _ _ h => lc_ok h
theorem ds_setLc {i : Nat} {y : Str} {py spos : Pos} (hc : X.calm = true) (hN : X.N.Nodup) (hy : X.N[i]? = some y) (hyl : X.env.scope.names.lookup y = some .local)
    (hsw : swapsWith (.ListComp elt [⟨tg, iter, ifs, 0⟩] scope pos) (some (.Name y py)) spos.line X.env = pure true) (hi : DIc X W G tg iter it) {N : List Str} {sc : Scope} (ok : blkC N sc scope own = true) (eN : X.N = N) (eS : X.env.scope = sc)
    (hg : ∀ s H C cl fp, DG (Bk X scope s H C cl fp) G (own.map (·.2)) tg g) (ht : ∀ s H C cl fp, PTs (Bk X scope s H C cl fp) ifs (tDT X W0 G c)) (he : ∀ s H C cl fp, DE (Bk X scope s H C cl fp) W0 G elt t)
    (hs : ∀ x, foldedSetIterable iter X.env x = pure x) : DS X W G (.Assign [.Name y py] (.ListComp elt [⟨tg, iter, ifs, 0⟩] scope pos) spos) (wAsg i (wLc it (own.map (·.2)) g c t)) :=
  PSi (ps_setLc (g := tDG X G (own.map fun p : Str × Nat => p.2) g) (tt := tDT X W0 G c) (te := tD X W0 G t) hc hN hy hyl hsw hi (by subst eN eS; exact blkOk_by ok) hg ht he hs) fun D σ H h => asg_ok (fun _ _ _ h => lc_ok h) H h
theorem ds_letLc {i : Nat} {y : Str} {py spos : Pos} (hc : X.calm = true) (hN : X.N.Nodup) (hy : X.N[i]? = some y) (hyl : X.env.scope.names.lookup y = some .local)
    (hsw : swapsWith (.ListComp elt [⟨tg, iter, ifs, 0⟩] scope pos) (some (.Name y py)) spos.line X.env = pure true) (hi : DIc X W G tg iter it) {N : List Str} {sc : Scope} (ok : blkC N sc scope own = true) (eN : X.N = N) (eS : X.env.scope = sc)
    (hg : ∀ s H C cl fp, DG (Bk X scope s H C cl fp) G (own.map (·.2)) tg g) (ht : ∀ s H C cl fp, PTs (Bk X scope s H C cl fp) ifs (tDT X W0 G c)) (he : ∀ s H C cl fp, DE (Bk X scope s H C cl fp) W0 G elt t)
    (hs : ∀ x, foldedSetIterable iter X.env x = pure x) : DS X W G (.Assign [.Name y py] (.ListComp elt [⟨tg, iter, ifs, 0⟩] scope pos) spos) (wLet i (wLc it (own.map (·.2)) g c t)) :=
  PSi (ps_setLc (g := tDG X G (own.map fun p : Str × Nat => p.2) g) (tt := tDT X W0 G c) (te := tD X W0 G t) hc hN hy hyl hsw hi (by subst eN eS; exact blkOk_by ok) hg ht he hs) fun D σ H h => let_ok (fun _ _ _ h => lc_ok h) H h
theorem pts_no : PTs X [] (tDT X W0 G wYes) := ⟨fun pins s σ H Q I ⟨B, env, fp, Q', E, rr, hm, hq, hx⟩ => pts_nil.run pins s σ H Q I (hq true H B (.refl rr.bh) hm)⟩
theorem pts_if {e : Expr} (h : DT X W0 G e c) : PTs X [e] (tDT X W0 G c) := pts_one h
end
end DL

set_option Elab.async false
set_option linter.all false
set_option maxRecDepth 100000
set_option maxHeartbeats 1000000
/-! DL10: promises of defs over data, calls, a def's body. -/
namespace DL
open PySem L2 PyProof.Rows

/-- a promise: from the arguments, to what is wanted of the result, to what is wanted of an exception's class -/
abbrev Spec := List D → (R → Prop) → (Str → Prop) → Prop
def dsp (K : K0) (mg : Str → Option Value) (S : Spec) : Sp := fun vs H QV EX => ∃ B ds Q E, Le B H ∧ RepAll K B vs ds ∧ S ds Q E ∧
  (∀ v H' B' r, Ext H B H' B' → VOk K H [] B' H' v r → r.st → Q r → QV v H') ∧ ∀ n cls H', E n → mg n = some cls → Le H H' → EX cls none H'
mutual
/-- no lists, no dicts within -/
def noL : D → Bool
  | .list _ => false
  | .dict _ => false
  | .tuple ds => noLs ds
  | _ => true
def noLs : List D → Bool
  | [] => true
  | d :: ds => noL d && noLs ds
end
theorem noLs_of : ∀ {ds : List D}, (∀ d ∈ ds, noL d = true) → noLs ds = true
  | [], _ => by rw [noLs]
  | d :: ds, h => by rw [noLs, h d (List.mem_cons_self ..), noLs_of fun x m => h x (List.mem_cons_of_mem _ m)]; rfl
@[simp] theorem noL_int (i : Int) : noL (.int i) = true := by rw [noL] <;> simp
@[simp] theorem noL_str (i : Str) : noL (.str i) = true := by rw [noL] <;> simp
@[simp] theorem noL_bool (i : Bool) : noL (.bool i) = true := by rw [noL] <;> simp
@[simp] theorem noL_none : noL .none = true := by rw [noL] <;> simp
@[simp] theorem noL_tuple (ds : List D) : noL (.tuple ds) = noLs ds := by rw [noL]
@[simp] theorem noLs_nil : noLs [] = true := by rw [noLs]
@[simp] theorem noLs_cons (d : D) (ds : List D) : noLs (d :: ds) = (noL d && noLs ds) := by rw [noLs]
theorem noLs_flat : ∀ {ds : List D}, ds.all flatD = true → noLs ds = true
  | [], _ => by rw [noLs]
  | d :: ds, h => by
    rw [List.all_cons, Bool.and_eq_true] at h
    rw [noLs, noLs_flat h.2, Bool.and_true]
    cases d <;> simp [flatD] at h ⊢
/-- a result that leans on nothing that stood -/
def R.free : R → Prop
  | .v d => noL d = true
  | .t (.lst ds) => noLs ds = true
  | _ => False
@[simp] theorem R.free_v (d : D) : (R.v d).free = (noL d = true) := rfl
@[simp] theorem R.free_t (d : List D) : (R.t (.lst d)).free = (noLs d = true) := rfl
@[simp] theorem flatD_int (i : Int) : flatD (.int i) = true := rfl
@[simp] theorem flatD_str (i : Str) : flatD (.str i) = true := rfl
@[simp] theorem flatD_bool (i : Bool) : flatD (.bool i) = true := rfl
@[simp] theorem flatD_none : flatD .none = true := rfl
def wCall (S : Spec) (dds : List D) (ta : WA) : WE := fun env Q E => ta env (fun rs => S (rs.map R.d ++ dds) (fun r => (allSt rs ∨ r.free) ∧ Q r) E) E
section
variable {K : K0} {B B' H H' : Hp}
theorem Rep.anyB {v : V} {d : D} (r : Rep K B v d) (h : flatD d = true) : Rep K B' v d := by
  cases r with
  | non => exact .non
  | bl b => exact .bl b
  | int i => exact .int i
  | str x => exact .str x
  | _ => simp [flatD] at h
theorem RepAll.anyB : ∀ {vs : List V} {ds : List D}, RepAll K B vs ds → ds.all flatD = true → RepAll K B' vs ds
  | _, _, .nil, _ => .nil
  | _, _, .cons r t, h => by
    rw [List.all_cons, Bool.and_eq_true] at h
    exact .cons (r.anyB h.1) (RepAll.anyB t h.2)
/-- a list or a dict -/
def isLD : HO → Prop
  | .lst _ => True
  | .dK _ => True
  | _ => False
mutual
theorem Own.ld : ∀ {v : V} {o : O} {f : List Addr}, Own K B H v o f → ∀ a ∈ f, ∃ u, H a = some u ∧ isLD u
  | _, _, _, .fro r, a, m => by simp at m
  | _, _, _, .lst h r, a, m => by simp at m; subst m; exact ⟨_, h, True.intro⟩
  | _, _, _, .dic h r, a, m => by simp at m; subst m; exact ⟨_, h, True.intro⟩
  | _, _, _, .lsts h r, a, m => by
    rcases List.mem_cons.mp m with rfl | m
    · exact ⟨_, h, True.intro⟩
    · exact OwnAll.ld r a m
theorem OwnAll.ld : ∀ {vs : List V} {os : List O} {f : List Addr}, OwnAll K B H vs os f → ∀ a ∈ f, ∃ u, H a = some u ∧ isLD u
  | _, _, _, .nil, a, m => by simp at m
  | _, _, _, .cons r t, a, m => by
    rcases List.mem_append.mp m with m | m
    · exact Own.ld r a m
    · exact OwnAll.ld t a m
end
/-- .. without some lists and dicts -/
def cutB (B B0 : Hp) (g : List Addr) : Hp := fun a => if a ∈ g ∧ B0 a = none then none else B a
theorem cutB_out {B0 : Hp} {g : List Addr} {a : Addr} (h : ¬ (a ∈ g ∧ B0 a = none)) : cutB B B0 g a = B a := by unfold cutB; rw [if_neg h]
theorem cutB_le {B0 : Hp} (g : List Addr) : Le (cutB B B0 g) B := fun a o h => by
  unfold cutB at h
  split at h
  · cases h
  · exact h
mutual
theorem Rep.cutL {B0 : Hp} {g : List Addr} (hg : ∀ a ∈ g, ∃ u, B a = some u ∧ isLD u) : ∀ {v : V} {d : D}, noL d = true → Rep K B v d → Rep K (cutB B B0 g) v d
  | _, _, _, .non => .non
  | _, _, _, .bl b => .bl b
  | _, _, _, .int i => .int i
  | _, _, _, .str x => .str x
  | _, _, h, .lst s r => by simp [noL] at h
  | _, _, h, .tup (a := a) s r p => by
    have out : ∀ u, B a = some u → ¬ isLD u → cutB B B0 g a = some u := fun u e n => by
      rw [cutB_out (fun m => ?_)]
      · exact e
      · obtain ⟨u', e', l⟩ := hg a m.1
        rw [e] at e'; cases e'
        exact n l
    refine .tup ?_ (RepAll.cutL hg (by simpa using h) r) ?_
    · rcases s with (s | ⟨o, s⟩) | s
      · exact .inl (.inl (out _ s id))
      · exact .inl (.inr ⟨o, out _ s id⟩)
      · exact .inr s
    · rcases p with ⟨o, u, e, q⟩ | p
      · exact .inl ⟨o, u, out _ e id, q⟩
      · exact .inr p
  | _, _, h, .dic s r => by simp [noL] at h
theorem RepAll.cutL {B0 : Hp} {g : List Addr} (hg : ∀ a ∈ g, ∃ u, B a = some u ∧ isLD u) : ∀ {vs : List V} {ds : List D}, noLs ds = true → RepAll K B vs ds → RepAll K (cutB B B0 g) vs ds
  | _, _, _, .nil => .nil
  | _, _, h, .cons r t => by
    simp only [noLs_cons, Bool.and_eq_true] at h
    exact .cons (Rep.cutL hg h.1 r) (RepAll.cutL hg h.2 t)
end
/-- all as still data, what was looked at let be still -/
theorem VAll.borrow (l : Le B H) : ∀ {vs : List V} {rs : List R}, VAll K B H vs rs → ∃ f, RepAll K (addB B H f) vs (rs.map R.d) ∧ ∀ a ∈ f, ∃ u, H a = some u ∧ isLD u
  | _, _, .nil => ⟨[], .nil, by simp⟩
  | _, _, .st s r t => by
    obtain ⟨f, h, hf⟩ := VAll.borrow l t
    exact ⟨f, .cons (r.mono (addB_le f l)) h, hf⟩
  | _, _, .lk (f := g) x t => by
    obtain ⟨f, h, hf⟩ := VAll.borrow l t
    have le2 : ∀ f' : List Addr, (∀ a ∈ f, a ∈ f') → Le (addB B H f) (addB B H f') := fun f' hs a o q => by
      by_cases m : a ∈ f'
      · rw [addB_in m]; exact addB_bh f l a o q
      · rw [addB_out m]; rw [addB_out fun z => m (hs a z)] at q; exact q
    refine ⟨g ++ f, .cons (x.freeze (addB_le _ l) fun a m u q => by rw [addB_in (List.mem_append_left _ m)]; exact q) (h.mono (le2 _ fun a m => List.mem_append_right _ m)), fun a m => ?_⟩
    rcases List.mem_append.mp m with m | m
    · exact x.ld a m
    · exact hf a m
end
section
variable {X : Cx} {W : WX} {G : Hp} {k : Nat} {f : Addr} {fd : FuncData} {ps : List Str} {S : Spec} {dvs : List V} {dds : List D} {ds : List Value} {x : Str} {p pos : Pos} {e : Expr} {es : List Expr} {ms : WA}
theorem call_ok (hdv : ∀ B, RepAll X.K B dvs dds) {σ : L2.St} {H : Hp} {QV : VK} (h : tD X W G (wCall S dds ms) σ H QV) : tCallSD (dsp X.K X.mg S) dvs (fun σ cls d H => W cls d σ H) (tDA X W G ms) σ H QV := by
  obtain ⟨B, env, fp, Q, E, rr, hm, hq, hx⟩ := h
  refine ⟨B, env, fp, _, E, rr, hm, fun vs H1 B1 rs e1 va hs => ?_, hx⟩
  by_cases ha : allSt rs
  · refine ⟨B1, _, _, E, e1.bh, (va.reps ha).append (hdv _), hs, fun v H' B' r e2 w st ⟨_, q⟩ => ?_, fun n cls H' en hm l => hx n cls H' en hm (e1.same.trans l)⟩
    refine hq v H' B' r (e1.trans e2) ?_ q
    cases r with
    | v d => exact w
    | t o =>
      obtain ⟨g, w, ng, hg⟩ := w
      exact ⟨g, w, ng, fun a m => ⟨e1.same.none (hg a m).1, (hg a m).2⟩⟩
    | b o => exact st.elim
  · obtain ⟨g, hr, hld⟩ := va.borrow e1.bh
    refine ⟨addB B1 H1 g, _, _, E, addB_bh g e1.bh, hr.append (hdv _), hs, fun v H' B' r e2 w st ⟨fr, q⟩ => ?_, fun n cls H' en hm l => hx n cls H' en hm (e1.same.trans l)⟩
    have fr : r.free := fr.resolve_left ha
    have hg' : ∀ a ∈ g, ∃ u, B' a = some u ∧ isLD u := fun a m => by
      obtain ⟨u, hu, l⟩ := hld a m
      exact ⟨u, e2.le _ _ (by rw [addB_in m]; exact hu), l⟩
    have eC : Ext H1 B1 H' (cutB B' B1 g) := ⟨e2.same, fun a o h => by
      rw [cutB_out (fun m => by rw [m.2] at h; cases h)]
      exact e2.le _ _ (addB_le g e1.bh _ _ h), (cutB_le g).trans e2.bh, fun a o h n => by
      by_cases m : a ∈ g
      · unfold cutB; rw [if_pos ⟨m, n⟩]
      · rw [cutB_out fun z => m z.1]
        exact e2.new a o h (by rw [addB_out m]; exact n)⟩
    refine hq v H' (cutB B' B1 g) r (e1.trans eC) ?_ q
    cases r with
    | v d => exact Rep.cutL hg' fr w
    | t o =>
      obtain ⟨g', w, ng, hgn⟩ := w
      cases w with
      | lst h r => exact ⟨_, .lst h (RepAll.cutL hg' fr r), ng, fun a m => ⟨e1.same.none (hgn a m).1, (cutB_le g).none (hgn a m).2⟩⟩
      | _ => exact fr.elim
    | b o => exact fr.elim
theorem de_call (F : FnOk X.prog X.w X.K X.mg X.base (L2.CX X.prog X.w) k f fd ps (dsp X.K X.mg S)) (hr : Room k X.A) (hg : Gl X x) (hm : X.mg x = some (.ref f)) (hk : PySem.W.keepIn X.K (.ref f) = true) (hb : Binds X.K fd ps ds) (hd : Vals dvs ds)
    (hdv : ∀ B, RepAll X.K B dvs dds) (tk : Takes X W) (ha : DA X W G (e :: es) ms) (hdb : (x == ("__debug__" : Str)) = false)
    (he : starEach (e :: es) X.env = (false, eval e X.env) :: starEach es X.env) (hpl : (backTo pos (starEach es X.env)).any (·.1) = false) : DE X W G (.Call (.Name x p) (e :: es) [] pos) (wCall S dds ms) :=
  PEi (pe_callSD (E := fun σ cls d H => W cls d σ H) F hr hg hm hk hb hd (fun σ => passAt tk σ) ha hdb he hpl) fun _ _ _ h => call_ok hdv h
end

/-! ### a def's body -/
def enD (Q : R → Prop) (E : Str → Prop) : En := { nx := fun _ => Q (.v .none), rt := Q, bk := fun _ => False, ct := fun _ => False, ex := fun n _ => E n }
@[simp] theorem enD_rt (Q : R → Prop) (E : Str → Prop) : (enD Q E).rt = Q := rfl
def startD (N : List Str) (ds : List D) : Env := ds.map (fun d => some (.fro d)) ++ List.replicate (N.length - ds.length) none
theorem ownEnv_start {K : K0} {B H : Hp} : ∀ {vs : List V} {ds : List D} (n : Nat), RepAll K B vs ds → OwnEnv K B H (vs.map some ++ List.replicate n none) (ds.map (fun d => some (.fro d)) ++ List.replicate n none) []
  | _, _, 0, .nil => .nil
  | _, _, n + 1, .nil => by
    have := ownEnv_start (K := K) (B := B) (H := H) n RepAll.nil
    rw [List.replicate_succ]
    exact .no (by simpa using this)
  | _, _, n, .cons r t => by
    have := OwnEnv.some (f := []) (.fro r) (ownEnv_start (H := H) n t)
    simpa using this
section
variable {P : Program} {w : World} {K : K0} {mg : Str → Option Value} {base : Heap} {x qual : Str} {params : Arguments} {body : List Stmt} {scope : Scope} {dvs : List V} {kws : List (Str × V)} {f : Addr} {fd : FuncData} {N ps : List Str} {k : Nat} {S : Spec} {m : WS}
abbrev XB (P : Program) (w : World) (K : K0) (mg : Str → Option Value) (base : Heap) (N : List Str) (qual : Str) (scope : Scope) (f : Addr) (cdv : Value) (A : Around) (outer : List PySem.Env) (s : Shared) (H : Hp) (E : XK) : Cx :=
  cxOf (L2.CX P w) P w K mg base N qual scope f cdv A outer s H E
theorem fn_d (F : FunD K x qual params body scope dvs kws f fd) (Sc : FnScope N ps scope) (len : ∀ ds Q E, S ds Q E → ds.length = ps.length)
    (der : ∀ (cdv : Value) (A : Around) (outer : List PySem.Env) (s : Shared) (H : Hp) (E : XK) (G : Hp), Room k (A.deeper (envOfC qual scope s.heap.objs.size f cdv)) →
      Takes (XB P w K mg base N qual scope f cdv A outer s H E) (fun cls d _ H => E cls d H) → PassesOwn (model P w) (XB P w K mg base N qual scope f cdv A outer s H E).A (XB P w K mg base N qual scope f cdv A outer s H E).env (XB P w K mg base N qual scope f cdv A outer s H E).xe →
      DSs (XB P w K mg base N qual scope f cdv A outer s H E) (fun cls d _ H => E cls d H) G body m)
    (wp : ∀ ds Q E, S ds Q E → m (enD Q E) (startD N ds)) : FnOk P w K mg base (L2.CX P w) (k + 1) f fd ps (dsp K mg S) := by
  refine F.ok Sc (fun vs H Q E h => ?_) fun cdv A outer s H vs QV EX hr h => ?_
  · obtain ⟨B, ds, Q', E', l, r, hs, _⟩ := h
    rw [r.length]
    exact len _ _ _ hs
  · obtain ⟨B, ds, Q, E, l, r, hs, hq, hx⟩ := h
    let G : Hp := fun a => match B a with | none => H a | some _ => none
    have gH : ∀ a o, G a = some o → H a = some o ∧ B a = none := fun a o q => by
      cases e : B a with
      | none => have : G a = H a := by show (match B a with | none => H a | some _ => none) = _; rw [e]
                rw [this] at q; exact ⟨q, rfl⟩
      | some u => have : G a = none := by show (match B a with | none => H a | some _ => none) = _; rw [e]
                  rw [this] at q; cases q
    have gN : ∀ a, B a = none → G a = H a := fun a e => by show (match B a with | none => H a | some _ => none) = _; rw [e]
    refine ⟨_, der cdv A outer s H EX G hr (takes_of rfl rfl rfl rfl) (passes_of rfl), B, startD N ds, [], enD Q E, ⟨l, fun a o q => (gH a o q).1, fun a o q => (gH a o q).2, ?_, by simp, by simp⟩, wp ds Q E hs, ?_⟩
    · have := ownEnv_start (K := K) (B := B) (H := H) (N.length - ds.length) r
      unfold startD L2.start
      rw [r.length]
      exact this
    · have fin : ∀ v H' B' r (f : List Addr), Le B B' → Le B' H' → Le G H' → (∀ a o, G a = some o → B' a = none) → (∀ a ∈ f, B' a = none ∧ G a = none) → f.Nodup →
          (match r with | .v d => Rep K B' v d | .t o => Own K B' H' v o f | .b _ => False) → Q r → QV v H' := fun v H' B' r f l1 l2 l3 l4 hf nf w q => by
        have e : Ext H B H' B' := ⟨fun a o h => by
          cases eb : B a with
          | none => exact l3 a o (by rw [gN a eb]; exact h)
          | some u =>
            have : H a = some u := l a u eb
            rw [this] at h; cases h
            exact l2 _ _ (l1 _ _ eb), l1, l2, fun a o h n => l4 a o (by rw [gN a n]; exact h)⟩
        refine hq v H' B' r e ?_ ?_ q
        · cases r with
          | v d => exact w
          | t o =>
            refine ⟨f, w, nf, fun a m => ⟨?_, (hf a m).1⟩⟩
            have nb : B a = none := l1.none (hf a m).1
            rw [← gN a nb]; exact (hf a m).2
          | b o => exact w.elim
        · cases r with
          | v d => exact True.intro
          | t o => exact True.intro
          | b o => exact w.elim
      refine ⟨fun σ H' B' env fp l1 rr q => ?_, fun σ H' B' env fp l1 rr q => q.elim, fun σ H' B' env fp l1 rr q => q.elim, fun v H' B' r f l1 l2 l3 l4 hf nf w q => fin v H' B' r f l1 l2 l3 l4 hf nf w q, fun n cls σ H' B' env fp l1 rr en hm => ?_⟩
      · exact fin .non H' B' (.v .none) [] l1 rr.bh rr.gh rr.gb (by simp) (by simp) .non q
      · refine hx n cls H' en hm fun a o h => ?_
        cases eb : B a with
        | none => exact rr.gh a o (by rw [gN a eb]; exact h)
        | some u =>
          have : H a = some u := l a u eb
          rw [this] at h; cases h
          exact rr.bh _ _ (l1 _ _ eb)
end
end DL

set_option Elab.async false
set_option linter.all false
set_option maxRecDepth 100000
set_option maxHeartbeats 1000000
/-! DL11: what a text's top says, short rules for printing. -/
namespace DL
open PySem L2 PyProof.Rows

/-- names that are the built-ins' own -/
structure Gb (mg : Str → Option Value) : Prop where
  len : mg "len" = none
  range : mg "range" = none
  isinstance : mg "isinstance" = none
  int : mg "int" = none
  bool : mg "bool" = none
  str : mg "str" = none
  list : mg "list" = none
  tuple : mg "tuple" = none
  dict : mg "dict" = none
  set : mg "set" = none
  sorted : mg "sorted" = none
  sum : mg "sum" = none
  max : mg "max" = none
  min : mg "min" = none
  all : mg "all" = none
  any : mg "any" = none
  ord : mg "ord" = none
  zip : mg "zip" = none
  enumerate : mg "enumerate" = none
  reversed : mg "reversed" = none
  divmod : mg "divmod" = none
  ValueError : mg "ValueError" = none

/-- a def of the top that keeps a promise -/
def FnAt (P : Program) (w : World) (K : K0) (mg : Str → Option Value) (base : Heap) (k : Nat) (x : Str) (ps : List Str) (dvs : List V) (S : Spec) : Prop :=
  ∃ (f : Addr) (fd : FuncData) (ds : List Value), mg x = some (.ref f) ∧ PySem.W.keepIn K (.ref f) = true ∧ FnOk P w K mg base (L2.CX P w) k f fd ps (dsp K mg S) ∧ Binds K fd ps ds ∧ Vals dvs ds
/-- an own exception class -/
def ExAt (K : K0) (mg : Str → Option Value) (n : Str) : Prop :=
  ∃ C : Addr, mg n = some (.ref C) ∧ PySem.W.excIn K C He.veBase "ValueError.__new__" = true ∧ PySem.W.keepIn K (.ref C) = true ∧ PySem.W.subIn K (.ref C) (.type "BaseException") = some true ∧ PySem.W.typeIn K (.ref C) = some (.type "type")
section
variable {X : Cx} {W : WX} {G : Hp} {k j : Nat} {ps : List Str} {S : Spec} {dvs : List V} {dds : List D} {x : Str} {p pos : Pos} {e a b : Expr} {es : List Expr} {ms : WA} {ma mb : WE}
theorem de_call' (F : FnAt X.prog X.w X.K X.mg X.base k x ps dvs S) (hr : Room j X.A) (hk : k ≤ j) (hg : Gl X x) (hdv : ∀ B, RepAll X.K B dvs dds) (tk : Takes X W) (ha : DA X W G (e :: es) ms) (hdb : (x == ("__debug__" : Str)) = false)
    (he : starEach (e :: es) X.env = (false, eval e X.env) :: starEach es X.env) (hpl : (backTo pos (starEach es X.env)).any (·.1) = false) : DE X W G (.Call (.Name x p) (e :: es) [] pos) (wCall S dds ms) := by
  obtain ⟨f, fd, ds, hm, hkp, F, hb, hd⟩ := F
  exact de_call F (hr.mono hk) hg hm hkp hb hd hdv tk ha hdb he hpl
theorem ds_raise' {n m : Str} {jj : Nat} {p2 p3 : Pos} (hx : ExAt X.K X.mg n) (hc : X.calm = true) (tk : Takes X W) (hg : Gl X n) (hdb : (n == ("__debug__" : Str)) = false) : DS X W G (.Raise (some (.Call (.Name n p) [.Constant (.str m) jj p2] [] p3)) none pos) (wRaise n) := by
  obtain ⟨C, gC, xC, kC, bC, tC⟩ := hx
  exact ds_raise hc tk gC (pmk_own PySem.F.excBase_ValueError xC gC kC (raises_own bC tC) hg hdb)
theorem de_add (ha : DE X W G a ma) (hb : DE X W G b mb) : DE X W G (.BinOp a .Add b pos) (wAdd ma mb) := de_2 opAdd ha hb
abbrev wEq (a b : WE) : WE := wtv (c2 cEq a b)
abbrev wNe (a b : WE) : WE := wtv (c2 cNe a b)
end
section
variable {P : Program} {w : World} {K : K0} {mg : Str → Option Value} {base : Heap} {x qual : Str} {params : Arguments} {body : List Stmt} {scope : Scope} {f : Addr} {fd : FuncData} {N ps : List Str} {k : Nat} {S : Spec} {m : WS}
theorem fnAt (F : FunD K x qual params body scope [] [] f fd) (g : mg x = some (.ref f)) (Sc : FnScope N ps scope)
    (hb : ∀ (kV doc pm : Value) (an : Option Addr) (cdv ct : Value) (us : List Value), us.length = ps.length → bindArgs (PySem.W.fnOf x qual params body scope .none kV doc pm an cdv ct) ⟨us, []⟩ = pure (ps.zip us))
    (len : ∀ ds Q E, S ds Q E → ds.length = ps.length)
    (der : ∀ (cdv : Value) (A : Around) (outer : List PySem.Env) (s : Shared) (H : Hp) (E : XK) (G : Hp), Room k (A.deeper (envOfC qual scope s.heap.objs.size f cdv)) →
      Takes (XB P w K mg base N qual scope f cdv A outer s H E) (fun cls d _ H => E cls d H) → PassesOwn (model P w) (XB P w K mg base N qual scope f cdv A outer s H E).A (XB P w K mg base N qual scope f cdv A outer s H E).env (XB P w K mg base N qual scope f cdv A outer s H E).xe →
      DSs (XB P w K mg base N qual scope f cdv A outer s H E) (fun cls d _ H => E cls d H) G body m)
    (wp : ∀ ds Q E, S ds Q E → m (enD Q E) (startD N ds)) : FnAt P w K mg base (k + 1) x ps [] S :=
  ⟨f, fd, [], g, F.kp, fn_d F Sc len der wp, F.bindsN hb, .nil⟩
end
/-- what the derivation of a body is given -/
structure Ctx (X : Cx) (W : WX) (k : Nat) : Prop where
  hr : Room k X.A
  tk : Takes X W
  hp : PassesOwn (model X.prog X.w) X.A X.env X.xe
end DL

set_option Elab.async false
set_option linter.all false
set_option maxRecDepth 100000
set_option maxHeartbeats 1000000
/-! DL12: insert, extend, items stored, over data. -/
namespace DL
open PySem L2 PyProof.Rows
section
open PySem.AutoSeq1
theorem list_extW (l : Addr) (items : Array Value) (n : Nat) (b : Addr) (items2 : Array Value) (n2 : Nat) (dd2 : Option Addr) (sl2 : Array (Option Value)) (hs0 : ¬(!items.isEmpty && Builtin.List.listTooLong (items.size + items2.size)) = true) (hs1 : items.size ≤ sizeLine) (hs2 : items.size + items2.size ≤ sizeLine + 1) :
    Meets (Builtin.«list.extend» ⟨[.ref l, .ref b], []⟩) (fun _ R s => s.heap.get? l = some { cls := .type "list", dict := none, data := .seq items n, slots := #[] } ∧ s.heap.get? b = some { cls := .type "list", dict := dd2, data := .seq items2 n2, slots := sl2 } ∧ R (.ok (.ret Value.none)) { s with heap := s.heap.update l (Obj.mapSeq fun x => x ++ items2), toks := s.toks }) :=
  .of_wp fun prog w A R s h => by
    obtain ⟨hp, g, d, tk, os⟩ := s
    obtain ⟨hl, hb, h⟩ := h
    have f1 := AutoSeq1.idx_int
    have f2 := AutoSeq1.sub_tuple_tuple
    have f3 := AutoSeq1.sub_list_list
    have f4 := AutoSeq1.sub_tuple_list
    have f5 := AutoSeq1.sub_list_tuple
    have hz' : (items ++ items2).size ≤ sizeLine + 1 := by
      rw [Array.size_append]
      exact hs2
    wp_walk using (wpAny_updateSeq hl rfl (hz := hs1) (_hz' := hz')), wpAny_loadPart' hl, wpAny_loadPart' hb
    exact ⟨_, rfl, h⟩
theorem list_extWt (l : Addr) (items : Array Value) (n : Nat) (b : Addr) (items2 : Array Value) (n2 : Nat) (dd2 : Option Addr) (sl2 : Array (Option Value)) (hs0 : ¬(!items.isEmpty && Builtin.List.listTooLong (items.size + items2.size)) = true) (hs1 : items.size ≤ sizeLine) (hs2 : items.size + items2.size ≤ sizeLine + 1) :
    Meets (Builtin.«list.extend» ⟨[.ref l, .ref b], []⟩) (fun _ R s => s.heap.get? l = some { cls := .type "list", dict := none, data := .seq items n, slots := #[] } ∧ s.heap.get? b = some { cls := .type "tuple", dict := dd2, data := .seq items2 n2, slots := sl2 } ∧ R (.ok (.ret Value.none)) { s with heap := s.heap.update l (Obj.mapSeq fun x => x ++ items2), toks := s.toks }) :=
  .of_wp fun prog w A R s h => by
    obtain ⟨hp, g, d, tk, os⟩ := s
    obtain ⟨hl, hb, h⟩ := h
    have f1 := AutoSeq1.idx_int
    have f2 := AutoSeq1.sub_tuple_tuple
    have f3 := AutoSeq1.sub_list_list
    have f4 := AutoSeq1.sub_tuple_list
    have f5 := AutoSeq1.sub_list_tuple
    have hz' : (items ++ items2).size ≤ sizeLine + 1 := by
      rw [Array.size_append]
      exact hs2
    wp_walk using (wpAny_updateSeq hl rfl (hz := hs1) (_hz' := hz')), wpAny_loadPart' hl, wpAny_loadPart' hb
    exact ⟨_, rfl, h⟩
end
section
variable {X : Cx} {W : WX} {G : Hp} {e e2 : Expr} {t t2 : WE} {pos : Pos}
theorem mt_extS : MtR X "list.extend" (fun x vs H Q => ∃ l b xs zs, x = .ref l ∧ vs = [.ref b] ∧ H l = some (.lst xs) ∧ (SqL X.K H b zs ∨ SqT X.K H b zs) ∧ xs.length + zs.length ≤ sizeLine ∧ Q .non (upd H l (.lst (xs ++ zs)))) := by
  intro pins s σ H x vs v us Q I rx rv ⟨l, b, xs, zs, ex, ev, hH, hB, hz, q⟩
  subst ex ev
  cases rx
  obtain ⟨u, rfl, ru⟩ := rv.one
  cases ru
  obtain ⟨z, its, n, r, hl, e⟩ := I.lstM hH
  have go : ∀ its2 : List Value, Vals zs its2 → (∀ R : Result → Shared → Prop, True) → ¬ (!its.toArray.isEmpty && Builtin.List.listTooLong (its.toArray.size + its2.toArray.size)) = true := fun its2 r2 _ => by
    rw [notLongL (by rw [List.size_toArray, List.size_toArray, ← r.length, ← r2.length]; exact hz), Bool.and_false]
    exact Bool.false_ne_true
  have fin : ∀ its2 : List Value, Vals zs its2 → EP X pins σ Q .none { s with heap := s.heap.update l (Obj.mapSeq fun x => x ++ its2.toArray), toks := s.toks } := fun its2 r2 =>
    ⟨.non, _, I.lset (its' := its ++ its2) hH e (by simp) (r.append r2) (by rw [List.length_append]; exact hz), rfl, q⟩
  rcases hB with hB | hB
  · obtain ⟨its2, r2, ⟨o2, n2, e2, c2, d2, ed2⟩, z2⟩ := I.list hB
    obtain ⟨c0, d0, da, sl⟩ := o2
    simp only at c2 d2 ed2
    subst c2 d2 ed2
    refine call_meets F.slot_list_extend ⟨_, e, rfl⟩ F.entry_list_extend (F.args_list_extend_2 _ _)
      (list_extW l its.toArray n b its2.toArray n2 none sl (go its2 r2 fun _ => True.intro) (by rw [List.size_toArray]; omega) (by rw [List.size_toArray, List.size_toArray, ← r.length, ← r2.length]; omega)) ⟨e, e2, fin its2 r2⟩
  · obtain ⟨its2, r2, ⟨o2, e2, c2, n2, ed2⟩, z2⟩ := I.tuple hB
    obtain ⟨c0, d0, da, sl⟩ := o2
    simp only at c2 ed2
    subst c2 ed2
    refine call_meets F.slot_list_extend ⟨_, e, rfl⟩ F.entry_list_extend (F.args_list_extend_2 _ _)
      (list_extWt l its.toArray n b its2.toArray n2 d0 sl (go its2 r2 fun _ => True.intro) (by rw [List.size_toArray]; omega) (by rw [List.size_toArray, List.size_toArray, ← r.length, ← r2.length]; omega)) ⟨e, e2, fin its2 r2⟩

/-- a list or tuple as its items -/
def seqD : D → Option (List D)
  | .list ds => some ds
  | .tuple ds => some ds
  | _ => none
@[simp] theorem seqD_list (ds : List D) : seqD (.list ds) = some ds := rfl
@[simp] theorem seqD_tuple (ds : List D) : seqD (.tuple ds) = some ds := rfl
/-- one own list changes to another of still things -/
theorem lst_turn {B H : Hp} {env : Env} {fp : List Addr} {σ : L2.St} {D : Ends} {d : En} {B0 : Hp} {σ0 : L2.St} {i : Nat} {a : Addr} {ds ds' : List PyData} {vs vs' : List V} (rr : RR X.K G B env fp σ H) (x : SOk X W G B0 d D σ0) (l : Le B0 B)
    (hi : env[i]? = some (some (.lst ds))) (hσ : σ[i]? = some (some (.ref a))) (hl : H a = some (.lst vs)) (r : RepAll X.K B vs' ds') (q : d.nx (env.set i (some (.lst ds')))) : D.nx σ (upd H a (.lst vs')) := by
  obtain ⟨vi, g, h1, h2, h3, h4, h5⟩ := rr.put hi
  rw [hσ] at h1
  cases h1
  cases h2 with
  | lst hl2 rl =>
    have na : B a = none := (h4 a (by simp)).2.1
    obtain ⟨fp', y⟩ := h5 B (upd H a (.lst vs')) (.lst ds') [a] (.refl _) (fun b u q => upd_keep (rr.bh b u q) (ne_of_none q na)) (fun b u n q => upd_keep q fun z => n (by simp [z])) (fun _ _ _ _ q => q)
      (.lst upd_same r) (by simp) (fun b m => ⟨fun _ => m, (h4 b m).2⟩)
    exact x.nx σ _ B _ fp' l y q
/-- x.extend(e) -/
def wExt (i : Nat) (t : WE) : WS := fun D env => ∃ ds, env[i]? = some (some (.lst ds)) ∧ t env (fun r => r.sh ∧ ∃ es, seqD r.d = some es ∧ ds.length + es.length ≤ sizeLine ∧ D.nx (env.set i (some (.lst (ds ++ es))))) (fun n => D.ex n env)
theorem ds_ext {i : Nat} {ob : Expr} {apos cpos : Pos} (ho : PE X ob (tVar i)) (he : DE X W G e t)
    (hbase : attributeBase ob "extend" X.env (eval ob X.env) = eval ob X.env)
    (hfew : ((backTo cpos (starEach [e] X.env)).all (fun x => !x.1) && (backToKw cpos (keywordEach [] X.env)).all (fun x => x.1.isSome)
      && decide ([e].length + ([] : List Keyword).length + (if ([] : List Keyword).isEmpty then 0 else 1) < 30)) = true)
    (hline : (apos.endLine == cpos.line) = true) (hs : starEach [e] X.env = (false, eval e X.env) :: starEach [] X.env) (hplain : (backTo cpos (starEach [] X.env)).any (·.1) = false)
    (hsw : swapsWith (.Call (.Attribute ob "extend" apos) [e] [] cpos) none pos.line X.env = pure false) :
    DS X W G (.Expr (.Call (.Attribute ob "extend" apos) [e] [] cpos) pos) (wExt i t) := by
  refine PSi (ps_expr (pe_bm PySem.F.plainAttrs_list PySem.F.slot_list_extend PySem.F.type_list_extend mt_extS ho (pa_cons he pa_nil hs) hbase hfew hline hs hplain) hsw) fun D σ H ⟨B, env, fp, d, rr, ⟨ds, hi, hm⟩, x⟩ => ?_
  obtain ⟨v, g, h1, h2, h3⟩ := rr.own.get hi
  cases h2 with
  | @lst a vs _ hl rl =>
    refine ⟨.ref a, h1, .inl ⟨rfl, _, .inl (.inl hl)⟩, B, env, fp, _, _, rr, hm, fun u H' B' r e' w ⟨s, es, hes, hz, q⟩ => ?_, x.x rr⟩
    obtain ⟨B2, e2, l2, rv⟩ := w.view e' s
    have hl' := e2.same _ _ hl
    have fin : ∀ zs, RepAll X.K B2 zs es → D.nx σ (upd H' a (.lst (vs ++ zs))) := fun zs rz => lst_turn (rr.ext e2) x e2.le hi h1 hl' ((rl.mono e2.le).append rz) q
    generalize r.d = rd at rv hes
    cases rd <;> simp [seqD] at hes
    · subst hes
      obtain ⟨b, zs, ez, sz, rz⟩ := rv.list e2.bh
      subst ez
      exact ⟨a, b, vs, zs, rfl, rfl, hl', .inl sz, by rw [rl.length, rz.length]; exact hz, fin zs rz⟩
    · subst hes
      obtain ⟨b, zs, ez, sz, rz⟩ := rv.tup e2.bh
      subst ez
      exact ⟨a, b, vs, zs, rfl, rfl, hl', .inr sz, by rw [rl.length, rz.length]; exact hz, fin zs rz⟩
/-- x.insert(i, e), at no place below 0 -/
def insD {α : Type} (xs : List α) (i : Int) (x : α) : List α := xs.take i.toNat ++ [x] ++ xs.drop i.toNat
def wIns (i : Nat) (t t2 : WE) : WS := fun D env => ∃ ds, env[i]? = some (some (.lst ds)) ∧ t env (fun k => t2 env (fun r => r.st ∧ ∃ j : Int, k.d = .int j ∧ 0 ≤ j ∧ j < 2 ^ 63 ∧ ds.length < sizeLine ∧ D.nx (env.set i (some (.lst (insD ds j r.d))))) (fun n => D.ex n env)) (fun n => D.ex n env)
theorem ds_ins {i : Nat} {ob : Expr} {apos cpos : Pos} (ho : PE X ob (tVar i)) (he : DE X W G e t) (he2 : DE X W G e2 t2)
    (hbase : attributeBase ob "insert" X.env (eval ob X.env) = eval ob X.env)
    (hfew : ((backTo cpos (starEach [e, e2] X.env)).all (fun x => !x.1) && (backToKw cpos (keywordEach [] X.env)).all (fun x => x.1.isSome)
      && decide ([e, e2].length + ([] : List Keyword).length + (if ([] : List Keyword).isEmpty then 0 else 1) < 30)) = true)
    (hline : (apos.endLine == cpos.line) = true) (hs : starEach [e, e2] X.env = (false, eval e X.env) :: starEach [e2] X.env) (hs2 : starEach [e2] X.env = (false, eval e2 X.env) :: starEach [] X.env) (hplain : (backTo cpos (starEach [e2] X.env)).any (·.1) = false)
    (hsw : swapsWith (.Call (.Attribute ob "insert" apos) [e, e2] [] cpos) none pos.line X.env = pure false) :
    DS X W G (.Expr (.Call (.Attribute ob "insert" apos) [e, e2] [] cpos) pos) (wIns i t t2) := by
  refine PSi (ps_expr (pe_bm PySem.F.plainAttrs_list PySem.F.slot_list_insert PySem.F.type_list_insert mt_insert ho (pa_cons he (pa_cons he2 pa_nil hs2) hs) hbase hfew hline hs hplain) hsw) fun D σ H ⟨B, env, fp, d, rr, ⟨ds, hi, hm⟩, x⟩ => ?_
  obtain ⟨v, g, h1, h2, h3⟩ := rr.own.get hi
  cases h2 with
  | @lst a vs _ hl rl =>
    refine ⟨.ref a, h1, .inl ⟨rfl, _, .inl (.inl hl)⟩, B, env, fp, _, _, rr, hm, fun u H' B' r e' w q1 => ?_, x.x rr⟩
    refine ⟨B', env, fp, _, _, rr.ext e', q1, fun u2 H2 B2 r2 e2 w2 ⟨s, j, hj, j0, j1, hz, q⟩ => ?_, (x.x rr).later e'.same⟩
    obtain ⟨B3, e3, l3, rk⟩ := w2.keep e2 s
    have eT := e'.trans e3
    have hk := (w.now e').mono e3.same
    rw [hj] at hk
    exact ⟨a, vs, j, u2, rfl, by rw [hk.int_inv], eT.same _ _ hl, by rw [rl.length]; exact hz, j0, j1, lst_turn (rr.ext eT) x eT.le hi h1 (eT.same _ _ hl) ((((rl.mono eT.le).take _).append (.one rk)).append ((rl.mono eT.le).drop _)) q⟩
end
end DL

set_option Elab.async false
set_option linter.all false
set_option maxRecDepth 100000
set_option maxHeartbeats 1000000
/-! DLS: forms of promises; how a reading is opened. -/
namespace DL
open PySem L2 PyProof.Rows
def sp0 (f : (R → Prop) → (Str → Prop) → Prop) : Spec := fun ds Q E => match ds with
  | [] => f Q E
  | _ => False
def sp1 (f : D → (R → Prop) → (Str → Prop) → Prop) : Spec := fun ds Q E => match ds with
  | [a] => f a Q E
  | _ => False
def sp2 (f : D → D → (R → Prop) → (Str → Prop) → Prop) : Spec := fun ds Q E => match ds with
  | [a, b] => f a b Q E
  | _ => False
def sp3 (f : D → D → D → (R → Prop) → (Str → Prop) → Prop) : Spec := fun ds Q E => match ds with
  | [a, b, c] => f a b c Q E
  | _ => False
def sp4 (f : D → D → D → D → (R → Prop) → (Str → Prop) → Prop) : Spec := fun ds Q E => match ds with
  | [a, b, c, d] => f a b c d Q E
  | _ => False
def sp5 (f : D → D → D → D → D → (R → Prop) → (Str → Prop) → Prop) : Spec := fun ds Q E => match ds with
  | [a, b, c, d, e] => f a b c d e Q E
  | _ => False
def sp6 (f : D → D → D → D → D → D → (R → Prop) → (Str → Prop) → Prop) : Spec := fun ds Q E => match ds with
  | [x1, x2, x3, x4, x5, x6] => f x1 x2 x3 x4 x5 x6 Q E
  | _ => False
theorem sp6_len {f} {n : Nat} (hn : n = 6) (ds : List D) (Q : R → Prop) (E : Str → Prop) (h : sp6 f ds Q E) : ds.length = n := by
  subst hn
  match ds, h with
  | [_, _, _, _, _, _], _ => rfl
theorem sp6_w {f} {m : WS} {N : List Str} (h : ∀ x1 x2 x3 x4 x5 x6 Q E, f x1 x2 x3 x4 x5 x6 Q E → m (enD Q E) (startD N [x1, x2, x3, x4, x5, x6])) (ds : List D) (Q : R → Prop) (E : Str → Prop) (x : sp6 f ds Q E) : m (enD Q E) (startD N ds) := by
  match ds, x with
  | [_, _, _, _, _, _], x => exact h _ _ _ _ _ _ _ _ x
@[simp] theorem sp1_at (f) (a : D) (Q : R → Prop) (E : Str → Prop) : sp1 f [a] Q E = f a Q E := rfl
@[simp] theorem sp2_at (f) (a b : D) (Q : R → Prop) (E : Str → Prop) : sp2 f [a, b] Q E = f a b Q E := rfl
@[simp] theorem sp3_at (f) (a b c : D) (Q : R → Prop) (E : Str → Prop) : sp3 f [a, b, c] Q E = f a b c Q E := rfl
@[simp] theorem sp4_at (f) (a b c d : D) (Q : R → Prop) (E : Str → Prop) : sp4 f [a, b, c, d] Q E = f a b c d Q E := rfl
@[simp] theorem sp5_at (f) (a b c d e : D) (Q : R → Prop) (E : Str → Prop) : sp5 f [a, b, c, d, e] Q E = f a b c d e Q E := rfl
theorem sp0_len {f} {n : Nat} (hn : n = 0) (ds : List D) (Q : R → Prop) (E : Str → Prop) (h : sp0 f ds Q E) : ds.length = n := by
  subst hn
  match ds, h with
  | [], _ => rfl
theorem sp1_len {f} {n : Nat} (hn : n = 1) (ds : List D) (Q : R → Prop) (E : Str → Prop) (h : sp1 f ds Q E) : ds.length = n := by
  subst hn
  match ds, h with
  | [_], _ => rfl
theorem sp2_len {f} {n : Nat} (hn : n = 2) (ds : List D) (Q : R → Prop) (E : Str → Prop) (h : sp2 f ds Q E) : ds.length = n := by
  subst hn
  match ds, h with
  | [_, _], _ => rfl
theorem sp3_len {f} {n : Nat} (hn : n = 3) (ds : List D) (Q : R → Prop) (E : Str → Prop) (h : sp3 f ds Q E) : ds.length = n := by
  subst hn
  match ds, h with
  | [_, _, _], _ => rfl
theorem sp4_len {f} {n : Nat} (hn : n = 4) (ds : List D) (Q : R → Prop) (E : Str → Prop) (h : sp4 f ds Q E) : ds.length = n := by
  subst hn
  match ds, h with
  | [_, _, _, _], _ => rfl
theorem sp5_len {f} {n : Nat} (hn : n = 5) (ds : List D) (Q : R → Prop) (E : Str → Prop) (h : sp5 f ds Q E) : ds.length = n := by
  subst hn
  match ds, h with
  | [_, _, _, _, _], _ => rfl
section
variable {m : WS} {N : List Str}
theorem sp0_w {f} (h : ∀ Q E, f Q E → m (enD Q E) (startD N [])) (ds : List D) (Q : R → Prop) (E : Str → Prop) (x : sp0 f ds Q E) : m (enD Q E) (startD N ds) := by
  match ds, x with
  | [], x => exact h _ _ x
theorem sp1_w {f} (h : ∀ a Q E, f a Q E → m (enD Q E) (startD N [a])) (ds : List D) (Q : R → Prop) (E : Str → Prop) (x : sp1 f ds Q E) : m (enD Q E) (startD N ds) := by
  match ds, x with
  | [_], x => exact h _ _ _ x
theorem sp2_w {f} (h : ∀ a b Q E, f a b Q E → m (enD Q E) (startD N [a, b])) (ds : List D) (Q : R → Prop) (E : Str → Prop) (x : sp2 f ds Q E) : m (enD Q E) (startD N ds) := by
  match ds, x with
  | [_, _], x => exact h _ _ _ _ x
theorem sp3_w {f} (h : ∀ a b c Q E, f a b c Q E → m (enD Q E) (startD N [a, b, c])) (ds : List D) (Q : R → Prop) (E : Str → Prop) (x : sp3 f ds Q E) : m (enD Q E) (startD N ds) := by
  match ds, x with
  | [_, _, _], x => exact h _ _ _ _ _ x
theorem sp4_w {f} (h : ∀ a b c d Q E, f a b c d Q E → m (enD Q E) (startD N [a, b, c, d])) (ds : List D) (Q : R → Prop) (E : Str → Prop) (x : sp4 f ds Q E) : m (enD Q E) (startD N ds) := by
  match ds, x with
  | [_, _, _, _], x => exact h _ _ _ _ _ _ x
theorem sp5_w {f} (h : ∀ a b c d e Q E, f a b c d e Q E → m (enD Q E) (startD N [a, b, c, d, e])) (ds : List D) (Q : R → Prop) (E : Str → Prop) (x : sp5 f ds Q E) : m (enD Q E) (startD N ds) := by
  match ds, x with
  | [_, _, _, _, _], x => exact h _ _ _ _ _ _ _ x
end
@[simp] theorem enD_nx (Q : R → Prop) (E : Str → Prop) (e : Env) : (enD Q E).nx e = Q (.v .none) := rfl
@[simp] theorem enD_bk (Q : R → Prop) (E : Str → Prop) (e : Env) : (enD Q E).bk e = False := rfl
@[simp] theorem enD_ct (Q : R → Prop) (E : Str → Prop) (e : Env) : (enD Q E).ct e = False := rfl
@[simp] theorem enD_ex (Q : R → Prop) (E : Str → Prop) (n : Str) (e : Env) : (enD Q E).ex n e = E n := rfl
/-- the promises of defs whose value is a function of the arguments -/
abbrev fn1 (f : D → (R → Prop) → Prop) : Spec := sp1 fun a Q _ => f a Q
theorem list_get0 {α : Type} (a : α) (l : List α) : (a :: l)[0]? = some a := rfl
theorem list_getS {α : Type} (a : α) (l : List α) (n : Nat) : (a :: l)[n + 1]? = l[n]? := rfl
theorem getE1 {α : Type} (a b : α) (l : List α) : (a :: b :: l)[1]? = some b := rfl
theorem getE2 {α : Type} (a b c : α) (l : List α) : (a :: b :: c :: l)[2]? = some c := rfl
theorem getE3 {α : Type} (a b c d : α) (l : List α) : (a :: b :: c :: d :: l)[3]? = some d := rfl
theorem ints_of (ns : List Int) : ns.map PyData.int = ns.map PyData.int := rfl
end DL

set_option Elab.async false
set_option linter.all false
set_option maxRecDepth 100000
set_option maxHeartbeats 1000000
/-! DLH: from a law's promise to its row. -/
namespace DL
open PySem L2 PyProof.Rows
def S_law : Spec := sp1 fun a Q _ => ∃ ns : List Int, a = .list (ns.map PyData.int) ∧ ns.length ≤ 63 ∧ (∀ z ∈ ns, Builtin.Int.intBits z ≤ 1048576) ∧ Q (.v (.bool true))
theorem walk_EB {l : PySem.W.OpenLaw} {n k : Nat} {q : Program} {loose : List Str} {XP : (Str → Option Value) → Heap → Prop} {YP : World → Heap → Prop} {d : DefRec} {CX : World → CXT} {x : Str}
    (hn : l.most = some n) (hn2 : n ≤ sizeLine) (hdf : d.params.defaults = []) (hr : Room k callerA)
    (F : ∀ (w : World) (mg : Str → Option Value) (fa : Addr) (h : Heap), YP w h → h.Ns mainGlobals mg → mg d.name = some (.ref fa) →
      ∃ (K : PySem.W.Frag) (fd : FuncData) (sp : Sp), K.In h ∧ (∀ (s : Shared) (u : Value), BindsTo s fd ⟨[u], []⟩ [(x, u)]) ∧
        (∀ (H : Hp) (a : Addr) (ns : List Int), ns.length ≤ n → (∀ z ∈ ns, Builtin.Int.intBits z ≤ 1048576) → Only H → SqL K H a (ns.map V.int) → sp [.ref a] H (fun v _ => v = .bl true) fun _ _ _ => False) ∧
        ∀ base : Heap, K.In base → base.Ns mainGlobals mg → FnOk l.prog w K mg base (CX w) k fa fd [x] sp)
    (hCX : ∀ (w : World) (H : Hp) (s : Shared) (e : Value) (s' : Shared), CX w [] H s (fun _ _ _ => False) e s' → False) :
    PySem.W.WalkO q loose XP YP l.row.toRowW d [] (fun f vs => PySem.call f vs) := by
  refine Att.attach_callB hn hdf fun w s₀ s₁ mg mb fa o pm cd doc a vs ns G Y ho hd hcd hmg hobj hints hlen hbits hg => ?_
  obtain ⟨K, fd, sp, KX, hb, hsp, hF⟩ := F w mg fa _ Y G.T.g hmg
  exact law_call KX G.T.g G.T.b G.T.builtins G.T.nolimit hg hobj hints (Nat.le_trans hlen hn2) hr hF hb (fun H hO hS => hsp H a ns hlen hbits hO hS) fun H e s' => hCX w H s₁ e s'
theorem cx_none {P : Program} (w : World) (H : Hp) (s : Shared) (e : Value) (s' : Shared) (h : L2.CX P w [] H s (fun _ _ _ => False) e s') : False := by
  obtain ⟨_, _, _, _, _, _, _, _, _, _, _, _, z⟩ := h
  exact z.elim
theorem law_sp {K : K0} {mg : Str → Option Value} (H : Hp) (a : Addr) (ns : List Int) (hl : ns.length ≤ 63) (hb : ∀ z ∈ ns, Builtin.Int.intBits z ≤ 1048576) (_ : Only H) (hS : SqL K H a (ns.map V.int)) :
    dsp K mg S_law [.ref a] H (fun v _ => v = .bl true) fun _ _ _ => False := by
  refine ⟨H, [.list (ns.map PyData.int)], fun r => r.d = .bool true, fun _ => False, .refl H, .cons (.lst hS .ints) .nil, ⟨ns, rfl, hl, hb, rfl⟩, fun v H' B' r e w _ q => ?_, fun _ _ _ h => h.elim⟩
  have h := w.now e
  have q : r.d = .bool true := q
  rw [q] at h
  exact h.bool_inv
/-- the facts that are asked of each text's top -/
def fas0 : List He.Fa := [.free "len", .free "range", .free "isinstance", .free "int", .free "bool", .free "str", .free "list", .free "tuple", .free "dict", .free "set", .free "sorted", .free "sum", .free "max", .free "min", .free "all", .free "any", .free "ord", .free "zip",
  .free "enumerate", .free "reversed", .free "divmod", .free "ValueError"]
section
variable {K : K0} {h : Heap} {mg : Str → Option Value} {fa : List He.Fa} {fn : List He.DefD}
theorem gb_of (X : K.In h) (G : h.Ns mainGlobals mg) (c : He.SaysD (fas0 ++ fa) fn K) : Gb mg where
  len := He.free_ok X G (c.fact 0 (f := .free "len") rfl)
  range := He.free_ok X G (c.fact 1 (f := .free "range") rfl)
  isinstance := He.free_ok X G (c.fact 2 (f := .free "isinstance") rfl)
  int := He.free_ok X G (c.fact 3 (f := .free "int") rfl)
  bool := He.free_ok X G (c.fact 4 (f := .free "bool") rfl)
  str := He.free_ok X G (c.fact 5 (f := .free "str") rfl)
  list := He.free_ok X G (c.fact 6 (f := .free "list") rfl)
  tuple := He.free_ok X G (c.fact 7 (f := .free "tuple") rfl)
  dict := He.free_ok X G (c.fact 8 (f := .free "dict") rfl)
  set := He.free_ok X G (c.fact 9 (f := .free "set") rfl)
  sorted := He.free_ok X G (c.fact 10 (f := .free "sorted") rfl)
  sum := He.free_ok X G (c.fact 11 (f := .free "sum") rfl)
  max := He.free_ok X G (c.fact 12 (f := .free "max") rfl)
  min := He.free_ok X G (c.fact 13 (f := .free "min") rfl)
  all := He.free_ok X G (c.fact 14 (f := .free "all") rfl)
  any := He.free_ok X G (c.fact 15 (f := .free "any") rfl)
  ord := He.free_ok X G (c.fact 16 (f := .free "ord") rfl)
  zip := He.free_ok X G (c.fact 17 (f := .free "zip") rfl)
  enumerate := He.free_ok X G (c.fact 18 (f := .free "enumerate") rfl)
  reversed := He.free_ok X G (c.fact 19 (f := .free "reversed") rfl)
  divmod := He.free_ok X G (c.fact 20 (f := .free "divmod") rfl)
  ValueError := He.free_ok X G (c.fact 21 (f := .free "ValueError") rfl)
/-- a def's function object and its place -/
theorem fun_of (X : K.In h) (G : h.Ns mainGlobals mg) (c : He.SaysD fa fn K) {x : Str} {st : Stmt} (i j : Nat) (hi : fn[i]? = some ⟨(x, none), x, x, defArgs st, defBody st, defScope st, [], []⟩) (hj : fa[j]? = some (.glo x)) :
    ∃ (f : Addr) (fd : FuncData), FunD K x x (defArgs st) (defBody st) (defScope st) [] [] f fd ∧ mg x = some (.ref f) := by
  obtain ⟨fd, F⟩ := c.def_ i hi
  exact ⟨_, fd, F, He.glo_ok X G (c.fact j hj)⟩
theorem ex_of (X : K.In h) (G : h.Ns mainGlobals mg) (c : He.SaysD fa fn K) {x : Str} (i j : Nat) (hi : fa[i]? = some (.exc x)) (hj : fa[j]? = some (.glo x)) : ExAt K mg x := by
  obtain ⟨h1, h2, h3, h4⟩ := He.exc_ok (c.fact i hi)
  exact ⟨_, He.glo_ok X G (c.fact j hj), h1, h2, h3, h4⟩
theorem law_binds {st : Stmt} {f : Addr} {fd : FuncData} (F : FunD K "law" "law" (defArgs st) (defBody st) (defScope st) [] [] f fd)
    (h : ∀ (kV doc pm : Value) (an : Option Addr) (cdv ct : Value) (us : List Value), us.length = 1 → bindArgs (PySem.W.fnOf "law" "law" (defArgs st) (defBody st) (defScope st) .none kV doc pm an cdv ct) ⟨us, []⟩ = pure ((["script"] : List Str).zip us)) (s : Shared) (u : Value) : BindsTo s fd ⟨[u], []⟩ [("script", u)] :=
  FunD.bindsA (ps := ["script"]) F h s [u] rfl
end
end DL

set_option Elab.async false
set_option linter.all false
set_option maxRecDepth 100000
set_option maxHeartbeats 1000000
/-! DLE: equal data, choices. -/
namespace DL
open PySem L2 PyProof.Rows
theorem ite_i {c : Prop} [Decidable c] {a b : Prop} (h1 : c → a) (h2 : ¬c → b) : if c then a else b := by
  by_cases h : c
  · rw [if_pos h]; exact h1 h
  · rw [if_neg h]; exact h2 h
/-- data without dicts, no deeper than k -/
def Sh (k : Nat) (d : D) : Prop := d.canLay0 = true ∧ d.depth ≤ k
theorem Sh.shaped {k : Nat} {d : D} (h : Sh k d) (hk : k ≤ 64) : SeqAt.shaped d = true := by
  unfold SeqAt.shaped
  rw [h.1, decide_eq_true (Nat.le_trans h.2 hk)]; rfl
theorem Sh.mono {k j : Nat} {d : D} (h : Sh k d) (hk : k ≤ j) : Sh j d := ⟨h.1, Nat.le_trans h.2 hk⟩
theorem sh_int (k : Nat) (i : Int) : Sh k (.int i) := ⟨by simp [PyData.canLay0], by simp [PyData.depth]⟩
theorem sh_bool (k : Nat) (i : Bool) : Sh k (.bool i) := ⟨by simp [PyData.canLay0], by simp [PyData.depth]⟩
theorem sh_none (k : Nat) : Sh k .none := ⟨by simp [PyData.canLay0], by simp [PyData.depth]⟩
theorem sh_str (k : Nat) {x : Str} (h : PyData.strOk x = true) : Sh k (.str x) := ⟨by simp [PyData.canLay0, h], by simp [PyData.depth]⟩
theorem sh_all {k : Nat} : ∀ {ds : List D}, (∀ x ∈ ds, Sh k x) → PyData.canLayAll0 ds = true ∧ PyData.depthAll ds ≤ k
  | [], _ => ⟨by simp [PyData.canLayAll0], by simp [PyData.depthAll]⟩
  | x :: xs, h => by
    obtain ⟨h1, h2⟩ := sh_all (ds := xs) fun y m => h y (List.mem_cons_of_mem _ m)
    obtain ⟨h3, h4⟩ := h x (List.mem_cons_self ..)
    exact ⟨by simp [PyData.canLayAll0, h1, h3], by simp [PyData.depthAll]; omega⟩
theorem sh_list {k : Nat} {ds : List D} (h : ∀ x ∈ ds, Sh k x) : Sh (k + 1) (.list ds) := by
  obtain ⟨h1, h2⟩ := sh_all h
  exact ⟨by simp [PyData.canLay0, h1], by simp [PyData.depth]; omega⟩
theorem sh_tuple {k : Nat} {ds : List D} (h : ∀ x ∈ ds, Sh k x) : Sh (k + 1) (.tuple ds) := by
  obtain ⟨h1, h2⟩ := sh_all h
  exact ⟨by simp [PyData.canLay0, h1], by simp [PyData.depth]; omega⟩
theorem eqv_self {k : Nat} {d : D} (h : Sh k d) : PyData.eqv d d = true := SeqAt.eqv_refl d h.1
mutual
/-- no truth values, no dicts within: equal by == is equal -/
def pl : D → Bool
  | .none => true
  | .bool _ => false
  | .int _ => true
  | .str _ => true
  | .list xs => pls xs
  | .tuple xs => pls xs
  | .dict _ => false
def pls : List D → Bool
  | [] => true
  | x :: xs => pl x && pls xs
end
theorem pls_all : ∀ {ds : List D}, (∀ x ∈ ds, pl x = true) → pls ds = true
  | [], _ => by rw [pls]
  | x :: xs, h => by
    rw [pls, h x (List.mem_cons_self ..), pls_all fun y m => h y (List.mem_cons_of_mem _ m)]; rfl
mutual
theorem eqv_pl : ∀ {a b : D}, pl a = true → pl b = true → (PyData.eqv a b = true ↔ a = b)
  | .none, b, _, h => by cases b <;> simp [PyData.eqv, pl] at h ⊢
  | .bool _, _, h, _ => by simp [pl] at h
  | .dict _, _, h, _ => by simp [pl] at h
  | .int _, b, _, h => by cases b <;> simp [PyData.eqv, pl] at h ⊢
  | .str _, b, _, h => by cases b <;> simp [PyData.eqv, pl] at h ⊢
  | .list xs, b, ha, h => by
    rw [pl] at ha
    cases b <;> first | (simp [PyData.eqv, pl] at h ⊢; done) | skip
    rename_i ys
    rw [pl] at h
    simp only [PyData.eqv, PyData.list.injEq]
    exact eqv_pls ha h
  | .tuple xs, b, ha, h => by
    rw [pl] at ha
    cases b <;> first | (simp [PyData.eqv, pl] at h ⊢; done) | skip
    rename_i ys
    rw [pl] at h
    simp only [PyData.eqv, PyData.tuple.injEq]
    exact eqv_pls ha h
theorem eqv_pls : ∀ {a b : List D}, pls a = true → pls b = true → (PyData.eqvAll a b = true ↔ a = b)
  | [], [], _, _ => by simp [PyData.eqvAll]
  | [], _ :: _, _, _ => by simp [PyData.eqvAll]
  | _ :: _, [], _, _ => by simp [PyData.eqvAll]
  | x :: xs, y :: ys, ha, hb => by
    rw [pls, Bool.and_eq_true] at ha hb
    rw [PyData.eqvAll, Bool.and_eq_true, eqv_pl ha.1 hb.1, eqv_pls ha.2 hb.2]
    simp
end
/-- lists of whole numbers -/
abbrev iL (ns : List Int) : List D := ns.map PyData.int
abbrev nL (ns : List Nat) : List D := ns.map fun (n : Nat) => PyData.int (n : Int)
theorem sh_iL (ns : List Int) : Sh 1 (.list (iL ns)) := sh_list fun x m => by
  obtain ⟨n, _, e⟩ := List.mem_map.mp m
  subst e; exact sh_int 0 n
theorem sh_nL (ns : List Nat) : Sh 1 (.list (nL ns)) := sh_list fun x m => by
  obtain ⟨n, _, e⟩ := List.mem_map.mp m
  subst e; exact sh_int 0 n
theorem pl_iL (ns : List Int) : pl (.list (iL ns)) = true := by
  rw [pl]; exact pls_all fun x m => by
    obtain ⟨n, _, e⟩ := List.mem_map.mp m
    subst e; rw [pl]
theorem pl_nL (ns : List Nat) : pl (.list (nL ns)) = true := by
  rw [pl]; exact pls_all fun x m => by
    obtain ⟨n, _, e⟩ := List.mem_map.mp m
    subst e; rw [pl]
theorem nL_inj {a b : List Nat} (h : nL a = nL b) : a = b := by
  refine (List.map_inj_right fun x y e => ?_).mp h
  exact Int.ofNat.inj (PyData.int.inj e)
theorem okEq_lists {k : Nat} {a b : List D} (h1 : Sh k (.list a)) (h2 : Sh k (.list b)) (hk : k ≤ 64) : okEq (.list a) (.list b) := ⟨h1.shaped hk, h2.shaped hk⟩
theorem okEq_tups {k : Nat} {a b : List D} (h1 : Sh k (.tuple a)) (h2 : Sh k (.tuple b)) (hk : k ≤ 64) : okEq (.tuple a) (.tuple b) := ⟨h1.shaped hk, h2.shaped hk⟩
theorem mul_by {a b : Int} (h : b.natAbs < 2 ^ 64) : CMulG a b := IntMulOk.of_right (intBits_le_64 (by omega) (by omega))
theorem mul_of {a b : Int} (h : a.natAbs < 2 ^ 64) : CMulG a b := IntMulOk.of_left (intBits_le_64 (by omega) (by omega))
/-- a row of numbers from lo -/
theorem rgD_get {lo : Int} {n i : Nat} {d : D} (h : (rgD lo n)[i]? = some d) : i < n ∧ d = .int (lo + (i : Int)) := by
  unfold rgD at h
  rw [List.getElem?_map] at h
  cases e : (List.range n)[i]? with
  | none => rw [e] at h; cases h
  | some j =>
    rw [e] at h
    obtain ⟨h1, h2⟩ := List.getElem?_eq_some_iff.mp e
    simp at h h1 h2
    subst h2
    exact ⟨h1, h.symm⟩
theorem rgD_0 (n : Nat) : rgD 0 n = nL (List.range n) := by simp [rgD]
theorem map_get {α : Type} {f : α → D} {l : List α} {i : Nat} {d : D} (h : (l.map f)[i]? = some d) : ∃ x, l[i]? = some x ∧ d = f x := by
  rw [List.getElem?_map] at h
  cases e : l[i]? with
  | none => rw [e] at h; cases h
  | some x => rw [e] at h; exact ⟨x, rfl, (Option.some.inj h).symm⟩
theorem sizeLine_eq : sizeLine = 16777216 := by decide
/-- what the middle of a for's reading asks -/
def FoI (ds : List D) (g : WG) (body : WS) (D : En) (env : Env) : Prop := ∃ J : Nat → Env → Prop, J 0 env ∧ (∀ i d env', ds[i]? = some d → J i env' → g d env' fun env2 => body { D with nx := J (i + 1), ct := J (i + 1), bk := D.nx } env2) ∧ ∀ env', J ds.length env' → D.nx env'
theorem wFor_eq (it : WI) (g : WG) (body : WS) (D : En) (env : Env) : wFor it g body D env = it env (fun ds => FoI ds g body D env) (fun n => D.ex n env) := rfl
/-- a turn of a for is over -/
def NxF {α : Type} (st : α → Env) (I : Nat → α → Prop) (i : Nat) : Env → Prop := fun e => ∃ y, e = st y ∧ I i y
theorem nxF {α : Type} {st : α → Env} {I : Nat → α → Prop} {i : Nat} {e : Env} (y : α) (he : e = st y) (hI : I i y) : NxF st I i e := ⟨y, he, hI⟩
theorem for_go {α : Type} {g : WG} {body : WS} {D : En} {env : Env} {ds : List PyData} (st : α → Env) (I : Nat → α → Prop) (x0 : α) (h0 : env = st x0) (hI : I 0 x0)
    (step : ∀ i d x, ds[i]? = some d → I i x → g d (st x) fun env2 => body { D with nx := NxF st I (i + 1), ct := NxF st I (i + 1), bk := D.nx } env2) (fin : ∀ x, I ds.length x → D.nx (st x)) :
    FoI ds g body D env := for_st st I x0 h0 hI step fin
/-- a turn of a while is over -/
def NxW {α : Type} (st : α → Env) (I : α → Prop) (μ : α → Nat) (n : Nat) : Env → Prop := fun e => ∃ m, m < n ∧ ∃ y, e = st y ∧ I y ∧ m = μ y
theorem nxW {α : Type} {st : α → Env} {I : α → Prop} {μ : α → Nat} {n : Nat} {e : Env} (y : α) (he : e = st y) (hI : I y) (hm : μ y < n) : NxW st I μ n e := ⟨_, hm, y, he, hI, rfl⟩
theorem while_go {α : Type} {c : WT} {body : WS} {D : En} {env : Env} (st : α → Env) (I : α → Prop) (μ : α → Nat) (x0 : α) (h0 : env = st x0) (hI : I x0)
    (step : ∀ x, I x → c (st x) (fun k => if k = true then body { D with nx := NxW st I μ (μ x), ct := NxW st I μ (μ x), bk := D.nx } (st x) else D.nx (st x)) (fun n => D.ex n (st x))) : wWhile c body D env := while_st st I μ x0 h0 hI step
theorem cpow_ok {i j : Int} (h0 : 0 ≤ j) (h1 : j ≤ 1000000) (h2 : i.natAbs < 2 ^ 64) : CPow i j := ⟨h0, h1, h2⟩
theorem cdiv_ok {i j : Int} (h0 : 0 < j) (h1 : j.natAbs.log2 < 9000) : CDivW i j := ⟨h0, h1⟩
theorem bor_nat (a b : Nat) : Builtin.bitOr (a : Int) (b : Int) = ((a ||| b : Nat) : Int) := by
  rw [bitOr_nn (by omega) (by omega)]; rfl
theorem shl_nat (l : Nat) : (1 : Int) * 2 ^ ((l : Nat) : Int).toNat = ((2 ^ l : Nat) : Int) := by simp
theorem shr_nat (a l : Nat) : (a : Int) / 2 ^ ((l : Nat) : Int).toNat = ((a / 2 ^ l : Nat) : Int) := by simp
theorem band1_nat (a : Nat) : Builtin.bitAnd (a : Int) 1 = ((a % 2 : Nat) : Int) := by
  rw [show (1 : Int) = ((1 : Nat) : Int) from rfl, PySem.W.os_band, Nat.and_one_is_mod]
/-- comprehensions over a list of alike things -/
theorem lc_mapE {α : Type} {ls : List α} {enc : α → D} {env : Env} {vs : List Nat} {g : WG} {t : WE} {Q : R → Prop} (f : α → D) (hz : ls.length ≤ sizeLine)
    (h : ∀ x ∈ ls, ∀ A : R → Prop, (∀ r, r.st → r.d = f x → A r) → g (enc x) (wipeE env vs) fun env2 => t env2 A noE) (q : Q (.t (.lst (ls.map f)))) : LcI env (ls.map enc) vs g wYes t Q := by
  refine ⟨fun i acc => acc = (ls.take i).map f, by simp, fun i d acc hd ha => ?_, fun acc ha => ?_⟩
  · obtain ⟨x, hx, e⟩ := map_get hd
    subst e
    have ha : acc = (ls.take i).map f := ha
    refine h x (List.mem_of_getElem? hx) (fun r => r.st ∧ acc.length < sizeLine ∧ acc ++ [r.d] = (ls.take (i + 1)).map f) fun r rs rd => ⟨rs, ?_, ?_⟩
    · have hi := (List.getElem?_eq_some_iff.mp hx).1
      rw [ha, List.length_map, List.length_take]
      omega
    · rw [take_succ hx, List.map_append, ha, rd]; rfl
  · have ha : acc = (ls.take (ls.map enc).length).map f := ha
    rw [ha, List.length_map, List.take_length]; exact q
theorem lc_filterE {α : Type} {ls : List α} {enc : α → D} {env : Env} {vs : List Nat} {g : WG} {c : WT} {t : WE} {Q : R → Prop} (p : α → Bool) (f : α → D) (hz : ls.length ≤ sizeLine)
    (h : ∀ x ∈ ls, ∀ (A : R → Prop) (B : Prop), (p x = true → ∀ r, r.st → r.d = f x → A r) → (p x = false → B) → g (enc x) (wipeE env vs) fun env2 => c env2 (fun k => if k = true then t env2 A noE else B) noE)
    (q : Q (.t (.lst ((ls.filter p).map f)))) : LcI env (ls.map enc) vs g c t Q := by
  refine ⟨fun i acc => acc = ((ls.take i).filter p).map f, by simp, fun i d acc hd ha => ?_, fun acc ha => ?_⟩
  · obtain ⟨x, hx, e⟩ := map_get hd
    subst e
    have ha : acc = ((ls.take i).filter p).map f := ha
    refine h x (List.mem_of_getElem? hx) _ _ (fun pd r rs rd => ⟨rs, ?_, ?_⟩) fun pd => ?_
    · have hi := (List.getElem?_eq_some_iff.mp hx).1
      rw [ha, List.length_map]
      have h1 := List.length_filter_le p (ls.take i)
      rw [List.length_take] at h1
      omega
    · show acc ++ [r.d] = ((ls.take (i + 1)).filter p).map f
      rw [take_succ hx, List.filter_append, List.map_append, ha, rd]
      simp [pd]
    · show acc = ((ls.take (i + 1)).filter p).map f
      rw [take_succ hx, List.filter_append, ha]
      simp [pd]
  · have ha : acc = ((ls.take (ls.map enc).length).filter p).map f := ha
    rw [ha, List.length_map, List.take_length]; exact q
/-- a for over a list of alike things -/
theorem for_goE {α β : Type} {ls : List β} {enc : β → D} {g : WG} {body : WS} {D : En} {env : Env} (st : α → Env) (I : Nat → α → Prop) (x0 : α) (h0 : env = st x0) (hI : I 0 x0)
    (step : ∀ i d x, ls[i]? = some d → I i x → g (enc d) (st x) fun env2 => body { D with nx := NxF st I (i + 1), ct := NxF st I (i + 1), bk := D.nx } env2) (fin : ∀ x, I ls.length x → D.nx (st x)) :
    FoI (ls.map enc) g body D env := for_go st I x0 h0 hI (fun i d x hd hx => by
      obtain ⟨y, hy, e⟩ := map_get hd
      subst e
      exact step i y x hy hx) fun x hx => fin x (by rw [List.length_map] at hx; exact hx)
/-! ### the cases, each by itself -/
section
variable (Q : R → Prop) (q : Bool → Prop) (z : D → Prop)
theorem bAdd_i (i j : Int) : bAdd (.int i) (.int j) Q = Q (.v (.int (i + j))) := rfl
theorem bAdd_s (i j : Str) : bAdd (.str i) (.str j) Q = (i.length + j.length ≤ sizeLine ∧ Q (.v (.str (i ++ j)))) := rfl
theorem bAdd_l (i j : List D) : bAdd (.list i) (.list j) Q = (i.length + j.length ≤ sizeLine ∧ Q (.t (.lst (i ++ j)))) := rfl
theorem bAdd_t (i j : List D) : bAdd (.tuple i) (.tuple j) Q = (i.length + j.length ≤ sizeLine ∧ Q (.v (.tuple (i ++ j)))) := rfl
theorem lenD_s (i : Str) : lenD (.str i) Q = (i.length ≤ sizeLine ∧ Q (.v (.int i.length))) := rfl
theorem lenD_l (i : List D) : lenD (.list i) Q = Q (.v (.int i.length)) := rfl
theorem lenD_t (i : List D) : lenD (.tuple i) Q = Q (.v (.int i.length)) := rfl
theorem lenD_d (i : List (D × D)) : lenD (.dict i) Q = Q (.v (.int i.length)) := rfl
theorem min2D_s (i j : Str) : min2D (.str i) (.str j) Q = Q (.v (.str (if j.cps.toList < i.cps.toList then j else i))) := rfl
theorem min2D_i (i j : Int) : min2D (.int i) (.int j) Q = Q (.v (.int (if j < i then j else i))) := rfl
theorem max2D_i (i j : Int) : max2D (.int i) (.int j) Q = Q (.v (.int (if j > i then j else i))) := rfl
theorem sumD_l (i : List D) : sumD (.list i) Q = ∃ ns : List Int, i = ns.map PyData.int ∧ Q (.v (.int ns.sum)) := rfl
theorem maxD_l (i : List D) : maxD (.list i) Q = ∃ ns : List Int, i = ns.map PyData.int ∧ 0 < ns.length ∧ ∀ m, isGreatest ns m → Q (.v (.int m)) := rfl
theorem minD_l (i : List D) : minD (.list i) Q = ∃ ns : List Int, i = ns.map PyData.int ∧ 0 < ns.length ∧ ∀ m, isLeast ns m → Q (.v (.int m)) := rfl
theorem allD_l (i : List D) : allD (.list i) Q = ∃ bs : List Bool, i = bs.map PyData.bool ∧ Q (.v (.bool (bs.all id))) := rfl
theorem anyD_l (i : List D) : anyD (.list i) Q = ∃ bs : List Bool, i = bs.map PyData.bool ∧ Q (.v (.bool (bs.any id))) := rfl
theorem ordD_s (i : Str) : ordD (.str i) Q = (i.length = 1 ∧ Q (.v (.int (i.cps.getD 0 0 : Nat)))) := rfl
theorem strD_i (i : Int) : strD (.int i) Q = (i.natAbs.log2 < 1920 ∧ Q (.v (.str (toString i)))) := rfl
theorem intD_i (i : Int) : intD (.int i) Q = Q (.v (.int i)) := rfl
theorem intD_b (i : Bool) : intD (.bool i) Q = Q (.v (.int (if i then 1 else 0))) := rfl
theorem intD_s (i : Str) : intD (.str i) Q = ∃ n, PySem.intText? i = some n ∧ i.length ≤ 640 ∧ Q (.v (.int n)) := rfl
theorem listD_l (i : List D) : listD (.list i) Q = Q (.t (.lst i)) := rfl
theorem listD_t (i : List D) : listD (.tuple i) Q = Q (.t (.lst i)) := rfl
theorem tupleD_l (i : List D) : tupleD (.list i) Q = Q (.v (.tuple i)) := rfl
theorem tupleD_t (i : List D) : tupleD (.tuple i) Q = Q (.v (.tuple i)) := rfl
theorem slD_l (i : List D) (lo hi : Option Int) : slD (.list i) lo hi Q = Q (.t (.lst (cut i lo hi))) := rfl
theorem slD_t (i : List D) (lo hi : Option Int) : slD (.tuple i) lo hi Q = Q (.v (.tuple (cut i lo hi))) := rfl
theorem slD_s (i : Str) (lo hi : Option Int) : slD (.str i) lo hi Q = (i.length ≤ sizeLine ∧ Q (.v (.str (cutS i lo hi)))) := rfl
theorem ixD_l (ds : List D) (i : Int) : ixD (.list ds) (.int i) z = ∃ d, atI ds i = some d ∧ z d := rfl
theorem ixD_t (ds : List D) (i : Int) : ixD (.tuple ds) (.int i) z = ∃ d, atI ds i = some d ∧ z d := rfl
theorem ixD_s (x : Str) (i : Int) : ixD (.str x) (.int i) z = (x.length ≤ sizeLine ∧ ∃ c, atI x.cps.toList i = some c ∧ z (.str ⟨#[c]⟩)) := rfl
theorem ixD_d (kvs : List (D × D)) (k : D) : ixD (.dict kvs) k z = ∃ j d, keyD k = some j ∧ lookK kvs j = some d ∧ z d := rfl
theorem cI_i (p a c) (i j : Int) : cI p a c (.int i) (.int j) q = q (p i j) := rfl
theorem cI_s (p a c) (i j : Str) : cI p a c (.str i) (.str j) q = q (a i j) := rfl
theorem cI_t (p a c) (xs ys : List D) : cI p a c (.tuple xs) (.tuple ys) q = ∃ ns ms, xs = ns.map PyData.int ∧ ys = ms.map PyData.int ∧ q (c ns ms) := rfl
theorem cI0_i (p a) (i j : Int) : cI0 p a (.int i) (.int j) q = q (p i j) := rfl
theorem cI0_s (p a) (i j : Str) : cI0 p a (.str i) (.str j) q = q (a i j) := rfl
theorem cIs_n (x : D) : cIs x .none q = q (isN x) := rfl
theorem cIsNot_n (x : D) : cIsNot x .none q = q (!isN x) := rfl
theorem cIn_l (neg : Bool) (x : D) (ys : List D) : cIn neg x (.list ys) q = (flatD x = true ∧ ys.all flatD = true ∧ q (neg != memD x ys)) := rfl
theorem cIn_t (neg : Bool) (x : D) (ys : List D) : cIn neg x (.tuple ys) q = (flatD x = true ∧ ys.all flatD = true ∧ q (neg != memD x ys)) := rfl
theorem cIn_d (neg : Bool) (x : D) (ys : List (D × D)) : cIn neg x (.dict ys) q = ∃ k, keyD x = some k ∧ q (neg != (lookK ys k).isSome) := rfl
theorem cIn_s (neg : Bool) (i j : Str) : cIn neg (.str i) (.str j) q = q (neg != !(Builtin.Str.occurrences j i 0 j.length 1).isEmpty) := rfl
theorem tru_n : tru .none q = q false := rfl
theorem tru_b (b : Bool) : tru (.bool b) q = q b := rfl
theorem tru_i (b : Int) : tru (.int b) q = q (b != 0) := rfl
theorem tru_s (b : Str) : tru (.str b) q = (b.length ≤ sizeLine ∧ q ((b.length : Int) != 0)) := rfl
theorem tru_l (b : List D) : tru (.list b) q = q (!b.isEmpty) := rfl
theorem tru_t (b : List D) : tru (.tuple b) q = q (!b.isEmpty) := rfl
end
/-! ### slices -/
theorem cut_to {α : Type} (xs : List α) (j : Nat) : cut xs none (some (j : Int)) = xs.take j := by
  unfold cut
  rw [HT.sIx_none, HT.sIx_nat, List.drop_zero, Nat.sub_zero]
  by_cases h : j ≤ xs.length
  · rw [Nat.min_eq_left h]
  · rw [Nat.min_eq_right (by omega), List.take_length, List.take_of_length_le (by omega)]
theorem cut_from {α : Type} (xs : List α) (j : Nat) : cut xs (some (j : Int)) none = xs.drop j := by
  unfold cut
  rw [HT.sIx_none, HT.sIx_nat]
  by_cases h : j ≤ xs.length
  · rw [Nat.min_eq_left h, List.take_of_length_le (by simp)]
  · rw [Nat.min_eq_right (by omega), List.drop_length, List.drop_of_length_le (by omega)]; simp
theorem cut_in {α : Type} (xs : List α) (i j : Nat) : cut xs (some (i : Int)) (some (j : Int)) = (xs.take j).drop i := by
  unfold cut
  rw [HT.sIx_nat, HT.sIx_nat, List.drop_take]
  by_cases h : i ≤ xs.length
  · rw [Nat.min_eq_left h]
    by_cases h2 : j ≤ xs.length
    · rw [Nat.min_eq_left h2]
    · rw [Nat.min_eq_right (by omega), List.take_of_length_le (by simp), List.take_of_length_le (by simp; omega)]
  · rw [show min i xs.length = xs.length from by omega, List.drop_length, List.drop_of_length_le (by omega)]; simp
theorem cut_all {α : Type} (xs : List α) : cut xs none none = xs := by
  unfold cut
  rw [HT.sIx_none, HT.sIx_none]
  simp
theorem cut_front {α : Type} (xs : List α) : cut xs none (some (-1)) = xs.dropLast := by
  unfold cut
  have e : HT.sIx xs.length xs.length (some (-1)) = xs.length - 1 := by
    simp only [HT.sIx]
    rw [if_pos (by decide)]; omega
  rw [HT.sIx_none, e, List.dropLast_eq_take]
  simp
theorem atI_nat {α : Type} (xs : List α) (i : Nat) : atI xs (i : Int) = xs[i]? := by
  unfold atI ixN
  rw [if_pos (by omega)]
  by_cases h : i < xs.length
  · rw [if_pos (by omega)]; rfl
  · rw [if_neg (by omega), List.getElem?_eq_none (by omega)]; rfl
end DL

set_option Elab.async false
set_option linter.all false
set_option maxRecDepth 100000
set_option maxHeartbeats 1000000
/-! DLF: loops by the slots that they change; comprehensions by relations. -/
namespace DL
open PySem L2 PyProof.Rows
/-- some slots set -/
def setL (env : Env) : List Nat → List (Option O) → Env
  | i :: is, o :: os => setL (env.set i o) is os
  | _, _ => env
/-! bits -/
theorem and_div2 (a b : Nat) : (a &&& b) / 2 = a / 2 &&& b / 2 := by
  have h : (a &&& b) >>> 1 = a >>> 1 &&& b >>> 1 := by simp [Nat.shiftRight_and_distrib]
  simpa [Nat.shiftRight_eq_div_pow] using h
theorem and_mod2 (a b : Nat) : (a &&& b) % 2 = (a % 2) * (b % 2) := by
  have := Nat.and_mod_two_pow (a := a) (b := b) (n := 1)
  simp only [Nat.pow_one] at this
  rw [this]
  have ha : a % 2 = 0 ∨ a % 2 = 1 := by omega
  have hb : b % 2 = 0 ∨ b % 2 = 1 := by omega
  rcases ha with ha | ha <;> rcases hb with hb | hb <;> rw [ha, hb] <;> decide
theorem or_div2 (a b : Nat) : (a ||| b) / 2 = a / 2 ||| b / 2 := by
  have h : (a ||| b) >>> 1 = a >>> 1 ||| b >>> 1 := by simp [Nat.shiftRight_or_distrib]
  simpa [Nat.shiftRight_eq_div_pow] using h
theorem xor_div2 (a b : Nat) : (a ^^^ b) / 2 = a / 2 ^^^ b / 2 := by
  have h : (a ^^^ b) >>> 1 = a >>> 1 ^^^ b >>> 1 := by simp [Nat.shiftRight_xor_distrib]
  simpa [Nat.shiftRight_eq_div_pow] using h
theorem or_mod2 (a b : Nat) : (a ||| b) % 2 = (a % 2) ||| (b % 2) := by
  have := Nat.or_mod_two_pow (a := a) (b := b) (n := 1)
  simpa only [Nat.pow_one] using this
theorem xor_mod2 (a b : Nat) : (a ^^^ b) % 2 = (a % 2) ^^^ (b % 2) := by
  have := Nat.xor_mod_two_pow (a := a) (b := b) (n := 1)
  simpa only [Nat.pow_one] using this
theorem xor_and (a : Nat) : ∀ b : Nat, (a ^^^ b) + (a &&& b) = a ||| b := by
  induction a using Nat.strongRecOn with
  | ind a ih =>
    intro b
    by_cases h0 : a = 0
    · subst h0; simp
    have h := ih (a / 2) (by omega) (b / 2)
    have e1 := Nat.div_add_mod (a ^^^ b) 2
    have e2 := Nat.div_add_mod (a &&& b) 2
    have e3 := Nat.div_add_mod (a ||| b) 2
    rw [xor_div2, xor_mod2] at e1
    rw [and_div2, and_mod2] at e2
    rw [or_div2, or_mod2] at e3
    have ha : a % 2 = 0 ∨ a % 2 = 1 := by omega
    have hb : b % 2 = 0 ∨ b % 2 = 1 := by omega
    rcases ha with ha | ha <;> rcases hb with hb | hb <;> rw [ha, hb] at e1 e2 e3 <;> simp at e1 e2 e3 <;> omega
theorem bxor_nat (a b : Nat) : Builtin.bitXor (a : Int) (b : Int) = ((a ^^^ b : Nat) : Int) := by
  have h := xor_and a b
  show Builtin.bitOr (a : Int) (b : Int) - Builtin.bitAnd (a : Int) (b : Int) = _
  rw [bor_nat, PySem.W.os_band]
  omega
theorem shl_nat2 (l : Nat) : (1 : Int) * 2 ^ l = ((2 ^ l : Nat) : Int) := by simp
theorem shr_nat2 (a l : Nat) : (a : Int) / 2 ^ l = ((a / 2 ^ l : Nat) : Int) := by simp
/-- two ways meet: what holds then -/
def wSqM (s r : WS) : WS := wSq s r
theorem wSqM_of {s r : WS} {D : En} {env : Env} (h : s { D with nx := r D } env) : wSqM s r D env := wSq_of h
theorem wSqM_by {s r : WS} {D : En} {env : Env} {α : Type} (is : List Nat) (os : α → List (Option O)) (I : α → Prop) (h : s { D with nx := fun e => ∃ x, e = setL env is (os x) ∧ I x } env) (g : ∀ x, I x → r D (setL env is (os x))) : wSqM s r D env :=
  ⟨fun e => ∃ x, e = setL env is (os x) ∧ I x, h, fun e ⟨x, q, i⟩ => by rw [q]; exact g x i⟩
theorem setL_cons (env : Env) (i : Nat) (is : List Nat) (o : Option O) (os : List (Option O)) : setL env (i :: is) (o :: os) = setL (env.set i o) is os := rfl
theorem setL_nil (env : Env) : setL env [] [] = env := rfl
theorem range_get {n i d : Nat} (h : (List.range n)[i]? = some d) : d = i ∧ i < n := by
  obtain ⟨h1, h2⟩ := List.getElem?_eq_some_iff.mp h
  simp at h1 h2
  exact ⟨h2.symm, h1⟩
/-- a for by the slots that it changes -/
theorem for_gs {α β : Type} {ls : List β} {enc : β → D} {g : WG} {body : WS} {D : En} {env : Env} (is : List Nat) (os : α → List (Option O)) (I : Nat → α → Prop) (x0 : α) (h0 : env = setL env is (os x0)) (hI : I 0 x0)
    (step : ∀ i d x, ls[i]? = some d → I i x → g (enc d) (setL env is (os x)) fun env2 => body { D with nx := NxF (fun x => setL env is (os x)) I (i + 1), ct := NxF (fun x => setL env is (os x)) I (i + 1), bk := D.nx } env2)
    (fin : ∀ x, I ls.length x → D.nx (setL env is (os x))) : FoI (ls.map enc) g body D env := for_goE (fun x => setL env is (os x)) I x0 h0 hI step fin
theorem while_gs {α : Type} {c : WT} {body : WS} {D : En} {env : Env} (is : List Nat) (os : α → List (Option O)) (I : α → Prop) (μ : α → Nat) (x0 : α) (h0 : env = setL env is (os x0)) (hI : I x0)
    (step : ∀ x, I x → c (setL env is (os x)) (fun k => if k = true then body { D with nx := NxW (fun x => setL env is (os x)) I μ (μ x), ct := NxW (fun x => setL env is (os x)) I μ (μ x), bk := D.nx } (setL env is (os x)) else D.nx (setL env is (os x))) (fun n => D.ex n (setL env is (os x)))) : wWhile c body D env :=
  while_go (fun x => setL env is (os x)) I μ x0 h0 hI step
theorem set_same (env : Env) (i : Nat) : env.set i ((env[i]?).getD none) = env := by
  apply List.ext_getElem?
  intro j
  by_cases h : i = j
  · subst h
    by_cases hl : i < env.length
    · rw [List.getElem?_set_self hl, List.getElem?_eq_getElem hl]; rfl
    · rw [List.getElem?_eq_none (by simp; omega), List.getElem?_eq_none (by omega)]
  · rw [List.getElem?_set_ne h]
/-- a for that changes no slot but its target's -/
def Stay (env : Env) (i : Nat) : Env → Prop := fun e => ∃ o, e = env.set i o
theorem stay {env e : Env} {i : Nat} (o : Option O) (h : e = env.set i o) : Stay env i e := ⟨o, h⟩
theorem for_chk {β : Type} {ls : List β} {enc : β → D} {body : WS} {D : En} {env : Env} {i : Nat}
    (step : ∀ (k : Nat) x, ls[k]? = some x → body { D with nx := Stay env i, ct := Stay env i, bk := D.nx } (env.set i (some (.fro (enc x)))))
    (fin : ∀ o, D.nx (env.set i o)) : FoI (ls.map enc) (gN i) body D env := by
  refine ⟨fun _ e => Stay env i e, ⟨_, (set_same env i).symm⟩, ?_, ?_⟩
  · rintro k d e hd ⟨o, rfl⟩
    obtain ⟨x, hx, ed⟩ := map_get hd
    subst ed
    have := step k x hx
    unfold gN
    rw [List.set_set]
    exact this
  · rintro e ⟨o, rfl⟩
    exact fin o
theorem for_chk_list {ds : List D} {body : WS} {D : En} {env : Env} {i : Nat}
    (step : ∀ (k : Nat) d, ds[k]? = some d → body { D with nx := Stay env i, ct := Stay env i, bk := D.nx } (env.set i (some (.fro d))))
    (fin : ∀ o, D.nx (env.set i o)) : FoI ds (gN i) body D env := by
  have := for_chk (ls := ds) (enc := id) (i := i) (env := env) (D := D) (body := body) step fin
  rwa [List.map_id] at this
/-- comprehensions by a relation -/
theorem lc_relE {α β : Type} {ls : List α} {enc : α → D} {enc2 : β → D} {env : Env} {vs : List Nat} {g : WG} {t : WE} {Q : R → Prop} (P : α → β → Prop) (hz : ls.length ≤ sizeLine)
    (h : ∀ x ∈ ls, ∀ A : R → Prop, (∀ r y, r.st → r.d = enc2 y → P x y → A r) → g (enc x) (wipeE env vs) fun env2 => t env2 A noE)
    (q : ∀ ys : List β, ys.length = ls.length → (∀ (i : Nat) (x : α) (y : β), ls[i]? = some x → ys[i]? = some y → P x y) → Q (.t (.lst (ys.map enc2)))) : LcI env (ls.map enc) vs g wYes t Q := by
  refine ⟨fun i acc => ∃ ys : List β, acc = ys.map enc2 ∧ ys.length = i ∧ ∀ (j : Nat) (x : α) (y : β), ls[j]? = some x → ys[j]? = some y → P x y, ⟨[], rfl, rfl, by simp⟩, fun i d acc hd ha => ?_, fun acc ha => ?_⟩
  · obtain ⟨x, hx, e⟩ := map_get hd
    subst e
    obtain ⟨ys, e, hl, hp⟩ := ha
    subst e
    have hi := (List.getElem?_eq_some_iff.mp hx).1
    refine h x (List.mem_of_getElem? hx) (fun r => r.st ∧ (ys.map enc2).length < sizeLine ∧ _) fun r y rs rd hy => ⟨rs, by rw [List.length_map]; omega, ys ++ [y], by rw [rd]; simp, by simp [hl], fun j x' y' hx' hy' => ?_⟩
    by_cases hj : j < ys.length
    · rw [List.getElem?_append_left hj] at hy'
      exact hp j x' y' hx' hy'
    · rw [List.getElem?_append_right (by omega)] at hy'
      have hj2 : j - ys.length = 0 := by
        rcases Nat.eq_zero_or_pos (j - ys.length) with z | z
        · exact z
        · rw [List.getElem?_eq_none (by simp; omega)] at hy'; cases hy'
      rw [hj2] at hy'
      have ej : j = i := by omega
      subst ej
      rw [hx] at hx'
      cases hx'
      simp at hy'
      subst hy'
      exact hy
  · obtain ⟨ys, e, hl, hp⟩ := ha
    subst e
    exact q ys (by rw [hl, List.length_map]) hp
/-- .. by a property -/
theorem lc_allE {α β : Type} {ls : List α} {enc : α → D} {enc2 : β → D} {env : Env} {vs : List Nat} {g : WG} {t : WE} {Q : R → Prop} (P : β → Prop) (hz : ls.length ≤ sizeLine)
    (h : ∀ x ∈ ls, ∀ A : R → Prop, (∀ r y, r.st → r.d = enc2 y → P y → A r) → g (enc x) (wipeE env vs) fun env2 => t env2 A noE)
    (q : ∀ ys : List β, ys.length = ls.length → (∀ y ∈ ys, P y) → Q (.t (.lst (ys.map enc2)))) : LcI env (ls.map enc) vs g wYes t Q := by
  refine lc_relE (enc2 := enc2) (fun _ y => P y) hz h fun ys hl hp => q ys hl fun y m => ?_
  obtain ⟨i, hi⟩ := List.mem_iff_getElem?.mp m
  have hlt : i < ls.length := by rw [← hl]; exact (List.getElem?_eq_some_iff.mp hi).1
  exact hp i ls[i] y (List.getElem?_eq_getElem hlt) hi
/-! alike data -/
theorem nL_iff (a b : List Nat) : (nL a = nL b) = (a = b) := propext ⟨nL_inj, fun h => by rw [h]⟩
theorem iL_iff (a b : List Int) : (iL a = iL b) = (a = b) := propext ⟨fun h => (List.map_inj_right fun x y e => PyData.int.inj e).mp h, fun h => by rw [h]⟩
/-- pairs of numbers as data -/
abbrev pD (p : Nat × Nat) : D := .tuple [.int (p.1 : Int), .int (p.2 : Int)]
abbrev pL (ps : List (Nat × Nat)) : List D := ps.map pD
abbrev zD (p : Int × Int) : D := .tuple [.int p.1, .int p.2]
abbrev zL (ps : List (Int × Int)) : List D := ps.map zD
abbrev sL (ps : List Str) : List D := ps.map PyData.str
theorem map_iff {α : Type} {f : α → D} (hf : ∀ x y, f x = f y → x = y) (a b : List α) : (a.map f = b.map f) = (a = b) := propext ⟨fun h => (List.map_inj_right hf).mp h, fun h => by rw [h]⟩
theorem zL_iff (a b : List (Int × Int)) : (zL a = zL b) = (a = b) := map_iff (fun x y e => by simp [zD] at e; exact Prod.ext e.1 e.2) a b
theorem pL_iff (a b : List (Nat × Nat)) : (pL a = pL b) = (a = b) := map_iff (fun x y e => by simp [pD] at e; exact Prod.ext (by omega) (by omega)) a b
theorem sL_iff (a b : List Str) : (sL a = sL b) = (a = b) := map_iff (fun x y e => PyData.str.inj e) a b
theorem pL_snoc (ps : List (Nat × Nat)) (x y : Nat) : pL ps ++ [.tuple [.int (x : Int), .int (y : Int)]] = pL (ps ++ [(x, y)]) := by simp
theorem zL_snoc (ps : List (Int × Int)) (x y : Int) : zL ps ++ [.tuple [.int x, .int y]] = zL (ps ++ [(x, y)]) := by simp
theorem lit_iff (n k : Nat) : ((no_index (OfNat.ofNat n) : Int) = (k : Int)) = (n = k) := propext ⟨fun h => Int.ofNat.inj h, fun h => by rw [h]; rfl⟩
theorem nat_iff (a b : Nat) : ((a : Int) = (b : Int)) = (a = b) := propext ⟨fun h => by omega, fun h => by rw [h]⟩
theorem ex_and {α : Sort _} {a : α} {p : α → Prop} : (∃ x, a = x ∧ p x) = p a := propext ⟨fun ⟨_, rfl, h⟩ => h, fun h => ⟨a, rfl, h⟩⟩
/-! targets of known forms -/
theorem gT_t (n : Nat) (g : WGs) (ds : List D) (env : Env) (Q : Env → Prop) : gT n g (.tuple ds) env Q = (ds.length = n ∧ g ds env Q) := by
  unfold gT
  apply propext
  constructor
  · rintro ⟨d, e, h⟩
    cases e; exact h
  · intro h; exact ⟨ds, rfl, h⟩
theorem gsC_c (g : WG) (r : WGs) (d : D) (ds : List D) (env : Env) (Q : Env → Prop) : gsC g r (d :: ds) env Q = g d env fun env' => r ds env' Q := by
  unfold gsC
  apply propext
  constructor
  · rintro ⟨d, ds, e, h⟩
    cases e; exact h
  · intro h; exact ⟨d, ds, rfl, h⟩
theorem gsN_n (env : Env) (Q : Env → Prop) : gsN [] env Q = Q env := by
  unfold gsN
  simp
/-! in, flat lists -/
theorem flat_iL (ns : List Int) : (iL ns).all flatD = true := by
  rw [List.all_eq_true]; intro x m; obtain ⟨n, _, rfl⟩ := List.mem_map.mp m; rfl
theorem flat_nL (ns : List Nat) : (nL ns).all flatD = true := by
  rw [List.all_eq_true]; intro x m; obtain ⟨n, _, rfl⟩ := List.mem_map.mp m; rfl
theorem flat_sL (ns : List Str) : (ns.map PyData.str).all flatD = true := by
  rw [List.all_eq_true]; intro x m; obtain ⟨n, _, rfl⟩ := List.mem_map.mp m; rfl
theorem memD_iL (x : Int) (ns : List Int) : memD (.int x) (iL ns) = decide (x ∈ ns) := by
  unfold memD
  rw [Bool.eq_iff_iff, List.any_eq_true, decide_eq_true_eq]
  constructor
  · rintro ⟨d, m, e⟩
    obtain ⟨n, hn, rfl⟩ := List.mem_map.mp m
    rw [eqv_int, decide_eq_true_eq] at e
    subst e; exact hn
  · intro h
    exact ⟨_, List.mem_map_of_mem h, by simp⟩
theorem memD_nL (x : Nat) (ns : List Nat) : memD (.int (x : Int)) (nL ns) = decide (x ∈ ns) := by
  unfold memD
  rw [Bool.eq_iff_iff, List.any_eq_true, decide_eq_true_eq]
  constructor
  · rintro ⟨d, m, e⟩
    obtain ⟨n, hn, rfl⟩ := List.mem_map.mp m
    rw [eqv_int, decide_eq_true_eq] at e
    have : n = x := by omega
    subst this; exact hn
  · intro h
    exact ⟨_, List.mem_map_of_mem h, by simp⟩
theorem memD_sL (x : Str) (ns : List Str) : memD (.str x) (ns.map PyData.str) = decide (x ∈ ns) := by
  unfold memD
  rw [Bool.eq_iff_iff, List.any_eq_true, decide_eq_true_eq]
  constructor
  · rintro ⟨d, m, e⟩
    obtain ⟨n, hn, rfl⟩ := List.mem_map.mp m
    rw [eqv_str, decide_eq_true_eq] at e
    subst e; exact hn
  · intro h
    exact ⟨_, List.mem_map_of_mem h, by simp⟩
theorem atI_last {α : Type} {xs : List α} (h : xs ≠ []) : atI xs (-1) = some (xs.getLast h) := by
  unfold atI ixN
  have : 0 < xs.length := List.length_pos_iff.mpr h
  rw [if_neg (by decide), if_pos (by omega)]
  show xs[_]? = _
  rw [List.getLast_eq_getElem h, List.getElem?_eq_getElem (by omega)]
  congr 2
  all_goals first | omega | (simp; omega) | skip
theorem atI_lt {α : Type} {xs : List α} {i : Nat} (h : i < xs.length) : atI xs (i : Int) = some xs[i] := by
  rw [atI_nat, List.getElem?_eq_getElem h]
theorem atI_c0 {α : Type} (a : α) (xs : List α) : atI (a :: xs) 0 = some a := atI_nat (a :: xs) 0
theorem atI_c1 {α : Type} (a b : α) (xs : List α) : atI (a :: b :: xs) 1 = some b := atI_nat (a :: b :: xs) 1
theorem atI_c2 {α : Type} (a b c : α) (xs : List α) : atI (a :: b :: c :: xs) 2 = some c := atI_nat (a :: b :: c :: xs) 2
theorem atI_c3 {α : Type} (a b c d : α) (xs : List α) : atI (a :: b :: c :: d :: xs) 3 = some d := atI_nat (a :: b :: c :: d :: xs) 3
theorem atI_c4 {α : Type} (a b c d e : α) (xs : List α) : atI (a :: b :: c :: d :: e :: xs) 4 = some e := atI_nat (a :: b :: c :: d :: e :: xs) 4
theorem atI_snoc {α : Type} (xs : List α) (x : α) : atI (xs ++ [x]) (-1) = some x := by
  rw [atI_last (by simp)]; simp
theorem atI_msnoc {α β : Type} (f : α → β) (xs : List α) (x : α) : atI ((xs ++ [x]).map f) (-1) = some (f x) := by
  rw [atI_map, atI_snoc]; rfl
/-- a rest that is a natural number -/
theorem emod_nat {a b : Int} (hb : 0 < b) : ∃ n : Nat, a % b = (n : Int) ∧ (n : Int) < b :=
  ⟨(a % b).toNat, (Int.toNat_of_nonneg (Int.emod_nonneg _ (by omega))).symm, by rw [Int.toNat_of_nonneg (Int.emod_nonneg _ (by omega))]; exact Int.emod_lt_of_pos _ hb⟩
/-! equal -/
theorem eqv_nilL (xs : List D) : PyData.eqv (.list xs) (.list []) = xs.isEmpty := by cases xs <;> simp [PyData.eqv, PyData.eqvAll]
theorem eqv_nilT (xs : List D) : PyData.eqv (.tuple xs) (.tuple []) = xs.isEmpty := by cases xs <;> simp [PyData.eqv, PyData.eqvAll]
theorem okEq_of {k : Nat} {a b : D} (h1 : Sh k a) (h2 : Sh k b) (hk : k ≤ 64) : okEq a b := by
  have x1 := h1.shaped hk
  have x2 := h2.shaped hk
  cases a <;> cases b <;> first | exact True.intro | exact ⟨x1, x2⟩
theorem sh_map {α : Type} {k : Nat} {f : α → D} (h : ∀ x, Sh k (f x)) (l : List α) : Sh (k + 1) (.list (l.map f)) := sh_list fun x m => by
  obtain ⟨n, _, rfl⟩ := List.mem_map.mp m; exact h n
theorem sh_mapT {α : Type} {k : Nat} {f : α → D} (h : ∀ x, Sh k (f x)) (l : List α) : Sh (k + 1) (.tuple (l.map f)) := sh_tuple fun x m => by
  obtain ⟨n, _, rfl⟩ := List.mem_map.mp m; exact h n
/-- alike data of a known depth, held against itself -/
theorem same_go {k : Nat} {a : D} {Q : Bool → Prop} (h : Sh k a) (hk : k ≤ 64) (hq : Q true) : okEq a a ∧ Q (PyData.eqv a a) := ⟨okEq_of h h hk, by rw [eqv_self h]; exact hq⟩
theorem ne_self_go {k : Nat} {a : D} {A B : Prop} (h : Sh k a) (hk : k ≤ 64) (hb : B) : okEq a a ∧ if (!PyData.eqv a a) = true then A else B := ⟨okEq_of h h hk, by rw [eqv_self h, if_neg (by simp)]; exact hb⟩
theorem sh_nLs (l : List (List Nat)) : Sh 2 (.list (l.map fun xs => .list (nL xs))) := sh_map (fun xs => sh_nL xs) l
theorem okEq_nL (a b : List Nat) : okEq (.list (nL a)) (.list (nL b)) = True := eq_true (okEq_of (sh_nL a) (sh_nL b) (by decide))
theorem eqv_nL (a b : List Nat) : PyData.eqv (.list (nL a)) (.list (nL b)) = decide (a = b) := by
  rw [Bool.eq_iff_iff, eqv_pl (pl_nL a) (pl_nL b), decide_eq_true_eq]
  simp only [PyData.list.injEq]
  exact ⟨nL_inj, fun h => by rw [h]⟩
theorem okEq_iL (a b : List Int) : okEq (.list (iL a)) (.list (iL b)) = True := eq_true (okEq_of (sh_iL a) (sh_iL b) (by decide))
theorem eqv_iL (a b : List Int) : PyData.eqv (.list (iL a)) (.list (iL b)) = decide (a = b) := by
  rw [Bool.eq_iff_iff, eqv_pl (pl_iL a) (pl_iL b), decide_eq_true_eq]
  simp only [PyData.list.injEq]
  exact ⟨fun h => (List.map_inj_right fun x y e => PyData.int.inj e).mp h, fun h => by rw [h]⟩
theorem okEq_nL0 (a : List Nat) : okEq (.list (nL a)) (.list []) = True := okEq_nL a []
theorem okEq_bL (a b : List Bool) : okEq (.list (a.map PyData.bool)) (.list (b.map PyData.bool)) := okEq_of (k := 1) (sh_list fun x m => by
  obtain ⟨n, _, rfl⟩ := List.mem_map.mp m; exact sh_bool 0 n) (sh_list fun x m => by
  obtain ⟨n, _, rfl⟩ := List.mem_map.mp m; exact sh_bool 0 n) (by decide)
theorem eqv_bL_self (a : List Bool) : PyData.eqv (.list (a.map PyData.bool)) (.list (a.map PyData.bool)) = true := eqv_self (k := 1) (sh_list fun x m => by
  obtain ⟨n, _, rfl⟩ := List.mem_map.mp m; exact sh_bool 0 n)
/-- what a refusal's kinds are held against -/
theorem kinds_go {a b : List Bool} {Q : R → Prop} (h : a = b) (hq : Q (.v (.bool true))) : okEq (.list (a.map PyData.bool)) (.list (b.map PyData.bool)) ∧ Q (.v (.bool (PyData.eqv (.list (a.map PyData.bool)) (.list (b.map PyData.bool))))) := by
  subst h
  exact ⟨okEq_bL _ _, by rw [eqv_bL_self]; exact hq⟩
theorem isEmpty_map {α β : Type} (f : α → β) (xs : List α) : (xs.map f).isEmpty = xs.isEmpty := by cases xs <;> rfl
theorem ixN_lt {n i : Nat} (h : i < n) : ixN n (i : Int) = some i := by
  unfold ixN
  rw [if_pos (by omega), if_pos (by omega)]; simp
theorem nL_snoc (xs : List Nat) (c : Nat) : nL xs ++ [PyData.int (c : Int)] = nL (xs ++ [c]) := by simp
theorem nL_set (xs : List Nat) (i : Nat) (v : Nat) : (nL xs).set i (PyData.int (v : Int)) = nL (xs.set i v) := by simp
theorem iL_set (xs : List Int) (i : Nat) (v : Int) : (iL xs).set i (PyData.int v) = iL (xs.set i v) := by simp
theorem iL_snoc (xs : List Int) (c : Int) : iL xs ++ [PyData.int c] = iL (xs ++ [c]) := by simp
theorem sL_snoc (xs : List Str) (c : Str) : xs.map PyData.str ++ [PyData.str c] = (xs ++ [c]).map PyData.str := by simp
theorem map_insD {α β : Type} (f : α → β) (xs : List α) (i : Int) (x : α) : insD (xs.map f) i (f x) = (insD xs i x).map f := by
  unfold insD
  simp [List.map_take, List.map_drop]
theorem mem_insD {α : Type} {xs : List α} {i : Int} {x y : α} : y ∈ insD xs i x ↔ y = x ∨ y ∈ xs := by
  unfold insD
  constructor
  · intro h
    simp only [List.mem_append, List.mem_singleton] at h
    rcases h with (h | h) | h
    · exact .inr (List.mem_of_mem_take h)
    · exact .inl h
    · exact .inr (List.mem_of_mem_drop h)
  · rintro (h | h)
    · simp [h]
    · rw [← List.take_append_drop i.toNat xs] at h
      simp only [List.mem_append] at h
      simp only [List.mem_append, List.mem_singleton]
      rcases h with h | h
      · exact .inl (.inl h)
      · exact .inr h
theorem insD_length {α : Type} (xs : List α) (i : Int) (x : α) : (insD xs i x).length = xs.length + 1 := by
  unfold insD
  simp only [List.length_append, List.length_take, List.length_drop, List.length_cons, List.length_nil]
  omega
theorem atI_map_lt {α β : Type} (f : α → β) {xs : List α} {i : Nat} (h : i < xs.length) : atI (xs.map f) (i : Int) = some (f xs[i]) := by
  rw [atI_map, atI_lt h]; rfl
theorem atI_map_last {α β : Type} (f : α → β) {xs : List α} (h : xs ≠ []) : atI (xs.map f) (-1) = some (f (xs.getLast h)) := by
  rw [atI_map, atI_last h]; rfl
/-! slices at written places -/
theorem cut_toL {α : Type} (xs : List α) (n : Nat) : cut xs none (some (no_index (OfNat.ofNat n))) = xs.take n := cut_to xs n
theorem cut_fromL {α : Type} (xs : List α) (n : Nat) : cut xs (some (no_index (OfNat.ofNat n))) none = xs.drop n := cut_from xs n
theorem cut_toM {α β : Type} (f : α → β) (xs : List α) (n : Nat) : cut (xs.map f) none (some (no_index (OfNat.ofNat n))) = (xs.take n).map f := by
  rw [cut_toL, List.map_take]
theorem cut_fromM {α β : Type} (f : α → β) (xs : List α) (n : Nat) : cut (xs.map f) (some (no_index (OfNat.ofNat n))) none = (xs.drop n).map f := by
  rw [cut_fromL, List.map_drop]
theorem cut_inL {α : Type} (xs : List α) (m n : Nat) : cut xs (some (no_index (OfNat.ofNat m))) (some (no_index (OfNat.ofNat n))) = (xs.take n).drop m := cut_in xs m n
theorem cut_inM {α β : Type} (f : α → β) (xs : List α) (m n : Nat) : cut (xs.map f) (some (no_index (OfNat.ofNat m))) (some (no_index (OfNat.ofNat n))) = ((xs.take n).drop m).map f := by
  rw [cut_inL, List.map_drop, List.map_take]
theorem take_len {α : Type} {xs : List α} {n k : Nat} (h : xs.length ≤ k) : (xs.take n).length ≤ k := by rw [List.length_take]; omega
theorem drop_len {α : Type} {xs : List α} {n k : Nat} (h : xs.length ≤ k) : (xs.drop n).length ≤ k := by rw [List.length_drop]; omega
theorem le_line {n k : Nat} (h : n ≤ k) (hk : k ≤ 16777216) : n ≤ sizeLine := by rw [sizeLine_eq]; omega
theorem lt_line {n k : Nat} (h : n < k) (hk : k ≤ 16777216) : n < sizeLine := by rw [sizeLine_eq]; omega
end DL

set_option Elab.async false
set_option linter.all false
set_option maxRecDepth 100000
set_option maxHeartbeats 1000000
/-! DL13: zip, enumerate, reversed, ranges by steps, texts, walked over data. -/
namespace DL
open PySem L2 PyProof.Rows
theorem zipD_get {xs ys : List D} {i : Nat} {d e : D} (h : xs[i]? = some d) (g : ys[i]? = some e) : (List.zipWith (fun a b => PyData.tuple [a, b]) xs ys)[i]? = some (.tuple [d, e]) := by
  rw [List.getElem?_zipWith, h, g]
theorem zip_flat {xs ys : List D} {i : Nat} {d e : D} (fl : xs.all flatD = true ∨ ys.all flatD = true) (h : xs[i]? = some d) (g : ys[i]? = some e) : ∃ x ∈ [d, e], flatD x = true := by
  rcases fl with fl | fl
  · exact ⟨d, by simp, List.all_eq_true.mp fl d (List.mem_of_getElem? h)⟩
  · exact ⟨e, by simp, List.all_eq_true.mp fl e (List.mem_of_getElem? g)⟩
def zipD (xs ys : List D) : List D := List.zipWith (fun a b => PyData.tuple [a, b]) xs ys
theorem zipD_len (xs ys : List D) : (zipD xs ys).length = min xs.length ys.length := by unfold zipD; rw [List.length_zipWith]
theorem zipD_map {α β : Type} (f : α → D) (g : β → D) (xs : List α) (ys : List β) : zipD (xs.map f) (ys.map g) = (xs.zip ys).map fun p => PyData.tuple [f p.1, g p.2] := by
  unfold zipD
  rw [List.zipWith_map, List.zip, List.map_zipWith]
theorem walk_zip {K : K0} {B : Hp} {a b : Addr} {vs ws : List V} {ds es : List D} (s : SqL K B a vs) (r : RepAll K B vs ds) (s2 : SqL K B b ws) (r2 : RepAll K B ws es) (fl : ds.all flatD = true ∨ es.all flatD = true) : Walk K B (Itz K a b) (zipD ds es) where
  go := fun i H B1 l1 l2 h => by
    rw [zipD_len] at h
    have h1 : i < vs.length := by rw [r.length]; omega
    have h2 : i < ws.length := by rw [r2.length]; omega
    exact ⟨vs, ws, vs[i], ws[i], (l1.trans l2).sqL s, (l1.trans l2).sqL s2, by simp [h1], by simp [h2]⟩
  stop := fun i H B1 l1 l2 h => by
    rw [zipD_len] at h
    exact ⟨vs, ws, (l1.trans l2).sqL s, (l1.trans l2).sqL s2, by rw [r.length, r2.length]; omega⟩
  yld := fun i H x H' B1 hlt l1 l2 ⟨T, x1, y1, e, n, e2, y, y'⟩ => by
    subst e e2
    obtain ⟨d, h1, h2⟩ := r.getV (y vs ((l1.trans l2).sqL s))
    obtain ⟨d', h3, h4⟩ := r2.getV (y' ws ((l1.trans l2).sqL s2))
    refine ⟨_, upd B1 T (.tup [x1, y1]), zipD_get h1 h3, .put l2 n _, .tup (.inl (.inl upd_same)) ?_ (.inr (zip_flat fl h1 h3))⟩
    have m := Ext.put l2 n (HO.tup [x1, y1])
    exact .cons ((h2.mono l1).mono m.le) (.cons ((h4.mono l1).mono m.le) .nil)
theorem walk_zipT {K : K0} {B : Hp} {a b : Addr} {vs ws : List V} {ds es : List D} (s : SqT K B a vs) (r : RepAll K B vs ds) (s2 : SqT K B b ws) (r2 : RepAll K B ws es) (fl : ds.all flatD = true ∨ es.all flatD = true) : Walk K B (RZ.ItzT K a b) (zipD ds es) where
  go := fun i H B1 l1 l2 h => by
    rw [zipD_len] at h
    have h1 : i < vs.length := by rw [r.length]; omega
    have h2 : i < ws.length := by rw [r2.length]; omega
    exact ⟨vs, ws, vs[i], ws[i], (l1.trans l2).sqT s, (l1.trans l2).sqT s2, by simp [h1], by simp [h2]⟩
  stop := fun i H B1 l1 l2 h => by
    rw [zipD_len] at h
    exact ⟨vs, ws, (l1.trans l2).sqT s, (l1.trans l2).sqT s2, by rw [r.length, r2.length]; omega⟩
  yld := fun i H x H' B1 hlt l1 l2 ⟨T, x1, y1, e, n, e2, y, y'⟩ => by
    subst e e2
    obtain ⟨d, h1, h2⟩ := r.getV (y vs ((l1.trans l2).sqT s))
    obtain ⟨d', h3, h4⟩ := r2.getV (y' ws ((l1.trans l2).sqT s2))
    refine ⟨_, upd B1 T (.tup [x1, y1]), zipD_get h1 h3, .put l2 n _, .tup (.inl (.inl upd_same)) ?_ (.inr (zip_flat fl h1 h3))⟩
    have m := Ext.put l2 n (HO.tup [x1, y1])
    exact .cons ((h2.mono l1).mono m.le) (.cons ((h4.mono l1).mono m.le) .nil)
/-- zip of two lists or of two tuples -/
def zipR : D → D → (List D → Prop) → Prop
  | .list xs, .list ys, Q => (xs.all flatD = true ∨ ys.all flatD = true) ∧ Q (zipD xs ys)
  | .tuple xs, .tuple ys, Q => (xs.all flatD = true ∨ ys.all flatD = true) ∧ Q (zipD xs ys)
  | _, _, _ => False
theorem zipR_l (xs ys : List D) (Q : List D → Prop) : zipR (.list xs) (.list ys) Q = ((xs.all flatD = true ∨ ys.all flatD = true) ∧ Q (zipD xs ys)) := rfl
theorem zipR_t (xs ys : List D) (Q : List D → Prop) : zipR (.tuple xs) (.tuple ys) Q = ((xs.all flatD = true ∨ ys.all flatD = true) ∧ Q (zipD xs ys)) := rfl
def wiZip (p q : WE) : WI := fun env Q E => p env (fun x => q env (fun y => (x.st ∧ y.st) ∧ zipR x.d y.d Q) E) E
section
variable {X : Cx} {W : WX} {G : Hp} {tg iter e a b c : Expr} {m ma mb mc : WE} {pos tpos : Pos}
theorem di_zip {p : Pos} {elts : List Expr} {kk : Nat} (hg : Gl X "zip") (hm : X.mg "zip" = none) (ha : DE X W G a ma) (hb : DE X W G b mb) (hs : starEach [a, b] X.env = (false, eval a X.env) :: starEach [b] X.env := by rfl) (hs2 : starEach [b] X.env = (false, eval b X.env) :: starEach [] X.env := by rfl)
    (hpl : (backTo pos (starEach [b] X.env)).any (·.1) = false := by rfl) : DI X W G (.Tuple elts kk tpos) (.Call (.Name "zip" p) [a, b] [] pos) (wiZip ma mb) := by
  refine PIi (RZ.pi_zipA hg hm (pa_cons ha (pa_cons hb pa_nil hs2) hs) hs hpl) fun σ H R ⟨B, env, fp, Q, E, rr, hm, hq, hx⟩ => ?_
  refine ⟨B, env, fp, _, E, rr, hm, fun v H1 B1 r e1 w q1 => ?_, hx⟩
  by_cases sr : r.st
  · obtain ⟨B2, e2, l2, rp⟩ := w.keep e1 sr
    refine ⟨B2, env, fp, _, E, rr.ext e2, q1, fun v2 H3 B3 r2 e3 w2 ⟨⟨s1, s2⟩, q⟩ => ?_, hx.later e2.same⟩
    obtain ⟨B4, e4, l4, rp2⟩ := w2.keep e3 s2
    have rp := rp.mono e4.le
    generalize r.d = d1 at rp q
    generalize r2.d = d2 at rp2 q
    have eT := e2.trans e4
    cases d1 <;> cases d2 <;> first | exact (show False from q).elim | skip
    · obtain ⟨x1, vs, ev, s, t⟩ := rp.list_inv
      obtain ⟨x2, ws, ev2, s2, t2⟩ := rp2.list_inv
      subst ev ev2
      exact ⟨x1, x2, vs, ws, rfl, .inl ⟨e4.bh.sqL s, e4.bh.sqL s2, hq _ _ B4 _ eT (walk_zip s t s2 t2 q.1) q.2⟩⟩
    · obtain ⟨x1, vs, ev, s, t⟩ := rp.tup_inv
      obtain ⟨x2, ws, ev2, s2, t2⟩ := rp2.tup_inv
      subst ev ev2
      exact ⟨x1, x2, vs, ws, rfl, .inr ⟨e4.bh.sqT s, e4.bh.sqT s2, hq _ _ B4 _ eT (walk_zipT s t s2 t2 q.1) q.2⟩⟩
  · exact ⟨B1, env, fp, _, E, rr.ext e1, q1, fun v2 H3 B3 r2 e3 w2 q => (sr q.1.1).elim, hx.later e1.same⟩
def enumD (xs : List D) : List D := xs.mapIdx fun i d => PyData.tuple [.int (i : Int), d]
theorem walk_enum {K : K0} {B : Hp} {a : Addr} {vs : List V} {ds : List D} (s : SqL K B a vs) (r : RepAll K B vs ds) : Walk K B (Ite K a) (enumD ds) where
  go := fun i H B1 l1 l2 h => by
    have h : i < ds.length := by simpa [enumD] using h
    have h1 : i < vs.length := by rw [r.length]; omega
    exact ⟨vs, vs[i], (l1.trans l2).sqL s, by simp [h1]⟩
  stop := fun i H B1 l1 l2 h => by
    have h : ds.length ≤ i := by simpa [enumD] using h
    exact ⟨vs, (l1.trans l2).sqL s, by rw [r.length]; exact h⟩
  yld := fun i H x H' B1 hlt l1 l2 ⟨T, x1, e, n, e2, y⟩ => by
    subst e e2
    obtain ⟨d, h1, h2⟩ := r.getV (y vs ((l1.trans l2).sqL s))
    refine ⟨_, upd B1 T (.tup [.int (i : Nat), x1]), by unfold enumD; rw [List.getElem?_mapIdx, h1]; rfl, .put l2 n _, .tup (.inl (.inl upd_same)) ?_ (.inr ⟨_, List.mem_cons_self, rfl⟩)⟩
    exact .cons (.int _) (.cons ((h2.mono l1).mono (Ext.put l2 n (HO.tup [.int (i : Nat), x1])).le) .nil)
def wiEnum (p : WE) : WI := fun env Q E => p env (fun x => x.st ∧ ∃ ds, x.d = .list ds ∧ Q (enumD ds)) E
theorem di_enum {p : Pos} {elts : List Expr} {kk : Nat} (hg : Gl X "enumerate") (hm : X.mg "enumerate" = none) (ha : DE X W G a ma) (hs : starEach [a] X.env = [(false, eval a X.env)] := by rfl) (hs2 : starEach [a] X.env = (false, eval a X.env) :: starEach [] X.env := by rfl) :
    DI X W G (.Tuple elts kk tpos) (.Call (.Name "enumerate" p) [a] [] pos) (wiEnum ma) := by
  refine PIi (pi_enum hg hm (pa_cons ha pa_nil hs2) hs) fun σ H R ⟨B, env, fp, Q, E, rr, hm, hq, hx⟩ => ?_
  refine ⟨B, env, fp, _, E, rr, hm, fun v H1 B1 r e1 w ⟨s, ds, ed, q⟩ => ?_, hx⟩
  obtain ⟨B2, e2, l2, rp⟩ := w.keep e1 s
  rw [ed] at rp
  obtain ⟨a, vs, ev, sv, t⟩ := rp.list_inv
  subst ev
  exact ⟨a, vs, rfl, e2.bh.sqL sv, hq _ H1 B2 _ e2 (walk_enum sv t) q⟩
theorem rev_get {α : Type} {xs : List α} {i : Nat} (h : i < xs.length) : xs.reverse[i]? = xs[xs.length - 1 - i]? := by
  rw [List.getElem?_reverse h]
theorem walk_rev {K : K0} {B : Hp} {a : Addr} {vs : List V} {ds : List D} (s : SqL K B a vs) (r : RepAll K B vs ds) : Walk K B (Itv K a vs.length) ds.reverse where
  go := fun i H B1 l1 l2 h => by
    rw [List.length_reverse, ← r.length] at h
    have h1 : vs.length - 1 - i < vs.length := by omega
    exact ⟨h, vs, vs[vs.length - 1 - i], (l1.trans l2).sqL s, by simp [h1]⟩
  stop := fun i H B1 l1 l2 h => by
    rw [List.length_reverse, ← r.length] at h
    exact h
  yld := fun i H x H' B1 hlt l1 l2 ⟨e, y⟩ => by
    subst e
    rw [List.length_reverse] at hlt
    obtain ⟨d, h1, h2⟩ := r.getV (y vs ((l1.trans l2).sqL s))
    rw [r.length] at h1
    exact ⟨d, B1, by rw [rev_get hlt, h1], .refl l2, h2.mono l1⟩
theorem walk_revT {K : K0} {B : Hp} {a : Addr} {vs : List V} {ds : List D} (s : SqT K B a vs) (r : RepAll K B vs ds) : Walk K B (RT.ItvT K a vs.length) ds.reverse where
  go := fun i H B1 l1 l2 h => by
    rw [List.length_reverse, ← r.length] at h
    have h1 : vs.length - 1 - i < vs.length := by omega
    exact ⟨h, vs, vs[vs.length - 1 - i], (l1.trans l2).sqT s, by simp [h1]⟩
  stop := fun i H B1 l1 l2 h => by
    rw [List.length_reverse, ← r.length] at h
    exact h
  yld := fun i H x H' B1 hlt l1 l2 ⟨e, y⟩ => by
    subst e
    rw [List.length_reverse] at hlt
    obtain ⟨d, h1, h2⟩ := r.getV (y vs ((l1.trans l2).sqT s))
    rw [r.length] at h1
    exact ⟨d, B1, by rw [rev_get hlt, h1], .refl l2, h2.mono l1⟩
def wiRev (p : WE) : WI := fun env Q E => p env (fun x => x.st ∧ ∃ ds, seqD x.d = some ds ∧ Q ds.reverse) E
theorem di_rev {p : Pos} (hg : Gl X "reversed") (hm : X.mg "reversed" = none) (ha : DE X W G a ma) (hs : starEach [a] X.env = (false, eval a X.env) :: starEach [] X.env := by rfl) : DI X W G tg (.Call (.Name "reversed" p) [a] [] pos) (wiRev ma) := by
  refine PIi (RT.pi_revA hg hm ha hs) fun σ H R ⟨B, env, fp, Q, E, rr, hm, hq, hx⟩ => ?_
  refine ⟨B, env, fp, _, E, rr, hm, fun v H1 B1 r e1 w ⟨s, ds, ed, q⟩ => ?_, hx⟩
  obtain ⟨B2, e2, l2, rp⟩ := w.keep e1 s
  generalize r.d = d at rp ed
  cases d <;> simp [seqD] at ed
  · subst ed
    obtain ⟨a, vs, ev, sv, t⟩ := rp.list_inv
    exact ⟨a, vs, ev, .inl ⟨e2.bh.sqL sv, hq _ H1 B2 _ e2 (walk_rev sv t) q⟩⟩
  · subst ed
    obtain ⟨a, vs, ev, sv, t⟩ := rp.tup_inv
    exact ⟨a, vs, ev, .inr ⟨e2.bh.sqT sv, hq _ H1 B2 _ e2 (walk_revT sv t) q⟩⟩
/-- a range by steps -/
def rgS (lo c : Int) (n : Nat) : List D := (List.range n).map fun (i : Nat) => .int (lo + (i : Int) * c)
theorem walk_range3 {K : K0} {B : Hp} (lo c : Int) (n : Nat) : Walk K B (Itc lo c n) (rgS lo c n) where
  go := fun i H B1 l1 l2 h => by
    have h : i < n := by simpa [rgS] using h
    exact h
  stop := fun i H B1 l1 l2 h => by
    have h : n ≤ i := by simpa [rgS] using h
    exact h
  yld := fun i H x H' B1 hlt l1 l2 y => by
    obtain ⟨e1, e2⟩ := y
    subst e1 e2
    have hlt : i < n := by simpa [rgS] using hlt
    exact ⟨_, B1, by unfold rgS; rw [List.getElem?_map, List.getElem?_range hlt]; rfl, .refl l2, .int _⟩
def wiR3 (p q t : WE) : WI := fun env Q E => p env (fun x => q env (fun y => t env (fun z => ∃ i j c : Int, x.d = .int i ∧ y.d = .int j ∧ z.d = .int c ∧ ∃ n, RgC i j c n ∧ Q (rgS i c n)) E) E) E
theorem di_range3 {p : Pos} (hg : Gl X "range") (hm : X.mg "range" = none) (ha : DE X W G a ma) (hb : DE X W G b mb) (hc : DE X W G c mc) (hs : starEach [a, b, c] X.env = (false, eval a X.env) :: starEach [b, c] X.env := by rfl) (hs2 : starEach [b, c] X.env = (false, eval b X.env) :: starEach [c] X.env := by rfl)
    (hs3 : starEach [c] X.env = (false, eval c X.env) :: starEach [] X.env := by rfl) (hpl : (backTo pos (starEach [b, c] X.env)).any (·.1) = false := by rfl) : DI X W G tg (.Call (.Name "range" p) [a, b, c] [] pos) (wiR3 ma mb mc) := by
  refine PIi (pi_range3 hg hm (pa_cons ha (pa_cons hb (pa_cons hc pa_nil hs3) hs2) hs) hs hpl) fun σ H R ⟨B, env, fp, Q, E, rr, hm, hq, hx⟩ => ?_
  refine ⟨B, env, fp, _, E, rr, hm, fun v H1 B1 r e1 w q1 => ?_, hx⟩
  refine ⟨B1, env, fp, _, E, rr.ext e1, q1, fun v2 H2 B2 r2 e2 w2 q2 => ?_, hx.later e1.same⟩
  refine ⟨B2, env, fp, _, E, (rr.ext e1).ext e2, q2, fun v3 H3 B3 r3 e3 w3 ⟨i, j, k, ed1, ed2, ed3, n, hc, q⟩ => ?_, hx.later (e1.same.trans e2.same)⟩
  have h1 := ((w.now e1).mono e2.same).mono e3.same
  have h2 := (w2.now e2).mono e3.same
  have h3 := w3.now e3
  rw [ed1] at h1
  rw [ed2] at h2
  rw [ed3] at h3
  exact ⟨i, j, k, n, by rw [h1.int_inv, h2.int_inv, h3.int_inv], hc, hq _ H3 B3 _ ((e1.trans e2).trans e3) (walk_range3 i k n) q⟩
theorem rgc_up {i j c : Int} (hc : 1 ≤ c) (hc2 : c < 1000000) (h1 : -(2 ^ 60) ≤ i) (h2 : i < 2 ^ 60) (h3 : -(2 ^ 60) ≤ j) (h4 : j < 2 ^ 60) : RgC i j c (if i < j then (j - i - 1) / c + 1 else 0).toNat := by
  have hd : i < j → 0 ≤ (j - i - 1) / c := fun h => Int.ediv_nonneg (by omega) (by omega)
  have hle : i < j → (j - i - 1) / c ≤ j - i - 1 := fun h => Int.ediv_le_self _ (by omega)
  have e : Builtin.Range.rangeSize i j c = ((if i < j then (j - i - 1) / c + 1 else 0).toNat : Int) := by
    unfold Builtin.Range.rangeSize
    rw [if_pos (by omega)]
    split
    · have := hd (by assumption)
      omega
    · rfl
  refine ⟨by omega, by omega, ?_, e⟩
  unfold Builtin.Range.small
  rw [e]
  generalize hm : (if i < j then (j - i - 1) / c + 1 else 0).toNat = m
  have hm2 : m ≤ 2 ^ 61 := by
    subst hm
    split
    · have := hd (by assumption); have := hle (by assumption); omega
    · omega
  simp only [Builtin.Range.rangeFitsLong, Bool.and_eq_true, Bool.or_eq_true, decide_eq_true_eq, beq_iff_eq]
  rw [if_pos (by omega)]
  simp only [Bool.and_eq_true, decide_eq_true_eq]
  omega
theorem rgc_down {i j : Int} (h1 : -(2 ^ 62) ≤ i) (h2 : i < 2 ^ 62) (h3 : -(2 ^ 62) ≤ j) (h4 : j < 2 ^ 62) : RgC i j (-1) (i - j).toNat :=
  ⟨by decide, by decide, PySem.W.small_down h1 h2 h3 h4, PySem.W.rangeSize_downNat i j⟩
/-- a text's signs -/
def sgD (x : Str) : List D := x.cps.toList.map fun c => .str ⟨#[c]⟩
theorem walk_str {K : K0} {B : Hp} (x : Str) : Walk K B (Its x) (sgD x) where
  go := fun i H B1 l1 l2 h => by
    have h : i < x.cps.size := by simpa [sgD] using h
    exact h
  stop := fun i H B1 l1 l2 h => by
    have h : x.cps.size ≤ i := by simpa [sgD] using h
    exact h
  yld := fun i H v H' B1 hlt l1 l2 ⟨e, c, h, ev⟩ => by
    subst e ev
    refine ⟨_, B1, by unfold sgD; rw [List.getElem?_map, Array.getElem?_toList, h]; rfl, .refl l2, .str _⟩
def wiS (p : WE) : WI := fun env Q E => p env (fun r => ∃ x, r.d = .str x ∧ Q (sgD x)) E
theorem di_str (h : DE X W G e m) : DI X W G tg e (wiS m) := by
  refine PIi (pi_str h) fun σ H R ⟨B, env, fp, Q, E, rr, hm, hq, hx⟩ => ?_
  refine ⟨B, env, fp, _, E, rr, hm, fun v H1 B1 r e1 w ⟨x, ed, q⟩ => ?_, hx⟩
  have hv := w.now e1
  rw [ed] at hv
  exact ⟨x, hv.str_inv, hq _ H1 B1 _ e1 (walk_str x) q⟩
/-! ### a list, a tuple or a text, as it comes -/
def iAny (K : PySem.W.Frag) (te : TE) : TI := fun σ H R => te σ H fun x H1 => (∃ a xs, x = .ref a ∧ SqL K H1 a xs ∧ R (Itl K a) H1) ∨ (∃ a xs, x = .ref a ∧ SqT K H1 a xs ∧ R (Itt K a) H1) ∨ ∃ z, x = .str z ∧ R (Its z) H1
theorem pi_any {te : TE} (he : PE X e te) : PI X tg e (iAny X.K te) := by
  refine ⟨fun pins s σ H R I h => ?_⟩
  refine thn (he.run pins s σ H _ I h) fun v s1 ⟨x, H1, I1, r1, q1⟩ => ?_
  rcases q1 with ⟨a, xs, ex, hq, q⟩ | ⟨a, xs, ex, hq, q⟩ | ⟨x, ex, q⟩
  · subst ex
    cases r1
    obtain ⟨its, rv, p, hz⟩ := I1.list hq
    refine wpAny_pyIter_list p.isList ?_
    refine ⟨s1.heap.objs.size, [s1.heap.objs.size], _, _, H1, rfl, I1.kept (t' := s1.toks) fun b o e => Heap.get?_push_of_some _ e, turn_list a _, ⟨_, Heap.get?_push_size _ rfl, rfl, rfl⟩, fun b hb => ?_, q⟩
    have e : b = s1.heap.objs.size := by simpa using hb
    subst e
    exact I1.fpOk (Nat.le_refl _) (I1.hok.fresh (Nat.le_refl _))
  · subst ex
    cases r1
    obtain ⟨its, rv, p, hz⟩ := I1.tuple hq
    refine wpAny_pyIter_tuple (show s1.heap.IsTuple a its.toArray from p) ?_
    refine ⟨s1.heap.objs.size, [s1.heap.objs.size], _, _, H1, rfl, I1.kept (t' := s1.toks) fun b o e => Heap.get?_push_of_some _ e, turn_tuple a _, ⟨_, Heap.get?_push_size _ rfl, rfl, rfl⟩, fun b hb => ?_, q⟩
    have e : b = s1.heap.objs.size := by simpa using hb
    subst e
    exact I1.fpOk (Nat.le_refl _) (I1.hok.fresh (Nat.le_refl _))
  · subst ex
    obtain ⟨t, rfl⟩ := r1
    cases ha : x.cps.all (· < 128)
    · exact wpAny_pyIter_wide ha (pi_one (tk := s1.toks) I1 _ (turn_str _ x t "str_iterator" (.inr rfl)) ⟨_, Heap.get?_push_size _ rfl, rfl, rfl⟩ q)
    · exact wpAny_pyIter_ascii ha (pi_one (tk := s1.toks) I1 _ (turn_str _ x t "str_ascii_iterator" (.inl rfl)) ⟨_, Heap.get?_push_size _ rfl, rfl, rfl⟩ q)
def walkA (r : R) (Q : List D → Prop) : Prop := (r.st ∧ ∃ ds, r.d = .list ds ∧ Q ds) ∨ (r.st ∧ ∃ ds, r.d = .tuple ds ∧ Q ds) ∨ ∃ x, r.d = .str x ∧ Q (sgD x)
def walkAB (r : R) (Q : List D → Prop) : Prop := (r.sh ∧ ∃ ds, r.d = .list ds ∧ Q ds) ∨ (r.st ∧ ∃ ds, r.d = .tuple ds ∧ Q ds) ∨ ∃ x, r.d = .str x ∧ Q (sgD x)
theorem walkA_l (ds : List D) (Q : List D → Prop) : walkA (.v (.list ds)) Q = Q ds := by simp [walkA]
theorem walkA_t (ds : List D) (Q : List D → Prop) : walkA (.v (.tuple ds)) Q = Q ds := by simp [walkA]
theorem walkA_s (x : Str) (Q : List D → Prop) : walkA (.v (.str x)) Q = Q (sgD x) := by simp [walkA]
theorem walkA_n (ds : List D) (Q : List D → Prop) : walkA (.t (.lst ds)) Q = Q ds := by simp [walkA]
theorem walkAB_l (ds : List D) (Q : List D → Prop) : walkAB (.v (.list ds)) Q = Q ds := by simp [walkAB]
theorem walkAB_t (ds : List D) (Q : List D → Prop) : walkAB (.v (.tuple ds)) Q = Q ds := by simp [walkAB]
theorem walkAB_s (x : Str) (Q : List D → Prop) : walkAB (.v (.str x)) Q = Q (sgD x) := by simp [walkAB]
theorem walkAB_n (ds : List D) (Q : List D → Prop) : walkAB (.t (.lst ds)) Q = Q ds := by simp [walkAB]
theorem walkAB_b (ds : List D) (Q : List D → Prop) : walkAB (.b (.lst ds)) Q = Q ds := by simp [walkAB]
def wiA (t : WE) : WI := fun env Q E => t env (fun r => walkA r Q) E
def wiAB (t : WE) : WI := fun env Q E => t env (fun r => walkAB r Q) E
theorem di_any (h : DE X W G e m) : DI X W G tg e (wiA m) := by
  refine PIi (pi_any h) fun σ H R ⟨B, env, fp, Q, E, rr, hm, hq, hx⟩ => ?_
  refine ⟨B, env, fp, _, E, rr, hm, fun v H1 B1 r e1 w q => ?_, hx⟩
  rcases q with ⟨s, ds, ed, q⟩ | ⟨s, ds, ed, q⟩ | ⟨x, ed, q⟩
  · obtain ⟨B2, e2, l2, rp⟩ := w.keep e1 s
    rw [ed] at rp
    obtain ⟨a, vs, ev, sv, t⟩ := rp.list_inv
    exact .inl ⟨a, vs, ev, e2.bh.sqL sv, hq _ H1 B2 ds e2 (walk_list sv t) q⟩
  · obtain ⟨B2, e2, l2, rp⟩ := w.keep e1 s
    rw [ed] at rp
    obtain ⟨a, vs, ev, sv, t⟩ := rp.tup_inv
    exact .inr (.inl ⟨a, vs, ev, e2.bh.sqT sv, hq _ H1 B2 ds e2 (walk_tup sv t) q⟩)
  · have hv := w.now e1
    rw [ed] at hv
    exact .inr (.inr ⟨x, hv.str_inv, hq _ H1 B1 _ e1 (walk_str x) q⟩)
theorem dic_any (h : DE X W G e m) : DIc X W G tg e (wiAB m) := by
  refine PIi (pi_any h) fun σ H R ⟨B, env, fp, Q, E, rr, hm, hq, hx⟩ => ?_
  refine ⟨B, env, fp, _, E, rr, hm, fun v H1 B1 r e1 w q => ?_, hx⟩
  rcases q with ⟨s, ds, ed, q⟩ | ⟨s, ds, ed, q⟩ | ⟨x, ed, q⟩
  · obtain ⟨B2, e2, l2, rp⟩ := w.view e1 s
    rw [ed] at rp
    obtain ⟨a, vs, ev, sv, t⟩ := rp.list e2.bh
    exact .inl ⟨a, vs, ev, sv, hq _ H1 B2 ds e2 (walkH_list sv t) q⟩
  · obtain ⟨B2, e2, l2, rp⟩ := w.keep e1 s
    rw [ed] at rp
    obtain ⟨a, vs, ev, sv, t⟩ := rp.tup_inv
    exact .inr (.inl ⟨a, vs, ev, e2.bh.sqT sv, hq _ H1 B2 ds e2 (walk_tup sv t).toH q⟩)
  · have hv := w.now e1
    rw [ed] at hv
    exact .inr (.inr ⟨x, hv.str_inv, hq _ H1 B1 _ e1 (walk_str x).toH q⟩)
end
end DL

set_option Elab.async false
set_option linter.all false
set_option maxRecDepth 100000
set_option maxHeartbeats 1000000
/-! DL14: items stored, own lists of own things changed within, unpacking, two targets at once. -/
namespace DL
open PySem L2 PyProof.Rows
section
variable {K : K0} {B B' H H' : Hp}
theorem OwnAll.setO {v : V} {o : O} {g : List Addr} (w : Own K B H v o g) (ng : g.Nodup) : ∀ {vs : List V} {os : List O} {f : List Addr} (j : Nat), OwnAll K B H vs os f → f.Nodup → (∀ a ∈ g, a ∉ f) →
    ∃ f', OwnAll K B H (vs.set j v) (os.set j o) f' ∧ f'.Nodup ∧ ∀ a ∈ f', a ∈ f ∨ a ∈ g
  | _, _, _, _, .nil, nf, _ => ⟨[], .nil, by simp, by simp⟩
  | _, _, _, 0, .cons (f := f1) (g := f2) r t, nf, dj => by
    obtain ⟨n1, n2, n3⟩ := List.nodup_append.mp nf
    refine ⟨g ++ f2, .cons w t, List.nodup_append.mpr ⟨ng, n2, fun a m b m' e => dj a m (e ▸ List.mem_append_right _ m')⟩, fun a m => ?_⟩
    rcases List.mem_append.mp m with m | m
    · exact .inr m
    · exact .inl (List.mem_append_right _ m)
  | _, _, _, j + 1, .cons (f := f1) (g := f2) r t, nf, dj => by
    obtain ⟨n1, n2, n3⟩ := List.nodup_append.mp nf
    obtain ⟨f', h1, h2, h3⟩ := OwnAll.setO w ng j t n2 fun a m z => dj a m (List.mem_append_right _ z)
    refine ⟨f1 ++ f', .cons r h1, List.nodup_append.mpr ⟨n1, h2, fun a m b m' e => ?_⟩, fun a m => ?_⟩
    · subst e
      rcases h3 a m' with z | z
      · exact n3 a m a z rfl
      · exact dj a z (List.mem_append_left _ m)
    · rcases List.mem_append.mp m with m | m
      · exact .inl (List.mem_append_left _ m)
      · rcases h3 a m with z | z
        · exact .inl (List.mem_append_right _ z)
        · exact .inr z
/-- an own thing within an own list changes -/
theorem OwnAll.atO : ∀ {vs : List V} {os : List O} {f : List Addr} {j : Nat} {o : O}, OwnAll K B H vs os f → f.Nodup → os[j]? = some o →
    ∃ v g, vs[j]? = some v ∧ Own K B H v o g ∧ (∀ a ∈ g, a ∈ f) ∧ g.Nodup ∧ ∀ (B' H' : Hp) (o' : O) (g' : List Addr), Le B B' → (∀ a ∈ f, a ∉ g → H' a = H a) → Own K B' H' v o' g' → g'.Nodup → (∀ a ∈ g', a ∈ f → a ∈ g) →
      ∃ f', OwnAll K B' H' vs (os.set j o') f' ∧ f'.Nodup ∧ ∀ a ∈ f', (a ∈ f ∧ a ∉ g) ∨ a ∈ g'
  | _, _, _, _, _, .nil, _, e => by simp at e
  | _, _, _, 0, _, .cons (f := f1) (g := f2) r t, nf, e => by
    simp at e; subst e
    obtain ⟨n1, n2, n3⟩ := List.nodup_append.mp nf
    refine ⟨_, f1, rfl, r, fun a m => List.mem_append_left _ m, n1, fun B' H' o' g' l k w ng dj => ?_⟩
    refine ⟨g' ++ f2, .cons w (t.mono l fun a m => k a (List.mem_append_right _ m) fun z => n3 a z a m rfl), List.nodup_append.mpr ⟨ng, n2, fun a m b m' e => ?_⟩, fun a m => ?_⟩
    · subst e; exact n3 a (dj a m (List.mem_append_right _ m')) a m' rfl
    · rcases List.mem_append.mp m with m | m
      · exact .inr m
      · exact .inl ⟨List.mem_append_right _ m, fun z => n3 a z a m rfl⟩
  | _, _, _, j + 1, _, .cons (f := f1) (g := f2) r t, nf, e => by
    obtain ⟨n1, n2, n3⟩ := List.nodup_append.mp nf
    obtain ⟨v, g, h1, h2, h3, h4, h5⟩ := OwnAll.atO (j := j) t n2 (by simpa using e)
    refine ⟨v, g, by simpa using h1, h2, fun a m => List.mem_append_right _ (h3 a m), h4, fun B' H' o' g' l k w ng dj => ?_⟩
    obtain ⟨f', q1, q2, q3⟩ := h5 B' H' o' g' l (fun a m n => k a (List.mem_append_right _ m) n) w ng fun a m z => dj a m (List.mem_append_right _ z)
    refine ⟨f1 ++ f', .cons (r.mono l fun a m => k a (List.mem_append_left _ m) fun z => n3 a m a (h3 a z) rfl) q1, List.nodup_append.mpr ⟨n1, q2, fun a m b m' e => ?_⟩, fun a m => ?_⟩
    · subst e
      rcases q3 a m' with z | z
      · exact n3 a m a z.1 rfl
      · have := dj a z (List.mem_append_left _ m)
        exact n3 a m a (h3 a this) rfl
    · rcases List.mem_append.mp m with m | m
      · exact .inl ⟨List.mem_append_left _ m, fun z => n3 a m a (h3 a z) rfl⟩
      · rcases q3 a m with z | z
        · exact .inl ⟨List.mem_append_right _ z.1, z.2⟩
        · exact .inr z
end
/-! ### dicts: an item put -/
def putD (kvs : List (D × D)) (k : Key) (d : D) : List (D × D) := if (lookK kvs k).isSome = true then kvs.map (fun p => if keyD p.1 = some k then (p.1, d) else p) else kvs ++ [(kD k, d)]
theorem any_valV (kvs : List (Key × V)) (k : Key) : (kvs.any fun kv => decide (kv.1 = k)) = (valV kvs k).isSome := by
  induction kvs with
  | nil => rfl
  | cons p r ih =>
    rw [List.any_cons]
    by_cases h : p.1 = k
    · rw [valV_pos h]; simp [h]
    · rw [valV_neg h, ← ih]; simp [h]
theorem RepKV.append {K : K0} {B : Hp} : ∀ {xs ys : List (Key × V)} {ds es : List (D × D)}, RepKV K B xs ds → RepKV K B ys es → RepKV K B (xs ++ ys) (ds ++ es)
  | _, _, _, _, .nil, s => s
  | _, _, _, _, .cons r t, s => .cons r (RepKV.append t s)
theorem RepKV.mapPut {K : K0} {B : Hp} {k : Key} {v : V} {d : D} (w : Rep K B v d) : ∀ {kvs : List (Key × V)} {ds : List (D × D)}, RepKV K B kvs ds → RepKV K B (kvs.map fun kv => if kv.1 = k then (kv.1, v) else kv) (ds.map fun p => if keyD p.1 = some k then (p.1, d) else p)
  | _, _, .nil => .nil
  | _, _, .cons (k := j) r t => by
    rw [List.map_cons, List.map_cons]
    by_cases h : j = k
    · subst h
      simp only [keyD_kD, if_true]
      exact .cons w (RepKV.mapPut w t)
    · simp only [keyD_kD, if_neg h, if_neg (fun q : some j = some k => h (Option.some.inj q))]
      exact .cons r (RepKV.mapPut w t)
theorem RepKV.put {K : K0} {B : Hp} {k : Key} {v : V} {d : D} {kvs : List (Key × V)} {ds : List (D × D)} (r : RepKV K B kvs ds) (w : Rep K B v d) : RepKV K B (putK kvs k v) (putD ds k d) := by
  unfold putK putD
  rw [any_valV, r.has]
  split
  · exact r.mapPut w
  · exact r.append (.cons w .nil)
theorem look_put (kvs : List (D × D)) (k j : Key) (d : D) : lookK (putD kvs k d) j = if j = k then some d else lookK kvs j := by
  unfold putD
  split
  · rename_i h
    induction kvs with
    | nil => simp [lookK] at h
    | cons p r ih =>
      rw [List.map_cons, lookK_cons]
      rw [lookK_cons] at h
      by_cases hp : keyD p.1 = some k
      · rw [if_pos hp]
        dsimp only
        by_cases hj : j = k
        · subst hj; rw [if_pos hp, if_pos rfl]
        · rw [hp, if_neg (fun q => hj (Option.some.inj q).symm), if_neg hj, lookK_cons, hp, if_neg (fun q => hj (Option.some.inj q).symm)]
          clear ih h
          induction r with
          | nil => rfl
          | cons p' r' ih' =>
            rw [List.map_cons, lookK_cons, lookK_cons]
            by_cases h2 : keyD p'.1 = some k
            · rw [if_pos h2]; dsimp only; rw [h2, if_neg (fun q => hj (Option.some.inj q).symm), if_neg (fun q => hj (Option.some.inj q).symm)]; exact ih'
            · rw [if_neg h2]
              split
              · rfl
              · exact ih'
      · rw [if_neg hp] at h
        rw [if_neg hp, lookK_cons]
        by_cases hj : keyD p.1 = some j
        · rw [if_pos hj, if_pos hj, if_neg (fun q => hp (by rw [hj, q]))]
        · rw [if_neg hj, if_neg hj, ih h]
  · rename_i h
    have hn : lookK kvs k = none := by
      cases q : lookK kvs k with
      | none => rfl
      | some _ => rw [q] at h; exact absurd rfl h
    clear h
    induction kvs with
    | nil =>
      rw [List.nil_append, lookK_cons]
      dsimp only
      rw [keyD_kD]
      by_cases hj : j = k
      · subst hj; rw [if_pos rfl, if_pos rfl]
      · rw [if_neg (fun q => hj (Option.some.inj q).symm), if_neg hj]
    | cons p r ih =>
      rw [lookK_cons] at hn
      rw [List.cons_append, lookK_cons, lookK_cons]
      by_cases hp : keyD p.1 = some k
      · rw [if_pos hp] at hn; cases hn
      · rw [if_neg hp] at hn
        by_cases hj : keyD p.1 = some j
        · rw [if_pos hj, if_pos hj, if_neg (fun q => hp (by rw [hj, q]))]
        · rw [if_neg hj, if_neg hj, ih hn]
/-! ### an item stored at a name -/
def stO : O → D → R → (O → Prop) → Prop
  | .lst ds, .int j, r, Q => ∃ n, ixN ds.length j = some n ∧ Q (.lst (ds.set n r.d))
  | .lsts os, .int j, r, Q => ∃ n, ixN os.length j = some n ∧ Q (.lsts (os.set n r.o))
  | .dic kvs, k, r, Q => ∃ key, keyD k = some key ∧ kvs.length < sizeLine ∧ Q (.dic (putD kvs key r.d))
  | _, _, _, _ => False
theorem stO_lst (ds : List D) (j : Int) (r : R) (Q : O → Prop) : stO (.lst ds) (.int j) r Q = ∃ n, ixN ds.length j = some n ∧ Q (.lst (ds.set n r.d)) := rfl
theorem stO_lsts (ds : List O) (j : Int) (r : R) (Q : O → Prop) : stO (.lsts ds) (.int j) r Q = ∃ n, ixN ds.length j = some n ∧ Q (.lsts (ds.set n r.o)) := rfl
theorem stO_dic (kvs : List (D × D)) (k : D) (r : R) (Q : O → Prop) : stO (.dic kvs) k r Q = ∃ key, keyD k = some key ∧ kvs.length < sizeLine ∧ Q (.dic (putD kvs key r.d)) := by cases k <;> rfl
def isMut : O → Prop
  | .lst _ => True
  | .lsts _ => True
  | .dic _ => True
  | _ => False
theorem isMut_lst (ds : List D) : isMut (.lst ds) = True := rfl
theorem isMut_lsts (ds : List O) : isMut (.lsts ds) = True := rfl
theorem isMut_dic (ds : List (D × D)) : isMut (.dic ds) = True := rfl
theorem isMut.nraw {o : O} (h : isMut o) (a : Addr) : o ≠ .raw a := fun q => by subst q; exact h
def wSt (i : Nat) (k m : WE) : WS := fun D env => ∃ o, env[i]? = some (some o) ∧ isMut o ∧ m env (fun r => k env (fun kk => r.st ∧ stO o kk.d r fun o' => D.nx (env.set i (some o'))) (fun n => D.ex n env)) (fun n => D.ex n env)
/-- a result, later -/
theorem VOk.fwd {K : K0} {H H1 B1 H3 B3 : Hp} {fp : List Addr} {v : V} {r : R} (e : Ext H1 B1 H3 B3) (x : VOk K H fp B1 H1 v r) : VOk K H fp B3 H3 v r := by
  have keep : ∀ {o : O} {f : List Addr}, Own K B1 H1 v o f → Own K B3 H3 v o f := fun x => x.mono e.le fun a m => by
    obtain ⟨u, h⟩ := x.dom a m
    rw [h]; exact e.same a u h
  cases r with
  | v d => exact Rep.mono e.le x
  | t o =>
    obtain ⟨f, x, nd, hf⟩ := x
    refine ⟨f, keep x, nd, fun a m => ⟨(hf a m).1, ?_⟩⟩
    obtain ⟨u, h⟩ := x.dom a m
    exact e.new a u h (hf a m).2
  | b o => obtain ⟨f, x, hs⟩ := x; exact ⟨f, keep x, hs⟩
theorem PSet.orS {X : Cx} {t t' : TSet} (h : PSet X t) (h' : PSet X t') : PSet X (fun o i v H Q => t o i v H Q ∨ t' o i v H Q) := by
  intro pins s σ H o i v ov iv u Q I ro ri rv q
  rcases q with q | q
  · exact h pins s σ H o i v ov iv u Q I ro ri rv q
  · exact h' pins s σ H o i v ov iv u Q I ro ri rv q
section
open L2 in
variable {X : Cx} {W : WX} {G : Hp} {e ob ix : Expr} {t k m : WE} {pos : Pos}
theorem st_core {B H Hs Bs : Hp} {env : Env} {fp : List Addr} {σ : L2.St} {D : Ends} {d : En} {r : R} {v y : V} {kd : PyData} {i : Nat} {o : O} (rr0 : RR X.K G Bs env fp σ Hs) (e' : Ext Hs Bs H B) (w : VOk X.K Hs fp B H v r) (s : r.st) (hy : Rep X.K H y kd) (x : SOk X W G Bs d D σ)
    (hi : env[i]? = some (some o)) (ha : stO o kd r fun o' => d.nx (env.set i (some o'))) :
    ∃ vi, σ[i]? = some (some vi) ∧ (rSetL vi y v H (fun H1 => D.nx σ H1) ∨ rSetD vi y v H (fun H1 => D.nx σ H1)) := by
  have rr := rr0.ext e'
  cases o with
  | lst ds =>
    cases kd <;> first | exact (show False from ha).elim | skip
    obtain ⟨n, hn, q⟩ := ha
    obtain ⟨B2, e2, l2, rp⟩ := w.keep e' s
    have rr2 := rr0.ext e2
    obtain ⟨vi, g, h1, h2, h3, h4, h5⟩ := rr2.put hi
    cases h2 with
    | @lst a vs _ hl rl =>
      refine ⟨_, h1, .inl ⟨a, vs, _, n, rfl, hy.int_inv, hl, by rw [rl.length]; exact hn, ?_⟩⟩
      have na : B2 a = none := (h4 a (by simp)).2.1
      obtain ⟨fp', z⟩ := h5 B2 (upd H a (.lst (vs.set n v))) (.lst (ds.set n r.d)) [a] (.refl _)
        (fun b u q => upd_keep (rr2.bh b u q) (ne_of_none q na)) (fun b u n q => upd_keep q fun z => n (by simp [z])) (fun _ _ _ _ q => q)
        (.lst upd_same (rl.set rp n)) (by simp) (fun b m => ⟨fun _ => m, (h4 b m).2⟩)
      exact x.nx σ _ B2 _ fp' e2.le z q
  | lsts os =>
    cases kd <;> first | exact (show False from ha).elim | skip
    obtain ⟨n, hn, q⟩ := ha
    obtain ⟨vi, g, h1, h2, h3, h4, h5⟩ := rr.put hi
    cases h2 with
    | @lsts a vs _ f hl rl =>
      refine ⟨_, h1, .inl ⟨a, vs, _, n, rfl, hy.int_inv, hl, by rw [rl.length]; exact hn, ?_⟩⟩
      have na : B a = none := (h4 a (by simp)).2.1
      obtain ⟨na1, nf⟩ := List.nodup_cons.mp h3
      have key : ∀ g', Own X.K B H v r.o g' → g'.Nodup → (∀ b ∈ g', b ∉ fp ∧ B b = none ∧ G b = none) → D.nx σ (upd H a (.lst (vs.set n v))) := fun g' wg ng hg => by
        have dj : ∀ b ∈ g', b ∉ a :: f := fun b m z => (hg b m).1 (h4 b z).1
        obtain ⟨f', t1, t2, t3⟩ := rl.setO wg ng n nf fun b m z => dj b m (List.mem_cons_of_mem _ z)
        have nd2 : (a :: f').Nodup := List.nodup_cons.mpr ⟨fun m => by
          rcases t3 a m with z | z
          · exact na1 z
          · exact dj a z List.mem_cons_self, t2⟩
        have hne : ∀ b ∈ f', upd H a (.lst (vs.set n v)) b = H b := fun b m => upd_ne fun z => by
          subst z
          exact (List.nodup_cons.mp nd2).1 m
        have t1 := t1.mono (H' := upd H a (.lst (vs.set n v))) (Le.refl B) hne
        obtain ⟨fp', y⟩ := h5 B (upd H a (.lst (vs.set n v))) (.lsts (os.set n r.o)) (a :: f') (.refl _)
          (fun b u q => upd_keep (rr.bh b u q) (ne_of_none q na)) (fun b u n q => upd_keep q fun z => n (by simp [z])) (fun _ _ _ _ q => q)
          (.lsts upd_same t1) nd2 (fun b m => by
            rcases List.mem_cons.mp m with z | z
            · subst z; exact ⟨fun _ => List.mem_cons_self, (h4 b List.mem_cons_self).2⟩
            · rcases t3 b z with z | z
              · exact ⟨fun _ => List.mem_cons_of_mem _ z, (h4 b (List.mem_cons_of_mem _ z)).2⟩
              · exact ⟨fun q => absurd q (hg b z).1, (hg b z).2⟩)
        exact x.nx σ _ B _ fp' e'.le y q
      cases r with
      | v d => exact key [] (.fro w) (by simp) fun b m => absurd m (by simp)
      | t o => obtain ⟨g', w, ng, hg⟩ := w; exact key g' w ng (rr0.apart hg)
      | b o => exact s.elim
  | dic kvs =>
    rw [stO_dic] at ha
    obtain ⟨key, hk, hz, q⟩ := ha
    have e1 := kD_of hk
    subst e1
    have e2 := kV_rep hy
    subst e2
    obtain ⟨B2, e2, l2, rp⟩ := w.keep e' s
    have rr2 := rr0.ext e2
    obtain ⟨vi, g, h1, h2, h3, h4, h5⟩ := rr2.put hi
    cases h2 with
    | @dic a vs _ hl rl =>
      refine ⟨_, h1, .inr ⟨a, _, rfl, DPut.k hl (by rw [rl.length]; exact hz), ?_⟩⟩
      have na : B2 a = none := (h4 a (by simp)).2.1
      obtain ⟨fp', z⟩ := h5 B2 (upd H a (.dK (putK vs key v))) (.dic (putD kvs key r.d)) [a] (.refl _)
        (fun b u q => upd_keep (rr2.bh b u q) (ne_of_none q na)) (fun b u n q => upd_keep q fun z => n (by simp [z])) (fun _ _ _ _ q => q)
        (.dic upd_same (rl.put rp)) (by simp) (fun b m => ⟨fun _ => m, (h4 b m).2⟩)
      exact x.nx σ _ B2 _ fp' e2.le z q
  | fro d => cases kd <;> exact (show False from ha).elim
  | raw _ => cases kd <;> exact (show False from ha).elim
theorem ds_st {i : Nat} {p2 : Pos} (hu : X.A.units + 1 < cLine) (ho : PE X ob (tVar i)) (hk : DE X W G ix k) (hm : DE X W G e m)
    (ha : ∀ v, assign (.Subscript ob ix p2) X.env v = (do
      let ov ← holding [v] (eval ob X.env)
      let iv ← holding [v, ov] (eval ix X.env)
      standAt p2
      holding [v, ov, iv] (setItem ov iv v)
      release [v, ov, iv] []))
    (hs : swapsWithSole [.Subscript ob ix p2] e pos.line X.env = pure false) (hw : swappedStores [.Subscript ob ix p2] e X.env = pure none)
    : DS X W G (.Assign [.Subscript ob ix p2] e pos) (wSt i k m) := by
  refine PSi (ps_asg hm (pg_sub ho hk (PSet.orS set_list (set_dict hu)) ha) hs hw) fun D σ H ⟨B, env, fp, d, rr, ⟨o, hi, mu, hmm⟩, x⟩ => ?_
  refine ⟨B, env, fp, _, _, rr, hmm, fun v H1 B1 r e1 w q1 => ?_, x.x rr⟩
  obtain ⟨vi, g, h1, h2, h3⟩ := rr.own.get hi mu.nraw
  refine ⟨vi, h1, B1, env, fp, _, _, rr.ext e1, q1, fun y H3 B3 kr e3 wk ⟨s, q⟩ => ?_, (x.x rr).later e1.same⟩
  obtain ⟨vi', h1', q'⟩ := st_core rr (e1.trans e3) (VOk.fwd e3 w) s (wk.now e3) x hi q
  rw [h1] at h1'
  cases h1'
  exact q'
end
end DL

set_option Elab.async false
set_option linter.all false
set_option maxRecDepth 100000
set_option maxHeartbeats 1000000
/-! DL15: lists repeated, methods of texts, dicts asked with a default, unpacking, two targets, the last item taken off. -/
namespace DL
open PySem L2 PyProof.Rows
theorem q_mulI (l : Addr) (items : Array Value) (n : Nat) (d : Option Addr) (sl : Array (Option Value)) (x : Int) (u : Tok) (hc0 : ¬(!Builtin.List.listFitsIndex x) = true) (hc1 : ¬items.size * x.toNat > (2 ^ 63 - 1) / 8) (hc2 : ¬Builtin.List.listTooLong (items.size * x.toNat) = true) :
    Meets (Builtin.«list.__mul__» ⟨[.ref l, .int x u], []⟩) (fun _ R s => s.heap.get? l = some { cls := .type "list", dict := d, data := .seq items n, slots := sl } ∧ R (.ok (.ret (Value.ref s.heap.objs.size))) { s with heap := s.heap.push { cls := Value.type "list", data := Data.seq (List.foldl (fun x1 x2 => x1 ++ x2) #[] (List.replicate (if items.isEmpty = true then 0 else x.toNat) items)) }, toks := s.toks }) :=
  .of_wp fun prog w A R s h => by
    obtain ⟨hp, g, d, tk, os⟩ := s; obtain ⟨hl, h⟩ := h
    have hsz := AutoListH.joined_fits hc2
    wp_walk; refine wpAny_ite_false (decide_eq_false (Nat.not_lt.mpr hsz)) ?_; wp_walk; exact ⟨_, rfl, h⟩
theorem q_rmulI (a : Int) (t : Tok) (l : Addr) (items : Array Value) (n : Nat) (d : Option Addr) (sl : Array (Option Value)) :
    Meets (Builtin.«int.__rmul__» ⟨[.int a t, .ref l], []⟩) (fun _ R s => s.heap.get? l = some { cls := .type "list", dict := d, data := .seq items n, slots := sl } ∧ R (.ok (.ret Value.notImplemented)) s) :=
  .of_wp fun prog w A R s h => by obtain ⟨hp, g, d, tk, os⟩ := s; obtain ⟨hl, h⟩ := h; wp_walk; exact ⟨_, rfl, h⟩
def repS (a : Str) (k : Int) : Str := ⟨(List.replicate k.toNat a.cps.toList).flatten.toArray⟩
theorem repS_fold (a : Array Nat) : ∀ (n : Nat) (l : List Nat), (List.replicate n a).foldl (· ++ ·) l.toArray = (l ++ (List.replicate n a.toList).flatten).toArray
  | 0, l => by simp
  | n + 1, l => by
    rw [List.replicate_succ, List.foldl_cons, show l.toArray ++ a = (l ++ a.toList).toArray from by obtain ⟨l2⟩ := a; simp, repS_fold a n, List.replicate_succ, List.flatten_cons, List.append_assoc]
theorem repS_size (a : Str) (k : Int) : (repS a k).length = k.toNat * a.length := by
  unfold repS
  show (List.flatten _).toArray.size = _
  simp
  rfl
theorem op_mulStr {X : Cx} : OpR X (binaryOp .Mult) (fun x y H Q => ∃ (a : Str) (k : Int), x = .str a ∧ y = .int k ∧ -(2 ^ 62) ≤ k ∧ k < 2 ^ 62 ∧ a.length * k.toNat ≤ 10000000 ∧ k ≤ 10000000 ∧ Q (.str (repS a k)) H) := by
  intro pins s σ H x y v u Q I rx ry h
  obtain ⟨a, k, rfl, rfl, h1, h2, h3, h4, q⟩ := h
  obtain ⟨t, rfl⟩ := rx
  obtain ⟨t', rfl⟩ := ry
  have e1 : decide (k < -(2 ^ 63 : Int)) = false := decide_eq_false (by omega)
  have e2 : decide (k ≥ 2 ^ 63) = false := decide_eq_false (by omega)
  refine P.mul_str (by rw [e1, e2]; rfl) (fun hk hn hgt => ?_) (fun hk hn => ?_) ?_
  · have hal : (a.length : Int) ≤ 10000000 := by
      have : a.length * 1 ≤ a.length * k.toNat := Nat.mul_le_mul_left _ (by omega)
      omega
    have : (10000000 : Int) ≤ (2 ^ 63 - 1) / k := by
      have := Int.le_ediv_of_mul_le (a := 10000000) (b := 2 ^ 63 - 1) (c := k) (by omega) (by omega)
      exact this
    omega
  · show Builtin.Str.tooLong _ = false
    unfold Builtin.Str.tooLong
    rw [decide_eq_false_iff_not, PySem.sizeLine]
    omega
  · by_cases hk : k < 1
    · rw [if_pos hk]
      have e : repS a k = Str.empty := by
        unfold repS
        rw [show k.toNat = 0 from by omega]
        rfl
      rw [e] at q
      exact ⟨by decide, .str _, H, I.tok _, ⟨_, rfl⟩, q⟩
    rw [if_neg hk]
    by_cases hn : (k == 1 || a.length == 0) = true
    · rw [if_pos hn]
      have e : repS a k = a := by
        unfold repS
        simp only [Bool.or_eq_true, beq_iff_eq] at hn
        rcases hn with rfl | hn
        · simp [List.replicate]
        · obtain ⟨⟨l⟩⟩ := a
          have : l = [] := List.length_eq_zero_iff.mp hn
          subst this
          simp
      rw [e] at q
      exact ⟨.str _, H, I, ⟨_, rfl⟩, q⟩
    · rw [if_neg hn]
      have e : (⟨(List.replicate k.toNat a.cps).foldl (· ++ ·) #[]⟩ : Str) = repS a k := by
        unfold repS
        have := repS_fold a.cps k.toNat []
        rw [List.nil_append] at this
        rw [← this]
      rw [e]
      refine ⟨?_, .str _, H, I.tok _, ⟨_, rfl⟩, q⟩
      show (repS a k).length ≤ _
      rw [repS_size, PySem.sizeLine, Nat.mul_comm]
      omega
def bMul : Op2
  | .int i, .int j, Q => CMulG i j ∧ Q (.v (.int (i * j)))
  | .list ds, .int k, Q => -(2 ^ 63) ≤ k ∧ k < 2 ^ 63 ∧ ds.length * k.toNat ≤ sizeLine ∧ Q (.t (.lst (List.replicate k.toNat ds).flatten))
  | .str a, .int k, Q => -(2 ^ 62) ≤ k ∧ k < 2 ^ 62 ∧ a.length * k.toNat ≤ 10000000 ∧ k ≤ 10000000 ∧ Q (.v (.str (repS a k)))
  | _, _, _ => False
theorem bMul_s (a : Str) (k : Int) (Q : R → Prop) : bMul (.str a) (.int k) Q = (-(2 ^ 62) ≤ k ∧ k < 2 ^ 62 ∧ a.length * k.toNat ≤ 10000000 ∧ k ≤ 10000000 ∧ Q (.v (.str (repS a k)))) := rfl
theorem bMul_i (i j : Int) (Q : R → Prop) : bMul (.int i) (.int j) Q = (CMulG i j ∧ Q (.v (.int (i * j)))) := rfl
theorem bMul_l (ds : List D) (k : Int) (Q : R → Prop) : bMul (.list ds) (.int k) Q = (-(2 ^ 63) ≤ k ∧ k < 2 ^ 63 ∧ ds.length * k.toNat ≤ sizeLine ∧ Q (.t (.lst (List.replicate k.toNat ds).flatten))) := rfl
section
variable {X : Cx} {W : WX} {G : Hp} {e ob a b tg : Expr} {ma mb m mo : WE} {pos : Pos}
theorem op_repS : OpR X (binaryOp .Mult) (fun x y H Q => ∃ l k xs, x = .ref l ∧ y = .int k ∧ SqL X.K H l xs ∧ -(2 ^ 63) ≤ k ∧ k < 2 ^ 63 ∧ xs.length * k.toNat ≤ sizeLine ∧
    ∀ p, H p = none → Q (.ref p) (upd H p (.lst (List.replicate k.toNat xs).flatten))) := by
  intro pins s σ H x y v u Q I rx ry h
  obtain ⟨l, k, xs, rfl, rfl, hS, h1, h2, hz, q⟩ := h
  cases rx
  obtain ⟨t, rfl⟩ := ry
  obtain ⟨its, r, ⟨⟨cls, dd, data, sl⟩, n, e, c, dn, ed⟩, z⟩ := I.list hS
  simp only at c ed
  subst c ed
  have hl : xs.length = its.length := r.length
  have hlen : its.toArray.size * k.toNat ≤ sizeLine := by rw [List.size_toArray, ← hl]; exact hz
  have hcap : ¬ its.toArray.size * k.toNat > (2 ^ 63 - 1) / 8 := by
    have : (sizeLine : Nat) ≤ (2 ^ 63 - 1) / 8 := by decide
    omega
  have hfit : ¬ (!Builtin.List.listFitsIndex k) = true := by
    rw [fitsIndex_both h1 h2]
    exact Bool.false_ne_true
  have hlong : ¬ Builtin.List.listTooLong (its.toArray.size * k.toNat) = true := by
    rw [notLongL hlen]
    exact Bool.false_ne_true
  have hnew : List.foldl (fun x1 x2 => x1 ++ x2) #[] (List.replicate (if its.toArray.isEmpty = true then 0 else k.toNat) its.toArray) = (List.replicate k.toNat its).flatten.toArray := by
    have f0 : ∀ m : Nat, List.foldl (fun x1 x2 => x1 ++ x2) #[] (List.replicate m its.toArray) = (List.replicate m its).flatten.toArray := fun m => by
      have := foldl_rep its m []
      rw [List.nil_append] at this
      exact this
    rw [f0]
    cases its with
    | nil => simp
    | cons a r' => rw [if_neg (by simp)]
  refine wpAny_binaryOp_repeat_ref (T := "list") (U := "int") (by decide) ⟨_, e, rfl⟩ (fun s' => typeIs_int s' k t) noFill_list_mul F.fills_int_mul F.slot_int_rmul repeat_list F.slot_int_index.lookup
    (call_meets F.slot_int_rmul (typeIs_int s k t) F.entry_int_rmul (F.args_int_rmul_2 _ _) (q_rmulI k t l its.toArray n dd sl)
      ⟨e, rfl, ⟨_, e, rfl⟩, call_meets F.slot_list_mul ⟨_, e, rfl⟩ F.entry_list_mul (F.args_list_mul_2 _ _) (q_mulI l its.toArray n dd sl k t hfit hcap hlong) ⟨e, ?_⟩⟩)
  rw [hnew]
  have rep : ∀ m : Nat, Vals (List.replicate m xs).flatten (List.replicate m its).flatten := fun m => by
    induction m with
    | zero => exact .nil
    | succ m ih =>
      rw [List.replicate_succ, List.replicate_succ, List.flatten_cons, List.flatten_cons]
      exact r.append ih
  have len : ∀ m : Nat, (List.replicate m xs).flatten.length = xs.length * m := fun m => by
    induction m with
    | zero => rfl
    | succ m ih => rw [List.replicate_succ, List.flatten_cons, List.length_append, ih, Nat.mul_succ, Nat.add_comm]
  exact ⟨.ref _, _, I.lnew (t' := s.toks) (rep _) (by rw [len]; exact hz), rfl, q _ I.fresh⟩
theorem opMul : OpR X (binaryOp .Mult) (r2 X.K bMul) := by
  intro pins s σ H x y v u Q I rx ry ⟨B, fp, dx, dy, Q', l, hx, hy, hf, hq⟩
  cases dx <;> cases dy <;> first
    | exact (show False from hf).elim
    | skip
  · exact op_mulG pins s σ H x y v u Q I rx ry ⟨_, _, hx.int, hy.int, hf.1, hq _ H B (.v _) (.refl l) (.int _) hf.2⟩
  · exact op_mulStr pins s σ H x y v u Q I rx ry ⟨_, _, hx.str, hy.int, hf.1, hf.2.1, hf.2.2.1, hf.2.2.2.1, hq _ H B (.v _) (.refl l) (.str _) hf.2.2.2.2⟩
  · obtain ⟨a1, v1, e1, s1, t1⟩ := hx.list l
    exact op_repS pins s σ H x y v u Q I rx ry ⟨_, _, _, e1, hy.int, s1, hf.1, hf.2.1, by rw [t1.length]; exact hf.2.2.1, fun p np => hq _ _ B (.t _) (.make l np _) (t_lst l np (t1.rep _)) hf.2.2.2⟩
abbrev wMulA := w2 bMul
theorem de_mulA {pos} (ha : DE X W G a ma) (hb : DE X W G b mb) : DE X W G (.BinOp a .Mult b pos) (wMulA ma mb) := de_2 opMul ha hb
/-! ### methods of texts -/
abbrev FM := Str → List R → (R → Prop) → Prop
def wMe (f : FM) (o : WE) (ta : WA) : WE := fun env Q E => o env (fun x => ∃ a, x.d = .str a ∧ ta env (fun rs => f a rs Q) E) E
/-- the texts of a list or tuple -/
def txtsD (d : D) (ys : List Str) : Prop := d = .list (ys.map PyData.str) ∨ d = .tuple (ys.map PyData.str)
def fJoin : FM
  | a, [r], Q => r.sh ∧ ∃ ys, txtsD r.d ys ∧ (ys.map (·.length)).sum + ys.length * a.length ≤ 16777216 ∧ Q (.v (.str (Txt.join a ys)))
  | _, _, _ => False
def fSplit : FM
  | a, [r], Q => ∃ b, r.d = .str b ∧ (b.length == 0) = false ∧ a.length + 2 ≤ sizeLine ∧ Q (.t (.lst ((Txt.split a b).map PyData.str)))
  | _, _, _ => False
def fRstrip : FM
  | a, [r], Q => ∃ b, r.d = .str b ∧ a.length ≤ sizeLine ∧ Q (.v (.str (Txt.rstripChars a b)))
  | _, _, _ => False
theorem fJoin_1 (a : Str) (r : R) (Q : R → Prop) : fJoin a [r] Q = (r.sh ∧ ∃ ys, txtsD r.d ys ∧ (ys.map (·.length)).sum + ys.length * a.length ≤ 16777216 ∧ Q (.v (.str (Txt.join a ys)))) := rfl
theorem fSplit_1 (a : Str) (r : R) (Q : R → Prop) : fSplit a [r] Q = ∃ b, r.d = .str b ∧ (b.length == 0) = false ∧ a.length + 2 ≤ sizeLine ∧ Q (.t (.lst ((Txt.split a b).map PyData.str))) := rfl
theorem fRstrip_1 (a : Str) (r : R) (Q : R → Prop) : fRstrip a [r] Q = ∃ b, r.d = .str b ∧ a.length ≤ sizeLine ∧ Q (.v (.str (Txt.rstripChars a b))) := rfl
theorem RepAll.strsV {K : K0} {B : Hp} : ∀ {ys : List Str} {vs : List V}, RepAll K B vs (ys.map PyData.str) → vs = ys.map V.str
  | [], _, .nil => rfl
  | n :: ns, _, .cons r t => by rw [r.str_inv, RepAll.strsV t]; rfl
theorem RepAll.strs {K : K0} {B : Hp} (ys : List Str) : RepAll K B (ys.map V.str) (ys.map PyData.str) := by
  induction ys with
  | nil => exact .nil
  | cons n r ih => exact .cons (.str n) ih
variable {es : List Expr} {ms : WA} {apos cpos : Pos}
theorem me_ok {f : FM} {r : V → List V → Hp → VK → Prop} (hr : ∀ (B H : Hp) (fp : List Addr) (a : Str) (vs : List V) (rs : List R) (Q : R → Prop) (QV : VK), Le B H → VAll X.K B H vs rs → f a rs Q → QOk X.K B H fp Q QV → r (.str a) vs H QV)
    (σ : L2.St) (H : Hp) (QV : VK) (h : tD X W G (wMe f mo ms) σ H QV) : tBM X.K "str" r (tD X W G mo) (tDA X W G ms) σ H QV := by
  obtain ⟨B, env, fp, Q, E, rr, hm, hq, hx⟩ := h
  refine ⟨B, env, fp, _, E, rr, hm, fun v H1 B1 r1 e1 w ⟨a, ea, q1⟩ => ?_, hx⟩
  have hv := w.now e1
  rw [ea] at hv
  have e := hv.str_inv
  subst e
  exact ⟨rfl, B1, env, fp, _, E, rr.ext e1, q1, fun vs H2 B2 rs e2 va q => hr B2 H2 fp a vs rs Q QV e2.bh va q (hq.later (e1.trans e2)), hx.later e1.same⟩
theorem join_r (B H : Hp) (fp : List Addr) (a : Str) (vs : List V) (rs : List R) (Q : R → Prop) (QV : VK) (l : Le B H) (va : VAll X.K B H vs rs) (hf : fJoin a rs Q) (hq : QOk X.K B H fp Q QV) :
    ∃ a' p, ∃ ys : List Str, (V.str a) = .str a' ∧ vs = [.ref p] ∧ (SqL X.K H p (ys.map V.str) ∨ SqT X.K H p (ys.map V.str)) ∧ (ys.map (·.length)).sum + ys.length * a'.length ≤ 16777216 ∧ QV (.str (Txt.join a' ys)) H := by
  match rs, hf with
  | [r], ⟨s, ys, ht, hz, q⟩ =>
    obtain ⟨v, ev, rv⟩ := va.one_sh s
    subst ev
    have fin := hq _ H B (.v _) (.refl l) (.str _) q
    rcases ht with ht | ht
    · rw [ht] at rv
      obtain ⟨p, us, e, sq, t⟩ := rv.list l
      subst e
      rw [t.strsV] at sq
      exact ⟨a, p, ys, rfl, rfl, .inl sq, hz, fin⟩
    · rw [ht] at rv
      obtain ⟨p, us, e, sq, t⟩ := rv.tup l
      subst e
      rw [t.strsV] at sq
      exact ⟨a, p, ys, rfl, rfl, .inr sq, hz, fin⟩
theorem split_r (B H : Hp) (fp : List Addr) (a : Str) (vs : List V) (rs : List R) (Q : R → Prop) (QV : VK) (l : Le B H) (va : VAll X.K B H vs rs) (hf : fSplit a rs Q) (hq : QOk X.K B H fp Q QV) :
    ∃ a' b, (V.str a) = .str a' ∧ vs = [.str b] ∧ (b.length == 0) = false ∧ a'.length + 2 ≤ sizeLine ∧ rNewStrs (Txt.split a' b) H QV := by
  match rs, hf with
  | [r], ⟨b, ht, h1, h2, q⟩ =>
    obtain ⟨v, ev, rv⟩ := va.one l
    subst ev
    rw [ht] at rv
    rw [rv.str_inv]
    exact ⟨a, b, rfl, rfl, h1, h2, fun p np => hq _ _ B (.t _) (.make l np _) (t_lst l np (RepAll.strs _)) q⟩
theorem rstrip_r (B H : Hp) (fp : List Addr) (a : Str) (vs : List V) (rs : List R) (Q : R → Prop) (QV : VK) (l : Le B H) (va : VAll X.K B H vs rs) (hf : fRstrip a rs Q) (hq : QOk X.K B H fp Q QV) :
    ∃ a' b, (V.str a) = .str a' ∧ vs = [.str b] ∧ a'.length ≤ sizeLine ∧ QV (.str (Txt.rstripChars a' b)) H := by
  match rs, hf with
  | [r], ⟨b, ht, h1, q⟩ =>
    obtain ⟨v, ev, rv⟩ := va.one l
    subst ev
    rw [ht] at rv
    rw [rv.str_inv]
    exact ⟨a, b, rfl, rfl, h1, hq _ H B (.v _) (.refl l) (.str _) q⟩
/-- the forms that such a call has -/
structure MF (X : Cx) (o : Expr) (name : Str) (e : Expr) (es : List Expr) (apos cpos : Pos) : Prop where
  base : attributeBase o name X.env (eval o X.env) = eval o X.env
  few : ((backTo cpos (starEach (e :: es) X.env)).all (fun x => !x.1) && (backToKw cpos (keywordEach [] X.env)).all (fun x => x.1.isSome)
      && decide ((e :: es).length + ([] : List Keyword).length + (if ([] : List Keyword).isEmpty then 0 else 1) < 30)) = true
  line : (apos.endLine == cpos.line) = true
  hs : starEach (e :: es) X.env = (false, eval e X.env) :: starEach es X.env
  pl : (backTo cpos (starEach es X.env)).any (·.1) = false
theorem dm_join (c : MF X ob "join" e es apos cpos) (ho : DE X W G ob mo) (ha : DA X W G (e :: es) ms) : DE X W G (.Call (.Attribute ob "join" apos) (e :: es) [] cpos) (wMe fJoin mo ms) :=
  PEi (pe_bm PySem.F.plainAttrs_str PySem.F.slot_str_join PySem.F.type_str_join mt_join ho ha c.base c.few c.line c.hs c.pl) (me_ok join_r)
theorem dm_split (c : MF X ob "split" e es apos cpos) (ho : DE X W G ob mo) (ha : DA X W G (e :: es) ms) : DE X W G (.Call (.Attribute ob "split" apos) (e :: es) [] cpos) (wMe fSplit mo ms) :=
  PEi (pe_bm PySem.F.plainAttrs_str PySem.F.slot_str_split PySem.F.type_str_split mt_split ho ha c.base c.few c.line c.hs c.pl) (me_ok split_r)
theorem dm_rstrip (c : MF X ob "rstrip" e es apos cpos) (ho : DE X W G ob mo) (ha : DA X W G (e :: es) ms) : DE X W G (.Call (.Attribute ob "rstrip" apos) (e :: es) [] cpos) (wMe fRstrip mo ms) :=
  PEi (pe_bm PySem.F.plainAttrs_str PySem.F.slot_str_rstrip PySem.F.type_str_rstrip mt_rstripChars ho ha c.base c.few c.line c.hs c.pl) (me_ok rstrip_r)
/-! ### d.get(k, x) -/
def getD (kvs : List (D × D)) (k z : D) (Q : D → Prop) : Prop := ∃ j, keyD k = some j ∧ Q ((lookK kvs j).getD z)
def wGet2 (o k z : WE) : WE := fun env Q E => o env (fun x => x.sh ∧ ∃ kvs, x.d = .dict kvs ∧ k env (fun y => z env (fun u => u.st ∧ getD kvs y.d u.d fun d => Q (.v d)) E) E) E
theorem de_get2 {kx zx : Expr} {mk mz : WE} (hu : X.A.units + 1 < cLine) (c : M2 X ob "get" apos kx zx cpos) (ho : DE X W G ob mo) (hk : DE X W G kx mk) (hz : DE X W G zx mz) : DE X W G (.Call (.Attribute ob "get" apos) [kx, zx] [] cpos) (wGet2 mo mk mz) := by
  refine PEi (pe_dget2 hu ho hk hz c) fun σ H QV ⟨B, env, fp, Q, E, rr, hm, hq, hx⟩ => ?_
  refine ⟨B, env, fp, _, E, rr, hm, fun v H1 B1 r e1 w ⟨s, kvs, ed, q1⟩ => ?_, hx⟩
  obtain ⟨B2, e2, l2, rv⟩ := w.view e1 s
  rw [ed] at rv
  obtain ⟨a, vs, ev, hd, t⟩ := rv.dict e2.bh
  refine ⟨a, ev, .inl ⟨vs, hd⟩, B2, env, fp, _, E, rr.ext e2, q1, fun y H3 B3 ry e3 wy q2 => ?_, hx.later e2.same⟩
  refine ⟨B3, env, fp, _, E, (rr.ext e2).ext e3, q2, fun z H4 B4 rz e4 wz ⟨sz, j, hj, q3⟩ => ?_, hx.later (e2.same.trans e3.same)⟩
  obtain ⟨B5, e5, l5, rz'⟩ := wz.keep e4 sz
  have hy := (wy.now e3).mono e5.same
  have e1 := kD_of hj
  rw [e1] at hy
  have e6 := kV_rep hy
  have eT := (e2.trans e3).trans e5
  have hd' : Rd H4 a (.dK vs) := (e3.same.trans e5.same).rd hd
  refine ⟨valV vs j, .inl ⟨vs, j, hd', e6, rfl⟩, ?_⟩
  have t' := (t.mono e3.le).mono e5.le
  rcases t'.look (k := j) with ⟨z1, z2⟩ | ⟨v', d', z1, z2, z3⟩
  · rw [z1]; rw [z2] at q3
    exact hq _ H4 B5 (.v _) eT rz' q3
  · rw [z1]; rw [z2] at q3
    exact hq _ H4 B5 (.v _) eT z3 q3
/-! ### unpacking; two targets; the last item taken off -/
section
variable {g : WG} {vs : List Nat} {t : WE} {ta : WA}
def wUnp (t : WE) (g : WG) : WS := fun D env => t env (fun r => r.st ∧ g r.d env D.nx) (fun n => D.ex n env)
theorem ds_unp (he : DE X W G e t) (hg : DG X G vs tg g) (h1 : (assignEach [tg] X.env).map (·.2) = [assign tg X.env]) (hs : swapsWithSole [tg] e pos.line X.env = pure false) (hw : swappedStores [tg] e X.env = pure none) : DS X W G (.Assign [tg] e pos) (wUnp t g) := by
  refine PSi (ps_asg he hg hs hw h1) fun D σ H ⟨B, env, fp, d, rr, hm, x⟩ => ?_
  refine ⟨B, env, fp, _, _, rr, hm, fun v H1 B1 r e1 w ⟨s, q⟩ => ?_, x.x rr⟩
  obtain ⟨B2, e2, l2, rp⟩ := w.keep e1 s
  exact ⟨B2, env, fp, _, _, rr.ext e2, rp, q, fun σ' env' fp' rr' t q' => x.nx σ' H1 B2 env' fp' e2.le rr' q'⟩
def wPar (i j : Nat) (ta : WA) : WS := fun D env => ta env (fun rs => match rs with
  | [r, q] => (r.st ∧ q.st) ∧ D.nx ((env.set i (some (.fro r.d))).set j (some (.fro q.d)))
  | _ => False) (fun n => D.ex n env)
theorem ds_par {i j : Nat} {x y : Str} {px py pt : Pos} {kt k2 pt2} (hc : X.calm = true) (hN : X.N.Nodup) (hi : X.N[i]? = some x) (hj : X.N[j]? = some y) (hij : i ≠ j)
    (hx : X.env.scope.names.lookup x = some .local) (hy : X.env.scope.names.lookup y = some .local) (ha : DA X W G [a, b] ta)
    (hw : swappedStores [.Tuple [.Name x px, .Name y py] kt pt] (.Tuple [a, b] k2 pt2) X.env = pure (some [x, y]))
    (hs : swapsWithSole [.Tuple [.Name x px, .Name y py] kt pt] (.Tuple [a, b] k2 pt2) pos.line X.env = pure false) :
    DS X W G (.Assign [.Tuple [.Name x px, .Name y py] kt pt] (.Tuple [a, b] k2 pt2) pos) (wPar i j ta) := by
  refine PSi (ps_par hc hN hi hj hij hx hy ha hw hs) fun D σ H ⟨B, env, fp, d, rr, hm, x⟩ => ?_
  refine ⟨B, env, fp, _, _, rr, hm, fun vs H1 B1 rs e1 va q => ?_, x.x rr⟩
  match rs, q with
  | [r, q], ⟨⟨s1, s2⟩, hh⟩ =>
    have t := va.reps (rs := [r, q]) ⟨s1, s2, True.intro⟩
    cases t with
    | cons r1 t =>
      cases t with
      | cons r2 t =>
        cases t
        obtain ⟨f1, y1⟩ := (rr.ext e1).asg (r := .v r.d) (.refl e1.bh) r1 True.intro i
        obtain ⟨f2, y2⟩ := y1.asg (r := .v q.d) (.refl e1.bh) r2 True.intro j
        exact ⟨_, _, rfl, x.nx _ H1 B1 _ f2 e1.le y2 hh⟩
end
theorem lst_rr {K : K0} {G B H : Hp} {env : Env} {fp : List Addr} {σ : L2.St} {i : Nat} {a : Addr} {ds ds' : List PyData} {vs vs' : List V} (rr : RR K G B env fp σ H)
    (hi : env[i]? = some (some (.lst ds))) (hσ : σ[i]? = some (some (.ref a))) (hl : H a = some (.lst vs)) (r : RepAll K B vs' ds') : ∃ fp', RR K G B (env.set i (some (.lst ds'))) fp' σ (upd H a (.lst vs')) := by
  obtain ⟨vi, g, h1, h2, h3, h4, h5⟩ := rr.put hi
  rw [hσ] at h1
  cases h1
  cases h2 with
  | lst hl2 rl =>
    have na : B a = none := (h4 a (by simp)).2.1
    exact h5 B (upd H a (.lst vs')) (.lst ds') [a] (.refl _) (fun b u q => upd_keep (rr.bh b u q) (ne_of_none q na)) (fun b u n q => upd_keep q fun z => n (by simp [z])) (fun _ _ _ _ q => q)
      (.lst upd_same r) (by simp) (fun b m => ⟨fun _ => m, (h4 b m).2⟩)
section
variable {g : WG} {vs : List Nat}
/-- tg = x.pop() -/
def wPop (i : Nat) (g : WG) : WS := fun D env => ∃ ds d, env[i]? = some (some (.lst (ds ++ [d]))) ∧ g d (env.set i (some (.lst ds))) D.nx
theorem ds_pop {i : Nat} (ho : PE X ob (tVar i)) (hg : DG X G vs tg g) (hbase : attributeBase ob "pop" X.env (eval ob X.env) = eval ob X.env) (hline : (apos.endLine == cpos.line) = true)
    (h1 : (assignEach [tg] X.env).map (·.2) = [assign tg X.env]) (hs : swapsWithSole [tg] (.Call (.Attribute ob "pop" apos) [] [] cpos) pos.line X.env = pure false) (hw : swappedStores [tg] (.Call (.Attribute ob "pop" apos) [] [] cpos) X.env = pure none) :
    DS X W G (.Assign [tg] (.Call (.Attribute ob "pop" apos) [] [] cpos) pos) (wPop i g) := by
  refine PSi (ps_asg (pe_bm0 PySem.F.plainAttrs_list PySem.F.slot_list_pop PySem.F.type_list_pop mt_pop ho hbase hline) hg hs hw h1) fun D σ H ⟨B, env, fp, d, rr, ⟨ds, dl, hi, hm⟩, x⟩ => ?_
  obtain ⟨v, gg, h1, h2, h3⟩ := rr.own.get hi
  cases h2 with
  | @lst a ws _ hl rl =>
    refine ⟨.ref a, h1, .inl ⟨rfl, _, .inl (.inl hl)⟩, ?_⟩
    obtain ⟨y, hy, ry⟩ := rl.get (i := ws.length - 1) (d := dl) (by rw [rl.length, List.length_append]; simp)
    refine ⟨a, ws, y, rfl, rfl, hl, hy, ?_⟩
    have rl' := rl.dropLast
    rw [List.dropLast_concat] at rl'
    obtain ⟨fp', rr'⟩ := lst_rr rr hi h1 hl rl'
    exact ⟨B, _, fp', _, _, rr', ry, hm, fun σ' env' fp2 rr2 t q' => x.nx σ' _ B env' fp2 (.refl _) rr2 q'⟩
end
end
end DL

set_option Elab.async false
set_option linter.all false
set_option maxRecDepth 100000
set_option maxHeartbeats 1000000
/-! DL16: try, what is caught, isinstance of it, over data. -/
namespace DL
open PySem L2 PyProof.Rows
/-- an own class under another one -/
def subE (n c : Str) : Bool := n == c || c == ("BlotError" : Str)
def subV (n c : Str) : Bool := subE n c || c == ("ValueError" : Str)
/-- the facts of the exceptions' classes -/
def ExAll (K : K0) (mg : Str → Option Value) (NS : List Str) : Prop := ∀ n ∈ NS, ∃ Cn : Addr, mg n = some (.ref Cn) ∧ ExcC K Cn ∧ PySem.W.kitOne K (.ref Cn) (.type "ValueError") = some true ∧
  ∀ c ∈ NS, ∃ Cc : Addr, mg c = some (.ref Cc) ∧ PySem.W.exmOne K (.ref Cn) (.ref Cc) = some (subE n c) ∧ PySem.W.kitOne K (.ref Cn) (.ref Cc) = some (subE n c)
section
variable {K : K0} {G B B' H H' : Hp} {env : Env} {fp : List Addr} {σ : L2.St}
theorem ownEnv_raw (a : Addr) : ∀ {σ : L2.St} {env : Env} {fp : List Addr} (i : Nat), OwnEnv K B H σ env fp → ∃ fp', OwnEnv K B H (σ.set i (some (.ref a))) (env.set i (some (.raw a))) fp' ∧ fp'.Sublist fp
  | _, _, _, _, .nil => ⟨[], .nil, .slnil⟩
  | _, _, _, 0, .no t => ⟨_, .raw t, List.Sublist.refl _⟩
  | _, _, _, 0, .raw t => ⟨_, .raw t, List.Sublist.refl _⟩
  | _, _, _, 0, .some x t => ⟨_, .raw t, List.sublist_append_right _ _⟩
  | _, _, _, i + 1, .no t => by
    obtain ⟨fp', h1, h2⟩ := ownEnv_raw a i t
    exact ⟨fp', .no h1, h2⟩
  | _, _, _, i + 1, .raw t => by
    obtain ⟨fp', h1, h2⟩ := ownEnv_raw a i t
    exact ⟨fp', .raw h1, h2⟩
  | _, _, _, i + 1, .some (f := f) x t => by
    obtain ⟨fp', h1, h2⟩ := ownEnv_raw a i t
    exact ⟨f ++ fp', .some x h1, List.Sublist.append (List.Sublist.refl _) h2⟩
theorem RR.raw (x : RR K G B env fp σ H) (i : Nat) (a : Addr) : ∃ fp', RR K G B (env.set i (some (.raw a))) fp' (σ.set i (some (.ref a))) H := by
  obtain ⟨fp', h1, h2⟩ := ownEnv_raw a i x.own
  exact ⟨fp', x.bh, x.gh, x.gb, h1, x.nd.sublist h2, fun a m => x.fb a (h2.subset m)⟩
theorem RR.no (x : RR K G B env fp σ H) (i : Nat) : ∃ fp', RR K G B (env.set i none) fp' (σ.set i none) H := by
  obtain ⟨fp', h1, h2⟩ := ownEnv_no i x.own
  exact ⟨fp', x.bh, x.gh, x.gb, h1, x.nd.sublist h2, fun a m => x.fb a (h2.subset m)⟩
end
/-- what a clause makes of the ends -/
def endN (i : Nat) (D : En) : En := { nx := fun e => D.nx (e.set i none), rt := D.rt, bk := fun e => D.bk (e.set i none), ct := fun e => D.ct (e.set i none), ex := fun _ _ => False }
def end0 (D : En) : En := { D with ex := fun _ _ => False }
/-- try: body except c as (slot i): suite -/
def wTry (NS : List Str) (c : Str) (i : Nat) (body : WS) (hnd : Str → Addr → WS) : WS := fun D env => body { D with ex := fun n env' => n ∈ NS ∧ if subE n c = true then ∀ a, hnd n a (endN i D) (env'.set i (some (.raw a))) else D.ex n env' } env
/-- try: body except c: suite -/
def wTryO (NS : List Str) (c : Str) (body : WS) (hnd : WS) : WS := fun D env => body { D with ex := fun n env' => n ∈ NS ∧ if subE n c = true then hnd (end0 D) env' else D.ex n env' } env
section
variable {X : Cx} {W : WX} {G : Hp} {body suite : List Stmt} {b₀ : Stmt} {mb : WS} {NS : List Str} {c n : Str} {i : Nat} {np pos pos' : Pos}
theorem PSs_ex {α : Sort _} {sts : List Stmt} {t : α → TS} (h : ∀ a, PSs X sts (t a)) : PSs X sts (fun D σ H => ∃ a, t a D σ H) := ⟨fun pins s σ H D I ⟨a, w⟩ => (h a).run pins s σ H D I w⟩
theorem names_of (EX : ExAll X.K X.mg NS) (hc : c ∈ NS) (hg : Gl X c) (hdb : (c == ("__debug__" : Str)) = false) : ∃ Cc : Addr, Names X c (.ref Cc) ∧ X.mg c = some (.ref Cc) := by
  obtain ⟨C, h1, _⟩ := EX c hc
  exact ⟨C, ⟨hg, hdb, .inl h1⟩, h1⟩
theorem exm_of (EX : ExAll X.K X.mg NS) {m : Str} (hm : m ∈ NS) (hc : c ∈ NS) {cls cc : Value} (e1 : X.mg m = some cls) (e2 : X.mg c = some cc) : PySem.W.exmOne X.K cls cc = some (subE m c) := by
  obtain ⟨Cn, h1, _, _, h2⟩ := EX m hm
  obtain ⟨Cc, h3, h4, _⟩ := h2 c hc
  rw [h1] at e1
  rw [h3] at e2
  cases e1
  cases e2
  exact h4
theorem tDS_suite {m : WS} {D : Ends} {σ : L2.St} {H : Hp} {W1 : WX} {a : Addr} {pn : List (Addr × Obj)} (h : tDS X W1 G m D σ H) : tDS (X.suite a pn) W1 G m D σ H := by
  obtain ⟨B, env, fp, d, rr, hm, x⟩ := h
  exact ⟨B, env, fp, d, rr, hm, ⟨x.nx, x.bk, x.ct, x.rt, x.ex⟩⟩
theorem tDS_tr {m : WS} {D : Ends} {σ : L2.St} {H : Hp} {W1 : WX} {pn : List (Addr × Obj)} {xe : Value → Shared → Prop} (h : tDS X W1 G m D σ H) : tDS (X.tr pn xe) W1 G m D σ H := by
  obtain ⟨B, env, fp, d, rr, hm, x⟩ := h
  exact ⟨B, env, fp, d, rr, hm, ⟨x.nx, x.bk, x.ct, x.rt, x.ex⟩⟩
theorem ds_try {hnd : Str → Addr → WS} (hs : X.stack = X.env :: X.outer) (hf : X.env.frame = some X.env.locals) (hN : X.N.Nodup) (hi : X.N[i]? = some n) (hln : X.env.kindOf n = some .local) (EX : ExAll X.K X.mg NS) (hc : c ∈ NS) (hg : Gl X c) (hdb : (c == ("__debug__" : Str)) = false) (tk : Takes X W)
    (hb : ∀ (W' : WX) (pn : List (Addr × Obj)) (xe : Value → Shared → Prop), Takes (X.tr pn xe) W' → PassesOwn (model X.prog X.w) X.A X.env xe → DSs (X.tr pn xe) W' G body mb)
    (hsu : ∀ (a D : Addr) (oe : Obj) (pn : List (Addr × Obj)) (m : Str), m ∈ NS → X.mg m = some (.ref D) → Zc (.ref D) none oe → (∃ vs, oe.data = .fields vs) → DSs (X.suite a ((a, oe) :: pn)) W0 G (b₀ :: suite) (hnd m a)) :
    DS X W G (.Try body [.ExceptHandler (some (.Name c np)) (some n) (b₀ :: suite) pos'] [] [] pos) (wTry NS c i mb hnd) := by
  obtain ⟨Cc, hnm, hmc⟩ := names_of EX hc hg hdb
  let ts : Addr → Value → Option Addr → TS := fun a cls d D σ H => ∃ m : { m : Str // m ∈ NS ∧ X.mg m = some cls ∧ d = none }, tDS X W0 G (hnd m.1 a) D σ H
  refine PSi (ps_try_as (c := .ref Cc) (tb := fun W' => tDS X W' G mb) (ts := ts) (Wout := W) hs hf hN hi hln hnm tk (fun W' pn xe tk' hp' => PSsi (hb W' pn xe tk' hp') fun _ _ _ => tDS_tr) fun a oe cls d pn hz hfl => PSs_ex fun m => ?_) fun D σ H ⟨B, env, fp, d, rr, hm, x⟩ => ?_
  · obtain ⟨m, h1, h2, h3⟩ := m
    obtain ⟨Cn, h4, _⟩ := EX m h1
    have e : cls = .ref Cn := by rw [h4] at h2; exact (Option.some.inj h2).symm
    subst e h3
    exact PSsi (hsu a Cn oe pn m h1 h2 hz hfl) fun _ _ _ => tDS_suite
  · refine ⟨B, env, fp, _, rr, hm, ⟨x.nx, x.bk, x.ct, x.rt, fun m cls σ' H' B' env' fp' l rr' ⟨hmN, hh⟩ hmg => ?_⟩⟩
    refine ⟨subE m c, exm_of EX hmN hc hmg hmc, fun hb' a na => ?_, fun hb' => ?_⟩
    · rw [if_pos hb'] at hh
      obtain ⟨f2, rr2⟩ := rr'.raw i a
      refine ⟨⟨m, hmN, hmg, rfl⟩, B', _, f2, endN i d, rr2, hh a, ⟨fun σ5 H5 B5 env5 fp5 l5 rr5 q => ?_, fun σ5 H5 B5 env5 fp5 l5 rr5 q => ?_, fun σ5 H5 B5 env5 fp5 l5 rr5 q => ?_, fun v H5 B5 r f l5 => x.rt v H5 B5 r f (l.trans l5), fun _ _ _ _ _ _ _ _ _ h => h.elim⟩⟩
      · obtain ⟨f6, rr6⟩ := rr5.no i
        exact x.nx _ H5 B5 _ f6 (l.trans l5) rr6 q
      · obtain ⟨f6, rr6⟩ := rr5.no i
        exact x.bk _ H5 B5 _ f6 (l.trans l5) rr6 q
      · obtain ⟨f6, rr6⟩ := rr5.no i
        exact x.ct _ H5 B5 _ f6 (l.trans l5) rr6 q
    · rw [if_neg (by rw [hb']; simp)] at hh
      exact x.ex m cls σ' H' B' env' fp' l rr' hh hmg
theorem ds_tryO {hnd : WS} (hs : X.stack = X.env :: X.outer) (hf : X.env.frame = some X.env.locals) (EX : ExAll X.K X.mg NS) (hc : c ∈ NS) (hg : Gl X c) (hdb : (c == ("__debug__" : Str)) = false) (tk : Takes X W)
    (hb : ∀ (W' : WX) (pn : List (Addr × Obj)) (xe : Value → Shared → Prop), Takes (X.tr pn xe) W' → PassesOwn (model X.prog X.w) X.A X.env xe → DSs (X.tr pn xe) W' G body mb)
    (hsu : ∀ (a : Addr) (oe : Obj) (pn : List (Addr × Obj)), DSs (X.suite a ((a, oe) :: pn)) W0 G (b₀ :: suite) hnd) :
    DS X W G (.Try body [.ExceptHandler (some (.Name c np)) none (b₀ :: suite) pos'] [] [] pos) (wTryO NS c mb hnd) := by
  obtain ⟨Cc, hnm, hmc⟩ := names_of EX hc hg hdb
  refine PSi (ps_try_only (c := .ref Cc) (tb := fun W' => tDS X W' G mb) (ts := fun a cls d => tDS X W0 G hnd) (Wout := W) hs hf hnm tk (fun W' pn xe tk' hp' => PSsi (hb W' pn xe tk' hp') fun _ _ _ => tDS_tr) fun a oe cls d pn hz hfl => PSsi (hsu a oe pn) fun _ _ _ => tDS_suite) fun D σ H ⟨B, env, fp, d, rr, hm, x⟩ => ?_
  refine ⟨B, env, fp, _, rr, hm, ⟨x.nx, x.bk, x.ct, x.rt, fun m cls σ' H' B' env' fp' l rr' ⟨hmN, hh⟩ hmg => ?_⟩⟩
  refine ⟨subE m c, exm_of EX hmN hc hmg hmc, fun hb' a na => ?_, fun hb' => ?_⟩
  · rw [if_pos hb'] at hh
    refine ⟨B', env', fp', end0 d, rr', hh, ⟨fun σ5 H5 B5 env5 fp5 l5 rr5 q => x.nx _ H5 B5 _ fp5 (l.trans l5) rr5 q, fun σ5 H5 B5 env5 fp5 l5 rr5 q => x.bk _ H5 B5 _ fp5 (l.trans l5) rr5 q, fun σ5 H5 B5 env5 fp5 l5 rr5 q => x.ct _ H5 B5 _ fp5 (l.trans l5) rr5 q, fun v H5 B5 r f l5 => x.rt v H5 B5 r f (l.trans l5), fun _ _ _ _ _ _ _ _ _ h => h.elim⟩⟩
  · rw [if_neg (by rw [hb']; simp)] at hh
    exact x.ex m cls σ' H' B' env' fp' l rr' hh hmg
/-! ### several clauses -/
def wClauses (D : En) (n : Str) (env : Env) : List (Str × WS) → Prop
  | [] => D.ex n env
  | (c, h) :: r => if subE n c = true then h (end0 D) env else wClauses D n env r
def wTryM (NS : List Str) (body : WS) (hs : List (Str × WS)) : WS := fun D env => body { D with ex := fun n env' => n ∈ NS ∧ wClauses D n env' hs } env
inductive HdsD (X : Cx) (G : Hp) (NS : List Str) : List ExceptHandler → List (Str × WS) → Prop
  | nil : HdsD X G NS [] []
  | cons {c : Str} {h : WS} {b₀ : Stmt} {suite : List Stmt} {np pos' : Pos} {hds : List ExceptHandler} {l : List (Str × WS)} (hc : c ∈ NS) (hg : Gl X c) (hdb : (c == ("__debug__" : Str)) = false)
      (hsu : ∀ (a : Addr) (oe : Obj) (pn : List (Addr × Obj)), DSs (X.suite a ((a, oe) :: pn)) W0 G (b₀ :: suite) h) (r : HdsD X G NS hds l) :
      HdsD X G NS (.ExceptHandler (some (.Name c np)) none (b₀ :: suite) pos' :: hds) ((c, h) :: l)
theorem hds_of (EX : ExAll X.K X.mg NS) : ∀ {hds : List ExceptHandler} {l : List (Str × WS)}, HdsD X G NS hds l → ∃ l' : List (Value × (Addr → Value → Option Addr → TS)), HdsOk X hds l' ∧
    ∀ (D : Ends) (d : En) (B : Hp) (σ : L2.St) (x : SOk X W G B d D σ) (m : Str) (cls : Value) (σ' : L2.St) (H' B' : Hp) (env' : Env) (fp' : List Addr), m ∈ NS → X.mg m = some cls → Le B B' → RR X.K G B' env' fp' σ' H' → wClauses d m env' l → wMany X.K W D l' cls none σ' H'
  | _, _, .nil => ⟨[], .nil, fun D d B σ x m cls σ' H' B' env' fp' hmN hmg l rr h => x.ex m cls σ' H' B' env' fp' l rr h hmg⟩
  | _, _, .cons (c := c) (h := h) hc hg hdb hsu r => by
    obtain ⟨l', h1, h2⟩ := hds_of EX r
    obtain ⟨Cc, hnm, hmc⟩ := names_of EX hc hg hdb
    refine ⟨(.ref Cc, fun a cls d => tDS X W0 G h) :: l', .cons hnm (fun a oe cls d pn hz hfl => PSsi (hsu a oe pn) fun _ _ _ => tDS_suite) h1, fun D d B σ x m cls σ' H' B' env' fp' hmN hmg l rr hh => ?_⟩
    have hh : (if subE m c = true then h (end0 d) env' else wClauses d m env' _) := hh
    refine ⟨subE m c, exm_of EX hmN hc hmg hmc, fun hb' a na => ?_, fun hb' => ?_⟩
    · rw [if_pos hb'] at hh
      exact ⟨B', env', fp', end0 d, rr, hh, ⟨fun σ5 H5 B5 env5 fp5 l5 rr5 q => x.nx _ H5 B5 _ fp5 (l.trans l5) rr5 q, fun σ5 H5 B5 env5 fp5 l5 rr5 q => x.bk _ H5 B5 _ fp5 (l.trans l5) rr5 q, fun σ5 H5 B5 env5 fp5 l5 rr5 q => x.ct _ H5 B5 _ fp5 (l.trans l5) rr5 q, fun v H5 B5 r f l5 => x.rt v H5 B5 r f (l.trans l5), fun _ _ _ _ _ _ _ _ _ h => h.elim⟩⟩
    · rw [if_neg (by rw [hb']; simp)] at hh
      exact h2 D d B σ x m cls σ' H' B' env' fp' hmN hmg l rr hh
theorem ds_tryM {h₀ : ExceptHandler} {hds : List ExceptHandler} {l : List (Str × WS)} (hs : X.stack = X.env :: X.outer) (hf : X.env.frame = some X.env.locals) (EX : ExAll X.K X.mg NS) (tk : Takes X W)
    (hb : ∀ (W' : WX) (pn : List (Addr × Obj)) (xe : Value → Shared → Prop), Takes (X.tr pn xe) W' → PassesOwn (model X.prog X.w) X.A X.env xe → DSs (X.tr pn xe) W' G body mb) (hh : HdsD X G NS (h₀ :: hds) l) :
    DS X W G (.Try body (h₀ :: hds) [] [] pos) (wTryM NS mb l) := by
  obtain ⟨l', h1, h2⟩ := hds_of (W := W) EX hh
  refine PSi (ps_try_many (tb := fun W' => tDS X W' G mb) (Wout := W) hs hf tk (fun W' pn xe tk' hp' => PSsi (hb W' pn xe tk' hp') fun _ _ _ => tDS_tr) h1) fun D σ H ⟨B, env, fp, d, rr, hm, x⟩ => ?_
  exact ⟨B, env, fp, _, rr, hm, ⟨x.nx, x.bk, x.ct, x.rt, fun m cls σ' H' B' env' fp' l rr' ⟨hmN, hh⟩ hmg => h2 D d B σ x m cls σ' H' B' env' fp' hmN hmg l rr' hh⟩⟩
/-! ### isinstance of what is caught -/
def wIsE (i : Nat) (a : Addr) (b : Bool) : WE := fun env Q _ => env[i]? = some (some (.raw a)) ∧ Q (.v (.bool b))
variable {a Dn : Addr} {oe : Obj} {pn : List (Addr × Obj)} {e : Expr} {p p1 p2 : Pos} {m : Str}
theorem tD_isE {σ : L2.St} {H : Hp} {QV : VK} {b : Bool} (h : tD X W G (wIsE i a b) σ H QV) : σ[i]? = some (some (.ref a)) ∧ QV (.bl b) H := by
  obtain ⟨B, env, fp, Q, E, rr, ⟨hi, hm⟩, hq, hx⟩ := h
  exact ⟨rr.own.getRaw hi, hq _ H B (.v _) (.refl rr.bh) (.bl _) hm⟩
theorem de_isE1 (EX : ExAll X.K X.mg NS) (hm : m ∈ NS) (hc : c ∈ NS) (hmg : X.mg m = some (.ref Dn)) (hz : Zc (.ref Dn) none oe) (hf : ∃ vs, oe.data = .fields vs) (hgi : Gl X "isinstance") (hni : X.mg "isinstance" = none) (he : PE (X.suite a ((a, oe) :: pn)) e (tVar i)) (hg : Gl X c) (hdb : (c == ("__debug__" : Str)) = false)
    (hs1 : starEach [e, .Name c p1] X.env = (false, eval e X.env) :: starEach [.Name c p1] X.env) (hs2 : starEach [.Name c p1] X.env = (false, eval (.Name c p1) X.env) :: starEach [] X.env) (hpl : (backTo p2 (starEach [.Name c p1] X.env)).any (·.1) = false) :
    DE (X.suite a ((a, oe) :: pn)) W G (.Call (.Name "isinstance" p) [e, .Name c p1] [] p2) (wIsE i a (subE m c)) := by
  obtain ⟨Cn, h1, h2, h3, h4⟩ := EX m hm
  obtain ⟨Cc, h5, h6, h7⟩ := h4 c hc
  rw [h1] at hmg
  cases hmg
  refine PEi (pe_callB (call_isE (X := X) (a := a) (pn := pn) h2 hz hf) hgi hni (by decide +kernel) (pa_cons he (pa_cons (pe_glob hg h5 (v := .ref Cc) rfl (hd := hdb)) pa_nil hs2) hs1) (by decide) (by decide) hs1 hpl) fun σ H QV h => ?_
  obtain ⟨h8, h9⟩ := tD_isE h
  exact ⟨_, h8, .ref Cc, .ref Cc, _, rfl, fun u r => by cases r; rfl, h7, h9⟩
end
end DL

set_option Elab.async false
set_option linter.all false
set_option maxRecDepth 100000
set_option maxHeartbeats 1000000
/-! DL17: isinstance of what is caught by ValueError and by several classes; calls without arguments; the head's facts with one more Bool. -/
namespace DL
open PySem L2 PyProof.Rows
section
variable {X : Cx} {W : WX} {G : Hp} {NS : List Str} {c m : Str} {i : Nat} {a Dn : Addr} {oe : Obj} {pn : List (Addr × Obj)} {e e2 : Expr} {p p1 p2 pos : Pos}
theorem de_isEV (EX : ExAll X.K X.mg NS) (hm : m ∈ NS) (hmg : X.mg m = some (.ref Dn)) (hz : Zc (.ref Dn) none oe) (hf : ∃ vs, oe.data = .fields vs) (hgi : Gl X "isinstance") (hni : X.mg "isinstance" = none) (he : PE (X.suite a ((a, oe) :: pn)) e (tVar i)) (hv : PE (X.suite a ((a, oe) :: pn)) e2 (tC (.ty "ValueError")))
    (hs1 : starEach [e, e2] X.env = (false, eval e X.env) :: starEach [e2] X.env) (hs2 : starEach [e2] X.env = (false, eval e2 X.env) :: starEach [] X.env) (hpl : (backTo p2 (starEach [e2] X.env)).any (·.1) = false) :
    DE (X.suite a ((a, oe) :: pn)) W G (.Call (.Name "isinstance" p) [e, e2] [] p2) (wIsE i a true) := by
  obtain ⟨Cn, h1, h2, h3, h4⟩ := EX m hm
  rw [h1] at hmg
  cases hmg
  refine PEi (pe_callB (call_isE (X := X) (a := a) (pn := pn) h2 hz hf) hgi hni (by decide +kernel) (pa_cons he (pa_cons hv pa_nil hs2) hs1) (by decide) (by decide) hs1 hpl) fun σ H QV h => ?_
  obtain ⟨h8, h9⟩ := tD_isE h
  exact ⟨_, h8, .ty "ValueError", .type "ValueError", _, rfl, fun u r => r, h3, h9⟩
/-- several own classes -/
def rIsET (K : PySem.W.Frag) (D a : Addr) : List V → Hp → VK → Prop := fun xs H Q => ∃ (tp : Addr) (cs : List V) (us : List Value) (b : Bool), xs = [.ref a, .ref tp] ∧ H tp = some (.tup cs) ∧ Paired ClsV cs us ∧ PySem.W.kitAny K (.ref D) us = some b ∧ Q (.bl b) H
theorem call_isET (C : ExcC X.K Dn) (hz : Zc (.ref Dn) none oe) (hf : ∃ vs, oe.data = .fields vs) : CallR (X.suite a ((a, oe) :: pn)) (.builtin "isinstance") (rIsET X.K Dn a) := by
  intro pins s σ H xs us Q I r h
  obtain ⟨tp, cs, ws, b, rfl, hT, k, e, q⟩ := h
  obtain ⟨u1, u2, rfl, r1, r2⟩ := vals2 r
  cases (show u2 = Value.ref tp from r2)
  cases (show u1 = Value.ref a from r1)
  obtain ⟨hget, _⟩ := I.pin (a, oe) (List.mem_append.mpr (.inl List.mem_cons_self))
  obtain ⟨vs, hv⟩ := hf
  have J : PySem.W.InstAt s.heap a oe Dn none := by
    obtain ⟨oc, od, oda, osl⟩ := oe
    obtain ⟨h1, h2⟩ := hz
    dsimp only at h1 h2 hv
    subst h1 h2 hv
    exact ⟨hget, rfl, rfl, trivial⟩
  obtain ⟨_, its, rv, o, h1, h2, n, h3⟩ := (show ObjOk X.prog X.w H s.heap tp (.tup cs) from I.hok tp _ hT)
  have e3 := ClsV.all k rv
  subst e3
  obtain ⟨oc, od, dt, sl⟩ := o
  simp only at h2 h3
  subst h2 h3
  exact PySem.W.kia_tup (PySem.W.handS_kitx_exc C.hg C.hk C.hs C.hd C.ha C.hn C.ht C.hm) I.kIn J h1 e (fun z => nomatch z) fun tk => ⟨.bl b, H, I.kept (t' := tk) fun _ _ z => z, rfl, q⟩
inductive ClsA (X : Cx) (NS : List Str) : List Expr → List Str → Prop
  | nil : ClsA X NS [] []
  | cons {c : Str} {p : Pos} {es : List Expr} {cs : List Str} (hc : c ∈ NS) (hg : Gl X c) (hdb : (c == ("__debug__" : Str)) = false) (hs : starEach (.Name c p :: es) X.env = (false, eval (.Name c p) X.env) :: starEach es X.env) (r : ClsA X NS es cs) : ClsA X NS (.Name c p :: es) (c :: cs)
theorem clsA_pa (EX : ExAll X.K X.mg NS) (hm : m ∈ NS) (hmg : X.mg m = some (.ref Dn)) : ∀ {es : List Expr} {cs : List Str}, ClsA X NS es cs → cs.length = es.length ∧ ∃ Cs : List Addr, Cs.length = cs.length ∧ PA (X.suite a ((a, oe) :: pn)) es (fun σ H Q => Q (Cs.map V.ref) H) ∧ PySem.W.kitAny X.K (.ref Dn) (Cs.map Value.ref) = some (cs.any (subE m))
  | _, _, .nil => ⟨rfl, [], rfl, PAi pa_nil fun σ H Q h => h, kitAny_nil⟩
  | _, _, .cons hc hg hdb hs r => by
    obtain ⟨hl, Cs, h0, h1, h2⟩ := clsA_pa EX hm hmg r
    obtain ⟨Cn, h3, h4, h5, h6⟩ := EX m hm
    obtain ⟨Cc, h7, h8, h9⟩ := h6 _ hc
    rw [h3] at hmg
    cases hmg
    refine ⟨by simp [hl], Cc :: Cs, by simp [h0], PAi (pa_cons (pe_glob hg h7 (v := .ref Cc) rfl (hd := hdb)) h1 hs) fun σ H Q h => h, ?_⟩
    rw [List.map_cons, List.any_cons]
    refine kitAny_cons h9 (fun q => ?_) fun q => ?_
    · rw [q, Bool.false_or]; exact h2
    · rw [q, Bool.true_or]
theorem paired_refs : ∀ Cs : List Addr, Paired ClsV (Cs.map V.ref) (Cs.map Value.ref)
  | [] => .nil
  | C :: r => .cons (.own C) (paired_refs r)
theorem de_isET {es : List Expr} {cs : List Str} {x1} {tpos : Pos} (EX : ExAll X.K X.mg NS) (hm : m ∈ NS) (hmg : X.mg m = some (.ref Dn)) (hz : Zc (.ref Dn) none oe) (hf : ∃ vs, oe.data = .fields vs) (hgi : Gl X "isinstance") (hni : X.mg "isinstance" = none) (he : PE (X.suite a ((a, oe) :: pn)) e (tVar i)) (hcs : ClsA X NS es cs) (hlen : es.length ≤ 100)
    (hs1 : starEach [e, .Tuple es x1 tpos] X.env = (false, eval e X.env) :: starEach [.Tuple es x1 tpos] X.env) (hs2 : starEach [.Tuple es x1 tpos] X.env = (false, eval (.Tuple es x1 tpos) X.env) :: starEach [] X.env) (hpl : (backTo p2 (starEach [.Tuple es x1 tpos] X.env)).any (·.1) = false) :
    DE (X.suite a ((a, oe) :: pn)) W G (.Call (.Name "isinstance" p) [e, .Tuple es x1 tpos] [] p2) (wIsE i a (cs.any (subE m))) := by
  obtain ⟨hl, Cs, h0, h5, h6⟩ := clsA_pa (a := a) (oe := oe) (pn := pn) EX hm hmg hcs
  obtain ⟨Cn, h1, h2, h3, h4⟩ := EX m hm
  rw [h1] at hmg
  cases hmg
  refine PEi (pe_callB (call_isET (X := X) (a := a) (pn := pn) h2 hz hf) hgi hni (by decide +kernel) (pa_cons he (pa_cons (pe_tup h5) pa_nil hs2) hs1) (by decide) (by decide) hs1 hpl) fun σ H QV ⟨B, env, fp, Q, E, rr, ⟨hi, hm'⟩, hq, hx⟩ => ?_
  refine ⟨_, rr.own.getRaw hi, by rw [List.length_map, h0, hl, sizeLine_eq]; omega, fun tp np => ?_⟩
  refine ⟨tp, Cs.map V.ref, Cs.map Value.ref, _, rfl, upd_same, paired_refs Cs, h6, ?_⟩
  exact hq _ _ B (.v _) (.make rr.bh np _) (.bl _) hm'
/-! ### a call without arguments -/
variable {k j : Nat} {x : Str} {S : Spec}
theorem de_call0 (F : FnAt X.prog X.w X.K X.mg X.base k x [] [] S) (hr : Room j X.A) (hk : k ≤ j) (hg : Gl X x) (tk : Takes X W) (hdb : (x == ("__debug__" : Str)) = false) : DE X W G (.Call (.Name x p) [] [] pos) (wCall S [] waN) := by
  obtain ⟨f, fd, ds, hm, hkp, F, hb, hd⟩ := F
  refine PEi (t := tCallSD (dsp X.K X.mg S) [] (fun σ cls d H => W cls d σ H) (tDA X W G waN)) ⟨fun pins s σ H Q I h => ?_⟩ fun _ _ _ h => call_ok (dvs := []) (dds := []) (fun _ => .nil) h
  refine wpAny_Call_Name_kw (ld_glob I hg hm ?_ hdb)
  cases hd
  refine PySem.W.callWith_K0 I.kIn hkp (run_fnSD (us := []) (dvs := []) (ds := []) (E := fun σ cls d H => W cls d σ H) F (hr.mono hk) hb .nil (passAt tk σ) I .nil ?_)
  obtain ⟨B, env, fp, Q', E, rr, hm', hq, hx⟩ := h
  exact hq [] H B [] (.refl rr.bh) .nil hm'
end
/-! ### the head's facts and one more Bool -/
abbrev AlE : Type := He.AlD × Bool
def obsE (n : Nat) (fa : List He.Fa) (fn : List He.DefD) (ex : PySem.W.Frag → Bool) (g : Addr → Option Obj) : AlE := (He.obsDG n fa fn g, ex (He.frG g (He.asD g n)))
def hookE (n : Nat) (fa : List He.Fa) (fn : List He.DefD) (ex : PySem.W.Frag → Bool) : PySem.W.Hook where
  α := AlE
  obs := fun s => obsE n fa fn ex s.heap.get?
  val := fun _ => (He.valD fn, true)
  says := fun _ h => ∃ K : PySem.W.Frag, K.In h ∧ He.SaysD fa fn K ∧ ex K = true
  of := fun _ s e => ⟨He.frG s.heap.get? (He.asD s.heap.get? n), He.frG_in, show _ = _ from congrArg (fun z : AlE => z.1) e, show _ = _ from congrArg (fun z : AlE => z.2) e⟩
  keeps := fun _ _ _ ⟨K, hK, c⟩ k => ⟨K, PySem.W.Frag.In.keeps hK k, c⟩
theorem obsE_eq {n : Nat} {fa : List He.Fa} {fn : List He.DefD} {ex : PySem.W.Frag → Bool} {g : Addr → Option Obj} {s : Shared} (h : ∀ a, g a = s.heap.get? a) : obsE n fa fn ex g = (hookE n fa fn ex).obs s := by
  have e : g = s.heap.get? := funext h
  rw [e] <;> rfl
/-- what is asked of the exceptions' classes -/
def excB (NS : List Str) (K : K0) : Bool := NS.all fun n =>
  decide (PySem.W.findIn K (.ref (He.ga K n)) "__getattribute__" = some (some (.builtin "BaseException.__getattribute__"))) && decide (PySem.W.findIn K (.ref (He.ga K n)) "__getattr__" = some none) &&
  decide (PySem.W.subIn K (.ref (He.ga K n)) (.type "BaseException") = some true) && PySem.W.hasDictIn K (He.ga K n) && decide (PySem.W.findIn K (.ref (He.ga K n)) "__class__" = some (some (.builtin "object.__class__"))) &&
  decide (PySem.W.mroIn K (He.ga K n) (.type "object") = some true) && decide (PySem.W.kitOne K (.ref (He.ga K n)) (.type "ValueError") = some true) &&
  decide (PySem.W.specialIn K (.builtin "object.__class__") "__get__" = some (some (.builtin "getset_descriptor.__get__"))) && decide (PySem.W.takesIn K (.builtin "object.__class__") = some true) &&
  NS.all fun c => decide (PySem.W.exmOne K (.ref (He.ga K n)) (.ref (He.ga K c)) = some (subE n c)) && decide (PySem.W.kitOne K (.ref (He.ga K n)) (.ref (He.ga K c)) = some (subE n c))
theorem exAll_of {K : K0} {mg : Str → Option Value} {NS : List Str} (hg : ∀ n ∈ NS, mg n = some (.ref (He.ga K n))) (h : excB NS K = true) : ExAll K mg NS := by
  intro n hn
  have h1 := List.all_eq_true.mp h n hn
  simp only [Bool.and_eq_true, decide_eq_true_eq] at h1
  obtain ⟨⟨⟨⟨⟨⟨⟨⟨⟨a1, a2⟩, a3⟩, a4⟩, a5⟩, a6⟩, a7⟩, a8⟩, a9⟩, a10⟩ := h1
  refine ⟨_, hg n hn, ⟨a1, a2, a3, a4, a5, a8, a9, a6⟩, a7, fun c hc => ?_⟩
  have h2 := List.all_eq_true.mp a10 c hc
  simp only [Bool.and_eq_true, decide_eq_true_eq] at h2
  exact ⟨_, hg c hc, h2.1, h2.2⟩
end DL

set_option Elab.async false
set_option linter.all false
set_option maxRecDepth 100000
set_option maxHeartbeats 1000000
/-! DL18: texts by their signs' numbers. -/
namespace DL
open PySem L2 PyProof.Rows
def tS (cs : List Nat) : Str := ⟨cs.toArray⟩
theorem tS_of (x : Str) : x = tS x.cps.toList := by unfold tS; simp
theorem tS_len (a : List Nat) : (tS a).length = a.length := by unfold tS Str.length; simp
theorem tS_app (a b : List Nat) : tS a ++ tS b = tS (a ++ b) := by
  show Str.append (tS a) (tS b) = _
  unfold tS Str.append
  simp
theorem tS_iff (a b : List Nat) : (tS a = tS b) = (a = b) := by
  unfold tS
  apply propext
  constructor
  · intro h
    have := congrArg (fun s : Str => s.cps.toList) h
    simpa using this
  · intro h; rw [h]
theorem repS_tS (l : List Nat) (k : Int) : repS (tS l) k = tS (List.replicate k.toNat l).flatten := by unfold repS tS; simp
theorem tS_cps (a : List Nat) : (tS a).cps.toList = a := by unfold tS; simp
theorem tS_one (c : Nat) : (⟨#[c]⟩ : Str) = tS [c] := rfl
theorem tS_sg (a : List Nat) : sgD (tS a) = a.map fun c => PyData.str (tS [c]) := by
  unfold sgD
  rw [tS_cps]; rfl
theorem tS_cut (a : List Nat) (lo hi : Option Int) : cutS (tS a) lo hi = tS (cut a lo hi) := by
  unfold cutS cut
  rw [tS_cps, tS_len]
  rfl
/-- texts joined -/
def joinL (sep : List Nat) : List (List Nat) → List Nat
  | [] => []
  | [x] => x
  | x :: y :: r => x ++ sep ++ joinL sep (y :: r)
theorem foldl_glue (sep : List Nat) : ∀ (ls : List (List Nat)) (x : List Nat), (ls.map tS).foldl (fun (acc : Array Nat) (p : Str) => acc ++ (tS sep).cps ++ p.cps) x.toArray = (joinL sep (x :: ls)).toArray
  | [], x => by simp [joinL]
  | y :: r, x => by
    rw [List.map_cons, List.foldl_cons]
    have e : x.toArray ++ (tS sep).cps ++ (tS y).cps = (x ++ sep ++ y).toArray := by unfold tS; simp
    rw [e, foldl_glue sep r]
    cases r with
    | nil => simp [joinL]
    | cons z r => simp [joinL, List.append_assoc]
theorem tS_join (sep : List Nat) (ls : List (List Nat)) : Txt.join (tS sep) (ls.map tS) = tS (joinL sep ls) := by
  unfold Txt.join Builtin.Str.glued
  cases ls with
  | nil => simp [joinL]; rfl
  | cons x r =>
    rw [List.map_cons, List.drop_one, List.tail_cons, List.headD_cons]
    have := foldl_glue sep r x
    unfold tS at this ⊢
    rw [this]
theorem joinL_nil : ∀ ls : List (List Nat), joinL [] ls = ls.flatten
  | [] => rfl
  | [x] => by simp [joinL]
  | x :: y :: r => by rw [joinL, joinL_nil (y :: r), List.append_nil]; rfl
theorem tS_nilE : Str.empty = tS [] := rfl
/-- lists of texts as data -/
abbrev tL (ls : List (List Nat)) : List D := ls.map fun l => .str (tS l)
theorem tL_iff (a b : List (List Nat)) : (tL a = tL b) = (a = b) := map_iff (fun x y e => by
  have := PyData.str.inj e
  rwa [tS_iff] at this) a b
theorem tL_snoc (ls : List (List Nat)) (l : List Nat) : tL ls ++ [PyData.str (tS l)] = tL (ls ++ [l]) := by simp
theorem tL_strs (ls : List (List Nat)) : tL ls = (ls.map tS).map PyData.str := by simp
theorem sh_tS (k : Nat) {l : List Nat} (h : PyData.strOk (tS l) = true) : Sh k (.str (tS l)) := sh_str k h
theorem pl_tL (ls : List (List Nat)) : pl (.list (tL ls)) = true := by
  rw [pl]; exact pls_all fun x m => by
    obtain ⟨n, _, e⟩ := List.mem_map.mp m
    subst e; rw [pl]
theorem flat_tL (ls : List (List Nat)) : (tL ls).all flatD = true := by
  rw [List.all_eq_true]; intro x m; obtain ⟨n, _, rfl⟩ := List.mem_map.mp m; rfl
theorem memD_tL (x : List Nat) (ls : List (List Nat)) : memD (.str (tS x)) (tL ls) = decide (x ∈ ls) := by
  unfold memD
  rw [Bool.eq_iff_iff, List.any_eq_true, decide_eq_true_eq]
  constructor
  · rintro ⟨d, m, e⟩
    obtain ⟨n, hn, rfl⟩ := List.mem_map.mp m
    rw [eqv_str, decide_eq_true_eq, tS_iff] at e
    subst e; exact hn
  · intro h
    exact ⟨_, List.mem_map_of_mem h, by simp⟩
theorem cps_getD (c : Nat) (l : List Nat) : (tS (c :: l)).cps.getD 0 0 = c := by unfold tS; simp
theorem join_go {d : D} {n : Nat} {Q : R → Prop} (ls : List (List Nat)) {a : List Nat} (hd : d = .list (tL ls)) (hn : n = a.length) (h : (ls.map (·.length)).sum + ls.length * a.length ≤ 16777216) (hq : Q (.v (.str (tS (joinL a ls))))) :
    ∃ ys, txtsD d ys ∧ (ys.map (fun x => x.length)).sum + ys.length * n ≤ 16777216 ∧ Q (.v (.str (Txt.join (tS a) ys))) := by
  subst hd hn
  refine ⟨ls.map tS, .inl (by simp), ?_, by rw [tS_join]; exact hq⟩
  rw [List.length_map, List.map_map]
  have : (fun x => x.length) ∘ tS = fun l : List Nat => l.length := by funext l; exact tS_len l
  rw [this]; exact h
theorem joinL_ones (f : Nat → Nat) : ∀ xs : List Nat, joinL [] (xs.map fun c => [f c]) = xs.map f := fun xs => by
  rw [joinL_nil]
  induction xs with
  | nil => rfl
  | cons x r ih => rw [List.map_cons, List.flatten_cons, ih]; rfl
theorem len_ones (f : Nat → Nat) (xs : List Nat) : ((xs.map fun c => [f c]).map (·.length)).sum = xs.length := by
  induction xs with
  | nil => rfl
  | cons x r ih => rw [List.map_cons, List.map_cons, List.sum_cons, ih, List.length_cons]; simp; omega
theorem rep_nL (n v : Nat) : (List.replicate n [PyData.int (v : Int)]).flatten = nL (List.replicate n v) := by
  induction n with
  | zero => rfl
  | succ n ih => rw [List.replicate_succ, List.flatten_cons, ih, List.replicate_succ]; rfl
theorem rep_one {α : Type} (n : Nat) (v : α) : (List.replicate n [v]).flatten = List.replicate n v := by
  induction n with
  | zero => rfl
  | succ n ih => rw [List.replicate_succ, List.flatten_cons, ih, List.replicate_succ]; rfl
theorem rep_range {α : Type} (n : Nat) (f : Nat → α) (v : α) (h : ∀ x, f x = v) : List.replicate n v = (List.range n).map f := by
  apply List.ext_getElem (by simp)
  intro i _ _
  simp [h]
theorem pick_go {α : Type} {L : List α} {z n : Int} {P : α → Prop} (hn : n = (L.length : Int)) (h0 : 0 < L.length) (h : ∀ c ∈ L, P c) : ∃ c, atI L (z % n) = some c ∧ P c := by
  subst hn
  obtain ⟨k, h1, h2⟩ := emod_nat (a := z) (b := (L.length : Int)) (by omega)
  rw [h1]
  exact ⟨_, atI_lt (by omega), h _ (List.getElem_mem _)⟩
theorem tL_set (ls : List (List Nat)) (i : Nat) (l : List Nat) : (tL ls).set i (PyData.str (tS l)) = tL (ls.set i l) := by simp
theorem cdiv_int {i j : Int} (h0 : 0 < j) (h1 : j < 2 ^ 60) : CDivW i j := by
  refine cdiv_ok h0 ?_
  have h2 : j.natAbs ≠ 0 := by omega
  have h3 : j.natAbs < 2 ^ 60 := by omega
  have := (Nat.log2_lt h2).mpr h3
  omega
theorem ite_and2 {p q : Prop} [Decidable p] [Decidable q] {A B : Prop} : (if p then (if q then A else B) else B) = if p ∧ q then A else B := by
  by_cases h : p <;> by_cases g : q <;> simp [h, g]
theorem ite_or2 {p q : Prop} [Decidable p] [Decidable q] {A B : Prop} : (if p then A else (if q then A else B)) = if p ∨ q then A else B := by
  by_cases h : p <;> by_cases g : q <;> simp [h, g]
theorem sum_ones {α : Type} (f : α → Nat) (l : List α) (k : Nat) (h : ∀ x ∈ l, f x ≤ k) : (l.map f).sum ≤ l.length * k := by
  induction l with
  | nil => simp
  | cons x r ih =>
    rw [List.map_cons, List.sum_cons, List.length_cons, Nat.succ_mul]
    have := ih fun y m => h y (List.mem_cons_of_mem _ m)
    have := h x (List.mem_cons_self ..)
    omega
theorem map_set_range {α : Type} {n j : Nat} {f g : Nat → α} {v : α} (h1 : ∀ x, x < n → x ≠ j → g x = f x) (h2 : j < n → g j = v) : ((List.range n).map f).set j v = (List.range n).map g := by
  apply List.ext_getElem (by simp)
  intro i hi _
  rw [List.getElem_set]
  simp at hi
  by_cases h : j = i
  · subst h
    simp [h2 hi]
  · rw [if_neg h]
    simp [h1 i hi (fun q => h q.symm)]
theorem tS_in (a : List Nat) (c : Nat) : (!(Builtin.Str.occurrences (tS a) (tS [c]) 0 (tS a).length 1).isEmpty) = decide (c ∈ a) := by
  have h := StrLaws.found_one (tS a) c
  rw [tS_cps] at h
  exact h
theorem tS_in' (a : List Nat) (c : Nat) : (!(Builtin.Str.occurrences (tS a) (tS [c]) 0 a.length 1).isEmpty) = decide (c ∈ a) := by
  have h := tS_in a c
  rwa [tS_len] at h
theorem log_small {n : Nat} (h : n < 2 ^ 60) : n.log2 < 1920 := by
  by_cases h0 : n = 0
  · subst h0; decide
  · have := (Nat.log2_lt h0).mpr h; omega
/-- plain signs -/
def okT (l : List Nat) : Prop := ∀ c ∈ l, c < 128
instance (l : List Nat) : Decidable (okT l) := by unfold okT; infer_instance
theorem okT.str {l : List Nat} (h : okT l) : PyData.strOk (tS l) = true := by
  unfold PyData.strOk tS
  simp only [List.all_toArray, List.all_eq_true]
  intro c m
  have := h c m
  simp; omega
theorem okT.sh {l : List Nat} (h : okT l) (k : Nat) : Sh k (.str (tS l)) := sh_str k h.str
theorem okT_nil : okT [] := by intro c m; cases m
theorem okT.app {a b : List Nat} (h : okT a) (g : okT b) : okT (a ++ b) := fun c m => (List.mem_append.mp m).elim (h c) (g c)
theorem okT_one {c : Nat} (h : c < 128) : okT [c] := by intro d m; simp at m; omega
theorem okT.sub {a b : List Nat} (h : okT a) (g : ∀ c ∈ b, c ∈ a) : okT b := fun c m => h c (g c m)
theorem sh_tL {ls : List (List Nat)} (h : ∀ l ∈ ls, okT l) : Sh 1 (.list (tL ls)) := sh_list fun x m => by
  obtain ⟨n, hn, rfl⟩ := List.mem_map.mp m; exact (h n hn).sh 0
theorem eqv_tL (a b : List (List Nat)) : PyData.eqv (.list (tL a)) (.list (tL b)) = decide (a = b) := by
  rw [Bool.eq_iff_iff, eqv_pl (pl_tL a) (pl_tL b), decide_eq_true_eq]
  simp only [PyData.list.injEq]
  rw [tL_iff]
theorem lt_tS (a b : List Nat) : ((tS a).cps.toList < (tS b).cps.toList) = (a < b) := by rw [tS_cps, tS_cps]
end DL

set_option Elab.async false
set_option linter.all false
set_option maxRecDepth 100000
set_option maxHeartbeats 1000000
/-! DL19: lists in lists changed, comprehensions that make own things, sorted, dict(pairs), divmod. -/
namespace DL
open PySem L2 PyProof.Rows
section
variable {K : K0} {G B H : Hp} {env : Env} {fp : List Addr} {σ : L2.St}
/-- an own thing within an own list of own things -/
theorem RR.put2 {os : List O} {o : O} {i n : Nat} (x : RR K G B env fp σ H) (hi : env[i]? = some (some (.lsts os))) (hn : os[n]? = some o) :
    ∃ a vs u g, σ[i]? = some (some (.ref a)) ∧ H a = some (.lst vs) ∧ vs.length = os.length ∧ vs[n]? = some u ∧ Own K B H u o g ∧ g.Nodup ∧ (∀ b ∈ g, b ∈ fp ∧ B b = none ∧ G b = none) ∧
    ∀ (B' H' : Hp) (o' : O) (g' : List Addr), Le B B' → Le B' H' → (∀ b w, b ∉ g → H b = some w → H' b = some w) → (∀ b w, H b = some w → b ∉ g → B b = none → B' b = none) → Own K B' H' u o' g' → g'.Nodup →
      (∀ b ∈ g', (b ∈ fp → b ∈ g) ∧ B' b = none ∧ G b = none) → ∃ fp', RR K G B' (env.set i (some (.lsts (os.set n o')))) fp' σ H' := by
  obtain ⟨v, gg, h1, h2, h3, h4, h5⟩ := x.put hi
  cases h2 with
  | @lsts a vs _ f hl rl =>
    obtain ⟨na, nf⟩ := List.nodup_cons.mp h3
    obtain ⟨u, g, z1, z2, z3, z4, z5⟩ := rl.atO nf hn
    have nag : a ∉ g := fun m => na (z3 a m)
    refine ⟨a, vs, u, g, h1, hl, rl.length, z1, z2, z4, fun b m => h4 b (List.mem_cons_of_mem _ (z3 b m)), fun B' H' o' g' l bh k nb w ng hg => ?_⟩
    obtain ⟨f', t1, t2, t3⟩ := z5 B' H' o' g' l (fun b m n => by
      obtain ⟨w', hw⟩ := rl.dom b m
      rw [hw]; exact k b w' n hw) w ng fun b m m' => (hg b m).1 (h4 b (List.mem_cons_of_mem _ m')).1
    have naf' : a ∉ f' := fun m => by
      rcases t3 a m with z | z
      · exact na z.1
      · exact nag ((hg a z).1 (h4 a List.mem_cons_self).1)
    refine h5 B' H' _ (a :: f') l bh (fun b w' n hw => k b w' (fun m => n (List.mem_cons_of_mem _ (z3 b m))) hw) (fun b w' hw n => nb b w' hw fun m => n (List.mem_cons_of_mem _ (z3 b m))) (.lsts (k a _ nag hl) t1) (List.nodup_cons.mpr ⟨naf', t2⟩) fun b m => ?_
    rcases List.mem_cons.mp m with z | z
    · subst z
      exact ⟨fun _ => List.mem_cons_self, nb b _ hl nag (h4 b List.mem_cons_self).2.1, (h4 b List.mem_cons_self).2.2⟩
    · rcases t3 b z with z | z
      · obtain ⟨w', hw⟩ := rl.dom b z.1
        have q := h4 b (List.mem_cons_of_mem _ z.1)
        exact ⟨fun _ => List.mem_cons_of_mem _ z.1, nb b w' hw z.2 q.2.1, q.2.2⟩
      · exact ⟨fun m => List.mem_cons_of_mem _ (z3 b ((hg b z).1 m)), (hg b z).2⟩
end
theorem atI_ixN {α : Type} {xs : List α} {i : Int} {n : Nat} {x : α} (h : ixN xs.length i = some n) (g : xs[n]? = some x) : atI xs i = some x := by
  unfold atI
  rw [h]; exact g
section
variable {X : Cx} {W : WX} {G : Hp} {e ob ix : Expr} {k t m : WE} {pos : Pos}
/-- xs[k].append(e), xs an own list of own lists -/
def wApp2 (i : Nat) (k t : WE) : WS := fun D env => ∃ os, env[i]? = some (some (.lsts os)) ∧ k env (fun kk => ∃ j n ds, kk.d = .int j ∧ ixN os.length j = some n ∧ os[n]? = some (.lst ds) ∧ t env (fun r => r.st ∧ ds.length < sizeLine ∧ D.nx (env.set i (some (.lsts (os.set n (.lst (ds ++ [r.d]))))))) (fun n => D.ex n env)) (fun n => D.ex n env)
theorem ds_app2 {i : Nat} {p2 apos cpos : Pos} (hu : X.A.units + 1 < cLine) (ho : PE X ob (tVar i)) (hk : DE X W G ix k) (he : DE X W G e t) (hpi : PlainIx ix)
    (hbase : attributeBase (.Subscript ob ix p2) "append" X.env (eval (.Subscript ob ix p2) X.env) = eval (.Subscript ob ix p2) X.env)
    (hfew : ((backTo cpos (starEach [e] X.env)).all (fun x => !x.1) && (backToKw cpos (keywordEach [] X.env)).all (fun x => x.1.isSome)
      && decide ([e].length + ([] : List Keyword).length + (if ([] : List Keyword).isEmpty then 0 else 1) < 30)) = true)
    (hline : (apos.endLine == cpos.line) = true) (hs : starEach [e] X.env = (false, eval e X.env) :: starEach [] X.env) (hplain : (backTo cpos (starEach [] X.env)).any (·.1) = false)
    (hsw : swapsWith (.Call (.Attribute (.Subscript ob ix p2) "append" apos) [e] [] cpos) none pos.line X.env = pure false) :
    DS X W G (.Expr (.Call (.Attribute (.Subscript ob ix p2) "append" apos) [e] [] cpos) pos) (wApp2 i k t) := by
  refine PSi (ps_expr (pe_bm PySem.F.plainAttrs_list PySem.F.slot_list_append PySem.F.type_list_append mt_append (pe_ix ix_list ho hk hpi) (pa_cons he pa_nil hs) hbase hfew hline hs hplain) hsw) fun D σ H ⟨B, env, fp, d, rr, ⟨os, hi, hm⟩, x⟩ => ?_
  obtain ⟨vi, g0, h1, _, _⟩ := rr.own.get hi
  refine ⟨vi, h1, B, env, fp, _, _, rr, hm, fun y H1 B1 kr e1 w1 ⟨j, n, ds, ej, hn, ho, hq⟩ => ?_, x.x rr⟩
  have rr1 := rr.ext e1
  have hy := w1.now e1
  rw [ej] at hy
  obtain ⟨a, vs, u, g, q1, q2, q3, q4, q5, q6, q7, q8⟩ := rr1.put2 hi ho
  rw [h1] at q1
  cases q1
  cases q5 with
  | @lst a2 vs2 _ hl rl =>
    refine ⟨a, vs, j, _, rfl, hy.int_inv, .inl (.inl q2), atI_ixN (by rw [q3]; exact hn) q4, .inl ⟨rfl, _, .inl (.inl hl)⟩, B1, env, fp, _, _, rr1, hq, fun v H2 B2 r e2 w2 ⟨st, hz, q⟩ => ?_, (x.x rr).later e1.same⟩
    obtain ⟨B3, e3, l3, rk⟩ := w2.keep e2 st
    have rr3 := rr1.ext e3
    obtain ⟨a', vs', u', g', z1, z2, z3, z4, z5, z6, z7, z8⟩ := rr3.put2 hi ho
    rw [h1] at z1
    cases z1
    have e4 := e2.same _ _ q2
    rw [z2] at e4
    cases e4
    rw [q4] at z4
    cases z4
    cases z5 with
    | @lst _ vs3 _ hl3 rl3 =>
      refine ⟨a2, vs3, v, rfl, rfl, hl3, by rw [rl3.length]; exact hz, ?_⟩
      have na : B3 a2 = none := (z7 a2 (by simp)).2.1
      obtain ⟨fp', y⟩ := z8 B3 (upd H2 a2 (.lst (vs3 ++ [v]))) (.lst (ds ++ [r.d])) [a2] (.refl _)
        (fun b u q => upd_keep (rr3.bh b u q) (ne_of_none q na)) (fun b u n q => upd_keep q fun z => n (by simp [z])) (fun _ _ _ _ q => q)
        (.lst upd_same (rl3.append (.one rk))) (by simp) (fun b m => ⟨fun _ => m, (z7 b m).2⟩)
      exact x.nx σ _ B3 _ fp' (e1.le.trans e3.le) y q
/-- xs[k][j] = e, xs an own list of own lists -/
def wSt2 (i : Nat) (k k2 m : WE) : WS := fun D env => ∃ os, env[i]? = some (some (.lsts os)) ∧ m env (fun r => k env (fun kk => ∃ j n ds, kk.d = .int j ∧ ixN os.length j = some n ∧ os[n]? = some (.lst ds) ∧
  k2 env (fun k2 => r.st ∧ ∃ j2 n2, k2.d = .int j2 ∧ ixN ds.length j2 = some n2 ∧ D.nx (env.set i (some (.lsts (os.set n (.lst (ds.set n2 r.d))))))) (fun n => D.ex n env)) (fun n => D.ex n env)) (fun n => D.ex n env)
theorem ds_st2 {i : Nat} {ix2 : Expr} {k2 : WE} {p2 p3 : Pos} (hu : X.A.units + 1 < cLine) (ho : PE X ob (tVar i)) (hk : DE X W G ix k) (hk2 : DE X W G ix2 k2) (hm : DE X W G e m) (hpi : PlainIx ix)
    (ha : ∀ v, assign (.Subscript (.Subscript ob ix p3) ix2 p2) X.env v = (do
      let ov ← holding [v] (eval (.Subscript ob ix p3) X.env)
      let iv ← holding [v, ov] (eval ix2 X.env)
      standAt p2
      holding [v, ov, iv] (setItem ov iv v)
      release [v, ov, iv] []))
    (hs : swapsWithSole [.Subscript (.Subscript ob ix p3) ix2 p2] e pos.line X.env = pure false) (hw : swappedStores [.Subscript (.Subscript ob ix p3) ix2 p2] e X.env = pure none) :
    DS X W G (.Assign [.Subscript (.Subscript ob ix p3) ix2 p2] e pos) (wSt2 i k k2 m) := by
  refine PSi (ps_asg hm (pg_sub (pe_ix ix_list ho hk hpi) hk2 set_list ha) hs hw) fun D σ H ⟨B, env, fp, d, rr, ⟨os, hi, hmm⟩, x⟩ => ?_
  refine ⟨B, env, fp, _, _, rr, hmm, fun v H1 B1 r e1 w1 q1 => ?_, x.x rr⟩
  obtain ⟨vi, g0, h1, _, _⟩ := rr.own.get hi
  have rr1 := rr.ext e1
  refine ⟨vi, h1, B1, env, fp, _, _, rr1, q1, fun y H2 B2 kr e2 w2 ⟨j, n, ds, ej, hn, ho, hq⟩ => ?_, (x.x rr).later e1.same⟩
  have rr2 := rr1.ext e2
  have hy := w2.now e2
  rw [ej] at hy
  obtain ⟨a, vs, u, g, q1, q2, q3, q4, q5, q6, q7, q8⟩ := rr2.put2 hi ho
  rw [h1] at q1
  cases q1
  cases q5 with
  | @lst a2 vs2 _ hl rl =>
    refine ⟨a, vs, j, _, rfl, hy.int_inv, .inl (.inl q2), atI_ixN (by rw [q3]; exact hn) q4, B2, env, fp, _, _, rr2, hq, fun y2 H3 B3 k2r e3 w3 ⟨st, j2, n2, ej2, hn2, q⟩ => ?_, (x.x rr).later (e1.same.trans e2.same)⟩
    have hy2 := w3.now e3
    rw [ej2] at hy2
    obtain ⟨B4, e4, l4, rk⟩ := (VOk.fwd (e2.trans e3) w1).keep (e1.trans (e2.trans e3)) st
    have rr4 := rr.ext e4
    obtain ⟨a', vs', u', g', z1, z2, z3, z4, z5, z6, z7, z8⟩ := rr4.put2 hi ho
    rw [h1] at z1
    cases z1
    have e5 := e3.same _ _ q2
    rw [z2] at e5
    cases e5
    rw [q4] at z4
    cases z4
    cases z5 with
    | @lst _ vs3 _ hl3 rl3 =>
      refine ⟨a2, vs3, _, n2, rfl, hy2.int_inv, hl3, by rw [rl3.length]; exact hn2, ?_⟩
      have na : B4 a2 = none := (z7 a2 (by simp)).2.1
      obtain ⟨fp', y⟩ := z8 B4 (upd H3 a2 (.lst (vs3.set n2 v))) (.lst (ds.set n2 r.d)) [a2] (.refl _)
        (fun b u q => upd_keep (rr4.bh b u q) (ne_of_none q na)) (fun b u n q => upd_keep q fun z => n (by simp [z])) (fun _ _ _ _ q => q)
        (.lst upd_same (rl3.set rk n2)) (by simp) (fun b m => ⟨fun _ => m, (z7 b m).2⟩)
      exact x.nx σ _ B4 _ fp' e4.le y q
end
end DL

set_option Elab.async false
set_option linter.all false
set_option maxRecDepth 100000
set_option maxHeartbeats 1000000
/-! DL20: comprehensions that make own things, sorted, dict(pairs), divmod, written dicts. -/
namespace DL
open PySem L2 PyProof.Rows
theorem pow_pos_go (h : Nat) : (0 : Int) < ((2 ^ h : Nat) : Int) := by have := Nat.two_pow_pos h; omega
/-! ### comprehensions whose list holds own things -/
def LcO (env : Env) (ds : List PyData) (vs : List Nat) (g : WG) (c : WT) (t : WE) (Q : R → Prop) : Prop := ∃ P : Nat → List O → Prop, P 0 [] ∧
  (∀ i d acc, ds[i]? = some d → P i acc → g d (wipeE env vs) fun env2 => c env2 (fun k => if k = true then t env2 (fun r => r.st ∧ acc.length < sizeLine ∧ P (i + 1) (acc ++ [r.o])) noE else P (i + 1) acc) noE) ∧
  ∀ acc, P ds.length acc → Q (.t (.lsts acc))
def wLcO (it : WI) (vs : List Nat) (g : WG) (c : WT) (t : WE) : WE := fun env Q E => it env (fun ds => LcO env ds vs g c t Q) E
theorem wLcO_eq (it : WI) (vs : List Nat) (g : WG) (c : WT) (t : WE) (env : Env) (Q : R → Prop) (E : Str → Prop) : wLcO it vs g c t env Q E = it env (fun ds => LcO env ds vs g c t Q) E := rfl
theorem lcO_mapE {α : Type} {ls : List α} {enc : α → D} {env : Env} {vs : List Nat} {g : WG} {t : WE} {Q : R → Prop} (f : α → O) (hz : ls.length ≤ sizeLine)
    (h : ∀ x ∈ ls, ∀ A : R → Prop, (∀ r, r.st → r.o = f x → A r) → g (enc x) (wipeE env vs) fun env2 => t env2 A noE) (q : Q (.t (.lsts (ls.map f)))) : LcO env (ls.map enc) vs g wYes t Q := by
  refine ⟨fun i acc => acc = (ls.take i).map f, by simp, fun i d acc hd ha => ?_, fun acc ha => ?_⟩
  · obtain ⟨x, hx, e⟩ := map_get hd
    subst e
    have ha : acc = (ls.take i).map f := ha
    refine h x (List.mem_of_getElem? hx) (fun r => r.st ∧ acc.length < sizeLine ∧ acc ++ [r.o] = (ls.take (i + 1)).map f) fun r rs rd => ⟨rs, ?_, ?_⟩
    · have hi := (List.getElem?_eq_some_iff.mp hx).1
      rw [ha, List.length_map, List.length_take]
      omega
    · rw [take_succ hx, List.map_append, ha, rd]; rfl
  · have ha : acc = (ls.take (ls.map enc).length).map f := ha
    rw [ha, List.length_map, List.take_length]; exact q
section
variable {X : Cx} {W : WX} {G : Hp} {tg iter elt : Expr} {ifs : List Expr} {scope : Scope} {own : List (Str × Nat)} {it : WI} {g : WG} {c : WT} {t : WE} {pos : Pos}
theorem lcO_ok {σ : L2.St} {H : Hp} {QV : VK} {vs : List Nat} (h : tD X W G (wLcO it vs g c t) σ H QV) :
    tLc (tDIc X W G it) (tDG X G vs g) (tDT X W0 G c) (tD X W0 G t) vs σ H QV := by
  obtain ⟨B, env, fp, Q, E, rr, hm, hq, hx⟩ := h
  refine ⟨B, env, fp, _, E, rr, hm, fun J H1 B1 ds e1 wk ⟨P, p0, pt, pe⟩ L nL => ?_, hx⟩
  have out : ∀ {H2 B2 : Hp}, RR X.K G B2 env fp σ H2 → L ∉ fp := fun {H2 B2} r2 m => by
    obtain ⟨u, hu⟩ := (rr.ext e1).own.dom L m
    rw [nL] at hu; cases hu
  have gL : G L = none := (rr.ext e1).gh.none nL
  let Iv : Nat → Hp → Prop := fun i H2 => ∃ B2 acc vs2 f, Le B1 B2 ∧ RR X.K G B2 env fp σ H2 ∧ B2 L = none ∧ H2 L = some (.lst vs2) ∧ OwnAll X.K B2 H2 vs2 acc f ∧ f.Nodup ∧ L ∉ f ∧ (∀ a ∈ f, H1 a = none ∧ B2 a = none) ∧
    (∀ a o, H1 a = some o → H2 a = some o) ∧ (∀ a o, H1 a = some o → B1 a = none → B2 a = none) ∧ P i acc
  refine ⟨fun i m H2 => m = ds.length - i ∧ i ≤ ds.length ∧ Iv i H2,
    ⟨_, rfl, Nat.zero_le _, B1, [], [], [], .refl _, (rr.ext e1).beside (out (rr.ext e1)) (e1.bh.none nL) gL, e1.bh.none nL, upd_same, .nil, by simp, by simp, by simp, fun a o q => upd_keep q (ne_of_none q nL), fun _ _ _ n => n, p0⟩, ?_⟩
  rintro i m H2 ⟨rfl, hle, B2, acc, vs2, f, l2, rr2, bL, hL, ra, nf, Lf, hf, s2, n2, pi⟩
  by_cases hlt : i < ds.length
  · refine .inr ⟨wk.go i H2 B2 l2 rr2.bh s2 hlt, fun H' => Iv (i + 1) H', fun H' z => ⟨_, (by omega), rfl, hlt, z⟩, fun y H3 hy => ?_⟩
    obtain ⟨dd, B3, hd, e3, rp⟩ := wk.yld i H2 y H3 B2 hlt l2 rr2.bh s2 hy
    obtain ⟨fpw, rrw⟩ := (rr2.ext e3).wipe vs
    refine ⟨B3, _, fpw, dd, _, rrw, rp, pt i dd acc hd pi, fun σ4 env4 fp4 rr4 t4 q4 => ⟨?_, ?_⟩⟩
    · have := t4.wipe
      rw [this]
      exact (Touch.wipe ⟨wipe_length σ vs, fun j nj => by rw [wipe_get, if_neg nj]⟩)
    · refine ⟨B3, env4, fp4, _, noE, rr4, q4, fun k H5 B5 e5 q5 => ?_, xok0⟩
      have eA := e3.trans e5
      have keepO : ∀ {H' B' : Hp}, Ext H2 B2 H' B' → OwnAll X.K B' H' vs2 acc f ∧ ∀ a ∈ f, H1 a = none ∧ B' a = none := fun {H' B'} e => ⟨ra.mono e.le fun a m => by
        obtain ⟨u, hu⟩ := ra.dom a m
        rw [hu]; exact e.same a u hu, fun a m => ⟨(hf a m).1, by
        obtain ⟨u, hu⟩ := ra.dom a m
        exact e.new a u hu (hf a m).2⟩⟩
      cases k with
      | false =>
        rw [if_neg (by simp)] at q5
        refine iteF ?_
        obtain ⟨k1, k2⟩ := keepO eA
        exact ⟨B5, acc, vs2, f, l2.trans eA.le, rr2.ext eA, eA.new L _ hL bL, eA.same _ _ hL, k1, nf, Lf, k2, fun a o q => eA.same _ _ (s2 a o q), fun a o q n => eA.new a o (s2 a o q) (n2 a o q n), q5⟩
      | true =>
        rw [if_pos rfl] at q5
        refine iteT ?_
        refine ⟨B5, env4, fp4, _, noE, rr4.ext e5, q5, fun u H6 B6 r e6 w ⟨sr, hz, p6⟩ => ?_, xok0⟩
        have eB := eA.trans e6
        have hL6 := eB.same _ _ hL
        have bL6 := eB.new L _ hL bL
        have rr6 := rr2.ext eB
        obtain ⟨k1, k2⟩ := keepO eB
        have key : ∀ g', Own X.K B6 H6 u r.o g' → g'.Nodup → (∀ a ∈ g', H5 a = none ∧ B6 a = none) → Iv (i + 1) (upd H6 L (.lst (vs2 ++ [u]))) := fun g' wg ng hg => by
          have h5 : ∀ a ∈ g', H1 a = none ∧ a ∉ f ∧ a ≠ L := fun a m => by
            have q := eA.same.none (hg a m).1
            have q1 : H1 a = none := by
              cases z : H1 a with
              | none => rfl
              | some o => rw [s2 a o z] at q; cases q
            refine ⟨q1, fun m' => ?_, fun e => ?_⟩
            · obtain ⟨o, ho⟩ := ra.dom a m'
              rw [ho] at q; cases q
            · subst e; rw [hL] at q; cases q
          have ne : ∀ a ∈ f ++ g', upd H6 L (.lst (vs2 ++ [u])) a = H6 a := fun a m => upd_ne fun e => by
            rcases List.mem_append.mp m with m | m
            · exact Lf (e ▸ m)
            · exact (h5 a m).2.2 e
          have t1 := k1.mono (H' := upd H6 L (.lst (vs2 ++ [u]))) (Le.refl B6) fun a m => ne a (List.mem_append_left _ m)
          have t2 := wg.mono (H' := upd H6 L (.lst (vs2 ++ [u]))) (Le.refl B6) fun a m => ne a (List.mem_append_right _ m)
          have t3 := t1.append (OwnAll.cons t2 .nil)
          rw [List.append_nil] at t3
          refine ⟨B6, acc ++ [r.o], vs2 ++ [u], f ++ g', l2.trans eB.le, rr6.beside (out rr6) bL6 gL, bL6, upd_same, t3, List.nodup_append.mpr ⟨nf, ng, fun a m b m' e => (h5 b m').2.1 (e ▸ m)⟩, fun m => ?_, fun a m => ?_, fun a o q => upd_keep (eB.same _ _ (s2 a o q)) (ne_of_none q nL), fun a o q n => eB.new a o (s2 a o q) (n2 a o q n), p6⟩
          · rcases List.mem_append.mp m with m | m
            · exact Lf m
            · exact (h5 L m).2.2 rfl
          · rcases List.mem_append.mp m with m | m
            · exact k2 a m
            · exact ⟨(h5 a m).1, (hg a m).2⟩
        refine ⟨vs2, hL6, by rw [k1.length]; exact hz, ?_⟩
        cases r with
        | v d => exact key [] (.fro w) (by simp) fun b m => absurd m (by simp)
        | t o => obtain ⟨g', w, ng, hg⟩ := w; exact key g' w ng hg
        | b o => exact sr.elim
  · have e : i = ds.length := by omega
    subst e
    refine .inl ⟨wk.stop _ H2 B2 l2 rr2.bh s2 (Nat.le_refl _), hq _ H2 B2 (.t (.lsts acc)) ⟨e1.same.trans s2, e1.le.trans l2, rr2.bh, fun a o q n => n2 a o (e1.same _ _ q) (e1.new a o q n)⟩ ⟨L :: f, .lsts hL ra, List.nodup_cons.mpr ⟨Lf, nf⟩, fun a m => ?_⟩ (pe acc pi)⟩
    rcases List.mem_cons.mp m with z | z
    · subst z; exact ⟨e1.same.none nL, bL⟩
    · exact ⟨e1.same.none (hf a z).1, (hf a z).2⟩
theorem de_lcO (hc : X.calm = true) (hN : X.N.Nodup) (hi : DIc X W G tg iter it) {N : List Str} {sc : Scope} (ok : blkC N sc scope own = true) (eN : X.N = N) (eS : X.env.scope = sc)
    (hg : ∀ s H C cl fp, DG (Bk X scope s H C cl fp) G (own.map (·.2)) tg g) (ht : ∀ s H C cl fp, PTs (Bk X scope s H C cl fp) ifs (tDT X W0 G c)) (he : ∀ s H C cl fp, DE (Bk X scope s H C cl fp) W0 G elt t)
    (hs : ∀ x, foldedSetIterable iter X.env x = pure x) : DE X W G (.ListComp elt [⟨tg, iter, ifs, 0⟩] scope pos) (wLcO it (own.map (·.2)) g c t) :=
  PEi (pe_lc (g := tDG X G (own.map fun p : Str × Nat => p.2) g) (tt := tDT X W0 G c) (te := tD X W0 G t) hc hN hi (by subst eN eS; exact blkOk_by ok) hg ht he hs) fun _ _ _ h => lcO_ok h
theorem ds_setLcO {i : Nat} {y : Str} {py spos : Pos} (hc : X.calm = true) (hN : X.N.Nodup) (hy : X.N[i]? = some y) (hyl : X.env.scope.names.lookup y = some .local)
    (hsw : swapsWith (.ListComp elt [⟨tg, iter, ifs, 0⟩] scope pos) (some (.Name y py)) spos.line X.env = pure true) (hi : DIc X W G tg iter it) {N : List Str} {sc : Scope} (ok : blkC N sc scope own = true) (eN : X.N = N) (eS : X.env.scope = sc)
    (hg : ∀ s H C cl fp, DG (Bk X scope s H C cl fp) G (own.map (·.2)) tg g) (ht : ∀ s H C cl fp, PTs (Bk X scope s H C cl fp) ifs (tDT X W0 G c)) (he : ∀ s H C cl fp, DE (Bk X scope s H C cl fp) W0 G elt t)
    (hs : ∀ x, foldedSetIterable iter X.env x = pure x) : DS X W G (.Assign [.Name y py] (.ListComp elt [⟨tg, iter, ifs, 0⟩] scope pos) spos) (wAsg i (wLcO it (own.map (·.2)) g c t)) :=
  PSi (ps_setLc (g := tDG X G (own.map fun p : Str × Nat => p.2) g) (tt := tDT X W0 G c) (te := tD X W0 G t) hc hN hy hyl hsw hi (by subst eN eS; exact blkOk_by ok) hg ht he hs) fun D σ H h => asg_ok (fun _ _ _ h => lcO_ok h) H h
end
/-! ### sorted -/
def ordS (xs ys : List Str) : Prop := ys.Perm xs ∧ sortedS ys = true
def ordI (xs ys : List Int) : Prop := ys.Perm xs ∧ ys.Pairwise (· ≤ ·)
def sortedD : F1
  | .list ds, Q => (∃ ns : List Int, ds = ns.map PyData.int ∧ ∀ ms, ordI ns ms → Q (.t (.lst (ms.map PyData.int)))) ∨ ∃ xs : List Str, ds = xs.map PyData.str ∧ ∀ ys, ordS xs ys → Q (.t (.lst (ys.map PyData.str)))
  | .dict kvs, Q => (∃ ns : List Int, ns.length < 64 ∧ kvs.map (·.1) = ns.map PyData.int ∧ ∀ ms, ordI ns ms → Q (.t (.lst (ms.map PyData.int)))) ∨ ∃ xs : List Str, kvs.map (·.1) = xs.map PyData.str ∧ ∀ ys, ordS xs ys → Q (.t (.lst (ys.map PyData.str)))
  | _, _ => False
theorem sortedD_l (ds : List D) (Q : R → Prop) : sortedD (.list ds) Q = ((∃ ns : List Int, ds = ns.map PyData.int ∧ ∀ ms, ordI ns ms → Q (.t (.lst (ms.map PyData.int)))) ∨ ∃ xs : List Str, ds = xs.map PyData.str ∧ ∀ ys, ordS xs ys → Q (.t (.lst (ys.map PyData.str)))) := rfl
theorem sortedD_d (kvs : List (D × D)) (Q : R → Prop) : sortedD (.dict kvs) Q = ((∃ ns : List Int, ns.length < 64 ∧ kvs.map (·.1) = ns.map PyData.int ∧ ∀ ms, ordI ns ms → Q (.t (.lst (ms.map PyData.int)))) ∨ ∃ xs : List Str, kvs.map (·.1) = xs.map PyData.str ∧ ∀ ys, ordS xs ys → Q (.t (.lst (ys.map PyData.str)))) := rfl
theorem RepKV.keysS {K : K0} {B : Hp} : ∀ {kvs : List (Key × V)} {ds : List (D × D)} {xs : List Str}, RepKV K B kvs ds → ds.map (·.1) = xs.map PyData.str → kvs.map (·.1) = xs.map Sum.inr
  | _, _, [], .nil, _ => rfl
  | _, _, x :: xs, .cons (k := k) r t, e => by
    simp only [List.map_cons, List.cons.injEq] at e ⊢
    exact ⟨by cases k <;> simp [kD] at e ⊢; exact e.1, RepKV.keysS t e.2⟩
theorem RepKV.keysI {K : K0} {B : Hp} : ∀ {kvs : List (Key × V)} {ds : List (D × D)} {xs : List Int}, RepKV K B kvs ds → ds.map (·.1) = xs.map PyData.int → kvs.map (·.1) = xs.map Sum.inl
  | _, _, [], .nil, _ => rfl
  | _, _, x :: xs, .cons (k := k) r t, e => by
    simp only [List.map_cons, List.cons.injEq] at e ⊢
    exact ⟨by cases k <;> simp [kD] at e ⊢; exact e.1, RepKV.keysI t e.2⟩
section
variable {X : Cx}
theorem sortedAnyS : CallR X (.builtin "sorted") (fun vs H Q => ∃ (a : Addr) (xs : List Str), vs = [V.ref a] ∧ SqL X.K H a (xs.map V.str) ∧ ∀ (ys : List Str) (p : Addr), ys.Perm xs → sortedS ys = true → H p = none → Q (.ref p) (upd H p (.lst (ys.map V.str)))) := by
  intro pins s σ H vs us Q I r h
  obtain ⟨a, xs, rfl, hs, q⟩ := h
  obtain ⟨its, rv, hl, hz⟩ := I.list hs
  rw [Vals.ref1 r]
  have hlen0 := rv.length
  rw [List.length_map] at hlen0 hz
  refine PyProof.Rows.sorted_strsAny hl.isList rv.strs (by rw [← hlen0]; exact hz) fun out ys h1 h2 h3 => ?_
  obtain ⟨ep, he'⟩ := PyProof.Rows.sortedAll_at s.heap its out
  have hlen : (ys.map V.str).length ≤ sizeLine := by rw [List.length_map, h2.length_eq]; exact hz
  exact ⟨.ref _, upd H (s.heap.objs.size + 1) (.lst (ys.map V.str)), I.laid (t' := s.toks) (fun _ _ => PyProof.Rows.sortedAll_old) (Nat.le_succ _) ⟨hlen, out.toList, ep, vals_of_strs h1, he'⟩, rfl, q ys _ h2 h3 (I.hok.fresh (Nat.le_succ _))⟩
theorem sortedAnyD (hcalm : X.calm = true) : CallR X (.builtin "sorted") (fun xs H Q => ∃ (a : Addr) (kvs : List (Key × V)) (ks : List Str), xs = [.ref a] ∧ Rd H a (.dK kvs) ∧ kvs.map (·.1) = ks.map Sum.inr ∧
    ∀ ys p, ys.Perm ks → sortedS ys = true → H p = none → Q (.ref p) (upd H p (.lst (ys.map V.str)))) := by
  intro pins s σ H xs us Q I r q
  obtain ⟨a, kvs, ks, ex, hd, hks, q⟩ := q
  subst ex
  obtain ⟨u, eu, rx⟩ := vals1 r
  subst eu
  cases rx
  obtain ⟨z, lo, vs, rel, dd⟩ := dk_rd I.hok hd
  obtain ⟨ep, hat⟩ := dd.dictAt
  have hkeys : vs.map (·.1) = ks.map Sum.inr := rel.keys.symm.trans hks
  have hl : vs.length = ks.length := by
    have e := congrArg List.length hkeys
    rw [List.length_map, List.length_map] at e
    exact e
  have h16 : vs.length ≤ sizeLine := by rw [← rel.length]; exact z
  have h17 : ks.length ≤ sizeLine := by rw [← hl]; exact h16
  refine Calls.call_function_entry PyProof.Rows.kind_sorted PyProof.Rows.plain_sorted PyProof.Rows.entry_sorted (PyProof.Rows.args_sorted1 _) ?_
  unfold Builtin.«sorted»
  refine wpAny_bind (m := checkCount "sorted" 1 1 _) (wpAny_pure ?_)
  refine wpAny_bind (PySem.W.kdu_collect (A := X.A.in1) (PySem.W.kdl_dict (knd := mixKind X.prog X.w) (kvs := vs) (ep := ep) lo) (I.ok.hd hcalm) hat h16 fun h' tk acc hk hacc => ?_)
  have hal : acc.toList.length = ks.length := by rw [Array.length_toList, hacc.1, hl]
  have hS : StrsAre acc.toList ks := strs_at hal fun j v e => by
    obtain ⟨k, x, e1, e2⟩ := hacc.2 j v (by rw [← Array.getElem?_toList]; exact e)
    have e3 : (vs.map (·.1))[j]? = some k := by rw [List.getElem?_map, e1]; all_goals rfl
    rw [hkeys, List.getElem?_map] at e3
    cases e4 : ks[j]? with
    | none => rw [e4] at e3; cases e3
    | some y =>
      rw [e4] at e3
      have e5 : Sum.inr y = k := Option.some.inj e3
      subst e5
      obtain ⟨t, ev⟩ := Value.isStrOf_shape (x := y) (v := v) e2
      exact ⟨y, t, rfl, ev⟩
  have I1 : Inv X pins σ H { s with heap := h', toks := tk } := I.kept hk
  refine wpAny_bind (wpAny_newList ?_ (by rw [hal]; exact h17))
  have hoL : (h'.push (seqObj "list" acc.toList.toArray 0)).get? h'.objs.size = some (seqObj "list" acc.toList.toArray 0) := Heap.get?_push_size _ rfl
  show wpAny _ _ _ _ _ { s with heap := h'.push (seqObj "list" acc.toList.toArray 0), toks := tk }
  refine wpAny_bind (wpAny_holding (wpAny_call_entry PyProof.Rows.slot_list_sort ⟨_, hoL, rfl⟩ PyProof.Rows.entry_list_sort
    (list_sort_treeKAny strKind_oneLt (s := { s with heap := h'.push (seqObj "list" acc.toList.toArray 0), toks := tk }) hoL hS.keysOf (fun v₁ v₂ rest e => keyKind_strs (by rw [← e]; exact hS)) (by rw [hal]; exact h17) fun st' hp hs => ⟨_, rfl, ?_⟩)
    (PyProof.Rows.args_list_sort _)))
  obtain ⟨ys, g1, g2, g3⟩ := sorted_out_str hS hp hs
  obtain ⟨e', he'⟩ := PyProof.Rows.sortedHeap_at (vs := acc.toList) (out := (arrOf st').map (·.2)) hoL
  have hlen : (ys.map V.str).length ≤ sizeLine := by
    rw [List.length_map, g2.length_eq]
    exact h17
  refine wpAny_pure ⟨_, rfl, .ref h'.objs.size, upd H h'.objs.size (.lst (ys.map V.str)), I1.laid (t' := tk) (fun b u e => ?_) (Nat.le_refl _)
    (show ObjOk X.prog X.w _ _ _ (.lst (ys.map V.str)) from ⟨hlen, ((arrOf st').map (·.2)).toList, e', vals_of_strs g1, by rw [Array.toArray_toList]; exact he'⟩), rfl, q ys _ g2 g3 (I1.hok.fresh (Nat.le_refl _))⟩
  have hb : b < h'.objs.size := Heap.lt_size e
  rw [PyProof.Rows.sortedHeap_old (Nat.ne_of_lt hb) (by rw [size_push']; exact Nat.lt_succ_of_lt hb)]
  exact Heap.get?_push_of_some _ e
theorem cSorted (hc : X.calm = true) : CallR X (.builtin "sorted") (rB X.K (f1s sortedD)) := by
  intro pins s σ H xs us QV I rv ⟨B, fp, rs, Q, l, x, hf, hq⟩
  obtain ⟨a, e, sh, hg⟩ := f1s_inv hf
  clear hf
  subst e
  obtain ⟨v, e, hv⟩ := x.one_sh sh
  subst e
  generalize a.d = d at hv hg
  cases d <;> first | exact (show False from hg).elim | skip
  · obtain ⟨p, vs, e, s', t⟩ := hv.list l
    subst e
    rcases hg with ⟨ns, e, hg⟩ | ⟨ys, e, hg⟩
    · subst e
      rw [t.intsV] at s'
      exact cr_sortedI pins s σ H _ us QV I rv ⟨p, ns, rfl, s', fun ms p' h1 h2 np => hq _ _ B (.t _) (.make l np _) (t_lst l np .ints) (hg ms ⟨h1, h2⟩)⟩
    · subst e
      rw [t.strsV] at s'
      exact sortedAnyS pins s σ H _ us QV I rv ⟨p, ys, rfl, s', fun ms p' h1 h2 np => hq _ _ B (.t _) (.make l np _) (t_lst l np (.strs ms)) (hg ms ⟨h1, h2⟩)⟩
  · obtain ⟨p, kvs, e, s', t⟩ := hv.dict l
    subst e
    rcases hg with ⟨ns, h64, e, hg⟩ | ⟨ys, e, hg⟩
    · exact call_sortedDI hc pins s σ H _ us QV I rv ⟨p, kvs, ns, rfl, s', t.keysI e, h64, fun ms p' h1 h2 np => hq _ _ B (.t _) (.make l np _) (t_lst l np .ints) (hg ms ⟨h1, h2⟩)⟩
    · exact sortedAnyD hc pins s σ H _ us QV I rv ⟨p, kvs, ys, rfl, s', t.keysS e, fun ms p' h1 h2 np => hq _ _ B (.t _) (.make l np _) (t_lst l np (.strs ms)) (hg ms ⟨h1, h2⟩)⟩
/-! ### dict(pairs) -/
def pairD (p : Key × D) : D := .tuple [kD p.1, p.2]
def mergeD (acc : List (D × D)) (ps : List (Key × D)) : List (D × D) := ps.foldl (fun acc p => putD acc p.1 p.2) acc
def dictD : F1
  | .list ds, Q => ∃ ps : List (Key × D), ds = ps.map pairD ∧ Q (.t (.dic (mergeD [] ps)))
  | .tuple ds, Q => ∃ ps : List (Key × D), ds = ps.map pairD ∧ Q (.t (.dic (mergeD [] ps)))
  | .dict kvs, Q => Q (.t (.dic kvs))
  | _, _ => False
theorem dictD_l (ds : List D) (Q : R → Prop) : dictD (.list ds) Q = ∃ ps : List (Key × D), ds = ps.map pairD ∧ Q (.t (.dic (mergeD [] ps))) := rfl
theorem dictD_t (ds : List D) (Q : R → Prop) : dictD (.tuple ds) Q = ∃ ps : List (Key × D), ds = ps.map pairD ∧ Q (.t (.dic (mergeD [] ps))) := rfl
theorem pairs_rep {K : K0} {B : Hp} : ∀ {ps : List (Key × D)} {vs : List V}, RepAll K B vs (ps.map pairD) → ∃ (as : List Addr) (kvs : List (Key × V)), vs = as.map V.ref ∧ Paired (fun p kv => SqT K B p [kV kv.1, kv.2]) as kvs ∧ Paired (fun (kv : Key × V) (p : Key × D) => kv.1 = p.1 ∧ Rep K B kv.2 p.2) kvs ps
  | [], _, .nil => ⟨[], [], rfl, .nil, .nil⟩
  | p :: ps, _, .cons r t => by
    obtain ⟨as, kvs, e, h1, h2⟩ := pairs_rep t
    obtain ⟨a, us, e2, s, t2⟩ := (show Rep K B _ (.tuple [kD p.1, p.2]) from r).tup_inv
    subst e e2
    cases t2 with
    | cons r1 t3 =>
      cases t3 with
      | cons r2 t4 =>
        cases t4
        rw [kV_rep r1] at s
        exact ⟨a :: as, (p.1, _) :: kvs, rfl, .cons s h1, .cons ⟨rfl, r2⟩ h2⟩
theorem merge_rep {K : K0} {B : Hp} : ∀ {kvs : List (Key × V)} {ps : List (Key × D)} {acc : List (Key × V)} {accD : List (D × D)}, Paired (fun (kv : Key × V) (p : Key × D) => kv.1 = p.1 ∧ Rep K B kv.2 p.2) kvs ps → RepKV K B acc accD → RepKV K B (mergeK acc kvs) (mergeD accD ps)
  | _, _, _, _, .nil, r => r
  | _, _, _, _, .cons (a := kv) (b := p) h t, r => by
    show RepKV K B (mergeK (putK _ kv.1 kv.2) _) (mergeD (putD _ p.1 p.2) _)
    rw [h.1]
    exact merge_rep t (r.put h.2)
theorem Paired.mono {α β : Type} {F F' : α → β → Prop} (h : ∀ a b, F a b → F' a b) {l : List α} {m : List β} (p : Paired F l m) : Paired F' l m := L2.Paired.mapP p h
theorem pairs_of2 {pins : List (Addr × Obj)} {σ : L2.St} {H : Hp} {s : Shared} (I : Inv X pins σ H s) : ∀ {ps : List Addr} {kvs : List (Key × V)}, Paired (fun p kv => SqT X.K H p [kV kv.1, kv.2]) ps kvs →
    ∃ (vps : List (Value × Value)) (prs : List (Key × Value)), KV kvs prs ∧ prs.length = ps.length ∧ vps.length = ps.length ∧ ∀ (j : Nat) (q : Key × Value), prs[j]? = some q → ∃ (b : Addr) (u : Value), ps[j]? = some b ∧ vps[j]? = some (u, q.2) ∧ IsTup s.heap b #[u, q.2] ∧ keyIs q.1 u = true
  | _, _, .nil => ⟨[], [], .nil, rfl, rfl, fun j q e => by simp at e⟩
  | _, _, .cons (a := p) (b := kv) h t => by
    obtain ⟨vps, prs, r, hl, hl2, hp⟩ := pairs_of2 I t
    obtain ⟨its, rv, ht, _⟩ := I.tuple h
    obtain ⟨u, y, ei, ru, ry⟩ := vals2 rv
    subst ei
    refine ⟨(u, y) :: vps, (kv.1, y) :: prs, .cons ⟨rfl, ry⟩ r, by rw [List.length_cons, List.length_cons, hl], by rw [List.length_cons, List.length_cons, hl2], fun j q e => ?_⟩
    cases j with
    | zero =>
      have e' : (kv.1, y) = q := Option.some.inj e
      subst e'
      exact ⟨p, u, rfl, rfl, ht, kV_is (P := X.prog) (w := X.w) ru⟩
    | succ j =>
      obtain ⟨b, u', e1, e2, e3, e4⟩ := hp j q (by simpa using e)
      exact ⟨b, u', by simpa using e1, by simpa using e2, e3, e4⟩
theorem call_dictPT (hcalm : X.calm = true) : CallR X (.type "dict") (fun xs H Q => ∃ (a : Addr) (ps : List Addr) (kvs : List (Key × V)), xs = [.ref a] ∧ SqT X.K H a (ps.map V.ref) ∧ Pln H a ∧ Paired (fun p kv => SqT X.K H p [kV kv.1, kv.2]) ps kvs ∧
    ∀ p, H p = none → Q (.ref p) (upd H p (.dK (mergeK [] kvs)))) := by
  intro pins s σ H xs us Q I r q
  obtain ⟨a, ps, kvs, ex, hq, ⟨o, u, ho, hd⟩, hp, q⟩ := q
  subst ex
  obtain ⟨u', eu, rx⟩ := vals1 r
  subst eu
  cases rx
  obtain ⟨its, rv, pl, hz⟩ := I.tuple hq
  have ei := refs_at rv
  subst ei
  rw [List.length_map] at hz
  obtain ⟨vps, prs, rel, hl, hl2, hpr⟩ := pairs_of2 I hp
  obtain ⟨o', e1, e2, n, e3⟩ := pl
  have hob : s.heap.get? a = some o := (I.hok a _ ho).1
  rw [hob] at e1
  cases e1
  have hk : ∀ j k v, vps[j]? = some (k, v) → ∃ b key, ps[j]? = some b ∧ prs[j]? = some (key, v) ∧ IsTup s.heap b #[k, v] ∧ keyIs key k = true := fun j k v e => by
    have hj : j < prs.length := by rw [hl, ← hl2]; exact (List.getElem?_eq_some_iff.mp e).1
    obtain ⟨b, u2, q1, q2, q3, q4⟩ := hpr j prs[j] (List.getElem?_eq_getElem hj)
    rw [e] at q2
    have q2' := Option.some.inj q2
    have qa : k = u2 := congrArg Prod.fst q2'
    have qb : v = prs[j].2 := congrArg Prod.snd q2'
    exact ⟨b, prs[j].1, q1, by rw [List.getElem?_eq_getElem hj, qb], by rw [qa, qb]; exact q3, by rw [qa]; exact q4⟩
  refine PySem.call_dict_pairs (knd := mixKind X.prog X.w) (kvs := prs) (PairArg.tuple a (ps.map Value.ref).toArray (fun j => (ps[j]?).getD 0) vps) (I.ok.hd hcalm) ⟨⟨o, n, hob, e2, hd, e3⟩, by simp [hl2], fun j k v e => ?_⟩ ⟨by rw [hl, hl2], fun j k v e => ?_⟩ (by rw [hl2]; exact hz) fun h' tk hd' k => ?_
  · obtain ⟨b, key, q1, q2, q3, q4⟩ := hk j k v e
    refine ⟨by simp [q1], .inl ?_⟩
    show s.heap.IsTuple ((ps[j]?).getD 0) _
    rw [q1]; exact q3
  · obtain ⟨b, key, q1, q2, q3, q4⟩ := hk j k v e
    exact ⟨key, q2, q4⟩
  · have hm : (s.heap.objs.size == sysModules) = false := beq_eq_false_iff_ne.mpr (Nat.ne_of_gt I.big)
    have hlen : (mergeK [] kvs).length ≤ sizeLine := by
      refine Nat.le_trans (length_mergeK kvs []) ?_
      rw [List.length_nil, Nat.zero_add, rel.length, hl]
      exact hz
    exact ⟨.ref s.heap.objs.size, upd H s.heap.objs.size (.dK (mergeK [] kvs)), I.laid (t' := tk) (fun b o e => k b o (by simp) e) (Nat.le_refl _) (show ObjOk X.prog X.w _ _ _ (.dK (mergeK [] kvs)) from ⟨hlen, hm, merged [] prs, KV.merge rel .nil, hd'⟩), rfl, q _ (I.hok.fresh (Nat.le_refl _))⟩
theorem pln_pairs {B : Hp} {a : Addr} {ps : List (Key × D)} (h : TupP B a (ps.map pairD)) : Pln B a := by
  rcases h with h | ⟨d, m, e⟩
  · exact h
  · obtain ⟨p, _, rfl⟩ := List.mem_map.mp m
    simp [pairD, flatD] at e
theorem cDict (hc : X.calm = true) : CallR X (.type "dict") (rB X.K (f1s dictD)) := by
  intro pins s σ H xs us QV I rv ⟨B, fp, rs, Q, l, x, hf, hq⟩
  obtain ⟨a, e, sh, hg⟩ := f1s_inv hf
  clear hf
  subst e
  obtain ⟨v, e, hv⟩ := x.one_sh sh
  subst e
  generalize a.d = d at hv hg
  have fin : ∀ {kvs : List (Key × V)} {ds : List (D × D)} {p : Addr}, RepKV X.K B kvs ds → H p = none → Q (.t (.dic ds)) → QV (.ref p) (upd H p (.dK kvs)) := fun {kvs ds p} t np q =>
    hq _ _ B (.t _) (.make l np _) ⟨[p], .dic upd_same t, by simp, fun a m => by simp at m; subst m; exact ⟨np, l.none np⟩⟩ q
  cases d <;> first | exact (show False from hg).elim | skip
  · obtain ⟨p, vs, e, s', t⟩ := hv.list l
    subst e
    obtain ⟨ps, e, q⟩ := hg
    subst e
    obtain ⟨as, kvs, e, h1, h2⟩ := pairs_rep t
    subst e
    exact call_dictP hc pins s σ H _ us QV I rv ⟨p, as, kvs, rfl, s', L2.Paired.mapP h1 fun _ _ h => l.sqT h, fun p' np => fin (merge_rep h2 .nil) np q⟩
  · have hr := hv.tupRep
    obtain ⟨p, vs, e, s', t⟩ := hv.tup l
    subst e
    obtain ⟨ps, e, q⟩ := hg
    subst e
    obtain ⟨as, kvs, e, h1, h2⟩ := pairs_rep t
    subst e
    exact call_dictPT hc pins s σ H _ us QV I rv ⟨p, as, kvs, rfl, s', (pln_pairs hr.tup_p).mono l, L2.Paired.mapP h1 fun _ _ h => l.sqT h, fun p' np => fin (merge_rep h2 .nil) np q⟩
  · obtain ⟨p, kvs, e, s', t⟩ := hv.dict l
    subst e
    exact call_dictD pins s σ H _ us QV I rv ⟨p, kvs, rfl, s', fun p' np => fin t np hg⟩
/-! ### divmod -/
def divmodD : Op2
  | .int i, .int j, Q => CDivP i j ∧ Q (.v (.tuple [.int (i / j), .int (i % j)]))
  | _, _, _ => False
theorem divmodD_i (i j : Int) (Q : R → Prop) : divmodD (.int i) (.int j) Q = (CDivP i j ∧ Q (.v (.tuple [.int (i / j), .int (i % j)]))) := rfl
theorem cDivmod : CallR X (.builtin "divmod") (rB X.K (f2 divmodD)) := by
  intro pins s σ H xs us QV I rv ⟨B, fp, rs, Q, l, x, hf, hq⟩
  obtain ⟨a, b, e, hg⟩ := f2_inv hf
  clear hf
  subst e
  obtain ⟨v, u, e, hv, hu⟩ := x.two l
  subst e
  generalize a.d = d1 at hv hg
  generalize b.d = d2 at hu hg
  have key : ∃ i j, d1 = .int i ∧ d2 = .int j ∧ CDivP i j ∧ Q (.v (.tuple [.int (i / j), .int (i % j)])) := by
    cases d1 with
    | int i => cases d2 with
      | int j => exact ⟨i, j, rfl, rfl, hg⟩
      | _ => exact False.elim hg
    | _ => exact False.elim hg
  obtain ⟨i, j, e1, e2, hf⟩ := key
  subst e1 e2
  have e1 := hv.int_inv
  have e2 := hu.int_inv
  subst e1 e2
  exact call_divmodP pins s σ H _ us QV I rv ⟨_, _, rfl, hf.1, fun p o np ho => hq _ _ _ (.v _) (.put l np _) (newT_rep l np ho (.cons (.int _) (.cons (.int _) .nil))) hf.2⟩
end
/-! ### written dicts -/
abbrev WPs := Env → (List (R × R) → Prop) → (Str → Prop) → Prop
inductive PAll (K : K0) (B : Hp) : List (V × V) → List (R × R) → Prop
  | nil : PAll K B [] []
  | cons {x y : V} {r q : R} {ps : List (V × V)} {rs : List (R × R)} : Rep K B x r.d → Rep K B y q.d → PAll K B ps rs → PAll K B ((x, y) :: ps) ((r, q) :: rs)
theorem PAll.mono {K : K0} {B B' : Hp} (l : Le B B') : ∀ {ps : List (V × V)} {rs : List (R × R)}, PAll K B ps rs → PAll K B' ps rs
  | _, _, .nil => .nil
  | _, _, .cons a b t => .cons (a.mono l) (b.mono l) (PAll.mono l t)
def tDPs (X : Cx) (W : WX) (G : Hp) (m : WPs) (σ : L2.St) (H : Hp) (QV : List (V × V) → Hp → Prop) : Prop := ∃ B env fp Q E, RR X.K G B env fp σ H ∧ m env Q E ∧ (∀ ps H' B' rs, Ext H B H' B' → PAll X.K B' ps rs → Q rs → QV ps H') ∧ XOk X.mg W H σ E
def DPs (X : Cx) (W : WX) (G : Hp) (pos : Pos) (ks : List (Option Expr)) (vs : List Expr) (m : WPs) : Prop := ∃ trs, PPs X pos ks vs trs ∧ ∀ σ H QV, tDPs X W G m σ H QV → tPairs trs σ H QV
def wpN : WPs := fun _ Q _ => Q []
def wpC (a b : WE) (m : WPs) : WPs := fun env Q E => a env (fun x => x.st ∧ b env (fun y => y.st ∧ m env (fun rs => Q ((x, y) :: rs)) E) E) E
def wDic (m : WPs) : WE := fun env Q E => m env (fun rs => ∃ ps : List (Key × D), rs.map (fun p => (p.1.d, p.2.d)) = ps.map (fun p => (kD p.1, p.2)) ∧ ps.length ≤ 15 ∧ Q (.t (.dic (mergeD [] ps)))) E
section
variable {X : Cx} {W : WX} {G : Hp} {pos : Pos} {k v : Expr} {ks : List (Option Expr)} {vs : List Expr} {a b : WE} {m : WPs}
theorem dps_nil : DPs X W G pos [] [] wpN := ⟨_, pps_nil, fun σ H QV ⟨B, env, fp, Q, E, rr, hm, hq, hx⟩ => hq [] H B [] (.refl rr.bh) .nil hm⟩
theorem dps_cons (ha : DE X W G k a) (hb : DE X W G v b) (hr : DPs X W G pos ks vs m) : DPs X W G pos (some k :: ks) (v :: vs) (wpC a b m) := by
  obtain ⟨trs, h1, h2⟩ := hr
  refine ⟨_, pps_cons ha hb h1, fun σ H QV ⟨B, env, fp, Q, E, rr, hm, hq, hx⟩ => ?_⟩
  refine ⟨B, env, fp, _, E, rr, hm, fun x H1 B1 r e1 w1 ⟨s1, q1⟩ => ?_, hx⟩
  obtain ⟨B2, e2, l2, r2⟩ := w1.keep e1 s1
  refine ⟨B2, env, fp, _, E, rr.ext e2, q1, fun y H3 B3 q e3 w3 ⟨s3, q3⟩ => ?_, hx.later e1.same⟩
  obtain ⟨B4, e4, l4, r4⟩ := w3.keep e3 s3
  refine h2 _ _ _ ⟨B4, env, fp, _, E, (rr.ext e2).ext e4, q3, fun ps H5 B5 rs e5 p5 q5 => ?_, hx.later (e1.same.trans e4.same)⟩
  exact hq _ H5 B5 _ ((e2.trans e4).trans e5) (.cons (r2.mono (e4.le.trans e5.le)) (r4.mono e5.le) p5) q5
theorem pall_kvs {K : K0} {B : Hp} : ∀ {vs : List (V × V)} {rs : List (R × R)} {ps : List (Key × D)}, PAll K B vs rs → rs.map (fun p => (p.1.d, p.2.d)) = ps.map (fun p => (kD p.1, p.2)) →
    ∃ kvs : List (Key × V), vs = kvs.map (fun kv => (kV kv.1, kv.2)) ∧ kvs.length = ps.length ∧ Paired (fun (kv : Key × V) (p : Key × D) => kv.1 = p.1 ∧ Rep K B kv.2 p.2) kvs ps
  | _, _, [], .nil, _ => ⟨[], rfl, rfl, .nil⟩
  | _, _, p :: ps, .cons (x := x) (y := y) h1 h2 t, e => by
    simp only [List.map_cons, List.cons.injEq, Prod.mk.injEq] at e
    obtain ⟨kvs, e1, e2, e3⟩ := pall_kvs t e.2
    rw [e.1.1] at h1
    rw [e.1.2] at h2
    exact ⟨(p.1, y) :: kvs, by rw [List.map_cons, ← e1, kV_rep h1], by simp [e2], .cons ⟨rfl, h2⟩ e3⟩
theorem de_dic (h : DPs X W G pos (some k :: ks) (v :: vs) m) (hall : (some k :: ks).all (·.isSome) = true := by rfl) (hl : (some k :: ks).length = (v :: vs).length := by rfl) (h15 : (some k :: ks).length ≤ 15 := by decide) : DE X W G (.Dict (some k :: ks) (v :: vs) pos) (wDic m) := by
  obtain ⟨trs, h1, h2⟩ := h
  refine PEi (pe_disp h1 hall hl (fun z => by cases z) h15) fun σ H QV ⟨B, env, fp, Q, E, rr, hm, hq, hx⟩ p np => ?_
  have e0 : Ext H B (upd H p (.dK [])) B := .make rr.bh np _
  refine h2 _ _ _ ⟨B, env, fp, _, E, rr.ext e0, hm, fun ws H1 B1 rs e1 pa ⟨ps, ep, hz, q⟩ => ?_, hx.later e0.same⟩
  obtain ⟨kvs, e2, e3, e4⟩ := pall_kvs pa ep
  have hp1 := e1.same _ _ (show upd H p (.dK []) p = some (.dK []) from upd_same)
  have nb : B1 p = none := e1.new p _ upd_same (rr.bh.none np)
  refine ⟨hp1, kvs, e2, by omega, ?_⟩
  refine hq _ _ B1 (.t _) ⟨fun a o q => ?_, e1.le, fun a o q => ?_, fun a o q n => e1.new a o (upd_keep q (ne_of_none q np)) n⟩ ⟨[p], .dic upd_same (merge_rep e4 .nil), by simp, fun a m => by simp at m; subst m; exact ⟨np, nb⟩⟩ q
  · rw [upd_ne (ne_of_none q np)]; exact e1.same _ _ (upd_keep q (ne_of_none q np))
  · have : a ≠ p := fun z => by subst z; rw [nb] at q; cases q
    rw [upd_ne this]; exact e1.bh _ _ q
end
end DL

set_option Elab.async false
set_option linter.all false
set_option maxRecDepth 100000
set_option maxHeartbeats 1000000
/-! DL21: lists and texts turned about. -/
namespace DL
open PySem L2 PyProof.Rows
def revS (z : Str) : Str := ⟨z.cps.toList.reverse.toArray⟩
theorem revS_tS (l : List Nat) : revS (tS l) = tS l.reverse := by unfold revS; rw [tS_cps]; rfl
theorem filterMap_rev (c : List Nat) : ((List.range c.length).map fun k => c.length - 1 - k).filterMap (c.toArray[·]?) = c.reverse := by
  apply List.ext_getElem?
  intro i
  have e : ((List.range c.length).map fun k => c.length - 1 - k).filterMap (c.toArray[·]?) = (List.range c.length).map fun k => c.getD (c.length - 1 - k) 0 := by
    rw [filterMap_get c.toArray _ (by intro i hi; obtain ⟨k, hk, rfl⟩ := List.mem_map.mp hi; have := List.mem_range.mp hk; simp; omega), List.map_map]
    apply List.map_congr_left
    intro k _
    by_cases h : c.length - 1 - k < c.length <;> simp [Array.getD, List.getD, h]
  rw [e]
  by_cases h : i < c.length
  · rw [List.getElem?_map, List.getElem?_range h, List.getElem?_reverse h]
    simp [List.getD, show c.length - 1 - i < c.length by omega]
  · rw [List.getElem?_eq_none (by simp; omega), List.getElem?_eq_none (by simp; omega)]
theorem sliceMade_rev (z : Str) (t u : Tok) (hz : z.length ≤ sizeLine) {pins : List (Addr × Obj)} {X : Cx} {σ : L2.St} {H : Hp} {s : Shared} {Q : VK} (I : Inv X pins σ H s) (q : Q (.str (revS z)) H) :
    (sliceMade z t none none (some ((-1 : Int), u))).post (EP X pins σ Q) s := by
  have e : (Builtin.Str.strSliceIndices none none (-1) z.length).filterMap (z.cps[·]?) = z.cps.toList.reverse := by
    obtain ⟨⟨l⟩⟩ := z
    rw [picked_rev]
    exact filterMap_rev l
  show Made.post (if ((-1 : Int) == 1 && (Builtin.Str.strSliceIndices none none (-1) z.length).length == z.length) = true then Made.val (.str z t)
    else Made.str ⟨((Builtin.Str.strSliceIndices none none (-1) z.length).filterMap (z.cps[·]?)).toArray⟩) (EP X pins σ Q) s
  rw [if_neg (by simp), e]
  exact ⟨by show Array.size _ ≤ _; simp; exact hz, .str _, H, I.tok _, ⟨_, rfl⟩, q⟩
theorem cut_map {α β : Type} (f : α → β) (xs : List α) (lo hi : Option Int) : cut (xs.map f) lo hi = (cut xs lo hi).map f := by
  unfold cut
  rw [List.length_map, List.map_take, List.map_drop]
theorem cut_len {α : Type} (xs : List α) (lo hi : Option Int) : (cut xs lo hi).length ≤ xs.length := by
  unfold cut
  rw [List.length_take, List.length_drop]; omega
section
variable {X : Cx} {W : WX} {G : Hp} {e : Expr} {m : WE}
def tRevA (K : PySem.W.Frag) (te : TE) : TE := fun σ H Q => te σ H fun x H1 => (∃ a xs, x = .ref a ∧ SqL K H1 a xs ∧ ∀ p, H1 p = none → Q (.ref p) (upd H1 p (.lst xs.reverse))) ∨ ∃ z, x = .str z ∧ z.length ≤ sizeLine ∧ Q (.str (revS z)) H1
theorem pe_revA {te : TE} {k : Nat} {p1 p2 p3 pos : Pos} (he : PE X e te) : PE X (.Subscript e (.Slice none none (some (.UnaryOp .USub (.Constant (.int 1) k p1) p2)) p3) pos) (tRevA X.K te) := by
  refine ⟨fun pins s σ H Q I h => ?_⟩
  refine Subscript_ (thn (he.run pins s σ H _ I h) fun v s1 ⟨x, H1, I1, r1, q1⟩ => ?_)
  have hst : PO X (some (.UnaryOp .USub (.Constant (.int 1) k p1) p2)) (tPart (tUn (rU fun i => .int (-i)) (tC (.int 1)))) := po_some (pe_un un_neg pe_int)
  refine wpAny_Slice (thn (po_none.run pins s1 σ H1 (fun o H2 => o = none ∧ H2 = H1) I1 ⟨rfl, rfl⟩) fun vl s2 ⟨l, H2, I2, pl, el, e2⟩ => ?_)
  subst el e2
  refine thn (po_none.run pins s2 σ H2 (fun o H3 => o = none ∧ H3 = H2) I2 ⟨rfl, rfl⟩) fun vu s3 ⟨u, H3, I3, pu, eu, e3⟩ => ?_
  subst eu e3
  refine thn (hst.run pins s3 σ H3 (fun o H4 => o = some (-1) ∧ H4 = H3) I3 ⟨1, rfl, -1, rfl, rfl, rfl⟩) fun vs s4 ⟨o, H4, I4, ps, eo, e4⟩ => ?_
  subst eo e4
  have I5 : Inv X pins σ H4 { s4 with heap := s4.heap.push { cls := .type "slice", data := .fields #[vl, vu, vs] } } := I4.kept (t' := s4.toks) fun b ob q => Heap.get?_push_of_some _ q
  rcases q1 with ⟨a, xs, ex, hx, q⟩ | ⟨z, ex, hz, q⟩
  · subst ex
    cases r1
    obtain ⟨its, r, ht, hz⟩ := I5.list hx
    have hlen := r.length
    show wpAny (model X.prog X.w) X.A (subscriptTail e (.Slice none none (some (.UnaryOp .USub (.Constant (.int 1) k p1) p2)) p3) (.ref a) (.ref s4.heap.objs.size)) (EP X pins σ Q) X.xe { s4 with heap := s4.heap.push { cls := .type "slice", data := .fields #[vl, vu, vs] } }
    refine tail_any (ops := [.ref a, .ref s4.heap.objs.size]) ht.isList.typeIs (PySem.slot_list_getitem.lookup) ?_ (by with_unfolding_all rfl)
    refine wpAny_getItem_list_slice ht.isList (Heap.IsSliceOf.new _ vl vu vs) pl pu ps (by decide) ?_ (by rw [List.size_toArray]; omega)
    rw [PySem.W.krv_pick]
    refine ⟨.ref _, _, I5.laid (t' := s4.toks) (o := .lst xs.reverse) (fun b ob q => Heap.get?_push_of_some _ q) (Nat.le_refl _) ?_, rfl, q _ (I5.hok.fresh (Nat.le_refl _))⟩
    exact ⟨by rw [List.length_reverse]; exact hz, _, 0, r.reverse, Heap.get?_push_size _ rfl⟩
  · subst ex
    obtain ⟨t, rfl⟩ := r1
    obtain ⟨l, rfl, el⟩ := IsPart.raw pl
    obtain ⟨u, rfl, eu⟩ := IsPart.raw pu
    obtain ⟨st, rfl, es⟩ := IsPart.raw ps
    cases l with
    | some _ => simp at el
    | none =>
    cases u with
    | some _ => simp at eu
    | none =>
    cases st with
    | none => simp at es
    | some st =>
    obtain ⟨j, tj⟩ := st
    simp at es
    subst es
    show wpAny (model X.prog X.w) X.A (subscriptTail e (.Slice none none (some (.UnaryOp .USub (.Constant (.int 1) k p1) p2)) p3) (.str z t) (.ref s4.heap.objs.size)) (EP X pins σ Q) X.xe _
    refine tail_any (ops := [.str z t, .ref s4.heap.objs.size]) (typeIs_str _ _ _) (F.slot_str_getitem.lookup) ?_ (by with_unfolding_all rfl)
    obtain ⟨os, hos, hcs, hds⟩ := Heap.IsSliceOf.new s4.heap (partValue none) (partValue none) (partValue (some (-1, tj)))
    exact wpAny_getItem_str_slice (l := none) (u := none) (st := some (-1, tj)) ⟨os, hos, hcs, hds⟩ rfl (sliceMade_rev z t tj hz I5 q)
/-- x[::-1], x a list or a text -/
def revD : D → (R → Prop) → Prop
  | .list ds, Q => Q (.t (.lst ds.reverse))
  | .str z, Q => z.length ≤ sizeLine ∧ Q (.v (.str (revS z)))
  | _, _ => False
theorem revD_l (ds : List D) (Q : R → Prop) : revD (.list ds) Q = Q (.t (.lst ds.reverse)) := rfl
theorem revD_s (z : Str) (Q : R → Prop) : revD (.str z) Q = (z.length ≤ sizeLine ∧ Q (.v (.str (revS z)))) := rfl
def wRevA (t : WE) : WE := fun env Q E => t env (fun x => x.sh ∧ revD x.d Q) E
theorem de_revA {k : Nat} {p1 p2 p3 pos : Pos} (he : DE X W G e m) : DE X W G (.Subscript e (.Slice none none (some (.UnaryOp .USub (.Constant (.int 1) k p1) p2)) p3) pos) (wRevA m) := by
  refine PEi (pe_revA he) fun σ H QV ⟨B, env, fp, Q, E, rr, hm, hq, hx⟩ => ?_
  refine ⟨B, env, fp, _, E, rr, hm, fun v1 H1 B1 r1 e1 o1 ⟨s1, hf⟩ => ?_, hx⟩
  obtain ⟨B2, e2, l2, rv1⟩ := o1.view e1 s1
  generalize r1.d = d at rv1 hf
  cases d with
  | list ds =>
    obtain ⟨a, vs, ev, s, t⟩ := rv1.list e2.bh
    exact .inl ⟨a, vs, ev, s, fun p np => hq _ _ B2 (.t _) (e2.trans (.make e2.bh np _)) (VOk.back e2 (t_lst e2.bh np t.reverse)) hf⟩
  | str z => exact .inr ⟨z, rv1.str, hf.1, hq _ H1 B2 (.v _) e2 (.str _) hf.2⟩
  | _ => exact False.elim hf
end
end DL

set_option Elab.async false
set_option linter.all false
set_option maxRecDepth 100000
set_option maxHeartbeats 1000000
/-! DLX: comprehensions whose items may raise. -/
namespace DL
open PySem L2 PyProof.Rows
theorem noteFrame_of {e : Value} {env env' : PySem.Env} (h : env.frame = env'.frame) : noteFrame e env = noteFrame e env' := by
  unfold PySem.noteFrame PySem.frameOf
  rw [h]
section
variable {M : Model} {A : Around} {E : Value → Shared → Prop} {s : Shared} {env : PySem.Env}
/-- behind a comprehension's block -/
def compPostE (M : Model) (A : Around) (E : Value → Shared → Prop) (use : Option (Value → Sem Unit)) (Q : Value → Shared → Prop) (acc : Value) (cenv : PySem.Env) (r : Result) (s' : Shared) : Prop :=
  match r, use with
  | .ok _, none => ∃ m, s'.heap.Ns cenv.locals m ∧ ∀ h', Heap.SameBut cenv.locals s'.heap h' → Q acc { s' with heap := h' }
  | .ok _, some u => wpAny M A (u acc) (fun _ s'' => ∃ m, s''.heap.Ns cenv.locals m ∧ ∀ h', Heap.SameBut cenv.locals s''.heap h' → Q .none { s'' with heap := h' }) E s'
  | .error x, _ => ∃ m, s'.heap.Ns cenv.locals m ∧ ∀ h', Heap.SameBut cenv.locals s'.heap h' → ∀ env' : PySem.Env, env'.locals = cenv.locals → env'.frame = cenv.frame → wpAny M A (PySem.passOn "comprehension.variables-let-go" x env' : Sem Value) (fun _ _ => False) E { s' with heap := h' }
theorem comprehension_freeE {e : Expr} {scope : Scope} {pos : Pos} {newAcc first : Sem Value} {g : Comprehension} {gs : List Comprehension} {cl : List (Str × Addr)} {use : Option (Value → Sem Unit)} {Q : Value → Shared → Prop}
    (hcl : clausesOf e = g :: gs) (hs : ∀ x, foldedSetIterable g.iter env x = pure x) (hclos : closureFor scope env = pure cl)
    (hkind : scope.kind = .function) (hnames : ∀ x ∈ scope.names, x.2 = .local → scope.names.lookup x.1 = some .local)
    (h : wpAny M A first (fun x s₁ => wpAny M A (pyIter x) (fun it s₂ => wpAny M A newAcc (fun acc s₃ =>
      wpAny M A (newFunctionEnv scope env.globals cl [] env.qual none .none (some env)) (fun cenv s₄ =>
        codeAny M A (.compStart e 0 it acc { cenv with scope := relabel scope env }) (compPostE M A E use Q acc cenv) s₄) E s₃) E s₂) E s₁) E s) :
    wpAny M A (comprehension e scope env pos newAcc false first use) Q E s := by
  unfold comprehension
  rw [hclos, hcl]
  refine wpAny_bind (wpAny_mono h (fun x s₁ h₁ => wpAny_bind (wpAny_standAt (wpAny_bind (wpAny_of_eq (hs x) (wpAny_bind (wpAny_holding (wpAny_mono h₁ (fun it s₂ h₂ =>
    wpAny_standIf (wpAny_bind (wpAny_mono h₂ (fun acc s₃ h₃ => wpAny_bind (wpAny_pure (wpAny_bind (wpAny_mono h₃ (fun cenv s₄ h₄ => ?_) fun _ _ h' => h')))) fun _ _ h' => h')))
      fun _ _ h' => h'))))))) fun _ _ h' => h')
  dsimp only
  have hv : ∀ x ∈ (scope.names.filter fun x => (x.2 == .local || x.2 == .cell) && x.1 != (".0" : Str)).reverse, x.2 = .local →
      Env.kindOf { cenv with scope := relabel scope env } x.1 = some .local := fun x hx hl => lookup_relabel_local (hnames x (List.mem_filter.mp (List.mem_reverse.mp hx)).1 hl)
  have hv' : ∀ x ∈ (scope.names.filter fun x => (x.2 == .local || x.2 == .cell) && x.1 != (".0" : Str)).reverse.drop 1 ++ (scope.names.filter fun x => (x.2 == .local || x.2 == .cell) && x.1 != (".0" : Str)).reverse.take 1,
      x.2 = .local → Env.kindOf { cenv with scope := relabel scope env } x.1 = some .local := fun x hx hl => by
    rcases List.mem_append.mp hx with h1 | h1
    · exact hv x (List.mem_of_mem_drop h1) hl
    · exact hv x (List.mem_of_mem_take h1) hl
  refine wpAny_holding (wpAny_bind (wpAny_attempt (wpAny_holding (wpAny_run (codeAny_mono h₄ fun r s' hr => ?_)))))
  cases r with
  | ok f =>
    cases use with
    | none =>
      obtain ⟨m, hn, hr⟩ := hr
      exact wpAny_bind (wpAny_holding (wpAny_comp_letGo (cenv := { cenv with scope := relabel scope env }) hkind _ s' m hv hn fun h' m' _ hs' => wpAny_pure (hr h' hs')))
    | some u =>
      refine wpAny_bind (wpAny_rule (wpAny_bind (wpAny_holding (wpAny_mono hr (fun _ s'' hr' => ?_) fun _ _ h' => h'))))
      obtain ⟨m, hn, hr'⟩ := hr'
      exact wpAny_bind (wpAny_comp_letGo (cenv := { cenv with scope := relabel scope env }) hkind _ s'' m hv' hn fun h' m' _ hs' => wpAny_pure (hr' h' hs'))
  | error x =>
    have hr' : ∃ m, s'.heap.Ns cenv.locals m ∧ ∀ h', Heap.SameBut cenv.locals s'.heap h' → ∀ env' : PySem.Env, env'.locals = cenv.locals → env'.frame = cenv.frame → wpAny M A (PySem.passOn "comprehension.variables-let-go" x env' : Sem Value) (fun _ _ => False) E { s' with heap := h' } := by cases use <;> exact hr
    obtain ⟨m, hn, hr⟩ := hr'
    exact wpAny_bind (wpAny_holding (wpAny_comp_letGo (cenv := { cenv with scope := relabel scope env }) hkind _ s' m hv hn fun h' m' _ hs' => wpAny_mono (hr h' hs' _ rfl rfl) (fun _ _ f => f.elim) fun _ _ y => y))
end
theorem funFrames_move {base base' h h' : Heap} : ∀ {l : List PySem.Env}, h.FunFrames base l → (∀ L ∈ frs l, base.get? L = none → base'.get? L = none ∧ h'.get? L = h.get? L) → h'.FunFrames base' l
  | [], _, _ => trivial
  | env :: l, ⟨hk, ⟨L, o, hf, hb, ho, hd⟩, hr⟩, q => by
    obtain ⟨q1, q2⟩ := q L (List.mem_filterMap.mpr ⟨env, List.mem_cons_self, hf⟩) hb
    exact ⟨hk, ⟨L, o, hf, q1, q2.trans ho, hd⟩, funFrames_move hr fun b hb => by
      obtain ⟨e, he, z⟩ := List.mem_filterMap.mp hb
      exact q b (List.mem_filterMap.mpr ⟨e, List.mem_cons_of_mem _ he, z⟩)⟩
theorem frames_none {base h : Heap} : ∀ {l : List PySem.Env}, h.FunFrames base l → ∀ L ∈ frs l, base.get? L = none ∧ ∃ o, h.get? L = some o
  | [], _, L, m => by simp [frs] at m
  | env :: l, ⟨hk, ⟨L', o, hf, hb, ho, hd⟩, hr⟩, L, m => by
    unfold frs at m
    rw [List.filterMap_cons, hf] at m
    rcases List.mem_cons.mp m with e | m
    · subst e; exact ⟨hb, o, ho⟩
    · exact frames_none hr L m
/-- .. as it is told, with the exception in flight -/
theorem of_call2 {X : Cx} {pins : List (Addr × Obj)} {σ : L2.St} {H : Hp} {s s' : Shared} {E : XK} (I : Inv X pins σ H s) {u : Value} (c : L2.CX X.prog X.w X.stack H s E u s') :
    ∃ (a : Addr) (B : Heap) (sI : Shared) (H' : Hp) (cls : Value) (d : Option Addr), u = .ref a ∧ Inv X pins σ H' sI ∧ (∀ b o, sI.heap.get? b = some o → b ∉ frs X.stack → B.get? b = some o) ∧ sI.heap.UpToSlots s'.heap ∧ HandSPX.FlyingZ B X.stack a (Zc cls d) s'.heap ∧ H' a = none ∧ s'.os = sI.os ∧ AllBare s'.gens ∧ E cls d H' := by
  obtain ⟨a, B, H', cls, d, rfl, fl, hok, ub, na, os, ag, hE⟩ := c
  obtain ⟨G, g1, g2⟩ := restrict s'.heap fun b => (B.get? b).isSome || decide (b ∈ frs X.stack)
  have st : B.StaysIn s'.heap := fl.1
  have gB : ∀ b o, B.get? b = some o → G.get? b = some o := fun b o e => by
    rw [g1 b (by simp [e])]
    exact st b o e
  have gF : ∀ b, b ∈ frs X.stack → G.get? b = s'.heap.get? b := fun b hb => g1 b (by simp [hb])
  have og : ∀ b o, G.get? b = some o → s'.heap.get? b = some o ∧ ((B.get? b).isSome = true ∨ b ∈ frs X.stack) := fun b o e => by
    cases q : ((B.get? b).isSome || decide (b ∈ frs X.stack)) with
    | false => rw [g2 b q] at e; cases e
    | true =>
      rw [g1 b q] at e
      exact ⟨e, by simpa [Bool.or_eq_true] using q⟩
  refine ⟨a, B, { s with heap := G, gens := s'.gens, drawn := s'.drawn, toks := s'.toks }, H', cls, d, rfl, ?_, fun b o e hb => ?_, Heap.UpToSlots.of_keeps fun b o e => (og b o e).1, fl, na, os, ag, hE⟩
  · refine I.call (ch := []) ⟨fun b o e n hb _ => gB b o (ub.keep b o e n hb), fun b o e n hb _ => ?_, fun b o e n _ => ub.free b o e n, fun b o e _ => ?_, ub.tups, ub.frzs, ub.tbls⟩ (hok.kept gB) ag (fun _ z => nomatch z)
    · obtain ⟨sl, q⟩ := ub.slot b o e hb
      exact ⟨sl, by rw [gF b hb]; exact q⟩
    · by_cases hb : b ∈ frs X.stack
      · obtain ⟨sl, q⟩ := ub.slot b o e hb
        exact ⟨_, by rw [gF b hb]; exact q⟩
      · obtain ⟨o', q⟩ := ub.there b o e hb
        exact ⟨o', gB b o' q⟩
  · obtain ⟨e', h⟩ := og b o e
    rcases h with h | h
    · obtain ⟨o', q⟩ := Option.isSome_iff_exists.mp h
      have z := st b o' q
      rw [e'] at z; cases z
      exact q
    · exact absurd h hb
section
variable {X : Cx} {W : WX}
/-- the block's context, with a wish about what is raised -/
abbrev BkE (X : Cx) (scope : Scope) (s : Shared) (H : Hp) (cenv : PySem.Env) (fp : List Addr) (xe : Value → Shared → Prop) : Cx := (X.blk s H scope cenv fp).tr [] xe
/-- an item's exception leaves the block -/
theorem comp_exc {pins : List (Addr × Obj)} {σ : L2.St} {H3 : Hp} {s3 : Shared} {use : Option (Value → Sem Unit)} {Qf : Value → Shared → Prop} {acc : Value} {scope : Scope} {ce ce2 : PySem.Env} {fp : List Addr} {xe : Value → Shared → Prop}
    (hs : X.stack = X.env :: X.outer) (hf : X.env.frame = some X.env.locals) (tk : Takes X W) (I3 : Inv X pins σ H3 s3) (f3 : ∀ b ∈ fp, FpOk X pins H3 b) (ceL : ce.locals = s3.heap.objs.size) (ceF : ce.frame = X.env.frame) (e2L : ce2.locals = ce.locals) (e2F : ce2.frame = ce.frame)
    {pins' : List (Addr × Obj)} {σ' : L2.St} {Hc : Hp} {sc : Shared} {u : Value} {s' : Shared} {E : XK} (I : Inv (BkE X scope s3 H3 ce fp xe) pins' σ' Hc sc) (c : L2.CX X.prog X.w X.stack Hc sc E u s') (hW : ∀ cls d H', E cls d H' → W cls d σ H') :
    notedBy (model X.prog X.w) X.A ce (fun e s' => compPostE (model X.prog X.w) X.A X.xe use Qf acc ce2 (.error e) s') u s' := by
  obtain ⟨a, B, sI, H', cls, d, rfl, I2, nb, up, fl, na, os, ag, w⟩ := of_call2 (X := BkE X scope s3 H3 ce fp xe) I c
  have nb : ∀ b o, sI.heap.get? b = some o → b ∉ frs X.stack → B.get? b = some o := nb
  have fl : HandSPX.FlyingZ B X.stack a (Zc cls d) s'.heap := fl
  have hfr : X.A.frames = some (X.env :: X.outer) := by rw [I3.ok.frames, hs]
  -- back in the def's context
  have IX : Inv X pins σ H' sI := I3.call' (ch := fp) I2.os I2.base I2.hok I2.bare fun b hb => ⟨(f3 b hb).2.2.2.1, (f3 b hb).2.1, (f3 b hb).2.2.2.2.1, (f3 b hb).2.2.2.2.2⟩
  obtain ⟨m, hn, _⟩ := I2.loc
  have hn : sI.heap.Ns ce.locals m := hn
  have nC : H' ce.locals = none := I2.free
  have fC : FpOk X pins H' ce.locals := by rw [ceL] at nC ⊢; exact I3.fpOk (Nat.le_refl _) nC
  obtain ⟨oC, esC, epC, hoC, rC⟩ := hn
  have cf : ce.locals ∉ frs X.stack := fun hm => by
    obtain ⟨_, o, e, _⟩ := I3.stack.mem hm
    have := Heap.lt_size e
    rw [ceL] at this
    exact Nat.lt_irrefl _ this
  have bC : B.get? ce.locals = some oC := nb _ _ hoC cf
  show wpAny _ X.A (noteFrame (.ref a) ce) _ _ s'
  rw [noteFrame_of ceF]
  rw [hs] at fl
  refine HandSPX.looks_onZ Zc.steady hfr hf fl fun h1 hh1 up1 => ?_
  rw [← hs] at hh1
  obtain ⟨k1, k2, k3, k4⟩ := hh1
  refine ⟨m, ⟨oC, esC, epC, by rw [e2L]; exact k1 _ _ bC, rC⟩, fun h2 sb env' eL eF => ?_⟩
  rw [e2L] at sb
  obtain ⟨oe, vs, T, oT, ts, he, hz, hd, h1v, hnT, hTe, hT, hdT, h3⟩ := k4
  have aC : a ≠ ce.locals := fun z => by rw [z, bC] at k2; cases k2
  have TC : T ≠ ce.locals := fun z => by rw [z, bC] at hnT; cases hnT
  have same : ∀ b o, b ≠ ce.locals → h1.get? b = some o → h2.get? b = some o := fun b o n e => (sb.2 b n).trans e
  have bh : ∀ b, B.get? b = none → (PySem.W.hideAll B [ce.locals]).get? b = none := fun b e => by
    cases q : (PySem.W.hideAll B [ce.locals]).get? b with
    | none => rfl
    | some o => have z := PySem.W.of_hideAll _ q; rw [e] at z; cases z
  have bk : ∀ b o, (PySem.W.hideAll B [ce.locals]).get? b = some o → b ≠ ce.locals ∧ B.get? b = some o := fun b o e => by
    refine ⟨fun z => ?_, PySem.W.of_hideAll _ e⟩
    rw [z, PySem.W.hideAll_none _ (by simp)] at e; cases e
  have held : HandSPX.HeldZ (PySem.W.hideAll B [ce.locals]) X.stack a (Zc cls d) X.env.locals h2 := by
    refine ⟨fun b o e => same b o (bk b o e).1 (k1 b o (bk b o e).2), bh a k2, funFrames_move k3 fun L hL hb => ⟨bh L hb, ?_⟩, oe, vs, T, oT, ts, same _ _ aC he, hz, hd, h1v, bh T hnT, hTe, same _ _ TC hT, hdT, h3⟩
    exact sb.2 L fun z => cf (z ▸ hL)
  unfold PySem.passOn
  refine wpAny_bind (wpAny_field (same _ _ aC he) hd h1v ?_)
  rw [if_neg (show ¬ ((Value.ref T == Value.none) = true) from by simp)]
  have fin : wpAny (model X.prog X.w) X.A (setFlight (.ref a) env'.frame) (fun _ s4 => wpAny (model X.prog X.w) X.A (throw (.ref a) : Sem Value) (fun _ _ => False) X.xe s4) X.xe { s' with heap := h2 } := by
    rw [eF, e2F, ceF, hf]
    refine HandSPX.setFlight_onZ held fun h4 hh4 up4 => wpAny_throw (tk _ _ ?_)
    refine ⟨a, PySem.W.hideAll B [ce.locals], { sI with heap := PySem.W.hideAll sI.heap [ce.locals] }, pins, σ, H', cls, d, rfl, ?_, fun b o e hb => ?_, fun b o e hnf => ?_, .inr (.inr hh4), na, os, ag, hW _ _ _ w⟩
    · exact IX.turned (t' := sI.toks) (fun b o hb e => PySem.W.hideAll_get _ e (by simpa using hb)) fC.1 fC.2.1.symm.symm fC.2.2.2.1 fC.2.2.2.2.1 fC.2.2.2.2.2
    · have e' := PySem.W.of_hideAll _ e
      have nc : b ≠ ce.locals := fun z => by rw [z, PySem.W.hideAll_none _ (by simp)] at e; cases e
      exact PySem.W.hideAll_get _ (nb b o e' hb) (by simpa using nc)
    · have e' := PySem.W.of_hideAll _ e
      have nc : b ≠ ce.locals := fun z => by rw [z, PySem.W.hideAll_none _ (by simp)] at e; cases e
      obtain ⟨sl, q⟩ := (up.trans up1) b o e' hnf
      obtain ⟨sl2, q2⟩ := up4 b _ (same b _ nc q) hnf
      exact ⟨sl2, q2⟩
  first
    | exact wpAny_bind (wpAny_pure (wpAny_bind fin))
    | exact wpAny_bind fin
end
end DL

set_option Elab.async false
set_option linter.all false
set_option maxRecDepth 100000
set_option maxHeartbeats 2000000
/-! DLY: comprehensions whose items may raise: the rules. -/
namespace DL
open PySem L2 PyProof.Rows
section
variable {X : Cx} {W : WX}
/-- a comprehension whose items may raise; the wish stands with the def's slots -/
def tLcE (wi : TI) (g : TG) (tt : TT) (te : L2.St → TE) (vs : List Nat) : TE := fun σ H Q => wi σ H fun J H1 => ∀ D, H1 D = none → ∃ W : Nat → Nat → Hp → Prop, (∃ m, W 0 m (upd H1 D (.lst []))) ∧ ∀ i m H, W i m H →
  (J.stop i H ∧ Q (.ref D) H) ∨ (J.go i H ∧ ∃ Nx : Hp → Prop, (∀ H', Nx H' → ∃ m', m' < m ∧ W (i + 1) m' H') ∧ ∀ x H', J.yld i H x H' → g x (wipe σ vs) H' fun σ2 H2 => wipe σ2 vs = wipe σ vs ∧ tt σ2 H2 fun b H3 =>
    if b = true then te σ σ2 H3 fun y H4 => ∃ acc, H4 D = some (.lst acc) ∧ acc.length < sizeLine ∧ Nx (upd H4 D (.lst (acc ++ [y]))) else Nx H3)
theorem inv_to {pins : List (Addr × Obj)} {σ : L2.St} {H : Hp} {s : Shared} {xe : Value → Shared → Prop} (hp : X.pn = []) (I : Inv X pins σ H s) : Inv (X.tr [] xe) pins σ H s :=
  ⟨I.ok.toTry [] xe, I.os, I.bare, I.base, I.loc, I.cell, I.free, I.freeC, by have := I.pin; rw [hp] at this; exact this, I.hok, I.len⟩
theorem inv_of {pins : List (Addr × Obj)} {σ : L2.St} {H : Hp} {s : Shared} {xe : Value → Shared → Prop} (hp : X.pn = []) (I : Inv (X.tr [] xe) pins σ H s) : Inv X pins σ H s :=
  ⟨I.ok.ofTry, I.os, I.bare, I.base, I.loc, I.cell, I.free, I.freeC, by have := I.pin; rw [hp]; exact this, I.hok, I.len⟩
/-- what a block's calls may let out -/
abbrev PassE (X : Cx) (W : WX) : Prop := ∀ σ', PassesAt (L2.CX X.prog X.w) X σ' (L2.WE W σ')
theorem lc_coreE {pins : List (Addr × Obj)} {s : Shared} {σ : L2.St} {H : Hp} {Q : VK} {elt tg iter : Expr} {ifs : List Expr} {scope : Scope} {own : List (Str × Nat)} {pos pos' : Pos} {wi : TI} {g : TG} {tt : TT} {te : L2.St → TE} {use : Option (Value → Sem Unit)} {Qf : Value → Shared → Prop}
    (hstk : X.stack = X.env :: X.outer) (hfrm : X.env.frame = some X.env.locals) (tk : Takes X W)
    (hc : X.calm = true) (hN : X.N.Nodup) (I : Inv X pins σ H s) (hi : PI X tg iter wi) (ok : BlkOk X.N X.env.scope scope own)
    (hg : ∀ (s : Shared) (H : Hp) (C : Addr) (cl : List (Str × Addr)) (fp : List Addr), PG (X.blk s H scope (compEnvC scope cl C X.env) fp) tg g) (ht : ∀ (s : Shared) (H : Hp) (C : Addr) (cl : List (Str × Addr)) (fp : List Addr), PTs (X.blk s H scope (compEnvC scope cl C X.env) fp) ifs tt)
    (he : ∀ (s : Shared) (H : Hp) (C : Addr) (cl : List (Str × Addr)) (fp : List Addr) (xe : Value → Shared → Prop), PassE (BkE X scope s H (compEnvC scope cl C X.env) fp xe) (fun cls d _ H => W cls d σ H) → PE (BkE X scope s H (compEnvC scope cl C X.env) fp xe) elt (te σ)) (hs : ∀ x, foldedSetIterable iter X.env x = pure x)
    (h : tLcE wi g tt te (own.map (·.2)) σ H Q)
    (hRR : ∀ D C s' m H', Inv X pins σ H' s' → Q (.ref D) H' → s'.heap.Ns C m → FpOk X pins H' C → ∀ ce : PySem.Env, ce.locals = C → compPostE (model X.prog X.w) X.A X.xe use Qf (.ref D) ce (.ok .next) s') :
    wpAny (model X.prog X.w) X.A (comprehension (.ListComp elt [⟨tg, iter, ifs, 0⟩] scope pos) scope X.env pos' (newList []) false (eval iter X.env) use) Qf X.xe s := by
  have hfree : ∀ y ∈ scope.names, y.2 = .free → ∃ c, X.env.cells.lookup y.1 = some c := fun y hy e => by
    rcases ok.free y hy e with k | k
    · exact I.ok.has _ (.inl k)
    · exact I.ok.has _ (.inr k)
  refine comprehension_freeE (use := use) rfl hs (closure_ok hfree) ok.kind (fun y hy e => by rw [ok.uniq y hy, e])
    (thn (hi.run pins s σ H _ I h) fun xv s1 hx => thn hx fun itv s2 h2 => ?_)
  obtain ⟨it, fp, tn, J, H2, e, I2, T, st2, f2, q⟩ := h2
  subst e
  refine wpAny_newObj_type (newEnv_comp ?_) (by show 0 ≤ sizeLine; decide)
  generalize hD : s2.heap.objs.size = D
  have hDn : H2 D = none := I2.hok.fresh (Nat.le_of_eq hD)
  obtain ⟨W', ⟨m0, w0⟩, turn⟩ := q D hDn
  generalize hs3 : ({ s2 with heap := s2.heap.push { cls := .type "list", data := .seq ([] : List Value).toArray } } : Shared) = s3
  have I3 : Inv X pins σ (upd H2 D (.lst [])) s3 := by
    rw [← hs3]
    refine I2.laid (t' := s2.toks) (fun b o e => Heap.get?_push_of_some _ e) (Nat.le_of_eq hD) ⟨Nat.zero_le _, [], 0, .nil, ?_⟩
    rw [← hD]
    exact Heap.get?_push_size _ rfl
  have h3 : s3.heap = s2.heap.push { cls := .type "list", data := .seq ([] : List Value).toArray } := by rw [← hs3]
  have sz : ∀ b ∈ fp, b < s2.heap.objs.size := fun b hb => by
    obtain ⟨o, e, _⟩ := T.obj _ _ st2 b hb
    exact Heap.lt_size e
  have f3 : ∀ b ∈ fp, FpOk X pins (upd H2 D (.lst [])) b ∧ b < s3.heap.objs.size := fun b hb => by
    have hlt := sz b hb
    refine ⟨⟨?_, (f2 b hb).2⟩, by rw [h3, Heap.size_push]; exact Nat.lt_succ_of_lt hlt⟩
    rw [upd_ne (by rw [← hD]; exact Nat.ne_of_lt hlt)]
    exact (f2 b hb).1
  have st3 : tn 0 s3.heap := T.keep _ _ _ st2 fun b _ o e => by rw [h3]; exact Heap.get?_push_of_some _ e
  have I4 := block_start I3 ok hN f3
  have pg := hg s3 (upd H2 D (.lst [])) s3.heap.objs.size (cellsFrom (s3.heap.objs.size + 1) scope.names (cloFrom X.env.cells scope.names [])) fp
  have pt := ht s3 (upd H2 D (.lst [])) s3.heap.objs.size (cellsFrom (s3.heap.objs.size + 1) scope.names (cloFrom X.env.cells scope.names [])) fp
  have pe := he s3 (upd H2 D (.lst [])) s3.heap.objs.size (cellsFrom (s3.heap.objs.size + 1) scope.names (cloFrom X.env.cells scope.names [])) fp
  have nfp : ∀ b ∈ fp, (upd H2 D (.lst [])) b = none := fun b hb => (f3 b hb).1.1
  show codeAny _ _ (.compStart (.ListComp elt [⟨tg, iter, ifs, 0⟩] scope pos) 0 (.ref it) (.ref D) (compEnvC scope (cellsFrom (s3.heap.objs.size + 1) scope.names (cloFrom X.env.cells scope.names [])) s3.heap.objs.size X.env)) (compPostE (model X.prog X.w) X.A X.xe use Qf (.ref D) _) { s3 with heap := pushCells (s3.heap.push { cls := .type "dict", data := .dict #[] }) scope.names }
  generalize hce2 : newEnv scope s3.heap.objs.size X.env.globals (cellsFrom (s3.heap.objs.size + 1) scope.names (cloFrom X.env.cells scope.names [])) X.env.qual none Value.none (some X.env) _ = ce2
  have e2L : ce2.locals = s3.heap.objs.size := by rw [← hce2]; rfl
  have e2F : ce2.frame = X.env.frame := by rw [← hce2]; rfl
  generalize hce : compEnvC scope (cellsFrom (s3.heap.objs.size + 1) scope.names (cloFrom X.env.cells scope.names [])) s3.heap.objs.size X.env = ce at I4 pg pt pe ⊢
  have cL : ce.locals = s3.heap.objs.size := by subst hce; rfl
  have cF : ce.frame = X.env.frame := by subst hce; rfl
  generalize hH3 : upd H2 D (.lst []) = H3 at I3 I4 pg pt pe w0 nfp f3
  generalize hs4 : ({ s3 with heap := pushCells (s3.heap.push { cls := .type "dict", data := .dict #[] }) scope.names } : Shared) = s4 at I4 ⊢
  have st4 : tn 0 s4.heap := T.keep _ _ _ st3 fun b _ o e => by rw [← hs4]; exact pushCells_keeps _ _ _ _ (Heap.get?_push_of_some _ e)
  have stat : ∀ {σ' : L2.St} {H' : Hp} {s' : Shared}, Inv (X.blk s3 H3 scope ce fp) [] σ' H' s' → (∀ b ∈ fp, H' b = none) → ∀ b ∈ fp, FpOk (X.blk s3 H3 scope ce fp) [] H' b := fun {σ' H' s'} I' hn b hb =>
    ⟨hn b hb, (I'.ok.exf b hb).1, I'.ok.exfs b hb, .inl hb, fun x c e => (I'.ok.exf b hb).2 x c e, fun p hp => absurd (show p ∈ ([] : List (Addr × Obj)) ++ [] from hp) (by simp)⟩
  -- what an item may raise
  generalize hxe : (notedBy (model X.prog X.w) X.A ce fun e s' => compPostE (model X.prog X.w) X.A X.xe use Qf (.ref D) ce2 (.error e) s') = xe
  have pe := pe xe fun σ' pins' Hc sc u s' I' c => by
    rw [← hxe]
    exact comp_exc hstk hfrm tk I3 (fun b hb => (f3 b hb).1) cL cF (e2L.trans cL.symm) (e2F.trans cF.symm) (xe := xe) I' c fun _ _ _ h => h
  have loop : codeAny (model X.prog X.w) X.A (.compLoop (.ListComp elt [⟨tg, iter, ifs, 0⟩] scope pos) 0 (.ref it) (.ref D) ce) (compPostE (model X.prog X.w) X.A X.xe use Qf (.ref D) ce2) s4 := by
    refine compLoop_any (fun n s' => ∃ i H', Inv (X.blk s3 H3 scope ce fp) [] (wipe σ (own.map (·.2))) H' s' ∧ tn i s'.heap ∧ (∀ b ∈ fp, H' b = none) ∧ W' i n H') ?_ m0 ⟨0, H3, I4, st4, nfp, w0⟩
    rintro n s5 ⟨i, H5, I5, st5, n5, w5⟩
    rcases turn i n H5 w5 with ⟨stop, qq⟩ | ⟨go, Nx, hNx, step⟩
    · have td := T.done (X.blk s3 H3 scope ce fp) rfl rfl rfl hc i [] s5 _ H5 (fun _ _ => False) I5 (stat I5 n5) st5 stop
      refine thnF td fun r s6 ⟨hr, I6⟩ => ?_
      subst hr
      have I7 : Inv X pins σ H5 s6 := I3.call' (ch := fp) I6.os I6.base I6.hok I6.bare fun b hb => ⟨(f3 b hb).1.2.2.2.1, (f3 b hb).1.2.1, (f3 b hb).1.2.2.2.2.1, (f3 b hb).1.2.2.2.2.2⟩
      have nC : H5 s3.heap.objs.size = none := by
        have z : H5 ce.locals = none := I6.free
        rw [cL] at z
        exact z
      obtain ⟨m, hn, _⟩ := I6.loc
      have hn : s6.heap.Ns ce.locals m := hn
      rw [cL] at hn
      exact hRR D s3.heap.objs.size s6 m H5 I7 qq hn (I3.fpOk (Nat.le_refl _) nC) ce2 e2L
    · have ti := T.item (X.blk s3 H3 scope ce fp) rfl rfl rfl hc i [] s5 _ H5 (fun _ _ => False) I5 (stat I5 n5) st5 go
      refine thnF ti fun r s6 ⟨u, hr, h6⟩ => ?_
      subst hr
      refine thnF h6 fun _ s7 ⟨x, H7, I7, r7, y7, st7, n7⟩ => ?_
      have I7' := I7.pinned (stat I7 n7) (T.obj _ _ st7)
      refine thnF (pg.run _ s7 _ H7 x u _ I7' r7 (step x H7 y7)) fun _ s8 ⟨σ8, H8, I8, hw8, q8⟩ => ?_
      refine thnF (pt.run _ s8 σ8 H8 _ I8 q8) fun b s9 ⟨H9, I9, q9⟩ => ?_
      have fin : ∀ {s' : Shared} {H' : Hp}, Inv (X.blk s3 H3 scope ce fp) ([] ++ pinsAt fp s7.heap) σ8 H' s' → Nx H' → ∃ m, m < n ∧ ∃ i H', Inv (X.blk s3 H3 scope ce fp) [] (wipe σ (own.map (·.2))) H' s' ∧ tn i s'.heap ∧ (∀ b ∈ fp, H' b = none) ∧ W' i m H' := fun {s' H'} I' nx => by
        obtain ⟨m', hm, w'⟩ := hNx H' nx
        have pin' : ∀ b ∈ fp, ∀ o, s7.heap.get? b = some o → s'.heap.get? b = some o ∧ H' b = none := fun b hb o e =>
          let z := I'.pin (b, o) (List.mem_append_right _ (List.mem_append_right _ (mem_pinsAt hb e)))
          ⟨z.1, z.2.1⟩
        have hl : (wipe σ (own.map (·.2))).length = σ8.length := by rw [← hw8, wipe_length]
        refine ⟨m', hm, i + 1, H', (I'.unpinned (pins := [])).weak hl (fun j v e => ?_), T.keep _ _ _ st7 fun b hb o e => (pin' b hb o e).1, fun b hb => ?_, w'⟩
        · rw [← hw8] at e
          exact (wipe_some e).1
        · obtain ⟨o, e, _⟩ := T.obj _ _ st7 b hb
          exact (pin' b hb o e).2
      cases b with
      | false =>
        simp only [Bool.false_eq_true, if_false] at q9 ⊢
        exact fin I9 q9
      | true =>
        simp only [if_true] at q9 ⊢
        rw [hxe]
        refine wpAny_mono (pe.run _ s9 σ8 H9 _ (inv_to rfl I9) q9) (fun z s10 ⟨yv, H10, I10, r10, acc, hD10, hz10, nx⟩ => ?_) fun _ _ z => z
        have I10 := inv_of (X := X.blk s3 H3 scope ce fp) rfl I10
        exact app_ok (X := X.blk s3 H3 scope ce fp) I10 hD10 hz10 r10 fun s11 I11 => fin I11 nx
  exact codeAny_compStart_list loop (T.self X.A 0 _ _ _ st4 loop)
theorem pe_lcE {elt tg iter : Expr} {ifs : List Expr} {scope : Scope} {own : List (Str × Nat)} {pos : Pos} {wi : TI} {g : TG} {tt : TT} {te : L2.St → TE}
    (hstk : X.stack = X.env :: X.outer) (hfrm : X.env.frame = some X.env.locals) (tk : Takes X W) (hc : X.calm = true) (hN : X.N.Nodup) (hi : PI X tg iter wi) (ok : BlkOk X.N X.env.scope scope own)
    (hg : ∀ (s : Shared) (H : Hp) (C : Addr) (cl : List (Str × Addr)) (fp : List Addr), PG (X.blk s H scope (compEnvC scope cl C X.env) fp) tg g) (ht : ∀ (s : Shared) (H : Hp) (C : Addr) (cl : List (Str × Addr)) (fp : List Addr), PTs (X.blk s H scope (compEnvC scope cl C X.env) fp) ifs tt)
    (he : ∀ (σ : L2.St) (s : Shared) (H : Hp) (C : Addr) (cl : List (Str × Addr)) (fp : List Addr) (xe : Value → Shared → Prop), PassE (BkE X scope s H (compEnvC scope cl C X.env) fp xe) (fun cls d _ H => W cls d σ H) → PE (BkE X scope s H (compEnvC scope cl C X.env) fp xe) elt (te σ)) (hs : ∀ x, foldedSetIterable iter X.env x = pure x := by intro _; rfl) :
    PE X (.ListComp elt [⟨tg, iter, ifs, 0⟩] scope pos) (tLcE wi g tt te (own.map (·.2))) := by
  refine ⟨fun pins s σ H Q I h => ?_⟩
  rw [eval_ListComp]
  refine lc_coreE hstk hfrm tk hc hN I hi ok hg ht (he σ) hs h fun D C s' m H' I' q hn f ce ec => ⟨m, by rw [ec]; exact hn, fun h'' sb => ?_⟩
  rw [ec] at sb
  obtain ⟨f0, f1, f2, f3, f4, f5⟩ := f
  exact ⟨.ref D, H', I'.turned (t' := s'.toks) (fun b o hb e => (sb.2 b hb).trans e) f0 f1 f3 f4 f5, rfl, q⟩
theorem ps_setLcE {i : Nat} {y : Str} {py : Pos} {elt tg iter : Expr} {ifs : List Expr} {scope : Scope} {own : List (Str × Nat)} {pos spos : Pos} {wi : TI} {g : TG} {tt : TT} {te : L2.St → TE}
    (hstk : X.stack = X.env :: X.outer) (hfrm : X.env.frame = some X.env.locals) (tk : Takes X W) (hc : X.calm = true) (hN : X.N.Nodup) (hy : X.N[i]? = some y) (hyl : X.env.scope.names.lookup y = some .local)
    (hsw : swapsWith (.ListComp elt [⟨tg, iter, ifs, 0⟩] scope pos) (some (.Name y py)) spos.line X.env = pure true) (hi : PI X tg iter wi) (ok : BlkOk X.N X.env.scope scope own)
    (hg : ∀ (s : Shared) (H : Hp) (C : Addr) (cl : List (Str × Addr)) (fp : List Addr), PG (X.blk s H scope (compEnvC scope cl C X.env) fp) tg g) (ht : ∀ (s : Shared) (H : Hp) (C : Addr) (cl : List (Str × Addr)) (fp : List Addr), PTs (X.blk s H scope (compEnvC scope cl C X.env) fp) ifs tt)
    (he : ∀ (σ : L2.St) (s : Shared) (H : Hp) (C : Addr) (cl : List (Str × Addr)) (fp : List Addr) (xe : Value → Shared → Prop), PassE (BkE X scope s H (compEnvC scope cl C X.env) fp xe) (fun cls d _ H => W cls d σ H) → PE (BkE X scope s H (compEnvC scope cl C X.env) fp xe) elt (te σ)) (hs : ∀ x, foldedSetIterable iter X.env x = pure x := by intro _; rfl) :
    PS X (.Assign [.Name y py] (.ListComp elt [⟨tg, iter, ifs, 0⟩] scope pos) spos) (tAsg (tLcE wi g tt te (own.map (·.2))) (gName i)) := by
  refine ⟨fun pins s σ H D I h => ?_⟩
  rw [exec_Assign_Name_used _ _ _ _ hsw]
  refine wpAny_bind (wpAny_standAt (wpAny_bind ?_))
  show wpAny _ X.A (do let _ ← comprehension (.ListComp elt [⟨tg, iter, ifs, 0⟩] scope pos) scope X.env (firstIterPos [⟨tg, iter, ifs, 0⟩] pos) (newList []) false (eval iter X.env) (some (assign (.Name y py) X.env))) _ _ s
  have h : tLcE wi g tt te (own.map (·.2)) σ H (fun x H1 => gName i x σ H1 D.nx) := h
  refine wpAny_bind (thn (lc_coreE (Qf := fun _ s' => SP X pins D .next s') hstk hfrm tk hc hN I hi ok hg ht (he σ) hs h fun L C s' m H' I' q hn f ce ec => ?_) fun _ s' hq => wpAny_pure (wpAny_pure hq))
  show wpAny _ _ (assign (.Name y py) X.env (.ref L)) _ _ _
  refine wpAny_assign_Name (store_ok2 (v := V.ref L) I' hN hy (.inl hyl) rfl (fun s2 I2 ⟨a, sb, ha⟩ => ?_) (.inr hyl))
  obtain ⟨f0, f1, f2, f3, f4, f5⟩ := f
  have haC : C ≠ a := by
    rcases ha with z | z
    · rw [z]; exact f1
    · exact fun e => f4 y a z e.symm
  refine ⟨m, by rw [ec]; exact hn.sameBut sb haC, fun h3 sb3 => ?_⟩
  rw [ec] at sb3
  exact ⟨_, H', I2.turned (t' := s2.toks) (fun b o hb e => (sb3.2 b hb).trans e) f0 f1 f3 f4 f5, q⟩
end
end DL

set_option Elab.async false
set_option linter.all false
set_option maxRecDepth 100000
set_option maxHeartbeats 1000000
/-! DLZ: comprehensions whose items may raise, over data. -/
namespace DL
open PySem L2 PyProof.Rows
def LcE (env : Env) (ds : List PyData) (vs : List Nat) (g : WG) (c : WT) (t : WE) (Q : R → Prop) (E : Str → Prop) : Prop := ∃ P : Nat → List PyData → Prop, P 0 [] ∧
  (∀ i d acc, ds[i]? = some d → P i acc → g d (wipeE env vs) fun env2 => c env2 (fun k => if k = true then t env2 (fun r => r.st ∧ acc.length < sizeLine ∧ P (i + 1) (acc ++ [r.d])) E else P (i + 1) acc) noE) ∧
  ∀ acc, P ds.length acc → Q (.t (.lst acc))
def wLcE (it : WI) (vs : List Nat) (g : WG) (c : WT) (t : WE) : WE := fun env Q E => it env (fun ds => LcE env ds vs g c t Q E) E
theorem wLcE_eq (it : WI) (vs : List Nat) (g : WG) (c : WT) (t : WE) (env : Env) (Q : R → Prop) (E : Str → Prop) : wLcE it vs g c t env Q E = it env (fun ds => LcE env ds vs g c t Q E) E := rfl
section
variable {X : Cx} {W : WX} {G : Hp} {tg iter elt : Expr} {ifs : List Expr} {scope : Scope} {own : List (Str × Nat)} {it : WI} {g : WG} {c : WT} {t : WE} {pos : Pos}
theorem lcE_ok {σ : L2.St} {H : Hp} {QV : VK} {vs : List Nat} (h : tD X W G (wLcE it vs g c t) σ H QV) :
    tLcE (tDIc X W G it) (tDG X G vs g) (tDT X W0 G c) (fun σ => tD X (fun cls d _ H => W cls d σ H) G t) vs σ H QV := by
  obtain ⟨B, env, fp, Q, E, rr, hm, hq, hx⟩ := h
  refine ⟨B, env, fp, _, E, rr, hm, fun J H1 B1 ds e1 wk ⟨P, p0, pt, pe⟩ L nL => ?_, hx⟩
  have out : ∀ {H2 B2 : Hp}, RR X.K G B2 env fp σ H2 → L ∉ fp := fun {H2 B2} r2 m => by
    obtain ⟨u, hu⟩ := (rr.ext e1).own.dom L m
    rw [nL] at hu; cases hu
  have gL : G L = none := (rr.ext e1).gh.none nL
  refine ⟨fun i m H2 => m = ds.length - i ∧ i ≤ ds.length ∧ ∃ B2 acc vs2, Le B1 B2 ∧ RR X.K G B2 env fp σ H2 ∧ B2 L = none ∧ H2 L = some (.lst vs2) ∧ RepAll X.K B2 vs2 acc ∧ (∀ a o, H1 a = some o → H2 a = some o) ∧ (∀ a o, H1 a = some o → B1 a = none → B2 a = none) ∧ P i acc,
    ⟨_, rfl, Nat.zero_le _, B1, [], [], .refl _, (rr.ext e1).beside (out (rr.ext e1)) (e1.bh.none nL) gL, e1.bh.none nL, upd_same, .nil, fun a o q => upd_keep q (ne_of_none q nL), fun _ _ _ n => n, p0⟩, ?_⟩
  rintro i m H2 ⟨rfl, hle, B2, acc, vs2, l2, rr2, bL, hL, ra, s2, n2, pi⟩
  by_cases hlt : i < ds.length
  · refine .inr ⟨wk.go i H2 B2 l2 rr2.bh s2 hlt, fun H' => ∃ B2 acc vs2, Le B1 B2 ∧ RR X.K G B2 env fp σ H' ∧ B2 L = none ∧ H' L = some (.lst vs2) ∧ RepAll X.K B2 vs2 acc ∧ (∀ a o, H1 a = some o → H' a = some o) ∧ (∀ a o, H1 a = some o → B1 a = none → B2 a = none) ∧ P (i + 1) acc,
      fun H' ⟨B3, acc3, vs3, z1, z2, z3, z4, z5, z6, z7, z8⟩ => ⟨_, (by omega), rfl, hlt, B3, acc3, vs3, z1, z2, z3, z4, z5, z6, z7, z8⟩, fun y H3 hy => ?_⟩
    obtain ⟨dd, B3, hd, e3, rp⟩ := wk.yld i H2 y H3 B2 hlt l2 rr2.bh s2 hy
    obtain ⟨fpw, rrw⟩ := (rr2.ext e3).wipe vs
    refine ⟨B3, _, fpw, dd, _, rrw, rp, pt i dd acc hd pi, fun σ4 env4 fp4 rr4 t4 q4 => ⟨?_, ?_⟩⟩
    · have := t4.wipe
      rw [this]
      exact (Touch.wipe ⟨wipe_length σ vs, fun j nj => by rw [wipe_get, if_neg nj]⟩)
    · refine ⟨B3, env4, fp4, _, noE, rr4, q4, fun k H5 B5 e5 q5 => ?_, xok0⟩
      have eA := e3.trans e5
      cases k with
      | false =>
        rw [if_neg (by simp)] at q5
        refine iteF ?_
        exact ⟨B5, acc, vs2, l2.trans eA.le, rr2.ext eA, eA.new L _ hL bL, eA.same _ _ hL, ra.mono eA.le, fun a o q => eA.same _ _ (s2 a o q), fun a o q n => eA.new a o (s2 a o q) (n2 a o q n), q5⟩
      | true =>
        rw [if_pos rfl] at q5
        refine iteT ?_
        refine ⟨B5, env4, fp4, _, E, rr4.ext e5, q5, fun u H6 B6 r e6 w ⟨sr, hz, p6⟩ => ?_, fun n cls H' e m s => hx n cls H' e m (e1.same.trans (Le.trans s2 (eA.same.trans s)))⟩
        obtain ⟨B7, e7, l7, rk⟩ := w.keep e6 sr
        have eB := eA.trans e7
        have hL6 := eB.same _ _ hL
        have bL7 := eB.new L _ hL bL
        have rr7 := rr2.ext eB
        refine ⟨vs2, hL6, by rw [ra.length]; exact hz, B7, acc ++ [r.d], vs2 ++ [u], l2.trans eB.le, rr7.beside (out rr7) bL7 gL, bL7, upd_same, (ra.mono eB.le).append (.one rk), fun a o q => ?_, fun a o q n => eB.new a o (s2 a o q) (n2 a o q n), p6⟩
        exact upd_keep (eB.same _ _ (s2 a o q)) (ne_of_none q nL)
  · have e : i = ds.length := by omega
    subst e
    refine .inl ⟨wk.stop _ H2 B2 l2 rr2.bh s2 (Nat.le_refl _), hq _ H2 B2 (.t (.lst acc)) ⟨e1.same.trans s2, e1.le.trans l2, rr2.bh, fun a o q n => n2 a o (e1.same _ _ q) (e1.new a o q n)⟩ ⟨[L], .lst hL ra, by simp, fun a m => ?_⟩ (pe acc pi)⟩
    simp at m; subst m
    exact ⟨e1.same.none nL, bL⟩
theorem de_lcE (hstk : X.stack = X.env :: X.outer) (hfrm : X.env.frame = some X.env.locals) (tk : Takes X W) (hc : X.calm = true) (hN : X.N.Nodup) (hi : DIc X W G tg iter it) {N : List Str} {sc : Scope} (ok : blkC N sc scope own = true) (eN : X.N = N) (eS : X.env.scope = sc)
    (hg : ∀ s H C cl fp, DG (Bk X scope s H C cl fp) G (own.map (·.2)) tg g) (ht : ∀ s H C cl fp, PTs (Bk X scope s H C cl fp) ifs (tDT X W0 G c)) (he : ∀ W' s H C cl fp xe, PassE (BkE X scope s H (compEnvC scope cl C X.env) fp xe) W' → DE (BkE X scope s H (compEnvC scope cl C X.env) fp xe) W' G elt t)
    (hs : ∀ x, foldedSetIterable iter X.env x = pure x) : DE X W G (.ListComp elt [⟨tg, iter, ifs, 0⟩] scope pos) (wLcE it (own.map (·.2)) g c t) :=
  PEi (pe_lcE (g := tDG X G (own.map fun p : Str × Nat => p.2) g) (tt := tDT X W0 G c) (te := fun σ => tD X (fun cls d _ H => W cls d σ H) G t) hstk hfrm tk hc hN hi (by subst eN eS; exact blkOk_by ok) hg ht (fun σ s H C cl fp xe pa => he _ s H C cl fp xe pa) hs) fun _ _ _ h => lcE_ok h
theorem ds_setLcE {i : Nat} {y : Str} {py spos : Pos} (hstk : X.stack = X.env :: X.outer) (hfrm : X.env.frame = some X.env.locals) (tk : Takes X W) (hc : X.calm = true) (hN : X.N.Nodup) (hy : X.N[i]? = some y) (hyl : X.env.scope.names.lookup y = some .local)
    (hsw : swapsWith (.ListComp elt [⟨tg, iter, ifs, 0⟩] scope pos) (some (.Name y py)) spos.line X.env = pure true) (hi : DIc X W G tg iter it) {N : List Str} {sc : Scope} (ok : blkC N sc scope own = true) (eN : X.N = N) (eS : X.env.scope = sc)
    (hg : ∀ s H C cl fp, DG (Bk X scope s H C cl fp) G (own.map (·.2)) tg g) (ht : ∀ s H C cl fp, PTs (Bk X scope s H C cl fp) ifs (tDT X W0 G c)) (he : ∀ W' s H C cl fp xe, PassE (BkE X scope s H (compEnvC scope cl C X.env) fp xe) W' → DE (BkE X scope s H (compEnvC scope cl C X.env) fp xe) W' G elt t)
    (hs : ∀ x, foldedSetIterable iter X.env x = pure x) : DS X W G (.Assign [.Name y py] (.ListComp elt [⟨tg, iter, ifs, 0⟩] scope pos) spos) (wAsg i (wLcE it (own.map (·.2)) g c t)) :=
  PSi (ps_setLcE (g := tDG X G (own.map fun p : Str × Nat => p.2) g) (tt := tDT X W0 G c) (te := fun σ => tD X (fun cls d _ H => W cls d σ H) G t) hstk hfrm tk hc hN hy hyl hsw hi (by subst eN eS; exact blkOk_by ok) hg ht (fun σ s H C cl fp xe pa => he _ s H C cl fp xe pa) hs) fun D σ H h => asg_ok (fun _ _ _ h => lcE_ok h) H h
theorem ds_letLcE {i : Nat} {y : Str} {py spos : Pos} (hstk : X.stack = X.env :: X.outer) (hfrm : X.env.frame = some X.env.locals) (tk : Takes X W) (hc : X.calm = true) (hN : X.N.Nodup) (hy : X.N[i]? = some y) (hyl : X.env.scope.names.lookup y = some .local)
    (hsw : swapsWith (.ListComp elt [⟨tg, iter, ifs, 0⟩] scope pos) (some (.Name y py)) spos.line X.env = pure true) (hi : DIc X W G tg iter it) {N : List Str} {sc : Scope} (ok : blkC N sc scope own = true) (eN : X.N = N) (eS : X.env.scope = sc)
    (hg : ∀ s H C cl fp, DG (Bk X scope s H C cl fp) G (own.map (·.2)) tg g) (ht : ∀ s H C cl fp, PTs (Bk X scope s H C cl fp) ifs (tDT X W0 G c)) (he : ∀ W' s H C cl fp xe, PassE (BkE X scope s H (compEnvC scope cl C X.env) fp xe) W' → DE (BkE X scope s H (compEnvC scope cl C X.env) fp xe) W' G elt t)
    (hs : ∀ x, foldedSetIterable iter X.env x = pure x) : DS X W G (.Assign [.Name y py] (.ListComp elt [⟨tg, iter, ifs, 0⟩] scope pos) spos) (wLet i (wLcE it (own.map (·.2)) g c t)) :=
  PSi (ps_setLcE (g := tDG X G (own.map fun p : Str × Nat => p.2) g) (tt := tDT X W0 G c) (te := fun σ => tD X (fun cls d _ H => W cls d σ H) G t) hstk hfrm tk hc hN hy hyl hsw hi (by subst eN eS; exact blkOk_by ok) hg ht (fun σ s H C cl fp xe pa => he _ s H C cl fp xe pa) hs) fun D σ H h => let_ok (fun _ _ _ h => lcE_ok h) H h
end
/-! ### over lists of alike things -/
theorem lcE_mapE {α : Type} {ls : List α} {enc : α → D} {env : Env} {vs : List Nat} {g : WG} {t : WE} {Q : R → Prop} {E : Str → Prop} (f : α → D) (hz : ls.length ≤ sizeLine)
    (h : ∀ (i : Nat) (x : α), ls[i]? = some x → ∀ A : R → Prop, (∀ r, r.st → r.d = f x → A r) → g (enc x) (wipeE env vs) fun env2 => t env2 A E) (q : Q (.t (.lst (ls.map f)))) : LcE env (ls.map enc) vs g wYes t Q E := by
  refine ⟨fun i acc => acc = (ls.take i).map f, by simp, fun i d acc hd ha => ?_, fun acc ha => ?_⟩
  · obtain ⟨x, hx, e⟩ := map_get hd
    subst e
    have ha : acc = (ls.take i).map f := ha
    refine h i x hx (fun r => r.st ∧ acc.length < sizeLine ∧ acc ++ [r.d] = (ls.take (i + 1)).map f) fun r rs rd => ⟨rs, ?_, ?_⟩
    · have hi := (List.getElem?_eq_some_iff.mp hx).1
      rw [ha, List.length_map, List.length_take]
      omega
    · rw [take_succ hx, List.map_append, ha, rd]; rfl
  · have ha : acc = (ls.take (ls.map enc).length).map f := ha
    rw [ha, List.length_map, List.take_length]; exact q
/-- item by item, what is known of those ahead -/
theorem lcE_inv {α : Type} {ls : List α} {enc : α → D} {env : Env} {vs : List Nat} {g : WG} {t : WE} {Q : R → Prop} {E : Str → Prop} (f : α → D) (J : Nat → Prop) (hz : ls.length ≤ sizeLine) (j0 : J 0)
    (h : ∀ (i : Nat) (x : α), ls[i]? = some x → J i → ∀ A : R → Prop, (∀ r, r.st → r.d = f x → J (i + 1) → A r) → g (enc x) (wipeE env vs) fun env2 => t env2 A E) (q : J ls.length → Q (.t (.lst (ls.map f)))) : LcE env (ls.map enc) vs g wYes t Q E := by
  refine ⟨fun i acc => acc = (ls.take i).map f ∧ J i, ⟨by simp, j0⟩, fun i d acc hd ha => ?_, fun acc ha => ?_⟩
  · obtain ⟨x, hx, e⟩ := map_get hd
    subst e
    obtain ⟨ha, hj⟩ := ha
    refine h i x hx hj (fun r => r.st ∧ acc.length < sizeLine ∧ acc ++ [r.d] = (ls.take (i + 1)).map f ∧ J (i + 1)) fun r rs rd hj' => ⟨rs, ?_, ?_, hj'⟩
    · have hi := (List.getElem?_eq_some_iff.mp hx).1
      rw [ha, List.length_map, List.length_take]
      omega
    · rw [take_succ hx, List.map_append, ha, rd]; rfl
  · obtain ⟨ha, hj⟩ := ha
    rw [List.length_map] at ha hj
    rw [ha, List.take_length]; exact q hj
section
variable {X : Cx} {W : WX} {G : Hp} {k j : Nat} {ps : List Str} {S : Spec} {dvs : List V} {dds : List D} {x : Str} {p pos : Pos} {e : Expr} {es : List Expr} {ms : WA}
theorem de_callP (F : FnAt X.prog X.w X.K X.mg X.base k x ps dvs S) (hr : Room j X.A) (hk : k ≤ j) (hg : Gl X x) (hdv : ∀ B, RepAll X.K B dvs dds) (pa : PassE X W) (ha : DA X W G (e :: es) ms) (hdb : (x == ("__debug__" : Str)) = false)
    (he : starEach (e :: es) X.env = (false, eval e X.env) :: starEach es X.env) (hpl : (backTo pos (starEach es X.env)).any (·.1) = false) : DE X W G (.Call (.Name x p) (e :: es) [] pos) (wCall S dds ms) := by
  obtain ⟨f, fd, ds, hm, hkp, F, hb, hd⟩ := F
  exact PEi (pe_callSD (E := fun σ cls d H => W cls d σ H) F (hr.mono hk) hg hm hkp hb hd (fun σ => pa σ) ha hdb he hpl) fun _ _ _ h => call_ok hdv h
end
end DL

set_option Elab.async false
set_option linter.all false
set_option maxRecDepth 100000
set_option maxHeartbeats 1000000
/-! DLW: sorted, of alike data of any kind. -/
namespace DL
open PySem L2 PyProof.Rows
open PySem.W (alike alikeAll AllAlike Sortable EachIs dataLe)
def dle : D → D → Bool := dataLe false (id : D → D)
def sortDs (ds : List D) : List D := ds.mergeSort dle
def sortOk (ds : List D) : Prop := AllAlike ds ∧ Sortable ds ∧ ∀ d ∈ ds, d.depth ≤ 8
def sortedE : F1
  | .list ds, Q => sortedD (.list ds) Q ∨ (sortOk ds ∧ Q (.t (.lst (sortDs ds))))
  | d, Q => sortedD d Q
theorem sortedE_l (ds : List D) (Q : R → Prop) : sortedE (.list ds) Q = ((∃ ns : List Int, ds = ns.map PyData.int ∧ ∀ ms, ordI ns ms → Q (.t (.lst (ms.map PyData.int)))) ∨ (∃ xs : List Str, ds = xs.map PyData.str ∧ ∀ ys, ordS xs ys → Q (.t (.lst (ys.map PyData.str)))) ∨ (sortOk ds ∧ Q (.t (.lst (sortDs ds))))) := by
  rw [← or_assoc]; rfl
theorem sortedE_d (kvs : List (D × D)) (Q : R → Prop) : sortedE (.dict kvs) Q = sortedD (.dict kvs) Q := rfl
section
variable {X : Cx}
mutual
theorem rep_reads {pins : List (Addr × Obj)} {σ : L2.St} {H : Hp} {s : Shared} (I : Inv X pins σ H s) : ∀ (d : D) (v : V) (u : Value), alike d d = true → Rep X.K H v d → RelV v u → ∃ as, PySem.Reads s.heap u d as
  | .none, _, u, _, r, q => by
    cases r
    rw [show u = Value.none from q]
    exact ⟨_, .none⟩
  | .bool b, _, u, _, r, q => by
    cases r
    rw [show u = Value.bool b from q]
    exact ⟨_, .bool _⟩
  | .int i, _, u, _, r, q => by
    cases r
    obtain ⟨t, e⟩ : ∃ t, u = Value.int i t := q
    rw [e]
    exact ⟨_, .int _ _⟩
  | .str x, _, u, _, r, q => by
    cases r
    obtain ⟨t, e⟩ : ∃ t, u = Value.str x t := q
    rw [e]
    exact ⟨_, .str _ _⟩
  | .list ds, _, u, ha, r, q => by
    cases r with
    | @lst a vs _ sq t =>
      rw [show u = Value.ref a from q]
      obtain ⟨its, rv, ⟨o2, n2, e2, c2, d2, ed2⟩, hz⟩ := I.list sq
      obtain ⟨as, h⟩ := repAll_reads I ds vs its (by simpa [alike] using ha) t rv
      exact ⟨_, .list e2 c2 ed2 h⟩
  | .tuple ds, _, u, ha, r, q => by
    cases r with
    | @tup a vs _ sq t _ =>
      rw [show u = Value.ref a from q]
      obtain ⟨its, rv, ⟨o2, e2, c2, n2, ed2⟩, hz⟩ := I.tuple sq
      obtain ⟨as, h⟩ := repAll_reads I ds vs its (by simpa [alike] using ha) t rv
      exact ⟨_, .tuple e2 c2 ed2 h⟩
  | .dict _, _, _, ha, _, _ => absurd ha (by simp [alike])
theorem repAll_reads {pins : List (Addr × Obj)} {σ : L2.St} {H : Hp} {s : Shared} (I : Inv X pins σ H s) : ∀ (ds : List D) (vs : List V) (us : List Value), alikeAll ds ds = true → RepAll X.K H vs ds → Vals vs us → ∃ as, PySem.ReadsAll s.heap us ds as
  | [], _, _, _, r, q => by
    cases r
    cases q
    exact ⟨_, .nil⟩
  | d :: ds, _, _, ha, r, q => by
    cases r with
    | cons r1 r2 =>
      cases q with
      | cons q1 q2 =>
        obtain ⟨h1, h2⟩ := PySem.W.alike_all_cons ha
        obtain ⟨as, x⟩ := rep_reads I d _ _ h1 r1 q1
        obtain ⟨bs, y⟩ := repAll_reads I ds _ _ h2 r2 q2
        exact ⟨_, .cons x y⟩
end
theorem each_zip {K : K0} {B : Hp} : ∀ {vs : List V} {ds : List D} {us : List Value}, RepAll K B vs ds → Vals vs us → EachIs (fun u (b : V × D) => RelV b.1 u ∧ Rep K B b.1 b.2) us (vs.zip ds)
  | _, _, _, .nil, .nil => .nil
  | _, _, _, .cons r t, .cons q z => .cons ⟨q, r⟩ (each_zip t z)
theorem each_back {K : K0} {B : Hp} : ∀ {us : List Value} {ps : List (V × D)}, EachIs (fun u (b : V × D) => RelV b.1 u ∧ Rep K B b.1 b.2) us ps → Vals (ps.map (·.1)) us ∧ RepAll K B (ps.map (·.1)) (ps.map (·.2))
  | _, _, .nil => ⟨.nil, .nil⟩
  | _, _, .cons h t => ⟨.cons h.1 (each_back t).1, .cons h.2 (each_back t).2⟩
theorem zip_snd {K : K0} {B : Hp} : ∀ {vs : List V} {ds : List D}, RepAll K B vs ds → (vs.zip ds).map Prod.snd = ds
  | _, _, .nil => rfl
  | _, _, .cons r t => by
    show _ :: (List.zip _ _).map Prod.snd = _
    rw [zip_snd t]
theorem cSortedE (hc : X.calm = true) (hu : X.A.units + 64 < PySem.cLine) : CallR X (.builtin "sorted") (rB X.K (f1s sortedE)) := by
  intro pins s σ H xs us QV I rv ⟨B, fp, rs, Q, l, x, hf, hq⟩
  obtain ⟨a, e, sh, hg⟩ := f1s_inv hf
  have key : ∀ {g : F1}, g a.d Q → f1s g rs Q := by
    intro g hg2
    subst e
    exact ⟨sh, hg2⟩
  by_cases old : sortedD a.d Q
  · exact cSorted hc pins s σ H xs us QV I rv ⟨B, fp, rs, Q, l, x, key old, hq⟩
  clear key hf
  subst e
  obtain ⟨v, e, hv⟩ := x.one_sh sh
  subst e
  generalize a.d = d at hv hg old
  cases d <;> first | exact (old hg).elim | skip
  rename_i ds
  rcases hg with hg | ⟨⟨hal, hk, hd⟩, q⟩
  · exact (old hg).elim
  obtain ⟨p, vs, e, s', t⟩ := hv.list l
  subst e
  obtain ⟨its, rvs, hl, hz⟩ := I.list s'
  rw [Vals.ref1 rv]
  have ez := zip_snd t
  have e1 := each_zip t rvs
  have er : EachIs (fun u (b : V × D) => ∃ as, PySem.Reads s.heap u b.2 as) its (vs.zip ds) := by
    refine (PySem.W.EachIs.of_zip e1.length fun q m => ?_)
    have h1 := e1.zip q m
    have hm : q.2.2 ∈ ds := by
      have := (List.of_mem_zip m).2
      rw [← ez]
      exact List.mem_map_of_mem this
    exact rep_reads I _ _ _ (hal _ hm _ hm) (h1.2.mono l) h1.1
  refine PySem.W.sorted_data (R := fun u (b : V × D) => RelV b.1 u ∧ Rep X.K B b.1 b.2) (enc := Prod.snd) hl.isList e1 er (by rw [ez]; exact hal) (by rw [ez]; exact hk) (by rw [List.length_zip, t.length, Nat.min_self, ← t.length]; exact hz)
    (fun b m => ?_) fun out ho eo => ?_
  · have hm : b.2 ∈ ds := by
      rw [← ez]
      exact List.mem_map_of_mem (f := Prod.snd) m
    have := hd _ hm
    omega
  · obtain ⟨g1, g2⟩ := each_back eo
    have hs : ((vs.zip ds).mergeSort (dataLe false Prod.snd)).map (·.2) = sortDs ds := by
      have e3 : ((vs.zip ds).map Prod.snd).mergeSort dle = sortDs ds := by rw [ez]; rfl
      rw [← e3]
      exact PySem.W.sort_maps (Prod.snd : V × D → D) fun a _ b _ => rfl
    rw [hs] at g2
    have hlen : (((vs.zip ds).mergeSort (dataLe false Prod.snd)).map (·.1)).length ≤ sizeLine := by
      rw [List.length_map, List.length_mergeSort, List.length_zip, t.length, Nat.min_self, ← t.length]
      exact hz
    obtain ⟨ep, he'⟩ := PyProof.Rows.sortedAll_at s.heap its (List.toArray out)
    have np := I.hok.fresh (Nat.le_succ s.heap.objs.size)
    exact ⟨.ref _, upd H (s.heap.objs.size + 1) (.lst _), I.laid (t' := s.toks) (fun _ _ => PyProof.Rows.sortedAll_old) (Nat.le_succ _) ⟨hlen, out, ep, g1, he'⟩, rfl, hq _ _ B (.t _) (.make l np _) (t_lst l np g2) q⟩
end
end DL

set_option Elab.async false
set_option linter.all false
set_option maxRecDepth 100000
set_option maxHeartbeats 2000000
/-! DLV: list(reversed(x)). -/
namespace DL
open PySem L2 PyProof.Rows
section
variable {prog : Program} {w : World} {A : Around} {E : Value → Shared → Prop} {s : Shared}
open RT in
theorem rev_extend {R : Result → Shared → Prop} {it l : Addr} {items : Array Value} (hh : A.handled = none) (hit : s.heap.IsRevIter it l ((items.size : Int) - 1)) (hl : s.heap.IsList l items) (hne : l ≠ it) (hn : items.size ≤ sizeLine)
    (S : Addr) (hSi : S ≠ it) (hSl : S ≠ l) (res : Value) (c₀ : Nat) (hS : s.heap.get? S = some { cls := .type "list", data := .seq #[] c₀ })
    (hR : ∀ h' tk acc' c', (∀ b o, b ≠ S → b ≠ it → s.heap.get? b = some o → h'.get? b = some o) → h'.get? S = some { cls := .type "list", dict := none, data := .seq acc' c', slots := #[] } → ItemsOf (fun i v => items[items.size - 1 - i]? = some v) acc' items.size → R (.ok (.ret res)) { s with heap := h', toks := tk }) :
    wpAny (model prog w) A.in1 (Builtin.List.listExtendWith (.ref S) (.ref it) res)
      (fun fin s' => match fin with | .done f => R (.ok f) s' | .again c' => c'.quiet = true ∧ codeAny (model prog w) A c' R s') (fun e s' => R (.error e) s') s := by
  have W := (Walks.listRev (prog := prog) (w := w) (A := A.in1) hh it l hne items).toS
  have hSf : S ∉ [it, l] := by simp only [List.mem_cons, List.not_mem_nil, or_false, not_or]; exact ⟨hSi, hSl⟩
  have hT : s.TypeIs (.ref it) "list_reverseiterator" := hit.typeIs
  have h1 : Builtin.List.listSameRef (.ref S) (.ref it) = false := by simp [Builtin.List.listSameRef, hSi]
  unfold Builtin.List.listExtendWith
  refine wpAny_bind (wpAny_typeOf hT ?_)
  rw [if_neg (by rw [h1]; decide)]
  refine wpAny_bind (wpAny_pyIter_revIter hit ?_)
  refine wpAny_bind (wpAny_holding ?_)
  unfold Builtin.List.listLengthHint
  refine wpAny_bind (wpAny_specialOf hT nolen_lri ?_)
  show wpAny _ A.in1 (specialOf (Value.ref it) (Str.ofString "__length_hint__") >>= _) _ _ _
  refine wpAny_bind (wpAny_specialOf hT hint_lri ?_)
  generalize hid : ("list_reverseiterator.__length_hint__" : String) = id0
  wp_delta
  rw [show splitId id0 = some ("list_reverseiterator", "__length_hint__") from by subst hid; decide +kernel]
  subst hid
  refine wpAny_bind (wpAny_isInstance (b := true) hT (by rw [isSubtype_type]; kernel_rfl) ?_)
  refine wpAny_pure ?_
  rw [if_neg (by decide)]
  have e0 : ((items.size : Nat) : Int) - 1 - ((0 : Nat) : Int) = (items.size : Int) - 1 := by omega
  refine wpAny_pure ⟨plainId_quiet F.plain_extend_loop _, codeAny_extend_loopS W hn _ hSf _ items.size 0 _ _ _ rfl (Nat.zero_le _) ⟨Nat.zero_le _, by rw [e0]; exact hit, hl⟩ hS (ItemsOf.nil _) fun s' acc' c' hm hS' hacc => ?_⟩
  rw [Moved.eq_with hm]
  refine hR s'.heap s'.toks acc' c' (fun b o hb hi e => hm.heap b o (fun hmem => ?_) e) hS' hacc
  rcases List.mem_cons.mp hmem with e' | hmem
  · exact hb e'
  · exact hi (List.mem_singleton.mp hmem)
theorem call_list_rev {it l : Addr} {items : Array Value} {Q : Value → Shared → Prop} (hh : A.handled = none) (hit : s.heap.IsRevIter it l ((items.size : Int) - 1)) (hl : s.heap.IsList l items) (hne : l ≠ it) (hn : items.size ≤ sizeLine)
    (hQ : ∀ h' tk acc' c', (∀ b o, b ≠ it → s.heap.get? b = some o → h'.get? b = some o) → h'.get? s.heap.objs.size = some { cls := .type "list", dict := none, data := .seq acc' c', slots := #[] } → ItemsOf (fun i v => items[items.size - 1 - i]? = some v) acc' items.size → Q (.ref s.heap.objs.size) { s with heap := h', toks := tk }) :
    wpAny (model prog w) A (call (.type "list") [.ref it]) Q E s := by
  refine callType_codes (Q₁ := fun obj s₁ => obj = .ref s.heap.objs.size ∧ s₁ = { s with heap := s.heap.push { cls := .type "list", data := .seq #[] } }) PySem.F.called_list (PySem.F.typeCall_list_1 _) PySem.F.entry_list_init
    (code_list_new _ ⟨rfl, rfl⟩) fun obj s₁ h₁ => ?_
  obtain ⟨rfl, rfl⟩ := h₁
  have hS : (s.heap.push { cls := .type "list", data := .seq #[] }).get? s.heap.objs.size = some { cls := .type "list", data := .seq #[] } := Heap.get?_push_size _ rfl
  obtain ⟨oi, hoi, _⟩ := id hit
  obtain ⟨ol, hol, _⟩ := id hl
  have hSi : s.heap.objs.size ≠ it := Nat.ne_of_gt (Heap.lt_size hoi)
  have hSl : s.heap.objs.size ≠ l := Nat.ne_of_gt (Heap.lt_size hol)
  refine ⟨⟨_, hS, rfl⟩, PySem.F.args_list_init_2 _ _, ?_⟩
  show wpAny _ _ (do let old ← Builtin.List.listItems (.ref s.heap.objs.size); Builtin.List.listUpdate (.ref s.heap.objs.size) (fun _ => #[]); letGo old.toList.reverse; Builtin.List.listExtendWith (.ref s.heap.objs.size) (.ref it) .none) _ _ _
  refine wpAny_bind ?_
  unfold Builtin.List.listItems
  refine wpAny_bind (wpAny_seqItems hS rfl (wpAny_pure ?_))
  show wpAny _ _ (updateSeq s.heap.objs.size (fun _ => #[]) >>= fun _ => letGo (#[] : Array Value).toList.reverse >>= fun _ => Builtin.List.listExtendWith (.ref s.heap.objs.size) (.ref it) .none) _ _ _
  refine wpAny_bind (wpAny_updateSeq hS rfl ?_)
  have hS₂ := Heap.get?_update_self (Obj.mapSeq (fun _ => (#[] : Array Value))) hS rfl
  have oth : ∀ b o, b ≠ s.heap.objs.size → s.heap.get? b = some o → ((s.heap.push { cls := .type "list", data := .seq #[] }).update s.heap.objs.size (Obj.mapSeq (fun _ => (#[] : Array Value)))).get? b = some o :=
    fun b o hb e => (Heap.get?_update_other _ _ (Ne.symm hb)).trans (Heap.get?_push_of_some _ e)
  refine wpAny_bind (wpAny_letGo ?_)
  refine rev_extend (A := A.in1) hh (hit.at fun o e => oth _ _ hSi.symm e) (hl.at fun o e => oth _ _ hSl.symm e) hne hn s.heap.objs.size hSi hSl .none _ hS₂ fun h' tk acc' c' hk hS' hacc => ?_
  exact ⟨rfl, hQ h' tk acc' c' (fun b o hi e => hk b o (Nat.ne_of_lt (Heap.lt_size e)) hi (oth b o (Nat.ne_of_lt (Heap.lt_size e)) e)) hS' hacc⟩
end
section
variable {X : Cx} {W : WX} {G : Hp} {e : Expr} {m : WE} {te : TE} {p p1 p2 pos : Pos}
def tLRev (K : PySem.W.Frag) (te : TE) : TE := fun σ H Q => te σ H fun x H1 => ∃ a xs, x = .ref a ∧ SqL K H1 a xs ∧ ∀ q, H1 q = none → Q (.ref q) (upd H1 q (.lst xs.reverse))
theorem pe_lrev (hc : X.calm = true) (hgl : Gl X "list") (hml : X.mg "list" = none) (hg : Gl X "reversed") (hm : X.mg "reversed" = none) (he : PE X e te)
    (hs : starEach [e] X.env = (false, eval e X.env) :: starEach [] X.env := by rfl) (hs2 : starEach [.Call (.Name "reversed" p) [e] [] p2] X.env = (false, eval (.Call (.Name "reversed" p) [e] [] p2) X.env) :: starEach [] X.env := by rfl) :
    PE X (.Call (.Name "list" p1) [.Call (.Name "reversed" p) [e] [] p2] [] pos) (tLRev X.K te) := by
  refine ⟨fun pins s σ H Q I h => ?_⟩
  refine Call_ (ld_blt I hgl hml boot_list (PyProof.Rows.callWith_type1 (args_cons ?_ hs2) hs2))
  refine Call_ (ld_blt I hg hm PyProof.Rows.boot_reversed (PyProof.Rows.callWith_type1 (args_cons (thn (he.run pins s σ H _ I h) fun u s1 ⟨v, H1, I1, r1, q1⟩ => args_nil ?_) hs) hs rfl))
  obtain ⟨a, xs, ev, hq, q⟩ := q1
  subst ev
  obtain rfl : u = Value.ref a := r1
  obtain ⟨its, rv, p', hz⟩ := I1.list hq
  have hl := rv.length
  obtain ⟨ol, hol, _⟩ := id p'.isList
  refine call_reversed_list p'.isList (args_nil ?_)
  refine call_list_rev (it := s1.heap.objs.size) (l := a) (items := its.toArray) (I1.ok.hd hc) ⟨_, Heap.get?_push_size _ rfl, rfl, rfl⟩ (p'.isList.at fun o e => Heap.get?_push_of_some _ e) (Nat.ne_of_lt (Heap.lt_size hol)) (by rw [List.size_toArray]; omega) fun h' tk acc c' hk hn hi => ?_
  have hz2 : (s1.heap.push (revObj a ((its.toArray.size : Int) - 1))).objs.size = s1.heap.objs.size + 1 := Heap.size_push ..
  refine ⟨.ref _, upd H1 (s1.heap.push (revObj a ((its.toArray.size : Int) - 1))).objs.size (.lst xs.reverse), I1.laid (t' := tk) (fun b o e => hk b o (Nat.ne_of_lt (Heap.lt_size e)) (Heap.get?_push_of_some _ e)) (by rw [hz2]; omega) ⟨by rw [List.length_reverse]; exact hz, acc.toList, c', ?_, by rw [Array.toArray_toList]; exact hn⟩, rfl, q _ (I1.hok.fresh (by rw [hz2]; omega))⟩
  have ea : acc.toList = its.reverse := by
    apply List.ext_getElem?
    intro j
    have hs : acc.size = its.length := by rw [hi.1, List.size_toArray]
    by_cases hj : j < its.length
    · have h1 : acc[j]? = some (acc[j]'(by omega)) := Array.getElem?_eq_getElem (by omega)
      have h2 := hi.2 j _ h1
      rw [Array.getElem?_toList, h1, ← h2, List.getElem?_reverse hj, List.size_toArray]
      simp
    · rw [List.getElem?_eq_none (by rw [Array.length_toList]; omega), List.getElem?_eq_none (by rw [List.length_reverse]; omega)]
  rw [ea]
  exact rv.reverse
/-- list(reversed(x)), x a list -/
def wLRev (t : WE) : WE := fun env Q E => t env (fun x => x.sh ∧ ∃ ds, x.d = .list ds ∧ Q (.t (.lst ds.reverse))) E
theorem de_lrev (hc : X.calm = true) (hgl : Gl X "list") (hml : X.mg "list" = none) (hg : Gl X "reversed") (hm : X.mg "reversed" = none) (he : DE X W G e m)
    (hs : starEach [e] X.env = (false, eval e X.env) :: starEach [] X.env := by rfl) (hs2 : starEach [.Call (.Name "reversed" p) [e] [] p2] X.env = (false, eval (.Call (.Name "reversed" p) [e] [] p2) X.env) :: starEach [] X.env := by rfl) :
    DE X W G (.Call (.Name "list" p1) [.Call (.Name "reversed" p) [e] [] p2] [] pos) (wLRev m) := by
  refine PEi (pe_lrev hc hgl hml hg hm he hs hs2) fun σ H QV ⟨B, env, fp, Q, E, rr, hm, hq, hx⟩ => ?_
  refine ⟨B, env, fp, _, E, rr, hm, fun v1 H1 B1 r1 e1 o1 ⟨s1, ds, ed, hf⟩ => ?_, hx⟩
  obtain ⟨B2, e2, l2, rv1⟩ := o1.view e1 s1
  rw [ed] at rv1
  obtain ⟨a, vs, ev, s, t⟩ := rv1.list e2.bh
  exact ⟨a, vs, ev, s, fun p np => hq _ _ B2 (.t _) (e2.trans (.make e2.bh np _)) (VOk.back e2 (t_lst e2.bh np t.reverse)) hf⟩
end
/-! ### loops over any things -/
theorem for_gd {α : Type} {ds : List PyData} {g : WG} {body : WS} {D : En} {env : Env} (is : List Nat) (os : α → List (Option O)) (I : Nat → α → Prop) (x0 : α) (h0 : env = setL env is (os x0)) (hI : I 0 x0)
    (step : ∀ i d x, ds[i]? = some d → I i x → g d (setL env is (os x)) fun env2 => body { D with nx := NxF (fun x => setL env is (os x)) I (i + 1), ct := NxF (fun x => setL env is (os x)) I (i + 1), bk := D.nx } env2)
    (fin : ∀ x, I ds.length x → D.nx (setL env is (os x))) : FoI ds g body D env := by
  have := for_gs (ls := ds) (enc := id) (g := g) (body := body) (D := D) (env := env) is os I x0 h0 hI step fin
  rwa [List.map_id] at this
theorem oR_f (d : PyData) : oR (.fro d) = .v d := rfl
theorem oR_l (ds : List PyData) : oR (.lst ds) = .b (.lst ds) := rfl
theorem oR_d (ds : List (PyData × PyData)) : oR (.dic ds) = .b (.dic ds) := rfl
theorem oR_ls (ds : List O) : oR (.lsts ds) = .b (.lsts ds) := rfl
end DL

set_option Elab.async false
set_option linter.all false
set_option maxRecDepth 100000
set_option maxHeartbeats 1000000
/-! DLU: a thing held against what is the same, dicts within. -/
namespace DL
open PySem L2 PyProof.Rows
/-- data of a depth below n, its dicts' keys each once -/
def SmOk : Nat → D → Prop
  | _, .none => True
  | _, .bool _ => True
  | _, .int _ => True
  | _, .str _ => True
  | n + 1, .list ds => ∀ d ∈ ds, SmOk n d
  | n + 1, .tuple ds => ∀ d ∈ ds, SmOk n d
  | n + 1, .dict ds => (ds.map (·.1)).Nodup ∧ ∀ p ∈ ds, SmOk n p.2
  | 0, .list _ => False
  | 0, .tuple _ => False
  | 0, .dict _ => False
theorem sok_none (n : Nat) : SmOk n .none := by cases n <;> exact True.intro
theorem sok_bool (n : Nat) (b : Bool) : SmOk n (.bool b) := by cases n <;> exact True.intro
theorem sok_int (n : Nat) (b : Int) : SmOk n (.int b) := by cases n <;> exact True.intro
theorem sok_str (n : Nat) (b : Str) : SmOk n (.str b) := by cases n <;> exact True.intro
theorem sok_list {n : Nat} {ds : List PyData} (h : ∀ d ∈ ds, SmOk n d) : SmOk (n + 1) (.list ds) := h
theorem sok_tuple {n : Nat} {ds : List PyData} (h : ∀ d ∈ ds, SmOk n d) : SmOk (n + 1) (.tuple ds) := h
theorem sok_dict0 (n : Nat) : SmOk (n + 1) (.dict []) := ⟨by simp, by simp⟩
theorem RepKV.keysK {K : K0} {B : Hp} : ∀ {kvs : List (Key × V)} {ds : List (D × D)}, RepKV K B kvs ds → (kvs.map (·.1)).map kD = ds.map (·.1)
  | _, _, .nil => rfl
  | _, _, .cons r t => by rw [List.map_cons, List.map_cons, List.map_cons, RepKV.keysK t]
theorem kD_inj {a b : Key} (h : kD a = kD b) : a = b := by
  have := congrArg keyD h
  rw [keyD_kD, keyD_kD] at this
  exact Option.some.inj this
theorem RepKV.two {K : K0} {B B2 : Hp} {F : V → V → Prop} : ∀ {ks ls : List (Key × V)} {ds : List (D × D)}, RepKV K B ks ds → RepKV K B2 ls ds → (∀ x y d, d ∈ ds.map (·.2) → Rep K B x d → Rep K B2 y d → F x y) → Paired (fun p q => p.1 = q.1 ∧ F p.2 q.2) ks ls
  | _, _, _, .nil, h, _ => by cases h; exact .nil
  | _, _, _, .cons r t, h, f => by
    generalize hd : kD _ = kd at h
    cases h with
    | cons r2 t2 =>
      refine .cons ⟨kD_inj (by first | exact hd | rfl), f _ _ _ (by simp) r r2⟩ (RepKV.two t t2 fun x y d m => f x y d (by simp at m ⊢; exact .inr m))
section
variable {X : Cx} {pins : List (Addr × Obj)} {σ : L2.St} {H : Hp} {s : Shared}
open PySem.W (EqTree)
theorem all_true (n : Nat) : ((List.range n).all fun _ => true) = true := List.all_eq_true.mpr fun _ _ => rfl
theorem paired_val {κ : Type} [DecidableEq κ] {F : Value → Value → Prop} : ∀ {ka kb : List (κ × Value)}, Paired (fun p q => p.1 = q.1 ∧ F p.2 q.2) ka kb → (ka.map (·.1)).Nodup → ∀ k v y, (k, v) ∈ ka → valueAt kb k = some y → F v y
  | _, _, .nil, _, _, _, _, m, _ => by simp at m
  | p :: ps, q :: qs, .cons h t, nd, k, v, y, m, e => by
    rw [List.map_cons] at nd
    obtain ⟨n1, n2⟩ := List.nodup_cons.mp nd
    by_cases hk : q.1 = k
    · have e2 : valueAt (q :: qs) k = some q.2 := by simp [valueAt, List.find?_cons, hk]
      rw [e2] at e
      cases e
      rcases List.mem_cons.mp m with rfl | m
      · exact h.2
      · exact absurd (List.mem_map_of_mem (f := (·.1)) m) (by simp only; rw [← hk, ← h.1]; exact n1)
    · have e2 : valueAt (q :: qs) k = valueAt qs k := by simp [valueAt, List.find?_cons, hk]
      rw [e2] at e
      rcases List.mem_cons.mp m with rfl | m
      · exact absurd h.1.symm hk
      · exact paired_val t n2 k v y m e
theorem paired_comp {F : V → V → Prop} {G : Value → Value → Prop} (hg : ∀ x y v u, F x y → RelV x v → RelV y u → G v u) : ∀ {ks ls : List (Key × V)} {va vb : List (Key × Value)}, Paired (fun p q => p.1 = q.1 ∧ F p.2 q.2) ks ls → KV ks va → KV ls vb → Paired (fun (p q : Key × Value) => p.1 = q.1 ∧ G p.2 q.2) va vb
  | _, _, _, _, .nil, .nil, .nil => .nil
  | _, _, _, _, .cons h t, .cons h1 t1, .cons h2 t2 => .cons ⟨h1.1.symm.trans (h.1.trans h2.1), hg _ _ _ _ h.2 h1.2 h2.2⟩ (paired_comp hg t t1 t2)
theorem paired_keys {κ : Type} {F : Value → Value → Prop} : ∀ {ka kb : List (κ × Value)}, Paired (fun p q => p.1 = q.1 ∧ F p.2 q.2) ka kb → ka.map (·.1) = kb.map (·.1)
  | _, _, .nil => rfl
  | _, _, .cons h t => by rw [List.map_cons, List.map_cons, h.1, paired_keys t]
theorem same_tree (I : Inv X pins σ H s) : ∀ (n : Nat) (d : D) (x y : V) (v u : Value), SmOk n d → Rep X.K H x d → Rep X.K H y d → RelV x v → RelV y u → EqTree X.prog X.w s n v u true := by
  intro n
  induction n with
  | zero =>
    intro d x y v u h rx ry ex ey
    cases d with
    | none => cases rx; cases ry; rw [show v = Value.none from ex, show u = Value.none from ey]; exact .same
    | bool b => cases rx; cases ry; rw [show v = Value.bool b from ex, show u = Value.bool b from ey]; exact .same
    | int i =>
      cases rx; cases ry
      obtain ⟨t, rfl⟩ := (show ∃ t, v = Value.int i t from ex)
      obtain ⟨t2, rfl⟩ := (show ∃ t, u = Value.int i t from ey)
      exact .leaf fun A _ => by have := SeqAt.EqAt.int_int (A := A) (s := s) i t i t2; rwa [beq_self_eq_true] at this
    | str i =>
      cases rx; cases ry
      obtain ⟨t, rfl⟩ := (show ∃ t, v = Value.str i t from ex)
      obtain ⟨t2, rfl⟩ := (show ∃ t, u = Value.str i t from ey)
      exact .leaf fun A _ => by have := SeqAt.EqAt.str_str (A := A) (s := s) i t i t2; rwa [beq_self_eq_true] at this
    | _ => exact h.elim
  | succ n ih =>
    intro d x y v u h rx ry ex ey
    cases d with
    | none => cases rx; cases ry; rw [show v = Value.none from ex, show u = Value.none from ey]; exact .same
    | bool b => cases rx; cases ry; rw [show v = Value.bool b from ex, show u = Value.bool b from ey]; exact .same
    | int i =>
      cases rx; cases ry
      obtain ⟨t, rfl⟩ := (show ∃ t, v = Value.int i t from ex)
      obtain ⟨t2, rfl⟩ := (show ∃ t, u = Value.int i t from ey)
      exact .leaf fun A _ => by have := SeqAt.EqAt.int_int (A := A) (s := s) i t i t2; rwa [beq_self_eq_true] at this
    | str i =>
      cases rx; cases ry
      obtain ⟨t, rfl⟩ := (show ∃ t, v = Value.str i t from ex)
      obtain ⟨t2, rfl⟩ := (show ∃ t, u = Value.str i t from ey)
      exact .leaf fun A _ => by have := SeqAt.EqAt.str_str (A := A) (s := s) i t i t2; rwa [beq_self_eq_true] at this
    | list ds =>
      obtain ⟨a, vs, rfl, sa, ta⟩ := rx.list_inv
      obtain ⟨b, ws, rfl, sb, tb⟩ := ry.list_inv
      cases (show v = Value.ref a from ex)
      cases (show u = Value.ref b from ey)
      by_cases e : a = b
      · subst e; exact .same
      obtain ⟨us, r1, p1, _⟩ := I.list sa
      obtain ⟨zs, r2, p2, _⟩ := I.list sb
      have l1 : us.length = ds.length := by rw [← r1.length, ta.length]
      have l2 : zs.length = ds.length := by rw [← r2.length, tb.length]
      have := EqTree.lists (prog := X.prog) (w := X.w) (n := n) (e := fun _ => true) e p1.isList p2.isList (by simp; omega) (fun j h1 h2 => by
        have hj : j < ds.length := by simpa [l1] using h1
        obtain ⟨x1, g1, q1⟩ := ta.get (List.getElem?_eq_getElem hj)
        obtain ⟨x2, g2, q2⟩ := tb.get (List.getElem?_eq_getElem hj)
        obtain ⟨u1, f1, w1⟩ := r1.get g1
        obtain ⟨u2, f2, w2⟩ := r2.get g2
        have k1 : us.toArray[j] = u1 := by
          have := (List.getElem?_eq_some_iff.mp f1).2
          simpa using this
        have k2 : zs.toArray[j] = u2 := by
          have := (List.getElem?_eq_some_iff.mp f2).2
          simpa using this
        rw [k1, k2]
        exact ih _ x1 x2 u1 u2 (h _ (List.getElem_mem hj)) q1 q2 w1 w2)
      rwa [all_true] at this
    | tuple ds =>
      obtain ⟨a, vs, rfl, sa, ta⟩ := rx.tup_inv
      obtain ⟨b, ws, rfl, sb, tb⟩ := ry.tup_inv
      cases (show v = Value.ref a from ex)
      cases (show u = Value.ref b from ey)
      by_cases e : a = b
      · subst e; exact .same
      obtain ⟨us, r1, p1, _⟩ := I.tuple sa
      obtain ⟨zs, r2, p2, _⟩ := I.tuple sb
      have l1 : us.length = ds.length := by rw [← r1.length, ta.length]
      have l2 : zs.length = ds.length := by rw [← r2.length, tb.length]
      have := EqTree.tuples (prog := X.prog) (w := X.w) (n := n) (e := fun _ => true) e (show s.heap.IsTuple a us.toArray from p1) (show s.heap.IsTuple b zs.toArray from p2) (fun j h1 h2 => by
        have hj : j < ds.length := by simpa [l1] using h1
        obtain ⟨x1, g1, q1⟩ := ta.get (List.getElem?_eq_getElem hj)
        obtain ⟨x2, g2, q2⟩ := tb.get (List.getElem?_eq_getElem hj)
        obtain ⟨u1, f1, w1⟩ := r1.get g1
        obtain ⟨u2, f2, w2⟩ := r2.get g2
        have k1 : us.toArray[j] = u1 := by
          have := (List.getElem?_eq_some_iff.mp f1).2
          simpa using this
        have k2 : zs.toArray[j] = u2 := by
          have := (List.getElem?_eq_some_iff.mp f2).2
          simpa using this
        rw [k1, k2]
        exact ih _ x1 x2 u1 u2 (h _ (List.getElem_mem hj)) q1 q2 w1 w2)
      rw [all_true] at this
      simpa [l1, l2] using this
    | dict ds =>
      obtain ⟨a, ks, rfl, sa, ta⟩ := rx.dict_inv
      obtain ⟨b, ls, rfl, sb, tb⟩ := ry.dict_inv
      cases (show v = Value.ref a from ex)
      cases (show u = Value.ref b from ey)
      by_cases e : a = b
      · subst e; exact .same
      obtain ⟨_, ya, va, ra, da⟩ := dk_rd I.hok sa
      obtain ⟨_, yb, vb, rb, db⟩ := dk_rd I.hok sb
      obtain ⟨hn, hv⟩ := h
      have two := RepKV.two (F := fun x y => ∀ v u, RelV x v → RelV y u → EqTree X.prog X.w s n v u true) ta tb fun x y d m r1 r2 v u e1 e2 => by
        obtain ⟨p, mp, rfl⟩ := List.mem_map.mp m
        exact ih _ x y v u (hv p mp) r1 r2 e1 e2
      have nk : (va.map (·.1)).Nodup := by
        rw [← ra.keys]
        have := ta.keysK
        rw [← this] at hn
        exact (List.pairwise_map.mp hn).imp fun h e => h (by rw [e])
      have pv := paired_comp (F := fun x y => ∀ v u, RelV x v → RelV y u → EqTree X.prog X.w s n v u true) (G := fun v u => EqTree X.prog X.w s n v u true) (fun x y v u f e1 e2 => f v u e1 e2) two ra rb
      have := EqTree.dicts (prog := X.prog) (w := X.w) (n := n) (e := fun _ => true) e ya yb da db fun k v y m hy => paired_val (F := fun v y => EqTree X.prog X.w s n v y true) pv nk k v y m hy
      have hlen : va.length = vb.length := Paired.length pv
      have hall : (va.all fun p => (valueAt vb p.1).isSome && true) = true := by
        rw [List.all_eq_true]
        intro p mp
        have hk : p.1 ∈ vb.map (·.1) := by
          have e2 := paired_keys (F := fun v y => EqTree X.prog X.w s n v y true) pv
          rw [← e2]; exact List.mem_map_of_mem mp
        obtain ⟨q, mq, eq⟩ := List.mem_map.mp hk
        have : (vb.find? fun r => decide (r.1 = p.1)).isSome := by
          rw [List.find?_isSome]
          exact ⟨q, mq, by simp [eq]⟩
        simp [valueAt, this]
      rw [hlen, hall] at this
      simpa using this
/-- held against the same -/
def cEqS : Op2B := fun x y Q => (x = y ∧ (∀ ds, x ≠ .dict ds)) ∧ SmOk 40 x ∧ Q true
theorem opEqS (hu : X.A.units + 64 < cLine) : OpR X (compareOp .Eq) (rc2 X.K cEqS) := by
  intro pins s σ H x y v u Q I rx ry ⟨B, dx, dy, Q', l, hx, hy, ⟨⟨e, hnd⟩, hs, hf⟩, hq⟩
  subst e
  have fin : EP X pins σ Q (.bool true) s := ⟨.bl true, H, I, rfl, hq _ hf⟩
  have flat : flatD dx = true → _ := fun hfl => op_eq pins s σ H x y v u Q I rx ry ⟨by cases hx <;> cases hy <;> first | rfl | (simp [flatD] at hfl; done), by
    have : decide (x = y) = true := by cases hx <;> cases hy <;> first | (simp [flatD] at hfl; done) | (simp; done)
    rw [this]; exact hq _ hf⟩
  cases dx with
  | list ds =>
    obtain ⟨a, vs, rfl, sa, ta⟩ := hx.list_inv
    obtain ⟨b, ws, rfl, sb, tb⟩ := hy.list_inv
    cases (show v = Value.ref a from rx)
    cases (show u = Value.ref b from ry)
    obtain ⟨us, r1, p1, _⟩ := I.list sa
    obtain ⟨zs, r2, p2, _⟩ := I.list sb
    have l1 : us.length = ds.length := by rw [← r1.length, ta.length]
    have l2 : zs.length = ds.length := by rw [← r2.length, tb.length]
    refine PySem.W.eq_listsT (n := 39) (e := fun _ => true) p1.isList p2.isList (by simp; omega) (fun j h1 h2 => ?_) (by omega) (by rw [all_true]; exact fin)
    have hj : j < ds.length := by simpa [l1] using h1
    obtain ⟨x1, g1, q1⟩ := ta.get (List.getElem?_eq_getElem hj)
    obtain ⟨x2, g2, q2⟩ := tb.get (List.getElem?_eq_getElem hj)
    obtain ⟨u1, f1, w1⟩ := r1.get g1
    obtain ⟨u2, f2, w2⟩ := r2.get g2
    have k1 : us.toArray[j] = u1 := by
      have := (List.getElem?_eq_some_iff.mp f1).2
      simpa using this
    have k2 : zs.toArray[j] = u2 := by
      have := (List.getElem?_eq_some_iff.mp f2).2
      simpa using this
    rw [k1, k2]
    exact same_tree I 39 _ x1 x2 u1 u2 (hs _ (List.getElem_mem hj)) q1 q2 w1 w2
  | tuple ds =>
    obtain ⟨a, vs, rfl, sa, ta⟩ := hx.tup_inv
    obtain ⟨b, ws, rfl, sb, tb⟩ := hy.tup_inv
    cases (show v = Value.ref a from rx)
    cases (show u = Value.ref b from ry)
    obtain ⟨us, r1, p1, _⟩ := I.tuple sa
    obtain ⟨zs, r2, p2, _⟩ := I.tuple sb
    have l1 : us.length = ds.length := by rw [← r1.length, ta.length]
    have l2 : zs.length = ds.length := by rw [← r2.length, tb.length]
    refine PySem.W.eq_tuplesT (n := 39) (e := fun _ => true) (show s.heap.IsTuple a us.toArray from p1) (show s.heap.IsTuple b zs.toArray from p2) (fun j h1 h2 => ?_) (by omega) (by rw [all_true]; simpa [l1, l2] using fin)
    have hj : j < ds.length := by simpa [l1] using h1
    obtain ⟨x1, g1, q1⟩ := ta.get (List.getElem?_eq_getElem hj)
    obtain ⟨x2, g2, q2⟩ := tb.get (List.getElem?_eq_getElem hj)
    obtain ⟨u1, f1, w1⟩ := r1.get g1
    obtain ⟨u2, f2, w2⟩ := r2.get g2
    have k1 : us.toArray[j] = u1 := by
      have := (List.getElem?_eq_some_iff.mp f1).2
      simpa using this
    have k2 : zs.toArray[j] = u2 := by
      have := (List.getElem?_eq_some_iff.mp f2).2
      simpa using this
    rw [k1, k2]
    exact same_tree I 39 _ x1 x2 u1 u2 (hs _ (List.getElem_mem hj)) q1 q2 w1 w2
  | dict ds => exact absurd rfl (hnd ds)
  | _ => exact flat rfl
end
end DL

set_option Elab.async false
set_option linter.all false
set_option maxRecDepth 100000
set_option maxHeartbeats 1000000
/-! DLL: an own thing looked at as if still, while what comes of it leans on nothing of it. -/
namespace DL
open PySem L2 PyProof.Rows
def O.leanL : O → Prop
  | .lst ds => noLs ds = true
  | .fro d => noL d = true
  | _ => False
def R.lean : R → Prop
  | .v d => noL d = true
  | .t (.lst ds) => noLs ds = true
  | .t (.lsts os) => ∀ o ∈ os, o.leanL
  | _ => False
theorem R.lean_v (d : D) : (R.v d).lean = (noL d = true) := rfl
theorem R.lean_t (ds : List D) : (R.t (.lst ds)).lean = (noLs ds = true) := rfl
theorem R.lean_ts (os : List O) : (R.t (.lsts os)).lean = ∀ o ∈ os, o.leanL := rfl
theorem O.leanL_lst (ds : List D) : (O.lst ds).leanL = (noLs ds = true) := rfl
theorem O.leanL_fro (d : D) : (O.fro d).leanL = (noL d = true) := rfl
/-- an expression, with the thing at a slot still the while -/
def wLook (i : Nat) (m : WE) : WE := fun env Q E => m (frzAt env i) (fun r => r.lean ∧ Q r) E
section
variable {K : K0}
theorem OwnAll.cutL {B B0 H : Hp} {g : List Addr} (hg : ∀ a ∈ g, ∃ u, B a = some u ∧ isLD u) : ∀ {vs : List V} {os : List O} {f : List Addr}, (∀ o ∈ os, o.leanL) → OwnAll K B H vs os f → OwnAll K (cutB B B0 g) H vs os f
  | _, _, _, _, .nil => .nil
  | _, o :: _, _, h, .cons x t => by
    refine .cons ?_ (OwnAll.cutL hg (fun o m => h o (List.mem_cons_of_mem _ m)) t)
    have hl := h o (List.mem_cons_self ..)
    cases x with
    | fro r => exact .fro (Rep.cutL hg hl r)
    | lst h' r => exact .lst h' (RepAll.cutL hg hl r)
    | _ => exact hl.elim
theorem look_ok {X : Cx} {W : WX} {G : Hp} {i : Nat} {m : WE} {σ : L2.St} {H : Hp} {QV : VK} (h : tD X W G (wLook i m) σ H QV) : tD X W G m σ H QV := by
  obtain ⟨B, env, fp, Q, E, rr, hm, hq, hx⟩ := h
  have same : frzAt env i = env → tD X W G m σ H QV := fun e => by
    refine ⟨B, env, fp, fun r => r.lean ∧ Q r, E, rr, ?_, fun v H' B' r e2 w q => hq v H' B' r e2 w q.2, hx⟩
    have hm : m (frzAt env i) (fun r => r.lean ∧ Q r) E := hm
    rw [e] at hm; exact hm
  by_cases own : ∃ o0, env[i]? = some (some o0) ∧ ∀ a, o0 ≠ .raw a
  · obtain ⟨o0, hi, hr⟩ := own
    obtain ⟨v, g, h1, h2, h3, h4, h5⟩ := rr.put hi hr
    have l := addB_le g rr.bh
    obtain ⟨fp', rr'⟩ := h5 (addB B H g) H (.fro o0.frz) [] l (addB_bh g rr.bh) (fun _ _ _ h => h) (fun a o _ n z => by rw [addB_out n]; exact z)
      (.fro (h2.freeze l fun a m u q => by rw [addB_in m]; exact q)) (by simp) fun a m => absurd m (by simp)
    have fz : frzAt env i = env.set i (some (.fro o0.frz)) := by
      unfold frzAt
      rw [hi]
      cases o0 <;> first | rfl | exact (hr _ rfl).elim
    refine ⟨addB B H g, frzAt env i, fp', _, E, by rw [fz]; exact rr', hm, fun v' H' B' r e2 w ⟨le, q⟩ => ?_, hx⟩
    have hg' : ∀ a ∈ g, ∃ u, B' a = some u ∧ isLD u := fun a m => by
      obtain ⟨u, hu, l⟩ := h2.ld a m
      exact ⟨u, e2.le _ _ (by rw [addB_in m]; exact hu), l⟩
    have eC : Ext H B H' (cutB B' B g) := ⟨e2.same, fun a o h => by
      rw [cutB_out (fun m => by rw [m.2] at h; cases h)]
      exact e2.le _ _ (l _ _ h), (cutB_le g).trans e2.bh, fun a o h n => by
      by_cases m : a ∈ g
      · unfold cutB; rw [if_pos ⟨m, n⟩]
      · rw [cutB_out fun z => m z.1]
        exact e2.new a o h (by rw [addB_out m]; exact n)⟩
    refine hq v' H' (cutB B' B g) r eC ?_ q
    cases r with
    | v d => exact Rep.cutL hg' le w
    | t o =>
      obtain ⟨g', w, ng, hgn⟩ := w
      have out : ∀ a ∈ g', H a = none ∧ cutB B' B g a = none := fun a m => ⟨(hgn a m).1, (cutB_le g).none (hgn a m).2⟩
      cases w with
      | lst h r => exact ⟨_, .lst h (RepAll.cutL hg' le r), ng, out⟩
      | lsts h r => exact ⟨_, .lsts h (OwnAll.cutL hg' le r), ng, out⟩
      | _ => exact le.elim
    | b o => exact le.elim
  · refine same ?_
    unfold frzAt
    split
    · rfl
    · rename_i o hr e
      exact absurd ⟨o, e, hr⟩ own
    · rfl
theorem de_look {X : Cx} {W : WX} {G : Hp} {i : Nat} {m : WE} {e : Expr} (h : DE X W G e m) : DE X W G e (wLook i m) := PEi h fun σ H Q x => look_ok x
end
section
variable {X : Cx} {W : WX} {G : Hp} {tg iter elt : Expr} {ifs : List Expr} {scope : Scope} {own : List (Str × Nat)} {it : WI} {g : WG} {c : WT} {t : WE} {pos : Pos}
theorem ds_letLook {i k : Nat} {y : Str} {py spos : Pos} (hc : X.calm = true) (hN : X.N.Nodup) (hy : X.N[i]? = some y) (hyl : X.env.scope.names.lookup y = some .local)
    (hsw : swapsWith (.ListComp elt [⟨tg, iter, ifs, 0⟩] scope pos) (some (.Name y py)) spos.line X.env = pure true) (hi : DIc X W G tg iter it) {N : List Str} {sc : Scope} (ok : blkC N sc scope own = true) (eN : X.N = N) (eS : X.env.scope = sc)
    (hg : ∀ s H C cl fp, DG (Bk X scope s H C cl fp) G (own.map (·.2)) tg g) (ht : ∀ s H C cl fp, PTs (Bk X scope s H C cl fp) ifs (tDT X W0 G c)) (he : ∀ s H C cl fp, DE (Bk X scope s H C cl fp) W0 G elt t)
    (hs : ∀ x, foldedSetIterable iter X.env x = pure x) : DS X W G (.Assign [.Name y py] (.ListComp elt [⟨tg, iter, ifs, 0⟩] scope pos) spos) (wLet i (wLook k (wLcO it (own.map (·.2)) g c t))) :=
  PSi (ps_setLc (g := tDG X G (own.map fun p : Str × Nat => p.2) g) (tt := tDT X W0 G c) (te := tD X W0 G t) hc hN hy hyl hsw hi (by subst eN eS; exact blkOk_by ok) hg ht he hs) fun D σ H h => let_ok (fun _ _ _ h => lcO_ok (look_ok h)) H h
theorem ds_setLook {i k : Nat} {y : Str} {py spos : Pos} (hc : X.calm = true) (hN : X.N.Nodup) (hy : X.N[i]? = some y) (hyl : X.env.scope.names.lookup y = some .local)
    (hsw : swapsWith (.ListComp elt [⟨tg, iter, ifs, 0⟩] scope pos) (some (.Name y py)) spos.line X.env = pure true) (hi : DIc X W G tg iter it) {N : List Str} {sc : Scope} (ok : blkC N sc scope own = true) (eN : X.N = N) (eS : X.env.scope = sc)
    (hg : ∀ s H C cl fp, DG (Bk X scope s H C cl fp) G (own.map (·.2)) tg g) (ht : ∀ s H C cl fp, PTs (Bk X scope s H C cl fp) ifs (tDT X W0 G c)) (he : ∀ s H C cl fp, DE (Bk X scope s H C cl fp) W0 G elt t)
    (hs : ∀ x, foldedSetIterable iter X.env x = pure x) : DS X W G (.Assign [.Name y py] (.ListComp elt [⟨tg, iter, ifs, 0⟩] scope pos) spos) (wAsg i (wLook k (wLcO it (own.map (·.2)) g c t))) :=
  PSi (ps_setLc (g := tDG X G (own.map fun p : Str × Nat => p.2) g) (tt := tDT X W0 G c) (te := tD X W0 G t) hc hN hy hyl hsw hi (by subst eN eS; exact blkOk_by ok) hg ht he hs) fun D σ H h => asg_ok (fun _ _ _ h => lcO_ok (look_ok h)) H h
end
end DL

set_option Elab.async false
set_option linter.all false
set_option maxRecDepth 100000
set_option maxHeartbeats 1000000
/-! DLN: sorted, of a text. -/
namespace DL
open PySem L2 PyProof.Rows
def sgS (x : Str) : List Str := x.cps.toList.map fun c => ⟨#[c]⟩
def sortedF : F1
  | .str x, Q => x.cps.size ≤ sizeLine ∧ ∀ ys : List Str, ordS (sgS x) ys → Q (.t (.lst (ys.map PyData.str)))
  | d, Q => sortedE d Q
theorem sortedF_s (x : Str) (Q : R → Prop) : sortedF (.str x) Q = (x.cps.size ≤ sizeLine ∧ ∀ ys : List Str, ordS (sgS x) ys → Q (.t (.lst (ys.map PyData.str)))) := rfl
section
variable {X : Cx}
theorem sortedAnyT (hcalm : X.calm = true) : CallR X (.builtin "sorted") (fun xs H Q => ∃ x : Str, xs = [.str x] ∧ x.cps.size ≤ sizeLine ∧
    ∀ ys p, ys.Perm (sgS x) → sortedS ys = true → H p = none → Q (.ref p) (upd H p (.lst (ys.map V.str)))) := by
  intro pins s σ H xs us Q I r q
  obtain ⟨x, ex, hz, q⟩ := q
  subst ex
  obtain ⟨u, eu, rx⟩ := vals1 r
  subst eu
  obtain ⟨t, rfl⟩ : ∃ t, u = Value.str x t := rx
  refine Calls.call_function_entry PyProof.Rows.kind_sorted PyProof.Rows.plain_sorted PyProof.Rows.entry_sorted (PyProof.Rows.args_sorted1 _) ?_
  unfold Builtin.«sorted»
  refine wpAny_bind (m := checkCount "sorted" 1 1 _) (wpAny_pure ?_)
  refine wpAny_bind (wpAny_collect_str (A := X.A.in1) (I.ok.hd hcalm) x t (fun s' acc hk hg hd ho hacc => ?_) hz)
  obtain ⟨h', g', d', tk, o'⟩ := s'
  simp only at hk hg hd ho
  subst hg hd ho
  have hl : (sgS x).length = x.cps.size := by rw [sgS, List.length_map, Array.length_toList]
  have hal : acc.toList.length = (sgS x).length := by rw [Array.length_toList, hacc.1, hl]
  have h17 : (sgS x).length ≤ sizeLine := by rw [hl]; exact hz
  have hS : StrsAre acc.toList (sgS x) := strs_at hal fun j v e => by
    obtain ⟨c, u, e1, e2⟩ := hacc.2 j v (by rw [← Array.getElem?_toList]; exact e)
    exact ⟨⟨#[c]⟩, u, by rw [sgS, List.getElem?_map, Array.getElem?_toList, e1]; rfl, e2⟩
  have I1 : Inv X pins σ H { s with heap := h', toks := tk } := I.kept hk
  show wpAny _ _ _ _ _ { s with heap := h', toks := tk }
  refine wpAny_bind (wpAny_newList ?_ (by rw [hal]; exact h17))
  have hoL : (h'.push (seqObj "list" acc.toList.toArray 0)).get? h'.objs.size = some (seqObj "list" acc.toList.toArray 0) := Heap.get?_push_size _ rfl
  show wpAny _ _ _ _ _ { s with heap := h'.push (seqObj "list" acc.toList.toArray 0), toks := tk }
  refine wpAny_bind (wpAny_holding (wpAny_call_entry PyProof.Rows.slot_list_sort ⟨_, hoL, rfl⟩ PyProof.Rows.entry_list_sort
    (list_sort_treeKAny strKind_oneLt (s := { s with heap := h'.push (seqObj "list" acc.toList.toArray 0), toks := tk }) hoL hS.keysOf (fun v₁ v₂ rest e => keyKind_strs (by rw [← e]; exact hS)) (by rw [hal]; exact h17) fun st' hp hs => ⟨_, rfl, ?_⟩)
    (PyProof.Rows.args_list_sort _)))
  obtain ⟨ys, g1, g2, g3⟩ := sorted_out_str hS hp hs
  obtain ⟨e', he'⟩ := PyProof.Rows.sortedHeap_at (vs := acc.toList) (out := (arrOf st').map (·.2)) hoL
  have hlen : (ys.map V.str).length ≤ sizeLine := by
    rw [List.length_map, g2.length_eq]
    exact h17
  refine wpAny_pure ⟨_, rfl, .ref h'.objs.size, upd H h'.objs.size (.lst (ys.map V.str)), I1.laid (t' := tk) (fun b u e => ?_) (Nat.le_refl _)
    (show ObjOk X.prog X.w _ _ _ (.lst (ys.map V.str)) from ⟨hlen, ((arrOf st').map (·.2)).toList, e', vals_of_strs g1, by rw [Array.toArray_toList]; exact he'⟩), rfl, q ys _ g2 g3 (I1.hok.fresh (Nat.le_refl _))⟩
  have hb : b < h'.objs.size := Heap.lt_size e
  rw [PyProof.Rows.sortedHeap_old (Nat.ne_of_lt hb) (by rw [size_push']; exact Nat.lt_succ_of_lt hb)]
  exact Heap.get?_push_of_some _ e
theorem cSortedF (hc : X.calm = true) (hu : X.A.units + 64 < PySem.cLine) : CallR X (.builtin "sorted") (rB X.K (f1s sortedF)) := by
  intro pins s σ H xs us QV I rv ⟨B, fp, rs, Q, l, x, hf, hq⟩
  obtain ⟨a, e, sh, hg⟩ := f1s_inv hf
  have key : ∀ {g : F1}, g a.d Q → f1s g rs Q := by
    intro g hg2
    subst e
    exact ⟨sh, hg2⟩
  by_cases old : sortedE a.d Q
  · exact cSortedE hc hu pins s σ H xs us QV I rv ⟨B, fp, rs, Q, l, x, key old, hq⟩
  clear key hf
  subst e
  obtain ⟨v, e, hv⟩ := x.one_sh sh
  subst e
  generalize a.d = d at hv hg old
  cases d <;> first | exact (old hg).elim | skip
  rename_i z
  obtain ⟨hz, hg⟩ := hg
  have e : v = V.str z := by cases hv with | rep r => cases r; rfl
  subst e
  exact sortedAnyT hc pins s σ H _ us QV I rv ⟨z, rfl, hz, fun ms p' h1 h2 np => hq _ _ B (.t _) (.make l np _) (t_lst l np (.strs ms)) (hg ms ⟨h1, h2⟩)⟩
end
end DL

set_option Elab.async false
set_option linter.all false
set_option maxRecDepth 100000
set_option maxHeartbeats 1000000
/-! DLP: comprehensions whose items may raise and that hold own things. -/
namespace DL
open PySem L2 PyProof.Rows
def LcOE (env : Env) (ds : List PyData) (vs : List Nat) (g : WG) (c : WT) (t : WE) (Q : R → Prop) (E : Str → Prop) : Prop := ∃ P : Nat → List O → Prop, P 0 [] ∧
  (∀ i d acc, ds[i]? = some d → P i acc → g d (wipeE env vs) fun env2 => c env2 (fun k => if k = true then t env2 (fun r => r.st ∧ acc.length < sizeLine ∧ P (i + 1) (acc ++ [r.o])) E else P (i + 1) acc) noE) ∧
  ∀ acc, P ds.length acc → Q (.t (.lsts acc))
def wLcOE (it : WI) (vs : List Nat) (g : WG) (c : WT) (t : WE) : WE := fun env Q E => it env (fun ds => LcOE env ds vs g c t Q E) E
theorem wLcOE_eq (it : WI) (vs : List Nat) (g : WG) (c : WT) (t : WE) (env : Env) (Q : R → Prop) (E : Str → Prop) : wLcOE it vs g c t env Q E = it env (fun ds => LcOE env ds vs g c t Q E) E := rfl
section
variable {X : Cx} {W : WX} {G : Hp} {tg iter elt : Expr} {ifs : List Expr} {scope : Scope} {own : List (Str × Nat)} {it : WI} {g : WG} {c : WT} {t : WE} {pos : Pos}
theorem lcOE_ok {σ : L2.St} {H : Hp} {QV : VK} {vs : List Nat} (h : tD X W G (wLcOE it vs g c t) σ H QV) :
    tLcE (tDIc X W G it) (tDG X G vs g) (tDT X W0 G c) (fun σ => tD X (fun cls d _ H => W cls d σ H) G t) vs σ H QV := by
  obtain ⟨B, env, fp, Q, E, rr, hm, hq, hx⟩ := h
  refine ⟨B, env, fp, _, E, rr, hm, fun J H1 B1 ds e1 wk ⟨P, p0, pt, pe⟩ L nL => ?_, hx⟩
  have out : ∀ {H2 B2 : Hp}, RR X.K G B2 env fp σ H2 → L ∉ fp := fun {H2 B2} r2 m => by
    obtain ⟨u, hu⟩ := (rr.ext e1).own.dom L m
    rw [nL] at hu; cases hu
  have gL : G L = none := (rr.ext e1).gh.none nL
  let Iv : Nat → Hp → Prop := fun i H2 => ∃ B2 acc vs2 f, Le B1 B2 ∧ RR X.K G B2 env fp σ H2 ∧ B2 L = none ∧ H2 L = some (.lst vs2) ∧ OwnAll X.K B2 H2 vs2 acc f ∧ f.Nodup ∧ L ∉ f ∧ (∀ a ∈ f, H1 a = none ∧ B2 a = none) ∧
    (∀ a o, H1 a = some o → H2 a = some o) ∧ (∀ a o, H1 a = some o → B1 a = none → B2 a = none) ∧ P i acc
  refine ⟨fun i m H2 => m = ds.length - i ∧ i ≤ ds.length ∧ Iv i H2,
    ⟨_, rfl, Nat.zero_le _, B1, [], [], [], .refl _, (rr.ext e1).beside (out (rr.ext e1)) (e1.bh.none nL) gL, e1.bh.none nL, upd_same, .nil, by simp, by simp, by simp, fun a o q => upd_keep q (ne_of_none q nL), fun _ _ _ n => n, p0⟩, ?_⟩
  rintro i m H2 ⟨rfl, hle, B2, acc, vs2, f, l2, rr2, bL, hL, ra, nf, Lf, hf, s2, n2, pi⟩
  by_cases hlt : i < ds.length
  · refine .inr ⟨wk.go i H2 B2 l2 rr2.bh s2 hlt, fun H' => Iv (i + 1) H', fun H' z => ⟨_, (by omega), rfl, hlt, z⟩, fun y H3 hy => ?_⟩
    obtain ⟨dd, B3, hd, e3, rp⟩ := wk.yld i H2 y H3 B2 hlt l2 rr2.bh s2 hy
    obtain ⟨fpw, rrw⟩ := (rr2.ext e3).wipe vs
    refine ⟨B3, _, fpw, dd, _, rrw, rp, pt i dd acc hd pi, fun σ4 env4 fp4 rr4 t4 q4 => ⟨?_, ?_⟩⟩
    · have := t4.wipe
      rw [this]
      exact (Touch.wipe ⟨wipe_length σ vs, fun j nj => by rw [wipe_get, if_neg nj]⟩)
    · refine ⟨B3, env4, fp4, _, noE, rr4, q4, fun k H5 B5 e5 q5 => ?_, xok0⟩
      have eA := e3.trans e5
      have keepO : ∀ {H' B' : Hp}, Ext H2 B2 H' B' → OwnAll X.K B' H' vs2 acc f ∧ ∀ a ∈ f, H1 a = none ∧ B' a = none := fun {H' B'} e => ⟨ra.mono e.le fun a m => by
        obtain ⟨u, hu⟩ := ra.dom a m
        rw [hu]; exact e.same a u hu, fun a m => ⟨(hf a m).1, by
        obtain ⟨u, hu⟩ := ra.dom a m
        exact e.new a u hu (hf a m).2⟩⟩
      cases k with
      | false =>
        rw [if_neg (by simp)] at q5
        refine iteF ?_
        obtain ⟨k1, k2⟩ := keepO eA
        exact ⟨B5, acc, vs2, f, l2.trans eA.le, rr2.ext eA, eA.new L _ hL bL, eA.same _ _ hL, k1, nf, Lf, k2, fun a o q => eA.same _ _ (s2 a o q), fun a o q n => eA.new a o (s2 a o q) (n2 a o q n), q5⟩
      | true =>
        rw [if_pos rfl] at q5
        refine iteT ?_
        refine ⟨B5, env4, fp4, _, E, rr4.ext e5, q5, fun u H6 B6 r e6 w ⟨sr, hz, p6⟩ => ?_, fun n cls H' e m s => hx n cls H' e m (e1.same.trans (Le.trans s2 (eA.same.trans s)))⟩
        have eB := eA.trans e6
        have hL6 := eB.same _ _ hL
        have bL6 := eB.new L _ hL bL
        have rr6 := rr2.ext eB
        obtain ⟨k1, k2⟩ := keepO eB
        have key : ∀ g', Own X.K B6 H6 u r.o g' → g'.Nodup → (∀ a ∈ g', H5 a = none ∧ B6 a = none) → Iv (i + 1) (upd H6 L (.lst (vs2 ++ [u]))) := fun g' wg ng hg => by
          have h5 : ∀ a ∈ g', H1 a = none ∧ a ∉ f ∧ a ≠ L := fun a m => by
            have q := eA.same.none (hg a m).1
            have q1 : H1 a = none := by
              cases z : H1 a with
              | none => rfl
              | some o => rw [s2 a o z] at q; cases q
            refine ⟨q1, fun m' => ?_, fun e => ?_⟩
            · obtain ⟨o, ho⟩ := ra.dom a m'
              rw [ho] at q; cases q
            · subst e; rw [hL] at q; cases q
          have ne : ∀ a ∈ f ++ g', upd H6 L (.lst (vs2 ++ [u])) a = H6 a := fun a m => upd_ne fun e => by
            rcases List.mem_append.mp m with m | m
            · exact Lf (e ▸ m)
            · exact (h5 a m).2.2 e
          have t1 := k1.mono (H' := upd H6 L (.lst (vs2 ++ [u]))) (Le.refl B6) fun a m => ne a (List.mem_append_left _ m)
          have t2 := wg.mono (H' := upd H6 L (.lst (vs2 ++ [u]))) (Le.refl B6) fun a m => ne a (List.mem_append_right _ m)
          have t3 := t1.append (OwnAll.cons t2 .nil)
          rw [List.append_nil] at t3
          refine ⟨B6, acc ++ [r.o], vs2 ++ [u], f ++ g', l2.trans eB.le, rr6.beside (out rr6) bL6 gL, bL6, upd_same, t3, List.nodup_append.mpr ⟨nf, ng, fun a m b m' e => (h5 b m').2.1 (e ▸ m)⟩, fun m => ?_, fun a m => ?_, fun a o q => upd_keep (eB.same _ _ (s2 a o q)) (ne_of_none q nL), fun a o q n => eB.new a o (s2 a o q) (n2 a o q n), p6⟩
          · rcases List.mem_append.mp m with m | m
            · exact Lf m
            · exact (h5 L m).2.2 rfl
          · rcases List.mem_append.mp m with m | m
            · exact k2 a m
            · exact ⟨(h5 a m).1, (hg a m).2⟩
        refine ⟨vs2, hL6, by rw [k1.length]; exact hz, ?_⟩
        cases r with
        | v d => exact key [] (.fro w) (by simp) fun b m => absurd m (by simp)
        | t o => obtain ⟨g', w, ng, hg⟩ := w; exact key g' w ng hg
        | b o => exact sr.elim
  · have e : i = ds.length := by omega
    subst e
    refine .inl ⟨wk.stop _ H2 B2 l2 rr2.bh s2 (Nat.le_refl _), hq _ H2 B2 (.t (.lsts acc)) ⟨e1.same.trans s2, e1.le.trans l2, rr2.bh, fun a o q n => n2 a o (e1.same _ _ q) (e1.new a o q n)⟩ ⟨L :: f, .lsts hL ra, List.nodup_cons.mpr ⟨Lf, nf⟩, fun a m => ?_⟩ (pe acc pi)⟩
    rcases List.mem_cons.mp m with z | z
    · subst z; exact ⟨e1.same.none nL, bL⟩
    · exact ⟨e1.same.none (hf a z).1, (hf a z).2⟩
theorem de_lcOE (hstk : X.stack = X.env :: X.outer) (hfrm : X.env.frame = some X.env.locals) (tk : Takes X W) (hc : X.calm = true) (hN : X.N.Nodup) (hi : DIc X W G tg iter it) {N : List Str} {sc : Scope} (ok : blkC N sc scope own = true) (eN : X.N = N) (eS : X.env.scope = sc)
    (hg : ∀ s H C cl fp, DG (Bk X scope s H C cl fp) G (own.map (·.2)) tg g) (ht : ∀ s H C cl fp, PTs (Bk X scope s H C cl fp) ifs (tDT X W0 G c)) (he : ∀ W' s H C cl fp xe, PassE (BkE X scope s H (compEnvC scope cl C X.env) fp xe) W' → DE (BkE X scope s H (compEnvC scope cl C X.env) fp xe) W' G elt t)
    (hs : ∀ x, foldedSetIterable iter X.env x = pure x) : DE X W G (.ListComp elt [⟨tg, iter, ifs, 0⟩] scope pos) (wLcOE it (own.map (·.2)) g c t) :=
  PEi (pe_lcE (g := tDG X G (own.map fun p : Str × Nat => p.2) g) (tt := tDT X W0 G c) (te := fun σ => tD X (fun cls d _ H => W cls d σ H) G t) hstk hfrm tk hc hN hi (by subst eN eS; exact blkOk_by ok) hg ht (fun σ s H C cl fp xe pa => he _ s H C cl fp xe pa) hs) fun _ _ _ h => lcOE_ok h
theorem ds_setLcOE {i : Nat} {y : Str} {py spos : Pos} (hstk : X.stack = X.env :: X.outer) (hfrm : X.env.frame = some X.env.locals) (tk : Takes X W) (hc : X.calm = true) (hN : X.N.Nodup) (hy : X.N[i]? = some y) (hyl : X.env.scope.names.lookup y = some .local)
    (hsw : swapsWith (.ListComp elt [⟨tg, iter, ifs, 0⟩] scope pos) (some (.Name y py)) spos.line X.env = pure true) (hi : DIc X W G tg iter it) {N : List Str} {sc : Scope} (ok : blkC N sc scope own = true) (eN : X.N = N) (eS : X.env.scope = sc)
    (hg : ∀ s H C cl fp, DG (Bk X scope s H C cl fp) G (own.map (·.2)) tg g) (ht : ∀ s H C cl fp, PTs (Bk X scope s H C cl fp) ifs (tDT X W0 G c)) (he : ∀ W' s H C cl fp xe, PassE (BkE X scope s H (compEnvC scope cl C X.env) fp xe) W' → DE (BkE X scope s H (compEnvC scope cl C X.env) fp xe) W' G elt t)
    (hs : ∀ x, foldedSetIterable iter X.env x = pure x) : DS X W G (.Assign [.Name y py] (.ListComp elt [⟨tg, iter, ifs, 0⟩] scope pos) spos) (wAsg i (wLcOE it (own.map (·.2)) g c t)) :=
  PSi (ps_setLcE (g := tDG X G (own.map fun p : Str × Nat => p.2) g) (tt := tDT X W0 G c) (te := fun σ => tD X (fun cls d _ H => W cls d σ H) G t) hstk hfrm tk hc hN hy hyl hsw hi (by subst eN eS; exact blkOk_by ok) hg ht (fun σ s H C cl fp xe pa => he _ s H C cl fp xe pa) hs) fun D σ H h => asg_ok (fun _ _ _ h => lcOE_ok h) H h
theorem ds_letLcOE {i : Nat} {y : Str} {py spos : Pos} (hstk : X.stack = X.env :: X.outer) (hfrm : X.env.frame = some X.env.locals) (tk : Takes X W) (hc : X.calm = true) (hN : X.N.Nodup) (hy : X.N[i]? = some y) (hyl : X.env.scope.names.lookup y = some .local)
    (hsw : swapsWith (.ListComp elt [⟨tg, iter, ifs, 0⟩] scope pos) (some (.Name y py)) spos.line X.env = pure true) (hi : DIc X W G tg iter it) {N : List Str} {sc : Scope} (ok : blkC N sc scope own = true) (eN : X.N = N) (eS : X.env.scope = sc)
    (hg : ∀ s H C cl fp, DG (Bk X scope s H C cl fp) G (own.map (·.2)) tg g) (ht : ∀ s H C cl fp, PTs (Bk X scope s H C cl fp) ifs (tDT X W0 G c)) (he : ∀ W' s H C cl fp xe, PassE (BkE X scope s H (compEnvC scope cl C X.env) fp xe) W' → DE (BkE X scope s H (compEnvC scope cl C X.env) fp xe) W' G elt t)
    (hs : ∀ x, foldedSetIterable iter X.env x = pure x) : DS X W G (.Assign [.Name y py] (.ListComp elt [⟨tg, iter, ifs, 0⟩] scope pos) spos) (wLet i (wLcOE it (own.map (·.2)) g c t)) :=
  PSi (ps_setLcE (g := tDG X G (own.map fun p : Str × Nat => p.2) g) (tt := tDT X W0 G c) (te := fun σ => tD X (fun cls d _ H => W cls d σ H) G t) hstk hfrm tk hc hN hy hyl hsw hi (by subst eN eS; exact blkOk_by ok) hg ht (fun σ s H C cl fp xe pa => he _ s H C cl fp xe pa) hs) fun D σ H h => let_ok (fun _ _ _ h => lcOE_ok h) H h
end
theorem lcOE_mapE {α : Type} {ls : List α} {enc : α → D} {env : Env} {vs : List Nat} {g : WG} {t : WE} {Q : R → Prop} {E : Str → Prop} (f : α → O) (hz : ls.length ≤ sizeLine)
    (h : ∀ (i : Nat) (x : α), ls[i]? = some x → ∀ A : R → Prop, (∀ r, r.st → r.o = f x → A r) → g (enc x) (wipeE env vs) fun env2 => t env2 A E) (q : Q (.t (.lsts (ls.map f)))) : LcOE env (ls.map enc) vs g wYes t Q E := by
  refine ⟨fun i acc => acc = (ls.take i).map f, by simp, fun i d acc hd ha => ?_, fun acc ha => ?_⟩
  · obtain ⟨x, hx, e⟩ := map_get hd
    subst e
    have ha : acc = (ls.take i).map f := ha
    refine h i x hx (fun r => r.st ∧ acc.length < sizeLine ∧ acc ++ [r.o] = (ls.take (i + 1)).map f) fun r rs rd => ⟨rs, ?_, ?_⟩
    · have hi := (List.getElem?_eq_some_iff.mp hx).1
      rw [ha, List.length_map, List.length_take]
      omega
    · rw [take_succ hx, List.map_append, ha, rd]; rfl
  · have ha : acc = (ls.take (ls.map enc).length).map f := ha
    rw [ha, List.length_map, List.take_length]; exact q
/-- item by item, what is known of those ahead -/
theorem lcOE_inv {α : Type} {ls : List α} {enc : α → D} {env : Env} {vs : List Nat} {g : WG} {t : WE} {Q : R → Prop} {E : Str → Prop} (f : α → O) (J : Nat → Prop) (hz : ls.length ≤ sizeLine) (j0 : J 0)
    (h : ∀ (i : Nat) (x : α), ls[i]? = some x → J i → ∀ A : R → Prop, (∀ r, r.st → r.o = f x → J (i + 1) → A r) → g (enc x) (wipeE env vs) fun env2 => t env2 A E) (q : J ls.length → Q (.t (.lsts (ls.map f)))) : LcOE env (ls.map enc) vs g wYes t Q E := by
  refine ⟨fun i acc => acc = (ls.take i).map f ∧ J i, ⟨by simp, j0⟩, fun i d acc hd ha => ?_, fun acc ha => ?_⟩
  · obtain ⟨x, hx, e⟩ := map_get hd
    subst e
    obtain ⟨ha, hj⟩ := ha
    refine h i x hx hj (fun r => r.st ∧ acc.length < sizeLine ∧ acc ++ [r.o] = (ls.take (i + 1)).map f ∧ J (i + 1)) fun r rs rd hj' => ⟨rs, ?_, ?_, hj'⟩
    · have hi := (List.getElem?_eq_some_iff.mp hx).1
      rw [ha, List.length_map, List.length_take]
      omega
    · rw [take_succ hx, List.map_append, ha, rd]; rfl
  · obtain ⟨ha, hj⟩ := ha
    rw [List.length_map] at ha hj
    rw [ha, List.take_length]; exact q hj
/-! ### a test, with an own thing still the while -/
def wLookT (i : Nat) (m : WT) : WT := fun env Q E => m (frzAt env i) Q E
section
variable {K : K0}
theorem lookT_ok {X : Cx} {W : WX} {G : Hp} {i : Nat} {m : WT} {σ : L2.St} {H : Hp} {QV : Bool → Hp → Prop} (h : tDT X W G (wLookT i m) σ H QV) : tDT X W G m σ H QV := by
  obtain ⟨B, env, fp, Q, E, rr, hm, hq, hx⟩ := h
  have same : frzAt env i = env → tDT X W G m σ H QV := fun e => by
    refine ⟨B, env, fp, Q, E, rr, ?_, hq, hx⟩
    have hm : m (frzAt env i) Q E := hm
    rw [e] at hm; exact hm
  by_cases own : ∃ o0, env[i]? = some (some o0) ∧ ∀ a, o0 ≠ .raw a
  · obtain ⟨o0, hi, hr⟩ := own
    obtain ⟨v, g, h1, h2, h3, h4, h5⟩ := rr.put hi hr
    have l := addB_le g rr.bh
    obtain ⟨fp', rr'⟩ := h5 (addB B H g) H (.fro o0.frz) [] l (addB_bh g rr.bh) (fun _ _ _ h => h) (fun a o _ n z => by rw [addB_out n]; exact z)
      (.fro (h2.freeze l fun a m u q => by rw [addB_in m]; exact q)) (by simp) fun a m => absurd m (by simp)
    have fz : frzAt env i = env.set i (some (.fro o0.frz)) := by
      unfold frzAt
      rw [hi]
      cases o0 <;> first | rfl | exact (hr _ rfl).elim
    refine ⟨addB B H g, frzAt env i, fp', _, E, by rw [fz]; exact rr', hm, fun b H' B' e2 q => ?_, hx⟩
    have eC : Ext H B H' (cutB B' B g) := ⟨e2.same, fun a o h => by
      rw [cutB_out (fun m => by rw [m.2] at h; cases h)]
      exact e2.le _ _ (l _ _ h), (cutB_le g).trans e2.bh, fun a o h n => by
      by_cases m : a ∈ g
      · unfold cutB; rw [if_pos ⟨m, n⟩]
      · rw [cutB_out fun z => m z.1]
        exact e2.new a o h (by rw [addB_out m]; exact n)⟩
    exact hq b H' (cutB B' B g) eC q
  · refine same ?_
    unfold frzAt
    split
    · rfl
    · rename_i o hr e
      exact absurd ⟨o, e, hr⟩ own
    · rfl
theorem dt_look {X : Cx} {W : WX} {G : Hp} {i : Nat} {m : WT} {e : Expr} (h : DT X W G e m) : DT X W G e (wLookT i m) := PTi h fun σ H Q x => lookT_ok x
end
end DL

set_option Elab.async false
set_option linter.all false
set_option maxRecDepth 100000
set_option maxHeartbeats 1000000
/-! DLQ: more methods of texts. -/
namespace DL
open PySem L2 PyProof.Rows
def fFind : FM
  | a, [r], Q => ∃ b, r.d = .str b ∧ Q (.v (.int (Txt.find a b)))
  | _, _, _ => False
theorem fFind_1 (a : Str) (r : R) (Q : R → Prop) : fFind a [r] Q = ∃ b, r.d = .str b ∧ Q (.v (.int (Txt.find a b))) := rfl
section
variable {X : Cx} {W : WX} {G : Hp} {ob e : Expr} {mo : WE} {es : List Expr} {ms : WA} {apos cpos : Pos}
theorem find_r (B H : Hp) (fp : List Addr) (a : Str) (vs : List V) (rs : List R) (Q : R → Prop) (QV : VK) (l : Le B H) (va : VAll X.K B H vs rs) (hf : fFind a rs Q) (hq : QOk X.K B H fp Q QV) :
    ∃ a' b, (V.str a) = .str a' ∧ vs = [.str b] ∧ QV (.int (Txt.find a' b)) H := by
  match rs, hf with
  | [r], ⟨b, ht, q⟩ =>
    obtain ⟨v, ev, rv⟩ := va.one l
    subst ev
    rw [ht] at rv
    rw [rv.str_inv]
    exact ⟨a, b, rfl, rfl, hq _ H B (.v _) (.refl l) (.int _) q⟩
theorem dm_find (c : MF X ob "find" e es apos cpos) (ho : DE X W G ob mo) (ha : DA X W G (e :: es) ms) : DE X W G (.Call (.Attribute ob "find" apos) (e :: es) [] cpos) (wMe fFind mo ms) :=
  PEi (pe_bm PySem.F.plainAttrs_str PySem.F.slot_str_find PySem.F.type_str_find mt_find ho ha c.base c.few c.line c.hs c.pl) (me_ok find_r)
end
end DL

set_option Elab.async false
set_option linter.all false
set_option maxRecDepth 100000
set_option maxHeartbeats 1000000
/-! DLK: comprehensions over a dict's keys. -/
namespace DL
open PySem L2 PyProof.Rows
section
variable {K : K0} {B H : Hp} {d : Addr} {od : Obj} {ks : List (Key × V)}
theorem Rd.lockD {a : Addr} {u : HO} (hd : B d = some (.dK ks)) (h : Rd B a u) : Rd (upd B d (.frz od (.dK ks))) a u := by
  by_cases e : a = d
  · subst e
    rcases h with h | ⟨o, h⟩
    · rw [hd] at h; cases h; exact .inr ⟨od, upd_same⟩
    · rw [hd] at h; cases h
  · rcases h with h | ⟨o, h⟩
    · exact .inl (by rw [upd_ne e]; exact h)
    · exact .inr ⟨o, by rw [upd_ne e]; exact h⟩
theorem sqL_lockD {a : Addr} {vs : List V} (hd : B d = some (.dK ks)) (h : SqL K B a vs) : SqL K (upd B d (.frz od (.dK ks))) a vs := h.imp (Rd.lockD hd) id
theorem sqT_lockD {a : Addr} {vs : List V} (hd : B d = some (.dK ks)) (h : SqT K B a vs) : SqT K (upd B d (.frz od (.dK ks))) a vs := h.imp (Rd.lockD hd) id
theorem tupP_lockD {a : Addr} {ds : List D} (hd : B d = some (.dK ks)) (h : TupP B a ds) : TupP (upd B d (.frz od (.dK ks))) a ds := h.imp (fun ⟨o, u, e, q⟩ => ⟨o, u, by
  rw [upd_ne (fun z => by rw [z, hd] at e; cases e)]; exact e, q⟩) id
mutual
theorem Rep.lockD (hd : B d = some (.dK ks)) : ∀ {v : V} {x : D}, Rep K B v x → Rep K (upd B d (.frz od (.dK ks))) v x
  | _, _, .non => .non
  | _, _, .bl b => .bl b
  | _, _, .int i => .int i
  | _, _, .str x => .str x
  | _, _, .lst s r => .lst (sqL_lockD hd s) (RepAll.lockD hd r)
  | _, _, .tup s r p => .tup (sqT_lockD hd s) (RepAll.lockD hd r) (tupP_lockD hd p)
  | _, _, .dic s r => .dic (Rd.lockD hd s) (RepKV.lockD hd r)
theorem RepAll.lockD (hd : B d = some (.dK ks)) : ∀ {vs : List V} {ds : List D}, RepAll K B vs ds → RepAll K (upd B d (.frz od (.dK ks))) vs ds
  | _, _, .nil => .nil
  | _, _, .cons r t => .cons (Rep.lockD hd r) (RepAll.lockD hd t)
theorem RepKV.lockD (hd : B d = some (.dK ks)) : ∀ {vs : List (Key × V)} {ds : List (D × D)}, RepKV K B vs ds → RepKV K (upd B d (.frz od (.dK ks))) vs ds
  | _, _, .nil => .nil
  | _, _, .cons r t => .cons (Rep.lockD hd r) (RepKV.lockD hd t)
end
mutual
theorem Own.lockD (hd : B d = some (.dK ks)) : ∀ {v : V} {o : O} {f : List Addr}, (∀ a ∈ f, a ≠ d) → Own K B H v o f → Own K (upd B d (.frz od (.dK ks))) (upd H d (.frz od (.dK ks))) v o f
  | _, _, _, _, .fro r => .fro (Rep.lockD hd r)
  | _, _, _, k, .lst h r => .lst (by rw [upd_ne (k _ (by simp))]; exact h) (RepAll.lockD hd r)
  | _, _, _, k, .dic h r => .dic (by rw [upd_ne (k _ (by simp))]; exact h) (RepKV.lockD hd r)
  | _, _, _, k, .lsts h r => .lsts (by rw [upd_ne (k _ (by simp))]; exact h) (OwnAll.lockD hd (fun a m => k a (List.mem_cons_of_mem _ m)) r)
theorem OwnAll.lockD (hd : B d = some (.dK ks)) : ∀ {vs : List V} {os : List O} {f : List Addr}, (∀ a ∈ f, a ≠ d) → OwnAll K B H vs os f → OwnAll K (upd B d (.frz od (.dK ks))) (upd H d (.frz od (.dK ks))) vs os f
  | _, _, _, _, .nil => .nil
  | _, _, _, k, .cons r t => .cons (Own.lockD hd (fun a m => k a (List.mem_append_left _ m)) r) (OwnAll.lockD hd (fun a m => k a (List.mem_append_right _ m)) t)
end
theorem ownEnv_lockD (hd : B d = some (.dK ks)) : ∀ {σ : L2.St} {env : Env} {f : List Addr}, (∀ a ∈ f, a ≠ d) → OwnEnv K B H σ env f → OwnEnv K (upd B d (.frz od (.dK ks))) (upd H d (.frz od (.dK ks))) σ env f
  | _, _, _, _, .nil => .nil
  | _, _, _, k, .no t => .no (ownEnv_lockD hd k t)
  | _, _, _, k, .raw t => .raw (ownEnv_lockD hd k t)
  | _, _, _, k, .some r t => .some (Own.lockD hd (fun a m => k a (List.mem_append_left _ m)) r) (ownEnv_lockD hd (fun a m => k a (List.mem_append_right _ m)) t)
theorem RR.lockD {G : Hp} {env : Env} {fp : List Addr} {σ : L2.St} (hd : B d = some (.dK ks)) (x : RR K G B env fp σ H) : RR K G (upd B d (.frz od (.dK ks))) env fp σ (upd H d (.frz od (.dK ks))) where
  bh := fun a o h => by
    by_cases e : a = d
    · subst e; rw [upd_same] at h ⊢; exact h
    · rw [upd_ne e] at h ⊢; exact x.bh a o h
  gh := fun a o h => by
    rw [upd_ne (fun e => by rw [e] at h; have := x.gb d o h; rw [hd] at this; cases this)]
    exact x.gh a o h
  gb := fun a o h => by
    rw [upd_ne (fun e => by rw [e] at h; have := x.gb d o h; rw [hd] at this; cases this)]
    exact x.gb a o h
  own := ownEnv_lockD hd (fun a m e => by
    have := (x.fb a m).1
    rw [e, hd] at this; cases this) x.own
  nd := x.nd
  fb := fun a m => by
    rw [upd_ne (fun e => by have := (x.fb a m).1; rw [e, hd] at this; cases this)]
    exact x.fb a m
theorem RepAll.flatB {B' : Hp} : ∀ {vs : List V} {ds : List D}, ds.all flatD = true → RepAll K B vs ds → RepAll K B' vs ds
  | _, _, _, .nil => .nil
  | _, _, h, .cons r t => by
    simp only [List.all_cons, Bool.and_eq_true] at h
    refine .cons ?_ (RepAll.flatB h.2 t)
    cases r with
    | non => exact .non
    | bl b => exact .bl b
    | int i => exact .int i
    | str x => exact .str x
    | _ => simp [flatD] at h
theorem RepKV.keyAt : ∀ {vs : List (Key × V)} {ds : List (D × D)} {i : Nat} {k : Key} {v : V}, RepKV K B vs ds → vs[i]? = some (k, v) → (ds.map (·.1))[i]? = some (kD k)
  | _, _, _, _, _, .nil, e => by simp at e
  | _, _, 0, _, _, .cons r t, e => by simp at e ⊢; rw [e.1]
  | _, _, i + 1, _, _, .cons r t, e => by
    have := RepKV.keyAt (i := i) t (by simpa using e)
    simpa using this
theorem RepKV.lenK : ∀ {vs : List (Key × V)} {ds : List (D × D)}, RepKV K B vs ds → vs.length = ds.length
  | _, _, .nil => rfl
  | _, _, .cons r t => congrArg (· + 1) t.lenK
end
theorem walk_keysD {K : K0} {B H0 : Hp} {d : Addr} {od : Obj} {ks : List (Key × V)} {kvs : List (D × D)} (h0 : H0 d = some (.frz od (.dK ks))) (rl : ks.length = kvs.length) (r : ∀ (i : Nat) (k : Key) (v : V), ks[i]? = some (k, v) → (kvs.map (·.1))[i]? = some (kD k)) : WalkH K B H0 (Itk d od ks) (kvs.map (·.1)) where
  go := fun i H B1 l1 l2 l3 h => ⟨l3 _ _ h0, by rw [rl]; simpa using h⟩
  stop := fun i H B1 l1 l2 l3 h => ⟨l3 _ _ h0, by rw [rl]; simpa using h⟩
  yld := fun i H x H' B1 hlt l1 l2 l3 ⟨e, k, v, hk, ex⟩ => by
    subst e ex
    refine ⟨kD k, B1, r _ _ _ hk, .refl l2, ?_⟩
    cases k with
    | inl i => exact .int i
    | inr x => exact .str x
def flatR : R → Prop
  | .t (.lst ds) => ds.all flatD = true
  | _ => False
theorem flatR_l (ds : List D) : flatR (.t (.lst ds)) = (ds.all flatD = true) := rfl
/-- a comprehension over the keys of the dict at a slot; what comes of it is flat -/
def wLcK (i : Nat) (vs : List Nat) (g : WG) (c : WT) (t : WE) : WE := fun env Q E => ∃ kvs, env[i]? = some (some (.fro (.dict kvs))) ∧ LcI env (kvs.map (·.1)) vs g c t fun r => flatR r ∧ Q r
theorem wLcK_eq (i : Nat) (vs : List Nat) (g : WG) (c : WT) (t : WE) (env : Env) (Q : R → Prop) (E : Str → Prop) : wLcK i vs g c t env Q E = ∃ kvs, env[i]? = some (some (.fro (.dict kvs))) ∧ LcI env (kvs.map (·.1)) vs g c t fun r => flatR r ∧ Q r := rfl
section
variable {X : Cx} {W : WX} {G : Hp} {tg iter elt : Expr} {ifs : List Expr} {scope : Scope} {own : List (Str × Nat)} {i : Nat} {g : WG} {c : WT} {t : WE} {pos : Pos}
theorem lcK_at {σ : L2.St} {H B : Hp} {QV : VK} {vs : List Nat} {env : Env} {fp : List Addr} {a : Addr} {od : Obj} {ks : List (Key × V)} {kvs : List (D × D)} {Q : R → Prop} (rr : RR X.K G B env fp σ H) (hσ : σ[i]? = some (some (.ref a))) (ha : H a = some (.frz od (.dK ks))) (rk : RepKV X.K B ks kvs)
    (hm : LcI env (kvs.map (·.1)) vs g c t Q) (hq : QOk X.K B H fp Q QV) : tLc (iKeys (tVar i)) (tDG X G vs g) (tDT X W0 G c) (tD X W0 G t) vs σ H QV := by
  have h : tD X W0 G (wLc (fun env Q E => Q (kvs.map (·.1))) vs g c t) σ H QV := ⟨B, env, fp, Q, noE, rr, hm, hq, xok0⟩
  obtain ⟨B1, env1, fp1, Q1, E1, rr1, q1, cont, _⟩ := lc_ok h
  exact ⟨_, hσ, a, od, rfl, .inl ⟨ks, ha, cont _ H B1 _ (.refl rr1.bh) (walk_keysD (B := B1) (kvs := kvs) ha rk.lenK fun i k v e => rk.keyAt e) q1⟩⟩
theorem lcK_ok {σ : L2.St} {H : Hp} {QV : VK} {vs : List Nat} (h : tD X W G (wLcK i vs g c t) σ H QV) :
    tLockE (tLc (iKeys (tVar i)) (tDG X G vs g) (tDT X W0 G c) (tD X W0 G t) vs) σ H QV ∨ tLc (iKeys (tVar i)) (tDG X G vs g) (tDT X W0 G c) (tD X W0 G t) vs σ H QV := by
  obtain ⟨B, env, fp, Q, E, rr, ⟨kvs, hi, hm⟩, hq, hx⟩ := h
  obtain ⟨v, g0, h1, h2, h3⟩ := rr.own.get hi
  cases h2 with
  | fro r =>
    obtain ⟨a, ks, rfl, sa, ta⟩ := r.dict_inv
    rcases sa with sa | ⟨o, sa⟩
    · refine .inl ⟨a, .dK ks, rr.bh _ _ sa, True.intro, fun od => ?_⟩
      refine lcK_at (rr.lockD sa) h1 upd_same (RepKV.lockD sa ta) hm fun v H' B' r e w ⟨fl, q⟩ => ?_
      refine ⟨e.same _ _ upd_same, ?_⟩
      cases r with
      | t o =>
        cases o with
        | lst ds =>
          obtain ⟨gg, w, ng, hg⟩ := w
          cases w with
          | lst hL ra =>
            rename_i L vs2
            have hL0 := (hg L (by simp)).1
            have hne : L ≠ a := fun e => by rw [e, upd_same] at hL0; cases hL0
            have hL1 : H L = none := by rw [upd_ne hne] at hL0; exact hL0
            have same : Le H (upd H' a (.dK ks)) := fun b o hb => by
              by_cases eb : b = a
              · subst eb
                have := rr.bh _ _ sa
                rw [upd_same, ← hb]; exact this.symm
              · rw [upd_ne eb]
                exact e.same b o (by rw [upd_ne eb]; exact hb)
            refine hq _ _ B (.t (.lst ds)) ⟨same, .refl _, rr.bh.trans same, fun _ _ _ n => n⟩ ⟨[L], .lst (by rw [upd_ne hne]; exact hL) (ra.flatB fl), by simp, fun b m => ?_⟩ q
            simp at m; subst m
            exact ⟨hL1, rr.bh.none hL1⟩
        | _ => exact fl.elim
      | _ => exact fl.elim
    · refine .inr (lcK_at rr h1 (rr.bh _ _ sa) ta hm fun v H' B' r e w ⟨fl, q⟩ => hq v H' B' r e w q)
theorem de_lcK (hv : PE X iter (tVar i)) (hc : X.calm = true) (hN : X.N.Nodup) {N : List Str} {sc : Scope} (ok : blkC N sc scope own = true) (eN : X.N = N) (eS : X.env.scope = sc)
    (hg : ∀ s H C cl fp, DG (Bk X scope s H C cl fp) G (own.map (·.2)) tg g) (ht : ∀ s H C cl fp, PTs (Bk X scope s H C cl fp) ifs (tDT X W0 G c)) (he : ∀ s H C cl fp, DE (Bk X scope s H C cl fp) W0 G elt t)
    (hs : ∀ x, foldedSetIterable iter X.env x = pure x) : DE X W G (.ListComp elt [⟨tg, iter, ifs, 0⟩] scope pos) (wLcK i (own.map (·.2)) g c t) := by
  have h1 := pe_lc (pos := pos) (g := tDG X G (own.map fun p : Str × Nat => p.2) g) (tt := tDT X W0 G c) (te := tD X W0 G t) hc hN (pi_keys (tg := tg) hv) (by subst eN eS; exact blkOk_by ok) hg ht he hs
  refine ⟨fun pins s σ H Q I w => ?_⟩
  rcases lcK_ok w with w | w
  · exact (pe_lock h1).run pins s σ H Q I w
  · exact h1.run pins s σ H Q I w
end
end DL

set_option Elab.async false
set_option linter.all false
set_option maxRecDepth 100000
set_option maxHeartbeats 1000000
/-! DLG: a def that is given a new list as its own. -/
namespace DL
open PySem L2 PyProof.Rows
def delH (H : Hp) (L : Addr) : Hp := fun a => if a = L then none else H a
theorem delH_same (H : Hp) (L : Addr) : delH H L L = none := if_pos rfl
theorem delH_ne {H : Hp} {L a : Addr} (h : a ≠ L) : delH H L a = H a := if_neg h
theorem delH_some {H : Hp} {L a : Addr} {o : HO} (h : delH H L a = some o) : H a = some o ∧ a ≠ L := by
  by_cases e : a = L
  · rw [e, delH_same] at h; cases h
  · rw [delH_ne e] at h; exact ⟨h, e⟩
/-- what a call of it asks: the first thing handed in is a list that nobody else has -/
def dspT (K : K0) (mg : Str → Option Value) (S : Spec) : Sp := fun vs H QV EX => ∃ B L items vs' xs ds Q E, vs = .ref L :: vs' ∧ H L = some (.lst items) ∧ B L = none ∧ Le B H ∧ RepAll K B items xs ∧ RepAll K B vs' ds ∧ S (.list xs :: ds) Q E ∧
  (∀ v H' B' r, Ext (delH H L) B H' B' → VOk K (delH H L) [] B' H' v r → r.st → Q r → QV v H') ∧ ∀ n cls H', E n → mg n = some cls → Le (delH H L) H' → EX cls none H'
def startT (N : List Str) (xs : List D) (ds : List D) : Env := some (.lst xs) :: (ds.map (fun d => some (.fro d)) ++ List.replicate (N.length - (ds.length + 1)) none)
section
variable {P : Program} {w : World} {K : K0} {mg : Str → Option Value} {base : Heap} {x qual : Str} {params : Arguments} {body : List Stmt} {scope : Scope} {dvs : List V} {kws : List (Str × V)} {f : Addr} {fd : FuncData} {N ps : List Str} {k : Nat} {S : Spec} {m : WS}
theorem fn_dT (F : FunD K x qual params body scope dvs kws f fd) (Sc : FnScope N ps scope) (len : ∀ ds Q E, S ds Q E → ds.length = ps.length)
    (der : ∀ (cdv : Value) (A : Around) (outer : List PySem.Env) (s : Shared) (H : Hp) (E : XK) (G : Hp), Room k (A.deeper (envOfC qual scope s.heap.objs.size f cdv)) →
      Takes (XB P w K mg base N qual scope f cdv A outer s H E) (fun cls d _ H => E cls d H) → PassesOwn (model P w) (XB P w K mg base N qual scope f cdv A outer s H E).A (XB P w K mg base N qual scope f cdv A outer s H E).env (XB P w K mg base N qual scope f cdv A outer s H E).xe →
      DSs (XB P w K mg base N qual scope f cdv A outer s H E) (fun cls d _ H => E cls d H) G body m)
    (wp : ∀ xs ds Q E, S (.list xs :: ds) Q E → m (enD Q E) (startT N xs ds)) : FnOk P w K mg base (L2.CX P w) (k + 1) f fd ps (dspT K mg S) := by
  refine F.ok Sc (fun vs H Q E h => ?_) fun cdv A outer s H vs QV EX hr h => ?_
  · obtain ⟨B, L, items, vs', xs, ds, Q', E', e, hL, bL, l, ri, r, hs, _⟩ := h
    have := len _ _ _ hs
    rw [e, List.length_cons, r.length]
    exact this
  · obtain ⟨B, L, items, vs', xs, ds, Q, E, ev, hL, bL, l, ri, r, hs, hq, hx⟩ := h
    subst ev
    let G : Hp := fun a => match B a with | none => delH H L a | some _ => none
    have gH : ∀ a o, G a = some o → H a = some o ∧ B a = none := fun a o q => by
      cases e : B a with
      | none => have : G a = delH H L a := by show (match B a with | none => delH H L a | some _ => none) = _; rw [e]
                rw [this] at q; exact ⟨(delH_some q).1, rfl⟩
      | some u => have : G a = none := by show (match B a with | none => delH H L a | some _ => none) = _; rw [e]
                  rw [this] at q; cases q
    have gN : ∀ a, B a = none → G a = delH H L a := fun a e => by show (match B a with | none => delH H L a | some _ => none) = _; rw [e]
    have bD : ∀ a u, B a = some u → delH H L a = some u := fun a u e => by
      rw [delH_ne (fun z => by rw [z, bL] at e; cases e)]
      exact l a u e
    refine ⟨_, der cdv A outer s H EX G hr (takes_of rfl rfl rfl rfl) (passes_of rfl), B, startT N xs ds, [L], enD Q E, ⟨l, fun a o q => (gH a o q).1, fun a o q => (gH a o q).2, ?_, by simp, fun a m => ?_⟩, wp xs ds Q E hs, ?_⟩
    · have h1 := ownEnv_start (K := K) (B := B) (H := H) (N.length - (ds.length + 1)) r
      have h2 := OwnEnv.some (f := [L]) (.lst hL ri) h1
      unfold startT L2.start
      rw [List.length_cons, r.length]
      have h3 : OwnEnv K B H (some (V.ref L) :: (vs'.map some ++ List.replicate (N.length - (ds.length + 1)) none)) (some (O.lst xs) :: (ds.map (fun d => some (O.fro d)) ++ List.replicate (N.length - (ds.length + 1)) none)) [L] := by simpa using h2
      exact h3
    · obtain rfl := List.mem_singleton.mp m
      exact ⟨bL, by rw [gN _ bL, delH_same]⟩
    · have fin : ∀ v H' B' r (f : List Addr), Le B B' → Le B' H' → Le G H' → (∀ a o, G a = some o → B' a = none) → (∀ a ∈ f, B' a = none ∧ G a = none) → f.Nodup →
          (match r with | .v d => Rep K B' v d | .t o => Own K B' H' v o f | .b _ => False) → Q r → QV v H' := fun v H' B' r f l1 l2 l3 l4 hf nf w q => by
        have e : Ext (delH H L) B H' B' := ⟨fun a o h => by
          cases eb : B a with
          | none => exact l3 a o (by rw [gN a eb]; exact h)
          | some u =>
            have : delH H L a = some u := bD a u eb
            rw [this] at h; cases h
            exact l2 _ _ (l1 _ _ eb), l1, l2, fun a o h n => l4 a o (by rw [gN a n]; exact h)⟩
        refine hq v H' B' r e ?_ ?_ q
        · cases r with
          | v d => exact w
          | t o =>
            refine ⟨f, w, nf, fun a m => ⟨?_, (hf a m).1⟩⟩
            have nb : B a = none := l1.none (hf a m).1
            rw [← gN a nb]; exact (hf a m).2
          | b o => exact w.elim
        · cases r with
          | v d => exact True.intro
          | t o => exact True.intro
          | b o => exact w.elim
      refine ⟨fun σ H' B' env fp l1 rr q => ?_, fun σ H' B' env fp l1 rr q => q.elim, fun σ H' B' env fp l1 rr q => q.elim, fun v H' B' r f l1 l2 l3 l4 hf nf w q => fin v H' B' r f l1 l2 l3 l4 hf nf w q, fun n cls σ H' B' env fp l1 rr en hm => ?_⟩
      · exact fin .non H' B' (.v .none) [] l1 rr.bh rr.gh rr.gb (by simp) (by simp) .non q
      · refine hx n cls H' en hm fun a o h => ?_
        cases eb : B a with
        | none => exact rr.gh a o (by rw [gN a eb]; exact h)
        | some u =>
          have : delH H L a = some u := bD a u eb
          rw [this] at h; cases h
          exact rr.bh _ _ (l1 _ _ eb)
end
def FnAtT (P : Program) (w : World) (K : K0) (mg : Str → Option Value) (base : Heap) (k : Nat) (x : Str) (ps : List Str) (S : Spec) : Prop :=
  ∃ (f : Addr) (fd : FuncData), mg x = some (.ref f) ∧ PySem.W.keepIn K (.ref f) = true ∧ FnOk P w K mg base (L2.CX P w) k f fd ps (dspT K mg S) ∧ Binds K fd ps []
section
variable {P : Program} {w : World} {K : K0} {mg : Str → Option Value} {base : Heap} {x qual : Str} {params : Arguments} {body : List Stmt} {scope : Scope} {f : Addr} {fd : FuncData} {N ps : List Str} {k : Nat} {S : Spec} {m : WS}
theorem fnAtT (F : FunD K x qual params body scope [] [] f fd) (g : mg x = some (.ref f)) (Sc : FnScope N ps scope)
    (hb : ∀ (kV doc pm : Value) (an : Option Addr) (cdv ct : Value) (us : List Value), us.length = ps.length → bindArgs (PySem.W.fnOf x qual params body scope .none kV doc pm an cdv ct) ⟨us, []⟩ = pure (ps.zip us))
    (len : ∀ ds Q E, S ds Q E → ds.length = ps.length)
    (der : ∀ (cdv : Value) (A : Around) (outer : List PySem.Env) (s : Shared) (H : Hp) (E : XK) (G : Hp), Room k (A.deeper (envOfC qual scope s.heap.objs.size f cdv)) →
      Takes (XB P w K mg base N qual scope f cdv A outer s H E) (fun cls d _ H => E cls d H) → PassesOwn (model P w) (XB P w K mg base N qual scope f cdv A outer s H E).A (XB P w K mg base N qual scope f cdv A outer s H E).env (XB P w K mg base N qual scope f cdv A outer s H E).xe →
      DSs (XB P w K mg base N qual scope f cdv A outer s H E) (fun cls d _ H => E cls d H) G body m)
    (wp : ∀ xs ds Q E, S (.list xs :: ds) Q E → m (enD Q E) (startT N xs ds)) : FnAtT P w K mg base (k + 1) x ps S :=
  ⟨f, fd, g, F.kp, fn_dT F Sc len der wp, F.bindsN hb⟩
end
/-- a call that gives a new list away -/
def wCallT (S : Spec) (m0 : WE) (ms : WA) : WE := fun env Q E => m0 env (fun r0 => ∃ xs, r0 = .t (.lst xs) ∧ ms env (fun rs => allSt rs ∧ S (.list xs :: rs.map R.d) Q E) E) E
theorem tlst_iff (xs : List D) (P : List D → Prop) : (∃ ys, R.t (.lst xs) = R.t (.lst ys) ∧ P ys) = P xs := by
  apply propext
  exact ⟨fun ⟨ys, e, p⟩ => by cases e; exact p, fun p => ⟨xs, rfl, p⟩⟩
section
variable {X : Cx} {W : WX} {G : Hp} {k j : Nat} {ps : List Str} {S : Spec} {x : Str} {p pos : Pos} {e : Expr} {es : List Expr} {m0 : WE} {ms : WA}
theorem callT_ok {σ : L2.St} {H : Hp} {QV : VK} (h : tD X W G (wCallT S m0 ms) σ H QV) : tCallSD (dspT X.K X.mg S) [] (fun σ cls d H => W cls d σ H) (tCons (tD X W G m0) (tDA X W G ms)) σ H QV := by
  obtain ⟨B, env, fp, Q, E, rr, hm, hq, hx⟩ := h
  refine ⟨B, env, fp, _, E, rr, hm, fun v H1 B1 r0 e1 w0 ⟨xs, er, h2⟩ => ?_, hx⟩
  subst er
  obtain ⟨g, own, ng, hg⟩ := w0
  cases own with
  | lst hL ra =>
    rename_i L items
    refine ⟨B1, env, fp, _, E, rr.ext e1, h2, fun vs H2 B2 rs e2 va ⟨ha, hs⟩ => ?_, hx.later e1.same⟩
    have hL0 := (hg L (by simp)).1
    have e12 := e1.trans e2
    have keep : ∀ a o, H a = some o → delH H2 L a = some o := fun a o h => by
      rw [delH_ne (fun z => by rw [z, hL0] at h; cases h)]
      exact e12.same a o h
    refine ⟨B2, L, items, vs ++ [], xs, _, Q, E, rfl, e2.same _ _ hL, e2.new L _ hL (hg L (by simp)).2, e2.bh, ra.mono e2.le, by rw [List.append_nil]; exact va.reps ha, hs, fun v H' B' r e3 w3 st q => ?_, fun n cls H' en hm l => hx n cls H' en hm fun a o h => l a o (keep a o h)⟩
    refine hq v H' B' r ⟨fun a o h => e3.same a o (keep a o h), e12.le.trans e3.le, e3.bh, fun a o h n => e3.new a o (keep a o h) (e12.new a o h n)⟩ ?_ q
    cases r with
    | v d => exact w3
    | t o =>
      obtain ⟨g', w', ng', hg'⟩ := w3
      refine ⟨g', w', ng', fun a m => ⟨?_, (hg' a m).2⟩⟩
      cases z : H a with
      | none => rfl
      | some o => have := (hg' a m).1; rw [keep a o z] at this; cases this
    | b o => exact st.elim
theorem de_callT (F : FnAtT X.prog X.w X.K X.mg X.base k x ps S) (hr : Room j X.A) (hk : k ≤ j) (hg : Gl X x) (tk : Takes X W) (h0 : DE X W G e m0) (ha : DA X W G es ms) (hs : starEach (e :: es) X.env = (false, eval e X.env) :: starEach es X.env) (hdb : (x == ("__debug__" : Str)) = false)
    (hpl : (backTo pos (starEach es X.env)).any (·.1) = false) : DE X W G (.Call (.Name x p) (e :: es) [] pos) (wCallT S m0 ms) := by
  obtain ⟨f, fd, hm, hkp, F, hb⟩ := F
  exact PEi (pe_callSD (E := fun σ cls d H => W cls d σ H) F (hr.mono hk) hg hm hkp hb .nil (fun σ => passAt tk σ) (pa_cons h0 ha hs) hdb hs hpl) fun _ _ _ h => callT_ok h
end
section
variable {N : List Str} {m : WS}
theorem sp3_wT {f} (h : ∀ xs b c Q E, f (.list xs) b c Q E → m (enD Q E) (startT N xs [b, c])) (xs ds : List D) (Q : R → Prop) (E : Str → Prop) (x : sp3 f (.list xs :: ds) Q E) : m (enD Q E) (startT N xs ds) := by
  match ds, x with
  | [_, _], x => exact h _ _ _ _ _ x
theorem sp2_wT {f} (h : ∀ xs b Q E, f (.list xs) b Q E → m (enD Q E) (startT N xs [b])) (xs ds : List D) (Q : R → Prop) (E : Str → Prop) (x : sp2 f (.list xs :: ds) Q E) : m (enD Q E) (startT N xs ds) := by
  match ds, x with
  | [_], x => exact h _ _ _ _ x
theorem sp1_wT {f} (h : ∀ xs Q E, f (.list xs) Q E → m (enD Q E) (startT N xs [])) (xs ds : List D) (Q : R → Prop) (E : Str → Prop) (x : sp1 f (.list xs :: ds) Q E) : m (enD Q E) (startT N xs ds) := by
  match ds, x with
  | [], x => exact h _ _ _ x
end
end DL

set_option Elab.async false
set_option linter.all false
set_option maxRecDepth 100000
set_option maxHeartbeats 1000000
/-! DLJ: enumerate over a tuple; enumerate over a text from a start that is given by name. -/
namespace DL
open PySem L2 PyProof.Rows
section
variable {prog : Program} {w : World} {A : Around} {E : Value → Shared → Prop} {s : Shared}
theorem new_enum1 {v : Value} {o : Obj} {H : Heap → Prop} (B : Begins v o H) :
    Meets (Builtin.«enumerate.__new__» ⟨[.type "enumerate", v], []⟩) (fun _ R s => H s.heap ∧
      R (.ok (.ret (.ref (s.heap.push o).objs.size))) { s with heap := (s.heap.push o).push { cls := .type "enumerate", data := .fields #[.none, .bool false, .ref s.heap.objs.size, rawInt 0, .none, .none] } }) :=
  .of_wp fun prog w A R s h => by
    obtain ⟨hp, g, d, tk, os⟩ := s; obtain ⟨h1, h⟩ := h
    have hsub := sub_enumerate
    have q1 : ∀ {A' : Around} {E : Value → Shared → Prop} {Q : Value → Shared → Prop}, Q (.ref hp.objs.size) ⟨hp.push o, g, d, tk, os⟩ → wpAny (model prog w) A' (pyIter v) Q E ⟨hp, g, d, tk, os⟩ :=
      fun q => B.iter prog w _ _ ⟨hp, g, d, tk, os⟩ _ h1 q
    wp_walk using q1
    refine wpAny_stack_any fun st => wpAny_pure ?_
    split
    · rename_i c _ _ _ _ _
      cases (c == Value.type "enumerate")
      · wp_walk using q1
        exact ⟨_, rfl, h⟩
      · wp_walk using q1
        exact ⟨_, rfl, h⟩
    · wp_walk using q1
      exact ⟨_, rfl, h⟩
theorem enum_begins1 {v : Value} {o : Obj} {H : Heap → Prop} {Q : Value → Shared → Prop} (B : Begins v o H) (h1 : H s.heap)
    (h : ∀ h', IsEnum h' (s.heap.objs.size + 1) s.heap.objs.size 0 .none → h'.get? s.heap.objs.size = some o → h'.objs.size = s.heap.objs.size + 2 →
      (∀ b o, s.heap.get? b = some o → h'.get? b = some o) → Q (.ref (s.heap.objs.size + 1)) { s with heap := h' }) :
    wpAny (model prog w) A (call (.type "enumerate") [v]) Q E s := by
  refine callType_new F.called_enumerate (by decide) (F.typeCall_enumerate_1 _) (F.newCall_enumerate_1 _) (fun obj => F.args_object_init_2 obj _) F.entry_enumerate_new (new_enum1 B) ⟨h1, ?_⟩
  have hz : (s.heap.push o).objs.size = s.heap.objs.size + 1 := Heap.size_push ..
  show _ ∧ _
  rw [hz]
  have he : IsEnum ((s.heap.push o).push { cls := .type "enumerate", data := .fields #[.none, .bool false, .ref s.heap.objs.size, rawInt 0, .none, .none] }) (s.heap.objs.size + 1) s.heap.objs.size 0 .none := by
    have := Heap.get?_push_size (s.heap.push o) (o := { cls := .type "enumerate", data := .fields #[.none, .bool false, .ref s.heap.objs.size, rawInt 0, .none, .none] }) rfl
    rw [hz] at this; exact this
  refine ⟨⟨_, he, rfl⟩, h _ he (Heap.get?_push_of_some _ (Heap.get?_push_size _ B.free)) (by rw [Heap.size_push, hz]) fun b o x => Heap.get?_push_of_some _ (Heap.get?_push_of_some _ x)⟩
theorem callWith_typeK {M : Model} {env : PySem.Env} {pos : Pos} {T : String} {e : Expr} {rest : List Expr} {kws : List Keyword} {Q : Value → Shared → Prop}
    (h : wpAny M A (spliced (backTo pos (starEach (e :: rest) env))) (fun vs s₁ => wpAny M A (evalAll ((backToKw pos (keywordEach kws env)).map (·.2)))
      (fun kvs s₂ => wpAny M A (call (.type T) vs (((backToKw pos (keywordEach kws env)).filterMap (·.1)).zip kvs)) Q E s₂) E s₁) E s)
    (he : backTo pos (starEach (e :: rest) env) = (false, eval e env) :: backTo pos (starEach rest env))
    (hplain : (backTo pos (starEach (e :: rest) env)).any (·.1) = false)
    (hall : (backToKw pos (keywordEach kws env)).all (·.1.isSome) = true)
    (hkw : (backToKw pos (keywordEach kws env)).any (·.1.isNone) = false) :
    wpAny M A (callWith pos (.type T) [] (backTo pos (starEach (e :: rest) env)) (backToKw pos (keywordEach kws env))) Q E s := by
  unfold callWith
  have key : wpAny M A (evalArgs (.type T) true (backTo pos (starEach (e :: rest) env)) (backToKw pos (keywordEach kws env))) (fun a s₁ => wpAny M A (call (.type T) ([] ++ a.pos) a.kw) Q E s₁) E s := by
    rw [he] at h ⊢
    exact evalArgs_kwB hall h
  refine wpAny_bind (wpAny_holding (wpAny_mono key (fun a s₁ h₁ => wpAny_bind (wpAny_standAt ?_)) fun _ _ x => x))
  simp only [hplain, hkw, Bool.or_false]
  refine wpAny_bind (wpAny_pure ?_)
  exact wpAny_bind (wpAny_mono h₁ (fun r s₂ hr => wpAny_bind (wpAny_holding (wpAny_point (wpAny_pure hr)))) fun _ _ x => x)
end
/-- a tuple, each item in a new pair with its number -/
def Itte (K : PySem.W.Frag) (a : Addr) (n : Nat) : It :=
  ⟨fun i H => i < n ∧ ∃ (xs : List V) (x : V), SqT K H a xs ∧ xs[i]? = some x, fun i H v H' => ∃ T x, v = .ref T ∧ H T = none ∧ H' = upd H T (.tup [.int (i : Nat), x]) ∧ ∀ xs, SqT K H a xs → xs[i]? = some x, fun i H => n ≤ i ∧ ∃ xs : List V, SqT K H a xs ∧ xs.length = n⟩
/-- a text, each sign in a new pair with its number -/
def Itse (k : Int) (x : Str) : It :=
  ⟨fun i _ => i < x.cps.size, fun i H v H' => ∃ T c, v = .ref T ∧ H T = none ∧ H' = upd H T (.tup [.int (k + (i : Nat)), .str ⟨#[c]⟩]) ∧ x.cps[i]? = some c, fun i _ => x.cps.size ≤ i⟩
theorem turn_enumS {P : Program} {w : World} {K : PySem.W.Frag} {elts : List Expr} {kk : Nat} {tpos : Pos} (k : Int) (x : Str) (t : Tok) (e it : Addr) :
    Turn P w K (.Tuple elts kk tpos) (Itse k x) [e, it] e (fun i h => (∃ old, IsEnum h e it (k + ((i : Nat) : Int)) old) ∧ h.IsStrIter it (strIterType x) x t i ∧ e ≠ it ∧ i ≤ x.cps.size) where
  mem := by simp
  obj := fun i h st b hb => by
    obtain ⟨⟨old, he⟩, ⟨o, ho, hc, hd⟩, _, _⟩ := st
    have e' : b = e ∨ b = it := by simpa using hb
    rcases e' with z | z
    · rw [z]; exact ⟨_, he, fun v q => nomatch q⟩
    · rw [z]; exact ⟨o, ho, fun v q => by rw [hd] at q; cases q⟩
  keep := fun i h h' st kp => let ⟨⟨old, he⟩, ⟨o, ho, r⟩, hne, hle⟩ := st; ⟨⟨old, kp e (by simp) _ he⟩, ⟨o, kp it (by simp) o ho, r⟩, hne, hle⟩
  item := by
    intro X hP hw hK hc i pins s σ H E I hf st hg
    subst hP hw hK
    obtain ⟨⟨old, he⟩, hit, hne, hle⟩ := st
    have hlt : i < x.cps.size := hg
    have D := Draws.text (prog := X.prog) (w := X.w) (A := X.A.in1) (I.ok.hd hc) it x t
    have hel : e < s.heap.objs.size := Heap.lt_size he
    have hil : it < s.heap.objs.size := by obtain ⟨_, q, _⟩ := hit; exact Heap.lt_size q
    refine wpAny_pyNext_enum_itemC D he hit hlt hne (by simpa using hne) fun v h' tk ⟨c, u, hx, ev⟩ ho hit' hT hsz hk => ?_
    subst ev
    refine ⟨_, rfl, wpAny_letOwnedTupleGo_enum (s := { s with heap := h', toks := tk + 1 }) ho fun h'' he' sb => ?_⟩
    have hT2 : h''.get? s.heap.objs.size = some { cls := .type "tuple", data := .seq #[.int (k + (i : Nat)) tk, .str ⟨#[c]⟩ u] } := (sb.2 _ (Nat.ne_of_gt hel)).trans hT
    have new : ObjOk X.prog X.w (upd H s.heap.objs.size (.tup [.int (k + (i : Nat)), .str ⟨#[c]⟩])) h'' s.heap.objs.size (.tup [.int (k + (i : Nat)), .str ⟨#[c]⟩]) :=
      ⟨by show 2 ≤ sizeLine; decide, [.int (k + (i : Nat)) tk, .str ⟨#[c]⟩ u], .cons ⟨_, rfl⟩ (.cons ⟨_, rfl⟩ .nil), ⟨_, hT2, rfl, _, rfl⟩⟩
    have I1 : Inv X pins σ (upd H s.heap.objs.size (.tup [.int (k + (i : Nat)), .str ⟨#[c]⟩])) { s with heap := h'', toks := tk + 1 } :=
      I.turnedNew (ch := [e, it]) (fun b ob hb q => (sb.2 b (fun z => hb (by simp [z]))).trans (hk b ob (fun z => hb (by simp [z])) (fun z => hb (by simp [z])) q)) hf (Nat.le_refl _) new
    refine ⟨.ref s.heap.objs.size, _, I1, rfl, ⟨_, c, rfl, I.hok.fresh (Nat.le_refl _), rfl, hx⟩, ⟨⟨.str ⟨#[c]⟩ u, ?_⟩, ?_, hne, hlt⟩, fun b hb => ?_⟩
    · have e1 : k + ((i + 1 : Nat) : Int) = k + (i : Int) + 1 := by omega
      rw [e1]; exact he'
    · obtain ⟨o, ho', r⟩ := hit'
      exact ⟨o, (sb.2 it (Ne.symm hne)).trans ho', r⟩
    · have hb' : b < s.heap.objs.size := by
        have e' : b = e ∨ b = it := by simpa using hb
        rcases e' with z | z
        · rw [z]; exact hel
        · rw [z]; exact hil
      rw [upd_ne (Nat.ne_of_lt hb')]
      exact (hf b hb).1
  done := by
    intro X hP hw hK hc i pins s σ H E I hf st hg
    subst hP hw hK
    obtain ⟨⟨old, he⟩, hit, hne, hle⟩ := st
    have hg : x.cps.size ≤ i := hg
    have hi : x.cps.size = i := Nat.le_antisymm hg hle
    obtain ⟨f0, f1, f2, f3, f4, f5⟩ := hf it (by simp)
    have D := Draws.text (prog := X.prog) (w := X.w) (A := X.A.in1) (I.ok.hd hc) it x t
    subst hi
    exact wpAny_pyNext_enum_endD D he hit fun h' eb => ⟨rfl, I.turned (t' := s.toks) (fun b o hb q => eb b o hb q) f0 f1 f3 f4 f5⟩
  self := fun A i s Q E st h => let ⟨⟨_, he⟩, _⟩ := st; wpAny_pyIter_enum he h
theorem turn_enumT {P : Program} {w : World} {K : PySem.W.Frag} {elts : List Expr} {kk : Nat} {tpos : Pos} (a e it : Addr) (n : Nat) :
    Turn P w K (.Tuple elts kk tpos) (Itte K a n) [e, it] e (fun i h => (∃ old, IsEnum h e it ((i : Nat) : Int) old) ∧ h.IsTupleIter it a i ∧ e ≠ it ∧ i ≤ n) where
  mem := by simp
  obj := fun i h st b hb => by
    obtain ⟨⟨old, he⟩, ⟨o, ho, hc, hd⟩, _, _⟩ := st
    have e' : b = e ∨ b = it := by simpa using hb
    rcases e' with z | z
    · rw [z]; exact ⟨_, he, fun v q => nomatch q⟩
    · rw [z]; exact ⟨o, ho, fun v q => by rw [hd] at q; cases q⟩
  keep := fun i h h' st kp => let ⟨⟨old, he⟩, hi, hne, hle⟩ := st; ⟨⟨old, kp e (by simp) _ he⟩, hi.at fun o q => kp it (by simp) o q, hne, hle⟩
  item := by
    intro X hP hw hK hc i pins s σ H E I hf st hg
    subst hP hw hK
    obtain ⟨⟨old, he⟩, hit, hne, hle⟩ := st
    obtain ⟨hlt0, xs, x, hq, hx⟩ := hg
    obtain ⟨its, rv, p, hz⟩ := I.tuple hq
    obtain ⟨u, hu, ru⟩ := rv.get hx
    have hel : e < s.heap.objs.size := Heap.lt_size he
    have hil : it < s.heap.objs.size := by obtain ⟨_, q, _⟩ := hit; exact Heap.lt_size q
    have pT : s.heap.IsTuple a its.toArray := p
    have hai : a ≠ it := fun z => by
      obtain ⟨o1, q1, c1, d1⟩ := hit
      obtain ⟨o2, q2, c2, n2, d2⟩ := pT
      rw [z, q1] at q2; cases q2
      rw [d1] at d2; cases d2
    have hae : a ≠ e := fun z => by
      obtain ⟨o2, q2, c2, n2, d2⟩ := pT
      have he2 : s.heap.get? e = _ := he
      rw [z, he2] at q2; cases q2
      cases d2
    have D := Draws.tuple (prog := X.prog) (w := X.w) (A := X.A.in1) (I.ok.hd hc) it a hai its.toArray
    have hlt : i < its.toArray.size := by
      have := (List.getElem?_eq_some_iff.mp hu).1
      simpa using this
    refine wpAny_pyNext_enum_itemC D he ⟨hit, pT⟩ hlt hne (by simpa using ⟨hne, Ne.symm hae⟩) fun v h' tk hv ho hit' hT hsz hk => ?_
    have hv : u = v := by
      have hv2 : its[i]? = some v := by simpa using hv
      rw [hu] at hv2; exact Option.some.inj hv2
    subst hv
    refine ⟨_, rfl, wpAny_letOwnedTupleGo_enum (s := { s with heap := h', toks := tk + 1 }) ho fun h'' he' sb => ?_⟩
    have hT2 : h''.get? s.heap.objs.size = some { cls := .type "tuple", data := .seq #[.int i tk, u] } := (sb.2 _ (Nat.ne_of_gt hel)).trans hT
    have new : ObjOk X.prog X.w (upd H s.heap.objs.size (.tup [.int (i : Nat), x])) h'' s.heap.objs.size (.tup [.int (i : Nat), x]) :=
      ⟨by show 2 ≤ sizeLine; decide, [.int i tk, u], .cons ⟨_, rfl⟩ (.cons ru .nil), ⟨_, hT2, rfl, _, rfl⟩⟩
    have I1 : Inv X pins σ (upd H s.heap.objs.size (.tup [.int (i : Nat), x])) { s with heap := h'', toks := tk + 1 } :=
      I.turnedNew (ch := [e, it]) (fun b ob hb q => (sb.2 b (fun z => hb (by simp [z]))).trans (hk b ob (fun z => hb (by simp [z])) (fun z => hb (by simp [z])) q)) hf (Nat.le_refl _) new
    refine ⟨.ref s.heap.objs.size, _, I1, rfl, ⟨_, x, rfl, I.hok.fresh (Nat.le_refl _), rfl, fun ys hy => by rw [I.tuple_inj hy hq]; exact hx⟩, ⟨⟨u, ?_⟩, hit'.1.at fun o q => (sb.2 it (Ne.symm hne)).trans q, hne, hlt0⟩, fun b hb => ?_⟩
    · have e1 : ((i + 1 : Nat) : Int) = (i : Int) + 1 := by omega
      rw [e1]; exact he'
    · have hb' : b < s.heap.objs.size := by
        have e' : b = e ∨ b = it := by simpa using hb
        rcases e' with z | z
        · rw [z]; exact hel
        · rw [z]; exact hil
      rw [upd_ne (Nat.ne_of_lt hb')]
      exact (hf b hb).1
  done := by
    intro X hP hw hK hc i pins s σ H E I hf st hg
    subst hP hw hK
    obtain ⟨⟨old, he⟩, hit, hne, hle⟩ := st
    obtain ⟨hge, xs, hq, hx⟩ := hg
    obtain ⟨its, rv, p, hz⟩ := I.tuple hq
    obtain ⟨f0, f1, f2, f3, f4, f5⟩ := hf it (by simp)
    have hl := rv.length
    have pT : s.heap.IsTuple a its.toArray := p
    have hai : a ≠ it := fun z => by
      obtain ⟨o1, q1, c1, d1⟩ := hit
      obtain ⟨o2, q2, c2, n2, d2⟩ := pT
      rw [z, q1] at q2; cases q2
      rw [d1] at d2; cases d2
    have D := Draws.tuple (prog := X.prog) (w := X.w) (A := X.A.in1) (I.ok.hd hc) it a hai its.toArray
    have hi : its.toArray.size = i := by simp; omega
    subst hi
    exact wpAny_pyNext_enum_endD D he ⟨hit, pT⟩ fun h' eb => ⟨rfl, I.turned (t' := s.toks) (fun b o hb q => eb b o hb q) f0 f1 f3 f4 f5⟩
  self := fun A i s Q E st h => let ⟨⟨_, he⟩, _⟩ := st; wpAny_pyIter_enum he h
def enumS (k : Int) (x : Str) : List D := x.cps.toList.mapIdx fun i c => PyData.tuple [.int (k + (i : Int)), .str ⟨#[c]⟩]
theorem walk_enumS {K : K0} {B : Hp} (k : Int) (x : Str) : Walk K B (Itse k x) (enumS k x) where
  go := fun i H B1 l1 l2 h => by
    have h : i < x.cps.size := by simpa [enumS] using h
    exact h
  stop := fun i H B1 l1 l2 h => by
    have h : x.cps.size ≤ i := by simpa [enumS] using h
    exact h
  yld := fun i H v H' B1 hlt l1 l2 ⟨T, c, e, n, e2, h⟩ => by
    subst e e2
    refine ⟨_, upd B1 T (.tup [.int (k + (i : Nat)), .str ⟨#[c]⟩]), by unfold enumS; rw [List.getElem?_mapIdx, Array.getElem?_toList, h]; rfl, .put l2 n _, .tup (.inl (.inl upd_same)) ?_ (.inr ⟨_, List.mem_cons_self, rfl⟩)⟩
    exact .cons (.int _) (.cons (.str _) .nil)
theorem walk_enumT {K : K0} {B : Hp} {a : Addr} {vs : List V} {ds : List D} (s : SqT K B a vs) (r : RepAll K B vs ds) : Walk K B (Itte K a vs.length) (enumD ds) where
  go := fun i H B1 l1 l2 h => by
    have h : i < ds.length := by simpa [enumD] using h
    have h1 : i < vs.length := by rw [r.length]; omega
    exact ⟨h1, vs, vs[i], (l1.trans l2).sqT s, by simp [h1]⟩
  stop := fun i H B1 l1 l2 h => by
    have h : ds.length ≤ i := by simpa [enumD] using h
    exact ⟨by rw [r.length]; exact h, vs, (l1.trans l2).sqT s, rfl⟩
  yld := fun i H x H' B1 hlt l1 l2 ⟨T, x1, e, n, e2, y⟩ => by
    subst e e2
    obtain ⟨d, h1, h2⟩ := r.getV (y vs ((l1.trans l2).sqT s))
    refine ⟨_, upd B1 T (.tup [.int (i : Nat), x1]), by unfold enumD; rw [List.getElem?_mapIdx, h1]; rfl, .put l2 n _, .tup (.inl (.inl upd_same)) ?_ (.inr ⟨_, List.mem_cons_self, rfl⟩)⟩
    exact .cons (.int _) (.cons ((h2.mono l1).mono (Ext.put l2 n (HO.tup [.int (i : Nat), x1])).le) .nil)
section
variable {X : Cx} {W : WX} {G : Hp} {a b : Expr} {ma mb : WE} {p pos tpos kpos : Pos} {elts : List Expr} {kk : Nat}
def iEnumT (K : PySem.W.Frag) (ta : TA) : TI := fun σ H R => ta σ H fun vs H1 => ∃ a xs, vs = [.ref a] ∧ SqT K H1 a xs ∧ R (Itte K a xs.length) H1
theorem pi_enumT {e : Expr} {ta : TA} (hg : Gl X "enumerate") (hm : X.mg "enumerate" = none) (ha : PA X [e] ta) (hs : starEach [e] X.env = [(false, eval e X.env)]) :
    PI X (.Tuple elts kk tpos) (.Call (.Name "enumerate" p) [e] [] pos) (iEnumT X.K ta) := by
  refine ⟨fun pins s σ H R I h => ?_⟩
  refine Call_ (ld_blt I hg hm boot_enumerate (PyProof.Rows.callWith_type1 (thn (ha.run pos pins s σ H _ I h) fun us s1 ⟨vs, H1, I1, r1, q1⟩ => ?_) hs rfl))
  obtain ⟨a, xs, ex, hq, q⟩ := q1
  subst ex
  cases r1 with
  | cons r rr =>
    cases rr
    cases r
    obtain ⟨its, rv, p', hz⟩ := I1.tuple hq
    refine enum_begins1 (begins_tuple a its.toArray) p' fun h' he hit hsz hk => wpAny_pyIter_enum he ?_
    have I2 : Inv X pins σ H1 { s1 with heap := h' } := I1.kept (t' := s1.toks) hk
    refine ⟨s1.heap.objs.size + 1, [s1.heap.objs.size + 1, s1.heap.objs.size], _, _, H1, rfl, I2, turn_enumT a (s1.heap.objs.size + 1) s1.heap.objs.size xs.length, ⟨⟨.none, he⟩, ⟨_, hit, rfl, rfl⟩, Nat.succ_ne_self _, Nat.zero_le _⟩, fun b hb => ?_, q⟩
    have e' : b = s1.heap.objs.size + 1 ∨ b = s1.heap.objs.size := by simpa using hb
    have hle : s1.heap.objs.size ≤ b := by
      rcases e' with z | z
      · rw [z]; exact Nat.le_add_right _ _
      · rw [z]; exact Nat.le_refl _
    exact I1.fpOk hle (I1.hok.fresh hle)
def iEnumS (ta tk : TA) : TI := fun σ H R => ta σ H fun vs H1 => tk σ H1 fun ws H2 => ∃ x k, vs = [.str x] ∧ ws = [.int k] ∧ -(2 ^ 63) ≤ k ∧ k < 2 ^ 63 ∧ R (Itse k x) H2
theorem pi_enumS {e f : Expr} {ta tk : TA} (hg : Gl X "enumerate") (hm : X.mg "enumerate" = none) (ha : PA X [e] ta) (hk : PK X [⟨some "start", f, kpos⟩] tk)
    (he : backTo pos (starEach [e] X.env) = (false, eval e X.env) :: backTo pos (starEach [] X.env)) (hpl : (backTo pos (starEach [e] X.env)).any (·.1) = false)
    (hall : (backToKw pos (keywordEach [⟨some "start", f, kpos⟩] X.env)).all (·.1.isSome) = true) (hno : (backToKw pos (keywordEach [⟨some "start", f, kpos⟩] X.env)).any (·.1.isNone) = false) (hks : (backToKw pos (keywordEach [⟨some "start", f, kpos⟩] X.env)).filterMap (·.1) = [Str.ofString "start"]) :
    PI X (.Tuple elts kk tpos) (.Call (.Name "enumerate" p) [e] [⟨some "start", f, kpos⟩] pos) (iEnumS ta tk) := by
  refine ⟨fun pins s σ H R I h => ?_⟩
  refine wpAny_Call_Name_kw (ld_blt I hg hm boot_enumerate (callWith_typeK (thn (ha.run pos pins s σ H _ I h) fun us s1 ⟨vs, H1, I1, r1, q1⟩ => thn (hk.run pos pins s1 σ H1 _ I1 q1) fun ws s2 ⟨zs, H2, I2, r2, q2⟩ => ?_) he hpl hall hno))
  obtain ⟨x, k, ex, ez, k1, k2, q⟩ := q2
  subst ex ez
  rw [hks]
  cases r1 with
  | cons r rr =>
    cases rr
    obtain ⟨t, rfl⟩ := r
    cases r2 with
    | cons r rr =>
      cases rr
      obtain ⟨t2, rfl⟩ := r
      refine enum_begins_start (begins_text x t) trivial k1 k2 fun h' he hit hsz hk => wpAny_pyIter_enum he ?_
      have I3 : Inv X pins σ H2 { s2 with heap := h' } := I2.kept (t' := s2.toks) hk
      refine ⟨s2.heap.objs.size + 1, [s2.heap.objs.size + 1, s2.heap.objs.size], _, _, H2, rfl, I3, turn_enumS k x t (s2.heap.objs.size + 1) s2.heap.objs.size, ⟨⟨.none, ?_⟩, ⟨_, hit, rfl, rfl⟩, Nat.succ_ne_self _, Nat.zero_le _⟩, fun b hb => ?_, q⟩
      · rw [show k + ((0 : Nat) : Int) = k from by omega]; exact he
      have e' : b = s2.heap.objs.size + 1 ∨ b = s2.heap.objs.size := by simpa using hb
      have hle : s2.heap.objs.size ≤ b := by
        rcases e' with z | z
        · rw [z]; exact Nat.le_add_right _ _
        · rw [z]; exact Nat.le_refl _
      exact I2.fpOk hle (I2.hok.fresh hle)
def wiEnumT (p : WE) : WI := fun env Q E => p env (fun x => x.st ∧ ∃ ds, x.d = .tuple ds ∧ Q (enumD ds)) E
theorem di_enumT (hg : Gl X "enumerate") (hm : X.mg "enumerate" = none) (ha : DE X W G a ma) (hs : starEach [a] X.env = [(false, eval a X.env)] := by rfl) (hs2 : starEach [a] X.env = (false, eval a X.env) :: starEach [] X.env := by rfl) :
    DI X W G (.Tuple elts kk tpos) (.Call (.Name "enumerate" p) [a] [] pos) (wiEnumT ma) := by
  refine PIi (pi_enumT hg hm (pa_cons ha pa_nil hs2) hs) fun σ H R ⟨B, env, fp, Q, E, rr, hm, hq, hx⟩ => ?_
  refine ⟨B, env, fp, _, E, rr, hm, fun v H1 B1 r e1 w ⟨s, ds, ed, q⟩ => ?_, hx⟩
  obtain ⟨B2, e2, l2, rp⟩ := w.keep e1 s
  rw [ed] at rp
  obtain ⟨a, vs, ev, sv, t⟩ := rp.tup_inv
  subst ev
  exact ⟨a, vs, rfl, e2.bh.sqT sv, hq _ H1 B2 _ e2 (walk_enumT sv t) q⟩
def wiEnumS (p q : WE) : WI := fun env Q E => p env (fun x => x.st ∧ q env (fun y => ∃ t k, x.d = .str t ∧ y.d = .int k ∧ -(2 ^ 63) ≤ k ∧ k < 2 ^ 63 ∧ Q (enumS k t)) E) E
theorem di_enumS (hg : Gl X "enumerate") (hm : X.mg "enumerate" = none) (ha : DE X W G a ma) (hb : DE X W G b mb) (he : backTo pos (starEach [a] X.env) = (false, eval a X.env) :: backTo pos (starEach [] X.env) := by rfl)
    (hs2 : starEach [a] X.env = (false, eval a X.env) :: starEach [] X.env := by rfl)
    (hpl : (backTo pos (starEach [a] X.env)).any (·.1) = false := by rfl) (hall : (backToKw pos (keywordEach [⟨some "start", b, kpos⟩] X.env)).all (·.1.isSome) = true := by rfl) (hno : (backToKw pos (keywordEach [⟨some "start", b, kpos⟩] X.env)).any (·.1.isNone) = false := by rfl) (hks : (backToKw pos (keywordEach [⟨some "start", b, kpos⟩] X.env)).filterMap (·.1) = [Str.ofString "start"] := by rfl) :
    DI X W G (.Tuple elts kk tpos) (.Call (.Name "enumerate" p) [a] [⟨some "start", b, kpos⟩] pos) (wiEnumS ma mb) := by
  refine PIi (pi_enumS hg hm (pa_cons ha pa_nil hs2) (pk_cons hb pk_nil) he hpl hall hno hks) fun σ H R ⟨B, env, fp, Q, E, rr, hm, hq, hx⟩ => ?_
  refine ⟨B, env, fp, _, E, rr, hm, fun v H1 B1 r e1 w ⟨s, q1⟩ => ?_, hx⟩
  have hv := w.now e1
  obtain ⟨B2, e2, l2, rp⟩ := w.keep e1 s
  refine ⟨B2, env, fp, _, E, rr.ext e2, q1, fun v2 H3 B3 r2 e3 w2 ⟨t, k, e4, e5, k1, k2, q⟩ => ?_, hx.later e2.same⟩
  rw [e4] at hv
  have hv2 := w2.now e3
  rw [e5] at hv2
  exact ⟨t, k, by rw [hv.str_inv], by rw [hv2.int_inv], k1, k2, hq _ H3 B3 _ (e2.trans e3) (walk_enumS k t) q⟩
end
section
variable {P : Program} {w : World} {K : K0} {mg : Str → Option Value} {base : Heap} {x qual : Str} {params : Arguments} {body : List Stmt} {scope : Scope} {dvs : List V} {f : Addr} {fd : FuncData} {N ps : List Str} {k : Nat} {S : Spec} {m : WS}
/-- a def with defaults, n values written, the defaults from j on fill up -/
theorem fnAtJ (F : FunD K x qual params body scope dvs [] f fd) (hd : dvs ≠ []) (n j : Nat) (hn : n + (dvs.length - j) = ps.length) (g : mg x = some (.ref f)) (Sc : FnScope N ps scope)
    (hb : ∀ (T : Addr) (kV doc pm : Value) (an : Option Addr) (cdv ct : Value) (us its : List Value), us.length = n → its.length = dvs.length →
      ∃ k, bindArgs (PySem.W.fnOf x qual params body scope (.ref T) kV doc pm an cdv ct) ⟨us, []⟩ = seqItems? (.ref T) >>= k ∧ k (some its.toArray) = pure (ps.zip (us ++ its.drop j)))
    (len : ∀ ds Q E, S ds Q E → ds.length = ps.length)
    (der : ∀ (cdv : Value) (A : Around) (outer : List PySem.Env) (s : Shared) (H : Hp) (E : XK) (G : Hp), Room k (A.deeper (envOfC qual scope s.heap.objs.size f cdv)) →
      Takes (XB P w K mg base N qual scope f cdv A outer s H E) (fun cls d _ H => E cls d H) → PassesOwn (model P w) (XB P w K mg base N qual scope f cdv A outer s H E).A (XB P w K mg base N qual scope f cdv A outer s H E).env (XB P w K mg base N qual scope f cdv A outer s H E).xe →
      DSs (XB P w K mg base N qual scope f cdv A outer s H E) (fun cls d _ H => E cls d H) G body m)
    (wp : ∀ ds Q E, S ds Q E → m (enD Q E) (startD N ds)) : FnAt P w K mg base (k + 1) x ps (dvs.drop j) S := by
  obtain ⟨ds, hv, hb⟩ := F.binds1 n j hd hn hb
  exact ⟨f, fd, ds, g, F.kp, fn_d F Sc len der wp, hb, hv⟩
end
section
variable {K : K0} {h : Heap} {mg : Str → Option Value} {fa : List He.Fa} {fn : List He.DefD}
theorem fun_ofN (X : K.In h) (G : h.Ns mainGlobals mg) (c : He.SaysD fa fn K) {x : Str} {st : Stmt} (i j : Nat) (hi : fn[i]? = some ⟨(x, none), x, x, defArgs st, defBody st, defScope st, [.non], []⟩) (hj : fa[j]? = some (.glo x)) :
    ∃ (f : Addr) (fd : FuncData), FunD K x x (defArgs st) (defBody st) (defScope st) [.non] [] f fd ∧ mg x = some (.ref f) := by
  obtain ⟨fd, F⟩ := c.def_ i hi
  exact ⟨_, fd, F, He.glo_ok X G (c.fact j hj)⟩
end
end DL

set_option Elab.async false
set_option linter.all false
set_option maxRecDepth 100000
set_option maxHeartbeats 2000000
/-! DLB: a text joined from a list turned round. -/
namespace DL
open PySem L2 PyProof.Rows
section
variable {prog : Program} {w : World} {A : Around} {E : Value → Shared → Prop} {s : Shared}
theorem iadd_rev {R : Result → Shared → Prop} {S it l : Addr} {items : Array Value} (hh : A.handled = none) (hit : s.heap.IsRevIter it l ((items.size : Int) - 1)) (hl : s.heap.IsList l items) (hne : l ≠ it) (hn : items.size ≤ sizeLine)
    (hSi : S ≠ it) (hSl : S ≠ l) (c₀ : Nat) (hS : s.heap.get? S = some { cls := .type "list", data := .seq #[] c₀ })
    (hR : ∀ h' tk acc' c', (∀ b o, b ≠ S → b ≠ it → s.heap.get? b = some o → h'.get? b = some o) → h'.get? S = some { cls := .type "list", dict := none, data := .seq acc' c', slots := #[] } → ItemsOf (fun i v => items[items.size - 1 - i]? = some v) acc' items.size → R (.ok (.ret (.ref S))) { s with heap := h', toks := tk }) :
    codeAny (model prog w) A (.builtin "list.__iadd__" ⟨[.ref S, .ref it], []⟩) R s := by
  refine codeAny_builtin PySem.F.entry_list_iadd ?_
  rw [Around.under_plainId PySem.F.plain_list_iadd _]
  exact rev_extend (A := A) hh hit hl hne hn S hSi hSl _ c₀ hS hR
theorem collect_rev {it l : Addr} {items : Array Value} {Q : List Value → Shared → Prop} (hh : A.handled = none) (hit : s.heap.IsRevIter it l ((items.size : Int) - 1)) (hl : s.heap.IsList l items) (hne : l ≠ it) (hn : items.size ≤ sizeLine)
    (hQ : ∀ h' tk acc', (∀ b o, b ≠ it → s.heap.get? b = some o → h'.get? b = some o) → ItemsOf (fun i v => items[items.size - 1 - i]? = some v) acc' items.size → Q acc'.toList { s with heap := h', toks := tk }) :
    wpAny (model prog w) A (collect (.ref it)) Q E s := by
  obtain ⟨oi, hoi, _⟩ := id hit
  obtain ⟨ol, hol, _⟩ := id hl
  have hSi : s.heap.objs.size ≠ it := Nat.ne_of_gt (Heap.lt_size hoi)
  have hSl : s.heap.objs.size ≠ l := Nat.ne_of_gt (Heap.lt_size hol)
  unfold collect
  refine wpAny_bind (wpAny_runValue (codeAny_builtin PySem.F.entry_proto_collect ?_))
  rw [Around.under_plainId PySem.F.plain_proto_collect _]
  show wpAny _ A.in1 (newList [] >>= fun l => again (.builtin "list.__iadd__" ⟨[l, .ref it], []⟩)) _ _ s
  refine wpAny_bind (wpAny_newObj_type ?_)
  have hS : (s.heap.push { cls := .type "list", data := .seq ([] : List Value).toArray }).get? s.heap.objs.size = some { cls := .type "list", data := .seq ([] : List Value).toArray } := Heap.get?_push_size _ rfl
  refine wpAny_pure ⟨plainId_quiet PySem.F.plain_list_iadd _, iadd_rev (s := { s with heap := s.heap.push { cls := .type "list", data := .seq ([] : List Value).toArray } }) hh (hit.at fun o e => Heap.get?_push_of_some _ e) (hl.at fun o e => Heap.get?_push_of_some _ e) hne hn hSi hSl _ hS fun h' tk acc' c' hk hS' hacc => ?_⟩
  show wpAny _ A (load s.heap.objs.size >>= _) _ _ _
  refine wpAny_bind (wpAny_load hS' ?_)
  exact wpAny_pure (hQ h' tk acc' (fun b o hi e => hk b o (Nat.ne_of_lt (Heap.lt_size e)) hi (Heap.get?_push_of_some _ e)) hacc)
theorem rev_items {items acc : Array Value} (hi : ItemsOf (fun i v => items[items.size - 1 - i]? = some v) acc items.size) : acc.toList = items.toList.reverse := by
  apply List.ext_getElem?
  intro j
  have hs : acc.size = items.size := hi.1
  by_cases hj : j < items.size
  · have h1 : acc[j]? = some (acc[j]'(by omega)) := Array.getElem?_eq_getElem (by omega)
    have h2 := hi.2 j _ h1
    rw [Array.getElem?_toList, h1, ← h2, List.getElem?_reverse (by simpa using hj), Array.length_toList, Array.getElem?_toList]
  · rw [List.getElem?_eq_none (by rw [Array.length_toList]; omega), List.getElem?_eq_none (by rw [List.length_reverse, Array.length_toList]; omega)]
theorem strsAre_rev {us : List Value} {ys : List Str} (h : StrsAre us ys) : StrsAre us.reverse ys.reverse := by
  obtain ⟨l, hv, ht⟩ := strsAre_values h
  subst hv ht
  have : StrsAre (strValues l.reverse) (l.reverse.map (·.1)) := by
    generalize l.reverse = r
    induction r with
    | nil => exact .nil
    | cons p r ih => constructor; exact ih
  have e1 : (strValues l).reverse = strValues l.reverse := by unfold strValues; rw [List.map_reverse]
  have e2 : (l.map (·.1)).reverse = l.reverse.map (·.1) := by rw [List.map_reverse]
  rw [e1, e2]; exact this
theorem call_join_rev {x : Str} {t : Tok} {it l : Addr} {items : Array Value} {ys : List Str} {Q : Value → Shared → Prop} (hh : A.handled = none) (hit : s.heap.IsRevIter it l ((items.size : Int) - 1)) (hl : s.heap.IsList l items) (hne : l ≠ it) (hn : items.size ≤ sizeLine)
    (hi : StrsAre items.toList ys) (hz : (ys.map (·.length)).sum + ys.length * x.length ≤ 16777216)
    (hQ : ∀ h' tk t', (∀ b o, b ≠ it → s.heap.get? b = some o → h'.get? b = some o) → Q (.str (Txt.join x ys.reverse) t') { s with heap := h', toks := tk }) :
    wpAny (model prog w) A (call (.builtin "str.join") [.str x t, .ref it]) Q E s := by
  refine wpAny_call (codeAny_call_builtin PySem.F.slot_str_join.plain PySem.F.entry_str_join (PySem.F.slot_str_join.check _ _ _ _ _ _ _ _ (typeIs_str _ _ _) (PySem.F.args_str_join_2 _ _) ?_))
  rw [join_tree_other]
  refine wpAny_bind (wpAny_typeOf hit.typeIs ?_)
  show wpAny _ A.in1 ((pyIter (.ref it)).tryCatch _ >>= fun it => collect it >>= fun items => PySem.joinTail x items) _ _ s
  refine wpAny_bind (wpAny_tryCatch (wpAny_pyIter_revIter hit ?_))
  refine wpAny_bind (collect_rev (A := A.in1) hh hit hl hne hn fun h' tk acc hk hacc => ?_)
  rw [rev_items hacc]
  obtain ⟨lv, hv, ht⟩ := strsAre_values (strsAre_rev hi)
  rw [hv]
  have hok : JoinOk x (lv.map (·.1)) = true := by
    rw [ht]
    refine joinOk_of ?_
    rw [List.map_reverse, List.sum_reverse, List.length_reverse]
    exact hz
  unfold JoinOk at hok
  rw [Bool.not_eq_true'] at hok
  have g : Gives (PySem.joinTail x (strValues lv)) (joinMade x lv) := by
    have g0 := gives_joinTail x lv hok
    cases lv with
    | nil => exact g0
    | cons p r => cases r with
      | nil => exact g0
      | cons q r' => exact g0
  refine g prog w A (wants Q E) _ (post_join lv ⟨joinFit_length hok, fun t' k => ?_⟩)
  rw [ht]
  exact hQ h' k t' hk
end
section
variable {X : Cx} {W : WX} {G : Hp} {ob e : Expr} {mo m : WE} {to te : TE} {p p2 apos cpos : Pos}
def tJoinRev (K : PySem.W.Frag) (to te : TE) : TE := fun σ H Q => to σ H fun x H1 => ∃ a, x = .str a ∧ te σ H1 fun y H2 => ∃ q, ∃ ys : List Str, y = .ref q ∧ SqL K H2 q (ys.map V.str) ∧ (ys.map (·.length)).sum + ys.length * a.length ≤ 16777216 ∧ Q (.str (Txt.join a ys.reverse)) H2
theorem pe_joinrev (c : MF X ob "join" (.Call (.Name "reversed" p) [e] [] p2) [] apos cpos) (hc : X.calm = true) (hg : Gl X "reversed") (hm : X.mg "reversed" = none) (ho : PE X ob to) (he : PE X e te)
    (hs : starEach [e] X.env = (false, eval e X.env) :: starEach [] X.env := by rfl) :
    PE X (.Call (.Attribute ob "join" apos) [.Call (.Name "reversed" p) [e] [] p2] [] cpos) (tJoinRev X.K to te) := by
  refine ⟨fun pins s σ H Q I h => ?_⟩
  refine wpAny_Call_method_late c.base c.few c.line rfl (thn (ho.run pins s σ H _ I h) fun v s1 ⟨x, H1, I1, r1, a, ex, q1⟩ => ?_)
  subst ex
  obtain ⟨h1, h2⟩ := tyV_is (T := "str") I1 r1 rfl
  refine ⟨"str", "str.join", PySem.F.plainAttrs_str, PySem.F.slot_str_join, PySem.F.type_str_join, h1, h2, ?_⟩
  obtain ⟨t, rfl⟩ := r1
  rw [c.hs]
  refine Calls.callWith_builtin (by show (false || (backTo cpos (starEach [] X.env)).any (·.1)) = false; rw [c.pl] <;> rfl) (Calls.evalArgs_plain ?_)
  show wpAny _ _ (spliced (backTo cpos ((false, eval (.Call (.Name "reversed" p) [e] [] p2) X.env) :: starEach [] X.env))) _ _ _
  rw [← c.hs]
  refine args_cons ?_ c.hs
  refine Call_ (ld_blt I1 hg hm PyProof.Rows.boot_reversed (PyProof.Rows.callWith_type1 (args_cons (thn (he.run pins s1 σ H1 _ I1 q1) fun u s2 ⟨v2, H2, I2, r2, q, ys, ev, hq, hz, q2⟩ => args_nil ?_) hs) hs rfl))
  subst ev
  obtain rfl : u = Value.ref q := r2
  obtain ⟨its, rv, p', hz2⟩ := I2.list hq
  have hl := rv.length
  obtain ⟨ol, hol, _⟩ := id p'.isList
  refine call_reversed_list p'.isList (args_nil ?_)
  refine call_join_rev (it := s2.heap.objs.size) (l := q) (items := its.toArray) (ys := ys) (I2.ok.hd hc) ⟨_, Heap.get?_push_size _ rfl, rfl, rfl⟩ (p'.isList.at fun o e => Heap.get?_push_of_some _ e) (Nat.ne_of_lt (Heap.lt_size hol)) (by rw [List.size_toArray]; omega) (by rw [List.toList_toArray]; exact strs_of_vals rv) hz fun h' tk t' hk => ?_
  exact ⟨.str _, H2, I2.kept (t' := tk) (fun b o e => hk b o (Nat.ne_of_lt (Heap.lt_size e)) (Heap.get?_push_of_some _ e)), ⟨t', rfl⟩, q2⟩
/-- sep.join(reversed(x)), x a list -/
def wJoinRev (p q : WE) : WE := fun env Q E => p env (fun x => ∃ a, x.d = .str a ∧ q env (fun y => y.sh ∧ ∃ ys : List Str, y.d = .list (ys.map PyData.str) ∧ (ys.map (·.length)).sum + ys.length * a.length ≤ 16777216 ∧ Q (.v (.str (Txt.join a ys.reverse)))) E) E
theorem de_joinrev (c : MF X ob "join" (.Call (.Name "reversed" p) [e] [] p2) [] apos cpos) (hc : X.calm = true) (hg : Gl X "reversed") (hm : X.mg "reversed" = none) (ho : DE X W G ob mo) (he : DE X W G e m)
    (hs : starEach [e] X.env = (false, eval e X.env) :: starEach [] X.env := by rfl) :
    DE X W G (.Call (.Attribute ob "join" apos) [.Call (.Name "reversed" p) [e] [] p2] [] cpos) (wJoinRev mo m) := by
  refine PEi (pe_joinrev c hc hg hm ho he hs) fun σ H QV ⟨B, env, fp, Q, E, rr, hm, hq, hx⟩ => ?_
  refine ⟨B, env, fp, _, E, rr, hm, fun v1 H1 B1 r1 e1 o1 ⟨a, ea, q1⟩ => ?_, hx⟩
  have hv := o1.now e1
  rw [ea] at hv
  refine ⟨a, hv.str_inv, B1, env, fp, _, E, rr.ext e1, q1, fun v2 H2 B2 r2 e2 o2 ⟨s2, ys, ed, hz, q⟩ => ?_, hx.later e1.same⟩
  obtain ⟨B3, e3, l3, rv⟩ := o2.view e2 s2
  rw [ed] at rv
  obtain ⟨adr, vs, ev, sq, tt⟩ := rv.list e3.bh
  rw [tt.strsV] at sq
  exact ⟨adr, ys, ev, sq, hz, hq _ H2 B3 (.v _) (e1.trans e3) (.str _) q⟩
end
section
variable {X : Cx} {W : WX} {G : Hp} {tg iter elt : Expr} {ifs : List Expr} {scope : Scope} {own : List (Str × Nat)} {i k : Nat} {g : WG} {c : WT} {t : WE} {pos : Pos} {y : Str} {py spos : Pos}
theorem ds_letLcK (hv : PE X iter (tVar k)) (hc : X.calm = true) (hN : X.N.Nodup) (hy : X.N[i]? = some y) (hyl : X.env.scope.names.lookup y = some .local)
    (hsw : swapsWith (.ListComp elt [⟨tg, iter, ifs, 0⟩] scope pos) (some (.Name y py)) spos.line X.env = pure true) {N : List Str} {sc : Scope} (ok : blkC N sc scope own = true) (eN : X.N = N) (eS : X.env.scope = sc)
    (hg : ∀ s H C cl fp, DG (Bk X scope s H C cl fp) G (own.map (·.2)) tg g) (ht : ∀ s H C cl fp, PTs (Bk X scope s H C cl fp) ifs (tDT X W0 G c)) (he : ∀ s H C cl fp, DE (Bk X scope s H C cl fp) W0 G elt t)
    (hs : ∀ x, foldedSetIterable iter X.env x = pure x) : DS X W G (.Assign [.Name y py] (.ListComp elt [⟨tg, iter, ifs, 0⟩] scope pos) spos) (wLet i (wLcK k (own.map (·.2)) g c t)) := by
  have h1 := ps_setLc (pos := pos) (py := py) (spos := spos) (g := tDG X G (own.map fun p : Str × Nat => p.2) g) (tt := tDT X W0 G c) (te := tD X W0 G t) hc hN hy hyl hsw (pi_keys (tg := tg) hv) (by subst eN eS; exact blkOk_by ok) hg ht he hs
  refine ⟨fun pins s σ H D I w => ?_⟩
  have w2 := let_ok (te := fun σ H QV => tLockE (tLc (iKeys (tVar k)) (tDG X G (own.map fun p : Str × Nat => p.2) g) (tDT X W0 G c) (tD X W0 G t) (own.map (·.2))) σ H QV ∨ tLc (iKeys (tVar k)) (tDG X G (own.map fun p : Str × Nat => p.2) g) (tDT X W0 G c) (tD X W0 G t) (own.map (·.2)) σ H QV) (fun _ _ _ h => lcK_ok h) H w
  rcases w2 with w2 | w2
  · obtain ⟨d, u, a, b, w3⟩ := w2
    exact (ps_lock h1).run pins s σ H D I ⟨d, u, a, b, w3⟩
  · exact h1.run pins s σ H D I w2
end
/-! ### list(text) -/
def listS : F1
  | .str x, Q => x.cps.size ≤ sizeLine ∧ Q (.t (.lst ((sgS x).map PyData.str)))
  | d, Q => listD d Q
theorem listS_s (x : Str) (Q : R → Prop) : listS (.str x) Q = (x.cps.size ≤ sizeLine ∧ Q (.t (.lst ((sgS x).map PyData.str)))) := rfl
section
variable {X : Cx}
theorem listAnyT (hcalm : X.calm = true) : CallR X (.type "list") (fun xs H Q => ∃ x : Str, xs = [.str x] ∧ x.cps.size ≤ sizeLine ∧ ∀ p, H p = none → Q (.ref p) (upd H p (.lst ((sgS x).map V.str)))) := by
  intro pins s σ H xs us Q I r q
  obtain ⟨x, ex, hz, q⟩ := q
  subst ex
  obtain ⟨u, eu, rx⟩ := vals1 r
  subst eu
  obtain ⟨t, rfl⟩ : ∃ t, u = Value.str x t := rx
  refine call_list_str (I.ok.hd hcalm) x t (fun h' tk acc c hk hn hacc => ?_) hz
  have hl : (sgS x).length = x.cps.size := by rw [sgS, List.length_map, Array.length_toList]
  have hal : acc.toList.length = (sgS x).length := by rw [Array.length_toList, hacc.1, hl]
  have hS : StrsAre acc.toList (sgS x) := strs_at hal fun j v e => by
    obtain ⟨c, u, e1, e2⟩ := hacc.2 j v (by rw [← Array.getElem?_toList]; exact e)
    exact ⟨⟨#[c]⟩, u, by rw [sgS, List.getElem?_map, Array.getElem?_toList, e1]; rfl, e2⟩
  exact ⟨.ref _, upd H s.heap.objs.size (.lst ((sgS x).map V.str)), I.laid (t' := tk) hk (Nat.le_refl _) (show ObjOk X.prog X.w _ _ _ (.lst ((sgS x).map V.str)) from ⟨by rw [List.length_map, hl]; exact hz, acc.toList, c, vals_of_strs hS, by rw [Array.toArray_toList]; exact hn⟩), rfl, q _ (I.hok.fresh (Nat.le_refl _))⟩
theorem cListS (hc : X.calm = true) : CallR X (.type "list") (rB X.K (f1s listS)) := by
  intro pins s σ H xs us QV I rv ⟨B, fp, rs, Q, l, x, hf, hq⟩
  obtain ⟨a, e, sh, hg⟩ := f1s_inv hf
  have key : ∀ {g : F1}, g a.d Q → f1s g rs Q := by
    intro g hg2
    subst e
    exact ⟨sh, hg2⟩
  by_cases old : listD a.d Q
  · exact cList pins s σ H xs us QV I rv ⟨B, fp, rs, Q, l, x, key old, hq⟩
  clear key hf
  subst e
  obtain ⟨v, e, hv⟩ := x.one_sh sh
  subst e
  generalize a.d = d at hv hg old
  cases d <;> first | exact (old hg).elim | skip
  rename_i z
  obtain ⟨hz, hg⟩ := hg
  have e : v = V.str z := by cases hv with | rep r => cases r; rfl
  subst e
  exact listAnyT hc pins s σ H _ us QV I rv ⟨z, rfl, hz, fun p' np => hq _ _ B (.t _) (.make l np _) (t_lst l np (.strs (sgS z))) hg⟩
end
end DL

set_option Elab.async false
set_option linter.all false
set_option maxRecDepth 100000
set_option maxHeartbeats 1000000
/-! MB: bits of whole numbers. -/
namespace DL
/-- the number of bits -/
def popN (n : Nat) : Nat := if n = 0 then 0 else n % 2 + popN (n / 2)
termination_by n
decreasing_by omega
theorem popN_zero : popN 0 = 0 := by rw [popN]; rfl
theorem popN_step (n : Nat) : popN n = n % 2 + popN (n / 2) := by
  by_cases h : n = 0
  · subst h; rw [show (0 : Nat) / 2 = 0 from rfl, popN_zero]
  · rw [popN, if_neg h]
theorem and_pred_lt {n : Nat} (h : 0 < n) : n &&& (n - 1) < n := by
  have := Nat.and_le_right (n := n) (m := n - 1)
  omega
theorem popN_pred : ∀ n : Nat, 0 < n → popN (n &&& (n - 1)) + 1 = popN n := by
  intro n
  induction n using Nat.strongRecOn with
  | ind n ih =>
    intro h
    rw [popN_step (n &&& (n - 1)), popN_step n, and_mod2, and_div2]
    by_cases p : n % 2 = 1
    · have e1 : (n - 1) % 2 = 0 := by omega
      have e2 : (n - 1) / 2 = n / 2 := by omega
      rw [p, e1, e2, Nat.and_self]
      omega
    · have e0 : n % 2 = 0 := by omega
      have e2 : (n - 1) / 2 = n / 2 - 1 := by omega
      rw [e0, e2]
      have := ih (n / 2) (by omega) (by omega)
      omega
/-- the places of the bits, from k on -/
def linesN (n k : Nat) : List Nat := if n = 0 then [] else (if n % 2 = 1 then [k] else []) ++ linesN (n / 2) (k + 1)
termination_by n
decreasing_by omega
theorem linesN_zero (k : Nat) : linesN 0 k = [] := by rw [linesN]; rfl
theorem linesN_step {n : Nat} (h : 0 < n) (k : Nat) : linesN n k = (if n % 2 = 1 then [k] else []) ++ linesN (n / 2) (k + 1) := by
  rw [linesN, if_neg (by omega)]
theorem linesN_length : ∀ (n k : Nat), (linesN n k).length = popN n := by
  intro n
  induction n using Nat.strongRecOn with
  | ind n ih =>
    intro k
    by_cases h : n = 0
    · subst h; rw [linesN_zero, popN_zero]; rfl
    · rw [linesN_step (by omega), popN_step, List.length_append, ih (n / 2) (by omega)]
      by_cases p : n % 2 = 1
      · rw [if_pos p, p]; rfl
      · rw [if_neg p]; simp; omega
theorem popN_le : ∀ (k n : Nat), n < 2 ^ k → popN n ≤ k
  | 0, n, h => by have : n = 0 := by simpa using h
                  subst this; rw [popN_zero]; omega
  | k + 1, n, h => by
    rw [popN_step]
    have := popN_le k (n / 2) (by rw [Nat.pow_succ] at h; omega)
    omega
/-- has the bit -/
abbrev bitAt (n i : Nat) : Bool := decide (n / 2 ^ i % 2 = 1)
theorem linesN_range : ∀ (j n k : Nat), n < 2 ^ j → linesN n k = ((List.range j).filter fun i => bitAt n i).map (· + k)
  | 0, n, k, h => by have : n = 0 := by simpa using h
                     subst this; rw [linesN_zero]; rfl
  | j + 1, n, k, h => by
    have h2 : n / 2 < 2 ^ j := by rw [Nat.pow_succ] at h; omega
    have ih := linesN_range j (n / 2) (k + 1) h2
    rw [List.range_succ_eq_map, List.filter_cons]
    have e : ((List.range j).map Nat.succ).filter (fun i => bitAt n i) = ((List.range j).filter fun i => bitAt (n / 2) i).map Nat.succ := by
      rw [List.filter_map]
      congr 1
      apply List.filter_congr
      intro i _
      simp only [Function.comp, bitAt, Nat.succ_eq_add_one]
      rw [Nat.pow_succ, Nat.mul_comm, ← Nat.div_div_eq_div_mul]
    rw [e]
    by_cases h0 : n = 0
    · subst h0
      rw [linesN_zero]
      simp [bitAt]
    · rw [linesN_step (by omega), ih]
      by_cases p : n % 2 = 1
      · rw [if_pos p, if_pos (by simp [bitAt, p])]
        simp [Nat.add_assoc, Nat.add_comm]
        try (intro a _ _; omega)
      · rw [if_neg p, if_neg (by simp [bitAt]; omega)]
        simp [Nat.add_assoc, Nat.add_comm]
        try (intro a _ _; omega)
/-- a number by the places of its bits -/
def colN (ls : List Nat) : Nat := ls.foldl (fun c l => c ||| 2 ^ l) 0
theorem fold_or (ls : List Nat) : ∀ c i : Nat, (ls.foldl (fun c l => c ||| 2 ^ l) c).testBit i = (c.testBit i || decide (i ∈ ls)) := by
  induction ls with
  | nil => intro c i; simp
  | cons l r ih =>
    intro c i
    rw [List.foldl_cons, ih, Nat.testBit_or, Nat.testBit_two_pow]
    by_cases h : l = i
    · subst h; simp
    · have : ¬ i = l := fun q => h q.symm
      simp [h, this]
theorem colN_bit (ls : List Nat) (i : Nat) : (colN ls).testBit i = decide (i ∈ ls) := by
  unfold colN
  rw [fold_or]
  simp
theorem testBit_at (n i : Nat) : n.testBit i = bitAt n i := by
  rw [Nat.testBit_eq_decide_div_mod_eq]
theorem colN_of {ls : List Nat} {n : Nat} (h : ∀ i, i ∈ ls ↔ n.testBit i = true) : colN ls = n := by
  apply Nat.eq_of_testBit_eq
  intro i
  rw [colN_bit]
  have := h i
  cases e : n.testBit i
  · rw [e] at this; simp at this; simp [this]
  · rw [e] at this; simp at this; simp [this]
theorem colN_congr {a b : List Nat} (h : ∀ i, i ∈ a ↔ i ∈ b) : colN a = colN b := by
  apply Nat.eq_of_testBit_eq
  intro i
  rw [colN_bit, colN_bit]
  simp [h]
theorem linesN_mem {j n : Nat} (h : n < 2 ^ j) (i : Nat) : i ∈ linesN n 0 ↔ n.testBit i = true := by
  rw [linesN_range j n 0 h, testBit_at]
  simp only [Nat.add_zero, List.map_id', List.mem_filter, List.mem_range]
  refine ⟨fun q => q.2, fun q => ⟨?_, q⟩⟩
  by_cases hi : i < j
  · exact hi
  · have : n / 2 ^ i = 0 := Nat.div_eq_of_lt (Nat.lt_of_lt_of_le h (Nat.pow_le_pow_right (by omega) (by omega)))
    rw [bitAt, this] at q
    simp at q
theorem linesN_lt {j n : Nat} (h : n < 2 ^ j) {i : Nat} (m : i ∈ linesN n 0) : i < j := by
  rw [linesN_range j n 0 h] at m
  simp only [Nat.add_zero, List.map_id', List.mem_filter, List.mem_range] at m
  exact m.1
theorem colN_lines {j n : Nat} (h : n < 2 ^ j) : colN (linesN n 0) = n := colN_of (linesN_mem h)
/-- the places of a list's numbers, summed -/
def dueN (ls : List Nat) : Nat → Nat
  | 0 => 0
  | k + 1 => dueN ls k + (if k ∈ ls then 2 ^ k else 0)
theorem dueN_lt (ls : List Nat) : ∀ k, dueN ls k < 2 ^ k
  | 0 => by simp [dueN]
  | k + 1 => by
    have := dueN_lt ls k
    rw [dueN, Nat.pow_succ]
    split <;> omega
theorem dueN_bit (ls : List Nat) : ∀ k i, (dueN ls k).testBit i = (decide (i < k) && decide (i ∈ ls))
  | 0, i => by simp [dueN]
  | k + 1, i => by
    have ih := dueN_bit ls k i
    have lt := dueN_lt ls k
    rw [dueN]
    by_cases h : k ∈ ls
    · rw [if_pos h]
      have e := Nat.two_pow_add_eq_or_of_lt lt 1
      rw [Nat.mul_one] at e
      rw [Nat.add_comm, e, Nat.testBit_or, ih, Nat.testBit_two_pow]
      by_cases hk : k = i
      · subst hk; simp [h]
      · have : (i < k + 1) = (i < k) := by apply propext; omega
        simp [hk, this]
    · rw [if_neg h, Nat.add_zero, ih]
      by_cases hk : i = k
      · subst hk; simp [h]
      · have : (i < k + 1) = (i < k) := by apply propext; omega
        simp [this]
theorem dueN_col {ls : List Nat} {k : Nat} (h : ∀ l ∈ ls, l < k) : dueN ls k = colN ls := by
  apply Nat.eq_of_testBit_eq
  intro i
  rw [dueN_bit, colN_bit]
  by_cases m : i ∈ ls
  · simp [m, h i m]
  · simp [m]
/-- in how many places two numbers are unlike -/
def apN (a b : Nat) : Nat := popN (a ^^^ b)
theorem apN_comm (a b : Nat) : apN a b = apN b a := by unfold apN; rw [Nat.xor_comm]
theorem apN_self (a : Nat) : apN a a = 0 := by unfold apN; rw [Nat.xor_self, popN_zero]
theorem bitAt_xor (m n i : Nat) : bitAt (m ^^^ n) i = (bitAt m i != bitAt n i) := by
  have h := Nat.testBit_xor m n i
  rw [testBit_at, testBit_at, testBit_at] at h
  exact h
/-- the gap of two strips -/
def gapN (xs ys : List Nat) : Nat := ((xs.zip ys).map fun p => apN p.1 p.2).sum
theorem gapN_nil (ys : List Nat) : gapN [] ys = 0 := rfl
theorem gapN_cons (x y : Nat) (xs ys : List Nat) : gapN (x :: xs) (y :: ys) = apN x y + gapN xs ys := rfl
theorem gapN_comm : ∀ xs ys : List Nat, gapN xs ys = gapN ys xs
  | [], [] => rfl
  | [], _ :: _ => rfl
  | _ :: _, [] => rfl
  | x :: xs, y :: ys => by rw [gapN_cons, gapN_cons, apN_comm, gapN_comm xs ys]
theorem gapN_self : ∀ xs : List Nat, gapN xs xs = 0
  | [] => rfl
  | x :: xs => by rw [gapN_cons, apN_self, gapN_self xs]
theorem gapN_append : ∀ {xs ys : List Nat} (us vs : List Nat), xs.length = ys.length → gapN (xs ++ us) (ys ++ vs) = gapN xs ys + gapN us vs
  | [], [], us, vs, _ => by simp [gapN_nil]
  | x :: xs, y :: ys, us, vs, h => by
    rw [List.cons_append, List.cons_append, gapN_cons, gapN_cons, gapN_append us vs (by simpa using h), Nat.add_assoc]
theorem popN_eq_zero : ∀ n : Nat, popN n = 0 → n = 0 := by
  intro n
  induction n using Nat.strongRecOn with
  | ind n ih =>
    intro h
    rw [popN_step] at h
    by_cases h0 : n = 0
    · exact h0
    · have := ih (n / 2) (by omega) (by omega)
      omega
theorem popN_xor_le (a : Nat) : ∀ b : Nat, popN (a ^^^ b) ≤ popN a + popN b := by
  induction a using Nat.strongRecOn with
  | ind a ih =>
    intro b
    by_cases h0 : a = 0
    · subst h0; simp
    have h := ih (a / 2) (by omega) (b / 2)
    rw [popN_step (a ^^^ b), popN_step a, popN_step b, xor_div2, xor_mod2]
    have ha : a % 2 = 0 ∨ a % 2 = 1 := by omega
    have hb : b % 2 = 0 ∨ b % 2 = 1 := by omega
    rcases ha with ha | ha <;> rcases hb with hb | hb <;> rw [ha, hb] <;> simp <;> omega
theorem apN_tri (a b c : Nat) : apN a c ≤ apN a b + apN b c := by
  unfold apN
  have e : a ^^^ c = (a ^^^ b) ^^^ (b ^^^ c) := by
    rw [Nat.xor_assoc, ← Nat.xor_assoc b b c, Nat.xor_self, Nat.zero_xor]
  rw [e]
  exact popN_xor_le _ _
theorem apN_zero {a b : Nat} (h : apN a b = 0) : a = b := by
  have h := popN_eq_zero _ h
  have e : (a ^^^ b) ^^^ b = b := by rw [h, Nat.zero_xor]
  rw [Nat.xor_assoc, Nat.xor_self, Nat.xor_zero] at e
  exact e
theorem apN_le {a b h : Nat} (ha : a < 2 ^ h) (hb : b < 2 ^ h) : apN a b ≤ h := popN_le h _ (Nat.xor_lt_two_pow ha hb)
theorem gapN_tri : ∀ {xs ys zs : List Nat}, xs.length = ys.length → ys.length = zs.length → gapN xs zs ≤ gapN xs ys + gapN ys zs
  | [], _, _, _, _ => by rw [gapN_nil]; omega
  | x :: xs, y :: ys, z :: zs, h, g => by
    rw [gapN_cons, gapN_cons, gapN_cons]
    have := gapN_tri (xs := xs) (ys := ys) (zs := zs) (by simpa using h) (by simpa using g)
    have := apN_tri x y z
    omega
theorem gapN_zero : ∀ {xs ys : List Nat}, xs.length = ys.length → gapN xs ys = 0 → xs = ys
  | [], [], _, _ => rfl
  | x :: xs, y :: ys, h, g => by
    rw [gapN_cons] at g
    rw [apN_zero (a := x) (b := y) (by omega), gapN_zero (xs := xs) (ys := ys) (by simpa using h) (by omega)]
theorem gapN_le {h : Nat} : ∀ {xs ys : List Nat}, (∀ x ∈ xs, x < 2 ^ h) → (∀ y ∈ ys, y < 2 ^ h) → gapN xs ys ≤ h * xs.length
  | [], _, _, _ => by rw [gapN_nil]; omega
  | x :: xs, [], _, _ => by simp [gapN]
  | x :: xs, y :: ys, hx, hy => by
    rw [gapN_cons, List.length_cons, Nat.mul_succ]
    have := gapN_le (xs := xs) (ys := ys) (fun z m => hx z (List.mem_cons_of_mem _ m)) fun z m => hy z (List.mem_cons_of_mem _ m)
    have := apN_le (hx x (List.mem_cons_self ..)) (hy y (List.mem_cons_self ..))
    omega
/-- the spots in which two strips are unlike, from column k on -/
def spotsN (k : Nat) : List Nat → List Nat → List (Nat × Nat)
  | x :: xs, y :: ys => (linesN (x ^^^ y) 0).map (fun l => (k, l)) ++ spotsN (k + 1) xs ys
  | _, _ => []
theorem spotsN_snoc : ∀ {xs ys : List Nat} (k x y : Nat), xs.length = ys.length → spotsN k (xs ++ [x]) (ys ++ [y]) = spotsN k xs ys ++ (linesN (x ^^^ y) 0).map fun l => (k + xs.length, l)
  | [], [], k, x, y, _ => by simp [spotsN]
  | x' :: xs, y' :: ys, k, x, y, h => by
    rw [List.cons_append, List.cons_append, spotsN, spotsN, spotsN_snoc (k + 1) x y (by simpa using h), List.append_assoc, List.length_cons]
    simp [Nat.add_assoc, Nat.add_comm, Nat.add_left_comm]
theorem spotsN_len : ∀ {xs ys : List Nat} (k : Nat), (spotsN k xs ys).length = gapN xs ys
  | [], _, k => by simp [spotsN, gapN]
  | _ :: _, [], k => by simp [spotsN, gapN]
  | x :: xs, y :: ys, k => by rw [spotsN, List.length_append, List.length_map, linesN_length, spotsN_len, gapN_cons]; rfl
theorem lt_pow {n h k : Nat} (a : n < 2 ^ h) (b : h ≤ k) : n < 2 ^ k := Nat.lt_of_lt_of_le a (Nat.pow_le_pow_right (by decide) b)
/-- a spot of a strip -/
def onS (h w : Nat) (p : Int × Int) : Prop := 0 ≤ p.1 ∧ p.1 < w ∧ 0 ≤ p.2 ∧ p.2 < h
instance (h w : Nat) (p : Int × Int) : Decidable (onS h w p) := by unfold onS; infer_instance
/-- one spot turned over -/
def turn1 (c : List Nat) (p : Int × Int) : List Nat := c.set p.1.toNat ((c[p.1.toNat]?.getD 0) ^^^ 2 ^ p.2.toNat)
def turnN (xs : List Nat) (ps : List (Int × Int)) : List Nat := ps.foldl turn1 xs
theorem turn1_len (c : List Nat) (p : Int × Int) : (turn1 c p).length = c.length := by unfold turn1; rw [List.length_set]
theorem turnN_len (ps : List (Int × Int)) : ∀ xs : List Nat, (turnN xs ps).length = xs.length := by
  induction ps with
  | nil => intro xs; rfl
  | cons p r ih => intro xs; show (turnN (turn1 xs p) r).length = _; rw [ih, turn1_len]
theorem turn1_lt {h : Nat} {c : List Nat} {p : Int × Int} (h1 : 1 ≤ h) (on : p.2 < h) (hc : ∀ x ∈ c, x < 2 ^ h) : ∀ x ∈ turn1 c p, x < 2 ^ h := by
  intro x m
  unfold turn1 at m
  rcases List.mem_or_eq_of_mem_set m with m | rfl
  · exact hc x m
  · have h2 : (c[p.1.toNat]?.getD 0) < 2 ^ h := by
      cases e : c[p.1.toNat]? with
      | none => simp; exact Nat.two_pow_pos h
      | some y => exact hc y (List.mem_of_getElem? e)
    exact Nat.xor_lt_two_pow h2 (Nat.pow_lt_pow_right (by decide) (by omega))
theorem turnN_lt {h : Nat} (h1 : 1 ≤ h) : ∀ {ps : List (Int × Int)} {xs : List Nat}, (∀ p ∈ ps, p.2 < h) → (∀ x ∈ xs, x < 2 ^ h) → ∀ x ∈ turnN xs ps, x < 2 ^ h
  | [], _, _, hx => hx
  | p :: r, xs, hp, hx => turnN_lt (ps := r) h1 (fun q m => hp q (List.mem_cons_of_mem _ m)) (turn1_lt h1 (hp p (List.mem_cons_self ..)) hx)
theorem turnN_take {xs : List Nat} {ps : List (Int × Int)} {k : Nat} {p : Int × Int} (h : ps[k]? = some p) : turnN xs (ps.take (k + 1)) = turn1 (turnN xs (ps.take k)) p := by
  unfold turnN
  rw [take_succ h, List.foldl_append]; rfl
/-- one line of a strip -/
def lineN (xs : List Nat) (y : Nat) : List Nat := xs.map fun c => if c / 2 ^ y % 2 = 1 then 35 else 46
def drawnN (h : Nat) (xs : List Nat) : List (List Nat) := (List.range h).map fun y => lineN xs y
/-- lines that draw a strip -/
def goodL (ls : List (List Nat)) : Prop := 1 ≤ ls.length ∧ ls.length ≤ 60 ∧ (∀ l ∈ ls, l.length = (ls.headD []).length) ∧ ∀ l ∈ ls, ∀ c ∈ l, c = 35 ∨ c = 46
/-- the sign at a place -/
def sgn (ls : List (List Nat)) (y x : Nat) : Nat := (ls[y]?.getD [])[x]?.getD 0
/-- the column of the first k lines' signs at place x -/
def colTo (ls : List (List Nat)) (k x : Nat) : Nat := colN ((List.range k).filter fun y => sgn ls y x = 35)
def undrawnN (ls : List (List Nat)) : List Nat := (List.range (ls.headD []).length).map (colTo ls ls.length)
theorem colN_snoc (ls : List Nat) (k : Nat) : colN (ls ++ [k]) = colN ls ||| 2 ^ k := by unfold colN; rw [List.foldl_append]; rfl
theorem colTo_succ (ls : List (List Nat)) (k x : Nat) : colTo ls (k + 1) x = if sgn ls k x = 35 then colTo ls k x ||| 2 ^ k else colTo ls k x := by
  unfold colTo
  rw [List.range_succ, List.filter_append]
  split
  · rename_i h
    rw [List.filter_cons_of_pos (by simp [h]), List.filter_nil, colN_snoc]
  · rename_i h
    rw [List.filter_cons_of_neg (by simp [h]), List.filter_nil, List.append_nil]
theorem colTo_zero (ls : List (List Nat)) (x : Nat) : colTo ls 0 x = 0 := by unfold colTo; rfl
theorem colTo_lt (ls : List (List Nat)) (k x : Nat) : colTo ls k x < 2 ^ k := by
  induction k with
  | zero => rw [colTo_zero]; decide
  | succ k ih =>
    rw [colTo_succ]
    split
    · exact Nat.or_lt_two_pow (Nat.lt_trans ih (Nat.pow_lt_pow_right (by decide) (by omega))) (Nat.pow_lt_pow_right (by decide) (by omega))
    · exact Nat.lt_trans ih (Nat.pow_lt_pow_right (by decide) (by omega))
theorem undrawn_drawn {h : Nat} {xs : List Nat} (h1 : 1 ≤ h) (hx : ∀ x ∈ xs, x < 2 ^ h) : undrawnN (drawnN h xs) = xs := by
  have e0 : (drawnN h xs).headD [] = lineN xs 0 := by
    unfold drawnN
    cases h with
    | zero => omega
    | succ h => rw [List.range_succ_eq_map]; rfl
  have el : (drawnN h xs).length = h := by unfold drawnN; simp
  unfold undrawnN
  rw [e0, el]
  apply List.ext_getElem
  · simp [lineN]
  intro i h2 h3
  rw [List.getElem_map, List.getElem_range]
  apply Nat.eq_of_testBit_eq
  intro j
  unfold colTo
  rw [colN_bit]
  have hlt := hx _ (List.getElem_mem h3)
  by_cases hj : j < h
  · have : sgn (drawnN h xs) j i = if xs[i] / 2 ^ j % 2 = 1 then 35 else 46 := by
      unfold sgn drawnN
      simp [hj, lineN, h3]
    simp only [List.mem_filter, List.mem_range, decide_eq_true_eq, this]
    rw [testBit_at]
    by_cases e : xs[i] / 2 ^ j % 2 = 1
    · simp [hj, e, bitAt]
    · simp [hj, e, bitAt]
  · have hz : xs[i].testBit j = false := Nat.testBit_lt_two_pow (Nat.lt_of_lt_of_le hlt (Nat.pow_le_pow_right (by decide) (by omega)))
    rw [hz]
    simp [hj]
theorem good_drawn {h : Nat} {xs : List Nat} (h1 : 1 ≤ h) (h60 : h ≤ 60) : goodL (drawnN h xs) := by
  refine ⟨by simp [drawnN]; exact h1, by simp [drawnN]; exact h60, ?_, ?_⟩
  · intro l m
    have e0 : (drawnN h xs).headD [] = lineN xs 0 := by
      unfold drawnN
      cases h with
      | zero => omega
      | succ h => rw [List.range_succ_eq_map]; rfl
    rw [e0]
    unfold drawnN at m
    obtain ⟨y, _, rfl⟩ := List.mem_map.mp m
    simp [lineN]
  · intro l m c mc
    unfold drawnN at m
    obtain ⟨y, _, rfl⟩ := List.mem_map.mp m
    unfold lineN at mc
    obtain ⟨x, _, rfl⟩ := List.mem_map.mp mc
    split
    · exact .inl rfl
    · exact .inr rfl
theorem not_good_len {ls : List (List Nat)} {i j : Nat} {a b : List Nat} (h1 : ls[i]? = some a) (h2 : ls[j]? = some b) (h : a.length ≠ b.length) : ¬ goodL ls := fun g => h (by rw [g.2.2.1 a (List.mem_of_getElem? h1), g.2.2.1 b (List.mem_of_getElem? h2)])
theorem not_good_sign {ls : List (List Nat)} {l : List Nat} {c : Nat} (h1 : l ∈ ls) (h2 : c ∈ l) (h : c ≠ 35) (h' : c ≠ 46) : ¬ goodL ls := fun g => (g.2.2.2 l h1 c h2).elim h h'
theorem not_good_many {ls : List (List Nat)} (h : 60 < ls.length) : ¬ goodL ls := fun g => by have := g.2.1; omega
theorem not_good_nil : ¬ goodL [] := fun g => by have := g.1; simp at this
end DL

set_option Elab.async false
set_option linter.all false
set_option maxRecDepth 100000
set_option maxHeartbeats 1000000
/-! ME: kinds of things: whole numbers, heights, signs, columns; the menu of signs. -/
namespace DL
open PySem L2 PyProof.Rows
def wholeB : D → Bool
  | .int _ => true
  | _ => false
def heightB : D → Bool
  | .int i => decide (1 ≤ i ∧ i ≤ 60)
  | _ => false
def colB (h : Nat) : D → Bool
  | .int i => decide (0 ≤ i ∧ i < ((2 ^ h : Nat) : Int))
  | _ => false
def okSg (c : Nat) : Prop := 32 ≤ c ∧ c ≤ 126 ∧ c ≠ 37
instance (c : Nat) : Decidable (okSg c) := by unfold okSg; infer_instance
def sgOf : List Nat → Bool
  | [c] => decide (okSg c)
  | _ => false
def signB : D → Bool
  | .str x => sgOf x.cps.toList
  | _ => false
theorem signB_tS (cs : List Nat) : signB (.str (tS cs)) = sgOf cs := by unfold signB; simp only [tS_cps]
theorem sgOf_one (c : Nat) : sgOf [c] = decide (okSg c) := rfl
theorem sgOf_len {cs : List Nat} (h : cs.length ≠ 1) : sgOf cs = false := by
  match cs, h with
  | [], _ => rfl
  | [_], h => exact absurd rfl h
  | _ :: _ :: _, _ => rfl
/-- texts of a handy length -/
def txtOk : D → Prop
  | .str x => x.length ≤ 16777216
  | _ => True
theorem txtOk_tS (cs : List Nat) : txtOk (.str (tS cs)) = (cs.length ≤ 16777216) := by show ((tS cs).length ≤ 16777216) = _; rw [tS_len]
theorem txtOk_int (i : Int) : txtOk (.int i) = True := rfl
theorem txtOk_none : txtOk .none = True := rfl
theorem txtOk_bool (i : Bool) : txtOk (.bool i) = True := rfl
theorem txtOk_list (i : List D) : txtOk (.list i) = True := rfl
theorem txtOk_tuple (i : List D) : txtOk (.tuple i) = True := rfl
theorem txtOk_dict (i : List (D × D)) : txtOk (.dict i) = True := rfl
def menuA : List Nat := [32, 33, 34, 35, 36, 38, 39, 40, 41, 42, 43, 44, 45, 46, 47, 48, 49, 50, 51, 52, 53, 54, 55, 56, 57, 58, 59, 60, 61, 62, 63, 64, 65, 66, 67, 68, 69, 70, 71, 72, 73, 74, 75, 76, 77, 78, 79, 80, 81, 82, 83, 84, 85, 86, 87, 88, 89, 90, 91, 92, 93, 94, 95, 96, 97, 98, 99, 100, 101, 102, 103, 104, 105, 106, 107, 108, 109, 110, 111, 112, 113, 114, 115, 116, 117, 118, 119, 120, 121, 122, 123, 124, 125, 126]
theorem menu_len : menuA.length = 94 := by decide
theorem menu_ok : ∀ c ∈ menuA, okSg c := by decide
theorem menu_128 : ∀ c ∈ menuA, c < 128 := by decide
theorem menu_nodup : menuA.Nodup := by decide
theorem mem_menu {c : Nat} (h : okSg c) : c ∈ menuA := by
  unfold okSg at h
  have : ∀ c : Fin 127, 32 ≤ c.val → c.val ≠ 37 → c.val ∈ menuA := by decide
  exact this ⟨c, by omega⟩ h.1 h.2.2
theorem okSg_lt {c : Nat} (h : okSg c) : c < 128 := by unfold okSg at h; omega
theorem sgOf_iff (cs : List Nat) : sgOf cs = true ↔ ∃ c, cs = [c] ∧ okSg c := by
  match cs with
  | [] => simp [sgOf]
  | [c] => simp [sgOf]
  | _ :: _ :: _ => simp [sgOf]
theorem menu_pick {z : Int} {P : Nat → Prop} (h : ∀ c, okSg c → P c) : ∃ c, atI menuA (z % 94) = some c ∧ P c := pick_go (by decide) (by decide) fun c m => h c (menu_ok c m)
theorem menu_pickL {z : Int} {P : Nat → Prop} (h : ∀ c, okSg c → P c) : ∃ c, atI menuA (z % (menuA.length : Int)) = some c ∧ P c := pick_go rfl (by decide) fun c m => h c (menu_ok c m)
end DL

set_option Elab.async false
set_option linter.all false
set_option maxRecDepth 100000
set_option maxHeartbeats 1000000
/-! MD: dicts by keys of one kind; sorted lists. -/
namespace DL
open PySem L2 PyProof.Rows
--simp kD_inr, kD_inl
theorem kD_inr (x : Str) : kD (Sum.inr x) = .str x := rfl
theorem kD_inl (x : Int) : kD (Sum.inl x) = .int x := rfl
section
variable {κ β : Type} [DecidableEq κ] {kk : κ → Key} {enc : β → D}
def dG (kk : κ → Key) (enc : β → D) (ls : List (κ × β)) : List (D × D) := ls.map fun p => (kD (kk p.1), enc p.2)
theorem dG_nil : dG kk enc [] = [] := rfl
theorem dG_len (ls : List (κ × β)) : (dG kk enc ls).length = ls.length := by simp [dG]
theorem dG_keys (ls : List (κ × β)) : (dG kk enc ls).map (·.1) = (ls.map (·.1)).map fun k => kD (kk k) := by simp [dG]
def lookG (ls : List (κ × β)) (k : κ) : Option β := (ls.find? fun p => decide (p.1 = k)).map (·.2)
theorem lookG_nil (k : κ) : lookG ([] : List (κ × β)) k = none := rfl
theorem lookG_cons (p : κ × β) (ls : List (κ × β)) (k : κ) : lookG (p :: ls) k = if p.1 = k then some p.2 else lookG ls k := by
  unfold lookG
  rw [List.find?_cons]
  by_cases h : p.1 = k
  · rw [if_pos h, decide_eq_true h]; rfl
  · rw [if_neg h, decide_eq_false h]
theorem lookG_mem : ∀ {ls : List (κ × β)} {k : κ} {b : β}, lookG ls k = some b → (k, b) ∈ ls
  | p :: ls, k, b, h => by
    rw [lookG_cons] at h
    by_cases e : p.1 = k
    · rw [if_pos e] at h
      cases h; subst e; exact List.mem_cons_self
    · rw [if_neg e] at h
      exact List.mem_cons_of_mem _ (lookG_mem h)
theorem lookG_none : ∀ {ls : List (κ × β)} {k : κ}, lookG ls k = none ↔ k ∉ ls.map (·.1)
  | [], k => by simp [lookG_nil]
  | p :: ls, k => by
    rw [lookG_cons]
    by_cases e : p.1 = k
    · subst e; simp
    · rw [if_neg e, lookG_none]
      simp only [List.map_cons, List.mem_cons, not_or]
      exact ⟨fun h => ⟨fun q => e q.symm, h⟩, fun h => h.2⟩
theorem lookG_some {ls : List (κ × β)} {k : κ} (h : k ∈ ls.map (·.1)) : ∃ b, lookG ls k = some b := by
  cases e : lookG ls k with
  | none => exact absurd h (lookG_none.mp e)
  | some b => exact ⟨b, rfl⟩
theorem lookG_isSome {ls : List (κ × β)} {k : κ} : (lookG ls k).isSome = decide (k ∈ ls.map (·.1)) := by
  rw [Bool.eq_iff_iff, decide_eq_true_eq, Option.isSome_iff_ne_none, ne_eq, lookG_none, Decidable.not_not]
theorem lookG_nodup : ∀ {ls : List (κ × β)} {k : κ} {b : β}, (ls.map (·.1)).Nodup → (k, b) ∈ ls → lookG ls k = some b
  | p :: ls, k, b, nd, m => by
    rw [lookG_cons]
    simp only [List.map_cons, List.nodup_cons] at nd
    rcases List.mem_cons.mp m with e | m
    · subst e; simp
    · have : p.1 ≠ k := fun e => nd.1 (e ▸ List.mem_map_of_mem (f := fun l : κ × β => l.1) m)
      rw [if_neg this]
      exact lookG_nodup nd.2 m
def putG (ls : List (κ × β)) (k : κ) (b : β) : List (κ × β) := if k ∈ ls.map (·.1) then ls.map (fun p => if p.1 = k then (p.1, b) else p) else ls ++ [(k, b)]
theorem putG_keys (ls : List (κ × β)) (k : κ) (b : β) : (putG ls k b).map (·.1) = if k ∈ ls.map (·.1) then ls.map (·.1) else ls.map (·.1) ++ [k] := by
  unfold putG
  split
  · rw [List.map_map]
    apply List.map_congr_left
    intro p _
    simp only [Function.comp]
    split <;> rfl
  · simp
theorem putG_nodup {ls : List (κ × β)} {k : κ} {b : β} (h : (ls.map (·.1)).Nodup) : ((putG ls k b).map (·.1)).Nodup := by
  rw [putG_keys]
  split
  · exact h
  · rename_i n
    exact List.nodup_append.mpr ⟨h, by simp, fun a m c m' e => by simp at m'; subst e m'; exact n m⟩
theorem putG_len (ls : List (κ × β)) (k : κ) (b : β) : (putG ls k b).length ≤ ls.length + 1 := by
  unfold putG
  split <;> simp
theorem putG_new {ls : List (κ × β)} {k : κ} {b : β} (h : k ∉ ls.map (·.1)) : putG ls k b = ls ++ [(k, b)] := by unfold putG; rw [if_neg h]
theorem mem_putG {ls : List (κ × β)} {k : κ} {b : β} {p : κ × β} (h : p ∈ putG ls k b) : p ∈ ls ∨ p = (k, b) := by
  unfold putG at h
  split at h
  · obtain ⟨q, m, e⟩ := List.mem_map.mp h
    split at e
    · rename_i z; right; rw [← e, z]
    · left; rw [← e]; exact m
  · rcases List.mem_append.mp h with h | h
    · exact .inl h
    · exact .inr (by simpa using h)
theorem mem_putG_keys {ls : List (κ × β)} {k j : κ} {b : β} : j ∈ (putG ls k b).map (·.1) ↔ j ∈ ls.map (·.1) ∨ j = k := by
  rw [putG_keys]
  split
  · rename_i h
    exact ⟨.inl, fun q => q.elim id fun e => e ▸ h⟩
  · rw [List.mem_append, List.mem_singleton]
theorem lookG_map_put {k : κ} {b : β} (j : κ) : ∀ ls : List (κ × β), lookG (ls.map (fun p => if p.1 = k then (p.1, b) else p)) j = if j = k then (if k ∈ ls.map (·.1) then some b else none) else lookG ls j
  | [] => by simp [lookG_nil]
  | p :: ls => by
    rw [List.map_cons, lookG_cons, lookG_cons, lookG_map_put j ls]
    by_cases h : p.1 = k
    · rw [if_pos h]
      by_cases e : j = k
      · subst e; simp [h]
      · have e2 : ¬ p.1 = j := fun q => e (q.symm.trans h)
        have e3 : ¬ k = j := fun q => e q.symm
        simp [e, e2, h, e3]
    · rw [if_neg h]
      by_cases e : j = k
      · subst e
        have e4 : ¬ j = p.1 := fun q => h q.symm
        simp only [if_neg h, if_true, List.map_cons, List.mem_cons, e4, false_or]
      · simp [e]
theorem lookG_app (a b : List (κ × β)) (j : κ) : lookG (a ++ b) j = (lookG a j).or (lookG b j) := by
  induction a with
  | nil => rfl
  | cons p r ih =>
    rw [List.cons_append, lookG_cons, lookG_cons, ih]
    split <;> rfl
theorem lookG_put (ls : List (κ × β)) (k j : κ) (b : β) : lookG (putG ls k b) j = if j = k then some b else lookG ls j := by
  unfold putG
  split
  · rename_i h
    rw [lookG_map_put, if_pos h]
  · rename_i h
    rw [lookG_app]
    by_cases e : j = k
    · subst e
      rw [lookG_none.mpr h, if_pos rfl, lookG_cons]; simp
    · have : ¬ k = j := fun q => e q.symm
      rw [if_neg e, lookG_cons, if_neg this, lookG_nil, Option.or_none]
theorem kk_keyD (k j : κ) (hk : ∀ a b, kk a = kk b → a = b) : (keyD (kD (kk k)) = some (kk j)) = (k = j) := by
  rw [keyD_kD, Option.some.injEq]
  exact propext ⟨hk k j, fun h => by rw [h]⟩
theorem lookK_dG (hk : ∀ a b, kk a = kk b → a = b) (k : κ) : ∀ ls : List (κ × β), lookK (dG kk enc ls) (kk k) = (lookG ls k).map enc
  | [] => rfl
  | p :: ls => by
    show lookK ((kD (kk p.1), enc p.2) :: dG kk enc ls) (kk k) = _
    rw [lookK_cons, lookG_cons, lookK_dG hk k ls]
    simp only [kk_keyD p.1 k hk]
    split <;> rfl
theorem putD_dG (hk : ∀ a b, kk a = kk b → a = b) (ls : List (κ × β)) (k : κ) (b : β) : putD (dG kk enc ls) (kk k) (enc b) = dG kk enc (putG ls k b) := by
  unfold putD putG
  rw [lookK_dG hk]
  have e : ((lookG ls k).map enc).isSome = decide (k ∈ ls.map (·.1)) := by rw [Option.isSome_map, lookG_isSome]
  rw [e]
  by_cases h : k ∈ ls.map (·.1)
  · rw [if_pos h, if_pos (decide_eq_true h)]
    unfold dG
    rw [List.map_map, List.map_map]
    apply List.map_congr_left
    intro p _
    simp only [Function.comp, kk_keyD p.1 k hk]
    split <;> rfl
  · rw [if_neg h, if_neg (by simpa using h)]
    simp [dG]
/-- pairs laid one behind the other -/
def mergeG (acc : List (κ × β)) (ls : List (κ × β)) : List (κ × β) := ls.foldl (fun a p => putG a p.1 p.2) acc
theorem mergeD_dG (hk : ∀ a b, kk a = kk b → a = b) : ∀ (ls acc : List (κ × β)), mergeD (dG kk enc acc) (ls.map fun p => (kk p.1, enc p.2)) = dG kk enc (mergeG acc ls)
  | [], acc => rfl
  | p :: ls, acc => by
    show mergeD (putD (dG kk enc acc) (kk p.1) (enc p.2)) (ls.map fun p => (kk p.1, enc p.2)) = _
    rw [putD_dG hk, mergeD_dG hk ls]; rfl
theorem mergeG_nodup : ∀ (ls acc : List (κ × β)), ((acc ++ ls).map (·.1)).Nodup → mergeG acc ls = acc ++ ls
  | [], acc, _ => by simp [mergeG]
  | p :: ls, acc, h => by
    have hp : p.1 ∉ acc.map (·.1) := by
      rw [List.map_append, List.map_cons] at h
      have := (List.nodup_append.mp h).2.2
      exact fun m => this _ m _ (List.mem_cons_self ..) rfl
    show mergeG (putG acc p.1 p.2) ls = _
    rw [putG_new hp, mergeG_nodup ls (acc ++ [p]) (by rw [List.append_assoc]; exact h), List.append_assoc]; rfl
end
/-- keys: a sign, a text, a number -/
def kO (s : Nat) : Key := Sum.inr (tS [s])
def kT (l : List Nat) : Key := Sum.inr (tS l)
def kN (n : Nat) : Key := Sum.inl (n : Int)
theorem kO_inj (a b : Nat) (h : kO a = kO b) : a = b := by
  have h : Sum.inr (tS [a]) = (Sum.inr (tS [b]) : Key) := h
  have := Sum.inr.inj h
  rw [tS_iff] at this
  simpa using this
theorem kT_inj (a b : List Nat) (h : kT a = kT b) : a = b := by
  have h : Sum.inr (tS a) = (Sum.inr (tS b) : Key) := h
  have := Sum.inr.inj h
  rwa [tS_iff] at this
theorem kN_inj (a b : Nat) (h : kN a = kN b) : a = b := by
  have h : Sum.inl (a : Int) = (Sum.inl (b : Int) : Key) := h
  have := Sum.inl.inj h
  omega
theorem len_subset {α : Type} [DecidableEq α] : ∀ {a b : List α}, a.Nodup → (∀ x ∈ a, x ∈ b) → a.length ≤ b.length
  | [], _, _, _ => by simp
  | x :: a, b, nd, h => by
    obtain ⟨n1, n2⟩ := List.nodup_cons.mp nd
    have hx := h x (List.mem_cons_self ..)
    have := len_subset (a := a) (b := b.erase x) n2 fun y m => (List.mem_erase_of_ne (show y ≠ x from fun e => n1 (by rw [← e]; exact m))).mpr (h y (List.mem_cons_of_mem _ m))
    rw [List.length_erase_of_mem hx] at this
    have := List.length_pos_of_mem hx
    rw [List.length_cons]; omega
/-! ### sorted -/
theorem pairwise_rising : ∀ (l : List Str) (p : Str), risingS p l = true → (p :: l).Pairwise fun a b => ¬ b.cps.toList < a.cps.toList
  | [], p, _ => by simp
  | x :: r, p, h => by
    rw [risingS, Bool.and_eq_true] at h
    have ih := pairwise_rising r x h.2
    have hx : ¬ x.cps.toList < p.cps.toList := by
      have := h.1
      rw [ltCps_eq] at this
      simpa using this
    refine List.pairwise_cons.mpr ⟨fun y m => ?_, ih⟩
    rcases List.mem_cons.mp m with e | m
    · subst e; exact hx
    · have hy := (List.pairwise_cons.mp ih).1 y m
      intro q
      have h1 : p.cps.toList ≤ x.cps.toList := List.not_lt.mp hx
      have h2 : x.cps.toList ≤ y.cps.toList := List.not_lt.mp hy
      exact absurd q (List.not_lt.mpr (List.le_trans h1 h2))
theorem pairwise_sortedS : ∀ {l : List Str}, sortedS l = true → l.Pairwise fun a b => ¬ b.cps.toList < a.cps.toList
  | [], _ => .nil
  | x :: r, h => pairwise_rising r x h
theorem ordS_texts {ls : List (List Nat)} {ys : List Str} (h : ordS (ls.map tS) ys) : ∃ rs : List (List Nat), ys = rs.map tS ∧ rs.Perm ls ∧ rs.Pairwise fun a b => ¬ b < a := by
  refine ⟨ys.map fun y => y.cps.toList, ?_, ?_, ?_⟩
  · rw [List.map_map]
    conv => lhs; rw [← List.map_id ys]
    apply List.map_congr_left
    intro y _
    exact tS_of y
  · have := h.1.map fun y : Str => y.cps.toList
    rw [List.map_map] at this
    have e : (fun y : Str => y.cps.toList) ∘ tS = id := by funext l; exact tS_cps l
    rwa [e, List.map_id] at this
  · exact List.pairwise_map.mpr (pairwise_sortedS h.2)
theorem ordS_ones {ss : List Nat} {ys : List Str} (h : ordS (ss.map fun s => tS [s]) ys) : ∃ rs : List Nat, ys = rs.map (fun s => tS [s]) ∧ rs.Perm ss ∧ rs.Pairwise (· ≤ ·) := by
  have e0 : (ss.map fun s => tS [s]) = (ss.map fun s => [s]).map tS := by rw [List.map_map]; rfl
  rw [e0] at h
  obtain ⟨rs, e, p, o⟩ := ordS_texts h
  have hone : ∀ r ∈ rs, ∃ s, r = [s] := fun r m => by
    obtain ⟨s, _, q⟩ := List.mem_map.mp (p.mem_iff.mp m)
    exact ⟨s, q.symm⟩
  have e1 : (rs.map fun r => r.headD 0).map (fun s => [s]) = rs := by
    rw [List.map_map]
    conv => rhs; rw [← List.map_id rs]
    apply List.map_congr_left
    intro r m
    obtain ⟨s, rfl⟩ := hone r m
    rfl
  refine ⟨rs.map fun r => r.headD 0, ?_, ?_, ?_⟩
  · rw [e]
    conv => lhs; rw [← e1]
    rw [List.map_map]; rfl
  · have := p.map fun r : List Nat => r.headD 0
    rw [List.map_map] at this
    have e2 : ((fun r : List Nat => r.headD 0) ∘ fun s => [s]) = id := by funext s; rfl
    rwa [e2, List.map_id] at this
  · rw [← e1, List.pairwise_map] at o
    exact o.imp fun {a b} h => by
      by_cases q : b < a
      · exact absurd (List.Lex.rel q) h
      · omega
theorem asc_of_nodup {l : List Nat} (h : l.Pairwise (· ≤ ·)) (n : l.Nodup) : l.Pairwise (· < ·) := (h.and n).imp fun x => Nat.lt_of_le_of_ne x.1 x.2
theorem ordI_nats {ss : List Nat} {ms : List Int} (h : ordI (ss.map fun (n : Nat) => (n : Int)) ms) : ∃ rs : List Nat, ms = rs.map (fun (n : Nat) => (n : Int)) ∧ rs.Perm ss ∧ rs.Pairwise (· ≤ ·) := by
  have hnn : ∀ m ∈ ms, 0 ≤ m := fun m q => by
    obtain ⟨n, _, e⟩ := List.mem_map.mp (h.1.mem_iff.mp q)
    omega
  have e1 : (ms.map Int.toNat).map (fun (n : Nat) => (n : Int)) = ms := by
    rw [List.map_map]
    conv => rhs; rw [← List.map_id ms]
    apply List.map_congr_left
    intro m q
    exact Int.toNat_of_nonneg (hnn m q)
  refine ⟨ms.map Int.toNat, e1.symm, ?_, ?_⟩
  · have := h.1.map Int.toNat
    rw [List.map_map] at this
    have e2 : (Int.toNat ∘ fun n : Nat => (n : Int)) = id := by funext n; simp
    rwa [e2, List.map_id] at this
  · have o := h.2
    rw [← e1, List.pairwise_map] at o
    exact o.imp fun {a b} h => by omega
/-- sorted lists of the same things are the same -/
theorem asc_unique : ∀ {a b : List Nat}, a.Perm b → a.Pairwise (· ≤ ·) → b.Pairwise (· ≤ ·) → a = b := fun {a b} p ha hb => p.eq_of_pairwise (fun x y _ _ h g => Nat.le_antisymm h g) ha hb
end DL

set_option Elab.async false
set_option linter.all false
set_option maxRecDepth 100000
set_option maxHeartbeats 1000000
/-! MF: fonts: a letter for each sign. -/
namespace DL
open PySem L2 PyProof.Rows
abbrev Lt := Nat × List Nat
abbrev Font := Nat × List Lt
abbrev ltD (l : Lt) : D := .tuple [.str (tS [l.1]), .tuple (nL l.2)]
abbrev fontD (f : Font) : D := .tuple [.int (f.1 : Int), .tuple (f.2.map ltD)]
--simp ltL_iff, pair_iff, colsD_tS
theorem ltL_iff (a b : List Lt) : (a.map ltD = b.map ltD) = (a = b) := map_iff (fun x y e => by
  simp only [ltD, PyData.tuple.injEq, List.cons.injEq, PyData.str.injEq, tS_iff, PyData.list.injEq, nL_iff, and_true] at e
  exact Prod.ext e.1 e.2) a b
theorem pair_iff {α β : Type} (f g : α × β) : (f.1 = g.1 ∧ f.2 = g.2) = (f = g) := propext ⟨fun h => Prod.ext h.1 h.2, fun h => by rw [h]; exact ⟨rfl, rfl⟩⟩
theorem both_go {P A B : Prop} (h : P) (hb : B) : (¬ P → A) ∧ (P → B) := ⟨fun q => absurd h q, fun _ => hb⟩
theorem pair_iff2 {α β : Type} (a : α) (b : β) (g : α × β) : (a = g.1 ∧ b = g.2) = ((a, b) = g) := pair_iff (a, b) g
/-- the columns of a sign -/
def colsOf (ls : List Lt) (s : Nat) : Option (List Nat) := (ls.find? fun l => l.1 == s).map (·.2)
theorem colsOf_nil (s : Nat) : colsOf [] s = none := rfl
theorem colsOf_cons (l : Lt) (ls : List Lt) (s : Nat) : colsOf (l :: ls) s = if l.1 = s then some l.2 else colsOf ls s := by
  unfold colsOf
  rw [List.find?_cons]
  by_cases h : l.1 = s
  · rw [if_pos h, show (l.1 == s) = true from by simp [h]]; rfl
  · rw [if_neg h, show (l.1 == s) = false from by simp [h]]
theorem colsOf_mem : ∀ {ls : List Lt} {s : Nat} {c : List Nat}, colsOf ls s = some c → (s, c) ∈ ls
  | l :: ls, s, c, h => by
    rw [colsOf_cons] at h
    by_cases e : l.1 = s
    · rw [if_pos e] at h
      cases h; subst e; exact List.mem_cons_self
    · rw [if_neg e] at h
      exact List.mem_cons_of_mem _ (colsOf_mem h)
theorem colsOf_none : ∀ {ls : List Lt} {s : Nat}, colsOf ls s = none ↔ s ∉ ls.map (·.1)
  | [], s => by simp [colsOf_nil]
  | l :: ls, s => by
    rw [colsOf_cons]
    by_cases e : l.1 = s
    · subst e; simp
    · rw [if_neg e, colsOf_none]
      simp only [List.map_cons, List.mem_cons, not_or]
      exact ⟨fun h => ⟨fun q => e q.symm, h⟩, fun h => h.2⟩
theorem colsOf_some {ls : List Lt} {s : Nat} (h : s ∈ ls.map (·.1)) : ∃ c, colsOf ls s = some c := by
  cases e : colsOf ls s with
  | none => exact absurd h (colsOf_none.mp e)
  | some c => exact ⟨c, rfl⟩
theorem colsOf_nodup : ∀ {ls : List Lt} {s : Nat} {c : List Nat}, (ls.map (·.1)).Nodup → (s, c) ∈ ls → colsOf ls s = some c
  | l :: ls, s, c, nd, m => by
    rw [colsOf_cons]
    simp only [List.map_cons, List.nodup_cons] at nd
    rcases List.mem_cons.mp m with e | m
    · subst e; simp
    · have : l.1 ≠ s := fun e => nd.1 (e ▸ List.mem_map_of_mem (f := fun l : Lt => l.1) m)
      rw [if_neg this]
      exact colsOf_nodup nd.2 m
def hasF (f : Font) (s : Nat) : Prop := s ∈ f.2.map (·.1)
instance (f : Font) (s : Nat) : Decidable (hasF f s) := by unfold hasF; infer_instance
def colsF (f : Font) (s : Nat) : List Nat := (colsOf f.2 s).getD []
theorem colsF_has {f : Font} {s : Nat} (h : hasF f s) : colsOf f.2 s = some (colsF f s) := by
  obtain ⟨c, e⟩ := colsOf_some h
  unfold colsF
  rw [e]; rfl
theorem colsF_mem {f : Font} {s : Nat} (h : hasF f s) : (s, colsF f s) ∈ f.2 := colsOf_mem (colsF_has h)
/-- what a font is -/
structure okFont (f : Font) : Prop where
  h1 : 1 ≤ f.1
  h60 : f.1 ≤ 60
  pos : 0 < f.2.length
  len : f.2.length ≤ 40
  sg : ∀ l ∈ f.2, okSg l.1
  cp : ∀ l ∈ f.2, 1 ≤ l.2.length
  c8 : ∀ l ∈ f.2, l.2.length ≤ 8
  lt : ∀ l ∈ f.2, ∀ c ∈ l.2, c < 2 ^ f.1
  asc : (f.2.map (·.1)).Pairwise (· < ·)
theorem okFont.nodup {f : Font} (h : okFont f) : (f.2.map (·.1)).Nodup := h.asc.imp fun x => Nat.ne_of_lt x
theorem okFont.c1 {f : Font} (h : okFont f) {s : Nat} (hs : hasF f s) : 1 ≤ (colsF f s).length ∧ (colsF f s).length ≤ 8 := ⟨h.cp _ (colsF_mem hs), h.c8 _ (colsF_mem hs)⟩
theorem okFont.clt {f : Font} (h : okFont f) {s : Nat} (hs : hasF f s) : ∀ c ∈ colsF f s, c < 2 ^ f.1 := h.lt _ (colsF_mem hs)
theorem okFont.sgs {f : Font} (h : okFont f) {s : Nat} (hs : hasF f s) : okSg s := by
  obtain ⟨l, m, rfl⟩ := List.mem_map.mp hs
  exact h.sg l m
theorem colsF_len {f : Font} (h : okFont f) (s : Nat) : (colsF f s).length ≤ 8 := by
  by_cases hs : hasF f s
  · exact (h.c1 hs).2
  · unfold colsF
    rw [colsOf_none.mpr hs]; simp
theorem colsF_lt {f : Font} (h : okFont f) (s : Nat) : ∀ c ∈ colsF f s, c < 2 ^ f.1 := by
  by_cases hs : hasF f s
  · exact h.clt hs
  · unfold colsF
    rw [colsOf_none.mpr hs]; simp
theorem okFont_made {h : Nat} {ls : List Lt} {rs : List Nat} (h1 : 1 ≤ h) (h60 : h ≤ 60) (pos : 0 < ls.length) (len : ls.length ≤ 40) (nd : (ls.map (·.1)).Nodup)
    (hl : ∀ l ∈ ls, okSg l.1 ∧ 1 ≤ l.2.length ∧ l.2.length ≤ 8 ∧ ∀ c ∈ l.2, c < 2 ^ h) (p : rs.Perm (ls.map (·.1))) (o : rs.Pairwise (· ≤ ·)) :
    okFont (h, rs.map fun s => (s, (lookG ls s).getD [])) := by
  have key : ∀ l ∈ rs.map fun s => (s, (lookG ls s).getD []), l ∈ ls := fun l m => by
    obtain ⟨s, hs, rfl⟩ := List.mem_map.mp m
    obtain ⟨c, e⟩ := lookG_some (p.mem_iff.mp hs)
    rw [e]; exact lookG_mem e
  have hlen := p.length_eq
  rw [List.length_map] at hlen
  refine ⟨h1, h60, by simp; omega, by simp; omega, fun l m => (hl l (key l m)).1, fun l m => (hl l (key l m)).2.1, fun l m => (hl l (key l m)).2.2.1, fun l m => (hl l (key l m)).2.2.2, ?_⟩
  rw [List.map_map]
  have e : ((fun l : Lt => l.1) ∘ fun s => (s, (lookG ls s).getD [])) = id := by funext s; rfl
  show List.Pairwise (· < ·) (rs.map ((fun l : Lt => l.1) ∘ fun s => (s, (lookG ls s).getD [])))
  rw [e, List.map_id]
  exact asc_of_nodup o (p.nodup_iff.mpr nd)
def encC (c : List Nat) : D := .tuple (nL c)
theorem lookG_cols : ∀ (ls : List Lt) (s : Nat), lookG ls s = colsOf ls s
  | [], _ => rfl
  | l :: ls, s => by rw [lookG_cons, colsOf_cons, lookG_cols ls s]
def fontPs (f : Font) : List (Key × D) := f.2.map fun l => (kO l.1, encC l.2)
theorem fontPs_eq (f : Font) : f.2.map ltD = (fontPs f).map pairD := by unfold fontPs; rw [List.map_map]; rfl
theorem fontPs_merge {f : Font} (hf : okFont f) : mergeD [] (fontPs f) = dG kO encC f.2 := by
  have e := mergeD_dG (kk := kO) (enc := encC) kO_inj f.2 []
  rw [dG_nil] at e
  unfold fontPs
  rw [e, mergeG_nodup f.2 [] (by simpa using hf.nodup)]
  rfl
theorem dict_font {f : Font} (hf : okFont f) {Q : R → Prop} (q : Q (.t (.dic (dG kO encC f.2)))) : ∃ ps : List (Key × D), f.2.map ltD = ps.map pairD ∧ Q (.t (.dic (mergeD [] ps))) := by
  refine ⟨f.2.map fun l => (kO l.1, encC l.2), by rw [List.map_map]; rfl, ?_⟩
  have e := mergeD_dG (kk := kO) (enc := encC) kO_inj f.2 []
  rw [dG_nil] at e
  rw [e, mergeG_nodup f.2 [] (by simpa using hf.nodup)]
  exact q
/-- all signs are the font's -/
def inF (f : Font) (t : List Nat) : Prop := ∀ s ∈ t, hasF f s
instance (f : Font) (t : List Nat) : Decidable (inF f t) := by unfold inF; infer_instance
theorem inF_app {f : Font} {a b : List Nat} : inF f (a ++ b) ↔ inF f a ∧ inF f b := by
  unfold inF
  constructor
  · intro h; exact ⟨fun s m => h s (List.mem_append_left _ m), fun s m => h s (List.mem_append_right _ m)⟩
  · rintro ⟨h, g⟩ s m
    rcases List.mem_append.mp m with m | m
    · exact h s m
    · exact g s m
theorem inF_ok {f : Font} (h : okFont f) {t : List Nat} (ht : inF f t) : okT t := fun s m => okSg_lt (h.sgs (ht s m))
theorem signs_tL (f : Font) : (f.2.map fun l => PyData.str (tS [l.1])) = tL (f.2.map fun l => [l.1]) := by rw [tL, List.map_map]; rfl
theorem flat_signs (f : Font) : (f.2.map fun l => PyData.str (tS [l.1])).all flatD = true := by rw [signs_tL]; exact flat_tL _
theorem memD_signs (f : Font) (c : Nat) : memD (.str (tS [c])) (f.2.map fun l => PyData.str (tS [l.1])) = decide (hasF f c) := by
  rw [signs_tL, memD_tL, decide_eq_decide]
  unfold hasF
  constructor
  · intro h; obtain ⟨l, m, e⟩ := List.mem_map.mp h
    have : l.1 = c := by simpa using e
    exact this ▸ List.mem_map_of_mem (f := fun l : Lt => l.1) m
  · intro h; obtain ⟨l, m, e⟩ := List.mem_map.mp h
    exact List.mem_map.mpr ⟨l, m, by rw [← e]⟩
theorem lacked_pos {f : Font} (hf : okFont f) : 0 < (menuA.filter fun c => decide (¬ hasF f c)).length := by
  by_cases h : 0 < (menuA.filter fun c => decide (¬ hasF f c)).length
  · exact h
  · have h0 : menuA.filter (fun c => decide (¬ hasF f c)) = [] := List.length_eq_zero_iff.mp (by omega)
    have hall : ∀ c ∈ menuA, c ∈ f.2.map (·.1) := fun c m => by
      have := List.filter_eq_nil_iff.mp h0 c m
      rw [decide_eq_true_eq, Decidable.not_not] at this
      exact this
    have := len_subset menu_nodup hall
    rw [menu_len, List.length_map] at this
    have := hf.len
    omega
/-- the picture of a text -/
def setF (f : Font) (t : List Nat) : List Nat := t.flatMap (colsF f)
theorem setF_nil (f : Font) : setF f [] = [] := rfl
theorem setF_cons (f : Font) (s : Nat) (t : List Nat) : setF f (s :: t) = colsF f s ++ setF f t := by unfold setF; rw [List.flatMap_cons]
theorem setF_app (f : Font) (a b : List Nat) : setF f (a ++ b) = setF f a ++ setF f b := by unfold setF; rw [List.flatMap_append]
theorem setF_one (f : Font) (s : Nat) : setF f [s] = colsF f s := by rw [setF_cons, setF_nil, List.append_nil]
theorem setF_take {f : Font} {t : List Nat} {k s : Nat} (h : t[k]? = some s) : setF f (t.take (k + 1)) = setF f (t.take k) ++ colsF f s := by rw [take_succ h, setF_app, setF_one]
theorem setF_len {f : Font} (h : okFont f) : ∀ t : List Nat, (setF f t).length ≤ 8 * t.length
  | [] => by simp [setF_nil]
  | s :: t => by
    rw [setF_cons, List.length_append, List.length_cons]
    have := setF_len h t
    have := colsF_len h s
    omega
theorem setF_lt {f : Font} (h : okFont f) : ∀ {t : List Nat}, ∀ c ∈ setF f t, c < 2 ^ f.1
  | [], c, m => by simp [setF_nil] at m
  | s :: t, c, m => by
    rw [setF_cons] at m
    rcases List.mem_append.mp m with m | m
    · exact colsF_lt h s c m
    · exact setF_lt h c m
theorem setF_rev_len (f : Font) (t : List Nat) : (setF f t.reverse).length = (setF f t).length := by
  induction t with
  | nil => rfl
  | cons s t ih => rw [List.reverse_cons, setF_app, setF_one, setF_cons, List.length_append, List.length_append, ih]; omega
/-- where the letters begin, and the width -/
def seamsF (f : Font) (t : List Nat) : List Nat := (List.range (t.length + 1)).map fun i => (setF f (t.take i)).length
theorem seamsF_nil (f : Font) : seamsF f [] = [0] := rfl
theorem seamsF_len (f : Font) (t : List Nat) : (seamsF f t).length = t.length + 1 := by simp [seamsF]
theorem seamsF_snoc (f : Font) (t : List Nat) (s : Nat) : seamsF f (t ++ [s]) = seamsF f t ++ [(setF f (t ++ [s])).length] := by
  unfold seamsF
  rw [List.length_append, List.length_singleton, List.range_succ, List.map_append]
  congr 1
  · apply List.map_congr_left
    intro i m
    have := List.mem_range.mp m
    rw [List.take_append_of_le_length (by omega)]
  · simp only [List.map_cons, List.map_nil]
    rw [List.take_of_length_le (by simp)]
theorem seamsF_get {f : Font} {t : List Nat} {i : Nat} (h : i ≤ t.length) : (seamsF f t)[i]? = some (setF f (t.take i)).length := by
  unfold seamsF
  rw [List.getElem?_map, List.getElem?_range (by omega)]; rfl
theorem seamsF_last (f : Font) (t : List Nat) : (seamsF f t).getLast? = some (setF f t).length := by
  rw [List.getLast?_eq_getElem?, seamsF_len, Nat.add_sub_cancel, seamsF_get (Nat.le_refl _), List.take_length]
theorem seamsF_app (f : Font) (a b : List Nat) : seamsF f (a ++ b) = seamsF f a ++ ((seamsF f b).drop 1).map fun x => (setF f a).length + x := by
  apply List.ext_getElem?
  intro i
  by_cases h1 : i ≤ a.length
  · rw [seamsF_get (by simp; omega), List.getElem?_append_left (by rw [seamsF_len]; omega), seamsF_get h1, List.take_append_of_le_length h1]
  · rw [List.getElem?_append_right (by rw [seamsF_len]; omega), List.getElem?_map, List.getElem?_drop, seamsF_len]
    by_cases h2 : i ≤ a.length + b.length
    · rw [seamsF_get (by simp; omega), show 1 + (i - (a.length + 1)) = i - a.length from by omega, seamsF_get (by omega), List.take_append, List.take_of_length_le (by omega), setF_app]
      simp
    · rw [List.getElem?_eq_none (by rw [seamsF_len]; simp; omega), List.getElem?_eq_none (by rw [seamsF_len]; omega)]; rfl
/-- the letter that an asked thing names -/
def colsD (f : Font) : D → Option (List Nat)
  | .str x => match x.cps.toList with
    | [c] => colsOf f.2 c
    | _ => none
  | _ => none
theorem colsD_tS (f : Font) (c : Nat) : colsD f (.str (tS [c])) = colsOf f.2 c := by
  unfold colsD
  simp only [tS_cps]
theorem eqv_strD (x : Str) (d : D) : PyData.eqv (.str x) d = true ↔ d = .str x := by
  cases d <;> simp [PyData.eqv]
  exact ⟨fun h => h.symm, fun h => h.symm⟩
theorem colsD_eq {f : Font} {d : D} {c : List Nat} (h : colsD f d = some c) : ∃ s, d = .str (tS [s]) ∧ colsOf f.2 s = some c := by
  cases d with
  | str x =>
    have e := tS_of x
    revert e h
    unfold colsD
    simp only
    generalize x.cps.toList = l
    intro h e
    match l, h, e with
    | [s], h, e => exact ⟨s, by rw [e], h⟩
  | _ => simp [colsD] at h
end DL

set_option Elab.async false
set_option linter.all false
set_option maxRecDepth 100000
set_option maxHeartbeats 1000000
/-! MH: houses: for each room its doors (a sign, a room), and the ends. -/
namespace DL
open PySem L2 PyProof.Rows
open PySem.W (alike alikeAll AllAlike Sortable)
abbrev House := List (List (Nat × Nat)) × List Nat
abbrev drD (p : Nat × Nat) : D := .tuple [.str (tS [p.1]), .int (p.2 : Int)]
abbrev drsD (ds : List (Nat × Nat)) : D := .tuple (ds.map drD)
abbrev houseD (h : House) : D := .tuple [.tuple (h.1.map drsD), .tuple (nL h.2)]
--simp oD_n, oD_s, nats_nL, oL_snoc, oL_len, oL_take, oL_drop, drs_snoc, lts_snoc
def oL (ss : List Nat) : List D := ss.map fun s => PyData.str (tS [s])
theorem oL_nil : oL [] = [] := rfl
theorem oL_snoc (ss : List Nat) (s : Nat) : oL ss ++ [.str (tS [s])] = oL (ss ++ [s]) := by unfold oL; rw [List.map_append]; rfl
theorem oL_len (ss : List Nat) : (oL ss).length = ss.length := by unfold oL; rw [List.length_map]
theorem oL_take (ss : List Nat) (n : Nat) : (oL ss).take n = oL (ss.take n) := by unfold oL; rw [List.map_take]
theorem oL_drop (ss : List Nat) (n : Nat) : (oL ss).drop n = oL (ss.drop n) := by unfold oL; rw [List.map_drop]
theorem oL_at {ss : List Nat} {k : Nat} (h : k < ss.length) : atI (oL ss) (k : Int) = some (.str (tS [ss[k]])) := atI_map_lt _ h
theorem drs_snoc (ds : List (Nat × Nat)) (s r : Nat) : ds.map drD ++ [.tuple [.str (tS [s]), .int (r : Int)]] = (ds ++ [(s, r)]).map drD := by rw [List.map_append]; rfl
theorem lts_snoc (ls : List Lt) (s : Nat) (cs : List Nat) : ls.map ltD ++ [.tuple [.str (tS [s]), .tuple (nL cs)]] = (ls ++ [(s, cs)]).map ltD := by rw [List.map_append]; rfl
/-! ### sorting -/
theorem alike_nL : ∀ xs ys : List Nat, alikeAll (nL xs) (nL ys) = true
  | [], _ => by simp [nL, alikeAll]
  | _ :: _, [] => by simp [nL, alikeAll]
  | x :: xs, y :: ys => by
    show alikeAll (.int x :: nL xs) (.int y :: nL ys) = true
    rw [alikeAll, alike_nL xs ys]
    simp [alike]
theorem depth_nL : ∀ xs : List Nat, PyData.depthAll (nL xs) = 0
  | [] => by simp [nL, PyData.depthAll]
  | x :: xs => by
    show PyData.depthAll (.int x :: nL xs) = 0
    rw [PyData.depthAll, depth_nL xs]
    simp [PyData.depth]
theorem tS_lt (a b : Nat) : (decide ((tS [a]).cps.toList < (tS [b]).cps.toList)) = decide (a < b) := by
  rw [tS_cps, tS_cps, decide_eq_decide]
  constructor
  · intro h
    cases h with
    | rel h => exact h
    | cons h => cases h
  · intro h; exact .rel h
theorem eqv_one (a b : Nat) : PyData.eqv (.str (tS [a])) (.str (tS [b])) = decide (a = b) := by
  rw [eqv_str]
  by_cases h : a = b
  · subst h; simp
  · rw [decide_eq_false h]
    simp [tS_iff, h]
theorem dle_pair {a b : Nat} {x y : D} (h : alike y x = true) : dle (.tuple [.str (tS [a]), x]) (.tuple [.str (tS [b]), y]) = if b = a then (if PyData.eqv y x = true then true else !PySem.W.dataLt y x) else !decide (b < a) := by
  show (!PySem.W.dataLt (.tuple [.str (tS [b]), y]) (.tuple [.str (tS [a]), x])) = _
  rw [PySem.W.dataLt_pair (by simp [alike]) h, eqv_one, PySem.W.dataLt_str, tS_lt]
  by_cases e : b = a
  · simp only [e, decide_true, if_true]
    by_cases q : PyData.eqv y x = true
    · simp [q]
    · simp [q]
  · simp [e]
theorem dle_total : PySem.W.TotalLe dle := PySem.W.sortLe_total (PyProof.Rows.listOrd PyProof.Rows.itemOrd) false fun b => PySem.W.keyToks (id b)
theorem sortDs_map {α : Type} (f : α → D) (l : List α) : sortDs (l.map f) = (l.mergeSort fun a b => dle (f a) (f b)).map f := (PySem.W.sort_maps f fun a _ b _ => rfl).symm
theorem total_map {α : Type} (f : α → D) : PySem.W.TotalLe fun a b => dle (f a) (f b) := ⟨fun a b c => dle_total.trans (f a) (f b) (f c), fun a b => dle_total.total (f a) (f b)⟩
theorem sort_by {β : Type} (enc : β → D) (ha : ∀ x y, alike (enc x) (enc y) = true) (hd : ∀ x, (enc x).depth ≤ 7) (ls : List (Nat × β)) :
    sortOk (ls.map fun p => .tuple [.str (tS [p.1]), enc p.2]) ∧ ∃ ms : List (Nat × β), sortDs (ls.map fun p => .tuple [.str (tS [p.1]), enc p.2]) = ms.map (fun p => .tuple [.str (tS [p.1]), enc p.2]) ∧ ms.Perm ls ∧ ms.Pairwise fun a b => a.1 ≤ b.1 := by
  refine ⟨⟨PySem.W.AllAlike.of fun x y => by simp [alike, alikeAll, ha], PySem.W.Sortable.tuples fun _ => ⟨_, _, rfl⟩, fun d m => ?_⟩, _, sortDs_map (fun p : Nat × β => PyData.tuple [.str (tS [p.1]), enc p.2]) ls, List.mergeSort_perm .., ?_⟩
  · obtain ⟨p, _, rfl⟩ := List.mem_map.mp m
    simp only [PyData.depth, PyData.depthAll]
    have := hd p.2
    omega
  · refine (PySem.W.sort_pairwise (total_map fun p : Nat × β => PyData.tuple [.str (tS [p.1]), enc p.2]) ls).imp fun {a b} h => ?_
    have h2 : dle (.tuple [.str (tS [a.1]), enc a.2]) (.tuple [.str (tS [b.1]), enc b.2]) = true := h
    rw [dle_pair (ha _ _)] at h2
    by_cases e : b.1 = a.1
    · omega
    · rw [if_neg e] at h2
      simp at h2
      exact h2
theorem sort_lts (ls : List Lt) : sortOk (ls.map ltD) ∧ ∃ ms : List Lt, sortDs (ls.map ltD) = ms.map ltD ∧ ms.Perm ls ∧ ms.Pairwise fun a b => a.1 ≤ b.1 :=
  sort_by (fun c => .tuple (nL c)) (fun x y => by simp [alike, alike_nL]) (fun x => by simp [PyData.depth, depth_nL]) ls
theorem sort_drs (ls : List (Nat × Nat)) : sortOk (ls.map drD) ∧ ∃ ms : List (Nat × Nat), sortDs (ls.map drD) = ms.map drD ∧ ms.Perm ls ∧ ms.Pairwise fun a b => a.1 ≤ b.1 :=
  sort_by (fun c : Nat => .int (c : Int)) (fun x y => by simp [alike]) (fun x => by simp [PyData.depth]) ls
/-- sorted by distinct signs: one way alone -/
theorem sorted_asc {β : Type} {ms ls : List (Nat × β)} (p : ms.Perm ls) (o : ms.Pairwise fun a b => a.1 ≤ b.1) (nd : (ls.map (·.1)).Nodup) : (ms.map (·.1)).Pairwise (· < ·) :=
  asc_of_nodup (List.pairwise_map.mpr o) ((p.map _).nodup_iff.mpr nd)
theorem perm_asc {β : Type} {a b : List (Nat × β)} (p : a.Perm b) (ha : (a.map (·.1)).Pairwise (· < ·)) (hb : (b.map (·.1)).Pairwise (· < ·)) : a = b := by
  have ha' : a.Pairwise fun x y => x.1 < y.1 := List.pairwise_map.mp ha
  have hb' : b.Pairwise fun x y => x.1 < y.1 := List.pairwise_map.mp hb
  exact p.eq_of_pairwise (fun x y _ _ h g => absurd h (Nat.lt_asymm g)) ha' hb'
/-! ### signs drawn in a window of the menu -/
theorem menu_window {ats : List Nat} {a0 : Nat} (h : ats.Pairwise (· < ·)) (hw : ∀ a ∈ ats, a0 ≤ a ∧ a < a0 + 94) : (ats.map fun a => menuA.getD (a % 94) 0).Nodup := by
  refine (List.pairwise_map.mpr (h.imp_of_mem fun {a b} ma mb lt e => ?_) : List.Pairwise (· ≠ ·) _)
  have h1 := hw a ma
  have h2 := hw b mb
  have ea : a % 94 < menuA.length := by rw [menu_len]; omega
  have eb : b % 94 < menuA.length := by rw [menu_len]; omega
  rw [List.getD_eq_getElem?_getD, List.getD_eq_getElem?_getD, List.getElem?_eq_getElem ea, List.getElem?_eq_getElem eb] at e
  simp only [Option.getD_some] at e
  have nd := List.pairwise_iff_getElem.mp menu_nodup
  rcases Nat.lt_trichotomy (a % 94) (b % 94) with q | q | q
  · exact nd _ _ ea eb q e
  · omega
  · exact nd _ _ eb ea q e.symm
theorem menu_at {n : Nat} : okSg (menuA.getD (n % 94) 0) := by
  have ea : n % 94 < menuA.length := by rw [menu_len]; omega
  rw [List.getD_eq_getElem?_getD, List.getElem?_eq_getElem ea]
  exact menu_ok _ (List.getElem_mem ea)
theorem menu_atI {n : Int} : okSg (menuA.getD (n % 94).toNat 0) := by
  have ea : (n % 94).toNat < menuA.length := by rw [menu_len]; omega
  rw [List.getD_eq_getElem?_getD, List.getElem?_eq_getElem ea]
  exact menu_ok _ (List.getElem_mem ea)
theorem menu_atN (n : Nat) : menuA.getD ((n : Int) % 94).toNat 0 = menuA.getD (n % 94) 0 := by
  rw [show ((n : Int) % 94).toNat = n % 94 from by omega]
/-! ### what a house is -/
structure okHouse (h : House) : Prop where
  pos : 0 < h.1.length
  len : h.1.length ≤ 40
  to : ∀ ds ∈ h.1, ∀ d ∈ ds, d.2 < h.1.length
  sg : ∀ ds ∈ h.1, ∀ d ∈ ds, okSg d.1
  asc : ∀ ds ∈ h.1, (ds.map (·.1)).Pairwise (· < ·)
  ends : ∀ e ∈ h.2, e < h.1.length
  easc : h.2.Pairwise (· < ·)
theorem okHouse.nd {h : House} (o : okHouse h) {ds : List (Nat × Nat)} (m : ds ∈ h.1) : (ds.map (·.1)).Nodup := (o.asc ds m).imp fun x => Nat.ne_of_lt x
theorem okHouse.few {h : House} (o : okHouse h) {ds : List (Nat × Nat)} (m : ds ∈ h.1) : ds.length ≤ 94 := by
  have := len_subset (o.nd m) (b := menuA) fun x hx => by
    obtain ⟨d, md, rfl⟩ := List.mem_map.mp hx
    exact mem_menu (o.sg ds m d md)
  rwa [List.length_map, menu_len] at this
theorem drs_iff (a b : List (Nat × Nat)) : (a.map drD = b.map drD) = (a = b) := map_iff (fun x y e => by
  simp only [drD, PyData.tuple.injEq, List.cons.injEq, PyData.str.injEq, tS_iff, PyData.int.injEq, and_true] at e
  exact Prod.ext (by simpa using e.1) (by omega)) a b
/-! ### houses made -/
/-- pairs of any things -/
abbrev dpD (p : D × D) : D := .tuple [p.1, p.2]
def drR (d : Nat × Nat) : D × D := (.str (tS [d.1]), .int (d.2 : Int))
theorem dp_drs (ds : List (Nat × Nat)) : (ds.map drR).map dpD = ds.map drD := by rw [List.map_map]; rfl
theorem drR_inj {a b : Nat × Nat} (h : drR a = drR b) : a = b := by
  unfold drR at h
  simp only [Prod.mk.injEq, PyData.str.injEq, tS_iff, PyData.int.injEq, List.cons.injEq, and_true] at h
  exact Prod.ext h.1 (by omega)
/-- the doors of a room, well told -/
def goodRm (many : Nat) (ps : List (D × D)) (ds : List (Nat × Nat)) : Prop := ps = ds.map drR ∧ (∀ d ∈ ds, okSg d.1 ∧ d.2 < many) ∧ (ds.map (·.1)).Nodup
theorem goodRm.uniq {many : Nat} {ps : List (D × D)} {a b : List (Nat × Nat)} (h : goodRm many ps a) (g : goodRm many ps b) : a = b :=
  (List.map_inj_right fun _ _ e => drR_inj e).mp (h.1.symm.trans g.1)
def roomB (m : Nat) : D → Bool
  | .int i => decide (0 ≤ i ∧ i < (m : Int))
  | _ => false
theorem roomB_nat {m : Nat} {d : D} (h : roomB m d = true) : ∃ r : Nat, d = .int r ∧ r < m := by
  cases d <;> simp only [roomB, Bool.false_eq_true, decide_eq_true_eq] at h
  rename_i i
  exact ⟨i.toNat, by rw [Int.toNat_of_nonneg h.1], by omega⟩
theorem roomB_of {m r : Nat} (h : r < m) : roomB m (.int (r : Int)) = true := by simp [roomB]; omega
theorem signB_nat {d : D} (h : signB d = true) : ∃ c, d = .str (tS [c]) ∧ okSg c := by
  cases d <;> simp only [signB, Bool.false_eq_true] at h
  rename_i x
  obtain ⟨c, e, hc⟩ := (sgOf_iff _).mp h
  exact ⟨c, by rw [tS_of x, e], hc⟩
theorem signB_of {c : Nat} (h : okSg c) : signB (.str (tS [c])) = true := by rw [signB_tS, sgOf_one, decide_eq_true h]
/-- sorted by sign -/
def sortP (ds : List (Nat × Nat)) : List (Nat × Nat) := ds.mergeSort fun a b => decide (a.1 ≤ b.1)
theorem sortP_perm (ds : List (Nat × Nat)) : (sortP ds).Perm ds := List.mergeSort_perm ..
theorem sortP_le (ds : List (Nat × Nat)) : (sortP ds).Pairwise fun a b => a.1 ≤ b.1 :=
  (List.pairwise_mergeSort (by intro a b c; simp; omega) (by intro a b; simp; omega) ds).imp fun h => by simpa using h
theorem sortP_asc {ds : List (Nat × Nat)} (h : (ds.map (·.1)).Nodup) : ((sortP ds).map (·.1)).Pairwise (· < ·) := sorted_asc (sortP_perm ds) (sortP_le ds) h
theorem sortP_of {a ds : List (Nat × Nat)} (p : a.Perm ds) (o : (a.map (·.1)).Pairwise (· < ·)) : sortP ds = a :=
  perm_asc ((sortP_perm ds).trans p.symm) (sortP_asc ((p.map _).nodup_iff.mp (o.imp fun x => Nat.ne_of_lt x))) o
theorem sortP_len (ds : List (Nat × Nat)) : (sortP ds).length = ds.length := (sortP_perm ds).length_eq
theorem sortP_mem {ds : List (Nat × Nat)} {d : Nat × Nat} : d ∈ sortP ds ↔ d ∈ ds := (sortP_perm ds).mem_iff
theorem sortP_self {ds : List (Nat × Nat)} (o : (ds.map (·.1)).Pairwise (· < ·)) : sortP ds = ds := sortP_of (List.Perm.refl _) o
theorem sortP_rev {ds : List (Nat × Nat)} (h : (ds.map (·.1)).Nodup) : sortP ds.reverse = sortP ds := sortP_of ((sortP_perm ds).trans (List.reverse_perm ds).symm) (sortP_asc h)
def sortN (es : List Nat) : List Nat := es.mergeSort
theorem sortN_perm (es : List Nat) : (sortN es).Perm es := List.mergeSort_perm ..
theorem sortN_le (es : List Nat) : (sortN es).Pairwise (· ≤ ·) :=
  (List.pairwise_mergeSort (by intro a b c; simp; omega) (by intro a b; simp; omega) es).imp fun h => by simpa using h
theorem sortN_of {a es : List Nat} (p : a.Perm es) (o : a.Pairwise (· ≤ ·)) : sortN es = a := asc_unique ((sortN_perm es).trans p.symm) (sortN_le es) o
theorem sortN_asc {es : List Nat} (h : es.Nodup) : (sortN es).Pairwise (· < ·) := asc_of_nodup (sortN_le es) ((sortN_perm es).nodup_iff.mpr h)
theorem sortN_len (es : List Nat) : (sortN es).length = es.length := (sortN_perm es).length_eq
theorem sortN_mem {es : List Nat} {e : Nat} : e ∈ sortN es ↔ e ∈ es := (sortN_perm es).mem_iff
theorem sortN_self {es : List Nat} (o : es.Pairwise (· ≤ ·)) : sortN es = es := sortN_of (List.Perm.refl _) o
theorem sortN_rev (es : List Nat) : sortN es.reverse = sortN es := sortN_of ((sortN_perm es).trans (List.reverse_perm es).symm) (sortN_le es)
/-- a house, well told -/
structure goodHs (ps : List (List (D × D))) (es : List D) (h : House) : Prop where
  ps : ps = h.1.map (·.map drR)
  es : es = nL h.2
  pos : 1 ≤ h.1.length
  len : h.1.length ≤ 40
  rm : ∀ ds ∈ h.1, (∀ d ∈ ds, okSg d.1 ∧ d.2 < h.1.length) ∧ (ds.map (·.1)).Nodup
  en : ∀ e ∈ h.2, e < h.1.length
  nd : h.2.Nodup
def sortH (h : House) : House := (h.1.map sortP, sortN h.2)
theorem goodHs.ok {ps : List (List (D × D))} {es : List D} {h : House} (g : goodHs ps es h) : okHouse (sortH h) where
  pos := by rw [sortH, List.length_map]; exact g.pos
  len := by rw [sortH, List.length_map]; exact g.len
  to := fun ds m d md => by
    rw [sortH, List.length_map]
    obtain ⟨ds', m', rfl⟩ := List.mem_map.mp m
    exact ((g.rm ds' m').1 d (sortP_mem.mp md)).2
  sg := fun ds m d md => by
    obtain ⟨ds', m', rfl⟩ := List.mem_map.mp m
    exact ((g.rm ds' m').1 d (sortP_mem.mp md)).1
  asc := fun ds m => by
    obtain ⟨ds', m', rfl⟩ := List.mem_map.mp m
    exact sortP_asc (g.rm ds' m').2
  ends := fun e m => by
    rw [sortH, List.length_map]
    exact g.en e (sortN_mem.mp m)
  easc := sortN_asc g.nd
/-- what stands in told doors -/
def rdP (p : D × D) : Option (Nat × Nat) := match p with
  | (.str x, .int i) => match x.cps.toList with
    | [c] => some (c, i.toNat)
    | _ => none
  | _ => none
theorem rdP_dr (d : Nat × Nat) : rdP (drR d) = some d := by
  unfold rdP drR
  simp only [tS_cps]
  rfl
theorem rdPs (ds : List (Nat × Nat)) : (ds.map drR).filterMap rdP = ds := by
  rw [List.filterMap_map]
  have : rdP ∘ drR = some := funext rdP_dr
  rw [this, List.filterMap_some]
theorem flat_drs (ds : List (Nat × Nat)) : (ds.map fun d => PyData.str (tS [d.1])).all flatD = true := by
  rw [List.all_eq_true]; intro x m; obtain ⟨d, _, rfl⟩ := List.mem_map.mp m; rfl
theorem memD_drs (c : Nat) (ds : List (Nat × Nat)) : memD (.str (tS [c])) (ds.map fun d => PyData.str (tS [d.1])) = decide (c ∈ ds.map (·.1)) := by
  have e : (ds.map fun d => PyData.str (tS [d.1])) = tL (ds.map fun d => [d.1]) := by rw [tL, List.map_map]; rfl
  rw [e, memD_tL, decide_eq_decide]
  simp [List.mem_map]
theorem few_signs {ds : List (Nat × Nat)} (h : ∀ d ∈ ds, okSg d.1) (n : (ds.map (·.1)).Nodup) : ds.length ≤ 94 := by
  have := len_subset n (b := menuA) fun x hx => by
    obtain ⟨d, md, rfl⟩ := List.mem_map.mp hx
    exact mem_menu (h d md)
  rwa [List.length_map, menu_len] at this
theorem few_nats {es : List Nat} {n : Nat} (h : ∀ e ∈ es, e < n) (nd : es.Nodup) : es.length ≤ n := by
  have := len_subset nd (b := List.range n) fun x hx => List.mem_range.mpr (h x hx)
  rwa [List.length_range] at this
theorem nodup_snoc {α : Type} {l : List α} {a : α} (h : l.Nodup) (n : a ∉ l) : (l ++ [a]).Nodup := by
  refine List.nodup_append.mpr ⟨h, by simp, fun x m y my e => ?_⟩
  have : y = a := by simpa using my
  subst this e
  exact n m
theorem sortDs_drs {ds : List (Nat × Nat)} (nd : (ds.map (·.1)).Nodup) : sortOk (ds.map drD) ∧ sortDs (ds.map drD) = (sortP ds).map drD := by
  obtain ⟨h1, ms, h2, h3, h4⟩ := sort_drs ds
  refine ⟨h1, ?_⟩
  rw [h2, sortP_of h3 (sorted_asc h3 h4 nd)]
theorem nats_nL (es : List Nat) : (es.map fun (n : Nat) => (n : Int)).map PyData.int = nL es := by rw [nL, List.map_map]; rfl
theorem sorted_nats {es : List Nat} {P : List Int → Prop} (h : es.length < 64) (q : P ((sortN es).map fun (n : Nat) => (n : Int))) : ∃ ns : List Int, ns.length < 64 ∧ nL es = ns.map PyData.int ∧ ∀ ms, ordI ns ms → P ms := by
  refine ⟨es.map fun (n : Nat) => (n : Int), by rw [List.length_map]; exact h, by rw [nL, List.map_map]; rfl, fun ms hm => ?_⟩
  obtain ⟨rs, rfl, p, o⟩ := ordI_nats hm
  rw [sortN_of p o] at q
  exact q
theorem sortH_rev {rr : List (List (Nat × Nat))} (es : List Nat) (h : ∀ ds ∈ rr, (ds.map (·.1)).Nodup) : sortH (rr.map List.reverse, es.reverse) = sortH (rr, es) := by
  unfold sortH
  simp only
  rw [sortN_rev, List.map_map]
  congr 1
  apply List.map_congr_left
  intro ds m
  exact sortP_rev (h ds m)
theorem goodHs_of {rr : List (List (Nat × Nat))} {es : List Nat} {n : Nat} (l : rr.length = n) (n1 : 1 ≤ n) (n40 : n ≤ 40) (h : ∀ ds ∈ rr, (∀ d ∈ ds, okSg d.1 ∧ d.2 < n) ∧ (ds.map (·.1)).Nodup) (he : ∀ e ∈ es, e < n) (nd : es.Nodup) :
    goodHs (rr.map (·.map drR)) (nL es) (rr, es) := ⟨rfl, rfl, by simp only; omega, by simp only; omega, by simp only; rw [l]; exact h, by simp only; rw [l]; exact he, nd⟩
theorem hs_eq (rr : List (List (Nat × Nat))) : (rr.map fun ds => PyData.list (ds.map drD)) = (rr.map (·.map drR)).map fun r => PyData.list (r.map dpD) := by
  rw [List.map_map]
  apply List.map_congr_left
  intro ds _
  simp only [Function.comp, dp_drs]
theorem txt_drs {rr : List (List (Nat × Nat))} {k : Nat} (h : ∀ ds ∈ rr, ds.length ≤ k) : ∀ r ∈ rr.map (·.map drR), r.length ≤ k ∧ ∀ p ∈ r, txtOk p.1 := fun r m => by
  obtain ⟨ds, md, rfl⟩ := List.mem_map.mp m
  refine ⟨by rw [List.length_map]; exact h ds md, fun p mp => ?_⟩
  obtain ⟨d, _, rfl⟩ := List.mem_map.mp mp
  unfold drR
  rw [txtOk_tS]
  simp
/-- a house as data: its depth -/
theorem sh_drD (d : Nat × Nat) (h : d.1 < 128) : Sh 1 (drD d) := sh_tuple fun x m => by
  simp only [List.mem_cons, List.not_mem_nil, or_false] at m
  rcases m with rfl | rfl
  · exact (okT_one h).sh 0
  · exact sh_int 0 _
theorem sh_drs {ds : List (Nat × Nat)} (h : ∀ d ∈ ds, okSg d.1) : Sh 2 (drsD ds) := sh_tuple fun x m => by
  obtain ⟨d, md, rfl⟩ := List.mem_map.mp m
  exact sh_drD d (okSg_lt (h d md))
theorem sh_house {h : House} (hs : ∀ ds ∈ h.1, ∀ d ∈ ds, okSg d.1) : Sh 4 (houseD h) := sh_tuple fun x m => by
  simp only [List.mem_cons, List.not_mem_nil, or_false] at m
  rcases m with rfl | rfl
  · refine sh_tuple fun y my => ?_
    obtain ⟨ds, md, rfl⟩ := List.mem_map.mp my
    exact sh_drs (hs ds md)
  · exact (sh_tuple (k := 0) fun y my => by
      obtain ⟨e, _, rfl⟩ := List.mem_map.mp my
      exact sh_int 0 _).mono (by decide)
theorem sh_rooms {rr : List (List (Nat × Nat))} (hs : ∀ ds ∈ rr, ∀ d ∈ ds, okSg d.1) : Sh 3 (.list (rr.map fun ds => .list (ds.map drD))) := sh_list fun y my => by
  obtain ⟨ds, md, rfl⟩ := List.mem_map.mp my
  refine sh_list fun x m => ?_
  obtain ⟨d, md', rfl⟩ := List.mem_map.mp m
  exact sh_drD d (okSg_lt (hs ds md d md'))
theorem sorted_natsL {es : List Nat} {P : List Int → Prop} (q : P ((sortN es).map fun (n : Nat) => (n : Int))) : ∃ ns : List Int, nL es = ns.map PyData.int ∧ ∀ ms, ordI ns ms → P ms := by
  refine ⟨es.map fun (n : Nat) => (n : Int), by rw [nL, List.map_map]; rfl, fun ms hm => ?_⟩
  obtain ⟨rs, rfl, p, o⟩ := ordI_nats hm
  rw [sortN_of p o] at q
  exact q
theorem goodHs.uniq {ps : List (List (D × D))} {es : List D} {a b : House} (h : goodHs ps es a) (g : goodHs ps es b) : a = b := by
  refine Prod.ext ?_ (nL_inj (h.es.symm.trans g.es))
  refine (List.map_inj_right fun x y e => ?_).mp (h.ps.symm.trans g.ps)
  exact (List.map_inj_right fun _ _ e => drR_inj e).mp e
theorem house_go {ps : List (List (D × D))} {es : List D} {h : House} {A : Prop} {P : House → Prop} (g : goodHs ps es h) (q : P h) : ((¬ ∃ h, goodHs ps es h) → A) ∧ ∀ h', goodHs ps es h' → P h' :=
  ⟨fun n => absurd ⟨h, g⟩ n, fun h' g' => by rw [g'.uniq g]; exact q⟩
theorem room_go {m : Nat} {ps : List (D × D)} {ds : List (Nat × Nat)} {A : Prop} {P : List (Nat × Nat) → Prop} (g : goodRm m ps ds) (q : P ds) : ((¬ ∃ ds, goodRm m ps ds) → A) ∧ ∀ ds', goodRm m ps ds' → P ds' :=
  ⟨fun n => absurd ⟨ds, g⟩ n, fun ds' g' => by rw [g'.uniq g]; exact q⟩
theorem due_house (rr : List (List (Nat × Nat))) (es : List Nat) : PyData.tuple [.tuple (rr.map fun ds => drsD (sortP ds)), .tuple (nL (sortN es))] = houseD (sortH (rr, es)) := by
  unfold sortH houseD
  simp only [List.map_map]
  rfl
/-! ### where texts go -/
def oD : Option Nat → D
  | none => .none
  | some r => .int (r : Int)
theorem oD_n : oD none = .none := rfl
theorem oD_s (r : Nat) : oD (some r) = .int (r : Int) := rfl
theorem oD_inj {a b : Option Nat} (h : oD a = oD b) : a = b := by
  cases a <;> cases b <;> simp [oD] at h ⊢
  omega
theorem oD_iff (a b : Option Nat) : (oD a = oD b) = (a = b) := propext ⟨oD_inj, fun h => by rw [h]⟩
def doorH (h : House) (r s : Nat) : Option Nat := lookG (h.1.getD r []) s
theorem doorH_mem {h : House} {r s q : Nat} (e : doorH h r s = some q) : ∃ hr : r < h.1.length, (s, q) ∈ h.1[r] := by
  unfold doorH at e
  by_cases hr : r < h.1.length
  · refine ⟨hr, ?_⟩
    rw [List.getD_eq_getElem?_getD, List.getElem?_eq_getElem hr] at e
    exact lookG_mem e
  · rw [List.getD_eq_getElem?_getD, List.getElem?_eq_none (by omega)] at e
    simp [lookG_nil] at e
theorem doorH_lt {h : House} (o : okHouse h) {r s q : Nat} (e : doorH h r s = some q) : q < h.1.length := by
  obtain ⟨hr, m⟩ := doorH_mem e
  exact o.to _ (List.getElem_mem hr) _ m
theorem doorH_at {h : House} {r : Nat} (hr : r < h.1.length) (s : Nat) : doorH h r s = lookG h.1[r] s := by
  unfold doorH
  rw [List.getD_eq_getElem?_getD, List.getElem?_eq_getElem hr]; rfl
theorem doorH_of {h : House} (o : okHouse h) {r : Nat} (hr : r < h.1.length) {d : Nat × Nat} (m : d ∈ h.1[r]) : doorH h r d.1 = some d.2 := by
  rw [doorH_at hr]
  exact lookG_nodup (o.nd (List.getElem_mem hr)) m
def goFrom (h : House) (r : Nat) : List Nat → Option Nat
  | [] => some r
  | s :: t => (doorH h r s).bind fun q => goFrom h q t
def goesH (h : House) (t : List Nat) : Option Nat := goFrom h 0 t
theorem goFrom_app (h : House) : ∀ (a b : List Nat) (r : Nat), goFrom h r (a ++ b) = (goFrom h r a).bind fun q => goFrom h q b
  | [], b, r => rfl
  | s :: a, b, r => by
    rw [List.cons_append, goFrom, goFrom]
    cases doorH h r s with
    | none => rfl
    | some q => exact goFrom_app h a b q
theorem goFrom_snoc (h : House) (a : List Nat) (s r : Nat) : goFrom h r (a ++ [s]) = (goFrom h r a).bind fun q => doorH h q s := by
  rw [goFrom_app]
  congr 1
  funext q
  rw [goFrom]
  cases doorH h q s <;> rfl
theorem goesH_nil (h : House) : goesH h [] = some 0 := rfl
theorem goesH_snoc (h : House) (a : List Nat) (s : Nat) : goesH h (a ++ [s]) = (goesH h a).bind fun q => doorH h q s := goFrom_snoc h a s 0
theorem goesH_app (h : House) (a b : List Nat) : goesH h (a ++ b) = (goesH h a).bind fun q => goFrom h q b := goFrom_app h a b 0
theorem goFrom_lt {h : House} (o : okHouse h) : ∀ {t : List Nat} {r q : Nat}, r < h.1.length → goFrom h r t = some q → q < h.1.length
  | [], r, q, hr, e => by
    have : r = q := by simpa [goFrom] using e
    omega
  | s :: t, r, q, hr, e => by
    rw [goFrom] at e
    cases e2 : doorH h r s with
    | none => rw [e2] at e; simp at e
    | some w =>
      rw [e2] at e
      exact goFrom_lt o (doorH_lt o e2) e
theorem goesH_lt {h : House} (o : okHouse h) {t : List Nat} {q : Nat} (e : goesH h t = some q) : q < h.1.length := goFrom_lt o o.pos e
def takesB (h : House) (t : List Nat) : Bool := match goesH h t with
  | some r => decide (r ∈ h.2)
  | none => false
theorem takesB_iff {h : House} {t : List Nat} : takesB h t = true ↔ ∃ r, goesH h t = some r ∧ r ∈ h.2 := by
  unfold takesB
  cases goesH h t with
  | none => simp
  | some r => simp
theorem okHouse.sh {h : House} (o : okHouse h) : Sh 4 (houseD h) := sh_house fun ds m d md => o.sg ds m d md
theorem memD_ends (r : Nat) (h : House) : memD (.int (r : Int)) (nL h.2) = decide (r ∈ h.2) := memD_nL r h.2
/-- a sign of one of a room's doors -/
theorem pick_door {ps : List (Nat × Nat)} {z : Int} {P : Nat → Prop} (hn : ps.isEmpty = false) (h : ∀ d ∈ ps, P d.1) : ∃ d, atI (ps.map drD) (z % (ps.length : Int)) = some d ∧ ixD d (.int 0) fun d => ∃ x, d = PyData.str (tS [x]) ∧ P x := by
  have hp : 0 < ps.length := by cases ps <;> simp at hn ⊢
  refine pick_go (by simp) (by simpa using hp) fun d hd => ?_
  obtain ⟨e, me, rfl⟩ := List.mem_map.mp hd
  refine ⟨_, atI_c0 _ _, _, rfl, h e me⟩
theorem okEq_nilT {k : Nat} {d : D} (h : Sh k d) (hk : k ≤ 64) : okEq d (.tuple []) := by
  have h1 : Sh (k + 1) d := h.mono (by omega)
  have h2 : Sh (k + 1) (.tuple []) := sh_tuple (by simp)
  rcases Nat.lt_or_ge k 64 with q | q
  · exact okEq_of h1 h2 (by omega)
  · have h3 : Sh 64 d := h.mono hk
    exact okEq_of h3 ((sh_tuple (k := 0) (by simp)).mono (by decide)) (by decide)
/-- one of two numbers -/
theorem pick_two (a b : Nat) {x y z : Int} {P : D → Prop} (hx : x = (a : Int)) (hy : y = (b : Int)) (h : ∀ w : Nat, w = a ∨ w = b → P (.int w)) : ∃ d, atI [PyData.int x, PyData.int y] (z % 2) = some d ∧ P d :=
  pick_go (L := [PyData.int x, PyData.int y]) rfl (by simp) fun d hd => by
    simp only [List.mem_cons, List.not_mem_nil, or_false] at hd
    subst hx hy
    rcases hd with rfl | rfl
    · exact h a (.inl rfl)
    · exact h b (.inr rfl)
/-! ### houses ill told -/
theorem goodRm.sr {m : Nat} {ps : List (D × D)} {ds : List (Nat × Nat)} (g : goodRm m ps ds) : ∀ p ∈ ps, signB p.1 = true ∧ roomB m p.2 = true := fun p mp => by
  rw [g.1] at mp
  obtain ⟨d, md, rfl⟩ := List.mem_map.mp mp
  exact ⟨signB_of (g.2.1 d md).1, roomB_of (g.2.1 d md).2⟩
theorem goodRm.nod {m : Nat} {ps : List (D × D)} {ds : List (Nat × Nat)} (g : goodRm m ps ds) : (ps.map (·.1)).Nodup := by
  rw [g.1, List.map_map]
  refine List.pairwise_map.mpr ((List.pairwise_map.mp g.2.2).imp fun {a b} h e => h ?_)
  simp only [Function.comp, drR, PyData.str.injEq, tS_iff, List.cons.injEq, and_true] at e
  exact e
theorem goodHs.rooms {ps : List (List (D × D))} {es : List D} {h : House} (g : goodHs ps es h) : 1 ≤ ps.length ∧ ps.length ≤ 40 := by
  have := congrArg List.length g.ps
  have h1 := g.pos
  have h2 := g.len
  rw [List.length_map] at this
  omega
theorem goodHs.room {ps : List (List (D × D))} {es : List D} {h : House} (g : goodHs ps es h) : ∀ r ∈ ps, ∃ ds, goodRm ps.length r ds := fun r m => by
  have hl : ps.length = h.1.length := by rw [g.ps, List.length_map]
  rw [g.ps] at m
  obtain ⟨ds, md, rfl⟩ := List.mem_map.mp m
  exact ⟨ds, rfl, by rw [hl]; exact (g.rm ds md).1, (g.rm ds md).2⟩
theorem goodHs.en2 {ps : List (List (D × D))} {es : List D} {h : House} (g : goodHs ps es h) : (∀ e ∈ es, roomB ps.length e = true) ∧ es.Nodup := by
  have hl : ps.length = h.1.length := by rw [g.ps, List.length_map]
  rw [g.es, hl]
  refine ⟨fun e m => ?_, List.pairwise_map.mpr (g.nd.imp fun h e => h (by simp at e; omega))⟩
  obtain ⟨r, mr, rfl⟩ := List.mem_map.mp m
  exact roomB_of (g.en r mr)
def putL {α : Type} (xs : List α) (i : Nat) (x : α) : List α := xs.take i ++ [x] ++ xs.drop i
theorem putL_perm {α : Type} (xs : List α) (i : Nat) (x : α) : (putL xs i x).Perm (x :: xs) := by
  unfold putL
  have h1 : (xs.take i ++ [x]).Perm ([x] ++ xs.take i) := List.perm_append_comm
  have h2 := h1.append_right (xs.drop i)
  rw [List.append_assoc [x], List.take_append_drop] at h2
  exact h2
theorem putL_mem {α : Type} {xs : List α} {i : Nat} {x y : α} : y ∈ putL xs i x ↔ y = x ∨ y ∈ xs := by
  rw [(putL_perm xs i x).mem_iff, List.mem_cons]
theorem putL_len {α : Type} (xs : List α) (i : Nat) (x : α) : (putL xs i x).length = xs.length + 1 := by
  rw [(putL_perm xs i x).length_eq, List.length_cons]
theorem putL_map {α β : Type} (f : α → β) (xs : List α) (i : Nat) (x : α) : putL (xs.map f) i (f x) = (putL xs i x).map f := by
  unfold putL
  simp [List.map_take, List.map_drop]
theorem putL_twice {α β : Type} {f : α → β} {xs : List α} {i : Nat} {x : α} (h : f x ∈ xs.map f) : ¬ ((putL xs i x).map f).Nodup := fun n => by
  have := ((putL_perm xs i x).map f).nodup_iff.mp n
  rw [List.map_cons] at this
  exact (List.nodup_cons.mp this).1 h
def badRm (m : Nat) (ps : List (D × D)) : Prop := ¬ ∃ ds, goodRm m ps ds
theorem badRm_sign {m i : Nat} {ps : List (D × D)} {a b : D} (h : signB a = false) : badRm m (putL ps i (a, b)) := fun ⟨ds, g⟩ => by
  have := (g.sr _ (putL_mem.mpr (.inl rfl))).1
  rw [h] at this; cases this
theorem badRm_room {m i : Nat} {ps : List (D × D)} {a b : D} (h : roomB m b = false) : badRm m (putL ps i (a, b)) := fun ⟨ds, g⟩ => by
  have := (g.sr _ (putL_mem.mpr (.inl rfl))).2
  rw [h] at this; cases this
theorem badRm_twice {m i : Nat} {ps : List (D × D)} {p : D × D} (h : p.1 ∈ ps.map (·.1)) : badRm m (putL ps i p) := fun ⟨ds, g⟩ => putL_twice (f := fun p : D × D => p.1) h g.nod
theorem badRm_two {m : Nat} {a b c : D} : badRm m [(a, b), (a, c)] := fun ⟨ds, g⟩ => by
  have := g.nod
  simp at this
/-- ends ill told -/
def badEn (m : Nat) (es : List D) : Prop := ¬ ((∀ e ∈ es, roomB m e = true) ∧ es.Nodup)
theorem smok_drR (d : Nat × Nat) : ∀ n, SmOk n (drR d).1 ∧ SmOk n (drR d).2 := fun n => ⟨sok_str n _, sok_int n _⟩
theorem smok_dp {n : Nat} {p : D × D} (h : SmOk n p.1 ∧ SmOk n p.2) : SmOk (n + 1) (dpD p) := sok_tuple fun d m => by
  simp only [List.mem_cons, List.not_mem_nil, or_false] at m
  rcases m with rfl | rfl
  · exact h.1
  · exact h.2
theorem smok_mono : ∀ {n k : Nat} {d : D}, n ≤ k → SmOk n d → SmOk k d := by
  intro n
  induction n with
  | zero =>
    intro k d hk h
    cases d with
    | none => exact sok_none k
    | bool b => exact sok_bool k b
    | int b => exact sok_int k b
    | str b => exact sok_str k b
    | _ => exact h.elim
  | succ n ih =>
    intro k d hk h
    obtain ⟨j, rfl⟩ : ∃ j, k = j + 1 := ⟨k - 1, by omega⟩
    cases d with
    | none => exact sok_none _
    | bool b => exact sok_bool _ b
    | int b => exact sok_int _ b
    | str b => exact sok_str _ b
    | list ds => exact fun d m => ih (by omega) (h d m)
    | tuple ds => exact fun d m => ih (by omega) (h d m)
    | dict ds => exact ⟨h.1, fun p m => ih (by omega) (h.2 p m)⟩
theorem len_onesS (f : Nat → Nat) (xs : List Nat) : ((((xs.map fun c => [f c]).map tS)).map (fun x : Str => x.length)).sum = xs.length := by
  induction xs with
  | nil => rfl
  | cons x r ih => rw [List.map_cons, List.map_cons, List.map_cons, List.sum_cons, ih, List.length_cons, tS_len]; simp; omega
end DL

set_option Elab.async false
set_option linter.all false
set_option maxRecDepth 100000
set_option maxHeartbeats 1000000
/-! MI: houses padded, made of signs. -/
namespace DL
open PySem L2 PyProof.Rows
/-- a filler that pads -/
def okPad (h : House) (s : Nat) : Prop := okSg s ∧ h.1.length < 40 ∧ ∀ ds ∈ h.1, s ∉ ds.map (·.1)
/-- the padded house's doors and ends, as they are told -/
def padRaw (h : House) (s : Nat) : House := ((h.1.mapIdx fun i ds => if i ∈ h.2 then ds ++ [(s, h.1.length)] else ds) ++ [[(s, h.1.length)]], h.2 ++ [h.1.length])
def padH (h : House) (s : Nat) : House := sortH (padRaw h s)
theorem padRaw_len (h : House) (s : Nat) : (padRaw h s).1.length = h.1.length + 1 := by simp [padRaw]
theorem padRaw_good {h : House} (ok : okHouse h) {s : Nat} (p : okPad h s) : goodHs ((padRaw h s).1.map (·.map drR)) (nL (padRaw h s).2) (padRaw h s) where
  ps := rfl
  es := rfl
  pos := by rw [padRaw_len]; omega
  len := by rw [padRaw_len]; have := p.2.1; omega
  rm := fun ds m => by
    rw [padRaw_len]
    have one : (∀ d ∈ [(s, h.1.length)], okSg d.1 ∧ d.2 < h.1.length + 1) := fun d m => by
      simp at m; subst m; exact ⟨p.1, by simp⟩
    rcases List.mem_append.mp m with m | m
    · obtain ⟨i, hi, e⟩ := List.mem_mapIdx.mp m
      have mi := List.getElem_mem hi
      have old : ∀ d ∈ h.1[i], okSg d.1 ∧ d.2 < h.1.length + 1 := fun d md => ⟨ok.sg _ mi d md, by have := ok.to _ mi d md; omega⟩
      subst e
      split
      · refine ⟨fun d md => ?_, ?_⟩
        · rcases List.mem_append.mp md with md | md
          · exact old d md
          · exact one d md
        · rw [List.map_append]
          exact nodup_snoc (ok.nd mi) (p.2.2 _ mi)
      · exact ⟨old, ok.nd mi⟩
    · have : ds = [(s, h.1.length)] := by simpa using m
      subst this
      exact ⟨one, by simp⟩
  en := fun e m => by
    rw [padRaw_len]
    rcases List.mem_append.mp m with m | m
    · have := ok.ends e m; omega
    · have : e = h.1.length := by simpa using m
      omega
  nd := by
    refine nodup_snoc (ok.easc.imp fun h => Nat.ne_of_lt h) fun m => ?_
    have := ok.ends _ m
    omega
theorem padH_ok {h : House} (ok : okHouse h) {s : Nat} (p : okPad h s) : okHouse (padH h s) := (padRaw_good ok p).ok
/-- a room's doors as a dict -/
def encR (r : Nat) : D := .int (r : Int)
def psR (ds : List (Nat × Nat)) : List (Key × D) := ds.map fun l => (kO l.1, encR l.2)
theorem psR_eq (ds : List (Nat × Nat)) : ds.map drD = (psR ds).map pairD := by unfold psR; rw [List.map_map]; rfl
theorem psR_merge {ds : List (Nat × Nat)} (nd : (ds.map (·.1)).Nodup) : mergeD [] (psR ds) = dG kO encR ds := by
  have e := mergeD_dG (kk := kO) (enc := encR) kO_inj ds []
  rw [dG_nil] at e
  unfold psR
  rw [e, mergeG_nodup ds [] (by simpa using nd)]
  rfl
/-- k of the ends have their door -/
def padTo (h : House) (s k : Nat) : List (List (Nat × Nat)) := h.1.mapIdx fun i ds => if i ∈ h.2.take k then ds ++ [(s, h.1.length)] else ds
theorem padTo_len (h : House) (s k : Nat) : (padTo h s k).length = h.1.length := by simp [padTo]
theorem padTo_zero (h : House) (s : Nat) : padTo h s 0 = h.1 := by
  unfold padTo
  apply List.ext_getElem?
  intro i
  rw [List.getElem?_mapIdx]
  cases h.1[i]? <;> simp
theorem padTo_succ {h : House} (ok : okHouse h) {s k r : Nat} (e : h.2[k]? = some r) (hr : r < h.1.length) :
    ∃ ds, ds ∈ h.1 ∧ (padTo h s k)[r]? = some ds ∧ padTo h s (k + 1) = (padTo h s k).set r (ds ++ [(s, h.1.length)]) := by
  have hn : r ∉ h.2.take k := fun m => by
    obtain ⟨j, hj, ej⟩ := List.mem_take_iff_getElem.mp m
    obtain ⟨hk, ek⟩ := List.getElem?_eq_some_iff.mp e
    have := List.pairwise_iff_getElem.mp ok.easc j k (by omega) hk (by omega)
    omega
  refine ⟨h.1[r], List.getElem_mem hr, by unfold padTo; rw [List.getElem?_mapIdx, List.getElem?_eq_getElem hr]; simp [hn], ?_⟩
  apply List.ext_getElem?
  intro i
  by_cases hi : i = r
  · subst hi
    rw [List.getElem?_set_self (by rw [padTo_len]; exact hr)]
    unfold padTo
    rw [List.getElem?_mapIdx, List.getElem?_eq_getElem hr, take_succ e]
    simp
  · rw [List.getElem?_set_ne (Ne.symm hi)]
    unfold padTo
    rw [List.getElem?_mapIdx, List.getElem?_mapIdx, take_succ e]
    have : (i ∈ h.2.take k ++ [r]) = (i ∈ h.2.take k) := by simp [hi]
    simp only [this]
theorem padTo_all (h : House) (s : Nat) : padRaw h s = (padTo h s h.2.length ++ [[(s, h.1.length)]], h.2 ++ [h.1.length]) := by
  unfold padRaw padTo
  rw [List.take_length]
theorem padH_eq {h : House} (ok : okHouse h) (s : Nat) : padH h s = ((padTo h s h.2.length).map sortP ++ [[(s, h.1.length)]], h.2 ++ [h.1.length]) := by
  unfold padH sortH
  rw [padTo_all, List.map_append]
  simp only
  have e1 : [[(s, h.1.length)]].map sortP = [[(s, h.1.length)]] := by
    rw [List.map_singleton, sortP_self (by simp)]
  have e2 : sortN (h.2 ++ [h.1.length]) = h.2 ++ [h.1.length] := sortN_self (by
    refine List.pairwise_append.mpr ⟨ok.easc.imp fun h => Nat.le_of_lt h, List.pairwise_singleton _ _, fun a ma b mb => ?_⟩
    have := ok.ends a ma
    have : b = h.1.length := by simpa using mb
    omega)
  rw [e1, e2]
theorem padTo_at {h : House} {s r : Nat} (hr : r < h.1.length) : (padTo h s h.2.length)[r]? = some (if r ∈ h.2 then h.1[r] ++ [(s, h.1.length)] else h.1[r]) := by
  unfold padTo
  rw [List.getElem?_mapIdx, List.getElem?_eq_getElem hr, List.take_length]; rfl
/-! ### fillers taken off -/
def rstripN (s : Nat) (l : List Nat) : List Nat := l.take (l.length - (l.reverse.takeWhile fun c => c == s).length)
theorem tS_rstrip (l : List Nat) (s : Nat) : Txt.rstripChars (tS l) (tS [s]) = tS (rstripN s l) := by
  unfold Txt.rstripChars Txt.stripBy
  have hl : (tS l).length = l.length := tS_len l
  have hg : ((tS [s]).cps.contains) = fun c => c == s := by
    funext c
    unfold tS
    simp
    rw [Bool.eq_iff_iff]; simp
  rw [hg]
  have hcut : Builtin.Str.strSub (tS l) 0 (l.length - (l.reverse.takeWhile fun c => c == s).length) = tS (rstripN s l) := by
    unfold Builtin.Str.strSub tS rstripN
    simp
  unfold stripSame stripped
  have h0 : stripLo (fun c => c == s) false (tS l) = 0 := rfl
  have h1 : stripHi (fun c => c == s) true (tS l) 0 = l.length - (l.reverse.takeWhile fun c => c == s).length := by
    unfold stripHi
    rw [hl, tS_cps]
    simp
  rw [h0, h1, hl, hcut]
  split
  · rename_i h
    simp only [beq_self_eq_true, Bool.true_and, beq_iff_eq] at h
    have e : rstripN s l = l := by unfold rstripN; rw [h]; simp
    rw [e]
  · rfl
theorem rstrip_split (s : Nat) (l : List Nat) : ∃ k, l = rstripN s l ++ List.replicate k s ∧ (∀ a c, rstripN s l = a ++ [c] → c ≠ s) := by
  have key : ∀ r : List Nat, ∃ k, r = List.replicate k s ++ r.dropWhile (fun c => c == s) ∧ k = (r.takeWhile fun c => c == s).length ∧ ∀ c a, r.dropWhile (fun c => c == s) = c :: a → c ≠ s := by
    intro r
    induction r with
    | nil => exact ⟨0, rfl, rfl, by simp⟩
    | cons c r ih =>
      obtain ⟨k, h1, h2, h3⟩ := ih
      by_cases e : c = s
      · subst e
        refine ⟨k + 1, ?_, ?_, ?_⟩
        · rw [List.dropWhile_cons_of_pos (by simp), List.replicate_succ, List.cons_append, ← h1]
        · rw [List.takeWhile_cons_of_pos (by simp), List.length_cons, h2]
        · rw [List.dropWhile_cons_of_pos (by simp)]; exact h3
      · refine ⟨0, ?_, ?_, ?_⟩
        · rw [List.dropWhile_cons_of_neg (by simpa using e)]; rfl
        · rw [List.takeWhile_cons_of_neg (by simpa using e)]; rfl
        · rw [List.dropWhile_cons_of_neg (by simpa using e)]
          intro c' a h
          cases h
          exact e
  obtain ⟨k, h1, h2, h3⟩ := key l.reverse
  have e1 : l = (l.reverse.dropWhile fun c => c == s).reverse ++ List.replicate k s := by
    have := congrArg List.reverse h1
    rw [List.reverse_reverse, List.reverse_append, List.reverse_replicate] at this
    exact this
  have e2 : rstripN s l = (l.reverse.dropWhile fun c => c == s).reverse := by
    unfold rstripN
    rw [← h2]
    have hlen := congrArg List.length e1
    rw [List.length_append, List.length_replicate] at hlen
    rw [show l.length - k = ((l.reverse.dropWhile fun c => c == s).reverse).length from by omega]
    generalize hv : (l.reverse.dropWhile fun c => c == s).reverse = v at e1
    rw [e1, List.take_left]
  refine ⟨k, by rw [e2]; exact e1, fun a c h => ?_⟩
  rw [e2] at h
  have := congrArg List.reverse h
  rw [List.reverse_reverse, List.reverse_append] at this
  exact h3 c _ this
/-! ### what a padded house takes -/
theorem lookG_perm {a b : List (Nat × Nat)} (p : a.Perm b) (nd : (b.map (·.1)).Nodup) (k : Nat) : lookG a k = lookG b k := by
  have nda : (a.map (·.1)).Nodup := (p.map _).nodup_iff.mpr nd
  cases h : lookG b k with
  | none =>
    refine lookG_none.mpr fun m => lookG_none.mp h ?_
    exact (p.map _).mem_iff.mp m
  | some x => exact lookG_nodup nda (p.mem_iff.mpr (lookG_mem h))
section
variable {h : House} {s : Nat} (ok : okHouse h) (p : okPad h s)
include ok p
theorem padH_at {r : Nat} (hr : r < h.1.length) : (padH h s).1.getD r [] = sortP (if r ∈ h.2 then h.1[r] ++ [(s, h.1.length)] else h.1[r]) := by
  rw [padH_eq ok, List.getD_eq_getElem?_getD, List.getElem?_append_left (by rw [List.length_map, padTo_len]; exact hr), List.getElem?_map, padTo_at hr]
  rfl
theorem padH_last : (padH h s).1.getD h.1.length [] = [(s, h.1.length)] := by
  rw [padH_eq ok, List.getD_eq_getElem?_getD, List.getElem?_append_right (by rw [List.length_map, padTo_len]; exact Nat.le_refl _)]
  simp [padTo_len]
theorem pad_door {r c : Nat} (hr : r < h.1.length) (hc : c ≠ s) : doorH (padH h s) r c = doorH h r c := by
  have nd := ok.nd (List.getElem_mem hr)
  have ns := p.2.2 _ (List.getElem_mem hr)
  unfold doorH
  rw [padH_at ok p hr, lookG_perm (sortP_perm _) (by
    split
    · rw [List.map_append]; exact nodup_snoc nd ns
    · exact nd)]
  rw [List.getD_eq_getElem?_getD, List.getElem?_eq_getElem hr]
  split
  · rw [lookG_app, lookG_cons, if_neg (fun e => hc e.symm), lookG_nil]
    simp
  · rfl
theorem pad_fill {r : Nat} (hr : r < h.1.length) : doorH (padH h s) r s = if r ∈ h.2 then some h.1.length else none := by
  have nd := ok.nd (List.getElem_mem hr)
  have ns := p.2.2 _ (List.getElem_mem hr)
  unfold doorH
  rw [padH_at ok p hr, lookG_perm (sortP_perm _) (by
    split
    · rw [List.map_append]; exact nodup_snoc nd ns
    · exact nd)]
  split
  · rw [lookG_app, lookG_none.mpr ns, lookG_cons, if_pos rfl]; rfl
  · exact lookG_none.mpr ns
theorem pad_stay (c : Nat) : doorH (padH h s) h.1.length c = if c = s then some h.1.length else none := by
  unfold doorH
  rw [padH_last ok p, lookG_cons, lookG_nil]
  simp only [eq_comm]
theorem door_no {r : Nat} : doorH h r s = none := by
  by_cases hr : r < h.1.length
  · rw [doorH_at hr]; exact lookG_none.mpr (p.2.2 _ (List.getElem_mem hr))
  · unfold doorH
    rw [List.getD_eq_getElem?_getD, List.getElem?_eq_none (by omega)]; rfl
theorem go_no : ∀ {v : List Nat} {r : Nat}, s ∈ v → goFrom h r v = none
  | c :: v, r, m => by
    rw [goFrom]
    by_cases hc : c = s
    · subst hc; rw [door_no ok p]; rfl
    · have m : s ∈ v := by
        rcases List.mem_cons.mp m with e | m
        · exact absurd e.symm hc
        · exact m
      cases doorH h r c with
      | none => rfl
      | some q => exact go_no m
theorem pad_go : ∀ {v : List Nat} {r : Nat}, r < h.1.length → s ∉ v → goFrom (padH h s) r v = goFrom h r v
  | [], r, _, _ => rfl
  | c :: v, r, hr, m => by
    rw [goFrom, goFrom, pad_door ok p hr (fun e => m (by rw [e]; exact List.mem_cons_self ..))]
    cases e : doorH h r c with
    | none => rfl
    | some q => exact pad_go (doorH_lt ok e) fun q => m (List.mem_cons_of_mem _ q)
theorem pad_rep : ∀ k : Nat, goFrom (padH h s) h.1.length (List.replicate k s) = some h.1.length
  | 0 => rfl
  | k + 1 => by rw [List.replicate_succ, goFrom, pad_stay ok p, if_pos rfl]; exact pad_rep k
theorem pad_last_none : ∀ {v : List Nat} {a : List Nat} {c : Nat}, v = a ++ [c] → c ≠ s → goFrom (padH h s) h.1.length v = none
  | [], a, c, e, _ => by simp at e
  | x :: v, a, c, e, hc => by
    rw [goFrom, pad_stay ok p]
    by_cases hx : x = s
    · rw [if_pos hx]
      cases a with
      | nil => simp at e; exact absurd (e.1.symm.trans hx) hc
      | cons y a =>
        simp only [List.cons_append, List.cons.injEq] at e
        exact pad_last_none (v := v) e.2 hc
    · rw [if_neg hx]; rfl
theorem pad_mid : ∀ {v : List Nat} {r : Nat}, r < h.1.length → s ∈ v → (∀ a c, v = a ++ [c] → c ≠ s) → goFrom (padH h s) r v = none
  | x :: v, r, hr, m, hl => by
    by_cases hx : x = s
    · subst hx
      rw [goFrom, pad_fill ok p hr]
      split
      · have hv : v ≠ [] := fun e => hl [] x (by rw [e]; rfl) rfl
        exact pad_last_none ok p (v := v) (a := v.dropLast) (c := v.getLast hv) (List.dropLast_concat_getLast hv).symm fun e => hl (x :: v.dropLast) (v.getLast hv) (by rw [List.cons_append, List.dropLast_concat_getLast hv]) e
      · rfl
    · rw [goFrom, pad_door ok p hr hx]
      cases e : doorH h r x with
      | none => rfl
      | some q =>
        have m : s ∈ v := by
          rcases List.mem_cons.mp m with e | m
          · exact absurd e.symm hx
          · exact m
        exact pad_mid (doorH_lt ok e) m fun a c e2 => hl (x :: a) c (by rw [e2]; rfl)
theorem pad_ends (q : Nat) : q ∈ (padH h s).2 ↔ q ∈ h.2 ∨ q = h.1.length := by
  rw [padH_eq ok]; simp
theorem pad_takes (t : List Nat) : takesB (padH h s) t = takesB h (rstripN s t) := by
  obtain ⟨k, e, hl⟩ := rstrip_split s t
  generalize rstripN s t = v at e hl
  subst e
  rw [Bool.eq_iff_iff, takesB_iff, takesB_iff]
  by_cases m : s ∈ v
  · have h1 : goesH (padH h s) (v ++ List.replicate k s) = none := by
      rw [goesH_app, show goesH (padH h s) v = none from pad_mid ok p ok.pos m hl]; rfl
    have h2 : goesH h v = none := go_no ok p m
    rw [h1, h2]
    simp
  · have h1 : goesH (padH h s) v = goesH h v := pad_go ok p ok.pos m
    rw [goesH_app, h1]
    cases e : goesH h v with
    | none => simp
    | some r =>
      have hr := goesH_lt ok e
      simp only [Option.bind_some, Option.some.injEq, exists_eq_left']
      cases k with
      | zero =>
        simp only [List.replicate, goFrom, Option.some.injEq, exists_eq_left', pad_ends ok p]
        constructor
        · rintro (q | q)
          · exact q
          · omega
        · exact .inl
      | succ k =>
        rw [List.replicate_succ, goFrom, pad_fill ok p hr]
        split
        · rename_i hm
          simp only [Option.bind_some, pad_rep ok p, Option.some.injEq, exists_eq_left', pad_ends ok p, or_true, hm]
        · rename_i hm
          simp [hm]
end
end DL

set_option Elab.async false
set_option linter.all false
set_option maxRecDepth 100000
set_option maxHeartbeats 1000000
/-! MN: near papers: for each column and room the least gap of what may stand from there on, and how many texts have it. -/
namespace DL
open PySem L2 PyProof.Rows
abbrev Ent := Option (Nat × Nat)
def entD : Ent → D
  | none => .none
  | some p => .tuple [.int (p.1 : Int), .int (p.2 : Int)]
--simp entD_n, entD_s, enI_n, enI_s, enI_iff, encM_eq, rowO_frz, paperO_frz, ent_iff, entl_iff, paper_iff
theorem entD_n : entD none = .none := rfl
theorem entD_s (p : Nat × Nat) : entD (some p) = .tuple [.int (p.1 : Int), .int (p.2 : Int)] := rfl
theorem entD_inj {a b : Ent} (h : entD a = entD b) : a = b := by
  cases a <;> cases b <;> simp [entD] at h ⊢
  rename_i p q
  exact Prod.ext (by omega) (by omega)
theorem ent_iff (a b : Ent) : (entD a = entD b) = (a = b) := propext ⟨entD_inj, fun h => by rw [h]⟩
theorem entl_iff (a b : List Ent) : (a.map entD = b.map entD) = (a = b) := map_iff (fun x y e => entD_inj e) a b
def encM (p : Nat × Nat) : D := .tuple [.int (p.1 : Int), .int (p.2 : Int)]
theorem encM_eq (p : Nat × Nat) : encM p = .tuple [.int (p.1 : Int), .int (p.2 : Int)] := rfl
abbrev rowD (r : List Ent) : D := .list (r.map entD)
def rowO (r : List Ent) : O := .lst (r.map entD)
abbrev Paper := List (List Ent)
theorem rowO_frz (r : List Ent) : O.frz (rowO r) = rowD r := by unfold rowO; rw [O.frz_lst]
theorem paperO_frz (p : Paper) : (p.map rowO).map O.frz = p.map rowD := by rw [List.map_map]; apply List.map_congr_left; intro r _; exact rowO_frz r
theorem paper_iff (a b : Paper) : (a.map rowD = b.map rowD) = (a = b) := map_iff (fun x y e => by
  simp only [rowD, PyData.list.injEq, entl_iff] at e
  exact e) a b
/-- a comprehension that keeps some, we know not which -/
theorem lc_subE {α : Type} {ls : List α} {enc : α → D} {env : Env} {vs : List Nat} {g : WG} {c : WT} {t : WE} {Q : R → Prop} (f : α → D) (hz : ls.length ≤ sizeLine)
    (h : ∀ x ∈ ls, ∀ (A : R → Prop) (B : Prop), (∀ r, r.st → r.d = f x → A r) → B → g (enc x) (wipeE env vs) fun env2 => c env2 (fun k => if k = true then t env2 A noE else B) noE)
    (q : ∀ ys : List α, ys.Sublist ls → Q (.t (.lst (ys.map f)))) : LcI env (ls.map enc) vs g c t Q := by
  refine ⟨fun i acc => ∃ ys : List α, acc = ys.map f ∧ ys.Sublist (ls.take i), ⟨[], rfl, by simp⟩, fun i d acc hd ha => ?_, fun acc ha => ?_⟩
  · obtain ⟨x, hx, e⟩ := map_get hd
    subst e
    obtain ⟨ys, e, hs⟩ := ha
    subst e
    refine h x (List.mem_of_getElem? hx) _ _ (fun r rs rd => ⟨rs, ?_, ys ++ [x], ?_, ?_⟩) ⟨ys, rfl, ?_⟩
    · have hi := (List.getElem?_eq_some_iff.mp hx).1
      have := hs.length_le
      rw [List.length_take] at this
      rw [List.length_map]
      omega
    · rw [rd, List.map_append]; rfl
    · rw [take_succ hx]
      exact List.Sublist.append hs (List.Sublist.refl _)
    · rw [take_succ hx]
      exact hs.trans (List.sublist_append_left _ _)
  · obtain ⟨ys, e, hs⟩ := ha
    subst e
    rw [List.length_map, List.take_length] at hs
    exact q ys hs
theorem okFont_sorted {h n : Nat} {ls ms : List Lt} {ss : List Nat} (h1 : 1 ≤ h) (h60 : h ≤ 60) (n1 : 1 ≤ n) (n40 : n ≤ 40) (hn : n ≤ ss.length) (keys : ls.map (·.1) = ss.take n)
    (hl : ∀ l ∈ ls, 1 ≤ l.2.length ∧ l.2.length ≤ 8 ∧ ∀ c ∈ l.2, c < 2 ^ h) (hsg : ∀ s ∈ ss, okSg s) (nd : ss.Nodup) (p : ms.Perm ls) (o : ms.Pairwise fun a b => a.1 ≤ b.1) : okFont (h, ms) ∧ (ms.map (·.1)).Perm (ss.take n) := by
  have pk : (ms.map (·.1)).Perm (ss.take n) := keys ▸ p.map _
  have len := pk.length_eq
  rw [List.length_map, List.length_take, Nat.min_eq_left hn] at len
  refine ⟨⟨h1, h60, by show 0 < ms.length; omega, by show ms.length ≤ 40; omega, fun l m => ?_, fun l m => (hl l (p.mem_iff.mp m)).1, fun l m => (hl l (p.mem_iff.mp m)).2.1, fun l m => (hl l (p.mem_iff.mp m)).2.2, ?_⟩, pk⟩
  · exact hsg _ (List.mem_of_mem_take (pk.mem_iff.mp (List.mem_map_of_mem (f := fun l : Lt => l.1) m)))
  · exact asc_of_nodup (List.pairwise_map.mpr o) (pk.nodup_iff.mpr (nd.sublist (List.take_sublist _ _)))
/-- a room's doors sorted -/
theorem okRoom_sorted {n k : Nat} {ds ms : List (Nat × Nat)} {ss : List Nat} (hk : (ds.map (·.1)).Sublist (ss.take k)) (hd : ∀ d ∈ ds, d.2 < n) (hsg : ∀ s ∈ ss, okSg s) (nd : ss.Nodup) (p : ms.Perm ds) (o : ms.Pairwise fun a b => a.1 ≤ b.1) :
    (∀ d ∈ ms, d.2 < n ∧ okSg d.1 ∧ d.1 ∈ ss) ∧ (ms.map (·.1)).Pairwise (· < ·) := by
  have pk : (ms.map (·.1)).Perm (ds.map (·.1)) := p.map _
  have hin : ∀ d ∈ ms, d.1 ∈ ss := fun d m => List.mem_of_mem_take (hk.subset (pk.mem_iff.mp (List.mem_map_of_mem (f := fun d : Nat × Nat => d.1) m)))
  exact ⟨fun d m => ⟨hd d (p.mem_iff.mp m), hsg _ (hin d m), hin d m⟩, asc_of_nodup (List.pairwise_map.mpr o) (pk.nodup_iff.mpr (nd.sublist (hk.trans (List.take_sublist _ _))))⟩
theorem sum_cast {α : Type} (f : α → Nat) : ∀ l : List α, (l.map fun x => ((f x : Nat) : Int)).sum = (((l.map f).sum : Nat) : Int)
  | [] => rfl
  | x :: l => by rw [List.map_cons, List.sum_cons, sum_cast f l, List.map_cons, List.sum_cons]; omega
theorem gap_list : ∀ (cs xs : List Nat) (x : Nat), x + cs.length ≤ xs.length → ((List.range cs.length).map fun j => apN (cs.getD j 0) (xs.getD (x + j) 0)) = ((cs.zip (xs.drop x)).map fun p => apN p.1 p.2)
  | cs, xs, x, h => by
    apply List.ext_getElem
    · simp; omega
    · intro i h1 h2
      simp at h1 h2
      simp only [List.getElem_map, List.getElem_range, List.getElem_zip, List.getElem_drop]
      rw [List.getD_eq_getElem?_getD, List.getElem?_eq_getElem (by omega), List.getD_eq_getElem?_getD, List.getElem?_eq_getElem (by omega)]; rfl
theorem gap_sum {cs xs : List Nat} {x : Nat} (h : x + cs.length ≤ xs.length) : ((List.range cs.length).map fun j => ((apN (cs.getD j 0) (xs.getD (x + j) 0) : Nat) : Int)).sum = ((gapN cs (xs.drop x) : Nat) : Int) := by
  rw [sum_cast, gap_list cs xs x h]; rfl
theorem ofNat_add (x j : Nat) : (x : Int) + (j : Int) = ((x + j : Nat) : Int) := by push_cast; rfl
/-! ### marks -/
def markF (xs : List Nat) (x : Nat) (l : Lt) : Option (Nat × (Nat × Nat)) := if x + l.2.length ≤ xs.length then some (l.1, gapN l.2 (xs.drop x), x + l.2.length) else none
def marksT (ls : List Lt) (xs : List Nat) (x : Nat) : List (Nat × (Nat × Nat)) := ls.filterMap (markF xs x)
theorem marksT_keys {ls : List Lt} {xs : List Nat} {x s : Nat} (h : s ∈ (marksT ls xs x).map (·.1)) : s ∈ ls.map (·.1) := by
  obtain ⟨p, m, rfl⟩ := List.mem_map.mp h
  obtain ⟨l, ml, e⟩ := List.mem_filterMap.mp m
  unfold markF at e
  split at e
  · cases e; exact List.mem_map_of_mem (f := fun l : Lt => l.1) ml
  · cases e
theorem marksT_snoc (ls : List Lt) (l : Lt) (xs : List Nat) (x : Nat) : marksT (ls ++ [l]) xs x = marksT ls xs x ++ (markF xs x l).toList := by
  unfold marksT
  rw [List.filterMap_append]
  congr 1
theorem marksT_put {ls : List Lt} {k : Nat} {l : Lt} (nd : (ls.map (·.1)).Nodup) (h : ls[k]? = some l) {xs : List Nat} {x : Nat} (hx : x + l.2.length ≤ xs.length) :
    putG (marksT (ls.take k) xs x) l.1 (gapN l.2 (xs.drop x), x + l.2.length) = marksT (ls.take (k + 1)) xs x := by
  rw [take_succ h, marksT_snoc, markF, if_pos hx]
  refine putG_new fun m => ?_
  have m := marksT_keys m
  have e : ls.take (k + 1) = ls.take k ++ [l] := take_succ h
  have nd2 : ((ls.take (k + 1)).map (·.1)).Nodup := by
    rw [List.map_take]; exact nd.sublist (List.take_sublist _ _)
  rw [e, List.map_append] at nd2
  exact (List.nodup_append.mp nd2).2.2 _ m _ (List.mem_singleton.mpr rfl) rfl
theorem marksT_skip {ls : List Lt} {k : Nat} {l : Lt} (h : ls[k]? = some l) {xs : List Nat} {x : Nat} (hx : ¬ x + l.2.length ≤ xs.length) :
    marksT (ls.take (k + 1)) xs x = marksT (ls.take k) xs x := by
  rw [take_succ h, marksT_snoc, markF, if_neg hx]; simp
theorem lookG_marks {ls : List Lt} (nd : (ls.map (·.1)).Nodup) (xs : List Nat) (x s : Nat) : lookG (marksT ls xs x) s = (colsOf ls s).bind fun cs => if x + cs.length ≤ xs.length then some (gapN cs (xs.drop x), x + cs.length) else none := by
  induction ls with
  | nil => rfl
  | cons l ls ih =>
    rw [List.map_cons, List.nodup_cons] at nd
    rw [colsOf_cons]
    have e : marksT (l :: ls) xs x = (markF xs x l).toList ++ marksT ls xs x := by
      unfold marksT
      rw [List.filterMap_cons]
      cases markF xs x l <;> rfl
    rw [e]
    by_cases h : l.1 = s
    · subst h
      rw [if_pos rfl, Option.bind_some, markF]
      split
      · show lookG ((l.1, _) :: _) l.1 = _
        rw [lookG_cons, if_pos rfl]
      · show lookG (marksT ls xs x) l.1 = none
        exact lookG_none.mpr fun m => nd.1 (marksT_keys m)
    · rw [if_neg h, ← ih nd.2, markF]
      split
      · show lookG ((l.1, _) :: _) s = _
        rw [lookG_cons]; simp only [if_neg h]; rfl
      · rfl
theorem marksT_len (ls : List Lt) (xs : List Nat) (x : Nat) : (marksT ls xs x).length ≤ ls.length := List.length_filterMap_le ..
/-! ### the least entries -/
/-- one more way on -/
def stE (e : Ent) : Ent → Ent
  | none => e
  | some (far, m) => match e with
    | none => some (far, m)
    | some (g, k) => if far < g then some (far, m) else if far = g then some (g, k + m) else some (g, k)
def putE (c : Nat) (t : Ent) : Ent := t.map fun t => (c + t.1, t.2)
def goE (ms : List (Nat × (Nat × Nat))) (p : Paper) (d : Nat × Nat) : Ent := (lookG ms d.1).bind fun m => putE m.1 ((p.getD m.2 []).getD d.2 none)
def leastE (ds : List (Nat × Nat)) (ms : List (Nat × (Nat × Nat))) (p : Paper) : Ent := ds.foldl (fun e d => stE e (goE ms p d)) none
theorem leastE_snoc (ds : List (Nat × Nat)) (d : Nat × Nat) (ms : List (Nat × (Nat × Nat))) (p : Paper) : leastE (ds ++ [d]) ms p = stE (leastE ds ms p) (goE ms p d) := by unfold leastE; rw [List.foldl_append]; rfl
theorem goE_no {ms : List (Nat × (Nat × Nat))} {p : Paper} {d : Nat × Nat} (h : lookG ms d.1 = none) : goE ms p d = none := by unfold goE; rw [h]; rfl
theorem goE_at {ms : List (Nat × (Nat × Nat))} {p : Paper} {d : Nat × Nat} {m : Nat × Nat} (h : lookG ms d.1 = some m) : goE ms p d = putE m.1 ((p.getD m.2 []).getD d.2 none) := by unfold goE; rw [h]; rfl
theorem stE_none (e : Ent) : stE e none = e := rfl
/-- a paper of the right shape from place b on -/
def shaped (p : Paper) (b rooms : Nat) : Prop := ∀ x, b ≤ x → x < p.length → (p.getD x []).length = rooms
/-! ### entries of any numbers -/
abbrev EntI := Option (Int × Int)
def enI : EntI → D
  | none => .none
  | some p => .tuple [.int p.1, .int p.2]
theorem enI_n : enI none = .none := rfl
theorem enI_s (p : Int × Int) : enI (some p) = .tuple [.int p.1, .int p.2] := rfl
theorem enI_inj {a b : EntI} (h : enI a = enI b) : a = b := by
  cases a <;> cases b <;> simp [enI] at h ⊢
  rename_i p q
  exact Prod.ext h.1 h.2
theorem enI_iff (a b : EntI) : (enI a = enI b) = (a = b) := propext ⟨enI_inj, fun h => by rw [h]⟩
theorem enIl_iff (a b : List EntI) : (a.map enI = b.map enI) = (a = b) := map_iff (fun x y e => enI_inj e) a b
def castE (e : Ent) : EntI := e.map fun p => ((p.1 : Int), (p.2 : Int))
theorem entD_I (e : Ent) : entD e = enI (castE e) := by cases e <;> rfl
theorem castE_inj {a b : Ent} (h : castE a = castE b) : a = b := entD_inj (by rw [entD_I, entD_I, h])
abbrev PaperI := List (List EntI)
abbrev rowI (r : List EntI) : D := .list (r.map enI)
def castR (r : List Ent) : List EntI := r.map castE
def castP (p : Paper) : PaperI := p.map castR
theorem rowD_I (r : List Ent) : rowD r = rowI (castR r) := by
  show PyData.list (r.map entD) = .list ((r.map castE).map enI)
  rw [List.map_map]
  congr 1
  apply List.map_congr_left
  intro e _
  exact entD_I e
theorem paperD_I (p : Paper) : p.map rowD = (castP p).map rowI := by
  unfold castP
  rw [List.map_map]
  apply List.map_congr_left
  intro r _
  exact rowD_I r
theorem paperI_iff (a b : PaperI) : (a.map rowI = b.map rowI) = (a = b) := map_iff (fun x y e => by
  simp only [rowI, PyData.list.injEq, enIl_iff] at e
  exact e) a b
theorem castR_inj {a b : List Ent} (h : castR a = castR b) : a = b := (List.map_inj_right fun _ _ e => castE_inj e).mp h
theorem castP_inj {a b : Paper} (h : castP a = castP b) : a = b := (List.map_inj_right fun _ _ e => castR_inj e).mp h
theorem castP_at (p : Paper) (k : Nat) : (castP p).getD k [] = castR (p.getD k []) := by
  unfold castP
  rw [List.getD_eq_getElem?_getD, List.getD_eq_getElem?_getD, List.getElem?_map]
  cases p[k]? <;> rfl
theorem castR_at (r : List Ent) (k : Nat) : (castR r).getD k none = castE (r.getD k none) := by
  unfold castR
  rw [List.getD_eq_getElem?_getD, List.getD_eq_getElem?_getD, List.getElem?_map]
  cases r[k]? <;> rfl
theorem castR_len (r : List Ent) : (castR r).length = r.length := List.length_map ..
theorem castP_len (p : Paper) : (castP p).length = p.length := List.length_map ..
def stI (e : EntI) : EntI → EntI
  | none => e
  | some (far, m) => match e with
    | none => some (far, m)
    | some (g, k) => if far < g then some (far, m) else if far = g then some (g, k + m) else some (g, k)
def putI (c : Nat) (t : EntI) : EntI := t.map fun t => ((c : Int) + t.1, t.2)
def goI (ms : List (Nat × (Nat × Nat))) (p : PaperI) (d : Nat × Nat) : EntI := (lookG ms d.1).bind fun m => putI m.1 ((p.getD m.2 []).getD d.2 none)
def leastI (ds : List (Nat × Nat)) (ms : List (Nat × (Nat × Nat))) (p : PaperI) : EntI := ds.foldl (fun e d => stI e (goI ms p d)) none
theorem leastI_snoc (ds : List (Nat × Nat)) (d : Nat × Nat) (ms : List (Nat × (Nat × Nat))) (p : PaperI) : leastI (ds ++ [d]) ms p = stI (leastI ds ms p) (goI ms p d) := by unfold leastI; rw [List.foldl_append]; rfl
theorem goI_no {ms : List (Nat × (Nat × Nat))} {p : PaperI} {d : Nat × Nat} (h : lookG ms d.1 = none) : goI ms p d = none := by unfold goI; rw [h]; rfl
theorem goI_at {ms : List (Nat × (Nat × Nat))} {p : PaperI} {d : Nat × Nat} {m : Nat × Nat} (h : lookG ms d.1 = some m) : goI ms p d = putI m.1 ((p.getD m.2 []).getD d.2 none) := by unfold goI; rw [h]; rfl
theorem stI_cast (a b : Ent) : stI (castE a) (castE b) = castE (stE a b) := by
  cases b with
  | none => rfl
  | some q =>
    obtain ⟨far, m⟩ := q
    cases a with
    | none => rfl
    | some p =>
      obtain ⟨g, k⟩ := p
      show (if (far : Int) < (g : Int) then some ((far : Int), (m : Int)) else if (far : Int) = (g : Int) then some ((g : Int), (k : Int) + (m : Int)) else some ((g : Int), (k : Int))) = castE (if far < g then some (far, m) else if far = g then some (g, k + m) else some (g, k))
      by_cases h : far < g
      · rw [if_pos h, if_pos (by omega)]; rfl
      · rw [if_neg h, if_neg (by omega)]
        by_cases h2 : far = g
        · rw [if_pos h2, if_pos (by omega)]; rfl
        · rw [if_neg h2, if_neg (by omega)]; rfl
theorem putI_cast (c : Nat) (t : Ent) : putI c (castE t) = castE (putE c t) := by
  cases t with
  | none => rfl
  | some p => rfl
theorem goI_cast (ms : List (Nat × (Nat × Nat))) (p : Paper) (d : Nat × Nat) : goI ms (castP p) d = castE (goE ms p d) := by
  cases h : lookG ms d.1 with
  | none => rw [goI_no h, goE_no h]; rfl
  | some m => rw [goI_at h, goE_at h, castP_at, castR_at, putI_cast]
theorem fold_cast (ms : List (Nat × (Nat × Nat))) (p : Paper) : ∀ (ds : List (Nat × Nat)) (e : Ent), ds.foldl (fun e d => stI e (goI ms (castP p) d)) (castE e) = castE (ds.foldl (fun e d => stE e (goE ms p d)) e)
  | [], e => rfl
  | d :: ds, e => by rw [List.foldl_cons, List.foldl_cons, goI_cast, stI_cast, fold_cast ms p ds]
theorem leastI_cast (ds : List (Nat × Nat)) (ms : List (Nat × (Nat × Nat))) (p : Paper) : leastI ds ms (castP p) = castE (leastE ds ms p) := fold_cast ms p ds none
theorem leastD (ds : List (Nat × Nat)) (ms : List (Nat × (Nat × Nat))) (p : Paper) : enI (leastI ds ms (castP p)) = entD (leastE ds ms p) := by rw [leastI_cast, ← entD_I]
/-- what a door finds in a paper -/
def fitsP (ms : List (Nat × (Nat × Nat))) (p : PaperI) (d : Nat × Nat) : Prop := ∀ m, lookG ms d.1 = some m → m.2 < p.length ∧ d.2 < (p.getD m.2 []).length
theorem fits_at {p : PaperI} {b r : Nat} (hb : b < p.length) (hr : r < (p.getD b []).length) : atI (p.map rowI) (b : Int) = some (rowI (p.getD b [])) ∧ atI ((p.getD b []).map enI) (r : Int) = some (enI ((p.getD b []).getD r none)) := by
  refine ⟨?_, ?_⟩
  · rw [atI_map_lt _ hb, List.getD_eq_getElem?_getD, List.getElem?_eq_getElem hb]; rfl
  · generalize p.getD b [] = row at hr
    rw [atI_map_lt _ hr, List.getD_eq_getElem?_getD, List.getElem?_eq_getElem hr]; rfl
/-! ### the paper of a strip, from its end on -/
def lastRow (h : House) : List Ent := (List.range h.1.length).map fun r => if r ∈ h.2 then some (0, 1) else none
def rowE (f : Font) (h : House) (xs : List Nat) (p : Paper) : List Ent := h.1.map fun ds => leastE ds (marksT f.2 xs 0) ([] :: p)
def paperS (f : Font) (h : House) : List Nat → Paper
  | [] => [lastRow h]
  | c :: xs => rowE f h (c :: xs) (paperS f h xs) :: paperS f h xs
theorem paperS_len (f : Font) (h : House) : ∀ xs : List Nat, (paperS f h xs).length = xs.length + 1
  | [] => rfl
  | c :: xs => by rw [paperS, List.length_cons, paperS_len f h xs, List.length_cons]
def rowS (f : Font) (h : House) (xs : List Nat) : List Ent := (paperS f h xs).headD []
theorem rowS_nil (f : Font) (h : House) : rowS f h [] = lastRow h := rfl
theorem rowS_len (f : Font) (h : House) (xs : List Nat) : (rowS f h xs).length = h.1.length := by
  cases xs with
  | nil => simp [rowS, paperS, lastRow]
  | cons c xs => simp [rowS, paperS, rowE]
theorem paperS_eq (f : Font) (h : House) (xs : List Nat) : paperS f h xs = rowS f h xs :: (match xs with | [] => [] | _ :: t => paperS f h t) := by
  cases xs <;> rfl
theorem paperS_at (f : Font) (h : House) : ∀ (xs : List Nat) (k : Nat), k ≤ xs.length → (paperS f h xs).getD k [] = rowS f h (xs.drop k)
  | xs, 0, _ => by rw [paperS_eq]; rfl
  | [], k + 1, hk => by simp at hk
  | c :: xs, k + 1, hk => by
    rw [paperS, List.getD_cons_succ, paperS_at f h xs k (by simpa using hk)]; rfl
theorem paperS_drop (f : Font) (h : House) : ∀ (xs : List Nat) (k : Nat), k ≤ xs.length → (paperS f h xs).drop k = paperS f h (xs.drop k)
  | xs, 0, _ => rfl
  | [], k + 1, hk => by simp at hk
  | c :: xs, k + 1, hk => by
    rw [paperS, List.drop_succ_cons, paperS_drop f h xs k (by simpa using hk)]; rfl
/-- one door's way on, from a column on -/
def goS (f : Font) (h : House) (xs : List Nat) (d : Nat × Nat) : Ent := (colsOf f.2 d.1).bind fun cs => if cs.length ≤ xs.length then putE (gapN cs xs) ((rowS f h (xs.drop cs.length)).getD d.2 none) else none
/-- the marks at a column, and what stands there in a paper, whole or half made -/
theorem goE_marks {f : Font} (hf : okFont f) {h : House} {xs : List Nat} {x : Nat} (hx : x ≤ xs.length) {p : Paper} (hp : ∀ b, x < b → b ≤ xs.length → p.getD b [] = rowS f h (xs.drop b)) (d : Nat × Nat) :
    goE (marksT f.2 xs x) p d = goS f h (xs.drop x) d := by
  unfold goE goS
  rw [lookG_marks hf.nodup]
  cases e : colsOf f.2 d.1 with
  | none => rfl
  | some cs =>
    simp only [Option.bind_some, List.length_drop]
    have hc := hf.cp _ (colsOf_mem e)
    by_cases q : x + cs.length ≤ xs.length
    · rw [if_pos q, if_pos (by omega), Option.bind_some, hp _ (by simp only at hc; omega) q, List.drop_drop]
    · rw [if_neg q, if_neg (by omega)]; rfl
def leastS (f : Font) (h : House) (xs : List Nat) (ds : List (Nat × Nat)) : Ent := ds.foldl (fun e d => stE e (goS f h xs d)) none
theorem leastE_marks {f : Font} (hf : okFont f) {h : House} {xs : List Nat} {x : Nat} (hx : x ≤ xs.length) {p : Paper} (hp : ∀ b, x < b → b ≤ xs.length → p.getD b [] = rowS f h (xs.drop b)) (ds : List (Nat × Nat)) :
    leastE ds (marksT f.2 xs x) p = leastS f h (xs.drop x) ds := by
  unfold leastE leastS
  congr 1
  funext e d
  rw [goE_marks hf hx hp]
theorem rowS_cons {f : Font} (hf : okFont f) (h : House) (c : Nat) (xs : List Nat) : rowS f h (c :: xs) = h.1.map (leastS f h (c :: xs)) := by
  show rowE f h (c :: xs) (paperS f h xs) = _
  unfold rowE
  apply List.map_congr_left
  intro ds _
  refine leastE_marks hf (x := 0) (by simp) (fun b hb hl => ?_) ds
  cases b with
  | zero => omega
  | succ b => rw [List.getD_cons_succ, paperS_at f h xs b (by simpa using hl)]; rfl
theorem rowS_pos {f : Font} (hf : okFont f) (h : House) {xs : List Nat} (hx : 0 < xs.length) : rowS f h xs = h.1.map (leastS f h xs) := by
  cases xs with
  | nil => simp at hx
  | cons c xs => exact rowS_cons hf h c xs
/-- the paper half made -/
def halfP (f : Font) (h : House) (xs : List Nat) (x : Nat) : Paper := List.replicate x [] ++ paperS f h (xs.drop x)
theorem halfP_len (f : Font) (h : House) {xs : List Nat} {x : Nat} (hx : x ≤ xs.length) : (halfP f h xs x).length = xs.length + 1 := by
  unfold halfP
  rw [List.length_append, List.length_replicate, paperS_len, List.length_drop]; omega
theorem halfP_at (f : Font) (h : House) {xs : List Nat} {x b : Nat} (hx : x ≤ b) (hb : b ≤ xs.length) : (halfP f h xs x).getD b [] = rowS f h (xs.drop b) := by
  unfold halfP
  rw [List.getD_eq_getElem?_getD, List.getElem?_append_right (by simpa using hx), List.length_replicate, ← List.getD_eq_getElem?_getD, paperS_at f h _ _ (by rw [List.length_drop]; omega), List.drop_drop]
  congr 2
  omega
theorem halfP_set {f : Font} (hf : okFont f) (h : House) {xs : List Nat} {x : Nat} (hx : x < xs.length) : (halfP f h xs (x + 1)).set x (h.1.map fun ds => leastE ds (marksT f.2 xs x) (halfP f h xs (x + 1))) = halfP f h xs x := by
  have e : (h.1.map fun ds => leastE ds (marksT f.2 xs x) (halfP f h xs (x + 1))) = rowS f h (xs.drop x) := by
    rw [rowS_pos hf h (by rw [List.length_drop]; omega)]
    apply List.map_congr_left
    intro ds _
    exact leastE_marks hf (by omega) (fun b hb hl => halfP_at f h hb hl) ds
  rw [e]
  unfold halfP
  rw [List.replicate_succ', List.append_assoc, List.set_append_right _ _ (by simp), List.length_replicate, Nat.sub_self]
  rw [show paperS f h (xs.drop x) = rowS f h (xs.drop x) :: paperS f h (xs.drop (x + 1)) from ?_]
  · rfl
  · rw [List.drop_eq_getElem_cons hx, paperS]; rfl
theorem halfP_zero (f : Font) (h : House) (xs : List Nat) : halfP f h xs 0 = paperS f h xs := rfl
theorem paperS_shaped (f : Font) (h : House) (xs : List Nat) : ∀ r ∈ paperS f h xs, r.length = h.1.length := by
  induction xs with
  | nil => intro r m; simp [paperS] at m; subst m; simp [lastRow]
  | cons c xs ih =>
    intro r m
    rw [paperS] at m
    rcases List.mem_cons.mp m with rfl | m
    · simp [rowE]
    · exact ih r m
theorem rgS_down (n : Nat) : rgS ((n : Int) - 1) (-1) n = nL ((List.range n).map fun i => n - 1 - i) := by
  unfold rgS nL
  rw [List.map_map]
  apply List.map_congr_left
  intro i m
  have := List.mem_range.mp m
  simp only [Function.comp]
  congr 1; omega
theorem down_get {n k d : Nat} (h : ((List.range n).map fun i => n - 1 - i)[k]? = some d) : k < n ∧ d = n - 1 - k := by
  rw [List.getElem?_map] at h
  cases e : (List.range n)[k]? with
  | none => rw [e] at h; cases h
  | some i =>
    obtain ⟨rfl, hk⟩ := range_get e
    rw [e] at h
    exact ⟨hk, by simpa using h.symm⟩
theorem halfP_start (f : Font) (h : House) (xs : List Nat) : ((List.range (xs.length + 1)).map (fun _ => O.lst [])).set xs.length (O.lst ((lastRow h).map entD)) = (halfP f h xs xs.length).map rowO := by
  have e : (List.range (xs.length + 1)).map (fun _ => O.lst []) = List.replicate xs.length (O.lst []) ++ [O.lst []] := by
    rw [← List.replicate_succ', List.map_const', List.length_range]
  rw [e, List.set_append_right _ _ (by simp), List.length_replicate, Nat.sub_self]
  unfold halfP
  rw [List.drop_length, List.map_append, List.map_replicate]
  rfl
theorem ixN_last {n : Nat} (h : 0 < n) : ixN n (-1) = some (n - 1) := by unfold ixN; simp; omega
end DL

set_option Elab.async false
set_option linter.all false
set_option maxRecDepth 100000
set_option maxHeartbeats 1000000
/-! MO: the texts of a width, and what the near paper tells of them. -/
namespace DL
open PySem L2 PyProof.Rows
/-- the texts of a font's signs by which a house leads from a room to an end, as wide as told, in order -/
def textsW (f : Font) (h : House) (w r : Nat) : List (List Nat) :=
  if w = 0 then (if r ∈ h.2 then [[]] else [])
  else (h.1.getD r []).flatMap fun d => match colsOf f.2 d.1 with
    | none => []
    | some cs => if q : 1 ≤ cs.length ∧ cs.length ≤ w then (textsW f h (w - cs.length) d.2).map (d.1 :: ·) else []
termination_by w
decreasing_by omega
def wayT (f : Font) (h : House) (w : Nat) (d : Nat × Nat) : List (List Nat) := match colsOf f.2 d.1 with
  | none => []
  | some cs => if cs.length ≤ w then (textsW f h (w - cs.length) d.2).map (d.1 :: ·) else []
theorem textsW_zero (f : Font) (h : House) (r : Nat) : textsW f h 0 r = if r ∈ h.2 then [[]] else [] := by rw [textsW, if_pos rfl]
theorem textsW_pos {f : Font} (hf : okFont f) (h : House) {w : Nat} (hw : 0 < w) (r : Nat) : textsW f h w r = (h.1.getD r []).flatMap (wayT f h w) := by
  rw [textsW, if_neg (by omega)]
  congr 1
  funext d
  unfold wayT
  cases e : colsOf f.2 d.1 with
  | none => rfl
  | some cs =>
    have hc := hf.cp _ (colsOf_mem e)
    simp only at hc ⊢
    by_cases q : cs.length ≤ w
    · rw [if_pos q, dif_pos ⟨hc, q⟩]
    · rw [if_neg q, dif_neg (fun z => q z.2)]
theorem wayT_at {f : Font} (h : House) (w : Nat) {d : Nat × Nat} {cs : List Nat} (e : colsOf f.2 d.1 = some cs) : wayT f h w d = if cs.length ≤ w then (textsW f h (w - cs.length) d.2).map (d.1 :: ·) else [] := by unfold wayT; rw [e]
theorem wayT_no {f : Font} (h : House) (w : Nat) {d : Nat × Nat} (e : colsOf f.2 d.1 = none) : wayT f h w d = [] := by unfold wayT; rw [e]
theorem colsF_of {f : Font} {s : Nat} {cs : List Nat} (e : colsOf f.2 s = some cs) : colsF f s = cs := by unfold colsF; rw [e]; rfl
theorem gapN_split : ∀ (cs us xs : List Nat), cs.length ≤ xs.length → gapN (cs ++ us) xs = gapN cs xs + gapN us (xs.drop cs.length)
  | [], us, xs, _ => by simp [gapN_nil]
  | c :: cs, us, [], h => by simp at h
  | c :: cs, us, x :: xs, h => by
    rw [List.cons_append, gapN_cons, gapN_cons, gapN_split cs us xs (by simpa using h), List.length_cons, List.drop_succ_cons]; omega
/-! ### the best of gaps, and how many -/
def isBest (L : List Nat) : Ent → Prop
  | none => L = []
  | some (g, n) => g ∈ L ∧ (∀ x ∈ L, g ≤ x) ∧ n = L.count g
theorem isBest_nil : isBest [] none := rfl
theorem count_zero {L : List Nat} {g : Nat} (h : ∀ x ∈ L, g < x) : L.count g = 0 := List.count_eq_zero.mpr fun m => by have := h g m; omega
theorem isBest_app {A B : List Nat} : ∀ {a b : Ent}, isBest A a → isBest B b → isBest (A ++ B) (stE a b)
  | a, none, ha, hb => by have hb : B = [] := hb; subst hb; rw [List.append_nil]; exact ha
  | none, some (g, n), ha, hb => by have ha : A = [] := ha; subst ha; exact hb
  | some (k, m), some (g, n), ha, hb => by
    obtain ⟨a1, a2, a3⟩ := ha
    obtain ⟨b1, b2, b3⟩ := hb
    show isBest _ (if g < k then some (g, n) else if g = k then some (k, m + n) else some (k, m))
    by_cases q : g < k
    · rw [if_pos q]
      refine ⟨List.mem_append_right _ b1, fun x hx => ?_, ?_⟩
      · rcases List.mem_append.mp hx with hx | hx
        · have := a2 x hx; omega
        · exact b2 x hx
      · rw [List.count_append, count_zero fun x hx => Nat.lt_of_lt_of_le q (a2 x hx), Nat.zero_add, b3]
    · rw [if_neg q]
      by_cases e : g = k
      · subst e
        rw [if_pos rfl]
        refine ⟨List.mem_append_left _ a1, fun x hx => ?_, ?_⟩
        · rcases List.mem_append.mp hx with hx | hx
          · exact a2 x hx
          · exact b2 x hx
        · rw [List.count_append, a3, b3]
      · rw [if_neg e]
        refine ⟨List.mem_append_left _ a1, fun x hx => ?_, ?_⟩
        · rcases List.mem_append.mp hx with hx | hx
          · exact a2 x hx
          · have := b2 x hx; omega
        · rw [List.count_append, count_zero (L := B) fun x hx => by have := b2 x hx; omega, Nat.add_zero, a3]
theorem isBest_put {A : List Nat} (c : Nat) : ∀ {a : Ent}, isBest A a → isBest (A.map (c + ·)) (putE c a)
  | none, h => by have h : A = [] := h; subst h; rfl
  | some (g, n), ⟨h1, h2, h3⟩ => by
    refine ⟨List.mem_map_of_mem h1, fun x hx => ?_, ?_⟩
    · obtain ⟨y, m, rfl⟩ := List.mem_map.mp hx
      have := h2 y m; simp only; omega
    · rw [h3]
      clear h1 h2 h3
      induction A with
      | nil => rfl
      | cons x A ih =>
        simp only [List.map_cons, List.count_cons] at ih ⊢
        rw [ih]
        congr 1
        simp
theorem isBest_fold {α : Type} {F : α → List Nat} {G : α → Ent} : ∀ (ds : List α) (acc : List Nat) (e : Ent), (∀ d ∈ ds, isBest (F d) (G d)) → isBest acc e → isBest (acc ++ ds.flatMap F) (ds.foldl (fun e d => stE e (G d)) e)
  | [], acc, e, _, he => by simpa using he
  | d :: ds, acc, e, h, he => by
    rw [List.flatMap_cons, ← List.append_assoc, List.foldl_cons]
    exact isBest_fold ds _ _ (fun x m => h x (List.mem_cons_of_mem _ m)) (isBest_app he (h d (List.mem_cons_self ..)))
/-- the gaps of the texts -/
def gapsW (f : Font) (h : House) (xs : List Nat) (r : Nat) : List Nat := (textsW f h xs.length r).map fun t => gapN (setF f t) xs
def gapsD (f : Font) (h : House) (xs : List Nat) (d : Nat × Nat) : List Nat := (wayT f h xs.length d).map fun t => gapN (setF f t) xs
theorem gapsD_at {f : Font} (h : House) {xs : List Nat} {d : Nat × Nat} {cs : List Nat} (e : colsOf f.2 d.1 = some cs) (q : cs.length ≤ xs.length) : gapsD f h xs d = (gapsW f h (xs.drop cs.length) d.2).map (gapN cs xs + ·) := by
  unfold gapsD gapsW
  rw [wayT_at h _ e, if_pos q, List.map_map, List.map_map, List.length_drop]
  apply List.map_congr_left
  intro t _
  simp only [Function.comp]
  rw [setF_cons, colsF_of e, gapN_split _ _ _ q]
theorem gapsW_pos {f : Font} (hf : okFont f) (h : House) {xs : List Nat} (hx : 0 < xs.length) (r : Nat) : gapsW f h xs r = (h.1.getD r []).flatMap (gapsD f h xs) := by
  unfold gapsW gapsD
  rw [textsW_pos hf h hx, List.map_flatMap]
theorem rowS_at {f : Font} (hf : okFont f) (h : House) {xs : List Nat} (hx : 0 < xs.length) {r : Nat} (hr : r < h.1.length) : (rowS f h xs).getD r none = leastS f h xs (h.1.getD r []) := by
  rw [rowS_pos hf h hx, List.getD_eq_getElem?_getD, List.getElem?_map, List.getD_eq_getElem?_getD, List.getElem?_eq_getElem hr]; rfl
theorem room_mem {h : House} {r : Nat} {d : Nat × Nat} (m : d ∈ h.1.getD r []) : ∃ ds ∈ h.1, d ∈ ds := by
  rw [List.getD_eq_getElem?_getD] at m
  cases e : h.1[r]? with
  | none => rw [e] at m; simp at m
  | some ds => rw [e] at m; exact ⟨ds, List.mem_of_getElem? e, m⟩
theorem room_to {h : House} (ok : okHouse h) {r : Nat} {d : Nat × Nat} (m : d ∈ h.1.getD r []) : d.2 < h.1.length := by
  obtain ⟨ds, m1, m2⟩ := room_mem m
  exact ok.to ds m1 d m2
/-- what the paper tells: the least gap of the texts, and how many have it -/
theorem best_row {f : Font} (hf : okFont f) {h : House} (ok : okHouse h) : ∀ (n : Nat) (xs : List Nat), xs.length = n → ∀ r, r < h.1.length → isBest (gapsW f h xs r) ((rowS f h xs).getD r none) := by
  intro n
  induction n using Nat.strongRecOn with
  | ind n ih =>
    intro xs hn r hr
    cases xs with
    | nil =>
      unfold gapsW
      simp only [List.length_nil]
      rw [textsW_zero, rowS_nil, lastRow, List.getD_eq_getElem?_getD, List.getElem?_map, List.getElem?_range hr]
      simp only [Option.map_some, Option.getD_some]
      split
      · exact ⟨by simp [gapN_nil, setF_nil], fun x m => Nat.zero_le _, by simp [gapN_nil, setF_nil]⟩
      · rfl
    | cons c xs =>
      have hp : 0 < (c :: xs).length := by simp
      rw [gapsW_pos hf h hp, rowS_at hf h hp hr]
      have := isBest_fold (F := gapsD f h (c :: xs)) (G := goS f h (c :: xs)) (h.1.getD r []) [] none (fun d m => ?_) rfl
      · rwa [List.nil_append] at this
      · unfold goS
        cases e : colsOf f.2 d.1 with
        | none => unfold gapsD; rw [wayT_no h _ e]; rfl
        | some cs =>
          have hc := hf.cp _ (colsOf_mem e)
          simp only [Option.bind_some] at hc ⊢
          by_cases q : cs.length ≤ (c :: xs).length
          · rw [if_pos q, gapsD_at h e q]
            exact isBest_put _ (ih (n - cs.length) (by simp only [List.length_cons] at hn; omega) _ (by rw [List.length_drop, hn]) _ (room_to ok m))
          · rw [if_neg q]
            unfold gapsD
            rw [wayT_at h _ e, if_neg q]; rfl
theorem best_door {f : Font} (hf : okFont f) {h : House} (ok : okHouse h) {xs : List Nat} (hx : 0 < xs.length) {d : Nat × Nat} (hd : d.2 < h.1.length) : isBest (gapsD f h xs d) (goS f h xs d) := by
  unfold goS
  cases e : colsOf f.2 d.1 with
  | none => unfold gapsD; rw [wayT_no h _ e]; rfl
  | some cs =>
    simp only [Option.bind_some]
    by_cases q : cs.length ≤ xs.length
    · rw [if_pos q, gapsD_at h e q]
      exact isBest_put _ (best_row hf ok _ _ rfl _ hd)
    · rw [if_neg q]
      unfold gapsD
      rw [wayT_at h _ e, if_neg q]; rfl
/-! ### the first of the nearest texts -/
def firstT (f : Font) (h : House) (xs : List Nat) (r g : Nat) : Option (List Nat) := (textsW f h xs.length r).find? fun t => decide (gapN (setF f t) xs = g)
def isDoor (f : Font) (h : House) (xs : List Nat) (g : Nat) (d : Nat × Nat) : Bool := decide ((goS f h xs d).map (·.1) = some g)
theorem findSome_find {α β : Type} {F : α → Option β} {p : α → Bool} : ∀ {ds : List α}, (∀ d ∈ ds, (F d).isSome = p d) → ds.findSome? F = (ds.find? p).bind F
  | [], _ => rfl
  | d :: ds, h => by
    rw [List.findSome?_cons, List.find?_cons]
    have hd := h d (List.mem_cons_self ..)
    cases e : F d with
    | none =>
      rw [e] at hd
      rw [← hd]
      exact findSome_find fun x m => h x (List.mem_cons_of_mem _ m)
    | some b => rw [e] at hd; rw [← hd]; simp [e]
theorem first_step {f : Font} (hf : okFont f) {h : House} (ok : okHouse h) {xs : List Nat} (hx : 0 < xs.length) {r : Nat} (hr : r < h.1.length) {g n : Nat} (e : (rowS f h xs).getD r none = some (g, n)) :
    ∃ d cs n', (h.1.getD r []).find? (isDoor f h xs g) = some d ∧ d ∈ h.1.getD r [] ∧ colsOf f.2 d.1 = some cs ∧ cs.length ≤ xs.length ∧ gapN cs xs ≤ g ∧ (rowS f h (xs.drop cs.length)).getD d.2 none = some (g - gapN cs xs, n') ∧
      firstT f h xs r g = (firstT f h (xs.drop cs.length) d.2 (g - gapN cs xs)).map (d.1 :: ·) := by
  have hb := best_row hf ok _ xs rfl r hr
  rw [e] at hb
  obtain ⟨h1, h2, _⟩ := hb
  have key : ∀ d ∈ h.1.getD r [], ((wayT f h xs.length d).find? fun t => decide (gapN (setF f t) xs = g)).isSome = isDoor f h xs g d := fun d m => by
    have hb := best_door hf ok hx (room_to ok m)
    have hin : ∀ x ∈ gapsD f h xs d, g ≤ x := fun x hx2 => h2 x (by rw [gapsW_pos hf h hx]; exact List.mem_flatMap.mpr ⟨d, m, hx2⟩)
    rw [Bool.eq_iff_iff, List.find?_isSome]
    unfold isDoor
    rw [decide_eq_true_eq]
    cases q : goS f h xs d with
    | none =>
      rw [q] at hb
      have hb : gapsD f h xs d = [] := hb
      unfold gapsD at hb
      have hb := List.map_eq_nil_iff.mp hb
      rw [hb]
      simp
    | some p =>
      obtain ⟨k, n'⟩ := p
      rw [q] at hb
      obtain ⟨b1, b2, _⟩ := hb
      simp only [Option.map_some, Option.some.injEq, decide_eq_true_eq]
      constructor
      · rintro ⟨t, mt, et⟩
        have := b2 g (List.mem_map.mpr ⟨t, mt, et⟩)
        have := hin k b1
        omega
      · intro q2
        obtain ⟨t, mt, et⟩ := List.mem_map.mp b1
        exact ⟨t, mt, by omega⟩
  have hF : firstT f h xs r g = ((h.1.getD r []).find? (isDoor f h xs g)).bind fun d => (wayT f h xs.length d).find? fun t => decide (gapN (setF f t) xs = g) := by
    unfold firstT
    rw [textsW_pos hf h hx, List.find?_flatMap]
    exact findSome_find key
  rw [gapsW_pos hf h hx] at h1
  obtain ⟨d0, m0, g0⟩ := List.mem_flatMap.mp h1
  obtain ⟨t0, mt0, et0⟩ := List.mem_map.mp g0
  have k0 := key d0 m0
  rw [List.find?_isSome.mpr ⟨t0, mt0, by simpa using et0⟩] at k0
  have hs : ((h.1.getD r []).find? (isDoor f h xs g)).isSome = true := List.find?_isSome.mpr ⟨d0, m0, k0.symm⟩
  obtain ⟨d, hd⟩ := Option.isSome_iff_exists.mp hs
  have md := List.mem_of_find?_eq_some hd
  have pd := List.find?_some hd
  unfold isDoor at pd
  rw [decide_eq_true_eq] at pd
  cases q : goS f h xs d with
  | none => rw [q] at pd; cases pd
  | some p =>
    rw [q] at pd
    have pg : p.1 = g := by simpa using pd
    unfold goS at q
    cases ec : colsOf f.2 d.1 with
    | none => rw [ec] at q; cases q
    | some cs =>
      rw [ec, Option.bind_some] at q
      by_cases hl : cs.length ≤ xs.length
      · rw [if_pos hl] at q
        unfold putE at q
        cases er : (rowS f h (xs.drop cs.length)).getD d.2 none with
        | none => rw [er] at q; cases q
        | some t =>
          rw [er] at q
          have q : (gapN cs xs + t.1, t.2) = p := by simpa using q
          subst q
          simp only at pg
          refine ⟨d, cs, t.2, hd, md, ec, hl, by omega, by rw [er, show g - gapN cs xs = t.1 from by omega], ?_⟩
          rw [hF, hd, Option.bind_some, wayT_at h _ ec, if_pos hl, List.find?_map]
          unfold firstT
          rw [List.length_drop]
          congr 2
          funext u
          simp only [Function.comp]
          rw [setF_cons, colsF_of ec, gapN_split _ _ _ hl, decide_eq_decide]
          omega
      · rw [if_neg hl] at q; cases q
theorem first_end {f : Font} {h : House} {r g n : Nat} (hr : r < h.1.length) (e : (rowS f h []).getD r none = some (g, n)) : firstT f h [] r g = some [] ∧ g = 0 := by
  rw [rowS_nil, lastRow, List.getD_eq_getElem?_getD, List.getElem?_map, List.getElem?_range hr] at e
  simp only [Option.map_some, Option.getD_some] at e
  by_cases q : r ∈ h.2
  · rw [if_pos q] at e
    have e : (0, 1) = (g, n) := by simpa using e
    cases e
    refine ⟨?_, rfl⟩
    unfold firstT
    simp only [List.length_nil]
    rw [textsW_zero, if_pos q]
    simp [gapN_nil, setF_nil]
  · rw [if_neg q] at e; cases e
/-- which texts these are -/
theorem mem_textsW {f : Font} (hf : okFont f) {h : House} (ok : okHouse h) : ∀ (t : List Nat) (w r : Nat), r < h.1.length → (t ∈ textsW f h w r ↔ (∃ e, goFrom h r t = some e ∧ e ∈ h.2) ∧ inF f t ∧ (setF f t).length = w)
  | [], w, r, hr => by
    by_cases hw : w = 0
    · subst hw
      rw [textsW_zero]
      simp [goFrom, inF, setF_nil]
    · rw [textsW_pos hf h (by omega)]
      constructor
      · intro m
        obtain ⟨d, _, m⟩ := List.mem_flatMap.mp m
        unfold wayT at m
        split at m
        · cases m
        · split at m
          · obtain ⟨u, _, e⟩ := List.mem_map.mp m; cases e
          · cases m
      · rintro ⟨_, _, e⟩
        rw [setF_nil] at e
        exact absurd e.symm hw
  | s :: t, w, r, hr => by
    by_cases hw : w = 0
    · subst hw
      rw [textsW_zero]
      constructor
      · intro m; split at m <;> simp at m
      · rintro ⟨_, g, e⟩
        have := hf.c1 (g s (List.mem_cons_self ..))
        rw [setF_cons, List.length_append] at e
        omega
    · rw [textsW_pos hf h (by omega)]
      constructor
      · intro m
        obtain ⟨d, md, m⟩ := List.mem_flatMap.mp m
        have hto := room_to ok md
        cases ec : colsOf f.2 d.1 with
        | none => rw [wayT_no h _ ec] at m; cases m
        | some cs =>
          rw [wayT_at h _ ec] at m
          split at m
          · rename_i q
            obtain ⟨u, mu, e⟩ := List.mem_map.mp m
            rw [List.cons.injEq] at e
            obtain ⟨e1, e2⟩ := e
            rw [e2] at mu
            subst e1
            obtain ⟨⟨e', g1, g2⟩, g3, g4⟩ := (mem_textsW hf ok t _ _ hto).mp mu
            have hd : doorH h r d.1 = some d.2 := by
              rw [List.getD_eq_getElem?_getD, List.getElem?_eq_getElem hr] at md
              exact doorH_of ok hr md
            refine ⟨⟨e', by rw [goFrom, hd]; exact g1, g2⟩, fun x mx => ?_, ?_⟩
            · rcases List.mem_cons.mp mx with rfl | mx
              · exact List.mem_map_of_mem (f := fun l : Lt => l.1) (colsOf_mem ec)
              · exact g3 x mx
            · rw [setF_cons, List.length_append, colsF_of ec, g4]; omega
          · cases m
      · rintro ⟨⟨e', g1, g2⟩, g3, g4⟩
        rw [goFrom] at g1
        cases ed : doorH h r s with
        | none => rw [ed] at g1; cases g1
        | some q =>
          rw [ed, Option.bind_some] at g1
          obtain ⟨_, md⟩ := doorH_mem ed
          have hq := doorH_lt ok ed
          have hs := g3 s (List.mem_cons_self ..)
          have ec := colsF_has hs
          rw [setF_cons, List.length_append] at g4
          refine List.mem_flatMap.mpr ⟨(s, q), by rw [List.getD_eq_getElem?_getD, List.getElem?_eq_getElem hr]; exact md, ?_⟩
          rw [wayT_at h _ ec, if_pos (by omega)]
          exact List.mem_map_of_mem ((mem_textsW hf ok t _ _ hq).mpr ⟨⟨e', g1, g2⟩, fun x m => g3 x (List.mem_cons_of_mem _ m), by omega⟩)
/-- they rise -/
theorem textsW_asc {f : Font} (hf : okFont f) {h : House} (ok : okHouse h) : ∀ (w r : Nat), (textsW f h w r).Pairwise (· < ·) := by
  intro w
  induction w using Nat.strongRecOn with
  | ind w ih =>
    intro r
    by_cases hw : w = 0
    · subst hw; rw [textsW_zero]; split <;> simp
    · rw [textsW_pos hf h (by omega), List.pairwise_flatMap]
      refine ⟨fun d md => ?_, ?_⟩
      · cases ec : colsOf f.2 d.1 with
        | none => rw [wayT_no h _ ec]; exact .nil
        | some cs =>
          have hc := hf.cp _ (colsOf_mem ec)
          rw [wayT_at h _ ec]
          split
          · simp only at hc
            exact List.pairwise_map.mpr ((ih _ (by omega) _).imp fun {a b} z => List.Lex.cons z)
          · exact .nil
      · have asc : ((h.1.getD r []).map (·.1)).Pairwise (· < ·) := by
          rw [List.getD_eq_getElem?_getD]
          cases e : h.1[r]? with
          | none => simp
          | some ds => exact ok.asc ds (List.mem_of_getElem? e)
        refine (List.pairwise_map.mp asc).imp fun {a b} lt x mx y my => ?_
        have one : ∀ {d : Nat × Nat} {x : List Nat}, x ∈ wayT f h w d → ∃ u, x = d.1 :: u := fun {d x} m => by
          unfold wayT at m
          split at m
          · cases m
          · split at m
            · obtain ⟨u, _, e⟩ := List.mem_map.mp m; exact ⟨u, e.symm⟩
            · cases m
        obtain ⟨u, rfl⟩ := one mx
        obtain ⟨v, rfl⟩ := one my
        exact List.Lex.rel lt
/-- what nearest tells: the first of the nearest texts, its gap, and how many -/
def nearH (f : Font) (h : House) (xs : List Nat) : Option (List Nat × Nat × Nat) := ((rowS f h xs).getD 0 none).bind fun p => (firstT f h xs 0 p.1).map fun t => (t, p.1, p.2)
theorem first_some {f : Font} (hf : okFont f) {h : House} (ok : okHouse h) {xs : List Nat} {r g n : Nat} (hr : r < h.1.length) (e : (rowS f h xs).getD r none = some (g, n)) : ∃ t, firstT f h xs r g = some t := by
  have hb := best_row hf ok _ xs rfl r hr
  rw [e] at hb
  obtain ⟨t, m, q⟩ := List.mem_map.mp hb.1
  unfold firstT
  rw [← Option.isSome_iff_exists, List.find?_isSome]
  exact ⟨t, m, by simpa using q⟩
end DL

set_option Elab.async false
set_option linter.all false
set_option maxRecDepth 100000
set_option maxHeartbeats 1000000
/-! MP: a walk by the near paper; houses and fonts that tell the same. -/
namespace DL
open PySem L2 PyProof.Rows
--simp nearD_n, nearD_s, near_iff, wholeB_int
def doorB (ms : List (Nat × (Nat × Nat))) (p : PaperI) (far : Int) (d : Nat × Nat) : Bool := decide ((goI ms p d).map (·.1) = some far)
theorem find_here {α : Type} {p : α → Bool} {ds : List α} {k : Nat} {d : α} (hd : ds[k]? = some d) (hp : ∀ x ∈ ds.take k, p x = false) (q : p d = true) : ds.find? p = some d := by
  obtain ⟨hk, e0⟩ := List.getElem?_eq_some_iff.mp hd
  have e : ds.take k ++ d :: ds.drop (k + 1) = ds := by
    rw [← e0, ← List.drop_eq_getElem_cons hk, List.take_append_drop]
  rw [← e, List.find?_append, List.find?_eq_none.mpr (fun x m => by simp [hp x m]), List.find?_cons_of_pos q]; rfl
theorem goI_true {f : Font} (hf : okFont f) {h : House} {xs : List Nat} {x : Nat} (hx : x ≤ xs.length) (d : Nat × Nat) : goI (marksT f.2 xs x) (castP (paperS f h xs)) d = castE (goS f h (xs.drop x) d) := by
  rw [goI_cast, goE_marks hf hx (fun b _ hb => paperS_at f h xs b hb)]
theorem doorB_is {f : Font} (hf : okFont f) {h : House} {xs : List Nat} {x : Nat} (hx : x ≤ xs.length) (g : Nat) (d : Nat × Nat) : doorB (marksT f.2 xs x) (castP (paperS f h xs)) (g : Int) d = isDoor f h (xs.drop x) g d := by
  unfold doorB isDoor
  rw [goI_true hf hx, decide_eq_decide]
  cases goS f h (xs.drop x) d with
  | none => simp [castE]
  | some p => simp [castE]; omega
theorem fits_true {f : Font} (hf : okFont f) {n : Nat} {xs : List Nat} {x : Nat} {p : Paper} (hp : ∀ b, x < b → b ≤ xs.length → b < p.length ∧ (p.getD b []).length = n) {d : Nat × Nat} (hd : d.2 < n) : fitsP (marksT f.2 xs x) (castP p) d := by
  intro m hm
  rw [lookG_marks hf.nodup] at hm
  cases e : colsOf f.2 d.1 with
  | none => rw [e] at hm; cases hm
  | some cs =>
    rw [e, Option.bind_some] at hm
    have hc := hf.cp _ (colsOf_mem e)
    simp only at hc
    by_cases q : x + cs.length ≤ xs.length
    · rw [if_pos q] at hm
      cases hm
      obtain ⟨h1, h2⟩ := hp (x + cs.length) (by omega) q
      exact ⟨by rw [castP_len]; exact h1, by rw [castP_at, castR_len, h2]; exact hd⟩
    · rw [if_neg q] at hm; cases hm
theorem fits_half {f : Font} (hf : okFont f) {h : House} (ok : okHouse h) {xs : List Nat} {x : Nat} (hx : x < xs.length) {ds : List (Nat × Nat)} (m : ds ∈ h.1) : ∀ d ∈ ds, fitsP (marksT f.2 xs x) (castP (halfP f h xs (x + 1))) d := fun d md =>
  fits_true hf (n := h.1.length) (fun b h1 h2 => ⟨by rw [halfP_len f h (by omega)]; omega, by rw [halfP_at f h (by omega) h2, rowS_len]⟩) (ok.to ds m d md)
theorem fits_full {f : Font} (hf : okFont f) {h : House} (ok : okHouse h) {xs : List Nat} {x : Nat} {ds : List (Nat × Nat)} (m : ds ∈ h.1) : ∀ d ∈ ds, fitsP (marksT f.2 xs x) (castP (paperS f h xs)) d := fun d md =>
  fits_true hf (n := h.1.length) (fun b h1 h2 => ⟨by rw [paperS_len]; omega, by rw [paperS_at f h _ _ h2, rowS_len]⟩) (ok.to ds m d md)
/-- what the paper tells, again -/
theorem least_full {f : Font} (hf : okFont f) {h : House} {xs : List Nat} {x : Nat} (hx : x < xs.length) (ds : List (Nat × Nat)) : leastI ds (marksT f.2 xs x) (castP (paperS f h xs)) = castE (leastS f h (xs.drop x) ds) := by
  rw [leastI_cast, leastE_marks hf (by omega) (fun b _ hb => paperS_at f h xs b hb)]
def nearD : Option (List Nat × Nat × Nat) → D
  | none => .none
  | some t => .tuple [.str (tS t.1), .int (t.2.1 : Int), .int (t.2.2 : Int)]
theorem nearD_n : nearD none = .none := rfl
theorem nearD_s (t : List Nat × Nat × Nat) : nearD (some t) = .tuple [.str (tS t.1), .int (t.2.1 : Int), .int (t.2.2 : Int)] := rfl
theorem nearD_inj {a b : Option (List Nat × Nat × Nat)} (h : nearD a = nearD b) : a = b := by
  cases a with
  | none => cases b with
    | none => rfl
    | some q => simp [nearD] at h
  | some p => cases b with
    | none => simp [nearD] at h
    | some q =>
      simp only [nearD, PyData.tuple.injEq, List.cons.injEq, PyData.str.injEq, PyData.int.injEq, and_true, tS_iff] at h
      obtain ⟨h1, h2, h3⟩ := h
      congr 1
      exact Prod.ext h1 (Prod.ext (by omega) (by omega))
theorem near_iff (a b : Option (List Nat × Nat × Nat)) : (nearD a = nearD b) = (a = b) := propext ⟨nearD_inj, fun h => by rw [h]⟩
theorem nearH_none {f : Font} {h : House} {xs : List Nat} (e : (rowS f h xs).getD 0 none = none) : nearH f h xs = none := by unfold nearH; rw [e]; rfl
theorem nearH_some {f : Font} (hf : okFont f) {h : House} (ok : okHouse h) {xs : List Nat} {g n : Nat} (e : (rowS f h xs).getD 0 none = some (g, n)) :
    ∃ t, firstT f h xs 0 g = some t ∧ nearH f h xs = some (t, g, n) ∧ t ∈ textsW f h xs.length 0 ∧ gapN (setF f t) xs = g := by
  obtain ⟨t, ht⟩ := first_some hf ok ok.pos e
  refine ⟨t, ht, ?_, List.mem_of_find?_eq_some ht, by simpa using List.find?_some ht⟩
  unfold nearH
  rw [e, Option.bind_some]
  simp only [ht, Option.map_some]
/-- no text is nearer -/
theorem near_least {f : Font} (hf : okFont f) {h : House} (ok : okHouse h) {xs u : List Nat} (hu : u ∈ textsW f h xs.length 0) :
    ∃ t g n, nearH f h xs = some (t, g, n) ∧ t ∈ textsW f h xs.length 0 ∧ gapN (setF f t) xs = g ∧ 1 ≤ n ∧ g ≤ gapN (setF f u) xs ∧ (g = gapN (setF f u) xs → ¬ u < t ∧ (t = u ∨ 1 < n)) := by
  have hb := best_row hf ok _ xs rfl 0 ok.pos
  have mu : gapN (setF f u) xs ∈ gapsW f h xs 0 := List.mem_map_of_mem (f := fun t => gapN (setF f t) xs) hu
  cases e : (rowS f h xs).getD 0 none with
  | none =>
    rw [e] at hb
    have hb : gapsW f h xs 0 = [] := hb
    rw [hb] at mu; cases mu
  | some p =>
    obtain ⟨g, n⟩ := p
    rw [e] at hb
    obtain ⟨b1, b2, b3⟩ := hb
    obtain ⟨t, t1, t2, t3, t4⟩ := nearH_some hf ok e
    refine ⟨t, g, n, t2, t3, t4, by rw [b3]; exact List.count_pos_iff.mpr b1, b2 _ mu, fun q => ?_⟩
    obtain ⟨_, as, bs, s1, s2⟩ := List.find?_eq_some_iff_append.mp t1
    have asc := textsW_asc hf ok xs.length 0
    rw [s1] at hu asc
    have nu : u ∉ as := fun m => by
      have := s2 u m
      simp at this
      omega
    rcases List.mem_append.mp hu with m | m
    · exact absurd m nu
    rcases List.mem_cons.mp m with rfl | m
    · exact ⟨List.lt_irrefl _, .inl rfl⟩
    · have lt := (List.pairwise_cons.mp (List.pairwise_append.mp asc).2.1).1 u m
      refine ⟨fun z => List.lt_irrefl _ (List.lt_trans lt z), .inr ?_⟩
      rw [b3]
      unfold gapsW
      rw [s1, List.map_append, List.map_cons, List.count_append, List.count_cons]
      have : 0 < (bs.map fun t => gapN (setF f t) xs).count g := List.count_pos_iff.mpr (by rw [q]; exact List.mem_map_of_mem (f := fun t => gapN (setF f t) xs) m)
      simp [t4]
      omega
theorem near_no {f : Font} (hf : okFont f) {h : House} (ok : okHouse h) {xs : List Nat} (hu : textsW f h xs.length 0 = []) : nearH f h xs = none := by
  have hb := best_row hf ok _ xs rfl 0 ok.pos
  unfold gapsW at hb
  rw [hu] at hb
  cases e : (rowS f h xs).getD 0 none with
  | none => exact nearH_none e
  | some p => rw [e] at hb; exact absurd hb.1 (by simp)
/-! ### what tells the same -/
structure sameFH (f : Font) (h : House) (f' : Font) (h' : House) : Prop where
  len : h'.1.length = h.1.length
  ends : h'.2 = h.2
  rooms : ∀ r, ∃ p : Nat × Nat → Bool, h'.1.getD r [] = (h.1.getD r []).filter p ∧ ∀ d ∈ h.1.getD r [], p d = false → colsOf f.2 d.1 = none
  cols : ∀ r, ∀ d ∈ h.1.getD r [], colsOf f'.2 d.1 = colsOf f.2 d.1
theorem fold_filter {α β : Type} {F G : β → α → β} {p : α → Bool} : ∀ (ds : List α) (e : β), (∀ d ∈ ds, ∀ e, if p d = true then F e d = G e d else G e d = e) → (ds.filter p).foldl F e = ds.foldl G e
  | [], e, _ => rfl
  | d :: ds, e, h => by
    have hd := h d (List.mem_cons_self ..) e
    rw [List.filter_cons]
    split
    · rename_i q
      rw [if_pos q] at hd
      rw [List.foldl_cons, List.foldl_cons, hd, fold_filter ds _ fun x m => h x (List.mem_cons_of_mem _ m)]
    · rename_i q
      rw [if_neg q] at hd
      rw [List.foldl_cons, hd, fold_filter ds _ fun x m => h x (List.mem_cons_of_mem _ m)]
theorem flat_filter {α β : Type} {F G : α → List β} {p : α → Bool} : ∀ (ds : List α), (∀ d ∈ ds, if p d = true then F d = G d else G d = []) → (ds.filter p).flatMap F = ds.flatMap G
  | [], _ => rfl
  | d :: ds, h => by
    have hd := h d (List.mem_cons_self ..)
    rw [List.filter_cons]
    split
    · rename_i q
      rw [if_pos q] at hd
      rw [List.flatMap_cons, List.flatMap_cons, hd, flat_filter ds fun x m => h x (List.mem_cons_of_mem _ m)]
    · rename_i q
      rw [if_neg q] at hd
      rw [List.flatMap_cons, hd, List.nil_append, flat_filter ds fun x m => h x (List.mem_cons_of_mem _ m)]
section
variable {f : Font} {h : House} {f' : Font} {h' : House}
theorem sameFH.row (s : sameFH f h f' h') (hf : okFont f) (hf' : okFont f') : ∀ (n : Nat) (xs : List Nat), xs.length = n → rowS f' h' xs = rowS f h xs := by
  intro n
  induction n using Nat.strongRecOn with
  | ind n ih =>
    intro xs hn
    by_cases hx : 0 < xs.length
    · apply List.ext_getElem
      · rw [rowS_len, rowS_len, s.len]
      · intro r h1 h2
        have hr : r < h.1.length := by rw [rowS_len] at h2; exact h2
        have a1 := rowS_at hf h hx hr
        have a2 := rowS_at hf' h' hx (by rw [s.len]; exact hr)
        rw [List.getD_eq_getElem?_getD, List.getElem?_eq_getElem h2, Option.getD_some] at a1
        rw [List.getD_eq_getElem?_getD, List.getElem?_eq_getElem h1, Option.getD_some] at a2
        rw [a1, a2]
        obtain ⟨p, p1, p2⟩ := s.rooms r
        rw [p1]
        refine fold_filter _ _ fun d m e => ?_
        by_cases q : p d = true
        · rw [if_pos q]
          congr 1
          unfold goS
          rw [s.cols r d m]
          cases e : colsOf f.2 d.1 with
          | none => rfl
          | some cs =>
            have hc := hf.cp _ (colsOf_mem e)
            simp only [Option.bind_some] at hc ⊢
            rw [ih (n - cs.length) (by omega) (xs.drop cs.length) (by rw [List.length_drop, hn])]
        · rw [if_neg q]
          have := p2 d m (by simpa using q)
          unfold goS
          rw [this]; rfl
    · have : xs = [] := List.eq_nil_of_length_eq_zero (by omega)
      subst this
      rw [rowS_nil, rowS_nil, lastRow, lastRow, s.len, s.ends]
theorem sameFH.paper (s : sameFH f h f' h') (hf : okFont f) (hf' : okFont f') (xs : List Nat) : paperS f' h' xs = paperS f h xs := by
  apply List.ext_getElem
  · rw [paperS_len, paperS_len]
  · intro k h1 h2
    rw [paperS_len] at h1 h2
    have a1 := paperS_at f h xs k (by omega)
    have a2 := paperS_at f' h' xs k (by omega)
    rw [List.getD_eq_getElem?_getD, List.getElem?_eq_getElem (by rw [paperS_len]; omega), Option.getD_some] at a1 a2
    rw [a1, a2, s.row hf hf' _ _ rfl]
theorem sameFH.texts (s : sameFH f h f' h') (hf : okFont f) (hf' : okFont f') : ∀ (w r : Nat), textsW f' h' w r = textsW f h w r ∧ ∀ t ∈ textsW f h w r, setF f' t = setF f t := by
  intro w
  induction w using Nat.strongRecOn with
  | ind w ih =>
    intro r
    by_cases hw : w = 0
    · subst hw
      rw [textsW_zero, textsW_zero, s.ends]
      refine ⟨rfl, fun t m => ?_⟩
      split at m
      · have : t = [] := by simpa using m
        subst this
        rw [setF_nil, setF_nil]
      · cases m
    · rw [textsW_pos hf h (by omega), textsW_pos hf' h' (by omega)]
      obtain ⟨p, p1, p2⟩ := s.rooms r
      constructor
      · rw [p1]
        refine flat_filter _ fun d m => ?_
        by_cases q : p d = true
        · rw [if_pos q]
          unfold wayT
          rw [s.cols r d m]
          cases e : colsOf f.2 d.1 with
          | none => rfl
          | some cs =>
            have hc := hf.cp _ (colsOf_mem e)
            simp only at hc ⊢
            by_cases hl : cs.length ≤ w
            · rw [if_pos hl, if_pos hl, (ih (w - cs.length) (by omega) d.2).1]
            · rw [if_neg hl, if_neg hl]
        · rw [if_neg q]
          exact wayT_no h w (p2 d m (by simpa using q))
      · intro t m
        obtain ⟨d, md, m⟩ := List.mem_flatMap.mp m
        cases e : colsOf f.2 d.1 with
        | none => rw [wayT_no h w e] at m; cases m
        | some cs =>
          have hc := hf.cp _ (colsOf_mem e)
          simp only at hc
          rw [wayT_at h w e] at m
          split at m
          · obtain ⟨u, mu, rfl⟩ := List.mem_map.mp m
            rw [setF_cons, setF_cons, colsF_of e, colsF_of (by rw [s.cols r d md]; exact e), (ih (w - cs.length) (by omega) d.2).2 u mu]
          · cases m
theorem sameFH.near (s : sameFH f h f' h') (hf : okFont f) (hf' : okFont f') (xs : List Nat) : nearH f' h' xs = nearH f h xs := by
  unfold nearH firstT
  rw [s.row hf hf' _ _ rfl, (s.texts hf hf' _ _).1]
  congr 1
  funext p
  congr 1
  have key := (s.texts hf hf' xs.length 0).2
  generalize textsW f h xs.length 0 = ts at key
  induction ts with
  | nil => rfl
  | cons t ts ih =>
    rw [List.find?_cons, List.find?_cons, key t (List.mem_cons_self ..), ih fun x m => key x (List.mem_cons_of_mem _ m)]
end
/-- a house without doors of signs that the font lacks -/
def knownH (f : Font) (h : House) : House := (h.1.map fun ds => ds.filter fun d => (colsOf f.2 d.1).isSome, h.2)
theorem knownH_at (f : Font) (h : House) (r : Nat) : (knownH f h).1.getD r [] = (h.1.getD r []).filter fun d => (colsOf f.2 d.1).isSome := by
  unfold knownH
  rw [List.getD_eq_getElem?_getD, List.getD_eq_getElem?_getD, List.getElem?_map]
  cases h.1[r]? <;> rfl
theorem knownH_ok (f : Font) {h : House} (ok : okHouse h) : okHouse (knownH f h) := by
  refine ⟨?_, ?_, ?_, ?_, ?_, ?_, ok.easc⟩
  · unfold knownH; rw [List.length_map]; exact ok.pos
  · unfold knownH; rw [List.length_map]; exact ok.len
  · intro ds m d md
    obtain ⟨es, me, rfl⟩ := List.mem_map.mp m
    unfold knownH
    rw [List.length_map]
    exact ok.to es me d (List.mem_filter.mp md).1
  · intro ds m d md
    obtain ⟨es, me, rfl⟩ := List.mem_map.mp m
    exact ok.sg es me d (List.mem_filter.mp md).1
  · intro ds m
    obtain ⟨es, me, rfl⟩ := List.mem_map.mp m
    exact (ok.asc es me).sublist ((List.filter_sublist ..).map _)
  · unfold knownH; rw [List.length_map]; exact ok.ends
theorem same_known (f : Font) (h : House) : sameFH f h f (knownH f h) where
  len := by unfold knownH; rw [List.length_map]
  ends := rfl
  rooms r := ⟨_, knownH_at f h r, fun d _ q => by simpa using q⟩
  cols r d m := rfl
/-- a font without letters on no door -/
def onDoor (h : House) (s : Nat) : Bool := h.1.any fun ds => ds.any fun d => d.1 == s
def usedF (f : Font) (h : House) : Font := if (f.2.filter fun l => onDoor h l.1) = [] then f else (f.1, f.2.filter fun l => onDoor h l.1)
theorem usedF_ok {f : Font} (hf : okFont f) (h : House) : okFont (usedF f h) := by
  unfold usedF
  split
  · exact hf
  · rename_i q
    exact ⟨hf.h1, hf.h60, List.length_pos_iff.mpr q, Nat.le_trans (List.length_filter_le ..) hf.len, fun l m => hf.sg l (List.mem_filter.mp m).1, fun l m => hf.cp l (List.mem_filter.mp m).1, fun l m => hf.c8 l (List.mem_filter.mp m).1, fun l m => hf.lt l (List.mem_filter.mp m).1, hf.asc.sublist ((List.filter_sublist ..).map _)⟩
theorem colsOf_filter {p : Nat → Bool} {s : Nat} (hs : p s = true) : ∀ ls : List Lt, colsOf (ls.filter fun l => p l.1) s = colsOf ls s
  | [] => rfl
  | l :: ls => by
    rw [List.filter_cons, colsOf_cons]
    split
    · rw [colsOf_cons, colsOf_filter hs ls]
    · rename_i q
      have : l.1 ≠ s := fun e => q (e ▸ hs)
      rw [if_neg this, colsOf_filter hs ls]
theorem same_used (f : Font) (h : House) {h' : House} (s : sameFH f h f h') : sameFH f h (usedF f h) h' where
  len := s.len
  ends := s.ends
  rooms := s.rooms
  cols r d m := by
    unfold usedF
    split
    · rfl
    · refine colsOf_filter ?_ f.2
      obtain ⟨ds, m1, m2⟩ := room_mem m
      exact List.any_eq_true.mpr ⟨ds, m1, List.any_eq_true.mpr ⟨d, m2, by simp⟩⟩
theorem same_self (f : Font) (h : House) : sameFH f h f h where
  len := rfl
  ends := rfl
  rooms r := ⟨fun _ => true, by rw [List.filter_eq_self.mpr fun _ _ => rfl], fun _ _ q => by cases q⟩
  cols r d m := rfl
/-! ### a house without ends -/
def deadH (h : House) : House := (h.1, [])
theorem deadH_ok {h : House} (ok : okHouse h) : okHouse (deadH h) := ⟨ok.pos, ok.len, ok.to, ok.sg, ok.asc, (by intro e m; cases m), List.Pairwise.nil⟩
theorem dead_texts {f : Font} (hf : okFont f) {h : House} (ok : okHouse h) (w : Nat) {r : Nat} (hr : r < h.1.length) : textsW f (deadH h) w r = [] := by
  apply List.eq_nil_iff_forall_not_mem.mpr
  intro t m
  obtain ⟨⟨e, _, m⟩, _⟩ := (mem_textsW hf (deadH_ok ok) t w r hr).mp m
  cases m
theorem dead_near {f : Font} (hf : okFont f) {h : House} (ok : okHouse h) (xs : List Nat) : nearH f (deadH h) xs = none := near_no hf (deadH_ok ok) (dead_texts hf ok _ ok.pos)
theorem dead_row {f : Font} (hf : okFont f) {h : House} (ok : okHouse h) (xs : List Nat) : rowS f (deadH h) xs = List.replicate h.1.length none := by
  apply List.ext_getElem
  · rw [rowS_len, List.length_replicate]; rfl
  · intro r h1 h2
    rw [List.length_replicate] at h2
    have hb := best_row hf (deadH_ok ok) _ xs rfl r h2
    unfold gapsW at hb
    rw [dead_texts hf ok _ h2] at hb
    rw [List.getD_eq_getElem?_getD, List.getElem?_eq_getElem h1, Option.getD_some] at hb
    rw [List.getElem_replicate]
    cases e : (rowS f (deadH h) xs)[r] with
    | none => rfl
    | some p => rw [e] at hb; exact absurd hb.1 (by simp)
theorem dead_paper {f : Font} (hf : okFont f) {h : House} (ok : okHouse h) (xs : List Nat) : paperS f (deadH h) xs = List.replicate (xs.length + 1) (List.replicate h.1.length none) := by
  apply List.ext_getElem
  · rw [paperS_len, List.length_replicate]
  · intro k h1 h2
    rw [List.length_replicate] at h2
    have a := paperS_at f (deadH h) xs k (by omega)
    rw [List.getD_eq_getElem?_getD, List.getElem?_eq_getElem h1, Option.getD_some] at a
    rw [a, List.getElem_replicate, dead_row hf ok]
theorem sh_enI (e : EntI) : Sh 1 (enI e) := by
  cases e with
  | none => exact sh_none 1
  | some p =>
    refine sh_tuple fun x m => ?_
    simp only [List.mem_cons, List.not_mem_nil, or_false] at m
    rcases m with rfl | rfl <;> exact sh_int _ _
theorem sh_ent (e : Ent) : Sh 1 (entD e) := entD_I e ▸ sh_enI _
theorem sh_row (r : List Ent) : Sh 2 (rowD r) := sh_map sh_ent r
theorem sh_rowI (r : List EntI) : Sh 2 (rowI r) := sh_map sh_enI r
theorem sh_paper (p : Paper) : Sh 3 (.list (p.map rowD)) := sh_map sh_row p
theorem sh_paperI (p : PaperI) : Sh 3 (.list (p.map rowI)) := sh_map sh_rowI p
theorem pl_enI (e : EntI) : pl (enI e) = true := by cases e <;> rfl
theorem pl_rowI (r : List EntI) : pl (rowI r) = true := by
  rw [rowI, pl]
  exact pls_all fun x m => by obtain ⟨e, _, rfl⟩ := List.mem_map.mp m; exact pl_enI e
theorem pl_paperI (p : PaperI) : pl (.list (p.map rowI)) = true := by
  rw [pl]
  exact pls_all fun x m => by obtain ⟨e, _, rfl⟩ := List.mem_map.mp m; exact pl_rowI e
theorem okEq_enI (a b : EntI) : okEq (enI a) (enI b) := okEq_of (sh_enI a) (sh_enI b) (by decide)
theorem okEq_rowI (a b : List EntI) : okEq (rowI a) (rowI b) := okEq_of (sh_rowI a) (sh_rowI b) (by decide)
theorem okEq_paperI (a b : PaperI) : okEq (.list (a.map rowI)) (.list (b.map rowI)) := okEq_of (sh_paperI a) (sh_paperI b) (by decide)
theorem eqv_enI (a b : EntI) : PyData.eqv (enI a) (enI b) = decide (a = b) := by
  rw [Bool.eq_iff_iff, eqv_pl (pl_enI a) (pl_enI b), decide_eq_true_eq, enI_iff]
theorem eqv_rowI (a b : List EntI) : PyData.eqv (rowI a) (rowI b) = decide (a = b) := by
  rw [Bool.eq_iff_iff, eqv_pl (pl_rowI a) (pl_rowI b), decide_eq_true_eq, rowI, rowI, PyData.list.injEq, enIl_iff]
theorem eqv_paperI (a b : PaperI) : PyData.eqv (.list (a.map rowI)) (.list (b.map rowI)) = decide (a = b) := by
  rw [Bool.eq_iff_iff, eqv_pl (pl_paperI a) (pl_paperI b), decide_eq_true_eq, PyData.list.injEq, paperI_iff]
theorem eqv_paper (a b : Paper) : PyData.eqv (.list (a.map rowD)) (.list (b.map rowD)) = decide (a = b) := by
  rw [paperD_I, paperD_I, eqv_paperI, decide_eq_decide]
  exact ⟨castP_inj, fun h => by rw [h]⟩
theorem okEq_paper (a b : Paper) : okEq (.list (a.map rowD)) (.list (b.map rowD)) := okEq_of (sh_paper a) (sh_paper b) (by decide)
theorem near_mem {f : Font} (hf : okFont f) {h : House} (ok : okHouse h) {xs t : List Nat} {g n : Nat} (e : nearH f h xs = some (t, g, n)) : (rowS f h xs).getD 0 none = some (g, n) ∧ t ∈ textsW f h xs.length 0 ∧ gapN (setF f t) xs = g := by
  cases q : (rowS f h xs).getD 0 none with
  | none => rw [nearH_none q] at e; cases e
  | some p =>
    obtain ⟨g', n'⟩ := p
    obtain ⟨t', _, t2, t3, t4⟩ := nearH_some hf ok q
    rw [e] at t2
    cases t2
    exact ⟨rfl, t3, t4⟩
theorem near_okT {f : Font} (hf : okFont f) {h : House} (ok : okHouse h) {xs t : List Nat} {g n : Nat} (e : nearH f h xs = some (t, g, n)) : okT t :=
  inF_ok hf ((mem_textsW hf ok _ _ _ ok.pos).mp (near_mem hf ok e).2.1).2.1
theorem sh_near {f : Font} (hf : okFont f) {h : House} (ok : okHouse h) (xs : List Nat) : Sh 1 (nearD (nearH f h xs)) := by
  cases e : nearH f h xs with
  | none => exact sh_none 1
  | some p =>
    obtain ⟨t, g, n⟩ := p
    refine sh_tuple fun x m => ?_
    simp only [List.mem_cons, List.not_mem_nil, or_false] at m
    rcases m with rfl | rfl | rfl
    · exact (near_okT hf ok e).sh _
    · exact sh_int _ _
    · exact sh_int _ _
theorem noL_enI (e : EntI) : noL (enI e) = true := by cases e <;> rfl
theorem noL_entD (e : Ent) : noL (entD e) = true := by cases e <;> rfl
theorem noL_near (e : Option (List Nat × Nat × Nat)) : noL (nearD e) = true := by cases e <;> rfl
/-! ### a row's number put to its end -/
def apX (p : Paper) (k : Nat) : List (List D) := p.mapIdx fun i r => if i < k then r.map entD ++ [.int (i : Int)] else r.map entD
theorem apX_len (p : Paper) (k : Nat) : (apX p k).length = p.length := List.length_mapIdx
theorem apX_zero (p : Paper) : p.map rowO = (apX p 0).map O.lst := by
  unfold apX
  refine List.ext_getElem (by simp) fun i h1 h2 => ?_
  simp [rowO]
theorem apX_at {p : Paper} {k : Nat} (h : k < p.length) : (apX p k)[k]? = some (p[k].map entD) := by
  unfold apX
  rw [List.getElem?_mapIdx, List.getElem?_eq_getElem h]
  simp
theorem apX_get {p : Paper} {k i : Nat} (h : i < (apX p k).length) : (apX p k)[i] = if i < k then (p[i]'(by rwa [apX_len] at h)).map entD ++ [.int (i : Int)] else (p[i]'(by rwa [apX_len] at h)).map entD := by
  unfold apX
  exact List.getElem_mapIdx ..
theorem apX_succ {p : Paper} {k : Nat} (h : k < p.length) : (apX p k).set k (p[k].map entD ++ [.int (k : Int)]) = apX p (k + 1) := by
  refine List.ext_getElem (by simp [apX_len]) fun i h1 h2 => ?_
  rw [List.getElem_set, apX_get h2]
  split
  · subst_vars; rw [if_pos (by omega)]
  · rw [apX_get]
    split
    · rw [if_pos (by omega)]
    · rw [if_neg (by omega)]
theorem apX_all (p : Paper) : (apX p p.length).map PyData.list = (List.range p.length).map fun i => PyData.list ((p.getD i []).map entD ++ [.int (i : Int)]) := by
  unfold apX
  refine List.ext_getElem (by simp) fun i h1 h2 => ?_
  simp only [List.length_map, List.length_mapIdx] at h1
  simp [h1]
theorem rowO_at {p : Paper} {x r : Nat} (hx : x < p.length) (hr : r < (p.getD x []).length) {z : R → Prop} (q : z (.v (entD ((p.getD x []).getD r none)))) : ∃ o, atI (p.map rowO) (x : Int) = some o ∧ ixR (oR o) (.int (r : Int)) fun d => z d := by
  refine ⟨_, atI_map_lt rowO hx, ?_⟩
  have e : p.getD x [] = p[x] := by rw [List.getD_eq_getElem?_getD, List.getElem?_eq_getElem hx]; rfl
  rw [e] at hr q
  have e2 : p[x].getD r none = p[x][r] := by rw [List.getD_eq_getElem?_getD, List.getElem?_eq_getElem hr]; rfl
  rw [e2] at q
  show ixR (.b (.lst (p[x].map entD))) _ _
  rw [ixR_bl, ixD_l]
  exact ⟨_, atI_map_lt entD hr, q⟩
theorem last_at {h : House} {r : Nat} (hr : r < h.1.length) : (lastRow h).getD r none = if r ∈ h.2 then some (0, 1) else none := by
  unfold lastRow
  rw [List.getD_eq_getElem?_getD, List.getElem?_map, List.getElem?_range hr]; rfl
theorem noLs_ents (w : List Ent) : noLs (w.map entD) = true := noLs_of fun d m => by
  obtain ⟨e, _, rfl⟩ := List.mem_map.mp m
  exact noL_entD e
theorem kept_eq (p : Paper) : List.map O.frz (List.map (fun w : List Ent => O.lst (w.map entD)) p) = p.map rowD := by rw [List.map_map]; rfl
theorem sh_apX (p : Paper) (k : Nat) : Sh 3 (.list ((apX p k).map PyData.list)) := by
  refine sh_list fun d m => ?_
  obtain ⟨r, mr, rfl⟩ := List.mem_map.mp m
  unfold apX at mr
  obtain ⟨i, hi, rfl⟩ := List.mem_mapIdx.mp mr
  refine sh_list fun d m => ?_
  split at m
  · rcases List.mem_append.mp m with m | m
    · obtain ⟨e, _, rfl⟩ := List.mem_map.mp m
      exact sh_ent e
    · rw [List.mem_singleton.mp m]; exact sh_int _ _
  · obtain ⟨e, _, rfl⟩ := List.mem_map.mp m
    exact sh_ent e
theorem rowD_at {p : Paper} {x r : Nat} (hx : x < p.length) (hr : r < (p.getD x []).length) {z : D → Prop} (q : z (entD ((p.getD x []).getD r none))) : ∃ d, atI (p.map rowD) (x : Int) = some d ∧ ixD d (.int (r : Int)) fun d => z d := by
  refine ⟨_, atI_map_lt rowD hx, ?_⟩
  have e : p.getD x [] = p[x] := by rw [List.getD_eq_getElem?_getD, List.getElem?_eq_getElem hx]; rfl
  rw [e] at hr q
  have e2 : p[x].getD r none = p[x][r] := by rw [List.getD_eq_getElem?_getD, List.getElem?_eq_getElem hr]; rfl
  rw [e2] at q
  rw [ixD_l]
  exact ⟨_, atI_map_lt entD hr, q⟩
theorem paper_at {f : Font} {h : House} {xs : List Nat} {x r : Nat} (hx : x ≤ xs.length) (hr : r < h.1.length) {z : D → Prop} (q : z (entD ((rowS f h (xs.drop x)).getD r none))) : ∃ d, atI ((paperS f h xs).map rowD) (x : Int) = some d ∧ ixD d (.int (r : Int)) fun d => z d := by
  refine rowD_at (by rw [paperS_len]; omega) (by rw [paperS_at f h xs x hx, rowS_len]; exact hr) ?_
  rw [paperS_at f h xs x hx]; exact q
theorem paper_00 {f : Font} {h : House} (ok : okHouse h) {xs : List Nat} {z : D → Prop} (q : z (entD ((rowS f h xs).getD 0 none))) : ∃ d, atI ((paperS f h xs).map rowD) 0 = some d ∧ ixD d (.int 0) fun d => z d := by
  have := paper_at (f := f) (h := h) (xs := xs) (x := 0) (r := 0) (Nat.zero_le _) ok.pos (z := z) (by rw [List.drop_zero]; exact q)
  exact this
theorem dict_drs {ds : List (Nat × Nat)} (nd : (ds.map (·.1)).Nodup) {Q : R → Prop} (q : Q (.t (.dic (dG kO encR ds)))) : dictD (drsD ds) Q := by
  show dictD (.tuple (ds.map drD)) Q
  rw [dictD_t]
  exact ⟨psR ds, psR_eq ds, by rw [psR_merge nd]; exact q⟩
theorem putC_take {f : Font} (hf : okFont f) {k : Nat} {l : Lt} (h : f.2[k]? = some l) : putD (dG kO encC (f.2.take k)) (Sum.inr (tS [l.1])) (.tuple (nL l.2)) = dG kO encC (f.2.take (k + 1)) := by
  have e := putD_dG (enc := encC) kO_inj (f.2.take k) l.1 l.2
  have nd := hf.nodup
  rw [putG_new (fun m => ?_), ← take_succ h] at e
  · exact e
  · have h2 : (f.2.map (·.1)).take (k + 1) = (f.2.map (·.1)).take k ++ [l.1] := by rw [← List.map_take, take_succ h, List.map_append, List.map_take]; rfl
    have n2 := nd.sublist (List.take_sublist (k + 1) _)
    rw [h2, List.map_take] at *
    exact (List.nodup_append.mp n2).2.2 _ m _ (List.mem_singleton.mpr rfl) rfl
theorem lookC (f : Font) (s : Nat) : lookK (dG kO encC f.2) (Sum.inr (tS [s])) = (colsOf f.2 s).map encC := by
  rw [← lookG_cols]; exact lookK_dG kO_inj s f.2
theorem lookR (ds : List (Nat × Nat)) (s : Nat) : lookK (dG kO encR ds) (Sum.inr (tS [s])) = (lookG ds s).map encR := lookK_dG kO_inj s ds
theorem wholeB_int (i : Int) : wholeB (.int i) = true := rfl
theorem none_row (h : House) : h.1.map (fun _ => PyData.none) = ((List.range h.1.length).map fun _ => (none : Ent)).map entD := by
  rw [List.map_const', List.map_map]
  show _ = List.map (fun _ => PyData.none) _
  rw [List.map_const', List.length_range]
theorem near_nil {f : Font} (hf : okFont f) {h : House} (ok : okHouse h) : nearH f h [] = if 0 ∈ h.2 then some ([], 0, 1) else none := by
  have e : (rowS f h []).getD 0 none = if 0 ∈ h.2 then some (0, 1) else none := by rw [rowS_nil, last_at ok.pos]
  by_cases q : 0 ∈ h.2
  · rw [if_pos q] at e ⊢
    unfold nearH
    rw [e, Option.bind_some, (first_end ok.pos e).1]; rfl
  · rw [if_neg q] at e ⊢
    exact nearH_none e
theorem onDoor_iff {h : House} {s : Nat} : onDoor h s = true ↔ ∃ ds ∈ h.1, ∃ d ∈ ds, d.1 = s := by
  unfold onDoor
  simp [List.any_eq_true]
theorem few_okSg {ks : List Nat} (nd : ks.Nodup) (h : ∀ s ∈ ks, okSg s) : ks.length ≤ 94 := by
  have := len_subset nd fun s m => mem_menu (h s m)
  rwa [menu_len] at this
theorem none_paper (n r : Nat) : (List.range (n + 1)).map (fun _ => rowD (List.replicate r none)) = (List.replicate (n + 1) (List.replicate r none) : Paper).map rowD := by
  rw [List.map_const', List.length_range, List.map_replicate]
theorem none_ents (r : Nat) : PyData.list ((List.range r).map fun _ => PyData.none) = rowD (List.replicate r none) := by
  show PyData.list _ = PyData.list _
  rw [List.map_const', List.length_range, List.map_replicate]; rfl
end DL

set_option Elab.async false
set_option linter.all false
set_option maxRecDepth 100000
set_option maxHeartbeats 1000000
/-! MQ: whether a list is the near paper. -/
namespace DL
open PySem L2 PyProof.Rows
theorem goI_congr {f : Font} (hf : okFont f) {xs : List Nat} {x : Nat} {p q : PaperI} (e : ∀ b, x < b → b ≤ xs.length → p.getD b [] = q.getD b []) (d : Nat × Nat) : goI (marksT f.2 xs x) p d = goI (marksT f.2 xs x) q d := by
  unfold goI
  rw [lookG_marks hf.nodup]
  cases c : colsOf f.2 d.1 with
  | none => rfl
  | some cs =>
    have hc := hf.cp _ (colsOf_mem c)
    simp only [Option.bind_some] at hc ⊢
    by_cases l : x + cs.length ≤ xs.length
    · rw [if_pos l, Option.bind_some, Option.bind_some, e (x + cs.length) (by omega) l]
    · rw [if_neg l]; rfl
theorem leastI_congr {f : Font} (hf : okFont f) {xs : List Nat} {x : Nat} {p q : PaperI} (e : ∀ b, x < b → b ≤ xs.length → p.getD b [] = q.getD b []) (ds : List (Nat × Nat)) : leastI ds (marksT f.2 xs x) p = leastI ds (marksT f.2 xs x) q := by
  unfold leastI
  congr 1
  funext a d
  rw [goI_congr hf e]
theorem holds_self {f : Font} (hf : okFont f) {h : House} {xs : List Nat} {x r : Nat} (hx : x < xs.length) (hr : r < h.1.length) : ((castP (paperS f h xs)).getD x []).getD r none = leastI (h.1.getD r []) (marksT f.2 xs x) (castP (paperS f h xs)) := by
  rw [least_full hf hx, castP_at, castR_at, paperS_at f h _ _ (by omega), rowS_at hf h (by rw [List.length_drop]; omega) hr]
theorem holds_last (f : Font) (h : House) (xs : List Nat) : (castP (paperS f h xs)).getD xs.length [] = castR (lastRow h) := by
  rw [castP_at, paperS_at f h _ _ (Nat.le_refl _), List.drop_length]; rfl
theorem holds_of {f : Font} (hf : okFont f) {h : House} {xs : List Nat} {p : PaperI} (hl : p.length = xs.length + 1) (hr : ∀ w ∈ p, w.length = h.1.length) (last : p.getD xs.length [] = castR (lastRow h))
    (each : ∀ x, x < xs.length → ∀ r, r < h.1.length → (p.getD x []).getD r none = leastI (h.1.getD r []) (marksT f.2 xs x) p) : p = castP (paperS f h xs) := by
  have key : ∀ k x, x + k = xs.length → p.getD x [] = castR (rowS f h (xs.drop x)) := by
    intro k
    induction k using Nat.strongRecOn with
    | ind k ih =>
      intro x hx
      by_cases h0 : k = 0
      · subst h0
        have : x = xs.length := by omega
        subst this
        rw [last, List.drop_length]; rfl
      · have hx2 : x < xs.length := by omega
        have hlen : (p.getD x []).length = h.1.length := by
          rw [List.getD_eq_getElem?_getD, List.getElem?_eq_getElem (by omega)]
          exact hr _ (List.getElem_mem _)
        have cg : ∀ b, x < b → b ≤ xs.length → p.getD b [] = (castP (paperS f h xs)).getD b [] := fun b b1 b2 => by
          rw [ih (xs.length - b) (by omega) b (by omega), castP_at, paperS_at f h _ _ b2]
        apply List.ext_getElem
        · rw [hlen, castR_len, rowS_len]
        · intro r h1 h2
          have hr2 : r < h.1.length := by omega
          have a := each x hx2 r hr2
          rw [leastI_congr hf cg, least_full hf hx2, List.getD_eq_getElem?_getD, List.getElem?_eq_getElem h1, Option.getD_some] at a
          rw [a, ← rowS_at hf h (by rw [List.length_drop]; omega) hr2, ← castR_at, List.getD_eq_getElem?_getD, List.getElem?_eq_getElem h2]; rfl
  apply List.ext_getElem
  · rw [hl, castP_len, paperS_len]
  · intro x h1 h2
    have a := key (xs.length - x) x (by omega)
    rw [List.getD_eq_getElem?_getD, List.getElem?_eq_getElem h1, Option.getD_some] at a
    rw [a, ← paperS_at f h xs x (by omega), ← castP_at, List.getD_eq_getElem?_getD, List.getElem?_eq_getElem h2]; rfl
theorem fits_shape {f : Font} (hf : okFont f) {n : Nat} {xs : List Nat} {x : Nat} {p : PaperI} (hl : p.length = xs.length + 1) (hr : ∀ w ∈ p, w.length = n) {d : Nat × Nat} (hd : d.2 < n) : fitsP (marksT f.2 xs x) p d := by
  intro m hm
  rw [lookG_marks hf.nodup] at hm
  cases e : colsOf f.2 d.1 with
  | none => rw [e] at hm; cases hm
  | some cs =>
    rw [e, Option.bind_some] at hm
    by_cases q : x + cs.length ≤ xs.length
    · rw [if_pos q] at hm
      cases hm
      refine ⟨by simp only; omega, ?_⟩
      rw [List.getD_eq_getElem?_getD, List.getElem?_eq_getElem (by simp only; omega), Option.getD_some, hr _ (List.getElem_mem _)]
      exact hd
    · rw [if_neg q] at hm; cases hm
/-- a room more or less among the ends -/
def turnEnds (h : House) (a : Nat) : House := (h.1, (List.range h.1.length).filter fun r => decide (r ∈ h.2) != decide (r = a))
theorem turnEnds_ok {h : House} (ok : okHouse h) (a : Nat) : okHouse (turnEnds h a) :=
  ⟨ok.pos, ok.len, ok.to, ok.sg, ok.asc, fun e m => List.mem_range.mp (List.mem_filter.mp m).1, List.pairwise_lt_range.sublist (List.filter_sublist ..)⟩
theorem rowI_at {p : PaperI} {x r : Nat} (hx : x < p.length) (hr : r < (p.getD x []).length) {z : D → Prop} (q : z (enI ((p.getD x []).getD r none))) : ∃ d, atI (p.map rowI) (x : Int) = some d ∧ ixD d (.int (r : Int)) fun d => z d := by
  refine ⟨_, atI_map_lt rowI hx, ?_⟩
  have e : p.getD x [] = p[x] := by rw [List.getD_eq_getElem?_getD, List.getElem?_eq_getElem hx]; rfl
  rw [e] at hr q
  have e2 : p[x].getD r none = p[x][r] := by rw [List.getD_eq_getElem?_getD, List.getElem?_eq_getElem hr]; rfl
  rw [e2] at q
  rw [ixD_l]
  exact ⟨_, atI_map_lt enI hr, q⟩
theorem ne_go {a b : D} {p : Prop} [Decidable p] {A C : Prop} (ho : okEq a b) (he : PyData.eqv a b = decide p) (h1 : ¬ p → A) (h2 : p → C) : okEq a b ∧ if (!PyData.eqv a b) = true then A else C := by
  refine ⟨ho, ?_⟩
  rw [he]
  by_cases q : p
  · rw [if_neg (by simp [q])]; exact h2 q
  · rw [if_pos (by simp [q])]; exact h1 q
theorem set_ne {α : Type} {p : List α} {x : Nat} (hx : x < p.length) {a : α} (h : a ≠ p[x]) : p.set x a ≠ p := fun e => h (by
  have := congrArg (·[x]?) e
  simpa [hx] using this)
theorem len_ne {α : Type} {p q : List α} (h : p.length ≠ q.length) : p ≠ q := fun e => h (by rw [e])
theorem okEq_rowEnt (a : List EntI) (b : List Ent) : okEq (rowI a) (.list (b.map entD)) := by
  have := okEq_rowI a (castR b)
  rwa [← rowD_I] at this
theorem eqv_rowEnt (a : List EntI) (b : List Ent) : PyData.eqv (rowI a) (.list (b.map entD)) = decide (a = castR b) := by
  have := eqv_rowI a (castR b)
  rwa [← rowD_I] at this
theorem frz_rows (p : PaperI) : List.map O.frz (List.map (fun w : List EntI => O.lst (List.map enI w)) p) = p.map rowI := by rw [List.map_map]; rfl
theorem succ_cast (x : Nat) : (x : Int) + 1 = ((x + 1 : Nat) : Int) := rfl
theorem paper_dec (a b : Paper) : decide (castP a = castP b) = decide (b = a) := by
  by_cases e : b = a
  · rw [decide_eq_true e, decide_eq_true (by rw [e])]
  · rw [decide_eq_false e, decide_eq_false fun q => e (castP_inj q).symm]
end DL

set_option Elab.async false
set_option linter.all false
set_option maxRecDepth 100000
set_option maxHeartbeats 1000000
/-! MR: how many texts of a width. -/
namespace DL
open PySem L2 PyProof.Rows
def cntW (f : Font) (h : House) (w r : Nat) : Nat := (textsW f h w r).length
def cntD (f : Font) (h : House) (w : Nat) (d : Nat × Nat) : Nat := (wayT f h w d).length
theorem cntW_zero (f : Font) (h : House) (r : Nat) : cntW f h 0 r = if r ∈ h.2 then 1 else 0 := by
  unfold cntW
  rw [textsW_zero]
  split <;> rfl
theorem cntW_pos {f : Font} (hf : okFont f) (h : House) {w : Nat} (hw : 0 < w) (r : Nat) : cntW f h w r = ((h.1.getD r []).map (cntD f h w)).sum := by
  unfold cntW
  rw [textsW_pos hf h hw, List.length_flatMap]; rfl
theorem cntD_at {f : Font} (h : House) (w : Nat) {d : Nat × Nat} {cs : List Nat} (e : colsOf f.2 d.1 = some cs) : cntD f h w d = if cs.length ≤ w then cntW f h (w - cs.length) d.2 else 0 := by
  unfold cntD
  rw [wayT_at h w e]
  split
  · rw [List.length_map]; rfl
  · rfl
theorem cntD_no {f : Font} (h : House) (w : Nat) {d : Nat × Nat} (e : colsOf f.2 d.1 = none) : cntD f h w d = 0 := by
  unfold cntD
  rw [wayT_no h w e]; rfl
/-- the counts of a width, room by room -/
def cRow (f : Font) (h : House) (w : Nat) : List Nat := (List.range h.1.length).map (cntW f h w)
theorem cRow_len (f : Font) (h : House) (w : Nat) : (cRow f h w).length = h.1.length := by simp [cRow]
theorem cRow_at {f : Font} {h : House} {w r : Nat} (hr : r < h.1.length) : (cRow f h w)[r]? = some (cntW f h w r) := by
  unfold cRow
  rw [List.getElem?_map, List.getElem?_range hr]; rfl
def cTab (f : Font) (h : House) (n : Nat) : List D := (List.range n).map fun w => .list (nL (cRow f h w))
theorem cTab_len (f : Font) (h : House) (n : Nat) : (cTab f h n).length = n := by simp [cTab]
theorem cTab_snoc (f : Font) (h : House) (n : Nat) : cTab f h n ++ [.list (nL (cRow f h n))] = cTab f h (n + 1) := by
  unfold cTab
  rw [List.range_succ, List.map_append]; rfl
theorem cTab_at {f : Font} {h : House} {n w r : Nat} (hw : w < n) (hr : r < h.1.length) {z : D → Prop} (q : z (.int (cntW f h w r))) : ∃ d, atI (cTab f h n) (w : Int) = some d ∧ ixD d (.int (r : Int)) fun d => z d := by
  have e : atI (cTab f h n) (w : Int) = some (.list (nL (cRow f h w))) := by
    rw [atI_nat]
    unfold cTab
    rw [List.getElem?_map, List.getElem?_range hw]; rfl
  refine ⟨_, e, ?_⟩
  rw [ixD_l]
  refine ⟨_, ?_, q⟩
  rw [atI_nat, List.getElem?_map, cRow_at hr]; rfl
theorem cRow_zero (f : Font) (h : House) : cRow f h 0 = (List.range h.1.length).map fun r => if r ∈ h.2 then 1 else 0 := by
  unfold cRow
  apply List.map_congr_left
  intro r _
  exact cntW_zero f h r
/-- a part of a row -/
def cPart (f : Font) (h : House) (w k : Nat) : List Nat := (h.1.take k).map fun ds => (ds.map (cntD f h w)).sum
theorem cPart_all {f : Font} (hf : okFont f) (h : House) {w : Nat} (hw : 0 < w) : cPart f h w h.1.length = cRow f h w := by
  unfold cPart cRow
  rw [List.take_length]
  refine List.ext_getElem (by simp) fun i h1 h2 => ?_
  rw [List.length_map] at h1
  rw [List.getElem_map, List.getElem_map, List.getElem_range, cntW_pos hf h hw, List.getD_eq_getElem?_getD, List.getElem?_eq_getElem h1]; rfl
theorem cPart_snoc {f : Font} {h : House} {w k : Nat} {ds : List (Nat × Nat)} (hd : h.1[k]? = some ds) : cPart f h w k ++ [(ds.map (cntD f h w)).sum] = cPart f h w (k + 1) := by
  unfold cPart
  rw [take_succ hd, List.map_append]; rfl
theorem sum_snoc {α : Type} (g : α → Nat) {ds : List α} {j : Nat} {d : α} (hd : ds[j]? = some d) : ((ds.take (j + 1)).map g).sum = ((ds.take j).map g).sum + g d := by
  rw [take_succ hd, List.map_append, List.sum_append]
  simp
theorem rgD_1 (n : Nat) : rgD 1 n = nL ((List.range n).map (· + 1)) := by
  unfold rgD nL
  rw [List.map_map]
  apply List.map_congr_left
  intro i _
  simp only [Function.comp]
  congr 1; omega
theorem up_get {n k d : Nat} (h : ((List.range n).map (· + 1))[k]? = some d) : k < n ∧ d = k + 1 := by
  rw [List.getElem?_map] at h
  cases e : (List.range n)[k]? with
  | none => rw [e] at h; cases h
  | some i =>
    obtain ⟨rfl, hk⟩ := range_get e
    rw [e] at h
    exact ⟨hk, by simpa using h.symm⟩
theorem cTab_one (f : Font) (h : House) : [PyData.list ((List.range h.1.length).map fun r => .int ((if r ∈ h.2 then 1 else 0 : Nat) : Int))] = cTab f h 1 := by
  have e : cTab f h 1 = [.list (nL (cRow f h 0))] := rfl
  rw [e, cRow_zero]
  unfold nL
  rw [List.map_map]; rfl
theorem cTab_at0 {f : Font} {h : House} (ok : okHouse h) {n w : Nat} (hw : w < n) {z : D → Prop} (q : z (.int (cntW f h w 0))) : ∃ d, atI (cTab f h n) (w : Int) = some d ∧ ixD d (.int 0) fun d => z d := cTab_at (r := 0) hw ok.pos q
/-- the doors that may be gone: widths and rooms -/
def sized (f : Font) (ds : List (Nat × Nat)) : List (Nat × Nat) := (ds.filter fun d => (colsOf f.2 d.1).isSome).map fun d => ((colsF f d.1).length, d.2)
theorem sum_sized (f : Font) (h : House) (w : Nat) : ∀ ds : List (Nat × Nat), (((sized f ds).filter fun p => decide (p.1 ≤ w)).map fun p => cntW f h (w - p.1) p.2).sum = (ds.map (cntD f h w)).sum
  | [] => rfl
  | d :: ds => by
    have ih := sum_sized f h w ds
    rw [List.map_cons, List.sum_cons, ← ih]
    cases e : colsOf f.2 d.1 with
    | none =>
      rw [cntD_no h w e]
      simp [sized, List.filter_cons, e]
    | some cs =>
      rw [cntD_at h w e]
      have e2 : colsF f d.1 = cs := colsF_of e
      by_cases q : cs.length ≤ w <;> simp [sized, List.filter_cons, e, e2, q]
theorem lenC (cs : List Nat) (Q : R → Prop) : lenD (encC cs) Q = Q (.v (.int cs.length)) := by
  show lenD (.tuple (nL cs)) Q = _
  rw [lenD_t, List.length_map]
theorem sized_mem {f : Font} (hf : okFont f) {ds : List (Nat × Nat)} {p : Nat × Nat} (m : p ∈ sized f ds) : 1 ≤ p.1 ∧ p.1 ≤ 8 ∧ ∃ d ∈ ds, d.2 = p.2 := by
  unfold sized at m
  obtain ⟨d, m1, rfl⟩ := List.mem_map.mp m
  obtain ⟨m2, e1⟩ := List.mem_filter.mp m1
  obtain ⟨cs, e⟩ := Option.isSome_iff_exists.mp e1
  have e2 : colsF f d.1 = cs := colsF_of e
  rw [e2]
  exact ⟨hf.cp _ (colsOf_mem e), hf.c8 _ (colsOf_mem e), d, m2, rfl⟩
theorem sized_len (f : Font) (ds : List (Nat × Nat)) : (sized f ds).length ≤ ds.length := by
  unfold sized
  rw [List.length_map]
  exact List.length_filter_le _ _
end DL

set_option Elab.async false
set_option linter.all false
set_option maxRecDepth 100000
set_option maxHeartbeats 1000000
/-! MS: all texts of a width, by a pile. -/
namespace DL
open PySem L2 PyProof.Rows
def nodeW (f : Font) (h : House) (w r : Nat) : Nat :=
  1 + ((h.1.getD r []).map fun d => match colsOf f.2 d.1 with
    | none => 0
    | some cs => if q : 1 ≤ cs.length ∧ cs.length ≤ w then nodeW f h (w - cs.length) d.2 else 0).sum
termination_by w
decreasing_by omega
abbrev Pl := List Nat × Nat × Nat
def plT (f : Font) (h : House) (e : Pl) : List (List Nat) := (textsW f h e.2.2 e.2.1).map (e.1 ++ ·)
def kid1 (f : Font) (h : House) (e : Pl) (d : Nat × Nat) : Option Pl := match colsOf f.2 d.1 with
  | none => none
  | some cs => if cs.length ≤ e.2.2 ∧ 0 < cntW f h (e.2.2 - cs.length) d.2 then some (e.1 ++ [d.1], d.2, e.2.2 - cs.length) else none
def kids (f : Font) (h : House) (e : Pl) : List Pl := (h.1.getD e.2.1 []).filterMap (kid1 f h e)
theorem kid1_no {f : Font} {h : House} {e : Pl} {d : Nat × Nat} (c : colsOf f.2 d.1 = none) : kid1 f h e d = none := by
  unfold kid1; rw [c]
theorem kid1_at {f : Font} {h : House} {e : Pl} {d : Nat × Nat} {cs : List Nat} (c : colsOf f.2 d.1 = some cs) : kid1 f h e d = if cs.length ≤ e.2.2 ∧ 0 < cntW f h (e.2.2 - cs.length) d.2 then some (e.1 ++ [d.1], d.2, e.2.2 - cs.length) else none := by
  unfold kid1; rw [c]
theorem kid_texts (f : Font) (h : House) (e : Pl) (d : Nat × Nat) : (wayT f h e.2.2 d).map (e.1 ++ ·) = ((kid1 f h e d).toList).flatMap (plT f h) := by
  cases c : colsOf f.2 d.1 with
  | none => rw [kid1_no c, wayT_no h _ c]; rfl
  | some cs =>
    rw [kid1_at c, wayT_at h _ c]
    by_cases q : cs.length ≤ e.2.2
    · rw [if_pos q]
      by_cases q2 : 0 < cntW f h (e.2.2 - cs.length) d.2
      · rw [if_pos ⟨q, q2⟩]
        simp [plT, List.map_map, Function.comp_def]
      · rw [if_neg fun z => q2 z.2]
        have : textsW f h (e.2.2 - cs.length) d.2 = [] := List.length_eq_zero_iff.mp (by unfold cntW at q2; omega)
        rw [this]; rfl
    · rw [if_neg q, if_neg fun z => q z.1]; rfl
theorem flatMap_filterMap {α β γ : Type} (g : α → Option β) (k : β → List γ) : ∀ l : List α, (l.filterMap g).flatMap k = l.flatMap fun x => ((g x).toList).flatMap k
  | [] => rfl
  | x :: l => by
    rw [List.flatMap_cons, ← flatMap_filterMap g k l, List.filterMap_cons]
    cases g x <;> simp
theorem kids_texts {f : Font} (hf : okFont f) (h : House) {e : Pl} (hw : 0 < e.2.2) : plT f h e = (kids f h e).flatMap (plT f h) := by
  unfold kids
  rw [flatMap_filterMap]
  unfold plT
  rw [textsW_pos hf h hw, List.map_flatMap]
  congr 1
  funext d
  exact kid_texts f h e d
theorem kids_end {f : Font} (hf : okFont f) (h : House) {e : Pl} (hw : e.2.2 = 0) : kids f h e = [] := by
  unfold kids
  apply List.filterMap_eq_nil_iff.mpr
  intro d _
  cases c : colsOf f.2 d.1 with
  | none => exact kid1_no c
  | some cs =>
    have := hf.cp _ (colsOf_mem c)
    simp only at this
    rw [kid1_at c, if_neg (by omega)]
theorem plT_end (f : Font) (h : House) {e : Pl} (hw : e.2.2 = 0) : plT f h e = if e.2.1 ∈ h.2 then [e.1] else [] := by
  unfold plT
  rw [hw, textsW_zero]
  split <;> simp
def nodeP (f : Font) (h : House) (e : Pl) : Nat := nodeW f h e.2.2 e.2.1
theorem kid1_node {f : Font} (hf : okFont f) (h : House) (e : Pl) (d : Nat × Nat) : ((kid1 f h e d).toList.map (nodeP f h)).sum ≤ (match colsOf f.2 d.1 with
    | none => 0
    | some cs => if q : 1 ≤ cs.length ∧ cs.length ≤ e.2.2 then nodeW f h (e.2.2 - cs.length) d.2 else 0) := by
  cases c : colsOf f.2 d.1 with
  | none => rw [kid1_no c]; simp
  | some cs =>
    have := hf.cp _ (colsOf_mem c)
    simp only at this
    rw [kid1_at c]
    by_cases q : cs.length ≤ e.2.2 ∧ 0 < cntW f h (e.2.2 - cs.length) d.2
    · rw [if_pos q]
      simp only [Option.toList_some, List.map_cons, List.map_nil, List.sum_cons, List.sum_nil, nodeP]
      rw [dif_pos ⟨this, q.1⟩]; omega
    · rw [if_neg q]; simp
theorem sum_kids {α β : Type} (g : α → Option β) (m : β → Nat) (n : α → Nat) : ∀ l : List α, (∀ x, ((g x).toList.map m).sum ≤ n x) → ((l.filterMap g).map m).sum ≤ (l.map n).sum
  | [], _ => by simp
  | x :: l, h => by
    have ih := sum_kids g m n l h
    have hx := h x
    rw [List.filterMap_cons, List.map_cons, List.sum_cons]
    cases e : g x with
    | none => rw [e] at hx; simp only; omega
    | some y =>
      rw [e] at hx
      simp only [Option.toList_some, List.map_cons, List.map_nil, List.sum_cons, List.sum_nil] at hx ⊢
      omega
theorem kids_node {f : Font} (hf : okFont f) (h : House) (e : Pl) : ((kids f h e).map (nodeP f h)).sum < nodeP f h e := by
  have := sum_kids (kid1 f h e) (nodeP f h) _ (h.1.getD e.2.1 []) (kid1_node hf h e)
  unfold kids nodeP at *
  rw [nodeW]
  omega
/-- what stands on the pile -/
structure okPl (f : Font) (h : House) (w : Nat) (e : Pl) : Prop where
  room : e.2.1 < h.1.length
  cnt : 0 < cntW f h e.2.2 e.2.1
  len : e.1.length + e.2.2 ≤ w
theorem okPl.kid {f : Font} (hf : okFont f) {h : House} (ok : okHouse h) {w : Nat} {e : Pl} (o : okPl f h w e) {d : Nat × Nat} (md : d ∈ h.1.getD e.2.1 []) {e2 : Pl} (k : kid1 f h e d = some e2) : okPl f h w e2 := by
  cases c : colsOf f.2 d.1 with
  | none => rw [kid1_no c] at k; cases k
  | some cs =>
    have := hf.cp _ (colsOf_mem c)
    simp only at this
    rw [kid1_at c] at k
    split at k
    · rename_i q
      cases k
      have := o.len
      exact ⟨room_to ok md, q.2, by simp only [List.length_append, List.length_cons, List.length_nil]; omega⟩
    · cases k
theorem okPl.texts {f : Font} {h : House} {w : Nat} {e : Pl} (o : okPl f h w e) : 1 ≤ (plT f h e).length := by
  have := o.cnt
  unfold cntW at this
  unfold plT
  rw [List.length_map]; omega
theorem pile_len {f : Font} {h : House} {w : Nat} : ∀ {p : List Pl}, (∀ e ∈ p, okPl f h w e) → p.length ≤ (p.flatMap (plT f h)).length
  | [], _ => by simp
  | e :: p, o => by
    have := pile_len fun x m => o x (List.mem_cons_of_mem _ m)
    have := (o e (List.mem_cons_self ..)).texts
    rw [List.flatMap_cons, List.length_append, List.length_cons]; omega
abbrev plD (e : Pl) : D := .tuple [.str (tS e.1), .int (e.2.1 : Int), .int (e.2.2 : Int)]
theorem kids_ok {f : Font} (hf : okFont f) {h : House} (ok : okHouse h) {w : Nat} {e : Pl} (o : okPl f h w e) : ∀ x ∈ kids f h e, okPl f h w x := fun x m => by
  unfold kids at m
  obtain ⟨d, md, k⟩ := List.mem_filterMap.mp m
  exact o.kid hf ok md k
theorem kids_rev (f : Font) (h : House) (e : Pl) : (h.1.getD e.2.1 []).reverse.filterMap (kid1 f h e) = (kids f h e).reverse := by
  unfold kids
  rw [List.filterMap_reverse]
theorem room_get {h : House} {r : Nat} (hr : r < h.1.length) : h.1.getD r [] = h.1[r] := by rw [List.getD_eq_getElem?_getD, List.getElem?_eq_getElem hr]; rfl
theorem filterMap_take_le {α β : Type} (g : α → Option β) (l : List α) (k : Nat) : ((l.take k).filterMap g).length ≤ (l.filterMap g).length :=
  ((List.take_sublist k l).filterMap g).length_le
theorem filterMap_snoc {α β : Type} (g : α → Option β) {l : List α} {k : Nat} {x : α} (hd : l[k]? = some x) : (l.take (k + 1)).filterMap g = (l.take k).filterMap g ++ (g x).toList := by
  rw [take_succ hd, List.filterMap_append]
  cases e : g x <;> simp [e]
/-! ### the first of the least -/
abbrev Due := Option (List Nat × Nat × Nat)
def dueStep (f : Font) (xs : List Nat) (e : Due) (t : List Nat) : Due := match e with
  | none => some (t, gapN (setF f t) xs, 1)
  | some (u, g, k) => if gapN (setF f t) xs < g then some (t, gapN (setF f t) xs, 1) else if gapN (setF f t) xs = g then some (if u < t then u else t, g, k + 1) else some (u, g, k)
def dueS (f : Font) (xs : List Nat) (ts : List (List Nat)) : Due := ts.foldl (dueStep f xs) none
theorem dueS_snoc (f : Font) (xs : List Nat) (ts : List (List Nat)) (t : List Nat) : dueS f xs (ts ++ [t]) = dueStep f xs (dueS f xs ts) t := by
  unfold dueS
  rw [List.foldl_append]; rfl
def isDue (f : Font) (xs : List Nat) (ts : List (List Nat)) : Due → Prop
  | none => ts = []
  | some (t, g, n) => ts.find? (fun t => decide (gapN (setF f t) xs = g)) = some t ∧ isBest (ts.map fun t => gapN (setF f t) xs) (some (g, n))
theorem isBest_one (g : Nat) : isBest [g] (some (g, 1)) := ⟨by simp, by simp, by simp⟩
theorem isDue_all (f : Font) (xs : List Nat) : ∀ (n : Nat) (ts : List (List Nat)), ts.length = n → ts.Pairwise (· < ·) → isDue f xs ts (dueS f xs ts)
  | 0, ts, hn, _ => by
    rw [List.length_eq_zero_iff.mp hn]; rfl
  | n + 1, ts, hn, asc => by
    rcases List.eq_nil_or_concat ts with rfl | ⟨us, t, rfl⟩
    · rfl
    rw [List.concat_eq_append] at *
    obtain ⟨a1, _, a2⟩ := List.pairwise_append.mp asc
    have ih := isDue_all f xs n us (by simp at hn; exact hn) a1
    rw [dueS_snoc]
    cases e : dueS f xs us with
    | none =>
      rw [e] at ih
      have ih : us = [] := ih
      subst ih
      exact ⟨by simp, isBest_one _⟩
    | some p =>
      obtain ⟨u, g, k⟩ := p
      rw [e] at ih
      obtain ⟨i1, i2⟩ := ih
      have hu := List.mem_of_find?_eq_some i1
      have hb := isBest_app i2 (isBest_one (gapN (setF f t) xs))
      have em : (us ++ [t]).map (fun t => gapN (setF f t) xs) = us.map (fun t => gapN (setF f t) xs) ++ [gapN (setF f t) xs] := by rw [List.map_append]; rfl
      unfold dueStep
      simp only
      by_cases q : gapN (setF f t) xs < g
      · rw [if_pos q]
        refine ⟨?_, ?_⟩
        · rw [List.find?_append, List.find?_eq_none.mpr, Option.none_or]
          · simp
          · intro v mv
            have := i2.2.1 _ (List.mem_map.mpr ⟨v, mv, rfl⟩)
            simp only [decide_eq_true_eq]
            omega
        · rw [em]
          simp only [stE, if_pos q] at hb
          exact hb
      · rw [if_neg q]
        by_cases q2 : gapN (setF f t) xs = g
        · rw [if_pos q2, if_pos (a2 u hu t (List.mem_singleton.mpr rfl))]
          refine ⟨?_, ?_⟩
          · rw [List.find?_append, i1]; rfl
          · rw [em]
            simp only [stE, if_neg q, if_pos q2] at hb
            exact hb
        · rw [if_neg q2]
          refine ⟨?_, ?_⟩
          · rw [List.find?_append, i1]; rfl
          · rw [em]
            simp only [stE, if_neg q, if_neg q2] at hb
            exact hb
theorem isBest_unique {L : List Nat} : ∀ {a b : Ent}, isBest L a → isBest L b → a = b
  | none, none, _, _ => rfl
  | none, some (g, n), ha, hb => by
    have ha : L = [] := ha
    rw [ha] at hb
    exact absurd hb.1 (by simp)
  | some (g, n), none, ha, hb => by
    have hb : L = [] := hb
    rw [hb] at ha
    exact absurd ha.1 (by simp)
  | some (g, n), some (g', n'), ha, hb => by
    have e : g = g' := Nat.le_antisymm (ha.2.1 _ hb.1) (hb.2.1 _ ha.1)
    subst e
    rw [ha.2.2, hb.2.2]
theorem due_near {f : Font} (hf : okFont f) {h : House} (ok : okHouse h) (xs : List Nat) : dueS f xs (textsW f h xs.length 0) = nearH f h xs := by
  have d := isDue_all f xs _ (textsW f h xs.length 0) rfl (textsW_asc hf ok _ _)
  have b := best_row hf ok _ xs rfl 0 ok.pos
  cases e : dueS f xs (textsW f h xs.length 0) with
  | none =>
    rw [e] at d
    exact (near_no hf ok d).symm
  | some p =>
    obtain ⟨t, g, n⟩ := p
    rw [e] at d
    obtain ⟨d1, d2⟩ := d
    have e2 := isBest_unique b d2
    unfold nearH
    rw [e2, Option.bind_some]
    unfold firstT
    rw [d1]; rfl
theorem setF_ge {f : Font} (hf : okFont f) : ∀ {t : List Nat}, inF f t → t.length ≤ (setF f t).length
  | [], _ => by simp
  | s :: t, h => by
    have a := (hf.c1 (h s (List.mem_cons_self ..))).1
    have b := setF_ge hf (t := t) fun x m => h x (List.mem_cons_of_mem _ m)
    rw [setF_cons, List.length_append, List.length_cons]; omega
theorem texts_in {f : Font} (hf : okFont f) {h : House} (ok : okHouse h) {w : Nat} {t : List Nat} (m : t ∈ textsW f h w 0) : inF f t ∧ (setF f t).length = w ∧ t.length ≤ w := by
  obtain ⟨_, a, b⟩ := (mem_textsW hf ok t w 0 ok.pos).mp m
  have := setF_ge hf a
  exact ⟨a, b, by omega⟩
end DL

set_option Elab.async false
set_option linter.all false
set_option maxRecDepth 100000
set_option maxHeartbeats 1000000
/-! MT: all texts within a gap, by a pile. -/
namespace DL
open PySem L2 PyProof.Rows
--simp wyD_eq
abbrev Wy := Nat × Nat × List Nat × Nat
def wyD (e : Wy) : D := .tuple [.int (e.1 : Int), .int (e.2.1 : Int), .str (tS e.2.2.1), .int (e.2.2.2 : Int)]
theorem wyD_eq (e : Wy) : wyD e = .tuple [.int (e.1 : Int), .int (e.2.1 : Int), .str (tS e.2.2.1), .int (e.2.2.2 : Int)] := rfl
def wayN (ms : List (Nat × (Nat × Nat))) (p : Paper) (t : List Nat) (g : Nat) (far : Int) (d : Nat × Nat) : Option Wy := match lookG ms d.1 with
  | none => none
  | some m => match (p.getD m.2 []).getD d.2 none with
    | none => none
    | some e => if (g : Int) + m.1 + e.1 ≤ far then some (m.2, d.2, t ++ [d.1], g + m.1) else none
theorem wayN_no {ms : List (Nat × (Nat × Nat))} {p : Paper} {t : List Nat} {g : Nat} {far : Int} {d : Nat × Nat} (h : lookG ms d.1 = none) : wayN ms p t g far d = none := by
  unfold wayN; rw [h]
theorem wayN_none {ms : List (Nat × (Nat × Nat))} {p : Paper} {t : List Nat} {g : Nat} {far : Int} {d : Nat × Nat} {m : Nat × Nat} (h : lookG ms d.1 = some m) (e : (p.getD m.2 []).getD d.2 none = none) : wayN ms p t g far d = none := by
  unfold wayN; rw [h]; simp only; rw [e]
theorem wayN_some {ms : List (Nat × (Nat × Nat))} {p : Paper} {t : List Nat} {g : Nat} {far : Int} {d : Nat × Nat} {m : Nat × Nat} {e : Nat × Nat} (h : lookG ms d.1 = some m) (h2 : (p.getD m.2 []).getD d.2 none = some e) :
    wayN ms p t g far d = if (g : Int) + m.1 + e.1 ≤ far then some (m.2, d.2, t ++ [d.1], g + m.1) else none := by
  unfold wayN; rw [h]; simp only; rw [h2]
def fitsN (ms : List (Nat × (Nat × Nat))) (p : Paper) (d : Nat × Nat) : Prop := ∀ m, lookG ms d.1 = some m → m.2 < p.length ∧ d.2 < (p.getD m.2 []).length
theorem fitsN_full {f : Font} (hf : okFont f) {h : House} (ok : okHouse h) {xs : List Nat} {x : Nat} {ds : List (Nat × Nat)} (m : ds ∈ h.1) : ∀ d ∈ ds, fitsN (marksT f.2 xs x) (paperS f h xs) d := fun d md k hk => by
  have := fits_full hf ok (xs := xs) (x := x) m d md k hk
  rw [castP_len, castP_at, castR_len] at this
  exact this
/-- the near ones of an entry -/
def wyT (f : Font) (h : House) (xs : List Nat) (far : Int) (e : Wy) : List (List Nat) :=
  ((textsW f h (xs.length - e.1) e.2.1).filter fun u => decide ((e.2.2.2 : Int) + gapN (setF f u) (xs.drop e.1) ≤ far)).map (e.2.2.1 ++ ·)
def wayS (f : Font) (h : House) (xs : List Nat) (far : Int) (e : Wy) (d : Nat × Nat) : Option Wy := wayN (marksT f.2 xs e.1) (paperS f h xs) e.2.2.1 e.2.2.2 far d
def waysS (f : Font) (h : House) (xs : List Nat) (far : Int) (e : Wy) : List Wy := (h.1.getD e.2.1 []).filterMap (wayS f h xs far e)
theorem wayS_no {f : Font} (hf : okFont f) {h : House} {xs : List Nat} {far : Int} {e : Wy} {d : Nat × Nat} (c : colsOf f.2 d.1 = none) : wayS f h xs far e d = none :=
  wayN_no (by rw [lookG_marks hf.nodup, c]; rfl)
theorem wayS_wide {f : Font} (hf : okFont f) {h : House} {xs : List Nat} {far : Int} {e : Wy} {d : Nat × Nat} {cs : List Nat} (c : colsOf f.2 d.1 = some cs) (q : ¬ e.1 + cs.length ≤ xs.length) : wayS f h xs far e d = none :=
  wayN_no (by rw [lookG_marks hf.nodup, c, Option.bind_some, if_neg q])
theorem wayS_at {f : Font} (hf : okFont f) {h : House} {xs : List Nat} {far : Int} {e : Wy} {d : Nat × Nat} {cs : List Nat} (c : colsOf f.2 d.1 = some cs) (q : e.1 + cs.length ≤ xs.length) :
    wayS f h xs far e d = match (rowS f h (xs.drop (e.1 + cs.length))).getD d.2 none with
      | none => none
      | some p => if (e.2.2.2 : Int) + gapN cs (xs.drop e.1) + p.1 ≤ far then some (e.1 + cs.length, d.2, e.2.2.1 ++ [d.1], e.2.2.2 + gapN cs (xs.drop e.1)) else none := by
  have hl : lookG (marksT f.2 xs e.1) d.1 = some (gapN cs (xs.drop e.1), e.1 + cs.length) := by rw [lookG_marks hf.nodup, c, Option.bind_some, if_pos q]
  have hp := paperS_at f h xs (e.1 + cs.length) q
  unfold wayS
  cases r : (rowS f h (xs.drop (e.1 + cs.length))).getD d.2 none with
  | none => rw [wayN_none hl (by rw [hp, r])]
  | some p => rw [wayN_some hl (by rw [hp, r])]
theorem filter_map_cons {f : Font} {cs xs : List Nat} {x : Nat} {s : Nat} (c : colsOf f.2 s = some cs) (q : x + cs.length ≤ xs.length) (g : Nat) (far : Int) (L : List (List Nat)) :
    (L.map (s :: ·)).filter (fun u => decide ((g : Int) + gapN (setF f u) (xs.drop x) ≤ far)) = (L.filter fun u => decide (((g + gapN cs (xs.drop x) : Nat) : Int) + gapN (setF f u) (xs.drop (x + cs.length)) ≤ far)).map (s :: ·) := by
  rw [List.filter_map]
  congr 1
  apply List.filter_congr
  intro u _
  simp only [Function.comp]
  rw [setF_cons, colsF_of c, gapN_split _ _ _ (by rw [List.length_drop]; omega), List.drop_drop]
  congr 1
  apply propext
  constructor <;> intro h <;> omega
theorem way_texts {f : Font} (hf : okFont f) {h : House} (ok : okHouse h) {xs : List Nat} {far : Int} {e : Wy} (hx : e.1 ≤ xs.length) {d : Nat × Nat} (hd : d.2 < h.1.length) :
    ((wayT f h (xs.length - e.1) d).filter fun u => decide ((e.2.2.2 : Int) + gapN (setF f u) (xs.drop e.1) ≤ far)).map (e.2.2.1 ++ ·) = ((wayS f h xs far e d).toList).flatMap (wyT f h xs far) := by
  cases c : colsOf f.2 d.1 with
  | none => rw [wayS_no hf c, wayT_no h _ c]; rfl
  | some cs =>
    rw [wayT_at h _ c]
    by_cases q : cs.length ≤ xs.length - e.1
    · have q2 : e.1 + cs.length ≤ xs.length := by omega
      rw [if_pos q, filter_map_cons c q2, wayS_at hf c q2]
      have b := best_row hf ok _ (xs.drop (e.1 + cs.length)) rfl d.2 hd
      unfold gapsW at b
      rw [List.length_drop] at b
      have el : xs.length - e.1 - cs.length = xs.length - (e.1 + cs.length) := by omega
      rw [el]
      cases r : (rowS f h (xs.drop (e.1 + cs.length))).getD d.2 none with
      | none =>
        rw [r] at b
        have b : (textsW f h (xs.length - (e.1 + cs.length)) d.2).map (fun t => gapN (setF f t) (xs.drop (e.1 + cs.length))) = [] := b
        rw [List.map_eq_nil_iff.mp b]; rfl
      | some p =>
        rw [r] at b
        simp only
        by_cases z : (e.2.2.2 : Int) + gapN cs (xs.drop e.1) + p.1 ≤ far
        · rw [if_pos z]
          simp [wyT, List.map_map, Function.comp_def]
        · rw [if_neg z, List.filter_eq_nil_iff.mpr]
          · rfl
          · intro u mu
            have := b.2.1 _ (List.mem_map.mpr ⟨u, mu, rfl⟩)
            simp only [decide_eq_true_eq]
            omega
    · rw [if_neg q, wayS_wide hf c (by omega)]; rfl
theorem ways_texts {f : Font} (hf : okFont f) {h : House} (ok : okHouse h) {xs : List Nat} {far : Int} {e : Wy} (hx : e.1 < xs.length) : wyT f h xs far e = (waysS f h xs far e).flatMap (wyT f h xs far) := by
  unfold waysS
  rw [flatMap_filterMap]
  have key : ∀ ds : List (Nat × Nat), (∀ d ∈ ds, d.2 < h.1.length) → ((ds.flatMap (wayT f h (xs.length - e.1))).filter fun u => decide ((e.2.2.2 : Int) + gapN (setF f u) (xs.drop e.1) ≤ far)).map (e.2.2.1 ++ ·) = ds.flatMap fun d => ((wayS f h xs far e d).toList).flatMap (wyT f h xs far) := by
    intro ds
    induction ds with
    | nil => intro _; rfl
    | cons d ds ih =>
      intro hd
      rw [List.flatMap_cons, List.filter_append, List.map_append, way_texts hf ok (by omega) (hd d (List.mem_cons_self ..)), ih fun x m => hd x (List.mem_cons_of_mem _ m), List.flatMap_cons]
  have := key (h.1.getD e.2.1 []) fun d m => room_to ok m
  rw [← this]
  unfold wyT
  rw [textsW_pos hf h (by omega)]
theorem wyT_end (f : Font) (h : House) {xs : List Nat} {far : Int} {e : Wy} (hx : e.1 = xs.length) (hr : e.2.1 ∈ h.2) (hg : (e.2.2.2 : Int) ≤ far) : wyT f h xs far e = [e.2.2.1] := by
  unfold wyT
  rw [hx, Nat.sub_self, textsW_zero, if_pos hr]
  simp [setF_nil, gapN_nil, hg]
def kidN (f : Font) (h : House) (w : Nat) (d : Nat × Nat) : Nat := match colsOf f.2 d.1 with
  | none => 0
  | some cs => if q : 1 ≤ cs.length ∧ cs.length ≤ w then nodeW f h (w - cs.length) d.2 else 0
theorem nodeW_eq (f : Font) (h : House) (w r : Nat) : nodeW f h w r = 1 + ((h.1.getD r []).map (kidN f h w)).sum := by
  rw [nodeW]; rfl
def nodeY (f : Font) (h : House) (n : Nat) (e : Wy) : Nat := nodeW f h (n - e.1) e.2.1
theorem wayS_node {f : Font} (hf : okFont f) (h : House) (xs : List Nat) (far : Int) (e : Wy) (d : Nat × Nat) : ((wayS f h xs far e d).toList.map (nodeY f h xs.length)).sum ≤ kidN f h (xs.length - e.1) d := by
  unfold kidN
  cases c : colsOf f.2 d.1 with
  | none => rw [wayS_no hf c]; simp
  | some cs =>
    have b := hf.cp _ (colsOf_mem c)
    simp only at b
    by_cases q : e.1 + cs.length ≤ xs.length
    · rw [wayS_at hf c q]
      simp only
      rw [dif_pos ⟨b, by omega⟩]
      cases (rowS f h (xs.drop (e.1 + cs.length))).getD d.2 none with
      | none => simp
      | some p =>
        simp only
        split
        · simp only [Option.toList_some, List.map_cons, List.map_nil, List.sum_cons, List.sum_nil, nodeY]
          rw [Nat.sub_sub]; omega
        · simp
    · rw [wayS_wide hf c q]; simp
theorem ways_node {f : Font} (hf : okFont f) (h : House) (xs : List Nat) (far : Int) (e : Wy) : ((waysS f h xs far e).map (nodeY f h xs.length)).sum < nodeY f h xs.length e := by
  have := sum_kids (wayS f h xs far e) (nodeY f h xs.length) _ (h.1.getD e.2.1 []) (wayS_node hf h xs far e)
  unfold waysS nodeY at *
  rw [nodeW_eq]
  omega
structure okWy (f : Font) (h : House) (xs : List Nat) (far : Int) (e : Wy) : Prop where
  x : e.1 ≤ xs.length
  room : e.2.1 < h.1.length
  len : e.2.2.1.length ≤ e.1
  best : ∃ p, (rowS f h (xs.drop e.1)).getD e.2.1 none = some p ∧ (e.2.2.2 : Int) + p.1 ≤ far
theorem wayS_ok {f : Font} (hf : okFont f) {h : House} (ok : okHouse h) {xs : List Nat} {far : Int} {e e2 : Wy} (o : okWy f h xs far e) {d : Nat × Nat} (md : d ∈ h.1.getD e.2.1 []) (k : wayS f h xs far e d = some e2) : okWy f h xs far e2 ∧ e.1 + 1 ≤ e2.1 := by
  cases c : colsOf f.2 d.1 with
  | none => rw [wayS_no hf c] at k; cases k
  | some cs =>
    have b := hf.cp _ (colsOf_mem c)
    simp only at b
    by_cases q : e.1 + cs.length ≤ xs.length
    · rw [wayS_at hf c q] at k
      cases r : (rowS f h (xs.drop (e.1 + cs.length))).getD d.2 none with
      | none => rw [r] at k; cases k
      | some p =>
        rw [r] at k
        simp only at k
        split at k
        · rename_i z
          cases k
          have := o.len
          exact ⟨⟨q, room_to ok md, by simp only [List.length_append, List.length_cons, List.length_nil]; omega, p, r, by simp only; omega⟩, by simp only; omega⟩
        · cases k
    · rw [wayS_wide hf c q] at k; cases k
theorem ways_ok {f : Font} (hf : okFont f) {h : House} (ok : okHouse h) {xs : List Nat} {far : Int} {e : Wy} (o : okWy f h xs far e) : ∀ x ∈ waysS f h xs far e, okWy f h xs far x ∧ e.1 + 1 ≤ x.1 := fun x m => by
  unfold waysS at m
  obtain ⟨d, md, k⟩ := List.mem_filterMap.mp m
  exact wayS_ok hf ok o md k
theorem okWy.end {f : Font} {h : House} {xs : List Nat} {far : Int} {e : Wy} (o : okWy f h xs far e) (hx : e.1 = xs.length) : wyT f h xs far e = [e.2.2.1] := by
  obtain ⟨p, r, g⟩ := o.best
  rw [hx, List.drop_length, rowS_nil, last_at o.room] at r
  by_cases q : e.2.1 ∈ h.2
  · rw [if_pos q] at r
    cases r
    exact wyT_end f h hx q (by simpa using g)
  · rw [if_neg q] at r; cases r
/-- where the entries of a pile stand -/
def lowP (p : List Wy) : Prop := ∀ (i : Nat) (e : Wy), p[i]? = some e → i < 94 * (e.1 + 1)
theorem lowP_len {f : Font} {h : House} {xs : List Nat} {far : Int} {p : List Wy} (l : lowP p) (o : ∀ e ∈ p, okWy f h xs far e) : p.length ≤ 94 * (xs.length + 1) := by
  rcases List.eq_nil_or_concat p with rfl | ⟨r, e, rfl⟩
  · simp
  rw [List.concat_eq_append] at *
  have a := l r.length e (by simp)
  have b := (o e (by simp)).x
  rw [List.length_append, List.length_cons, List.length_nil]
  have : 94 * (e.1 + 1) ≤ 94 * (xs.length + 1) := Nat.mul_le_mul_left _ (by omega)
  omega
theorem lowP_put {r es : List Wy} {e : Wy} (l : lowP (r ++ [e])) (hn : es.length ≤ 94) (he : ∀ x ∈ es, e.1 + 1 ≤ x.1) : lowP (r ++ es) := fun i x hx => by
  by_cases q : i < r.length
  · exact l i x (by rw [List.getElem?_append_left q] at hx ⊢; exact hx)
  · rw [List.getElem?_append_right (by omega)] at hx
    have a := l r.length e (by simp)
    have b := he x (List.mem_of_getElem? hx)
    have c := (List.getElem?_eq_some_iff.mp hx).1
    have : 94 * (e.1 + 2) ≤ 94 * (x.1 + 1) := Nat.mul_le_mul_left _ (by omega)
    omega
theorem lowP_pop {r : List Wy} {e : Wy} (l : lowP (r ++ [e])) : lowP r := fun i x hx => l i x (by
  have := (List.getElem?_eq_some_iff.mp hx).1
  rw [List.getElem?_append_left this]; exact hx)
/-- all near ones -/
def nearTs (f : Font) (h : House) (xs : List Nat) (far : Int) : List (List Nat) := (textsW f h xs.length 0).filter fun u => decide ((gapN (setF f u) xs : Int) ≤ far)
theorem nearTs_start (f : Font) (h : House) (xs : List Nat) (far : Int) : wyT f h xs far (0, 0, [], 0) = nearTs f h xs far := by
  unfold wyT nearTs
  simp
theorem nearTs_none {f : Font} (hf : okFont f) {h : House} (ok : okHouse h) {xs : List Nat} {far : Int} (e : ∀ p, (rowS f h xs).getD 0 none = some p → ¬ (p.1 : Int) ≤ far) : nearTs f h xs far = [] := by
  have b := best_row hf ok _ xs rfl 0 ok.pos
  unfold nearTs
  cases r : (rowS f h xs).getD 0 none with
  | none =>
    rw [r] at b
    have b : gapsW f h xs 0 = [] := b
    unfold gapsW at b
    rw [List.map_eq_nil_iff.mp b]; rfl
  | some p =>
    rw [r] at b
    apply List.filter_eq_nil_iff.mpr
    intro u mu
    have := b.2.1 _ (List.mem_map.mpr ⟨u, mu, rfl⟩)
    have := e p r
    simp only [decide_eq_true_eq]
    omega
theorem lowP_nil : lowP [] := fun i e h => by simp at h
theorem ways_len {f : Font} {h : House} (ok : okHouse h) {xs : List Nat} {far : Int} {e : Wy} (hr : e.2.1 < h.1.length) : (waysS f h xs far e).length ≤ 94 := by
  unfold waysS
  have := List.length_filterMap_le (wayS f h xs far e) (h.1.getD e.2.1 [])
  rw [room_get hr] at *
  have := ok.few (List.getElem_mem hr)
  omega
theorem ways_rev (f : Font) (h : House) (xs : List Nat) (far : Int) (e : Wy) : (h.1.getD e.2.1 []).reverse.filterMap (wayN (marksT f.2 xs e.1) (paperS f h xs) e.2.2.1 e.2.2.2 far) = (waysS f h xs far e).reverse := by
  unfold waysS
  rw [List.filterMap_reverse]; rfl
theorem nodeY_pos (f : Font) (h : House) (n : Nat) (e : Wy) : 0 < nodeY f h n e := by
  unfold nodeY
  rw [nodeW_eq]; omega
theorem range_getD {α : Type} (ts : List α) (d : α) : (List.range ts.length).map (fun k => ts.getD k d) = ts := by
  refine List.ext_getElem (by simp) fun i h1 h2 => ?_
  rw [List.getElem_map, List.getElem_range, List.getD_eq_getElem?_getD, List.getElem?_eq_getElem h2]; rfl
theorem range_filter {α : Type} (ts : List α) (d : α) (q : α → Bool) : ((List.range ts.length).filter fun k => q (ts.getD k d)).map (fun k => ts.getD k d) = ts.filter q := by
  have e : ts.filter q = ((List.range ts.length).map (fun k => ts.getD k d)).filter q := by rw [range_getD]
  rw [e, List.filter_map]; rfl
def gapsT (f : Font) (xs : List Nat) (ts : List (List Nat)) : List Nat := ts.map fun t => gapN (setF f t) xs
theorem zip_self {α : Type} : ∀ l : List α, l.zip l = l.map fun x => (x, x)
  | [] => rfl
  | x :: l => by rw [List.zip_cons_cons, zip_self l]; rfl
theorem gapsT_at {f : Font} {xs : List Nat} {ts : List (List Nat)} {k : Nat} (h : k < (gapsT f xs ts).length) (h2 : k < ts.length) : (gapsT f xs ts)[k] = gapN (setF f ts[k]) xs := by
  unfold gapsT
  exact List.getElem_map ..
end DL

set_option Elab.async false
set_option linter.all false
set_option maxRecDepth 100000
set_option maxHeartbeats 1000000
/-! MU: how many of each gap. -/
namespace DL
open PySem L2 PyProof.Rows
def topN (L : List Nat) : Nat := L.foldr (fun g m => max (g + 1) m) 0
theorem topN_cons (g : Nat) (L : List Nat) : topN (g :: L) = max (g + 1) (topN L) := rfl
theorem topN_lt : ∀ {L : List Nat} {g : Nat}, g ∈ L → g < topN L
  | a :: L, g, m => by
    rw [topN_cons]
    rcases List.mem_cons.mp m with rfl | m
    · omega
    · have := topN_lt m; omega
theorem topN_le : ∀ {L : List Nat} {n : Nat}, (∀ g ∈ L, g < n) → topN L ≤ n
  | [], _, _ => Nat.zero_le _
  | a :: L, n, h => by
    rw [topN_cons]
    have := h a (List.mem_cons_self ..)
    have := topN_le fun g m => h g (List.mem_cons_of_mem _ m)
    omega
theorem topN_mem : ∀ {L : List Nat}, L ≠ [] → topN L - 1 ∈ L ∧ 0 < topN L
  | [], h => absurd rfl h
  | a :: L, _ => by
    rw [topN_cons]
    by_cases q : topN L ≤ a + 1
    · rw [Nat.max_eq_left q]
      exact ⟨by simp, by omega⟩
    · have hne : L ≠ [] := fun e => by subst e; simp [topN] at q
      have := topN_mem hne
      rw [Nat.max_eq_right (by omega)]
      exact ⟨List.mem_cons_of_mem _ this.1, this.2⟩
theorem topN_app (A B : List Nat) : topN (A ++ B) = max (topN A) (topN B) := by
  apply Nat.le_antisymm
  · refine topN_le fun g m => ?_
    rcases List.mem_append.mp m with m | m
    · have := topN_lt m; omega
    · have := topN_lt m; omega
  · refine Nat.max_le.mpr ⟨topN_le fun g m => topN_lt (List.mem_append_left _ m), topN_le fun g m => topN_lt (List.mem_append_right _ m)⟩
theorem topN_shift {B : List Nat} (h : B ≠ []) (s : Nat) : topN (B.map (s + ·)) = s + topN B := by
  obtain ⟨m, p⟩ := topN_mem h
  apply Nat.le_antisymm
  · refine topN_le fun g mg => ?_
    obtain ⟨b, mb, rfl⟩ := List.mem_map.mp mg
    have := topN_lt mb; omega
  · have := topN_lt (List.mem_map.mpr ⟨_, m, rfl⟩ : s + (topN B - 1) ∈ B.map (s + ·))
    omega
def histN (L : List Nat) : List Nat := (List.range (topN L)).map fun k => L.count k
theorem histN_len (L : List Nat) : (histN L).length = topN L := by simp [histN]
theorem histN_nil : histN [] = [] := rfl
theorem histN_at (L : List Nat) (k : Nat) : (histN L).getD k 0 = L.count k := by
  unfold histN
  by_cases h : k < topN L
  · rw [List.getD_eq_getElem?_getD, List.getElem?_map, List.getElem?_range h]; rfl
  · rw [List.getD_eq_getElem?_getD, List.getElem?_eq_none (by simp; omega)]
    exact (List.count_eq_zero.mpr fun m => h (topN_lt m)).symm
theorem histN_eq {L : List Nat} {ns : List Nat} (hl : ns.length = topN L) (h : ∀ k, k < topN L → ns.getD k 0 = L.count k) : ns = histN L := by
  refine List.ext_getElem (by rw [hl, histN_len]) fun i h1 h2 => ?_
  have a := h i (by omega)
  have b := histN_at L i
  rw [List.getD_eq_getElem?_getD, List.getElem?_eq_getElem h1] at a
  rw [List.getD_eq_getElem?_getD, List.getElem?_eq_getElem h2] at b
  exact a.trans b.symm
theorem count_shift (B : List Nat) (s k : Nat) : (B.map (s + ·)).count k = if s ≤ k then B.count (k - s) else 0 := by
  induction B with
  | nil => simp
  | cons b B ih =>
    rw [List.map_cons, List.count_cons, ih, List.count_cons]
    by_cases q : s ≤ k
    · rw [if_pos q, if_pos q]
      have e1 : (s + b == k) = (b == k - s) := by rw [Bool.eq_iff_iff]; simp; omega
      rw [e1]
    · rw [if_neg q, if_neg q]
      have : ¬ s + b = k := by omega
      simp [this]
/-- counts laid over others -/
def layN (a b : List Nat) (s : Nat) : List Nat := if b = [] then a else (List.range (max a.length (s + b.length))).map fun k => a.getD k 0 + if s ≤ k then b.getD (k - s) 0 else 0
theorem histN_ne {L : List Nat} (h : L ≠ []) : histN L ≠ [] := fun e => by
  have := congrArg List.length e
  rw [histN_len] at this
  have := (topN_mem h).2
  simp at *
  omega
theorem lay_hist (A B : List Nat) (s : Nat) : layN (histN A) (histN B) s = histN (A ++ B.map (s + ·)) := by
  unfold layN
  by_cases hb : B = []
  · subst hb
    rw [if_pos histN_nil]; simp
  · rw [if_neg (histN_ne hb), histN_len, histN_len]
    refine histN_eq ?_ fun k hk => ?_
    · rw [List.length_map, List.length_range, topN_app, topN_shift hb]
    · rw [topN_app, topN_shift hb] at hk
      rw [List.getD_eq_getElem?_getD, List.getElem?_map, List.getElem?_range hk, Option.map_some, Option.getD_some, histN_at, List.count_append, count_shift]
      split
      · rw [histN_at]
      · rfl
def sumTo (L : List Nat) (n : Nat) : Nat := ((List.range n).map fun k => L.count k).sum
theorem sumTo_eq (L : List Nat) : ∀ n : Nat, sumTo L n = (L.filter fun g => decide (g < n)).length
  | 0 => by
    rw [List.filter_eq_nil_iff.mpr (by simp)]; rfl
  | n + 1 => by
    have ih := sumTo_eq L n
    unfold sumTo at *
    rw [List.range_succ, List.map_append, List.sum_append, ih]
    simp only [List.map_cons, List.map_nil, List.sum_cons, List.sum_nil, Nat.add_zero]
    clear ih
    induction L with
    | nil => simp
    | cons g L ih2 =>
      rw [List.filter_cons, List.filter_cons, List.count_cons]
      by_cases q : g < n
      · have q2 : g < n + 1 := by omega
        have q3 : ¬ g = n := by omega
        simp only [q, q2, q3, decide_true, if_true, List.length_cons, beq_iff_eq, if_false]
        omega
      · by_cases q3 : g = n
        · subst q3
          rw [if_neg (by simp), if_pos (by simp), if_pos (by simp), List.length_cons]
          omega
        · have q2 : ¬ g < n + 1 := by omega
          simp only [q, q2, q3, decide_false, beq_iff_eq, Bool.false_eq_true, if_false]
          omega
theorem histN_sum (L : List Nat) : (histN L).sum = L.length := by
  have := sumTo_eq L (topN L)
  unfold sumTo at this
  unfold histN
  rw [this, List.filter_eq_self.mpr]
  intro g m
  simpa using topN_lt m
theorem histN_take (L : List Nat) (n : Nat) (h : n ≤ topN L) : ((histN L).take n).sum = (L.filter fun g => decide (g < n)).length := by
  rw [← sumTo_eq]
  unfold histN sumTo
  rw [← List.map_take, List.take_range, Nat.min_eq_left h]
def layK (a b : List Nat) (s k : Nat) : List Nat := (List.range (max a.length (s + b.length))).map fun i => a.getD i 0 + if s ≤ i ∧ i - s < k then b.getD (i - s) 0 else 0
theorem layK_zero (a b : List Nat) (s : Nat) : a ++ List.replicate (b.length + s - a.length) 0 = layK a b s 0 := by
  unfold layK
  refine List.ext_getElem (by simp; omega) fun i h1 h2 => ?_
  simp only [List.length_map, List.length_range] at h2
  rw [List.getElem_map, List.getElem_range, if_neg (by omega), Nat.add_zero, List.getD_eq_getElem?_getD]
  by_cases q : i < a.length
  · rw [List.getElem_append_left q, List.getElem?_eq_getElem q]; rfl
  · rw [List.getElem_append_right (by omega), List.getElem_replicate, List.getElem?_eq_none (by omega)]; rfl
theorem layK_len (a b : List Nat) (s k : Nat) : (layK a b s k).length = max a.length (s + b.length) := by simp [layK]
theorem layK_succ {a b : List Nat} {s k : Nat} (hk : k < b.length) (h : s + k < (layK a b s k).length) : (layK a b s k).set (s + k) ((layK a b s k)[s + k] + b[k]) = layK a b s (k + 1) := by
  have e : (layK a b s k)[s + k] = a.getD (s + k) 0 := by
    unfold layK
    simp
  rw [e]
  unfold layK
  refine map_set_range (fun i hi hne => ?_) fun hj => ?_
  · congr 1
    by_cases q : s ≤ i ∧ i - s < k
    · rw [if_pos q, if_pos (by omega)]
    · rw [if_neg q, if_neg (by omega)]
  · rw [if_pos (by omega), show s + k - s = k from by omega, List.getD_eq_getElem?_getD (l := b), List.getElem?_eq_getElem hk]; rfl
theorem layK_all {a b : List Nat} (hb : b ≠ []) (s : Nat) : layK a b s b.length = layN a b s := by
  unfold layN layK
  rw [if_neg hb]
  apply List.map_congr_left
  intro i _
  congr 1
  by_cases q : s ≤ i
  · rw [if_pos q]
    by_cases q2 : i - s < b.length
    · rw [if_pos ⟨q, q2⟩]
    · rw [if_neg (by omega), List.getD_eq_getElem?_getD, List.getElem?_eq_none (by omega)]; rfl
  · rw [if_neg (by omega), if_neg q]
/-! ### the spreads of all rooms -/
def spR (f : Font) (h : House) (xs : List Nat) : List D := (List.range h.1.length).map fun r => .list (nL (histN (gapsW f h xs r)))
theorem spR_len (f : Font) (h : House) (xs : List Nat) : (spR f h xs).length = h.1.length := by simp [spR]
theorem spR_nil (f : Font) (h : House) : spR f h [] = (List.range h.1.length).map fun r => .list (if r ∈ h.2 then [.int 1] else []) := by
  unfold spR
  apply List.map_congr_left
  intro r _
  have e : gapsW f h [] r = if r ∈ h.2 then [0] else [] := by
    unfold gapsW
    rw [List.length_nil, textsW_zero]
    split <;> rfl
  rw [e]
  split <;> rfl
def spH (f : Font) (h : House) (xs : List Nat) (x : Nat) : List (List D) := (List.range (xs.length + 1)).map fun y => if y < x then [] else spR f h (xs.drop y)
theorem spH_len (f : Font) (h : House) (xs : List Nat) (x : Nat) : (spH f h xs x).length = xs.length + 1 := by simp [spH]
theorem spH_start (f : Font) (h : House) (xs : List Nat) : ((List.range (xs.length + 1)).map fun _ => O.lst []).set xs.length (.lst (spR f h [])) = (spH f h xs xs.length).map O.lst := by
  unfold spH
  rw [List.map_map]
  refine map_set_range (fun y hy hne => ?_) fun _ => ?_
  · simp only [Function.comp]
    rw [if_pos (by omega)]
  · simp only [Function.comp]
    rw [if_neg (by omega), List.drop_length]
theorem spH_at {f : Font} {h : House} {xs : List Nat} {x y : Nat} (hy : y ≤ xs.length) : (spH f h xs x)[y]? = some (if y < x then [] else spR f h (xs.drop y)) := by
  unfold spH
  rw [List.getElem?_map, List.getElem?_range (by omega)]; rfl
theorem spH_put {f : Font} {h : House} {xs : List Nat} {x : Nat} (hx : x < xs.length) : (spH f h xs (x + 1)).set x (spR f h (xs.drop x)) = spH f h xs x := by
  unfold spH
  refine map_set_range (fun y hy hne => ?_) fun _ => ?_
  · by_cases q : y < x
    · rw [if_pos q, if_pos (by omega)]
    · rw [if_neg q, if_neg (by omega)]
  · rw [if_neg (by omega)]
def gapsK (f : Font) (h : House) (xs : List Nat) (ds : List (Nat × Nat)) : List Nat := ds.flatMap (gapsD f h xs)
theorem gapsK_snoc (f : Font) (h : House) (xs : List Nat) {ds : List (Nat × Nat)} {j : Nat} {d : Nat × Nat} (hd : ds[j]? = some d) : gapsK f h xs (ds.take (j + 1)) = gapsK f h xs (ds.take j) ++ gapsD f h xs d := by
  unfold gapsK
  rw [take_succ hd, List.flatMap_append]
  simp
theorem gapsD_no {f : Font} {h : House} {xs : List Nat} {d : Nat × Nat} (c : colsOf f.2 d.1 = none) : gapsD f h xs d = [] := by
  unfold gapsD
  rw [wayT_no h _ c]; rfl
theorem gapsD_wide {f : Font} {h : House} {xs : List Nat} {d : Nat × Nat} {cs : List Nat} (c : colsOf f.2 d.1 = some cs) (q : ¬ cs.length ≤ xs.length) : gapsD f h xs d = [] := by
  unfold gapsD
  rw [wayT_at h _ c, if_neg q]; rfl
theorem spR_snoc {f : Font} (hf : okFont f) {h : House} {xs : List Nat} (hx : 0 < xs.length) {k : Nat} {ds : List (Nat × Nat)} (hd : h.1[k]? = some ds) : (spR f h xs).take k ++ [.list (nL (histN (gapsK f h xs ds)))] = (spR f h xs).take (k + 1) := by
  have hk := (List.getElem?_eq_some_iff.mp hd).1
  have e : (spR f h xs)[k]? = some (.list (nL (histN (gapsK f h xs ds)))) := by
    unfold spR
    rw [List.getElem?_map, List.getElem?_range hk, Option.map_some, gapsW_pos hf h hx]
    rw [List.getD_eq_getElem?_getD, hd]; rfl
  rw [take_succ e]
theorem gaps_small {f : Font} (hf : okFont f) {h : House} {xs : List Nat} (hx : ∀ x ∈ xs, x < 2 ^ 60) {r : Nat} : topN (gapsW f h xs r) ≤ 60 * (8 * xs.length + 8) + 1 := by
  refine topN_le fun g m => ?_
  unfold gapsW at m
  obtain ⟨t, mt, rfl⟩ := List.mem_map.mp m
  have : gapN xs (setF f t) ≤ 60 * xs.length := gapN_le hx fun y my => lt_pow (setF_lt hf y my) hf.h60
  rw [gapN_comm]
  omega
theorem gap_small {f : Font} (hf : okFont f) {xs : List Nat} (hx : ∀ x ∈ xs, x < 2 ^ 60) (t : List Nat) : gapN (setF f t) xs ≤ 60 * xs.length := by
  rw [gapN_comm]
  exact gapN_le hx fun y my => lt_pow (setF_lt hf y my) hf.h60
theorem gapsK_small {f : Font} (hf : okFont f) {h : House} {xs : List Nat} (hx : ∀ x ∈ xs, x < 2 ^ 60) (ds : List (Nat × Nat)) : topN (gapsK f h xs ds) ≤ 60 * xs.length + 1 := by
  refine topN_le fun g m => ?_
  unfold gapsK at m
  obtain ⟨d, _, m⟩ := List.mem_flatMap.mp m
  unfold gapsD at m
  obtain ⟨t, _, rfl⟩ := List.mem_map.mp m
  have := gap_small hf hx t
  omega
theorem gapsW_small {f : Font} (hf : okFont f) {h : House} {xs : List Nat} (hx : ∀ x ∈ xs, x < 2 ^ 60) (r : Nat) : topN (gapsW f h xs r) ≤ 60 * xs.length + 1 := by
  refine topN_le fun g m => ?_
  unfold gapsW at m
  obtain ⟨t, _, rfl⟩ := List.mem_map.mp m
  have := gap_small hf hx t
  omega
theorem col_small {f : Font} (hf : okFont f) {xs : List Nat} (hx : ∀ x ∈ xs, x < 2 ^ 60) {s : Nat} {cs : List Nat} (c : colsOf f.2 s = some cs) : gapN cs xs ≤ 60 * xs.length := by
  rw [gapN_comm]
  exact gapN_le hx fun y my => lt_pow (hf.lt _ (colsOf_mem c) y my) hf.h60
theorem spH_row {f : Font} {h : House} {xs : List Nat} {x y : Nat} (hy : y ≤ xs.length) (hx : x < y) (l : List D) : atI (((spH f h xs (x + 1)).set x l).map O.lst) (y : Int) = some (.lst (spR f h (xs.drop y))) := by
  rw [atI_nat, List.getElem?_map, List.getElem?_set_ne (by omega), spH_at hy, if_neg (by omega)]; rfl
theorem spR_at {f : Font} {h : House} {xs : List Nat} {r : Nat} (hr : r < h.1.length) : atI (spR f h xs) (r : Int) = some (.list (nL (histN (gapsW f h xs r)))) := by
  rw [atI_nat]
  unfold spR
  rw [List.getElem?_map, List.getElem?_range hr]; rfl
theorem histN_last {L : List Nat} (h : L ≠ []) : ∃ c, 0 < c ∧ atI (nL (histN L)) (-1) = some (.int (c : Nat)) := by
  have hne := histN_ne h
  obtain ⟨m, p⟩ := topN_mem h
  refine ⟨(histN L).getLast hne, ?_, atI_map_last _ hne⟩
  rw [List.getLast_eq_getElem]
  have e := histN_at L (topN L - 1)
  have hl := histN_len L
  rw [List.getD_eq_getElem?_getD, List.getElem?_eq_getElem (by omega), Option.getD_some] at e
  have e2 : (histN L)[(histN L).length - 1]'(by omega) = (histN L)[topN L - 1]'(by omega) := by congr 1; omega
  rw [e2, e]
  exact List.count_pos_iff.mpr m
theorem spH_begin {f : Font} {h : House} {xs : List Nat} {x : Nat} (hx : x < xs.length) : (spH f h xs (x + 1)).set x [] = spH f h xs (x + 1) := by
  unfold spH
  exact map_set_range (fun y _ _ => rfl) fun _ => by rw [if_pos (by omega)]
theorem spH_first (f : Font) {h : House} (ok : okHouse h) (xs : List Nat) {z : D → Prop} (q : z (.list (nL (histN (gapsW f h xs 0))))) : ∃ d, atI (List.map O.frz (List.map O.lst (spH f h xs 0))) 0 = some d ∧ ixD d (.int 0) fun d => z d := by
  have e : atI (List.map O.frz (List.map O.lst (spH f h xs 0))) ((0 : Nat) : Int) = some (.list (spR f h xs)) := by
    rw [atI_nat, List.map_map, List.getElem?_map, spH_at (Nat.zero_le _), if_neg (by omega), List.drop_zero]; rfl
  refine ⟨_, e, ?_⟩
  rw [ixD_l]
  exact ⟨_, spR_at (r := 0) ok.pos, q⟩
theorem sum_nats : ∀ l : List Nat, (l.map fun n : Nat => (n : Int)).sum = ((l.sum : Nat) : Int)
  | [] => rfl
  | x :: l => by rw [List.map_cons, List.sum_cons, sum_nats l, List.sum_cons]; omega
theorem near_count {f : Font} {h : House} {xs : List Nat} (n : Nat) : (nearTs f h xs ((n : Nat) : Int)).length = ((gapsW f h xs 0).filter fun g => decide (g < n + 1)).length := by
  unfold nearTs gapsW
  rw [List.filter_map, List.length_map]
  congr 1
  apply List.filter_congr
  intro t _
  simp only [Function.comp]
  apply decide_eq_decide.mpr
  omega
end DL

set_option Elab.async false
set_option linter.all false
set_option maxRecDepth 100000
set_option maxHeartbeats 1000000
/-! MV: how far an end is. -/
namespace DL
open PySem L2 PyProof.Rows
--simp oDs_frz
abbrev Far := List (Option Nat)
theorem oDs_frz (a : Far) : (a.map oD) = a.map oD := rfl
structure Dep (f : Font) (h : House) (a : Far) : Prop where
  len : a.length = h.1.length
  ends : ∀ r ∈ h.2, a.getD r none = some 0
  zero : ∀ r, a.getD r none = some 0 → r ∈ h.2
  pos : ∀ r k, a.getD r none = some (k + 1) → ∃ d ∈ h.1.getD r [], hasF f d.1 ∧ ∃ e, a.getD d.2 none = some e ∧ e ≤ k
  low : ∀ r k, a.getD r none = some k → k < a.countP Option.isSome
/-- nothing is left to be moved, at some doors -/
def Done (f : Font) (a : Far) (r : Nat) (ds : List (Nat × Nat)) : Prop := ∀ d ∈ ds, hasF f d.1 → ∀ e, a.getD d.2 none = some e → ∃ k, a.getD r none = some k ∧ k ≤ e + 1
def DoneR (f : Font) (h : House) (a : Far) (n : Nat) : Prop := ∀ r, r < n → Done f a r (h.1.getD r [])
def wOf : Option Nat → Nat
  | none => 1000
  | some k => k
def weight (a : Far) : Nat := (a.map wOf).sum
theorem sum_set {α : Type} (m : α → Nat) : ∀ {l : List α} {i : Nat} {x : α} (h : i < l.length), ((l.set i x).map m).sum + m l[i] = (l.map m).sum + m x
  | y :: l, 0, x, h => by simp; omega
  | y :: l, i + 1, x, h => by
    have := sum_set m (l := l) (i := i) (x := x) (by simpa using h)
    simp only [List.set_cons_succ, List.map_cons, List.sum_cons, List.getElem_cons_succ] at *
    omega
theorem count_set {α : Type} (p : α → Bool) : ∀ {l : List α} {i : Nat} {x : α} (h : i < l.length), (l.set i x).countP p + (if p l[i] then 1 else 0) = l.countP p + (if p x then 1 else 0)
  | y :: l, 0, x, h => by simp only [List.set_cons_zero, List.countP_cons, List.getElem_cons_zero]; omega
  | y :: l, i + 1, x, h => by
    have := count_set p (l := l) (i := i) (x := x) (by simpa using h)
    simp only [List.set_cons_succ, List.countP_cons, List.getElem_cons_succ] at *
    omega
theorem getD_set {α : Type} {l : List α} {i j : Nat} {x d : α} (h : i < l.length) : (l.set i x).getD j d = if j = i then x else l.getD j d := by
  rw [List.getD_eq_getElem?_getD, List.getD_eq_getElem?_getD, List.getElem?_set]
  by_cases e : i = j
  · subst e; simp [h]
  · rw [if_neg e, if_neg fun q => e q.symm]
theorem getD_at {α : Type} {l : List α} {i : Nat} {d : α} (h : i < l.length) : l.getD i d = l[i] := by rw [List.getD_eq_getElem?_getD, List.getElem?_eq_getElem h]; rfl
/-- a room is moved -/
theorem Dep.move {f : Font} {h : House} (ok : okHouse h) {a : Far} (D : Dep f h a) {r e : Nat} (hr : r < h.1.length) {d : Nat × Nat} (md : d ∈ h.1.getD r []) (hd : hasF f d.1) (he : a.getD d.2 none = some e)
    (hm : ∀ k, a.getD r none = some k → e + 1 < k) : Dep f h (a.set r (some (e + 1))) ∧ weight (a.set r (some (e + 1))) < weight a := by
  have hr2 : r < a.length := by rw [D.len]; exact hr
  have hrd : d.2 ≠ r := fun q => by
    rw [q] at he
    have := hm e he; omega
  have hg := getD_at (d := none) hr2
  have hlow := D.low _ _ he
  have hc := count_set Option.isSome (l := a) (i := r) (x := some (e + 1)) hr2
  have hw := sum_set wOf (l := a) (i := r) (x := some (e + 1)) hr2
  have hcl : a.countP Option.isSome ≤ a.length := List.countP_le_length
  simp only [Option.isSome_some, if_true] at hc
  have hnl : ∀ k, a.getD r none = some k → e + 1 < k := hm
  constructor
  · refine ⟨by rw [List.length_set]; exact D.len, fun s ms => ?_, fun s q => ?_, fun s k q => ?_, fun s k q => ?_⟩
    · rw [getD_set hr2]
      split
      · rename_i q
        subst q
        have := hm 0 (D.ends _ ms)
        omega
      · exact D.ends s ms
    · rw [getD_set hr2] at q
      split at q
      · cases q
      · exact D.zero s q
    · rw [getD_set hr2] at q
      split at q
      · rename_i z
        subst z
        have : e = k := by simpa using q
        subst this
        exact ⟨d, md, hd, e, by rw [getD_set hr2, if_neg hrd]; exact he, Nat.le_refl _⟩
      · obtain ⟨d2, m2, h2, e2, q2, l2⟩ := D.pos s k q
        by_cases z : d2.2 = r
        · rw [z] at q2
          have := hm e2 q2
          exact ⟨d2, m2, h2, e + 1, by rw [getD_set hr2, if_pos z], by omega⟩
        · exact ⟨d2, m2, h2, e2, by rw [getD_set hr2, if_neg z]; exact q2, l2⟩
    · have hge : a.countP Option.isSome ≤ (a.set r (some (e + 1))).countP Option.isSome := by
        split at hc <;> omega
      rw [getD_set hr2] at q
      split at q
      · have : e + 1 = k := by simpa using q
        subst this
        cases z : a.getD r none with
        | none =>
          rw [← hg, z] at hc
          simp at hc
          omega
        | some k0 =>
          have := hm k0 z
          have := D.low r k0 z
          omega
      · have := D.low s k q
        omega
  · unfold weight
    cases z : a.getD r none with
    | none =>
      rw [← hg, z] at hw
      have h40 := ok.len
      have := D.len
      simp only [wOf] at hw
      omega
    | some k0 =>
      have := hm k0 z
      rw [← hg, z] at hw
      simp only [wOf] at hw
      omega
theorem Dep.small {f : Font} {h : House} (ok : okHouse h) {a : Far} (D : Dep f h a) {r k : Nat} (q : a.getD r none = some k) : k < 40 := by
  have := D.low r k q
  have : a.countP Option.isSome ≤ a.length := List.countP_le_length
  have := D.len
  have := ok.len
  omega
theorem far_at {fr : Far} {i : Nat} (h : i < fr.length) : atI (fr.map oD) (i : Int) = some (oD (fr.getD i none)) := by
  rw [atI_map_lt oD h, getD_at h]
theorem cols_hasB (f : Font) (s : Nat) : (lookK (dG kO encC f.2) (Sum.inr (tS [s]))).isSome = decide (hasF f s) := by
  rw [lookC, Option.isSome_map]
  by_cases q : hasF f s
  · rw [colsF_has q, decide_eq_true q]; rfl
  · rw [decide_eq_false q]
    cases e : colsOf f.2 s with
    | none => rfl
    | some c => exact absurd (List.mem_map.mpr ⟨_, colsOf_mem e, rfl⟩) q
theorem getD_rep {α : Type} {n : Nat} (r : Nat) : (List.replicate n (none : Option α)).getD r none = none := by
  rw [List.getD_eq_getElem?_getD, List.getElem?_replicate]
  split <;> rfl
/-- where nothing is left to be moved, a way to an end has a farness -/
theorem DoneR.way {f : Font} {h : House} (ok : okHouse h) {a : Far} (N : DoneR f h a h.1.length) (D : Dep f h a) : ∀ {t : List Nat} {r e : Nat}, r < h.1.length → goFrom h r t = some e → e ∈ h.2 → inF f t → (a.getD r none).isSome = true
  | [], r, e, hr, x1, x2, x3 => by
    have : r = e := by simpa [goFrom] using x1
    subst this
    rw [D.ends r x2]; rfl
  | s :: t, r, e, hr, x1, x2, x3 => by
    rw [goFrom] at x1
    obtain ⟨q, q1, q2⟩ := Option.bind_eq_some_iff.mp x1
    obtain ⟨hr2, m⟩ := doorH_mem q1
    have := DoneR.way ok N D (doorH_lt ok q1) q2 x2 fun s m => x3 s (List.mem_cons_of_mem _ m)
    obtain ⟨v, hv⟩ := Option.isSome_iff_exists.mp this
    obtain ⟨k, hk, _⟩ := N r hr (s, q) (by rw [getD_at hr]; exact m) (x3 s List.mem_cons_self) v hv
    rw [hk]; rfl
theorem noLs_nL (ns : List Nat) : noLs (nL ns) = true := noLs_of fun d m => by
  obtain ⟨n, _, rfl⟩ := List.mem_map.mp m
  rfl
end DL

set_option Elab.async false
set_option linter.all false
set_option maxRecDepth 100000
set_option maxHeartbeats 1000000
/-! MW: free texts. -/
namespace DL
open PySem L2 PyProof.Rows
--simp sortedF_s
def freeR (ss : List Nat) : House := ([ss.map fun s => (s, 0)], [0])
theorem freeR_good {ss : List Nat} (hs : ∀ s ∈ ss, okSg s) (nd : ss.Nodup) : goodHs ((freeR ss).1.map (·.map drR)) (nL (freeR ss).2) (freeR ss) :=
  goodHs_of (n := 1) rfl (by omega) (by omega) (fun ds m => by
    have m : ds = ss.map fun s => (s, 0) := by simpa [freeR] using m
    subst m
    refine ⟨fun d md => ?_, ?_⟩
    · obtain ⟨s, ms, rfl⟩ := List.mem_map.mp md
      exact ⟨hs s ms, by simp⟩
    · rw [List.map_map]
      have : ((fun d : Nat × Nat => d.1) ∘ fun s => (s, 0)) = id := rfl
      rw [this, List.map_id]; exact nd) (by simp [freeR]) (by simp [freeR])
theorem freeR_bad {ss : List Nat} (nd : ¬ ss.Nodup) : ¬ ∃ h, goodHs ((freeR ss).1.map (·.map drR)) (nL (freeR ss).2) h := fun ⟨h, g⟩ => by
  obtain ⟨ds, q⟩ := g.room ((ss.map fun s => (s, 0)).map drR) (by simp [freeR])
  have e : ds = ss.map fun s => (s, 0) := (List.map_inj_right fun _ _ e => drR_inj e).mp q.1.symm
  have := q.2.2
  rw [e, List.map_map] at this
  apply nd
  have z : ((fun d : Nat × Nat => d.1) ∘ fun s => (s, 0)) = id := rfl
  rwa [z, List.map_id] at this
abbrev bitsOk (z : Int) : Prop := Builtin.Int.intBits z ≤ 1048576
theorem bits_getD {ns : List Int} (hb : ∀ z ∈ ns, Builtin.Int.intBits z ≤ 1048576) (k : Nat) : bitsOk (ns[k]?.getD 0) := by
  cases e : ns[k]? with
  | none => show Builtin.Int.intBits 0 ≤ 1048576; decide
  | some z => exact hb z (List.mem_of_getElem? e)
theorem bits_div {z k : Int} (h : bitsOk z) : bitsOk (z / k) := intBits_le_of_natAbs (Int.natAbs_ediv_le_natAbs _ _) h
theorem bits_mul {z w : Int} (h : bitsOk z) (h2 : Builtin.Int.intBits w ≤ 2 ^ 20) : CMulG z w := IntMulOk.of_bits (by simpa using h) h2
theorem bits_small {w : Int} (h : w.natAbs < 2 ^ 2000) : Builtin.Int.intBits w ≤ 2 ^ 20 := Nat.le_trans (intBits_le_iff (m := 2000) |>.mpr h) (by decide)
theorem drop_perm {fd sm l : List Nat} (p : (fd ++ sm).Perm l) {u : Nat} (hu : u < sm.length) : ((fd ++ [sm[u]]) ++ (sm.take u ++ sm.drop (u + 1))).Perm l := by
  refine .trans ?_ p
  rw [List.append_assoc]
  refine .append_left _ ?_
  have e : sm = sm.take u ++ (sm[u] :: sm.drop (u + 1)) := by rw [List.getElem_cons_drop, List.take_append_drop]
  refine .trans ?_ (.of_eq e.symm)
  exact (List.perm_middle (a := sm[u]) (l₁ := sm.take u) (l₂ := sm.drop (u + 1))).symm
theorem sgS_tS (ss : List Nat) : sgS (tS ss) = ss.map fun s => tS [s] := by unfold sgS; rw [tS_cps]; rfl
theorem free_due {ss rs : List Nat} (nd : ss.Nodup) (p : rs.Perm ss) (o : rs.Pairwise (· ≤ ·)) : PyData.tuple [.tuple [.tuple (rs.map fun s => drD (s, 0))], .tuple [.int 0]] = houseD (sortH (freeR ss)) := by
  have e : sortP (ss.map fun s => (s, 0)) = rs.map fun s => (s, 0) := by
    refine sortP_of (p.map _) ?_
    rw [List.map_map]
    have z : ((fun d : Nat × Nat => d.1) ∘ fun s => (s, 0)) = id := rfl
    rw [z, List.map_id]
    exact asc_of_nodup o (p.nodup_iff.mpr nd)
  have e2 : sortN [0] = [0] := sortN_self (by simp)
  unfold sortH freeR houseD
  simp only [List.map_cons, List.map_nil, e, e2, drsD, List.map_map]
  rfl
theorem freeH_takes {ss : List Nat} (nd : ss.Nodup) (t : List Nat) : takesB (sortH (freeR ss)) t = t.all fun s => decide (s ∈ ss) := by
  have go : ∀ t, goFrom (sortH (freeR ss)) 0 t = if (t.all fun s => decide (s ∈ ss)) = true then some 0 else none := fun t => by
    induction t with
    | nil => rfl
    | cons s t ih =>
      have e : doorH (sortH (freeR ss)) 0 s = if s ∈ ss then some 0 else none := by
        have h0 : 0 < (sortH (freeR ss)).1.length := by simp [sortH, freeR]
        rw [doorH_at h0]
        have e1 : (sortH (freeR ss)).1[0] = sortP (ss.map fun s => (s, 0)) := rfl
        rw [e1, lookG_perm (sortP_perm _) (by
          rw [List.map_map]
          have z : ((fun d : Nat × Nat => d.1) ∘ fun s => (s, 0)) = id := rfl
          rwa [z, List.map_id])]
        clear ih h0 e1 nd
        induction ss with
        | nil => rfl
        | cons a ss ih =>
          rw [List.map_cons, lookG_cons, ih]
          by_cases q : a = s
          · subst q; simp
          · rw [if_neg q]
            have : ¬ s = a := fun z => q z.symm
            simp [this]
      rw [goFrom, e]
      by_cases m : s ∈ ss
      · rw [if_pos m, Option.bind_some, ih]
        simp [m]
      · rw [if_neg m]
        simp [m]
  unfold takesB goesH
  rw [go]
  cases t.all fun s => decide (s ∈ ss) with
  | true =>
    have e2 : (sortH (freeR ss)).2 = [0] := sortN_self (by simp [freeR])
    show decide (0 ∈ (sortH (freeR ss)).2) = true
    rw [e2]; rfl
  | false => rfl
end DL

set_option Elab.async false
set_option linter.all false
set_option maxRecDepth 100000
set_option maxHeartbeats 1000000
/-! MX: fonts made. -/
namespace DL
open PySem L2 PyProof.Rows
def lp (l : Lt) : D × List D := (.str (tS [l.1]), nL l.2)
def lpD (p : D × List D) : D := .tuple [p.1, .list p.2]
theorem lp_inj {a b : Lt} (h : lp a = lp b) : a = b := by
  simp only [lp, Prod.mk.injEq, PyData.str.injEq, tS_iff, List.cons.injEq, and_true] at h
  exact Prod.ext h.1 (nL_inj h.2)
structure ltOk (h : Nat) (l : Lt) : Prop where
  sg : okSg l.1
  c1 : 1 ≤ l.2.length
  c8 : l.2.length ≤ 8
  lt : ∀ c ∈ l.2, c < 2 ^ h
structure goodFt (h : Nat) (ps : List (D × List D)) (ls : List Lt) : Prop where
  eq : ps = ls.map lp
  ok : ∀ l ∈ ls, ltOk h l
  nd : (ls.map (·.1)).Nodup
theorem goodFt.uniq {h : Nat} {ps : List (D × List D)} {a b : List Lt} (x : goodFt h ps a) (y : goodFt h ps b) : a = b :=
  (List.map_inj_right fun _ _ e => lp_inj e).mp (x.eq.symm.trans y.eq)
def encL (p : Nat × Lt) : Nat × Lt := p
theorem colB_nat {h : Nat} {d : D} (e : colB h d = true) : ∃ c : Nat, d = .int c ∧ c < 2 ^ h := by
  cases d <;> simp only [colB, Bool.false_eq_true, decide_eq_true_eq] at e
  rename_i i
  exact ⟨i.toNat, by rw [show ((i.toNat : Nat) : Int) = i from by omega], by omega⟩
theorem colB_of {h c : Nat} (e : c < 2 ^ h) : colB h (.int c) = true := by
  simp only [colB, decide_eq_true_eq]
  omega
theorem for_gsD {α : Type} {ls : List D} {g : WG} {body : WS} {Z : En} {env : Env} (is : List Nat) (os : α → List (Option O)) (I : Nat → α → Prop) (x0 : α) (h0 : env = setL env is (os x0)) (hI : I 0 x0)
    (step : ∀ i d x, ls[i]? = some d → I i x → g d (setL env is (os x)) fun env2 => body { Z with nx := NxF (fun x => setL env is (os x)) I (i + 1), ct := NxF (fun x => setL env is (os x)) I (i + 1), bk := Z.nx } env2)
    (fin : ∀ x, I ls.length x → Z.nx (setL env is (os x))) : FoI ls g body Z env := by
  have := for_gs (enc := id) (ls := ls) (D := Z) (env := env) (g := g) (body := body) is os I x0 h0 hI step fin
  rwa [List.map_id] at this
theorem cols_nats {h : Nat} : ∀ {cs : List D}, (∀ c ∈ cs, colB h c = true) → ∃ ns : List Nat, cs = nL ns ∧ ∀ n ∈ ns, n < 2 ^ h
  | [], _ => ⟨[], rfl, by simp⟩
  | c :: cs, q => by
    obtain ⟨n, rfl, l⟩ := colB_nat (q c List.mem_cons_self)
    obtain ⟨ns, rfl, l2⟩ := cols_nats fun c m => q c (List.mem_cons_of_mem _ m)
    exact ⟨n :: ns, rfl, fun x m => (List.mem_cons.mp m).elim (fun e => by rw [e]; exact l) (l2 x)⟩
theorem heightB_nat {d : D} (e : heightB d = true) : ∃ h : Nat, d = .int h ∧ 1 ≤ h ∧ h ≤ 60 := by
  cases d <;> simp only [heightB, Bool.false_eq_true, decide_eq_true_eq] at e
  rename_i i
  exact ⟨i.toNat, by rw [show ((i.toNat : Nat) : Int) = i from by omega], by omega, by omega⟩
theorem font_made {h : Nat} {ps : List (D × List D)} {ls : List Lt} (g : goodFt h ps ls) (h1 : 1 ≤ h) (h60 : h ≤ 60) (n1 : 1 ≤ ps.length) (n40 : ps.length ≤ 40) {rs : List Nat} (p : rs.Perm (ls.map (·.1))) (o : rs.Pairwise (· ≤ ·)) :
    okFont (h, rs.map fun s => (s, (colsOf ls s).getD [])) ∧ (rs.map fun s => (s, (colsOf ls s).getD [])).Perm ls := by
  have hp : (rs.map fun s => (s, (colsOf ls s).getD [])).Perm ls := by
    refine (p.map _).trans (.of_eq ?_)
    rw [List.map_map]
    refine (List.map_congr_left fun l m => ?_).trans (List.map_id ls)
    show (l.1, (colsOf ls l.1).getD []) = l
    rw [colsOf_nodup g.nd (c := l.2) m]
    rfl
  have hl : ls.length = ps.length := by rw [g.eq, List.length_map]
  refine ⟨⟨h1, h60, by rw [hp.length_eq]; omega, by rw [hp.length_eq]; omega, fun l m => (g.ok l (hp.mem_iff.mp m)).sg, fun l m => (g.ok l (hp.mem_iff.mp m)).c1, fun l m => (g.ok l (hp.mem_iff.mp m)).c8, fun l m => (g.ok l (hp.mem_iff.mp m)).lt, ?_⟩, hp⟩
  rw [List.map_map]
  have e : ((fun l : Lt => l.1) ∘ fun s => (s, (colsOf ls s).getD [])) = id := rfl
  rw [e, List.map_id]
  exact asc_of_nodup o (p.nodup_iff.mpr g.nd)
/-- no font's letters -/
def badF (h : Nat) (ps : List (D × List D)) : Prop := ¬ (1 ≤ ps.length ∧ ps.length ≤ 40 ∧ ∃ ls, goodFt h ps ls)
theorem goodFt.rev {h : Nat} {ps : List (D × List D)} {ls : List Lt} (g : goodFt h ps ls) : goodFt h ps.reverse ls.reverse :=
  ⟨by rw [g.eq, List.map_reverse], fun l m => g.ok l (List.mem_reverse.mp m), by rw [List.map_reverse]; exact (List.reverse_perm _).nodup_iff.mpr g.nd⟩
theorem badF.rev {h : Nat} {ps : List (D × List D)} (b : badF h ps) : badF h ps.reverse := fun ⟨a, c, ls, g⟩ => b ⟨by simpa using a, by simpa using c, ls.reverse, by have := g.rev; rwa [List.reverse_reverse] at this⟩
theorem bad_len {h : Nat} {ps : List (D × List D)} (q : ps.length < 1 ∨ 40 < ps.length) : badF h ps := fun ⟨a, c, _⟩ => by omega
theorem bad_sign {h : Nat} {ps : List (D × List D)} {p : D × List D} (m : p ∈ ps) (q : signB p.1 = false) : badF h ps := fun ⟨_, _, ls, g⟩ => by
  rw [g.eq] at m
  obtain ⟨l, ml, rfl⟩ := List.mem_map.mp m
  have := signB_of (g.ok l ml).sg
  rw [show (lp l).1 = .str (tS [l.1]) from rfl, this] at q
  cases q
theorem bad_cols {h : Nat} {ps : List (D × List D)} {p : D × List D} (m : p ∈ ps) (q : p.2.length < 1 ∨ 8 < p.2.length) : badF h ps := fun ⟨_, _, ls, g⟩ => by
  rw [g.eq] at m
  obtain ⟨l, ml, rfl⟩ := List.mem_map.mp m
  have := (g.ok l ml).c1
  have := (g.ok l ml).c8
  rw [show (lp l).2 = nL l.2 from rfl, List.length_map] at q
  omega
theorem bad_col {h : Nat} {ps : List (D × List D)} {p : D × List D} {d : D} (m : p ∈ ps) (md : d ∈ p.2) (q : colB h d = false) : badF h ps := fun ⟨_, _, ls, g⟩ => by
  rw [g.eq] at m
  obtain ⟨l, ml, rfl⟩ := List.mem_map.mp m
  obtain ⟨c, mc, rfl⟩ := List.mem_map.mp md
  rw [colB_of ((g.ok l ml).lt c mc)] at q
  cases q
theorem bad_twice {h : Nat} {ps : List (D × List D)} (q : ¬ (ps.map (·.1)).Nodup) : badF h ps := fun ⟨_, _, ls, g⟩ => by
  apply q
  rw [g.eq, List.map_map]
  refine List.pairwise_map.mpr ((List.pairwise_map.mp g.nd).imp fun {a b} n e => n ?_)
  simpa [lp, tS_iff] using e
/-- a row that the walk does not like: worked out by hand -/
theorem prow {z a b c : Int} {D : En} {env : Env} (he : env[0]? = some (some (.fro (.int z)))) (ha : 0 < a) (ha2 : a < 2 ^ 60) (hb : 0 < b) (hc : c.natAbs < 2 ^ 64) (hd : (z / a % b).natAbs < 2 ^ 64)
  (hh : D.nx (env.set 4 (some (.fro (.int (z / a % b * z * c)))))) :
    wLet 4 (wMul (wMul (wMod (wDiv (wVar 0) (wC (PyData.int a))) (wC (PyData.int b))) (wVar 0)) (wC (PyData.int c))) D env := by
  simp only [wLet, wMul, wMod, wDiv, wVar, wC, w2, he, bI_int, R.d_v, R.sh_v, true_and]
  exact ⟨cdiv_int ha ha2, hb, mul_of hd, mul_by hc, True.intro, hh⟩
def smLp (p : D × List D) : Prop := SmOk 3 p.1 ∧ ∀ c ∈ p.2, SmOk 3 c
theorem smLp.d {p : D × List D} (h : smLp p) : SmOk 5 (lpD p) := sok_tuple fun d m => by
  simp only [List.mem_cons, List.not_mem_nil, or_false] at m
  rcases m with rfl | rfl
  · exact smok_mono (by decide) h.1
  · exact sok_list h.2
theorem sm_nL (ns : List Nat) : ∀ c ∈ nL ns, SmOk 3 c := fun c m => by
  obtain ⟨n, _, rfl⟩ := List.mem_map.mp m
  exact sok_int _ _
theorem smLp_lp (l : Lt) : smLp (lp l) := ⟨sok_str _ _, sm_nL _⟩
theorem smLps {n : Nat} {ps : List (D × List D)} (h : ∀ p ∈ ps, smLp p) : SmOk (6 + n) (.list (ps.map lpD)) := smok_mono (by omega) (sok_list (n := 5) fun d m => by
  obtain ⟨p, mp, rfl⟩ := List.mem_map.mp m
  exact (h p mp).d)
theorem sh_fontD {f : Font} (h : okFont f) : Sh 4 (fontD f) := sh_tuple fun d m => by
  simp only [List.mem_cons, List.not_mem_nil, or_false] at m
  rcases m with rfl | rfl
  · exact sh_int _ _
  · refine sh_tuple fun d m => ?_
    obtain ⟨l, ml, rfl⟩ := List.mem_map.mp m
    refine sh_tuple fun d m => ?_
    simp only [List.mem_cons, List.not_mem_nil, or_false] at m
    rcases m with rfl | rfl
    · exact okT.sh (fun c mc => by simp at mc; subst mc; exact okSg_lt (h.sg l ml)) _
    · refine sh_tuple fun d m => ?_
      obtain ⟨n, _, rfl⟩ := List.mem_map.mp m
      exact sh_int _ _
end DL

set_option Elab.async false
set_option linter.all false
set_option maxRecDepth 100000
set_option maxHeartbeats 1000000
/-! MY: whole numbers as texts, texts cut at a sign. -/
namespace DL
open PySem L2 PyProof.Rows
def valN (l : List Nat) : Nat := l.foldl (fun acc c => acc * 10 + (c - 48)) 0
def numB (l : List Nat) : Prop := 1 ≤ l.length ∧ l.length ≤ 20 ∧ (∀ c ∈ l, 48 ≤ c ∧ c ≤ 57) ∧ (l.headD 0 = 48 → l.length ≤ 1)
instance (l : List Nat) : Decidable (numB l) := by unfold numB; exact inferInstance
theorem int_tS {l : List Nat} (h : ∀ c ∈ l, 48 ≤ c ∧ c ≤ 57) (h1 : l ≠ []) (h2 : l.length ≤ 4300) : PySem.intText? (tS l) = some ((valN l : Nat) : Int) :=
  SX.int_S (a := l) (by rw [List.all_eq_true]; intro c m; simp [h c m]) h1 h2
theorem num_tS (n : Nat) : Str.ofString (toString ((n : Nat) : Int)) = tS (TL.numL n) := SX.num_S n
theorem numL_fig (n : Nat) : ∀ c ∈ TL.numL n, 48 ≤ c ∧ c ≤ 57 := TL.numL_digits n
theorem numL_pos (n : Nat) : 1 ≤ (TL.numL n).length := by
  have := TL.numL_ne n
  cases h : TL.numL n with
  | nil => exact absurd h this
  | cons a b => simp
theorem numL_val (n : Nat) : valN (TL.numL n) = n := TL.numL_val n
theorem numL_head : ∀ n : Nat, (TL.numL n).headD 0 = 48 → (TL.numL n).length ≤ 1 := by
  intro n
  induction n using Nat.strongRecOn with
  | ind n ih =>
    by_cases h : n < 10
    · rw [TL.numL_lt h]; simp
    · rw [TL.numL_step (by omega)]
      intro e
      exfalso
      have hp := numL_pos (n / 10)
      have e2 : (TL.numL (n / 10) ++ [48 + n % 10]).headD 0 = (TL.numL (n / 10)).headD 0 := by
        cases h : TL.numL (n / 10) with
        | nil => rw [h] at hp; simp at hp
        | cons a b => rfl
      rw [e2] at e
      have l1 := ih (n / 10) (by omega) e
      have v := numL_val (n / 10)
      cases h : TL.numL (n / 10) with
      | nil => rw [h] at hp; simp at hp
      | cons a b =>
        rw [h] at e l1 v
        have : b = [] := by
          cases b with
          | nil => rfl
          | cons x y => simp at l1
        subst this
        simp at e
        subst e
        simp [valN] at v
        omega
theorem numL_num {n : Nat} (h : n < 10 ^ 20) : numB (TL.numL n) := ⟨numL_pos n, TL.numL_len (by decide) h, numL_fig n, numL_head n⟩
theorem find_fig : ∀ c : Nat, c < 128 → Txt.find (tS [48, 49, 50, 51, 52, 53, 54, 55, 56, 57]) (tS [c]) = if 48 ≤ c ∧ c ≤ 57 then (c : Int) - 48 else -1 := by decide +kernel
def splF (c : Nat) (ps : List (List Nat)) (x : Nat) : List (List Nat) := if x = c then ps ++ [[]] else ps.dropLast ++ [ps.getLastD [] ++ [x]]
def splN (c : Nat) (l : List Nat) : List (List Nat) := l.foldl (splF c) [[]]
theorem splF_snoc (c : Nat) (i : List (List Nat)) (p : List Nat) (x : Nat) : splF c (i ++ [p]) x = if x = c then i ++ [p] ++ [[]] else i ++ [p ++ [x]] := by
  unfold splF
  by_cases h : x = c
  · rw [if_pos h, if_pos h]
  · rw [if_neg h, if_neg h, List.dropLast_concat, List.getLastD_eq_getLast?, List.getLast?_concat]; rfl
theorem spl_fold (c : Nat) : ∀ (l : List Nat) (i : List (List Nat)) (p : List Nat), i ++ TL.spl [c] 0 p l = l.foldl (splF c) (i ++ [p])
  | [], i, p => by rw [TL.spl_nil]; rfl
  | x :: r, i, p => by
    rw [List.foldl_cons, splF_snoc]
    by_cases h : x = c
    · rw [if_pos h, TL.spl_hit (by subst h; simp [TL.pre]), ← spl_fold c r (i ++ [p]) []]
      simp
    · rw [if_neg h, ← spl_fold c r i (p ++ [x])]
      congr 1
      show (if TL.pre [c] (x :: r) = true then _ else _) = _
      rw [if_neg (by simp [TL.pre]; exact h)]
theorem split_tS (l : List Nat) {c : Nat} (hc : c < 256) : Txt.split (tS l) (tS [c]) = (splN c l).map tS := by
  have := SX.split_S (a := l) (b := [c]) (by simp) (by simp [hc])
  have e := spl_fold c l [] []
  simp only [List.nil_append] at e
  unfold splN
  rw [← e]
  exact this
theorem splN_snoc (c : Nat) (l : List Nat) (x : Nat) : splN c (l ++ [x]) = splF c (splN c l) x := by unfold splN; rw [List.foldl_append]; rfl
theorem splN_rev (c : Nat) (m : List Nat) : ∃ i p, splN c m.reverse = i ++ [p] ∧ p.length + i.length ≤ m.reverse.length ∧ (∀ q ∈ i ++ [p], q.length ≤ m.reverse.length ∧ ∀ x ∈ q, x ∈ m.reverse) := by
  induction m with
  | nil => exact ⟨[], [], rfl, by simp, by simp⟩
  | cons x l ih =>
    rw [List.reverse_cons]
    obtain ⟨i, p, e, h1, h2⟩ := ih
    rw [splN_snoc, e, splF_snoc]
    by_cases h : x = c
    · rw [if_pos h]
      refine ⟨i ++ [p], [], rfl, by simp at h1 ⊢; omega, fun q m => ?_⟩
      rcases List.mem_append.mp m with m | m
      · obtain ⟨a, b⟩ := h2 q m
        exact ⟨by simp at a ⊢; omega, fun y my => List.mem_append_left _ (b y my)⟩
      · simp at m; subst m; simp
    · rw [if_neg h]
      refine ⟨i, p ++ [x], rfl, by simp at h1 ⊢; omega, fun q m => ?_⟩
      rcases List.mem_append.mp m with m | m
      · obtain ⟨a, b⟩ := h2 q (List.mem_append_left _ m)
        exact ⟨by simp at a ⊢; omega, fun y my => List.mem_append_left _ (b y my)⟩
      · obtain rfl := List.mem_singleton.mp m
        obtain ⟨a, b⟩ := h2 p (by simp)
        refine ⟨by simp at a ⊢; omega, fun y my => ?_⟩
        rcases List.mem_append.mp my with my | my
        · exact List.mem_append_left _ (b y my)
        · exact List.mem_append_right _ my
theorem splN_last (c : Nat) (l : List Nat) : ∃ i p, splN c l = i ++ [p] ∧ p.length + i.length ≤ l.length ∧ (∀ q ∈ i ++ [p], q.length ≤ l.length ∧ ∀ x ∈ q, x ∈ l) := by
  have := splN_rev c l.reverse
  rwa [List.reverse_reverse] at this
theorem fig_in (c : Nat) : (!(PySem.Builtin.Str.occurrences (tS [48, 49, 50, 51, 52, 53, 54, 55, 56, 57]) (tS [c]) 0 10 1).isEmpty) = decide (48 ≤ c ∧ c ≤ 57) := by
  have h := tS_in' [48, 49, 50, 51, 52, 53, 54, 55, 56, 57] c
  have h2 : (!(PySem.Builtin.Str.occurrences (tS [48, 49, 50, 51, 52, 53, 54, 55, 56, 57]) (tS [c]) 0 10 1).isEmpty) = decide (c ∈ [48, 49, 50, 51, 52, 53, 54, 55, 56, 57]) := h
  rw [h2]
  by_cases hc : 48 ≤ c ∧ c ≤ 57
  · rw [decide_eq_true hc]
    simp
    omega
  · rw [decide_eq_false hc]
    simp
    omega
theorem log20 {n : Nat} (h : n < 10 ^ 20) : ((n : Nat) : Int).natAbs.log2 < 1920 := by
  rw [Int.natAbs_natCast]
  by_cases h0 : n = 0
  · subst h0; decide
  · refine (Nat.log2_lt h0).mpr (Nat.lt_trans h ?_)
    exact Nat.lt_of_lt_of_le (by decide : 10 ^ 20 < 2 ^ 100) (Nat.pow_le_pow_right (by decide) (by decide))
theorem okT_fig {l : List Nat} (h : ∀ c ∈ l, 48 ≤ c ∧ c ≤ 57) : okT l := fun c m => by have := h c m; omega
theorem ixN_end {n : Nat} : ixN (n + 1) (-1) = some n := by
  unfold ixN
  first
    | (rw [if_neg (by omega), if_pos (by omega)]; congr 1; omega)
    | (simp; omega)
theorem set_end {α : Type} (i : List α) (p q : α) : (i ++ [p]).set i.length q = i ++ [q] := by
  rw [List.set_append_right _ _ (Nat.le_refl _)]; simp
theorem kindsR : PyData.eqv (.list [.bool true, .bool true, .bool false, .bool false]) (.list [.bool true, .bool true, .bool false, .bool false]) = true := eqv_bL_self [true, true, false, false]
abbrev refD : D := .list [.str (tS [114, 101, 102, 117, 115, 101, 100]), .bool true]
theorem refD_same {Q : R → Prop} (hq : Q (.v (.bool true))) : 2 ≤ sizeLine ∧ okEq refD refD ∧ Q (.v (.bool (PyData.eqv refD refD))) := by
  have sh : Sh 2 refD := sh_list fun d m => by
    simp only [List.mem_cons, List.not_mem_nil, or_false] at m
    rcases m with rfl | rfl
    · exact okT.sh (by decide) _
    · exact sh_bool _ _
  refine ⟨by rw [sizeLine_eq]; decide, okEq_of sh sh (by decide), ?_⟩
  rw [eqv_self sh]
  exact hq
theorem atI_back {α : Type} {xs : List α} {k : Nat} (h : k < xs.length) : ∃ x ∈ xs, atI xs (-1 - (k : Int)) = some x := by
  have e : ixN xs.length (-1 - (k : Int)) = some (xs.length - 1 - k) := by
    unfold ixN
    first
      | (rw [if_neg (by omega), if_pos (by omega)]; congr 1; omega)
      | (simp; omega)
  have hk : xs.length - 1 - k < xs.length := by omega
  exact ⟨xs[xs.length - 1 - k], List.getElem_mem hk, atI_ixN e (List.getElem?_eq_getElem hk)⟩
/-! ### strips as texts -/
def goodP (h : Nat) (p : List Nat) : Prop := numB p ∧ valN p < 2 ^ h
instance (h : Nat) (p : List Nat) : Decidable (goodP h p) := by unfold goodP; exact inferInstance
def stripT (h : Nat) (l : List Nat) : Option (List Nat) := if l = [45] then some [] else if ∀ p ∈ splN 44 l, goodP h p then some ((splN 44 l).map valN) else none
theorem stripT_dash (h : Nat) : stripT h [45] = some [] := if_pos rfl
theorem stripT_some {h : Nat} {l : List Nat} (h1 : l ≠ [45]) (h2 : ∀ p ∈ splN 44 l, goodP h p) : stripT h l = some ((splN 44 l).map valN) := by unfold stripT; rw [if_neg h1, if_pos h2]
theorem stripT_none {h : Nat} {l p : List Nat} (h1 : l ≠ [45]) (m : p ∈ splN 44 l) (b : ¬ goodP h p) : stripT h l = none := by
  unfold stripT
  rw [if_neg h1, if_neg fun g => b (g p m)]
theorem stripT_nil (h : Nat) : stripT h [] = none := stripT_none (p := []) (by simp) (by simp [splN]) (fun g => by have := g.1.1; simp at this)
theorem splN_app (c : Nat) (a b : List Nat) : splN c (a ++ c :: b) = splN c a ++ splN c b := by
  obtain ⟨i, p, e, _, _⟩ := splN_last c a
  unfold splN at e ⊢
  rw [List.foldl_append, List.foldl_cons, e, splF_snoc, if_pos rfl, ← spl_fold c b (i ++ [p]) []]
  have := spl_fold c b [] []
  simp only [List.nil_append] at this
  rw [this]
theorem splN_mem {c x : Nat} (hx : x ≠ c) (m : List Nat) : x ∈ m.reverse → ∃ p ∈ splN c m.reverse, x ∈ p := by
  induction m with
  | nil => intro h; simp at h
  | cons y l ih =>
    rw [List.reverse_cons]
    intro h
    obtain ⟨i, p, e, _, _⟩ := splN_last c l.reverse
    rw [splN_snoc, e, splF_snoc]
    rw [e] at ih
    by_cases hy : y = c
    · rw [if_pos hy]
      rcases List.mem_append.mp h with h | h
      · obtain ⟨q, mq, hq⟩ := ih h
        exact ⟨q, List.mem_append_left _ mq, hq⟩
      · obtain rfl := List.mem_singleton.mp h
        exact absurd hy hx
    · rw [if_neg hy]
      rcases List.mem_append.mp h with h | h
      · obtain ⟨q, mq, hq⟩ := ih h
        rcases List.mem_append.mp mq with mq | mq
        · exact ⟨q, List.mem_append_left _ mq, hq⟩
        · obtain rfl := List.mem_singleton.mp mq
          exact ⟨q ++ [y], by simp, List.mem_append_left _ hq⟩
      · obtain rfl := List.mem_singleton.mp h
        exact ⟨p ++ [x], by simp, by simp⟩
theorem splN_has {c x : Nat} {l : List Nat} (hx : x ≠ c) (m : x ∈ l) : ∃ p ∈ splN c l, x ∈ p := by
  have := splN_mem (c := c) hx l.reverse
  rw [List.reverse_reverse] at this
  exact this m
/-- what stands ahead of a comma of the text with one more comma behind it: whole parts -/
theorem splN_ahead {l : List Nat} {k : Nat} (h : (l ++ [44])[k]? = some 44) : ∀ q ∈ splN 44 ((l ++ [44]).take k), q ∈ splN 44 l := by
  intro q m
  by_cases hk : k < l.length
  · rw [List.getElem?_append_left hk] at h
    obtain ⟨h1, h2⟩ := List.getElem?_eq_some_iff.mp h
    rw [List.take_append_of_le_length (by omega)] at m
    have e : l = l.take k ++ 44 :: l.drop (k + 1) := by
      have := List.take_append_drop k l
      rw [List.drop_eq_getElem_cons h1, h2] at this
      exact this.symm
    rw [e, splN_app]
    exact List.mem_append_left _ m
  · have hl := (List.getElem?_eq_some_iff.mp h).1
    rw [List.length_append] at hl
    have : k = l.length := by simp at hl; omega
    subst this
    rw [List.take_left] at m
    exact m
def stripS (xs : List Nat) : List Nat := if xs = [] then [45] else joinL [44] (xs.map TL.numL)
theorem joinL_snoc (sep x : List Nat) : ∀ ls : List (List Nat), ls ≠ [] → joinL sep (ls ++ [x]) = joinL sep ls ++ sep ++ x
  | [], h => absurd rfl h
  | [y], _ => rfl
  | y :: z :: r, _ => by
    rw [List.cons_append, List.cons_append, joinL, ← List.cons_append, joinL_snoc sep x (z :: r) (by simp), joinL]
    simp [List.append_assoc]
theorem joinL_len (sep : List Nat) (n : Nat) : ∀ ls : List (List Nat), (∀ x ∈ ls, x.length ≤ n) → (joinL sep ls).length ≤ ls.length * (n + sep.length)
  | [], _ => by simp [joinL]
  | [y], h => by have := h y (by simp); simp [joinL]; omega
  | y :: z :: r, h => by
    have h1 := h y (by simp)
    have h2 := joinL_len sep n (z :: r) fun x m => h x (List.mem_cons_of_mem _ m)
    rw [joinL, List.length_append, List.length_append, List.length_cons, Nat.succ_mul]
    omega
theorem joinL_mem {sep : List Nat} {c : Nat} : ∀ {ls : List (List Nat)}, c ∈ joinL sep ls → c ∈ sep ∨ ∃ x ∈ ls, c ∈ x
  | [], m => by simp [joinL] at m
  | [y], m => .inr ⟨y, by simp, m⟩
  | y :: z :: r, m => by
    rw [joinL] at m
    rcases List.mem_append.mp m with m | m
    · rcases List.mem_append.mp m with m | m
      · exact .inr ⟨y, by simp, m⟩
      · exact .inl m
    · rcases joinL_mem m with m | ⟨x, mx, h⟩
      · exact .inl m
      · exact .inr ⟨x, List.mem_cons_of_mem _ mx, h⟩
theorem stripS_ok (xs : List Nat) : okT (stripS xs) := by
  unfold stripS
  by_cases h : xs = []
  · rw [if_pos h]; decide
  · rw [if_neg h]
    intro c m
    rcases joinL_mem m with m | ⟨x, mx, m⟩
    · simp at m; omega
    · obtain ⟨n, _, rfl⟩ := List.mem_map.mp mx
      have := numL_fig n c m
      omega
theorem stripS_len {xs : List Nat} (h : ∀ x ∈ xs, x < 2 ^ 60) (hl : xs.length ≤ 61) : 1 ≤ (stripS xs).length ∧ (stripS xs).length ≤ 1300 := by
  unfold stripS
  by_cases h0 : xs = []
  · rw [if_pos h0]; decide
  · rw [if_neg h0]
    have h1 := joinL_len [44] 19 (xs.map TL.numL) fun x m => by
      obtain ⟨n, mn, rfl⟩ := List.mem_map.mp m
      exact TL.numL_len (by decide) (Nat.lt_of_lt_of_le (h n mn) (by decide))
    rw [List.length_map] at h1
    have h3 : (joinL [44] (xs.map TL.numL)).length ≤ xs.length * 20 := h1
    refine ⟨?_, by omega⟩
    cases xs with
    | nil => exact absurd rfl h0
    | cons a r =>
      have := numL_pos a
      cases r with
      | nil => simpa [joinL] using this
      | cons b r => rw [List.map_cons, List.map_cons, joinL, List.length_append, List.length_append]; omega
theorem kinds3 : PyData.eqv (.list [.bool true, .bool true, .bool false]) (.list [.bool true, .bool true, .bool false]) = true := eqv_bL_self [true, true, false]
def letT (l : List Nat) : Option (Nat × List Nat) := match l with
  | c :: d :: r => if okSg c ∧ d = 58 then (stripT 60 r).map fun cs => (c, cs) else none
  | _ => none
theorem letT_nil : letT [] = none := rfl
theorem letT_one (c : Nat) : letT [c] = none := rfl
theorem letT_bad {c d : Nat} {r : List Nat} (h : ¬ (okSg c ∧ d = 58)) : letT (c :: d :: r) = none := if_neg h
theorem letT_good {c : Nat} {r : List Nat} (h : okSg c) : letT (c :: 58 :: r) = (stripT 60 r).map fun cs => (c, cs) := if_pos ⟨h, rfl⟩
def optD : Option (List Nat) → D
  | none => .none
  | some cs => .list (nL cs)
theorem stripT_len {h : Nat} {l cs : List Nat} (e : stripT h l = some cs) : cs.length ≤ l.length + 1 := by
  unfold stripT at e
  by_cases h1 : l = [45]
  · rw [if_pos h1] at e
    cases e
    simp
  · rw [if_neg h1] at e
    by_cases h2 : ∀ p ∈ splN 44 l, goodP h p
    · rw [if_pos h2] at e
      cases e
      obtain ⟨i, p, f, g, _⟩ := splN_last 44 l
      rw [List.length_map, f, List.length_append]
      simp
      omega
    · rw [if_neg h2] at e
      cases e
theorem letT_len {l : List Nat} {x : Nat × List Nat} (e : letT l = some x) : x.2.length ≤ l.length := by
  match l, e with
  | [], e => cases e
  | [c], e => cases e
  | c :: d :: r, e =>
    by_cases g : okSg c ∧ d = 58
    · obtain ⟨g, rfl⟩ := g
      rw [letT_good g] at e
      cases h : stripT 60 r with
      | none => rw [h] at e; cases e
      | some cs =>
        rw [h] at e
        cases e
        have := stripT_len h
        simp
        omega
    · rw [letT_bad g] at e
      cases e
theorem letT_head {l : List Nat} {x : Nat × List Nat} (e : letT l = some x) : ∃ r, l = x.1 :: r := by
  match l, e with
  | [], e => cases e
  | [c], e => cases e
  | c :: d :: r, e =>
    by_cases g : okSg c ∧ d = 58
    · obtain ⟨g, rfl⟩ := g
      rw [letT_good g] at e
      cases h : stripT 60 r with
      | none => rw [h] at e; cases e
      | some cs =>
        rw [h] at e
        cases e
        exact ⟨_, rfl⟩
    · rw [letT_bad g] at e
      cases e
end DL

set_option Elab.async false
set_option linter.all false
set_option maxRecDepth 100000
set_option maxHeartbeats 1000000
/-! MZ: words and rows. -/
namespace DL
open PySem L2 PyProof.Rows
def wdF (f : Font) (t : List Nat) : Nat := (setF f t).length
theorem wdF_app (f : Font) (a b : List Nat) : wdF f (a ++ b) = wdF f a + wdF f b := by unfold wdF; rw [setF_app, List.length_append]
theorem splN_free (c : Nat) (m : List Nat) : ∀ p ∈ splN c m.reverse, c ∉ p := by
  induction m with
  | nil => intro p h; simp [splN] at h; subst h; simp
  | cons x l ih =>
    rw [List.reverse_cons]
    obtain ⟨i, p, e, _, _⟩ := splN_last c l.reverse
    rw [splN_snoc, e, splF_snoc]
    rw [e] at ih
    by_cases h : x = c
    · rw [if_pos h]
      intro q m
      rcases List.mem_append.mp m with m | m
      · exact ih q m
      · simp at m; subst m; simp
    · rw [if_neg h]
      intro q m
      rcases List.mem_append.mp m with m | m
      · exact ih q (List.mem_append_left _ m)
      · obtain rfl := List.mem_singleton.mp m
        intro my
        rcases List.mem_append.mp my with my | my
        · exact ih p (by simp) my
        · simp at my; exact h my.symm
theorem splN_no {c : Nat} {l p : List Nat} (m : p ∈ splN c l) : c ∉ p := by
  have := splN_free c l.reverse
  rw [List.reverse_reverse] at this
  exact this p m
theorem splN_self {c : Nat} {l : List Nat} (h : c ∉ l) : splN c l = [l] := by
  have key : ∀ (l p : List Nat), c ∉ l → l.foldl (splF c) [p] = [p ++ l] := by
    intro l
    induction l with
    | nil => intro p _; simp
    | cons x r ih =>
      intro p h
      rw [List.foldl_cons]
      have e := splF_snoc c [] p x
      rw [if_neg (fun e => h (by rw [← e]; simp))] at e
      rw [show splF c [p] x = [p ++ [x]] from e, ih _ (fun m => h (List.mem_cons_of_mem _ m))]
      simp
  have := key l [] h
  simpa [splN] using this
theorem splN_ne (c : Nat) (l : List Nat) : splN c l ≠ [] := by
  obtain ⟨i, p, e, _, _⟩ := splN_last c l
  rw [e]; simp
theorem joinL_snoc2 (sep x y : List Nat) (i : List (List Nat)) : joinL sep (i ++ [x ++ y]) = joinL sep (i ++ [x]) ++ y := by
  by_cases h : i = []
  · subst h; rfl
  · rw [joinL_snoc _ _ _ h, joinL_snoc _ _ _ h]; simp [List.append_assoc]
theorem joinL_splN_r (c : Nat) (m : List Nat) : joinL [c] (splN c m.reverse) = m.reverse := by
  induction m with
  | nil => rfl
  | cons x l ih =>
    rw [List.reverse_cons]
    obtain ⟨i, p, e, _, _⟩ := splN_last c l.reverse
    rw [splN_snoc, e, splF_snoc]
    rw [e] at ih
    by_cases h : x = c
    · rw [if_pos h, joinL_snoc _ _ _ (by simp), ih, h]; simp
    · rw [if_neg h, joinL_snoc2, ih]
theorem joinL_splN (c : Nat) (l : List Nat) : joinL [c] (splN c l) = l := by
  have := joinL_splN_r c l.reverse
  rwa [List.reverse_reverse] at this
structure rowsB (f : Font) (W : Int) (rs : List (List Nat)) : Prop where
  ne : ∀ r ∈ rs, r ≠ []
  fits : ∀ r ∈ rs, (wdF f r : Int) ≤ W
  nx : ∀ k a b, rs[k]? = some a → rs[k + 1]? = some b → W < (wdF f (a ++ [32] ++ (splN 32 b).headD []) : Int)
theorem rowsB_nil (f : Font) (W : Int) : rowsB f W [] := ⟨by simp, by simp, by simp⟩
theorem rowsB_one {f : Font} {W : Int} {w : List Nat} (h : w ≠ []) (hw : (wdF f w : Int) ≤ W) : rowsB f W [w] := ⟨by simpa using h, by simpa using hw, fun k a b h1 h2 => by simp at h2⟩
theorem rowsB_more {f : Font} {W : Int} {i : List (List Nat)} {r w : List Nat} (h : rowsB f W (i ++ [r])) (hw : (wdF f r : Int) + wdF f [32] + wdF f w ≤ W) : rowsB f W (i ++ [r ++ [32] ++ w]) := by
  refine ⟨fun x m => ?_, fun x m => ?_, fun k a b h1 h2 => ?_⟩
  · rcases List.mem_append.mp m with m | m
    · exact h.ne x (List.mem_append_left _ m)
    · obtain rfl := List.mem_singleton.mp m
      simp
  · rcases List.mem_append.mp m with m | m
    · exact h.fits x (List.mem_append_left _ m)
    · obtain rfl := List.mem_singleton.mp m
      rw [wdF_app, wdF_app]
      omega
  · by_cases hk : k + 1 < i.length
    · rw [List.getElem?_append_left (by omega)] at h1
      rw [List.getElem?_append_left hk] at h2
      exact h.nx k a b (by rw [List.getElem?_append_left (by omega)]; exact h1) (by rw [List.getElem?_append_left hk]; exact h2)
    · have hl := (List.getElem?_eq_some_iff.mp h2).1
      simp at hl
      have hk : k + 1 = i.length := by omega
      rw [List.getElem?_append_left (by omega)] at h1
      rw [hk, List.getElem?_concat_length] at h2
      cases h2
      have := h.nx k a r (by rw [List.getElem?_append_left (by omega)]; exact h1) (by rw [hk, List.getElem?_concat_length])
      rw [show r ++ [32] ++ w = r ++ 32 :: w from by simp, splN_app]
      cases hs : splN 32 r with
      | nil => exact absurd hs (splN_ne 32 r)
      | cons x y => rw [hs] at this; exact this
theorem rowsB_new {f : Font} {W : Int} {i : List (List Nat)} {r w : List Nat} (h : rowsB f W (i ++ [r])) (hw : W < (wdF f r : Int) + wdF f [32] + wdF f w) (hn : w ≠ []) (hf : (wdF f w : Int) ≤ W) (h32 : 32 ∉ w) : rowsB f W (i ++ [r] ++ [w]) := by
  refine ⟨fun x m => ?_, fun x m => ?_, fun k a b h1 h2 => ?_⟩
  · rcases List.mem_append.mp m with m | m
    · exact h.ne x m
    · obtain rfl := List.mem_singleton.mp m
      exact hn
  · rcases List.mem_append.mp m with m | m
    · exact h.fits x m
    · obtain rfl := List.mem_singleton.mp m
      exact hf
  · by_cases hk : k + 1 < (i ++ [r]).length
    · rw [List.getElem?_append_left (by omega)] at h1
      rw [List.getElem?_append_left hk] at h2
      exact h.nx k a b h1 h2
    · have hl := (List.getElem?_eq_some_iff.mp h2).1
      rw [List.length_append] at hl
      simp only [List.length_cons, List.length_nil] at hl
      have hk : k + 1 = (i ++ [r]).length := by omega
      rw [List.getElem?_append_left (by omega)] at h1
      rw [hk, List.getElem?_concat_length] at h2
      cases h2
      have : k = i.length := by rw [List.length_append] at hk; simp at hk; omega
      subst this
      rw [List.getElem?_concat_length] at h1
      cases h1
      rw [splN_self h32]
      show W < (wdF f (r ++ [32] ++ w) : Int)
      rw [wdF_app, wdF_app]
      omega
def preW (ws : List (List Nat)) : List Nat := (ws.map (· ++ [32])).flatten
theorem preW_snoc (ws : List (List Nat)) (w : List Nat) : preW (ws ++ [w]) = preW ws ++ w ++ [32] := by unfold preW; simp
theorem splN_pre : ∀ (ws : List (List Nat)) (w : List Nat), (∀ x ∈ ws, 32 ∉ x) → 32 ∉ w → splN 32 (preW ws ++ w) = ws ++ [w]
  | [], w, _, h => by simpa [preW] using splN_self h
  | a :: ws, w, h1, h2 => by
    have e : preW (a :: ws) ++ w = a ++ 32 :: (preW ws ++ w) := by unfold preW; simp
    rw [e, splN_app, splN_self (h1 a (by simp)), splN_pre ws w (fun x m => h1 x (List.mem_cons_of_mem _ m)) h2]
    rfl
/-- a text of words -/
def wordsB (t : List Nat) : Prop := t = [] ∨ [] ∉ splN 32 t
theorem wordsB_no {t : List Nat} (h : t ≠ []) (m : [] ∈ splN 32 t) : ¬ wordsB t := fun q => q.elim h fun z => z m
def menu93 : List Nat := [33, 34, 35, 36, 38, 39, 40, 41, 42, 43, 44, 45, 46, 47, 48, 49, 50, 51, 52, 53, 54, 55, 56, 57, 58, 59, 60, 61, 62, 63, 64, 65, 66, 67, 68, 69, 70, 71, 72, 73, 74, 75, 76, 77, 78, 79, 80, 81, 82, 83, 84, 85, 86, 87, 88, 89, 90, 91, 92, 93, 94, 95, 96, 97, 98, 99, 100, 101, 102, 103, 104, 105, 106, 107, 108, 109, 110, 111, 112, 113, 114, 115, 116, 117, 118, 119, 120, 121, 122, 123, 124, 125, 126]
theorem menu93_ok : ∀ c ∈ menu93, okSg c ∧ c ≠ 32 := by decide
theorem menu93_nd : menu93.Nodup := by decide
theorem menu93_len : menu93.length = 93 := by decide
theorem lookK_font {ls : List Lt} {f : Font} (hf : okFont f) (hp : f.2.Perm ls) {s : Nat} (hs : hasF f s) : lookK (dG kO encC ls) (Sum.inr (tS [s])) = some (encC (colsF f s)) := by
  have e1 : lookK (dG kO encC ls) (Sum.inr (tS [s])) = (lookG ls s).map encC := lookK_dG kO_inj s _
  have nd : (ls.map (·.1)).Nodup := (hp.map _).nodup_iff.mp hf.nodup
  rw [e1, lookG_cols, colsOf_nodup nd (c := colsF f s) (hp.mem_iff.mp (colsF_mem hs))]
  rfl
theorem encC_eq (c : List Nat) : encC c = .tuple (nL c) := rfl
theorem sum_wd (f : Font) (t : List Nat) : (t.map fun s => ((colsF f s).length : Int)).sum = (wdF f t : Int) := by
  unfold wdF
  induction t with
  | nil => rfl
  | cons s t ih => rw [List.map_cons, List.sum_cons, ih, setF_cons, List.length_append]; omega
theorem wdF_nil (f : Font) : wdF f [] = 0 := rfl
theorem in_word {f : Font} {t p : List Nat} (h : inF f t) (m : p ∈ splN 32 t) : inF f p := by
  obtain ⟨i, q, e, _, e3⟩ := splN_last 32 t
  rw [← e] at e3
  exact fun s ms => h s ((e3 p m).2 s ms)
theorem word_len {t p : List Nat} (m : p ∈ splN 32 t) : p.length ≤ t.length := by
  obtain ⟨i, q, e, _, e3⟩ := splN_last 32 t
  rw [← e] at e3
  exact (e3 p m).1
theorem splN_count (c : Nat) (t : List Nat) : (splN c t).length ≤ t.length + 1 := by
  obtain ⟨i, q, e, e2, _⟩ := splN_last c t
  rw [e, List.length_append]; simp; omega
/-- more than one part: the sign is there -/
theorem splN_two {c : Nat} {t : List Nat} {k : Nat} (hk : 1 ≤ k) (h : k < (splN c t).length) : c ∈ t := by
  by_cases m : c ∈ t
  · exact m
  · rw [splN_self m] at h; simp at h; omega
theorem snoc_last {α : Type} {i j : List α} {r s : α} (e : i ++ [r] = j ++ [s]) : r = s := by
  have := (List.append_inj' e rfl).2
  simpa using this
theorem splN_nil (c : Nat) : splN c [] = [[]] := rfl
theorem bad_ahead (t : List Nat) : ¬ wordsB (32 :: t) := wordsB_no (by simp) (by
  have := splN_app 32 [] t
  rw [List.nil_append] at this
  rw [this, splN_nil]; simp)
theorem bad_behind (t : List Nat) : ¬ wordsB (t ++ [32]) := wordsB_no (by simp) (by rw [splN_app 32 t [], splN_nil]; simp)
theorem bad_mid (a b : List Nat) : ¬ wordsB (a ++ [32, 32] ++ b) := by
  have e : a ++ [32, 32] ++ b = a ++ 32 :: ([] ++ 32 :: b) := by simp
  rw [e]
  exact wordsB_no (by simp) (by rw [splN_app, splN_app, splN_nil]; simp)
theorem joinL_tot (sep : List Nat) : ∀ ls : List (List Nat), (joinL sep ls).length ≤ (ls.map (·.length)).sum + ls.length * sep.length
  | [] => by simp [joinL]
  | [y] => by simp [joinL]
  | y :: z :: r => by
    have h2 := joinL_tot sep (z :: r)
    rw [joinL, List.length_append, List.length_append, List.map_cons, List.sum_cons, List.length_cons, Nat.succ_mul]
    omega
/-- the lengths of all parts -/
theorem splN_tot_r (c : Nat) (m : List Nat) : ((splN c m.reverse).map (·.length)).sum + (splN c m.reverse).length = m.length + 1 := by
  induction m with
  | nil => rfl
  | cons x l ih =>
    rw [List.reverse_cons]
    obtain ⟨i, p, e, _, _⟩ := splN_last c l.reverse
    rw [splN_snoc, e, splF_snoc]
    rw [e] at ih
    by_cases h : x = c
    · rw [if_pos h]
      simp at ih ⊢; omega
    · rw [if_neg h]
      simp at ih ⊢; omega
theorem splN_tot (c : Nat) (l : List Nat) : ((splN c l).map (·.length)).sum + (splN c l).length = l.length + 1 := by
  have := splN_tot_r c l.reverse
  rw [List.reverse_reverse, List.length_reverse] at this
  exact this
theorem splN_more {c : Nat} {t : List Nat} (h : c ∈ t) : 2 ≤ (splN c t).length := by
  obtain ⟨a, b, e⟩ := List.append_of_mem h
  have h1 := splN_ne c a
  have h2 := splN_ne c b
  rw [e, splN_app, List.length_append]
  have := List.length_pos_iff.mpr h1
  have := List.length_pos_iff.mpr h2
  omega
theorem word_mem {c : Nat} {t p : List Nat} (m : p ∈ splN c t) : ∀ x ∈ p, x ∈ t := by
  obtain ⟨i, q, e, _, e3⟩ := splN_last c t
  rw [← e] at e3
  exact (e3 p m).2
theorem sum_tS (L : List (List Nat)) : ((L.map tS).map (fun x : Str => x.length)).sum = (L.map (·.length)).sum := by
  rw [List.map_map]
  exact congrArg List.sum (List.map_congr_left fun x _ => tS_len x)
theorem sum_cut (L : List (List Nat)) (n : Nat) : ((L.take n).map (·.length)).sum + ((L.drop n).map (·.length)).sum = (L.map (·.length)).sum := by
  rw [← List.sum_append, ← List.map_append, List.take_append_drop]
theorem joinL_has {sep : List Nat} : ∀ {ls : List (List Nat)} {r : List Nat}, r ∈ ls → ∀ x ∈ r, x ∈ joinL sep ls
  | [y], r, m, x, h => by obtain rfl := List.mem_singleton.mp m; exact h
  | y :: z :: l, r, m, x, h => by
    rw [joinL]
    rcases List.mem_cons.mp m with rfl | m
    · exact List.mem_append_left _ (List.mem_append_left _ h)
    · exact List.mem_append_right _ (joinL_has m x h)
theorem joinL_ge (sep : List Nat) : ∀ ls : List (List Nat), (ls.map (·.length)).sum ≤ (joinL sep ls).length
  | [] => by simp
  | [y] => by simp [joinL]
  | y :: z :: r => by
    have h2 := joinL_ge sep (z :: r)
    rw [joinL, List.length_append, List.length_append, List.map_cons, List.sum_cons]
    omega
theorem len_le_sum : ∀ {ls : List (List Nat)}, (∀ r ∈ ls, r ≠ []) → ls.length ≤ (ls.map (·.length)).sum
  | [], _ => by simp
  | y :: l, h => by
    have h1 := len_le_sum (ls := l) fun r m => h r (List.mem_cons_of_mem _ m)
    have h2 : 1 ≤ y.length := by
      have := h y (by simp)
      cases y with
      | nil => exact absurd rfl this
      | cons a b => simp
    rw [List.map_cons, List.sum_cons, List.length_cons]
    omega
theorem mem_le_sum : ∀ {ls : List (List Nat)} {r : List Nat}, r ∈ ls → r.length ≤ (ls.map (·.length)).sum
  | y :: l, r, m => by
    rw [List.map_cons, List.sum_cons]
    rcases List.mem_cons.mp m with rfl | m
    · omega
    · have := mem_le_sum m; omega
def bareF (f : Font) : Font := (f.1, f.2.filter fun l => decide (l.1 ≠ 32))
theorem colsOf_bare {s : Nat} (h : s ≠ 32) : ∀ ls : List Lt, colsOf (ls.filter fun l => decide (l.1 ≠ 32)) s = colsOf ls s
  | [] => rfl
  | l :: ls => by
    rw [List.filter_cons, colsOf_cons]
    by_cases e : l.1 = 32
    · rw [if_neg (by simp [e]), colsOf_bare h ls, if_neg (fun z => h (z.symm.trans e))]
    · rw [if_pos (by simp [e]), colsOf_cons, colsOf_bare h ls]
theorem hasF_bare {f : Font} {s : Nat} : hasF (bareF f) s ↔ hasF f s ∧ s ≠ 32 := by
  unfold hasF bareF
  simp only [List.mem_map, List.mem_filter, decide_eq_true_eq]
  constructor
  · rintro ⟨l, ⟨m, h⟩, rfl⟩
    exact ⟨⟨l, m, rfl⟩, h⟩
  · rintro ⟨⟨l, m, rfl⟩, h⟩
    exact ⟨l, ⟨m, h⟩, rfl⟩
theorem wdF_bare {f : Font} : ∀ {t : List Nat}, 32 ∉ t → wdF (bareF f) t = wdF f t
  | [], _ => rfl
  | s :: t, h => by
    have h1 : s ≠ 32 := fun e => h (by simp [e])
    have h2 : 32 ∉ t := fun m => h (List.mem_cons_of_mem _ m)
    have := wdF_bare (f := f) h2
    unfold wdF at this ⊢
    rw [setF_cons, setF_cons, List.length_append, List.length_append, this]
    congr 2
    show (colsOf (f.2.filter fun l => decide (l.1 ≠ 32)) s).getD [] = _
    rw [colsOf_bare h1]
    rfl
theorem okFont_bare {f : Font} (h : okFont f) {s : Nat} (hs : hasF f s) (h1 : s ≠ 32) : okFont (bareF f) where
  h1 := h.h1
  h60 := h.h60
  pos := by
    obtain ⟨l, m, rfl⟩ := List.mem_map.mp hs
    exact List.length_pos_of_mem (List.mem_filter.mpr ⟨m, by simpa using h1⟩)
  len := Nat.le_trans (List.length_filter_le _ _) h.len
  sg := fun l m => h.sg l (List.mem_filter.mp m).1
  cp := fun l m => h.cp l (List.mem_filter.mp m).1
  c8 := fun l m => h.c8 l (List.mem_filter.mp m).1
  lt := fun l m => h.lt l (List.mem_filter.mp m).1
  asc := h.asc.sublist ((List.filter_sublist).map _)
theorem joinL_two (c : Nat) : ∀ ls : List (List Nat), 2 ≤ ls.length → c ∈ joinL [c] ls
  | [], h => by simp at h
  | [y], h => by simp at h
  | y :: z :: r, _ => by rw [joinL]; simp
theorem rowsB_bare {f : Font} {W : Int} {rs : List (List Nat)} (h : rowsB (bareF f) W rs) (hn : 32 ∉ joinL [32] rs) : rowsB f W rs := by
  refine ⟨h.ne, fun r m => ?_, fun k a b h1 h2 => ?_⟩
  · rw [← wdF_bare (fun z => hn (joinL_has m 32 z))]
    exact h.fits r m
  · exact absurd (joinL_two 32 rs (by have := (List.getElem?_eq_some_iff.mp h2).1; omega)) hn
end DL

set_option Elab.async false
set_option linter.all false
set_option maxRecDepth 100000
set_option maxHeartbeats 1000000
/-! M2D: spots apart, half of them turned. -/
namespace DL
open PySem L2 PyProof.Rows
def bitC (xs : List Nat) (c : Nat × Nat) : Bool := (xs[c.1]?.getD 0).testBit c.2
def cellsN (n h : Nat) : List (Nat × Nat) := (List.range n).flatMap fun x => (List.range h).map fun y => (x, y)
def rowU (h : Nat) (xs ys : List Nat) (x : Nat) : List (Nat × Nat) := ((List.range h).filter fun y => bitC xs (x, y) != bitC ys (x, y)).map fun y => (x, y)
def unlikeN (h : Nat) (xs ys : List Nat) : List (Nat × Nat) := (List.range xs.length).flatMap (rowU h xs ys)
theorem unlike_filter (h : Nat) (xs ys : List Nat) : unlikeN h xs ys = (cellsN xs.length h).filter fun c => bitC xs c != bitC ys c := by
  unfold unlikeN cellsN
  rw [List.filter_flatMap]
  congr 1
  funext x
  unfold rowU
  rw [List.filter_map]
  rfl
theorem cells_mem {n h : Nat} {c : Nat × Nat} : c ∈ cellsN n h ↔ c.1 < n ∧ c.2 < h := by
  unfold cellsN
  simp only [List.mem_flatMap, List.mem_range, List.mem_map]
  constructor
  · rintro ⟨x, hx, y, hy, rfl⟩
    exact ⟨hx, hy⟩
  · rintro ⟨h1, h2⟩
    exact ⟨c.1, h1, c.2, h2, rfl⟩
theorem cells_nodup (n h : Nat) : (cellsN n h).Nodup := by
  unfold cellsN
  induction n with
  | zero => simp
  | succ n ih =>
    rw [List.range_succ, List.flatMap_append]
    refine List.nodup_append.mpr ⟨ih, ?_, ?_⟩
    · simp only [List.flatMap_cons, List.flatMap_nil, List.append_nil]
      exact List.pairwise_map.mpr (List.nodup_range.imp fun hab e => hab (by simpa using e))
    · intro a ma b mb e
      subst e
      simp only [List.mem_flatMap, List.mem_range, List.mem_map, List.flatMap_cons, List.flatMap_nil, List.append_nil] at ma mb
      obtain ⟨x, hx, y, _, rfl⟩ := ma
      obtain ⟨y2, _, e2⟩ := mb
      simp only [Prod.mk.injEq] at e2
      omega
theorem sub_filter : ∀ {L U : List (Nat × Nat)}, L.Sublist U → U.Nodup → U.filter (fun c => decide (c ∈ L)) = L
  | _, _, .slnil, _ => rfl
  | L, _, .cons a s, nd => by
    obtain ⟨na, nd⟩ := List.nodup_cons.mp nd
    rw [List.filter_cons_of_neg (by simpa using fun m => na (s.mem m))]
    exact sub_filter s nd
  | _, _, .cons₂ (l₁ := L) (l₂ := U) a s, nd => by
    obtain ⟨na, nd⟩ := List.nodup_cons.mp nd
    rw [List.filter_cons_of_pos (by simp)]
    congr 1
    refine (List.filter_congr fun c m => ?_).trans (sub_filter s nd)
    have : c ≠ a := fun e => na (e ▸ m)
    simp [this]
def zP (p : Nat × Nat) : Int × Int := ((p.1 : Int), (p.2 : Int))
theorem pL_zP (ps : List (Nat × Nat)) : pL ps = zL (ps.map zP) := by
  unfold pL zL
  rw [List.map_map]; rfl
theorem turn1_bit {xs : List Nat} {p c : Nat × Nat} (hp : p.1 < xs.length) : bitC (turn1 xs (zP p)) c = (bitC xs c ^^ decide (c = p)) := by
  unfold bitC turn1 zP
  simp only [Int.toNat_natCast]
  by_cases e : c.1 = p.1
  · rw [e, List.getElem?_set_self (by omega)]
    simp only [Option.getD_some, Nat.testBit_xor, Nat.testBit_two_pow]
    congr 1
    refine decide_eq_decide.mpr ⟨fun q => Prod.ext e q.symm, fun q => by rw [q]⟩
  · rw [List.getElem?_set_ne (fun z => e z.symm)]
    have : c ≠ p := fun q => e (by rw [q])
    simp [this]
theorem turnN_bit : ∀ {ps : List (Nat × Nat)} {xs : List Nat} (c : Nat × Nat), ps.Nodup → (∀ p ∈ ps, p.1 < xs.length) → bitC (turnN xs (ps.map zP)) c = (bitC xs c ^^ decide (c ∈ ps))
  | [], xs, c, _, _ => by simp [turnN]
  | p :: r, xs, c, nd, h => by
    obtain ⟨np, nd⟩ := List.nodup_cons.mp nd
    show bitC (turnN (turn1 xs (zP p)) (r.map zP)) c = _
    rw [turnN_bit c nd (fun q m => by rw [turn1_len]; exact h q (List.mem_cons_of_mem _ m)), turn1_bit (h p List.mem_cons_self)]
    by_cases e : c = p
    · subst e
      simp [np]
    · simp [e]
theorem unlike_sub (h : Nat) (xs ys : List Nat) : (unlikeN h xs ys).Sublist (cellsN xs.length h) := by rw [unlike_filter]; exact List.filter_sublist
theorem unlike_nodup (h : Nat) (xs ys : List Nat) : (unlikeN h xs ys).Nodup := (unlike_sub h xs ys).nodup (cells_nodup _ _)
theorem unlike_mem {h : Nat} {xs ys : List Nat} {c : Nat × Nat} : c ∈ unlikeN h xs ys ↔ (c.1 < xs.length ∧ c.2 < h) ∧ bitC xs c ≠ bitC ys c := by
  rw [unlike_filter, List.mem_filter, cells_mem]
  simp
/-- half the way -/
def midN (h : Nat) (xs ys : List Nat) (m : Nat) : List Nat := turnN xs (((unlikeN h xs ys).take m).map zP)
theorem mid_bit {h : Nat} {xs ys : List Nat} (m : Nat) (c : Nat × Nat) : bitC (midN h xs ys m) c = (bitC xs c ^^ decide (c ∈ (unlikeN h xs ys).take m)) :=
  turnN_bit c ((unlike_nodup h xs ys).sublist (List.take_sublist _ _)) fun p mp => (unlike_mem.mp (List.mem_of_mem_take mp)).1.1
theorem mid_first {h : Nat} {xs ys : List Nat} (m : Nat) : unlikeN h xs (midN h xs ys m) = (unlikeN h xs ys).take m := by
  rw [unlike_filter]
  refine (List.filter_congr fun c mc => ?_).trans (sub_filter ((List.take_sublist m _).trans (unlike_sub h xs ys)) (cells_nodup _ _))
  rw [mid_bit]
  cases bitC xs c <;> simp
theorem mid_last {h : Nat} {xs ys : List Nat} (hl : xs.length = ys.length) (m : Nat) : unlikeN h (midN h xs ys m) ys = (unlikeN h xs ys).drop m := by
  rw [unlike_filter, show (midN h xs ys m).length = xs.length from turnN_len _ _]
  refine (List.filter_congr fun c mc => ?_).trans (sub_filter ((List.drop_sublist m _).trans (unlike_sub h xs ys)) (cells_nodup _ _))
  rw [mid_bit]
  have nd := unlike_nodup h xs ys
  rw [← List.take_append_drop m (unlikeN h xs ys)] at nd
  have hd := (List.nodup_append.mp nd).2.2
  have hS : (c ∈ (unlikeN h xs ys).take m ∨ c ∈ (unlikeN h xs ys).drop m) ↔ bitC xs c ≠ bitC ys c := by
    rw [← List.mem_append, List.take_append_drop, unlike_mem]
    exact ⟨fun q => q.2, fun q => ⟨cells_mem.mp mc, q⟩⟩
  by_cases h1 : c ∈ (unlikeN h xs ys).take m
  · have h2 : c ∉ (unlikeN h xs ys).drop m := fun q => hd c h1 c q rfl
    have h3 := hS.mp (.inl h1)
    rw [decide_eq_true h1, decide_eq_false h2]
    revert h3
    cases bitC xs c <;> cases bitC ys c <;> simp
  · by_cases h2 : c ∈ (unlikeN h xs ys).drop m
    · have h3 := hS.mp (.inr h2)
      rw [decide_eq_false h1, decide_eq_true h2]
      revert h3
      cases bitC xs c <;> cases bitC ys c <;> simp
    · have h3 : ¬ bitC xs c ≠ bitC ys c := fun q => (hS.mpr q).elim h1 h2
      rw [decide_eq_false h1, decide_eq_false h2]
      revert h3
      cases bitC xs c <;> cases bitC ys c <;> simp
theorem spots_take {h : Nat} {xs ys : List Nat} (hl : xs.length = ys.length) (hx : ∀ x ∈ xs, x < 2 ^ h) (hy : ∀ y ∈ ys, y < 2 ^ h) : ∀ k, k ≤ xs.length → spotsN 0 (xs.take k) (ys.take k) = (List.range k).flatMap (rowU h xs ys)
  | 0, _ => by simp [spotsN]
  | k + 1, hk => by
    have ex : xs[k]? = some xs[k] := List.getElem?_eq_getElem (by omega)
    have ey : ys[k]? = some ys[k] := List.getElem?_eq_getElem (by omega)
    rw [take_succ ex, take_succ ey, spotsN_snoc _ _ _ (by simp; omega), spots_take hl hx hy k (by omega), List.range_succ, List.flatMap_append]
    congr 1
    simp only [List.flatMap_cons, List.flatMap_nil, List.append_nil]
    have hlt : xs[k] ^^^ ys[k] < 2 ^ h := Nat.xor_lt_two_pow (hx _ (List.getElem_mem _)) (hy _ (List.getElem_mem _))
    rw [linesN_range h _ 0 hlt, List.length_take, Nat.min_eq_left (by omega), Nat.zero_add]
    unfold rowU
    simp only [Nat.add_zero, List.map_id']
    congr 1
    refine List.filter_congr fun y _ => ?_
    unfold bitC
    simp only [ex, ey, Option.getD_some]
    rw [show bitAt (xs[k] ^^^ ys[k]) y = (xs[k] ^^^ ys[k]).testBit y from (testBit_at _ _).symm, Nat.testBit_xor]
theorem spots_unlike {h : Nat} {xs ys : List Nat} (hl : xs.length = ys.length) (hx : ∀ x ∈ xs, x < 2 ^ h) (hy : ∀ y ∈ ys, y < 2 ^ h) : spotsN 0 xs ys = unlikeN h xs ys := by
  have := spots_take hl hx hy xs.length (Nat.le_refl _)
  rw [List.take_length, show ys.take xs.length = ys from by rw [hl, List.take_length]] at this
  exact this
theorem rowU_len (h : Nat) (xs ys : List Nat) (x : Nat) : (rowU h xs ys x).length ≤ h := by
  unfold rowU
  rw [List.length_map]
  exact Nat.le_trans (List.length_filter_le _ _) (by rw [List.length_range]; exact Nat.le_refl _)
theorem rows_len (h : Nat) (xs ys : List Nat) : ∀ d, ((List.range d).flatMap (rowU h xs ys)).length ≤ d * h
  | 0 => by simp
  | d + 1 => by
    rw [List.range_succ, List.flatMap_append, List.length_append, Nat.succ_mul]
    simp only [List.flatMap_cons, List.flatMap_nil, List.append_nil]
    exact Nat.add_le_add (rows_len h xs ys d) (rowU_len h xs ys d)
theorem bitC_at {xs : List Nat} {d e : Nat} (hd : d < xs.length) : bitC xs (d, e) = decide (xs[d] / 2 ^ e % 2 = 1) := by
  unfold bitC
  simp only [List.getElem?_eq_getElem hd, Option.getD_some]
  exact testBit_at _ _
theorem joinOne (t : List Nat) : Txt.join (tS []) (t.map fun s => tS [s]) = tS t := by
  have := tS_join [] (t.map fun s => [s])
  rw [List.map_map] at this
  rw [show (t.map fun s => tS [s]) = t.map (tS ∘ fun s => [s]) from rfl, this, joinL_ones (fun s => s), List.map_id']
theorem ones_sum (t : List Nat) : ((t.map fun s => tS [s]).map fun x : Str => x.length).sum = t.length := by
  induction t with
  | nil => rfl
  | cons x r ih => rw [List.map_cons, List.map_cons, List.sum_cons, ih, List.length_cons, tS_len]; simp; omega
theorem tS_size (t : List Nat) : (tS t).cps.size = t.length := by rw [← Array.length_toList, tS_cps]
theorem sh_pairs (ps : List (Nat × Nat)) : Sh 2 (.list (pL ps)) := sh_list fun d m => by
  obtain ⟨p, _, rfl⟩ := List.mem_map.mp m
  exact sh_tuple fun x mx => by
    simp only [List.mem_cons, List.not_mem_nil, or_false] at mx
    rcases mx with rfl | rfl
    · exact sh_int 0 _
    · exact sh_int 0 _
end DL

namespace DL.L
open PySem L2 PyProof.Rows
def top (i : Nat) : Stmt := PySem.Challenge.pw_blotsure_k61_halfway.main.body.getD i (.Pass ⟨0, 0, 0, 0⟩)
local macro_rules | `(tactic| walk_at "x") => `(tactic| fail)
local macro_rules | `(tactic| walk_at "sh") => `(tactic| repeat (first | exact sh_int _ _ | exact sh_bool _ _ | exact sh_none _ | assumption | exact (sh_nL _).mono (by decide) | exact okT.sh (by assumption) _ | exact (sh_iL _).mono (by decide) | refine sh_list ?_ | refine sh_tuple ?_ | refine (List.forall_mem_cons).mpr (And.intro ?_ ?_) | exact List.forall_mem_nil _ | refine List.forall_mem_map.mpr ?_ | intro _))
local macro_rules | `(tactic| walk_at "s") => `(tactic| (with_reducible refine wSq_of ?_))
local macro_rules | `(tactic| walk_at "e") => `(tactic| simp only [wLet, wAsg, wRet, wRetN, wAug, wApp, wExt, wIns, wExp, wPass, wBrk, wCnt, wFrz, wIf, wRaise, wNil, wVar, wC, w2, bI_int, wtv, c2, cEq, cNe, cEqS, isN, wChain, wtAnd, wtOr, wtNot, wAndV, wOrV, wNotV, wIfE, wTru, wIx, ixR_v, ixR_t, ixR_bl, ixR_bd, ixR_bls, wSl, woN, woE, wRev, wNeg, waN, waC, wTup, wLst, wDic0, wB, f1_one, f1s_one, f2_two, wIsi, isiB, wCall, wiL, wiLB, wiT, wiA, wiAB, walkA_l, walkA_t, walkA_s, walkA_n, walkAB_l, walkAB_t, walkAB_s, walkAB_n, walkAB_b, oR_f, oR_l, oR_d, oR_ls, wiR1, wiR2, Int.toNat_natCast, rgD_0, bxor_nat, bor_nat, shl_nat, shr_nat, shl_nat2, shr_nat2, band1_nat, atI_c0, atI_c1, atI_c2, atI_c3, atI_c4, atI_snoc, atI_msnoc, List.length_map, Int.reduceAdd, Int.reduceSub, Int.reduceMul, Int.reduceDiv, Int.reduceMod, Int.reduceNeg, Int.reduceToNat, Nat.reduceAdd, Nat.reduceSub, Nat.reduceMul, nL_snoc, nL_set, okEq_nL, eqv_nL, okEq_iL, eqv_iL, okEq_nL0, eqv_nilL, eqv_nilT, isEmpty_map, true_imp_iff, false_imp_iff, ne_eq, not_true_eq_false, not_false_eq_true, nL_iff, iL_iff, zL_iff, pL_iff, sL_iff, sL_snoc, nat_iff, gN, gT_t, gsC_c, gsN_n, R.d_v, R.d_t, R.d_b, decide_true, decide_false, Bool.not_eq_true, R.sh_v, R.sh_t, R.sh_bf, R.sh_bl, R.sh_bd, R.st_v, R.st_t, R.o_v, R.o_t, R.out_v, R.out_t, R.out_b, R.free_v, R.free_t, noL_int, noL_str, noL_bool, noL_none, noL_tuple, noLs_nil, noLs_cons, Bool.and_self, Bool.and_true, O.frz_fro, O.frz_lst, O.frz_dic, O.frz_lsts, allSt_nil, allSt_cons, isLst_lst, isLst_lsts, appO_lst, appO_lsts, eqv_int, eqv_str, eqv_bool, eqv_none, okEq_int, okEq_str, okEq_bool, startD, List.map_cons, List.map_nil, List.length_cons, List.length_nil, List.nil_append, List.cons_append, List.append_nil, List.getElem?_cons_zero, List.getElem?_cons_succ, List.set_cons_zero, List.set_cons_succ, List.replicate, List.foldl_cons, List.foldl_nil, frzAt, wLook, R.lean_v, R.lean_t, R.lean_ts, O.leanL_lst, O.leanL_fro, true_and, and_true, true_or, or_true, false_or, Bool.false_eq_true, if_true, if_false, ite_true, ite_false, PyData.int.injEq, PyData.str.injEq, PyData.bool.injEq, PyData.list.injEq, PyData.tuple.injEq, exists_eq_left, exists_eq_left', exists_eq', decide_eq_true_eq, Option.some.injEq, O.fro.injEq, O.lst.injEq, O.lsts.injEq, exists_and_left, exists_const, wipeE, seqD_list, seqD_tuple, enD_rt, enD_nx, enD_ex, enD_bk, enD_ct, List.set_nil, wipeE, wLc_eq, wFor_eq, Bool.not_true, Bool.not_false, reduceIte, bAdd_i, bAdd_s, bAdd_l, bAdd_t, lenD_s, lenD_l, lenD_t, lenD_d, min2D_i, min2D_s, max2D_i, sumD_l, maxD_l, minD_l, allD_l, anyD_l, ordD_s, strD_i, intD_i, intD_b, intD_s, listD_l, listD_t, tupleD_l, tupleD_t, slD_l, slD_t, slD_s, ixD_l, ixD_t, ixD_s, ixD_d, cI_i, cI_s, cI_t, cI0_i, cI0_s, cIs_n, cIsNot_n, cIn_l, cIn_t, cIn_d, cIn_s, tru_n, tru_b, tru_i, tru_s, tru_l, tru_t, ← List.map_take, ← List.map_drop, ← List.map_append, ← List.map_reverse, cut_toL, cut_fromL, cut_inL, cut_to, cut_from, cut_in, cut_all, cut_front, setL_cons, setL_nil, flatD_int, flatD_str, flatD_bool, flatD_none, bne_self_eq_false, Bool.false_bne, Bool.true_bne, wiZip, zipR_l, zipR_t, zipD_map, wiEnum, wiEnumT, wiEnumS, wiRev, wiR3, wiS, wSt, stO_lst, stO_lsts, stO_dic, isMut_lst, isMut_lsts, isMut_dic, wMulA, bMul_i, bMul_l, bMul_s, repS_tS, wMe, fJoin_1, fSplit_1, fRstrip_1, fFind_1, wGet2, getD, wUnp, wPar, wPop, wTry, wTryO, wTryM, wClauses, endN, end0, wIsE, PyData.dict.injEq, O.dic.injEq, O.raw.injEq, keyD, and_self, List.concat_eq_append, wLcO_eq, sortedE_l, sortedE_d, sortedD_d, dictD_l, dictD_t, divmodD_i, wApp2, wSt2, wDic, wpN, wpC, flat_nL, flat_iL, wRevA, wLRev, revD_l, revD_s, revS_tS, wLcE_eq, wLcOE_eq, wLookT, wJoinRev, listS_s, wLcK_eq, flatR_l, wCallT, tlst_iff, R.t.injEq])
local macro_rules | `(tactic| walk_at "c") => `(tactic| first | exact mul_by (by decide) | exact mul_of (by decide) | exact cpow_ok (by omega) (by omega) (by first | decide | omega) | exact cdiv_ok (by omega) (by decide +kernel) | exact cdiv_int (by omega) (by omega) | (with_reducible decide) | (with_reducible omega) | (rw [sizeLine_eq]; (try simp only [List.length_map, List.length_append, List.length_cons, List.length_nil, List.length_range, List.length_take, List.length_drop, List.length_reverse, List.length_set]); with_reducible omega) | (with_reducible assumption) | exact pow_pos_go _ | exact mul_by (by omega) | exact mul_of (by omega))
local macro_rules | `(tactic| walk_at "g") => `(tactic| repeat (first | (with_reducible refine wSq_of ?_) | simp only [wLet, wAsg, wRet, wRetN, wAug, wApp, wExt, wIns, wExp, wPass, wBrk, wCnt, wFrz, wIf, wRaise, wNil, wVar, wC, w2, bI_int, wtv, c2, cEq, cNe, cEqS, isN, wChain, wtAnd, wtOr, wtNot, wAndV, wOrV, wNotV, wIfE, wTru, wIx, ixR_v, ixR_t, ixR_bl, ixR_bd, ixR_bls, wSl, woN, woE, wRev, wNeg, waN, waC, wTup, wLst, wDic0, wB, f1_one, f1s_one, f2_two, wIsi, isiB, wCall, wiL, wiLB, wiT, wiA, wiAB, walkA_l, walkA_t, walkA_s, walkA_n, walkAB_l, walkAB_t, walkAB_s, walkAB_n, walkAB_b, oR_f, oR_l, oR_d, oR_ls, wiR1, wiR2, Int.toNat_natCast, rgD_0, bxor_nat, bor_nat, shl_nat, shr_nat, shl_nat2, shr_nat2, band1_nat, atI_c0, atI_c1, atI_c2, atI_c3, atI_c4, atI_snoc, atI_msnoc, List.length_map, Int.reduceAdd, Int.reduceSub, Int.reduceMul, Int.reduceDiv, Int.reduceMod, Int.reduceNeg, Int.reduceToNat, Nat.reduceAdd, Nat.reduceSub, Nat.reduceMul, nL_snoc, nL_set, okEq_nL, eqv_nL, okEq_iL, eqv_iL, okEq_nL0, eqv_nilL, eqv_nilT, isEmpty_map, true_imp_iff, false_imp_iff, ne_eq, not_true_eq_false, not_false_eq_true, nL_iff, iL_iff, zL_iff, pL_iff, sL_iff, sL_snoc, nat_iff, gN, gT_t, gsC_c, gsN_n, R.d_v, R.d_t, R.d_b, decide_true, decide_false, Bool.not_eq_true, R.sh_v, R.sh_t, R.sh_bf, R.sh_bl, R.sh_bd, R.st_v, R.st_t, R.o_v, R.o_t, R.out_v, R.out_t, R.out_b, R.free_v, R.free_t, noL_int, noL_str, noL_bool, noL_none, noL_tuple, noLs_nil, noLs_cons, Bool.and_self, Bool.and_true, O.frz_fro, O.frz_lst, O.frz_dic, O.frz_lsts, allSt_nil, allSt_cons, isLst_lst, isLst_lsts, appO_lst, appO_lsts, eqv_int, eqv_str, eqv_bool, eqv_none, okEq_int, okEq_str, okEq_bool, startD, List.map_cons, List.map_nil, List.length_cons, List.length_nil, List.nil_append, List.cons_append, List.append_nil, List.getElem?_cons_zero, List.getElem?_cons_succ, List.set_cons_zero, List.set_cons_succ, List.replicate, List.foldl_cons, List.foldl_nil, frzAt, wLook, R.lean_v, R.lean_t, R.lean_ts, O.leanL_lst, O.leanL_fro, true_and, and_true, true_or, or_true, false_or, Bool.false_eq_true, if_true, if_false, ite_true, ite_false, PyData.int.injEq, PyData.str.injEq, PyData.bool.injEq, PyData.list.injEq, PyData.tuple.injEq, exists_eq_left, exists_eq_left', exists_eq', decide_eq_true_eq, Option.some.injEq, O.fro.injEq, O.lst.injEq, O.lsts.injEq, exists_and_left, exists_const, wipeE, seqD_list, seqD_tuple, enD_rt, enD_nx, enD_ex, enD_bk, enD_ct, List.set_nil, wipeE, wLc_eq, wFor_eq, Bool.not_true, Bool.not_false, reduceIte, bAdd_i, bAdd_s, bAdd_l, bAdd_t, lenD_s, lenD_l, lenD_t, lenD_d, min2D_i, min2D_s, max2D_i, sumD_l, maxD_l, minD_l, allD_l, anyD_l, ordD_s, strD_i, intD_i, intD_b, intD_s, listD_l, listD_t, tupleD_l, tupleD_t, slD_l, slD_t, slD_s, ixD_l, ixD_t, ixD_s, ixD_d, cI_i, cI_s, cI_t, cI0_i, cI0_s, cIs_n, cIsNot_n, cIn_l, cIn_t, cIn_d, cIn_s, tru_n, tru_b, tru_i, tru_s, tru_l, tru_t, ← List.map_take, ← List.map_drop, ← List.map_append, ← List.map_reverse, cut_toL, cut_fromL, cut_inL, cut_to, cut_from, cut_in, cut_all, cut_front, setL_cons, setL_nil, flatD_int, flatD_str, flatD_bool, flatD_none, bne_self_eq_false, Bool.false_bne, Bool.true_bne, wiZip, zipR_l, zipR_t, zipD_map, wiEnum, wiEnumT, wiEnumS, wiRev, wiR3, wiS, wSt, stO_lst, stO_lsts, stO_dic, isMut_lst, isMut_lsts, isMut_dic, wMulA, bMul_i, bMul_l, bMul_s, repS_tS, wMe, fJoin_1, fSplit_1, fRstrip_1, fFind_1, wGet2, getD, wUnp, wPar, wPop, wTry, wTryO, wTryM, wClauses, endN, end0, wIsE, PyData.dict.injEq, O.dic.injEq, O.raw.injEq, keyD, and_self, List.concat_eq_append, wLcO_eq, sortedE_l, sortedE_d, sortedD_d, dictD_l, dictD_t, divmodD_i, wApp2, wSt2, wDic, wpN, wpC, flat_nL, flat_iL, wRevA, wLRev, revD_l, revD_s, revS_tS, wLcE_eq, wLcOE_eq, wLookT, wJoinRev, listS_s, wLcK_eq, flatR_l, wCallT, tlst_iff, R.t.injEq] | walk_at "x" | (with_reducible refine And.intro (by walk_at "c") ?_)))
local macro_rules | `(tactic| walk_at "h") => `(tactic| repeat (first | (with_reducible refine wSq_of ?_) | simp only [wLet, wAsg, wRet, wRetN, wAug, wApp, wExt, wIns, wExp, wPass, wBrk, wCnt, wFrz, wIf, wRaise, wNil, wVar, wC, w2, bI_int, wtv, c2, cEq, cNe, cEqS, isN, wChain, wtAnd, wtOr, wtNot, wAndV, wOrV, wNotV, wIfE, wTru, wIx, ixR_v, ixR_t, ixR_bl, ixR_bd, ixR_bls, wSl, woN, woE, wRev, wNeg, waN, waC, wTup, wLst, wDic0, wB, f1_one, f1s_one, f2_two, wIsi, isiB, wCall, wiL, wiLB, wiT, wiA, wiAB, walkA_l, walkA_t, walkA_s, walkA_n, walkAB_l, walkAB_t, walkAB_s, walkAB_n, walkAB_b, oR_f, oR_l, oR_d, oR_ls, wiR1, wiR2, Int.toNat_natCast, rgD_0, bxor_nat, bor_nat, shl_nat, shr_nat, shl_nat2, shr_nat2, band1_nat, atI_c0, atI_c1, atI_c2, atI_c3, atI_c4, atI_snoc, atI_msnoc, List.length_map, Int.reduceAdd, Int.reduceSub, Int.reduceMul, Int.reduceDiv, Int.reduceMod, Int.reduceNeg, Int.reduceToNat, Nat.reduceAdd, Nat.reduceSub, Nat.reduceMul, nL_snoc, nL_set, okEq_nL, eqv_nL, okEq_iL, eqv_iL, okEq_nL0, eqv_nilL, eqv_nilT, isEmpty_map, true_imp_iff, false_imp_iff, ne_eq, not_true_eq_false, not_false_eq_true, nL_iff, iL_iff, zL_iff, pL_iff, sL_iff, sL_snoc, nat_iff, tS_len, tS_app, tS_iff, tS_sg, tS_cut, tS_one, ite_and2, ite_or2, List.cons.injEq, tL_iff, tL_snoc, tL_set, cps_getD, lt_tS, tS_in, tS_in', tS_cps, eqv_tL, lit_iff, zL_snoc, pL_snoc, gN, gT_t, gsC_c, gsN_n, R.d_v, R.d_t, R.d_b, decide_true, decide_false, Bool.not_eq_true, R.sh_v, R.sh_t, R.sh_bf, R.sh_bl, R.sh_bd, R.st_v, R.st_t, R.o_v, R.o_t, R.out_v, R.out_t, R.out_b, R.free_v, R.free_t, noL_int, noL_str, noL_bool, noL_none, noL_tuple, noLs_nil, noLs_cons, Bool.and_self, Bool.and_true, O.frz_fro, O.frz_lst, O.frz_dic, O.frz_lsts, allSt_nil, allSt_cons, isLst_lst, isLst_lsts, appO_lst, appO_lsts, eqv_int, eqv_str, eqv_bool, eqv_none, okEq_int, okEq_str, okEq_bool, startD, List.map_cons, List.map_nil, List.length_cons, List.length_nil, List.nil_append, List.cons_append, List.append_nil, List.getElem?_cons_zero, List.getElem?_cons_succ, List.set_cons_zero, List.set_cons_succ, List.replicate, List.foldl_cons, List.foldl_nil, frzAt, wLook, R.lean_v, R.lean_t, R.lean_ts, O.leanL_lst, O.leanL_fro, true_and, and_true, true_or, or_true, false_or, Bool.false_eq_true, if_true, if_false, ite_true, ite_false, PyData.int.injEq, PyData.str.injEq, PyData.bool.injEq, PyData.list.injEq, PyData.tuple.injEq, exists_eq_left, exists_eq_left', exists_eq', decide_eq_true_eq, Option.some.injEq, O.fro.injEq, O.lst.injEq, O.lsts.injEq, exists_and_left, exists_const, wipeE, seqD_list, seqD_tuple, enD_rt, enD_nx, enD_ex, enD_bk, enD_ct, List.set_nil, wipeE, wLc_eq, wFor_eq, Bool.not_true, Bool.not_false, reduceIte, bAdd_i, bAdd_s, bAdd_l, bAdd_t, lenD_s, lenD_l, lenD_t, lenD_d, min2D_i, min2D_s, max2D_i, sumD_l, maxD_l, minD_l, allD_l, anyD_l, ordD_s, strD_i, intD_i, intD_b, intD_s, listD_l, listD_t, tupleD_l, tupleD_t, slD_l, slD_t, slD_s, ixD_l, ixD_t, ixD_s, ixD_d, cI_i, cI_s, cI_t, cI0_i, cI0_s, cIs_n, cIsNot_n, cIn_l, cIn_t, cIn_d, cIn_s, tru_n, tru_b, tru_i, tru_s, tru_l, tru_t, ← List.map_take, ← List.map_drop, ← List.map_append, ← List.map_reverse, cut_toL, cut_fromL, cut_inL, cut_to, cut_from, cut_in, cut_all, cut_front, setL_cons, setL_nil, flatD_int, flatD_str, flatD_bool, flatD_none, bne_self_eq_false, Bool.false_bne, Bool.true_bne, wiZip, zipR_l, zipR_t, zipD_map, wiEnum, wiEnumT, wiEnumS, wiRev, wiR3, wiS, wSt, stO_lst, stO_lsts, stO_dic, isMut_lst, isMut_lsts, isMut_dic, wMulA, bMul_i, bMul_l, bMul_s, repS_tS, wMe, fJoin_1, fSplit_1, fRstrip_1, fFind_1, wGet2, getD, wUnp, wPar, wPop, wTry, wTryO, wTryM, wClauses, endN, end0, wIsE, PyData.dict.injEq, O.dic.injEq, O.raw.injEq, keyD, and_self, List.concat_eq_append, wLcO_eq, sortedE_l, sortedE_d, sortedD_d, dictD_l, dictD_t, divmodD_i, wApp2, wSt2, wDic, wpN, wpC, flat_nL, flat_iL, wRevA, wLRev, revD_l, revD_s, revS_tS, wLcE_eq, wLcOE_eq, wLookT, wJoinRev, listS_s, wLcK_eq, flatR_l, wCallT, tlst_iff, R.t.injEq] | walk_at "x" | (with_reducible refine And.intro (by walk_at "c") ?_)))

def exNs : List Str := ["BlotError", "NotAlike", "OffStrip", "NoSign"]
/-! lines_of -/
--uses MB
def f_lines_of : D → (R → Prop) → (Str → Prop) → Prop := fun a Q E => ∃ n : Nat, a = .int n ∧ n < 2 ^ 1000 ∧ Q (.t (.lst (nL (linesN n 0))))
def S_lines_of : Spec := sp1 f_lines_of
theorem e_lines_of (x0 : D) (Q : R → Prop) (E : Str → Prop) : S_lines_of [x0] Q E = f_lines_of x0 Q E := rfl
abbrev st_lines_of : Stmt := top 1
def m_lines_of : WS := (wSq (wAsg 1 (wLst waN)) (wSq (wLet 2 (wC (.int 0))) (wSq (wWhile (c2 cGt (wVar 0) (wC (.int 0))) (wSqM (wIf (c2 cEq (wAnd (wVar 0) (wC (.int 1))) (wC (.int 1))) (wApp 1 (wVar 2)) wNil) (wSq (wLet 0 (wShr (wVar 0) (wC (.int 1)))) (wAug 2 (wC (.int 1)))))) (wRet (wVar 1)))))
theorem sc_lines_of : FnScope ["column", "found", "line"] ["column"] (defScope st_lines_of) := ⟨rfl, rfl, rfl, by decide +kernel, rfl, by decide +kernel, by decide +kernel⟩
theorem d_lines_of {P : Program} {w : World} {K : K0} {mg : Str → Option Value} {base : Heap} (T : Gb mg) {f : Addr} (cdv : Value) (A : Around) (outer : List PySem.Env) (s : Shared) (H : Hp) (E : XK) (G : Hp) (hr : Room 0 (A.deeper (envOfC "lines_of" (defScope st_lines_of) s.heap.objs.size f cdv)))
    (tk : Takes (XB P w K mg base ["column", "found", "line"] "lines_of" (defScope st_lines_of) f cdv A outer s H E) (fun cls d _ H => E cls d H)) (hp : PassesOwn (model P w) (XB P w K mg base ["column", "found", "line"] "lines_of" (defScope st_lines_of) f cdv A outer s H E).A (XB P w K mg base ["column", "found", "line"] "lines_of" (defScope st_lines_of) f cdv A outer s H E).env (XB P w K mg base ["column", "found", "line"] "lines_of" (defScope st_lines_of) f cdv A outer s H E).xe) :
    DSs (XB P w K mg base ["column", "found", "line"] "lines_of" (defScope st_lines_of) f cdv A outer s H E) (fun cls d _ H => E cls d H) G (defBody st_lines_of) m_lines_of :=
  (dss_cons (ds_set (i := 1) sc_lines_of.nd rfl (by first | exact Or.inl rfl | exact Or.inr rfl) (de_lst da_nil) (by rfl) (by first | exact Or.inl rfl | exact Or.inr rfl)) (dss_cons (ds_let (i := 2) sc_lines_of.nd rfl (by first | exact Or.inl rfl | exact Or.inr rfl) (de_c pe_int rfl) (by rfl) (by first | exact Or.inl rfl | exact Or.inr rfl)) (dss_cons (ds_while hp (dt_cmp opGtD (de_var 0 (pv 0)) (de_c pe_int rfl) (nomark _)) (dss_cons (ds_if (dt_cmp (opEqD hr.units) (de_and (de_var 0 (pv 0)) (de_c pe_int rfl)) (de_c pe_int rfl) (nomark _)) (dss_one (ds_app (i := 1) (pv 1) (de_var 2 (pv 2)) (by rfl) (by rfl) (by rfl) (by rfl) (by rfl) (by rfl))) dss_nil) (dss_cons (ds_let (i := 0) sc_lines_of.nd rfl (by first | exact Or.inl rfl | exact Or.inr rfl) (de_shr (de_var 0 (pv 0)) (de_c pe_int rfl)) (by rfl) (by first | exact Or.inl rfl | exact Or.inr rfl)) (dss_one (ds_aug (i := 2) sc_lines_of.nd rfl (by first | exact Or.inl rfl | exact Or.inr rfl) (de_c pe_int rfl) (by first | exact Or.inl rfl | exact Or.inr rfl)))))) (dss_one (ds_ret (de_var 1 (pv 1)))))))
theorem l_lines_of : ∀ ds Q E, S_lines_of ds Q E → ds.length = 1 := sp1_len rfl
local macro_rules | `(tactic| walk_at "x") => `(tactic| simp only [ltL_iff, pair_iff, colsD_tS, kD_inr, kD_inl, entD_n, entD_s, enI_n, enI_s, enI_iff, encM_eq, rowO_frz, paperO_frz, ent_iff, entl_iff, paper_iff, oD_n, oD_s, nats_nL, oL_snoc, oL_len, oL_take, oL_drop, drs_snoc, lts_snoc, nearD_n, nearD_s, near_iff, wholeB_int, sortedF_s, oDs_frz, wyD_eq])
theorem w_lines_of : ∀ ds Q E, S_lines_of ds Q E → m_lines_of (enD Q E) (startD ["column", "found", "line"] ds) := sp1_w fun a Q E ⟨n, ea, hn, hq⟩ => by
  subst ea
  unfold m_lines_of startD
  walk_at "g"
  have hp := popN_le 1000 n hn
  refine while_go (fun x : Nat × List Nat × Nat => [some (.fro (.int (x.1 : Int))), some (.lst (nL x.2.1)), some (.fro (.int (x.2.2 : Int)))]) (fun x => x.2.1 ++ linesN x.1 x.2.2 = linesN n 0 ∧ x.2.1.length + popN x.1 = popN n) (fun x => x.1) (n, [], 0) rfl ⟨rfl, by simp⟩ ?_
  rintro ⟨m, acc, k⟩ ⟨hI, hL⟩
  simp only at hI hL
  walk_at "g"
  refine ite_i (fun hm => ?_) fun hm => ?_
  · have hm : 0 < m := by omega
    have e := linesN_step hm k
    have e2 := popN_step m
    have e4 : (m : Int) / 2 ^ (1 : Int).toNat = ((m / 2 : Nat) : Int) := by
      rw [show (1 : Int).toNat = 1 from rfl, Int.pow_succ, Int.pow_zero]; omega
    walk_at "g"
    refine wSqM_of ?_
    walk_at "g"
    refine ite_i (fun h1 => ?_) fun h1 => ?_
    · have h1 : m % 2 = 1 := by omega
      rw [if_pos h1] at e
      walk_at "g"
      rw [show m / 2 ^ 1 = m / 2 from by rw [Nat.pow_one]]
      refine nxW (m / 2, acc ++ [k], k + 1) (by simp [setL]) ⟨?_, ?_⟩ (by simp; omega)
      · rw [← hI, e, List.append_assoc]
      · simp; omega
    · have h1 : ¬ m % 2 = 1 := by omega
      rw [if_neg h1] at e
      walk_at "g"
      rw [show m / 2 ^ 1 = m / 2 from by rw [Nat.pow_one]]
      refine nxW (m / 2, acc, k + 1) (by simp) ⟨?_, ?_⟩ (by simp; omega)
      · rw [← hI, e]; rfl
      · simp; omega
  · have e3 : m = 0 := by omega
    subst e3
    rw [linesN_zero, List.append_nil] at hI
    rw [hI]; exact hq
theorem ok_lines_of {P : Program} {w : World} {K : K0} {mg : Str → Option Value} {base : Heap} {f : Addr} {fd : FuncData} (F : FunD K "lines_of" "lines_of" (defArgs st_lines_of) (defBody st_lines_of) (defScope st_lines_of) [] [] f fd) (g : mg "lines_of" = some (.ref f)) (T : Gb mg) : FnAt P w K mg base 1 "lines_of" ["column"] [] S_lines_of :=
  fnAt F g sc_lines_of (fun _ _ _ _ _ _ us hl => match us, hl with | [_], _ => rfl) l_lines_of (fun cdv A outer s H E G hr tk hp => d_lines_of T cdv A outer s H E G hr tk hp) w_lines_of
/-! columns_of -/
--uses MF
def f_columns_of : D → D → (R → Prop) → (Str → Prop) → Prop := fun a b Q E => ∃ f : Font, a = fontD f ∧ okFont f ∧ Sh 10 b ∧ (colsD f b = none → E "NoSign") ∧ ∀ c, colsD f b = some c → Q (.t (.lst (nL c)))
def S_columns_of : Spec := sp2 f_columns_of
theorem e_columns_of (x0 x1 : D) (Q : R → Prop) (E : Str → Prop) : S_columns_of [x0, x1] Q E = f_columns_of x0 x1 Q E := rfl
abbrev st_columns_of : Stmt := top 8
def m_columns_of : WS := (wSq (wFor (wiA (wIx (wVar 0) (wC (.int 1)))) (gN 2) (wIf (c2 cEq (wIx (wVar 2) (wC (.int 0))) (wVar 1)) (wRet (wB (f1s listD) (waC (wIx (wVar 2) (wC (.int 1))) waN))) wNil)) (wRaise "NoSign"))
theorem sc_columns_of : FnScope ["font", "sign", "letter"] ["font", "sign"] (defScope st_columns_of) := ⟨rfl, rfl, rfl, by decide +kernel, rfl, by decide +kernel, by decide +kernel⟩
theorem d_columns_of {P : Program} {w : World} {K : K0} {mg : Str → Option Value} {base : Heap} (T : Gb mg) (X_NoSign : ExAt K mg "NoSign") {f : Addr} (cdv : Value) (A : Around) (outer : List PySem.Env) (s : Shared) (H : Hp) (E : XK) (G : Hp) (hr : Room 0 (A.deeper (envOfC "columns_of" (defScope st_columns_of) s.heap.objs.size f cdv)))
    (tk : Takes (XB P w K mg base ["font", "sign", "letter"] "columns_of" (defScope st_columns_of) f cdv A outer s H E) (fun cls d _ H => E cls d H)) (hp : PassesOwn (model P w) (XB P w K mg base ["font", "sign", "letter"] "columns_of" (defScope st_columns_of) f cdv A outer s H E).A (XB P w K mg base ["font", "sign", "letter"] "columns_of" (defScope st_columns_of) f cdv A outer s H E).env (XB P w K mg base ["font", "sign", "letter"] "columns_of" (defScope st_columns_of) f cdv A outer s H E).xe) :
    DSs (XB P w K mg base ["font", "sign", "letter"] "columns_of" (defScope st_columns_of) f cdv A outer s H E) (fun cls d _ H => E cls d H) G (defBody st_columns_of) m_columns_of :=
  (dss_cons (ds_for (vs := [2]) hp rfl (di_any (de_ix (hu_of hr) (de_var 0 (pv 0)) (de_c pe_int rfl) (fun _ _ => rfl))) (dg_name (i := 2) (by decide) sc_columns_of.nd rfl (by first | exact Or.inl rfl | exact Or.inr rfl) (by first | exact Or.inl rfl | exact Or.inr rfl)) (dss_one (ds_if (dt_cmp (opEqD hr.units) (de_ix (hu_of hr) (de_var 2 (pv 2)) (de_c pe_int rfl) (fun _ _ => rfl)) (de_var 1 (pv 1)) (nomark _)) (dss_one (ds_ret (de_T cList (by rfl) T.list (by decide +kernel) (da_cons (de_ix (hu_of hr) (de_var 2 (pv 2)) (de_c pe_int rfl) (fun _ _ => rfl)) da_nil (by rfl)) (by decide) (by decide) (by rfl) (by rfl)))) dss_nil)) (by intro _; rfl)) (dss_one (ds_raise' X_NoSign rfl tk (by rfl) (by decide))))
theorem l_columns_of : ∀ ds Q E, S_columns_of ds Q E → ds.length = 2 := sp2_len rfl
local macro_rules | `(tactic| walk_at "x") => `(tactic| simp only [ltL_iff, pair_iff, colsD_tS, kD_inr, kD_inl, entD_n, entD_s, enI_n, enI_s, enI_iff, encM_eq, rowO_frz, paperO_frz, ent_iff, entl_iff, paper_iff, oD_n, oD_s, nats_nL, oL_snoc, oL_len, oL_take, oL_drop, drs_snoc, lts_snoc, nearD_n, nearD_s, near_iff, wholeB_int, sortedF_s, oDs_frz, wyD_eq])
theorem w_columns_of : ∀ ds Q E, S_columns_of ds Q E → m_columns_of (enD Q E) (startD ["font", "sign", "letter"] ds) := sp2_w (by
  rintro a0 a1 Q E ⟨f, rfl, hf, hb, he, hq⟩
  unfold m_columns_of startD
  walk_at "h"
  refine for_gs [2] (fun o : Option O => [o]) (fun k _ => ∀ l ∈ f.2.take k, a1 ≠ .str (tS [l.1])) none rfl (by simp) ?_ ?_
  · rintro k l o hd hI
    have hm := List.mem_of_getElem? hd
    walk_at "h"
    refine ⟨okEq_of ((okT_one (okSg_lt (hf.sg l hm))).sh 10) hb (by decide), ?_⟩
    refine ite_i (fun h => ?_) fun h => ?_
    · have e := (eqv_strD _ _).mp h
      subst e
      walk_at "h"
      exact hq _ (by rw [colsD_tS]; exact colsOf_nodup hf.nodup hm)
    · refine nxF _ rfl fun l' m => ?_
      rw [take_succ hd] at m
      rcases List.mem_append.mp m with m | m
      · exact hI l' m
      · have : l' = l := by simpa using m
        subst this
        exact fun e => h ((eqv_strD _ _).mpr e)
  · rintro o hI
    walk_at "h"
    rw [List.take_length] at hI
    refine he ?_
    cases e : colsD f a1 with
    | none => rfl
    | some c =>
      obtain ⟨s, e1, e2⟩ := colsD_eq e
      exact absurd e1 (hI _ (colsOf_mem e2)))
theorem ok_columns_of {P : Program} {w : World} {K : K0} {mg : Str → Option Value} {base : Heap} {f : Addr} {fd : FuncData} (F : FunD K "columns_of" "columns_of" (defArgs st_columns_of) (defBody st_columns_of) (defScope st_columns_of) [] [] f fd) (g : mg "columns_of" = some (.ref f)) (T : Gb mg) (X_NoSign : ExAt K mg "NoSign") : FnAt P w K mg base 1 "columns_of" ["font", "sign"] [] S_columns_of :=
  fnAt F g sc_columns_of (fun _ _ _ _ _ _ us hl => match us, hl with | [_, _], _ => rfl) l_columns_of (fun cdv A outer s H E G hr tk hp => d_columns_of T X_NoSign cdv A outer s H E G hr tk hp) w_columns_of
/-! set_text -/
--uses MF
def f_set_text : D → D → (R → Prop) → (Str → Prop) → Prop := fun a b Q E => ∃ f : Font, a = fontD f ∧ okFont f ∧ ∃ t : List Nat, b = .str (tS t) ∧ okT t ∧ t.length ≤ 100000 ∧ (¬ inF f t → E "NoSign") ∧ (inF f t → Q (.t (.lst (nL (setF f t)))))
def S_set_text : Spec := sp2 f_set_text
theorem e_set_text (x0 x1 : D) (Q : R → Prop) (E : Str → Prop) : S_set_text [x0, x1] Q E = f_set_text x0 x1 Q E := rfl
abbrev st_set_text : Stmt := top 10
def m_set_text : WS := (wSq (wAsg 2 (wLst waN)) (wSq (wFor (wiA (wVar 1)) (gN 3) (wExt 2 (wCall S_columns_of [] (waC (wVar 0) (waC (wVar 3) waN))))) (wRet (wVar 2))))
theorem sc_set_text : FnScope ["font", "text", "strip", "sign"] ["font", "text"] (defScope st_set_text) := ⟨rfl, rfl, rfl, by decide +kernel, rfl, by decide +kernel, by decide +kernel⟩
theorem d_set_text {P : Program} {w : World} {K : K0} {mg : Str → Option Value} {base : Heap} (T : Gb mg) (F_columns_of : FnAt P w K mg base 1 "columns_of" ["font", "sign"] [] S_columns_of) {f : Addr} (cdv : Value) (A : Around) (outer : List PySem.Env) (s : Shared) (H : Hp) (E : XK) (G : Hp) (hr : Room 1 (A.deeper (envOfC "set_text" (defScope st_set_text) s.heap.objs.size f cdv)))
    (tk : Takes (XB P w K mg base ["font", "text", "strip", "sign"] "set_text" (defScope st_set_text) f cdv A outer s H E) (fun cls d _ H => E cls d H)) (hp : PassesOwn (model P w) (XB P w K mg base ["font", "text", "strip", "sign"] "set_text" (defScope st_set_text) f cdv A outer s H E).A (XB P w K mg base ["font", "text", "strip", "sign"] "set_text" (defScope st_set_text) f cdv A outer s H E).env (XB P w K mg base ["font", "text", "strip", "sign"] "set_text" (defScope st_set_text) f cdv A outer s H E).xe) :
    DSs (XB P w K mg base ["font", "text", "strip", "sign"] "set_text" (defScope st_set_text) f cdv A outer s H E) (fun cls d _ H => E cls d H) G (defBody st_set_text) m_set_text :=
  (dss_cons (ds_set (i := 2) sc_set_text.nd rfl (by first | exact Or.inl rfl | exact Or.inr rfl) (de_lst da_nil) (by rfl) (by first | exact Or.inl rfl | exact Or.inr rfl)) (dss_cons (ds_for (vs := [3]) hp rfl (di_any (de_var 1 (pv 1))) (dg_name (i := 3) (by decide) sc_set_text.nd rfl (by first | exact Or.inl rfl | exact Or.inr rfl) (by first | exact Or.inl rfl | exact Or.inr rfl)) (dss_one (ds_ext (i := 2) (pv 2) (de_call' F_columns_of hr (by decide) (by rfl) (fun _ => .nil) tk (da_cons (de_var 0 (pv 0)) (da_cons (de_var 3 (pv 3)) da_nil (by rfl)) (by rfl)) (by decide) (by rfl) (by rfl)) (by rfl) (by rfl) (by rfl) (by rfl) (by rfl) (by rfl))) (by intro _; rfl)) (dss_one (ds_ret (de_var 2 (pv 2))))))
theorem l_set_text : ∀ ds Q E, S_set_text ds Q E → ds.length = 2 := sp2_len rfl
local macro_rules | `(tactic| walk_at "x") => `(tactic| simp only [e_columns_of, f_columns_of, ltL_iff, pair_iff, colsD_tS, kD_inr, kD_inl, entD_n, entD_s, enI_n, enI_s, enI_iff, encM_eq, rowO_frz, paperO_frz, ent_iff, entl_iff, paper_iff, oD_n, oD_s, nats_nL, oL_snoc, oL_len, oL_take, oL_drop, drs_snoc, lts_snoc, nearD_n, nearD_s, near_iff, wholeB_int, sortedF_s, oDs_frz, wyD_eq])
theorem w_set_text : ∀ ds Q E, S_set_text ds Q E → m_set_text (enD Q E) (startD ["font", "text", "strip", "sign"] ds) := sp2_w (by
  rintro a0 a1 Q E ⟨f, rfl, hf, t, rfl, ht, hl, he, hq⟩
  unfold m_set_text startD
  walk_at "h"
  refine for_gs [2, 3] (fun x : List Nat × Option O => [some (.lst (nL x.1)), x.2]) (fun k x => x.1 = setF f (t.take k) ∧ inF f (t.take k)) ([], none) rfl ⟨by simp [setF_nil], by simp [inF]⟩ ?_ ?_
  · rintro k s ⟨xs, o⟩ hd ⟨hI, hJ⟩
    simp only at hI hJ
    subst hI
    have hm := List.mem_of_getElem? hd
    walk_at "h"
    refine ⟨(okT_one (ht s hm)).sh 10, fun h => he fun q => ?_, fun c h => ?_⟩
    · skip
      exact colsOf_none.mp h (q s hm)
    · skip
      have hs : hasF f s := List.mem_map_of_mem (f := fun l : Lt => l.1) (colsOf_mem h)
      have e : c = colsF f s := by rw [colsF_has hs] at h; exact (Option.some.inj h).symm
      subst e
      walk_at "h"
      have h1 := setF_len hf (t.take k)
      have h2 := colsF_len hf s
      rw [List.length_take] at h1
      refine ⟨by rw [sizeLine_eq]; omega, ?_⟩
      refine nxF (_, _) rfl ⟨(setF_take hd).symm, ?_⟩
      rw [take_succ hd]
      exact inF_app.mpr ⟨hJ, fun x m => by simp at m; subst m; exact hs⟩
  · rintro ⟨xs, o⟩ ⟨hI, hJ⟩
    simp only [List.take_length] at hI hJ
    subst hI
    walk_at "h"
    exact hq hJ)
theorem ok_set_text {P : Program} {w : World} {K : K0} {mg : Str → Option Value} {base : Heap} {f : Addr} {fd : FuncData} (F : FunD K "set_text" "set_text" (defArgs st_set_text) (defBody st_set_text) (defScope st_set_text) [] [] f fd) (g : mg "set_text" = some (.ref f)) (T : Gb mg) (F_columns_of : FnAt P w K mg base 1 "columns_of" ["font", "sign"] [] S_columns_of) : FnAt P w K mg base 2 "set_text" ["font", "text"] [] S_set_text :=
  fnAt F g sc_set_text (fun _ _ _ _ _ _ us hl => match us, hl with | [_, _], _ => rfl) l_set_text (fun cdv A outer s H E G hr tk hp => d_set_text T F_columns_of cdv A outer s H E G hr tk hp) w_set_text
/-! spots_apart -/
--uses MB
def f_spots_apart : D → D → (R → Prop) → (Str → Prop) → Prop := fun a b Q E => ∃ xs : List Nat, a = .list (nL xs) ∧ ∃ ys : List Nat, b = .list (nL ys) ∧ (∀ x ∈ xs, x < 2 ^ 60) ∧ (∀ y ∈ ys, y < 2 ^ 60) ∧ xs.length ≤ 1000 ∧ (xs.length ≠ ys.length → E "NotAlike") ∧ (xs.length = ys.length → Q (.t (.lst (pL (spotsN 0 xs ys)))))
def S_spots_apart : Spec := sp2 f_spots_apart
theorem e_spots_apart (x0 x1 : D) (Q : R → Prop) (E : Str → Prop) : S_spots_apart [x0, x1] Q E = f_spots_apart x0 x1 Q E := rfl
abbrev st_spots_apart : Stmt := top 12
def m_spots_apart : WS := (wSq (wIf (c2 cNe (wB (f1 lenD) (waC (wVar 0) waN)) (wB (f1 lenD) (waC (wVar 1) waN))) (wRaise "NotAlike") wNil) (wSq (wAsg 2 (wLst waN)) (wSq (wFor (wiR1 (wB (f1 lenD) (waC (wVar 0) waN))) (gN 3) (wFor (wiA (wCall S_lines_of [] (waC (wXor (wIx (wVar 0) (wVar 3)) (wIx (wVar 1) (wVar 3))) waN))) (gN 4) (wApp 2 (wTup (waC (wVar 3) (waC (wVar 4) waN)))))) (wRet (wVar 2)))))
theorem sc_spots_apart : FnScope ["one", "other", "found", "x", "y"] ["one", "other"] (defScope st_spots_apart) := ⟨rfl, rfl, rfl, by decide +kernel, rfl, by decide +kernel, by decide +kernel⟩
theorem d_spots_apart {P : Program} {w : World} {K : K0} {mg : Str → Option Value} {base : Heap} (T : Gb mg) (X_NotAlike : ExAt K mg "NotAlike") (F_lines_of : FnAt P w K mg base 1 "lines_of" ["column"] [] S_lines_of) {f : Addr} (cdv : Value) (A : Around) (outer : List PySem.Env) (s : Shared) (H : Hp) (E : XK) (G : Hp) (hr : Room 1 (A.deeper (envOfC "spots_apart" (defScope st_spots_apart) s.heap.objs.size f cdv)))
    (tk : Takes (XB P w K mg base ["one", "other", "found", "x", "y"] "spots_apart" (defScope st_spots_apart) f cdv A outer s H E) (fun cls d _ H => E cls d H)) (hp : PassesOwn (model P w) (XB P w K mg base ["one", "other", "found", "x", "y"] "spots_apart" (defScope st_spots_apart) f cdv A outer s H E).A (XB P w K mg base ["one", "other", "found", "x", "y"] "spots_apart" (defScope st_spots_apart) f cdv A outer s H E).env (XB P w K mg base ["one", "other", "found", "x", "y"] "spots_apart" (defScope st_spots_apart) f cdv A outer s H E).xe) :
    DSs (XB P w K mg base ["one", "other", "found", "x", "y"] "spots_apart" (defScope st_spots_apart) f cdv A outer s H E) (fun cls d _ H => E cls d H) G (defBody st_spots_apart) m_spots_apart :=
  (dss_cons (ds_if (dt_cmp (opNeD hr.units) (de_B cLen (by rfl) T.len (by decide +kernel) (da_cons (de_var 0 (pv 0)) da_nil (by rfl)) (by decide) (by decide) (by rfl) (by rfl)) (de_B cLen (by rfl) T.len (by decide +kernel) (da_cons (de_var 1 (pv 1)) da_nil (by rfl)) (by decide) (by decide) (by rfl) (by rfl)) (nomark _)) (dss_one (ds_raise' X_NotAlike rfl tk (by rfl) (by decide))) dss_nil) (dss_cons (ds_set (i := 2) sc_spots_apart.nd rfl (by first | exact Or.inl rfl | exact Or.inr rfl) (de_lst da_nil) (by rfl) (by first | exact Or.inl rfl | exact Or.inr rfl)) (dss_cons (ds_for (vs := [3]) hp rfl (di_range1 (by rfl) T.range (de_B cLen (by rfl) T.len (by decide +kernel) (da_cons (de_var 0 (pv 0)) da_nil (by rfl)) (by decide) (by decide) (by rfl) (by rfl)) (by rfl) (by rfl)) (dg_name (i := 3) (by decide) sc_spots_apart.nd rfl (by first | exact Or.inl rfl | exact Or.inr rfl) (by first | exact Or.inl rfl | exact Or.inr rfl)) (dss_one (ds_for (vs := [4]) hp rfl (di_any (de_call' F_lines_of hr (by decide) (by rfl) (fun _ => .nil) tk (da_cons (de_xor (de_ix (hu_of hr) (de_var 0 (pv 0)) (de_var 3 (pv 3)) (fun _ _ => rfl)) (de_ix (hu_of hr) (de_var 1 (pv 1)) (de_var 3 (pv 3)) (fun _ _ => rfl))) da_nil (by rfl)) (by decide) (by rfl) (by rfl))) (dg_name (i := 4) (by decide) sc_spots_apart.nd rfl (by first | exact Or.inl rfl | exact Or.inr rfl) (by first | exact Or.inl rfl | exact Or.inr rfl)) (dss_one (ds_app (i := 2) (pv 2) (de_tup (da_cons (de_var 3 (pv 3)) (da_cons (de_var 4 (pv 4)) da_nil (by rfl)) (by rfl))) (by rfl) (by rfl) (by rfl) (by rfl) (by rfl) (by rfl))) (by intro _; rfl))) (by intro _; rfl)) (dss_one (ds_ret (de_var 2 (pv 2)))))))
theorem l_spots_apart : ∀ ds Q E, S_spots_apart ds Q E → ds.length = 2 := sp2_len rfl
local macro_rules | `(tactic| walk_at "x") => `(tactic| simp only [e_lines_of, f_lines_of, ltL_iff, pair_iff, colsD_tS, kD_inr, kD_inl, entD_n, entD_s, enI_n, enI_s, enI_iff, encM_eq, rowO_frz, paperO_frz, ent_iff, entl_iff, paper_iff, oD_n, oD_s, nats_nL, oL_snoc, oL_len, oL_take, oL_drop, drs_snoc, lts_snoc, nearD_n, nearD_s, near_iff, wholeB_int, sortedF_s, oDs_frz, wyD_eq])
theorem w_spots_apart : ∀ ds Q E, S_spots_apart ds Q E → m_spots_apart (enD Q E) (startD ["one", "other", "found", "x", "y"] ds) := sp2_w (by
  rintro a0 a1 Q E ⟨xs, rfl, ys, rfl, hx, hy, hs, he, hq⟩
  unfold m_spots_apart startD
  walk_at "g"
  refine ite_i (fun h => he fun e => ?_) fun h => ?_
  · simp [e] at h
  have hl : xs.length = ys.length := by simp at h; omega
  walk_at "g"
  refine for_gs [2, 3, 4] (fun x : List (Nat × Nat) × Option O × Option O => [some (.lst (pL x.1)), x.2.1, x.2.2]) (fun k x => x.1 = spotsN 0 (xs.take k) (ys.take k)) ([], none, none) rfl (by simp [spotsN]) ?_ ?_
  · rintro k d ⟨ps, o1, o2⟩ hd hI
    obtain ⟨rfl, hk⟩ := range_get hd
    simp only at hI
    have hk2 : d < ys.length := by omega
    have b1 := hx _ (List.getElem_mem hk)
    have b2 := hy _ (List.getElem_mem hk2)
    walk_at "g"
    refine ⟨_, atI_map_lt _ hk, _, atI_map_lt _ hk2, ?_⟩
    walk_at "g"
    refine ⟨lt_pow (Nat.xor_lt_two_pow b1 b2) (by decide), ?_⟩
    walk_at "g"
    have hle := popN_le 60 _ (Nat.xor_lt_two_pow b1 b2)
    have hps : ps.length ≤ 60 * d := by
      rw [hI, spotsN_len]
      have := gapN_le (h := 60) (xs := xs.take d) (ys := ys.take d) (fun x m => hx x (List.mem_of_mem_take m)) fun y m => hy y (List.mem_of_mem_take m)
      rw [List.length_take] at this
      have e : min d xs.length = d := by omega
      rwa [e] at this
    refine for_gs [2, 4] (fun x : List (Nat × Nat) × Option O => [some (.lst (pL x.1)), x.2]) (fun j x => x.1 = ps ++ ((linesN (xs[d] ^^^ ys[d]) 0).take j).map fun l => (d, l)) (ps, o2) rfl (by simp) ?_ ?_
    · rintro j l ⟨qs, o3⟩ hl2 hJ
      simp only at hJ
      have hj := (List.getElem?_eq_some_iff.mp hl2).1
      rw [linesN_length] at hj
      have hqs : qs.length ≤ 60 * d + 60 := by rw [hJ]; simp; omega
      walk_at "g"
      rw [pL_snoc]
      exact nxF (qs ++ [(d, l)], _) rfl (by simp only; rw [hJ, take_succ hl2]; simp)
    · rintro ⟨qs, o3⟩ hJ
      simp only [List.take_length] at hJ
      walk_at "g"
      refine nxF (qs, _, _) rfl ?_
      simp only
      rw [hJ, hI, take_succ (List.getElem?_eq_getElem hk), take_succ (List.getElem?_eq_getElem hk2), spotsN_snoc 0 _ _ (by simp; omega), List.length_take, Nat.min_eq_left (by omega), Nat.zero_add]
  · rintro ⟨ps, o1, o2⟩ hI
    simp only [List.length_range] at hI
    rw [List.take_length, hl, List.take_length] at hI
    subst hI
    walk_at "g"
    exact hq hl)
theorem ok_spots_apart {P : Program} {w : World} {K : K0} {mg : Str → Option Value} {base : Heap} {f : Addr} {fd : FuncData} (F : FunD K "spots_apart" "spots_apart" (defArgs st_spots_apart) (defBody st_spots_apart) (defScope st_spots_apart) [] [] f fd) (g : mg "spots_apart" = some (.ref f)) (T : Gb mg) (X_NotAlike : ExAt K mg "NotAlike") (F_lines_of : FnAt P w K mg base 1 "lines_of" ["column"] [] S_lines_of) : FnAt P w K mg base 2 "spots_apart" ["one", "other"] [] S_spots_apart :=
  fnAt F g sc_spots_apart (fun _ _ _ _ _ _ us hl => match us, hl with | [_, _], _ => rfl) l_spots_apart (fun cdv A outer s H E G hr tk hp => d_spots_apart T X_NotAlike F_lines_of cdv A outer s H E G hr tk hp) w_spots_apart
/-! turned -/
--uses MB
def f_turned : D → D → D → (R → Prop) → (Str → Prop) → Prop := fun a b c Q E => ∃ h : Nat, a = .int h ∧ ∃ xs : List Nat, b = .list (nL xs) ∧ ∃ ps : List (Int × Int), c = .list (zL ps) ∧ h ≤ 60 ∧ ((¬ ∀ p ∈ ps, onS h xs.length p) → E "OffStrip") ∧ ((∀ p ∈ ps, onS h xs.length p) → Q (.t (.lst (nL (turnN xs ps)))))
def S_turned : Spec := sp3 f_turned
theorem e_turned (x0 x1 x2 : D) (Q : R → Prop) (E : Str → Prop) : S_turned [x0, x1, x2] Q E = f_turned x0 x1 x2 Q E := rfl
abbrev st_turned : Stmt := top 13
def m_turned : WS := (wSq (wAsg 3 (wB (f1s listD) (waC (wVar 1) waN))) (wSq (wFor (wiA (wVar 2)) (gT 2 (gsC (gN 4) (gsC (gN 5) gsN))) (wSq (wIf (wtOr (c2 cLt (wVar 4) (wC (.int 0))) (wtOr (c2 cGe (wVar 4) (wB (f1 lenD) (waC (wVar 3) waN))) (wtOr (c2 cLt (wVar 5) (wC (.int 0))) (c2 cGe (wVar 5) (wVar 0))))) (wRaise "OffStrip") wNil) (wSt 3 (wVar 4) (wXor (wIx (wVar 3) (wVar 4)) (wShl (wC (.int 1)) (wVar 5)))))) (wRet (wVar 3))))
theorem sc_turned : FnScope ["height", "strip", "spots", "found", "x", "y"] ["height", "strip", "spots"] (defScope st_turned) := ⟨rfl, rfl, rfl, by decide +kernel, rfl, by decide +kernel, by decide +kernel⟩
theorem d_turned {P : Program} {w : World} {K : K0} {mg : Str → Option Value} {base : Heap} (T : Gb mg) (X_OffStrip : ExAt K mg "OffStrip") {f : Addr} (cdv : Value) (A : Around) (outer : List PySem.Env) (s : Shared) (H : Hp) (E : XK) (G : Hp) (hr : Room 0 (A.deeper (envOfC "turned" (defScope st_turned) s.heap.objs.size f cdv)))
    (tk : Takes (XB P w K mg base ["height", "strip", "spots", "found", "x", "y"] "turned" (defScope st_turned) f cdv A outer s H E) (fun cls d _ H => E cls d H)) (hp : PassesOwn (model P w) (XB P w K mg base ["height", "strip", "spots", "found", "x", "y"] "turned" (defScope st_turned) f cdv A outer s H E).A (XB P w K mg base ["height", "strip", "spots", "found", "x", "y"] "turned" (defScope st_turned) f cdv A outer s H E).env (XB P w K mg base ["height", "strip", "spots", "found", "x", "y"] "turned" (defScope st_turned) f cdv A outer s H E).xe) :
    DSs (XB P w K mg base ["height", "strip", "spots", "found", "x", "y"] "turned" (defScope st_turned) f cdv A outer s H E) (fun cls d _ H => E cls d H) G (defBody st_turned) m_turned :=
  (dss_cons (ds_set (i := 3) sc_turned.nd rfl (by first | exact Or.inl rfl | exact Or.inr rfl) (de_T cList (by rfl) T.list (by decide +kernel) (da_cons (de_var 1 (pv 1)) da_nil (by rfl)) (by decide) (by decide) (by rfl) (by rfl)) (by rfl) (by first | exact Or.inl rfl | exact Or.inr rfl)) (dss_cons (ds_for (vs := [4, 5]) hp rfl (di_any (de_var 2 (pv 2))) (dg_tup rfl (dgs_cons (dg_name (i := 4) (by decide) sc_turned.nd rfl (by first | exact Or.inl rfl | exact Or.inr rfl) (by first | exact Or.inl rfl | exact Or.inr rfl)) (dgs_cons (dg_name (i := 5) (by decide) sc_turned.nd rfl (by first | exact Or.inl rfl | exact Or.inr rfl) (by first | exact Or.inl rfl | exact Or.inr rfl)) dgs_nil (by rfl)) (by rfl)) (by rfl) (by rfl)) (dss_cons (ds_if (dt_w (dw_or (dt_cmp (opLtD hr.units0) (de_var 4 (pv 4)) (de_c pe_int rfl) (nomark _)) (dw_or (dt_cmp opGeD (de_var 4 (pv 4)) (de_B cLen (by rfl) T.len (by decide +kernel) (da_cons (de_var 3 (pv 3)) da_nil (by rfl)) (by decide) (by decide) (by rfl) (by rfl)) (nomark _)) (dw_or (dt_cmp (opLtD hr.units0) (de_var 5 (pv 5)) (de_c pe_int rfl) (nomark _)) (dw_or1 (dt_cmp opGeD (de_var 5 (pv 5)) (de_var 0 (pv 0)) (nomark _))))))) (dss_one (ds_raise' X_OffStrip rfl tk (by rfl) (by decide))) dss_nil) (dss_one (ds_st (i := 3) (hu_of hr) (pv 3) (de_var 4 (pv 4)) (de_xor (de_ix (hu_of hr) (de_var 3 (pv 3)) (de_var 4 (pv 4)) (fun _ _ => rfl)) (de_shl (de_c pe_int rfl) (de_var 5 (pv 5)))) (by intro _; rfl) (by rfl) (by rfl)))) (by intro _; rfl)) (dss_one (ds_ret (de_var 3 (pv 3))))))
theorem l_turned : ∀ ds Q E, S_turned ds Q E → ds.length = 3 := sp3_len rfl
local macro_rules | `(tactic| walk_at "x") => `(tactic| simp only [ltL_iff, pair_iff, colsD_tS, kD_inr, kD_inl, entD_n, entD_s, enI_n, enI_s, enI_iff, encM_eq, rowO_frz, paperO_frz, ent_iff, entl_iff, paper_iff, oD_n, oD_s, nats_nL, oL_snoc, oL_len, oL_take, oL_drop, drs_snoc, lts_snoc, nearD_n, nearD_s, near_iff, wholeB_int, sortedF_s, oDs_frz, wyD_eq])
theorem w_turned : ∀ ds Q E, S_turned ds Q E → m_turned (enD Q E) (startD ["height", "strip", "spots", "found", "x", "y"] ds) := sp3_w (by
  rintro a0 a1 a2 Q E ⟨h, rfl, xs, rfl, ps, rfl, h60, he, hq⟩
  unfold m_turned startD
  walk_at "g"
  refine for_gs [3, 4, 5] (fun x : List Nat × Option O × Option O => [some (.lst (nL x.1)), x.2.1, x.2.2]) (fun k x => x.1 = turnN xs (ps.take k) ∧ ∀ p ∈ ps.take k, onS h xs.length p) (xs, none, none) rfl ⟨rfl, by simp⟩ ?_ ?_
  · rintro k ⟨x, y⟩ ⟨c, o1, o2⟩ hd ⟨hI, hJ⟩
    simp only at hI hJ
    have hlen : c.length = xs.length := by rw [hI, turnN_len]
    walk_at "g"
    have out : ¬ onS h xs.length (x, y) → E "OffStrip" := fun q => he fun r => q (r _ (List.mem_of_getElem? hd))
    refine ite_i (fun q => out fun r => absurd r.1 (by simp; omega)) fun q1 => ?_
    refine ite_i (fun q => out fun r => absurd r.2.1 (by simp; omega)) fun q2 => ?_
    refine ite_i (fun q => out fun r => absurd r.2.2.1 (by simp; omega)) fun q3 => ?_
    refine ite_i (fun q => out fun r => absurd r.2.2.2 (by simp; omega)) fun q4 => ?_
    obtain ⟨i, rfl⟩ := Int.eq_ofNat_of_zero_le (show 0 ≤ x by omega)
    obtain ⟨j, rfl⟩ := Int.eq_ofNat_of_zero_le (show 0 ≤ y by omega)
    have hi : i < c.length := by omega
    refine ⟨_, atI_map_lt _ hi, ?_⟩
    walk_at "g"
    refine ⟨i, ixN_lt hi, ?_⟩
    refine nxF (c.set i (c[i] ^^^ 2 ^ j), _, _) rfl ⟨?_, ?_⟩
    · simp only
      rw [turnN_take hd, ← hI]
      unfold turn1
      simp [hi]
    · intro p m
      rw [take_succ hd] at m
      simp at m
      rcases m with m | rfl
      · exact hJ p m
      · exact ⟨by omega, by simp; omega, by omega, by simp; omega⟩
  · rintro ⟨c, o1, o2⟩ ⟨hI, hJ⟩
    simp only [List.take_length] at hI hJ
    subst hI
    walk_at "g"
    exact hq hJ)
theorem ok_turned {P : Program} {w : World} {K : K0} {mg : Str → Option Value} {base : Heap} {f : Addr} {fd : FuncData} (F : FunD K "turned" "turned" (defArgs st_turned) (defBody st_turned) (defScope st_turned) [] [] f fd) (g : mg "turned" = some (.ref f)) (T : Gb mg) (X_OffStrip : ExAt K mg "OffStrip") : FnAt P w K mg base 1 "turned" ["height", "strip", "spots"] [] S_turned :=
  fnAt F g sc_turned (fun _ _ _ _ _ _ us hl => match us, hl with | [_, _, _], _ => rfl) l_turned (fun cdv A outer s H E G hr tk hp => d_turned T X_OffStrip cdv A outer s H E G hr tk hp) w_turned
/-! halfway -/
--uses M2D
def f_halfway : D → D → D → (R → Prop) → (Str → Prop) → Prop := fun a b c Q E => ∃ f : Font, a = fontD f ∧ okFont f ∧ ∃ t : List Nat, b = .str (tS t) ∧ okT t ∧ t.length ≤ 100 ∧ ∃ u : List Nat, c = .str (tS u) ∧ okT u ∧ u.length ≤ 100 ∧ (¬ (inF f t ∧ inF f u) → E "NoSign") ∧ (inF f t → inF f u → (setF f t).length ≠ (setF f u).length → E "NotAlike") ∧ (inF f t → inF f u → (setF f t).length = (setF f u).length → Q (.t (.lst (nL (midN f.1 (setF f t) (setF f u) (((unlikeN f.1 (setF f t) (setF f u)).length + 1) / 2))))))
def S_halfway : Spec := sp3 f_halfway
theorem e_halfway (x0 x1 x2 : D) (Q : R → Prop) (E : Str → Prop) : S_halfway [x0, x1, x2] Q E = f_halfway x0 x1 x2 Q E := rfl
abbrev st_halfway : Stmt := top 15
def m_halfway : WS := (wSq (wLet 3 (wCall S_set_text [] (waC (wVar 0) (waC (wVar 1) waN)))) (wSq (wLet 4 (wCall S_set_text [] (waC (wVar 0) (waC (wVar 2) waN)))) (wSq (wLet 5 (wCall S_spots_apart [] (waC (wVar 3) (waC (wVar 4) waN)))) (wRet (wCall S_turned [] (waC (wIx (wVar 0) (wC (.int 0))) (waC (wVar 3) (waC (wSl (wVar 5) woN (woE (wDiv (wAdd (wB (f1 lenD) (waC (wVar 5) waN)) (wC (.int 1))) (wC (.int 2))))) waN))))))))
theorem sc_halfway : FnScope ["font", "one", "other", "first", "second", "spots"] ["font", "one", "other"] (defScope st_halfway) := ⟨rfl, rfl, rfl, by decide +kernel, rfl, by decide +kernel, by decide +kernel⟩
theorem d_halfway {P : Program} {w : World} {K : K0} {mg : Str → Option Value} {base : Heap} (T : Gb mg) (F_set_text : FnAt P w K mg base 2 "set_text" ["font", "text"] [] S_set_text) (F_spots_apart : FnAt P w K mg base 2 "spots_apart" ["one", "other"] [] S_spots_apart) (F_turned : FnAt P w K mg base 1 "turned" ["height", "strip", "spots"] [] S_turned) {f : Addr} (cdv : Value) (A : Around) (outer : List PySem.Env) (s : Shared) (H : Hp) (E : XK) (G : Hp) (hr : Room 2 (A.deeper (envOfC "halfway" (defScope st_halfway) s.heap.objs.size f cdv)))
    (tk : Takes (XB P w K mg base ["font", "one", "other", "first", "second", "spots"] "halfway" (defScope st_halfway) f cdv A outer s H E) (fun cls d _ H => E cls d H)) (hp : PassesOwn (model P w) (XB P w K mg base ["font", "one", "other", "first", "second", "spots"] "halfway" (defScope st_halfway) f cdv A outer s H E).A (XB P w K mg base ["font", "one", "other", "first", "second", "spots"] "halfway" (defScope st_halfway) f cdv A outer s H E).env (XB P w K mg base ["font", "one", "other", "first", "second", "spots"] "halfway" (defScope st_halfway) f cdv A outer s H E).xe) :
    DSs (XB P w K mg base ["font", "one", "other", "first", "second", "spots"] "halfway" (defScope st_halfway) f cdv A outer s H E) (fun cls d _ H => E cls d H) G (defBody st_halfway) m_halfway :=
  (dss_cons (ds_let (i := 3) sc_halfway.nd rfl (by first | exact Or.inl rfl | exact Or.inr rfl) (de_call' F_set_text hr (by decide) (by rfl) (fun _ => .nil) tk (da_cons (de_var 0 (pv 0)) (da_cons (de_var 1 (pv 1)) da_nil (by rfl)) (by rfl)) (by decide) (by rfl) (by rfl)) (by rfl) (by first | exact Or.inl rfl | exact Or.inr rfl)) (dss_cons (ds_let (i := 4) sc_halfway.nd rfl (by first | exact Or.inl rfl | exact Or.inr rfl) (de_call' F_set_text hr (by decide) (by rfl) (fun _ => .nil) tk (da_cons (de_var 0 (pv 0)) (da_cons (de_var 2 (pv 2)) da_nil (by rfl)) (by rfl)) (by decide) (by rfl) (by rfl)) (by rfl) (by first | exact Or.inl rfl | exact Or.inr rfl)) (dss_cons (ds_let (i := 5) sc_halfway.nd rfl (by first | exact Or.inl rfl | exact Or.inr rfl) (de_call' F_spots_apart hr (by decide) (by rfl) (fun _ => .nil) tk (da_cons (de_var 3 (pv 3)) (da_cons (de_var 4 (pv 4)) da_nil (by rfl)) (by rfl)) (by decide) (by rfl) (by rfl)) (by rfl) (by first | exact Or.inl rfl | exact Or.inr rfl)) (dss_one (ds_ret (de_call' F_turned hr (by decide) (by rfl) (fun _ => .nil) tk (da_cons (de_ix (hu_of hr) (de_var 0 (pv 0)) (de_c pe_int rfl) (fun _ _ => rfl)) (da_cons (de_var 3 (pv 3)) (da_cons (de_slice (de_var 5 (pv 5)) do_none (do_some (de_div (de_add (de_B cLen (by rfl) T.len (by decide +kernel) (da_cons (de_var 5 (pv 5)) da_nil (by rfl)) (by decide) (by decide) (by rfl) (by rfl)) (de_c pe_int rfl)) (de_c pe_int rfl)))) da_nil (by rfl)) (by rfl)) (by rfl)) (by decide) (by rfl) (by rfl)))))))
theorem l_halfway : ∀ ds Q E, S_halfway ds Q E → ds.length = 3 := sp3_len rfl
local macro_rules | `(tactic| walk_at "x") => `(tactic| simp only [e_set_text, f_set_text, e_spots_apart, f_spots_apart, e_turned, f_turned, ltL_iff, pair_iff, colsD_tS, kD_inr, kD_inl, entD_n, entD_s, enI_n, enI_s, enI_iff, encM_eq, rowO_frz, paperO_frz, ent_iff, entl_iff, paper_iff, oD_n, oD_s, nats_nL, oL_snoc, oL_len, oL_take, oL_drop, drs_snoc, lts_snoc, nearD_n, nearD_s, near_iff, wholeB_int, sortedF_s, oDs_frz, wyD_eq])
theorem w_halfway : ∀ ds Q E, S_halfway ds Q E → m_halfway (enD Q E) (startD ["font", "one", "other", "first", "second", "spots"] ds) := sp3_w (by
  rintro a0 a1 a2 Q E ⟨f, rfl, hf, t, rfl, kt, ht, u, rfl, ku, hu, he, hn, hq⟩
  unfold m_halfway startD
  walk_at "h"
  have sz := sizeLine_eq
  walk_at "h"
  refine ⟨fun n => he fun q => n q.1, fun i1 => ?_⟩
  walk_at "h"
  refine ⟨fun n => he fun q => n q.2, fun i2 => ?_⟩
  have l1 := setF_len hf t
  have l2 := setF_len hf u
  have x1 := setF_lt hf (t := t)
  have x2 := setF_lt hf (t := u)
  generalize setF f t = xs at *
  generalize setF f u = ys at *
  walk_at "h"
  have hh := hf.h60
  refine ⟨fun x m => lt_pow (x1 x m) hh, fun y m => lt_pow (x2 y m) hh, by omega, hn i1 i2, fun el => ⟨cdiv_int (by decide) (by decide), ?_⟩⟩
  rw [spots_unlike el x1 x2]
  have hq := hq i1 i2 el
  rw [show ((unlikeN f.1 xs ys).length : Int) + 1 = (((unlikeN f.1 xs ys).length + 1 : Nat) : Int) from by push_cast; rfl, show (((unlikeN f.1 xs ys).length + 1 : Nat) : Int) / 2 = ((((unlikeN f.1 xs ys).length + 1) / 2 : Nat) : Int) from by push_cast; rfl]
  unfold midN at hq
  generalize ((unlikeN f.1 xs ys).length + 1) / 2 = m at hq ⊢
  have on : ∀ p ∈ ((unlikeN f.1 xs ys).take m).map zP, onS f.1 xs.length p := fun p mp => by
    obtain ⟨c, mc, rfl⟩ := List.mem_map.mp mp
    have := (unlike_mem.mp (List.mem_of_mem_take mc)).1
    unfold onS zP
    simp only
    omega
  refine ⟨_, by rw [pL, cut_map, cut_to]; exact pL_zP _, hh, fun n => absurd on n, fun _ => hq⟩)
theorem ok_halfway {P : Program} {w : World} {K : K0} {mg : Str → Option Value} {base : Heap} {f : Addr} {fd : FuncData} (F : FunD K "halfway" "halfway" (defArgs st_halfway) (defBody st_halfway) (defScope st_halfway) [] [] f fd) (g : mg "halfway" = some (.ref f)) (T : Gb mg) (F_set_text : FnAt P w K mg base 2 "set_text" ["font", "text"] [] S_set_text) (F_spots_apart : FnAt P w K mg base 2 "spots_apart" ["one", "other"] [] S_spots_apart) (F_turned : FnAt P w K mg base 1 "turned" ["height", "strip", "spots"] [] S_turned) : FnAt P w K mg base 3 "halfway" ["font", "one", "other"] [] S_halfway :=
  fnAt F g sc_halfway (fun _ _ _ _ _ _ us hl => match us, hl with | [_, _, _], _ => rfl) l_halfway (fun cdv A outer s H E G hr tk hp => d_halfway T F_set_text F_spots_apart F_turned cdv A outer s H E G hr tk hp) w_halfway
/-! law_cell_at -/
def f_law_cell_at : D → D → (R → Prop) → (Str → Prop) → Prop := fun a b Q E => ∃ ns : List Int, a = .list (iL ns) ∧ ∃ k : Nat, b = .int k ∧ Q (.v (.int (ns[k]?.getD 0)))
def S_law_cell_at : Spec := sp2 f_law_cell_at
theorem e_law_cell_at (x0 x1 : D) (Q : R → Prop) (E : Str → Prop) : S_law_cell_at [x0, x1] Q E = f_law_cell_at x0 x1 Q E := rfl
abbrev st_law_cell_at : Stmt := top 17
def m_law_cell_at : WS := (wSq (wIf (c2 cLt (wVar 1) (wB (f1 lenD) (waC (wVar 0) waN))) (wRet (wIx (wVar 0) (wVar 1))) wNil) (wRet (wC (.int 0))))
theorem sc_law_cell_at : FnScope ["script", "k"] ["script", "k"] (defScope st_law_cell_at) := ⟨rfl, rfl, rfl, by decide +kernel, rfl, by decide +kernel, by decide +kernel⟩
theorem d_law_cell_at {P : Program} {w : World} {K : K0} {mg : Str → Option Value} {base : Heap} (T : Gb mg) {f : Addr} (cdv : Value) (A : Around) (outer : List PySem.Env) (s : Shared) (H : Hp) (E : XK) (G : Hp) (hr : Room 0 (A.deeper (envOfC "_law_cell_at" (defScope st_law_cell_at) s.heap.objs.size f cdv)))
    (tk : Takes (XB P w K mg base ["script", "k"] "_law_cell_at" (defScope st_law_cell_at) f cdv A outer s H E) (fun cls d _ H => E cls d H)) (hp : PassesOwn (model P w) (XB P w K mg base ["script", "k"] "_law_cell_at" (defScope st_law_cell_at) f cdv A outer s H E).A (XB P w K mg base ["script", "k"] "_law_cell_at" (defScope st_law_cell_at) f cdv A outer s H E).env (XB P w K mg base ["script", "k"] "_law_cell_at" (defScope st_law_cell_at) f cdv A outer s H E).xe) :
    DSs (XB P w K mg base ["script", "k"] "_law_cell_at" (defScope st_law_cell_at) f cdv A outer s H E) (fun cls d _ H => E cls d H) G (defBody st_law_cell_at) m_law_cell_at :=
  (dss_cons (ds_if (dt_cmp (opLtD hr.units0) (de_var 1 (pv 1)) (de_B cLen (by rfl) T.len (by decide +kernel) (da_cons (de_var 0 (pv 0)) da_nil (by rfl)) (by decide) (by decide) (by rfl) (by rfl)) (nomark _)) (dss_one (ds_ret (de_ix (hu_of hr) (de_var 0 (pv 0)) (de_var 1 (pv 1)) (fun _ _ => rfl)))) dss_nil) (dss_one (ds_ret (de_c pe_int rfl))))
theorem l_law_cell_at : ∀ ds Q E, S_law_cell_at ds Q E → ds.length = 2 := sp2_len rfl
local macro_rules | `(tactic| walk_at "x") => `(tactic| simp only [ltL_iff, pair_iff, colsD_tS, kD_inr, kD_inl, entD_n, entD_s, enI_n, enI_s, enI_iff, encM_eq, rowO_frz, paperO_frz, ent_iff, entl_iff, paper_iff, oD_n, oD_s, nats_nL, oL_snoc, oL_len, oL_take, oL_drop, drs_snoc, lts_snoc, nearD_n, nearD_s, near_iff, wholeB_int, sortedF_s, oDs_frz, wyD_eq])
theorem w_law_cell_at : ∀ ds Q E, S_law_cell_at ds Q E → m_law_cell_at (enD Q E) (startD ["script", "k"] ds) := sp2_w (by
  rintro a0 a1 Q E ⟨ns, rfl, k, rfl, hq⟩
  unfold m_law_cell_at startD
  walk_at "g"
  refine ite_i (fun h => ?_) fun h => ?_
  · have h : k < ns.length := by simpa using h
    walk_at "g"
    refine ⟨_, atI_map_lt _ h, ?_⟩
    rw [List.getElem?_eq_getElem h] at hq
    exact hq
  · have h : ¬ k < ns.length := by simpa using h
    rw [List.getElem?_eq_none (by omega)] at hq
    exact hq)
theorem ok_law_cell_at {P : Program} {w : World} {K : K0} {mg : Str → Option Value} {base : Heap} {f : Addr} {fd : FuncData} (F : FunD K "_law_cell_at" "_law_cell_at" (defArgs st_law_cell_at) (defBody st_law_cell_at) (defScope st_law_cell_at) [] [] f fd) (g : mg "_law_cell_at" = some (.ref f)) (T : Gb mg) : FnAt P w K mg base 1 "_law_cell_at" ["script", "k"] [] S_law_cell_at :=
  fnAt F g sc_law_cell_at (fun _ _ _ _ _ _ us hl => match us, hl with | [_, _], _ => rfl) l_law_cell_at (fun cdv A outer s H E G hr tk hp => d_law_cell_at T cdv A outer s H E G hr tk hp) w_law_cell_at
/-! law_mix -/
def f_law_mix : D → D → (R → Prop) → (Str → Prop) → Prop := fun a b Q E => ∃ z : Int, a = .int z ∧ ∃ k : Nat, b = .int k ∧ k ≤ 100000 ∧ ∀ m : Nat, Q (.v (.int m))
def S_law_mix : Spec := sp2 f_law_mix
theorem e_law_mix (x0 x1 : D) (Q : R → Prop) (E : Str → Prop) : S_law_mix [x0, x1] Q E = f_law_mix x0 x1 Q E := rfl
abbrev st_law_mix : Stmt := top 18
def m_law_mix : WS := (wSq (wLet 2 (wMod (wAdd (wMul (wMod (wVar 0) (wC (.int 2147483647))) (wAdd (wMul (wVar 1) (wVar 1)) (wC (.int 48271)))) (wVar 1)) (wC (.int 2147483629)))) (wRet (wDiv (wMod (wMul (wVar 2) (wVar 2)) (wC (.int 2147483587))) (wC (.int 3)))))
theorem sc_law_mix : FnScope ["cell", "k", "number"] ["cell", "k"] (defScope st_law_mix) := ⟨rfl, rfl, rfl, by decide +kernel, rfl, by decide +kernel, by decide +kernel⟩
theorem d_law_mix {P : Program} {w : World} {K : K0} {mg : Str → Option Value} {base : Heap} (T : Gb mg) {f : Addr} (cdv : Value) (A : Around) (outer : List PySem.Env) (s : Shared) (H : Hp) (E : XK) (G : Hp) (hr : Room 0 (A.deeper (envOfC "_law_mix" (defScope st_law_mix) s.heap.objs.size f cdv)))
    (tk : Takes (XB P w K mg base ["cell", "k", "number"] "_law_mix" (defScope st_law_mix) f cdv A outer s H E) (fun cls d _ H => E cls d H)) (hp : PassesOwn (model P w) (XB P w K mg base ["cell", "k", "number"] "_law_mix" (defScope st_law_mix) f cdv A outer s H E).A (XB P w K mg base ["cell", "k", "number"] "_law_mix" (defScope st_law_mix) f cdv A outer s H E).env (XB P w K mg base ["cell", "k", "number"] "_law_mix" (defScope st_law_mix) f cdv A outer s H E).xe) :
    DSs (XB P w K mg base ["cell", "k", "number"] "_law_mix" (defScope st_law_mix) f cdv A outer s H E) (fun cls d _ H => E cls d H) G (defBody st_law_mix) m_law_mix :=
  (dss_cons (ds_let (i := 2) sc_law_mix.nd rfl (by first | exact Or.inl rfl | exact Or.inr rfl) (de_mod (de_add (de_mul (de_mod (de_var 0 (pv 0)) (de_c pe_int rfl)) (de_add (de_mul (de_var 1 (pv 1)) (de_var 1 (pv 1))) (de_c pe_int rfl))) (de_var 1 (pv 1))) (de_c pe_int rfl)) (by rfl) (by first | exact Or.inl rfl | exact Or.inr rfl)) (dss_one (ds_ret (de_div (de_mod (de_mul (de_var 2 (pv 2)) (de_var 2 (pv 2))) (de_c pe_int rfl)) (de_c pe_int rfl)))))
theorem l_law_mix : ∀ ds Q E, S_law_mix ds Q E → ds.length = 2 := sp2_len rfl
local macro_rules | `(tactic| walk_at "x") => `(tactic| simp only [ltL_iff, pair_iff, colsD_tS, kD_inr, kD_inl, entD_n, entD_s, enI_n, enI_s, enI_iff, encM_eq, rowO_frz, paperO_frz, ent_iff, entl_iff, paper_iff, oD_n, oD_s, nats_nL, oL_snoc, oL_len, oL_take, oL_drop, drs_snoc, lts_snoc, nearD_n, nearD_s, near_iff, wholeB_int, sortedF_s, oDs_frz, wyD_eq])
theorem w_law_mix : ∀ ds Q E, S_law_mix ds Q E → m_law_mix (enD Q E) (startD ["cell", "k", "number"] ds) := sp2_w (by
  rintro a0 a1 Q E ⟨z, rfl, k, rfl, hk, hq⟩
  unfold m_law_mix startD
  walk_at "g"
  generalize hn : (z % 2147483647 * (↑k * ↑k + 48271) + ↑k) % 2147483629 = n
  have h0 : 0 ≤ n * n % 2147483587 / 3 := by omega
  have := hq (n * n % 2147483587 / 3).toNat
  rwa [Int.toNat_of_nonneg h0] at this)
theorem ok_law_mix {P : Program} {w : World} {K : K0} {mg : Str → Option Value} {base : Heap} {f : Addr} {fd : FuncData} (F : FunD K "_law_mix" "_law_mix" (defArgs st_law_mix) (defBody st_law_mix) (defScope st_law_mix) [] [] f fd) (g : mg "_law_mix" = some (.ref f)) (T : Gb mg) : FnAt P w K mg base 1 "_law_mix" ["cell", "k"] [] S_law_mix :=
  fnAt F g sc_law_mix (fun _ _ _ _ _ _ us hl => match us, hl with | [_, _], _ => rfl) l_law_mix (fun cdv A outer s H E G hr tk hp => d_law_mix T cdv A outer s H E G hr tk hp) w_law_mix
/-! law_sign -/
--uses MH
def f_law_sign : D → (R → Prop) → (Str → Prop) → Prop := fun a Q E => ∃ n : Int, a = .int n ∧ Q (.v (.str (tS [menuA.getD (n % 94).toNat 0])))
def S_law_sign : Spec := sp1 f_law_sign
theorem e_law_sign (x0 : D) (Q : R → Prop) (E : Str → Prop) : S_law_sign [x0] Q E = f_law_sign x0 Q E := rfl
abbrev st_law_sign : Stmt := top 19
def m_law_sign : WS := (wSq (wLet 1 (wC (.str (tS [32, 33, 34, 35, 36, 38, 39, 40, 41, 42, 43, 44, 45, 46, 47, 48, 49, 50, 51, 52, 53, 54, 55, 56, 57, 58, 59, 60, 61, 62, 63, 64, 65, 66, 67, 68, 69, 70, 71, 72, 73, 74, 75, 76, 77, 78, 79, 80, 81, 82, 83, 84, 85, 86, 87, 88, 89, 90, 91, 92, 93, 94, 95, 96])))) (wSq (wLet 1 (wAdd (wVar 1) (wC (.str (tS [97, 98, 99, 100, 101, 102, 103, 104, 105, 106, 107, 108, 109, 110, 111, 112, 113, 114, 115, 116, 117, 118, 119, 120, 121, 122, 123, 124, 125, 126]))))) (wRet (wIx (wVar 1) (wMod (wVar 0) (wC (.int 94)))))))
theorem sc_law_sign : FnScope ["number", "some"] ["number"] (defScope st_law_sign) := ⟨rfl, rfl, rfl, by decide +kernel, rfl, by decide +kernel, by decide +kernel⟩
theorem d_law_sign {P : Program} {w : World} {K : K0} {mg : Str → Option Value} {base : Heap} (T : Gb mg) {f : Addr} (cdv : Value) (A : Around) (outer : List PySem.Env) (s : Shared) (H : Hp) (E : XK) (G : Hp) (hr : Room 0 (A.deeper (envOfC "_law_sign" (defScope st_law_sign) s.heap.objs.size f cdv)))
    (tk : Takes (XB P w K mg base ["number", "some"] "_law_sign" (defScope st_law_sign) f cdv A outer s H E) (fun cls d _ H => E cls d H)) (hp : PassesOwn (model P w) (XB P w K mg base ["number", "some"] "_law_sign" (defScope st_law_sign) f cdv A outer s H E).A (XB P w K mg base ["number", "some"] "_law_sign" (defScope st_law_sign) f cdv A outer s H E).env (XB P w K mg base ["number", "some"] "_law_sign" (defScope st_law_sign) f cdv A outer s H E).xe) :
    DSs (XB P w K mg base ["number", "some"] "_law_sign" (defScope st_law_sign) f cdv A outer s H E) (fun cls d _ H => E cls d H) G (defBody st_law_sign) m_law_sign :=
  (dss_cons (ds_let (i := 1) sc_law_sign.nd rfl (by first | exact Or.inl rfl | exact Or.inr rfl) (de_c (d := .str (tS [32, 33, 34, 35, 36, 38, 39, 40, 41, 42, 43, 44, 45, 46, 47, 48, 49, 50, 51, 52, 53, 54, 55, 56, 57, 58, 59, 60, 61, 62, 63, 64, 65, 66, 67, 68, 69, 70, 71, 72, 73, 74, 75, 76, 77, 78, 79, 80, 81, 82, 83, 84, 85, 86, 87, 88, 89, 90, 91, 92, 93, 94, 95, 96])) (v := .str (tS [32, 33, 34, 35, 36, 38, 39, 40, 41, 42, 43, 44, 45, 46, 47, 48, 49, 50, 51, 52, 53, 54, 55, 56, 57, 58, 59, 60, 61, 62, 63, 64, 65, 66, 67, 68, 69, 70, 71, 72, 73, 74, 75, 76, 77, 78, 79, 80, 81, 82, 83, 84, 85, 86, 87, 88, 89, 90, 91, 92, 93, 94, 95, 96])) pe_str rfl) (by rfl) (by first | exact Or.inl rfl | exact Or.inr rfl)) (dss_cons (ds_let (i := 1) sc_law_sign.nd rfl (by first | exact Or.inl rfl | exact Or.inr rfl) (de_add (de_var 1 (pv 1)) (de_c (d := .str (tS [97, 98, 99, 100, 101, 102, 103, 104, 105, 106, 107, 108, 109, 110, 111, 112, 113, 114, 115, 116, 117, 118, 119, 120, 121, 122, 123, 124, 125, 126])) (v := .str (tS [97, 98, 99, 100, 101, 102, 103, 104, 105, 106, 107, 108, 109, 110, 111, 112, 113, 114, 115, 116, 117, 118, 119, 120, 121, 122, 123, 124, 125, 126])) pe_str rfl)) (by rfl) (by first | exact Or.inl rfl | exact Or.inr rfl)) (dss_one (ds_ret (de_ix (hu_of hr) (de_var 1 (pv 1)) (de_mod (de_var 0 (pv 0)) (de_c pe_int rfl)) (fun _ _ => rfl))))))
theorem l_law_sign : ∀ ds Q E, S_law_sign ds Q E → ds.length = 1 := sp1_len rfl
local macro_rules | `(tactic| walk_at "x") => `(tactic| simp only [ltL_iff, pair_iff, colsD_tS, kD_inr, kD_inl, entD_n, entD_s, enI_n, enI_s, enI_iff, encM_eq, rowO_frz, paperO_frz, ent_iff, entl_iff, paper_iff, oD_n, oD_s, nats_nL, oL_snoc, oL_len, oL_take, oL_drop, drs_snoc, lts_snoc, nearD_n, nearD_s, near_iff, wholeB_int, sortedF_s, oDs_frz, wyD_eq])
theorem w_law_sign : ∀ ds Q E, S_law_sign ds Q E → m_law_sign (enD Q E) (startD ["number", "some"] ds) := sp1_w (by
  rintro a0 Q E ⟨n, rfl, hq⟩
  unfold m_law_sign startD
  walk_at "h"
  walk_at "h"
  refine ⟨menuA.getD (n % 94).toNat 0, ?_, hq⟩
  have e : (n % 94).toNat < menuA.length := by rw [menu_len]; omega
  rw [List.getD_eq_getElem?_getD, List.getElem?_eq_getElem e]
  have e2 := atI_lt (xs := menuA) e
  rwa [show (((n % 94).toNat : Nat) : Int) = n % 94 from by omega] at e2)
theorem ok_law_sign {P : Program} {w : World} {K : K0} {mg : Str → Option Value} {base : Heap} {f : Addr} {fd : FuncData} (F : FunD K "_law_sign" "_law_sign" (defArgs st_law_sign) (defBody st_law_sign) (defScope st_law_sign) [] [] f fd) (g : mg "_law_sign" = some (.ref f)) (T : Gb mg) : FnAt P w K mg base 1 "_law_sign" ["number"] [] S_law_sign :=
  fnAt F g sc_law_sign (fun _ _ _ _ _ _ us hl => match us, hl with | [_], _ => rfl) l_law_sign (fun cdv A outer s H E G hr tk hp => d_law_sign T cdv A outer s H E G hr tk hp) w_law_sign
/-! law_signs -/
--uses MH
def f_law_signs : D → D → (R → Prop) → (Str → Prop) → Prop := fun a b Q E => ∃ z : Int, a = .int z ∧ ∃ n : Nat, b = .int n ∧ n ≤ 9 ∧ ∀ ss : List Nat, ss.length = n → (∀ s ∈ ss, okSg s) → ss.Nodup → Q (.t (.lst (oL ss)))
def S_law_signs : Spec := sp2 f_law_signs
theorem e_law_signs (x0 x1 : D) (Q : R → Prop) (E : Str → Prop) : S_law_signs [x0, x1] Q E = f_law_signs x0 x1 Q E := rfl
abbrev st_law_signs : Stmt := top 20
def m_law_signs : WS := (wSq (wLet 2 (wCall S_law_mix [] (waC (wVar 0) (waC (wC (.int 0)) waN)))) (wSq (wAsg 3 (wLst waN)) (wSq (wFor (wiR1 (wVar 1)) (gN 4) (wSq (wApp 3 (wCall S_law_sign [] (waC (wVar 2) waN))) (wLet 2 (wAdd (wAdd (wVar 2) (wC (.int 1))) (wMod (wCall S_law_mix [] (waC (wVar 0) (waC (wAdd (wVar 4) (wC (.int 1))) waN))) (wC (.int 11))))))) (wRet (wVar 3)))))
theorem sc_law_signs : FnScope ["cell", "many", "at", "found", "k"] ["cell", "many"] (defScope st_law_signs) := ⟨rfl, rfl, rfl, by decide +kernel, rfl, by decide +kernel, by decide +kernel⟩
theorem d_law_signs {P : Program} {w : World} {K : K0} {mg : Str → Option Value} {base : Heap} (T : Gb mg) (F_law_mix : FnAt P w K mg base 1 "_law_mix" ["cell", "k"] [] S_law_mix) (F_law_sign : FnAt P w K mg base 1 "_law_sign" ["number"] [] S_law_sign) {f : Addr} (cdv : Value) (A : Around) (outer : List PySem.Env) (s : Shared) (H : Hp) (E : XK) (G : Hp) (hr : Room 1 (A.deeper (envOfC "_law_signs" (defScope st_law_signs) s.heap.objs.size f cdv)))
    (tk : Takes (XB P w K mg base ["cell", "many", "at", "found", "k"] "_law_signs" (defScope st_law_signs) f cdv A outer s H E) (fun cls d _ H => E cls d H)) (hp : PassesOwn (model P w) (XB P w K mg base ["cell", "many", "at", "found", "k"] "_law_signs" (defScope st_law_signs) f cdv A outer s H E).A (XB P w K mg base ["cell", "many", "at", "found", "k"] "_law_signs" (defScope st_law_signs) f cdv A outer s H E).env (XB P w K mg base ["cell", "many", "at", "found", "k"] "_law_signs" (defScope st_law_signs) f cdv A outer s H E).xe) :
    DSs (XB P w K mg base ["cell", "many", "at", "found", "k"] "_law_signs" (defScope st_law_signs) f cdv A outer s H E) (fun cls d _ H => E cls d H) G (defBody st_law_signs) m_law_signs :=
  (dss_cons (ds_let (i := 2) sc_law_signs.nd rfl (by first | exact Or.inl rfl | exact Or.inr rfl) (de_call' F_law_mix hr (by decide) (by rfl) (fun _ => .nil) tk (da_cons (de_var 0 (pv 0)) (da_cons (de_c pe_int rfl) da_nil (by rfl)) (by rfl)) (by decide) (by rfl) (by rfl)) (by rfl) (by first | exact Or.inl rfl | exact Or.inr rfl)) (dss_cons (ds_set (i := 3) sc_law_signs.nd rfl (by first | exact Or.inl rfl | exact Or.inr rfl) (de_lst da_nil) (by rfl) (by first | exact Or.inl rfl | exact Or.inr rfl)) (dss_cons (ds_for (vs := [4]) hp rfl (di_range1 (by rfl) T.range (de_var 1 (pv 1)) (by rfl) (by rfl)) (dg_name (i := 4) (by decide) sc_law_signs.nd rfl (by first | exact Or.inl rfl | exact Or.inr rfl) (by first | exact Or.inl rfl | exact Or.inr rfl)) (dss_cons (ds_app (i := 3) (pv 3) (de_call' F_law_sign hr (by decide) (by rfl) (fun _ => .nil) tk (da_cons (de_var 2 (pv 2)) da_nil (by rfl)) (by decide) (by rfl) (by rfl)) (by rfl) (by rfl) (by rfl) (by rfl) (by rfl) (by rfl)) (dss_one (ds_let (i := 2) sc_law_signs.nd rfl (by first | exact Or.inl rfl | exact Or.inr rfl) (de_add (de_add (de_var 2 (pv 2)) (de_c pe_int rfl)) (de_mod (de_call' F_law_mix hr (by decide) (by rfl) (fun _ => .nil) tk (da_cons (de_var 0 (pv 0)) (da_cons (de_add (de_var 4 (pv 4)) (de_c pe_int rfl)) da_nil (by rfl)) (by rfl)) (by decide) (by rfl) (by rfl)) (de_c pe_int rfl))) (by rfl) (by first | exact Or.inl rfl | exact Or.inr rfl)))) (by intro _; rfl)) (dss_one (ds_ret (de_var 3 (pv 3)))))))
theorem l_law_signs : ∀ ds Q E, S_law_signs ds Q E → ds.length = 2 := sp2_len rfl
local macro_rules | `(tactic| walk_at "x") => `(tactic| simp only [e_law_mix, f_law_mix, e_law_sign, f_law_sign, ltL_iff, pair_iff, colsD_tS, kD_inr, kD_inl, entD_n, entD_s, enI_n, enI_s, enI_iff, encM_eq, rowO_frz, paperO_frz, ent_iff, entl_iff, paper_iff, oD_n, oD_s, nats_nL, oL_snoc, oL_len, oL_take, oL_drop, drs_snoc, lts_snoc, nearD_n, nearD_s, near_iff, wholeB_int, sortedF_s, oDs_frz, wyD_eq])
theorem w_law_signs : ∀ ds Q E, S_law_signs ds Q E → m_law_signs (enD Q E) (startD ["cell", "many", "at", "found", "k"] ds) := sp2_w (by
  rintro a0 a1 Q E ⟨z, rfl, n, rfl, hn, hq⟩
  unfold m_law_signs startD
  walk_at "h"
  intro a0
  walk_at "h"
  have hm : (11 : Nat) = 2 ∨ ((11 : Nat) = 11 ∧ n ≤ 9) := .inr ⟨rfl, hn⟩
  refine for_gs [2, 3, 4] (fun x : Nat × List Nat × Option O => [some (.fro (.int x.1)), some (.lst (oL (x.2.1.map fun a => menuA.getD (a % 94) 0))), x.2.2]) (fun k x => x.2.1.length = k ∧ (a0 ≤ x.1 ∧ x.1 ≤ a0 + 11 * k) ∧ x.2.1.Pairwise (· < ·) ∧ ∀ a ∈ x.2.1, a0 ≤ a ∧ a < x.1 ∧ a + 11 ≤ a0 + 11 * k) (a0, [], none) rfl ⟨rfl, by simp, .nil, by simp⟩ ?_ ?_
  · rintro k d ⟨a, ats, o1⟩ hd ⟨i1, i2, i3, i4⟩
    obtain ⟨rfl, hk⟩ := range_get hd
    simp only at i1 i2 i3 i4
    walk_at "h"
    refine ⟨d + 1, by omega, by omega, fun p => ⟨by omega, ?_⟩⟩
    have hp : p % 11 < 11 := Nat.mod_lt _ (by omega)
    have e : (a : Int) + 1 + (p : Int) % 11 = ((a + 1 + p % 11 : Nat) : Int) := by push_cast; rfl
    rw [e]
    have hms : 11 * (d + 1) = 11 * d + 11 := Nat.mul_succ 11 d
    · refine nxF (a + 1 + p % 11, ats ++ [a], _) (by rw [List.map_append]; rfl) ⟨by simp [i1], by simp only; omega, ?_, ?_⟩
      · refine List.pairwise_append.mpr ⟨i3, List.pairwise_singleton _ _, fun x mx y my => ?_⟩
        rw [List.mem_singleton] at my
        subst my
        exact (i4 x mx).2.1
      · intro x mx
        simp only at mx ⊢
        rcases List.mem_append.mp mx with mx | mx
        · have := i4 x mx
          omega
        · rw [List.mem_singleton] at mx
          omega
  · rintro ⟨a, ats, o1⟩ ⟨i1, i2, i3, i4⟩
    simp only [List.length_range] at i1 i2 i3 i4
    walk_at "h"
    refine hq _ (by rw [List.length_map, i1]) (fun s m => ?_) (menu_window (a0 := a0) i3 fun a m => ?_)
    · obtain ⟨a, _, rfl⟩ := List.mem_map.mp m
      exact menu_at
    · have := i4 a m
      omega)
theorem ok_law_signs {P : Program} {w : World} {K : K0} {mg : Str → Option Value} {base : Heap} {f : Addr} {fd : FuncData} (F : FunD K "_law_signs" "_law_signs" (defArgs st_law_signs) (defBody st_law_signs) (defScope st_law_signs) [] [] f fd) (g : mg "_law_signs" = some (.ref f)) (T : Gb mg) (F_law_mix : FnAt P w K mg base 1 "_law_mix" ["cell", "k"] [] S_law_mix) (F_law_sign : FnAt P w K mg base 1 "_law_sign" ["number"] [] S_law_sign) : FnAt P w K mg base 2 "_law_signs" ["cell", "many"] [] S_law_signs :=
  fnAt F g sc_law_signs (fun _ _ _ _ _ _ us hl => match us, hl with | [_, _], _ => rfl) l_law_signs (fun cdv A outer s H E G hr tk hp => d_law_signs T F_law_mix F_law_sign cdv A outer s H E G hr tk hp) w_law_signs
/-! law_sizes -/
--uses MH
def f_law_sizes : D → (R → Prop) → (Str → Prop) → Prop := fun a Q E => ∃ z : Int, a = .int z ∧ ∀ h n w r : Nat, 1 ≤ h → h ≤ 60 → 1 ≤ n → n ≤ 8 → 1 ≤ w → w ≤ 8 → 1 ≤ r → r ≤ 40 → Q (.t (.lst [.int h, .int n, .int w, .int r]))
def S_law_sizes : Spec := sp1 f_law_sizes
theorem e_law_sizes (x0 : D) (Q : R → Prop) (E : Str → Prop) : S_law_sizes [x0] Q E = f_law_sizes x0 Q E := rfl
abbrev st_law_sizes : Stmt := top 21
def m_law_sizes : WS := (wSq (wLet 1 (wAdd (wC (.int 1)) (wMod (wCall S_law_mix [] (waC (wVar 0) (waC (wC (.int 1)) waN))) (wC (.int 5))))) (wSq (wLet 2 (wAdd (wC (.int 1)) (wMod (wCall S_law_mix [] (waC (wVar 0) (waC (wC (.int 2)) waN))) (wC (.int 4))))) (wSq (wLet 3 (wC (.int 3))) (wSq (wLet 4 (wAdd (wC (.int 1)) (wMod (wCall S_law_mix [] (waC (wVar 0) (waC (wC (.int 3)) waN))) (wC (.int 4))))) (wSqM (wIf (c2 cEq (wMod (wVar 0) (wC (.int 8))) (wC (.int 1))) (wLet 1 (wAdd (wC (.int 1)) (wMod (wCall S_law_mix [] (waC (wVar 0) (waC (wC (.int 4)) waN))) (wC (.int 60))))) wNil) (wSqM (wIf (c2 cEq (wMod (wVar 0) (wC (.int 8))) (wC (.int 2))) (wLet 2 (wAdd (wC (.int 1)) (wMod (wCall S_law_mix [] (waC (wVar 0) (waC (wC (.int 4)) waN))) (wC (.int 8))))) wNil) (wSqM (wIf (c2 cEq (wMod (wVar 0) (wC (.int 8))) (wC (.int 3))) (wSq (wLet 3 (wC (.int 8))) (wLet 1 (wAdd (wC (.int 1)) (wMod (wCall S_law_mix [] (waC (wVar 0) (waC (wC (.int 4)) waN))) (wC (.int 12)))))) wNil) (wSqM (wIf (c2 cEq (wMod (wVar 0) (wC (.int 8))) (wC (.int 4))) (wSq (wLet 4 (wAdd (wC (.int 1)) (wMod (wCall S_law_mix [] (waC (wVar 0) (waC (wC (.int 4)) waN))) (wC (.int 40))))) (wSq (wLet 2 (wAdd (wC (.int 1)) (wMod (wCall S_law_mix [] (waC (wVar 0) (waC (wC (.int 2)) waN))) (wC (.int 2))))) (wLet 3 (wC (.int 2))))) wNil) (wRet (wLst (waC (wVar 1) (waC (wVar 2) (waC (wVar 3) (waC (wVar 4) waN))))))))))))))
theorem sc_law_sizes : FnScope ["cell", "height", "many", "most", "rooms"] ["cell"] (defScope st_law_sizes) := ⟨rfl, rfl, rfl, by decide +kernel, rfl, by decide +kernel, by decide +kernel⟩
theorem d_law_sizes {P : Program} {w : World} {K : K0} {mg : Str → Option Value} {base : Heap} (T : Gb mg) (F_law_mix : FnAt P w K mg base 1 "_law_mix" ["cell", "k"] [] S_law_mix) {f : Addr} (cdv : Value) (A : Around) (outer : List PySem.Env) (s : Shared) (H : Hp) (E : XK) (G : Hp) (hr : Room 1 (A.deeper (envOfC "_law_sizes" (defScope st_law_sizes) s.heap.objs.size f cdv)))
    (tk : Takes (XB P w K mg base ["cell", "height", "many", "most", "rooms"] "_law_sizes" (defScope st_law_sizes) f cdv A outer s H E) (fun cls d _ H => E cls d H)) (hp : PassesOwn (model P w) (XB P w K mg base ["cell", "height", "many", "most", "rooms"] "_law_sizes" (defScope st_law_sizes) f cdv A outer s H E).A (XB P w K mg base ["cell", "height", "many", "most", "rooms"] "_law_sizes" (defScope st_law_sizes) f cdv A outer s H E).env (XB P w K mg base ["cell", "height", "many", "most", "rooms"] "_law_sizes" (defScope st_law_sizes) f cdv A outer s H E).xe) :
    DSs (XB P w K mg base ["cell", "height", "many", "most", "rooms"] "_law_sizes" (defScope st_law_sizes) f cdv A outer s H E) (fun cls d _ H => E cls d H) G (defBody st_law_sizes) m_law_sizes :=
  (dss_cons (ds_let (i := 1) sc_law_sizes.nd rfl (by first | exact Or.inl rfl | exact Or.inr rfl) (de_add (de_c pe_int rfl) (de_mod (de_call' F_law_mix hr (by decide) (by rfl) (fun _ => .nil) tk (da_cons (de_var 0 (pv 0)) (da_cons (de_c pe_int rfl) da_nil (by rfl)) (by rfl)) (by decide) (by rfl) (by rfl)) (de_c pe_int rfl))) (by rfl) (by first | exact Or.inl rfl | exact Or.inr rfl)) (dss_cons (ds_let (i := 2) sc_law_sizes.nd rfl (by first | exact Or.inl rfl | exact Or.inr rfl) (de_add (de_c pe_int rfl) (de_mod (de_call' F_law_mix hr (by decide) (by rfl) (fun _ => .nil) tk (da_cons (de_var 0 (pv 0)) (da_cons (de_c pe_int rfl) da_nil (by rfl)) (by rfl)) (by decide) (by rfl) (by rfl)) (de_c pe_int rfl))) (by rfl) (by first | exact Or.inl rfl | exact Or.inr rfl)) (dss_cons (ds_let (i := 3) sc_law_sizes.nd rfl (by first | exact Or.inl rfl | exact Or.inr rfl) (de_c pe_int rfl) (by rfl) (by first | exact Or.inl rfl | exact Or.inr rfl)) (dss_cons (ds_let (i := 4) sc_law_sizes.nd rfl (by first | exact Or.inl rfl | exact Or.inr rfl) (de_add (de_c pe_int rfl) (de_mod (de_call' F_law_mix hr (by decide) (by rfl) (fun _ => .nil) tk (da_cons (de_var 0 (pv 0)) (da_cons (de_c pe_int rfl) da_nil (by rfl)) (by rfl)) (by decide) (by rfl) (by rfl)) (de_c pe_int rfl))) (by rfl) (by first | exact Or.inl rfl | exact Or.inr rfl)) (dss_cons (ds_if (dt_cmp (opEqD hr.units) (de_mod (de_var 0 (pv 0)) (de_c pe_int rfl)) (de_c pe_int rfl) (nomark _)) (dss_one (ds_let (i := 1) sc_law_sizes.nd rfl (by first | exact Or.inl rfl | exact Or.inr rfl) (de_add (de_c pe_int rfl) (de_mod (de_call' F_law_mix hr (by decide) (by rfl) (fun _ => .nil) tk (da_cons (de_var 0 (pv 0)) (da_cons (de_c pe_int rfl) da_nil (by rfl)) (by rfl)) (by decide) (by rfl) (by rfl)) (de_c pe_int rfl))) (by rfl) (by first | exact Or.inl rfl | exact Or.inr rfl))) dss_nil) (dss_cons (ds_if (dt_cmp (opEqD hr.units) (de_mod (de_var 0 (pv 0)) (de_c pe_int rfl)) (de_c pe_int rfl) (nomark _)) (dss_one (ds_let (i := 2) sc_law_sizes.nd rfl (by first | exact Or.inl rfl | exact Or.inr rfl) (de_add (de_c pe_int rfl) (de_mod (de_call' F_law_mix hr (by decide) (by rfl) (fun _ => .nil) tk (da_cons (de_var 0 (pv 0)) (da_cons (de_c pe_int rfl) da_nil (by rfl)) (by rfl)) (by decide) (by rfl) (by rfl)) (de_c pe_int rfl))) (by rfl) (by first | exact Or.inl rfl | exact Or.inr rfl))) dss_nil) (dss_cons (ds_if (dt_cmp (opEqD hr.units) (de_mod (de_var 0 (pv 0)) (de_c pe_int rfl)) (de_c pe_int rfl) (nomark _)) (dss_cons (ds_let (i := 3) sc_law_sizes.nd rfl (by first | exact Or.inl rfl | exact Or.inr rfl) (de_c pe_int rfl) (by rfl) (by first | exact Or.inl rfl | exact Or.inr rfl)) (dss_one (ds_let (i := 1) sc_law_sizes.nd rfl (by first | exact Or.inl rfl | exact Or.inr rfl) (de_add (de_c pe_int rfl) (de_mod (de_call' F_law_mix hr (by decide) (by rfl) (fun _ => .nil) tk (da_cons (de_var 0 (pv 0)) (da_cons (de_c pe_int rfl) da_nil (by rfl)) (by rfl)) (by decide) (by rfl) (by rfl)) (de_c pe_int rfl))) (by rfl) (by first | exact Or.inl rfl | exact Or.inr rfl)))) dss_nil) (dss_cons (ds_if (dt_cmp (opEqD hr.units) (de_mod (de_var 0 (pv 0)) (de_c pe_int rfl)) (de_c pe_int rfl) (nomark _)) (dss_cons (ds_let (i := 4) sc_law_sizes.nd rfl (by first | exact Or.inl rfl | exact Or.inr rfl) (de_add (de_c pe_int rfl) (de_mod (de_call' F_law_mix hr (by decide) (by rfl) (fun _ => .nil) tk (da_cons (de_var 0 (pv 0)) (da_cons (de_c pe_int rfl) da_nil (by rfl)) (by rfl)) (by decide) (by rfl) (by rfl)) (de_c pe_int rfl))) (by rfl) (by first | exact Or.inl rfl | exact Or.inr rfl)) (dss_cons (ds_let (i := 2) sc_law_sizes.nd rfl (by first | exact Or.inl rfl | exact Or.inr rfl) (de_add (de_c pe_int rfl) (de_mod (de_call' F_law_mix hr (by decide) (by rfl) (fun _ => .nil) tk (da_cons (de_var 0 (pv 0)) (da_cons (de_c pe_int rfl) da_nil (by rfl)) (by rfl)) (by decide) (by rfl) (by rfl)) (de_c pe_int rfl))) (by rfl) (by first | exact Or.inl rfl | exact Or.inr rfl)) (dss_one (ds_let (i := 3) sc_law_sizes.nd rfl (by first | exact Or.inl rfl | exact Or.inr rfl) (de_c pe_int rfl) (by rfl) (by first | exact Or.inl rfl | exact Or.inr rfl))))) dss_nil) (dss_one (ds_ret (de_lst (da_cons (de_var 1 (pv 1)) (da_cons (de_var 2 (pv 2)) (da_cons (de_var 3 (pv 3)) (da_cons (de_var 4 (pv 4)) da_nil (by rfl)) (by rfl)) (by rfl)) (by rfl)))))))))))))
theorem l_law_sizes : ∀ ds Q E, S_law_sizes ds Q E → ds.length = 1 := sp1_len rfl
local macro_rules | `(tactic| walk_at "x") => `(tactic| simp only [e_law_mix, f_law_mix, ltL_iff, pair_iff, colsD_tS, kD_inr, kD_inl, entD_n, entD_s, enI_n, enI_s, enI_iff, encM_eq, rowO_frz, paperO_frz, ent_iff, entl_iff, paper_iff, oD_n, oD_s, nats_nL, oL_snoc, oL_len, oL_take, oL_drop, drs_snoc, lts_snoc, nearD_n, nearD_s, near_iff, wholeB_int, sortedF_s, oDs_frz, wyD_eq])
theorem w_law_sizes : ∀ ds Q E, S_law_sizes ds Q E → m_law_sizes (enD Q E) (startD ["cell", "height", "many", "most", "rooms"] ds) := sp1_w (by
  rintro a0 Q E ⟨z, rfl, hq⟩
  unfold m_law_sizes startD
  walk_at "h"
  intro m1
  walk_at "h"
  intro m2
  walk_at "h"
  intro m3
  walk_at "h"
  refine wSqM_by [1, 2, 3, 4] (fun x : Nat × Nat × Nat × Nat => [some (.fro (.int x.1)), some (.fro (.int x.2.1)), some (.fro (.int x.2.2.1)), some (.fro (.int x.2.2.2))]) (fun x => 1 ≤ x.1 ∧ x.1 ≤ 60 ∧ 1 ≤ x.2.1 ∧ x.2.1 ≤ 8 ∧ 1 ≤ x.2.2.1 ∧ x.2.2.1 ≤ 8 ∧ 1 ≤ x.2.2.2 ∧ x.2.2.2 ≤ 40) ?_ fun x hx => ?_
  · walk_at "h"
    refine ite_i (fun _ => ?_) fun _ => ?_
    · walk_at "h"
      intro m
      walk_at "h"
      exact ⟨(1 + m % 60, 1 + m2 % 4, 3, 1 + m3 % 4), by simp [setL], by simp only; omega, by simp only; omega, by simp only; omega, by simp only; omega, by simp only; omega, by simp only; omega, by simp only; omega, by simp only; omega⟩
    · exact ⟨(1 + m1 % 5, 1 + m2 % 4, 3, 1 + m3 % 4), by simp [setL], by simp only; omega, by simp only; omega, by simp only; omega, by simp only; omega, by simp only; omega, by simp only; omega, by simp only; omega, by simp only; omega⟩
  obtain ⟨h, n, w, r⟩ := x
  simp only at hx
  obtain ⟨b1, b2, b3, b4, b5, b6, b7, b8⟩ := hx
  walk_at "h"
  refine wSqM_by [1, 2, 3, 4] (fun x : Nat × Nat × Nat × Nat => [some (.fro (.int x.1)), some (.fro (.int x.2.1)), some (.fro (.int x.2.2.1)), some (.fro (.int x.2.2.2))]) (fun x => 1 ≤ x.1 ∧ x.1 ≤ 60 ∧ 1 ≤ x.2.1 ∧ x.2.1 ≤ 8 ∧ 1 ≤ x.2.2.1 ∧ x.2.2.1 ≤ 8 ∧ 1 ≤ x.2.2.2 ∧ x.2.2.2 ≤ 40) ?_ fun x hx => ?_
  · walk_at "h"
    refine ite_i (fun _ => ?_) fun _ => ?_
    · walk_at "h"
      intro m
      walk_at "h"
      exact ⟨(h, 1 + m % 8, w, r), by simp [setL], by simp only; omega, by simp only; omega, by simp only; omega, by simp only; omega, by simp only; omega, by simp only; omega, by simp only; omega, by simp only; omega⟩
    · exact ⟨(h, n, w, r), by simp [setL], by simp only; omega, by simp only; omega, by simp only; omega, by simp only; omega, by simp only; omega, by simp only; omega, by simp only; omega, by simp only; omega⟩
  obtain ⟨h, n, w, r⟩ := x
  simp only at hx
  obtain ⟨b1, b2, b3, b4, b5, b6, b7, b8⟩ := hx
  walk_at "h"
  refine wSqM_by [1, 2, 3, 4] (fun x : Nat × Nat × Nat × Nat => [some (.fro (.int x.1)), some (.fro (.int x.2.1)), some (.fro (.int x.2.2.1)), some (.fro (.int x.2.2.2))]) (fun x => 1 ≤ x.1 ∧ x.1 ≤ 60 ∧ 1 ≤ x.2.1 ∧ x.2.1 ≤ 8 ∧ 1 ≤ x.2.2.1 ∧ x.2.2.1 ≤ 8 ∧ 1 ≤ x.2.2.2 ∧ x.2.2.2 ≤ 40) ?_ fun x hx => ?_
  · walk_at "h"
    refine ite_i (fun _ => ?_) fun _ => ?_
    · walk_at "h"
      intro m
      walk_at "h"
      exact ⟨(1 + m % 12, n, 8, r), by simp [setL], by simp only; omega, by simp only; omega, by simp only; omega, by simp only; omega, by simp only; omega, by simp only; omega, by simp only; omega, by simp only; omega⟩
    · exact ⟨(h, n, w, r), by simp [setL], by simp only; omega, by simp only; omega, by simp only; omega, by simp only; omega, by simp only; omega, by simp only; omega, by simp only; omega, by simp only; omega⟩
  obtain ⟨h, n, w, r⟩ := x
  simp only at hx
  obtain ⟨b1, b2, b3, b4, b5, b6, b7, b8⟩ := hx
  walk_at "h"
  refine wSqM_by [1, 2, 3, 4] (fun x : Nat × Nat × Nat × Nat => [some (.fro (.int x.1)), some (.fro (.int x.2.1)), some (.fro (.int x.2.2.1)), some (.fro (.int x.2.2.2))]) (fun x => 1 ≤ x.1 ∧ x.1 ≤ 60 ∧ 1 ≤ x.2.1 ∧ x.2.1 ≤ 8 ∧ 1 ≤ x.2.2.1 ∧ x.2.2.1 ≤ 8 ∧ 1 ≤ x.2.2.2 ∧ x.2.2.2 ≤ 40) ?_ fun x hx => ?_
  · walk_at "h"
    refine ite_i (fun _ => ?_) fun _ => ?_
    · walk_at "h"
      intro m
      walk_at "h"
      intro p
      walk_at "h"
      exact ⟨(h, 1 + p % 2, 2, 1 + m % 40), by simp [setL], by simp only; omega, by simp only; omega, by simp only; omega, by simp only; omega, by simp only; omega, by simp only; omega, by simp only; omega, by simp only; omega⟩
    · exact ⟨(h, n, w, r), by simp [setL], by simp only; omega, by simp only; omega, by simp only; omega, by simp only; omega, by simp only; omega, by simp only; omega, by simp only; omega, by simp only; omega⟩
  obtain ⟨h, n, w, r⟩ := x
  simp only at hx
  obtain ⟨b1, b2, b3, b4, b5, b6, b7, b8⟩ := hx
  walk_at "h"
  exact hq _ _ _ _ b1 b2 b3 b4 b5 b6 b7 b8)
theorem ok_law_sizes {P : Program} {w : World} {K : K0} {mg : Str → Option Value} {base : Heap} {f : Addr} {fd : FuncData} (F : FunD K "_law_sizes" "_law_sizes" (defArgs st_law_sizes) (defBody st_law_sizes) (defScope st_law_sizes) [] [] f fd) (g : mg "_law_sizes" = some (.ref f)) (T : Gb mg) (F_law_mix : FnAt P w K mg base 1 "_law_mix" ["cell", "k"] [] S_law_mix) : FnAt P w K mg base 2 "_law_sizes" ["cell"] [] S_law_sizes :=
  fnAt F g sc_law_sizes (fun _ _ _ _ _ _ us hl => match us, hl with | [_], _ => rfl) l_law_sizes (fun cdv A outer s H E G hr tk hp => d_law_sizes T F_law_mix cdv A outer s H E G hr tk hp) w_law_sizes
/-! law_column -/
def f_law_column : D → D → D → (R → Prop) → (Str → Prop) → Prop := fun a b c Q E => ∃ z : Int, a = .int z ∧ ∃ k : Nat, b = .int k ∧ k ≤ 10000 ∧ ∃ h : Nat, c = .int h ∧ 1 ≤ h ∧ h ≤ 60 ∧ ∀ m : Nat, m < 2 ^ h → Q (.v (.int m))
def S_law_column : Spec := sp3 f_law_column
theorem e_law_column (x0 x1 x2 : D) (Q : R → Prop) (E : Str → Prop) : S_law_column [x0, x1, x2] Q E = f_law_column x0 x1 x2 Q E := rfl
abbrev st_law_column : Stmt := top 22
def m_law_column : WS := (wRet (wMod (wAdd (wMul (wCall S_law_mix [] (waC (wVar 0) (waC (wVar 1) waN))) (wC (.int 715827883))) (wCall S_law_mix [] (waC (wVar 0) (waC (wAdd (wVar 1) (wC (.int 1))) waN)))) (wShl (wC (.int 1)) (wVar 2))))
theorem sc_law_column : FnScope ["cell", "k", "height"] ["cell", "k", "height"] (defScope st_law_column) := ⟨rfl, rfl, rfl, by decide +kernel, rfl, by decide +kernel, by decide +kernel⟩
theorem d_law_column {P : Program} {w : World} {K : K0} {mg : Str → Option Value} {base : Heap} (T : Gb mg) (F_law_mix : FnAt P w K mg base 1 "_law_mix" ["cell", "k"] [] S_law_mix) {f : Addr} (cdv : Value) (A : Around) (outer : List PySem.Env) (s : Shared) (H : Hp) (E : XK) (G : Hp) (hr : Room 1 (A.deeper (envOfC "_law_column" (defScope st_law_column) s.heap.objs.size f cdv)))
    (tk : Takes (XB P w K mg base ["cell", "k", "height"] "_law_column" (defScope st_law_column) f cdv A outer s H E) (fun cls d _ H => E cls d H)) (hp : PassesOwn (model P w) (XB P w K mg base ["cell", "k", "height"] "_law_column" (defScope st_law_column) f cdv A outer s H E).A (XB P w K mg base ["cell", "k", "height"] "_law_column" (defScope st_law_column) f cdv A outer s H E).env (XB P w K mg base ["cell", "k", "height"] "_law_column" (defScope st_law_column) f cdv A outer s H E).xe) :
    DSs (XB P w K mg base ["cell", "k", "height"] "_law_column" (defScope st_law_column) f cdv A outer s H E) (fun cls d _ H => E cls d H) G (defBody st_law_column) m_law_column :=
  (dss_one (ds_ret (de_mod (de_add (de_mul (de_call' F_law_mix hr (by decide) (by rfl) (fun _ => .nil) tk (da_cons (de_var 0 (pv 0)) (da_cons (de_var 1 (pv 1)) da_nil (by rfl)) (by rfl)) (by decide) (by rfl) (by rfl)) (de_c pe_int rfl)) (de_call' F_law_mix hr (by decide) (by rfl) (fun _ => .nil) tk (da_cons (de_var 0 (pv 0)) (da_cons (de_add (de_var 1 (pv 1)) (de_c pe_int rfl)) da_nil (by rfl)) (by rfl)) (by decide) (by rfl) (by rfl))) (de_shl (de_c pe_int rfl) (de_var 2 (pv 2))))))
theorem l_law_column : ∀ ds Q E, S_law_column ds Q E → ds.length = 3 := sp3_len rfl
local macro_rules | `(tactic| walk_at "x") => `(tactic| simp only [e_law_mix, f_law_mix, ltL_iff, pair_iff, colsD_tS, kD_inr, kD_inl, entD_n, entD_s, enI_n, enI_s, enI_iff, encM_eq, rowO_frz, paperO_frz, ent_iff, entl_iff, paper_iff, oD_n, oD_s, nats_nL, oL_snoc, oL_len, oL_take, oL_drop, drs_snoc, lts_snoc, nearD_n, nearD_s, near_iff, wholeB_int, sortedF_s, oDs_frz, wyD_eq])
theorem w_law_column : ∀ ds Q E, S_law_column ds Q E → m_law_column (enD Q E) (startD ["cell", "k", "height"] ds) := sp3_w (by
  rintro a0 a1 a2 Q E ⟨z, rfl, k, rfl, hk, h, rfl, h1, h60, hq⟩
  unfold m_law_column startD
  walk_at "h"
  walk_at "h"
  intro m
  refine ⟨mul_by (by decide), k + 1, by omega, by omega, fun n => ?_⟩
  have hp : 0 < 2 ^ h := Nat.two_pow_pos h
  refine ⟨cpow_ok (by omega) (by omega) (by decide), by omega, ?_⟩
  have := hq ((m * 715827883 + n) % 2 ^ h) (Nat.mod_lt _ hp)
  rw [Int.natCast_emod, Int.natCast_add, Int.natCast_mul] at this
  exact this)
theorem ok_law_column {P : Program} {w : World} {K : K0} {mg : Str → Option Value} {base : Heap} {f : Addr} {fd : FuncData} (F : FunD K "_law_column" "_law_column" (defArgs st_law_column) (defBody st_law_column) (defScope st_law_column) [] [] f fd) (g : mg "_law_column" = some (.ref f)) (T : Gb mg) (F_law_mix : FnAt P w K mg base 1 "_law_mix" ["cell", "k"] [] S_law_mix) : FnAt P w K mg base 2 "_law_column" ["cell", "k", "height"] [] S_law_column :=
  fnAt F g sc_law_column (fun _ _ _ _ _ _ us hl => match us, hl with | [_, _, _], _ => rfl) l_law_column (fun cdv A outer s H E G hr tk hp => d_law_column T F_law_mix cdv A outer s H E G hr tk hp) w_law_column
/-! law_font -/
--uses MO
def f_law_font : D → D → D → (R → Prop) → (Str → Prop) → Prop := fun a b c Q E => ∃ z : Int, a = .int z ∧ ∃ h n w r : Nat, b = .list [.int h, .int n, .int w, .int r] ∧ ∃ ss : List Nat, c = .list (oL ss) ∧ 1 ≤ h ∧ h ≤ 60 ∧ 1 ≤ n ∧ n ≤ 40 ∧ 1 ≤ w ∧ w ≤ 8 ∧ n ≤ ss.length ∧ (∀ s ∈ ss, okSg s) ∧ ss.Nodup ∧ ∀ f : Font, okFont f → f.1 = h → (f.2.map (·.1)).Perm (ss.take n) → Q (.v (fontD f))
def S_law_font : Spec := sp3 f_law_font
theorem e_law_font (x0 x1 x2 : D) (Q : R → Prop) (E : Str → Prop) : S_law_font [x0, x1, x2] Q E = f_law_font x0 x1 x2 Q E := rfl
abbrev st_law_font : Stmt := top 23
def m_law_font : WS := (wSq (wAsg 3 (wLst waN)) (wSq (wFor (wiR1 (wIx (wVar 1) (wC (.int 1)))) (gN 4) (wSq (wAsg 5 (wLst waN)) (wSq (wFor (wiR1 (wAdd (wC (.int 1)) (wMod (wCall S_law_mix [] (waC (wVar 0) (waC (wAdd (wVar 4) (wC (.int 70))) waN))) (wIx (wVar 1) (wC (.int 2)))))) (gN 6) (wApp 5 (wCall S_law_column [] (waC (wVar 0) (waC (wAdd (wAdd (wMul (wC (.int 16)) (wVar 4)) (wMul (wC (.int 2)) (wVar 6))) (wC (.int 80))) (waC (wIx (wVar 1) (wC (.int 0))) waN)))))) (wApp 3 (wTup (waC (wIx (wVar 2) (wVar 4)) (waC (wB (f1s tupleD) (waC (wVar 5) waN)) waN))))))) (wSqM (wIf (c2 cEq (wMod (wVar 0) (wC (.int 5))) (wC (.int 2))) (wSt 3 (wNeg (wC (.int 1))) (wTup (waC (wIx (wIx (wVar 3) (wNeg (wC (.int 1)))) (wC (.int 0))) (waC (wIx (wIx (wVar 3) (wC (.int 0))) (wC (.int 1))) waN)))) wNil) (wFrz [3] (wRet (wTup (waC (wIx (wVar 1) (wC (.int 0))) (waC (wB (f1s tupleD) (waC (wB (f1s sortedE) (waC (wVar 3) waN)) waN)) waN))))))))
theorem sc_law_font : FnScope ["cell", "sizes", "signs", "letters", "k", "columns", "j"] ["cell", "sizes", "signs"] (defScope st_law_font) := ⟨rfl, rfl, rfl, by decide +kernel, rfl, by decide +kernel, by decide +kernel⟩
theorem d_law_font {P : Program} {w : World} {K : K0} {mg : Str → Option Value} {base : Heap} (T : Gb mg) (F_law_column : FnAt P w K mg base 2 "_law_column" ["cell", "k", "height"] [] S_law_column) (F_law_mix : FnAt P w K mg base 1 "_law_mix" ["cell", "k"] [] S_law_mix) {f : Addr} (cdv : Value) (A : Around) (outer : List PySem.Env) (s : Shared) (H : Hp) (E : XK) (G : Hp) (hr : Room 2 (A.deeper (envOfC "_law_font" (defScope st_law_font) s.heap.objs.size f cdv)))
    (tk : Takes (XB P w K mg base ["cell", "sizes", "signs", "letters", "k", "columns", "j"] "_law_font" (defScope st_law_font) f cdv A outer s H E) (fun cls d _ H => E cls d H)) (hp : PassesOwn (model P w) (XB P w K mg base ["cell", "sizes", "signs", "letters", "k", "columns", "j"] "_law_font" (defScope st_law_font) f cdv A outer s H E).A (XB P w K mg base ["cell", "sizes", "signs", "letters", "k", "columns", "j"] "_law_font" (defScope st_law_font) f cdv A outer s H E).env (XB P w K mg base ["cell", "sizes", "signs", "letters", "k", "columns", "j"] "_law_font" (defScope st_law_font) f cdv A outer s H E).xe) :
    DSs (XB P w K mg base ["cell", "sizes", "signs", "letters", "k", "columns", "j"] "_law_font" (defScope st_law_font) f cdv A outer s H E) (fun cls d _ H => E cls d H) G (defBody st_law_font) m_law_font :=
  (dss_cons (ds_set (i := 3) sc_law_font.nd rfl (by first | exact Or.inl rfl | exact Or.inr rfl) (de_lst da_nil) (by rfl) (by first | exact Or.inl rfl | exact Or.inr rfl)) (dss_cons (ds_for (vs := [4]) hp rfl (di_range1 (by rfl) T.range (de_ix (hu_of hr) (de_var 1 (pv 1)) (de_c pe_int rfl) (fun _ _ => rfl)) (by rfl) (by rfl)) (dg_name (i := 4) (by decide) sc_law_font.nd rfl (by first | exact Or.inl rfl | exact Or.inr rfl) (by first | exact Or.inl rfl | exact Or.inr rfl)) (dss_cons (ds_set (i := 5) sc_law_font.nd rfl (by first | exact Or.inl rfl | exact Or.inr rfl) (de_lst da_nil) (by rfl) (by first | exact Or.inl rfl | exact Or.inr rfl)) (dss_cons (ds_for (vs := [6]) hp rfl (di_range1 (by rfl) T.range (de_add (de_c pe_int rfl) (de_mod (de_call' F_law_mix hr (by decide) (by rfl) (fun _ => .nil) tk (da_cons (de_var 0 (pv 0)) (da_cons (de_add (de_var 4 (pv 4)) (de_c pe_int rfl)) da_nil (by rfl)) (by rfl)) (by decide) (by rfl) (by rfl)) (de_ix (hu_of hr) (de_var 1 (pv 1)) (de_c pe_int rfl) (fun _ _ => rfl)))) (by rfl) (by rfl)) (dg_name (i := 6) (by decide) sc_law_font.nd rfl (by first | exact Or.inl rfl | exact Or.inr rfl) (by first | exact Or.inl rfl | exact Or.inr rfl)) (dss_one (ds_app (i := 5) (pv 5) (de_call' F_law_column hr (by decide) (by rfl) (fun _ => .nil) tk (da_cons (de_var 0 (pv 0)) (da_cons (de_add (de_add (de_mul (de_c pe_int rfl) (de_var 4 (pv 4))) (de_mul (de_c pe_int rfl) (de_var 6 (pv 6)))) (de_c pe_int rfl)) (da_cons (de_ix (hu_of hr) (de_var 1 (pv 1)) (de_c pe_int rfl) (fun _ _ => rfl)) da_nil (by rfl)) (by rfl)) (by rfl)) (by decide) (by rfl) (by rfl)) (by rfl) (by rfl) (by rfl) (by rfl) (by rfl) (by rfl))) (by intro _; rfl)) (dss_one (ds_app (i := 3) (pv 3) (de_tup (da_cons (de_ix (hu_of hr) (de_var 2 (pv 2)) (de_var 4 (pv 4)) (fun _ _ => rfl)) (da_cons (de_T cTuple (by rfl) T.tuple (by decide +kernel) (da_cons (de_var 5 (pv 5)) da_nil (by rfl)) (by decide) (by decide) (by rfl) (by rfl)) da_nil (by rfl)) (by rfl))) (by rfl) (by rfl) (by rfl) (by rfl) (by rfl) (by rfl))))) (by intro _; rfl)) (dss_cons (ds_if (dt_cmp (opEqD hr.units) (de_mod (de_var 0 (pv 0)) (de_c pe_int rfl)) (de_c pe_int rfl) (nomark _)) (dss_one (ds_st (i := 3) (hu_of hr) (pv 3) (de_neg (de_c pe_int rfl)) (de_tup (da_cons (de_ix (hu_of hr) (de_ix (hu_of hr) (de_var 3 (pv 3)) (de_neg (de_c pe_int rfl)) (fun _ _ => rfl)) (de_c pe_int rfl) (fun _ _ => rfl)) (da_cons (de_ix (hu_of hr) (de_ix (hu_of hr) (de_var 3 (pv 3)) (de_c pe_int rfl) (fun _ _ => rfl)) (de_c pe_int rfl) (fun _ _ => rfl)) da_nil (by rfl)) (by rfl))) (by intro _; rfl) (by rfl) (by rfl))) dss_nil) (dss_one (ds_frz [3] (ds_ret (de_tup (da_cons (de_ix (hu_of hr) (de_var 1 (pv 1)) (de_c pe_int rfl) (fun _ _ => rfl)) (da_cons (de_T cTuple (by rfl) T.tuple (by decide +kernel) (da_cons (de_B (cSortedE rfl hr.units) (by rfl) T.sorted (by decide +kernel) (da_cons (de_var 3 (pv 3)) da_nil (by rfl)) (by decide) (by decide) (by rfl) (by rfl)) da_nil (by rfl)) (by decide) (by decide) (by rfl) (by rfl)) da_nil (by rfl)) (by rfl)))))))))
theorem l_law_font : ∀ ds Q E, S_law_font ds Q E → ds.length = 3 := sp3_len rfl
local macro_rules | `(tactic| walk_at "x") => `(tactic| simp only [e_law_column, f_law_column, e_law_mix, f_law_mix, ltL_iff, pair_iff, colsD_tS, kD_inr, kD_inl, entD_n, entD_s, enI_n, enI_s, enI_iff, encM_eq, rowO_frz, paperO_frz, ent_iff, entl_iff, paper_iff, oD_n, oD_s, nats_nL, oL_snoc, oL_len, oL_take, oL_drop, drs_snoc, lts_snoc, nearD_n, nearD_s, near_iff, wholeB_int, sortedF_s, oDs_frz, wyD_eq])
theorem w_law_font : ∀ ds Q E, S_law_font ds Q E → m_law_font (enD Q E) (startD ["cell", "sizes", "signs", "letters", "k", "columns", "j"] ds) := sp3_w (by
  rintro a0 a1 a2 Q E ⟨z, rfl, h, n, w, r, rfl, ss, rfl, h1, h60, n1, n40, w1, w8, hns, hsg, hnd, hq⟩
  unfold m_law_font startD
  walk_at "h"
  refine for_gs [3, 4, 5, 6] (fun x : List Lt × Option O × Option O × Option O => [some (.lst (x.1.map ltD)), x.2.1, x.2.2.1, x.2.2.2]) (fun k x => x.1.map (·.1) = ss.take k ∧ ∀ l ∈ x.1, 1 ≤ l.2.length ∧ l.2.length ≤ 8 ∧ ∀ c ∈ l.2, c < 2 ^ h) ([], none, none, none) rfl (by simp) ?_ ?_
  · rintro k d ⟨ls, o1, o2, o3⟩ hd ⟨i1, i2⟩
    obtain ⟨rfl, hk⟩ := range_get hd
    simp only at i1 i2
    walk_at "h"
    refine ⟨d + 70, by omega, by omega, fun m => ?_⟩
    walk_at "h"
    obtain ⟨u, u1, u2⟩ := emod_nat (a := (m : Int)) (b := (w : Int)) (by omega)
    rw [u1, show (1 + (u : Int)).toNat = u + 1 from by omega]
    refine ⟨by omega, by omega, ?_⟩
    refine for_gs [5, 6] (fun y : List Nat × Option O => [some (.lst (nL y.1)), y.2]) (fun j y => y.1.length = j ∧ ∀ c ∈ y.1, c < 2 ^ h) ([], o3) rfl ⟨rfl, by simp⟩ ?_ ?_
    · rintro j e ⟨cs, o4⟩ hd2 ⟨j1, j2⟩
      obtain ⟨rfl, hj⟩ := range_get hd2
      simp only at j1 j2
      walk_at "h"
      refine ⟨16 * d + 2 * e + 80, by push_cast; rfl, by omega, h1, h60, fun c hc => ⟨by rw [sizeLine_eq]; omega, nxF (cs ++ [c], _) rfl ⟨by simp [j1], fun x m => ?_⟩⟩⟩
      simp only at m
      rcases List.mem_append.mp m with m | m
      · exact j2 x m
      · rw [List.mem_singleton.mp m]; exact hc
    · rintro ⟨cs, o4⟩ ⟨j1, j2⟩
      simp only [List.length_range] at j1 j2
      have hu : u < w := by omega
      have hdl : d < ss.length := by omega
      have hll : ls.length ≤ d := by
        have := congrArg List.length i1
        rw [List.length_map, List.length_take] at this
        omega
      walk_at "h"
      refine ⟨_, oL_at hdl, by decide, by rw [sizeLine_eq]; omega, ?_⟩
      rw [lts_snoc]
      refine nxF (ls ++ [(ss[d], cs)], _, _, _) rfl ⟨?_, fun l m => ?_⟩
      · rw [List.map_append, i1, take_succ (List.getElem?_eq_getElem hdl)]; rfl
      · simp only at m
        rcases List.mem_append.mp m with m | m
        · exact i2 l m
        · rw [List.mem_singleton.mp m]
          exact ⟨by simp only; omega, by simp only; omega, j2⟩
  · rintro ⟨ls, o1, o2, o3⟩ ⟨i1, i2⟩
    simp only [List.length_range] at i1 i2
    walk_at "h"
    refine wSqM_by [3] (fun x : List Lt => [some (.lst (x.map ltD))]) (fun x => x.map (·.1) = ss.take n ∧ ∀ l ∈ x, 1 ≤ l.2.length ∧ l.2.length ≤ 8 ∧ ∀ c ∈ l.2, c < 2 ^ h) ?_ fun ms ⟨j1, j2⟩ => ?_
    · walk_at "h"
      refine ite_i (fun _ => ?_) fun _ => ?_
      · have hn0 : 0 < ls.length := by
          have := congrArg List.length i1
          rw [List.length_map, List.length_take] at this
          omega
        have hne : ls ≠ [] := fun q => by simp [q] at hn0
        walk_at "h"
        refine ⟨_, atI_map_last ltD hne, ?_⟩
        walk_at "h"
        refine ⟨_, atI_map_lt ltD (i := 0) hn0, ?_⟩
        walk_at "h"
        refine ⟨ls.length - 1, ?_, ls.set (ls.length - 1) ((ls.getLast hne).1, ls[0].2), ?_, ?_, ?_⟩
        · unfold ixN; simp; omega
        · rw [List.map_set]
        · rw [List.map_set, ← i1]
          refine List.ext_getElem (by simp) fun i h1 h2 => ?_
          rw [List.getElem_set]
          split
          · subst_vars
            rw [List.getElem_map, List.getLast_eq_getElem]
          · rfl
        · intro l m
          rcases List.mem_or_eq_of_mem_set m with m | rfl
          · exact i2 l m
          · exact i2 ls[0] (List.getElem_mem _)
      · exact ⟨i1, i2⟩
    walk_at "h"
    obtain ⟨so, ms2, e, p, o⟩ := sort_lts ms
    obtain ⟨k1, k2⟩ := okFont_sorted h1 h60 n1 n40 hns j1 j2 hsg hnd p o
    exact .inr (.inr ⟨so, by decide, by rw [e]; exact hq (h, ms2) k1 rfl k2⟩))
theorem ok_law_font {P : Program} {w : World} {K : K0} {mg : Str → Option Value} {base : Heap} {f : Addr} {fd : FuncData} (F : FunD K "_law_font" "_law_font" (defArgs st_law_font) (defBody st_law_font) (defScope st_law_font) [] [] f fd) (g : mg "_law_font" = some (.ref f)) (T : Gb mg) (F_law_column : FnAt P w K mg base 2 "_law_column" ["cell", "k", "height"] [] S_law_column) (F_law_mix : FnAt P w K mg base 1 "_law_mix" ["cell", "k"] [] S_law_mix) : FnAt P w K mg base 3 "_law_font" ["cell", "sizes", "signs"] [] S_law_font :=
  fnAt F g sc_law_font (fun _ _ _ _ _ _ us hl => match us, hl with | [_, _, _], _ => rfl) l_law_font (fun cdv A outer s H E G hr tk hp => d_law_font T F_law_column F_law_mix cdv A outer s H E G hr tk hp) w_law_font
/-! law_chosen -/
--uses M2D
def f_law_chosen : D → D → D → (R → Prop) → (Str → Prop) → Prop := fun a b c Q E => ∃ f : Font, a = fontD f ∧ okFont f ∧ ∃ ns : List Int, b = .list (iL ns) ∧ ns.length ≤ 63 ∧ ∃ w : Nat, c = .int w ∧ w ≤ 10 ∧ ∀ t : List Nat, t.length = ns.length → inF f t → Q (.v (.str (tS t)))
def S_law_chosen : Spec := sp3 f_law_chosen
theorem e_law_chosen (x0 x1 x2 : D) (Q : R → Prop) (E : Str → Prop) : S_law_chosen [x0, x1, x2] Q E = f_law_chosen x0 x1 x2 Q E := rfl
abbrev st_law_chosen : Stmt := top 24
def m_law_chosen : WS := (wSq (wLet 3 (wC (.str (tS [])))) (wSq (wFor (wiA (wVar 1)) (gN 4) (wLet 3 (wAdd (wVar 3) (wIx (wIx (wIx (wVar 0) (wC (.int 1))) (wMod (wDiv (wVar 4) (wAdd (wC (.int 1)) (wMul (wC (.int 7)) (wVar 2)))) (wB (f1 lenD) (waC (wIx (wVar 0) (wC (.int 1))) waN)))) (wC (.int 0)))))) (wRet (wVar 3))))
theorem sc_law_chosen : FnScope ["font", "cells", "way", "text", "cell"] ["font", "cells", "way"] (defScope st_law_chosen) := ⟨rfl, rfl, rfl, by decide +kernel, rfl, by decide +kernel, by decide +kernel⟩
theorem d_law_chosen {P : Program} {w : World} {K : K0} {mg : Str → Option Value} {base : Heap} (T : Gb mg) {f : Addr} (cdv : Value) (A : Around) (outer : List PySem.Env) (s : Shared) (H : Hp) (E : XK) (G : Hp) (hr : Room 0 (A.deeper (envOfC "_law_chosen" (defScope st_law_chosen) s.heap.objs.size f cdv)))
    (tk : Takes (XB P w K mg base ["font", "cells", "way", "text", "cell"] "_law_chosen" (defScope st_law_chosen) f cdv A outer s H E) (fun cls d _ H => E cls d H)) (hp : PassesOwn (model P w) (XB P w K mg base ["font", "cells", "way", "text", "cell"] "_law_chosen" (defScope st_law_chosen) f cdv A outer s H E).A (XB P w K mg base ["font", "cells", "way", "text", "cell"] "_law_chosen" (defScope st_law_chosen) f cdv A outer s H E).env (XB P w K mg base ["font", "cells", "way", "text", "cell"] "_law_chosen" (defScope st_law_chosen) f cdv A outer s H E).xe) :
    DSs (XB P w K mg base ["font", "cells", "way", "text", "cell"] "_law_chosen" (defScope st_law_chosen) f cdv A outer s H E) (fun cls d _ H => E cls d H) G (defBody st_law_chosen) m_law_chosen :=
  (dss_cons (ds_let (i := 3) sc_law_chosen.nd rfl (by first | exact Or.inl rfl | exact Or.inr rfl) (de_c (d := .str (tS [])) (v := .str (tS [])) pe_str rfl) (by rfl) (by first | exact Or.inl rfl | exact Or.inr rfl)) (dss_cons (ds_for (vs := [4]) hp rfl (di_any (de_var 1 (pv 1))) (dg_name (i := 4) (by decide) sc_law_chosen.nd rfl (by first | exact Or.inl rfl | exact Or.inr rfl) (by first | exact Or.inl rfl | exact Or.inr rfl)) (dss_one (ds_let (i := 3) sc_law_chosen.nd rfl (by first | exact Or.inl rfl | exact Or.inr rfl) (de_add (de_var 3 (pv 3)) (de_ix (hu_of hr) (de_ix (hu_of hr) (de_ix (hu_of hr) (de_var 0 (pv 0)) (de_c pe_int rfl) (fun _ _ => rfl)) (de_mod (de_div (de_var 4 (pv 4)) (de_add (de_c pe_int rfl) (de_mul (de_c pe_int rfl) (de_var 2 (pv 2))))) (de_B cLen (by rfl) T.len (by decide +kernel) (da_cons (de_ix (hu_of hr) (de_var 0 (pv 0)) (de_c pe_int rfl) (fun _ _ => rfl)) da_nil (by rfl)) (by decide) (by decide) (by rfl) (by rfl))) (fun _ _ => rfl)) (de_c pe_int rfl) (fun _ _ => rfl))) (by rfl) (by first | exact Or.inl rfl | exact Or.inr rfl))) (by intro _; rfl)) (dss_one (ds_ret (de_var 3 (pv 3))))))
theorem l_law_chosen : ∀ ds Q E, S_law_chosen ds Q E → ds.length = 3 := sp3_len rfl
local macro_rules | `(tactic| walk_at "x") => `(tactic| simp only [ltL_iff, pair_iff, colsD_tS, kD_inr, kD_inl, entD_n, entD_s, enI_n, enI_s, enI_iff, encM_eq, rowO_frz, paperO_frz, ent_iff, entl_iff, paper_iff, oD_n, oD_s, nats_nL, oL_snoc, oL_len, oL_take, oL_drop, drs_snoc, lts_snoc, nearD_n, nearD_s, near_iff, wholeB_int, sortedF_s, oDs_frz, wyD_eq])
theorem w_law_chosen : ∀ ds Q E, S_law_chosen ds Q E → m_law_chosen (enD Q E) (startD ["font", "cells", "way", "text", "cell"] ds) := sp3_w (by
  rintro a0 a1 a2 Q E ⟨f, rfl, hf, ns, rfl, hl, w, rfl, hw, hq⟩
  unfold m_law_chosen startD
  walk_at "h"
  have sz := sizeLine_eq
  walk_at "h"
  refine for_gs (enc := PyData.int) [3, 4] (fun y : List Nat × Option O => [some (.fro (.str (tS y.1))), y.2]) (fun k y => y.1.length = k ∧ inF f y.1) ([], none) rfl ⟨rfl, by simp [inF]⟩ ?_ ?_
  · rintro k z ⟨t, o⟩ hd ⟨i1, i2⟩
    simp only at i1 i2
    have hkl := (List.getElem?_eq_some_iff.mp hd).1
    walk_at "h"
    refine ⟨by have := hf.pos; omega, ?_⟩
    refine pick_go (by simp) (by simpa using hf.pos) fun d hd2 => ?_
    obtain ⟨l, ml, rfl⟩ := List.mem_map.mp hd2
    refine ⟨_, atI_c0 _ _, ?_⟩
    walk_at "h"
    refine nxF (t ++ [l.1], _) rfl ⟨by simp [i1], fun s ms => ?_⟩
    rcases List.mem_append.mp ms with ms | ms
    · exact i2 s ms
    · obtain rfl := List.mem_singleton.mp ms
      exact List.mem_map_of_mem (f := fun x : Lt => x.1) ml
  · rintro ⟨t, o⟩ ⟨i1, i2⟩
    walk_at "h"
    exact hq t i1 i2)
theorem ok_law_chosen {P : Program} {w : World} {K : K0} {mg : Str → Option Value} {base : Heap} {f : Addr} {fd : FuncData} (F : FunD K "_law_chosen" "_law_chosen" (defArgs st_law_chosen) (defBody st_law_chosen) (defScope st_law_chosen) [] [] f fd) (g : mg "_law_chosen" = some (.ref f)) (T : Gb mg) : FnAt P w K mg base 1 "_law_chosen" ["font", "cells", "way"] [] S_law_chosen :=
  fnAt F g sc_law_chosen (fun _ _ _ _ _ _ us hl => match us, hl with | [_, _, _], _ => rfl) l_law_chosen (fun cdv A outer s H E G hr tk hp => d_law_chosen T cdv A outer s H E G hr tk hp) w_law_chosen
/-! law_exchanged -/
--uses M2D
def f_law_exchanged : D → D → D → (R → Prop) → (Str → Prop) → Prop := fun a b c Q E => ∃ f : Font, a = fontD f ∧ okFont f ∧ ∃ t : List Nat, b = .str (tS t) ∧ inF f t ∧ ∃ ns : List Int, c = .list (iL ns) ∧ t.length ≤ ns.length ∧ ns.length ≤ 63 ∧ ∀ u : List Nat, u.length = t.length → inF f u → Q (.v (.str (tS u)))
def S_law_exchanged : Spec := sp3 f_law_exchanged
theorem e_law_exchanged (x0 x1 x2 : D) (Q : R → Prop) (E : Str → Prop) : S_law_exchanged [x0, x1, x2] Q E = f_law_exchanged x0 x1 x2 Q E := rfl
abbrev st_law_exchanged : Stmt := top 25
def m_law_exchanged : WS := (wSq (wLet 3 (wB (f1s dictD) (waC (wIx (wVar 0) (wC (.int 1))) waN))) (wSq (wLet 4 (wC (.str (tS [])))) (wSq (wFor (wiR1 (wB (f1 lenD) (waC (wVar 1) waN))) (gN 5) (wSq (wLet 6 (wLcK 3 [7] (gN 7) (c2 cEq (wB (f1 lenD) (waC (wIx (wVar 3) (wVar 7)) waN)) (wB (f1 lenD) (waC (wIx (wVar 3) (wIx (wVar 1) (wVar 5))) waN))) (wVar 7))) (wLet 4 (wAdd (wVar 4) (wIx (wVar 6) (wMod (wDiv (wIx (wVar 2) (wVar 5)) (wC (.int 8))) (wB (f1 lenD) (waC (wVar 6) waN)))))))) (wRet (wVar 4)))))
theorem sc_law_exchanged : FnScope ["font", "text", "cells", "letters", "found", "k", "like", "sign"] ["font", "text", "cells"] (defScope st_law_exchanged) := ⟨rfl, rfl, rfl, by decide +kernel, rfl, by decide +kernel, by decide +kernel⟩
theorem d_law_exchanged {P : Program} {w : World} {K : K0} {mg : Str → Option Value} {base : Heap} (T : Gb mg) {f : Addr} (cdv : Value) (A : Around) (outer : List PySem.Env) (s : Shared) (H : Hp) (E : XK) (G : Hp) (hr : Room 0 (A.deeper (envOfC "_law_exchanged" (defScope st_law_exchanged) s.heap.objs.size f cdv)))
    (tk : Takes (XB P w K mg base ["font", "text", "cells", "letters", "found", "k", "like", "sign"] "_law_exchanged" (defScope st_law_exchanged) f cdv A outer s H E) (fun cls d _ H => E cls d H)) (hp : PassesOwn (model P w) (XB P w K mg base ["font", "text", "cells", "letters", "found", "k", "like", "sign"] "_law_exchanged" (defScope st_law_exchanged) f cdv A outer s H E).A (XB P w K mg base ["font", "text", "cells", "letters", "found", "k", "like", "sign"] "_law_exchanged" (defScope st_law_exchanged) f cdv A outer s H E).env (XB P w K mg base ["font", "text", "cells", "letters", "found", "k", "like", "sign"] "_law_exchanged" (defScope st_law_exchanged) f cdv A outer s H E).xe) :
    DSs (XB P w K mg base ["font", "text", "cells", "letters", "found", "k", "like", "sign"] "_law_exchanged" (defScope st_law_exchanged) f cdv A outer s H E) (fun cls d _ H => E cls d H) G (defBody st_law_exchanged) m_law_exchanged :=
  (dss_cons (ds_let (i := 3) sc_law_exchanged.nd rfl (by first | exact Or.inl rfl | exact Or.inr rfl) (de_T (cDict rfl) (by rfl) T.dict (by decide +kernel) (da_cons (de_ix (hu_of hr) (de_var 0 (pv 0)) (de_c pe_int rfl) (fun _ _ => rfl)) da_nil (by rfl)) (by decide) (by decide) (by rfl) (by rfl)) (by rfl) (by first | exact Or.inl rfl | exact Or.inr rfl)) (dss_cons (ds_let (i := 4) sc_law_exchanged.nd rfl (by first | exact Or.inl rfl | exact Or.inr rfl) (de_c (d := .str (tS [])) (v := .str (tS [])) pe_str rfl) (by rfl) (by first | exact Or.inl rfl | exact Or.inr rfl)) (dss_cons (ds_for (vs := [5]) hp rfl (di_range1 (by rfl) T.range (de_B cLen (by rfl) T.len (by decide +kernel) (da_cons (de_var 1 (pv 1)) da_nil (by rfl)) (by decide) (by decide) (by rfl) (by rfl)) (by rfl) (by rfl)) (dg_name (i := 5) (by decide) sc_law_exchanged.nd rfl (by first | exact Or.inl rfl | exact Or.inr rfl) (by first | exact Or.inl rfl | exact Or.inr rfl)) (dss_cons (ds_letLcK (i := 6) (own := [("sign", 7)]) (N := ["font", "text", "cells", "letters", "found", "k", "like", "sign"]) (sc := defScope st_law_exchanged) (pv 3) rfl sc_law_exchanged.nd rfl rfl (sw_true rfl rfl rfl (by decide +kernel)) (by decide +kernel) rfl rfl (fun _ _ _ _ _ => (dg_name (i := 7) (by decide) sc_law_exchanged.nd rfl (by first | exact Or.inl rfl | exact Or.inr rfl) (by first | exact Or.inl rfl | exact Or.inr rfl))) (fun _ _ _ _ _ => pts_if (dt_cmp (opEqD hr.units) (de_B cLen (by rfl) T.len (by decide +kernel) (da_cons (de_ix (hu_of hr) (de_var 3 (pv 3)) (de_var 7 (pv 7)) (fun _ _ => rfl)) da_nil (by rfl)) (by decide) (by decide) (by rfl) (by rfl)) (de_B cLen (by rfl) T.len (by decide +kernel) (da_cons (de_ix (hu_of hr) (de_var 3 (pv 3)) (de_ix (hu_of hr) (de_var 1 (pv 1)) (de_var 5 (pv 5)) (fun _ _ => rfl)) (fun _ _ => rfl)) da_nil (by rfl)) (by decide) (by decide) (by rfl) (by rfl)) (nomark _))) (fun _ _ _ _ _ => (de_var 7 (pv 7))) (by intro _; rfl)) (dss_one (ds_let (i := 4) sc_law_exchanged.nd rfl (by first | exact Or.inl rfl | exact Or.inr rfl) (de_add (de_var 4 (pv 4)) (de_ix (hu_of hr) (de_var 6 (pv 6)) (de_mod (de_div (de_ix (hu_of hr) (de_var 2 (pv 2)) (de_var 5 (pv 5)) (fun _ _ => rfl)) (de_c pe_int rfl)) (de_B cLen (by rfl) T.len (by decide +kernel) (da_cons (de_var 6 (pv 6)) da_nil (by rfl)) (by decide) (by decide) (by rfl) (by rfl))) (fun _ _ => rfl))) (by rfl) (by first | exact Or.inl rfl | exact Or.inr rfl)))) (by intro _; rfl)) (dss_one (ds_ret (de_var 4 (pv 4)))))))
theorem l_law_exchanged : ∀ ds Q E, S_law_exchanged ds Q E → ds.length = 3 := sp3_len rfl
local macro_rules | `(tactic| walk_at "x") => `(tactic| simp only [ltL_iff, pair_iff, colsD_tS, kD_inr, kD_inl, entD_n, entD_s, enI_n, enI_s, enI_iff, encM_eq, rowO_frz, paperO_frz, ent_iff, entl_iff, paper_iff, oD_n, oD_s, nats_nL, oL_snoc, oL_len, oL_take, oL_drop, drs_snoc, lts_snoc, nearD_n, nearD_s, near_iff, wholeB_int, sortedF_s, oDs_frz, wyD_eq])
theorem w_law_exchanged : ∀ ds Q E, S_law_exchanged ds Q E → m_law_exchanged (enD Q E) (startD ["font", "text", "cells", "letters", "found", "k", "like", "sign"] ds) := sp3_w (by
  rintro a0 a1 a2 Q E ⟨f, rfl, hf, t, rfl, it, ns, rfl, hl, hl2, hq⟩
  unfold m_law_exchanged startD
  walk_at "h"
  have sz := sizeLine_eq
  walk_at "h"
  refine ⟨fontPs f, fontPs_eq f, ?_⟩
  rw [fontPs_merge hf]
  walk_at "h"
  refine for_gs [4, 5, 6] (fun y : List Nat × Option O × Option O => [some (.fro (.str (tS y.1))), y.2.1, y.2.2]) (fun k y => y.1.length = k ∧ inF f y.1) ([], none, none) rfl ⟨rfl, by simp [inF]⟩ ?_ ?_
  · rintro k d ⟨u, o1, o2⟩ hd ⟨i1, i2⟩
    obtain ⟨rfl, hk⟩ := range_get hd
    simp only at i1 i2
    walk_at "h"
    have hkeys : List.map (fun x => x.fst) (dG kO encC f.2) = f.2.map fun l => PyData.str (tS [l.1]) := by unfold dG; rw [List.map_map]; rfl
    rw [hkeys]
    have htk := it _ (List.getElem_mem hk)
    refine lc_filterE (ls := f.2) (enc := fun l : Lt => PyData.str (tS [l.1])) (fun l => decide (l.2.length = (colsF f t[d]).length)) (fun l => .str (tS [l.1])) (by have := hf.len; omega) (fun l ml A B hA hB => ?_) ?_
    · have hlf : hasF f l.1 := List.mem_map_of_mem (f := fun x : Lt => x.1) ml
      have ecl : colsF f l.1 = l.2 := by
        have := colsOf_nodup hf.nodup (c := l.2) ml
        unfold colsF
        rw [this]; rfl
      walk_at "h"
      refine ⟨_, by rw [lookC, colsF_has hlf]; rfl, ?_⟩
      rw [ecl, show encC l.2 = .tuple (nL l.2) from rfl]
      walk_at "h"
      refine ⟨t[d], atI_lt hk, _, by rw [lookC, colsF_has htk]; rfl, ?_⟩
      rw [show encC (colsF f t[d]) = .tuple (nL (colsF f t[d])) from rfl]
      walk_at "h"
      exact ite_i (fun h => hA (by simpa using h) _ True.intro rfl) fun h => hB (by simpa using h)
    generalize hfs : f.2.filter (fun l => decide (l.2.length = (colsF f t[d]).length)) = fs
    have hsub : ∀ l ∈ fs, l ∈ f.2 := fun l m => by rw [← hfs] at m; exact (List.mem_filter.mp m).1
    have hpos : 0 < fs.length := by
      refine List.length_pos_of_mem (a := (t[d], colsF f t[d])) ?_
      rw [← hfs]
      exact List.mem_filter.mpr ⟨colsF_mem htk, by simp⟩
    have hkn : d < ns.length := by omega
    walk_at "h"
    refine ⟨by rw [List.all_eq_true]; intro x m; obtain ⟨l, _, rfl⟩ := List.mem_map.mp m; rfl, _, atI_map_lt _ hkn, ?_⟩
    walk_at "h"
    refine pick_go (by simp) (by simpa using hpos) fun x hx => ?_
    obtain ⟨l, ml, rfl⟩ := List.mem_map.mp hx
    walk_at "h"
    refine nxF (u ++ [l.1], _, _) rfl ⟨by simp [i1], fun s ms => ?_⟩
    rcases List.mem_append.mp ms with ms | ms
    · exact i2 s ms
    · obtain rfl := List.mem_singleton.mp ms
      exact List.mem_map_of_mem (f := fun x : Lt => x.1) (hsub l ml)
  · rintro ⟨u, o1, o2⟩ ⟨i1, i2⟩
    simp only [List.length_range] at i1
    walk_at "h"
    exact hq u i1 i2)
theorem ok_law_exchanged {P : Program} {w : World} {K : K0} {mg : Str → Option Value} {base : Heap} {f : Addr} {fd : FuncData} (F : FunD K "_law_exchanged" "_law_exchanged" (defArgs st_law_exchanged) (defBody st_law_exchanged) (defScope st_law_exchanged) [] [] f fd) (g : mg "_law_exchanged" = some (.ref f)) (T : Gb mg) : FnAt P w K mg base 1 "_law_exchanged" ["font", "text", "cells"] [] S_law_exchanged :=
  fnAt F g sc_law_exchanged (fun _ _ _ _ _ _ us hl => match us, hl with | [_, _, _], _ => rfl) l_law_exchanged (fun cdv A outer s H E G hr tk hp => d_law_exchanged T cdv A outer s H E G hr tk hp) w_law_exchanged
/-! law_other -/
--uses M2D
def f_law_other : D → D → D → D → (R → Prop) → (Str → Prop) → Prop := fun a b c d Q E => ∃ f : Font, a = fontD f ∧ okFont f ∧ ∃ t : List Nat, b = .str (tS t) ∧ inF f t ∧ ∃ ns : List Int, c = .list (iL ns) ∧ t.length ≤ ns.length ∧ ns.length ≤ 63 ∧ ∃ z : Int, d = .int z ∧ ∀ u : List Nat, u.length ≤ 63 → inF f u → Q (.v (.str (tS u)))
def S_law_other : Spec := sp4 f_law_other
theorem e_law_other (x0 x1 x2 x3 : D) (Q : R → Prop) (E : Str → Prop) : S_law_other [x0, x1, x2, x3] Q E = f_law_other x0 x1 x2 x3 Q E := rfl
abbrev st_law_other : Stmt := top 26
def m_law_other : WS := (wSq (wIf (c2 cEq (wMod (wVar 3) (wC (.int 4))) (wC (.int 0))) (wRet (wCall S_law_exchanged [] (waC (wVar 0) (waC (wVar 1) (waC (wVar 2) waN))))) wNil) (wSq (wIf (c2 cEq (wMod (wVar 3) (wC (.int 4))) (wC (.int 1))) (wRet (wJoinRev (wC (.str (tS []))) (wB (f1s listS) (waC (wVar 1) waN)))) wNil) (wSq (wIf (c2 cEq (wMod (wVar 3) (wC (.int 4))) (wC (.int 2))) (wRet (wCall S_law_chosen [] (waC (wVar 0) (waC (wVar 2) (waC (wC (.int 1)) waN))))) wNil) (wRet (wCall S_law_exchanged [] (waC (wVar 0) (waC (wSl (wVar 1) (woE (wMod (wDiv (wVar 3) (wC (.int 4))) (wAdd (wB (f1 lenD) (waC (wVar 1) waN)) (wC (.int 1))))) woN) (waC (wVar 2) waN))))))))
theorem sc_law_other : FnScope ["font", "text", "cells", "way"] ["font", "text", "cells", "way"] (defScope st_law_other) := ⟨rfl, rfl, rfl, by decide +kernel, rfl, by decide +kernel, by decide +kernel⟩
theorem d_law_other {P : Program} {w : World} {K : K0} {mg : Str → Option Value} {base : Heap} (T : Gb mg) (F_law_chosen : FnAt P w K mg base 1 "_law_chosen" ["font", "cells", "way"] [] S_law_chosen) (F_law_exchanged : FnAt P w K mg base 1 "_law_exchanged" ["font", "text", "cells"] [] S_law_exchanged) {f : Addr} (cdv : Value) (A : Around) (outer : List PySem.Env) (s : Shared) (H : Hp) (E : XK) (G : Hp) (hr : Room 1 (A.deeper (envOfC "_law_other" (defScope st_law_other) s.heap.objs.size f cdv)))
    (tk : Takes (XB P w K mg base ["font", "text", "cells", "way"] "_law_other" (defScope st_law_other) f cdv A outer s H E) (fun cls d _ H => E cls d H)) (hp : PassesOwn (model P w) (XB P w K mg base ["font", "text", "cells", "way"] "_law_other" (defScope st_law_other) f cdv A outer s H E).A (XB P w K mg base ["font", "text", "cells", "way"] "_law_other" (defScope st_law_other) f cdv A outer s H E).env (XB P w K mg base ["font", "text", "cells", "way"] "_law_other" (defScope st_law_other) f cdv A outer s H E).xe) :
    DSs (XB P w K mg base ["font", "text", "cells", "way"] "_law_other" (defScope st_law_other) f cdv A outer s H E) (fun cls d _ H => E cls d H) G (defBody st_law_other) m_law_other :=
  (dss_cons (ds_if (dt_cmp (opEqD hr.units) (de_mod (de_var 3 (pv 3)) (de_c pe_int rfl)) (de_c pe_int rfl) (nomark _)) (dss_one (ds_ret (de_call' F_law_exchanged hr (by decide) (by rfl) (fun _ => .nil) tk (da_cons (de_var 0 (pv 0)) (da_cons (de_var 1 (pv 1)) (da_cons (de_var 2 (pv 2)) da_nil (by rfl)) (by rfl)) (by rfl)) (by decide) (by rfl) (by rfl)))) dss_nil) (dss_cons (ds_if (dt_cmp (opEqD hr.units) (de_mod (de_var 3 (pv 3)) (de_c pe_int rfl)) (de_c pe_int rfl) (nomark _)) (dss_one (ds_ret (de_joinrev ⟨by rfl, by rfl, by rfl, by rfl, by rfl⟩ rfl (by rfl) T.reversed (de_c (d := .str (tS [])) (v := .str (tS [])) pe_str rfl) (de_T (cListS rfl) (by rfl) T.list (by decide +kernel) (da_cons (de_var 1 (pv 1)) da_nil (by rfl)) (by decide) (by decide) (by rfl) (by rfl))))) dss_nil) (dss_cons (ds_if (dt_cmp (opEqD hr.units) (de_mod (de_var 3 (pv 3)) (de_c pe_int rfl)) (de_c pe_int rfl) (nomark _)) (dss_one (ds_ret (de_call' F_law_chosen hr (by decide) (by rfl) (fun _ => .nil) tk (da_cons (de_var 0 (pv 0)) (da_cons (de_var 2 (pv 2)) (da_cons (de_c pe_int rfl) da_nil (by rfl)) (by rfl)) (by rfl)) (by decide) (by rfl) (by rfl)))) dss_nil) (dss_one (ds_ret (de_call' F_law_exchanged hr (by decide) (by rfl) (fun _ => .nil) tk (da_cons (de_var 0 (pv 0)) (da_cons (de_slice (de_var 1 (pv 1)) (do_some (de_mod (de_div (de_var 3 (pv 3)) (de_c pe_int rfl)) (de_add (de_B cLen (by rfl) T.len (by decide +kernel) (da_cons (de_var 1 (pv 1)) da_nil (by rfl)) (by decide) (by decide) (by rfl) (by rfl)) (de_c pe_int rfl)))) do_none) (da_cons (de_var 2 (pv 2)) da_nil (by rfl)) (by rfl)) (by rfl)) (by decide) (by rfl) (by rfl)))))))
theorem l_law_other : ∀ ds Q E, S_law_other ds Q E → ds.length = 4 := sp4_len rfl
local macro_rules | `(tactic| walk_at "x") => `(tactic| simp only [e_law_chosen, f_law_chosen, e_law_exchanged, f_law_exchanged, ltL_iff, pair_iff, colsD_tS, kD_inr, kD_inl, entD_n, entD_s, enI_n, enI_s, enI_iff, encM_eq, rowO_frz, paperO_frz, ent_iff, entl_iff, paper_iff, oD_n, oD_s, nats_nL, oL_snoc, oL_len, oL_take, oL_drop, drs_snoc, lts_snoc, nearD_n, nearD_s, near_iff, wholeB_int, sortedF_s, oDs_frz, wyD_eq])
theorem w_law_other : ∀ ds Q E, S_law_other ds Q E → m_law_other (enD Q E) (startD ["font", "text", "cells", "way"] ds) := sp4_w (by
  rintro a0 a1 a2 a3 Q E ⟨f, rfl, hf, t, rfl, it, ns, rfl, hl, hl2, z, rfl, hq⟩
  unfold m_law_other startD
  walk_at "h"
  have sz := sizeLine_eq
  walk_at "h"
  refine ite_i (fun _ => ⟨hf, it, hl, hl2, fun u h1 h2 => hq u (by omega) h2⟩) fun _ => ?_
  walk_at "h"
  refine ite_i (fun _ => ?_) fun _ => ?_
  · walk_at "h"
    have es : sgS (tS t) = t.map fun s => tS [s] := sgS_tS t
    rw [es, ← List.map_reverse]
    refine ⟨by rw [tS_size]; omega, ?_, ?_⟩
    · rw [ones_sum]; omega
    · rw [joinOne]
      exact hq _ (by rw [List.length_reverse]; omega) fun s m => it s (List.mem_reverse.mp m)
  walk_at "h"
  refine ite_i (fun _ => ?_) fun _ => ?_
  · walk_at "h"
    exact fun u h1 h2 => hq u (by omega) h2
  walk_at "h"
  obtain ⟨c, c1, c2⟩ := emod_nat (a := z / 4) (b := (t.length : Int) + 1) (by omega)
  rw [c1, cut_from]
  have hld : (t.drop c).length = t.length - c := List.length_drop
  exact ⟨fun s m => it s (List.mem_of_mem_drop m), by omega, hl2, fun u h1 h2 => hq u (by omega) h2⟩)
theorem ok_law_other {P : Program} {w : World} {K : K0} {mg : Str → Option Value} {base : Heap} {f : Addr} {fd : FuncData} (F : FunD K "_law_other" "_law_other" (defArgs st_law_other) (defBody st_law_other) (defScope st_law_other) [] [] f fd) (g : mg "_law_other" = some (.ref f)) (T : Gb mg) (F_law_chosen : FnAt P w K mg base 1 "_law_chosen" ["font", "cells", "way"] [] S_law_chosen) (F_law_exchanged : FnAt P w K mg base 1 "_law_exchanged" ["font", "text", "cells"] [] S_law_exchanged) : FnAt P w K mg base 2 "_law_other" ["font", "text", "cells", "way"] [] S_law_other :=
  fnAt F g sc_law_other (fun _ _ _ _ _ _ us hl => match us, hl with | [_, _, _, _], _ => rfl) l_law_other (fun cdv A outer s H E G hr tk hp => d_law_other T F_law_chosen F_law_exchanged cdv A outer s H E G hr tk hp) w_law_other
/-! law_put -/
--uses M2D
def f_law_put : D → D → D → (R → Prop) → (Str → Prop) → Prop := fun a b c Q E => ∃ t : List Nat, a = .str (tS t) ∧ t.length ≤ 100 ∧ ∃ s : Nat, b = .str (tS [s]) ∧ ∃ n : Nat, c = .int n ∧ ∀ k, k ≤ t.length → Q (.v (.str (tS (t.take k ++ [s] ++ t.drop k))))
def S_law_put : Spec := sp3 f_law_put
theorem e_law_put (x0 x1 x2 : D) (Q : R → Prop) (E : Str → Prop) : S_law_put [x0, x1, x2] Q E = f_law_put x0 x1 x2 Q E := rfl
abbrev st_law_put : Stmt := top 27
def m_law_put : WS := (wRet (wAdd (wAdd (wSl (wVar 0) woN (woE (wMod (wVar 2) (wAdd (wB (f1 lenD) (waC (wVar 0) waN)) (wC (.int 1)))))) (wVar 1)) (wSl (wVar 0) (woE (wMod (wVar 2) (wAdd (wB (f1 lenD) (waC (wVar 0) waN)) (wC (.int 1))))) woN)))
theorem sc_law_put : FnScope ["text", "sign", "at"] ["text", "sign", "at"] (defScope st_law_put) := ⟨rfl, rfl, rfl, by decide +kernel, rfl, by decide +kernel, by decide +kernel⟩
theorem d_law_put {P : Program} {w : World} {K : K0} {mg : Str → Option Value} {base : Heap} (T : Gb mg) {f : Addr} (cdv : Value) (A : Around) (outer : List PySem.Env) (s : Shared) (H : Hp) (E : XK) (G : Hp) (hr : Room 0 (A.deeper (envOfC "_law_put" (defScope st_law_put) s.heap.objs.size f cdv)))
    (tk : Takes (XB P w K mg base ["text", "sign", "at"] "_law_put" (defScope st_law_put) f cdv A outer s H E) (fun cls d _ H => E cls d H)) (hp : PassesOwn (model P w) (XB P w K mg base ["text", "sign", "at"] "_law_put" (defScope st_law_put) f cdv A outer s H E).A (XB P w K mg base ["text", "sign", "at"] "_law_put" (defScope st_law_put) f cdv A outer s H E).env (XB P w K mg base ["text", "sign", "at"] "_law_put" (defScope st_law_put) f cdv A outer s H E).xe) :
    DSs (XB P w K mg base ["text", "sign", "at"] "_law_put" (defScope st_law_put) f cdv A outer s H E) (fun cls d _ H => E cls d H) G (defBody st_law_put) m_law_put :=
  (dss_one (ds_ret (de_add (de_add (de_slice (de_var 0 (pv 0)) do_none (do_some (de_mod (de_var 2 (pv 2)) (de_add (de_B cLen (by rfl) T.len (by decide +kernel) (da_cons (de_var 0 (pv 0)) da_nil (by rfl)) (by decide) (by decide) (by rfl) (by rfl)) (de_c pe_int rfl))))) (de_var 1 (pv 1))) (de_slice (de_var 0 (pv 0)) (do_some (de_mod (de_var 2 (pv 2)) (de_add (de_B cLen (by rfl) T.len (by decide +kernel) (da_cons (de_var 0 (pv 0)) da_nil (by rfl)) (by decide) (by decide) (by rfl) (by rfl)) (de_c pe_int rfl)))) do_none))))
theorem l_law_put : ∀ ds Q E, S_law_put ds Q E → ds.length = 3 := sp3_len rfl
local macro_rules | `(tactic| walk_at "x") => `(tactic| simp only [ltL_iff, pair_iff, colsD_tS, kD_inr, kD_inl, entD_n, entD_s, enI_n, enI_s, enI_iff, encM_eq, rowO_frz, paperO_frz, ent_iff, entl_iff, paper_iff, oD_n, oD_s, nats_nL, oL_snoc, oL_len, oL_take, oL_drop, drs_snoc, lts_snoc, nearD_n, nearD_s, near_iff, wholeB_int, sortedF_s, oDs_frz, wyD_eq])
theorem w_law_put : ∀ ds Q E, S_law_put ds Q E → m_law_put (enD Q E) (startD ["text", "sign", "at"] ds) := sp3_w (by
  rintro a0 a1 a2 Q E ⟨t, rfl, ht, s, rfl, n, rfl, hq⟩
  unfold m_law_put startD
  walk_at "h"
  have sz := sizeLine_eq
  walk_at "h"
  rw [show (n : Int) % ((t.length : Int) + 1) = ((n % (t.length + 1) : Nat) : Int) from by push_cast; rfl, cut_to, cut_from]
  have hk := Nat.mod_lt n (show 0 < t.length + 1 by omega)
  generalize n % (t.length + 1) = k at hk ⊢
  have h1 := List.length_take (i := k) (l := t)
  have h2 : (t.drop k).length = t.length - k := List.length_drop
  have h3 : (t.take k ++ [s]).length = (t.take k).length + 1 := by rw [List.length_append]; rfl
  exact ⟨by omega, by omega, by omega, by omega, by omega, hq k (by omega)⟩)
theorem ok_law_put {P : Program} {w : World} {K : K0} {mg : Str → Option Value} {base : Heap} {f : Addr} {fd : FuncData} (F : FunD K "_law_put" "_law_put" (defArgs st_law_put) (defBody st_law_put) (defScope st_law_put) [] [] f fd) (g : mg "_law_put" = some (.ref f)) (T : Gb mg) : FnAt P w K mg base 1 "_law_put" ["text", "sign", "at"] [] S_law_put :=
  fnAt F g sc_law_put (fun _ _ _ _ _ _ us hl => match us, hl with | [_, _, _], _ => rfl) l_law_put (fun cdv A outer s H E G hr tk hp => d_law_put T cdv A outer s H E G hr tk hp) w_law_put
/-! law_set -/
--uses M2D
def f_law_set : D → D → (R → Prop) → (Str → Prop) → Prop := fun a b Q E => ∃ f : Font, a = fontD f ∧ okFont f ∧ ∃ t : List Nat, b = .str (tS t) ∧ t.length ≤ 100 ∧ (¬ inF f t → Q (.v .none)) ∧ (inF f t → Q (.t (.lst (nL (setF f t)))))
def S_law_set : Spec := sp2 f_law_set
theorem e_law_set (x0 x1 : D) (Q : R → Prop) (E : Str → Prop) : S_law_set [x0, x1] Q E = f_law_set x0 x1 Q E := rfl
abbrev st_law_set : Stmt := top 28
def m_law_set : WS := (wSq (wLet 2 (wB (f1s dictD) (waC (wIx (wVar 0) (wC (.int 1))) waN))) (wSq (wAsg 3 (wLst waN)) (wSq (wFor (wiA (wVar 1)) (gN 4) (wSq (wIf (c2 (cIn true) (wVar 4) (wVar 2)) (wRet (wC .none)) wNil) (wExt 3 (wIx (wVar 2) (wVar 4))))) (wRet (wVar 3)))))
theorem sc_law_set : FnScope ["font", "text", "letters", "strip", "sign"] ["font", "text"] (defScope st_law_set) := ⟨rfl, rfl, rfl, by decide +kernel, rfl, by decide +kernel, by decide +kernel⟩
theorem d_law_set {P : Program} {w : World} {K : K0} {mg : Str → Option Value} {base : Heap} (T : Gb mg) {f : Addr} (cdv : Value) (A : Around) (outer : List PySem.Env) (s : Shared) (H : Hp) (E : XK) (G : Hp) (hr : Room 0 (A.deeper (envOfC "_law_set" (defScope st_law_set) s.heap.objs.size f cdv)))
    (tk : Takes (XB P w K mg base ["font", "text", "letters", "strip", "sign"] "_law_set" (defScope st_law_set) f cdv A outer s H E) (fun cls d _ H => E cls d H)) (hp : PassesOwn (model P w) (XB P w K mg base ["font", "text", "letters", "strip", "sign"] "_law_set" (defScope st_law_set) f cdv A outer s H E).A (XB P w K mg base ["font", "text", "letters", "strip", "sign"] "_law_set" (defScope st_law_set) f cdv A outer s H E).env (XB P w K mg base ["font", "text", "letters", "strip", "sign"] "_law_set" (defScope st_law_set) f cdv A outer s H E).xe) :
    DSs (XB P w K mg base ["font", "text", "letters", "strip", "sign"] "_law_set" (defScope st_law_set) f cdv A outer s H E) (fun cls d _ H => E cls d H) G (defBody st_law_set) m_law_set :=
  (dss_cons (ds_let (i := 2) sc_law_set.nd rfl (by first | exact Or.inl rfl | exact Or.inr rfl) (de_T (cDict rfl) (by rfl) T.dict (by decide +kernel) (da_cons (de_ix (hu_of hr) (de_var 0 (pv 0)) (de_c pe_int rfl) (fun _ _ => rfl)) da_nil (by rfl)) (by decide) (by decide) (by rfl) (by rfl)) (by rfl) (by first | exact Or.inl rfl | exact Or.inr rfl)) (dss_cons (ds_set (i := 3) sc_law_set.nd rfl (by first | exact Or.inl rfl | exact Or.inr rfl) (de_lst da_nil) (by rfl) (by first | exact Or.inl rfl | exact Or.inr rfl)) (dss_cons (ds_for (vs := [4]) hp rfl (di_any (de_var 1 (pv 1))) (dg_name (i := 4) (by decide) sc_law_set.nd rfl (by first | exact Or.inl rfl | exact Or.inr rfl) (by first | exact Or.inl rfl | exact Or.inr rfl)) (dss_cons (ds_if (dt_cmp (opNotInD (hu_of hr)) (de_var 4 (pv 4)) (de_var 2 (pv 2)) (by with_unfolding_all rfl)) (dss_one (ds_ret (de_c pe_non rfl))) dss_nil) (dss_one (ds_ext (i := 3) (pv 3) (de_ix (hu_of hr) (de_var 2 (pv 2)) (de_var 4 (pv 4)) (fun _ _ => rfl)) (by rfl) (by rfl) (by rfl) (by rfl) (by rfl) (by rfl)))) (by intro _; rfl)) (dss_one (ds_ret (de_var 3 (pv 3)))))))
theorem l_law_set : ∀ ds Q E, S_law_set ds Q E → ds.length = 2 := sp2_len rfl
local macro_rules | `(tactic| walk_at "x") => `(tactic| simp only [ltL_iff, pair_iff, colsD_tS, kD_inr, kD_inl, entD_n, entD_s, enI_n, enI_s, enI_iff, encM_eq, rowO_frz, paperO_frz, ent_iff, entl_iff, paper_iff, oD_n, oD_s, nats_nL, oL_snoc, oL_len, oL_take, oL_drop, drs_snoc, lts_snoc, nearD_n, nearD_s, near_iff, wholeB_int, sortedF_s, oDs_frz, wyD_eq])
theorem w_law_set : ∀ ds Q E, S_law_set ds Q E → m_law_set (enD Q E) (startD ["font", "text", "letters", "strip", "sign"] ds) := sp2_w (by
  rintro a0 a1 Q E ⟨f, rfl, hf, t, rfl, ht, hn, hq⟩
  unfold m_law_set startD
  walk_at "h"
  have sz := sizeLine_eq
  walk_at "h"
  refine ⟨fontPs f, fontPs_eq f, ?_⟩
  rw [fontPs_merge hf]
  walk_at "h"
  refine for_gs [3, 4] (fun y : List Nat × Option O => [some (.lst (nL y.1)), y.2]) (fun k y => y.1 = setF f (t.take k) ∧ inF f (t.take k)) ([], none) rfl ⟨by simp [setF_nil], by simp [inF]⟩ ?_ ?_
  · rintro k s ⟨xs, o⟩ hd ⟨i1, i2⟩
    simp only at i1 i2
    have hms := List.mem_of_getElem? hd
    walk_at "h"
    rw [cols_hasB]
    refine ite_i (fun h1 => hn fun q => ?_) fun h1 => ?_
    · have := q s hms
      simp [this] at h1
    have hs : hasF f s := by simpa using h1
    have hlt : xs.length ≤ 800 := by
      have := setF_len hf (t.take k)
      rw [← i1, List.length_take] at this
      omega
    have h8 := colsF_len hf s
    refine ⟨encC (colsF f s), by rw [lookC, colsF_has hs]; rfl, nL (colsF f s), rfl, by rw [List.length_map]; omega, ?_⟩
    rw [show nL xs ++ nL (colsF f s) = nL (xs ++ colsF f s) from (List.map_append ..).symm]
    refine nxF (xs ++ colsF f s, _) rfl ⟨?_, ?_⟩
    · show xs ++ _ = _
      rw [i1, setF_take hd]
    · rw [take_succ hd]
      exact inF_app.mpr ⟨i2, fun x m => by rw [List.mem_singleton.mp m]; exact hs⟩
  · rintro ⟨xs, o⟩ ⟨i1, i2⟩
    rw [List.take_length] at i1 i2
    simp only at i1
    walk_at "h"
    rw [i1]
    exact hq i2)
theorem ok_law_set {P : Program} {w : World} {K : K0} {mg : Str → Option Value} {base : Heap} {f : Addr} {fd : FuncData} (F : FunD K "_law_set" "_law_set" (defArgs st_law_set) (defBody st_law_set) (defScope st_law_set) [] [] f fd) (g : mg "_law_set" = some (.ref f)) (T : Gb mg) : FnAt P w K mg base 1 "_law_set" ["font", "text"] [] S_law_set :=
  fnAt F g sc_law_set (fun _ _ _ _ _ _ us hl => match us, hl with | [_, _], _ => rfl) l_law_set (fun cdv A outer s H E G hr tk hp => d_law_set T cdv A outer s H E G hr tk hp) w_law_set
/-! law_unlike -/
--uses M2D
def f_law_unlike : D → D → D → (R → Prop) → (Str → Prop) → Prop := fun a b c Q E => ∃ xs : List Nat, a = .list (nL xs) ∧ ∃ ys : List Nat, b = .list (nL ys) ∧ xs.length = ys.length ∧ xs.length ≤ 1000 ∧ ∃ h : Nat, c = .int h ∧ h ≤ 60 ∧ Q (.t (.lst (pL (unlikeN h xs ys))))
def S_law_unlike : Spec := sp3 f_law_unlike
theorem e_law_unlike (x0 x1 x2 : D) (Q : R → Prop) (E : Str → Prop) : S_law_unlike [x0, x1, x2] Q E = f_law_unlike x0 x1 x2 Q E := rfl
abbrev st_law_unlike : Stmt := top 29
def m_law_unlike : WS := (wSq (wAsg 3 (wLst waN)) (wSq (wFor (wiR1 (wB (f1 lenD) (waC (wVar 0) waN))) (gN 4) (wFor (wiR1 (wVar 2)) (gN 5) (wIf (c2 cNe (wMod (wShr (wIx (wVar 0) (wVar 4)) (wVar 5)) (wC (.int 2))) (wMod (wShr (wIx (wVar 1) (wVar 4)) (wVar 5)) (wC (.int 2)))) (wApp 3 (wTup (waC (wVar 4) (waC (wVar 5) waN)))) wNil))) (wRet (wVar 3))))
theorem sc_law_unlike : FnScope ["one", "other", "height", "found", "x", "y"] ["one", "other", "height"] (defScope st_law_unlike) := ⟨rfl, rfl, rfl, by decide +kernel, rfl, by decide +kernel, by decide +kernel⟩
theorem d_law_unlike {P : Program} {w : World} {K : K0} {mg : Str → Option Value} {base : Heap} (T : Gb mg) {f : Addr} (cdv : Value) (A : Around) (outer : List PySem.Env) (s : Shared) (H : Hp) (E : XK) (G : Hp) (hr : Room 0 (A.deeper (envOfC "_law_unlike" (defScope st_law_unlike) s.heap.objs.size f cdv)))
    (tk : Takes (XB P w K mg base ["one", "other", "height", "found", "x", "y"] "_law_unlike" (defScope st_law_unlike) f cdv A outer s H E) (fun cls d _ H => E cls d H)) (hp : PassesOwn (model P w) (XB P w K mg base ["one", "other", "height", "found", "x", "y"] "_law_unlike" (defScope st_law_unlike) f cdv A outer s H E).A (XB P w K mg base ["one", "other", "height", "found", "x", "y"] "_law_unlike" (defScope st_law_unlike) f cdv A outer s H E).env (XB P w K mg base ["one", "other", "height", "found", "x", "y"] "_law_unlike" (defScope st_law_unlike) f cdv A outer s H E).xe) :
    DSs (XB P w K mg base ["one", "other", "height", "found", "x", "y"] "_law_unlike" (defScope st_law_unlike) f cdv A outer s H E) (fun cls d _ H => E cls d H) G (defBody st_law_unlike) m_law_unlike :=
  (dss_cons (ds_set (i := 3) sc_law_unlike.nd rfl (by first | exact Or.inl rfl | exact Or.inr rfl) (de_lst da_nil) (by rfl) (by first | exact Or.inl rfl | exact Or.inr rfl)) (dss_cons (ds_for (vs := [4]) hp rfl (di_range1 (by rfl) T.range (de_B cLen (by rfl) T.len (by decide +kernel) (da_cons (de_var 0 (pv 0)) da_nil (by rfl)) (by decide) (by decide) (by rfl) (by rfl)) (by rfl) (by rfl)) (dg_name (i := 4) (by decide) sc_law_unlike.nd rfl (by first | exact Or.inl rfl | exact Or.inr rfl) (by first | exact Or.inl rfl | exact Or.inr rfl)) (dss_one (ds_for (vs := [5]) hp rfl (di_range1 (by rfl) T.range (de_var 2 (pv 2)) (by rfl) (by rfl)) (dg_name (i := 5) (by decide) sc_law_unlike.nd rfl (by first | exact Or.inl rfl | exact Or.inr rfl) (by first | exact Or.inl rfl | exact Or.inr rfl)) (dss_one (ds_if (dt_cmp (opNeD hr.units) (de_mod (de_shr (de_ix (hu_of hr) (de_var 0 (pv 0)) (de_var 4 (pv 4)) (fun _ _ => rfl)) (de_var 5 (pv 5))) (de_c pe_int rfl)) (de_mod (de_shr (de_ix (hu_of hr) (de_var 1 (pv 1)) (de_var 4 (pv 4)) (fun _ _ => rfl)) (de_var 5 (pv 5))) (de_c pe_int rfl)) (nomark _)) (dss_one (ds_app (i := 3) (pv 3) (de_tup (da_cons (de_var 4 (pv 4)) (da_cons (de_var 5 (pv 5)) da_nil (by rfl)) (by rfl))) (by rfl) (by rfl) (by rfl) (by rfl) (by rfl) (by rfl))) dss_nil)) (by intro _; rfl))) (by intro _; rfl)) (dss_one (ds_ret (de_var 3 (pv 3))))))
theorem l_law_unlike : ∀ ds Q E, S_law_unlike ds Q E → ds.length = 3 := sp3_len rfl
local macro_rules | `(tactic| walk_at "x") => `(tactic| simp only [ltL_iff, pair_iff, colsD_tS, kD_inr, kD_inl, entD_n, entD_s, enI_n, enI_s, enI_iff, encM_eq, rowO_frz, paperO_frz, ent_iff, entl_iff, paper_iff, oD_n, oD_s, nats_nL, oL_snoc, oL_len, oL_take, oL_drop, drs_snoc, lts_snoc, nearD_n, nearD_s, near_iff, wholeB_int, sortedF_s, oDs_frz, wyD_eq])
theorem w_law_unlike : ∀ ds Q E, S_law_unlike ds Q E → m_law_unlike (enD Q E) (startD ["one", "other", "height", "found", "x", "y"] ds) := sp3_w (by
  rintro a0 a1 a2 Q E ⟨xs, rfl, ys, rfl, hl, hx, h, rfl, h60, hq⟩
  unfold m_law_unlike startD
  walk_at "h"
  have sz := sizeLine_eq
  walk_at "h"
  refine for_gs [3, 4, 5] (fun y : List (Nat × Nat) × Option O × Option O => [some (.lst (pL y.1)), y.2.1, y.2.2]) (fun k y => y.1 = (List.range k).flatMap (rowU h xs ys)) ([], none, none) rfl rfl ?_ ?_
  · rintro k d ⟨fd, o1, o2⟩ hd i1
    obtain ⟨rfl, hk⟩ := range_get hd
    simp only at i1
    walk_at "h"
    refine for_gs [3, 5] (fun y : List (Nat × Nat) × Option O => [some (.lst (pL y.1)), y.2]) (fun j y => y.1 = fd ++ ((List.range j).filter fun y => bitC xs (d, y) != bitC ys (d, y)).map fun y => (d, y)) (fd, o2) rfl (by simp) ?_ ?_
    · rintro j e ⟨fd2, o3⟩ hd2 i2
      obtain ⟨rfl, hj⟩ := range_get hd2
      simp only at i2
      walk_at "h"
      have hkx : d < ys.length := by omega
      have hfd : fd2.length ≤ 70000 := by
        rw [i2, List.length_append, List.length_map, i1]
        have a1 := rows_len h xs ys d
        have a2 := Nat.mul_le_mul (show d ≤ 1000 by omega) h60
        have a3 := List.length_filter_le (fun y => bitC xs (d, y) != bitC ys (d, y)) (List.range e)
        rw [List.length_range] at a3
        omega
      refine ⟨_, atI_map_lt _ hk, ?_⟩
      walk_at "h"
      refine ⟨_, atI_map_lt _ hkx, ?_⟩
      walk_at "h"
      have b1 := bitC_at (e := e) hk
      have b2 := bitC_at (e := e) hkx
      have hc : ∀ n : Nat, (n : Int) % 2 = ((n % 2 : Nat) : Int) := fun n => by omega
      have hA := Nat.mod_two_eq_zero_or_one (xs[d] / 2 ^ e)
      have hB := Nat.mod_two_eq_zero_or_one (ys[d] / 2 ^ e)
      rw [hc, hc]
      refine ite_i (fun h1 => ⟨by omega, by omega, nxF (fd2 ++ [(d, e)], _) rfl ?_⟩) fun h1 => nxF (fd2, _) rfl ?_
      · show fd2 ++ [(d, e)] = _
        rw [i2, List.range_succ, List.filter_append, List.map_append, List.filter_cons_of_pos, List.append_assoc]
        · rfl
        · rw [b1, b2]
          rcases hA with a | a <;> rcases hB with b | b <;> simp [a, b] at h1 ⊢
      · show fd2 = _
        rw [i2, List.range_succ, List.filter_append, List.map_append, List.filter_cons_of_neg]
        · simp
        · rw [b1, b2]
          rcases hA with a | a <;> rcases hB with b | b <;> simp [a, b] at h1 ⊢
    · rintro ⟨fd2, o3⟩ i2
      simp only [List.length_range] at i2
      walk_at "h"
      refine nxF (fd2, _, _) rfl ?_
      show fd2 = _
      rw [i2, i1, List.range_succ, List.flatMap_append]
      simp only [List.flatMap_cons, List.flatMap_nil, List.append_nil]
      rfl
  · rintro ⟨fd, o1, o2⟩ i1
    simp only [List.length_range] at i1
    walk_at "h"
    rw [i1]
    exact hq)
theorem ok_law_unlike {P : Program} {w : World} {K : K0} {mg : Str → Option Value} {base : Heap} {f : Addr} {fd : FuncData} (F : FunD K "_law_unlike" "_law_unlike" (defArgs st_law_unlike) (defBody st_law_unlike) (defScope st_law_unlike) [] [] f fd) (g : mg "_law_unlike" = some (.ref f)) (T : Gb mg) : FnAt P w K mg base 1 "_law_unlike" ["one", "other", "height"] [] S_law_unlike :=
  fnAt F g sc_law_unlike (fun _ _ _ _ _ _ us hl => match us, hl with | [_, _, _], _ => rfl) l_law_unlike (fun cdv A outer s H E G hr tk hp => d_law_unlike T cdv A outer s H E G hr tk hp) w_law_unlike
/-! law_refused -/
--uses M2D
def f_law_refused : D → D → D → (R → Prop) → (Str → Prop) → Prop := fun a b c Q E => ∃ f : Font, a = fontD f ∧ okFont f ∧ ∃ t : List Nat, b = .str (tS t) ∧ okT t ∧ t.length ≤ 100 ∧ ∃ u : List Nat, c = .str (tS u) ∧ okT u ∧ u.length ≤ 100 ∧ ((¬ (inF f t ∧ inF f u) ∧ Q (.v (.list [.bool true, .bool true, .bool false]))) ∨ (inF f t ∧ inF f u ∧ (setF f t).length ≠ (setF f u).length ∧ Q (.v (.list [.bool true, .bool false, .bool true]))))
def S_law_refused : Spec := sp3 f_law_refused
theorem e_law_refused (x0 x1 x2 : D) (Q : R → Prop) (E : Str → Prop) : S_law_refused [x0, x1, x2] Q E = f_law_refused x0 x1 x2 Q E := rfl
abbrev st_law_refused : Stmt := top 30
def m_law_refused : WS := (wSq (wLet 3 (wLst waN)) (wSq (wTry exNs "BlotError" 4 (wExp (wCall S_halfway [] (waC (wVar 0) (waC (wVar 1) (waC (wVar 2) waN))))) (fun m a => (wLet 3 (wLst (waC (wIsE 4 a true) (waC (wIsE 4 a (subE m "NoSign")) (waC (wIsE 4 a (subE m "NotAlike")) waN))))))) (wRet (wVar 3))))
theorem sc_law_refused : FnScope ["font", "one", "other", "kinds", "e"] ["font", "one", "other"] (defScope st_law_refused) := ⟨rfl, rfl, rfl, by decide +kernel, rfl, by decide +kernel, by decide +kernel⟩
theorem d_law_refused {P : Program} {w : World} {K : K0} {mg : Str → Option Value} {base : Heap} (T : Gb mg) (X_All : ExAll K mg exNs) (F_halfway : FnAt P w K mg base 3 "halfway" ["font", "one", "other"] [] S_halfway) {f : Addr} (cdv : Value) (A : Around) (outer : List PySem.Env) (s : Shared) (H : Hp) (E : XK) (G : Hp) (hr : Room 3 (A.deeper (envOfC "_law_refused" (defScope st_law_refused) s.heap.objs.size f cdv)))
    (tk : Takes (XB P w K mg base ["font", "one", "other", "kinds", "e"] "_law_refused" (defScope st_law_refused) f cdv A outer s H E) (fun cls d _ H => E cls d H)) (hp : PassesOwn (model P w) (XB P w K mg base ["font", "one", "other", "kinds", "e"] "_law_refused" (defScope st_law_refused) f cdv A outer s H E).A (XB P w K mg base ["font", "one", "other", "kinds", "e"] "_law_refused" (defScope st_law_refused) f cdv A outer s H E).env (XB P w K mg base ["font", "one", "other", "kinds", "e"] "_law_refused" (defScope st_law_refused) f cdv A outer s H E).xe) :
    DSs (XB P w K mg base ["font", "one", "other", "kinds", "e"] "_law_refused" (defScope st_law_refused) f cdv A outer s H E) (fun cls d _ H => E cls d H) G (defBody st_law_refused) m_law_refused :=
  (dss_cons (ds_let (i := 3) sc_law_refused.nd rfl (by first | exact Or.inl rfl | exact Or.inr rfl) (de_lst da_nil) (by rfl) (by first | exact Or.inl rfl | exact Or.inr rfl)) (dss_cons (ds_try (i := 4) rfl rfl sc_law_refused.nd rfl rfl X_All (by decide) (by rfl) (by decide) tk (fun W1 pn1 xe1 tk1 hp1 => (dss_one (ds_expr (de_call' F_halfway hr (by decide) (by rfl) (fun _ => .nil) tk1 (da_cons (de_var 0 (pv 0)) (da_cons (de_var 1 (pv 1)) (da_cons (de_var 2 (pv 2)) da_nil (by rfl)) (by rfl)) (by rfl)) (by decide) (by rfl) (by rfl)) (by rfl)))) (fun a Dn oe pn m hmN hmg hz hfl => (dss_one (ds_let (i := 3) sc_law_refused.nd rfl (by first | exact Or.inl rfl | exact Or.inr rfl) (de_lst (da_cons (de_isEV (i := 4) X_All hmN hmg hz hfl (by rfl) T.isinstance (pv 4) (pe_bltn (by rfl) T.ValueError (by decide +kernel) rfl) (by rfl) (by rfl) (by rfl)) (da_cons (de_isE1 (i := 4) X_All hmN (by decide) hmg hz hfl (by rfl) T.isinstance (pv 4) (by rfl) (by decide) (by rfl) (by rfl) (by rfl)) (da_cons (de_isE1 (i := 4) X_All hmN (by decide) hmg hz hfl (by rfl) T.isinstance (pv 4) (by rfl) (by decide) (by rfl) (by rfl) (by rfl)) da_nil (by rfl)) (by rfl)) (by rfl))) (by rfl) (by first | exact Or.inl rfl | exact Or.inr rfl))))) (dss_one (ds_ret (de_var 3 (pv 3))))))
theorem l_law_refused : ∀ ds Q E, S_law_refused ds Q E → ds.length = 3 := sp3_len rfl
local macro_rules | `(tactic| walk_at "x") => `(tactic| simp only [e_halfway, f_halfway, ltL_iff, pair_iff, colsD_tS, kD_inr, kD_inl, entD_n, entD_s, enI_n, enI_s, enI_iff, encM_eq, rowO_frz, paperO_frz, ent_iff, entl_iff, paper_iff, oD_n, oD_s, nats_nL, oL_snoc, oL_len, oL_take, oL_drop, drs_snoc, lts_snoc, nearD_n, nearD_s, near_iff, wholeB_int, sortedF_s, oDs_frz, wyD_eq])
theorem w_law_refused : ∀ ds Q E, S_law_refused ds Q E → m_law_refused (enD Q E) (startD ["font", "one", "other", "kinds", "e"] ds) := sp3_w (by
  rintro a0 a1 a2 Q E ⟨f, rfl, hf, t, rfl, kt, ht, u, rfl, ku, hu, hq⟩
  unfold m_law_refused startD
  walk_at "h"
  walk_at "h"
  have sz := sizeLine_eq
  rcases hq with ⟨hn, hq⟩ | ⟨i1, i2, hne, hq⟩
  · refine ⟨fun _ => ⟨by decide, ?_⟩, fun a b => absurd ⟨a, b⟩ hn, fun a b => absurd ⟨a, b⟩ hn⟩
    rw [if_pos (by decide)]
    exact fun _ => ⟨by omega, hq⟩
  · refine ⟨fun n => absurd ⟨i1, i2⟩ n, fun _ _ _ => ⟨by decide, ?_⟩, fun _ _ e => absurd e hne⟩
    rw [if_pos (by decide)]
    exact fun _ => ⟨by omega, hq⟩)
theorem ok_law_refused {P : Program} {w : World} {K : K0} {mg : Str → Option Value} {base : Heap} {f : Addr} {fd : FuncData} (F : FunD K "_law_refused" "_law_refused" (defArgs st_law_refused) (defBody st_law_refused) (defScope st_law_refused) [] [] f fd) (g : mg "_law_refused" = some (.ref f)) (T : Gb mg) (X_All : ExAll K mg exNs) (F_halfway : FnAt P w K mg base 3 "halfway" ["font", "one", "other"] [] S_halfway) : FnAt P w K mg base 4 "_law_refused" ["font", "one", "other"] [] S_law_refused :=
  fnAt F g sc_law_refused (fun _ _ _ _ _ _ us hl => match us, hl with | [_, _, _], _ => rfl) l_law_refused (fun cdv A outer s H E G hr tk hp => d_law_refused T X_All F_halfway cdv A outer s H E G hr tk hp) w_law_refused
/-! law_columns -/
--uses M2D
def f_law_columns : D → D → D → (R → Prop) → (Str → Prop) → Prop := fun a b c Q E => ∃ xs : List Nat, a = .list (nL xs) ∧ b = .int (xs.length : Int) ∧ ∃ h : Nat, c = .int h ∧ h ≤ 60 ∧ (∀ x ∈ xs, x < 2 ^ h) ∧ Q (.v (.bool true))
def S_law_columns : Spec := sp3 f_law_columns
theorem e_law_columns (x0 x1 x2 : D) (Q : R → Prop) (E : Str → Prop) : S_law_columns [x0, x1, x2] Q E = f_law_columns x0 x1 x2 Q E := rfl
abbrev st_law_columns : Stmt := top 31
def m_law_columns : WS := (wSq (wIf (wtOr (wtNot (wTru (wIsi "list" (wVar 0)))) (c2 cNe (wB (f1 lenD) (waC (wVar 0) waN)) (wVar 1))) (wRet (wC (.bool false))) wNil) (wSq (wFor (wiA (wVar 0)) (gN 3) (wSq (wIf (wtOr (wtNot (wTru (wIsi "int" (wVar 3)))) (wTru (wIsi "bool" (wVar 3)))) (wRet (wC (.bool false))) wNil) (wIf (wtOr (c2 cLt (wVar 3) (wC (.int 0))) (c2 cGe (wVar 3) (wShl (wC (.int 1)) (wVar 2)))) (wRet (wC (.bool false))) wNil))) (wRet (wC (.bool true)))))
theorem sc_law_columns : FnScope ["found", "columns", "height", "column"] ["found", "columns", "height"] (defScope st_law_columns) := ⟨rfl, rfl, rfl, by decide +kernel, rfl, by decide +kernel, by decide +kernel⟩
theorem d_law_columns {P : Program} {w : World} {K : K0} {mg : Str → Option Value} {base : Heap} (T : Gb mg) {f : Addr} (cdv : Value) (A : Around) (outer : List PySem.Env) (s : Shared) (H : Hp) (E : XK) (G : Hp) (hr : Room 0 (A.deeper (envOfC "_law_columns" (defScope st_law_columns) s.heap.objs.size f cdv)))
    (tk : Takes (XB P w K mg base ["found", "columns", "height", "column"] "_law_columns" (defScope st_law_columns) f cdv A outer s H E) (fun cls d _ H => E cls d H)) (hp : PassesOwn (model P w) (XB P w K mg base ["found", "columns", "height", "column"] "_law_columns" (defScope st_law_columns) f cdv A outer s H E).A (XB P w K mg base ["found", "columns", "height", "column"] "_law_columns" (defScope st_law_columns) f cdv A outer s H E).env (XB P w K mg base ["found", "columns", "height", "column"] "_law_columns" (defScope st_law_columns) f cdv A outer s H E).xe) :
    DSs (XB P w K mg base ["found", "columns", "height", "column"] "_law_columns" (defScope st_law_columns) f cdv A outer s H E) (fun cls d _ H => E cls d H) G (defBody st_law_columns) m_law_columns :=
  (dss_cons (ds_if (dt_w (dw_or (dt_not (dt_tru (de_isi (c := "list") (by decide) (by rfl) T.isinstance (de_var 0 (pv 0)) (pe_bltn (by rfl) T.list (by decide +kernel) rfl) (by rfl) (by rfl) (by rfl)) (by intro _; rfl))) (dw_or1 (dt_cmp (opNeD hr.units) (de_B cLen (by rfl) T.len (by decide +kernel) (da_cons (de_var 0 (pv 0)) da_nil (by rfl)) (by decide) (by decide) (by rfl) (by rfl)) (de_var 1 (pv 1)) (nomark _))))) (dss_one (ds_ret (de_c pe_bl rfl))) dss_nil) (dss_cons (ds_for (vs := [3]) hp rfl (di_any (de_var 0 (pv 0))) (dg_name (i := 3) (by decide) sc_law_columns.nd rfl (by first | exact Or.inl rfl | exact Or.inr rfl) (by first | exact Or.inl rfl | exact Or.inr rfl)) (dss_cons (ds_if (dt_w (dw_or (dt_not (dt_tru (de_isi (c := "int") (by decide) (by rfl) T.isinstance (de_var 3 (pv 3)) (pe_bltn (by rfl) T.int (by decide +kernel) rfl) (by rfl) (by rfl) (by rfl)) (by intro _; rfl))) (dw_or1 (dt_tru (de_isi (c := "bool") (by decide) (by rfl) T.isinstance (de_var 3 (pv 3)) (pe_bltn (by rfl) T.bool (by decide +kernel) rfl) (by rfl) (by rfl) (by rfl)) (by intro _; rfl))))) (dss_one (ds_ret (de_c pe_bl rfl))) dss_nil) (dss_one (ds_if (dt_w (dw_or (dt_cmp (opLtD hr.units0) (de_var 3 (pv 3)) (de_c pe_int rfl) (nomark _)) (dw_or1 (dt_cmp opGeD (de_var 3 (pv 3)) (de_shl (de_c pe_int rfl) (de_var 2 (pv 2))) (nomark _))))) (dss_one (ds_ret (de_c pe_bl rfl))) dss_nil))) (by intro _; rfl)) (dss_one (ds_ret (de_c pe_bl rfl)))))
theorem l_law_columns : ∀ ds Q E, S_law_columns ds Q E → ds.length = 3 := sp3_len rfl
local macro_rules | `(tactic| walk_at "x") => `(tactic| simp only [ltL_iff, pair_iff, colsD_tS, kD_inr, kD_inl, entD_n, entD_s, enI_n, enI_s, enI_iff, encM_eq, rowO_frz, paperO_frz, ent_iff, entl_iff, paper_iff, oD_n, oD_s, nats_nL, oL_snoc, oL_len, oL_take, oL_drop, drs_snoc, lts_snoc, nearD_n, nearD_s, near_iff, wholeB_int, sortedF_s, oDs_frz, wyD_eq])
theorem w_law_columns : ∀ ds Q E, S_law_columns ds Q E → m_law_columns (enD Q E) (startD ["found", "columns", "height", "column"] ds) := sp3_w (by
  rintro a0 a1 a2 Q E ⟨xs, rfl, rfl, h, rfl, h60, hx, hq⟩
  unfold m_law_columns startD
  walk_at "h"
  walk_at "h"
  refine for_gs [3] (fun o : Option O => [o]) (fun _ _ => True) none rfl trivial ?_ ?_
  · rintro k x o hd _
    have := hx x (List.mem_of_getElem? hd)
    walk_at "h"
    refine ite_i (fun h1 => ?_) fun _ => ⟨cpow_ok (by omega) (by omega) (by decide), ite_i (fun h2 => ?_) fun _ => nxF _ rfl trivial⟩
    · rcases h1 with h1 | h1
      · simp at h1
      · omega
    · omega
  · rintro o _
    walk_at "h"
    exact hq)
theorem ok_law_columns {P : Program} {w : World} {K : K0} {mg : Str → Option Value} {base : Heap} {f : Addr} {fd : FuncData} (F : FunD K "_law_columns" "_law_columns" (defArgs st_law_columns) (defBody st_law_columns) (defScope st_law_columns) [] [] f fd) (g : mg "_law_columns" = some (.ref f)) (T : Gb mg) : FnAt P w K mg base 1 "_law_columns" ["found", "columns", "height"] [] S_law_columns :=
  fnAt F g sc_law_columns (fun _ _ _ _ _ _ us hl => match us, hl with | [_, _, _], _ => rfl) l_law_columns (fun cdv A outer s H E G hr tk hp => d_law_columns T cdv A outer s H E G hr tk hp) w_law_columns
/-! law -/
--uses M2D

abbrev st_law : Stmt := top 32
def m_law : WS := (wSq (wLet 1 (wCall S_law_sizes [] (waC (wCall S_law_cell_at [] (waC (wVar 0) (waC (wC (.int 0)) waN))) waN))) (wSq (wLet 2 (wCall S_law_signs [] (waC (wCall S_law_cell_at [] (waC (wVar 0) (waC (wC (.int 1)) waN))) (waC (wAdd (wIx (wVar 1) (wC (.int 1))) (wC (.int 1))) waN)))) (wSq (wLet 3 (wCall S_law_font [] (waC (wCall S_law_cell_at [] (waC (wVar 0) (waC (wC (.int 2)) waN))) (waC (wVar 1) (waC (wVar 2) waN))))) (wSq (wLet 4 (wSl (wVar 0) (woE (wC (.int 4))) (woE (wC (.int 52))))) (wSq (wLet 5 (wCall S_law_cell_at [] (waC (wVar 0) (waC (wC (.int 3)) waN)))) (wSq (wLet 6 (wCall S_law_chosen [] (waC (wVar 3) (waC (wVar 4) (waC (wC (.int 0)) waN))))) (wSq (wLet 7 (wCall S_law_other [] (waC (wVar 3) (waC (wVar 6) (waC (wVar 4) (waC (wVar 5) waN)))))) (wSq (wLet 8 (wCall S_law_mix [] (waC (wVar 5) (waC (wC (.int 30)) waN)))) (wSqM (wIf (c2 cEq (wMod (wVar 8) (wC (.int 4))) (wC (.int 3))) (wSqM (wIf (c2 cLt (wMod (wDiv (wVar 8) (wC (.int 4))) (wC (.int 3))) (wC (.int 2))) (wLet 6 (wCall S_law_put [] (waC (wVar 6) (waC (wIx (wVar 2) (wNeg (wC (.int 1)))) (waC (wCall S_law_mix [] (waC (wVar 5) (waC (wC (.int 31)) waN))) waN))))) wNil) (wIf (c2 cGt (wMod (wDiv (wVar 8) (wC (.int 4))) (wC (.int 3))) (wC (.int 0))) (wLet 7 (wCall S_law_put [] (waC (wVar 7) (waC (wIx (wVar 2) (wNeg (wC (.int 1)))) (waC (wCall S_law_mix [] (waC (wVar 5) (waC (wC (.int 32)) waN))) waN))))) wNil)) wNil) (wSq (wLet 9 (wCall S_law_set [] (waC (wVar 3) (waC (wVar 6) waN)))) (wSq (wLet 10 (wCall S_law_set [] (waC (wVar 3) (waC (wVar 7) waN)))) (wSq (wIf (wtOr (c2 cIs (wVar 9) (wC .none)) (c2 cIs (wVar 10) (wC .none))) (wRet (wtv (c2 cEq (wCall S_law_refused [] (waC (wVar 3) (waC (wVar 6) (waC (wVar 7) waN)))) (wLst (waC (wC (.bool true)) (waC (wC (.bool true)) (waC (wC (.bool false)) waN))))))) wNil) (wSq (wIf (c2 cNe (wB (f1 lenD) (waC (wVar 9) waN)) (wB (f1 lenD) (waC (wVar 10) waN))) (wRet (wtv (c2 cEq (wCall S_law_refused [] (waC (wVar 3) (waC (wVar 6) (waC (wVar 7) waN)))) (wLst (waC (wC (.bool true)) (waC (wC (.bool false)) (waC (wC (.bool true)) waN))))))) wNil) (wSq (wLet 11 (wCall S_law_unlike [] (waC (wVar 9) (waC (wVar 10) (waC (wIx (wVar 3) (wC (.int 0))) waN))))) (wSq (wLet 12 (wCall S_halfway [] (waC (wVar 3) (waC (wVar 6) (waC (wVar 7) waN))))) (wSq (wIf (wtNot (wTru (wCall S_law_columns [] (waC (wVar 12) (waC (wB (f1 lenD) (waC (wVar 9) waN)) (waC (wIx (wVar 3) (wC (.int 0))) waN)))))) (wRet (wC (.bool false))) wNil) (wSq (wLet 13 (wDiv (wAdd (wB (f1 lenD) (waC (wVar 11) waN)) (wC (.int 1))) (wC (.int 2)))) (wSq (wIf (c2 cNe (wCall S_law_unlike [] (waC (wVar 9) (waC (wVar 12) (waC (wIx (wVar 3) (wC (.int 0))) waN)))) (wSl (wVar 11) woN (woE (wVar 13)))) (wRet (wC (.bool false))) wNil) (wRet (wtv (c2 cEq (wCall S_law_unlike [] (waC (wVar 12) (waC (wVar 10) (waC (wIx (wVar 3) (wC (.int 0))) waN)))) (wSl (wVar 11) (woE (wVar 13)) woN))))))))))))))))))))))
theorem sc_law : FnScope ["script", "sizes", "signs", "font", "cells", "way", "one", "other", "lack", "first", "second", "spots", "found", "many"] ["script"] (defScope st_law) := ⟨rfl, rfl, rfl, by decide +kernel, rfl, by decide +kernel, by decide +kernel⟩
theorem d_law {P : Program} {w : World} {K : K0} {mg : Str → Option Value} {base : Heap} (T : Gb mg) (F_law_cell_at : FnAt P w K mg base 1 "_law_cell_at" ["script", "k"] [] S_law_cell_at) (F_law_chosen : FnAt P w K mg base 1 "_law_chosen" ["font", "cells", "way"] [] S_law_chosen) (F_law_columns : FnAt P w K mg base 1 "_law_columns" ["found", "columns", "height"] [] S_law_columns) (F_law_font : FnAt P w K mg base 3 "_law_font" ["cell", "sizes", "signs"] [] S_law_font) (F_law_mix : FnAt P w K mg base 1 "_law_mix" ["cell", "k"] [] S_law_mix) (F_law_other : FnAt P w K mg base 2 "_law_other" ["font", "text", "cells", "way"] [] S_law_other) (F_law_put : FnAt P w K mg base 1 "_law_put" ["text", "sign", "at"] [] S_law_put) (F_law_refused : FnAt P w K mg base 4 "_law_refused" ["font", "one", "other"] [] S_law_refused) (F_law_set : FnAt P w K mg base 1 "_law_set" ["font", "text"] [] S_law_set) (F_law_signs : FnAt P w K mg base 2 "_law_signs" ["cell", "many"] [] S_law_signs) (F_law_sizes : FnAt P w K mg base 2 "_law_sizes" ["cell"] [] S_law_sizes) (F_law_unlike : FnAt P w K mg base 1 "_law_unlike" ["one", "other", "height"] [] S_law_unlike) (F_halfway : FnAt P w K mg base 3 "halfway" ["font", "one", "other"] [] S_halfway) {f : Addr} (cdv : Value) (A : Around) (outer : List PySem.Env) (s : Shared) (H : Hp) (E : XK) (G : Hp) (hr : Room 4 (A.deeper (envOfC "law" (defScope st_law) s.heap.objs.size f cdv)))
    (tk : Takes (XB P w K mg base ["script", "sizes", "signs", "font", "cells", "way", "one", "other", "lack", "first", "second", "spots", "found", "many"] "law" (defScope st_law) f cdv A outer s H E) (fun cls d _ H => E cls d H)) (hp : PassesOwn (model P w) (XB P w K mg base ["script", "sizes", "signs", "font", "cells", "way", "one", "other", "lack", "first", "second", "spots", "found", "many"] "law" (defScope st_law) f cdv A outer s H E).A (XB P w K mg base ["script", "sizes", "signs", "font", "cells", "way", "one", "other", "lack", "first", "second", "spots", "found", "many"] "law" (defScope st_law) f cdv A outer s H E).env (XB P w K mg base ["script", "sizes", "signs", "font", "cells", "way", "one", "other", "lack", "first", "second", "spots", "found", "many"] "law" (defScope st_law) f cdv A outer s H E).xe) :
    DSs (XB P w K mg base ["script", "sizes", "signs", "font", "cells", "way", "one", "other", "lack", "first", "second", "spots", "found", "many"] "law" (defScope st_law) f cdv A outer s H E) (fun cls d _ H => E cls d H) G (defBody st_law) m_law :=
  (dss_cons (ds_let (i := 1) sc_law.nd rfl (by first | exact Or.inl rfl | exact Or.inr rfl) (de_call' F_law_sizes hr (by decide) (by rfl) (fun _ => .nil) tk (da_cons (de_call' F_law_cell_at hr (by decide) (by rfl) (fun _ => .nil) tk (da_cons (de_var 0 (pv 0)) (da_cons (de_c pe_int rfl) da_nil (by rfl)) (by rfl)) (by decide) (by rfl) (by rfl)) da_nil (by rfl)) (by decide) (by rfl) (by rfl)) (by rfl) (by first | exact Or.inl rfl | exact Or.inr rfl)) (dss_cons (ds_let (i := 2) sc_law.nd rfl (by first | exact Or.inl rfl | exact Or.inr rfl) (de_call' F_law_signs hr (by decide) (by rfl) (fun _ => .nil) tk (da_cons (de_call' F_law_cell_at hr (by decide) (by rfl) (fun _ => .nil) tk (da_cons (de_var 0 (pv 0)) (da_cons (de_c pe_int rfl) da_nil (by rfl)) (by rfl)) (by decide) (by rfl) (by rfl)) (da_cons (de_add (de_ix (hu_of hr) (de_var 1 (pv 1)) (de_c pe_int rfl) (fun _ _ => rfl)) (de_c pe_int rfl)) da_nil (by rfl)) (by rfl)) (by decide) (by rfl) (by rfl)) (by rfl) (by first | exact Or.inl rfl | exact Or.inr rfl)) (dss_cons (ds_let (i := 3) sc_law.nd rfl (by first | exact Or.inl rfl | exact Or.inr rfl) (de_call' F_law_font hr (by decide) (by rfl) (fun _ => .nil) tk (da_cons (de_call' F_law_cell_at hr (by decide) (by rfl) (fun _ => .nil) tk (da_cons (de_var 0 (pv 0)) (da_cons (de_c pe_int rfl) da_nil (by rfl)) (by rfl)) (by decide) (by rfl) (by rfl)) (da_cons (de_var 1 (pv 1)) (da_cons (de_var 2 (pv 2)) da_nil (by rfl)) (by rfl)) (by rfl)) (by decide) (by rfl) (by rfl)) (by rfl) (by first | exact Or.inl rfl | exact Or.inr rfl)) (dss_cons (ds_let (i := 4) sc_law.nd rfl (by first | exact Or.inl rfl | exact Or.inr rfl) (de_slice (de_var 0 (pv 0)) (do_some (de_c pe_int rfl)) (do_some (de_c pe_int rfl))) (by rfl) (by first | exact Or.inl rfl | exact Or.inr rfl)) (dss_cons (ds_let (i := 5) sc_law.nd rfl (by first | exact Or.inl rfl | exact Or.inr rfl) (de_call' F_law_cell_at hr (by decide) (by rfl) (fun _ => .nil) tk (da_cons (de_var 0 (pv 0)) (da_cons (de_c pe_int rfl) da_nil (by rfl)) (by rfl)) (by decide) (by rfl) (by rfl)) (by rfl) (by first | exact Or.inl rfl | exact Or.inr rfl)) (dss_cons (ds_let (i := 6) sc_law.nd rfl (by first | exact Or.inl rfl | exact Or.inr rfl) (de_call' F_law_chosen hr (by decide) (by rfl) (fun _ => .nil) tk (da_cons (de_var 3 (pv 3)) (da_cons (de_var 4 (pv 4)) (da_cons (de_c pe_int rfl) da_nil (by rfl)) (by rfl)) (by rfl)) (by decide) (by rfl) (by rfl)) (by rfl) (by first | exact Or.inl rfl | exact Or.inr rfl)) (dss_cons (ds_let (i := 7) sc_law.nd rfl (by first | exact Or.inl rfl | exact Or.inr rfl) (de_call' F_law_other hr (by decide) (by rfl) (fun _ => .nil) tk (da_cons (de_var 3 (pv 3)) (da_cons (de_var 6 (pv 6)) (da_cons (de_var 4 (pv 4)) (da_cons (de_var 5 (pv 5)) da_nil (by rfl)) (by rfl)) (by rfl)) (by rfl)) (by decide) (by rfl) (by rfl)) (by rfl) (by first | exact Or.inl rfl | exact Or.inr rfl)) (dss_cons (ds_let (i := 8) sc_law.nd rfl (by first | exact Or.inl rfl | exact Or.inr rfl) (de_call' F_law_mix hr (by decide) (by rfl) (fun _ => .nil) tk (da_cons (de_var 5 (pv 5)) (da_cons (de_c pe_int rfl) da_nil (by rfl)) (by rfl)) (by decide) (by rfl) (by rfl)) (by rfl) (by first | exact Or.inl rfl | exact Or.inr rfl)) (dss_cons (ds_if (dt_cmp (opEqD hr.units) (de_mod (de_var 8 (pv 8)) (de_c pe_int rfl)) (de_c pe_int rfl) (nomark _)) (dss_cons (ds_if (dt_cmp (opLtD hr.units0) (de_mod (de_div (de_var 8 (pv 8)) (de_c pe_int rfl)) (de_c pe_int rfl)) (de_c pe_int rfl) (nomark _)) (dss_one (ds_let (i := 6) sc_law.nd rfl (by first | exact Or.inl rfl | exact Or.inr rfl) (de_call' F_law_put hr (by decide) (by rfl) (fun _ => .nil) tk (da_cons (de_var 6 (pv 6)) (da_cons (de_ix (hu_of hr) (de_var 2 (pv 2)) (de_neg (de_c pe_int rfl)) (fun _ _ => rfl)) (da_cons (de_call' F_law_mix hr (by decide) (by rfl) (fun _ => .nil) tk (da_cons (de_var 5 (pv 5)) (da_cons (de_c pe_int rfl) da_nil (by rfl)) (by rfl)) (by decide) (by rfl) (by rfl)) da_nil (by rfl)) (by rfl)) (by rfl)) (by decide) (by rfl) (by rfl)) (by rfl) (by first | exact Or.inl rfl | exact Or.inr rfl))) dss_nil) (dss_one (ds_if (dt_cmp opGtD (de_mod (de_div (de_var 8 (pv 8)) (de_c pe_int rfl)) (de_c pe_int rfl)) (de_c pe_int rfl) (nomark _)) (dss_one (ds_let (i := 7) sc_law.nd rfl (by first | exact Or.inl rfl | exact Or.inr rfl) (de_call' F_law_put hr (by decide) (by rfl) (fun _ => .nil) tk (da_cons (de_var 7 (pv 7)) (da_cons (de_ix (hu_of hr) (de_var 2 (pv 2)) (de_neg (de_c pe_int rfl)) (fun _ _ => rfl)) (da_cons (de_call' F_law_mix hr (by decide) (by rfl) (fun _ => .nil) tk (da_cons (de_var 5 (pv 5)) (da_cons (de_c pe_int rfl) da_nil (by rfl)) (by rfl)) (by decide) (by rfl) (by rfl)) da_nil (by rfl)) (by rfl)) (by rfl)) (by decide) (by rfl) (by rfl)) (by rfl) (by first | exact Or.inl rfl | exact Or.inr rfl))) dss_nil))) dss_nil) (dss_cons (ds_let (i := 9) sc_law.nd rfl (by first | exact Or.inl rfl | exact Or.inr rfl) (de_call' F_law_set hr (by decide) (by rfl) (fun _ => .nil) tk (da_cons (de_var 3 (pv 3)) (da_cons (de_var 6 (pv 6)) da_nil (by rfl)) (by rfl)) (by decide) (by rfl) (by rfl)) (by rfl) (by first | exact Or.inl rfl | exact Or.inr rfl)) (dss_cons (ds_let (i := 10) sc_law.nd rfl (by first | exact Or.inl rfl | exact Or.inr rfl) (de_call' F_law_set hr (by decide) (by rfl) (fun _ => .nil) tk (da_cons (de_var 3 (pv 3)) (da_cons (de_var 7 (pv 7)) da_nil (by rfl)) (by rfl)) (by decide) (by rfl) (by rfl)) (by rfl) (by first | exact Or.inl rfl | exact Or.inr rfl)) (dss_cons (ds_if (dt_w (dw_or (dt_cmp opIsD (de_var 9 (pv 9)) (de_c pe_non rfl) (nomark _)) (dw_or1 (dt_cmp opIsD (de_var 10 (pv 10)) (de_c pe_non rfl) (nomark _))))) (dss_one (ds_ret (de_cmp (opEqD hr.units) (de_call' F_law_refused hr (by decide) (by rfl) (fun _ => .nil) tk (da_cons (de_var 3 (pv 3)) (da_cons (de_var 6 (pv 6)) (da_cons (de_var 7 (pv 7)) da_nil (by rfl)) (by rfl)) (by rfl)) (by decide) (by rfl) (by rfl)) (de_lst (da_cons (de_c pe_bl rfl) (da_cons (de_c pe_bl rfl) (da_cons (de_c pe_bl rfl) da_nil (by rfl)) (by rfl)) (by rfl))) (nomark _)))) dss_nil) (dss_cons (ds_if (dt_cmp (opNeD hr.units) (de_B cLen (by rfl) T.len (by decide +kernel) (da_cons (de_var 9 (pv 9)) da_nil (by rfl)) (by decide) (by decide) (by rfl) (by rfl)) (de_B cLen (by rfl) T.len (by decide +kernel) (da_cons (de_var 10 (pv 10)) da_nil (by rfl)) (by decide) (by decide) (by rfl) (by rfl)) (nomark _)) (dss_one (ds_ret (de_cmp (opEqD hr.units) (de_call' F_law_refused hr (by decide) (by rfl) (fun _ => .nil) tk (da_cons (de_var 3 (pv 3)) (da_cons (de_var 6 (pv 6)) (da_cons (de_var 7 (pv 7)) da_nil (by rfl)) (by rfl)) (by rfl)) (by decide) (by rfl) (by rfl)) (de_lst (da_cons (de_c pe_bl rfl) (da_cons (de_c pe_bl rfl) (da_cons (de_c pe_bl rfl) da_nil (by rfl)) (by rfl)) (by rfl))) (nomark _)))) dss_nil) (dss_cons (ds_let (i := 11) sc_law.nd rfl (by first | exact Or.inl rfl | exact Or.inr rfl) (de_call' F_law_unlike hr (by decide) (by rfl) (fun _ => .nil) tk (da_cons (de_var 9 (pv 9)) (da_cons (de_var 10 (pv 10)) (da_cons (de_ix (hu_of hr) (de_var 3 (pv 3)) (de_c pe_int rfl) (fun _ _ => rfl)) da_nil (by rfl)) (by rfl)) (by rfl)) (by decide) (by rfl) (by rfl)) (by rfl) (by first | exact Or.inl rfl | exact Or.inr rfl)) (dss_cons (ds_let (i := 12) sc_law.nd rfl (by first | exact Or.inl rfl | exact Or.inr rfl) (de_call' F_halfway hr (by decide) (by rfl) (fun _ => .nil) tk (da_cons (de_var 3 (pv 3)) (da_cons (de_var 6 (pv 6)) (da_cons (de_var 7 (pv 7)) da_nil (by rfl)) (by rfl)) (by rfl)) (by decide) (by rfl) (by rfl)) (by rfl) (by first | exact Or.inl rfl | exact Or.inr rfl)) (dss_cons (ds_if (dt_not (dt_tru (de_call' F_law_columns hr (by decide) (by rfl) (fun _ => .nil) tk (da_cons (de_var 12 (pv 12)) (da_cons (de_B cLen (by rfl) T.len (by decide +kernel) (da_cons (de_var 9 (pv 9)) da_nil (by rfl)) (by decide) (by decide) (by rfl) (by rfl)) (da_cons (de_ix (hu_of hr) (de_var 3 (pv 3)) (de_c pe_int rfl) (fun _ _ => rfl)) da_nil (by rfl)) (by rfl)) (by rfl)) (by decide) (by rfl) (by rfl)) (by intro _; rfl))) (dss_one (ds_ret (de_c pe_bl rfl))) dss_nil) (dss_cons (ds_let (i := 13) sc_law.nd rfl (by first | exact Or.inl rfl | exact Or.inr rfl) (de_div (de_add (de_B cLen (by rfl) T.len (by decide +kernel) (da_cons (de_var 11 (pv 11)) da_nil (by rfl)) (by decide) (by decide) (by rfl) (by rfl)) (de_c pe_int rfl)) (de_c pe_int rfl)) (by rfl) (by first | exact Or.inl rfl | exact Or.inr rfl)) (dss_cons (ds_if (dt_cmp (opNeD hr.units) (de_call' F_law_unlike hr (by decide) (by rfl) (fun _ => .nil) tk (da_cons (de_var 9 (pv 9)) (da_cons (de_var 12 (pv 12)) (da_cons (de_ix (hu_of hr) (de_var 3 (pv 3)) (de_c pe_int rfl) (fun _ _ => rfl)) da_nil (by rfl)) (by rfl)) (by rfl)) (by decide) (by rfl) (by rfl)) (de_slice (de_var 11 (pv 11)) do_none (do_some (de_var 13 (pv 13)))) (nomark _)) (dss_one (ds_ret (de_c pe_bl rfl))) dss_nil) (dss_one (ds_ret (de_cmp (opEqD hr.units) (de_call' F_law_unlike hr (by decide) (by rfl) (fun _ => .nil) tk (da_cons (de_var 12 (pv 12)) (da_cons (de_var 10 (pv 10)) (da_cons (de_ix (hu_of hr) (de_var 3 (pv 3)) (de_c pe_int rfl) (fun _ _ => rfl)) da_nil (by rfl)) (by rfl)) (by rfl)) (by decide) (by rfl) (by rfl)) (de_slice (de_var 11 (pv 11)) (do_some (de_var 13 (pv 13))) do_none) (nomark _))))))))))))))))))))))
theorem l_law : ∀ ds Q E, S_law ds Q E → ds.length = 1 := sp1_len rfl
local macro_rules | `(tactic| walk_at "x") => `(tactic| simp only [e_halfway, f_halfway, e_law_cell_at, f_law_cell_at, e_law_chosen, f_law_chosen, e_law_columns, f_law_columns, e_law_font, f_law_font, e_law_mix, f_law_mix, e_law_other, f_law_other, e_law_put, f_law_put, e_law_refused, f_law_refused, e_law_set, f_law_set, e_law_signs, f_law_signs, e_law_sizes, f_law_sizes, e_law_unlike, f_law_unlike, ltL_iff, pair_iff, colsD_tS, kD_inr, kD_inl, entD_n, entD_s, enI_n, enI_s, enI_iff, encM_eq, rowO_frz, paperO_frz, ent_iff, entl_iff, paper_iff, oD_n, oD_s, nats_nL, oL_snoc, oL_len, oL_take, oL_drop, drs_snoc, lts_snoc, nearD_n, nearD_s, near_iff, wholeB_int, sortedF_s, oDs_frz, wyD_eq])
theorem w_law : ∀ ds Q E, S_law ds Q E → m_law (enD Q E) (startD ["script", "sizes", "signs", "font", "cells", "way", "one", "other", "lack", "first", "second", "spots", "found", "many"] ds) := sp1_w (by
  rintro a0 Q E ⟨ns, rfl, hl, hb, hq⟩
  unfold m_law startD
  walk_at "h"
  walk_at "h"
  intro h n w r h1 h60 n1 n8 w1 w8 r1 r40
  walk_at "h"
  rw [show (n : Int) + 1 = ((n + 1 : Nat) : Int) from by push_cast; rfl]
  refine ⟨n + 1, rfl, by omega, fun ss l1 sg nd => ?_⟩
  walk_at "h"
  refine ⟨h, n, w, r, ⟨rfl, rfl, rfl, rfl⟩, ss, rfl, h1, h60, n1, by omega, w1, w8, by omega, sg, nd, fun f hf fh fp => ?_⟩
  walk_at "h"
  have hlc : ((ns.take 52).drop 4).length ≤ 63 := by rw [List.length_drop, List.length_take]; omega
  generalize (ns.take 52).drop 4 = cs at hlc
  refine ⟨hlc, by omega, fun t0 t1 t2 => ?_⟩
  walk_at "h"
  intro u0 u1 u2
  walk_at "h"
  intro lack
  refine wSqM_by [6, 7] (fun y : List Nat × List Nat => [some (.fro (.str (tS y.1))), some (.fro (.str (tS y.2)))]) (fun y => (okT y.1 ∧ y.1.length ≤ 70) ∧ okT y.2 ∧ y.2.length ≤ 70) ?_ fun y ⟨⟨y1, y2⟩, y3, y4⟩ => ?_
  · have hne : ss ≠ [] := fun e => by rw [e] at l1; simp at l1
    have s1 : atI (oL ss) (-1) = some (PyData.str (tS [ss.getLast hne])) := atI_map_last _ hne
    have s2 := sg _ (List.getLast_mem hne)
    have okP : ∀ (t : List Nat) (k : Nat), okT t → okT (t.take k ++ [ss.getLast hne] ++ t.drop k) := fun t k ok => ((ok.sub fun _ m => List.mem_of_mem_take m).app (okT_one (okSg_lt s2))).app (ok.sub fun _ m => List.mem_of_mem_drop m)
    have lnP : ∀ (t : List Nat) (k : Nat) (s : Nat), k ≤ t.length → (t.take k ++ [s] ++ t.drop k).length = t.length + 1 := fun t k s hk => by
      rw [List.length_append, List.length_append, List.length_take, List.length_drop, List.length_singleton]; omega
    walk_at "h"
    refine ite_i (fun _ => ?_) fun _ => ⟨(t0, u0), ⟨rfl, rfl⟩, ⟨inF_ok hf t2, by show t0.length ≤ 70; omega⟩, inF_ok hf u2, by show u0.length ≤ 70; omega⟩
    refine wSqM_by [6] (fun t : List Nat => [some (.fro (.str (tS t)))]) (fun t => okT t ∧ t.length ≤ 70) ?_ fun t ⟨k1, k2⟩ => ?_
    · walk_at "h"
      refine ite_i (fun _ => ⟨_, s1, by decide, fun _ => ⟨by omega, _, rfl, fun k hk => ⟨okP _ _ (inF_ok hf t2), by rw [lnP _ _ _ hk]; omega⟩⟩⟩) fun _ => ⟨inF_ok hf t2, by omega⟩
    · walk_at "h"
      refine ite_i (fun _ => ⟨_, s1, by decide, fun _ => ⟨by omega, _, rfl, fun k hk => ⟨(t, u0.take k ++ [ss.getLast hne] ++ u0.drop k), ⟨rfl, rfl⟩, ⟨k1, k2⟩, okP _ _ (inF_ok hf u2), by show (u0.take k ++ [ss.getLast hne] ++ u0.drop k).length ≤ 70; rw [lnP _ _ _ hk]; omega⟩⟩⟩) fun _ => ⟨(t, u0), ⟨rfl, rfl⟩, ⟨k1, k2⟩, inF_ok hf u2, by show u0.length ≤ 70; omega⟩
  obtain ⟨t, u⟩ := y
  simp only at y1 y2 y3 y4
  walk_at "h"
  have hu : u.length ≤ 100 := by omega
  have ht : t.length ≤ 100 := by omega
  have sz := sizeLine_eq
  have k110 := kinds_go (a := [true, true, false]) (b := [true, true, false]) rfl hq
  have k101 := kinds_go (a := [true, false, true]) (b := [true, false, true]) rfl hq
  refine ⟨fun i1 => ?_, fun i1 => ?_⟩
  · have bad : ¬ (inF f t ∧ inF f u) := fun q => i1 q.1
    walk_at "h"
    refine ⟨fun _ => ?_, fun _ => ?_⟩
    · walk_at "h"
      exact .inl ⟨bad, by omega, k110⟩
    · walk_at "h"
      exact .inl ⟨bad, by omega, k110⟩
  walk_at "h"
  refine ⟨fun i2 => ?_, fun i2 => ?_⟩
  · walk_at "h"
    exact .inl ⟨fun q => i2 q.2, by omega, k110⟩
  have l1 := setF_len hf t
  have l2 := setF_len hf u
  have x1 := setF_lt hf (t := t)
  have x2 := setF_lt hf (t := u)
  walk_at "h"
  refine ite_i (fun h9 => ⟨hf, y1, ht, y3, hu, .inr ⟨i1, i2, by simpa using h9, by omega, k101⟩⟩) fun h9 => ?_
  have el : (setF f t).length = (setF f u).length := by simpa using h9
  have hh := hf.h60
  have hh1 := hf.h1
  generalize hX : setF f t = xs at *
  generalize hY : setF f u = ys at *
  walk_at "h"
  refine ⟨fun q => absurd ⟨i1, i2⟩ q, fun _ _ q => absurd (by rw [hX, hY]; exact el) q, fun _ _ _ => ?_⟩
  rw [hX, hY]
  have e1 := mid_first (h := f.1) (xs := xs) (ys := ys) (((unlikeN f.1 xs ys).length + 1) / 2)
  have e2 := mid_last (h := f.1) el (((unlikeN f.1 xs ys).length + 1) / 2)
  have ml : (midN f.1 xs ys (((unlikeN f.1 xs ys).length + 1) / 2)).length = xs.length := turnN_len _ _
  have mlt : ∀ c ∈ midN f.1 xs ys (((unlikeN f.1 xs ys).length + 1) / 2), c < 2 ^ f.1 := turnN_lt hh1 (fun p mp => by
    obtain ⟨c, mc, rfl⟩ := List.mem_map.mp mp
    have := (unlike_mem.mp (List.mem_of_mem_take mc)).1.2
    unfold zP
    simp only
    omega) x1
  generalize hM : midN f.1 xs ys (((unlikeN f.1 xs ys).length + 1) / 2) = ms at e1 e2 ml mlt ⊢
  walk_at "h"
  rw [show (((unlikeN f.1 xs ys).length : Int) + 1) / 2 = ((((unlikeN f.1 xs ys).length + 1) / 2 : Nat) : Int) from by push_cast; rfl]
  have c1 : cut (pL (unlikeN f.1 xs ys)) none (some ((((unlikeN f.1 xs ys).length + 1) / 2 : Nat) : Int)) = pL (unlikeN f.1 xs ms) := by rw [e1, pL, cut_map, cut_to]
  have c2 : cut (pL (unlikeN f.1 xs ys)) (some ((((unlikeN f.1 xs ys).length + 1) / 2 : Nat) : Int)) none = pL (unlikeN f.1 ms ys) := by rw [e2, pL, cut_map, cut_from]
  rw [c1, c2]
  have q1 := sh_pairs (unlikeN f.1 xs ms)
  have q2 := sh_pairs (unlikeN f.1 ms ys)
  refine ⟨okEq_of q1 q1 (by decide), ite_i (fun h => ?_) fun _ => ⟨by omega, by omega, hh, okEq_of q2 q2 (by decide), by rw [eqv_self q2]; exact hq⟩⟩
  rw [eqv_self q1] at h
  cases h)
theorem ok_law {P : Program} {w : World} {K : K0} {mg : Str → Option Value} {base : Heap} {f : Addr} {fd : FuncData} (F : FunD K "law" "law" (defArgs st_law) (defBody st_law) (defScope st_law) [] [] f fd) (T : Gb mg) (F_law_cell_at : FnAt P w K mg base 1 "_law_cell_at" ["script", "k"] [] S_law_cell_at) (F_law_chosen : FnAt P w K mg base 1 "_law_chosen" ["font", "cells", "way"] [] S_law_chosen) (F_law_columns : FnAt P w K mg base 1 "_law_columns" ["found", "columns", "height"] [] S_law_columns) (F_law_font : FnAt P w K mg base 3 "_law_font" ["cell", "sizes", "signs"] [] S_law_font) (F_law_mix : FnAt P w K mg base 1 "_law_mix" ["cell", "k"] [] S_law_mix) (F_law_other : FnAt P w K mg base 2 "_law_other" ["font", "text", "cells", "way"] [] S_law_other) (F_law_put : FnAt P w K mg base 1 "_law_put" ["text", "sign", "at"] [] S_law_put) (F_law_refused : FnAt P w K mg base 4 "_law_refused" ["font", "one", "other"] [] S_law_refused) (F_law_set : FnAt P w K mg base 1 "_law_set" ["font", "text"] [] S_law_set) (F_law_signs : FnAt P w K mg base 2 "_law_signs" ["cell", "many"] [] S_law_signs) (F_law_sizes : FnAt P w K mg base 2 "_law_sizes" ["cell"] [] S_law_sizes) (F_law_unlike : FnAt P w K mg base 1 "_law_unlike" ["one", "other", "height"] [] S_law_unlike) (F_halfway : FnAt P w K mg base 3 "halfway" ["font", "one", "other"] [] S_halfway) : FnOk P w K mg base (L2.CX P w) 5 f fd ["script"] (dsp K mg S_law) :=
  fn_d F sc_law l_law (fun cdv A outer s H E G hr tk hp => d_law T F_law_cell_at F_law_chosen F_law_columns F_law_font F_law_mix F_law_other F_law_put F_law_refused F_law_set F_law_signs F_law_sizes F_law_unlike F_halfway cdv A outer s H E G hr tk hp) w_law
def dfs : List He.DefD := [⟨("lines_of", none), "lines_of", "lines_of", defArgs st_lines_of, defBody st_lines_of, defScope st_lines_of, [], []⟩, ⟨("columns_of", none), "columns_of", "columns_of", defArgs st_columns_of, defBody st_columns_of, defScope st_columns_of, [], []⟩, ⟨("set_text", none), "set_text", "set_text", defArgs st_set_text, defBody st_set_text, defScope st_set_text, [], []⟩, ⟨("spots_apart", none), "spots_apart", "spots_apart", defArgs st_spots_apart, defBody st_spots_apart, defScope st_spots_apart, [], []⟩, ⟨("turned", none), "turned", "turned", defArgs st_turned, defBody st_turned, defScope st_turned, [], []⟩, ⟨("halfway", none), "halfway", "halfway", defArgs st_halfway, defBody st_halfway, defScope st_halfway, [], []⟩, ⟨("_law_cell_at", none), "_law_cell_at", "_law_cell_at", defArgs st_law_cell_at, defBody st_law_cell_at, defScope st_law_cell_at, [], []⟩, ⟨("_law_mix", none), "_law_mix", "_law_mix", defArgs st_law_mix, defBody st_law_mix, defScope st_law_mix, [], []⟩, ⟨("_law_sign", none), "_law_sign", "_law_sign", defArgs st_law_sign, defBody st_law_sign, defScope st_law_sign, [], []⟩, ⟨("_law_signs", none), "_law_signs", "_law_signs", defArgs st_law_signs, defBody st_law_signs, defScope st_law_signs, [], []⟩, ⟨("_law_sizes", none), "_law_sizes", "_law_sizes", defArgs st_law_sizes, defBody st_law_sizes, defScope st_law_sizes, [], []⟩, ⟨("_law_column", none), "_law_column", "_law_column", defArgs st_law_column, defBody st_law_column, defScope st_law_column, [], []⟩, ⟨("_law_font", none), "_law_font", "_law_font", defArgs st_law_font, defBody st_law_font, defScope st_law_font, [], []⟩, ⟨("_law_chosen", none), "_law_chosen", "_law_chosen", defArgs st_law_chosen, defBody st_law_chosen, defScope st_law_chosen, [], []⟩, ⟨("_law_exchanged", none), "_law_exchanged", "_law_exchanged", defArgs st_law_exchanged, defBody st_law_exchanged, defScope st_law_exchanged, [], []⟩, ⟨("_law_other", none), "_law_other", "_law_other", defArgs st_law_other, defBody st_law_other, defScope st_law_other, [], []⟩, ⟨("_law_put", none), "_law_put", "_law_put", defArgs st_law_put, defBody st_law_put, defScope st_law_put, [], []⟩, ⟨("_law_set", none), "_law_set", "_law_set", defArgs st_law_set, defBody st_law_set, defScope st_law_set, [], []⟩, ⟨("_law_unlike", none), "_law_unlike", "_law_unlike", defArgs st_law_unlike, defBody st_law_unlike, defScope st_law_unlike, [], []⟩, ⟨("_law_refused", none), "_law_refused", "_law_refused", defArgs st_law_refused, defBody st_law_refused, defScope st_law_refused, [], []⟩, ⟨("_law_columns", none), "_law_columns", "_law_columns", defArgs st_law_columns, defBody st_law_columns, defScope st_law_columns, [], []⟩, ⟨("law", none), "law", "law", defArgs st_law, defBody st_law, defScope st_law, [], []⟩]
def fas : List He.Fa := [.glo "lines_of", .glo "columns_of", .glo "set_text", .glo "spots_apart", .glo "turned", .glo "halfway", .glo "_law_cell_at", .glo "_law_mix", .glo "_law_sign", .glo "_law_signs", .glo "_law_sizes", .glo "_law_column", .glo "_law_font", .glo "_law_chosen", .glo "_law_exchanged", .glo "_law_other", .glo "_law_put", .glo "_law_set", .glo "_law_unlike", .glo "_law_refused", .glo "_law_columns", .glo "law", .exc "BlotError", .glo "BlotError", .exc "NotAlike", .glo "NotAlike", .exc "OffStrip", .glo "OffStrip", .exc "NoSign", .glo "NoSign"]
def loose0 : List Str := ["lines_of", "BlotError", "NotAlike", "OffStrip", "NoSign", "columns_of", "set_text", "spots_apart", "turned", "halfway", "_law_cell_at", "_law_mix", "_law_sign", "_law_signs", "_law_sizes", "_law_column", "_law_font", "_law_chosen", "_law_exchanged", "_law_other", "_law_put", "_law_set", "_law_unlike", "_law_refused", "_law_columns"]
def loose : List Str := loose0
abbrev Rw : PySem.W.OpenRow := PySem.W.OpenLaw.row PySem.Challenge.rw_blotsure_k61_halfway
abbrev hk : PySem.W.Hook := hookE 4 (fas0 ++ fas) dfs (excB exNs)
def ob (s : PySem.W.SharedT) : AlE := obsE 4 (fas0 ++ fas) dfs (excB exNs) (HandSHeadRun.getT s)
theorem ob_eq (s : PySem.W.SharedT) : ob s = hk.obs s.abs := obsE_eq (HandSHeadRun.getT_eq s)
theorem run (w : World) : HandSHeadRun.RunEq Rw (PySem.W.view Rw.prog [32]) hk ob 3980 loose w := by
  intro os
  kernel_rfl
theorem facts {P : Program} {w : World} {K : K0} {h : Heap} {mg : Str → Option Value} {f : Addr} (X : K.In h) (G : h.Ns mainGlobals mg) (hfa : mg ("law" : Str) = some (.ref f)) (c : He.SaysD (fas0 ++ fas) dfs K) (cx : excB exNs K = true) :
    ∃ fd : FuncData, (∀ (s : Shared) (v : Value), BindsTo s fd ⟨[v], []⟩ [("script", v)]) ∧ ∀ base : Heap, K.In base → base.Ns mainGlobals mg → FnOk P w K mg base (L2.CX P w) 5 f fd ["script"] (dsp K mg S_law) := by
  have T := gb_of X G c
  obtain ⟨f_lines_of, fd_lines_of, D_lines_of, g_lines_of⟩ := fun_of X G c (x := "lines_of") (st := st_lines_of) 0 22 rfl rfl
  obtain ⟨f_columns_of, fd_columns_of, D_columns_of, g_columns_of⟩ := fun_of X G c (x := "columns_of") (st := st_columns_of) 1 23 rfl rfl
  obtain ⟨f_set_text, fd_set_text, D_set_text, g_set_text⟩ := fun_of X G c (x := "set_text") (st := st_set_text) 2 24 rfl rfl
  obtain ⟨f_spots_apart, fd_spots_apart, D_spots_apart, g_spots_apart⟩ := fun_of X G c (x := "spots_apart") (st := st_spots_apart) 3 25 rfl rfl
  obtain ⟨f_turned, fd_turned, D_turned, g_turned⟩ := fun_of X G c (x := "turned") (st := st_turned) 4 26 rfl rfl
  obtain ⟨f_halfway, fd_halfway, D_halfway, g_halfway⟩ := fun_of X G c (x := "halfway") (st := st_halfway) 5 27 rfl rfl
  obtain ⟨f_law_cell_at, fd_law_cell_at, D_law_cell_at, g_law_cell_at⟩ := fun_of X G c (x := "_law_cell_at") (st := st_law_cell_at) 6 28 rfl rfl
  obtain ⟨f_law_mix, fd_law_mix, D_law_mix, g_law_mix⟩ := fun_of X G c (x := "_law_mix") (st := st_law_mix) 7 29 rfl rfl
  obtain ⟨f_law_sign, fd_law_sign, D_law_sign, g_law_sign⟩ := fun_of X G c (x := "_law_sign") (st := st_law_sign) 8 30 rfl rfl
  obtain ⟨f_law_signs, fd_law_signs, D_law_signs, g_law_signs⟩ := fun_of X G c (x := "_law_signs") (st := st_law_signs) 9 31 rfl rfl
  obtain ⟨f_law_sizes, fd_law_sizes, D_law_sizes, g_law_sizes⟩ := fun_of X G c (x := "_law_sizes") (st := st_law_sizes) 10 32 rfl rfl
  obtain ⟨f_law_column, fd_law_column, D_law_column, g_law_column⟩ := fun_of X G c (x := "_law_column") (st := st_law_column) 11 33 rfl rfl
  obtain ⟨f_law_font, fd_law_font, D_law_font, g_law_font⟩ := fun_of X G c (x := "_law_font") (st := st_law_font) 12 34 rfl rfl
  obtain ⟨f_law_chosen, fd_law_chosen, D_law_chosen, g_law_chosen⟩ := fun_of X G c (x := "_law_chosen") (st := st_law_chosen) 13 35 rfl rfl
  obtain ⟨f_law_exchanged, fd_law_exchanged, D_law_exchanged, g_law_exchanged⟩ := fun_of X G c (x := "_law_exchanged") (st := st_law_exchanged) 14 36 rfl rfl
  obtain ⟨f_law_other, fd_law_other, D_law_other, g_law_other⟩ := fun_of X G c (x := "_law_other") (st := st_law_other) 15 37 rfl rfl
  obtain ⟨f_law_put, fd_law_put, D_law_put, g_law_put⟩ := fun_of X G c (x := "_law_put") (st := st_law_put) 16 38 rfl rfl
  obtain ⟨f_law_set, fd_law_set, D_law_set, g_law_set⟩ := fun_of X G c (x := "_law_set") (st := st_law_set) 17 39 rfl rfl
  obtain ⟨f_law_unlike, fd_law_unlike, D_law_unlike, g_law_unlike⟩ := fun_of X G c (x := "_law_unlike") (st := st_law_unlike) 18 40 rfl rfl
  obtain ⟨f_law_refused, fd_law_refused, D_law_refused, g_law_refused⟩ := fun_of X G c (x := "_law_refused") (st := st_law_refused) 19 41 rfl rfl
  obtain ⟨f_law_columns, fd_law_columns, D_law_columns, g_law_columns⟩ := fun_of X G c (x := "_law_columns") (st := st_law_columns) 20 42 rfl rfl
  obtain ⟨f_law, fd_law, D_law, g_law⟩ := fun_of X G c (x := "law") (st := st_law) 21 43 rfl rfl
  have X_BlotError := ex_of X G c (x := "BlotError") 44 45 rfl rfl
  have X_NotAlike := ex_of X G c (x := "NotAlike") 46 47 rfl rfl
  have X_OffStrip := ex_of X G c (x := "OffStrip") 48 49 rfl rfl
  have X_NoSign := ex_of X G c (x := "NoSign") 50 51 rfl rfl
  have X_All : ExAll K mg exNs := exAll_of (by
    intro n hn
    simp only [exNs, List.mem_cons, List.not_mem_nil, or_false] at hn
    rcases hn with rfl | rfl | rfl | rfl
    · exact He.glo_ok X G (c.fact 45 (f := .glo "BlotError") rfl)
    · exact He.glo_ok X G (c.fact 47 (f := .glo "NotAlike") rfl)
    · exact He.glo_ok X G (c.fact 49 (f := .glo "OffStrip") rfl)
    · exact He.glo_ok X G (c.fact 51 (f := .glo "NoSign") rfl)) cx
  have e := hfa.symm.trans g_law
  cases e
  refine ⟨fd_law, law_binds D_law fun _ _ _ _ _ _ us hl => match us, hl with | [_], _ => rfl, fun base _ _ => ?_⟩
  have F_lines_of := ok_lines_of (P := P) (w := w) (base := base) D_lines_of g_lines_of T
  have F_columns_of := ok_columns_of (P := P) (w := w) (base := base) D_columns_of g_columns_of T X_NoSign
  have F_set_text := ok_set_text (P := P) (w := w) (base := base) D_set_text g_set_text T F_columns_of
  have F_spots_apart := ok_spots_apart (P := P) (w := w) (base := base) D_spots_apart g_spots_apart T X_NotAlike F_lines_of
  have F_turned := ok_turned (P := P) (w := w) (base := base) D_turned g_turned T X_OffStrip
  have F_halfway := ok_halfway (P := P) (w := w) (base := base) D_halfway g_halfway T F_set_text F_spots_apart F_turned
  have F_law_cell_at := ok_law_cell_at (P := P) (w := w) (base := base) D_law_cell_at g_law_cell_at T
  have F_law_mix := ok_law_mix (P := P) (w := w) (base := base) D_law_mix g_law_mix T
  have F_law_sign := ok_law_sign (P := P) (w := w) (base := base) D_law_sign g_law_sign T
  have F_law_signs := ok_law_signs (P := P) (w := w) (base := base) D_law_signs g_law_signs T F_law_mix F_law_sign
  have F_law_sizes := ok_law_sizes (P := P) (w := w) (base := base) D_law_sizes g_law_sizes T F_law_mix
  have F_law_column := ok_law_column (P := P) (w := w) (base := base) D_law_column g_law_column T F_law_mix
  have F_law_font := ok_law_font (P := P) (w := w) (base := base) D_law_font g_law_font T F_law_column F_law_mix
  have F_law_chosen := ok_law_chosen (P := P) (w := w) (base := base) D_law_chosen g_law_chosen T
  have F_law_exchanged := ok_law_exchanged (P := P) (w := w) (base := base) D_law_exchanged g_law_exchanged T
  have F_law_other := ok_law_other (P := P) (w := w) (base := base) D_law_other g_law_other T F_law_chosen F_law_exchanged
  have F_law_put := ok_law_put (P := P) (w := w) (base := base) D_law_put g_law_put T
  have F_law_set := ok_law_set (P := P) (w := w) (base := base) D_law_set g_law_set T
  have F_law_unlike := ok_law_unlike (P := P) (w := w) (base := base) D_law_unlike g_law_unlike T
  have F_law_refused := ok_law_refused (P := P) (w := w) (base := base) D_law_refused g_law_refused T X_All F_halfway
  have F_law_columns := ok_law_columns (P := P) (w := w) (base := base) D_law_columns g_law_columns T
  exact ok_law D_law T F_law_cell_at F_law_chosen F_law_columns F_law_font F_law_mix F_law_other F_law_put F_law_refused F_law_set F_law_signs F_law_sizes F_law_unlike F_halfway
end DL.L
open PySem PySem.W PySem.Calls PyProof.Rows
theorem PySem.Challenge.cw_blotsure_k61_halfway_holds : PySem.Challenge.rw_blotsure_k61_halfway.Holds := by
  w_on
  o_law
  refine HandSHeadRun.head_any (r := DL.L.Rw) (q := view DL.L.Rw.prog [32]) (H := DL.L.hk) (ob := DL.L.ob) (M := 3980) (loose := DL.L.loose) (d := HandSHeadRun.topDef DL.L.Rw.prog 32) (kwd := []) DL.L.ob_eq
    (by kernel_rfl) (fun s => by kernel_rfl) DL.L.run (by kernel_rfl) (by kernel_rfl) (by kernel_rfl) (by rfl) (by first | assumption | decide +kernel) (by decide +kernel) ⟨rfl, rfl, rfl, rfl, rfl, by decide +kernel⟩ ?hw ?hc
  case hw => w_witness2
  case hc =>
    refine DL.walk_EB (l := PySem.Challenge.rw_blotsure_k61_halfway) (n := 63) (k := 5) (x := "script") (CX := fun w => L2.CX (PySem.Challenge.rw_blotsure_k61_halfway).prog w) rfl (by decide) (by kernel_rfl) ⟨rfl, by decide, by decide⟩ ?F (fun w => DL.cx_none w)
    intro w mg fa h Y G hmg0
    obtain ⟨K, KX, c, cx⟩ := Y
    have hmg : mg ("law" : PySem.Str) = some (.ref fa) := by
      have e : (HandSHeadRun.topDef DL.L.Rw.prog 32).name = ("law" : PySem.Str) := by kernel_rfl
      rw [← e]
      exact hmg0
    obtain ⟨fd, hb, hF⟩ := DL.L.facts (P := (PySem.Challenge.rw_blotsure_k61_halfway).prog) (w := w) KX G hmg c cx
    exact ⟨K, fd, DL.dsp K mg DL.S_law, KX, hb, fun H a ns hl hbt ho hS => DL.law_sp H a ns hl hbt ho hS, hF⟩

