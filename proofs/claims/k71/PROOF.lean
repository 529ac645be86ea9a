import PyProof.Rows.All
import Wide.All
import OpenK.AllK
import Wide.FinOn
import HandS.ForMost
import HandS.ForExc
import HandS.Wide
import HandS.TupAny
import HandS.Conv
import HandS.WideBits
import HandS.Style
import HandS.IsInst
import HandS.CallSlots
import HandS.Defaults
import HandS.HeadHook2
import HandS.ExcOwn
import HandS.More
import KE.OsArith
import KE.KStateDown
import HandS.EndBits
import HandS.Head0
import HandS.Head1
import HandS.Head2
import HandS.HeadEnd
import HandS.HeadHook1
import HandS.Iter
import HandS.Zip
import HandS.Rev
import HandS.Small
import HandS.NoneIn
import HandS.Sort
import HandS.StrMore
import PyProof.StrOps2
import HandS.ExcIs
import HandS.TryOnly
import HandS.TryMany
import HandS.SortInts
import HandS.Dict
import PyProof.Rows.SortShellAny
import KE.KDictPairs
import PyProof.Rows.StrRev
import KE.SortData
import HandS.RevTup
import KE.KDictList
import KE.KEqNest
import HandS.Codes
import PySem.Challenge.RW_blotsure_k71_numbers_and_spots
set_option Elab.async false
set_option linter.all false
set_option maxRecDepth 100000
set_option maxHeartbeats 1000000
/-! DL1: values seen as data; what a function's own frame owns; the relation between both and the hand layer's heap. -/
namespace DL
open PySem L2
abbrev D := PyData
abbrev K0 := PySem.W.Frag

/-- a key of a dict as data -/
def kD : Key → D
  | .inl i => .int i
  | .inr x => .str x

/-- smaller heap -/
def Le (B H : Hp) : Prop := ∀ a o, B a = some o → H a = some o
theorem Le.refl (H : Hp) : Le H H := fun _ _ h => h
theorem Le.trans {A B C : Hp} (h : Le A B) (g : Le B C) : Le A C := fun a o x => g a o (h a o x)
theorem Le.none {B H : Hp} (h : Le B H) {a : Addr} (n : H a = none) : B a = none := by
  cases q : B a with
  | none => rfl
  | some o => rw [h a o q] at n; cases n
theorem Le.sqL {K : K0} {B H : Hp} (h : Le B H) {a : Addr} {xs : List V} (s : SqL K B a xs) : SqL K H a xs := by
  rcases s with (s | ⟨o, s⟩) | s
  · exact .inl (.inl (h _ _ s))
  · exact .inl (.inr ⟨o, h _ _ s⟩)
  · exact .inr s
theorem Le.sqT {K : K0} {B H : Hp} (h : Le B H) {a : Addr} {xs : List V} (s : SqT K B a xs) : SqT K H a xs := by
  rcases s with (s | ⟨o, s⟩) | s
  · exact .inl (.inl (h _ _ s))
  · exact .inl (.inr ⟨o, h _ _ s⟩)
  · exact .inr s
theorem Le.rd {B H : Hp} (h : Le B H) {a : Addr} {u : HO} (s : Rd B a u) : Rd H a u := by
  rcases s with s | ⟨o, s⟩
  · exact .inl (h _ _ s)
  · exact .inr ⟨o, h _ _ s⟩

/-- flat data -/
def flatD : D → Bool
  | .none => true | .bool _ => true | .int _ => true | .str _ => true | _ => false
/-- a tuple's object has no dict of its own, or one of its items is flat -/
def Pln (B : Hp) (a : Addr) : Prop := ∃ (o : Obj) (u : HO), B a = some (.frz o u) ∧ o.dict = none
def TupP (B : Hp) (a : Addr) (ds : List D) : Prop := Pln B a ∨ ∃ d ∈ ds, flatD d = true
theorem Pln.mono {B B' : Hp} {a : Addr} (l : Le B B') (h : Pln B a) : Pln B' a := let ⟨o, u, e, q⟩ := h; ⟨o, u, l _ _ e, q⟩
theorem TupP.mono {B B' : Hp} {a : Addr} {ds : List D} (l : Le B B') (h : TupP B a ds) : TupP B' a ds := h.imp (·.mono l) id
mutual
/-- a value that stands for data, all of it within the still part B -/
inductive Rep (K : K0) (B : Hp) : V → D → Prop
  | non : Rep K B .non .none
  | bl (b : Bool) : Rep K B (.bl b) (.bool b)
  | int (i : Int) : Rep K B (.int i) (.int i)
  | str (x : Str) : Rep K B (.str x) (.str x)
  | lst {a : Addr} {vs : List V} {ds : List D} : SqL K B a vs → RepAll K B vs ds → Rep K B (.ref a) (.list ds)
  | tup {a : Addr} {vs : List V} {ds : List D} : SqT K B a vs → RepAll K B vs ds → TupP B a ds → Rep K B (.ref a) (.tuple ds)
  | dic {a : Addr} {kvs : List (Key × V)} {ds : List (D × D)} : Rd B a (.dK kvs) → RepKV K B kvs ds → Rep K B (.ref a) (.dict ds)
inductive RepAll (K : K0) (B : Hp) : List V → List D → Prop
  | nil : RepAll K B [] []
  | cons {v : V} {vs : List V} {d : D} {ds : List D} : Rep K B v d → RepAll K B vs ds → RepAll K B (v :: vs) (d :: ds)
inductive RepKV (K : K0) (B : Hp) : List (Key × V) → List (D × D) → Prop
  | nil : RepKV K B [] []
  | cons {k : Key} {v : V} {kvs : List (Key × V)} {d : D} {ds : List (D × D)} : Rep K B v d → RepKV K B kvs ds → RepKV K B ((k, v) :: kvs) ((kD k, d) :: ds)
end

section
variable {K : K0} {B B' H : Hp}
mutual
theorem Rep.mono (l : Le B B') : ∀ {v : V} {d : D}, Rep K B v d → Rep K B' v d
  | _, _, .non => .non
  | _, _, .bl b => .bl b
  | _, _, .int i => .int i
  | _, _, .str x => .str x
  | _, _, .lst s r => .lst (l.sqL s) (RepAll.mono l r)
  | _, _, .tup s r p => .tup (l.sqT s) (RepAll.mono l r) (p.mono l)
  | _, _, .dic s r => .dic (l.rd s) (RepKV.mono l r)
theorem RepAll.mono (l : Le B B') : ∀ {vs : List V} {ds : List D}, RepAll K B vs ds → RepAll K B' vs ds
  | _, _, .nil => .nil
  | _, _, .cons r t => .cons (Rep.mono l r) (RepAll.mono l t)
theorem RepKV.mono (l : Le B B') : ∀ {vs : List (Key × V)} {ds : List (D × D)}, RepKV K B vs ds → RepKV K B' vs ds
  | _, _, .nil => .nil
  | _, _, .cons r t => .cons (Rep.mono l r) (RepKV.mono l t)
end
theorem RepAll.length : ∀ {vs : List V} {ds : List D}, RepAll K B vs ds → vs.length = ds.length
  | _, _, .nil => rfl
  | _, _, .cons _ t => congrArg (· + 1) (RepAll.length t)
theorem RepAll.get : ∀ {vs : List V} {ds : List D} {i : Nat} {d : D}, RepAll K B vs ds → ds[i]? = some d → ∃ v, vs[i]? = some v ∧ Rep K B v d
  | _, _, _, _, .nil, e => by simp at e
  | _, _, 0, _, .cons r _, e => by simp at e; subst e; exact ⟨_, rfl, r⟩
  | _, _, i + 1, d, .cons _ t, e => by
    obtain ⟨v, h1, h2⟩ := RepAll.get (i := i) (d := d) t (by simpa using e)
    exact ⟨v, by simpa using h1, h2⟩
theorem RepAll.getV : ∀ {vs : List V} {ds : List D} {i : Nat} {v : V}, RepAll K B vs ds → vs[i]? = some v → ∃ d, ds[i]? = some d ∧ Rep K B v d
  | _, _, _, _, .nil, e => by simp at e
  | _, _, 0, _, .cons r _, e => by simp at e; subst e; exact ⟨_, rfl, r⟩
  | _, _, i + 1, d, .cons _ t, e => by
    obtain ⟨v, h1, h2⟩ := RepAll.getV (i := i) (v := d) t (by simpa using e)
    exact ⟨v, by simpa using h1, h2⟩
theorem RepAll.append : ∀ {vs ws : List V} {ds es : List D}, RepAll K B vs ds → RepAll K B ws es → RepAll K B (vs ++ ws) (ds ++ es)
  | _, _, _, _, .nil, s => s
  | _, _, _, _, .cons r t, s => .cons r (RepAll.append t s)
theorem RepAll.one {v : V} {d : D} (r : Rep K B v d) : RepAll K B [v] [d] := .cons r .nil
theorem RepAll.take : ∀ {vs : List V} {ds : List D} (n : Nat), RepAll K B vs ds → RepAll K B (vs.take n) (ds.take n)
  | _, _, 0, _ => .nil
  | _, _, _ + 1, .nil => .nil
  | _, _, n + 1, .cons r t => .cons r (RepAll.take n t)
theorem RepAll.drop : ∀ {vs : List V} {ds : List D} (n : Nat), RepAll K B vs ds → RepAll K B (vs.drop n) (ds.drop n)
  | _, _, 0, r => r
  | _, _, _ + 1, .nil => .nil
  | _, _, n + 1, .cons _ t => RepAll.drop n t
theorem RepAll.set {v : V} {d : D} (r : Rep K B v d) : ∀ {vs : List V} {ds : List D} (i : Nat), RepAll K B vs ds → RepAll K B (vs.set i v) (ds.set i d)
  | _, _, _, .nil => .nil
  | _, _, 0, .cons _ t => .cons r t
  | _, _, i + 1, .cons q t => .cons q (RepAll.set r i t)
theorem RepAll.reverse : ∀ {vs : List V} {ds : List D}, RepAll K B vs ds → RepAll K B vs.reverse ds.reverse
  | _, _, .nil => .nil
  | _, _, .cons r t => by
    rw [List.reverse_cons, List.reverse_cons]
    exact (RepAll.reverse t).append (.one r)
theorem RepAll.dropLast {vs : List V} {ds : List D} (r : RepAll K B vs ds) : RepAll K B vs.dropLast ds.dropLast := by
  rw [List.dropLast_eq_take, List.dropLast_eq_take, r.length]
  exact r.take _
theorem RepAll.rep {vs : List V} {ds : List D} (r : RepAll K B vs ds) : ∀ n : Nat, RepAll K B (List.replicate n vs).flatten (List.replicate n ds).flatten
  | 0 => .nil
  | n + 1 => by
    rw [List.replicate_succ, List.replicate_succ, List.flatten_cons, List.flatten_cons]
    exact r.append (RepAll.rep r n)
theorem RepAll.insertIdx : ∀ {vs : List V} {ds : List D} {v : V} {d : D} (i : Nat), RepAll K B vs ds → Rep K B v d → RepAll K B (vs.insertIdx i v) (ds.insertIdx i d)
  | _, _, _, _, 0, t, r => .cons r t
  | _, _, _, _, _ + 1, .nil, _ => .nil
  | _, _, _, _, i + 1, .cons q t, r => .cons q (RepAll.insertIdx i t r)
theorem RepAll.eraseIdx : ∀ {vs : List V} {ds : List D} (i : Nat), RepAll K B vs ds → RepAll K B (vs.eraseIdx i) (ds.eraseIdx i)
  | _, _, _, .nil => .nil
  | _, _, 0, .cons _ t => t
  | _, _, i + 1, .cons q t => .cons q (RepAll.eraseIdx i t)
theorem RepAll.ints {ns : List Int} : RepAll K B (ns.map V.int) (ns.map PyData.int) := by
  induction ns with
  | nil => exact .nil
  | cons n r ih => exact .cons (.int n) ih
theorem RepKV.length : ∀ {vs : List (Key × V)} {ds : List (D × D)}, RepKV K B vs ds → vs.length = ds.length
  | _, _, .nil => rfl
  | _, _, .cons _ t => congrArg (· + 1) (RepKV.length t)
end

/-! ### what a frame owns -/
inductive O where
  /-- still: never changed from here on -/
  | fro (d : D)
  /-- an own list of still items, an own dict of still values, an own list of own things -/
  | lst (ds : List D)
  | dic (kvs : List (D × D))
  | lsts (os : List O)
  /-- a caught exception -/
  | raw (a : Addr)
mutual
def O.frz : O → D
  | .fro d => d
  | .lst ds => .list ds
  | .dic kvs => .dict kvs
  | .lsts os => .list (O.frzs os)
  | .raw _ => .none
def O.frzs : List O → List D
  | [] => []
  | o :: os => O.frz o :: O.frzs os
end
theorem O.frzs_map : ∀ os : List O, O.frzs os = os.map O.frz
  | [] => by rw [O.frzs]; rfl
  | o :: os => by rw [O.frzs, O.frzs_map os]; rfl
@[simp] theorem O.frz_fro (d : D) : O.frz (.fro d) = d := by rw [O.frz]
@[simp] theorem O.frz_lst (ds : List D) : O.frz (.lst ds) = .list ds := by rw [O.frz]
@[simp] theorem O.frz_dic (ds : List (D × D)) : O.frz (.dic ds) = .dict ds := by rw [O.frz]
@[simp] theorem O.frz_lsts (os : List O) : O.frz (.lsts os) = .list (os.map O.frz) := by rw [O.frz, O.frzs_map]

mutual
/-- v is the thing o; fp: the addresses that are owned -/
inductive Own (K : K0) (B H : Hp) : V → O → List Addr → Prop
  | fro {v : V} {d : D} : Rep K B v d → Own K B H v (.fro d) []
  | lst {a : Addr} {vs : List V} {ds : List D} : H a = some (.lst vs) → RepAll K B vs ds → Own K B H (.ref a) (.lst ds) [a]
  | dic {a : Addr} {kvs : List (Key × V)} {ds : List (D × D)} : H a = some (.dK kvs) → RepKV K B kvs ds → Own K B H (.ref a) (.dic ds) [a]
  | lsts {a : Addr} {vs : List V} {os : List O} {fp : List Addr} : H a = some (.lst vs) → OwnAll K B H vs os fp → Own K B H (.ref a) (.lsts os) (a :: fp)
inductive OwnAll (K : K0) (B H : Hp) : List V → List O → List Addr → Prop
  | nil : OwnAll K B H [] [] []
  | cons {v : V} {vs : List V} {o : O} {os : List O} {f g : List Addr} : Own K B H v o f → OwnAll K B H vs os g → OwnAll K B H (v :: vs) (o :: os) (f ++ g)
end
section
variable {K : K0} {B B' H H' : Hp}
mutual
theorem Own.mono (l : Le B B') : ∀ {v : V} {o : O} {f : List Addr}, (∀ a ∈ f, H' a = H a) → Own K B H v o f → Own K B' H' v o f
  | _, _, _, _, .fro r => .fro (r.mono l)
  | _, _, _, k, .lst h r => .lst (by rw [k _ (by simp)]; exact h) (r.mono l)
  | _, _, _, k, .dic h r => .dic (by rw [k _ (by simp)]; exact h) (r.mono l)
  | _, _, _, k, .lsts h r => .lsts (by rw [k _ (by simp)]; exact h) (OwnAll.mono l (fun a m => k a (List.mem_cons_of_mem _ m)) r)
theorem OwnAll.mono (l : Le B B') : ∀ {vs : List V} {os : List O} {f : List Addr}, (∀ a ∈ f, H' a = H a) → OwnAll K B H vs os f → OwnAll K B' H' vs os f
  | _, _, _, _, .nil => .nil
  | _, _, _, k, .cons r t => .cons (Own.mono l (fun a m => k a (List.mem_append_left _ m)) r) (OwnAll.mono l (fun a m => k a (List.mem_append_right _ m)) t)
end
mutual
theorem Own.dom : ∀ {v : V} {o : O} {f : List Addr}, Own K B H v o f → ∀ a ∈ f, ∃ u, H a = some u
  | _, _, _, .fro r, a, m => by simp at m
  | _, _, _, .lst h r, a, m => by simp at m; subst m; exact ⟨_, h⟩
  | _, _, _, .dic h r, a, m => by simp at m; subst m; exact ⟨_, h⟩
  | _, _, _, .lsts h r, a, m => by
    rcases List.mem_cons.mp m with rfl | m
    · exact ⟨_, h⟩
    · exact OwnAll.dom r a m
theorem OwnAll.dom : ∀ {vs : List V} {os : List O} {f : List Addr}, OwnAll K B H vs os f → ∀ a ∈ f, ∃ u, H a = some u
  | _, _, _, .nil, a, m => by simp at m
  | _, _, _, .cons r t, a, m => by
    rcases List.mem_append.mp m with m | m
    · exact Own.dom r a m
    · exact OwnAll.dom t a m
end
mutual
/-- made still: what stood at its addresses stands in B' -/
theorem Own.freeze (l : Le B B') : ∀ {v : V} {o : O} {f : List Addr}, (∀ a ∈ f, ∀ u, H a = some u → B' a = some u) → Own K B H v o f → Rep K B' v o.frz
  | _, _, _, _, .fro r => by rw [O.frz_fro]; exact r.mono l
  | _, _, _, k, .lst h r => by rw [O.frz_lst]; exact .lst (.inl (.inl (k _ (by simp) _ h))) (r.mono l)
  | _, _, _, k, .dic h r => by rw [O.frz_dic]; exact .dic (.inl (k _ (by simp) _ h)) (r.mono l)
  | _, _, _, k, .lsts h r => by
    rw [O.frz_lsts]
    exact .lst (.inl (.inl (k _ (by simp) _ h))) (OwnAll.freeze l (fun a m => k a (List.mem_cons_of_mem _ m)) r)
theorem OwnAll.freeze (l : Le B B') : ∀ {vs : List V} {os : List O} {f : List Addr}, (∀ a ∈ f, ∀ u, H a = some u → B' a = some u) → OwnAll K B H vs os f → RepAll K B' vs (os.map O.frz)
  | _, _, _, _, .nil => .nil
  | _, _, _, k, .cons r t => .cons (Own.freeze l (fun a m => k a (List.mem_append_left _ m)) r) (OwnAll.freeze l (fun a m => k a (List.mem_append_right _ m)) t)
end
/-- as it stands now, in the whole heap -/
theorem Own.rep (l : Le B H) {v : V} {o : O} {f : List Addr} (r : Own K B H v o f) : Rep K H v o.frz := r.freeze l fun _ _ _ h => h
theorem OwnAll.length : ∀ {vs : List V} {os : List O} {f : List Addr}, OwnAll K B H vs os f → vs.length = os.length
  | _, _, _, .nil => rfl
  | _, _, _, .cons _ t => congrArg (· + 1) (OwnAll.length t)
theorem OwnAll.get : ∀ {vs : List V} {os : List O} {f : List Addr} {i : Nat} {o : O}, OwnAll K B H vs os f → os[i]? = some o → ∃ v g, vs[i]? = some v ∧ Own K B H v o g ∧ g.Sublist f
  | _, _, _, _, _, .nil, e => by simp at e
  | _, _, _, 0, _, .cons r _, e => by simp at e; subst e; exact ⟨_, _, rfl, r, List.sublist_append_left _ _⟩
  | _, _, _, i + 1, o, .cons _ t, e => by
    obtain ⟨v, g, h1, h2, h3⟩ := OwnAll.get (i := i) (o := o) t (by simpa using e)
    exact ⟨v, g, by simpa using h1, h2, h3.trans (List.sublist_append_right _ _)⟩
theorem OwnAll.append : ∀ {vs ws : List V} {os ps : List O} {f g : List Addr}, OwnAll K B H vs os f → OwnAll K B H ws ps g → OwnAll K B H (vs ++ ws) (os ++ ps) (f ++ g)
  | _, _, _, _, _, _, .nil, s => s
  | _, _, _, _, _, _, .cons r t, s => by
    rw [List.append_assoc]
    exact .cons r (OwnAll.append t s)
end

/-! ### the frame -/
abbrev Env := List (Option O)
inductive OwnEnv (K : K0) (B H : Hp) : St → Env → List Addr → Prop
  | raw {a : Addr} {σ : St} {env : Env} {f : List Addr} : OwnEnv K B H σ env f → OwnEnv K B H (.some (.ref a) :: σ) (.some (.raw a) :: env) f
  | nil : OwnEnv K B H [] [] []
  | no {x : Option V} {σ : St} {env : Env} {f : List Addr} : OwnEnv K B H σ env f → OwnEnv K B H (x :: σ) (none :: env) f
  | some {v : V} {o : O} {σ : St} {env : Env} {f g : List Addr} : Own K B H v o f → OwnEnv K B H σ env g → OwnEnv K B H (some v :: σ) (some o :: env) (f ++ g)
section
variable {K : K0} {B B' H H' : Hp}
theorem OwnEnv.mono (l : Le B B') : ∀ {σ : St} {env : Env} {f : List Addr}, (∀ a ∈ f, H' a = H a) → OwnEnv K B H σ env f → OwnEnv K B' H' σ env f
  | _, _, _, _, .nil => .nil
  | _, _, _, k, .no t => .no (OwnEnv.mono l k t)
  | _, _, _, k, .raw t => .raw (OwnEnv.mono l k t)
  | _, _, _, k, .some r t => .some (r.mono l fun a m => k a (List.mem_append_left _ m)) (OwnEnv.mono l (fun a m => k a (List.mem_append_right _ m)) t)
theorem OwnEnv.dom : ∀ {σ : St} {env : Env} {f : List Addr}, OwnEnv K B H σ env f → ∀ a ∈ f, ∃ u, H a = .some u
  | _, _, _, .nil, a, m => by simp at m
  | _, _, _, .no t, a, m => OwnEnv.dom t a m
  | _, _, _, .raw t, a, m => OwnEnv.dom t a m
  | _, _, _, .some r t, a, m => by
    rcases List.mem_append.mp m with m | m
    · exact r.dom a m
    · exact OwnEnv.dom t a m
theorem OwnEnv.length : ∀ {σ : St} {env : Env} {f : List Addr}, OwnEnv K B H σ env f → σ.length = env.length
  | _, _, _, .nil => rfl
  | _, _, _, .no t => congrArg (· + 1) (OwnEnv.length t)
  | _, _, _, .raw t => congrArg (· + 1) (OwnEnv.length t)
  | _, _, _, .some _ t => congrArg (· + 1) (OwnEnv.length t)
theorem OwnEnv.get0 : ∀ {σ : St} {env : Env} {f : List Addr} {i : Nat} {o : O}, OwnEnv K B H σ env f → env[i]? = .some (.some o) → (∀ a, o ≠ .raw a) → ∃ v g, σ[i]? = .some (.some v) ∧ Own K B H v o g ∧ g.Sublist f
  | _, _, _, _, _, .nil, e, _ => by simp at e
  | _, _, _, 0, _, .no _, e, _ => by simp at e
  | _, _, _, 0, _, .raw _, e, hr => by simp at e; exact (hr _ e.symm).elim
  | _, _, _, i + 1, o, .no t, e, hr => by
    obtain ⟨v, g, h1, h2, h3⟩ := OwnEnv.get0 (i := i) (o := o) t (by simpa using e) hr
    exact ⟨v, g, by simpa using h1, h2, h3⟩
  | _, _, _, i + 1, o, .raw t, e, hr => by
    obtain ⟨v, g, h1, h2, h3⟩ := OwnEnv.get0 (i := i) (o := o) t (by simpa using e) hr
    exact ⟨v, g, by simpa using h1, h2, h3⟩
  | _, _, _, 0, _, .some r _, e, _ => by simp at e; subst e; exact ⟨_, _, rfl, r, List.sublist_append_left _ _⟩
  | _, _, _, i + 1, o, .some _ t, e, hr => by
    obtain ⟨v, g, h1, h2, h3⟩ := OwnEnv.get0 (i := i) (o := o) t (by simpa using e) hr
    exact ⟨v, g, by simpa using h1, h2, h3.trans (List.sublist_append_right _ _)⟩
theorem OwnEnv.get {σ : St} {env : Env} {f : List Addr} {i : Nat} {o : O} (x : OwnEnv K B H σ env f) (e : env[i]? = .some (.some o)) (hr : ∀ a, o ≠ .raw a := by intro _ h; cases h) : ∃ v g, σ[i]? = .some (.some v) ∧ Own K B H v o g ∧ g.Sublist f := x.get0 e hr
theorem OwnEnv.getRaw : ∀ {σ : St} {env : Env} {f : List Addr} {i : Nat} {a : Addr}, OwnEnv K B H σ env f → env[i]? = .some (.some (.raw a)) → σ[i]? = .some (.some (.ref a))
  | _, _, _, _, _, .nil, e => by simp at e
  | _, _, _, 0, _, .no _, e => by simp at e
  | _, _, _, 0, _, .raw _, e => by simp at e; subst e; rfl
  | _, _, _, 0, _, .some r _, e => by simp at e; subst e; cases r
  | _, _, _, i + 1, a, .no t, e => by
    have := OwnEnv.getRaw (i := i) (a := a) t (by simpa using e)
    simpa using this
  | _, _, _, i + 1, a, .raw t, e => by
    have := OwnEnv.getRaw (i := i) (a := a) t (by simpa using e)
    simpa using this
  | _, _, _, i + 1, a, .some _ t, e => by
    have := OwnEnv.getRaw (i := i) (a := a) t (by simpa using e)
    simpa using this
end
end DL

set_option Elab.async false
set_option linter.all false
set_option maxRecDepth 100000
set_option maxHeartbeats 1000000
/-! DL2: the judgements over data. -/
namespace DL
open PySem L2

/-- a result: still data, a thing just made, a look into an own thing -/
inductive R where
  | v (d : D) | t (o : O) | b (o : O)
/-- as data -/
def R.d : R → D
  | .v d => d
  | .t o => o.frz
  | .b o => o.frz
@[simp] theorem R.d_v (d : D) : (R.v d).d = d := rfl
@[simp] theorem R.d_t (o : O) : (R.t o).d = o.frz := rfl
@[simp] theorem R.d_b (o : O) : (R.b o).d = o.frz := rfl
/-- its items are still -/
def R.sh : R → Prop
  | .b (.lsts _) => False
  | _ => True
@[simp] theorem R.sh_v (d : D) : (R.v d).sh = True := rfl
@[simp] theorem R.sh_t (o : O) : (R.t o).sh = True := rfl
@[simp] theorem R.sh_bf (o : D) : (R.b (.fro o)).sh = True := rfl
@[simp] theorem R.sh_bl (o : List D) : (R.b (.lst o)).sh = True := rfl
@[simp] theorem R.sh_bd (o : List (D × D)) : (R.b (.dic o)).sh = True := rfl
/-- it may be kept -/
def R.st : R → Prop
  | .b _ => False
  | _ => True
@[simp] theorem R.st_v (d : D) : (R.v d).st = True := rfl
@[simp] theorem R.st_t (o : O) : (R.t o).st = True := rfl

/-- from one heap to a later one: what stood stands, the still part has grown by new things alone -/
structure Ext (H B H' B' : Hp) : Prop where
  same : Le H H'
  le : Le B B'
  bh : Le B' H'
  new : ∀ a o, H a = some o → B a = none → B' a = none
theorem Ext.refl {H B : Hp} (h : Le B H) : Ext H B H B := ⟨.refl _, .refl _, h, fun _ _ _ n => n⟩
theorem Ext.trans {H B H1 B1 H2 B2 : Hp} (x : Ext H B H1 B1) (y : Ext H1 B1 H2 B2) : Ext H B H2 B2 :=
  ⟨x.same.trans y.same, x.le.trans y.le, y.bh, fun a o h n => y.new a o (x.same a o h) (x.new a o h n)⟩
/-- a new object, still from its birth -/
theorem Ext.put {H B : Hp} (h : Le B H) {p : Addr} (np : H p = none) (o : HO) : Ext H B (upd H p o) (upd B p o) where
  same := fun a u e => by rw [upd_ne (ne_of_none e np)]; exact e
  le := fun a u e => by rw [upd_ne (ne_of_none (h a u e) np)]; exact e
  bh := fun a u e => by
    by_cases q : a = p
    · subst q; rw [upd_same] at e ⊢; exact e
    · rw [upd_ne q] at e ⊢; exact h a u e
  new := fun a u e n => by rw [upd_ne (ne_of_none e np)]; exact n
/-- a new object, not still -/
theorem Ext.make {H B : Hp} (h : Le B H) {p : Addr} (np : H p = none) (o : HO) : Ext H B (upd H p o) B where
  same := fun a u e => by rw [upd_ne (ne_of_none e np)]; exact e
  le := .refl _
  bh := fun a u e => by rw [upd_ne (ne_of_none (h a u e) np)]; exact h a u e
  new := fun a u e n => n

/-- what a result is, behind a step from H; fp: what the frame owns -/
def VOk (K : K0) (H : Hp) (fp : List Addr) (B' H' : Hp) (v : V) : R → Prop
  | .v d => Rep K B' v d
  | .t o => ∃ f, Own K B' H' v o f ∧ f.Nodup ∧ ∀ a ∈ f, H a = none ∧ B' a = none
  | .b o => ∃ f, Own K B' H' v o f ∧ f.Sublist fp

/-- the frame: B what is still, G what others keep, fp what the frame owns -/
structure RR (K : K0) (G B : Hp) (env : Env) (fp : List Addr) (σ : St) (H : Hp) : Prop where
  bh : Le B H
  gh : Le G H
  gb : ∀ a o, G a = some o → B a = none
  own : OwnEnv K B H σ env fp
  nd : fp.Nodup
  fb : ∀ a ∈ fp, B a = none ∧ G a = none

section
variable {K : K0} {G B B' B1 B2 H H' H1 H2 : Hp} {env : Env} {fp : List Addr} {σ : St} {v : V} {r : R}
theorem RR.ext (x : RR K G B env fp σ H) (e : Ext H B H' B') : RR K G B' env fp σ H' where
  bh := e.bh
  gh := x.gh.trans e.same
  gb := fun a o h => e.new a o (x.gh a o h) (x.gb a o h)
  own := x.own.mono e.le fun a m => by
    obtain ⟨u, h⟩ := x.own.dom a m
    rw [h]; exact e.same a u h
  nd := x.nd
  fb := fun a m => by
    obtain ⟨u, h⟩ := x.own.dom a m
    exact ⟨e.new a u h (x.fb a m).1, (x.fb a m).2⟩

/-- the heap part that lies at some addresses, put to B -/
def addB (B H : Hp) (f : List Addr) : Hp := fun a => if a ∈ f then H a else B a
theorem addB_in {f : List Addr} {a : Addr} (m : a ∈ f) : addB B H f a = H a := by unfold addB; rw [if_pos m]
theorem addB_out {f : List Addr} {a : Addr} (m : a ∉ f) : addB B H f a = B a := by unfold addB; rw [if_neg m]
theorem addB_le (f : List Addr) (l : Le B H) : Le B (addB B H f) := fun a o h => by
  by_cases m : a ∈ f
  · rw [addB_in m]; exact l a o h
  · rw [addB_out m]; exact h
theorem addB_bh (f : List Addr) (l : Le B H) : Le (addB B H f) H := fun a o h => by
  by_cases m : a ∈ f
  · rw [addB_in m] at h; exact h
  · rw [addB_out m] at h; exact l a o h

/-- a result as data that may be read now and later: its items are still, itself stands in the heap -/
inductive RV (K : K0) (B H : Hp) : V → D → Prop
  | rep {v : V} {d : D} : Rep K B v d → RV K B H v d
  | lst {a : Addr} {vs : List V} {ds : List D} : H a = some (.lst vs) → RepAll K B vs ds → RV K B H (.ref a) (.list ds)
  | dic {a : Addr} {kvs : List (Key × V)} {ds : List (D × D)} : H a = some (.dK kvs) → RepKV K B kvs ds → RV K B H (.ref a) (.dict ds)
theorem RV.mono {d : D} (x : RV K B H v d) (l : Le B B') (s : Le H H') : RV K B' H' v d := by
  cases x with
  | rep r => exact .rep (r.mono l)
  | lst h r => exact .lst (s _ _ h) (r.mono l)
  | dic h r => exact .dic (s _ _ h) (r.mono l)
theorem RV.ext {d : D} (x : RV K B H v d) (e : Ext H B H' B') : RV K B' H' v d := x.mono e.le e.same
theorem RV.toH {d : D} (x : RV K B H v d) (l : Le B H) : Rep K H v d := by
  cases x with
  | rep r => exact r.mono l
  | lst h r => exact .lst (.inl (.inl h)) (r.mono l)
  | dic h r => exact .dic (.inl h) (r.mono l)
theorem RV.list {ds : List D} (x : RV K B H v (.list ds)) (l : Le B H) : ∃ a vs, v = .ref a ∧ SqL K H a vs ∧ RepAll K B vs ds := by
  cases x with
  | rep r => cases r with | lst s r => exact ⟨_, _, rfl, l.sqL s, r⟩
  | lst h r => exact ⟨_, _, rfl, .inl (.inl h), r⟩
theorem RV.tup {ds : List D} (x : RV K B H v (.tuple ds)) (l : Le B H) : ∃ a vs, v = .ref a ∧ SqT K H a vs ∧ RepAll K B vs ds := by
  cases x with
  | rep r => cases r with | tup s r p => exact ⟨_, _, rfl, l.sqT s, r⟩
theorem RV.dict {ds : List (D × D)} (x : RV K B H v (.dict ds)) (l : Le B H) : ∃ a kvs, v = .ref a ∧ Rd H a (.dK kvs) ∧ RepKV K B kvs ds := by
  cases x with
  | rep r => cases r with | dic s r => exact ⟨_, _, rfl, l.rd s, r⟩
  | dic h r => exact ⟨_, _, rfl, .inl h, r⟩
theorem RV.int {i : Int} (x : RV K B H v (.int i)) : v = .int i := by cases x with | rep r => cases r; rfl
theorem RV.str {i : Str} (x : RV K B H v (.str i)) : v = .str i := by cases x with | rep r => cases r; rfl
theorem RV.bool {i : Bool} (x : RV K B H v (.bool i)) : v = .bl i := by cases x with | rep r => cases r; rfl
theorem RV.none (x : RV K B H v .none) : v = .non := by cases x with | rep r => cases r; rfl

/-- a thing just made is let be still -/
theorem still {o : O} {f : List Addr} (e : Ext H B H' B') (x : Own K B' H' v o f) (hf : ∀ a ∈ f, H a = .none ∧ B' a = .none) :
    Ext H B H' (addB B' H' f) ∧ Le B' (addB B' H' f) ∧ Rep K (addB B' H' f) v o.frz := by
  refine ⟨⟨e.same, e.le.trans (addB_le f e.bh), addB_bh f e.bh, fun a u h n => ?_⟩, addB_le f e.bh, x.freeze (addB_le f e.bh) fun a m u h => by rw [addB_in m]; exact h⟩
  have na : a ∉ f := fun m => by rw [(hf a m).1] at h; cases h
  rw [addB_out na]
  exact e.new a u h n

/-- a result to be read -/
theorem VOk.view (e : Ext H B H' B') (x : VOk K H fp B' H' v r) (s : r.sh) : ∃ B2, Ext H B H' B2 ∧ Le B' B2 ∧ RV K B2 H' v r.d := by
  cases r with
  | v d => exact ⟨B', e, .refl _, .rep x⟩
  | t o =>
    obtain ⟨f, x, nd, hf⟩ := x
    obtain ⟨h1, h2, h3⟩ := still e x hf
    exact ⟨_, h1, h2, .rep h3⟩
  | b o =>
    obtain ⟨f, x, hs⟩ := x
    refine ⟨B', e, .refl _, ?_⟩
    cases o with
    | fro d => cases x with | fro r => show RV K B' H' v (O.frz (.fro d)); rw [O.frz_fro]; exact .rep r
    | lst ds => cases x with | lst h r => show RV K B' H' _ (O.frz (.lst ds)); rw [O.frz_lst]; exact .lst h r
    | dic ds => cases x with | dic h r => show RV K B' H' _ (O.frz (.dic ds)); rw [O.frz_dic]; exact .dic h r
    | lsts os => exact s.elim
    | raw _ => cases x
/-- a result to be kept -/
theorem VOk.keep (e : Ext H B H' B') (x : VOk K H fp B' H' v r) (s : r.st) : ∃ B2, Ext H B H' B2 ∧ Le B' B2 ∧ Rep K B2 v r.d := by
  cases r with
  | v d => exact ⟨B', e, .refl _, x⟩
  | t o =>
    obtain ⟨f, x, nd, hf⟩ := x
    obtain ⟨h1, h2, h3⟩ := still e x hf
    exact ⟨_, h1, h2, h3⟩
  | b o => exact s.elim
/-- a result as it stands in the whole heap -/
theorem VOk.now (e : Ext H B H' B') (x : VOk K H fp B' H' v r) : Rep K H' v r.d := by
  cases r with
  | v d => exact x.mono e.bh
  | t o => obtain ⟨f, x, _⟩ := x; exact x.rep e.bh
  | b o => obtain ⟨f, x, _⟩ := x; exact x.rep e.bh
theorem VOk.back (e : Ext H B H1 B1) (x : VOk K H1 fp B' H' v r) : VOk K H fp B' H' v r := by
  cases r with
  | v d => exact x
  | t o =>
    obtain ⟨f, x, nd, hf⟩ := x
    exact ⟨f, x, nd, fun a m => ⟨e.same.none (hf a m).1, (hf a m).2⟩⟩
  | b o => exact x
end

/-! ### readings over data -/
abbrev WE := Env → (R → Prop) → (Str → Prop) → Prop
abbrev WT := Env → (Bool → Prop) → (Str → Prop) → Prop
abbrev WA := Env → (List R → Prop) → (Str → Prop) → Prop
structure En where
  nx : Env → Prop
  rt : R → Prop
  bk : Env → Prop
  ct : Env → Prop
  ex : Str → Env → Prop
abbrev WS := En → Env → Prop

/-- the wish about exceptions: E of the class's name -/
def XOk (mg : Str → Option Value) (W : WX) (H : Hp) (σ : St) (E : Str → Prop) : Prop :=
  ∀ n cls H', E n → mg n = some cls → Le H H' → W cls none σ H'
theorem XOk.later {mg : Str → Option Value} {W : WX} {H H1 : Hp} {σ : St} {E : Str → Prop} (x : XOk mg W H σ E) (l : Le H H1) : XOk mg W H1 σ E :=
  fun n cls H' e m s => x n cls H' e m (l.trans s)

/-- how what follows takes a result -/
def QOk (K : K0) (B H : Hp) (fp : List Addr) (Q : R → Prop) (QV : VK) : Prop :=
  ∀ v H' B' r, Ext H B H' B' → VOk K H fp B' H' v r → Q r → QV v H'
theorem QOk.later {K : K0} {B H B1 H1 : Hp} {fp : List Addr} {Q : R → Prop} {QV : VK} (q : QOk K B H fp Q QV) (e : Ext H B H1 B1) : QOk K B1 H1 fp Q QV :=
  fun v H' B' r e' x h => q v H' B' r (e.trans e') (x.back e) h

section
variable (X : Cx) (W : WX) (G : Hp)
def tD (m : WE) : TE := fun σ H QV => ∃ B env fp Q E, RR X.K G B env fp σ H ∧ m env Q E ∧ QOk X.K B H fp Q QV ∧ XOk X.mg W H σ E
def tDT (m : WT) : TT := fun σ H QV => ∃ B env fp Q E, RR X.K G B env fp σ H ∧ m env Q E ∧ (∀ b H' B', Ext H B H' B' → Q b → QV b H') ∧ XOk X.mg W H σ E
/-- several results, each kept or looked at: what they are in the end -/
inductive VAll (K : K0) (B' H' : Hp) : List V → List R → Prop
  | nil : VAll K B' H' [] []
  | st {v : V} {r : R} {vs : List V} {rs : List R} : r.st → Rep K B' v r.d → VAll K B' H' vs rs → VAll K B' H' (v :: vs) (r :: rs)
  | lk {v : V} {o : O} {f : List Addr} {vs : List V} {rs : List R} : Own K B' H' v o f → VAll K B' H' vs rs → VAll K B' H' (v :: vs) (.b o :: rs)
def tDA (m : WA) : TA := fun σ H QV => ∃ B env fp Q E, RR X.K G B env fp σ H ∧ m env Q E ∧ (∀ vs H' B' rs, Ext H B H' B' → VAll X.K B' H' vs rs → Q rs → QV vs H') ∧ XOk X.mg W H σ E
/-- the links of a statement's ends -/
structure SOk (B : Hp) (d : En) (D : Ends) (σ₀ : St) : Prop where
  nx : ∀ σ H B' env fp, Le B B' → RR X.K G B' env fp σ H → d.nx env → D.nx σ H
  bk : ∀ σ H B' env fp, Le B B' → RR X.K G B' env fp σ H → d.bk env → D.bk σ H
  ct : ∀ σ H B' env fp, Le B B' → RR X.K G B' env fp σ H → d.ct env → D.ct σ H
  rt : ∀ v H B' r (f : List Addr), Le B B' → Le B' H → Le G H → (∀ a o, G a = some o → B' a = none) → (∀ a ∈ f, B' a = none ∧ G a = none) → f.Nodup →
    (match r with | .v d => Rep X.K B' v d | .t o => Own X.K B' H v o f | .b _ => False) → d.rt r → D.rt v H
  ex : ∀ n cls σ H B' env fp, Le B B' → RR X.K G B' env fp σ H → d.ex n env → X.mg n = some cls → W cls .none σ H
def tDS (m : WS) : TS := fun D σ H => ∃ B env fp d, RR X.K G B env fp σ H ∧ m d env ∧ SOk X W G B d D σ
def DE (e : Expr) (m : WE) : Prop := PE X e (tD X W G m)
def DT (e : Expr) (m : WT) : Prop := PT X e (tDT X W G m)
def DA (es : List Expr) (m : WA) : Prop := PA X es (tDA X W G m)
def DS (st : Stmt) (m : WS) : Prop := PS X st (tDS X W G m)
def DSs (st : List Stmt) (m : WS) : Prop := PSs X st (tDS X W G m)
end

section
variable {X : Cx} {e : Expr} {es : List Expr} {st : Stmt} {sts : List Stmt}
theorem PEi {t t' : TE} (h : PE X e t) (f : ∀ σ H Q, t' σ H Q → t σ H Q) : PE X e t' := ⟨fun pins s σ H Q I w => h.run pins s σ H Q I (f σ H Q w)⟩
theorem PTi {t t' : TT} (h : PT X e t) (f : ∀ σ H Q, t' σ H Q → t σ H Q) : PT X e t' := ⟨fun pins s σ H Q I w => h.run pins s σ H Q I (f σ H Q w)⟩
theorem PWi {t t' : TT} (h : PW X e t) (f : ∀ σ H Q, t' σ H Q → t σ H Q) : PW X e t' := ⟨fun wh pins s σ H Q I w => h.run wh pins s σ H Q I (f σ H Q w)⟩
theorem PAi {t t' : TA} (h : PA X es t) (f : ∀ σ H Q, t' σ H Q → t σ H Q) : PA X es t' := ⟨fun p pins s σ H Q I w => h.run p pins s σ H Q I (f σ H Q w)⟩
theorem PSi {t t' : TS} (h : PS X st t) (f : ∀ D σ H, t' D σ H → t D σ H) : PS X st t' := ⟨fun pins s σ H D I w => h.run pins s σ H D I (f D σ H w)⟩
theorem PSsi {t t' : TS} (h : PSs X sts t) (f : ∀ D σ H, t' D σ H → t D σ H) : PSs X sts t' := ⟨fun pins s σ H D I w => h.run pins s σ H D I (f D σ H w)⟩
end
end DL

set_option Elab.async false
set_option linter.all false
set_option maxRecDepth 100000
set_option maxHeartbeats 1000000
/-! DLT: tuples made, their objects known: no dict of their own. -/
namespace DL
open PySem L2 PyProof.Rows
section
variable {X : Cx} {es : List Expr} {pos : Pos}
/-- what follows a new tuple -/
abbrev NewT (H : Hp) (xs : List V) (Q : VK) : Prop := ∀ p o, H p = none → Obj.dict o = none → Q (.ref p) (upd H p (.frz o (.tup xs)))
theorem newT {pins : List (Addr × Obj)} {σ : L2.St} {H : Hp} {s : Shared} (I : Inv X pins σ H s) {xs : List V} {its : List Value} {Q : VK} (z : xs.length ≤ sizeLine) (r : Vals xs its) (q : NewT H xs Q) {t' : Nat} :
    ∃ x H', Inv X pins σ H' { s with heap := s.heap.push { cls := .type "tuple", data := .seq its.toArray }, toks := t' } ∧ RelV x (.ref s.heap.objs.size) ∧ Q x H' :=
  ⟨.ref s.heap.objs.size, _, I.laid (t' := t') (o := .frz { cls := .type "tuple", data := .seq its.toArray } (.tup xs)) (fun b u e => Heap.get?_push_of_some _ e) (Nat.le_refl _) ⟨Heap.get?_push_size _ rfl, z, its, r, IsTup.new _ _⟩, rfl, q _ _ (I.hok.fresh (Nat.le_refl _)) rfl⟩
def tTupP (t : TA) : TE := fun σ H Q => t σ H fun xs H1 => xs.length ≤ sizeLine ∧ NewT H1 xs Q
theorem pe_tupP {t : TA} {x1} (h : PA X es t) : PE X (.Tuple es x1 pos) (tTupP t) := by
  refine ⟨fun pins s σ H Q I hq => ?_⟩
  refine wpAny_Tuple_spliced (thn (h.run pos pins s σ H _ I hq) fun us s1 ⟨xs, H1, I1, r, z, q⟩ => ⟨by rw [← r.length]; exact z, ?_⟩)
  exact newT I1 z r q
theorem call_tuple_ofP : CallR X (.type "tuple") (fun xs H Q => ∃ p ys, xs = [.ref p] ∧ ((SqL X.K H p ys ∧ NewT H ys Q) ∨ (SqT X.K H p ys ∧ Q (.ref p) H))) := by
  intro pins s σ H xs us Q I r h
  obtain ⟨p, ys, rfl, h⟩ := h
  obtain ⟨u, rfl, rx⟩ := vals1 r
  cases rx
  rcases h with ⟨hq, q⟩ | ⟨hq, q⟩
  · obtain ⟨its, r', pl, hz⟩ := I.list hq
    have hlen := r'.length
    refine call_tuple_list pl.isList (fun h' kp => ?_) (by simp only [List.size_toArray] <;> omega)
    have I1 : Inv X pins σ H { s with heap := h' } := I.kept (t' := s.toks) kp
    exact newT I1 hz r' q
  · obtain ⟨its, r', pl, hz⟩ := I.tuple hq
    exact call_tuple_same pl ⟨.ref p, H, I, rfl, q⟩
def rSlP (K : PySem.W.Frag) : V → Option Int → Option Int → Hp → VK → Prop := fun x lo hi H Q => ∃ a xs, x = .ref a ∧ SqT K H a xs ∧
  (HT.sIx xs.length 0 lo = 0 ∧ HT.sIx xs.length xs.length hi = xs.length → Q (.ref a) H) ∧ (¬ (HT.sIx xs.length 0 lo = 0 ∧ HT.sIx xs.length xs.length hi = xs.length) → NewT H (cutV xs lo hi) Q)
theorem sl_tupP : SlR X (rSlP X.K) := by
  intro pins s σ H x v vl vu lo hi sl Q I rx hs pl pu h
  obtain ⟨a, xs, rfl, hx, q1, q2⟩ := h
  cases rx
  obtain ⟨its, r, ht, hz⟩ := I.tuple hx
  have hlen : its.toArray.size = xs.length := by rw [List.size_toArray]; exact r.length.symm
  refine ⟨"tuple", _, PyProof.Rows.slot_tuple_getitem.lookup, ht.typeIs, ?_⟩
  by_cases hw : HT.sIx xs.length 0 lo = 0 ∧ HT.sIx xs.length xs.length hi = xs.length
  · exact getItem_tuple_whole ht hs pl pu (by rw [hlen]; exact hw) ⟨.ref a, H, I, rfl, q1 hw⟩
  · refine HT.getItem_tuple_cut ht hs pl pu (by rw [hlen]; exact hw) ?_ (by rw [hlen]; exact hz)
    rw [hlen]
    exact newT I (t' := s.toks) (Nat.le_trans (cutV_length xs lo hi) hz) ((r.drop (HT.sIx xs.length 0 lo)).take (HT.sIx xs.length xs.length hi - HT.sIx xs.length 0 lo)) (q2 hw)
def rCatP (K : PySem.W.Frag) : R2 := fun x y H Q => ∃ a b xs ys, x = .ref a ∧ y = .ref b ∧ SqT K H a xs ∧ SqT K H b ys ∧ xs.length + ys.length ≤ sizeLine ∧
  (xs = [] → Q (.ref b) H) ∧ (xs ≠ [] → ys = [] → Q (.ref a) H) ∧ (xs ≠ [] → ys ≠ [] → NewT H (xs ++ ys) Q)
theorem op_catP : OpR X (binaryOp .Add) (rCatP X.K) := by
  intro pins s σ H x y v u Q I rx ry h
  obtain ⟨a, b, xs, ys, rfl, rfl, ha, hb, hz, q0, q1, q2⟩ := h
  cases rx
  cases ry
  obtain ⟨its, r1, p1, _⟩ := I.tuple ha
  obtain ⟨its2, r2, p2, _⟩ := I.tuple hb
  by_cases hx : xs = []
  · subst hx
    cases r1
    exact cat_tup0 p1 p2 ⟨.ref b, H, I, rfl, q0 rfl⟩
  · refine HT.cat_tup p1 p2 (fun z => hx (r1.nil_iff.mp z)) (fun z => ⟨.ref a, H, I, rfl, q1 hx (r2.nil_iff.mp z)⟩) (fun z => ?_) (by rw [← r1.length, ← r2.length]; exact hz)
    exact newT I (t' := s.toks) (by rw [List.length_append]; exact hz) (r1.append r2) (q2 hx fun w => z (r2.nil_iff.mpr w))
theorem call_divmodP : CallR X (.builtin "divmod") (fun xs H Q => ∃ i j, xs = [.int i, .int j] ∧ CDivP i j ∧ NewT H [.int (i / j), .int (i % j)] Q) := by
  intro pins s σ H xs us Q I r h
  obtain ⟨i, j, rfl, ⟨h1, h2⟩, q⟩ := h
  obtain ⟨u, w', rfl, ⟨t, rfl⟩, ⟨t', rfl⟩⟩ := vals2 r
  refine divmod_int (by omega) ?_ (.inl h2)
  rw [Int.fdiv_eq_ediv_of_nonneg i (by omega), Int.fmod_eq_emod_of_nonneg i (by omega)]
  exact newT (xs := [.int (i / j), .int (i % j)]) (its := [.int (i / j) s.toks, .int (i % j) (s.toks + 1)]) I (by simp only [List.length_cons, List.length_nil]; rw [sizeLine_eq]; decide) (.cons ⟨_, rfl⟩ (.cons ⟨_, rfl⟩ .nil)) q
end
/-- a new still tuple -/
theorem newT_rep {K : K0} {B H : Hp} {p : Addr} {o : Obj} {vs : List V} {ds : List D} (l : Le B H) (np : H p = none) (ho : o.dict = none) (t : RepAll K B vs ds) : Rep K (upd B p (.frz o (.tup vs))) (.ref p) (.tuple ds) :=
  .tup (.inl (.inr ⟨o, upd_same⟩)) (t.mono (Ext.put l np (HO.frz o (.tup vs))).le) (.inl ⟨o, _, upd_same, ho⟩)
end DL

set_option Elab.async false
set_option linter.all false
set_option maxRecDepth 100000
set_option maxHeartbeats 1000000
/-! DL3: expressions over data: names, constants, operators, comparisons, tests. -/
namespace DL
open PySem L2 PyProof.Rows

/-! ### names, constants -/
def wVar (i : Nat) : WE := fun env Q _ => match env[i]? with
  | some (some (.fro d)) => Q (.v d)
  | some (some (.raw _)) => False
  | some (some o) => Q (.b o)
  | _ => False
def wC (d : D) : WE := fun _ Q _ => Q (.v d)
/-- flat data -/
def vD : D → Option V
  | .none => some .non
  | .bool b => some (.bl b)
  | .int i => some (.int i)
  | .str x => some (.str x)
  | _ => none
theorem vD_rep {K : K0} {B : Hp} {d : D} {v : V} (h : vD d = some v) : Rep K B v d := by
  cases d <;> simp [vD] at h <;> subst h
  · exact .non
  · exact .bl _
  · exact .int _
  · exact .str _
section
variable {X : Cx} {W : WX} {G : Hp} {e a b c : Expr} {m ma mb mc : WE}
theorem de_var (i : Nat) (h : PE X e (tVar i)) : DE X W G e (wVar i) := by
  refine PEi h fun σ H QV ⟨B, env, fp, Q, E, rr, hm, hq, _⟩ => ?_
  unfold wVar at hm
  split at hm
  · rename_i d he
    obtain ⟨v, g, h1, h2, h3⟩ := rr.own.get he
    cases h2 with
    | fro r => exact ⟨v, h1, hq v H B (.v d) (.refl rr.bh) r hm⟩
  · exact hm.elim
  · rename_i o _ hr he
    obtain ⟨v, g, h1, h2, h3⟩ := rr.own.get he fun a q => hr a q
    exact ⟨v, h1, hq v H B (.b o) (.refl rr.bh) ⟨g, h2, h3⟩ hm⟩
  · exact hm.elim
theorem de_c {d : D} {v : V} (h : PE X e (tC v)) (hv : vD d = some v) : DE X W G e (wC d) :=
  PEi h fun σ H QV ⟨B, env, fp, Q, E, rr, hm, hq, _⟩ => hq v H B (.v d) (.refl rr.bh) (vD_rep hv) hm

/-! ### two values -/
/-- a reading of a two-place operation on data -/
abbrev Op2 := D → D → (R → Prop) → Prop
def r2 (K : K0) (f : Op2) : R2 := fun x y H QV => ∃ B fp dx dy Q, Le B H ∧ RV K B H x dx ∧ RV K B H y dy ∧ f dx dy Q ∧ QOk K B H fp Q QV
def w2 (f : Op2) (ta tb : WE) : WE := fun env Q E => ta env (fun x => tb env (fun y => x.sh ∧ y.sh ∧ f x.d y.d Q) E) E
theorem two {K : K0} {ta tb : TE} {f : Op2} {r : R2} (ha : ∀ σ H QV, tD X W G ma σ H QV → ta σ H QV) (hb : ∀ σ H QV, tD X W G mb σ H QV → tb σ H QV)
    (hr : ∀ x y H QV, r2 X.K f x y H QV → r x y H QV) : ∀ σ H QV, tD X W G (w2 f ma mb) σ H QV → tOp r ta tb σ H QV := by
  rintro σ H QV ⟨B, env, fp, Q, E, rr, hm, hq, hx⟩
  refine ha σ H _ ⟨B, env, fp, _, E, rr, hm, fun v1 H1 B1 r1 e1 o1 q1 => ?_, hx⟩
  -- the first may be no value to look into: then the second way is never asked
  refine hb σ H1 _ ?_
  by_cases s1 : r1.sh
  · obtain ⟨B2, e2, l2, rv1⟩ := o1.view e1 s1
    refine ⟨B2, env, fp, _, E, rr.ext e2, q1, fun v2 H3 B3 r2 e3 o2 q2 => ?_, hx.later e1.same⟩
    obtain ⟨_, s2, hf⟩ := q2
    obtain ⟨B4, e4, l4, rv2⟩ := o2.view e3 s2
    exact hr _ _ _ _ ⟨B4, fp, _, _, Q, e4.bh, rv1.ext e4, rv2, hf, hq.later (e2.trans e4)⟩
  · refine ⟨B1, env, fp, _, E, rr.ext e1, q1, fun v2 H3 B3 r2 e3 o2 q2 => ?_, hx.later e1.same⟩
    exact (s1 q2.1).elim
theorem de_2 {f : Op2} {op : Operator} {pos : Pos} (ho : OpR X (binaryOp op) (r2 X.K f)) (ha : DE X W G a ma) (hb : DE X W G b mb) : DE X W G (.BinOp a op b pos) (w2 f ma mb) :=
  PEi (pe_op ho ha hb) (two (K := X.K) (fun _ _ _ h => h) (fun _ _ _ h => h) fun _ _ _ _ h => h)

def bAdd : Op2
  | .int i, .int j, Q => Q (.v (.int (i + j)))
  | .str i, .str j, Q => i.length + j.length ≤ sizeLine ∧ Q (.v (.str (i ++ j)))
  | .list i, .list j, Q => i.length + j.length ≤ sizeLine ∧ Q (.t (.lst (i ++ j)))
  | .tuple i, .tuple j, Q => i.length + j.length ≤ sizeLine ∧ Q (.v (.tuple (i ++ j)))
  | _, _, _ => False
def bI (C : Int → Int → Prop) (g : Int → Int → Int) : Op2
  | .int i, .int j, Q => C i j ∧ Q (.v (.int (g i j)))
  | _, _, _ => False
@[simp] theorem bI_int (C : Int → Int → Prop) (g : Int → Int → Int) (i j : Int) (Q : R → Prop) : bI C g (.int i) (.int j) Q = (C i j ∧ Q (.v (.int (g i j)))) := rfl
abbrev CT : Int → Int → Prop := fun _ _ => True
theorem bI_inv {C : Int → Int → Prop} {g : Int → Int → Int} {dx dy : D} {Q : R → Prop} (h : bI C g dx dy Q) : ∃ i j, dx = .int i ∧ dy = .int j ∧ C i j ∧ Q (.v (.int (g i j))) := by
  cases dx <;> cases dy <;> first | exact h.elim | exact ⟨_, _, rfl, rfl, h⟩
theorem opIr {f : Value → Value → Sem Value} {C : Int → Int → Prop} {g : Int → Int → Int} (h : OpR X f (rI C fun i j => .int (g i j))) : OpR X f (r2 X.K (bI C g)) := by
  intro pins s σ H x y v u Q I rx ry ⟨B, fp, dx, dy, Q', l, hx, hy, hf, hq⟩
  obtain ⟨i, j, rfl, rfl, hc, hf⟩ := bI_inv hf
  exact h pins s σ H x y v u Q I rx ry ⟨i, j, hx.int, hy.int, hc, hq _ H B (.v _) (.refl l) (.int _) hf⟩
theorem opIr0 {f : Value → Value → Sem Value} {g : Int → Int → Int} (h : OpR X f (rI0 fun i j => .int (g i j))) : OpR X f (r2 X.K (bI CT g)) := by
  intro pins s σ H x y v u Q I rx ry ⟨B, fp, dx, dy, Q', l, hx, hy, hf, hq⟩
  obtain ⟨i, j, rfl, rfl, hc, hf⟩ := bI_inv hf
  exact h pins s σ H x y v u Q I rx ry ⟨i, j, hx.int, hy.int, hq _ H B (.v _) (.refl l) (.int _) hf⟩
def CMulG (i j : Int) : Prop := IntMulOk i j
theorem op_mulG : OpR X (binaryOp .Mult) (rI CMulG fun i j => .int (i * j)) := opI fun _ _ _ _ _ _ _ hc q => mul_int q hc
abbrev wSub := w2 (bI CT fun i j => i - j)
abbrev wMul := w2 (bI CMulG fun i j => i * j)
abbrev wDiv := w2 (bI CDivW fun i j => i / j)
abbrev wMod := w2 (bI (fun _ j => 0 < j) fun i j => i % j)
abbrev wPow := w2 (bI CPow fun i j => i ^ j.toNat)
abbrev wShl := w2 (bI CPow fun i j => i * 2 ^ j.toNat)
abbrev wShr := w2 (bI (fun _ j => 0 ≤ j) fun i j => i / 2 ^ j.toNat)
abbrev wAnd := w2 (bI CT fun i j => Builtin.bitAnd i j)
abbrev wOr := w2 (bI CT fun i j => Builtin.bitOr i j)
abbrev wXor := w2 (bI CT fun i j => Builtin.bitXor i j)
abbrev wAdd := w2 bAdd
theorem de_sub {pos} (ha : DE X W G a ma) (hb : DE X W G b mb) : DE X W G (.BinOp a .Sub b pos) (wSub ma mb) := de_2 (opIr0 op_sub) ha hb
theorem de_mul {pos} (ha : DE X W G a ma) (hb : DE X W G b mb) : DE X W G (.BinOp a .Mult b pos) (wMul ma mb) := de_2 (opIr op_mulG) ha hb
theorem de_div {pos} (ha : DE X W G a ma) (hb : DE X W G b mb) : DE X W G (.BinOp a .FloorDiv b pos) (wDiv ma mb) := de_2 (opIr op_fdivW) ha hb
theorem de_mod {pos} (ha : DE X W G a ma) (hb : DE X W G b mb) : DE X W G (.BinOp a .Mod b pos) (wMod ma mb) := de_2 (opIr op_mod) ha hb
theorem de_pow {pos} (ha : DE X W G a ma) (hb : DE X W G b mb) : DE X W G (.BinOp a .Pow b pos) (wPow ma mb) := de_2 (opIr op_pow) ha hb
theorem de_shl {pos} (ha : DE X W G a ma) (hb : DE X W G b mb) : DE X W G (.BinOp a .LShift b pos) (wShl ma mb) := de_2 (opIr op_shl) ha hb
theorem de_shr {pos} (ha : DE X W G a ma) (hb : DE X W G b mb) : DE X W G (.BinOp a .RShift b pos) (wShr ma mb) := de_2 (opIr op_shr) ha hb
theorem de_and {pos} (ha : DE X W G a ma) (hb : DE X W G b mb) : DE X W G (.BinOp a .BitAnd b pos) (wAnd ma mb) := de_2 (opIr0 op_and) ha hb
theorem de_or {pos} (ha : DE X W G a ma) (hb : DE X W G b mb) : DE X W G (.BinOp a .BitOr b pos) (wOr ma mb) := de_2 (opIr0 op_or) ha hb
theorem de_xor {pos} (ha : DE X W G a ma) (hb : DE X W G b mb) : DE X W G (.BinOp a .BitXor b pos) (wXor ma mb) := de_2 (opIr0 op_xor) ha hb

/-- a list, raw: whatever its slots -/
theorem op_catS : OpR X (binaryOp .Add) (fun x y H Q => ∃ l b xs zs, x = .ref l ∧ y = .ref b ∧ SqL X.K H l xs ∧ SqL X.K H b zs ∧ xs.length + zs.length ≤ sizeLine ∧ ∀ p, H p = none → Q (.ref p) (upd H p (.lst (xs ++ zs)))) := by
  intro pins s σ H x y v u Q I rx ry ⟨l, b, xs, zs, ex, ey, h1, h2, hz, q⟩
  subst ex ey
  cases rx
  cases ry
  obtain ⟨its, r, ⟨o, n, e, c, dd, ed⟩, z1⟩ := I.list h1
  obtain ⟨its2, r2, ⟨o2, n2, e2, c2, dd2, ed2⟩, z2⟩ := I.list h2
  obtain ⟨c0, d0, da, sl⟩ := o
  obtain ⟨c0', d0', da', sl'⟩ := o2
  simp only at c dd ed c2 dd2 ed2
  subst c dd ed c2 dd2 ed2
  have hl := r.length
  have hl2 := r2.length
  have ea : its.toArray ++ its2.toArray = (its ++ its2).toArray := by simp
  refine concat_meets ⟨_, e, rfl⟩ ⟨_, e2, rfl⟩ noFill_list_add seq_list_add F.slot_list_add F.entry_list_add (F.args_list_add_2 _ _)
    (list_addW l b its.toArray its2.toArray n n2 none none sl sl' (by rw [List.size_toArray, List.size_toArray]; omega)) ⟨e, e2, ?_⟩
  rw [ea]
  exact ⟨.ref _, _, I.lnew (t' := s.toks) (r.append r2) (by rw [List.length_append]; omega), rfl, q _ I.fresh⟩
theorem RV.tupRep {K : K0} {B H : Hp} {v : V} {ds : List D} (x : RV K B H v (.tuple ds)) : Rep K B v (.tuple ds) := by cases x with | rep r => exact r
theorem opAdd : OpR X (binaryOp .Add) (r2 X.K bAdd) := by
  intro pins s σ H x y v u Q I rx ry ⟨B, fp, dx, dy, Q', l, hx, hy, hf, hq⟩
  cases dx <;> cases dy <;> first
    | exact (show False from hf).elim
    | skip
  · exact op_add pins s σ H x y v u Q I rx ry ⟨_, _, hx.int, hy.int, hq _ H B (.v _) (.refl l) (.int _) hf⟩
  · exact op_add_str pins s σ H x y v u Q I rx ry ⟨_, _, hx.str, hy.str, hf.1, hq _ H B (.v _) (.refl l) (.str _) hf.2⟩
  · obtain ⟨a1, v1, e1, s1, t1⟩ := hx.list l
    obtain ⟨a2, v2, e2, s2, t2⟩ := hy.list l
    refine op_catS pins s σ H x y v u Q I rx ry ⟨_, _, _, _, e1, e2, s1, s2, by rw [t1.length, t2.length]; exact hf.1, fun p np => ?_⟩
    refine hq _ _ B (.t _) (.make l np _) ⟨[p], .lst upd_same (t1.append t2), by simp, fun a m => ?_⟩ hf.2
    simp at m; subst m
    exact ⟨np, l.none np⟩
  · obtain ⟨a1, v1, e1, s1, t1⟩ := hx.tup l
    obtain ⟨a2, v2, e2, s2, t2⟩ := hy.tup l
    have ry' := RV.tupRep hy
    have rx' := RV.tupRep hx
    refine op_catP pins s σ H x y v u Q I rx ry ⟨_, _, _, _, e1, e2, s1, s2, by rw [t1.length, t2.length]; exact hf.1, fun z => ?_, fun z z2 => ?_, fun _ _ p o np ho => ?_⟩
    · subst z; cases t1
      rw [e2] at ry'
      exact hq _ H B (.v _) (.refl l) ry' hf.2
    · subst z2; cases t2
      rw [e1] at rx'
      have hf2 := hf.2
      rw [List.append_nil] at hf2
      exact hq _ H B (.v _) (.refl l) rx' hf2
    · exact hq _ _ (upd B p _) (.v _) (.put l np _) (newT_rep l np ho (t1.append t2)) hf.2
end
end DL

set_option Elab.async false
set_option linter.all false
set_option maxRecDepth 100000
set_option maxHeartbeats 1000000
/-! DL4: comparisons and tests over data. -/
namespace DL
open PySem L2 PyProof.Rows

/-! ### keys of dicts -/
def keyD : D → Option Key
  | .int i => some (.inl i)
  | .str x => some (.inr x)
  | _ => none
theorem keyD_kD (k : Key) : keyD (kD k) = some k := by cases k <;> rfl
theorem kD_of {d : D} {k : Key} (h : keyD d = some k) : d = kD k := by
  cases d <;> simp [keyD] at h <;> subst h <;> rfl
def lookK (kvs : List (D × D)) (k : Key) : Option D := (kvs.find? fun p => decide (keyD p.1 = some k)).map (·.2)
theorem lookK_cons (p : D × D) (r : List (D × D)) (k : Key) : lookK (p :: r) k = if keyD p.1 = some k then some p.2 else lookK r k := by
  unfold lookK
  rw [List.find?_cons]
  by_cases h : keyD p.1 = some k
  · rw [if_pos h, decide_eq_true h]; rfl
  · rw [if_neg h, decide_eq_false h]
@[simp] theorem lookK_nil (k : Key) : lookK [] k = none := rfl
theorem RepKV.look {K : K0} {B : Hp} {k : Key} : ∀ {kvs : List (Key × V)} {ds : List (D × D)}, RepKV K B kvs ds →
    (valV kvs k = none ∧ lookK ds k = none) ∨ ∃ v d, valV kvs k = some v ∧ lookK ds k = some d ∧ Rep K B v d
  | _, _, .nil => .inl ⟨rfl, rfl⟩
  | _, _, .cons (k := j) r t => by
    rw [lookK_cons, keyD_kD]
    by_cases h : j = k
    · subst h
      rw [if_pos rfl, valV_pos rfl]
      exact .inr ⟨_, _, rfl, rfl, r⟩
    · rw [if_neg (fun q => h (Option.some.inj q)), valV_neg h]
      exact RepKV.look t
theorem RepKV.has {K : K0} {B : Hp} {k : Key} {kvs : List (Key × V)} {ds : List (D × D)} (r : RepKV K B kvs ds) : (valV kvs k).isSome = (lookK ds k).isSome := by
  rcases r.look (k := k) with ⟨a, b⟩ | ⟨v, d, a, b, _⟩
  · rw [a, b]; rfl
  · rw [a, b]; rfl
theorem kV_rep {K : K0} {B : Hp} {k : Key} {v : V} (r : Rep K B v (kD k)) : v = kV k := by
  cases k <;> cases r <;> rfl
theorem Rep.dict_inv {K : K0} {B : Hp} {v : V} {ds : List (D × D)} (r : Rep K B v (.dict ds)) : ∃ a kvs, v = .ref a ∧ Rd B a (.dK kvs) ∧ RepKV K B kvs ds := by
  cases r with | dic s r => exact ⟨_, _, rfl, s, r⟩
theorem Rep.list_inv {K : K0} {B : Hp} {v : V} {ds : List D} (r : Rep K B v (.list ds)) : ∃ a vs, v = .ref a ∧ SqL K B a vs ∧ RepAll K B vs ds := by
  cases r with | lst s r => exact ⟨_, _, rfl, s, r⟩
theorem Rep.tup_inv {K : K0} {B : Hp} {v : V} {ds : List D} (r : Rep K B v (.tuple ds)) : ∃ a vs, v = .ref a ∧ SqT K B a vs ∧ RepAll K B vs ds := by
  cases r with | tup s r p => exact ⟨_, _, rfl, s, r⟩
theorem Rep.tup_p {K : K0} {B : Hp} {a : Addr} {ds : List D} (r : Rep K B (.ref a) (.tuple ds)) : TupP B a ds := by
  cases r with | tup s r p => exact p
theorem Rep.int_inv {K : K0} {B : Hp} {v : V} {i : Int} (r : Rep K B v (.int i)) : v = .int i := by cases r; rfl
theorem Rep.str_inv {K : K0} {B : Hp} {v : V} {i : Str} (r : Rep K B v (.str i)) : v = .str i := by cases r; rfl
theorem Rep.bool_inv {K : K0} {B : Hp} {v : V} {i : Bool} (r : Rep K B v (.bool i)) : v = .bl i := by cases r; rfl
theorem Rep.none_inv {K : K0} {B : Hp} {v : V} (r : Rep K B v .none) : v = .non := by cases r; rfl

mutual
theorem Rep.dp {K : K0} {H : Hp} : ∀ {v : V} {d : D}, d.canLay0 = true → Rep K H v d → Dp K H v d
  | _, _, _, .non => .non
  | _, _, _, .bl b => .bl b
  | _, _, _, .int i => .int i
  | _, _, _, .str x => .str x
  | _, _, h, .lst s r => .lst s (RepAll.dp (by simpa [PyData.canLay0] using h) r)
  | _, _, h, .tup s r _ => .tup s (RepAll.dp (by simpa [PyData.canLay0] using h) r)
  | _, _, h, .dic s r => by simp [PyData.canLay0] at h
theorem RepAll.dp {K : K0} {H : Hp} : ∀ {vs : List V} {ds : List D}, PyData.canLayAll0 ds = true → RepAll K H vs ds → DpAll K H vs ds
  | _, _, _, .nil => .nil
  | _, _, h, .cons r t => by
    simp only [PyData.canLayAll0, Bool.and_eq_true] at h
    exact .cons (Rep.dp h.1 r) (RepAll.dp h.2 t)
end

/-! ### comparisons on data -/
abbrev Op2B := D → D → (Bool → Prop) → Prop
/-- which pairs == is asked of -/
def okEq : D → D → Prop
  | .int _, .int _ => True
  | .str _, .str _ => True
  | .bool _, .bool _ => True
  | .none, .none => True
  | .none, .int _ => True
  | .int _, .none => True
  | .none, .str _ => True
  | .str _, .none => True
  | .str _, .int _ => True
  | .int _, .str _ => True
  | .none, .bool _ => True
  | .bool _, .none => True
  | x, y => SeqAt.shaped x = true ∧ SeqAt.shaped y = true
def cEq : Op2B := fun x y Q => okEq x y ∧ Q (PyData.eqv x y)
def cNe : Op2B := fun x y Q => okEq x y ∧ Q (!PyData.eqv x y)
@[simp] theorem eqv_int (i j : Int) : PyData.eqv (.int i) (.int j) = decide (i = j) := by rw [show PyData.eqv (.int i) (.int j) = (i == j) from by simp only [PyData.eqv], Bool.beq_eq_decide_eq]
@[simp] theorem eqv_str (i j : Str) : PyData.eqv (.str i) (.str j) = decide (i = j) := by rw [show PyData.eqv (.str i) (.str j) = (i == j) from by simp only [PyData.eqv], Bool.beq_eq_decide_eq]
@[simp] theorem eqv_bool (i j : Bool) : PyData.eqv (.bool i) (.bool j) = decide (i = j) := by rw [show PyData.eqv (.bool i) (.bool j) = (i == j) from by simp only [PyData.eqv], Bool.beq_eq_decide_eq]
@[simp] theorem eqv_none : PyData.eqv .none .none = true := by simp [PyData.eqv]
@[simp] theorem okEq_int (i j : Int) : okEq (.int i) (.int j) = True := rfl
@[simp] theorem okEq_str (i j : Str) : okEq (.str i) (.str j) = True := rfl
@[simp] theorem okEq_bool (i j : Bool) : okEq (.bool i) (.bool j) = True := rfl

def rc2 (K : K0) (f : Op2B) : R2 := fun x y H QV => ∃ B dx dy Q, Le B H ∧ Rep K H x dx ∧ Rep K H y dy ∧ f dx dy Q ∧ ∀ b, Q b → QV (.bl b) H
def c2 (f : Op2B) (ta tb : WE) : WT := fun env Q E => ta env (fun x => tb env (fun y => f x.d y.d Q) E) E
/-- a test's answer as a value -/
def wtv (t : WT) : WE := fun env Q E => t env (fun b => Q (.v (.bool b))) E

section
variable {X : Cx} {W : WX} {G : Hp} {e a b c : Expr} {m ma mb mc : WE} {t t1 t2 : WT}
theorem opEqD (hu : X.A.units + 64 < cLine) : OpR X (compareOp .Eq) (rc2 X.K cEq) := by
  intro pins s σ H x y v u Q I rx ry ⟨B, dx, dy, Q', l, hx, hy, ⟨hok, hf⟩, hq⟩
  have viaD : SeqAt.shaped dx = true → SeqAt.shaped dy = true → _ := fun s1 s2 =>
    op_eqD hu pins s σ H x y v u Q I rx ry ⟨dx, dy, hx.dp (by simp [SeqAt.shaped] at s1; exact s1.1), hy.dp (by simp [SeqAt.shaped] at s2; exact s2.1), s1, s2, hq _ hf⟩
  have viaS : ∀ k, scal x y = true → decide (x = y) = k → k = PyData.eqv dx dy → _ := fun k h1 h2 h3 =>
    op_eq pins s σ H x y v u Q I rx ry ⟨h1, by rw [h2, h3]; exact hq _ hf⟩
  cases dx <;> cases dy <;> first
    | exact viaD hok.1 hok.2
    | (cases hx; cases hy; refine viaS _ rfl rfl ?_; first | (simp; done) | (simp [PyData.eqv]; done))
theorem opNeD (hu : X.A.units + 64 < cLine) : OpR X (compareOp .NotEq) (rc2 X.K cNe) := by
  intro pins s σ H x y v u Q I rx ry ⟨B, dx, dy, Q', l, hx, hy, ⟨hok, hf⟩, hq⟩
  have viaD : SeqAt.shaped dx = true → SeqAt.shaped dy = true → _ := fun s1 s2 =>
    op_neD hu pins s σ H x y v u Q I rx ry ⟨dx, dy, hx.dp (by simp [SeqAt.shaped] at s1; exact s1.1), hy.dp (by simp [SeqAt.shaped] at s2; exact s2.1), s1, s2, hq _ hf⟩
  have viaS : ∀ k, scal x y = true → decide (x = y) = k → k = PyData.eqv dx dy → _ := fun k h1 h2 h3 =>
    op_ne pins s σ H x y v u Q I rx ry ⟨h1, by rw [h2, h3]; exact hq _ hf⟩
  cases dx <;> cases dy <;> first
    | exact viaD hok.1 hok.2
    | (cases hx; cases hy; refine viaS _ rfl rfl ?_; first | (simp; done) | (simp [PyData.eqv]; done))
def cI (p : Int → Int → Bool) (q : Str → Str → Bool) (r : List Int → List Int → Bool) : Op2B
  | .int i, .int j, Q => Q (p i j)
  | .str i, .str j, Q => Q (q i j)
  | .tuple xs, .tuple ys, Q => ∃ ns ms, xs = ns.map PyData.int ∧ ys = ms.map PyData.int ∧ Q (r ns ms)
  | _, _, _ => False
abbrev cLt := cI (fun i j => decide (i < j)) (fun i j => decide (i.cps.toList < j.cps.toList)) HT.lexLt
abbrev noT : List Int → List Int → Bool := fun _ _ => false
def cI0 (p : Int → Int → Bool) (q : Str → Str → Bool) : Op2B
  | .int i, .int j, Q => Q (p i j)
  | .str i, .str j, Q => Q (q i j)
  | _, _, _ => False
abbrev cLe := cI0 (fun i j => decide (i ≤ j)) (fun i j => !decide (j.cps.toList < i.cps.toList))
abbrev cGt := cI0 (fun i j => decide (j < i)) (fun i j => decide (j.cps.toList < i.cps.toList))
abbrev cGe := cI0 (fun i j => decide (j ≤ i)) (fun i j => !decide (i.cps.toList < j.cps.toList))
theorem RepAll.intsV {K : K0} {B : Hp} : ∀ {ns : List Int} {vs : List V}, RepAll K B vs (ns.map PyData.int) → vs = ns.map V.int
  | [], _, .nil => rfl
  | n :: ns, _, .cons r t => by rw [r.int_inv, RepAll.intsV t]; rfl
theorem opLtD (hu : X.A.units < cLine) : OpR X (compareOp .Lt) (rc2 X.K cLt) := by
  intro pins s σ H x y v u Q I rx ry ⟨B, dx, dy, Q', l, hx, hy, hf, hq⟩
  cases dx <;> cases dy <;> first
    | exact (show False from hf).elim
    | skip
  · exact op_lt pins s σ H x y v u Q I rx ry ⟨_, _, hx.int_inv, hy.int_inv, hq _ hf⟩
  · exact op_lt_str pins s σ H x y v u Q I rx ry ⟨_, _, hx.str_inv, hy.str_inv, hq _ hf⟩
  · obtain ⟨ns, ms, e1, e2, hf⟩ := hf
    subst e1 e2
    obtain ⟨a1, v1, q1, s1, t1⟩ := hx.tup_inv
    obtain ⟨a2, v2, q2, s2, t2⟩ := hy.tup_inv
    have z1 := t1.intsV
    have z2 := t2.intsV
    subst z1 z2
    exact op_ltT hu pins s σ H x y v u Q I rx ry ⟨_, _, ns, ms, q1, q2, s1, s2, hq _ hf⟩
theorem opLeD : OpR X (compareOp .LtE) (rc2 X.K cLe) := by
  intro pins s σ H x y v u Q I rx ry ⟨B, dx, dy, Q', l, hx, hy, hf, hq⟩
  cases dx <;> cases dy <;> first
    | exact (show False from hf).elim
    | exact op_le pins s σ H x y v u Q I rx ry ⟨_, _, hx.int_inv, hy.int_inv, hq _ hf⟩
    | exact op_le_str pins s σ H x y v u Q I rx ry ⟨_, _, hx.str_inv, hy.str_inv, hq _ hf⟩
theorem opGtD : OpR X (compareOp .Gt) (rc2 X.K cGt) := by
  intro pins s σ H x y v u Q I rx ry ⟨B, dx, dy, Q', l, hx, hy, hf, hq⟩
  cases dx <;> cases dy <;> first
    | exact (show False from hf).elim
    | exact op_gt pins s σ H x y v u Q I rx ry ⟨_, _, hx.int_inv, hy.int_inv, hq _ hf⟩
    | exact op_gt_str pins s σ H x y v u Q I rx ry ⟨_, _, hx.str_inv, hy.str_inv, hq _ hf⟩
theorem opGeD : OpR X (compareOp .GtE) (rc2 X.K cGe) := by
  intro pins s σ H x y v u Q I rx ry ⟨B, dx, dy, Q', l, hx, hy, hf, hq⟩
  cases dx <;> cases dy <;> first
    | exact (show False from hf).elim
    | exact op_ge pins s σ H x y v u Q I rx ry ⟨_, _, hx.int_inv, hy.int_inv, hq _ hf⟩
    | exact op_ge_str pins s σ H x y v u Q I rx ry ⟨_, _, hx.str_inv, hy.str_inv, hq _ hf⟩
/-- is None, is not None -/
def isN : D → Bool
  | .none => true
  | _ => false
def cIs : Op2B := fun x y Q => match y with
  | .none => Q (isN x)
  | _ => False
def cIsNot : Op2B := fun x y Q => match y with
  | .none => Q (!isN x)
  | _ => False
theorem opIsD : OpR X (compareOp .Is) (rc2 X.K cIs) := by
  intro pins s σ H x y v u Q I rx ry ⟨B, dx, dy, Q', l, hx, hy, hf, hq⟩
  cases dy <;> first
    | exact (show False from hf).elim
    | skip
  refine op_isN pins s σ H x y v u Q I rx ry ⟨hy.none_inv, ?_⟩
  have : decide (x = .non) = isN dx := by cases dx <;> cases hx <;> simp [isN]
  rw [this]
  exact hq _ hf
theorem opIsNotD : OpR X (compareOp .IsNot) (rc2 X.K cIsNot) := by
  intro pins s σ H x y v u Q I rx ry ⟨B, dx, dy, Q', l, hx, hy, hf, hq⟩
  cases dy <;> first
    | exact (show False from hf).elim
    | skip
  refine op_notN pins s σ H x y v u Q I rx ry ⟨hy.none_inv, ?_⟩
  have : (!decide (x = .non)) = !isN dx := by cases dx <;> cases hx <;> simp [isN]
  rw [this]
  exact hq _ hf
/-- in: a flat thing in a list or tuple of flat things; a text in a text; a key in a dict -/
def memD (x : D) (ys : List D) : Bool := ys.any fun y => PyData.eqv y x
def cIn (neg : Bool) : Op2B := fun x y Q => match y with
  | .list ys => flatD x = true ∧ ys.all flatD = true ∧ Q (neg != memD x ys)
  | .tuple ys => flatD x = true ∧ ys.all flatD = true ∧ Q (neg != memD x ys)
  | .dict kvs => ∃ k, keyD x = some k ∧ Q (neg != (lookK kvs k).isSome)
  | .str j => match x with
    | .str i => Q (neg != !(Builtin.Str.occurrences j i 0 j.length 1).isEmpty)
    | _ => False
  | _ => False
theorem flatV_of {K : K0} {B : Hp} {v : V} {d : D} (r : Rep K B v d) (h : flatD d = true) : flatV v = true := by
  cases r <;> first | rfl | (simp [flatD] at h)
theorem flatAll_of {K : K0} {B : Hp} : ∀ {vs : List V} {ds : List D}, RepAll K B vs ds → ds.all flatD = true → vs.all flatV = true
  | _, _, .nil, _ => rfl
  | _, _, .cons r t, h => by
    rw [List.all_cons, Bool.and_eq_true] at h ⊢
    exact ⟨flatV_of r h.1, flatAll_of t h.2⟩
theorem eqV_of {K : K0} {B : Hp} {v w : V} {d e : D} (r : Rep K B v d) (q : Rep K B w e) (h : flatD d = true) (g : flatD e = true) : eqV v w = PyData.eqv d e := by
  cases r <;> cases q <;> first | (simp [eqV, PyData.eqv]; done) | (simp [flatD] at h; done) | (simp [flatD] at g; done)
theorem inV_of {K : K0} {B : Hp} {w : V} {e : D} (q : Rep K B w e) (g : flatD e = true) : ∀ {vs : List V} {ds : List D}, RepAll K B vs ds → ds.all flatD = true → inV w vs = memD e ds
  | _, _, .nil, _ => rfl
  | _, _, .cons r t, h => by
    rw [List.all_cons, Bool.and_eq_true] at h
    unfold inV memD
    rw [List.any_cons, List.any_cons, eqV_of r q h.1 g]
    exact congrArg _ (inV_of q g t h.2)
theorem opInD (hu : X.A.units + 1 < cLine) : OpR X (compareOp .In) (rc2 X.K (cIn false)) := by
  intro pins s σ H x y v u Q I rx ry ⟨B, dx, dy, Q', l, hx, hy, hf, hq⟩
  cases dy with
  | list ys =>
    obtain ⟨f1, f2, hf⟩ := hf
    obtain ⟨a1, v1, q1, s1, t1⟩ := hy.list_inv
    refine op_in_seq pins s σ H x y v u Q I rx ry ⟨a1, v1, q1, .inl s1, flatV_of hx f1, flatAll_of t1 f2, ?_⟩
    rw [if_neg (by decide), inV_of hx f1 t1 f2]
    simpa using hq _ hf
  | tuple ys =>
    obtain ⟨f1, f2, hf⟩ := hf
    obtain ⟨a1, v1, q1, s1, t1⟩ := hy.tup_inv
    refine op_in_seq pins s σ H x y v u Q I rx ry ⟨a1, v1, q1, .inr s1, flatV_of hx f1, flatAll_of t1 f2, ?_⟩
    rw [if_neg (by decide), inV_of hx f1 t1 f2]
    simpa using hq _ hf
  | dict kvs =>
    obtain ⟨k, hk, hf⟩ := hf
    obtain ⟨a1, v1, q1, s1, t1⟩ := hy.dict_inv
    subst q1
    cases ry
    have e1 := kD_of hk
    subst e1
    have e2 := kV_rep hx
    subst e2
    refine d_in hu I (.inl ⟨v1, k, s1, rfl, rfl⟩) rx fun s' I' => ?_
    rw [t1.has]
    exact ⟨.bl _, H, I', rfl, by simpa using hq _ hf⟩
  | str j =>
    cases dx <;> first | exact (show False from hf).elim | skip
    refine op_in_str pins s σ H x y v u Q I rx ry ⟨_, _, hx.str_inv, hy.str_inv, ?_⟩
    simpa using hq _ hf
  | _ => exact (show False from hf).elim
theorem opNotInD (hu : X.A.units + 1 < cLine) : OpR X (compareOp .NotIn) (rc2 X.K (cIn true)) := by
  intro pins s σ H x y v u Q I rx ry ⟨B, dx, dy, Q', l, hx, hy, hf, hq⟩
  cases dy with
  | list ys =>
    obtain ⟨f1, f2, hf⟩ := hf
    obtain ⟨a1, v1, q1, s1, t1⟩ := hy.list_inv
    refine op_notIn_seq pins s σ H x y v u Q I rx ry ⟨a1, v1, q1, .inl s1, flatV_of hx f1, flatAll_of t1 f2, ?_⟩
    rw [if_pos rfl, inV_of hx f1 t1 f2]
    simpa using hq _ hf
  | tuple ys =>
    obtain ⟨f1, f2, hf⟩ := hf
    obtain ⟨a1, v1, q1, s1, t1⟩ := hy.tup_inv
    refine op_notIn_seq pins s σ H x y v u Q I rx ry ⟨a1, v1, q1, .inr s1, flatV_of hx f1, flatAll_of t1 f2, ?_⟩
    rw [if_pos rfl, inV_of hx f1 t1 f2]
    simpa using hq _ hf
  | dict kvs =>
    obtain ⟨k, hk, hf⟩ := hf
    obtain ⟨a1, v1, q1, s1, t1⟩ := hy.dict_inv
    subst q1
    cases ry
    have e1 := kD_of hk
    subst e1
    have e2 := kV_rep hx
    subst e2
    refine d_notIn hu I (.inl ⟨v1, k, s1, rfl, rfl⟩) rx fun s' I' => ?_
    rw [t1.has]
    exact ⟨.bl _, H, I', rfl, by simpa using hq _ hf⟩
  | str j =>
    cases dx <;> first | exact (show False from hf).elim | skip
    refine op_notIn_str pins s σ H x y v u Q I rx ry ⟨_, _, hx.str_inv, hy.str_inv, ?_⟩
    simpa using hq _ hf
  | _ => exact (show False from hf).elim

/-! ### the judgements -/
theorem twoB {ta tb : TE} {f : Op2B} {r : R2} (ha : ∀ σ H QV, tD X W G ma σ H QV → ta σ H QV) (hb : ∀ σ H QV, tD X W G mb σ H QV → tb σ H QV)
    (hr : ∀ x y H QV, rc2 X.K f x y H QV → r x y H QV) {σ : L2.St} {H : Hp} {QV : VK} {QB : Bool → Hp → Prop} (h : tDT X W G (c2 f ma mb) σ H QB) (hQ : ∀ b H', QB b H' → QV (.bl b) H') : tOp r ta tb σ H QV := by
  obtain ⟨B, env, fp, Q, E, rr, hm, hq, hx⟩ := h
  refine ha σ H _ ⟨B, env, fp, _, E, rr, hm, fun v1 H1 B1 r1 e1 o1 q1 => ?_, hx⟩
  refine hb σ H1 _ ⟨B1, env, fp, _, E, rr.ext e1, q1, fun v2 H3 B3 r2 e3 o2 q2 => ?_, hx.later e1.same⟩
  exact hr _ _ _ _ ⟨B3, _, _, Q, e3.bh, (o1.now e1).mono e3.same, o2.now e3, q2, fun b qb => hQ _ _ (hq b H3 B3 (e1.trans e3) qb)⟩
theorem dt_cmp {f : Op2B} {op : CmpOp} {pos : Pos} (ho : OpR X (compareOp op) (rc2 X.K f)) (ha : DE X W G a ma) (hb : DE X W G b mb) (hm : behindInMarks op b = false) : DT X W G (.Compare a [op] [b] pos) (c2 f ma mb) :=
  PTi (pt_cmpR ho ha hb hm) fun σ H QB h => twoB (f := f) (r := rc2 X.K f) (ta := tD X W G ma) (tb := tD X W G mb) (fun _ _ _ h => h) (fun _ _ _ h => h) (fun _ _ _ _ h => h) h fun b H' q => ⟨b, rfl, q⟩
theorem tD_wtv {σ : L2.St} {H : Hp} {QV : VK} (h : tD X W G (wtv t) σ H QV) : tDT X W G t σ H (fun b H' => QV (.bl b) H') := by
  obtain ⟨B, env, fp, Q, E, rr, hm, hq, hx⟩ := h
  exact ⟨B, env, fp, _, E, rr, hm, fun b H' B' e q => hq _ H' B' (.v (.bool b)) e (.bl b) q, hx⟩
theorem de_cmp {f : Op2B} {op : CmpOp} {pos : Pos} (ho : OpR X (compareOp op) (rc2 X.K f)) (ha : DE X W G a ma) (hb : DE X W G b mb) (hm : behindInMarks op b = false) : DE X W G (.Compare a [op] [b] pos) (wtv (c2 f ma mb)) :=
  PEi (pe_cmpR ho ha hb hm) fun σ H QV h => twoB (f := f) (r := rc2 X.K f) (ta := tD X W G ma) (tb := tD X W G mb) (fun _ _ _ h => h) (fun _ _ _ h => h) (fun _ _ _ _ h => h) (tD_wtv h) fun b H' q => q

/-- a chain of two -/
def wChain (f g : Op2B) (ta tb tc : WE) : WT := fun env Q E => ta env (fun x => tb env (fun y => f x.d y.d fun k => if k = true then tc env (fun z => g y.d z.d Q) E else Q false) E) E
theorem chain_ok {f g : Op2B} {σ : L2.St} {H : Hp} {QV : VK} {QB : Bool → Hp → Prop} (h : tDT X W G (wChain f g ma mb mc) σ H QB) (hQ : ∀ b H', QB b H' → QV (.bl b) H') :
    tChain (rc2 X.K f) (rc2 X.K g) (tD X W G ma) (tD X W G mb) (tD X W G mc) σ H QV := by
  obtain ⟨B, env, fp, Q, E, rr, hm, hq, hx⟩ := h
  refine ⟨B, env, fp, _, E, rr, hm, fun v1 H1 B1 r1 e1 o1 q1 => ?_, hx⟩
  refine ⟨B1, env, fp, _, E, rr.ext e1, q1, fun v2 H2 B2 r2 e2 o2 q2 => ?_, hx.later e1.same⟩
  refine ⟨B2, _, _, _, e2.bh, (o1.now e1).mono e2.same, o2.now e2, q2, fun k hk => ⟨k, rfl, ?_⟩⟩
  cases k with
  | false => rw [if_neg (by simp)] at hk ⊢; exact hQ _ _ (hq false H2 B2 (e1.trans e2) hk)
  | true =>
    rw [if_pos rfl] at hk ⊢
    refine ⟨B2, env, fp, _, E, (rr.ext e1).ext e2, hk, fun v3 H3 B3 r3 e3 o3 q3 => ?_, hx.later (e1.same.trans e2.same)⟩
    exact ⟨B3, _, _, Q, e3.bh, (o2.now e2).mono e3.same, o3.now e3, q3, fun b qb => hQ _ _ (hq b H3 B3 ((e1.trans e2).trans e3) qb)⟩
theorem dt_chain {f g : Op2B} {op op' : CmpOp} {pos : Pos} (ho : OpR X (compareOp op) (rc2 X.K f)) (ho' : OpR X (compareOp op') (rc2 X.K g)) (ha : DE X W G a ma) (hb : DE X W G b mb) (hc : DE X W G c mc)
    (hm : lastMarks [op, op'] [b, c] = false) : DT X W G (.Compare a [op, op'] [b, c] pos) (wChain f g ma mb mc) :=
  PTi (pt_chain ho ho' ha hb hc hm) fun σ H QB h => chain_ok h fun b H' q => ⟨b, rfl, q⟩
theorem de_chain {f g : Op2B} {op op' : CmpOp} {pos : Pos} (ho : OpR X (compareOp op) (rc2 X.K f)) (ho' : OpR X (compareOp op') (rc2 X.K g)) (ha : DE X W G a ma) (hb : DE X W G b mb) (hc : DE X W G c mc)
    (hm : lastMarks [op, op'] [b, c] = false) : DE X W G (.Compare a [op, op'] [b, c] pos) (wtv (wChain f g ma mb mc)) :=
  PEi (pe_chain ho ho' ha hb hc hm) fun σ H QV h => chain_ok (tD_wtv h) fun b H' q => q

/-! ### and, or, not -/
def DW (X : Cx) (W : WX) (G : Hp) (e : Expr) (m : WT) : Prop := PW X e (tDT X W G m)
def wtAnd (p q : WT) : WT := fun env Q E => p env (fun k => if k = true then q env Q E else Q false) E
def wtOr (p q : WT) : WT := fun env Q E => p env (fun k => if k = true then Q true else q env Q E) E
def wtNot (p : WT) : WT := fun env Q E => p env (fun k => Q (!k)) E
theorem and_ok {σ : L2.St} {H : Hp} {QB : Bool → Hp → Prop} (h : tDT X W G (wtAnd t1 t2) σ H QB) : tAnd (tDT X W G t1) (tDT X W G t2) σ H QB := by
  obtain ⟨B, env, fp, Q, E, rr, hm, hq, hx⟩ := h
  refine ⟨B, env, fp, _, E, rr, hm, fun k H1 B1 e1 hk => ?_, hx⟩
  cases k with
  | false => rw [if_neg (by simp)] at hk ⊢; exact hq false H1 B1 e1 hk
  | true => rw [if_pos rfl] at hk ⊢; exact ⟨B1, env, fp, Q, E, rr.ext e1, hk, fun b H2 B2 e2 q2 => hq b H2 B2 (e1.trans e2) q2, hx.later e1.same⟩
theorem or_ok {σ : L2.St} {H : Hp} {QB : Bool → Hp → Prop} (h : tDT X W G (wtOr t1 t2) σ H QB) : tOr (tDT X W G t1) (tDT X W G t2) σ H QB := by
  obtain ⟨B, env, fp, Q, E, rr, hm, hq, hx⟩ := h
  refine ⟨B, env, fp, _, E, rr, hm, fun k H1 B1 e1 hk => ?_, hx⟩
  cases k with
  | true => rw [if_pos rfl] at hk ⊢; exact hq true H1 B1 e1 hk
  | false => rw [if_neg (by simp)] at hk ⊢; exact ⟨B1, env, fp, Q, E, rr.ext e1, hk, fun b H2 B2 e2 q2 => hq b H2 B2 (e1.trans e2) q2, hx.later e1.same⟩
variable {rest : List Expr} {pos : Pos}
theorem dw_and1 (ha : DT X W G a t) : DW X W G (.BoolOp .And [a] pos) t := pw_and1 ha
theorem dw_or1 (ha : DT X W G a t) : DW X W G (.BoolOp .Or [a] pos) t := pw_or1 ha
theorem dw_and (ha : DT X W G a t1) (hb : DW X W G (.BoolOp .And (b :: rest) pos) t2) : DW X W G (.BoolOp .And (a :: b :: rest) pos) (wtAnd t1 t2) :=
  PWi (pw_and ha hb) fun _ _ _ h => and_ok h
theorem dw_or (ha : DT X W G a t1) (hb : DW X W G (.BoolOp .Or (b :: rest) pos) t2) : DW X W G (.BoolOp .Or (a :: b :: rest) pos) (wtOr t1 t2) :=
  PWi (pw_or ha hb) fun _ _ _ h => or_ok h
theorem dt_w (h : DW X W G e t) : DT X W G e t := PW.pt h
theorem dt_not (ha : DT X W G a t) : DT X W G (.UnaryOp .Not a pos) (wtNot t) :=
  PTi (pt_not ha) fun σ H QB ⟨B, env, fp, Q, E, rr, hm, hq, hx⟩ => ⟨B, env, fp, _, E, rr, hm, fun k H1 B1 e1 hk => hq _ H1 B1 e1 hk, hx⟩
/-- .. as values, of truths -/
def wAndV (p q : WE) : WE := fun env Q E => p env (fun x => ∃ k, x.d = .bool k ∧ if k = true then q env Q E else Q (.v (.bool false))) E
def wOrV (p q : WE) : WE := fun env Q E => p env (fun x => ∃ k, x.d = .bool k ∧ if k = true then Q (.v (.bool true)) else q env Q E) E
def wNotV (p : WE) : WE := fun env Q E => p env (fun x => ∃ k, x.d = .bool k ∧ Q (.v (.bool (!k)))) E
theorem de_one {op} (h : DE X W G a m) : DE X W G (.BoolOp op [a] pos) m := pe_one h
theorem de_andV (ha : DE X W G a ma) (hb : DE X W G (.BoolOp .And (b :: rest) pos) mb) : DE X W G (.BoolOp .And (a :: b :: rest) pos) (wAndV ma mb) := by
  refine PEi (pe_and ha hb) fun σ H QV ⟨B, env, fp, Q, E, rr, hm, hq, hx⟩ => ?_
  refine ⟨B, env, fp, _, E, rr, hm, fun v H1 B1 r e1 o ⟨k, hk, hf⟩ => ?_, hx⟩
  have hv := o.now e1
  rw [hk] at hv
  refine ⟨k, hv.bool_inv, ?_⟩
  cases k with
  | false => rw [if_neg (by simp)] at hf ⊢; exact hq _ H1 B1 (.v (.bool false)) e1 (Rep.bl false) hf
  | true => rw [if_pos rfl] at hf ⊢; exact ⟨B1, env, fp, Q, E, rr.ext e1, hf, hq.later e1, hx.later e1.same⟩
theorem de_orV (ha : DE X W G a ma) (hb : DE X W G (.BoolOp .Or (b :: rest) pos) mb) : DE X W G (.BoolOp .Or (a :: b :: rest) pos) (wOrV ma mb) := by
  refine PEi (pe_or ha hb) fun σ H QV ⟨B, env, fp, Q, E, rr, hm, hq, hx⟩ => ?_
  refine ⟨B, env, fp, _, E, rr, hm, fun v H1 B1 r e1 o ⟨k, hk, hf⟩ => ?_, hx⟩
  have hv := o.now e1
  rw [hk] at hv
  refine ⟨k, hv.bool_inv, ?_⟩
  cases k with
  | true => rw [if_pos rfl] at hf ⊢; exact hq _ H1 B1 (.v (.bool true)) e1 (Rep.bl true) hf
  | false => rw [if_neg (by simp)] at hf ⊢; exact ⟨B1, env, fp, Q, E, rr.ext e1, hf, hq.later e1, hx.later e1.same⟩
theorem de_notV (ha : DE X W G a ma) : DE X W G (.UnaryOp .Not a pos) (wNotV ma) := by
  refine PEi (pe_not ha) fun σ H QV ⟨B, env, fp, Q, E, rr, hm, hq, hx⟩ => ?_
  refine ⟨B, env, fp, _, E, rr, hm, fun v H1 B1 r e1 o ⟨k, hk, hf⟩ => ?_, hx⟩
  have hv := o.now e1
  rw [hk] at hv
  exact ⟨k, hv.bool_inv, hq _ H1 B1 (.v (.bool (!k))) e1 (Rep.bl _) hf⟩
/-- a if t else b -/
def wIfE (t : WT) (p q : WE) : WE := fun env Q E => t env (fun k => if k = true then p env Q E else q env Q E) E
theorem de_ifE (hc : DT X W G c t) (ha : DE X W G a ma) (hb : DE X W G b mb) : DE X W G (.IfExp c a b pos) (wIfE t ma mb) := by
  refine PEi (pe_ifExp hc ha hb) fun σ H QV ⟨B, env, fp, Q, E, rr, hm, hq, hx⟩ => ?_
  refine ⟨B, env, fp, _, E, rr, hm, fun k H1 B1 e1 hf => ?_, hx⟩
  cases k with
  | true => rw [if_pos rfl] at hf ⊢; exact ⟨B1, env, fp, Q, E, rr.ext e1, hf, hq.later e1, hx.later e1.same⟩
  | false => rw [if_neg (by simp)] at hf ⊢; exact ⟨B1, env, fp, Q, E, rr.ext e1, hf, hq.later e1, hx.later e1.same⟩
/-- a value's truth -/
def tru : D → (Bool → Prop) → Prop
  | .none, Q => Q false
  | .bool b, Q => Q b
  | .int i, Q => Q (i != 0)
  | .str x, Q => x.length ≤ sizeLine ∧ Q ((x.length : Int) != 0)
  | .list ds, Q => Q (!ds.isEmpty)
  | .tuple ds, Q => Q (!ds.isEmpty)
  | .dict _, _ => False
def wTru (m : WE) : WT := fun env Q E => m env (fun x => tru x.d Q) E
theorem isEmpty_rep {K : K0} {B : Hp} {vs : List V} {ds : List D} (r : RepAll K B vs ds) : vs.isEmpty = ds.isEmpty := by cases r <;> rfl
theorem dt_tru (ha : DE X W G a m) (he : ∀ whole, isTrue a X.env whole = (do let v ← whole; standAt a.pos; holding [v] (truthy v))) : DT X W G a (wTru m) := by
  refine PTi (pt_truth ha he) fun σ H QV ⟨B, env, fp, Q, E, rr, hm, hq, hx⟩ => ?_
  refine ⟨B, env, fp, _, E, rr, hm, fun v H1 B1 r e1 o hf => ?_, hx⟩
  have hv := o.now e1
  have hf : tru r.d Q := hf
  generalize r.d = d at hv hf
  cases d with
  | none => rw [hv.none_inv]; exact ⟨_, rfl, hq _ H1 B1 e1 hf⟩
  | bool b => rw [hv.bool_inv]; exact ⟨_, rfl, hq _ H1 B1 e1 hf⟩
  | int i => rw [hv.int_inv]; exact ⟨_, rfl, hq _ H1 B1 e1 hf⟩
  | str x => rw [hv.str_inv]; exact ⟨_, ⟨hf.1, rfl⟩, hq _ H1 B1 e1 hf.2⟩
  | list ds =>
    obtain ⟨a1, v1, q1, s1, t1⟩ := hv.list_inv
    subst q1
    exact ⟨_, .inl ⟨v1, s1, by rw [isEmpty_rep t1]⟩, hq _ H1 B1 e1 hf⟩
  | tuple ds =>
    obtain ⟨a1, v1, q1, s1, t1⟩ := hv.tup_inv
    subst q1
    exact ⟨_, .inr (.inl ⟨v1, s1, by rw [isEmpty_rep t1]⟩), hq _ H1 B1 e1 hf⟩
  | dict _ => exact (show False from hf).elim
end
end DL

set_option Elab.async false
set_option linter.all false
set_option maxRecDepth 100000
set_option maxHeartbeats 1000000
/-! DL5: items, slices, displays, calls of built-ins and of defs over data. -/
namespace DL
open PySem L2 PyProof.Rows

/-! ### items -/
theorem atI_map {α β : Type} (f : α → β) (xs : List α) (i : Int) : atI (xs.map f) i = (atI xs i).map f := by
  unfold atI
  rw [List.length_map]
  cases ixN xs.length i with
  | none => rfl
  | some j => simp
theorem RepAll.atI {K : K0} {B : Hp} {vs : List V} {ds : List D} (r : RepAll K B vs ds) {i : Int} {d : D} (h : L2.atI ds i = some d) : ∃ v, L2.atI vs i = some v ∧ Rep K B v d := by
  unfold L2.atI at h ⊢
  rw [r.length]
  cases q : ixN ds.length i with
  | none => rw [q] at h; simp at h
  | some j =>
    rw [q] at h
    exact r.get h
theorem OwnAll.atI {K : K0} {B H : Hp} {vs : List V} {os : List O} {f : List Addr} (r : OwnAll K B H vs os f) {i : Int} {o : O} (h : L2.atI os i = some o) : ∃ v g, L2.atI vs i = some v ∧ Own K B H v o g ∧ g.Sublist f := by
  unfold L2.atI at h ⊢
  rw [r.length]
  cases q : ixN os.length i with
  | none => rw [q] at h; simp at h
  | some j =>
    rw [q] at h
    exact r.get h
def ixD : D → D → (D → Prop) → Prop
  | .list ds, .int i, Q => ∃ d, atI ds i = some d ∧ Q d
  | .tuple ds, .int i, Q => ∃ d, atI ds i = some d ∧ Q d
  | .str z, .int i, Q => z.length ≤ sizeLine ∧ ∃ c, atI z.cps.toList i = some c ∧ Q (.str ⟨#[c]⟩)
  | .dict kvs, k, Q => ∃ j d, keyD k = some j ∧ lookK kvs j = some d ∧ Q d
  | _, _, _ => False
/-- an item of an own list of own things -/
def oR : O → R
  | .fro d => .v d
  | o => .b o
def ixR : R → D → (R → Prop) → Prop
  | .b (.lsts os), .int i, Q => ∃ o, atI os i = some o ∧ Q (oR o)
  | .b (.lsts _), _, _ => False
  | x, k, Q => ixD x.d k fun d => Q (.v d)
@[simp] theorem ixR_v (d k : D) (Q : R → Prop) : ixR (.v d) k Q = ixD d k fun d => Q (.v d) := by cases k <;> rfl
@[simp] theorem ixR_t (o : O) (k : D) (Q : R → Prop) : ixR (.t o) k Q = ixD o.frz k fun d => Q (.v d) := by cases k <;> rfl
@[simp] theorem ixR_bl (o : List D) (k : D) (Q : R → Prop) : ixR (.b (.lst o)) k Q = ixD (.list o) k fun d => Q (.v d) := by
  show ixD (R.b (.lst o)).d k _ = _
  rw [R.d_b, O.frz_lst]
@[simp] theorem ixR_bd (o : List (D × D)) (k : D) (Q : R → Prop) : ixR (.b (.dic o)) k Q = ixD (.dict o) k fun d => Q (.v d) := by
  show ixD (R.b (.dic o)).d k _ = _
  rw [R.d_b, O.frz_dic]
@[simp] theorem ixR_bls (os : List O) (i : Int) (Q : R → Prop) : ixR (.b (.lsts os)) (.int i) Q = ∃ o, atI os i = some o ∧ Q (oR o) := rfl
def wIx (ta tb : WE) : WE := fun env Q E => ta env (fun x => tb env (fun y => ixR x y.d Q) E) E

section
variable {X : Cx} {W : WX} {G : Hp} {e a b c : Expr} {m ma mb mc : WE} {pos : Pos}
theorem ix_dict (hu : X.A.units + 1 < cLine) : IxR X (fun x y H Q => ∃ a v, x = .ref a ∧ DGet H a y (some v) ∧ Q v H) := by
  intro value slice pins s σ H x y v u Q I rx ry ⟨a, z, ex, g, q⟩ hs
  subst ex
  cases rx
  have hT := dict_typeIs I g
  have h2 : wpAny (model X.prog X.w) X.A (getItem (.ref a) u) (EP X pins σ Q) X.xe s := d_getItem hu I g ry fun w' s3 I3 rw' => ⟨z, H, I3, rw', q⟩
  unfold subscriptTail
  refine wpAny_bind ?_
  rw [getitemInPython_of_ne hT.not_modules]
  refine wpAny_bind (wpAny_specialOf hT PySem.F.slot_dict_getitem.lookup ?_)
  have fin : wpAny (model X.prog X.w) X.A (subscripted slice false (.ref a) u) (fun r s3 => wpAny (model X.prog X.w) X.A (letTemporaryGo value (.ref a) r >>= fun _ => pure r) (EP X pins σ Q) X.xe s3) X.xe s := by
    rw [hs]
    exact wpAny_operating (wpAny_mono h2 (fun r s3 h3 => wpAny_bind (wpAny_letTemporaryGo (wpAny_pure h3))) fun _ _ x => x)
  first
    | exact wpAny_pure (wpAny_bind fin)
    | exact wpAny_bind (wpAny_pure (wpAny_bind fin))
    | exact wpAny_bind fin
/-- by values: an item, by the four kinds of things -/
theorem ix_any (hu : X.A.units + 1 < cLine) : IxR X (fun x y H Q => (rIxL X.K x y H Q ∨ rIxT X.K x y H Q ∨ rIxS x y H Q) ∨ ∃ a v, x = .ref a ∧ DGet H a y (some v) ∧ Q v H) := ix_seq.or (ix_dict hu)
theorem ixD_ok {K : K0} {B H : Hp} {x y : V} {dx dy : D} {Q : D → Prop} {QV : VK} (l : Le B H) (hx : RV K B H x dx) (hy : Rep K H y dy) (hf : ixD dx dy Q) (hq : ∀ v d, Rep K B v d → Q d → QV v H) :
    (rIxL K x y H QV ∨ rIxT K x y H QV ∨ rIxS x y H QV) ∨ ∃ a v, x = .ref a ∧ DGet H a y (some v) ∧ QV v H := by
  cases dx with
  | list ds =>
    cases dy <;> first | exact (show False from hf).elim | skip
    obtain ⟨d, h1, h2⟩ := hf
    obtain ⟨a, vs, e, s, t⟩ := hx.list l
    obtain ⟨v, h3, h4⟩ := t.atI h1
    exact .inl (.inl ⟨a, vs, _, v, e, hy.int_inv, s, h3, hq v d h4 h2⟩)
  | tuple ds =>
    cases dy <;> first | exact (show False from hf).elim | skip
    obtain ⟨d, h1, h2⟩ := hf
    obtain ⟨a, vs, e, s, t⟩ := hx.tup l
    obtain ⟨v, h3, h4⟩ := t.atI h1
    exact .inl (.inr (.inl ⟨a, vs, _, v, e, hy.int_inv, s, h3, hq v d h4 h2⟩))
  | str z =>
    cases dy <;> first | exact (show False from hf).elim | skip
    obtain ⟨h0, c, h1, h2⟩ := hf
    exact .inl (.inr (.inr ⟨z, _, c, hx.str, hy.int_inv, h0, h1, hq _ _ (.str _) h2⟩))
  | dict kvs =>
    obtain ⟨j, d, h0, h1, h2⟩ := (show ∃ j d, keyD dy = some j ∧ lookK kvs j = some d ∧ Q d from hf)
    obtain ⟨a, vs, e, s, t⟩ := hx.dict l
    have e1 := kD_of h0
    subst e1
    have e2 := kV_rep hy
    subst e2
    rcases t.look (k := j) with ⟨z1, z2⟩ | ⟨v, d', z1, z2, z3⟩
    · rw [z2] at h1; cases h1
    · rw [z2] at h1; cases h1
      exact .inr ⟨a, v, e, .inl ⟨vs, j, s, rfl, z1.symm⟩, hq _ _ z3 h2⟩
  | _ => exact (show False from hf).elim
theorem de_ix (hu : X.A.units + 1 < cLine) (ha : DE X W G a ma) (hb : DE X W G b mb) (hs : PlainIx b) : DE X W G (.Subscript a b pos) (wIx ma mb) := by
  refine PEi (pe_ix (ix_any hu) ha hb hs) fun σ H QV ⟨B, env, fp, Q, E, rr, hm, hq, hx⟩ => ?_
  refine ⟨B, env, fp, _, E, rr, hm, fun v1 H1 B1 r1 e1 o1 q1 => ?_, hx⟩
  by_cases hs1 : ∃ os, r1 = .b (.lsts os)
  · obtain ⟨os, er⟩ := hs1
    subst er
    refine ⟨B1, env, fp, _, E, rr.ext e1, q1, fun v2 H3 B3 r2 e3 o2 q2 => ?_, hx.later e1.same⟩
    have hy := o2.now e3
    have q2 : ixR (.b (.lsts os)) r2.d Q := q2
    generalize r2.d = d2 at hy q2
    cases d2 <;> first | exact (show False from q2).elim | skip
    rw [ixR_bls] at q2
    obtain ⟨o, h1, h2⟩ := q2
    obtain ⟨f, x, hs⟩ := o1
    have x3 := x.mono (H' := H3) e3.le fun a m => by
      obtain ⟨u, hu'⟩ := x.dom a m
      rw [hu']; exact e3.same _ _ hu'
    cases x3 with
    | lsts h r =>
      obtain ⟨v, g, z1, z2, z3⟩ := r.atI h1
      refine .inl (.inl ⟨_, _, _, v, rfl, hy.int_inv, .inl (.inl h), z1, hq v H3 B3 _ (e1.trans e3) ?_ h2⟩)
      cases o with
      | fro d => cases z2 with | fro z => exact z
      | lst ds => exact ⟨g, z2, (z3.trans (List.sublist_cons_self _ _)).trans hs⟩
      | dic ds => exact ⟨g, z2, (z3.trans (List.sublist_cons_self _ _)).trans hs⟩
      | lsts ds => exact ⟨g, z2, (z3.trans (List.sublist_cons_self _ _)).trans hs⟩
      | raw _ => cases z2
  · have s1 : r1.sh := by
      cases r1 with
      | v d => exact True.intro
      | t o => exact True.intro
      | b o => cases o <;> first | exact True.intro | exact (hs1 ⟨_, rfl⟩).elim
    have ei : ∀ k Q', ixR r1 k Q' = ixD r1.d k fun d => Q' (.v d) := fun k Q' => by
      cases r1 with
      | v d => exact ixR_v d k Q'
      | t o => exact ixR_t o k Q'
      | b o => cases o <;> cases k <;> first | rfl | exact (hs1 ⟨_, rfl⟩).elim
    obtain ⟨B2, e2, l2, rv1⟩ := o1.view e1 s1
    refine ⟨B2, env, fp, _, E, rr.ext e2, q1, fun v2 H3 B3 r2 e3 o2 q2 => ?_, hx.later e1.same⟩
    have q2 : ixR r1 r2.d Q := q2
    rw [ei] at q2
    exact ixD_ok e3.bh (rv1.ext e3) (o2.now e3) q2 fun v d r q => hq v H3 B3 (.v d) (e2.trans e3) r q

/-! ### slices -/
def cut {α : Type} (xs : List α) (lo hi : Option Int) : List α := (xs.drop (HT.sIx xs.length 0 lo)).take (HT.sIx xs.length xs.length hi - HT.sIx xs.length 0 lo)
theorem RepAll.cut {K : K0} {B : Hp} {vs : List V} {ds : List D} (r : RepAll K B vs ds) (lo hi : Option Int) : RepAll K B (cutV vs lo hi) (DL.cut ds lo hi) := by
  unfold cutV DL.cut
  rw [r.length]
  exact (r.drop _).take _
theorem cut_whole {α : Type} (xs : List α) (lo hi : Option Int) (h : HT.sIx xs.length 0 lo = 0 ∧ HT.sIx xs.length xs.length hi = xs.length) : cut xs lo hi = xs := by
  unfold cut
  rw [h.1, h.2]
  simp
abbrev WO := Env → (Option Int → Prop) → (Str → Prop) → Prop
def woN : WO := fun _ Q _ => Q none
def woE (t : WE) : WO := fun env Q E => t env (fun x => ∃ i, x.d = .int i ∧ Q (some i)) E
def tDO (X : Cx) (W : WX) (G : Hp) (m : WO) : TO := fun σ H QV => ∃ B env fp Q E, RR X.K G B env fp σ H ∧ m env Q E ∧ (∀ o H' B', Ext H B H' B' → Q o → QV o H') ∧ XOk X.mg W H σ E
def DO (X : Cx) (W : WX) (G : Hp) (e : Option Expr) (m : WO) : Prop := PO X e (tDO X W G m)
theorem POi {eo : Option Expr} {t t' : TO} (h : PO X eo t) (f : ∀ σ H Q, t' σ H Q → t σ H Q) : PO X eo t' := ⟨fun pins s σ H Q I w => h.run pins s σ H Q I (f σ H Q w)⟩
theorem do_none : DO X W G none woN := POi po_none fun σ H QV ⟨B, env, fp, Q, E, rr, hm, hq, hx⟩ => hq _ H B (.refl rr.bh) hm
theorem do_some (h : DE X W G e m) : DO X W G (some e) (woE m) := POi (po_some h) fun σ H QV ⟨B, env, fp, Q, E, rr, hm, hq, hx⟩ =>
  ⟨B, env, fp, _, E, rr, hm, fun v1 H1 B1 r1 e1 o1 ⟨i, hi, hf⟩ => ⟨i, by have := o1.now e1; rw [hi] at this; exact this.int_inv, hq _ H1 B1 e1 hf⟩, hx⟩
def slD : D → Option Int → Option Int → (R → Prop) → Prop
  | .list ds, lo, hi, Q => Q (.t (.lst (cut ds lo hi)))
  | .tuple ds, lo, hi, Q => Q (.v (.tuple (cut ds lo hi)))
  | .str z, lo, hi, Q => z.length ≤ sizeLine ∧ Q (.v (.str (cutS z lo hi)))
  | _, _, _, _ => False
def wSl (t : WE) (lo hi : WO) : WE := fun env Q E => t env (fun x => lo env (fun l => hi env (fun u => x.sh ∧ slD x.d l u Q) E) E) E
theorem sl_any : SlR X (fun x lo hi H Q => rSlL X.K x lo hi H Q ∨ rSlP X.K x lo hi H Q ∨ rSlS x lo hi H Q) := sl_list.or (sl_tupP.or sl_str)
theorem t_lst {K : K0} {H B : Hp} {fp : List Addr} {p : Addr} {vs : List V} {ds : List D} (l : Le B H) (np : H p = none) (r : RepAll K B vs ds) : VOk K H fp B (upd H p (.lst vs)) (.ref p) (.t (.lst ds)) :=
  ⟨[p], .lst upd_same r, by simp, fun a m => by simp at m; subst m; exact ⟨np, l.none np⟩⟩
theorem de_slice {lo hi : Option Expr} {l h : WO} {p2 : Pos} (he : DE X W G e m) (hl : DO X W G lo l) (hh : DO X W G hi h) : DE X W G (.Subscript e (.Slice lo hi none p2) pos) (wSl m l h) := by
  refine PEi (pe_slice sl_any he hl hh) fun σ H QV ⟨B, env, fp, Q, E, rr, hm, hq, hx⟩ => ?_
  refine ⟨B, env, fp, _, E, rr, hm, fun v1 H1 B1 r1 e1 o1 q1 => ?_, hx⟩
  by_cases s1 : r1.sh
  · obtain ⟨B2, e2, l2, rv1⟩ := o1.view e1 s1
    refine ⟨B2, env, fp, _, E, rr.ext e2, q1, fun lo H3 B3 e3 q2 => ?_, hx.later e2.same⟩
    refine ⟨B3, env, fp, _, E, (rr.ext e2).ext e3, q2, fun hi H4 B4 e4 q3 => ?_, hx.later (e2.same.trans e3.same)⟩
    have x4 := (rv1.ext e3).ext e4
    obtain ⟨_, hf⟩ := q3
    have eT := (e2.trans e3).trans e4
    generalize r1.d = d at x4 hf
    cases d <;> first | exact (show False from hf).elim | skip
    · exact .inr (.inr ⟨_, x4.str, hf.1, hq _ H4 B4 (.v _) eT (.str _) hf.2⟩)
    · obtain ⟨a, vs, ev, s, t⟩ := x4.list e4.bh
      exact .inl ⟨a, vs, ev, s, fun p np => hq _ _ B4 (.t _) (eT.trans (.make e4.bh np _)) (VOk.back eT (t_lst e4.bh np (t.cut lo hi))) hf⟩
    · have xr := x4.tupRep
      obtain ⟨a, vs, ev, s, t⟩ := x4.tup e4.bh
      refine .inr (.inl ⟨a, vs, ev, s, fun hw => ?_, fun hw p o np ho => ?_⟩)
      · rw [t.length] at hw
        have hf : Q (.v (.tuple (cut _ lo hi))) := hf
        rw [cut_whole _ _ _ hw] at hf
        rw [ev] at xr
        exact hq _ H4 B4 (.v _) eT xr hf
      · exact hq _ _ (upd B4 p _) (.v _) (eT.trans (.put e4.bh np _)) (newT_rep e4.bh np ho (t.cut lo hi)) hf
  · refine ⟨B1, env, fp, _, E, rr.ext e1, q1, fun lo H3 B3 e3 q2 => ?_, hx.later e1.same⟩
    exact ⟨B3, env, fp, _, E, (rr.ext e1).ext e3, q2, fun hi H4 B4 e4 q3 => (s1 q3.1).elim, hx.later (e1.same.trans e3.same)⟩
/-- xs[::-1] -/
def wRev (t : WE) : WE := fun env Q E => t env (fun x => x.sh ∧ ∃ ds, x.d = .list ds ∧ Q (.t (.lst ds.reverse))) E
theorem de_rev {k : Nat} {p1 p2 p3 pos : Pos} (he : DE X W G e m) : DE X W G (.Subscript e (.Slice none none (some (.UnaryOp .USub (.Constant (.int 1) k p1) p2)) p3) pos) (wRev m) := by
  refine PEi (pe_revL he) fun σ H QV ⟨B, env, fp, Q, E, rr, hm, hq, hx⟩ => ?_
  refine ⟨B, env, fp, _, E, rr, hm, fun v1 H1 B1 r1 e1 o1 ⟨s1, ds, ed, hf⟩ => ?_, hx⟩
  obtain ⟨B2, e2, l2, rv1⟩ := o1.view e1 s1
  rw [ed] at rv1
  obtain ⟨a, vs, ev, s, t⟩ := rv1.list e2.bh
  exact ⟨a, vs, ev, s, fun p np => hq _ _ B2 (.t _) (e2.trans (.make e2.bh np _)) (VOk.back e2 (t_lst e2.bh np t.reverse)) hf⟩
/-- minus -/
def wNeg (t : WE) : WE := fun env Q E => t env (fun x => ∃ i, x.d = .int i ∧ Q (.v (.int (-i)))) E
theorem de_neg (he : DE X W G e m) : DE X W G (.UnaryOp .USub e pos) (wNeg m) := by
  refine PEi (pe_un un_neg he) fun σ H QV ⟨B, env, fp, Q, E, rr, hm, hq, hx⟩ => ?_
  refine ⟨B, env, fp, _, E, rr, hm, fun v1 H1 B1 r1 e1 o1 ⟨i, ed, hf⟩ => ?_, hx⟩
  have h := o1.now e1
  rw [ed] at h
  exact ⟨i, h.int_inv, hq _ H1 B1 (.v _) e1 (.int _) hf⟩

/-! ### arguments, displays -/
theorem VAll.ext {K : K0} {H B H' B' : Hp} (e : Ext H B H' B') : ∀ {vs : List V} {rs : List R}, VAll K B H vs rs → VAll K B' H' vs rs
  | _, _, .nil => .nil
  | _, _, .st s r t => .st s (r.mono e.le) (VAll.ext e t)
  | _, _, .lk x t => .lk (x.mono e.le fun a m => by
      obtain ⟨u, hu'⟩ := x.dom a m
      rw [hu']; exact e.same _ _ hu') (VAll.ext e t)
def waN : WA := fun _ Q _ => Q []
def waC (t : WE) (ta : WA) : WA := fun env Q E => t env (fun r => ta env (fun rs => Q (r :: rs)) E) E
theorem da_nil : DA X W G [] waN := PAi pa_nil fun σ H QV ⟨B, env, fp, Q, E, rr, hm, hq, hx⟩ => hq [] H B [] (.refl rr.bh) .nil hm
theorem da_cons {es : List Expr} {ms : WA} (ha : DE X W G e m) (hr : DA X W G es ms) (hs : starEach (e :: es) X.env = (false, eval e X.env) :: starEach es X.env) : DA X W G (e :: es) (waC m ms) := by
  refine PAi (pa_cons ha hr hs) fun σ H QV ⟨B, env, fp, Q, E, rr, hm, hq, hx⟩ => ?_
  refine ⟨B, env, fp, _, E, rr, hm, fun v1 H1 B1 r1 e1 o1 q1 => ?_, hx⟩
  by_cases s1 : r1.st
  · obtain ⟨B2, e2, l2, rp⟩ := o1.keep e1 s1
    refine ⟨B2, env, fp, _, E, rr.ext e2, q1, fun vs H3 B3 rs e3 o3 q3 => ?_, hx.later e2.same⟩
    exact hq _ H3 B3 (r1 :: rs) (e2.trans e3) (.st s1 (rp.mono e3.le) o3) q3
  · refine ⟨B1, env, fp, _, E, rr.ext e1, q1, fun vs H3 B3 rs e3 o3 q3 => ?_, hx.later e1.same⟩
    cases r1 with
    | v d => exact (s1 True.intro).elim
    | t o => exact (s1 True.intro).elim
    | b o =>
      obtain ⟨f, x, hs⟩ := o1
      exact hq _ H3 B3 (.b o :: rs) (e1.trans e3) (.lk (x.mono e3.le fun a m => by
        obtain ⟨u, hu'⟩ := x.dom a m
        rw [hu']; exact e3.same _ _ hu') o3) q3
/-- all may be kept -/
def allSt : List R → Prop
  | [] => True
  | r :: rs => r.st ∧ allSt rs
@[simp] theorem allSt_nil : allSt [] = True := rfl
@[simp] theorem allSt_cons (r : R) (rs : List R) : allSt (r :: rs) = (r.st ∧ allSt rs) := rfl
theorem VAll.reps {K : K0} {B H : Hp} : ∀ {vs : List V} {rs : List R}, VAll K B H vs rs → allSt rs → RepAll K B vs (rs.map R.d)
  | _, _, .nil, _ => .nil
  | _, _, .st s r t, h => .cons r (VAll.reps t h.2)
  | _, _, .lk _ _, h => h.1.elim
theorem VAll.now {K : K0} {B H : Hp} (l : Le B H) : ∀ {vs : List V} {rs : List R}, VAll K B H vs rs → RepAll K H vs (rs.map R.d)
  | _, _, .nil => .nil
  | _, _, .st s r t => .cons (r.mono l) (VAll.now l t)
  | _, _, .lk x t => .cons (x.rep l) (VAll.now l t)
def wTup (ta : WA) : WE := fun env Q E => ta env (fun rs => allSt rs ∧ rs.length ≤ sizeLine ∧ Q (.v (.tuple (rs.map R.d)))) E
def wLst (ta : WA) : WE := fun env Q E => ta env (fun rs => allSt rs ∧ rs.length ≤ sizeLine ∧ Q (.t (.lst (rs.map R.d)))) E
theorem de_tup {es : List Expr} {ms : WA} {x1} (h : DA X W G es ms) : DE X W G (.Tuple es x1 pos) (wTup ms) := by
  refine PEi (pe_tupP h) fun σ H QV ⟨B, env, fp, Q, E, rr, hm, hq, hx⟩ => ?_
  refine ⟨B, env, fp, _, E, rr, hm, fun vs H1 B1 rs e1 o1 ⟨s1, hz, hf⟩ => ?_, hx⟩
  have t := o1.reps s1
  refine ⟨by rw [t.length, List.length_map]; exact hz, fun p o np ho => ?_⟩
  exact hq _ _ (upd B1 p _) (.v _) (e1.trans (.put e1.bh np _)) (newT_rep e1.bh np ho t) hf
theorem de_lst {es : List Expr} {ms : WA} (h : DA X W G es ms) : DE X W G (.List es pos) (wLst ms) := by
  refine PEi (pe_lst h) fun σ H QV ⟨B, env, fp, Q, E, rr, hm, hq, hx⟩ => ?_
  refine ⟨B, env, fp, _, E, rr, hm, fun vs H1 B1 rs e1 o1 ⟨s1, hz, hf⟩ => ?_, hx⟩
  have t := o1.reps s1
  refine ⟨by rw [t.length, List.length_map]; exact hz, fun p np => ?_⟩
  exact hq _ _ B1 (.t _) (e1.trans (.make e1.bh np _)) (VOk.back e1 (t_lst e1.bh np t)) hf
/-- {} -/
def wDic0 : WE := fun _ Q _ => Q (.t (.dic []))
theorem de_dic0 : DE X W G (.Dict [] [] pos) wDic0 := by
  refine PEi pe_dnewK fun σ H QV ⟨B, env, fp, Q, E, rr, hm, hq, hx⟩ p np => ?_
  exact hq _ _ B (.t (.dic [])) (.make rr.bh np _) ⟨[p], .dic upd_same .nil, by simp, fun a m => by simp at m; subst m; exact ⟨np, rr.bh.none np⟩⟩ hm

/-! ### calls of built-ins -/
def rB (K : K0) (f : List R → (R → Prop) → Prop) : List V → Hp → VK → Prop := fun vs H QV => ∃ B fp rs Q, Le B H ∧ VAll K B H vs rs ∧ f rs Q ∧ QOk K B H fp Q QV
def wB (f : List R → (R → Prop) → Prop) (ta : WA) : WE := fun env Q E => ta env (fun rs => f rs Q) E
theorem cb_ok {f : List R → (R → Prop) → Prop} {ms : WA} {es : List Expr} {σ : L2.St} {H : Hp} {QV : VK} (h : tD X W G (wB f ms) σ H QV) : tCB (rB X.K f) (tDA X W G ms) σ H QV := by
  obtain ⟨B, env, fp, Q, E, rr, hm, hq, hx⟩ := h
  exact ⟨B, env, fp, _, E, rr, hm, fun vs H1 B1 rs e1 o1 q => ⟨B1, fp, rs, Q, e1.bh, o1, q, hq.later e1⟩, hx⟩
theorem de_B {f : List R → (R → Prop) → Prop} {ms : WA} {es : List Expr} {x : Str} {id : String} {p : Pos} (hc : CallR X (.builtin id) (rB X.K f)) (hg : Gl X x) (hm : X.mg x = none) (hv : bootBuiltins x = some (.builtin id)) (ha : DA X W G (e :: es) ms)
    (hn : x ≠ "__name__") (hdb : (x == ("__debug__" : Str)) = false)
    (he : starEach (e :: es) X.env = (false, eval e X.env) :: starEach es X.env) (hpl : (backTo pos (starEach es X.env)).any (·.1) = false) : DE X W G (.Call (.Name x p) (e :: es) [] pos) (wB f ms) :=
  PEi (pe_callB hc hg hm hv ha hn hdb he hpl) fun _ _ _ h => cb_ok (es := es) h
theorem de_T {f : List R → (R → Prop) → Prop} {ms : WA} {es : List Expr} {x : Str} {id : String} {p : Pos} (hc : CallR X (.type id) (rB X.K f)) (hg : Gl X x) (hm : X.mg x = none) (hv : bootBuiltins x = some (.type id)) (ha : DA X W G (e :: es) ms)
    (hn : x ≠ "__name__") (hdb : (x == ("__debug__" : Str)) = false)
    (he : starEach (e :: es) X.env = (false, eval e X.env) :: starEach es X.env) (hpl : (backTo pos (starEach es X.env)).any (·.1) = false) : DE X W G (.Call (.Name x p) (e :: es) [] pos) (wB f ms) :=
  PEi (pe_callTy hc hg hm hv ha hn hdb he hpl) fun _ _ _ h => cb_ok (es := es) h
end
end DL

set_option Elab.async false
set_option linter.all false
set_option maxRecDepth 100000
set_option maxHeartbeats 1000000
/-! DL6: built-ins over data. -/
namespace DL
open PySem L2 PyProof.Rows

/-- what a one-place built-in does to data as it stands -/
abbrev F1 := D → (R → Prop) → Prop
def f1 (f : F1) : List R → (R → Prop) → Prop
  | [r], Q => f r.d Q
  | _, _ => False
@[simp] theorem f1_one (f : F1) (r : R) (Q : R → Prop) : f1 f [r] Q = f r.d Q := rfl
/-- .. whose items must be still -/
def f1s (f : F1) : List R → (R → Prop) → Prop
  | [r], Q => r.sh ∧ f r.d Q
  | _, _ => False
@[simp] theorem f1s_one (f : F1) (r : R) (Q : R → Prop) : f1s f [r] Q = (r.sh ∧ f r.d Q) := rfl
def f2 (f : Op2) : List R → (R → Prop) → Prop
  | [r, q], Q => f r.d q.d Q
  | _, _ => False
@[simp] theorem f2_two (f : Op2) (r q : R) (Q : R → Prop) : f2 f [r, q] Q = f r.d q.d Q := rfl

section
variable {K : K0} {B H : Hp} {vs : List V} {rs : List R}
theorem VAll.one {r : R} (x : VAll K B H vs [r]) (l : Le B H) : ∃ v, vs = [v] ∧ Rep K H v r.d := by
  have h := x.now l
  cases x with
  | st s r t => cases t; cases h with | cons h _ => exact ⟨_, rfl, h⟩
  | lk s t => cases t; cases h with | cons h _ => exact ⟨_, rfl, h⟩
theorem VAll.two {r q : R} (x : VAll K B H vs [r, q]) (l : Le B H) : ∃ v u, vs = [v, u] ∧ Rep K H v r.d ∧ Rep K H u q.d := by
  have h := x.now l
  cases x with
  | st s r t =>
    obtain ⟨u, e, hu⟩ := VAll.one t l
    subst e
    cases h with | cons h _ => exact ⟨_, _, rfl, h, hu⟩
  | lk s t =>
    obtain ⟨u, e, hu⟩ := VAll.one t l
    subst e
    cases h with | cons h _ => exact ⟨_, _, rfl, h, hu⟩
theorem VAll.one_sh {r : R} (x : VAll K B H vs [r]) (s : r.sh) : ∃ v, vs = [v] ∧ RV K B H v r.d := by
  cases x with
  | st s r t => cases t; exact ⟨_, rfl, .rep r⟩
  | @lk v o f _ _ x t =>
    cases t
    refine ⟨_, rfl, ?_⟩
    cases o with
    | fro d => cases x with | fro r => show RV K B H v (O.frz (.fro d)); rw [O.frz_fro]; exact .rep r
    | lst ds => cases x with | lst h r => show RV K B H _ (O.frz (.lst ds)); rw [O.frz_lst]; exact .lst h r
    | dic ds => cases x with | dic h r => show RV K B H _ (O.frz (.dic ds)); rw [O.frz_dic]; exact .dic h r
    | lsts os => exact s.elim
    | raw _ => cases x
theorem f1_inv {f : F1} {Q : R → Prop} (h : f1 f rs Q) : ∃ r, rs = [r] ∧ f r.d Q := by
  match rs, h with
  | [r], h => exact ⟨r, rfl, h⟩
theorem f1s_inv {f : F1} {Q : R → Prop} (h : f1s f rs Q) : ∃ r, rs = [r] ∧ r.sh ∧ f r.d Q := by
  match rs, h with
  | [r], h => exact ⟨r, rfl, h⟩
theorem f2_inv {f : Op2} {Q : R → Prop} (h : f2 f rs Q) : ∃ r q, rs = [r, q] ∧ f r.d q.d Q := by
  match rs, h with
  | [r, q], h => exact ⟨r, q, rfl, h⟩
/-- a flat answer -/
theorem QOk.flat {fp : List Addr} {Q : R → Prop} {QV : VK} (q : QOk K B H fp Q QV) (l : Le B H) {d : D} {v : V} (h : vD d = some v) (hf : Q (.v d)) : QV v H :=
  q v H B (.v d) (.refl l) (vD_rep h) hf
end

/-! ### the less one of two texts -/
theorem cmpOf_strs {prog : Program} {w : World} {A : Around} {a b : Str} {t u : Tok} :
    CmpOf prog w A .Lt (fun i v => (#[Value.str a t, Value.str b u] : Array Value)[i]? = some v) (fun i j => decide ((if i = 0 then a else b).cps.toList < (if j = 0 then a else b).cps.toList)) := fun i j vi vj s Q E hi hj h => by
  have at' : ∀ (i : Nat) (v : Value), (#[Value.str a t, Value.str b u] : Array Value)[i]? = some v → ∃ tk, v = .str (if i = 0 then a else b) tk := fun i v hi => by
    match i with
    | 0 => simp at hi; exact ⟨t, by simp [← hi]⟩
    | 1 => simp at hi; exact ⟨u, by simp [← hi]⟩
    | i + 2 => simp at hi
  obtain ⟨t1, rfl⟩ := at' i vi hi
  obtain ⟨t2, rfl⟩ := at' j vj hj
  exact richCompare_gives (op := .Lt) (typeIs_str s _ t1) (typeIs_str s _ t2) F.slot_str_lt F.entry_str_lt (F.args_str_lt_2 _ _) (gives_str_lt _ _ t1 t2) (fun x => nomatch x) h
theorem min_two_strs {prog : Program} {w : World} {A : Around} {E : Value → Shared → Prop} {s : Shared} {Q : Value → Shared → Prop} {a b : Str} {t u : Tok} (hh : A.handled = none)
    (h : ∀ h' tk, (∀ c o, s.heap.get? c = some o → h'.get? c = some o) → Q (if b.cps.toList < a.cps.toList then .str b u else .str a t) { s with heap := h', toks := tk }) :
    wpAny (model prog w) A (call (.builtin "min") [.str a t, .str b u]) Q E s := by
  have hT : (s.heap.push { cls := .type "tuple", data := .seq #[Value.str a t, Value.str b u] }).IsTuple s.heap.objs.size #[Value.str a t, Value.str b u] := ⟨_, Heap.get?_push_size _ rfl, rfl, 0, rfl⟩
  refine call_min_two (wpAny_pyIter_tuple hT ?_)
  have hsz : (s.heap.push { cls := .type "tuple", data := .seq #[Value.str a t, Value.str b u] }).objs.size = s.heap.objs.size + 1 := Heap.size_push ..
  refine ⟨_, [_, s.heap.objs.size], [_], _, _, _, _, rfl, Walks.tuple (A := A.in1) hh _ s.heap.objs.size (by rw [hsz]; exact Nat.ne_of_lt (Nat.lt_succ_self _)) #[Value.str a t, Value.str b u],
    ⟨⟨_, Heap.get?_push_size _ rfl, rfl, rfl⟩, hT.push _⟩, fun c hc => ?_, by simp, cmpOf_strs, fun v h' tk hP hk => ?_⟩
  · show c < ((s.heap.push _).push _).objs.size
    rw [Heap.size_push, hsz]
    rcases List.mem_cons.mp hc with rfl | hc
    · rw [hsz]; exact Nat.lt_succ_self _
    · rcases List.mem_cons.mp hc with rfl | hc
      · exact Nat.lt_succ_of_lt (Nat.lt_succ_self _)
      · cases hc
  · have hold : ∀ c o, s.heap.get? c = some o → h'.get? c = some o := fun c o e => by
      refine hk c o (fun hm => ?_) (Heap.get?_push_of_some _ (Heap.get?_push_of_some _ e))
      rcases List.mem_cons.mp hm with e1 | hm
      · have := Heap.lt_size e; rw [e1, hsz] at this; exact Nat.lt_irrefl _ (Nat.lt_of_succ_lt this)
      · cases hm
    have := h h' tk hold
    have hv : v = if b.cps.toList < a.cps.toList then Value.str b u else Value.str a t := by
      have hP' : (#[Value.str a t, Value.str b u] : Array Value)[argBest (fun i j => decide ((if i = 0 then a else b).cps.toList < (if j = 0 then a else b).cps.toList)) 1]? = some v := hP
      by_cases hc : b.cps.toList < a.cps.toList
      · have e : argBest (fun i j => decide ((if i = 0 then a else b).cps.toList < (if j = 0 then a else b).cps.toList)) 1 = 1 := by simp [argBest, hc]
        rw [e] at hP'
        rw [if_pos hc]
        simpa using hP'.symm
      · have e : argBest (fun i j => decide ((if i = 0 then a else b).cps.toList < (if j = 0 then a else b).cps.toList)) 1 = 0 := by simp [argBest, hc]
        rw [e] at hP'
        rw [if_neg hc]
        simpa using hP'.symm
    rw [hv]; exact this
theorem call_min2S {X : Cx} (hc : X.calm = true) : CallR X (.builtin "min") (fun xs H Q => ∃ i j : Str, xs = [.str i, .str j] ∧ Q (.str (if j.cps.toList < i.cps.toList then j else i)) H) := by
  intro pins s σ H xs us Q I r h
  obtain ⟨i, j, rfl, q⟩ := h
  obtain ⟨u, w', rfl, ⟨t, rfl⟩, ⟨t', rfl⟩⟩ := vals2 r
  refine min_two_strs (I.ok.hd hc) fun h' tk k => ⟨_, H, I.kept k, ?_, q⟩
  by_cases hj : j.cps.toList < i.cps.toList
  · rw [if_pos hj, if_pos hj]; exact ⟨_, rfl⟩
  · rw [if_neg hj, if_neg hj]; exact ⟨_, rfl⟩
section
variable {X : Cx}
/-- by one value as it stands, to a flat one -/
theorem cr1 {f : Value} {r : List V → Hp → VK → Prop} {g : F1} (h : CallR X f r)
    (hr : ∀ v d H QV (Q : R → Prop), Rep X.K H v d → g d Q → (∀ d' v', vD d' = some v' → Q (.v d') → QV v' H) → r [v] H QV) : CallR X f (rB X.K (f1 g)) := by
  intro pins s σ H xs us QV I rv ⟨B, fp, rs, Q, l, x, hf, hq⟩
  obtain ⟨a, e, hf⟩ := f1_inv hf
  subst e
  obtain ⟨v, e, hv⟩ := x.one l
  subst e
  exact h pins s σ H _ us QV I rv (hr v a.d H QV Q hv hf fun d' v' hd hq' => hq.flat l hd hq')
theorem cr2 {f : Value} {r : List V → Hp → VK → Prop} {g : Op2} (h : CallR X f r)
    (hr : ∀ v d u e H QV (Q : R → Prop), Rep X.K H v d → Rep X.K H u e → g d e Q → (∀ d' v', vD d' = some v' → Q (.v d') → QV v' H) → r [v, u] H QV) : CallR X f (rB X.K (f2 g)) := by
  intro pins s σ H xs us QV I rv ⟨B, fp, rs, Q, l, x, hf, hq⟩
  obtain ⟨a, b, e, hf⟩ := f2_inv hf
  subst e
  obtain ⟨v, u, e, hv, hu⟩ := x.two l
  subst e
  exact h pins s σ H _ us QV I rv (hr v a.d u b.d H QV Q hv hu hf fun d' v' hd hq' => hq.flat l hd hq')

def lenD : F1
  | .str z, Q => z.length ≤ sizeLine ∧ Q (.v (.int z.length))
  | .list ds, Q => Q (.v (.int ds.length))
  | .tuple ds, Q => Q (.v (.int ds.length))
  | .dict ds, Q => Q (.v (.int ds.length))
  | _, _ => False
theorem call_lenDict : CallR X (.builtin "len") (fun xs H Q => ∃ a kvs, xs = [.ref a] ∧ Rd H a (.dK kvs) ∧ Q (.int kvs.length) H) := by
  intro pins s σ H xs us Q I rv ⟨a, kvs, e, h, q⟩
  subst e
  have := rv.ref1
  subst this
  exact d_len I h fun t s' I' => ⟨.int kvs.length, H, I', ⟨t, rfl⟩, q⟩
theorem cLen : CallR X (.builtin "len") (rB X.K (f1 lenD)) := by
  refine cr1 (call_len.or call_lenDict) fun v d H QV Q hv hf hq => ?_
  cases d <;> first | exact (show False from hf).elim | skip
  · exact .inl ⟨_, _, rfl, by rw [hv.str_inv]; exact ⟨hf.1, rfl⟩, hq _ _ rfl hf.2⟩
  · obtain ⟨a, vs, e, s, t⟩ := hv.list_inv
    subst e
    exact .inl ⟨_, _, rfl, .inl ⟨vs, s, t.length.symm⟩, hq _ _ rfl hf⟩
  · obtain ⟨a, vs, e, s, t⟩ := hv.tup_inv
    subst e
    exact .inl ⟨_, _, rfl, .inr ⟨vs, s, t.length.symm⟩, hq _ _ rfl hf⟩
  · obtain ⟨a, vs, e, s, t⟩ := hv.dict_inv
    subst e
    exact .inr ⟨a, vs, rfl, s, by rw [t.length]; exact hq _ _ rfl hf⟩
def min2D : Op2
  | .int i, .int j, Q => Q (.v (.int (if j < i then j else i)))
  | .str i, .str j, Q => Q (.v (.str (if j.cps.toList < i.cps.toList then j else i)))
  | _, _, _ => False
def max2D : Op2
  | .int i, .int j, Q => Q (.v (.int (if j > i then j else i)))
  | _, _, _ => False
theorem cMin2 (hc : X.calm = true) : CallR X (.builtin "min") (rB X.K (f2 min2D)) := by
  refine cr2 ((call_min2 hc).or (call_min2S hc)) fun v d u e H QV Q hv hu hf hq => ?_
  cases d <;> cases e <;> first | exact (show False from hf).elim | skip
  · exact .inl ⟨_, _, by rw [hv.int_inv, hu.int_inv], hq _ _ rfl hf⟩
  · exact .inr ⟨_, _, by rw [hv.str_inv, hu.str_inv], hq _ _ rfl hf⟩
theorem cMax2 (hc : X.calm = true) : CallR X (.builtin "max") (rB X.K (f2 max2D)) := by
  refine cr2 (call_max2 hc) fun v d u e H QV Q hv hu hf hq => ?_
  cases d <;> cases e <;> first | exact (show False from hf).elim | skip
  exact ⟨_, _, by rw [hv.int_inv, hu.int_inv], hq _ _ rfl hf⟩
def sumD : F1
  | .list ds, Q => ∃ ns : List Int, ds = ns.map PyData.int ∧ Q (.v (.int ns.sum))
  | _, _ => False
theorem cSum (hc : X.calm = true) : CallR X (.builtin "sum") (rB X.K (f1 sumD)) := by
  refine cr1 (cr_sum hc) fun v d H QV Q hv hf hq => ?_
  cases d <;> first | exact (show False from hf).elim | skip
  obtain ⟨ns, e, hf⟩ := hf
  subst e
  obtain ⟨a, vs, e, s, t⟩ := hv.list_inv
  subst e
  exact ⟨a, ns, rfl, by rw [← t.intsV]; exact s, hq _ _ rfl hf⟩
def isGreatest (ns : List Int) (m : Int) : Prop := m ∈ ns ∧ ∀ y ∈ ns, y ≤ m
def isLeast (ns : List Int) (m : Int) : Prop := m ∈ ns ∧ ∀ y ∈ ns, m ≤ y
def maxD : F1
  | .list ds, Q => ∃ ns : List Int, ds = ns.map PyData.int ∧ 0 < ns.length ∧ ∀ m, isGreatest ns m → Q (.v (.int m))
  | _, _ => False
def minD : F1
  | .list ds, Q => ∃ ns : List Int, ds = ns.map PyData.int ∧ 0 < ns.length ∧ ∀ m, isLeast ns m → Q (.v (.int m))
  | _, _ => False
theorem cMax (hc : X.calm = true) : CallR X (.builtin "max") (rB X.K (f1 maxD)) := by
  refine cr1 (cr_max hc) fun v d H QV Q hv hf hq => ?_
  cases d <;> first | exact (show False from hf).elim | skip
  obtain ⟨ns, e, hl, hf⟩ := hf
  subst e
  obtain ⟨a, vs, e, s, t⟩ := hv.list_inv
  subst e
  exact ⟨a, ns, rfl, by rw [← t.intsV]; exact s, hl, fun m h1 h2 => hq _ _ rfl (hf m ⟨h1, h2⟩)⟩
theorem cMin (hc : X.calm = true) : CallR X (.builtin "min") (rB X.K (f1 minD)) := by
  refine cr1 (cr_min hc) fun v d H QV Q hv hf hq => ?_
  cases d <;> first | exact (show False from hf).elim | skip
  obtain ⟨ns, e, hl, hf⟩ := hf
  subst e
  obtain ⟨a, vs, e, s, t⟩ := hv.list_inv
  subst e
  exact ⟨a, ns, rfl, by rw [← t.intsV]; exact s, hl, fun m h1 h2 => hq _ _ rfl (hf m ⟨h1, h2⟩)⟩
def boolsOf (ds : List D) (bs : List Bool) : Prop := ds = bs.map PyData.bool
theorem RepAll.boolsV {K : K0} {B : Hp} : ∀ {bs : List Bool} {vs : List V}, RepAll K B vs (bs.map PyData.bool) → vs = bs.map V.bl
  | [], _, .nil => rfl
  | n :: ns, _, .cons r t => by rw [r.bool_inv, RepAll.boolsV t]; rfl
def allD : F1
  | .list ds, Q => ∃ bs : List Bool, ds = bs.map PyData.bool ∧ Q (.v (.bool (bs.all id)))
  | _, _ => False
def anyD : F1
  | .list ds, Q => ∃ bs : List Bool, ds = bs.map PyData.bool ∧ Q (.v (.bool (bs.any id)))
  | _, _ => False
theorem cAll (hc : X.calm = true) : CallR X (.builtin "all") (rB X.K (f1 allD)) := by
  refine cr1 (cr_all hc) fun v d H QV Q hv hf hq => ?_
  cases d <;> first | exact (show False from hf).elim | skip
  obtain ⟨ns, e, hf⟩ := hf
  subst e
  obtain ⟨a, vs, e, s, t⟩ := hv.list_inv
  subst e
  exact ⟨a, ns, rfl, by rw [← t.boolsV]; exact s, hq _ _ rfl hf⟩
theorem cAny (hc : X.calm = true) : CallR X (.builtin "any") (rB X.K (f1 anyD)) := by
  refine cr1 (cr_any hc) fun v d H QV Q hv hf hq => ?_
  cases d <;> first | exact (show False from hf).elim | skip
  obtain ⟨ns, e, hf⟩ := hf
  subst e
  obtain ⟨a, vs, e, s, t⟩ := hv.list_inv
  subst e
  exact ⟨a, ns, rfl, by rw [← t.boolsV]; exact s, hq _ _ rfl hf⟩
def ordD : F1
  | .str z, Q => z.length = 1 ∧ Q (.v (.int (z.cps.getD 0 0 : Nat)))
  | _, _ => False
theorem cOrd : CallR X (.builtin "ord") (rB X.K (f1 ordD)) := by
  refine cr1 call_ord fun v d H QV Q hv hf hq => ?_
  cases d <;> first | exact (show False from hf).elim | skip
  exact ⟨_, by rw [hv.str_inv], hf.1, hq _ _ rfl hf.2⟩
def strD : F1
  | .int i, Q => i.natAbs.log2 < 1920 ∧ Q (.v (.str (toString i)))
  | _, _ => False
theorem cStr : CallR X (.type "str") (rB X.K (f1 strD)) := by
  refine cr1 call_str_int fun v d H QV Q hv hf hq => ?_
  cases d <;> first | exact (show False from hf).elim | skip
  exact ⟨_, by rw [hv.int_inv], hf.1, hq _ _ rfl hf.2⟩
def intD : F1
  | .int i, Q => Q (.v (.int i))
  | .bool k, Q => Q (.v (.int (if k then 1 else 0)))
  | .str a, Q => ∃ n, PySem.intText? a = some n ∧ a.length ≤ 640 ∧ Q (.v (.int n))
  | _, _ => False
theorem cInt : CallR X (.type "int") (rB X.K (f1 intD)) := by
  refine cr1 (call_int1.or call_int_str) fun v d H QV Q hv hf hq => ?_
  cases d <;> first | exact (show False from hf).elim | skip
  · exact .inl (.inr ⟨_, by rw [hv.bool_inv], hq _ _ rfl hf⟩)
  · exact .inl (.inl ⟨_, by rw [hv.int_inv], hq _ _ rfl hf⟩)
  · obtain ⟨n, h1, h2, h3⟩ := hf
    exact .inr ⟨_, n, by rw [hv.str_inv], h1, h2, hq _ _ rfl h3⟩
/-- list(x), tuple(x) of a list or tuple -/
def listD : F1
  | .list ds, Q => Q (.t (.lst ds))
  | .tuple ds, Q => Q (.t (.lst ds))
  | _, _ => False
def tupleD : F1
  | .list ds, Q => Q (.v (.tuple ds))
  | .tuple ds, Q => Q (.v (.tuple ds))
  | _, _ => False
theorem cList : CallR X (.type "list") (rB X.K (f1s listD)) := by
  intro pins s σ H xs us QV I rv ⟨B, fp, rs, Q, l, x, hf, hq⟩
  obtain ⟨a, e, sh, hg⟩ := f1s_inv hf
  clear hf
  subst e
  obtain ⟨v, e, hv⟩ := x.one_sh sh
  subst e
  generalize a.d = d at hv hg
  cases d <;> first | exact (show False from hg).elim | skip
  · obtain ⟨p, vs, e, s', t⟩ := hv.list l
    subst e
    exact call_list_of pins s σ H _ us QV I rv ⟨p, vs, rfl, .inl s', fun p' np => hq _ _ B (.t _) (.make l np _) (t_lst l np t) hg⟩
  · obtain ⟨p, vs, e, s', t⟩ := hv.tup l
    subst e
    exact call_list_of pins s σ H _ us QV I rv ⟨p, vs, rfl, .inr s', fun p' np => hq _ _ B (.t _) (.make l np _) (t_lst l np t) hg⟩
theorem cTuple : CallR X (.type "tuple") (rB X.K (f1s tupleD)) := by
  intro pins s σ H xs us QV I rv ⟨B, fp, rs, Q, l, x, hf, hq⟩
  obtain ⟨a, e, sh, hg⟩ := f1s_inv hf
  clear hf
  subst e
  obtain ⟨v, e, hv⟩ := x.one_sh sh
  subst e
  generalize a.d = d at hv hg
  cases d <;> first | exact (show False from hg).elim | skip
  · obtain ⟨p, vs, e, s', t⟩ := hv.list l
    subst e
    refine call_tuple_ofP pins s σ H _ us QV I rv ⟨p, vs, rfl, .inl ⟨s', fun p' o np ho => hq _ _ (upd B p' _) (.v _) (.put l np _) (newT_rep l np ho t) hg⟩⟩
  · have hr := hv.tupRep
    obtain ⟨p, vs, e, s', t⟩ := hv.tup l
    subst e
    exact call_tuple_ofP pins s σ H _ us QV I rv ⟨p, vs, rfl, .inr ⟨s', hq _ _ B (.v _) (.refl l) hr hg⟩⟩

/-! ### isinstance by built-in types -/
def tyD : D → String
  | .none => "NoneType"
  | .bool _ => "bool"
  | .int _ => "int"
  | .str _ => "str"
  | .list _ => "list"
  | .tuple _ => "tuple"
  | .dict _ => "dict"
theorem tyX_of {K : K0} {H : Hp} {v : V} {d : D} (r : Rep K H v d) : TyX K H v (.type (tyD d)) := by
  cases r with
  | non => exact .base .non
  | bl b => exact .base (.bl b)
  | int i => exact .base (.int i)
  | str x => exact .base (.str x)
  | lst s _ =>
    rcases s with (s | ⟨o, s⟩) | ⟨o, its, n, h1, h2, _⟩
    · exact .base (.lst s)
    · exact .base (.frz s)
    · exact .kList h1 h2
  | tup s _ =>
    rcases s with (s | ⟨o, s⟩) | ⟨o, its, n, h1, h2, _⟩
    · exact .base (.tup s)
    · exact .fTuple s
    · exact .kTuple h1 h2
  | dic s _ =>
    rcases s with s | ⟨o, s⟩
    · exact .base (.dK s)
    · exact .fDict s
def isiB (c : String) (d : D) : Bool := match c, d with
  | "int", .int _ => true
  | "int", .bool _ => true
  | "bool", .bool _ => true
  | "str", .str _ => true
  | "list", .list _ => true
  | "tuple", .tuple _ => true
  | "dict", .dict _ => true
  | _, _ => false
/-- isinstance(x, C), C a built-in class -/
def fIsi (c : String) : List R → (R → Prop) → Prop
  | [r], Q => Q (.v (.bool (isiB c r.d)))
  | _, _ => False
@[simp] theorem fIsi_one (c : String) (r : R) (Q : R → Prop) : fIsi c [r] Q = Q (.v (.bool (isiB c r.d))) := rfl
theorem kit_d {K : K0} {c : String} (h : c = "int" ∨ c = "bool" ∨ c = "str" ∨ c = "list" ∨ c = "tuple" ∨ c = "dict") (d : D) : PySem.W.kitOne K (.type (tyD d)) (.type c) = some (isiB c d) := by
  rcases h with rfl | rfl | rfl | rfl | rfl | rfl
  · cases d with
    | none => exact kit_ty (a := "NoneType") (b := "int") (r := false) (by decide +kernel)
    | bool b => exact kit_ty (a := "bool") (b := "int") (r := true) (by decide +kernel)
    | int i => exact kit_ty (a := "int") (b := "int") (r := true) (by decide +kernel)
    | str s => exact kit_ty (a := "str") (b := "int") (r := false) (by decide +kernel)
    | list xs => exact kit_ty (a := "list") (b := "int") (r := false) (by decide +kernel)
    | tuple xs => exact kit_ty (a := "tuple") (b := "int") (r := false) (by decide +kernel)
    | dict xs => exact kit_ty (a := "dict") (b := "int") (r := false) (by decide +kernel)
  · cases d with
    | none => exact kit_ty (a := "NoneType") (b := "bool") (r := false) (by decide +kernel)
    | bool b => exact kit_ty (a := "bool") (b := "bool") (r := true) (by decide +kernel)
    | int i => exact kit_ty (a := "int") (b := "bool") (r := false) (by decide +kernel)
    | str s => exact kit_ty (a := "str") (b := "bool") (r := false) (by decide +kernel)
    | list xs => exact kit_ty (a := "list") (b := "bool") (r := false) (by decide +kernel)
    | tuple xs => exact kit_ty (a := "tuple") (b := "bool") (r := false) (by decide +kernel)
    | dict xs => exact kit_ty (a := "dict") (b := "bool") (r := false) (by decide +kernel)
  · cases d with
    | none => exact kit_ty (a := "NoneType") (b := "str") (r := false) (by decide +kernel)
    | bool b => exact kit_ty (a := "bool") (b := "str") (r := false) (by decide +kernel)
    | int i => exact kit_ty (a := "int") (b := "str") (r := false) (by decide +kernel)
    | str s => exact kit_ty (a := "str") (b := "str") (r := true) (by decide +kernel)
    | list xs => exact kit_ty (a := "list") (b := "str") (r := false) (by decide +kernel)
    | tuple xs => exact kit_ty (a := "tuple") (b := "str") (r := false) (by decide +kernel)
    | dict xs => exact kit_ty (a := "dict") (b := "str") (r := false) (by decide +kernel)
  · cases d with
    | none => exact kit_ty (a := "NoneType") (b := "list") (r := false) (by decide +kernel)
    | bool b => exact kit_ty (a := "bool") (b := "list") (r := false) (by decide +kernel)
    | int i => exact kit_ty (a := "int") (b := "list") (r := false) (by decide +kernel)
    | str s => exact kit_ty (a := "str") (b := "list") (r := false) (by decide +kernel)
    | list xs => exact kit_ty (a := "list") (b := "list") (r := true) (by decide +kernel)
    | tuple xs => exact kit_ty (a := "tuple") (b := "list") (r := false) (by decide +kernel)
    | dict xs => exact kit_ty (a := "dict") (b := "list") (r := false) (by decide +kernel)
  · cases d with
    | none => exact kit_ty (a := "NoneType") (b := "tuple") (r := false) (by decide +kernel)
    | bool b => exact kit_ty (a := "bool") (b := "tuple") (r := false) (by decide +kernel)
    | int i => exact kit_ty (a := "int") (b := "tuple") (r := false) (by decide +kernel)
    | str s => exact kit_ty (a := "str") (b := "tuple") (r := false) (by decide +kernel)
    | list xs => exact kit_ty (a := "list") (b := "tuple") (r := false) (by decide +kernel)
    | tuple xs => exact kit_ty (a := "tuple") (b := "tuple") (r := true) (by decide +kernel)
    | dict xs => exact kit_ty (a := "dict") (b := "tuple") (r := false) (by decide +kernel)
  · cases d with
    | none => exact kit_ty (a := "NoneType") (b := "dict") (r := false) (by decide +kernel)
    | bool b => exact kit_ty (a := "bool") (b := "dict") (r := false) (by decide +kernel)
    | int i => exact kit_ty (a := "int") (b := "dict") (r := false) (by decide +kernel)
    | str s => exact kit_ty (a := "str") (b := "dict") (r := false) (by decide +kernel)
    | list xs => exact kit_ty (a := "list") (b := "dict") (r := false) (by decide +kernel)
    | tuple xs => exact kit_ty (a := "tuple") (b := "dict") (r := false) (by decide +kernel)
    | dict xs => exact kit_ty (a := "dict") (b := "dict") (r := true) (by decide +kernel)
/-- isinstance(e, C): the class is the second argument, a built-in name -/
def wIsi (c : String) (t : WE) : WE := fun env Q E => t env (fun x => Q (.v (.bool (isiB c x.d)))) E
theorem de_isi {W : WX} {G : Hp} {e e2 : Expr} {m : WE} {p pos : Pos} {c : String} (hc : c = "int" ∨ c = "bool" ∨ c = "str" ∨ c = "list" ∨ c = "tuple" ∨ c = "dict") (hg : Gl X "isinstance") (hm : X.mg "isinstance" = none) (ha : DE X W G e m)
    (hc2 : PE X e2 (tC (.ty c)))
    (h1 : starEach [e, e2] X.env = (false, eval e X.env) :: starEach [e2] X.env) (h2 : starEach [e2] X.env = (false, eval e2 X.env) :: starEach [] X.env)
    (hpl : (backTo pos (starEach [e2] X.env)).any (·.1) = false) : DE X W G (.Call (.Name "isinstance" p) [e, e2] [] pos) (wIsi c m) := by
  refine PEi (pe_callB call_isi hg hm (by decide +kernel) (pa_cons ha (pa_cons hc2 pa_nil h2) h1) (by decide) (by decide) h1 hpl) fun σ H QV ⟨B, env, fp, Q, E, rr, hm, hq, hx⟩ => ?_
  refine ⟨B, env, fp, _, E, rr, hm, fun v1 H1 B1 r1 e1 o1 hf => ?_, hx⟩
  exact ⟨v1, .ty c, _, _, _, rfl, .ty c, tyX_of (o1.now e1), kit_d hc _, hq _ H1 B1 (.v _) e1 (.bl _) hf⟩
end
end DL

set_option Elab.async false
set_option linter.all false
set_option maxRecDepth 100000
set_option maxHeartbeats 1000000
/-! DL7: statements over data. -/
namespace DL
open PySem L2 PyProof.Rows

def R.o : R → O
  | .v d => .fro d
  | .t o => o
  | .b o => o
@[simp] theorem R.o_v (d : D) : (R.v d).o = .fro d := rfl
@[simp] theorem R.o_t (o : O) : (R.t o).o = o := rfl
/-- a result that leaves the frame -/
def R.out : R → R
  | .b o => .t o
  | r => r
@[simp] theorem R.out_v (d : D) : (R.v d).out = .v d := rfl
@[simp] theorem R.out_t (d : O) : (R.t d).out = .t d := rfl
@[simp] theorem R.out_b (d : O) : (R.b d).out = .t d := rfl
theorem R.out_st (r : R) : r.out.st := by cases r <;> exact True.intro

/-! ### the frame, changed -/
section
variable {K : K0} {G B B' H H' : Hp} {env : Env} {fp : List Addr} {σ : L2.St} {v : V} {o : O} {g : List Addr}
theorem ownEnv_set (l : Le B B') : ∀ {σ : L2.St} {env : Env} {fp : List Addr} (i : Nat), OwnEnv K B H σ env fp → fp.Nodup → Own K B' H v o g → g.Nodup → (∀ a ∈ g, a ∉ fp) →
    ∃ fp', OwnEnv K B' H (σ.set i (some v)) (env.set i (some o)) fp' ∧ fp'.Nodup ∧ ∀ a ∈ fp', a ∈ fp ∨ a ∈ g
  | _, _, _, _, .nil, _, _, _, _ => ⟨[], .nil, by simp, fun _ m => absurd m (by simp)⟩
  | _, _, fp, 0, .no t, nd, w, ng, dj => ⟨g ++ fp, .some w (t.mono l fun _ _ => rfl), List.nodup_append.mpr ⟨ng, nd, fun a m b m' e => dj a m (e ▸ m')⟩, fun a m => (List.mem_append.mp m).symm⟩
  | _, _, fp, 0, .raw t, nd, w, ng, dj => ⟨g ++ fp, .some w (t.mono l fun _ _ => rfl), List.nodup_append.mpr ⟨ng, nd, fun a m b m' e => dj a m (e ▸ m')⟩, fun a m => (List.mem_append.mp m).symm⟩
  | _, _, _, 0, .some (f := f) (g := r) x t, nd, w, ng, dj => by
    obtain ⟨n1, n2, n3⟩ := List.nodup_append.mp nd
    exact ⟨g ++ r, .some w (t.mono l fun _ _ => rfl), List.nodup_append.mpr ⟨ng, n2, fun a m b m' e => dj a m (List.mem_append_right _ (e ▸ m'))⟩, fun a m => (List.mem_append.mp m).elim .inr fun z => .inl (List.mem_append_right _ z)⟩
  | _, _, _, i + 1, .no t, nd, w, ng, dj => by
    obtain ⟨fp', h1, h2, h3⟩ := ownEnv_set l i t nd w ng dj
    exact ⟨fp', .no h1, h2, h3⟩
  | _, _, _, i + 1, .raw t, nd, w, ng, dj => by
    obtain ⟨fp', h1, h2, h3⟩ := ownEnv_set l i t nd w ng dj
    exact ⟨fp', .raw h1, h2, h3⟩
  | _, _, _, i + 1, .some (f := f) (g := r) x t, nd, w, ng, dj => by
    obtain ⟨n1, n2, n3⟩ := List.nodup_append.mp nd
    obtain ⟨fp', h1, h2, h3⟩ := ownEnv_set l i t n2 w ng fun a m m' => dj a m (List.mem_append_right _ m')
    refine ⟨f ++ fp', .some (x.mono l fun _ _ => rfl) h1, List.nodup_append.mpr ⟨n1, h2, fun a m b m' e => ?_⟩, fun a m => ?_⟩
    · subst e
      rcases h3 a m' with z | z
      · exact n3 a m a z rfl
      · exact dj a z (List.mem_append_left _ m)
    · rcases List.mem_append.mp m with z | z
      · exact .inl (List.mem_append_left _ z)
      · exact (h3 a z).elim (fun z => .inl (List.mem_append_right _ z)) .inr
theorem ownEnv_put {o0 : O} (hr : ∀ a, o0 ≠ .raw a) : ∀ {σ : L2.St} {env : Env} {fp : List Addr} {i : Nat}, OwnEnv K B H σ env fp → fp.Nodup → env[i]? = some (some o0) →
    ∃ v g, σ[i]? = some (some v) ∧ Own K B H v o0 g ∧ g.Nodup ∧ (∀ a ∈ g, a ∈ fp) ∧
      ∀ (B' H' : Hp) (o' : O) (g' : List Addr), Le B B' → (∀ a ∈ fp, a ∉ g → H' a = H a) → Own K B' H' v o' g' → g'.Nodup → (∀ a ∈ g', a ∈ fp → a ∈ g) →
        ∃ fp', OwnEnv K B' H' σ (env.set i (some o')) fp' ∧ fp'.Nodup ∧ ∀ a ∈ fp', (a ∈ fp ∧ a ∉ g) ∨ a ∈ g'
  | _, _, _, _, .nil, _, e => by simp at e
  | _, _, _, 0, .no t, _, e => by simp at e
  | _, _, _, 0, .raw t, _, e => by simp at e; exact (hr _ e.symm).elim
  | _, _, _, 0, .some (v := v) (f := f) (g := r) x t, nd, e => by
    simp at e; subst e
    obtain ⟨n1, n2, n3⟩ := List.nodup_append.mp nd
    refine ⟨v, f, rfl, x, n1, fun a m => List.mem_append_left _ m, fun B' H' o' g' l k w ng dj => ⟨g' ++ r, .some w (t.mono l fun a m => k a (List.mem_append_right _ m) fun z => n3 a z a m rfl), ?_, fun a m => ?_⟩⟩
    · refine List.nodup_append.mpr ⟨ng, n2, fun a m b m' e => ?_⟩
      subst e
      exact n3 a (dj a m (List.mem_append_right _ m')) a m' rfl
    · rcases List.mem_append.mp m with z | z
      · exact .inr z
      · exact .inl ⟨List.mem_append_right _ z, fun q => n3 a q a z rfl⟩
  | _, _, _, i + 1, .no t, nd, e => by
    obtain ⟨v, g, h1, h2, h3, h4, h5⟩ := ownEnv_put hr (i := i) t nd (by simpa using e)
    refine ⟨v, g, by simpa using h1, h2, h3, h4, fun B' H' o' g' l k w ng dj => ?_⟩
    obtain ⟨fp', q1, q2, q3⟩ := h5 B' H' o' g' l k w ng dj
    exact ⟨fp', .no q1, q2, q3⟩
  | _, _, _, i + 1, .raw t, nd, e => by
    obtain ⟨v, g, h1, h2, h3, h4, h5⟩ := ownEnv_put hr (i := i) t nd (by simpa using e)
    refine ⟨v, g, by simpa using h1, h2, h3, h4, fun B' H' o' g' l k w ng dj => ?_⟩
    obtain ⟨fp', q1, q2, q3⟩ := h5 B' H' o' g' l k w ng dj
    exact ⟨fp', .raw q1, q2, q3⟩
  | _, _, _, i + 1, .some (f := f) (g := r) x t, nd, e => by
    obtain ⟨n1, n2, n3⟩ := List.nodup_append.mp nd
    obtain ⟨v, g, h1, h2, h3, h4, h5⟩ := ownEnv_put hr (i := i) t n2 (by simpa using e)
    refine ⟨v, g, by simpa using h1, h2, h3, fun a m => List.mem_append_right _ (h4 a m), fun B' H' o' g' l k w ng dj => ?_⟩
    obtain ⟨fp', q1, q2, q3⟩ := h5 B' H' o' g' l (fun a m n => k a (List.mem_append_right _ m) n) w ng fun a m m' => dj a m (List.mem_append_right _ m')
    refine ⟨f ++ fp', .some (x.mono l fun a m => k a (List.mem_append_left _ m) fun z => n3 a m a (h4 a z) rfl) q1, List.nodup_append.mpr ⟨n1, q2, fun a m b m' e => ?_⟩, fun a m => ?_⟩
    · subst e
      rcases q3 a m' with ⟨z, _⟩ | z
      · exact n3 a m a z rfl
      · exact n3 a m a (h4 a (dj a z (List.mem_append_left _ m))) rfl
    · rcases List.mem_append.mp m with z | z
      · exact .inl ⟨List.mem_append_left _ z, fun q => n3 a z a (h4 a q) rfl⟩
      · exact (q3 a z).elim (fun ⟨z1, z2⟩ => .inl ⟨List.mem_append_right _ z1, z2⟩) .inr

/-- a name gets a result -/
theorem RR.asg {Hs : Hp} {r : R} (x : RR K G B env fp σ Hs) (e : Ext Hs B H B') (w : VOk K Hs fp B' H v r) (s : r.st) (i : Nat) : ∃ fp', RR K G B' (env.set i (some r.o)) fp' (σ.set i (some v)) H := by
  have y := x.ext e
  have main : ∀ g, Own K B' H v r.o g → g.Nodup → (∀ a ∈ g, Hs a = none ∧ B' a = none) → ∃ fp', RR K G B' (env.set i (some r.o)) fp' (σ.set i (some v)) H := fun g wg ng hg => by
    obtain ⟨fp', h1, h2, h3⟩ := ownEnv_set (Le.refl _) i y.own y.nd wg ng fun a m z => by
      obtain ⟨u, h⟩ := x.own.dom a z
      rw [(hg a m).1] at h; cases h
    exact ⟨fp', y.bh, y.gh, y.gb, h1, h2, fun a m => (h3 a m).elim (y.fb a) fun z => ⟨(hg a z).2, x.gh.none (hg a z).1⟩⟩
  cases r with
  | v d => exact main [] (.fro w) (by simp) fun a m => absurd m (by simp)
  | t o => obtain ⟨f, w, nf, hf⟩ := w; exact main f w nf hf
  | b o => exact s.elim
/-- a name's own thing changes -/
theorem RR.put {o0 : O} {i : Nat} (x : RR K G B env fp σ H) (hi : env[i]? = some (some o0)) (hr : ∀ a, o0 ≠ .raw a := by intro _ h; cases h) : ∃ v g, σ[i]? = some (some v) ∧ Own K B H v o0 g ∧ g.Nodup ∧ (∀ a ∈ g, a ∈ fp ∧ B a = none ∧ G a = none) ∧
    ∀ (B' H' : Hp) (o' : O) (g' : List Addr), Le B B' → Le B' H' → (∀ a o, a ∉ g → H a = some o → H' a = some o) → (∀ a o, H a = some o → a ∉ g → B a = none → B' a = none) → Own K B' H' v o' g' → g'.Nodup →
      (∀ a ∈ g', (a ∈ fp → a ∈ g) ∧ B' a = none ∧ G a = none) → ∃ fp', RR K G B' (env.set i (some o')) fp' σ H' := by
  obtain ⟨v, g, h1, h2, h3, h4, h5⟩ := ownEnv_put hr x.own x.nd hi
  refine ⟨v, g, h1, h2, h3, fun a m => ⟨h4 a m, x.fb a (h4 a m)⟩, fun B' H' o' g' l bh k nb w ng hg => ?_⟩
  have gn : ∀ a o, G a = some o → a ∉ g := fun a o q m => by rw [(x.fb a (h4 a m)).2] at q; cases q
  obtain ⟨fp', q1, q2, q3⟩ := h5 B' H' o' g' l (fun a m n => by
    obtain ⟨u, h⟩ := x.own.dom a m
    rw [h]; exact k a u n h) w ng fun a m m' => (hg a m).1 m'
  refine ⟨fp', bh, fun a o q => k a o (gn a o q) (x.gh a o q), fun a o q => nb a o (x.gh a o q) (gn a o q) (x.gb a o q), q1, q2, fun a m => ?_⟩
  rcases q3 a m with ⟨z1, z2⟩ | z
  · obtain ⟨u, h⟩ := x.own.dom a z1
    exact ⟨nb a u h z2 (x.fb a z1).1, (x.fb a z1).2⟩
  · exact (hg a z).2
/-- what a name holds is let be still -/
theorem RR.frz {o0 : O} {i : Nat} (x : RR K G B env fp σ H) (hi : env[i]? = some (some o0)) (hr : ∀ a, o0 ≠ .raw a) : ∃ B' fp', Le B B' ∧ RR K G B' (env.set i (some (.fro o0.frz))) fp' σ H := by
  obtain ⟨v, g, h1, h2, h3, h4, h5⟩ := x.put hi hr
  have l := addB_le g x.bh
  obtain ⟨fp', h⟩ := h5 (addB B H g) H (.fro o0.frz) [] l (addB_bh g x.bh) (fun _ _ _ h => h) (fun a o _ n z => by rw [addB_out n]; exact z)
    (.fro (h2.freeze l fun a m u q => by rw [addB_in m]; exact q)) (by simp) fun a m => absurd m (by simp)
  exact ⟨_, fp', l, h⟩
/-- a change beside all that is known -/
theorem RR.beside {a : Addr} {u : HO} (x : RR K G B env fp σ H) (h1 : a ∉ fp) (h2 : B a = none) (h3 : G a = none) : RR K G B env fp σ (upd H a u) where
  bh := fun b o q => by rw [upd_ne (ne_of_none q h2)]; exact x.bh b o q
  gh := fun b o q => by rw [upd_ne (ne_of_none q h3)]; exact x.gh b o q
  gb := x.gb
  own := x.own.mono (.refl _) fun b m => upd_ne fun e => h1 (e ▸ m)
  nd := x.nd
  fb := x.fb
end

section
variable {X : Cx} {W : WX} {G B B' : Hp} {d : En} {D : Ends} {st : Stmt} {rest : List Stmt} {m m1 m2 : WS} {σ σ' : L2.St} {e : Expr} {t : WE} {pos : Pos}
theorem SOk.later (x : SOk X W G B d D σ) (l : Le B B') : SOk X W G B' d D σ' where
  nx := fun σ H B2 env fp l2 => x.nx σ H B2 env fp (l.trans l2)
  bk := fun σ H B2 env fp l2 => x.bk σ H B2 env fp (l.trans l2)
  ct := fun σ H B2 env fp l2 => x.ct σ H B2 env fp (l.trans l2)
  rt := fun v H B2 r f l2 => x.rt v H B2 r f (l.trans l2)
  ex := fun n cls σ H B2 env fp l2 => x.ex n cls σ H B2 env fp (l.trans l2)
theorem RR.same {K : K0} {H H' : Hp} {env : Env} {fp : List Addr} (rr : RR K G B env fp σ H) (l : Le H H') : RR K G B env fp σ H' :=
  rr.ext ⟨l, .refl _, rr.bh.trans l, fun _ _ _ n => n⟩
theorem SOk.x {H : Hp} {env : Env} {fp : List Addr} (x : SOk X W G B d D σ) (rr : RR X.K G B env fp σ H) : XOk X.mg W H σ (fun n => d.ex n env) :=
  fun n cls H' en hm l => x.ex n cls σ H' B env fp (.refl _) (rr.same l) en hm
/-- a result goes out -/
theorem SOk.ret {H H' : Hp} {env : Env} {fp : List Addr} {v : V} {r : R} (x : SOk X W G B d D σ) (rr : RR X.K G B env fp σ H) (e : Ext H B H' B') (w : VOk X.K H fp B' H' v r) (q : d.rt r.out) : D.rt v H' := by
  have y := rr.ext e
  cases r with
  | v z => exact x.rt v H' B' (.v z) [] e.le y.bh y.gh y.gb (by simp) (by simp) w q
  | t o =>
    obtain ⟨f, w, nf, hf⟩ := w
    exact x.rt v H' B' (.t o) f e.le y.bh y.gh y.gb (fun a m => ⟨(hf a m).2, rr.gh.none (hf a m).1⟩) nf w q
  | b o =>
    obtain ⟨f, w, hs⟩ := w
    exact x.rt v H' B' (.t o) f e.le y.bh y.gh y.gb (fun a m => y.fb a (hs.subset m)) (y.nd.sublist hs) w q

/-! ### blocks -/
def wNil : WS := fun D env => D.nx env
def wSq (s r : WS) : WS := fun D env => ∃ J : Env → Prop, s { D with nx := J } env ∧ ∀ e, J e → r D e
theorem wSq_of {s r : WS} {D : En} {env : Env} (h : s { D with nx := r D } env) : wSq s r D env := ⟨_, h, fun _ h => h⟩
theorem dss_nil : DSs X W G [] wNil := PSsi pss_nil fun D σ H ⟨B, env, fp, d, rr, hm, x⟩ => x.nx σ H B env fp (.refl _) rr hm
theorem dss_cons (h1 : DS X W G st m1) (h2 : DSs X W G rest m2) : DSs X W G (st :: rest) (wSq m1 m2) := by
  refine PSsi (pss_cons h1 h2) fun D σ H ⟨B, env, fp, d, rr, ⟨J, hm, hj⟩, x⟩ => ?_
  refine ⟨B, env, fp, { d with nx := J }, rr, hm, ⟨fun σ' H' B' env' fp' l rr' j => ?_, x.bk, x.ct, x.rt, x.ex⟩⟩
  exact ⟨B', env', fp', d, rr', hj _ j, x.later l⟩
theorem dss_one (h1 : DS X W G st m) : DSs X W G [st] m := pss_one h1
/-- names whose things are let be still ahead of a statement -/
def frzAt (env : Env) (i : Nat) : Env := match env[i]? with
  | some (some (.raw _)) => env
  | some (some o) => env.set i (some (.fro o.frz))
  | _ => env
def wFrz (is : List Nat) (s : WS) : WS := fun D env => s D (is.foldl frzAt env)
theorem RR.frzAll {K : K0} {H : Hp} : ∀ (is : List Nat) {env : Env} {fp : List Addr} {B : Hp}, RR K G B env fp σ H → ∃ B' fp', Le B B' ∧ RR K G B' (is.foldl frzAt env) fp' σ H
  | [], _, fp, B, x => ⟨B, fp, .refl _, x⟩
  | i :: is, env, fp, B, x => by
    have one : ∃ B' fp', Le B B' ∧ RR K G B' (frzAt env i) fp' σ H := by
      unfold frzAt
      split
      · exact ⟨B, fp, .refl _, x⟩
      · rename_i o hr e
        exact x.frz e fun a q => hr a q
      · exact ⟨B, fp, .refl _, x⟩
    obtain ⟨B1, f1, l1, x1⟩ := one
    obtain ⟨B2, f2, l2, x2⟩ := RR.frzAll is x1
    exact ⟨B2, f2, l1.trans l2, x2⟩
theorem ds_frz (is : List Nat) (h : DS X W G st m) : DS X W G st (wFrz is m) := PSi h fun D σ H ⟨B, env, fp, d, rr, hm, x⟩ => by
  obtain ⟨B', fp', l, y⟩ := rr.frzAll is
  exact ⟨B', _, fp', d, y, hm, x.later l⟩

/-! ### small statements -/
def wPass : WS := fun D env => D.nx env
def wBrk : WS := fun D env => D.bk env
def wCnt : WS := fun D env => D.ct env
theorem ds_pass : DS X W G (.Pass pos) wPass := PSi ps_pass fun D σ H ⟨B, env, fp, d, rr, hm, x⟩ => x.nx σ H B env fp (.refl _) rr hm
theorem ds_break : DS X W G (.Break pos) wBrk := PSi ps_break fun D σ H ⟨B, env, fp, d, rr, hm, x⟩ => x.bk σ H B env fp (.refl _) rr hm
theorem ds_continue : DS X W G (.Continue pos) wCnt := PSi ps_continue fun D σ H ⟨B, env, fp, d, rr, hm, x⟩ => x.ct σ H B env fp (.refl _) rr hm
def wRet (t : WE) : WS := fun D env => t env (fun r => D.rt r.out) (fun n => D.ex n env)
def wRetN : WS := fun D _ => D.rt (.v .none)
theorem ds_ret (h : DE X W G e t) : DS X W G (.Return (some e) pos) (wRet t) := PSi (ps_ret h) fun D σ H ⟨B, env, fp, d, rr, hm, x⟩ =>
  ⟨B, env, fp, _, _, rr, hm, fun v H' B' r e' w q => x.ret rr e' w q, x.x rr⟩
theorem ds_retN : DS X W G (.Return none pos) wRetN := PSi ps_retN fun D σ H ⟨B, env, fp, d, rr, hm, x⟩ =>
  x.rt .non H B (.v .none) [] (.refl _) rr.bh rr.gh rr.gb (by simp) (by simp) .non hm
def wAsg (i : Nat) (t : WE) : WS := fun D env => t env (fun r => r.st ∧ D.nx (env.set i (some r.o))) (fun n => D.ex n env)
theorem asg_ok {i : Nat} {te : TE} (ht : ∀ σ H QV, tD X W G t σ H QV → te σ H QV) (H : Hp) (h : tDS X W G (wAsg i t) D σ H) : tAsg te (gName i) D σ H := by
  obtain ⟨B, env, fp, d, rr, hm, x⟩ := h
  refine ht σ H _ ⟨B, env, fp, _, _, rr, hm, fun v H' B' r e' w ⟨s, q⟩ => ?_, x.x rr⟩
  obtain ⟨fp', y⟩ := rr.asg e' w s i
  exact x.nx _ H' B' _ fp' e'.le y q
theorem ds_set {i : Nat} {y : Str} {pos' : Pos} (hN : X.N.Nodup) (hi : X.N[i]? = some y) (hx : Loc X.env.scope y) (he : DE X W G e t) (hs : swapsWith e (some (.Name y pos')) pos.line X.env = pure false)
    (hf : X.fn y = true ∨ X.env.scope.names.lookup y = some .local) : DS X W G (.Assign [.Name y pos'] e pos) (wAsg i t) :=
  PSi (ps_set hN hi hx he hs hf) fun D σ H h => asg_ok (fun _ _ _ h => h) H h
/-- .. to be still from here on -/
def wLet (i : Nat) (t : WE) : WS := fun D env => t env (fun r => r.st ∧ D.nx (env.set i (some (.fro r.d)))) (fun n => D.ex n env)
theorem let_ok {i : Nat} {te : TE} (ht : ∀ σ H QV, tD X W G t σ H QV → te σ H QV) (H : Hp) (h : tDS X W G (wLet i t) D σ H) : tAsg te (gName i) D σ H := by
  obtain ⟨B, env, fp, d, rr, hm, x⟩ := h
  refine ht σ H _ ⟨B, env, fp, _, _, rr, hm, fun v H' B' r e' w ⟨s, q⟩ => ?_, x.x rr⟩
  obtain ⟨B2, e2, l2, rp⟩ := w.keep e' s
  obtain ⟨fp', y⟩ := rr.asg (r := .v r.d) e2 rp True.intro i
  exact x.nx _ H' B2 _ fp' e2.le y q
theorem ds_let {i : Nat} {y : Str} {pos' : Pos} (hN : X.N.Nodup) (hi : X.N[i]? = some y) (hx : Loc X.env.scope y) (he : DE X W G e t) (hs : swapsWith e (some (.Name y pos')) pos.line X.env = pure false)
    (hf : X.fn y = true ∨ X.env.scope.names.lookup y = some .local) : DS X W G (.Assign [.Name y pos'] e pos) (wLet i t) :=
  PSi (ps_set hN hi hx he hs hf) fun D σ H h => let_ok (fun _ _ _ h => h) H h
/-- an expression alone -/
def wExp (t : WE) : WS := fun D env => t env (fun _ => D.nx env) (fun n => D.ex n env)
theorem ds_expr (he : DE X W G e t) (hs : swapsWith e none pos.line X.env = pure false) : DS X W G (.Expr e pos) (wExp t) :=
  PSi (ps_expr he hs) fun D σ H ⟨B, env, fp, d, rr, hm, x⟩ => ⟨B, env, fp, _, _, rr, hm, fun v H' B' r e' w q => x.nx _ H' B' env fp e'.le (rr.ext e') q, x.x rr⟩
def wIf (c : WT) (a b : WS) : WS := fun D env => c env (fun k => if k = true then a D env else b D env) (fun n => D.ex n env)
theorem ds_if {c : Expr} {a b : List Stmt} {tc : WT} (hc : DT X W G c tc) (ha : DSs X W G a m1) (hb : DSs X W G b m2) : DS X W G (.If c a b pos) (wIf tc m1 m2) := by
  refine PSi (ps_if hc ha hb) fun D σ H ⟨B, env, fp, d, rr, hm, x⟩ => ?_
  refine ⟨B, env, fp, _, _, rr, hm, fun k H' B' e' q => ?_, x.x rr⟩
  cases k with
  | true => rw [if_pos rfl] at q ⊢; exact ⟨B', env, fp, d, rr.ext e', q, x.later e'.le⟩
  | false => rw [if_neg (by simp)] at q ⊢; exact ⟨B', env, fp, d, rr.ext e', q, x.later e'.le⟩
/-- n += e, ints -/
def wAug (i : Nat) (t : WE) : WS := fun D env => ∃ k, env[i]? = some (some (.fro (.int k))) ∧ t env (fun r => ∃ j, r.d = .int j ∧ D.nx (env.set i (some (.fro (.int (k + j)))))) (fun n => D.ex n env)
theorem ip_addI : PIp X .Add (fun x y H Q => ∃ i j, x = .int i ∧ y = .int j ∧ Q (.int (i + j)) H) := iop_add
theorem ds_aug {i : Nat} {y : Str} {pos' : Pos} (hN : X.N.Nodup) (hi : X.N[i]? = some y) (hx : Loc X.env.scope y) (he : DE X W G e t)
    (hf : X.fn y = true ∨ X.env.scope.names.lookup y = some .local) : DS X W G (.AugAssign (.Name y pos') .Add e pos) (wAug i t) := by
  refine PSi (ps_aug hN hi hx he ip_addI hf) fun D σ H ⟨B, env, fp, d, rr, ⟨k, h0, hm⟩, x⟩ => ?_
  obtain ⟨v, g, h1, h2, h3⟩ := rr.own.get h0
  refine ⟨v, h1, B, env, fp, _, _, rr, hm, fun u H' B' r e' w ⟨j, q2, q3⟩ => ?_, x.x rr⟩
  cases h2 with
  | fro rk =>
    have hj := w.now e'
    rw [q2] at hj
    refine ⟨k, j, rk.int_inv, hj.int_inv, ?_⟩
    obtain ⟨fp', y⟩ := rr.asg (v := .int (k + j)) (r := .v (.int (k + j))) e' (.int _) True.intro i
    exact x.nx _ H' B' _ fp' e'.le y q3
/-- raise X('..') -/
def wRaise (n : Str) : WS := fun D env => D.ex n env
theorem ds_raise {n : Str} {C : Addr} (hc : X.calm = true) (tk : Takes X W) (gC : X.mg n = some (.ref C)) (he : PMk X e (fun _ H Q => Q (.ref C) none H)) : DS X W G (.Raise (some e) none pos) (wRaise n) :=
  PSi (ps_raise hc tk he) fun D σ H ⟨B, env, fp, d, rr, hm, x⟩ => x.ex n (.ref C) σ H B env fp (.refl _) rr hm gC
end
end DL

set_option Elab.async false
set_option linter.all false
set_option maxRecDepth 100000
set_option maxHeartbeats 1000000
/-! DL8: changes of own things, targets, loops, comprehensions over data. -/
namespace DL
open PySem L2 PyProof.Rows

/-! ### own lists and dicts changed at a name -/
section
variable {X : Cx} {W : WX} {G : Hp} {e : Expr} {t : WE} {pos : Pos}
theorem own_ref {K : K0} {B H : Hp} {v : V} {o : O} {g : List Addr} (x : Own K B H v o g) : (∃ d, o = .fro d) ∨ ∃ a, v = .ref a ∧ a ∈ g := by
  cases x with
  | fro r => exact .inl ⟨_, rfl⟩
  | lst h r => exact .inr ⟨_, rfl, by simp⟩
  | dic h r => exact .inr ⟨_, rfl, by simp⟩
  | lsts h r => exact .inr ⟨_, rfl, by simp⟩
/-- what an append makes of an own thing -/
def appO : O → R → (O → Prop) → Prop
  | .lst ds, r, Q => ds.length < sizeLine ∧ Q (.lst (ds ++ [r.d]))
  | .lsts os, r, Q => os.length < sizeLine ∧ Q (.lsts (os ++ [r.o]))
  | _, _, _ => False
def isLst : O → Prop
  | .lst _ => True
  | .lsts _ => True
  | _ => False
@[simp] theorem isLst_lst (ds : List D) : isLst (.lst ds) = True := rfl
@[simp] theorem isLst_lsts (ds : List O) : isLst (.lsts ds) = True := rfl
@[simp] theorem appO_lst (ds : List D) (r : R) (Q : O → Prop) : appO (.lst ds) r Q = (ds.length < sizeLine ∧ Q (.lst (ds ++ [r.d]))) := rfl
@[simp] theorem appO_lsts (os : List O) (r : R) (Q : O → Prop) : appO (.lsts os) r Q = (os.length < sizeLine ∧ Q (.lsts (os ++ [r.o]))) := rfl
def wApp (i : Nat) (t : WE) : WS := fun D env => ∃ o, env[i]? = some (some o) ∧ isLst o ∧ t env (fun r => r.st ∧ appO o r fun o' => D.nx (env.set i (some o'))) (fun n => D.ex n env)
theorem upd_keep {H : Hp} {a b : Addr} {u o : HO} (h : H b = some o) (n : b ≠ a) : upd H a u b = some o := by rw [upd_ne n]; exact h
/-- a temp's addresses are none of the frame's -/
theorem RR.apart {K : K0} {B Hs : Hp} {env : Env} {fp g : List Addr} {σ : L2.St} {B' : Hp} (x : RR K G B env fp σ Hs) (h : ∀ a ∈ g, Hs a = none ∧ B' a = none) : ∀ a ∈ g, a ∉ fp ∧ B' a = none ∧ G a = none := fun a m =>
  ⟨fun z => (x.own.dom a z).elim fun u hu => (by rw [(h a m).1] at hu; cases hu), (h a m).2, x.gh.none (h a m).1⟩
theorem app_core {B H Hs Bs : Hp} {env : Env} {fp : List Addr} {σ : L2.St} {D : Ends} {d : En} {r : R} {v : V} {i : Nat} {o : O} (rr0 : RR X.K G Bs env fp σ Hs) (e' : Ext Hs Bs H B) (w : VOk X.K Hs fp B H v r) (s : r.st) (x : SOk X W G Bs d D σ)
    (hi : env[i]? = some (some o)) (ha : appO o r fun o' => d.nx (env.set i (some o'))) :
    ∃ vi, σ[i]? = some (some vi) ∧ rAppend vi [v] H (fun _ H1 => D.nx σ H1) := by
  have rr := rr0.ext e'
  cases o with
  | lst ds =>
    obtain ⟨B2, e2, l2, rp⟩ := w.keep e' s
    have rr2 := rr0.ext e2
    obtain ⟨vi, g, h1, h2, h3, h4, h5⟩ := rr2.put hi
    cases h2 with
    | @lst a vs _ hl rl =>
      refine ⟨_, h1, a, vs, v, rfl, rfl, hl, by rw [rl.length]; exact ha.1, ?_⟩
      have na : B2 a = none := (h4 a (by simp)).2.1
      obtain ⟨fp', y⟩ := h5 B2 (upd H a (.lst (vs ++ [v]))) (.lst (ds ++ [r.d])) [a] (.refl _)
        (fun b u q => upd_keep (rr2.bh b u q) (ne_of_none q na)) (fun b u n q => upd_keep q fun z => n (by simp [z])) (fun _ _ _ _ q => q)
        (.lst upd_same (rl.append (.one rp))) (by simp) (fun b m => ⟨fun _ => m, (h4 b m).2⟩)
      exact x.nx σ _ B2 _ fp' e2.le y ha.2
  | lsts os =>
    obtain ⟨vi, g, h1, h2, h3, h4, h5⟩ := rr.put hi
    cases h2 with
    | @lsts a vs _ f hl rl =>
      refine ⟨_, h1, a, vs, v, rfl, rfl, hl, by rw [rl.length]; exact ha.1, ?_⟩
      have na : B a = none := (h4 a (by simp)).2.1
      have key : ∀ g', Own X.K B H v r.o g' → g'.Nodup → (∀ b ∈ g', b ∉ fp ∧ B b = none ∧ G b = none) → D.nx σ (upd H a (.lst (vs ++ [v]))) := fun g' wg ng hg => by
        have dj : ∀ b ∈ g', b ∉ a :: f := fun b m z => (hg b m).1 (h4 b z).1
        have nd2 : (a :: (f ++ g')).Nodup := by
          obtain ⟨n1, n2⟩ := List.nodup_cons.mp h3
          refine List.nodup_cons.mpr ⟨fun m => ?_, List.nodup_append.mpr ⟨n2, ng, fun b m c m' e => dj c m' (e ▸ List.mem_cons_of_mem _ m)⟩⟩
          rcases List.mem_append.mp m with m | m
          · exact n1 m
          · exact dj a m List.mem_cons_self
        have hne : ∀ b ∈ f ++ g', upd H a (.lst (vs ++ [v])) b = H b := fun b m => upd_ne fun z => by
          subst z
          exact (List.nodup_cons.mp nd2).1 m
        have t1 := rl.mono (H' := upd H a (.lst (vs ++ [v]))) (Le.refl B) fun b m => hne b (List.mem_append_left _ m)
        have t2 := wg.mono (H' := upd H a (.lst (vs ++ [v]))) (Le.refl B) fun b m => hne b (List.mem_append_right _ m)
        have t3 := t1.append (OwnAll.cons t2 .nil)
        rw [List.append_nil] at t3
        obtain ⟨fp', y⟩ := h5 B (upd H a (.lst (vs ++ [v]))) (.lsts (os ++ [r.o])) (a :: (f ++ g')) (.refl _)
          (fun b u q => upd_keep (rr.bh b u q) (ne_of_none q na)) (fun b u n q => upd_keep q fun z => n (by simp [z])) (fun _ _ _ _ q => q)
          (.lsts upd_same t3) nd2 (fun b m => by
            rcases List.mem_cons.mp m with z | z
            · subst z; exact ⟨fun _ => List.mem_cons_self, (h4 b List.mem_cons_self).2⟩
            · rcases List.mem_append.mp z with z | z
              · exact ⟨fun _ => List.mem_cons_of_mem _ z, (h4 b (List.mem_cons_of_mem _ z)).2⟩
              · exact ⟨fun q => absurd q (hg b z).1, (hg b z).2⟩)
        exact x.nx σ _ B _ fp' e'.le y ha.2
      cases r with
      | v d => exact key [] (.fro w) (by simp) fun b m => absurd m (by simp)
      | t o => obtain ⟨g', w, ng, hg⟩ := w; exact key g' w ng (rr0.apart hg)
      | b o => exact s.elim
  | _ => exact (show False from ha).elim
/-- x.append(e), x a name -/
theorem ds_app {i : Nat} {ob : Expr} {apos cpos : Pos} (ho : PE X ob (tVar i)) (he : DE X W G e t)
    (hbase : attributeBase ob "append" X.env (eval ob X.env) = eval ob X.env)
    (hfew : ((backTo cpos (starEach [e] X.env)).all (fun x => !x.1) && (backToKw cpos (keywordEach [] X.env)).all (fun x => x.1.isSome)
      && decide ([e].length + ([] : List Keyword).length + (if ([] : List Keyword).isEmpty then 0 else 1) < 30)) = true)
    (hline : (apos.endLine == cpos.line) = true) (hs : starEach [e] X.env = (false, eval e X.env) :: starEach [] X.env) (hplain : (backTo cpos (starEach [] X.env)).any (·.1) = false)
    (hsw : swapsWith (.Call (.Attribute ob "append" apos) [e] [] cpos) none pos.line X.env = pure false) :
    DS X W G (.Expr (.Call (.Attribute ob "append" apos) [e] [] cpos) pos) (wApp i t) := by
  refine PSi (ps_expr (pe_bm PySem.F.plainAttrs_list PySem.F.slot_list_append PySem.F.type_list_append mt_append ho (pa_cons he pa_nil hs) hbase hfew hline hs hplain) hsw) fun D σ H ⟨B, env, fp, d, rr, ⟨o, hi, hl, hm⟩, x⟩ => ?_
  obtain ⟨v, g, h1, h2, h3⟩ := rr.own.get hi fun a q => by subst q; exact hl
  have ty : tyV X.K "list" v H := by
    cases h2 with
    | lst h r => exact .inl ⟨rfl, _, .inl (.inl h)⟩
    | lsts h r => exact .inl ⟨rfl, _, .inl (.inl h)⟩
    | _ => exact hl.elim
  refine ⟨v, h1, ty, B, env, fp, _, _, rr, hm, fun u H' B' r e' w ⟨s, q⟩ => ?_, x.x rr⟩
  obtain ⟨vi, z1, z2⟩ := app_core rr e' w s x hi q
  rw [h1] at z1
  cases z1
  exact z2
end
end DL

set_option Elab.async false
set_option linter.all false
set_option maxRecDepth 100000
set_option maxHeartbeats 1000000
/-! DL9: targets, what is walked, loops, comprehensions over data. -/
namespace DL
open PySem L2 PyProof.Rows

/-! ### targets -/
abbrev WG := D → Env → (Env → Prop) → Prop
abbrev WGs := List D → Env → (Env → Prop) → Prop
/-- the slots outside vs are as they were -/
def Touch (vs : List Nat) (σ σ' : L2.St) : Prop := σ'.length = σ.length ∧ ∀ i, i ∉ vs → σ'[i]? = σ[i]?
theorem Touch.refl (vs : List Nat) (σ : L2.St) : Touch vs σ σ := ⟨rfl, fun _ _ => rfl⟩
theorem Touch.trans {vs : List Nat} {a b c : L2.St} (h : Touch vs a b) (g : Touch vs b c) : Touch vs a c := ⟨g.1.trans h.1, fun i n => (g.2 i n).trans (h.2 i n)⟩
theorem wipe_get : ∀ (vs : List Nat) (σ : L2.St) (i : Nat), (wipe σ vs)[i]? = if i ∈ vs then (if i < σ.length then some none else none) else σ[i]?
  | [], σ, i => by simp [wipe]
  | v :: vs, σ, i => by
    unfold wipe
    have ih := wipe_get vs σ i
    by_cases h : v = i
    · subst h
      rw [if_pos List.mem_cons_self]
      by_cases hl : v < σ.length
      · rw [List.getElem?_set_self (by rw [wipe_length]; exact hl), if_pos hl]
      · rw [if_neg hl, List.getElem?_eq_none (by rw [List.length_set, wipe_length]; omega)]
    · rw [List.getElem?_set_ne h, ih]
      have : i ∈ v :: vs ↔ i ∈ vs := by simp [Ne.symm h]
      simp only [this]
theorem Touch.wipe {vs : List Nat} {σ σ' : L2.St} (h : Touch vs σ σ') : L2.wipe σ' vs = L2.wipe σ vs := by
  apply List.ext_getElem?
  intro i
  rw [wipe_get, wipe_get, h.1]
  split
  · rfl
  · rename_i n; exact h.2 i n

section
variable (X : Cx) (G : Hp)
def tDG (vs : List Nat) (g : WG) : TG := fun v σ H QV => ∃ B env fp d Q, RR X.K G B env fp σ H ∧ Rep X.K B v d ∧ g d env Q ∧ ∀ σ' env' fp', RR X.K G B env' fp' σ' H → Touch vs σ σ' → Q env' → QV σ' H
def tDGs (vs : List Nat) (g : WGs) : TGs := fun us σ H QV => ∃ B env fp ds Q, RR X.K G B env fp σ H ∧ RepAll X.K B us ds ∧ g ds env Q ∧ ∀ σ' env' fp', RR X.K G B env' fp' σ' H → Touch vs σ σ' → Q env' → QV σ' H
def DG (vs : List Nat) (tg : Expr) (g : WG) : Prop := PG X tg (tDG X G vs g)
def DGs (vs : List Nat) (ts : List Expr) (g : WGs) : Prop := PGs X ts (tDGs X G vs g)
end
def gN (i : Nat) : WG := fun d env Q => Q (env.set i (some (.fro d)))
def gsN : WGs := fun ds env Q => ds = [] ∧ Q env
def gsC (g : WG) (r : WGs) : WGs := fun ds env Q => ∃ d ds', ds = d :: ds' ∧ g d env fun env' => r ds' env' Q
def gT (n : Nat) (g : WGs) : WG := fun d env Q => ∃ ds, d = .tuple ds ∧ ds.length = n ∧ g ds env Q
section
variable {X : Cx} {G : Hp} {vs : List Nat} {e : Expr} {es : List Expr} {g : WG} {gs : WGs} {pos : Pos}
theorem PGi {t t' : TG} (h : PG X e t) (f : ∀ v σ H Q, t' v σ H Q → t v σ H Q) : PG X e t' := ⟨fun pins s σ H v u Q I r w => h.run pins s σ H v u Q I r (f v σ H Q w)⟩
theorem PGsi {t t' : TGs} (h : PGs X es t) (f : ∀ v σ H Q, t' v σ H Q → t v σ H Q) : PGs X es t' := ⟨fun pins s σ H v u Q I r w => h.run pins s σ H v u Q I r (f v σ H Q w)⟩
theorem dg_name {i : Nat} {x : Str} (hv : i ∈ vs) (hN : X.N.Nodup) (hi : X.N[i]? = some x) (hx : Loc X.env.scope x) (hf : X.fn x = true ∨ X.env.scope.names.lookup x = some .local) : DG X G vs (.Name x pos) (gN i) := by
  refine PGi (pg_name hN hi hx hf) fun v σ H QV ⟨B, env, fp, d, Q, rr, rp, hm, hq⟩ => ?_
  obtain ⟨fp', y⟩ := rr.asg (r := .v d) (.refl rr.bh) rp True.intro i
  refine hq _ _ fp' y ⟨by simp, fun j n => ?_⟩ hm
  rw [List.getElem?_set_ne]
  intro q; subst q; exact n hv
theorem dgs_nil : DGs X G vs [] gsN := PGsi pgs_nil fun us σ H QV ⟨B, env, fp, ds, Q, rr, rp, ⟨e, hm⟩, hq⟩ => by
  subst e
  cases rp
  exact ⟨rfl, hq σ env fp rr (.refl _ _) hm⟩
theorem dgs_cons (h1 : DG X G vs e g) (h2 : DGs X G vs es gs) (hs : (assignEach (e :: es) X.env).map (·.2) = assign e X.env :: (assignEach es X.env).map (·.2)) : DGs X G vs (e :: es) (gsC g gs) := by
  refine PGsi (pgs_cons h1 h2 hs) fun us σ H QV ⟨B, env, fp, ds, Q, rr, rp, ⟨d, ds', e1, hm⟩, hq⟩ => ?_
  subst e1
  cases rp with
  | cons r t =>
    refine ⟨_, _, rfl, B, env, fp, d, _, rr, r, hm, fun σ1 env1 fp1 rr1 t1 q1 => ?_⟩
    exact ⟨B, env1, fp1, ds', Q, rr1, t, q1, fun σ2 env2 fp2 rr2 t2 q2 => hq σ2 env2 fp2 rr2 (t1.trans t2) q2⟩
theorem dg_tup {k n : Nat} (hc : X.calm = true) (h : DGs X G vs es gs) (hn : (assignEach es X.env).length = n) (hst : (assignEach es X.env).findIdx? (·.1) = none) : DG X G vs (.Tuple es k pos) (gT n gs) := by
  refine PGi (pg_tup hc h hn hst) fun v σ H QV ⟨B, env, fp, d, Q, rr, rp, ⟨ds, e1, hl, hm⟩, hq⟩ => ?_
  subst e1
  obtain ⟨a, us, ev, s, t⟩ := rp.tup_inv
  exact ⟨a, us, ev, rr.bh.sqT s, by rw [t.length]; exact hl, B, env, fp, ds, Q, rr, t, hm, hq⟩
end

/-! ### what is walked -/
/-- the iterator J gives the things ds, one by one -/
structure Walk (K : K0) (B : Hp) (J : It) (ds : List D) : Prop where
  go : ∀ i H B1, Le B B1 → Le B1 H → i < ds.length → J.go i H
  stop : ∀ i H B1, Le B B1 → Le B1 H → ds.length ≤ i → J.stop i H
  yld : ∀ i H x H' B1, i < ds.length → Le B B1 → Le B1 H → J.yld i H x H' → ∃ d B2, ds[i]? = some d ∧ Ext H B1 H' B2 ∧ Rep K B2 x d
/-- .. while all that stood at its begin stands -/
structure WalkH (K : K0) (B H0 : Hp) (J : It) (ds : List D) : Prop where
  go : ∀ i H B1, Le B B1 → Le B1 H → Le H0 H → i < ds.length → J.go i H
  stop : ∀ i H B1, Le B B1 → Le B1 H → Le H0 H → ds.length ≤ i → J.stop i H
  yld : ∀ i H x H' B1, i < ds.length → Le B B1 → Le B1 H → Le H0 H → J.yld i H x H' → ∃ d B2, ds[i]? = some d ∧ Ext H B1 H' B2 ∧ Rep K B2 x d
theorem Walk.toH {K : K0} {B H0 : Hp} {J : It} {ds : List D} (w : Walk K B J ds) : WalkH K B H0 J ds :=
  ⟨fun i H B1 l1 l2 _ h => w.go i H B1 l1 l2 h, fun i H B1 l1 l2 _ h => w.stop i H B1 l1 l2 h, fun i H x H' B1 h l1 l2 _ y => w.yld i H x H' B1 h l1 l2 y⟩
abbrev WI := Env → (List D → Prop) → (Str → Prop) → Prop
section
variable (X : Cx) (W : WX) (G : Hp)
def tDI (m : WI) : TI := fun σ H R => ∃ B env fp Q E, RR X.K G B env fp σ H ∧ m env Q E ∧ (∀ J H' B' ds, Ext H B H' B' → Walk X.K B' J ds → Q ds → R J H') ∧ XOk X.mg W H σ E
def DI (tg iter : Expr) (m : WI) : Prop := PI X tg iter (tDI X W G m)
end
section
variable {X : Cx} {W : WX} {G : Hp} {tg iter e a b : Expr} {m ma mb : WE} {pos : Pos}
def tDIc (X : Cx) (W : WX) (G : Hp) (m : WI) : TI := fun σ H R => ∃ B env fp Q E, RR X.K G B env fp σ H ∧ m env Q E ∧ (∀ J H' B' ds, Ext H B H' B' → WalkH X.K B' H' J ds → Q ds → R J H') ∧ XOk X.mg W H σ E
def DIc (X : Cx) (W : WX) (G : Hp) (tg iter : Expr) (m : WI) : Prop := PI X tg iter (tDIc X W G m)
theorem PIi {t t' : TI} (h : PI X tg iter t) (f : ∀ σ H Q, t' σ H Q → t σ H Q) : PI X tg iter t' := ⟨fun pins s σ H R I w => h.run pins s σ H R I (f σ H R w)⟩
theorem walk_list {K : K0} {B : Hp} {a : Addr} {vs : List V} {ds : List D} (s : SqL K B a vs) (r : RepAll K B vs ds) : Walk K B (Itl K a) ds where
  go := fun i H B1 l1 l2 h => by
    have hl : i < vs.length := by rw [r.length]; exact h
    exact ⟨vs, vs[i], (l1.trans l2).sqL s, by simp [hl]⟩
  stop := fun i H B1 l1 l2 h => ⟨vs, (l1.trans l2).sqL s, by rw [r.length]; exact h⟩
  yld := fun i H x H' B1 hlt l1 l2 ⟨e, y⟩ => by
    subst e
    obtain ⟨d, h1, h2⟩ := r.getV (y vs ((l1.trans l2).sqL s))
    exact ⟨d, B1, h1, .refl l2, h2.mono l1⟩
theorem walk_tup {K : K0} {B : Hp} {a : Addr} {vs : List V} {ds : List D} (s : SqT K B a vs) (r : RepAll K B vs ds) : Walk K B (Itt K a) ds where
  go := fun i H B1 l1 l2 h => by
    have hl : i < vs.length := by rw [r.length]; exact h
    exact ⟨vs, vs[i], (l1.trans l2).sqT s, by simp [hl]⟩
  stop := fun i H B1 l1 l2 h => ⟨vs, (l1.trans l2).sqT s, by rw [r.length]; exact h⟩
  yld := fun i H x H' B1 hlt l1 l2 ⟨e, y⟩ => by
    subst e
    obtain ⟨d, h1, h2⟩ := r.getV (y vs ((l1.trans l2).sqT s))
    exact ⟨d, B1, h1, .refl l2, h2.mono l1⟩
def rgD (lo : Int) (n : Nat) : List D := (List.range n).map fun (i : Nat) => .int (lo + (i : Int))
theorem rgD_len (lo : Int) (n : Nat) : (rgD lo n).length = n := by simp [rgD]
theorem walk_range {K : K0} {B : Hp} (lo : Int) (n : Nat) : Walk K B (Itr lo n) (rgD lo n) where
  go := fun i H B1 l1 l2 h => by rw [rgD_len] at h; exact h
  stop := fun i H B1 l1 l2 h => by rw [rgD_len] at h; exact h
  yld := fun i H x H' B1 hlt l1 l2 y => by
    obtain ⟨e1, e2⟩ := y
    subst e1 e2
    rw [rgD_len] at hlt
    exact ⟨.int (lo + (i : Int)), B1, by unfold rgD; rw [List.getElem?_map, List.getElem?_range hlt]; rfl, .refl l2, .int _⟩
/-- a list: still -/
def wiL (t : WE) : WI := fun env Q E => t env (fun r => r.st ∧ ∃ ds, r.d = .list ds ∧ Q ds) E
def wiT (t : WE) : WI := fun env Q E => t env (fun r => ∃ ds, r.d = .tuple ds ∧ Q ds) E
theorem dic_of {m : WI} (h : DI X W G tg iter m) : DIc X W G tg iter m := PIi h fun σ H R ⟨B, env, fp, Q, E, rr, hm, hq, hx⟩ => ⟨B, env, fp, Q, E, rr, hm, fun J H' B' ds e w q => hq J H' B' ds e w.toH q, hx⟩
theorem walkH_list {K : K0} {B H0 : Hp} {a : Addr} {vs : List V} {ds : List D} (s : SqL K H0 a vs) (r : RepAll K B vs ds) : WalkH K B H0 (Itl K a) ds where
  go := fun i H B1 l1 l2 l3 h => by
    have hl : i < vs.length := by rw [r.length]; exact h
    exact ⟨vs, vs[i], l3.sqL s, by simp [hl]⟩
  stop := fun i H B1 l1 l2 l3 h => ⟨vs, l3.sqL s, by rw [r.length]; exact h⟩
  yld := fun i H x H' B1 hlt l1 l2 l3 ⟨e, y⟩ => by
    subst e
    obtain ⟨d, h1, h2⟩ := r.getV (y vs (l3.sqL s))
    exact ⟨d, B1, h1, .refl l2, h2.mono l1⟩
/-- a list that is looked at -/
def wiLB (t : WE) : WI := fun env Q E => t env (fun r => r.sh ∧ ∃ ds, r.d = .list ds ∧ Q ds) E
theorem dic_listB (h : DE X W G e m) : DIc X W G tg e (wiLB m) := by
  refine PIi (pi_list h) fun σ H R ⟨B, env, fp, Q, E, rr, hm, hq, hx⟩ => ?_
  refine ⟨B, env, fp, _, E, rr, hm, fun v H1 B1 r e1 w ⟨s, ds, ed, q⟩ => ?_, hx⟩
  obtain ⟨B2, e2, l2, rp⟩ := w.view e1 s
  rw [ed] at rp
  obtain ⟨a, vs, ev, sv, t⟩ := rp.list e2.bh
  exact ⟨a, ev, ⟨vs, sv⟩, hq _ H1 B2 ds e2 (walkH_list sv t) q⟩
theorem di_list (h : DE X W G e m) : DI X W G tg e (wiL m) := by
  refine PIi (pi_list h) fun σ H R ⟨B, env, fp, Q, E, rr, hm, hq, hx⟩ => ?_
  refine ⟨B, env, fp, _, E, rr, hm, fun v H1 B1 r e1 w ⟨s, ds, ed, q⟩ => ?_, hx⟩
  obtain ⟨B2, e2, l2, rp⟩ := w.keep e1 s
  rw [ed] at rp
  obtain ⟨a, vs, ev, sv, t⟩ := rp.list_inv
  exact ⟨a, ev, ⟨vs, e2.bh.sqL sv⟩, hq _ H1 B2 ds e2 (walk_list sv t) q⟩
theorem di_tup (h : DE X W G e m) : DI X W G tg e (wiT m) := by
  refine PIi (pi_tup h) fun σ H R0 ⟨B, env, fp, Q, E, rr, hm, hq, hx⟩ => ?_
  refine ⟨B, env, fp, _, E, rr, hm, fun v H1 B1 r e1 w ⟨ds, ed, q⟩ => ?_, hx⟩
  have s : r.sh := by
    cases r with
    | v d => exact True.intro
    | t o => exact True.intro
    | b o => cases o <;> first | exact True.intro | (rw [R.d_b, O.frz_lsts] at ed; cases ed)
  obtain ⟨B2, e2, l2, rp⟩ := w.view e1 s
  rw [ed] at rp
  obtain ⟨a, vs, ev, sv, t⟩ := rp.tupRep.tup_inv
  exact ⟨a, ev, ⟨vs, e2.bh.sqT sv⟩, hq _ H1 B2 ds e2 (walk_tup sv t) q⟩
def wiR1 (t : WE) : WI := fun env Q E => t env (fun r => ∃ j, r.d = .int j ∧ j < 2 ^ 62 ∧ -(2 ^ 62) ≤ j ∧ Q (rgD 0 j.toNat)) E
def wiR2 (p q : WE) : WI := fun env Q E => p env (fun x => q env (fun y => ∃ i j, x.d = .int i ∧ y.d = .int j ∧ (-(2 ^ 62) ≤ i ∧ i < 2 ^ 62 ∧ -(2 ^ 62) ≤ j ∧ j < 2 ^ 62) ∧ Q (rgD i (j - i).toNat)) E) E
theorem di_range1 {p : Pos} (hg : Gl X "range") (hm : X.mg "range" = none) (ha : DE X W G a ma) (hs : starEach [a] X.env = [(false, eval a X.env)]) (hs2 : starEach [a] X.env = (false, eval a X.env) :: starEach [] X.env) : DI X W G tg (.Call (.Name "range" p) [a] [] pos) (wiR1 ma) := by
  refine PIi (pi_range1 hg hm (pa_cons ha pa_nil hs2) hs) fun σ H R ⟨B, env, fp, Q, E, rr, hm, hq, hx⟩ => ?_
  refine ⟨B, env, fp, _, E, rr, hm, fun v H1 B1 r e1 w ⟨j, ed, h1, h2, q⟩ => ?_, hx⟩
  have hv := w.now e1
  rw [ed] at hv
  exact ⟨j, by rw [hv.int_inv], h2, h1, hq _ H1 B1 _ e1 (walk_range 0 _) q⟩
theorem di_range2 {p : Pos} (hg : Gl X "range") (hm : X.mg "range" = none) (ha : DE X W G a ma) (hb : DE X W G b mb) (hs : starEach [a, b] X.env = [(false, eval a X.env), (false, eval b X.env)]) (hs2 : starEach [b] X.env = [(false, eval b X.env)])
    (hs3 : starEach [a, b] X.env = (false, eval a X.env) :: starEach [b] X.env) (hs4 : starEach [b] X.env = (false, eval b X.env) :: starEach [] X.env) : DI X W G tg (.Call (.Name "range" p) [a, b] [] pos) (wiR2 ma mb) := by
  refine PIi (pi_range2 hg hm (pa_cons ha (pa_cons hb pa_nil hs4) hs3) hs hs2) fun σ H R ⟨B, env, fp, Q, E, rr, hm, hq, hx⟩ => ?_
  refine ⟨B, env, fp, _, E, rr, hm, fun v H1 B1 r e1 w q1 => ?_, hx⟩
  refine ⟨B1, env, fp, _, E, rr.ext e1, q1, fun v2 H2 B2 r2 e2 w2 ⟨i, j, ed1, ed2, hb, q⟩ => ?_, hx.later e1.same⟩
  have hv := (w.now e1).mono e2.same
  have hv2 := w2.now e2
  rw [ed1] at hv
  rw [ed2] at hv2
  exact ⟨i, j, by rw [hv.int_inv, hv2.int_inv], hb, hq _ H2 B2 _ (e1.trans e2) (walk_range i _) q⟩
end

/-! ### loops -/
def wFor (it : WI) (g : WG) (body : WS) : WS := fun D env => it env (fun ds => ∃ J : Nat → Env → Prop, J 0 env ∧
  (∀ i d env', ds[i]? = some d → J i env' → g d env' fun env2 => body { D with nx := J (i + 1), ct := J (i + 1), bk := D.nx } env2) ∧ ∀ env', J ds.length env' → D.nx env') (fun n => D.ex n env)
def wWhile (c : WT) (body : WS) : WS := fun D env => ∃ J : Nat → Env → Prop, (∃ n, J n env) ∧ ∀ n env', J n env' →
  c env' (fun k => if k = true then body { D with nx := fun e => ∃ m, m < n ∧ J m e, ct := fun e => ∃ m, m < n ∧ J m e, bk := D.nx } env' else D.nx env') (fun n => D.ex n env')
theorem while_st {α : Type} {c : WT} {body : WS} {D : En} {env : Env} (st : α → Env) (I : α → Prop) (μ : α → Nat) (x0 : α) (h0 : env = st x0) (hI : I x0)
    (step : ∀ x, I x → c (st x) (fun k => if k = true then body { D with nx := fun e => ∃ m, m < μ x ∧ ∃ y, e = st y ∧ I y ∧ m = μ y, ct := fun e => ∃ m, m < μ x ∧ ∃ y, e = st y ∧ I y ∧ m = μ y, bk := D.nx } (st x) else D.nx (st x)) (fun n => D.ex n (st x))) : wWhile c body D env := by
  subst h0
  refine ⟨fun n e => ∃ y, e = st y ∧ I y ∧ n = μ y, ⟨_, x0, rfl, hI, rfl⟩, ?_⟩
  rintro n e ⟨y, rfl, hy, rfl⟩
  exact step y hy
/-- a turn's end -/
theorem turn_to {α : Type} {st : α → Env} {I : α → Prop} {μ : α → Nat} {n : Nat} {e : Env} (y : α) (he : e = st y) (hI : I y) (hm : μ y < n) : ∃ m, m < n ∧ ∃ y, e = st y ∧ I y ∧ m = μ y := ⟨_, hm, y, he, hI, rfl⟩
theorem for_st {α : Type} {g : WG} {body : WS} {D : En} {env : Env} {ds : List PyData} (st : α → Env) (I : Nat → α → Prop) (x0 : α) (h0 : env = st x0) (hI : I 0 x0)
    (step : ∀ i d x, ds[i]? = some d → I i x → g d (st x) fun env2 => body { D with nx := fun e => ∃ y, e = st y ∧ I (i + 1) y, ct := fun e => ∃ y, e = st y ∧ I (i + 1) y, bk := D.nx } env2) (fin : ∀ x, I ds.length x → D.nx (st x)) :
    ∃ J : Nat → Env → Prop, J 0 env ∧ (∀ i d env', ds[i]? = some d → J i env' → g d env' fun env2 => body { D with nx := J (i + 1), ct := J (i + 1), bk := D.nx } env2) ∧ ∀ env', J ds.length env' → D.nx env' := by
  subst h0
  refine ⟨fun i e => ∃ y, e = st y ∧ I i y, ⟨x0, rfl, hI⟩, ?_, ?_⟩
  · rintro i d e hd ⟨y, rfl, hy⟩
    exact step i d y hd hy
  · rintro e ⟨y, rfl, hy⟩
    exact fin y hy
section
variable {X : Cx} {W : WX} {G : Hp} {tg iter c : Expr} {body : List Stmt} {it : WI} {g : WG} {vs : List Nat} {mb : WS} {tc : WT} {pos : Pos}
theorem ds_for (hp : PassesOwn (model X.prog X.w) X.A X.env X.xe) (hc : X.calm = true) (hi : DI X W G tg iter it) (hg : DG X G vs tg g) (hb : DSs X W G body mb) (hs : ∀ x, foldedSetIterable iter X.env x = pure x) :
    DS X W G (.For tg iter body [] pos) (wFor it g mb) := by
  refine PSi (ps_for hp hc hi hg hb hs) fun D σ H ⟨B, env, fp, d, rr, hm, x⟩ => ?_
  refine ⟨B, env, fp, _, _, rr, hm, fun J H1 B1 ds e1 wk ⟨P, p0, pt, pe⟩ => ?_, x.x rr⟩
  refine ⟨fun i m σ H => m = ds.length - i ∧ i ≤ ds.length ∧ ∃ B2 env' fp', Le B1 B2 ∧ RR X.K G B2 env' fp' σ H ∧ P i env', ⟨_, rfl, Nat.zero_le _, B1, env, fp, .refl _, rr.ext e1, p0⟩, ?_⟩
  rintro i m σ2 H2 ⟨rfl, hle, B2, env2, fp2, l2, rr2, pi⟩
  by_cases hlt : i < ds.length
  · refine .inr ⟨wk.go i H2 B2 l2 rr2.bh hlt, fun σ' H' => ∃ B2 env' fp', Le B1 B2 ∧ RR X.K G B2 env' fp' σ' H' ∧ P (i + 1) env', fun σ' H' ⟨B3, env3, fp3, l3, rr3, p3⟩ => ⟨_, (by omega), rfl, hlt, B3, env3, fp3, l3, rr3, p3⟩, fun y H3 hy => ?_⟩
    obtain ⟨dd, B3, hd, e3, rp⟩ := wk.yld i H2 y H3 B2 hlt l2 rr2.bh hy
    refine ⟨B3, env2, fp2, dd, _, rr2.ext e3, rp, pt i dd env2 hd pi, fun σ4 env4 fp4 rr4 t4 q4 => ?_⟩
    have l3 := l2.trans e3.le
    refine ⟨B3, env4, fp4, _, rr4, q4, ⟨fun σ5 H5 B5 env5 fp5 l5 rr5 p5 => ⟨B5, env5, fp5, l3.trans l5, rr5, p5⟩, fun σ5 H5 B5 env5 fp5 l5 rr5 p5 => x.nx σ5 H5 B5 env5 fp5 ((e1.le.trans l3).trans l5) rr5 p5,
      fun σ5 H5 B5 env5 fp5 l5 rr5 p5 => ⟨B5, env5, fp5, l3.trans l5, rr5, p5⟩, fun v H5 B5 r f l5 => x.rt v H5 B5 r f ((e1.le.trans l3).trans l5), fun n cls σ5 H5 B5 env5 fp5 l5 => x.ex n cls σ5 H5 B5 env5 fp5 ((e1.le.trans l3).trans l5)⟩⟩
  · have e : i = ds.length := by omega
    subst e
    exact .inl ⟨wk.stop _ H2 B2 l2 rr2.bh (Nat.le_refl _), x.nx σ2 H2 B2 env2 fp2 (e1.le.trans l2) rr2 (pe env2 pi)⟩
theorem ds_while (hp : PassesOwn (model X.prog X.w) X.A X.env X.xe) (hc : DT X W G c tc) (hb : DSs X W G body mb) : DS X W G (.While c body [] pos) (wWhile tc mb) := by
  refine PSi (ps_while hp hc hb) fun D σ H ⟨B, env, fp, d, rr, ⟨P, ⟨n0, p0⟩, pt⟩, x⟩ => ?_
  refine ⟨fun m σ H => ∃ B2 env' fp', Le B B2 ∧ RR X.K G B2 env' fp' σ H ∧ P m env', ⟨n0, B, env, fp, .refl _, rr, p0⟩, ?_⟩
  rintro m σ2 H2 ⟨B2, env2, fp2, l2, rr2, p2⟩
  have x2 : SOk X W G B2 d D σ := x.later l2
  refine ⟨B2, env2, fp2, _, _, rr2, pt m env2 p2, fun k H3 B3 e3 q => ?_, fun n cls H' en hm l => x2.ex n cls σ2 H' B2 env2 fp2 (.refl _) (rr2.same l) en hm⟩
  cases k with
  | true =>
    rw [if_pos rfl] at q ⊢
    refine ⟨fun σ' H' => ∃ m', m' < m ∧ ∃ B4 env' fp', Le B B4 ∧ RR X.K G B4 env' fp' σ' H' ∧ P m' env', fun σ' H' ⟨m', h4, B4, env4, fp4, l4, rr4, p4⟩ => ⟨m', h4, B4, env4, fp4, l4, rr4, p4⟩, B3, env2, fp2, _, rr2.ext e3, q, ?_⟩
    have l3 := l2.trans e3.le
    exact ⟨fun σ5 H5 B5 env5 fp5 l5 rr5 ⟨m', h5, p5⟩ => ⟨m', h5, B5, env5, fp5, l3.trans l5, rr5, p5⟩, fun σ5 H5 B5 env5 fp5 l5 rr5 p5 => x.nx σ5 H5 B5 env5 fp5 (l3.trans l5) rr5 p5,
      fun σ5 H5 B5 env5 fp5 l5 rr5 ⟨m', h5, p5⟩ => ⟨m', h5, B5, env5, fp5, l3.trans l5, rr5, p5⟩, fun v H5 B5 r f l5 => x.rt v H5 B5 r f (l3.trans l5), fun n cls σ5 H5 B5 env5 fp5 l5 => x.ex n cls σ5 H5 B5 env5 fp5 (l3.trans l5)⟩
  | false => rw [if_neg (by simp)] at q ⊢; exact x.nx σ2 H3 B3 env2 fp2 (l2.trans e3.le) (rr2.ext e3) q
end

/-! ### comprehensions -/
def wipeE (env : Env) : List Nat → Env
  | [] => env
  | v :: vs => (wipeE env vs).set v none
theorem ownEnv_no {K : K0} {B H : Hp} : ∀ {σ : L2.St} {env : Env} {fp : List Addr} (i : Nat), OwnEnv K B H σ env fp → ∃ fp', OwnEnv K B H (σ.set i none) (env.set i none) fp' ∧ fp'.Sublist fp
  | _, _, _, _, .nil => ⟨[], .nil, .slnil⟩
  | _, _, _, 0, .no t => ⟨_, .no t, List.Sublist.refl _⟩
  | _, _, _, 0, .some x t => ⟨_, .no t, List.sublist_append_right _ _⟩
  | _, _, _, i + 1, .no t => by
    obtain ⟨fp', h1, h2⟩ := ownEnv_no i t
    exact ⟨fp', .no h1, h2⟩
  | _, _, _, 0, .raw t => ⟨_, .no t, List.Sublist.refl _⟩
  | _, _, _, i + 1, .raw t => by
    obtain ⟨fp', h1, h2⟩ := ownEnv_no i t
    exact ⟨fp', .raw h1, h2⟩
  | _, _, _, i + 1, .some (f := f) x t => by
    obtain ⟨fp', h1, h2⟩ := ownEnv_no i t
    exact ⟨f ++ fp', .some x h1, List.Sublist.append (List.Sublist.refl _) h2⟩
theorem ownEnv_wipe {K : K0} {B H : Hp} {σ : L2.St} {env : Env} {fp : List Addr} (x : OwnEnv K B H σ env fp) : ∀ vs : List Nat, ∃ fp', OwnEnv K B H (wipe σ vs) (wipeE env vs) fp' ∧ fp'.Sublist fp
  | [] => ⟨fp, x, List.Sublist.refl _⟩
  | v :: vs => by
    obtain ⟨f1, h1, h2⟩ := ownEnv_wipe x vs
    obtain ⟨f2, h3, h4⟩ := ownEnv_no v h1
    exact ⟨f2, h3, h4.trans h2⟩
theorem RR.wipe {K : K0} {G B H : Hp} {σ : L2.St} {env : Env} {fp : List Addr} (x : RR K G B env fp σ H) (vs : List Nat) : ∃ fp', RR K G B (wipeE env vs) fp' (L2.wipe σ vs) H := by
  obtain ⟨fp', h1, h2⟩ := ownEnv_wipe x.own vs
  exact ⟨fp', x.bh, x.gh, x.gb, h1, x.nd.sublist h2, fun a m => x.fb a (h2.subset m)⟩
def noE : Str → Prop := fun _ => False
/-- a comprehension whose list holds still things -/
def wLc (it : WI) (vs : List Nat) (g : WG) (c : WT) (t : WE) : WE := fun env Q E => it env (fun ds => ∃ P : Nat → List D → Prop, P 0 [] ∧
  (∀ i d acc, ds[i]? = some d → P i acc → g d (wipeE env vs) fun env2 => c env2 (fun k => if k = true then t env2 (fun r => r.st ∧ acc.length < sizeLine ∧ P (i + 1) (acc ++ [r.d])) noE else P (i + 1) acc) noE) ∧
  ∀ acc, P ds.length acc → Q (.t (.lst acc))) E
def wYes : WT := fun _ Q _ => Q true
/-- what the middle of a comprehension's reading asks -/
def LcI (env : Env) (ds : List PyData) (vs : List Nat) (g : WG) (c : WT) (t : WE) (Q : R → Prop) : Prop := ∃ P : Nat → List PyData → Prop, P 0 [] ∧
  (∀ i d acc, ds[i]? = some d → P i acc → g d (wipeE env vs) fun env2 => c env2 (fun k => if k = true then t env2 (fun r => r.st ∧ acc.length < sizeLine ∧ P (i + 1) (acc ++ [r.d])) noE else P (i + 1) acc) noE) ∧
  ∀ acc, P ds.length acc → Q (.t (.lst acc))
theorem wLc_eq (it : WI) (vs : List Nat) (g : WG) (c : WT) (t : WE) (env : Env) (Q : R → Prop) (E : Str → Prop) : wLc it vs g c t env Q E = it env (fun ds => LcI env ds vs g c t Q) E := rfl
theorem take_succ {α : Type} {l : List α} {i : Nat} {d : α} (h : l[i]? = some d) : l.take (i + 1) = l.take i ++ [d] := by
  rw [List.take_succ, h]; rfl
theorem lc_map {env : Env} {ds : List PyData} {vs : List Nat} {g : WG} {t : WE} {Q : R → Prop} (f : PyData → PyData) (hz : ds.length ≤ sizeLine)
    (h : ∀ (i : Nat) d, ds[i]? = some d → ∀ A : R → Prop, (∀ r, r.st → r.d = f d → A r) → g d (wipeE env vs) fun env2 => t env2 A noE) (q : Q (.t (.lst (ds.map f)))) : LcI env ds vs g wYes t Q := by
  refine ⟨fun i acc => acc = (ds.take i).map f, by simp, fun i d acc hd ha => ?_, fun acc ha => ?_⟩
  · have ha : acc = (ds.take i).map f := ha
    refine h i d hd (fun r => r.st ∧ acc.length < sizeLine ∧ acc ++ [r.d] = (ds.take (i + 1)).map f) fun r rs rd => ⟨rs, ?_, ?_⟩
    · have hi := (List.getElem?_eq_some_iff.mp hd).1
      rw [ha, List.length_map, List.length_take]
      omega
    · rw [take_succ hd, List.map_append, ha, rd]; rfl
  · have ha : acc = (ds.take ds.length).map f := ha
    rw [ha, List.take_length]; exact q
theorem lc_filter {env : Env} {ds : List PyData} {vs : List Nat} {g : WG} {c : WT} {t : WE} {Q : R → Prop} (p : PyData → Bool) (f : PyData → PyData) (hz : ds.length ≤ sizeLine)
    (h : ∀ (i : Nat) d, ds[i]? = some d → ∀ (A : R → Prop) (B : Prop), (p d = true → ∀ r, r.st → r.d = f d → A r) → (p d = false → B) → g d (wipeE env vs) fun env2 => c env2 (fun k => if k = true then t env2 A noE else B) noE)
    (q : Q (.t (.lst ((ds.filter p).map f)))) : LcI env ds vs g c t Q := by
  refine ⟨fun i acc => acc = ((ds.take i).filter p).map f, by simp, fun i d acc hd ha => ?_, fun acc ha => ?_⟩
  · have ha : acc = ((ds.take i).filter p).map f := ha
    refine h i d hd _ _ (fun pd r rs rd => ⟨rs, ?_, ?_⟩) fun pd => ?_
    · have hi := (List.getElem?_eq_some_iff.mp hd).1
      rw [ha, List.length_map]
      have h1 := List.length_filter_le p (ds.take i)
      rw [List.length_take] at h1
      omega
    · show acc ++ [r.d] = ((ds.take (i + 1)).filter p).map f
      rw [take_succ hd, List.filter_append, List.map_append, ha, rd]
      simp [pd]
    · show acc = ((ds.take (i + 1)).filter p).map f
      rw [take_succ hd, List.filter_append, ha]
      simp [pd]
  · have ha : acc = ((ds.take ds.length).filter p).map f := ha
    rw [ha, List.take_length]; exact q
abbrev W0 : WX := fun _ _ _ _ => False
theorem xok0 {mg : Str → Option Value} {H : Hp} {σ : L2.St} : XOk mg W0 H σ noE := fun _ _ _ h => h.elim
section
variable {X : Cx} {W : WX} {G : Hp} {tg iter elt : Expr} {ifs : List Expr} {scope : Scope} {own : List (Str × Nat)} {it : WI} {g : WG} {c : WT} {t : WE} {pos : Pos}
abbrev Bk (X : Cx) (scope : Scope) (s : Shared) (H : Hp) (C : Addr) (cl : List (Str × Addr)) (fp : List Addr) : Cx := X.blk s H scope (compEnvC scope cl C X.env) fp
theorem lc_ok {σ : L2.St} {H : Hp} {QV : VK} {vs : List Nat} (h : tD X W G (wLc it vs g c t) σ H QV) :
    tLc (tDIc X W G it) (tDG X G vs g) (tDT X W0 G c) (tD X W0 G t) vs σ H QV := by
  obtain ⟨B, env, fp, Q, E, rr, hm, hq, hx⟩ := h
  refine ⟨B, env, fp, _, E, rr, hm, fun J H1 B1 ds e1 wk ⟨P, p0, pt, pe⟩ L nL => ?_, hx⟩
  -- the list at L is nobody's
  have out : ∀ {H2 B2 : Hp}, RR X.K G B2 env fp σ H2 → L ∉ fp := fun {H2 B2} r2 m => by
    obtain ⟨u, hu⟩ := (rr.ext e1).own.dom L m
    rw [nL] at hu; cases hu
  have gL : G L = none := (rr.ext e1).gh.none nL
  refine ⟨fun i m H2 => m = ds.length - i ∧ i ≤ ds.length ∧ ∃ B2 acc vs2, Le B1 B2 ∧ RR X.K G B2 env fp σ H2 ∧ B2 L = none ∧ H2 L = some (.lst vs2) ∧ RepAll X.K B2 vs2 acc ∧ (∀ a o, H1 a = some o → H2 a = some o) ∧ (∀ a o, H1 a = some o → B1 a = none → B2 a = none) ∧ P i acc,
    ⟨_, rfl, Nat.zero_le _, B1, [], [], .refl _, (rr.ext e1).beside (out (rr.ext e1)) (e1.bh.none nL) gL, e1.bh.none nL, upd_same, .nil, fun a o q => upd_keep q (ne_of_none q nL), fun _ _ _ n => n, p0⟩, ?_⟩
  rintro i m H2 ⟨rfl, hle, B2, acc, vs2, l2, rr2, bL, hL, ra, s2, n2, pi⟩
  by_cases hlt : i < ds.length
  · refine .inr ⟨wk.go i H2 B2 l2 rr2.bh s2 hlt, fun H' => ∃ B2 acc vs2, Le B1 B2 ∧ RR X.K G B2 env fp σ H' ∧ B2 L = none ∧ H' L = some (.lst vs2) ∧ RepAll X.K B2 vs2 acc ∧ (∀ a o, H1 a = some o → H' a = some o) ∧ (∀ a o, H1 a = some o → B1 a = none → B2 a = none) ∧ P (i + 1) acc,
      fun H' ⟨B3, acc3, vs3, z1, z2, z3, z4, z5, z6, z7, z8⟩ => ⟨_, (by omega), rfl, hlt, B3, acc3, vs3, z1, z2, z3, z4, z5, z6, z7, z8⟩, fun y H3 hy => ?_⟩
    obtain ⟨dd, B3, hd, e3, rp⟩ := wk.yld i H2 y H3 B2 hlt l2 rr2.bh s2 hy
    obtain ⟨fpw, rrw⟩ := (rr2.ext e3).wipe vs
    refine ⟨B3, _, fpw, dd, _, rrw, rp, pt i dd acc hd pi, fun σ4 env4 fp4 rr4 t4 q4 => ⟨?_, ?_⟩⟩
    · have := t4.wipe
      rw [this]
      exact (Touch.wipe ⟨wipe_length σ vs, fun j nj => by rw [wipe_get, if_neg nj]⟩)
    · refine ⟨B3, env4, fp4, _, noE, rr4, q4, fun k H5 B5 e5 q5 => ?_, xok0⟩
      have eA := e3.trans e5
      cases k with
      | false =>
        rw [if_neg (by simp)] at q5
        refine iteF ?_
        exact ⟨B5, acc, vs2, l2.trans eA.le, rr2.ext eA, eA.new L _ hL bL, eA.same _ _ hL, ra.mono eA.le, fun a o q => eA.same _ _ (s2 a o q), fun a o q n => eA.new a o (s2 a o q) (n2 a o q n), q5⟩
      | true =>
        rw [if_pos rfl] at q5
        refine iteT ?_
        refine ⟨B5, env4, fp4, _, noE, rr4.ext e5, q5, fun u H6 B6 r e6 w ⟨sr, hz, p6⟩ => ?_, xok0⟩
        obtain ⟨B7, e7, l7, rk⟩ := w.keep e6 sr
        have eB := eA.trans e7
        have hL6 := eB.same _ _ hL
        have bL7 := eB.new L _ hL bL
        have rr7 := rr2.ext eB
        refine ⟨vs2, hL6, by rw [ra.length]; exact hz, B7, acc ++ [r.d], vs2 ++ [u], l2.trans eB.le, rr7.beside (out rr7) bL7 gL, bL7, upd_same, (ra.mono eB.le).append (.one rk), fun a o q => ?_, fun a o q n => eB.new a o (s2 a o q) (n2 a o q n), p6⟩
        exact upd_keep (eB.same _ _ (s2 a o q)) (ne_of_none q nL)
  · have e : i = ds.length := by omega
    subst e
    refine .inl ⟨wk.stop _ H2 B2 l2 rr2.bh s2 (Nat.le_refl _), hq _ H2 B2 (.t (.lst acc)) ⟨e1.same.trans s2, e1.le.trans l2, rr2.bh, fun a o q n => n2 a o (e1.same _ _ q) (e1.new a o q n)⟩ ⟨[L], .lst hL ra, by simp, fun a m => ?_⟩ (pe acc pi)⟩
    simp at m; subst m
    exact ⟨e1.same.none nL, bL⟩
theorem de_lc (hc : X.calm = true) (hN : X.N.Nodup) (hi : DIc X W G tg iter it) {N : List Str} {sc : Scope} (ok : blkC N sc scope own = true) (eN : X.N = N) (eS : X.env.scope = sc)
    (hg : ∀ s H C cl fp, DG (Bk X scope s H C cl fp) G (own.map (·.2)) tg g) (ht : ∀ s H C cl fp, PTs (Bk X scope s H C cl fp) ifs (tDT X W0 G c)) (he : ∀ s H C cl fp, DE (Bk X scope s H C cl fp) W0 G elt t)
    (hs : ∀ x, foldedSetIterable iter X.env x = pure x) : DE X W G (.ListComp elt [⟨tg, iter, ifs, 0⟩] scope pos) (wLc it (own.map (·.2)) g c t) :=
  PEi (pe_lc (g := tDG X G (own.map fun p : Str × Nat => p.2) g) (tt := tDT X W0 G c) (te := tD X W0 G t) hc hN hi (by subst eN eS; exact blkOk_by ok) hg ht he hs) fun _ _ _ h => lc_ok h
theorem ds_setLc {i : Nat} {y : Str} {py spos : Pos} (hc : X.calm = true) (hN : X.N.Nodup) (hy : X.N[i]? = some y) (hyl : X.env.scope.names.lookup y = some .local)
    (hsw : swapsWith (.ListComp elt [⟨tg, iter, ifs, 0⟩] scope pos) (some (.Name y py)) spos.line X.env = pure true) (hi : DIc X W G tg iter it) {N : List Str} {sc : Scope} (ok : blkC N sc scope own = true) (eN : X.N = N) (eS : X.env.scope = sc)
    (hg : ∀ s H C cl fp, DG (Bk X scope s H C cl fp) G (own.map (·.2)) tg g) (ht : ∀ s H C cl fp, PTs (Bk X scope s H C cl fp) ifs (tDT X W0 G c)) (he : ∀ s H C cl fp, DE (Bk X scope s H C cl fp) W0 G elt t)
    (hs : ∀ x, foldedSetIterable iter X.env x = pure x) : DS X W G (.Assign [.Name y py] (.ListComp elt [⟨tg, iter, ifs, 0⟩] scope pos) spos) (wAsg i (wLc it (own.map (·.2)) g c t)) :=
  PSi (ps_setLc (g := tDG X G (own.map fun p : Str × Nat => p.2) g) (tt := tDT X W0 G c) (te := tD X W0 G t) hc hN hy hyl hsw hi (by subst eN eS; exact blkOk_by ok) hg ht he hs) fun D σ H h => asg_ok (fun _ _ _ h => lc_ok h) H h
theorem ds_letLc {i : Nat} {y : Str} {py spos : Pos} (hc : X.calm = true) (hN : X.N.Nodup) (hy : X.N[i]? = some y) (hyl : X.env.scope.names.lookup y = some .local)
    (hsw : swapsWith (.ListComp elt [⟨tg, iter, ifs, 0⟩] scope pos) (some (.Name y py)) spos.line X.env = pure true) (hi : DIc X W G tg iter it) {N : List Str} {sc : Scope} (ok : blkC N sc scope own = true) (eN : X.N = N) (eS : X.env.scope = sc)
    (hg : ∀ s H C cl fp, DG (Bk X scope s H C cl fp) G (own.map (·.2)) tg g) (ht : ∀ s H C cl fp, PTs (Bk X scope s H C cl fp) ifs (tDT X W0 G c)) (he : ∀ s H C cl fp, DE (Bk X scope s H C cl fp) W0 G elt t)
    (hs : ∀ x, foldedSetIterable iter X.env x = pure x) : DS X W G (.Assign [.Name y py] (.ListComp elt [⟨tg, iter, ifs, 0⟩] scope pos) spos) (wLet i (wLc it (own.map (·.2)) g c t)) :=
  PSi (ps_setLc (g := tDG X G (own.map fun p : Str × Nat => p.2) g) (tt := tDT X W0 G c) (te := tD X W0 G t) hc hN hy hyl hsw hi (by subst eN eS; exact blkOk_by ok) hg ht he hs) fun D σ H h => let_ok (fun _ _ _ h => lc_ok h) H h
theorem pts_no : PTs X [] (tDT X W0 G wYes) := ⟨fun pins s σ H Q I ⟨B, env, fp, Q', E, rr, hm, hq, hx⟩ => pts_nil.run pins s σ H Q I (hq true H B (.refl rr.bh) hm)⟩
theorem pts_if {e : Expr} (h : DT X W0 G e c) : PTs X [e] (tDT X W0 G c) := pts_one h
end
end DL

set_option Elab.async false
set_option linter.all false
set_option maxRecDepth 100000
set_option maxHeartbeats 1000000
/-! DL10: promises of defs over data, calls, a def's body. -/
namespace DL
open PySem L2 PyProof.Rows

/-- a promise: from the arguments, to what is wanted of the result, to what is wanted of an exception's class -/
abbrev Spec := List D → (R → Prop) → (Str → Prop) → Prop
def dsp (K : K0) (mg : Str → Option Value) (S : Spec) : Sp := fun vs H QV EX => ∃ B ds Q E, Le B H ∧ RepAll K B vs ds ∧ S ds Q E ∧
  (∀ v H' B' r, Ext H B H' B' → VOk K H [] B' H' v r → r.st → Q r → QV v H') ∧ ∀ n cls H', E n → mg n = some cls → Le H H' → EX cls none H'
mutual
/-- no lists, no dicts within -/
def noL : D → Bool
  | .list _ => false
  | .dict _ => false
  | .tuple ds => noLs ds
  | _ => true
def noLs : List D → Bool
  | [] => true
  | d :: ds => noL d && noLs ds
end
theorem noLs_of : ∀ {ds : List D}, (∀ d ∈ ds, noL d = true) → noLs ds = true
  | [], _ => by rw [noLs]
  | d :: ds, h => by rw [noLs, h d (List.mem_cons_self ..), noLs_of fun x m => h x (List.mem_cons_of_mem _ m)]; rfl
@[simp] theorem noL_int (i : Int) : noL (.int i) = true := by rw [noL] <;> simp
@[simp] theorem noL_str (i : Str) : noL (.str i) = true := by rw [noL] <;> simp
@[simp] theorem noL_bool (i : Bool) : noL (.bool i) = true := by rw [noL] <;> simp
@[simp] theorem noL_none : noL .none = true := by rw [noL] <;> simp
@[simp] theorem noL_tuple (ds : List D) : noL (.tuple ds) = noLs ds := by rw [noL]
@[simp] theorem noLs_nil : noLs [] = true := by rw [noLs]
@[simp] theorem noLs_cons (d : D) (ds : List D) : noLs (d :: ds) = (noL d && noLs ds) := by rw [noLs]
theorem noLs_flat : ∀ {ds : List D}, ds.all flatD = true → noLs ds = true
  | [], _ => by rw [noLs]
  | d :: ds, h => by
    rw [List.all_cons, Bool.and_eq_true] at h
    rw [noLs, noLs_flat h.2, Bool.and_true]
    cases d <;> simp [flatD] at h ⊢
/-- a result that leans on nothing that stood -/
def R.free : R → Prop
  | .v d => noL d = true
  | .t (.lst ds) => noLs ds = true
  | _ => False
@[simp] theorem R.free_v (d : D) : (R.v d).free = (noL d = true) := rfl
@[simp] theorem R.free_t (d : List D) : (R.t (.lst d)).free = (noLs d = true) := rfl
@[simp] theorem flatD_int (i : Int) : flatD (.int i) = true := rfl
@[simp] theorem flatD_str (i : Str) : flatD (.str i) = true := rfl
@[simp] theorem flatD_bool (i : Bool) : flatD (.bool i) = true := rfl
@[simp] theorem flatD_none : flatD .none = true := rfl
def wCall (S : Spec) (dds : List D) (ta : WA) : WE := fun env Q E => ta env (fun rs => S (rs.map R.d ++ dds) (fun r => (allSt rs ∨ r.free) ∧ Q r) E) E
section
variable {K : K0} {B B' H H' : Hp}
theorem Rep.anyB {v : V} {d : D} (r : Rep K B v d) (h : flatD d = true) : Rep K B' v d := by
  cases r with
  | non => exact .non
  | bl b => exact .bl b
  | int i => exact .int i
  | str x => exact .str x
  | _ => simp [flatD] at h
theorem RepAll.anyB : ∀ {vs : List V} {ds : List D}, RepAll K B vs ds → ds.all flatD = true → RepAll K B' vs ds
  | _, _, .nil, _ => .nil
  | _, _, .cons r t, h => by
    rw [List.all_cons, Bool.and_eq_true] at h
    exact .cons (r.anyB h.1) (RepAll.anyB t h.2)
/-- a list or a dict -/
def isLD : HO → Prop
  | .lst _ => True
  | .dK _ => True
  | _ => False
mutual
theorem Own.ld : ∀ {v : V} {o : O} {f : List Addr}, Own K B H v o f → ∀ a ∈ f, ∃ u, H a = some u ∧ isLD u
  | _, _, _, .fro r, a, m => by simp at m
  | _, _, _, .lst h r, a, m => by simp at m; subst m; exact ⟨_, h, True.intro⟩
  | _, _, _, .dic h r, a, m => by simp at m; subst m; exact ⟨_, h, True.intro⟩
  | _, _, _, .lsts h r, a, m => by
    rcases List.mem_cons.mp m with rfl | m
    · exact ⟨_, h, True.intro⟩
    · exact OwnAll.ld r a m
theorem OwnAll.ld : ∀ {vs : List V} {os : List O} {f : List Addr}, OwnAll K B H vs os f → ∀ a ∈ f, ∃ u, H a = some u ∧ isLD u
  | _, _, _, .nil, a, m => by simp at m
  | _, _, _, .cons r t, a, m => by
    rcases List.mem_append.mp m with m | m
    · exact Own.ld r a m
    · exact OwnAll.ld t a m
end
/-- .. without some lists and dicts -/
def cutB (B B0 : Hp) (g : List Addr) : Hp := fun a => if a ∈ g ∧ B0 a = none then none else B a
theorem cutB_out {B0 : Hp} {g : List Addr} {a : Addr} (h : ¬ (a ∈ g ∧ B0 a = none)) : cutB B B0 g a = B a := by unfold cutB; rw [if_neg h]
theorem cutB_le {B0 : Hp} (g : List Addr) : Le (cutB B B0 g) B := fun a o h => by
  unfold cutB at h
  split at h
  · cases h
  · exact h
mutual
theorem Rep.cutL {B0 : Hp} {g : List Addr} (hg : ∀ a ∈ g, ∃ u, B a = some u ∧ isLD u) : ∀ {v : V} {d : D}, noL d = true → Rep K B v d → Rep K (cutB B B0 g) v d
  | _, _, _, .non => .non
  | _, _, _, .bl b => .bl b
  | _, _, _, .int i => .int i
  | _, _, _, .str x => .str x
  | _, _, h, .lst s r => by simp [noL] at h
  | _, _, h, .tup (a := a) s r p => by
    have out : ∀ u, B a = some u → ¬ isLD u → cutB B B0 g a = some u := fun u e n => by
      rw [cutB_out (fun m => ?_)]
      · exact e
      · obtain ⟨u', e', l⟩ := hg a m.1
        rw [e] at e'; cases e'
        exact n l
    refine .tup ?_ (RepAll.cutL hg (by simpa using h) r) ?_
    · rcases s with (s | ⟨o, s⟩) | s
      · exact .inl (.inl (out _ s id))
      · exact .inl (.inr ⟨o, out _ s id⟩)
      · exact .inr s
    · rcases p with ⟨o, u, e, q⟩ | p
      · exact .inl ⟨o, u, out _ e id, q⟩
      · exact .inr p
  | _, _, h, .dic s r => by simp [noL] at h
theorem RepAll.cutL {B0 : Hp} {g : List Addr} (hg : ∀ a ∈ g, ∃ u, B a = some u ∧ isLD u) : ∀ {vs : List V} {ds : List D}, noLs ds = true → RepAll K B vs ds → RepAll K (cutB B B0 g) vs ds
  | _, _, _, .nil => .nil
  | _, _, h, .cons r t => by
    simp only [noLs_cons, Bool.and_eq_true] at h
    exact .cons (Rep.cutL hg h.1 r) (RepAll.cutL hg h.2 t)
end
/-- all as still data, what was looked at let be still -/
theorem VAll.borrow (l : Le B H) : ∀ {vs : List V} {rs : List R}, VAll K B H vs rs → ∃ f, RepAll K (addB B H f) vs (rs.map R.d) ∧ ∀ a ∈ f, ∃ u, H a = some u ∧ isLD u
  | _, _, .nil => ⟨[], .nil, by simp⟩
  | _, _, .st s r t => by
    obtain ⟨f, h, hf⟩ := VAll.borrow l t
    exact ⟨f, .cons (r.mono (addB_le f l)) h, hf⟩
  | _, _, .lk (f := g) x t => by
    obtain ⟨f, h, hf⟩ := VAll.borrow l t
    have le2 : ∀ f' : List Addr, (∀ a ∈ f, a ∈ f') → Le (addB B H f) (addB B H f') := fun f' hs a o q => by
      by_cases m : a ∈ f'
      · rw [addB_in m]; exact addB_bh f l a o q
      · rw [addB_out m]; rw [addB_out fun z => m (hs a z)] at q; exact q
    refine ⟨g ++ f, .cons (x.freeze (addB_le _ l) fun a m u q => by rw [addB_in (List.mem_append_left _ m)]; exact q) (h.mono (le2 _ fun a m => List.mem_append_right _ m)), fun a m => ?_⟩
    rcases List.mem_append.mp m with m | m
    · exact x.ld a m
    · exact hf a m
end
section
variable {X : Cx} {W : WX} {G : Hp} {k : Nat} {f : Addr} {fd : FuncData} {ps : List Str} {S : Spec} {dvs : List V} {dds : List D} {ds : List Value} {x : Str} {p pos : Pos} {e : Expr} {es : List Expr} {ms : WA}
theorem call_ok (hdv : ∀ B, RepAll X.K B dvs dds) {σ : L2.St} {H : Hp} {QV : VK} (h : tD X W G (wCall S dds ms) σ H QV) : tCallSD (dsp X.K X.mg S) dvs (fun σ cls d H => W cls d σ H) (tDA X W G ms) σ H QV := by
  obtain ⟨B, env, fp, Q, E, rr, hm, hq, hx⟩ := h
  refine ⟨B, env, fp, _, E, rr, hm, fun vs H1 B1 rs e1 va hs => ?_, hx⟩
  by_cases ha : allSt rs
  · refine ⟨B1, _, _, E, e1.bh, (va.reps ha).append (hdv _), hs, fun v H' B' r e2 w st ⟨_, q⟩ => ?_, fun n cls H' en hm l => hx n cls H' en hm (e1.same.trans l)⟩
    refine hq v H' B' r (e1.trans e2) ?_ q
    cases r with
    | v d => exact w
    | t o =>
      obtain ⟨g, w, ng, hg⟩ := w
      exact ⟨g, w, ng, fun a m => ⟨e1.same.none (hg a m).1, (hg a m).2⟩⟩
    | b o => exact st.elim
  · obtain ⟨g, hr, hld⟩ := va.borrow e1.bh
    refine ⟨addB B1 H1 g, _, _, E, addB_bh g e1.bh, hr.append (hdv _), hs, fun v H' B' r e2 w st ⟨fr, q⟩ => ?_, fun n cls H' en hm l => hx n cls H' en hm (e1.same.trans l)⟩
    have fr : r.free := fr.resolve_left ha
    have hg' : ∀ a ∈ g, ∃ u, B' a = some u ∧ isLD u := fun a m => by
      obtain ⟨u, hu, l⟩ := hld a m
      exact ⟨u, e2.le _ _ (by rw [addB_in m]; exact hu), l⟩
    have eC : Ext H1 B1 H' (cutB B' B1 g) := ⟨e2.same, fun a o h => by
      rw [cutB_out (fun m => by rw [m.2] at h; cases h)]
      exact e2.le _ _ (addB_le g e1.bh _ _ h), (cutB_le g).trans e2.bh, fun a o h n => by
      by_cases m : a ∈ g
      · unfold cutB; rw [if_pos ⟨m, n⟩]
      · rw [cutB_out fun z => m z.1]
        exact e2.new a o h (by rw [addB_out m]; exact n)⟩
    refine hq v H' (cutB B' B1 g) r (e1.trans eC) ?_ q
    cases r with
    | v d => exact Rep.cutL hg' fr w
    | t o =>
      obtain ⟨g', w, ng, hgn⟩ := w
      cases w with
      | lst h r => exact ⟨_, .lst h (RepAll.cutL hg' fr r), ng, fun a m => ⟨e1.same.none (hgn a m).1, (cutB_le g).none (hgn a m).2⟩⟩
      | _ => exact fr.elim
    | b o => exact fr.elim
theorem de_call (F : FnOk X.prog X.w X.K X.mg X.base (L2.CX X.prog X.w) k f fd ps (dsp X.K X.mg S)) (hr : Room k X.A) (hg : Gl X x) (hm : X.mg x = some (.ref f)) (hk : PySem.W.keepIn X.K (.ref f) = true) (hb : Binds X.K fd ps ds) (hd : Vals dvs ds)
    (hdv : ∀ B, RepAll X.K B dvs dds) (tk : Takes X W) (ha : DA X W G (e :: es) ms) (hdb : (x == ("__debug__" : Str)) = false)
    (he : starEach (e :: es) X.env = (false, eval e X.env) :: starEach es X.env) (hpl : (backTo pos (starEach es X.env)).any (·.1) = false) : DE X W G (.Call (.Name x p) (e :: es) [] pos) (wCall S dds ms) :=
  PEi (pe_callSD (E := fun σ cls d H => W cls d σ H) F hr hg hm hk hb hd (fun σ => passAt tk σ) ha hdb he hpl) fun _ _ _ h => call_ok hdv h
end

/-! ### a def's body -/
def enD (Q : R → Prop) (E : Str → Prop) : En := { nx := fun _ => Q (.v .none), rt := Q, bk := fun _ => False, ct := fun _ => False, ex := fun n _ => E n }
@[simp] theorem enD_rt (Q : R → Prop) (E : Str → Prop) : (enD Q E).rt = Q := rfl
def startD (N : List Str) (ds : List D) : Env := ds.map (fun d => some (.fro d)) ++ List.replicate (N.length - ds.length) none
theorem ownEnv_start {K : K0} {B H : Hp} : ∀ {vs : List V} {ds : List D} (n : Nat), RepAll K B vs ds → OwnEnv K B H (vs.map some ++ List.replicate n none) (ds.map (fun d => some (.fro d)) ++ List.replicate n none) []
  | _, _, 0, .nil => .nil
  | _, _, n + 1, .nil => by
    have := ownEnv_start (K := K) (B := B) (H := H) n RepAll.nil
    rw [List.replicate_succ]
    exact .no (by simpa using this)
  | _, _, n, .cons r t => by
    have := OwnEnv.some (f := []) (.fro r) (ownEnv_start (H := H) n t)
    simpa using this
section
variable {P : Program} {w : World} {K : K0} {mg : Str → Option Value} {base : Heap} {x qual : Str} {params : Arguments} {body : List Stmt} {scope : Scope} {dvs : List V} {kws : List (Str × V)} {f : Addr} {fd : FuncData} {N ps : List Str} {k : Nat} {S : Spec} {m : WS}
abbrev XB (P : Program) (w : World) (K : K0) (mg : Str → Option Value) (base : Heap) (N : List Str) (qual : Str) (scope : Scope) (f : Addr) (cdv : Value) (A : Around) (outer : List PySem.Env) (s : Shared) (H : Hp) (E : XK) : Cx :=
  cxOf (L2.CX P w) P w K mg base N qual scope f cdv A outer s H E
theorem fn_d (F : FunD K x qual params body scope dvs kws f fd) (Sc : FnScope N ps scope) (len : ∀ ds Q E, S ds Q E → ds.length = ps.length)
    (der : ∀ (cdv : Value) (A : Around) (outer : List PySem.Env) (s : Shared) (H : Hp) (E : XK) (G : Hp), Room k (A.deeper (envOfC qual scope s.heap.objs.size f cdv)) →
      Takes (XB P w K mg base N qual scope f cdv A outer s H E) (fun cls d _ H => E cls d H) → PassesOwn (model P w) (XB P w K mg base N qual scope f cdv A outer s H E).A (XB P w K mg base N qual scope f cdv A outer s H E).env (XB P w K mg base N qual scope f cdv A outer s H E).xe →
      DSs (XB P w K mg base N qual scope f cdv A outer s H E) (fun cls d _ H => E cls d H) G body m)
    (wp : ∀ ds Q E, S ds Q E → m (enD Q E) (startD N ds)) : FnOk P w K mg base (L2.CX P w) (k + 1) f fd ps (dsp K mg S) := by
  refine F.ok Sc (fun vs H Q E h => ?_) fun cdv A outer s H vs QV EX hr h => ?_
  · obtain ⟨B, ds, Q', E', l, r, hs, _⟩ := h
    rw [r.length]
    exact len _ _ _ hs
  · obtain ⟨B, ds, Q, E, l, r, hs, hq, hx⟩ := h
    let G : Hp := fun a => match B a with | none => H a | some _ => none
    have gH : ∀ a o, G a = some o → H a = some o ∧ B a = none := fun a o q => by
      cases e : B a with
      | none => have : G a = H a := by show (match B a with | none => H a | some _ => none) = _; rw [e]
                rw [this] at q; exact ⟨q, rfl⟩
      | some u => have : G a = none := by show (match B a with | none => H a | some _ => none) = _; rw [e]
                  rw [this] at q; cases q
    have gN : ∀ a, B a = none → G a = H a := fun a e => by show (match B a with | none => H a | some _ => none) = _; rw [e]
    refine ⟨_, der cdv A outer s H EX G hr (takes_of rfl rfl rfl rfl) (passes_of rfl), B, startD N ds, [], enD Q E, ⟨l, fun a o q => (gH a o q).1, fun a o q => (gH a o q).2, ?_, by simp, by simp⟩, wp ds Q E hs, ?_⟩
    · have := ownEnv_start (K := K) (B := B) (H := H) (N.length - ds.length) r
      unfold startD L2.start
      rw [r.length]
      exact this
    · have fin : ∀ v H' B' r (f : List Addr), Le B B' → Le B' H' → Le G H' → (∀ a o, G a = some o → B' a = none) → (∀ a ∈ f, B' a = none ∧ G a = none) → f.Nodup →
          (match r with | .v d => Rep K B' v d | .t o => Own K B' H' v o f | .b _ => False) → Q r → QV v H' := fun v H' B' r f l1 l2 l3 l4 hf nf w q => by
        have e : Ext H B H' B' := ⟨fun a o h => by
          cases eb : B a with
          | none => exact l3 a o (by rw [gN a eb]; exact h)
          | some u =>
            have : H a = some u := l a u eb
            rw [this] at h; cases h
            exact l2 _ _ (l1 _ _ eb), l1, l2, fun a o h n => l4 a o (by rw [gN a n]; exact h)⟩
        refine hq v H' B' r e ?_ ?_ q
        · cases r with
          | v d => exact w
          | t o =>
            refine ⟨f, w, nf, fun a m => ⟨?_, (hf a m).1⟩⟩
            have nb : B a = none := l1.none (hf a m).1
            rw [← gN a nb]; exact (hf a m).2
          | b o => exact w.elim
        · cases r with
          | v d => exact True.intro
          | t o => exact True.intro
          | b o => exact w.elim
      refine ⟨fun σ H' B' env fp l1 rr q => ?_, fun σ H' B' env fp l1 rr q => q.elim, fun σ H' B' env fp l1 rr q => q.elim, fun v H' B' r f l1 l2 l3 l4 hf nf w q => fin v H' B' r f l1 l2 l3 l4 hf nf w q, fun n cls σ H' B' env fp l1 rr en hm => ?_⟩
      · exact fin .non H' B' (.v .none) [] l1 rr.bh rr.gh rr.gb (by simp) (by simp) .non q
      · refine hx n cls H' en hm fun a o h => ?_
        cases eb : B a with
        | none => exact rr.gh a o (by rw [gN a eb]; exact h)
        | some u =>
          have : H a = some u := l a u eb
          rw [this] at h; cases h
          exact rr.bh _ _ (l1 _ _ eb)
end
end DL

set_option Elab.async false
set_option linter.all false
set_option maxRecDepth 100000
set_option maxHeartbeats 1000000
/-! DL11: what a text's top says, short rules for printing. -/
namespace DL
open PySem L2 PyProof.Rows

/-- names that are the built-ins' own -/
structure Gb (mg : Str → Option Value) : Prop where
  len : mg "len" = none
  range : mg "range" = none
  isinstance : mg "isinstance" = none
  int : mg "int" = none
  bool : mg "bool" = none
  str : mg "str" = none
  list : mg "list" = none
  tuple : mg "tuple" = none
  dict : mg "dict" = none
  set : mg "set" = none
  sorted : mg "sorted" = none
  sum : mg "sum" = none
  max : mg "max" = none
  min : mg "min" = none
  all : mg "all" = none
  any : mg "any" = none
  ord : mg "ord" = none
  zip : mg "zip" = none
  enumerate : mg "enumerate" = none
  reversed : mg "reversed" = none
  divmod : mg "divmod" = none
  ValueError : mg "ValueError" = none

/-- a def of the top that keeps a promise -/
def FnAt (P : Program) (w : World) (K : K0) (mg : Str → Option Value) (base : Heap) (k : Nat) (x : Str) (ps : List Str) (dvs : List V) (S : Spec) : Prop :=
  ∃ (f : Addr) (fd : FuncData) (ds : List Value), mg x = some (.ref f) ∧ PySem.W.keepIn K (.ref f) = true ∧ FnOk P w K mg base (L2.CX P w) k f fd ps (dsp K mg S) ∧ Binds K fd ps ds ∧ Vals dvs ds
/-- an own exception class -/
def ExAt (K : K0) (mg : Str → Option Value) (n : Str) : Prop :=
  ∃ C : Addr, mg n = some (.ref C) ∧ PySem.W.excIn K C He.veBase "ValueError.__new__" = true ∧ PySem.W.keepIn K (.ref C) = true ∧ PySem.W.subIn K (.ref C) (.type "BaseException") = some true ∧ PySem.W.typeIn K (.ref C) = some (.type "type")
section
variable {X : Cx} {W : WX} {G : Hp} {k j : Nat} {ps : List Str} {S : Spec} {dvs : List V} {dds : List D} {x : Str} {p pos : Pos} {e a b : Expr} {es : List Expr} {ms : WA} {ma mb : WE}
theorem de_call' (F : FnAt X.prog X.w X.K X.mg X.base k x ps dvs S) (hr : Room j X.A) (hk : k ≤ j) (hg : Gl X x) (hdv : ∀ B, RepAll X.K B dvs dds) (tk : Takes X W) (ha : DA X W G (e :: es) ms) (hdb : (x == ("__debug__" : Str)) = false)
    (he : starEach (e :: es) X.env = (false, eval e X.env) :: starEach es X.env) (hpl : (backTo pos (starEach es X.env)).any (·.1) = false) : DE X W G (.Call (.Name x p) (e :: es) [] pos) (wCall S dds ms) := by
  obtain ⟨f, fd, ds, hm, hkp, F, hb, hd⟩ := F
  exact de_call F (hr.mono hk) hg hm hkp hb hd hdv tk ha hdb he hpl
theorem ds_raise' {n m : Str} {jj : Nat} {p2 p3 : Pos} (hx : ExAt X.K X.mg n) (hc : X.calm = true) (tk : Takes X W) (hg : Gl X n) (hdb : (n == ("__debug__" : Str)) = false) : DS X W G (.Raise (some (.Call (.Name n p) [.Constant (.str m) jj p2] [] p3)) none pos) (wRaise n) := by
  obtain ⟨C, gC, xC, kC, bC, tC⟩ := hx
  exact ds_raise hc tk gC (pmk_own PySem.F.excBase_ValueError xC gC kC (raises_own bC tC) hg hdb)
theorem de_add (ha : DE X W G a ma) (hb : DE X W G b mb) : DE X W G (.BinOp a .Add b pos) (wAdd ma mb) := de_2 opAdd ha hb
abbrev wEq (a b : WE) : WE := wtv (c2 cEq a b)
abbrev wNe (a b : WE) : WE := wtv (c2 cNe a b)
end
section
variable {P : Program} {w : World} {K : K0} {mg : Str → Option Value} {base : Heap} {x qual : Str} {params : Arguments} {body : List Stmt} {scope : Scope} {f : Addr} {fd : FuncData} {N ps : List Str} {k : Nat} {S : Spec} {m : WS}
theorem fnAt (F : FunD K x qual params body scope [] [] f fd) (g : mg x = some (.ref f)) (Sc : FnScope N ps scope)
    (hb : ∀ (kV doc pm : Value) (an : Option Addr) (cdv ct : Value) (us : List Value), us.length = ps.length → bindArgs (PySem.W.fnOf x qual params body scope .none kV doc pm an cdv ct) ⟨us, []⟩ = pure (ps.zip us))
    (len : ∀ ds Q E, S ds Q E → ds.length = ps.length)
    (der : ∀ (cdv : Value) (A : Around) (outer : List PySem.Env) (s : Shared) (H : Hp) (E : XK) (G : Hp), Room k (A.deeper (envOfC qual scope s.heap.objs.size f cdv)) →
      Takes (XB P w K mg base N qual scope f cdv A outer s H E) (fun cls d _ H => E cls d H) → PassesOwn (model P w) (XB P w K mg base N qual scope f cdv A outer s H E).A (XB P w K mg base N qual scope f cdv A outer s H E).env (XB P w K mg base N qual scope f cdv A outer s H E).xe →
      DSs (XB P w K mg base N qual scope f cdv A outer s H E) (fun cls d _ H => E cls d H) G body m)
    (wp : ∀ ds Q E, S ds Q E → m (enD Q E) (startD N ds)) : FnAt P w K mg base (k + 1) x ps [] S :=
  ⟨f, fd, [], g, F.kp, fn_d F Sc len der wp, F.bindsN hb, .nil⟩
end
/-- what the derivation of a body is given -/
structure Ctx (X : Cx) (W : WX) (k : Nat) : Prop where
  hr : Room k X.A
  tk : Takes X W
  hp : PassesOwn (model X.prog X.w) X.A X.env X.xe
end DL

set_option Elab.async false
set_option linter.all false
set_option maxRecDepth 100000
set_option maxHeartbeats 1000000
/-! DL12: insert, extend, items stored, over data. -/
namespace DL
open PySem L2 PyProof.Rows
section
open PySem.AutoSeq1
theorem list_extW (l : Addr) (items : Array Value) (n : Nat) (b : Addr) (items2 : Array Value) (n2 : Nat) (dd2 : Option Addr) (sl2 : Array (Option Value)) (hs0 : ¬(!items.isEmpty && Builtin.List.listTooLong (items.size + items2.size)) = true) (hs1 : items.size ≤ sizeLine) (hs2 : items.size + items2.size ≤ sizeLine + 1) :
    Meets (Builtin.«list.extend» ⟨[.ref l, .ref b], []⟩) (fun _ R s => s.heap.get? l = some { cls := .type "list", dict := none, data := .seq items n, slots := #[] } ∧ s.heap.get? b = some { cls := .type "list", dict := dd2, data := .seq items2 n2, slots := sl2 } ∧ R (.ok (.ret Value.none)) { s with heap := s.heap.update l (Obj.mapSeq fun x => x ++ items2), toks := s.toks }) :=
  .of_wp fun prog w A R s h => by
    obtain ⟨hp, g, d, tk, os⟩ := s
    obtain ⟨hl, hb, h⟩ := h
    have f1 := AutoSeq1.idx_int
    have f2 := AutoSeq1.sub_tuple_tuple
    have f3 := AutoSeq1.sub_list_list
    have f4 := AutoSeq1.sub_tuple_list
    have f5 := AutoSeq1.sub_list_tuple
    have hz' : (items ++ items2).size ≤ sizeLine + 1 := by
      rw [Array.size_append]
      exact hs2
    wp_walk using (wpAny_updateSeq hl rfl (hz := hs1) (_hz' := hz')), wpAny_loadPart' hl, wpAny_loadPart' hb
    exact ⟨_, rfl, h⟩
theorem list_extWt (l : Addr) (items : Array Value) (n : Nat) (b : Addr) (items2 : Array Value) (n2 : Nat) (dd2 : Option Addr) (sl2 : Array (Option Value)) (hs0 : ¬(!items.isEmpty && Builtin.List.listTooLong (items.size + items2.size)) = true) (hs1 : items.size ≤ sizeLine) (hs2 : items.size + items2.size ≤ sizeLine + 1) :
    Meets (Builtin.«list.extend» ⟨[.ref l, .ref b], []⟩) (fun _ R s => s.heap.get? l = some { cls := .type "list", dict := none, data := .seq items n, slots := #[] } ∧ s.heap.get? b = some { cls := .type "tuple", dict := dd2, data := .seq items2 n2, slots := sl2 } ∧ R (.ok (.ret Value.none)) { s with heap := s.heap.update l (Obj.mapSeq fun x => x ++ items2), toks := s.toks }) :=
  .of_wp fun prog w A R s h => by
    obtain ⟨hp, g, d, tk, os⟩ := s
    obtain ⟨hl, hb, h⟩ := h
    have f1 := AutoSeq1.idx_int
    have f2 := AutoSeq1.sub_tuple_tuple
    have f3 := AutoSeq1.sub_list_list
    have f4 := AutoSeq1.sub_tuple_list
    have f5 := AutoSeq1.sub_list_tuple
    have hz' : (items ++ items2).size ≤ sizeLine + 1 := by
      rw [Array.size_append]
      exact hs2
    wp_walk using (wpAny_updateSeq hl rfl (hz := hs1) (_hz' := hz')), wpAny_loadPart' hl, wpAny_loadPart' hb
    exact ⟨_, rfl, h⟩
end
section
variable {X : Cx} {W : WX} {G : Hp} {e e2 : Expr} {t t2 : WE} {pos : Pos}
theorem mt_extS : MtR X "list.extend" (fun x vs H Q => ∃ l b xs zs, x = .ref l ∧ vs = [.ref b] ∧ H l = some (.lst xs) ∧ (SqL X.K H b zs ∨ SqT X.K H b zs) ∧ xs.length + zs.length ≤ sizeLine ∧ Q .non (upd H l (.lst (xs ++ zs)))) := by
  intro pins s σ H x vs v us Q I rx rv ⟨l, b, xs, zs, ex, ev, hH, hB, hz, q⟩
  subst ex ev
  cases rx
  obtain ⟨u, rfl, ru⟩ := rv.one
  cases ru
  obtain ⟨z, its, n, r, hl, e⟩ := I.lstM hH
  have go : ∀ its2 : List Value, Vals zs its2 → (∀ R : Result → Shared → Prop, True) → ¬ (!its.toArray.isEmpty && Builtin.List.listTooLong (its.toArray.size + its2.toArray.size)) = true := fun its2 r2 _ => by
    rw [notLongL (by rw [List.size_toArray, List.size_toArray, ← r.length, ← r2.length]; exact hz), Bool.and_false]
    exact Bool.false_ne_true
  have fin : ∀ its2 : List Value, Vals zs its2 → EP X pins σ Q .none { s with heap := s.heap.update l (Obj.mapSeq fun x => x ++ its2.toArray), toks := s.toks } := fun its2 r2 =>
    ⟨.non, _, I.lset (its' := its ++ its2) hH e (by simp) (r.append r2) (by rw [List.length_append]; exact hz), rfl, q⟩
  rcases hB with hB | hB
  · obtain ⟨its2, r2, ⟨o2, n2, e2, c2, d2, ed2⟩, z2⟩ := I.list hB
    obtain ⟨c0, d0, da, sl⟩ := o2
    simp only at c2 d2 ed2
    subst c2 d2 ed2
    refine call_meets F.slot_list_extend ⟨_, e, rfl⟩ F.entry_list_extend (F.args_list_extend_2 _ _)
      (list_extW l its.toArray n b its2.toArray n2 none sl (go its2 r2 fun _ => True.intro) (by rw [List.size_toArray]; omega) (by rw [List.size_toArray, List.size_toArray, ← r.length, ← r2.length]; omega)) ⟨e, e2, fin its2 r2⟩
  · obtain ⟨its2, r2, ⟨o2, e2, c2, n2, ed2⟩, z2⟩ := I.tuple hB
    obtain ⟨c0, d0, da, sl⟩ := o2
    simp only at c2 ed2
    subst c2 ed2
    refine call_meets F.slot_list_extend ⟨_, e, rfl⟩ F.entry_list_extend (F.args_list_extend_2 _ _)
      (list_extWt l its.toArray n b its2.toArray n2 d0 sl (go its2 r2 fun _ => True.intro) (by rw [List.size_toArray]; omega) (by rw [List.size_toArray, List.size_toArray, ← r.length, ← r2.length]; omega)) ⟨e, e2, fin its2 r2⟩

/-- a list or tuple as its items -/
def seqD : D → Option (List D)
  | .list ds => some ds
  | .tuple ds => some ds
  | _ => none
@[simp] theorem seqD_list (ds : List D) : seqD (.list ds) = some ds := rfl
@[simp] theorem seqD_tuple (ds : List D) : seqD (.tuple ds) = some ds := rfl
/-- one own list changes to another of still things -/
theorem lst_turn {B H : Hp} {env : Env} {fp : List Addr} {σ : L2.St} {D : Ends} {d : En} {B0 : Hp} {σ0 : L2.St} {i : Nat} {a : Addr} {ds ds' : List PyData} {vs vs' : List V} (rr : RR X.K G B env fp σ H) (x : SOk X W G B0 d D σ0) (l : Le B0 B)
    (hi : env[i]? = some (some (.lst ds))) (hσ : σ[i]? = some (some (.ref a))) (hl : H a = some (.lst vs)) (r : RepAll X.K B vs' ds') (q : d.nx (env.set i (some (.lst ds')))) : D.nx σ (upd H a (.lst vs')) := by
  obtain ⟨vi, g, h1, h2, h3, h4, h5⟩ := rr.put hi
  rw [hσ] at h1
  cases h1
  cases h2 with
  | lst hl2 rl =>
    have na : B a = none := (h4 a (by simp)).2.1
    obtain ⟨fp', y⟩ := h5 B (upd H a (.lst vs')) (.lst ds') [a] (.refl _) (fun b u q => upd_keep (rr.bh b u q) (ne_of_none q na)) (fun b u n q => upd_keep q fun z => n (by simp [z])) (fun _ _ _ _ q => q)
      (.lst upd_same r) (by simp) (fun b m => ⟨fun _ => m, (h4 b m).2⟩)
    exact x.nx σ _ B _ fp' l y q
/-- x.extend(e) -/
def wExt (i : Nat) (t : WE) : WS := fun D env => ∃ ds, env[i]? = some (some (.lst ds)) ∧ t env (fun r => r.sh ∧ ∃ es, seqD r.d = some es ∧ ds.length + es.length ≤ sizeLine ∧ D.nx (env.set i (some (.lst (ds ++ es))))) (fun n => D.ex n env)
theorem ds_ext {i : Nat} {ob : Expr} {apos cpos : Pos} (ho : PE X ob (tVar i)) (he : DE X W G e t)
    (hbase : attributeBase ob "extend" X.env (eval ob X.env) = eval ob X.env)
    (hfew : ((backTo cpos (starEach [e] X.env)).all (fun x => !x.1) && (backToKw cpos (keywordEach [] X.env)).all (fun x => x.1.isSome)
      && decide ([e].length + ([] : List Keyword).length + (if ([] : List Keyword).isEmpty then 0 else 1) < 30)) = true)
    (hline : (apos.endLine == cpos.line) = true) (hs : starEach [e] X.env = (false, eval e X.env) :: starEach [] X.env) (hplain : (backTo cpos (starEach [] X.env)).any (·.1) = false)
    (hsw : swapsWith (.Call (.Attribute ob "extend" apos) [e] [] cpos) none pos.line X.env = pure false) :
    DS X W G (.Expr (.Call (.Attribute ob "extend" apos) [e] [] cpos) pos) (wExt i t) := by
  refine PSi (ps_expr (pe_bm PySem.F.plainAttrs_list PySem.F.slot_list_extend PySem.F.type_list_extend mt_extS ho (pa_cons he pa_nil hs) hbase hfew hline hs hplain) hsw) fun D σ H ⟨B, env, fp, d, rr, ⟨ds, hi, hm⟩, x⟩ => ?_
  obtain ⟨v, g, h1, h2, h3⟩ := rr.own.get hi
  cases h2 with
  | @lst a vs _ hl rl =>
    refine ⟨.ref a, h1, .inl ⟨rfl, _, .inl (.inl hl)⟩, B, env, fp, _, _, rr, hm, fun u H' B' r e' w ⟨s, es, hes, hz, q⟩ => ?_, x.x rr⟩
    obtain ⟨B2, e2, l2, rv⟩ := w.view e' s
    have hl' := e2.same _ _ hl
    have fin : ∀ zs, RepAll X.K B2 zs es → D.nx σ (upd H' a (.lst (vs ++ zs))) := fun zs rz => lst_turn (rr.ext e2) x e2.le hi h1 hl' ((rl.mono e2.le).append rz) q
    generalize r.d = rd at rv hes
    cases rd <;> simp [seqD] at hes
    · subst hes
      obtain ⟨b, zs, ez, sz, rz⟩ := rv.list e2.bh
      subst ez
      exact ⟨a, b, vs, zs, rfl, rfl, hl', .inl sz, by rw [rl.length, rz.length]; exact hz, fin zs rz⟩
    · subst hes
      obtain ⟨b, zs, ez, sz, rz⟩ := rv.tup e2.bh
      subst ez
      exact ⟨a, b, vs, zs, rfl, rfl, hl', .inr sz, by rw [rl.length, rz.length]; exact hz, fin zs rz⟩
/-- x.insert(i, e), at no place below 0 -/
def insD {α : Type} (xs : List α) (i : Int) (x : α) : List α := xs.take i.toNat ++ [x] ++ xs.drop i.toNat
def wIns (i : Nat) (t t2 : WE) : WS := fun D env => ∃ ds, env[i]? = some (some (.lst ds)) ∧ t env (fun k => t2 env (fun r => r.st ∧ ∃ j : Int, k.d = .int j ∧ 0 ≤ j ∧ j < 2 ^ 63 ∧ ds.length < sizeLine ∧ D.nx (env.set i (some (.lst (insD ds j r.d))))) (fun n => D.ex n env)) (fun n => D.ex n env)
theorem ds_ins {i : Nat} {ob : Expr} {apos cpos : Pos} (ho : PE X ob (tVar i)) (he : DE X W G e t) (he2 : DE X W G e2 t2)
    (hbase : attributeBase ob "insert" X.env (eval ob X.env) = eval ob X.env)
    (hfew : ((backTo cpos (starEach [e, e2] X.env)).all (fun x => !x.1) && (backToKw cpos (keywordEach [] X.env)).all (fun x => x.1.isSome)
      && decide ([e, e2].length + ([] : List Keyword).length + (if ([] : List Keyword).isEmpty then 0 else 1) < 30)) = true)
    (hline : (apos.endLine == cpos.line) = true) (hs : starEach [e, e2] X.env = (false, eval e X.env) :: starEach [e2] X.env) (hs2 : starEach [e2] X.env = (false, eval e2 X.env) :: starEach [] X.env) (hplain : (backTo cpos (starEach [e2] X.env)).any (·.1) = false)
    (hsw : swapsWith (.Call (.Attribute ob "insert" apos) [e, e2] [] cpos) none pos.line X.env = pure false) :
    DS X W G (.Expr (.Call (.Attribute ob "insert" apos) [e, e2] [] cpos) pos) (wIns i t t2) := by
  refine PSi (ps_expr (pe_bm PySem.F.plainAttrs_list PySem.F.slot_list_insert PySem.F.type_list_insert mt_insert ho (pa_cons he (pa_cons he2 pa_nil hs2) hs) hbase hfew hline hs hplain) hsw) fun D σ H ⟨B, env, fp, d, rr, ⟨ds, hi, hm⟩, x⟩ => ?_
  obtain ⟨v, g, h1, h2, h3⟩ := rr.own.get hi
  cases h2 with
  | @lst a vs _ hl rl =>
    refine ⟨.ref a, h1, .inl ⟨rfl, _, .inl (.inl hl)⟩, B, env, fp, _, _, rr, hm, fun u H' B' r e' w q1 => ?_, x.x rr⟩
    refine ⟨B', env, fp, _, _, rr.ext e', q1, fun u2 H2 B2 r2 e2 w2 ⟨s, j, hj, j0, j1, hz, q⟩ => ?_, (x.x rr).later e'.same⟩
    obtain ⟨B3, e3, l3, rk⟩ := w2.keep e2 s
    have eT := e'.trans e3
    have hk := (w.now e').mono e3.same
    rw [hj] at hk
    exact ⟨a, vs, j, u2, rfl, by rw [hk.int_inv], eT.same _ _ hl, by rw [rl.length]; exact hz, j0, j1, lst_turn (rr.ext eT) x eT.le hi h1 (eT.same _ _ hl) ((((rl.mono eT.le).take _).append (.one rk)).append ((rl.mono eT.le).drop _)) q⟩
end
end DL

set_option Elab.async false
set_option linter.all false
set_option maxRecDepth 100000
set_option maxHeartbeats 1000000
/-! DLS: forms of promises; how a reading is opened. -/
namespace DL
open PySem L2 PyProof.Rows
def sp0 (f : (R → Prop) → (Str → Prop) → Prop) : Spec := fun ds Q E => match ds with
  | [] => f Q E
  | _ => False
def sp1 (f : D → (R → Prop) → (Str → Prop) → Prop) : Spec := fun ds Q E => match ds with
  | [a] => f a Q E
  | _ => False
def sp2 (f : D → D → (R → Prop) → (Str → Prop) → Prop) : Spec := fun ds Q E => match ds with
  | [a, b] => f a b Q E
  | _ => False
def sp3 (f : D → D → D → (R → Prop) → (Str → Prop) → Prop) : Spec := fun ds Q E => match ds with
  | [a, b, c] => f a b c Q E
  | _ => False
def sp4 (f : D → D → D → D → (R → Prop) → (Str → Prop) → Prop) : Spec := fun ds Q E => match ds with
  | [a, b, c, d] => f a b c d Q E
  | _ => False
def sp5 (f : D → D → D → D → D → (R → Prop) → (Str → Prop) → Prop) : Spec := fun ds Q E => match ds with
  | [a, b, c, d, e] => f a b c d e Q E
  | _ => False
def sp6 (f : D → D → D → D → D → D → (R → Prop) → (Str → Prop) → Prop) : Spec := fun ds Q E => match ds with
  | [x1, x2, x3, x4, x5, x6] => f x1 x2 x3 x4 x5 x6 Q E
  | _ => False
theorem sp6_len {f} {n : Nat} (hn : n = 6) (ds : List D) (Q : R → Prop) (E : Str → Prop) (h : sp6 f ds Q E) : ds.length = n := by
  subst hn
  match ds, h with
  | [_, _, _, _, _, _], _ => rfl
theorem sp6_w {f} {m : WS} {N : List Str} (h : ∀ x1 x2 x3 x4 x5 x6 Q E, f x1 x2 x3 x4 x5 x6 Q E → m (enD Q E) (startD N [x1, x2, x3, x4, x5, x6])) (ds : List D) (Q : R → Prop) (E : Str → Prop) (x : sp6 f ds Q E) : m (enD Q E) (startD N ds) := by
  match ds, x with
  | [_, _, _, _, _, _], x => exact h _ _ _ _ _ _ _ _ x
@[simp] theorem sp1_at (f) (a : D) (Q : R → Prop) (E : Str → Prop) : sp1 f [a] Q E = f a Q E := rfl
@[simp] theorem sp2_at (f) (a b : D) (Q : R → Prop) (E : Str → Prop) : sp2 f [a, b] Q E = f a b Q E := rfl
@[simp] theorem sp3_at (f) (a b c : D) (Q : R → Prop) (E : Str → Prop) : sp3 f [a, b, c] Q E = f a b c Q E := rfl
@[simp] theorem sp4_at (f) (a b c d : D) (Q : R → Prop) (E : Str → Prop) : sp4 f [a, b, c, d] Q E = f a b c d Q E := rfl
@[simp] theorem sp5_at (f) (a b c d e : D) (Q : R → Prop) (E : Str → Prop) : sp5 f [a, b, c, d, e] Q E = f a b c d e Q E := rfl
theorem sp0_len {f} {n : Nat} (hn : n = 0) (ds : List D) (Q : R → Prop) (E : Str → Prop) (h : sp0 f ds Q E) : ds.length = n := by
  subst hn
  match ds, h with
  | [], _ => rfl
theorem sp1_len {f} {n : Nat} (hn : n = 1) (ds : List D) (Q : R → Prop) (E : Str → Prop) (h : sp1 f ds Q E) : ds.length = n := by
  subst hn
  match ds, h with
  | [_], _ => rfl
theorem sp2_len {f} {n : Nat} (hn : n = 2) (ds : List D) (Q : R → Prop) (E : Str → Prop) (h : sp2 f ds Q E) : ds.length = n := by
  subst hn
  match ds, h with
  | [_, _], _ => rfl
theorem sp3_len {f} {n : Nat} (hn : n = 3) (ds : List D) (Q : R → Prop) (E : Str → Prop) (h : sp3 f ds Q E) : ds.length = n := by
  subst hn
  match ds, h with
  | [_, _, _], _ => rfl
theorem sp4_len {f} {n : Nat} (hn : n = 4) (ds : List D) (Q : R → Prop) (E : Str → Prop) (h : sp4 f ds Q E) : ds.length = n := by
  subst hn
  match ds, h with
  | [_, _, _, _], _ => rfl
theorem sp5_len {f} {n : Nat} (hn : n = 5) (ds : List D) (Q : R → Prop) (E : Str → Prop) (h : sp5 f ds Q E) : ds.length = n := by
  subst hn
  match ds, h with
  | [_, _, _, _, _], _ => rfl
section
variable {m : WS} {N : List Str}
theorem sp0_w {f} (h : ∀ Q E, f Q E → m (enD Q E) (startD N [])) (ds : List D) (Q : R → Prop) (E : Str → Prop) (x : sp0 f ds Q E) : m (enD Q E) (startD N ds) := by
  match ds, x with
  | [], x => exact h _ _ x
theorem sp1_w {f} (h : ∀ a Q E, f a Q E → m (enD Q E) (startD N [a])) (ds : List D) (Q : R → Prop) (E : Str → Prop) (x : sp1 f ds Q E) : m (enD Q E) (startD N ds) := by
  match ds, x with
  | [_], x => exact h _ _ _ x
theorem sp2_w {f} (h : ∀ a b Q E, f a b Q E → m (enD Q E) (startD N [a, b])) (ds : List D) (Q : R → Prop) (E : Str → Prop) (x : sp2 f ds Q E) : m (enD Q E) (startD N ds) := by
  match ds, x with
  | [_, _], x => exact h _ _ _ _ x
theorem sp3_w {f} (h : ∀ a b c Q E, f a b c Q E → m (enD Q E) (startD N [a, b, c])) (ds : List D) (Q : R → Prop) (E : Str → Prop) (x : sp3 f ds Q E) : m (enD Q E) (startD N ds) := by
  match ds, x with
  | [_, _, _], x => exact h _ _ _ _ _ x
theorem sp4_w {f} (h : ∀ a b c d Q E, f a b c d Q E → m (enD Q E) (startD N [a, b, c, d])) (ds : List D) (Q : R → Prop) (E : Str → Prop) (x : sp4 f ds Q E) : m (enD Q E) (startD N ds) := by
  match ds, x with
  | [_, _, _, _], x => exact h _ _ _ _ _ _ x
theorem sp5_w {f} (h : ∀ a b c d e Q E, f a b c d e Q E → m (enD Q E) (startD N [a, b, c, d, e])) (ds : List D) (Q : R → Prop) (E : Str → Prop) (x : sp5 f ds Q E) : m (enD Q E) (startD N ds) := by
  match ds, x with
  | [_, _, _, _, _], x => exact h _ _ _ _ _ _ _ x
end
@[simp] theorem enD_nx (Q : R → Prop) (E : Str → Prop) (e : Env) : (enD Q E).nx e = Q (.v .none) := rfl
@[simp] theorem enD_bk (Q : R → Prop) (E : Str → Prop) (e : Env) : (enD Q E).bk e = False := rfl
@[simp] theorem enD_ct (Q : R → Prop) (E : Str → Prop) (e : Env) : (enD Q E).ct e = False := rfl
@[simp] theorem enD_ex (Q : R → Prop) (E : Str → Prop) (n : Str) (e : Env) : (enD Q E).ex n e = E n := rfl
/-- the promises of defs whose value is a function of the arguments -/
abbrev fn1 (f : D → (R → Prop) → Prop) : Spec := sp1 fun a Q _ => f a Q
theorem list_get0 {α : Type} (a : α) (l : List α) : (a :: l)[0]? = some a := rfl
theorem list_getS {α : Type} (a : α) (l : List α) (n : Nat) : (a :: l)[n + 1]? = l[n]? := rfl
theorem getE1 {α : Type} (a b : α) (l : List α) : (a :: b :: l)[1]? = some b := rfl
theorem getE2 {α : Type} (a b c : α) (l : List α) : (a :: b :: c :: l)[2]? = some c := rfl
theorem getE3 {α : Type} (a b c d : α) (l : List α) : (a :: b :: c :: d :: l)[3]? = some d := rfl
theorem ints_of (ns : List Int) : ns.map PyData.int = ns.map PyData.int := rfl
end DL

set_option Elab.async false
set_option linter.all false
set_option maxRecDepth 100000
set_option maxHeartbeats 1000000
/-! DLH: from a law's promise to its row. -/
namespace DL
open PySem L2 PyProof.Rows
def S_law : Spec := sp1 fun a Q _ => ∃ ns : List Int, a = .list (ns.map PyData.int) ∧ ns.length ≤ 63 ∧ (∀ z ∈ ns, Builtin.Int.intBits z ≤ 1048576) ∧ Q (.v (.bool true))
theorem walk_EB {l : PySem.W.OpenLaw} {n k : Nat} {q : Program} {loose : List Str} {XP : (Str → Option Value) → Heap → Prop} {YP : World → Heap → Prop} {d : DefRec} {CX : World → CXT} {x : Str}
    (hn : l.most = some n) (hn2 : n ≤ sizeLine) (hdf : d.params.defaults = []) (hr : Room k callerA)
    (F : ∀ (w : World) (mg : Str → Option Value) (fa : Addr) (h : Heap), YP w h → h.Ns mainGlobals mg → mg d.name = some (.ref fa) →
      ∃ (K : PySem.W.Frag) (fd : FuncData) (sp : Sp), K.In h ∧ (∀ (s : Shared) (u : Value), BindsTo s fd ⟨[u], []⟩ [(x, u)]) ∧
        (∀ (H : Hp) (a : Addr) (ns : List Int), ns.length ≤ n → (∀ z ∈ ns, Builtin.Int.intBits z ≤ 1048576) → Only H → SqL K H a (ns.map V.int) → sp [.ref a] H (fun v _ => v = .bl true) fun _ _ _ => False) ∧
        ∀ base : Heap, K.In base → base.Ns mainGlobals mg → FnOk l.prog w K mg base (CX w) k fa fd [x] sp)
    (hCX : ∀ (w : World) (H : Hp) (s : Shared) (e : Value) (s' : Shared), CX w [] H s (fun _ _ _ => False) e s' → False) :
    PySem.W.WalkO q loose XP YP l.row.toRowW d [] (fun f vs => PySem.call f vs) := by
  refine Att.attach_callB hn hdf fun w s₀ s₁ mg mb fa o pm cd doc a vs ns G Y ho hd hcd hmg hobj hints hlen hbits hg => ?_
  obtain ⟨K, fd, sp, KX, hb, hsp, hF⟩ := F w mg fa _ Y G.T.g hmg
  exact law_call KX G.T.g G.T.b G.T.builtins G.T.nolimit hg hobj hints (Nat.le_trans hlen hn2) hr hF hb (fun H hO hS => hsp H a ns hlen hbits hO hS) fun H e s' => hCX w H s₁ e s'
theorem cx_none {P : Program} (w : World) (H : Hp) (s : Shared) (e : Value) (s' : Shared) (h : L2.CX P w [] H s (fun _ _ _ => False) e s') : False := by
  obtain ⟨_, _, _, _, _, _, _, _, _, _, _, _, z⟩ := h
  exact z.elim
theorem law_sp {K : K0} {mg : Str → Option Value} (H : Hp) (a : Addr) (ns : List Int) (hl : ns.length ≤ 63) (hb : ∀ z ∈ ns, Builtin.Int.intBits z ≤ 1048576) (_ : Only H) (hS : SqL K H a (ns.map V.int)) :
    dsp K mg S_law [.ref a] H (fun v _ => v = .bl true) fun _ _ _ => False := by
  refine ⟨H, [.list (ns.map PyData.int)], fun r => r.d = .bool true, fun _ => False, .refl H, .cons (.lst hS .ints) .nil, ⟨ns, rfl, hl, hb, rfl⟩, fun v H' B' r e w _ q => ?_, fun _ _ _ h => h.elim⟩
  have h := w.now e
  have q : r.d = .bool true := q
  rw [q] at h
  exact h.bool_inv
/-- the facts that are asked of each text's top -/
def fas0 : List He.Fa := [.free "len", .free "range", .free "isinstance", .free "int", .free "bool", .free "str", .free "list", .free "tuple", .free "dict", .free "set", .free "sorted", .free "sum", .free "max", .free "min", .free "all", .free "any", .free "ord", .free "zip",
  .free "enumerate", .free "reversed", .free "divmod", .free "ValueError"]
section
variable {K : K0} {h : Heap} {mg : Str → Option Value} {fa : List He.Fa} {fn : List He.DefD}
theorem gb_of (X : K.In h) (G : h.Ns mainGlobals mg) (c : He.SaysD (fas0 ++ fa) fn K) : Gb mg where
  len := He.free_ok X G (c.fact 0 (f := .free "len") rfl)
  range := He.free_ok X G (c.fact 1 (f := .free "range") rfl)
  isinstance := He.free_ok X G (c.fact 2 (f := .free "isinstance") rfl)
  int := He.free_ok X G (c.fact 3 (f := .free "int") rfl)
  bool := He.free_ok X G (c.fact 4 (f := .free "bool") rfl)
  str := He.free_ok X G (c.fact 5 (f := .free "str") rfl)
  list := He.free_ok X G (c.fact 6 (f := .free "list") rfl)
  tuple := He.free_ok X G (c.fact 7 (f := .free "tuple") rfl)
  dict := He.free_ok X G (c.fact 8 (f := .free "dict") rfl)
  set := He.free_ok X G (c.fact 9 (f := .free "set") rfl)
  sorted := He.free_ok X G (c.fact 10 (f := .free "sorted") rfl)
  sum := He.free_ok X G (c.fact 11 (f := .free "sum") rfl)
  max := He.free_ok X G (c.fact 12 (f := .free "max") rfl)
  min := He.free_ok X G (c.fact 13 (f := .free "min") rfl)
  all := He.free_ok X G (c.fact 14 (f := .free "all") rfl)
  any := He.free_ok X G (c.fact 15 (f := .free "any") rfl)
  ord := He.free_ok X G (c.fact 16 (f := .free "ord") rfl)
  zip := He.free_ok X G (c.fact 17 (f := .free "zip") rfl)
  enumerate := He.free_ok X G (c.fact 18 (f := .free "enumerate") rfl)
  reversed := He.free_ok X G (c.fact 19 (f := .free "reversed") rfl)
  divmod := He.free_ok X G (c.fact 20 (f := .free "divmod") rfl)
  ValueError := He.free_ok X G (c.fact 21 (f := .free "ValueError") rfl)
/-- a def's function object and its place -/
theorem fun_of (X : K.In h) (G : h.Ns mainGlobals mg) (c : He.SaysD fa fn K) {x : Str} {st : Stmt} (i j : Nat) (hi : fn[i]? = some ⟨(x, none), x, x, defArgs st, defBody st, defScope st, [], []⟩) (hj : fa[j]? = some (.glo x)) :
    ∃ (f : Addr) (fd : FuncData), FunD K x x (defArgs st) (defBody st) (defScope st) [] [] f fd ∧ mg x = some (.ref f) := by
  obtain ⟨fd, F⟩ := c.def_ i hi
  exact ⟨_, fd, F, He.glo_ok X G (c.fact j hj)⟩
theorem ex_of (X : K.In h) (G : h.Ns mainGlobals mg) (c : He.SaysD fa fn K) {x : Str} (i j : Nat) (hi : fa[i]? = some (.exc x)) (hj : fa[j]? = some (.glo x)) : ExAt K mg x := by
  obtain ⟨h1, h2, h3, h4⟩ := He.exc_ok (c.fact i hi)
  exact ⟨_, He.glo_ok X G (c.fact j hj), h1, h2, h3, h4⟩
theorem law_binds {st : Stmt} {f : Addr} {fd : FuncData} (F : FunD K "law" "law" (defArgs st) (defBody st) (defScope st) [] [] f fd)
    (h : ∀ (kV doc pm : Value) (an : Option Addr) (cdv ct : Value) (us : List Value), us.length = 1 → bindArgs (PySem.W.fnOf "law" "law" (defArgs st) (defBody st) (defScope st) .none kV doc pm an cdv ct) ⟨us, []⟩ = pure ((["script"] : List Str).zip us)) (s : Shared) (u : Value) : BindsTo s fd ⟨[u], []⟩ [("script", u)] :=
  FunD.bindsA (ps := ["script"]) F h s [u] rfl
end
end DL

set_option Elab.async false
set_option linter.all false
set_option maxRecDepth 100000
set_option maxHeartbeats 1000000
/-! DLE: equal data, choices. -/
namespace DL
open PySem L2 PyProof.Rows
theorem ite_i {c : Prop} [Decidable c] {a b : Prop} (h1 : c → a) (h2 : ¬c → b) : if c then a else b := by
  by_cases h : c
  · rw [if_pos h]; exact h1 h
  · rw [if_neg h]; exact h2 h
/-- data without dicts, no deeper than k -/
def Sh (k : Nat) (d : D) : Prop := d.canLay0 = true ∧ d.depth ≤ k
theorem Sh.shaped {k : Nat} {d : D} (h : Sh k d) (hk : k ≤ 64) : SeqAt.shaped d = true := by
  unfold SeqAt.shaped
  rw [h.1, decide_eq_true (Nat.le_trans h.2 hk)]; rfl
theorem Sh.mono {k j : Nat} {d : D} (h : Sh k d) (hk : k ≤ j) : Sh j d := ⟨h.1, Nat.le_trans h.2 hk⟩
theorem sh_int (k : Nat) (i : Int) : Sh k (.int i) := ⟨by simp [PyData.canLay0], by simp [PyData.depth]⟩
theorem sh_bool (k : Nat) (i : Bool) : Sh k (.bool i) := ⟨by simp [PyData.canLay0], by simp [PyData.depth]⟩
theorem sh_none (k : Nat) : Sh k .none := ⟨by simp [PyData.canLay0], by simp [PyData.depth]⟩
theorem sh_str (k : Nat) {x : Str} (h : PyData.strOk x = true) : Sh k (.str x) := ⟨by simp [PyData.canLay0, h], by simp [PyData.depth]⟩
theorem sh_all {k : Nat} : ∀ {ds : List D}, (∀ x ∈ ds, Sh k x) → PyData.canLayAll0 ds = true ∧ PyData.depthAll ds ≤ k
  | [], _ => ⟨by simp [PyData.canLayAll0], by simp [PyData.depthAll]⟩
  | x :: xs, h => by
    obtain ⟨h1, h2⟩ := sh_all (ds := xs) fun y m => h y (List.mem_cons_of_mem _ m)
    obtain ⟨h3, h4⟩ := h x (List.mem_cons_self ..)
    exact ⟨by simp [PyData.canLayAll0, h1, h3], by simp [PyData.depthAll]; omega⟩
theorem sh_list {k : Nat} {ds : List D} (h : ∀ x ∈ ds, Sh k x) : Sh (k + 1) (.list ds) := by
  obtain ⟨h1, h2⟩ := sh_all h
  exact ⟨by simp [PyData.canLay0, h1], by simp [PyData.depth]; omega⟩
theorem sh_tuple {k : Nat} {ds : List D} (h : ∀ x ∈ ds, Sh k x) : Sh (k + 1) (.tuple ds) := by
  obtain ⟨h1, h2⟩ := sh_all h
  exact ⟨by simp [PyData.canLay0, h1], by simp [PyData.depth]; omega⟩
theorem eqv_self {k : Nat} {d : D} (h : Sh k d) : PyData.eqv d d = true := SeqAt.eqv_refl d h.1
mutual
/-- no truth values, no dicts within: equal by == is equal -/
def pl : D → Bool
  | .none => true
  | .bool _ => false
  | .int _ => true
  | .str _ => true
  | .list xs => pls xs
  | .tuple xs => pls xs
  | .dict _ => false
def pls : List D → Bool
  | [] => true
  | x :: xs => pl x && pls xs
end
theorem pls_all : ∀ {ds : List D}, (∀ x ∈ ds, pl x = true) → pls ds = true
  | [], _ => by rw [pls]
  | x :: xs, h => by
    rw [pls, h x (List.mem_cons_self ..), pls_all fun y m => h y (List.mem_cons_of_mem _ m)]; rfl
mutual
theorem eqv_pl : ∀ {a b : D}, pl a = true → pl b = true → (PyData.eqv a b = true ↔ a = b)
  | .none, b, _, h => by cases b <;> simp [PyData.eqv, pl] at h ⊢
  | .bool _, _, h, _ => by simp [pl] at h
  | .dict _, _, h, _ => by simp [pl] at h
  | .int _, b, _, h => by cases b <;> simp [PyData.eqv, pl] at h ⊢
  | .str _, b, _, h => by cases b <;> simp [PyData.eqv, pl] at h ⊢
  | .list xs, b, ha, h => by
    rw [pl] at ha
    cases b <;> first | (simp [PyData.eqv, pl] at h ⊢; done) | skip
    rename_i ys
    rw [pl] at h
    simp only [PyData.eqv, PyData.list.injEq]
    exact eqv_pls ha h
  | .tuple xs, b, ha, h => by
    rw [pl] at ha
    cases b <;> first | (simp [PyData.eqv, pl] at h ⊢; done) | skip
    rename_i ys
    rw [pl] at h
    simp only [PyData.eqv, PyData.tuple.injEq]
    exact eqv_pls ha h
theorem eqv_pls : ∀ {a b : List D}, pls a = true → pls b = true → (PyData.eqvAll a b = true ↔ a = b)
  | [], [], _, _ => by simp [PyData.eqvAll]
  | [], _ :: _, _, _ => by simp [PyData.eqvAll]
  | _ :: _, [], _, _ => by simp [PyData.eqvAll]
  | x :: xs, y :: ys, ha, hb => by
    rw [pls, Bool.and_eq_true] at ha hb
    rw [PyData.eqvAll, Bool.and_eq_true, eqv_pl ha.1 hb.1, eqv_pls ha.2 hb.2]
    simp
end
/-- lists of whole numbers -/
abbrev iL (ns : List Int) : List D := ns.map PyData.int
abbrev nL (ns : List Nat) : List D := ns.map fun (n : Nat) => PyData.int (n : Int)
theorem sh_iL (ns : List Int) : Sh 1 (.list (iL ns)) := sh_list fun x m => by
  obtain ⟨n, _, e⟩ := List.mem_map.mp m
  subst e; exact sh_int 0 n
theorem sh_nL (ns : List Nat) : Sh 1 (.list (nL ns)) := sh_list fun x m => by
  obtain ⟨n, _, e⟩ := List.mem_map.mp m
  subst e; exact sh_int 0 n
theorem pl_iL (ns : List Int) : pl (.list (iL ns)) = true := by
  rw [pl]; exact pls_all fun x m => by
    obtain ⟨n, _, e⟩ := List.mem_map.mp m
    subst e; rw [pl]
theorem pl_nL (ns : List Nat) : pl (.list (nL ns)) = true := by
  rw [pl]; exact pls_all fun x m => by
    obtain ⟨n, _, e⟩ := List.mem_map.mp m
    subst e; rw [pl]
theorem nL_inj {a b : List Nat} (h : nL a = nL b) : a = b := by
  refine (List.map_inj_right fun x y e => ?_).mp h
  exact Int.ofNat.inj (PyData.int.inj e)
theorem okEq_lists {k : Nat} {a b : List D} (h1 : Sh k (.list a)) (h2 : Sh k (.list b)) (hk : k ≤ 64) : okEq (.list a) (.list b) := ⟨h1.shaped hk, h2.shaped hk⟩
theorem okEq_tups {k : Nat} {a b : List D} (h1 : Sh k (.tuple a)) (h2 : Sh k (.tuple b)) (hk : k ≤ 64) : okEq (.tuple a) (.tuple b) := ⟨h1.shaped hk, h2.shaped hk⟩
theorem mul_by {a b : Int} (h : b.natAbs < 2 ^ 64) : CMulG a b := IntMulOk.of_right (intBits_le_64 (by omega) (by omega))
theorem mul_of {a b : Int} (h : a.natAbs < 2 ^ 64) : CMulG a b := IntMulOk.of_left (intBits_le_64 (by omega) (by omega))
/-- a row of numbers from lo -/
theorem rgD_get {lo : Int} {n i : Nat} {d : D} (h : (rgD lo n)[i]? = some d) : i < n ∧ d = .int (lo + (i : Int)) := by
  unfold rgD at h
  rw [List.getElem?_map] at h
  cases e : (List.range n)[i]? with
  | none => rw [e] at h; cases h
  | some j =>
    rw [e] at h
    obtain ⟨h1, h2⟩ := List.getElem?_eq_some_iff.mp e
    simp at h h1 h2
    subst h2
    exact ⟨h1, h.symm⟩
theorem rgD_0 (n : Nat) : rgD 0 n = nL (List.range n) := by simp [rgD]
theorem map_get {α : Type} {f : α → D} {l : List α} {i : Nat} {d : D} (h : (l.map f)[i]? = some d) : ∃ x, l[i]? = some x ∧ d = f x := by
  rw [List.getElem?_map] at h
  cases e : l[i]? with
  | none => rw [e] at h; cases h
  | some x => rw [e] at h; exact ⟨x, rfl, (Option.some.inj h).symm⟩
theorem sizeLine_eq : sizeLine = 16777216 := by decide
/-- what the middle of a for's reading asks -/
def FoI (ds : List D) (g : WG) (body : WS) (D : En) (env : Env) : Prop := ∃ J : Nat → Env → Prop, J 0 env ∧ (∀ i d env', ds[i]? = some d → J i env' → g d env' fun env2 => body { D with nx := J (i + 1), ct := J (i + 1), bk := D.nx } env2) ∧ ∀ env', J ds.length env' → D.nx env'
theorem wFor_eq (it : WI) (g : WG) (body : WS) (D : En) (env : Env) : wFor it g body D env = it env (fun ds => FoI ds g body D env) (fun n => D.ex n env) := rfl
/-- a turn of a for is over -/
def NxF {α : Type} (st : α → Env) (I : Nat → α → Prop) (i : Nat) : Env → Prop := fun e => ∃ y, e = st y ∧ I i y
theorem nxF {α : Type} {st : α → Env} {I : Nat → α → Prop} {i : Nat} {e : Env} (y : α) (he : e = st y) (hI : I i y) : NxF st I i e := ⟨y, he, hI⟩
theorem for_go {α : Type} {g : WG} {body : WS} {D : En} {env : Env} {ds : List PyData} (st : α → Env) (I : Nat → α → Prop) (x0 : α) (h0 : env = st x0) (hI : I 0 x0)
    (step : ∀ i d x, ds[i]? = some d → I i x → g d (st x) fun env2 => body { D with nx := NxF st I (i + 1), ct := NxF st I (i + 1), bk := D.nx } env2) (fin : ∀ x, I ds.length x → D.nx (st x)) :
    FoI ds g body D env := for_st st I x0 h0 hI step fin
/-- a turn of a while is over -/
def NxW {α : Type} (st : α → Env) (I : α → Prop) (μ : α → Nat) (n : Nat) : Env → Prop := fun e => ∃ m, m < n ∧ ∃ y, e = st y ∧ I y ∧ m = μ y
theorem nxW {α : Type} {st : α → Env} {I : α → Prop} {μ : α → Nat} {n : Nat} {e : Env} (y : α) (he : e = st y) (hI : I y) (hm : μ y < n) : NxW st I μ n e := ⟨_, hm, y, he, hI, rfl⟩
theorem while_go {α : Type} {c : WT} {body : WS} {D : En} {env : Env} (st : α → Env) (I : α → Prop) (μ : α → Nat) (x0 : α) (h0 : env = st x0) (hI : I x0)
    (step : ∀ x, I x → c (st x) (fun k => if k = true then body { D with nx := NxW st I μ (μ x), ct := NxW st I μ (μ x), bk := D.nx } (st x) else D.nx (st x)) (fun n => D.ex n (st x))) : wWhile c body D env := while_st st I μ x0 h0 hI step
theorem cpow_ok {i j : Int} (h0 : 0 ≤ j) (h1 : j ≤ 1000000) (h2 : i.natAbs < 2 ^ 64) : CPow i j := ⟨h0, h1, h2⟩
theorem cdiv_ok {i j : Int} (h0 : 0 < j) (h1 : j.natAbs.log2 < 9000) : CDivW i j := ⟨h0, h1⟩
theorem bor_nat (a b : Nat) : Builtin.bitOr (a : Int) (b : Int) = ((a ||| b : Nat) : Int) := by
  rw [bitOr_nn (by omega) (by omega)]; rfl
theorem shl_nat (l : Nat) : (1 : Int) * 2 ^ ((l : Nat) : Int).toNat = ((2 ^ l : Nat) : Int) := by simp
theorem shr_nat (a l : Nat) : (a : Int) / 2 ^ ((l : Nat) : Int).toNat = ((a / 2 ^ l : Nat) : Int) := by simp
theorem band1_nat (a : Nat) : Builtin.bitAnd (a : Int) 1 = ((a % 2 : Nat) : Int) := by
  rw [show (1 : Int) = ((1 : Nat) : Int) from rfl, PySem.W.os_band, Nat.and_one_is_mod]
/-- comprehensions over a list of alike things -/
theorem lc_mapE {α : Type} {ls : List α} {enc : α → D} {env : Env} {vs : List Nat} {g : WG} {t : WE} {Q : R → Prop} (f : α → D) (hz : ls.length ≤ sizeLine)
    (h : ∀ x ∈ ls, ∀ A : R → Prop, (∀ r, r.st → r.d = f x → A r) → g (enc x) (wipeE env vs) fun env2 => t env2 A noE) (q : Q (.t (.lst (ls.map f)))) : LcI env (ls.map enc) vs g wYes t Q := by
  refine ⟨fun i acc => acc = (ls.take i).map f, by simp, fun i d acc hd ha => ?_, fun acc ha => ?_⟩
  · obtain ⟨x, hx, e⟩ := map_get hd
    subst e
    have ha : acc = (ls.take i).map f := ha
    refine h x (List.mem_of_getElem? hx) (fun r => r.st ∧ acc.length < sizeLine ∧ acc ++ [r.d] = (ls.take (i + 1)).map f) fun r rs rd => ⟨rs, ?_, ?_⟩
    · have hi := (List.getElem?_eq_some_iff.mp hx).1
      rw [ha, List.length_map, List.length_take]
      omega
    · rw [take_succ hx, List.map_append, ha, rd]; rfl
  · have ha : acc = (ls.take (ls.map enc).length).map f := ha
    rw [ha, List.length_map, List.take_length]; exact q
theorem lc_filterE {α : Type} {ls : List α} {enc : α → D} {env : Env} {vs : List Nat} {g : WG} {c : WT} {t : WE} {Q : R → Prop} (p : α → Bool) (f : α → D) (hz : ls.length ≤ sizeLine)
    (h : ∀ x ∈ ls, ∀ (A : R → Prop) (B : Prop), (p x = true → ∀ r, r.st → r.d = f x → A r) → (p x = false → B) → g (enc x) (wipeE env vs) fun env2 => c env2 (fun k => if k = true then t env2 A noE else B) noE)
    (q : Q (.t (.lst ((ls.filter p).map f)))) : LcI env (ls.map enc) vs g c t Q := by
  refine ⟨fun i acc => acc = ((ls.take i).filter p).map f, by simp, fun i d acc hd ha => ?_, fun acc ha => ?_⟩
  · obtain ⟨x, hx, e⟩ := map_get hd
    subst e
    have ha : acc = ((ls.take i).filter p).map f := ha
    refine h x (List.mem_of_getElem? hx) _ _ (fun pd r rs rd => ⟨rs, ?_, ?_⟩) fun pd => ?_
    · have hi := (List.getElem?_eq_some_iff.mp hx).1
      rw [ha, List.length_map]
      have h1 := List.length_filter_le p (ls.take i)
      rw [List.length_take] at h1
      omega
    · show acc ++ [r.d] = ((ls.take (i + 1)).filter p).map f
      rw [take_succ hx, List.filter_append, List.map_append, ha, rd]
      simp [pd]
    · show acc = ((ls.take (i + 1)).filter p).map f
      rw [take_succ hx, List.filter_append, ha]
      simp [pd]
  · have ha : acc = ((ls.take (ls.map enc).length).filter p).map f := ha
    rw [ha, List.length_map, List.take_length]; exact q
/-- a for over a list of alike things -/
theorem for_goE {α β : Type} {ls : List β} {enc : β → D} {g : WG} {body : WS} {D : En} {env : Env} (st : α → Env) (I : Nat → α → Prop) (x0 : α) (h0 : env = st x0) (hI : I 0 x0)
    (step : ∀ i d x, ls[i]? = some d → I i x → g (enc d) (st x) fun env2 => body { D with nx := NxF st I (i + 1), ct := NxF st I (i + 1), bk := D.nx } env2) (fin : ∀ x, I ls.length x → D.nx (st x)) :
    FoI (ls.map enc) g body D env := for_go st I x0 h0 hI (fun i d x hd hx => by
      obtain ⟨y, hy, e⟩ := map_get hd
      subst e
      exact step i y x hy hx) fun x hx => fin x (by rw [List.length_map] at hx; exact hx)
/-! ### the cases, each by itself -/
section
variable (Q : R → Prop) (q : Bool → Prop) (z : D → Prop)
theorem bAdd_i (i j : Int) : bAdd (.int i) (.int j) Q = Q (.v (.int (i + j))) := rfl
theorem bAdd_s (i j : Str) : bAdd (.str i) (.str j) Q = (i.length + j.length ≤ sizeLine ∧ Q (.v (.str (i ++ j)))) := rfl
theorem bAdd_l (i j : List D) : bAdd (.list i) (.list j) Q = (i.length + j.length ≤ sizeLine ∧ Q (.t (.lst (i ++ j)))) := rfl
theorem bAdd_t (i j : List D) : bAdd (.tuple i) (.tuple j) Q = (i.length + j.length ≤ sizeLine ∧ Q (.v (.tuple (i ++ j)))) := rfl
theorem lenD_s (i : Str) : lenD (.str i) Q = (i.length ≤ sizeLine ∧ Q (.v (.int i.length))) := rfl
theorem lenD_l (i : List D) : lenD (.list i) Q = Q (.v (.int i.length)) := rfl
theorem lenD_t (i : List D) : lenD (.tuple i) Q = Q (.v (.int i.length)) := rfl
theorem lenD_d (i : List (D × D)) : lenD (.dict i) Q = Q (.v (.int i.length)) := rfl
theorem min2D_s (i j : Str) : min2D (.str i) (.str j) Q = Q (.v (.str (if j.cps.toList < i.cps.toList then j else i))) := rfl
theorem min2D_i (i j : Int) : min2D (.int i) (.int j) Q = Q (.v (.int (if j < i then j else i))) := rfl
theorem max2D_i (i j : Int) : max2D (.int i) (.int j) Q = Q (.v (.int (if j > i then j else i))) := rfl
theorem sumD_l (i : List D) : sumD (.list i) Q = ∃ ns : List Int, i = ns.map PyData.int ∧ Q (.v (.int ns.sum)) := rfl
theorem maxD_l (i : List D) : maxD (.list i) Q = ∃ ns : List Int, i = ns.map PyData.int ∧ 0 < ns.length ∧ ∀ m, isGreatest ns m → Q (.v (.int m)) := rfl
theorem minD_l (i : List D) : minD (.list i) Q = ∃ ns : List Int, i = ns.map PyData.int ∧ 0 < ns.length ∧ ∀ m, isLeast ns m → Q (.v (.int m)) := rfl
theorem allD_l (i : List D) : allD (.list i) Q = ∃ bs : List Bool, i = bs.map PyData.bool ∧ Q (.v (.bool (bs.all id))) := rfl
theorem anyD_l (i : List D) : anyD (.list i) Q = ∃ bs : List Bool, i = bs.map PyData.bool ∧ Q (.v (.bool (bs.any id))) := rfl
theorem ordD_s (i : Str) : ordD (.str i) Q = (i.length = 1 ∧ Q (.v (.int (i.cps.getD 0 0 : Nat)))) := rfl
theorem strD_i (i : Int) : strD (.int i) Q = (i.natAbs.log2 < 1920 ∧ Q (.v (.str (toString i)))) := rfl
theorem intD_i (i : Int) : intD (.int i) Q = Q (.v (.int i)) := rfl
theorem intD_b (i : Bool) : intD (.bool i) Q = Q (.v (.int (if i then 1 else 0))) := rfl
theorem intD_s (i : Str) : intD (.str i) Q = ∃ n, PySem.intText? i = some n ∧ i.length ≤ 640 ∧ Q (.v (.int n)) := rfl
theorem listD_l (i : List D) : listD (.list i) Q = Q (.t (.lst i)) := rfl
theorem listD_t (i : List D) : listD (.tuple i) Q = Q (.t (.lst i)) := rfl
theorem tupleD_l (i : List D) : tupleD (.list i) Q = Q (.v (.tuple i)) := rfl
theorem tupleD_t (i : List D) : tupleD (.tuple i) Q = Q (.v (.tuple i)) := rfl
theorem slD_l (i : List D) (lo hi : Option Int) : slD (.list i) lo hi Q = Q (.t (.lst (cut i lo hi))) := rfl
theorem slD_t (i : List D) (lo hi : Option Int) : slD (.tuple i) lo hi Q = Q (.v (.tuple (cut i lo hi))) := rfl
theorem slD_s (i : Str) (lo hi : Option Int) : slD (.str i) lo hi Q = (i.length ≤ sizeLine ∧ Q (.v (.str (cutS i lo hi)))) := rfl
theorem ixD_l (ds : List D) (i : Int) : ixD (.list ds) (.int i) z = ∃ d, atI ds i = some d ∧ z d := rfl
theorem ixD_t (ds : List D) (i : Int) : ixD (.tuple ds) (.int i) z = ∃ d, atI ds i = some d ∧ z d := rfl
theorem ixD_s (x : Str) (i : Int) : ixD (.str x) (.int i) z = (x.length ≤ sizeLine ∧ ∃ c, atI x.cps.toList i = some c ∧ z (.str ⟨#[c]⟩)) := rfl
theorem ixD_d (kvs : List (D × D)) (k : D) : ixD (.dict kvs) k z = ∃ j d, keyD k = some j ∧ lookK kvs j = some d ∧ z d := rfl
theorem cI_i (p a c) (i j : Int) : cI p a c (.int i) (.int j) q = q (p i j) := rfl
theorem cI_s (p a c) (i j : Str) : cI p a c (.str i) (.str j) q = q (a i j) := rfl
theorem cI_t (p a c) (xs ys : List D) : cI p a c (.tuple xs) (.tuple ys) q = ∃ ns ms, xs = ns.map PyData.int ∧ ys = ms.map PyData.int ∧ q (c ns ms) := rfl
theorem cI0_i (p a) (i j : Int) : cI0 p a (.int i) (.int j) q = q (p i j) := rfl
theorem cI0_s (p a) (i j : Str) : cI0 p a (.str i) (.str j) q = q (a i j) := rfl
theorem cIs_n (x : D) : cIs x .none q = q (isN x) := rfl
theorem cIsNot_n (x : D) : cIsNot x .none q = q (!isN x) := rfl
theorem cIn_l (neg : Bool) (x : D) (ys : List D) : cIn neg x (.list ys) q = (flatD x = true ∧ ys.all flatD = true ∧ q (neg != memD x ys)) := rfl
theorem cIn_t (neg : Bool) (x : D) (ys : List D) : cIn neg x (.tuple ys) q = (flatD x = true ∧ ys.all flatD = true ∧ q (neg != memD x ys)) := rfl
theorem cIn_d (neg : Bool) (x : D) (ys : List (D × D)) : cIn neg x (.dict ys) q = ∃ k, keyD x = some k ∧ q (neg != (lookK ys k).isSome) := rfl
theorem cIn_s (neg : Bool) (i j : Str) : cIn neg (.str i) (.str j) q = q (neg != !(Builtin.Str.occurrences j i 0 j.length 1).isEmpty) := rfl
theorem tru_n : tru .none q = q false := rfl
theorem tru_b (b : Bool) : tru (.bool b) q = q b := rfl
theorem tru_i (b : Int) : tru (.int b) q = q (b != 0) := rfl
theorem tru_s (b : Str) : tru (.str b) q = (b.length ≤ sizeLine ∧ q ((b.length : Int) != 0)) := rfl
theorem tru_l (b : List D) : tru (.list b) q = q (!b.isEmpty) := rfl
theorem tru_t (b : List D) : tru (.tuple b) q = q (!b.isEmpty) := rfl
end
/-! ### slices -/
theorem cut_to {α : Type} (xs : List α) (j : Nat) : cut xs none (some (j : Int)) = xs.take j := by
  unfold cut
  rw [HT.sIx_none, HT.sIx_nat, List.drop_zero, Nat.sub_zero]
  by_cases h : j ≤ xs.length
  · rw [Nat.min_eq_left h]
  · rw [Nat.min_eq_right (by omega), List.take_length, List.take_of_length_le (by omega)]
theorem cut_from {α : Type} (xs : List α) (j : Nat) : cut xs (some (j : Int)) none = xs.drop j := by
  unfold cut
  rw [HT.sIx_none, HT.sIx_nat]
  by_cases h : j ≤ xs.length
  · rw [Nat.min_eq_left h, List.take_of_length_le (by simp)]
  · rw [Nat.min_eq_right (by omega), List.drop_length, List.drop_of_length_le (by omega)]; simp
theorem cut_in {α : Type} (xs : List α) (i j : Nat) : cut xs (some (i : Int)) (some (j : Int)) = (xs.take j).drop i := by
  unfold cut
  rw [HT.sIx_nat, HT.sIx_nat, List.drop_take]
  by_cases h : i ≤ xs.length
  · rw [Nat.min_eq_left h]
    by_cases h2 : j ≤ xs.length
    · rw [Nat.min_eq_left h2]
    · rw [Nat.min_eq_right (by omega), List.take_of_length_le (by simp), List.take_of_length_le (by simp; omega)]
  · rw [show min i xs.length = xs.length from by omega, List.drop_length, List.drop_of_length_le (by omega)]; simp
theorem cut_all {α : Type} (xs : List α) : cut xs none none = xs := by
  unfold cut
  rw [HT.sIx_none, HT.sIx_none]
  simp
theorem cut_front {α : Type} (xs : List α) : cut xs none (some (-1)) = xs.dropLast := by
  unfold cut
  have e : HT.sIx xs.length xs.length (some (-1)) = xs.length - 1 := by
    simp only [HT.sIx]
    rw [if_pos (by decide)]; omega
  rw [HT.sIx_none, e, List.dropLast_eq_take]
  simp
theorem atI_nat {α : Type} (xs : List α) (i : Nat) : atI xs (i : Int) = xs[i]? := by
  unfold atI ixN
  rw [if_pos (by omega)]
  by_cases h : i < xs.length
  · rw [if_pos (by omega)]; rfl
  · rw [if_neg (by omega), List.getElem?_eq_none (by omega)]; rfl
end DL

set_option Elab.async false
set_option linter.all false
set_option maxRecDepth 100000
set_option maxHeartbeats 1000000
/-! DLF: loops by the slots that they change; comprehensions by relations. -/
namespace DL
open PySem L2 PyProof.Rows
/-- some slots set -/
def setL (env : Env) : List Nat → List (Option O) → Env
  | i :: is, o :: os => setL (env.set i o) is os
  | _, _ => env
/-! bits -/
theorem and_div2 (a b : Nat) : (a &&& b) / 2 = a / 2 &&& b / 2 := by
  have h : (a &&& b) >>> 1 = a >>> 1 &&& b >>> 1 := by simp [Nat.shiftRight_and_distrib]
  simpa [Nat.shiftRight_eq_div_pow] using h
theorem and_mod2 (a b : Nat) : (a &&& b) % 2 = (a % 2) * (b % 2) := by
  have := Nat.and_mod_two_pow (a := a) (b := b) (n := 1)
  simp only [Nat.pow_one] at this
  rw [this]
  have ha : a % 2 = 0 ∨ a % 2 = 1 := by omega
  have hb : b % 2 = 0 ∨ b % 2 = 1 := by omega
  rcases ha with ha | ha <;> rcases hb with hb | hb <;> rw [ha, hb] <;> decide
theorem or_div2 (a b : Nat) : (a ||| b) / 2 = a / 2 ||| b / 2 := by
  have h : (a ||| b) >>> 1 = a >>> 1 ||| b >>> 1 := by simp [Nat.shiftRight_or_distrib]
  simpa [Nat.shiftRight_eq_div_pow] using h
theorem xor_div2 (a b : Nat) : (a ^^^ b) / 2 = a / 2 ^^^ b / 2 := by
  have h : (a ^^^ b) >>> 1 = a >>> 1 ^^^ b >>> 1 := by simp [Nat.shiftRight_xor_distrib]
  simpa [Nat.shiftRight_eq_div_pow] using h
theorem or_mod2 (a b : Nat) : (a ||| b) % 2 = (a % 2) ||| (b % 2) := by
  have := Nat.or_mod_two_pow (a := a) (b := b) (n := 1)
  simpa only [Nat.pow_one] using this
theorem xor_mod2 (a b : Nat) : (a ^^^ b) % 2 = (a % 2) ^^^ (b % 2) := by
  have := Nat.xor_mod_two_pow (a := a) (b := b) (n := 1)
  simpa only [Nat.pow_one] using this
theorem xor_and (a : Nat) : ∀ b : Nat, (a ^^^ b) + (a &&& b) = a ||| b := by
  induction a using Nat.strongRecOn with
  | ind a ih =>
    intro b
    by_cases h0 : a = 0
    · subst h0; simp
    have h := ih (a / 2) (by omega) (b / 2)
    have e1 := Nat.div_add_mod (a ^^^ b) 2
    have e2 := Nat.div_add_mod (a &&& b) 2
    have e3 := Nat.div_add_mod (a ||| b) 2
    rw [xor_div2, xor_mod2] at e1
    rw [and_div2, and_mod2] at e2
    rw [or_div2, or_mod2] at e3
    have ha : a % 2 = 0 ∨ a % 2 = 1 := by omega
    have hb : b % 2 = 0 ∨ b % 2 = 1 := by omega
    rcases ha with ha | ha <;> rcases hb with hb | hb <;> rw [ha, hb] at e1 e2 e3 <;> simp at e1 e2 e3 <;> omega
theorem bxor_nat (a b : Nat) : Builtin.bitXor (a : Int) (b : Int) = ((a ^^^ b : Nat) : Int) := by
  have h := xor_and a b
  show Builtin.bitOr (a : Int) (b : Int) - Builtin.bitAnd (a : Int) (b : Int) = _
  rw [bor_nat, PySem.W.os_band]
  omega
theorem shl_nat2 (l : Nat) : (1 : Int) * 2 ^ l = ((2 ^ l : Nat) : Int) := by simp
theorem shr_nat2 (a l : Nat) : (a : Int) / 2 ^ l = ((a / 2 ^ l : Nat) : Int) := by simp
/-- two ways meet: what holds then -/
def wSqM (s r : WS) : WS := wSq s r
theorem wSqM_of {s r : WS} {D : En} {env : Env} (h : s { D with nx := r D } env) : wSqM s r D env := wSq_of h
theorem wSqM_by {s r : WS} {D : En} {env : Env} {α : Type} (is : List Nat) (os : α → List (Option O)) (I : α → Prop) (h : s { D with nx := fun e => ∃ x, e = setL env is (os x) ∧ I x } env) (g : ∀ x, I x → r D (setL env is (os x))) : wSqM s r D env :=
  ⟨fun e => ∃ x, e = setL env is (os x) ∧ I x, h, fun e ⟨x, q, i⟩ => by rw [q]; exact g x i⟩
theorem setL_cons (env : Env) (i : Nat) (is : List Nat) (o : Option O) (os : List (Option O)) : setL env (i :: is) (o :: os) = setL (env.set i o) is os := rfl
theorem setL_nil (env : Env) : setL env [] [] = env := rfl
theorem range_get {n i d : Nat} (h : (List.range n)[i]? = some d) : d = i ∧ i < n := by
  obtain ⟨h1, h2⟩ := List.getElem?_eq_some_iff.mp h
  simp at h1 h2
  exact ⟨h2.symm, h1⟩
/-- a for by the slots that it changes -/
theorem for_gs {α β : Type} {ls : List β} {enc : β → D} {g : WG} {body : WS} {D : En} {env : Env} (is : List Nat) (os : α → List (Option O)) (I : Nat → α → Prop) (x0 : α) (h0 : env = setL env is (os x0)) (hI : I 0 x0)
    (step : ∀ i d x, ls[i]? = some d → I i x → g (enc d) (setL env is (os x)) fun env2 => body { D with nx := NxF (fun x => setL env is (os x)) I (i + 1), ct := NxF (fun x => setL env is (os x)) I (i + 1), bk := D.nx } env2)
    (fin : ∀ x, I ls.length x → D.nx (setL env is (os x))) : FoI (ls.map enc) g body D env := for_goE (fun x => setL env is (os x)) I x0 h0 hI step fin
theorem while_gs {α : Type} {c : WT} {body : WS} {D : En} {env : Env} (is : List Nat) (os : α → List (Option O)) (I : α → Prop) (μ : α → Nat) (x0 : α) (h0 : env = setL env is (os x0)) (hI : I x0)
    (step : ∀ x, I x → c (setL env is (os x)) (fun k => if k = true then body { D with nx := NxW (fun x => setL env is (os x)) I μ (μ x), ct := NxW (fun x => setL env is (os x)) I μ (μ x), bk := D.nx } (setL env is (os x)) else D.nx (setL env is (os x))) (fun n => D.ex n (setL env is (os x)))) : wWhile c body D env :=
  while_go (fun x => setL env is (os x)) I μ x0 h0 hI step
theorem set_same (env : Env) (i : Nat) : env.set i ((env[i]?).getD none) = env := by
  apply List.ext_getElem?
  intro j
  by_cases h : i = j
  · subst h
    by_cases hl : i < env.length
    · rw [List.getElem?_set_self hl, List.getElem?_eq_getElem hl]; rfl
    · rw [List.getElem?_eq_none (by simp; omega), List.getElem?_eq_none (by omega)]
  · rw [List.getElem?_set_ne h]
/-- a for that changes no slot but its target's -/
def Stay (env : Env) (i : Nat) : Env → Prop := fun e => ∃ o, e = env.set i o
theorem stay {env e : Env} {i : Nat} (o : Option O) (h : e = env.set i o) : Stay env i e := ⟨o, h⟩
theorem for_chk {β : Type} {ls : List β} {enc : β → D} {body : WS} {D : En} {env : Env} {i : Nat}
    (step : ∀ (k : Nat) x, ls[k]? = some x → body { D with nx := Stay env i, ct := Stay env i, bk := D.nx } (env.set i (some (.fro (enc x)))))
    (fin : ∀ o, D.nx (env.set i o)) : FoI (ls.map enc) (gN i) body D env := by
  refine ⟨fun _ e => Stay env i e, ⟨_, (set_same env i).symm⟩, ?_, ?_⟩
  · rintro k d e hd ⟨o, rfl⟩
    obtain ⟨x, hx, ed⟩ := map_get hd
    subst ed
    have := step k x hx
    unfold gN
    rw [List.set_set]
    exact this
  · rintro e ⟨o, rfl⟩
    exact fin o
theorem for_chk_list {ds : List D} {body : WS} {D : En} {env : Env} {i : Nat}
    (step : ∀ (k : Nat) d, ds[k]? = some d → body { D with nx := Stay env i, ct := Stay env i, bk := D.nx } (env.set i (some (.fro d))))
    (fin : ∀ o, D.nx (env.set i o)) : FoI ds (gN i) body D env := by
  have := for_chk (ls := ds) (enc := id) (i := i) (env := env) (D := D) (body := body) step fin
  rwa [List.map_id] at this
/-- comprehensions by a relation -/
theorem lc_relE {α β : Type} {ls : List α} {enc : α → D} {enc2 : β → D} {env : Env} {vs : List Nat} {g : WG} {t : WE} {Q : R → Prop} (P : α → β → Prop) (hz : ls.length ≤ sizeLine)
    (h : ∀ x ∈ ls, ∀ A : R → Prop, (∀ r y, r.st → r.d = enc2 y → P x y → A r) → g (enc x) (wipeE env vs) fun env2 => t env2 A noE)
    (q : ∀ ys : List β, ys.length = ls.length → (∀ (i : Nat) (x : α) (y : β), ls[i]? = some x → ys[i]? = some y → P x y) → Q (.t (.lst (ys.map enc2)))) : LcI env (ls.map enc) vs g wYes t Q := by
  refine ⟨fun i acc => ∃ ys : List β, acc = ys.map enc2 ∧ ys.length = i ∧ ∀ (j : Nat) (x : α) (y : β), ls[j]? = some x → ys[j]? = some y → P x y, ⟨[], rfl, rfl, by simp⟩, fun i d acc hd ha => ?_, fun acc ha => ?_⟩
  · obtain ⟨x, hx, e⟩ := map_get hd
    subst e
    obtain ⟨ys, e, hl, hp⟩ := ha
    subst e
    have hi := (List.getElem?_eq_some_iff.mp hx).1
    refine h x (List.mem_of_getElem? hx) (fun r => r.st ∧ (ys.map enc2).length < sizeLine ∧ _) fun r y rs rd hy => ⟨rs, by rw [List.length_map]; omega, ys ++ [y], by rw [rd]; simp, by simp [hl], fun j x' y' hx' hy' => ?_⟩
    by_cases hj : j < ys.length
    · rw [List.getElem?_append_left hj] at hy'
      exact hp j x' y' hx' hy'
    · rw [List.getElem?_append_right (by omega)] at hy'
      have hj2 : j - ys.length = 0 := by
        rcases Nat.eq_zero_or_pos (j - ys.length) with z | z
        · exact z
        · rw [List.getElem?_eq_none (by simp; omega)] at hy'; cases hy'
      rw [hj2] at hy'
      have ej : j = i := by omega
      subst ej
      rw [hx] at hx'
      cases hx'
      simp at hy'
      subst hy'
      exact hy
  · obtain ⟨ys, e, hl, hp⟩ := ha
    subst e
    exact q ys (by rw [hl, List.length_map]) hp
/-- .. by a property -/
theorem lc_allE {α β : Type} {ls : List α} {enc : α → D} {enc2 : β → D} {env : Env} {vs : List Nat} {g : WG} {t : WE} {Q : R → Prop} (P : β → Prop) (hz : ls.length ≤ sizeLine)
    (h : ∀ x ∈ ls, ∀ A : R → Prop, (∀ r y, r.st → r.d = enc2 y → P y → A r) → g (enc x) (wipeE env vs) fun env2 => t env2 A noE)
    (q : ∀ ys : List β, ys.length = ls.length → (∀ y ∈ ys, P y) → Q (.t (.lst (ys.map enc2)))) : LcI env (ls.map enc) vs g wYes t Q := by
  refine lc_relE (enc2 := enc2) (fun _ y => P y) hz h fun ys hl hp => q ys hl fun y m => ?_
  obtain ⟨i, hi⟩ := List.mem_iff_getElem?.mp m
  have hlt : i < ls.length := by rw [← hl]; exact (List.getElem?_eq_some_iff.mp hi).1
  exact hp i ls[i] y (List.getElem?_eq_getElem hlt) hi
/-! alike data -/
theorem nL_iff (a b : List Nat) : (nL a = nL b) = (a = b) := propext ⟨nL_inj, fun h => by rw [h]⟩
theorem iL_iff (a b : List Int) : (iL a = iL b) = (a = b) := propext ⟨fun h => (List.map_inj_right fun x y e => PyData.int.inj e).mp h, fun h => by rw [h]⟩
/-- pairs of numbers as data -/
abbrev pD (p : Nat × Nat) : D := .tuple [.int (p.1 : Int), .int (p.2 : Int)]
abbrev pL (ps : List (Nat × Nat)) : List D := ps.map pD
abbrev zD (p : Int × Int) : D := .tuple [.int p.1, .int p.2]
abbrev zL (ps : List (Int × Int)) : List D := ps.map zD
abbrev sL (ps : List Str) : List D := ps.map PyData.str
theorem map_iff {α : Type} {f : α → D} (hf : ∀ x y, f x = f y → x = y) (a b : List α) : (a.map f = b.map f) = (a = b) := propext ⟨fun h => (List.map_inj_right hf).mp h, fun h => by rw [h]⟩
theorem zL_iff (a b : List (Int × Int)) : (zL a = zL b) = (a = b) := map_iff (fun x y e => by simp [zD] at e; exact Prod.ext e.1 e.2) a b
theorem pL_iff (a b : List (Nat × Nat)) : (pL a = pL b) = (a = b) := map_iff (fun x y e => by simp [pD] at e; exact Prod.ext (by omega) (by omega)) a b
theorem sL_iff (a b : List Str) : (sL a = sL b) = (a = b) := map_iff (fun x y e => PyData.str.inj e) a b
theorem pL_snoc (ps : List (Nat × Nat)) (x y : Nat) : pL ps ++ [.tuple [.int (x : Int), .int (y : Int)]] = pL (ps ++ [(x, y)]) := by simp
theorem zL_snoc (ps : List (Int × Int)) (x y : Int) : zL ps ++ [.tuple [.int x, .int y]] = zL (ps ++ [(x, y)]) := by simp
theorem lit_iff (n k : Nat) : ((no_index (OfNat.ofNat n) : Int) = (k : Int)) = (n = k) := propext ⟨fun h => Int.ofNat.inj h, fun h => by rw [h]; rfl⟩
theorem nat_iff (a b : Nat) : ((a : Int) = (b : Int)) = (a = b) := propext ⟨fun h => by omega, fun h => by rw [h]⟩
theorem ex_and {α : Sort _} {a : α} {p : α → Prop} : (∃ x, a = x ∧ p x) = p a := propext ⟨fun ⟨_, rfl, h⟩ => h, fun h => ⟨a, rfl, h⟩⟩
/-! targets of known forms -/
theorem gT_t (n : Nat) (g : WGs) (ds : List D) (env : Env) (Q : Env → Prop) : gT n g (.tuple ds) env Q = (ds.length = n ∧ g ds env Q) := by
  unfold gT
  apply propext
  constructor
  · rintro ⟨d, e, h⟩
    cases e; exact h
  · intro h; exact ⟨ds, rfl, h⟩
theorem gsC_c (g : WG) (r : WGs) (d : D) (ds : List D) (env : Env) (Q : Env → Prop) : gsC g r (d :: ds) env Q = g d env fun env' => r ds env' Q := by
  unfold gsC
  apply propext
  constructor
  · rintro ⟨d, ds, e, h⟩
    cases e; exact h
  · intro h; exact ⟨d, ds, rfl, h⟩
theorem gsN_n (env : Env) (Q : Env → Prop) : gsN [] env Q = Q env := by
  unfold gsN
  simp
/-! in, flat lists -/
theorem flat_iL (ns : List Int) : (iL ns).all flatD = true := by
  rw [List.all_eq_true]; intro x m; obtain ⟨n, _, rfl⟩ := List.mem_map.mp m; rfl
theorem flat_nL (ns : List Nat) : (nL ns).all flatD = true := by
  rw [List.all_eq_true]; intro x m; obtain ⟨n, _, rfl⟩ := List.mem_map.mp m; rfl
theorem flat_sL (ns : List Str) : (ns.map PyData.str).all flatD = true := by
  rw [List.all_eq_true]; intro x m; obtain ⟨n, _, rfl⟩ := List.mem_map.mp m; rfl
theorem memD_iL (x : Int) (ns : List Int) : memD (.int x) (iL ns) = decide (x ∈ ns) := by
  unfold memD
  rw [Bool.eq_iff_iff, List.any_eq_true, decide_eq_true_eq]
  constructor
  · rintro ⟨d, m, e⟩
    obtain ⟨n, hn, rfl⟩ := List.mem_map.mp m
    rw [eqv_int, decide_eq_true_eq] at e
    subst e; exact hn
  · intro h
    exact ⟨_, List.mem_map_of_mem h, by simp⟩
theorem memD_nL (x : Nat) (ns : List Nat) : memD (.int (x : Int)) (nL ns) = decide (x ∈ ns) := by
  unfold memD
  rw [Bool.eq_iff_iff, List.any_eq_true, decide_eq_true_eq]
  constructor
  · rintro ⟨d, m, e⟩
    obtain ⟨n, hn, rfl⟩ := List.mem_map.mp m
    rw [eqv_int, decide_eq_true_eq] at e
    have : n = x := by omega
    subst this; exact hn
  · intro h
    exact ⟨_, List.mem_map_of_mem h, by simp⟩
theorem memD_sL (x : Str) (ns : List Str) : memD (.str x) (ns.map PyData.str) = decide (x ∈ ns) := by
  unfold memD
  rw [Bool.eq_iff_iff, List.any_eq_true, decide_eq_true_eq]
  constructor
  · rintro ⟨d, m, e⟩
    obtain ⟨n, hn, rfl⟩ := List.mem_map.mp m
    rw [eqv_str, decide_eq_true_eq] at e
    subst e; exact hn
  · intro h
    exact ⟨_, List.mem_map_of_mem h, by simp⟩
theorem atI_last {α : Type} {xs : List α} (h : xs ≠ []) : atI xs (-1) = some (xs.getLast h) := by
  unfold atI ixN
  have : 0 < xs.length := List.length_pos_iff.mpr h
  rw [if_neg (by decide), if_pos (by omega)]
  show xs[_]? = _
  rw [List.getLast_eq_getElem h, List.getElem?_eq_getElem (by omega)]
  congr 2
  all_goals first | omega | (simp; omega) | skip
theorem atI_lt {α : Type} {xs : List α} {i : Nat} (h : i < xs.length) : atI xs (i : Int) = some xs[i] := by
  rw [atI_nat, List.getElem?_eq_getElem h]
theorem atI_c0 {α : Type} (a : α) (xs : List α) : atI (a :: xs) 0 = some a := atI_nat (a :: xs) 0
theorem atI_c1 {α : Type} (a b : α) (xs : List α) : atI (a :: b :: xs) 1 = some b := atI_nat (a :: b :: xs) 1
theorem atI_c2 {α : Type} (a b c : α) (xs : List α) : atI (a :: b :: c :: xs) 2 = some c := atI_nat (a :: b :: c :: xs) 2
theorem atI_c3 {α : Type} (a b c d : α) (xs : List α) : atI (a :: b :: c :: d :: xs) 3 = some d := atI_nat (a :: b :: c :: d :: xs) 3
theorem atI_c4 {α : Type} (a b c d e : α) (xs : List α) : atI (a :: b :: c :: d :: e :: xs) 4 = some e := atI_nat (a :: b :: c :: d :: e :: xs) 4
theorem atI_snoc {α : Type} (xs : List α) (x : α) : atI (xs ++ [x]) (-1) = some x := by
  rw [atI_last (by simp)]; simp
theorem atI_msnoc {α β : Type} (f : α → β) (xs : List α) (x : α) : atI ((xs ++ [x]).map f) (-1) = some (f x) := by
  rw [atI_map, atI_snoc]; rfl
/-- a rest that is a natural number -/
theorem emod_nat {a b : Int} (hb : 0 < b) : ∃ n : Nat, a % b = (n : Int) ∧ (n : Int) < b :=
  ⟨(a % b).toNat, (Int.toNat_of_nonneg (Int.emod_nonneg _ (by omega))).symm, by rw [Int.toNat_of_nonneg (Int.emod_nonneg _ (by omega))]; exact Int.emod_lt_of_pos _ hb⟩
/-! equal -/
theorem eqv_nilL (xs : List D) : PyData.eqv (.list xs) (.list []) = xs.isEmpty := by cases xs <;> simp [PyData.eqv, PyData.eqvAll]
theorem eqv_nilT (xs : List D) : PyData.eqv (.tuple xs) (.tuple []) = xs.isEmpty := by cases xs <;> simp [PyData.eqv, PyData.eqvAll]
theorem okEq_of {k : Nat} {a b : D} (h1 : Sh k a) (h2 : Sh k b) (hk : k ≤ 64) : okEq a b := by
  have x1 := h1.shaped hk
  have x2 := h2.shaped hk
  cases a <;> cases b <;> first | exact True.intro | exact ⟨x1, x2⟩
theorem sh_map {α : Type} {k : Nat} {f : α → D} (h : ∀ x, Sh k (f x)) (l : List α) : Sh (k + 1) (.list (l.map f)) := sh_list fun x m => by
  obtain ⟨n, _, rfl⟩ := List.mem_map.mp m; exact h n
theorem sh_mapT {α : Type} {k : Nat} {f : α → D} (h : ∀ x, Sh k (f x)) (l : List α) : Sh (k + 1) (.tuple (l.map f)) := sh_tuple fun x m => by
  obtain ⟨n, _, rfl⟩ := List.mem_map.mp m; exact h n
/-- alike data of a known depth, held against itself -/
theorem same_go {k : Nat} {a : D} {Q : Bool → Prop} (h : Sh k a) (hk : k ≤ 64) (hq : Q true) : okEq a a ∧ Q (PyData.eqv a a) := ⟨okEq_of h h hk, by rw [eqv_self h]; exact hq⟩
theorem ne_self_go {k : Nat} {a : D} {A B : Prop} (h : Sh k a) (hk : k ≤ 64) (hb : B) : okEq a a ∧ if (!PyData.eqv a a) = true then A else B := ⟨okEq_of h h hk, by rw [eqv_self h, if_neg (by simp)]; exact hb⟩
theorem sh_nLs (l : List (List Nat)) : Sh 2 (.list (l.map fun xs => .list (nL xs))) := sh_map (fun xs => sh_nL xs) l
theorem okEq_nL (a b : List Nat) : okEq (.list (nL a)) (.list (nL b)) = True := eq_true (okEq_of (sh_nL a) (sh_nL b) (by decide))
theorem eqv_nL (a b : List Nat) : PyData.eqv (.list (nL a)) (.list (nL b)) = decide (a = b) := by
  rw [Bool.eq_iff_iff, eqv_pl (pl_nL a) (pl_nL b), decide_eq_true_eq]
  simp only [PyData.list.injEq]
  exact ⟨nL_inj, fun h => by rw [h]⟩
theorem okEq_iL (a b : List Int) : okEq (.list (iL a)) (.list (iL b)) = True := eq_true (okEq_of (sh_iL a) (sh_iL b) (by decide))
theorem eqv_iL (a b : List Int) : PyData.eqv (.list (iL a)) (.list (iL b)) = decide (a = b) := by
  rw [Bool.eq_iff_iff, eqv_pl (pl_iL a) (pl_iL b), decide_eq_true_eq]
  simp only [PyData.list.injEq]
  exact ⟨fun h => (List.map_inj_right fun x y e => PyData.int.inj e).mp h, fun h => by rw [h]⟩
theorem okEq_nL0 (a : List Nat) : okEq (.list (nL a)) (.list []) = True := okEq_nL a []
theorem okEq_bL (a b : List Bool) : okEq (.list (a.map PyData.bool)) (.list (b.map PyData.bool)) := okEq_of (k := 1) (sh_list fun x m => by
  obtain ⟨n, _, rfl⟩ := List.mem_map.mp m; exact sh_bool 0 n) (sh_list fun x m => by
  obtain ⟨n, _, rfl⟩ := List.mem_map.mp m; exact sh_bool 0 n) (by decide)
theorem eqv_bL_self (a : List Bool) : PyData.eqv (.list (a.map PyData.bool)) (.list (a.map PyData.bool)) = true := eqv_self (k := 1) (sh_list fun x m => by
  obtain ⟨n, _, rfl⟩ := List.mem_map.mp m; exact sh_bool 0 n)
/-- what a refusal's kinds are held against -/
theorem kinds_go {a b : List Bool} {Q : R → Prop} (h : a = b) (hq : Q (.v (.bool true))) : okEq (.list (a.map PyData.bool)) (.list (b.map PyData.bool)) ∧ Q (.v (.bool (PyData.eqv (.list (a.map PyData.bool)) (.list (b.map PyData.bool))))) := by
  subst h
  exact ⟨okEq_bL _ _, by rw [eqv_bL_self]; exact hq⟩
theorem isEmpty_map {α β : Type} (f : α → β) (xs : List α) : (xs.map f).isEmpty = xs.isEmpty := by cases xs <;> rfl
theorem ixN_lt {n i : Nat} (h : i < n) : ixN n (i : Int) = some i := by
  unfold ixN
  rw [if_pos (by omega), if_pos (by omega)]; simp
theorem nL_snoc (xs : List Nat) (c : Nat) : nL xs ++ [PyData.int (c : Int)] = nL (xs ++ [c]) := by simp
theorem nL_set (xs : List Nat) (i : Nat) (v : Nat) : (nL xs).set i (PyData.int (v : Int)) = nL (xs.set i v) := by simp
theorem iL_set (xs : List Int) (i : Nat) (v : Int) : (iL xs).set i (PyData.int v) = iL (xs.set i v) := by simp
theorem iL_snoc (xs : List Int) (c : Int) : iL xs ++ [PyData.int c] = iL (xs ++ [c]) := by simp
theorem sL_snoc (xs : List Str) (c : Str) : xs.map PyData.str ++ [PyData.str c] = (xs ++ [c]).map PyData.str := by simp
theorem map_insD {α β : Type} (f : α → β) (xs : List α) (i : Int) (x : α) : insD (xs.map f) i (f x) = (insD xs i x).map f := by
  unfold insD
  simp [List.map_take, List.map_drop]
theorem mem_insD {α : Type} {xs : List α} {i : Int} {x y : α} : y ∈ insD xs i x ↔ y = x ∨ y ∈ xs := by
  unfold insD
  constructor
  · intro h
    simp only [List.mem_append, List.mem_singleton] at h
    rcases h with (h | h) | h
    · exact .inr (List.mem_of_mem_take h)
    · exact .inl h
    · exact .inr (List.mem_of_mem_drop h)
  · rintro (h | h)
    · simp [h]
    · rw [← List.take_append_drop i.toNat xs] at h
      simp only [List.mem_append] at h
      simp only [List.mem_append, List.mem_singleton]
      rcases h with h | h
      · exact .inl (.inl h)
      · exact .inr h
theorem insD_length {α : Type} (xs : List α) (i : Int) (x : α) : (insD xs i x).length = xs.length + 1 := by
  unfold insD
  simp only [List.length_append, List.length_take, List.length_drop, List.length_cons, List.length_nil]
  omega
theorem atI_map_lt {α β : Type} (f : α → β) {xs : List α} {i : Nat} (h : i < xs.length) : atI (xs.map f) (i : Int) = some (f xs[i]) := by
  rw [atI_map, atI_lt h]; rfl
theorem atI_map_last {α β : Type} (f : α → β) {xs : List α} (h : xs ≠ []) : atI (xs.map f) (-1) = some (f (xs.getLast h)) := by
  rw [atI_map, atI_last h]; rfl
/-! slices at written places -/
theorem cut_toL {α : Type} (xs : List α) (n : Nat) : cut xs none (some (no_index (OfNat.ofNat n))) = xs.take n := cut_to xs n
theorem cut_fromL {α : Type} (xs : List α) (n : Nat) : cut xs (some (no_index (OfNat.ofNat n))) none = xs.drop n := cut_from xs n
theorem cut_toM {α β : Type} (f : α → β) (xs : List α) (n : Nat) : cut (xs.map f) none (some (no_index (OfNat.ofNat n))) = (xs.take n).map f := by
  rw [cut_toL, List.map_take]
theorem cut_fromM {α β : Type} (f : α → β) (xs : List α) (n : Nat) : cut (xs.map f) (some (no_index (OfNat.ofNat n))) none = (xs.drop n).map f := by
  rw [cut_fromL, List.map_drop]
theorem cut_inL {α : Type} (xs : List α) (m n : Nat) : cut xs (some (no_index (OfNat.ofNat m))) (some (no_index (OfNat.ofNat n))) = (xs.take n).drop m := cut_in xs m n
theorem cut_inM {α β : Type} (f : α → β) (xs : List α) (m n : Nat) : cut (xs.map f) (some (no_index (OfNat.ofNat m))) (some (no_index (OfNat.ofNat n))) = ((xs.take n).drop m).map f := by
  rw [cut_inL, List.map_drop, List.map_take]
theorem take_len {α : Type} {xs : List α} {n k : Nat} (h : xs.length ≤ k) : (xs.take n).length ≤ k := by rw [List.length_take]; omega
theorem drop_len {α : Type} {xs : List α} {n k : Nat} (h : xs.length ≤ k) : (xs.drop n).length ≤ k := by rw [List.length_drop]; omega
theorem le_line {n k : Nat} (h : n ≤ k) (hk : k ≤ 16777216) : n ≤ sizeLine := by rw [sizeLine_eq]; omega
theorem lt_line {n k : Nat} (h : n < k) (hk : k ≤ 16777216) : n < sizeLine := by rw [sizeLine_eq]; omega
end DL

set_option Elab.async false
set_option linter.all false
set_option maxRecDepth 100000
set_option maxHeartbeats 1000000
/-! DL13: zip, enumerate, reversed, ranges by steps, texts, walked over data. -/
namespace DL
open PySem L2 PyProof.Rows
theorem zipD_get {xs ys : List D} {i : Nat} {d e : D} (h : xs[i]? = some d) (g : ys[i]? = some e) : (List.zipWith (fun a b => PyData.tuple [a, b]) xs ys)[i]? = some (.tuple [d, e]) := by
  rw [List.getElem?_zipWith, h, g]
theorem zip_flat {xs ys : List D} {i : Nat} {d e : D} (fl : xs.all flatD = true ∨ ys.all flatD = true) (h : xs[i]? = some d) (g : ys[i]? = some e) : ∃ x ∈ [d, e], flatD x = true := by
  rcases fl with fl | fl
  · exact ⟨d, by simp, List.all_eq_true.mp fl d (List.mem_of_getElem? h)⟩
  · exact ⟨e, by simp, List.all_eq_true.mp fl e (List.mem_of_getElem? g)⟩
def zipD (xs ys : List D) : List D := List.zipWith (fun a b => PyData.tuple [a, b]) xs ys
theorem zipD_len (xs ys : List D) : (zipD xs ys).length = min xs.length ys.length := by unfold zipD; rw [List.length_zipWith]
theorem zipD_map {α β : Type} (f : α → D) (g : β → D) (xs : List α) (ys : List β) : zipD (xs.map f) (ys.map g) = (xs.zip ys).map fun p => PyData.tuple [f p.1, g p.2] := by
  unfold zipD
  rw [List.zipWith_map, List.zip, List.map_zipWith]
theorem walk_zip {K : K0} {B : Hp} {a b : Addr} {vs ws : List V} {ds es : List D} (s : SqL K B a vs) (r : RepAll K B vs ds) (s2 : SqL K B b ws) (r2 : RepAll K B ws es) (fl : ds.all flatD = true ∨ es.all flatD = true) : Walk K B (Itz K a b) (zipD ds es) where
  go := fun i H B1 l1 l2 h => by
    rw [zipD_len] at h
    have h1 : i < vs.length := by rw [r.length]; omega
    have h2 : i < ws.length := by rw [r2.length]; omega
    exact ⟨vs, ws, vs[i], ws[i], (l1.trans l2).sqL s, (l1.trans l2).sqL s2, by simp [h1], by simp [h2]⟩
  stop := fun i H B1 l1 l2 h => by
    rw [zipD_len] at h
    exact ⟨vs, ws, (l1.trans l2).sqL s, (l1.trans l2).sqL s2, by rw [r.length, r2.length]; omega⟩
  yld := fun i H x H' B1 hlt l1 l2 ⟨T, x1, y1, e, n, e2, y, y'⟩ => by
    subst e e2
    obtain ⟨d, h1, h2⟩ := r.getV (y vs ((l1.trans l2).sqL s))
    obtain ⟨d', h3, h4⟩ := r2.getV (y' ws ((l1.trans l2).sqL s2))
    refine ⟨_, upd B1 T (.tup [x1, y1]), zipD_get h1 h3, .put l2 n _, .tup (.inl (.inl upd_same)) ?_ (.inr (zip_flat fl h1 h3))⟩
    have m := Ext.put l2 n (HO.tup [x1, y1])
    exact .cons ((h2.mono l1).mono m.le) (.cons ((h4.mono l1).mono m.le) .nil)
theorem walk_zipT {K : K0} {B : Hp} {a b : Addr} {vs ws : List V} {ds es : List D} (s : SqT K B a vs) (r : RepAll K B vs ds) (s2 : SqT K B b ws) (r2 : RepAll K B ws es) (fl : ds.all flatD = true ∨ es.all flatD = true) : Walk K B (RZ.ItzT K a b) (zipD ds es) where
  go := fun i H B1 l1 l2 h => by
    rw [zipD_len] at h
    have h1 : i < vs.length := by rw [r.length]; omega
    have h2 : i < ws.length := by rw [r2.length]; omega
    exact ⟨vs, ws, vs[i], ws[i], (l1.trans l2).sqT s, (l1.trans l2).sqT s2, by simp [h1], by simp [h2]⟩
  stop := fun i H B1 l1 l2 h => by
    rw [zipD_len] at h
    exact ⟨vs, ws, (l1.trans l2).sqT s, (l1.trans l2).sqT s2, by rw [r.length, r2.length]; omega⟩
  yld := fun i H x H' B1 hlt l1 l2 ⟨T, x1, y1, e, n, e2, y, y'⟩ => by
    subst e e2
    obtain ⟨d, h1, h2⟩ := r.getV (y vs ((l1.trans l2).sqT s))
    obtain ⟨d', h3, h4⟩ := r2.getV (y' ws ((l1.trans l2).sqT s2))
    refine ⟨_, upd B1 T (.tup [x1, y1]), zipD_get h1 h3, .put l2 n _, .tup (.inl (.inl upd_same)) ?_ (.inr (zip_flat fl h1 h3))⟩
    have m := Ext.put l2 n (HO.tup [x1, y1])
    exact .cons ((h2.mono l1).mono m.le) (.cons ((h4.mono l1).mono m.le) .nil)
/-- zip of two lists or of two tuples -/
def zipR : D → D → (List D → Prop) → Prop
  | .list xs, .list ys, Q => (xs.all flatD = true ∨ ys.all flatD = true) ∧ Q (zipD xs ys)
  | .tuple xs, .tuple ys, Q => (xs.all flatD = true ∨ ys.all flatD = true) ∧ Q (zipD xs ys)
  | _, _, _ => False
theorem zipR_l (xs ys : List D) (Q : List D → Prop) : zipR (.list xs) (.list ys) Q = ((xs.all flatD = true ∨ ys.all flatD = true) ∧ Q (zipD xs ys)) := rfl
theorem zipR_t (xs ys : List D) (Q : List D → Prop) : zipR (.tuple xs) (.tuple ys) Q = ((xs.all flatD = true ∨ ys.all flatD = true) ∧ Q (zipD xs ys)) := rfl
def wiZip (p q : WE) : WI := fun env Q E => p env (fun x => q env (fun y => (x.st ∧ y.st) ∧ zipR x.d y.d Q) E) E
section
variable {X : Cx} {W : WX} {G : Hp} {tg iter e a b c : Expr} {m ma mb mc : WE} {pos tpos : Pos}
theorem di_zip {p : Pos} {elts : List Expr} {kk : Nat} (hg : Gl X "zip") (hm : X.mg "zip" = none) (ha : DE X W G a ma) (hb : DE X W G b mb) (hs : starEach [a, b] X.env = (false, eval a X.env) :: starEach [b] X.env := by rfl) (hs2 : starEach [b] X.env = (false, eval b X.env) :: starEach [] X.env := by rfl)
    (hpl : (backTo pos (starEach [b] X.env)).any (·.1) = false := by rfl) : DI X W G (.Tuple elts kk tpos) (.Call (.Name "zip" p) [a, b] [] pos) (wiZip ma mb) := by
  refine PIi (RZ.pi_zipA hg hm (pa_cons ha (pa_cons hb pa_nil hs2) hs) hs hpl) fun σ H R ⟨B, env, fp, Q, E, rr, hm, hq, hx⟩ => ?_
  refine ⟨B, env, fp, _, E, rr, hm, fun v H1 B1 r e1 w q1 => ?_, hx⟩
  by_cases sr : r.st
  · obtain ⟨B2, e2, l2, rp⟩ := w.keep e1 sr
    refine ⟨B2, env, fp, _, E, rr.ext e2, q1, fun v2 H3 B3 r2 e3 w2 ⟨⟨s1, s2⟩, q⟩ => ?_, hx.later e2.same⟩
    obtain ⟨B4, e4, l4, rp2⟩ := w2.keep e3 s2
    have rp := rp.mono e4.le
    generalize r.d = d1 at rp q
    generalize r2.d = d2 at rp2 q
    have eT := e2.trans e4
    cases d1 <;> cases d2 <;> first | exact (show False from q).elim | skip
    · obtain ⟨x1, vs, ev, s, t⟩ := rp.list_inv
      obtain ⟨x2, ws, ev2, s2, t2⟩ := rp2.list_inv
      subst ev ev2
      exact ⟨x1, x2, vs, ws, rfl, .inl ⟨e4.bh.sqL s, e4.bh.sqL s2, hq _ _ B4 _ eT (walk_zip s t s2 t2 q.1) q.2⟩⟩
    · obtain ⟨x1, vs, ev, s, t⟩ := rp.tup_inv
      obtain ⟨x2, ws, ev2, s2, t2⟩ := rp2.tup_inv
      subst ev ev2
      exact ⟨x1, x2, vs, ws, rfl, .inr ⟨e4.bh.sqT s, e4.bh.sqT s2, hq _ _ B4 _ eT (walk_zipT s t s2 t2 q.1) q.2⟩⟩
  · exact ⟨B1, env, fp, _, E, rr.ext e1, q1, fun v2 H3 B3 r2 e3 w2 q => (sr q.1.1).elim, hx.later e1.same⟩
def enumD (xs : List D) : List D := xs.mapIdx fun i d => PyData.tuple [.int (i : Int), d]
theorem walk_enum {K : K0} {B : Hp} {a : Addr} {vs : List V} {ds : List D} (s : SqL K B a vs) (r : RepAll K B vs ds) : Walk K B (Ite K a) (enumD ds) where
  go := fun i H B1 l1 l2 h => by
    have h : i < ds.length := by simpa [enumD] using h
    have h1 : i < vs.length := by rw [r.length]; omega
    exact ⟨vs, vs[i], (l1.trans l2).sqL s, by simp [h1]⟩
  stop := fun i H B1 l1 l2 h => by
    have h : ds.length ≤ i := by simpa [enumD] using h
    exact ⟨vs, (l1.trans l2).sqL s, by rw [r.length]; exact h⟩
  yld := fun i H x H' B1 hlt l1 l2 ⟨T, x1, e, n, e2, y⟩ => by
    subst e e2
    obtain ⟨d, h1, h2⟩ := r.getV (y vs ((l1.trans l2).sqL s))
    refine ⟨_, upd B1 T (.tup [.int (i : Nat), x1]), by unfold enumD; rw [List.getElem?_mapIdx, h1]; rfl, .put l2 n _, .tup (.inl (.inl upd_same)) ?_ (.inr ⟨_, List.mem_cons_self, rfl⟩)⟩
    exact .cons (.int _) (.cons ((h2.mono l1).mono (Ext.put l2 n (HO.tup [.int (i : Nat), x1])).le) .nil)
def wiEnum (p : WE) : WI := fun env Q E => p env (fun x => x.st ∧ ∃ ds, x.d = .list ds ∧ Q (enumD ds)) E
theorem di_enum {p : Pos} {elts : List Expr} {kk : Nat} (hg : Gl X "enumerate") (hm : X.mg "enumerate" = none) (ha : DE X W G a ma) (hs : starEach [a] X.env = [(false, eval a X.env)] := by rfl) (hs2 : starEach [a] X.env = (false, eval a X.env) :: starEach [] X.env := by rfl) :
    DI X W G (.Tuple elts kk tpos) (.Call (.Name "enumerate" p) [a] [] pos) (wiEnum ma) := by
  refine PIi (pi_enum hg hm (pa_cons ha pa_nil hs2) hs) fun σ H R ⟨B, env, fp, Q, E, rr, hm, hq, hx⟩ => ?_
  refine ⟨B, env, fp, _, E, rr, hm, fun v H1 B1 r e1 w ⟨s, ds, ed, q⟩ => ?_, hx⟩
  obtain ⟨B2, e2, l2, rp⟩ := w.keep e1 s
  rw [ed] at rp
  obtain ⟨a, vs, ev, sv, t⟩ := rp.list_inv
  subst ev
  exact ⟨a, vs, rfl, e2.bh.sqL sv, hq _ H1 B2 _ e2 (walk_enum sv t) q⟩
theorem rev_get {α : Type} {xs : List α} {i : Nat} (h : i < xs.length) : xs.reverse[i]? = xs[xs.length - 1 - i]? := by
  rw [List.getElem?_reverse h]
theorem walk_rev {K : K0} {B : Hp} {a : Addr} {vs : List V} {ds : List D} (s : SqL K B a vs) (r : RepAll K B vs ds) : Walk K B (Itv K a vs.length) ds.reverse where
  go := fun i H B1 l1 l2 h => by
    rw [List.length_reverse, ← r.length] at h
    have h1 : vs.length - 1 - i < vs.length := by omega
    exact ⟨h, vs, vs[vs.length - 1 - i], (l1.trans l2).sqL s, by simp [h1]⟩
  stop := fun i H B1 l1 l2 h => by
    rw [List.length_reverse, ← r.length] at h
    exact h
  yld := fun i H x H' B1 hlt l1 l2 ⟨e, y⟩ => by
    subst e
    rw [List.length_reverse] at hlt
    obtain ⟨d, h1, h2⟩ := r.getV (y vs ((l1.trans l2).sqL s))
    rw [r.length] at h1
    exact ⟨d, B1, by rw [rev_get hlt, h1], .refl l2, h2.mono l1⟩
theorem walk_revT {K : K0} {B : Hp} {a : Addr} {vs : List V} {ds : List D} (s : SqT K B a vs) (r : RepAll K B vs ds) : Walk K B (RT.ItvT K a vs.length) ds.reverse where
  go := fun i H B1 l1 l2 h => by
    rw [List.length_reverse, ← r.length] at h
    have h1 : vs.length - 1 - i < vs.length := by omega
    exact ⟨h, vs, vs[vs.length - 1 - i], (l1.trans l2).sqT s, by simp [h1]⟩
  stop := fun i H B1 l1 l2 h => by
    rw [List.length_reverse, ← r.length] at h
    exact h
  yld := fun i H x H' B1 hlt l1 l2 ⟨e, y⟩ => by
    subst e
    rw [List.length_reverse] at hlt
    obtain ⟨d, h1, h2⟩ := r.getV (y vs ((l1.trans l2).sqT s))
    rw [r.length] at h1
    exact ⟨d, B1, by rw [rev_get hlt, h1], .refl l2, h2.mono l1⟩
def wiRev (p : WE) : WI := fun env Q E => p env (fun x => x.st ∧ ∃ ds, seqD x.d = some ds ∧ Q ds.reverse) E
theorem di_rev {p : Pos} (hg : Gl X "reversed") (hm : X.mg "reversed" = none) (ha : DE X W G a ma) (hs : starEach [a] X.env = (false, eval a X.env) :: starEach [] X.env := by rfl) : DI X W G tg (.Call (.Name "reversed" p) [a] [] pos) (wiRev ma) := by
  refine PIi (RT.pi_revA hg hm ha hs) fun σ H R ⟨B, env, fp, Q, E, rr, hm, hq, hx⟩ => ?_
  refine ⟨B, env, fp, _, E, rr, hm, fun v H1 B1 r e1 w ⟨s, ds, ed, q⟩ => ?_, hx⟩
  obtain ⟨B2, e2, l2, rp⟩ := w.keep e1 s
  generalize r.d = d at rp ed
  cases d <;> simp [seqD] at ed
  · subst ed
    obtain ⟨a, vs, ev, sv, t⟩ := rp.list_inv
    exact ⟨a, vs, ev, .inl ⟨e2.bh.sqL sv, hq _ H1 B2 _ e2 (walk_rev sv t) q⟩⟩
  · subst ed
    obtain ⟨a, vs, ev, sv, t⟩ := rp.tup_inv
    exact ⟨a, vs, ev, .inr ⟨e2.bh.sqT sv, hq _ H1 B2 _ e2 (walk_revT sv t) q⟩⟩
/-- a range by steps -/
def rgS (lo c : Int) (n : Nat) : List D := (List.range n).map fun (i : Nat) => .int (lo + (i : Int) * c)
theorem walk_range3 {K : K0} {B : Hp} (lo c : Int) (n : Nat) : Walk K B (Itc lo c n) (rgS lo c n) where
  go := fun i H B1 l1 l2 h => by
    have h : i < n := by simpa [rgS] using h
    exact h
  stop := fun i H B1 l1 l2 h => by
    have h : n ≤ i := by simpa [rgS] using h
    exact h
  yld := fun i H x H' B1 hlt l1 l2 y => by
    obtain ⟨e1, e2⟩ := y
    subst e1 e2
    have hlt : i < n := by simpa [rgS] using hlt
    exact ⟨_, B1, by unfold rgS; rw [List.getElem?_map, List.getElem?_range hlt]; rfl, .refl l2, .int _⟩
def wiR3 (p q t : WE) : WI := fun env Q E => p env (fun x => q env (fun y => t env (fun z => ∃ i j c : Int, x.d = .int i ∧ y.d = .int j ∧ z.d = .int c ∧ ∃ n, RgC i j c n ∧ Q (rgS i c n)) E) E) E
theorem di_range3 {p : Pos} (hg : Gl X "range") (hm : X.mg "range" = none) (ha : DE X W G a ma) (hb : DE X W G b mb) (hc : DE X W G c mc) (hs : starEach [a, b, c] X.env = (false, eval a X.env) :: starEach [b, c] X.env := by rfl) (hs2 : starEach [b, c] X.env = (false, eval b X.env) :: starEach [c] X.env := by rfl)
    (hs3 : starEach [c] X.env = (false, eval c X.env) :: starEach [] X.env := by rfl) (hpl : (backTo pos (starEach [b, c] X.env)).any (·.1) = false := by rfl) : DI X W G tg (.Call (.Name "range" p) [a, b, c] [] pos) (wiR3 ma mb mc) := by
  refine PIi (pi_range3 hg hm (pa_cons ha (pa_cons hb (pa_cons hc pa_nil hs3) hs2) hs) hs hpl) fun σ H R ⟨B, env, fp, Q, E, rr, hm, hq, hx⟩ => ?_
  refine ⟨B, env, fp, _, E, rr, hm, fun v H1 B1 r e1 w q1 => ?_, hx⟩
  refine ⟨B1, env, fp, _, E, rr.ext e1, q1, fun v2 H2 B2 r2 e2 w2 q2 => ?_, hx.later e1.same⟩
  refine ⟨B2, env, fp, _, E, (rr.ext e1).ext e2, q2, fun v3 H3 B3 r3 e3 w3 ⟨i, j, k, ed1, ed2, ed3, n, hc, q⟩ => ?_, hx.later (e1.same.trans e2.same)⟩
  have h1 := ((w.now e1).mono e2.same).mono e3.same
  have h2 := (w2.now e2).mono e3.same
  have h3 := w3.now e3
  rw [ed1] at h1
  rw [ed2] at h2
  rw [ed3] at h3
  exact ⟨i, j, k, n, by rw [h1.int_inv, h2.int_inv, h3.int_inv], hc, hq _ H3 B3 _ ((e1.trans e2).trans e3) (walk_range3 i k n) q⟩
theorem rgc_up {i j c : Int} (hc : 1 ≤ c) (hc2 : c < 1000000) (h1 : -(2 ^ 60) ≤ i) (h2 : i < 2 ^ 60) (h3 : -(2 ^ 60) ≤ j) (h4 : j < 2 ^ 60) : RgC i j c (if i < j then (j - i - 1) / c + 1 else 0).toNat := by
  have hd : i < j → 0 ≤ (j - i - 1) / c := fun h => Int.ediv_nonneg (by omega) (by omega)
  have hle : i < j → (j - i - 1) / c ≤ j - i - 1 := fun h => Int.ediv_le_self _ (by omega)
  have e : Builtin.Range.rangeSize i j c = ((if i < j then (j - i - 1) / c + 1 else 0).toNat : Int) := by
    unfold Builtin.Range.rangeSize
    rw [if_pos (by omega)]
    split
    · have := hd (by assumption)
      omega
    · rfl
  refine ⟨by omega, by omega, ?_, e⟩
  unfold Builtin.Range.small
  rw [e]
  generalize hm : (if i < j then (j - i - 1) / c + 1 else 0).toNat = m
  have hm2 : m ≤ 2 ^ 61 := by
    subst hm
    split
    · have := hd (by assumption); have := hle (by assumption); omega
    · omega
  simp only [Builtin.Range.rangeFitsLong, Bool.and_eq_true, Bool.or_eq_true, decide_eq_true_eq, beq_iff_eq]
  rw [if_pos (by omega)]
  simp only [Bool.and_eq_true, decide_eq_true_eq]
  omega
theorem rgc_down {i j : Int} (h1 : -(2 ^ 62) ≤ i) (h2 : i < 2 ^ 62) (h3 : -(2 ^ 62) ≤ j) (h4 : j < 2 ^ 62) : RgC i j (-1) (i - j).toNat :=
  ⟨by decide, by decide, PySem.W.small_down h1 h2 h3 h4, PySem.W.rangeSize_downNat i j⟩
/-- a text's signs -/
def sgD (x : Str) : List D := x.cps.toList.map fun c => .str ⟨#[c]⟩
theorem walk_str {K : K0} {B : Hp} (x : Str) : Walk K B (Its x) (sgD x) where
  go := fun i H B1 l1 l2 h => by
    have h : i < x.cps.size := by simpa [sgD] using h
    exact h
  stop := fun i H B1 l1 l2 h => by
    have h : x.cps.size ≤ i := by simpa [sgD] using h
    exact h
  yld := fun i H v H' B1 hlt l1 l2 ⟨e, c, h, ev⟩ => by
    subst e ev
    refine ⟨_, B1, by unfold sgD; rw [List.getElem?_map, Array.getElem?_toList, h]; rfl, .refl l2, .str _⟩
def wiS (p : WE) : WI := fun env Q E => p env (fun r => ∃ x, r.d = .str x ∧ Q (sgD x)) E
theorem di_str (h : DE X W G e m) : DI X W G tg e (wiS m) := by
  refine PIi (pi_str h) fun σ H R ⟨B, env, fp, Q, E, rr, hm, hq, hx⟩ => ?_
  refine ⟨B, env, fp, _, E, rr, hm, fun v H1 B1 r e1 w ⟨x, ed, q⟩ => ?_, hx⟩
  have hv := w.now e1
  rw [ed] at hv
  exact ⟨x, hv.str_inv, hq _ H1 B1 _ e1 (walk_str x) q⟩
/-! ### a list, a tuple or a text, as it comes -/
def iAny (K : PySem.W.Frag) (te : TE) : TI := fun σ H R => te σ H fun x H1 => (∃ a xs, x = .ref a ∧ SqL K H1 a xs ∧ R (Itl K a) H1) ∨ (∃ a xs, x = .ref a ∧ SqT K H1 a xs ∧ R (Itt K a) H1) ∨ ∃ z, x = .str z ∧ R (Its z) H1
theorem pi_any {te : TE} (he : PE X e te) : PI X tg e (iAny X.K te) := by
  refine ⟨fun pins s σ H R I h => ?_⟩
  refine thn (he.run pins s σ H _ I h) fun v s1 ⟨x, H1, I1, r1, q1⟩ => ?_
  rcases q1 with ⟨a, xs, ex, hq, q⟩ | ⟨a, xs, ex, hq, q⟩ | ⟨x, ex, q⟩
  · subst ex
    cases r1
    obtain ⟨its, rv, p, hz⟩ := I1.list hq
    refine wpAny_pyIter_list p.isList ?_
    refine ⟨s1.heap.objs.size, [s1.heap.objs.size], _, _, H1, rfl, I1.kept (t' := s1.toks) fun b o e => Heap.get?_push_of_some _ e, turn_list a _, ⟨_, Heap.get?_push_size _ rfl, rfl, rfl⟩, fun b hb => ?_, q⟩
    have e : b = s1.heap.objs.size := by simpa using hb
    subst e
    exact I1.fpOk (Nat.le_refl _) (I1.hok.fresh (Nat.le_refl _))
  · subst ex
    cases r1
    obtain ⟨its, rv, p, hz⟩ := I1.tuple hq
    refine wpAny_pyIter_tuple (show s1.heap.IsTuple a its.toArray from p) ?_
    refine ⟨s1.heap.objs.size, [s1.heap.objs.size], _, _, H1, rfl, I1.kept (t' := s1.toks) fun b o e => Heap.get?_push_of_some _ e, turn_tuple a _, ⟨_, Heap.get?_push_size _ rfl, rfl, rfl⟩, fun b hb => ?_, q⟩
    have e : b = s1.heap.objs.size := by simpa using hb
    subst e
    exact I1.fpOk (Nat.le_refl _) (I1.hok.fresh (Nat.le_refl _))
  · subst ex
    obtain ⟨t, rfl⟩ := r1
    cases ha : x.cps.all (· < 128)
    · exact wpAny_pyIter_wide ha (pi_one (tk := s1.toks) I1 _ (turn_str _ x t "str_iterator" (.inr rfl)) ⟨_, Heap.get?_push_size _ rfl, rfl, rfl⟩ q)
    · exact wpAny_pyIter_ascii ha (pi_one (tk := s1.toks) I1 _ (turn_str _ x t "str_ascii_iterator" (.inl rfl)) ⟨_, Heap.get?_push_size _ rfl, rfl, rfl⟩ q)
def walkA (r : R) (Q : List D → Prop) : Prop := (r.st ∧ ∃ ds, r.d = .list ds ∧ Q ds) ∨ (r.st ∧ ∃ ds, r.d = .tuple ds ∧ Q ds) ∨ ∃ x, r.d = .str x ∧ Q (sgD x)
def walkAB (r : R) (Q : List D → Prop) : Prop := (r.sh ∧ ∃ ds, r.d = .list ds ∧ Q ds) ∨ (r.st ∧ ∃ ds, r.d = .tuple ds ∧ Q ds) ∨ ∃ x, r.d = .str x ∧ Q (sgD x)
theorem walkA_l (ds : List D) (Q : List D → Prop) : walkA (.v (.list ds)) Q = Q ds := by simp [walkA]
theorem walkA_t (ds : List D) (Q : List D → Prop) : walkA (.v (.tuple ds)) Q = Q ds := by simp [walkA]
theorem walkA_s (x : Str) (Q : List D → Prop) : walkA (.v (.str x)) Q = Q (sgD x) := by simp [walkA]
theorem walkA_n (ds : List D) (Q : List D → Prop) : walkA (.t (.lst ds)) Q = Q ds := by simp [walkA]
theorem walkAB_l (ds : List D) (Q : List D → Prop) : walkAB (.v (.list ds)) Q = Q ds := by simp [walkAB]
theorem walkAB_t (ds : List D) (Q : List D → Prop) : walkAB (.v (.tuple ds)) Q = Q ds := by simp [walkAB]
theorem walkAB_s (x : Str) (Q : List D → Prop) : walkAB (.v (.str x)) Q = Q (sgD x) := by simp [walkAB]
theorem walkAB_n (ds : List D) (Q : List D → Prop) : walkAB (.t (.lst ds)) Q = Q ds := by simp [walkAB]
theorem walkAB_b (ds : List D) (Q : List D → Prop) : walkAB (.b (.lst ds)) Q = Q ds := by simp [walkAB]
def wiA (t : WE) : WI := fun env Q E => t env (fun r => walkA r Q) E
def wiAB (t : WE) : WI := fun env Q E => t env (fun r => walkAB r Q) E
theorem di_any (h : DE X W G e m) : DI X W G tg e (wiA m) := by
  refine PIi (pi_any h) fun σ H R ⟨B, env, fp, Q, E, rr, hm, hq, hx⟩ => ?_
  refine ⟨B, env, fp, _, E, rr, hm, fun v H1 B1 r e1 w q => ?_, hx⟩
  rcases q with ⟨s, ds, ed, q⟩ | ⟨s, ds, ed, q⟩ | ⟨x, ed, q⟩
  · obtain ⟨B2, e2, l2, rp⟩ := w.keep e1 s
    rw [ed] at rp
    obtain ⟨a, vs, ev, sv, t⟩ := rp.list_inv
    exact .inl ⟨a, vs, ev, e2.bh.sqL sv, hq _ H1 B2 ds e2 (walk_list sv t) q⟩
  · obtain ⟨B2, e2, l2, rp⟩ := w.keep e1 s
    rw [ed] at rp
    obtain ⟨a, vs, ev, sv, t⟩ := rp.tup_inv
    exact .inr (.inl ⟨a, vs, ev, e2.bh.sqT sv, hq _ H1 B2 ds e2 (walk_tup sv t) q⟩)
  · have hv := w.now e1
    rw [ed] at hv
    exact .inr (.inr ⟨x, hv.str_inv, hq _ H1 B1 _ e1 (walk_str x) q⟩)
theorem dic_any (h : DE X W G e m) : DIc X W G tg e (wiAB m) := by
  refine PIi (pi_any h) fun σ H R ⟨B, env, fp, Q, E, rr, hm, hq, hx⟩ => ?_
  refine ⟨B, env, fp, _, E, rr, hm, fun v H1 B1 r e1 w q => ?_, hx⟩
  rcases q with ⟨s, ds, ed, q⟩ | ⟨s, ds, ed, q⟩ | ⟨x, ed, q⟩
  · obtain ⟨B2, e2, l2, rp⟩ := w.view e1 s
    rw [ed] at rp
    obtain ⟨a, vs, ev, sv, t⟩ := rp.list e2.bh
    exact .inl ⟨a, vs, ev, sv, hq _ H1 B2 ds e2 (walkH_list sv t) q⟩
  · obtain ⟨B2, e2, l2, rp⟩ := w.keep e1 s
    rw [ed] at rp
    obtain ⟨a, vs, ev, sv, t⟩ := rp.tup_inv
    exact .inr (.inl ⟨a, vs, ev, e2.bh.sqT sv, hq _ H1 B2 ds e2 (walk_tup sv t).toH q⟩)
  · have hv := w.now e1
    rw [ed] at hv
    exact .inr (.inr ⟨x, hv.str_inv, hq _ H1 B1 _ e1 (walk_str x).toH q⟩)
end
end DL

set_option Elab.async false
set_option linter.all false
set_option maxRecDepth 100000
set_option maxHeartbeats 1000000
/-! DL14: items stored, own lists of own things changed within, unpacking, two targets at once. -/
namespace DL
open PySem L2 PyProof.Rows
section
variable {K : K0} {B B' H H' : Hp}
theorem OwnAll.setO {v : V} {o : O} {g : List Addr} (w : Own K B H v o g) (ng : g.Nodup) : ∀ {vs : List V} {os : List O} {f : List Addr} (j : Nat), OwnAll K B H vs os f → f.Nodup → (∀ a ∈ g, a ∉ f) →
    ∃ f', OwnAll K B H (vs.set j v) (os.set j o) f' ∧ f'.Nodup ∧ ∀ a ∈ f', a ∈ f ∨ a ∈ g
  | _, _, _, _, .nil, nf, _ => ⟨[], .nil, by simp, by simp⟩
  | _, _, _, 0, .cons (f := f1) (g := f2) r t, nf, dj => by
    obtain ⟨n1, n2, n3⟩ := List.nodup_append.mp nf
    refine ⟨g ++ f2, .cons w t, List.nodup_append.mpr ⟨ng, n2, fun a m b m' e => dj a m (e ▸ List.mem_append_right _ m')⟩, fun a m => ?_⟩
    rcases List.mem_append.mp m with m | m
    · exact .inr m
    · exact .inl (List.mem_append_right _ m)
  | _, _, _, j + 1, .cons (f := f1) (g := f2) r t, nf, dj => by
    obtain ⟨n1, n2, n3⟩ := List.nodup_append.mp nf
    obtain ⟨f', h1, h2, h3⟩ := OwnAll.setO w ng j t n2 fun a m z => dj a m (List.mem_append_right _ z)
    refine ⟨f1 ++ f', .cons r h1, List.nodup_append.mpr ⟨n1, h2, fun a m b m' e => ?_⟩, fun a m => ?_⟩
    · subst e
      rcases h3 a m' with z | z
      · exact n3 a m a z rfl
      · exact dj a z (List.mem_append_left _ m)
    · rcases List.mem_append.mp m with m | m
      · exact .inl (List.mem_append_left _ m)
      · rcases h3 a m with z | z
        · exact .inl (List.mem_append_right _ z)
        · exact .inr z
/-- an own thing within an own list changes -/
theorem OwnAll.atO : ∀ {vs : List V} {os : List O} {f : List Addr} {j : Nat} {o : O}, OwnAll K B H vs os f → f.Nodup → os[j]? = some o →
    ∃ v g, vs[j]? = some v ∧ Own K B H v o g ∧ (∀ a ∈ g, a ∈ f) ∧ g.Nodup ∧ ∀ (B' H' : Hp) (o' : O) (g' : List Addr), Le B B' → (∀ a ∈ f, a ∉ g → H' a = H a) → Own K B' H' v o' g' → g'.Nodup → (∀ a ∈ g', a ∈ f → a ∈ g) →
      ∃ f', OwnAll K B' H' vs (os.set j o') f' ∧ f'.Nodup ∧ ∀ a ∈ f', (a ∈ f ∧ a ∉ g) ∨ a ∈ g'
  | _, _, _, _, _, .nil, _, e => by simp at e
  | _, _, _, 0, _, .cons (f := f1) (g := f2) r t, nf, e => by
    simp at e; subst e
    obtain ⟨n1, n2, n3⟩ := List.nodup_append.mp nf
    refine ⟨_, f1, rfl, r, fun a m => List.mem_append_left _ m, n1, fun B' H' o' g' l k w ng dj => ?_⟩
    refine ⟨g' ++ f2, .cons w (t.mono l fun a m => k a (List.mem_append_right _ m) fun z => n3 a z a m rfl), List.nodup_append.mpr ⟨ng, n2, fun a m b m' e => ?_⟩, fun a m => ?_⟩
    · subst e; exact n3 a (dj a m (List.mem_append_right _ m')) a m' rfl
    · rcases List.mem_append.mp m with m | m
      · exact .inr m
      · exact .inl ⟨List.mem_append_right _ m, fun z => n3 a z a m rfl⟩
  | _, _, _, j + 1, _, .cons (f := f1) (g := f2) r t, nf, e => by
    obtain ⟨n1, n2, n3⟩ := List.nodup_append.mp nf
    obtain ⟨v, g, h1, h2, h3, h4, h5⟩ := OwnAll.atO (j := j) t n2 (by simpa using e)
    refine ⟨v, g, by simpa using h1, h2, fun a m => List.mem_append_right _ (h3 a m), h4, fun B' H' o' g' l k w ng dj => ?_⟩
    obtain ⟨f', q1, q2, q3⟩ := h5 B' H' o' g' l (fun a m n => k a (List.mem_append_right _ m) n) w ng fun a m z => dj a m (List.mem_append_right _ z)
    refine ⟨f1 ++ f', .cons (r.mono l fun a m => k a (List.mem_append_left _ m) fun z => n3 a m a (h3 a z) rfl) q1, List.nodup_append.mpr ⟨n1, q2, fun a m b m' e => ?_⟩, fun a m => ?_⟩
    · subst e
      rcases q3 a m' with z | z
      · exact n3 a m a z.1 rfl
      · have := dj a z (List.mem_append_left _ m)
        exact n3 a m a (h3 a this) rfl
    · rcases List.mem_append.mp m with m | m
      · exact .inl ⟨List.mem_append_left _ m, fun z => n3 a m a (h3 a z) rfl⟩
      · rcases q3 a m with z | z
        · exact .inl ⟨List.mem_append_right _ z.1, z.2⟩
        · exact .inr z
end
/-! ### dicts: an item put -/
def putD (kvs : List (D × D)) (k : Key) (d : D) : List (D × D) := if (lookK kvs k).isSome = true then kvs.map (fun p => if keyD p.1 = some k then (p.1, d) else p) else kvs ++ [(kD k, d)]
theorem any_valV (kvs : List (Key × V)) (k : Key) : (kvs.any fun kv => decide (kv.1 = k)) = (valV kvs k).isSome := by
  induction kvs with
  | nil => rfl
  | cons p r ih =>
    rw [List.any_cons]
    by_cases h : p.1 = k
    · rw [valV_pos h]; simp [h]
    · rw [valV_neg h, ← ih]; simp [h]
theorem RepKV.append {K : K0} {B : Hp} : ∀ {xs ys : List (Key × V)} {ds es : List (D × D)}, RepKV K B xs ds → RepKV K B ys es → RepKV K B (xs ++ ys) (ds ++ es)
  | _, _, _, _, .nil, s => s
  | _, _, _, _, .cons r t, s => .cons r (RepKV.append t s)
theorem RepKV.mapPut {K : K0} {B : Hp} {k : Key} {v : V} {d : D} (w : Rep K B v d) : ∀ {kvs : List (Key × V)} {ds : List (D × D)}, RepKV K B kvs ds → RepKV K B (kvs.map fun kv => if kv.1 = k then (kv.1, v) else kv) (ds.map fun p => if keyD p.1 = some k then (p.1, d) else p)
  | _, _, .nil => .nil
  | _, _, .cons (k := j) r t => by
    rw [List.map_cons, List.map_cons]
    by_cases h : j = k
    · subst h
      simp only [keyD_kD, if_true]
      exact .cons w (RepKV.mapPut w t)
    · simp only [keyD_kD, if_neg h, if_neg (fun q : some j = some k => h (Option.some.inj q))]
      exact .cons r (RepKV.mapPut w t)
theorem RepKV.put {K : K0} {B : Hp} {k : Key} {v : V} {d : D} {kvs : List (Key × V)} {ds : List (D × D)} (r : RepKV K B kvs ds) (w : Rep K B v d) : RepKV K B (putK kvs k v) (putD ds k d) := by
  unfold putK putD
  rw [any_valV, r.has]
  split
  · exact r.mapPut w
  · exact r.append (.cons w .nil)
theorem look_put (kvs : List (D × D)) (k j : Key) (d : D) : lookK (putD kvs k d) j = if j = k then some d else lookK kvs j := by
  unfold putD
  split
  · rename_i h
    induction kvs with
    | nil => simp [lookK] at h
    | cons p r ih =>
      rw [List.map_cons, lookK_cons]
      rw [lookK_cons] at h
      by_cases hp : keyD p.1 = some k
      · rw [if_pos hp]
        dsimp only
        by_cases hj : j = k
        · subst hj; rw [if_pos hp, if_pos rfl]
        · rw [hp, if_neg (fun q => hj (Option.some.inj q).symm), if_neg hj, lookK_cons, hp, if_neg (fun q => hj (Option.some.inj q).symm)]
          clear ih h
          induction r with
          | nil => rfl
          | cons p' r' ih' =>
            rw [List.map_cons, lookK_cons, lookK_cons]
            by_cases h2 : keyD p'.1 = some k
            · rw [if_pos h2]; dsimp only; rw [h2, if_neg (fun q => hj (Option.some.inj q).symm), if_neg (fun q => hj (Option.some.inj q).symm)]; exact ih'
            · rw [if_neg h2]
              split
              · rfl
              · exact ih'
      · rw [if_neg hp] at h
        rw [if_neg hp, lookK_cons]
        by_cases hj : keyD p.1 = some j
        · rw [if_pos hj, if_pos hj, if_neg (fun q => hp (by rw [hj, q]))]
        · rw [if_neg hj, if_neg hj, ih h]
  · rename_i h
    have hn : lookK kvs k = none := by
      cases q : lookK kvs k with
      | none => rfl
      | some _ => rw [q] at h; exact absurd rfl h
    clear h
    induction kvs with
    | nil =>
      rw [List.nil_append, lookK_cons]
      dsimp only
      rw [keyD_kD]
      by_cases hj : j = k
      · subst hj; rw [if_pos rfl, if_pos rfl]
      · rw [if_neg (fun q => hj (Option.some.inj q).symm), if_neg hj]
    | cons p r ih =>
      rw [lookK_cons] at hn
      rw [List.cons_append, lookK_cons, lookK_cons]
      by_cases hp : keyD p.1 = some k
      · rw [if_pos hp] at hn; cases hn
      · rw [if_neg hp] at hn
        by_cases hj : keyD p.1 = some j
        · rw [if_pos hj, if_pos hj, if_neg (fun q => hp (by rw [hj, q]))]
        · rw [if_neg hj, if_neg hj, ih hn]
/-! ### an item stored at a name -/
def stO : O → D → R → (O → Prop) → Prop
  | .lst ds, .int j, r, Q => ∃ n, ixN ds.length j = some n ∧ Q (.lst (ds.set n r.d))
  | .lsts os, .int j, r, Q => ∃ n, ixN os.length j = some n ∧ Q (.lsts (os.set n r.o))
  | .dic kvs, k, r, Q => ∃ key, keyD k = some key ∧ kvs.length < sizeLine ∧ Q (.dic (putD kvs key r.d))
  | _, _, _, _ => False
theorem stO_lst (ds : List D) (j : Int) (r : R) (Q : O → Prop) : stO (.lst ds) (.int j) r Q = ∃ n, ixN ds.length j = some n ∧ Q (.lst (ds.set n r.d)) := rfl
theorem stO_lsts (ds : List O) (j : Int) (r : R) (Q : O → Prop) : stO (.lsts ds) (.int j) r Q = ∃ n, ixN ds.length j = some n ∧ Q (.lsts (ds.set n r.o)) := rfl
theorem stO_dic (kvs : List (D × D)) (k : D) (r : R) (Q : O → Prop) : stO (.dic kvs) k r Q = ∃ key, keyD k = some key ∧ kvs.length < sizeLine ∧ Q (.dic (putD kvs key r.d)) := by cases k <;> rfl
def isMut : O → Prop
  | .lst _ => True
  | .lsts _ => True
  | .dic _ => True
  | _ => False
theorem isMut_lst (ds : List D) : isMut (.lst ds) = True := rfl
theorem isMut_lsts (ds : List O) : isMut (.lsts ds) = True := rfl
theorem isMut_dic (ds : List (D × D)) : isMut (.dic ds) = True := rfl
theorem isMut.nraw {o : O} (h : isMut o) (a : Addr) : o ≠ .raw a := fun q => by subst q; exact h
def wSt (i : Nat) (k m : WE) : WS := fun D env => ∃ o, env[i]? = some (some o) ∧ isMut o ∧ m env (fun r => k env (fun kk => r.st ∧ stO o kk.d r fun o' => D.nx (env.set i (some o'))) (fun n => D.ex n env)) (fun n => D.ex n env)
/-- a result, later -/
theorem VOk.fwd {K : K0} {H H1 B1 H3 B3 : Hp} {fp : List Addr} {v : V} {r : R} (e : Ext H1 B1 H3 B3) (x : VOk K H fp B1 H1 v r) : VOk K H fp B3 H3 v r := by
  have keep : ∀ {o : O} {f : List Addr}, Own K B1 H1 v o f → Own K B3 H3 v o f := fun x => x.mono e.le fun a m => by
    obtain ⟨u, h⟩ := x.dom a m
    rw [h]; exact e.same a u h
  cases r with
  | v d => exact Rep.mono e.le x
  | t o =>
    obtain ⟨f, x, nd, hf⟩ := x
    refine ⟨f, keep x, nd, fun a m => ⟨(hf a m).1, ?_⟩⟩
    obtain ⟨u, h⟩ := x.dom a m
    exact e.new a u h (hf a m).2
  | b o => obtain ⟨f, x, hs⟩ := x; exact ⟨f, keep x, hs⟩
theorem PSet.orS {X : Cx} {t t' : TSet} (h : PSet X t) (h' : PSet X t') : PSet X (fun o i v H Q => t o i v H Q ∨ t' o i v H Q) := by
  intro pins s σ H o i v ov iv u Q I ro ri rv q
  rcases q with q | q
  · exact h pins s σ H o i v ov iv u Q I ro ri rv q
  · exact h' pins s σ H o i v ov iv u Q I ro ri rv q
section
open L2 in
variable {X : Cx} {W : WX} {G : Hp} {e ob ix : Expr} {t k m : WE} {pos : Pos}
theorem st_core {B H Hs Bs : Hp} {env : Env} {fp : List Addr} {σ : L2.St} {D : Ends} {d : En} {r : R} {v y : V} {kd : PyData} {i : Nat} {o : O} (rr0 : RR X.K G Bs env fp σ Hs) (e' : Ext Hs Bs H B) (w : VOk X.K Hs fp B H v r) (s : r.st) (hy : Rep X.K H y kd) (x : SOk X W G Bs d D σ)
    (hi : env[i]? = some (some o)) (ha : stO o kd r fun o' => d.nx (env.set i (some o'))) :
    ∃ vi, σ[i]? = some (some vi) ∧ (rSetL vi y v H (fun H1 => D.nx σ H1) ∨ rSetD vi y v H (fun H1 => D.nx σ H1)) := by
  have rr := rr0.ext e'
  cases o with
  | lst ds =>
    cases kd <;> first | exact (show False from ha).elim | skip
    obtain ⟨n, hn, q⟩ := ha
    obtain ⟨B2, e2, l2, rp⟩ := w.keep e' s
    have rr2 := rr0.ext e2
    obtain ⟨vi, g, h1, h2, h3, h4, h5⟩ := rr2.put hi
    cases h2 with
    | @lst a vs _ hl rl =>
      refine ⟨_, h1, .inl ⟨a, vs, _, n, rfl, hy.int_inv, hl, by rw [rl.length]; exact hn, ?_⟩⟩
      have na : B2 a = none := (h4 a (by simp)).2.1
      obtain ⟨fp', z⟩ := h5 B2 (upd H a (.lst (vs.set n v))) (.lst (ds.set n r.d)) [a] (.refl _)
        (fun b u q => upd_keep (rr2.bh b u q) (ne_of_none q na)) (fun b u n q => upd_keep q fun z => n (by simp [z])) (fun _ _ _ _ q => q)
        (.lst upd_same (rl.set rp n)) (by simp) (fun b m => ⟨fun _ => m, (h4 b m).2⟩)
      exact x.nx σ _ B2 _ fp' e2.le z q
  | lsts os =>
    cases kd <;> first | exact (show False from ha).elim | skip
    obtain ⟨n, hn, q⟩ := ha
    obtain ⟨vi, g, h1, h2, h3, h4, h5⟩ := rr.put hi
    cases h2 with
    | @lsts a vs _ f hl rl =>
      refine ⟨_, h1, .inl ⟨a, vs, _, n, rfl, hy.int_inv, hl, by rw [rl.length]; exact hn, ?_⟩⟩
      have na : B a = none := (h4 a (by simp)).2.1
      obtain ⟨na1, nf⟩ := List.nodup_cons.mp h3
      have key : ∀ g', Own X.K B H v r.o g' → g'.Nodup → (∀ b ∈ g', b ∉ fp ∧ B b = none ∧ G b = none) → D.nx σ (upd H a (.lst (vs.set n v))) := fun g' wg ng hg => by
        have dj : ∀ b ∈ g', b ∉ a :: f := fun b m z => (hg b m).1 (h4 b z).1
        obtain ⟨f', t1, t2, t3⟩ := rl.setO wg ng n nf fun b m z => dj b m (List.mem_cons_of_mem _ z)
        have nd2 : (a :: f').Nodup := List.nodup_cons.mpr ⟨fun m => by
          rcases t3 a m with z | z
          · exact na1 z
          · exact dj a z List.mem_cons_self, t2⟩
        have hne : ∀ b ∈ f', upd H a (.lst (vs.set n v)) b = H b := fun b m => upd_ne fun z => by
          subst z
          exact (List.nodup_cons.mp nd2).1 m
        have t1 := t1.mono (H' := upd H a (.lst (vs.set n v))) (Le.refl B) hne
        obtain ⟨fp', y⟩ := h5 B (upd H a (.lst (vs.set n v))) (.lsts (os.set n r.o)) (a :: f') (.refl _)
          (fun b u q => upd_keep (rr.bh b u q) (ne_of_none q na)) (fun b u n q => upd_keep q fun z => n (by simp [z])) (fun _ _ _ _ q => q)
          (.lsts upd_same t1) nd2 (fun b m => by
            rcases List.mem_cons.mp m with z | z
            · subst z; exact ⟨fun _ => List.mem_cons_self, (h4 b List.mem_cons_self).2⟩
            · rcases t3 b z with z | z
              · exact ⟨fun _ => List.mem_cons_of_mem _ z, (h4 b (List.mem_cons_of_mem _ z)).2⟩
              · exact ⟨fun q => absurd q (hg b z).1, (hg b z).2⟩)
        exact x.nx σ _ B _ fp' e'.le y q
      cases r with
      | v d => exact key [] (.fro w) (by simp) fun b m => absurd m (by simp)
      | t o => obtain ⟨g', w, ng, hg⟩ := w; exact key g' w ng (rr0.apart hg)
      | b o => exact s.elim
  | dic kvs =>
    rw [stO_dic] at ha
    obtain ⟨key, hk, hz, q⟩ := ha
    have e1 := kD_of hk
    subst e1
    have e2 := kV_rep hy
    subst e2
    obtain ⟨B2, e2, l2, rp⟩ := w.keep e' s
    have rr2 := rr0.ext e2
    obtain ⟨vi, g, h1, h2, h3, h4, h5⟩ := rr2.put hi
    cases h2 with
    | @dic a vs _ hl rl =>
      refine ⟨_, h1, .inr ⟨a, _, rfl, DPut.k hl (by rw [rl.length]; exact hz), ?_⟩⟩
      have na : B2 a = none := (h4 a (by simp)).2.1
      obtain ⟨fp', z⟩ := h5 B2 (upd H a (.dK (putK vs key v))) (.dic (putD kvs key r.d)) [a] (.refl _)
        (fun b u q => upd_keep (rr2.bh b u q) (ne_of_none q na)) (fun b u n q => upd_keep q fun z => n (by simp [z])) (fun _ _ _ _ q => q)
        (.dic upd_same (rl.put rp)) (by simp) (fun b m => ⟨fun _ => m, (h4 b m).2⟩)
      exact x.nx σ _ B2 _ fp' e2.le z q
  | fro d => cases kd <;> exact (show False from ha).elim
  | raw _ => cases kd <;> exact (show False from ha).elim
theorem ds_st {i : Nat} {p2 : Pos} (hu : X.A.units + 1 < cLine) (ho : PE X ob (tVar i)) (hk : DE X W G ix k) (hm : DE X W G e m)
    (ha : ∀ v, assign (.Subscript ob ix p2) X.env v = (do
      let ov ← holding [v] (eval ob X.env)
      let iv ← holding [v, ov] (eval ix X.env)
      standAt p2
      holding [v, ov, iv] (setItem ov iv v)
      release [v, ov, iv] []))
    (hs : swapsWithSole [.Subscript ob ix p2] e pos.line X.env = pure false) (hw : swappedStores [.Subscript ob ix p2] e X.env = pure none)
    : DS X W G (.Assign [.Subscript ob ix p2] e pos) (wSt i k m) := by
  refine PSi (ps_asg hm (pg_sub ho hk (PSet.orS set_list (set_dict hu)) ha) hs hw) fun D σ H ⟨B, env, fp, d, rr, ⟨o, hi, mu, hmm⟩, x⟩ => ?_
  refine ⟨B, env, fp, _, _, rr, hmm, fun v H1 B1 r e1 w q1 => ?_, x.x rr⟩
  obtain ⟨vi, g, h1, h2, h3⟩ := rr.own.get hi mu.nraw
  refine ⟨vi, h1, B1, env, fp, _, _, rr.ext e1, q1, fun y H3 B3 kr e3 wk ⟨s, q⟩ => ?_, (x.x rr).later e1.same⟩
  obtain ⟨vi', h1', q'⟩ := st_core rr (e1.trans e3) (VOk.fwd e3 w) s (wk.now e3) x hi q
  rw [h1] at h1'
  cases h1'
  exact q'
end
end DL

set_option Elab.async false
set_option linter.all false
set_option maxRecDepth 100000
set_option maxHeartbeats 1000000
/-! DL15: lists repeated, methods of texts, dicts asked with a default, unpacking, two targets, the last item taken off. -/
namespace DL
open PySem L2 PyProof.Rows
theorem q_mulI (l : Addr) (items : Array Value) (n : Nat) (d : Option Addr) (sl : Array (Option Value)) (x : Int) (u : Tok) (hc0 : ¬(!Builtin.List.listFitsIndex x) = true) (hc1 : ¬items.size * x.toNat > (2 ^ 63 - 1) / 8) (hc2 : ¬Builtin.List.listTooLong (items.size * x.toNat) = true) :
    Meets (Builtin.«list.__mul__» ⟨[.ref l, .int x u], []⟩) (fun _ R s => s.heap.get? l = some { cls := .type "list", dict := d, data := .seq items n, slots := sl } ∧ R (.ok (.ret (Value.ref s.heap.objs.size))) { s with heap := s.heap.push { cls := Value.type "list", data := Data.seq (List.foldl (fun x1 x2 => x1 ++ x2) #[] (List.replicate (if items.isEmpty = true then 0 else x.toNat) items)) }, toks := s.toks }) :=
  .of_wp fun prog w A R s h => by
    obtain ⟨hp, g, d, tk, os⟩ := s; obtain ⟨hl, h⟩ := h
    have hsz := AutoListH.joined_fits hc2
    wp_walk; refine wpAny_ite_false (decide_eq_false (Nat.not_lt.mpr hsz)) ?_; wp_walk; exact ⟨_, rfl, h⟩
theorem q_rmulI (a : Int) (t : Tok) (l : Addr) (items : Array Value) (n : Nat) (d : Option Addr) (sl : Array (Option Value)) :
    Meets (Builtin.«int.__rmul__» ⟨[.int a t, .ref l], []⟩) (fun _ R s => s.heap.get? l = some { cls := .type "list", dict := d, data := .seq items n, slots := sl } ∧ R (.ok (.ret Value.notImplemented)) s) :=
  .of_wp fun prog w A R s h => by obtain ⟨hp, g, d, tk, os⟩ := s; obtain ⟨hl, h⟩ := h; wp_walk; exact ⟨_, rfl, h⟩
def repS (a : Str) (k : Int) : Str := ⟨(List.replicate k.toNat a.cps.toList).flatten.toArray⟩
theorem repS_fold (a : Array Nat) : ∀ (n : Nat) (l : List Nat), (List.replicate n a).foldl (· ++ ·) l.toArray = (l ++ (List.replicate n a.toList).flatten).toArray
  | 0, l => by simp
  | n + 1, l => by
    rw [List.replicate_succ, List.foldl_cons, show l.toArray ++ a = (l ++ a.toList).toArray from by obtain ⟨l2⟩ := a; simp, repS_fold a n, List.replicate_succ, List.flatten_cons, List.append_assoc]
theorem repS_size (a : Str) (k : Int) : (repS a k).length = k.toNat * a.length := by
  unfold repS
  show (List.flatten _).toArray.size = _
  simp
  rfl
theorem op_mulStr {X : Cx} : OpR X (binaryOp .Mult) (fun x y H Q => ∃ (a : Str) (k : Int), x = .str a ∧ y = .int k ∧ -(2 ^ 62) ≤ k ∧ k < 2 ^ 62 ∧ a.length * k.toNat ≤ 10000000 ∧ k ≤ 10000000 ∧ Q (.str (repS a k)) H) := by
  intro pins s σ H x y v u Q I rx ry h
  obtain ⟨a, k, rfl, rfl, h1, h2, h3, h4, q⟩ := h
  obtain ⟨t, rfl⟩ := rx
  obtain ⟨t', rfl⟩ := ry
  have e1 : decide (k < -(2 ^ 63 : Int)) = false := decide_eq_false (by omega)
  have e2 : decide (k ≥ 2 ^ 63) = false := decide_eq_false (by omega)
  refine P.mul_str (by rw [e1, e2]; rfl) (fun hk hn hgt => ?_) (fun hk hn => ?_) ?_
  · have hal : (a.length : Int) ≤ 10000000 := by
      have : a.length * 1 ≤ a.length * k.toNat := Nat.mul_le_mul_left _ (by omega)
      omega
    have : (10000000 : Int) ≤ (2 ^ 63 - 1) / k := by
      have := Int.le_ediv_of_mul_le (a := 10000000) (b := 2 ^ 63 - 1) (c := k) (by omega) (by omega)
      exact this
    omega
  · show Builtin.Str.tooLong _ = false
    unfold Builtin.Str.tooLong
    rw [decide_eq_false_iff_not, PySem.sizeLine]
    omega
  · by_cases hk : k < 1
    · rw [if_pos hk]
      have e : repS a k = Str.empty := by
        unfold repS
        rw [show k.toNat = 0 from by omega]
        rfl
      rw [e] at q
      exact ⟨by decide, .str _, H, I.tok _, ⟨_, rfl⟩, q⟩
    rw [if_neg hk]
    by_cases hn : (k == 1 || a.length == 0) = true
    · rw [if_pos hn]
      have e : repS a k = a := by
        unfold repS
        simp only [Bool.or_eq_true, beq_iff_eq] at hn
        rcases hn with rfl | hn
        · simp [List.replicate]
        · obtain ⟨⟨l⟩⟩ := a
          have : l = [] := List.length_eq_zero_iff.mp hn
          subst this
          simp
      rw [e] at q
      exact ⟨.str _, H, I, ⟨_, rfl⟩, q⟩
    · rw [if_neg hn]
      have e : (⟨(List.replicate k.toNat a.cps).foldl (· ++ ·) #[]⟩ : Str) = repS a k := by
        unfold repS
        have := repS_fold a.cps k.toNat []
        rw [List.nil_append] at this
        rw [← this]
      rw [e]
      refine ⟨?_, .str _, H, I.tok _, ⟨_, rfl⟩, q⟩
      show (repS a k).length ≤ _
      rw [repS_size, PySem.sizeLine, Nat.mul_comm]
      omega
def bMul : Op2
  | .int i, .int j, Q => CMulG i j ∧ Q (.v (.int (i * j)))
  | .list ds, .int k, Q => -(2 ^ 63) ≤ k ∧ k < 2 ^ 63 ∧ ds.length * k.toNat ≤ sizeLine ∧ Q (.t (.lst (List.replicate k.toNat ds).flatten))
  | .str a, .int k, Q => -(2 ^ 62) ≤ k ∧ k < 2 ^ 62 ∧ a.length * k.toNat ≤ 10000000 ∧ k ≤ 10000000 ∧ Q (.v (.str (repS a k)))
  | _, _, _ => False
theorem bMul_s (a : Str) (k : Int) (Q : R → Prop) : bMul (.str a) (.int k) Q = (-(2 ^ 62) ≤ k ∧ k < 2 ^ 62 ∧ a.length * k.toNat ≤ 10000000 ∧ k ≤ 10000000 ∧ Q (.v (.str (repS a k)))) := rfl
theorem bMul_i (i j : Int) (Q : R → Prop) : bMul (.int i) (.int j) Q = (CMulG i j ∧ Q (.v (.int (i * j)))) := rfl
theorem bMul_l (ds : List D) (k : Int) (Q : R → Prop) : bMul (.list ds) (.int k) Q = (-(2 ^ 63) ≤ k ∧ k < 2 ^ 63 ∧ ds.length * k.toNat ≤ sizeLine ∧ Q (.t (.lst (List.replicate k.toNat ds).flatten))) := rfl
section
variable {X : Cx} {W : WX} {G : Hp} {e ob a b tg : Expr} {ma mb m mo : WE} {pos : Pos}
theorem op_repS : OpR X (binaryOp .Mult) (fun x y H Q => ∃ l k xs, x = .ref l ∧ y = .int k ∧ SqL X.K H l xs ∧ -(2 ^ 63) ≤ k ∧ k < 2 ^ 63 ∧ xs.length * k.toNat ≤ sizeLine ∧
    ∀ p, H p = none → Q (.ref p) (upd H p (.lst (List.replicate k.toNat xs).flatten))) := by
  intro pins s σ H x y v u Q I rx ry h
  obtain ⟨l, k, xs, rfl, rfl, hS, h1, h2, hz, q⟩ := h
  cases rx
  obtain ⟨t, rfl⟩ := ry
  obtain ⟨its, r, ⟨⟨cls, dd, data, sl⟩, n, e, c, dn, ed⟩, z⟩ := I.list hS
  simp only at c ed
  subst c ed
  have hl : xs.length = its.length := r.length
  have hlen : its.toArray.size * k.toNat ≤ sizeLine := by rw [List.size_toArray, ← hl]; exact hz
  have hcap : ¬ its.toArray.size * k.toNat > (2 ^ 63 - 1) / 8 := by
    have : (sizeLine : Nat) ≤ (2 ^ 63 - 1) / 8 := by decide
    omega
  have hfit : ¬ (!Builtin.List.listFitsIndex k) = true := by
    rw [fitsIndex_both h1 h2]
    exact Bool.false_ne_true
  have hlong : ¬ Builtin.List.listTooLong (its.toArray.size * k.toNat) = true := by
    rw [notLongL hlen]
    exact Bool.false_ne_true
  have hnew : List.foldl (fun x1 x2 => x1 ++ x2) #[] (List.replicate (if its.toArray.isEmpty = true then 0 else k.toNat) its.toArray) = (List.replicate k.toNat its).flatten.toArray := by
    have f0 : ∀ m : Nat, List.foldl (fun x1 x2 => x1 ++ x2) #[] (List.replicate m its.toArray) = (List.replicate m its).flatten.toArray := fun m => by
      have := foldl_rep its m []
      rw [List.nil_append] at this
      exact this
    rw [f0]
    cases its with
    | nil => simp
    | cons a r' => rw [if_neg (by simp)]
  refine wpAny_binaryOp_repeat_ref (T := "list") (U := "int") (by decide) ⟨_, e, rfl⟩ (fun s' => typeIs_int s' k t) noFill_list_mul F.fills_int_mul F.slot_int_rmul repeat_list F.slot_int_index.lookup
    (call_meets F.slot_int_rmul (typeIs_int s k t) F.entry_int_rmul (F.args_int_rmul_2 _ _) (q_rmulI k t l its.toArray n dd sl)
      ⟨e, rfl, ⟨_, e, rfl⟩, call_meets F.slot_list_mul ⟨_, e, rfl⟩ F.entry_list_mul (F.args_list_mul_2 _ _) (q_mulI l its.toArray n dd sl k t hfit hcap hlong) ⟨e, ?_⟩⟩)
  rw [hnew]
  have rep : ∀ m : Nat, Vals (List.replicate m xs).flatten (List.replicate m its).flatten := fun m => by
    induction m with
    | zero => exact .nil
    | succ m ih =>
      rw [List.replicate_succ, List.replicate_succ, List.flatten_cons, List.flatten_cons]
      exact r.append ih
  have len : ∀ m : Nat, (List.replicate m xs).flatten.length = xs.length * m := fun m => by
    induction m with
    | zero => rfl
    | succ m ih => rw [List.replicate_succ, List.flatten_cons, List.length_append, ih, Nat.mul_succ, Nat.add_comm]
  exact ⟨.ref _, _, I.lnew (t' := s.toks) (rep _) (by rw [len]; exact hz), rfl, q _ I.fresh⟩
theorem opMul : OpR X (binaryOp .Mult) (r2 X.K bMul) := by
  intro pins s σ H x y v u Q I rx ry ⟨B, fp, dx, dy, Q', l, hx, hy, hf, hq⟩
  cases dx <;> cases dy <;> first
    | exact (show False from hf).elim
    | skip
  · exact op_mulG pins s σ H x y v u Q I rx ry ⟨_, _, hx.int, hy.int, hf.1, hq _ H B (.v _) (.refl l) (.int _) hf.2⟩
  · exact op_mulStr pins s σ H x y v u Q I rx ry ⟨_, _, hx.str, hy.int, hf.1, hf.2.1, hf.2.2.1, hf.2.2.2.1, hq _ H B (.v _) (.refl l) (.str _) hf.2.2.2.2⟩
  · obtain ⟨a1, v1, e1, s1, t1⟩ := hx.list l
    exact op_repS pins s σ H x y v u Q I rx ry ⟨_, _, _, e1, hy.int, s1, hf.1, hf.2.1, by rw [t1.length]; exact hf.2.2.1, fun p np => hq _ _ B (.t _) (.make l np _) (t_lst l np (t1.rep _)) hf.2.2.2⟩
abbrev wMulA := w2 bMul
theorem de_mulA {pos} (ha : DE X W G a ma) (hb : DE X W G b mb) : DE X W G (.BinOp a .Mult b pos) (wMulA ma mb) := de_2 opMul ha hb
/-! ### methods of texts -/
abbrev FM := Str → List R → (R → Prop) → Prop
def wMe (f : FM) (o : WE) (ta : WA) : WE := fun env Q E => o env (fun x => ∃ a, x.d = .str a ∧ ta env (fun rs => f a rs Q) E) E
/-- the texts of a list or tuple -/
def txtsD (d : D) (ys : List Str) : Prop := d = .list (ys.map PyData.str) ∨ d = .tuple (ys.map PyData.str)
def fJoin : FM
  | a, [r], Q => r.sh ∧ ∃ ys, txtsD r.d ys ∧ (ys.map (·.length)).sum + ys.length * a.length ≤ 16777216 ∧ Q (.v (.str (Txt.join a ys)))
  | _, _, _ => False
def fSplit : FM
  | a, [r], Q => ∃ b, r.d = .str b ∧ (b.length == 0) = false ∧ a.length + 2 ≤ sizeLine ∧ Q (.t (.lst ((Txt.split a b).map PyData.str)))
  | _, _, _ => False
def fRstrip : FM
  | a, [r], Q => ∃ b, r.d = .str b ∧ a.length ≤ sizeLine ∧ Q (.v (.str (Txt.rstripChars a b)))
  | _, _, _ => False
theorem fJoin_1 (a : Str) (r : R) (Q : R → Prop) : fJoin a [r] Q = (r.sh ∧ ∃ ys, txtsD r.d ys ∧ (ys.map (·.length)).sum + ys.length * a.length ≤ 16777216 ∧ Q (.v (.str (Txt.join a ys)))) := rfl
theorem fSplit_1 (a : Str) (r : R) (Q : R → Prop) : fSplit a [r] Q = ∃ b, r.d = .str b ∧ (b.length == 0) = false ∧ a.length + 2 ≤ sizeLine ∧ Q (.t (.lst ((Txt.split a b).map PyData.str))) := rfl
theorem fRstrip_1 (a : Str) (r : R) (Q : R → Prop) : fRstrip a [r] Q = ∃ b, r.d = .str b ∧ a.length ≤ sizeLine ∧ Q (.v (.str (Txt.rstripChars a b))) := rfl
theorem RepAll.strsV {K : K0} {B : Hp} : ∀ {ys : List Str} {vs : List V}, RepAll K B vs (ys.map PyData.str) → vs = ys.map V.str
  | [], _, .nil => rfl
  | n :: ns, _, .cons r t => by rw [r.str_inv, RepAll.strsV t]; rfl
theorem RepAll.strs {K : K0} {B : Hp} (ys : List Str) : RepAll K B (ys.map V.str) (ys.map PyData.str) := by
  induction ys with
  | nil => exact .nil
  | cons n r ih => exact .cons (.str n) ih
variable {es : List Expr} {ms : WA} {apos cpos : Pos}
theorem me_ok {f : FM} {r : V → List V → Hp → VK → Prop} (hr : ∀ (B H : Hp) (fp : List Addr) (a : Str) (vs : List V) (rs : List R) (Q : R → Prop) (QV : VK), Le B H → VAll X.K B H vs rs → f a rs Q → QOk X.K B H fp Q QV → r (.str a) vs H QV)
    (σ : L2.St) (H : Hp) (QV : VK) (h : tD X W G (wMe f mo ms) σ H QV) : tBM X.K "str" r (tD X W G mo) (tDA X W G ms) σ H QV := by
  obtain ⟨B, env, fp, Q, E, rr, hm, hq, hx⟩ := h
  refine ⟨B, env, fp, _, E, rr, hm, fun v H1 B1 r1 e1 w ⟨a, ea, q1⟩ => ?_, hx⟩
  have hv := w.now e1
  rw [ea] at hv
  have e := hv.str_inv
  subst e
  exact ⟨rfl, B1, env, fp, _, E, rr.ext e1, q1, fun vs H2 B2 rs e2 va q => hr B2 H2 fp a vs rs Q QV e2.bh va q (hq.later (e1.trans e2)), hx.later e1.same⟩
theorem join_r (B H : Hp) (fp : List Addr) (a : Str) (vs : List V) (rs : List R) (Q : R → Prop) (QV : VK) (l : Le B H) (va : VAll X.K B H vs rs) (hf : fJoin a rs Q) (hq : QOk X.K B H fp Q QV) :
    ∃ a' p, ∃ ys : List Str, (V.str a) = .str a' ∧ vs = [.ref p] ∧ (SqL X.K H p (ys.map V.str) ∨ SqT X.K H p (ys.map V.str)) ∧ (ys.map (·.length)).sum + ys.length * a'.length ≤ 16777216 ∧ QV (.str (Txt.join a' ys)) H := by
  match rs, hf with
  | [r], ⟨s, ys, ht, hz, q⟩ =>
    obtain ⟨v, ev, rv⟩ := va.one_sh s
    subst ev
    have fin := hq _ H B (.v _) (.refl l) (.str _) q
    rcases ht with ht | ht
    · rw [ht] at rv
      obtain ⟨p, us, e, sq, t⟩ := rv.list l
      subst e
      rw [t.strsV] at sq
      exact ⟨a, p, ys, rfl, rfl, .inl sq, hz, fin⟩
    · rw [ht] at rv
      obtain ⟨p, us, e, sq, t⟩ := rv.tup l
      subst e
      rw [t.strsV] at sq
      exact ⟨a, p, ys, rfl, rfl, .inr sq, hz, fin⟩
theorem split_r (B H : Hp) (fp : List Addr) (a : Str) (vs : List V) (rs : List R) (Q : R → Prop) (QV : VK) (l : Le B H) (va : VAll X.K B H vs rs) (hf : fSplit a rs Q) (hq : QOk X.K B H fp Q QV) :
    ∃ a' b, (V.str a) = .str a' ∧ vs = [.str b] ∧ (b.length == 0) = false ∧ a'.length + 2 ≤ sizeLine ∧ rNewStrs (Txt.split a' b) H QV := by
  match rs, hf with
  | [r], ⟨b, ht, h1, h2, q⟩ =>
    obtain ⟨v, ev, rv⟩ := va.one l
    subst ev
    rw [ht] at rv
    rw [rv.str_inv]
    exact ⟨a, b, rfl, rfl, h1, h2, fun p np => hq _ _ B (.t _) (.make l np _) (t_lst l np (RepAll.strs _)) q⟩
theorem rstrip_r (B H : Hp) (fp : List Addr) (a : Str) (vs : List V) (rs : List R) (Q : R → Prop) (QV : VK) (l : Le B H) (va : VAll X.K B H vs rs) (hf : fRstrip a rs Q) (hq : QOk X.K B H fp Q QV) :
    ∃ a' b, (V.str a) = .str a' ∧ vs = [.str b] ∧ a'.length ≤ sizeLine ∧ QV (.str (Txt.rstripChars a' b)) H := by
  match rs, hf with
  | [r], ⟨b, ht, h1, q⟩ =>
    obtain ⟨v, ev, rv⟩ := va.one l
    subst ev
    rw [ht] at rv
    rw [rv.str_inv]
    exact ⟨a, b, rfl, rfl, h1, hq _ H B (.v _) (.refl l) (.str _) q⟩
/-- the forms that such a call has -/
structure MF (X : Cx) (o : Expr) (name : Str) (e : Expr) (es : List Expr) (apos cpos : Pos) : Prop where
  base : attributeBase o name X.env (eval o X.env) = eval o X.env
  few : ((backTo cpos (starEach (e :: es) X.env)).all (fun x => !x.1) && (backToKw cpos (keywordEach [] X.env)).all (fun x => x.1.isSome)
      && decide ((e :: es).length + ([] : List Keyword).length + (if ([] : List Keyword).isEmpty then 0 else 1) < 30)) = true
  line : (apos.endLine == cpos.line) = true
  hs : starEach (e :: es) X.env = (false, eval e X.env) :: starEach es X.env
  pl : (backTo cpos (starEach es X.env)).any (·.1) = false
theorem dm_join (c : MF X ob "join" e es apos cpos) (ho : DE X W G ob mo) (ha : DA X W G (e :: es) ms) : DE X W G (.Call (.Attribute ob "join" apos) (e :: es) [] cpos) (wMe fJoin mo ms) :=
  PEi (pe_bm PySem.F.plainAttrs_str PySem.F.slot_str_join PySem.F.type_str_join mt_join ho ha c.base c.few c.line c.hs c.pl) (me_ok join_r)
theorem dm_split (c : MF X ob "split" e es apos cpos) (ho : DE X W G ob mo) (ha : DA X W G (e :: es) ms) : DE X W G (.Call (.Attribute ob "split" apos) (e :: es) [] cpos) (wMe fSplit mo ms) :=
  PEi (pe_bm PySem.F.plainAttrs_str PySem.F.slot_str_split PySem.F.type_str_split mt_split ho ha c.base c.few c.line c.hs c.pl) (me_ok split_r)
theorem dm_rstrip (c : MF X ob "rstrip" e es apos cpos) (ho : DE X W G ob mo) (ha : DA X W G (e :: es) ms) : DE X W G (.Call (.Attribute ob "rstrip" apos) (e :: es) [] cpos) (wMe fRstrip mo ms) :=
  PEi (pe_bm PySem.F.plainAttrs_str PySem.F.slot_str_rstrip PySem.F.type_str_rstrip mt_rstripChars ho ha c.base c.few c.line c.hs c.pl) (me_ok rstrip_r)
/-! ### d.get(k, x) -/
def getD (kvs : List (D × D)) (k z : D) (Q : D → Prop) : Prop := ∃ j, keyD k = some j ∧ Q ((lookK kvs j).getD z)
def wGet2 (o k z : WE) : WE := fun env Q E => o env (fun x => x.sh ∧ ∃ kvs, x.d = .dict kvs ∧ k env (fun y => z env (fun u => u.st ∧ getD kvs y.d u.d fun d => Q (.v d)) E) E) E
theorem de_get2 {kx zx : Expr} {mk mz : WE} (hu : X.A.units + 1 < cLine) (c : M2 X ob "get" apos kx zx cpos) (ho : DE X W G ob mo) (hk : DE X W G kx mk) (hz : DE X W G zx mz) : DE X W G (.Call (.Attribute ob "get" apos) [kx, zx] [] cpos) (wGet2 mo mk mz) := by
  refine PEi (pe_dget2 hu ho hk hz c) fun σ H QV ⟨B, env, fp, Q, E, rr, hm, hq, hx⟩ => ?_
  refine ⟨B, env, fp, _, E, rr, hm, fun v H1 B1 r e1 w ⟨s, kvs, ed, q1⟩ => ?_, hx⟩
  obtain ⟨B2, e2, l2, rv⟩ := w.view e1 s
  rw [ed] at rv
  obtain ⟨a, vs, ev, hd, t⟩ := rv.dict e2.bh
  refine ⟨a, ev, .inl ⟨vs, hd⟩, B2, env, fp, _, E, rr.ext e2, q1, fun y H3 B3 ry e3 wy q2 => ?_, hx.later e2.same⟩
  refine ⟨B3, env, fp, _, E, (rr.ext e2).ext e3, q2, fun z H4 B4 rz e4 wz ⟨sz, j, hj, q3⟩ => ?_, hx.later (e2.same.trans e3.same)⟩
  obtain ⟨B5, e5, l5, rz'⟩ := wz.keep e4 sz
  have hy := (wy.now e3).mono e5.same
  have e1 := kD_of hj
  rw [e1] at hy
  have e6 := kV_rep hy
  have eT := (e2.trans e3).trans e5
  have hd' : Rd H4 a (.dK vs) := (e3.same.trans e5.same).rd hd
  refine ⟨valV vs j, .inl ⟨vs, j, hd', e6, rfl⟩, ?_⟩
  have t' := (t.mono e3.le).mono e5.le
  rcases t'.look (k := j) with ⟨z1, z2⟩ | ⟨v', d', z1, z2, z3⟩
  · rw [z1]; rw [z2] at q3
    exact hq _ H4 B5 (.v _) eT rz' q3
  · rw [z1]; rw [z2] at q3
    exact hq _ H4 B5 (.v _) eT z3 q3
/-! ### unpacking; two targets; the last item taken off -/
section
variable {g : WG} {vs : List Nat} {t : WE} {ta : WA}
def wUnp (t : WE) (g : WG) : WS := fun D env => t env (fun r => r.st ∧ g r.d env D.nx) (fun n => D.ex n env)
theorem ds_unp (he : DE X W G e t) (hg : DG X G vs tg g) (h1 : (assignEach [tg] X.env).map (·.2) = [assign tg X.env]) (hs : swapsWithSole [tg] e pos.line X.env = pure false) (hw : swappedStores [tg] e X.env = pure none) : DS X W G (.Assign [tg] e pos) (wUnp t g) := by
  refine PSi (ps_asg he hg hs hw h1) fun D σ H ⟨B, env, fp, d, rr, hm, x⟩ => ?_
  refine ⟨B, env, fp, _, _, rr, hm, fun v H1 B1 r e1 w ⟨s, q⟩ => ?_, x.x rr⟩
  obtain ⟨B2, e2, l2, rp⟩ := w.keep e1 s
  exact ⟨B2, env, fp, _, _, rr.ext e2, rp, q, fun σ' env' fp' rr' t q' => x.nx σ' H1 B2 env' fp' e2.le rr' q'⟩
def wPar (i j : Nat) (ta : WA) : WS := fun D env => ta env (fun rs => match rs with
  | [r, q] => (r.st ∧ q.st) ∧ D.nx ((env.set i (some (.fro r.d))).set j (some (.fro q.d)))
  | _ => False) (fun n => D.ex n env)
theorem ds_par {i j : Nat} {x y : Str} {px py pt : Pos} {kt k2 pt2} (hc : X.calm = true) (hN : X.N.Nodup) (hi : X.N[i]? = some x) (hj : X.N[j]? = some y) (hij : i ≠ j)
    (hx : X.env.scope.names.lookup x = some .local) (hy : X.env.scope.names.lookup y = some .local) (ha : DA X W G [a, b] ta)
    (hw : swappedStores [.Tuple [.Name x px, .Name y py] kt pt] (.Tuple [a, b] k2 pt2) X.env = pure (some [x, y]))
    (hs : swapsWithSole [.Tuple [.Name x px, .Name y py] kt pt] (.Tuple [a, b] k2 pt2) pos.line X.env = pure false) :
    DS X W G (.Assign [.Tuple [.Name x px, .Name y py] kt pt] (.Tuple [a, b] k2 pt2) pos) (wPar i j ta) := by
  refine PSi (ps_par hc hN hi hj hij hx hy ha hw hs) fun D σ H ⟨B, env, fp, d, rr, hm, x⟩ => ?_
  refine ⟨B, env, fp, _, _, rr, hm, fun vs H1 B1 rs e1 va q => ?_, x.x rr⟩
  match rs, q with
  | [r, q], ⟨⟨s1, s2⟩, hh⟩ =>
    have t := va.reps (rs := [r, q]) ⟨s1, s2, True.intro⟩
    cases t with
    | cons r1 t =>
      cases t with
      | cons r2 t =>
        cases t
        obtain ⟨f1, y1⟩ := (rr.ext e1).asg (r := .v r.d) (.refl e1.bh) r1 True.intro i
        obtain ⟨f2, y2⟩ := y1.asg (r := .v q.d) (.refl e1.bh) r2 True.intro j
        exact ⟨_, _, rfl, x.nx _ H1 B1 _ f2 e1.le y2 hh⟩
end
theorem lst_rr {K : K0} {G B H : Hp} {env : Env} {fp : List Addr} {σ : L2.St} {i : Nat} {a : Addr} {ds ds' : List PyData} {vs vs' : List V} (rr : RR K G B env fp σ H)
    (hi : env[i]? = some (some (.lst ds))) (hσ : σ[i]? = some (some (.ref a))) (hl : H a = some (.lst vs)) (r : RepAll K B vs' ds') : ∃ fp', RR K G B (env.set i (some (.lst ds'))) fp' σ (upd H a (.lst vs')) := by
  obtain ⟨vi, g, h1, h2, h3, h4, h5⟩ := rr.put hi
  rw [hσ] at h1
  cases h1
  cases h2 with
  | lst hl2 rl =>
    have na : B a = none := (h4 a (by simp)).2.1
    exact h5 B (upd H a (.lst vs')) (.lst ds') [a] (.refl _) (fun b u q => upd_keep (rr.bh b u q) (ne_of_none q na)) (fun b u n q => upd_keep q fun z => n (by simp [z])) (fun _ _ _ _ q => q)
      (.lst upd_same r) (by simp) (fun b m => ⟨fun _ => m, (h4 b m).2⟩)
section
variable {g : WG} {vs : List Nat}
/-- tg = x.pop() -/
def wPop (i : Nat) (g : WG) : WS := fun D env => ∃ ds d, env[i]? = some (some (.lst (ds ++ [d]))) ∧ g d (env.set i (some (.lst ds))) D.nx
theorem ds_pop {i : Nat} (ho : PE X ob (tVar i)) (hg : DG X G vs tg g) (hbase : attributeBase ob "pop" X.env (eval ob X.env) = eval ob X.env) (hline : (apos.endLine == cpos.line) = true)
    (h1 : (assignEach [tg] X.env).map (·.2) = [assign tg X.env]) (hs : swapsWithSole [tg] (.Call (.Attribute ob "pop" apos) [] [] cpos) pos.line X.env = pure false) (hw : swappedStores [tg] (.Call (.Attribute ob "pop" apos) [] [] cpos) X.env = pure none) :
    DS X W G (.Assign [tg] (.Call (.Attribute ob "pop" apos) [] [] cpos) pos) (wPop i g) := by
  refine PSi (ps_asg (pe_bm0 PySem.F.plainAttrs_list PySem.F.slot_list_pop PySem.F.type_list_pop mt_pop ho hbase hline) hg hs hw h1) fun D σ H ⟨B, env, fp, d, rr, ⟨ds, dl, hi, hm⟩, x⟩ => ?_
  obtain ⟨v, gg, h1, h2, h3⟩ := rr.own.get hi
  cases h2 with
  | @lst a ws _ hl rl =>
    refine ⟨.ref a, h1, .inl ⟨rfl, _, .inl (.inl hl)⟩, ?_⟩
    obtain ⟨y, hy, ry⟩ := rl.get (i := ws.length - 1) (d := dl) (by rw [rl.length, List.length_append]; simp)
    refine ⟨a, ws, y, rfl, rfl, hl, hy, ?_⟩
    have rl' := rl.dropLast
    rw [List.dropLast_concat] at rl'
    obtain ⟨fp', rr'⟩ := lst_rr rr hi h1 hl rl'
    exact ⟨B, _, fp', _, _, rr', ry, hm, fun σ' env' fp2 rr2 t q' => x.nx σ' _ B env' fp2 (.refl _) rr2 q'⟩
end
end
end DL

set_option Elab.async false
set_option linter.all false
set_option maxRecDepth 100000
set_option maxHeartbeats 1000000
/-! DL16: try, what is caught, isinstance of it, over data. -/
namespace DL
open PySem L2 PyProof.Rows
/-- an own class under another one -/
def subE (n c : Str) : Bool := n == c || c == ("BlotError" : Str)
def subV (n c : Str) : Bool := subE n c || c == ("ValueError" : Str)
/-- the facts of the exceptions' classes -/
def ExAll (K : K0) (mg : Str → Option Value) (NS : List Str) : Prop := ∀ n ∈ NS, ∃ Cn : Addr, mg n = some (.ref Cn) ∧ ExcC K Cn ∧ PySem.W.kitOne K (.ref Cn) (.type "ValueError") = some true ∧
  ∀ c ∈ NS, ∃ Cc : Addr, mg c = some (.ref Cc) ∧ PySem.W.exmOne K (.ref Cn) (.ref Cc) = some (subE n c) ∧ PySem.W.kitOne K (.ref Cn) (.ref Cc) = some (subE n c)
section
variable {K : K0} {G B B' H H' : Hp} {env : Env} {fp : List Addr} {σ : L2.St}
theorem ownEnv_raw (a : Addr) : ∀ {σ : L2.St} {env : Env} {fp : List Addr} (i : Nat), OwnEnv K B H σ env fp → ∃ fp', OwnEnv K B H (σ.set i (some (.ref a))) (env.set i (some (.raw a))) fp' ∧ fp'.Sublist fp
  | _, _, _, _, .nil => ⟨[], .nil, .slnil⟩
  | _, _, _, 0, .no t => ⟨_, .raw t, List.Sublist.refl _⟩
  | _, _, _, 0, .raw t => ⟨_, .raw t, List.Sublist.refl _⟩
  | _, _, _, 0, .some x t => ⟨_, .raw t, List.sublist_append_right _ _⟩
  | _, _, _, i + 1, .no t => by
    obtain ⟨fp', h1, h2⟩ := ownEnv_raw a i t
    exact ⟨fp', .no h1, h2⟩
  | _, _, _, i + 1, .raw t => by
    obtain ⟨fp', h1, h2⟩ := ownEnv_raw a i t
    exact ⟨fp', .raw h1, h2⟩
  | _, _, _, i + 1, .some (f := f) x t => by
    obtain ⟨fp', h1, h2⟩ := ownEnv_raw a i t
    exact ⟨f ++ fp', .some x h1, List.Sublist.append (List.Sublist.refl _) h2⟩
theorem RR.raw (x : RR K G B env fp σ H) (i : Nat) (a : Addr) : ∃ fp', RR K G B (env.set i (some (.raw a))) fp' (σ.set i (some (.ref a))) H := by
  obtain ⟨fp', h1, h2⟩ := ownEnv_raw a i x.own
  exact ⟨fp', x.bh, x.gh, x.gb, h1, x.nd.sublist h2, fun a m => x.fb a (h2.subset m)⟩
theorem RR.no (x : RR K G B env fp σ H) (i : Nat) : ∃ fp', RR K G B (env.set i none) fp' (σ.set i none) H := by
  obtain ⟨fp', h1, h2⟩ := ownEnv_no i x.own
  exact ⟨fp', x.bh, x.gh, x.gb, h1, x.nd.sublist h2, fun a m => x.fb a (h2.subset m)⟩
end
/-- what a clause makes of the ends -/
def endN (i : Nat) (D : En) : En := { nx := fun e => D.nx (e.set i none), rt := D.rt, bk := fun e => D.bk (e.set i none), ct := fun e => D.ct (e.set i none), ex := fun _ _ => False }
def end0 (D : En) : En := { D with ex := fun _ _ => False }
/-- try: body except c as (slot i): suite -/
def wTry (NS : List Str) (c : Str) (i : Nat) (body : WS) (hnd : Str → Addr → WS) : WS := fun D env => body { D with ex := fun n env' => n ∈ NS ∧ if subE n c = true then ∀ a, hnd n a (endN i D) (env'.set i (some (.raw a))) else D.ex n env' } env
/-- try: body except c: suite -/
def wTryO (NS : List Str) (c : Str) (body : WS) (hnd : WS) : WS := fun D env => body { D with ex := fun n env' => n ∈ NS ∧ if subE n c = true then hnd (end0 D) env' else D.ex n env' } env
section
variable {X : Cx} {W : WX} {G : Hp} {body suite : List Stmt} {b₀ : Stmt} {mb : WS} {NS : List Str} {c n : Str} {i : Nat} {np pos pos' : Pos}
theorem PSs_ex {α : Sort _} {sts : List Stmt} {t : α → TS} (h : ∀ a, PSs X sts (t a)) : PSs X sts (fun D σ H => ∃ a, t a D σ H) := ⟨fun pins s σ H D I ⟨a, w⟩ => (h a).run pins s σ H D I w⟩
theorem names_of (EX : ExAll X.K X.mg NS) (hc : c ∈ NS) (hg : Gl X c) (hdb : (c == ("__debug__" : Str)) = false) : ∃ Cc : Addr, Names X c (.ref Cc) ∧ X.mg c = some (.ref Cc) := by
  obtain ⟨C, h1, _⟩ := EX c hc
  exact ⟨C, ⟨hg, hdb, .inl h1⟩, h1⟩
theorem exm_of (EX : ExAll X.K X.mg NS) {m : Str} (hm : m ∈ NS) (hc : c ∈ NS) {cls cc : Value} (e1 : X.mg m = some cls) (e2 : X.mg c = some cc) : PySem.W.exmOne X.K cls cc = some (subE m c) := by
  obtain ⟨Cn, h1, _, _, h2⟩ := EX m hm
  obtain ⟨Cc, h3, h4, _⟩ := h2 c hc
  rw [h1] at e1
  rw [h3] at e2
  cases e1
  cases e2
  exact h4
theorem tDS_suite {m : WS} {D : Ends} {σ : L2.St} {H : Hp} {W1 : WX} {a : Addr} {pn : List (Addr × Obj)} (h : tDS X W1 G m D σ H) : tDS (X.suite a pn) W1 G m D σ H := by
  obtain ⟨B, env, fp, d, rr, hm, x⟩ := h
  exact ⟨B, env, fp, d, rr, hm, ⟨x.nx, x.bk, x.ct, x.rt, x.ex⟩⟩
theorem tDS_tr {m : WS} {D : Ends} {σ : L2.St} {H : Hp} {W1 : WX} {pn : List (Addr × Obj)} {xe : Value → Shared → Prop} (h : tDS X W1 G m D σ H) : tDS (X.tr pn xe) W1 G m D σ H := by
  obtain ⟨B, env, fp, d, rr, hm, x⟩ := h
  exact ⟨B, env, fp, d, rr, hm, ⟨x.nx, x.bk, x.ct, x.rt, x.ex⟩⟩
theorem ds_try {hnd : Str → Addr → WS} (hs : X.stack = X.env :: X.outer) (hf : X.env.frame = some X.env.locals) (hN : X.N.Nodup) (hi : X.N[i]? = some n) (hln : X.env.kindOf n = some .local) (EX : ExAll X.K X.mg NS) (hc : c ∈ NS) (hg : Gl X c) (hdb : (c == ("__debug__" : Str)) = false) (tk : Takes X W)
    (hb : ∀ (W' : WX) (pn : List (Addr × Obj)) (xe : Value → Shared → Prop), Takes (X.tr pn xe) W' → PassesOwn (model X.prog X.w) X.A X.env xe → DSs (X.tr pn xe) W' G body mb)
    (hsu : ∀ (a D : Addr) (oe : Obj) (pn : List (Addr × Obj)) (m : Str), m ∈ NS → X.mg m = some (.ref D) → Zc (.ref D) none oe → (∃ vs, oe.data = .fields vs) → DSs (X.suite a ((a, oe) :: pn)) W0 G (b₀ :: suite) (hnd m a)) :
    DS X W G (.Try body [.ExceptHandler (some (.Name c np)) (some n) (b₀ :: suite) pos'] [] [] pos) (wTry NS c i mb hnd) := by
  obtain ⟨Cc, hnm, hmc⟩ := names_of EX hc hg hdb
  let ts : Addr → Value → Option Addr → TS := fun a cls d D σ H => ∃ m : { m : Str // m ∈ NS ∧ X.mg m = some cls ∧ d = none }, tDS X W0 G (hnd m.1 a) D σ H
  refine PSi (ps_try_as (c := .ref Cc) (tb := fun W' => tDS X W' G mb) (ts := ts) (Wout := W) hs hf hN hi hln hnm tk (fun W' pn xe tk' hp' => PSsi (hb W' pn xe tk' hp') fun _ _ _ => tDS_tr) fun a oe cls d pn hz hfl => PSs_ex fun m => ?_) fun D σ H ⟨B, env, fp, d, rr, hm, x⟩ => ?_
  · obtain ⟨m, h1, h2, h3⟩ := m
    obtain ⟨Cn, h4, _⟩ := EX m h1
    have e : cls = .ref Cn := by rw [h4] at h2; exact (Option.some.inj h2).symm
    subst e h3
    exact PSsi (hsu a Cn oe pn m h1 h2 hz hfl) fun _ _ _ => tDS_suite
  · refine ⟨B, env, fp, _, rr, hm, ⟨x.nx, x.bk, x.ct, x.rt, fun m cls σ' H' B' env' fp' l rr' ⟨hmN, hh⟩ hmg => ?_⟩⟩
    refine ⟨subE m c, exm_of EX hmN hc hmg hmc, fun hb' a na => ?_, fun hb' => ?_⟩
    · rw [if_pos hb'] at hh
      obtain ⟨f2, rr2⟩ := rr'.raw i a
      refine ⟨⟨m, hmN, hmg, rfl⟩, B', _, f2, endN i d, rr2, hh a, ⟨fun σ5 H5 B5 env5 fp5 l5 rr5 q => ?_, fun σ5 H5 B5 env5 fp5 l5 rr5 q => ?_, fun σ5 H5 B5 env5 fp5 l5 rr5 q => ?_, fun v H5 B5 r f l5 => x.rt v H5 B5 r f (l.trans l5), fun _ _ _ _ _ _ _ _ _ h => h.elim⟩⟩
      · obtain ⟨f6, rr6⟩ := rr5.no i
        exact x.nx _ H5 B5 _ f6 (l.trans l5) rr6 q
      · obtain ⟨f6, rr6⟩ := rr5.no i
        exact x.bk _ H5 B5 _ f6 (l.trans l5) rr6 q
      · obtain ⟨f6, rr6⟩ := rr5.no i
        exact x.ct _ H5 B5 _ f6 (l.trans l5) rr6 q
    · rw [if_neg (by rw [hb']; simp)] at hh
      exact x.ex m cls σ' H' B' env' fp' l rr' hh hmg
theorem ds_tryO {hnd : WS} (hs : X.stack = X.env :: X.outer) (hf : X.env.frame = some X.env.locals) (EX : ExAll X.K X.mg NS) (hc : c ∈ NS) (hg : Gl X c) (hdb : (c == ("__debug__" : Str)) = false) (tk : Takes X W)
    (hb : ∀ (W' : WX) (pn : List (Addr × Obj)) (xe : Value → Shared → Prop), Takes (X.tr pn xe) W' → PassesOwn (model X.prog X.w) X.A X.env xe → DSs (X.tr pn xe) W' G body mb)
    (hsu : ∀ (a : Addr) (oe : Obj) (pn : List (Addr × Obj)), DSs (X.suite a ((a, oe) :: pn)) W0 G (b₀ :: suite) hnd) :
    DS X W G (.Try body [.ExceptHandler (some (.Name c np)) none (b₀ :: suite) pos'] [] [] pos) (wTryO NS c mb hnd) := by
  obtain ⟨Cc, hnm, hmc⟩ := names_of EX hc hg hdb
  refine PSi (ps_try_only (c := .ref Cc) (tb := fun W' => tDS X W' G mb) (ts := fun a cls d => tDS X W0 G hnd) (Wout := W) hs hf hnm tk (fun W' pn xe tk' hp' => PSsi (hb W' pn xe tk' hp') fun _ _ _ => tDS_tr) fun a oe cls d pn hz hfl => PSsi (hsu a oe pn) fun _ _ _ => tDS_suite) fun D σ H ⟨B, env, fp, d, rr, hm, x⟩ => ?_
  refine ⟨B, env, fp, _, rr, hm, ⟨x.nx, x.bk, x.ct, x.rt, fun m cls σ' H' B' env' fp' l rr' ⟨hmN, hh⟩ hmg => ?_⟩⟩
  refine ⟨subE m c, exm_of EX hmN hc hmg hmc, fun hb' a na => ?_, fun hb' => ?_⟩
  · rw [if_pos hb'] at hh
    refine ⟨B', env', fp', end0 d, rr', hh, ⟨fun σ5 H5 B5 env5 fp5 l5 rr5 q => x.nx _ H5 B5 _ fp5 (l.trans l5) rr5 q, fun σ5 H5 B5 env5 fp5 l5 rr5 q => x.bk _ H5 B5 _ fp5 (l.trans l5) rr5 q, fun σ5 H5 B5 env5 fp5 l5 rr5 q => x.ct _ H5 B5 _ fp5 (l.trans l5) rr5 q, fun v H5 B5 r f l5 => x.rt v H5 B5 r f (l.trans l5), fun _ _ _ _ _ _ _ _ _ h => h.elim⟩⟩
  · rw [if_neg (by rw [hb']; simp)] at hh
    exact x.ex m cls σ' H' B' env' fp' l rr' hh hmg
/-! ### several clauses -/
def wClauses (D : En) (n : Str) (env : Env) : List (Str × WS) → Prop
  | [] => D.ex n env
  | (c, h) :: r => if subE n c = true then h (end0 D) env else wClauses D n env r
def wTryM (NS : List Str) (body : WS) (hs : List (Str × WS)) : WS := fun D env => body { D with ex := fun n env' => n ∈ NS ∧ wClauses D n env' hs } env
inductive HdsD (X : Cx) (G : Hp) (NS : List Str) : List ExceptHandler → List (Str × WS) → Prop
  | nil : HdsD X G NS [] []
  | cons {c : Str} {h : WS} {b₀ : Stmt} {suite : List Stmt} {np pos' : Pos} {hds : List ExceptHandler} {l : List (Str × WS)} (hc : c ∈ NS) (hg : Gl X c) (hdb : (c == ("__debug__" : Str)) = false)
      (hsu : ∀ (a : Addr) (oe : Obj) (pn : List (Addr × Obj)), DSs (X.suite a ((a, oe) :: pn)) W0 G (b₀ :: suite) h) (r : HdsD X G NS hds l) :
      HdsD X G NS (.ExceptHandler (some (.Name c np)) none (b₀ :: suite) pos' :: hds) ((c, h) :: l)
theorem hds_of (EX : ExAll X.K X.mg NS) : ∀ {hds : List ExceptHandler} {l : List (Str × WS)}, HdsD X G NS hds l → ∃ l' : List (Value × (Addr → Value → Option Addr → TS)), HdsOk X hds l' ∧
    ∀ (D : Ends) (d : En) (B : Hp) (σ : L2.St) (x : SOk X W G B d D σ) (m : Str) (cls : Value) (σ' : L2.St) (H' B' : Hp) (env' : Env) (fp' : List Addr), m ∈ NS → X.mg m = some cls → Le B B' → RR X.K G B' env' fp' σ' H' → wClauses d m env' l → wMany X.K W D l' cls none σ' H'
  | _, _, .nil => ⟨[], .nil, fun D d B σ x m cls σ' H' B' env' fp' hmN hmg l rr h => x.ex m cls σ' H' B' env' fp' l rr h hmg⟩
  | _, _, .cons (c := c) (h := h) hc hg hdb hsu r => by
    obtain ⟨l', h1, h2⟩ := hds_of EX r
    obtain ⟨Cc, hnm, hmc⟩ := names_of EX hc hg hdb
    refine ⟨(.ref Cc, fun a cls d => tDS X W0 G h) :: l', .cons hnm (fun a oe cls d pn hz hfl => PSsi (hsu a oe pn) fun _ _ _ => tDS_suite) h1, fun D d B σ x m cls σ' H' B' env' fp' hmN hmg l rr hh => ?_⟩
    have hh : (if subE m c = true then h (end0 d) env' else wClauses d m env' _) := hh
    refine ⟨subE m c, exm_of EX hmN hc hmg hmc, fun hb' a na => ?_, fun hb' => ?_⟩
    · rw [if_pos hb'] at hh
      exact ⟨B', env', fp', end0 d, rr, hh, ⟨fun σ5 H5 B5 env5 fp5 l5 rr5 q => x.nx _ H5 B5 _ fp5 (l.trans l5) rr5 q, fun σ5 H5 B5 env5 fp5 l5 rr5 q => x.bk _ H5 B5 _ fp5 (l.trans l5) rr5 q, fun σ5 H5 B5 env5 fp5 l5 rr5 q => x.ct _ H5 B5 _ fp5 (l.trans l5) rr5 q, fun v H5 B5 r f l5 => x.rt v H5 B5 r f (l.trans l5), fun _ _ _ _ _ _ _ _ _ h => h.elim⟩⟩
    · rw [if_neg (by rw [hb']; simp)] at hh
      exact h2 D d B σ x m cls σ' H' B' env' fp' hmN hmg l rr hh
theorem ds_tryM {h₀ : ExceptHandler} {hds : List ExceptHandler} {l : List (Str × WS)} (hs : X.stack = X.env :: X.outer) (hf : X.env.frame = some X.env.locals) (EX : ExAll X.K X.mg NS) (tk : Takes X W)
    (hb : ∀ (W' : WX) (pn : List (Addr × Obj)) (xe : Value → Shared → Prop), Takes (X.tr pn xe) W' → PassesOwn (model X.prog X.w) X.A X.env xe → DSs (X.tr pn xe) W' G body mb) (hh : HdsD X G NS (h₀ :: hds) l) :
    DS X W G (.Try body (h₀ :: hds) [] [] pos) (wTryM NS mb l) := by
  obtain ⟨l', h1, h2⟩ := hds_of (W := W) EX hh
  refine PSi (ps_try_many (tb := fun W' => tDS X W' G mb) (Wout := W) hs hf tk (fun W' pn xe tk' hp' => PSsi (hb W' pn xe tk' hp') fun _ _ _ => tDS_tr) h1) fun D σ H ⟨B, env, fp, d, rr, hm, x⟩ => ?_
  exact ⟨B, env, fp, _, rr, hm, ⟨x.nx, x.bk, x.ct, x.rt, fun m cls σ' H' B' env' fp' l rr' ⟨hmN, hh⟩ hmg => h2 D d B σ x m cls σ' H' B' env' fp' hmN hmg l rr' hh⟩⟩
/-! ### isinstance of what is caught -/
def wIsE (i : Nat) (a : Addr) (b : Bool) : WE := fun env Q _ => env[i]? = some (some (.raw a)) ∧ Q (.v (.bool b))
variable {a Dn : Addr} {oe : Obj} {pn : List (Addr × Obj)} {e : Expr} {p p1 p2 : Pos} {m : Str}
theorem tD_isE {σ : L2.St} {H : Hp} {QV : VK} {b : Bool} (h : tD X W G (wIsE i a b) σ H QV) : σ[i]? = some (some (.ref a)) ∧ QV (.bl b) H := by
  obtain ⟨B, env, fp, Q, E, rr, ⟨hi, hm⟩, hq, hx⟩ := h
  exact ⟨rr.own.getRaw hi, hq _ H B (.v _) (.refl rr.bh) (.bl _) hm⟩
theorem de_isE1 (EX : ExAll X.K X.mg NS) (hm : m ∈ NS) (hc : c ∈ NS) (hmg : X.mg m = some (.ref Dn)) (hz : Zc (.ref Dn) none oe) (hf : ∃ vs, oe.data = .fields vs) (hgi : Gl X "isinstance") (hni : X.mg "isinstance" = none) (he : PE (X.suite a ((a, oe) :: pn)) e (tVar i)) (hg : Gl X c) (hdb : (c == ("__debug__" : Str)) = false)
    (hs1 : starEach [e, .Name c p1] X.env = (false, eval e X.env) :: starEach [.Name c p1] X.env) (hs2 : starEach [.Name c p1] X.env = (false, eval (.Name c p1) X.env) :: starEach [] X.env) (hpl : (backTo p2 (starEach [.Name c p1] X.env)).any (·.1) = false) :
    DE (X.suite a ((a, oe) :: pn)) W G (.Call (.Name "isinstance" p) [e, .Name c p1] [] p2) (wIsE i a (subE m c)) := by
  obtain ⟨Cn, h1, h2, h3, h4⟩ := EX m hm
  obtain ⟨Cc, h5, h6, h7⟩ := h4 c hc
  rw [h1] at hmg
  cases hmg
  refine PEi (pe_callB (call_isE (X := X) (a := a) (pn := pn) h2 hz hf) hgi hni (by decide +kernel) (pa_cons he (pa_cons (pe_glob hg h5 (v := .ref Cc) rfl (hd := hdb)) pa_nil hs2) hs1) (by decide) (by decide) hs1 hpl) fun σ H QV h => ?_
  obtain ⟨h8, h9⟩ := tD_isE h
  exact ⟨_, h8, .ref Cc, .ref Cc, _, rfl, fun u r => by cases r; rfl, h7, h9⟩
end
end DL

set_option Elab.async false
set_option linter.all false
set_option maxRecDepth 100000
set_option maxHeartbeats 1000000
/-! DL17: isinstance of what is caught by ValueError and by several classes; calls without arguments; the head's facts with one more Bool. -/
namespace DL
open PySem L2 PyProof.Rows
section
variable {X : Cx} {W : WX} {G : Hp} {NS : List Str} {c m : Str} {i : Nat} {a Dn : Addr} {oe : Obj} {pn : List (Addr × Obj)} {e e2 : Expr} {p p1 p2 pos : Pos}
theorem de_isEV (EX : ExAll X.K X.mg NS) (hm : m ∈ NS) (hmg : X.mg m = some (.ref Dn)) (hz : Zc (.ref Dn) none oe) (hf : ∃ vs, oe.data = .fields vs) (hgi : Gl X "isinstance") (hni : X.mg "isinstance" = none) (he : PE (X.suite a ((a, oe) :: pn)) e (tVar i)) (hv : PE (X.suite a ((a, oe) :: pn)) e2 (tC (.ty "ValueError")))
    (hs1 : starEach [e, e2] X.env = (false, eval e X.env) :: starEach [e2] X.env) (hs2 : starEach [e2] X.env = (false, eval e2 X.env) :: starEach [] X.env) (hpl : (backTo p2 (starEach [e2] X.env)).any (·.1) = false) :
    DE (X.suite a ((a, oe) :: pn)) W G (.Call (.Name "isinstance" p) [e, e2] [] p2) (wIsE i a true) := by
  obtain ⟨Cn, h1, h2, h3, h4⟩ := EX m hm
  rw [h1] at hmg
  cases hmg
  refine PEi (pe_callB (call_isE (X := X) (a := a) (pn := pn) h2 hz hf) hgi hni (by decide +kernel) (pa_cons he (pa_cons hv pa_nil hs2) hs1) (by decide) (by decide) hs1 hpl) fun σ H QV h => ?_
  obtain ⟨h8, h9⟩ := tD_isE h
  exact ⟨_, h8, .ty "ValueError", .type "ValueError", _, rfl, fun u r => r, h3, h9⟩
/-- several own classes -/
def rIsET (K : PySem.W.Frag) (D a : Addr) : List V → Hp → VK → Prop := fun xs H Q => ∃ (tp : Addr) (cs : List V) (us : List Value) (b : Bool), xs = [.ref a, .ref tp] ∧ H tp = some (.tup cs) ∧ Paired ClsV cs us ∧ PySem.W.kitAny K (.ref D) us = some b ∧ Q (.bl b) H
theorem call_isET (C : ExcC X.K Dn) (hz : Zc (.ref Dn) none oe) (hf : ∃ vs, oe.data = .fields vs) : CallR (X.suite a ((a, oe) :: pn)) (.builtin "isinstance") (rIsET X.K Dn a) := by
  intro pins s σ H xs us Q I r h
  obtain ⟨tp, cs, ws, b, rfl, hT, k, e, q⟩ := h
  obtain ⟨u1, u2, rfl, r1, r2⟩ := vals2 r
  cases (show u2 = Value.ref tp from r2)
  cases (show u1 = Value.ref a from r1)
  obtain ⟨hget, _⟩ := I.pin (a, oe) (List.mem_append.mpr (.inl List.mem_cons_self))
  obtain ⟨vs, hv⟩ := hf
  have J : PySem.W.InstAt s.heap a oe Dn none := by
    obtain ⟨oc, od, oda, osl⟩ := oe
    obtain ⟨h1, h2⟩ := hz
    dsimp only at h1 h2 hv
    subst h1 h2 hv
    exact ⟨hget, rfl, rfl, trivial⟩
  obtain ⟨_, its, rv, o, h1, h2, n, h3⟩ := (show ObjOk X.prog X.w H s.heap tp (.tup cs) from I.hok tp _ hT)
  have e3 := ClsV.all k rv
  subst e3
  obtain ⟨oc, od, dt, sl⟩ := o
  simp only at h2 h3
  subst h2 h3
  exact PySem.W.kia_tup (PySem.W.handS_kitx_exc C.hg C.hk C.hs C.hd C.ha C.hn C.ht C.hm) I.kIn J h1 e (fun z => nomatch z) fun tk => ⟨.bl b, H, I.kept (t' := tk) fun _ _ z => z, rfl, q⟩
inductive ClsA (X : Cx) (NS : List Str) : List Expr → List Str → Prop
  | nil : ClsA X NS [] []
  | cons {c : Str} {p : Pos} {es : List Expr} {cs : List Str} (hc : c ∈ NS) (hg : Gl X c) (hdb : (c == ("__debug__" : Str)) = false) (hs : starEach (.Name c p :: es) X.env = (false, eval (.Name c p) X.env) :: starEach es X.env) (r : ClsA X NS es cs) : ClsA X NS (.Name c p :: es) (c :: cs)
theorem clsA_pa (EX : ExAll X.K X.mg NS) (hm : m ∈ NS) (hmg : X.mg m = some (.ref Dn)) : ∀ {es : List Expr} {cs : List Str}, ClsA X NS es cs → cs.length = es.length ∧ ∃ Cs : List Addr, Cs.length = cs.length ∧ PA (X.suite a ((a, oe) :: pn)) es (fun σ H Q => Q (Cs.map V.ref) H) ∧ PySem.W.kitAny X.K (.ref Dn) (Cs.map Value.ref) = some (cs.any (subE m))
  | _, _, .nil => ⟨rfl, [], rfl, PAi pa_nil fun σ H Q h => h, kitAny_nil⟩
  | _, _, .cons hc hg hdb hs r => by
    obtain ⟨hl, Cs, h0, h1, h2⟩ := clsA_pa EX hm hmg r
    obtain ⟨Cn, h3, h4, h5, h6⟩ := EX m hm
    obtain ⟨Cc, h7, h8, h9⟩ := h6 _ hc
    rw [h3] at hmg
    cases hmg
    refine ⟨by simp [hl], Cc :: Cs, by simp [h0], PAi (pa_cons (pe_glob hg h7 (v := .ref Cc) rfl (hd := hdb)) h1 hs) fun σ H Q h => h, ?_⟩
    rw [List.map_cons, List.any_cons]
    refine kitAny_cons h9 (fun q => ?_) fun q => ?_
    · rw [q, Bool.false_or]; exact h2
    · rw [q, Bool.true_or]
theorem paired_refs : ∀ Cs : List Addr, Paired ClsV (Cs.map V.ref) (Cs.map Value.ref)
  | [] => .nil
  | C :: r => .cons (.own C) (paired_refs r)
theorem de_isET {es : List Expr} {cs : List Str} {x1} {tpos : Pos} (EX : ExAll X.K X.mg NS) (hm : m ∈ NS) (hmg : X.mg m = some (.ref Dn)) (hz : Zc (.ref Dn) none oe) (hf : ∃ vs, oe.data = .fields vs) (hgi : Gl X "isinstance") (hni : X.mg "isinstance" = none) (he : PE (X.suite a ((a, oe) :: pn)) e (tVar i)) (hcs : ClsA X NS es cs) (hlen : es.length ≤ 100)
    (hs1 : starEach [e, .Tuple es x1 tpos] X.env = (false, eval e X.env) :: starEach [.Tuple es x1 tpos] X.env) (hs2 : starEach [.Tuple es x1 tpos] X.env = (false, eval (.Tuple es x1 tpos) X.env) :: starEach [] X.env) (hpl : (backTo p2 (starEach [.Tuple es x1 tpos] X.env)).any (·.1) = false) :
    DE (X.suite a ((a, oe) :: pn)) W G (.Call (.Name "isinstance" p) [e, .Tuple es x1 tpos] [] p2) (wIsE i a (cs.any (subE m))) := by
  obtain ⟨hl, Cs, h0, h5, h6⟩ := clsA_pa (a := a) (oe := oe) (pn := pn) EX hm hmg hcs
  obtain ⟨Cn, h1, h2, h3, h4⟩ := EX m hm
  rw [h1] at hmg
  cases hmg
  refine PEi (pe_callB (call_isET (X := X) (a := a) (pn := pn) h2 hz hf) hgi hni (by decide +kernel) (pa_cons he (pa_cons (pe_tup h5) pa_nil hs2) hs1) (by decide) (by decide) hs1 hpl) fun σ H QV ⟨B, env, fp, Q, E, rr, ⟨hi, hm'⟩, hq, hx⟩ => ?_
  refine ⟨_, rr.own.getRaw hi, by rw [List.length_map, h0, hl, sizeLine_eq]; omega, fun tp np => ?_⟩
  refine ⟨tp, Cs.map V.ref, Cs.map Value.ref, _, rfl, upd_same, paired_refs Cs, h6, ?_⟩
  exact hq _ _ B (.v _) (.make rr.bh np _) (.bl _) hm'
/-! ### a call without arguments -/
variable {k j : Nat} {x : Str} {S : Spec}
theorem de_call0 (F : FnAt X.prog X.w X.K X.mg X.base k x [] [] S) (hr : Room j X.A) (hk : k ≤ j) (hg : Gl X x) (tk : Takes X W) (hdb : (x == ("__debug__" : Str)) = false) : DE X W G (.Call (.Name x p) [] [] pos) (wCall S [] waN) := by
  obtain ⟨f, fd, ds, hm, hkp, F, hb, hd⟩ := F
  refine PEi (t := tCallSD (dsp X.K X.mg S) [] (fun σ cls d H => W cls d σ H) (tDA X W G waN)) ⟨fun pins s σ H Q I h => ?_⟩ fun _ _ _ h => call_ok (dvs := []) (dds := []) (fun _ => .nil) h
  refine wpAny_Call_Name_kw (ld_glob I hg hm ?_ hdb)
  cases hd
  refine PySem.W.callWith_K0 I.kIn hkp (run_fnSD (us := []) (dvs := []) (ds := []) (E := fun σ cls d H => W cls d σ H) F (hr.mono hk) hb .nil (passAt tk σ) I .nil ?_)
  obtain ⟨B, env, fp, Q', E, rr, hm', hq, hx⟩ := h
  exact hq [] H B [] (.refl rr.bh) .nil hm'
end
/-! ### the head's facts and one more Bool -/
abbrev AlE : Type := He.AlD × Bool
def obsE (n : Nat) (fa : List He.Fa) (fn : List He.DefD) (ex : PySem.W.Frag → Bool) (g : Addr → Option Obj) : AlE := (He.obsDG n fa fn g, ex (He.frG g (He.asD g n)))
def hookE (n : Nat) (fa : List He.Fa) (fn : List He.DefD) (ex : PySem.W.Frag → Bool) : PySem.W.Hook where
  α := AlE
  obs := fun s => obsE n fa fn ex s.heap.get?
  val := fun _ => (He.valD fn, true)
  says := fun _ h => ∃ K : PySem.W.Frag, K.In h ∧ He.SaysD fa fn K ∧ ex K = true
  of := fun _ s e => ⟨He.frG s.heap.get? (He.asD s.heap.get? n), He.frG_in, show _ = _ from congrArg (fun z : AlE => z.1) e, show _ = _ from congrArg (fun z : AlE => z.2) e⟩
  keeps := fun _ _ _ ⟨K, hK, c⟩ k => ⟨K, PySem.W.Frag.In.keeps hK k, c⟩
theorem obsE_eq {n : Nat} {fa : List He.Fa} {fn : List He.DefD} {ex : PySem.W.Frag → Bool} {g : Addr → Option Obj} {s : Shared} (h : ∀ a, g a = s.heap.get? a) : obsE n fa fn ex g = (hookE n fa fn ex).obs s := by
  have e : g = s.heap.get? := funext h
  rw [e] <;> rfl
/-- what is asked of the exceptions' classes -/
def excB (NS : List Str) (K : K0) : Bool := NS.all fun n =>
  decide (PySem.W.findIn K (.ref (He.ga K n)) "__getattribute__" = some (some (.builtin "BaseException.__getattribute__"))) && decide (PySem.W.findIn K (.ref (He.ga K n)) "__getattr__" = some none) &&
  decide (PySem.W.subIn K (.ref (He.ga K n)) (.type "BaseException") = some true) && PySem.W.hasDictIn K (He.ga K n) && decide (PySem.W.findIn K (.ref (He.ga K n)) "__class__" = some (some (.builtin "object.__class__"))) &&
  decide (PySem.W.mroIn K (He.ga K n) (.type "object") = some true) && decide (PySem.W.kitOne K (.ref (He.ga K n)) (.type "ValueError") = some true) &&
  decide (PySem.W.specialIn K (.builtin "object.__class__") "__get__" = some (some (.builtin "getset_descriptor.__get__"))) && decide (PySem.W.takesIn K (.builtin "object.__class__") = some true) &&
  NS.all fun c => decide (PySem.W.exmOne K (.ref (He.ga K n)) (.ref (He.ga K c)) = some (subE n c)) && decide (PySem.W.kitOne K (.ref (He.ga K n)) (.ref (He.ga K c)) = some (subE n c))
theorem exAll_of {K : K0} {mg : Str → Option Value} {NS : List Str} (hg : ∀ n ∈ NS, mg n = some (.ref (He.ga K n))) (h : excB NS K = true) : ExAll K mg NS := by
  intro n hn
  have h1 := List.all_eq_true.mp h n hn
  simp only [Bool.and_eq_true, decide_eq_true_eq] at h1
  obtain ⟨⟨⟨⟨⟨⟨⟨⟨⟨a1, a2⟩, a3⟩, a4⟩, a5⟩, a6⟩, a7⟩, a8⟩, a9⟩, a10⟩ := h1
  refine ⟨_, hg n hn, ⟨a1, a2, a3, a4, a5, a8, a9, a6⟩, a7, fun c hc => ?_⟩
  have h2 := List.all_eq_true.mp a10 c hc
  simp only [Bool.and_eq_true, decide_eq_true_eq] at h2
  exact ⟨_, hg c hc, h2.1, h2.2⟩
end DL

set_option Elab.async false
set_option linter.all false
set_option maxRecDepth 100000
set_option maxHeartbeats 1000000
/-! DL18: texts by their signs' numbers. -/
namespace DL
open PySem L2 PyProof.Rows
def tS (cs : List Nat) : Str := ⟨cs.toArray⟩
theorem tS_of (x : Str) : x = tS x.cps.toList := by unfold tS; simp
theorem tS_len (a : List Nat) : (tS a).length = a.length := by unfold tS Str.length; simp
theorem tS_app (a b : List Nat) : tS a ++ tS b = tS (a ++ b) := by
  show Str.append (tS a) (tS b) = _
  unfold tS Str.append
  simp
theorem tS_iff (a b : List Nat) : (tS a = tS b) = (a = b) := by
  unfold tS
  apply propext
  constructor
  · intro h
    have := congrArg (fun s : Str => s.cps.toList) h
    simpa using this
  · intro h; rw [h]
theorem repS_tS (l : List Nat) (k : Int) : repS (tS l) k = tS (List.replicate k.toNat l).flatten := by unfold repS tS; simp
theorem tS_cps (a : List Nat) : (tS a).cps.toList = a := by unfold tS; simp
theorem tS_one (c : Nat) : (⟨#[c]⟩ : Str) = tS [c] := rfl
theorem tS_sg (a : List Nat) : sgD (tS a) = a.map fun c => PyData.str (tS [c]) := by
  unfold sgD
  rw [tS_cps]; rfl
theorem tS_cut (a : List Nat) (lo hi : Option Int) : cutS (tS a) lo hi = tS (cut a lo hi) := by
  unfold cutS cut
  rw [tS_cps, tS_len]
  rfl
/-- texts joined -/
def joinL (sep : List Nat) : List (List Nat) → List Nat
  | [] => []
  | [x] => x
  | x :: y :: r => x ++ sep ++ joinL sep (y :: r)
theorem foldl_glue (sep : List Nat) : ∀ (ls : List (List Nat)) (x : List Nat), (ls.map tS).foldl (fun (acc : Array Nat) (p : Str) => acc ++ (tS sep).cps ++ p.cps) x.toArray = (joinL sep (x :: ls)).toArray
  | [], x => by simp [joinL]
  | y :: r, x => by
    rw [List.map_cons, List.foldl_cons]
    have e : x.toArray ++ (tS sep).cps ++ (tS y).cps = (x ++ sep ++ y).toArray := by unfold tS; simp
    rw [e, foldl_glue sep r]
    cases r with
    | nil => simp [joinL]
    | cons z r => simp [joinL, List.append_assoc]
theorem tS_join (sep : List Nat) (ls : List (List Nat)) : Txt.join (tS sep) (ls.map tS) = tS (joinL sep ls) := by
  unfold Txt.join Builtin.Str.glued
  cases ls with
  | nil => simp [joinL]; rfl
  | cons x r =>
    rw [List.map_cons, List.drop_one, List.tail_cons, List.headD_cons]
    have := foldl_glue sep r x
    unfold tS at this ⊢
    rw [this]
theorem joinL_nil : ∀ ls : List (List Nat), joinL [] ls = ls.flatten
  | [] => rfl
  | [x] => by simp [joinL]
  | x :: y :: r => by rw [joinL, joinL_nil (y :: r), List.append_nil]; rfl
theorem tS_nilE : Str.empty = tS [] := rfl
/-- lists of texts as data -/
abbrev tL (ls : List (List Nat)) : List D := ls.map fun l => .str (tS l)
theorem tL_iff (a b : List (List Nat)) : (tL a = tL b) = (a = b) := map_iff (fun x y e => by
  have := PyData.str.inj e
  rwa [tS_iff] at this) a b
theorem tL_snoc (ls : List (List Nat)) (l : List Nat) : tL ls ++ [PyData.str (tS l)] = tL (ls ++ [l]) := by simp
theorem tL_strs (ls : List (List Nat)) : tL ls = (ls.map tS).map PyData.str := by simp
theorem sh_tS (k : Nat) {l : List Nat} (h : PyData.strOk (tS l) = true) : Sh k (.str (tS l)) := sh_str k h
theorem pl_tL (ls : List (List Nat)) : pl (.list (tL ls)) = true := by
  rw [pl]; exact pls_all fun x m => by
    obtain ⟨n, _, e⟩ := List.mem_map.mp m
    subst e; rw [pl]
theorem flat_tL (ls : List (List Nat)) : (tL ls).all flatD = true := by
  rw [List.all_eq_true]; intro x m; obtain ⟨n, _, rfl⟩ := List.mem_map.mp m; rfl
theorem memD_tL (x : List Nat) (ls : List (List Nat)) : memD (.str (tS x)) (tL ls) = decide (x ∈ ls) := by
  unfold memD
  rw [Bool.eq_iff_iff, List.any_eq_true, decide_eq_true_eq]
  constructor
  · rintro ⟨d, m, e⟩
    obtain ⟨n, hn, rfl⟩ := List.mem_map.mp m
    rw [eqv_str, decide_eq_true_eq, tS_iff] at e
    subst e; exact hn
  · intro h
    exact ⟨_, List.mem_map_of_mem h, by simp⟩
theorem cps_getD (c : Nat) (l : List Nat) : (tS (c :: l)).cps.getD 0 0 = c := by unfold tS; simp
theorem join_go {d : D} {n : Nat} {Q : R → Prop} (ls : List (List Nat)) {a : List Nat} (hd : d = .list (tL ls)) (hn : n = a.length) (h : (ls.map (·.length)).sum + ls.length * a.length ≤ 16777216) (hq : Q (.v (.str (tS (joinL a ls))))) :
    ∃ ys, txtsD d ys ∧ (ys.map (fun x => x.length)).sum + ys.length * n ≤ 16777216 ∧ Q (.v (.str (Txt.join (tS a) ys))) := by
  subst hd hn
  refine ⟨ls.map tS, .inl (by simp), ?_, by rw [tS_join]; exact hq⟩
  rw [List.length_map, List.map_map]
  have : (fun x => x.length) ∘ tS = fun l : List Nat => l.length := by funext l; exact tS_len l
  rw [this]; exact h
theorem joinL_ones (f : Nat → Nat) : ∀ xs : List Nat, joinL [] (xs.map fun c => [f c]) = xs.map f := fun xs => by
  rw [joinL_nil]
  induction xs with
  | nil => rfl
  | cons x r ih => rw [List.map_cons, List.flatten_cons, ih]; rfl
theorem len_ones (f : Nat → Nat) (xs : List Nat) : ((xs.map fun c => [f c]).map (·.length)).sum = xs.length := by
  induction xs with
  | nil => rfl
  | cons x r ih => rw [List.map_cons, List.map_cons, List.sum_cons, ih, List.length_cons]; simp; omega
theorem rep_nL (n v : Nat) : (List.replicate n [PyData.int (v : Int)]).flatten = nL (List.replicate n v) := by
  induction n with
  | zero => rfl
  | succ n ih => rw [List.replicate_succ, List.flatten_cons, ih, List.replicate_succ]; rfl
theorem rep_one {α : Type} (n : Nat) (v : α) : (List.replicate n [v]).flatten = List.replicate n v := by
  induction n with
  | zero => rfl
  | succ n ih => rw [List.replicate_succ, List.flatten_cons, ih, List.replicate_succ]; rfl
theorem rep_range {α : Type} (n : Nat) (f : Nat → α) (v : α) (h : ∀ x, f x = v) : List.replicate n v = (List.range n).map f := by
  apply List.ext_getElem (by simp)
  intro i _ _
  simp [h]
theorem pick_go {α : Type} {L : List α} {z n : Int} {P : α → Prop} (hn : n = (L.length : Int)) (h0 : 0 < L.length) (h : ∀ c ∈ L, P c) : ∃ c, atI L (z % n) = some c ∧ P c := by
  subst hn
  obtain ⟨k, h1, h2⟩ := emod_nat (a := z) (b := (L.length : Int)) (by omega)
  rw [h1]
  exact ⟨_, atI_lt (by omega), h _ (List.getElem_mem _)⟩
theorem tL_set (ls : List (List Nat)) (i : Nat) (l : List Nat) : (tL ls).set i (PyData.str (tS l)) = tL (ls.set i l) := by simp
theorem cdiv_int {i j : Int} (h0 : 0 < j) (h1 : j < 2 ^ 60) : CDivW i j := by
  refine cdiv_ok h0 ?_
  have h2 : j.natAbs ≠ 0 := by omega
  have h3 : j.natAbs < 2 ^ 60 := by omega
  have := (Nat.log2_lt h2).mpr h3
  omega
theorem ite_and2 {p q : Prop} [Decidable p] [Decidable q] {A B : Prop} : (if p then (if q then A else B) else B) = if p ∧ q then A else B := by
  by_cases h : p <;> by_cases g : q <;> simp [h, g]
theorem ite_or2 {p q : Prop} [Decidable p] [Decidable q] {A B : Prop} : (if p then A else (if q then A else B)) = if p ∨ q then A else B := by
  by_cases h : p <;> by_cases g : q <;> simp [h, g]
theorem sum_ones {α : Type} (f : α → Nat) (l : List α) (k : Nat) (h : ∀ x ∈ l, f x ≤ k) : (l.map f).sum ≤ l.length * k := by
  induction l with
  | nil => simp
  | cons x r ih =>
    rw [List.map_cons, List.sum_cons, List.length_cons, Nat.succ_mul]
    have := ih fun y m => h y (List.mem_cons_of_mem _ m)
    have := h x (List.mem_cons_self ..)
    omega
theorem map_set_range {α : Type} {n j : Nat} {f g : Nat → α} {v : α} (h1 : ∀ x, x < n → x ≠ j → g x = f x) (h2 : j < n → g j = v) : ((List.range n).map f).set j v = (List.range n).map g := by
  apply List.ext_getElem (by simp)
  intro i hi _
  rw [List.getElem_set]
  simp at hi
  by_cases h : j = i
  · subst h
    simp [h2 hi]
  · rw [if_neg h]
    simp [h1 i hi (fun q => h q.symm)]
theorem tS_in (a : List Nat) (c : Nat) : (!(Builtin.Str.occurrences (tS a) (tS [c]) 0 (tS a).length 1).isEmpty) = decide (c ∈ a) := by
  have h := StrLaws.found_one (tS a) c
  rw [tS_cps] at h
  exact h
theorem tS_in' (a : List Nat) (c : Nat) : (!(Builtin.Str.occurrences (tS a) (tS [c]) 0 a.length 1).isEmpty) = decide (c ∈ a) := by
  have h := tS_in a c
  rwa [tS_len] at h
theorem log_small {n : Nat} (h : n < 2 ^ 60) : n.log2 < 1920 := by
  by_cases h0 : n = 0
  · subst h0; decide
  · have := (Nat.log2_lt h0).mpr h; omega
/-- plain signs -/
def okT (l : List Nat) : Prop := ∀ c ∈ l, c < 128
instance (l : List Nat) : Decidable (okT l) := by unfold okT; infer_instance
theorem okT.str {l : List Nat} (h : okT l) : PyData.strOk (tS l) = true := by
  unfold PyData.strOk tS
  simp only [List.all_toArray, List.all_eq_true]
  intro c m
  have := h c m
  simp; omega
theorem okT.sh {l : List Nat} (h : okT l) (k : Nat) : Sh k (.str (tS l)) := sh_str k h.str
theorem okT_nil : okT [] := by intro c m; cases m
theorem okT.app {a b : List Nat} (h : okT a) (g : okT b) : okT (a ++ b) := fun c m => (List.mem_append.mp m).elim (h c) (g c)
theorem okT_one {c : Nat} (h : c < 128) : okT [c] := by intro d m; simp at m; omega
theorem okT.sub {a b : List Nat} (h : okT a) (g : ∀ c ∈ b, c ∈ a) : okT b := fun c m => h c (g c m)
theorem sh_tL {ls : List (List Nat)} (h : ∀ l ∈ ls, okT l) : Sh 1 (.list (tL ls)) := sh_list fun x m => by
  obtain ⟨n, hn, rfl⟩ := List.mem_map.mp m; exact (h n hn).sh 0
theorem eqv_tL (a b : List (List Nat)) : PyData.eqv (.list (tL a)) (.list (tL b)) = decide (a = b) := by
  rw [Bool.eq_iff_iff, eqv_pl (pl_tL a) (pl_tL b), decide_eq_true_eq]
  simp only [PyData.list.injEq]
  rw [tL_iff]
theorem lt_tS (a b : List Nat) : ((tS a).cps.toList < (tS b).cps.toList) = (a < b) := by rw [tS_cps, tS_cps]
end DL

set_option Elab.async false
set_option linter.all false
set_option maxRecDepth 100000
set_option maxHeartbeats 1000000
/-! DL19: lists in lists changed, comprehensions that make own things, sorted, dict(pairs), divmod. -/
namespace DL
open PySem L2 PyProof.Rows
section
variable {K : K0} {G B H : Hp} {env : Env} {fp : List Addr} {σ : L2.St}
/-- an own thing within an own list of own things -/
theorem RR.put2 {os : List O} {o : O} {i n : Nat} (x : RR K G B env fp σ H) (hi : env[i]? = some (some (.lsts os))) (hn : os[n]? = some o) :
    ∃ a vs u g, σ[i]? = some (some (.ref a)) ∧ H a = some (.lst vs) ∧ vs.length = os.length ∧ vs[n]? = some u ∧ Own K B H u o g ∧ g.Nodup ∧ (∀ b ∈ g, b ∈ fp ∧ B b = none ∧ G b = none) ∧
    ∀ (B' H' : Hp) (o' : O) (g' : List Addr), Le B B' → Le B' H' → (∀ b w, b ∉ g → H b = some w → H' b = some w) → (∀ b w, H b = some w → b ∉ g → B b = none → B' b = none) → Own K B' H' u o' g' → g'.Nodup →
      (∀ b ∈ g', (b ∈ fp → b ∈ g) ∧ B' b = none ∧ G b = none) → ∃ fp', RR K G B' (env.set i (some (.lsts (os.set n o')))) fp' σ H' := by
  obtain ⟨v, gg, h1, h2, h3, h4, h5⟩ := x.put hi
  cases h2 with
  | @lsts a vs _ f hl rl =>
    obtain ⟨na, nf⟩ := List.nodup_cons.mp h3
    obtain ⟨u, g, z1, z2, z3, z4, z5⟩ := rl.atO nf hn
    have nag : a ∉ g := fun m => na (z3 a m)
    refine ⟨a, vs, u, g, h1, hl, rl.length, z1, z2, z4, fun b m => h4 b (List.mem_cons_of_mem _ (z3 b m)), fun B' H' o' g' l bh k nb w ng hg => ?_⟩
    obtain ⟨f', t1, t2, t3⟩ := z5 B' H' o' g' l (fun b m n => by
      obtain ⟨w', hw⟩ := rl.dom b m
      rw [hw]; exact k b w' n hw) w ng fun b m m' => (hg b m).1 (h4 b (List.mem_cons_of_mem _ m')).1
    have naf' : a ∉ f' := fun m => by
      rcases t3 a m with z | z
      · exact na z.1
      · exact nag ((hg a z).1 (h4 a List.mem_cons_self).1)
    refine h5 B' H' _ (a :: f') l bh (fun b w' n hw => k b w' (fun m => n (List.mem_cons_of_mem _ (z3 b m))) hw) (fun b w' hw n => nb b w' hw fun m => n (List.mem_cons_of_mem _ (z3 b m))) (.lsts (k a _ nag hl) t1) (List.nodup_cons.mpr ⟨naf', t2⟩) fun b m => ?_
    rcases List.mem_cons.mp m with z | z
    · subst z
      exact ⟨fun _ => List.mem_cons_self, nb b _ hl nag (h4 b List.mem_cons_self).2.1, (h4 b List.mem_cons_self).2.2⟩
    · rcases t3 b z with z | z
      · obtain ⟨w', hw⟩ := rl.dom b z.1
        have q := h4 b (List.mem_cons_of_mem _ z.1)
        exact ⟨fun _ => List.mem_cons_of_mem _ z.1, nb b w' hw z.2 q.2.1, q.2.2⟩
      · exact ⟨fun m => List.mem_cons_of_mem _ (z3 b ((hg b z).1 m)), (hg b z).2⟩
end
theorem atI_ixN {α : Type} {xs : List α} {i : Int} {n : Nat} {x : α} (h : ixN xs.length i = some n) (g : xs[n]? = some x) : atI xs i = some x := by
  unfold atI
  rw [h]; exact g
section
variable {X : Cx} {W : WX} {G : Hp} {e ob ix : Expr} {k t m : WE} {pos : Pos}
/-- xs[k].append(e), xs an own list of own lists -/
def wApp2 (i : Nat) (k t : WE) : WS := fun D env => ∃ os, env[i]? = some (some (.lsts os)) ∧ k env (fun kk => ∃ j n ds, kk.d = .int j ∧ ixN os.length j = some n ∧ os[n]? = some (.lst ds) ∧ t env (fun r => r.st ∧ ds.length < sizeLine ∧ D.nx (env.set i (some (.lsts (os.set n (.lst (ds ++ [r.d]))))))) (fun n => D.ex n env)) (fun n => D.ex n env)
theorem ds_app2 {i : Nat} {p2 apos cpos : Pos} (hu : X.A.units + 1 < cLine) (ho : PE X ob (tVar i)) (hk : DE X W G ix k) (he : DE X W G e t) (hpi : PlainIx ix)
    (hbase : attributeBase (.Subscript ob ix p2) "append" X.env (eval (.Subscript ob ix p2) X.env) = eval (.Subscript ob ix p2) X.env)
    (hfew : ((backTo cpos (starEach [e] X.env)).all (fun x => !x.1) && (backToKw cpos (keywordEach [] X.env)).all (fun x => x.1.isSome)
      && decide ([e].length + ([] : List Keyword).length + (if ([] : List Keyword).isEmpty then 0 else 1) < 30)) = true)
    (hline : (apos.endLine == cpos.line) = true) (hs : starEach [e] X.env = (false, eval e X.env) :: starEach [] X.env) (hplain : (backTo cpos (starEach [] X.env)).any (·.1) = false)
    (hsw : swapsWith (.Call (.Attribute (.Subscript ob ix p2) "append" apos) [e] [] cpos) none pos.line X.env = pure false) :
    DS X W G (.Expr (.Call (.Attribute (.Subscript ob ix p2) "append" apos) [e] [] cpos) pos) (wApp2 i k t) := by
  refine PSi (ps_expr (pe_bm PySem.F.plainAttrs_list PySem.F.slot_list_append PySem.F.type_list_append mt_append (pe_ix ix_list ho hk hpi) (pa_cons he pa_nil hs) hbase hfew hline hs hplain) hsw) fun D σ H ⟨B, env, fp, d, rr, ⟨os, hi, hm⟩, x⟩ => ?_
  obtain ⟨vi, g0, h1, _, _⟩ := rr.own.get hi
  refine ⟨vi, h1, B, env, fp, _, _, rr, hm, fun y H1 B1 kr e1 w1 ⟨j, n, ds, ej, hn, ho, hq⟩ => ?_, x.x rr⟩
  have rr1 := rr.ext e1
  have hy := w1.now e1
  rw [ej] at hy
  obtain ⟨a, vs, u, g, q1, q2, q3, q4, q5, q6, q7, q8⟩ := rr1.put2 hi ho
  rw [h1] at q1
  cases q1
  cases q5 with
  | @lst a2 vs2 _ hl rl =>
    refine ⟨a, vs, j, _, rfl, hy.int_inv, .inl (.inl q2), atI_ixN (by rw [q3]; exact hn) q4, .inl ⟨rfl, _, .inl (.inl hl)⟩, B1, env, fp, _, _, rr1, hq, fun v H2 B2 r e2 w2 ⟨st, hz, q⟩ => ?_, (x.x rr).later e1.same⟩
    obtain ⟨B3, e3, l3, rk⟩ := w2.keep e2 st
    have rr3 := rr1.ext e3
    obtain ⟨a', vs', u', g', z1, z2, z3, z4, z5, z6, z7, z8⟩ := rr3.put2 hi ho
    rw [h1] at z1
    cases z1
    have e4 := e2.same _ _ q2
    rw [z2] at e4
    cases e4
    rw [q4] at z4
    cases z4
    cases z5 with
    | @lst _ vs3 _ hl3 rl3 =>
      refine ⟨a2, vs3, v, rfl, rfl, hl3, by rw [rl3.length]; exact hz, ?_⟩
      have na : B3 a2 = none := (z7 a2 (by simp)).2.1
      obtain ⟨fp', y⟩ := z8 B3 (upd H2 a2 (.lst (vs3 ++ [v]))) (.lst (ds ++ [r.d])) [a2] (.refl _)
        (fun b u q => upd_keep (rr3.bh b u q) (ne_of_none q na)) (fun b u n q => upd_keep q fun z => n (by simp [z])) (fun _ _ _ _ q => q)
        (.lst upd_same (rl3.append (.one rk))) (by simp) (fun b m => ⟨fun _ => m, (z7 b m).2⟩)
      exact x.nx σ _ B3 _ fp' (e1.le.trans e3.le) y q
/-- xs[k][j] = e, xs an own list of own lists -/
def wSt2 (i : Nat) (k k2 m : WE) : WS := fun D env => ∃ os, env[i]? = some (some (.lsts os)) ∧ m env (fun r => k env (fun kk => ∃ j n ds, kk.d = .int j ∧ ixN os.length j = some n ∧ os[n]? = some (.lst ds) ∧
  k2 env (fun k2 => r.st ∧ ∃ j2 n2, k2.d = .int j2 ∧ ixN ds.length j2 = some n2 ∧ D.nx (env.set i (some (.lsts (os.set n (.lst (ds.set n2 r.d))))))) (fun n => D.ex n env)) (fun n => D.ex n env)) (fun n => D.ex n env)
theorem ds_st2 {i : Nat} {ix2 : Expr} {k2 : WE} {p2 p3 : Pos} (hu : X.A.units + 1 < cLine) (ho : PE X ob (tVar i)) (hk : DE X W G ix k) (hk2 : DE X W G ix2 k2) (hm : DE X W G e m) (hpi : PlainIx ix)
    (ha : ∀ v, assign (.Subscript (.Subscript ob ix p3) ix2 p2) X.env v = (do
      let ov ← holding [v] (eval (.Subscript ob ix p3) X.env)
      let iv ← holding [v, ov] (eval ix2 X.env)
      standAt p2
      holding [v, ov, iv] (setItem ov iv v)
      release [v, ov, iv] []))
    (hs : swapsWithSole [.Subscript (.Subscript ob ix p3) ix2 p2] e pos.line X.env = pure false) (hw : swappedStores [.Subscript (.Subscript ob ix p3) ix2 p2] e X.env = pure none) :
    DS X W G (.Assign [.Subscript (.Subscript ob ix p3) ix2 p2] e pos) (wSt2 i k k2 m) := by
  refine PSi (ps_asg hm (pg_sub (pe_ix ix_list ho hk hpi) hk2 set_list ha) hs hw) fun D σ H ⟨B, env, fp, d, rr, ⟨os, hi, hmm⟩, x⟩ => ?_
  refine ⟨B, env, fp, _, _, rr, hmm, fun v H1 B1 r e1 w1 q1 => ?_, x.x rr⟩
  obtain ⟨vi, g0, h1, _, _⟩ := rr.own.get hi
  have rr1 := rr.ext e1
  refine ⟨vi, h1, B1, env, fp, _, _, rr1, q1, fun y H2 B2 kr e2 w2 ⟨j, n, ds, ej, hn, ho, hq⟩ => ?_, (x.x rr).later e1.same⟩
  have rr2 := rr1.ext e2
  have hy := w2.now e2
  rw [ej] at hy
  obtain ⟨a, vs, u, g, q1, q2, q3, q4, q5, q6, q7, q8⟩ := rr2.put2 hi ho
  rw [h1] at q1
  cases q1
  cases q5 with
  | @lst a2 vs2 _ hl rl =>
    refine ⟨a, vs, j, _, rfl, hy.int_inv, .inl (.inl q2), atI_ixN (by rw [q3]; exact hn) q4, B2, env, fp, _, _, rr2, hq, fun y2 H3 B3 k2r e3 w3 ⟨st, j2, n2, ej2, hn2, q⟩ => ?_, (x.x rr).later (e1.same.trans e2.same)⟩
    have hy2 := w3.now e3
    rw [ej2] at hy2
    obtain ⟨B4, e4, l4, rk⟩ := (VOk.fwd (e2.trans e3) w1).keep (e1.trans (e2.trans e3)) st
    have rr4 := rr.ext e4
    obtain ⟨a', vs', u', g', z1, z2, z3, z4, z5, z6, z7, z8⟩ := rr4.put2 hi ho
    rw [h1] at z1
    cases z1
    have e5 := e3.same _ _ q2
    rw [z2] at e5
    cases e5
    rw [q4] at z4
    cases z4
    cases z5 with
    | @lst _ vs3 _ hl3 rl3 =>
      refine ⟨a2, vs3, _, n2, rfl, hy2.int_inv, hl3, by rw [rl3.length]; exact hn2, ?_⟩
      have na : B4 a2 = none := (z7 a2 (by simp)).2.1
      obtain ⟨fp', y⟩ := z8 B4 (upd H3 a2 (.lst (vs3.set n2 v))) (.lst (ds.set n2 r.d)) [a2] (.refl _)
        (fun b u q => upd_keep (rr4.bh b u q) (ne_of_none q na)) (fun b u n q => upd_keep q fun z => n (by simp [z])) (fun _ _ _ _ q => q)
        (.lst upd_same (rl3.set rk n2)) (by simp) (fun b m => ⟨fun _ => m, (z7 b m).2⟩)
      exact x.nx σ _ B4 _ fp' e4.le y q
end
end DL

set_option Elab.async false
set_option linter.all false
set_option maxRecDepth 100000
set_option maxHeartbeats 1000000
/-! DL20: comprehensions that make own things, sorted, dict(pairs), divmod, written dicts. -/
namespace DL
open PySem L2 PyProof.Rows
theorem pow_pos_go (h : Nat) : (0 : Int) < ((2 ^ h : Nat) : Int) := by have := Nat.two_pow_pos h; omega
/-! ### comprehensions whose list holds own things -/
def LcO (env : Env) (ds : List PyData) (vs : List Nat) (g : WG) (c : WT) (t : WE) (Q : R → Prop) : Prop := ∃ P : Nat → List O → Prop, P 0 [] ∧
  (∀ i d acc, ds[i]? = some d → P i acc → g d (wipeE env vs) fun env2 => c env2 (fun k => if k = true then t env2 (fun r => r.st ∧ acc.length < sizeLine ∧ P (i + 1) (acc ++ [r.o])) noE else P (i + 1) acc) noE) ∧
  ∀ acc, P ds.length acc → Q (.t (.lsts acc))
def wLcO (it : WI) (vs : List Nat) (g : WG) (c : WT) (t : WE) : WE := fun env Q E => it env (fun ds => LcO env ds vs g c t Q) E
theorem wLcO_eq (it : WI) (vs : List Nat) (g : WG) (c : WT) (t : WE) (env : Env) (Q : R → Prop) (E : Str → Prop) : wLcO it vs g c t env Q E = it env (fun ds => LcO env ds vs g c t Q) E := rfl
theorem lcO_mapE {α : Type} {ls : List α} {enc : α → D} {env : Env} {vs : List Nat} {g : WG} {t : WE} {Q : R → Prop} (f : α → O) (hz : ls.length ≤ sizeLine)
    (h : ∀ x ∈ ls, ∀ A : R → Prop, (∀ r, r.st → r.o = f x → A r) → g (enc x) (wipeE env vs) fun env2 => t env2 A noE) (q : Q (.t (.lsts (ls.map f)))) : LcO env (ls.map enc) vs g wYes t Q := by
  refine ⟨fun i acc => acc = (ls.take i).map f, by simp, fun i d acc hd ha => ?_, fun acc ha => ?_⟩
  · obtain ⟨x, hx, e⟩ := map_get hd
    subst e
    have ha : acc = (ls.take i).map f := ha
    refine h x (List.mem_of_getElem? hx) (fun r => r.st ∧ acc.length < sizeLine ∧ acc ++ [r.o] = (ls.take (i + 1)).map f) fun r rs rd => ⟨rs, ?_, ?_⟩
    · have hi := (List.getElem?_eq_some_iff.mp hx).1
      rw [ha, List.length_map, List.length_take]
      omega
    · rw [take_succ hx, List.map_append, ha, rd]; rfl
  · have ha : acc = (ls.take (ls.map enc).length).map f := ha
    rw [ha, List.length_map, List.take_length]; exact q
section
variable {X : Cx} {W : WX} {G : Hp} {tg iter elt : Expr} {ifs : List Expr} {scope : Scope} {own : List (Str × Nat)} {it : WI} {g : WG} {c : WT} {t : WE} {pos : Pos}
theorem lcO_ok {σ : L2.St} {H : Hp} {QV : VK} {vs : List Nat} (h : tD X W G (wLcO it vs g c t) σ H QV) :
    tLc (tDIc X W G it) (tDG X G vs g) (tDT X W0 G c) (tD X W0 G t) vs σ H QV := by
  obtain ⟨B, env, fp, Q, E, rr, hm, hq, hx⟩ := h
  refine ⟨B, env, fp, _, E, rr, hm, fun J H1 B1 ds e1 wk ⟨P, p0, pt, pe⟩ L nL => ?_, hx⟩
  have out : ∀ {H2 B2 : Hp}, RR X.K G B2 env fp σ H2 → L ∉ fp := fun {H2 B2} r2 m => by
    obtain ⟨u, hu⟩ := (rr.ext e1).own.dom L m
    rw [nL] at hu; cases hu
  have gL : G L = none := (rr.ext e1).gh.none nL
  let Iv : Nat → Hp → Prop := fun i H2 => ∃ B2 acc vs2 f, Le B1 B2 ∧ RR X.K G B2 env fp σ H2 ∧ B2 L = none ∧ H2 L = some (.lst vs2) ∧ OwnAll X.K B2 H2 vs2 acc f ∧ f.Nodup ∧ L ∉ f ∧ (∀ a ∈ f, H1 a = none ∧ B2 a = none) ∧
    (∀ a o, H1 a = some o → H2 a = some o) ∧ (∀ a o, H1 a = some o → B1 a = none → B2 a = none) ∧ P i acc
  refine ⟨fun i m H2 => m = ds.length - i ∧ i ≤ ds.length ∧ Iv i H2,
    ⟨_, rfl, Nat.zero_le _, B1, [], [], [], .refl _, (rr.ext e1).beside (out (rr.ext e1)) (e1.bh.none nL) gL, e1.bh.none nL, upd_same, .nil, by simp, by simp, by simp, fun a o q => upd_keep q (ne_of_none q nL), fun _ _ _ n => n, p0⟩, ?_⟩
  rintro i m H2 ⟨rfl, hle, B2, acc, vs2, f, l2, rr2, bL, hL, ra, nf, Lf, hf, s2, n2, pi⟩
  by_cases hlt : i < ds.length
  · refine .inr ⟨wk.go i H2 B2 l2 rr2.bh s2 hlt, fun H' => Iv (i + 1) H', fun H' z => ⟨_, (by omega), rfl, hlt, z⟩, fun y H3 hy => ?_⟩
    obtain ⟨dd, B3, hd, e3, rp⟩ := wk.yld i H2 y H3 B2 hlt l2 rr2.bh s2 hy
    obtain ⟨fpw, rrw⟩ := (rr2.ext e3).wipe vs
    refine ⟨B3, _, fpw, dd, _, rrw, rp, pt i dd acc hd pi, fun σ4 env4 fp4 rr4 t4 q4 => ⟨?_, ?_⟩⟩
    · have := t4.wipe
      rw [this]
      exact (Touch.wipe ⟨wipe_length σ vs, fun j nj => by rw [wipe_get, if_neg nj]⟩)
    · refine ⟨B3, env4, fp4, _, noE, rr4, q4, fun k H5 B5 e5 q5 => ?_, xok0⟩
      have eA := e3.trans e5
      have keepO : ∀ {H' B' : Hp}, Ext H2 B2 H' B' → OwnAll X.K B' H' vs2 acc f ∧ ∀ a ∈ f, H1 a = none ∧ B' a = none := fun {H' B'} e => ⟨ra.mono e.le fun a m => by
        obtain ⟨u, hu⟩ := ra.dom a m
        rw [hu]; exact e.same a u hu, fun a m => ⟨(hf a m).1, by
        obtain ⟨u, hu⟩ := ra.dom a m
        exact e.new a u hu (hf a m).2⟩⟩
      cases k with
      | false =>
        rw [if_neg (by simp)] at q5
        refine iteF ?_
        obtain ⟨k1, k2⟩ := keepO eA
        exact ⟨B5, acc, vs2, f, l2.trans eA.le, rr2.ext eA, eA.new L _ hL bL, eA.same _ _ hL, k1, nf, Lf, k2, fun a o q => eA.same _ _ (s2 a o q), fun a o q n => eA.new a o (s2 a o q) (n2 a o q n), q5⟩
      | true =>
        rw [if_pos rfl] at q5
        refine iteT ?_
        refine ⟨B5, env4, fp4, _, noE, rr4.ext e5, q5, fun u H6 B6 r e6 w ⟨sr, hz, p6⟩ => ?_, xok0⟩
        have eB := eA.trans e6
        have hL6 := eB.same _ _ hL
        have bL6 := eB.new L _ hL bL
        have rr6 := rr2.ext eB
        obtain ⟨k1, k2⟩ := keepO eB
        have key : ∀ g', Own X.K B6 H6 u r.o g' → g'.Nodup → (∀ a ∈ g', H5 a = none ∧ B6 a = none) → Iv (i + 1) (upd H6 L (.lst (vs2 ++ [u]))) := fun g' wg ng hg => by
          have h5 : ∀ a ∈ g', H1 a = none ∧ a ∉ f ∧ a ≠ L := fun a m => by
            have q := eA.same.none (hg a m).1
            have q1 : H1 a = none := by
              cases z : H1 a with
              | none => rfl
              | some o => rw [s2 a o z] at q; cases q
            refine ⟨q1, fun m' => ?_, fun e => ?_⟩
            · obtain ⟨o, ho⟩ := ra.dom a m'
              rw [ho] at q; cases q
            · subst e; rw [hL] at q; cases q
          have ne : ∀ a ∈ f ++ g', upd H6 L (.lst (vs2 ++ [u])) a = H6 a := fun a m => upd_ne fun e => by
            rcases List.mem_append.mp m with m | m
            · exact Lf (e ▸ m)
            · exact (h5 a m).2.2 e
          have t1 := k1.mono (H' := upd H6 L (.lst (vs2 ++ [u]))) (Le.refl B6) fun a m => ne a (List.mem_append_left _ m)
          have t2 := wg.mono (H' := upd H6 L (.lst (vs2 ++ [u]))) (Le.refl B6) fun a m => ne a (List.mem_append_right _ m)
          have t3 := t1.append (OwnAll.cons t2 .nil)
          rw [List.append_nil] at t3
          refine ⟨B6, acc ++ [r.o], vs2 ++ [u], f ++ g', l2.trans eB.le, rr6.beside (out rr6) bL6 gL, bL6, upd_same, t3, List.nodup_append.mpr ⟨nf, ng, fun a m b m' e => (h5 b m').2.1 (e ▸ m)⟩, fun m => ?_, fun a m => ?_, fun a o q => upd_keep (eB.same _ _ (s2 a o q)) (ne_of_none q nL), fun a o q n => eB.new a o (s2 a o q) (n2 a o q n), p6⟩
          · rcases List.mem_append.mp m with m | m
            · exact Lf m
            · exact (h5 L m).2.2 rfl
          · rcases List.mem_append.mp m with m | m
            · exact k2 a m
            · exact ⟨(h5 a m).1, (hg a m).2⟩
        refine ⟨vs2, hL6, by rw [k1.length]; exact hz, ?_⟩
        cases r with
        | v d => exact key [] (.fro w) (by simp) fun b m => absurd m (by simp)
        | t o => obtain ⟨g', w, ng, hg⟩ := w; exact key g' w ng hg
        | b o => exact sr.elim
  · have e : i = ds.length := by omega
    subst e
    refine .inl ⟨wk.stop _ H2 B2 l2 rr2.bh s2 (Nat.le_refl _), hq _ H2 B2 (.t (.lsts acc)) ⟨e1.same.trans s2, e1.le.trans l2, rr2.bh, fun a o q n => n2 a o (e1.same _ _ q) (e1.new a o q n)⟩ ⟨L :: f, .lsts hL ra, List.nodup_cons.mpr ⟨Lf, nf⟩, fun a m => ?_⟩ (pe acc pi)⟩
    rcases List.mem_cons.mp m with z | z
    · subst z; exact ⟨e1.same.none nL, bL⟩
    · exact ⟨e1.same.none (hf a z).1, (hf a z).2⟩
theorem de_lcO (hc : X.calm = true) (hN : X.N.Nodup) (hi : DIc X W G tg iter it) {N : List Str} {sc : Scope} (ok : blkC N sc scope own = true) (eN : X.N = N) (eS : X.env.scope = sc)
    (hg : ∀ s H C cl fp, DG (Bk X scope s H C cl fp) G (own.map (·.2)) tg g) (ht : ∀ s H C cl fp, PTs (Bk X scope s H C cl fp) ifs (tDT X W0 G c)) (he : ∀ s H C cl fp, DE (Bk X scope s H C cl fp) W0 G elt t)
    (hs : ∀ x, foldedSetIterable iter X.env x = pure x) : DE X W G (.ListComp elt [⟨tg, iter, ifs, 0⟩] scope pos) (wLcO it (own.map (·.2)) g c t) :=
  PEi (pe_lc (g := tDG X G (own.map fun p : Str × Nat => p.2) g) (tt := tDT X W0 G c) (te := tD X W0 G t) hc hN hi (by subst eN eS; exact blkOk_by ok) hg ht he hs) fun _ _ _ h => lcO_ok h
theorem ds_setLcO {i : Nat} {y : Str} {py spos : Pos} (hc : X.calm = true) (hN : X.N.Nodup) (hy : X.N[i]? = some y) (hyl : X.env.scope.names.lookup y = some .local)
    (hsw : swapsWith (.ListComp elt [⟨tg, iter, ifs, 0⟩] scope pos) (some (.Name y py)) spos.line X.env = pure true) (hi : DIc X W G tg iter it) {N : List Str} {sc : Scope} (ok : blkC N sc scope own = true) (eN : X.N = N) (eS : X.env.scope = sc)
    (hg : ∀ s H C cl fp, DG (Bk X scope s H C cl fp) G (own.map (·.2)) tg g) (ht : ∀ s H C cl fp, PTs (Bk X scope s H C cl fp) ifs (tDT X W0 G c)) (he : ∀ s H C cl fp, DE (Bk X scope s H C cl fp) W0 G elt t)
    (hs : ∀ x, foldedSetIterable iter X.env x = pure x) : DS X W G (.Assign [.Name y py] (.ListComp elt [⟨tg, iter, ifs, 0⟩] scope pos) spos) (wAsg i (wLcO it (own.map (·.2)) g c t)) :=
  PSi (ps_setLc (g := tDG X G (own.map fun p : Str × Nat => p.2) g) (tt := tDT X W0 G c) (te := tD X W0 G t) hc hN hy hyl hsw hi (by subst eN eS; exact blkOk_by ok) hg ht he hs) fun D σ H h => asg_ok (fun _ _ _ h => lcO_ok h) H h
end
/-! ### sorted -/
def ordS (xs ys : List Str) : Prop := ys.Perm xs ∧ sortedS ys = true
def ordI (xs ys : List Int) : Prop := ys.Perm xs ∧ ys.Pairwise (· ≤ ·)
def sortedD : F1
  | .list ds, Q => (∃ ns : List Int, ds = ns.map PyData.int ∧ ∀ ms, ordI ns ms → Q (.t (.lst (ms.map PyData.int)))) ∨ ∃ xs : List Str, ds = xs.map PyData.str ∧ ∀ ys, ordS xs ys → Q (.t (.lst (ys.map PyData.str)))
  | .dict kvs, Q => (∃ ns : List Int, ns.length < 64 ∧ kvs.map (·.1) = ns.map PyData.int ∧ ∀ ms, ordI ns ms → Q (.t (.lst (ms.map PyData.int)))) ∨ ∃ xs : List Str, kvs.map (·.1) = xs.map PyData.str ∧ ∀ ys, ordS xs ys → Q (.t (.lst (ys.map PyData.str)))
  | _, _ => False
theorem sortedD_l (ds : List D) (Q : R → Prop) : sortedD (.list ds) Q = ((∃ ns : List Int, ds = ns.map PyData.int ∧ ∀ ms, ordI ns ms → Q (.t (.lst (ms.map PyData.int)))) ∨ ∃ xs : List Str, ds = xs.map PyData.str ∧ ∀ ys, ordS xs ys → Q (.t (.lst (ys.map PyData.str)))) := rfl
theorem sortedD_d (kvs : List (D × D)) (Q : R → Prop) : sortedD (.dict kvs) Q = ((∃ ns : List Int, ns.length < 64 ∧ kvs.map (·.1) = ns.map PyData.int ∧ ∀ ms, ordI ns ms → Q (.t (.lst (ms.map PyData.int)))) ∨ ∃ xs : List Str, kvs.map (·.1) = xs.map PyData.str ∧ ∀ ys, ordS xs ys → Q (.t (.lst (ys.map PyData.str)))) := rfl
theorem RepKV.keysS {K : K0} {B : Hp} : ∀ {kvs : List (Key × V)} {ds : List (D × D)} {xs : List Str}, RepKV K B kvs ds → ds.map (·.1) = xs.map PyData.str → kvs.map (·.1) = xs.map Sum.inr
  | _, _, [], .nil, _ => rfl
  | _, _, x :: xs, .cons (k := k) r t, e => by
    simp only [List.map_cons, List.cons.injEq] at e ⊢
    exact ⟨by cases k <;> simp [kD] at e ⊢; exact e.1, RepKV.keysS t e.2⟩
theorem RepKV.keysI {K : K0} {B : Hp} : ∀ {kvs : List (Key × V)} {ds : List (D × D)} {xs : List Int}, RepKV K B kvs ds → ds.map (·.1) = xs.map PyData.int → kvs.map (·.1) = xs.map Sum.inl
  | _, _, [], .nil, _ => rfl
  | _, _, x :: xs, .cons (k := k) r t, e => by
    simp only [List.map_cons, List.cons.injEq] at e ⊢
    exact ⟨by cases k <;> simp [kD] at e ⊢; exact e.1, RepKV.keysI t e.2⟩
section
variable {X : Cx}
theorem sortedAnyS : CallR X (.builtin "sorted") (fun vs H Q => ∃ (a : Addr) (xs : List Str), vs = [V.ref a] ∧ SqL X.K H a (xs.map V.str) ∧ ∀ (ys : List Str) (p : Addr), ys.Perm xs → sortedS ys = true → H p = none → Q (.ref p) (upd H p (.lst (ys.map V.str)))) := by
  intro pins s σ H vs us Q I r h
  obtain ⟨a, xs, rfl, hs, q⟩ := h
  obtain ⟨its, rv, hl, hz⟩ := I.list hs
  rw [Vals.ref1 r]
  have hlen0 := rv.length
  rw [List.length_map] at hlen0 hz
  refine PyProof.Rows.sorted_strsAny hl.isList rv.strs (by rw [← hlen0]; exact hz) fun out ys h1 h2 h3 => ?_
  obtain ⟨ep, he'⟩ := PyProof.Rows.sortedAll_at s.heap its out
  have hlen : (ys.map V.str).length ≤ sizeLine := by rw [List.length_map, h2.length_eq]; exact hz
  exact ⟨.ref _, upd H (s.heap.objs.size + 1) (.lst (ys.map V.str)), I.laid (t' := s.toks) (fun _ _ => PyProof.Rows.sortedAll_old) (Nat.le_succ _) ⟨hlen, out.toList, ep, vals_of_strs h1, he'⟩, rfl, q ys _ h2 h3 (I.hok.fresh (Nat.le_succ _))⟩
theorem sortedAnyD (hcalm : X.calm = true) : CallR X (.builtin "sorted") (fun xs H Q => ∃ (a : Addr) (kvs : List (Key × V)) (ks : List Str), xs = [.ref a] ∧ Rd H a (.dK kvs) ∧ kvs.map (·.1) = ks.map Sum.inr ∧
    ∀ ys p, ys.Perm ks → sortedS ys = true → H p = none → Q (.ref p) (upd H p (.lst (ys.map V.str)))) := by
  intro pins s σ H xs us Q I r q
  obtain ⟨a, kvs, ks, ex, hd, hks, q⟩ := q
  subst ex
  obtain ⟨u, eu, rx⟩ := vals1 r
  subst eu
  cases rx
  obtain ⟨z, lo, vs, rel, dd⟩ := dk_rd I.hok hd
  obtain ⟨ep, hat⟩ := dd.dictAt
  have hkeys : vs.map (·.1) = ks.map Sum.inr := rel.keys.symm.trans hks
  have hl : vs.length = ks.length := by
    have e := congrArg List.length hkeys
    rw [List.length_map, List.length_map] at e
    exact e
  have h16 : vs.length ≤ sizeLine := by rw [← rel.length]; exact z
  have h17 : ks.length ≤ sizeLine := by rw [← hl]; exact h16
  refine Calls.call_function_entry PyProof.Rows.kind_sorted PyProof.Rows.plain_sorted PyProof.Rows.entry_sorted (PyProof.Rows.args_sorted1 _) ?_
  unfold Builtin.«sorted»
  refine wpAny_bind (m := checkCount "sorted" 1 1 _) (wpAny_pure ?_)
  refine wpAny_bind (PySem.W.kdu_collect (A := X.A.in1) (PySem.W.kdl_dict (knd := mixKind X.prog X.w) (kvs := vs) (ep := ep) lo) (I.ok.hd hcalm) hat h16 fun h' tk acc hk hacc => ?_)
  have hal : acc.toList.length = ks.length := by rw [Array.length_toList, hacc.1, hl]
  have hS : StrsAre acc.toList ks := strs_at hal fun j v e => by
    obtain ⟨k, x, e1, e2⟩ := hacc.2 j v (by rw [← Array.getElem?_toList]; exact e)
    have e3 : (vs.map (·.1))[j]? = some k := by rw [List.getElem?_map, e1]; all_goals rfl
    rw [hkeys, List.getElem?_map] at e3
    cases e4 : ks[j]? with
    | none => rw [e4] at e3; cases e3
    | some y =>
      rw [e4] at e3
      have e5 : Sum.inr y = k := Option.some.inj e3
      subst e5
      obtain ⟨t, ev⟩ := Value.isStrOf_shape (x := y) (v := v) e2
      exact ⟨y, t, rfl, ev⟩
  have I1 : Inv X pins σ H { s with heap := h', toks := tk } := I.kept hk
  refine wpAny_bind (wpAny_newList ?_ (by rw [hal]; exact h17))
  have hoL : (h'.push (seqObj "list" acc.toList.toArray 0)).get? h'.objs.size = some (seqObj "list" acc.toList.toArray 0) := Heap.get?_push_size _ rfl
  show wpAny _ _ _ _ _ { s with heap := h'.push (seqObj "list" acc.toList.toArray 0), toks := tk }
  refine wpAny_bind (wpAny_holding (wpAny_call_entry PyProof.Rows.slot_list_sort ⟨_, hoL, rfl⟩ PyProof.Rows.entry_list_sort
    (list_sort_treeKAny strKind_oneLt (s := { s with heap := h'.push (seqObj "list" acc.toList.toArray 0), toks := tk }) hoL hS.keysOf (fun v₁ v₂ rest e => keyKind_strs (by rw [← e]; exact hS)) (by rw [hal]; exact h17) fun st' hp hs => ⟨_, rfl, ?_⟩)
    (PyProof.Rows.args_list_sort _)))
  obtain ⟨ys, g1, g2, g3⟩ := sorted_out_str hS hp hs
  obtain ⟨e', he'⟩ := PyProof.Rows.sortedHeap_at (vs := acc.toList) (out := (arrOf st').map (·.2)) hoL
  have hlen : (ys.map V.str).length ≤ sizeLine := by
    rw [List.length_map, g2.length_eq]
    exact h17
  refine wpAny_pure ⟨_, rfl, .ref h'.objs.size, upd H h'.objs.size (.lst (ys.map V.str)), I1.laid (t' := tk) (fun b u e => ?_) (Nat.le_refl _)
    (show ObjOk X.prog X.w _ _ _ (.lst (ys.map V.str)) from ⟨hlen, ((arrOf st').map (·.2)).toList, e', vals_of_strs g1, by rw [Array.toArray_toList]; exact he'⟩), rfl, q ys _ g2 g3 (I1.hok.fresh (Nat.le_refl _))⟩
  have hb : b < h'.objs.size := Heap.lt_size e
  rw [PyProof.Rows.sortedHeap_old (Nat.ne_of_lt hb) (by rw [size_push']; exact Nat.lt_succ_of_lt hb)]
  exact Heap.get?_push_of_some _ e
theorem cSorted (hc : X.calm = true) : CallR X (.builtin "sorted") (rB X.K (f1s sortedD)) := by
  intro pins s σ H xs us QV I rv ⟨B, fp, rs, Q, l, x, hf, hq⟩
  obtain ⟨a, e, sh, hg⟩ := f1s_inv hf
  clear hf
  subst e
  obtain ⟨v, e, hv⟩ := x.one_sh sh
  subst e
  generalize a.d = d at hv hg
  cases d <;> first | exact (show False from hg).elim | skip
  · obtain ⟨p, vs, e, s', t⟩ := hv.list l
    subst e
    rcases hg with ⟨ns, e, hg⟩ | ⟨ys, e, hg⟩
    · subst e
      rw [t.intsV] at s'
      exact cr_sortedI pins s σ H _ us QV I rv ⟨p, ns, rfl, s', fun ms p' h1 h2 np => hq _ _ B (.t _) (.make l np _) (t_lst l np .ints) (hg ms ⟨h1, h2⟩)⟩
    · subst e
      rw [t.strsV] at s'
      exact sortedAnyS pins s σ H _ us QV I rv ⟨p, ys, rfl, s', fun ms p' h1 h2 np => hq _ _ B (.t _) (.make l np _) (t_lst l np (.strs ms)) (hg ms ⟨h1, h2⟩)⟩
  · obtain ⟨p, kvs, e, s', t⟩ := hv.dict l
    subst e
    rcases hg with ⟨ns, h64, e, hg⟩ | ⟨ys, e, hg⟩
    · exact call_sortedDI hc pins s σ H _ us QV I rv ⟨p, kvs, ns, rfl, s', t.keysI e, h64, fun ms p' h1 h2 np => hq _ _ B (.t _) (.make l np _) (t_lst l np .ints) (hg ms ⟨h1, h2⟩)⟩
    · exact sortedAnyD hc pins s σ H _ us QV I rv ⟨p, kvs, ys, rfl, s', t.keysS e, fun ms p' h1 h2 np => hq _ _ B (.t _) (.make l np _) (t_lst l np (.strs ms)) (hg ms ⟨h1, h2⟩)⟩
/-! ### dict(pairs) -/
def pairD (p : Key × D) : D := .tuple [kD p.1, p.2]
def mergeD (acc : List (D × D)) (ps : List (Key × D)) : List (D × D) := ps.foldl (fun acc p => putD acc p.1 p.2) acc
def dictD : F1
  | .list ds, Q => ∃ ps : List (Key × D), ds = ps.map pairD ∧ Q (.t (.dic (mergeD [] ps)))
  | .tuple ds, Q => ∃ ps : List (Key × D), ds = ps.map pairD ∧ Q (.t (.dic (mergeD [] ps)))
  | .dict kvs, Q => Q (.t (.dic kvs))
  | _, _ => False
theorem dictD_l (ds : List D) (Q : R → Prop) : dictD (.list ds) Q = ∃ ps : List (Key × D), ds = ps.map pairD ∧ Q (.t (.dic (mergeD [] ps))) := rfl
theorem dictD_t (ds : List D) (Q : R → Prop) : dictD (.tuple ds) Q = ∃ ps : List (Key × D), ds = ps.map pairD ∧ Q (.t (.dic (mergeD [] ps))) := rfl
theorem pairs_rep {K : K0} {B : Hp} : ∀ {ps : List (Key × D)} {vs : List V}, RepAll K B vs (ps.map pairD) → ∃ (as : List Addr) (kvs : List (Key × V)), vs = as.map V.ref ∧ Paired (fun p kv => SqT K B p [kV kv.1, kv.2]) as kvs ∧ Paired (fun (kv : Key × V) (p : Key × D) => kv.1 = p.1 ∧ Rep K B kv.2 p.2) kvs ps
  | [], _, .nil => ⟨[], [], rfl, .nil, .nil⟩
  | p :: ps, _, .cons r t => by
    obtain ⟨as, kvs, e, h1, h2⟩ := pairs_rep t
    obtain ⟨a, us, e2, s, t2⟩ := (show Rep K B _ (.tuple [kD p.1, p.2]) from r).tup_inv
    subst e e2
    cases t2 with
    | cons r1 t3 =>
      cases t3 with
      | cons r2 t4 =>
        cases t4
        rw [kV_rep r1] at s
        exact ⟨a :: as, (p.1, _) :: kvs, rfl, .cons s h1, .cons ⟨rfl, r2⟩ h2⟩
theorem merge_rep {K : K0} {B : Hp} : ∀ {kvs : List (Key × V)} {ps : List (Key × D)} {acc : List (Key × V)} {accD : List (D × D)}, Paired (fun (kv : Key × V) (p : Key × D) => kv.1 = p.1 ∧ Rep K B kv.2 p.2) kvs ps → RepKV K B acc accD → RepKV K B (mergeK acc kvs) (mergeD accD ps)
  | _, _, _, _, .nil, r => r
  | _, _, _, _, .cons (a := kv) (b := p) h t, r => by
    show RepKV K B (mergeK (putK _ kv.1 kv.2) _) (mergeD (putD _ p.1 p.2) _)
    rw [h.1]
    exact merge_rep t (r.put h.2)
theorem Paired.mono {α β : Type} {F F' : α → β → Prop} (h : ∀ a b, F a b → F' a b) {l : List α} {m : List β} (p : Paired F l m) : Paired F' l m := L2.Paired.mapP p h
theorem pairs_of2 {pins : List (Addr × Obj)} {σ : L2.St} {H : Hp} {s : Shared} (I : Inv X pins σ H s) : ∀ {ps : List Addr} {kvs : List (Key × V)}, Paired (fun p kv => SqT X.K H p [kV kv.1, kv.2]) ps kvs →
    ∃ (vps : List (Value × Value)) (prs : List (Key × Value)), KV kvs prs ∧ prs.length = ps.length ∧ vps.length = ps.length ∧ ∀ (j : Nat) (q : Key × Value), prs[j]? = some q → ∃ (b : Addr) (u : Value), ps[j]? = some b ∧ vps[j]? = some (u, q.2) ∧ IsTup s.heap b #[u, q.2] ∧ keyIs q.1 u = true
  | _, _, .nil => ⟨[], [], .nil, rfl, rfl, fun j q e => by simp at e⟩
  | _, _, .cons (a := p) (b := kv) h t => by
    obtain ⟨vps, prs, r, hl, hl2, hp⟩ := pairs_of2 I t
    obtain ⟨its, rv, ht, _⟩ := I.tuple h
    obtain ⟨u, y, ei, ru, ry⟩ := vals2 rv
    subst ei
    refine ⟨(u, y) :: vps, (kv.1, y) :: prs, .cons ⟨rfl, ry⟩ r, by rw [List.length_cons, List.length_cons, hl], by rw [List.length_cons, List.length_cons, hl2], fun j q e => ?_⟩
    cases j with
    | zero =>
      have e' : (kv.1, y) = q := Option.some.inj e
      subst e'
      exact ⟨p, u, rfl, rfl, ht, kV_is (P := X.prog) (w := X.w) ru⟩
    | succ j =>
      obtain ⟨b, u', e1, e2, e3, e4⟩ := hp j q (by simpa using e)
      exact ⟨b, u', by simpa using e1, by simpa using e2, e3, e4⟩
theorem call_dictPT (hcalm : X.calm = true) : CallR X (.type "dict") (fun xs H Q => ∃ (a : Addr) (ps : List Addr) (kvs : List (Key × V)), xs = [.ref a] ∧ SqT X.K H a (ps.map V.ref) ∧ Pln H a ∧ Paired (fun p kv => SqT X.K H p [kV kv.1, kv.2]) ps kvs ∧
    ∀ p, H p = none → Q (.ref p) (upd H p (.dK (mergeK [] kvs)))) := by
  intro pins s σ H xs us Q I r q
  obtain ⟨a, ps, kvs, ex, hq, ⟨o, u, ho, hd⟩, hp, q⟩ := q
  subst ex
  obtain ⟨u', eu, rx⟩ := vals1 r
  subst eu
  cases rx
  obtain ⟨its, rv, pl, hz⟩ := I.tuple hq
  have ei := refs_at rv
  subst ei
  rw [List.length_map] at hz
  obtain ⟨vps, prs, rel, hl, hl2, hpr⟩ := pairs_of2 I hp
  obtain ⟨o', e1, e2, n, e3⟩ := pl
  have hob : s.heap.get? a = some o := (I.hok a _ ho).1
  rw [hob] at e1
  cases e1
  have hk : ∀ j k v, vps[j]? = some (k, v) → ∃ b key, ps[j]? = some b ∧ prs[j]? = some (key, v) ∧ IsTup s.heap b #[k, v] ∧ keyIs key k = true := fun j k v e => by
    have hj : j < prs.length := by rw [hl, ← hl2]; exact (List.getElem?_eq_some_iff.mp e).1
    obtain ⟨b, u2, q1, q2, q3, q4⟩ := hpr j prs[j] (List.getElem?_eq_getElem hj)
    rw [e] at q2
    have q2' := Option.some.inj q2
    have qa : k = u2 := congrArg Prod.fst q2'
    have qb : v = prs[j].2 := congrArg Prod.snd q2'
    exact ⟨b, prs[j].1, q1, by rw [List.getElem?_eq_getElem hj, qb], by rw [qa, qb]; exact q3, by rw [qa]; exact q4⟩
  refine PySem.call_dict_pairs (knd := mixKind X.prog X.w) (kvs := prs) (PairArg.tuple a (ps.map Value.ref).toArray (fun j => (ps[j]?).getD 0) vps) (I.ok.hd hcalm) ⟨⟨o, n, hob, e2, hd, e3⟩, by simp [hl2], fun j k v e => ?_⟩ ⟨by rw [hl, hl2], fun j k v e => ?_⟩ (by rw [hl2]; exact hz) fun h' tk hd' k => ?_
  · obtain ⟨b, key, q1, q2, q3, q4⟩ := hk j k v e
    refine ⟨by simp [q1], .inl ?_⟩
    show s.heap.IsTuple ((ps[j]?).getD 0) _
    rw [q1]; exact q3
  · obtain ⟨b, key, q1, q2, q3, q4⟩ := hk j k v e
    exact ⟨key, q2, q4⟩
  · have hm : (s.heap.objs.size == sysModules) = false := beq_eq_false_iff_ne.mpr (Nat.ne_of_gt I.big)
    have hlen : (mergeK [] kvs).length ≤ sizeLine := by
      refine Nat.le_trans (length_mergeK kvs []) ?_
      rw [List.length_nil, Nat.zero_add, rel.length, hl]
      exact hz
    exact ⟨.ref s.heap.objs.size, upd H s.heap.objs.size (.dK (mergeK [] kvs)), I.laid (t' := tk) (fun b o e => k b o (by simp) e) (Nat.le_refl _) (show ObjOk X.prog X.w _ _ _ (.dK (mergeK [] kvs)) from ⟨hlen, hm, merged [] prs, KV.merge rel .nil, hd'⟩), rfl, q _ (I.hok.fresh (Nat.le_refl _))⟩
theorem pln_pairs {B : Hp} {a : Addr} {ps : List (Key × D)} (h : TupP B a (ps.map pairD)) : Pln B a := by
  rcases h with h | ⟨d, m, e⟩
  · exact h
  · obtain ⟨p, _, rfl⟩ := List.mem_map.mp m
    simp [pairD, flatD] at e
theorem cDict (hc : X.calm = true) : CallR X (.type "dict") (rB X.K (f1s dictD)) := by
  intro pins s σ H xs us QV I rv ⟨B, fp, rs, Q, l, x, hf, hq⟩
  obtain ⟨a, e, sh, hg⟩ := f1s_inv hf
  clear hf
  subst e
  obtain ⟨v, e, hv⟩ := x.one_sh sh
  subst e
  generalize a.d = d at hv hg
  have fin : ∀ {kvs : List (Key × V)} {ds : List (D × D)} {p : Addr}, RepKV X.K B kvs ds → H p = none → Q (.t (.dic ds)) → QV (.ref p) (upd H p (.dK kvs)) := fun {kvs ds p} t np q =>
    hq _ _ B (.t _) (.make l np _) ⟨[p], .dic upd_same t, by simp, fun a m => by simp at m; subst m; exact ⟨np, l.none np⟩⟩ q
  cases d <;> first | exact (show False from hg).elim | skip
  · obtain ⟨p, vs, e, s', t⟩ := hv.list l
    subst e
    obtain ⟨ps, e, q⟩ := hg
    subst e
    obtain ⟨as, kvs, e, h1, h2⟩ := pairs_rep t
    subst e
    exact call_dictP hc pins s σ H _ us QV I rv ⟨p, as, kvs, rfl, s', L2.Paired.mapP h1 fun _ _ h => l.sqT h, fun p' np => fin (merge_rep h2 .nil) np q⟩
  · have hr := hv.tupRep
    obtain ⟨p, vs, e, s', t⟩ := hv.tup l
    subst e
    obtain ⟨ps, e, q⟩ := hg
    subst e
    obtain ⟨as, kvs, e, h1, h2⟩ := pairs_rep t
    subst e
    exact call_dictPT hc pins s σ H _ us QV I rv ⟨p, as, kvs, rfl, s', (pln_pairs hr.tup_p).mono l, L2.Paired.mapP h1 fun _ _ h => l.sqT h, fun p' np => fin (merge_rep h2 .nil) np q⟩
  · obtain ⟨p, kvs, e, s', t⟩ := hv.dict l
    subst e
    exact call_dictD pins s σ H _ us QV I rv ⟨p, kvs, rfl, s', fun p' np => fin t np hg⟩
/-! ### divmod -/
def divmodD : Op2
  | .int i, .int j, Q => CDivP i j ∧ Q (.v (.tuple [.int (i / j), .int (i % j)]))
  | _, _, _ => False
theorem divmodD_i (i j : Int) (Q : R → Prop) : divmodD (.int i) (.int j) Q = (CDivP i j ∧ Q (.v (.tuple [.int (i / j), .int (i % j)]))) := rfl
theorem cDivmod : CallR X (.builtin "divmod") (rB X.K (f2 divmodD)) := by
  intro pins s σ H xs us QV I rv ⟨B, fp, rs, Q, l, x, hf, hq⟩
  obtain ⟨a, b, e, hg⟩ := f2_inv hf
  clear hf
  subst e
  obtain ⟨v, u, e, hv, hu⟩ := x.two l
  subst e
  generalize a.d = d1 at hv hg
  generalize b.d = d2 at hu hg
  have key : ∃ i j, d1 = .int i ∧ d2 = .int j ∧ CDivP i j ∧ Q (.v (.tuple [.int (i / j), .int (i % j)])) := by
    cases d1 with
    | int i => cases d2 with
      | int j => exact ⟨i, j, rfl, rfl, hg⟩
      | _ => exact False.elim hg
    | _ => exact False.elim hg
  obtain ⟨i, j, e1, e2, hf⟩ := key
  subst e1 e2
  have e1 := hv.int_inv
  have e2 := hu.int_inv
  subst e1 e2
  exact call_divmodP pins s σ H _ us QV I rv ⟨_, _, rfl, hf.1, fun p o np ho => hq _ _ _ (.v _) (.put l np _) (newT_rep l np ho (.cons (.int _) (.cons (.int _) .nil))) hf.2⟩
end
/-! ### written dicts -/
abbrev WPs := Env → (List (R × R) → Prop) → (Str → Prop) → Prop
inductive PAll (K : K0) (B : Hp) : List (V × V) → List (R × R) → Prop
  | nil : PAll K B [] []
  | cons {x y : V} {r q : R} {ps : List (V × V)} {rs : List (R × R)} : Rep K B x r.d → Rep K B y q.d → PAll K B ps rs → PAll K B ((x, y) :: ps) ((r, q) :: rs)
theorem PAll.mono {K : K0} {B B' : Hp} (l : Le B B') : ∀ {ps : List (V × V)} {rs : List (R × R)}, PAll K B ps rs → PAll K B' ps rs
  | _, _, .nil => .nil
  | _, _, .cons a b t => .cons (a.mono l) (b.mono l) (PAll.mono l t)
def tDPs (X : Cx) (W : WX) (G : Hp) (m : WPs) (σ : L2.St) (H : Hp) (QV : List (V × V) → Hp → Prop) : Prop := ∃ B env fp Q E, RR X.K G B env fp σ H ∧ m env Q E ∧ (∀ ps H' B' rs, Ext H B H' B' → PAll X.K B' ps rs → Q rs → QV ps H') ∧ XOk X.mg W H σ E
def DPs (X : Cx) (W : WX) (G : Hp) (pos : Pos) (ks : List (Option Expr)) (vs : List Expr) (m : WPs) : Prop := ∃ trs, PPs X pos ks vs trs ∧ ∀ σ H QV, tDPs X W G m σ H QV → tPairs trs σ H QV
def wpN : WPs := fun _ Q _ => Q []
def wpC (a b : WE) (m : WPs) : WPs := fun env Q E => a env (fun x => x.st ∧ b env (fun y => y.st ∧ m env (fun rs => Q ((x, y) :: rs)) E) E) E
def wDic (m : WPs) : WE := fun env Q E => m env (fun rs => ∃ ps : List (Key × D), rs.map (fun p => (p.1.d, p.2.d)) = ps.map (fun p => (kD p.1, p.2)) ∧ ps.length ≤ 15 ∧ Q (.t (.dic (mergeD [] ps)))) E
section
variable {X : Cx} {W : WX} {G : Hp} {pos : Pos} {k v : Expr} {ks : List (Option Expr)} {vs : List Expr} {a b : WE} {m : WPs}
theorem dps_nil : DPs X W G pos [] [] wpN := ⟨_, pps_nil, fun σ H QV ⟨B, env, fp, Q, E, rr, hm, hq, hx⟩ => hq [] H B [] (.refl rr.bh) .nil hm⟩
theorem dps_cons (ha : DE X W G k a) (hb : DE X W G v b) (hr : DPs X W G pos ks vs m) : DPs X W G pos (some k :: ks) (v :: vs) (wpC a b m) := by
  obtain ⟨trs, h1, h2⟩ := hr
  refine ⟨_, pps_cons ha hb h1, fun σ H QV ⟨B, env, fp, Q, E, rr, hm, hq, hx⟩ => ?_⟩
  refine ⟨B, env, fp, _, E, rr, hm, fun x H1 B1 r e1 w1 ⟨s1, q1⟩ => ?_, hx⟩
  obtain ⟨B2, e2, l2, r2⟩ := w1.keep e1 s1
  refine ⟨B2, env, fp, _, E, rr.ext e2, q1, fun y H3 B3 q e3 w3 ⟨s3, q3⟩ => ?_, hx.later e1.same⟩
  obtain ⟨B4, e4, l4, r4⟩ := w3.keep e3 s3
  refine h2 _ _ _ ⟨B4, env, fp, _, E, (rr.ext e2).ext e4, q3, fun ps H5 B5 rs e5 p5 q5 => ?_, hx.later (e1.same.trans e4.same)⟩
  exact hq _ H5 B5 _ ((e2.trans e4).trans e5) (.cons (r2.mono (e4.le.trans e5.le)) (r4.mono e5.le) p5) q5
theorem pall_kvs {K : K0} {B : Hp} : ∀ {vs : List (V × V)} {rs : List (R × R)} {ps : List (Key × D)}, PAll K B vs rs → rs.map (fun p => (p.1.d, p.2.d)) = ps.map (fun p => (kD p.1, p.2)) →
    ∃ kvs : List (Key × V), vs = kvs.map (fun kv => (kV kv.1, kv.2)) ∧ kvs.length = ps.length ∧ Paired (fun (kv : Key × V) (p : Key × D) => kv.1 = p.1 ∧ Rep K B kv.2 p.2) kvs ps
  | _, _, [], .nil, _ => ⟨[], rfl, rfl, .nil⟩
  | _, _, p :: ps, .cons (x := x) (y := y) h1 h2 t, e => by
    simp only [List.map_cons, List.cons.injEq, Prod.mk.injEq] at e
    obtain ⟨kvs, e1, e2, e3⟩ := pall_kvs t e.2
    rw [e.1.1] at h1
    rw [e.1.2] at h2
    exact ⟨(p.1, y) :: kvs, by rw [List.map_cons, ← e1, kV_rep h1], by simp [e2], .cons ⟨rfl, h2⟩ e3⟩
theorem de_dic (h : DPs X W G pos (some k :: ks) (v :: vs) m) (hall : (some k :: ks).all (·.isSome) = true := by rfl) (hl : (some k :: ks).length = (v :: vs).length := by rfl) (h15 : (some k :: ks).length ≤ 15 := by decide) : DE X W G (.Dict (some k :: ks) (v :: vs) pos) (wDic m) := by
  obtain ⟨trs, h1, h2⟩ := h
  refine PEi (pe_disp h1 hall hl (fun z => by cases z) h15) fun σ H QV ⟨B, env, fp, Q, E, rr, hm, hq, hx⟩ p np => ?_
  have e0 : Ext H B (upd H p (.dK [])) B := .make rr.bh np _
  refine h2 _ _ _ ⟨B, env, fp, _, E, rr.ext e0, hm, fun ws H1 B1 rs e1 pa ⟨ps, ep, hz, q⟩ => ?_, hx.later e0.same⟩
  obtain ⟨kvs, e2, e3, e4⟩ := pall_kvs pa ep
  have hp1 := e1.same _ _ (show upd H p (.dK []) p = some (.dK []) from upd_same)
  have nb : B1 p = none := e1.new p _ upd_same (rr.bh.none np)
  refine ⟨hp1, kvs, e2, by omega, ?_⟩
  refine hq _ _ B1 (.t _) ⟨fun a o q => ?_, e1.le, fun a o q => ?_, fun a o q n => e1.new a o (upd_keep q (ne_of_none q np)) n⟩ ⟨[p], .dic upd_same (merge_rep e4 .nil), by simp, fun a m => by simp at m; subst m; exact ⟨np, nb⟩⟩ q
  · rw [upd_ne (ne_of_none q np)]; exact e1.same _ _ (upd_keep q (ne_of_none q np))
  · have : a ≠ p := fun z => by subst z; rw [nb] at q; cases q
    rw [upd_ne this]; exact e1.bh _ _ q
end
end DL

set_option Elab.async false
set_option linter.all false
set_option maxRecDepth 100000
set_option maxHeartbeats 1000000
/-! DL21: lists and texts turned about. -/
namespace DL
open PySem L2 PyProof.Rows
def revS (z : Str) : Str := ⟨z.cps.toList.reverse.toArray⟩
theorem revS_tS (l : List Nat) : revS (tS l) = tS l.reverse := by unfold revS; rw [tS_cps]; rfl
theorem filterMap_rev (c : List Nat) : ((List.range c.length).map fun k => c.length - 1 - k).filterMap (c.toArray[·]?) = c.reverse := by
  apply List.ext_getElem?
  intro i
  have e : ((List.range c.length).map fun k => c.length - 1 - k).filterMap (c.toArray[·]?) = (List.range c.length).map fun k => c.getD (c.length - 1 - k) 0 := by
    rw [filterMap_get c.toArray _ (by intro i hi; obtain ⟨k, hk, rfl⟩ := List.mem_map.mp hi; have := List.mem_range.mp hk; simp; omega), List.map_map]
    apply List.map_congr_left
    intro k _
    by_cases h : c.length - 1 - k < c.length <;> simp [Array.getD, List.getD, h]
  rw [e]
  by_cases h : i < c.length
  · rw [List.getElem?_map, List.getElem?_range h, List.getElem?_reverse h]
    simp [List.getD, show c.length - 1 - i < c.length by omega]
  · rw [List.getElem?_eq_none (by simp; omega), List.getElem?_eq_none (by simp; omega)]
theorem sliceMade_rev (z : Str) (t u : Tok) (hz : z.length ≤ sizeLine) {pins : List (Addr × Obj)} {X : Cx} {σ : L2.St} {H : Hp} {s : Shared} {Q : VK} (I : Inv X pins σ H s) (q : Q (.str (revS z)) H) :
    (sliceMade z t none none (some ((-1 : Int), u))).post (EP X pins σ Q) s := by
  have e : (Builtin.Str.strSliceIndices none none (-1) z.length).filterMap (z.cps[·]?) = z.cps.toList.reverse := by
    obtain ⟨⟨l⟩⟩ := z
    rw [picked_rev]
    exact filterMap_rev l
  show Made.post (if ((-1 : Int) == 1 && (Builtin.Str.strSliceIndices none none (-1) z.length).length == z.length) = true then Made.val (.str z t)
    else Made.str ⟨((Builtin.Str.strSliceIndices none none (-1) z.length).filterMap (z.cps[·]?)).toArray⟩) (EP X pins σ Q) s
  rw [if_neg (by simp), e]
  exact ⟨by show Array.size _ ≤ _; simp; exact hz, .str _, H, I.tok _, ⟨_, rfl⟩, q⟩
theorem cut_map {α β : Type} (f : α → β) (xs : List α) (lo hi : Option Int) : cut (xs.map f) lo hi = (cut xs lo hi).map f := by
  unfold cut
  rw [List.length_map, List.map_take, List.map_drop]
theorem cut_len {α : Type} (xs : List α) (lo hi : Option Int) : (cut xs lo hi).length ≤ xs.length := by
  unfold cut
  rw [List.length_take, List.length_drop]; omega
section
variable {X : Cx} {W : WX} {G : Hp} {e : Expr} {m : WE}
def tRevA (K : PySem.W.Frag) (te : TE) : TE := fun σ H Q => te σ H fun x H1 => (∃ a xs, x = .ref a ∧ SqL K H1 a xs ∧ ∀ p, H1 p = none → Q (.ref p) (upd H1 p (.lst xs.reverse))) ∨ ∃ z, x = .str z ∧ z.length ≤ sizeLine ∧ Q (.str (revS z)) H1
theorem pe_revA {te : TE} {k : Nat} {p1 p2 p3 pos : Pos} (he : PE X e te) : PE X (.Subscript e (.Slice none none (some (.UnaryOp .USub (.Constant (.int 1) k p1) p2)) p3) pos) (tRevA X.K te) := by
  refine ⟨fun pins s σ H Q I h => ?_⟩
  refine Subscript_ (thn (he.run pins s σ H _ I h) fun v s1 ⟨x, H1, I1, r1, q1⟩ => ?_)
  have hst : PO X (some (.UnaryOp .USub (.Constant (.int 1) k p1) p2)) (tPart (tUn (rU fun i => .int (-i)) (tC (.int 1)))) := po_some (pe_un un_neg pe_int)
  refine wpAny_Slice (thn (po_none.run pins s1 σ H1 (fun o H2 => o = none ∧ H2 = H1) I1 ⟨rfl, rfl⟩) fun vl s2 ⟨l, H2, I2, pl, el, e2⟩ => ?_)
  subst el e2
  refine thn (po_none.run pins s2 σ H2 (fun o H3 => o = none ∧ H3 = H2) I2 ⟨rfl, rfl⟩) fun vu s3 ⟨u, H3, I3, pu, eu, e3⟩ => ?_
  subst eu e3
  refine thn (hst.run pins s3 σ H3 (fun o H4 => o = some (-1) ∧ H4 = H3) I3 ⟨1, rfl, -1, rfl, rfl, rfl⟩) fun vs s4 ⟨o, H4, I4, ps, eo, e4⟩ => ?_
  subst eo e4
  have I5 : Inv X pins σ H4 { s4 with heap := s4.heap.push { cls := .type "slice", data := .fields #[vl, vu, vs] } } := I4.kept (t' := s4.toks) fun b ob q => Heap.get?_push_of_some _ q
  rcases q1 with ⟨a, xs, ex, hx, q⟩ | ⟨z, ex, hz, q⟩
  · subst ex
    cases r1
    obtain ⟨its, r, ht, hz⟩ := I5.list hx
    have hlen := r.length
    show wpAny (model X.prog X.w) X.A (subscriptTail e (.Slice none none (some (.UnaryOp .USub (.Constant (.int 1) k p1) p2)) p3) (.ref a) (.ref s4.heap.objs.size)) (EP X pins σ Q) X.xe { s4 with heap := s4.heap.push { cls := .type "slice", data := .fields #[vl, vu, vs] } }
    refine tail_any (ops := [.ref a, .ref s4.heap.objs.size]) ht.isList.typeIs (PySem.slot_list_getitem.lookup) ?_ (by with_unfolding_all rfl)
    refine wpAny_getItem_list_slice ht.isList (Heap.IsSliceOf.new _ vl vu vs) pl pu ps (by decide) ?_ (by rw [List.size_toArray]; omega)
    rw [PySem.W.krv_pick]
    refine ⟨.ref _, _, I5.laid (t' := s4.toks) (o := .lst xs.reverse) (fun b ob q => Heap.get?_push_of_some _ q) (Nat.le_refl _) ?_, rfl, q _ (I5.hok.fresh (Nat.le_refl _))⟩
    exact ⟨by rw [List.length_reverse]; exact hz, _, 0, r.reverse, Heap.get?_push_size _ rfl⟩
  · subst ex
    obtain ⟨t, rfl⟩ := r1
    obtain ⟨l, rfl, el⟩ := IsPart.raw pl
    obtain ⟨u, rfl, eu⟩ := IsPart.raw pu
    obtain ⟨st, rfl, es⟩ := IsPart.raw ps
    cases l with
    | some _ => simp at el
    | none =>
    cases u with
    | some _ => simp at eu
    | none =>
    cases st with
    | none => simp at es
    | some st =>
    obtain ⟨j, tj⟩ := st
    simp at es
    subst es
    show wpAny (model X.prog X.w) X.A (subscriptTail e (.Slice none none (some (.UnaryOp .USub (.Constant (.int 1) k p1) p2)) p3) (.str z t) (.ref s4.heap.objs.size)) (EP X pins σ Q) X.xe _
    refine tail_any (ops := [.str z t, .ref s4.heap.objs.size]) (typeIs_str _ _ _) (F.slot_str_getitem.lookup) ?_ (by with_unfolding_all rfl)
    obtain ⟨os, hos, hcs, hds⟩ := Heap.IsSliceOf.new s4.heap (partValue none) (partValue none) (partValue (some (-1, tj)))
    exact wpAny_getItem_str_slice (l := none) (u := none) (st := some (-1, tj)) ⟨os, hos, hcs, hds⟩ rfl (sliceMade_rev z t tj hz I5 q)
/-- x[::-1], x a list or a text -/
def revD : D → (R → Prop) → Prop
  | .list ds, Q => Q (.t (.lst ds.reverse))
  | .str z, Q => z.length ≤ sizeLine ∧ Q (.v (.str (revS z)))
  | _, _ => False
theorem revD_l (ds : List D) (Q : R → Prop) : revD (.list ds) Q = Q (.t (.lst ds.reverse)) := rfl
theorem revD_s (z : Str) (Q : R → Prop) : revD (.str z) Q = (z.length ≤ sizeLine ∧ Q (.v (.str (revS z)))) := rfl
def wRevA (t : WE) : WE := fun env Q E => t env (fun x => x.sh ∧ revD x.d Q) E
theorem de_revA {k : Nat} {p1 p2 p3 pos : Pos} (he : DE X W G e m) : DE X W G (.Subscript e (.Slice none none (some (.UnaryOp .USub (.Constant (.int 1) k p1) p2)) p3) pos) (wRevA m) := by
  refine PEi (pe_revA he) fun σ H QV ⟨B, env, fp, Q, E, rr, hm, hq, hx⟩ => ?_
  refine ⟨B, env, fp, _, E, rr, hm, fun v1 H1 B1 r1 e1 o1 ⟨s1, hf⟩ => ?_, hx⟩
  obtain ⟨B2, e2, l2, rv1⟩ := o1.view e1 s1
  generalize r1.d = d at rv1 hf
  cases d with
  | list ds =>
    obtain ⟨a, vs, ev, s, t⟩ := rv1.list e2.bh
    exact .inl ⟨a, vs, ev, s, fun p np => hq _ _ B2 (.t _) (e2.trans (.make e2.bh np _)) (VOk.back e2 (t_lst e2.bh np t.reverse)) hf⟩
  | str z => exact .inr ⟨z, rv1.str, hf.1, hq _ H1 B2 (.v _) e2 (.str _) hf.2⟩
  | _ => exact False.elim hf
end
end DL

set_option Elab.async false
set_option linter.all false
set_option maxRecDepth 100000
set_option maxHeartbeats 1000000
/-! DLX: comprehensions whose items may raise. -/
namespace DL
open PySem L2 PyProof.Rows
theorem noteFrame_of {e : Value} {env env' : PySem.Env} (h : env.frame = env'.frame) : noteFrame e env = noteFrame e env' := by
  unfold PySem.noteFrame PySem.frameOf
  rw [h]
section
variable {M : Model} {A : Around} {E : Value → Shared → Prop} {s : Shared} {env : PySem.Env}
/-- behind a comprehension's block -/
def compPostE (M : Model) (A : Around) (E : Value → Shared → Prop) (use : Option (Value → Sem Unit)) (Q : Value → Shared → Prop) (acc : Value) (cenv : PySem.Env) (r : Result) (s' : Shared) : Prop :=
  match r, use with
  | .ok _, none => ∃ m, s'.heap.Ns cenv.locals m ∧ ∀ h', Heap.SameBut cenv.locals s'.heap h' → Q acc { s' with heap := h' }
  | .ok _, some u => wpAny M A (u acc) (fun _ s'' => ∃ m, s''.heap.Ns cenv.locals m ∧ ∀ h', Heap.SameBut cenv.locals s''.heap h' → Q .none { s'' with heap := h' }) E s'
  | .error x, _ => ∃ m, s'.heap.Ns cenv.locals m ∧ ∀ h', Heap.SameBut cenv.locals s'.heap h' → ∀ env' : PySem.Env, env'.locals = cenv.locals → env'.frame = cenv.frame → wpAny M A (PySem.passOn "comprehension.variables-let-go" x env' : Sem Value) (fun _ _ => False) E { s' with heap := h' }
theorem comprehension_freeE {e : Expr} {scope : Scope} {pos : Pos} {newAcc first : Sem Value} {g : Comprehension} {gs : List Comprehension} {cl : List (Str × Addr)} {use : Option (Value → Sem Unit)} {Q : Value → Shared → Prop}
    (hcl : clausesOf e = g :: gs) (hs : ∀ x, foldedSetIterable g.iter env x = pure x) (hclos : closureFor scope env = pure cl)
    (hkind : scope.kind = .function) (hnames : ∀ x ∈ scope.names, x.2 = .local → scope.names.lookup x.1 = some .local)
    (h : wpAny M A first (fun x s₁ => wpAny M A (pyIter x) (fun it s₂ => wpAny M A newAcc (fun acc s₃ =>
      wpAny M A (newFunctionEnv scope env.globals cl [] env.qual none .none (some env)) (fun cenv s₄ =>
        codeAny M A (.compStart e 0 it acc { cenv with scope := relabel scope env }) (compPostE M A E use Q acc cenv) s₄) E s₃) E s₂) E s₁) E s) :
    wpAny M A (comprehension e scope env pos newAcc false first use) Q E s := by
  unfold comprehension
  rw [hclos, hcl]
  refine wpAny_bind (wpAny_mono h (fun x s₁ h₁ => wpAny_bind (wpAny_standAt (wpAny_bind (wpAny_of_eq (hs x) (wpAny_bind (wpAny_holding (wpAny_mono h₁ (fun it s₂ h₂ =>
    wpAny_standIf (wpAny_bind (wpAny_mono h₂ (fun acc s₃ h₃ => wpAny_bind (wpAny_pure (wpAny_bind (wpAny_mono h₃ (fun cenv s₄ h₄ => ?_) fun _ _ h' => h')))) fun _ _ h' => h')))
      fun _ _ h' => h'))))))) fun _ _ h' => h')
  dsimp only
  have hv : ∀ x ∈ (scope.names.filter fun x => (x.2 == .local || x.2 == .cell) && x.1 != (".0" : Str)).reverse, x.2 = .local →
      Env.kindOf { cenv with scope := relabel scope env } x.1 = some .local := fun x hx hl => lookup_relabel_local (hnames x (List.mem_filter.mp (List.mem_reverse.mp hx)).1 hl)
  have hv' : ∀ x ∈ (scope.names.filter fun x => (x.2 == .local || x.2 == .cell) && x.1 != (".0" : Str)).reverse.drop 1 ++ (scope.names.filter fun x => (x.2 == .local || x.2 == .cell) && x.1 != (".0" : Str)).reverse.take 1,
      x.2 = .local → Env.kindOf { cenv with scope := relabel scope env } x.1 = some .local := fun x hx hl => by
    rcases List.mem_append.mp hx with h1 | h1
    · exact hv x (List.mem_of_mem_drop h1) hl
    · exact hv x (List.mem_of_mem_take h1) hl
  refine wpAny_holding (wpAny_bind (wpAny_attempt (wpAny_holding (wpAny_run (codeAny_mono h₄ fun r s' hr => ?_)))))
  cases r with
  | ok f =>
    cases use with
    | none =>
      obtain ⟨m, hn, hr⟩ := hr
      exact wpAny_bind (wpAny_holding (wpAny_comp_letGo (cenv := { cenv with scope := relabel scope env }) hkind _ s' m hv hn fun h' m' _ hs' => wpAny_pure (hr h' hs')))
    | some u =>
      refine wpAny_bind (wpAny_rule (wpAny_bind (wpAny_holding (wpAny_mono hr (fun _ s'' hr' => ?_) fun _ _ h' => h'))))
      obtain ⟨m, hn, hr'⟩ := hr'
      exact wpAny_bind (wpAny_comp_letGo (cenv := { cenv with scope := relabel scope env }) hkind _ s'' m hv' hn fun h' m' _ hs' => wpAny_pure (hr' h' hs'))
  | error x =>
    have hr' : ∃ m, s'.heap.Ns cenv.locals m ∧ ∀ h', Heap.SameBut cenv.locals s'.heap h' → ∀ env' : PySem.Env, env'.locals = cenv.locals → env'.frame = cenv.frame → wpAny M A (PySem.passOn "comprehension.variables-let-go" x env' : Sem Value) (fun _ _ => False) E { s' with heap := h' } := by cases use <;> exact hr
    obtain ⟨m, hn, hr⟩ := hr'
    exact wpAny_bind (wpAny_holding (wpAny_comp_letGo (cenv := { cenv with scope := relabel scope env }) hkind _ s' m hv hn fun h' m' _ hs' => wpAny_mono (hr h' hs' _ rfl rfl) (fun _ _ f => f.elim) fun _ _ y => y))
end
theorem funFrames_move {base base' h h' : Heap} : ∀ {l : List PySem.Env}, h.FunFrames base l → (∀ L ∈ frs l, base.get? L = none → base'.get? L = none ∧ h'.get? L = h.get? L) → h'.FunFrames base' l
  | [], _, _ => trivial
  | env :: l, ⟨hk, ⟨L, o, hf, hb, ho, hd⟩, hr⟩, q => by
    obtain ⟨q1, q2⟩ := q L (List.mem_filterMap.mpr ⟨env, List.mem_cons_self, hf⟩) hb
    exact ⟨hk, ⟨L, o, hf, q1, q2.trans ho, hd⟩, funFrames_move hr fun b hb => by
      obtain ⟨e, he, z⟩ := List.mem_filterMap.mp hb
      exact q b (List.mem_filterMap.mpr ⟨e, List.mem_cons_of_mem _ he, z⟩)⟩
theorem frames_none {base h : Heap} : ∀ {l : List PySem.Env}, h.FunFrames base l → ∀ L ∈ frs l, base.get? L = none ∧ ∃ o, h.get? L = some o
  | [], _, L, m => by simp [frs] at m
  | env :: l, ⟨hk, ⟨L', o, hf, hb, ho, hd⟩, hr⟩, L, m => by
    unfold frs at m
    rw [List.filterMap_cons, hf] at m
    rcases List.mem_cons.mp m with e | m
    · subst e; exact ⟨hb, o, ho⟩
    · exact frames_none hr L m
/-- .. as it is told, with the exception in flight -/
theorem of_call2 {X : Cx} {pins : List (Addr × Obj)} {σ : L2.St} {H : Hp} {s s' : Shared} {E : XK} (I : Inv X pins σ H s) {u : Value} (c : L2.CX X.prog X.w X.stack H s E u s') :
    ∃ (a : Addr) (B : Heap) (sI : Shared) (H' : Hp) (cls : Value) (d : Option Addr), u = .ref a ∧ Inv X pins σ H' sI ∧ (∀ b o, sI.heap.get? b = some o → b ∉ frs X.stack → B.get? b = some o) ∧ sI.heap.UpToSlots s'.heap ∧ HandSPX.FlyingZ B X.stack a (Zc cls d) s'.heap ∧ H' a = none ∧ s'.os = sI.os ∧ AllBare s'.gens ∧ E cls d H' := by
  obtain ⟨a, B, H', cls, d, rfl, fl, hok, ub, na, os, ag, hE⟩ := c
  obtain ⟨G, g1, g2⟩ := restrict s'.heap fun b => (B.get? b).isSome || decide (b ∈ frs X.stack)
  have st : B.StaysIn s'.heap := fl.1
  have gB : ∀ b o, B.get? b = some o → G.get? b = some o := fun b o e => by
    rw [g1 b (by simp [e])]
    exact st b o e
  have gF : ∀ b, b ∈ frs X.stack → G.get? b = s'.heap.get? b := fun b hb => g1 b (by simp [hb])
  have og : ∀ b o, G.get? b = some o → s'.heap.get? b = some o ∧ ((B.get? b).isSome = true ∨ b ∈ frs X.stack) := fun b o e => by
    cases q : ((B.get? b).isSome || decide (b ∈ frs X.stack)) with
    | false => rw [g2 b q] at e; cases e
    | true =>
      rw [g1 b q] at e
      exact ⟨e, by simpa [Bool.or_eq_true] using q⟩
  refine ⟨a, B, { s with heap := G, gens := s'.gens, drawn := s'.drawn, toks := s'.toks }, H', cls, d, rfl, ?_, fun b o e hb => ?_, Heap.UpToSlots.of_keeps fun b o e => (og b o e).1, fl, na, os, ag, hE⟩
  · refine I.call (ch := []) ⟨fun b o e n hb _ => gB b o (ub.keep b o e n hb), fun b o e n hb _ => ?_, fun b o e n _ => ub.free b o e n, fun b o e _ => ?_, ub.tups, ub.frzs, ub.tbls⟩ (hok.kept gB) ag (fun _ z => nomatch z)
    · obtain ⟨sl, q⟩ := ub.slot b o e hb
      exact ⟨sl, by rw [gF b hb]; exact q⟩
    · by_cases hb : b ∈ frs X.stack
      · obtain ⟨sl, q⟩ := ub.slot b o e hb
        exact ⟨_, by rw [gF b hb]; exact q⟩
      · obtain ⟨o', q⟩ := ub.there b o e hb
        exact ⟨o', gB b o' q⟩
  · obtain ⟨e', h⟩ := og b o e
    rcases h with h | h
    · obtain ⟨o', q⟩ := Option.isSome_iff_exists.mp h
      have z := st b o' q
      rw [e'] at z; cases z
      exact q
    · exact absurd h hb
section
variable {X : Cx} {W : WX}
/-- the block's context, with a wish about what is raised -/
abbrev BkE (X : Cx) (scope : Scope) (s : Shared) (H : Hp) (cenv : PySem.Env) (fp : List Addr) (xe : Value → Shared → Prop) : Cx := (X.blk s H scope cenv fp).tr [] xe
/-- an item's exception leaves the block -/
theorem comp_exc {pins : List (Addr × Obj)} {σ : L2.St} {H3 : Hp} {s3 : Shared} {use : Option (Value → Sem Unit)} {Qf : Value → Shared → Prop} {acc : Value} {scope : Scope} {ce ce2 : PySem.Env} {fp : List Addr} {xe : Value → Shared → Prop}
    (hs : X.stack = X.env :: X.outer) (hf : X.env.frame = some X.env.locals) (tk : Takes X W) (I3 : Inv X pins σ H3 s3) (f3 : ∀ b ∈ fp, FpOk X pins H3 b) (ceL : ce.locals = s3.heap.objs.size) (ceF : ce.frame = X.env.frame) (e2L : ce2.locals = ce.locals) (e2F : ce2.frame = ce.frame)
    {pins' : List (Addr × Obj)} {σ' : L2.St} {Hc : Hp} {sc : Shared} {u : Value} {s' : Shared} {E : XK} (I : Inv (BkE X scope s3 H3 ce fp xe) pins' σ' Hc sc) (c : L2.CX X.prog X.w X.stack Hc sc E u s') (hW : ∀ cls d H', E cls d H' → W cls d σ H') :
    notedBy (model X.prog X.w) X.A ce (fun e s' => compPostE (model X.prog X.w) X.A X.xe use Qf acc ce2 (.error e) s') u s' := by
  obtain ⟨a, B, sI, H', cls, d, rfl, I2, nb, up, fl, na, os, ag, w⟩ := of_call2 (X := BkE X scope s3 H3 ce fp xe) I c
  have nb : ∀ b o, sI.heap.get? b = some o → b ∉ frs X.stack → B.get? b = some o := nb
  have fl : HandSPX.FlyingZ B X.stack a (Zc cls d) s'.heap := fl
  have hfr : X.A.frames = some (X.env :: X.outer) := by rw [I3.ok.frames, hs]
  -- back in the def's context
  have IX : Inv X pins σ H' sI := I3.call' (ch := fp) I2.os I2.base I2.hok I2.bare fun b hb => ⟨(f3 b hb).2.2.2.1, (f3 b hb).2.1, (f3 b hb).2.2.2.2.1, (f3 b hb).2.2.2.2.2⟩
  obtain ⟨m, hn, _⟩ := I2.loc
  have hn : sI.heap.Ns ce.locals m := hn
  have nC : H' ce.locals = none := I2.free
  have fC : FpOk X pins H' ce.locals := by rw [ceL] at nC ⊢; exact I3.fpOk (Nat.le_refl _) nC
  obtain ⟨oC, esC, epC, hoC, rC⟩ := hn
  have cf : ce.locals ∉ frs X.stack := fun hm => by
    obtain ⟨_, o, e, _⟩ := I3.stack.mem hm
    have := Heap.lt_size e
    rw [ceL] at this
    exact Nat.lt_irrefl _ this
  have bC : B.get? ce.locals = some oC := nb _ _ hoC cf
  show wpAny _ X.A (noteFrame (.ref a) ce) _ _ s'
  rw [noteFrame_of ceF]
  rw [hs] at fl
  refine HandSPX.looks_onZ Zc.steady hfr hf fl fun h1 hh1 up1 => ?_
  rw [← hs] at hh1
  obtain ⟨k1, k2, k3, k4⟩ := hh1
  refine ⟨m, ⟨oC, esC, epC, by rw [e2L]; exact k1 _ _ bC, rC⟩, fun h2 sb env' eL eF => ?_⟩
  rw [e2L] at sb
  obtain ⟨oe, vs, T, oT, ts, he, hz, hd, h1v, hnT, hTe, hT, hdT, h3⟩ := k4
  have aC : a ≠ ce.locals := fun z => by rw [z, bC] at k2; cases k2
  have TC : T ≠ ce.locals := fun z => by rw [z, bC] at hnT; cases hnT
  have same : ∀ b o, b ≠ ce.locals → h1.get? b = some o → h2.get? b = some o := fun b o n e => (sb.2 b n).trans e
  have bh : ∀ b, B.get? b = none → (PySem.W.hideAll B [ce.locals]).get? b = none := fun b e => by
    cases q : (PySem.W.hideAll B [ce.locals]).get? b with
    | none => rfl
    | some o => have z := PySem.W.of_hideAll _ q; rw [e] at z; cases z
  have bk : ∀ b o, (PySem.W.hideAll B [ce.locals]).get? b = some o → b ≠ ce.locals ∧ B.get? b = some o := fun b o e => by
    refine ⟨fun z => ?_, PySem.W.of_hideAll _ e⟩
    rw [z, PySem.W.hideAll_none _ (by simp)] at e; cases e
  have held : HandSPX.HeldZ (PySem.W.hideAll B [ce.locals]) X.stack a (Zc cls d) X.env.locals h2 := by
    refine ⟨fun b o e => same b o (bk b o e).1 (k1 b o (bk b o e).2), bh a k2, funFrames_move k3 fun L hL hb => ⟨bh L hb, ?_⟩, oe, vs, T, oT, ts, same _ _ aC he, hz, hd, h1v, bh T hnT, hTe, same _ _ TC hT, hdT, h3⟩
    exact sb.2 L fun z => cf (z ▸ hL)
  unfold PySem.passOn
  refine wpAny_bind (wpAny_field (same _ _ aC he) hd h1v ?_)
  rw [if_neg (show ¬ ((Value.ref T == Value.none) = true) from by simp)]
  have fin : wpAny (model X.prog X.w) X.A (setFlight (.ref a) env'.frame) (fun _ s4 => wpAny (model X.prog X.w) X.A (throw (.ref a) : Sem Value) (fun _ _ => False) X.xe s4) X.xe { s' with heap := h2 } := by
    rw [eF, e2F, ceF, hf]
    refine HandSPX.setFlight_onZ held fun h4 hh4 up4 => wpAny_throw (tk _ _ ?_)
    refine ⟨a, PySem.W.hideAll B [ce.locals], { sI with heap := PySem.W.hideAll sI.heap [ce.locals] }, pins, σ, H', cls, d, rfl, ?_, fun b o e hb => ?_, fun b o e hnf => ?_, .inr (.inr hh4), na, os, ag, hW _ _ _ w⟩
    · exact IX.turned (t' := sI.toks) (fun b o hb e => PySem.W.hideAll_get _ e (by simpa using hb)) fC.1 fC.2.1.symm.symm fC.2.2.2.1 fC.2.2.2.2.1 fC.2.2.2.2.2
    · have e' := PySem.W.of_hideAll _ e
      have nc : b ≠ ce.locals := fun z => by rw [z, PySem.W.hideAll_none _ (by simp)] at e; cases e
      exact PySem.W.hideAll_get _ (nb b o e' hb) (by simpa using nc)
    · have e' := PySem.W.of_hideAll _ e
      have nc : b ≠ ce.locals := fun z => by rw [z, PySem.W.hideAll_none _ (by simp)] at e; cases e
      obtain ⟨sl, q⟩ := (up.trans up1) b o e' hnf
      obtain ⟨sl2, q2⟩ := up4 b _ (same b _ nc q) hnf
      exact ⟨sl2, q2⟩
  first
    | exact wpAny_bind (wpAny_pure (wpAny_bind fin))
    | exact wpAny_bind fin
end
end DL

set_option Elab.async false
set_option linter.all false
set_option maxRecDepth 100000
set_option maxHeartbeats 2000000
/-! DLY: comprehensions whose items may raise: the rules. -/
namespace DL
open PySem L2 PyProof.Rows
section
variable {X : Cx} {W : WX}
/-- a comprehension whose items may raise; the wish stands with the def's slots -/
def tLcE (wi : TI) (g : TG) (tt : TT) (te : L2.St → TE) (vs : List Nat) : TE := fun σ H Q => wi σ H fun J H1 => ∀ D, H1 D = none → ∃ W : Nat → Nat → Hp → Prop, (∃ m, W 0 m (upd H1 D (.lst []))) ∧ ∀ i m H, W i m H →
  (J.stop i H ∧ Q (.ref D) H) ∨ (J.go i H ∧ ∃ Nx : Hp → Prop, (∀ H', Nx H' → ∃ m', m' < m ∧ W (i + 1) m' H') ∧ ∀ x H', J.yld i H x H' → g x (wipe σ vs) H' fun σ2 H2 => wipe σ2 vs = wipe σ vs ∧ tt σ2 H2 fun b H3 =>
    if b = true then te σ σ2 H3 fun y H4 => ∃ acc, H4 D = some (.lst acc) ∧ acc.length < sizeLine ∧ Nx (upd H4 D (.lst (acc ++ [y]))) else Nx H3)
theorem inv_to {pins : List (Addr × Obj)} {σ : L2.St} {H : Hp} {s : Shared} {xe : Value → Shared → Prop} (hp : X.pn = []) (I : Inv X pins σ H s) : Inv (X.tr [] xe) pins σ H s :=
  ⟨I.ok.toTry [] xe, I.os, I.bare, I.base, I.loc, I.cell, I.free, I.freeC, by have := I.pin; rw [hp] at this; exact this, I.hok, I.len⟩
theorem inv_of {pins : List (Addr × Obj)} {σ : L2.St} {H : Hp} {s : Shared} {xe : Value → Shared → Prop} (hp : X.pn = []) (I : Inv (X.tr [] xe) pins σ H s) : Inv X pins σ H s :=
  ⟨I.ok.ofTry, I.os, I.bare, I.base, I.loc, I.cell, I.free, I.freeC, by have := I.pin; rw [hp]; exact this, I.hok, I.len⟩
/-- what a block's calls may let out -/
abbrev PassE (X : Cx) (W : WX) : Prop := ∀ σ', PassesAt (L2.CX X.prog X.w) X σ' (L2.WE W σ')
theorem lc_coreE {pins : List (Addr × Obj)} {s : Shared} {σ : L2.St} {H : Hp} {Q : VK} {elt tg iter : Expr} {ifs : List Expr} {scope : Scope} {own : List (Str × Nat)} {pos pos' : Pos} {wi : TI} {g : TG} {tt : TT} {te : L2.St → TE} {use : Option (Value → Sem Unit)} {Qf : Value → Shared → Prop}
    (hstk : X.stack = X.env :: X.outer) (hfrm : X.env.frame = some X.env.locals) (tk : Takes X W)
    (hc : X.calm = true) (hN : X.N.Nodup) (I : Inv X pins σ H s) (hi : PI X tg iter wi) (ok : BlkOk X.N X.env.scope scope own)
    (hg : ∀ (s : Shared) (H : Hp) (C : Addr) (cl : List (Str × Addr)) (fp : List Addr), PG (X.blk s H scope (compEnvC scope cl C X.env) fp) tg g) (ht : ∀ (s : Shared) (H : Hp) (C : Addr) (cl : List (Str × Addr)) (fp : List Addr), PTs (X.blk s H scope (compEnvC scope cl C X.env) fp) ifs tt)
    (he : ∀ (s : Shared) (H : Hp) (C : Addr) (cl : List (Str × Addr)) (fp : List Addr) (xe : Value → Shared → Prop), PassE (BkE X scope s H (compEnvC scope cl C X.env) fp xe) (fun cls d _ H => W cls d σ H) → PE (BkE X scope s H (compEnvC scope cl C X.env) fp xe) elt (te σ)) (hs : ∀ x, foldedSetIterable iter X.env x = pure x)
    (h : tLcE wi g tt te (own.map (·.2)) σ H Q)
    (hRR : ∀ D C s' m H', Inv X pins σ H' s' → Q (.ref D) H' → s'.heap.Ns C m → FpOk X pins H' C → ∀ ce : PySem.Env, ce.locals = C → compPostE (model X.prog X.w) X.A X.xe use Qf (.ref D) ce (.ok .next) s') :
    wpAny (model X.prog X.w) X.A (comprehension (.ListComp elt [⟨tg, iter, ifs, 0⟩] scope pos) scope X.env pos' (newList []) false (eval iter X.env) use) Qf X.xe s := by
  have hfree : ∀ y ∈ scope.names, y.2 = .free → ∃ c, X.env.cells.lookup y.1 = some c := fun y hy e => by
    rcases ok.free y hy e with k | k
    · exact I.ok.has _ (.inl k)
    · exact I.ok.has _ (.inr k)
  refine comprehension_freeE (use := use) rfl hs (closure_ok hfree) ok.kind (fun y hy e => by rw [ok.uniq y hy, e])
    (thn (hi.run pins s σ H _ I h) fun xv s1 hx => thn hx fun itv s2 h2 => ?_)
  obtain ⟨it, fp, tn, J, H2, e, I2, T, st2, f2, q⟩ := h2
  subst e
  refine wpAny_newObj_type (newEnv_comp ?_) (by show 0 ≤ sizeLine; decide)
  generalize hD : s2.heap.objs.size = D
  have hDn : H2 D = none := I2.hok.fresh (Nat.le_of_eq hD)
  obtain ⟨W', ⟨m0, w0⟩, turn⟩ := q D hDn
  generalize hs3 : ({ s2 with heap := s2.heap.push { cls := .type "list", data := .seq ([] : List Value).toArray } } : Shared) = s3
  have I3 : Inv X pins σ (upd H2 D (.lst [])) s3 := by
    rw [← hs3]
    refine I2.laid (t' := s2.toks) (fun b o e => Heap.get?_push_of_some _ e) (Nat.le_of_eq hD) ⟨Nat.zero_le _, [], 0, .nil, ?_⟩
    rw [← hD]
    exact Heap.get?_push_size _ rfl
  have h3 : s3.heap = s2.heap.push { cls := .type "list", data := .seq ([] : List Value).toArray } := by rw [← hs3]
  have sz : ∀ b ∈ fp, b < s2.heap.objs.size := fun b hb => by
    obtain ⟨o, e, _⟩ := T.obj _ _ st2 b hb
    exact Heap.lt_size e
  have f3 : ∀ b ∈ fp, FpOk X pins (upd H2 D (.lst [])) b ∧ b < s3.heap.objs.size := fun b hb => by
    have hlt := sz b hb
    refine ⟨⟨?_, (f2 b hb).2⟩, by rw [h3, Heap.size_push]; exact Nat.lt_succ_of_lt hlt⟩
    rw [upd_ne (by rw [← hD]; exact Nat.ne_of_lt hlt)]
    exact (f2 b hb).1
  have st3 : tn 0 s3.heap := T.keep _ _ _ st2 fun b _ o e => by rw [h3]; exact Heap.get?_push_of_some _ e
  have I4 := block_start I3 ok hN f3
  have pg := hg s3 (upd H2 D (.lst [])) s3.heap.objs.size (cellsFrom (s3.heap.objs.size + 1) scope.names (cloFrom X.env.cells scope.names [])) fp
  have pt := ht s3 (upd H2 D (.lst [])) s3.heap.objs.size (cellsFrom (s3.heap.objs.size + 1) scope.names (cloFrom X.env.cells scope.names [])) fp
  have pe := he s3 (upd H2 D (.lst [])) s3.heap.objs.size (cellsFrom (s3.heap.objs.size + 1) scope.names (cloFrom X.env.cells scope.names [])) fp
  have nfp : ∀ b ∈ fp, (upd H2 D (.lst [])) b = none := fun b hb => (f3 b hb).1.1
  show codeAny _ _ (.compStart (.ListComp elt [⟨tg, iter, ifs, 0⟩] scope pos) 0 (.ref it) (.ref D) (compEnvC scope (cellsFrom (s3.heap.objs.size + 1) scope.names (cloFrom X.env.cells scope.names [])) s3.heap.objs.size X.env)) (compPostE (model X.prog X.w) X.A X.xe use Qf (.ref D) _) { s3 with heap := pushCells (s3.heap.push { cls := .type "dict", data := .dict #[] }) scope.names }
  generalize hce2 : newEnv scope s3.heap.objs.size X.env.globals (cellsFrom (s3.heap.objs.size + 1) scope.names (cloFrom X.env.cells scope.names [])) X.env.qual none Value.none (some X.env) _ = ce2
  have e2L : ce2.locals = s3.heap.objs.size := by rw [← hce2]; rfl
  have e2F : ce2.frame = X.env.frame := by rw [← hce2]; rfl
  generalize hce : compEnvC scope (cellsFrom (s3.heap.objs.size + 1) scope.names (cloFrom X.env.cells scope.names [])) s3.heap.objs.size X.env = ce at I4 pg pt pe ⊢
  have cL : ce.locals = s3.heap.objs.size := by subst hce; rfl
  have cF : ce.frame = X.env.frame := by subst hce; rfl
  generalize hH3 : upd H2 D (.lst []) = H3 at I3 I4 pg pt pe w0 nfp f3
  generalize hs4 : ({ s3 with heap := pushCells (s3.heap.push { cls := .type "dict", data := .dict #[] }) scope.names } : Shared) = s4 at I4 ⊢
  have st4 : tn 0 s4.heap := T.keep _ _ _ st3 fun b _ o e => by rw [← hs4]; exact pushCells_keeps _ _ _ _ (Heap.get?_push_of_some _ e)
  have stat : ∀ {σ' : L2.St} {H' : Hp} {s' : Shared}, Inv (X.blk s3 H3 scope ce fp) [] σ' H' s' → (∀ b ∈ fp, H' b = none) → ∀ b ∈ fp, FpOk (X.blk s3 H3 scope ce fp) [] H' b := fun {σ' H' s'} I' hn b hb =>
    ⟨hn b hb, (I'.ok.exf b hb).1, I'.ok.exfs b hb, .inl hb, fun x c e => (I'.ok.exf b hb).2 x c e, fun p hp => absurd (show p ∈ ([] : List (Addr × Obj)) ++ [] from hp) (by simp)⟩
  -- what an item may raise
  generalize hxe : (notedBy (model X.prog X.w) X.A ce fun e s' => compPostE (model X.prog X.w) X.A X.xe use Qf (.ref D) ce2 (.error e) s') = xe
  have pe := pe xe fun σ' pins' Hc sc u s' I' c => by
    rw [← hxe]
    exact comp_exc hstk hfrm tk I3 (fun b hb => (f3 b hb).1) cL cF (e2L.trans cL.symm) (e2F.trans cF.symm) (xe := xe) I' c fun _ _ _ h => h
  have loop : codeAny (model X.prog X.w) X.A (.compLoop (.ListComp elt [⟨tg, iter, ifs, 0⟩] scope pos) 0 (.ref it) (.ref D) ce) (compPostE (model X.prog X.w) X.A X.xe use Qf (.ref D) ce2) s4 := by
    refine compLoop_any (fun n s' => ∃ i H', Inv (X.blk s3 H3 scope ce fp) [] (wipe σ (own.map (·.2))) H' s' ∧ tn i s'.heap ∧ (∀ b ∈ fp, H' b = none) ∧ W' i n H') ?_ m0 ⟨0, H3, I4, st4, nfp, w0⟩
    rintro n s5 ⟨i, H5, I5, st5, n5, w5⟩
    rcases turn i n H5 w5 with ⟨stop, qq⟩ | ⟨go, Nx, hNx, step⟩
    · have td := T.done (X.blk s3 H3 scope ce fp) rfl rfl rfl hc i [] s5 _ H5 (fun _ _ => False) I5 (stat I5 n5) st5 stop
      refine thnF td fun r s6 ⟨hr, I6⟩ => ?_
      subst hr
      have I7 : Inv X pins σ H5 s6 := I3.call' (ch := fp) I6.os I6.base I6.hok I6.bare fun b hb => ⟨(f3 b hb).1.2.2.2.1, (f3 b hb).1.2.1, (f3 b hb).1.2.2.2.2.1, (f3 b hb).1.2.2.2.2.2⟩
      have nC : H5 s3.heap.objs.size = none := by
        have z : H5 ce.locals = none := I6.free
        rw [cL] at z
        exact z
      obtain ⟨m, hn, _⟩ := I6.loc
      have hn : s6.heap.Ns ce.locals m := hn
      rw [cL] at hn
      exact hRR D s3.heap.objs.size s6 m H5 I7 qq hn (I3.fpOk (Nat.le_refl _) nC) ce2 e2L
    · have ti := T.item (X.blk s3 H3 scope ce fp) rfl rfl rfl hc i [] s5 _ H5 (fun _ _ => False) I5 (stat I5 n5) st5 go
      refine thnF ti fun r s6 ⟨u, hr, h6⟩ => ?_
      subst hr
      refine thnF h6 fun _ s7 ⟨x, H7, I7, r7, y7, st7, n7⟩ => ?_
      have I7' := I7.pinned (stat I7 n7) (T.obj _ _ st7)
      refine thnF (pg.run _ s7 _ H7 x u _ I7' r7 (step x H7 y7)) fun _ s8 ⟨σ8, H8, I8, hw8, q8⟩ => ?_
      refine thnF (pt.run _ s8 σ8 H8 _ I8 q8) fun b s9 ⟨H9, I9, q9⟩ => ?_
      have fin : ∀ {s' : Shared} {H' : Hp}, Inv (X.blk s3 H3 scope ce fp) ([] ++ pinsAt fp s7.heap) σ8 H' s' → Nx H' → ∃ m, m < n ∧ ∃ i H', Inv (X.blk s3 H3 scope ce fp) [] (wipe σ (own.map (·.2))) H' s' ∧ tn i s'.heap ∧ (∀ b ∈ fp, H' b = none) ∧ W' i m H' := fun {s' H'} I' nx => by
        obtain ⟨m', hm, w'⟩ := hNx H' nx
        have pin' : ∀ b ∈ fp, ∀ o, s7.heap.get? b = some o → s'.heap.get? b = some o ∧ H' b = none := fun b hb o e =>
          let z := I'.pin (b, o) (List.mem_append_right _ (List.mem_append_right _ (mem_pinsAt hb e)))
          ⟨z.1, z.2.1⟩
        have hl : (wipe σ (own.map (·.2))).length = σ8.length := by rw [← hw8, wipe_length]
        refine ⟨m', hm, i + 1, H', (I'.unpinned (pins := [])).weak hl (fun j v e => ?_), T.keep _ _ _ st7 fun b hb o e => (pin' b hb o e).1, fun b hb => ?_, w'⟩
        · rw [← hw8] at e
          exact (wipe_some e).1
        · obtain ⟨o, e, _⟩ := T.obj _ _ st7 b hb
          exact (pin' b hb o e).2
      cases b with
      | false =>
        simp only [Bool.false_eq_true, if_false] at q9 ⊢
        exact fin I9 q9
      | true =>
        simp only [if_true] at q9 ⊢
        rw [hxe]
        refine wpAny_mono (pe.run _ s9 σ8 H9 _ (inv_to rfl I9) q9) (fun z s10 ⟨yv, H10, I10, r10, acc, hD10, hz10, nx⟩ => ?_) fun _ _ z => z
        have I10 := inv_of (X := X.blk s3 H3 scope ce fp) rfl I10
        exact app_ok (X := X.blk s3 H3 scope ce fp) I10 hD10 hz10 r10 fun s11 I11 => fin I11 nx
  exact codeAny_compStart_list loop (T.self X.A 0 _ _ _ st4 loop)
theorem pe_lcE {elt tg iter : Expr} {ifs : List Expr} {scope : Scope} {own : List (Str × Nat)} {pos : Pos} {wi : TI} {g : TG} {tt : TT} {te : L2.St → TE}
    (hstk : X.stack = X.env :: X.outer) (hfrm : X.env.frame = some X.env.locals) (tk : Takes X W) (hc : X.calm = true) (hN : X.N.Nodup) (hi : PI X tg iter wi) (ok : BlkOk X.N X.env.scope scope own)
    (hg : ∀ (s : Shared) (H : Hp) (C : Addr) (cl : List (Str × Addr)) (fp : List Addr), PG (X.blk s H scope (compEnvC scope cl C X.env) fp) tg g) (ht : ∀ (s : Shared) (H : Hp) (C : Addr) (cl : List (Str × Addr)) (fp : List Addr), PTs (X.blk s H scope (compEnvC scope cl C X.env) fp) ifs tt)
    (he : ∀ (σ : L2.St) (s : Shared) (H : Hp) (C : Addr) (cl : List (Str × Addr)) (fp : List Addr) (xe : Value → Shared → Prop), PassE (BkE X scope s H (compEnvC scope cl C X.env) fp xe) (fun cls d _ H => W cls d σ H) → PE (BkE X scope s H (compEnvC scope cl C X.env) fp xe) elt (te σ)) (hs : ∀ x, foldedSetIterable iter X.env x = pure x := by intro _; rfl) :
    PE X (.ListComp elt [⟨tg, iter, ifs, 0⟩] scope pos) (tLcE wi g tt te (own.map (·.2))) := by
  refine ⟨fun pins s σ H Q I h => ?_⟩
  rw [eval_ListComp]
  refine lc_coreE hstk hfrm tk hc hN I hi ok hg ht (he σ) hs h fun D C s' m H' I' q hn f ce ec => ⟨m, by rw [ec]; exact hn, fun h'' sb => ?_⟩
  rw [ec] at sb
  obtain ⟨f0, f1, f2, f3, f4, f5⟩ := f
  exact ⟨.ref D, H', I'.turned (t' := s'.toks) (fun b o hb e => (sb.2 b hb).trans e) f0 f1 f3 f4 f5, rfl, q⟩
theorem ps_setLcE {i : Nat} {y : Str} {py : Pos} {elt tg iter : Expr} {ifs : List Expr} {scope : Scope} {own : List (Str × Nat)} {pos spos : Pos} {wi : TI} {g : TG} {tt : TT} {te : L2.St → TE}
    (hstk : X.stack = X.env :: X.outer) (hfrm : X.env.frame = some X.env.locals) (tk : Takes X W) (hc : X.calm = true) (hN : X.N.Nodup) (hy : X.N[i]? = some y) (hyl : X.env.scope.names.lookup y = some .local)
    (hsw : swapsWith (.ListComp elt [⟨tg, iter, ifs, 0⟩] scope pos) (some (.Name y py)) spos.line X.env = pure true) (hi : PI X tg iter wi) (ok : BlkOk X.N X.env.scope scope own)
    (hg : ∀ (s : Shared) (H : Hp) (C : Addr) (cl : List (Str × Addr)) (fp : List Addr), PG (X.blk s H scope (compEnvC scope cl C X.env) fp) tg g) (ht : ∀ (s : Shared) (H : Hp) (C : Addr) (cl : List (Str × Addr)) (fp : List Addr), PTs (X.blk s H scope (compEnvC scope cl C X.env) fp) ifs tt)
    (he : ∀ (σ : L2.St) (s : Shared) (H : Hp) (C : Addr) (cl : List (Str × Addr)) (fp : List Addr) (xe : Value → Shared → Prop), PassE (BkE X scope s H (compEnvC scope cl C X.env) fp xe) (fun cls d _ H => W cls d σ H) → PE (BkE X scope s H (compEnvC scope cl C X.env) fp xe) elt (te σ)) (hs : ∀ x, foldedSetIterable iter X.env x = pure x := by intro _; rfl) :
    PS X (.Assign [.Name y py] (.ListComp elt [⟨tg, iter, ifs, 0⟩] scope pos) spos) (tAsg (tLcE wi g tt te (own.map (·.2))) (gName i)) := by
  refine ⟨fun pins s σ H D I h => ?_⟩
  rw [exec_Assign_Name_used _ _ _ _ hsw]
  refine wpAny_bind (wpAny_standAt (wpAny_bind ?_))
  show wpAny _ X.A (do let _ ← comprehension (.ListComp elt [⟨tg, iter, ifs, 0⟩] scope pos) scope X.env (firstIterPos [⟨tg, iter, ifs, 0⟩] pos) (newList []) false (eval iter X.env) (some (assign (.Name y py) X.env))) _ _ s
  have h : tLcE wi g tt te (own.map (·.2)) σ H (fun x H1 => gName i x σ H1 D.nx) := h
  refine wpAny_bind (thn (lc_coreE (Qf := fun _ s' => SP X pins D .next s') hstk hfrm tk hc hN I hi ok hg ht (he σ) hs h fun L C s' m H' I' q hn f ce ec => ?_) fun _ s' hq => wpAny_pure (wpAny_pure hq))
  show wpAny _ _ (assign (.Name y py) X.env (.ref L)) _ _ _
  refine wpAny_assign_Name (store_ok2 (v := V.ref L) I' hN hy (.inl hyl) rfl (fun s2 I2 ⟨a, sb, ha⟩ => ?_) (.inr hyl))
  obtain ⟨f0, f1, f2, f3, f4, f5⟩ := f
  have haC : C ≠ a := by
    rcases ha with z | z
    · rw [z]; exact f1
    · exact fun e => f4 y a z e.symm
  refine ⟨m, by rw [ec]; exact hn.sameBut sb haC, fun h3 sb3 => ?_⟩
  rw [ec] at sb3
  exact ⟨_, H', I2.turned (t' := s2.toks) (fun b o hb e => (sb3.2 b hb).trans e) f0 f1 f3 f4 f5, q⟩
end
end DL

set_option Elab.async false
set_option linter.all false
set_option maxRecDepth 100000
set_option maxHeartbeats 1000000
/-! DLZ: comprehensions whose items may raise, over data. -/
namespace DL
open PySem L2 PyProof.Rows
def LcE (env : Env) (ds : List PyData) (vs : List Nat) (g : WG) (c : WT) (t : WE) (Q : R → Prop) (E : Str → Prop) : Prop := ∃ P : Nat → List PyData → Prop, P 0 [] ∧
  (∀ i d acc, ds[i]? = some d → P i acc → g d (wipeE env vs) fun env2 => c env2 (fun k => if k = true then t env2 (fun r => r.st ∧ acc.length < sizeLine ∧ P (i + 1) (acc ++ [r.d])) E else P (i + 1) acc) noE) ∧
  ∀ acc, P ds.length acc → Q (.t (.lst acc))
def wLcE (it : WI) (vs : List Nat) (g : WG) (c : WT) (t : WE) : WE := fun env Q E => it env (fun ds => LcE env ds vs g c t Q E) E
theorem wLcE_eq (it : WI) (vs : List Nat) (g : WG) (c : WT) (t : WE) (env : Env) (Q : R → Prop) (E : Str → Prop) : wLcE it vs g c t env Q E = it env (fun ds => LcE env ds vs g c t Q E) E := rfl
section
variable {X : Cx} {W : WX} {G : Hp} {tg iter elt : Expr} {ifs : List Expr} {scope : Scope} {own : List (Str × Nat)} {it : WI} {g : WG} {c : WT} {t : WE} {pos : Pos}
theorem lcE_ok {σ : L2.St} {H : Hp} {QV : VK} {vs : List Nat} (h : tD X W G (wLcE it vs g c t) σ H QV) :
    tLcE (tDIc X W G it) (tDG X G vs g) (tDT X W0 G c) (fun σ => tD X (fun cls d _ H => W cls d σ H) G t) vs σ H QV := by
  obtain ⟨B, env, fp, Q, E, rr, hm, hq, hx⟩ := h
  refine ⟨B, env, fp, _, E, rr, hm, fun J H1 B1 ds e1 wk ⟨P, p0, pt, pe⟩ L nL => ?_, hx⟩
  have out : ∀ {H2 B2 : Hp}, RR X.K G B2 env fp σ H2 → L ∉ fp := fun {H2 B2} r2 m => by
    obtain ⟨u, hu⟩ := (rr.ext e1).own.dom L m
    rw [nL] at hu; cases hu
  have gL : G L = none := (rr.ext e1).gh.none nL
  refine ⟨fun i m H2 => m = ds.length - i ∧ i ≤ ds.length ∧ ∃ B2 acc vs2, Le B1 B2 ∧ RR X.K G B2 env fp σ H2 ∧ B2 L = none ∧ H2 L = some (.lst vs2) ∧ RepAll X.K B2 vs2 acc ∧ (∀ a o, H1 a = some o → H2 a = some o) ∧ (∀ a o, H1 a = some o → B1 a = none → B2 a = none) ∧ P i acc,
    ⟨_, rfl, Nat.zero_le _, B1, [], [], .refl _, (rr.ext e1).beside (out (rr.ext e1)) (e1.bh.none nL) gL, e1.bh.none nL, upd_same, .nil, fun a o q => upd_keep q (ne_of_none q nL), fun _ _ _ n => n, p0⟩, ?_⟩
  rintro i m H2 ⟨rfl, hle, B2, acc, vs2, l2, rr2, bL, hL, ra, s2, n2, pi⟩
  by_cases hlt : i < ds.length
  · refine .inr ⟨wk.go i H2 B2 l2 rr2.bh s2 hlt, fun H' => ∃ B2 acc vs2, Le B1 B2 ∧ RR X.K G B2 env fp σ H' ∧ B2 L = none ∧ H' L = some (.lst vs2) ∧ RepAll X.K B2 vs2 acc ∧ (∀ a o, H1 a = some o → H' a = some o) ∧ (∀ a o, H1 a = some o → B1 a = none → B2 a = none) ∧ P (i + 1) acc,
      fun H' ⟨B3, acc3, vs3, z1, z2, z3, z4, z5, z6, z7, z8⟩ => ⟨_, (by omega), rfl, hlt, B3, acc3, vs3, z1, z2, z3, z4, z5, z6, z7, z8⟩, fun y H3 hy => ?_⟩
    obtain ⟨dd, B3, hd, e3, rp⟩ := wk.yld i H2 y H3 B2 hlt l2 rr2.bh s2 hy
    obtain ⟨fpw, rrw⟩ := (rr2.ext e3).wipe vs
    refine ⟨B3, _, fpw, dd, _, rrw, rp, pt i dd acc hd pi, fun σ4 env4 fp4 rr4 t4 q4 => ⟨?_, ?_⟩⟩
    · have := t4.wipe
      rw [this]
      exact (Touch.wipe ⟨wipe_length σ vs, fun j nj => by rw [wipe_get, if_neg nj]⟩)
    · refine ⟨B3, env4, fp4, _, noE, rr4, q4, fun k H5 B5 e5 q5 => ?_, xok0⟩
      have eA := e3.trans e5
      cases k with
      | false =>
        rw [if_neg (by simp)] at q5
        refine iteF ?_
        exact ⟨B5, acc, vs2, l2.trans eA.le, rr2.ext eA, eA.new L _ hL bL, eA.same _ _ hL, ra.mono eA.le, fun a o q => eA.same _ _ (s2 a o q), fun a o q n => eA.new a o (s2 a o q) (n2 a o q n), q5⟩
      | true =>
        rw [if_pos rfl] at q5
        refine iteT ?_
        refine ⟨B5, env4, fp4, _, E, rr4.ext e5, q5, fun u H6 B6 r e6 w ⟨sr, hz, p6⟩ => ?_, fun n cls H' e m s => hx n cls H' e m (e1.same.trans (Le.trans s2 (eA.same.trans s)))⟩
        obtain ⟨B7, e7, l7, rk⟩ := w.keep e6 sr
        have eB := eA.trans e7
        have hL6 := eB.same _ _ hL
        have bL7 := eB.new L _ hL bL
        have rr7 := rr2.ext eB
        refine ⟨vs2, hL6, by rw [ra.length]; exact hz, B7, acc ++ [r.d], vs2 ++ [u], l2.trans eB.le, rr7.beside (out rr7) bL7 gL, bL7, upd_same, (ra.mono eB.le).append (.one rk), fun a o q => ?_, fun a o q n => eB.new a o (s2 a o q) (n2 a o q n), p6⟩
        exact upd_keep (eB.same _ _ (s2 a o q)) (ne_of_none q nL)
  · have e : i = ds.length := by omega
    subst e
    refine .inl ⟨wk.stop _ H2 B2 l2 rr2.bh s2 (Nat.le_refl _), hq _ H2 B2 (.t (.lst acc)) ⟨e1.same.trans s2, e1.le.trans l2, rr2.bh, fun a o q n => n2 a o (e1.same _ _ q) (e1.new a o q n)⟩ ⟨[L], .lst hL ra, by simp, fun a m => ?_⟩ (pe acc pi)⟩
    simp at m; subst m
    exact ⟨e1.same.none nL, bL⟩
theorem de_lcE (hstk : X.stack = X.env :: X.outer) (hfrm : X.env.frame = some X.env.locals) (tk : Takes X W) (hc : X.calm = true) (hN : X.N.Nodup) (hi : DIc X W G tg iter it) {N : List Str} {sc : Scope} (ok : blkC N sc scope own = true) (eN : X.N = N) (eS : X.env.scope = sc)
    (hg : ∀ s H C cl fp, DG (Bk X scope s H C cl fp) G (own.map (·.2)) tg g) (ht : ∀ s H C cl fp, PTs (Bk X scope s H C cl fp) ifs (tDT X W0 G c)) (he : ∀ W' s H C cl fp xe, PassE (BkE X scope s H (compEnvC scope cl C X.env) fp xe) W' → DE (BkE X scope s H (compEnvC scope cl C X.env) fp xe) W' G elt t)
    (hs : ∀ x, foldedSetIterable iter X.env x = pure x) : DE X W G (.ListComp elt [⟨tg, iter, ifs, 0⟩] scope pos) (wLcE it (own.map (·.2)) g c t) :=
  PEi (pe_lcE (g := tDG X G (own.map fun p : Str × Nat => p.2) g) (tt := tDT X W0 G c) (te := fun σ => tD X (fun cls d _ H => W cls d σ H) G t) hstk hfrm tk hc hN hi (by subst eN eS; exact blkOk_by ok) hg ht (fun σ s H C cl fp xe pa => he _ s H C cl fp xe pa) hs) fun _ _ _ h => lcE_ok h
theorem ds_setLcE {i : Nat} {y : Str} {py spos : Pos} (hstk : X.stack = X.env :: X.outer) (hfrm : X.env.frame = some X.env.locals) (tk : Takes X W) (hc : X.calm = true) (hN : X.N.Nodup) (hy : X.N[i]? = some y) (hyl : X.env.scope.names.lookup y = some .local)
    (hsw : swapsWith (.ListComp elt [⟨tg, iter, ifs, 0⟩] scope pos) (some (.Name y py)) spos.line X.env = pure true) (hi : DIc X W G tg iter it) {N : List Str} {sc : Scope} (ok : blkC N sc scope own = true) (eN : X.N = N) (eS : X.env.scope = sc)
    (hg : ∀ s H C cl fp, DG (Bk X scope s H C cl fp) G (own.map (·.2)) tg g) (ht : ∀ s H C cl fp, PTs (Bk X scope s H C cl fp) ifs (tDT X W0 G c)) (he : ∀ W' s H C cl fp xe, PassE (BkE X scope s H (compEnvC scope cl C X.env) fp xe) W' → DE (BkE X scope s H (compEnvC scope cl C X.env) fp xe) W' G elt t)
    (hs : ∀ x, foldedSetIterable iter X.env x = pure x) : DS X W G (.Assign [.Name y py] (.ListComp elt [⟨tg, iter, ifs, 0⟩] scope pos) spos) (wAsg i (wLcE it (own.map (·.2)) g c t)) :=
  PSi (ps_setLcE (g := tDG X G (own.map fun p : Str × Nat => p.2) g) (tt := tDT X W0 G c) (te := fun σ => tD X (fun cls d _ H => W cls d σ H) G t) hstk hfrm tk hc hN hy hyl hsw hi (by subst eN eS; exact blkOk_by ok) hg ht (fun σ s H C cl fp xe pa => he _ s H C cl fp xe pa) hs) fun D σ H h => asg_ok (fun _ _ _ h => lcE_ok h) H h
theorem ds_letLcE {i : Nat} {y : Str} {py spos : Pos} (hstk : X.stack = X.env :: X.outer) (hfrm : X.env.frame = some X.env.locals) (tk : Takes X W) (hc : X.calm = true) (hN : X.N.Nodup) (hy : X.N[i]? = some y) (hyl : X.env.scope.names.lookup y = some .local)
    (hsw : swapsWith (.ListComp elt [⟨tg, iter, ifs, 0⟩] scope pos) (some (.Name y py)) spos.line X.env = pure true) (hi : DIc X W G tg iter it) {N : List Str} {sc : Scope} (ok : blkC N sc scope own = true) (eN : X.N = N) (eS : X.env.scope = sc)
    (hg : ∀ s H C cl fp, DG (Bk X scope s H C cl fp) G (own.map (·.2)) tg g) (ht : ∀ s H C cl fp, PTs (Bk X scope s H C cl fp) ifs (tDT X W0 G c)) (he : ∀ W' s H C cl fp xe, PassE (BkE X scope s H (compEnvC scope cl C X.env) fp xe) W' → DE (BkE X scope s H (compEnvC scope cl C X.env) fp xe) W' G elt t)
    (hs : ∀ x, foldedSetIterable iter X.env x = pure x) : DS X W G (.Assign [.Name y py] (.ListComp elt [⟨tg, iter, ifs, 0⟩] scope pos) spos) (wLet i (wLcE it (own.map (·.2)) g c t)) :=
  PSi (ps_setLcE (g := tDG X G (own.map fun p : Str × Nat => p.2) g) (tt := tDT X W0 G c) (te := fun σ => tD X (fun cls d _ H => W cls d σ H) G t) hstk hfrm tk hc hN hy hyl hsw hi (by subst eN eS; exact blkOk_by ok) hg ht (fun σ s H C cl fp xe pa => he _ s H C cl fp xe pa) hs) fun D σ H h => let_ok (fun _ _ _ h => lcE_ok h) H h
end
/-! ### over lists of alike things -/
theorem lcE_mapE {α : Type} {ls : List α} {enc : α → D} {env : Env} {vs : List Nat} {g : WG} {t : WE} {Q : R → Prop} {E : Str → Prop} (f : α → D) (hz : ls.length ≤ sizeLine)
    (h : ∀ (i : Nat) (x : α), ls[i]? = some x → ∀ A : R → Prop, (∀ r, r.st → r.d = f x → A r) → g (enc x) (wipeE env vs) fun env2 => t env2 A E) (q : Q (.t (.lst (ls.map f)))) : LcE env (ls.map enc) vs g wYes t Q E := by
  refine ⟨fun i acc => acc = (ls.take i).map f, by simp, fun i d acc hd ha => ?_, fun acc ha => ?_⟩
  · obtain ⟨x, hx, e⟩ := map_get hd
    subst e
    have ha : acc = (ls.take i).map f := ha
    refine h i x hx (fun r => r.st ∧ acc.length < sizeLine ∧ acc ++ [r.d] = (ls.take (i + 1)).map f) fun r rs rd => ⟨rs, ?_, ?_⟩
    · have hi := (List.getElem?_eq_some_iff.mp hx).1
      rw [ha, List.length_map, List.length_take]
      omega
    · rw [take_succ hx, List.map_append, ha, rd]; rfl
  · have ha : acc = (ls.take (ls.map enc).length).map f := ha
    rw [ha, List.length_map, List.take_length]; exact q
/-- item by item, what is known of those ahead -/
theorem lcE_inv {α : Type} {ls : List α} {enc : α → D} {env : Env} {vs : List Nat} {g : WG} {t : WE} {Q : R → Prop} {E : Str → Prop} (f : α → D) (J : Nat → Prop) (hz : ls.length ≤ sizeLine) (j0 : J 0)
    (h : ∀ (i : Nat) (x : α), ls[i]? = some x → J i → ∀ A : R → Prop, (∀ r, r.st → r.d = f x → J (i + 1) → A r) → g (enc x) (wipeE env vs) fun env2 => t env2 A E) (q : J ls.length → Q (.t (.lst (ls.map f)))) : LcE env (ls.map enc) vs g wYes t Q E := by
  refine ⟨fun i acc => acc = (ls.take i).map f ∧ J i, ⟨by simp, j0⟩, fun i d acc hd ha => ?_, fun acc ha => ?_⟩
  · obtain ⟨x, hx, e⟩ := map_get hd
    subst e
    obtain ⟨ha, hj⟩ := ha
    refine h i x hx hj (fun r => r.st ∧ acc.length < sizeLine ∧ acc ++ [r.d] = (ls.take (i + 1)).map f ∧ J (i + 1)) fun r rs rd hj' => ⟨rs, ?_, ?_, hj'⟩
    · have hi := (List.getElem?_eq_some_iff.mp hx).1
      rw [ha, List.length_map, List.length_take]
      omega
    · rw [take_succ hx, List.map_append, ha, rd]; rfl
  · obtain ⟨ha, hj⟩ := ha
    rw [List.length_map] at ha hj
    rw [ha, List.take_length]; exact q hj
section
variable {X : Cx} {W : WX} {G : Hp} {k j : Nat} {ps : List Str} {S : Spec} {dvs : List V} {dds : List D} {x : Str} {p pos : Pos} {e : Expr} {es : List Expr} {ms : WA}
theorem de_callP (F : FnAt X.prog X.w X.K X.mg X.base k x ps dvs S) (hr : Room j X.A) (hk : k ≤ j) (hg : Gl X x) (hdv : ∀ B, RepAll X.K B dvs dds) (pa : PassE X W) (ha : DA X W G (e :: es) ms) (hdb : (x == ("__debug__" : Str)) = false)
    (he : starEach (e :: es) X.env = (false, eval e X.env) :: starEach es X.env) (hpl : (backTo pos (starEach es X.env)).any (·.1) = false) : DE X W G (.Call (.Name x p) (e :: es) [] pos) (wCall S dds ms) := by
  obtain ⟨f, fd, ds, hm, hkp, F, hb, hd⟩ := F
  exact PEi (pe_callSD (E := fun σ cls d H => W cls d σ H) F (hr.mono hk) hg hm hkp hb hd (fun σ => pa σ) ha hdb he hpl) fun _ _ _ h => call_ok hdv h
end
end DL

set_option Elab.async false
set_option linter.all false
set_option maxRecDepth 100000
set_option maxHeartbeats 1000000
/-! DLW: sorted, of alike data of any kind. -/
namespace DL
open PySem L2 PyProof.Rows
open PySem.W (alike alikeAll AllAlike Sortable EachIs dataLe)
def dle : D → D → Bool := dataLe false (id : D → D)
def sortDs (ds : List D) : List D := ds.mergeSort dle
def sortOk (ds : List D) : Prop := AllAlike ds ∧ Sortable ds ∧ ∀ d ∈ ds, d.depth ≤ 8
def sortedE : F1
  | .list ds, Q => sortedD (.list ds) Q ∨ (sortOk ds ∧ Q (.t (.lst (sortDs ds))))
  | d, Q => sortedD d Q
theorem sortedE_l (ds : List D) (Q : R → Prop) : sortedE (.list ds) Q = ((∃ ns : List Int, ds = ns.map PyData.int ∧ ∀ ms, ordI ns ms → Q (.t (.lst (ms.map PyData.int)))) ∨ (∃ xs : List Str, ds = xs.map PyData.str ∧ ∀ ys, ordS xs ys → Q (.t (.lst (ys.map PyData.str)))) ∨ (sortOk ds ∧ Q (.t (.lst (sortDs ds))))) := by
  rw [← or_assoc]; rfl
theorem sortedE_d (kvs : List (D × D)) (Q : R → Prop) : sortedE (.dict kvs) Q = sortedD (.dict kvs) Q := rfl
section
variable {X : Cx}
mutual
theorem rep_reads {pins : List (Addr × Obj)} {σ : L2.St} {H : Hp} {s : Shared} (I : Inv X pins σ H s) : ∀ (d : D) (v : V) (u : Value), alike d d = true → Rep X.K H v d → RelV v u → ∃ as, PySem.Reads s.heap u d as
  | .none, _, u, _, r, q => by
    cases r
    rw [show u = Value.none from q]
    exact ⟨_, .none⟩
  | .bool b, _, u, _, r, q => by
    cases r
    rw [show u = Value.bool b from q]
    exact ⟨_, .bool _⟩
  | .int i, _, u, _, r, q => by
    cases r
    obtain ⟨t, e⟩ : ∃ t, u = Value.int i t := q
    rw [e]
    exact ⟨_, .int _ _⟩
  | .str x, _, u, _, r, q => by
    cases r
    obtain ⟨t, e⟩ : ∃ t, u = Value.str x t := q
    rw [e]
    exact ⟨_, .str _ _⟩
  | .list ds, _, u, ha, r, q => by
    cases r with
    | @lst a vs _ sq t =>
      rw [show u = Value.ref a from q]
      obtain ⟨its, rv, ⟨o2, n2, e2, c2, d2, ed2⟩, hz⟩ := I.list sq
      obtain ⟨as, h⟩ := repAll_reads I ds vs its (by simpa [alike] using ha) t rv
      exact ⟨_, .list e2 c2 ed2 h⟩
  | .tuple ds, _, u, ha, r, q => by
    cases r with
    | @tup a vs _ sq t _ =>
      rw [show u = Value.ref a from q]
      obtain ⟨its, rv, ⟨o2, e2, c2, n2, ed2⟩, hz⟩ := I.tuple sq
      obtain ⟨as, h⟩ := repAll_reads I ds vs its (by simpa [alike] using ha) t rv
      exact ⟨_, .tuple e2 c2 ed2 h⟩
  | .dict _, _, _, ha, _, _ => absurd ha (by simp [alike])
theorem repAll_reads {pins : List (Addr × Obj)} {σ : L2.St} {H : Hp} {s : Shared} (I : Inv X pins σ H s) : ∀ (ds : List D) (vs : List V) (us : List Value), alikeAll ds ds = true → RepAll X.K H vs ds → Vals vs us → ∃ as, PySem.ReadsAll s.heap us ds as
  | [], _, _, _, r, q => by
    cases r
    cases q
    exact ⟨_, .nil⟩
  | d :: ds, _, _, ha, r, q => by
    cases r with
    | cons r1 r2 =>
      cases q with
      | cons q1 q2 =>
        obtain ⟨h1, h2⟩ := PySem.W.alike_all_cons ha
        obtain ⟨as, x⟩ := rep_reads I d _ _ h1 r1 q1
        obtain ⟨bs, y⟩ := repAll_reads I ds _ _ h2 r2 q2
        exact ⟨_, .cons x y⟩
end
theorem each_zip {K : K0} {B : Hp} : ∀ {vs : List V} {ds : List D} {us : List Value}, RepAll K B vs ds → Vals vs us → EachIs (fun u (b : V × D) => RelV b.1 u ∧ Rep K B b.1 b.2) us (vs.zip ds)
  | _, _, _, .nil, .nil => .nil
  | _, _, _, .cons r t, .cons q z => .cons ⟨q, r⟩ (each_zip t z)
theorem each_back {K : K0} {B : Hp} : ∀ {us : List Value} {ps : List (V × D)}, EachIs (fun u (b : V × D) => RelV b.1 u ∧ Rep K B b.1 b.2) us ps → Vals (ps.map (·.1)) us ∧ RepAll K B (ps.map (·.1)) (ps.map (·.2))
  | _, _, .nil => ⟨.nil, .nil⟩
  | _, _, .cons h t => ⟨.cons h.1 (each_back t).1, .cons h.2 (each_back t).2⟩
theorem zip_snd {K : K0} {B : Hp} : ∀ {vs : List V} {ds : List D}, RepAll K B vs ds → (vs.zip ds).map Prod.snd = ds
  | _, _, .nil => rfl
  | _, _, .cons r t => by
    show _ :: (List.zip _ _).map Prod.snd = _
    rw [zip_snd t]
theorem cSortedE (hc : X.calm = true) (hu : X.A.units + 64 < PySem.cLine) : CallR X (.builtin "sorted") (rB X.K (f1s sortedE)) := by
  intro pins s σ H xs us QV I rv ⟨B, fp, rs, Q, l, x, hf, hq⟩
  obtain ⟨a, e, sh, hg⟩ := f1s_inv hf
  have key : ∀ {g : F1}, g a.d Q → f1s g rs Q := by
    intro g hg2
    subst e
    exact ⟨sh, hg2⟩
  by_cases old : sortedD a.d Q
  · exact cSorted hc pins s σ H xs us QV I rv ⟨B, fp, rs, Q, l, x, key old, hq⟩
  clear key hf
  subst e
  obtain ⟨v, e, hv⟩ := x.one_sh sh
  subst e
  generalize a.d = d at hv hg old
  cases d <;> first | exact (old hg).elim | skip
  rename_i ds
  rcases hg with hg | ⟨⟨hal, hk, hd⟩, q⟩
  · exact (old hg).elim
  obtain ⟨p, vs, e, s', t⟩ := hv.list l
  subst e
  obtain ⟨its, rvs, hl, hz⟩ := I.list s'
  rw [Vals.ref1 rv]
  have ez := zip_snd t
  have e1 := each_zip t rvs
  have er : EachIs (fun u (b : V × D) => ∃ as, PySem.Reads s.heap u b.2 as) its (vs.zip ds) := by
    refine (PySem.W.EachIs.of_zip e1.length fun q m => ?_)
    have h1 := e1.zip q m
    have hm : q.2.2 ∈ ds := by
      have := (List.of_mem_zip m).2
      rw [← ez]
      exact List.mem_map_of_mem this
    exact rep_reads I _ _ _ (hal _ hm _ hm) (h1.2.mono l) h1.1
  refine PySem.W.sorted_data (R := fun u (b : V × D) => RelV b.1 u ∧ Rep X.K B b.1 b.2) (enc := Prod.snd) hl.isList e1 er (by rw [ez]; exact hal) (by rw [ez]; exact hk) (by rw [List.length_zip, t.length, Nat.min_self, ← t.length]; exact hz)
    (fun b m => ?_) fun out ho eo => ?_
  · have hm : b.2 ∈ ds := by
      rw [← ez]
      exact List.mem_map_of_mem (f := Prod.snd) m
    have := hd _ hm
    omega
  · obtain ⟨g1, g2⟩ := each_back eo
    have hs : ((vs.zip ds).mergeSort (dataLe false Prod.snd)).map (·.2) = sortDs ds := by
      have e3 : ((vs.zip ds).map Prod.snd).mergeSort dle = sortDs ds := by rw [ez]; rfl
      rw [← e3]
      exact PySem.W.sort_maps (Prod.snd : V × D → D) fun a _ b _ => rfl
    rw [hs] at g2
    have hlen : (((vs.zip ds).mergeSort (dataLe false Prod.snd)).map (·.1)).length ≤ sizeLine := by
      rw [List.length_map, List.length_mergeSort, List.length_zip, t.length, Nat.min_self, ← t.length]
      exact hz
    obtain ⟨ep, he'⟩ := PyProof.Rows.sortedAll_at s.heap its (List.toArray out)
    have np := I.hok.fresh (Nat.le_succ s.heap.objs.size)
    exact ⟨.ref _, upd H (s.heap.objs.size + 1) (.lst _), I.laid (t' := s.toks) (fun _ _ => PyProof.Rows.sortedAll_old) (Nat.le_succ _) ⟨hlen, out, ep, g1, he'⟩, rfl, hq _ _ B (.t _) (.make l np _) (t_lst l np g2) q⟩
end
end DL

set_option Elab.async false
set_option linter.all false
set_option maxRecDepth 100000
set_option maxHeartbeats 2000000
/-! DLV: list(reversed(x)). -/
namespace DL
open PySem L2 PyProof.Rows
section
variable {prog : Program} {w : World} {A : Around} {E : Value → Shared → Prop} {s : Shared}
open RT in
theorem rev_extend {R : Result → Shared → Prop} {it l : Addr} {items : Array Value} (hh : A.handled = none) (hit : s.heap.IsRevIter it l ((items.size : Int) - 1)) (hl : s.heap.IsList l items) (hne : l ≠ it) (hn : items.size ≤ sizeLine)
    (S : Addr) (hSi : S ≠ it) (hSl : S ≠ l) (res : Value) (c₀ : Nat) (hS : s.heap.get? S = some { cls := .type "list", data := .seq #[] c₀ })
    (hR : ∀ h' tk acc' c', (∀ b o, b ≠ S → b ≠ it → s.heap.get? b = some o → h'.get? b = some o) → h'.get? S = some { cls := .type "list", dict := none, data := .seq acc' c', slots := #[] } → ItemsOf (fun i v => items[items.size - 1 - i]? = some v) acc' items.size → R (.ok (.ret res)) { s with heap := h', toks := tk }) :
    wpAny (model prog w) A.in1 (Builtin.List.listExtendWith (.ref S) (.ref it) res)
      (fun fin s' => match fin with | .done f => R (.ok f) s' | .again c' => c'.quiet = true ∧ codeAny (model prog w) A c' R s') (fun e s' => R (.error e) s') s := by
  have W := (Walks.listRev (prog := prog) (w := w) (A := A.in1) hh it l hne items).toS
  have hSf : S ∉ [it, l] := by simp only [List.mem_cons, List.not_mem_nil, or_false, not_or]; exact ⟨hSi, hSl⟩
  have hT : s.TypeIs (.ref it) "list_reverseiterator" := hit.typeIs
  have h1 : Builtin.List.listSameRef (.ref S) (.ref it) = false := by simp [Builtin.List.listSameRef, hSi]
  unfold Builtin.List.listExtendWith
  refine wpAny_bind (wpAny_typeOf hT ?_)
  rw [if_neg (by rw [h1]; decide)]
  refine wpAny_bind (wpAny_pyIter_revIter hit ?_)
  refine wpAny_bind (wpAny_holding ?_)
  unfold Builtin.List.listLengthHint
  refine wpAny_bind (wpAny_specialOf hT nolen_lri ?_)
  show wpAny _ A.in1 (specialOf (Value.ref it) (Str.ofString "__length_hint__") >>= _) _ _ _
  refine wpAny_bind (wpAny_specialOf hT hint_lri ?_)
  generalize hid : ("list_reverseiterator.__length_hint__" : String) = id0
  wp_delta
  rw [show splitId id0 = some ("list_reverseiterator", "__length_hint__") from by subst hid; decide +kernel]
  subst hid
  refine wpAny_bind (wpAny_isInstance (b := true) hT (by rw [isSubtype_type]; kernel_rfl) ?_)
  refine wpAny_pure ?_
  rw [if_neg (by decide)]
  have e0 : ((items.size : Nat) : Int) - 1 - ((0 : Nat) : Int) = (items.size : Int) - 1 := by omega
  refine wpAny_pure ⟨plainId_quiet F.plain_extend_loop _, codeAny_extend_loopS W hn _ hSf _ items.size 0 _ _ _ rfl (Nat.zero_le _) ⟨Nat.zero_le _, by rw [e0]; exact hit, hl⟩ hS (ItemsOf.nil _) fun s' acc' c' hm hS' hacc => ?_⟩
  rw [Moved.eq_with hm]
  refine hR s'.heap s'.toks acc' c' (fun b o hb hi e => hm.heap b o (fun hmem => ?_) e) hS' hacc
  rcases List.mem_cons.mp hmem with e' | hmem
  · exact hb e'
  · exact hi (List.mem_singleton.mp hmem)
theorem call_list_rev {it l : Addr} {items : Array Value} {Q : Value → Shared → Prop} (hh : A.handled = none) (hit : s.heap.IsRevIter it l ((items.size : Int) - 1)) (hl : s.heap.IsList l items) (hne : l ≠ it) (hn : items.size ≤ sizeLine)
    (hQ : ∀ h' tk acc' c', (∀ b o, b ≠ it → s.heap.get? b = some o → h'.get? b = some o) → h'.get? s.heap.objs.size = some { cls := .type "list", dict := none, data := .seq acc' c', slots := #[] } → ItemsOf (fun i v => items[items.size - 1 - i]? = some v) acc' items.size → Q (.ref s.heap.objs.size) { s with heap := h', toks := tk }) :
    wpAny (model prog w) A (call (.type "list") [.ref it]) Q E s := by
  refine callType_codes (Q₁ := fun obj s₁ => obj = .ref s.heap.objs.size ∧ s₁ = { s with heap := s.heap.push { cls := .type "list", data := .seq #[] } }) PySem.F.called_list (PySem.F.typeCall_list_1 _) PySem.F.entry_list_init
    (code_list_new _ ⟨rfl, rfl⟩) fun obj s₁ h₁ => ?_
  obtain ⟨rfl, rfl⟩ := h₁
  have hS : (s.heap.push { cls := .type "list", data := .seq #[] }).get? s.heap.objs.size = some { cls := .type "list", data := .seq #[] } := Heap.get?_push_size _ rfl
  obtain ⟨oi, hoi, _⟩ := id hit
  obtain ⟨ol, hol, _⟩ := id hl
  have hSi : s.heap.objs.size ≠ it := Nat.ne_of_gt (Heap.lt_size hoi)
  have hSl : s.heap.objs.size ≠ l := Nat.ne_of_gt (Heap.lt_size hol)
  refine ⟨⟨_, hS, rfl⟩, PySem.F.args_list_init_2 _ _, ?_⟩
  show wpAny _ _ (do let old ← Builtin.List.listItems (.ref s.heap.objs.size); Builtin.List.listUpdate (.ref s.heap.objs.size) (fun _ => #[]); letGo old.toList.reverse; Builtin.List.listExtendWith (.ref s.heap.objs.size) (.ref it) .none) _ _ _
  refine wpAny_bind ?_
  unfold Builtin.List.listItems
  refine wpAny_bind (wpAny_seqItems hS rfl (wpAny_pure ?_))
  show wpAny _ _ (updateSeq s.heap.objs.size (fun _ => #[]) >>= fun _ => letGo (#[] : Array Value).toList.reverse >>= fun _ => Builtin.List.listExtendWith (.ref s.heap.objs.size) (.ref it) .none) _ _ _
  refine wpAny_bind (wpAny_updateSeq hS rfl ?_)
  have hS₂ := Heap.get?_update_self (Obj.mapSeq (fun _ => (#[] : Array Value))) hS rfl
  have oth : ∀ b o, b ≠ s.heap.objs.size → s.heap.get? b = some o → ((s.heap.push { cls := .type "list", data := .seq #[] }).update s.heap.objs.size (Obj.mapSeq (fun _ => (#[] : Array Value)))).get? b = some o :=
    fun b o hb e => (Heap.get?_update_other _ _ (Ne.symm hb)).trans (Heap.get?_push_of_some _ e)
  refine wpAny_bind (wpAny_letGo ?_)
  refine rev_extend (A := A.in1) hh (hit.at fun o e => oth _ _ hSi.symm e) (hl.at fun o e => oth _ _ hSl.symm e) hne hn s.heap.objs.size hSi hSl .none _ hS₂ fun h' tk acc' c' hk hS' hacc => ?_
  exact ⟨rfl, hQ h' tk acc' c' (fun b o hi e => hk b o (Nat.ne_of_lt (Heap.lt_size e)) hi (oth b o (Nat.ne_of_lt (Heap.lt_size e)) e)) hS' hacc⟩
end
section
variable {X : Cx} {W : WX} {G : Hp} {e : Expr} {m : WE} {te : TE} {p p1 p2 pos : Pos}
def tLRev (K : PySem.W.Frag) (te : TE) : TE := fun σ H Q => te σ H fun x H1 => ∃ a xs, x = .ref a ∧ SqL K H1 a xs ∧ ∀ q, H1 q = none → Q (.ref q) (upd H1 q (.lst xs.reverse))
theorem pe_lrev (hc : X.calm = true) (hgl : Gl X "list") (hml : X.mg "list" = none) (hg : Gl X "reversed") (hm : X.mg "reversed" = none) (he : PE X e te)
    (hs : starEach [e] X.env = (false, eval e X.env) :: starEach [] X.env := by rfl) (hs2 : starEach [.Call (.Name "reversed" p) [e] [] p2] X.env = (false, eval (.Call (.Name "reversed" p) [e] [] p2) X.env) :: starEach [] X.env := by rfl) :
    PE X (.Call (.Name "list" p1) [.Call (.Name "reversed" p) [e] [] p2] [] pos) (tLRev X.K te) := by
  refine ⟨fun pins s σ H Q I h => ?_⟩
  refine Call_ (ld_blt I hgl hml boot_list (PyProof.Rows.callWith_type1 (args_cons ?_ hs2) hs2))
  refine Call_ (ld_blt I hg hm PyProof.Rows.boot_reversed (PyProof.Rows.callWith_type1 (args_cons (thn (he.run pins s σ H _ I h) fun u s1 ⟨v, H1, I1, r1, q1⟩ => args_nil ?_) hs) hs rfl))
  obtain ⟨a, xs, ev, hq, q⟩ := q1
  subst ev
  obtain rfl : u = Value.ref a := r1
  obtain ⟨its, rv, p', hz⟩ := I1.list hq
  have hl := rv.length
  obtain ⟨ol, hol, _⟩ := id p'.isList
  refine call_reversed_list p'.isList (args_nil ?_)
  refine call_list_rev (it := s1.heap.objs.size) (l := a) (items := its.toArray) (I1.ok.hd hc) ⟨_, Heap.get?_push_size _ rfl, rfl, rfl⟩ (p'.isList.at fun o e => Heap.get?_push_of_some _ e) (Nat.ne_of_lt (Heap.lt_size hol)) (by rw [List.size_toArray]; omega) fun h' tk acc c' hk hn hi => ?_
  have hz2 : (s1.heap.push (revObj a ((its.toArray.size : Int) - 1))).objs.size = s1.heap.objs.size + 1 := Heap.size_push ..
  refine ⟨.ref _, upd H1 (s1.heap.push (revObj a ((its.toArray.size : Int) - 1))).objs.size (.lst xs.reverse), I1.laid (t' := tk) (fun b o e => hk b o (Nat.ne_of_lt (Heap.lt_size e)) (Heap.get?_push_of_some _ e)) (by rw [hz2]; omega) ⟨by rw [List.length_reverse]; exact hz, acc.toList, c', ?_, by rw [Array.toArray_toList]; exact hn⟩, rfl, q _ (I1.hok.fresh (by rw [hz2]; omega))⟩
  have ea : acc.toList = its.reverse := by
    apply List.ext_getElem?
    intro j
    have hs : acc.size = its.length := by rw [hi.1, List.size_toArray]
    by_cases hj : j < its.length
    · have h1 : acc[j]? = some (acc[j]'(by omega)) := Array.getElem?_eq_getElem (by omega)
      have h2 := hi.2 j _ h1
      rw [Array.getElem?_toList, h1, ← h2, List.getElem?_reverse hj, List.size_toArray]
      simp
    · rw [List.getElem?_eq_none (by rw [Array.length_toList]; omega), List.getElem?_eq_none (by rw [List.length_reverse]; omega)]
  rw [ea]
  exact rv.reverse
/-- list(reversed(x)), x a list -/
def wLRev (t : WE) : WE := fun env Q E => t env (fun x => x.sh ∧ ∃ ds, x.d = .list ds ∧ Q (.t (.lst ds.reverse))) E
theorem de_lrev (hc : X.calm = true) (hgl : Gl X "list") (hml : X.mg "list" = none) (hg : Gl X "reversed") (hm : X.mg "reversed" = none) (he : DE X W G e m)
    (hs : starEach [e] X.env = (false, eval e X.env) :: starEach [] X.env := by rfl) (hs2 : starEach [.Call (.Name "reversed" p) [e] [] p2] X.env = (false, eval (.Call (.Name "reversed" p) [e] [] p2) X.env) :: starEach [] X.env := by rfl) :
    DE X W G (.Call (.Name "list" p1) [.Call (.Name "reversed" p) [e] [] p2] [] pos) (wLRev m) := by
  refine PEi (pe_lrev hc hgl hml hg hm he hs hs2) fun σ H QV ⟨B, env, fp, Q, E, rr, hm, hq, hx⟩ => ?_
  refine ⟨B, env, fp, _, E, rr, hm, fun v1 H1 B1 r1 e1 o1 ⟨s1, ds, ed, hf⟩ => ?_, hx⟩
  obtain ⟨B2, e2, l2, rv1⟩ := o1.view e1 s1
  rw [ed] at rv1
  obtain ⟨a, vs, ev, s, t⟩ := rv1.list e2.bh
  exact ⟨a, vs, ev, s, fun p np => hq _ _ B2 (.t _) (e2.trans (.make e2.bh np _)) (VOk.back e2 (t_lst e2.bh np t.reverse)) hf⟩
end
/-! ### loops over any things -/
theorem for_gd {α : Type} {ds : List PyData} {g : WG} {body : WS} {D : En} {env : Env} (is : List Nat) (os : α → List (Option O)) (I : Nat → α → Prop) (x0 : α) (h0 : env = setL env is (os x0)) (hI : I 0 x0)
    (step : ∀ i d x, ds[i]? = some d → I i x → g d (setL env is (os x)) fun env2 => body { D with nx := NxF (fun x => setL env is (os x)) I (i + 1), ct := NxF (fun x => setL env is (os x)) I (i + 1), bk := D.nx } env2)
    (fin : ∀ x, I ds.length x → D.nx (setL env is (os x))) : FoI ds g body D env := by
  have := for_gs (ls := ds) (enc := id) (g := g) (body := body) (D := D) (env := env) is os I x0 h0 hI step fin
  rwa [List.map_id] at this
theorem oR_f (d : PyData) : oR (.fro d) = .v d := rfl
theorem oR_l (ds : List PyData) : oR (.lst ds) = .b (.lst ds) := rfl
theorem oR_d (ds : List (PyData × PyData)) : oR (.dic ds) = .b (.dic ds) := rfl
theorem oR_ls (ds : List O) : oR (.lsts ds) = .b (.lsts ds) := rfl
end DL

set_option Elab.async false
set_option linter.all false
set_option maxRecDepth 100000
set_option maxHeartbeats 1000000
/-! DLU: a thing held against what is the same, dicts within. -/
namespace DL
open PySem L2 PyProof.Rows
/-- data of a depth below n, its dicts' keys each once -/
def SmOk : Nat → D → Prop
  | _, .none => True
  | _, .bool _ => True
  | _, .int _ => True
  | _, .str _ => True
  | n + 1, .list ds => ∀ d ∈ ds, SmOk n d
  | n + 1, .tuple ds => ∀ d ∈ ds, SmOk n d
  | n + 1, .dict ds => (ds.map (·.1)).Nodup ∧ ∀ p ∈ ds, SmOk n p.2
  | 0, .list _ => False
  | 0, .tuple _ => False
  | 0, .dict _ => False
theorem sok_none (n : Nat) : SmOk n .none := by cases n <;> exact True.intro
theorem sok_bool (n : Nat) (b : Bool) : SmOk n (.bool b) := by cases n <;> exact True.intro
theorem sok_int (n : Nat) (b : Int) : SmOk n (.int b) := by cases n <;> exact True.intro
theorem sok_str (n : Nat) (b : Str) : SmOk n (.str b) := by cases n <;> exact True.intro
theorem sok_list {n : Nat} {ds : List PyData} (h : ∀ d ∈ ds, SmOk n d) : SmOk (n + 1) (.list ds) := h
theorem sok_tuple {n : Nat} {ds : List PyData} (h : ∀ d ∈ ds, SmOk n d) : SmOk (n + 1) (.tuple ds) := h
theorem sok_dict0 (n : Nat) : SmOk (n + 1) (.dict []) := ⟨by simp, by simp⟩
theorem RepKV.keysK {K : K0} {B : Hp} : ∀ {kvs : List (Key × V)} {ds : List (D × D)}, RepKV K B kvs ds → (kvs.map (·.1)).map kD = ds.map (·.1)
  | _, _, .nil => rfl
  | _, _, .cons r t => by rw [List.map_cons, List.map_cons, List.map_cons, RepKV.keysK t]
theorem kD_inj {a b : Key} (h : kD a = kD b) : a = b := by
  have := congrArg keyD h
  rw [keyD_kD, keyD_kD] at this
  exact Option.some.inj this
theorem RepKV.two {K : K0} {B B2 : Hp} {F : V → V → Prop} : ∀ {ks ls : List (Key × V)} {ds : List (D × D)}, RepKV K B ks ds → RepKV K B2 ls ds → (∀ x y d, d ∈ ds.map (·.2) → Rep K B x d → Rep K B2 y d → F x y) → Paired (fun p q => p.1 = q.1 ∧ F p.2 q.2) ks ls
  | _, _, _, .nil, h, _ => by cases h; exact .nil
  | _, _, _, .cons r t, h, f => by
    generalize hd : kD _ = kd at h
    cases h with
    | cons r2 t2 =>
      refine .cons ⟨kD_inj (by first | exact hd | rfl), f _ _ _ (by simp) r r2⟩ (RepKV.two t t2 fun x y d m => f x y d (by simp at m ⊢; exact .inr m))
section
variable {X : Cx} {pins : List (Addr × Obj)} {σ : L2.St} {H : Hp} {s : Shared}
open PySem.W (EqTree)
theorem all_true (n : Nat) : ((List.range n).all fun _ => true) = true := List.all_eq_true.mpr fun _ _ => rfl
theorem paired_val {κ : Type} [DecidableEq κ] {F : Value → Value → Prop} : ∀ {ka kb : List (κ × Value)}, Paired (fun p q => p.1 = q.1 ∧ F p.2 q.2) ka kb → (ka.map (·.1)).Nodup → ∀ k v y, (k, v) ∈ ka → valueAt kb k = some y → F v y
  | _, _, .nil, _, _, _, _, m, _ => by simp at m
  | p :: ps, q :: qs, .cons h t, nd, k, v, y, m, e => by
    rw [List.map_cons] at nd
    obtain ⟨n1, n2⟩ := List.nodup_cons.mp nd
    by_cases hk : q.1 = k
    · have e2 : valueAt (q :: qs) k = some q.2 := by simp [valueAt, List.find?_cons, hk]
      rw [e2] at e
      cases e
      rcases List.mem_cons.mp m with rfl | m
      · exact h.2
      · exact absurd (List.mem_map_of_mem (f := (·.1)) m) (by simp only; rw [← hk, ← h.1]; exact n1)
    · have e2 : valueAt (q :: qs) k = valueAt qs k := by simp [valueAt, List.find?_cons, hk]
      rw [e2] at e
      rcases List.mem_cons.mp m with rfl | m
      · exact absurd h.1.symm hk
      · exact paired_val t n2 k v y m e
theorem paired_comp {F : V → V → Prop} {G : Value → Value → Prop} (hg : ∀ x y v u, F x y → RelV x v → RelV y u → G v u) : ∀ {ks ls : List (Key × V)} {va vb : List (Key × Value)}, Paired (fun p q => p.1 = q.1 ∧ F p.2 q.2) ks ls → KV ks va → KV ls vb → Paired (fun (p q : Key × Value) => p.1 = q.1 ∧ G p.2 q.2) va vb
  | _, _, _, _, .nil, .nil, .nil => .nil
  | _, _, _, _, .cons h t, .cons h1 t1, .cons h2 t2 => .cons ⟨h1.1.symm.trans (h.1.trans h2.1), hg _ _ _ _ h.2 h1.2 h2.2⟩ (paired_comp hg t t1 t2)
theorem paired_keys {κ : Type} {F : Value → Value → Prop} : ∀ {ka kb : List (κ × Value)}, Paired (fun p q => p.1 = q.1 ∧ F p.2 q.2) ka kb → ka.map (·.1) = kb.map (·.1)
  | _, _, .nil => rfl
  | _, _, .cons h t => by rw [List.map_cons, List.map_cons, h.1, paired_keys t]
theorem same_tree (I : Inv X pins σ H s) : ∀ (n : Nat) (d : D) (x y : V) (v u : Value), SmOk n d → Rep X.K H x d → Rep X.K H y d → RelV x v → RelV y u → EqTree X.prog X.w s n v u true := by
  intro n
  induction n with
  | zero =>
    intro d x y v u h rx ry ex ey
    cases d with
    | none => cases rx; cases ry; rw [show v = Value.none from ex, show u = Value.none from ey]; exact .same
    | bool b => cases rx; cases ry; rw [show v = Value.bool b from ex, show u = Value.bool b from ey]; exact .same
    | int i =>
      cases rx; cases ry
      obtain ⟨t, rfl⟩ := (show ∃ t, v = Value.int i t from ex)
      obtain ⟨t2, rfl⟩ := (show ∃ t, u = Value.int i t from ey)
      exact .leaf fun A _ => by have := SeqAt.EqAt.int_int (A := A) (s := s) i t i t2; rwa [beq_self_eq_true] at this
    | str i =>
      cases rx; cases ry
      obtain ⟨t, rfl⟩ := (show ∃ t, v = Value.str i t from ex)
      obtain ⟨t2, rfl⟩ := (show ∃ t, u = Value.str i t from ey)
      exact .leaf fun A _ => by have := SeqAt.EqAt.str_str (A := A) (s := s) i t i t2; rwa [beq_self_eq_true] at this
    | _ => exact h.elim
  | succ n ih =>
    intro d x y v u h rx ry ex ey
    cases d with
    | none => cases rx; cases ry; rw [show v = Value.none from ex, show u = Value.none from ey]; exact .same
    | bool b => cases rx; cases ry; rw [show v = Value.bool b from ex, show u = Value.bool b from ey]; exact .same
    | int i =>
      cases rx; cases ry
      obtain ⟨t, rfl⟩ := (show ∃ t, v = Value.int i t from ex)
      obtain ⟨t2, rfl⟩ := (show ∃ t, u = Value.int i t from ey)
      exact .leaf fun A _ => by have := SeqAt.EqAt.int_int (A := A) (s := s) i t i t2; rwa [beq_self_eq_true] at this
    | str i =>
      cases rx; cases ry
      obtain ⟨t, rfl⟩ := (show ∃ t, v = Value.str i t from ex)
      obtain ⟨t2, rfl⟩ := (show ∃ t, u = Value.str i t from ey)
      exact .leaf fun A _ => by have := SeqAt.EqAt.str_str (A := A) (s := s) i t i t2; rwa [beq_self_eq_true] at this
    | list ds =>
      obtain ⟨a, vs, rfl, sa, ta⟩ := rx.list_inv
      obtain ⟨b, ws, rfl, sb, tb⟩ := ry.list_inv
      cases (show v = Value.ref a from ex)
      cases (show u = Value.ref b from ey)
      by_cases e : a = b
      · subst e; exact .same
      obtain ⟨us, r1, p1, _⟩ := I.list sa
      obtain ⟨zs, r2, p2, _⟩ := I.list sb
      have l1 : us.length = ds.length := by rw [← r1.length, ta.length]
      have l2 : zs.length = ds.length := by rw [← r2.length, tb.length]
      have := EqTree.lists (prog := X.prog) (w := X.w) (n := n) (e := fun _ => true) e p1.isList p2.isList (by simp; omega) (fun j h1 h2 => by
        have hj : j < ds.length := by simpa [l1] using h1
        obtain ⟨x1, g1, q1⟩ := ta.get (List.getElem?_eq_getElem hj)
        obtain ⟨x2, g2, q2⟩ := tb.get (List.getElem?_eq_getElem hj)
        obtain ⟨u1, f1, w1⟩ := r1.get g1
        obtain ⟨u2, f2, w2⟩ := r2.get g2
        have k1 : us.toArray[j] = u1 := by
          have := (List.getElem?_eq_some_iff.mp f1).2
          simpa using this
        have k2 : zs.toArray[j] = u2 := by
          have := (List.getElem?_eq_some_iff.mp f2).2
          simpa using this
        rw [k1, k2]
        exact ih _ x1 x2 u1 u2 (h _ (List.getElem_mem hj)) q1 q2 w1 w2)
      rwa [all_true] at this
    | tuple ds =>
      obtain ⟨a, vs, rfl, sa, ta⟩ := rx.tup_inv
      obtain ⟨b, ws, rfl, sb, tb⟩ := ry.tup_inv
      cases (show v = Value.ref a from ex)
      cases (show u = Value.ref b from ey)
      by_cases e : a = b
      · subst e; exact .same
      obtain ⟨us, r1, p1, _⟩ := I.tuple sa
      obtain ⟨zs, r2, p2, _⟩ := I.tuple sb
      have l1 : us.length = ds.length := by rw [← r1.length, ta.length]
      have l2 : zs.length = ds.length := by rw [← r2.length, tb.length]
      have := EqTree.tuples (prog := X.prog) (w := X.w) (n := n) (e := fun _ => true) e (show s.heap.IsTuple a us.toArray from p1) (show s.heap.IsTuple b zs.toArray from p2) (fun j h1 h2 => by
        have hj : j < ds.length := by simpa [l1] using h1
        obtain ⟨x1, g1, q1⟩ := ta.get (List.getElem?_eq_getElem hj)
        obtain ⟨x2, g2, q2⟩ := tb.get (List.getElem?_eq_getElem hj)
        obtain ⟨u1, f1, w1⟩ := r1.get g1
        obtain ⟨u2, f2, w2⟩ := r2.get g2
        have k1 : us.toArray[j] = u1 := by
          have := (List.getElem?_eq_some_iff.mp f1).2
          simpa using this
        have k2 : zs.toArray[j] = u2 := by
          have := (List.getElem?_eq_some_iff.mp f2).2
          simpa using this
        rw [k1, k2]
        exact ih _ x1 x2 u1 u2 (h _ (List.getElem_mem hj)) q1 q2 w1 w2)
      rw [all_true] at this
      simpa [l1, l2] using this
    | dict ds =>
      obtain ⟨a, ks, rfl, sa, ta⟩ := rx.dict_inv
      obtain ⟨b, ls, rfl, sb, tb⟩ := ry.dict_inv
      cases (show v = Value.ref a from ex)
      cases (show u = Value.ref b from ey)
      by_cases e : a = b
      · subst e; exact .same
      obtain ⟨_, ya, va, ra, da⟩ := dk_rd I.hok sa
      obtain ⟨_, yb, vb, rb, db⟩ := dk_rd I.hok sb
      obtain ⟨hn, hv⟩ := h
      have two := RepKV.two (F := fun x y => ∀ v u, RelV x v → RelV y u → EqTree X.prog X.w s n v u true) ta tb fun x y d m r1 r2 v u e1 e2 => by
        obtain ⟨p, mp, rfl⟩ := List.mem_map.mp m
        exact ih _ x y v u (hv p mp) r1 r2 e1 e2
      have nk : (va.map (·.1)).Nodup := by
        rw [← ra.keys]
        have := ta.keysK
        rw [← this] at hn
        exact (List.pairwise_map.mp hn).imp fun h e => h (by rw [e])
      have pv := paired_comp (F := fun x y => ∀ v u, RelV x v → RelV y u → EqTree X.prog X.w s n v u true) (G := fun v u => EqTree X.prog X.w s n v u true) (fun x y v u f e1 e2 => f v u e1 e2) two ra rb
      have := EqTree.dicts (prog := X.prog) (w := X.w) (n := n) (e := fun _ => true) e ya yb da db fun k v y m hy => paired_val (F := fun v y => EqTree X.prog X.w s n v y true) pv nk k v y m hy
      have hlen : va.length = vb.length := Paired.length pv
      have hall : (va.all fun p => (valueAt vb p.1).isSome && true) = true := by
        rw [List.all_eq_true]
        intro p mp
        have hk : p.1 ∈ vb.map (·.1) := by
          have e2 := paired_keys (F := fun v y => EqTree X.prog X.w s n v y true) pv
          rw [← e2]; exact List.mem_map_of_mem mp
        obtain ⟨q, mq, eq⟩ := List.mem_map.mp hk
        have : (vb.find? fun r => decide (r.1 = p.1)).isSome := by
          rw [List.find?_isSome]
          exact ⟨q, mq, by simp [eq]⟩
        simp [valueAt, this]
      rw [hlen, hall] at this
      simpa using this
/-- held against the same -/
def cEqS : Op2B := fun x y Q => (x = y ∧ (∀ ds, x ≠ .dict ds)) ∧ SmOk 40 x ∧ Q true
theorem opEqS (hu : X.A.units + 64 < cLine) : OpR X (compareOp .Eq) (rc2 X.K cEqS) := by
  intro pins s σ H x y v u Q I rx ry ⟨B, dx, dy, Q', l, hx, hy, ⟨⟨e, hnd⟩, hs, hf⟩, hq⟩
  subst e
  have fin : EP X pins σ Q (.bool true) s := ⟨.bl true, H, I, rfl, hq _ hf⟩
  have flat : flatD dx = true → _ := fun hfl => op_eq pins s σ H x y v u Q I rx ry ⟨by cases hx <;> cases hy <;> first | rfl | (simp [flatD] at hfl; done), by
    have : decide (x = y) = true := by cases hx <;> cases hy <;> first | (simp [flatD] at hfl; done) | (simp; done)
    rw [this]; exact hq _ hf⟩
  cases dx with
  | list ds =>
    obtain ⟨a, vs, rfl, sa, ta⟩ := hx.list_inv
    obtain ⟨b, ws, rfl, sb, tb⟩ := hy.list_inv
    cases (show v = Value.ref a from rx)
    cases (show u = Value.ref b from ry)
    obtain ⟨us, r1, p1, _⟩ := I.list sa
    obtain ⟨zs, r2, p2, _⟩ := I.list sb
    have l1 : us.length = ds.length := by rw [← r1.length, ta.length]
    have l2 : zs.length = ds.length := by rw [← r2.length, tb.length]
    refine PySem.W.eq_listsT (n := 39) (e := fun _ => true) p1.isList p2.isList (by simp; omega) (fun j h1 h2 => ?_) (by omega) (by rw [all_true]; exact fin)
    have hj : j < ds.length := by simpa [l1] using h1
    obtain ⟨x1, g1, q1⟩ := ta.get (List.getElem?_eq_getElem hj)
    obtain ⟨x2, g2, q2⟩ := tb.get (List.getElem?_eq_getElem hj)
    obtain ⟨u1, f1, w1⟩ := r1.get g1
    obtain ⟨u2, f2, w2⟩ := r2.get g2
    have k1 : us.toArray[j] = u1 := by
      have := (List.getElem?_eq_some_iff.mp f1).2
      simpa using this
    have k2 : zs.toArray[j] = u2 := by
      have := (List.getElem?_eq_some_iff.mp f2).2
      simpa using this
    rw [k1, k2]
    exact same_tree I 39 _ x1 x2 u1 u2 (hs _ (List.getElem_mem hj)) q1 q2 w1 w2
  | tuple ds =>
    obtain ⟨a, vs, rfl, sa, ta⟩ := hx.tup_inv
    obtain ⟨b, ws, rfl, sb, tb⟩ := hy.tup_inv
    cases (show v = Value.ref a from rx)
    cases (show u = Value.ref b from ry)
    obtain ⟨us, r1, p1, _⟩ := I.tuple sa
    obtain ⟨zs, r2, p2, _⟩ := I.tuple sb
    have l1 : us.length = ds.length := by rw [← r1.length, ta.length]
    have l2 : zs.length = ds.length := by rw [← r2.length, tb.length]
    refine PySem.W.eq_tuplesT (n := 39) (e := fun _ => true) (show s.heap.IsTuple a us.toArray from p1) (show s.heap.IsTuple b zs.toArray from p2) (fun j h1 h2 => ?_) (by omega) (by rw [all_true]; simpa [l1, l2] using fin)
    have hj : j < ds.length := by simpa [l1] using h1
    obtain ⟨x1, g1, q1⟩ := ta.get (List.getElem?_eq_getElem hj)
    obtain ⟨x2, g2, q2⟩ := tb.get (List.getElem?_eq_getElem hj)
    obtain ⟨u1, f1, w1⟩ := r1.get g1
    obtain ⟨u2, f2, w2⟩ := r2.get g2
    have k1 : us.toArray[j] = u1 := by
      have := (List.getElem?_eq_some_iff.mp f1).2
      simpa using this
    have k2 : zs.toArray[j] = u2 := by
      have := (List.getElem?_eq_some_iff.mp f2).2
      simpa using this
    rw [k1, k2]
    exact same_tree I 39 _ x1 x2 u1 u2 (hs _ (List.getElem_mem hj)) q1 q2 w1 w2
  | dict ds => exact absurd rfl (hnd ds)
  | _ => exact flat rfl
end
end DL

set_option Elab.async false
set_option linter.all false
set_option maxRecDepth 100000
set_option maxHeartbeats 1000000
/-! DLL: an own thing looked at as if still, while what comes of it leans on nothing of it. -/
namespace DL
open PySem L2 PyProof.Rows
def O.leanL : O → Prop
  | .lst ds => noLs ds = true
  | .fro d => noL d = true
  | _ => False
def R.lean : R → Prop
  | .v d => noL d = true
  | .t (.lst ds) => noLs ds = true
  | .t (.lsts os) => ∀ o ∈ os, o.leanL
  | _ => False
theorem R.lean_v (d : D) : (R.v d).lean = (noL d = true) := rfl
theorem R.lean_t (ds : List D) : (R.t (.lst ds)).lean = (noLs ds = true) := rfl
theorem R.lean_ts (os : List O) : (R.t (.lsts os)).lean = ∀ o ∈ os, o.leanL := rfl
theorem O.leanL_lst (ds : List D) : (O.lst ds).leanL = (noLs ds = true) := rfl
theorem O.leanL_fro (d : D) : (O.fro d).leanL = (noL d = true) := rfl
/-- an expression, with the thing at a slot still the while -/
def wLook (i : Nat) (m : WE) : WE := fun env Q E => m (frzAt env i) (fun r => r.lean ∧ Q r) E
section
variable {K : K0}
theorem OwnAll.cutL {B B0 H : Hp} {g : List Addr} (hg : ∀ a ∈ g, ∃ u, B a = some u ∧ isLD u) : ∀ {vs : List V} {os : List O} {f : List Addr}, (∀ o ∈ os, o.leanL) → OwnAll K B H vs os f → OwnAll K (cutB B B0 g) H vs os f
  | _, _, _, _, .nil => .nil
  | _, o :: _, _, h, .cons x t => by
    refine .cons ?_ (OwnAll.cutL hg (fun o m => h o (List.mem_cons_of_mem _ m)) t)
    have hl := h o (List.mem_cons_self ..)
    cases x with
    | fro r => exact .fro (Rep.cutL hg hl r)
    | lst h' r => exact .lst h' (RepAll.cutL hg hl r)
    | _ => exact hl.elim
theorem look_ok {X : Cx} {W : WX} {G : Hp} {i : Nat} {m : WE} {σ : L2.St} {H : Hp} {QV : VK} (h : tD X W G (wLook i m) σ H QV) : tD X W G m σ H QV := by
  obtain ⟨B, env, fp, Q, E, rr, hm, hq, hx⟩ := h
  have same : frzAt env i = env → tD X W G m σ H QV := fun e => by
    refine ⟨B, env, fp, fun r => r.lean ∧ Q r, E, rr, ?_, fun v H' B' r e2 w q => hq v H' B' r e2 w q.2, hx⟩
    have hm : m (frzAt env i) (fun r => r.lean ∧ Q r) E := hm
    rw [e] at hm; exact hm
  by_cases own : ∃ o0, env[i]? = some (some o0) ∧ ∀ a, o0 ≠ .raw a
  · obtain ⟨o0, hi, hr⟩ := own
    obtain ⟨v, g, h1, h2, h3, h4, h5⟩ := rr.put hi hr
    have l := addB_le g rr.bh
    obtain ⟨fp', rr'⟩ := h5 (addB B H g) H (.fro o0.frz) [] l (addB_bh g rr.bh) (fun _ _ _ h => h) (fun a o _ n z => by rw [addB_out n]; exact z)
      (.fro (h2.freeze l fun a m u q => by rw [addB_in m]; exact q)) (by simp) fun a m => absurd m (by simp)
    have fz : frzAt env i = env.set i (some (.fro o0.frz)) := by
      unfold frzAt
      rw [hi]
      cases o0 <;> first | rfl | exact (hr _ rfl).elim
    refine ⟨addB B H g, frzAt env i, fp', _, E, by rw [fz]; exact rr', hm, fun v' H' B' r e2 w ⟨le, q⟩ => ?_, hx⟩
    have hg' : ∀ a ∈ g, ∃ u, B' a = some u ∧ isLD u := fun a m => by
      obtain ⟨u, hu, l⟩ := h2.ld a m
      exact ⟨u, e2.le _ _ (by rw [addB_in m]; exact hu), l⟩
    have eC : Ext H B H' (cutB B' B g) := ⟨e2.same, fun a o h => by
      rw [cutB_out (fun m => by rw [m.2] at h; cases h)]
      exact e2.le _ _ (l _ _ h), (cutB_le g).trans e2.bh, fun a o h n => by
      by_cases m : a ∈ g
      · unfold cutB; rw [if_pos ⟨m, n⟩]
      · rw [cutB_out fun z => m z.1]
        exact e2.new a o h (by rw [addB_out m]; exact n)⟩
    refine hq v' H' (cutB B' B g) r eC ?_ q
    cases r with
    | v d => exact Rep.cutL hg' le w
    | t o =>
      obtain ⟨g', w, ng, hgn⟩ := w
      have out : ∀ a ∈ g', H a = none ∧ cutB B' B g a = none := fun a m => ⟨(hgn a m).1, (cutB_le g).none (hgn a m).2⟩
      cases w with
      | lst h r => exact ⟨_, .lst h (RepAll.cutL hg' le r), ng, out⟩
      | lsts h r => exact ⟨_, .lsts h (OwnAll.cutL hg' le r), ng, out⟩
      | _ => exact le.elim
    | b o => exact le.elim
  · refine same ?_
    unfold frzAt
    split
    · rfl
    · rename_i o hr e
      exact absurd ⟨o, e, hr⟩ own
    · rfl
theorem de_look {X : Cx} {W : WX} {G : Hp} {i : Nat} {m : WE} {e : Expr} (h : DE X W G e m) : DE X W G e (wLook i m) := PEi h fun σ H Q x => look_ok x
end
section
variable {X : Cx} {W : WX} {G : Hp} {tg iter elt : Expr} {ifs : List Expr} {scope : Scope} {own : List (Str × Nat)} {it : WI} {g : WG} {c : WT} {t : WE} {pos : Pos}
theorem ds_letLook {i k : Nat} {y : Str} {py spos : Pos} (hc : X.calm = true) (hN : X.N.Nodup) (hy : X.N[i]? = some y) (hyl : X.env.scope.names.lookup y = some .local)
    (hsw : swapsWith (.ListComp elt [⟨tg, iter, ifs, 0⟩] scope pos) (some (.Name y py)) spos.line X.env = pure true) (hi : DIc X W G tg iter it) {N : List Str} {sc : Scope} (ok : blkC N sc scope own = true) (eN : X.N = N) (eS : X.env.scope = sc)
    (hg : ∀ s H C cl fp, DG (Bk X scope s H C cl fp) G (own.map (·.2)) tg g) (ht : ∀ s H C cl fp, PTs (Bk X scope s H C cl fp) ifs (tDT X W0 G c)) (he : ∀ s H C cl fp, DE (Bk X scope s H C cl fp) W0 G elt t)
    (hs : ∀ x, foldedSetIterable iter X.env x = pure x) : DS X W G (.Assign [.Name y py] (.ListComp elt [⟨tg, iter, ifs, 0⟩] scope pos) spos) (wLet i (wLook k (wLcO it (own.map (·.2)) g c t))) :=
  PSi (ps_setLc (g := tDG X G (own.map fun p : Str × Nat => p.2) g) (tt := tDT X W0 G c) (te := tD X W0 G t) hc hN hy hyl hsw hi (by subst eN eS; exact blkOk_by ok) hg ht he hs) fun D σ H h => let_ok (fun _ _ _ h => lcO_ok (look_ok h)) H h
theorem ds_setLook {i k : Nat} {y : Str} {py spos : Pos} (hc : X.calm = true) (hN : X.N.Nodup) (hy : X.N[i]? = some y) (hyl : X.env.scope.names.lookup y = some .local)
    (hsw : swapsWith (.ListComp elt [⟨tg, iter, ifs, 0⟩] scope pos) (some (.Name y py)) spos.line X.env = pure true) (hi : DIc X W G tg iter it) {N : List Str} {sc : Scope} (ok : blkC N sc scope own = true) (eN : X.N = N) (eS : X.env.scope = sc)
    (hg : ∀ s H C cl fp, DG (Bk X scope s H C cl fp) G (own.map (·.2)) tg g) (ht : ∀ s H C cl fp, PTs (Bk X scope s H C cl fp) ifs (tDT X W0 G c)) (he : ∀ s H C cl fp, DE (Bk X scope s H C cl fp) W0 G elt t)
    (hs : ∀ x, foldedSetIterable iter X.env x = pure x) : DS X W G (.Assign [.Name y py] (.ListComp elt [⟨tg, iter, ifs, 0⟩] scope pos) spos) (wAsg i (wLook k (wLcO it (own.map (·.2)) g c t))) :=
  PSi (ps_setLc (g := tDG X G (own.map fun p : Str × Nat => p.2) g) (tt := tDT X W0 G c) (te := tD X W0 G t) hc hN hy hyl hsw hi (by subst eN eS; exact blkOk_by ok) hg ht he hs) fun D σ H h => asg_ok (fun _ _ _ h => lcO_ok (look_ok h)) H h
end
end DL

set_option Elab.async false
set_option linter.all false
set_option maxRecDepth 100000
set_option maxHeartbeats 1000000
/-! DLN: sorted, of a text. -/
namespace DL
open PySem L2 PyProof.Rows
def sgS (x : Str) : List Str := x.cps.toList.map fun c => ⟨#[c]⟩
def sortedF : F1
  | .str x, Q => x.cps.size ≤ sizeLine ∧ ∀ ys : List Str, ordS (sgS x) ys → Q (.t (.lst (ys.map PyData.str)))
  | d, Q => sortedE d Q
theorem sortedF_s (x : Str) (Q : R → Prop) : sortedF (.str x) Q = (x.cps.size ≤ sizeLine ∧ ∀ ys : List Str, ordS (sgS x) ys → Q (.t (.lst (ys.map PyData.str)))) := rfl
section
variable {X : Cx}
theorem sortedAnyT (hcalm : X.calm = true) : CallR X (.builtin "sorted") (fun xs H Q => ∃ x : Str, xs = [.str x] ∧ x.cps.size ≤ sizeLine ∧
    ∀ ys p, ys.Perm (sgS x) → sortedS ys = true → H p = none → Q (.ref p) (upd H p (.lst (ys.map V.str)))) := by
  intro pins s σ H xs us Q I r q
  obtain ⟨x, ex, hz, q⟩ := q
  subst ex
  obtain ⟨u, eu, rx⟩ := vals1 r
  subst eu
  obtain ⟨t, rfl⟩ : ∃ t, u = Value.str x t := rx
  refine Calls.call_function_entry PyProof.Rows.kind_sorted PyProof.Rows.plain_sorted PyProof.Rows.entry_sorted (PyProof.Rows.args_sorted1 _) ?_
  unfold Builtin.«sorted»
  refine wpAny_bind (m := checkCount "sorted" 1 1 _) (wpAny_pure ?_)
  refine wpAny_bind (wpAny_collect_str (A := X.A.in1) (I.ok.hd hcalm) x t (fun s' acc hk hg hd ho hacc => ?_) hz)
  obtain ⟨h', g', d', tk, o'⟩ := s'
  simp only at hk hg hd ho
  subst hg hd ho
  have hl : (sgS x).length = x.cps.size := by rw [sgS, List.length_map, Array.length_toList]
  have hal : acc.toList.length = (sgS x).length := by rw [Array.length_toList, hacc.1, hl]
  have h17 : (sgS x).length ≤ sizeLine := by rw [hl]; exact hz
  have hS : StrsAre acc.toList (sgS x) := strs_at hal fun j v e => by
    obtain ⟨c, u, e1, e2⟩ := hacc.2 j v (by rw [← Array.getElem?_toList]; exact e)
    exact ⟨⟨#[c]⟩, u, by rw [sgS, List.getElem?_map, Array.getElem?_toList, e1]; rfl, e2⟩
  have I1 : Inv X pins σ H { s with heap := h', toks := tk } := I.kept hk
  show wpAny _ _ _ _ _ { s with heap := h', toks := tk }
  refine wpAny_bind (wpAny_newList ?_ (by rw [hal]; exact h17))
  have hoL : (h'.push (seqObj "list" acc.toList.toArray 0)).get? h'.objs.size = some (seqObj "list" acc.toList.toArray 0) := Heap.get?_push_size _ rfl
  show wpAny _ _ _ _ _ { s with heap := h'.push (seqObj "list" acc.toList.toArray 0), toks := tk }
  refine wpAny_bind (wpAny_holding (wpAny_call_entry PyProof.Rows.slot_list_sort ⟨_, hoL, rfl⟩ PyProof.Rows.entry_list_sort
    (list_sort_treeKAny strKind_oneLt (s := { s with heap := h'.push (seqObj "list" acc.toList.toArray 0), toks := tk }) hoL hS.keysOf (fun v₁ v₂ rest e => keyKind_strs (by rw [← e]; exact hS)) (by rw [hal]; exact h17) fun st' hp hs => ⟨_, rfl, ?_⟩)
    (PyProof.Rows.args_list_sort _)))
  obtain ⟨ys, g1, g2, g3⟩ := sorted_out_str hS hp hs
  obtain ⟨e', he'⟩ := PyProof.Rows.sortedHeap_at (vs := acc.toList) (out := (arrOf st').map (·.2)) hoL
  have hlen : (ys.map V.str).length ≤ sizeLine := by
    rw [List.length_map, g2.length_eq]
    exact h17
  refine wpAny_pure ⟨_, rfl, .ref h'.objs.size, upd H h'.objs.size (.lst (ys.map V.str)), I1.laid (t' := tk) (fun b u e => ?_) (Nat.le_refl _)
    (show ObjOk X.prog X.w _ _ _ (.lst (ys.map V.str)) from ⟨hlen, ((arrOf st').map (·.2)).toList, e', vals_of_strs g1, by rw [Array.toArray_toList]; exact he'⟩), rfl, q ys _ g2 g3 (I1.hok.fresh (Nat.le_refl _))⟩
  have hb : b < h'.objs.size := Heap.lt_size e
  rw [PyProof.Rows.sortedHeap_old (Nat.ne_of_lt hb) (by rw [size_push']; exact Nat.lt_succ_of_lt hb)]
  exact Heap.get?_push_of_some _ e
theorem cSortedF (hc : X.calm = true) (hu : X.A.units + 64 < PySem.cLine) : CallR X (.builtin "sorted") (rB X.K (f1s sortedF)) := by
  intro pins s σ H xs us QV I rv ⟨B, fp, rs, Q, l, x, hf, hq⟩
  obtain ⟨a, e, sh, hg⟩ := f1s_inv hf
  have key : ∀ {g : F1}, g a.d Q → f1s g rs Q := by
    intro g hg2
    subst e
    exact ⟨sh, hg2⟩
  by_cases old : sortedE a.d Q
  · exact cSortedE hc hu pins s σ H xs us QV I rv ⟨B, fp, rs, Q, l, x, key old, hq⟩
  clear key hf
  subst e
  obtain ⟨v, e, hv⟩ := x.one_sh sh
  subst e
  generalize a.d = d at hv hg old
  cases d <;> first | exact (old hg).elim | skip
  rename_i z
  obtain ⟨hz, hg⟩ := hg
  have e : v = V.str z := by cases hv with | rep r => cases r; rfl
  subst e
  exact sortedAnyT hc pins s σ H _ us QV I rv ⟨z, rfl, hz, fun ms p' h1 h2 np => hq _ _ B (.t _) (.make l np _) (t_lst l np (.strs ms)) (hg ms ⟨h1, h2⟩)⟩
end
end DL

set_option Elab.async false
set_option linter.all false
set_option maxRecDepth 100000
set_option maxHeartbeats 1000000
/-! DLP: comprehensions whose items may raise and that hold own things. -/
namespace DL
open PySem L2 PyProof.Rows
def LcOE (env : Env) (ds : List PyData) (vs : List Nat) (g : WG) (c : WT) (t : WE) (Q : R → Prop) (E : Str → Prop) : Prop := ∃ P : Nat → List O → Prop, P 0 [] ∧
  (∀ i d acc, ds[i]? = some d → P i acc → g d (wipeE env vs) fun env2 => c env2 (fun k => if k = true then t env2 (fun r => r.st ∧ acc.length < sizeLine ∧ P (i + 1) (acc ++ [r.o])) E else P (i + 1) acc) noE) ∧
  ∀ acc, P ds.length acc → Q (.t (.lsts acc))
def wLcOE (it : WI) (vs : List Nat) (g : WG) (c : WT) (t : WE) : WE := fun env Q E => it env (fun ds => LcOE env ds vs g c t Q E) E
theorem wLcOE_eq (it : WI) (vs : List Nat) (g : WG) (c : WT) (t : WE) (env : Env) (Q : R → Prop) (E : Str → Prop) : wLcOE it vs g c t env Q E = it env (fun ds => LcOE env ds vs g c t Q E) E := rfl
section
variable {X : Cx} {W : WX} {G : Hp} {tg iter elt : Expr} {ifs : List Expr} {scope : Scope} {own : List (Str × Nat)} {it : WI} {g : WG} {c : WT} {t : WE} {pos : Pos}
theorem lcOE_ok {σ : L2.St} {H : Hp} {QV : VK} {vs : List Nat} (h : tD X W G (wLcOE it vs g c t) σ H QV) :
    tLcE (tDIc X W G it) (tDG X G vs g) (tDT X W0 G c) (fun σ => tD X (fun cls d _ H => W cls d σ H) G t) vs σ H QV := by
  obtain ⟨B, env, fp, Q, E, rr, hm, hq, hx⟩ := h
  refine ⟨B, env, fp, _, E, rr, hm, fun J H1 B1 ds e1 wk ⟨P, p0, pt, pe⟩ L nL => ?_, hx⟩
  have out : ∀ {H2 B2 : Hp}, RR X.K G B2 env fp σ H2 → L ∉ fp := fun {H2 B2} r2 m => by
    obtain ⟨u, hu⟩ := (rr.ext e1).own.dom L m
    rw [nL] at hu; cases hu
  have gL : G L = none := (rr.ext e1).gh.none nL
  let Iv : Nat → Hp → Prop := fun i H2 => ∃ B2 acc vs2 f, Le B1 B2 ∧ RR X.K G B2 env fp σ H2 ∧ B2 L = none ∧ H2 L = some (.lst vs2) ∧ OwnAll X.K B2 H2 vs2 acc f ∧ f.Nodup ∧ L ∉ f ∧ (∀ a ∈ f, H1 a = none ∧ B2 a = none) ∧
    (∀ a o, H1 a = some o → H2 a = some o) ∧ (∀ a o, H1 a = some o → B1 a = none → B2 a = none) ∧ P i acc
  refine ⟨fun i m H2 => m = ds.length - i ∧ i ≤ ds.length ∧ Iv i H2,
    ⟨_, rfl, Nat.zero_le _, B1, [], [], [], .refl _, (rr.ext e1).beside (out (rr.ext e1)) (e1.bh.none nL) gL, e1.bh.none nL, upd_same, .nil, by simp, by simp, by simp, fun a o q => upd_keep q (ne_of_none q nL), fun _ _ _ n => n, p0⟩, ?_⟩
  rintro i m H2 ⟨rfl, hle, B2, acc, vs2, f, l2, rr2, bL, hL, ra, nf, Lf, hf, s2, n2, pi⟩
  by_cases hlt : i < ds.length
  · refine .inr ⟨wk.go i H2 B2 l2 rr2.bh s2 hlt, fun H' => Iv (i + 1) H', fun H' z => ⟨_, (by omega), rfl, hlt, z⟩, fun y H3 hy => ?_⟩
    obtain ⟨dd, B3, hd, e3, rp⟩ := wk.yld i H2 y H3 B2 hlt l2 rr2.bh s2 hy
    obtain ⟨fpw, rrw⟩ := (rr2.ext e3).wipe vs
    refine ⟨B3, _, fpw, dd, _, rrw, rp, pt i dd acc hd pi, fun σ4 env4 fp4 rr4 t4 q4 => ⟨?_, ?_⟩⟩
    · have := t4.wipe
      rw [this]
      exact (Touch.wipe ⟨wipe_length σ vs, fun j nj => by rw [wipe_get, if_neg nj]⟩)
    · refine ⟨B3, env4, fp4, _, noE, rr4, q4, fun k H5 B5 e5 q5 => ?_, xok0⟩
      have eA := e3.trans e5
      have keepO : ∀ {H' B' : Hp}, Ext H2 B2 H' B' → OwnAll X.K B' H' vs2 acc f ∧ ∀ a ∈ f, H1 a = none ∧ B' a = none := fun {H' B'} e => ⟨ra.mono e.le fun a m => by
        obtain ⟨u, hu⟩ := ra.dom a m
        rw [hu]; exact e.same a u hu, fun a m => ⟨(hf a m).1, by
        obtain ⟨u, hu⟩ := ra.dom a m
        exact e.new a u hu (hf a m).2⟩⟩
      cases k with
      | false =>
        rw [if_neg (by simp)] at q5
        refine iteF ?_
        obtain ⟨k1, k2⟩ := keepO eA
        exact ⟨B5, acc, vs2, f, l2.trans eA.le, rr2.ext eA, eA.new L _ hL bL, eA.same _ _ hL, k1, nf, Lf, k2, fun a o q => eA.same _ _ (s2 a o q), fun a o q n => eA.new a o (s2 a o q) (n2 a o q n), q5⟩
      | true =>
        rw [if_pos rfl] at q5
        refine iteT ?_
        refine ⟨B5, env4, fp4, _, E, rr4.ext e5, q5, fun u H6 B6 r e6 w ⟨sr, hz, p6⟩ => ?_, fun n cls H' e m s => hx n cls H' e m (e1.same.trans (Le.trans s2 (eA.same.trans s)))⟩
        have eB := eA.trans e6
        have hL6 := eB.same _ _ hL
        have bL6 := eB.new L _ hL bL
        have rr6 := rr2.ext eB
        obtain ⟨k1, k2⟩ := keepO eB
        have key : ∀ g', Own X.K B6 H6 u r.o g' → g'.Nodup → (∀ a ∈ g', H5 a = none ∧ B6 a = none) → Iv (i + 1) (upd H6 L (.lst (vs2 ++ [u]))) := fun g' wg ng hg => by
          have h5 : ∀ a ∈ g', H1 a = none ∧ a ∉ f ∧ a ≠ L := fun a m => by
            have q := eA.same.none (hg a m).1
            have q1 : H1 a = none := by
              cases z : H1 a with
              | none => rfl
              | some o => rw [s2 a o z] at q; cases q
            refine ⟨q1, fun m' => ?_, fun e => ?_⟩
            · obtain ⟨o, ho⟩ := ra.dom a m'
              rw [ho] at q; cases q
            · subst e; rw [hL] at q; cases q
          have ne : ∀ a ∈ f ++ g', upd H6 L (.lst (vs2 ++ [u])) a = H6 a := fun a m => upd_ne fun e => by
            rcases List.mem_append.mp m with m | m
            · exact Lf (e ▸ m)
            · exact (h5 a m).2.2 e
          have t1 := k1.mono (H' := upd H6 L (.lst (vs2 ++ [u]))) (Le.refl B6) fun a m => ne a (List.mem_append_left _ m)
          have t2 := wg.mono (H' := upd H6 L (.lst (vs2 ++ [u]))) (Le.refl B6) fun a m => ne a (List.mem_append_right _ m)
          have t3 := t1.append (OwnAll.cons t2 .nil)
          rw [List.append_nil] at t3
          refine ⟨B6, acc ++ [r.o], vs2 ++ [u], f ++ g', l2.trans eB.le, rr6.beside (out rr6) bL6 gL, bL6, upd_same, t3, List.nodup_append.mpr ⟨nf, ng, fun a m b m' e => (h5 b m').2.1 (e ▸ m)⟩, fun m => ?_, fun a m => ?_, fun a o q => upd_keep (eB.same _ _ (s2 a o q)) (ne_of_none q nL), fun a o q n => eB.new a o (s2 a o q) (n2 a o q n), p6⟩
          · rcases List.mem_append.mp m with m | m
            · exact Lf m
            · exact (h5 L m).2.2 rfl
          · rcases List.mem_append.mp m with m | m
            · exact k2 a m
            · exact ⟨(h5 a m).1, (hg a m).2⟩
        refine ⟨vs2, hL6, by rw [k1.length]; exact hz, ?_⟩
        cases r with
        | v d => exact key [] (.fro w) (by simp) fun b m => absurd m (by simp)
        | t o => obtain ⟨g', w, ng, hg⟩ := w; exact key g' w ng hg
        | b o => exact sr.elim
  · have e : i = ds.length := by omega
    subst e
    refine .inl ⟨wk.stop _ H2 B2 l2 rr2.bh s2 (Nat.le_refl _), hq _ H2 B2 (.t (.lsts acc)) ⟨e1.same.trans s2, e1.le.trans l2, rr2.bh, fun a o q n => n2 a o (e1.same _ _ q) (e1.new a o q n)⟩ ⟨L :: f, .lsts hL ra, List.nodup_cons.mpr ⟨Lf, nf⟩, fun a m => ?_⟩ (pe acc pi)⟩
    rcases List.mem_cons.mp m with z | z
    · subst z; exact ⟨e1.same.none nL, bL⟩
    · exact ⟨e1.same.none (hf a z).1, (hf a z).2⟩
theorem de_lcOE (hstk : X.stack = X.env :: X.outer) (hfrm : X.env.frame = some X.env.locals) (tk : Takes X W) (hc : X.calm = true) (hN : X.N.Nodup) (hi : DIc X W G tg iter it) {N : List Str} {sc : Scope} (ok : blkC N sc scope own = true) (eN : X.N = N) (eS : X.env.scope = sc)
    (hg : ∀ s H C cl fp, DG (Bk X scope s H C cl fp) G (own.map (·.2)) tg g) (ht : ∀ s H C cl fp, PTs (Bk X scope s H C cl fp) ifs (tDT X W0 G c)) (he : ∀ W' s H C cl fp xe, PassE (BkE X scope s H (compEnvC scope cl C X.env) fp xe) W' → DE (BkE X scope s H (compEnvC scope cl C X.env) fp xe) W' G elt t)
    (hs : ∀ x, foldedSetIterable iter X.env x = pure x) : DE X W G (.ListComp elt [⟨tg, iter, ifs, 0⟩] scope pos) (wLcOE it (own.map (·.2)) g c t) :=
  PEi (pe_lcE (g := tDG X G (own.map fun p : Str × Nat => p.2) g) (tt := tDT X W0 G c) (te := fun σ => tD X (fun cls d _ H => W cls d σ H) G t) hstk hfrm tk hc hN hi (by subst eN eS; exact blkOk_by ok) hg ht (fun σ s H C cl fp xe pa => he _ s H C cl fp xe pa) hs) fun _ _ _ h => lcOE_ok h
theorem ds_setLcOE {i : Nat} {y : Str} {py spos : Pos} (hstk : X.stack = X.env :: X.outer) (hfrm : X.env.frame = some X.env.locals) (tk : Takes X W) (hc : X.calm = true) (hN : X.N.Nodup) (hy : X.N[i]? = some y) (hyl : X.env.scope.names.lookup y = some .local)
    (hsw : swapsWith (.ListComp elt [⟨tg, iter, ifs, 0⟩] scope pos) (some (.Name y py)) spos.line X.env = pure true) (hi : DIc X W G tg iter it) {N : List Str} {sc : Scope} (ok : blkC N sc scope own = true) (eN : X.N = N) (eS : X.env.scope = sc)
    (hg : ∀ s H C cl fp, DG (Bk X scope s H C cl fp) G (own.map (·.2)) tg g) (ht : ∀ s H C cl fp, PTs (Bk X scope s H C cl fp) ifs (tDT X W0 G c)) (he : ∀ W' s H C cl fp xe, PassE (BkE X scope s H (compEnvC scope cl C X.env) fp xe) W' → DE (BkE X scope s H (compEnvC scope cl C X.env) fp xe) W' G elt t)
    (hs : ∀ x, foldedSetIterable iter X.env x = pure x) : DS X W G (.Assign [.Name y py] (.ListComp elt [⟨tg, iter, ifs, 0⟩] scope pos) spos) (wAsg i (wLcOE it (own.map (·.2)) g c t)) :=
  PSi (ps_setLcE (g := tDG X G (own.map fun p : Str × Nat => p.2) g) (tt := tDT X W0 G c) (te := fun σ => tD X (fun cls d _ H => W cls d σ H) G t) hstk hfrm tk hc hN hy hyl hsw hi (by subst eN eS; exact blkOk_by ok) hg ht (fun σ s H C cl fp xe pa => he _ s H C cl fp xe pa) hs) fun D σ H h => asg_ok (fun _ _ _ h => lcOE_ok h) H h
theorem ds_letLcOE {i : Nat} {y : Str} {py spos : Pos} (hstk : X.stack = X.env :: X.outer) (hfrm : X.env.frame = some X.env.locals) (tk : Takes X W) (hc : X.calm = true) (hN : X.N.Nodup) (hy : X.N[i]? = some y) (hyl : X.env.scope.names.lookup y = some .local)
    (hsw : swapsWith (.ListComp elt [⟨tg, iter, ifs, 0⟩] scope pos) (some (.Name y py)) spos.line X.env = pure true) (hi : DIc X W G tg iter it) {N : List Str} {sc : Scope} (ok : blkC N sc scope own = true) (eN : X.N = N) (eS : X.env.scope = sc)
    (hg : ∀ s H C cl fp, DG (Bk X scope s H C cl fp) G (own.map (·.2)) tg g) (ht : ∀ s H C cl fp, PTs (Bk X scope s H C cl fp) ifs (tDT X W0 G c)) (he : ∀ W' s H C cl fp xe, PassE (BkE X scope s H (compEnvC scope cl C X.env) fp xe) W' → DE (BkE X scope s H (compEnvC scope cl C X.env) fp xe) W' G elt t)
    (hs : ∀ x, foldedSetIterable iter X.env x = pure x) : DS X W G (.Assign [.Name y py] (.ListComp elt [⟨tg, iter, ifs, 0⟩] scope pos) spos) (wLet i (wLcOE it (own.map (·.2)) g c t)) :=
  PSi (ps_setLcE (g := tDG X G (own.map fun p : Str × Nat => p.2) g) (tt := tDT X W0 G c) (te := fun σ => tD X (fun cls d _ H => W cls d σ H) G t) hstk hfrm tk hc hN hy hyl hsw hi (by subst eN eS; exact blkOk_by ok) hg ht (fun σ s H C cl fp xe pa => he _ s H C cl fp xe pa) hs) fun D σ H h => let_ok (fun _ _ _ h => lcOE_ok h) H h
end
theorem lcOE_mapE {α : Type} {ls : List α} {enc : α → D} {env : Env} {vs : List Nat} {g : WG} {t : WE} {Q : R → Prop} {E : Str → Prop} (f : α → O) (hz : ls.length ≤ sizeLine)
    (h : ∀ (i : Nat) (x : α), ls[i]? = some x → ∀ A : R → Prop, (∀ r, r.st → r.o = f x → A r) → g (enc x) (wipeE env vs) fun env2 => t env2 A E) (q : Q (.t (.lsts (ls.map f)))) : LcOE env (ls.map enc) vs g wYes t Q E := by
  refine ⟨fun i acc => acc = (ls.take i).map f, by simp, fun i d acc hd ha => ?_, fun acc ha => ?_⟩
  · obtain ⟨x, hx, e⟩ := map_get hd
    subst e
    have ha : acc = (ls.take i).map f := ha
    refine h i x hx (fun r => r.st ∧ acc.length < sizeLine ∧ acc ++ [r.o] = (ls.take (i + 1)).map f) fun r rs rd => ⟨rs, ?_, ?_⟩
    · have hi := (List.getElem?_eq_some_iff.mp hx).1
      rw [ha, List.length_map, List.length_take]
      omega
    · rw [take_succ hx, List.map_append, ha, rd]; rfl
  · have ha : acc = (ls.take (ls.map enc).length).map f := ha
    rw [ha, List.length_map, List.take_length]; exact q
/-- item by item, what is known of those ahead -/
theorem lcOE_inv {α : Type} {ls : List α} {enc : α → D} {env : Env} {vs : List Nat} {g : WG} {t : WE} {Q : R → Prop} {E : Str → Prop} (f : α → O) (J : Nat → Prop) (hz : ls.length ≤ sizeLine) (j0 : J 0)
    (h : ∀ (i : Nat) (x : α), ls[i]? = some x → J i → ∀ A : R → Prop, (∀ r, r.st → r.o = f x → J (i + 1) → A r) → g (enc x) (wipeE env vs) fun env2 => t env2 A E) (q : J ls.length → Q (.t (.lsts (ls.map f)))) : LcOE env (ls.map enc) vs g wYes t Q E := by
  refine ⟨fun i acc => acc = (ls.take i).map f ∧ J i, ⟨by simp, j0⟩, fun i d acc hd ha => ?_, fun acc ha => ?_⟩
  · obtain ⟨x, hx, e⟩ := map_get hd
    subst e
    obtain ⟨ha, hj⟩ := ha
    refine h i x hx hj (fun r => r.st ∧ acc.length < sizeLine ∧ acc ++ [r.o] = (ls.take (i + 1)).map f ∧ J (i + 1)) fun r rs rd hj' => ⟨rs, ?_, ?_, hj'⟩
    · have hi := (List.getElem?_eq_some_iff.mp hx).1
      rw [ha, List.length_map, List.length_take]
      omega
    · rw [take_succ hx, List.map_append, ha, rd]; rfl
  · obtain ⟨ha, hj⟩ := ha
    rw [List.length_map] at ha hj
    rw [ha, List.take_length]; exact q hj
/-! ### a test, with an own thing still the while -/
def wLookT (i : Nat) (m : WT) : WT := fun env Q E => m (frzAt env i) Q E
section
variable {K : K0}
theorem lookT_ok {X : Cx} {W : WX} {G : Hp} {i : Nat} {m : WT} {σ : L2.St} {H : Hp} {QV : Bool → Hp → Prop} (h : tDT X W G (wLookT i m) σ H QV) : tDT X W G m σ H QV := by
  obtain ⟨B, env, fp, Q, E, rr, hm, hq, hx⟩ := h
  have same : frzAt env i = env → tDT X W G m σ H QV := fun e => by
    refine ⟨B, env, fp, Q, E, rr, ?_, hq, hx⟩
    have hm : m (frzAt env i) Q E := hm
    rw [e] at hm; exact hm
  by_cases own : ∃ o0, env[i]? = some (some o0) ∧ ∀ a, o0 ≠ .raw a
  · obtain ⟨o0, hi, hr⟩ := own
    obtain ⟨v, g, h1, h2, h3, h4, h5⟩ := rr.put hi hr
    have l := addB_le g rr.bh
    obtain ⟨fp', rr'⟩ := h5 (addB B H g) H (.fro o0.frz) [] l (addB_bh g rr.bh) (fun _ _ _ h => h) (fun a o _ n z => by rw [addB_out n]; exact z)
      (.fro (h2.freeze l fun a m u q => by rw [addB_in m]; exact q)) (by simp) fun a m => absurd m (by simp)
    have fz : frzAt env i = env.set i (some (.fro o0.frz)) := by
      unfold frzAt
      rw [hi]
      cases o0 <;> first | rfl | exact (hr _ rfl).elim
    refine ⟨addB B H g, frzAt env i, fp', _, E, by rw [fz]; exact rr', hm, fun b H' B' e2 q => ?_, hx⟩
    have eC : Ext H B H' (cutB B' B g) := ⟨e2.same, fun a o h => by
      rw [cutB_out (fun m => by rw [m.2] at h; cases h)]
      exact e2.le _ _ (l _ _ h), (cutB_le g).trans e2.bh, fun a o h n => by
      by_cases m : a ∈ g
      · unfold cutB; rw [if_pos ⟨m, n⟩]
      · rw [cutB_out fun z => m z.1]
        exact e2.new a o h (by rw [addB_out m]; exact n)⟩
    exact hq b H' (cutB B' B g) eC q
  · refine same ?_
    unfold frzAt
    split
    · rfl
    · rename_i o hr e
      exact absurd ⟨o, e, hr⟩ own
    · rfl
theorem dt_look {X : Cx} {W : WX} {G : Hp} {i : Nat} {m : WT} {e : Expr} (h : DT X W G e m) : DT X W G e (wLookT i m) := PTi h fun σ H Q x => lookT_ok x
end
end DL

set_option Elab.async false
set_option linter.all false
set_option maxRecDepth 100000
set_option maxHeartbeats 1000000
/-! DLQ: more methods of texts. -/
namespace DL
open PySem L2 PyProof.Rows
def fFind : FM
  | a, [r], Q => ∃ b, r.d = .str b ∧ Q (.v (.int (Txt.find a b)))
  | _, _, _ => False
theorem fFind_1 (a : Str) (r : R) (Q : R → Prop) : fFind a [r] Q = ∃ b, r.d = .str b ∧ Q (.v (.int (Txt.find a b))) := rfl
section
variable {X : Cx} {W : WX} {G : Hp} {ob e : Expr} {mo : WE} {es : List Expr} {ms : WA} {apos cpos : Pos}
theorem find_r (B H : Hp) (fp : List Addr) (a : Str) (vs : List V) (rs : List R) (Q : R → Prop) (QV : VK) (l : Le B H) (va : VAll X.K B H vs rs) (hf : fFind a rs Q) (hq : QOk X.K B H fp Q QV) :
    ∃ a' b, (V.str a) = .str a' ∧ vs = [.str b] ∧ QV (.int (Txt.find a' b)) H := by
  match rs, hf with
  | [r], ⟨b, ht, q⟩ =>
    obtain ⟨v, ev, rv⟩ := va.one l
    subst ev
    rw [ht] at rv
    rw [rv.str_inv]
    exact ⟨a, b, rfl, rfl, hq _ H B (.v _) (.refl l) (.int _) q⟩
theorem dm_find (c : MF X ob "find" e es apos cpos) (ho : DE X W G ob mo) (ha : DA X W G (e :: es) ms) : DE X W G (.Call (.Attribute ob "find" apos) (e :: es) [] cpos) (wMe fFind mo ms) :=
  PEi (pe_bm PySem.F.plainAttrs_str PySem.F.slot_str_find PySem.F.type_str_find mt_find ho ha c.base c.few c.line c.hs c.pl) (me_ok find_r)
end
end DL

set_option Elab.async false
set_option linter.all false
set_option maxRecDepth 100000
set_option maxHeartbeats 1000000
/-! ME: kinds of things: whole numbers, heights, signs, columns; the menu of signs. -/
namespace DL
open PySem L2 PyProof.Rows
def wholeB : D → Bool
  | .int _ => true
  | _ => false
def heightB : D → Bool
  | .int i => decide (1 ≤ i ∧ i ≤ 60)
  | _ => false
def colB (h : Nat) : D → Bool
  | .int i => decide (0 ≤ i ∧ i < ((2 ^ h : Nat) : Int))
  | _ => false
def okSg (c : Nat) : Prop := 32 ≤ c ∧ c ≤ 126 ∧ c ≠ 37
instance (c : Nat) : Decidable (okSg c) := by unfold okSg; infer_instance
def sgOf : List Nat → Bool
  | [c] => decide (okSg c)
  | _ => false
def signB : D → Bool
  | .str x => sgOf x.cps.toList
  | _ => false
theorem signB_tS (cs : List Nat) : signB (.str (tS cs)) = sgOf cs := by unfold signB; simp only [tS_cps]
theorem sgOf_one (c : Nat) : sgOf [c] = decide (okSg c) := rfl
theorem sgOf_len {cs : List Nat} (h : cs.length ≠ 1) : sgOf cs = false := by
  match cs, h with
  | [], _ => rfl
  | [_], h => exact absurd rfl h
  | _ :: _ :: _, _ => rfl
/-- texts of a handy length -/
def txtOk : D → Prop
  | .str x => x.length ≤ 16777216
  | _ => True
theorem txtOk_tS (cs : List Nat) : txtOk (.str (tS cs)) = (cs.length ≤ 16777216) := by show ((tS cs).length ≤ 16777216) = _; rw [tS_len]
theorem txtOk_int (i : Int) : txtOk (.int i) = True := rfl
theorem txtOk_none : txtOk .none = True := rfl
theorem txtOk_bool (i : Bool) : txtOk (.bool i) = True := rfl
theorem txtOk_list (i : List D) : txtOk (.list i) = True := rfl
theorem txtOk_tuple (i : List D) : txtOk (.tuple i) = True := rfl
theorem txtOk_dict (i : List (D × D)) : txtOk (.dict i) = True := rfl
def menuA : List Nat := [32, 33, 34, 35, 36, 38, 39, 40, 41, 42, 43, 44, 45, 46, 47, 48, 49, 50, 51, 52, 53, 54, 55, 56, 57, 58, 59, 60, 61, 62, 63, 64, 65, 66, 67, 68, 69, 70, 71, 72, 73, 74, 75, 76, 77, 78, 79, 80, 81, 82, 83, 84, 85, 86, 87, 88, 89, 90, 91, 92, 93, 94, 95, 96, 97, 98, 99, 100, 101, 102, 103, 104, 105, 106, 107, 108, 109, 110, 111, 112, 113, 114, 115, 116, 117, 118, 119, 120, 121, 122, 123, 124, 125, 126]
theorem menu_len : menuA.length = 94 := by decide
theorem menu_ok : ∀ c ∈ menuA, okSg c := by decide
theorem menu_128 : ∀ c ∈ menuA, c < 128 := by decide
theorem menu_nodup : menuA.Nodup := by decide
theorem mem_menu {c : Nat} (h : okSg c) : c ∈ menuA := by
  unfold okSg at h
  have : ∀ c : Fin 127, 32 ≤ c.val → c.val ≠ 37 → c.val ∈ menuA := by decide
  exact this ⟨c, by omega⟩ h.1 h.2.2
theorem okSg_lt {c : Nat} (h : okSg c) : c < 128 := by unfold okSg at h; omega
theorem sgOf_iff (cs : List Nat) : sgOf cs = true ↔ ∃ c, cs = [c] ∧ okSg c := by
  match cs with
  | [] => simp [sgOf]
  | [c] => simp [sgOf]
  | _ :: _ :: _ => simp [sgOf]
theorem menu_pick {z : Int} {P : Nat → Prop} (h : ∀ c, okSg c → P c) : ∃ c, atI menuA (z % 94) = some c ∧ P c := pick_go (by decide) (by decide) fun c m => h c (menu_ok c m)
theorem menu_pickL {z : Int} {P : Nat → Prop} (h : ∀ c, okSg c → P c) : ∃ c, atI menuA (z % (menuA.length : Int)) = some c ∧ P c := pick_go rfl (by decide) fun c m => h c (menu_ok c m)
end DL

set_option Elab.async false
set_option linter.all false
set_option maxRecDepth 100000
set_option maxHeartbeats 1000000
/-! MY: whole numbers as texts, texts cut at a sign. -/
namespace DL
open PySem L2 PyProof.Rows
def valN (l : List Nat) : Nat := l.foldl (fun acc c => acc * 10 + (c - 48)) 0
def numB (l : List Nat) : Prop := 1 ≤ l.length ∧ l.length ≤ 20 ∧ (∀ c ∈ l, 48 ≤ c ∧ c ≤ 57) ∧ (l.headD 0 = 48 → l.length ≤ 1)
instance (l : List Nat) : Decidable (numB l) := by unfold numB; exact inferInstance
theorem int_tS {l : List Nat} (h : ∀ c ∈ l, 48 ≤ c ∧ c ≤ 57) (h1 : l ≠ []) (h2 : l.length ≤ 4300) : PySem.intText? (tS l) = some ((valN l : Nat) : Int) :=
  SX.int_S (a := l) (by rw [List.all_eq_true]; intro c m; simp [h c m]) h1 h2
theorem num_tS (n : Nat) : Str.ofString (toString ((n : Nat) : Int)) = tS (TL.numL n) := SX.num_S n
theorem numL_fig (n : Nat) : ∀ c ∈ TL.numL n, 48 ≤ c ∧ c ≤ 57 := TL.numL_digits n
theorem numL_pos (n : Nat) : 1 ≤ (TL.numL n).length := by
  have := TL.numL_ne n
  cases h : TL.numL n with
  | nil => exact absurd h this
  | cons a b => simp
theorem numL_val (n : Nat) : valN (TL.numL n) = n := TL.numL_val n
theorem numL_head : ∀ n : Nat, (TL.numL n).headD 0 = 48 → (TL.numL n).length ≤ 1 := by
  intro n
  induction n using Nat.strongRecOn with
  | ind n ih =>
    by_cases h : n < 10
    · rw [TL.numL_lt h]; simp
    · rw [TL.numL_step (by omega)]
      intro e
      exfalso
      have hp := numL_pos (n / 10)
      have e2 : (TL.numL (n / 10) ++ [48 + n % 10]).headD 0 = (TL.numL (n / 10)).headD 0 := by
        cases h : TL.numL (n / 10) with
        | nil => rw [h] at hp; simp at hp
        | cons a b => rfl
      rw [e2] at e
      have l1 := ih (n / 10) (by omega) e
      have v := numL_val (n / 10)
      cases h : TL.numL (n / 10) with
      | nil => rw [h] at hp; simp at hp
      | cons a b =>
        rw [h] at e l1 v
        have : b = [] := by
          cases b with
          | nil => rfl
          | cons x y => simp at l1
        subst this
        simp at e
        subst e
        simp [valN] at v
        omega
theorem numL_num {n : Nat} (h : n < 10 ^ 20) : numB (TL.numL n) := ⟨numL_pos n, TL.numL_len (by decide) h, numL_fig n, numL_head n⟩
theorem find_fig : ∀ c : Nat, c < 128 → Txt.find (tS [48, 49, 50, 51, 52, 53, 54, 55, 56, 57]) (tS [c]) = if 48 ≤ c ∧ c ≤ 57 then (c : Int) - 48 else -1 := by decide +kernel
def splF (c : Nat) (ps : List (List Nat)) (x : Nat) : List (List Nat) := if x = c then ps ++ [[]] else ps.dropLast ++ [ps.getLastD [] ++ [x]]
def splN (c : Nat) (l : List Nat) : List (List Nat) := l.foldl (splF c) [[]]
theorem splF_snoc (c : Nat) (i : List (List Nat)) (p : List Nat) (x : Nat) : splF c (i ++ [p]) x = if x = c then i ++ [p] ++ [[]] else i ++ [p ++ [x]] := by
  unfold splF
  by_cases h : x = c
  · rw [if_pos h, if_pos h]
  · rw [if_neg h, if_neg h, List.dropLast_concat, List.getLastD_eq_getLast?, List.getLast?_concat]; rfl
theorem spl_fold (c : Nat) : ∀ (l : List Nat) (i : List (List Nat)) (p : List Nat), i ++ TL.spl [c] 0 p l = l.foldl (splF c) (i ++ [p])
  | [], i, p => by rw [TL.spl_nil]; rfl
  | x :: r, i, p => by
    rw [List.foldl_cons, splF_snoc]
    by_cases h : x = c
    · rw [if_pos h, TL.spl_hit (by subst h; simp [TL.pre]), ← spl_fold c r (i ++ [p]) []]
      simp
    · rw [if_neg h, ← spl_fold c r i (p ++ [x])]
      congr 1
      show (if TL.pre [c] (x :: r) = true then _ else _) = _
      rw [if_neg (by simp [TL.pre]; exact h)]
theorem split_tS (l : List Nat) {c : Nat} (hc : c < 256) : Txt.split (tS l) (tS [c]) = (splN c l).map tS := by
  have := SX.split_S (a := l) (b := [c]) (by simp) (by simp [hc])
  have e := spl_fold c l [] []
  simp only [List.nil_append] at e
  unfold splN
  rw [← e]
  exact this
theorem splN_snoc (c : Nat) (l : List Nat) (x : Nat) : splN c (l ++ [x]) = splF c (splN c l) x := by unfold splN; rw [List.foldl_append]; rfl
theorem splN_rev (c : Nat) (m : List Nat) : ∃ i p, splN c m.reverse = i ++ [p] ∧ p.length + i.length ≤ m.reverse.length ∧ (∀ q ∈ i ++ [p], q.length ≤ m.reverse.length ∧ ∀ x ∈ q, x ∈ m.reverse) := by
  induction m with
  | nil => exact ⟨[], [], rfl, by simp, by simp⟩
  | cons x l ih =>
    rw [List.reverse_cons]
    obtain ⟨i, p, e, h1, h2⟩ := ih
    rw [splN_snoc, e, splF_snoc]
    by_cases h : x = c
    · rw [if_pos h]
      refine ⟨i ++ [p], [], rfl, by simp at h1 ⊢; omega, fun q m => ?_⟩
      rcases List.mem_append.mp m with m | m
      · obtain ⟨a, b⟩ := h2 q m
        exact ⟨by simp at a ⊢; omega, fun y my => List.mem_append_left _ (b y my)⟩
      · simp at m; subst m; simp
    · rw [if_neg h]
      refine ⟨i, p ++ [x], rfl, by simp at h1 ⊢; omega, fun q m => ?_⟩
      rcases List.mem_append.mp m with m | m
      · obtain ⟨a, b⟩ := h2 q (List.mem_append_left _ m)
        exact ⟨by simp at a ⊢; omega, fun y my => List.mem_append_left _ (b y my)⟩
      · obtain rfl := List.mem_singleton.mp m
        obtain ⟨a, b⟩ := h2 p (by simp)
        refine ⟨by simp at a ⊢; omega, fun y my => ?_⟩
        rcases List.mem_append.mp my with my | my
        · exact List.mem_append_left _ (b y my)
        · exact List.mem_append_right _ my
theorem splN_last (c : Nat) (l : List Nat) : ∃ i p, splN c l = i ++ [p] ∧ p.length + i.length ≤ l.length ∧ (∀ q ∈ i ++ [p], q.length ≤ l.length ∧ ∀ x ∈ q, x ∈ l) := by
  have := splN_rev c l.reverse
  rwa [List.reverse_reverse] at this
theorem fig_in (c : Nat) : (!(PySem.Builtin.Str.occurrences (tS [48, 49, 50, 51, 52, 53, 54, 55, 56, 57]) (tS [c]) 0 10 1).isEmpty) = decide (48 ≤ c ∧ c ≤ 57) := by
  have h := tS_in' [48, 49, 50, 51, 52, 53, 54, 55, 56, 57] c
  have h2 : (!(PySem.Builtin.Str.occurrences (tS [48, 49, 50, 51, 52, 53, 54, 55, 56, 57]) (tS [c]) 0 10 1).isEmpty) = decide (c ∈ [48, 49, 50, 51, 52, 53, 54, 55, 56, 57]) := h
  rw [h2]
  by_cases hc : 48 ≤ c ∧ c ≤ 57
  · rw [decide_eq_true hc]
    simp
    omega
  · rw [decide_eq_false hc]
    simp
    omega
theorem log20 {n : Nat} (h : n < 10 ^ 20) : ((n : Nat) : Int).natAbs.log2 < 1920 := by
  rw [Int.natAbs_natCast]
  by_cases h0 : n = 0
  · subst h0; decide
  · refine (Nat.log2_lt h0).mpr (Nat.lt_trans h ?_)
    exact Nat.lt_of_lt_of_le (by decide : 10 ^ 20 < 2 ^ 100) (Nat.pow_le_pow_right (by decide) (by decide))
theorem okT_fig {l : List Nat} (h : ∀ c ∈ l, 48 ≤ c ∧ c ≤ 57) : okT l := fun c m => by have := h c m; omega
theorem ixN_end {n : Nat} : ixN (n + 1) (-1) = some n := by
  unfold ixN
  first
    | (rw [if_neg (by omega), if_pos (by omega)]; congr 1; omega)
    | (simp; omega)
theorem set_end {α : Type} (i : List α) (p q : α) : (i ++ [p]).set i.length q = i ++ [q] := by
  rw [List.set_append_right _ _ (Nat.le_refl _)]; simp
theorem kindsR : PyData.eqv (.list [.bool true, .bool true, .bool false, .bool false]) (.list [.bool true, .bool true, .bool false, .bool false]) = true := eqv_bL_self [true, true, false, false]
abbrev refD : D := .list [.str (tS [114, 101, 102, 117, 115, 101, 100]), .bool true]
theorem refD_same {Q : R → Prop} (hq : Q (.v (.bool true))) : 2 ≤ sizeLine ∧ okEq refD refD ∧ Q (.v (.bool (PyData.eqv refD refD))) := by
  have sh : Sh 2 refD := sh_list fun d m => by
    simp only [List.mem_cons, List.not_mem_nil, or_false] at m
    rcases m with rfl | rfl
    · exact okT.sh (by decide) _
    · exact sh_bool _ _
  refine ⟨by rw [sizeLine_eq]; decide, okEq_of sh sh (by decide), ?_⟩
  rw [eqv_self sh]
  exact hq
theorem atI_back {α : Type} {xs : List α} {k : Nat} (h : k < xs.length) : ∃ x ∈ xs, atI xs (-1 - (k : Int)) = some x := by
  have e : ixN xs.length (-1 - (k : Int)) = some (xs.length - 1 - k) := by
    unfold ixN
    first
      | (rw [if_neg (by omega), if_pos (by omega)]; congr 1; omega)
      | (simp; omega)
  have hk : xs.length - 1 - k < xs.length := by omega
  exact ⟨xs[xs.length - 1 - k], List.getElem_mem hk, atI_ixN e (List.getElem?_eq_getElem hk)⟩
end DL

namespace DL.L
open PySem L2 PyProof.Rows
def top (i : Nat) : Stmt := PySem.Challenge.pw_blotsure_k71_numbers_and_spots.main.body.getD i (.Pass ⟨0, 0, 0, 0⟩)
local macro_rules | `(tactic| walk_at "x") => `(tactic| fail)
local macro_rules | `(tactic| walk_at "sh") => `(tactic| repeat (first | exact sh_int _ _ | exact sh_bool _ _ | exact sh_none _ | assumption | exact (sh_nL _).mono (by decide) | exact okT.sh (by assumption) _ | exact (sh_iL _).mono (by decide) | refine sh_list ?_ | refine sh_tuple ?_ | refine (List.forall_mem_cons).mpr (And.intro ?_ ?_) | exact List.forall_mem_nil _ | refine List.forall_mem_map.mpr ?_ | intro _))
local macro_rules | `(tactic| walk_at "s") => `(tactic| (with_reducible refine wSq_of ?_))
local macro_rules | `(tactic| walk_at "e") => `(tactic| simp only [wLet, wAsg, wRet, wRetN, wAug, wApp, wExt, wIns, wExp, wPass, wBrk, wCnt, wFrz, wIf, wRaise, wNil, wVar, wC, w2, bI_int, wtv, c2, cEq, cNe, cEqS, isN, wChain, wtAnd, wtOr, wtNot, wAndV, wOrV, wNotV, wIfE, wTru, wIx, ixR_v, ixR_t, ixR_bl, ixR_bd, ixR_bls, wSl, woN, woE, wRev, wNeg, waN, waC, wTup, wLst, wDic0, wB, f1_one, f1s_one, f2_two, wIsi, isiB, wCall, wiL, wiLB, wiT, wiA, wiAB, walkA_l, walkA_t, walkA_s, walkA_n, walkAB_l, walkAB_t, walkAB_s, walkAB_n, walkAB_b, oR_f, oR_l, oR_d, oR_ls, wiR1, wiR2, Int.toNat_natCast, rgD_0, bxor_nat, bor_nat, shl_nat, shr_nat, shl_nat2, shr_nat2, band1_nat, atI_c0, atI_c1, atI_c2, atI_c3, atI_c4, atI_snoc, atI_msnoc, List.length_map, Int.reduceAdd, Int.reduceSub, Int.reduceMul, Int.reduceDiv, Int.reduceMod, Int.reduceNeg, Int.reduceToNat, Nat.reduceAdd, Nat.reduceSub, Nat.reduceMul, nL_snoc, nL_set, okEq_nL, eqv_nL, okEq_iL, eqv_iL, okEq_nL0, eqv_nilL, eqv_nilT, isEmpty_map, true_imp_iff, false_imp_iff, ne_eq, not_true_eq_false, not_false_eq_true, nL_iff, iL_iff, zL_iff, pL_iff, sL_iff, sL_snoc, nat_iff, gN, gT_t, gsC_c, gsN_n, R.d_v, R.d_t, R.d_b, decide_true, decide_false, Bool.not_eq_true, R.sh_v, R.sh_t, R.sh_bf, R.sh_bl, R.sh_bd, R.st_v, R.st_t, R.o_v, R.o_t, R.out_v, R.out_t, R.out_b, R.free_v, R.free_t, noL_int, noL_str, noL_bool, noL_none, noL_tuple, noLs_nil, noLs_cons, Bool.and_self, Bool.and_true, O.frz_fro, O.frz_lst, O.frz_dic, O.frz_lsts, allSt_nil, allSt_cons, isLst_lst, isLst_lsts, appO_lst, appO_lsts, eqv_int, eqv_str, eqv_bool, eqv_none, okEq_int, okEq_str, okEq_bool, startD, List.map_cons, List.map_nil, List.length_cons, List.length_nil, List.nil_append, List.cons_append, List.append_nil, List.getElem?_cons_zero, List.getElem?_cons_succ, List.set_cons_zero, List.set_cons_succ, List.replicate, List.foldl_cons, List.foldl_nil, frzAt, wLook, R.lean_v, R.lean_t, R.lean_ts, O.leanL_lst, O.leanL_fro, true_and, and_true, true_or, or_true, false_or, Bool.false_eq_true, if_true, if_false, ite_true, ite_false, PyData.int.injEq, PyData.str.injEq, PyData.bool.injEq, PyData.list.injEq, PyData.tuple.injEq, exists_eq_left, exists_eq_left', exists_eq', decide_eq_true_eq, Option.some.injEq, O.fro.injEq, O.lst.injEq, O.lsts.injEq, exists_and_left, exists_const, wipeE, seqD_list, seqD_tuple, enD_rt, enD_nx, enD_ex, enD_bk, enD_ct, List.set_nil, wipeE, wLc_eq, wFor_eq, Bool.not_true, Bool.not_false, reduceIte, bAdd_i, bAdd_s, bAdd_l, bAdd_t, lenD_s, lenD_l, lenD_t, lenD_d, min2D_i, min2D_s, max2D_i, sumD_l, maxD_l, minD_l, allD_l, anyD_l, ordD_s, strD_i, intD_i, intD_b, intD_s, listD_l, listD_t, tupleD_l, tupleD_t, slD_l, slD_t, slD_s, ixD_l, ixD_t, ixD_s, ixD_d, cI_i, cI_s, cI_t, cI0_i, cI0_s, cIs_n, cIsNot_n, cIn_l, cIn_t, cIn_d, cIn_s, tru_n, tru_b, tru_i, tru_s, tru_l, tru_t, ← List.map_take, ← List.map_drop, ← List.map_append, ← List.map_reverse, cut_toL, cut_fromL, cut_inL, cut_to, cut_from, cut_in, cut_all, cut_front, setL_cons, setL_nil, flatD_int, flatD_str, flatD_bool, flatD_none, bne_self_eq_false, Bool.false_bne, Bool.true_bne, wiZip, zipR_l, zipR_t, zipD_map, wiEnum, wiRev, wiR3, wiS, wSt, stO_lst, stO_lsts, stO_dic, isMut_lst, isMut_lsts, isMut_dic, wMulA, bMul_i, bMul_l, bMul_s, repS_tS, wMe, fJoin_1, fSplit_1, fRstrip_1, fFind_1, wGet2, getD, wUnp, wPar, wPop, wTry, wTryO, wTryM, wClauses, endN, end0, wIsE, PyData.dict.injEq, O.dic.injEq, O.raw.injEq, keyD, and_self, List.concat_eq_append, wLcO_eq, sortedE_l, sortedE_d, sortedD_d, dictD_l, dictD_t, divmodD_i, wApp2, wSt2, wDic, wpN, wpC, flat_nL, flat_iL, wRevA, wLRev, revD_l, revD_s, revS_tS, wLcE_eq, wLcOE_eq, wLookT])
local macro_rules | `(tactic| walk_at "c") => `(tactic| first | exact mul_by (by decide) | exact mul_of (by decide) | exact cpow_ok (by omega) (by omega) (by first | decide | omega) | exact cdiv_ok (by omega) (by decide +kernel) | exact cdiv_int (by omega) (by omega) | (with_reducible decide) | (with_reducible omega) | (rw [sizeLine_eq]; (try simp only [List.length_map, List.length_append, List.length_cons, List.length_nil, List.length_range, List.length_take, List.length_drop, List.length_reverse, List.length_set]); with_reducible omega) | (with_reducible assumption) | exact pow_pos_go _ | exact mul_by (by omega) | exact mul_of (by omega))
local macro_rules | `(tactic| walk_at "g") => `(tactic| repeat (first | (with_reducible refine wSq_of ?_) | simp only [wLet, wAsg, wRet, wRetN, wAug, wApp, wExt, wIns, wExp, wPass, wBrk, wCnt, wFrz, wIf, wRaise, wNil, wVar, wC, w2, bI_int, wtv, c2, cEq, cNe, cEqS, isN, wChain, wtAnd, wtOr, wtNot, wAndV, wOrV, wNotV, wIfE, wTru, wIx, ixR_v, ixR_t, ixR_bl, ixR_bd, ixR_bls, wSl, woN, woE, wRev, wNeg, waN, waC, wTup, wLst, wDic0, wB, f1_one, f1s_one, f2_two, wIsi, isiB, wCall, wiL, wiLB, wiT, wiA, wiAB, walkA_l, walkA_t, walkA_s, walkA_n, walkAB_l, walkAB_t, walkAB_s, walkAB_n, walkAB_b, oR_f, oR_l, oR_d, oR_ls, wiR1, wiR2, Int.toNat_natCast, rgD_0, bxor_nat, bor_nat, shl_nat, shr_nat, shl_nat2, shr_nat2, band1_nat, atI_c0, atI_c1, atI_c2, atI_c3, atI_c4, atI_snoc, atI_msnoc, List.length_map, Int.reduceAdd, Int.reduceSub, Int.reduceMul, Int.reduceDiv, Int.reduceMod, Int.reduceNeg, Int.reduceToNat, Nat.reduceAdd, Nat.reduceSub, Nat.reduceMul, nL_snoc, nL_set, okEq_nL, eqv_nL, okEq_iL, eqv_iL, okEq_nL0, eqv_nilL, eqv_nilT, isEmpty_map, true_imp_iff, false_imp_iff, ne_eq, not_true_eq_false, not_false_eq_true, nL_iff, iL_iff, zL_iff, pL_iff, sL_iff, sL_snoc, nat_iff, gN, gT_t, gsC_c, gsN_n, R.d_v, R.d_t, R.d_b, decide_true, decide_false, Bool.not_eq_true, R.sh_v, R.sh_t, R.sh_bf, R.sh_bl, R.sh_bd, R.st_v, R.st_t, R.o_v, R.o_t, R.out_v, R.out_t, R.out_b, R.free_v, R.free_t, noL_int, noL_str, noL_bool, noL_none, noL_tuple, noLs_nil, noLs_cons, Bool.and_self, Bool.and_true, O.frz_fro, O.frz_lst, O.frz_dic, O.frz_lsts, allSt_nil, allSt_cons, isLst_lst, isLst_lsts, appO_lst, appO_lsts, eqv_int, eqv_str, eqv_bool, eqv_none, okEq_int, okEq_str, okEq_bool, startD, List.map_cons, List.map_nil, List.length_cons, List.length_nil, List.nil_append, List.cons_append, List.append_nil, List.getElem?_cons_zero, List.getElem?_cons_succ, List.set_cons_zero, List.set_cons_succ, List.replicate, List.foldl_cons, List.foldl_nil, frzAt, wLook, R.lean_v, R.lean_t, R.lean_ts, O.leanL_lst, O.leanL_fro, true_and, and_true, true_or, or_true, false_or, Bool.false_eq_true, if_true, if_false, ite_true, ite_false, PyData.int.injEq, PyData.str.injEq, PyData.bool.injEq, PyData.list.injEq, PyData.tuple.injEq, exists_eq_left, exists_eq_left', exists_eq', decide_eq_true_eq, Option.some.injEq, O.fro.injEq, O.lst.injEq, O.lsts.injEq, exists_and_left, exists_const, wipeE, seqD_list, seqD_tuple, enD_rt, enD_nx, enD_ex, enD_bk, enD_ct, List.set_nil, wipeE, wLc_eq, wFor_eq, Bool.not_true, Bool.not_false, reduceIte, bAdd_i, bAdd_s, bAdd_l, bAdd_t, lenD_s, lenD_l, lenD_t, lenD_d, min2D_i, min2D_s, max2D_i, sumD_l, maxD_l, minD_l, allD_l, anyD_l, ordD_s, strD_i, intD_i, intD_b, intD_s, listD_l, listD_t, tupleD_l, tupleD_t, slD_l, slD_t, slD_s, ixD_l, ixD_t, ixD_s, ixD_d, cI_i, cI_s, cI_t, cI0_i, cI0_s, cIs_n, cIsNot_n, cIn_l, cIn_t, cIn_d, cIn_s, tru_n, tru_b, tru_i, tru_s, tru_l, tru_t, ← List.map_take, ← List.map_drop, ← List.map_append, ← List.map_reverse, cut_toL, cut_fromL, cut_inL, cut_to, cut_from, cut_in, cut_all, cut_front, setL_cons, setL_nil, flatD_int, flatD_str, flatD_bool, flatD_none, bne_self_eq_false, Bool.false_bne, Bool.true_bne, wiZip, zipR_l, zipR_t, zipD_map, wiEnum, wiRev, wiR3, wiS, wSt, stO_lst, stO_lsts, stO_dic, isMut_lst, isMut_lsts, isMut_dic, wMulA, bMul_i, bMul_l, bMul_s, repS_tS, wMe, fJoin_1, fSplit_1, fRstrip_1, fFind_1, wGet2, getD, wUnp, wPar, wPop, wTry, wTryO, wTryM, wClauses, endN, end0, wIsE, PyData.dict.injEq, O.dic.injEq, O.raw.injEq, keyD, and_self, List.concat_eq_append, wLcO_eq, sortedE_l, sortedE_d, sortedD_d, dictD_l, dictD_t, divmodD_i, wApp2, wSt2, wDic, wpN, wpC, flat_nL, flat_iL, wRevA, wLRev, revD_l, revD_s, revS_tS, wLcE_eq, wLcOE_eq, wLookT] | walk_at "x" | (with_reducible refine And.intro (by walk_at "c") ?_)))
local macro_rules | `(tactic| walk_at "h") => `(tactic| repeat (first | (with_reducible refine wSq_of ?_) | simp only [wLet, wAsg, wRet, wRetN, wAug, wApp, wExt, wIns, wExp, wPass, wBrk, wCnt, wFrz, wIf, wRaise, wNil, wVar, wC, w2, bI_int, wtv, c2, cEq, cNe, cEqS, isN, wChain, wtAnd, wtOr, wtNot, wAndV, wOrV, wNotV, wIfE, wTru, wIx, ixR_v, ixR_t, ixR_bl, ixR_bd, ixR_bls, wSl, woN, woE, wRev, wNeg, waN, waC, wTup, wLst, wDic0, wB, f1_one, f1s_one, f2_two, wIsi, isiB, wCall, wiL, wiLB, wiT, wiA, wiAB, walkA_l, walkA_t, walkA_s, walkA_n, walkAB_l, walkAB_t, walkAB_s, walkAB_n, walkAB_b, oR_f, oR_l, oR_d, oR_ls, wiR1, wiR2, Int.toNat_natCast, rgD_0, bxor_nat, bor_nat, shl_nat, shr_nat, shl_nat2, shr_nat2, band1_nat, atI_c0, atI_c1, atI_c2, atI_c3, atI_c4, atI_snoc, atI_msnoc, List.length_map, Int.reduceAdd, Int.reduceSub, Int.reduceMul, Int.reduceDiv, Int.reduceMod, Int.reduceNeg, Int.reduceToNat, Nat.reduceAdd, Nat.reduceSub, Nat.reduceMul, nL_snoc, nL_set, okEq_nL, eqv_nL, okEq_iL, eqv_iL, okEq_nL0, eqv_nilL, eqv_nilT, isEmpty_map, true_imp_iff, false_imp_iff, ne_eq, not_true_eq_false, not_false_eq_true, nL_iff, iL_iff, zL_iff, pL_iff, sL_iff, sL_snoc, nat_iff, tS_len, tS_app, tS_iff, tS_sg, tS_cut, tS_one, ite_and2, ite_or2, List.cons.injEq, tL_iff, tL_snoc, tL_set, cps_getD, lt_tS, tS_in, tS_in', tS_cps, eqv_tL, lit_iff, zL_snoc, pL_snoc, gN, gT_t, gsC_c, gsN_n, R.d_v, R.d_t, R.d_b, decide_true, decide_false, Bool.not_eq_true, R.sh_v, R.sh_t, R.sh_bf, R.sh_bl, R.sh_bd, R.st_v, R.st_t, R.o_v, R.o_t, R.out_v, R.out_t, R.out_b, R.free_v, R.free_t, noL_int, noL_str, noL_bool, noL_none, noL_tuple, noLs_nil, noLs_cons, Bool.and_self, Bool.and_true, O.frz_fro, O.frz_lst, O.frz_dic, O.frz_lsts, allSt_nil, allSt_cons, isLst_lst, isLst_lsts, appO_lst, appO_lsts, eqv_int, eqv_str, eqv_bool, eqv_none, okEq_int, okEq_str, okEq_bool, startD, List.map_cons, List.map_nil, List.length_cons, List.length_nil, List.nil_append, List.cons_append, List.append_nil, List.getElem?_cons_zero, List.getElem?_cons_succ, List.set_cons_zero, List.set_cons_succ, List.replicate, List.foldl_cons, List.foldl_nil, frzAt, wLook, R.lean_v, R.lean_t, R.lean_ts, O.leanL_lst, O.leanL_fro, true_and, and_true, true_or, or_true, false_or, Bool.false_eq_true, if_true, if_false, ite_true, ite_false, PyData.int.injEq, PyData.str.injEq, PyData.bool.injEq, PyData.list.injEq, PyData.tuple.injEq, exists_eq_left, exists_eq_left', exists_eq', decide_eq_true_eq, Option.some.injEq, O.fro.injEq, O.lst.injEq, O.lsts.injEq, exists_and_left, exists_const, wipeE, seqD_list, seqD_tuple, enD_rt, enD_nx, enD_ex, enD_bk, enD_ct, List.set_nil, wipeE, wLc_eq, wFor_eq, Bool.not_true, Bool.not_false, reduceIte, bAdd_i, bAdd_s, bAdd_l, bAdd_t, lenD_s, lenD_l, lenD_t, lenD_d, min2D_i, min2D_s, max2D_i, sumD_l, maxD_l, minD_l, allD_l, anyD_l, ordD_s, strD_i, intD_i, intD_b, intD_s, listD_l, listD_t, tupleD_l, tupleD_t, slD_l, slD_t, slD_s, ixD_l, ixD_t, ixD_s, ixD_d, cI_i, cI_s, cI_t, cI0_i, cI0_s, cIs_n, cIsNot_n, cIn_l, cIn_t, cIn_d, cIn_s, tru_n, tru_b, tru_i, tru_s, tru_l, tru_t, ← List.map_take, ← List.map_drop, ← List.map_append, ← List.map_reverse, cut_toL, cut_fromL, cut_inL, cut_to, cut_from, cut_in, cut_all, cut_front, setL_cons, setL_nil, flatD_int, flatD_str, flatD_bool, flatD_none, bne_self_eq_false, Bool.false_bne, Bool.true_bne, wiZip, zipR_l, zipR_t, zipD_map, wiEnum, wiRev, wiR3, wiS, wSt, stO_lst, stO_lsts, stO_dic, isMut_lst, isMut_lsts, isMut_dic, wMulA, bMul_i, bMul_l, bMul_s, repS_tS, wMe, fJoin_1, fSplit_1, fRstrip_1, fFind_1, wGet2, getD, wUnp, wPar, wPop, wTry, wTryO, wTryM, wClauses, endN, end0, wIsE, PyData.dict.injEq, O.dic.injEq, O.raw.injEq, keyD, and_self, List.concat_eq_append, wLcO_eq, sortedE_l, sortedE_d, sortedD_d, dictD_l, dictD_t, divmodD_i, wApp2, wSt2, wDic, wpN, wpC, flat_nL, flat_iL, wRevA, wLRev, revD_l, revD_s, revS_tS, wLcE_eq, wLcOE_eq, wLookT] | walk_at "x" | (with_reducible refine And.intro (by walk_at "c") ?_)))

def exNs : List Str := ["BlotError", "NoRow", "NoName", "NoNote"]
/-! read_number -/
--uses MY
def f_read_number : D → (R → Prop) → (Str → Prop) → Prop := fun a Q E => ∃ l : List Nat, a = .str (tS l) ∧ l.length ≤ 2000 ∧ (¬ numB l → E "NoNote") ∧ (numB l → Q (.v (.int (valN l))))
def S_read_number : Spec := sp1 f_read_number
theorem e_read_number (x0 : D) (Q : R → Prop) (E : Str → Prop) : S_read_number [x0] Q E = f_read_number x0 Q E := rfl
abbrev st_read_number : Stmt := top 7
def m_read_number : WS := (wSq (wIf (wtNot (wChain cLe cLe (wC (.int 1)) (wB (f1 lenD) (waC (wVar 0) waN)) (wC (.int 20)))) (wRaise "NoNote") wNil) (wSq (wFor (wiA (wVar 0)) (gN 1) (wIf (c2 (cIn true) (wVar 1) (wC (.str (tS [48, 49, 50, 51, 52, 53, 54, 55, 56, 57])))) (wRaise "NoNote") wNil)) (wSq (wIf (wtAnd (c2 cEq (wIx (wVar 0) (wC (.int 0))) (wC (.str (tS [48])))) (c2 cGt (wB (f1 lenD) (waC (wVar 0) waN)) (wC (.int 1)))) (wRaise "NoNote") wNil) (wRet (wB (f1 intD) (waC (wVar 0) waN))))))
theorem sc_read_number : FnScope ["text", "figure"] ["text"] (defScope st_read_number) := ⟨rfl, rfl, rfl, by decide +kernel, rfl, by decide +kernel, by decide +kernel⟩
theorem d_read_number {P : Program} {w : World} {K : K0} {mg : Str → Option Value} {base : Heap} (T : Gb mg) {t_FIGURES : Tok} (c_FIGURES : mg "FIGURES" = some (.str "0123456789" t_FIGURES)) (X_NoNote : ExAt K mg "NoNote") {f : Addr} (cdv : Value) (A : Around) (outer : List PySem.Env) (s : Shared) (H : Hp) (E : XK) (G : Hp) (hr : Room 0 (A.deeper (envOfC "read_number" (defScope st_read_number) s.heap.objs.size f cdv)))
    (tk : Takes (XB P w K mg base ["text", "figure"] "read_number" (defScope st_read_number) f cdv A outer s H E) (fun cls d _ H => E cls d H)) (hp : PassesOwn (model P w) (XB P w K mg base ["text", "figure"] "read_number" (defScope st_read_number) f cdv A outer s H E).A (XB P w K mg base ["text", "figure"] "read_number" (defScope st_read_number) f cdv A outer s H E).env (XB P w K mg base ["text", "figure"] "read_number" (defScope st_read_number) f cdv A outer s H E).xe) :
    DSs (XB P w K mg base ["text", "figure"] "read_number" (defScope st_read_number) f cdv A outer s H E) (fun cls d _ H => E cls d H) G (defBody st_read_number) m_read_number :=
  (dss_cons (ds_if (dt_not (dt_chain opLeD opLeD (de_c pe_int rfl) (de_B cLen (by rfl) T.len (by decide +kernel) (da_cons (de_var 0 (pv 0)) da_nil (by rfl)) (by decide) (by decide) (by rfl) (by rfl)) (de_c pe_int rfl) (by with_unfolding_all rfl))) (dss_one (ds_raise' X_NoNote rfl tk (by rfl) (by decide))) dss_nil) (dss_cons (ds_for (vs := [1]) hp rfl (di_any (de_var 0 (pv 0))) (dg_name (i := 1) (by decide) sc_read_number.nd rfl (by first | exact Or.inl rfl | exact Or.inr rfl) (by first | exact Or.inl rfl | exact Or.inr rfl)) (dss_one (ds_if (dt_cmp (opNotInD (hu_of hr)) (de_var 1 (pv 1)) (de_c (d := .str (tS [48, 49, 50, 51, 52, 53, 54, 55, 56, 57])) (v := .str (tS [48, 49, 50, 51, 52, 53, 54, 55, 56, 57])) (pe_glob rfl c_FIGURES ⟨_, rfl⟩) rfl) (by with_unfolding_all rfl)) (dss_one (ds_raise' X_NoNote rfl tk (by rfl) (by decide))) dss_nil)) (by intro _; rfl)) (dss_cons (ds_if (dt_w (dw_and (dt_cmp (opEqD hr.units) (de_ix (hu_of hr) (de_var 0 (pv 0)) (de_c pe_int rfl) (fun _ _ => rfl)) (de_c (d := .str (tS [48])) (v := .str (tS [48])) pe_str rfl) (nomark _)) (dw_and1 (dt_cmp opGtD (de_B cLen (by rfl) T.len (by decide +kernel) (da_cons (de_var 0 (pv 0)) da_nil (by rfl)) (by decide) (by decide) (by rfl) (by rfl)) (de_c pe_int rfl) (nomark _))))) (dss_one (ds_raise' X_NoNote rfl tk (by rfl) (by decide))) dss_nil) (dss_one (ds_ret (de_T cInt (by rfl) T.int (by decide +kernel) (da_cons (de_var 0 (pv 0)) da_nil (by rfl)) (by decide) (by decide) (by rfl) (by rfl)))))))
theorem l_read_number : ∀ ds Q E, S_read_number ds Q E → ds.length = 1 := sp1_len rfl
theorem w_read_number : ∀ ds Q E, S_read_number ds Q E → m_read_number (enD Q E) (startD ["text", "figure"] ds) := sp1_w (by
  rintro a0 Q E ⟨l, rfl, hl, he, hq⟩
  unfold m_read_number startD
  walk_at "h"
  walk_at "h"
  refine ite_i (fun h1 => ?_) fun h1 => he fun g => by have := g.1; omega
  refine ite_i (fun h2 => he fun g => by have := g.2.1; simp at h2; omega) fun h2 => ?_
  have h20 : l.length ≤ 20 := by simp at h2; omega
  walk_at "h"
  refine for_gs [1] (fun o : Option O => [o]) (fun k _ => ∀ c ∈ l.take k, 48 ≤ c ∧ c ≤ 57) none rfl (by simp) ?_ ?_
  · rintro k c o hd hI
    have hm := List.mem_of_getElem? hd
    walk_at "h"
    refine ite_i (fun h => he fun g => ?_) fun h => ?_
    · rw [fig_in] at h
      have := g.2.2.1 c hm
      simp [this] at h
    · refine nxF _ rfl fun x m => ?_
      rw [take_succ hd] at m
      rcases List.mem_append.mp m with m | m
      · exact hI x m
      · obtain rfl := List.mem_singleton.mp m
        rw [fig_in] at h
        simpa using h
  rintro o hI
  rw [List.take_length] at hI
  have hp : 0 < l.length := by omega
  walk_at "h"
  have fin : numB l → ∃ n, PySem.intText? (tS l) = some n ∧ l.length ≤ 640 ∧ Q (R.v (PyData.int n)) := fun g => ⟨_, int_tS hI (fun e => by rw [e] at hp; simp at hp) (by omega), by omega, hq g⟩
  refine ⟨_, atI_lt (i := 0) hp, ?_⟩
  have e0 : l.headD 0 = l[0] := by cases l with | nil => simp at hp | cons a b => rfl
  refine ite_i (fun h => ⟨by rw [sizeLine_eq]; omega, ite_i (fun h3 => he fun g => by have := g.2.2.2 (by rw [e0]; exact h); omega) fun h3 => fin ⟨by omega, h20, hI, fun _ => by omega⟩⟩) fun h => fin ⟨by omega, h20, hI, fun z => absurd (e0.symm.trans z) h⟩)
theorem ok_read_number {P : Program} {w : World} {K : K0} {mg : Str → Option Value} {base : Heap} {f : Addr} {fd : FuncData} (F : FunD K "read_number" "read_number" (defArgs st_read_number) (defBody st_read_number) (defScope st_read_number) [] [] f fd) (g : mg "read_number" = some (.ref f)) (T : Gb mg) {t_FIGURES : Tok} (c_FIGURES : mg "FIGURES" = some (.str "0123456789" t_FIGURES)) (X_NoNote : ExAt K mg "NoNote") : FnAt P w K mg base 1 "read_number" ["text"] [] S_read_number :=
  fnAt F g sc_read_number (fun _ _ _ _ _ _ us hl => match us, hl with | [_], _ => rfl) l_read_number (fun cdv A outer s H E G hr tk hp => d_read_number T c_FIGURES X_NoNote cdv A outer s H E G hr tk hp) w_read_number
/-! read_spot -/
--uses MY
def f_read_spot : D → (R → Prop) → (Str → Prop) → Prop := fun a Q E => ∃ l : List Nat, a = .str (tS l) ∧ l.length ≤ 2000 ∧ ((¬ ∃ p q, splN 44 l = [p, q] ∧ numB p ∧ numB q) → E "NoNote") ∧ (∀ p q, splN 44 l = [p, q] → numB p → numB q → Q (.v (.tuple [.int (valN p), .int (valN q)])))
def S_read_spot : Spec := sp1 f_read_spot
theorem e_read_spot (x0 : D) (Q : R → Prop) (E : Str → Prop) : S_read_spot [x0] Q E = f_read_spot x0 Q E := rfl
abbrev st_read_spot : Stmt := top 8
def m_read_spot : WS := (wSq (wLet 1 (wMe fSplit (wVar 0) (waC (wC (.str (tS [44]))) waN))) (wSq (wIf (c2 cNe (wB (f1 lenD) (waC (wVar 1) waN)) (wC (.int 2))) (wRaise "NoNote") wNil) (wRet (wTup (waC (wCall S_read_number [] (waC (wIx (wVar 1) (wC (.int 0))) waN)) (waC (wCall S_read_number [] (waC (wIx (wVar 1) (wC (.int 1))) waN)) waN))))))
theorem sc_read_spot : FnScope ["text", "parts"] ["text"] (defScope st_read_spot) := ⟨rfl, rfl, rfl, by decide +kernel, rfl, by decide +kernel, by decide +kernel⟩
theorem d_read_spot {P : Program} {w : World} {K : K0} {mg : Str → Option Value} {base : Heap} (T : Gb mg) (X_NoNote : ExAt K mg "NoNote") (F_read_number : FnAt P w K mg base 1 "read_number" ["text"] [] S_read_number) {f : Addr} (cdv : Value) (A : Around) (outer : List PySem.Env) (s : Shared) (H : Hp) (E : XK) (G : Hp) (hr : Room 1 (A.deeper (envOfC "read_spot" (defScope st_read_spot) s.heap.objs.size f cdv)))
    (tk : Takes (XB P w K mg base ["text", "parts"] "read_spot" (defScope st_read_spot) f cdv A outer s H E) (fun cls d _ H => E cls d H)) (hp : PassesOwn (model P w) (XB P w K mg base ["text", "parts"] "read_spot" (defScope st_read_spot) f cdv A outer s H E).A (XB P w K mg base ["text", "parts"] "read_spot" (defScope st_read_spot) f cdv A outer s H E).env (XB P w K mg base ["text", "parts"] "read_spot" (defScope st_read_spot) f cdv A outer s H E).xe) :
    DSs (XB P w K mg base ["text", "parts"] "read_spot" (defScope st_read_spot) f cdv A outer s H E) (fun cls d _ H => E cls d H) G (defBody st_read_spot) m_read_spot :=
  (dss_cons (ds_let (i := 1) sc_read_spot.nd rfl (by first | exact Or.inl rfl | exact Or.inr rfl) (dm_split ⟨by rfl, by rfl, by rfl, by rfl, by rfl⟩ (de_var 0 (pv 0)) (da_cons (de_c (d := .str (tS [44])) (v := .str (tS [44])) pe_str rfl) da_nil (by rfl))) (by rfl) (by first | exact Or.inl rfl | exact Or.inr rfl)) (dss_cons (ds_if (dt_cmp (opNeD hr.units) (de_B cLen (by rfl) T.len (by decide +kernel) (da_cons (de_var 1 (pv 1)) da_nil (by rfl)) (by decide) (by decide) (by rfl) (by rfl)) (de_c pe_int rfl) (nomark _)) (dss_one (ds_raise' X_NoNote rfl tk (by rfl) (by decide))) dss_nil) (dss_one (ds_ret (de_tup (da_cons (de_call' F_read_number hr (by decide) (by rfl) (fun _ => .nil) tk (da_cons (de_ix (hu_of hr) (de_var 1 (pv 1)) (de_c pe_int rfl) (fun _ _ => rfl)) da_nil (by rfl)) (by decide) (by rfl) (by rfl)) (da_cons (de_call' F_read_number hr (by decide) (by rfl) (fun _ => .nil) tk (da_cons (de_ix (hu_of hr) (de_var 1 (pv 1)) (de_c pe_int rfl) (fun _ _ => rfl)) da_nil (by rfl)) (by decide) (by rfl) (by rfl)) da_nil (by rfl)) (by rfl)))))))
theorem l_read_spot : ∀ ds Q E, S_read_spot ds Q E → ds.length = 1 := sp1_len rfl
local macro_rules | `(tactic| walk_at "x") => `(tactic| simp only [e_read_number, f_read_number])
theorem w_read_spot : ∀ ds Q E, S_read_spot ds Q E → m_read_spot (enD Q E) (startD ["text", "parts"] ds) := sp1_w (by
  rintro a0 Q E ⟨l, rfl, hl, he, hq⟩
  unfold m_read_spot startD
  walk_at "h"
  walk_at "h"
  rw [split_tS l (by decide)]
  walk_at "h"
  obtain ⟨i, p, e, e1, e2⟩ := splN_last 44 l
  refine ite_i (fun h => he fun ⟨p, q, g, _⟩ => by rw [g] at h; simp at h) fun h => ?_
  obtain ⟨p, q, g⟩ : ∃ p q, splN 44 l = [p, q] := by
    cases h1 : splN 44 l with
    | nil => rw [h1] at h; simp at h
    | cons a t => cases t with
      | nil => rw [h1] at h; simp at h
      | cons b t => cases t with
        | nil => exact ⟨a, b, rfl⟩
        | cons c t => rw [h1] at h; simp at h; omega
  rw [← e] at e2
  rw [g] at e2 ⊢
  have hp := (e2 p (by simp)).1
  have hq2 := (e2 q (by simp)).1
  refine ⟨_, rfl, p, rfl, by omega, fun n => he fun ⟨p', q', a, b, _⟩ => by rw [g] at a; simp at a; rw [← a.1] at b; exact n b, fun n1 => ⟨_, rfl, q, rfl, by omega, fun n => he fun ⟨p', q', a, _, b⟩ => by rw [g] at a; simp at a; rw [← a.2] at b; exact n b, fun n2 => ⟨by rw [sizeLine_eq]; omega, hq p q g n1 n2⟩⟩⟩)
theorem ok_read_spot {P : Program} {w : World} {K : K0} {mg : Str → Option Value} {base : Heap} {f : Addr} {fd : FuncData} (F : FunD K "read_spot" "read_spot" (defArgs st_read_spot) (defBody st_read_spot) (defScope st_read_spot) [] [] f fd) (g : mg "read_spot" = some (.ref f)) (T : Gb mg) (X_NoNote : ExAt K mg "NoNote") (F_read_number : FnAt P w K mg base 1 "read_number" ["text"] [] S_read_number) : FnAt P w K mg base 2 "read_spot" ["text"] [] S_read_spot :=
  fnAt F g sc_read_spot (fun _ _ _ _ _ _ us hl => match us, hl with | [_], _ => rfl) l_read_spot (fun cdv A outer s H E G hr tk hp => d_read_spot T X_NoNote F_read_number cdv A outer s H E G hr tk hp) w_read_spot
/-! law_mixed -/
--uses MY
def f_law_mixed : D → D → (R → Prop) → (Str → Prop) → Prop := fun a b Q E => ∃ z : Int, a = .int z ∧ ∃ k : Int, b = .int k ∧ 0 ≤ k ∧ k ≤ 10000 ∧ ∀ n : Nat, n < 2147483647 → Q (.v (.int n))
def S_law_mixed : Spec := sp2 f_law_mixed
theorem e_law_mixed (x0 x1 : D) (Q : R → Prop) (E : Str → Prop) : S_law_mixed [x0, x1] Q E = f_law_mixed x0 x1 Q E := rfl
abbrev st_law_mixed : Stmt := top 10
def m_law_mixed : WS := (wRet (wMod (wMul (wAdd (wAdd (wMul (wMod (wVar 0) (wC (.int 1000000007))) (wAdd (wC (.int 48271)) (wMul (wC (.int 2)) (wVar 1)))) (wMul (wMul (wC (.int 7)) (wVar 1)) (wVar 1))) (wC (.int 11))) (wC (.int 69621))) (wC (.int 2147483647))))
theorem sc_law_mixed : FnScope ["cell", "k"] ["cell", "k"] (defScope st_law_mixed) := ⟨rfl, rfl, rfl, by decide +kernel, rfl, by decide +kernel, by decide +kernel⟩
theorem d_law_mixed {P : Program} {w : World} {K : K0} {mg : Str → Option Value} {base : Heap} (T : Gb mg) {f : Addr} (cdv : Value) (A : Around) (outer : List PySem.Env) (s : Shared) (H : Hp) (E : XK) (G : Hp) (hr : Room 0 (A.deeper (envOfC "_law_mixed" (defScope st_law_mixed) s.heap.objs.size f cdv)))
    (tk : Takes (XB P w K mg base ["cell", "k"] "_law_mixed" (defScope st_law_mixed) f cdv A outer s H E) (fun cls d _ H => E cls d H)) (hp : PassesOwn (model P w) (XB P w K mg base ["cell", "k"] "_law_mixed" (defScope st_law_mixed) f cdv A outer s H E).A (XB P w K mg base ["cell", "k"] "_law_mixed" (defScope st_law_mixed) f cdv A outer s H E).env (XB P w K mg base ["cell", "k"] "_law_mixed" (defScope st_law_mixed) f cdv A outer s H E).xe) :
    DSs (XB P w K mg base ["cell", "k"] "_law_mixed" (defScope st_law_mixed) f cdv A outer s H E) (fun cls d _ H => E cls d H) G (defBody st_law_mixed) m_law_mixed :=
  (dss_one (ds_ret (de_mod (de_mul (de_add (de_add (de_mul (de_mod (de_var 0 (pv 0)) (de_c pe_int rfl)) (de_add (de_c pe_int rfl) (de_mul (de_c pe_int rfl) (de_var 1 (pv 1))))) (de_mul (de_mul (de_c pe_int rfl) (de_var 1 (pv 1))) (de_var 1 (pv 1)))) (de_c pe_int rfl)) (de_c pe_int rfl)) (de_c pe_int rfl))))
theorem l_law_mixed : ∀ ds Q E, S_law_mixed ds Q E → ds.length = 2 := sp2_len rfl
theorem w_law_mixed : ∀ ds Q E, S_law_mixed ds Q E → m_law_mixed (enD Q E) (startD ["cell", "k"] ds) := sp2_w (by
  rintro a0 a1 Q E ⟨z, rfl, k, rfl, hk0, hk, hq⟩
  unfold m_law_mixed startD
  walk_at "h"
  walk_at "h"
  obtain ⟨n, n1, n2⟩ := emod_nat (a := (z % 1000000007 * (48271 + 2 * k) + 7 * k * k + 11) * 69621) (b := 2147483647) (by decide)
  rw [n1]
  exact hq n (by omega))
theorem ok_law_mixed {P : Program} {w : World} {K : K0} {mg : Str → Option Value} {base : Heap} {f : Addr} {fd : FuncData} (F : FunD K "_law_mixed" "_law_mixed" (defArgs st_law_mixed) (defBody st_law_mixed) (defScope st_law_mixed) [] [] f fd) (g : mg "_law_mixed" = some (.ref f)) (T : Gb mg) : FnAt P w K mg base 1 "_law_mixed" ["cell", "k"] [] S_law_mixed :=
  fnAt F g sc_law_mixed (fun _ _ _ _ _ _ us hl => match us, hl with | [_, _], _ => rfl) l_law_mixed (fun cdv A outer s H E G hr tk hp => d_law_mixed T cdv A outer s H E G hr tk hp) w_law_mixed
/-! law_worth -/
--uses MY
def f_law_worth : D → (R → Prop) → (Str → Prop) → Prop := fun a Q E => ∃ l : List Nat, a = .str (tS l) ∧ l.length ≤ 2000 ∧ okT l ∧ Q (.v (.int (if numB l then (valN l : Int) else -1)))
def S_law_worth : Spec := sp1 f_law_worth
theorem e_law_worth (x0 : D) (Q : R → Prop) (E : Str → Prop) : S_law_worth [x0] Q E = f_law_worth x0 Q E := rfl
abbrev st_law_worth : Stmt := top 11
def m_law_worth : WS := (wSq (wIf (wtOr (c2 cLt (wB (f1 lenD) (waC (wVar 0) waN)) (wC (.int 1))) (c2 cGt (wB (f1 lenD) (waC (wVar 0) waN)) (wC (.int 20)))) (wRet (wNeg (wC (.int 1)))) wNil) (wSq (wLet 1 (wC (.int 0))) (wSq (wFor (wiA (wVar 0)) (gN 2) (wSq (wLet 3 (wMe fFind (wC (.str (tS [48, 49, 50, 51, 52, 53, 54, 55, 56, 57]))) (waC (wVar 2) waN))) (wSq (wIf (c2 cLt (wVar 3) (wC (.int 0))) (wRet (wNeg (wC (.int 1)))) wNil) (wLet 1 (wAdd (wMul (wVar 1) (wC (.int 10))) (wVar 3)))))) (wSq (wIf (wtAnd (c2 cGt (wB (f1 lenD) (waC (wVar 0) waN)) (wC (.int 1))) (c2 cEq (wIx (wVar 0) (wC (.int 0))) (wC (.str (tS [48]))))) (wRet (wNeg (wC (.int 1)))) wNil) (wRet (wVar 1))))))
theorem sc_law_worth : FnScope ["text", "total", "sign", "figure"] ["text"] (defScope st_law_worth) := ⟨rfl, rfl, rfl, by decide +kernel, rfl, by decide +kernel, by decide +kernel⟩
theorem d_law_worth {P : Program} {w : World} {K : K0} {mg : Str → Option Value} {base : Heap} (T : Gb mg) {f : Addr} (cdv : Value) (A : Around) (outer : List PySem.Env) (s : Shared) (H : Hp) (E : XK) (G : Hp) (hr : Room 0 (A.deeper (envOfC "_law_worth" (defScope st_law_worth) s.heap.objs.size f cdv)))
    (tk : Takes (XB P w K mg base ["text", "total", "sign", "figure"] "_law_worth" (defScope st_law_worth) f cdv A outer s H E) (fun cls d _ H => E cls d H)) (hp : PassesOwn (model P w) (XB P w K mg base ["text", "total", "sign", "figure"] "_law_worth" (defScope st_law_worth) f cdv A outer s H E).A (XB P w K mg base ["text", "total", "sign", "figure"] "_law_worth" (defScope st_law_worth) f cdv A outer s H E).env (XB P w K mg base ["text", "total", "sign", "figure"] "_law_worth" (defScope st_law_worth) f cdv A outer s H E).xe) :
    DSs (XB P w K mg base ["text", "total", "sign", "figure"] "_law_worth" (defScope st_law_worth) f cdv A outer s H E) (fun cls d _ H => E cls d H) G (defBody st_law_worth) m_law_worth :=
  (dss_cons (ds_if (dt_w (dw_or (dt_cmp (opLtD hr.units0) (de_B cLen (by rfl) T.len (by decide +kernel) (da_cons (de_var 0 (pv 0)) da_nil (by rfl)) (by decide) (by decide) (by rfl) (by rfl)) (de_c pe_int rfl) (nomark _)) (dw_or1 (dt_cmp opGtD (de_B cLen (by rfl) T.len (by decide +kernel) (da_cons (de_var 0 (pv 0)) da_nil (by rfl)) (by decide) (by decide) (by rfl) (by rfl)) (de_c pe_int rfl) (nomark _))))) (dss_one (ds_ret (de_neg (de_c pe_int rfl)))) dss_nil) (dss_cons (ds_let (i := 1) sc_law_worth.nd rfl (by first | exact Or.inl rfl | exact Or.inr rfl) (de_c pe_int rfl) (by rfl) (by first | exact Or.inl rfl | exact Or.inr rfl)) (dss_cons (ds_for (vs := [2]) hp rfl (di_any (de_var 0 (pv 0))) (dg_name (i := 2) (by decide) sc_law_worth.nd rfl (by first | exact Or.inl rfl | exact Or.inr rfl) (by first | exact Or.inl rfl | exact Or.inr rfl)) (dss_cons (ds_let (i := 3) sc_law_worth.nd rfl (by first | exact Or.inl rfl | exact Or.inr rfl) (dm_find ⟨by rfl, by rfl, by rfl, by rfl, by rfl⟩ (de_c (d := .str (tS [48, 49, 50, 51, 52, 53, 54, 55, 56, 57])) (v := .str (tS [48, 49, 50, 51, 52, 53, 54, 55, 56, 57])) pe_str rfl) (da_cons (de_var 2 (pv 2)) da_nil (by rfl))) (by rfl) (by first | exact Or.inl rfl | exact Or.inr rfl)) (dss_cons (ds_if (dt_cmp (opLtD hr.units0) (de_var 3 (pv 3)) (de_c pe_int rfl) (nomark _)) (dss_one (ds_ret (de_neg (de_c pe_int rfl)))) dss_nil) (dss_one (ds_let (i := 1) sc_law_worth.nd rfl (by first | exact Or.inl rfl | exact Or.inr rfl) (de_add (de_mul (de_var 1 (pv 1)) (de_c pe_int rfl)) (de_var 3 (pv 3))) (by rfl) (by first | exact Or.inl rfl | exact Or.inr rfl))))) (by intro _; rfl)) (dss_cons (ds_if (dt_w (dw_and (dt_cmp opGtD (de_B cLen (by rfl) T.len (by decide +kernel) (da_cons (de_var 0 (pv 0)) da_nil (by rfl)) (by decide) (by decide) (by rfl) (by rfl)) (de_c pe_int rfl) (nomark _)) (dw_and1 (dt_cmp (opEqD hr.units) (de_ix (hu_of hr) (de_var 0 (pv 0)) (de_c pe_int rfl) (fun _ _ => rfl)) (de_c (d := .str (tS [48])) (v := .str (tS [48])) pe_str rfl) (nomark _))))) (dss_one (ds_ret (de_neg (de_c pe_int rfl)))) dss_nil) (dss_one (ds_ret (de_var 1 (pv 1))))))))
theorem l_law_worth : ∀ ds Q E, S_law_worth ds Q E → ds.length = 1 := sp1_len rfl
theorem w_law_worth : ∀ ds Q E, S_law_worth ds Q E → m_law_worth (enD Q E) (startD ["text", "total", "sign", "figure"] ds) := sp1_w (by
  rintro a0 Q E ⟨l, rfl, hl, ok, hq⟩
  unfold m_law_worth startD
  walk_at "h"
  walk_at "h"
  have bad : ¬ numB l → Q (R.v (PyData.int (-1))) := fun h => by rw [if_neg h] at hq; exact hq
  refine ite_i (fun h => bad fun g => by have := g.1; omega) fun h1 => ⟨by rw [sizeLine_eq]; omega, ite_i (fun h => bad fun g => by have := g.2.1; omega) fun h2 => ?_⟩
  walk_at "h"
  refine for_gs [1, 2, 3] (fun y : Nat × Option O × Option O => [some (.fro (.int y.1)), y.2.1, y.2.2]) (fun k y => y.1 = valN (l.take k) ∧ ∀ c ∈ l.take k, 48 ≤ c ∧ c ≤ 57) (0, none, none) rfl (by simp [valN]) ?_ ?_
  · rintro k c ⟨n, o1, o2⟩ hd ⟨hI, hJ⟩
    simp only at hI hJ
    have hm := List.mem_of_getElem? hd
    walk_at "h"
    rw [find_fig c (ok c hm)]
    walk_at "h"
    have e1 : valN (l.take (k + 1)) = n * 10 + (c - 48) := by
      rw [take_succ hd]
      unfold valN
      rw [List.foldl_append, hI]
      rfl
    by_cases hc : 48 ≤ c ∧ c ≤ 57
    · rw [if_pos hc]
      refine ite_i (fun h => by omega) fun h => ⟨mul_by (by decide), ?_⟩
      rw [show (n : Int) * 10 + ((c : Int) - 48) = ((n * 10 + (c - 48) : Nat) : Int) from by omega, show ((c : Int) - 48) = ((c - 48 : Nat) : Int) from by omega]
      refine nxF (n * 10 + (c - 48), _, _) rfl ⟨e1.symm, fun x m => ?_⟩
      rw [take_succ hd] at m
      rcases List.mem_append.mp m with m | m
      · exact hJ x m
      · obtain rfl := List.mem_singleton.mp m
        exact hc
    · rw [if_neg hc]
      exact ite_i (fun h => bad fun g => hc (g.2.2.1 c hm)) fun h => absurd (by decide) h
  rintro ⟨n, o1, o2⟩ ⟨hI, hJ⟩
  simp only [List.take_length] at hI hJ
  have hp : 0 < l.length := by omega
  walk_at "h"
  have e0 : l.headD 0 = l[0] := by cases l with | nil => simp at hp | cons a b => rfl
  have fin : numB l → Q (R.v (PyData.int n)) := fun g => by rw [if_pos g] at hq; rw [hI]; exact hq
  refine ite_i (fun h => ⟨by rw [sizeLine_eq]; omega, _, atI_lt (i := 0) hp, ite_i (fun h3 => bad fun g => by have := g.2.2.2 (by rw [e0]; exact h3); omega) fun h3 => fin ⟨by omega, by omega, hJ, fun z => absurd (e0.symm.trans z) h3⟩⟩) fun h => fin ⟨by omega, by omega, hJ, fun _ => by omega⟩)
theorem ok_law_worth {P : Program} {w : World} {K : K0} {mg : Str → Option Value} {base : Heap} {f : Addr} {fd : FuncData} (F : FunD K "_law_worth" "_law_worth" (defArgs st_law_worth) (defBody st_law_worth) (defScope st_law_worth) [] [] f fd) (g : mg "_law_worth" = some (.ref f)) (T : Gb mg) : FnAt P w K mg base 1 "_law_worth" ["text"] [] S_law_worth :=
  fnAt F g sc_law_worth (fun _ _ _ _ _ _ us hl => match us, hl with | [_], _ => rfl) l_law_worth (fun cdv A outer s H E G hr tk hp => d_law_worth T cdv A outer s H E G hr tk hp) w_law_worth
/-! law_sign_by -/
--uses MY
def f_law_sign_by : D → (R → Prop) → (Str → Prop) → Prop := fun a Q E => ∃ n : Nat, a = .int n ∧ ∀ c : Nat, c < 128 → Q (.v (.str (tS [c])))
def S_law_sign_by : Spec := sp1 f_law_sign_by
theorem e_law_sign_by (x0 : D) (Q : R → Prop) (E : Str → Prop) : S_law_sign_by [x0] Q E = f_law_sign_by x0 Q E := rfl
abbrev st_law_sign_by : Stmt := top 12
def m_law_sign_by : WS := (wSq (wLet 1 (wC (.str (tS [32, 33, 34, 35, 36, 38, 39, 40, 41, 42, 43, 44, 45, 46, 47, 48, 49, 50, 51, 52, 53, 54, 55, 56, 57, 58, 59, 60, 61, 62, 63, 64, 65, 66, 67, 68, 69, 70, 71, 72, 73, 74, 75, 76, 77, 78, 79, 80, 81, 82, 83, 84, 85, 86, 87, 88, 89, 90, 91, 92, 93, 94, 95, 96])))) (wSq (wLet 1 (wAdd (wVar 1) (wC (.str (tS [97, 98, 99, 100, 101, 102, 103, 104, 105, 106, 107, 108, 109, 110, 111, 112, 113, 114, 115, 116, 117, 118, 119, 120, 121, 122, 123, 124, 125, 126]))))) (wRet (wIx (wVar 1) (wMod (wVar 0) (wC (.int 94)))))))
theorem sc_law_sign_by : FnScope ["number", "some"] ["number"] (defScope st_law_sign_by) := ⟨rfl, rfl, rfl, by decide +kernel, rfl, by decide +kernel, by decide +kernel⟩
theorem d_law_sign_by {P : Program} {w : World} {K : K0} {mg : Str → Option Value} {base : Heap} (T : Gb mg) {f : Addr} (cdv : Value) (A : Around) (outer : List PySem.Env) (s : Shared) (H : Hp) (E : XK) (G : Hp) (hr : Room 0 (A.deeper (envOfC "_law_sign_by" (defScope st_law_sign_by) s.heap.objs.size f cdv)))
    (tk : Takes (XB P w K mg base ["number", "some"] "_law_sign_by" (defScope st_law_sign_by) f cdv A outer s H E) (fun cls d _ H => E cls d H)) (hp : PassesOwn (model P w) (XB P w K mg base ["number", "some"] "_law_sign_by" (defScope st_law_sign_by) f cdv A outer s H E).A (XB P w K mg base ["number", "some"] "_law_sign_by" (defScope st_law_sign_by) f cdv A outer s H E).env (XB P w K mg base ["number", "some"] "_law_sign_by" (defScope st_law_sign_by) f cdv A outer s H E).xe) :
    DSs (XB P w K mg base ["number", "some"] "_law_sign_by" (defScope st_law_sign_by) f cdv A outer s H E) (fun cls d _ H => E cls d H) G (defBody st_law_sign_by) m_law_sign_by :=
  (dss_cons (ds_let (i := 1) sc_law_sign_by.nd rfl (by first | exact Or.inl rfl | exact Or.inr rfl) (de_c (d := .str (tS [32, 33, 34, 35, 36, 38, 39, 40, 41, 42, 43, 44, 45, 46, 47, 48, 49, 50, 51, 52, 53, 54, 55, 56, 57, 58, 59, 60, 61, 62, 63, 64, 65, 66, 67, 68, 69, 70, 71, 72, 73, 74, 75, 76, 77, 78, 79, 80, 81, 82, 83, 84, 85, 86, 87, 88, 89, 90, 91, 92, 93, 94, 95, 96])) (v := .str (tS [32, 33, 34, 35, 36, 38, 39, 40, 41, 42, 43, 44, 45, 46, 47, 48, 49, 50, 51, 52, 53, 54, 55, 56, 57, 58, 59, 60, 61, 62, 63, 64, 65, 66, 67, 68, 69, 70, 71, 72, 73, 74, 75, 76, 77, 78, 79, 80, 81, 82, 83, 84, 85, 86, 87, 88, 89, 90, 91, 92, 93, 94, 95, 96])) pe_str rfl) (by rfl) (by first | exact Or.inl rfl | exact Or.inr rfl)) (dss_cons (ds_let (i := 1) sc_law_sign_by.nd rfl (by first | exact Or.inl rfl | exact Or.inr rfl) (de_add (de_var 1 (pv 1)) (de_c (d := .str (tS [97, 98, 99, 100, 101, 102, 103, 104, 105, 106, 107, 108, 109, 110, 111, 112, 113, 114, 115, 116, 117, 118, 119, 120, 121, 122, 123, 124, 125, 126])) (v := .str (tS [97, 98, 99, 100, 101, 102, 103, 104, 105, 106, 107, 108, 109, 110, 111, 112, 113, 114, 115, 116, 117, 118, 119, 120, 121, 122, 123, 124, 125, 126])) pe_str rfl)) (by rfl) (by first | exact Or.inl rfl | exact Or.inr rfl)) (dss_one (ds_ret (de_ix (hu_of hr) (de_var 1 (pv 1)) (de_mod (de_var 0 (pv 0)) (de_c pe_int rfl)) (fun _ _ => rfl))))))
theorem l_law_sign_by : ∀ ds Q E, S_law_sign_by ds Q E → ds.length = 1 := sp1_len rfl
theorem w_law_sign_by : ∀ ds Q E, S_law_sign_by ds Q E → m_law_sign_by (enD Q E) (startD ["number", "some"] ds) := sp1_w (by
  rintro a0 Q E ⟨n, rfl, hq⟩
  unfold m_law_sign_by startD
  walk_at "h"
  walk_at "h"
  exact pick_go rfl (by decide) fun c hc => hq c (menu_128 c hc))
theorem ok_law_sign_by {P : Program} {w : World} {K : K0} {mg : Str → Option Value} {base : Heap} {f : Addr} {fd : FuncData} (F : FunD K "_law_sign_by" "_law_sign_by" (defArgs st_law_sign_by) (defBody st_law_sign_by) (defScope st_law_sign_by) [] [] f fd) (g : mg "_law_sign_by" = some (.ref f)) (T : Gb mg) : FnAt P w K mg base 1 "_law_sign_by" ["number"] [] S_law_sign_by :=
  fnAt F g sc_law_sign_by (fun _ _ _ _ _ _ us hl => match us, hl with | [_], _ => rfl) l_law_sign_by (fun cdv A outer s H E G hr tk hp => d_law_sign_by T cdv A outer s H E G hr tk hp) w_law_sign_by
/-! law_text_by -/
--uses MY
def f_law_text_by : D → D → (R → Prop) → (Str → Prop) → Prop := fun a b Q E => ∃ z : Int, a = .int z ∧ ∃ k : Nat, b = .int k ∧ k ≤ 1000 ∧ ∀ l : List Nat, l.length ≤ 300 → okT l → Q (.v (.str (tS l)))
def S_law_text_by : Spec := sp2 f_law_text_by
theorem e_law_text_by (x0 x1 : D) (Q : R → Prop) (E : Str → Prop) : S_law_text_by [x0, x1] Q E = f_law_text_by x0 x1 Q E := rfl
abbrev st_law_text_by : Stmt := top 13
def m_law_text_by : WS := (wSq (wLet 2 (wB (f1 strD) (waC (wMod (wVar 0) (wC (.int 1000))) waN))) (wSqM (wIf (c2 cEq (wMod (wCall S_law_mixed [] (waC (wVar 0) (waC (wVar 1) waN))) (wC (.int 2))) (wC (.int 0))) (wLet 2 (wB (f1 strD) (waC (wMod (wMul (wCall S_law_mixed [] (waC (wVar 0) (waC (wAdd (wVar 1) (wC (.int 500))) waN))) (wC (.int 4611686018427387847))) (wPow (wC (.int 10)) (wC (.int 20)))) waN))) wNil) (wSqM (wIf (c2 cEq (wMod (wCall S_law_mixed [] (waC (wVar 0) (waC (wVar 1) waN))) (wC (.int 8))) (wC (.int 1))) (wLet 2 (wMulA (wVar 2) (wAdd (wC (.int 1)) (wMod (wCall S_law_mixed [] (waC (wVar 0) (waC (wAdd (wVar 1) (wC (.int 600))) waN))) (wC (.int 13)))))) wNil) (wSq (wLet 3 (wMod (wCall S_law_mixed [] (waC (wVar 0) (waC (wAdd (wVar 1) (wC (.int 100))) waN))) (wC (.int 7)))) (wSq (wLet 4 (wMod (wCall S_law_mixed [] (waC (wVar 0) (waC (wAdd (wVar 1) (wC (.int 200))) waN))) (wB (f1 lenD) (waC (wVar 2) waN)))) (wSq (wLet 5 (wIx (wC (.str (tS [48, 49, 57, 44, 32, 45, 43, 46, 95, 97, 120, 10]))) (wMod (wCall S_law_mixed [] (waC (wVar 0) (waC (wAdd (wVar 1) (wC (.int 300))) waN))) (wC (.int 12))))) (wSqM (wIf (c2 cGt (wVar 3) (wC (.int 4))) (wLet 5 (wCall S_law_sign_by [] (waC (wCall S_law_mixed [] (waC (wVar 0) (waC (wAdd (wVar 1) (wC (.int 700))) waN))) waN))) wNil) (wSq (wIf (wtOr (c2 cEq (wVar 3) (wC (.int 1))) (c2 cEq (wVar 3) (wC (.int 5)))) (wRet (wAdd (wAdd (wSl (wVar 2) woN (woE (wVar 4))) (wVar 5)) (wSl (wVar 2) (woE (wVar 4)) woN))) wNil) (wSq (wIf (c2 cEq (wVar 3) (wC (.int 2))) (wRet (wAdd (wAdd (wSl (wVar 2) woN (woE (wVar 4))) (wVar 5)) (wSl (wVar 2) (woE (wAdd (wVar 4) (wC (.int 1)))) woN))) wNil) (wSq (wIf (c2 cEq (wVar 3) (wC (.int 3))) (wRet (wAdd (wSl (wVar 2) woN (woE (wVar 4))) (wSl (wVar 2) (woE (wAdd (wVar 4) (wC (.int 1)))) woN))) wNil) (wSq (wIf (c2 cEq (wVar 3) (wC (.int 4))) (wRet (wAdd (wVar 2) (wVar 5))) wNil) (wRet (wVar 2)))))))))))))
theorem sc_law_text_by : FnScope ["cell", "k", "text", "way", "at", "sign"] ["cell", "k"] (defScope st_law_text_by) := ⟨rfl, rfl, rfl, by decide +kernel, rfl, by decide +kernel, by decide +kernel⟩
theorem d_law_text_by {P : Program} {w : World} {K : K0} {mg : Str → Option Value} {base : Heap} (T : Gb mg) (F_law_mixed : FnAt P w K mg base 1 "_law_mixed" ["cell", "k"] [] S_law_mixed) (F_law_sign_by : FnAt P w K mg base 1 "_law_sign_by" ["number"] [] S_law_sign_by) {f : Addr} (cdv : Value) (A : Around) (outer : List PySem.Env) (s : Shared) (H : Hp) (E : XK) (G : Hp) (hr : Room 1 (A.deeper (envOfC "_law_text_by" (defScope st_law_text_by) s.heap.objs.size f cdv)))
    (tk : Takes (XB P w K mg base ["cell", "k", "text", "way", "at", "sign"] "_law_text_by" (defScope st_law_text_by) f cdv A outer s H E) (fun cls d _ H => E cls d H)) (hp : PassesOwn (model P w) (XB P w K mg base ["cell", "k", "text", "way", "at", "sign"] "_law_text_by" (defScope st_law_text_by) f cdv A outer s H E).A (XB P w K mg base ["cell", "k", "text", "way", "at", "sign"] "_law_text_by" (defScope st_law_text_by) f cdv A outer s H E).env (XB P w K mg base ["cell", "k", "text", "way", "at", "sign"] "_law_text_by" (defScope st_law_text_by) f cdv A outer s H E).xe) :
    DSs (XB P w K mg base ["cell", "k", "text", "way", "at", "sign"] "_law_text_by" (defScope st_law_text_by) f cdv A outer s H E) (fun cls d _ H => E cls d H) G (defBody st_law_text_by) m_law_text_by :=
  (dss_cons (ds_let (i := 2) sc_law_text_by.nd rfl (by first | exact Or.inl rfl | exact Or.inr rfl) (de_T cStr (by rfl) T.str (by decide +kernel) (da_cons (de_mod (de_var 0 (pv 0)) (de_c pe_int rfl)) da_nil (by rfl)) (by decide) (by decide) (by rfl) (by rfl)) (by rfl) (by first | exact Or.inl rfl | exact Or.inr rfl)) (dss_cons (ds_if (dt_cmp (opEqD hr.units) (de_mod (de_call' F_law_mixed hr (by decide) (by rfl) (fun _ => .nil) tk (da_cons (de_var 0 (pv 0)) (da_cons (de_var 1 (pv 1)) da_nil (by rfl)) (by rfl)) (by decide) (by rfl) (by rfl)) (de_c pe_int rfl)) (de_c pe_int rfl) (nomark _)) (dss_one (ds_let (i := 2) sc_law_text_by.nd rfl (by first | exact Or.inl rfl | exact Or.inr rfl) (de_T cStr (by rfl) T.str (by decide +kernel) (da_cons (de_mod (de_mul (de_call' F_law_mixed hr (by decide) (by rfl) (fun _ => .nil) tk (da_cons (de_var 0 (pv 0)) (da_cons (de_add (de_var 1 (pv 1)) (de_c pe_int rfl)) da_nil (by rfl)) (by rfl)) (by decide) (by rfl) (by rfl)) (de_c pe_int rfl)) (de_pow (de_c pe_int rfl) (de_c pe_int rfl))) da_nil (by rfl)) (by decide) (by decide) (by rfl) (by rfl)) (by rfl) (by first | exact Or.inl rfl | exact Or.inr rfl))) dss_nil) (dss_cons (ds_if (dt_cmp (opEqD hr.units) (de_mod (de_call' F_law_mixed hr (by decide) (by rfl) (fun _ => .nil) tk (da_cons (de_var 0 (pv 0)) (da_cons (de_var 1 (pv 1)) da_nil (by rfl)) (by rfl)) (by decide) (by rfl) (by rfl)) (de_c pe_int rfl)) (de_c pe_int rfl) (nomark _)) (dss_one (ds_let (i := 2) sc_law_text_by.nd rfl (by first | exact Or.inl rfl | exact Or.inr rfl) (de_mulA (de_var 2 (pv 2)) (de_add (de_c pe_int rfl) (de_mod (de_call' F_law_mixed hr (by decide) (by rfl) (fun _ => .nil) tk (da_cons (de_var 0 (pv 0)) (da_cons (de_add (de_var 1 (pv 1)) (de_c pe_int rfl)) da_nil (by rfl)) (by rfl)) (by decide) (by rfl) (by rfl)) (de_c pe_int rfl)))) (by rfl) (by first | exact Or.inl rfl | exact Or.inr rfl))) dss_nil) (dss_cons (ds_let (i := 3) sc_law_text_by.nd rfl (by first | exact Or.inl rfl | exact Or.inr rfl) (de_mod (de_call' F_law_mixed hr (by decide) (by rfl) (fun _ => .nil) tk (da_cons (de_var 0 (pv 0)) (da_cons (de_add (de_var 1 (pv 1)) (de_c pe_int rfl)) da_nil (by rfl)) (by rfl)) (by decide) (by rfl) (by rfl)) (de_c pe_int rfl)) (by rfl) (by first | exact Or.inl rfl | exact Or.inr rfl)) (dss_cons (ds_let (i := 4) sc_law_text_by.nd rfl (by first | exact Or.inl rfl | exact Or.inr rfl) (de_mod (de_call' F_law_mixed hr (by decide) (by rfl) (fun _ => .nil) tk (da_cons (de_var 0 (pv 0)) (da_cons (de_add (de_var 1 (pv 1)) (de_c pe_int rfl)) da_nil (by rfl)) (by rfl)) (by decide) (by rfl) (by rfl)) (de_B cLen (by rfl) T.len (by decide +kernel) (da_cons (de_var 2 (pv 2)) da_nil (by rfl)) (by decide) (by decide) (by rfl) (by rfl))) (by rfl) (by first | exact Or.inl rfl | exact Or.inr rfl)) (dss_cons (ds_let (i := 5) sc_law_text_by.nd rfl (by first | exact Or.inl rfl | exact Or.inr rfl) (de_ix (hu_of hr) (de_c (d := .str (tS [48, 49, 57, 44, 32, 45, 43, 46, 95, 97, 120, 10])) (v := .str (tS [48, 49, 57, 44, 32, 45, 43, 46, 95, 97, 120, 10])) pe_str rfl) (de_mod (de_call' F_law_mixed hr (by decide) (by rfl) (fun _ => .nil) tk (da_cons (de_var 0 (pv 0)) (da_cons (de_add (de_var 1 (pv 1)) (de_c pe_int rfl)) da_nil (by rfl)) (by rfl)) (by decide) (by rfl) (by rfl)) (de_c pe_int rfl)) (fun _ _ => rfl)) (by rfl) (by first | exact Or.inl rfl | exact Or.inr rfl)) (dss_cons (ds_if (dt_cmp opGtD (de_var 3 (pv 3)) (de_c pe_int rfl) (nomark _)) (dss_one (ds_let (i := 5) sc_law_text_by.nd rfl (by first | exact Or.inl rfl | exact Or.inr rfl) (de_call' F_law_sign_by hr (by decide) (by rfl) (fun _ => .nil) tk (da_cons (de_call' F_law_mixed hr (by decide) (by rfl) (fun _ => .nil) tk (da_cons (de_var 0 (pv 0)) (da_cons (de_add (de_var 1 (pv 1)) (de_c pe_int rfl)) da_nil (by rfl)) (by rfl)) (by decide) (by rfl) (by rfl)) da_nil (by rfl)) (by decide) (by rfl) (by rfl)) (by rfl) (by first | exact Or.inl rfl | exact Or.inr rfl))) dss_nil) (dss_cons (ds_if (dt_w (dw_or (dt_cmp (opEqD hr.units) (de_var 3 (pv 3)) (de_c pe_int rfl) (nomark _)) (dw_or1 (dt_cmp (opEqD hr.units) (de_var 3 (pv 3)) (de_c pe_int rfl) (nomark _))))) (dss_one (ds_ret (de_add (de_add (de_slice (de_var 2 (pv 2)) do_none (do_some (de_var 4 (pv 4)))) (de_var 5 (pv 5))) (de_slice (de_var 2 (pv 2)) (do_some (de_var 4 (pv 4))) do_none)))) dss_nil) (dss_cons (ds_if (dt_cmp (opEqD hr.units) (de_var 3 (pv 3)) (de_c pe_int rfl) (nomark _)) (dss_one (ds_ret (de_add (de_add (de_slice (de_var 2 (pv 2)) do_none (do_some (de_var 4 (pv 4)))) (de_var 5 (pv 5))) (de_slice (de_var 2 (pv 2)) (do_some (de_add (de_var 4 (pv 4)) (de_c pe_int rfl))) do_none)))) dss_nil) (dss_cons (ds_if (dt_cmp (opEqD hr.units) (de_var 3 (pv 3)) (de_c pe_int rfl) (nomark _)) (dss_one (ds_ret (de_add (de_slice (de_var 2 (pv 2)) do_none (do_some (de_var 4 (pv 4)))) (de_slice (de_var 2 (pv 2)) (do_some (de_add (de_var 4 (pv 4)) (de_c pe_int rfl))) do_none)))) dss_nil) (dss_cons (ds_if (dt_cmp (opEqD hr.units) (de_var 3 (pv 3)) (de_c pe_int rfl) (nomark _)) (dss_one (ds_ret (de_add (de_var 2 (pv 2)) (de_var 5 (pv 5))))) dss_nil) (dss_one (ds_ret (de_var 2 (pv 2)))))))))))))))
theorem l_law_text_by : ∀ ds Q E, S_law_text_by ds Q E → ds.length = 2 := sp2_len rfl
local macro_rules | `(tactic| walk_at "x") => `(tactic| simp only [e_law_mixed, f_law_mixed, e_law_sign_by, f_law_sign_by])
theorem w_law_text_by : ∀ ds Q E, S_law_text_by ds Q E → m_law_text_by (enD Q E) (startD ["cell", "k", "text", "way", "at", "sign"] ds) := sp2_w (by
  rintro a0 a1 Q E ⟨z, rfl, k, rfl, hk, hq⟩
  unfold m_law_text_by startD
  walk_at "h"
  walk_at "h"
  obtain ⟨n, n1, n2⟩ := emod_nat (a := z) (b := 1000) (by decide)
  rw [n1, num_tS]
  refine ⟨log20 (by omega), wSqM_by [2] (fun y : List Nat => [some (.fro (.str (tS y)))]) (fun y => 1 ≤ y.length ∧ y.length ≤ 20 ∧ okT y) ?_ fun y ⟨y1, y2, y3⟩ => ?_⟩
  · walk_at "h"
    intro m hm
    refine ⟨by decide, ite_i (fun h => ?_) fun h => ?_⟩
    · walk_at "h"
      intro m2 hm2
      walk_at "h"
      obtain ⟨n3, n4, n5⟩ := emod_nat (a := (m2 : Int) * 4611686018427387847) (b := 10 ^ 20) (by decide)
      rw [n4, num_tS]
      refine ⟨log20 (by omega), _, rfl, numL_pos n3, TL.numL_len (by decide) (by omega), okT_fig (numL_fig n3)⟩
    · walk_at "h"
      exact ⟨numL_pos n, TL.numL_len (by decide) (by omega), okT_fig (numL_fig n)⟩
  refine wSqM_by [2] (fun y : List Nat => [some (.fro (.str (tS y)))]) (fun y => 1 ≤ y.length ∧ y.length ≤ 280 ∧ okT y) ?_ fun y ⟨y1, y2, y3⟩ => ?_
  · walk_at "h"
    intro m hm
    refine ⟨by decide, ite_i (fun h => ?_) fun h => ?_⟩
    · walk_at "h"
      intro m2 hm2
      walk_at "h"
      obtain ⟨j, j1, j2⟩ := emod_nat (a := (m2 : Int)) (b := 13) (by decide)
      rw [j1, show (1 + (j : Int)).toNat = 1 + j from by omega]
      have hmul : y.length * (1 + j) ≤ 260 ∧ 1 ≤ y.length * (1 + j) := by
        have h1 : y.length * (1 + j) ≤ 20 * 13 := Nat.mul_le_mul y2 (by omega)
        have h2 : 1 * 1 ≤ y.length * (1 + j) := Nat.mul_le_mul y1 (by omega)
        omega
      have hlen : (List.replicate (1 + j) y).flatten.length = y.length * (1 + j) := by
        rw [List.length_flatten, List.map_replicate, List.sum_replicate_nat, Nat.mul_comm]
      refine ⟨by omega, by omega, by rw [hlen]; omega, by rw [hlen]; omega, fun c mc => ?_⟩
      rw [List.mem_flatten] at mc
      obtain ⟨q, mq, mc⟩ := mc
      rw [List.mem_replicate] at mq
      rw [mq.2] at mc
      exact y3 c mc
    · walk_at "h"
      first | exact ⟨y1, by omega, y3⟩ | exact y3
  walk_at "h"
  intro w hw
  refine ⟨by decide, ?_⟩
  walk_at "h"
  intro a ha
  walk_at "h"
  intro b hb
  refine ⟨by decide, by rw [sizeLine_eq]; decide, pick_go rfl (by decide) fun c hc => ?_⟩
  have c128 : c < 128 := (by decide : ∀ c ∈ [48, 49, 57, 44, 32, 45, 43, 46, 95, 97, 120, 10], c < 128) c hc
  obtain ⟨u, u1, u2⟩ := emod_nat (a := (a : Int)) (b := (y.length : Int)) (by omega)
  rw [u1]
  have okt : okT (y.take u) := y3.sub fun c m => List.mem_of_mem_take m
  have okd : ∀ n, okT (y.drop n) := fun n => y3.sub fun c m => List.mem_of_mem_drop m
  refine wSqM_by [5] (fun c : Nat => [some (.fro (.str (tS [c])))]) (fun c => c < 128) ?_ fun c hc => ?_
  · walk_at "h"
    refine ite_i (fun h => ?_) fun h => ?_
    · walk_at "h"
      intro n hn c hc
      walk_at "h"
      exact hc
    · walk_at "h"
      exact c128
  walk_at "h"
  have lt1 := List.length_take (i := u) (l := y)
  have ld1 : ∀ n, (y.drop n).length = y.length - n := fun n => List.length_drop
  have sz := sizeLine_eq
  refine ite_i (fun _ => ⟨by omega, by omega, by omega, by rw [List.length_append, ld1]; simp; omega, hq _ (by simp; omega) ((okt.app (okT_one hc)).app (okd _))⟩) fun _ => ?_
  walk_at "h"
  rw [show (u : Int) + 1 = ((u + 1 : Nat) : Int) from by omega, cut_from]
  refine ite_i (fun _ => ⟨by omega, by omega, by omega, by rw [List.length_append, ld1]; simp; omega, hq _ (by simp; omega) ((okt.app (okT_one hc)).app (okd _))⟩) fun _ => ?_
  walk_at "h"
  rw [show (u : Int) + 1 = ((u + 1 : Nat) : Int) from by omega, cut_from]
  refine ite_i (fun _ => ⟨by omega, by omega, by rw [ld1]; omega, hq _ (by simp; omega) (okt.app (okd _))⟩) fun _ => ?_
  walk_at "h"
  refine ite_i (fun _ => ⟨by omega, hq _ (by simp; omega) (y3.app (okT_one hc))⟩) fun _ => ?_
  walk_at "h"
  exact hq y (by omega) y3)
theorem ok_law_text_by {P : Program} {w : World} {K : K0} {mg : Str → Option Value} {base : Heap} {f : Addr} {fd : FuncData} (F : FunD K "_law_text_by" "_law_text_by" (defArgs st_law_text_by) (defBody st_law_text_by) (defScope st_law_text_by) [] [] f fd) (g : mg "_law_text_by" = some (.ref f)) (T : Gb mg) (F_law_mixed : FnAt P w K mg base 1 "_law_mixed" ["cell", "k"] [] S_law_mixed) (F_law_sign_by : FnAt P w K mg base 1 "_law_sign_by" ["number"] [] S_law_sign_by) : FnAt P w K mg base 2 "_law_text_by" ["cell", "k"] [] S_law_text_by :=
  fnAt F g sc_law_text_by (fun _ _ _ _ _ _ us hl => match us, hl with | [_, _], _ => rfl) l_law_text_by (fun cdv A outer s H E G hr tk hp => d_law_text_by T F_law_mixed F_law_sign_by cdv A outer s H E G hr tk hp) w_law_text_by
/-! law_asked -/
--uses MY
def f_law_asked : D → D → (R → Prop) → (Str → Prop) → Prop := fun a b Q E => ∃ l : List Nat, a = .str (tS l) ∧ l.length ≤ 2000 ∧ ∃ s : Bool, b = .bool s ∧
  (∀ p q, s = true → splN 44 l = [p, q] → numB p → numB q → Q (.t (.lst [.str (tS [116, 111, 108, 100]), .tuple [.int (valN p), .int (valN q)]]))) ∧
  (s = false → numB l → Q (.t (.lst [.str (tS [116, 111, 108, 100]), .int (valN l)]))) ∧
  ((s = true → ¬ ∃ p q, splN 44 l = [p, q] ∧ numB p ∧ numB q) → (s = false → ¬ numB l) → Q (.t (.lst [.str (tS [114, 101, 102, 117, 115, 101, 100]), .bool true])))
def S_law_asked : Spec := sp2 f_law_asked
theorem e_law_asked (x0 x1 : D) (Q : R → Prop) (E : Str → Prop) : S_law_asked [x0, x1] Q E = f_law_asked x0 x1 Q E := rfl
abbrev st_law_asked : Stmt := top 14
def m_law_asked : WS := (wSq (wLet 2 (wC .none)) (wSq (wLet 3 (wLst waN)) (wSq (wTry exNs "NoNote" 4 (wIf (wTru (wVar 1)) (wLet 2 (wCall S_read_spot [] (waC (wVar 0) waN))) (wLet 2 (wCall S_read_number [] (waC (wVar 0) waN)))) (fun m a => (wLet 3 (wLst (waC (wIsE 4 a (subE m "BlotError")) (waC (wIsE 4 a true) (waC (wIsE 4 a (subE m "NoRow")) (waC (wIsE 4 a (subE m "NoName")) waN)))))))) (wSq (wIf (c2 cGt (wB (f1 lenD) (waC (wVar 3) waN)) (wC (.int 0))) (wRet (wLst (waC (wC (.str (tS [114, 101, 102, 117, 115, 101, 100]))) (waC (wtv (c2 cEq (wVar 3) (wLst (waC (wC (.bool true)) (waC (wC (.bool true)) (waC (wC (.bool false)) (waC (wC (.bool false)) waN))))))) waN)))) wNil) (wRet (wLst (waC (wC (.str (tS [116, 111, 108, 100]))) (waC (wVar 2) waN))))))))
theorem sc_law_asked : FnScope ["text", "spot", "found", "kinds", "e"] ["text", "spot"] (defScope st_law_asked) := ⟨rfl, rfl, rfl, by decide +kernel, rfl, by decide +kernel, by decide +kernel⟩
theorem d_law_asked {P : Program} {w : World} {K : K0} {mg : Str → Option Value} {base : Heap} (T : Gb mg) (X_All : ExAll K mg exNs) (F_read_number : FnAt P w K mg base 1 "read_number" ["text"] [] S_read_number) (F_read_spot : FnAt P w K mg base 2 "read_spot" ["text"] [] S_read_spot) {f : Addr} (cdv : Value) (A : Around) (outer : List PySem.Env) (s : Shared) (H : Hp) (E : XK) (G : Hp) (hr : Room 2 (A.deeper (envOfC "_law_asked" (defScope st_law_asked) s.heap.objs.size f cdv)))
    (tk : Takes (XB P w K mg base ["text", "spot", "found", "kinds", "e"] "_law_asked" (defScope st_law_asked) f cdv A outer s H E) (fun cls d _ H => E cls d H)) (hp : PassesOwn (model P w) (XB P w K mg base ["text", "spot", "found", "kinds", "e"] "_law_asked" (defScope st_law_asked) f cdv A outer s H E).A (XB P w K mg base ["text", "spot", "found", "kinds", "e"] "_law_asked" (defScope st_law_asked) f cdv A outer s H E).env (XB P w K mg base ["text", "spot", "found", "kinds", "e"] "_law_asked" (defScope st_law_asked) f cdv A outer s H E).xe) :
    DSs (XB P w K mg base ["text", "spot", "found", "kinds", "e"] "_law_asked" (defScope st_law_asked) f cdv A outer s H E) (fun cls d _ H => E cls d H) G (defBody st_law_asked) m_law_asked :=
  (dss_cons (ds_let (i := 2) sc_law_asked.nd rfl (by first | exact Or.inl rfl | exact Or.inr rfl) (de_c pe_non rfl) (by rfl) (by first | exact Or.inl rfl | exact Or.inr rfl)) (dss_cons (ds_let (i := 3) sc_law_asked.nd rfl (by first | exact Or.inl rfl | exact Or.inr rfl) (de_lst da_nil) (by rfl) (by first | exact Or.inl rfl | exact Or.inr rfl)) (dss_cons (ds_try (i := 4) rfl rfl sc_law_asked.nd rfl rfl X_All (by decide) (by rfl) (by decide) tk (fun W1 pn1 xe1 tk1 hp1 => (dss_one (ds_if (dt_tru (de_var 1 (pv 1)) (by intro _; rfl)) (dss_one (ds_let (i := 2) sc_law_asked.nd rfl (by first | exact Or.inl rfl | exact Or.inr rfl) (de_call' F_read_spot hr (by decide) (by rfl) (fun _ => .nil) tk1 (da_cons (de_var 0 (pv 0)) da_nil (by rfl)) (by decide) (by rfl) (by rfl)) (by rfl) (by first | exact Or.inl rfl | exact Or.inr rfl))) (dss_one (ds_let (i := 2) sc_law_asked.nd rfl (by first | exact Or.inl rfl | exact Or.inr rfl) (de_call' F_read_number hr (by decide) (by rfl) (fun _ => .nil) tk1 (da_cons (de_var 0 (pv 0)) da_nil (by rfl)) (by decide) (by rfl) (by rfl)) (by rfl) (by first | exact Or.inl rfl | exact Or.inr rfl)))))) (fun a Dn oe pn m hmN hmg hz hfl => (dss_one (ds_let (i := 3) sc_law_asked.nd rfl (by first | exact Or.inl rfl | exact Or.inr rfl) (de_lst (da_cons (de_isE1 (i := 4) X_All hmN (by decide) hmg hz hfl (by rfl) T.isinstance (pv 4) (by rfl) (by decide) (by rfl) (by rfl) (by rfl)) (da_cons (de_isEV (i := 4) X_All hmN hmg hz hfl (by rfl) T.isinstance (pv 4) (pe_bltn (by rfl) T.ValueError (by decide +kernel) rfl) (by rfl) (by rfl) (by rfl)) (da_cons (de_isE1 (i := 4) X_All hmN (by decide) hmg hz hfl (by rfl) T.isinstance (pv 4) (by rfl) (by decide) (by rfl) (by rfl) (by rfl)) (da_cons (de_isE1 (i := 4) X_All hmN (by decide) hmg hz hfl (by rfl) T.isinstance (pv 4) (by rfl) (by decide) (by rfl) (by rfl) (by rfl)) da_nil (by rfl)) (by rfl)) (by rfl)) (by rfl))) (by rfl) (by first | exact Or.inl rfl | exact Or.inr rfl))))) (dss_cons (ds_if (dt_cmp opGtD (de_B cLen (by rfl) T.len (by decide +kernel) (da_cons (de_var 3 (pv 3)) da_nil (by rfl)) (by decide) (by decide) (by rfl) (by rfl)) (de_c pe_int rfl) (nomark _)) (dss_one (ds_ret (de_lst (da_cons (de_c (d := .str (tS [114, 101, 102, 117, 115, 101, 100])) (v := .str (tS [114, 101, 102, 117, 115, 101, 100])) pe_str rfl) (da_cons (de_cmp (opEqD hr.units) (de_var 3 (pv 3)) (de_lst (da_cons (de_c pe_bl rfl) (da_cons (de_c pe_bl rfl) (da_cons (de_c pe_bl rfl) (da_cons (de_c pe_bl rfl) da_nil (by rfl)) (by rfl)) (by rfl)) (by rfl))) (nomark _)) da_nil (by rfl)) (by rfl))))) dss_nil) (dss_one (ds_ret (de_lst (da_cons (de_c (d := .str (tS [116, 111, 108, 100])) (v := .str (tS [116, 111, 108, 100])) pe_str rfl) (da_cons (de_var 2 (pv 2)) da_nil (by rfl)) (by rfl)))))))))
theorem l_law_asked : ∀ ds Q E, S_law_asked ds Q E → ds.length = 2 := sp2_len rfl
local macro_rules | `(tactic| walk_at "x") => `(tactic| simp only [e_read_number, f_read_number, e_read_spot, f_read_spot])
theorem w_law_asked : ∀ ds Q E, S_law_asked ds Q E → m_law_asked (enD Q E) (startD ["text", "spot", "found", "kinds", "e"] ds) := sp2_w (by
  rintro a0 a1 Q E ⟨l, rfl, hl, s, rfl, h1, h2, h3⟩
  unfold m_law_asked startD
  walk_at "h"
  walk_at "h"
  have exn : Str.ofString "NoNote" ∈ exNs := by decide
  have ese : subE (Str.ofString "NoNote") (Str.ofString "NoNote") = true := by decide +kernel
  have k1 : subE (Str.ofString "NoNote") (Str.ofString "BlotError") = true := by decide +kernel
  have k2 : subE (Str.ofString "NoNote") (Str.ofString "NoRow") = false := by decide +kernel
  have k3 : subE (Str.ofString "NoNote") (Str.ofString "NoName") = false := by decide +kernel
  refine ite_i (fun e => ⟨hl, fun n => ⟨exn, ite_i (fun _ a => ?_) fun h => absurd ese h⟩, fun p q e1 e2 e3 => ?_⟩) fun e => ?_
  · walk_at "h"
    refine ite_i (fun _ => ?_) fun h => absurd (by decide) h
    rw [k1, k2, k3, kindsR]
    exact ⟨by rw [sizeLine_eq]; decide, okEq_bL [true, true, false, false] [true, true, false, false], by rw [sizeLine_eq]; decide, h3 (fun _ => n) fun z => by rw [e] at z; cases z⟩
  · walk_at "h"
    exact ite_i (fun h => absurd h (by decide)) fun _ => ⟨by rw [sizeLine_eq]; decide, h1 p q e e1 e2 e3⟩
  have e' : s = false := by simpa using e
  refine ⟨hl, fun n => ⟨exn, ite_i (fun _ a => ?_) fun h => absurd ese h⟩, fun g => ?_⟩
  · walk_at "h"
    refine ite_i (fun _ => ?_) fun h => absurd (by decide) h
    rw [k1, k2, k3, kindsR]
    exact ⟨by rw [sizeLine_eq]; decide, okEq_bL [true, true, false, false] [true, true, false, false], by rw [sizeLine_eq]; decide, h3 (fun z => absurd z e) fun _ => n⟩
  · walk_at "h"
    exact ite_i (fun h => absurd h (by decide)) fun _ => ⟨by rw [sizeLine_eq]; decide, h2 e' g⟩)
theorem ok_law_asked {P : Program} {w : World} {K : K0} {mg : Str → Option Value} {base : Heap} {f : Addr} {fd : FuncData} (F : FunD K "_law_asked" "_law_asked" (defArgs st_law_asked) (defBody st_law_asked) (defScope st_law_asked) [] [] f fd) (g : mg "_law_asked" = some (.ref f)) (T : Gb mg) (X_All : ExAll K mg exNs) (F_read_number : FnAt P w K mg base 1 "read_number" ["text"] [] S_read_number) (F_read_spot : FnAt P w K mg base 2 "read_spot" ["text"] [] S_read_spot) : FnAt P w K mg base 3 "_law_asked" ["text", "spot"] [] S_law_asked :=
  fnAt F g sc_law_asked (fun _ _ _ _ _ _ us hl => match us, hl with | [_, _], _ => rfl) l_law_asked (fun cdv A outer s H E G hr tk hp => d_law_asked T X_All F_read_number F_read_spot cdv A outer s H E G hr tk hp) w_law_asked
/-! law_whole -/
--uses ME
def f_law_whole : D → (R → Prop) → (Str → Prop) → Prop := fun a Q E => Q (.v (.bool (wholeB a)))
def S_law_whole : Spec := sp1 f_law_whole
theorem e_law_whole (x0 : D) (Q : R → Prop) (E : Str → Prop) : S_law_whole [x0] Q E = f_law_whole x0 Q E := rfl
abbrev st_law_whole : Stmt := top 15
def m_law_whole : WS := (wRet (wAndV (wIsi "int" (wVar 0)) (wNotV (wIsi "bool" (wVar 0)))))
theorem sc_law_whole : FnScope ["found"] ["found"] (defScope st_law_whole) := ⟨rfl, rfl, rfl, by decide +kernel, rfl, by decide +kernel, by decide +kernel⟩
theorem d_law_whole {P : Program} {w : World} {K : K0} {mg : Str → Option Value} {base : Heap} (T : Gb mg) {f : Addr} (cdv : Value) (A : Around) (outer : List PySem.Env) (s : Shared) (H : Hp) (E : XK) (G : Hp) (hr : Room 0 (A.deeper (envOfC "_law_whole" (defScope st_law_whole) s.heap.objs.size f cdv)))
    (tk : Takes (XB P w K mg base ["found"] "_law_whole" (defScope st_law_whole) f cdv A outer s H E) (fun cls d _ H => E cls d H)) (hp : PassesOwn (model P w) (XB P w K mg base ["found"] "_law_whole" (defScope st_law_whole) f cdv A outer s H E).A (XB P w K mg base ["found"] "_law_whole" (defScope st_law_whole) f cdv A outer s H E).env (XB P w K mg base ["found"] "_law_whole" (defScope st_law_whole) f cdv A outer s H E).xe) :
    DSs (XB P w K mg base ["found"] "_law_whole" (defScope st_law_whole) f cdv A outer s H E) (fun cls d _ H => E cls d H) G (defBody st_law_whole) m_law_whole :=
  (dss_one (ds_ret (de_andV (de_isi (c := "int") (by decide) (by rfl) T.isinstance (de_var 0 (pv 0)) (pe_bltn (by rfl) T.int (by decide +kernel) rfl) (by rfl) (by rfl) (by rfl)) (de_one (de_notV (de_isi (c := "bool") (by decide) (by rfl) T.isinstance (de_var 0 (pv 0)) (pe_bltn (by rfl) T.bool (by decide +kernel) rfl) (by rfl) (by rfl) (by rfl)))))))
theorem l_law_whole : ∀ ds Q E, S_law_whole ds Q E → ds.length = 1 := sp1_len rfl
theorem w_law_whole : ∀ ds Q E, S_law_whole ds Q E → m_law_whole (enD Q E) (startD ["found"] ds) := sp1_w fun a Q E hq => by
  have hq : Q (.v (.bool (wholeB a))) := hq
  unfold m_law_whole startD
  walk_at "g"
  cases a <;> simpa [isiB, wholeB] using hq
theorem ok_law_whole {P : Program} {w : World} {K : K0} {mg : Str → Option Value} {base : Heap} {f : Addr} {fd : FuncData} (F : FunD K "_law_whole" "_law_whole" (defArgs st_law_whole) (defBody st_law_whole) (defScope st_law_whole) [] [] f fd) (g : mg "_law_whole" = some (.ref f)) (T : Gb mg) : FnAt P w K mg base 1 "_law_whole" ["found"] [] S_law_whole :=
  fnAt F g sc_law_whole (fun _ _ _ _ _ _ us hl => match us, hl with | [_], _ => rfl) l_law_whole (fun cdv A outer s H E G hr tk hp => d_law_whole T cdv A outer s H E G hr tk hp) w_law_whole
/-! law_number_good -/
--uses MY
def f_law_number_good : D → (R → Prop) → (Str → Prop) → Prop := fun a Q E => ∃ l : List Nat, a = .str (tS l) ∧ l.length ≤ 2000 ∧ okT l ∧ Q (.v (.bool true))
def S_law_number_good : Spec := sp1 f_law_number_good
theorem e_law_number_good (x0 : D) (Q : R → Prop) (E : Str → Prop) : S_law_number_good [x0] Q E = f_law_number_good x0 Q E := rfl
abbrev st_law_number_good : Stmt := top 16
def m_law_number_good : WS := (wSq (wLet 1 (wCall S_law_worth [] (waC (wVar 0) waN))) (wSq (wLet 2 (wCall S_law_asked [] (waC (wVar 0) (waC (wC (.bool false)) waN)))) (wSq (wIf (c2 cLt (wVar 1) (wC (.int 0))) (wRet (wtv (c2 cEq (wVar 2) (wLst (waC (wC (.str (tS [114, 101, 102, 117, 115, 101, 100]))) (waC (wC (.bool true)) waN)))))) wNil) (wRet (wAndV (wtv (c2 cEq (wIx (wVar 2) (wC (.int 0))) (wC (.str (tS [116, 111, 108, 100]))))) (wAndV (wCall S_law_whole [] (waC (wIx (wVar 2) (wC (.int 1))) waN)) (wtv (c2 cEq (wIx (wVar 2) (wC (.int 1))) (wVar 1)))))))))
theorem sc_law_number_good : FnScope ["text", "due", "answer"] ["text"] (defScope st_law_number_good) := ⟨rfl, rfl, rfl, by decide +kernel, rfl, by decide +kernel, by decide +kernel⟩
theorem d_law_number_good {P : Program} {w : World} {K : K0} {mg : Str → Option Value} {base : Heap} (T : Gb mg) (F_law_asked : FnAt P w K mg base 3 "_law_asked" ["text", "spot"] [] S_law_asked) (F_law_whole : FnAt P w K mg base 1 "_law_whole" ["found"] [] S_law_whole) (F_law_worth : FnAt P w K mg base 1 "_law_worth" ["text"] [] S_law_worth) {f : Addr} (cdv : Value) (A : Around) (outer : List PySem.Env) (s : Shared) (H : Hp) (E : XK) (G : Hp) (hr : Room 3 (A.deeper (envOfC "_law_number_good" (defScope st_law_number_good) s.heap.objs.size f cdv)))
    (tk : Takes (XB P w K mg base ["text", "due", "answer"] "_law_number_good" (defScope st_law_number_good) f cdv A outer s H E) (fun cls d _ H => E cls d H)) (hp : PassesOwn (model P w) (XB P w K mg base ["text", "due", "answer"] "_law_number_good" (defScope st_law_number_good) f cdv A outer s H E).A (XB P w K mg base ["text", "due", "answer"] "_law_number_good" (defScope st_law_number_good) f cdv A outer s H E).env (XB P w K mg base ["text", "due", "answer"] "_law_number_good" (defScope st_law_number_good) f cdv A outer s H E).xe) :
    DSs (XB P w K mg base ["text", "due", "answer"] "_law_number_good" (defScope st_law_number_good) f cdv A outer s H E) (fun cls d _ H => E cls d H) G (defBody st_law_number_good) m_law_number_good :=
  (dss_cons (ds_let (i := 1) sc_law_number_good.nd rfl (by first | exact Or.inl rfl | exact Or.inr rfl) (de_call' F_law_worth hr (by decide) (by rfl) (fun _ => .nil) tk (da_cons (de_var 0 (pv 0)) da_nil (by rfl)) (by decide) (by rfl) (by rfl)) (by rfl) (by first | exact Or.inl rfl | exact Or.inr rfl)) (dss_cons (ds_let (i := 2) sc_law_number_good.nd rfl (by first | exact Or.inl rfl | exact Or.inr rfl) (de_call' F_law_asked hr (by decide) (by rfl) (fun _ => .nil) tk (da_cons (de_var 0 (pv 0)) (da_cons (de_c pe_bl rfl) da_nil (by rfl)) (by rfl)) (by decide) (by rfl) (by rfl)) (by rfl) (by first | exact Or.inl rfl | exact Or.inr rfl)) (dss_cons (ds_if (dt_cmp (opLtD hr.units0) (de_var 1 (pv 1)) (de_c pe_int rfl) (nomark _)) (dss_one (ds_ret (de_cmp (opEqD hr.units) (de_var 2 (pv 2)) (de_lst (da_cons (de_c (d := .str (tS [114, 101, 102, 117, 115, 101, 100])) (v := .str (tS [114, 101, 102, 117, 115, 101, 100])) pe_str rfl) (da_cons (de_c pe_bl rfl) da_nil (by rfl)) (by rfl))) (nomark _)))) dss_nil) (dss_one (ds_ret (de_andV (de_cmp (opEqD hr.units) (de_ix (hu_of hr) (de_var 2 (pv 2)) (de_c pe_int rfl) (fun _ _ => rfl)) (de_c (d := .str (tS [116, 111, 108, 100])) (v := .str (tS [116, 111, 108, 100])) pe_str rfl) (nomark _)) (de_andV (de_call' F_law_whole hr (by decide) (by rfl) (fun _ => .nil) tk (da_cons (de_ix (hu_of hr) (de_var 2 (pv 2)) (de_c pe_int rfl) (fun _ _ => rfl)) da_nil (by rfl)) (by decide) (by rfl) (by rfl)) (de_one (de_cmp (opEqD hr.units) (de_ix (hu_of hr) (de_var 2 (pv 2)) (de_c pe_int rfl) (fun _ _ => rfl)) (de_var 1 (pv 1)) (nomark _))))))))))
theorem l_law_number_good : ∀ ds Q E, S_law_number_good ds Q E → ds.length = 1 := sp1_len rfl
local macro_rules | `(tactic| walk_at "x") => `(tactic| simp only [e_law_asked, f_law_asked, e_law_whole, f_law_whole, e_law_worth, f_law_worth])
theorem w_law_number_good : ∀ ds Q E, S_law_number_good ds Q E → m_law_number_good (enD Q E) (startD ["text", "due", "answer"] ds) := sp1_w (by
  rintro a0 Q E ⟨l, rfl, hl, ok, hq⟩
  unfold m_law_number_good startD
  walk_at "h"
  walk_at "h"
  refine ⟨fun _ _ => trivial, fun g => ?_, fun g => ?_⟩
  · rw [if_pos g]
    walk_at "h"
    exact ite_i (fun h => by omega) fun h => ite_i (fun _ => hq) fun h => absurd rfl h
  · rw [if_neg g]
    walk_at "h"
    refine ite_i (fun h => ?_) fun h => absurd (by decide) h
    have sh : Sh 2 (.list [.str (tS [114, 101, 102, 117, 115, 101, 100]), .bool true]) := sh_list fun d m => by
      simp only [List.mem_cons, List.not_mem_nil, or_false] at m
      rcases m with rfl | rfl
      · exact okT.sh (by decide) _
      · exact sh_bool _ _
    refine ⟨by rw [sizeLine_eq]; decide, okEq_of sh sh (by decide), ?_⟩
    rw [eqv_self sh]
    exact hq)
theorem ok_law_number_good {P : Program} {w : World} {K : K0} {mg : Str → Option Value} {base : Heap} {f : Addr} {fd : FuncData} (F : FunD K "_law_number_good" "_law_number_good" (defArgs st_law_number_good) (defBody st_law_number_good) (defScope st_law_number_good) [] [] f fd) (g : mg "_law_number_good" = some (.ref f)) (T : Gb mg) (F_law_asked : FnAt P w K mg base 3 "_law_asked" ["text", "spot"] [] S_law_asked) (F_law_whole : FnAt P w K mg base 1 "_law_whole" ["found"] [] S_law_whole) (F_law_worth : FnAt P w K mg base 1 "_law_worth" ["text"] [] S_law_worth) : FnAt P w K mg base 4 "_law_number_good" ["text"] [] S_law_number_good :=
  fnAt F g sc_law_number_good (fun _ _ _ _ _ _ us hl => match us, hl with | [_], _ => rfl) l_law_number_good (fun cdv A outer s H E G hr tk hp => d_law_number_good T F_law_asked F_law_whole F_law_worth cdv A outer s H E G hr tk hp) w_law_number_good
/-! law_spot_good -/
--uses MY
def f_law_spot_good : D → (R → Prop) → (Str → Prop) → Prop := fun a Q E => ∃ l : List Nat, a = .str (tS l) ∧ l.length ≤ 1000 ∧ okT l ∧ Q (.v (.bool true))
def S_law_spot_good : Spec := sp1 f_law_spot_good
theorem e_law_spot_good (x0 : D) (Q : R → Prop) (E : Str → Prop) : S_law_spot_good [x0] Q E = f_law_spot_good x0 Q E := rfl
abbrev st_law_spot_good : Stmt := top 17
def m_law_spot_good : WS := (wSq (wAsg 1 (wLst (waC (wC (.str (tS []))) waN))) (wSq (wFor (wiA (wVar 0)) (gN 2) (wIf (c2 cEq (wVar 2) (wC (.str (tS [44])))) (wApp 1 (wC (.str (tS [])))) (wSt 1 (wNeg (wC (.int 1))) (wAdd (wIx (wVar 1) (wNeg (wC (.int 1)))) (wVar 2))))) (wSq (wLet 3 (wCall S_law_asked [] (waC (wVar 0) (waC (wC (.bool true)) waN)))) (wSq (wIf (wtOr (c2 cNe (wB (f1 lenD) (waC (wVar 1) waN)) (wC (.int 2))) (wtOr (c2 cLt (wCall S_law_worth [] (waC (wIx (wVar 1) (wC (.int 0))) waN)) (wC (.int 0))) (c2 cLt (wCall S_law_worth [] (waC (wIx (wVar 1) (wC (.int 1))) waN)) (wC (.int 0))))) (wRet (wtv (c2 cEq (wVar 3) (wLst (waC (wC (.str (tS [114, 101, 102, 117, 115, 101, 100]))) (waC (wC (.bool true)) waN)))))) wNil) (wSq (wLet 4 (wIx (wVar 3) (wC (.int 1)))) (wSq (wIf (wtOr (c2 cNe (wIx (wVar 3) (wC (.int 0))) (wC (.str (tS [116, 111, 108, 100])))) (wtOr (wtNot (wTru (wIsi "tuple" (wVar 4)))) (c2 cNe (wB (f1 lenD) (waC (wVar 4) waN)) (wC (.int 2))))) (wRet (wC (.bool false))) wNil) (wSq (wIf (wtOr (wtNot (wTru (wCall S_law_whole [] (waC (wIx (wVar 4) (wC (.int 0))) waN)))) (wtNot (wTru (wCall S_law_whole [] (waC (wIx (wVar 4) (wC (.int 1))) waN))))) (wRet (wC (.bool false))) wNil) (wFrz [1] (wRet (wAndV (wtv (c2 cEq (wIx (wVar 4) (wC (.int 0))) (wCall S_law_worth [] (waC (wIx (wVar 1) (wC (.int 0))) waN)))) (wtv (c2 cEq (wIx (wVar 4) (wC (.int 1))) (wCall S_law_worth [] (waC (wIx (wVar 1) (wC (.int 1))) waN))))))))))))))
theorem sc_law_spot_good : FnScope ["text", "parts", "sign", "answer", "found"] ["text"] (defScope st_law_spot_good) := ⟨rfl, rfl, rfl, by decide +kernel, rfl, by decide +kernel, by decide +kernel⟩
theorem d_law_spot_good {P : Program} {w : World} {K : K0} {mg : Str → Option Value} {base : Heap} (T : Gb mg) (F_law_asked : FnAt P w K mg base 3 "_law_asked" ["text", "spot"] [] S_law_asked) (F_law_whole : FnAt P w K mg base 1 "_law_whole" ["found"] [] S_law_whole) (F_law_worth : FnAt P w K mg base 1 "_law_worth" ["text"] [] S_law_worth) {f : Addr} (cdv : Value) (A : Around) (outer : List PySem.Env) (s : Shared) (H : Hp) (E : XK) (G : Hp) (hr : Room 3 (A.deeper (envOfC "_law_spot_good" (defScope st_law_spot_good) s.heap.objs.size f cdv)))
    (tk : Takes (XB P w K mg base ["text", "parts", "sign", "answer", "found"] "_law_spot_good" (defScope st_law_spot_good) f cdv A outer s H E) (fun cls d _ H => E cls d H)) (hp : PassesOwn (model P w) (XB P w K mg base ["text", "parts", "sign", "answer", "found"] "_law_spot_good" (defScope st_law_spot_good) f cdv A outer s H E).A (XB P w K mg base ["text", "parts", "sign", "answer", "found"] "_law_spot_good" (defScope st_law_spot_good) f cdv A outer s H E).env (XB P w K mg base ["text", "parts", "sign", "answer", "found"] "_law_spot_good" (defScope st_law_spot_good) f cdv A outer s H E).xe) :
    DSs (XB P w K mg base ["text", "parts", "sign", "answer", "found"] "_law_spot_good" (defScope st_law_spot_good) f cdv A outer s H E) (fun cls d _ H => E cls d H) G (defBody st_law_spot_good) m_law_spot_good :=
  (dss_cons (ds_set (i := 1) sc_law_spot_good.nd rfl (by first | exact Or.inl rfl | exact Or.inr rfl) (de_lst (da_cons (de_c (d := .str (tS [])) (v := .str (tS [])) pe_str rfl) da_nil (by rfl))) (by rfl) (by first | exact Or.inl rfl | exact Or.inr rfl)) (dss_cons (ds_for (vs := [2]) hp rfl (di_any (de_var 0 (pv 0))) (dg_name (i := 2) (by decide) sc_law_spot_good.nd rfl (by first | exact Or.inl rfl | exact Or.inr rfl) (by first | exact Or.inl rfl | exact Or.inr rfl)) (dss_one (ds_if (dt_cmp (opEqD hr.units) (de_var 2 (pv 2)) (de_c (d := .str (tS [44])) (v := .str (tS [44])) pe_str rfl) (nomark _)) (dss_one (ds_app (i := 1) (pv 1) (de_c (d := .str (tS [])) (v := .str (tS [])) pe_str rfl) (by rfl) (by rfl) (by rfl) (by rfl) (by rfl) (by rfl))) (dss_one (ds_st (i := 1) (hu_of hr) (pv 1) (de_neg (de_c pe_int rfl)) (de_add (de_ix (hu_of hr) (de_var 1 (pv 1)) (de_neg (de_c pe_int rfl)) (fun _ _ => rfl)) (de_var 2 (pv 2))) (by intro _; rfl) (by rfl) (by rfl))))) (by intro _; rfl)) (dss_cons (ds_let (i := 3) sc_law_spot_good.nd rfl (by first | exact Or.inl rfl | exact Or.inr rfl) (de_call' F_law_asked hr (by decide) (by rfl) (fun _ => .nil) tk (da_cons (de_var 0 (pv 0)) (da_cons (de_c pe_bl rfl) da_nil (by rfl)) (by rfl)) (by decide) (by rfl) (by rfl)) (by rfl) (by first | exact Or.inl rfl | exact Or.inr rfl)) (dss_cons (ds_if (dt_w (dw_or (dt_cmp (opNeD hr.units) (de_B cLen (by rfl) T.len (by decide +kernel) (da_cons (de_var 1 (pv 1)) da_nil (by rfl)) (by decide) (by decide) (by rfl) (by rfl)) (de_c pe_int rfl) (nomark _)) (dw_or (dt_cmp (opLtD hr.units0) (de_call' F_law_worth hr (by decide) (by rfl) (fun _ => .nil) tk (da_cons (de_ix (hu_of hr) (de_var 1 (pv 1)) (de_c pe_int rfl) (fun _ _ => rfl)) da_nil (by rfl)) (by decide) (by rfl) (by rfl)) (de_c pe_int rfl) (nomark _)) (dw_or1 (dt_cmp (opLtD hr.units0) (de_call' F_law_worth hr (by decide) (by rfl) (fun _ => .nil) tk (da_cons (de_ix (hu_of hr) (de_var 1 (pv 1)) (de_c pe_int rfl) (fun _ _ => rfl)) da_nil (by rfl)) (by decide) (by rfl) (by rfl)) (de_c pe_int rfl) (nomark _)))))) (dss_one (ds_ret (de_cmp (opEqD hr.units) (de_var 3 (pv 3)) (de_lst (da_cons (de_c (d := .str (tS [114, 101, 102, 117, 115, 101, 100])) (v := .str (tS [114, 101, 102, 117, 115, 101, 100])) pe_str rfl) (da_cons (de_c pe_bl rfl) da_nil (by rfl)) (by rfl))) (nomark _)))) dss_nil) (dss_cons (ds_let (i := 4) sc_law_spot_good.nd rfl (by first | exact Or.inl rfl | exact Or.inr rfl) (de_ix (hu_of hr) (de_var 3 (pv 3)) (de_c pe_int rfl) (fun _ _ => rfl)) (by rfl) (by first | exact Or.inl rfl | exact Or.inr rfl)) (dss_cons (ds_if (dt_w (dw_or (dt_cmp (opNeD hr.units) (de_ix (hu_of hr) (de_var 3 (pv 3)) (de_c pe_int rfl) (fun _ _ => rfl)) (de_c (d := .str (tS [116, 111, 108, 100])) (v := .str (tS [116, 111, 108, 100])) pe_str rfl) (nomark _)) (dw_or (dt_not (dt_tru (de_isi (c := "tuple") (by decide) (by rfl) T.isinstance (de_var 4 (pv 4)) (pe_bltn (by rfl) T.tuple (by decide +kernel) rfl) (by rfl) (by rfl) (by rfl)) (by intro _; rfl))) (dw_or1 (dt_cmp (opNeD hr.units) (de_B cLen (by rfl) T.len (by decide +kernel) (da_cons (de_var 4 (pv 4)) da_nil (by rfl)) (by decide) (by decide) (by rfl) (by rfl)) (de_c pe_int rfl) (nomark _)))))) (dss_one (ds_ret (de_c pe_bl rfl))) dss_nil) (dss_cons (ds_if (dt_w (dw_or (dt_not (dt_tru (de_call' F_law_whole hr (by decide) (by rfl) (fun _ => .nil) tk (da_cons (de_ix (hu_of hr) (de_var 4 (pv 4)) (de_c pe_int rfl) (fun _ _ => rfl)) da_nil (by rfl)) (by decide) (by rfl) (by rfl)) (by intro _; rfl))) (dw_or1 (dt_not (dt_tru (de_call' F_law_whole hr (by decide) (by rfl) (fun _ => .nil) tk (da_cons (de_ix (hu_of hr) (de_var 4 (pv 4)) (de_c pe_int rfl) (fun _ _ => rfl)) da_nil (by rfl)) (by decide) (by rfl) (by rfl)) (by intro _; rfl)))))) (dss_one (ds_ret (de_c pe_bl rfl))) dss_nil) (dss_one (ds_frz [1] (ds_ret (de_andV (de_cmp (opEqD hr.units) (de_ix (hu_of hr) (de_var 4 (pv 4)) (de_c pe_int rfl) (fun _ _ => rfl)) (de_call' F_law_worth hr (by decide) (by rfl) (fun _ => .nil) tk (da_cons (de_ix (hu_of hr) (de_var 1 (pv 1)) (de_c pe_int rfl) (fun _ _ => rfl)) da_nil (by rfl)) (by decide) (by rfl) (by rfl)) (nomark _)) (de_one (de_cmp (opEqD hr.units) (de_ix (hu_of hr) (de_var 4 (pv 4)) (de_c pe_int rfl) (fun _ _ => rfl)) (de_call' F_law_worth hr (by decide) (by rfl) (fun _ => .nil) tk (da_cons (de_ix (hu_of hr) (de_var 1 (pv 1)) (de_c pe_int rfl) (fun _ _ => rfl)) da_nil (by rfl)) (by decide) (by rfl) (by rfl)) (nomark _))))))))))))))
theorem l_law_spot_good : ∀ ds Q E, S_law_spot_good ds Q E → ds.length = 1 := sp1_len rfl
local macro_rules | `(tactic| walk_at "x") => `(tactic| simp only [e_law_asked, f_law_asked, e_law_whole, f_law_whole, e_law_worth, f_law_worth])
theorem w_law_spot_good : ∀ ds Q E, S_law_spot_good ds Q E → m_law_spot_good (enD Q E) (startD ["text", "parts", "sign", "answer", "found"] ds) := sp1_w (by
  rintro a0 Q E ⟨l, rfl, hl, ok, hq⟩
  unfold m_law_spot_good startD
  walk_at "h"
  walk_at "h"
  refine for_gs [1, 2] (fun y : List (List Nat) × Option O => [some (.lst (tL y.1)), y.2]) (fun k y => y.1 = splN 44 (l.take k)) ([[]], none) rfl rfl ?_ ?_
  · rintro k c ⟨ps, o⟩ hd hI
    simp only at hI
    have hm := List.mem_of_getElem? hd
    obtain ⟨i, p, e1, e2, e3⟩ := splN_last 44 (l.take k)
    rw [e1] at hI
    subst hI
    have e4 : splN 44 (l.take (k + 1)) = splF 44 (i ++ [p]) c := by rw [take_succ hd, splN_snoc, e1]
    rw [splF_snoc] at e4
    have hkl := (List.getElem?_eq_some_iff.mp hd).1
    rw [List.length_take] at e2
    walk_at "h"
    refine ite_i (fun h => ⟨by rw [sizeLine_eq, List.length_append]; simp; omega, ?_⟩) fun h => ⟨by rw [sizeLine_eq]; omega, i.length, by rw [List.length_append]; exact ixN_end, ?_⟩
    · rw [if_pos h] at e4
      exact nxF (i ++ [p] ++ [[]], _) rfl e4.symm
    · rw [if_neg h] at e4
      rw [set_end]
      exact nxF (i ++ [p ++ [c]], _) rfl e4.symm
  rintro ⟨ps, o⟩ hI
  simp only [List.take_length] at hI
  subst hI
  walk_at "h"
  obtain ⟨i, p, e1, e2, e3⟩ := splN_last 44 l
  rw [← e1] at e3
  have okp : ∀ q ∈ splN 44 l, q.length ≤ 2000 ∧ okT q := fun q m => ⟨by have := (e3 q m).1; omega, fun c mc => ok c ((e3 q m).2 c mc)⟩
  refine ⟨fun p q e g1 g2 => ?_, fun z => absurd z (by simp), fun n _ => ?_⟩
  · have o1 := okp p (by rw [e]; simp)
    have o2 := okp q (by rw [e]; simp)
    rw [e]
    walk_at "h"
    refine ite_i (fun h => absurd h (by decide)) fun _ => ⟨o1.1, o1.2, ?_⟩
    rw [if_pos g1, if_pos g2]
    refine ite_i (fun h => by omega) fun _ => ⟨o2.1, o2.2, ?_⟩
    refine ite_i (fun h => by omega) fun _ => ?_
    walk_at "h"
    refine ite_i (fun h => absurd h (by decide)) fun _ => ?_
    walk_at "h"
    refine ite_i (fun h => by simp [wholeB] at h) fun _ => ⟨o1.1, o1.2, ?_⟩
    rw [if_pos g1, if_pos g2]
    refine ite_i (fun _ => ⟨o2.1, o2.2, ?_⟩) fun h => absurd rfl h
    rw [decide_eq_true rfl]
    exact hq
  · by_cases h2 : ∃ p q, splN 44 l = [p, q]
    · obtain ⟨p, q, e⟩ := h2
      have o1 := okp p (by rw [e]; simp)
      have o2 := okp q (by rw [e]; simp)
      have e9 : ¬ (numB p ∧ numB q) := fun g => n ⟨p, q, e, g.1, g.2⟩
      rw [e]
      walk_at "h"
      refine ite_i (fun h => absurd h (by decide)) fun _ => ⟨o1.1, o1.2, ?_⟩
      by_cases g1 : numB p
      · have g2 : ¬ numB q := fun g => e9 ⟨g1, g⟩
        rw [if_pos g1, if_neg g2]
        exact ite_i (fun _ => refD_same hq) fun _ => ⟨o2.1, o2.2, ite_i (fun _ => refD_same hq) fun h => absurd (by decide) h⟩
      · rw [if_neg g1]
        exact ite_i (fun _ => refD_same hq) fun h => absurd (by decide) h
    · walk_at "h"
      refine ite_i (fun _ => refD_same hq) fun h => absurd ?_ h2
      have hl2 : (splN 44 l).length = 2 := by simp at h; omega
      cases h1 : splN 44 l with
      | nil => rw [h1] at hl2; simp at hl2
      | cons a t => cases t with
        | nil => rw [h1] at hl2; simp at hl2
        | cons b t => cases t with
          | nil => exact ⟨a, b, rfl⟩
          | cons c t => rw [h1] at hl2; simp at hl2)
theorem ok_law_spot_good {P : Program} {w : World} {K : K0} {mg : Str → Option Value} {base : Heap} {f : Addr} {fd : FuncData} (F : FunD K "_law_spot_good" "_law_spot_good" (defArgs st_law_spot_good) (defBody st_law_spot_good) (defScope st_law_spot_good) [] [] f fd) (g : mg "_law_spot_good" = some (.ref f)) (T : Gb mg) (F_law_asked : FnAt P w K mg base 3 "_law_asked" ["text", "spot"] [] S_law_asked) (F_law_whole : FnAt P w K mg base 1 "_law_whole" ["found"] [] S_law_whole) (F_law_worth : FnAt P w K mg base 1 "_law_worth" ["text"] [] S_law_worth) : FnAt P w K mg base 4 "_law_spot_good" ["text"] [] S_law_spot_good :=
  fnAt F g sc_law_spot_good (fun _ _ _ _ _ _ us hl => match us, hl with | [_], _ => rfl) l_law_spot_good (fun cdv A outer s H E G hr tk hp => d_law_spot_good T F_law_asked F_law_whole F_law_worth cdv A outer s H E G hr tk hp) w_law_spot_good
/-! law -/
--uses MY

abbrev st_law : Stmt := top 18
def m_law : WS := (wSq (wLet 1 (wC (.str (tS [])))) (wSq (wFor (wiR1 (wB (f2 min2D) (waC (wB (f1 lenD) (waC (wVar 0) waN)) (waC (wC (.int 80)) waN)))) (gN 2) (wSq (wLet 3 (wCall S_law_text_by [] (waC (wIx (wVar 0) (wVar 2)) (waC (wVar 2) waN)))) (wSq (wLet 4 (wCall S_law_text_by [] (waC (wIx (wVar 0) (wSub (wNeg (wC (.int 1))) (wVar 2))) (waC (wAdd (wVar 2) (wC (.int 50))) waN)))) (wSq (wLet 5 (wAdd (wAdd (wVar 3) (wIx (wLst (waC (wC (.str (tS []))) (waC (wC (.str (tS [44]))) (waC (wC (.str (tS [44]))) (waC (wC (.str (tS [44]))) (waC (wC (.str (tS [44, 44]))) waN)))))) (wMod (wCall S_law_mixed [] (waC (wIx (wVar 0) (wVar 2)) (waC (wAdd (wVar 2) (wC (.int 400))) waN))) (wC (.int 5))))) (wVar 4))) (wSq (wIf (wtOr (wtNot (wTru (wCall S_law_number_good [] (waC (wVar 3) waN)))) (wtNot (wTru (wCall S_law_spot_good [] (waC (wVar 5) waN))))) (wRet (wC (.bool false))) wNil) (wSq (wIf (wtOr (wtNot (wTru (wCall S_law_number_good [] (waC (wVar 4) waN)))) (wtNot (wTru (wCall S_law_number_good [] (waC (wVar 1) waN))))) (wRet (wC (.bool false))) wNil) (wSq (wIf (wtOr (wtNot (wTru (wCall S_law_spot_good [] (waC (wVar 3) waN)))) (wtNot (wTru (wCall S_law_spot_good [] (waC (wAdd (wAdd (wVar 1) (wC (.str (tS [44])))) (wVar 3)) waN))))) (wRet (wC (.bool false))) wNil) (wLet 1 (wVar 3))))))))) (wRet (wAndV (wCall S_law_number_good [] (waC (wC (.str (tS [48]))) waN)) (wAndV (wCall S_law_number_good [] (waC (wC (.str (tS []))) waN)) (wCall S_law_spot_good [] (waC (wC (.str (tS [48, 44, 48]))) waN)))))))
theorem sc_law : FnScope ["script", "held", "k", "text", "other", "pair"] ["script"] (defScope st_law) := ⟨rfl, rfl, rfl, by decide +kernel, rfl, by decide +kernel, by decide +kernel⟩
theorem d_law {P : Program} {w : World} {K : K0} {mg : Str → Option Value} {base : Heap} (T : Gb mg) (F_law_mixed : FnAt P w K mg base 1 "_law_mixed" ["cell", "k"] [] S_law_mixed) (F_law_number_good : FnAt P w K mg base 4 "_law_number_good" ["text"] [] S_law_number_good) (F_law_spot_good : FnAt P w K mg base 4 "_law_spot_good" ["text"] [] S_law_spot_good) (F_law_text_by : FnAt P w K mg base 2 "_law_text_by" ["cell", "k"] [] S_law_text_by) {f : Addr} (cdv : Value) (A : Around) (outer : List PySem.Env) (s : Shared) (H : Hp) (E : XK) (G : Hp) (hr : Room 4 (A.deeper (envOfC "law" (defScope st_law) s.heap.objs.size f cdv)))
    (tk : Takes (XB P w K mg base ["script", "held", "k", "text", "other", "pair"] "law" (defScope st_law) f cdv A outer s H E) (fun cls d _ H => E cls d H)) (hp : PassesOwn (model P w) (XB P w K mg base ["script", "held", "k", "text", "other", "pair"] "law" (defScope st_law) f cdv A outer s H E).A (XB P w K mg base ["script", "held", "k", "text", "other", "pair"] "law" (defScope st_law) f cdv A outer s H E).env (XB P w K mg base ["script", "held", "k", "text", "other", "pair"] "law" (defScope st_law) f cdv A outer s H E).xe) :
    DSs (XB P w K mg base ["script", "held", "k", "text", "other", "pair"] "law" (defScope st_law) f cdv A outer s H E) (fun cls d _ H => E cls d H) G (defBody st_law) m_law :=
  (dss_cons (ds_let (i := 1) sc_law.nd rfl (by first | exact Or.inl rfl | exact Or.inr rfl) (de_c (d := .str (tS [])) (v := .str (tS [])) pe_str rfl) (by rfl) (by first | exact Or.inl rfl | exact Or.inr rfl)) (dss_cons (ds_for (vs := [2]) hp rfl (di_range1 (by rfl) T.range (de_B (cMin2 rfl) (by rfl) T.min (by decide +kernel) (da_cons (de_B cLen (by rfl) T.len (by decide +kernel) (da_cons (de_var 0 (pv 0)) da_nil (by rfl)) (by decide) (by decide) (by rfl) (by rfl)) (da_cons (de_c pe_int rfl) da_nil (by rfl)) (by rfl)) (by decide) (by decide) (by rfl) (by rfl)) (by rfl) (by rfl)) (dg_name (i := 2) (by decide) sc_law.nd rfl (by first | exact Or.inl rfl | exact Or.inr rfl) (by first | exact Or.inl rfl | exact Or.inr rfl)) (dss_cons (ds_let (i := 3) sc_law.nd rfl (by first | exact Or.inl rfl | exact Or.inr rfl) (de_call' F_law_text_by hr (by decide) (by rfl) (fun _ => .nil) tk (da_cons (de_ix (hu_of hr) (de_var 0 (pv 0)) (de_var 2 (pv 2)) (fun _ _ => rfl)) (da_cons (de_var 2 (pv 2)) da_nil (by rfl)) (by rfl)) (by decide) (by rfl) (by rfl)) (by rfl) (by first | exact Or.inl rfl | exact Or.inr rfl)) (dss_cons (ds_let (i := 4) sc_law.nd rfl (by first | exact Or.inl rfl | exact Or.inr rfl) (de_call' F_law_text_by hr (by decide) (by rfl) (fun _ => .nil) tk (da_cons (de_ix (hu_of hr) (de_var 0 (pv 0)) (de_sub (de_neg (de_c pe_int rfl)) (de_var 2 (pv 2))) (fun _ _ => rfl)) (da_cons (de_add (de_var 2 (pv 2)) (de_c pe_int rfl)) da_nil (by rfl)) (by rfl)) (by decide) (by rfl) (by rfl)) (by rfl) (by first | exact Or.inl rfl | exact Or.inr rfl)) (dss_cons (ds_let (i := 5) sc_law.nd rfl (by first | exact Or.inl rfl | exact Or.inr rfl) (de_add (de_add (de_var 3 (pv 3)) (de_ix (hu_of hr) (de_lst (da_cons (de_c (d := .str (tS [])) (v := .str (tS [])) pe_str rfl) (da_cons (de_c (d := .str (tS [44])) (v := .str (tS [44])) pe_str rfl) (da_cons (de_c (d := .str (tS [44])) (v := .str (tS [44])) pe_str rfl) (da_cons (de_c (d := .str (tS [44])) (v := .str (tS [44])) pe_str rfl) (da_cons (de_c (d := .str (tS [44, 44])) (v := .str (tS [44, 44])) pe_str rfl) da_nil (by rfl)) (by rfl)) (by rfl)) (by rfl)) (by rfl))) (de_mod (de_call' F_law_mixed hr (by decide) (by rfl) (fun _ => .nil) tk (da_cons (de_ix (hu_of hr) (de_var 0 (pv 0)) (de_var 2 (pv 2)) (fun _ _ => rfl)) (da_cons (de_add (de_var 2 (pv 2)) (de_c pe_int rfl)) da_nil (by rfl)) (by rfl)) (by decide) (by rfl) (by rfl)) (de_c pe_int rfl)) (fun _ _ => rfl))) (de_var 4 (pv 4))) (by rfl) (by first | exact Or.inl rfl | exact Or.inr rfl)) (dss_cons (ds_if (dt_w (dw_or (dt_not (dt_tru (de_call' F_law_number_good hr (by decide) (by rfl) (fun _ => .nil) tk (da_cons (de_var 3 (pv 3)) da_nil (by rfl)) (by decide) (by rfl) (by rfl)) (by intro _; rfl))) (dw_or1 (dt_not (dt_tru (de_call' F_law_spot_good hr (by decide) (by rfl) (fun _ => .nil) tk (da_cons (de_var 5 (pv 5)) da_nil (by rfl)) (by decide) (by rfl) (by rfl)) (by intro _; rfl)))))) (dss_one (ds_ret (de_c pe_bl rfl))) dss_nil) (dss_cons (ds_if (dt_w (dw_or (dt_not (dt_tru (de_call' F_law_number_good hr (by decide) (by rfl) (fun _ => .nil) tk (da_cons (de_var 4 (pv 4)) da_nil (by rfl)) (by decide) (by rfl) (by rfl)) (by intro _; rfl))) (dw_or1 (dt_not (dt_tru (de_call' F_law_number_good hr (by decide) (by rfl) (fun _ => .nil) tk (da_cons (de_var 1 (pv 1)) da_nil (by rfl)) (by decide) (by rfl) (by rfl)) (by intro _; rfl)))))) (dss_one (ds_ret (de_c pe_bl rfl))) dss_nil) (dss_cons (ds_if (dt_w (dw_or (dt_not (dt_tru (de_call' F_law_spot_good hr (by decide) (by rfl) (fun _ => .nil) tk (da_cons (de_var 3 (pv 3)) da_nil (by rfl)) (by decide) (by rfl) (by rfl)) (by intro _; rfl))) (dw_or1 (dt_not (dt_tru (de_call' F_law_spot_good hr (by decide) (by rfl) (fun _ => .nil) tk (da_cons (de_add (de_add (de_var 1 (pv 1)) (de_c (d := .str (tS [44])) (v := .str (tS [44])) pe_str rfl)) (de_var 3 (pv 3))) da_nil (by rfl)) (by decide) (by rfl) (by rfl)) (by intro _; rfl)))))) (dss_one (ds_ret (de_c pe_bl rfl))) dss_nil) (dss_one (ds_let (i := 1) sc_law.nd rfl (by first | exact Or.inl rfl | exact Or.inr rfl) (de_var 3 (pv 3)) (by rfl) (by first | exact Or.inl rfl | exact Or.inr rfl))))))))) (by intro _; rfl)) (dss_one (ds_ret (de_andV (de_call' F_law_number_good hr (by decide) (by rfl) (fun _ => .nil) tk (da_cons (de_c (d := .str (tS [48])) (v := .str (tS [48])) pe_str rfl) da_nil (by rfl)) (by decide) (by rfl) (by rfl)) (de_andV (de_call' F_law_number_good hr (by decide) (by rfl) (fun _ => .nil) tk (da_cons (de_c (d := .str (tS [])) (v := .str (tS [])) pe_str rfl) da_nil (by rfl)) (by decide) (by rfl) (by rfl)) (de_one (de_call' F_law_spot_good hr (by decide) (by rfl) (fun _ => .nil) tk (da_cons (de_c (d := .str (tS [48, 44, 48])) (v := .str (tS [48, 44, 48])) pe_str rfl) da_nil (by rfl)) (by decide) (by rfl) (by rfl)))))))))
theorem l_law : ∀ ds Q E, S_law ds Q E → ds.length = 1 := sp1_len rfl
local macro_rules | `(tactic| walk_at "x") => `(tactic| simp only [e_law_mixed, f_law_mixed, e_law_number_good, f_law_number_good, e_law_spot_good, f_law_spot_good, e_law_text_by, f_law_text_by])
theorem w_law : ∀ ds Q E, S_law ds Q E → m_law (enD Q E) (startD ["script", "held", "k", "text", "other", "pair"] ds) := sp1_w (by
  rintro a0 Q E ⟨ns, rfl, hl, hb, hq⟩
  unfold m_law startD
  walk_at "h"
  walk_at "h"
  refine for_gs [1, 2, 3, 4, 5] (fun y : List Nat × Option O × Option O × Option O × Option O => [some (.fro (.str (tS y.1))), y.2.1, y.2.2.1, y.2.2.2.1, y.2.2.2.2]) (fun k y => y.1.length ≤ 300 ∧ okT y.1) ([], none, none, none, none) rfl ⟨by simp, fun c m => by simp at m⟩ ?_ ?_
  · rintro k c ⟨t, o1, o2, o3, o4⟩ hd ⟨hI, hJ⟩
    obtain ⟨rfl, hk⟩ := range_get hd
    simp only at hI hJ
    have hk : c < ns.length := by omega
    walk_at "h"
    refine ⟨_, atI_map_lt _ hk, ?_⟩
    walk_at "h"
    intro l l1 l2
    walk_at "h"
    obtain ⟨d, md, ed⟩ := atI_back (xs := ns.map PyData.int) (k := c) (by rw [List.length_map]; exact hk)
    obtain ⟨z, mz, rfl⟩ := List.mem_map.mp md
    refine ⟨_, ed, z, rfl, c + 50, by push_cast; rfl, by omega, fun m m1 m2 => ?_⟩
    walk_at "h"
    refine ⟨_, atI_map_lt _ hk, _, rfl, by omega, by omega, fun n hn => ⟨by decide, pick_go rfl (by decide) fun d hd => ?_⟩⟩
    obtain ⟨sep, rfl, s1, s2⟩ : ∃ sep : List Nat, d = .str (tS sep) ∧ sep.length ≤ 2 ∧ okT sep := by
      simp only [List.mem_cons, List.not_mem_nil, or_false] at hd
      rcases hd with rfl | rfl | rfl | rfl | rfl <;> exact ⟨_, rfl, by decide, by decide⟩
    walk_at "h"
    refine ⟨by simp; omega, (l2.app s2).app m2, ?_⟩
    walk_at "h"
    refine ⟨by simp; omega, (hJ.app (okT_one (by decide))).app l2, nxF (l, _, _, _, _) rfl ⟨l1, l2⟩⟩
  rintro ⟨t, o1, o2, o3, o4⟩ ⟨hI, hJ⟩
  walk_at "h"
  exact hq)
theorem ok_law {P : Program} {w : World} {K : K0} {mg : Str → Option Value} {base : Heap} {f : Addr} {fd : FuncData} (F : FunD K "law" "law" (defArgs st_law) (defBody st_law) (defScope st_law) [] [] f fd) (T : Gb mg) (F_law_mixed : FnAt P w K mg base 1 "_law_mixed" ["cell", "k"] [] S_law_mixed) (F_law_number_good : FnAt P w K mg base 4 "_law_number_good" ["text"] [] S_law_number_good) (F_law_spot_good : FnAt P w K mg base 4 "_law_spot_good" ["text"] [] S_law_spot_good) (F_law_text_by : FnAt P w K mg base 2 "_law_text_by" ["cell", "k"] [] S_law_text_by) : FnOk P w K mg base (L2.CX P w) 5 f fd ["script"] (dsp K mg S_law) :=
  fn_d F sc_law l_law (fun cdv A outer s H E G hr tk hp => d_law T F_law_mixed F_law_number_good F_law_spot_good F_law_text_by cdv A outer s H E G hr tk hp) w_law
def dfs : List He.DefD := [⟨("read_number", none), "read_number", "read_number", defArgs st_read_number, defBody st_read_number, defScope st_read_number, [], []⟩, ⟨("read_spot", none), "read_spot", "read_spot", defArgs st_read_spot, defBody st_read_spot, defScope st_read_spot, [], []⟩, ⟨("_law_mixed", none), "_law_mixed", "_law_mixed", defArgs st_law_mixed, defBody st_law_mixed, defScope st_law_mixed, [], []⟩, ⟨("_law_worth", none), "_law_worth", "_law_worth", defArgs st_law_worth, defBody st_law_worth, defScope st_law_worth, [], []⟩, ⟨("_law_sign_by", none), "_law_sign_by", "_law_sign_by", defArgs st_law_sign_by, defBody st_law_sign_by, defScope st_law_sign_by, [], []⟩, ⟨("_law_text_by", none), "_law_text_by", "_law_text_by", defArgs st_law_text_by, defBody st_law_text_by, defScope st_law_text_by, [], []⟩, ⟨("_law_asked", none), "_law_asked", "_law_asked", defArgs st_law_asked, defBody st_law_asked, defScope st_law_asked, [], []⟩, ⟨("_law_whole", none), "_law_whole", "_law_whole", defArgs st_law_whole, defBody st_law_whole, defScope st_law_whole, [], []⟩, ⟨("_law_number_good", none), "_law_number_good", "_law_number_good", defArgs st_law_number_good, defBody st_law_number_good, defScope st_law_number_good, [], []⟩, ⟨("_law_spot_good", none), "_law_spot_good", "_law_spot_good", defArgs st_law_spot_good, defBody st_law_spot_good, defScope st_law_spot_good, [], []⟩, ⟨("law", none), "law", "law", defArgs st_law, defBody st_law, defScope st_law, [], []⟩]
def fas : List He.Fa := [.glo "read_number", .glo "read_spot", .glo "_law_mixed", .glo "_law_worth", .glo "_law_sign_by", .glo "_law_text_by", .glo "_law_asked", .glo "_law_whole", .glo "_law_number_good", .glo "_law_spot_good", .glo "law", .exc "BlotError", .glo "BlotError", .exc "NoRow", .glo "NoRow", .exc "NoName", .glo "NoName", .exc "NoNote", .glo "NoNote", .str "FIGURES" "0123456789"]
def loose0 : List Str := ["BlotError", "NoRow", "NoName", "NoNote", "FIGURES", "read_number", "read_spot", "_law_mixed", "_law_worth", "_law_sign_by", "_law_text_by", "_law_asked", "_law_whole", "_law_number_good", "_law_spot_good"]
def loose : List Str := loose0
abbrev Rw : PySem.W.OpenRow := PySem.W.OpenLaw.row PySem.Challenge.rw_blotsure_k71_numbers_and_spots
abbrev hk : PySem.W.Hook := hookE 4 (fas0 ++ fas) dfs (excB exNs)
def ob (s : PySem.W.SharedT) : AlE := obsE 4 (fas0 ++ fas) dfs (excB exNs) (HandSHeadRun.getT s)
theorem ob_eq (s : PySem.W.SharedT) : ob s = hk.obs s.abs := obsE_eq (HandSHeadRun.getT_eq s)
theorem run (w : World) : HandSHeadRun.RunEq Rw (PySem.W.view Rw.prog [18]) hk ob 3140 loose w := by
  intro os
  kernel_rfl
theorem facts {P : Program} {w : World} {K : K0} {h : Heap} {mg : Str → Option Value} {f : Addr} (X : K.In h) (G : h.Ns mainGlobals mg) (hfa : mg ("law" : Str) = some (.ref f)) (c : He.SaysD (fas0 ++ fas) dfs K) (cx : excB exNs K = true) :
    ∃ fd : FuncData, (∀ (s : Shared) (v : Value), BindsTo s fd ⟨[v], []⟩ [("script", v)]) ∧ ∀ base : Heap, K.In base → base.Ns mainGlobals mg → FnOk P w K mg base (L2.CX P w) 5 f fd ["script"] (dsp K mg S_law) := by
  have T := gb_of X G c
  obtain ⟨f_read_number, fd_read_number, D_read_number, g_read_number⟩ := fun_of X G c (x := "read_number") (st := st_read_number) 0 22 rfl rfl
  obtain ⟨f_read_spot, fd_read_spot, D_read_spot, g_read_spot⟩ := fun_of X G c (x := "read_spot") (st := st_read_spot) 1 23 rfl rfl
  obtain ⟨f_law_mixed, fd_law_mixed, D_law_mixed, g_law_mixed⟩ := fun_of X G c (x := "_law_mixed") (st := st_law_mixed) 2 24 rfl rfl
  obtain ⟨f_law_worth, fd_law_worth, D_law_worth, g_law_worth⟩ := fun_of X G c (x := "_law_worth") (st := st_law_worth) 3 25 rfl rfl
  obtain ⟨f_law_sign_by, fd_law_sign_by, D_law_sign_by, g_law_sign_by⟩ := fun_of X G c (x := "_law_sign_by") (st := st_law_sign_by) 4 26 rfl rfl
  obtain ⟨f_law_text_by, fd_law_text_by, D_law_text_by, g_law_text_by⟩ := fun_of X G c (x := "_law_text_by") (st := st_law_text_by) 5 27 rfl rfl
  obtain ⟨f_law_asked, fd_law_asked, D_law_asked, g_law_asked⟩ := fun_of X G c (x := "_law_asked") (st := st_law_asked) 6 28 rfl rfl
  obtain ⟨f_law_whole, fd_law_whole, D_law_whole, g_law_whole⟩ := fun_of X G c (x := "_law_whole") (st := st_law_whole) 7 29 rfl rfl
  obtain ⟨f_law_number_good, fd_law_number_good, D_law_number_good, g_law_number_good⟩ := fun_of X G c (x := "_law_number_good") (st := st_law_number_good) 8 30 rfl rfl
  obtain ⟨f_law_spot_good, fd_law_spot_good, D_law_spot_good, g_law_spot_good⟩ := fun_of X G c (x := "_law_spot_good") (st := st_law_spot_good) 9 31 rfl rfl
  obtain ⟨f_law, fd_law, D_law, g_law⟩ := fun_of X G c (x := "law") (st := st_law) 10 32 rfl rfl
  have X_BlotError := ex_of X G c (x := "BlotError") 33 34 rfl rfl
  have X_NoRow := ex_of X G c (x := "NoRow") 35 36 rfl rfl
  have X_NoName := ex_of X G c (x := "NoName") 37 38 rfl rfl
  have X_NoNote := ex_of X G c (x := "NoNote") 39 40 rfl rfl
  have X_All : ExAll K mg exNs := exAll_of (by
    intro n hn
    simp only [exNs, List.mem_cons, List.not_mem_nil, or_false] at hn
    rcases hn with rfl | rfl | rfl | rfl
    · exact He.glo_ok X G (c.fact 34 (f := .glo "BlotError") rfl)
    · exact He.glo_ok X G (c.fact 36 (f := .glo "NoRow") rfl)
    · exact He.glo_ok X G (c.fact 38 (f := .glo "NoName") rfl)
    · exact He.glo_ok X G (c.fact 40 (f := .glo "NoNote") rfl)) cx
  obtain ⟨t_FIGURES, c_FIGURES⟩ := He.str_ok X G (c.fact 41 (f := .str "FIGURES" "0123456789") rfl)
  have e := hfa.symm.trans g_law
  cases e
  refine ⟨fd_law, law_binds D_law fun _ _ _ _ _ _ us hl => match us, hl with | [_], _ => rfl, fun base _ _ => ?_⟩
  have F_read_number := ok_read_number (P := P) (w := w) (base := base) D_read_number g_read_number T c_FIGURES X_NoNote
  have F_read_spot := ok_read_spot (P := P) (w := w) (base := base) D_read_spot g_read_spot T X_NoNote F_read_number
  have F_law_mixed := ok_law_mixed (P := P) (w := w) (base := base) D_law_mixed g_law_mixed T
  have F_law_worth := ok_law_worth (P := P) (w := w) (base := base) D_law_worth g_law_worth T
  have F_law_sign_by := ok_law_sign_by (P := P) (w := w) (base := base) D_law_sign_by g_law_sign_by T
  have F_law_text_by := ok_law_text_by (P := P) (w := w) (base := base) D_law_text_by g_law_text_by T F_law_mixed F_law_sign_by
  have F_law_asked := ok_law_asked (P := P) (w := w) (base := base) D_law_asked g_law_asked T X_All F_read_number F_read_spot
  have F_law_whole := ok_law_whole (P := P) (w := w) (base := base) D_law_whole g_law_whole T
  have F_law_number_good := ok_law_number_good (P := P) (w := w) (base := base) D_law_number_good g_law_number_good T F_law_asked F_law_whole F_law_worth
  have F_law_spot_good := ok_law_spot_good (P := P) (w := w) (base := base) D_law_spot_good g_law_spot_good T F_law_asked F_law_whole F_law_worth
  exact ok_law D_law T F_law_mixed F_law_number_good F_law_spot_good F_law_text_by
end DL.L
open PySem PySem.W PySem.Calls PyProof.Rows
theorem PySem.Challenge.cw_blotsure_k71_numbers_and_spots_holds : PySem.Challenge.rw_blotsure_k71_numbers_and_spots.Holds := by
  w_on
  o_law
  refine HandSHeadRun.head_any (r := DL.L.Rw) (q := view DL.L.Rw.prog [18]) (H := DL.L.hk) (ob := DL.L.ob) (M := 3140) (loose := DL.L.loose) (d := HandSHeadRun.topDef DL.L.Rw.prog 18) (kwd := []) DL.L.ob_eq
    (by kernel_rfl) (fun s => by kernel_rfl) DL.L.run (by kernel_rfl) (by kernel_rfl) (by kernel_rfl) (by rfl) (by first | assumption | decide +kernel) (by decide +kernel) ⟨rfl, rfl, rfl, rfl, rfl, by decide +kernel⟩ ?hw ?hc
  case hw => w_witness2
  case hc =>
    refine DL.walk_EB (l := PySem.Challenge.rw_blotsure_k71_numbers_and_spots) (n := 63) (k := 5) (x := "script") (CX := fun w => L2.CX (PySem.Challenge.rw_blotsure_k71_numbers_and_spots).prog w) rfl (by decide) (by kernel_rfl) ⟨rfl, by decide, by decide⟩ ?F (fun w => DL.cx_none w)
    intro w mg fa h Y G hmg0
    obtain ⟨K, KX, c, cx⟩ := Y
    have hmg : mg ("law" : PySem.Str) = some (.ref fa) := by
      have e : (HandSHeadRun.topDef DL.L.Rw.prog 18).name = ("law" : PySem.Str) := by kernel_rfl
      rw [← e]
      exact hmg0
    obtain ⟨fd, hb, hF⟩ := DL.L.facts (P := (PySem.Challenge.rw_blotsure_k71_numbers_and_spots).prog) (w := w) KX G hmg c cx
    exact ⟨K, fd, DL.dsp K mg DL.S_law, KX, hb, fun H a ns hl hbt ho hS => DL.law_sp H a ns hl hbt ho hS, hF⟩

