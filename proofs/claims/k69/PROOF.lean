import PyProof.Rows.All
import Wide.All
import OpenK.AllK
import Wide.FinOn
import HandS.ForMost
import KE.SortData
import PyProof.ReprRoads
import KE.KEqDict
import HandS.TupLen
import KE.KDictOf
import KE.KDictCopyH
import HandS.Wide
import HandS.WideBits
import HandS.TupAny
import HandS.TupMul
import HandS.Deep
import HandS.SortInts
import HandS.SetFor
import HandS.More
import HandS.IsInst
import HandS.SortRule
import HandS.RaiseMore
import PyProof.CallFns
import HandS.Conv
import HandS.Style
import HandS.Walk
import HandS.Rev
import HandS.RevRange
import HandS.Zip
import HandS.HotCalls
import HandS.ExcIs
import HandS.HeadHook1
import HandS.ExcOwn
import KE.GoesEnum
import HandS.NoneIn
import HandS.Strs
import HandS.Iter
import KE.KDictDisplayH
import HandS.WordsExc
import HandS.Defaults
import HandS.Codes
import HandS.HeadEnd
import HandS.Head0
import HandS.Head1
import HandS.Head2
import HandS.HeadHook2
import PyProof.ReprText
import PyProof.NoPylong
import KE.KStateDown
import HandS.Base
import HandS.Call
import HandS.Ends
import HandS.Words
import PySem.Challenge.RW_backsum_k69_values_of_rules
set_option Elab.async false
set_option linter.all false
set_option maxRecDepth 100000
/-! VL1: data without a heap; how a value stands for it; slots and what they own. -/
namespace VL
open PySem PySem.Spec L2

inductive D where
  | non | bl (b : Bool) | int (i : Int) | str (x : Str)
  | tup (ds : List D) | lst (ds : List D)
  | dK (kvs : List (Key × D)) | dT (kvs : List (List Key × D))
  | scr (ns : List Int)
  deriving Inhabited

/-! ### data held by a value, away from the addresses of M -/
structure Av where
  K : PySem.W.Frag
  m : Addr → Prop
instance : CoeFun Av (fun _ => Addr → Prop) := ⟨Av.m⟩
/-- a list of the written part -/
def KL (K : PySem.W.Frag) (a : Addr) (xs : List V) : Prop :=
  ∃ (o : Obj) (its : Array Value) (n : Nat), K.lookup a = some o ∧ o.cls = .type "list" ∧ o.dict = none ∧ o.data = .seq its n ∧ its.size ≤ sizeLine ∧ Vals xs its.toList
mutual
def Rep (M : Av) (H : Hp) : D → V → Prop
  | .non, v => v = .non
  | .bl b, v => v = .bl b
  | .int i, v => v = .int i
  | .str x, v => v = .str x
  | .tup ds, v => ∃ a xs, v = .ref a ∧ H a = some (.tup xs) ∧ ¬ M a ∧ RepL M H ds xs
  | .lst ds, v => ∃ a xs, v = .ref a ∧ H a = some (.lst xs) ∧ ¬ M a ∧ RepL M H ds xs
  | .dK kvs, v => ∃ a ks, v = .ref a ∧ Rd H a (.dK ks) ∧ ¬ M a ∧ RepK M H kvs ks
  | .dT kvs, v => ∃ a ks, v = .ref a ∧ Rd H a (.dT ks) ∧ ¬ M a ∧ RepT M H kvs ks
  | .scr ns, v => ∃ a, v = .ref a ∧ ((∃ o, H a = some (.frz o (.lst (ns.map V.int))) ∧ ¬ M a) ∨ KL M.K a (ns.map V.int))
termination_by structural d => d
def RepL (M : Av) (H : Hp) : List D → List V → Prop
  | [], xs => xs = []
  | d :: ds, xs => ∃ v vs, xs = v :: vs ∧ Rep M H d v ∧ RepL M H ds vs
termination_by structural d => d
def RepK (M : Av) (H : Hp) : List (Key × D) → List (Key × V) → Prop
  | [], xs => xs = []
  | p :: ds, xs => ∃ v vs, xs = (p.1, v) :: vs ∧ RepP M H p v ∧ RepK M H ds vs
termination_by structural d => d
def RepP (M : Av) (H : Hp) : Key × D → V → Prop
  | (_, d), v => Rep M H d v
termination_by structural d => d
def RepT (M : Av) (H : Hp) : List (List Key × D) → List (List Key × V) → Prop
  | [], xs => xs = []
  | p :: ds, xs => ∃ v vs, xs = (p.1, v) :: vs ∧ RepQ M H p v ∧ RepT M H ds vs
termination_by structural d => d
def RepQ (M : Av) (H : Hp) : List Key × D → V → Prop
  | (_, d), v => Rep M H d v
termination_by structural d => d
end

theorem Rd.mv {H H' : Hp} {a : Addr} {u : HO} (r : Rd H a u) (h : ∀ o, H a = some o → H' a = some o) : Rd H' a u := by
  rcases r with r | ⟨o, r⟩
  · exact .inl (h _ r)
  · exact .inr ⟨o, h _ r⟩
theorem Rd.some {H : Hp} {a : Addr} {u : HO} (r : Rd H a u) : ∃ o, H a = some o := by
  rcases r with r | ⟨o, r⟩
  · exact ⟨_, r⟩
  · exact ⟨_, r⟩

/-- what is kept of the heap, and stays out of M' -/
def Kp (M : Av) (H : Hp) (M' : Av) (H' : Hp) : Prop := M'.K = M.K ∧ ∀ b o, H b = some o → ¬ M b → H' b = some o ∧ ¬ M' b
section
variable {M M' : Av} {H H' : Hp}
mutual
theorem Rep.mv (k : Kp M H M' H') : ∀ {d : D} {v : V}, Rep M H d v → Rep M' H' d v
  | .non, _, h => h
  | .bl _, _, h => h
  | .int _, _, h => h
  | .str _, _, h => h
  | .tup ds, _, ⟨a, xs, e, h, m, r⟩ => ⟨a, xs, e, (k.2 _ _ h m).1, (k.2 _ _ h m).2, RepL.mv k r⟩
  | .lst ds, _, ⟨a, xs, e, h, m, r⟩ => ⟨a, xs, e, (k.2 _ _ h m).1, (k.2 _ _ h m).2, RepL.mv k r⟩
  | .dK kvs, _, ⟨a, xs, e, h, m, r⟩ => ⟨a, xs, e, Rd.mv h fun o q => (k.2 _ _ q m).1, (let ⟨o, q⟩ := Rd.some h; (k.2 _ _ q m).2), RepK.mv k r⟩
  | .dT kvs, _, ⟨a, xs, e, h, m, r⟩ => ⟨a, xs, e, Rd.mv h fun o q => (k.2 _ _ q m).1, (let ⟨o, q⟩ := Rd.some h; (k.2 _ _ q m).2), RepT.mv k r⟩
  | .scr ns, _, ⟨a, e, h⟩ => ⟨a, e, h.elim (fun ⟨o, q, m⟩ => .inl ⟨o, (k.2 _ _ q m).1, (k.2 _ _ q m).2⟩) fun q => .inr (k.1 ▸ q)⟩
termination_by structural d => d
theorem RepL.mv (k : Kp M H M' H') : ∀ {ds : List D} {xs : List V}, RepL M H ds xs → RepL M' H' ds xs
  | [], _, h => h
  | d :: ds, _, ⟨v, vs, e, h, r⟩ => ⟨v, vs, e, Rep.mv k h, RepL.mv k r⟩
termination_by structural d => d
theorem RepK.mv (k : Kp M H M' H') : ∀ {ds : List (Key × D)} {xs : List (Key × V)}, RepK M H ds xs → RepK M' H' ds xs
  | [], _, h => h
  | p :: ds, _, ⟨v, vs, e, h, r⟩ => ⟨v, vs, e, RepP.mv k h, RepK.mv k r⟩
termination_by structural d => d
theorem RepP.mv (k : Kp M H M' H') : ∀ {p : Key × D} {v : V}, RepP M H p v → RepP M' H' p v
  | (_, d), _, h => Rep.mv (d := d) k h
termination_by structural d => d
theorem RepT.mv (k : Kp M H M' H') : ∀ {ds : List (List Key × D)} {xs : List (List Key × V)}, RepT M H ds xs → RepT M' H' ds xs
  | [], _, h => h
  | p :: ds, _, ⟨v, vs, e, h, r⟩ => ⟨v, vs, e, RepQ.mv k h, RepT.mv k r⟩
termination_by structural d => d
theorem RepQ.mv (k : Kp M H M' H') : ∀ {p : List Key × D} {v : V}, RepQ M H p v → RepQ M' H' p v
  | (_, d), _, h => Rep.mv (d := d) k h
termination_by structural d => d
end
end

/-! ### lists of data -/
theorem RepL.length {M : Av} {H : Hp} : ∀ {ds : List D} {xs : List V}, RepL M H ds xs → xs.length = ds.length
  | [], _, h => by rw [show _ = [] from h]; rfl
  | d :: ds, _, ⟨v, vs, e, _, r⟩ => by rw [e, List.length_cons, List.length_cons, RepL.length r]
theorem RepL.get {M : Av} {H : Hp} : ∀ {ds : List D} {xs : List V} {i : Nat} {d : D}, RepL M H ds xs → ds[i]? = some d → ∃ v, xs[i]? = some v ∧ Rep M H d v
  | [], _, _, _, _, e => by simp at e
  | d :: ds, _, 0, d', ⟨v, vs, e, h, r⟩, q => by
    have : d = d' := by simpa using q
    subst this; subst e
    exact ⟨v, rfl, h⟩
  | d :: ds, _, i + 1, d', ⟨v, vs, e, h, r⟩, q => by
    subst e
    obtain ⟨v', h1, h2⟩ := RepL.get (i := i) (d := d') r (by simpa using q)
    exact ⟨v', by simpa using h1, h2⟩
theorem RepL.geti {M : Av} {H : Hp} {ds : List D} {xs : List V} {i : Nat} {v : V} (r : RepL M H ds xs) (e : xs[i]? = some v) : ∃ d, ds[i]? = some d ∧ Rep M H d v := by
  have hl := r.length
  have hi : i < xs.length := (List.getElem?_eq_some_iff.mp e).1
  obtain ⟨v', h1, h2⟩ := r.get (i := i) (d := ds[i]'(by omega)) (List.getElem?_eq_getElem (by omega))
  rw [e] at h1; cases h1
  exact ⟨_, List.getElem?_eq_getElem (by omega), h2⟩
theorem RepL.app {M : Av} {H : Hp} : ∀ {ds es : List D} {xs ys : List V}, RepL M H ds xs → RepL M H es ys → RepL M H (ds ++ es) (xs ++ ys)
  | [], _, _, _, h, s => by rw [show _ = [] from h]; exact s
  | d :: ds, es, _, ys, ⟨v, vs, e, h, r⟩, s => by
    subst e
    exact ⟨v, vs ++ ys, rfl, h, RepL.app r s⟩
theorem RepL.one {M : Av} {H : Hp} {d : D} {v : V} (h : Rep M H d v) : RepL M H [d] [v] := ⟨v, [], rfl, h, rfl⟩
theorem RepL.set {M : Av} {H : Hp} {d : D} {v : V} (h : Rep M H d v) : ∀ {ds : List D} {xs : List V} (i : Nat), RepL M H ds xs → RepL M H (ds.set i d) (xs.set i v)
  | [], _, _, r => by rw [show _ = [] from r]; rfl
  | _ :: ds, _, 0, ⟨w, vs, e, _, r⟩ => by subst e; exact ⟨v, vs, rfl, h, r⟩
  | _ :: ds, _, i + 1, ⟨w, vs, e, q, r⟩ => by subst e; exact ⟨w, vs.set i v, rfl, q, RepL.set h i r⟩
theorem RepL.take {M : Av} {H : Hp} : ∀ {ds : List D} {xs : List V} (n : Nat), RepL M H ds xs → RepL M H (ds.take n) (xs.take n)
  | _, _, 0, _ => by simp [RepL]
  | [], _, n + 1, r => by rw [show _ = [] from r]; simp [RepL]
  | d :: ds, _, n + 1, ⟨w, vs, e, q, r⟩ => by subst e; exact ⟨w, vs.take n, rfl, q, RepL.take n r⟩
theorem RepL.drop {M : Av} {H : Hp} : ∀ {ds : List D} {xs : List V} (n : Nat), RepL M H ds xs → RepL M H (ds.drop n) (xs.drop n)
  | _, _, 0, r => r
  | [], _, n + 1, r => by rw [show _ = [] from r]; simp [RepL]
  | d :: ds, _, n + 1, ⟨w, vs, e, q, r⟩ => by subst e; exact RepL.drop n r
theorem RepL.erase {M : Av} {H : Hp} : ∀ {ds : List D} {xs : List V} (n : Nat), RepL M H ds xs → RepL M H (ds.eraseIdx n) (xs.eraseIdx n)
  | [], _, _, r => by rw [show _ = [] from r]; simp [RepL]
  | d :: ds, _, 0, ⟨w, vs, e, q, r⟩ => by subst e; exact r
  | d :: ds, _, n + 1, ⟨w, vs, e, q, r⟩ => by subst e; exact ⟨w, vs.eraseIdx n, rfl, q, RepL.erase n r⟩
theorem RepL.rev {M : Av} {H : Hp} : ∀ {ds : List D} {xs : List V}, RepL M H ds xs → RepL M H ds.reverse xs.reverse
  | [], _, r => by rw [show _ = [] from r]; simp [RepL]
  | d :: ds, _, ⟨w, vs, e, q, r⟩ => by
    subst e
    rw [List.reverse_cons, List.reverse_cons]
    exact (RepL.rev r).app (.one q)
theorem RepL.insertAt {M : Av} {H : Hp} {d : D} {v : V} (h : Rep M H d v) {ds : List D} {xs : List V} (i : Nat) (r : RepL M H ds xs) : RepL M H (ds.take i ++ d :: ds.drop i) (xs.take i ++ v :: xs.drop i) :=
  (r.take i).app ⟨v, _, rfl, h, r.drop i⟩
theorem RepL.rep {M : Av} {H : Hp} {ds : List D} {xs : List V} (r : RepL M H ds xs) : ∀ k : Nat, RepL M H (List.replicate k ds).flatten (List.replicate k xs).flatten
  | 0 => rfl
  | k + 1 => by
    rw [List.replicate_succ, List.replicate_succ, List.flatten_cons, List.flatten_cons]
    exact r.app (RepL.rep r k)
/-- lists of ints, of truths -/
theorem RepL.ints {M : Av} {H : Hp} : ∀ {ns : List Int} {xs : List V}, RepL M H (ns.map D.int) xs → xs = ns.map V.int
  | [], _, h => h
  | n :: ns, _, ⟨v, vs, e, h, r⟩ => by
    rw [e, List.map_cons, RepL.ints r, show v = .int n from h]
theorem RepL.ofInts {M : Av} {H : Hp} : ∀ {ns : List Int}, RepL M H (ns.map D.int) (ns.map V.int)
  | [] => rfl
  | n :: ns => ⟨.int n, _, rfl, rfl, RepL.ofInts⟩
theorem RepL.bls {M : Av} {H : Hp} : ∀ {ns : List Bool} {xs : List V}, RepL M H (ns.map D.bl) xs → xs = ns.map V.bl
  | [], _, h => h
  | n :: ns, _, ⟨v, vs, e, h, r⟩ => by
    rw [e, List.map_cons, RepL.bls r, show v = .bl n from h]
/-! ### a value read, its own object free to be one of M -/
def RepW (M : Av) (H : Hp) (d : D) (v : V) : Prop := match d with
  | .tup ds => ∃ a xs, v = .ref a ∧ H a = some (.tup xs) ∧ RepL M H ds xs
  | .lst ds => ∃ a xs, v = .ref a ∧ H a = some (.lst xs) ∧ RepL M H ds xs
  | .dK kvs => ∃ a ks, v = .ref a ∧ Rd H a (.dK ks) ∧ RepK M H kvs ks
  | .dT kvs => ∃ a ks, v = .ref a ∧ Rd H a (.dT ks) ∧ RepT M H kvs ks
  | d => Rep M H d v
theorem Rep.w {M : Av} {H : Hp} {d : D} {v : V} (h : Rep M H d v) : RepW M H d v := by
  cases d with
  | tup ds => obtain ⟨a, xs, e, h, _, r⟩ := h; exact ⟨a, xs, e, h, r⟩
  | lst ds => obtain ⟨a, xs, e, h, _, r⟩ := h; exact ⟨a, xs, e, h, r⟩
  | dK ds => obtain ⟨a, xs, e, h, _, r⟩ := h; exact ⟨a, xs, e, h, r⟩
  | dT ds => obtain ⟨a, xs, e, h, _, r⟩ := h; exact ⟨a, xs, e, h, r⟩
  | _ => exact h
/-- the object at a, to be changed -/
def OwnRep (M : Av) (H : Hp) (d : D) (a : Addr) : Prop := match d with
  | .lst ds => ∃ xs, H a = some (.lst xs) ∧ RepL M H ds xs
  | .dK kvs => ∃ ks, H a = some (.dK ks) ∧ RepK M H kvs ks
  | .dT kvs => ∃ ks, H a = some (.dT ks) ∧ RepT M H kvs ks
  | _ => False
theorem OwnRep.w {M : Av} {H : Hp} {d : D} {a : Addr} (h : OwnRep M H d a) : RepW M H d (.ref a) := by
  cases d with
  | lst ds => obtain ⟨xs, h, r⟩ := h; exact ⟨a, xs, rfl, h, r⟩
  | dK ds => obtain ⟨xs, h, r⟩ := h; exact ⟨a, xs, rfl, .inl h, r⟩
  | dT ds => obtain ⟨xs, h, r⟩ := h; exact ⟨a, xs, rfl, .inl h, r⟩
  | _ => exact h.elim
theorem OwnRep.some {M : Av} {H : Hp} {d : D} {a : Addr} (h : OwnRep M H d a) : ∃ o, H a = some o ∧ ∀ xs, o ≠ .tup xs := by
  cases d with
  | lst ds => obtain ⟨xs, h, r⟩ := h; exact ⟨_, h, fun _ => by simp⟩
  | dK ds => obtain ⟨xs, h, r⟩ := h; exact ⟨_, h, fun _ => by simp⟩
  | dT ds => obtain ⟨xs, h, r⟩ := h; exact ⟨_, h, fun _ => by simp⟩
  | _ => exact h.elim
theorem OwnRep.mv {M M' : Av} {H H' : Hp} {d : D} {a : Addr} (k : Kp M H M' H') (e : H' a = H a) (h : OwnRep M H d a) : OwnRep M' H' d a := by
  cases d with
  | lst ds => obtain ⟨xs, h, r⟩ := h; exact ⟨xs, e.trans h, r.mv k⟩
  | dK ds => obtain ⟨xs, h, r⟩ := h; exact ⟨xs, e.trans h, r.mv k⟩
  | dT ds => obtain ⟨xs, h, r⟩ := h; exact ⟨xs, e.trans h, r.mv k⟩
  | _ => exact h.elim
theorem OwnRep.share {M M' : Av} {H : Hp} {d : D} {a : Addr} (h : OwnRep M H d a) (hk : M'.K = M.K) (hm : ∀ b, M' b → M b) (ha : ¬ M' a) : Rep M' H d (.ref a) := by
  have k : Kp M H M' H := ⟨hk, fun b o e m => ⟨e, fun z => m (hm b z)⟩⟩
  cases d with
  | lst ds => obtain ⟨xs, h, r⟩ := h; exact ⟨a, xs, rfl, h, ha, r.mv k⟩
  | dK ds => obtain ⟨xs, h, r⟩ := h; exact ⟨a, xs, rfl, .inl h, ha, r.mv k⟩
  | dT ds => obtain ⟨xs, h, r⟩ := h; exact ⟨a, xs, rfl, .inl h, ha, r.mv k⟩
  | _ => exact h.elim

/-! ### slots -/
inductive Slot where
  | un | sh (d : D) | ow (d : D) | io (d : D) | xc
  deriving Inhabited
abbrev EnvD := List Slot
def Slot.data : Slot → Option D
  | .un => none
  | .sh d => some d
  | .ow d => some d
  | .io d => some d
  | .xc => none
def Slot.held : Slot → Option D
  | .ow d => some d
  | .io d => some d
  | _ => none
def Owns (env : EnvD) (σ : L2.St) (b : Addr) : Prop := ∃ (i : Nat) (s : Slot) (d : D), env[i]? = some s ∧ s.held = some d ∧ σ[i]? = some (some (V.ref b))
structure Fr where
  K : PySem.W.Frag
  M0 : Addr → Prop
  H0 : Hp
  io : Nat → Option Addr
  xa : Addr
def Mx (F : Fr) (env : EnvD) (σ : L2.St) : Av := ⟨F.K, fun b => F.M0 b ∨ Owns env σ b⟩
structure Sim (F : Fr) (env : EnvD) (σ : L2.St) (H : Hp) : Prop where
  len : σ.length = env.length
  sh : ∀ (i : Nat) (d : D), env[i]? = some (Slot.sh d) → ∃ v : V, σ[i]? = some (some v) ∧ Rep (Mx F env σ) H d v
  ow : ∀ (i : Nat) (d : D), env[i]? = some (Slot.ow d) → ∃ a : Addr, σ[i]? = some (some (V.ref a)) ∧ ¬ F.M0 a ∧ F.H0 a = none ∧ OwnRep (Mx F env σ) H d a
  io : ∀ (i : Nat) (d : D), env[i]? = some (Slot.io d) → ∃ a : Addr, σ[i]? = some (some (V.ref a)) ∧ ¬ F.M0 a ∧ F.io i = some a ∧ OwnRep (Mx F env σ) H d a
  inj : ∀ (i j : Nat) (s t : Slot) (d e : D) (a : Addr), env[i]? = some s → s.held = some d → env[j]? = some t → t.held = some e → σ[i]? = some (some (V.ref a)) → σ[j]? = some (some (V.ref a)) → i = j
  m0 : ∀ b, F.M0 b → ∃ o, H b = some o ∧ ∀ xs, o ≠ .tup xs
  keep : ∀ b o, F.H0 b = some o → (∀ i, F.io i ≠ some b) → H b = some o
  iok : ∀ (i : Nat) (a : Addr), F.io i = some a → ∃ d : D, env[i]? = some (Slot.io d) ∧ σ[i]? = some (some (V.ref a))
  xc : ∀ (i : Nat), env[i]? = some Slot.xc → σ[i]? = some (some (V.ref F.xa))
/-- what has changed -/
structure Step (env : EnvD) (σ : L2.St) (H : Hp) (env' : EnvD) (σ' : L2.St) (H' : Hp) : Prop where
  k : ∀ b o, H b = some o → ¬ Owns env σ b → H' b = some o ∧ ¬ Owns env' σ' b
  th : ∀ b o, H b = some o → ∃ o', H' b = some o'
theorem xc_set {F : Fr} {env : EnvD} {σ : L2.St} {H : Hp} {i : Nat} {s : Slot} (S : Sim F env σ H) (hs : s ≠ .xc) (j : Nat) (e : (env.set i s)[j]? = some Slot.xc) : σ[j]? = some (some (V.ref F.xa)) := by
  by_cases hj : j = i
  · subst hj
    rw [List.getElem?_set] at e
    split at e
    · split at e
      · exact absurd (Option.some.inj e) hs
      · cases e
    · exact S.xc j e
  · rw [List.getElem?_set_ne (Ne.symm hj)] at e
    exact S.xc j e
theorem xc_set2 {F : Fr} {env : EnvD} {σ : L2.St} {H : Hp} {i : Nat} {s : Slot} {v : Option V} (S : Sim F env σ H) (hs : s ≠ .xc) (j : Nat) (e : (env.set i s)[j]? = some Slot.xc) : (σ.set i v)[j]? = some (some (V.ref F.xa)) := by
  by_cases hj : j = i
  · subst hj
    rw [List.getElem?_set] at e
    split at e
    · split at e
      · exact absurd (Option.some.inj e) hs
      · cases e
    · rename_i z; exact absurd rfl z
  · rw [List.getElem?_set_ne (Ne.symm hj)] at e ⊢
    exact S.xc j e
theorem Step.refl {env : EnvD} {σ : L2.St} {H : Hp} : Step env σ H env σ H := ⟨fun _ _ h n => ⟨h, n⟩, fun _ o h => ⟨o, h⟩⟩
theorem Step.trans {e1 e2 e3 : EnvD} {σ1 σ2 σ3 : L2.St} {H1 H2 H3 : Hp} (a : Step e1 σ1 H1 e2 σ2 H2) (b : Step e2 σ2 H2 e3 σ3 H3) : Step e1 σ1 H1 e3 σ3 H3 :=
  ⟨fun x o h n => b.k x o (a.k x o h n).1 (a.k x o h n).2, fun x o h => let ⟨o', h'⟩ := a.th x o h; b.th x o' h'⟩
theorem Step.kp {F : Fr} {e1 e2 : EnvD} {σ1 σ2 : L2.St} {H1 H2 : Hp} (a : Step e1 σ1 H1 e2 σ2 H2) : Kp (Mx F e1 σ1) H1 (Mx F e2 σ2) H2 := ⟨rfl, fun b o h n =>
  have q := a.k b o h fun z => n (.inr z)
  ⟨q.1, fun z => Or.elim z (fun z => n (.inl z)) q.2⟩⟩
theorem Step.nil {e1 e2 : EnvD} {σ1 σ2 : L2.St} {H1 H2 : Hp} (a : Step e1 σ1 H1 e2 σ2 H2) {p : Addr} (h : H2 p = Option.none) : H1 p = Option.none := by
  cases q : H1 p with
  | none => rfl
  | some o => obtain ⟨o', e⟩ := a.th p o q; rw [h] at e; cases e
end VL
/-! VL2: a small code and what it does, by plain Lean functions. -/
namespace VL
open PySem PySem.Spec L2

/-! ### answers -/
structure Ex where
  cls : Str
  fs : List D
  env : EnvD
  deriving Inhabited
inductive Res (α : Type) where
  | fail | exc (e : Ex) | ok (a : α)
def Res.bind {α β : Type} : Res α → (α → Res β) → Res β
  | .fail, _ => .fail
  | .exc e, _ => .exc e
  | .ok a, f => f a
instance : Monad Res where
  pure := .ok
  bind := Res.bind
@[simp] theorem Res.ok_bind {α β : Type} (a : α) (f : α → Res β) : (Res.ok a >>= f) = f a := rfl
@[simp] theorem Res.fail_bind {α β : Type} (f : α → Res β) : ((Res.fail : Res α) >>= f) = .fail := rfl
@[simp] theorem Res.exc_bind {α β : Type} (e : Ex) (f : α → Res β) : ((Res.exc e : Res α) >>= f) = .exc e := rfl
@[simp] theorem Res.pure_eq {α : Type} (a : α) : (pure a : Res α) = .ok a := rfl
theorem Res.bind_ok {α β : Type} {x : Res α} {f : α → Res β} {b : β} (h : (x >>= f) = .ok b) : ∃ a, x = .ok a ∧ f a = .ok b := by
  cases x with
  | fail => cases h
  | exc e => cases h
  | ok a => exact ⟨a, rfl, h⟩
/-- nothing may be raised here -/
def noX {α : Type} : Res α → Res α
  | .exc _ => .fail
  | r => r
@[simp] theorem noX_ok {α : Type} (a : α) : noX (.ok a : Res α) = .ok a := rfl
@[simp] theorem noX_fail {α : Type} : noX (.fail : Res α) = .fail := rfl
theorem noX_eq {α : Type} {x : Res α} {a : α} (h : noX x = .ok a) : x = .ok a := by
  cases x with
  | fail => cases h
  | exc e => cases h
  | ok b => exact h
def chk (b : Bool) : Res Unit := if b then .ok () else .fail
@[simp] theorem chk_true : chk true = .ok () := rfl
@[simp] theorem chk_false : chk false = .fail := rfl
def ofO {α : Type} : Option α → Res α
  | some a => .ok a
  | none => .fail
@[simp] theorem ofO_some {α : Type} (a : α) : ofO (some a) = .ok a := rfl
@[simp] theorem ofO_none {α : Type} : ofO (none : Option α) = .fail := rfl
theorem ofO_ok {α : Type} {o : Option α} {a : α} (h : ofO o = .ok a) : o = some a := by
  cases o with
  | none => cases h
  | some b => cases h; rfl

/-! ### data compared -/
mutual
def D.py : D → PyData
  | .non => .none
  | .bl b => .bool b
  | .int i => .int i
  | .str x => .str x
  | .tup ds => .tuple (D.pyL ds)
  | .lst ds => .list (D.pyL ds)
  | .dK _ => .none
  | .dT _ => .none
  | .scr _ => .none
termination_by structural d => d
def D.pyL : List D → List PyData
  | [] => []
  | d :: ds => d.py :: D.pyL ds
termination_by structural d => d
end
mutual
/-- no dict within, at most so deep -/
def D.fit : D → Nat → Bool
  | .non, _ => true
  | .bl _, _ => true
  | .int _, _ => true
  | .str x, _ => PyData.strOk x
  | .tup ds, n + 1 => D.fitL ds n
  | .lst ds, n + 1 => D.fitL ds n
  | .tup _, 0 => false
  | .lst _, 0 => false
  | .dK _, _ => false
  | .dT _, _ => false
  | .scr _, _ => false
termination_by structural d => d
def D.fitL : List D → Nat → Bool
  | [], _ => true
  | d :: ds, n => d.fit n && D.fitL ds n
termination_by structural d => d
end
/-! ### how data are told -/
def Key.py : Key → PyData
  | .inl i => .int i
  | .inr x => .str x
def flatPy : D → PyData
  | .bl b => .bool b
  | .int i => .int i
  | .str x => .str x
  | _ => .none
def isFlat : D → Bool
  | .non => true
  | .bl _ => true
  | .int _ => true
  | .str _ => true
  | _ => false
def D.pyR : D → PyData
  | .dK kvs => .dict (kvs.map fun p => (Key.py p.1, flatPy p.2))
  | .dT kvs => .dict (kvs.map fun p => (PyData.tuple (p.1.map Key.py), flatPy p.2))
  | d => d.py
/-- what can be told -/
def D.shw : D → Bool
  | .dK kvs => kvs.all fun p => isFlat p.2
  | .dT kvs => kvs.all fun p => isFlat p.2
  | d => d.fit 40
def D.text (d : D) : Str := d.pyR.shown
def D.eqv (a b : D) : Bool := PyData.eqv a.py b.py
mutual
/-- nothing within that may be changed -/
def D.pure : D → Bool
  | .tup ds => D.pureL ds
  | .lst _ => false
  | .dK _ => false
  | .dT _ => false
  | .scr _ => false
  | _ => true
termination_by structural d => d
def D.pureL : List D → Bool
  | [] => true
  | d :: ds => d.pure && D.pureL ds
termination_by structural d => d
end
/-- all that stands in it is so -/
def D.pureIn : D → Bool
  | .lst ds => D.pureL ds
  | .dK kvs => D.pureL (kvs.map (·.2))
  | .dT kvs => D.pureL (kvs.map (·.2))
  | d => d.pure

/-! ### the code -/
inductive Op where | add | sub | mul | fdiv | mod | pow | shl | shr | band
  deriving DecidableEq, Inhabited
inductive Cm where | eq | ne | lt | le | gt | ge | isin | notin | isn | notn
  deriving DecidableEq, Inhabited
inductive Ty where | int | bool | str | tuple | list | dict
  deriving DecidableEq, Inhabited
inductive Bf where | len | sum | max1 | min1 | max2 | min2 | all | any | abs | int1 | str1 | list1 | tuple1 | sorted1 | divmod | dict1 | sortedP | sortedD | rpr
  deriving DecidableEq, Inhabited
/-- what walks a list by itself -/
def Bf.calm : Bf → Bool
  | .sum => true | .max1 => true | .min1 => true | .max2 => true | .min2 => true | .all => true | .any => true | .rpr => true
  | _ => false
inductive Mt where | get1 | get2 | count | index
  deriving DecidableEq, Inhabited
inductive Mu where | append | insert | extend | clear
  deriving DecidableEq, Inhabited
inductive Tg where | one (i : Nat) | many (is : List Nat)
  deriving DecidableEq, Inhabited
mutual
inductive CE where
  | var (i : Nat)
  | lit (d : D)
  | op (o : Op) (a b : CE)
  | neg (a : CE)
  | cmp (c : Cm) (a b : CE)
  | chn (c c' : Cm) (a b e : CE)
  | andb (es : List CE) | orb (es : List CE) | notb (a : CE)
  | ife (t a b : CE)
  | tup (es : List CE) | lst (es : List CE)
  | dnew (t : Bool)
  | dsp (ks : List CE) (vs : List CE)
  | dspG (t : Bool) (es : List CE)
  | idx (a b : CE)
  | slc (a : CE) (lo hi : Option CE)
  | rev (a : CE)
  | isi (a : CE) (t : Ty)
  | call (f : Nat) (es : List CE)
  | blt (b : Bf) (es : List CE)
  | rngL (tup : Bool) (es : List CE)
  | inr (t : Bool) (a b : CE)
  | mth (m : Mt) (o : CE) (es : List CE)
  | pop (i : Nat) (es : List CE)
  | lc (e : CE) (tg : Tg) (it : CI) (c : Option CE)
  | keep (i : Nat) (a : CE)
  | callO (f : Nat) (es : List CE)
  | srt (a : CE)
  | lcD (e : CE) (tg : Tg) (i : Nat) (c : Option CE)
  | xis (i : Nat) (x : Str)
  | xcl (f : Nat) (i : Nat)
inductive CI where
  | seq (e : CE)
  | rng (es : List CE)
  | enm (e : CE)
  | zip (a b : CE)
  | rvd (e : CE)
  | dky (i : Nat)
end
inductive CS where
  | set (i : Nat) (e : CE)
  | unp (is : List Nat) (e : CE)
  | par (i j : Nat) (a b : CE)
  | sub (o : Nat) (k v : CE)
  | mut (m : Mu) (i : Nat) (es : List CE)
  | exp (e : CE)
  | ret (e : Option CE)
  | ife (t : CE) (a b : List CS)
  | whl (t : CE) (b : List CS)
  | for (tg : Tg) (it : CI) (b : List CS)
  | forS (en : Bool) (tg : Tg) (i : Nat) (b : List CS)
  | forD (tg : Tg) (i : Nat) (b : List CS)
  | brk | cnt | pas
  | nev
  | rse (x : Str)
  | tr (b : List CS) (i : Nat) (x : Str) (s : List CS)
instance : Inhabited CE := ⟨.lit .non⟩
instance : Inhabited CS := ⟨.nev⟩

/-! ### operations -/
/-- a result: data that may be shared, new data that is one's own, the thing in a slot -/
inductive R where
  | dat (d : D) | own (d : D) | slot (i : Nat)
def R.isVal : R → Bool
  | .slot _ => false
  | _ => true
abbrev SL : Nat := 16777216
def mulOk (i j : Int) : Bool := decide (i.natAbs < 18446744073709551616) || decide (j.natAbs < 18446744073709551616) || decide ((Builtin.Int.intBits i : Int) + (Builtin.Int.intBits j : Int) ≤ 134217728)
def opD : Op → D → D → Res R
  | .add, .int i, .int j => .ok (.dat (.int (i + j)))
  | .add, .str x, .str y => do chk (decide (x.length + y.length ≤ SL)); .ok (.dat (.str (x ++ y)))
  | .add, .lst x, .lst y => do chk (decide (x.length + y.length ≤ SL)); .ok (.own (.lst (x ++ y)))
  | .add, .tup x, .tup y => do chk (decide (x.length + y.length ≤ SL)); .ok (.dat (.tup (x ++ y)))
  | .sub, .int i, .int j => .ok (.dat (.int (i - j)))
  | .mul, .int i, .int j => do chk (mulOk i j); .ok (.dat (.int (i * j)))
  | .mul, .lst x, .int k => do chk (decide (k.natAbs < 9223372036854775808) && decide (x.length * k.toNat ≤ SL)); .ok (.own (.lst (List.replicate k.toNat x).flatten))
  | .mul, .tup x, .int k => do chk (!x.isEmpty && (decide (2 ≤ k) && (decide (k ≤ 1000) && decide (x.length ≤ 1000)))); .ok (.dat (.tup (List.replicate k.toNat x).flatten))
  | .fdiv, .int i, .int j => do chk (decide (0 < j) && (decide (j < 1073741824) || !Builtin.divisionGoesByPylong i j)); .ok (.dat (.int (i / j)))
  | .mod, .int i, .int j => do chk (decide (0 < j)); .ok (.dat (.int (i % j)))
  | .pow, .int i, .int j => do chk (decide (0 ≤ j) && decide (j ≤ 1000000) && decide (i.natAbs < 18446744073709551616)); .ok (.dat (.int (i ^ j.toNat)))
  | .shl, .int i, .int j => do chk (decide (0 ≤ j) && decide (j ≤ 1000000) && decide (i.natAbs < 18446744073709551616)); .ok (.dat (.int (i * 2 ^ j.toNat)))
  | .shr, .int i, .int j => do chk (decide (0 ≤ j)); .ok (.dat (.int (i / 2 ^ j.toNat)))
  | .band, .int i, .int j => .ok (.dat (.int (Builtin.bitAnd i j)))
  | _, _, _ => .fail
def keyOf : D → Option Key
  | .int i => some (.inl i)
  | .str x => some (.inr x)
  | _ => none
def keysOf : List D → Option (List Key)
  | [] => some []
  | d :: ds => match keyOf d, keysOf ds with
    | some k, some ks => some (k :: ks)
    | _, _ => none
def look {κ : Type} [DecidableEq κ] (kvs : List (κ × D)) (k : κ) : Option D := (kvs.find? fun kv => decide (kv.1 = k)).map (·.2)
def put {κ : Type} [DecidableEq κ] (kvs : List (κ × D)) (k : κ) (v : D) : List (κ × D) :=
  if (kvs.any fun kv => decide (kv.1 = k)) = true then kvs.map (fun kv => if kv.1 = k then (kv.1, v) else kv) else kvs ++ [(k, v)]
/-- what a dict has at a key: none: the key is none for such a dict -/
def getD : D → D → Res (Option D)
  | .dK kvs, k => do let k ← ofO (keyOf k); .ok (look kvs k)
  | .dT kvs, .tup ks => do let k ← ofO (keysOf ks); .ok (look kvs k)
  | _, _ => .fail
def inSeq (x : D) (ds : List D) : Res Bool := do chk (x.fit 50 && D.fitL ds 50); .ok (ds.any fun z => D.eqv z x)
def isTupD : D → Bool
  | .tup _ => true
  | _ => false
/-- a dict is in no tuple of tuples -/
def inSeqT (x : D) (ds : List D) : Res Bool := match x with
  | .dK _ => do chk (ds.all isTupD); .ok false
  | _ => inSeq x ds
def inD (x : D) : D → Res Bool
  | .lst ds => inSeq x ds
  | .tup ds => inSeqT x ds
  | .dK kvs => do let o ← getD (.dK kvs) x; .ok o.isSome
  | .dT kvs => do let o ← getD (.dT kvs) x; .ok o.isSome
  | _ => .fail
/-- two dicts: as many keys, and the same at each key of the one -/
def eqK {κ : Type} [DecidableEq κ] (xs ys : List (κ × D)) : Bool := xs.length == ys.length && xs.all fun p => match look ys p.1 with
  | some d => D.eqv p.2 d
  | none => false
def fitV {κ : Type} (xs : List (κ × D)) : Bool := xs.all fun p => p.2.fit 50
def eqD (a b : D) : Res Bool := match a, b with
  | .dK xs, .dK ys => do chk (fitV xs && fitV ys); .ok (eqK xs ys)
  | .dT xs, .dT ys => do chk (fitV xs && fitV ys); .ok (eqK xs ys)
  | a, b => do chk (a.fit 50 && b.fit 50); .ok (D.eqv a b)
def ltI (f : Int → Int → Bool) : D → D → Res Bool
  | .int i, .int j => .ok (f i j)
  | _, _ => .fail
def cmD : Cm → D → D → Res Bool
  | .eq, a, b => eqD a b
  | .ne, a, b => do let r ← eqD a b; .ok (!r)
  | .lt, a, b => ltI (fun i j => decide (i < j)) a b
  | .le, a, b => ltI (fun i j => decide (i ≤ j)) a b
  | .gt, a, b => ltI (fun i j => decide (j < i)) a b
  | .ge, a, b => ltI (fun i j => decide (j ≤ i)) a b
  | .isin, a, b => inD a b
  | .notin, a, b => do let r ← inD a b; .ok (!r)
  | .isn, a, .non => .ok (match a with | .non => true | _ => false)
  | .notn, a, .non => .ok (match a with | .non => false | _ => true)
  | .isn, a, .bl k => .ok (match a with | .bl j => j == k | _ => false)
  | .notn, a, .bl k => .ok (match a with | .bl j => !(j == k) | _ => true)
  | _, _, _ => .fail
def idxD : D → D → Res D
  | .lst ds, .int i => ofO (atI ds i)
  | .tup ds, .int i => ofO (atI ds i)
  | .scr ds, .int i => do let d ← ofO (atI ds i); .ok (.int d)
  | .str x, .int i => do chk (decide (x.length ≤ SL)); let c ← ofO (atI x.cps.toList i); .ok (.str ⟨#[c]⟩)
  | d, k => do let o ← getD d k; ofO o
def cutL {α : Type} (xs : List α) (lo hi : Option Int) : List α := (xs.drop (HT.sIx xs.length 0 lo)).take (HT.sIx xs.length xs.length hi - HT.sIx xs.length 0 lo)
def slcD : D → Option Int → Option Int → Res R
  | .lst ds, lo, hi => .ok (.own (.lst (cutL ds lo hi)))
  | .scr ds, lo, hi => .ok (.own (.lst ((cutL ds lo hi).map .int)))
  | .tup ds, lo, hi => .ok (.dat (.tup (cutL ds lo hi)))
  | _, _, _ => .fail
def isiD : Ty → D → Bool
  | .int, .int _ => true
  | .int, .bl _ => true
  | .bool, .bl _ => true
  | .str, .str _ => true
  | .tuple, .tup _ => true
  | .list, .lst _ => true
  | .dict, .dK _ => true
  | .dict, .dT _ => true
  | _, _ => false
def isiOk : D → Bool
  | .scr _ => false
  | _ => true
def asInt : D → Option Int
  | .int i => some i
  | _ => none
def asBl : D → Option Bool
  | .bl b => some b
  | _ => none
def seqOf : D → Option (List D)
  | .lst ds => some ds
  | .tup ds => some ds
  | .scr ns => some (ns.map .int)
  | _ => none
def maxI : List Int → Int
  | [] => 0
  | [x] => x
  | x :: y :: r => max x (maxI (y :: r))
def minI : List Int → Int
  | [] => 0
  | [x] => x
  | x :: y :: r => min x (minI (y :: r))
def insI (x : Int) : List Int → List Int
  | [] => [x]
  | y :: r => if x ≤ y then x :: y :: r else y :: insI x r
def sortI : List Int → List Int
  | [] => []
  | x :: r => insI x (sortI r)
/-- the numbers of a list, each once, rising -/
def insU (x : Int) : List Int → List Int
  | [] => [x]
  | y :: r => if x < y then x :: y :: r else if x = y then y :: r else y :: insU x r
def setI : List Int → List Int
  | [] => []
  | x :: r => insU x (setI r)
def tupI : D → Option (List Int)
  | .tup ds => ds.mapM asInt
  | _ => none
def asPr : D → Option (Int × Int)
  | .tup [.int i, .int j] => some (i, j)
  | _ => none
def prD (p : Int × Int) : D := .tup [.int p.1, .int p.2]
def ltPr (p q : Int × Int) : Bool := if p.1 = q.1 then decide (p.2 < q.2) else decide (p.1 < q.1)
def insP (x : Int × Int) : List (Int × Int) → List (Int × Int)
  | [] => [x]
  | y :: r => if ltPr y x = true then y :: insP x r else x :: y :: r
def sortP : List (Int × Int) → List (Int × Int)
  | [] => []
  | x :: r => insP x (sortP r)
def intsK : List Key → Option (List Int)
  | [] => some []
  | .inl i :: ks => (intsK ks).map (i :: ·)
  | .inr _ :: _ => none
def hashI (ks : List Int) : Int := reduceHash (Builtin.Tuple.tupleHashOf (ks.map hashInt))
/-- keys of whole numbers, no two with one hash -/
def hashNd (kvs : List (List Key × D)) : Bool := match kvs.mapM (fun p => intsK p.1) with
  | some ks => decide (ks.map hashI).Nodup
  | none => false
/-- tuples that are alike, none of them empty -/
def isTup1 : D → Bool
  | .tup (_ :: _) => true
  | _ => false
def sortOk (ds : List D) : Bool := D.fitL ds 40 && (ds.all isTup1 && ds.all fun x => ds.all fun y => PySem.W.alike x.py y.py)
def leD (a b : D) : Bool := !PySem.W.dataLt b.py a.py
def sortD (ds : List D) : List D := ds.mergeSort leD
def bfD : Bf → List D → Res R
  | .len, [.str x] => do chk (decide (x.length ≤ SL)); .ok (.dat (.int x.length))
  | .len, [.scr ds] => .ok (.dat (.int ds.length))
  | .len, [.lst ds] => .ok (.dat (.int ds.length))
  | .len, [.tup ds] => .ok (.dat (.int ds.length))
  | .len, [.dK kvs] => .ok (.dat (.int kvs.length))
  | .len, [.dT kvs] => .ok (.dat (.int kvs.length))
  | .sum, [.lst ds] => do let ns ← ofO (ds.mapM asInt); .ok (.dat (.int ns.sum))
  | .max1, [.lst ds] => do let ns ← ofO (ds.mapM asInt); chk (decide (0 < ns.length)); .ok (.dat (.int (maxI ns)))
  | .min1, [.lst ds] => do let ns ← ofO (ds.mapM asInt); chk (decide (0 < ns.length)); .ok (.dat (.int (minI ns)))
  | .max2, [.int i, .int j] => .ok (.dat (.int (if j > i then j else i)))
  | .min2, [.int i, .int j] => .ok (.dat (.int (if j < i then j else i)))
  | .all, [.lst ds] => do let ns ← ofO (ds.mapM asBl); .ok (.dat (.bl (ns.all id)))
  | .any, [.lst ds] => do let ns ← ofO (ds.mapM asBl); .ok (.dat (.bl (ns.any id)))
  | .abs, [.int i] => .ok (.dat (.int (if i < 0 then -i else i)))
  | .int1, [.int i] => .ok (.dat (.int i))
  | .int1, [.bl k] => .ok (.dat (.int (if k then 1 else 0)))
  | .str1, [.int i] => do chk (decide (i.natAbs.log2 < 1920)); .ok (.dat (.str (toString i)))
  | .list1, [.lst ds] => .ok (.own (.lst ds))
  | .list1, [.tup ds] => .ok (.own (.lst ds))
  | .tuple1, [.lst ds] => .ok (.dat (.tup ds))
  | .tuple1, [.tup ds] => .ok (.dat (.tup ds))
  | .sorted1, [.lst ds] => do let ns ← ofO (ds.mapM asInt); .ok (.own (.lst ((sortI ns).map .int)))
  | .sorted1, [.tup ds] => do let ns ← ofO (ds.mapM asInt); .ok (.own (.lst ((sortI ns).map .int)))
  | .sortedP, [.lst ds] => do let ps ← ofO (ds.mapM asPr); .ok (.own (.lst ((sortP ps).map prD)))
  | .divmod, [.int i, .int j] => do chk (decide (0 < j) && (decide (j < 1073741824) || !Builtin.divisionGoesByPylong i j)); .ok (.dat (.tup [.int (i / j), .int (i % j)]))
  | .dict1, [.dK kvs] => .ok (.own (.dK kvs))
  | .dict1, [.dT kvs] => do chk (hashNd kvs); .ok (.own (.dT kvs))
  | .sortedD, [.lst ds] => do chk (sortOk ds); .ok (.own (.lst (sortD ds)))
  | .rpr, [d] => do chk (d.shw && (d.pyR.showable && (decide (d.text.length ≤ SL) && PyData.strOk d.text))); .ok (.dat (.str d.text))
  | _, _ => .fail
/-- is it in range(n)? -/
def inrD : D → D → Res Bool
  | .int i, .int n => .ok (decide (0 ≤ i ∧ i < n))
  | _, _ => .fail
def cntD (ds : List D) (k : Int) : Res Int := do let ns ← ofO (ds.mapM asInt); .ok (ns.count k : Nat)
/-- things without parts -/
def D.flat : D → Bool
  | .non => true
  | .bl _ => true
  | .int _ => true
  | .str _ => true
  | _ => false
def cntF (ds : List D) (x : D) : Res Int := do chk (x.flat && ds.all D.flat); .ok (ds.countP fun z => D.eqv z x : Nat)
def idxF (ds : List D) (x : D) : Res Int := do chk (x.flat && ds.all D.flat); let j ← ofO (ds.findIdx? fun z => D.eqv z x); .ok (j : Nat)
def mtD : Mt → D → List D → Res R
  | .get1, d, [k] => do let o ← getD d k; .ok (.dat (o.getD .non))
  | .get2, d, [k, x] => do let o ← getD d k; .ok (.dat (o.getD x))
  | .count, .lst ds, [.int k] => do let n ← cntD ds k; .ok (.dat (.int n))
  | .count, .lst ds, [.bl k] => do let n ← cntF ds (.bl k); .ok (.dat (.int n))
  | .index, .lst ds, [k] => do let n ← idxF ds k; .ok (.dat (.int n))
  | _, _, _ => .fail
def mtOk : Mt → D → Bool
  | .get1, .dK _ => true
  | .get1, .dT _ => true
  | .get2, .dK _ => true
  | .get2, .dT _ => true
  | .count, .lst _ => true
  | .index, .lst _ => true
  | _, _ => false
/-- a thing changed in place -/
def muD : Mu → D → List D → Res D
  | .append, .lst ds, [d] => do chk (decide (ds.length < SL)); .ok (.lst (ds ++ [d]))
  | .insert, .lst ds, [.int i, d] => do chk (decide (ds.length < SL) && decide (0 ≤ i) && decide (i < 9223372036854775808)); .ok (.lst (ds.take i.toNat ++ d :: ds.drop i.toNat))
  | .extend, .lst ds, [.lst es] => do chk (decide (ds.length + es.length ≤ SL)); .ok (.lst (ds ++ es))
  | .clear, .lst _, [] => .ok (.lst [])
  | _, _, _ => .fail
def putD : D → D → D → Res D
  | .lst ds, .int i, v => do let j ← ofO (ixN ds.length i); .ok (.lst (ds.set j v))
  | .dK kvs, k, v => do let k ← ofO (keyOf k); chk (decide (kvs.length < SL)); .ok (.dK (put kvs k v))
  | .dT kvs, .tup ks, v => do let k ← ofO (keysOf ks); chk (decide (kvs.length < SL)); .ok (.dT (put kvs k v))
  | _, _, _ => .fail
def popD : D → List D → Res (D × D)
  | .lst ds, [] => do let d ← ofO ds[ds.length - 1]?; .ok (d, .lst ds.dropLast)
  | .lst ds, [.int i] => do chk (decide (i.natAbs < 9223372036854775808)); let k ← ofO (seqIndex? i ds.length); let d ← ofO ds[k]?; .ok (d, .lst (ds.eraseIdx k))
  | _, _ => .fail
def rngD : List D → Res (Int × Nat × Int)
  | [.int j] => do chk (decide (j.natAbs < 4611686018427387904)); .ok (0, j.toNat, 1)
  | [.int i, .int j] => do chk (decide (i.natAbs < 4611686018427387904) && decide (j.natAbs < 4611686018427387904)); .ok (i, (j - i).toNat, 1)
  | [.int i, .int j, .int (-1)] => do chk (decide (i.natAbs < 4611686018427387904) && decide (j.natAbs < 4611686018427387904)); .ok (i, (i - j).toNat, -1)
  | _ => .fail
def rngIt (r : Int × Nat × Int) : List D := (List.range r.2.1).map fun k => D.int (r.1 + (k : Nat) * r.2.2)

/-! ### slots -/
def rd (env : EnvD) (i : Nat) : Res D := ofO ((env[i]?).bind Slot.data)
def frc (env : EnvD) : R → Res D
  | .dat d => .ok d
  | .own d => .ok d
  | .slot i => rd env i
/-- what is to be kept elsewhere: a thing of one's own is shared from now on -/
def escI (env : EnvD) (i : Nat) : Res EnvD := match env[i]? with
  | some (.sh d) => .ok env
  | some (.ow d) => .ok (env.set i (.sh d))
  | _ => .fail
def esc (env : EnvD) : R → Res (D × EnvD)
  | .dat d => .ok (d, env)
  | .own d => .ok (d, env)
  | .slot i => do let d ← rd env i; let e ← escI env i; .ok (d, e)
def frcs (env : EnvD) : List R → Res (List D)
  | [] => .ok []
  | r :: rs => do let d ← frc env r; let ds ← frcs env rs; .ok (d :: ds)
/-- new data in a slot that holds a thing of one's own -/
def upS (env : EnvD) (i : Nat) (d : D) : Res EnvD := match env[i]? with
  | some (.ow _) => .ok (env.set i (.ow d))
  | some (.io _) => .ok (env.set i (.io d))
  | _ => .fail
def isIo (env : EnvD) (i : Nat) : Bool := match env[i]? with
  | some (.io _) => true
  | _ => false
/-- a list of one's own -/
def isLst (env : EnvD) (i : Nat) : Bool := match env[i]? with
  | some (.ow (.lst _)) => true
  | some (.io (.lst _)) => true
  | _ => false
def stS (env : EnvD) (i : Nat) (s : Slot) : Res EnvD := do chk (decide (i < env.length) && !isIo env i); .ok (env.set i s)

structure FRes where
  own : Bool
  d : D
  ios : List D
structure Tb where
  call : Nat → List D → Res FRes
  fl : Nat → List Bool
  cur : Option Ex := none
  callX : Nat → Ex → Res FRes := fun _ _ => .fail
/-- an exception out of a call is in this frame's air -/
def inEnv {α : Type} (env : EnvD) (fl : List Bool) : Res α → Res α
  | .exc x => if fl.all (fun b => !b) && x.fs.isEmpty then .exc ⟨x.cls, x.fs, env⟩ else .fail
  | r => r
@[simp] theorem inEnv_ok {α : Type} {env : EnvD} {fl : List Bool} (a : α) : inEnv env fl (.ok a : Res α) = .ok a := rfl
theorem inEnv_eq {α : Type} {env : EnvD} {fl : List Bool} {x : Res α} {a : α} (h : inEnv env fl x = .ok a) : x = .ok a := by
  cases x with
  | fail => cases h
  | exc e =>
    unfold inEnv at h
    dsimp only at h
    split at h <;> cases h
  | ok b => exact h
/-- the classes of refusals: what stands over one -/
def xsub (c x : Str) : Bool := decide (x = c) || decide (x = "OrderError") || decide (x = "ValueError")
/-- several slots are shared from now on -/
def escs (env : EnvD) : List Nat → Res EnvD
  | [] => .ok env
  | i :: is => do let e ← escI env i; escs e is
/-- several slots have new data -/
def ups (env : EnvD) : List Nat → List D → Res EnvD
  | [], [] => .ok env
  | i :: is, d :: ds => do let e ← upS env i d; ups e is ds
  | _, _ => .fail
def ioSlots : List R → List Bool → List Nat
  | .slot i :: rs, true :: fs => i :: ioSlots rs fs
  | _ :: rs, _ :: fs => ioSlots rs fs
  | _, _ => []
def notIoSlots : List R → List Bool → List Nat
  | .slot i :: rs, false :: fs => i :: notIoSlots rs fs
  | _ :: rs, _ :: fs => notIoSlots rs fs
  | _, _ => []
/-- the arguments handed in to be changed are slots -/
def fitA : List R → List Bool → Bool
  | [], [] => true
  | .slot _ :: rs, _ :: fs => fitA rs fs
  | _ :: rs, false :: fs => fitA rs fs
  | _, _ => false
def callR (T : Tb) (f : Nat) (rs : List R) (env : EnvD) : Res (R × EnvD) := do
  chk (fitA rs (T.fl f) && (decide ((ioSlots rs (T.fl f)).Nodup) && (ioSlots rs (T.fl f)).all (fun i => decide (i ∉ notIoSlots rs (T.fl f)))))
  let ds ← frcs env rs
  let q ← inEnv env (T.fl f) (T.call f ds)
  let e1 ← (if (if q.own then q.d.pureIn else q.d.pure) && q.ios.all D.pureIn then .ok env else escs env (notIoSlots rs (T.fl f)))
  let e2 ← ups e1 (ioSlots rs (T.fl f)) q.ios
  .ok (if q.own then .own q.d else .dat q.d, e2)

/-- new things handed in to be changed stand in slots behind all others for the time of the call -/
def ownsOf : List R → List D
  | .own d :: rs => d :: ownsOf rs
  | _ :: rs => ownsOf rs
  | [] => []
def toSlots (n : Nat) : List R → List R
  | .own _ :: rs => .slot n :: toSlots (n + 1) rs
  | r :: rs => r :: toSlots n rs
  | [] => []
def callRO (T : Tb) (f : Nat) (rs : List R) (env : EnvD) : Res (R × EnvD) := do
  let (r, e) ← callR T f (toSlots env.length rs) (env ++ (ownsOf rs).map Slot.ow)
  .ok (r, e.take env.length)

/-! ### targets, loops -/
def bindTg (env : EnvD) : Tg → D → Res EnvD
  | .one i, d => stS env i (.sh d)
  | .many is, .tup ds => bindMany env is ds
  | _, _ => .fail
where bindMany (env : EnvD) : List Nat → List D → Res EnvD
  | [], [] => .ok env
  | i :: is, d :: ds => do let e ← stS env i (.sh d); bindMany e is ds
  | _, _ => .fail
def Tg.slots : Tg → List Nat
  | .one i => [i]
  | .many is => is
def wipeE (env : EnvD) : List Nat → EnvD
  | [] => env
  | v :: vs => (wipeE env vs).set v .un
/-- the names of a comprehension must not hold things of one's own -/
def freeOf (env : EnvD) (is : List Nat) : Bool := is.all fun i => match env[i]? with
  | some .un => true
  | some (.sh _) => true
  | _ => false
/-- the slots of a comprehension's names as they were -/
def backE (old env : EnvD) : List Nat → EnvD
  | [] => env
  | v :: vs => (backE old env vs).set v (old.getD v .un)
def lcL (turn : EnvD → D → Res (Option D × EnvD)) : List D → EnvD → List D → Res (List D × EnvD)
  | [], env, acc => .ok (acc, env)
  | x :: xs, env, acc => do
    let (o, e) ← noX (turn env x)
    match o with
    | none => lcL turn xs e acc
    | some d => do chk (decide (acc.length < SL)); lcL turn xs e (acc ++ [d])
def enumF (k : Nat) : List D → List D
  | [] => []
  | d :: ds => .tup [.int (k : Nat), d] :: enumF (k + 1) ds

/-- what a slot of one's own holds, and whether it is made here -/
def heldO : Option Slot → Option (D × Bool)
  | some (.ow d) => some (d, true)
  | some (.io d) => some (d, false)
  | _ => none
def ownS (o : Bool) (d : D) : Slot := if o then .ow d else .io d
/-- data that may not hold what another slot has -/
def isScr : D → Bool
  | .scr _ => true
  | _ => false
def Slot.calm : Slot → Bool
  | .un => true
  | .sh d => d.pure || isScr d
  | .ow d => d.pureIn
  | .io d => d.pureIn
  | .xc => false
def R.calm : R → Bool
  | .dat d => d.pure
  | .own d => d.pureIn
  | .slot _ => false
def KeepOk (old new : EnvD) (i : Nat) : Prop := ∀ j : Nat, j ≠ i → ((∃ d, old[j]? = some (Slot.sh d)) ∧ new[j]? = old[j]?) ∨ ∀ s, new[j]? = some s → s.calm = true
open Classical in
noncomputable def keepB (old new : EnvD) (i : Nat) : Bool := decide (KeepOk old new i)

def keyD : Key → D
  | .inl i => .int i
  | .inr x => .str x
/-- the keys of a dict, in their order -/
def keysD : D → Option (List D)
  | .dK kvs => some (kvs.map fun p => keyD p.1)
  | .dT kvs => some (kvs.map fun p => .tup (p.1.map keyD))
  | _ => none
/-- the dict in a slot that is shared: its keys -/
def dkyD (env : EnvD) (i : Nat) : Res (List D) := match env[i]? with
  | some (.sh d) => ofO (keysD d)
  | _ => .fail
def zipD (xs ys : List D) : List D := List.zipWith (fun x y => D.tup [x, y]) xs ys
/-- two lists or two tuples, pair by pair -/
def zipO : List D → Option (List D)
  | [.lst xs, .lst ys] => some (zipD xs ys)
  | [.tup xs, .tup ys] => some (zipD xs ys)
  | _ => none
/-- the pairs of a display, key and value in turn -/
def dspK : List D → Option (List (Key × D))
  | [] => some []
  | k :: v :: r => match keyOf k, dspK r with
    | some k, some r => some ((k, v) :: r)
    | _, _ => none
  | _ => none
def dspT : List D → Option (List (List Key × D))
  | [] => some []
  | .tup k :: v :: r => match keysOf k, dspT r with
    | some k, some r => some ((k, v) :: r)
    | _, _ => none
  | _ => none
def putAll {κ : Type} [DecidableEq κ] (kvs more : List (κ × D)) : List (κ × D) := more.foldl (fun acc p => put acc p.1 p.2) kvs
def dspD (t : Bool) (ds : List D) : Res D := if t then do let l ← ofO (dspT ds); .ok (.dT (putAll [] l)) else do let l ← ofO (dspK ds); .ok (.dK (putAll [] l))
/-- a display of one pair, a text and a number -/
def dspO : List CE → List CE → Option (Str × Int)
  | [.lit (.str k)], [.lit (.int v)] => some (k, v)
  | _, _ => none
/-- a display of one pair, a name and a plain value -/
def dspV : List CE → List CE → Option (Nat × D)
  | [.var i], [.lit (.int v)] => some (i, .int v)
  | [.var i], [.lit (.bl v)] => some (i, .bl v)
  | _, _ => none
mutual
noncomputable def runE (T : Tb) : CE → EnvD → Res (R × EnvD)
  | .var i, env => match env[i]? with
    | some (.sh d) => .ok (.dat d, env)
    | some (.ow d) => .ok (.slot i, env)
    | some (.io d) => .ok (.slot i, env)
    | _ => .fail
  | .lit d, env => .ok (.dat d, env)
  | .op o a b, env => do
    let (ra, e1) ← runE T a env
    let (rb, e2) ← runE T b e1
    let da ← frc e2 ra
    let db ← frc e2 rb
    let r ← opD o da db
    .ok (r, e2)
  | .neg a, env => do
    let (ra, e1) ← runE T a env
    let da ← frc e1 ra
    let i ← ofO (asInt da)
    .ok (.dat (.int (-i)), e1)
  | .cmp c a b, env => do
    let (ra, e1) ← runE T a env
    let (rb, e2) ← runE T b e1
    let da ← frc e2 ra
    let db ← frc e2 rb
    let r ← cmD c da db
    .ok (.dat (.bl r), e2)
  | .chn c c' a b e, env => do
    let (ra, e1) ← runE T a env
    let (rb, e2) ← runE T b e1
    let da ← frc e2 ra
    let db ← frc e2 rb
    let r ← cmD c da db
    if r then do
      let (rc, e3) ← runE T e e2
      let db' ← frc e3 rb
      let dc ← frc e3 rc
      let r' ← cmD c' db' dc
      .ok (.dat (.bl r'), e3)
    else .ok (.dat (.bl false), e2)
  | .andb es, env => runL T true es env
  | .orb es, env => runL T false es env
  | .notb a, env => do
    let (ra, e1) ← runE T a env
    let da ← frc e1 ra
    let k ← ofO (asBl da)
    .ok (.dat (.bl (!k)), e1)
  | .ife t a b, env => do
    let (ra, e1) ← runE T t env
    let da ← frc e1 ra
    let k ← ofO (asBl da)
    if k then runE T a e1 else runE T b e1
  | .tup es, env => do
    let (ds, e) ← runK T es env
    chk (decide (ds.length ≤ SL))
    .ok (.dat (.tup ds), e)
  | .lst es, env => do
    let (ds, e) ← runK T es env
    chk (decide (ds.length ≤ SL))
    .ok (.own (.lst ds), e)
  | .dnew t, env => .ok (.own (if t then .dT [] else .dK []), env)
  | .dsp ks vs, env => match dspO ks vs with
    | some q => .ok (.own (.dK [(.inr q.1, .int q.2)]), env)
    | none => do
      let p ← ofO (dspV ks vs)
      let x ← rd env p.1
      let k ← ofO (keyOf x)
      .ok (.own (.dK [(k, p.2)]), env)
  | .dspG t es, env => noX (do
    chk (decide (es.length ≤ 30))
    let (ds, e) ← runK T es env
    let d ← dspD t ds
    .ok (.own d, e))
  | .idx a b, env => do
    let (ra, e1) ← runE T a env
    let (rb, e2) ← runE T b e1
    let da ← frc e2 ra
    let db ← frc e2 rb
    let d ← idxD da db
    .ok (.dat d, e2)
  | .slc a lo hi, env => do
    let (ra, e1) ← runE T a env
    let (l, e2) ← runO T lo e1
    let (h, e3) ← runO T hi e2
    let da ← frc e3 ra
    let r ← slcD da l h
    .ok (r, e3)
  | .rev a, env => do
    let (ra, e1) ← runE T a env
    let da ← frc e1 ra
    match da with
    | .lst ds => .ok (.own (.lst ds.reverse), e1)
    | .scr ns => .ok (.own (.lst (ns.reverse.map .int)), e1)
    | .tup ds => .ok (.dat (.tup ds.reverse), e1)
    | _ => .fail
  | .isi a t, env => do
    let (ra, e1) ← runE T a env
    let da ← frc e1 ra
    chk (isiOk da)
    .ok (.dat (.bl (isiD t da)), e1)
  | .call f es, env => do
    let (rs, e) ← runA T es env
    callR T f rs e
  | .blt b es, env => do
    let (rs, e) ← runA T es env
    let ds ← frcs e rs
    let r ← bfD b ds
    .ok (r, e)
  | .inr t a b, env => do
    let (ra, e1) ← runE T a env
    let (rb, e2) ← runE T b e1
    let da ← frc e2 ra
    let db ← frc e2 rb
    let r ← inrD da db
    .ok (.dat (.bl (r != t)), e2)
  | .rngL t es, env => do
    let (rs, e) ← runA T es env
    let ds ← frcs e rs
    let q ← rngD ds
    chk (decide (q.2.1 ≤ SL))
    .ok (if t then .dat (.tup (rngIt q)) else .own (.lst (rngIt q)), e)
  | .mth m o es, env => do
    let (ro, e1) ← runE T o env
    let d0 ← frc e1 ro
    chk (mtOk m d0)
    let (rs, e2) ← runA T es e1
    chk (rs.all R.isVal)
    let d ← frc e2 ro
    let ds ← frcs e2 rs
    let r ← mtD m d ds
    .ok (r, e2)
  | .pop i es, env => do
    chk (isLst env i)
    let (rs, e) ← noX (runA T es env)
    let ds ← frcs e rs
    let d ← rd e i
    let (v, d') ← popD d ds
    let e' ← upS e i d'
    .ok (.dat v, e')
  | .lc elt tg it c, env => do
    let (xs, e1) ← runI T it env
    chk (freeOf e1 tg.slots)
    let (ds, e2) ← lcL (fun e x => do
      let e ← bindTg (wipeE e tg.slots) tg x
      let (k, e) ← runC T c e
      if k then do
        let (r, e) ← runE T elt e
        let (d, e) ← esc e r
        .ok (some d, e)
      else .ok (none, e)) xs e1 []
    .ok (.own (.lst ds), backE e1 e2 tg.slots)
  | .lcD elt tg i c, env => noX (do
    let e0 ← escI env i
    let xs ← dkyD e0 i
    chk (freeOf e0 tg.slots)
    let (ds, e2) ← lcL (fun e x => do
      let e ← bindTg (wipeE e tg.slots) tg x
      let (k, e) ← runC T c e
      if k then do
        let (r, e) ← runE T elt e
        let (d, e) ← esc e r
        .ok (some d, e)
      else .ok (none, e)) xs e0 []
    .ok (.own (.lst ds), backE e0 e2 tg.slots))
  | .keep i a, env => do
    let q ← ofO (heldO env[i]?)
    let (r, e) ← noX (runE T a (env.set i (.sh q.1)))
    chk (r.calm && keepB env e i)
    .ok (r, e.set i (ownS q.2 q.1))
  | .callO f es, env => noX (do
    let (rs, e) ← runA T es env
    callRO T f rs e)
  | .srt a, env => do
    let (ra, e1) ← runE T a env
    let da ← frc e1 ra
    let ns ← ofO (tupI da)
    chk (decide (ns.length < 64))
    .ok (.own (.lst ((setI ns).map .int)), e1)
  | .xis i x, env => match env[i]?, T.cur with
    | some .xc, some c => .ok (.dat (.bl (xsub c.cls x)), env)
    | _, _ => .fail
  | .xcl f i, env => match env[i]?, T.cur with
    | some .xc, some c => do
      let q ← noX (T.callX f c)
      chk (!q.own && q.d.pure && q.ios.isEmpty)
      .ok (.dat q.d, env)
    | _, _ => .fail
termination_by structural c => c
/-- and (go = true), or (go = false) -/
noncomputable def runL (T : Tb) (go : Bool) : List CE → EnvD → Res (R × EnvD)
  | [], _ => .fail
  | a :: es, env => do
    let (ra, e1) ← runE T a env
    let da ← frc e1 ra
    let k ← ofO (asBl da)
    if es.isEmpty then .ok (.dat (.bl k), e1)
    else if k == go then runL T go es e1
    else .ok (.dat (.bl k), e1)
termination_by structural c => c
/-- arguments -/
noncomputable def runA (T : Tb) : List CE → EnvD → Res (List R × EnvD)
  | [], env => .ok ([], env)
  | a :: es, env => do
    let (r, e) ← runE T a env
    let (rs, e) ← runA T es e
    .ok (r :: rs, e)
termination_by structural c => c
/-- items, kept -/
noncomputable def runK (T : Tb) : List CE → EnvD → Res (List D × EnvD)
  | [], env => .ok ([], env)
  | a :: es, env => do
    let (r, e) ← runE T a env
    let (d, e) ← esc e r
    let (ds, e) ← runK T es e
    .ok (d :: ds, e)
termination_by structural c => c
noncomputable def runO (T : Tb) : Option CE → EnvD → Res (Option Int × EnvD)
  | none, env => .ok (none, env)
  | some a, env => do
    let (r, e) ← runE T a env
    let d ← frc e r
    let i ← ofO (asInt d)
    .ok (some i, e)
termination_by structural c => c
noncomputable def runC (T : Tb) : Option CE → EnvD → Res (Bool × EnvD)
  | none, env => .ok (true, env)
  | some a, env => do
    let (r, e) ← runE T a env
    let d ← frc e r
    let k ← ofO (asBl d)
    .ok (k, e)
termination_by structural c => c
/-- what is walked: its items -/
noncomputable def runI (T : Tb) : CI → EnvD → Res (List D × EnvD)
  | .seq a, env => do
    let (r, e) ← runE T a env
    let (d, e) ← esc e r
    let ds ← ofO (seqOf d)
    .ok (ds, e)
  | .rng es, env => do
    let (rs, e) ← runA T es env
    let ds ← frcs e rs
    let q ← rngD ds
    .ok (rngIt q, e)
  | .enm a, env => do
    let (r, e) ← runE T a env
    let (d, e) ← esc e r
    let ds ← ofO (seqOf d)
    .ok (enumF 0 ds, e)
  | .zip a b, env => do
    let (ra, e) ← runE T a env
    let (da, e) ← esc e ra
    let (rb, e) ← runE T b e
    let (db, e) ← esc e rb
    let xs ← ofO (zipO [da, db])
    .ok (xs, e)
  | .rvd a, env => do
    let (r, e) ← runE T a env
    let (d, e) ← esc e r
    let ds ← ofO (seqOf d)
    .ok (ds.reverse, e)
  | .dky i, env => do
    let xs ← dkyD env i
    .ok (xs, env)
termination_by structural c => c
end

/-! ### statements -/
inductive Out where
  | nx (env : EnvD) | rt (r : R) (env : EnvD) | bk (env : EnvD) | ct (env : EnvD)
def Slot.isXc : Slot → Bool
  | .xc => true
  | _ => false
/-- the name of an except clause goes -/
def clrE (e : EnvD) (i : Nat) : Res EnvD := do
  chk ((e.set i .un).all fun s => !s.isXc)
  .ok (e.set i .un)
def R.isAt (i : Nat) : R → Bool
  | .slot j => decide (j = i)
  | _ => false
def Out.clr (i : Nat) : Out → Res Out
  | .nx e => do let e ← clrE e i; .ok (.nx e)
  | .bk e => do let e ← clrE e i; .ok (.bk e)
  | .ct e => do let e ← clrE e i; .ok (.ct e)
  | .rt r e => do chk (!r.isAt i); let e ← clrE e i; .ok (.rt r e)
def whileN (turn : EnvD → Res (Bool × Out)) : Nat → EnvD → Res Out
  | 0, _ => .fail
  | n + 1, env => do
    let (go, o) ← turn env
    if go then
      match o with
      | .nx e => whileN turn n e
      | .ct e => whileN turn n e
      | .bk e => .ok (.nx e)
      | .rt r e => .ok (.rt r e)
    else .ok o
def forL (turn : EnvD → D → Res Out) : List D → EnvD → Res Out
  | [], env => .ok (.nx env)
  | x :: xs, env => do
    match (← turn env x) with
    | .nx e => forL turn xs e
    | .ct e => forL turn xs e
    | .bk e => .ok (.nx e)
    | .rt r e => .ok (.rt r e)
def lstD : D → Option (List D)
  | .lst ds => some ds
  | _ => none
/-- a list walked in its slot, as it stands at each turn -/
def forSL (turn : EnvD → Nat → D → Res Out) (i : Nat) : Nat → Nat → EnvD → Res Out
  | 0, k, env => do
    let d ← rd env i
    let ds ← ofO (lstD d)
    chk (decide (ds.length = k))
    .ok (.nx env)
  | m + 1, k, env => do
    let d ← rd env i
    let ds ← ofO (lstD d)
    let x ← ofO ds[k]?
    match (← turn env k x) with
    | .nx e => forSL turn i m (k + 1) e
    | .ct e => forSL turn i m (k + 1) e
    | .bk e => .ok (.nx e)
    | .rt r e => .ok (.rt r e)
def unlkE (o : Bool) (i : Nat) (e : EnvD) : Res EnvD := do
  let q ← ofO (heldO e[i]?)
  .ok (e.set i (ownS o q.1))
def unlk (o : Bool) (i : Nat) : Out → Res Out
  | .nx e => do let e ← unlkE o i e; .ok (.nx e)
  | .bk e => do let e ← unlkE o i e; .ok (.bk e)
  | .ct e => do let e ← unlkE o i e; .ok (.ct e)
  | .rt r e => do let e ← unlkE o i e; .ok (.rt r e)
/-- the most turns of a while -/
def WF : Nat := 1000000000000
mutual
noncomputable def runS (T : Tb) : CS → EnvD → Res Out
  | .set i a, env => do
    let (r, e) ← runE T a env
    match r with
    | .own d => do let e ← stS e i (.ow d); .ok (.nx e)
    | r => do let (d, e) ← esc e r; let e ← stS e i (.sh d); .ok (.nx e)
  | .unp is a, env => do
    let (r, e) ← runE T a env
    let d ← frc e r
    let e ← bindTg e (.many is) d
    .ok (.nx e)
  | .par i j a b, env => do
    let (ds, e) ← runK T [a, b] env
    match ds with
    | [d, d'] => do let e ← stS e i (.sh d); let e ← stS e j (.sh d'); .ok (.nx e)
    | _ => .fail
  | .sub o k v, env => do
    let (rv, e) ← runE T v env
    let (dv, e) ← esc e rv
    let _ ← rd e o
    let (rk, e) ← runE T k e
    let dk ← frc e rk
    let d ← rd e o
    let d' ← putD d dk dv
    let e ← upS e o d'
    .ok (.nx e)
  | .mut m i es, env => do
    chk (isLst env i)
    let (ds, e) ← runK T es env
    let d ← rd e i
    let d' ← muD m d ds
    let e ← upS e i d'
    .ok (.nx e)
  | .exp a, env => do
    let (_, e) ← runE T a env
    .ok (.nx e)
  | .ret none, env => .ok (.rt (.dat .non) env)
  | .ret (some a), env => do
    let (r, e) ← runE T a env
    .ok (.rt r e)
  | .ife t a b, env => do
    let (r, e) ← runE T t env
    let d ← frc e r
    let k ← ofO (asBl d)
    if k then runB T a e else runB T b e
  | .whl t b, env => whileN (fun e => do
      let (r, e) ← runE T t e
      let d ← frc e r
      let k ← ofO (asBl d)
      if k then do let o ← runB T b e; .ok (true, o) else .ok (false, .nx e)) WF env
  | .for tg it b, env => do
    let (xs, e) ← runI T it env
    forL (fun e x => do let e ← bindTg e tg x; runB T b e) xs e
  | .forS en tg i b, env => do
    let q ← ofO (heldO env[i]?)
    let ds ← ofO (lstD q.1)
    let o ← noX <| forSL (fun e k x => do let e ← bindTg e tg (if en then .tup [.int (k : Nat), x] else x); runB T b e) i ds.length 0 (env.set i (.io q.1))
    unlk q.2 i o
  | .forD tg i b, env => noX (do
    let e0 ← escI env i
    let xs ← dkyD e0 i
    forL (fun e x => do let e ← bindTg e tg x; runB T b e) xs e0)
  | .brk, env => .ok (.bk env)
  | .cnt, env => .ok (.ct env)
  | .pas, env => .ok (.nx env)
  | .nev, _ => .fail
  | .rse x, env => .exc ⟨x, [], env⟩
  | .tr b i x s, env => match runB T b env with
    | .exc c => if xsub c.cls x then do
        chk (c.env.all fun s => !s.isXc)
        let e ← stS c.env i .xc
        let o ← noX (runB { T with cur := some c } s e)
        o.clr i
      else .exc c
    | r => r
termination_by structural c => c
noncomputable def runB (T : Tb) : List CS → EnvD → Res Out
  | [], env => .ok (.nx env)
  | c :: cs, env => do
    match (← runS T c env) with
    | .nx e => runB T cs e
    | o => .ok o
termination_by structural c => c
end

/-! ### defs -/
structure Def where
  fl : List Bool
  n : Nat
  body : List CS
  deriving Inhabited
def iosOf (env : EnvD) : List Bool → Nat → Option (List D)
  | [], _ => some []
  | true :: fs, i => match env[i]? with
    | some (.io d) => (iosOf env fs (i + 1)).map (d :: ·)
    | _ => none
  | false :: fs, i => iosOf env fs (i + 1)
def startE (fl : List Bool) (n : Nat) (ds : List D) : EnvD := (fl.zip ds).map (fun p => if p.1 then Slot.io p.2 else Slot.sh p.2) ++ List.replicate (n - ds.length) .un
def retR (env : EnvD) : R → Res (Bool × D × EnvD)
  | .dat d => .ok (false, d, env)
  | .own d => .ok (true, d, env)
  | .slot i => match env[i]? with
    | some (.ow d) => .ok (true, d, env.set i .un)
    | _ => .fail
noncomputable def runDef (T : Tb) (d : Def) (ds : List D) : Res FRes := do
  chk (decide (ds.length = d.fl.length) && decide (d.fl.length ≤ d.n))
  match (← runB T d.body (startE d.fl d.n ds)) with
  | .nx e => do let ios ← ofO (iosOf e d.fl 0); .ok ⟨false, .non, ios⟩
  | .rt r e => do
    let (o, v, e) ← retR e r
    let ios ← ofO (iosOf e d.fl 0)
    .ok ⟨o, v, ios⟩
  | _ => .fail
/-- a def that is told an exception alone -/
noncomputable def runDefX (T : Tb) (d : Def) : Res FRes := do
  chk (decide (d.fl = [false]) && decide (0 < d.n))
  match (← runB T d.body (.xc :: List.replicate (d.n - 1) .un)) with
  | .nx e => .ok ⟨false, .non, []⟩
  | .rt r e => do
    let (o, v, e) ← retR e r
    .ok ⟨o, v, []⟩
  | _ => .fail
noncomputable def callB (P : List Def) : Nat → Option Ex → Nat → List D → Res FRes
  | 0, _, _, _ => .fail
  | n + 1, c, f, ds => match P[f]? with
    | some d => (match c with
      | none => runDef ⟨callB P n none, fun g => (P[g]?.map (·.fl)).getD [], none, fun g x => callB P n (some x) g []⟩ d ds
      | some x => runDefX ⟨callB P n none, fun g => (P[g]?.map (·.fl)).getD [], some x, fun g x => callB P n (some x) g []⟩ d)
    | none => .fail
noncomputable def callN (P : List Def) (n f : Nat) (ds : List D) : Res FRes := callB P n none f ds
end VL
/-! VL3: what stands behind an expression, and how it lasts. -/
namespace VL
open PySem PySem.Spec L2
abbrev SV := L2.St

def Fr.add (F : Fr) (a : Addr) : Fr := { F with M0 := fun b => F.M0 b ∨ b = a }
theorem Slot.held_data {s : Slot} {d : D} (h : s.held = some d) : s.data = some d := by
  cases s <;> first | cases h; done | exact h
section
variable {F : Fr} {env env' : EnvD} {σ σ' : SV} {H H' : Hp} {p : Addr} {o : HO}
theorem Owns.some (S : Sim F env σ H) {b : Addr} (h : Owns env σ b) : ∃ o, H b = some o ∧ (∀ xs, o ≠ .tup xs) ∧ ¬ F.M0 b := by
  obtain ⟨i, s, d, e, hd, hv⟩ := h
  cases s with
  | un => cases hd
  | xc => cases hd
  | sh d => cases hd
  | ow d' =>
    obtain ⟨a, e1, m, _, r⟩ := S.ow i _ e
    rw [hv] at e1; cases e1
    obtain ⟨o, q, t⟩ := r.some
    exact ⟨o, q, t, m⟩
  | io d' =>
    obtain ⟨a, e1, m, _, r⟩ := S.io i _ e
    rw [hv] at e1; cases e1
    obtain ⟨o, q, t⟩ := r.some
    exact ⟨o, q, t, m⟩
theorem Sim.mx_some (S : Sim F env σ H) {b : Addr} (h : Mx F env σ b) : ∃ o, H b = some o := by
  rcases h with h | h
  · obtain ⟨o, q, _⟩ := S.m0 b h; exact ⟨o, q⟩
  · obtain ⟨o, q, _⟩ := h.some S; exact ⟨o, q⟩
theorem Sim.notup (S : Sim F env σ H) (a : Addr) (xs : List V) (e : H a = some (.tup xs)) : ¬ Mx F env σ a := fun h => by
  rcases h with h | h
  · obtain ⟨o, q, n⟩ := S.m0 a h
    rw [e] at q; cases q; exact n _ rfl
  · obtain ⟨o, q, n, _⟩ := h.some S
    rw [e] at q; cases q; exact n _ rfl
theorem Sim.fresh (S : Sim F env σ H) (hp : H p = none) : ¬ Mx F env σ p := fun h => by
  obtain ⟨o, q⟩ := S.mx_some h
  rw [hp] at q; cases q
/-- a slot's data -/
theorem Sim.read (S : Sim F env σ H) {i : Nat} {d : D} {v : V} (e : rd env i = .ok d) (hv : σ[i]? = some (some v)) : RepW (Mx F env σ) H d v := by
  have e := ofO_ok e
  cases q : env[i]? with
  | none => rw [q] at e; cases e
  | some s =>
    rw [q] at e
    cases s with
    | un => cases e
    | xc => cases e
    | sh d' =>
      have : d' = d := Option.some.inj e
      subst this
      obtain ⟨v', e1, r⟩ := S.sh i _ q
      rw [hv] at e1; cases e1
      exact r.w
    | ow d' =>
      have : d' = d := Option.some.inj e
      subst this
      obtain ⟨a, e1, _, _, r⟩ := S.ow i _ q
      rw [hv] at e1; cases e1
      exact r.w
    | io d' =>
      have : d' = d := Option.some.inj e
      subst this
      obtain ⟨a, e1, _, _, r⟩ := S.io i _ q
      rw [hv] at e1; cases e1
      exact r.w
theorem rd_slot {i : Nat} {d : D} (e : rd env i = .ok d) : ∃ s, env[i]? = some s ∧ s.data = some d := by
  have e := ofO_ok e
  cases q : env[i]? with
  | none => rw [q] at e; cases e
  | some s => rw [q] at e; exact ⟨s, rfl, e⟩
theorem Sim.slot_some (S : Sim F env σ H) {i : Nat} {d : D} (e : rd env i = .ok d) : ∃ v, σ[i]? = some (some v) := by
  obtain ⟨s, q, hd⟩ := rd_slot e
  cases s with
  | un => cases hd
  | xc => cases hd
  | sh d' => obtain ⟨v, e1, _⟩ := S.sh i _ q; exact ⟨v, e1⟩
  | ow d' => obtain ⟨a, e1, _⟩ := S.ow i _ q; exact ⟨_, e1⟩
  | io d' => obtain ⟨a, e1, _⟩ := S.io i _ q; exact ⟨_, e1⟩

theorem Sim.weak {a : Addr} (S : Sim (F.add a) env σ H) : Sim F env σ H := by
  have km : Kp (Mx (F.add a) env σ) H (Mx F env σ) H := ⟨rfl, fun b o e n => ⟨e, fun z => n (Or.elim z (fun z => .inl (.inl z)) .inr)⟩⟩
  refine ⟨S.len, fun i d e => ?_, fun i d e => ?_, fun i d e => ?_, S.inj, fun b h => S.m0 b (.inl h), S.keep, S.iok, S.xc⟩
  · obtain ⟨v, e1, r⟩ := S.sh i d e; exact ⟨v, e1, r.mv km⟩
  · obtain ⟨x, e1, m, f, r⟩ := S.ow i d e; exact ⟨x, e1, fun z => m (.inl z), f, r.mv km rfl⟩
  · obtain ⟨x, e1, m, f, r⟩ := S.io i d e; exact ⟨x, e1, fun z => m (.inl z), f, r.mv km rfl⟩
/-- a new object, out of all that is held -/
theorem Sim.alloc (S : Sim F env σ H) (hp : H p = none) (nt : ∀ xs, o ≠ .tup xs) : Sim (F.add p) env σ (upd H p o) := by
  have ne : ∀ {b u}, H b = some u → b ≠ p := fun e => ne_of_none e hp
  have km : Kp (Mx F env σ) H (Mx (F.add p) env σ) (upd H p o) := ⟨rfl, fun b u e n => ⟨by rw [upd_ne (ne e)]; exact e, fun z => by
    rcases z with (z | z) | z
    · exact n (.inl z)
    · exact ne e z
    · exact n (.inr z)⟩⟩
  refine ⟨S.len, fun i d e => ?_, fun i d e => ?_, fun i d e => ?_, S.inj, fun b h => ?_, fun b u e n => ?_, S.iok, S.xc⟩
  · obtain ⟨v, e1, r⟩ := S.sh i d e; exact ⟨v, e1, r.mv km⟩
  · obtain ⟨x, e1, m, f, r⟩ := S.ow i d e
    obtain ⟨ox, hx, _⟩ := r.some
    exact ⟨x, e1, fun z => z.elim m (ne hx), f, r.mv km (upd_ne (ne hx))⟩
  · obtain ⟨x, e1, m, f, r⟩ := S.io i d e
    obtain ⟨ox, hx, _⟩ := r.some
    exact ⟨x, e1, fun z => z.elim m (ne hx), f, r.mv km (upd_ne (ne hx))⟩
  · rcases h with h | h
    · obtain ⟨u, q, n⟩ := S.m0 b h
      exact ⟨u, by rw [upd_ne (ne q)]; exact q, n⟩
    · exact ⟨o, by rw [h, upd_same], nt⟩
  · have q := S.keep b u e n
    rw [upd_ne (ne q)]; exact q
theorem Sim.grow (S : Sim F env σ H) (hp : H p = none) : Sim F env σ (upd H p o) := by
  have ne : ∀ {b u}, H b = some u → b ≠ p := fun e => ne_of_none e hp
  have km : Kp (Mx F env σ) H (Mx F env σ) (upd H p o) := ⟨rfl, fun b u e n => ⟨by rw [upd_ne (ne e)]; exact e, n⟩⟩
  refine ⟨S.len, fun i d e => ?_, fun i d e => ?_, fun i d e => ?_, S.inj, fun b h => ?_, fun b u e n => ?_, S.iok, S.xc⟩
  · obtain ⟨v, e1, r⟩ := S.sh i d e; exact ⟨v, e1, r.mv km⟩
  · obtain ⟨x, e1, m, f, r⟩ := S.ow i d e
    obtain ⟨ox, hx, _⟩ := r.some
    exact ⟨x, e1, m, f, r.mv km (upd_ne (ne hx))⟩
  · obtain ⟨x, e1, m, f, r⟩ := S.io i d e
    obtain ⟨ox, hx, _⟩ := r.some
    exact ⟨x, e1, m, f, r.mv km (upd_ne (ne hx))⟩
  · obtain ⟨u, q, n⟩ := S.m0 b h
    exact ⟨u, by rw [upd_ne (ne q)]; exact q, n⟩
  · have q := S.keep b u e n
    rw [upd_ne (ne q)]; exact q
theorem Step.alloc (hp : H p = none) : Step env σ H env σ (upd H p o) :=
  ⟨fun b u e n => ⟨by rw [upd_ne (ne_of_none e hp)]; exact e, n⟩, fun b u e => ⟨u, by rw [upd_ne (ne_of_none e hp)]; exact e⟩⟩

/-! ### a result, while other things are reckoned -/
def Val (F : Fr) (env : EnvD) (σ : SV) (H : Hp) (r : R) (v : V) : Prop := match r with
  | .dat d => Rep (Mx F env σ) H d v
  | .own d => Rep (Mx F env σ) H d v
  | .slot i => σ[i]? = some (some v)
theorem Val.step {r : R} {v : V} (h : Val F env σ H r v) (s : Step env σ H env' σ H') : Val F env' σ H' r v := by
  cases r with
  | dat d => exact Rep.mv s.kp (show Rep _ H d v from h)
  | own d => exact Rep.mv s.kp (show Rep _ H d v from h)
  | slot i => exact h
theorem Val.w {r : R} {v : V} {d : D} (S : Sim F env σ H) (h : Val F env σ H r v) (e : frc env r = .ok d) : RepW (Mx F env σ) H d v := by
  cases r with
  | dat d' => cases e; exact Rep.w h
  | own d' => cases e; exact Rep.w h
  | slot i => exact S.read e h

/-- what stands behind an expression: r its answer, v its value -/
def PostE (F : Fr) (env : EnvD) (σ : SV) (H : Hp) (r : R) (env' : EnvD) (v : V) (H' : Hp) : Prop :=
  Step env σ H env' σ H' ∧ match r with
  | .dat d => Sim F env' σ H' ∧ Rep (Mx F env' σ) H' d v
  | .slot i => Sim F env' σ H' ∧ σ[i]? = some (some v) ∧ ∃ s d, env'[i]? = some s ∧ Slot.held s = some d
  | .own d => ∃ a, v = .ref a ∧ H a = none ∧ Sim (F.add a) env' σ H' ∧ OwnRep (Mx (F.add a) env' σ) H' d a
theorem PostE.sim {r : R} {v : V} (h : PostE F env σ H r env' v H') : Sim F env' σ H' := by
  cases r with
  | dat d => exact h.2.1
  | own d => obtain ⟨_, a, _, _, S, _⟩ := h; exact S.weak
  | slot i => exact h.2.1
theorem not_mx_add {a : Addr} (S : Sim (F.add a) env σ H) : ¬ Owns env σ a := fun h => by
  obtain ⟨_, _, _, n⟩ := h.some S
  exact n (.inr rfl)
theorem PostE.val {r : R} {v : V} (h : PostE F env σ H r env' v H') (hn : ∀ d, r = .own d → ∀ b, F.M0 b → ∃ o, H b = some o ∧ ∀ xs, o ≠ .tup xs) : Val F env' σ H' r v := by
  cases r with
  | dat d => exact h.2.2
  | own d =>
    obtain ⟨_, a, rfl, n, S, r⟩ := h
    refine r.share rfl (fun b z => ?_) fun z => ?_
    · rcases z with z | z
      · exact .inl (.inl z)
      · exact .inr z
    · rcases z with z | z
      · obtain ⟨o, q, _⟩ := hn _ rfl a z
        rw [n] at q; cases q
      · exact not_mx_add S z
  | slot i => exact h.2.2.1
theorem PostE.valS {r : R} {v : V} (S0 : Sim F env σ H) (h : PostE F env σ H r env' v H') : Val F env' σ H' r v := h.val fun _ _ b q => S0.m0 b q
/-- an answer that is plain data or a new thing -/
theorem PostE.dat {d : D} {v : V} (S : Sim F env' σ H') (s : Step env σ H env' σ H') (r : Rep (Mx F env' σ) H' d v) : PostE F env σ H (.dat d) env' v H' := ⟨s, S, r⟩
theorem upd_kp {env : EnvD} (hl : H p = none) : Kp (Mx F env σ) H (Mx (F.add p) env σ) (upd H p o) := ⟨rfl, fun b u e n => ⟨by rw [upd_ne (ne_of_none e hl)]; exact e, fun z => by
    rcases z with (z | z) | z
    · exact n (.inl z)
    · exact ne_of_none e hl z
    · exact n (.inr z)⟩⟩
theorem upd_kp0 {M : Av} (hl : H p = none) : Kp M H M (upd H p o) := ⟨rfl, fun b u e n => ⟨by rw [upd_ne (ne_of_none e hl)]; exact e, n⟩⟩
theorem PostE.newL {ds : List D} {xs : List V} (S : Sim F env' σ H') (s : Step env σ H env' σ H') (hl : H' p = none) (r : RepL (Mx F env' σ) H' ds xs) :
    PostE F env σ H (.own (.lst ds)) env' (.ref p) (upd H' p (.lst xs)) :=
  ⟨s.trans (Step.alloc hl), p, rfl, s.nil hl, S.alloc hl (fun _ => by simp), xs, upd_same, r.mv (upd_kp hl)⟩
theorem PostE.newK {ds : List (Key × D)} {xs : List (Key × V)} (S : Sim F env' σ H') (s : Step env σ H env' σ H') (hl : H' p = none) (r : RepK (Mx F env' σ) H' ds xs) :
    PostE F env σ H (.own (.dK ds)) env' (.ref p) (upd H' p (.dK xs)) :=
  ⟨s.trans (Step.alloc hl), p, rfl, s.nil hl, S.alloc hl (fun _ => by simp), xs, upd_same, r.mv (upd_kp hl)⟩
theorem PostE.newDT {ds : List (List Key × D)} {xs : List (List Key × V)} (S : Sim F env' σ H') (s : Step env σ H env' σ H') (hl : H' p = none) (r : RepT (Mx F env' σ) H' ds xs) :
    PostE F env σ H (.own (.dT ds)) env' (.ref p) (upd H' p (.dT xs)) :=
  ⟨s.trans (Step.alloc hl), p, rfl, s.nil hl, S.alloc hl (fun _ => by simp), xs, upd_same, r.mv (upd_kp hl)⟩
theorem PostE.newT {ds : List D} {xs : List V} (S : Sim F env' σ H') (s : Step env σ H env' σ H') (hl : H' p = none) (r : RepL (Mx F env' σ) H' ds xs) :
    PostE F env σ H (.dat (.tup ds)) env' (.ref p) (upd H' p (.tup xs)) :=
  ⟨s.trans (Step.alloc hl), S.grow hl, p, xs, rfl, upd_same, S.fresh hl, r.mv (upd_kp0 hl)⟩
/-- one after another -/
theorem PostE.after {e1 : EnvD} {H1 : Hp} {r : R} {v : V} (s : Step env σ H e1 σ H1) (h : PostE F e1 σ H1 r env' v H') : PostE F env σ H r env' v H' := by
  refine ⟨s.trans h.1, ?_⟩
  cases r with
  | dat d => exact h.2
  | own d => obtain ⟨_, a, e, n, S, q⟩ := h; exact ⟨a, e, s.nil n, S, q⟩
  | slot i => exact h.2
/-- a thing of one's own is shared from here on -/
theorem Sim.escI {i : Nat} (S : Sim F env σ H) (e : escI env i = .ok env') : Sim F env' σ H ∧ Step env σ H env' σ H ∧ ∀ (v : V) (d : D), σ[i]? = some (some v) → rd env i = .ok d → Rep (Mx F env' σ) H d v := by
  unfold VL.escI at e
  cases q : env[i]? with
  | none => rw [q] at e; cases e
  | some s =>
    rw [q] at e
    cases s with
    | un => cases e
    | xc => cases e
    | io d => cases e
    | sh d =>
      cases e
      refine ⟨S, Step.refl, fun v d' hv hd => ?_⟩
      obtain ⟨s', q', hs⟩ := rd_slot hd
      rw [q] at q'; cases q'; cases hs
      obtain ⟨v', e1, r⟩ := S.sh i _ q
      rw [hv] at e1; cases e1
      exact r
    | ow d =>
      cases e
      obtain ⟨a, ea, ma, fa, ra⟩ := S.ow i d q
      have hi : i < env.length := (List.getElem?_eq_some_iff.mp q).1
      have sub : ∀ b, Owns (env.set i (.sh d)) σ b → Owns env σ b ∧ b ≠ a := fun b ⟨j, s, dd, e1, e2, e3⟩ => by
        by_cases hj : j = i
        · subst hj
          rw [List.getElem?_set_self hi] at e1; cases e1; cases e2
        · rw [List.getElem?_set_ne (Ne.symm hj)] at e1
          refine ⟨⟨j, s, dd, e1, e2, e3⟩, fun z => ?_⟩
          subst z
          exact hj (S.inj j i s _ dd d b e1 e2 q rfl e3 ea)
      have subM : ∀ b, Mx F (env.set i (.sh d)) σ b → Mx F env σ b := fun b z => Or.elim z .inl fun z => .inr (sub b z).1
      have na : ¬ Mx F (env.set i (.sh d)) σ a := fun z => Or.elim z ma fun z => (sub a z).2 rfl
      have kp : Kp (Mx F env σ) H (Mx F (env.set i (.sh d)) σ) H := ⟨rfl, fun b o e n => ⟨e, fun z => n (subM b z)⟩⟩
      refine ⟨⟨by rw [List.length_set]; exact S.len, fun j d' e => ?_, fun j d' e => ?_, fun j d' e => ?_, fun j k s t x y b e1 h1 e2 h2 => ?_, S.m0, S.keep, fun j b e => ?_, xc_set S (by simp)⟩, ⟨fun b o e n => ⟨e, fun z => n (sub b z).1⟩, fun b o e => ⟨o, e⟩⟩, fun v d' hv hd => ?_⟩
      · by_cases hj : j = i
        · subst hj
          rw [List.getElem?_set_self hi] at e; cases e
          exact ⟨_, ea, ra.share rfl subM na⟩
        · rw [List.getElem?_set_ne (Ne.symm hj)] at e
          obtain ⟨v, e1, r⟩ := S.sh j d' e
          exact ⟨v, e1, r.mv kp⟩
      · by_cases hj : j = i
        · subst hj
          rw [List.getElem?_set_self hi] at e; cases e
        · rw [List.getElem?_set_ne (Ne.symm hj)] at e
          obtain ⟨x, e1, m, f, r⟩ := S.ow j d' e
          exact ⟨x, e1, m, f, r.mv kp rfl⟩
      · by_cases hj : j = i
        · subst hj
          rw [List.getElem?_set_self hi] at e; cases e
        · rw [List.getElem?_set_ne (Ne.symm hj)] at e
          obtain ⟨x, e1, m, f, r⟩ := S.io j d' e
          exact ⟨x, e1, m, f, r.mv kp rfl⟩
      · have w : ∀ {j s x}, (env.set i (.sh d))[j]? = some s → Slot.held s = some x → env[j]? = some s := fun {j s x} e h => by
          by_cases hj : j = i
          · subst hj
            rw [List.getElem?_set_self hi] at e; cases e; cases h
          · rw [List.getElem?_set_ne (Ne.symm hj)] at e; exact e
        exact S.inj j k s t x y b (w e1 h1) h1 (w e2 h2) h2
      · obtain ⟨d', e1, e2⟩ := S.iok j b e
        by_cases hj : j = i
        · subst hj; rw [q] at e1; cases e1
        · exact ⟨d', by rw [List.getElem?_set_ne (Ne.symm hj)]; exact e1, e2⟩
      · obtain ⟨s', q', hs⟩ := rd_slot hd
        rw [q] at q'; cases q'; cases hs
        rw [hv] at ea; cases ea
        exact ra.share rfl subM na
theorem Val.esc {r : R} {v : V} {d : D} (S : Sim F env σ H) (h : Val F env σ H r v) (e : esc env r = .ok (d, env')) : Sim F env' σ H ∧ Step env σ H env' σ H ∧ Rep (Mx F env' σ) H d v := by
  cases r with
  | dat d' => cases e; exact ⟨S, Step.refl, h⟩
  | own d' => cases e; exact ⟨S, Step.refl, h⟩
  | slot i =>
    obtain ⟨d1, h1, e⟩ := Res.bind_ok e
    obtain ⟨e1, h2, e⟩ := Res.bind_ok e
    cases e
    obtain ⟨S', st, r⟩ := S.escI h2
    exact ⟨S', st, r v d h h1⟩
end

/-! ### the readings -/
theorem PE.imp {X : Cx} {e : Expr} {t t' : TE} (h : PE X e t) (w : ∀ σ H Q, t' σ H Q → t σ H Q) : PE X e t' := ⟨fun pins s σ H Q I q => h.run pins s σ H Q I (w σ H Q q)⟩
theorem PT.imp {X : Cx} {e : Expr} {t t' : TT} (h : PT X e t) (w : ∀ σ H Q, t' σ H Q → t σ H Q) : PT X e t' := ⟨fun pins s σ H Q I q => h.run pins s σ H Q I (w σ H Q q)⟩
theorem PW.imp {X : Cx} {e : Expr} {t t' : TT} (h : PW X e t) (w : ∀ σ H Q, t' σ H Q → t σ H Q) : PW X e t' := ⟨fun wh pins s σ H Q I q => h.run wh pins s σ H Q I (w σ H Q q)⟩
theorem PS.imp {X : Cx} {e : Stmt} {t t' : TS} (h : PS X e t) (w : ∀ D σ H, t' D σ H → t D σ H) : PS X e t' := ⟨fun pins s σ H D I q => h.run pins s σ H D I (w D σ H q)⟩
theorem PSs.imp {X : Cx} {e : List Stmt} {t t' : TS} (h : PSs X e t) (w : ∀ D σ H, t' D σ H → t D σ H) : PSs X e t' := ⟨fun pins s σ H D I q => h.run pins s σ H D I (w D σ H q)⟩
theorem PI.imp {X : Cx} {tg e : Expr} {t t' : TI} (h : PI X tg e t) (w : ∀ σ H Q, t' σ H Q → t σ H Q) : PI X tg e t' := ⟨fun pins s σ H Q I q => h.run pins s σ H Q I (w σ H Q q)⟩
theorem PA.imp {X : Cx} {e : List Expr} {t t' : TA} (h : PA X e t) (w : ∀ σ H Q, t' σ H Q → t σ H Q) : PA X e t' := ⟨fun pos pins s σ H Q I q => h.run pos pins s σ H Q I (w σ H Q q)⟩
theorem PE.or {X : Cx} {e : Expr} {t t' : TE} (h : PE X e t) (h' : PE X e t') : PE X e (fun σ H Q => t σ H Q ∨ t' σ H Q) := ⟨fun pins s σ H Q I q => q.elim (h.run pins s σ H Q I) (h'.run pins s σ H Q I)⟩
theorem PI.or {X : Cx} {tg e : Expr} {t t' : TI} (h : PI X tg e t) (h' : PI X tg e t') : PI X tg e (fun σ H Q => t σ H Q ∨ t' σ H Q) := ⟨fun pins s σ H Q I q => q.elim (h.run pins s σ H Q I) (h'.run pins s σ H Q I)⟩
theorem PE.em {X : Cx} {e : Expr} : PE X e (fun _ _ _ => False) := ⟨fun _ _ _ _ _ _ q => q.elim⟩
end VL
/-! VLU: == of dicts whose keys are tuples; isinstance of such dicts. -/
namespace VL
open Lean Elab Tactic Meta PySem PySem.Calls PyProof.Rows PyProof.V PySem.Spec PySem.W
section
variable {prog : Program} {w : World} {K : Type} [DecidableEq K] {knd : HeapKind prog w K} {A : Around} {E : Value → Shared → Prop} {s : Shared}
inductive HeqHits {K : Type} [DecidableEq K] (A : Around) (s : Shared) (kb : List (K × Addr × Value)) : List (K × Addr × Value) → Bool → Prop
  | nil : HeqHits A s kb [] true
  | miss {k : K} {a : Addr} {v : Value} {r : List (K × Addr × Value)} : atKey kb k = none → HeqHits A s kb ((k, a, v) :: r) false
  | hit {k : K} {a c : Addr} {v y : Value} {r : List (K × Addr × Value)} {e b : Bool} : atKey kb k = some (c, y) → SeqAt.EqAt A s v y e → HeqHits A s kb r b → HeqHits A s kb ((k, a, v) :: r) (e && b)
theorem HeqHits.inv {kb : List (K × Addr × Value)} {k : K} {a : Addr} {v : Value} {r : List (K × Addr × Value)} {b : Bool} (h : HeqHits A s kb ((k, a, v) :: r) b) :
    (atKey kb k = none ∧ b = false) ∨ ∃ c y e b', atKey kb k = some (c, y) ∧ SeqAt.EqAt A s v y e ∧ HeqHits A s kb r b' ∧ b = (e && b') := by
  cases h with
  | miss hn => exact .inl ⟨hn, rfl⟩
  | hit hy he hr => exact .inr ⟨_, _, _, _, hy, he, hr, rfl⟩
theorem heq_samePairs {nm : String} {a b : Addr} {ka kb : List (K × Addr × Value)} {r : Bool} {Q : Bool → Shared → Prop} (ha : (a == sysModules) = false) (hb : (b == sysModules) = false) (hu : knd.room A)
    (da : s.heap.DictOfH knd a ka) (db : s.heap.DictOfH knd b kb) (hits : ka.length = kb.length → HeqHits A s kb ka r) (h : Q (ka.length == kb.length && r) s) :
    wpAny (model prog w) A (Builtin.Dict.samePairs nm a b) Q E s := by
  obtain ⟨oa, es, ep, hoa, _, hda, hea, hia, _⟩ := da
  obtain ⟨ob, es', ep', hob, _, hdb, heb, hib, hnb⟩ := db
  have hla : ka.length = es.size := (size_of_entries hea).symm
  have hlb : kb.length = es'.size := (size_of_entries heb).symm
  rw [hla, hlb] at h
  unfold Builtin.Dict.samePairs Builtin.Dict.showsAll
  rw [if_neg (show ¬ (a == sysModules) = true by rw [ha]; exact Bool.false_ne_true), if_neg (show ¬ (b == sysModules) = true by rw [hb]; exact Bool.false_ne_true)]
  refine wpAny_bind (wpAny_pure (wpAny_bind (wpAny_pure ?_)))
  refine wpAny_bind (wpAny_dictEntries hoa hda ?_)
  dsimp only
  refine wpAny_bind (wpAny_dictEntries hob hdb ?_)
  by_cases hsz : es.size = es'.size
  case neg =>
    rw [if_pos (by simpa using hsz)]
    have hbf : (es.size == es'.size) = false := by simpa using hsz
    rw [hbf, Bool.false_and] at h
    exact wpAny_bind (wpAny_rule (wpAny_pure h))
  case pos =>
    have h' : Q r s := by simpa [hsz] using h
    have hits' := hits (by rw [hla, hlb]; exact hsz)
    rw [if_neg (by rw [hsz]; simp)]
    refine wpAny_bind (wpAny_dictEpoch hoa hda ?_)
    refine wpAny_bind ?_
    rw [Std.Legacy.Range.forIn_eq_forIn_range']
    simp only [Std.Legacy.Range.size, Nat.sub_zero, Nat.add_sub_cancel, Nat.div_one]
    refine wpAny_forIn_list _
      (fun rest q s' => s' = s ∧ q = (none, ()) ∧ ∃ i, rest = List.range' i (es.size - i) ∧ i ≤ es.size ∧ HeqHits A s kb (ka.drop i) r)
      _ ?_ ?_ _ _ ⟨rfl, rfl, 0, by simp, Nat.zero_le _, hits'⟩
    · rintro x rest q s' ⟨rfl, rfl, i, hr, hi, hpre⟩
      have hlt : i < es.size := by
        rcases Nat.lt_or_ge i es.size with h | h
        · exact h
        · rw [Nat.sub_eq_zero_of_le h] at hr; simp at hr
      obtain ⟨rfl, hrest⟩ : x = i ∧ rest = List.range' (i + 1) (es.size - (i + 1)) := by
        have e : es.size - i = (es.size - (i + 1)) + 1 := by omega
        rw [e, List.range'_succ] at hr
        injection hr with h1 h2
        exact ⟨h1, h2⟩
      refine wpAny_bind (wpAny_dictEntries hoa hda ?_)
      have hlt' : x < ka.length := by rw [hla]; exact hlt
      obtain ⟨k, c, v, hkv⟩ : ∃ k c v, ka[x] = (k, c, v) := ⟨_, _, _, rfl⟩
      have hdrop : ka.drop x = (k, c, v) :: ka.drop (x + 1) := by rw [← hkv]; exact List.drop_eq_getElem_cons hlt'
      have hex : es[x]? = some ⟨knd.hash k, .ref c, v⟩ := by rw [entry_at hea x, List.getElem?_eq_getElem hlt', hkv]; rfl
      have hkey : knd.is s'.heap k c := by
        have z := hia _ (List.getElem_mem hlt')
        rw [hkv] at z
        exact z
      rw [hex]
      rw [hdrop] at hpre
      show wpAny _ _ (holding [Value.ref c, v] _ >>= _) _ _ _
      refine wpAny_bind (wpAny_holding (wpAny_bind (wpAny_dictFind_heap hu hkey hob hdb heb hib hnb (fun hno => ?_) fun j p hj => ?_)))
      · have hn : atKey kb k = none := atKey_none_of_get hno
        rcases hpre.inv with ⟨_, er⟩ | ⟨_, y, _, _, hy, _⟩
        · rw [er] at h'
          refine wpAny_pure ?_
          show wpAny _ _ (if (!false) = true then _ else _) _ _ _
          rw [if_pos (by decide)]
          exact wpAny_pure (wpAny_pure h')
        · rw [hn] at hy; exact nomatch hy
      · have hv' : atKey kb k = some p := atKey_of_get hnb hj
        refine wpAny_bind (wpAny_dictEntries hob hdb ?_)
        rw [entry_at heb j, hj]
        rcases hpre.inv with ⟨hn, _⟩ | ⟨c', y, e, b', hy, he, hrr, er⟩
        · rw [hv'] at hn; exact nomatch hn
        · have ey : p = (c', y) := Option.some.inj (hv'.symm.trans hy)
          subst ey
          refine wpAny_holding (he prog w _ _ ?_)
          cases e with
          | false =>
            rw [er, Bool.false_and] at h'
            show wpAny _ _ (if (!false) = true then _ else _) _ _ _
            rw [if_pos (by decide)]
            exact wpAny_pure (wpAny_pure h')
          | true =>
            rw [Bool.true_and] at er
            rw [← er] at hrr
            show wpAny _ _ (if (!true) = true then _ else _) _ _ _
            rw [if_neg (by decide)]
            refine wpAny_bind (wpAny_dictEpoch hoa hda ?_)
            rw [if_neg (by simp)]
            exact wpAny_pure ⟨rfl, rfl, x + 1, hrest, hlt, hrr⟩
    · rintro q s' ⟨rfl, rfl, i, hr, hi, hpre⟩
      have hin : i = es.size := by
        rcases Nat.lt_or_ge i es.size with h | h
        · have e : es.size - i = (es.size - (i + 1)) + 1 := by omega
          rw [e, List.range'_succ] at hr; exact nomatch hr
        · exact Nat.le_antisymm hi h
      refine wpAny_pure ?_
      rw [hin, ← hla, List.drop_length] at hpre
      cases hpre
      exact h'
theorem heq_eq {a b : Addr} {ka kb : List (K × Addr × Value)} {r : Bool} {Q : Value → Shared → Prop} (ha : (a == sysModules) = false) (hb : (b == sysModules) = false) (hr : knd.room A.in1)
    (da : s.heap.DictOfH knd a ka) (db : s.heap.DictOfH knd b kb) (hu : A.units < cLine) (hits : ka.length = kb.length → HeqHits A.in1 s kb ka r) (h : Q (.bool (ka.length == kb.length && r)) s) :
    wpAny (model prog w) A (compareOp .Eq (.ref a) (.ref b)) Q E s := by
  refine wpAny_richCompare_same_room (op := .Eq) da.typeIs db.typeIs PySem.F.slot_dict_eq (wpAny_call_entry PySem.F.slot_dict_eq da.typeIs PySem.F.entry_dict_eq ?_ (PySem.F.args_dict_eq_2 _ _)) hu
  show wpAny _ _ (Builtin.Dict.dictSlotArgs "__eq__" ⟨[.ref a, .ref b], []⟩ >>= _) _ _ s
  refine wpAny_bind ?_
  unfold Builtin.Dict.dictSlotArgs
  refine wpAny_bind (wpAny_notOrdered_dict da.typeIs ?_)
  show wpAny _ _ (pure (Value.ref a, Value.ref b)) _ _ s
  refine wpAny_pure ?_
  refine wpAny_bind (wpAny_isInstance (T := "dict") db.typeIs PySem.F.sub_dict_dict ?_)
  simp only [Bool.not_true, Bool.false_eq_true, if_false]
  refine wpAny_bind (wpAny_pure (wpAny_bind (wpAny_pure ?_)))
  refine wpAny_bind (heq_samePairs ha hb hr da db hits ?_)
  refine wpAny_pure ⟨_, rfl, ?_, ?_⟩
  · exact fun x => nomatch x
  · simpa using h
theorem heq_ne {a b : Addr} {ka kb : List (K × Addr × Value)} {r : Bool} {Q : Value → Shared → Prop} (ha : (a == sysModules) = false) (hb : (b == sysModules) = false) (hr : knd.room A.in1)
    (da : s.heap.DictOfH knd a ka) (db : s.heap.DictOfH knd b kb) (hu : A.units < cLine) (hits : ka.length = kb.length → HeqHits A.in1 s kb ka r) (h : Q (.bool (!(ka.length == kb.length && r))) s) :
    wpAny (model prog w) A (compareOp .NotEq (.ref a) (.ref b)) Q E s := by
  refine wpAny_richCompare_same_room (op := .NotEq) da.typeIs db.typeIs PySem.F.slot_dict_ne (wpAny_call_entry PySem.F.slot_dict_ne da.typeIs PySem.F.entry_dict_ne ?_ (PySem.F.args_dict_ne_2 _ _)) hu
  show wpAny _ _ (Builtin.Dict.dictSlotArgs "__ne__" ⟨[.ref a, .ref b], []⟩ >>= _) _ _ s
  refine wpAny_bind ?_
  unfold Builtin.Dict.dictSlotArgs
  refine wpAny_bind (wpAny_notOrdered_dict da.typeIs ?_)
  show wpAny _ _ (pure (Value.ref a, Value.ref b)) _ _ s
  refine wpAny_pure ?_
  refine wpAny_bind (wpAny_isInstance (T := "dict") db.typeIs PySem.F.sub_dict_dict ?_)
  simp only [Bool.not_true, Bool.false_eq_true, if_false]
  refine wpAny_bind (wpAny_pure (wpAny_bind (wpAny_pure ?_)))
  refine wpAny_bind (heq_samePairs ha hb hr da db hits ?_)
  refine wpAny_pure ⟨_, rfl, ?_, ?_⟩
  · exact fun x => nomatch x
  · simpa using h
theorem call_dictH {o : Addr} {more : List (K × Addr × Value)} {Q : Value → Shared → Prop} (hu : knd.room A.in1.in1) (hoS : (o == sysModules) = false) (hlt : o < s.heap.objs.size)
    (ho' : (s.heap.push { cls := .type "dict", data := .dict #[] }).DictOfH knd o more) (hty : ∀ x ∈ more, ({ s with heap := s.heap.push { cls := .type "dict", data := .dict #[] } } : Shared).TypeIs (.ref x.2.1) "tuple")
    (hap : (more.map fun x => knd.hash x.1).Nodup) (hsz : more.length ≤ sizeLine)
    (h : ∀ h', h'.DictOfH knd s.heap.objs.size more → Heap.SameBut s.heap.objs.size (s.heap.push { cls := .type "dict", data := .dict #[] }) h' → Q (.ref s.heap.objs.size) { s with heap := h' }) :
    wpAny (model prog w) A (call (.type "dict") [.ref o]) Q E s := by
  refine callType_codes (Q₁ := fun obj s₁ => obj = .ref s.heap.objs.size ∧ s₁ = { s with heap := s.heap.push { cls := .type "dict", data := .dict #[] } }) F.kt_called_dict (F.kt_typeCall_dict_1 _) F.entry_dict_init (kt_code_dict_new _ ⟨rfl, rfl⟩) ?_
  rintro obj s₁ ⟨rfl, rfl⟩
  have hnew : (s.heap.push { cls := .type "dict", data := .dict #[] }).DictOfH knd s.heap.objs.size [] := Heap.DictOfH.new s.heap
  have hn : (more.map (·.1)).Nodup := let ⟨_, _, _, _, _, _, _, _, hn⟩ := ho'; hn
  have hdo : s.heap.objs.size ≠ o := Nat.ne_of_gt hlt
  refine ⟨Heap.DictOfH.typeIs (s := { s with heap := s.heap.push { cls := .type "dict", data := .dict #[] } }) hnew, F.args_dict_init_2 _ _, ?_⟩
  unfold Builtin.«dict.__init__»
  refine wpAny_bind ?_
  unfold Builtin.Dict.selfAndRest
  refine wpAny_bind (wpAny_notOrdered_dict (Heap.DictOfH.typeIs (s := { s with heap := s.heap.push { cls := .type "dict", data := .dict #[] } }) hnew) ?_)
  show wpAny _ _ (pure (s.heap.objs.size, [Value.ref o])) _ _ _
  refine wpAny_pure ?_
  show wpAny _ _ (Builtin.Dict.updateFrom "dict.__init__" s.heap.objs.size (.ref o) [] .none) _ _ _
  unfold Builtin.Dict.updateFrom
  refine wpAny_bind (wpAny_typeOf (Heap.DictOfH.typeIs (s := { s with heap := s.heap.push { cls := .type "dict", data := .dict #[] } }) ho') ?_)
  rw [if_neg (by decide)]
  refine wpAny_bind ?_
  unfold Builtin.Dict.merge
  refine wpAny_bind ?_
  unfold Builtin.Dict.readDirectly
  refine wpAny_bind (wpAny_isInstance (Heap.DictOfH.typeIs (s := { s with heap := s.heap.push { cls := .type "dict", data := .dict #[] } }) ho') isSubtype_dict_dict ?_)
  simp only [Bool.not_true, Bool.false_eq_true, if_false]
  refine wpAny_bind (wpAny_specialOf (Heap.DictOfH.typeIs (s := { s with heap := s.heap.push { cls := .type "dict", data := .dict #[] } }) ho') F.slot_dict_iter.lookup (wpAny_pure ?_))
  simp only [beq_self_eq_true, if_true]
  refine wpAny_bind (wpAny_pure ?_)
  refine wpAny_mergeDict_heap (s := { s with heap := s.heap.push { cls := .type "dict", data := .dict #[] } }) (hsz := by simpa using hsz) hu hdo hoS hnew ho' (.inr ⟨hty, hap⟩) fun h' hd' _ hs' => ?_
  show wpAny _ _ (Builtin.Dict.addKeywords s.heap.objs.size [] >>= _) _ _ _
  rw [storedAllH_nil_of_nodup more hn] at hd'
  exact wpAny_bind (wpAny_pure (wpAny_pure ⟨rfl, h h' hd' hs'⟩))
end
section
variable {X : Cx} {pins : List (Addr × Obj)} {σ : L2.St} {H : Hp} {s : Shared}
open L2
theorem hash_key {P : Program} {w : World} : ∀ {k : List Key} {is : List Int}, intsK k = some is → k.map (mixKind P w).hash = is.map hashInt
  | [], is, h => by cases h; rfl
  | .inr _ :: k, is, h => by cases h
  | .inl i :: k, is, h => by
    have h : (intsK k).map (i :: ·) = some is := h
    cases e : intsK k with
    | none => rw [e] at h; cases h
    | some js =>
      rw [e] at h
      cases h
      rw [List.map_cons, List.map_cons, hash_key e]
      rfl
theorem hash_nd {P : Program} {w : World} {kvs : List (List Key × D)} (h : hashNd kvs = true) : (kvs.map fun p => (tupleKind (mixKind P w)).hash p.1).Nodup := by
  unfold hashNd at h
  split at h
  · rename_i ks e
    have : (kvs.map fun p => (tupleKind (mixKind P w)).hash p.1) = ks.map hashI := by
      clear h
      induction kvs generalizing ks with
      | nil => cases e; rfl
      | cons p kvs ih =>
        rw [List.mapM_cons] at e
        cases e1 : intsK p.1 with
        | none => rw [e1] at e; cases e
        | some is =>
          cases e2 : kvs.mapM (fun p => intsK p.1) with
          | none => rw [e1, e2] at e; cases e
          | some js =>
            rw [e1, e2] at e
            cases e
            rw [List.map_cons, List.map_cons, ih js e2]
            congr 1
            show tupleKeyHash (mixKind P w) p.1 = _
            unfold tupleKeyHash hashI
            rw [hash_key e1]
    rw [this]
    exact of_decide_eq_true h
  · cases h
theorem d_copyOfT {a : Addr} {ks : List (List Key × V)} {Q : Value → Shared → Prop} (hu : X.A.units + 3 < cLine) (I : Inv X pins σ H s) (e : Rd H a (.dT ks)) (hn : (ks.map fun p => (tupleKind (mixKind X.prog X.w)).hash p.1).Nodup)
    (h : ∀ p s', H p = none → Inv X pins σ (upd H p (.dT ks)) s' → Q (.ref p) s') : wpAny (model X.prog X.w) X.A (call (.type "dict") [.ref a]) Q X.xe s := by
  have I2 : Inv X pins σ H { s with heap := s.heap.push { cls := .type "dict", data := .dict #[] } } := I.kept (t' := s.toks) fun b o q => Heap.get?_push_of_some _ q
  obtain ⟨z, hd, xs, rel, dd⟩ := dt_rd I2.hok e
  obtain ⟨_, _, _, _, o, _, _, he, _⟩ := (show ObjOk X.prog X.w H s.heap a (.dT ks) from e.ok I.hok)
  have hk : ∀ {l : List (List Key × V)} {m : List (List Key × Addr × Value)}, KT H l m → (m.map fun x => (tupleKind (mixKind X.prog X.w)).hash x.1) = l.map fun x => (tupleKind (mixKind X.prog X.w)).hash x.1 := by
    intro l m q
    induction q with
    | nil => rfl
    | cons q t ih => rw [List.map_cons, List.map_cons, ih, q.1]
  have hl : ks.length = xs.length := Paired.length rel
  refine call_dictH (knd := tupleKind (mixKind X.prog X.w)) (by show X.A.units + 1 + 1 < cLine; omega) hd (Heap.lt_size he) dd (fun x hx => ?_) (by rw [hk rel]; exact hn) (by rw [← hl]; exact z) fun h' hd' hs' => ?_
  · obtain ⟨_, _, _, _, _, _, _, q, _⟩ := dd
    exact IsTupleKey.typeIs (s := { s with heap := s.heap.push { cls := .type "dict", data := .dict #[] } }) (q x hx)
  · have fr : H s.heap.objs.size = none := I.hok.fresh (Nat.le_refl _)
    obtain ⟨o2, es2, ep2, g1, g2, g3, g4, g5, g6⟩ := hd'
    refine h _ _ fr (I.laid (a := s.heap.objs.size) (o := .dT ks) (t' := s.toks) (fun b q hq => ?_) (Nat.le_refl _) ⟨z, beq_eq_false_iff_ne.mpr (Ne.symm (Nat.ne_of_lt I.big)), xs, Paired.mapP rel fun p q r => ⟨r.1, by rw [upd_ne (ne_of_none r.2.1 fr)]; exact r.2.1, r.2.2⟩, o2, es2, ep2, g1, g2, g3, g4, g6⟩)
    exact (hs'.2 b (Nat.ne_of_lt (Heap.lt_size hq))).trans (Heap.get?_push_of_some _ hq)
end
end VL
/-! VL4: each operation upon data is what the machine does upon values. -/
namespace VL
open PySem PySem.Spec L2

/-- an operation's answer: data as it stood, or one new object -/
inductive Aft (M : Av) (H : Hp) : R → V → Hp → Prop
  | same {d : D} {v : V} : Rep M H d v → Aft M H (.dat d) v H
  | newL {p : Addr} {ds : List D} {xs : List V} : H p = none → RepL M H ds xs → Aft M H (.own (.lst ds)) (.ref p) (upd H p (.lst xs))
  | newT {p : Addr} {ds : List D} {xs : List V} : H p = none → RepL M H ds xs → Aft M H (.dat (.tup ds)) (.ref p) (upd H p (.tup xs))
  | newK {p : Addr} {ds : List (Key × D)} {xs : List (Key × V)} : H p = none → RepK M H ds xs → Aft M H (.own (.dK ds)) (.ref p) (upd H p (.dK xs))
  | newDT {p : Addr} {ds : List (List Key × D)} {xs : List (List Key × V)} : H p = none → RepT M H ds xs → Aft M H (.own (.dT ds)) (.ref p) (upd H p (.dT xs))
theorem Aft.post {F : Fr} {env env' : EnvD} {σ : SV} {H H' H'' : Hp} {r : R} {v : V} (S : Sim F env' σ H') (s : Step env σ H env' σ H') (h : Aft (Mx F env' σ) H' r v H'') : PostE F env σ H r env' v H'' := by
  cases h with
  | same h => exact PostE.dat S s h
  | newL h r => exact PostE.newL S s h r
  | newT h r => exact PostE.newT S s h r
  | newK h r => exact PostE.newK S s h r
  | newDT h r => exact PostE.newDT S s h r

theorem SLeq : sizeLine = SL := sizeLine_eq
theorem RepW.lst {M : Av} {H : Hp} {ds : List D} {x : V} (h : RepW M H (.lst ds) x) : ∃ a xs, x = .ref a ∧ H a = some (.lst xs) ∧ RepL M H ds xs := h
theorem RepW.tup {M : Av} {H : Hp} {ds : List D} {x : V} (h : RepW M H (.tup ds) x) : ∃ a xs, x = .ref a ∧ H a = some (.tup xs) ∧ RepL M H ds xs := h
theorem RepW.scr {M : Av} {H : Hp} {ns : List Int} {x : V} (h : RepW M H (.scr ns) x) : ∃ a, x = .ref a ∧ SqL M.K H a (ns.map V.int) := by
  obtain ⟨a, e, h⟩ := (show Rep M H (.scr ns) x from h)
  exact ⟨a, e, h.elim (fun ⟨o, q, _⟩ => .inl (.inr ⟨o, q⟩)) .inr⟩
/-- a value in a list or tuple, from what the list holds -/
theorem Rep.of_tup {M : Av} {H : Hp} {ds : List D} {a : Addr} {xs : List V} (e : H a = some (.tup xs)) (m : ¬ M a) (r : RepL M H ds xs) : Rep M H (.tup ds) (.ref a) := ⟨a, xs, rfl, e, m, r⟩

section
variable {X : Cx}
def rOpD (o : Op) : R2 := fun x y H Q => ∃ M da db r, RepW M H da x ∧ RepW M H db y ∧ opD o da db = .ok r ∧ (∀ a xs, H a = some (.tup xs) → ¬ M a) ∧ ∀ v H', Aft M H r v H' → Q v H'
theorem chk_bind {α : Type} {b : Bool} {f : Unit → Res α} {a : α} (h : (chk b >>= f) = .ok a) : b = true ∧ f () = .ok a := by
  cases b with
  | true => exact ⟨rfl, h⟩
  | false => cases h
theorem ofO_bind {α β : Type} {o : Option β} {f : β → Res α} {a : α} (h : (ofO o >>= f) = .ok a) : ∃ b, o = some b ∧ f b = .ok a := by
  cases o with
  | none => cases h
  | some b => exact ⟨b, rfl, h⟩

theorem od_add : OpR X (binaryOp .Add) (rOpD .add) := by
  intro pins s σ H x y v u Q I rx ry h
  obtain ⟨M, da, db, r, ha, hb, e, tp, q⟩ := h
  cases da with
  | int i =>
    cases db with
    | int j =>
      cases e
      obtain rfl : x = .int i := ha
      obtain rfl : y = .int j := hb
      exact op_add pins s σ H _ _ v u Q I rx ry ⟨i, j, rfl, rfl, q _ _ (.same rfl)⟩
    | _ => cases e
  | str i =>
    cases db with
    | str j =>
      obtain ⟨c, e⟩ := chk_bind e
      cases e
      obtain rfl : x = .str i := ha
      obtain rfl : y = .str j := hb
      exact op_add_str pins s σ H _ _ v u Q I rx ry ⟨i, j, rfl, rfl, by rw [SLeq]; exact of_decide_eq_true c, q _ _ (.same rfl)⟩
    | _ => cases e
  | lst ds =>
    cases db with
    | lst es =>
      obtain ⟨c, e⟩ := chk_bind e
      cases e
      obtain ⟨a, xs, rfl, h1, r1⟩ := ha.lst
      obtain ⟨b, ys, rfl, h2, r2⟩ := hb.lst
      refine op_cat pins s σ H _ _ v u Q I rx ry ⟨a, b, xs, ys, rfl, rfl, h1, h2, ?_, fun p hp => q _ _ (.newL hp (r1.app r2))⟩
      rw [SLeq, r1.length, r2.length]; exact of_decide_eq_true c
    | _ => cases e
  | tup ds =>
    cases db with
    | tup es =>
      obtain ⟨c, e⟩ := chk_bind e
      cases e
      obtain ⟨a, xs, rfl, h1, r1⟩ := ha.tup
      obtain ⟨b, ys, rfl, h2, r2⟩ := hb.tup
      refine op_catA pins s σ H _ _ v u Q I rx ry ⟨a, b, xs, ys, rfl, rfl, .of h1, .of h2, ?_, fun z => ?_, fun z1 z => ?_, fun _ _ p hp => q _ _ (.newT hp (r1.app r2))⟩
      · rw [SLeq, r1.length, r2.length]; exact of_decide_eq_true c
      · have : ds = [] := by
          have l := r1.length
          rw [z] at l
          exact List.eq_nil_of_length_eq_zero l.symm
        subst this
        exact q _ _ (.same (Rep.of_tup h2 (tp _ _ h2) r2))
      · have : es = [] := by
          have l := r2.length
          rw [z] at l
          exact List.eq_nil_of_length_eq_zero l.symm
        subst this
        refine q _ _ (.same ?_)
        rw [List.append_nil]
        exact Rep.of_tup h1 (tp _ _ h1) r1
    | _ => cases e
  | _ => cases db <;> cases e
theorem od_sub : OpR X (binaryOp .Sub) (rOpD .sub) := by
  intro pins s σ H x y v u Q I rx ry h
  obtain ⟨M, da, db, r, ha, hb, e, tp, q⟩ := h
  cases da with
  | int i =>
    cases db with
    | int j =>
      cases e
      obtain rfl : x = .int i := ha
      obtain rfl : y = .int j := hb
      exact op_sub pins s σ H _ _ v u Q I rx ry ⟨i, j, rfl, rfl, q _ _ (.same rfl)⟩
    | _ => cases e
  | _ => cases db <;> cases e
theorem natAbs_lt {i : Int} (h : i.natAbs < 18446744073709551616) : -(2 ^ 64) < i ∧ i < 2 ^ 64 := by
  constructor <;> omega
theorem od_mul : OpR X (binaryOp .Mult) (rOpD .mul) := by
  intro pins s σ H x y v u Q I rx ry h
  obtain ⟨M, da, db, r, ha, hb, e, tp, q⟩ := h
  cases da with
  | int i =>
    cases db with
    | int j =>
      obtain ⟨c, e⟩ := chk_bind e
      cases e
      obtain rfl : x = .int i := ha
      obtain rfl : y = .int j := hb
      unfold mulOk at c
      simp only [Bool.or_eq_true, decide_eq_true_eq] at c
      rcases c with (c | c) | c
      · exact op_mul pins s σ H _ _ v u Q I rx ry ⟨i, j, rfl, rfl, .inl (natAbs_lt c), q _ _ (.same rfl)⟩
      · exact op_mul pins s σ H _ _ v u Q I rx ry ⟨i, j, rfl, rfl, .inr (natAbs_lt c), q _ _ (.same rfl)⟩
      · exact op_mulX pins s σ H _ _ v u Q I rx ry ⟨i, j, rfl, rfl, c, q _ _ (.same rfl)⟩
    | _ => cases e
  | lst ds =>
    cases db with
    | int k =>
      obtain ⟨c, e⟩ := chk_bind e
      cases e
      obtain ⟨a, xs, rfl, h1, r1⟩ := ha.lst
      obtain rfl : y = .int k := hb
      simp only [Bool.and_eq_true, decide_eq_true_eq] at c
      refine op_rep pins s σ H _ _ v u Q I rx ry ⟨a, k, xs, rfl, rfl, h1, by omega, by omega, ?_, fun p hp => q _ _ (.newL hp (r1.rep k.toNat))⟩
      rw [SLeq, r1.length]; exact c.2
    | _ => cases e
  | tup ds =>
    cases db with
    | int k =>
      obtain ⟨c, e⟩ := chk_bind e
      cases e
      obtain ⟨a, xs, rfl, h1, r1⟩ := ha.tup
      obtain rfl : y = .int k := hb
      obtain ⟨c1, c2⟩ := Bool.and_eq_true_iff.mp c
      obtain ⟨c2, c3⟩ := Bool.and_eq_true_iff.mp c2
      obtain ⟨c3, c4⟩ := Bool.and_eq_true_iff.mp c3
      have c2 := of_decide_eq_true c2
      have c3 := of_decide_eq_true c3
      have c4 := of_decide_eq_true c4
      refine op_repT pins s σ H _ _ v u Q I rx ry ⟨a, k, xs, rfl, rfl, .of h1, fun z => ?_, c2, c3, by rw [r1.length]; exact c4, fun p hp => q _ _ (.newT hp (r1.rep k.toNat))⟩
      subst z
      have l := r1.length
      cases ds with
      | nil => cases c1
      | cons d ds => cases l
    | _ => cases e
  | _ => cases db <;> cases e
theorem od_fdiv : OpR X (binaryOp .FloorDiv) (rOpD .fdiv) := by
  intro pins s σ H x y v u Q I rx ry h
  obtain ⟨M, da, db, r, ha, hb, e, tp, q⟩ := h
  cases da with
  | int i =>
    cases db with
    | int j =>
      obtain ⟨c, e⟩ := chk_bind e
      cases e
      obtain rfl : x = .int i := ha
      obtain rfl : y = .int j := hb
      simp only [Bool.and_eq_true, Bool.or_eq_true, decide_eq_true_eq, Bool.not_eq_true'] at c
      obtain ⟨c0, c | c⟩ := c
      · exact op_fdiv pins s σ H _ _ v u Q I rx ry ⟨i, j, rfl, rfl, ⟨c0, c⟩, q _ _ (.same rfl)⟩
      · refine opI (C := CDivP) (g := fun i j => i / j) (fun i j _ _ _ _ _ hc q => ?_) pins s σ H _ _ v u Q I rx ry ⟨i, j, rfl, rfl, ⟨c0, c⟩, q _ _ (.same rfl)⟩
        have h1 : (0 : Int) < j := hc.1
        exact PyProof.Rows.floordiv_int (by omega) (by rw [Int.fdiv_eq_ediv_of_nonneg i (by omega)]; exact q) (.inl hc.2)
    | _ => cases e
  | _ => cases db <;> cases e
theorem od_mod : OpR X (binaryOp .Mod) (rOpD .mod) := by
  intro pins s σ H x y v u Q I rx ry h
  obtain ⟨M, da, db, r, ha, hb, e, tp, q⟩ := h
  cases da with
  | int i =>
    cases db with
    | int j =>
      obtain ⟨c, e⟩ := chk_bind e
      cases e
      obtain rfl : x = .int i := ha
      obtain rfl : y = .int j := hb
      exact op_mod pins s σ H _ _ v u Q I rx ry ⟨i, j, rfl, rfl, of_decide_eq_true c, q _ _ (.same rfl)⟩
    | _ => cases e
  | _ => cases db <;> cases e
theorem cpow_of {i j : Int} (c : (decide (0 ≤ j) && decide (j ≤ 1000000) && decide (i.natAbs < 18446744073709551616)) = true) : CPow i j := by
  simp only [Bool.and_eq_true, decide_eq_true_eq] at c
  exact ⟨c.1.1, c.1.2, c.2⟩
theorem od_pow : OpR X (binaryOp .Pow) (rOpD .pow) := by
  intro pins s σ H x y v u Q I rx ry h
  obtain ⟨M, da, db, r, ha, hb, e, tp, q⟩ := h
  cases da with
  | int i =>
    cases db with
    | int j =>
      obtain ⟨c, e⟩ := chk_bind e
      cases e
      obtain rfl : x = .int i := ha
      obtain rfl : y = .int j := hb
      exact op_pow pins s σ H _ _ v u Q I rx ry ⟨i, j, rfl, rfl, cpow_of c, q _ _ (.same rfl)⟩
    | _ => cases e
  | _ => cases db <;> cases e
theorem od_shl : OpR X (binaryOp .LShift) (rOpD .shl) := by
  intro pins s σ H x y v u Q I rx ry h
  obtain ⟨M, da, db, r, ha, hb, e, tp, q⟩ := h
  cases da with
  | int i =>
    cases db with
    | int j =>
      obtain ⟨c, e⟩ := chk_bind e
      cases e
      obtain rfl : x = .int i := ha
      obtain rfl : y = .int j := hb
      exact op_shl pins s σ H _ _ v u Q I rx ry ⟨i, j, rfl, rfl, cpow_of c, q _ _ (.same rfl)⟩
    | _ => cases e
  | _ => cases db <;> cases e
theorem od_shr : OpR X (binaryOp .RShift) (rOpD .shr) := by
  intro pins s σ H x y v u Q I rx ry h
  obtain ⟨M, da, db, r, ha, hb, e, tp, q⟩ := h
  cases da with
  | int i =>
    cases db with
    | int j =>
      obtain ⟨c, e⟩ := chk_bind e
      cases e
      obtain rfl : x = .int i := ha
      obtain rfl : y = .int j := hb
      exact op_shr pins s σ H _ _ v u Q I rx ry ⟨i, j, rfl, rfl, of_decide_eq_true c, q _ _ (.same rfl)⟩
    | _ => cases e
  | _ => cases db <;> cases e
theorem od_band : OpR X (binaryOp .BitAnd) (rOpD .band) := by
  intro pins s σ H x y v u Q I rx ry h
  obtain ⟨M, da, db, r, ha, hb, e, tp, q⟩ := h
  cases da with
  | int i =>
    cases db with
    | int j =>
      cases e
      obtain rfl : x = .int i := ha
      obtain rfl : y = .int j := hb
      exact op_and pins s σ H _ _ v u Q I rx ry ⟨i, j, rfl, rfl, q _ _ (.same rfl)⟩
    | _ => cases e
  | _ => cases db <;> cases e
def opB : Op → Operator
  | .add => .Add | .sub => .Sub | .mul => .Mult | .fdiv => .FloorDiv | .mod => .Mod | .pow => .Pow | .shl => .LShift | .shr => .RShift | .band => .BitAnd
theorem od_all (o : Op) : OpR X (binaryOp (opB o)) (rOpD o) := by
  cases o
  · exact od_add
  · exact od_sub
  · exact od_mul
  · exact od_fdiv
  · exact od_mod
  · exact od_pow
  · exact od_shl
  · exact od_shr
  · exact od_band

/-! ### data compared -/
mutual
theorem Rep.dp {K : PySem.W.Frag} {M : Av} {H : Hp} : ∀ {d : D} {v : V} {n : Nat}, Rep M H d v → d.fit n = true → Dp K H v d.py
  | .non, _, _, h, _ => by rw [show _ = V.non from h]; exact .non
  | .bl b, _, _, h, _ => by rw [show _ = V.bl b from h]; exact .bl b
  | .int b, _, _, h, _ => by rw [show _ = V.int b from h]; exact .int b
  | .str b, _, _, h, _ => by rw [show _ = V.str b from h]; exact .str b
  | .tup ds, _, n + 1, ⟨a, xs, e, h, m, r⟩, f => by rw [e]; exact .tup (.of h) (RepL.dp (n := n) r f)
  | .lst ds, _, n + 1, ⟨a, xs, e, h, m, r⟩, f => by rw [e]; exact .lst (.of h) (RepL.dp (n := n) r f)
  | .tup _, _, 0, _, f => by cases f
  | .lst _, _, 0, _, f => by cases f
  | .dK _, _, _, _, f => by cases f
  | .dT _, _, _, _, f => by cases f
  | .scr _, _, _, _, f => by cases f
termination_by structural d => d
theorem RepL.dp {K : PySem.W.Frag} {M : Av} {H : Hp} : ∀ {ds : List D} {xs : List V} {n : Nat}, RepL M H ds xs → D.fitL ds n = true → DpAll K H xs (D.pyL ds)
  | [], _, _, h, _ => by rw [show _ = [] from h]; exact .nil
  | d :: ds, _, n, ⟨v, vs, e, h, r⟩, f => by
    have f' : (d.fit n && D.fitL ds n) = true := f
    obtain ⟨f1, f2⟩ := Bool.and_eq_true_iff.mp f'
    rw [e]
    exact .cons (Rep.dp h f1) (RepL.dp r f2)
termination_by structural d => d
end
theorem RepW.dp {K : PySem.W.Frag} {M : Av} {H : Hp} {d : D} {v : V} {n : Nat} (h : RepW M H d v) (f : d.fit n = true) : Dp K H v d.py := by
  cases d with
  | tup ds =>
    obtain ⟨a, xs, rfl, h, r⟩ := h
    cases n with
    | zero => cases f
    | succ n => exact .tup (.of h) (r.dp (n := n) f)
  | lst ds =>
    obtain ⟨a, xs, rfl, h, r⟩ := h
    cases n with
    | zero => cases f
    | succ n => exact .lst (.of h) (r.dp (n := n) f)
  | dK ds => cases f
  | dT ds => cases f
  | scr ds => cases f
  | non => exact Rep.dp (M := M) (n := n) (show Rep M H .non v from h) f
  | bl b => exact Rep.dp (M := M) (n := n) (show Rep M H (.bl b) v from h) f
  | int b => exact Rep.dp (M := M) (n := n) (show Rep M H (.int b) v from h) f
  | str b => exact Rep.dp (M := M) (n := n) (show Rep M H (.str b) v from h) f
mutual
theorem fit_lay : ∀ {d : D} {n : Nat}, d.fit n = true → d.py.canLay0 = true ∧ d.py.depth ≤ n + 1
  | .non, _, _ => ⟨rfl, by simp [D.py, PyData.depth]⟩
  | .bl _, _, _ => ⟨rfl, by simp [D.py, PyData.depth]⟩
  | .int _, _, _ => ⟨rfl, by simp [D.py, PyData.depth]⟩
  | .str _, _, f => ⟨by simpa [D.py, PyData.canLay0, D.fit] using f, by simp [D.py, PyData.depth]⟩
  | .tup ds, n + 1, f => by
    obtain ⟨a, b⟩ := fit_layL (ds := ds) (n := n) f
    exact ⟨by simpa [D.py, PyData.canLay0] using a, by simp only [D.py, PyData.depth]; omega⟩
  | .lst ds, n + 1, f => by
    obtain ⟨a, b⟩ := fit_layL (ds := ds) (n := n) f
    exact ⟨by simpa [D.py, PyData.canLay0] using a, by simp only [D.py, PyData.depth]; omega⟩
  | .tup _, 0, f => by cases f
  | .lst _, 0, f => by cases f
  | .dK _, _, f => by cases f
  | .dT _, _, f => by cases f
  | .scr _, _, f => by cases f
termination_by structural d => d
theorem fit_layL : ∀ {ds : List D} {n : Nat}, D.fitL ds n = true → PyData.canLayAll0 (D.pyL ds) = true ∧ PyData.depthAll (D.pyL ds) ≤ n + 1
  | [], _, _ => ⟨rfl, by simp [D.pyL, PyData.depthAll]⟩
  | d :: ds, n, f => by
    have f' : (d.fit n && D.fitL ds n) = true := f
    obtain ⟨f1, f2⟩ := Bool.and_eq_true_iff.mp f'
    obtain ⟨a, b⟩ := fit_lay f1
    obtain ⟨a', b'⟩ := fit_layL f2
    exact ⟨by simp [D.pyL, PyData.canLayAll0, a, a'], by simp only [D.pyL, PyData.depthAll]; omega⟩
termination_by structural d => d
end
theorem fit_shaped {d : D} (f : d.fit 50 = true) : SeqAt.shaped d.py = true := by
  obtain ⟨a, b⟩ := fit_lay f
  unfold SeqAt.shaped
  rw [a, decide_eq_true (by omega : d.py.depth ≤ 64)]
  rfl
theorem pyL_any (x : PyData) : ∀ ds : List D, ((D.pyL ds).any fun z => PyData.eqv z x) = ds.any fun z => PyData.eqv z.py x
  | [] => rfl
  | d :: ds => by
    rw [List.any_cons, ← pyL_any x ds]
    rfl
def rCmD (K : PySem.W.Frag) (c : Cm) : R2 := fun x y H Q => ∃ M da db r, RepW M H da x ∧ RepW M H db y ∧ cmD c da db = .ok r ∧ M.K = K ∧ Q (.bl r) H
/-! ### dicts compared -/
/-- a value that reads as data -/
def Fits (H : Hp) (d : D) (u : Value) : Prop := d.fit 50 = true ∧ ∃ (M : Av) (v : V), RelV v u ∧ Rep M H d v
def FitK (H : Hp) (xs : List (Key × D)) (vs : List (Key × Value)) : Prop := Paired (fun p q => p.1 = q.1 ∧ Fits H p.2 q.2) xs vs
def FitT (H : Hp) (xs : List (List Key × D)) (vs : List (List Key × Addr × Value)) : Prop := Paired (fun p q => p.1 = q.1 ∧ Fits H p.2 q.2.2) xs vs
theorem RepK.fits {M : Av} {H : Hp} : ∀ {xs : List (Key × D)} {ks : List (Key × V)} {vs : List (Key × Value)}, RepK M H xs ks → KV ks vs → fitV xs = true → FitK H xs vs
  | [], _, _, r, k, _ => by
    rw [show _ = [] from r] at k
    cases k
    exact .nil
  | (k0, d) :: xs, _, _, ⟨v, ks, e, h, r⟩, k, f => by
    subst e
    have f' : (d.fit 50 && fitV xs) = true := f
    obtain ⟨f1, f2⟩ := Bool.and_eq_true_iff.mp f'
    cases k with
    | cons q t => exact .cons ⟨q.1, f1, M, v, q.2, h⟩ (RepK.fits r t f2)
theorem RepT.fits {M : Av} {H : Hp} : ∀ {xs : List (List Key × D)} {ks : List (List Key × V)} {vs : List (List Key × Addr × Value)}, RepT M H xs ks → KT H ks vs → fitV xs = true → FitT H xs vs
  | [], _, _, r, k, _ => by
    rw [show _ = [] from r] at k
    cases k
    exact .nil
  | (k0, d) :: xs, _, _, ⟨v, ks, e, h, r⟩, k, f => by
    subst e
    have f' : (d.fit 50 && fitV xs) = true := f
    obtain ⟨f1, f2⟩ := Bool.and_eq_true_iff.mp f'
    cases k with
    | cons q t => exact .cons ⟨q.1, f1, M, v, q.2.2, h⟩ (RepT.fits r t f2)
theorem FitK.at {H : Hp} (k : Key) : ∀ {xs : List (Key × D)} {vs : List (Key × Value)}, FitK H xs vs → (look xs k = none ∧ valueAt vs k = none) ∨ ∃ d u, look xs k = some d ∧ valueAt vs k = some u ∧ Fits H d u
  | _, _, .nil => .inl ⟨rfl, rfl⟩
  | _, _, .cons (a := p) (b := q) r t => by
    obtain ⟨k1, d⟩ := p
    obtain ⟨k2, u⟩ := q
    obtain ⟨e, r⟩ := r
    have e : k1 = k2 := e
    subst e
    by_cases z : k1 = k
    · exact .inr ⟨d, u, by simp [look, List.find?_cons, z], by simp [valueAt, List.find?_cons, z], r⟩
    · rcases FitK.at k t with ⟨h1, h2⟩ | ⟨d', u', h1, h2, h3⟩
      · exact .inl ⟨by simpa [look, List.find?_cons, z] using h1, by simpa [valueAt, List.find?_cons, z] using h2⟩
      · exact .inr ⟨d', u', by simpa [look, List.find?_cons, z] using h1, by simpa [valueAt, List.find?_cons, z] using h2, h3⟩
theorem FitT.at {H : Hp} (k : List Key) : ∀ {xs : List (List Key × D)} {vs : List (List Key × Addr × Value)}, FitT H xs vs → (look xs k = none ∧ atKey vs k = none) ∨ ∃ d c u, look xs k = some d ∧ atKey vs k = some (c, u) ∧ Fits H d u
  | _, _, .nil => .inl ⟨rfl, rfl⟩
  | _, _, .cons (a := p) (b := q) r t => by
    obtain ⟨k1, d⟩ := p
    obtain ⟨k2, c, u⟩ := q
    obtain ⟨e, r⟩ := r
    have e : k1 = k2 := e
    subst e
    by_cases z : k1 = k
    · exact .inr ⟨d, c, u, by simp [look, List.find?_cons, z], by simp [atKey, List.find?_cons, z], r⟩
    · rcases FitT.at k t with ⟨h1, h2⟩ | ⟨d', c', u', h1, h2, h3⟩
      · exact .inl ⟨by simpa [look, List.find?_cons, z] using h1, by simpa [atKey, List.find?_cons, z] using h2⟩
      · exact .inr ⟨d', c', u', by simpa [look, List.find?_cons, z] using h1, by simpa [atKey, List.find?_cons, z] using h2, h3⟩
def eqAtK {κ : Type} [DecidableEq κ] (ys : List (κ × D)) (p : κ × D) : Bool := match look ys p.1 with
  | some d => D.eqv p.2 d
  | none => false
section
variable {pins : List (Addr × Obj)} {σ : L2.St} {H : Hp} {s : Shared} {A : Around}
theorem Fits.eq (I : Inv X pins σ H s) {d e : D} {v u : Value} (a : Fits H d v) (b : Fits H e u) (hu : A.in1.units + 64 < cLine) : SeqAt.EqAt A.in1 s v u (D.eqv d e) := by
  obtain ⟨f1, M, x, rx, hd⟩ := a
  obtain ⟨f2, M', y, ry, he⟩ := b
  obtain ⟨as, r1⟩ := Dp.reads I d.py x v (hd.dp f1) rx
  obtain ⟨bs, r2⟩ := Dp.reads I e.py y u (he.dp f2) ry
  exact PySem.W.keq_at r1 r2 (fit_shaped f1) (fit_shaped f2) hu
theorem FitK.hits (I : Inv X pins σ H s) (hu : A.in1.units + 64 < cLine) {ys : List (Key × D)} {ws : List (Key × Value)} (b : FitK H ys ws) : ∀ {xs : List (Key × D)} {vs : List (Key × Value)}, FitK H xs vs → PySem.W.KeqHits A.in1 s ws vs (xs.all (eqAtK ys))
  | _, _, .nil => .nil
  | _, _, .cons (a := p) (b := q) r t => by
    obtain ⟨k1, d⟩ := p
    obtain ⟨k2, u⟩ := q
    obtain ⟨e, r⟩ := r
    have e : k1 = k2 := e
    subst e
    rw [List.all_cons]
    unfold eqAtK
    dsimp only
    rcases FitK.at k1 b with ⟨h1, h2⟩ | ⟨d', u', h1, h2, h3⟩
    · rw [h1, Bool.false_and]
      exact .miss h2
    · rw [h1]
      exact .hit h2 (r.eq I h3 hu) (FitK.hits I hu b t)
theorem FitT.hits (I : Inv X pins σ H s) (hu : A.in1.units + 64 < cLine) {ys : List (List Key × D)} {ws : List (List Key × Addr × Value)} (b : FitT H ys ws) : ∀ {xs : List (List Key × D)} {vs : List (List Key × Addr × Value)}, FitT H xs vs → HeqHits A.in1 s ws vs (xs.all (eqAtK ys))
  | _, _, .nil => .nil
  | _, _, .cons (a := p) (b := q) r t => by
    obtain ⟨k1, d⟩ := p
    obtain ⟨k2, c, u⟩ := q
    obtain ⟨e, r⟩ := r
    have e : k1 = k2 := e
    subst e
    rw [List.all_cons]
    unfold eqAtK
    dsimp only
    rcases FitT.at k1 b with ⟨h1, h2⟩ | ⟨d', c', u', h1, h2, h3⟩
    · rw [h1, Bool.false_and]
      exact .miss h2
    · rw [h1]
      exact .hit h2 (r.eq I h3 hu) (FitT.hits I hu b t)
end
theorem paired_len {α β : Type} {F : α → β → Prop} {l : List α} {m : List β} (p : Paired F l m) : l.length = m.length := Paired.length p
theorem eqK_eq {κ : Type} [DecidableEq κ] (xs ys : List (κ × D)) : eqK xs ys = (xs.length == ys.length && xs.all (eqAtK ys)) := rfl
theorem eqD_ok {a b : D} {r : Bool} (h : eqD a b = .ok r) : (a.fit 50 = true ∧ b.fit 50 = true ∧ r = D.eqv a b) ∨
    (∃ xs ys, a = .dK xs ∧ b = .dK ys ∧ fitV xs = true ∧ fitV ys = true ∧ r = eqK xs ys) ∨ ∃ xs ys, a = .dT xs ∧ b = .dT ys ∧ fitV xs = true ∧ fitV ys = true ∧ r = eqK xs ys := by
  unfold eqD at h
  split at h
  · obtain ⟨c, e⟩ := chk_bind h
    obtain ⟨c1, c2⟩ := Bool.and_eq_true_iff.mp c
    cases e
    exact .inr (.inl ⟨_, _, rfl, rfl, c1, c2, rfl⟩)
  · obtain ⟨c, e⟩ := chk_bind h
    obtain ⟨c1, c2⟩ := Bool.and_eq_true_iff.mp c
    cases e
    exact .inr (.inr ⟨_, _, rfl, rfl, c1, c2, rfl⟩)
  · obtain ⟨c, e⟩ := chk_bind h
    obtain ⟨c1, c2⟩ := Bool.and_eq_true_iff.mp c
    cases e
    exact .inl ⟨c1, c2, rfl⟩
theorem cd_eq (hu : X.A.units + 65 < cLine) : OpR X (compareOp .Eq) (rCmD X.K .eq) := by
  intro pins s σ H x y v u Q I rx ry h
  obtain ⟨M, da, db, r, ha, hb, e, hk, q⟩ := h
  have hu1 : X.A.in1.units + 64 < cLine := by show X.A.units + 1 + 64 < cLine; omega
  rcases eqD_ok e with ⟨f1, f2, rfl⟩ | ⟨xs, ys, rfl, rfl, f1, f2, rfl⟩ | ⟨xs, ys, rfl, rfl, f1, f2, rfl⟩
  · exact op_eqD (by omega) pins s σ H x y v u Q I rx ry ⟨da.py, db.py, ha.dp f1, hb.dp f2, fit_shaped f1, fit_shaped f2, q⟩
  · obtain ⟨a, ks, rfl, h1, r1⟩ := ha
    obtain ⟨b, ks', rfl, h2, r2⟩ := hb
    obtain rfl : v = .ref a := rx
    obtain rfl : u = .ref b := ry
    obtain ⟨_, hs, vs, kv, dd⟩ := dk_rd I.hok h1
    obtain ⟨_, hs', vs', kv', dd'⟩ := dk_rd I.hok h2
    have g1 := r1.fits kv f1
    have g2 := r2.fits kv' f2
    refine PySem.W.keq_eq hs hs' dd dd' (by omega) (fun _ => FitK.hits I hu1 g2 g1) ⟨.bl _, H, I, rfl, ?_⟩
    rw [← paired_len g1, ← paired_len g2, ← eqK_eq]
    exact q
  · obtain ⟨a, ks, rfl, h1, r1⟩ := ha
    obtain ⟨b, ks', rfl, h2, r2⟩ := hb
    obtain rfl : v = .ref a := rx
    obtain rfl : u = .ref b := ry
    obtain ⟨_, hs, vs, kv, dd⟩ := dt_rd I.hok h1
    obtain ⟨_, hs', vs', kv', dd'⟩ := dt_rd I.hok h2
    have g1 := r1.fits kv f1
    have g2 := r2.fits kv' f2
    refine heq_eq hs hs' (by show X.A.units + 1 < cLine; omega) dd dd' (by omega) (fun _ => FitT.hits I hu1 g2 g1) ⟨.bl _, H, I, rfl, ?_⟩
    rw [← paired_len g1, ← paired_len g2, ← eqK_eq]
    exact q
theorem cd_ne (hu : X.A.units + 65 < cLine) : OpR X (compareOp .NotEq) (rCmD X.K .ne) := by
  intro pins s σ H x y v u Q I rx ry h
  obtain ⟨M, da, db, r, ha, hb, e, hk, q⟩ := h
  obtain ⟨r0, e1, e2⟩ := Res.bind_ok e
  cases e2
  have hu1 : X.A.in1.units + 64 < cLine := by show X.A.units + 1 + 64 < cLine; omega
  rcases eqD_ok e1 with ⟨f1, f2, rfl⟩ | ⟨xs, ys, rfl, rfl, f1, f2, rfl⟩ | ⟨xs, ys, rfl, rfl, f1, f2, rfl⟩
  · exact op_neD (by omega) pins s σ H x y v u Q I rx ry ⟨da.py, db.py, ha.dp f1, hb.dp f2, fit_shaped f1, fit_shaped f2, q⟩
  · obtain ⟨a, ks, rfl, h1, r1⟩ := ha
    obtain ⟨b, ks', rfl, h2, r2⟩ := hb
    obtain rfl : v = .ref a := rx
    obtain rfl : u = .ref b := ry
    obtain ⟨_, hs, vs, kv, dd⟩ := dk_rd I.hok h1
    obtain ⟨_, hs', vs', kv', dd'⟩ := dk_rd I.hok h2
    have g1 := r1.fits kv f1
    have g2 := r2.fits kv' f2
    refine PySem.W.keq_ne hs hs' dd dd' (by omega) (fun _ => FitK.hits I hu1 g2 g1) ⟨.bl _, H, I, rfl, ?_⟩
    rw [← paired_len g1, ← paired_len g2, ← eqK_eq]
    exact q
  · obtain ⟨a, ks, rfl, h1, r1⟩ := ha
    obtain ⟨b, ks', rfl, h2, r2⟩ := hb
    obtain rfl : v = .ref a := rx
    obtain rfl : u = .ref b := ry
    obtain ⟨_, hs, vs, kv, dd⟩ := dt_rd I.hok h1
    obtain ⟨_, hs', vs', kv', dd'⟩ := dt_rd I.hok h2
    have g1 := r1.fits kv f1
    have g2 := r2.fits kv' f2
    refine heq_ne hs hs' (by show X.A.units + 1 < cLine; omega) dd dd' (by omega) (fun _ => FitT.hits I hu1 g2 g1) ⟨.bl _, H, I, rfl, ?_⟩
    rw [← paired_len g1, ← paired_len g2, ← eqK_eq]
    exact q
theorem ltI_ok {f : Int → Int → Bool} {a b : D} {r : Bool} (h : ltI f a b = .ok r) : ∃ i j, a = .int i ∧ b = .int j ∧ r = f i j := by
  cases a with
  | int i =>
    cases b with
    | int j => cases h; exact ⟨i, j, rfl, rfl, rfl⟩
    | _ => cases h
  | _ => cases b <;> cases h
theorem cd_int {c : Cm} {op : CmpOp} {f : Int → Int → Bool} (hc : ∀ a b, cmD c a b = ltI f a b) (ho : OpR X (compareOp op) (rI0 fun i j => .bl (f i j))) : OpR X (compareOp op) (rCmD X.K c) := by
  intro pins s σ H x y v u Q I rx ry h
  obtain ⟨M, da, db, r, ha, hb, e, hk, q⟩ := h
  rw [hc] at e
  obtain ⟨i, j, rfl, rfl, rfl⟩ := ltI_ok e
  exact ho pins s σ H x y v u Q I rx ry ⟨i, j, ha, hb, q⟩
theorem cd_isn : OpR X (compareOp .Is) (rCmD X.K .isn) := by
  intro pins s σ H x y v u Q I rx ry h
  obtain ⟨M, da, db, r, ha, hb, e, hk, q⟩ := h
  cases db with
  | non =>
    obtain rfl : y = .non := hb
    refine op_isN pins s σ H x _ v u Q I rx ry ⟨rfl, ?_⟩
    cases da with
    | non =>
      obtain rfl : x = .non := ha
      cases e; exact q
    | bl b =>
      obtain rfl : x = .bl b := ha
      cases e; exact q
    | int b =>
      obtain rfl : x = .int b := ha
      cases e; exact q
    | str b =>
      obtain rfl : x = .str b := ha
      cases e; exact q
    | tup ds =>
      obtain ⟨a, _, rfl, _⟩ := ha.tup
      cases e; exact q
    | lst ds =>
      obtain ⟨a, _, rfl, _⟩ := ha.lst
      cases e; exact q
    | dK ds =>
      obtain ⟨a, _, rfl, _⟩ := ha
      cases e; exact q
    | dT ds =>
      obtain ⟨a, _, rfl, _⟩ := ha
      cases e; exact q
    | scr ds =>
      obtain ⟨a, rfl, _⟩ := ha
      cases e; exact q
  | bl k =>
    obtain rfl : y = .bl k := hb
    cases (show u = Value.bool k from ry)
    cases da with
    | bl b =>
      obtain rfl : x = .bl b := ha
      cases (show v = Value.bool b from rx)
      cases e
      by_cases z : b = k
      · subst z
        exact wpAny_is_self rfl (fin_bl I q (by simp))
      · exact wpAny_is_other rfl (fun w => z (Value.bool.inj w)) (fin_bl I q (by simp [z]))
    | non =>
      obtain rfl : x = .non := ha
      cases (show v = Value.none from rx)
      cases e
      exact wpAny_is_other rfl (fun w => by cases w) (fin_bl I q rfl)
    | int b =>
      obtain rfl : x = .int b := ha
      obtain ⟨t, rfl⟩ := rx
      cases e
      exact wpAny_is_other rfl (fun w => by cases w) (fin_bl I q rfl)
    | str b =>
      obtain rfl : x = .str b := ha
      obtain ⟨t, rfl⟩ := rx
      cases e
      exact wpAny_is_other rfl (fun w => by cases w) (fin_bl I q rfl)
    | tup ds =>
      obtain ⟨a, _, rfl, _⟩ := ha.tup
      cases rx
      cases e
      exact wpAny_is_other rfl (fun w => by cases w) (fin_bl I q rfl)
    | lst ds =>
      obtain ⟨a, _, rfl, _⟩ := ha.lst
      cases rx
      cases e
      exact wpAny_is_other rfl (fun w => by cases w) (fin_bl I q rfl)
    | dK ds =>
      obtain ⟨a, _, rfl, _⟩ := ha
      cases rx
      cases e
      exact wpAny_is_other rfl (fun w => by cases w) (fin_bl I q rfl)
    | dT ds =>
      obtain ⟨a, _, rfl, _⟩ := ha
      cases rx
      cases e
      exact wpAny_is_other rfl (fun w => by cases w) (fin_bl I q rfl)
    | scr ds =>
      obtain ⟨a, rfl, _⟩ := ha
      cases rx
      cases e
      exact wpAny_is_other rfl (fun w => by cases w) (fin_bl I q rfl)
  | _ => cases e
theorem cd_notn : OpR X (compareOp .IsNot) (rCmD X.K .notn) := by
  intro pins s σ H x y v u Q I rx ry h
  obtain ⟨M, da, db, r, ha, hb, e, hk, q⟩ := h
  cases db with
  | non =>
    obtain rfl : y = .non := hb
    refine op_notN pins s σ H x _ v u Q I rx ry ⟨rfl, ?_⟩
    cases da with
    | non =>
      obtain rfl : x = .non := ha
      cases e; exact q
    | bl b =>
      obtain rfl : x = .bl b := ha
      cases e; exact q
    | int b =>
      obtain rfl : x = .int b := ha
      cases e; exact q
    | str b =>
      obtain rfl : x = .str b := ha
      cases e; exact q
    | tup ds =>
      obtain ⟨a, _, rfl, _⟩ := ha.tup
      cases e; exact q
    | lst ds =>
      obtain ⟨a, _, rfl, _⟩ := ha.lst
      cases e; exact q
    | dK ds =>
      obtain ⟨a, _, rfl, _⟩ := ha
      cases e; exact q
    | dT ds =>
      obtain ⟨a, _, rfl, _⟩ := ha
      cases e; exact q
    | scr ds =>
      obtain ⟨a, rfl, _⟩ := ha
      cases e; exact q
  | bl k =>
    obtain rfl : y = .bl k := hb
    cases (show u = Value.bool k from ry)
    cases da with
    | bl b =>
      obtain rfl : x = .bl b := ha
      cases (show v = Value.bool b from rx)
      cases e
      by_cases z : b = k
      · subst z
        exact wpAny_isNot_self rfl (fin_bl I q (by simp))
      · exact wpAny_isNot_other rfl (fun w => z (Value.bool.inj w)) (fin_bl I q (by simp [z]))
    | non =>
      obtain rfl : x = .non := ha
      cases (show v = Value.none from rx)
      cases e
      exact wpAny_isNot_other rfl (fun w => by cases w) (fin_bl I q rfl)
    | int b =>
      obtain rfl : x = .int b := ha
      obtain ⟨t, rfl⟩ := rx
      cases e
      exact wpAny_isNot_other rfl (fun w => by cases w) (fin_bl I q rfl)
    | str b =>
      obtain rfl : x = .str b := ha
      obtain ⟨t, rfl⟩ := rx
      cases e
      exact wpAny_isNot_other rfl (fun w => by cases w) (fin_bl I q rfl)
    | tup ds =>
      obtain ⟨a, _, rfl, _⟩ := ha.tup
      cases rx
      cases e
      exact wpAny_isNot_other rfl (fun w => by cases w) (fin_bl I q rfl)
    | lst ds =>
      obtain ⟨a, _, rfl, _⟩ := ha.lst
      cases rx
      cases e
      exact wpAny_isNot_other rfl (fun w => by cases w) (fin_bl I q rfl)
    | dK ds =>
      obtain ⟨a, _, rfl, _⟩ := ha
      cases rx
      cases e
      exact wpAny_isNot_other rfl (fun w => by cases w) (fin_bl I q rfl)
    | dT ds =>
      obtain ⟨a, _, rfl, _⟩ := ha
      cases rx
      cases e
      exact wpAny_isNot_other rfl (fun w => by cases w) (fin_bl I q rfl)
    | scr ds =>
      obtain ⟨a, rfl, _⟩ := ha
      cases rx
      cases e
      exact wpAny_isNot_other rfl (fun w => by cases w) (fin_bl I q rfl)
  | _ => cases e
end
end VL
/-! VLD: a dict is unequal to a tuple. -/
namespace VL
open PySem PySem.Spec L2 PyProof.Rows SeqAt
section
variable {A : Around} {s : Shared}
theorem tuple_eq_declines_dict (l b : Addr) (items : Array Value) (n : Nat) (dd dd2 : Option Addr) (sl sl2 : Array (Option Value)) (data2 : Data) :
    Meets (Builtin.«tuple.__eq__» ⟨[.ref l, .ref b], []⟩) (fun _ R s => s.heap.get? l = some { cls := .type "tuple", dict := dd, data := .seq items n, slots := sl } ∧ s.heap.get? b = some { cls := .type "dict", dict := dd2, data := data2, slots := sl2 } ∧ R (.ok (.ret .notImplemented)) s) :=
  .of_wp fun prog w A R s h => by obtain ⟨hp, g, d, tk, os⟩ := s; obtain ⟨hl, hb, h⟩ := h; have f1 := F.sub_dict_tuple; wp_walk using wpAny_loadPart' hl, wpAny_loadPart' hb; exact ⟨_, rfl, h⟩
theorem call_dict_eq_tuple {prog : Program} {w : World} {E : Value → Shared → Prop} {a b : Addr} {Q : Value → Shared → Prop} (ha : s.TypeIs (.ref a) "dict") (hb : s.TypeIs (.ref b) "tuple") (h : Q .notImplemented s) :
    wpAny (model prog w) A (call (.builtin "dict.__eq__") [.ref a, .ref b]) Q E s := by
  refine wpAny_call_entry PySem.F.slot_dict_eq ha PySem.F.entry_dict_eq ?_ (PySem.F.args_dict_eq_2 _ _)
  show wpAny _ _ (Builtin.Dict.dictSlotArgs "__eq__" ⟨[.ref a, .ref b], []⟩ >>= _) _ _ s
  refine wpAny_bind ?_
  unfold Builtin.Dict.dictSlotArgs
  refine wpAny_bind (wpAny_notOrdered_dict ha ?_)
  show wpAny _ _ (pure (Value.ref a, Value.ref b)) _ _ s
  refine wpAny_pure ?_
  refine wpAny_bind (wpAny_isInstance (T := "tuple") hb PySem.F.sub_tuple_dict ?_)
  simp only [Bool.not_false, if_true]
  refine wpAny_bind (wpAny_rule ?_)
  exact wpAny_pure ⟨_, rfl, h⟩
theorem RcAt.tuple_dict {l b : Addr} {items : Array Value} (hl : s.heap.IsTuple l items) (hb : s.TypeIs (.ref b) "dict") (hu : A.units < cLine) : RcAt A s (.ref l) (.ref b) false ∧ l ≠ b := by
  obtain ⟨⟨cls, dd, data, sl⟩, ho, hc', n, hd'⟩ := id hl
  obtain ⟨⟨cls2, dd2, data2, sl2⟩, hb', hc⟩ := id hb
  simp only at hc hc' hd'
  subst hc hc' hd'
  have hne : l ≠ b := fun e => by
    subst e
    rw [ho] at hb'
    have hb' := congrArg Obj.cls (Option.some.inj hb')
    exact absurd (Value.type.inj hb') (by decide)
  refine ⟨fun prog w E Q h => ?_, hne⟩
  exact (rc_eq_decline_or (k := false) ⟨_, ho, rfl⟩ ⟨_, hb', rfl⟩ (by decide) F.sub_dict_tuple F.slot_tuple_eq F.slot_dict_eq_refl
    (fun _ hq => call_meets F.slot_tuple_eq ⟨_, ho, rfl⟩ F.entry_tuple_eq (F.args_tuple_eq_2 _ _) (tuple_eq_declines_dict l b items n dd dd2 sl sl2 data2) ⟨ho, hb', hq⟩)
    (fun _ hq => call_dict_eq_tuple ⟨_, hb', rfl⟩ ⟨_, ho, rfl⟩ hq)
    (fun _ hq => wpAny_isSame_ref_other' hne ho hb' (by simp) hq) (.inr hu) h)
theorem EqAt.tuple_dict {l b : Addr} {items : Array Value} (hl : s.heap.IsTuple l items) (hb : s.TypeIs (.ref b) "dict") (hu : A.units < cLine) : EqAt A s (.ref l) (.ref b) false := .of_refs (RcAt.tuple_dict hl hb hu).2 (RcAt.tuple_dict hl hb hu).1
end
section
variable {X : Cx} {pins : List (Addr × Obj)} {σ : SV} {H : Hp} {s : Shared} {M : Av} {A : Around}
theorem dict_type (I : Inv X pins σ H s) {a : Addr} {kvs : List (Key × V)} (h : Rd H a (.dK kvs)) : s.TypeIs (.ref a) "dict" := by
  obtain ⟨_, _, vs, _, dd⟩ := dk_rd I.hok h
  exact dd.typeIs
theorem tups_ne (I : Inv X pins σ H s) {a : Addr} (hd : s.TypeIs (.ref a) "dict") (hu : A.units < cLine) : ∀ {ds : List D} {xs : List V} {its : List Value}, ds.all isTupD = true → RepL M H ds xs → Vals xs its → ∀ y ∈ its, EqAt A s y (.ref a) false
  | [], _, _, _, r, v, y, hy => by
    cases r
    cases v
    cases hy
  | d :: ds, _, _, h, ⟨w, ws, e, h1, r⟩, v, y, hy => by
    subst e
    obtain ⟨hd1, hd2⟩ := Bool.and_eq_true_iff.mp (show (isTupD d && ds.all isTupD) = true from h)
    cases v with
    | cons v1 v2 =>
      rcases List.mem_cons.mp hy with rfl | hy
      · cases d with
        | tup es =>
          obtain ⟨p, zs, rfl, hp, _⟩ := h1
          cases v1
          obtain ⟨is, _, pt, _⟩ := I.tuple (SqT.of hp)
          exact EqAt.tuple_dict pt hd hu
        | _ => cases hd1
      · exact tups_ne I hd hu hd2 r v2 y hy
end
end VL
/-! VL5: membership, subscripts, dicts, builtins, changes in place. -/
namespace VL
open PySem PySem.Spec L2
section
variable {X : Cx}

/-! ### dicts: what is held at a key -/
theorem RepK.look {M : Av} {H : Hp} (k : Key) : ∀ {kvs : List (Key × D)} {ks : List (Key × V)}, RepK M H kvs ks → match look kvs k with
    | some d => ∃ v, valV ks k = some v ∧ Rep M H d v
    | none => valV ks k = none
  | [], _, r => by rw [show _ = [] from r]; rfl
  | (k', d) :: r, _, ⟨v, vs, e, h, t⟩ => by
    rw [e]
    have ih := RepK.look k t
    by_cases q : k' = k
    · have e1 : VL.look ((k', d) :: r) k = some d := by simp [VL.look, List.find?_cons, q]
      rw [e1]
      exact ⟨v, valV_pos q, h⟩
    · have e1 : VL.look ((k', d) :: r) k = VL.look r k := by simp [VL.look, List.find?_cons, q]
      rw [e1, valV_neg (p := (k', v)) q]
      exact ih
theorem RepT.look {M : Av} {H : Hp} (k : List Key) : ∀ {kvs : List (List Key × D)} {ks : List (List Key × V)}, RepT M H kvs ks → match look kvs k with
    | some d => ∃ v, valV ks k = some v ∧ Rep M H d v
    | none => valV ks k = none
  | [], _, r => by rw [show _ = [] from r]; rfl
  | (k', d) :: r, _, ⟨v, vs, e, h, t⟩ => by
    rw [e]
    have ih := RepT.look k t
    by_cases q : k' = k
    · have e1 : VL.look ((k', d) :: r) k = some d := by simp [VL.look, List.find?_cons, q]
      rw [e1]
      exact ⟨v, valV_pos q, h⟩
    · have e1 : VL.look ((k', d) :: r) k = VL.look r k := by simp [VL.look, List.find?_cons, q]
      rw [e1, valV_neg (p := (k', v)) q]
      exact ih
theorem RepK.length {M : Av} {H : Hp} : ∀ {kvs : List (Key × D)} {ks : List (Key × V)}, RepK M H kvs ks → ks.length = kvs.length
  | [], _, r => by rw [show _ = [] from r]; rfl
  | p :: r, _, ⟨v, vs, e, h, t⟩ => by rw [e, List.length_cons, List.length_cons, RepK.length t]
theorem RepT.length {M : Av} {H : Hp} : ∀ {kvs : List (List Key × D)} {ks : List (List Key × V)}, RepT M H kvs ks → ks.length = kvs.length
  | [], _, r => by rw [show _ = [] from r]; rfl
  | p :: r, _, ⟨v, vs, e, h, t⟩ => by rw [e, List.length_cons, List.length_cons, RepT.length t]
theorem RepK.any {M : Av} {H : Hp} (k : Key) : ∀ {kvs : List (Key × D)} {ks : List (Key × V)}, RepK M H kvs ks → (ks.any fun kv => decide (kv.1 = k)) = kvs.any fun kv => decide (kv.1 = k)
  | [], _, r => by rw [show _ = [] from r]; rfl
  | p :: r, _, ⟨v, vs, e, h, t⟩ => by rw [e, List.any_cons, List.any_cons, RepK.any k t]
theorem RepT.any {M : Av} {H : Hp} (k : List Key) : ∀ {kvs : List (List Key × D)} {ks : List (List Key × V)}, RepT M H kvs ks → (ks.any fun kv => decide (kv.1 = k)) = kvs.any fun kv => decide (kv.1 = k)
  | [], _, r => by rw [show _ = [] from r]; rfl
  | p :: r, _, ⟨v, vs, e, h, t⟩ => by rw [e, List.any_cons, List.any_cons, RepT.any k t]
theorem RepK.map {M : Av} {H : Hp} (k : Key) {d : D} {v : V} (h : Rep M H d v) : ∀ {kvs : List (Key × D)} {ks : List (Key × V)}, RepK M H kvs ks →
    RepK M H (kvs.map fun kv => if kv.1 = k then (kv.1, d) else kv) (ks.map fun kv => if kv.1 = k then (kv.1, v) else kv)
  | [], _, r => by rw [show _ = [] from r]; rfl
  | (k', d') :: r, _, ⟨v', vs, e, h', t⟩ => by
    rw [e, List.map_cons, List.map_cons]
    by_cases q : k' = k
    · rw [if_pos q, if_pos q]; exact ⟨v, _, rfl, h, RepK.map k h t⟩
    · rw [if_neg q, if_neg q]; exact ⟨v', _, rfl, h', RepK.map k h t⟩
theorem RepT.map {M : Av} {H : Hp} (k : List Key) {d : D} {v : V} (h : Rep M H d v) : ∀ {kvs : List (List Key × D)} {ks : List (List Key × V)}, RepT M H kvs ks →
    RepT M H (kvs.map fun kv => if kv.1 = k then (kv.1, d) else kv) (ks.map fun kv => if kv.1 = k then (kv.1, v) else kv)
  | [], _, r => by rw [show _ = [] from r]; rfl
  | (k', d') :: r, _, ⟨v', vs, e, h', t⟩ => by
    rw [e, List.map_cons, List.map_cons]
    by_cases q : k' = k
    · rw [if_pos q, if_pos q]; exact ⟨v, _, rfl, h, RepT.map k h t⟩
    · rw [if_neg q, if_neg q]; exact ⟨v', _, rfl, h', RepT.map k h t⟩
theorem RepK.snoc {M : Av} {H : Hp} (k : Key) {d : D} {v : V} (h : Rep M H d v) : ∀ {kvs : List (Key × D)} {ks : List (Key × V)}, RepK M H kvs ks → RepK M H (kvs ++ [(k, d)]) (ks ++ [(k, v)])
  | [], _, r => by rw [show _ = [] from r]; exact ⟨v, [], rfl, h, rfl⟩
  | p :: r, _, ⟨v', vs, e, h', t⟩ => by rw [e]; exact ⟨v', _, rfl, h', RepK.snoc k h t⟩
theorem RepT.snoc {M : Av} {H : Hp} (k : List Key) {d : D} {v : V} (h : Rep M H d v) : ∀ {kvs : List (List Key × D)} {ks : List (List Key × V)}, RepT M H kvs ks → RepT M H (kvs ++ [(k, d)]) (ks ++ [(k, v)])
  | [], _, r => by rw [show _ = [] from r]; exact ⟨v, [], rfl, h, rfl⟩
  | p :: r, _, ⟨v', vs, e, h', t⟩ => by rw [e]; exact ⟨v', _, rfl, h', RepT.snoc k h t⟩
theorem putK_def {κ : Type} [DecidableEq κ] (ks : List (κ × V)) (k : κ) (v : V) : putK ks k v = if (ks.any fun kv => decide (kv.1 = k)) = true then ks.map (fun kv => if kv.1 = k then (kv.1, v) else kv) else ks ++ [(k, v)] := rfl
theorem RepK.put {M : Av} {H : Hp} (k : Key) {d : D} {v : V} (h : Rep M H d v) {kvs : List (Key × D)} {ks : List (Key × V)} (r : RepK M H kvs ks) : RepK M H (put kvs k d) (putK ks k v) := by
  rw [putK_def, r.any k]
  unfold VL.put
  split
  · exact r.map k h
  · exact r.snoc k h
theorem RepT.put {M : Av} {H : Hp} (k : List Key) {d : D} {v : V} (h : Rep M H d v) {kvs : List (List Key × D)} {ks : List (List Key × V)} (r : RepT M H kvs ks) : RepT M H (put kvs k d) (putK ks k v) := by
  rw [putK_def, r.any k]
  unfold VL.put
  split
  · exact r.map k h
  · exact r.snoc k h

/-! ### keys -/
theorem keyOf_rep {M : Av} {H : Hp} {d : D} {v : V} {k : Key} (h : keyOf d = some k) (r : RepW M H d v) : v = kV k := by
  cases d with
  | int i => cases h; exact r
  | str i => cases h; exact r
  | _ => cases h
theorem keyOf_rep' {M : Av} {H : Hp} {d : D} {v : V} {k : Key} (h : keyOf d = some k) (r : Rep M H d v) : v = kV k := keyOf_rep h r.w
theorem keysOf_rep {M : Av} {H : Hp} : ∀ {ds : List D} {xs : List V} {ks : List Key}, keysOf ds = some ks → RepL M H ds xs → xs = ks.map kV
  | [], _, _, h, r => by cases h; exact r
  | d :: ds, _, ks, h, ⟨v, vs, e, h1, r⟩ => by
    unfold keysOf at h
    cases e1 : keyOf d with
    | none => rw [e1] at h; cases h
    | some k =>
      cases e2 : keysOf ds with
      | none => rw [e1, e2] at h; cases h
      | some ks' =>
        rw [e1, e2] at h
        cases h
        rw [e, keyOf_rep' e1 h1, keysOf_rep e2 r]
        rfl
def ROpt (M : Av) (H : Hp) (o : Option D) (r : Option V) : Prop := match o with
  | some z => ∃ v, r = some v ∧ Rep M H z v
  | none => r = none
theorem ROpt.isSome {M : Av} {H : Hp} {o : Option D} {r : Option V} (h : ROpt M H o r) : r.isSome = o.isSome := by
  cases o with
  | none => rw [show r = none from h]; rfl
  | some z => obtain ⟨w, e, _⟩ := h; rw [e]; rfl
/-- what stands at a key -/
theorem getD_rep {M : Av} {H : Hp} {d k : D} {x y : V} {o : Option D} (hx : RepW M H d x) (hy : RepW M H k y) (e : getD d k = .ok o) : ∃ a r, x = .ref a ∧ DGet H a y r ∧ ROpt M H o r := by
  cases d with
  | dK kvs =>
    obtain ⟨kk, e1, e⟩ := ofO_bind e
    cases e
    obtain ⟨a, ks, rfl, h, r⟩ := hx
    have ey := keyOf_rep e1 hy
    subst ey
    refine ⟨a, _, rfl, .inl ⟨ks, kk, h, rfl, rfl⟩, ?_⟩
    exact r.look kk
  | dT kvs =>
    cases k with
    | tup ks0 =>
      obtain ⟨kk, e1, e⟩ := ofO_bind e
      cases e
      obtain ⟨a, ks, rfl, h, r⟩ := hx
      obtain ⟨b, xs, rfl, hb, rb⟩ := hy.tup
      have ey := keysOf_rep e1 rb
      subst ey
      refine ⟨a, _, rfl, .inr ⟨ks, kk, b, h, rfl, hb, rfl⟩, ?_⟩
      exact r.look kk
    | _ => cases e
  | _ => cases e

/-! ### in, not in -/
theorem inSeq_ok {x : D} {ds : List D} {r : Bool} (h : inSeq x ds = .ok r) : x.fit 50 = true ∧ D.fitL ds 50 = true ∧ r = ds.any fun z => D.eqv z x := by
  obtain ⟨c, e⟩ := chk_bind h
  obtain ⟨c1, c2⟩ := Bool.and_eq_true_iff.mp c
  cases e
  exact ⟨c1, c2, rfl⟩
theorem fitL_lay {ds : List D} (h : D.fitL ds 50 = true) : SeqAt.shaped (.list (D.pyL ds)) = true ∧ PyData.canLayAll0 (D.pyL ds) = true := by
  obtain ⟨a, b⟩ := fit_layL h
  refine ⟨?_, a⟩
  unfold SeqAt.shaped
  have d : (PyData.list (D.pyL ds)).depth ≤ 64 := by simp only [PyData.depth]; omega
  rw [decide_eq_true d]
  simp [PyData.canLay0, a]
theorem cd_in (hu : X.A.units + 65 < cLine) : OpR X (compareOp .In) (rCmD X.K .isin) := by
  intro pins s σ H x y v u Q I rx ry h
  obtain ⟨M, da, db, r, ha, hb, e, hk, q⟩ := h
  cases db with
  | lst ds =>
    obtain ⟨f1, f2, rfl⟩ := inSeq_ok e
    obtain ⟨a, xs, rfl, h1, r1⟩ := hb.lst
    exact op_inD hu pins s σ H x _ v u Q I rx ry ⟨da.py, D.pyL ds, ha.dp f1, .lst (.of h1) (r1.dp f2), fit_shaped f1, (fitL_lay f2).1, by rw [pyL_any]; exact q⟩
  | tup ds =>
    have sq : (∃ kvs, da = .dK kvs ∧ ds.all isTupD = true ∧ r = false) ∨ inSeq da ds = .ok r := by
      cases da <;> first
        | exact .inr e
        | (obtain ⟨c, e⟩ := chk_bind e; cases e; exact .inl ⟨_, rfl, c, rfl⟩)
    rcases sq with ⟨kvs, rfl, c, rfl⟩ | e
    · obtain ⟨a, xs, rfl, h1, r1⟩ := hb.tup
      obtain ⟨p, ks, rfl, hp, _⟩ := ha
      obtain rfl : v = .ref p := rx
      obtain rfl : u = .ref a := ry
      obtain ⟨its, rv, pt, _⟩ := I.tuple (SqT.of h1)
      refine SeqAt.in_tupleAt (e := fun _ => false) pt (fun y hy => tups_ne I (dict_type I hp) (by show X.A.units + 1 < cLine; omega) c r1 rv y (by simpa using hy)) ⟨.bl _, H, I, rfl, ?_⟩
      rw [show its.toArray.any (fun _ => false) = false by simp]
      exact q
    obtain ⟨f1, f2, rfl⟩ := inSeq_ok e
    obtain ⟨a, xs, rfl, h1, r1⟩ := hb.tup
    obtain ⟨as, q1⟩ := Dp.reads I da.py x v (ha.dp f1) rx
    obtain ⟨bs, q2⟩ := Dp.reads I (.tuple (D.pyL ds)) (.ref a) u (.tup (.of h1) (r1.dp f2)) ry
    exact SeqAt.in_tuple_reads q2 q1 (fitL_lay f2).2 (fit_lay f1).1 (PyProof.Rows.room_in_shaped (fit_shaped f1) hu) ⟨.bl _, H, I, rfl, by rw [pyL_any]; exact q⟩
  | dK kvs =>
    obtain ⟨o, e1, e2⟩ := Res.bind_ok e
    cases e2
    obtain ⟨a, r, rfl, g, hr⟩ := getD_rep hb ha e1
    obtain rfl : u = .ref a := ry
    have hs : r.isSome = o.isSome := by
      exact hr.isSome
    refine d_in (by omega) I g rx fun s' I' => ?_
    rw [hs]
    exact ⟨.bl _, H, I', rfl, q⟩
  | dT kvs =>
    obtain ⟨o, e1, e2⟩ := Res.bind_ok e
    cases e2
    obtain ⟨a, r, rfl, g, hr⟩ := getD_rep hb ha e1
    obtain rfl : u = .ref a := ry
    have hs : r.isSome = o.isSome := by
      exact hr.isSome
    refine d_in (by omega) I g rx fun s' I' => ?_
    rw [hs]
    exact ⟨.bl _, H, I', rfl, q⟩
  | _ => cases e
theorem cd_notin (hu : X.A.units + 65 < cLine) : OpR X (compareOp .NotIn) (rCmD X.K .notin) := by
  intro pins s σ H x y v u Q I rx ry h
  obtain ⟨M, da, db, r, ha, hb, e, hk, q⟩ := h
  obtain ⟨r0, e', e0⟩ := Res.bind_ok e
  clear e
  cases e0
  have e := e'
  clear e'
  cases db with
  | lst ds =>
    obtain ⟨f1, f2, rfl⟩ := inSeq_ok e
    obtain ⟨a, xs, rfl, h1, r1⟩ := hb.lst
    exact op_notInD hu pins s σ H x _ v u Q I rx ry ⟨da.py, D.pyL ds, ha.dp f1, .lst (.of h1) (r1.dp f2), fit_shaped f1, (fitL_lay f2).1, by rw [pyL_any]; exact q⟩
  | tup ds =>
    have sq : (∃ kvs, da = .dK kvs ∧ ds.all isTupD = true ∧ r0 = false) ∨ inSeq da ds = .ok r0 := by
      cases da <;> first
        | exact .inr e
        | (obtain ⟨c, e⟩ := chk_bind e; cases e; exact .inl ⟨_, rfl, c, rfl⟩)
    rcases sq with ⟨kvs, rfl, c, rfl⟩ | e
    · obtain ⟨a, xs, rfl, h1, r1⟩ := hb.tup
      obtain ⟨p, ks, rfl, hp, _⟩ := ha
      obtain rfl : v = .ref p := rx
      obtain rfl : u = .ref a := ry
      obtain ⟨its, rv, pt, _⟩ := I.tuple (SqT.of h1)
      refine SeqAt.notIn_tupleAt (e := fun _ => false) pt (fun y hy => tups_ne I (dict_type I hp) (by show X.A.units + 1 < cLine; omega) c r1 rv y (by simpa using hy)) ⟨.bl _, H, I, rfl, ?_⟩
      rw [show its.toArray.any (fun _ => false) = false by simp]
      exact q
    obtain ⟨f1, f2, rfl⟩ := inSeq_ok e
    obtain ⟨a, xs, rfl, h1, r1⟩ := hb.tup
    obtain ⟨as, q1⟩ := Dp.reads I da.py x v (ha.dp f1) rx
    obtain ⟨bs, q2⟩ := Dp.reads I (.tuple (D.pyL ds)) (.ref a) u (.tup (.of h1) (r1.dp f2)) ry
    exact SeqAt.notIn_tuple_reads q2 q1 (fitL_lay f2).2 (fit_lay f1).1 (PyProof.Rows.room_in_shaped (fit_shaped f1) hu) ⟨.bl _, H, I, rfl, by rw [pyL_any]; exact q⟩
  | dK kvs =>
    obtain ⟨o, e1, e2⟩ := Res.bind_ok e
    obtain rfl : o.isSome = r0 := by cases e2; rfl
    obtain ⟨a, r, rfl, g, hr⟩ := getD_rep hb ha e1
    obtain rfl : u = .ref a := ry
    have hs : r.isSome = o.isSome := by
      exact hr.isSome
    refine d_notIn (by omega) I g rx fun s' I' => ?_
    rw [hs]
    exact ⟨.bl _, H, I', rfl, q⟩
  | dT kvs =>
    obtain ⟨o, e1, e2⟩ := Res.bind_ok e
    obtain rfl : o.isSome = r0 := by cases e2; rfl
    obtain ⟨a, r, rfl, g, hr⟩ := getD_rep hb ha e1
    obtain rfl : u = .ref a := ry
    have hs : r.isSome = o.isSome := by
      exact hr.isSome
    refine d_notIn (by omega) I g rx fun s' I' => ?_
    rw [hs]
    exact ⟨.bl _, H, I', rfl, q⟩
  | _ => cases e
def cmB : Cm → CmpOp
  | .eq => .Eq | .ne => .NotEq | .lt => .Lt | .le => .LtE | .gt => .Gt | .ge => .GtE | .isin => .In | .notin => .NotIn | .isn => .Is | .notn => .IsNot
theorem cd_all (hu : X.A.units + 65 < cLine) (c : Cm) : OpR X (compareOp (cmB c)) (rCmD X.K c) := by
  cases c
  · exact cd_eq (by omega)
  · exact cd_ne (by omega)
  · exact cd_int (fun _ _ => rfl) op_lt
  · exact cd_int (fun _ _ => rfl) op_le
  · exact cd_int (fun _ _ => rfl) op_gt
  · exact cd_int (fun _ _ => rfl) op_ge
  · exact cd_in hu
  · exact cd_notin hu
  · exact cd_isn
  · exact cd_notn

/-! ### subscripts -/
theorem RepL.at {M : Av} {H : Hp} {ds : List D} {xs : List V} {i : Int} {d : D} (r : RepL M H ds xs) (e : atI ds i = some d) : ∃ v, atI xs i = some v ∧ Rep M H d v := by
  unfold atI at e ⊢
  rw [r.length]
  cases q : ixN ds.length i with
  | none => rw [q] at e; cases e
  | some j => rw [q] at e; exact r.get (i := j) e
theorem atI_map {α β : Type} (f : α → β) (xs : List α) (i : Int) {v : α} (h : atI xs i = some v) : atI (xs.map f) i = some (f v) := by
  unfold atI at h ⊢
  rw [List.length_map]
  cases q : ixN xs.length i with
  | none => rw [q] at h; cases h
  | some j =>
    rw [q] at h
    show (xs.map f)[j]? = _
    rw [List.getElem?_map, show xs[j]? = some v from h]
    rfl
def rIdx (K : PySem.W.Frag) : R2 := fun x y H Q => ∃ M da db d, RepW M H da x ∧ RepW M H db y ∧ idxD da db = .ok d ∧ M.K = K ∧ ∀ v, Rep M H d v → Q v H
theorem ix_dict (hu : X.A.units + 1 < cLine) : IxR X (fun x y H Q => ∃ a v, x = .ref a ∧ DGet H a y (some v) ∧ Q v H) := by
  intro value slice pins s σ H x y v u Q I rx ry h hs
  obtain ⟨a, z, rfl, g, q⟩ := h
  obtain rfl : v = .ref a := rx
  exact PyProof.Rows.tail_any (dict_typeIs I g) PySem.F.slot_dict_getitem.lookup (d_getItem hu I g ry fun w' s' I' r' => ⟨z, H, I', r', q⟩) hs
theorem ix_all (hu : X.A.units + 1 < cLine) : IxR X (rIdx X.K) := by
  intro value slice pins s σ H x y v u Q I rx ry h hs
  obtain ⟨M, da, db, d, ha, hb, e, hk, q⟩ := h
  have dict : ∀ {o}, getD da db = .ok o → ofO o = .ok d → wpAny (model X.prog X.w) X.A (PyProof.Rows.subscriptTail value slice v u) (EP X pins σ Q) X.xe s := fun {o} e1 e2 => by
    obtain ⟨a, r, rfl, g, hr⟩ := getD_rep ha hb e1
    have e2 := ofO_ok e2
    subst e2
    obtain ⟨w, rfl, rw'⟩ := hr
    exact ix_dict hu value slice pins s σ H _ y v u Q I rx ry ⟨a, w, rfl, g, q _ rw'⟩ hs
  cases da with
  | lst ds =>
    cases db with
    | int i =>
      obtain ⟨a, xs, rfl, h1, r1⟩ := ha.lst
      obtain rfl : y = .int i := hb
      obtain ⟨w, e1, rw'⟩ := r1.at (ofO_ok e)
      exact ix_list value slice pins s σ H _ _ v u Q I rx ry ⟨a, xs, i, w, rfl, rfl, .of h1, e1, q _ rw'⟩ hs
    | _ =>
      obtain ⟨o, e1, e2⟩ := Res.bind_ok e
      exact dict e1 e2
  | tup ds =>
    cases db with
    | int i =>
      obtain ⟨a, xs, rfl, h1, r1⟩ := ha.tup
      obtain rfl : y = .int i := hb
      obtain ⟨w, e1, rw'⟩ := r1.at (ofO_ok e)
      exact ix_tup value slice pins s σ H _ _ v u Q I rx ry ⟨a, xs, i, w, rfl, rfl, .of h1, e1, q _ rw'⟩ hs
    | _ =>
      obtain ⟨o, e1, e2⟩ := Res.bind_ok e
      exact dict e1 e2
  | scr ds =>
    cases db with
    | int i =>
      obtain ⟨a, rfl, h1⟩ := ha.scr
      rw [hk] at h1
      obtain rfl : y = .int i := hb
      obtain ⟨w, e1, e2⟩ := ofO_bind e
      cases e2
      exact ix_list value slice pins s σ H _ _ v u Q I rx ry ⟨a, _, i, .int w, rfl, rfl, h1, atI_map _ _ _ e1, q _ rfl⟩ hs
    | _ =>
      obtain ⟨o, e1, e2⟩ := Res.bind_ok e
      exact dict e1 e2
  | str z =>
    cases db with
    | int i =>
      obtain rfl : x = .str z := ha
      obtain rfl : y = .int i := hb
      obtain ⟨c, e⟩ := chk_bind e
      obtain ⟨w, e1, e2⟩ := ofO_bind e
      cases e2
      exact ix_str value slice pins s σ H _ _ v u Q I rx ry ⟨z, i, w, rfl, rfl, by rw [SLeq]; exact of_decide_eq_true c, e1, q _ rfl⟩ hs
    | _ =>
      obtain ⟨o, e1, e2⟩ := Res.bind_ok e
      exact dict e1 e2
  | dK kvs =>
    have e' : (do let o ← getD (.dK kvs) db; ofO o) = Res.ok d := by cases db <;> exact e
    obtain ⟨o, e1, e2⟩ := Res.bind_ok e'
    exact dict e1 e2
  | dT kvs =>
    have e' : (do let o ← getD (.dT kvs) db; ofO o) = Res.ok d := by cases db <;> exact e
    obtain ⟨o, e1, e2⟩ := Res.bind_ok e'
    exact dict e1 e2
  | non => cases db <;> cases e
  | bl b => cases db <;> cases e
  | int b => cases db <;> cases e

/-! ### slices -/
theorem RepL.cut {M : Av} {H : Hp} {ds : List D} {xs : List V} (r : RepL M H ds xs) (lo hi : Option Int) : RepL M H (cutL ds lo hi) (cutV xs lo hi) := by
  unfold cutL cutV
  rw [r.length]
  exact (r.drop _).take _
theorem cutL_whole {α : Type} {xs : List α} {lo hi : Option Int} (h : HT.sIx xs.length 0 lo = 0 ∧ HT.sIx xs.length xs.length hi = xs.length) : cutL xs lo hi = xs := by
  unfold cutL
  rw [h.1, h.2, List.drop_zero, Nat.sub_zero, List.take_length]
theorem cutL_map {α β : Type} (f : α → β) (xs : List α) (lo hi : Option Int) : cutL (xs.map f) lo hi = (cutL xs lo hi).map f := by
  unfold cutL
  rw [List.length_map, List.map_take, List.map_drop]
def rSlc (K : PySem.W.Frag) : V → Option Int → Option Int → Hp → VK → Prop := fun x lo hi H Q => ∃ M da r, RepW M H da x ∧ slcD da lo hi = .ok r ∧ M.K = K ∧ (∀ a xs, H a = some (.tup xs) → ¬ M a) ∧ ∀ v H', Aft M H r v H' → Q v H'
theorem sl_all : SlR X (rSlc X.K) := by
  intro pins s σ H x v vl vu lo hi sl Q I rx hs pl pu h
  obtain ⟨M, da, r, ha, e, hk, tp, q⟩ := h
  cases da with
  | lst ds =>
    cases e
    obtain ⟨a, xs, rfl, h1, r1⟩ := ha.lst
    exact sl_list pins s σ H _ v vl vu lo hi sl Q I rx hs pl pu ⟨a, xs, rfl, .of h1, fun p hp => q _ _ (.newL hp (r1.cut lo hi))⟩
  | scr ds =>
    cases e
    obtain ⟨a, rfl, h1⟩ := ha.scr
    rw [hk] at h1
    refine sl_list pins s σ H _ v vl vu lo hi sl Q I rx hs pl pu ⟨a, _, rfl, h1, fun p hp => q _ _ (.newL hp ?_)⟩
    have e1 : cutV (ds.map V.int) lo hi = (cutL ds lo hi).map V.int := cutL_map V.int ds lo hi
    rw [e1]
    exact RepL.ofInts
  | tup ds =>
    cases e
    obtain ⟨a, xs, rfl, h1, r1⟩ := ha.tup
    refine sl_tupA pins s σ H _ v vl vu lo hi sl Q I rx hs pl pu ⟨a, xs, rfl, .of h1, fun z => q _ _ (.same ?_), fun _ p hp => q _ _ (.newT hp (r1.cut lo hi))⟩
    rw [r1.length] at z
    rw [cutL_whole z]
    exact Rep.of_tup h1 (tp _ _ h1) r1
  | _ => cases e

/-! ### isinstance -/
def Ty.name : Ty → String
  | .int => "int" | .bool => "bool" | .str => "str" | .tuple => "tuple" | .list => "list" | .dict => "dict"
/-- the kinds of data -/
inductive Kd where | non | bl | int | str | tup | lst | dct
def kd : D → Kd
  | .non => .non | .bl _ => .bl | .int _ => .int | .str _ => .str | .tup _ => .tup | .lst _ => .lst | .dK _ => .dct | .dT _ => .dct | .scr _ => .lst
def Kd.name : Kd → String
  | .non => "NoneType" | .bl => "bool" | .int => "int" | .str => "str" | .tup => "tuple" | .lst => "list" | .dct => "dict"
def isiK : Ty → Kd → Bool
  | .int, .int => true | .int, .bl => true | .bool, .bl => true | .str, .str => true | .tuple, .tup => true | .list, .lst => true | .dict, .dct => true
  | _, _ => false
theorem kit_all (t : Ty) (k : Kd) : kitB k.name t.name = some (isiK t k) := by
  cases k <;> cases t <;> decide +kernel
theorem isi_kd (t : Ty) (d : D) (h : ∀ ns, d ≠ .scr ns) : isiD t d = isiK t (kd d) := by
  cases d <;> cases t <;> first | rfl | exact absurd rfl (h _)
theorem ty_kd {K : PySem.W.Frag} {M : Av} {H : Hp} {d : D} {x : V} (r : RepW M H d x) (h : ∀ ns, d ≠ .scr ns) (hd : ∀ kvs, d = .dT kvs → ∀ a o ks, H a ≠ some (.frz o (.dT ks))) : TyX K H x (.type (kd d).name) := by
  cases d with
  | non => rw [show x = .non from r]; exact .base .non
  | bl b => rw [show x = .bl b from r]; exact .base (.bl b)
  | int b => rw [show x = .int b from r]; exact .base (.int b)
  | str b => rw [show x = .str b from r]; exact .base (.str b)
  | tup ds => obtain ⟨a, xs, rfl, e, _⟩ := r.tup; exact .base (.tup e)
  | lst ds => obtain ⟨a, xs, rfl, e, _⟩ := r.lst; exact .base (.lst e)
  | dK ds =>
    obtain ⟨a, xs, rfl, e, _⟩ := r
    rcases e with e | ⟨o, e⟩
    · exact .base (.dK e)
    · exact .fDict e
  | dT ds =>
    obtain ⟨a, xs, rfl, e, _⟩ := r
    rcases e with e | ⟨o, e⟩
    · exact .base (.dT e)
    · exact absurd e (hd _ rfl a o xs)
  | scr ns => exact absurd rfl (h ns)
end
end VL
/-! VLT: sorted of a tuple of whole numbers. -/
namespace VL
open PySem PySem.Spec L2 PyProof.Rows Srt SrtO
section
variable {prog : Program} {w : World} {A : Around} {E : Value → Shared → Prop} {s : Shared}
/-- a tuple gathered into a new list -/
theorem collect_tup {l : Addr} {vs : List Value} {Q : List Value → Shared → Prop} (hl : IsTup s.heap l vs.toArray)
    (h : Q vs { s with heap := (s.heap.push (seqObj "list" #[] 0)).update s.heap.objs.size (Obj.mapSeq (· ++ vs.toArray)) }) (hsz : vs.length ≤ sizeLine) :
    wpAny (model prog w) A (collect (.ref l)) Q E s := by
  obtain ⟨o, ho, hc, n, hd⟩ := id hl
  unfold collect
  refine wpAny_bind (wpAny_runValue (codeAny_builtin entry_proto_collect' ?_))
  show wpAny _ _ (do again (.builtin "list.__iadd__" ⟨[← newList [], .ref l], []⟩)) _ _ s
  refine wpAny_bind (wpAny_newList (wpAny_pure ⟨Code.quiet_builtin _ (by decide +kernel), codeAny_builtin entry_list_iadd' ?_⟩))
  show wpAny _ _ (Builtin.List.listExtendWith (.ref s.heap.objs.size) (.ref l) (.ref s.heap.objs.size)) _ _ { s with heap := s.heap.push (seqObj "list" #[] 0) }
  unfold Builtin.List.listExtendWith
  have ho' : (s.heap.push (seqObj "list" #[] 0)).get? l = some o := Heap.get?_push_of_some _ ho
  refine wpAny_bind (wpAny_typeOf (T := "tuple") ⟨o, ho', hc⟩ ?_)
  have ht : (Value.type "tuple" == Value.type "tuple") = true := by rfl
  rw [if_pos (by rw [ht]; simp)]
  refine wpAny_bind (listItems_at ho' hd ?_)
  refine wpAny_bind (listItems_at (xs := #[]) (n := 0) (Heap.get?_push_size _ rfl) rfl ?_)
  rw [if_neg (by simp)]
  refine wpAny_bind (listUpdate_at (xs := #[]) (n := 0) (Heap.get?_push_size _ rfl) rfl ?_ (Nat.zero_le _) (by show (#[] ++ vs.toArray).size ≤ sizeLine + 1; simp only [Array.size_append, List.size_toArray, List.length_nil]; omega))
  refine wpAny_pure ?_
  show wpAny (model prog w) A (do
      let o ← load s.heap.objs.size
      match o.data with
      | .seq xs _ => pure xs.toList
      | _ => unsupported "internal:collect") Q E { s with heap := (s.heap.push (seqObj "list" #[] 0)).update s.heap.objs.size (Obj.mapSeq (· ++ vs.toArray)) }
  refine wpAny_bind (wpAny_load (get?_update_seq (Heap.get?_push_size _ rfl) _) ?_)
  show wpAny _ _ (pure ((#[] : Array Value) ++ vs.toArray).toList) Q E _
  rw [show ((#[] : Array Value) ++ vs.toArray).toList = vs by simp]
  exact wpAny_pure h
theorem sorted_tup {l : Addr} {vs : List Value} {ltv : Value → Value → Bool} {Q : Value → Shared → Prop} (O : Swo ltv) (hl : IsTup s.heap l vs.toArray) (hz : vs.length ≤ sizeLine)
    (hS : 2 ≤ vs.length → ∀ (h₁ : Heap) (a : Addr), h₁.get? a = some (seqObj "list" vs.toArray 0) → (∀ b o, s.heap.get? b = some o → b ≠ a ∧ h₁.get? b = some o) → SortableO prog w A.in1.in1 { s with heap := h₁ } a vs ltv)
    (h : ∀ out : List Value, Srtd ltv out → Stb ltv out vs → Q (.ref (s.heap.objs.size + 1)) { s with heap := sortedAll s.heap vs out.toArray }) :
    wpAny (model prog w) A (call (.builtin "sorted") [.ref l]) Q E s := by
  refine Calls.call_function_entry kind_sorted plain_sorted entry_sorted (args_sorted1 _) ?_
  unfold Builtin.«sorted»
  refine wpAny_bind (m := checkCount "sorted" 1 1 _) (wpAny_pure ?_)
  refine wpAny_bind (collect_tup hl ?_ hz)
  refine wpAny_bind (wpAny_newList ?_ hz)
  have hsz : ((s.heap.push (seqObj "list" #[] 0)).update s.heap.objs.size (Obj.mapSeq (· ++ vs.toArray))).objs.size = s.heap.objs.size + 1 := by
    rw [Heap.size_update, size_push']
  have hoL : (((s.heap.push (seqObj "list" #[] 0)).update s.heap.objs.size (Obj.mapSeq (· ++ vs.toArray))).push (seqObj "list" vs.toArray 0)).get? (s.heap.objs.size + 1) = some (seqObj "list" vs.toArray 0) := by
    rw [← hsz]; exact Heap.get?_push_size _ rfl
  have keep : ∀ b o, s.heap.get? b = some o → b ≠ s.heap.objs.size + 1 ∧ (((s.heap.push (seqObj "list" #[] 0)).update s.heap.objs.size (Obj.mapSeq (· ++ vs.toArray))).push (seqObj "list" vs.toArray 0)).get? b = some o := fun b o q => by
    have hlt : b < s.heap.objs.size := Heap.lt_size q
    refine ⟨Nat.ne_of_lt (Nat.lt_succ_of_lt hlt), Heap.get?_push_of_some _ ?_⟩
    rw [Heap.get?_update_ne _ _ _ _ (Nat.ne_of_lt hlt)]
    exact Heap.get?_push_of_some _ q
  show wpAny _ _ _ _ _ { s with heap := ((s.heap.push (seqObj "list" #[] 0)).update s.heap.objs.size (Obj.mapSeq (· ++ vs.toArray))).push (seqObj "list" vs.toArray 0) }
  rw [hsz]
  refine wpAny_bind (wpAny_holding (wpAny_call_entry slot_list_sort ⟨_, hoL, rfl⟩ entry_list_sort (list_sort_ord O hoL hz (fun h2 => hS h2 _ _ hoL keep) fun out hs hb => ⟨_, rfl, ?_⟩) (args_list_sort _)))
  exact wpAny_pure ⟨_, rfl, h out hs hb⟩
end
section
variable {X : Cx}
def rSortedIT (K : PySem.W.Frag) : List V → Hp → VK → Prop := fun vs H Q => ∃ (a : Addr) (ns : List Int), vs = [V.ref a] ∧ SqT K H a (ns.map V.int) ∧
  ∀ (ns' : List Int) (p : Addr), ns'.Perm ns → ns'.Pairwise (· ≤ ·) → H p = none → Q (.ref p) (upd H p (.lst (ns'.map V.int)))
theorem cr_sortedIT : CallR X (.builtin "sorted") (rSortedIT X.K) := by
  intro pins s σ H vs us Q I r h
  obtain ⟨a, ns, rfl, hs, q⟩ := h
  obtain ⟨its, rv, hl, hz⟩ := I.tuple hs
  rw [Vals.ref1 r]
  have hi := rv.ints
  refine sorted_tup swo_int hl (by rw [← rv.length]; exact hz) (fun h2 h₁ a' _ _ => ints_sortable hi h2) fun out h1 h2 => ?_
  obtain ⟨k1, k2, k3⟩ := ints_out hi h1 h2
  obtain ⟨ep, he'⟩ := sortedAll_at s.heap its out.toArray
  have hlen : ((out.map iv).map V.int).length ≤ sizeLine := by
    rw [List.length_map, k2.length_eq]
    rw [List.length_map] at hz
    exact hz
  exact ⟨.ref _, upd H (s.heap.objs.size + 1) (.lst ((out.map iv).map V.int)), I.laid (t' := s.toks) (fun _ _ => sortedAll_old) (Nat.le_succ _) ⟨hlen, out, ep, vals_of_ints k1, he'⟩, rfl, q _ _ k2 k3 (I.hok.fresh (Nat.le_succ _))⟩
end
end VL
/-! VLQ: how data are told by repr. -/
namespace VL
open PySem PySem.Spec L2
section
variable {X : Cx} {pins : List (Addr × Obj)} {σ : L2.St} {H : Hp} {s : Shared}
theorem flat_reads {h : Heap} {M : Av} {d : D} {v : V} {u : Value} (f : isFlat d = true) (r0 : Rep M H d v) (r : RelV v u) : Reads h u (flatPy d) [] := by
  cases d with
  | non =>
    obtain rfl : v = .non := r0
    cases r
    exact .none
  | bl b =>
    obtain rfl : v = .bl b := r0
    cases r
    exact .bool b
  | int i =>
    obtain rfl : v = .int i := r0
    obtain ⟨t, rfl⟩ := r
    exact .int i t
  | str x =>
    obtain rfl : v = .str x := r0
    obtain ⟨t, rfl⟩ := r
    exact .str x t
  | _ => cases f
theorem key_reads {h : Heap} {k : Key} {u : Value} (q : keyIs k u = true) : Reads h u (Key.py k) [] := by
  rcases keyIs_shape q with ⟨i, t, rfl, rfl⟩ | ⟨x, t, rfl, rfl⟩
  · exact .int i t
  · exact .str x t
theorem keys_reads {P : Program} {w : World} {h : Heap} : ∀ {ks : List Key} {us : List Value}, ItemsAre (mixKind P w) ks us → ReadsAll h us (ks.map Key.py) []
  | _, _, .nil => .nil
  | _, _, .cons h1 t => .cons (as := []) (bs := []) (key_reads h1) (keys_reads t)
theorem dk_reads {P : Program} {w : World} {h : Heap} {M : Av} : ∀ {kvs : List (Key × D)} {xs : List (Key × V)} {vs : List (Key × Value)} {es : List DictEntry}, RepK M H kvs xs → KV xs vs → Pairs (mixKind P w) es vs → (∀ p ∈ kvs, isFlat p.2 = true) →
    ReadsAll h (es.map (·.key)) (kvs.map fun p => Key.py p.1) [] ∧ ReadsAll h (es.map (·.val)) (kvs.map fun p => flatPy p.2) []
  | [], xs, vs, es, r, k, p, f => by
    obtain rfl : xs = [] := r
    cases k
    cases p
    exact ⟨.nil, .nil⟩
  | (k0, d) :: kvs, xs, vs, es, r, k, p, f => by
    obtain ⟨v, xs', rfl, r1, r2⟩ := r
    cases k with
    | cons k1 k2 =>
      cases p with
      | cons p1 p2 p3 =>
        obtain ⟨a, b⟩ := dk_reads (h := h) r2 k2 p3 fun q hq => f q (List.mem_cons_of_mem _ hq)
        obtain ⟨e1, e2⟩ := k1
        refine ⟨.cons (as := []) (bs := []) (key_reads ?_) a, .cons (as := []) (bs := []) ?_ b⟩
        · rw [show k0 = _ from e1]; exact p1
        · show Reads h (DictEntry.val _) _ _
          rw [p2]
          exact flat_reads (f _ List.mem_cons_self) (show Rep M H d v from r1) e2
theorem dt_reads {P : Program} {w : World} {h : Heap} {M : Av} : ∀ {kvs : List (List Key × D)} {xs : List (List Key × V)} {vs : List (List Key × Addr × Value)}, RepT M H kvs xs → KT H xs vs → (∀ x ∈ vs, (tupleKind (mixKind P w)).is h x.1 x.2.1) → (∀ p ∈ kvs, isFlat p.2 = true) →
    ReadsAll h ((vs.map (entryOfKey (tupleKind (mixKind P w)))).map (·.key)) (kvs.map fun p => PyData.tuple (p.1.map Key.py)) [] ∧ ReadsAll h ((vs.map (entryOfKey (tupleKind (mixKind P w)))).map (·.val)) (kvs.map fun p => flatPy p.2) []
  | [], xs, vs, r, k, p, f => by
    obtain rfl : xs = [] := r
    cases k
    exact ⟨.nil, .nil⟩
  | (k0, d) :: kvs, xs, vs, r, k, p, f => by
    obtain ⟨v, xs', rfl, r1, r2⟩ := r
    cases k with
    | cons k1 k2 =>
      obtain ⟨a, b⟩ := dt_reads (P := P) (w := w) (h := h) r2 k2 (fun x hx => p x (List.mem_cons_of_mem _ hx)) fun q hq => f q (List.mem_cons_of_mem _ hq)
      obtain ⟨e1, _, e2⟩ := k1
      obtain ⟨o, its, n, g1, g2, g3, g4⟩ := p _ List.mem_cons_self
      refine ⟨.cons (as := []) (bs := []) ?_ a, .cons (as := []) (bs := []) (flat_reads (f _ List.mem_cons_self) (show Rep M H d v from r1) e2) b⟩
      rw [show k0 = _ from e1]
      exact .tuple g1 g2 g3 (keys_reads g4)
theorem flat_depth (d : D) : (flatPy d).depth ≤ 1 := by cases d <;> simp [flatPy, PyData.depth]
theorem key_depth (k : Key) : (Key.py k).depth ≤ 1 := by cases k <;> simp [Key.py, PyData.depth]
theorem keys_depth : ∀ ks : List Key, PyData.depthAll (ks.map Key.py) ≤ 1
  | [] => by simp [PyData.depthAll]
  | k :: ks => by
    have := key_depth k
    have := keys_depth ks
    simp only [List.map_cons, PyData.depthAll]
    omega
theorem kv_depth {α : Type} (g : α → PyData) (n : Nat) (hg : ∀ k, (g k).depth ≤ n) (hn : 1 ≤ n) : ∀ kvs : List (α × D), PyData.depthKv (kvs.map fun p => (g p.1, flatPy p.2)) ≤ n
  | [] => by simp [PyData.depthKv]
  | (k, d) :: kvs => by
    have := hg k
    have := flat_depth d
    have := kv_depth g n hg hn kvs
    simp only [List.map_cons, PyData.depthKv]
    omega
/-- data stand in the heap as they are told -/
theorem told_reads (I : Inv X pins σ H s) {M : Av} {d : D} {v : V} {u : Value} (f : d.shw = true) (h : RepW M H d v) (r : RelV v u) : ∃ as, Reads s.heap u d.pyR as ∧ (d.pyR.hasDict = true → sysModules ∉ as) ∧ d.pyR.depth ≤ 45 := by
  have plain : ∀ d' : D, d'.fit 40 = true → RepW M H d' v → ∃ as, Reads s.heap u d'.py as ∧ (d'.py.hasDict = true → sysModules ∉ as) ∧ d'.py.depth ≤ 45 := fun d' f' h' => by
    obtain ⟨as, q⟩ := Dp.reads I d'.py v u (h'.dp f') r
    obtain ⟨l1, l2⟩ := fit_lay f'
    exact ⟨as, q, PyData.noDict_hsm (PyData.hasDict_of_canLay _ l1), by omega⟩
  cases d with
  | dK kvs =>
    obtain ⟨a, xs, rfl, h1, h2⟩ := h
    obtain rfl : u = .ref a := r
    obtain ⟨_, hsys, vs, rel, o, es, ep, ho, hx, hd, hk, hp, _⟩ := dk_rd I.hok h1
    have f' : ∀ p ∈ kvs, isFlat p.2 = true := List.all_eq_true.mp f
    obtain ⟨q1, q2⟩ := dk_reads (P := X.prog) (w := X.w) (h := s.heap) h2 rel hp f'
    refine ⟨[a], .dict (as := []) (bs := []) ho hx.1 hd ?_ ?_, fun _ z => ?_, ?_⟩
    · rw [List.map_map]; exact q1
    · rw [List.map_map]; exact q2
    · rw [List.mem_singleton.mp z] at hsys
      simp at hsys
    · have := kv_depth Key.py 1 key_depth (Nat.le_refl _) kvs
      show (PyData.dict _).depth ≤ 45
      simp only [PyData.depth]
      omega
  | dT kvs =>
    obtain ⟨a, xs, rfl, h1, h2⟩ := h
    obtain rfl : u = .ref a := r
    obtain ⟨_, hsys, vs, rel, o, es, ep, ho, hx, hd, hk, hp, _⟩ := dt_rd I.hok h1
    have f' : ∀ p ∈ kvs, isFlat p.2 = true := List.all_eq_true.mp f
    obtain ⟨q1, q2⟩ := dt_reads (P := X.prog) (w := X.w) (h := s.heap) h2 rel hp f'
    refine ⟨[a], .dict (as := []) (bs := []) ho hx.1 hd ?_ ?_, fun _ z => ?_, ?_⟩
    · rw [List.map_map, hk]; exact q1
    · rw [List.map_map, hk]; exact q2
    · rw [List.mem_singleton.mp z] at hsys
      simp at hsys
    · have := kv_depth (fun k : List Key => PyData.tuple (k.map Key.py)) 2 (fun k => by
        have := keys_depth k
        simp only [PyData.depth]; omega) (by omega) kvs
      show (PyData.dict _).depth ≤ 45
      simp only [PyData.depth]
      omega
  | _ => exact plain _ f h
/-- repr(x) -/
theorem repr_told (hu : X.A.units + 65 < cLine) (hg : X.A.guards = some []) (I : Inv X pins σ H s) {M : Av} {d : D} {v : V} {u : Value} {Q : VK} (f : d.shw = true) (hs : d.pyR.showable = true) (hz : d.text.length ≤ SL) (h : RepW M H d v) (r : RelV v u) (q : Q (.str d.text) H) :
    wpAny (model X.prog X.w) X.A (call (.builtin "repr") [u]) (EP X pins σ Q) X.xe s := by
  obtain ⟨as, rd, hsm, hd⟩ := told_reads I f h r
  have hz' : d.pyR.shown.length ≤ sizeLine := by rw [SLeq]; exact hz
  have fin : ∀ h' t tk, (∀ b o, s.heap.get? b = some o → h'.get? b = some o) → EP X pins σ Q (.str d.pyR.shown t) { s with heap := h', toks := tk } := fun h' t tk k => ⟨.str d.text, H, I.kept k, ⟨t, rfl⟩, q⟩
  generalize d.pyR = e at *
  cases rd with
  | none => exact PySem.P.repr_of_none (fin s.heap _ _ fun _ _ e => e)
  | bool b =>
    refine PySem.P.repr_of_bool ?_
    have := fin s.heap s.toks (s.toks + 1) fun _ _ e => e
    cases b <;> exact this
  | int i t => exact PySem.P.repr_of_int (by simpa [PyData.showable] using hs) (fin s.heap _ _ fun _ _ e => e)
  | str x t => exact PySem.P.repr_of_str (fin s.heap _ _ fun _ _ e => e) hz'
  | list h1 h2 h3 h4 => exact repr_of_reads' (.list h1 h2 h3 h4) hs hsm hg (by omega) (fun _ _ e => e) fin hz'
  | tuple h1 h2 h3 h4 => exact repr_of_reads' (.tuple h1 h2 h3 h4) hs hsm hg (by omega) (fun _ _ e => e) fin hz'
  | dict h1 h2 h3 h4 h5 => exact repr_of_reads' (.dict h1 h2 h3 h4 h5) hs hsm hg (by omega) (fun _ _ e => e) fin hz'
end
end VL
/-! VL6: builtins, methods, changes in place. -/
namespace VL
open PySem PySem.Spec L2
def RepWs (M : Av) (H : Hp) : List D → List V → Prop
  | [], vs => vs = []
  | d :: ds, vs => ∃ v r, vs = v :: r ∧ RepW M H d v ∧ RepWs M H ds r
theorem mapM_int : ∀ {ds : List D} {ns : List Int}, ds.mapM asInt = some ns → ds = ns.map D.int
  | [], ns, h => by
    simp at h; subst h; rfl
  | d :: ds, ns, h => by
    rw [List.mapM_cons] at h
    cases d with
    | int i =>
      cases q : ds.mapM asInt with
      | none => rw [q] at h; cases h
      | some ms =>
        rw [q] at h
        have : i :: ms = ns := Option.some.inj h
        subst this
        rw [mapM_int q]; rfl
    | _ => cases h
theorem mapM_bl : ∀ {ds : List D} {ns : List Bool}, ds.mapM asBl = some ns → ds = ns.map D.bl
  | [], ns, h => by
    simp at h; subst h; rfl
  | d :: ds, ns, h => by
    rw [List.mapM_cons] at h
    cases d with
    | bl i =>
      cases q : ds.mapM asBl with
      | none => rw [q] at h; cases h
      | some ms =>
        rw [q] at h
        have : i :: ms = ns := Option.some.inj h
        subst this
        rw [mapM_bl q]; rfl
    | _ => cases h
theorem maxI_spec : ∀ {ns : List Int}, 0 < ns.length → maxI ns ∈ ns ∧ ∀ y ∈ ns, y ≤ maxI ns
  | [], h => absurd h (by decide)
  | [x], _ => ⟨by simp [maxI], fun y hy => by simp at hy; subst hy; simp [maxI]⟩
  | x :: y :: r, _ => by
    obtain ⟨h1, h2⟩ := maxI_spec (ns := y :: r) (by simp)
    have e : maxI (x :: y :: r) = max x (maxI (y :: r)) := rfl
    rw [e]
    refine ⟨?_, fun z hz => ?_⟩
    · by_cases q : x ≤ maxI (y :: r)
      · rw [Int.max_eq_right q]; exact List.mem_cons_of_mem _ h1
      · rw [Int.max_eq_left (by omega)]; simp
    · rcases List.mem_cons.mp hz with rfl | hz
      · exact Int.le_max_left ..
      · exact Int.le_trans (h2 z hz) (Int.le_max_right ..)
theorem minI_spec : ∀ {ns : List Int}, 0 < ns.length → minI ns ∈ ns ∧ ∀ y ∈ ns, minI ns ≤ y
  | [], h => absurd h (by decide)
  | [x], _ => ⟨by simp [minI], fun y hy => by simp at hy; subst hy; simp [minI]⟩
  | x :: y :: r, _ => by
    obtain ⟨h1, h2⟩ := minI_spec (ns := y :: r) (by simp)
    have e : minI (x :: y :: r) = min x (minI (y :: r)) := rfl
    rw [e]
    refine ⟨?_, fun z hz => ?_⟩
    · by_cases q : x ≤ minI (y :: r)
      · rw [Int.min_eq_left q]; simp
      · rw [Int.min_eq_right (by omega)]; exact List.mem_cons_of_mem _ h1
    · rcases List.mem_cons.mp hz with rfl | hz
      · exact Int.min_le_left ..
      · exact Int.le_trans (Int.min_le_right ..) (h2 z hz)
theorem insI_perm (x : Int) : ∀ l : List Int, (insI x l).Perm (x :: l)
  | [] => .refl _
  | y :: r => by
    unfold insI
    split
    · exact .refl _
    · exact ((insI_perm x r).cons y).trans (.swap ..)
theorem sortI_perm : ∀ l : List Int, (sortI l).Perm l
  | [] => .refl _
  | x :: r => (insI_perm x _).trans ((sortI_perm r).cons x)
theorem insI_sorted (x : Int) : ∀ {l : List Int}, l.Pairwise (· ≤ ·) → (insI x l).Pairwise (· ≤ ·)
  | [], _ => by simp [insI]
  | y :: r, h => by
    unfold insI
    obtain ⟨h1, h2⟩ := List.pairwise_cons.mp h
    split
    · rename_i q
      refine List.pairwise_cons.mpr ⟨fun z hz => ?_, h⟩
      rcases List.mem_cons.mp hz with rfl | hz
      · exact q
      · exact Int.le_trans q (h1 z hz)
    · rename_i q
      refine List.pairwise_cons.mpr ⟨fun z hz => ?_, insI_sorted x h2⟩
      rcases List.mem_cons.mp ((insI_perm x r).mem_iff.mp hz) with rfl | hz
      · omega
      · exact h1 z hz
theorem sortI_sorted : ∀ l : List Int, (sortI l).Pairwise (· ≤ ·)
  | [] => .nil
  | x :: r => insI_sorted x (sortI_sorted r)
theorem sorted_unique {l m : List Int} (p : l.Perm m) (hl : l.Pairwise (· ≤ ·)) (hm : m.Pairwise (· ≤ ·)) : l = m :=
  List.Perm.eq_of_pairwise (fun a b _ _ h1 h2 => Int.le_antisymm h1 h2) hl hm p
theorem mapM_pr : ∀ {ds : List D} {ps : List (Int × Int)}, ds.mapM asPr = some ps → ds = ps.map prD
  | [], ps, h => by
    simp at h; subst h; rfl
  | d :: ds, ps, h => by
    rw [List.mapM_cons] at h
    cases e : asPr d with
    | none => rw [e] at h; cases h
    | some p =>
      rw [e] at h
      cases q : ds.mapM asPr with
      | none => rw [q] at h; cases h
      | some ms =>
        rw [q] at h
        cases h
        rw [mapM_pr q]
        have : d = prD p := by
          unfold asPr at e
          split at e
          · cases e; rfl
          · cases e
        rw [this]; rfl
theorem ltPr_lexB : ltPr = SrtO.lexB := rfl
theorem insP_perm (x : Int × Int) : ∀ l : List (Int × Int), (insP x l).Perm (x :: l)
  | [] => .refl _
  | y :: r => by
    unfold insP
    split
    · exact ((insP_perm x r).cons y).trans (.swap ..)
    · exact .refl _
theorem sortP_perm : ∀ l : List (Int × Int), (sortP l).Perm l
  | [] => .refl _
  | x :: r => (insP_perm x _).trans ((sortP_perm r).cons x)
def LeP (p q : Int × Int) : Prop := p.1 < q.1 ∨ (p.1 = q.1 ∧ p.2 ≤ q.2)
theorem leP_lt {p q : Int × Int} : ltPr q p = false ↔ LeP p q := by
  rw [ltPr_lexB, SrtO.lexB_no]
  unfold LeP
  omega
theorem insP_sorted (x : Int × Int) : ∀ {l : List (Int × Int)}, l.Pairwise LeP → (insP x l).Pairwise LeP
  | [], _ => by simp [insP]
  | y :: r, h => by
    unfold insP
    obtain ⟨h1, h2⟩ := List.pairwise_cons.mp h
    split
    · rename_i q
      have q : LeP y x := by
        have := SrtO.lexB_iff.mp (by rw [ltPr_lexB] at q; exact q)
        unfold LeP
        omega
      refine List.pairwise_cons.mpr ⟨fun z hz => ?_, insP_sorted x h2⟩
      rcases List.mem_cons.mp ((insP_perm x r).mem_iff.mp hz) with rfl | hz
      · exact q
      · exact h1 z hz
    · rename_i q
      have q : LeP x y := leP_lt.mp (by simpa using q)
      refine List.pairwise_cons.mpr ⟨fun z hz => ?_, h⟩
      rcases List.mem_cons.mp hz with rfl | hz
      · exact q
      · have := h1 z hz
        unfold LeP at this q ⊢
        omega
theorem sortP_sorted : ∀ l : List (Int × Int), (sortP l).Pairwise LeP
  | [] => .nil
  | x :: r => insP_sorted x (sortP_sorted r)
theorem sortedP_unique {l m : List (Int × Int)} (p : l.Perm m) (hl : l.Pairwise LeP) (hm : m.Pairwise LeP) : l = m :=
  List.Perm.eq_of_pairwise (fun a b _ _ h1 h2 => by
    unfold LeP at h1 h2
    obtain ⟨a1, a2⟩ := a
    obtain ⟨b1, b2⟩ := b
    simp only at h1 h2
    have e1 : a1 = b1 := by omega
    have e2 : a2 = b2 := by omega
    rw [e1, e2]) hl hm p
open Classical in
/-- the two numbers at an address -/
noncomputable def kPr (H : Hp) (x : V) : Int × Int := if h : ∃ p : Int × Int, ∃ t, x = .ref t ∧ H t = some (.tup [.int p.1, .int p.2]) then h.choose else (0, 0)
theorem kPr_at {H : Hp} {t : Addr} {p : Int × Int} (h : H t = some (.tup [.int p.1, .int p.2])) : kPr H (.ref t) = p := by
  have hx : ∃ p : Int × Int, ∃ t', V.ref t = .ref t' ∧ H t' = some (.tup [.int p.1, .int p.2]) := ⟨p, t, rfl, h⟩
  unfold kPr
  rw [dif_pos hx]
  obtain ⟨t', e, h'⟩ := hx.choose_spec
  cases e
  rw [h] at h'
  injection h' with h'
  injection h' with h'
  injection h' with a b
  injection a with a
  injection b with b
  injection b with b
  exact (Prod.ext a b).symm
theorem rep_prD {M : Av} {H : Hp} {p : Int × Int} {v : V} (h : Rep M H (prD p) v) : ∃ t, v = .ref t ∧ H t = some (.tup [.int (kPr H v).1, .int (kPr H v).2]) ∧ kPr H v = p := by
  obtain ⟨t, ys, rfl, h1, h2, r⟩ := h
  have e : ys = [V.int p.1, V.int p.2] := RepL.ints (ns := [p.1, p.2]) r
  subst e
  have k := kPr_at h1
  exact ⟨t, rfl, by rw [k]; exact h1, k⟩
theorem RepL.prs {M : Av} {H : Hp} : ∀ {ps : List (Int × Int)} {xs : List V}, RepL M H (ps.map prD) xs → xs.map (kPr H) = ps ∧ ∀ x ∈ xs, Rep M H (prD (kPr H x)) x
  | [], xs, r => by
    have : xs = [] := r
    subst this
    exact ⟨rfl, fun x hx => by cases hx⟩
  | p :: ps, _, ⟨v, vs, rfl, h, r⟩ => by
    obtain ⟨h1, h2⟩ := RepL.prs r
    obtain ⟨t, _, _, k⟩ := rep_prD h
    refine ⟨by rw [List.map_cons, h1, k], fun x hx => ?_⟩
    rcases List.mem_cons.mp hx with rfl | hx
    · rw [k]; exact h
    · exact h2 x hx
theorem RepL.ofPrs {M : Av} {H : Hp} : ∀ {ys : List V}, (∀ y ∈ ys, Rep M H (prD (kPr H y)) y) → RepL M H ((ys.map (kPr H)).map prD) ys
  | [], _ => rfl
  | y :: ys, h => ⟨y, ys, rfl, h y List.mem_cons_self, RepL.ofPrs fun z hz => h z (List.mem_cons_of_mem _ hz)⟩
section
variable {X : Cx}
def rBf (K : PySem.W.Frag) (b : Bf) : List V → Hp → VK → Prop := fun vs H Q => ∃ M ds r, RepWs M H ds vs ∧ bfD b ds = .ok r ∧ M.K = K ∧ (∀ a xs, H a = some (.tup xs) → ¬ M a) ∧ ∀ v H', Aft M H r v H' → Q v H'
def bfV : Bf → Value
  | .len => .builtin "len" | .sum => .builtin "sum" | .max1 => .builtin "max" | .min1 => .builtin "min" | .max2 => .builtin "max" | .min2 => .builtin "min"
  | .all => .builtin "all" | .any => .builtin "any" | .abs => .builtin "abs" | .int1 => .type "int" | .str1 => .type "str" | .list1 => .type "list"
  | .tuple1 => .type "tuple" | .sorted1 => .builtin "sorted" | .sortedP => .builtin "sorted" | .sortedD => .builtin "sorted" | .divmod => .builtin "divmod" | .dict1 => .type "dict" | .rpr => .builtin "repr"
theorem bf1 {b : Bf} {ds : List D} {r : R} (e : bfD b ds = .ok r) : (∃ d, ds = [d]) ∨ ∃ d d', ds = [d, d'] := by
  match ds, e with
  | [], e => cases b <;> cases e
  | [d], _ => exact .inl ⟨d, rfl⟩
  | [d, d'], _ => exact .inr ⟨d, d', rfl⟩
  | _ :: _ :: _ :: _, e => cases b <;> simp [bfD] at e
theorem RepWs.one {M : Av} {H : Hp} {d : D} {vs : List V} (h : RepWs M H [d] vs) : ∃ v, vs = [v] ∧ RepW M H d v := by
  obtain ⟨v, r, e, h, r'⟩ := h
  rw [show r = [] from r'] at e
  exact ⟨v, e, h⟩
theorem RepWs.two {M : Av} {H : Hp} {d d' : D} {vs : List V} (h : RepWs M H [d, d'] vs) : ∃ v w, vs = [v, w] ∧ RepW M H d v ∧ RepW M H d' w := by
  obtain ⟨v, r, e, h, r'⟩ := h
  obtain ⟨w, e2, h2⟩ := RepWs.one r'
  exact ⟨v, w, by rw [e, e2], h, h2⟩
theorem bf_len : CallR X (bfV .len) (rBf X.K .len) := by
  intro pins s σ H vs us Q I r h
  obtain ⟨M, ds, r0, hw, e, hk, tp, q⟩ := h
  rcases bf1 e with ⟨d, rfl⟩ | ⟨d, d', rfl⟩
  · obtain ⟨x, rfl, hx⟩ := hw.one
    cases d with
    | str z =>
      obtain ⟨c, e⟩ := chk_bind e
      cases e
      obtain rfl : x = .str z := hx
      exact call_len pins s σ H _ us Q I r ⟨_, z.length, rfl, ⟨by rw [SLeq]; exact of_decide_eq_true c, rfl⟩, q _ _ (.same rfl)⟩
    | lst ds =>
      cases e
      obtain ⟨a, xs, rfl, h1, r1⟩ := hx.lst
      exact call_len pins s σ H _ us Q I r ⟨_, ds.length, rfl, .inl ⟨xs, .of h1, r1.length.symm⟩, q _ _ (.same rfl)⟩
    | tup ds =>
      cases e
      obtain ⟨a, xs, rfl, h1, r1⟩ := hx.tup
      exact call_len pins s σ H _ us Q I r ⟨_, ds.length, rfl, .inr ⟨xs, .of h1, r1.length.symm⟩, q _ _ (.same rfl)⟩
    | scr ds =>
      cases e
      obtain ⟨a, rfl, h1⟩ := hx.scr
      rw [hk] at h1
      exact call_len pins s σ H _ us Q I r ⟨_, ds.length, rfl, .inl ⟨_, h1, by rw [List.length_map]⟩, q _ _ (.same rfl)⟩
    | dK kvs =>
      cases e
      obtain ⟨a, ks, rfl, h1, r1⟩ := hx
      obtain ⟨u, rfl, rx⟩ := vals1 r
      obtain rfl : u = .ref a := rx
      refine d_len I h1 fun t s' I' => ?_
      rw [r1.length]
      exact ⟨.int kvs.length, H, I', ⟨_, rfl⟩, q _ _ (.same rfl)⟩
    | dT kvs =>
      cases e
      obtain ⟨a, ks, rfl, h1, r1⟩ := hx
      obtain ⟨u, rfl, rx⟩ := vals1 r
      obtain rfl : u = .ref a := rx
      obtain ⟨z, hd, ys, rel, dd⟩ := dt_rd I.hok h1
      have hl : ks.length = ys.length := Paired.length rel
      refine PySem.call_len_dictH hd dd (by rw [← hl]; rw [sizeLine_eq] at z; omega) ?_
      rw [← hl, r1.length]
      exact ⟨.int ((kvs.length : Nat) : Int), H, I.tok _, ⟨_, rfl⟩, q _ _ (.same rfl)⟩
    | _ => cases e
  · cases d <;> cases d' <;> cases e
theorem bf_sum (hc : X.calm = true) : CallR X (bfV .sum) (rBf X.K .sum) := by
  intro pins s σ H vs us Q I r h
  obtain ⟨M, ds, r0, hw, e, hk, tp, q⟩ := h
  rcases bf1 e with ⟨d, rfl⟩ | ⟨d, d', rfl⟩
  · obtain ⟨x, rfl, hx⟩ := hw.one
    cases d with
    | lst ds =>
      obtain ⟨ns, e1, e⟩ := ofO_bind e
      cases e
      have := mapM_int e1
      subst this
      obtain ⟨a, xs, rfl, h1, r1⟩ := hx.lst
      rw [r1.ints] at h1
      exact cr_sum hc pins s σ H _ us Q I r ⟨a, ns, rfl, .of h1, q _ _ (.same rfl)⟩
    | _ => cases e
  · cases d <;> cases d' <;> cases e
theorem bf_max1 (hc : X.calm = true) : CallR X (bfV .max1) (rBf X.K .max1) := by
  intro pins s σ H vs us Q I r h
  obtain ⟨M, ds, r0, hw, e, hk, tp, q⟩ := h
  rcases bf1 e with ⟨d, rfl⟩ | ⟨d, d', rfl⟩
  · obtain ⟨x, rfl, hx⟩ := hw.one
    cases d with
    | lst ds =>
      obtain ⟨ns, e1, e⟩ := ofO_bind e
      obtain ⟨c, e⟩ := chk_bind e
      cases e
      have c := of_decide_eq_true c
      have := mapM_int e1
      subst this
      obtain ⟨a, xs, rfl, h1, r1⟩ := hx.lst
      rw [r1.ints] at h1
      refine cr_max hc pins s σ H _ us Q I r ⟨a, ns, rfl, .of h1, c, fun m hm hle => q _ _ (.same ?_)⟩
      obtain ⟨g1, g2⟩ := maxI_spec c
      have : m = maxI ns := Int.le_antisymm (g2 m hm) (hle _ g1)
      rw [this]; rfl
    | _ => cases e
  · cases d <;> cases d' <;> cases e
theorem bf_min1 (hc : X.calm = true) : CallR X (bfV .min1) (rBf X.K .min1) := by
  intro pins s σ H vs us Q I r h
  obtain ⟨M, ds, r0, hw, e, hk, tp, q⟩ := h
  rcases bf1 e with ⟨d, rfl⟩ | ⟨d, d', rfl⟩
  · obtain ⟨x, rfl, hx⟩ := hw.one
    cases d with
    | lst ds =>
      obtain ⟨ns, e1, e⟩ := ofO_bind e
      obtain ⟨c, e⟩ := chk_bind e
      cases e
      have c := of_decide_eq_true c
      have := mapM_int e1
      subst this
      obtain ⟨a, xs, rfl, h1, r1⟩ := hx.lst
      rw [r1.ints] at h1
      refine cr_min hc pins s σ H _ us Q I r ⟨a, ns, rfl, .of h1, c, fun m hm hle => q _ _ (.same ?_)⟩
      obtain ⟨g1, g2⟩ := minI_spec c
      have : m = minI ns := Int.le_antisymm (hle _ g1) (g2 m hm)
      rw [this]; rfl
    | _ => cases e
  · cases d <;> cases d' <;> cases e
theorem bf_max2 (hc : X.calm = true) : CallR X (bfV .max2) (rBf X.K .max2) := by
  intro pins s σ H vs us Q I r h
  obtain ⟨M, ds, r0, hw, e, hk, tp, q⟩ := h
  rcases bf1 e with ⟨d, rfl⟩ | ⟨d, d', rfl⟩
  · cases d <;> cases e
  · obtain ⟨x, y, rfl, hx, hy⟩ := hw.two
    cases d with
    | int i =>
      cases d' with
      | int j =>
        cases e
        obtain rfl : x = .int i := hx
        obtain rfl : y = .int j := hy
        exact call_max2 hc pins s σ H _ us Q I r ⟨i, j, rfl, q _ _ (.same rfl)⟩
      | _ => cases e
    | _ => cases d' <;> cases e
theorem bf_min2 (hc : X.calm = true) : CallR X (bfV .min2) (rBf X.K .min2) := by
  intro pins s σ H vs us Q I r h
  obtain ⟨M, ds, r0, hw, e, hk, tp, q⟩ := h
  rcases bf1 e with ⟨d, rfl⟩ | ⟨d, d', rfl⟩
  · cases d <;> cases e
  · obtain ⟨x, y, rfl, hx, hy⟩ := hw.two
    cases d with
    | int i =>
      cases d' with
      | int j =>
        cases e
        obtain rfl : x = .int i := hx
        obtain rfl : y = .int j := hy
        exact call_min2 hc pins s σ H _ us Q I r ⟨i, j, rfl, q _ _ (.same rfl)⟩
      | _ => cases e
    | _ => cases d' <;> cases e
theorem bf_all (hc : X.calm = true) : CallR X (bfV .all) (rBf X.K .all) := by
  intro pins s σ H vs us Q I r h
  obtain ⟨M, ds, r0, hw, e, hk, tp, q⟩ := h
  rcases bf1 e with ⟨d, rfl⟩ | ⟨d, d', rfl⟩
  · obtain ⟨x, rfl, hx⟩ := hw.one
    cases d with
    | lst ds =>
      obtain ⟨ns, e1, e⟩ := ofO_bind e
      cases e
      have := mapM_bl e1
      subst this
      obtain ⟨a, xs, rfl, h1, r1⟩ := hx.lst
      rw [r1.bls] at h1
      exact cr_all hc pins s σ H _ us Q I r ⟨a, ns, rfl, .of h1, q _ _ (.same rfl)⟩
    | _ => cases e
  · cases d <;> cases d' <;> cases e
theorem bf_any (hc : X.calm = true) : CallR X (bfV .any) (rBf X.K .any) := by
  intro pins s σ H vs us Q I r h
  obtain ⟨M, ds, r0, hw, e, hk, tp, q⟩ := h
  rcases bf1 e with ⟨d, rfl⟩ | ⟨d, d', rfl⟩
  · obtain ⟨x, rfl, hx⟩ := hw.one
    cases d with
    | lst ds =>
      obtain ⟨ns, e1, e⟩ := ofO_bind e
      cases e
      have := mapM_bl e1
      subst this
      obtain ⟨a, xs, rfl, h1, r1⟩ := hx.lst
      rw [r1.bls] at h1
      exact cr_any hc pins s σ H _ us Q I r ⟨a, ns, rfl, .of h1, q _ _ (.same rfl)⟩
    | _ => cases e
  · cases d <;> cases d' <;> cases e
theorem bf_abs : CallR X (bfV .abs) (rBf X.K .abs) := by
  intro pins s σ H vs us Q I r h
  obtain ⟨M, ds, r0, hw, e, hk, tp, q⟩ := h
  rcases bf1 e with ⟨d, rfl⟩ | ⟨d, d', rfl⟩
  · obtain ⟨x, rfl, hx⟩ := hw.one
    cases d with
    | int i =>
      cases e
      obtain rfl : x = .int i := hx
      exact call_abs pins s σ H _ us Q I r ⟨i, rfl, q _ _ (.same rfl)⟩
    | _ => cases e
  · cases d <;> cases d' <;> cases e
theorem bf_int1 : CallR X (bfV .int1) (rBf X.K .int1) := by
  intro pins s σ H vs us Q I r h
  obtain ⟨M, ds, r0, hw, e, hk, tp, q⟩ := h
  rcases bf1 e with ⟨d, rfl⟩ | ⟨d, d', rfl⟩
  · obtain ⟨x, rfl, hx⟩ := hw.one
    cases d with
    | int i =>
      cases e
      obtain rfl : x = .int i := hx
      exact call_int1 pins s σ H _ us Q I r (.inl ⟨i, rfl, q _ _ (.same rfl)⟩)
    | bl i =>
      cases e
      obtain rfl : x = .bl i := hx
      exact call_int1 pins s σ H _ us Q I r (.inr ⟨i, rfl, q _ _ (.same rfl)⟩)
    | _ => cases e
  · cases d <;> cases d' <;> cases e
theorem bf_str1 : CallR X (bfV .str1) (rBf X.K .str1) := by
  intro pins s σ H vs us Q I r h
  obtain ⟨M, ds, r0, hw, e, hk, tp, q⟩ := h
  rcases bf1 e with ⟨d, rfl⟩ | ⟨d, d', rfl⟩
  · obtain ⟨x, rfl, hx⟩ := hw.one
    cases d with
    | int i =>
      obtain ⟨c, e⟩ := chk_bind e
      cases e
      obtain rfl : x = .int i := hx
      exact call_str_int pins s σ H _ us Q I r ⟨i, rfl, of_decide_eq_true c, q _ _ (.same rfl)⟩
    | _ => cases e
  · cases d <;> cases d' <;> cases e
theorem bf_list1 : CallR X (bfV .list1) (rBf X.K .list1) := by
  intro pins s σ H vs us Q I r h
  obtain ⟨M, ds, r0, hw, e, hk, tp, q⟩ := h
  rcases bf1 e with ⟨d, rfl⟩ | ⟨d, d', rfl⟩
  · obtain ⟨x, rfl, hx⟩ := hw.one
    cases d with
    | lst ds =>
      cases e
      obtain ⟨a, xs, rfl, h1, r1⟩ := hx.lst
      exact call_list_of pins s σ H _ us Q I r ⟨a, xs, rfl, .inl (.of h1), fun l hl => q _ _ (.newL hl r1)⟩
    | tup ds =>
      cases e
      obtain ⟨a, xs, rfl, h1, r1⟩ := hx.tup
      exact call_list_of pins s σ H _ us Q I r ⟨a, xs, rfl, .inr (.of h1), fun l hl => q _ _ (.newL hl r1)⟩
    | _ => cases e
  · cases d <;> cases d' <;> cases e
theorem bf_tuple1 : CallR X (bfV .tuple1) (rBf X.K .tuple1) := by
  intro pins s σ H vs us Q I r h
  obtain ⟨M, ds, r0, hw, e, hk, tp, q⟩ := h
  rcases bf1 e with ⟨d, rfl⟩ | ⟨d, d', rfl⟩
  · obtain ⟨x, rfl, hx⟩ := hw.one
    cases d with
    | lst ds =>
      cases e
      obtain ⟨a, xs, rfl, h1, r1⟩ := hx.lst
      exact call_tuple_of pins s σ H _ us Q I r ⟨a, xs, rfl, .inl ⟨.of h1, fun l hl => q _ _ (.newT hl r1)⟩⟩
    | tup ds =>
      cases e
      obtain ⟨a, xs, rfl, h1, r1⟩ := hx.tup
      exact call_tuple_of pins s σ H _ us Q I r ⟨a, xs, rfl, .inr ⟨.of h1, q _ _ (.same (Rep.of_tup h1 (tp _ _ h1) r1))⟩⟩
    | _ => cases e
  · cases d <;> cases d' <;> cases e
theorem bf_sorted1 : CallR X (bfV .sorted1) (rBf X.K .sorted1) := by
  intro pins s σ H vs us Q I r h
  obtain ⟨M, ds, r0, hw, e, hk, tp, q⟩ := h
  rcases bf1 e with ⟨d, rfl⟩ | ⟨d, d', rfl⟩
  · obtain ⟨x, rfl, hx⟩ := hw.one
    cases d with
    | lst ds =>
      obtain ⟨ns, e1, e⟩ := ofO_bind e
      cases e
      have := mapM_int e1
      subst this
      obtain ⟨a, xs, rfl, h1, r1⟩ := hx.lst
      rw [r1.ints] at h1
      refine cr_sortedI pins s σ H _ us Q I r ⟨a, ns, rfl, .of h1, fun ns' p hp hs hn => ?_⟩
      have : ns' = sortI ns := sorted_unique (hp.trans (sortI_perm ns).symm) hs (sortI_sorted ns)
      subst this
      exact q _ _ (.newL hn RepL.ofInts)
    | tup ds =>
      obtain ⟨ns, e1, e⟩ := ofO_bind e
      cases e
      have := mapM_int e1
      subst this
      obtain ⟨a, xs, rfl, h1, r1⟩ := hx.tup
      rw [r1.ints] at h1
      refine cr_sortedIT pins s σ H _ us Q I r ⟨a, ns, rfl, .of h1, fun ns' p hp hs hn => ?_⟩
      have : ns' = sortI ns := sorted_unique (hp.trans (sortI_perm ns).symm) hs (sortI_sorted ns)
      subst this
      exact q _ _ (.newL hn RepL.ofInts)
    | _ => cases e
  · cases d <;> cases d' <;> cases e
theorem bf_sortedP : CallR X (bfV .sortedP) (rBf X.K .sortedP) := by
  intro pins s σ H vs us Q I r h
  obtain ⟨M, ds, r0, hw, e, hk, tp, q⟩ := h
  rcases bf1 e with ⟨d, rfl⟩ | ⟨d, d', rfl⟩
  · obtain ⟨x, rfl, hx⟩ := hw.one
    cases d with
    | lst ds =>
      obtain ⟨ps, e1, e⟩ := ofO_bind e
      cases e
      have := mapM_pr e1
      subst this
      obtain ⟨a, xs, rfl, h1, r1⟩ := hx.lst
      obtain ⟨k1, k2⟩ := RepL.prs r1
      refine cr_sortedPO pins s σ H _ us Q I r ⟨a, xs, kPr H, rfl, .of h1, fun x hx => ?_, fun ys p hs hb hn => ?_⟩
      · obtain ⟨t, e, ht, _⟩ := rep_prD (k2 x hx)
        exact ⟨t, e, ht⟩
      · have hp : (ys.map (kPr H)).Perm ps := by rw [← k1]; exact hb.perm.map _
        have hsd : (ys.map (kPr H)).Pairwise LeP := by
          rw [List.pairwise_map]
          exact List.Pairwise.imp (fun h => leP_lt.mp h) hs
        have e2 : ys.map (kPr H) = sortP ps := sortedP_unique (hp.trans (sortP_perm ps).symm) hsd (sortP_sorted ps)
        have r2 : RepL M H ((sortP ps).map prD) ys := by
          rw [← e2]
          exact RepL.ofPrs fun y hy => k2 y (hb.perm.mem_iff.mp hy)
        exact q _ _ (.newL hn r2)
    | _ => cases e
  · cases d <;> cases d' <;> cases e
/-- a value that stands for data -/
def Stands (M : Av) (H : Hp) (u : Value) (d : D) : Prop := ∃ v, RelV v u ∧ Rep M H d v
theorem RepL.stands {M : Av} {H : Hp} : ∀ {ds : List D} {xs : List V} {us : List Value}, RepL M H ds xs → Vals xs us → PySem.W.EachIs (Stands M H) us ds
  | [], _, _, r, k => by
    rw [show _ = [] from r] at k
    cases k
    exact .nil
  | d :: ds, _, _, ⟨v, vs, e, h, r⟩, k => by
    subst e
    cases k with
    | cons q t => exact .cons ⟨v, q, h⟩ (RepL.stands r t)
theorem stands_rep {M : Av} {H : Hp} : ∀ {ds : List D} {us : List Value}, PySem.W.EachIs (Stands M H) us ds → ∃ xs, RepL M H ds xs ∧ Vals xs us
  | _, _, .nil => ⟨[], rfl, .nil⟩
  | _, _, .cons h t => by
    obtain ⟨v, q, r⟩ := h
    obtain ⟨xs, h1, h2⟩ := stands_rep t
    exact ⟨v :: xs, ⟨v, xs, rfl, r, h1⟩, .cons q h2⟩
theorem fitL_mem {ds : List D} {n : Nat} (h : D.fitL ds n = true) {d : D} (m : d ∈ ds) : d.fit n = true := by
  induction ds with
  | nil => cases m
  | cons x ds ih =>
    have h' : (x.fit n && D.fitL ds n) = true := h
    obtain ⟨f1, f2⟩ := Bool.and_eq_true_iff.mp h'
    rcases List.mem_cons.mp m with rfl | m
    · exact f1
    · exact ih f2 m
theorem each_mem {R : Value → D → Prop} {R' : Value → D → Prop} : ∀ {us : List Value} {ds : List D}, PySem.W.EachIs R us ds → (∀ u d, d ∈ ds → R u d → R' u d) → PySem.W.EachIs R' us ds
  | _, _, .nil, _ => .nil
  | _, _, .cons h t, f => .cons (f _ _ List.mem_cons_self h) (each_mem t fun u d m => f u d (List.mem_cons_of_mem _ m))
theorem bf_sortedD (hu : X.A.units + 50 < cLine) : CallR X (bfV .sortedD) (rBf X.K .sortedD) := by
  intro pins s σ H vs us Q I r h
  obtain ⟨M, ds, r0, hw, e, hk, tp, q⟩ := h
  rcases bf1 e with ⟨d, rfl⟩ | ⟨d, d', rfl⟩
  · obtain ⟨x, rfl, hx⟩ := hw.one
    cases d with
    | lst ds =>
      obtain ⟨c, e⟩ := chk_bind e
      cases e
      obtain ⟨c1, c2⟩ := Bool.and_eq_true_iff.mp c
      obtain ⟨c2, c3⟩ := Bool.and_eq_true_iff.mp c2
      obtain ⟨a, xs, rfl, h1, r1⟩ := hx.lst
      obtain ⟨u, rfl, rx⟩ := vals1 r
      obtain rfl : u = .ref a := rx
      obtain ⟨its, rv, hl, hz⟩ := I.list (.of h1)
      have st := r1.stands rv
      have hal : PySem.W.AllAlike (ds.map D.py) := by
        intro d hd d' hd'
        obtain ⟨b, hb, rfl⟩ := List.mem_map.mp hd
        obtain ⟨b', hb', rfl⟩ := List.mem_map.mp hd'
        exact List.all_eq_true.mp (List.all_eq_true.mp c3 b hb) b' hb'
      have hso : PySem.W.Sortable (ds.map D.py) := .inl fun d hd => by
        obtain ⟨b, hb, rfl⟩ := List.mem_map.mp hd
        have := List.all_eq_true.mp c2 b hb
        cases b with
        | tup l =>
          cases l with
          | nil => cases this
          | cons y l => exact ⟨_, _, rfl⟩
        | _ => cases this
      refine PySem.W.sorted_data (R := Stands M H) (bs := ds) (enc := D.py) hl.isList st (each_mem st fun u d m ⟨v, rv, rd⟩ => Dp.reads I d.py v u (rd.dp (fitL_mem c1 m)) rv) hal hso (by rw [← r1.length]; exact hz)
        (fun b hb => by have := (fit_lay (fitL_mem c1 hb)).2; omega) fun out hlen ho => ?_
      obtain ⟨ys, g1, g2⟩ := stands_rep ho
      obtain ⟨ep, he⟩ := PyProof.Rows.sortedAll_at s.heap its out.toArray
      have hyl : ys.length = xs.length := by rw [g2.length, hlen, r1.length]
      exact ⟨.ref _, upd H (s.heap.objs.size + 1) (.lst ys), I.laid (t' := s.toks) (fun _ _ => PyProof.Rows.sortedAll_old) (Nat.le_succ _) ⟨by rw [hyl]; exact hz, out, ep, g2, he⟩, rfl, q _ _ (.newL (I.hok.fresh (Nat.le_succ _)) g1)⟩
    | _ => cases e
  · cases d <;> cases d' <;> cases e
theorem bf_divmod : CallR X (bfV .divmod) (rBf X.K .divmod) := by
  intro pins s σ H vs us Q I r h
  obtain ⟨M, ds, r0, hw, e, hk, tp, q⟩ := h
  rcases bf1 e with ⟨d, rfl⟩ | ⟨d, d', rfl⟩
  · cases d <;> cases e
  · obtain ⟨x, y, rfl, hx, hy⟩ := hw.two
    cases d with
    | int i =>
      cases d' with
      | int j =>
        obtain ⟨c, e⟩ := chk_bind e
        cases e
        obtain rfl : x = .int i := hx
        obtain rfl : y = .int j := hy
        have fin : ∀ p, H p = none → Q (.ref p) (upd H p (.tup [.int (i / j), .int (i % j)])) := fun p hp => q _ _ (.newT hp ⟨_, _, rfl, rfl, _, _, rfl, rfl, rfl⟩)
        simp only [Bool.and_eq_true, Bool.or_eq_true, decide_eq_true_eq, Bool.not_eq_true'] at c
        obtain ⟨c0, c | c⟩ := c
        · exact call_divmod pins s σ H _ us Q I r ⟨i, j, rfl, ⟨c0, c⟩, fin⟩
        · exact call_divmodW pins s σ H _ us Q I r ⟨i, j, rfl, ⟨c0, c⟩, fin⟩
      | _ => cases e
    | _ => cases d' <;> cases e
theorem RepT.hashes {M : Av} {H : Hp} {f : List Key → Int} : ∀ {kvs : List (List Key × D)} {ks : List (List Key × V)}, RepT M H kvs ks → (kvs.map fun p => f p.1) = ks.map fun p => f p.1
  | [], _, r => by rw [show _ = [] from r]; rfl
  | p :: kvs, _, ⟨v, vs, e, h, r⟩ => by subst e; rw [List.map_cons, List.map_cons, RepT.hashes r]
theorem bf_dict1 (hu : X.A.units + 3 < cLine) : CallR X (bfV .dict1) (rBf X.K .dict1) := by
  intro pins s σ H vs us Q I r h
  obtain ⟨M, ds, r0, hw, e, hk, tp, q⟩ := h
  rcases bf1 e with ⟨d, rfl⟩ | ⟨d, d', rfl⟩
  · obtain ⟨x, rfl, hx⟩ := hw.one
    cases d with
    | dK kvs =>
      cases e
      obtain ⟨a, ks, rfl, h1, r1⟩ := hx
      obtain ⟨u, rfl, rx⟩ := vals1 r
      obtain rfl : u = .ref a := rx
      exact d_copyOf I h1 fun p s' hp I' => ⟨.ref p, _, I', rfl, q _ _ (.newK hp r1)⟩
    | dT kvs =>
      obtain ⟨c, e⟩ := chk_bind e
      cases e
      obtain ⟨a, ks, rfl, h1, r1⟩ := hx
      obtain ⟨u, rfl, rx⟩ := vals1 r
      obtain rfl : u = .ref a := rx
      exact d_copyOfT hu I h1 (by rw [← r1.hashes]; exact hash_nd c) fun p s' hp I' => ⟨.ref p, _, I', rfl, q _ _ (.newDT hp r1)⟩
    | _ => cases e
  · cases d <;> cases d' <;> cases e
theorem bf_rpr (hu : X.A.units + 65 < cLine) (hg : X.A.guards = some []) : CallR X (bfV .rpr) (rBf X.K .rpr) := by
  intro pins s σ H vs us Q I r h
  obtain ⟨M, ds, r0, hw, e, hk, tp, q⟩ := h
  rcases bf1 e with ⟨d, rfl⟩ | ⟨d, d', rfl⟩
  · obtain ⟨x, rfl, hx⟩ := hw.one
    obtain ⟨c, e⟩ := chk_bind e
    cases e
    obtain ⟨c1, c2⟩ := Bool.and_eq_true_iff.mp c
    obtain ⟨c2, c3⟩ := Bool.and_eq_true_iff.mp c2
    obtain ⟨c3, c4⟩ := Bool.and_eq_true_iff.mp c3
    obtain ⟨u, rfl, rx⟩ := vals1 r
    exact repr_told hu hg I c1 c2 (of_decide_eq_true c3) hx rx (q _ _ (.same rfl))
  · cases e
theorem bf_ok (hu : X.A.units + 65 < cLine) (b : Bf) (hc : b.calm = true → X.calm = true) (hgd : b = .rpr → X.A.guards = some []) : CallR X (bfV b) (rBf X.K b) := by
  cases b
  · exact bf_len
  · exact bf_sum (hc rfl)
  · exact bf_max1 (hc rfl)
  · exact bf_min1 (hc rfl)
  · exact bf_max2 (hc rfl)
  · exact bf_min2 (hc rfl)
  · exact bf_all (hc rfl)
  · exact bf_any (hc rfl)
  · exact bf_abs
  · exact bf_int1
  · exact bf_str1
  · exact bf_list1
  · exact bf_tuple1
  · exact bf_sorted1
  · exact bf_divmod
  · exact bf_dict1 (by omega)
  · exact bf_sortedP
  · exact bf_sortedD (by omega)
  · exact bf_rpr hu (hgd rfl)

/-! ### changes in place: what becomes of the one object -/
end
end VL
/-! VL7: a slot's own thing changed; slots stored. -/
namespace VL
open PySem PySem.Spec L2
section
variable {F : Fr} {env env' : EnvD} {σ : SV} {H : Hp}
theorem upS_shape {i : Nat} {d : D} (h : upS env i d = .ok env') : ∃ s d0 s', env[i]? = some s ∧ s.held = some d0 ∧ env' = env.set i s' ∧ s'.held = some d ∧ ((∃ x, s = .ow x) ∧ s' = .ow d ∨ (∃ x, s = .io x) ∧ s' = .io d) := by
  unfold upS at h
  cases q : env[i]? with
  | none => rw [q] at h; cases h
  | some s =>
    rw [q] at h
    cases s with
    | un => cases h
    | xc => cases h
    | sh d0 => cases h
    | ow d0 => cases h; exact ⟨_, d0, _, rfl, rfl, rfl, rfl, .inl ⟨⟨d0, rfl⟩, rfl⟩⟩
    | io d0 => cases h; exact ⟨_, d0, _, rfl, rfl, rfl, rfl, .inr ⟨⟨d0, rfl⟩, rfl⟩⟩
/-- where a held slot's thing stands -/
theorem Sim.held (S : Sim F env σ H) {i : Nat} {s : Slot} {d : D} (e : env[i]? = some s) (h : s.held = some d) : ∃ a, σ[i]? = some (some (V.ref a)) ∧ ¬ F.M0 a ∧ OwnRep (Mx F env σ) H d a := by
  cases s with
  | un => cases h
  | xc => cases h
  | sh d0 => cases h
  | ow d0 => cases h; obtain ⟨a, e1, m, _, r⟩ := S.ow i _ e; exact ⟨a, e1, m, r⟩
  | io d0 => cases h; obtain ⟨a, e1, m, _, r⟩ := S.io i _ e; exact ⟨a, e1, m, r⟩
theorem owns_up {i : Nat} {s s' : Slot} {d d' : D} (e : env[i]? = some s) (h : s.held = some d) (h' : s'.held = some d') (b : Addr) : Owns (env.set i s') σ b ↔ Owns env σ b := by
  have hi : i < env.length := (List.getElem?_eq_some_iff.mp e).1
  constructor
  · rintro ⟨j, t, x, e1, e2, e3⟩
    by_cases hj : j = i
    · subst hj
      rw [List.getElem?_set_self hi] at e1; cases e1
      exact ⟨j, s, d, e, h, e3⟩
    · rw [List.getElem?_set_ne (Ne.symm hj)] at e1
      exact ⟨j, t, x, e1, e2, e3⟩
  · rintro ⟨j, t, x, e1, e2, e3⟩
    by_cases hj : j = i
    · subst hj
      exact ⟨j, s', d', List.getElem?_set_self hi, h', e3⟩
    · exact ⟨j, t, x, by rw [List.getElem?_set_ne (Ne.symm hj)]; exact e1, e2, e3⟩
theorem mx_eq {e1 e2 : EnvD} (h : ∀ b, Owns e1 σ b ↔ Owns e2 σ b) : Mx F e1 σ = Mx F e2 σ := by
  unfold Mx
  congr 1
  funext b
  exact propext (or_congr_right (h b))
/-- the thing of a held slot is changed -/
theorem Sim.put {i : Nat} {d' : D} {a : Addr} {o : HO} (S : Sim F env σ H) (hu : upS env i d' = .ok env') (hv : σ[i]? = some (some (V.ref a))) (ho : OwnRep (Mx F env σ) (upd H a o) d' a) (nt : ∀ xs, o ≠ .tup xs) :
    Sim F env' σ (upd H a o) ∧ Step env σ H env' σ (upd H a o) := by
  obtain ⟨s, d0, s', e, hs, rfl, hs', hk⟩ := upS_shape hu
  obtain ⟨a', e1, m, r0⟩ := S.held e hs
  rw [hv] at e1; cases e1
  have hi : i < env.length := (List.getElem?_eq_some_iff.mp e).1
  have ow := owns_up (σ := σ) e hs hs'
  have hM : Mx F (env.set i s') σ = Mx F env σ := mx_eq ow
  have own : Owns env σ a := ⟨i, s, d0, e, hs, hv⟩
  have kp : Kp (Mx F env σ) H (Mx F env σ) (upd H a o) := ⟨rfl, fun b u q n => ⟨by
    rw [upd_ne (fun z => n (.inr (by rw [z]; exact own)))]; exact q, n⟩⟩
  have oth : ∀ {j t x b}, env[j]? = some t → Slot.held t = some x → σ[j]? = some (some (V.ref b)) → j ≠ i → b ≠ a := fun {j t x b} q1 q2 q3 hj z => by
    subst z
    exact hj (S.inj j i t s x d0 b q1 q2 e hs q3 hv)
  refine ⟨⟨by rw [List.length_set]; exact S.len, fun j x q => ?_, fun j x q => ?_, fun j x q => ?_, fun j k t u x y b q1 g1 q2 g2 => ?_, fun b q => ?_, fun b u q n => ?_, fun j b q => ?_, xc_set S (fun z => by subst z; cases hs')⟩, ⟨fun b u q n => ⟨?_, fun z => n ((ow b).mp z)⟩, fun b u q => ?_⟩⟩
  · rw [hM]
    by_cases hj : j = i
    · subst hj
      rw [List.getElem?_set_self hi] at q
      cases q; cases hs'
    · rw [List.getElem?_set_ne (Ne.symm hj)] at q
      obtain ⟨v, q1, r⟩ := S.sh j x q
      exact ⟨v, q1, r.mv kp⟩
  · rw [hM]
    by_cases hj : j = i
    · subst hj
      rw [List.getElem?_set_self hi] at q
      cases q
      have : x = d' := by cases hs'; rfl
      subst this
      rcases hk with ⟨⟨y, rfl⟩, _⟩ | ⟨_, z⟩
      · obtain ⟨b, q1, _, f, _⟩ := S.ow j _ e
        rw [hv] at q1; cases q1
        exact ⟨a, hv, m, f, ho⟩
      · cases z
    · rw [List.getElem?_set_ne (Ne.symm hj)] at q
      obtain ⟨b, q1, m', f, r⟩ := S.ow j x q
      exact ⟨b, q1, m', f, r.mv kp (upd_ne (oth q rfl q1 hj))⟩
  · rw [hM]
    by_cases hj : j = i
    · subst hj
      rw [List.getElem?_set_self hi] at q
      cases q
      have : x = d' := by cases hs'; rfl
      subst this
      rcases hk with ⟨_, z⟩ | ⟨⟨y, rfl⟩, _⟩
      · cases z
      · obtain ⟨b, q1, _, f, _⟩ := S.io j _ e
        rw [hv] at q1; cases q1
        exact ⟨a, hv, m, f, ho⟩
    · rw [List.getElem?_set_ne (Ne.symm hj)] at q
      obtain ⟨b, q1, m', f, r⟩ := S.io j x q
      exact ⟨b, q1, m', f, r.mv kp (upd_ne (oth q rfl q1 hj))⟩
  · have w : ∀ {j t x}, (env.set i s')[j]? = some t → Slot.held t = some x → ∃ t x, env[j]? = some t ∧ Slot.held t = some x := fun {j t x} q g => by
      by_cases hj : j = i
      · subst hj; exact ⟨s, d0, e, hs⟩
      · rw [List.getElem?_set_ne (Ne.symm hj)] at q; exact ⟨t, x, q, g⟩
    obtain ⟨t1, x1, w1, w2⟩ := w q1 g1
    obtain ⟨t2, x2, w3, w4⟩ := w q2 g2
    exact S.inj j k t1 t2 x1 x2 b w1 w2 w3 w4
  · obtain ⟨u, q1, n⟩ := S.m0 b q
    by_cases hb : b = a
    · exact absurd (hb ▸ q) m
    · exact ⟨u, by rw [upd_ne hb]; exact q1, n⟩
  · have q1 := S.keep b u q n
    by_cases hb : b = a
    · subst hb
      rcases hk with ⟨⟨y, rfl⟩, _⟩ | ⟨⟨y, rfl⟩, _⟩
      · obtain ⟨b', q2, _, f, _⟩ := S.ow i _ e
        rw [hv] at q2; cases q2
        rw [f] at q; cases q
      · obtain ⟨b', q2, _, f, _⟩ := S.io i _ e
        rw [hv] at q2; cases q2
        exact absurd f (n i)
    · rw [upd_ne hb]; exact q1
  · obtain ⟨x, q1, q2⟩ := S.iok j b q
    by_cases hj : j = i
    · subst hj
      rw [e] at q1; cases q1
      rcases hk with ⟨⟨y, z⟩, _⟩ | ⟨_, rfl⟩
      · cases z
      · exact ⟨d', List.getElem?_set_self hi, q2⟩
    · exact ⟨x, by rw [List.getElem?_set_ne (Ne.symm hj)]; exact q1, q2⟩
  · rw [upd_ne (fun z => n (by rw [z]; exact own))]; exact q
  · by_cases hb : b = a
    · exact ⟨o, by rw [hb, upd_same]⟩
    · exact ⟨u, by rw [upd_ne hb]; exact q⟩

/-! ### a name is stored -/
theorem stS_shape {i : Nat} {s : Slot} (h : stS env i s = .ok env') : i < env.length ∧ (∀ d, env[i]? ≠ some (.io d)) ∧ env' = env.set i s := by
  obtain ⟨c, e⟩ := chk_bind h
  obtain ⟨c1, c2⟩ := Bool.and_eq_true_iff.mp c
  cases e
  refine ⟨of_decide_eq_true c1, fun d q => ?_, rfl⟩
  unfold isIo at c2
  rw [q] at c2; cases c2
/-- a name is given data that is shared -/
theorem Sim.setSh {i : Nat} {d : D} {v : V} (S : Sim F env σ H) (h : stS env i (.sh d) = .ok env') (r : Rep (Mx F env σ) H d v) : Sim F env' (σ.set i (some v)) H ∧ Step env σ H env' (σ.set i (some v)) H := by
  obtain ⟨hi, nio, rfl⟩ := stS_shape h
  have hl : i < σ.length := by rw [S.len]; exact hi
  have sub : ∀ b, Owns (env.set i (.sh d)) (σ.set i (some v)) b → Owns env σ b := fun b ⟨j, t, x, e1, e2, e3⟩ => by
    by_cases hj : j = i
    · subst hj
      rw [List.getElem?_set_self hi] at e1; cases e1; cases e2
    · rw [List.getElem?_set_ne (Ne.symm hj)] at e1 e3
      exact ⟨j, t, x, e1, e2, e3⟩
  have kp : Kp (Mx F env σ) H (Mx F (env.set i (.sh d)) (σ.set i (some v))) H := ⟨rfl, fun b o e n => ⟨e, fun z => n (Or.elim z .inl fun z => .inr (sub b z))⟩⟩
  refine ⟨⟨by rw [List.length_set, List.length_set]; exact S.len, fun j x e => ?_, fun j x e => ?_, fun j x e => ?_, fun j k s t x y b e1 h1 e2 h2 e3 e4 => ?_, S.m0, S.keep, fun j b e => ?_, xc_set2 S (by simp)⟩, ⟨fun b o e n => ⟨e, fun z => n (sub b z)⟩, fun b o e => ⟨o, e⟩⟩⟩
  · by_cases hj : j = i
    · subst hj
      rw [List.getElem?_set_self hi] at e; cases e
      exact ⟨v, List.getElem?_set_self hl, r.mv kp⟩
    · rw [List.getElem?_set_ne (Ne.symm hj)] at e ⊢
      obtain ⟨w, e1, q⟩ := S.sh j x e
      exact ⟨w, e1, q.mv kp⟩
  · by_cases hj : j = i
    · subst hj
      rw [List.getElem?_set_self hi] at e; cases e
    · rw [List.getElem?_set_ne (Ne.symm hj)] at e ⊢
      obtain ⟨w, e1, m, f, q⟩ := S.ow j x e
      exact ⟨w, e1, m, f, q.mv kp rfl⟩
  · by_cases hj : j = i
    · subst hj
      rw [List.getElem?_set_self hi] at e; cases e
    · rw [List.getElem?_set_ne (Ne.symm hj)] at e ⊢
      obtain ⟨w, e1, m, f, q⟩ := S.io j x e
      exact ⟨w, e1, m, f, q.mv kp rfl⟩
  · by_cases hj : j = i
    · subst hj
      rw [List.getElem?_set_self hi] at e1; cases e1; cases h1
    · by_cases hk : k = i
      · subst hk
        rw [List.getElem?_set_self hi] at e2; cases e2; cases h2
      · rw [List.getElem?_set_ne (Ne.symm hj)] at e1 e3
        rw [List.getElem?_set_ne (Ne.symm hk)] at e2 e4
        exact S.inj j k s t x y b e1 h1 e2 h2 e3 e4
  · obtain ⟨x, e1, e2⟩ := S.iok j b e
    have hj : j ≠ i := fun z => by subst z; exact nio x e1
    exact ⟨x, by rw [List.getElem?_set_ne (Ne.symm hj)]; exact e1, by rw [List.getElem?_set_ne (Ne.symm hj)]; exact e2⟩
/-- a name is given a new thing -/
theorem Sim.setOw {i : Nat} {d : D} {a : Addr} (S : Sim (F.add a) env σ H) (h : stS env i (.ow d) = .ok env') (hf : F.H0 a = none) (nm : ¬ F.M0 a) (r : OwnRep (Mx (F.add a) env σ) H d a) :
    Sim F env' (σ.set i (some (.ref a))) H ∧ ∀ b o, H b = some o → ¬ Owns env σ b → b ≠ a → ¬ Owns env' (σ.set i (some (.ref a))) b := by
  obtain ⟨hi, nio, rfl⟩ := stS_shape h
  have hl : i < σ.length := by rw [S.len]; exact hi
  have na : ¬ Owns env σ a := not_mx_add S
  have sub : ∀ b, Owns (env.set i (.ow d)) (σ.set i (some (.ref a))) b → b = a ∨ Owns env σ b := fun b ⟨j, t, x, e1, e2, e3⟩ => by
    by_cases hj : j = i
    · subst hj
      rw [List.getElem?_set_self hl] at e3; cases e3; exact .inl rfl
    · rw [List.getElem?_set_ne (Ne.symm hj)] at e1 e3
      exact .inr ⟨j, t, x, e1, e2, e3⟩
  have kp : Kp (Mx (F.add a) env σ) H (Mx F (env.set i (.ow d)) (σ.set i (some (.ref a)))) H := ⟨rfl, fun b o e n => ⟨e, fun z => n (Or.elim z (fun z => .inl (.inl z)) fun z => (sub b z).elim (fun z => .inl (.inr z)) .inr)⟩⟩
  refine ⟨⟨by rw [List.length_set, List.length_set]; exact S.len, fun j x e => ?_, fun j x e => ?_, fun j x e => ?_, fun j k s t x y b e1 h1 e2 h2 e3 e4 => ?_, fun b z => S.m0 b (.inl z), S.keep, fun j b e => ?_, xc_set2 (F := F) S.weak (by simp)⟩, fun b o e n nb z => (sub b z).elim nb n⟩
  · by_cases hj : j = i
    · subst hj
      rw [List.getElem?_set_self hi] at e; cases e
    · rw [List.getElem?_set_ne (Ne.symm hj)] at e ⊢
      obtain ⟨w, e1, q⟩ := S.sh j x e
      exact ⟨w, e1, q.mv kp⟩
  · by_cases hj : j = i
    · subst hj
      rw [List.getElem?_set_self hi] at e; cases e
      exact ⟨a, List.getElem?_set_self hl, nm, hf, r.mv kp rfl⟩
    · rw [List.getElem?_set_ne (Ne.symm hj)] at e ⊢
      obtain ⟨w, e1, m, f, q⟩ := S.ow j x e
      exact ⟨w, e1, fun z => m (.inl z), f, q.mv kp rfl⟩
  · by_cases hj : j = i
    · subst hj
      rw [List.getElem?_set_self hi] at e; cases e
    · rw [List.getElem?_set_ne (Ne.symm hj)] at e ⊢
      obtain ⟨w, e1, m, f, q⟩ := S.io j x e
      exact ⟨w, e1, fun z => m (.inl z), f, q.mv kp rfl⟩
  · by_cases hj : j = i
    · by_cases hk : k = i
      · rw [hj, hk]
      · subst hj
        rw [List.getElem?_set_self hl] at e3; cases e3
        rw [List.getElem?_set_ne (Ne.symm hk)] at e2 e4
        exact absurd ⟨k, t, y, e2, h2, e4⟩ na
    · by_cases hk : k = i
      · subst hk
        rw [List.getElem?_set_self hl] at e4; cases e4
        rw [List.getElem?_set_ne (Ne.symm hj)] at e1 e3
        exact absurd ⟨j, s, x, e1, h1, e3⟩ na
      · rw [List.getElem?_set_ne (Ne.symm hj)] at e1 e3
        rw [List.getElem?_set_ne (Ne.symm hk)] at e2 e4
        exact S.inj j k s t x y b e1 h1 e2 h2 e3 e4
  · obtain ⟨x, e1, e2⟩ := S.iok j b e
    have hj : j ≠ i := fun z => by subst z; exact nio x e1
    exact ⟨x, by rw [List.getElem?_set_ne (Ne.symm hj)]; exact e1, by rw [List.getElem?_set_ne (Ne.symm hj)]; exact e2⟩
end
end VL
/-! VL8: does this code stand for this syntax? -/
namespace VL
open PySem PySem.Spec L2

structure CEnv where
  N : List Str
  sc : Scope
  fns : List (Str × Nat)
  gl : List (Str × D)
  bl : List Str
  cl : List Str
  cool : Bool := true
  xs : List Str := []
  hot : List (Str × Nat) := []
  xk : List (Str × Nat) := []
  rs : List Str := []
def visB (sc : Scope) (x : Str) : Bool := match sc.names.lookup x with
  | some .local => true
  | some .cell => true
  | some .free => true
  | _ => false
def locB (sc : Scope) (x : Str) : Bool := match sc.names.lookup x with
  | some .local => true
  | _ => false
def gloB (sc : Scope) (x : Str) : Bool := match sc.names.lookup x with
  | some .globalImplicit => true
  | _ => false
def cellB (sc : Scope) (x : Str) : Bool := match sc.names.lookup x with
  | some .cell => true
  | _ => false
/-- names that are stored as cells here -/
def cellsOf (sc : Scope) : List Str := (sc.names.map (·.1)).filter fun x => sc.names.lookup x == some .cell
def storeB (C : CEnv) (x : Str) : Bool := locB C.sc x || (decide (x ∈ C.cl) && cellB C.sc x)
def nameOk (x : Str) : Bool := !(x == ("__debug__" : Str)) && !(x == ("__classdict__" : Str)) && !decide (x = "__name__")
def litB : D → Const → Bool
  | .non, .none => true
  | .bl b, .bool c => b == c
  | .int i, .int j => decide (i = j)
  | .str x, .str y => decide (x = y)
  | _, _ => false
def glB (gl : List (Str × D)) (x : Str) (d : D) : Bool := match gl.lookup x, d with
  | some (.int i), .int j => decide (i = j)
  | some (.str i), .str j => decide (i = j)
  | _, _ => false
def opEq (a b : Operator) : Bool := decide (a = b)
def noComp : Expr → Bool
  | .ListComp .. => false
  | .SetComp .. => false
  | .DictComp .. => false
  | _ => true
def noStar : Expr → Bool
  | .Starred .. => false
  | _ => true
def noSet : Expr → Bool
  | .Set .. => false
  | _ => true
def noSlice : Expr → Bool
  | .Slice .. => false
  | _ => true
/-- what a method may be called on -/
def isName : Expr → Bool
  | .Name .. => true
  | .Call (.Name ..) (_ :: _) .. => true
  | .Subscript .. => true
  | .ListComp .. => true
  | .List .. => true
  | .Tuple .. => true
  | .BinOp .. => true
  | _ => false
def isTup : Expr → Bool
  | .Tuple .. => true
  | _ => false
def Bf.nm : Bf → Str
  | .len => "len" | .sum => "sum" | .max1 => "max" | .min1 => "min" | .max2 => "max" | .min2 => "min" | .all => "all" | .any => "any" | .abs => "abs"
  | .int1 => "int" | .str1 => "str" | .list1 => "list" | .tuple1 => "tuple" | .sorted1 => "sorted" | .sortedP => "sorted" | .sortedD => "sorted" | .divmod => "divmod" | .dict1 => "dict" | .rpr => "repr"
def Ty.nm : Ty → Str
  | .int => "int" | .bool => "bool" | .str => "str" | .tuple => "tuple" | .list => "list" | .dict => "dict"
def nmB (C : CEnv) (x y : Str) : Bool := decide (x = y) && gloB C.sc x && decide (x ∈ C.bl)
def Tg.ok (C : CEnv) : Tg → Expr → Bool
  | .one i, .Name x _ => decide (C.N[i]? = some x) && storeB C x
  | .many is, .Tuple es _ _ => C.cool && tgL C is es
  | _, _ => false
where tgL (C : CEnv) : List Nat → List Expr → Bool
  | [], [] => true
  | i :: is, .Name x _ :: es => decide (C.N[i]? = some x) && storeB C x && tgL C is es
  | _, _ => false
/-- the names of a target, with their places -/
def Tg.own (C : CEnv) (t : Tg) : List (Str × Nat) := t.slots.filterMap fun i => (C.N[i]?).map fun x => (x, i)
def Mt.nm : Mt → Str
  | .get1 => "get" | .get2 => "get" | .count => "count" | .index => "index"
def Mt.len : Mt → Nat
  | .get1 => 1 | .get2 => 2 | .count => 1 | .index => 1
mutual
def okE (C : CEnv) : CE → Expr → Bool
  | .var i, e => (match e with
    | .Name x _ => decide (C.N[i]? = some x) && visB C.sc x
    | _ => false)
  | .lit d, e => (match e with
    | .Constant c _ _ => litB d c
    | .Name x _ => glB C.gl x d && gloB C.sc x
    | _ => false)
  | .op o a b, e => (match e with
    | .BinOp l op r _ => opEq (opB o) op && (okE C a l && okE C b r)
    | _ => false)
  | .neg a, e => (match e with
    | .UnaryOp op e _ => decide (op = .USub) && okE C a e
    | _ => false)
  | .notb a, e => (match e with
    | .UnaryOp op e _ => decide (op = .Not) && okE C a e
    | _ => false)
  | .cmp c a b, e => (match e with
    | .Compare l ops rs _ => (match ops, rs with
      | [op], [r] => decide (cmB c = op) && (okE C a l && (okE C b r && noSet r))
      | _, _ => false)
    | _ => false)
  | .chn c c' a b d, e => (match e with
    | .Compare l ops rs _ => (match ops, rs with
      | [op, op'], [r, r'] => decide (cmB c = op) && (decide (cmB c' = op') && (okE C a l && (okE C b r && (okE C d r' && noSet r'))))
      | _, _ => false)
    | _ => false)
  | .andb es, e => (match e with
    | .BoolOp op xs _ => decide (op = .And) && (okL C es xs && !es.isEmpty)
    | _ => false)
  | .orb es, e => (match e with
    | .BoolOp op xs _ => decide (op = .Or) && (okL C es xs && !es.isEmpty)
    | _ => false)
  | .ife t a b, e => (match e with
    | .IfExp t' a' b' _ => okE C t t' && (okE C a a' && okE C b b')
    | _ => false)
  | .tup es, e => (match e with
    | .Tuple xs _ _ => okL C es xs
    | _ => false)
  | .lst es, e => (match e with
    | .List xs _ => okL C es xs
    | _ => false)
  | .dnew _, e => (match e with
    | .Dict ks vs _ => ks.isEmpty && vs.isEmpty
    | _ => false)
  | .dsp ks vs, e => (match e with
    | .Dict [some (.Constant c _ _)] [.Constant c' _ _] _ => (match dspO ks vs with
      | some q => litB (.str q.1) c && litB (.int q.2) c'
      | none => false)
    | .Dict [some (.Name x _)] [.Constant c' _ _] _ => (match dspO ks vs, dspV ks vs with
      | none, some q => decide (C.N[q.1]? = some x) && (visB C.sc x && litB q.2 c')
      | _, _ => false)
    | _ => false)
  | .dspG _ es, e => (match e with
    | .Dict ks vs _ => okPr C es ks vs && (!es.isEmpty && decide (es.length ≤ 30))
    | _ => false)
  | .idx a b, e => (match e with
    | .Subscript l r _ => okE C a l && (okE C b r && noSlice r)
    | _ => false)
  | .slc a lo hi, e => (match e with
    | .Subscript l r _ => (match r with
      | .Slice lo' hi' none _ => okE C a l && (okO C lo lo' && okO C hi hi')
      | _ => false)
    | _ => false)
  | .rev a, e => (match e with
    | .Subscript l r _ => (match r with
      | .Slice none none (some (.UnaryOp .USub (.Constant (.int 1) _ _) _)) _ => okE C a l
      | _ => false)
    | _ => false)
  | .isi a t, e => (match e with
    | .Call (.Name f _) [x, .Name ty _] [] _ => nmB C f "isinstance" && (nmB C ty t.nm && okE C a x)
    | _ => false)
  | .call f es, e => (match e with
    | .Call (.Name x _) xs [] _ => decide (C.fns.lookup x = some f) && (gloB C.sc x && (okL C es xs && (!es.isEmpty && (C.cool || decide (C.hot.lookup x = some f)))))
    | _ => false)
  | .blt b es, e => (match e with
    | .Call (.Name x _) xs [] _ => nmB C x b.nm && (okL C es xs && (!es.isEmpty && (C.cool || !b.calm)))
    | _ => false)
  | .inr t a b, e => (match e with
    | .Compare l ops rs _ => (match ops, rs with
      | [op], [.Call (.Name y _) [r] [] _] => decide ((if t then CmpOp.NotIn else CmpOp.In) = op) && (okE C a l && (okE C b r && nmB C y "range"))
      | _, _ => false)
    | _ => false)
  | .rngL t es, e => (match e with
    | .Call (.Name x _) [.Call (.Name y _) xs [] _] [] _ => nmB C x (if t then "tuple" else "list") && (nmB C y "range" && (okL C es xs && ((decide (es.length = 1) || decide (es.length = 2)) && C.cool)))
    | _ => false)
  | .mth m o es, e => (match e with
    | .Call (.Attribute x n apos) xs [] cpos => decide (n = m.nm) && (okE C o x && (okL C es xs && (decide (es.length = m.len) && (isName x && (apos.endLine == cpos.line)))))
    | _ => false)
  | .pop i es, e => (match e with
    | .Call (.Attribute (.Name x _) n apos) xs [] cpos => decide (n = "pop") && (decide (C.N[i]? = some x) && (visB C.sc x && (okL C es xs && (decide (es.length ≤ 1) && (apos.endLine == cpos.line)))))
    | _ => false)
  | .lc elt tg it c, e => (match e with
    | .ListComp x [⟨t, i, ifs, 0⟩] sc' _ => C.cool && (okI C t it i && (blkC C.N C.sc sc' (tg.own C) && (decide ((tg.own C).map (·.2) = tg.slots) && (tg.ok { C with sc := relS sc' C.sc, cl := cellsOf sc' } t && (okC { C with sc := relS sc' C.sc, cl := cellsOf sc' } c ifs && okE { C with sc := relS sc' C.sc, cl := cellsOf sc' } elt x)))))
    | _ => false)
  | .lcD elt tg i c, e => (match e with
    | .ListComp x [⟨t, .Name y _, ifs, 0⟩] sc' _ => C.cool && (decide (C.N[i]? = some y) && (visB C.sc y && (blkC C.N C.sc sc' (tg.own C) && (decide ((tg.own C).map (·.2) = tg.slots) && (tg.ok { C with sc := relS sc' C.sc, cl := cellsOf sc' } t && (okC { C with sc := relS sc' C.sc, cl := cellsOf sc' } c ifs && okE { C with sc := relS sc' C.sc, cl := cellsOf sc' } elt x))))))
    | _ => false)
  | .keep _ a, e => noStar e && okE C a e
  | .callO f es, e => (match e with
    | .Call (.Name x _) xs [] _ => decide (C.fns.lookup x = some f) && (gloB C.sc x && (okL C es xs && (!es.isEmpty && C.cool)))
    | _ => false)
  | .srt a, e => (match e with
    | .Call (.Name x _) [.Call (.Name y _) [b] [] _] [] _ => nmB C x "sorted" && (nmB C y "set" && (okE C a b && C.cool))
    | _ => false)
  | .xis i x, e => (match e with
    | .Call (.Name f _) [.Name n _, .Name c _] [] _ => nmB C f "isinstance" && (decide (C.N[i]? = some n) && (visB C.sc n && (decide (c = x) && (gloB C.sc c && (!C.cool && (decide (x ∈ C.rs) || (decide (x = "ValueError") && decide (x ∈ C.bl))))))))
    | _ => false)
  | .xcl f i, e => (match e with
    | .Call (.Name x _) [.Name n _] [] _ => decide (C.xk.lookup x = some f) && (gloB C.sc x && (decide (C.N[i]? = some n) && (visB C.sc n && !C.cool)))
    | _ => false)
termination_by structural c => c
/-- keys and values in turn -/
def okPr (C : CEnv) : List CE → List (Option Expr) → List Expr → Bool
  | [], ks, vs => ks.isEmpty && vs.isEmpty
  | k :: r, ks, vs => (match r, ks, vs with
    | v :: r', some k' :: ks, v' :: vs => okE C k k' && (okE C v v' && okPr C r' ks vs)
    | _, _, _ => false)
termination_by structural c => c
def okL (C : CEnv) : List CE → List Expr → Bool
  | [], xs => xs.isEmpty
  | c :: cs, xs => (match xs with
    | e :: es => okE C c e && okL C cs es
    | [] => false)
termination_by structural c => c
def okO (C : CEnv) : Option CE → Option Expr → Bool
  | none, o => o.isNone
  | some c, o => (match o with
    | some e => okE C c e
    | none => false)
termination_by structural c => c
def okC (C : CEnv) : Option CE → List Expr → Bool
  | none, o => o.isEmpty
  | some c, o => (match o with
    | [e] => okE C c e
    | _ => false)
termination_by structural c => c
def okI (C : CEnv) (tgt : Expr) : CI → Expr → Bool
  | .seq a, e => okE C a e && noSet e
  | .rng es, e => (match e with
    | .Call (.Name x _) xs [] _ => nmB C x "range" && (okL C es xs && (decide (es.length = 1) || (decide (es.length = 2) || decide (es.length = 3))))
    | _ => false)
  | .enm a, e => (match e with
    | .Call (.Name x _) [e] [] _ => nmB C x "enumerate" && (okE C a e && isTup tgt)
    | _ => false)
  | .zip a b, e => (match e with
    | .Call (.Name x _) [e1, e2] [] _ => nmB C x "zip" && (okE C a e1 && (okE C b e2 && isTup tgt))
    | _ => false)
  | .rvd a, e => (match e with
    | .Call (.Name x _) [e] [] _ => nmB C x "reversed" && okE C a e
    | _ => false)
  | .dky _, _ => false
termination_by structural c => c
end

/-! ### what the syntax alone gives -/
theorem okE_star {C : CEnv} {c : CE} {e : Expr} (h : okE C c e = true) : noStar e = true := by
  cases e with
  | Starred v p => cases c <;> first | (cases h; done) | (simp [okE, okI] at h; done)
  | _ => rfl
theorem star1 {e : Expr} {es : List Expr} {env : Env} (h : noStar e = true) : starEach (e :: es) env = (false, eval e env) :: starEach es env := by
  cases e <;> first | rfl | (cases h; done)
theorem okL_star {C : CEnv} : ∀ {cs : List CE} {es : List Expr}, okL C cs es = true → ∀ env pos, (backTo pos (starEach es env)).any (·.1) = false
  | [], [], _, _, _ => rfl
  | [], _ :: _, h, _, _ => by cases h
  | _ :: _, [], h, _, _ => by cases h
  | c :: cs, e :: es, h, env, pos => by
    have h' : (okE C c e && okL C cs es) = true := h
    obtain ⟨h1, h2⟩ := Bool.and_eq_true_iff.mp h'
    rw [star1 (okE_star h1)]
    show ((false : Bool) || (backTo pos (starEach es env)).any (·.1)) = false
    rw [okL_star h2 env pos]
    rfl
theorem plainIx_of {e : Expr} (h : noSlice e = true) : PlainIx e := by
  intro o i
  cases e <;> first | rfl | (cases h; done)
theorem marks_of {e : Expr} (h : noSet e = true) (op : CmpOp) : behindInMarks op e = false := by
  cases e <;> first | rfl | (cases h; done)
theorem lastMarks_of {a b : Expr} {op op' : CmpOp} (h : noSet b = true) : lastMarks [op, op'] [a, b] = false := marks_of h op'
theorem swaps_of {e : Expr} (h : noComp e = true) (t : Option Expr) (l : Nat) (env : Env) : swapsWith e t l env = pure false := by
  cases e <;> first | rfl | (cases h; done)
theorem folded_of {e : Expr} (h : noSet e = true) (env : Env) (x : Value) : foldedSetIterable e env x = pure x := by
  cases e <;> first | rfl | (cases h; done)
theorem base_name {e : Expr} (h : isName e = true) (m : Str) (env : Env) (w : Sem Value) : attributeBase e m env w = w := by
  unfold isName at h
  split at h <;> first | rfl | (cases h; done)
theorem visB_vis {env : Env} {sc : Scope} {x : Str} (e : env.scope = sc) (h : visB sc x = true) : Vis env.scope x := by
  rw [e]
  unfold visB at h
  unfold Vis
  cases q : sc.names.lookup x with
  | none => rw [q] at h; cases h
  | some k => rw [q] at h; cases k <;> first | cases h; done | simp
theorem locB_loc {env : Env} {sc : Scope} {x : Str} (e : env.scope = sc) (h : locB sc x = true) : env.scope.names.lookup x = some .local := by
  rw [e]
  unfold locB at h
  cases q : sc.names.lookup x with
  | none => rw [q] at h; cases h
  | some k => rw [q] at h; cases k <;> first | cases h; done | rfl
theorem cellB_cell {env : Env} {sc : Scope} {x : Str} (e : env.scope = sc) (h : cellB sc x = true) : env.scope.names.lookup x = some .cell := by
  rw [e]
  unfold cellB at h
  cases q : sc.names.lookup x with
  | none => rw [q] at h; cases h
  | some k => rw [q] at h; cases k <;> first | cases h; done | rfl
theorem cellsOf_mem {sc : Scope} {x : Str} (h : x ∈ cellsOf sc) : (sc.names.lookup x == some .cell) = true := (List.mem_filter.mp h).2
theorem gloB_gl {X : Cx} {sc : Scope} {x : Str} (e : X.env.scope = sc) (h : gloB sc x = true) : Gl X x := by
  unfold Gl Env.kindOf
  rw [e]
  unfold gloB at h
  cases q : sc.names.lookup x with
  | none => rw [q] at h; cases h
  | some k => rw [q] at h; cases k <;> first | cases h; done | rfl
end VL
/-! VL9: expressions: what the code does is what the machine does. -/
namespace VL
open PySem PySem.Spec L2

/-! ### what a def promises -/
def ioA : List Bool → List V → List Addr
  | true :: fl, .ref a :: vs => a :: ioA fl vs
  | _ :: fl, _ :: vs => ioA fl vs
  | _, _ => []
def ArgsR (M : Av) (H : Hp) : List Bool → List D → List V → Prop
  | [], ds, vs => ds = [] ∧ vs = []
  | true :: fl, ds, vs => ∃ d ds' a vs', ds = d :: ds' ∧ vs = .ref a :: vs' ∧ M a ∧ OwnRep M H d a ∧ ArgsR M H fl ds' vs'
  | false :: fl, ds, vs => ∃ d ds' v vs', ds = d :: ds' ∧ vs = v :: vs' ∧ Rep M H d v ∧ ArgsR M H fl ds' vs'
def IosR (M : Av) (H : Hp) : List Bool → List D → List V → Prop
  | [], ios, vs => ios = [] ∧ vs = []
  | true :: fl, ios, vs => ∃ d ios' a vs', ios = d :: ios' ∧ vs = .ref a :: vs' ∧ OwnRep M H d a ∧ IosR M H fl ios' vs'
  | false :: fl, ios, vs => ∃ v vs', vs = v :: vs' ∧ IosR M H fl ios vs'
def Av.add (M : Av) (a : Addr) : Av := ⟨M.K, fun b => M b ∨ b = a⟩
def CallPost (M : Av) (H : Hp) (fl : List Bool) (vs : List V) (q : FRes) (v : V) (H' : Hp) : Prop :=
  (∀ b o, H b = some o → b ∉ ioA fl vs → H' b = some o) ∧
  if q.own then ∃ a, v = .ref a ∧ H a = none ∧ OwnRep (M.add a) H' q.d a ∧ IosR (M.add a) H' fl q.ios vs
  else Rep M H' q.d v ∧ IosR M H' fl q.ios vs
/-- an exception, as the machine has it -/
def XRep (mg : Str → Option Value) (xs : List Str) (x : Ex) (C : Value) (d : Option Addr) : Prop := mg x.cls = some C ∧ x.cls ∈ xs ∧ x.fs = [] ∧ d = none
def spF (K : PySem.W.Frag) (mg : Str → Option Value) (xs : List Str) (fl : List Bool) (call : List D → Res FRes) : Sp := fun vs H Q E =>
  vs.length = fl.length ∧ ∃ (M : Av) (ds : List D), M.K = K ∧ (∀ b, M b → ∃ o, H b = some o ∧ ∀ xs, o ≠ .tup xs) ∧ ArgsR M H fl ds vs ∧ (ioA fl vs).Nodup ∧
    ((∃ q, call ds = .ok q ∧ ∀ v H', CallPost M H fl vs q v H' → Q v H') ∨
     ∃ x, call ds = .exc x ∧ fl.all (fun b => !b) = true ∧ ∀ C d H', (∀ b o, H b = some o → H' b = some o) → XRep mg xs x C d → E C d H')
/-- what a raised thing, a thing gone wrong, an answer is to bring -/
def WPr {α : Type} (m : Res α) (P : α → Prop) (Px : Ex → Prop) : Prop := match m with
  | .ok a => P a
  | .exc x => Px x
  | .fail => False
section
variable {α β : Type}
theorem WPr.of_ok {m : Res α} {a : α} {P : α → Prop} {Px : Ex → Prop} (e : m = .ok a) (h : P a) : WPr m P Px := by subst e; exact h
theorem WPr.b {m : Res α} {f : α → Res β} {P : β → Prop} {Px : Ex → Prop} (h : WPr (m >>= f) P Px) : WPr m (fun a => WPr (f a) P Px) Px := by
  cases m with
  | ok a => exact h
  | exc x => exact h
  | fail => exact h
theorem WPr.mono {m : Res α} {P P' : α → Prop} {Px Px' : Ex → Prop} (h : WPr m P Px) (k : ∀ a, m = .ok a → P a → P' a) (kx : ∀ x, Px x → Px' x) : WPr m P' Px' := by
  cases m with
  | ok a => exact k a rfl h
  | exc x => exact kx x h
  | fail => exact h
/-- one step: its answer a, and the rest -/
theorem WPr.seq {m : Res α} {f : α → Res β} {P : β → Prop} {P' : α → Prop} {Px Px' : Ex → Prop} (h : WPr (m >>= f) P Px) (kx : ∀ x, Px x → Px' x) (k : ∀ a, m = .ok a → WPr (f a) P Px → P' a) : WPr m P' Px' := h.b.mono k kx
structure NX {α : Type} (m : Res α) : Prop where
  n : ∀ x, m ≠ .exc x
theorem WPr.pure {m : Res α} {f : α → Res β} {P : β → Prop} {Px : Ex → Prop} (n : NX m) (h : WPr (m >>= f) P Px) : ∃ a, m = .ok a ∧ WPr (f a) P Px := by
  cases m with
  | ok a => exact ⟨a, rfl, h⟩
  | exc x => exact absurd rfl (n.n x)
  | fail => exact h.elim
theorem WPr.ok {m : Res α} {P : α → Prop} {Px : Ex → Prop} (n : NX m) (h : WPr m P Px) : ∃ a, m = .ok a ∧ P a := by
  cases m with
  | ok a => exact ⟨a, rfl, h⟩
  | exc x => exact absurd rfl (n.n x)
  | fail => exact h.elim
theorem nx_noX (m : Res α) : NX (noX m) := ⟨fun x => by cases m <;> simp [noX]⟩
theorem nx_ok (a : α) : NX (.ok a) := ⟨fun x => by simp⟩
theorem nx_fail : NX (.fail : Res α) := ⟨fun x => by simp⟩
theorem nx_chk (b : Bool) : NX (chk b) := ⟨fun x => by unfold VL.chk; split <;> simp⟩
theorem nx_ofO (o : Option α) : NX (ofO o) := ⟨fun x => by cases o <;> simp⟩
theorem NX.bind {m : Res α} {f : α → Res β} (h : NX m) (k : ∀ a, NX (f a)) : NX (m >>= f) := by
  cases m with
  | ok a => exact k a
  | exc x => exact absurd rfl (h.n x)
  | fail => exact nx_fail
theorem NX.ite {p : Prop} [Decidable p] {a b : Res α} (ha : NX a) (hb : NX b) : NX (if p then a else b) := by split <;> assumption
theorem WPr.chk {b : Bool} {f : Unit → Res β} {P : β → Prop} {Px : Ex → Prop} (h : WPr (VL.chk b >>= f) P Px) : b = true ∧ WPr (f ()) P Px := by
  cases b with
  | true => exact ⟨rfl, h⟩
  | false => exact h.elim
theorem WPr.ofO {o : Option α} {f : α → Res β} {P : β → Prop} {Px : Ex → Prop} (h : WPr (VL.ofO o >>= f) P Px) : ∃ a, o = some a ∧ WPr (f a) P Px := by
  cases o with
  | some a => exact ⟨a, rfl, h⟩
  | none => exact h.elim
end
theorem nx_rd (env : EnvD) (i : Nat) : NX (rd env i) := nx_ofO _
theorem nx_frc (env : EnvD) (r : R) : NX (frc env r) := by cases r <;> first | exact nx_ok _ | exact nx_rd ..
theorem nx_escI (env : EnvD) (i : Nat) : NX (escI env i) := by unfold escI; split <;> first | exact nx_ok _ | exact nx_fail
theorem nx_esc (env : EnvD) (r : R) : NX (esc env r) := by
  cases r with
  | dat d => exact nx_ok _
  | own d => exact nx_ok _
  | slot i => exact (nx_rd ..).bind fun _ => (nx_escI ..).bind fun _ => nx_ok _
theorem nx_frcs (env : EnvD) : ∀ rs, NX (frcs env rs)
  | [] => nx_ok _
  | r :: rs => (nx_frc ..).bind fun _ => (nx_frcs env rs).bind fun _ => nx_ok _
theorem nx_upS (env : EnvD) (i : Nat) (d : D) : NX (upS env i d) := by unfold upS; split <;> first | exact nx_ok _ | exact nx_fail
theorem nx_escs : ∀ (env : EnvD) (is : List Nat), NX (escs env is)
  | _, [] => nx_ok _
  | env, i :: is => (nx_escI ..).bind fun e => nx_escs e is
theorem nx_ups : ∀ (env : EnvD) (is : List Nat) (ds : List D), NX (ups env is ds)
  | _, [], [] => nx_ok _
  | _, [], _ :: _ => nx_fail
  | _, _ :: _, [] => nx_fail
  | env, i :: is, d :: ds => (nx_upS ..).bind fun e => nx_ups e is ds
theorem nx_stS (env : EnvD) (i : Nat) (s : Slot) : NX (stS env i s) := (nx_chk _).bind fun _ => nx_ok _
theorem nx_many : ∀ (env : EnvD) (is : List Nat) (ds : List D), NX (bindTg.bindMany env is ds)
  | _, [], [] => nx_ok _
  | _, [], _ :: _ => nx_fail
  | _, _ :: _, [] => nx_fail
  | env, i :: is, d :: ds => (nx_stS ..).bind fun e => nx_many e is ds
theorem nx_bindTg (env : EnvD) (tg : Tg) (d : D) : NX (bindTg env tg d) := by
  cases tg with
  | one i => exact nx_stS ..
  | many is => cases d <;> first | exact nx_many .. | exact nx_fail
/-- data's own doings raise nothing -/
theorem nx_opD (o : Op) (a b : D) : NX (opD o a b) := by unfold opD; split <;> (repeat' (first | exact nx_ok _ | exact nx_fail | exact nx_chk _ | exact nx_ofO _ | (refine NX.bind ?_ fun _ => ?_) | (refine NX.ite ?_ ?_) | split))
theorem nx_getD (d k : D) : NX (getD d k) := by unfold getD; split <;> (repeat' (first | exact nx_ok _ | exact nx_fail | exact nx_chk _ | exact nx_ofO _ | (refine NX.bind ?_ fun _ => ?_) | (refine NX.ite ?_ ?_) | split))
theorem nx_inSeq (x : D) (ds : List D) : NX (inSeq x ds) := by unfold inSeq; (repeat' (first | exact nx_ok _ | exact nx_fail | exact nx_chk _ | exact nx_ofO _ | (refine NX.bind ?_ fun _ => ?_) | (refine NX.ite ?_ ?_) | split))
theorem nx_inSeqT (x : D) (ds : List D) : NX (inSeqT x ds) := by
  unfold inSeqT
  split
  · exact (nx_chk _).bind fun _ => nx_ok _
  · exact nx_inSeq ..
theorem nx_inD (x d : D) : NX (inD x d) := by
  unfold inD
  split <;> first
    | exact nx_inSeqT ..
    | exact nx_inSeq ..
    | exact (nx_getD ..).bind fun _ => nx_ok _
    | exact nx_fail
theorem nx_eqD (a b : D) : NX (eqD a b) := by unfold eqD; (repeat' (first | exact nx_ok _ | exact nx_fail | exact nx_chk _ | exact nx_ofO _ | (refine NX.bind ?_ fun _ => ?_) | (refine NX.ite ?_ ?_) | split))
theorem nx_ltI (f : Int → Int → Bool) (a b : D) : NX (ltI f a b) := by unfold ltI; split <;> (repeat' (first | exact nx_ok _ | exact nx_fail | exact nx_chk _ | exact nx_ofO _ | (refine NX.bind ?_ fun _ => ?_) | (refine NX.ite ?_ ?_) | split))
theorem nx_cmD (c : Cm) (a b : D) : NX (cmD c a b) := by
  unfold cmD
  split <;> first
    | exact nx_eqD ..
    | exact (nx_eqD ..).bind fun _ => nx_ok _
    | exact nx_ltI ..
    | exact nx_inD ..
    | exact (nx_inD ..).bind fun _ => nx_ok _
    | exact nx_ok _
    | exact nx_fail
theorem nx_idxD (d k : D) : NX (idxD d k) := by
  unfold idxD
  split <;> first
    | exact nx_ofO _
    | exact (nx_getD ..).bind fun _ => nx_ofO _
    | (repeat' (first | exact nx_ok _ | exact nx_fail | exact nx_chk _ | exact nx_ofO _ | (refine NX.bind ?_ fun _ => ?_) | (refine NX.ite ?_ ?_) | split))
theorem nx_slcD (d : D) (l h : Option Int) : NX (slcD d l h) := by unfold slcD; split <;> (repeat' (first | exact nx_ok _ | exact nx_fail | exact nx_chk _ | exact nx_ofO _ | (refine NX.bind ?_ fun _ => ?_) | (refine NX.ite ?_ ?_) | split))
theorem nx_bfD (b : Bf) (ds : List D) : NX (bfD b ds) := by unfold bfD; split <;> (repeat' (first | exact nx_ok _ | exact nx_fail | exact nx_chk _ | exact nx_ofO _ | (refine NX.bind ?_ fun _ => ?_) | (refine NX.ite ?_ ?_) | split))
theorem nx_inrD (a b : D) : NX (inrD a b) := by unfold inrD; split <;> (repeat' (first | exact nx_ok _ | exact nx_fail))
theorem nx_rngD (ds : List D) : NX (rngD ds) := by unfold rngD; split <;> (repeat' (first | exact nx_ok _ | exact nx_fail | exact nx_chk _ | exact nx_ofO _ | (refine NX.bind ?_ fun _ => ?_) | (refine NX.ite ?_ ?_) | split))
theorem nx_mtD (m : Mt) (d : D) (ds : List D) : NX (mtD m d ds) := by
  unfold mtD
  split <;> first
    | exact (nx_getD ..).bind fun _ => nx_ok _
    | (unfold cntD; (repeat' (first | exact nx_ok _ | exact nx_fail | exact nx_chk _ | exact nx_ofO _ | (refine NX.bind ?_ fun _ => ?_) | (refine NX.ite ?_ ?_) | split)))
    | (unfold cntF; (repeat' (first | exact nx_ok _ | exact nx_fail | exact nx_chk _ | exact nx_ofO _ | (refine NX.bind ?_ fun _ => ?_) | (refine NX.ite ?_ ?_) | split)))
    | (unfold idxF; (repeat' (first | exact nx_ok _ | exact nx_fail | exact nx_chk _ | exact nx_ofO _ | (refine NX.bind ?_ fun _ => ?_) | (refine NX.ite ?_ ?_) | split)))
    | exact nx_fail
theorem nx_muD (m : Mu) (d : D) (ds : List D) : NX (muD m d ds) := by unfold muD; split <;> (repeat' (first | exact nx_ok _ | exact nx_fail | exact nx_chk _ | exact nx_ofO _ | (refine NX.bind ?_ fun _ => ?_) | (refine NX.ite ?_ ?_) | split))
theorem nx_putD (d k v : D) : NX (putD d k v) := by unfold putD; split <;> (repeat' (first | exact nx_ok _ | exact nx_fail | exact nx_chk _ | exact nx_ofO _ | (refine NX.bind ?_ fun _ => ?_) | (refine NX.ite ?_ ?_) | split))
theorem nx_popD (d : D) (ds : List D) : NX (popD d ds) := by unfold popD; split <;> (repeat' (first | exact nx_ok _ | exact nx_fail | exact nx_chk _ | exact nx_ofO _ | (refine NX.bind ?_ fun _ => ?_) | (refine NX.ite ?_ ?_) | split))

/-! ### the context -/
/-- what the readings hang on: the written part, the module's names, the wish for exceptions, where a handled one stands -/
structure YW where
  K : PySem.W.Frag
  mg : Str → Option Value
  W : WX
  xa : Addr
  xs : List Str
structure FY (F : Fr) (Y : YW) : Prop where
  K : F.K = Y.K
  xa : F.xa = Y.xa
theorem FY.add {F : Fr} {Y : YW} (h : FY F Y) (a : Addr) : FY (F.add a) Y := ⟨h.K, h.xa⟩
/-- the wish for an exception, from an expression -/
def XP (Y : YW) (F : Fr) (env : EnvD) (σ : SV) (H : Hp) (x : Ex) : Prop := ∀ H', Sim F x.env σ H' → Step env σ H x.env σ H' → ∀ C d, XRep Y.mg Y.xs x C d → Y.W C d σ H'
theorem XP.after {Y : YW} {F : Fr} {env e1 : EnvD} {σ : SV} {H H1 : Hp} {x : Ex} (s : Step env σ H e1 σ H1) (h : XP Y F env σ H x) : XP Y F e1 σ H1 x := fun H' S st => h H' S (s.trans st)
structure FnE (P : Program) (w : World) (K : PySem.W.Frag) (mg : Str → Option Value) (base : Heap) (CX : CXT) (k : Nat) (f : Addr) (fd : FuncData) (ps : List Str) (sp : Addr × Obj → Sp) : Prop where
  le : ∀ p vs H Q E, sp p vs H Q E → vs.length = ps.length
  go : ∀ A outer s H args us vs Q E p, L2H.RoomH k A → L2H.Hot1 A p → L2H.PinOk outer H s p → Env0 P w K mg base A outer s H → BindsTo s fd args (ps.zip us) → Vals vs us → sp p vs H Q E →
    codeAny (model P w) A (.call (.ref f) args) (CR CX outer P w H s Q E) s
/-- what a def promises where no display is being told -/
structure FnG (P : Program) (w : World) (K : PySem.W.Frag) (mg : Str → Option Value) (base : Heap) (CX : CXT) (k : Nat) (f : Addr) (fd : FuncData) (ps : List Str) (sp : Sp) : Prop where
  le : ∀ vs H Q E, sp vs H Q E → vs.length = ps.length
  go : ∀ A outer s H args us vs Q E, Room k A → A.guards = some [] → Env0 P w K mg base A outer s H → BindsTo s fd args (ps.zip us) → Vals vs us → sp vs H Q E →
    codeAny (model P w) A (.call (.ref f) args) (CR CX outer P w H s Q E) s
structure FnAt (T : Tb) (X : Cx) (xs : List Str) (x : Str) (f k : Nat) (a : Addr) (fd : FuncData) (ps : List Str) : Prop where
  ok : FnG X.prog X.w X.K X.mg X.base (L2N.CX X.prog X.w) k a fd ps (spF X.K X.mg xs (T.fl f) (T.call f))
  room : Room k X.A
  mg : X.mg x = some (.ref a)
  kp : PySem.W.keepIn X.K (.ref a) = true
  bd : Binds X.K fd ps []
  nm : nameOk x = true
/-- an exception of the class c without parts: what is known of its object -/
structure XObj (mg : Str → Option Value) (xs : List Str) (c : Ex) (D : Addr) (o : Obj) : Prop where
  z : L2N.Zn (.ref D) none o
  d : ∃ vs, o.data = .fields vs
  g : mg c.cls = some (.ref D)
  f : c.fs = []
  m : c.cls ∈ xs
/-- what a def that is told an exception promises -/
def spX (K : PySem.W.Frag) (mg : Str → Option Value) (xs : List Str) (call : Ex → Res FRes) (p : Addr × Obj) : Sp := fun vs H Q _ =>
  vs = [.ref p.1] ∧ ∃ c D q, XObj mg xs c D p.2 ∧ call c = .ok q ∧ (q.own = false ∧ q.d.pure = true) ∧ ∀ v H', (∀ b o, H b = some o → H' b = some o) → Rep ⟨K, fun _ => False⟩ H' q.d v → Q v H'
structure FnAtH (X : Cx) (x : Str) (k : Nat) (a : Addr) (fd : FuncData) (ps : List Str) (sp : Addr × Obj → Sp) : Prop where
  ok : FnE X.prog X.w X.K X.mg X.base (L2N.CX X.prog X.w) k a fd ps sp
  room : L2H.RoomH k X.A
  mg : X.mg x = some (.ref a)
  kp : PySem.W.keepIn X.K (.ref a) = true
  bd : Binds X.K fd ps []
  nm : nameOk x = true
/-- the classes of refusals -/
structure XFact (K : PySem.W.Frag) (mg : Str → Option Value) (rs : List Str) (c : Str) (D : Addr) : Prop where
  g : mg c = some (.ref D)
  ex : PySem.W.excIn K D He.veBase "ValueError.__new__" = true
  kp : PySem.W.keepIn K (.ref D) = true
  sb : PySem.W.subIn K (.ref D) (.type "BaseException") = some true
  ty : PySem.W.typeIn K (.ref D) = some (.type "type")
  ec : ExcC K D
  it : ∀ x ∈ rs, ∀ D', mg x = some (.ref D') → PySem.W.kitOne K (.ref D) (.ref D') = some (xsub c x) ∧ PySem.W.exmOne K (.ref D) (.ref D') = some (xsub c x)
  iv : PySem.W.kitOne K (.ref D) (.type "ValueError") = some true
def XFacts (K : PySem.W.Frag) (mg : Str → Option Value) (xs rs : List Str) : Prop := (∀ x ∈ rs, nameOk x = true ∧ ∃ D : Addr, mg x = some (.ref D)) ∧ ∀ c ∈ xs, nameOk c = true ∧ ∃ D, XFact K mg rs c D
structure HotX (T : Tb) (C : CEnv) (X : Cx) (xa : Addr) : Prop where
  p : ∃ o, L2H.Hot1 X.A (xa, o) ∧ (xa, o) ∈ X.pn ∧ ∀ c, T.cur = some c → ∃ D, XObj X.mg C.xs c D o
structure Ctx (T : Tb) (C : CEnv) (X : Cx) (W : WX) (xa : Addr) : Prop where
  N : X.N = C.N
  nd : X.N.Nodup
  calm : C.cool = true → X.calm = true
  sc : X.env.scope = C.sc
  un : X.A.units + 65 < cLine
  fn : C.cool = true → ∀ x f, C.fns.lookup x = some f → ∃ k a fd ps, FnAt T X C.xs x f k a fd ps
  bl : ∀ x ∈ C.bl, X.mg x = none
  gl : ∀ x d, C.gl.lookup x = some d → (∀ i, d = .int i → ∃ t, X.mg x = some (.int i t)) ∧ ∀ i, d = .str i → ∃ t, X.mg x = some (.str i t)
  gn : ∀ x d, C.gl.lookup x = some d → nameOk x = true
  nm : ∀ x ∈ C.N, nameOk x = true
  fc : ∀ x ∈ C.cl, X.fn x = true
  tk : L2N.Takes X W
  xf : XFacts X.K X.mg C.xs C.rs
  hfn : ∀ x f, C.hot.lookup x = some f → ∃ k a fd ps, FnAtH X x k a fd ps fun _ => spF X.K X.mg C.xs (T.fl f) (T.call f)
  hfx : ∀ x f, C.xk.lookup x = some f → ∃ k a fd ps, FnAtH X x k a fd ps (spX X.K X.mg C.xs (T.callX f))
  ht : C.cool = false → HotX T C X xa
  gd : C.cool = true → X.A.guards = some []
abbrev yw (X : Cx) (xs : List Str) (W : WX) (xa : Addr) : YW := ⟨X.K, X.mg, W, xa, xs⟩
abbrev WN : WX := fun _ _ _ _ => False
theorem takesN {X : Cx} : L2N.Takes X WN := fun _ _ x => by
  obtain ⟨_, _, _, _, _, _, _, _, _, _, _, _, _, _, _, _, z⟩ := x
  exact z.elim
theorem nameOk_d {x : Str} (h : nameOk x = true) : (x == ("__debug__" : Str)) = false ∧ (x == ("__classdict__" : Str)) = false ∧ x ≠ "__name__" := by
  unfold nameOk at h
  simp only [Bool.and_eq_true, Bool.not_eq_true', decide_eq_false_iff_not] at h
  exact ⟨h.1.1, h.1.2, h.2⟩
theorem Ctx.blk {T : Tb} {C : CEnv} {X : Cx} {W : WX} {xa : Addr} (c : Ctx T C X W xa) (hc : C.cool = true) (s : Shared) (H : Hp) (sc' : Scope) (cl : List (Str × Addr)) (A : Addr) (fp : List Addr) :
    Ctx T { C with sc := relS sc' C.sc, cl := cellsOf sc' } (X.blk s H sc' (compEnvC sc' cl A X.env) fp) WN xa :=
  ⟨c.N, c.nd, c.calm, by rw [← c.sc]; rfl, c.un, fun z x f h => let ⟨k, a, fd, ps, q⟩ := c.fn z x f h; ⟨k, a, fd, ps, q.ok, q.room, q.mg, q.kp, q.bd, q.nm⟩, c.bl, c.gl, c.gn, c.nm, fun x hx => cellsOf_mem hx, takesN, c.xf, fun x f h => let ⟨k, a, fd, ps, q⟩ := c.hfn x f h; ⟨k, a, fd, ps, q.ok, q.room, q.mg, q.kp, q.bd, q.nm⟩, fun x f h => let ⟨k, a, fd, ps, q⟩ := c.hfx x f h; ⟨k, a, fd, ps, q.ok, q.room, q.mg, q.kp, q.bd, q.nm⟩, fun z => absurd (hc.symm.trans z) (by simp), c.gd⟩

/-! ### the readings -/
def tEK (Y : YW) (T : Tb) (c : CE) : TE := fun σ H Q => ∃ F env, FY F Y ∧ Sim F env σ H ∧ WPr (runE T c env) (fun p => ∀ v H', PostE F env σ H p.1 p.2 v H' → Q v H') (XP Y F env σ H)
def tTK (Y : YW) (T : Tb) (c : CE) : TT := fun σ H Q => ∃ F env, FY F Y ∧ Sim F env σ H ∧ WPr (runE T c env) (fun p => ∃ b, frc p.2 p.1 = .ok (.bl b) ∧ ∀ H', Sim F p.2 σ H' → Step env σ H p.2 σ H' → Q b H') (XP Y F env σ H)
def tLK (Y : YW) (T : Tb) (go : Bool) (cs : List CE) : TE := fun σ H Q => ∃ F env, FY F Y ∧ Sim F env σ H ∧ WPr (runL T go cs env) (fun p => ∀ v H', PostE F env σ H p.1 p.2 v H' → Q v H') (XP Y F env σ H)
def tWK (Y : YW) (T : Tb) (go : Bool) (cs : List CE) : TT := fun σ H Q => ∃ F env, FY F Y ∧ Sim F env σ H ∧ WPr (runL T go cs env) (fun p => ∃ b, frc p.2 p.1 = .ok (.bl b) ∧ ∀ H', Sim F p.2 σ H' → Step env σ H p.2 σ H' → Q b H') (XP Y F env σ H)
def Vals' (F : Fr) (env : EnvD) (σ : SV) (H : Hp) : List R → List V → Prop
  | [], vs => vs = []
  | r :: rs, vs => ∃ v vs', vs = v :: vs' ∧ Val F env σ H r v ∧ Vals' F env σ H rs vs'
def tAK (Y : YW) (T : Tb) (cs : List CE) : TA := fun σ H Q => ∃ F env, FY F Y ∧ Sim F env σ H ∧ WPr (runA T cs env) (fun p => ∀ vs H', Sim F p.2 σ H' → Step env σ H p.2 σ H' → Vals' F p.2 σ H' p.1 vs → Q vs H') (XP Y F env σ H)
def tKK (Y : YW) (T : Tb) (cs : List CE) : TA := fun σ H Q => ∃ F env, FY F Y ∧ Sim F env σ H ∧ WPr (runK T cs env) (fun p => ∀ vs H', Sim F p.2 σ H' → Step env σ H p.2 σ H' → RepL (Mx F p.2 σ) H' p.1 vs → Q vs H') (XP Y F env σ H)
def tOK (Y : YW) (T : Tb) (o : Option CE) : TO := fun σ H Q => ∃ F env, FY F Y ∧ Sim F env σ H ∧ WPr (runO T o env) (fun p => ∀ H', Sim F p.2 σ H' → Step env σ H p.2 σ H' → Q p.1 H') (XP Y F env σ H)
def tCK (Y : YW) (T : Tb) (o : Option CE) : TT := fun σ H Q => ∃ F env, FY F Y ∧ Sim F env σ H ∧ WPr (runC T o env) (fun p => ∀ H', Sim F p.2 σ H' → Step env σ H p.2 σ H' → Q p.1 H') (XP Y F env σ H)
/-- what is walked: an iterator that gives the items of ds, one behind another, as long as G stands -/
def Ext (H H' : Hp) : Prop := ∀ b o, H b = some o → H' b = some o
structure Walks (J : It) (ds : List D) (G : Av → Hp → Prop) : Prop where
  mv : ∀ {M H M' H'}, Kp M H M' H' → G M H → G M' H'
  go : ∀ {M i H}, i < ds.length → G M H → J.go i H
  stop : ∀ {M H}, G M H → J.stop ds.length H
  yld : ∀ {M i H x H'}, i < ds.length → G M H → (∀ p, H p = none → ¬ M p) → (∀ p xs, H p = some (.tup xs) → ¬ M p) → J.yld i H x H' → ∃ d, ds[i]? = some d ∧ Ext H H' ∧ Rep M H' d x
def tIK (Y : YW) (T : Tb) (c : CI) : TI := fun σ H R => ∃ F env, FY F Y ∧ Sim F env σ H ∧ WPr (runI T c env) (fun p =>
  ∀ J H' G, Sim F p.2 σ H' → Step env σ H p.2 σ H' → Walks J p.1 G → G (Mx F p.2 σ) H' → R J H') (XP Y F env σ H)
section
variable {T : Tb} {X : Cx} {C : CEnv} {Y : YW}
theorem Vals'.step {F : Fr} {env env' : EnvD} {σ : SV} {H H' : Hp} (s : Step env σ H env' σ H') : ∀ {rs : List R} {vs : List V}, Vals' F env σ H rs vs → Vals' F env' σ H' rs vs
  | [], _, h => h
  | r :: rs, _, ⟨v, vs', e, h, t⟩ => ⟨v, vs', e, h.step s, Vals'.step s t⟩
theorem Vals'.ws {F : Fr} {env : EnvD} {σ : SV} {H : Hp} (S : Sim F env σ H) : ∀ {rs : List R} {vs : List V} {ds : List D}, Vals' F env σ H rs vs → frcs env rs = .ok ds → RepWs (Mx F env σ) H ds vs
  | [], _, _, h, e => by cases e; exact h
  | r :: rs, _, _, ⟨v, vs', e, h, t⟩, q => by
    obtain ⟨d, q1, q⟩ := Res.bind_ok q
    obtain ⟨ds, q2, q⟩ := Res.bind_ok q
    cases q
    exact ⟨v, vs', e, h.w S q1, Vals'.ws S t q2⟩
theorem tE_var {i : Nat} {σ : SV} {H : Hp} {Q : VK} (h : tEK Y T (.var i) σ H Q) : tVar i σ H Q := by
  obtain ⟨F, env, hK, S, h⟩ := h
  have h : WPr (match env[i]? with
    | some (.sh d) => (.ok (.dat d, env) : Res (R × EnvD))
    | some (.ow d) => .ok (.slot i, env)
    | some (.io d) => .ok (.slot i, env)
    | _ => .fail) (fun p => ∀ v H', PostE F env σ H p.1 p.2 v H' → Q v H') (XP Y F env σ H) := h
  cases q : env[i]? with
  | none => rw [q] at h; exact h.elim
  | some s =>
    rw [q] at h
    cases s with
    | un => exact h.elim
    | xc => exact h.elim
    | sh d =>
      obtain ⟨v, e1, r1⟩ := S.sh i d q
      exact ⟨v, e1, h v H ⟨Step.refl, S, r1⟩⟩
    | ow d =>
      obtain ⟨a, e1, _⟩ := S.ow i d q
      exact ⟨_, e1, h _ H ⟨Step.refl, S, e1, _, d, q, rfl⟩⟩
    | io d =>
      obtain ⟨a, e1, _⟩ := S.io i d q
      exact ⟨_, e1, h _ H ⟨Step.refl, S, e1, _, d, q, rfl⟩⟩
theorem bl_rep {M : Av} {H : Hp} {d : D} {v : V} {k : Bool} (h : RepW M H d v) (e : asBl d = some k) : v = .bl k ∧ d = .bl k := by
  cases d with
  | bl b => cases e; exact ⟨h, rfl⟩
  | _ => cases e
theorem int_rep {M : Av} {H : Hp} {d : D} {v : V} {k : Int} (h : RepW M H d v) (e : asInt d = some k) : v = .int k ∧ d = .int k := by
  cases d with
  | int b => cases e; exact ⟨h, rfl⟩
  | _ => cases e
theorem asBl_iff {d : D} {k : Bool} (e : asBl d = some k) : d = .bl k := by
  cases d with
  | bl b => cases e; rfl
  | _ => cases e
/-- an answer that is a truth: from the value to the test -/
theorem tT_of {c : CE} {σ : SV} {H : Hp} {Q : Bool → Hp → Prop} (h : tTK Y T c σ H Q) : tEK Y T c σ H fun x H1 => ∃ b, x = .bl b ∧ Q b H1 := by
  obtain ⟨F, env, hK, S, h⟩ := h
  refine ⟨F, env, hK, S, h.mono (fun a _ h => ?_) fun _ z => z⟩
  obtain ⟨b, hb, k⟩ := h
  exact fun v H' p => ⟨b, (p.valS S).w p.sim hb, k H' p.sim p.1⟩
end
end VL
/-! VL10: expressions, by their forms. -/
namespace VL
open PySem PySem.Spec L2
theorem and2 {a b : Bool} (h : (a && b) = true) : a = true ∧ b = true := Bool.and_eq_true_iff.mp h
section
variable {T : Tb} {X : Cx} {C : CEnv} {Y : YW} {σ : SV} {H : Hp} {Q : VK}
theorem tE_lit {d : D} (h : tEK Y T (.lit d) σ H Q) (v : V) (hd : ∀ M H, Rep M H d v) : Q v H := by
  obtain ⟨F, env, hK, S, h⟩ := h
  exact h v H ⟨Step.refl, S, hd _ _⟩
theorem tE_op {o : Op} {a b : CE} (h : tEK Y T (.op o a b) σ H Q) : tOp (rOpD o) (tEK Y T a) (tEK Y T b) σ H Q := by
  obtain ⟨F, env, hK, S, h⟩ := h
  refine ⟨F, env, hK, S, h.seq (fun _ z => z) ?_⟩
  rintro ⟨ra, e1⟩ _ h x H1 p1
  refine ⟨F, e1, hK, p1.sim, h.seq (fun _ z => z.after p1.1) ?_⟩
  rintro ⟨rb, e2⟩ _ h y H2 p2
  obtain ⟨da, h3, h⟩ := h.pure (nx_frc ..)
  obtain ⟨db, h4, h⟩ := h.pure (nx_frc ..)
  obtain ⟨r, h5, h⟩ := h.pure (nx_opD ..)
  exact ⟨Mx F e2 σ, da, db, r, ((p1.valS S).step p2.1).w p2.sim h3, (p2.valS p1.sim).w p2.sim h4, h5, p2.sim.notup, fun v H' af => h v H' (af.post p2.sim (p1.1.trans p2.1))⟩
theorem tE_neg {a : CE} (h : tEK Y T (.neg a) σ H Q) : tUn (rU fun i => .int (-i)) (tEK Y T a) σ H Q := by
  obtain ⟨F, env, hK, S, h⟩ := h
  refine ⟨F, env, hK, S, h.seq (fun _ z => z) ?_⟩
  rintro ⟨ra, e1⟩ _ h x H1 p1
  obtain ⟨da, h3, h⟩ := h.pure (nx_frc ..)
  obtain ⟨i, h5, h⟩ := h.ofO
  obtain ⟨rfl, _⟩ := int_rep ((p1.valS S).w p1.sim h3) h5
  exact ⟨i, rfl, h _ _ ⟨p1.1, p1.sim, rfl⟩⟩
theorem tE_cmp {c : Cm} {a b : CE} (h : tEK Y T (.cmp c a b) σ H Q) : tOp (rCmD Y.K c) (tEK Y T a) (tEK Y T b) σ H Q := by
  obtain ⟨F, env, hK, S, h⟩ := h
  refine ⟨F, env, hK, S, h.seq (fun _ z => z) ?_⟩
  rintro ⟨ra, e1⟩ _ h x H1 p1
  refine ⟨F, e1, hK, p1.sim, h.seq (fun _ z => z.after p1.1) ?_⟩
  rintro ⟨rb, e2⟩ _ h y H2 p2
  obtain ⟨da, h3, h⟩ := h.pure (nx_frc ..)
  obtain ⟨db, h4, h⟩ := h.pure (nx_frc ..)
  obtain ⟨r, h5, h⟩ := h.pure (nx_cmD ..)
  exact ⟨Mx F e2 σ, da, db, r, ((p1.valS S).step p2.1).w p2.sim h3, (p2.valS p1.sim).w p2.sim h4, h5, hK.K, h _ _ ⟨p1.1.trans p2.1, p2.sim, rfl⟩⟩
theorem tE_inr {t : Bool} {a b : CE} (h : tEK Y T (.inr t a b) σ H Q) : tEK Y T a σ H fun x H1 => tEK Y T b σ H1 fun y H2 => ∃ i n, x = .int i ∧ y = .int n ∧ Q (.bl (decide (0 ≤ i ∧ i < n) != t)) H2 := by
  obtain ⟨F, env, hK, S, h⟩ := h
  refine ⟨F, env, hK, S, h.seq (fun _ z => z) ?_⟩
  rintro ⟨ra, e1⟩ _ h x H1 p1
  refine ⟨F, e1, hK, p1.sim, h.seq (fun _ z => z.after p1.1) ?_⟩
  rintro ⟨rb, e2⟩ _ h y H2 p2
  obtain ⟨da, h3, h⟩ := h.pure (nx_frc ..)
  obtain ⟨db, h4, h⟩ := h.pure (nx_frc ..)
  obtain ⟨r, h5, h⟩ := h.pure (nx_inrD ..)
  have w1 := ((p1.valS S).step p2.1).w p2.sim h3
  have w2 := (p2.valS p1.sim).w p2.sim h4
  cases da with
  | int i =>
    cases db with
    | int n =>
      cases h5
      exact ⟨i, n, w1, w2, h _ _ ⟨p1.1.trans p2.1, p2.sim, rfl⟩⟩
    | _ => cases h5
  | _ => cases h5
theorem tE_chn {c c' : Cm} {a b d : CE} (h : tEK Y T (.chn c c' a b d) σ H Q) : tChain (rCmD Y.K c) (rCmD Y.K c') (tEK Y T a) (tEK Y T b) (tEK Y T d) σ H Q := by
  obtain ⟨F, env, hK, S, h⟩ := h
  refine ⟨F, env, hK, S, h.seq (fun _ z => z) ?_⟩
  rintro ⟨ra, e1⟩ _ h x H1 p1
  refine ⟨F, e1, hK, p1.sim, h.seq (fun _ z => z.after p1.1) ?_⟩
  rintro ⟨rb, e2⟩ _ h y H2 p2
  obtain ⟨da, h3, h⟩ := h.pure (nx_frc ..)
  obtain ⟨db, h4, h⟩ := h.pure (nx_frc ..)
  obtain ⟨r0, h5, h⟩ := h.pure (nx_cmD ..)
  refine ⟨Mx F e2 σ, da, db, r0, ((p1.valS S).step p2.1).w p2.sim h3, (p2.valS p1.sim).w p2.sim h4, h5, hK.K, r0, rfl, ?_⟩
  cases r0 with
  | false =>
    rw [if_neg Bool.false_ne_true] at h ⊢
    exact h _ _ ⟨p1.1.trans p2.1, p2.sim, rfl⟩
  | true =>
    rw [if_pos rfl] at h ⊢
    refine ⟨F, e2, hK, p2.sim, h.seq (fun _ z => z.after (p1.1.trans p2.1)) ?_⟩
    rintro ⟨rc, e3⟩ _ h z H3 p3
    obtain ⟨db', h7, h⟩ := h.pure (nx_frc ..)
    obtain ⟨dc, h8, h⟩ := h.pure (nx_frc ..)
    obtain ⟨r1, h9, h⟩ := h.pure (nx_cmD ..)
    exact ⟨Mx F e3 σ, db', dc, r1, ((p2.valS p1.sim).step p3.1).w p3.sim h7, (p3.valS p2.sim).w p3.sim h8, h9, hK.K, h _ _ ⟨(p1.1.trans p2.1).trans p3.1, p3.sim, rfl⟩⟩
theorem tE_not {a : CE} (h : tEK Y T (.notb a) σ H Q) : tNotV (tEK Y T a) σ H Q := by
  obtain ⟨F, env, hK, S, h⟩ := h
  refine ⟨F, env, hK, S, h.seq (fun _ z => z) ?_⟩
  rintro ⟨ra, e1⟩ _ h x H1 p1
  obtain ⟨da, h3, h⟩ := h.pure (nx_frc ..)
  obtain ⟨i, h5, h⟩ := h.ofO
  obtain ⟨rfl, _⟩ := bl_rep ((p1.valS S).w p1.sim h3) h5
  exact ⟨i, rfl, h _ _ ⟨p1.1, p1.sim, rfl⟩⟩
theorem tT_not {a : CE} {Q : Bool → Hp → Prop} (h : tTK Y T (.notb a) σ H Q) : tNot (tTK Y T a) σ H Q := by
  obtain ⟨F, env, hK, S, h⟩ := h
  refine ⟨F, env, hK, S, h.seq (fun _ z => z) ?_⟩
  rintro ⟨ra, e1⟩ _ h
  obtain ⟨da, h3, h⟩ := h.pure (nx_frc ..)
  obtain ⟨i, h5, h⟩ := h.ofO
  obtain ⟨b, hb, k⟩ := (show ∃ b, frc e1 (.dat (.bl (!i))) = .ok (.bl b) ∧ _ from h)
  cases hb
  exact ⟨i, h3.trans (congrArg Res.ok (asBl_iff h5)), k⟩
theorem tE_ife {t a b : CE} (h : tEK Y T (.ife t a b) σ H Q) : tIf (tTK Y T t) (tEK Y T a) (tEK Y T b) σ H Q := by
  obtain ⟨F, env, hK, S, h⟩ := h
  refine ⟨F, env, hK, S, h.seq (fun _ z => z) ?_⟩
  rintro ⟨ra, e1⟩ _ h
  obtain ⟨da, h3, h⟩ := h.pure (nx_frc ..)
  obtain ⟨i, h5, h⟩ := h.ofO
  refine ⟨i, h3.trans (congrArg Res.ok (asBl_iff h5)), fun H1 S1 st => ?_⟩
  cases i with
  | true => rw [if_pos rfl] at h ⊢; exact ⟨F, e1, hK, S1, h.mono (fun p _ h v H' q => h v H' (q.after st)) fun _ z => z.after st⟩
  | false => rw [if_neg Bool.false_ne_true] at h ⊢; exact ⟨F, e1, hK, S1, h.mono (fun p _ h v H' q => h v H' (q.after st)) fun _ z => z.after st⟩
theorem tT_ife {t a b : CE} {Q : Bool → Hp → Prop} (h : tTK Y T (.ife t a b) σ H Q) : tTK Y T t σ H fun k H1 => if k = true then tTK Y T a σ H1 Q else tTK Y T b σ H1 Q := by
  obtain ⟨F, env, hK, S, h⟩ := h
  refine ⟨F, env, hK, S, h.seq (fun _ z => z) ?_⟩
  rintro ⟨ra, e1⟩ _ h
  obtain ⟨da, h3, h⟩ := h.pure (nx_frc ..)
  obtain ⟨i, h5, h⟩ := h.ofO
  refine ⟨i, h3.trans (congrArg Res.ok (asBl_iff h5)), fun H1 S1 st => ?_⟩
  have kk : ∀ {p : R × EnvD}, (∃ b, frc p.2 p.1 = .ok (.bl b) ∧ ∀ H', Sim F p.2 σ H' → Step env σ H p.2 σ H' → Q b H') → ∃ b, frc p.2 p.1 = .ok (.bl b) ∧ ∀ H', Sim F p.2 σ H' → Step e1 σ H1 p.2 σ H' → Q b H' := fun ⟨b, hb, k⟩ => ⟨b, hb, fun H' S' st' => k H' S' (st.trans st')⟩
  cases i with
  | true => rw [if_pos rfl] at h; dsimp only; rw [if_pos rfl]; exact ⟨F, e1, hK, S1, h.mono (fun p _ h => kk h) fun _ z => z.after st⟩
  | false => rw [if_neg Bool.false_ne_true] at h; dsimp only; rw [if_neg Bool.false_ne_true]; exact ⟨F, e1, hK, S1, h.mono (fun p _ h => kk h) fun _ z => z.after st⟩
theorem tE_tup {es : List CE} (h : tEK Y T (.tup es) σ H Q) : tTup (tKK Y T es) σ H Q := by
  obtain ⟨F, env, hK, S, h⟩ := h
  refine ⟨F, env, hK, S, h.seq (fun _ z => z) ?_⟩
  rintro ⟨ds, e1⟩ _ h vs H' S' st rl
  obtain ⟨c, h⟩ := h.chk
  exact ⟨by rw [SLeq, rl.length]; exact of_decide_eq_true c, fun p hp => h _ _ (PostE.newT S' st hp rl)⟩
theorem tE_lst {es : List CE} (h : tEK Y T (.lst es) σ H Q) : tLst (tKK Y T es) σ H Q := by
  obtain ⟨F, env, hK, S, h⟩ := h
  refine ⟨F, env, hK, S, h.seq (fun _ z => z) ?_⟩
  rintro ⟨ds, e1⟩ _ h vs H' S' st rl
  obtain ⟨c, h⟩ := h.chk
  exact ⟨by rw [SLeq, rl.length]; exact of_decide_eq_true c, fun p hp => h _ _ (PostE.newL S' st hp rl)⟩
theorem tE_dnewK (h : tEK Y T (.dnew false) σ H Q) : tDNewK σ H Q := by
  obtain ⟨F, env, hK, S, h⟩ := h
  exact fun p hp => h _ _ (PostE.newK (xs := []) S Step.refl hp rfl)
theorem tE_dnewT (h : tEK Y T (.dnew true) σ H Q) : tDNewT σ H Q := by
  obtain ⟨F, env, hK, S, h⟩ := h
  exact fun p hp => h _ _ (PostE.newDT (xs := []) S Step.refl hp rfl)
theorem tE_dsp {ks vs : List CE} {x : Str} {v : Int} (hd : dspO ks vs = some (x, v)) (h : tEK Y T (.dsp ks vs) σ H Q) : tDisp [(tC (.str x), tC (.int v))] σ H Q := by
  obtain ⟨F, env, hK, S, h⟩ := h
  have h : WPr (match dspO ks vs with
    | some q => (.ok (.own (.dK [(.inr q.1, .int q.2)]), env) : Res (R × EnvD))
    | none => do
      let p ← ofO (dspV ks vs)
      let x ← rd env p.1
      let k ← ofO (keyOf x)
      .ok (.own (.dK [(k, p.2)]), env)) (fun p => ∀ v H', PostE F env σ H p.1 p.2 v H' → Q v H') (XP Y F env σ H) := h
  rw [hd] at h
  refine fun p hp => ⟨upd_same, [(.inr x, .int v)], rfl, by simp, ?_⟩
  rw [upd_upd]
  exact h _ _ (PostE.newK (xs := [(.inr x, .int v)]) S Step.refl hp ⟨.int v, [], rfl, rfl, rfl⟩)
def litV : D → V
  | .int v => .int v
  | .bl v => .bl v
  | _ => .non
theorem dspV_rep {ks vs : List CE} {i : Nat} {d : D} (hd : dspV ks vs = some (i, d)) (M : Av) (H : Hp) : Rep M H d (litV d) := by
  unfold dspV at hd
  split at hd
  · cases hd; rfl
  · cases hd; rfl
  · cases hd
theorem tE_dspV {ks vs : List CE} {i : Nat} {d : D} (h0 : dspO ks vs = none) (hd : dspV ks vs = some (i, d)) (h : tEK Y T (.dsp ks vs) σ H Q) : tDisp [(tVar i, tC (litV d))] σ H Q := by
  obtain ⟨F, env, hK, S, h⟩ := h
  have h : WPr (match dspO ks vs with
    | some q => (.ok (.own (.dK [(.inr q.1, .int q.2)]), env) : Res (R × EnvD))
    | none => do
      let p ← ofO (dspV ks vs)
      let x ← rd env p.1
      let k ← ofO (keyOf x)
      .ok (.own (.dK [(k, p.2)]), env)) (fun p => ∀ v H', PostE F env σ H p.1 p.2 v H' → Q v H') (XP Y F env σ H) := h
  rw [h0, hd] at h
  obtain ⟨q, h1, h⟩ := WPr.ofO h
  cases h1
  obtain ⟨x, h2, h⟩ := h.pure (nx_rd ..)
  obtain ⟨k, h3, h⟩ := h.ofO
  obtain ⟨v, hv⟩ := S.slot_some h2
  have hk := keyOf_rep h3 (S.read h2 hv)
  subst hk
  refine fun p hp => ⟨_, hv, upd_same, [(k, litV d)], rfl, by simp, ?_⟩
  rw [upd_upd]
  exact h _ _ (PostE.newK (xs := [(k, litV d)]) S Step.refl hp ⟨litV d, [], rfl, dspV_rep hd _ _, rfl⟩)
theorem tE_idx {a b : CE} (h : tEK Y T (.idx a b) σ H Q) : tOp (rIdx Y.K) (tEK Y T a) (tEK Y T b) σ H Q := by
  obtain ⟨F, env, hK, S, h⟩ := h
  refine ⟨F, env, hK, S, h.seq (fun _ z => z) ?_⟩
  rintro ⟨ra, e1⟩ _ h x H1 p1
  refine ⟨F, e1, hK, p1.sim, h.seq (fun _ z => z.after p1.1) ?_⟩
  rintro ⟨rb, e2⟩ _ h y H2 p2
  obtain ⟨da, h3, h⟩ := h.pure (nx_frc ..)
  obtain ⟨db, h4, h⟩ := h.pure (nx_frc ..)
  obtain ⟨d, h5, h⟩ := h.pure (nx_idxD ..)
  exact ⟨Mx F e2 σ, da, db, d, ((p1.valS S).step p2.1).w p2.sim h3, (p2.valS p1.sim).w p2.sim h4, h5, hK.K, fun v r => h _ _ ⟨p1.1.trans p2.1, p2.sim, r⟩⟩
theorem tE_slc {a : CE} {lo hi : Option CE} (h : tEK Y T (.slc a lo hi) σ H Q) : tSl (rSlc Y.K) (tEK Y T a) (tOK Y T lo) (tOK Y T hi) σ H Q := by
  obtain ⟨F, env, hK, S, h⟩ := h
  refine ⟨F, env, hK, S, h.seq (fun _ z => z) ?_⟩
  rintro ⟨ra, e1⟩ _ h x H1 p1
  refine ⟨F, e1, hK, p1.sim, h.seq (fun _ z => z.after p1.1) ?_⟩
  rintro ⟨l, e2⟩ _ h H2 S2 st2
  refine ⟨F, e2, hK, S2, h.seq (fun _ z => z.after (p1.1.trans st2)) ?_⟩
  rintro ⟨u, e3⟩ _ h H3 S3 st3
  obtain ⟨da, h4, h⟩ := h.pure (nx_frc ..)
  obtain ⟨r, h5, h⟩ := h.pure (nx_slcD ..)
  exact ⟨Mx F e3 σ, da, r, (((p1.valS S).step st2).step st3).w S3 h4, h5, hK.K, S3.notup, fun v H' af => h v H' (af.post S3 ((p1.1.trans st2).trans st3))⟩
/-! ### tests of comparisons -/
theorem tT_cmp {c : Cm} {a b : CE} {Q : Bool → Hp → Prop} (h : tTK Y T (.cmp c a b) σ H Q) : tTest (tOp (rCmD Y.K c) (tEK Y T a) (tEK Y T b)) σ H Q := tE_cmp (tT_of h)
theorem tT_chn {c c' : Cm} {a b d : CE} {Q : Bool → Hp → Prop} (h : tTK Y T (.chn c c' a b d) σ H Q) : tTest (tChain (rCmD Y.K c) (rCmD Y.K c') (tEK Y T a) (tEK Y T b) (tEK Y T d)) σ H Q := tE_chn (tT_of h)
/-! ### and, or -/
theorem tL_one {go : Bool} {a : CE} (h : tLK Y T go [a] σ H Q) : tEK Y T a σ H Q := by
  obtain ⟨F, env, hK, S, h⟩ := h
  refine ⟨F, env, hK, S, h.seq (fun _ z => z) ?_⟩
  rintro ⟨ra, e1⟩ _ h v H' p
  obtain ⟨da, h3, h⟩ := h.pure (nx_frc ..)
  obtain ⟨i, h5, h⟩ := h.ofO
  refine h v H' ⟨p.1, p.sim, ?_⟩
  exact (bl_rep ((p.valS S).w p.sim h3) h5).1
theorem tL_and {a b : CE} {es : List CE} (h : tLK Y T true (a :: b :: es) σ H Q) : tAndV (tEK Y T a) (tLK Y T true (b :: es)) σ H Q := by
  obtain ⟨F, env, hK, S, h⟩ := h
  refine ⟨F, env, hK, S, h.seq (fun _ z => z) ?_⟩
  rintro ⟨ra, e1⟩ _ h x H1 p1
  obtain ⟨da, h3, h⟩ := h.pure (nx_frc ..)
  obtain ⟨i, h5, h⟩ := h.ofO
  obtain ⟨rfl, _⟩ := bl_rep ((p1.valS S).w p1.sim h3) h5
  refine ⟨i, rfl, ?_⟩
  cases i with
  | true => rw [if_pos rfl]; exact ⟨F, e1, hK, p1.sim, WPr.mono h (fun p _ h v H' q => h v H' (q.after p1.1)) fun _ z => z.after p1.1⟩
  | false =>
    rw [if_neg Bool.false_ne_true]
    exact h _ _ ⟨p1.1, p1.sim, rfl⟩
theorem tL_or {a b : CE} {es : List CE} (h : tLK Y T false (a :: b :: es) σ H Q) : tOrV (tEK Y T a) (tLK Y T false (b :: es)) σ H Q := by
  obtain ⟨F, env, hK, S, h⟩ := h
  refine ⟨F, env, hK, S, h.seq (fun _ z => z) ?_⟩
  rintro ⟨ra, e1⟩ _ h x H1 p1
  obtain ⟨da, h3, h⟩ := h.pure (nx_frc ..)
  obtain ⟨i, h5, h⟩ := h.ofO
  obtain ⟨rfl, _⟩ := bl_rep ((p1.valS S).w p1.sim h3) h5
  refine ⟨i, rfl, ?_⟩
  cases i with
  | false => rw [if_neg Bool.false_ne_true]; exact ⟨F, e1, hK, p1.sim, WPr.mono h (fun p _ h v H' q => h v H' (q.after p1.1)) fun _ z => z.after p1.1⟩
  | true =>
    rw [if_pos rfl]
    exact h _ _ ⟨p1.1, p1.sim, rfl⟩
theorem tW_one {go : Bool} {a : CE} {Q : Bool → Hp → Prop} (h : tWK Y T go [a] σ H Q) : tTK Y T a σ H Q := by
  obtain ⟨F, env, hK, S, h⟩ := h
  refine ⟨F, env, hK, S, h.seq (fun _ z => z) ?_⟩
  rintro ⟨ra, e1⟩ _ h
  obtain ⟨da, h3, h⟩ := h.pure (nx_frc ..)
  obtain ⟨i, h5, h⟩ := h.ofO
  obtain ⟨b, hb, k⟩ := (show ∃ b, frc e1 (.dat (.bl i)) = .ok (.bl b) ∧ _ from h)
  cases hb
  exact ⟨i, h3.trans (congrArg Res.ok (asBl_iff h5)), k⟩
theorem tW_and {a b : CE} {es : List CE} {Q : Bool → Hp → Prop} (h : tWK Y T true (a :: b :: es) σ H Q) : tAnd (tTK Y T a) (tWK Y T true (b :: es)) σ H Q := by
  obtain ⟨F, env, hK, S, h⟩ := h
  refine ⟨F, env, hK, S, h.seq (fun _ z => z) ?_⟩
  rintro ⟨ra, e1⟩ _ h
  obtain ⟨da, h3, h⟩ := h.pure (nx_frc ..)
  obtain ⟨i, h5, h⟩ := h.ofO
  refine ⟨i, h3.trans (congrArg Res.ok (asBl_iff h5)), fun H1 S1 st => ?_⟩
  cases i with
  | true => rw [if_pos rfl]; exact ⟨F, e1, hK, S1, WPr.mono h (fun p _ ⟨b, hb, k⟩ => ⟨b, hb, fun H' S' st' => k H' S' (st.trans st')⟩) fun _ z => z.after st⟩
  | false =>
    rw [if_neg Bool.false_ne_true]
    obtain ⟨b, hb, k⟩ := (show ∃ b, frc e1 (.dat (.bl false)) = .ok (.bl b) ∧ _ from h)
    cases hb
    exact k _ S1 st
theorem tW_or {a b : CE} {es : List CE} {Q : Bool → Hp → Prop} (h : tWK Y T false (a :: b :: es) σ H Q) : tOr (tTK Y T a) (tWK Y T false (b :: es)) σ H Q := by
  obtain ⟨F, env, hK, S, h⟩ := h
  refine ⟨F, env, hK, S, h.seq (fun _ z => z) ?_⟩
  rintro ⟨ra, e1⟩ _ h
  obtain ⟨da, h3, h⟩ := h.pure (nx_frc ..)
  obtain ⟨i, h5, h⟩ := h.ofO
  refine ⟨i, h3.trans (congrArg Res.ok (asBl_iff h5)), fun H1 S1 st => ?_⟩
  cases i with
  | false => rw [if_neg Bool.false_ne_true]; exact ⟨F, e1, hK, S1, WPr.mono h (fun p _ ⟨b, hb, k⟩ => ⟨b, hb, fun H' S' st' => k H' S' (st.trans st')⟩) fun _ z => z.after st⟩
  | true =>
    rw [if_pos rfl]
    obtain ⟨b, hb, k⟩ := (show ∃ b, frc e1 (.dat (.bl true)) = .ok (.bl b) ∧ _ from h)
    cases hb
    exact k _ S1 st
theorem tE_and {es : List CE} (h : tEK Y T (.andb es) σ H Q) : tLK Y T true es σ H Q := h
theorem tE_or {es : List CE} (h : tEK Y T (.orb es) σ H Q) : tLK Y T false es σ H Q := h
/-! ### argument lists -/
theorem tA_nil {Q : List V → Hp → Prop} (h : tAK Y T [] σ H Q) : tNil σ H Q := by
  obtain ⟨F, env, hK, S, h⟩ := h
  exact h [] H S Step.refl rfl
theorem tA_cons {a : CE} {es : List CE} {Q : List V → Hp → Prop} (h : tAK Y T (a :: es) σ H Q) : tCons (tEK Y T a) (tAK Y T es) σ H Q := by
  obtain ⟨F, env, hK, S, h⟩ := h
  refine ⟨F, env, hK, S, h.seq (fun _ z => z) ?_⟩
  rintro ⟨ra, e1⟩ _ h x H1 p1
  refine ⟨F, e1, hK, p1.sim, h.seq (fun _ z => z.after p1.1) ?_⟩
  rintro ⟨rs, e2⟩ _ h vs H2 S2 st2 v2
  exact h _ _ S2 (p1.1.trans st2) ⟨x, vs, rfl, (p1.valS S).step st2, v2⟩
theorem tK_nil {Q : List V → Hp → Prop} (h : tKK Y T [] σ H Q) : tNil σ H Q := by
  obtain ⟨F, env, hK, S, h⟩ := h
  exact h [] H S Step.refl rfl
theorem tK_cons {a : CE} {es : List CE} {Q : List V → Hp → Prop} (h : tKK Y T (a :: es) σ H Q) : tCons (tEK Y T a) (tKK Y T es) σ H Q := by
  obtain ⟨F, env, hK, S, h⟩ := h
  refine ⟨F, env, hK, S, h.seq (fun _ z => z) ?_⟩
  rintro ⟨ra, e1⟩ _ h x H1 p1
  obtain ⟨⟨d, e2⟩, h2, h⟩ := h.pure (nx_esc ..)
  obtain ⟨S1, st1, r1⟩ := (p1.valS S).esc p1.sim h2
  refine ⟨F, e2, hK, S1, h.seq (fun _ z => z.after (p1.1.trans st1)) ?_⟩
  rintro ⟨ds, e3⟩ _ h vs H2 S2 st2 v2
  exact h _ _ S2 ((p1.1.trans st1).trans st2) ⟨x, vs, rfl, r1.mv st2.kp, v2⟩
theorem tO_none {Q : Option Int → Hp → Prop} (h : tOK Y T none σ H Q) : tNoPart σ H Q := by
  obtain ⟨F, env, hK, S, h⟩ := h
  exact h H S Step.refl
theorem tO_some {a : CE} {Q : Option Int → Hp → Prop} (h : tOK Y T (some a) σ H Q) : tPart (tEK Y T a) σ H Q := by
  obtain ⟨F, env, hK, S, h⟩ := h
  refine ⟨F, env, hK, S, h.seq (fun _ z => z) ?_⟩
  rintro ⟨ra, e1⟩ _ h x H1 p1
  obtain ⟨da, h3, h⟩ := h.pure (nx_frc ..)
  obtain ⟨i, h5, h⟩ := h.ofO
  obtain ⟨rfl, _⟩ := int_rep ((p1.valS S).w p1.sim h3) h5
  exact ⟨i, rfl, h _ p1.sim p1.1⟩
theorem tC_none {Q : Bool → Hp → Prop} (h : tCK Y T none σ H Q) : tYes σ H Q := by
  obtain ⟨F, env, hK, S, h⟩ := h
  exact h H S Step.refl
theorem tC_some {a : CE} {Q : Bool → Hp → Prop} (h : tCK Y T (some a) σ H Q) : tTK Y T a σ H Q := by
  obtain ⟨F, env, hK, S, h⟩ := h
  refine ⟨F, env, hK, S, h.seq (fun _ z => z) ?_⟩
  rintro ⟨ra, e1⟩ _ h
  obtain ⟨da, h3, h⟩ := h.pure (nx_frc ..)
  obtain ⟨i, h5, h⟩ := h.ofO
  exact ⟨i, h3.trans (congrArg Res.ok (asBl_iff h5)), h⟩
/-! ### builtins -/
theorem tE_blt {b : Bf} {es : List CE} (h : tEK Y T (.blt b es) σ H Q) : tCB (rBf Y.K b) (tAK Y T es) σ H Q := by
  obtain ⟨F, env, hK, S, h⟩ := h
  refine ⟨F, env, hK, S, h.seq (fun _ z => z) ?_⟩
  rintro ⟨rs, e1⟩ _ h vs H1 S1 st v1
  obtain ⟨ds, h3, h⟩ := h.pure (nx_frcs ..)
  obtain ⟨r, h5, h⟩ := h.pure (nx_bfD ..)
  exact ⟨Mx F e1 σ, ds, r, v1.ws S1 h3, h5, hK.K, S1.notup, fun v H' af => h v H' (af.post S1 st)⟩
end
end VL
/-! VLR: a tuple backwards, t[::-1]. -/
namespace VL
open PySem PySem.Spec L2 PyProof.Rows HT
section
variable {prog : Program} {w : World} {A : Around} {E : Value → Shared → Prop} {s : Shared}
theorem sliceApplied_rev {sl : Addr} {vl vu vs : Value} {n : Nat} {Q : Int × Int × Nat → Shared → Prop} (hs : s.heap.IsSliceOf sl vl vu vs) (pl : IsPart vl none) (pu : IsPart vu none) (ps : IsPart vs (some (-1)))
    (h : Q ((n : Int) - 1, -1, n) s) : wpAny (model prog w) A (Builtin.Slice.sliceApplied (.ref sl) (pure (n : Int))) Q E s := by
  obtain ⟨os, hos, hcs, hds⟩ := id hs
  unfold Builtin.Slice.sliceApplied Builtin.Slice.sliceFields
  refine wpAny_bind (wpAny_bind (wpAny_field hos hds (x := vl) rfl (wpAny_bind (wpAny_field hos hds (x := vu) rfl (wpAny_bind (wpAny_field hos hds (x := vs) rfl (wpAny_pure ?_)))))))
  refine wpAny_bind (slicePart_ ps ?_)
  show wpAny _ _ (if ((-1 : Int) == 0) = true then _ else _) _ _ s
  rw [if_neg (by decide)]
  refine wpAny_bind (slicePart_ pl (wpAny_bind (slicePart_ pu (wpAny_bind (wpAny_pure ?_)))))
  have e1 : Builtin.Slice.sliceAdjust none none (-1) (n : Int) = ((n : Int) - 1, -1) := by
    unfold Builtin.Slice.sliceAdjust
    simp
  have e2 : Builtin.Slice.slicePlaces ((n : Int) - 1) (-1) (-1) = n := by
    unfold Builtin.Slice.slicePlaces
    simp
    omega
  show wpAny _ _ (match Builtin.Slice.sliceAdjust none none (-1) (n : Int) with | (lo, hi) => pure (lo, (-1 : Int), Builtin.Slice.slicePlaces lo hi (-1))) _ _ s
  rw [e1]
  show wpAny _ _ (pure ((n : Int) - 1, (-1 : Int), Builtin.Slice.slicePlaces ((n : Int) - 1) (-1) (-1))) _ _ s
  rw [e2]
  exact wpAny_pure h
theorem pick_rev (xs : Array Value) : ((List.range xs.size).filterMap fun (m : Nat) => xs[(((xs.size : Int) - 1) + (m : Int) * (-1)).toNat]?).toArray = xs.toList.reverse.toArray := by
  have h : ((List.range xs.size).filterMap fun (m : Nat) => xs[(((xs.size : Int) - 1) + (m : Int) * (-1)).toNat]?) = xs.toList.reverse := by
    have e : ((List.range xs.size).filterMap fun (m : Nat) => xs[(((xs.size : Int) - 1) + (m : Int) * (-1)).toNat]?) = (List.range xs.size).filterMap fun (m : Nat) => xs.toList.reverse[m]? := by
      have : ∀ m ∈ List.range xs.size, xs[(((xs.size : Int) - 1) + (m : Int) * (-1)).toNat]? = xs.toList.reverse[m]? := fun m hm => by
        have hm := List.mem_range.mp hm
        rw [List.getElem?_reverse (by simpa using hm), Array.length_toList, show (((xs.size : Int) - 1) + (m : Int) * (-1)).toNat = xs.size - 1 - m by omega, Array.getElem?_toList]
      revert this
      generalize List.range xs.size = l
      intro this
      induction l with
      | nil => rfl
      | cons x l ih =>
        rw [List.filterMap_cons, List.filterMap_cons, this x List.mem_cons_self, ih fun m hm => this m (List.mem_cons_of_mem _ hm)]
    rw [e]
    have : ∀ l : List Value, (List.range l.length).filterMap (fun m => l[m]?) = l := fun l => by
      induction l with
      | nil => rfl
      | cons x l ih =>
        rw [List.length_cons, List.range_succ_eq_map, List.filterMap_cons]
        simp only [List.getElem?_cons_zero, List.filterMap_map]
        congr 1
    have h2 := this xs.toList.reverse
    rw [List.length_reverse, Array.length_toList] at h2
    exact h2
  rw [h]
theorem getItem_tuple_rev {t sl : Addr} {items : Array Value} {vl vu vs : Value} {Q : Value → Shared → Prop} (ht : IsTup s.heap t items) (hs : s.heap.IsSliceOf sl vl vu vs) (pl : IsPart vl none) (pu : IsPart vu none) (ps : IsPart vs (some (-1)))
    (h : Q (.ref s.heap.objs.size) { s with heap := s.heap.push { cls := .type "tuple", data := .seq items.toList.reverse.toArray } })
    (hsz : items.size ≤ sizeLine) : wpAny (model prog w) A (getItem (.ref t) (.ref sl)) Q E s := by
  have htake : sizeOk (.seq items.toList.reverse.toArray) := by
    show items.toList.reverse.toArray.size ≤ sizeLine
    rw [List.size_toArray, List.length_reverse, Array.length_toList]
    omega
  obtain ⟨os, hos, hcs, hds⟩ := id hs
  have hTs : s.TypeIs (.ref sl) "slice" := ⟨os, hos, hcs⟩
  unfold getItem
  try with_reducible refine wpAny_holding ?_
  first | refine wpAny_bind (wpAny_pure ?_) | skip
  refine wpAny_bind (wpAny_sequenceKey ht.typeIs (by decide) ?_)
  refine wpAny_bind (wpAny_callSpecial?_slot (name := Str.ofString "__getitem__") ht.typeIs PyProof.Rows.slot_tuple_getitem
    (wpAny_call_entry PyProof.Rows.slot_tuple_getitem ht.typeIs entry_tuple_getitem ?_ (args_tuple_getitem _ _)))
  show wpAny _ _ (Builtin.Tuple.tupleItemsOf (.ref t) >>= _) _ _ s
  refine wpAny_bind (tupleItemsOf_ ht ?_)
  refine wpAny_bind (wpAny_typeOf hTs ?_)
  rw [if_pos (by decide)]
  refine wpAny_bind (sliceApplied_rev hs pl pu ps ?_)
  show wpAny _ _ (if (((items.size : Int) - 1) == 0 && (-1 : Int) == 1 && items.size == items.size) = true then _ else _) _ _ s
  rw [if_neg (by simp), pick_rev]
  first
    | exact wpAny_bind (m := Builtin.Tuple.tupleExact _) (wpAny_newObj_type (wpAny_pure ⟨_, rfl, wpAny_pure h⟩) htake)
    | exact wpAny_bind (m := Builtin.Tuple.tupleExact _) (wpAny_newObj_type (wpAny_bind (wpAny_pure (wpAny_pure ⟨_, rfl, wpAny_pure h⟩))) htake)
    | exact wpAny_bind (wpAny_bind (m := Builtin.Tuple.tupleExact _) (wpAny_newObj_type (wpAny_pure (wpAny_pure ⟨_, rfl, wpAny_pure h⟩)) htake))
    | exact wpAny_bind (wpAny_bind (m := Builtin.Tuple.tupleExact _) (wpAny_newObj_type (wpAny_pure ⟨_, rfl, wpAny_pure h⟩) htake))
end
section
variable {X : Cx}
/-- xs[::-1], a list or a tuple -/
def tRevLT (K : PySem.W.Frag) (te : TE) : TE := fun σ H Q => te σ H fun x H1 => ∃ a xs, x = .ref a ∧ ((SqL K H1 a xs ∧ ∀ p, H1 p = none → Q (.ref p) (upd H1 p (.lst xs.reverse))) ∨ (SqT K H1 a xs ∧ ∀ p, H1 p = none → Q (.ref p) (upd H1 p (.tup xs.reverse))))
theorem pe_revLT {e : Expr} {te : TE} {k : Nat} {p1 p2 p3 pos : Pos} (he : PE X e te) : PE X (.Subscript e (.Slice none none (some (.UnaryOp .USub (.Constant (.int 1) k p1) p2)) p3) pos) (tRevLT X.K te) := by
  refine ⟨fun pins s σ H Q I h => ?_⟩
  refine Subscript_ (thn (he.run pins s σ H _ I h) fun v s1 ⟨x, H1, I1, r1, q1⟩ => ?_)
  obtain ⟨a, xs, ex, hx⟩ := q1
  subst ex
  cases r1
  have hst : PO X (some (.UnaryOp .USub (.Constant (.int 1) k p1) p2)) (tPart (tUn (rU fun i => .int (-i)) (tC (.int 1)))) := po_some (pe_un un_neg pe_int)
  refine wpAny_Slice (thn (po_none.run pins s1 σ H1 (fun o H2 => o = none ∧ H2 = H1) I1 ⟨rfl, rfl⟩) fun vl s2 ⟨l, H2, I2, pl, el, e2⟩ => ?_)
  subst el e2
  refine thn (po_none.run pins s2 σ H2 (fun o H3 => o = none ∧ H3 = H2) I2 ⟨rfl, rfl⟩) fun vu s3 ⟨u, H3, I3, pu, eu, e3⟩ => ?_
  subst eu e3
  refine thn (hst.run pins s3 σ H3 (fun o H4 => o = some (-1) ∧ H4 = H3) I3 ⟨1, rfl, -1, rfl, rfl, rfl⟩) fun vs s4 ⟨o, H4, I4, ps, eo, e4⟩ => ?_
  subst eo e4
  have I5 : Inv X pins σ H4 { s4 with heap := s4.heap.push { cls := .type "slice", data := .fields #[vl, vu, vs] } } := I4.kept (t' := s4.toks) fun b ob q => Heap.get?_push_of_some _ q
  show wpAny (model X.prog X.w) X.A (subscriptTail e (.Slice none none (some (.UnaryOp .USub (.Constant (.int 1) k p1) p2)) p3) (.ref a) (.ref s4.heap.objs.size)) (EP X pins σ Q) X.xe { s4 with heap := s4.heap.push { cls := .type "slice", data := .fields #[vl, vu, vs] } }
  rcases hx with ⟨hx, q⟩ | ⟨hx, q⟩
  · obtain ⟨its, r, ht, hz⟩ := I5.list hx
    have hlen := r.length
    refine tail_any (ops := [.ref a, .ref s4.heap.objs.size]) ht.isList.typeIs (PySem.slot_list_getitem.lookup) ?_ (by with_unfolding_all rfl)
    refine wpAny_getItem_list_slice ht.isList (Heap.IsSliceOf.new _ vl vu vs) pl pu ps (by decide) ?_ (by rw [List.size_toArray]; omega)
    rw [PySem.W.krv_pick]
    refine ⟨.ref _, _, I5.laid (t' := s4.toks) (o := .lst xs.reverse) (fun b ob q => Heap.get?_push_of_some _ q) (Nat.le_refl _) ?_, rfl, q _ (I5.hok.fresh (Nat.le_refl _))⟩
    exact ⟨by rw [List.length_reverse]; exact hz, _, 0, r.reverse, Heap.get?_push_size _ rfl⟩
  · obtain ⟨its, r, ht, hz⟩ := I5.tuple hx
    have hlen := r.length
    refine tail_any (ops := [.ref a, .ref s4.heap.objs.size]) ht.typeIs (PyProof.Rows.slot_tuple_getitem.lookup) ?_ (by with_unfolding_all rfl)
    refine getItem_tuple_rev ht (Heap.IsSliceOf.new _ vl vu vs) pl pu ps ?_ (by rw [List.size_toArray]; omega)
    refine ⟨.ref _, _, I5.laid (t' := s4.toks) (o := .tup xs.reverse) (fun b ob q => Heap.get?_push_of_some _ q) (Nat.le_refl _) ?_, rfl, q _ (I5.hok.fresh (Nat.le_refl _))⟩
    exact ⟨by rw [List.length_reverse]; exact hz, _, r.reverse, IsTup.new _ _⟩
end
end VL
/-! VL11: more forms of expressions. -/
namespace VL
open PySem PySem.Spec L2
section
variable {T : Tb} {X : Cx} {C : CEnv} {Y : YW} {σ : SV} {H : Hp} {Q : VK}
theorem isiOk_scr {d : D} (h : isiOk d = true) : ∀ ns, d ≠ .scr ns := by
  rintro x rfl; cases h
theorem clsV_ty (t : Ty) : ClsV (.ty t.name) (.type t.name) := .ty _
/-- isinstance, known dicts whose keys are tuples too -/
def rIsiV (K : PySem.W.Frag) : List V → Hp → VK → Prop := fun xs H Q => rIsi K xs H Q ∨ ∃ (a : Addr) (ob : Obj) (ks : List (List Key × V)) (n : String) (b : Bool), xs = [.ref a, .ty n] ∧ H a = some (.frz ob (.dT ks)) ∧ PySem.W.kitOne K (.type "dict") (.type n) = some b ∧ Q (.bl b) H
theorem call_isiV : CallR X (.builtin "isinstance") (rIsiV X.K) := by
  intro pins s σ H xs us Q I r h
  rcases h with h | ⟨a, ob, ks, n, b, rfl, ea, e, q⟩
  · exact call_isi pins s σ H xs us Q I r h
  · obtain ⟨u1, u2, rfl, r1, r2⟩ := vals2 r
    obtain rfl : u1 = .ref a := r1
    obtain rfl : u2 = .type n := r2
    obtain ⟨_, _, _, xs, _, o, es, ep, h1, h2, _⟩ := (show ObjOk X.prog X.w H s.heap a (.frz ob (.dT ks)) from I.hok a _ ea)
    exact PySem.W.kia_one PySem.W.kitx_dict I.kIn ⟨o, h1, h2.1⟩ e (fun z => nomatch z) fun tk => ⟨.bl b, H, I.tok tk, rfl, q⟩
theorem tE_isi {a : CE} {t : Ty} (h : tEK Y T (.isi a t) σ H Q) : tCB (rIsiV Y.K) (tCons (tEK Y T a) (tCons (tC (.ty t.name)) tNil)) σ H Q := by
  obtain ⟨F, env, hK, S, h⟩ := h
  refine ⟨F, env, hK, S, h.seq (fun _ z => z) ?_⟩
  rintro ⟨ra, e1⟩ _ h x H1 p1
  obtain ⟨da, h4, h⟩ := h.pure (nx_frc ..)
  obtain ⟨c, h⟩ := h.chk
  have c1 := isiOk_scr c
  have w := (p1.valS S).w p1.sim h4
  have kit : PySem.W.kitOne Y.K (.type (kd da).name) (.type t.name) = some (isiD t da) := by
    rw [isi_kd t da c1]
    exact kit_ty (kit_all t (kd da))
  have q := h _ _ ⟨p1.1, p1.sim, rfl⟩
  by_cases z : ∃ kvs a o ks, da = .dT kvs ∧ x = .ref a ∧ H1 a = some (.frz o (.dT ks))
  · obtain ⟨kvs, a, o, ks, rfl, rfl, e⟩ := z
    exact .inr ⟨a, o, ks, t.name, _, rfl, e, kit, q⟩
  · refine .inl ⟨x, .ty t.name, .type (kd da).name, .type t.name, isiD t da, rfl, clsV_ty t, ?_, kit, q⟩
    cases da with
    | dT kvs =>
      obtain ⟨a, ks, rfl, e, _⟩ := w
      rcases e with e | ⟨o, e⟩
      · exact .base (.dT e)
      · exact absurd ⟨kvs, a, o, ks, rfl, rfl, e⟩ z
    | _ => exact ty_kd w c1 (fun kvs e => by cases e)
theorem tE_rev {a : CE} (h : tEK Y T (.rev a) σ H Q) : tRevLT Y.K (tEK Y T a) σ H Q := by
  obtain ⟨F, env, hK, S, h⟩ := h
  refine ⟨F, env, hK, S, h.seq (fun _ z => z) ?_⟩
  rintro ⟨ra, e1⟩ _ h x H1 p1
  obtain ⟨da, h4, h⟩ := h.pure (nx_frc ..)
  cases da <;> first
    | (exact h.elim; done)
    | skip
  · rename_i ds
    obtain ⟨p, xs, rfl, e, rl⟩ := ((p1.valS S).w p1.sim h4).tup
    exact ⟨p, xs, rfl, .inr ⟨.inl (.inl e), fun q hq => h _ _ (PostE.newT p1.sim p1.1 hq rl.rev)⟩⟩
  · rename_i ds
    obtain ⟨p, xs, rfl, e, rl⟩ := ((p1.valS S).w p1.sim h4).lst
    exact ⟨p, xs, rfl, .inl ⟨.inl (.inl e), fun q hq => h _ _ (PostE.newL p1.sim p1.1 hq rl.rev)⟩⟩
  · rename_i ns
    obtain ⟨p, rfl, e⟩ := ((p1.valS S).w p1.sim h4).scr
    have e : SqL F.K H1 p (ns.map V.int) := e
    rw [hK.K] at e
    refine ⟨p, _, rfl, .inl ⟨e, fun q hq => ?_⟩⟩
    rw [← List.map_reverse]
    exact h _ _ (PostE.newL p1.sim p1.1 hq RepL.ofInts)

/-! ### list(range(..)), tuple(range(..)) -/
theorem rng_data {M : Av} {H : Hp} (a : Int) : ∀ (l : List Nat), RepL M H (l.map fun k => D.int (a + (k : Nat) * 1)) (l.map fun i => V.int (a + (i : Nat)))
  | [] => rfl
  | n :: r => ⟨.int (a + (n : Nat)), _, rfl, by show V.int _ = V.int _; rw [Int.mul_one], rng_data a r⟩
theorem rng_rep {M : Av} {H : Hp} {a b : Int} : RepL M H (rngIt (a, (b - a).toNat, 1)) (rgV a b) := rng_data a _
theorem nat62 {j : Int} (h : j.natAbs < 4611686018427387904) : -(2 ^ 62) ≤ j ∧ j < 2 ^ 62 := by omega
theorem frcs_one {e : EnvD} {r : R} {rs : List R} {ds : List D} (h : frcs e (r :: rs) = .ok ds) : ∃ d ds', frc e r = .ok d ∧ frcs e rs = .ok ds' ∧ ds = d :: ds' := by
  obtain ⟨d, q1, q⟩ := Res.bind_ok h
  obtain ⟨ds', q2, q⟩ := Res.bind_ok q
  cases q
  exact ⟨d, ds', q1, q2, rfl⟩
theorem runA_one {T : Tb} {a : CE} {env env' : EnvD} {rs : List R} (h : runA T [a] env = .ok (rs, env')) : ∃ r, rs = [r] ∧ runE T a env = .ok (r, env') := by
  obtain ⟨⟨r, e⟩, h1, h⟩ := Res.bind_ok h
  cases h
  exact ⟨r, rfl, h1⟩
theorem rngD_1 {d : D} {q : Int × Nat × Int} (h : rngD [d] = .ok q) : ∃ j, d = .int j ∧ j.natAbs < 4611686018427387904 ∧ q = (0, j.toNat, 1) := by
  cases d <;> first
    | (cases h; done)
    | skip
  rename_i j
  obtain ⟨c, h⟩ := chk_bind h
  cases h
  exact ⟨j, rfl, of_decide_eq_true c, rfl⟩
theorem rngD_2 {d d' : D} {q : Int × Nat × Int} (h : rngD [d, d'] = .ok q) : ∃ i j, d = .int i ∧ d' = .int j ∧ i.natAbs < 4611686018427387904 ∧ j.natAbs < 4611686018427387904 ∧ q = (i, (j - i).toNat, 1) := by
  cases d <;> first
    | (cases h; done)
    | skip
  cases d' <;> first
    | (cases h; done)
    | skip
  rename_i i j
  obtain ⟨c, h⟩ := chk_bind h
  obtain ⟨c1, c2⟩ := and2 c
  cases h
  exact ⟨i, j, rfl, rfl, of_decide_eq_true c1, of_decide_eq_true c2, rfl⟩
theorem rngD_3 {d d' d2 : D} {q : Int × Nat × Int} (h : rngD [d, d', d2] = .ok q) : ∃ i j, d = .int i ∧ d' = .int j ∧ d2 = .int (-1) ∧ i.natAbs < 4611686018427387904 ∧ j.natAbs < 4611686018427387904 ∧ q = (i, (i - j).toNat, -1) := by
  unfold rngD at h
  split at h <;> first
    | (cases h; done)
    | skip
  · rename_i h1
    cases h1
  · rename_i h1
    cases h1
  · rename_i i j h1
    cases h1
    obtain ⟨c, h⟩ := chk_bind h
    obtain ⟨c1, c2⟩ := and2 c
    cases h
    exact ⟨i, j, rfl, rfl, rfl, of_decide_eq_true c1, of_decide_eq_true c2, rfl⟩
def rngR (t : Bool) (q : Int × Nat × Int) : R := if t then .dat (.tup (rngIt q)) else .own (.lst (rngIt q))
def tRgT (t : Bool) (te : SV → Hp → (Int → Int → Hp → Prop) → Prop) : TE := if t then tTupRg te else tLstRg te
theorem rng_end {F : Fr} {env env' : EnvD} {H1 : Hp} {t : Bool} {a b : Int} (S : Sim F env' σ H1) (st : Step env σ H env' σ H1) (k : ∀ v H', PostE F env σ H (rngR t (a, (b - a).toNat, 1)) env' v H' → Q v H')
    (q : Addr) (hq : H1 q = none) : Q (.ref q) (upd H1 q (if t then .tup (rgV a b) else .lst (rgV a b))) := by
  cases t with
  | true => exact k _ _ (PostE.newT S st hq rng_rep)
  | false => exact k _ _ (PostE.newL S st hq rng_rep)
theorem tE_rng1 {t : Bool} {a : CE} (h : tEK Y T (.rngL t [a]) σ H Q) : tRgT t (tRg1 (tEK Y T a)) σ H Q := by
  obtain ⟨F, env, hK, S, h⟩ := h
  have main : tRg1 (tEK Y T a) σ H fun a b H1 => RgOk a b ∧ ∀ q, H1 q = none → Q (.ref q) (upd H1 q (if t then .tup (rgV a b) else .lst (rgV a b))) := by
    refine ⟨F, env, hK, S, (WPr.b h).seq (fun _ z => z) ?_⟩
    rintro ⟨r1, e1⟩ _ h x H1 p1
    have h := WPr.b h
    obtain ⟨ds, h2, h⟩ := WPr.pure (nx_frcs e1 [r1]) h
    obtain ⟨q, h3, h⟩ := h.pure (nx_rngD ..)
    obtain ⟨c, h⟩ := h.chk
    obtain ⟨d, ds', h4, h5, rfl⟩ := frcs_one h2
    cases h5
    obtain ⟨j, rfl, hj, rfl⟩ := rngD_1 h3
    have c : (j - 0).toNat ≤ 2 ^ 24 := by have := of_decide_eq_true c; simpa using this
    refine ⟨j, (int_rep ((p1.valS S).w p1.sim h4) rfl).1, ⟨by omega, by omega, (nat62 hj).1, (nat62 hj).2, c⟩, rng_end p1.sim p1.1 ?_⟩
    rw [Int.sub_zero]
    exact h
  cases t with
  | true => exact main
  | false => exact main
theorem tE_rng2 {t : Bool} {a b : CE} (h : tEK Y T (.rngL t [a, b]) σ H Q) : tRgT t (tRg2 (tEK Y T a) (tEK Y T b)) σ H Q := by
  obtain ⟨F, env, hK, S, h⟩ := h
  have main : tRg2 (tEK Y T a) (tEK Y T b) σ H fun a b H1 => RgOk a b ∧ ∀ q, H1 q = none → Q (.ref q) (upd H1 q (if t then .tup (rgV a b) else .lst (rgV a b))) := by
    refine ⟨F, env, hK, S, (WPr.b h).seq (fun _ z => z) ?_⟩
    rintro ⟨r1, e1⟩ _ h x H1 p1
    refine ⟨F, e1, hK, p1.sim, (WPr.b h).seq (fun _ z => z.after p1.1) ?_⟩
    rintro ⟨r2, e2⟩ _ h y H2 p2
    have h := WPr.b h
    obtain ⟨ds, h2, h⟩ := WPr.pure (nx_frcs e2 [r1, r2]) h
    obtain ⟨q, h3, h⟩ := h.pure (nx_rngD ..)
    obtain ⟨c, h⟩ := h.chk
    obtain ⟨d, ds', h4, h5, rfl⟩ := frcs_one h2
    obtain ⟨d', ds2, h6, h7, rfl⟩ := frcs_one h5
    cases h7
    obtain ⟨i, j, rfl, rfl, hi, hj, rfl⟩ := rngD_2 h3
    have c : (j - i).toNat ≤ 2 ^ 24 := by have := of_decide_eq_true c; simpa using this
    exact ⟨i, j, (int_rep (((p1.valS S).step p2.1).w p2.sim h4) rfl).1, (int_rep ((p2.valS p1.sim).w p2.sim h6) rfl).1,
      ⟨(nat62 hi).1, (nat62 hi).2, (nat62 hj).1, (nat62 hj).2, c⟩, rng_end p2.sim (p1.1.trans p2.1) h⟩
  cases t with
  | true => exact main
  | false => exact main

/-! ### methods that only read -/
theorem getD_isD {M : Av} {H : Hp} {d : D} {x : V} {m : Mt} (h : RepW M H d x) (e : mtOk m d = true) (hm : m = .get1 ∨ m = .get2) : ∃ a, x = .ref a ∧ IsD H a := by
  cases d <;> first
    | (rcases hm with rfl | rfl <;> (cases e; done))
    | skip
  · obtain ⟨a, ks, rfl, q, _⟩ := h
    exact ⟨a, rfl, .inl ⟨_, q⟩⟩
  · obtain ⟨a, ks, rfl, q, _⟩ := h
    exact ⟨a, rfl, .inr ⟨_, q⟩⟩
theorem ROpt.getD {M : Av} {H : Hp} {o : Option D} {r : Option V} (h : ROpt M H o r) {d : D} {v : V} (hd : Rep M H d v) : Rep M H (o.getD d) (r.getD v) := by
  unfold ROpt at h
  cases o with
  | none => rw [show r = none from h]; exact hd
  | some x => obtain ⟨w, rfl, q⟩ := h; exact q
theorem val_rep {F : Fr} {env : EnvD} {r : R} {v : V} {d : D} (h : Val F env σ H r v) (e : frc env r = .ok d) (n : r.isVal = true) : Rep (Mx F env σ) H d v := by
  cases r with
  | dat d' => cases e; exact h
  | own d' => cases e; exact h
  | slot i => cases n
theorem tE_get1 {o a : CE} (h : tEK Y T (.mth .get1 o [a]) σ H Q) : tDGet1 (tEK Y T o) (tEK Y T a) σ H Q := by
  obtain ⟨F, env, hK, S, h⟩ := h
  refine ⟨F, env, hK, S, h.seq (fun _ z => z) ?_⟩
  rintro ⟨ro, e1⟩ _ h x H1 p1
  obtain ⟨d0, h2, h⟩ := h.pure (nx_frc ..)
  obtain ⟨c, h⟩ := h.chk
  obtain ⟨p, rfl, isd⟩ := getD_isD ((p1.valS S).w p1.sim h2) c (.inl rfl)
  refine ⟨p, rfl, isd, F, e1, hK, p1.sim, (WPr.b h).seq (fun _ z => z.after p1.1) ?_⟩
  rintro ⟨r1, e2⟩ _ h y H2 p2
  have h := WPr.b h
  obtain ⟨hv, h⟩ := WPr.chk (b := [r1].all R.isVal) h
  obtain ⟨d, h4, h⟩ := h.pure (nx_frc ..)
  obtain ⟨ds, h5, h⟩ := h.pure (nx_frcs ..)
  obtain ⟨q, h6, h⟩ := h.pure (nx_mtD ..)
  obtain ⟨dk, ds', h7, h8, rfl⟩ := frcs_one h5
  cases h8
  obtain ⟨og, h9, h6⟩ := Res.bind_ok h6
  cases h6
  obtain ⟨p', r', e, dg, ro⟩ := getD_rep (((p1.valS S).step p2.1).w p2.sim h4) ((p2.valS p1.sim).w p2.sim h7) h9
  cases e
  exact ⟨r', dg, h _ _ ⟨p1.1.trans p2.1, p2.sim, ro.getD rfl⟩⟩
theorem tE_get2 {o a b : CE} (h : tEK Y T (.mth .get2 o [a, b]) σ H Q) : tDGet2 (tEK Y T o) (tEK Y T a) (tEK Y T b) σ H Q := by
  obtain ⟨F, env, hK, S, h⟩ := h
  refine ⟨F, env, hK, S, h.seq (fun _ z => z) ?_⟩
  rintro ⟨ro, e1⟩ _ h x H1 p1
  obtain ⟨d0, h2, h⟩ := h.pure (nx_frc ..)
  obtain ⟨c, h⟩ := h.chk
  obtain ⟨p, rfl, isd⟩ := getD_isD ((p1.valS S).w p1.sim h2) c (.inr rfl)
  refine ⟨p, rfl, isd, F, e1, hK, p1.sim, (WPr.b h).seq (fun _ z => z.after p1.1) ?_⟩
  rintro ⟨r1, e3⟩ _ h y H2 p2
  refine ⟨F, e3, hK, p2.sim, (WPr.b h).seq (fun _ z => z.after (p1.1.trans p2.1)) ?_⟩
  rintro ⟨r2, e2⟩ _ h z H3 p3
  have h := WPr.b h
  obtain ⟨hv, h⟩ := WPr.chk (b := [r1, r2].all R.isVal) h
  obtain ⟨d, h4, h⟩ := h.pure (nx_frc ..)
  obtain ⟨ds, h5, h⟩ := h.pure (nx_frcs ..)
  obtain ⟨q, h6, h⟩ := h.pure (nx_mtD ..)
  obtain ⟨dk, ds', h7, h8, rfl⟩ := frcs_one h5
  obtain ⟨dx, ds2, hx8, h9, rfl⟩ := frcs_one h8
  cases h9
  obtain ⟨og, h9, h6⟩ := Res.bind_ok h6
  cases h6
  obtain ⟨p', r', e, dg, ro⟩ := getD_rep ((((p1.valS S).step p2.1).step p3.1).w p3.sim h4) (((p2.valS p1.sim).step p3.1).w p3.sim h7) h9
  cases e
  exact ⟨r', dg, h _ _ ⟨(p1.1.trans p2.1).trans p3.1, p3.sim, ro.getD (val_rep (p3.valS p2.sim) hx8 (by
    have := List.all_eq_true.mp hv r2 (by simp)
    exact this))⟩⟩
/-! lists of things without parts -/
theorem flat_rep {M : Av} {H : Hp} {d : D} {v : V} (h : Rep M H d v) (f : d.flat = true) : flatV v = true := by
  cases d <;> first
    | (cases f; done)
    | (rw [show v = _ from h]; rfl)
theorem flat_eqv {M : Av} {H : Hp} {d e : D} {v w : V} (h : Rep M H d v) (g : Rep M H e w) (f : d.flat = true) (f' : e.flat = true) : eqV v w = D.eqv d e := by
  cases d <;> first
    | (cases f; done)
    | skip
  all_goals
    cases e <;> first
      | (cases f'; done)
      | skip
  all_goals
    rw [show v = _ from h, show w = _ from g]
    first
      | rfl
      | (simp [eqV, D.eqv, D.py, PyData.eqv]; done)
theorem flat_all {M : Av} {H : Hp} : ∀ {ds : List D} {xs : List V}, RepL M H ds xs → ds.all D.flat = true → xs.all flatV = true
  | [], _, h, _ => by rw [show _ = [] from h]; rfl
  | d :: ds, _, ⟨v, vs, e, h, r⟩, f => by
    obtain ⟨f1, f2⟩ := and2 f
    rw [e, List.all_cons, flat_rep h f1, flat_all r f2]; rfl
theorem flat_count {M : Av} {H : Hp} {x : D} {y : V} (hx : Rep M H x y) (fx : x.flat = true) : ∀ {ds : List D} {xs : List V}, RepL M H ds xs → ds.all D.flat = true → xs.countP (fun z => eqV z y) = ds.countP fun z => D.eqv z x
  | [], _, h, _ => by rw [show _ = [] from h]; rfl
  | d :: ds, _, ⟨v, vs, e, h, r⟩, f => by
    obtain ⟨f1, f2⟩ := and2 f
    rw [e, List.countP_cons, List.countP_cons, flat_count hx fx r f2, flat_eqv h hx f1 fx]
def rCntF (K : PySem.W.Frag) : V → List V → Hp → VK → Prop := fun x vs H Q => ∃ (p : Addr) (ys : List V) (y : V), x = .ref p ∧ vs = [y] ∧ SqL K H p ys ∧ flatV y = true ∧ ys.all flatV = true ∧ Q (.int (ys.countP fun z => eqV z y : Nat)) H
theorem eqU_count {y : V} : ∀ {ys : List V} {us : List Value}, Vals ys us → ys.all flatV = true → us.countP (eqU y) = ys.countP fun z => eqV z y
  | [], _, r, _ => by cases r; rfl
  | z :: ys, _, r, f => by
    cases r with
    | cons ru rr =>
      obtain ⟨f1, f2⟩ := and2 f
      rw [List.countP_cons, List.countP_cons, eqU_count rr f2, eqU_of ru f1]
theorem mt_countF : MtR X "list.count" (rCntF X.K) := by
  intro pins s σ H x vs v us Q I rx rxs hyp
  obtain ⟨p, ys, y, rfl, rfl, hs, fy, fys, q⟩ := hyp
  cases rx
  obtain ⟨u, rfl, ru⟩ := rxs.one
  obtain ⟨its, rv, ⟨o, n, ho, hc, hdn, hd⟩, hlen⟩ := I.list hs
  obtain ⟨cls, dd, data, sl⟩ := o
  dsimp only at hc hd
  subst hc
  subst hd
  have hcount : its.toArray.toList.countP (eqU y) = ys.countP fun z => eqV z y := eqU_count rv fys
  refine call_meets PySem.F.slot_list_count ⟨_, ho, rfl⟩ PySem.F.entry_list_count (PySem.F.args_list_count_2 _ _) (SeqAt.list_countAt p its.toArray n dd sl u (eqU y)) ⟨ho, ?_, ?_⟩
  · intro z hz
    exact mem_eqAt ru fy rv fys z (by simpa using hz)
  · rw [hcount]
    exact ⟨.int (ys.countP fun z => eqV z y : Nat), H, I.tok _, ⟨s.toks, rfl⟩, q⟩
theorem tE_mt1 {m : Mt} {o a : CE} (hm : m = .count ∨ m = .index) {R : V → List V → Hp → VK → Prop} (h : tEK Y T (.mth m o [a]) σ H Q)
    (k : ∀ {M : Av} {H2 : Hp} {ds : List D} {dk : D} {q : VL.R} {p : Addr} {ys : List V} {y : V} {Q' : VK}, M.K = Y.K → mtD m (.lst ds) [dk] = .ok q → H2 p = some (.lst ys) → RepL M H2 ds ys → RepW M H2 dk y → (∀ n : Int, q = .dat (.int n) → Q' (.int n) H2) → R (.ref p) [y] H2 Q') : tBM Y.K "list" R (tEK Y T o) (tCons (tEK Y T a) tNil) σ H Q := by
  obtain ⟨F, env, hK, S, h⟩ := h
  refine ⟨F, env, hK, S, h.seq (fun _ z => z) ?_⟩
  rintro ⟨ro, e1⟩ _ h x H1 p1
  obtain ⟨d0, h2, h⟩ := h.pure (nx_frc ..)
  obtain ⟨c, hc⟩ := h.chk
  clear h
  have hl : ∃ l, d0 = .lst l := by
    rcases hm with rfl | rfl <;> cases d0 <;> first
      | (cases c; done)
      | exact ⟨_, rfl⟩
  obtain ⟨l, rfl⟩ := hl
  obtain ⟨p, xs, rfl, ex, rl⟩ := ((p1.valS S).w p1.sim h2).lst
  refine ⟨.inl ⟨rfl, xs, .inl (.inl ex)⟩, F, e1, hK, p1.sim, (WPr.b hc).seq (fun _ z => z.after p1.1) ?_⟩
  clear hc
  rintro ⟨r1, e2⟩ _ h y H2 p2
  have h := WPr.b h
  obtain ⟨hv, h⟩ := WPr.chk (b := [r1].all VL.R.isVal) h
  obtain ⟨d, h4, h⟩ := h.pure (nx_frc ..)
  obtain ⟨ds, h5, h⟩ := h.pure (nx_frcs ..)
  obtain ⟨q, h6, hz⟩ := h.pure (nx_mtD ..)
  obtain ⟨dk, ds', h7, h8, rfl⟩ := frcs_one h5
  cases h8
  have w := ((p1.valS S).step p2.1).w p2.sim h4
  obtain ⟨ds1, rfl⟩ : ∃ ds1, d = .lst ds1 := by
    rcases hm with rfl | rfl <;> cases d <;> first
      | (cases h6; done)
      | exact ⟨_, rfl⟩
      | (unfold mtD at h6; split at h6 <;> first | (cases h6; done) | (rename_i e1 e2; cases e1; done) | (rename_i e1 e2 e3; cases e2; done) | (rename_i e1 e2; cases e2; done))
  obtain ⟨p', ys, e, ey, ry⟩ := w.lst
  cases e
  refine k (M := Mx F e2 σ) hK.K h6 ey ry ((p2.valS p1.sim).w p2.sim h7) fun n hn => ?_
  subst hn
  exact hz _ _ ⟨p1.1.trans p2.1, p2.sim, rfl⟩
def rCntA (K : PySem.W.Frag) : V → List V → Hp → VK → Prop := fun x vs H Q => rCntI K x vs H Q ∨ rCntF K x vs H Q
theorem mt_countA : MtR X "list.count" (rCntA X.K) := by
  intro pins s σ H x vs v us Q I rx rxs hyp
  rcases hyp with hyp | hyp
  · exact mt_lcount pins s σ H x vs v us Q I rx rxs hyp
  · exact mt_countF pins s σ H x vs v us Q I rx rxs hyp
theorem tE_count {o a : CE} (h : tEK Y T (.mth .count o [a]) σ H Q) : tBM Y.K "list" (rCntA Y.K) (tEK Y T o) (tCons (tEK Y T a) tNil) σ H Q := by
  refine tE_mt1 (.inl rfl) h fun {M H2 ds dk q p ys y Q'} hK h6 ey ry w2 k => ?_
  cases dk <;> first
    | (cases h6; done)
    | skip
  · rename_i kk
    obtain ⟨n, h9, h6⟩ := Res.bind_ok h6
    cases h6
    obtain ⟨c, h9⟩ := chk_bind h9
    cases h9
    obtain ⟨c1, c2⟩ := and2 c
    have w2 : y = .bl kk := w2
    subst w2
    refine .inr ⟨p, ys, .bl kk, rfl, rfl, .inl (.inl ey), rfl, flat_all ry c2, ?_⟩
    rw [flat_count (M := M) (x := .bl kk) (y := .bl kk) rfl rfl ry c2]
    exact k _ rfl
  · rename_i kk
    obtain ⟨n, h9, h6⟩ := Res.bind_ok h6
    cases h6
    obtain ⟨ns, h10, h9⟩ := Res.bind_ok h9
    cases h9
    have := mapM_int (ofO_ok h10)
    subst this
    have := ry.ints
    subst this
    exact .inl ⟨p, ns, kk, rfl, by rw [show y = .int kk from w2], .inl (.inl ey), k _ rfl⟩
theorem flat_ix {M : Av} {H : Hp} {x : D} {y : V} (hx : Rep M H x y) (fx : x.flat = true) : ∀ {ds : List D} {xs : List V} {j : Nat}, RepL M H ds xs → ds.all D.flat = true → (ds.findIdx? fun z => D.eqv z x) = some j →
    ∃ z, xs[j]? = some z ∧ eqV z y = true ∧ ∀ (m : Nat) (z' : V), m < j → xs[m]? = some z' → eqV z' y = false
  | [], _, j, _, _, e => by simp at e
  | d :: ds, _, j, ⟨v, vs, e, h, r⟩, f, e' => by
    subst e
    obtain ⟨f1, f2⟩ := and2 f
    rw [List.findIdx?_cons] at e'
    have q := flat_eqv h hx f1 fx
    split at e'
    · rename_i c
      cases e'
      exact ⟨v, rfl, q.trans c, fun m z' hm _ => absurd hm (Nat.not_lt_zero _)⟩
    · rename_i c
      obtain ⟨j', e1, rfl⟩ := Option.map_eq_some_iff.mp e'
      obtain ⟨z, g1, g2, g3⟩ := flat_ix hx fx r f2 e1
      refine ⟨z, g1, g2, fun m z' hm hz => ?_⟩
      cases m with
      | zero => cases hz; rw [q]; simpa using c
      | succ m => exact g3 m z' (by omega) (by simpa using hz)
theorem flat_of_w {M : Av} {H : Hp} {d : D} {v : V} (f : d.flat = true) (h : RepW M H d v) : Rep M H d v := by
  cases d <;> first
    | (cases f; done)
    | exact h
theorem tE_index {o a : CE} (h : tEK Y T (.mth .index o [a]) σ H Q) : tBM Y.K "list" (rIndex Y.K) (tEK Y T o) (tCons (tEK Y T a) tNil) σ H Q := by
  refine tE_mt1 (.inr rfl) h fun {M H2 ds dk q p ys y Q'} hK h6 ey ry w2 k => ?_
  have h6 : (idxF ds dk >>= fun n => (Res.ok (.dat (.int n)) : Res VL.R)) = .ok q := h6
  obtain ⟨n, h9, h6⟩ := Res.bind_ok h6
  cases h6
  obtain ⟨c, h9⟩ := chk_bind h9
  obtain ⟨c1, c2⟩ := and2 c
  obtain ⟨j, h10, h9⟩ := ofO_bind h9
  cases h9
  have w3 := flat_of_w c1 w2
  obtain ⟨z, g1, g2, g3⟩ := flat_ix w3 c1 ry c2 h10
  exact ⟨p, ys, y, j, z, rfl, rfl, .inl (.inl ey), flat_rep w3 c1, flat_all ry c2, g1, g2, g3, k _ rfl⟩

/-! ### pop -/
theorem isLst_held {env : EnvD} {i : Nat} (h : isLst env i = true) : ∃ s ds, env[i]? = some s ∧ s.held = some (.lst ds) := by
  unfold isLst at h
  split at h
  · rename_i q; exact ⟨_, _, q, rfl⟩
  · rename_i q; exact ⟨_, _, q, rfl⟩
  · cases h
theorem rd_held {env : EnvD} {i : Nat} {s : Slot} {d d' : D} (e : env[i]? = some s) (h : s.held = some d) (q : rd env i = .ok d') : d' = d := by
  obtain ⟨s', e', h'⟩ := rd_slot q
  rw [e] at e'; cases e'
  have := Slot.held_data h
  rw [h'] at this
  exact Option.some.inj this
theorem tVar_held {F : Fr} {env : EnvD} (S : Sim F env σ H) {i : Nat} (h : isLst env i = true) : ∃ p xs, σ[i]? = some (some (V.ref p)) ∧ H p = some (.lst xs) := by
  obtain ⟨s, ds, e, hs⟩ := isLst_held h
  obtain ⟨a, e1, _, r⟩ := S.held e hs
  obtain ⟨xs, q, _⟩ := r
  exact ⟨a, xs, e1, q⟩
theorem upS_held {env e' : EnvD} {i : Nat} {d d' : D} (h : rd env i = .ok d) (u : upS env i d' = .ok e') : ∃ s, env[i]? = some s ∧ s.held = some d := by
  obtain ⟨s, d0, s', e, hs, _⟩ := upS_shape u
  have := rd_held e hs h
  subst this
  exact ⟨s, e, hs⟩
theorem rep_last {M : Av} {H : Hp} {ds : List D} {xs : List V} (r : RepL M H ds xs) : RepL M H ds.dropLast xs.dropLast := by
  rw [List.dropLast_eq_take, List.dropLast_eq_take, r.length]
  exact r.take _
theorem tE_pop0 {i : Nat} (h : tEK Y T (.pop i []) σ H Q) : tBM0 Y.K "list" rPop (tVar i) σ H Q := by
  obtain ⟨F, env, hK, S, h⟩ := h
  obtain ⟨c, h⟩ := h.chk
  obtain ⟨⟨rs, e1⟩, h1, h⟩ := h.pure (nx_noX _)
  have h1 := noX_eq h1
  obtain ⟨ds, h2, h⟩ := h.pure (nx_frcs ..)
  obtain ⟨d, h3, h⟩ := h.pure (nx_rd ..)
  obtain ⟨⟨v, d'⟩, h4, h⟩ := h.pure (nx_popD ..)
  obtain ⟨e', h5, hz⟩ := h.pure (nx_upS ..)
  cases h1
  cases h2
  obtain ⟨p, xs, ep, hp⟩ := tVar_held S c
  refine ⟨_, ep, .inl ⟨rfl, xs, .inl (.inl hp)⟩, ?_⟩
  obtain ⟨s, es, hs⟩ := upS_held h3 h5
  obtain ⟨p', e1, m, ro⟩ := S.held es hs
  rw [ep] at e1; cases e1
  cases d <;> first
    | (cases h4; done)
    | skip
  rename_i ds
  obtain ⟨w, q1, h4⟩ := Res.bind_ok h4
  cases h4
  obtain ⟨xs', hx, rl⟩ := ro
  obtain ⟨y, hy, ry⟩ := rl.get (ofO_ok q1)
  have kp : Kp (Mx F env σ) H (Mx F env σ) (upd H p (.lst xs'.dropLast)) := ⟨rfl, fun b u e n => ⟨by
    rw [upd_ne (fun z => n (.inr (by rw [z]; exact ⟨i, s, .lst ds, es, hs, ep⟩)))]; exact e, n⟩⟩
  obtain ⟨S', st⟩ := S.put (o := .lst xs'.dropLast) h5 ep ⟨_, upd_same, (rep_last rl).mv kp⟩ (fun _ => by simp)
  exact ⟨p, xs', y, rfl, rfl, hx, by rw [rl.length]; exact hy, hz _ _ ⟨st, S', ry.mv st.kp⟩⟩
theorem tE_pop1 {i : Nat} {a : CE} (h : tEK Y T (.pop i [a]) σ H Q) : tBM Y.K "list" rPopAt (tVar i) (tCons (tEK Y T a) tNil) σ H Q := by
  obtain ⟨F, env, hK, S, h⟩ := h
  obtain ⟨c, h⟩ := h.chk
  obtain ⟨⟨rs, e1⟩, h1, h⟩ := h.pure (nx_noX _)
  have h1 := noX_eq h1
  obtain ⟨ds, h2, h⟩ := h.pure (nx_frcs ..)
  obtain ⟨d, h3, h⟩ := h.pure (nx_rd ..)
  obtain ⟨⟨v, d'⟩, h4, h⟩ := h.pure (nx_popD ..)
  obtain ⟨e', h5, hz⟩ := h.pure (nx_upS ..)
  obtain ⟨r1, rfl, h1'⟩ := runA_one h1
  obtain ⟨dk, ds', h7, h8, rfl⟩ := frcs_one h2
  cases h8
  obtain ⟨p, xs, ep, hp⟩ := tVar_held S c
  refine ⟨_, ep, .inl ⟨rfl, xs, .inl (.inl hp)⟩, F, env, hK, S, WPr.of_ok h1' fun x H1 p1 => ?_⟩
  have S1 := p1.sim
  obtain ⟨s, es, hs⟩ := upS_held h3 h5
  obtain ⟨p', e1', m, ro⟩ := S1.held es hs
  rw [ep] at e1'; cases e1'
  unfold popD at h4
  split at h4 <;> first
    | (cases h4; done)
    | skip
  · rename_i e; cases e
  rename_i ds j e
  cases e
  obtain ⟨c2, h4⟩ := chk_bind h4
  obtain ⟨kk, q0, h4⟩ := Res.bind_ok h4
  obtain ⟨w, q1, h4⟩ := Res.bind_ok h4
  cases h4
  obtain ⟨xs', hx, rl⟩ := ro
  obtain ⟨y, hy, ry⟩ := rl.get (ofO_ok q1)
  have kp : Kp (Mx F e1 σ) H1 (Mx F e1 σ) (upd H1 p (.lst (xs'.eraseIdx kk))) := ⟨rfl, fun b u e n => ⟨by
    rw [upd_ne (fun z => n (.inr (by rw [z]; exact ⟨i, s, .lst ds, es, hs, ep⟩)))]; exact e, n⟩⟩
  obtain ⟨S', st⟩ := S1.put (o := .lst (xs'.eraseIdx kk)) h5 ep ⟨_, upd_same, (rl.erase kk).mv kp⟩ (fun _ => by simp)
  have w2 := (p1.valS S).w p1.sim h7
  have c2 := of_decide_eq_true c2
  exact ⟨p, xs', j, kk, y, rfl, by rw [show x = .int j from w2], hx, by omega, by omega, by rw [rl.length]; exact ofO_ok q0, hy, hz _ _ ⟨p1.1.trans st, S', ry.mv st.kp⟩⟩
end
end VL
/-! VL12: the call of a def. -/
namespace VL
open PySem PySem.Spec L2
section
variable {F : Fr} {env env' : EnvD} {σ : SV} {H H' : Hp}
/-- the heap has only more -/
theorem Sim.ext (S : Sim F env σ H) (x : Ext H H') : Sim F env σ H' ∧ Step env σ H env σ H' := by
  have km : Kp (Mx F env σ) H (Mx F env σ) H' := ⟨rfl, fun b o e n => ⟨x b o e, n⟩⟩
  refine ⟨⟨S.len, fun i d e => ?_, fun i d e => ?_, fun i d e => ?_, S.inj, fun b h => ?_, fun b u e n => x _ _ (S.keep b u e n), S.iok, S.xc⟩, ⟨fun b o e n => ⟨x b o e, n⟩, fun b o e => ⟨o, x b o e⟩⟩⟩
  · obtain ⟨v, e1, r⟩ := S.sh i d e; exact ⟨v, e1, r.mv km⟩
  · obtain ⟨a, e1, m, f, r⟩ := S.ow i d e
    obtain ⟨o, q, _⟩ := r.some
    exact ⟨a, e1, m, f, r.mv km ((x _ _ q).trans q.symm)⟩
  · obtain ⟨a, e1, m, f, r⟩ := S.io i d e
    obtain ⟨o, q, _⟩ := r.some
    exact ⟨a, e1, m, f, r.mv km ((x _ _ q).trans q.symm)⟩
  · obtain ⟨u, q, n⟩ := S.m0 b h
    exact ⟨u, x _ _ q, n⟩
/-- a slot of the environment as it was, or with new data of its own -/
def Upd (env env' : EnvD) (A : Addr → Prop) (G : D → Addr → Prop) (σ : SV) : Prop := env'.length = env.length ∧ ∀ j : Nat,
  (env'[j]? = env[j]? ∧ ∀ b s d, σ[j]? = some (some (V.ref b)) → env[j]? = some s → s.held = some d → ¬ A b) ∨
  ∃ x d a, σ[j]? = some (some (V.ref a)) ∧ G d a ∧ (env[j]? = some (Slot.ow x) ∧ env'[j]? = some (Slot.ow d) ∨ env[j]? = some (Slot.io x) ∧ env'[j]? = some (Slot.io d))
theorem Sim.called {A : Addr → Prop} (S : Sim F env σ H) (hk : ∀ b o, H b = some o → ¬ A b → H' b = some o) (hA : ∀ b, A b → Owns env σ b)
    (u : Upd env env' A (fun d a => OwnRep (Mx F env σ) H' d a) σ) : Sim F env' σ H' ∧ Step env σ H env' σ H' ∧ Mx F env' σ = Mx F env σ := by
  obtain ⟨hl, u⟩ := u
  -- what is held stays held, at the same places
  have fwd : ∀ {j s d}, env[j]? = some s → Slot.held s = some d → ∃ s' d', env'[j]? = some s' ∧ Slot.held s' = some d' := fun {j s d} e h => by
    rcases u j with ⟨q, _⟩ | ⟨x, d', a, _, _, ⟨_, q⟩ | ⟨_, q⟩⟩
    · exact ⟨s, d, q.trans e, h⟩
    · exact ⟨_, d', q, rfl⟩
    · exact ⟨_, d', q, rfl⟩
  have bwd : ∀ {j s d}, env'[j]? = some s → Slot.held s = some d → ∃ s' d', env[j]? = some s' ∧ Slot.held s' = some d' := fun {j s d} e h => by
    rcases u j with ⟨q, _⟩ | ⟨x, d', a, _, _, ⟨q, _⟩ | ⟨q, _⟩⟩
    · exact ⟨s, d, q.symm.trans e, h⟩
    · exact ⟨_, x, q, rfl⟩
    · exact ⟨_, x, q, rfl⟩
  have ow : ∀ b, Owns env' σ b ↔ Owns env σ b := fun b => ⟨fun ⟨j, s, d, e1, e2, e3⟩ => let ⟨s', d', q1, q2⟩ := bwd e1 e2; ⟨j, s', d', q1, q2, e3⟩, fun ⟨j, s, d, e1, e2, e3⟩ => let ⟨s', d', q1, q2⟩ := fwd e1 e2; ⟨j, s', d', q1, q2, e3⟩⟩
  have hM : Mx F env' σ = Mx F env σ := mx_eq ow
  have kp : Kp (Mx F env σ) H (Mx F env σ) H' := ⟨rfl, fun b o e n => ⟨hk b o e fun z => n (.inr (hA b z)), n⟩⟩
  have hAm : ∀ b, A b → ¬ F.M0 b := fun b z => (let ⟨_, _, _, q⟩ := (hA b z).some S; q)
  refine ⟨⟨S.len.trans hl.symm, fun j d e => ?_, fun j d e => ?_, fun j d e => ?_, fun i j s t d e a e1 h1 e2 h2 e3 e4 => ?_, fun b z => ?_, fun b o e n => ?_, fun j b e => ?_, fun j e => by
    rcases u j with ⟨q, _⟩ | ⟨x, d', a, _, _, ⟨_, q⟩ | ⟨_, q⟩⟩
    · exact S.xc j (q.symm.trans e)
    · rw [q] at e; cases e
    · rw [q] at e; cases e⟩, ⟨fun b o e n => ⟨hk b o e fun z => n (hA b z), fun z => n ((ow b).mp z)⟩, fun b o e => ?_⟩, hM⟩
  · rw [hM]
    rcases u j with ⟨q, _⟩ | ⟨x, d', a, _, _, ⟨_, q⟩ | ⟨_, q⟩⟩
    · obtain ⟨v, e1, r⟩ := S.sh j d (q.symm.trans e); exact ⟨v, e1, r.mv kp⟩
    · rw [q] at e; cases e
    · rw [q] at e; cases e
  · rw [hM]
    rcases u j with ⟨q, na⟩ | ⟨x, d', a, ha, g, ⟨q0, q⟩ | ⟨_, q⟩⟩
    · obtain ⟨a, e1, m, f, r⟩ := S.ow j d (q.symm.trans e)
      obtain ⟨o, qo, _⟩ := r.some
      exact ⟨a, e1, m, f, r.mv kp ((hk _ _ qo (na a _ d e1 (q.symm.trans e) rfl)).trans qo.symm)⟩
    · rw [q] at e; cases e
      obtain ⟨a', e1, m, f, r⟩ := S.ow j x q0
      rw [ha] at e1; cases e1
      exact ⟨a, ha, m, f, g⟩
    · rw [q] at e; cases e
  · rw [hM]
    rcases u j with ⟨q, na⟩ | ⟨x, d', a, ha, g, ⟨_, q⟩ | ⟨q0, q⟩⟩
    · obtain ⟨a, e1, m, f, r⟩ := S.io j d (q.symm.trans e)
      obtain ⟨o, qo, _⟩ := r.some
      exact ⟨a, e1, m, f, r.mv kp ((hk _ _ qo (na a _ d e1 (q.symm.trans e) rfl)).trans qo.symm)⟩
    · rw [q] at e; cases e
    · rw [q] at e; cases e
      obtain ⟨a', e1, m, f, r⟩ := S.io j x q0
      rw [ha] at e1; cases e1
      exact ⟨a, ha, m, f, g⟩
  · obtain ⟨s', d', q1, q2⟩ := bwd e1 h1
    obtain ⟨t', d2, q3, q4⟩ := bwd e2 h2
    exact S.inj i j s' t' d' d2 a q1 q2 q3 q4 e3 e4
  · obtain ⟨o, q, n⟩ := S.m0 b z
    exact ⟨o, hk b o q fun y => hAm b y z, n⟩
  · refine hk b o (S.keep b o e n) fun z => ?_
    obtain ⟨j, s, d, q1, q2, q3⟩ := hA b z
    cases s with
    | un => cases q2
    | xc => cases q2
    | sh d => cases q2
    | ow d' =>
      obtain ⟨a, e1, _, f, _⟩ := S.ow j _ q1
      rw [q3] at e1; cases e1
      rw [f] at e; cases e
    | io d' =>
      obtain ⟨a, e1, _, f, _⟩ := S.io j _ q1
      rw [q3] at e1; cases e1
      exact n j f
  · obtain ⟨d, q1, q2⟩ := S.iok j b e
    rcases u j with ⟨q, _⟩ | ⟨x, d', a, ha, g, ⟨q0, _⟩ | ⟨_, q⟩⟩
    · exact ⟨d, q.trans q1, q2⟩
    · rw [q0] at q1; cases q1
    · exact ⟨d', q, q2⟩
  · by_cases hb : A b
    · obtain ⟨j, s, d, q1, q2, q3⟩ := hA b hb
      rcases u j with ⟨_, na⟩ | ⟨x, d', a, ha, g, _⟩
      · exact absurd hb (na b s d q3 q1 q2)
      · rw [q3] at ha; cases ha
        obtain ⟨o', q, _⟩ := g.some
        exact ⟨o', q⟩
    · exact ⟨o, hk b o e hb⟩

/-! ### slots shared, slots with new data -/
theorem Sim.escs : ∀ {is : List Nat} {env env' : EnvD}, Sim F env σ H → escs env is = .ok env' → Sim F env' σ H ∧ Step env σ H env' σ H ∧ ∀ (j : Nat) (t : Slot) (x : D), env'[j]? = some t → t.held = some x → env[j]? = some t ∧ j ∉ is
  | [], _, _, S, h => by cases h; exact ⟨S, Step.refl, fun j t x e _ => ⟨e, by simp⟩⟩
  | i :: is, env, env', S, h => by
    obtain ⟨e1, h1, h⟩ := Res.bind_ok h
    obtain ⟨S1, st, _⟩ := S.escI h1
    obtain ⟨S2, st2, q⟩ := Sim.escs S1 h
    have sub : ∀ (j : Nat) (t : Slot) (x : D), e1[j]? = some t → t.held = some x → env[j]? = some t ∧ j ≠ i := fun j t x e hx => by
      unfold VL.escI at h1
      cases q : env[i]? with
      | none => rw [q] at h1; cases h1
      | some s =>
        have hi : i < env.length := (List.getElem?_eq_some_iff.mp q).1
        rw [q] at h1
        cases s with
        | un => cases h1
        | xc => cases h1
        | io d => cases h1
        | sh d =>
          cases h1
          refine ⟨e, fun z => ?_⟩
          subst z
          rw [q] at e; cases e; cases hx
        | ow d =>
          cases h1
          by_cases hj : j = i
          · subst hj
            rw [List.getElem?_set_self hi] at e; cases e; cases hx
          · rw [List.getElem?_set_ne (Ne.symm hj)] at e
            exact ⟨e, hj⟩
    refine ⟨S2, st.trans st2, fun j t x e hx => ?_⟩
    obtain ⟨q1, q2⟩ := q j t x e hx
    obtain ⟨q3, q4⟩ := sub j t x q1 hx
    exact ⟨q3, by simp [q4, q2]⟩
theorem ups_shape : ∀ {is : List Nat} {ds : List D} {env env' : EnvD}, ups env is ds = .ok env' → is.Nodup → env'.length = env.length ∧ ds.length = is.length ∧ (∀ j, j ∉ is → env'[j]? = env[j]?) ∧
    ∀ (k i : Nat) (d : D), is[k]? = some i → ds[k]? = some d → ∃ x, env[i]? = some (.ow x) ∧ env'[i]? = some (.ow d) ∨ env[i]? = some (.io x) ∧ env'[i]? = some (.io d)
  | [], [], _, _, h, _ => by cases h; exact ⟨rfl, rfl, fun _ _ => rfl, fun k i d e => by simp at e⟩
  | [], _ :: _, _, _, h, _ => by cases h
  | _ :: _, [], _, _, h, _ => by cases h
  | i :: is, d :: ds, env, env', h, n => by
    obtain ⟨e1, h1, h⟩ := Res.bind_ok h
    obtain ⟨ni, n⟩ := List.nodup_cons.mp n
    obtain ⟨q1, q2, q3, q4⟩ := ups_shape h n
    obtain ⟨s, d0, s', e, hs, rfl, hs', hk⟩ := upS_shape h1
    have hi : i < env.length := (List.getElem?_eq_some_iff.mp e).1
    refine ⟨by rw [q1, List.length_set], by simp [q2], fun j hj => ?_, fun k i' d' e1 e2 => ?_⟩
    · have hj' : j ≠ i ∧ j ∉ is := by simpa using hj
      rw [q3 j hj'.2, List.getElem?_set_ne (Ne.symm hj'.1)]
    · cases k with
      | zero =>
        cases e1
        cases e2
        rw [q3 i ni, List.getElem?_set_self hi]
        rcases hk with ⟨⟨x, rfl⟩, rfl⟩ | ⟨⟨x, rfl⟩, rfl⟩
        · exact ⟨x, .inl ⟨e, rfl⟩⟩
        · exact ⟨x, .inr ⟨e, rfl⟩⟩
      | succ k =>
        have e1' : is[k]? = some i' := by simpa using e1
        obtain ⟨x, q⟩ := q4 k i' d' e1' (by simpa using e2)
        have hne : i' ≠ i := fun z => by subst z; exact ni (List.mem_of_getElem? e1')
        rw [List.getElem?_set_ne (Ne.symm hne)] at q
        exact ⟨x, q⟩

/-! ### data without anything that may be changed -/
mutual
theorem Rep.pure {M M' : Av} (n : ∀ a xs, H a = some (.tup xs) → ¬ M' a) : ∀ {d : D} {v : V}, d.pure = true → Rep M H d v → Rep M' H d v
  | .non, _, _, h => h
  | .bl _, _, _, h => h
  | .int _, _, _, h => h
  | .str _, _, _, h => h
  | .tup ds, _, p, ⟨a, xs, e, h, m, r⟩ => ⟨a, xs, e, h, n a xs h, RepL.pure n p r⟩
  | .lst ds, _, p, _ => by cases p
  | .dK ds, _, p, _ => by cases p
  | .dT ds, _, p, _ => by cases p
  | .scr ds, _, p, _ => by cases p
termination_by structural d => d
theorem RepL.pure {M M' : Av} (n : ∀ a xs, H a = some (.tup xs) → ¬ M' a) : ∀ {ds : List D} {xs : List V}, D.pureL ds = true → RepL M H ds xs → RepL M' H ds xs
  | [], _, _, h => h
  | d :: ds, _, p, ⟨v, vs, e, h, r⟩ => ⟨v, vs, e, Rep.pure n (and2 p).1 h, RepL.pure n (and2 p).2 r⟩
termination_by structural d => d
end
theorem RepK.pure {M M' : Av} (n : ∀ a xs, H a = some (.tup xs) → ¬ M' a) : ∀ {ds : List (Key × D)} {xs : List (Key × V)}, D.pureL (ds.map (·.2)) = true → RepK M H ds xs → RepK M' H ds xs
  | [], _, _, h => h
  | (k, d) :: ds, _, p, ⟨v, vs, e, h, r⟩ => ⟨v, vs, e, Rep.pure (d := d) n (and2 p).1 h, RepK.pure n (and2 p).2 r⟩
theorem RepT.pure {M M' : Av} (n : ∀ a xs, H a = some (.tup xs) → ¬ M' a) : ∀ {ds : List (List Key × D)} {xs : List (List Key × V)}, D.pureL (ds.map (·.2)) = true → RepT M H ds xs → RepT M' H ds xs
  | [], _, _, h => h
  | (k, d) :: ds, _, p, ⟨v, vs, e, h, r⟩ => ⟨v, vs, e, Rep.pure (d := d) n (and2 p).1 h, RepT.pure n (and2 p).2 r⟩
theorem OwnRep.pure {M M' : Av} (n : ∀ a xs, H a = Option.some (HO.tup xs) → ¬ M' a) {d : D} {a : Addr} (p : d.pureIn = true) (h : OwnRep M H d a) : OwnRep M' H d a := by
  cases d with
  | lst ds => obtain ⟨xs, h, r⟩ := h; exact ⟨xs, h, r.pure n p⟩
  | dK ds => obtain ⟨xs, h, r⟩ := h; exact ⟨xs, h, r.pure n p⟩
  | dT ds => obtain ⟨xs, h, r⟩ := h; exact ⟨xs, h, r.pure n p⟩
  | _ => exact h.elim
end
end VL
/-! VL13: the call of a def, ended. -/
namespace VL
open PySem PySem.Spec L2
section
variable {F : Fr} {env env' : EnvD} {σ : SV} {H H' : Hp}
theorem vals_len : ∀ {rs : List R} {fl : List Bool} {vs : List V}, fitA rs fl = true → Vals' F env σ H rs vs → vs.length = fl.length
  | [], [], _, _, h => by rw [show _ = [] from h]; rfl
  | [], _ :: _, _, f, _ => by cases f
  | r :: _, [], _, f, _ => by cases r <;> cases f
  | r :: rs, b :: fl, _, f, ⟨v, vs', e, _, t⟩ => by
    have f' : fitA rs fl = true := by
      cases r with
      | slot i => exact f
      | dat d => cases b <;> first | (cases f; done) | exact f
      | own d => cases b <;> first | (cases f; done) | exact f
    rw [e, List.length_cons, List.length_cons, vals_len f' t]
/-- the places handed in to be changed -/
theorem ioA_mem : ∀ {rs : List R} {fl : List Bool} {vs : List V}, fitA rs fl = true → Vals' F env σ H rs vs → ∀ a ∈ ioA fl vs, ∃ i ∈ ioSlots rs fl, σ[i]? = some (some (V.ref a))
  | [], [], _, _, h => by rw [show _ = [] from h]; intro a ha; cases ha
  | [], _ :: _, _, f, _ => by cases f
  | r :: _, [], _, f, _ => by cases r <;> cases f
  | r :: rs, b :: fl, _, f, ⟨v, vs', e, w, t⟩ => by
    subst e
    intro a ha
    cases b with
    | false =>
      have ha : a ∈ ioA fl vs' := by cases v <;> exact ha
      have f' : fitA rs fl = true := by cases r <;> exact f
      obtain ⟨i, hi, q⟩ := ioA_mem f' t a ha
      exact ⟨i, by cases r <;> exact hi, q⟩
    | true =>
      cases r with
      | dat d => cases f
      | own d => cases f
      | slot i =>
        have f : fitA rs fl = true := f
        have w : σ[i]? = some (some v) := w
        have key : a ∈ ioA fl vs' → ∃ j ∈ ioSlots (.slot i :: rs) (true :: fl), σ[j]? = some (some (V.ref a)) := fun ha => by
          obtain ⟨j, hj, q⟩ := ioA_mem f t a ha
          exact ⟨j, List.mem_cons_of_mem _ hj, q⟩
        cases v <;> first
          | exact key ha
          | skip
        rename_i p
        rcases List.mem_cons.mp ha with z | z
        · subst z; exact ⟨i, List.mem_cons_self .., w⟩
        · exact key z
theorem ioA_nodup (S : Sim F env σ H) : ∀ {rs : List R} {fl : List Bool} {vs : List V}, fitA rs fl = true → Vals' F env σ H rs vs → (ioSlots rs fl).Nodup → (∀ i ∈ ioSlots rs fl, ∃ s d, env[i]? = some s ∧ s.held = some d) → (ioA fl vs).Nodup
  | [], [], _, _, h, _, _ => by rw [show _ = [] from h]; exact List.nodup_nil
  | [], _ :: _, _, f, _, _, _ => by cases f
  | r :: _, [], _, f, _, _, _ => by cases r <;> cases f
  | r :: rs, b :: fl, _, f, ⟨v, vs', e, w, t⟩, n, hh => by
    subst e
    cases b with
    | false =>
      have f' : fitA rs fl = true := by cases r <;> exact f
      have n' : (ioSlots rs fl).Nodup := by cases r <;> exact n
      have hh' : ∀ i ∈ ioSlots rs fl, ∃ s d, env[i]? = some s ∧ s.held = some d := by cases r <;> exact hh
      have := ioA_nodup S f' t n' hh'
      cases v <;> exact this
    | true =>
      cases r with
      | dat d => cases f
      | own d => cases f
      | slot i =>
        have f : fitA rs fl = true := f
        have w : σ[i]? = some (some v) := w
        have n : (i :: ioSlots rs fl).Nodup := n
        have hh : ∀ j ∈ i :: ioSlots rs fl, ∃ s d, env[j]? = some s ∧ s.held = some d := hh
        obtain ⟨n1, n2⟩ := List.nodup_cons.mp n
        have ih := ioA_nodup S f t n2 fun j hj => hh j (List.mem_cons_of_mem _ hj)
        cases v <;> first
          | exact ih
          | skip
        rename_i p _
        refine List.nodup_cons.mpr ⟨fun z => ?_, ih⟩
        obtain ⟨j, hj, q⟩ := ioA_mem f t p z
        obtain ⟨s, d, e1, e2⟩ := hh i (List.mem_cons_self ..)
        obtain ⟨s', d', e3, e4⟩ := hh j (List.mem_cons_of_mem _ hj)
        have := S.inj i j s s' d d' p e1 e2 e3 e4 w q
        subst this
        exact n1 hj
theorem args_rep {M : Av} (hmono : ∀ (d : D) (v : V), Rep (Mx F env σ) H d v → Rep M H d v) : ∀ {rs : List R} {fl : List Bool} {vs : List V} {ds : List D}, fitA rs fl = true → Vals' F env σ H rs vs → frcs env rs = .ok ds →
    (∀ i ∈ ioSlots rs fl, ∀ d, rd env i = .ok d → ∃ a, σ[i]? = some (some (V.ref a)) ∧ M a ∧ OwnRep M H d a) → (∀ i ∈ notIoSlots rs fl, ∀ d v, rd env i = .ok d → σ[i]? = some (some v) → Rep M H d v) → ArgsR M H fl ds vs
  | [], [], _, _, _, h, e, _, _ => by cases e; exact ⟨rfl, h⟩
  | [], _ :: _, _, _, f, _, _, _, _ => by cases f
  | r :: _, [], _, _, f, _, _, _, _ => by cases r <;> cases f
  | r :: rs, b :: fl, _, _, f, ⟨v, vs', e, w, t⟩, q, hi, hn => by
    subst e
    obtain ⟨d, ds', q1, q2, rfl⟩ := frcs_one q
    cases b with
    | false =>
      have f' : fitA rs fl = true := by cases r <;> exact f
      refine ⟨d, ds', v, vs', rfl, rfl, ?_, args_rep hmono f' t q2 (by cases r <;> exact hi) (fun i z => hn i (by cases r <;> first | exact List.mem_cons_of_mem _ z | exact z))⟩
      cases r with
      | dat d' => cases q1; exact hmono _ _ w
      | own d' => cases q1; exact hmono _ _ w
      | slot i => exact hn i (List.mem_cons_self ..) d v q1 w
    | true =>
      cases r with
      | dat d => cases f
      | own d => cases f
      | slot i =>
        have f : fitA rs fl = true := f
        have w : σ[i]? = some (some v) := w
        obtain ⟨a, e1, m, o⟩ := hi i (List.mem_cons_self ..) d q1
        rw [w] at e1; cases e1
        exact ⟨d, ds', a, vs', rfl, rfl, m, o, args_rep hmono f t q2 (fun j hj => hi j (List.mem_cons_of_mem _ hj)) hn⟩
theorem ios_get {M : Av} : ∀ {rs : List R} {fl : List Bool} {vs : List V} {ios : List D}, fitA rs fl = true → Vals' F env σ H rs vs → IosR M H' fl ios vs →
    ∀ (k i : Nat) (d : D), (ioSlots rs fl)[k]? = some i → ios[k]? = some d → ∃ a, σ[i]? = some (some (V.ref a)) ∧ OwnRep M H' d a
  | [], [], _, _, _, _, _, k, i, d, e, _ => by cases e
  | [], _ :: _, _, _, f, _, _, _, _, _, _, _ => by cases f
  | r :: _, [], _, _, f, _, _, _, _, _, _, _ => by cases r <;> cases f
  | r :: rs, b :: fl, _, _, f, ⟨v, vs', e, w, t⟩, g, k, i, d, e1, e2 => by
    subst e
    cases b with
    | false =>
      have f' : fitA rs fl = true := by cases r <;> exact f
      obtain ⟨v', vs2, ev, g⟩ := g
      cases ev
      exact ios_get f' t g k i d (by cases r <;> exact e1) e2
    | true =>
      cases r with
      | dat d => cases f
      | own d => cases f
      | slot j =>
        have f : fitA rs fl = true := f
        have w : σ[j]? = some (some v) := w
        obtain ⟨d', ios', a, vs2, ei, ev, o, g⟩ := g
        subst ei
        cases ev
        cases k with
        | zero =>
          cases e1
          cases e2
          exact ⟨a, w, o⟩
        | succ k => exact ios_get f t g k i d e1 e2
/-- each place handed in is in use behind the call -/
theorem ios_own {M : Av} : ∀ {fl : List Bool} {vs : List V} {ios : List D}, IosR M H' fl ios vs → ∀ a ∈ ioA fl vs, ∃ d, OwnRep M H' d a
  | [], _, _, ⟨_, e⟩, a, ha => by subst e; cases ha
  | false :: fl, _, _, ⟨v, vs, e, g⟩, a, ha => by
    subst e
    exact ios_own g a (by cases v <;> exact ha)
  | true :: fl, _, _, ⟨d, ios', b, vs, _, e, o, g⟩, a, ha => by
    subst e
    rcases List.mem_cons.mp ha with z | z
    · subst z; exact ⟨d, o⟩
    · exact ios_own g a z
theorem call_core {F' : Fr} {e1 e2 : EnvD} {Hs : Hp} {rs : List R} {fl : List Bool} {vs : List V} {ios : List D} (S1 : Sim F' e1 σ Hs) (hn : (ioSlots rs fl).Nodup) (hu : ups e1 (ioSlots rs fl) ios = .ok e2)
    (keep : ∀ b o, Hs b = some o → b ∉ ioA fl vs → H' b = some o) (hA : ∀ b ∈ ioA fl vs, ∃ i ∈ ioSlots rs fl, σ[i]? = some (some (V.ref b)))
    (hg : ∀ (k i : Nat) (d : D), (ioSlots rs fl)[k]? = some i → ios[k]? = some d → ∃ a, σ[i]? = some (some (V.ref a)) ∧ OwnRep (Mx F' e1 σ) H' d a) : Sim F' e2 σ H' ∧ Step e1 σ Hs e2 σ H' ∧ Mx F' e2 σ = Mx F' e1 σ := by
  obtain ⟨q1, q2, q3, q4⟩ := ups_shape hu hn
  have at' : ∀ i ∈ ioSlots rs fl, ∃ k d, (ioSlots rs fl)[k]? = some i ∧ ios[k]? = some d := fun i hi => by
    obtain ⟨k, hk⟩ := List.getElem?_of_mem hi
    have hlt : k < (ioSlots rs fl).length := (List.getElem?_eq_some_iff.mp hk).1
    exact ⟨k, _, hk, List.getElem?_eq_getElem (by omega)⟩
  have hold : ∀ i ∈ ioSlots rs fl, ∃ s d, e1[i]? = some s ∧ s.held = some d := fun i hi => by
    obtain ⟨k, d, a1, a2⟩ := at' i hi
    obtain ⟨x, ⟨q, _⟩ | ⟨q, _⟩⟩ := q4 k i d a1 a2
    · exact ⟨_, _, q, rfl⟩
    · exact ⟨_, _, q, rfl⟩
  refine S1.called (A := fun b => b ∈ ioA fl vs) keep (fun b hb => ?_) ⟨q1, fun j => ?_⟩
  · obtain ⟨i, hi, q⟩ := hA b hb
    obtain ⟨s, d, e, h⟩ := hold i hi
    exact ⟨i, s, d, e, h, q⟩
  · by_cases hj : j ∈ ioSlots rs fl
    · obtain ⟨k, d, a1, a2⟩ := at' j hj
      obtain ⟨a, ha, o⟩ := hg k j d a1 a2
      obtain ⟨x, q⟩ := q4 k j d a1 a2
      exact .inr ⟨x, d, a, ha, o, q⟩
    · refine .inl ⟨q3 j hj, fun b s d hb e h z => ?_⟩
      obtain ⟨i, hi, q⟩ := hA b z
      obtain ⟨s', d', e', h'⟩ := hold i hi
      have := S1.inj i j s' s d' d b e' h' e h q hb
      subst this
      exact hj hi
end
section
variable {T : Tb} {X : Cx} {C : CEnv} {Y : YW} {σ : SV} {H : Hp} {Q : VK}
theorem ite_chk {α : Type} {b : Bool} {x y z : Res α} (h : (if b = true then x else y) = z) : (b = true ∧ x = z) ∨ (b = false ∧ y = z) := by
  cases b with
  | true => exact .inl ⟨rfl, by rwa [if_pos rfl] at h⟩
  | false => exact .inr ⟨rfl, by rwa [if_neg Bool.false_ne_true] at h⟩
theorem call_sp {f : Nat} {E : XK} {F : Fr} {e : EnvD} {rs : List VL.R} {vs : List V} {H1 : Hp} (hK : FY F Y) (S1 : Sim F e σ H1) (vv : Vals' F e σ H1 rs vs) {Px : Ex → Prop} (hr : WPr (callR T f rs e) (fun p => ∀ v H', PostE F e σ H1 p.1 p.2 v H' → Q v H') Px)
    (kx : ∀ x, Px x → x.env = e → ∀ C d H', (∀ b o, H1 b = some o → H' b = some o) → XRep Y.mg Y.xs x C d → E C d H') : spF Y.K Y.mg Y.xs (T.fl f) (T.call f) vs H1 Q E := by
  obtain ⟨c, hr⟩ := hr.chk
  obtain ⟨ds, h2, hr⟩ := hr.pure (nx_frcs ..)
  obtain ⟨c1, c2⟩ := and2 c
  obtain ⟨c2, c3⟩ := and2 c2
  have c2 := of_decide_eq_true c2
  have hdis : ∀ i ∈ ioSlots rs (T.fl f), i ∉ notIoSlots rs (T.fl f) := fun i hi => of_decide_eq_true (List.all_eq_true.mp c3 i hi)
  have st1 : Step e σ H1 e σ H1 := Step.refl
  generalize hfl : T.fl f = fl at *
  -- what is kept from the callee
  let NA : Addr → Prop := fun b => ∃ i ∈ notIoSlots rs fl, ∃ s d, e[i]? = some s ∧ Slot.held s = some d ∧ σ[i]? = some (some (V.ref b))
  let M : Av := ⟨Y.K, fun b => Mx F e σ b ∧ ¬ NA b⟩
  have kM : Kp (Mx F e σ) H1 M H1 := ⟨hK.K.symm, fun b o h n => ⟨h, fun z => n z.1⟩⟩
  have hA := ioA_mem c1 vv
  have hMs : ∀ b, M b → ∃ o, H1 b = some o ∧ ∀ xs, o ≠ .tup xs := fun b ⟨z, _⟩ => by
    rcases z with z | z
    · exact S1.m0 b z
    · obtain ⟨o, a1, a2, _⟩ := z.some S1; exact ⟨o, a1, a2⟩
  have pre : (∀ i ∈ ioSlots rs fl, ∃ s d, e[i]? = some s ∧ s.held = some d) → ArgsR M H1 fl ds vs ∧ (ioA fl vs).Nodup := fun hold => by
    refine ⟨?_, ioA_nodup S1 c1 vv c2 hold⟩
    refine args_rep (fun d v r => r.mv kM) c1 vv h2 (fun i hi d hd => ?_) fun i hi d v hd hv => ?_
    · obtain ⟨s, d', a1, a2⟩ := hold i hi
      have := rd_held a1 a2 hd
      subst this
      obtain ⟨a, b1, b2, b3⟩ := S1.held a1 a2
      refine ⟨a, b1, ⟨.inr ⟨i, s, d, a1, a2, b1⟩, fun ⟨j, hj, s', d', p1, p2, p3⟩ => ?_⟩, b3.mv kM rfl⟩
      have := S1.inj i j s s' d d' a a1 a2 p1 p2 b1 p3
      subst this
      exact hdis i hi hj
    · obtain ⟨s, a1, a2⟩ := rd_slot hd
      cases hs : s.held with
      | none =>
        cases s with
        | un => cases a2
        | xc => cases a2
        | ow x => cases hs
        | io x => cases hs
        | sh x =>
          cases a2
          obtain ⟨v', b1, b2⟩ := S1.sh i _ a1
          rw [hv] at b1; cases b1
          exact b2.mv kM
      | some x =>
        have : d = x := rd_held a1 hs hd
        subst this
        obtain ⟨a, b1, b2, b3⟩ := S1.held a1 hs
        rw [hv] at b1; cases b1
        exact b3.share hK.K.symm (fun b z => z.1) fun z => z.2 ⟨i, hi, s, d, a1, hs, hv⟩
  cases h3 : T.call f ds with
  | fail => rw [h3] at hr; exact hr.elim
  | exc x =>
    rw [h3] at hr
    have hr : WPr ((if (fl.all (fun b => !b) && x.fs.isEmpty) = true then .exc ⟨x.cls, x.fs, e⟩ else .fail : Res FRes) >>= _) _ Px := hr
    split at hr
    · rename_i cc
      obtain ⟨f1, f2⟩ := and2 cc
      have io0 : ∀ (rs : List VL.R) (fl : List Bool), fl.all (fun b => !b) = true → ioSlots rs fl = [] := by
        intro rs
        induction rs with
        | nil => intro fl _; cases fl <;> rfl
        | cons r rs ih =>
          intro fl hf
          cases fl with
          | nil => cases r <;> rfl
          | cons b fl =>
            obtain ⟨g1, g2⟩ := and2 hf
            cases b with
            | true => cases g1
            | false => cases r <;> exact ih fl g2
      obtain ⟨hargs, hnd⟩ := pre fun i hi => by rw [io0 rs fl f1] at hi; cases hi
      refine ⟨vals_len c1 vv, M, ds, rfl, hMs, hargs, hnd, .inr ⟨x, h3, f1, fun C d H' hx xr => ?_⟩⟩
      exact kx _ hr rfl C d H' hx xr
    · exact hr.elim
  | ok q =>
  rw [h3] at hr
  obtain ⟨e1, h4, hr⟩ := WPr.pure (m := if ((if q.own then q.d.pureIn else q.d.pure) && q.ios.all D.pureIn) = true then Res.ok e else escs e (notIoSlots rs fl)) ((nx_ok _).ite (nx_escs ..)) hr
  obtain ⟨e2, h5, hr⟩ := hr.pure (nx_ups ..)
  have k : ∀ v H', PostE F e σ H1 (if q.own = true then R.own q.d else R.dat q.d) e2 v H' → Q v H' := hr
  obtain ⟨r, hrr⟩ : ∃ r, r = if q.own = true then R.own q.d else R.dat q.d := ⟨_, rfl⟩
  rw [← hrr] at k
  -- the environment with things shared
  have key : Sim F e1 σ H1 ∧ Step e σ H1 e1 σ H1 ∧ ∀ (j : Nat) (t : Slot) (x : D), e1[j]? = some t → t.held = some x → e[j]? = some t := by
    rcases ite_chk h4 with ⟨_, z⟩ | ⟨_, z⟩
    · cases z; exact ⟨S1, Step.refl, fun _ _ _ e _ => e⟩
    · obtain ⟨S2, st, q⟩ := S1.escs z
      exact ⟨S2, st, fun j t x e h => (q j t x e h).1⟩
  obtain ⟨S2, st2, back⟩ := key
  obtain ⟨u1, u2, u3, u4⟩ := ups_shape h5 c2
  have hold1 : ∀ i ∈ ioSlots rs fl, ∃ s d, e1[i]? = some s ∧ s.held = some d := fun i hi => by
    obtain ⟨k, hk⟩ := List.getElem?_of_mem hi
    have hlt : k < (ioSlots rs fl).length := (List.getElem?_eq_some_iff.mp hk).1
    obtain ⟨x, ⟨q, _⟩ | ⟨q, _⟩⟩ := u4 k i _ hk (List.getElem?_eq_getElem (by omega))
    · exact ⟨_, _, q, rfl⟩
    · exact ⟨_, _, q, rfl⟩
  have hold : ∀ i ∈ ioSlots rs fl, ∃ s d, e[i]? = some s ∧ s.held = some d := fun i hi => by
    obtain ⟨s, d, a1, a2⟩ := hold1 i hi
    exact ⟨s, d, back i s d a1 a2, a2⟩
  obtain ⟨hargs, hnd⟩ := pre hold
  refine ⟨vals_len c1 vv, M, ds, rfl, hMs, hargs, hnd, .inl ⟨q, h3, fun v H' ⟨keep, post⟩ => ?_⟩⟩
  -- shared: all that the caller holds back was held back from the callee
  have sub : ((if q.own = true then q.d.pureIn else q.d.pure) && q.ios.all D.pureIn) = false → ∀ b, Mx F e1 σ b → M b := fun hp b z => by
    rcases ite_chk h4 with ⟨w, _⟩ | ⟨_, w⟩
    · rw [w] at hp; cases hp
    · obtain ⟨_, _, qq⟩ := S1.escs w
      rcases z with z | z
      · refine ⟨.inl z, fun ⟨i, hi, s, d, a1, a2, a3⟩ => ?_⟩
        obtain ⟨a, b1, b2, _⟩ := S1.held a1 a2
        rw [a3] at b1; cases b1
        exact b2 z
      · obtain ⟨j, t, x, a1, a2, a3⟩ := z
        obtain ⟨b1, b2⟩ := qq j t x a1 a2
        refine ⟨.inr ⟨j, t, x, b1, a2, a3⟩, fun ⟨i, hi, s, d, p1, p2, p3⟩ => ?_⟩
        have := S1.inj i j s t d x b p1 p2 b1 a2 p3 a3
        subst this
        exact b2 hi
  cases ho : q.own with
  | false =>
    rw [ho] at post
    rw [if_neg Bool.false_ne_true] at post
    obtain ⟨rq, io⟩ := post
    rw [ho] at hrr sub h4
    rw [if_neg Bool.false_ne_true] at hrr sub h4
    subst hrr
    have nt : ∀ a xs, H' a = some (.tup xs) → ¬ Mx F e1 σ a := fun a xs ha z => by
      by_cases hm : a ∈ ioA fl vs
      · obtain ⟨d, o⟩ := ios_own io a hm
        obtain ⟨u, w1, w2⟩ := o.some
        rw [ha] at w1; cases w1
        exact w2 _ rfl
      · obtain ⟨u, w1⟩ := S2.mx_some z
        have := keep a u w1 hm
        rw [ha] at this; cases this
        exact S2.notup a xs w1 z
    have conv : (∀ d v, Rep M H' d v → (d.pure = true ∨ (q.d.pure && q.ios.all D.pureIn) = false) → Rep (Mx F e1 σ) H' d v) ∧ ∀ d a, OwnRep M H' d a → (d.pureIn = true ∨ (q.d.pure && q.ios.all D.pureIn) = false) → OwnRep (Mx F e1 σ) H' d a := by
      refine ⟨fun d v r p => ?_, fun d a r p => ?_⟩
      · rcases p with p | p
        · exact r.pure nt p
        · exact Rep.mv (M := M) ⟨hK.K, fun b o w n => ⟨w, fun z => n (sub p b z)⟩⟩ r
      · rcases p with p | p
        · exact r.pure nt p
        · exact OwnRep.mv (M := M) ⟨hK.K, fun b o w n => ⟨w, fun z => n (sub p b z)⟩⟩ rfl r
    have pp : ((q.d.pure && q.ios.all D.pureIn) = true) ∨ (q.d.pure && q.ios.all D.pureIn) = false := by cases (q.d.pure && q.ios.all D.pureIn) <;> simp
    obtain ⟨S3, st3, hM⟩ := call_core S2 c2 h5 keep hA fun kk i d a1 a2 => by
      obtain ⟨a, b1, b2⟩ := ios_get c1 vv io kk i d a1 a2
      refine ⟨a, b1, conv.2 d a b2 ?_⟩
      rcases pp with p | p
      · exact .inl (List.all_eq_true.mp (and2 p).2 d (List.mem_of_getElem? a2))
      · exact .inr p
    refine k _ _ ⟨(st1.trans st2).trans st3, S3, ?_⟩
    rw [hM]
    exact conv.1 _ _ rq (pp.elim (fun p => .inl (and2 p).1) .inr)
  | true =>
    rw [ho] at post
    rw [if_pos rfl] at post
    obtain ⟨a, rfl, fa, oa, io⟩ := post
    rw [ho] at hrr sub h4
    rw [if_pos rfl] at hrr sub h4
    subst hrr
    obtain ⟨oo, wo, nto⟩ := oa.some
    have S4 := S2.alloc (p := a) (o := oo) fa nto
    have keep' : ∀ b o, upd H1 a oo b = some o → b ∉ ioA fl vs → H' b = some o := fun b o w n => by
      by_cases hb : b = a
      · subst hb
        rw [upd_same] at w; cases w
        exact wo
      · rw [upd_ne hb] at w
        exact keep b o w n
    have nt : ∀ x xs, H' x = some (.tup xs) → ¬ Mx (F.add a) e1 σ x := fun x xs ha z => by
      by_cases hm : x ∈ ioA fl vs
      · obtain ⟨d, o⟩ := ios_own io x hm
        obtain ⟨u, w1, w2⟩ := o.some
        rw [ha] at w1; cases w1
        exact w2 _ rfl
      · obtain ⟨u, w1⟩ := S4.mx_some z
        have := keep' x u w1 hm
        rw [ha] at this; cases this
        exact S4.notup x xs w1 z
    have conv : ∀ d x, OwnRep (M.add a) H' d x → (d.pureIn = true ∨ (q.d.pureIn && q.ios.all D.pureIn) = false) → OwnRep (Mx (F.add a) e1 σ) H' d x := fun d x r p => by
      rcases p with p | p
      · exact r.pure nt p
      · refine OwnRep.mv (M := M.add a) ⟨hK.K, fun b o w n => ⟨w, fun z => n ?_⟩⟩ rfl r
        rcases z with (z | z) | z
        · exact .inl (sub p b (.inl z))
        · exact .inr z
        · exact .inl (sub p b (.inr z))
    have pp : ((q.d.pureIn && q.ios.all D.pureIn) = true) ∨ (q.d.pureIn && q.ios.all D.pureIn) = false := by cases (q.d.pureIn && q.ios.all D.pureIn) <;> simp
    obtain ⟨S3, st3, hM⟩ := call_core S4 c2 h5 keep' hA fun kk i d a1 a2 => by
      obtain ⟨x, b1, b2⟩ := ios_get c1 vv io kk i d a1 a2
      refine ⟨x, b1, conv d x b2 ?_⟩
      rcases pp with p | p
      · exact .inl (List.all_eq_true.mp (and2 p).2 d (List.mem_of_getElem? a2))
      · exact .inr p
    refine k _ _ ⟨((st1.trans st2).trans (Step.alloc fa)).trans st3, a, rfl, (st1.trans st2).nil fa, S3, ?_⟩
    rw [hM]
    exact conv _ _ oa (pp.elim (fun p => .inl (and2 p).1) .inr)
theorem tE_call {f : Nat} {es : List CE} (h : tEK Y T (.call f es) σ H Q) : tCallS (spF Y.K Y.mg Y.xs (T.fl f) (T.call f)) (fun σ C d H' => Y.W C d σ H') (tAK Y T es) σ H Q := by
  obtain ⟨F, env, hK, S, h⟩ := h
  refine ⟨F, env, hK, S, h.seq (fun _ z => z) ?_⟩
  rintro ⟨rs, e⟩ _ h vs H1 S1 st1 vv
  refine call_sp hK S1 vv (h.mono (fun p _ h v H' q => h v H' (q.after st1)) fun x z => z) fun x px he C d H' hx xr => ?_
  subst he
  obtain ⟨S2, st2⟩ := S1.ext hx
  exact px H' S2 (st1.trans st2) C d xr
end
end VL
/-! VLE: enumerate over a tuple. -/
namespace VL
open PySem PySem.Spec L2 PyProof.Rows
set_option maxHeartbeats 1000000 in
theorem meets_enum1 {v : Value} {o : Obj} {H : Heap → Prop} (B : Begins v o H) :
    Meets (Builtin.«enumerate.__new__» ⟨[.type "enumerate", v], []⟩) (fun _ R s => H s.heap ∧
      R (.ok (.ret (.ref (s.heap.push o).objs.size))) { s with heap := (s.heap.push o).push { cls := .type "enumerate", data := .fields #[.none, .bool false, .ref s.heap.objs.size, rawInt 0, .none, .none] } }) :=
  .of_wp fun prog w A R s h => by
    obtain ⟨hp, g, d, tk, os⟩ := s; obtain ⟨h1, h⟩ := h
    have hsub := sub_enumerate
    have q1 : ∀ {A' : Around} {E : Value → Shared → Prop} {Q : Value → Shared → Prop}, Q (.ref hp.objs.size) ⟨hp.push o, g, d, tk, os⟩ → wpAny (model prog w) A' (pyIter v) Q E ⟨hp, g, d, tk, os⟩ :=
      fun q => B.iter prog w _ _ ⟨hp, g, d, tk, os⟩ _ h1 q
    wp_walk using q1
    refine wpAny_stack_any fun st => wpAny_pure ?_
    split
    · rename_i c _ _ _ _ _
      cases (c == Value.type "enumerate")
      · wp_walk using q1
        exact ⟨_, rfl, h⟩
      · wp_walk using q1
        exact ⟨_, rfl, h⟩
    · wp_walk using q1
      exact ⟨_, rfl, h⟩
section
variable {prog : Program} {w : World} {A : Around} {E : Value → Shared → Prop} {s : Shared}
theorem enum1_begins {v : Value} {o : Obj} {H : Heap → Prop} {Q : Value → Shared → Prop} (B : Begins v o H) (h1 : H s.heap)
    (h : ∀ h', IsEnum h' (s.heap.objs.size + 1) s.heap.objs.size 0 .none → h'.get? s.heap.objs.size = some o → h'.objs.size = s.heap.objs.size + 2 →
      (∀ b o, s.heap.get? b = some o → h'.get? b = some o) → Q (.ref (s.heap.objs.size + 1)) { s with heap := h' }) :
    wpAny (model prog w) A (call (.type "enumerate") [v]) Q E s := by
  refine callType_new F.called_enumerate (by decide) (F.typeCall_enumerate_1 _) (F.newCall_enumerate_1 _) (fun obj => F.args_object_init_2 obj _) F.entry_enumerate_new
    (meets_enum1 B) ⟨h1, ?_⟩
  have hz : (s.heap.push o).objs.size = s.heap.objs.size + 1 := Heap.size_push ..
  show _ ∧ _
  rw [hz]
  have he : IsEnum ((s.heap.push o).push { cls := .type "enumerate", data := .fields #[.none, .bool false, .ref s.heap.objs.size, rawInt 0, .none, .none] }) (s.heap.objs.size + 1) s.heap.objs.size 0 .none := by
    have := Heap.get?_push_size (s.heap.push o) (o := { cls := .type "enumerate", data := .fields #[.none, .bool false, .ref s.heap.objs.size, rawInt 0, .none, .none] }) rfl
    rw [hz] at this; exact this
  refine ⟨⟨_, he, rfl⟩, h _ he (Heap.get?_push_of_some _ (Heap.get?_push_size _ B.free)) (by rw [Heap.size_push, hz]) fun b o x => Heap.get?_push_of_some _ (Heap.get?_push_of_some _ x)⟩
end
/-- the tuple at a, each item in a new pair -/
def Itet (K : PySem.W.Frag) (a : Addr) : It :=
  ⟨fun i H => ∃ (xs : List V) (x : V), SqT K H a xs ∧ xs[i]? = some x, fun i H v H' => ∃ T x, v = .ref T ∧ H T = none ∧ H' = upd H T (.tup [.int (i : Nat), x]) ∧ ∀ xs, SqT K H a xs → xs[i]? = some x, fun i H => ∃ xs : List V, SqT K H a xs ∧ xs.length ≤ i⟩
theorem tup_ne {h : Heap} {t it : Addr} {items : Array Value} {i : Nat} (h1 : h.IsTuple t items) (h2 : h.IsTupleIter it t i) : t ≠ it := fun z => by
  subst z
  obtain ⟨o, e, c, _⟩ := h1
  obtain ⟨o', e', c', _⟩ := h2
  rw [e] at e'; cases e'
  rw [c] at c'
  exact absurd c' (by decide)
theorem enumT_end {prog : Program} {w : World} {A : Around} {s : Shared} {E : Value → Shared → Prop} {e it t : Addr} {i : Nat} {items : Array Value} {old : Value} {Q : Option Value → Shared → Prop} (hh : A.handled = none) (he : IsEnum s.heap e it ((i : Nat) : Int) old) (hit : s.heap.IsTupleIter it t i) (ht : s.heap.IsTuple t items) (hx : items[i]? = none)
    (hQ : ∀ h', Heap.ExtBut it s.heap h' → Q none { s with heap := h' }) : wpAny (model prog w) A (pyNext (.ref e)) Q E s := by
  have hT : s.TypeIs (.ref e) "enumerate" := ⟨_, he, rfl⟩
  unfold pyNext
  refine wpAny_bind (wpAny_attempt (wpAny_callSpecial?_slot (name := Str.ofString "__next__") hT F.slot_enumerate_next
    (wpAny_call_entry F.slot_enumerate_next hT F.entry_enumerate_next ?_ (F.args_enumerate_next_1 _))))
  show wpAny _ _ (field (.ref e) 2 >>= _) _ _ _
  refine wpAny_bind (wpAny_field he rfl (x := .ref it) rfl ?_)
  refine wpAny_bind (wpAny_nextOf_tuple_end hh hit ht hx fun h' x he' hx' => ?_)
  obtain ⟨o, ho, hc⟩ := hx'
  refine wpAny_bind (wpAny_isInstance (T := "StopIteration") (b := true) ⟨o, ho, hc⟩ isSubtype_stop ?_)
  exact wpAny_pure (hQ _ he')
theorem turn_enumT {P : Program} {w : World} {K : PySem.W.Frag} {elts : List Expr} {kk : Nat} {tpos : Pos} (a e it : Addr) :
    Turn P w K (.Tuple elts kk tpos) (Itet K a) [e, it] e (fun i h => (∃ old, IsEnum h e it ((i : Nat) : Int) old) ∧ h.IsTupleIter it a i ∧ e ≠ it ∧ e ≠ a) where
  mem := by simp
  obj := fun i h st b hb => by
    obtain ⟨⟨old, he⟩, ⟨o, ho, hc, hd⟩, _⟩ := st
    have e' : b = e ∨ b = it := by simpa using hb
    rcases e' with z | z
    · rw [z]; exact ⟨_, he, fun v q => nomatch q⟩
    · rw [z]; exact ⟨o, ho, fun v q => by rw [hd] at q; cases q⟩
  keep := fun i h h' st k => let ⟨⟨old, he⟩, hi, hne⟩ := st; ⟨⟨old, k e (by simp) _ he⟩, hi.at fun o q => k it (by simp) o q, hne⟩
  item := by
    intro X hP hw hK hc i pins s σ H E I hf st hg
    subst hP hw hK
    obtain ⟨⟨old, he⟩, hit, hne, hna⟩ := st
    obtain ⟨xs, x, hq, hx⟩ := hg
    obtain ⟨its, rv, p, hz⟩ := I.tuple hq
    have p : s.heap.IsTuple a its.toArray := p
    obtain ⟨u, hu, ru⟩ := rv.get hx
    have hel : e < s.heap.objs.size := Heap.lt_size he
    have hil : it < s.heap.objs.size := by obtain ⟨_, q, _⟩ := hit; exact Heap.lt_size q
    have hlt : i < its.toArray.size := by
      have := (List.getElem?_eq_some_iff.mp hu).1
      simpa using this
    refine wpAny_pyNext_enum_itemC (Draws.tuple (prog := X.prog) (w := X.w) (A := X.A.in1) (show X.A.in1.handled = none from I.ok.hd hc) it a (tup_ne p hit) its.toArray) he ⟨hit, p⟩ hlt hne (by simp [hne, hna]) fun x' h' tk hP' ho hit' hT hsz hk => ?_
    have hxu : x' = u := by
      have q1 : its.toArray[i]? = some x' := hP'
      rw [show its.toArray[i]? = its[i]? by simp] at q1
      rw [hu] at q1; exact (Option.some.inj q1).symm
    subst hxu
    refine ⟨_, rfl, wpAny_letOwnedTupleGo_enum (s := { s with heap := h', toks := tk + 1 }) ho fun h'' he' sb => ?_⟩
    have hT2 : h''.get? s.heap.objs.size = some { cls := .type "tuple", data := .seq #[.int i tk, x'] } := (sb.2 _ (Nat.ne_of_gt hel)).trans hT
    have new : ObjOk X.prog X.w (upd H s.heap.objs.size (.tup [.int (i : Nat), x])) h'' s.heap.objs.size (.tup [.int (i : Nat), x]) :=
      ⟨by show 2 ≤ sizeLine; decide, [.int i tk, x'], .cons ⟨_, rfl⟩ (.cons ru .nil), ⟨_, hT2, rfl, _, rfl⟩⟩
    have I1 : Inv X pins σ (upd H s.heap.objs.size (.tup [.int (i : Nat), x])) { s with heap := h'', toks := tk + 1 } :=
      I.turnedNew (ch := [e, it]) (fun b ob hb q => (sb.2 b (fun z => hb (by simp [z]))).trans (hk b ob (fun z => hb (by simp [z])) (fun z => hb (by simp [z])) q)) hf (Nat.le_refl _) new
    refine ⟨.ref s.heap.objs.size, _, I1, rfl, ⟨_, x, rfl, I.hok.fresh (Nat.le_refl _), rfl, fun ys hy => by rw [I.tuple_inj hy hq]; exact hx⟩, ⟨⟨x', ?_⟩, hit'.1.at fun o q => (sb.2 it (Ne.symm hne)).trans q, hne, hna⟩, fun b hb => ?_⟩
    · have e1 : ((i + 1 : Nat) : Int) = (i : Int) + 1 := by omega
      rw [e1]; exact he'
    · have hb' : b < s.heap.objs.size := by
        have e' : b = e ∨ b = it := by simpa using hb
        rcases e' with z | z
        · rw [z]; exact hel
        · rw [z]; exact hil
      rw [upd_ne (Nat.ne_of_lt hb')]
      exact (hf b hb).1
  done := by
    intro X hP hw hK hc i pins s σ H E I hf st hg
    subst hP hw hK
    obtain ⟨⟨old, he⟩, hit, hne, hna⟩ := st
    obtain ⟨xs, hq, hx⟩ := hg
    obtain ⟨its, rv, p, hz⟩ := I.tuple hq
    have p : s.heap.IsTuple a its.toArray := p
    obtain ⟨f0, f1, f2, f3, f4, f5⟩ := hf it (by simp)
    have hl := rv.length
    refine enumT_end (I.ok.hd hc) he hit p (by simp; omega) fun h' eb => ⟨rfl, I.turned (t' := s.toks) (fun b o hb q => eb b o hb q) f0 f1 f3 f4 f5⟩
  self := fun A i s Q E st h => let ⟨⟨_, he⟩, _⟩ := st; wpAny_pyIter_enum he h
def iEnumT (K : PySem.W.Frag) (ta : TA) : TI := fun σ H R => ta σ H fun vs H1 => ∃ a xs, vs = [.ref a] ∧ ((SqL K H1 a xs ∧ R (Ite K a) H1) ∨ (SqT K H1 a xs ∧ R (Itet K a) H1))
theorem pi_enumT {X : Cx} {e : Expr} {ta : TA} {p pos tpos : Pos} {elts : List Expr} {kk : Nat} (hg : Gl X "enumerate") (hm : X.mg "enumerate" = none) (ha : PA X [e] ta) (hs : starEach [e] X.env = [(false, eval e X.env)] := by rfl) :
    PI X (.Tuple elts kk tpos) (.Call (.Name "enumerate" p) [e] [] pos) (iEnumT X.K ta) := by
  refine ⟨fun pins s σ H R I h => ?_⟩
  refine Call_ (ld_blt I hg hm boot_enumerate (PyProof.Rows.callWith_type1 (thn (ha.run pos pins s σ H _ I h) fun us s1 ⟨vs, H1, I1, r1, q1⟩ => ?_) hs rfl))
  obtain ⟨a, xs, ex, q⟩ := q1
  subst ex
  cases r1 with
  | cons r rr =>
    cases rr
    cases r
    have fo : ∀ b, b ∈ [s1.heap.objs.size + 1, s1.heap.objs.size] → s1.heap.objs.size ≤ b := fun b hb => by
      have e' : b = s1.heap.objs.size + 1 ∨ b = s1.heap.objs.size := by simpa using hb
      rcases e' with z | z
      · rw [z]; exact Nat.le_add_right _ _
      · rw [z]; exact Nat.le_refl _
    rcases q with ⟨hq, q⟩ | ⟨hq, q⟩
    · obtain ⟨its, rv, p', hz⟩ := I1.list hq
      refine call_enumerate_list p'.isList fun h' he hit hsz hk => wpAny_pyIter_enum he ?_
      have I2 : Inv X pins σ H1 { s1 with heap := h' } := I1.kept (t' := s1.toks) hk
      exact ⟨s1.heap.objs.size + 1, [s1.heap.objs.size + 1, s1.heap.objs.size], _, _, H1, rfl, I2, turn_enum a (s1.heap.objs.size + 1) s1.heap.objs.size, ⟨⟨.none, he⟩, hit, Nat.succ_ne_self _⟩, fun b hb => I1.fpOk (fo b hb) (I1.hok.fresh (fo b hb)), q⟩
    · obtain ⟨its, rv, p', hz⟩ := I1.tuple hq
      have p' : s1.heap.IsTuple a its.toArray := p'
      have hal : a < s1.heap.objs.size := by obtain ⟨_, q, _⟩ := p'; exact Heap.lt_size q
      refine enum1_begins (begins_tuple a its.toArray) p' fun h' he hit hsz hk => wpAny_pyIter_enum he ?_
      have I2 : Inv X pins σ H1 { s1 with heap := h' } := I1.kept (t' := s1.toks) hk
      exact ⟨s1.heap.objs.size + 1, [s1.heap.objs.size + 1, s1.heap.objs.size], _, _, H1, rfl, I2, turn_enumT a (s1.heap.objs.size + 1) s1.heap.objs.size, ⟨⟨.none, he⟩, ⟨_, hit, rfl, rfl⟩, Nat.succ_ne_self _, fun z => absurd (z ▸ hal) (Nat.not_lt.mpr (Nat.le_succ _))⟩, fun b hb => I1.fpOk (fo b hb) (I1.hok.fresh (fo b hb)), q⟩
end VL
/-! VL14: what is walked; targets; comprehensions. -/
namespace VL
open PySem PySem.Spec L2
section
variable {T : Tb} {X : Cx} {C : CEnv} {Y : YW} {K : PySem.W.Frag} {σ : SV} {H : Hp} {R : It → Hp → Prop}
/-- a list as it is walked -/
def StL (M : Av) (H : Hp) (a : Addr) (xs : List V) : Prop := (∃ o, H a = some o ∧ ¬ M a ∧ (o = .lst xs ∨ ∃ ob, o = .frz ob (.lst xs))) ∨ KL M.K a xs
theorem StL.sq {M : Av} {H : Hp} {a : Addr} {xs : List V} (h : StL M H a xs) : SqL M.K H a xs := by
  rcases h with ⟨o, e, _, rfl | ⟨ob, rfl⟩⟩ | h
  · exact .inl (.inl e)
  · exact .inl (.inr ⟨ob, e⟩)
  · exact .inr h
theorem StL.mv {M M' : Av} {H H' : Hp} (k : Kp M H M' H') {a : Addr} {xs : List V} (h : StL M H a xs) : StL M' H' a xs := by
  rcases h with ⟨o, e, m, q⟩ | h
  · exact .inl ⟨o, (k.2 _ _ e m).1, (k.2 _ _ e m).2, q⟩
  · exact .inr (k.1 ▸ h)
theorem seq_rep {M : Av} {H : Hp} {d : D} {ds : List D} {v : V} (h : Rep M H d v) (e : seqOf d = some ds) :
    (∃ a xs, v = .ref a ∧ StL M H a xs ∧ RepL M H ds xs) ∨ ∃ a xs, v = .ref a ∧ H a = some (.tup xs) ∧ ¬ M a ∧ RepL M H ds xs := by
  cases d <;> first
    | (cases e; done)
    | skip
  · cases e; obtain ⟨a, xs, rfl, q, m, r⟩ := h; exact .inr ⟨a, xs, rfl, q, m, r⟩
  · cases e; obtain ⟨a, xs, rfl, q, m, r⟩ := h; exact .inl ⟨a, xs, rfl, .inl ⟨_, q, m, .inl rfl⟩, r⟩
  · cases e
    obtain ⟨a, rfl, ⟨o, q, m⟩ | q⟩ := h
    · exact .inl ⟨a, _, rfl, .inl ⟨_, q, m, .inr ⟨o, rfl⟩⟩, RepL.ofInts⟩
    · exact .inl ⟨a, _, rfl, .inr q, RepL.ofInts⟩
theorem Ext.refl {H : Hp} : Ext H H := fun _ _ h => h
theorem walks_l {a : Addr} {ds : List D} : Walks (Itl K a) ds (fun M H => M.K = K ∧ ∃ xs, StL M H a xs ∧ RepL M H ds xs) where
  mv := fun k ⟨q, xs, h, r⟩ => ⟨k.1.trans q, xs, h.mv k, r.mv k⟩
  go := fun {M i H} hi ⟨q, xs, h, r⟩ => ⟨xs, xs[i]'(by rw [r.length]; exact hi), q ▸ h.sq, List.getElem?_eq_getElem _⟩
  stop := fun ⟨q, xs, h, r⟩ => ⟨xs, q ▸ h.sq, by rw [r.length]; exact Nat.le_refl _⟩
  yld := fun {M i H x H'} hi ⟨q, xs, h, r⟩ _ _ ⟨e, y⟩ => by
    subst e
    obtain ⟨d, e, rd⟩ := r.geti (y xs (q ▸ h.sq))
    exact ⟨d, e, Ext.refl, rd⟩
theorem walks_t {a : Addr} {ds : List D} : Walks (Itt K a) ds (fun M H => ∃ xs, H a = some (.tup xs) ∧ ¬ M a ∧ RepL M H ds xs) where
  mv := fun k ⟨xs, h, m, r⟩ => ⟨xs, (k.2 _ _ h m).1, (k.2 _ _ h m).2, r.mv k⟩
  go := fun {M i H} hi ⟨xs, h, m, r⟩ => ⟨xs, xs[i]'(by rw [r.length]; exact hi), .inl (.inl h), List.getElem?_eq_getElem _⟩
  stop := fun ⟨xs, h, m, r⟩ => ⟨xs, .inl (.inl h), by rw [r.length]; exact Nat.le_refl _⟩
  yld := fun {M i H x H'} hi ⟨xs, h, m, r⟩ _ _ ⟨e, y⟩ => by
    subst e
    obtain ⟨d, e, rd⟩ := r.geti (y xs (.inl (.inl h)))
    exact ⟨d, e, Ext.refl, rd⟩
theorem rev_get {α : Type} {l : List α} {i : Nat} (h : i < l.length) : l.reverse[i]? = l[l.length - 1 - i]? := List.getElem?_reverse h
theorem walks_rl {a : Addr} {ds : List D} : Walks (Itv K a ds.length) ds.reverse (fun M H => M.K = K ∧ ∃ xs, StL M H a xs ∧ RepL M H ds xs) where
  mv := fun k ⟨q, xs, h, r⟩ => ⟨k.1.trans q, xs, h.mv k, r.mv k⟩
  go := fun {M i H} hi ⟨q, xs, h, r⟩ => by
    rw [List.length_reverse] at hi
    exact ⟨hi, xs, xs[ds.length - 1 - i]'(by rw [r.length]; omega), q ▸ h.sq, List.getElem?_eq_getElem _⟩
  stop := fun _ => by rw [List.length_reverse]; exact Nat.le_refl _
  yld := fun {M i H x H'} hi ⟨q, xs, h, r⟩ _ _ ⟨e, y⟩ => by
    rw [List.length_reverse] at hi
    subst e
    obtain ⟨d, e, rd⟩ := r.geti (y xs (q ▸ h.sq))
    exact ⟨d, by rw [rev_get hi]; exact e, Ext.refl, rd⟩
theorem walks_rt {a : Addr} {ds : List D} : Walks (RT.ItvT K a ds.length) ds.reverse (fun M H => ∃ xs, H a = some (.tup xs) ∧ ¬ M a ∧ RepL M H ds xs) where
  mv := fun k ⟨xs, h, m, r⟩ => ⟨xs, (k.2 _ _ h m).1, (k.2 _ _ h m).2, r.mv k⟩
  go := fun {M i H} hi ⟨xs, h, m, r⟩ => by
    rw [List.length_reverse] at hi
    exact ⟨hi, xs, xs[ds.length - 1 - i]'(by rw [r.length]; omega), .inl (.inl h), List.getElem?_eq_getElem _⟩
  stop := fun _ => by rw [List.length_reverse]; exact Nat.le_refl _
  yld := fun {M i H x H'} hi ⟨xs, h, m, r⟩ _ _ ⟨e, y⟩ => by
    rw [List.length_reverse] at hi
    subst e
    obtain ⟨d, e, rd⟩ := r.geti (y xs (.inl (.inl h)))
    exact ⟨d, by rw [rev_get hi]; exact e, Ext.refl, rd⟩
theorem rngIt_get {q : Int × Nat × Int} {i : Nat} (h : i < (rngIt q).length) : (rngIt q)[i]? = some (.int (q.1 + (i : Nat) * q.2.2)) := by
  unfold rngIt at h ⊢
  rw [List.length_map, List.length_range] at h
  rw [List.getElem?_map, List.getElem?_range h]
  rfl
theorem rngIt_len {q : Int × Nat × Int} : (rngIt q).length = q.2.1 := by unfold rngIt; rw [List.length_map, List.length_range]
theorem walks_rg {lo : Int} {n : Nat} : Walks (Itr lo n) (rngIt (lo, n, 1)) (fun _ _ => True) where
  mv := fun _ _ => trivial
  go := fun {M i H} hi _ => by rw [rngIt_len] at hi; exact hi
  stop := fun _ => by rw [rngIt_len]; exact Nat.le_refl _
  yld := fun {M i H x H'} hi _ _ _ ⟨e, y⟩ => by
    subst e
    exact ⟨_, rngIt_get hi, Ext.refl, by rw [y]; show V.int _ = V.int _; rw [Int.mul_one]⟩
theorem walks_rc {lo c : Int} {n : Nat} : Walks (Itc lo c n) (rngIt (lo, n, c)) (fun _ _ => True) where
  mv := fun _ _ => trivial
  go := fun {M i H} hi _ => by rw [rngIt_len] at hi; exact hi
  stop := fun _ => by rw [rngIt_len]; exact Nat.le_refl _
  yld := fun {M i H x H'} hi _ _ _ ⟨e, y⟩ => by
    subst e
    exact ⟨_, rngIt_get hi, Ext.refl, by rw [y]; rfl⟩
theorem enumF_get : ∀ {ds : List D} {k i : Nat} {d : D}, ds[i]? = some d → (enumF k ds)[i]? = some (.tup [.int ((k + i : Nat) : Int), d])
  | [], _, _, _, e => by simp at e
  | x :: ds, k, 0, d, e => by
    have : x = d := by simpa using e
    subst this
    rfl
  | x :: ds, k, i + 1, d, e => by
    have := enumF_get (k := k + 1) (i := i) (d := d) (ds := ds) (by simpa using e)
    show (enumF (k + 1) ds)[i]? = _
    rw [this, show k + 1 + i = k + (i + 1) by omega]
theorem enumF_len : ∀ {ds : List D} {k : Nat}, (enumF k ds).length = ds.length
  | [], _ => rfl
  | x :: ds, k => by show (enumF (k + 1) ds).length + 1 = _; rw [enumF_len]; rfl
theorem walks_e {a : Addr} {ds : List D} : Walks (Ite K a) (enumF 0 ds) (fun M H => M.K = K ∧ ∃ xs, StL M H a xs ∧ RepL M H ds xs) where
  mv := fun k ⟨q, xs, h, r⟩ => ⟨k.1.trans q, xs, h.mv k, r.mv k⟩
  go := fun {M i H} hi ⟨q, xs, h, r⟩ => ⟨xs, xs[i]'(by rw [r.length]; rw [enumF_len] at hi; exact hi), q ▸ h.sq, List.getElem?_eq_getElem _⟩
  stop := fun ⟨q, xs, h, r⟩ => ⟨xs, q ▸ h.sq, by rw [r.length, enumF_len]; exact Nat.le_refl _⟩
  yld := fun {M i H x H'} hi ⟨q, xs, h, r⟩ nf _ ⟨t, y, e1, e2, e3, e4⟩ => by
    subst e3
    obtain ⟨d, e, rd⟩ := r.geti (e4 xs (q ▸ h.sq))
    refine ⟨_, enumF_get (k := 0) e, fun b o z => by rw [upd_ne (ne_of_none z e2)]; exact z, t, _, e1, upd_same, nf t e2, ?_⟩
    exact ⟨_, _, rfl, by rw [Nat.zero_add]; rfl, _, _, rfl, rd.mv ⟨rfl, fun b o z n => ⟨by rw [upd_ne (ne_of_none z e2)]; exact z, n⟩⟩, rfl⟩
theorem zipD_len {xs ys : List D} : (zipD xs ys).length = min xs.length ys.length := List.length_zipWith
theorem zipD_get {xs ys : List D} {i : Nat} {x y : D} (hx : xs[i]? = some x) (hy : ys[i]? = some y) : (zipD xs ys)[i]? = some (.tup [x, y]) := by
  unfold zipD
  rw [List.getElem?_zipWith, hx, hy]
theorem walks_z {a b : Addr} {dx dy : List D} : Walks (Itz K a b) (zipD dx dy) (fun M H => M.K = K ∧ (∃ xs, StL M H a xs ∧ RepL M H dx xs) ∧ ∃ ys, StL M H b ys ∧ RepL M H dy ys) where
  mv := fun k ⟨q, ⟨xs, h, r⟩, ys, h', r'⟩ => ⟨k.1.trans q, ⟨xs, h.mv k, r.mv k⟩, ys, h'.mv k, r'.mv k⟩
  go := fun {M i H} hi ⟨q, ⟨xs, h, r⟩, ys, h', r'⟩ => by
    rw [zipD_len] at hi
    exact ⟨xs, ys, xs[i]'(by rw [r.length]; omega), ys[i]'(by rw [r'.length]; omega), q ▸ h.sq, q ▸ h'.sq, List.getElem?_eq_getElem _, List.getElem?_eq_getElem _⟩
  stop := fun ⟨q, ⟨xs, h, r⟩, ys, h', r'⟩ => ⟨xs, ys, q ▸ h.sq, q ▸ h'.sq, by rw [r.length, r'.length, zipD_len]; omega⟩
  yld := fun {M i H x H'} hi ⟨q, ⟨xs, h, r⟩, ys, h', r'⟩ nf _ ⟨t, y1, y2, e1, e2, e3, e4, e5⟩ => by
    subst e3
    obtain ⟨d1, g1, rd1⟩ := r.geti (e4 xs (q ▸ h.sq))
    obtain ⟨d2, g2, rd2⟩ := r'.geti (e5 ys (q ▸ h'.sq))
    have mv : ∀ {d : D} {v : V}, Rep M H d v → Rep M (upd H t (.tup [y1, y2])) d v := fun rd => rd.mv ⟨rfl, fun b o z n => ⟨by rw [upd_ne (ne_of_none z e2)]; exact z, n⟩⟩
    refine ⟨_, zipD_get g1 g2, fun b o z => by rw [upd_ne (ne_of_none z e2)]; exact z, t, _, e1, upd_same, nf t e2, ?_⟩
    exact ⟨_, _, rfl, mv rd1, _, _, rfl, mv rd2, rfl⟩
theorem walks_zt {a b : Addr} {dx dy : List D} : Walks (RZ.ItzT K a b) (zipD dx dy) (fun M H => (∃ xs, H a = some (.tup xs) ∧ ¬ M a ∧ RepL M H dx xs) ∧ ∃ ys, H b = some (.tup ys) ∧ ¬ M b ∧ RepL M H dy ys) where
  mv := fun k ⟨⟨xs, h, m, r⟩, ys, h', m', r'⟩ => ⟨⟨xs, (k.2 _ _ h m).1, (k.2 _ _ h m).2, r.mv k⟩, ys, (k.2 _ _ h' m').1, (k.2 _ _ h' m').2, r'.mv k⟩
  go := fun {M i H} hi ⟨⟨xs, h, m, r⟩, ys, h', m', r'⟩ => by
    rw [zipD_len] at hi
    exact ⟨xs, ys, xs[i]'(by rw [r.length]; omega), ys[i]'(by rw [r'.length]; omega), .inl (.inl h), .inl (.inl h'), List.getElem?_eq_getElem _, List.getElem?_eq_getElem _⟩
  stop := fun ⟨⟨xs, h, m, r⟩, ys, h', m', r'⟩ => ⟨xs, ys, .inl (.inl h), .inl (.inl h'), by rw [r.length, r'.length, zipD_len]; omega⟩
  yld := fun {M i H x H'} hi ⟨⟨xs, h, m, r⟩, ys, h', m', r'⟩ nf _ ⟨t, y1, y2, e1, e2, e3, e4, e5⟩ => by
    subst e3
    obtain ⟨d1, g1, rd1⟩ := r.geti (e4 xs (.inl (.inl h)))
    obtain ⟨d2, g2, rd2⟩ := r'.geti (e5 ys (.inl (.inl h')))
    have mv : ∀ {d : D} {v : V}, Rep M H d v → Rep M (upd H t (.tup [y1, y2])) d v := fun rd => rd.mv ⟨rfl, fun b o z n => ⟨by rw [upd_ne (ne_of_none z e2)]; exact z, n⟩⟩
    refine ⟨_, zipD_get g1 g2, fun b o z => by rw [upd_ne (ne_of_none z e2)]; exact z, t, _, e1, upd_same, nf t e2, ?_⟩
    exact ⟨_, _, rfl, mv rd1, _, _, rfl, mv rd2, rfl⟩
/-! ### the readings -/
theorem runI_zip {a b : CE} {env : EnvD} : runI T (.zip a b) env = (runK T [a, b] env >>= fun p => ofO (zipO p.1) >>= fun xs => .ok (xs, p.2)) := by
  show (runE T a env >>= fun p => esc p.2 p.1 >>= fun z => runE T b z.2 >>= fun q => esc q.2 q.1 >>= fun y => ofO (zipO [z.1, y.1]) >>= fun xs => Res.ok (xs, y.2)) = ((runE T a env >>= fun p => esc p.2 p.1 >>= fun z => (runE T b z.2 >>= fun q => esc q.2 q.1 >>= fun y => (Res.ok ([], y.2) >>= fun w => Res.ok (y.1 :: w.1, w.2))) >>= fun w => Res.ok (z.1 :: w.1, w.2)) >>= fun p => ofO (zipO p.1) >>= fun xs => Res.ok (xs, p.2))
  cases runE T a env with
  | fail => rfl
  | exc c => rfl
  | ok p =>
    show (esc p.2 p.1 >>= fun z => _) = ((esc p.2 p.1 >>= fun z => _) >>= _)
    cases esc p.2 p.1 with
    | fail => rfl
    | exc c => rfl
    | ok z =>
      show (runE T b z.2 >>= fun q => _) = (((runE T b z.2 >>= fun q => _) >>= _) >>= _)
      cases runE T b z.2 with
      | fail => rfl
      | exc c => rfl
      | ok q =>
        show (esc q.2 q.1 >>= fun y => _) = (((esc q.2 q.1 >>= fun y => _) >>= _) >>= _)
        cases esc q.2 q.1 with
        | fail => rfl
        | exc c => rfl
        | ok y => rfl
theorem tI_zip {a b : CE} (h : tIK Y T (.zip a b) σ H R) : RZ.iZipA Y.K (tKK Y T [a, b]) σ H R := by
  obtain ⟨F, env, hK, S, h⟩ := h
  rw [runI_zip] at h
  refine ⟨F, env, hK, S, h.seq (fun _ z => z) ?_⟩
  rintro ⟨ds, e1⟩ _ h vs H1 S1 st1 rl
  obtain ⟨xs, h3, k⟩ := h.ofO
  have rl : RepL (Mx F e1 σ) H1 ds vs := rl
  have h3 : zipO ds = some xs := h3
  unfold zipO at h3
  split at h3
  · cases h3
    obtain ⟨v, ws, rfl, r1, v2, ws2, rfl, r2, rfl⟩ := rl
    obtain ⟨a, xs, rfl, q1, m1, l1⟩ := r1
    obtain ⟨b, ys, rfl, q2, m2, l2⟩ := r2
    have s1 : StL (Mx F e1 σ) H1 a xs := .inl ⟨_, q1, m1, .inl rfl⟩
    have s2 : StL (Mx F e1 σ) H1 b ys := .inl ⟨_, q2, m2, .inl rfl⟩
    have q : SqL F.K H1 a xs := s1.sq
    have q' : SqL F.K H1 b ys := s2.sq
    rw [hK.K] at q q'
    exact ⟨a, b, xs, ys, rfl, .inl ⟨q, q', k _ _ _ S1 st1 walks_z ⟨hK.K, ⟨xs, s1, l1⟩, ys, s2, l2⟩⟩⟩
  · cases h3
    obtain ⟨v, ws, rfl, r1, v2, ws2, rfl, r2, rfl⟩ := rl
    obtain ⟨a, xs, rfl, q1, m1, l1⟩ := r1
    obtain ⟨b, ys, rfl, q2, m2, l2⟩ := r2
    exact ⟨a, b, xs, ys, rfl, .inr ⟨.inl (.inl q1), .inl (.inl q2), k _ _ _ S1 st1 walks_zt ⟨⟨xs, q1, m1, l1⟩, ys, q2, m2, l2⟩⟩⟩
  · cases h3
theorem tI_seq {a : CE} (h : tIK Y T (.seq a) σ H R) : tEK Y T a σ H fun x H1 => (∃ p, x = .ref p ∧ (∃ xs, SqL Y.K H1 p xs) ∧ R (Itl Y.K p) H1) ∨ ∃ p, x = .ref p ∧ (∃ xs, SqT Y.K H1 p xs) ∧ R (Itt Y.K p) H1 := by
  obtain ⟨F, env, hK, S, h⟩ := h
  refine ⟨F, env, hK, S, h.seq (fun _ z => z) ?_⟩
  rintro ⟨r, e1⟩ _ h v H1 p1
  obtain ⟨⟨d, e2⟩, h2, h⟩ := h.pure (nx_esc ..)
  obtain ⟨ds, h3, k⟩ := h.ofO
  obtain ⟨S1, st1, r1⟩ := (p1.valS S).esc p1.sim h2
  rcases seq_rep r1 h3 with ⟨a, xs, rfl, hl, rl⟩ | ⟨a, xs, rfl, hl, m, rl⟩
  · have q : SqL F.K H1 a xs := hl.sq
    rw [hK.K] at q
    exact .inl ⟨a, rfl, ⟨xs, q⟩, k _ _ _ S1 (p1.1.trans st1) walks_l ⟨hK.K, xs, hl, rl⟩⟩
  · exact .inr ⟨a, rfl, ⟨xs, .inl (.inl hl)⟩, k _ _ _ S1 (p1.1.trans st1) walks_t ⟨xs, hl, m, rl⟩⟩
theorem tI_rvd {a : CE} (h : tIK Y T (.rvd a) σ H R) : RT.iRevA Y.K (tEK Y T a) σ H R := by
  obtain ⟨F, env, hK, S, h⟩ := h
  refine ⟨F, env, hK, S, h.seq (fun _ z => z) ?_⟩
  rintro ⟨r, e1⟩ _ h v H1 p1
  obtain ⟨⟨d, e2⟩, h2, h⟩ := h.pure (nx_esc ..)
  obtain ⟨ds, h3, k⟩ := h.ofO
  obtain ⟨S1, st1, r1⟩ := (p1.valS S).esc p1.sim h2
  rcases seq_rep r1 h3 with ⟨a, xs, rfl, hl, rl⟩ | ⟨a, xs, rfl, hl, m, rl⟩
  · have q : SqL F.K H1 a xs := hl.sq
    rw [hK.K] at q
    refine ⟨a, xs, rfl, .inl ⟨q, ?_⟩⟩
    rw [rl.length]
    exact k _ _ _ S1 (p1.1.trans st1) walks_rl ⟨hK.K, xs, hl, rl⟩
  · refine ⟨a, xs, rfl, .inr ⟨.inl (.inl hl), ?_⟩⟩
    rw [rl.length]
    exact k _ _ _ S1 (p1.1.trans st1) walks_rt ⟨xs, hl, m, rl⟩
theorem walks_et {a : Addr} {ds : List D} : Walks (Itet K a) (enumF 0 ds) (fun M H => ∃ xs, H a = some (.tup xs) ∧ ¬ M a ∧ RepL M H ds xs) where
  mv := fun k ⟨xs, h, m, r⟩ => ⟨xs, (k.2 _ _ h m).1, (k.2 _ _ h m).2, r.mv k⟩
  go := fun {M i H} hi ⟨xs, h, m, r⟩ => ⟨xs, xs[i]'(by rw [r.length]; rw [enumF_len] at hi; exact hi), .inl (.inl h), List.getElem?_eq_getElem _⟩
  stop := fun ⟨xs, h, m, r⟩ => ⟨xs, .inl (.inl h), by rw [r.length, enumF_len]; exact Nat.le_refl _⟩
  yld := fun {M i H x H'} hi ⟨xs, h, m, r⟩ nf _ ⟨t, y, e1, e2, e3, e4⟩ => by
    subst e3
    obtain ⟨d, e, rd⟩ := r.geti (e4 xs (.inl (.inl h)))
    refine ⟨_, enumF_get (k := 0) e, fun b o z => by rw [upd_ne (ne_of_none z e2)]; exact z, t, _, e1, upd_same, nf t e2, ?_⟩
    exact ⟨_, _, rfl, by rw [Nat.zero_add]; rfl, _, _, rfl, rd.mv ⟨rfl, fun b o z n => ⟨by rw [upd_ne (ne_of_none z e2)]; exact z, n⟩⟩, rfl⟩
theorem tI_enm {a : CE} (h : tIK Y T (.enm a) σ H R) : iEnumT Y.K (tCons (tEK Y T a) tNil) σ H R := by
  obtain ⟨F, env, hK, S, h⟩ := h
  refine ⟨F, env, hK, S, h.seq (fun _ z => z) ?_⟩
  rintro ⟨r, e1⟩ _ h v H1 p1
  obtain ⟨⟨d, e2⟩, h2, h⟩ := h.pure (nx_esc ..)
  obtain ⟨ds, h3, k⟩ := h.ofO
  obtain ⟨S1, st1, r1⟩ := (p1.valS S).esc p1.sim h2
  rcases seq_rep r1 h3 with ⟨a, xs, rfl, hl, rl⟩ | ⟨a, xs, rfl, hl, m, rl⟩
  · have q : SqL F.K H1 a xs := hl.sq
    rw [hK.K] at q
    exact ⟨a, xs, rfl, .inl ⟨q, k _ _ _ S1 (p1.1.trans st1) walks_e ⟨hK.K, xs, hl, rl⟩⟩⟩
  · exact ⟨a, xs, rfl, .inr ⟨.inl (.inl hl), k _ _ _ S1 (p1.1.trans st1) walks_et ⟨xs, hl, m, rl⟩⟩⟩
theorem tI_rng1 {a : CE} (h : tIK Y T (.rng [a]) σ H R) : iRng1 (tCons (tEK Y T a) tNil) σ H R := by
  obtain ⟨F, env, hK, S, h⟩ := h
  refine ⟨F, env, hK, S, (WPr.b h).seq (fun _ z => z) ?_⟩
  rintro ⟨r1, e1⟩ _ h x H1 p1
  have h := WPr.b h
  obtain ⟨ds, h2, h⟩ := WPr.pure (nx_frcs e1 [r1]) h
  obtain ⟨q, h3, k⟩ := h.pure (nx_rngD ..)
  obtain ⟨d, ds', h4, h5, rfl⟩ := frcs_one h2
  cases h5
  obtain ⟨j, rfl, hj, rfl⟩ := rngD_1 h3
  exact ⟨j, by rw [(int_rep ((p1.valS S).w p1.sim h4) rfl).1], (nat62 hj).1, (nat62 hj).2, k _ _ _ p1.sim p1.1 walks_rg trivial⟩
theorem tI_rng2 {a b : CE} (h : tIK Y T (.rng [a, b]) σ H R) : iRng2 (tCons (tEK Y T a) (tCons (tEK Y T b) tNil)) σ H R := by
  obtain ⟨F, env, hK, S, h⟩ := h
  refine ⟨F, env, hK, S, (WPr.b h).seq (fun _ z => z) ?_⟩
  rintro ⟨r1, e1⟩ _ h x H1 p1
  refine ⟨F, e1, hK, p1.sim, (WPr.b h).seq (fun _ z => z.after p1.1) ?_⟩
  rintro ⟨r2, e2⟩ _ h y H2 p2
  have h := WPr.b h
  obtain ⟨ds, h2, h⟩ := WPr.pure (nx_frcs e2 [r1, r2]) h
  obtain ⟨q, h3, k⟩ := h.pure (nx_rngD ..)
  obtain ⟨d, ds', h4, h5, rfl⟩ := frcs_one h2
  obtain ⟨d', ds2, h6, h7, rfl⟩ := frcs_one h5
  cases h7
  obtain ⟨i, j, rfl, rfl, hi, hj, rfl⟩ := rngD_2 h3
  exact ⟨i, j, by rw [(int_rep (((p1.valS S).step p2.1).w p2.sim h4) rfl).1, (int_rep ((p2.valS p1.sim).w p2.sim h6) rfl).1],
    ⟨(nat62 hi).1, (nat62 hi).2, (nat62 hj).1, (nat62 hj).2⟩, k _ _ _ p2.sim (p1.1.trans p2.1) walks_rg trivial⟩
theorem tI_rng3 {a b c : CE} (h : tIK Y T (.rng [a, b, c]) σ H R) : iRng3 (tCons (tEK Y T a) (tCons (tEK Y T b) (tCons (tEK Y T c) tNil))) σ H R := by
  obtain ⟨F, env, hK, S, h⟩ := h
  refine ⟨F, env, hK, S, (WPr.b h).seq (fun _ z => z) ?_⟩
  rintro ⟨r1, e1⟩ _ h x H1 p1
  refine ⟨F, e1, hK, p1.sim, (WPr.b h).seq (fun _ z => z.after p1.1) ?_⟩
  rintro ⟨r2, e2⟩ _ h y H2 p2
  refine ⟨F, e2, hK, p2.sim, (WPr.b h).seq (fun _ z => z.after (p1.1.trans p2.1)) ?_⟩
  rintro ⟨r3, e3⟩ _ h z H3 p3
  have h := WPr.b h
  obtain ⟨ds, h2, h⟩ := WPr.pure (nx_frcs e3 [r1, r2, r3]) h
  obtain ⟨q, h3, k⟩ := h.pure (nx_rngD ..)
  obtain ⟨d, ds', h4, h5, rfl⟩ := frcs_one h2
  obtain ⟨d', ds2, h6, h7, rfl⟩ := frcs_one h5
  obtain ⟨d2, ds3, h8, h9, rfl⟩ := frcs_one h7
  cases h9
  obtain ⟨i, j, rfl, rfl, rfl, hi, hj, rfl⟩ := rngD_3 h3
  exact ⟨i, j, -1, _, by
    rw [(int_rep ((((p1.valS S).step p2.1).step p3.1).w p3.sim h4) rfl).1, (int_rep (((p2.valS p1.sim).step p3.1).w p3.sim h6) rfl).1, (int_rep ((p3.valS p2.sim).w p3.sim h8) rfl).1],
    RgC.neg (nat62 hi).1 (nat62 hi).2 (nat62 hj).1 (nat62 hj).2, k _ _ _ p3.sim ((p1.1.trans p2.1).trans p3.1) walks_rc trivial⟩
end
end VL
/-! VL15: targets, comprehensions. -/
namespace VL
open PySem PySem.Spec L2
section
variable {F : Fr} {env env' : EnvD} {σ σ' : SV} {H H' : Hp} {K : PySem.W.Frag}
/-- slots alike but for those of is -/
def SameOut (is : List Nat) (σ σ' : SV) : Prop := σ'.length = σ.length ∧ ∀ j, j ∉ is → σ'[j]? = σ[j]?
theorem SameOut.trans {is : List Nat} {a b c : SV} (h : SameOut is a b) (g : SameOut is b c) : SameOut is a c := ⟨g.1.trans h.1, fun j hj => (g.2 j hj).trans (h.2 j hj)⟩
theorem SameOut.mono {is js : List Nat} {a b : SV} (h : SameOut is a b) (s : ∀ i ∈ is, i ∈ js) : SameOut js a b := ⟨h.1, fun j hj => h.2 j fun z => hj (s j z)⟩
theorem wipe_in {σ : SV} {i : Nat} : ∀ {vs : List Nat}, i ∈ vs → i < σ.length → (wipe σ vs)[i]? = some none
  | v :: vs, h, hl => by
    unfold wipe
    by_cases e : v = i
    · subst e
      exact List.getElem?_set_self (by rw [wipe_length]; exact hl)
    · rw [List.getElem?_set_ne e]
      exact wipe_in ((List.mem_cons.mp h).resolve_left fun z => e z.symm) hl
theorem SameOut.wipe {is : List Nat} {σ σ' : SV} (h : SameOut is σ σ') : L2.wipe σ' is = L2.wipe σ is := by
  apply List.ext_getElem?
  intro j
  by_cases hj : j ∈ is
  · by_cases hl : j < σ.length
    · rw [wipe_in hj hl, wipe_in hj (by rw [h.1]; exact hl)]
    · rw [List.getElem?_eq_none (by rw [wipe_length, h.1]; omega), List.getElem?_eq_none (by rw [wipe_length]; omega)]
  · rw [wipe_out hj, wipe_out hj, h.2 j hj]
theorem sameOut_wipe (σ : SV) (is : List Nat) : SameOut is σ (L2.wipe σ is) := ⟨wipe_length σ is, fun _ hj => wipe_out hj⟩
theorem wipeE_length (env : EnvD) : ∀ vs : List Nat, (wipeE env vs).length = env.length
  | [] => rfl
  | v :: vs => by unfold wipeE; rw [List.length_set, wipeE_length env vs]
theorem wipeE_out {i : Nat} : ∀ {vs : List Nat}, i ∉ vs → (wipeE env vs)[i]? = env[i]?
  | [], _ => rfl
  | v :: vs, h => by
    have h1 : v ≠ i := fun e => h (by rw [e]; exact List.mem_cons_self)
    have h2 : i ∉ vs := fun m => h (List.mem_cons_of_mem _ m)
    unfold wipeE
    rw [List.getElem?_set_ne h1]
    exact wipeE_out h2
theorem wipeE_in {i : Nat} : ∀ {vs : List Nat}, i ∈ vs → i < env.length → (wipeE env vs)[i]? = some .un
  | v :: vs, h, hl => by
    unfold wipeE
    by_cases e : v = i
    · subst e
      exact List.getElem?_set_self (by rw [wipeE_length]; exact hl)
    · rw [List.getElem?_set_ne e]
      exact wipeE_in ((List.mem_cons.mp h).resolve_left fun z => e z.symm) hl
theorem wipeE_some {i : Nat} {vs : List Nat} {s : Slot} (e : (wipeE env vs)[i]? = some s) (n : s ≠ .un) : i ∉ vs ∧ env[i]? = some s := by
  have hl : i < env.length := by
    have := (List.getElem?_eq_some_iff.mp e).1
    rwa [wipeE_length] at this
  by_cases h : i ∈ vs
  · rw [wipeE_in h hl] at e; cases e; exact absurd rfl n
  · rw [wipeE_out h] at e; exact ⟨h, e⟩
theorem backE_length (old env : EnvD) : ∀ vs : List Nat, (backE old env vs).length = env.length
  | [] => rfl
  | v :: vs => by unfold backE; rw [List.length_set, backE_length old env vs]
theorem backE_out {old : EnvD} {i : Nat} : ∀ {vs : List Nat}, i ∉ vs → (backE old env vs)[i]? = env[i]?
  | [], _ => rfl
  | v :: vs, h => by
    have h1 : v ≠ i := fun e => h (by rw [e]; exact List.mem_cons_self)
    have h2 : i ∉ vs := fun m => h (List.mem_cons_of_mem _ m)
    unfold backE
    rw [List.getElem?_set_ne h1]
    exact backE_out h2
theorem backE_in {old : EnvD} {i : Nat} : ∀ {vs : List Nat}, i ∈ vs → i < env.length → (backE old env vs)[i]? = some (old.getD i .un)
  | v :: vs, h, hl => by
    unfold backE
    by_cases e : v = i
    · subst e
      exact List.getElem?_set_self (by rw [backE_length]; exact hl)
    · rw [List.getElem?_set_ne e]
      exact backE_in ((List.mem_cons.mp h).resolve_left fun z => e z.symm) hl
/-- names of a block forgotten -/
theorem Sim.wipe {vs : List Nat} (S : Sim F env σ H) (nio : ∀ i ∈ vs, F.io i = none) : Sim F (wipeE env vs) (L2.wipe σ vs) H ∧ Step env σ H (wipeE env vs) (L2.wipe σ vs) H := by
  have sub : ∀ b, Owns (wipeE env vs) (L2.wipe σ vs) b → Owns env σ b := fun b ⟨j, s, d, e1, e2, e3⟩ => by
    obtain ⟨h, e⟩ := wipeE_some e1 (fun z => by subst z; cases e2)
    exact ⟨j, s, d, e, e2, (wipe_some e3).1⟩
  have kp : Kp (Mx F env σ) H (Mx F (wipeE env vs) (L2.wipe σ vs)) H := ⟨rfl, fun b o e n => ⟨e, fun z => n (Or.elim z .inl fun z => .inr (sub b z))⟩⟩
  refine ⟨⟨by rw [wipe_length, wipeE_length]; exact S.len, fun j d e => ?_, fun j d e => ?_, fun j d e => ?_, fun i j s t d e a e1 h1 e2 h2 e3 e4 => ?_, S.m0, S.keep, fun j b e => ?_, fun j e => by
    obtain ⟨h, e⟩ := wipeE_some e (by simp)
    rw [wipe_out h]; exact S.xc j e⟩, ⟨fun b o e n => ⟨e, fun z => n (sub b z)⟩, fun b o e => ⟨o, e⟩⟩⟩
  · obtain ⟨h, e⟩ := wipeE_some e (by simp)
    obtain ⟨v, e1, r⟩ := S.sh j d e
    exact ⟨v, by rw [wipe_out h]; exact e1, r.mv kp⟩
  · obtain ⟨h, e⟩ := wipeE_some e (by simp)
    obtain ⟨v, e1, m, f, r⟩ := S.ow j d e
    exact ⟨v, by rw [wipe_out h]; exact e1, m, f, r.mv kp rfl⟩
  · obtain ⟨h, e⟩ := wipeE_some e (by simp)
    obtain ⟨v, e1, m, f, r⟩ := S.io j d e
    exact ⟨v, by rw [wipe_out h]; exact e1, m, f, r.mv kp rfl⟩
  · obtain ⟨_, e1⟩ := wipeE_some e1 (fun z => by subst z; cases h1)
    obtain ⟨_, e2⟩ := wipeE_some e2 (fun z => by subst z; cases h2)
    exact S.inj i j s t d e a e1 h1 e2 h2 (wipe_some e3).1 (wipe_some e4).1
  · obtain ⟨d, e1, e2⟩ := S.iok j b e
    have hj : j ∉ vs := fun z => by have := nio j z; rw [e] at this; cases this
    exact ⟨d, by rw [wipeE_out hj]; exact e1, by rw [wipe_out hj]; exact e2⟩
theorem Sim.m0put' {p : Addr} {o : HO} (S : Sim F env σ H) (m : F.M0 p) (h0 : F.H0 p = none) (nt : ∀ xs, o ≠ .tup xs) : Sim F env σ (upd H p o) := by
  have kp : Kp (Mx F env σ) H (Mx F env σ) (upd H p o) := ⟨rfl, fun b u e n => ⟨by rw [upd_ne (fun z => n (.inl (by rw [z]; exact m)))]; exact e, n⟩⟩
  refine ⟨S.len, fun j d e => ?_, fun j d e => ?_, fun j d e => ?_, S.inj, fun b z => ?_, fun b u e n => ?_, S.iok, S.xc⟩
  · obtain ⟨v, e1, r⟩ := S.sh j d e; exact ⟨v, e1, r.mv kp⟩
  · obtain ⟨a, e1, ma, f, r⟩ := S.ow j d e
    exact ⟨a, e1, ma, f, r.mv kp (upd_ne fun z => ma (by rw [z]; exact m))⟩
  · obtain ⟨a, e1, ma, f, r⟩ := S.io j d e
    exact ⟨a, e1, ma, f, r.mv kp (upd_ne fun z => ma (by rw [z]; exact m))⟩
  · by_cases hb : b = p
    · exact ⟨o, by rw [hb, upd_same], nt⟩
    · obtain ⟨u, q, n⟩ := S.m0 b z
      exact ⟨u, by rw [upd_ne hb]; exact q, n⟩
  · have q := S.keep b u e n
    rw [upd_ne (fun z => by subst z; rw [h0] at e; cases e)]
    exact q
theorem free_io {vs : List Nat} (S : Sim F env σ H) (h : freeOf env vs = true) : ∀ i ∈ vs, F.io i = none := fun i hi => by
  cases e : F.io i with
  | none => rfl
  | some a =>
    obtain ⟨d, q, _⟩ := S.iok i a e
    have := List.all_eq_true.mp h i hi
    rw [q] at this
    cases this
/-! ### targets -/
def gMany : List Nat → TGs
  | [] => gNil
  | i :: is => gCons (gName i) (gMany is)
def tgG (K : PySem.W.Frag) : Tg → TG
  | .one i => gName i
  | .many is => gTup K is.length (gMany is)
theorem setSh_same {i : Nat} {is : List Nat} (hi : i ∈ is) (σ : SV) (v : Option V) : SameOut is σ (σ.set i v) := ⟨List.length_set, fun j hj => List.getElem?_set_ne fun z => hj (by rw [← z]; exact hi)⟩
theorem many_sim : ∀ {is js : List Nat} {ds : List D} {vs : List V} {env env' : EnvD} {σ : SV} {Q : SV → Hp → Prop}, (∀ i ∈ is, i ∈ js) → Sim F env σ H → RepL (Mx F env σ) H ds vs → bindTg.bindMany env is ds = .ok env' →
    (∀ σ', Sim F env' σ' H → Step env σ H env' σ' H → SameOut js σ σ' → Q σ' H) → gMany is vs σ H Q
  | [], _, [], _, _, _, σ, _, _, S, r, h, k => by
    cases h
    rw [show _ = [] from r]
    exact ⟨rfl, k σ S Step.refl ⟨rfl, fun _ _ => rfl⟩⟩
  | [], _, _ :: _, _, _, _, _, _, _, _, _, h, _ => by cases h
  | _ :: _, _, [], _, _, _, _, _, _, _, _, h, _ => by cases h
  | i :: is, js, d :: ds, _, env, env', σ, Q, hs, S, ⟨v, vs, e, rv, r⟩, h, k => by
    subst e
    obtain ⟨e1, h1, h⟩ := Res.bind_ok h
    obtain ⟨S1, st1⟩ := S.setSh h1 rv
    exact ⟨v, vs, rfl, many_sim (js := js) (fun j hj => hs j (List.mem_cons_of_mem _ hj)) S1 (r.mv st1.kp) h fun σ' S2 st2 so => k σ' S2 (st1.trans st2) ((setSh_same (hs i List.mem_cons_self) σ _).trans so)⟩
theorem many_len : ∀ {is : List Nat} {ds : List D} {env env' : EnvD}, bindTg.bindMany env is ds = .ok env' → ds.length = is.length
  | [], [], _, _, _ => rfl
  | [], _ :: _, _, _, h => by cases h
  | _ :: _, [], _, _, h => by cases h
  | i :: is, d :: ds, env, env', h => by
    obtain ⟨e1, h1, h⟩ := Res.bind_ok h
    rw [List.length_cons, List.length_cons, many_len h]
theorem tg_sim {tg : Tg} {d : D} {v : V} {Q : SV → Hp → Prop} (S : Sim F env σ H) (r : Rep (Mx F env σ) H d v) (h : bindTg env tg d = .ok env')
    (k : ∀ σ', Sim F env' σ' H → Step env σ H env' σ' H → SameOut tg.slots σ σ' → Q σ' H) : tgG K tg v σ H Q := by
  cases tg with
  | one i =>
    obtain ⟨S1, st1⟩ := S.setSh h r
    exact k _ S1 st1 (setSh_same (by simp [Tg.slots]) σ _)
  | many is =>
    cases d <;> first
      | (cases h; done)
      | skip
    obtain ⟨a, xs, rfl, e, m, rl⟩ := r
    exact ⟨a, xs, rfl, .inl (.inl e), by rw [rl.length]; exact many_len h, many_sim (js := is) (fun _ z => z) S rl h k⟩
end
section
variable {T : Tb} {X : Cx} {C : CEnv} {Y Y0 : YW} {σ : SV} {H : Hp} {Q : VK}
theorem ite_f {P Q : Prop} (h : Q) : if false = true then P else Q := h
theorem ite_t {P Q : Prop} (h : P) : if true = true then P else Q := h
/-- one turn of a comprehension -/
noncomputable def lcT (T : Tb) (elt : CE) (tg : Tg) (c : Option CE) (e : EnvD) (x : D) : Res (Option D × EnvD) := do
  let e ← bindTg (wipeE e tg.slots) tg x
  let (k, e) ← runC T c e
  if k then do
    let (r, e) ← runE T elt e
    let (d, e) ← esc e r
    .ok (some d, e)
  else .ok (none, e)
theorem runE_lc {elt : CE} {tg : Tg} {it : CI} {c : Option CE} {env : EnvD} : runE T (.lc elt tg it c) env = (do
    let (xs, e1) ← runI T it env
    chk (freeOf e1 tg.slots)
    let (ds, e2) ← lcL (lcT T elt tg c) xs e1 []
    .ok (.own (.lst ds), backE e1 e2 tg.slots)) := rfl
/-- the block's names back as they were -/
theorem Sim.back {F : Fr} {p : Addr} {vs : List Nat} {e1 e2 : EnvD} {H1 : Hp} (S1 : Sim F e1 σ H1) (hp : H1 p = none) (fr : freeOf e1 vs = true) (S : Sim (F.add p) (wipeE e2 vs) (L2.wipe σ vs) H) (st : Step e1 σ H1 (wipeE e2 vs) (L2.wipe σ vs) H) (hl : e2.length = e1.length) :
    Sim (F.add p) (backE e1 e2 vs) σ H ∧ Step e1 σ H1 (backE e1 e2 vs) σ H ∧ ∀ b, Owns (backE e1 e2 vs) σ b → Owns (wipeE e2 vs) (L2.wipe σ vs) b := by
  have old : ∀ j s, j ∈ vs → (backE e1 e2 vs)[j]? = some s → s = .un ∨ ∃ d, s = .sh d ∧ e1[j]? = some (.sh d) := fun j s hj e => by
    have hlt : j < e2.length := by have := (List.getElem?_eq_some_iff.mp e).1; rwa [backE_length] at this
    rw [backE_in hj hlt] at e
    have f := List.all_eq_true.mp fr j hj
    have hlt1 : j < e1.length := by omega
    rw [List.getD_eq_getElem?_getD] at e
    cases q : e1[j]? with
    | none => rw [q] at e; cases e; exact .inl rfl
    | some t =>
      rw [q] at e f
      have e : t = s := Option.some.inj e
      subst e
      cases t with
      | un => exact .inl rfl
      | xc => cases f
      | sh d => exact .inr ⟨d, rfl, rfl⟩
      | ow d => cases f
      | io d => cases f
  have sub : ∀ b, Owns (backE e1 e2 vs) σ b → Owns (wipeE e2 vs) (L2.wipe σ vs) b := fun b ⟨j, s, d, q1, q2, q3⟩ => by
    by_cases hj : j ∈ vs
    · rcases old j s hj q1 with rfl | ⟨d', rfl, _⟩ <;> cases q2
    · rw [backE_out hj] at q1
      exact ⟨j, s, d, by rw [wipeE_out hj]; exact q1, q2, by rw [wipe_out hj]; exact q3⟩
  have kp : Kp (Mx (F.add p) (wipeE e2 vs) (L2.wipe σ vs)) H (Mx (F.add p) (backE e1 e2 vs) σ) H := ⟨rfl, fun b o e n => ⟨e, fun z => n (Or.elim z .inl fun z => .inr (sub b z))⟩⟩
  have st' : Step e1 σ H1 (backE e1 e2 vs) σ H := ⟨fun b o e n => ⟨(st.k b o e n).1, fun z => (st.k b o e n).2 (sub b z)⟩, st.th⟩
  have kp1 : Kp (Mx F e1 σ) H1 (Mx (F.add p) (backE e1 e2 vs) σ) H := ⟨rfl, fun b o e n => by
    have q := st'.k b o e fun z => n (.inr z)
    refine ⟨q.1, fun z => ?_⟩
    rcases z with (z | z) | z
    · exact n (.inl z)
    · rw [z, hp] at e; cases e
    · exact q.2 z⟩
  refine ⟨⟨by rw [backE_length, hl]; exact S1.len, fun j d e => ?_, fun j d e => ?_, fun j d e => ?_, fun i j s t d e a g1 h1 g2 h2 g3 g4 => ?_, S.m0, S.keep, fun j b e => ?_, fun j e => by
    by_cases hj : j ∈ vs
    · rcases old j _ hj e with z | ⟨d', z, q⟩ <;> cases z
    · rw [backE_out hj] at e
      have := S.xc j (by rw [wipeE_out hj]; exact e)
      rw [wipe_out hj] at this; exact this⟩, st', sub⟩
  · by_cases hj : j ∈ vs
    · rcases old j _ hj e with z | ⟨d', z, q⟩
      · cases z
      · cases z
        obtain ⟨v, q1, r⟩ := S1.sh j d q
        exact ⟨v, q1, r.mv kp1⟩
    · rw [backE_out hj] at e
      obtain ⟨v, q1, r⟩ := S.sh j d (by rw [wipeE_out hj]; exact e)
      exact ⟨v, by rw [wipe_out hj] at q1; exact q1, r.mv kp⟩
  · by_cases hj : j ∈ vs
    · rcases old j _ hj e with z | ⟨d', z, q⟩ <;> cases z
    · rw [backE_out hj] at e
      obtain ⟨a, q1, m, f, r⟩ := S.ow j d (by rw [wipeE_out hj]; exact e)
      exact ⟨a, by rw [wipe_out hj] at q1; exact q1, m, f, r.mv kp rfl⟩
  · by_cases hj : j ∈ vs
    · rcases old j _ hj e with z | ⟨d', z, q⟩ <;> cases z
    · rw [backE_out hj] at e
      obtain ⟨a, q1, m, f, r⟩ := S.io j d (by rw [wipeE_out hj]; exact e)
      exact ⟨a, by rw [wipe_out hj] at q1; exact q1, m, f, r.mv kp rfl⟩
  · have w : ∀ {j s d}, (backE e1 e2 vs)[j]? = some s → Slot.held s = some d → j ∉ vs ∧ e2[j]? = some s := fun {j s d} e h => by
      by_cases hj : j ∈ vs
      · rcases old j s hj e with rfl | ⟨d', rfl, _⟩ <;> cases h
      · rw [backE_out hj] at e; exact ⟨hj, e⟩
    obtain ⟨n1, g1⟩ := w g1 h1
    obtain ⟨n2, g2⟩ := w g2 h2
    exact S.inj i j s t d e a (by rw [wipeE_out n1]; exact g1) h1 (by rw [wipeE_out n2]; exact g2) h2 (by rw [wipe_out n1]; exact g3) (by rw [wipe_out n2]; exact g4)
  · have hj : j ∉ vs := fun z => by
      have := free_io S1 fr j z
      have e : F.io j = some b := e
      rw [e] at this; cases this
    obtain ⟨d, q1, q2⟩ := S.iok j b e
    rw [wipeE_out hj] at q1
    rw [wipe_out hj] at q2
    exact ⟨d, by rw [backE_out hj]; exact q1, q2⟩
theorem nx_lcL (turn : EnvD → D → Res (Option D × EnvD)) : ∀ xs e acc, NX (lcL turn xs e acc)
  | [], _, _ => nx_ok _
  | x :: xs, e, acc => (nx_noX _).bind fun p => by
    obtain ⟨o, e⟩ := p
    cases o with
    | none => exact nx_lcL turn xs e acc
    | some d => exact (nx_chk _).bind fun _ => nx_lcL turn xs e _
theorem tE_lc {elt : CE} {tg : Tg} {it : CI} {c : Option CE} (hY : Y0.K = Y.K ∧ Y0.xa = Y.xa) (h : tEK Y T (.lc elt tg it c) σ H Q) : tLc (tIK Y T it) (tgG Y.K tg) (tCK Y0 T c) (tEK Y0 T elt) tg.slots σ H Q := by
  obtain ⟨F, env, hK, S, h⟩ := h
  rw [runE_lc] at h
  refine ⟨F, env, hK, S, h.seq (fun _ z => z) ?_⟩
  rintro ⟨xs, e1⟩ _ h J H1 G S1 st1 wk g1 p hp
  obtain ⟨fr, h⟩ := h.chk
  obtain ⟨⟨ds, e2⟩, h2, k⟩ := h.pure (nx_lcL ..)
  have hK' : FY (F.add p) Y0 := ⟨hK.K.trans hY.1.symm, hK.xa.trans hY.2.symm⟩
  have nio : ∀ i ∈ tg.slots, (F.add p).io i = none := fun i hi => free_io (F := F) S1 fr i hi
  have h0p : (F.add p).H0 p = none := by
    cases q : F.H0 p with
    | none => exact q
    | some o =>
      have : ∀ i, F.io i ≠ some p := fun i z => by
        obtain ⟨d, q1, q2⟩ := S1.iok i p z
        obtain ⟨a, b1, _, _, b2⟩ := S1.io i d q1
        rw [q2] at b1; cases b1
        obtain ⟨o', b3, _⟩ := b2.some
        rw [hp] at b3; cases b3
      have := S1.keep p o q this
      rw [hp] at this; cases this
  let Iv : Nat → Hp → Prop := fun i H => ∃ e acc vacc, lcL (lcT T elt tg c) (xs.drop i) e acc = .ok (ds, e2) ∧ e.length = e1.length ∧ Sim (F.add p) (wipeE e tg.slots) (wipe σ tg.slots) H ∧ Step e1 σ H1 (wipeE e tg.slots) (wipe σ tg.slots) H ∧
    H p = some (.lst vacc) ∧ RepL (Mx (F.add p) (wipeE e tg.slots) (wipe σ tg.slots)) H acc vacc ∧ G (Mx (F.add p) (wipeE e tg.slots) (wipe σ tg.slots)) H
  refine ⟨fun i m H => m = xs.length - i ∧ i ≤ xs.length ∧ Iv i H, ⟨_, rfl, Nat.zero_le _, ?_⟩, ?_⟩
  · have S2 := S1.alloc (p := p) (o := .lst []) hp (fun _ => by simp)
    obtain ⟨S3, st3⟩ := S2.wipe nio
    refine ⟨e1, [], [], h2, rfl, S3, (Step.alloc hp).trans st3, upd_same, rfl, ?_⟩
    exact wk.mv ((upd_kp hp : Kp (Mx F e1 σ) H1 (Mx (F.add p) e1 σ) (upd H1 p (.lst []))) |> fun a => ⟨rfl, fun b o e n => let q := a.2 b o e n; ⟨q.1, ((st3.kp (F := F.add p)).2 b o q.1 q.2).2⟩⟩) g1
  · rintro i m H2 ⟨rfl, hi, e, acc, vacc, hrun, hlen, S2, st2, hpv, racc, g2⟩
    by_cases hlt : i < xs.length
    · right
      refine ⟨wk.go hlt g2, Iv (i + 1), fun H' z => ⟨_, by omega, rfl, hlt, z⟩, fun x H3 y => ?_⟩
      obtain ⟨d, hd, ex, rd⟩ := wk.yld hlt g2 (fun q hq => S2.fresh hq) (fun q xs hq => S2.notup q xs hq) y
      obtain ⟨S3, st3⟩ := S2.ext ex
      have hdrop : xs.drop i = d :: xs.drop (i + 1) := by
        rw [List.drop_eq_getElem_cons hlt]
        congr 1
        exact Option.some.inj ((List.getElem?_eq_getElem hlt).symm.trans hd)
      rw [hdrop] at hrun
      obtain ⟨⟨o, e3⟩, ht, hrun⟩ := Res.bind_ok hrun
      have ht := noX_eq ht
      obtain ⟨e4, hb, ht⟩ := Res.bind_ok ht
      obtain ⟨⟨b, e5⟩, hc, ht⟩ := Res.bind_ok ht
      refine tg_sim S3 rd hb fun σ2 S4 st4 so => ?_
      have hw : wipe σ2 tg.slots = wipe σ tg.slots := ((sameOut_wipe σ tg.slots).trans so).wipe
      refine ⟨hw, F.add p, e4, hK', S4, WPr.of_ok hc fun H4 S5 st5 => ?_⟩
      have hl5 : e5.length = e1.length := by
        rw [← S5.len, so.1, wipe_length, ← hlen, ← wipeE_length e tg.slots, ← S2.len, wipe_length]
      -- the list that is made stands as it was
      have pk : ∀ {e' : EnvD} {σ' : SV} {H' : Hp}, Step (wipeE e tg.slots) (wipe σ tg.slots) H2 e' σ' H' → H' p = some (.lst vacc) := fun st => (st.k p _ hpv (not_mx_add S2)).1
      have fin : ∀ {e' : EnvD} {H' : Hp} (acc' : List D) (vacc' : List V), e'.length = e1.length → lcL (lcT T elt tg c) (xs.drop (i + 1)) e' acc' = .ok (ds, e2) → Sim (F.add p) e' σ2 H' → Step (wipeE e tg.slots) (wipe σ tg.slots) H2 e' σ2 H' →
          H' p = some (.lst vacc') → RepL (Mx (F.add p) e' σ2) H' acc' vacc' → Iv (i + 1) H' := fun {e' H'} acc' vacc' hl hrun S' st' hp' ra => by
        obtain ⟨S6, st6⟩ := S'.wipe nio
        have hst := st2.trans (st'.trans st6)
        have rr := ra.mv (st6.kp (F := F.add p))
        have gg : G (Mx (F.add p) (wipeE e' tg.slots) (wipe σ2 tg.slots)) H' := wk.mv ((st'.trans st6).kp (F := F.add p)) g2
        rw [hw] at S6 hst rr gg
        exact ⟨e', acc', vacc', hrun, hl, S6, hst, hp', rr, gg⟩
      cases b with
      | false =>
        refine ite_f ?_
        cases ht
        have sta := (st3.trans st4).trans st5
        exact fin acc vacc hl5 hrun S5 sta (pk sta) (racc.mv (sta.kp (F := F.add p)))
      | true =>
        refine ite_t ?_
        have ht : (runE T elt e5 >>= fun q => esc q.2 q.1 >>= fun z => Res.ok (some z.1, z.2)) = .ok (o, e3) := ht
        obtain ⟨⟨r, e6⟩, he, ht⟩ := Res.bind_ok ht
        obtain ⟨⟨dv, e7⟩, hx, ht⟩ := Res.bind_ok ht
        cases ht
        obtain ⟨cz, hrun⟩ := chk_bind hrun
        refine ⟨F.add p, e5, hK', S5, WPr.of_ok he fun v H5 p5 => ?_⟩
        obtain ⟨S6, st6, r6⟩ := (p5.valS S5).esc p5.sim hx
        have sta := (((st3.trans st4).trans st5).trans p5.1).trans st6
        have hp5 := pk sta
        refine ⟨vacc, hp5, ?_, ?_⟩
        · rw [racc.length, SLeq]
          exact of_decide_eq_true cz
        · have S7 := S6.m0put' (p := p) (o := .lst (vacc ++ [v])) (.inr rfl) h0p (fun _ => by simp)
          have kp7 : Kp (Mx (F.add p) e7 σ2) H5 (Mx (F.add p) e7 σ2) (upd H5 p (.lst (vacc ++ [v]))) := ⟨rfl, fun b u e n => ⟨by rw [upd_ne (fun z => n (.inl (.inr z)))]; exact e, n⟩⟩
          have st7 : Step e7 σ2 H5 e7 σ2 (upd H5 p (.lst (vacc ++ [v]))) → True := fun _ => trivial
          have sta7 : Step (wipeE e tg.slots) (wipe σ tg.slots) H2 e7 σ2 (upd H5 p (.lst (vacc ++ [v]))) → True := fun _ => trivial
          obtain ⟨S8, st8⟩ := S7.wipe nio
          have hl7 : e7.length = e1.length := by
            rw [← S6.len, so.1, wipe_length, ← hlen, ← wipeE_length e tg.slots, ← S2.len, wipe_length]
          have ra : RepL (Mx (F.add p) e7 σ2) (upd H5 p (.lst (vacc ++ [v]))) (acc ++ [dv]) (vacc ++ [v]) := ((racc.mv (sta.kp (F := F.add p))).app (.one r6)).mv kp7
          have gg : G (Mx (F.add p) e7 σ2) (upd H5 p (.lst (vacc ++ [v]))) := wk.mv kp7 (wk.mv (sta.kp (F := F.add p)) g2)
          have hst : Step e1 σ H1 e7 σ2 (upd H5 p (.lst (vacc ++ [v]))) := by
            have := st2.trans sta
            refine ⟨fun b u e n => ?_, fun b u e => ?_⟩
            · have q := this.k b u e n
              exact ⟨by rw [upd_ne (ne_of_none e hp)]; exact q.1, q.2⟩
            · obtain ⟨u', q⟩ := this.th b u e
              exact ⟨u', by rw [upd_ne (ne_of_none e hp)]; exact q⟩
          have hst := hst.trans st8
          have rr := ra.mv (st8.kp (F := F.add p))
          have gg := wk.mv (st8.kp (F := F.add p)) gg
          rw [hw] at S8 hst rr gg
          exact ⟨e7, acc ++ [dv], vacc ++ [v], hrun, hl7, S8, hst, upd_same, rr, gg⟩
    · left
      have hie : i = xs.length := by omega
      subst hie
      rw [List.drop_length] at hrun
      cases hrun
      obtain ⟨S5, st5, sub⟩ := S1.back hp fr S2 st2 hlen
      refine ⟨wk.stop g2, k _ _ ⟨st1.trans st5, p, rfl, st1.nil hp, S5, vacc, hpv, racc.mv (M := Mx (F.add p) (wipeE e2 tg.slots) (wipe σ tg.slots)) (M' := Mx (F.add p) (backE e1 e2 tg.slots) σ) ⟨rfl, fun b o e n => ⟨e, fun z => n (Or.elim z .inl fun z => .inr (sub b z))⟩⟩⟩⟩
end
end VL
/-! VLO: new things handed in to be changed. -/
namespace VL
open PySem PySem.Spec L2
def Fr.adds (F : Fr) : List Addr → Fr
  | [] => F
  | a :: as => (F.add a).adds as
section
variable {F : Fr} {as : List Addr}
theorem adds_K : ∀ (as : List Addr) (F : Fr), (F.adds as).K = F.K
  | [], _ => rfl
  | a :: as, F => adds_K as (F.add a)
theorem adds_H0 : ∀ (as : List Addr) (F : Fr), (F.adds as).H0 = F.H0
  | [], _ => rfl
  | a :: as, F => adds_H0 as (F.add a)
theorem adds_io : ∀ (as : List Addr) (F : Fr), (F.adds as).io = F.io
  | [], _ => rfl
  | a :: as, F => adds_io as (F.add a)
theorem adds_xa : ∀ (as : List Addr) (F : Fr), (F.adds as).xa = F.xa
  | [], _ => rfl
  | a :: as, F => adds_xa as (F.add a)
theorem adds_M : ∀ (as : List Addr) (F : Fr) (b : Addr), (F.adds as).M0 b ↔ F.M0 b ∨ b ∈ as
  | [], F, b => by simp [Fr.adds]
  | a :: as, F, b => by
    show ((F.add a).adds as).M0 b ↔ _
    rw [adds_M as (F.add a) b]
    show ((F.M0 b ∨ b = a) ∨ b ∈ as) ↔ _
    rw [List.mem_cons, or_assoc]
end
def ValsO (F : Fr) (env : EnvD) (σ : SV) (H : Hp) : List R → List V → List Addr → Prop
  | [], vs, as => vs = [] ∧ as = []
  | .own d :: rs, vs, as => ∃ a vs' as', vs = .ref a :: vs' ∧ as = a :: as' ∧ OwnRep (Mx F env σ) H d a ∧ ValsO F env σ H rs vs' as'
  | .dat d :: rs, vs, as => ∃ v vs', vs = v :: vs' ∧ Val F env σ H (.dat d) v ∧ ValsO F env σ H rs vs' as
  | .slot i :: rs, vs, as => ∃ v vs', vs = v :: vs' ∧ Val F env σ H (.slot i) v ∧ ValsO F env σ H rs vs' as
def tAO (Y : YW) (T : Tb) (cs : List CE) : TA := fun σ H Q => ∃ F env rs env', FY F Y ∧ Sim F env σ H ∧ runA T cs env = .ok (rs, env') ∧
  ∀ vs H' as, Sim (F.adds as) env' σ H' → Step env σ H env' σ H' → (∀ a ∈ as, H a = none) → as.Nodup → ValsO (F.adds as) env' σ H' rs vs as → Q vs H'
section
variable {T : Tb} {Y : YW} {σ : SV} {H : Hp}
theorem kp_adds {F : Fr} {e1 e2 : EnvD} {H1 H2 : Hp} {as : List Addr} (st : Step e1 σ H1 e2 σ H2) (fr : ∀ a ∈ as, H1 a = none) : Kp (Mx F e1 σ) H1 (Mx (F.adds as) e2 σ) H2 := ⟨adds_K as F, fun b o h n => by
  have q := st.k b o h fun z => n (.inr z)
  refine ⟨q.1, fun z => ?_⟩
  rcases z with z | z
  · rcases (adds_M as F b).mp z with z | z
    · exact n (.inl z)
    · rw [fr b z] at h; cases h
  · exact q.2 z⟩
theorem Sim.h0none' {F : Fr} {env : EnvD} (S : Sim F env σ H) {p : Addr} (hp : H p = none) : F.H0 p = none := by
  cases q : F.H0 p with
  | none => rfl
  | some o =>
    have : ∀ i, F.io i ≠ some p := fun i z => by
      obtain ⟨d, q1, q2⟩ := S.iok i p z
      obtain ⟨a, b1, _, _, b2⟩ := S.io i d q1
      rw [q2] at b1; cases b1
      obtain ⟨o', b3, _⟩ := b2.some
      rw [hp] at b3; cases b3
    have := S.keep p o q this
    rw [hp] at this; cases this
theorem tAO_nil {Q : List V → Hp → Prop} (h : tAO Y T [] σ H Q) : tNil σ H Q := by
  obtain ⟨F, env, r, env', hK, S, hr, k⟩ := h
  cases hr
  exact k [] H [] S Step.refl (fun _ h => by cases h) List.nodup_nil ⟨rfl, rfl⟩
theorem tAO_cons {a : CE} {es : List CE} {Q : List V → Hp → Prop} (h : tAO Y T (a :: es) σ H Q) : tCons (tEK Y T a) (tAO Y T es) σ H Q := by
  obtain ⟨F, env, r, env', hK, S, hr, k⟩ := h
  obtain ⟨⟨ra, e1⟩, h1, hr⟩ := Res.bind_ok hr
  obtain ⟨⟨rs, e2⟩, h2, hr⟩ := Res.bind_ok hr
  cases hr
  refine ⟨F, env, hK, S, WPr.of_ok h1 fun x H1 p1 => ?_⟩
  cases ra with
  | dat d =>
    obtain ⟨st1, S1, r1⟩ := p1
    refine ⟨F, e1, rs, env', hK, S1, h2, fun vs H2 as S2 st2 fr nd vo => k (x :: vs) H2 as S2 (st1.trans st2) (fun b hb => st1.nil (fr b hb)) nd ⟨x, vs, rfl, ?_, vo⟩⟩
    exact Rep.mv (kp_adds st2 fr) r1
  | slot i =>
    obtain ⟨st1, S1, r1, _⟩ := p1
    exact ⟨F, e1, rs, env', hK, S1, h2, fun vs H2 as S2 st2 fr nd vo => k (x :: vs) H2 as S2 (st1.trans st2) (fun b hb => st1.nil (fr b hb)) nd ⟨x, vs, rfl, r1, vo⟩⟩
  | own d =>
    obtain ⟨st1, p, rfl, n, S1, r1⟩ := p1
    obtain ⟨o, ho, _⟩ := r1.some
    refine ⟨F.add p, e1, rs, env', hK.add p, S1, h2, fun vs H2 as S2 st2 fr nd vo => k (.ref p :: vs) H2 (p :: as) S2 (st1.trans st2) (fun b hb => ?_) (List.nodup_cons.mpr ⟨fun hm => ?_, nd⟩) ⟨p, vs, as, rfl, rfl, ?_, vo⟩⟩
    · rcases List.mem_cons.mp hb with rfl | hb
      · exact n
      · exact st1.nil (fr b hb)
    · rw [fr p hm] at ho; cases ho
    · exact OwnRep.mv (M := Mx (F.add p) e1 σ) (kp_adds (F := F.add p) (as := as) st2 fr) ((st2.k p o ho (not_mx_add S1)).1.trans ho.symm) r1
/-! the call -/
def OwnL (M : Av) (H : Hp) : List D → List Addr → Prop
  | [], as => as = []
  | d :: ds, as => ∃ a as', as = a :: as' ∧ OwnRep M H d a ∧ OwnL M H ds as'
theorem OwnL.len {M : Av} : ∀ {ds : List D} {as : List Addr}, OwnL M H ds as → as.length = ds.length
  | [], _, h => by rw [show _ = [] from h]; rfl
  | d :: ds, _, ⟨a, as', e, _, t⟩ => by rw [e, List.length_cons, List.length_cons, OwnL.len t]
theorem OwnL.get {M : Av} : ∀ {ds : List D} {as : List Addr} {k : Nat} {d : D}, OwnL M H ds as → ds[k]? = some d → ∃ a, as[k]? = some a ∧ OwnRep M H d a
  | [], _, _, _, _, e => by simp at e
  | x :: ds, _, 0, d, ⟨a, as', e, r, t⟩, q => by
    have : x = d := by simpa using q
    subst this; subst e
    exact ⟨a, rfl, r⟩
  | x :: ds, _, k + 1, d, ⟨a, as', e, r, t⟩, q => by
    subst e
    obtain ⟨a', h1, h2⟩ := OwnL.get (k := k) t (by simpa using q)
    exact ⟨a', by simpa using h1, h2⟩
theorem vo_own {F : Fr} {e : EnvD} : ∀ {rs : List VL.R} {vs : List V} {as : List Addr}, ValsO F e σ H rs vs as → OwnL (Mx F e σ) H (ownsOf rs) as
  | [], _, _, ⟨_, h⟩ => h
  | .own d :: rs, _, _, ⟨a, vs', as', _, h, r, t⟩ => ⟨a, as', h, r, vo_own t⟩
  | .dat d :: rs, _, _, ⟨v, vs', _, _, t⟩ => vo_own (rs := rs) t
  | .slot i :: rs, _, _, ⟨v, vs', _, _, t⟩ => vo_own (rs := rs) t
abbrev aS (as : List Addr) : SV := as.map fun a => some (V.ref a)
theorem vo_vals {F F2 : Fr} {e e2 : EnvD} {σ2 : SV} (hM : Mx F2 e2 σ2 = Mx F e σ) : ∀ {rs : List VL.R} {vs : List V} {pre as : List Addr}, σ2 = σ ++ aS (pre ++ as) → ValsO F e σ H rs vs as → Vals' F2 e2 σ2 H (toSlots (σ.length + pre.length) rs) vs
  | [], _, _, _, _, ⟨h, _⟩ => h
  | .own d :: rs, _, pre, _, hs, ⟨a, vs', as', h1, h2, r, t⟩ => by
    subst h1; subst h2
    refine ⟨.ref a, vs', rfl, ?_, ?_⟩
    · show σ2[σ.length + pre.length]? = some (some (V.ref a))
      rw [hs, List.getElem?_append_right (by omega)]
      show (aS (pre ++ a :: as'))[σ.length + pre.length - σ.length]? = _
      rw [show σ.length + pre.length - σ.length = pre.length by omega, List.getElem?_map, List.getElem?_append_right (Nat.le_refl _), Nat.sub_self]
      rfl
    · have := vo_vals (F2 := F2) (e2 := e2) (σ2 := σ2) hM (pre := pre ++ [a]) (as := as') (by rw [hs]; simp) t
      rw [List.length_append, List.length_singleton] at this
      exact this
  | .dat d :: rs, _, pre, _, hs, ⟨v, vs', h1, r, t⟩ => by
    subst h1
    refine ⟨v, vs', rfl, ?_, vo_vals hM hs t⟩
    show Rep (Mx F2 e2 σ2) H d v
    rw [hM]
    exact r
  | .slot i :: rs, _, pre, _, hs, ⟨v, vs', h1, r, t⟩ => by
    subst h1
    refine ⟨v, vs', rfl, ?_, vo_vals hM hs t⟩
    have r : σ[i]? = some (some v) := r
    show σ2[i]? = some (some v)
    rw [hs, List.getElem?_append_left (List.getElem?_eq_some_iff.mp r).1]
    exact r
theorem callR_isVal {f : Nat} {rs : List VL.R} {env env' : EnvD} {r : VL.R} (h : callR T f rs env = .ok (r, env')) : r.isVal = true := by
  obtain ⟨c, h⟩ := chk_bind h
  obtain ⟨ds, h2, h⟩ := Res.bind_ok h
  obtain ⟨q, h3, h⟩ := Res.bind_ok h
  obtain ⟨e1, h4, h⟩ := Res.bind_ok h
  obtain ⟨e2, h5, h⟩ := Res.bind_ok h
  have h : (Res.ok (if q.own = true then R.own q.d else R.dat q.d, e2) : Res (R × EnvD)) = .ok (r, env') := h
  have : r = if q.own = true then R.own q.d else R.dat q.d := by cases h; rfl
  rw [this]
  split <;> rfl
/-- slots at the end left out -/
theorem Sim.cut {F : Fr} {e0 : EnvD} {τ : SV} (S : Sim F e0 (σ ++ τ) H) (hio : ∀ j b, F.io j = some b → j < σ.length) : Sim F (e0.take σ.length) σ H ∧ (∀ b, Owns (e0.take σ.length) σ b → Owns e0 (σ ++ τ) b) := by
  have hl : e0.length = σ.length + τ.length := by rw [← S.len, List.length_append]
  have w : ∀ {j : Nat} {s : Slot}, (e0.take σ.length)[j]? = some s → j < σ.length ∧ e0[j]? = some s := fun {j s} q => by
    have hj := (List.getElem?_eq_some_iff.mp q).1
    rw [List.length_take] at hj
    rw [List.getElem?_take_of_lt (by omega)] at q
    exact ⟨by omega, q⟩
  have sg : ∀ {j : Nat}, j < σ.length → (σ ++ τ)[j]? = σ[j]? := fun {j} h => List.getElem?_append_left h
  have sub : ∀ b, Owns (e0.take σ.length) σ b → Owns e0 (σ ++ τ) b := fun b ⟨j, s, d, q1, q2, q3⟩ => by
    obtain ⟨h1, h2⟩ := w q1
    exact ⟨j, s, d, h2, q2, by rw [sg h1]; exact q3⟩
  have kp : Kp (Mx F e0 (σ ++ τ)) H (Mx F (e0.take σ.length) σ) H := ⟨rfl, fun b o e n => ⟨e, fun z => n (Or.elim z .inl fun z => .inr (sub b z))⟩⟩
  refine ⟨⟨by rw [List.length_take]; omega, fun j d q => ?_, fun j d q => ?_, fun j d q => ?_, fun i j s t d x a q1 h1 q2 h2 q3 q4 => ?_, S.m0, S.keep, fun j b q => ?_, fun j q => by
    obtain ⟨h1, h2⟩ := w q
    rw [← sg h1]; exact S.xc j h2⟩, sub⟩
  · obtain ⟨h1, h2⟩ := w q
    obtain ⟨v, g1, g2⟩ := S.sh j d h2
    exact ⟨v, by rw [← sg h1]; exact g1, g2.mv kp⟩
  · obtain ⟨h1, h2⟩ := w q
    obtain ⟨v, g1, g2, g3, g4⟩ := S.ow j d h2
    exact ⟨v, by rw [← sg h1]; exact g1, g2, g3, g4.mv kp rfl⟩
  · obtain ⟨h1, h2⟩ := w q
    obtain ⟨v, g1, g2, g3, g4⟩ := S.io j d h2
    exact ⟨v, by rw [← sg h1]; exact g1, g2, g3, g4.mv kp rfl⟩
  · obtain ⟨w1, w2⟩ := w q1
    obtain ⟨w3, w4⟩ := w q2
    exact S.inj i j s t d x a w2 h1 w4 h2 (by rw [sg w1]; exact q3) (by rw [sg w3]; exact q4)
  · have hj := hio j b q
    obtain ⟨d, g1, g2⟩ := S.iok j b q
    exact ⟨d, by rw [List.getElem?_take_of_lt hj]; exact g1, by rw [← sg hj]; exact g2⟩
theorem tE_callO {Q : VK} {f : Nat} {es : List CE} (h : tEK Y T (.callO f es) σ H Q) : tCallS (spF Y.K Y.mg Y.xs (T.fl f) (T.call f)) (fun σ C d H' => Y.W C d σ H') (tAO Y T es) σ H Q := by
  obtain ⟨F, env, hK, S, h⟩ := h
  obtain ⟨⟨r, env'⟩, hr, k⟩ := WPr.ok (nx_noX _) h
  have hr := noX_eq hr
  obtain ⟨⟨rs, e⟩, h1, hr⟩ := Res.bind_ok hr
  obtain ⟨⟨r0, e0⟩, h2, hr⟩ := Res.bind_ok hr
  cases hr
  refine ⟨F, env, rs, e, hK, S, h1, fun vs H1 as S1 st1 fr nd vo => ?_⟩
  have ol := vo_own vo
  have hal := ol.len
  have hse : σ.length = e.length := S1.len
  have nO : ∀ a ∈ as, ¬ Owns e σ a := fun a ha z => by
    obtain ⟨_, _, _, n⟩ := z.some S1
    exact n ((adds_M as F a).mpr (.inr ha))
  have nM : ∀ a ∈ as, ¬ F.M0 a := fun a ha z => by
    obtain ⟨o, q, _⟩ := S.m0 a z
    rw [fr a ha] at q; cases q
  have nH : ∀ a ∈ as, F.H0 a = none := fun a ha => S.h0none' (fr a ha)
  have sl : ∀ {j : Nat}, j < e.length → (σ ++ aS as)[j]? = σ[j]? := fun {j} hj => List.getElem?_append_left (by omega)
  have el : ∀ {j : Nat}, j < e.length → (e ++ (ownsOf rs).map Slot.ow)[j]? = e[j]? := fun {j} hj => List.getElem?_append_left hj
  have er : ∀ {j : Nat} {s : Slot}, ¬ j < e.length → (e ++ (ownsOf rs).map Slot.ow)[j]? = some s → ∃ d a, s = .ow d ∧ as[j - e.length]? = some a ∧ (σ ++ aS as)[j]? = some (some (V.ref a)) ∧ OwnRep (Mx (F.adds as) e σ) H1 d a := fun {j s} hj q => by
    rw [List.getElem?_append_right (by omega), List.getElem?_map] at q
    obtain ⟨d, q1, q2⟩ := Option.map_eq_some_iff.mp q
    obtain ⟨a, g1, g2⟩ := ol.get q1
    refine ⟨d, a, q2.symm, g1, ?_, g2⟩
    rw [List.getElem?_append_right (by omega), List.getElem?_map, hse, g1]
    rfl
  have ow : ∀ b, Owns (e ++ (ownsOf rs).map Slot.ow) (σ ++ aS as) b ↔ Owns e σ b ∨ b ∈ as := fun b => by
    constructor
    · rintro ⟨j, s, d, q1, q2, q3⟩
      by_cases hj : j < e.length
      · rw [el hj] at q1
        rw [sl hj] at q3
        exact .inl ⟨j, s, d, q1, q2, q3⟩
      · obtain ⟨d', a, _, g1, g2, _⟩ := er hj q1
        rw [g2] at q3; cases q3
        exact .inr (List.mem_of_getElem? g1)
    · rintro (⟨j, s, d, q1, q2, q3⟩ | hb)
      · have hj := (List.getElem?_eq_some_iff.mp q1).1
        exact ⟨j, s, d, by rw [el hj]; exact q1, q2, by rw [sl hj]; exact q3⟩
      · obtain ⟨i, hi⟩ := List.getElem?_of_mem hb
        have hil : i < as.length := (List.getElem?_eq_some_iff.mp hi).1
        refine ⟨e.length + i, .ow ((ownsOf rs)[i]'(by omega)), (ownsOf rs)[i]'(by omega), ?_, rfl, ?_⟩
        · rw [List.getElem?_append_right (by omega), show e.length + i - e.length = i by omega, List.getElem?_map, List.getElem?_eq_getElem (by omega)]
          rfl
        · rw [List.getElem?_append_right (by omega), show e.length + i - σ.length = i by omega, List.getElem?_map, hi]
          rfl
  have hM : Mx F (e ++ (ownsOf rs).map Slot.ow) (σ ++ aS as) = Mx (F.adds as) e σ := by
    show (⟨F.K, fun b => F.M0 b ∨ Owns (e ++ (ownsOf rs).map Slot.ow) (σ ++ aS as) b⟩ : Av) = ⟨(F.adds as).K, fun b => (F.adds as).M0 b ∨ Owns e σ b⟩
    rw [adds_K]
    congr 1
    funext b
    refine propext ?_
    rw [ow b, adds_M]
    constructor
    · rintro (z | z | z)
      · exact .inl (.inl z)
      · exact .inr z
      · exact .inl (.inr z)
    · rintro ((z | z) | z)
      · exact .inl z
      · exact .inr (.inr z)
      · exact .inr (.inl z)
  have Sx : Sim F (e ++ (ownsOf rs).map Slot.ow) (σ ++ aS as) H1 := by
    refine ⟨by simp [hse, hal], fun j d q => ?_, fun j d q => ?_, fun j d q => ?_, fun i j s t d x a q1 g1 q2 g2 q3 q4 => ?_, fun b z => S1.m0 b ((adds_M as F b).mpr (.inl z)), fun b u q n => S1.keep b u (by rw [adds_H0]; exact q) (by rw [adds_io]; exact n), fun j b q => ?_, fun j q => by
      by_cases hj : j < e.length
      · rw [el hj] at q
        rw [sl hj, ← adds_xa as F]
        exact S1.xc j q
      · obtain ⟨_, _, z, _⟩ := er hj q; cases z⟩
    · rw [hM]
      by_cases hj : j < e.length
      · rw [el hj] at q
        rw [sl hj]
        exact S1.sh j d q
      · obtain ⟨_, _, z, _⟩ := er hj q; cases z
    · rw [hM]
      by_cases hj : j < e.length
      · rw [el hj] at q
        rw [sl hj]
        obtain ⟨a, w1, w2, w3, w4⟩ := S1.ow j d q
        exact ⟨a, w1, fun z => w2 ((adds_M as F a).mpr (.inl z)), by rw [← adds_H0 as F]; exact w3, w4⟩
      · obtain ⟨d', a, z, g1, g2, g3⟩ := er hj q
        cases z
        have hm := List.mem_of_getElem? g1
        exact ⟨a, g2, nM a hm, nH a hm, g3⟩
    · rw [hM]
      by_cases hj : j < e.length
      · rw [el hj] at q
        rw [sl hj]
        obtain ⟨a, w1, w2, w3, w4⟩ := S1.io j d q
        exact ⟨a, w1, fun z => w2 ((adds_M as F a).mpr (.inl z)), by rw [← adds_io as F]; exact w3, w4⟩
      · obtain ⟨_, _, z, _⟩ := er hj q; cases z
    · by_cases hi : i < e.length
      · rw [el hi] at q1
        rw [sl hi] at q3
        by_cases hj : j < e.length
        · rw [el hj] at q2
          rw [sl hj] at q4
          exact S1.inj i j s t d x a q1 g1 q2 g2 q3 q4
        · obtain ⟨_, a', _, w1, w2, _⟩ := er hj q2
          rw [w2] at q4; cases q4
          exact absurd ⟨i, s, d, q1, g1, q3⟩ (nO a (List.mem_of_getElem? w1))
      · obtain ⟨_, a', _, w1, w2, _⟩ := er hi q1
        rw [w2] at q3; cases q3
        by_cases hj : j < e.length
        · rw [el hj] at q2
          rw [sl hj] at q4
          exact absurd ⟨j, t, x, q2, g2, q4⟩ (nO a (List.mem_of_getElem? w1))
        · obtain ⟨_, a2, _, w3, w4, _⟩ := er hj q2
          rw [w4] at q4; cases q4
          have h5 : i - e.length = j - e.length := by
            have k1 := (List.getElem?_eq_some_iff.mp w1)
            have k2 := (List.getElem?_eq_some_iff.mp w3)
            obtain ⟨k1, k1'⟩ := k1
            obtain ⟨k2, k2'⟩ := k2
            exact (List.getElem_inj nd).mp (k1'.trans k2'.symm)
          omega
    · obtain ⟨d, w1, w2⟩ := S1.iok j b (by rw [adds_io]; exact q)
      have hj := (List.getElem?_eq_some_iff.mp w1).1
      exact ⟨d, by rw [el hj]; exact w1, by rw [sl hj]; exact w2⟩
  have vv : Vals' F (e ++ (ownsOf rs).map Slot.ow) (σ ++ aS as) H1 (toSlots e.length rs) vs := by
    have := vo_vals (F2 := F) (e2 := e ++ (ownsOf rs).map Slot.ow) (σ2 := σ ++ aS as) hM (pre := []) (as := as) rfl vo
    rwa [List.length_nil, Nat.add_zero, hse] at this
  refine call_sp hK Sx vv (WPr.of_ok (Px := fun _ => False) h2 fun v H' p => k v H' ?_) (fun _ z => z.elim)
  have hio : ∀ (j : Nat) (b : Addr), F.io j = some b → j < σ.length := fun j b q => by
    obtain ⟨d, w1, _⟩ := S.iok j b q
    have := (List.getElem?_eq_some_iff.mp w1).1
    rw [S.len]; exact this
  obtain ⟨stp, p⟩ := p
  have mkStep : (∀ b, Owns (e0.take e.length) σ b → Owns e0 (σ ++ aS as) b) → Step env σ H (e0.take e.length) σ H' := fun sub => ⟨fun b o hb n => by
    have q1 := st1.k b o hb n
    have q2 := stp.k b o q1.1 fun z => by
      rcases (ow b).mp z with z | z
      · exact q1.2 z
      · rw [fr b z] at hb; cases hb
    exact ⟨q2.1, fun z => q2.2 (sub b z)⟩, fun b o hb => let ⟨o1, q⟩ := st1.th b o hb; stp.th b o1 q⟩
  cases r with
  | slot j => cases callR_isVal h2
  | dat d =>
    obtain ⟨S', r'⟩ := p
    obtain ⟨S2, sub⟩ := S'.cut hio
    rw [hse] at S2 sub
    exact ⟨mkStep sub, S2, Rep.mv (M := Mx F e0 (σ ++ aS as)) (M' := Mx F (e0.take e.length) σ) ⟨rfl, fun b o q n => ⟨q, fun z => n (Or.elim z .inl fun z => .inr (sub b z))⟩⟩ r'⟩
  | own d =>
    obtain ⟨a, rfl, n, S', r'⟩ := p
    obtain ⟨S2, sub⟩ := S'.cut hio
    rw [hse] at S2 sub
    exact ⟨mkStep sub, a, rfl, st1.nil n, S2, OwnRep.mv (M := Mx (F.add a) e0 (σ ++ aS as)) (M' := Mx (F.add a) (e0.take e.length) σ) ⟨rfl, fun b o q n => ⟨q, fun z => n (Or.elim z .inl fun z => .inr (sub b z))⟩⟩ rfl r'⟩
end
end VL
/-! VLK: a thing of one's own that is shared for the time of an expression. -/
namespace VL
open PySem PySem.Spec L2
structure KFr (F F0 : Fr) (i : Nat) (a : Addr) (o : Bool) : Prop where
  K : F0.K = F.K
  M : F0.M0 = F.M0
  h0 : ∀ b, b ≠ a → F0.H0 b = F.H0 b
  io : ∀ j, j ≠ i → F0.io j = F.io j
  ii : F0.io i = none
  ow : o = true → F.H0 a = none ∧ F.io i = none
  iw : o = false → F.io i = some a
  h0a : F0.H0 a = none
  xa : F0.xa = F.xa
theorem KFr.add {F F0 : Fr} {i : Nat} {a : Addr} {o : Bool} (k : KFr F F0 i a o) (p : Addr) : KFr (F.add p) (F0.add p) i a o :=
  ⟨k.K, by show (fun b => F0.M0 b ∨ b = p) = fun b => F.M0 b ∨ b = p; rw [k.M], k.h0, k.io, k.ii, k.ow, k.iw, k.h0a, k.xa⟩
section
variable {F F0 F' F0' : Fr} {env : EnvD} {σ : SV} {H H' : Hp} {i : Nat} {a : Addr} {d : D} {o : Bool}
theorem held_slot (h : heldO env[i]? = some (d, o)) : env[i]? = some (ownS o d) := by
  cases q : env[i]? with
  | none => rw [q] at h; cases h
  | some s =>
    rw [q] at h
    cases s <;> first
      | (cases h; done)
      | (cases h; rfl)
theorem ownS_held : (ownS o d).held = some d := by cases o <;> rfl
/-- where it stands, and the frame in which it is shared -/
theorem Sim.keepA (S : Sim F env σ H) (h : env[i]? = some (ownS o d)) : ∃ a F0, KFr F F0 i a o ∧ σ[i]? = some (some (V.ref a)) ∧ ¬ F.M0 a ∧ OwnRep (Mx F env σ) H d a := by
  cases o with
  | true =>
    obtain ⟨a, e1, m, f, r⟩ := S.ow i d h
    have hio : F.io i = none := by
      cases q : F.io i with
      | none => rfl
      | some b =>
        obtain ⟨d', q1, _⟩ := S.iok i b q
        rw [h] at q1; cases q1
    exact ⟨a, F, ⟨rfl, rfl, fun _ _ => rfl, fun _ _ => rfl, hio, fun _ => ⟨f, hio⟩, fun z => (by cases z), f, rfl⟩, e1, m, r⟩
  | false =>
    obtain ⟨a, e1, m, f, r⟩ := S.io i d h
    exact ⟨a, { F with H0 := fun b => if b = a then none else F.H0 b, io := fun j => if j = i then none else F.io j }, ⟨rfl, rfl, fun b hb => if_neg hb, fun j hj => if_neg hj, if_pos rfl, fun z => (by cases z), fun _ => f, if_pos rfl, rfl⟩, e1, m, r⟩
theorem Sim.keepIn (S : Sim F env σ H) (h : env[i]? = some (ownS o d)) (kf : KFr F F0 i a o) (hv : σ[i]? = some (some (V.ref a))) (hm : ¬ F.M0 a) (hr : OwnRep (Mx F env σ) H d a) :
    Sim F0 (env.set i (.sh d)) σ H ∧ (∀ b, Owns (env.set i (.sh d)) σ b → Owns env σ b ∧ b ≠ a) := by
  have hi : i < env.length := (List.getElem?_eq_some_iff.mp h).1
  have sub : ∀ b, Owns (env.set i (.sh d)) σ b → Owns env σ b ∧ b ≠ a := fun b ⟨j, s, dd, e1, e2, e3⟩ => by
    by_cases hj : j = i
    · subst hj
      rw [List.getElem?_set_self hi] at e1; cases e1; cases e2
    · rw [List.getElem?_set_ne (Ne.symm hj)] at e1
      refine ⟨⟨j, s, dd, e1, e2, e3⟩, fun z => ?_⟩
      subst z
      exact hj (S.inj j i s _ dd d b e1 e2 h ownS_held e3 hv)
  have subM : ∀ b, Mx F0 (env.set i (.sh d)) σ b → Mx F env σ b := fun b z => by
    rcases z with z | z
    · have z : F0.M0 b := z
      rw [kf.M] at z; exact .inl z
    · exact .inr (sub b z).1
  have na : ¬ Mx F0 (env.set i (.sh d)) σ a := fun z => by
    rcases z with z | z
    · have z : F0.M0 a := z
      rw [kf.M] at z; exact hm z
    · exact (sub a z).2 rfl
  have kp : Kp (Mx F env σ) H (Mx F0 (env.set i (.sh d)) σ) H := ⟨kf.K, fun b o e n => ⟨e, fun z => n (subM b z)⟩⟩
  refine ⟨⟨by rw [List.length_set]; exact S.len, fun j d' e => ?_, fun j d' e => ?_, fun j d' e => ?_, fun j k s t x y b e1 h1 e2 h2 => ?_, fun b z => S.m0 b (by rw [kf.M] at z; exact z), fun b u e n => ?_, fun j b e => ?_, fun j e => by rw [kf.xa]; exact xc_set S (by simp) j e⟩, sub⟩
  · by_cases hj : j = i
    · subst hj
      rw [List.getElem?_set_self hi] at e; cases e
      exact ⟨_, hv, hr.share kf.K subM na⟩
    · rw [List.getElem?_set_ne (Ne.symm hj)] at e
      obtain ⟨v, e1, r⟩ := S.sh j d' e
      exact ⟨v, e1, r.mv kp⟩
  · by_cases hj : j = i
    · subst hj
      rw [List.getElem?_set_self hi] at e; cases e
    · have e0 := e
      rw [List.getElem?_set_ne (Ne.symm hj)] at e
      obtain ⟨x, e1, m, f, r⟩ := S.ow j d' e
      have hxa : x ≠ a := (sub x ⟨j, _, d', e0, rfl, e1⟩).2
      exact ⟨x, e1, by rw [kf.M]; exact m, (kf.h0 x hxa).trans f, r.mv kp rfl⟩
  · by_cases hj : j = i
    · subst hj
      rw [List.getElem?_set_self hi] at e; cases e
    · rw [List.getElem?_set_ne (Ne.symm hj)] at e
      obtain ⟨x, e1, m, f, r⟩ := S.io j d' e
      exact ⟨x, e1, by rw [kf.M]; exact m, (kf.io j hj).trans f, r.mv kp rfl⟩
  · have w : ∀ (j : Nat) (s : Slot) (x : D), (env.set i (.sh d))[j]? = some s → s.held = some x → env[j]? = some s := fun j s x q hx => by
      by_cases hj : j = i
      · rw [hj, List.getElem?_set_self hi] at q
        rw [← Option.some.inj q] at hx
        cases hx
      · rw [List.getElem?_set_ne (Ne.symm hj)] at q; exact q
    exact S.inj j k s t x y b (w _ _ _ e1 h1) h1 (w _ _ _ e2 h2) h2
  · have hba : b ≠ a := fun z => by subst z; rw [kf.h0a] at e; cases e
    refine S.keep b u ((kf.h0 b hba).symm.trans e) fun j z => ?_
    by_cases hj : j = i
    · subst hj
      cases o with
      | true => rw [(kf.ow rfl).2] at z; cases z
      | false => rw [kf.iw rfl] at z; cases z; exact hba rfl
    · exact n j ((kf.io j hj).trans z)
  · by_cases hj : j = i
    · subst hj; rw [kf.ii] at e; cases e
    · obtain ⟨d', e1, e2⟩ := S.iok j b ((kf.io j hj).symm.trans e)
      exact ⟨d', by rw [List.getElem?_set_ne (Ne.symm hj)]; exact e1, e2⟩
theorem Sim.keepOut {e : EnvD} (S : Sim F env σ H) (h : env[i]? = some (ownS o d)) (kf : KFr F' F0' i a o) (hv : σ[i]? = some (some (V.ref a))) (hr : OwnRep (Mx F env σ) H d a) (hK : F'.K = F.K) (hM : ∀ b, F'.M0 b → F.M0 b ∨ H b = none) (hm : ¬ F'.M0 a)
    (sub : ∀ b, Owns (env.set i (.sh d)) σ b → Owns env σ b ∧ b ≠ a) (S' : Sim F0' e σ H') (st : Step (env.set i (.sh d)) σ H e σ H') (ko : KeepOk env e i) :
    Sim F' (e.set i (ownS o d)) σ H' ∧ Step env σ H (e.set i (ownS o d)) σ H' ∧ (∀ b xs, H' b = some (.tup xs) → ¬ Mx F' (e.set i (ownS o d)) σ b) := by
  have hi0 : i < env.length := (List.getElem?_eq_some_iff.mp h).1
  have hi : i < e.length := by rw [← S'.len, S.len]; exact hi0
  have nO : ¬ Owns (env.set i (.sh d)) σ a := fun z => (sub a z).2 rfl
  obtain ⟨oa, ha, nt⟩ := hr.some
  have ha' : H' a = some oa := (st.k a oa ha nO).1
  have nO' : ¬ Owns e σ a := (st.k a oa ha nO).2
  have own1 : ∀ b, Owns (e.set i (ownS o d)) σ b → Owns e σ b ∨ b = a := fun b ⟨j, s, dd, e1, e2, e3⟩ => by
    by_cases hj : j = i
    · subst hj
      rw [hv] at e3; cases e3; exact .inr rfl
    · rw [List.getElem?_set_ne (Ne.symm hj)] at e1
      exact .inl ⟨j, s, dd, e1, e2, e3⟩
  have oa0 : Owns env σ a := ⟨i, _, d, h, ownS_held, hv⟩
  have st1 : Step env σ H (e.set i (ownS o d)) σ H' := ⟨fun b u q n => by
    have z := st.k b u q fun z => n (sub b z).1
    refine ⟨z.1, fun y => ?_⟩
    rcases own1 b y with y | y
    · exact z.2 y
    · subst y; exact n oa0, st.th⟩
  have kpB : Kp (Mx F env σ) H (Mx F' (e.set i (ownS o d)) σ) H' := ⟨hK, fun b u q n => by
    have z := st1.k b u q fun z => n (.inr z)
    refine ⟨z.1, fun y => ?_⟩
    rcases y with y | y
    · rcases hM b y with y | y
      · exact n (.inl y)
      · rw [y] at q; cases q
    · exact z.2 y⟩
  have nn : ∀ b xs, H' b = some (.tup xs) → ¬ Mx F' (e.set i (ownS o d)) σ b := fun b xs q y => by
    rcases y with y | y
    · have := S'.notup b xs q
      exact this (.inl (by rw [show (Mx F0' e σ).m = fun b => F0'.M0 b ∨ Owns e σ b from rfl] at *; show F0'.M0 b; rw [kf.M]; exact y))
    · rcases own1 b y with y | y
      · exact S'.notup b xs q (.inr y)
      · subst y; rw [ha'] at q; cases q; exact nt _ rfl
  have eM : ∀ b, F0'.M0 b ↔ F'.M0 b := fun b => by rw [kf.M]
  refine ⟨⟨by rw [List.length_set]; exact S'.len, fun j d' q => ?_, fun j d' q => ?_, fun j d' q => ?_, fun j k s t x y b e1 h1 e2 h2 e3 e4 => ?_, fun b z => S'.m0 b ((eM b).mpr z), fun b u q n => ?_, fun j b q => ?_, fun j q => by rw [← kf.xa]; exact xc_set S' (by cases o <;> simp [ownS]) j q⟩, st1, nn⟩
  · by_cases hj : j = i
    · subst hj
      rw [List.getElem?_set_self hi] at q
      cases o <;> cases q
    · rw [List.getElem?_set_ne (Ne.symm hj)] at q
      rcases ko j hj with ⟨⟨d2, k1⟩, k2⟩ | k
      · rw [q, k1] at k2; cases k2
        obtain ⟨v, e1, r⟩ := S.sh j d' k1
        exact ⟨v, e1, r.mv kpB⟩
      · have hc := k _ q
        obtain ⟨v, e1, r⟩ := S'.sh j d' q
        refine ⟨v, e1, ?_⟩
        rcases Bool.or_eq_true_iff.mp hc with hc | hc
        · exact (Rep.pure nn hc (Rep.mv (M := Mx F0' e σ) (M' := ⟨F'.K, (Mx F0' e σ).m⟩) ⟨kf.K.symm, fun b u q n => ⟨q, n⟩⟩ r))
        · cases d' <;> first
            | (cases hc; done)
            | skip
          obtain ⟨p, e2, z⟩ := r
          refine ⟨p, e2, z.elim (fun ⟨ob, z1, z2⟩ => .inl ⟨ob, z1, fun y => ?_⟩) fun z => .inr (by rw [show (Mx F' (e.set i (ownS o d)) σ).K = (Mx F0' e σ).K from kf.K.symm]; exact z)⟩
          rcases y with y | y
          · exact z2 (.inl ((eM p).mpr y))
          · rcases own1 p y with y | y
            · exact z2 (.inr y)
            · subst y
              rw [ha'] at z1; cases z1
              cases d with
              | lst ds => obtain ⟨xs, w, _⟩ := hr; rw [ha] at w; cases w
              | dK ds => obtain ⟨xs, w, _⟩ := hr; rw [ha] at w; cases w
              | dT ds => obtain ⟨xs, w, _⟩ := hr; rw [ha] at w; cases w
              | _ => exact hr.elim
  · by_cases hj : j = i
    · subst hj
      rw [List.getElem?_set_self hi] at q
      cases o with
      | false => cases q
      | true =>
        cases q
        exact ⟨a, hv, hm, (kf.ow rfl).1, hr.mv kpB (ha'.trans ha.symm)⟩
    · rw [List.getElem?_set_ne (Ne.symm hj)] at q
      rcases ko j hj with ⟨⟨d2, k1⟩, k2⟩ | k
      · rw [q, k1] at k2; cases k2
      · have hc := k _ q
        obtain ⟨x, e1, m, f, r⟩ := S'.ow j d' q
        have hxa : x ≠ a := fun z => by subst z; exact nO' ⟨j, _, d', q, rfl, e1⟩
        exact ⟨x, e1, fun z => m ((eM x).mpr z), (kf.h0 x hxa).symm.trans f, OwnRep.pure nn hc (OwnRep.mv (M := Mx F0' e σ) (M' := ⟨F'.K, (Mx F0' e σ).m⟩) ⟨kf.K.symm, fun b u q n => ⟨q, n⟩⟩ rfl r)⟩
  · by_cases hj : j = i
    · subst hj
      rw [List.getElem?_set_self hi] at q
      cases o with
      | true => cases q
      | false =>
        cases q
        exact ⟨a, hv, hm, kf.iw rfl, hr.mv kpB (ha'.trans ha.symm)⟩
    · rw [List.getElem?_set_ne (Ne.symm hj)] at q
      rcases ko j hj with ⟨⟨d2, k1⟩, k2⟩ | k
      · rw [q, k1] at k2; cases k2
      · have hc := k _ q
        obtain ⟨x, e1, m, f, r⟩ := S'.io j d' q
        exact ⟨x, e1, fun z => m ((eM x).mpr z), (kf.io j hj).symm.trans f, OwnRep.pure nn hc (OwnRep.mv (M := Mx F0' e σ) (M' := ⟨F'.K, (Mx F0' e σ).m⟩) ⟨kf.K.symm, fun b u q n => ⟨q, n⟩⟩ rfl r)⟩
  · by_cases hj : j = i
    · subst hj
      by_cases hk : k = j
      · exact hk.symm
      · rw [List.getElem?_set_ne (Ne.symm hk)] at e2
        rw [hv] at e3; cases e3
        exact absurd ⟨k, t, y, e2, h2, e4⟩ nO'
    · by_cases hk : k = i
      · subst hk
        rw [List.getElem?_set_ne (Ne.symm hj)] at e1
        rw [hv] at e4; cases e4
        exact absurd ⟨j, s, x, e1, h1, e3⟩ nO'
      · rw [List.getElem?_set_ne (Ne.symm hj)] at e1
        rw [List.getElem?_set_ne (Ne.symm hk)] at e2
        exact S'.inj j k s t x y b e1 h1 e2 h2 e3 e4
  · have hba : b ≠ a := fun z => by
      subst z
      cases o with
      | true => rw [(kf.ow rfl).1] at q; cases q
      | false => exact n i (kf.iw rfl)
    refine S'.keep b u ((kf.h0 b hba).trans q) fun j z => ?_
    by_cases hj : j = i
    · subst hj; rw [kf.ii] at z; cases z
    · exact n j ((kf.io j hj).symm.trans z)
  · by_cases hj : j = i
    · subst hj
      cases o with
      | true => rw [(kf.ow rfl).2] at q; cases q
      | false =>
        rw [kf.iw rfl] at q; cases q
        exact ⟨d, List.getElem?_set_self hi, hv⟩
    · obtain ⟨d', e1, e2⟩ := S'.iok j b ((kf.io j hj).trans q)
      exact ⟨d', by rw [List.getElem?_set_ne (Ne.symm hj)]; exact e1, e2⟩
/-- the whole: an expression in the frame in which the slot is shared, and what stands behind it in the old one -/
theorem Sim.keepE (S : Sim F env σ H) (h : heldO env[i]? = some (d, o)) : ∃ F0, (F0.K = F.K ∧ F0.xa = F.xa) ∧ Sim F0 (env.set i (.sh d)) σ H ∧
    (∀ e H', KeepOk env e i → Sim F0 e σ H' → Step (env.set i (.sh d)) σ H e σ H' → Sim F (e.set i (ownS o d)) σ H' ∧ Step env σ H (e.set i (ownS o d)) σ H') ∧
    ∀ r e v H', R.calm r = true → KeepOk env e i → PostE F0 (env.set i (.sh d)) σ H r e v H' → PostE F env σ H r (e.set i (ownS o d)) v H' := by
  have h := held_slot h
  obtain ⟨a, F0, kf, hv, hm, hr⟩ := S.keepA h
  obtain ⟨S0, sub⟩ := S.keepIn h kf hv hm hr
  obtain ⟨oa, ha, _⟩ := hr.some
  refine ⟨F0, ⟨kf.K, kf.xa⟩, S0, fun e H' ko S' st => ?_, fun r e v H' hc ko p => ?_⟩
  · obtain ⟨q1, q2, _⟩ := S.keepOut h kf hv hr rfl (fun b z => .inl z) hm sub S' st ko
    exact ⟨q1, q2⟩
  · obtain ⟨st, p⟩ := p
    cases r with
    | slot j => cases hc
    | dat d' =>
      obtain ⟨S', r⟩ := p
      obtain ⟨q1, q2, nn⟩ := S.keepOut h kf hv hr rfl (fun b z => .inl z) hm sub S' st ko
      exact ⟨q2, q1, Rep.pure nn hc (Rep.mv (M := Mx F0 e σ) (M' := ⟨F.K, (Mx F0 e σ).m⟩) ⟨kf.K.symm, fun b u q n => ⟨q, n⟩⟩ r)⟩
    | own d' =>
      obtain ⟨p, rfl, hp, S', r⟩ := p
      have hpa : a ≠ p := fun z => by subst z; rw [hp] at ha; cases ha
      obtain ⟨q1, q2, nn⟩ := S.keepOut (F' := F.add p) (F0' := F0.add p) h (kf.add p) hv hr rfl (fun b z => z.elim .inl fun z => .inr (by rw [z]; exact hp)) (fun z => z.elim hm hpa) sub S' st ko
      exact ⟨q2, p, rfl, hp, q1, OwnRep.pure nn hc (OwnRep.mv (M := Mx (F0.add p) e σ) (M' := ⟨F.K, (Mx (F0.add p) e σ).m⟩) ⟨kf.K.symm, fun b u q n => ⟨q, n⟩⟩ rfl r)⟩
end
section
variable {T : Tb} {Y : YW} {σ : SV} {H : Hp} {i : Nat} {a : CE}
open Classical in
theorem keepB_ok {old new : EnvD} (h : keepB old new i = true) : KeepOk old new i := by
  unfold keepB at h
  exact of_decide_eq_true h
theorem tE_keep {Q : VK} (h : tEK Y T (.keep i a) σ H Q) : tEK Y T a σ H Q := by
  obtain ⟨F, env, hK, S, h⟩ := h
  obtain ⟨q, h1, h⟩ := h.ofO
  obtain ⟨⟨r1, e⟩, h2, h⟩ := h.pure (nx_noX _)
  have h2 := noX_eq h2
  obtain ⟨c, k⟩ := h.chk
  obtain ⟨F0, hK0, S0, _, kp⟩ := S.keepE h1
  obtain ⟨c1, c2⟩ := and2 c
  exact ⟨F0, _, ⟨hK0.1.trans hK.K, hK0.2.trans hK.xa⟩, S0, WPr.of_ok h2 fun v H' p => k v H' (kp _ e v H' c1 (keepB_ok c2) p)⟩
theorem tT_keep {Q : Bool → Hp → Prop} (h : tTK Y T (.keep i a) σ H Q) : tTK Y T a σ H Q := by
  obtain ⟨F, env, hK, S, h⟩ := h
  obtain ⟨q, h1, h⟩ := h.ofO
  obtain ⟨⟨r, e⟩, h2, h⟩ := h.pure (nx_noX _)
  have h2 := noX_eq h2
  obtain ⟨c, h⟩ := h.chk
  obtain ⟨b, hb, k⟩ := (show ∃ b, frc (e.set i (ownS q.2 q.1)) r = .ok (.bl b) ∧ _ from h)
  obtain ⟨F0, hK0, S0, kp, _⟩ := S.keepE h1
  obtain ⟨c1, c2⟩ := and2 c
  refine ⟨F0, _, ⟨hK0.1.trans hK.K, hK0.2.trans hK.xa⟩, S0, WPr.of_ok h2 ⟨b, ?_, fun H' S' st => ?_⟩⟩
  · cases r with
    | slot j => cases c1
    | dat d => exact hb
    | own d => exact hb
  · obtain ⟨q1, q2⟩ := kp e H' (keepB_ok c2) S' st
    exact k H' q1 q2
end
end VL
/-! VL16: whatever the code of an expression is. -/
namespace VL
open PySem PySem.Spec L2
section
variable {T : Tb} {X : Cx} {C : CEnv} {W : WX} {xa : Addr}
theorem nm_of (c : Ctx T C X W xa) {x y : Str} (h : nmB C x y = true) : x = y ∧ Gl X x ∧ X.mg x = none := by
  obtain ⟨h1, h2⟩ := and2 h
  obtain ⟨h0, h1⟩ := and2 h1
  exact ⟨of_decide_eq_true h0, gloB_gl c.sc h1, c.bl x (of_decide_eq_true h2)⟩
theorem few_of : ∀ {cs : List CE} {es : List Expr}, okL C cs es = true → ∀ env pos, (backTo pos (starEach es env)).all (fun x => !x.1) = true
  | [], [], _, _, _ => rfl
  | [], _ :: _, h, _, _ => by cases h
  | _ :: _, [], h, _, _ => by cases h
  | c :: cs, e :: es, h, env, pos => by
    have h' : (okE C c e && okL C cs es) = true := h
    obtain ⟨h1, h2⟩ := Bool.and_eq_true_iff.mp h'
    rw [star1 (okE_star h1)]
    show ((!false) && (backTo pos (starEach es env)).all (fun x => !x.1)) = true
    rw [few_of h2 env pos]
    rfl
theorem okL_len : ∀ {cs : List CE} {es : List Expr}, okL C cs es = true → es.length = cs.length
  | [], [], _ => rfl
  | [], _ :: _, h => by cases h
  | _ :: _, [], h => by cases h
  | c :: cs, e :: es, h => by
    have h' : (okE C c e && okL C cs es) = true := h
    rw [List.length_cons, List.length_cons, okL_len (and2 h').2]
theorem okL_cons {c : CE} {cs : List CE} {es : List Expr} (h : okL C (c :: cs) es = true) : ∃ e es', es = e :: es' ∧ okE C c e = true ∧ okL C cs es' = true := by
  cases es with
  | nil => cases h
  | cons e es' => exact ⟨e, es', rfl, and2 h⟩
theorem okL_nil {es : List Expr} (h : okL C [] es = true) : es = [] := by
  cases es with
  | nil => rfl
  | cons e es' => cases h
theorem few30 {cs : List CE} {es : List Expr} (h : okL C cs es = true) (hl : cs.length < 30) (env : Env) (pos : Pos) : ((backTo pos (starEach es env)).all (fun x => !x.1) && (backToKw pos (keywordEach [] env)).all (fun x => x.1.isSome)
      && decide (es.length + ([] : List Keyword).length + (if ([] : List Keyword).isEmpty then 0 else 1) < 30)) = true := by
  rw [few_of h env pos]
  show (true && true && decide (es.length + 0 + 0 < 30)) = true
  rw [okL_len h]
  simpa using hl
theorem isT_plain {e : Expr} {env : Env} (h1 : ∀ o x p, e ≠ .UnaryOp o x p) (h2 : ∀ o x p, e ≠ .BoolOp o x p) (h3 : ∀ o x y p, e ≠ .IfExp o x y p) (h4 : ∀ o x y p, e ≠ .Compare o x y p) (whole : Sem Value) :
    isTrue e env whole = (do let v ← whole; standAt e.pos; holding [v] (truthy v)) := by
  cases e <;> first
    | rfl
    | exact absurd rfl (h1 _ _ _)
    | exact absurd rfl (h2 _ _ _)
    | exact absurd rfl (h3 _ _ _ _)
    | exact absurd rfl (h4 _ _ _ _)
theorem pt_plain {xs : List Str} {c : CE} {e : Expr} (h : PE X e (tEK (yw X xs W xa) T c)) (h1 : ∀ o x p, e ≠ .UnaryOp o x p) (h2 : ∀ o x p, e ≠ .BoolOp o x p) (h3 : ∀ o x y p, e ≠ .IfExp o x y p) (h4 : ∀ o x y p, e ≠ .Compare o x y p) : PT X e (tTK (yw X xs W xa) T c) :=
  PT.imp (pt_val h (isT_plain h1 h2 h3 h4)) fun _ _ _ q => tT_of q
theorem bf_pe (c : Ctx T C X W xa) {b : Bf} (hb : b.calm = true → C.cool = true) {x : Str} {e : Expr} {es : List Expr} {p pos : Pos} {t : TA} (hn : nmB C x b.nm = true) (ha : PA X (e :: es) t) (he : starEach (e :: es) X.env = (false, eval e X.env) :: starEach es X.env) (hpl : (backTo pos (starEach es X.env)).any (·.1) = false) :
    PE X (.Call (.Name x p) (e :: es) [] pos) (tCB (rBf X.K b) t) := by
  obtain ⟨rfl, hg, hm⟩ := nm_of c hn
  have hb := bf_ok (X := X) c.un b (fun z => c.calm (hb z)) fun e => c.gd (hb (by rw [e]; rfl))
  cases b <;> first
    | exact pe_callB hb hg hm (by decide +kernel) ha (by decide +kernel) (by decide +kernel) he hpl
    | exact pe_callTy hb hg hm (by decide +kernel) ha (by decide +kernel) (by decide +kernel) he hpl
theorem ty_pe (c : Ctx T C X W xa) {t : Ty} {x : Str} {p : Pos} (hn : nmB C x t.nm = true) : PE X (.Name x p) (tC (.ty t.name)) := by
  obtain ⟨rfl, hg, hm⟩ := nm_of c hn
  cases t <;> exact pe_bltn hg hm (by decide +kernel) rfl (by decide +kernel) (by decide +kernel)
theorem glo_pe (c : Ctx T C X W xa) {x : Str} {d : D} {p : Pos} (h : glB C.gl x d = true) (hg : gloB C.sc x = true) : PE X (.Name x p) (tEK (yw X C.xs W xa) T (.lit d)) := by
  unfold glB at h
  cases q : C.gl.lookup x with
  | none => rw [q] at h; cases h
  | some d' =>
    have hn := nameOk_d (c.gn x d' q)
    obtain ⟨g1, g2⟩ := c.gl x d' q
    rw [q] at h
    cases d' <;> first
      | (cases h; done)
      | skip
    · rename_i i
      cases d <;> first
        | (cases h; done)
        | skip
      rename_i j
      have : i = j := of_decide_eq_true h
      subst this
      obtain ⟨t, e⟩ := g1 i rfl
      exact PE.imp (pe_glob (v := .int i) (gloB_gl c.sc hg) e ⟨t, rfl⟩ hn.1) fun σ H Q z => tE_lit z _ fun _ _ => rfl
    · rename_i i
      cases d <;> first
        | (cases h; done)
        | skip
      rename_i j
      have : i = j := of_decide_eq_true h
      subst this
      obtain ⟨t, e⟩ := g2 i rfl
      exact PE.imp (pe_glob (v := .str i) (gloB_gl c.sc hg) e ⟨t, rfl⟩ hn.1) fun σ H Q z => tE_lit z _ fun _ _ => rfl
/-! ### targets -/
theorem store_of (c : Ctx T C X W xa) {x : Str} (h : storeB C x = true) : Loc X.env.scope x ∧ (X.fn x = true ∨ X.env.scope.names.lookup x = some .local) := by
  rcases Bool.or_eq_true_iff.mp h with h | h
  · have := locB_loc c.sc h
    exact ⟨.inl this, .inr this⟩
  · obtain ⟨h1, h2⟩ := and2 h
    exact ⟨.inr (cellB_cell c.sc h2), .inl (c.fc x (of_decide_eq_true h1))⟩
theorem tgn_pg (c : Ctx T C X W xa) {i : Nat} {x : Str} {p : Pos} (h1 : C.N[i]? = some x) (h2 : storeB C x = true) : PG X (.Name x p) (gName i) := by
  obtain ⟨q1, q2⟩ := store_of c h2
  exact pg_name c.nd (by rw [c.N]; exact h1) q1 q2
theorem tgl_pg (c : Ctx T C X W xa) : ∀ {is : List Nat} {es : List Expr}, Tg.ok.tgL C is es = true → PGs X es (gMany is) ∧ (assignEach es X.env).length = is.length ∧ (assignEach es X.env).findIdx? (·.1) = none
  | [], [], _ => ⟨pgs_nil, rfl, rfl⟩
  | [], _ :: _, h => by cases h
  | _ :: _, [], h => by cases h
  | i :: is, e :: es, h => by
    cases e <;> first
      | (cases h; done)
      | skip
    rename_i x p
    obtain ⟨h1, h2⟩ := and2 h
    obtain ⟨h0, h1⟩ := and2 h1
    obtain ⟨q1, q2, q3⟩ := tgl_pg c h2
    refine ⟨pgs_cons (tgn_pg c (of_decide_eq_true h0) h1) q1, ?_, ?_⟩
    · show (assignEach es X.env).length + 1 = _
      rw [q2]; rfl
    · show List.findIdx? _ ((false, _) :: assignEach es X.env) = none
      rw [List.findIdx?_cons, q3]
      rfl
theorem tg_pg (c : Ctx T C X W xa) {tg : Tg} {e : Expr} (h : tg.ok C e = true) : PG X e (tgG X.K tg) := by
  cases tg with
  | one i =>
    cases e <;> first
      | (cases h; done)
      | skip
    obtain ⟨h1, h2⟩ := and2 h
    exact tgn_pg c (of_decide_eq_true h1) h2
  | many is =>
    cases e <;> first
      | (cases h; done)
      | skip
    obtain ⟨h0, h⟩ := and2 h
    obtain ⟨q1, q2, q3⟩ := tgl_pg c (show Tg.ok.tgL C is _ = true from h)
    exact pg_tup (c.calm h0) q1 q2 q3
end
end VL
/-! VL17: all forms of expressions. -/
namespace VL
open PySem PySem.Spec L2
section
variable {T : Tb} {W : WX} {xa : Addr} {xs : List Str}
def BoolP (T : Tb) (X : Cx) (xs : List Str) (W : WX) (xa : Addr) (op : BoolOp) (go : Bool) (cs : List CE) (es : List Expr) : Prop := ∀ pos, PE X (.BoolOp op es pos) (tLK (yw X xs W xa) T go cs) ∧ PW X (.BoolOp op es pos) (tWK (yw X xs W xa) T go cs)
theorem bool_and1 {X : Cx} {c : CE} {e : Expr} (h : PE X e (tEK (yw X xs W xa) T c)) (h' : PT X e (tTK (yw X xs W xa) T c)) : BoolP T X xs W xa .And true [c] [e] := fun pos => ⟨PE.imp (pe_one h) fun _ _ _ q => tL_one q, PW.imp (pw_and1 h') fun _ _ _ q => tW_one q⟩
theorem bool_or1 {X : Cx} {c : CE} {e : Expr} (h : PE X e (tEK (yw X xs W xa) T c)) (h' : PT X e (tTK (yw X xs W xa) T c)) : BoolP T X xs W xa .Or false [c] [e] := fun pos => ⟨PE.imp (pe_one h) fun _ _ _ q => tL_one q, PW.imp (pw_or1 h') fun _ _ _ q => tW_one q⟩
theorem bool_and2 {X : Cx} {c c2 : CE} {e e2 : Expr} {cs : List CE} {es : List Expr} (h : PE X e (tEK (yw X xs W xa) T c)) (h' : PT X e (tTK (yw X xs W xa) T c)) (b : BoolP T X xs W xa .And true (c2 :: cs) (e2 :: es)) : BoolP T X xs W xa .And true (c :: c2 :: cs) (e :: e2 :: es) := fun pos => ⟨PE.imp (pe_and h (b pos).1) fun _ _ _ q => tL_and q, PW.imp (pw_and h' (b pos).2) fun _ _ _ q => tW_and q⟩
theorem bool_or2 {X : Cx} {c c2 : CE} {e e2 : Expr} {cs : List CE} {es : List Expr} (h : PE X e (tEK (yw X xs W xa) T c)) (h' : PT X e (tTK (yw X xs W xa) T c)) (b : BoolP T X xs W xa .Or false (c2 :: cs) (e2 :: es)) : BoolP T X xs W xa .Or false (c :: c2 :: cs) (e :: e2 :: es) := fun pos => ⟨PE.imp (pe_or h (b pos).1) fun _ _ _ q => tL_or q, PW.imp (pw_or h' (b pos).2) fun _ _ _ q => tW_or q⟩
structure LAll (T : Tb) (X : Cx) (xs : List Str) (W : WX) (xa : Addr) (cs : List CE) (es : List Expr) : Prop where
  a : PA X es (tAK (yw X xs W xa) T cs)
  k : PA X es (tKK (yw X xs W xa) T cs)
  o : PA X es (tAO (yw X xs W xa) T cs)
  an : cs ≠ [] → BoolP T X xs W xa .And true cs es
  or : cs ≠ [] → BoolP T X xs W xa .Or false cs es
theorem pt_ifE {X : Cx} {t a b : Expr} {tt ta tb : TT} {pos : Pos} (ht : PT X t tt) (ha : PT X a ta) (hb : PT X b tb) : PT X (.IfExp t a b pos) (fun σ H Q => tt σ H fun k H1 => if k = true then ta σ H1 Q else tb σ H1 Q) := by
  refine ⟨fun pins s σ H Q I h => ?_⟩
  refine PyProof.Rows.isTrue_IfExp (thn (ht.run pins s σ H _ I h) fun d s1 ⟨H1, I1, q1⟩ => ?_)
  cases d with
  | true => exact ha.run pins s1 σ H1 Q I1 q1
  | false => exact hb.run pins s1 σ H1 Q I1 q1
theorem rev_neg {C : CEnv} {a : CE} {l r : Expr} (h : (match r with
      | .Slice none none (some (.UnaryOp .USub (.Constant (.int 1) _ _) _)) _ => okE C a l
      | _ => false) = true) : ∃ k p1 p2 p3, r = .Slice none none (some (.UnaryOp .USub (.Constant (.int 1) k p1) p2)) p3 ∧ okE C a l = true := by
  split at h
  · exact ⟨_, _, _, _, rfl, h⟩
  · cases h
theorem slc_inv {C : CEnv} {a : CE} {lo hi : Option CE} {l r : Expr} (h : (match r with
      | .Slice lo' hi' none _ => okE C a l && (okO C lo lo' && okO C hi hi')
      | _ => false) = true) : ∃ lo' hi' p, r = .Slice lo' hi' none p ∧ okE C a l = true ∧ okO C lo lo' = true ∧ okO C hi hi' = true := by
  split at h
  · obtain ⟨h1, h2⟩ := and2 h
    obtain ⟨h2, h3⟩ := and2 h2
    exact ⟨_, _, _, rfl, h1, h2, h3⟩
  · cases h
theorem cmp_inv {C : CEnv} {c : Cm} {a b : CE} {l : Expr} {ops : List CmpOp} {rs : List Expr} (h : (match ops, rs with
      | [op], [r] => decide (cmB c = op) && (okE C a l && (okE C b r && noSet r))
      | _, _ => false) = true) : ∃ r, ops = [cmB c] ∧ rs = [r] ∧ okE C a l = true ∧ okE C b r = true ∧ noSet r = true := by
  split at h
  · obtain ⟨h1, h2⟩ := and2 h
    obtain ⟨h2, h3⟩ := and2 h2
    obtain ⟨h3, h4⟩ := and2 h3
    exact ⟨_, by rw [of_decide_eq_true h1], rfl, h2, h3, h4⟩
  · cases h
theorem chn_inv {C : CEnv} {c c' : Cm} {a b d : CE} {l : Expr} {ops : List CmpOp} {rs : List Expr} (h : (match ops, rs with
      | [op, op'], [r, r'] => decide (cmB c = op) && (decide (cmB c' = op') && (okE C a l && (okE C b r && (okE C d r' && noSet r'))))
      | _, _ => false) = true) : ∃ r r', ops = [cmB c, cmB c'] ∧ rs = [r, r'] ∧ okE C a l = true ∧ okE C b r = true ∧ okE C d r' = true ∧ noSet r' = true := by
  split at h
  · obtain ⟨h1, h2⟩ := and2 h
    obtain ⟨h2, h3⟩ := and2 h2
    obtain ⟨h3, h4⟩ := and2 h3
    obtain ⟨h4, h5⟩ := and2 h4
    obtain ⟨h5, h6⟩ := and2 h5
    exact ⟨_, _, by rw [of_decide_eq_true h1, of_decide_eq_true h2], rfl, h3, h4, h5, h6⟩
  · cases h
theorem isi_inv {C : CEnv} {a : CE} {t : Ty} {e : Expr} (h : okE C (.isi a t) e = true) : ∃ f p x ty p2 pos, e = .Call (.Name f p) [x, .Name ty p2] [] pos ∧ nmB C f "isinstance" = true ∧ nmB C ty t.nm = true ∧ okE C a x = true := by
  unfold okE at h
  split at h
  · obtain ⟨h1, h2⟩ := and2 h
    obtain ⟨h2, h3⟩ := and2 h2
    exact ⟨_, _, _, _, _, _, rfl, h1, h2, h3⟩
  · cases h
theorem call_inv {C : CEnv} {f : Nat} {es : List CE} {e : Expr} (h : okE C (.call f es) e = true) : ∃ x p xs pos, e = .Call (.Name x p) xs [] pos ∧ C.fns.lookup x = some f ∧ gloB C.sc x = true ∧ okL C es xs = true ∧ es.isEmpty = false ∧ (C.cool = true ∨ C.hot.lookup x = some f) := by
  unfold okE at h
  split at h
  · obtain ⟨h1, h2⟩ := and2 h
    obtain ⟨h2, h3⟩ := and2 h2
    obtain ⟨h3, h4⟩ := and2 h3
    obtain ⟨h4, h5⟩ := and2 h4
    exact ⟨_, _, _, _, rfl, of_decide_eq_true h1, h2, h3, by simpa using h4, (Bool.or_eq_true_iff.mp h5).imp id of_decide_eq_true⟩
  · cases h
theorem callO_inv {C : CEnv} {f : Nat} {es : List CE} {e : Expr} (h : okE C (.callO f es) e = true) : ∃ x p xs pos, e = .Call (.Name x p) xs [] pos ∧ C.fns.lookup x = some f ∧ gloB C.sc x = true ∧ okL C es xs = true ∧ es.isEmpty = false ∧ C.cool = true := by
  unfold okE at h
  split at h
  · obtain ⟨h1, h2⟩ := and2 h
    obtain ⟨h2, h3⟩ := and2 h2
    obtain ⟨h3, h4⟩ := and2 h3
    obtain ⟨h4, h5⟩ := and2 h4
    exact ⟨_, _, _, _, rfl, of_decide_eq_true h1, h2, h3, by simpa using h4, h5⟩
  · cases h
theorem blt_inv {C : CEnv} {b : Bf} {es : List CE} {e : Expr} (h : okE C (.blt b es) e = true) : ∃ x p xs pos, e = .Call (.Name x p) xs [] pos ∧ nmB C x b.nm = true ∧ okL C es xs = true ∧ es.isEmpty = false ∧ (b.calm = true → C.cool = true) := by
  unfold okE at h
  split at h
  · obtain ⟨h1, h2⟩ := and2 h
    obtain ⟨h2, h3⟩ := and2 h2
    obtain ⟨h3, h4⟩ := and2 h3
    exact ⟨_, _, _, _, rfl, h1, h2, by simpa using h3, fun z => by rw [z] at h4; simpa using h4⟩
  · cases h
theorem inr_inv {C : CEnv} {t : Bool} {a b : CE} {e : Expr} (h : okE C (.inr t a b) e = true) : ∃ l y p r p2 pos, e = .Compare l [if t then CmpOp.NotIn else CmpOp.In] [.Call (.Name y p) [r] [] p2] pos ∧ okE C a l = true ∧ okE C b r = true ∧ nmB C y "range" = true := by
  unfold okE at h
  split at h
  · split at h
    · obtain ⟨h1, h2⟩ := and2 h
      obtain ⟨h2, h3⟩ := and2 h2
      obtain ⟨h3, h4⟩ := and2 h3
      exact ⟨_, _, _, _, _, _, by rw [of_decide_eq_true h1], h2, h3, h4⟩
    · cases h
  · cases h
theorem rngL_inv {C : CEnv} {t : Bool} {es : List CE} {e : Expr} (h : okE C (.rngL t es) e = true) : ∃ x p y p2 xs p3 pos, e = .Call (.Name x p) [.Call (.Name y p2) xs [] p3] [] pos ∧ nmB C x (if t then "tuple" else "list") = true ∧ nmB C y "range" = true ∧ okL C es xs = true ∧ (es.length = 1 ∨ es.length = 2) ∧ C.cool = true := by
  unfold okE at h
  split at h
  · obtain ⟨h1, h2⟩ := and2 h
    obtain ⟨h2, h3⟩ := and2 h2
    obtain ⟨h3, h4⟩ := and2 h3
    obtain ⟨h4, h5⟩ := and2 h4
    exact ⟨_, _, _, _, _, _, _, rfl, h1, h2, h3, by simpa using h4, h5⟩
  · cases h
theorem srt_inv {C : CEnv} {a : CE} {e : Expr} (h : okE C (.srt a) e = true) : ∃ x p y p2 b p3 pos, e = .Call (.Name x p) [.Call (.Name y p2) [b] [] p3] [] pos ∧ nmB C x "sorted" = true ∧ nmB C y "set" = true ∧ okE C a b = true ∧ C.cool = true := by
  unfold okE at h
  split at h
  · obtain ⟨h1, h2⟩ := and2 h
    obtain ⟨h2, h3⟩ := and2 h2
    obtain ⟨h3, h4⟩ := and2 h3
    exact ⟨_, _, _, _, _, _, _, rfl, h1, h2, h3, h4⟩
  · cases h
theorem mth_inv {C : CEnv} {m : Mt} {o : CE} {es : List CE} {e : Expr} (h : okE C (.mth m o es) e = true) : ∃ x n apos xs cpos, e = .Call (.Attribute x n apos) xs [] cpos ∧ n = m.nm ∧ okE C o x = true ∧ okL C es xs = true ∧
    es.length = m.len ∧ isName x = true ∧ (apos.endLine == cpos.line) = true := by
  unfold okE at h
  split at h
  · obtain ⟨h1, h2⟩ := and2 h
    obtain ⟨h2, h3⟩ := and2 h2
    obtain ⟨h3, h4⟩ := and2 h3
    obtain ⟨h4, h5⟩ := and2 h4
    obtain ⟨h5, h6⟩ := and2 h5
    exact ⟨_, _, _, _, _, rfl, of_decide_eq_true h1, h2, h3, of_decide_eq_true h4, h5, h6⟩
  · cases h
theorem pop_inv {C : CEnv} {i : Nat} {es : List CE} {e : Expr} (h : okE C (.pop i es) e = true) : ∃ x p apos xs cpos, e = .Call (.Attribute (.Name x p) "pop" apos) xs [] cpos ∧ C.N[i]? = some x ∧ visB C.sc x = true ∧ okL C es xs = true ∧ es.length ≤ 1 ∧ (apos.endLine == cpos.line) = true := by
  unfold okE at h
  split at h
  · obtain ⟨h1, h2⟩ := and2 h
    obtain ⟨h2, h3⟩ := and2 h2
    obtain ⟨h3, h4⟩ := and2 h3
    obtain ⟨h4, h5⟩ := and2 h4
    obtain ⟨h5, h6⟩ := and2 h5
    have := of_decide_eq_true h1
    subst this
    exact ⟨_, _, _, _, _, rfl, of_decide_eq_true h2, h3, h4, of_decide_eq_true h5, h6⟩
  · cases h
theorem lc_inv {C : CEnv} {elt : CE} {tg : Tg} {it : CI} {c : Option CE} {e : Expr} (h : okE C (.lc elt tg it c) e = true) : ∃ x t i ifs sc' pos, e = .ListComp x [⟨t, i, ifs, 0⟩] sc' pos ∧ C.cool = true ∧ okI C t it i = true ∧ blkC C.N C.sc sc' (tg.own C) = true ∧ (tg.own C).map (·.2) = tg.slots ∧
    tg.ok { C with sc := relS sc' C.sc, cl := cellsOf sc' } t = true ∧ okC { C with sc := relS sc' C.sc, cl := cellsOf sc' } c ifs = true ∧ okE { C with sc := relS sc' C.sc, cl := cellsOf sc' } elt x = true := by
  unfold okE at h
  split at h
  · obtain ⟨h0, h⟩ := and2 h
    obtain ⟨h1, h2⟩ := and2 h
    obtain ⟨h2, h3⟩ := and2 h2
    obtain ⟨h3, h4⟩ := and2 h3
    obtain ⟨h4, h5⟩ := and2 h4
    obtain ⟨h5, h6⟩ := and2 h5
    exact ⟨_, _, _, _, _, _, rfl, h0, h1, h2, of_decide_eq_true h3, h4, h5, h6⟩
  · cases h
theorem xis_inv {C : CEnv} {i : Nat} {x : Str} {e : Expr} (h : okE C (.xis i x) e = true) : ∃ f p n p1 p2 pos, e = .Call (.Name f p) [.Name n p1, .Name x p2] [] pos ∧ nmB C f "isinstance" = true ∧ C.N[i]? = some n ∧ visB C.sc n = true ∧ gloB C.sc x = true ∧ C.cool = false ∧ (x ∈ C.rs ∨ (x = "ValueError" ∧ x ∈ C.bl)) := by
  unfold okE at h
  split at h
  · obtain ⟨h1, h⟩ := and2 h
    obtain ⟨h2, h⟩ := and2 h
    obtain ⟨h3, h⟩ := and2 h
    obtain ⟨h4, h⟩ := and2 h
    obtain ⟨h5, h⟩ := and2 h
    obtain ⟨h6, h7⟩ := and2 h
    have h4 := of_decide_eq_true h4
    subst h4
    exact ⟨_, _, _, _, _, _, rfl, h1, of_decide_eq_true h2, h3, h5, by simpa using h6, (Bool.or_eq_true_iff.mp h7).imp of_decide_eq_true fun z => ⟨of_decide_eq_true (and2 z).1, of_decide_eq_true (and2 z).2⟩⟩
  · cases h
theorem xcl_inv {C : CEnv} {i f : Nat} {e : Expr} (h : okE C (.xcl f i) e = true) : ∃ x p n p1 pos, e = .Call (.Name x p) [.Name n p1] [] pos ∧ C.xk.lookup x = some f ∧ gloB C.sc x = true ∧ C.N[i]? = some n ∧ visB C.sc n = true ∧ C.cool = false := by
  unfold okE at h
  split at h
  · obtain ⟨h1, h⟩ := and2 h
    obtain ⟨h2, h⟩ := and2 h
    obtain ⟨h3, h⟩ := and2 h
    obtain ⟨h4, h5⟩ := and2 h
    exact ⟨_, _, _, _, _, rfl, of_decide_eq_true h1, h2, of_decide_eq_true h3, h4, by simpa using h5⟩
  · cases h
theorem rng_inv {C : CEnv} {tg : Expr} {es : List CE} {e : Expr} (h : okI C tg (.rng es) e = true) : ∃ x p xs pos, e = .Call (.Name x p) xs [] pos ∧ nmB C x "range" = true ∧ okL C es xs = true ∧ (es.length = 1 ∨ es.length = 2 ∨ es.length = 3) := by
  unfold okI at h
  split at h
  · obtain ⟨h1, h2⟩ := and2 h
    obtain ⟨h2, h3⟩ := and2 h2
    exact ⟨_, _, _, _, rfl, h1, h2, by simpa using h3⟩
  · cases h
theorem enm_inv {C : CEnv} {tg : Expr} {a : CE} {e : Expr} (h : okI C tg (.enm a) e = true) : ∃ x p e' pos, e = .Call (.Name x p) [e'] [] pos ∧ nmB C x "enumerate" = true ∧ okE C a e' = true ∧ isTup tg = true := by
  unfold okI at h
  split at h
  · obtain ⟨h1, h2⟩ := and2 h
    obtain ⟨h2, h3⟩ := and2 h2
    exact ⟨_, _, _, _, rfl, h1, h2, h3⟩
  · cases h
theorem rvd_inv {C : CEnv} {tg : Expr} {a : CE} {e : Expr} (h : okI C tg (.rvd a) e = true) : ∃ x p e' pos, e = .Call (.Name x p) [e'] [] pos ∧ nmB C x "reversed" = true ∧ okE C a e' = true := by
  unfold okI at h
  split at h
  · obtain ⟨h1, h2⟩ := and2 h
    exact ⟨_, _, _, _, rfl, h1, h2⟩
  · cases h
theorem zip_inv {C : CEnv} {tg : Expr} {a b : CE} {e : Expr} (h : okI C tg (.zip a b) e = true) : ∃ x p e1 e2 pos, e = .Call (.Name x p) [e1, e2] [] pos ∧ nmB C x "zip" = true ∧ okE C a e1 = true ∧ okE C b e2 = true ∧ isTup tg = true := by
  unfold okI at h
  split at h
  · obtain ⟨h1, h2⟩ := and2 h
    obtain ⟨h2, h3⟩ := and2 h2
    obtain ⟨h3, h4⟩ := and2 h3
    exact ⟨_, _, _, _, _, rfl, h1, h2, h3, h4⟩
  · cases h
theorem dspG_inv {C : CEnv} {t : Bool} {es : List CE} {e : Expr} (h : okE C (.dspG t es) e = true) : ∃ ks vs pos, e = .Dict ks vs pos ∧ okPr C es ks vs = true ∧ es ≠ [] ∧ es.length ≤ 30 := by
  unfold okE at h
  split at h
  · obtain ⟨h1, h2⟩ := and2 h
    obtain ⟨h2, h3⟩ := and2 h2
    exact ⟨_, _, _, rfl, h1, fun z => (by rw [z] at h2; cases h2), of_decide_eq_true h3⟩
  · cases h
theorem okPr_cons {C : CEnv} {k : CE} {r : List CE} {ks : List (Option Expr)} {vs : List Expr} (h : okPr C (k :: r) ks vs = true) : ∃ v r' k' ks' v' vs', r = v :: r' ∧ ks = some k' :: ks' ∧ vs = v' :: vs' ∧ okE C k k' = true ∧ okE C v v' = true ∧ okPr C r' ks' vs' = true := by
  unfold okPr at h
  split at h
  · obtain ⟨h1, h2⟩ := and2 h
    obtain ⟨h2, h3⟩ := and2 h2
    exact ⟨_, _, _, _, _, _, rfl, rfl, rfl, h1, h2, h3⟩
  · cases h
theorem okPr_nil {C : CEnv} {ks : List (Option Expr)} {vs : List Expr} (h : okPr C [] ks vs = true) : ks = [] ∧ vs = [] := by
  obtain ⟨h1, h2⟩ := and2 (show (ks.isEmpty && vs.isEmpty) = true from h)
  exact ⟨List.isEmpty_iff.mp h1, List.isEmpty_iff.mp h2⟩
theorem okPr_len {C : CEnv} : ∀ (es : List CE) {ks : List (Option Expr)} {vs : List Expr}, okPr C es ks vs = true → ks.all (·.isSome) = true ∧ ks.length = vs.length ∧ 2 * ks.length = es.length
  | [], ks, vs, h => by
    obtain ⟨rfl, rfl⟩ := okPr_nil h
    exact ⟨rfl, rfl, rfl⟩
  | [_], ks, vs, h => by
    obtain ⟨v, r', k', ks', v', vs', e, _⟩ := okPr_cons h
    cases e
  | k :: v :: r, ks, vs, h => by
    obtain ⟨v2, r', k', ks', v', vs', e, rfl, rfl, _, _, h3⟩ := okPr_cons h
    cases e
    obtain ⟨q1, q2, q3⟩ := okPr_len r h3
    refine ⟨by rw [List.all_cons, q1]; rfl, by rw [List.length_cons, List.length_cons, q2], by simp only [List.length_cons]; omega⟩
theorem lcD_inv {C : CEnv} {elt : CE} {tg : Tg} {i : Nat} {c : Option CE} {e : Expr} (h : okE C (.lcD elt tg i c) e = true) : ∃ x t y p ifs sc' pos, e = .ListComp x [⟨t, .Name y p, ifs, 0⟩] sc' pos ∧ C.cool = true ∧ C.N[i]? = some y ∧ visB C.sc y = true ∧ blkC C.N C.sc sc' (tg.own C) = true ∧ (tg.own C).map (·.2) = tg.slots ∧
    tg.ok { C with sc := relS sc' C.sc, cl := cellsOf sc' } t = true ∧ okC { C with sc := relS sc' C.sc, cl := cellsOf sc' } c ifs = true ∧ okE { C with sc := relS sc' C.sc, cl := cellsOf sc' } elt x = true := by
  unfold okE at h
  split at h
  · obtain ⟨h0, h⟩ := and2 h
    obtain ⟨h1, h⟩ := and2 h
    obtain ⟨h1', h2⟩ := and2 h
    obtain ⟨h2, h3⟩ := and2 h2
    obtain ⟨h3, h4⟩ := and2 h3
    obtain ⟨h4, h5⟩ := and2 h4
    obtain ⟨h5, h6⟩ := and2 h5
    exact ⟨_, _, _, _, _, _, _, rfl, h0, of_decide_eq_true h1, h1', h2, of_decide_eq_true h3, h4, h5, h6⟩
  · cases h
theorem okI_noSet {C : CEnv} {tg : Expr} {c : CI} {e : Expr} (h : okI C tg c e = true) : noSet e = true := by
  cases c with
  | seq a => exact (and2 h).2
  | rng es => obtain ⟨x, p, xs, pos, rfl, _⟩ := rng_inv h; rfl
  | enm a => obtain ⟨x, p, xs, pos, rfl, _⟩ := enm_inv h; rfl
  | zip a b => obtain ⟨x, p, e1, e2, pos, rfl, _⟩ := zip_inv h; rfl
  | rvd a => obtain ⟨x, p, xs, pos, rfl, _⟩ := rvd_inv h; rfl
  | dky i => cases h
/-- a list, a tuple, in hand: its iterator -/
theorem il_of {X : Cx} {pins : List (Addr × Obj)} {σ : SV} {H1 : Hp} {R : It → Hp → Prop} {tg : Expr} {x : V} {v : Value} {s1 : Shared} (I1 : Inv X pins σ H1 s1) (r1 : RelV x v) (q1 : ∃ p, x = .ref p ∧ (∃ xs, SqL X.K H1 p xs) ∧ R (Itl X.K p) H1) :
    wpAny (model X.prog X.w) X.A (pyIter v) (PIE X pins σ tg R) X.xe s1 := by
  obtain ⟨a, rfl, ⟨xs, hq⟩, q⟩ := q1
  obtain rfl : v = Value.ref a := r1
  obtain ⟨its, rv, pl, hz⟩ := I1.list hq
  refine wpAny_pyIter_list pl.isList ⟨s1.heap.objs.size, [s1.heap.objs.size], _, _, H1, rfl, I1.kept (t' := s1.toks) fun b o z => Heap.get?_push_of_some _ z, turn_list a _, ⟨_, Heap.get?_push_size _ rfl, rfl, rfl⟩, fun b hb => ?_, q⟩
  rw [List.mem_singleton.mp hb]
  exact I1.fpOk (Nat.le_refl _) (I1.hok.fresh (Nat.le_refl _))
theorem it_of {X : Cx} {pins : List (Addr × Obj)} {σ : SV} {H1 : Hp} {R : It → Hp → Prop} {tg : Expr} {x : V} {v : Value} {s1 : Shared} (I1 : Inv X pins σ H1 s1) (r1 : RelV x v) (q1 : ∃ p, x = .ref p ∧ (∃ xs, SqT X.K H1 p xs) ∧ R (Itt X.K p) H1) :
    wpAny (model X.prog X.w) X.A (pyIter v) (PIE X pins σ tg R) X.xe s1 := by
  obtain ⟨a, rfl, ⟨xs, hq⟩, q⟩ := q1
  obtain rfl : v = Value.ref a := r1
  obtain ⟨its, rv, pl, hz⟩ := I1.tuple hq
  refine wpAny_pyIter_tuple (show s1.heap.IsTuple a its.toArray from pl) ⟨s1.heap.objs.size, [s1.heap.objs.size], _, _, H1, rfl, I1.kept (t' := s1.toks) fun b o z => Heap.get?_push_of_some _ z, turn_tuple a _, ⟨_, Heap.get?_push_size _ rfl, rfl, rfl⟩, fun b hb => ?_, q⟩
  rw [List.mem_singleton.mp hb]
  exact I1.fpOk (Nat.le_refl _) (I1.hok.fresh (Nat.le_refl _))
end
end VL
/-! VLS: sorted(set(..)) of a tuple of whole numbers. -/
namespace VL
open PySem PySem.Spec L2 PyProof.Rows
theorem insU_mem {x y : Int} : ∀ {l : List Int}, y ∈ insU x l ↔ y = x ∨ y ∈ l
  | [] => by simp [insU]
  | z :: r => by
    unfold insU
    split
    · simp
    · split
      · rename_i h; subst h; simp
      · rw [List.mem_cons, insU_mem, List.mem_cons]
        exact ⟨fun h => by rcases h with h | h | h <;> simp [h], fun h => by rcases h with h | h | h <;> simp [h]⟩
theorem insU_up {x : Int} : ∀ {l : List Int}, l.Pairwise (· < ·) → (insU x l).Pairwise (· < ·)
  | [], _ => List.pairwise_singleton _ _
  | z :: r, h => by
    obtain ⟨h1, h2⟩ := List.pairwise_cons.mp h
    unfold insU
    split
    · rename_i hx
      refine List.pairwise_cons.mpr ⟨fun y hy => ?_, h⟩
      rcases List.mem_cons.mp hy with rfl | hy
      · exact hx
      · exact Int.lt_trans hx (h1 y hy)
    · split
      · exact h
      · refine List.pairwise_cons.mpr ⟨fun y hy => ?_, insU_up h2⟩
        rcases insU_mem.mp hy with rfl | hy
        · omega
        · exact h1 y hy
theorem setI_up : ∀ l : List Int, (setI l).Pairwise (· < ·)
  | [] => List.Pairwise.nil
  | x :: r => insU_up (setI_up r)
theorem setI_mem {y : Int} : ∀ {l : List Int}, y ∈ setI l ↔ y ∈ l
  | [] => Iff.rfl
  | x :: r => by
    show y ∈ insU x (setI r) ↔ _
    rw [insU_mem, setI_mem, List.mem_cons]
theorem up_same : ∀ {a b : List Int}, a.Pairwise (· < ·) → b.Pairwise (· < ·) → (∀ x, x ∈ a ↔ x ∈ b) → a = b
  | [], [], _, _, _ => rfl
  | [], y :: b, _, _, h => absurd ((h y).mpr List.mem_cons_self) (by simp)
  | x :: a, [], _, _, h => absurd ((h x).mp List.mem_cons_self) (by simp)
  | x :: a, y :: b, ha, hb, h => by
    obtain ⟨a1, a2⟩ := List.pairwise_cons.mp ha
    obtain ⟨b1, b2⟩ := List.pairwise_cons.mp hb
    have e : x = y := by
      rcases List.mem_cons.mp ((h x).mp List.mem_cons_self) with e | e
      · exact e
      · rcases List.mem_cons.mp ((h y).mpr List.mem_cons_self) with e' | e'
        · exact e'.symm
        · have := b1 x e
          have := a1 y e'
          omega
    subst e
    rw [up_same a2 b2 fun z => ⟨fun hz => ?_, fun hz => ?_⟩]
    · rcases List.mem_cons.mp ((h z).mp (List.mem_cons_of_mem _ hz)) with e | e
      · have := a1 z hz
        omega
      · exact e
    · rcases List.mem_cons.mp ((h z).mpr (List.mem_cons_of_mem _ hz)) with e | e
      · have := b1 z hz
        omega
      · exact e
section
variable {X : Cx}
def tSrt (K : PySem.W.Frag) (ta : TE) : TE := fun σ H Q => ta σ H fun x H1 => ∃ (l : Addr) (ns : List Int), x = V.ref l ∧ SqT K H1 l (ns.map V.int) ∧ ns.length < 64 ∧
  ∀ (ms : List Int) (p : Addr), ms.Pairwise (· < ·) → (∀ k, k ∈ ms ↔ k ∈ ns) → H1 p = none → Q (.ref p) (upd H1 p (.lst (ms.map V.int)))
theorem pe_srt {a : Expr} {ta : TE} {p p2 q pos : Pos} (hc : X.calm = true) (hg : Gl X "sorted") (hm : X.mg "sorted" = none) (hg2 : Gl X "set") (hm2 : X.mg "set" = none) (ha : PE X a ta)
    (na : starEach [a] X.env = (false, eval a X.env) :: starEach [] X.env) : PE X (.Call (.Name "sorted" p) [.Call (.Name "set" p2) [a] [] q] [] pos) (tSrt X.K ta) := by
  refine ⟨fun pins s σ H Q I h => ?_⟩
  refine Call_ (ld_blt I hg hm (show bootBuiltins "sorted" = some (.builtin "sorted") by decide +kernel) ?_)
  refine PyProof.Rows.callWith_builtin1 (PyProof.Rows.args_cons ?_ rfl) rfl rfl
  refine Call_ (ld_blt I hg2 hm2 PyProof.Rows.boot_set ?_)
  refine PyProof.Rows.callWith_type1 (PyProof.Rows.args_cons (thn (ha.run pins s σ H _ I h) fun v s1 ⟨x, H1, I1, r1, q1⟩ => PyProof.Rows.args_nil ?_) na) na rfl
  obtain ⟨l, ns, rfl, hq, h1, q1⟩ := q1
  cases r1
  obtain ⟨its, rv, pt, hz⟩ := I1.tuple hq
  have hi : IntsAre its.toArray.toList ns := ints_of_vals rv
  have hd := I1.ok.hd hc
  refine call_set_tupI ns hd (show s1.heap.IsTuple l its.toArray from pt) hi (by unfold scanBound; omega) fun h' tk c R1 hcn k => ?_
  refine PyProof.Rows.args_nil ?_
  have I2 : Inv X pins σ H1 { s1 with heap := h', toks := tk } := I1.kept fun b o e => k b o e
  refine sorted_set R1 (I2.ok.hd hc) (by omega) fun s' p' out c' ns' k' g o hp hg' hi' hs hm' hl => ?_
  have hlen : (ns'.map V.int).length ≤ sizeLine := by rw [List.length_map, hl, sizeLine_eq]; omega
  have hn : H1 p' = none := I2.hok.fresh hp
  have J : Inv X pins σ (upd H1 p' (.lst (ns'.map V.int))) { ({ s1 with heap := h', toks := tk } : Shared) with heap := s'.heap, gens := s'.gens, drawn := s'.drawn, toks := s'.toks } :=
    I2.call (ch := []) (Un.laid k' hp hn) (I2.hok.laid k' hp ⟨hlen, out.toList, c', vals_of_ints hi', hg'⟩) (by rw [g]; exact I2.bare) (fun _ z => nomatch z)
  have e : s' = { ({ s1 with heap := h', toks := tk } : Shared) with heap := s'.heap, gens := s'.gens, drawn := s'.drawn, toks := s'.toks } := by
    cases s'
    cases s1
    cases o
    rfl
  rw [e]
  exact ⟨.ref p', _, J, rfl, q1 ns' p' hs (fun j => by rw [hm' j, decide_eq_true_eq]) hn⟩
end
section
variable {T : Tb} {Y : YW} {σ : SV} {H : Hp} {Q : VK}
theorem tE_srt {a : CE} (h : tEK Y T (.srt a) σ H Q) : tSrt Y.K (tEK Y T a) σ H Q := by
  obtain ⟨F, env, hK, S, h⟩ := h
  refine ⟨F, env, hK, S, h.seq (fun _ z => z) ?_⟩
  rintro ⟨ra, e1⟩ _ h x H1 p1
  obtain ⟨da, h3, h⟩ := h.pure (nx_frc ..)
  obtain ⟨ns, h4, hA⟩ := h.ofO
  obtain ⟨c, hB⟩ := hA.chk
  have w := (p1.valS S).w p1.sim h3
  cases da with
  | tup ds =>
    obtain ⟨l, xs, rfl, e, rl⟩ := w.tup
    obtain rfl := mapM_int h4
    obtain rfl := rl.ints
    refine ⟨l, ns, rfl, SqT.of e, of_decide_eq_true c, fun ms p h1 h2 hp => ?_⟩
    have hs : ms = setI ns := up_same h1 (setI_up ns) fun k => (h2 k).trans setI_mem.symm
    subst hs
    exact hB _ _ (PostE.newL p1.sim p1.1 hp RepL.ofInts)
  | _ => cases h4
end
end VL
/-! VLX: calls while an exception is handled. -/
namespace VL
open PySem PySem.Spec L2
section
variable {X : Cx} {CT : CXT} {k : Nat} {f : Addr} {fd : FuncData} {ps : List Str} {sp : Addr × Obj → Sp} {E : L2.St → XK} {x : Str} {q pos : Pos} {e : Expr} {es : List Expr} {t : TA} {p : Addr × Obj}
/-- the call itself: the pinned exception is told to the callee -/
theorem run_fnE {pins : List (Addr × Obj)} {σ : L2.St} {H : Hp} {s : Shared} {Q : VK} {us : List Value} {vs : List V} (F : FnE X.prog X.w X.K X.mg X.base CT k f fd ps sp) (room : L2H.RoomH k X.A) (hot : L2H.Hot1 X.A p) (hp : p ∈ X.pn)
    (bd : Binds X.K fd ps []) (hx : PassesAt CT X σ (E σ)) (I : Inv X pins σ H s) (r : Vals vs us) (hsp : sp p vs H Q (E σ)) : wpAny (model X.prog X.w) X.A (call (.ref f) us) (EP X pins σ Q) X.xe s := by
  have len : us.length = ps.length := r.length.symm.trans (F.le _ _ _ _ _ hsp)
  have bt := bd s us I.kIn (by simpa using len)
  simp only [List.append_nil] at bt
  obtain ⟨p1, p2, p3, p4, p5⟩ := I.pin p (List.mem_append_left _ hp)
  have pin : L2H.PinOk X.stack H s p := by
    refine ⟨p1, p2, fun hm => ?_, p5⟩
    rcases List.mem_cons.mp (I.stkSub p.1 hm) with z | z
    · exact p3 z
    · exact p4 z
  have run := F.go X.A X.stack s H ⟨us, []⟩ us vs Q (E σ) p room hot pin I.env0 bt r hsp
  refine wpAny_call (codeAny_mono run ?_)
  intro res s' hq
  match res, hq with
  | .error err, hq => exact hx pins H s err s' I hq
  | .ok (.ret u), hq => exact I.after hq
  | .ok .next, hq => exact hq.elim
  | .ok .brk, hq => exact hq.elim
  | .ok .cont, hq => exact hq.elim
theorem pe_callE (F : FnE X.prog X.w X.K X.mg X.base CT k f fd ps sp) (room : L2H.RoomH k X.A) (hot : L2H.Hot1 X.A p) (hp : p ∈ X.pn) (hg : Gl X x) (hm : X.mg x = some (.ref f)) (kp : PySem.W.keepIn X.K (.ref f) = true)
    (bd : Binds X.K fd ps []) (hx : ∀ σ, PassesAt CT X σ (E σ)) (ha : PA X (e :: es) t) (hdb : (x == ("__debug__" : Str)) = false) (he : starEach (e :: es) X.env = (false, eval e X.env) :: starEach es X.env) (hpl : (backTo pos (starEach es X.env)).any (·.1) = false) :
    PE X (.Call (.Name x q) (e :: es) [] pos) (tCallS (sp p) E t) := by
  constructor
  intro pins s σ H Q I h
  refine wpAny_Call_Name_kw (ld_glob I hg hm ?_ hdb)
  refine PySem.W.callWith_K (h₀ := X.base) I.ok.mod.kin kp ?_ he hpl
  refine thn (ha.run pos pins s σ H _ I h) ?_
  rintro us s1 ⟨vs, H1, I1, r, z⟩
  exact ⟨I1.kIn, run_fnE F room hot hp bd (hx σ) I1 r z⟩
end
section
variable {X : Cx} {CT : CXT} {k : Nat} {f : Addr} {fd : FuncData} {ps : List Str} {sp : Sp} {E : L2.St → XK} {x : Str} {q pos : Pos} {e : Expr} {es : List Expr} {t : TA}
theorem run_fnG {pins : List (Addr × Obj)} {σ : L2.St} {H : Hp} {s : Shared} {Q : VK} {us : List Value} {vs : List V} (F : FnG X.prog X.w X.K X.mg X.base CT k f fd ps sp) (room : Room k X.A) (gd : X.A.guards = some [])
    (bd : Binds X.K fd ps []) (hx : PassesAt CT X σ (E σ)) (I : Inv X pins σ H s) (r : Vals vs us) (hsp : sp vs H Q (E σ)) : wpAny (model X.prog X.w) X.A (call (.ref f) us) (EP X pins σ Q) X.xe s := by
  have len : us.length = ps.length := r.length.symm.trans (F.le _ _ _ _ hsp)
  have bt := bd s us I.kIn (by simpa using len)
  simp only [List.append_nil] at bt
  have run := F.go X.A X.stack s H ⟨us, []⟩ us vs Q (E σ) room gd I.env0 bt r hsp
  refine wpAny_call (codeAny_mono run ?_)
  intro res s' hq
  match res, hq with
  | .error err, hq => exact hx pins H s err s' I hq
  | .ok (.ret u), hq => exact I.after hq
  | .ok .next, hq => exact hq.elim
  | .ok .brk, hq => exact hq.elim
  | .ok .cont, hq => exact hq.elim
theorem pe_callG (F : FnG X.prog X.w X.K X.mg X.base CT k f fd ps sp) (room : Room k X.A) (gd : X.A.guards = some []) (hg : Gl X x) (hm : X.mg x = some (.ref f)) (kp : PySem.W.keepIn X.K (.ref f) = true)
    (bd : Binds X.K fd ps []) (hx : ∀ σ, PassesAt CT X σ (E σ)) (ha : PA X (e :: es) t) (hdb : (x == ("__debug__" : Str)) = false) (he : starEach (e :: es) X.env = (false, eval e X.env) :: starEach es X.env) (hpl : (backTo pos (starEach es X.env)).any (·.1) = false) :
    PE X (.Call (.Name x q) (e :: es) [] pos) (tCallS sp E t) := by
  constructor
  intro pins s σ H Q I h
  refine wpAny_Call_Name_kw (ld_glob I hg hm ?_ hdb)
  refine PySem.W.callWith_K (h₀ := X.base) I.ok.mod.kin kp ?_ he hpl
  refine thn (ha.run pos pins s σ H _ I h) ?_
  rintro us s1 ⟨vs, H1, I1, r, z⟩
  exact ⟨I1.kIn, run_fnG F room gd bd (hx σ) I1 r z⟩
end
/-! ### i in range(n) -/
def inOp (t : Bool) : CmpOp := if t then .NotIn else .In
section
variable {prog : Program} {w : World} {A : Around} {E : Value → Shared → Prop} {s : Shared} {Q : Value → Shared → Prop}
theorem in_rg {r : Addr} {lo hi i : Int} {t u v k : Tok} (ho : IsRange s.heap r lo hi 1 t u v) (neg : Bool) (q : Q (.bool (decide (lo ≤ i ∧ i < hi) != neg)) s) : wpAny (model prog w) A (compareOp (inOp neg) (.int i k) (.ref r)) Q E s := by
  have ho : s.heap.get? r = some { cls := .type "range", dict := none, data := .fields #[.int lo t, .int hi u, .int 1 v], slots := #[] } := ho
  have main : ∀ Q' : Bool → Shared → Prop, Q' (decide (lo ≤ i ∧ i < hi)) s → wpAny (model prog w) A (contains (Value.ref r) (Value.int i k)) Q' E s := fun Q' q' => by
    refine wpAny_contains_slot (T := "range") ⟨_, ho, rfl⟩ F.slot_range_contains (call_meets F.slot_range_contains ⟨_, ho, rfl⟩ F.entry_range_contains (F.args_range_contains_2 _ _) (q_contains r lo hi i t u v k)
      ⟨ho, wpAny_truthy_bool ?_⟩)
    rw [place1]
    exact q'
  cases neg with
  | false =>
    show wpAny _ _ (do return Value.bool (← contains (Value.ref r) (Value.int i k))) _ _ s
    exact wpAny_bind (main _ (wpAny_pure (by simpa using q)))
  | true =>
    show wpAny _ _ (do return Value.bool (!(← contains (Value.ref r) (Value.int i k)))) _ _ s
    exact wpAny_bind (main _ (wpAny_pure (by simpa using q)))
end
def tInR (neg : Bool) (ta : TE) (tb : St → Hp → (Int → Int → Hp → Prop) → Prop) : TE := fun σ H Q => ta σ H fun x H1 => tb σ H1 fun lo hi H2 => ∃ i, x = .int i ∧ Q (.bl (decide (lo ≤ i ∧ i < hi) != neg)) H2
section
variable {X : Cx} {a b : Expr} {ta : TE} {tb : St → Hp → (Int → Int → Hp → Prop) → Prop} {pos : Pos} {neg : Bool}
theorem pe_inR (ha : PE X a ta) (hb : PRg X b tb) (hm : behindInMarks (inOp neg) b = false) : PE X (.Compare a [inOp neg] [b] pos) (tInR neg ta tb) := by
  refine ⟨fun pins s σ H Q I h => wpAny_Compare1 ?_ hm⟩
  refine thn (ha.run pins s σ H _ I h) fun v s1 ⟨x, H1, I1, r1, q1⟩ => ?_
  refine thn (hb pins s1 σ H1 _ I1 q1) fun u s2 ⟨r, lo, hi, t1, t2, t3, H2, hr, ho, I2, i, hx, q2⟩ => ?_
  subst hr hx
  obtain ⟨k, rfl⟩ := r1
  exact in_rg ho neg ⟨.bl _, H2, I2, rfl, q2⟩
theorem pt_inR (ha : PE X a ta) (hb : PRg X b tb) (hm : behindInMarks (inOp neg) b = false) : PT X (.Compare a [inOp neg] [b] pos) (tTest (tInR neg ta tb)) := by
  refine ⟨fun pins s σ H Q I h => wpAny_isTrue_Compare1 ?_ hm⟩
  refine thn (ha.run pins s σ H _ I h) fun v s1 ⟨x, H1, I1, r1, q1⟩ => ?_
  refine thn (hb pins s1 σ H1 _ I1 q1) fun u s2 ⟨r, lo, hi, t1, t2, t3, H2, hr, ho, I2, i, hx, q2⟩ => ?_
  subst hr hx
  obtain ⟨k, rfl⟩ := r1
  obtain ⟨k', e, q2⟩ := q2
  cases e
  exact in_rg ho neg (wpAny_truthy_bool ⟨H2, I2, q2⟩)
end
section
variable {T : Tb} {Y : YW} {σ : SV} {H : Hp} {Q : VK}
theorem tEK.mono {c : CE} {Q' : VK} (h : tEK Y T c σ H Q) (k : ∀ v H', Q v H' → Q' v H') : tEK Y T c σ H Q' := by
  obtain ⟨F, env, hK, S, h⟩ := h
  exact ⟨F, env, hK, S, h.mono (fun p _ q v H' z => k v H' (q v H' z)) fun _ z => z⟩
theorem tE_inR {t : Bool} {a b : CE} (h : tEK Y T (.inr t a b) σ H Q) : tInR t (tEK Y T a) (tRg1 (tEK Y T b)) σ H Q :=
  (tE_inr h).mono fun x H1 q => q.mono fun y H2 ⟨i, n, e1, e2, z⟩ => ⟨n, e2, i, e1, z⟩
end
section
variable {T : Tb} {W : WX} {xa : Addr}
/-- isinstance(e, C), e the exception that is handled -/
def rIsX (K : PySem.W.Frag) (D a : Addr) : List V → Hp → VK → Prop := fun xs H Q => ∃ (c : V) (cv : Value) (b : Bool), xs = [.ref a, c] ∧ RelV c cv ∧ (∀ u, RelV c u → u = cv) ∧ PySem.W.kitOne K (.ref D) cv = some b ∧ Q (.bl b) H
theorem call_isX {X : Cx} {a D : Addr} {o : Obj} (C : ExcC X.K D) (hp : (a, o) ∈ X.pn) (hz : L2N.Zn (.ref D) none o) (hd : ∃ vs, o.data = .fields vs) : CallR X (.builtin "isinstance") (rIsX X.K D a) := by
  intro pins s σ H xs us Q I r hyp
  obtain ⟨c, cv, b, rfl, _, hcv, e, q⟩ := hyp
  cases r with
  | cons rx rr =>
    obtain ⟨v, rfl, rt⟩ := vals1 rr
    cases rx
    have ec := hcv _ rt
    subst ec
    have hget := (I.pin (a, o) (List.mem_append_left _ hp)).1
    obtain ⟨vs, hv⟩ := hd
    have J : PySem.W.InstAt s.heap a o D none := by
      obtain ⟨oc, od, oda, osl⟩ := o
      obtain ⟨h1, h2, _⟩ := hz
      dsimp only at h1 h2 hv
      subst h1 h2 hv
      exact ⟨hget, rfl, rfl, trivial⟩
    refine PySem.W.kia_one (PySem.W.handS_kitx_exc C.hg C.hk C.hs C.hd C.ha C.hn C.ht C.hm) I.kIn J e (fun z => nomatch z) ?_
    intro tk
    exact ⟨.bl b, H, I.kept (t' := tk) fun _ _ z => z, rfl, q⟩
end
section
variable {T : Tb} {Y : YW} {σ : SV} {H : Hp} {Q : VK}
theorem tE_xis {i : Nat} {x : Str} {c : Ex} {D : Addr} {cl : TE} {cv : V} {cw : Value} (hc : T.cur = some c) (hv : RelV cv cw) (hu : ∀ u, RelV cv u → u = cw) (hk : PySem.W.kitOne Y.K (.ref D) cw = some (xsub c.cls x)) (hcl : ∀ {H : Hp} {Q : VK}, Q cv H → cl σ H Q) (h : tEK Y T (.xis i x) σ H Q) :
    tCB (rIsX Y.K D Y.xa) (tCons (tVar i) (tCons cl tNil)) σ H Q := by
  obtain ⟨F, env, hK, S, h⟩ := h
  have h : WPr (match env[i]?, T.cur with
    | some .xc, some c => (.ok (.dat (.bl (xsub c.cls x)), env) : Res (R × EnvD))
    | _, _ => .fail) (fun p => ∀ v H', PostE F env σ H p.1 p.2 v H' → Q v H') (XP Y F env σ H) := h
  rw [hc] at h
  cases q : env[i]? with
  | none => rw [q] at h; exact h.elim
  | some s =>
    rw [q] at h
    cases s <;> first
      | (exact h.elim; done)
      | skip
    have e1 := S.xc i q
    rw [hK.xa] at e1
    refine ⟨_, e1, hcl ⟨cv, cw, _, rfl, hv, hu, hk, h _ _ ⟨Step.refl, S, rfl⟩⟩⟩
theorem tE_xcl {xs : List Str} {i f : Nat} {c : Ex} {D : Addr} {o : Obj} (hc : T.cur = some c) (ho : XObj Y.mg xs c D o) (h : tEK Y T (.xcl f i) σ H Q) :
    tCallS (spX Y.K Y.mg xs (T.callX f) (Y.xa, o)) (fun σ C d H' => Y.W C d σ H') (tCons (tVar i) tNil) σ H Q := by
  obtain ⟨F, env, hK, S, h⟩ := h
  have h : WPr (match env[i]?, T.cur with
    | some .xc, some c => ((do
      let q ← noX (T.callX f c)
      chk (!q.own && q.d.pure && q.ios.isEmpty)
      .ok (.dat q.d, env)) : Res (R × EnvD))
    | _, _ => .fail) (fun p => ∀ v H', PostE F env σ H p.1 p.2 v H' → Q v H') (XP Y F env σ H) := h
  rw [hc] at h
  cases q : env[i]? with
  | none => rw [q] at h; exact h.elim
  | some s =>
    rw [q] at h
    cases s <;> first
      | (exact h.elim; done)
      | skip
    obtain ⟨q1, hq, h⟩ := WPr.pure (nx_noX _) h
    have hq := noX_eq hq
    obtain ⟨c1, h⟩ := h.chk
    obtain ⟨c1, c3⟩ := and2 c1
    obtain ⟨c1, c2⟩ := and2 c1
    have e1 := S.xc i q
    rw [hK.xa] at e1
    refine ⟨_, e1, rfl, c, D, q1, ho, hq, ⟨by simpa using c1, c2⟩, fun v H' hx rv => ?_⟩
    obtain ⟨S2, st2⟩ := S.ext hx
    refine h _ _ ⟨st2, S2, ?_⟩
    exact Rep.pure S2.notup c2 (Rep.mv (M := ⟨Y.K, fun _ => False⟩) (M' := ⟨F.K, fun _ => False⟩) ⟨hK.K, fun b o z n => ⟨z, n⟩⟩ rv)
end
end VL
/-! VLW: walks over dicts: the dict is locked for the time. -/
namespace VL
open PySem PySem.Spec L2
/-- what may be read of data in the one heap may be so in the other -/
structure Like (H H' : Hp) : Prop where
  lst : ∀ b xs, H b = some (.lst xs) → H' b = some (.lst xs)
  tup : ∀ b xs, H b = some (.tup xs) → H' b = some (.tup xs)
  frz : ∀ b o xs, H b = some (.frz o (.lst xs)) → H' b = some (.frz o (.lst xs))
  dK : ∀ b ks, Rd H b (.dK ks) → Rd H' b (.dK ks)
  dT : ∀ b ks, Rd H b (.dT ks) → Rd H' b (.dT ks)
section
variable {M : Av} {H H' : Hp}
mutual
theorem Rep.like (k : Like H H') : ∀ {d : D} {v : V}, Rep M H d v → Rep M H' d v
  | .non, _, h => h
  | .bl _, _, h => h
  | .int _, _, h => h
  | .str _, _, h => h
  | .tup ds, _, ⟨a, xs, e, h, m, r⟩ => ⟨a, xs, e, k.tup _ _ h, m, RepL.like k r⟩
  | .lst ds, _, ⟨a, xs, e, h, m, r⟩ => ⟨a, xs, e, k.lst _ _ h, m, RepL.like k r⟩
  | .dK kvs, _, ⟨a, xs, e, h, m, r⟩ => ⟨a, xs, e, k.dK _ _ h, m, RepK.like k r⟩
  | .dT kvs, _, ⟨a, xs, e, h, m, r⟩ => ⟨a, xs, e, k.dT _ _ h, m, RepT.like k r⟩
  | .scr ns, _, ⟨a, e, h⟩ => ⟨a, e, h.elim (fun ⟨o, q, m⟩ => .inl ⟨o, k.frz _ _ _ q, m⟩) .inr⟩
termination_by structural d => d
theorem RepL.like (k : Like H H') : ∀ {ds : List D} {xs : List V}, RepL M H ds xs → RepL M H' ds xs
  | [], _, h => h
  | d :: ds, _, ⟨v, vs, e, h, r⟩ => ⟨v, vs, e, Rep.like k h, RepL.like k r⟩
termination_by structural d => d
theorem RepK.like (k : Like H H') : ∀ {ds : List (Key × D)} {xs : List (Key × V)}, RepK M H ds xs → RepK M H' ds xs
  | [], _, h => h
  | p :: ds, _, ⟨v, vs, e, h, r⟩ => ⟨v, vs, e, RepP.like k h, RepK.like k r⟩
termination_by structural d => d
theorem RepP.like (k : Like H H') : ∀ {p : Key × D} {v : V}, RepP M H p v → RepP M H' p v
  | (_, d), _, h => Rep.like (d := d) k h
termination_by structural d => d
theorem RepT.like (k : Like H H') : ∀ {ds : List (List Key × D)} {xs : List (List Key × V)}, RepT M H ds xs → RepT M H' ds xs
  | [], _, h => h
  | p :: ds, _, ⟨v, vs, e, h, r⟩ => ⟨v, vs, e, RepQ.like k h, RepT.like k r⟩
termination_by structural d => d
theorem RepQ.like (k : Like H H') : ∀ {p : List Key × D} {v : V}, RepQ M H p v → RepQ M H' p v
  | (_, d), _, h => Rep.like (d := d) k h
termination_by structural d => d
end
theorem OwnRep.like (k : Like H H') {d : D} {a : Addr} (e : H' a = H a) (h : OwnRep M H d a) : OwnRep M H' d a := by
  cases d with
  | lst ds => obtain ⟨xs, h, r⟩ := h; exact ⟨xs, e.trans h, r.like k⟩
  | dK ds => obtain ⟨xs, h, r⟩ := h; exact ⟨xs, e.trans h, r.like k⟩
  | dT ds => obtain ⟨xs, h, r⟩ := h; exact ⟨xs, e.trans h, r.like k⟩
  | _ => exact h.elim
end
/-- a dict -/
def DHo (u : HO) : Prop := (∃ ks, u = .dK ks) ∨ ∃ ks, u = .dT ks
theorem DHo.mut {u : HO} (h : DHo u) : Mut (some u) := by
  rcases h with ⟨ks, rfl⟩ | ⟨ks, rfl⟩ <;> trivial
theorem DHo.lst {u : HO} (h : DHo u) (xs : List V) : u ≠ .lst xs := by rcases h with ⟨ks, rfl⟩ | ⟨ks, rfl⟩ <;> simp
theorem DHo.tup {u : HO} (h : DHo u) (xs : List V) : u ≠ .tup xs := by rcases h with ⟨ks, rfl⟩ | ⟨ks, rfl⟩ <;> simp
theorem DHo.frz {u : HO} (h : DHo u) (o : Obj) (x : HO) : u ≠ .frz o x := by rcases h with ⟨ks, rfl⟩ | ⟨ks, rfl⟩ <;> simp
section
variable {H : Hp} {a : Addr} {u : HO} {od : Obj}
theorem rd_lock (e : H a = some u) (du : DHo u) {b : Addr} {t : HO} (r : Rd H b t) : Rd (upd H a (.frz od u)) b t := by
  by_cases hb : b = a
  · subst hb
    rcases r with r | ⟨o, r⟩
    · rw [e] at r
      cases r
      exact .inr ⟨od, upd_same⟩
    · rw [e] at r
      exact absurd (Option.some.inj r) (du.frz _ _)
  · rcases r with r | ⟨o, r⟩
    · exact .inl (by rw [upd_ne hb]; exact r)
    · exact .inr ⟨o, by rw [upd_ne hb]; exact r⟩
theorem like_lock (e : H a = some u) (du : DHo u) : Like H (upd H a (.frz od u)) where
  lst := fun b xs h => by rw [upd_ne (fun z => by subst z; rw [e] at h; exact du.lst _ (Option.some.inj h))]; exact h
  tup := fun b xs h => by rw [upd_ne (fun z => by subst z; rw [e] at h; exact du.tup _ (Option.some.inj h))]; exact h
  frz := fun b o xs h => by rw [upd_ne (fun z => by subst z; rw [e] at h; exact du.frz _ _ (Option.some.inj h))]; exact h
  dK := fun b ks r => rd_lock e du r
  dT := fun b ks r => rd_lock e du r
theorem rd_unlk (e : H a = some (.frz od u)) {b : Addr} {t : HO} (dt : DHo t) (r : Rd H b t) : Rd (upd H a u) b t := by
  by_cases hb : b = a
  · subst hb
    rcases r with r | ⟨o, r⟩
    · rw [e] at r
      exact absurd (Option.some.inj r).symm (dt.frz _ _)
    · rw [e] at r
      cases r
      exact .inl upd_same
  · rcases r with r | ⟨o, r⟩
    · exact .inl (by rw [upd_ne hb]; exact r)
    · exact .inr ⟨o, by rw [upd_ne hb]; exact r⟩
theorem like_unlk (e : H a = some (.frz od u)) (du : DHo u) : Like H (upd H a u) where
  lst := fun b xs h => by rw [upd_ne (fun z => by subst z; rw [e] at h; cases h)]; exact h
  tup := fun b xs h => by rw [upd_ne (fun z => by subst z; rw [e] at h; cases h)]; exact h
  frz := fun b o xs h => by rw [upd_ne (fun z => by
    subst z; rw [e] at h
    exact du.lst xs (HO.frz.inj (Option.some.inj h)).2)]; exact h
  dK := fun b ks r => rd_unlk e (.inl ⟨_, rfl⟩) r
  dT := fun b ks r => rd_unlk e (.inr ⟨_, rfl⟩) r
end
/-- the frame with the thing at a known as w -/
def Fr.lk (F : Fr) (a : Addr) (w : HO) : Fr := { F with H0 := fun b => if b = a then some w else F.H0 b }
theorem Sim.swap {F : Fr} {f g : Hp} {env : EnvD} {σ : SV} {H H' : Hp} {a : Addr} (S : Sim { F with H0 := f } env σ H) (L : Like H H') (hb : ∀ b, b ≠ a → H' b = H b) (na : ¬ Mx F env σ a) (h0 : ∀ b, b ≠ a → f b = none → g b = none)
    (hk : ∀ b o, g b = some o → (∀ i, F.io i ≠ some b) → H' b = some o) : Sim { F with H0 := g } env σ H' := by
  have ow : ∀ {i : Nat} {s : Slot} {d : D} {b : Addr}, env[i]? = some s → s.held = some d → σ[i]? = some (some (V.ref b)) → b ≠ a := fun e h q z => na (.inr ⟨_, _, _, e, h, by rw [← z]; exact q⟩)
  refine ⟨S.len, fun i d e => ?_, fun i d e => ?_, fun i d e => ?_, S.inj, fun b m => ?_, hk, S.iok, S.xc⟩
  · obtain ⟨v, q, r⟩ := S.sh i d e
    exact ⟨v, q, r.like L⟩
  · obtain ⟨b, q, m, n, r⟩ := S.ow i d e
    have ne := ow e rfl q
    exact ⟨b, q, m, h0 b ne n, r.like L (hb b ne)⟩
  · obtain ⟨b, q, m, n, r⟩ := S.io i d e
    have ne := ow e rfl q
    exact ⟨b, q, m, n, r.like L (hb b ne)⟩
  · obtain ⟨o, q, n⟩ := S.m0 b m
    exact ⟨o, by rw [hb b (fun z => na (.inl (by rw [← z]; exact m)))]; exact q, n⟩
section
variable {F : Fr} {env env' : EnvD} {σ σ' : SV} {H H' : Hp} {a : Addr} {u : HO} {od : Obj}
theorem Sim.lock (S : Sim F env σ H) (e : H a = some u) (du : DHo u) (na : ¬ Mx F env σ a) : Sim (F.lk a (.frz od u)) env σ (upd H a (.frz od u)) :=
  Sim.swap (F := F) (f := F.H0) (a := a) S (like_lock e du) (fun b hb => upd_ne hb) na (fun b hb h => by show (if b = a then _ else F.H0 b) = none; rw [if_neg hb]; exact h) fun b o h io => by
    have h : (if b = a then some (HO.frz od u) else F.H0 b) = some o := h
    by_cases hb : b = a
    · rw [if_pos hb] at h
      cases h
      rw [hb]; exact upd_same
    · rw [if_neg hb] at h
      rw [upd_ne hb]
      exact S.keep b o h io
theorem Sim.unlk (k0 : ∀ o, F.H0 a = some o → (∀ i, F.io i ≠ some a) → o = u) (du : DHo u) (S : Sim (F.lk a (.frz od u)) env' σ' H') (e : H' a = some (.frz od u)) (na : ¬ Mx F env' σ' a) : Sim F env' σ' (upd H' a u) :=
  Sim.swap (F := F) (f := (F.lk a (.frz od u)).H0) (g := F.H0) (a := a) S (like_unlk e du) (fun b hb => upd_ne hb) na (fun b hb h => by
    have h : (if b = a then some (HO.frz od u) else F.H0 b) = none := h
    rw [if_neg hb] at h
    exact h) fun b o h io => by
    by_cases hb : b = a
    · subst hb
      rw [k0 o h io, upd_same]
    · rw [upd_ne hb]
      exact S.keep b o (by show (if b = a then some (HO.frz od u) else F.H0 b) = some o; rw [if_neg hb]; exact h) io
theorem Step.unlk (e : H a = some u) (n : ¬ Owns env σ a) (st : Step env σ (upd H a (.frz od u)) env' σ' H') : H' a = some (.frz od u) ∧ ¬ Owns env' σ' a ∧ Step env σ H env' σ' (upd H' a u) := by
  obtain ⟨h1, h2⟩ := st.k a _ upd_same n
  refine ⟨h1, h2, fun b o eb nb => ?_, fun b o eb => ?_⟩
  · by_cases hb : b = a
    · subst hb
      rw [e] at eb
      cases eb
      exact ⟨upd_same, h2⟩
    · obtain ⟨q1, q2⟩ := st.k b o (by rw [upd_ne hb]; exact eb) nb
      exact ⟨by rw [upd_ne hb]; exact q1, q2⟩
  · by_cases hb : b = a
    · exact ⟨u, by rw [hb]; exact upd_same⟩
    · obtain ⟨o', q⟩ := st.th b o (by rw [upd_ne hb]; exact eb)
      exact ⟨o', by rw [upd_ne hb]; exact q⟩
theorem Sim.k0 (S : Sim F env σ H) (e : H a = some u) (o : HO) (h : F.H0 a = some o) (io : ∀ i, F.io i ≠ some a) : o = u := by
  have := S.keep a o h io
  rw [e] at this
  exact (Option.some.inj this).symm
theorem PostE.aft {e1 : EnvD} {H1 : Hp} {r : R} {v : V} (s : Step env σ H e1 σ H1) (h : PostE F e1 σ H1 r env' v H') : PostE F env σ H r env' v H' := by
  refine ⟨s.trans h.1, ?_⟩
  cases r with
  | dat d => exact h.2
  | slot i => exact h.2
  | own d => obtain ⟨_, a, e, n, S, q⟩ := h; exact ⟨a, e, s.nil n, S, q⟩
theorem PostE.unlk (S0 : Sim F env σ H) (e : H a = some u) (du : DHo u) (na : ¬ Mx F env σ a) {r : R} {v : V} (p : PostE (F.lk a (.frz od u)) env σ (upd H a (.frz od u)) r env' v H') : H' a = some (.frz od u) ∧ PostE F env σ H r env' v (upd H' a u) := by
  obtain ⟨st, p⟩ := p
  obtain ⟨h1, h2, h3⟩ := st.unlk e fun z => na (.inr z)
  have na' : ¬ Mx F env' σ a := fun z => Or.elim z (fun z => na (.inl z)) h2
  refine ⟨h1, h3, ?_⟩
  cases r with
  | dat d => exact ⟨Sim.unlk (S0.k0 e) du p.1 h1 na', p.2.like (like_unlk h1 du)⟩
  | slot i => exact ⟨Sim.unlk (S0.k0 e) du p.1 h1 na', p.2⟩
  | own d =>
    obtain ⟨b, rfl, n, S, o⟩ := p
    have hb : b ≠ a := fun z => by rw [z, upd_same] at n; cases n
    rw [upd_ne hb] at n
    refine ⟨b, rfl, n, Sim.unlk (F := F.add b) (S0.k0 e) du S h1 (fun z => ?_), o.like (like_unlk h1 du) (upd_ne hb)⟩
    rcases z with (z | z) | z
    · exact na (.inl z)
    · exact hb z.symm
    · exact h2 z
end
/-! ### what is walked -/
theorem RepL.ofKeys {M : Av} {H : Hp} : ∀ {k : List Key}, RepL M H (k.map keyD) (k.map kV)
  | [] => rfl
  | .inl i :: k => ⟨.int i, _, rfl, rfl, RepL.ofKeys⟩
  | .inr x :: k => ⟨.str x, _, rfl, rfl, RepL.ofKeys⟩
theorem RepK.keys {M : Av} {H : Hp} : ∀ {kvs : List (Key × D)} {ks : List (Key × V)}, RepK M H kvs ks → (kvs.map fun p => keyD p.1) = ks.map fun p => keyD p.1
  | [], _, r => by rw [show _ = [] from r]; rfl
  | p :: kvs, _, ⟨v, vs, e, h, r⟩ => by subst e; rw [List.map_cons, List.map_cons, RepK.keys r]
theorem RepT.keys {M : Av} {H : Hp} : ∀ {kvs : List (List Key × D)} {ks : List (List Key × V)}, RepT M H kvs ks → (kvs.map fun p => D.tup (p.1.map keyD)) = ks.map fun p => D.tup (p.1.map keyD)
  | [], _, r => by rw [show _ = [] from r]; rfl
  | p :: kvs, _, ⟨v, vs, e, h, r⟩ => by subst e; rw [List.map_cons, List.map_cons, RepT.keys r]
theorem walks_dK {a : Addr} {od : Obj} {ks : List (Key × V)} : Walks (Itk a od ks) (ks.map fun p => keyD p.1) (fun M H => H a = some (.frz od (.dK ks)) ∧ ¬ M a) where
  mv := fun k ⟨h, m⟩ => ⟨(k.2 _ _ h m).1, (k.2 _ _ h m).2⟩
  go := fun {M i H} hi ⟨h, m⟩ => ⟨h, by rw [List.length_map] at hi; exact hi⟩
  stop := fun ⟨h, m⟩ => ⟨h, by rw [List.length_map]; exact Nat.le_refl _⟩
  yld := fun {M i H x H'} hi ⟨h, m⟩ _ _ ⟨e, k, v, g, ex⟩ => by
    subst e
    refine ⟨keyD k, by rw [List.getElem?_map, g]; rfl, Ext.refl, ?_⟩
    subst ex
    cases k <;> rfl
theorem walks_dT {a : Addr} {od : Obj} {ks : List (List Key × V)} : Walks (Itkt a od ks) (ks.map fun p => D.tup (p.1.map keyD)) (fun M H => H a = some (.frz od (.dT ks)) ∧ ¬ M a) where
  mv := fun k ⟨h, m⟩ => ⟨(k.2 _ _ h m).1, (k.2 _ _ h m).2⟩
  go := fun {M i H} hi ⟨h, m⟩ => ⟨h, by rw [List.length_map] at hi; exact hi⟩
  stop := fun ⟨h, m⟩ => ⟨h, by rw [List.length_map]; exact Nat.le_refl _⟩
  yld := fun {M i H x H'} hi ⟨h, m⟩ _ nt ⟨e, k, v, q, g, ex, eq⟩ => by
    subst e
    refine ⟨.tup (k.map keyD), by rw [List.getElem?_map, g]; rfl, Ext.refl, ?_⟩
    subst ex
    exact ⟨q, _, rfl, eq, nt q _ eq, RepL.ofKeys⟩
section
variable {T : Tb} {X : Cx} {Y Y0 : YW} {σ : SV} {H : Hp} {Q : VK} {R : It → Hp → Prop}
theorem PS.or {X : Cx} {e : Stmt} {t t' : TS} (h : PS X e t) (h' : PS X e t') : PS X e (fun D σ H => t D σ H ∨ t' D σ H) := ⟨fun pins s σ H D I q => q.elim (h.run pins s σ H D I) (h'.run pins s σ H D I)⟩
theorem dkyD_ok {env : EnvD} {i : Nat} {xs : List D} (h : dkyD env i = .ok xs) : ∃ d, env[i]? = some (.sh d) ∧ keysD d = some xs := by
  unfold dkyD at h
  split at h
  · exact ⟨_, by assumption, ofO_ok h⟩
  · cases h
/-- the dict that is walked -/
theorem dky_at {F : Fr} {env : EnvD} {i : Nat} {xs : List D} (S : Sim F env σ H) (h : dkyD env i = .ok xs) : ∃ (a : Addr), σ[i]? = some (some (V.ref a)) ∧ ¬ Mx F env σ a ∧
    ((∃ ks, Rd H a (.dK ks) ∧ xs = ks.map fun p => keyD p.1) ∨ ∃ ks, Rd H a (.dT ks) ∧ xs = ks.map fun p => D.tup (p.1.map keyD)) := by
  obtain ⟨d, h1, h2⟩ := dkyD_ok h
  obtain ⟨v, q, r⟩ := S.sh i d h1
  cases d <;> first
    | (cases h2; done)
    | skip
  · cases h2
    obtain ⟨a, ks, rfl, e, m, r⟩ := r
    exact ⟨a, q, m, .inl ⟨ks, e, r.keys⟩⟩
  · cases h2
    obtain ⟨a, ks, rfl, e, m, r⟩ := r
    exact ⟨a, q, m, .inr ⟨ks, e, r.keys⟩⟩
theorem tI_dky {i : Nat} {a : Addr} {od : Obj} {u : HO} (hz : σ[i]? = some (some (V.ref a))) (hf : H a = some (.frz od u)) (h : tIK Y T (.dky i) σ H R) : iKeys (tVar i) σ H R := by
  obtain ⟨F, env, hK, S, h⟩ := h
  have h : WPr (dkyD env i >>= fun xs => Res.ok (xs, env)) _ _ := h
  cases e : dkyD env i with
  | fail => rw [e] at h; exact h.elim
  | exc c =>
    exfalso
    unfold dkyD at e
    split at e
    · rename_i d _
      cases q : keysD d with
      | none => rw [q] at e; cases e
      | some xs => rw [q] at e; cases e
    · cases e
  | ok xs =>
    rw [e] at h
    obtain ⟨a', q, m, g⟩ := dky_at S e
    rw [hz] at q
    cases q
    refine ⟨_, hz, a, od, rfl, ?_⟩
    rcases g with ⟨ks, r, rfl⟩ | ⟨ks, r, rfl⟩
    · rcases r with r | ⟨o, r⟩
      · rw [hf] at r; cases r
      · rw [hf] at r
        cases r
        exact .inl ⟨ks, hf, h _ _ _ S Step.refl walks_dK ⟨hf, m⟩⟩
    · rcases r with r | ⟨o, r⟩
      · rw [hf] at r; cases r
      · rw [hf] at r
        cases r
        exact .inr ⟨ks, hf, h _ _ _ S Step.refl walks_dT ⟨hf, m⟩⟩
theorem runE_lcD {elt : CE} {tg : Tg} {i : Nat} {c : Option CE} {env : EnvD} : runE T (.lcD elt tg i c) env = noX (escI env i >>= fun e0 => runE T (.lc elt tg (.dky i) c) e0) := by
  show noX (escI env i >>= fun e0 => dkyD e0 i >>= fun xs => _) = noX (escI env i >>= fun e0 => (dkyD e0 i >>= fun xs => Res.ok (xs, e0)) >>= fun p => _)
  cases escI env i with
  | fail => rfl
  | exc e => rfl
  | ok e0 =>
    show noX (dkyD e0 i >>= fun xs => _) = noX ((dkyD e0 i >>= fun xs => Res.ok (xs, e0)) >>= fun p => _)
    cases dkyD e0 i with
    | fail => rfl
    | exc e => rfl
    | ok xs => rfl
theorem WPr.noX_ok {α : Type} {x : Res α} {P : α → Prop} {Px : Ex → Prop} (h : WPr (noX x) P Px) : ∃ r, x = .ok r ∧ P r := by
  cases x with
  | fail => exact h.elim
  | exc e => exact h.elim
  | ok r => exact ⟨r, rfl, h⟩
theorem tE_lcD {elt : CE} {tg : Tg} {i : Nat} {c : Option CE} (hY : Y0.K = Y.K ∧ Y0.xa = Y.xa) (h : tEK Y T (.lcD elt tg i c) σ H Q) :
    tLockE (tLc (iKeys (tVar i)) (tgG Y.K tg) (tCK Y0 T c) (tEK Y0 T elt) tg.slots) σ H Q ∨ tLc (iKeys (tVar i)) (tgG Y.K tg) (tCK Y0 T c) (tEK Y0 T elt) tg.slots σ H Q := by
  obtain ⟨F, env, hK, S, h⟩ := h
  rw [runE_lcD] at h
  obtain ⟨⟨r, e'⟩, h1, k⟩ := h.noX_ok
  obtain ⟨e0, h2, h3⟩ := Res.bind_ok h1
  obtain ⟨S0, st0, _⟩ := S.escI h2
  have h3' : (runI T (.dky i) e0 >>= fun p => _) = Res.ok (r, e') := h3
  obtain ⟨⟨xs, e1⟩, h4, _⟩ := Res.bind_ok h3'
  have h4 : (dkyD e0 i >>= fun xs => Res.ok (xs, e0)) = .ok (xs, e1) := h4
  obtain ⟨xs', h5, h6⟩ := Res.bind_ok h4
  cases h6
  obtain ⟨a, q, m, g⟩ := dky_at S0 h5
  have conv : ∀ {H1 : Hp} {Q1 : VK} {od : Obj} {u : HO}, H1 a = some (.frz od u) → tLc (tIK Y T (.dky i)) (tgG Y.K tg) (tCK Y0 T c) (tEK Y0 T elt) tg.slots σ H1 Q1 → tLc (iKeys (tVar i)) (tgG Y.K tg) (tCK Y0 T c) (tEK Y0 T elt) tg.slots σ H1 Q1 := fun hf z => tI_dky q hf z
  have free : ∀ {od : Obj} {u : HO}, H a = some (.frz od u) → tLc (iKeys (tVar i)) (tgG Y.K tg) (tCK Y0 T c) (tEK Y0 T elt) tg.slots σ H Q := fun hf => conv hf (tE_lc hY ⟨F, e0, hK, S0, WPr.of_ok h3 fun v H' p => k v H' (PostE.aft st0 p)⟩)
  have bound : ∀ {u : HO}, H a = some u → DHo u → tLockE (tLc (iKeys (tVar i)) (tgG Y.K tg) (tCK Y0 T c) (tEK Y0 T elt) tg.slots) σ H Q := fun {u} hu du => by
    refine ⟨a, u, hu, du.mut, fun od => conv upd_same (tE_lc hY ⟨F.lk a (.frz od u), e0, ⟨hK.K, hK.xa⟩, S0.lock hu du m, WPr.of_ok h3 fun v H' p => ?_⟩)⟩
    obtain ⟨p1, p2⟩ := PostE.unlk S0 hu du m p
    exact ⟨p1, k v _ (PostE.aft st0 p2)⟩
  rcases g with ⟨ks, g | ⟨o, g⟩, _⟩ | ⟨ks, g | ⟨o, g⟩, _⟩
  · exact .inl (bound g (.inl ⟨_, rfl⟩))
  · exact .inr (free g)
  · exact .inl (bound g (.inr ⟨_, rfl⟩))
  · exact .inr (free g)
end
end VL
/-! VLP: displays of dicts. -/
namespace VL
open PySem PySem.Spec L2 PyProof.Rows
/-! ### keys that are tuples -/
def KeyPs (H : Hp) : List (V × V) → List (List Key × V) → Prop := Paired fun p q => ∃ b, p.1 = .ref b ∧ H b = some (.tup (q.1.map kV)) ∧ p.2 = q.2
def mergeT (kvs more : List (List Key × V)) : List (List Key × V) := more.foldl (fun acc kv => putK acc kv.1 kv.2) kvs
def tDispT (trs : List (TE × TE)) : TE := fun σ H Q => ∀ p, H p = none → tPairs trs σ (upd H p (.dT [])) fun ps H2 => H2 p = some (.dT []) ∧ ∃ kvs : List (List Key × V), KeyPs H2 ps kvs ∧ kvs.length ≤ 15 ∧ Q (.ref p) (upd H2 p (.dT (mergeT [] kvs)))
section
variable {prog : Program} {w : World} {K : Type} [DecidableEq K] {knd : HeapKind prog w K} {A : Around} {E : Value → Shared → Prop} {s : Shared}
theorem dict_pairsT {env : Env} {keys : List (Option Expr)} {values : List Expr} {pos : Pos} {Q : Value → Shared → Prop} (hu : knd.room A)
    (hall : keys.all (·.isSome) = true) (hl : keys.length = values.length) (h0 : keys ≠ []) (hlen : keys.length ≤ 15)
    (h : wpAny (model prog w) A (evalPairs (pairTrees keys values env pos)) (fun vs s₁ => ∃ ps, CarriesH knd s₁.heap vs ps ∧ s₁.heap.DictOfH knd s.heap.objs.size [] ∧
      ∀ h' tk, h'.DictOfH knd s.heap.objs.size (storedAllH [] ps) → Heap.SameBut s.heap.objs.size s₁.heap h' → Q (.ref s.heap.objs.size) { s₁ with heap := h', toks := tk }) E
      { s with heap := s.heap.push { cls := .type "dict", data := .dict #[] } }) :
    wpAny (model prog w) A (eval (.Dict keys values pos) env) Q E s := by
  have hn := pairTrees_length keys values env pos hall hl
  have hp0 : pairTrees keys values env pos ≠ [] := fun he => by
    rw [he] at hn
    exact h0 (List.length_eq_zero_iff.mp hn.symm)
  rw [arm_eval_Dict, zip_pairTrees keys values env pos hall hl, dictDisplay_pairs (pairTrees keys values env pos) hp0 (by omega)]
  exact wpAny_bind (wpAny_standAt (wpAny_bind (wpAny_subDictH (knd := knd) (Q := fun d s' => wpAny (model prog w) A (pure (Value.ref d)) Q E s') hu (by omega)
    (wpAny_mono h (fun vs s₁ h₁ => by obtain ⟨ps, hc, hm, hq⟩ := h₁; exact ⟨ps, hc, hm, fun h' tk a b => wpAny_pure (hq h' tk a b)⟩) fun _ _ e => e))))
end
section
variable {X : Cx}
theorem carries_T {P : Program} {w : World} {H : Hp} {h : Heap} (ok : HOk P w H h) : ∀ {ps : List (V × V)} {kvs : List (List Key × V)} {ws : List (Value × Value)}, KeyPs H ps kvs → VV ps ws → ∃ xs, CarriesH (tupleKind (mixKind P w)) h ws xs ∧ KT H kvs xs
  | _, _, _, .nil, .nil => ⟨[], trivial, .nil⟩
  | _, _, _, .cons (a := p) (b := q) r t, .cons (b := z) rz tz => by
    obtain ⟨xs, c, k⟩ := carries_T ok t tz
    obtain ⟨b, e1, e2, e3⟩ := r
    obtain ⟨p1, p2⟩ := p
    obtain ⟨z1, z2⟩ := z
    subst e1
    obtain rfl : z1 = .ref b := rz.1
    exact ⟨(q.1, b, z2) :: xs, ⟨rfl, rfl, key_of ok e2, c⟩, .cons ⟨rfl, e2, by rw [← e3]; exact rz.2⟩ k⟩
theorem kt_all {H : Hp} : ∀ {more : List (List Key × V)} {ms : List (List Key × Addr × Value)} {kvs : List (List Key × V)} {xs : List (List Key × Addr × Value)}, KT H more ms → KT H kvs xs → KT H (mergeT kvs more) (storedAllH xs ms)
  | _, _, _, _, .nil, r => r
  | _, _, _, _, .cons (a := p) (b := q) h t, r => by
    obtain ⟨k, v⟩ := p
    obtain ⟨k', a, u⟩ := q
    obtain ⟨e, e2, e3⟩ := h
    have e : k = k' := e
    subst e
    have z := kt_all t (r.put k e2 e3)
    exact z
theorem length_mergeT : ∀ (more kvs : List (List Key × V)), (mergeT kvs more).length ≤ kvs.length + more.length
  | [], kvs => by show kvs.length ≤ kvs.length + 0; omega
  | p :: r, kvs => by
    have h1 := length_mergeT r (putK kvs p.1 p.2)
    have h2 := length_putK kvs p.1 p.2
    show (mergeT (putK kvs p.1 p.2) r).length ≤ _
    rw [List.length_cons]; omega
theorem pe_dispT (hu : X.A.units < cLine) {pos : Pos} {keys : List (Option Expr)} {values : List Expr} {trs : List (TE × TE)} (h : PPs X pos keys values trs) (hall : keys.all (·.isSome) = true) (hl : keys.length = values.length) (h0 : keys ≠ [])
    (h15 : keys.length ≤ 15) : PE X (.Dict keys values pos) (tDispT trs) := by
  refine ⟨fun pins s σ H Q I q => ?_⟩
  have hn := I.hok.fresh (Nat.le_refl s.heap.objs.size)
  have I1 := I.laid (a := s.heap.objs.size) (o := .dT []) (h' := s.heap.push { cls := .type "dict", data := .dict #[] }) (t' := s.toks) (fun _ _ q => Heap.get?_push_of_some _ q) (Nat.le_refl _) (dt_empty s.heap I.big)
  refine dict_pairsT (knd := tupleKind (mixKind X.prog X.w)) hu hall hl h0 h15 (thn (h.run pins _ σ _ _ I1 (q _ hn)) fun ws s2 ⟨ps, H2, I2, rel, e, kvs, kp, lk, q2⟩ => ?_)
  obtain ⟨xs, c, kt⟩ := carries_T I2.hok kp rel
  obtain ⟨z, hd, vs0, r0, dd⟩ := dt_of I2.hok e
  cases r0
  refine ⟨xs, c, dd, fun h' tk dd' hs => ⟨.ref s.heap.objs.size, _, ?_, rfl, q2⟩⟩
  have hz : (mergeT [] kvs).length ≤ sizeLine := by
    have h1 := length_mergeT kvs []
    rw [List.length_nil] at h1
    rw [sizeLine_eq]; omega
  have km := kt_all kt (.nil (F := fun (p : List Key × V) (q : List Key × Addr × Value) => p.1 = q.1 ∧ H2 q.2.1 = some (.tup (p.1.map kV)) ∧ RelV p.2 q.2.2))
  obtain ⟨o2, es2, ep2, g1, g2, g3, g4, g5, g6⟩ := dd'
  refine d_write I2 (by rw [e]; exact True.intro) hs ⟨_, g1⟩ ⟨hz, hd, _, km.keeps fun b ys hb => ?_, o2, es2, ep2, g1, g2, g3, g4, g6⟩
  rw [upd_ne (fun z => by rw [z, e] at hb; cases hb)]
  exact hb
end
/-! ### the pairs, from the left -/
def prs (Y : YW) (T : Tb) : List CE → List (TE × TE)
  | k :: v :: r => (tEK Y T k, tEK Y T v) :: prs Y T r
  | _ => []
def flat2 : List (V × V) → List V
  | [] => []
  | p :: r => p.1 :: p.2 :: flat2 r
section
variable {T : Tb} {Y : YW}
theorem tP_of : ∀ (es : List CE) {F : Fr} {env e : EnvD} {σ : SV} {H : Hp} {ds : List D} {Q : List (V × V) → Hp → Prop}, es.length % 2 = 0 → FY F Y → Sim F env σ H → runK T es env = .ok (ds, e) →
    (∀ ps H', Sim F e σ H' → Step env σ H e σ H' → RepL (Mx F e σ) H' ds (flat2 ps) → ps.length * 2 = es.length → Q ps H') → tPairs (prs Y T es) σ H Q
  | [], F, env, e, σ, H, ds, Q, _, hK, S, h, k => by
    have h : Res.ok (([] : List D), env) = Res.ok (ds, e) := h
    cases h
    exact k [] H S Step.refl rfl rfl
  | [_], F, env, e, σ, H, ds, Q, h2, hK, S, h, k => by cases h2
  | a :: b :: r, F, env, e, σ, H, ds, Q, h2, hK, S, h, k => by
    have h : (runE T a env >>= fun p => esc p.2 p.1 >>= fun z => (runE T b z.2 >>= fun p => esc p.2 p.1 >>= fun y => (runK T r y.2 >>= fun w => Res.ok (y.1 :: w.1, w.2))) >>= fun w => Res.ok (z.1 :: w.1, w.2)) = .ok (ds, e) := h
    obtain ⟨⟨ra, e1⟩, ha, h⟩ := Res.bind_ok h
    obtain ⟨⟨da, e2⟩, hea, h⟩ := Res.bind_ok h
    obtain ⟨⟨ds1, e5⟩, g, h5⟩ := Res.bind_ok h
    cases h5
    obtain ⟨⟨rb, e3⟩, hb, g2⟩ := Res.bind_ok g
    obtain ⟨⟨db, e4⟩, heb, g3⟩ := Res.bind_ok g2
    obtain ⟨⟨dr, e6⟩, hr, h6⟩ := Res.bind_ok g3
    cases h6
    refine ⟨F, env, hK, S, WPr.of_ok ha fun x H1 p1 => ?_⟩
    obtain ⟨S2, st2, r2⟩ := (p1.valS S).esc p1.sim hea
    refine ⟨F, e2, hK, S2, WPr.of_ok hb fun y H2 p2 => ?_⟩
    obtain ⟨S4, st4, r4⟩ := (p2.valS S2).esc p2.sim heb
    refine tP_of r (by simp only [List.length_cons] at h2; omega) hK S4 hr fun ps H3 S5 st5 rl hl => ?_
    have sa := (p2.1.trans st4).trans st5
    refine k ((x, y) :: ps) H3 S5 ((p1.1.trans st2).trans sa) ⟨x, _, rfl, r2.mv sa.kp, y, _, rfl, r4.mv st5.kp, rl⟩ ?_
    simp only [List.length_cons]
    omega
/-- keys and values told -/
theorem dspK_rep {M : Av} {H : Hp} : ∀ {ds : List D} {kvs : List (Key × D)} {ps : List (V × V)}, dspK ds = some kvs → RepL M H ds (flat2 ps) → ∃ ks : List (Key × V), ps = ks.map (fun kv => (kV kv.1, kv.2)) ∧ RepK M H kvs ks
  | [], kvs, ps, h, r => by
    cases h
    cases ps with
    | nil => exact ⟨[], rfl, rfl⟩
    | cons p ps => exact nomatch (show p.1 :: p.2 :: flat2 ps = [] from r)
  | [_], kvs, ps, h, r => by cases h
  | a :: b :: ds, kvs, ps, h, r => by
    have h : (match keyOf a, dspK ds with
      | some k, some r => some ((k, b) :: r)
      | _, _ => none) = some kvs := h
    obtain ⟨x, vs, e, ra, y, vs', e', rb, rr⟩ := r
    cases ps with
    | nil => exact nomatch (show [] = x :: vs from e)
    | cons p ps =>
      obtain ⟨p1, p2⟩ := p
      have e : p1 :: p2 :: flat2 ps = x :: vs := e
      cases e
      cases e'
      cases hk : keyOf a with
      | none => rw [hk] at h; cases h
      | some k =>
        cases hd : dspK ds with
        | none => rw [hk, hd] at h; cases h
        | some l =>
          rw [hk, hd] at h
          cases h
          obtain ⟨ks, rfl, q⟩ := dspK_rep hd rr
          exact ⟨(k, y) :: ks, by rw [List.map_cons, keyOf_rep hk ra.w], y, ks, rfl, rb, q⟩
theorem dspT_rep {M : Av} {H : Hp} : ∀ {ds : List D} {kvs : List (List Key × D)} {ps : List (V × V)}, dspT ds = some kvs → RepL M H ds (flat2 ps) → ∃ ks : List (List Key × V), KeyPs H ps ks ∧ RepT M H kvs ks
  | [], kvs, ps, h, r => by
    cases h
    cases ps with
    | nil => exact ⟨[], .nil, rfl⟩
    | cons p ps => exact nomatch (show p.1 :: p.2 :: flat2 ps = [] from r)
  | [a], kvs, ps, h, r => by cases a <;> cases h
  | a :: b :: ds, kvs, ps, h, r => by
    obtain ⟨x, vs, e, ra, y, vs', e', rb, rr⟩ := r
    cases ps with
    | nil => exact nomatch (show [] = x :: vs from e)
    | cons p ps =>
      obtain ⟨p1, p2⟩ := p
      have e : p1 :: p2 :: flat2 ps = x :: vs := e
      cases e
      cases e'
      cases a <;> first
        | (cases h; done)
        | skip
      rename_i ka
      have h : (match keysOf ka, dspT ds with
        | some k, some r => some ((k, b) :: r)
        | _, _ => none) = some kvs := h
      cases hk : keysOf ka with
      | none => rw [hk] at h; cases h
      | some k =>
        cases hd : dspT ds with
        | none => rw [hk, hd] at h; cases h
        | some l =>
          rw [hk, hd] at h
          cases h
          obtain ⟨ks, q1, q⟩ := dspT_rep hd rr
          obtain ⟨c, zs, rfl, hc, _, rz⟩ := ra
          have hz := keysOf_rep hk rz
          subst hz
          exact ⟨(k, y) :: ks, .cons ⟨c, rfl, hc, rfl⟩ q1, y, ks, rfl, rb, q⟩
theorem merge_repK {M : Av} {H : Hp} : ∀ {more : List (Key × D)} {ms : List (Key × V)} {kvs : List (Key × D)} {ks : List (Key × V)}, RepK M H more ms → RepK M H kvs ks → RepK M H (putAll kvs more) (mergeK ks ms)
  | [], _, _, _, r, q => by rw [show _ = [] from r]; exact q
  | (k, d) :: more, _, _, _, ⟨v, vs, e, h, r⟩, q => by
    subst e
    have z := merge_repK r (RepK.put (d := d) k h q)
    exact z
theorem merge_repT {M : Av} {H : Hp} : ∀ {more : List (List Key × D)} {ms : List (List Key × V)} {kvs : List (List Key × D)} {ks : List (List Key × V)}, RepT M H more ms → RepT M H kvs ks → RepT M H (putAll kvs more) (mergeT ks ms)
  | [], _, _, _, r, q => by rw [show _ = [] from r]; exact q
  | (k, d) :: more, _, _, _, ⟨v, vs, e, h, r⟩, q => by
    subst e
    have z := merge_repT r (RepT.put (d := d) k h q)
    exact z
theorem h0none_' {F : Fr} {env : EnvD} {σ : SV} {H : Hp} (S : Sim F env σ H) {p : Addr} (hp : H p = none) : F.H0 p = none := by
  cases q : F.H0 p with
  | none => rfl
  | some o =>
    have : ∀ i, F.io i ≠ some p := fun i z => by
      obtain ⟨d, q1, q2⟩ := S.iok i p z
      obtain ⟨a, b1, _, _, b2⟩ := S.io i d q1
      rw [q2] at b1; cases b1
      obtain ⟨o', b3, _⟩ := b2.some
      rw [hp] at b3; cases b3
    have := S.keep p o q this
    rw [hp] at this; cases this
theorem dsp_end {F : Fr} {env e : EnvD} {σ : SV} {H H' : Hp} {p : Addr} {d : D} {o0 o : HO} (hp : H p = none) (S : Sim F env σ H) (S' : Sim (F.add p) e σ H') (st : Step env σ (upd H p o0) e σ H') (ht : ∀ xs, o ≠ .tup xs)
    (ro : OwnRep (Mx (F.add p) e σ) (upd H' p o) d p) : PostE F env σ H (.own d) e (.ref p) (upd H' p o) := by
  have h0 : (F.add p).H0 p = none := h0none_' S hp
  refine ⟨⟨fun b u eb n => ?_, fun b u eb => ?_⟩, p, rfl, hp, S'.m0put' (p := p) (o := o) (.inr rfl) h0 ht, ro⟩
  · obtain ⟨q1, q2⟩ := st.k b u (by rw [upd_ne (ne_of_none eb hp)]; exact eb) n
    exact ⟨by rw [upd_ne (ne_of_none eb hp)]; exact q1, q2⟩
  · obtain ⟨u', q⟩ := st.th b u (by rw [upd_ne (ne_of_none eb hp)]; exact eb)
    exact ⟨u', by rw [upd_ne (ne_of_none eb hp)]; exact q⟩
theorem runE_dspG {t : Bool} {es : List CE} {env : EnvD} : runE T (.dspG t es) env = noX (chk (decide (es.length ≤ 30)) >>= fun _ => runK T es env >>= fun p => dspD t p.1 >>= fun d => .ok (.own d, p.2)) := rfl
theorem dspG_ok {t : Bool} {es : List CE} {σ : SV} {H : Hp} {Q : VK} (h : tEK Y T (.dspG t es) σ H Q) : ∃ F env ds e d, FY F Y ∧ Sim F env σ H ∧ es.length ≤ 30 ∧ runK T es env = .ok (ds, e) ∧ dspD t ds = .ok d ∧ ∀ v H', PostE F env σ H (.own d) e v H' → Q v H' := by
  obtain ⟨F, env, hK, S, h⟩ := h
  rw [runE_dspG] at h
  obtain ⟨⟨r, e'⟩, h1, k⟩ := h.noX_ok
  obtain ⟨c, h1⟩ := chk_bind h1
  obtain ⟨⟨ds, e⟩, h2, h3⟩ := Res.bind_ok h1
  obtain ⟨d, h4, h5⟩ := Res.bind_ok h3
  cases h5
  exact ⟨F, env, ds, e, d, hK, S, of_decide_eq_true c, h2, h4, k⟩
theorem keyPs_len {H : Hp} {ps : List (V × V)} {ks : List (List Key × V)} (r : KeyPs H ps ks) : ps.length = ks.length := Paired.length r
theorem tE_dspK {es : List CE} {σ : SV} {H : Hp} {Q : VK} (he : es.length % 2 = 0) (h : tEK Y T (.dspG false es) σ H Q) : tDisp (prs Y T es) σ H Q := by
  obtain ⟨F, env, ds, e, d, hK, S, hl, h2, h3, k⟩ := dspG_ok h
  intro p hp
  have S1 := S.alloc (p := p) (o := .dK []) hp (fun _ => by simp)
  refine tP_of (F := F.add p) es he ⟨hK.K, hK.xa⟩ S1 h2 fun ps H' S' st rl hn => ?_
  have hp1 : H' p = some (.dK []) := (st.k p _ upd_same (not_mx_add S1)).1
  have h3 : (ofO (dspK ds) >>= fun l => Res.ok (D.dK (putAll [] l))) = .ok d := h3
  obtain ⟨l, h4, h5⟩ := Res.bind_ok h3
  cases h5
  obtain ⟨ks, rfl, rk⟩ := dspK_rep (ofO_ok h4) rl
  refine ⟨hp1, ks, rfl, by rw [List.length_map] at hn; omega, ?_⟩
  refine k _ _ (dsp_end (o0 := .dK []) hp S S' st (fun _ => by simp) ⟨mergeK [] ks, upd_same, ?_⟩)
  have z := merge_repK rk (show RepK (Mx (F.add p) e σ) H' [] [] from rfl)
  exact z.mv ⟨rfl, fun b u eb n => ⟨by rw [upd_ne (fun q => n (.inl (.inr q)))]; exact eb, n⟩⟩
theorem tE_dspT {es : List CE} {σ : SV} {H : Hp} {Q : VK} (he : es.length % 2 = 0) (h : tEK Y T (.dspG true es) σ H Q) : tDispT (prs Y T es) σ H Q := by
  obtain ⟨F, env, ds, e, d, hK, S, hl, h2, h3, k⟩ := dspG_ok h
  intro p hp
  have S1 := S.alloc (p := p) (o := .dT []) hp (fun _ => by simp)
  refine tP_of (F := F.add p) es he ⟨hK.K, hK.xa⟩ S1 h2 fun ps H' S' st rl hn => ?_
  have hp1 : H' p = some (.dT []) := (st.k p _ upd_same (not_mx_add S1)).1
  have h3 : (ofO (dspT ds) >>= fun l => Res.ok (D.dT (putAll [] l))) = .ok d := h3
  obtain ⟨l, h4, h5⟩ := Res.bind_ok h3
  cases h5
  obtain ⟨ks, kp, rk⟩ := dspT_rep (ofO_ok h4) rl
  refine ⟨hp1, ks, kp, by rw [keyPs_len kp] at hn; omega, ?_⟩
  refine k _ _ (dsp_end (o0 := .dT []) hp S S' st (fun _ => by simp) ⟨mergeT [] ks, upd_same, ?_⟩)
  have z := merge_repT rk (show RepT (Mx (F.add p) e σ) H' [] [] from rfl)
  exact z.mv ⟨rfl, fun b u eb n => ⟨by rw [upd_ne (fun q => n (.inl (.inr q)))]; exact eb, n⟩⟩
end
end VL
/-! VL18: whatever the code of an expression is: joined. -/
namespace VL
open PySem PySem.Spec L2
section
variable {T : Tb} {W : WX} {xa : Addr}
structure EAll (T : Tb) (X : Cx) (xs : List Str) (W : WX) (xa : Addr) (c : CE) (e : Expr) : Prop where
  ex : PE X e (tEK (yw X xs W xa) T c)
  tt : PT X e (tTK (yw X xs W xa) T c)
theorem EAll.plain {X : Cx} {xs : List Str} {c : CE} {e : Expr} (h : PE X e (tEK (yw X xs W xa) T c)) (h1 : ∀ o x p, e ≠ .UnaryOp o x p) (h2 : ∀ o x p, e ≠ .BoolOp o x p) (h3 : ∀ o x y p, e ≠ .IfExp o x y p) (h4 : ∀ o x y p, e ≠ .Compare o x y p) : EAll T X xs W xa c e := ⟨h, pt_plain h h1 h2 h3 h4⟩
theorem EAll.call {X : Cx} {xs : List Str} {c : CE} {f : Expr} {as : List Expr} {ks : List Keyword} {p : Pos} (h : PE X (.Call f as ks p) (tEK (yw X xs W xa) T c)) : EAll T X xs W xa c (.Call f as ks p) :=
  .plain h (fun _ _ _ => by simp) (fun _ _ _ => by simp) (fun _ _ _ _ => by simp) (fun _ _ _ _ => by simp)
theorem call_pe {X : Cx} {C : CEnv} (c : Ctx T C X W xa) {f : Nat} {cs : List CE} {es : List Expr} {x : Str} {p pos : Pos} (hf : C.fns.lookup x = some f) (hg : gloB C.sc x = true) (h : okL C cs es = true) (hn : cs.isEmpty = false) (hh : C.cool = true ∨ C.hot.lookup x = some f) (ih : LAll T X C.xs W xa cs es) : PE X (.Call (.Name x p) es [] pos) (tEK (yw X C.xs W xa) T (.call f cs)) := by
  refine PE.imp (t := tCallS (spF X.K X.mg C.xs (T.fl f) (T.call f)) (fun σ C d H' => W C d σ H') (tAK (yw X C.xs W xa) T cs)) ?_ fun _ _ _ q => tE_call q
  cases cs with
  | nil => cases hn
  | cons c1 cs =>
    obtain ⟨e, es', rfl, h1, h2⟩ := okL_cons h
    cases hc : C.cool with
    | true =>
      obtain ⟨k, a, fd, ps, F⟩ := c.fn hc x f hf
      exact pe_callG F.ok F.room (c.gd hc) (gloB_gl c.sc hg) F.mg F.kp F.bd (fun σ => L2N.passAt c.tk σ) ih.a (nameOk_d F.nm).1 (star1 (okE_star h1)) (okL_star h2 _ _)
    | false =>
      have ht := c.ht hc
      obtain ⟨o, p1, p2, _⟩ := ht.p
      obtain ⟨k, a, fd, ps, F⟩ := c.hfn x f (hh.resolve_left (by rw [hc]; simp))
      exact pe_callE F.ok F.room p1 p2 (gloB_gl c.sc hg) F.mg F.kp F.bd (fun σ => L2N.passAt c.tk σ) ih.a (nameOk_d F.nm).1 (star1 (okE_star h1)) (okL_star h2 _ _)
theorem callO_pe {X : Cx} {C : CEnv} (c : Ctx T C X W xa) {f : Nat} {cs : List CE} {es : List Expr} {x : Str} {p pos : Pos} (hf : C.fns.lookup x = some f) (hg : gloB C.sc x = true) (h : okL C cs es = true) (hn : cs.isEmpty = false) (hc : C.cool = true) (ih : LAll T X C.xs W xa cs es) : PE X (.Call (.Name x p) es [] pos) (tEK (yw X C.xs W xa) T (.callO f cs)) := by
  refine PE.imp (t := tCallS (spF X.K X.mg C.xs (T.fl f) (T.call f)) (fun σ C d H' => W C d σ H') (tAO (yw X C.xs W xa) T cs)) ?_ fun _ _ _ q => tE_callO q
  cases cs with
  | nil => cases hn
  | cons c1 cs =>
    obtain ⟨e, es', rfl, h1, h2⟩ := okL_cons h
    obtain ⟨k, a, fd, ps, F⟩ := c.fn hc x f hf
    exact pe_callG F.ok F.room (c.gd hc) (gloB_gl c.sc hg) F.mg F.kp F.bd (fun σ => L2N.passAt c.tk σ) ih.o (nameOk_d F.nm).1 (star1 (okE_star h1)) (okL_star h2 _ _)
theorem LAll.nil {X : Cx} {xs : List Str} : LAll T X xs W xa [] [] := ⟨PA.imp pa_nil fun _ _ _ q => tA_nil q, PA.imp pa_nil fun _ _ _ q => tK_nil q, PA.imp pa_nil fun _ _ _ q => tAO_nil q, fun h => absurd rfl h, fun h => absurd rfl h⟩
theorem LAll.cons {X : Cx} {xs : List Str} {c : CE} {cs : List CE} {e : Expr} {es : List Expr} (hs : noStar e = true) (hl : es.length = cs.length) (h : EAll T X xs W xa c e) (t : LAll T X xs W xa cs es) : LAll T X xs W xa (c :: cs) (e :: es) := by
  refine ⟨PA.imp (pa_cons h.ex t.a (star1 hs)) fun _ _ _ q => tA_cons q, PA.imp (pa_cons h.ex t.k (star1 hs)) fun _ _ _ q => tK_cons q, PA.imp (pa_cons h.ex t.o (star1 hs)) fun _ _ _ q => tAO_cons q, fun _ => ?_, fun _ => ?_⟩
  · cases cs with
    | nil =>
      cases es with
      | nil => exact bool_and1 h.ex h.tt
      | cons _ _ => cases hl
    | cons c2 cs =>
      cases es with
      | nil => cases hl
      | cons e2 es => exact bool_and2 h.ex h.tt (t.an (by simp))
  · cases cs with
    | nil =>
      cases es with
      | nil => exact bool_or1 h.ex h.tt
      | cons _ _ => cases hl
    | cons c2 cs =>
      cases es with
      | nil => cases hl
      | cons e2 es => exact bool_or2 h.ex h.tt (t.or (by simp))
mutual
theorem pE : ∀ (c : CE) {X : Cx} {C : CEnv} {W : WX} {xa : Addr} {e : Expr}, Ctx T C X W xa → okE C c e = true → EAll T X C.xs W xa c e
  | .var i, X, C, W, xa, e, cx, h => by
    cases e <;> first
      | (cases h; done)
      | skip
    rename_i x p
    obtain ⟨h1, h2⟩ := and2 h
    have h1 := of_decide_eq_true h1
    have hn := nameOk_d (cx.nm x (List.mem_of_getElem? h1))
    exact .plain (PE.imp (pe_var (by rw [cx.N]; exact h1) (visB_vis cx.sc h2) hn.1 hn.2.1) fun _ _ _ q => tE_var q) (fun _ _ _ => by simp) (fun _ _ _ => by simp) (fun _ _ _ _ => by simp) (fun _ _ _ _ => by simp)
  | .lit d, X, C, W, xa, e, cx, h => by
    cases e <;> first
      | (cases h; done)
      | skip
    · rename_i c k p
      refine .plain ?_ (fun _ _ _ => by simp) (fun _ _ _ => by simp) (fun _ _ _ _ => by simp) (fun _ _ _ _ => by simp)
      have h : litB d c = true := h
      unfold litB at h
      split at h
      · exact PE.imp pe_non fun _ _ _ q => tE_lit q _ fun _ _ => rfl
      · have h := eq_of_beq h
        subst h
        exact PE.imp pe_bl fun _ _ _ q => tE_lit q _ fun _ _ => rfl
      · have h := of_decide_eq_true h
        subst h
        exact PE.imp pe_int fun _ _ _ q => tE_lit q _ fun _ _ => rfl
      · have h := of_decide_eq_true h
        subst h
        exact PE.imp pe_str fun _ _ _ q => tE_lit q _ fun _ _ => rfl
      · cases h
    · rename_i x p
      obtain ⟨h1, h2⟩ := and2 h
      exact .plain (glo_pe cx h1 h2) (fun _ _ _ => by simp) (fun _ _ _ => by simp) (fun _ _ _ _ => by simp) (fun _ _ _ _ => by simp)
  | .op o a b, X, C, W, xa, e, cx, h => by
    cases e <;> first
      | (cases h; done)
      | skip
    obtain ⟨h1, h2⟩ := and2 h
    obtain ⟨h2, h3⟩ := and2 h2
    have h1 := of_decide_eq_true h1
    subst h1
    exact .plain (PE.imp (pe_op (od_all o) (pE a cx h2).ex (pE b cx h3).ex) fun _ _ _ q => tE_op q) (fun _ _ _ => by simp) (fun _ _ _ => by simp) (fun _ _ _ _ => by simp) (fun _ _ _ _ => by simp)
  | .neg a, X, C, W, xa, e, cx, h => by
    cases e <;> first
      | (cases h; done)
      | skip
    obtain ⟨h1, h2⟩ := and2 h
    have h1 := of_decide_eq_true h1
    subst h1
    rename_i x p
    have he : PE X (.UnaryOp .USub x p) (tEK (yw X C.xs W xa) T (.neg a)) := PE.imp (pe_un un_neg (pE a cx h2).ex) fun _ _ _ q => tE_neg q
    exact ⟨he, PT.imp (pt_val he fun _ => rfl) fun _ _ _ q => tT_of q⟩
  | .notb a, X, C, W, xa, e, cx, h => by
    cases e <;> first
      | (cases h; done)
      | skip
    obtain ⟨h1, h2⟩ := and2 h
    have h1 := of_decide_eq_true h1
    subst h1
    have ih := pE a cx h2
    exact ⟨PE.imp (pe_not ih.ex) fun _ _ _ q => tE_not q, PT.imp (pt_not ih.tt) fun _ _ _ q => tT_not q⟩
  | .cmp c a b, X, C, W, xa, e, cx, h => by
    cases e <;> first
      | (cases h; done)
      | skip
    obtain ⟨r, rfl, rfl, h1, h2, h3⟩ := cmp_inv h
    have ia := pE a cx h1
    have ib := pE b cx h2
    exact ⟨PE.imp (pe_cmpR (cd_all cx.un c) ia.ex ib.ex (marks_of h3 _)) fun _ _ _ q => tE_cmp q, PT.imp (pt_cmpR (cd_all cx.un c) ia.ex ib.ex (marks_of h3 _)) fun _ _ _ q => tT_cmp q⟩
  | .inr t a b, X, C, W, xa, e, cx, h => by
    obtain ⟨l, y, p, r, p2, pos, rfl, h1, h2, h3⟩ := inr_inv h
    obtain ⟨rfl, hg, hm⟩ := nm_of cx h3
    have ia := pE a cx h1
    have ib := pE b cx h2
    have pr := prg_1 (p := p) (pos := p2) hg hm ib.ex (star1 (okE_star h2))
    exact ⟨PE.imp (pe_inR (neg := t) ia.ex pr (by cases t <;> rfl)) fun _ _ _ q => tE_inR q, PT.imp (pt_inR (neg := t) ia.ex pr (by cases t <;> rfl)) fun _ _ _ q => tE_inR (tT_of q)⟩
  | .chn c c' a b d, X, C, W, xa, e, cx, h => by
    cases e <;> first
      | (cases h; done)
      | skip
    obtain ⟨r, r', rfl, rfl, h1, h2, h3, h4⟩ := chn_inv h
    have ia := pE a cx h1
    have ib := pE b cx h2
    have id := pE d cx h3
    exact ⟨PE.imp (pe_chain (cd_all cx.un c) (cd_all cx.un c') ia.ex ib.ex id.ex (lastMarks_of h4)) fun _ _ _ q => tE_chn q, PT.imp (pt_chain (cd_all cx.un c) (cd_all cx.un c') ia.ex ib.ex id.ex (lastMarks_of h4)) fun _ _ _ q => tT_chn q⟩
  | .andb es, X, C, W, xa, e, cx, h => by
    cases e <;> first
      | (cases h; done)
      | skip
    obtain ⟨h1, h2⟩ := and2 h
    obtain ⟨h2, h3⟩ := and2 h2
    have h1 := of_decide_eq_true h1
    subst h1
    have ih := (pL es cx h2).an (fun z => by rw [z] at h3; cases h3)
    exact ⟨PE.imp (ih _).1 fun _ _ _ q => tE_and q, PT.imp (ih _).2.pt fun _ _ _ q => q⟩
  | .orb es, X, C, W, xa, e, cx, h => by
    cases e <;> first
      | (cases h; done)
      | skip
    obtain ⟨h1, h2⟩ := and2 h
    obtain ⟨h2, h3⟩ := and2 h2
    have h1 := of_decide_eq_true h1
    subst h1
    have ih := (pL es cx h2).or (fun z => by rw [z] at h3; cases h3)
    exact ⟨PE.imp (ih _).1 fun _ _ _ q => tE_or q, PT.imp (ih _).2.pt fun _ _ _ q => q⟩
  | .ife t a b, X, C, W, xa, e, cx, h => by
    cases e <;> first
      | (cases h; done)
      | skip
    obtain ⟨h1, h2⟩ := and2 h
    obtain ⟨h2, h3⟩ := and2 h2
    have it := pE t cx h1
    have ia := pE a cx h2
    have ib := pE b cx h3
    exact ⟨PE.imp (pe_ifExp it.tt ia.ex ib.ex) fun _ _ _ q => tE_ife q, PT.imp (pt_ifE it.tt ia.tt ib.tt) fun _ _ _ q => tT_ife q⟩
  | .tup es, X, C, W, xa, e, cx, h => by
    cases e <;> first
      | (cases h; done)
      | skip
    exact .plain (PE.imp (pe_tup (pL es cx h).k) fun _ _ _ q => tE_tup q) (fun _ _ _ => by simp) (fun _ _ _ => by simp) (fun _ _ _ _ => by simp) (fun _ _ _ _ => by simp)
  | .lst es, X, C, W, xa, e, cx, h => by
    cases e <;> first
      | (cases h; done)
      | skip
    exact .plain (PE.imp (pe_lst (pL es cx h).k) fun _ _ _ q => tE_lst q) (fun _ _ _ => by simp) (fun _ _ _ => by simp) (fun _ _ _ _ => by simp) (fun _ _ _ _ => by simp)
  | .dnew t, X, C, W, xa, e, cx, h => by
    cases e <;> first
      | (cases h; done)
      | skip
    rename_i ks vs p
    obtain ⟨h1, h2⟩ := and2 h
    have h1 := List.isEmpty_iff.mp h1
    have h2 := List.isEmpty_iff.mp h2
    subst h1 h2
    refine .plain ?_ (fun _ _ _ => by simp) (fun _ _ _ => by simp) (fun _ _ _ _ => by simp) (fun _ _ _ _ => by simp)
    cases t with
    | false => exact PE.imp pe_dnewK fun _ _ _ q => tE_dnewK q
    | true => exact PE.imp pe_dnewT fun _ _ _ q => tE_dnewT q
  | .dsp ks vs, X, C, W, xa, e, cx, h => by
    cases e <;> first
      | (cases h; done)
      | skip
    unfold okE at h
    split at h
    · rename_i c k1 p1 c' k2 p2 pos heq
      cases heq
      cases hq : dspO ks vs with
      | none => rw [hq] at h; cases h
      | some q =>
        obtain ⟨x, v⟩ := q
        rw [hq] at h
        obtain ⟨h1, h2⟩ := and2 h
        cases c <;> first
          | (cases h1; done)
          | skip
        cases c' <;> first
          | (cases h2; done)
          | skip
        have h1 := of_decide_eq_true h1
        have h2 := of_decide_eq_true h2
        subst h1 h2
        exact .plain (PE.imp (pe_disp (pps_cons pe_str pe_int pps_nil) rfl rfl (by simp) (by simp)) fun _ _ _ q => tE_dsp hq q) (fun _ _ _ => by simp) (fun _ _ _ => by simp) (fun _ _ _ _ => by simp) (fun _ _ _ _ => by simp)
    · rename_i x p1 c' k2 p2 pos heq
      cases heq
      cases hq : dspO ks vs with
      | some q => rw [hq] at h; cases h
      | none =>
        cases hv : dspV ks vs with
        | none => rw [hq, hv] at h; cases h
        | some q =>
          obtain ⟨i, d⟩ := q
          rw [hq, hv] at h
          obtain ⟨h1, h2⟩ := and2 h
          obtain ⟨h2, h3⟩ := and2 h2
          have h1 := of_decide_eq_true h1
          have hn := nameOk_d (cx.nm x (List.mem_of_getElem? h1))
          have hx := pe_var (X := X) (pos := p1) (by rw [cx.N]; exact h1) (visB_vis cx.sc h2) hn.1 hn.2.1
          have hval : PE X (.Constant c' k2 p2) (tC (litV d)) := by
            unfold dspV at hv
            split at hv
            · cases hv
              cases c' <;> first
                | (cases h3; done)
                | skip
              have h3 := of_decide_eq_true h3
              subst h3
              exact pe_int
            · cases hv
              cases c' <;> first
                | (cases h3; done)
                | skip
              have h3 := eq_of_beq h3
              subst h3
              exact pe_bl
            · cases hv
          exact .plain (PE.imp (pe_disp (pps_cons hx hval pps_nil) rfl rfl (by simp) (by simp)) fun _ _ _ q => tE_dspV hq hv q) (fun _ _ _ => by simp) (fun _ _ _ => by simp) (fun _ _ _ _ => by simp) (fun _ _ _ _ => by simp)
    · cases h
  | .dspG t es, X, C, W, xa, e, cx, h => by
    obtain ⟨ks, vs, pos, rfl, h1, h2, h3⟩ := dspG_inv h
    obtain ⟨q1, q2, q3⟩ := okPr_len es h1
    have hp : PPs X pos ks vs (prs (yw X C.xs W xa) T es) := pP es cx h1
    have k0 : ks ≠ [] := fun z => by
      rw [z] at q3
      exact h2 (List.length_eq_zero_iff.mp q3.symm)
    refine .plain ?_ (fun _ _ _ => by simp) (fun _ _ _ => by simp) (fun _ _ _ _ => by simp) (fun _ _ _ _ => by simp)
    cases t with
    | false => exact PE.imp (pe_disp hp q1 q2 k0 (by omega)) fun _ _ _ q => tE_dspK (by omega) q
    | true => exact PE.imp (pe_dispT (by have := cx.un; omega) hp q1 q2 k0 (by omega)) fun _ _ _ q => tE_dspT (by omega) q
  | .idx a b, X, C, W, xa, e, cx, h => by
    cases e <;> first
      | (cases h; done)
      | skip
    obtain ⟨h1, h2⟩ := and2 h
    obtain ⟨h2, h3⟩ := and2 h2
    exact .plain (PE.imp (pe_ix (ix_all (by have := cx.un; omega)) (pE a cx h1).ex (pE b cx h2).ex (plainIx_of h3)) fun _ _ _ q => tE_idx q) (fun _ _ _ => by simp) (fun _ _ _ => by simp) (fun _ _ _ _ => by simp) (fun _ _ _ _ => by simp)
  | .slc a lo hi, X, C, W, xa, e, cx, h => by
    cases e <;> first
      | (cases h; done)
      | skip
    obtain ⟨lo', hi', p, rfl, h1, h2, h3⟩ := slc_inv h
    exact .plain (PE.imp (pe_slice sl_all (pE a cx h1).ex (pO lo cx h2) (pO hi cx h3)) fun _ _ _ q => tE_slc q) (fun _ _ _ => by simp) (fun _ _ _ => by simp) (fun _ _ _ _ => by simp) (fun _ _ _ _ => by simp)
  | .rev a, X, C, W, xa, e, cx, h => by
    cases e <;> first
      | (cases h; done)
      | skip
    obtain ⟨k, p1, p2, p3, rfl, h1⟩ := rev_neg h
    exact .plain (PE.imp (pe_revLT (pE a cx h1).ex) fun _ _ _ q => tE_rev q) (fun _ _ _ => by simp) (fun _ _ _ => by simp) (fun _ _ _ _ => by simp) (fun _ _ _ _ => by simp)
  | .isi a t, X, C, W, xa, e, cx, h => by
    obtain ⟨f, p, x, ty, p2, pos, rfl, h1, h2, h3⟩ := isi_inv h
    obtain ⟨rfl, hg, hm⟩ := nm_of cx h1
    exact .call (PE.imp (pe_callB call_isiV hg hm (by decide +kernel) (pa_cons (pE a cx h3).ex (pa_cons (ty_pe cx h2) pa_nil) (star1 (okE_star h3))) (by decide +kernel) (by decide +kernel) (star1 (okE_star h3)) rfl) fun _ _ _ q => tE_isi q)
  | .call f es, X, C, W, xa, e, cx, h => by
    obtain ⟨x, p, xs, pos, rfl, h1, h2, h3, h4, h5⟩ := call_inv h
    exact .call (call_pe cx h1 h2 h3 h4 h5 (pL es cx h3))
  | .blt b es, X, C, W, xa, e, cx, h => by
    obtain ⟨x, p, xs, pos, rfl, h1, h2, h3, h4⟩ := blt_inv h
    have ih := pL es cx h2
    cases es with
    | nil => cases h3
    | cons c cs =>
      obtain ⟨e, es', rfl, g1, g2⟩ := okL_cons h2
      exact .call (PE.imp (bf_pe cx h4 h1 ih.a (star1 (okE_star g1)) (okL_star g2 _ _)) fun _ _ _ q => tE_blt q)
  | .rngL t [a], X, C, W, xa, e, cx, h => by
    obtain ⟨x, p, y, p2, xs, p3, pos, rfl, h1, h2, h3, _, hcool⟩ := rngL_inv h
    have hcalm := cx.calm hcool
    obtain ⟨rfl, hg, hm⟩ := nm_of cx h1
    obtain ⟨rfl, hg2, hm2⟩ := nm_of cx h2
    obtain ⟨e1, es1, rfl, g1, g2⟩ := okL_cons h3
    have := okL_nil g2
    subst this
    have pr := prg_1 (p := p2) (pos := p3) hg2 hm2 (pE a cx g1).ex (star1 (okE_star g1))
    refine .call ?_
    cases t with
    | true => exact PE.imp (pe_tupRg hcalm hg hm pr) fun _ _ _ q => tE_rng1 q
    | false => exact PE.imp (pe_listRg hcalm hg hm pr) fun _ _ _ q => tE_rng1 q
  | .rngL t [a, b], X, C, W, xa, e, cx, h => by
    obtain ⟨x, p, y, p2, xs, p3, pos, rfl, h1, h2, h3, _, hcool⟩ := rngL_inv h
    have hcalm := cx.calm hcool
    obtain ⟨rfl, hg, hm⟩ := nm_of cx h1
    obtain ⟨rfl, hg2, hm2⟩ := nm_of cx h2
    obtain ⟨e1, es1, rfl, g1, g2⟩ := okL_cons h3
    obtain ⟨e2, es2, rfl, g3, g4⟩ := okL_cons g2
    have := okL_nil g4
    subst this
    have pr := prg_2 (p := p2) (pos := p3) hg2 hm2 (pE a cx g1).ex (pE b cx g3).ex (star1 (okE_star g1)) (star1 (okE_star g3)) (okL_star g2 _ _)
    refine .call ?_
    cases t with
    | true => exact PE.imp (pe_tupRg hcalm hg hm pr) fun _ _ _ q => tE_rng2 q
    | false => exact PE.imp (pe_listRg hcalm hg hm pr) fun _ _ _ q => tE_rng2 q
  | .rngL t [], X, C, W, xa, e, cx, h => by
    obtain ⟨x, p, y, p2, xs, p3, pos, rfl, h1, h2, h3, h4, _⟩ := rngL_inv h
    rcases h4 with h4 | h4 <;> cases h4
  | .rngL t (_ :: _ :: _ :: _), X, C, W, xa, e, cx, h => by
    obtain ⟨x, p, y, p2, xs, p3, pos, rfl, h1, h2, h3, h4, _⟩ := rngL_inv h
    simp at h4
  | .mth .get1 o [a], X, C, W, xa, e, cx, h => by
    obtain ⟨x, n, apos, xs, cpos, rfl, rfl, h1, h2, h3, h4, h5⟩ := mth_inv h
    obtain ⟨e1, es1, rfl, g1, g2⟩ := okL_cons h2
    have := okL_nil g2
    subst this
    exact .call (PE.imp (pe_dget1 (by have := cx.un; omega) (pE o cx h1).ex (pE a cx g1).ex ⟨base_name h4 _ _ _, few30 (cs := [a]) h2 (by simp) _ _, h5, by rw [star1 (okE_star g1)]; rfl⟩) fun _ _ _ q => tE_get1 q)
  | .mth .get2 o [a, b], X, C, W, xa, e, cx, h => by
    obtain ⟨x, n, apos, xs, cpos, rfl, rfl, h1, h2, h3, h4, h5⟩ := mth_inv h
    obtain ⟨e1, es1, rfl, g1, g2⟩ := okL_cons h2
    obtain ⟨e2, es2, rfl, g3, g4⟩ := okL_cons g2
    have := okL_nil g4
    subst this
    exact .call (PE.imp (pe_dget2 (by have := cx.un; omega) (pE o cx h1).ex (pE a cx g1).ex (pE b cx g3).ex ⟨base_name h4 _ _ _, few30 (cs := [a, b]) h2 (by simp) _ _, h5, by rw [star1 (okE_star g1), star1 (okE_star g3)]; rfl⟩) fun _ _ _ q => tE_get2 q)
  | .mth .count o [a], X, C, W, xa, e, cx, h => by
    obtain ⟨x, n, apos, xs, cpos, rfl, rfl, h1, h2, h3, h4, h5⟩ := mth_inv h
    obtain ⟨e1, es1, rfl, g1, g2⟩ := okL_cons h2
    have := okL_nil g2
    subst this
    exact .call (PE.imp (pe_bm F.plainAttrs_list F.slot_list_count F.type_list_count mt_countA (pE o cx h1).ex (pa_cons (pE a cx g1).ex pa_nil (star1 (okE_star g1))) (base_name h4 _ _ _) (few30 (cs := [a]) h2 (by simp) _ _) h5 (star1 (okE_star g1)) rfl) fun _ _ _ q => tE_count q)
  | .mth .get1 o [], X, C, W, xa, e, cx, h => by obtain ⟨x, n, apos, xs, cpos, rfl, rfl, h1, h2, h3, h4, h5⟩ := mth_inv h; cases h3
  | .mth .get1 o (_ :: _ :: _), X, C, W, xa, e, cx, h => by obtain ⟨x, n, apos, xs, cpos, rfl, rfl, h1, h2, h3, h4, h5⟩ := mth_inv h; simp [Mt.len] at h3
  | .mth .count o [], X, C, W, xa, e, cx, h => by obtain ⟨x, n, apos, xs, cpos, rfl, rfl, h1, h2, h3, h4, h5⟩ := mth_inv h; cases h3
  | .mth .count o (_ :: _ :: _), X, C, W, xa, e, cx, h => by obtain ⟨x, n, apos, xs, cpos, rfl, rfl, h1, h2, h3, h4, h5⟩ := mth_inv h; simp [Mt.len] at h3
  | .mth .get2 o [], X, C, W, xa, e, cx, h => by obtain ⟨x, n, apos, xs, cpos, rfl, rfl, h1, h2, h3, h4, h5⟩ := mth_inv h; cases h3
  | .mth .get2 o [_], X, C, W, xa, e, cx, h => by obtain ⟨x, n, apos, xs, cpos, rfl, rfl, h1, h2, h3, h4, h5⟩ := mth_inv h; cases h3
  | .mth .get2 o (_ :: _ :: _ :: _), X, C, W, xa, e, cx, h => by obtain ⟨x, n, apos, xs, cpos, rfl, rfl, h1, h2, h3, h4, h5⟩ := mth_inv h; simp [Mt.len] at h3
  | .mth .index o [a], X, C, W, xa, e, cx, h => by
    obtain ⟨x, n, apos, xs, cpos, rfl, rfl, h1, h2, h3, h4, h5⟩ := mth_inv h
    obtain ⟨e1, es1, rfl, g1, g2⟩ := okL_cons h2
    have := okL_nil g2
    subst this
    exact .call (PE.imp (pe_bm F.plainAttrs_list F.slot_list_index F.type_list_index mt_index (pE o cx h1).ex (pa_cons (pE a cx g1).ex pa_nil (star1 (okE_star g1))) (base_name h4 _ _ _) (few30 (cs := [a]) h2 (by simp) _ _) h5 (star1 (okE_star g1)) rfl) fun _ _ _ q => tE_index q)
  | .mth .index o [], X, C, W, xa, e, cx, h => by obtain ⟨x, n, apos, xs, cpos, rfl, rfl, h1, h2, h3, h4, h5⟩ := mth_inv h; cases h3
  | .mth .index o (_ :: _ :: _), X, C, W, xa, e, cx, h => by obtain ⟨x, n, apos, xs, cpos, rfl, rfl, h1, h2, h3, h4, h5⟩ := mth_inv h; simp [Mt.len] at h3
  | .pop i [], X, C, W, xa, e, cx, h => by
    obtain ⟨x, p, apos, xs, cpos, rfl, h1, h2, h3, h4, h5⟩ := pop_inv h
    have := okL_nil h3
    subst this
    have hn := nameOk_d (cx.nm x (List.mem_of_getElem? h1))
    have hv := pe_var (pos := p) (by rw [cx.N]; exact h1) (visB_vis cx.sc h2) hn.1 hn.2.1
    exact .call (PE.imp (pe_bm0 F.plainAttrs_list F.slot_list_pop F.type_list_pop mt_pop hv rfl h5) fun _ _ _ q => tE_pop0 q)
  | .pop i [a], X, C, W, xa, e, cx, h => by
    obtain ⟨x, p, apos, xs, cpos, rfl, h1, h2, h3, h4, h5⟩ := pop_inv h
    obtain ⟨e1, es1, rfl, g1, g2⟩ := okL_cons h3
    have := okL_nil g2
    subst this
    have hn := nameOk_d (cx.nm x (List.mem_of_getElem? h1))
    have hv := pe_var (pos := p) (by rw [cx.N]; exact h1) (visB_vis cx.sc h2) hn.1 hn.2.1
    exact .call (PE.imp (pe_bm F.plainAttrs_list F.slot_list_pop F.type_list_pop mt_popAt hv (pa_cons (pE a cx g1).ex pa_nil (star1 (okE_star g1))) rfl (few30 (cs := [a]) h3 (by simp) _ _) h5 (star1 (okE_star g1)) rfl) fun _ _ _ q => tE_pop1 q)
  | .pop i (_ :: _ :: _), X, C, W, xa, e, cx, h => by
    obtain ⟨x, p, apos, xs, cpos, rfl, h1, h2, h3, h4, h5⟩ := pop_inv h
    simp at h4
  | .lc elt tg it c, X, C, W, xa, e, cx, h => by
    obtain ⟨x, t, i, ifs, sc', pos, rfl, h0, h1, h2, h3, h4, h5, h6⟩ := lc_inv h
    refine .plain ?_ (fun _ _ _ => by simp) (fun _ _ _ => by simp) (fun _ _ _ _ => by simp) (fun _ _ _ _ => by simp)
    have ok := blkOk_by h2
    rw [← cx.N, ← cx.sc] at ok
    have hi := pI it cx h1
    have hfold : ∀ x, foldedSetIterable i X.env x = pure x := fun x => folded_of (okI_noSet h1) _ _
    have pg : ∀ (s : Shared) (H : Hp) (D : Addr) (cl : List (Str × Addr)) (fp : List Addr), PG (X.blk s H sc' (compEnvC sc' cl D X.env) fp) t (tgG X.K tg) := fun s H D cl fp => by have q := tg_pg (cx.blk h0 s H sc' cl D fp) h4; exact q
    have pts : ∀ (s : Shared) (H : Hp) (D : Addr) (cl : List (Str × Addr)) (fp : List Addr), PTs (X.blk s H sc' (compEnvC sc' cl D X.env) fp) ifs (tCK (yw X C.xs WN xa) T c) := fun s H D cl fp => by have q := pC c (cx.blk h0 s H sc' cl D fp) h5; exact q
    have pel : ∀ (s : Shared) (H : Hp) (D : Addr) (cl : List (Str × Addr)) (fp : List Addr), PE (X.blk s H sc' (compEnvC sc' cl D X.env) fp) x (tEK (yw X C.xs WN xa) T elt) := fun s H D cl fp => by have q := (pE elt (cx.blk h0 s H sc' cl D fp) h6).ex; exact q
    have main := pe_lc (pos := pos) (cx.calm h0) cx.nd hi ok pg pts pel hfold
    rw [h3] at main
    exact PE.imp main fun _ _ _ q => tE_lc (Y0 := yw X C.xs WN xa) ⟨rfl, rfl⟩ q
  | .lcD elt tg i c, X, C, W, xa, e, cx, h => by
    obtain ⟨x, t, y, p, ifs, sc', pos, rfl, h0, h1, h1', h2, h3, h4, h5, h6⟩ := lcD_inv h
    refine .plain ?_ (fun _ _ _ => by simp) (fun _ _ _ => by simp) (fun _ _ _ _ => by simp) (fun _ _ _ _ => by simp)
    have ok := blkOk_by h2
    rw [← cx.N, ← cx.sc] at ok
    have hn := nameOk_d (cx.nm y (List.mem_of_getElem? h1))
    have hv := pe_var (X := X) (pos := p) (by rw [cx.N]; exact h1) (visB_vis cx.sc h1') hn.1 hn.2.1
    have hi : PI X t (.Name y p) (iKeys (tVar i)) := pi_keys hv
    have hfold : ∀ x, foldedSetIterable (.Name y p) X.env x = pure x := fun x => folded_of rfl _ _
    have pg : ∀ (s : Shared) (H : Hp) (D : Addr) (cl : List (Str × Addr)) (fp : List Addr), PG (X.blk s H sc' (compEnvC sc' cl D X.env) fp) t (tgG X.K tg) := fun s H D cl fp => by have q := tg_pg (cx.blk h0 s H sc' cl D fp) h4; exact q
    have pts : ∀ (s : Shared) (H : Hp) (D : Addr) (cl : List (Str × Addr)) (fp : List Addr), PTs (X.blk s H sc' (compEnvC sc' cl D X.env) fp) ifs (tCK (yw X C.xs WN xa) T c) := fun s H D cl fp => by have q := pC c (cx.blk h0 s H sc' cl D fp) h5; exact q
    have pel : ∀ (s : Shared) (H : Hp) (D : Addr) (cl : List (Str × Addr)) (fp : List Addr), PE (X.blk s H sc' (compEnvC sc' cl D X.env) fp) x (tEK (yw X C.xs WN xa) T elt) := fun s H D cl fp => by have q := (pE elt (cx.blk h0 s H sc' cl D fp) h6).ex; exact q
    have main := pe_lc (pos := pos) (cx.calm h0) cx.nd hi ok pg pts pel hfold
    rw [h3] at main
    exact PE.imp (PE.or (pe_lock main) main) fun _ _ _ q => tE_lcD (Y := yw X C.xs W xa) (Y0 := yw X C.xs WN xa) ⟨rfl, rfl⟩ q
  | .callO f es, X, C, W, xa, e, cx, h => by
    obtain ⟨x, p, xs, pos, rfl, h1, h2, h3, h4, h5⟩ := callO_inv h
    exact .call (callO_pe cx h1 h2 h3 h4 h5 (pL es cx h3))
  | .srt a, X, C, W, xa, e, cx, h => by
    obtain ⟨x, p, y, p2, b, p3, pos, rfl, h1, h2, h3, hcool⟩ := srt_inv h
    obtain ⟨rfl, hg, hm⟩ := nm_of cx h1
    obtain ⟨rfl, hg2, hm2⟩ := nm_of cx h2
    exact .call (PE.imp (pe_srt (cx.calm hcool) hg hm hg2 hm2 (pE a cx h3).ex (star1 (okE_star h3))) fun _ _ _ q => tE_srt q)
  | .xis i x, X, C, W, xa, e, cx, h => by
    obtain ⟨f, p, n, p1, p2, pos, rfl, h1, h2, h3, h4, h5, h6⟩ := xis_inv h
    obtain ⟨rfl, hg, hm⟩ := nm_of cx h1
    have hn := nameOk_d (cx.nm n (List.mem_of_getElem? h2))
    have hv := pe_var (X := X) (pos := p1) (by rw [cx.N]; exact h2) (visB_vis cx.sc h3) hn.1 hn.2.1
    obtain ⟨o, q1, q2, q3⟩ := (cx.ht h5).p
    refine .call ?_
    cases hc : T.cur with
    | none =>
      refine ⟨fun pins s σ H Q I hh => ?_⟩
      obtain ⟨F, env, _, _, hh⟩ := hh
      have hh : WPr (match env[i]?, T.cur with
        | some .xc, some c => (.ok (.dat (.bl (xsub c.cls x)), env) : Res (R × EnvD))
        | _, _ => .fail) _ _ := hh
      rw [hc] at hh
      cases q : env[i]? with
      | none => rw [q] at hh; exact hh.elim
      | some s0 => rw [q] at hh; cases s0 <;> exact hh.elim
    | some c =>
      obtain ⟨D, ho⟩ := q3 c hc
      obtain ⟨_, D', fx⟩ := cx.xf.2 c.cls ho.m
      have : D' = D := by have := fx.g.symm.trans ho.g; cases this; rfl
      subst this
      rcases h6 with h6 | ⟨rfl, h6⟩
      · obtain ⟨nk, D2, f2⟩ := cx.xf.1 x h6
        have pg := pe_glob (X := X) (pos := p2) (v := .ref D2) (gloB_gl cx.sc h4) f2 rfl (nameOk_d nk).1
        exact PE.imp (pe_callB (call_isX fx.ec q2 ho.z ho.d) hg hm (by decide +kernel) (pa_cons hv (pa_cons pg pa_nil) (star1 rfl)) (by decide +kernel) (by decide +kernel) (star1 rfl) rfl) fun σ H Q q => tE_xis hc (cv := .ref D2) (cw := .ref D2) rfl (fun u r => r) (fx.it x h6 D2 f2).1 (fun z => z) q
      · have pg := pe_bltn (X := X) (pos := p2) (gloB_gl cx.sc h4) (cx.bl _ h6) (v := .ty "ValueError") (u := .type "ValueError") (by decide +kernel) rfl (by decide +kernel) (by decide +kernel)
        exact PE.imp (pe_callB (call_isX fx.ec q2 ho.z ho.d) hg hm (by decide +kernel) (pa_cons hv (pa_cons pg pa_nil) (star1 rfl)) (by decide +kernel) (by decide +kernel) (star1 rfl) rfl) fun σ H Q q => tE_xis hc (cv := .ty "ValueError") (cw := .type "ValueError") rfl (fun u r => r) (by
          rw [fx.iv]
          unfold xsub
          simp) (fun z => z) q
  | .xcl f i, X, C, W, xa, e, cx, h => by
    obtain ⟨x, p, n, p1, pos, rfl, h1, h2, h3, h4, h5⟩ := xcl_inv h
    have hn := nameOk_d (cx.nm n (List.mem_of_getElem? h3))
    have hv := pe_var (X := X) (pos := p1) (by rw [cx.N]; exact h3) (visB_vis cx.sc h4) hn.1 hn.2.1
    have ht := cx.ht h5
    obtain ⟨o, q1, q2, q3⟩ := ht.p
    obtain ⟨k, a, fd, ps, F⟩ := cx.hfx x f h1
    refine .call ?_
    cases hc : T.cur with
    | none =>
      refine ⟨fun pins s σ H Q I hh => ?_⟩
      obtain ⟨F, env, _, _, hh⟩ := hh
      have hh : WPr (match env[i]?, T.cur with
        | some .xc, some c => ((do
          let q ← noX (T.callX f c)
          chk (!q.own && q.d.pure && q.ios.isEmpty)
          .ok (.dat q.d, env)) : Res (R × EnvD))
        | _, _ => .fail) _ _ := hh
      rw [hc] at hh
      cases q : env[i]? with
      | none => rw [q] at hh; exact hh.elim
      | some s0 => rw [q] at hh; cases s0 <;> exact hh.elim
    | some c =>
      obtain ⟨D, ho⟩ := q3 c hc
      exact PE.imp (pe_callE F.ok F.room q1 q2 (gloB_gl cx.sc h2) F.mg F.kp F.bd (fun σ => L2N.passAt cx.tk σ) (pa_cons hv pa_nil (star1 rfl)) (nameOk_d F.nm).1 (star1 rfl) rfl) fun σ H Q q => tE_xcl hc ho q
  | .keep i a, X, C, W, xa, e, cx, h => by
    obtain ⟨h1, h2⟩ := and2 h
    have ih := pE a cx h2
    exact ⟨PE.imp ih.ex fun _ _ _ q => tE_keep q, PT.imp ih.tt fun _ _ _ q => tT_keep q⟩
termination_by structural c => c
theorem pP : ∀ (es : List CE) {X : Cx} {C : CEnv} {W : WX} {xa : Addr} {pos : Pos} {ks : List (Option Expr)} {vs : List Expr}, Ctx T C X W xa → okPr C es ks vs = true → PPs X pos ks vs (prs (yw X C.xs W xa) T es)
  | [], X, C, W, xa, pos, ks, vs, cx, h => by
    obtain ⟨rfl, rfl⟩ := okPr_nil h
    exact pps_nil
  | [_], X, C, W, xa, pos, ks, vs, cx, h => by
    obtain ⟨v, r', k', ks', v', vs', e, _⟩ := okPr_cons h
    cases e
  | k :: v :: r, X, C, W, xa, pos, ks, vs, cx, h => by
    obtain ⟨v2, r', k', ks', v', vs', e, rfl, rfl, h1, h2, h3⟩ := okPr_cons h
    obtain ⟨e1, e2⟩ := List.cons.inj e
    subst e1 e2
    exact pps_cons (pE k cx h1).ex (pE v cx h2).ex (pP r cx h3)
termination_by structural c => c
theorem pL : ∀ (cs : List CE) {X : Cx} {C : CEnv} {W : WX} {xa : Addr} {es : List Expr}, Ctx T C X W xa → okL C cs es = true → LAll T X C.xs W xa cs es
  | [], X, C, W, xa, es, cx, h => by
    have := okL_nil h
    subst this
    exact .nil
  | c :: cs, X, C, W, xa, es, cx, h => by
    obtain ⟨e, es', rfl, h1, h2⟩ := okL_cons h
    exact .cons (okE_star h1) (okL_len h2) (pE c cx h1) (pL cs cx h2)
termination_by structural c => c
theorem pO : ∀ (c : Option CE) {X : Cx} {C : CEnv} {W : WX} {xa : Addr} {e : Option Expr}, Ctx T C X W xa → okO C c e = true → PO X e (tOK (yw X C.xs W xa) T c)
  | none, X, C, W, xa, e, cx, h => by
    have := Option.isNone_iff_eq_none.mp h
    subst this
    exact ⟨fun pins s σ H Q I q => po_none.run pins s σ H Q I (tO_none q)⟩
  | some a, X, C, W, xa, e, cx, h => by
    cases e with
    | none => cases h
    | some e => exact ⟨fun pins s σ H Q I q => (po_some (pE a cx h).ex).run pins s σ H Q I (tO_some q)⟩
termination_by structural c => c
theorem pC : ∀ (c : Option CE) {X : Cx} {C : CEnv} {W : WX} {xa : Addr} {es : List Expr}, Ctx T C X W xa → okC C c es = true → PTs X es (tCK (yw X C.xs W xa) T c)
  | none, X, C, W, xa, es, cx, h => by
    have := List.isEmpty_iff.mp (show es.isEmpty = true from h)
    subst this
    exact ⟨fun pins s σ H Q I q => pts_nil.run pins s σ H Q I (tC_none q)⟩
  | some a, X, C, W, xa, es, cx, h => by
    obtain ⟨e, rfl, h⟩ : ∃ e, es = [e] ∧ okE C a e = true := by
      unfold okC at h
      split at h
      · exact ⟨_, rfl, h⟩
      · cases h
    exact ⟨fun pins s σ H Q I q => (pts_one (pE a cx h).tt).run pins s σ H Q I (tC_some q)⟩
termination_by structural c => c
theorem pI : ∀ (c : CI) {X : Cx} {C : CEnv} {W : WX} {xa : Addr} {tg e : Expr}, Ctx T C X W xa → okI C tg c e = true → PI X tg e (tIK (yw X C.xs W xa) T c)
  | .seq a, X, C, W, xa, tg, e, cx, h => by
    obtain ⟨h1, h2⟩ := and2 h
    have he := (pE a cx h1).ex
    refine ⟨fun pins s σ H R I q => ?_⟩
    refine thn (he.run pins s σ H _ I (tI_seq q)) fun v s1 ⟨x, H1, I1, r1, q1⟩ => ?_
    rcases q1 with q1 | q1
    · exact il_of I1 r1 q1
    · exact it_of I1 r1 q1
  | .rng [a], X, C, W, xa, tg, e, cx, h => by
    obtain ⟨x, p, xs, pos, rfl, h1, h2, h3⟩ := rng_inv h
    obtain ⟨rfl, hg, hm⟩ := nm_of cx h1
    obtain ⟨e1, es1, rfl, g1, g2⟩ := okL_cons h2
    have := okL_nil g2
    subst this
    have s1 : ∀ env, starEach [e1] env = [(false, eval e1 env)] := fun env => star1 (okE_star g1)
    exact PI.imp (pi_range1 hg hm (pa_cons (pE a cx g1).ex pa_nil (s1 _)) (s1 _)) fun _ _ _ q => tI_rng1 q
  | .rng [a, b], X, C, W, xa, tg, e, cx, h => by
    obtain ⟨x, p, xs, pos, rfl, h1, h2, h3⟩ := rng_inv h
    obtain ⟨rfl, hg, hm⟩ := nm_of cx h1
    obtain ⟨e1, es1, rfl, g1, g2⟩ := okL_cons h2
    obtain ⟨e2, es2, rfl, g3, g4⟩ := okL_cons g2
    have := okL_nil g4
    subst this
    have s2 : ∀ env, starEach [e2] env = [(false, eval e2 env)] := fun env => star1 (okE_star g3)
    have s1 : ∀ env, starEach [e1, e2] env = [(false, eval e1 env), (false, eval e2 env)] := fun env => by rw [star1 (okE_star g1), s2]
    exact PI.imp (pi_range2 hg hm (pa_cons (pE a cx g1).ex (pa_cons (pE b cx g3).ex pa_nil (s2 _)) (star1 (okE_star g1))) (s1 _) (s2 _)) fun _ _ _ q => tI_rng2 q
  | .rng [a, b, c], X, C, W, xa, tg, e, cx, h => by
    obtain ⟨x, p, xs, pos, rfl, h1, h2, h3⟩ := rng_inv h
    obtain ⟨rfl, hg, hm⟩ := nm_of cx h1
    obtain ⟨e1, es1, rfl, g1, g2⟩ := okL_cons h2
    obtain ⟨e2, es2, rfl, g3, g4⟩ := okL_cons g2
    obtain ⟨e3, es3, rfl, g5, g6⟩ := okL_cons g4
    have := okL_nil g6
    subst this
    exact PI.imp (pi_range3 hg hm (pa_cons (pE a cx g1).ex (pa_cons (pE b cx g3).ex (pa_cons (pE c cx g5).ex pa_nil (star1 (okE_star g5))) (star1 (okE_star g3))) (star1 (okE_star g1))) (star1 (okE_star g1)) (okL_star g2 _ _)) fun _ _ _ q => tI_rng3 q
  | .rng [], X, C, W, xa, tg, e, cx, h => by
    obtain ⟨x, p, xs, pos, rfl, h1, h2, h3⟩ := rng_inv h
    rcases h3 with h3 | h3 | h3 <;> cases h3
  | .rng (_ :: _ :: _ :: _ :: _), X, C, W, xa, tg, e, cx, h => by
    obtain ⟨x, p, xs, pos, rfl, h1, h2, h3⟩ := rng_inv h
    simp at h3
  | .enm a, X, C, W, xa, tg, e, cx, h => by
    obtain ⟨x, p, e', pos, rfl, h1, h2, h3⟩ := enm_inv h
    obtain ⟨rfl, hg, hm⟩ := nm_of cx h1
    cases tg <;> first
      | (cases h3; done)
      | skip
    have s1 : ∀ env, starEach [e'] env = [(false, eval e' env)] := fun env => star1 (okE_star h2)
    exact PI.imp (pi_enumT hg hm (pa_cons (pE a cx h2).ex pa_nil (s1 _)) (s1 _)) fun _ _ _ q => tI_enm q
  | .zip a b, X, C, W, xa, tg, e, cx, h => by
    obtain ⟨x, p, e1, e2, pos, rfl, h1, h2, h3, h4⟩ := zip_inv h
    obtain ⟨rfl, hg, hm⟩ := nm_of cx h1
    cases tg <;> first
      | (cases h4; done)
      | skip
    have hb : okL C [b] [e2] = true := by show (okE C b e2 && true) = true; rw [h3]; rfl
    have s2 : ∀ env, starEach [e2] env = [(false, eval e2 env)] := fun env => star1 (okE_star h3)
    have s1 : ∀ env, starEach [e1, e2] env = (false, eval e1 env) :: starEach [e2] env := fun env => star1 (okE_star h2)
    have hk : PA X [e1, e2] (tKK (yw X C.xs W xa) T [a, b]) := (LAll.cons (okE_star h2) (okL_len hb) (pE a cx h2) (LAll.cons (okE_star h3) rfl (pE b cx h3) .nil)).k
    exact PI.imp (RZ.pi_zipA hg hm hk (s1 _) (by rw [s2]; rfl)) fun _ _ _ q => tI_zip q
  | .rvd a, X, C, W, xa, tg, e, cx, h => by
    obtain ⟨x, p, e', pos, rfl, h1, h2⟩ := rvd_inv h
    obtain ⟨rfl, hg, hm⟩ := nm_of cx h1
    have s1 : ∀ env, starEach [e'] env = (false, eval e' env) :: starEach [] env := fun env => star1 (okE_star h2)
    exact PI.imp (RT.pi_revA hg hm (pE a cx h2).ex (s1 _)) fun _ _ _ q => tI_rvd q
  | .dky _, X, C, W, xa, tg, e, cx, h => by cases h
termination_by structural c => c
end
end
end VL
/-! VL19: statements, by their forms. -/
namespace VL
open PySem PySem.Spec L2

/-- what stands behind a return -/
def PostR (F : Fr) (env : EnvD) (σ : SV) (H : Hp) (r : R) (env' : EnvD) (v : V) (σ' : SV) (H' : Hp) : Prop :=
  Step env σ H env' σ' H' ∧ match r with
  | .dat d => Sim F env' σ' H' ∧ Rep (Mx F env' σ') H' d v
  | .slot i => Sim F env' σ' H' ∧ σ'[i]? = some (some v) ∧ ∃ s d, env'[i]? = some s ∧ Slot.held s = some d
  | .own d => ∃ a, v = .ref a ∧ H a = none ∧ Sim (F.add a) env' σ' H' ∧ OwnRep (Mx (F.add a) env' σ') H' d a
def OutP (F : Fr) (env : EnvD) (σ : SV) (H : Hp) (D : Ends) : Out → Prop
  | .nx e => ∀ σ' H', Sim F e σ' H' → Step env σ H e σ' H' → D.nx σ' H'
  | .bk e => ∀ σ' H', Sim F e σ' H' → Step env σ H e σ' H' → D.bk σ' H'
  | .ct e => ∀ σ' H', Sim F e σ' H' → Step env σ H e σ' H' → D.ct σ' H'
  | .rt r e => ∀ v σ' H', PostR F env σ H r e v σ' H' → D.rt v H'
/-- the wish for an exception, from a statement -/
def XS (Y : YW) (F : Fr) (env : EnvD) (σ : SV) (H : Hp) (x : Ex) : Prop := ∀ σ' H', Sim F x.env σ' H' → Step env σ H x.env σ' H' → ∀ C d, XRep Y.mg Y.xs x C d → Y.W C d σ' H'
theorem XS.at {Y : YW} {F : Fr} {env : EnvD} {σ : SV} {H : Hp} {x : Ex} (h : XS Y F env σ H x) : XP Y F env σ H x := fun H' S st => h σ H' S st
theorem XS.after {Y : YW} {F : Fr} {env e1 : EnvD} {σ σ1 : SV} {H H1 : Hp} {x : Ex} (s : Step env σ H e1 σ1 H1) (h : XS Y F env σ H x) : XS Y F e1 σ1 H1 x := fun σ' H' S st => h σ' H' S (s.trans st)
def tSK (Y : YW) (T : Tb) (c : CS) : TS := fun D σ H => ∃ F env, FY F Y ∧ Sim F env σ H ∧ WPr (runS T c env) (OutP F env σ H D) (XS Y F env σ H)
def tBK (Y : YW) (T : Tb) (c : List CS) : TS := fun D σ H => ∃ F env, FY F Y ∧ Sim F env σ H ∧ WPr (runB T c env) (OutP F env σ H D) (XS Y F env σ H)
section
variable {F : Fr} {env e1 : EnvD} {σ σ1 : SV} {H H1 : Hp} {D : Ends}
theorem PostR.after {r : R} {env' : EnvD} {v : V} {σ' : SV} {H' : Hp} (s : Step env σ H e1 σ1 H1) (h : PostR F e1 σ1 H1 r env' v σ' H') : PostR F env σ H r env' v σ' H' := by
  refine ⟨s.trans h.1, ?_⟩
  cases r with
  | dat d => exact h.2
  | slot i => exact h.2
  | own d => obtain ⟨_, a, e, n, S, q⟩ := h; exact ⟨a, e, s.nil n, S, q⟩
theorem OutP.after {o : Out} (s : Step env σ H e1 σ1 H1) (h : OutP F env σ H D o) : OutP F e1 σ1 H1 D o := by
  cases o with
  | nx e => exact fun σ' H' S st => h σ' H' S (s.trans st)
  | bk e => exact fun σ' H' S st => h σ' H' S (s.trans st)
  | ct e => exact fun σ' H' S st => h σ' H' S (s.trans st)
  | rt r e => exact fun v σ' H' p => h v σ' H' (p.after s)
theorem Sim.h0none (S : Sim F env σ H) {p : Addr} (hp : H p = none) : F.H0 p = none := by
  cases q : F.H0 p with
  | none => rfl
  | some o =>
    have : ∀ i, F.io i ≠ some p := fun i z => by
      obtain ⟨d, q1, q2⟩ := S.iok i p z
      obtain ⟨a, b1, _, _, b2⟩ := S.io i d q1
      rw [q2] at b1; cases b1
      obtain ⟨o', b3, _⟩ := b2.some
      rw [hp] at b3; cases b3
    have := S.keep p o q this
    rw [hp] at this; cases this
theorem Sim.m0none (S : Sim F env σ H) {p : Addr} (hp : H p = none) : ¬ F.M0 p := fun z => by
  obtain ⟨o, q, _⟩ := S.m0 p z
  rw [hp] at q; cases q
end
section
variable {T : Tb} {Y : YW} {K : PySem.W.Frag} {σ : SV} {H : Hp} {De : Ends}
theorem repL_one {M : Av} {H : Hp} {d : D} {vs : List V} (h : RepL M H [d] vs) : ∃ v, vs = [v] ∧ Rep M H d v := by
  obtain ⟨v, vs', e, r, e0⟩ := h
  rw [show vs' = [] from e0] at e
  exact ⟨v, e, r⟩
theorem repL_two {M : Av} {H : Hp} {d d' : D} {vs : List V} (h : RepL M H [d, d'] vs) : ∃ v v', vs = [v, v'] ∧ Rep M H d v ∧ Rep M H d' v' := by
  obtain ⟨v, vs', e, r, t⟩ := h
  obtain ⟨v', e', r'⟩ := repL_one t
  rw [e'] at e
  exact ⟨v, v', e, r, r'⟩
theorem tS_set {i : Nat} {a : CE} (h : tSK Y T (.set i a) De σ H) : tAsg (tEK Y T a) (gName i) De σ H := by
  obtain ⟨F, env, hK, S, h⟩ := h
  refine ⟨F, env, hK, S, h.seq (fun _ z => z.at) ?_⟩
  rintro ⟨r, e1⟩ _ h x H1 p1
  have share : WPr (esc e1 r >>= fun q => stS q.2 i (.sh q.1) >>= fun e => (Res.ok (.nx e) : Res Out)) (OutP F env σ H De) (XS Y F env σ H) → De.nx (σ.set i (some x)) H1 := by
    intro h
    obtain ⟨⟨d, e2⟩, h2, h⟩ := h.pure (nx_esc ..)
    obtain ⟨e3, h3, k⟩ := h.pure (nx_stS ..)
    obtain ⟨S1, st1, r1⟩ := (p1.valS S).esc p1.sim h2
    obtain ⟨S2, st2⟩ := S1.setSh h3 r1
    exact k _ _ S2 ((p1.1.trans st1).trans st2)
  cases r with
  | dat d => exact share h
  | slot j => exact share h
  | own d =>
    obtain ⟨e3, h3, k⟩ := h.pure (nx_stS ..)
    obtain ⟨st, a, rfl, fa, S', ro⟩ := p1
    obtain ⟨S2, nn⟩ := S'.setOw h3 (S.h0none fa) (S.m0none fa) ro
    refine k _ _ S2 ⟨fun b u e n => ?_, st.th⟩
    have q := st.k b u e n
    exact ⟨q.1, nn b u q.1 q.2 (ne_of_none e fa)⟩
theorem tS_unp {is : List Nat} {a : CE} (h : tSK Y T (.unp is a) De σ H) : tAsg (tEK Y T a) (tgG K (.many is)) De σ H := by
  obtain ⟨F, env, hK, S, h⟩ := h
  refine ⟨F, env, hK, S, h.seq (fun _ z => z.at) ?_⟩
  rintro ⟨r, e1⟩ _ h x H1 p1
  obtain ⟨d, h2, h⟩ := h.pure (nx_frc ..)
  obtain ⟨e2, h3, k⟩ := h.pure (nx_bindTg ..)
  cases d <;> first
    | (cases h3; done)
    | skip
  obtain ⟨p, xs, rfl, e, rl⟩ := ((p1.valS S).w p1.sim h2).tup
  have k' : ∀ σ' H', Sim F e2 σ' H' → Step env σ H e2 σ' H' → De.nx σ' H' := k
  have st1 : Step env σ H e1 σ H1 := p1.1
  have S1 := p1.sim
  refine tg_sim S1 (Rep.of_tup e (S1.notup p xs e) rl) h3 ?_
  intro σ' S' st' so
  exact k' σ' H1 S' (st1.trans st')
theorem tS_par {i j : Nat} {a b : CE} (h : tSK Y T (.par i j a b) De σ H) : tPar i j (tKK Y T [a, b]) De σ H := by
  obtain ⟨F, env, hK, S, h⟩ := h
  refine ⟨F, env, hK, S, h.seq (fun _ z => z.at) ?_⟩
  rintro ⟨ds, e1⟩ _ h vs H1 S1 st1 rl
  rcases ds with _ | ⟨d, _ | ⟨d', _ | ⟨d2, ds⟩⟩⟩
  · exact h.elim
  · exact h.elim
  · obtain ⟨v, w, ev, rv, rw'⟩ := repL_two rl
    have h : WPr (stS e1 i (.sh d) >>= fun e => stS e j (.sh d') >>= fun e => (Res.ok (.nx e) : Res Out)) (OutP F env σ H De) (XS Y F env σ H) := h
    obtain ⟨e2, h2, h⟩ := h.pure (nx_stS ..)
    obtain ⟨e3, h3, k⟩ := h.pure (nx_stS ..)
    obtain ⟨S2, st2⟩ := S1.setSh h2 rv
    obtain ⟨S3, st3⟩ := S2.setSh h3 (rw'.mv st2.kp)
    exact ⟨v, w, ev, k _ _ S3 ((st1.trans st2).trans st3)⟩
  · exact h.elim
theorem put_kp {F : Fr} {env : EnvD} {i : Nat} {s : Slot} {d : D} {p : Addr} {o : HO} (es : env[i]? = some s) (hs : s.held = some d) (ep : σ[i]? = some (some (V.ref p))) : Kp (Mx F env σ) H (Mx F env σ) (upd H p o) := ⟨rfl, fun b u e n => ⟨by
    rw [upd_ne (fun z => n (.inr (by rw [z]; exact ⟨i, s, d, es, hs, ep⟩)))]; exact e, n⟩⟩
/-- o[k] = v, o a list or a dict -/
def tPutS (to tk tv : TE) : TS := fun De σ H => tv σ H fun v H1 => to σ H1 fun x H2 => tk σ H2 fun y H3 => rSetL x y v H3 (fun H4 => De.nx σ H4) ∨ ∃ a H4, x = .ref a ∧ DPut H3 a y v H4 ∧ De.nx σ H4
theorem ps_putS {X : Cx} {o i value : Expr} {td ty tv : TE} {pos pos' : Pos} (hu : X.A.units + 1 < cLine) (ho : PE X o td) (hi : PE X i ty) (hv : PE X value tv) (hs : swapsWith value (some (.Subscript o i pos')) pos.line X.env = pure false) :
    PS X (.Assign [.Subscript o i pos'] value pos) (tPutS td ty tv) := by
  refine ⟨fun pins s σ H De I h => ?_⟩
  refine wpAny_Assign_Subscript (thn (hv.run pins s σ H _ I h) fun r s1 ⟨v, H1, I1, rv, q1⟩ => thn (ho.run pins s1 σ H1 _ I1 q1) fun u s2 ⟨x, H2, I2, rx, q2⟩ => thn (hi.run pins s2 σ H2 _ I2 q2) fun iv s3 ⟨y, H3, I3, ry, q3⟩ => ?_) hs
  rcases q3 with q3 | ⟨a, H4, ex, g, q3⟩
  · exact thn (set_list pins s3 σ H3 x y v u iv r _ I3 rx ry rv q3) fun _ s4 ⟨H4, I4, q4⟩ => ⟨σ, H4, I4, q4⟩
  · subst ex
    obtain rfl : u = Value.ref a := rx
    exact d_setItem hu I3 g ry rv fun s4 I4 => ⟨σ, H4, I4, q3⟩
theorem tS_sub {o : Nat} {kk vv : CE} (h : tSK Y T (.sub o kk vv) De σ H) : tPutS (tVar o) (tEK Y T kk) (tEK Y T vv) De σ H := by
  obtain ⟨F, env, hK, S, h⟩ := h
  refine ⟨F, env, hK, S, h.seq (fun _ z => z.at) ?_⟩
  rintro ⟨rv, e1⟩ _ h v H1 p1
  obtain ⟨⟨dv, e2⟩, h2, h⟩ := h.pure (nx_esc ..)
  obtain ⟨d25, h25, h⟩ := h.pure (nx_rd ..)
  obtain ⟨S2, st2, r2⟩ := (p1.valS S).esc p1.sim h2
  obtain ⟨x, hx⟩ := S2.slot_some h25
  refine ⟨x, hx, F, e2, hK, S2, h.seq (fun _ z => (z.after (p1.1.trans st2)).at) ?_⟩
  rintro ⟨rk, e3⟩ _ h y H3 p3
  obtain ⟨dk, h4, h⟩ := h.pure (nx_frc ..)
  obtain ⟨d, h5, h⟩ := h.pure (nx_rd ..)
  obtain ⟨d', h6, h⟩ := h.pure (nx_putD ..)
  obtain ⟨e4, h7, k⟩ := h.pure (nx_upS ..)
  obtain ⟨s, es, hs⟩ := upS_held h5 h7
  have S3 := p3.sim
  obtain ⟨p, ep, m, ro⟩ := S3.held es hs
  rw [hx] at ep; cases ep
  have wy := (p3.valS S2).w S3 h4
  have rv3 := r2.mv p3.1.kp
  have st : Step env σ H e3 σ H3 := (p1.1.trans st2).trans p3.1
  unfold putD at h6
  split at h6
  · obtain ⟨j, hj, h6⟩ := Res.bind_ok h6
    cases h6
    obtain ⟨xs, ex, rl⟩ := ro
    obtain ⟨S4, st4⟩ := S3.put (o := .lst (xs.set j v)) h7 hx ⟨_, upd_same, (RepL.set rv3 j rl).mv (put_kp es hs hx)⟩ (fun _ => by simp)
    refine .inl ⟨p, xs, _, j, rfl, show y = .int _ from wy, ex, ?_, k _ _ S4 (st.trans st4)⟩
    rw [rl.length]
    exact ofO_ok hj
  · obtain ⟨kk, hk, h6⟩ := Res.bind_ok h6
    obtain ⟨c, h6⟩ := chk_bind h6
    cases h6
    obtain ⟨ks, ex, rl⟩ := ro
    obtain ⟨S4, st4⟩ := S3.put (o := .dK (putK ks kk v)) h7 hx ⟨_, upd_same, (RepK.put kk rv3 rl).mv (put_kp es hs hx)⟩ (fun _ => by simp)
    have hy := keyOf_rep (ofO_ok hk) wy
    subst hy
    exact .inr ⟨p, _, rfl, DPut.k ex (by rw [rl.length, SLeq]; exact of_decide_eq_true c), k _ _ S4 (st.trans st4)⟩
  · obtain ⟨kk, hk, h6⟩ := Res.bind_ok h6
    obtain ⟨c, h6⟩ := chk_bind h6
    cases h6
    obtain ⟨ks, ex, rl⟩ := ro
    obtain ⟨S4, st4⟩ := S3.put (o := .dT (putK ks kk v)) h7 hx ⟨_, upd_same, (RepT.put kk rv3 rl).mv (put_kp es hs hx)⟩ (fun _ => by simp)
    obtain ⟨b, ys, rfl, eb, rb⟩ := wy.tup
    have hy := keysOf_rep (ofO_ok hk) rb
    subst hy
    exact .inr ⟨p, _, rfl, DPut.t ex eb (by rw [rl.length, SLeq]; exact of_decide_eq_true c), k _ _ S4 (st.trans st4)⟩
  · cases h6
/-! ### lists changed by a method -/
def rMut (m : Mu) : V → List V → Hp → VK → Prop := match m with
  | .append => rAppend
  | .insert => fun x vs H Q => ∃ (l : Addr) (xs : List V) (i : Int) (y : V), x = .ref l ∧ vs = [.int i, y] ∧ H l = some (.lst xs) ∧ xs.length < sizeLine ∧ 0 ≤ i ∧ i < 2 ^ 63 ∧ Q .non (upd H l (.lst (xs.take i.toNat ++ [y] ++ xs.drop i.toNat)))
  | .extend => rExtend
  | .clear => rClear
theorem mut_end {F : Fr} {env env' : EnvD} {i : Nat} {s : Slot} {d d' : D} {p : Addr} {m : Mu} {ds : List D} {vs : List V} {Q : VK} (S : Sim F env σ H) (es : env[i]? = some s) (hs : s.held = some d) (ep : σ[i]? = some (some (V.ref p))) (rl : RepL (Mx F env σ) H ds vs) (hm : muD m d ds = .ok d') (hu : upS env i d' = .ok env')
    (k : ∀ H', Sim F env' σ H' → Step env σ H env' σ H' → Q .non H') : rMut m (.ref p) vs H Q := by
  obtain ⟨p', ep', _, ro⟩ := S.held es hs
  rw [ep] at ep'; cases ep'
  unfold muD at hm
  split at hm
  · obtain ⟨c, hm⟩ := chk_bind hm
    cases hm
    obtain ⟨xs, ex, r0⟩ := ro
    obtain ⟨v, rfl, rv⟩ := repL_one rl
    obtain ⟨S4, st4⟩ := S.put (o := .lst (xs ++ [v])) hu ep ⟨_, upd_same, (r0.app (.one rv)).mv (put_kp es hs ep)⟩ (fun _ => by simp)
    exact ⟨p, xs, v, rfl, rfl, ex, by rw [r0.length, SLeq]; exact of_decide_eq_true c, k _ S4 st4⟩
  · rename_i ds0 j d0
    obtain ⟨c, hm⟩ := chk_bind hm
    cases hm
    obtain ⟨c1, c3⟩ := and2 c
    obtain ⟨c1, c2⟩ := and2 c1
    obtain ⟨xs, ex, r0⟩ := ro
    obtain ⟨w, v, rfl, rw', rv⟩ := repL_two rl
    have hw : w = .int j := rw'
    subst hw
    obtain ⟨S4, st4⟩ := S.put (o := .lst (xs.take j.toNat ++ [v] ++ xs.drop j.toNat)) hu ep ⟨_, upd_same, by
      rw [List.append_assoc]
      exact (r0.insertAt rv j.toNat).mv (put_kp es hs ep)⟩ (fun _ => by simp)
    exact ⟨p, xs, j, v, rfl, rfl, ex, by rw [r0.length, SLeq]; exact of_decide_eq_true c1, of_decide_eq_true c2, by have := of_decide_eq_true c3; omega, k _ S4 st4⟩
  · obtain ⟨c, hm⟩ := chk_bind hm
    cases hm
    obtain ⟨xs, ex, r0⟩ := ro
    obtain ⟨v, rfl, rv⟩ := repL_one rl
    obtain ⟨b, zs, rfl, eb, mb, rz⟩ := rv
    obtain ⟨S4, st4⟩ := S.put (o := .lst (xs ++ zs)) hu ep ⟨_, upd_same, (r0.app rz).mv (put_kp es hs ep)⟩ (fun _ => by simp)
    exact ⟨p, b, xs, zs, rfl, rfl, ex, eb, by rw [r0.length, rz.length, SLeq]; exact of_decide_eq_true c, k _ S4 st4⟩
  · cases hm
    obtain ⟨xs, ex, r0⟩ := ro
    rw [show vs = [] from rl]
    obtain ⟨S4, st4⟩ := S.put (o := .lst []) hu ep ⟨_, upd_same, rfl⟩ (fun _ => by simp)
    exact ⟨p, xs, rfl, rfl, ex, k _ S4 st4⟩
  · cases hm
theorem tS_mut {m : Mu} {i : Nat} {es : List CE} (h : tSK Y T (.mut m i es) De σ H) : tDrop (tBM Y.K "list" (rMut m) (tVar i) (tKK Y T es)) De σ H := by
  obtain ⟨F, env, hK, S, h⟩ := h
  obtain ⟨c, h⟩ := h.chk
  obtain ⟨p, xs, ep, hp⟩ := tVar_held S c
  refine ⟨_, ep, .inl ⟨rfl, xs, .inl (.inl hp)⟩, F, env, hK, S, h.seq (fun _ z => z.at) ?_⟩
  rintro ⟨ds, e1⟩ _ h vs H1 S1 st1 rl
  obtain ⟨d, h2, h⟩ := h.pure (nx_rd ..)
  obtain ⟨d', h3, h⟩ := h.pure (nx_muD ..)
  obtain ⟨e2, h4, k⟩ := h.pure (nx_upS ..)
  obtain ⟨s, q1, q2⟩ := upS_held h2 h4
  exact mut_end S1 q1 q2 ep rl h3 h4 fun H' S' st' => k _ _ S' (st1.trans st')
theorem tS_mut0 {m : Mu} {i : Nat} (h : tSK Y T (.mut m i []) De σ H) : tDrop (tBM0 Y.K "list" (rMut m) (tVar i)) De σ H := by
  obtain ⟨v, hv, ty, q⟩ := tS_mut h
  exact ⟨v, hv, ty, tK_nil q⟩
/-! ### small statements -/
theorem tS_exp {a : CE} (h : tSK Y T (.exp a) De σ H) : tDrop (tEK Y T a) De σ H := by
  obtain ⟨F, env, hK, S, h⟩ := h
  refine ⟨F, env, hK, S, h.seq (fun _ z => z.at) ?_⟩
  rintro ⟨r, e1⟩ _ k x H1 p1
  exact k _ _ p1.sim p1.1
theorem tS_retN (h : tSK Y T (.ret none) De σ H) : tRetN De σ H := by
  obtain ⟨F, env, hK, S, k⟩ := h
  exact k _ σ H ⟨Step.refl, S, rfl⟩
theorem tS_ret {a : CE} (h : tSK Y T (.ret (some a)) De σ H) : tRet (tEK Y T a) De σ H := by
  obtain ⟨F, env, hK, S, h⟩ := h
  refine ⟨F, env, hK, S, h.seq (fun _ z => z.at) ?_⟩
  rintro ⟨r, e1⟩ _ k x H1 p1
  refine k _ σ _ ?_
  exact p1
theorem tS_ife {t : CE} {a b : List CS} (h : tSK Y T (.ife t a b) De σ H) : tIfS (tTK Y T t) (tBK Y T a) (tBK Y T b) De σ H := by
  obtain ⟨F, env, hK, S, h⟩ := h
  refine ⟨F, env, hK, S, h.seq (fun _ z => z.at) ?_⟩
  rintro ⟨r, e1⟩ _ h
  obtain ⟨d, h2, h⟩ := h.pure (nx_frc ..)
  obtain ⟨b', h3, h⟩ := h.ofO
  refine ⟨b', h2.trans (congrArg Res.ok (asBl_iff h3)), fun H1 S1 st => ?_⟩
  cases b' with
  | true => exact ite_t ⟨F, e1, hK, S1, WPr.mono h (fun o _ k => k.after st) fun x z => z.after st⟩
  | false => exact ite_f ⟨F, e1, hK, S1, WPr.mono h (fun o _ k => k.after st) fun x z => z.after st⟩
theorem tS_pas (h : tSK Y T .pas De σ H) : tNext De σ H := by
  obtain ⟨F, env, hK, S, k⟩ := h
  exact k _ _ S Step.refl
theorem tS_brk (h : tSK Y T .brk De σ H) : tBreak De σ H := by
  obtain ⟨F, env, hK, S, k⟩ := h
  exact k _ _ S Step.refl
theorem tS_cnt (h : tSK Y T .cnt De σ H) : tCont De σ H := by
  obtain ⟨F, env, hK, S, k⟩ := h
  exact k _ _ S Step.refl
theorem tB_nil (h : tBK Y T [] De σ H) : tNext De σ H := by
  obtain ⟨F, env, hK, S, k⟩ := h
  exact k _ _ S Step.refl
theorem tB_cons {c : CS} {cs : List CS} (h : tBK Y T (c :: cs) De σ H) : tSeq (tSK Y T c) (tBK Y T cs) De σ H := by
  obtain ⟨F, env, hK, S, h⟩ := h
  refine ⟨F, env, hK, S, h.seq (fun _ z => z) ?_⟩
  intro o1 _ h
  cases o1 with
  | nx e => exact fun σ' H' S' st => ⟨F, e, hK, S', WPr.mono h (fun o _ k => k.after st) fun x z => z.after st⟩
  | rt r e => exact h
  | bk e => exact h
  | ct e => exact h
/-! ### loops -/
noncomputable def whT (T : Tb) (t : CE) (b : List CS) (e : EnvD) : Res (Bool × Out) := do
  let (r, e) ← runE T t e
  let d ← frc e r
  let k ← ofO (asBl d)
  if k then do let o ← runB T b e; .ok (true, o) else .ok (false, .nx e)
theorem tS_whl {t : CE} {b : List CS} (h : tSK Y T (.whl t b) De σ H) : tWhile (tTK Y T t) (tBK Y T b) De σ H := by
  obtain ⟨F, env, hK, S, h⟩ := h
  have h : WPr (whileN (whT T t b) WF env) (OutP F env σ H De) (XS Y F env σ H) := h
  refine ⟨fun m σ' H' => ∃ env', Sim F env' σ' H' ∧ Step env σ H env' σ' H' ∧ WPr (whileN (whT T t b) m env') (OutP F env σ H De) (XS Y F env σ H), ⟨WF, env, S, Step.refl, h⟩, ?_⟩
  clear h
  rintro m σ1 H1 ⟨e1, S1, st1, h⟩
  cases m with
  | zero => exact h.elim
  | succ m =>
    have h : WPr (whT T t b e1) _ _ := WPr.b h
    refine ⟨F, e1, hK, S1, h.seq (fun _ z => (z.after st1).at) ?_⟩
    clear h
    rintro ⟨r, e2⟩ _ h
    obtain ⟨d, h2, h⟩ := h.pure (nx_frc ..)
    obtain ⟨b', h3, h⟩ := h.ofO
    refine ⟨b', h2.trans (congrArg Res.ok (asBl_iff h3)), fun H2 S2 st2 => ?_⟩
    cases b' with
    | true =>
      refine ite_t ⟨fun σ' H' => ∃ env', Sim F env' σ' H' ∧ Step env σ H env' σ' H' ∧ WPr (whileN (whT T t b) m env') (OutP F env σ H De) (XS Y F env σ H), fun σ' H' z => ⟨m, Nat.lt_succ_self m, z⟩, ?_⟩
      have h : WPr (runB T b e2 >>= fun o => (Res.ok (true, o) : Res (Bool × Out))) _ _ := h
      refine ⟨F, e2, hK, S2, h.seq (fun _ z => z.after (st1.trans st2)) ?_⟩
      intro o1 _ h
      cases o1 with
      | nx e => exact fun σ' H' S' st => ⟨e, S', (st1.trans st2).trans st, h⟩
      | ct e => exact fun σ' H' S' st => ⟨e, S', (st1.trans st2).trans st, h⟩
      | bk e => exact fun σ' H' S' st => h σ' H' S' ((st1.trans st2).trans st)
      | rt r e => exact fun v σ' H' p => h v σ' H' (p.after (st1.trans st2))
    | false => exact ite_f (h σ1 H2 S2 (st1.trans st2))
noncomputable def foT (T : Tb) (tg : Tg) (b : List CS) (e : EnvD) (x : D) : Res Out := do
  let e ← bindTg e tg x
  runB T b e
theorem tS_for {tg : Tg} {it : CI} {b : List CS} (h : tSK Y T (.for tg it b) De σ H) : tFor (tIK Y T it) (tgG K tg) (tBK Y T b) De σ H := by
  obtain ⟨F, env, hK, S, h⟩ := h
  refine ⟨F, env, hK, S, h.seq (fun _ z => z.at) ?_⟩
  clear h
  rintro ⟨xs, e1⟩ _ h J H1 G S1 st1 wk g1
  have h : WPr (forL (foT T tg b) xs e1) (OutP F env σ H De) (XS Y F env σ H) := h
  refine ⟨fun i m σ' H' => m = xs.length - i ∧ i ≤ xs.length ∧ ∃ e, Sim F e σ' H' ∧ Step env σ H e σ' H' ∧ G (Mx F e σ') H' ∧ WPr (forL (foT T tg b) (xs.drop i) e) (OutP F env σ H De) (XS Y F env σ H), ⟨_, rfl, Nat.zero_le _, e1, S1, st1, g1, h⟩, ?_⟩
  clear h
  rintro i m σ2 H2 ⟨rfl, hi, e, S2, st2, g2, h⟩
  by_cases hlt : i < xs.length
  · right
    refine ⟨wk.go hlt g2, fun σ' H' => ∃ e, Sim F e σ' H' ∧ Step env σ H e σ' H' ∧ G (Mx F e σ') H' ∧ WPr (forL (foT T tg b) (xs.drop (i + 1)) e) (OutP F env σ H De) (XS Y F env σ H), fun σ' H' z => ⟨_, by omega, rfl, hlt, z⟩, fun x H3 y => ?_⟩
    obtain ⟨d, hd, ex, rd⟩ := wk.yld hlt g2 (fun q hq => S2.fresh hq) (fun q xs hq => S2.notup q xs hq) y
    obtain ⟨S3, st3⟩ := S2.ext ex
    have hdrop : xs.drop i = d :: xs.drop (i + 1) := by
      rw [List.drop_eq_getElem_cons hlt]
      congr 1
      exact Option.some.inj ((List.getElem?_eq_getElem hlt).symm.trans hd)
    rw [hdrop] at h
    have h : WPr (foT T tg b e d) _ _ := WPr.b h
    obtain ⟨e4, hb, h⟩ := WPr.pure (nx_bindTg e tg d) h
    refine tg_sim S3 rd hb fun σ4 S4 st4 so => ?_
    have sta := (st2.trans st3).trans st4
    refine ⟨F, e4, hK, S4, h.mono (fun o1 _ h => ?_) fun x z => z.after sta⟩
    cases o1 with
    | nx e5 => exact fun σ' H' S' st => ⟨e5, S', sta.trans st, wk.mv (((st3.trans st4).trans st).kp (F := F)) g2, h⟩
    | ct e5 => exact fun σ' H' S' st => ⟨e5, S', sta.trans st, wk.mv (((st3.trans st4).trans st).kp (F := F)) g2, h⟩
    | bk e5 => exact fun σ' H' S' st => h σ' H' S' (sta.trans st)
    | rt r e5 => exact fun v σ' H' p => h v σ' H' (p.after sta)
  · left
    have hie : i = xs.length := by omega
    subst hie
    rw [List.drop_length] at h
    exact ⟨wk.stop g2, h σ2 H2 S2 st2⟩
end
end VL
/-! VL20: statements: does the code stand for the syntax; joined. -/
namespace VL
open PySem PySem.Spec L2

def Mu.nm : Mu → Str
  | .append => "append" | .insert => "insert" | .extend => "extend" | .clear => "clear"
def lineOk (x : Str) (p : Pos) : Expr → Bool
  | .ListComp _ _ scope pos => (p.line == pos.line) && !(scope.names.any fun (n, k) => n == x && (k == .local || k == .cell))
  | _ => false
def unpV : Expr → Bool
  | .Tuple vs _ _ => !(vs.length == 2 || vs.length == 3) || vs.all (foldedForSure 8)
  | _ => true
def parV (xs : List Expr) : Bool := !(xs.all (foldedForSure 8)) && !(xs.all (constantsAlone 8))
mutual
def okS (C : CEnv) : CS → Stmt → Bool
  | .set i a, s => (match s with
    | .Assign [.Name x p] e _ => decide (C.N[i]? = some x) && (storeB C x && (okE C a e && (noComp e || (if locB C.sc x then lineOk x p e else true))))
    | _ => false)
  | .unp is a, s => (match s with
    | .Assign [.Tuple ts k p] e _ => Tg.ok C (.many is) (.Tuple ts k p) && (okE C a e && unpV e)
    | _ => false)
  | .par i j a b, s => (match s with
    | .Assign [.Tuple [.Name x px, .Name y py] _ _] (.Tuple [ea, eb] _ _) _ => decide (C.N[i]? = some x) && (decide (C.N[j]? = some y) && (locB C.sc x && (locB C.sc y && (decide (i ≠ j) && (decide (x ≠ y) && ((px.line == py.line) && (okE C a ea && (okE C b eb && (parV [ea, eb] && C.cool)))))))))
    | _ => false)
  | .sub o a b, s => (match s with
    | .Assign [.Subscript (.Name x _) ik _] e _ => decide (C.N[o]? = some x) && (visB C.sc x && (okE C a ik && okE C b e))
    | _ => false)
  | .mut m i es, s => (match s with
    | .Expr (.Call (.Attribute (.Name x _) n apos) xs [] cpos) _ => decide (n = m.nm) && (decide (C.N[i]? = some x) && (visB C.sc x && (okL C es xs && (decide (es.length < 30) && (apos.endLine == cpos.line)))))
    | _ => false)
  | .exp a, s => (match s with
    | .Expr e _ => okE C a e && noComp e
    | _ => false)
  | .ret o, s => (match s with
    | .Return oe _ => okR C o oe
    | _ => false)
  | .ife t a b, s => (match s with
    | .If t' a' b' _ => okE C t t' && (okB C a a' && okB C b b')
    | _ => false)
  | .whl t b, s => (match s with
    | .While t' b' [] _ => okE C t t' && okB C b b'
    | _ => false)
  | .for tg it b, s => (match s with
    | .For t' i' b' [] _ => C.cool && (tg.ok C t' && (okI C t' it i' && okB C b b'))
    | _ => false)
  | .forS en tg i b, s => (match s with
    | .For t' i' b' [] _ => C.cool && (tg.ok C t' && (okI C t' (if en then .enm (.var i) else .seq (.var i)) i' && okB C b b'))
    | _ => false)
  | .forD tg i b, s => (match s with
    | .For t' (.Name y _) b' [] _ => C.cool && (tg.ok C t' && (decide (C.N[i]? = some y) && (visB C.sc y && okB C b b')))
    | _ => false)
  | .brk, s => (match s with
    | .Break _ => true
    | _ => false)
  | .cnt, s => (match s with
    | .Continue _ => true
    | _ => false)
  | .pas, s => (match s with
    | .Pass _ => true
    | .Expr (.Constant (.str _) _ _) _ => true
    | _ => false)
  | .nev, _ => true
  | .rse x, s => (match s with
    | .Raise (some (.Call (.Name y _) [.Constant (.str _) _ _] [] _)) none _ => decide (y = x) && (gloB C.sc x && (decide (x ∈ C.xs) && C.cool))
    | _ => false)
  | .tr b i x s, st => (match st with
    | .Try b' [.ExceptHandler (some (.Name y _)) (some n) (s0 :: s') _] [] [] _ => decide (y = x) && (gloB C.sc x && (decide (x ∈ C.rs) && (decide (C.N[i]? = some n) && (locB C.sc n && (C.cool && (okB C b b' && okB { C with cool := false } s (s0 :: s')))))))
    | _ => false)
termination_by structural c => c
def okR (C : CEnv) : Option CE → Option Expr → Bool
  | none, o => o.isNone
  | some a, o => (match o with
    | some e => okE C a e
    | none => false)
termination_by structural c => c
def okB (C : CEnv) : List CS → List Stmt → Bool
  | [], l => l.isEmpty
  | c :: cs, l => (match l with
    | s :: ss => okS C c s && okB C cs ss
    | [] => false)
termination_by structural c => c
end
section
variable {T : Tb} {X : Cx} {C : CEnv} {W : WX} {xa : Addr}
theorem swaps_cell {x : Str} {p : Pos} {l : Nat} {env : Env} (h : env.scope.names.lookup x = some .cell) (v : Expr) : swapsWith v (some (.Name x p)) l env = pure false := by
  have hk : env.kindOf x = some .cell := h
  cases v <;> first
    | rfl
    | (unfold swapsWith; simp only [hk]; simp [show (NameKind.cell == NameKind.local) = false from rfl])
theorem swaps_sub (v : Expr) (o i : Expr) (p : Pos) (l : Nat) (env : Env) : swapsWith v (some (.Subscript o i p)) l env = pure false := by cases v <;> rfl
theorem swaps_tup (v : Expr) (ts : List Expr) (k : Nat) (p : Pos) (l : Nat) (env : Env) : swapsWithSole [.Tuple ts k p] v l env = pure false := by cases v <;> rfl
theorem swp_eq (ts vs : List Expr) (k k2 : Nat) (p p2 : Pos) (env : Env) : swappedStores [.Tuple ts k p] (.Tuple vs k2 p2) env =
    (if (!(ts.length == 2 || ts.length == 3) || vs.length != ts.length || env.blockKind != .function) = true then pure none else
     if (vs.any fun | .Starred .. => true | _ => false) = true then pure none else
     let line := (ts.head?.map (·.pos.line)).getD 0
     let names := ts.filterMap fun
      | .Name id pos => if env.kindOf id == some .local && pos.line == line then some id else none
      | _ => none
     if (names.length != ts.length || names.eraseDups.length != names.length) = true then pure none else
     if vs.all (foldedForSure 8) = true then pure none else
     if vs.all (constantsAlone 8) = true then (do unsupported "assign.tuple-of-constant-expressions:order-of-the-stores"; pure (some names)) else pure (some names)) := rfl
theorem swp_none {ts : List Expr} {k : Nat} {p : Pos} {e : Expr} {env : Env} (h : unpV e = true) : swappedStores [.Tuple ts k p] e env = pure none := by
  cases e <;> first
    | rfl
    | skip
  rename_i vs k2 p2
  have h : (!(vs.length == 2 || vs.length == 3) || vs.all (foldedForSure 8)) = true := h
  rw [swp_eq]
  by_cases h1 : (!(ts.length == 2 || ts.length == 3) || vs.length != ts.length || env.blockKind != .function) = true
  · rw [if_pos h1]
  · rw [if_neg h1]
    by_cases h2 : (vs.any fun | .Starred .. => true | _ => false) = true
    · rw [if_pos h2]
    · rw [if_neg h2]
      have hv : vs.all (foldedForSure 8) = true := by
        rcases Bool.or_eq_true_iff.mp h with q | q
        · simp only [Bool.or_eq_true, not_or, Bool.not_eq_true', bne_iff_ne, ne_eq, Decidable.not_not, Bool.not_eq_true] at h1
          obtain ⟨⟨g1, g2⟩, g3⟩ := h1
          rw [g2] at q
          have q' : ts.length ≠ 2 ∧ ts.length ≠ 3 := by simpa using q
          have g1' : ¬ ts.length = 2 → ts.length = 3 := by simpa using g1
          exact absurd (g1' q'.1) q'.2
        · exact q
      show (if _ then _ else _) = _
      split
      · rfl
      · first
        | rfl
        | rw [if_pos hv]
theorem swp_par {x y : Str} {px py p p2 : Pos} {k k2 : Nat} {a b : Expr} {env : Env} (hk : env.scope.kind = .function) (hx : env.scope.names.lookup x = some .local) (hy : env.scope.names.lookup y = some .local) (ne : x ≠ y) (hl : (px.line == py.line) = true)
    (sa : noStar a = true) (sb : noStar b = true) (hv : parV [a, b] = true) : swappedStores [.Tuple [.Name x px, .Name y py] k p] (.Tuple [a, b] k2 p2) env = pure (some [x, y]) := by
  have kx : env.kindOf x = some .local := hx
  have ky : env.kindOf y = some .local := hy
  have hb : env.blockKind = .function := by unfold Env.blockKind; rw [hk]; rfl
  obtain ⟨v1, v2⟩ := and2 hv
  have l0 : py.line = px.line := (eq_of_beq hl).symm
  rw [swp_eq]
  have h1 : ((!(([Expr.Name x px, .Name y py] : List Expr).length == 2 || ([Expr.Name x px, .Name y py] : List Expr).length == 3) || ([a, b] : List Expr).length != ([Expr.Name x px, .Name y py] : List Expr).length || env.blockKind != .function)) = false := by
    rw [hb]; rfl
  rw [if_neg (by rw [h1]; exact Bool.false_ne_true)]
  have h2 : (([a, b] : List Expr).any fun | .Starred .. => true | _ => false) = false := by
    have e1 : ∀ z : Expr, noStar z = true → ¬ ((match z with | .Starred .. => true | _ => false) = true) := fun z hz h => by cases z <;> first | (cases h; done) | (cases hz; done)
    refine List.any_eq_false.mpr fun z hz => ?_
    rcases List.mem_cons.mp hz with q | q
    · subst q; exact e1 _ sa
    · rw [List.mem_singleton.mp q]; exact e1 _ sb
  rw [if_neg (by rw [h2]; exact Bool.false_ne_true)]
  have names : (([Expr.Name x px, .Name y py] : List Expr).filterMap fun
      | .Name id pos => if env.kindOf id == some .local && pos.line == (((([Expr.Name x px, .Name y py] : List Expr).head?.map (·.pos.line)).getD 0)) then some id else none
      | _ => none) = [x, y] := by
    simp [List.filterMap_cons, kx, ky, Expr.pos, l0]
  simp only [names]
  have h3 : (([x, y] : List Str).length != ([Expr.Name x px, .Name y py] : List Expr).length || ([x, y] : List Str).eraseDups.length != ([x, y] : List Str).length) = false := by
    have : ([x, y] : List Str).eraseDups = [x, y] := by
      simp [List.eraseDups_cons, ne, Ne.symm ne]
    rw [this]; rfl
  rw [if_neg (by rw [h3]; exact Bool.false_ne_true), if_neg (by rw [(Bool.not_eq_true' _).mp v1]; exact Bool.false_ne_true), if_neg (by rw [(Bool.not_eq_true' _).mp v2]; exact Bool.false_ne_true)]
end
end VL
/-! VLF: a list walked in its slot. -/
namespace VL
open PySem PySem.Spec L2
/-- frames alike but for slot i -/
structure LFr (F F2 : Fr) (i : Nat) (a : Addr) (o2 : Bool) : Prop where
  K : F2.K = F.K
  M : F2.M0 = F.M0
  h0 : F2.H0 = F.H0
  io : ∀ j, j ≠ i → F2.io j = F.io j
  xa : F2.xa = F.xa
  ow : o2 = true → F.H0 a = none ∧ F2.io i = none
  iw : o2 = false → F2.io i = some a
theorem LFr.add {F F2 : Fr} {i : Nat} {a : Addr} {o2 : Bool} (k : LFr F F2 i a o2) (p : Addr) : LFr (F.add p) (F2.add p) i a o2 :=
  ⟨k.K, by show (fun b => F2.M0 b ∨ b = p) = fun b => F.M0 b ∨ b = p; rw [k.M], k.h0, k.io, k.xa, k.ow, k.iw⟩
section
variable {F F2 : Fr} {env : EnvD} {σ : SV} {H : Hp} {i : Nat} {a : Addr} {d : D} {o o2 : Bool}
theorem owns_re (h : env[i]? = some (ownS o d)) (b : Addr) (d2 : D) : Owns (env.set i (ownS o2 d2)) σ b ↔ Owns env σ b := by
  have hi : i < env.length := (List.getElem?_eq_some_iff.mp h).1
  constructor
  · rintro ⟨j, s, dd, e1, e2, e3⟩
    by_cases hj : j = i
    · subst hj; exact ⟨j, _, d, h, ownS_held, e3⟩
    · rw [List.getElem?_set_ne (Ne.symm hj)] at e1; exact ⟨j, s, dd, e1, e2, e3⟩
  · rintro ⟨j, s, dd, e1, e2, e3⟩
    by_cases hj : j = i
    · subst hj; exact ⟨j, _, d2, List.getElem?_set_self hi, ownS_held, e3⟩
    · exact ⟨j, s, dd, by rw [List.getElem?_set_ne (Ne.symm hj)]; exact e1, e2, e3⟩
theorem mx_re (lf : LFr F F2 i a o2) (h : env[i]? = some (ownS o d)) (d2 : D) : Mx F2 (env.set i (ownS o2 d2)) σ = Mx F env σ := by
  show (⟨F2.K, fun b => F2.M0 b ∨ Owns (env.set i (ownS o2 d2)) σ b⟩ : Av) = ⟨F.K, fun b => F.M0 b ∨ Owns env σ b⟩
  rw [lf.K, lf.M]
  congr 1
  funext b
  exact propext (or_congr_right (owns_re h b d2))
theorem Sim.relabel (S : Sim F env σ H) (h : env[i]? = some (ownS o d)) (hv : σ[i]? = some (some (V.ref a))) (lf : LFr F F2 i a o2) : Sim F2 (env.set i (ownS o2 d)) σ H := by
  have hi : i < env.length := (List.getElem?_eq_some_iff.mp h).1
  have hM : Mx F2 (env.set i (ownS o2 d)) σ = Mx F env σ := mx_re lf h d
  have own : ¬ F.M0 a ∧ OwnRep (Mx F env σ) H d a := by
    cases o with
    | true => obtain ⟨x, e1, m, _, r⟩ := S.ow i d h; rw [hv] at e1; cases e1; exact ⟨m, r⟩
    | false => obtain ⟨x, e1, m, _, r⟩ := S.io i d h; rw [hv] at e1; cases e1; exact ⟨m, r⟩
  have back : ∀ (j : Nat) (s : Slot) (x : D), (env.set i (ownS o2 d))[j]? = some s → s.held = some x → ∃ s' x', env[j]? = some s' ∧ s'.held = some x' := fun j s x q hx => by
    by_cases hj : j = i
    · exact ⟨_, d, by rw [hj]; exact h, ownS_held⟩
    · rw [List.getElem?_set_ne (Ne.symm hj)] at q; exact ⟨s, x, q, hx⟩
  refine ⟨by rw [List.length_set]; exact S.len, fun j d' q => ?_, fun j d' q => ?_, fun j d' q => ?_, fun j k s t x y b e1 h1 e2 h2 e3 e4 => ?_, fun b z => S.m0 b (by rw [lf.M] at z; exact z), fun b u q n => ?_, fun j b q => ?_, fun j q => by rw [lf.xa]; exact xc_set S (by cases o2 <;> simp [ownS]) j q⟩
  · rw [hM]
    by_cases hj : j = i
    · rw [hj, List.getElem?_set_self hi] at q
      cases o2 <;> cases q
    · rw [List.getElem?_set_ne (Ne.symm hj)] at q
      exact S.sh j d' q
  · rw [hM]
    by_cases hj : j = i
    · rw [hj, List.getElem?_set_self hi] at q
      cases o2 with
      | false => cases q
      | true =>
        cases q
        subst hj
        exact ⟨a, hv, by rw [lf.M]; exact own.1, by rw [lf.h0]; exact (lf.ow rfl).1, own.2⟩
    · rw [List.getElem?_set_ne (Ne.symm hj)] at q
      obtain ⟨x, e1, m, f, r⟩ := S.ow j d' q
      exact ⟨x, e1, by rw [lf.M]; exact m, by rw [lf.h0]; exact f, r⟩
  · rw [hM]
    by_cases hj : j = i
    · rw [hj, List.getElem?_set_self hi] at q
      cases o2 with
      | true => cases q
      | false =>
        cases q
        subst hj
        exact ⟨a, hv, by rw [lf.M]; exact own.1, lf.iw rfl, own.2⟩
    · rw [List.getElem?_set_ne (Ne.symm hj)] at q
      obtain ⟨x, e1, m, f, r⟩ := S.io j d' q
      exact ⟨x, e1, by rw [lf.M]; exact m, (lf.io j hj).trans f, r⟩
  · obtain ⟨s', x', q1, q2⟩ := back j s x e1 h1
    obtain ⟨t', y', q3, q4⟩ := back k t y e2 h2
    exact S.inj j k s' t' x' y' b q1 q2 q3 q4 e3 e4
  · rw [lf.h0] at q
    refine S.keep b u q fun j z => ?_
    by_cases hj : j = i
    · subst hj
      obtain ⟨d', q1, q2⟩ := S.iok j b z
      rw [hv] at q2; cases q2
      cases o2 with
      | true => rw [(lf.ow rfl).1] at q; cases q
      | false => exact n j (lf.iw rfl)
    · exact n j ((lf.io j hj).trans z)
  · by_cases hj : j = i
    · subst hj
      cases o2 with
      | true => rw [(lf.ow rfl).2] at q; cases q
      | false =>
        rw [lf.iw rfl] at q; cases q
        exact ⟨d, List.getElem?_set_self hi, hv⟩
    · obtain ⟨d', q1, q2⟩ := S.iok j b ((lf.io j hj).symm.trans q)
      exact ⟨d', by rw [List.getElem?_set_ne (Ne.symm hj)]; exact q1, q2⟩
theorem held_io {s : Option Slot} {q : D × Bool} {d : D} (h : heldO s = some q) (e : s = some (.io d)) : q = (d, false) := by subst e; cases h; rfl
theorem step_re {e : EnvD} {σ' : SV} {H' : Hp} {d2 d3 : D} {o3 : Bool} (h : env[i]? = some (ownS o d)) (he : e[i]? = some (ownS o3 d3)) (st : Step (env.set i (.io d)) σ H e σ' H') : Step env σ H (e.set i (ownS o2 d2)) σ' H' :=
  ⟨fun b u q n => have z := st.k b u q fun y => n ((owns_re (o2 := false) h b d).mp y)
    ⟨z.1, fun y => z.2 ((owns_re he b d2).mp y)⟩, st.th⟩
end
section
variable {T : Tb} {Y : YW} {W : WX} {xa : Addr} {σ : SV} {H : Hp} {De : Ends}
def tIS (K : PySem.W.Frag) (en : Bool) (i : Nat) : TI := fun σ H R => ∃ p xs, σ[i]? = some (some (V.ref p)) ∧ SqL K H p xs ∧ R (if en then Ite K p else Itl K p) H
theorem pIS {X : Cx} {C : CEnv} {tg e : Expr} {en : Bool} {i : Nat} (cx : Ctx T C X W xa) (h : okI C tg (if en then .enm (.var i) else .seq (.var i)) e = true) : PI X tg e (tIS X.K en i) := by
  cases en with
  | false =>
    obtain ⟨h1, h2⟩ := and2 (show (okE C (.var i) e && noSet e) = true from h)
    cases e <;> first
      | (cases h1; done)
      | skip
    obtain ⟨g1, g2⟩ := and2 h1
    have g1 := of_decide_eq_true g1
    have hn := nameOk_d (cx.nm _ (List.mem_of_getElem? g1))
    have he := pe_var (X := X) (pos := ‹Pos›) (by rw [cx.N]; exact g1) (visB_vis cx.sc g2) hn.1 hn.2.1
    refine ⟨fun pins s σ H R I q => ?_⟩
    obtain ⟨p, xs, hv, hs, k⟩ := q
    refine thn (he.run pins s σ H (fun v H1 => ∃ p, v = .ref p ∧ (∃ xs, SqL X.K H1 p xs) ∧ R (Itl X.K p) H1) I ⟨.ref p, hv, p, rfl, ⟨xs, hs⟩, k⟩) fun v s1 ⟨x, H1, I1, r1, q1⟩ => il_of I1 r1 q1
  | true =>
    obtain ⟨x, p, e', pos, rfl, h1, h2, h3⟩ := enm_inv h
    obtain ⟨rfl, hg, hm⟩ := nm_of cx h1
    cases tg <;> first
      | (cases h3; done)
      | skip
    have s1 : ∀ env, starEach [e'] env = [(false, eval e' env)] := fun env => star1 (okE_star h2)
    cases e' <;> first
      | (cases h2; done)
      | skip
    obtain ⟨g1, g2⟩ := and2 h2
    have g1 := of_decide_eq_true g1
    have hn := nameOk_d (cx.nm _ (List.mem_of_getElem? g1))
    have he := pe_var (X := X) (pos := ‹Pos›) (by rw [cx.N]; exact g1) (visB_vis cx.sc g2) hn.1 hn.2.1
    refine PI.imp (pi_enum hg hm (pa_cons he pa_nil (s1 _)) (s1 _)) fun σ H R q => ?_
    obtain ⟨p, xs, hv, hs, k⟩ := q
    exact ⟨.ref p, hv, p, xs, rfl, hs, k⟩
noncomputable def foST (T : Tb) (en : Bool) (tg : Tg) (b : List CS) (e : EnvD) (k : Nat) (x : D) : Res Out := do
  let e ← bindTg e tg (if en then .tup [.int (k : Nat), x] else x)
  runB T b e
theorem lstD_ok {d : D} {ds : List D} (h : lstD d = some ds) : d = .lst ds := by
  cases d <;> first
    | (cases h; done)
    | (cases h; rfl)
theorem tS_forS {en : Bool} {tg : Tg} {i : Nat} {b : List CS} (h : tSK Y T (.forS en tg i b) De σ H) : tFor (tIS Y.K en i) (tgG Y.K tg) (tBK Y T b) De σ H := by
  obtain ⟨F, env, hK, S, h⟩ := h
  obtain ⟨⟨d, ow⟩, h1, h⟩ := h.ofO
  have h1 : ofO (heldO env[i]?) = .ok (d, ow) := by rw [h1]; rfl
  obtain ⟨ds, h2, h⟩ := h.ofO
  have h2 : ofO (lstD d) = .ok ds := by rw [h2]; rfl
  obtain ⟨o1, h3, h⟩ := h.pure (nx_noX _)
  have h3 := noX_eq h3
  have nxU : ∀ o1, NX (unlk ow i o1) := fun o1 => by cases o1 <;> exact ((nx_ofO _).bind fun _ => nx_ok _).bind fun _ => nx_ok _
  obtain ⟨o, hr, k⟩ := WPr.ok (nxU o1) h
  have h3 : forSL (foST T en tg b) i ds.length 0 (env.set i (.io d)) = .ok o1 := h3
  have h0 := held_slot (ofO_ok h1)
  have hd := lstD_ok (ofO_ok h2)
  have hi : i < env.length := (List.getElem?_eq_some_iff.mp h0).1
  -- the frame in which it is locked
  obtain ⟨a, F', lf, lf2, hv, hnF⟩ : ∃ a F', LFr F F' i a false ∧ LFr F' F i a ow ∧ σ[i]? = some (some (V.ref a)) ∧ F'.K = F.K ∧ F'.xa = F.xa := by
    cases ow with
    | true =>
      obtain ⟨a, e1, m, f, r⟩ := S.ow i d h0
      have hio : F.io i = none := by
        cases q : F.io i with
        | none => rfl
        | some b =>
          obtain ⟨d', q1, _⟩ := S.iok i b q
          rw [h0] at q1; cases q1
      exact ⟨a, { F with io := fun j => if j = i then some a else F.io j }, ⟨rfl, rfl, rfl, fun j hj => if_neg hj, rfl, fun z => (by cases z), fun _ => if_pos rfl⟩, ⟨rfl, rfl, rfl, fun j hj => (if_neg hj).symm, rfl, fun _ => ⟨f, hio⟩, fun z => (by cases z)⟩, e1, rfl, rfl⟩
    | false =>
      obtain ⟨a, e1, m, f, r⟩ := S.io i d h0
      exact ⟨a, F, ⟨rfl, rfl, rfl, fun j hj => rfl, rfl, fun z => (by cases z), fun _ => f⟩, ⟨rfl, rfl, rfl, fun j hj => rfl, rfl, fun z => (by cases z), fun _ => f⟩, e1, rfl, rfl⟩
  have S1 : Sim F' (env.set i (.io d)) σ H := S.relabel h0 hv lf
  have hF'K : FY F' Y := ⟨hnF.1.trans hK.K, hnF.2.trans hK.xa⟩
  -- the list as it stands in the slot
  have look : ∀ {e : EnvD} {σ' : SV} {H' : Hp} {d1 : D} {ds1 : List D}, Sim F' e σ' H' → rd e i = .ok d1 → lstD d1 = some ds1 → σ'[i]? = some (some (V.ref a)) ∧ e[i]? = some (.io d1) ∧ ∃ xs, H' a = some (.lst xs) ∧ RepL (Mx F' e σ') H' ds1 xs := fun {e σ' H' d1 ds1} S' q1 q2 => by
    obtain ⟨d', e1, e2⟩ := S'.iok i a (lf.iw rfl)
    obtain ⟨s, g1, g2⟩ := rd_slot q1
    rw [e1] at g1; cases g1; cases g2
    have := lstD_ok q2
    subst this
    obtain ⟨a', e3, _, _, r⟩ := S'.io i _ e1
    rw [e2] at e3; cases e3
    exact ⟨e2, e1, r⟩
  have q0 : ∃ xs, SqL Y.K H a xs := by
    have := lf2.iw
    subst hd
    cases ow with
    | true => obtain ⟨a', e1, _, _, r⟩ := S.ow i _ h0; rw [hv] at e1; cases e1; obtain ⟨xs, q, _⟩ := r; exact ⟨xs, .inl (.inl q)⟩
    | false => obtain ⟨a', e1, _, _, r⟩ := S.io i _ h0; rw [hv] at e1; cases e1; obtain ⟨xs, q, _⟩ := r; exact ⟨xs, .inl (.inl q)⟩
  obtain ⟨xs0, q0⟩ := q0
  refine ⟨a, xs0, hv, q0, ?_⟩
  refine ⟨fun t m σ' H' => m = ds.length - t ∧ t ≤ ds.length ∧ ∃ e, Sim F' e σ' H' ∧ Step (env.set i (.io d)) σ H e σ' H' ∧ forSL (foST T en tg b) i (ds.length - t) t e = .ok o1, ⟨_, rfl, Nat.zero_le _, _, S1, Step.refl, h3⟩, ?_⟩
  rintro t m σ2 H2 ⟨rfl, ht, e, S2, st2, hr2⟩
  -- the end
  have fin : ∀ {e5 : EnvD} {σ5 : SV} {H5 : Hp}, o1 = .nx e5 → Sim F' e5 σ5 H5 → Step (env.set i (.io d)) σ H e5 σ5 H5 → De.nx σ5 H5 := by
    rintro e5 σ5 H5 rfl S5 st5
    obtain ⟨e6, g1, g2⟩ := Res.bind_ok hr
    cases g2
    obtain ⟨q, g3, g4⟩ := Res.bind_ok g1
    cases g4
    obtain ⟨d', q1, q2⟩ := S5.iok i a (lf.iw rfl)
    have := held_io (ofO_ok g3) q1
    subst this
    exact k σ5 H5 (S5.relabel (o := false) q1 q2 lf2) (step_re (o3 := false) h0 q1 st5)
  by_cases hlt : t < ds.length
  · right
    obtain ⟨m', hm'⟩ : ∃ m', ds.length - t = m' + 1 := ⟨ds.length - t - 1, by omega⟩
    rw [hm'] at hr2
    obtain ⟨d1, g1, hr2⟩ := Res.bind_ok hr2
    obtain ⟨ds1, g2, hr2⟩ := Res.bind_ok hr2
    obtain ⟨x1, g3, hr2⟩ := Res.bind_ok hr2
    obtain ⟨o2, g4, hr2⟩ := Res.bind_ok hr2
    obtain ⟨e4, hb, g4⟩ := Res.bind_ok g4
    obtain ⟨v1, v2, xs, hx, rx⟩ := look S2 g1 (ofO_ok g2)
    have hq : SqL Y.K H2 a xs := .inl (.inl hx)
    obtain ⟨y1, hy1, ry1⟩ := rx.get (ofO_ok g3)
    refine ⟨?_, fun σ' H' => ∃ e, Sim F' e σ' H' ∧ Step (env.set i (.io d)) σ H e σ' H' ∧ forSL (foST T en tg b) i m' (t + 1) e = .ok o1, fun σ' H' ⟨e', z1, z2, z3⟩ => ⟨m', by omega, by omega, hlt, e', z1, z2, by rw [show ds.length - (t + 1) = m' by omega]; exact z3⟩, fun x H3 y => ?_⟩
    · cases en with
      | false => exact ⟨xs, y1, hq, hy1⟩
      | true => exact ⟨xs, y1, hq, hy1⟩
    have main : ∀ {dx : D}, Ext H2 H3 → Rep (Mx F' e σ2) H3 dx x → bindTg e tg dx = .ok e4 → tgG Y.K tg x σ2 H3 fun σ2 H2 => tBK Y T b { De with nx := fun σ' H' => ∃ e, Sim F' e σ' H' ∧ Step (env.set i (.io d)) σ H e σ' H' ∧ forSL (foST T en tg b) i m' (t + 1) e = .ok o1, ct := fun σ' H' => ∃ e, Sim F' e σ' H' ∧ Step (env.set i (.io d)) σ H e σ' H' ∧ forSL (foST T en tg b) i m' (t + 1) e = .ok o1, bk := De.nx } σ2 H2 := by
      intro dx ex rd hb
      obtain ⟨S3, st3⟩ := S2.ext ex
      refine tg_sim S3 rd hb fun σ4 S4 st4 so => ?_
      have sta := (st2.trans st3).trans st4
      refine ⟨F', e4, hF'K, S4, WPr.of_ok g4 ?_⟩
      cases o2 with
      | nx e5 => exact fun σ' H' S' st => ⟨e5, S', sta.trans st, hr2⟩
      | ct e5 => exact fun σ' H' S' st => ⟨e5, S', sta.trans st, hr2⟩
      | bk e5 => cases hr2; exact fun σ' H' S' st => fin rfl S' (sta.trans st)
      | rt r e5 =>
        cases hr2
        intro v σ' H' p
        have p := p.after sta
        obtain ⟨e6, g5, g6⟩ := Res.bind_ok hr
        cases g6
        obtain ⟨q, g7, g8⟩ := Res.bind_ok g5
        cases g8
        have g7 := ofO_ok g7
        refine k v σ' H' ?_
        obtain ⟨pst, p⟩ := p
        cases r with
        | dat d' =>
          obtain ⟨S', r'⟩ := p
          obtain ⟨d2, q1, q2⟩ := S'.iok i a (lf.iw rfl)
          have := held_io g7 q1
          subst this
          exact ⟨step_re (o3 := false) h0 q1 pst, S'.relabel (o := false) q1 q2 lf2, by rw [mx_re lf2 (o := false) q1]; exact r'⟩
        | slot j =>
          obtain ⟨S', hs, s, d3, hj1, hj2⟩ := p
          obtain ⟨d2, q1, q2⟩ := S'.iok i a (lf.iw rfl)
          have := held_io g7 q1
          subst this
          refine ⟨step_re (o3 := false) h0 q1 pst, S'.relabel (o := false) q1 q2 lf2, hs, ?_⟩
          by_cases hj : j = i
          · subst hj
            exact ⟨_, d2, List.getElem?_set_self (List.getElem?_eq_some_iff.mp q1).1, ownS_held⟩
          · exact ⟨s, d3, by rw [List.getElem?_set_ne (Ne.symm hj)]; exact hj1, hj2⟩
        | own d' =>
          obtain ⟨p', rfl, hp, S', r'⟩ := p
          obtain ⟨d2, q1, q2⟩ := S'.iok i a (lf.iw rfl)
          have := held_io g7 q1
          subst this
          exact ⟨step_re (o3 := false) h0 q1 pst, p', rfl, hp, S'.relabel (o := false) q1 q2 (lf2.add p'), by rw [mx_re (lf2.add p') (o := false) q1]; exact r'⟩
    cases en with
    | false =>
      obtain ⟨rfl, y⟩ := y
      have hx' : x = y1 := Option.some.inj ((y xs hq).symm.trans hy1)
      subst hx'
      exact main (dx := x1) (fun _ _ z => z) ry1 hb
    | true =>
      obtain ⟨tt, y2, rfl, n1, rfl, y4⟩ := y
      have hx' : y2 = y1 := Option.some.inj ((y4 xs hq).symm.trans hy1)
      subst hx'
      exact main (dx := .tup [.int (t : Nat), x1]) (fun bb u z => by rw [upd_ne (ne_of_none z n1)]; exact z)
        ⟨tt, _, rfl, upd_same, S2.fresh n1, _, _, rfl, rfl, _, _, rfl, ry1.mv ⟨rfl, fun bb u z n => ⟨by rw [upd_ne (ne_of_none z n1)]; exact z, n⟩⟩, rfl⟩ hb
  · left
    have hte : t = ds.length := by omega
    subst hte
    rw [Nat.sub_self] at hr2
    obtain ⟨d1, g1, hr2⟩ := Res.bind_ok hr2
    obtain ⟨ds1, g2, hr2⟩ := Res.bind_ok hr2
    obtain ⟨c, hr2⟩ := chk_bind hr2
    cases hr2
    obtain ⟨v1, v2, xs, hx, rx⟩ := look S2 g1 (ofO_ok g2)
    have hl : xs.length = ds.length := rx.length.trans (of_decide_eq_true c)
    refine ⟨?_, fin rfl S2 st2⟩
    cases en with
    | false => exact ⟨xs, .inl (.inl hx), by omega⟩
    | true => exact ⟨xs, .inl (.inl hx), by omega⟩
end
end VL
/-! VLY: raise, try. -/
namespace VL
open PySem PySem.Spec L2
def Fr.at (F : Fr) (a : Addr) : Fr := { F with xa := a }
section
variable {F : Fr} {env e : EnvD} {σ : SV} {H : Hp} {i : Nat} {a : Addr}
theorem no_xc {e : EnvD} (h : e.all (fun s => !s.isXc) = true) (j : Nat) : e[j]? ≠ some .xc := fun q => by
  have := List.all_eq_true.mp h _ (List.mem_of_getElem? q)
  cases this
/-- the clause's name is given the exception -/
theorem Sim.setXc (S : Sim F env σ H) (hx : env.all (fun s => !s.isXc) = true) (h : stS env i .xc = .ok e) : Sim (F.at a) e (σ.set i (some (.ref a))) H ∧ Step env σ H e (σ.set i (some (.ref a))) H ∧ F.io i = none := by
  obtain ⟨hi, nio, rfl⟩ := stS_shape h
  have hl : i < σ.length := by rw [S.len]; exact hi
  have io0 : F.io i = none := by
    cases q : F.io i with
    | none => rfl
    | some b => obtain ⟨d, q1, _⟩ := S.iok i b q; exact absurd q1 (nio d)
  have sub : ∀ b, Owns (env.set i .xc) (σ.set i (some (.ref a))) b → Owns env σ b := fun b ⟨j, t, x, e1, e2, e3⟩ => by
    by_cases hj : j = i
    · subst hj
      rw [List.getElem?_set_self hi] at e1; cases e1; cases e2
    · rw [List.getElem?_set_ne (Ne.symm hj)] at e1 e3
      exact ⟨j, t, x, e1, e2, e3⟩
  have kp : Kp (Mx F env σ) H (Mx (F.at a) (env.set i .xc) (σ.set i (some (.ref a)))) H := ⟨rfl, fun b o e n => ⟨e, fun z => n (Or.elim z .inl fun z => .inr (sub b z))⟩⟩
  refine ⟨⟨by rw [List.length_set, List.length_set]; exact S.len, fun j x e => ?_, fun j x e => ?_, fun j x e => ?_, fun j k s t x y b e1 h1 e2 h2 e3 e4 => ?_, S.m0, S.keep, fun j b e => ?_, fun j e => ?_⟩, ⟨fun b o e n => ⟨e, fun z => n (sub b z)⟩, fun b o e => ⟨o, e⟩⟩, io0⟩
  · by_cases hj : j = i
    · subst hj
      rw [List.getElem?_set_self hi] at e; cases e
    · rw [List.getElem?_set_ne (Ne.symm hj)] at e ⊢
      obtain ⟨w, e1, q⟩ := S.sh j x e
      exact ⟨w, e1, q.mv kp⟩
  · by_cases hj : j = i
    · subst hj
      rw [List.getElem?_set_self hi] at e; cases e
    · rw [List.getElem?_set_ne (Ne.symm hj)] at e ⊢
      obtain ⟨w, e1, m, f, q⟩ := S.ow j x e
      exact ⟨w, e1, m, f, q.mv kp rfl⟩
  · by_cases hj : j = i
    · subst hj
      rw [List.getElem?_set_self hi] at e; cases e
    · rw [List.getElem?_set_ne (Ne.symm hj)] at e ⊢
      obtain ⟨w, e1, m, f, q⟩ := S.io j x e
      exact ⟨w, e1, m, f, q.mv kp rfl⟩
  · by_cases hj : j = i
    · subst hj
      rw [List.getElem?_set_self hi] at e1; cases e1; cases h1
    · by_cases hk : k = i
      · subst hk
        rw [List.getElem?_set_self hi] at e2; cases e2; cases h2
      · rw [List.getElem?_set_ne (Ne.symm hj)] at e1 e3
        rw [List.getElem?_set_ne (Ne.symm hk)] at e2 e4
        exact S.inj j k s t x y b e1 h1 e2 h2 e3 e4
  · obtain ⟨x, e1, e2⟩ := S.iok j b e
    have hj : j ≠ i := fun z => by
      subst z
      have e : F.io j = some b := e
      rw [io0] at e; cases e
    exact ⟨x, by rw [List.getElem?_set_ne (Ne.symm hj)]; exact e1, by rw [List.getElem?_set_ne (Ne.symm hj)]; exact e2⟩
  · by_cases hj : j = i
    · subst hj
      exact List.getElem?_set_self hl
    · rw [List.getElem?_set_ne (Ne.symm hj)] at e
      exact absurd e (no_xc hx j)
/-- the clause's name goes -/
theorem Sim.clr (S : Sim (F.at a) env σ H) (hio : F.io i = none) (h : clrE env i = .ok e) : Sim F e (σ.set i none) H ∧ Step env σ H e (σ.set i none) H ∧ (∀ b, Owns e (σ.set i none) b → Owns env σ b) := by
  obtain ⟨hx, h⟩ := chk_bind h
  cases h
  have un : ∀ {j : Nat} {s : Slot}, (env.set i .un)[j]? = some s → s ≠ .un → j ≠ i ∧ env[j]? = some s := fun {j s} q n => by
    by_cases hj : j = i
    · subst hj
      rw [List.getElem?_set] at q
      split at q
      · split at q
        · exact absurd (Option.some.inj q).symm n
        · cases q
      · rename_i z; exact absurd rfl z
    · rw [List.getElem?_set_ne (Ne.symm hj)] at q
      exact ⟨hj, q⟩
  have sg : ∀ {j : Nat}, j ≠ i → (σ.set i none)[j]? = σ[j]? := fun {j} hj => List.getElem?_set_ne (Ne.symm hj)
  have sub : ∀ b, Owns (env.set i .un) (σ.set i none) b → Owns env σ b := fun b ⟨j, t, x, e1, e2, e3⟩ => by
    obtain ⟨hj, e1⟩ := un e1 (fun z => by subst z; cases e2)
    rw [sg hj] at e3
    exact ⟨j, t, x, e1, e2, e3⟩
  have kp : Kp (Mx (F.at a) env σ) H (Mx F (env.set i .un) (σ.set i none)) H := ⟨rfl, fun b o e n => ⟨e, fun z => n (Or.elim z .inl fun z => .inr (sub b z))⟩⟩
  refine ⟨⟨by rw [List.length_set, List.length_set]; exact S.len, fun j x e => ?_, fun j x e => ?_, fun j x e => ?_, fun j k s t x y b e1 h1 e2 h2 e3 e4 => ?_, S.m0, S.keep, fun j b e => ?_, fun j e => absurd e (no_xc hx j)⟩, ⟨fun b o e n => ⟨e, fun z => n (sub b z)⟩, fun b o e => ⟨o, e⟩⟩, sub⟩
  · obtain ⟨hj, e⟩ := un e (by simp)
    rw [sg hj]
    obtain ⟨w, e1, q⟩ := S.sh j x e
    exact ⟨w, e1, q.mv kp⟩
  · obtain ⟨hj, e⟩ := un e (by simp)
    rw [sg hj]
    obtain ⟨w, e1, m, f, q⟩ := S.ow j x e
    exact ⟨w, e1, m, f, q.mv kp rfl⟩
  · obtain ⟨hj, e⟩ := un e (by simp)
    rw [sg hj]
    obtain ⟨w, e1, m, f, q⟩ := S.io j x e
    exact ⟨w, e1, m, f, q.mv kp rfl⟩
  · obtain ⟨hj, e1⟩ := un e1 (fun z => by subst z; cases h1)
    obtain ⟨hk, e2⟩ := un e2 (fun z => by subst z; cases h2)
    rw [sg hj] at e3
    rw [sg hk] at e4
    exact S.inj j k s t x y b e1 h1 e2 h2 e3 e4
  · obtain ⟨x, e1, e2⟩ := S.iok j b e
    have hj : j ≠ i := fun z => by subst z; rw [hio] at e; cases e
    exact ⟨x, by rw [List.getElem?_set_ne (Ne.symm hj)]; exact e1, by rw [sg hj]; exact e2⟩
end
section
variable {T : Tb} {Y : YW} {σ : SV} {H : Hp} {De : Ends}
theorem tS_rse {x : Str} {C : Value} (hg : Y.mg x = some C) (hx : x ∈ Y.xs) (h : tSK Y T (.rse x) De σ H) : Y.W C none σ H := by
  obtain ⟨F, env, hK, S, h⟩ := h
  have h : XS Y F env σ H ⟨x, [], env⟩ := h
  exact h σ H S Step.refl C none ⟨hg, hx, rfl, rfl⟩
/-- the reading of an except suite -/
def tXs (Y : YW) (T : Tb) (s : List CS) : Addr → Value → Option Addr → TS := fun a cls d D σ H => ∃ c, Y.mg c.cls = some cls ∧ c.cls ∈ Y.xs ∧ c.fs = [] ∧ d = none ∧ tBK ⟨Y.K, Y.mg, WN, a, Y.xs⟩ { T with cur := some c } s D σ H
theorem tS_tr {b s : List CS} {i : Nat} {x : Str} {O : Value} (hm : ∀ c C, c ∈ Y.xs → Y.mg c = some C → PySem.W.exmOne Y.K C O = some (xsub c x)) (h : tSK Y T (.tr b i x s) De σ H) :
    tBK ⟨Y.K, Y.mg, wAs Y.K O i (tXs Y T s) Y.W De, Y.xa, Y.xs⟩ T b De σ H := by
  obtain ⟨F, env, hK, S, h⟩ := h
  have h : WPr (match runB T b env with
    | .exc c => (if xsub c.cls x = true then do
        chk (c.env.all fun s => !s.isXc)
        let e ← stS c.env i .xc
        let o ← noX (runB { T with cur := some c } s e)
        o.clr i
      else .exc c : Res Out)
    | r => r) (OutP F env σ H De) (XS Y F env σ H) := h
  refine ⟨F, env, ⟨hK.K, hK.xa⟩, S, ?_⟩
  cases hb : runB T b env with
  | fail => rw [hb] at h; exact h.elim
  | ok o => rw [hb] at h; exact h
  | exc c =>
    rw [hb] at h
    dsimp only at h
    show XS _ F env σ H c
    intro σ1 H1 S1 st1 C d xr
    obtain ⟨x1, x2, x3, rfl⟩ := xr
    refine ⟨xsub c.cls x, hm _ _ x2 x1, fun hs a ha => ?_, fun hs => ?_⟩
    · rw [if_pos hs] at h
      obtain ⟨hxc, h⟩ := h.chk
      obtain ⟨e, h1, h⟩ := h.pure (nx_stS ..)
      obtain ⟨o, h2, h⟩ := h.pure (nx_noX _)
      have h2 := noX_eq h2
      obtain ⟨S2, st2, io0⟩ := S1.setXc (a := a) hxc h1
      refine ⟨c, x1, x2, x3, rfl, F.at a, e, ⟨hK.K, rfl⟩, S2, WPr.of_ok h2 ?_⟩
      have nxC : NX (o.clr i) := by
        cases o with
        | rt r e => exact (nx_chk _).bind fun _ => ((nx_chk _).bind fun _ => nx_ok _).bind fun _ => nx_ok _
        | _ => exact ((nx_chk _).bind fun _ => nx_ok _).bind fun _ => nx_ok _
      obtain ⟨o', h3, k⟩ := WPr.ok nxC h
      cases o with
      | nx e2 =>
        obtain ⟨e3, h4, h3⟩ := Res.bind_ok h3
        cases h3
        intro σ3 H3 S3 st3
        obtain ⟨S4, st4, _⟩ := S3.clr io0 h4
        exact k _ _ S4 (((st1.trans st2).trans st3).trans st4)
      | bk e2 =>
        obtain ⟨e3, h4, h3⟩ := Res.bind_ok h3
        cases h3
        intro σ3 H3 S3 st3
        obtain ⟨S4, st4, _⟩ := S3.clr io0 h4
        exact k _ _ S4 (((st1.trans st2).trans st3).trans st4)
      | ct e2 =>
        obtain ⟨e3, h4, h3⟩ := Res.bind_ok h3
        cases h3
        intro σ3 H3 S3 st3
        obtain ⟨S4, st4, _⟩ := S3.clr io0 h4
        exact k _ _ S4 (((st1.trans st2).trans st3).trans st4)
      | rt r e2 =>
        obtain ⟨nat, h3⟩ := chk_bind h3
        obtain ⟨e3, h4, h3⟩ := Res.bind_ok h3
        cases h3
        intro v σ3 H3 p3
        obtain ⟨st3, p3⟩ := p3
        refine k v (σ3.set i none) H3 ?_
        cases r with
        | dat d =>
          obtain ⟨S3, r3⟩ := p3
          obtain ⟨S4, st4, sub⟩ := S3.clr io0 h4
          exact ⟨((st1.trans st2).trans st3).trans st4, S4, Rep.mv (M := Mx (F.at a) e2 σ3) (M' := Mx F e3 (σ3.set i none)) ⟨rfl, fun b o q n => ⟨q, fun z => n (Or.elim z .inl fun z => .inr (sub b z))⟩⟩ r3⟩
        | slot j =>
          obtain ⟨S3, r3, s3, d3, g1, g2⟩ := p3
          obtain ⟨S4, st4, sub⟩ := S3.clr io0 h4
          have hj : j ≠ i := fun z => by subst z; simp [R.isAt] at nat
          refine ⟨((st1.trans st2).trans st3).trans st4, S4, by rw [List.getElem?_set_ne (Ne.symm hj)]; exact r3, s3, d3, ?_, g2⟩
          obtain ⟨_, h4⟩ := chk_bind h4
          cases h4
          rw [List.getElem?_set_ne (Ne.symm hj)]; exact g1
        | own d =>
          obtain ⟨p, rfl, np, S3, r3⟩ := p3
          obtain ⟨S4, st4, sub⟩ := Sim.clr (F := F.add p) (a := a) S3 io0 h4
          refine ⟨((st1.trans st2).trans st3).trans st4, p, rfl, ?_, S4, OwnRep.mv (M := Mx ((F.at a).add p) e2 σ3) (M' := Mx (F.add p) e3 (σ3.set i none)) ⟨rfl, fun b o q n => ⟨q, fun z => n (Or.elim z .inl fun z => .inr (sub b z))⟩⟩ rfl r3⟩
          exact (st1.trans st2).nil np
    · rw [if_neg (by rw [hs]; exact Bool.false_ne_true)] at h
      exact h σ1 H1 S1 st1 C none ⟨x1, x2, x3, rfl⟩
end
end VL
/-! VLW2: for over a dict: the dict is locked for the time. -/
namespace VL
open PySem PySem.Spec L2
section
variable {F : Fr} {env env' : EnvD} {σ σ' : SV} {H H' : Hp} {a : Addr} {u : HO} {od : Obj}
theorem PostR.unlk (S0 : Sim F env σ H) (e : H a = some u) (du : DHo u) (na : ¬ Mx F env σ a) {r : R} {v : V} (p : PostR (F.lk a (.frz od u)) env σ (upd H a (.frz od u)) r env' v σ' H') : H' a = some (.frz od u) ∧ PostR F env σ H r env' v σ' (upd H' a u) := by
  obtain ⟨st, p⟩ := p
  obtain ⟨h1, h2, h3⟩ := st.unlk e fun z => na (.inr z)
  have na' : ¬ Mx F env' σ' a := fun z => Or.elim z (fun z => na (.inl z)) h2
  refine ⟨h1, h3, ?_⟩
  cases r with
  | dat d => exact ⟨Sim.unlk (S0.k0 e) du p.1 h1 na', p.2.like (like_unlk h1 du)⟩
  | slot i => exact ⟨Sim.unlk (S0.k0 e) du p.1 h1 na', p.2⟩
  | own d =>
    obtain ⟨b, rfl, n, S, o⟩ := p
    have hb : b ≠ a := fun z => by rw [z, upd_same] at n; cases n
    rw [upd_ne hb] at n
    refine ⟨b, rfl, n, Sim.unlk (F := F.add b) (S0.k0 e) du S h1 (fun z => ?_), o.like (like_unlk h1 du) (upd_ne hb)⟩
    rcases z with (z | z) | z
    · exact na (.inl z)
    · exact hb z.symm
    · exact h2 z
def lkEnds (a : Addr) (od : Obj) (u : HO) (D : Ends) : Ends := ⟨fun σ' H' => H' a = some (.frz od u) ∧ D.nx σ' (upd H' a u), fun v H' => H' a = some (.frz od u) ∧ D.rt v (upd H' a u), fun σ' H' => H' a = some (.frz od u) ∧ D.bk σ' (upd H' a u), fun σ' H' => H' a = some (.frz od u) ∧ D.ct σ' (upd H' a u)⟩
theorem OutP.lock {D : Ends} (S0 : Sim F env σ H) (e : H a = some u) (du : DHo u) (na : ¬ Mx F env σ a) {o : Out} (h : OutP F env σ H D o) : OutP (F.lk a (.frz od u)) env σ (upd H a (.frz od u)) (lkEnds a od u D) o := by
  have go : ∀ {e' : EnvD} {σ' : SV} {H' : Hp} {P : SV → Hp → Prop}, (∀ σ' H', Sim F e' σ' H' → Step env σ H e' σ' H' → P σ' H') → Sim (F.lk a (.frz od u)) e' σ' H' → Step env σ (upd H a (.frz od u)) e' σ' H' → H' a = some (.frz od u) ∧ P σ' (upd H' a u) := fun {e' σ' H' P} k S st => by
    obtain ⟨h1, h2, h3⟩ := st.unlk e fun z => na (.inr z)
    exact ⟨h1, k _ _ (Sim.unlk (S0.k0 e) du S h1 fun z => Or.elim z (fun z => na (.inl z)) h2) h3⟩
  cases o with
  | nx e' => exact fun σ' H' S st => go (P := D.nx) h S st
  | bk e' => exact fun σ' H' S st => go (P := D.bk) h S st
  | ct e' => exact fun σ' H' S st => go (P := D.ct) h S st
  | rt r e' => exact fun v σ' H' p => let ⟨p1, p2⟩ := PostR.unlk S0 e du na p; ⟨p1, h v σ' _ p2⟩
end
section
variable {T : Tb} {Y : YW} {K : PySem.W.Frag} {σ : SV} {H : Hp} {De : Ends}
theorem runS_forD {tg : Tg} {i : Nat} {b : List CS} {env : EnvD} : runS T (.forD tg i b) env = noX (escI env i >>= fun e0 => runS T (.for tg (.dky i) b) e0) := by
  show noX (escI env i >>= fun e0 => dkyD e0 i >>= fun xs => _) = noX (escI env i >>= fun e0 => (dkyD e0 i >>= fun xs => Res.ok (xs, e0)) >>= fun p => _)
  cases escI env i with
  | fail => rfl
  | exc e => rfl
  | ok e0 =>
    show noX (dkyD e0 i >>= fun xs => _) = noX ((dkyD e0 i >>= fun xs => Res.ok (xs, e0)) >>= fun p => _)
    cases dkyD e0 i with
    | fail => rfl
    | exc e => rfl
    | ok xs => rfl
theorem tS_forD {tg : Tg} {i : Nat} {b : List CS} (h : tSK Y T (.forD tg i b) De σ H) :
    tLock (tFor (iKeys (tVar i)) (tgG K tg) (tBK Y T b)) De σ H ∨ tFor (iKeys (tVar i)) (tgG K tg) (tBK Y T b) De σ H := by
  obtain ⟨F, env, hK, S, h⟩ := h
  rw [runS_forD] at h
  obtain ⟨o, h1, k⟩ := h.noX_ok
  obtain ⟨e0, h2, h3⟩ := Res.bind_ok h1
  obtain ⟨S0, st0, _⟩ := S.escI h2
  have h3' : (runI T (.dky i) e0 >>= fun p => _) = Res.ok o := h3
  obtain ⟨⟨xs, e1⟩, h4, _⟩ := Res.bind_ok h3'
  have h4 : (dkyD e0 i >>= fun xs => Res.ok (xs, e0)) = .ok (xs, e1) := h4
  obtain ⟨xs', h5, h6⟩ := Res.bind_ok h4
  cases h6
  obtain ⟨a, q, m, g⟩ := dky_at S0 h5
  have k0 : OutP F e0 σ H De o := OutP.after st0 k
  have conv : ∀ {H1 : Hp} {D1 : Ends} {od : Obj} {u : HO}, H1 a = some (.frz od u) → tFor (tIK Y T (.dky i)) (tgG K tg) (tBK Y T b) D1 σ H1 → tFor (iKeys (tVar i)) (tgG K tg) (tBK Y T b) D1 σ H1 := fun hf z => tI_dky q hf z
  have free : ∀ {od : Obj} {u : HO}, H a = some (.frz od u) → tFor (iKeys (tVar i)) (tgG K tg) (tBK Y T b) De σ H := fun hf => conv hf (tS_for ⟨F, e0, hK, S0, WPr.of_ok h3 k0⟩)
  have bound : ∀ {u : HO}, H a = some u → DHo u → tLock (tFor (iKeys (tVar i)) (tgG K tg) (tBK Y T b)) De σ H := fun {u} hu du =>
    ⟨a, u, hu, du.mut, fun od => conv upd_same (tS_for (De := lkEnds a od u De) ⟨F.lk a (.frz od u), e0, ⟨hK.K, hK.xa⟩, S0.lock hu du m, WPr.of_ok h3 (k0.lock S0 hu du m)⟩)⟩
  rcases g with ⟨ks, g | ⟨o, g⟩, _⟩ | ⟨ks, g | ⟨o, g⟩, _⟩
  · exact .inl (bound g (.inl ⟨_, rfl⟩))
  · exact .inr (free g)
  · exact .inl (bound g (.inr ⟨_, rfl⟩))
  · exact .inr (free g)
end
end VL
/-! VL21: statements, joined. -/
namespace VL
open PySem PySem.Spec L2
section
variable {T : Tb} {W : WX} {xa : Addr}
theorem PS.em {X : Cx} {s : Stmt} : PS X s (fun _ _ _ => False) := ⟨fun _ _ _ _ _ _ q => q.elim⟩
theorem set_inv {C : CEnv} {i : Nat} {a : CE} {s : Stmt} (h : okS C (.set i a) s = true) : ∃ x p e pos, s = .Assign [.Name x p] e pos ∧ C.N[i]? = some x ∧ storeB C x = true ∧ okE C a e = true ∧ (noComp e = true ∨ (if locB C.sc x then lineOk x p e else true) = true) := by
  unfold okS at h
  split at h
  · obtain ⟨h1, h2⟩ := and2 h
    obtain ⟨h2, h3⟩ := and2 h2
    obtain ⟨h3, h4⟩ := and2 h3
    exact ⟨_, _, _, _, rfl, of_decide_eq_true h1, h2, h3, Bool.or_eq_true_iff.mp h4⟩
  · cases h
theorem unp_inv {C : CEnv} {is : List Nat} {a : CE} {s : Stmt} (h : okS C (.unp is a) s = true) : ∃ ts k p e pos, s = .Assign [.Tuple ts k p] e pos ∧ Tg.ok C (.many is) (.Tuple ts k p) = true ∧ okE C a e = true ∧ unpV e = true := by
  unfold okS at h
  split at h
  · obtain ⟨h1, h2⟩ := and2 h
    obtain ⟨h2, h3⟩ := and2 h2
    exact ⟨_, _, _, _, _, rfl, h1, h2, h3⟩
  · cases h
theorem par_inv {C : CEnv} {i j : Nat} {a b : CE} {s : Stmt} (h : okS C (.par i j a b) s = true) : ∃ x px y py k p ea eb k2 p2 pos, s = .Assign [.Tuple [.Name x px, .Name y py] k p] (.Tuple [ea, eb] k2 p2) pos ∧
    C.N[i]? = some x ∧ C.N[j]? = some y ∧ locB C.sc x = true ∧ locB C.sc y = true ∧ i ≠ j ∧ x ≠ y ∧ (px.line == py.line) = true ∧ okE C a ea = true ∧ okE C b eb = true ∧ parV [ea, eb] = true ∧ C.cool = true := by
  unfold okS at h
  split at h
  · obtain ⟨h1, h⟩ := and2 h
    obtain ⟨h2, h⟩ := and2 h
    obtain ⟨h3, h⟩ := and2 h
    obtain ⟨h4, h⟩ := and2 h
    obtain ⟨h5, h⟩ := and2 h
    obtain ⟨h6, h⟩ := and2 h
    obtain ⟨h7, h⟩ := and2 h
    obtain ⟨h8, h⟩ := and2 h
    obtain ⟨h9, h⟩ := and2 h
    obtain ⟨h10, h11⟩ := and2 h
    exact ⟨_, _, _, _, _, _, _, _, _, _, _, rfl, of_decide_eq_true h1, of_decide_eq_true h2, h3, h4, of_decide_eq_true h5, of_decide_eq_true h6, h7, h8, h9, h10, h11⟩
  · cases h
theorem sub_inv {C : CEnv} {o : Nat} {a b : CE} {s : Stmt} (h : okS C (.sub o a b) s = true) : ∃ x p ik p2 e pos, s = .Assign [.Subscript (.Name x p) ik p2] e pos ∧ C.N[o]? = some x ∧ visB C.sc x = true ∧ okE C a ik = true ∧ okE C b e = true := by
  unfold okS at h
  split at h
  · obtain ⟨h1, h2⟩ := and2 h
    obtain ⟨h2, h3⟩ := and2 h2
    obtain ⟨h3, h4⟩ := and2 h3
    exact ⟨_, _, _, _, _, _, rfl, of_decide_eq_true h1, h2, h3, h4⟩
  · cases h
theorem mut_inv {C : CEnv} {m : Mu} {i : Nat} {es : List CE} {s : Stmt} (h : okS C (.mut m i es) s = true) : ∃ x p apos xs cpos pos, s = .Expr (.Call (.Attribute (.Name x p) m.nm apos) xs [] cpos) pos ∧ C.N[i]? = some x ∧ visB C.sc x = true ∧ okL C es xs = true ∧ es.length < 30 ∧ (apos.endLine == cpos.line) = true := by
  unfold okS at h
  split at h
  · obtain ⟨h1, h2⟩ := and2 h
    obtain ⟨h2, h3⟩ := and2 h2
    obtain ⟨h3, h4⟩ := and2 h3
    obtain ⟨h4, h5⟩ := and2 h4
    obtain ⟨h5, h6⟩ := and2 h5
    have := of_decide_eq_true h1
    subst this
    exact ⟨_, _, _, _, _, _, rfl, of_decide_eq_true h2, h3, h4, of_decide_eq_true h5, h6⟩
  · cases h
theorem ife_inv {C : CEnv} {t : CE} {a b : List CS} {s : Stmt} (h : okS C (.ife t a b) s = true) : ∃ t' a' b' pos, s = .If t' a' b' pos ∧ okE C t t' = true ∧ okB C a a' = true ∧ okB C b b' = true := by
  unfold okS at h
  split at h
  · obtain ⟨h1, h2⟩ := and2 h
    obtain ⟨h2, h3⟩ := and2 h2
    exact ⟨_, _, _, _, rfl, h1, h2, h3⟩
  · cases h
theorem whl_inv {C : CEnv} {t : CE} {b : List CS} {s : Stmt} (h : okS C (.whl t b) s = true) : ∃ t' b' pos, s = .While t' b' [] pos ∧ okE C t t' = true ∧ okB C b b' = true := by
  unfold okS at h
  split at h
  · obtain ⟨h1, h2⟩ := and2 h
    exact ⟨_, _, _, rfl, h1, h2⟩
  · cases h
theorem for_inv {C : CEnv} {tg : Tg} {it : CI} {b : List CS} {s : Stmt} (h : okS C (.for tg it b) s = true) : ∃ t' i' b' pos, s = .For t' i' b' [] pos ∧ C.cool = true ∧ tg.ok C t' = true ∧ okI C t' it i' = true ∧ okB C b b' = true := by
  unfold okS at h
  split at h
  · obtain ⟨h0, h⟩ := and2 h
    obtain ⟨h1, h2⟩ := and2 h
    obtain ⟨h2, h3⟩ := and2 h2
    exact ⟨_, _, _, _, rfl, h0, h1, h2, h3⟩
  · cases h
theorem forS_inv {C : CEnv} {en : Bool} {tg : Tg} {i : Nat} {b : List CS} {s : Stmt} (h : okS C (.forS en tg i b) s = true) : ∃ t' i' b' pos, s = .For t' i' b' [] pos ∧ C.cool = true ∧ tg.ok C t' = true ∧ okI C t' (if en then .enm (.var i) else .seq (.var i)) i' = true ∧ okB C b b' = true := by
  unfold okS at h
  split at h
  · obtain ⟨h0, h⟩ := and2 h
    obtain ⟨h1, h2⟩ := and2 h
    obtain ⟨h2, h3⟩ := and2 h2
    exact ⟨_, _, _, _, rfl, h0, h1, h2, h3⟩
  · cases h
theorem forD_inv {C : CEnv} {tg : Tg} {i : Nat} {b : List CS} {s : Stmt} (h : okS C (.forD tg i b) s = true) : ∃ t' y p b' pos, s = .For t' (.Name y p) b' [] pos ∧ C.cool = true ∧ tg.ok C t' = true ∧ C.N[i]? = some y ∧ visB C.sc y = true ∧ okB C b b' = true := by
  unfold okS at h
  split at h
  · obtain ⟨h0, h⟩ := and2 h
    obtain ⟨h1, h2⟩ := and2 h
    obtain ⟨h2, h3⟩ := and2 h2
    obtain ⟨h3, h4⟩ := and2 h3
    exact ⟨_, _, _, _, _, rfl, h0, h1, of_decide_eq_true h2, h3, h4⟩
  · cases h
theorem rse_inv {C : CEnv} {x : Str} {s : Stmt} (h : okS C (.rse x) s = true) : ∃ p m j p2 p3 p4, s = .Raise (some (.Call (.Name x p) [.Constant (.str m) j p2] [] p3)) none p4 ∧ gloB C.sc x = true ∧ x ∈ C.xs ∧ C.cool = true := by
  unfold okS at h
  split at h
  · obtain ⟨h1, h⟩ := and2 h
    obtain ⟨h2, h⟩ := and2 h
    obtain ⟨h3, h4⟩ := and2 h
    have := of_decide_eq_true h1
    subst this
    exact ⟨_, _, _, _, _, _, rfl, h2, of_decide_eq_true h3, h4⟩
  · cases h
theorem tr_inv {C : CEnv} {b : List CS} {i : Nat} {x : Str} {s : List CS} {st : Stmt} (h : okS C (.tr b i x s) st = true) : ∃ b' p n s0 s' p2 p3, st = .Try b' [.ExceptHandler (some (.Name x p)) (some n) (s0 :: s') p2] [] [] p3 ∧
    gloB C.sc x = true ∧ x ∈ C.rs ∧ C.N[i]? = some n ∧ locB C.sc n = true ∧ C.cool = true ∧ okB C b b' = true ∧ okB { C with cool := false } s (s0 :: s') = true := by
  unfold okS at h
  split at h
  · obtain ⟨h1, h⟩ := and2 h
    obtain ⟨h2, h⟩ := and2 h
    obtain ⟨h3, h⟩ := and2 h
    obtain ⟨h4, h⟩ := and2 h
    obtain ⟨h5, h⟩ := and2 h
    obtain ⟨h6, h⟩ := and2 h
    obtain ⟨h7, h8⟩ := and2 h
    have := of_decide_eq_true h1
    subst this
    exact ⟨_, _, _, _, _, _, _, rfl, h2, of_decide_eq_true h3, of_decide_eq_true h4, h5, h6, h7, h8⟩
  · cases h
theorem exp_inv {C : CEnv} {a : CE} {s : Stmt} (h : okS C (.exp a) s = true) : ∃ e pos, s = .Expr e pos ∧ okE C a e = true ∧ noComp e = true := by
  unfold okS at h
  split at h
  · obtain ⟨h1, h2⟩ := and2 h
    exact ⟨_, _, rfl, h1, h2⟩
  · cases h
theorem ret_inv {C : CEnv} {o : Option CE} {s : Stmt} (h : okS C (.ret o) s = true) : ∃ oe pos, s = .Return oe pos ∧ okR C o oe = true := by
  unfold okS at h
  split at h
  · exact ⟨_, _, rfl, h⟩
  · cases h
theorem mt_mut {X : Cx} : ∀ m : Mu, ∃ id, PySem.Slot "list" m.nm id ∧ typeOf (.builtin id) = pure (.type "method_descriptor") ∧ MtR X id (rMut m)
  | .append => ⟨_, F.slot_list_append, F.type_list_append, mt_append⟩
  | .insert => ⟨_, F.slot_list_insert, F.type_list_insert, mt_insert⟩
  | .extend => ⟨_, F.slot_list_extend, F.type_list_extend, mt_extend⟩
  | .clear => ⟨_, F.slot_list_clear, F.type_list_clear, mt_clear⟩
theorem var_pe {X : Cx} {C : CEnv} (cx : Ctx T C X W xa) {i : Nat} {x : Str} {p : Pos} (h1 : C.N[i]? = some x) (h2 : visB C.sc x = true) : PE X (.Name x p) (tVar i) := by
  have hn := nameOk_d (cx.nm x (List.mem_of_getElem? h1))
  exact pe_var (by rw [cx.N]; exact h1) (visB_vis cx.sc h2) hn.1 hn.2.1
theorem setLc_ps {X : Cx} {C : CEnv} (cx : Ctx T C X W xa) (hk : C.sc.kind = .function) {i : Nat} {y : Str} {py spos : Pos} {e : Expr} {elt : CE} {tg : Tg} {it : CI} {c : Option CE} (h1 : C.N[i]? = some y) (h2 : locB C.sc y = true) (h : okE C (.lc elt tg it c) e = true) (hl : lineOk y py e = true) :
    PS X (.Assign [.Name y py] e spos) (tAsg (tEK (yw X C.xs W xa) T (.lc elt tg it c)) (gName i)) := by
  obtain ⟨x, t, i', ifs, sc', pos, rfl, g0, g1, g2, g3, g4, g5, g6⟩ := lc_inv h
  have ok := blkOk_by g2
  rw [← cx.N, ← cx.sc] at ok
  have hi := pI it cx g1
  have hfold : ∀ x, foldedSetIterable i' X.env x = pure x := fun x => folded_of (okI_noSet g1) _ _
  have pg : ∀ (s : Shared) (H : Hp) (D : Addr) (cl : List (Str × Addr)) (fp : List Addr), PG (X.blk s H sc' (compEnvC sc' cl D X.env) fp) t (tgG X.K tg) := fun s H D cl fp => by have q := tg_pg (cx.blk g0 s H sc' cl D fp) g4; exact q
  have pts : ∀ (s : Shared) (H : Hp) (D : Addr) (cl : List (Str × Addr)) (fp : List Addr), PTs (X.blk s H sc' (compEnvC sc' cl D X.env) fp) ifs (tCK (yw X C.xs WN xa) T c) := fun s H D cl fp => by have q := pC c (cx.blk g0 s H sc' cl D fp) g5; exact q
  have pel : ∀ (s : Shared) (H : Hp) (D : Addr) (cl : List (Str × Addr)) (fp : List Addr), PE (X.blk s H sc' (compEnvC sc' cl D X.env) fp) x (tEK (yw X C.xs WN xa) T elt) := fun s H D cl fp => by have q := (pE elt (cx.blk g0 s H sc' cl D fp) g6).ex; exact q
  obtain ⟨l1, l2⟩ := and2 (show ((py.line == pos.line) && !(sc'.names.any fun (n, k) => n == y && (k == .local || k == .cell))) = true from hl)
  have l2 := (Bool.not_eq_true' _).mp l2
  have hy := locB_loc cx.sc h2
  have main := ps_setLc (i := i) (y := y) (py := py) (spos := spos) (pos := pos) (cx.calm g0) cx.nd (by rw [cx.N]; exact h1) hy (sw_true (by rw [cx.sc]; exact hk) hy l1 l2) hi ok pg pts pel hfold
  rw [g3] at main
  exact PS.imp main fun D σ H q => by
    have q : tEK (yw X C.xs W xa) T (.lc elt tg it c) σ H fun x H1 => gName i x σ H1 D.nx := q
    exact tE_lc (Y0 := yw X C.xs WN xa) ⟨rfl, rfl⟩ q
theorem setLcD_ps {X : Cx} {C : CEnv} (cx : Ctx T C X W xa) (hk : C.sc.kind = .function) {i : Nat} {y : Str} {py spos : Pos} {e : Expr} {elt : CE} {tg : Tg} {j : Nat} {c : Option CE} (h1 : C.N[i]? = some y) (h2 : locB C.sc y = true) (h : okE C (.lcD elt tg j c) e = true) (hl : lineOk y py e = true) :
    PS X (.Assign [.Name y py] e spos) (tAsg (tEK (yw X C.xs W xa) T (.lcD elt tg j c)) (gName i)) := by
  obtain ⟨x, t, z, p, ifs, sc', pos, rfl, g0, g1, g1', g2, g3, g4, g5, g6⟩ := lcD_inv h
  have ok := blkOk_by g2
  rw [← cx.N, ← cx.sc] at ok
  have hi : PI X t (.Name z p) (iKeys (tVar j)) := pi_keys (var_pe cx g1 g1')
  have hfold : ∀ x, foldedSetIterable (.Name z p) X.env x = pure x := fun x => folded_of rfl _ _
  have pg : ∀ (s : Shared) (H : Hp) (D : Addr) (cl : List (Str × Addr)) (fp : List Addr), PG (X.blk s H sc' (compEnvC sc' cl D X.env) fp) t (tgG X.K tg) := fun s H D cl fp => by have q := tg_pg (cx.blk g0 s H sc' cl D fp) g4; exact q
  have pts : ∀ (s : Shared) (H : Hp) (D : Addr) (cl : List (Str × Addr)) (fp : List Addr), PTs (X.blk s H sc' (compEnvC sc' cl D X.env) fp) ifs (tCK (yw X C.xs WN xa) T c) := fun s H D cl fp => by have q := pC c (cx.blk g0 s H sc' cl D fp) g5; exact q
  have pel : ∀ (s : Shared) (H : Hp) (D : Addr) (cl : List (Str × Addr)) (fp : List Addr), PE (X.blk s H sc' (compEnvC sc' cl D X.env) fp) x (tEK (yw X C.xs WN xa) T elt) := fun s H D cl fp => by have q := (pE elt (cx.blk g0 s H sc' cl D fp) g6).ex; exact q
  obtain ⟨l1, l2⟩ := and2 (show ((py.line == pos.line) && !(sc'.names.any fun (n, k) => n == y && (k == .local || k == .cell))) = true from hl)
  have l2 := (Bool.not_eq_true' _).mp l2
  have hy := locB_loc cx.sc h2
  have main := ps_setLc (i := i) (y := y) (py := py) (spos := spos) (pos := pos) (cx.calm g0) cx.nd (by rw [cx.N]; exact h1) hy (sw_true (by rw [cx.sc]; exact hk) hy l1 l2) hi ok pg pts pel hfold
  rw [g3] at main
  exact PS.imp (PS.or (ps_lock main) main) fun D σ H q => by
    have q : tEK (yw X C.xs W xa) T (.lcD elt tg j c) σ H fun x H1 => gName i x σ H1 D.nx := q
    exact tE_lcD (Y := yw X C.xs W xa) (Y0 := yw X C.xs WN xa) ⟨rfl, rfl⟩ q
theorem setAny_ps {X : Cx} {C : CEnv} (cx : Ctx T C X W xa) (hk : C.sc.kind = .function) {i : Nat} {y : Str} {py spos : Pos} {e : Expr} (h1 : C.N[i]? = some y) (h2 : locB C.sc y = true) (hl : lineOk y py e = true) :
    ∀ a : CE, okE C a e = true → PS X (.Assign [.Name y py] e spos) (tAsg (tEK (yw X C.xs W xa) T a) (gName i))
  | .keep j a, h => PS.imp (setAny_ps cx hk h1 h2 hl a (and2 h).2) fun D σ H q => by
    have q : tEK (yw X C.xs W xa) T (.keep j a) σ H fun x H1 => gName i x σ H1 D.nx := q
    exact tE_keep q
  | .lc elt tg it c, h => PS.imp (setLc_ps cx hk h1 h2 h hl) fun D σ H q => q
  | .lcD elt tg j c, h => PS.imp (setLcD_ps cx hk h1 h2 h hl) fun D σ H q => q
  | .var _, h | .lit _, h | .op _ _ _, h | .neg _, h | .cmp _ _ _, h | .chn _ _ _ _ _, h | .andb _, h | .orb _, h | .notb _, h | .ife _ _ _, h | .tup _, h | .lst _, h | .dnew _, h | .srt _, h | .dspG _ _, h | .dsp _ _, h | .idx _ _, h | .slc _ _ _, h | .rev _, h | .isi _ _, h | .call _ _, h | .blt _ _, h | .rngL _ _, h | .inr _ _ _, h | .mth _ _ _, h | .pop _ _, h | .callO _ _, h | .xis _ _, h | .xcl _ _, h => by
    cases e <;> first | (cases hl; done) | (cases h; done)
/-- a def's own frame -/
structure StX (X : Cx) : Prop where
  stk : X.stack = X.env :: X.outer
  frm : X.env.frame = some X.env.locals
theorem Ctx.tr {X : Cx} {C : CEnv} (c : Ctx T C X W xa) (hc : C.cool = true) {pn : List (Addr × Obj)} {xe : Value → Shared → Prop} {W' : WX} (tk : L2N.Takes (X.tr pn xe) W') : Ctx T C (X.tr pn xe) W' xa :=
  ⟨c.N, c.nd, c.calm, c.sc, c.un, fun z x f h => let ⟨k, a, fd, ps, q⟩ := c.fn z x f h; ⟨k, a, fd, ps, q.ok, q.room, q.mg, q.kp, q.bd, q.nm⟩, c.bl, c.gl, c.gn, c.nm, c.fc, tk, c.xf,
    fun x f h => let ⟨k, a, fd, ps, q⟩ := c.hfn x f h; ⟨k, a, fd, ps, q.ok, q.room, q.mg, q.kp, q.bd, q.nm⟩, fun x f h => let ⟨k, a, fd, ps, q⟩ := c.hfx x f h; ⟨k, a, fd, ps, q.ok, q.room, q.mg, q.kp, q.bd, q.nm⟩, fun z => absurd (hc.symm.trans z) (by simp), c.gd⟩
theorem Ctx.suite {X : Cx} {C : CEnv} (c : Ctx T C X W xa) {a D : Addr} {oe : Obj} {pn : List (Addr × Obj)} {x : Ex} (o : XObj X.mg C.xs x D oe) : Ctx { T with cur := some x } { C with cool := false } (X.suite a ((a, oe) :: pn)) WN a :=
  ⟨c.N, c.nd, fun z => (by cases z), c.sc, c.un, fun z => (by cases z), c.bl, c.gl, c.gn, c.nm, c.fc, takesN, c.xf,
    fun x f h => let ⟨k, a, fd, ps, q⟩ := c.hfn x f h; ⟨k, a, fd, ps, q.ok, ⟨q.room.dp, q.room.un⟩, q.mg, q.kp, q.bd, q.nm⟩, fun x f h => let ⟨k, a, fd, ps, q⟩ := c.hfx x f h; ⟨k, a, fd, ps, q.ok, ⟨q.room.dp, q.room.un⟩, q.mg, q.kp, q.bd, q.nm⟩,
    fun _ => ⟨⟨oe, ⟨rfl, by obtain ⟨vs, hv⟩ := o.d; exact ⟨vs, hv, o.z.2.2 vs hv⟩⟩, List.mem_cons_self, fun c' hc => by cases hc; exact ⟨D, o⟩⟩⟩, fun z => (by cases z)⟩
mutual
theorem pS : ∀ (c : CS) {T : Tb} {X : Cx} {C : CEnv} {W : WX} {xa : Addr} {s : Stmt}, Ctx T C X W xa → C.sc.kind = .function → StX X → PassesOwn (model X.prog X.w) X.A X.env X.xe → okS C c s = true → PS X s (tSK (yw X C.xs W xa) T c)
  | .set i a, T, X, C, W, xa, s, cx, hk, hs, hp, h => by
    obtain ⟨x, p, e, pos, rfl, h1, h2, h3, h4⟩ := set_inv h
    refine PS.imp (t := tAsg (tEK (yw X C.xs W xa) T a) (gName i)) ?_ fun _ _ _ q => tS_set q
    obtain ⟨hl, hf⟩ := store_of cx h2
    rcases h4 with h4 | h4
    · exact ps_set cx.nd (by rw [cx.N]; exact h1) hl (pE a cx h3).ex (swaps_of h4 _ _ _) hf
    · by_cases hloc : locB C.sc x = true
      case neg =>
        have hcell : X.env.scope.names.lookup x = some .cell := by
          rcases Bool.or_eq_true_iff.mp h2 with q | q
          · exact absurd q hloc
          · exact cellB_cell cx.sc (and2 q).2
        exact ps_set cx.nd (by rw [cx.N]; exact h1) hl (pE a cx h3).ex (swaps_cell hcell _) hf
      rw [if_pos hloc] at h4
      have h2 := hloc
      exact setAny_ps cx hk h1 h2 h4 a h3
  | .unp is a, T, X, C, W, xa, s, cx, hk, hs, hp, h => by
    obtain ⟨ts, k, p, e, pos, rfl, h1, h2, h3⟩ := unp_inv h
    exact PS.imp (ps_asg (pE a cx h2).ex (tg_pg cx h1) (swaps_tup _ _ _ _ _ _) (swp_none h3) rfl) fun _ _ _ q => tS_unp q
  | .par i j a b, T, X, C, W, xa, s, cx, hk, hs, hp, h => by
    obtain ⟨x, px, y, py, k, p, ea, eb, k2, p2, pos, rfl, h1, h2, h3, h4, h5, h6, h7, h8, h9, h10, h11⟩ := par_inv h
    have lx := locB_loc cx.sc h3
    have ly := locB_loc cx.sc h4
    have sa := okE_star h8
    have sb := okE_star h9
    have hl : okL C [a, b] [ea, eb] = true := by
      show (okE C a ea && (okE C b eb && true)) = true
      rw [h8, h9]; rfl
    have pa : PA X [ea, eb] (tKK (yw X C.xs W xa) T [a, b]) := (LAll.cons sa rfl (pE a cx h8) (.cons sb rfl (pE b cx h9) .nil)).k
    exact PS.imp (ps_par (cx.calm h11) cx.nd (by rw [cx.N]; exact h1) (by rw [cx.N]; exact h2) h5 lx ly pa (swp_par (by rw [cx.sc]; exact hk) lx ly h6 h7 sa sb h10) (swaps_tup _ _ _ _ _ _)) fun _ _ _ q => tS_par q
  | .sub o a b, T, X, C, W, xa, s, cx, hk, hs, hp, h => by
    obtain ⟨x, p, ik, p2, e, pos, rfl, h1, h2, h3, h4⟩ := sub_inv h
    exact PS.imp (ps_putS (by have := cx.un; omega) (var_pe cx h1 h2) (pE a cx h3).ex (pE b cx h4).ex (swaps_sub _ _ _ _ _ _)) fun _ _ _ q => tS_sub q
  | .mut m i es, T, X, C, W, xa, s, cx, hk, hs, hp, h => by
    obtain ⟨x, p, apos, xs, cpos, pos, rfl, h1, h2, h3, h4, h5⟩ := mut_inv h
    obtain ⟨id, hs, ht, hm⟩ := mt_mut (X := X) m
    have hv := var_pe cx (p := p) h1 h2
    have ih := (pL es cx h3).k
    cases es with
    | nil =>
      have := okL_nil h3
      subst this
      exact PS.imp (ps_expr (pe_bm0 F.plainAttrs_list hs ht hm hv rfl h5) rfl) fun _ _ _ q => tS_mut0 q
    | cons c cs =>
      obtain ⟨e, es', rfl, g1, g2⟩ := okL_cons h3
      exact PS.imp (ps_expr (pe_bm F.plainAttrs_list hs ht hm hv ih rfl (few30 h3 h4 _ _) h5 (star1 (okE_star g1)) (okL_star g2 _ _)) rfl) fun _ _ _ q => tS_mut q
  | .exp a, T, X, C, W, xa, s, cx, hk, hs, hp, h => by
    obtain ⟨e, pos, rfl, h1, h2⟩ := exp_inv h
    exact PS.imp (ps_expr (pE a cx h1).ex (swaps_of h2 _ _ _)) fun _ _ _ q => tS_exp q
  | .ret none, T, X, C, W, xa, s, cx, hk, hs, hp, h => by
    obtain ⟨oe, pos, rfl, h1⟩ := ret_inv h
    have := Option.isNone_iff_eq_none.mp (show oe.isNone = true from h1)
    subst this
    exact PS.imp ps_retN fun _ _ _ q => tS_retN q
  | .ret (some a), T, X, C, W, xa, s, cx, hk, hs, hp, h => by
    obtain ⟨oe, pos, rfl, h1⟩ := ret_inv h
    cases oe with
    | none => cases h1
    | some e => exact PS.imp (ps_ret (pE a cx h1).ex) fun _ _ _ q => tS_ret q
  | .ife t a b, T, X, C, W, xa, s, cx, hk, hs, hp, h => by
    obtain ⟨t', a', b', pos, rfl, h1, h2, h3⟩ := ife_inv h
    exact PS.imp (ps_if (pE t cx h1).tt (pB a cx hk hs hp h2) (pB b cx hk hs hp h3)) fun _ _ _ q => tS_ife q
  | .whl t b, T, X, C, W, xa, s, cx, hk, hs, hp, h => by
    obtain ⟨t', b', pos, rfl, h1, h2⟩ := whl_inv h
    exact PS.imp (ps_while hp (pE t cx h1).tt (pB b cx hk hs hp h2)) fun _ _ _ q => tS_whl q
  | .for tg it b, T, X, C, W, xa, s, cx, hk, hs, hp, h => by
    obtain ⟨t', i', b', pos, rfl, h0, h1, h2, h3⟩ := for_inv h
    exact PS.imp (ps_for hp (cx.calm h0) (pI it cx h2) (tg_pg cx h1) (pB b cx hk hs hp h3) fun x => folded_of (okI_noSet h2) _ _) fun _ _ _ q => tS_for q
  | .forS en tg i b, T, X, C, W, xa, s, cx, hk, hs, hp, h => by
    obtain ⟨t', i', b', pos, rfl, h0, h1, h2, h3⟩ := forS_inv h
    exact PS.imp (ps_for hp (cx.calm h0) (pIS cx h2) (tg_pg cx h1) (pB b cx hk hs hp h3) fun x => folded_of (okI_noSet h2) _ _) fun _ _ _ q => tS_forS q
  | .forD tg i b, T, X, C, W, xa, s, cx, hk, hs, hp, h => by
    obtain ⟨t', y, p, b', pos, rfl, h0, h1, h2, h2', h3⟩ := forD_inv h
    have hi : PI X t' (.Name y p) (iKeys (tVar i)) := pi_keys (var_pe cx h2 h2')
    have main := ps_for (pos := pos) hp (cx.calm h0) hi (tg_pg cx h1) (pB b cx hk hs hp h3) fun x => folded_of rfl _ _
    exact PS.imp (PS.or (ps_lock main) main) fun _ _ _ q => tS_forD q
  | .brk, T, X, C, W, xa, s, cx, hk, hs, hp, h => by
    cases s <;> first
      | (cases h; done)
      | exact PS.imp ps_break fun _ _ _ q => tS_brk q
  | .cnt, T, X, C, W, xa, s, cx, hk, hs, hp, h => by
    cases s <;> first
      | (cases h; done)
      | exact PS.imp ps_continue fun _ _ _ q => tS_cnt q
  | .pas, T, X, C, W, xa, s, cx, hk, hs, hp, h => by
    unfold okS at h
    split at h
    · exact PS.imp ps_pass fun _ _ _ q => tS_pas q
    · exact PS.imp ps_doc fun _ _ _ q => tS_pas q
    · cases h
  | .nev, T, X, C, W, xa, s, cx, hk, hs, hp, h => PS.imp PS.em fun D σ H ⟨_, _, _, _, z⟩ => z
  | .rse x, T, X, C, W, xa, s, cx, hk, hs, hp, h => by
    obtain ⟨p, m, j, p2, p3, p4, rfl, h1, h2, h3⟩ := rse_inv h
    obtain ⟨nk, D, f⟩ := cx.xf.2 x h2
    exact PS.imp (L2N.ps_raise (cx.calm h3) cx.tk (L2N.pmk_own F.excBase_ValueError f.ex f.g f.kp (raises_own f.sb f.ty) (gloB_gl cx.sc h1) (nameOk_d nk).1)) fun De σ H q => tS_rse (Y := yw X C.xs W xa) f.g h2 q
  | .tr b i x s, T, X, C, W, xa, st, cx, hk, hs, hp, h => by
    obtain ⟨b', p, n, s0, s', p2, p3, rfl, h1, h2, h3, h4, h5, h6, h7⟩ := tr_inv h
    obtain ⟨nk, O, fg⟩ := cx.xf.1 x h2
    have hn : X.N[i]? = some n := by rw [cx.N]; exact h3
    refine PS.imp (L2N.ps_try_as (tb := fun W' => tBK (yw X C.xs W' xa) T b) (ts := tXs (yw X C.xs W xa) T s) (c := .ref O) hs.stk hs.frm cx.nd hn (locB_loc cx.sc h4) ⟨gloB_gl cx.sc h1, (nameOk_d nk).1, .inl fg⟩ cx.tk (fun W' pn xe tk pp => ?_) fun a oe cls d pn hz hd => ?_) fun De σ H q => ?_
    · exact pB b (cx.tr h5 tk) hk ⟨hs.stk, hs.frm⟩ pp h6
    · refine ⟨fun pins s1 σ H De I q => ?_⟩
      obtain ⟨c, c1, c2, c3, rfl, q⟩ := q
      obtain ⟨_, D, fc⟩ := cx.xf.2 c.cls c2
      have c1 : X.mg c.cls = some cls := c1
      obtain rfl : cls = .ref D := Option.some.inj (c1.symm.trans fc.g)
      exact (pB s (cx.suite (a := a) (pn := pn) ⟨hz, hd, c1, c3, c2⟩) hk ⟨hs.stk, hs.frm⟩ PassesOwn.never h7).run pins s1 σ H De I q
    · refine tS_tr (Y := yw X C.xs W xa) (fun c D hc hg => ?_) q
      obtain ⟨_, D', fc⟩ := cx.xf.2 c hc
      have hg : X.mg c = some D := hg
      obtain rfl : D = .ref D' := Option.some.inj (hg.symm.trans fc.g)
      exact (fc.it x h2 O fg).2
termination_by structural c => c
theorem pB : ∀ (cs : List CS) {T : Tb} {X : Cx} {C : CEnv} {W : WX} {xa : Addr} {ss : List Stmt}, Ctx T C X W xa → C.sc.kind = .function → StX X → PassesOwn (model X.prog X.w) X.A X.env X.xe → okB C cs ss = true → PSs X ss (tBK (yw X C.xs W xa) T cs)
  | [], T, X, C, W, xa, ss, cx, hk, hs, hp, h => by
    have := List.isEmpty_iff.mp (show ss.isEmpty = true from h)
    subst this
    exact PSs.imp pss_nil fun _ _ _ q => tB_nil q
  | c :: cs, T, X, C, W, xa, ss, cx, hk, hs, hp, h => by
    cases ss with
    | nil => cases h
    | cons s ss =>
      obtain ⟨h1, h2⟩ := and2 h
      exact PSs.imp (pss_cons (pS c cx hk hs hp h1) (pB cs cx hk hs hp h2)) fun _ _ _ q => tB_cons q
termination_by structural c => c
end
end
end VL
/-! VL22: a def. -/
namespace VL
open PySem PySem.Spec L2
section
variable {M : Av} {H H' : Hp}
theorem args_len : ∀ {fl : List Bool} {ds : List D} {vs : List V}, ArgsR M H fl ds vs → ds.length = fl.length ∧ vs.length = fl.length
  | [], _, _, ⟨e1, e2⟩ => by rw [e1, e2]; exact ⟨rfl, rfl⟩
  | true :: fl, _, _, ⟨d, ds', a, vs', e1, e2, _, _, t⟩ => by
    obtain ⟨h1, h2⟩ := args_len t
    rw [e1, e2]; exact ⟨by simp [h1], by simp [h2]⟩
  | false :: fl, _, _, ⟨d, ds', v, vs', e1, e2, _, t⟩ => by
    obtain ⟨h1, h2⟩ := args_len t
    rw [e1, e2]; exact ⟨by simp [h1], by simp [h2]⟩
theorem args_at : ∀ {fl : List Bool} {ds : List D} {vs : List V}, ArgsR M H fl ds vs → ∀ (i : Nat) (b : Bool), fl[i]? = some b → ∃ d v, ds[i]? = some d ∧ vs[i]? = some v ∧ (b = false → Rep M H d v) ∧ (b = true → ∃ a, v = .ref a ∧ M a ∧ OwnRep M H d a)
  | [], _, _, _, i, b, e => by simp at e
  | true :: fl, _, _, ⟨d, ds', a, vs', e1, e2, m, o, t⟩, i, b, e => by
    subst e1 e2
    cases i with
    | zero => cases e; exact ⟨d, V.ref a, rfl, rfl, fun z => (by cases z), fun _ => ⟨a, rfl, m, o⟩⟩
    | succ i => exact args_at t i b e
  | false :: fl, _, _, ⟨d, ds', v, vs', e1, e2, r, t⟩, i, b, e => by
    subst e1 e2
    cases i with
    | zero => cases e; exact ⟨d, v, rfl, rfl, fun _ => r, fun z => (by cases z)⟩
    | succ i => exact args_at t i b e
theorem ioA_in : ∀ {fl : List Bool} {vs : List V} {i : Nat} {a : Addr}, fl[i]? = some true → vs[i]? = some (V.ref a) → a ∈ ioA fl vs
  | [], _, _, _, e, _ => by simp at e
  | _ :: _, [], _, _, _, e => by simp at e
  | b :: fl, v :: vs, 0, a, e1, e2 => by
    cases e1
    cases e2
    exact List.mem_cons_self
  | b :: fl, v :: vs, i + 1, a, e1, e2 => by
    have ih := ioA_in (fl := fl) (vs := vs) (i := i) (a := a) e1 e2
    cases b with
    | false => cases v <;> exact ih
    | true => cases v <;> first | exact List.mem_cons_of_mem _ ih | exact ih
theorem ioA_of : ∀ {fl : List Bool} {vs : List V} {a : Addr}, a ∈ ioA fl vs → ∃ i : Nat, fl[i]? = some true ∧ vs[i]? = some (V.ref a)
  | [], _, _, h => by cases h
  | true :: fl, [], _, h => by cases h
  | false :: fl, [], _, h => by cases h
  | false :: fl, v :: vs, a, h => by
    have h : a ∈ ioA fl vs := by cases v <;> exact h
    obtain ⟨i, q1, q2⟩ := ioA_of h
    exact ⟨i + 1, q1, q2⟩
  | true :: fl, v :: vs, a, h => by
    have key : a ∈ ioA fl vs → ∃ i : Nat, (true :: fl)[i]? = some true ∧ (v :: vs)[i]? = some (V.ref a) := fun h => by
      obtain ⟨i, q1, q2⟩ := ioA_of h
      exact ⟨i + 1, q1, q2⟩
    cases v <;> first
      | exact key h
      | skip
    rcases List.mem_cons.mp h with z | z
    · subst z; exact ⟨0, rfl, rfl⟩
    · exact key z
theorem ioA_inj : ∀ {fl : List Bool} {vs : List V} {i j : Nat} {a : Addr}, (ioA fl vs).Nodup → fl[i]? = some true → vs[i]? = some (V.ref a) → fl[j]? = some true → vs[j]? = some (V.ref a) → i = j
  | [], _, _, _, _, _, e, _, _, _ => by simp at e
  | _ :: _, [], _, _, _, _, _, e, _, _ => by simp at e
  | b :: fl, v :: vs, i, j, a, n, h1, h2, h3, h4 => by
    have n' : (ioA fl vs).Nodup := by
      cases b with
      | false => cases v <;> exact n
      | true => cases v <;> first | exact (List.nodup_cons.mp n).2 | exact n
    cases i with
    | zero =>
      cases j with
      | zero => rfl
      | succ j =>
        cases h1; cases h2
        exact absurd (ioA_in (fl := fl) (vs := vs) h3 h4) (List.nodup_cons.mp n).1
    | succ i =>
      cases j with
      | zero =>
        cases h3; cases h4
        exact absurd (ioA_in (fl := fl) (vs := vs) h1 h2) (List.nodup_cons.mp n).1
      | succ j => rw [ioA_inj (fl := fl) (vs := vs) (i := i) (j := j) n' h1 h2 h3 h4]
theorem startE_io {fl : List Bool} {n : Nat} {ds : List D} {i : Nat} (hl : ds.length = fl.length) {s : Slot} (e : (startE fl n ds)[i]? = some s) : s = .un ∨ ∃ b d, fl[i]? = some b ∧ ds[i]? = some d ∧ s = if b = true then .io d else .sh d := by
  unfold startE at e
  by_cases hi : i < fl.length
  · right
    rw [List.getElem?_append_left (by simp [hl, hi])] at e
    rw [List.getElem?_map] at e
    obtain ⟨⟨b, d⟩, e1, e2⟩ := Option.map_eq_some_iff.mp e
    obtain ⟨h1, h2⟩ := List.getElem?_zip_eq_some.mp e1
    exact ⟨b, d, h1, h2, e2.symm⟩
  · left
    rw [List.getElem?_append_right (by simp [hl]; omega)] at e
    rw [List.getElem?_replicate] at e
    split at e <;> first | (cases e; rfl) | cases e
theorem startE_len {fl : List Bool} {n : Nat} {ds : List D} (hl : ds.length = fl.length) (hn : fl.length ≤ n) : (startE fl n ds).length = n := by
  unfold startE
  simp [hl]
  omega
theorem iosR_of {e : EnvD} {M : Av} : ∀ {fl : List Bool} {vs : List V} {off : Nat} {ios : List D}, iosOf e fl off = some ios → vs.length = fl.length → (∀ (k : Nat) (d : D), fl[k]? = some true → e[off + k]? = some (.io d) → ∃ a, vs[k]? = some (V.ref a) ∧ OwnRep M H' d a) → IosR M H' fl ios vs
  | [], vs, _, ios, h, hl, _ => by cases h; exact ⟨rfl, List.length_eq_zero_iff.mp hl⟩
  | true :: fl, vs, off, ios, h, hl, k => by
    unfold iosOf at h
    cases q : e[off]? with
    | none => rw [q] at h; cases h
    | some s =>
      rw [q] at h
      cases s <;> first
        | (cases h; done)
        | skip
      rename_i d
      obtain ⟨ios', h1, h2⟩ := Option.map_eq_some_iff.mp h
      subst h2
      obtain ⟨a, e1, o⟩ := k 0 d rfl q
      cases vs with
      | nil => cases hl
      | cons v vs =>
        cases e1
        refine ⟨d, ios', a, vs, rfl, rfl, o, iosR_of h1 (by simpa using hl) fun j d' g1 g2 => ?_⟩
        exact k (j + 1) d' g1 (by rw [show off + (j + 1) = off + 1 + j by omega]; exact g2)
  | false :: fl, vs, off, ios, h, hl, k => by
    have h : iosOf e fl (off + 1) = some ios := h
    cases vs with
    | nil => cases hl
    | cons v vs =>
      refine ⟨v, vs, rfl, iosR_of h (by simpa using hl) fun j d' g1 g2 => ?_⟩
      exact k (j + 1) d' g1 (by rw [show off + (j + 1) = off + 1 + j by omega]; exact g2)
end
end VL
/-! VL23: a def keeps its promise; the program. -/
namespace VL
open PySem PySem.Spec L2
section
variable {xa : Addr} {M : Av} {H H' : Hp} {fl : List Bool} {vs : List V} {ds : List D}
def frOf (xa : Addr) (M : Av) (H : Hp) (fl : List Bool) (vs : List V) : Fr := ⟨M.K, fun b => M b ∧ b ∉ ioA fl vs, H, fun i => match fl[i]?, vs[i]? with
  | some true, some (.ref a) => some a
  | _, _ => none, xa⟩
theorem frOf_io {i : Nat} {a : Addr} (h : (frOf xa M H fl vs).io i = some a) : fl[i]? = some true ∧ vs[i]? = some (V.ref a) := by
  have h : (match fl[i]?, vs[i]? with
  | some true, some (.ref a) => some a
  | _, _ => none) = some a := h
  split at h
  · rename_i h1 h2
    cases h
    exact ⟨h1, h2⟩
  · cases h
theorem frOf_io' {i : Nat} {a : Addr} (h1 : fl[i]? = some true) (h2 : vs[i]? = some (V.ref a)) : (frOf xa M H fl vs).io i = some a := by
  show (match fl[i]?, vs[i]? with
  | some true, some (.ref a) => some a
  | _, _ => none) = some a
  rw [h1, h2]
theorem start_at {N : List Str} {i : Nat} {v : V} (e : vs[i]? = some v) : (start N vs)[i]? = some (some v) := by
  unfold L2.start
  have hi : i < vs.length := (List.getElem?_eq_some_iff.mp e).1
  rw [List.getElem?_append_left (by simpa using hi), List.getElem?_map, e]
  rfl
theorem start_len {N : List Str} (h : vs.length ≤ N.length) : (start N vs).length = N.length := by
  unfold L2.start
  simp
  omega
/-- the start of a def's body -/
theorem start_sim {N : List Str} (hM : ∀ b, M b → ∃ o, H b = some o ∧ ∀ xs, o ≠ .tup xs) (ha : ArgsR M H fl ds vs) (nd : (ioA fl vs).Nodup) (hN : fl.length ≤ N.length) : Sim (frOf xa M H fl vs) (startE fl N.length ds) (start N vs) H := by
  obtain ⟨l1, l2⟩ := args_len ha
  have at' := args_at ha
  have ioat : ∀ (i : Nat) (d : D), (startE fl N.length ds)[i]? = some (.io d) → ∃ a, fl[i]? = some true ∧ vs[i]? = some (V.ref a) ∧ M a ∧ OwnRep M H d a := fun i d e => by
    rcases startE_io l1 e with z | ⟨b, d', h1, h2, h3⟩
    · cases z
    · cases b with
      | false => cases h3
      | true =>
        cases h3
        obtain ⟨d2, v, g1, g2, _, g3⟩ := at' i true h1
        rw [h2] at g1; cases g1
        obtain ⟨a, rfl, m, o⟩ := g3 rfl
        exact ⟨a, h1, g2, m, o⟩
  have ownsM : ∀ b, Owns (startE fl N.length ds) (start N vs) b → M b := fun b ⟨i, s, d, e1, e2, e3⟩ => by
    cases s with
    | un => cases e2
    | xc => cases e2
    | sh d => cases e2
    | ow d' =>
      rcases startE_io l1 e1 with z | ⟨b', d2, h1, h2, h3⟩
      · cases z
      · cases b' <;> cases h3
    | io d' =>
      obtain ⟨a, g1, g2, g3, g4⟩ := ioat i d' e1
      rw [start_at g2] at e3; cases e3
      exact g3
  have kp : Kp M H (Mx (frOf xa M H fl vs) (startE fl N.length ds) (start N vs)) H := ⟨rfl, fun b o e n => ⟨e, fun z => n (Or.elim z (fun z => z.1) (ownsM b))⟩⟩
  refine ⟨?_, fun i d e => ?_, fun i d e => ?_, fun i d e => ?_, fun i j s t d e a e1 h1 e2 h2 e3 e4 => ?_, fun b z => hM b z.1, fun b o e _ => e, fun i a e => ?_, fun j e => by
    rcases startE_io l1 e with z | ⟨b', d2, h1, h2, h3⟩
    · cases z
    · cases b' <;> cases h3⟩
  · rw [start_len (by omega), startE_len l1 hN]
  · rcases startE_io l1 e with z | ⟨b, d', h1, h2, h3⟩
    · cases z
    · cases b with
      | true => cases h3
      | false =>
        cases h3
        obtain ⟨d2, v, g1, g2, g3, _⟩ := at' i false h1
        rw [h2] at g1; cases g1
        exact ⟨v, start_at g2, (g3 rfl).mv kp⟩
  · rcases startE_io l1 e with z | ⟨b, d', h1, h2, h3⟩
    · cases z
    · cases b <;> cases h3
  · obtain ⟨a, g1, g2, g3, g4⟩ := ioat i d e
    exact ⟨a, start_at g2, fun z => z.2 (ioA_in g1 g2), frOf_io' g1 g2, g4.mv kp rfl⟩
  · have w : ∀ {j s d}, (startE fl N.length ds)[j]? = some s → Slot.held s = some d → ∃ d', s = .io d' := fun {j s d} e h => by
      cases s with
      | un => cases h
      | xc => cases h
      | sh d => cases h
      | io d' => exact ⟨d', rfl⟩
      | ow d' =>
        rcases startE_io l1 e with z | ⟨b', d2, h1, h2, h3⟩
        · cases z
        · cases b' <;> cases h3
    obtain ⟨x, rfl⟩ := w e1 h1
    obtain ⟨y, rfl⟩ := w e2 h2
    obtain ⟨a1, g1, g2, _⟩ := ioat i x e1
    obtain ⟨a2, g3, g4, _⟩ := ioat j y e2
    rw [start_at g2] at e3; cases e3
    rw [start_at g4] at e4; cases e4
    exact ioA_inj nd g1 g2 g3 g4
  · obtain ⟨g1, g2⟩ := frOf_io e
    obtain ⟨d, v, q1, q2, _, q3⟩ := at' i true g1
    refine ⟨d, ?_, start_at g2⟩
    have hi : i < fl.length := (List.getElem?_eq_some_iff.mp g1).1
    unfold startE
    rw [List.getElem?_append_left (by simp [l1, hi]), List.getElem?_map, show (fl.zip ds)[i]? = some (true, d) from List.getElem?_zip_eq_some.mpr ⟨g1, q1⟩]
    rfl
/-- what is kept, at the end of a body -/
theorem end_keep {F : Fr} {e : EnvD} {σ' : SV} (hF : F = frOf xa M H fl vs) (S : Sim F e σ' H') : ∀ b o, H b = some o → b ∉ ioA fl vs → H' b = some o := fun b o h n => by
  subst hF
  refine S.keep b o h fun i z => n ?_
  obtain ⟨g1, g2⟩ := frOf_io z
  exact ioA_in g1 g2
theorem end_sub {e : EnvD} {σ' : SV} (S : Sim (frOf xa M H fl vs) e σ' H') : ∀ b, M b → Mx (frOf xa M H fl vs) e σ' b := fun b m => by
  by_cases hb : b ∈ ioA fl vs
  · obtain ⟨i, g1, g2⟩ := ioA_of hb
    obtain ⟨d, q1, q2⟩ := S.iok i b (frOf_io' g1 g2)
    exact .inr ⟨i, _, d, q1, rfl, q2⟩
  · exact .inl ⟨m, hb⟩
theorem end_ios {e e' : EnvD} {σ' : SV} {M' : Av} {ios : List D} (S : Sim (frOf xa M H fl vs) e σ' H') (hl : vs.length = fl.length) (ha : ∀ k : Nat, fl[k]? = some true → ∃ a, vs[k]? = some (V.ref a)) (hi : iosOf e' fl 0 = some ios) (he : ∀ (i : Nat) (d : D), e'[i]? = some (.io d) → e[i]? = some (.io d))
    (kp : Kp (Mx (frOf xa M H fl vs) e σ') H' M' H') : IosR M' H' fl ios vs := by
  refine iosR_of hi hl fun k d h1 h2 => ?_
  rw [Nat.zero_add] at h2
  obtain ⟨a, h3⟩ := ha k h1
  obtain ⟨a', q1, _, q3, q4⟩ := S.io k d (he k d h2)
  rw [frOf_io' h1 h3] at q3
  cases q3
  exact ⟨a, h3, q4.mv kp rfl⟩
theorem ioA_none : ∀ {fl : List Bool} {vs : List V}, fl.all (fun b => !b) = true → ioA fl vs = []
  | [], vs, _ => by cases vs <;> rfl
  | b :: fl, [], _ => by cases b <;> rfl
  | b :: fl, v :: vs, h => by
    obtain ⟨h1, h2⟩ := and2 h
    cases b with
    | true => cases h1
    | false => cases v <;> exact ioA_none (fl := fl) (vs := vs) h2
theorem runDef_post {T : Tb} {d : Def} {N : List Str} {Q : VK} {E : XK} {mg : Str → Option Value} {xs : List Str} (hfl : d.fl = fl) (hn : d.n = N.length) (hM : ∀ b, M b → ∃ o, H b = some o ∧ ∀ xs, o ≠ .tup xs) (ha : ArgsR M H fl ds vs) (nd : (ioA fl vs).Nodup)
    (h : (∃ q, runDef T d ds = .ok q ∧ ∀ v H', CallPost M H fl vs q v H' → Q v H') ∨ ∃ x, runDef T d ds = .exc x ∧ fl.all (fun b => !b) = true ∧ ∀ C dd H', (∀ b o, H b = some o → H' b = some o) → XRep mg xs x C dd → E C dd H') :
    tBK ⟨M.K, mg, fun cls dd _ H' => E cls dd H', xa, xs⟩ T d.body { nx := fun _ H' => Q .non H', rt := Q } (start N vs) H := by
  rcases h with ⟨q, hr, k⟩ | ⟨x, hr, hf, k⟩
  case inr =>
    subst hfl
    cases hc : (decide (ds.length = d.fl.length) && decide (d.fl.length ≤ d.n)) with
    | false =>
      have hr : (chk (decide (ds.length = d.fl.length) && decide (d.fl.length ≤ d.n)) >>= fun _ => _) = Res.exc x := hr
      rw [hc] at hr
      cases hr
    | true =>
      obtain ⟨c1, c2⟩ := and2 hc
      have c2 := of_decide_eq_true c2
      rw [hn] at c2
      have S0 := start_sim (xa := xa) (N := N) hM ha nd c2
      refine ⟨frOf xa M H d.fl vs, _, ⟨rfl, rfl⟩, S0, ?_⟩
      have hb : runB T d.body (startE d.fl N.length ds) = .exc x := by
        have hr : (chk (decide (ds.length = d.fl.length) && decide (d.fl.length ≤ d.n)) >>= fun _ => runB T d.body (startE d.fl d.n ds) >>= fun o => match o with
          | .nx e => (do let ios ← ofO (iosOf e d.fl 0); .ok ⟨false, .non, ios⟩ : Res FRes)
          | .rt r e => do
            let (o, v, e) ← retR e r
            let ios ← ofO (iosOf e d.fl 0)
            .ok ⟨o, v, ios⟩
          | _ => .fail) = .exc x := hr
        rw [hc, hn] at hr
        have hr : (runB T d.body (startE d.fl N.length ds) >>= fun o => _) = Res.exc x := hr
        cases hb : runB T d.body (startE d.fl N.length ds) with
        | fail => rw [hb] at hr; cases hr
        | exc y => rw [hb] at hr; rw [Res.exc_bind] at hr; rw [Res.exc.inj hr]
        | ok o =>
          exfalso
          rw [hb] at hr
          have nr : ∀ (e : EnvD) (r : R), NX (retR e r) := fun e r => by
            cases r with
            | dat d => exact nx_ok _
            | own d => exact nx_ok _
            | slot i => unfold retR; dsimp only; split <;> first | exact nx_ok _ | exact nx_fail
          cases o with
          | bk e => cases hr
          | ct e => cases hr
          | nx e => exact ((nx_ofO _).bind fun _ => nx_ok _).n x hr
          | rt r e => exact ((nr e r).bind fun _ => (nx_ofO _).bind fun _ => nx_ok _).n x hr
      rw [hb]
      show XS _ _ _ _ _ x
      intro σ' H' S st C dd xr
      refine k C dd H' (fun b o e => end_keep rfl S b o e ?_) xr
      rw [ioA_none hf]; simp
  subst hfl
  obtain ⟨c, hr⟩ := chk_bind hr
  obtain ⟨o, hb, hr⟩ := Res.bind_ok hr
  obtain ⟨c1, c2⟩ := and2 c
  have c1 := of_decide_eq_true c1
  have c2 := of_decide_eq_true c2
  rw [hn] at hb c2
  obtain ⟨l1, l2⟩ := args_len ha
  have hia : ∀ k : Nat, d.fl[k]? = some true → ∃ a, vs[k]? = some (V.ref a) := fun k hk => by
    obtain ⟨_, v, _, g2, _, g3⟩ := args_at ha k true hk
    obtain ⟨a, rfl, _⟩ := g3 rfl
    exact ⟨a, g2⟩
  have S0 := start_sim (xa := xa) (N := N) hM ha nd c2
  refine ⟨frOf xa M H d.fl vs, _, ⟨rfl, rfl⟩, S0, WPr.of_ok hb ?_⟩
  cases o with
  | bk e => cases hr
  | ct e => cases hr
  | nx e =>
    obtain ⟨ios, hi, hr⟩ := Res.bind_ok hr
    cases hr
    intro σ' H' S st
    have kp : Kp (Mx (frOf xa M H d.fl vs) e σ') H' M H' := ⟨rfl, fun b o e n => ⟨e, fun z => n (end_sub S b z)⟩⟩
    exact k _ _ ⟨end_keep rfl S, rfl, end_ios S l2 hia (ofO_ok hi) (fun _ _ z => z) kp⟩
  | rt r e =>
    obtain ⟨⟨o, v0, e2⟩, hq, hr⟩ := Res.bind_ok hr
    obtain ⟨ios, hi, hr⟩ := Res.bind_ok hr
    cases hr
    intro v σ' H' ⟨st, post⟩
    cases r with
    | dat x =>
      cases hq
      obtain ⟨S, rx⟩ := post
      have kp : Kp (Mx (frOf xa M H d.fl vs) e σ') H' M H' := ⟨rfl, fun b o e n => ⟨e, fun z => n (end_sub S b z)⟩⟩
      exact k _ _ ⟨end_keep rfl S, rx.mv kp, end_ios S l2 hia (ofO_ok hi) (fun _ _ z => z) kp⟩
    | own x =>
      cases hq
      obtain ⟨a, rfl, fa, S1, rx⟩ := post
      have S : Sim (frOf xa M H d.fl vs) e σ' H' := S1.weak
      have kp : Kp (Mx ((frOf xa M H d.fl vs).add a) e σ') H' (M.add a) H' := ⟨rfl, fun b o e n => ⟨e, fun z => n (by
        rcases z with z | z
        · rcases end_sub S b z with y | y
          · exact .inl (.inl y)
          · exact .inr y
        · exact .inl (.inr z))⟩⟩
      have kp' : Kp (Mx (frOf xa M H d.fl vs) e σ') H' (Mx ((frOf xa M H d.fl vs).add a) e σ') H' → True := fun _ => trivial
      refine k _ _ ⟨end_keep rfl S, a, rfl, fa, rx.mv kp rfl, ?_⟩
      refine iosR_of (ofO_ok hi) l2 fun kk dd h1 h2 => ?_
      rw [Nat.zero_add] at h2
      obtain ⟨b, h3⟩ := hia kk h1
      obtain ⟨b', q1, _, q3, q4⟩ := S1.io kk dd h2
      have q3 : (frOf xa M H d.fl vs).io kk = some b' := q3
      rw [frOf_io' h1 h3] at q3
      cases q3
      exact ⟨b, h3, q4.mv kp rfl⟩
    | slot i =>
      obtain ⟨S, hv, _⟩ := post
      have hq : (match e[i]? with
        | some (.ow d) => (Res.ok (true, d, e.set i .un) : Res (Bool × D × EnvD))
        | _ => .fail) = .ok (o, v0, e2) := hq
      cases q0 : e[i]? with
      | none => rw [q0] at hq; cases hq
      | some s =>
        rw [q0] at hq
        cases s <;> first
          | (cases hq; done)
          | skip
        cases hq
        obtain ⟨a, ea, ma, fa, ro⟩ := S.ow i _ q0
        rw [hv] at ea; cases ea
        have kp : Kp (Mx (frOf xa M H d.fl vs) e σ') H' (M.add a) H' := ⟨rfl, fun b o e n => ⟨e, fun z => n (by
          rcases z with z | z
          · exact end_sub S b z
          · exact .inr ⟨i, _, _, q0, rfl, by rw [z]; exact hv⟩)⟩⟩
        refine k _ _ ⟨end_keep rfl S, a, rfl, fa, ro.mv kp rfl, end_ios S l2 hia (ofO_ok hi) (fun j x z => ?_) kp⟩
        have hlt : i < e.length := (List.getElem?_eq_some_iff.mp q0).1
        by_cases hj : j = i
        · subst hj; rw [List.getElem?_set_self hlt] at z; cases z
        · rw [List.getElem?_set_ne (Ne.symm hj)] at z; exact z
/-- the frame of a def that is told an exception -/
def frX (K : PySem.W.Frag) (H : Hp) (a : Addr) : Fr := ⟨K, fun _ => False, H, fun _ => none, a⟩
theorem runDefX_post {T : Tb} {d : Def} {q : FRes} {N : List Str} {Q : VK} {E : XK} {K : PySem.W.Frag} {mg : Str → Option Value} {xs : List Str} {a : Addr} (hn : d.n = N.length) (hr : runDefX T d = .ok q) (hp : q.own = false ∧ q.d.pure = true)
    (k : ∀ v H', (∀ b o, H b = some o → H' b = some o) → Rep ⟨K, fun _ => False⟩ H' q.d v → Q v H') :
    tBK ⟨K, mg, fun cls dd _ H' => E cls dd H', a, xs⟩ T d.body { nx := fun _ H' => Q .non H', rt := Q } (start N [.ref a]) H := by
  obtain ⟨c, hr⟩ := chk_bind hr
  obtain ⟨o, hb, hr⟩ := Res.bind_ok hr
  obtain ⟨c1, c2⟩ := and2 c
  have c2 := of_decide_eq_true c2
  have len : (Slot.xc :: List.replicate (d.n - 1) Slot.un).length = N.length := by rw [List.length_cons, List.length_replicate]; omega
  have un : ∀ {j : Nat} {s : Slot}, (Slot.xc :: List.replicate (d.n - 1) Slot.un)[j]? = some s → (j = 0 ∧ s = .xc) ∨ s = .un := fun {j s} e => by
    cases j with
    | zero => cases e; exact .inl ⟨rfl, rfl⟩
    | succ j =>
      rw [List.getElem?_cons_succ, List.getElem?_replicate] at e
      split at e <;> cases e
      exact .inr rfl
  have no : ∀ {j : Nat} {s : Slot} {x : D}, (Slot.xc :: List.replicate (d.n - 1) Slot.un)[j]? = some s → s.held ≠ some x := fun {j s x} e h => by
    rcases un e with ⟨_, rfl⟩ | rfl <;> cases h
  have S0 : Sim (frX K H a) (Slot.xc :: List.replicate (d.n - 1) Slot.un) (start N [.ref a]) H := by
    refine ⟨?_, fun i x e => ?_, fun i x e => ?_, fun i x e => ?_, fun i j s t x y b e1 h1 => absurd h1 (no e1), fun b z => z.elim, fun b o e _ => e, fun i b e => (by cases e), fun i e => ?_⟩
    · rw [start_len (by show 1 ≤ _; omega), len]
    · rcases un e with ⟨_, z⟩ | z <;> cases z
    · rcases un e with ⟨_, z⟩ | z <;> cases z
    · rcases un e with ⟨_, z⟩ | z <;> cases z
    · rcases un e with ⟨rfl, _⟩ | z
      · exact start_at rfl
      · cases z
  refine ⟨frX K H a, _, ⟨rfl, rfl⟩, S0, WPr.of_ok hb ?_⟩
  have keep : ∀ {e : EnvD} {σ' : SV} {H' : Hp}, Sim (frX K H a) e σ' H' → ∀ b o, H b = some o → H' b = some o := fun S b o z => S.keep b o z fun i w => by cases w
  cases o with
  | bk e => cases hr
  | ct e => cases hr
  | nx e =>
    cases hr
    intro σ' H' S st
    exact k _ _ (keep S) rfl
  | rt r e =>
    obtain ⟨⟨o, v0, e2⟩, hq, hr⟩ := Res.bind_ok hr
    cases hr
    intro v σ' H' ⟨st, post⟩
    obtain ⟨hp1, hp2⟩ := hp
    cases r with
    | dat x =>
      cases hq
      obtain ⟨S, rx⟩ := post
      exact k _ _ (keep S) (Rep.pure (fun _ _ _ z => z) hp2 rx)
    | own x => cases hq; cases hp1
    | slot i =>
      have hq : (match e[i]? with
        | some (.ow d) => (Res.ok (true, d, e.set i .un) : Res (Bool × D × EnvD))
        | _ => .fail) = .ok (o, v0, e2) := hq
      split at hq
      · cases hq; cases hp1
      · cases hq
end
end VL
/-! VL24: the program. -/
namespace VL
open PySem PySem.Spec PyProof.Rows L2
structure MDef where
  nm : Str
  ps : List Str
  N : List Str
  st : Stmt
structure GEnv where
  fns : List (Str × Nat)
  gl : List (Str × D)
  bl : List Str
  xs : List Str := []
  hot : List (Str × Nat) := []
  xk : List (Str × Nat) := []
  rs : List Str := []
def cenv (g : GEnv) (m : MDef) (cool : Bool) : CEnv := ⟨m.N, defScope m.st, g.fns, g.gl, g.bl, cellsOf (defScope m.st), cool, g.xs, g.hot, g.xk, g.rs⟩
def okD (g : GEnv) (d : Def) (m : MDef) : Bool :=
  C8.scC m.N m.ps (defScope m.st) && (decide (m.ps.length = d.fl.length) && (decide (d.n = m.N.length) && (m.N.all nameOk && ((decide (m.nm ∈ g.xk.map (·.1)) || okB (cenv g m true) d.body (defBody m.st)) && (!decide (m.nm ∈ g.hot.map (·.1) ∨ m.nm ∈ g.xk.map (·.1)) || okB (cenv g m false) d.body (defBody m.st))))))
def okF (Ms : List MDef) (p : Str × Nat) : Bool := nameOk p.1 && (match Ms[p.2]? with | some m => decide (m.nm = p.1) | none => false)
def okG (g : GEnv) (Ms : List MDef) : Bool := g.fns.all (fun p => okF Ms p && !decide (p.1 ∈ g.xk.map (·.1))) && (g.gl.all (fun p => nameOk p.1) && (g.hot.all (okF Ms) && (g.xk.all (okF Ms) && g.xs.all nameOk)))
def okP (g : GEnv) (Ms : List MDef) : List Def → List MDef → Bool
  | [], [] => okG g Ms
  | d :: ds, m :: ms => okD g d m && okP g Ms ds ms
  | _, _ => false
theorem okP_get {g : GEnv} {Ms : List MDef} : ∀ {ds : List Def} {ms : List MDef}, okP g Ms ds ms = true → okG g Ms = true ∧ ds.length = ms.length ∧ ∀ (i : Nat) (d : Def) (m : MDef), ds[i]? = some d → ms[i]? = some m → okD g d m = true
  | [], [], h => ⟨h, rfl, fun i d m e => by simp at e⟩
  | [], _ :: _, h => by cases h
  | _ :: _, [], h => by cases h
  | d :: ds, m :: ms, h => by
    obtain ⟨h1, h2⟩ := and2 h
    obtain ⟨q1, q2, q3⟩ := okP_get h2
    refine ⟨q1, by simp [q2], fun i d' m' e1 e2 => ?_⟩
    cases i with
    | zero => cases e1; cases e2; exact h1
    | succ i => exact q3 i d' m' (by simpa using e1) (by simpa using e2)
theorem lookup_mem {α : Type} {x : Str} {a : α} : ∀ {l : List (Str × α)}, l.lookup x = some a → (x, a) ∈ l
  | [], h => by cases h
  | (y, b) :: l, h => by
    rw [List.lookup_cons] at h
    split at h
    · rename_i e
      have := eq_of_beq e
      subst this
      cases h
      exact List.mem_cons_self
    · exact List.mem_cons_of_mem _ (lookup_mem h)
def BindOk (m : MDef) : Prop := ∀ (kV doc pm : Value) (an : Option Addr) (cdv ct : Value) (us : List Value), us.length = m.ps.length → bindArgs (PySem.W.fnOf m.nm m.nm (defArgs m.st) (defBody m.st) (defScope m.st) .none kV doc pm an cdv ct) ⟨us, []⟩ = pure (m.ps.zip us)
abbrev FunM (K : PySem.W.Frag) (m : MDef) (a : Addr) (fd : FuncData) : Prop := FunD K m.nm m.nm (defArgs m.st) (defBody m.st) (defScope m.st) [] [] a fd
theorem okF_get {Ms : List MDef} {p : Str × Nat} (h : okF Ms p = true) : nameOk p.1 = true ∧ ∃ m, Ms[p.2]? = some m ∧ m.nm = p.1 := by
  obtain ⟨h1, h2⟩ := and2 h
  refine ⟨h1, ?_⟩
  cases q : Ms[p.2]? with
  | none => rw [q] at h2; cases h2
  | some m => rw [q] at h2; exact ⟨m, rfl, of_decide_eq_true h2⟩
section
variable {P : Program} {w : World} {K : PySem.W.Frag} {mg : Str → Option Value} {base : Heap} {g : GEnv} {Ps : List Def} {Ms : List MDef}
/-- a def's promise while an exception is handled: by its body -/
theorem fnE_of {CT : CXT} {k : Nat} {f : Addr} {nm qual : Str} {params : Arguments} {body : List Stmt} {scope : Scope} {dV kV doc pm cdv ct oc : Value} {an od : Option Addr} {osl : Array (Option Value)} {N ps : List Str} {sp : Addr × Obj → Sp}
    (lk : K.lookup f = some ⟨oc, od, .func (PySem.W.fnOf nm qual params body scope dV kV doc pm an cdv ct), osl⟩) (hcd : PySem.W.codeIn K cdv qual = true) (S : FnScope N ps scope) (le : ∀ p vs H Q E, sp p vs H Q E → vs.length = ps.length)
    (hb : ∀ (A : Around) (outer : List Env) (s : Shared) (H : Hp) (vs : List V) (Q : VK) (E : XK) (p : Addr × Obj), L2H.Hot1 A p → L2H.RoomH k (A.deeper (envOfC qual scope s.heap.objs.size f cdv)) → sp p vs H Q E →
      ∃ t, PSs (L2H.cxH CT P w K mg base N qual scope f cdv A outer s H E p) body t ∧ t { nx := fun _ H' => Q .non H', rt := Q } (L2.start N vs) H) :
    FnE P w K mg base CT (k + 1) f (PySem.W.fnOf nm qual params body scope dV kV doc pm an cdv ct) ps sp := by
  refine ⟨le, ?_⟩
  intro A outer s H args us vs Q E p room hot pin e0 bt r hsp
  have hlen := le p vs H Q E hsp
  have base_in : ∀ b o, base.get? b = some o → s.heap.get? b = some o := fun b o z => (e0.bs b o z).1
  have KIn : K.In s.heap := e0.mod.kin.keeps base_in
  have noLim : s.heap.NoLimit := e0.mod.nolimit.keeps base_in
  have kinds : ∀ y ∈ ps.zip us, scope.names.lookup y.1 = some .local ∨ (scope.names.lookup y.1 = some .cell ∧ ((cellsFrom (s.heap.objs.size + 1) scope.names []).lookup y.1).isSome = true) := by
    rintro ⟨n, v⟩ hy
    rcases S.par n (List.of_mem_zip hy).1 with z | z
    · exact .inl z
    · exact .inr ⟨z, PySem.W.cellsFrom_some _ _ _ (.inl z)⟩
  refine codeAny_call_function room.depth (KIn _ _ lk) rfl S.co S.gen rfl (PySem.W.codeRec_of KIn hcd) (bt _ _ _ _ ?_)
  refine wpAny_newFunctionEnv_cells S.kind kinds ?_
  rintro env he s1 x
  subst he
  refine ⟨noLim.keeps x.toInCall.keep, codeAny_func ?_⟩
  obtain ⟨t, ht, hq⟩ := hb A outer s H vs Q E p hot (room.deeper _) hsp
  have inv := L2H.inv_startH (CX := CT) (w := w) (cd := cdv) (qual := qual) (f := f) (E := E) S pin e0 hlen r x
  refine wpAny_mono (ht.run [] s1 (L2.start N vs) H _ inv hq) ?_ fun _ _ z => z
  intro fl s' hs
  cases fl with
  | brk => obtain ⟨_, _, _, z⟩ := hs; exact z.elim
  | cont => obtain ⟨_, _, _, z⟩ := hs; exact z.elim
  | next =>
    obtain ⟨σ', H', J, q⟩ := hs
    exact ⟨.non, H', J.os, J.bare, J.base, J.hok, rfl, q⟩
  | ret u =>
    obtain ⟨v, σ', H', J, rv, q⟩ := hs
    exact ⟨v, H', J.os, J.bare, J.base, J.hok, rv, q⟩
/-- a def's promise where no display is being told: by its body -/
theorem fnG_of {CT : CXT} {k : Nat} {f : Addr} {nm qual : Str} {params : Arguments} {body : List Stmt} {scope : Scope} {dV kV doc pm cdv ct oc : Value} {an od : Option Addr} {osl : Array (Option Value)} {N ps : List Str} {sp : Sp}
    (lk : K.lookup f = some ⟨oc, od, .func (PySem.W.fnOf nm qual params body scope dV kV doc pm an cdv ct), osl⟩) (hcd : PySem.W.codeIn K cdv qual = true) (S : FnScope N ps scope) (le : ∀ vs H Q E, sp vs H Q E → vs.length = ps.length)
    (hb : ∀ (A : Around) (outer : List Env) (s : Shared) (H : Hp) (vs : List V) (Q : VK) (E : XK), A.guards = some [] → Room k (A.deeper (envOfC qual scope s.heap.objs.size f cdv)) → sp vs H Q E →
      ∃ t, PSs (cxOf CT P w K mg base N qual scope f cdv A outer s H E) body t ∧ t { nx := fun _ H' => Q .non H', rt := Q } (L2.start N vs) H) :
    FnG P w K mg base CT (k + 1) f (PySem.W.fnOf nm qual params body scope dV kV doc pm an cdv ct) ps sp := by
  refine ⟨le, ?_⟩
  intro A outer s H args us vs Q E room gd e0 bt r hsp
  have hlen := le vs H Q E hsp
  have base_in : ∀ b o, base.get? b = some o → s.heap.get? b = some o := fun b o z => (e0.bs b o z).1
  have KIn : K.In s.heap := e0.mod.kin.keeps base_in
  have noLim : s.heap.NoLimit := e0.mod.nolimit.keeps base_in
  have kinds : ∀ y ∈ ps.zip us, scope.names.lookup y.1 = some .local ∨ (scope.names.lookup y.1 = some .cell ∧ ((cellsFrom (s.heap.objs.size + 1) scope.names []).lookup y.1).isSome = true) := by
    rintro ⟨n, v⟩ hy
    rcases S.par n (List.of_mem_zip hy).1 with z | z
    · exact .inl z
    · exact .inr ⟨z, PySem.W.cellsFrom_some _ _ _ (.inl z)⟩
  refine codeAny_call_function room.depth (KIn _ _ lk) rfl S.co S.gen rfl (PySem.W.codeRec_of KIn hcd) (bt _ _ _ _ ?_)
  refine wpAny_newFunctionEnv_cells S.kind kinds ?_
  rintro env he s1 x
  subst he
  refine ⟨noLim.keeps x.toInCall.keep, codeAny_func ?_⟩
  obtain ⟨t, ht, hq⟩ := hb A outer s H vs Q E gd (room.deeper _) hsp
  have inv : Inv (cxOf CT P w K mg base N qual scope f cdv A outer s H E) [] (L2.start N vs) H s1 := inv_start S room.hd e0 hlen r x
  refine wpAny_mono (ht.run [] s1 (L2.start N vs) H _ inv hq) ?_ fun _ _ z => z
  intro fl s' hs
  cases fl with
  | brk => obtain ⟨_, _, _, z⟩ := hs; exact z.elim
  | cont => obtain ⟨_, _, _, z⟩ := hs; exact z.elim
  | next =>
    obtain ⟨σ', H', J, q⟩ := hs
    exact ⟨.non, H', J.os, J.bare, J.base, J.hok, rfl, q⟩
  | ret u =>
    obtain ⟨v, σ', H', J, rv, q⟩ := hs
    exact ⟨v, H', J.os, J.bare, J.base, J.hok, rv, q⟩
noncomputable def TbN (Ps : List Def) (n : Nat) (c : Option Ex) : Tb := ⟨callB Ps n none, fun g => (Ps[g]?.map (·.fl)).getD [], c, fun g x => callB Ps n (some x) g []⟩
/-- what a def promises, called at level n -/
structure DefOk (P : Program) (w : World) (K : PySem.W.Frag) (mg : Str → Option Value) (base : Heap) (g : GEnv) (Ps : List Def) (n i : Nat) (d : Def) (m : MDef) (a : Addr) (fd : FuncData) : Prop where
  ok : m.nm ∉ g.xk.map (·.1) → FnG P w K mg base (L2N.CX P w) n a fd m.ps (spF K mg g.xs d.fl (callN Ps n i))
  hot : m.nm ∈ g.hot.map (·.1) → FnE P w K mg base (L2N.CX P w) n a fd m.ps fun _ => spF K mg g.xs d.fl (callN Ps n i)
  xk : m.nm ∈ g.xk.map (·.1) → FnE P w K mg base (L2N.CX P w) n a fd m.ps (spX K mg g.xs fun c => callB Ps n (some c) i [])
theorem prog_ok (hok : okP g Ms Ps Ms = true) (facts : ∀ (i : Nat) (m : MDef), Ms[i]? = some m → ∃ a fd, FunM K m a fd ∧ mg m.nm = some (.ref a)) (hb : ∀ m ∈ Ms, BindOk m)
    (hbl : ∀ x ∈ g.bl, mg x = none) (hgl : ∀ x d, g.gl.lookup x = some d → (∀ i, d = .int i → ∃ t, mg x = some (.int i t)) ∧ ∀ i, d = .str i → ∃ t, mg x = some (.str i t)) (hxf : XFacts K mg g.xs g.rs) :
    ∀ (n i : Nat) (d : Def) (m : MDef) (a : Addr) (fd : FuncData), Ps[i]? = some d → Ms[i]? = some m → FunM K m a fd → DefOk P w K mg base g Ps n i d m a fd := by
  obtain ⟨hG, hlen, hD⟩ := okP_get hok
  obtain ⟨hG1, hG⟩ := and2 hG
  obtain ⟨hG2, hG⟩ := and2 hG
  obtain ⟨hG3, hG⟩ := and2 hG
  obtain ⟨hG4, hG5⟩ := and2 hG
  have lenF : ∀ (n i : Nat) (d : Def) (m : MDef), Ps[i]? = some d → Ms[i]? = some m → ∀ vs H Q E, spF K mg g.xs d.fl (callN Ps n i) vs H Q E → vs.length = m.ps.length := fun n i d m h1 h2 vs H Q E h => by
    obtain ⟨_, q⟩ := and2 (hD i d m h1 h2)
    obtain ⟨q, _⟩ := and2 q
    rw [of_decide_eq_true q]
    exact h.1
  intro n
  induction n with
  | zero =>
    intro i d m a fd h1 h2 F
    have bad : ∀ {vs H Q E}, spF K mg g.xs d.fl (callN Ps 0 i) vs H Q E → False := fun {vs H Q E} h => by
      obtain ⟨_, M, ds, _, _, _, _, ⟨q, z, _⟩ | ⟨x, z, _⟩⟩ := h <;> cases z
    have badX : ∀ {p vs H Q E}, spX K mg g.xs (fun c => callB Ps 0 (some c) i []) p vs H Q E → False := fun {p vs H Q E} h => by
      obtain ⟨_, c, D, q, _, z, _⟩ := h
      cases z
    exact ⟨fun _ => ⟨lenF 0 i d m h1 h2, fun A outer s H args us vs Q E _ _ _ _ _ h => (bad h).elim⟩,
      fun _ => ⟨fun p => lenF 0 i d m h1 h2, fun A outer s H args us vs Q E p _ _ _ _ _ _ h => (bad h).elim⟩,
      fun _ => ⟨fun p vs H Q E h => (badX h).elim, fun A outer s H args us vs Q E p _ _ _ _ _ _ h => (badX h).elim⟩⟩
  | succ n ih =>
    intro i d m a fd h1 h2 F
    obtain ⟨c1, c⟩ := and2 (hD i d m h1 h2)
    obtain ⟨c2, c⟩ := and2 c
    obtain ⟨c3, c⟩ := and2 c
    obtain ⟨c4, c⟩ := and2 c
    obtain ⟨c5, c6⟩ := and2 c
    have c2 := of_decide_eq_true c2
    have c3 := of_decide_eq_true c3
    have S := C8.fnScope_by c1
    have at' : ∀ {x : Str} {f : Nat}, okF Ms (x, f) = true → nameOk x = true ∧ ∃ d' m' a' fd', Ps[f]? = some d' ∧ Ms[f]? = some m' ∧ m'.nm = x ∧ FunM K m' a' fd' ∧ mg x = some (.ref a') ∧ (TbN Ps n none).fl f = d'.fl := fun {x f} h => by
      obtain ⟨nk, m', q2, hnm⟩ := okF_get h
      have q2 : Ms[f]? = some m' := q2
      have hnm : m'.nm = x := hnm
      have hlt : f < Ps.length := by rw [hlen]; exact (List.getElem?_eq_some_iff.mp q2).1
      have q1 : Ps[f]? = some (Ps[f]'hlt) := List.getElem?_eq_getElem hlt
      obtain ⟨a', fd', F', hmg⟩ := facts f m' q2
      refine ⟨nk, _, m', a', fd', q1, q2, hnm, F', by rw [← hnm]; exact hmg, ?_⟩
      show (Ps[f]?.map (·.fl)).getD [] = _
      rw [q1]; rfl
    have hfn : ∀ (X : Cx), X.prog = P → X.w = w → X.K = K → X.mg = mg → X.base = base → Room n X.A → ∀ (c : Option Ex) x f, g.fns.lookup x = some f → ∃ k a fd ps, FnAt (TbN Ps n c) X g.xs x f k a fd ps := by
      intro X e1 e2 e3 e4 e5 room c x f hx
      subst e1 e2 e3 e4 e5
      obtain ⟨w1, w2⟩ := and2 (List.all_eq_true.mp hG1 (x, f) (lookup_mem hx))
      obtain ⟨nk, d', m', a', fd', q1, q2, hnm, F', hmg, hfl⟩ := at' w1
      refine ⟨n, a', fd', m'.ps, ?_, room, hmg, F'.kp, FunD.bindsN F' (hb m' (List.mem_of_getElem? q2)), nk⟩
      have := (ih f d' m' a' fd' q1 q2 F').ok (by rw [hnm]; simpa using w2)
      rw [show (TbN Ps n c).fl f = d'.fl from hfl]
      exact this
    have hhot : ∀ (X : Cx), X.prog = P → X.w = w → X.K = K → X.mg = mg → X.base = base → L2H.RoomH n X.A → ∀ (c : Option Ex) x f, g.hot.lookup x = some f → ∃ k a fd ps, FnAtH X x k a fd ps fun _ => spF X.K X.mg g.xs ((TbN Ps n c).fl f) ((TbN Ps n c).call f) := by
      intro X e1 e2 e3 e4 e5 room c x f hx
      subst e1 e2 e3 e4 e5
      obtain ⟨nk, d', m', a', fd', q1, q2, hnm, F', hmg, hfl⟩ := at' (List.all_eq_true.mp hG3 (x, f) (lookup_mem hx))
      refine ⟨n, a', fd', m'.ps, ?_, room, hmg, F'.kp, FunD.bindsN F' (hb m' (List.mem_of_getElem? q2)), nk⟩
      have := (ih f d' m' a' fd' q1 q2 F').hot (by rw [hnm]; exact List.mem_map.mpr ⟨(x, f), lookup_mem hx, rfl⟩)
      rw [show (TbN Ps n c).fl f = d'.fl from hfl]
      exact this
    have hxk : ∀ (X : Cx), X.prog = P → X.w = w → X.K = K → X.mg = mg → X.base = base → L2H.RoomH n X.A → ∀ (c : Option Ex) x f, g.xk.lookup x = some f → ∃ k a fd ps, FnAtH X x k a fd ps (spX X.K X.mg g.xs ((TbN Ps n c).callX f)) := by
      intro X e1 e2 e3 e4 e5 room c x f hx
      subst e1 e2 e3 e4 e5
      obtain ⟨nk, d', m', a', fd', q1, q2, hnm, F', hmg, hfl⟩ := at' (List.all_eq_true.mp hG4 (x, f) (lookup_mem hx))
      exact ⟨n, a', fd', m'.ps, (ih f d' m' a' fd' q1 q2 F').xk (by rw [hnm]; exact List.mem_map.mpr ⟨(x, f), lookup_mem hx, rfl⟩), room, hmg, F'.kp, FunD.bindsN F' (hb m' (List.mem_of_getElem? q2)), nk⟩
    have runN : ∀ ds, callN Ps (n + 1) i ds = runDef (TbN Ps n none) d ds := fun ds => by
      show (match Ps[i]? with | some d => runDef (TbN Ps n none) d ds | none => .fail) = _
      rw [h1]
    have runX : ∀ x, callB Ps (n + 1) (some x) i [] = runDefX (TbN Ps n (some x)) d := fun x => by
      show (match Ps[i]? with | some d => runDefX (TbN Ps n (some x)) d | none => .fail) = _
      rw [h1]
    have ggn : ∀ x d, g.gl.lookup x = some d → nameOk x = true := fun x d' hx => List.all_eq_true.mp hG2 (x, d') (lookup_mem hx)
    have post : ∀ {xa : Addr} {vs : List V} {H : Hp} {Q : VK} {E : XK}, spF K mg g.xs d.fl (callN Ps (n + 1) i) vs H Q E → tBK ⟨K, mg, fun cls dd _ H' => E cls dd H', xa, g.xs⟩ (TbN Ps n none) d.body { nx := fun _ H' => Q .non H', rt := Q } (start m.N vs) H := by
      intro xa vs H Q E h
      obtain ⟨hvl, M, ds, hMK, hM, ha, nd, hh⟩ := h
      have := runDef_post (xa := xa) (T := TbN Ps n none) (N := m.N) (Q := Q) (E := E) (mg := mg) (xs := g.xs) (fl := d.fl) rfl c3 hM ha nd (by
        rcases hh with ⟨q, e, k⟩ | ⟨x, e, f1, k⟩
        · exact .inl ⟨q, (runN ds).symm.trans e, k⟩
        · exact .inr ⟨x, (runN ds).symm.trans e, f1, k⟩)
      rw [hMK] at this
      exact this
    refine ⟨fun nxk => ?_, fun inhot => ?_, fun inxk => ?_⟩
    · have hbody : okB (cenv g m true) d.body (defBody m.st) = true := (Bool.or_eq_true_iff.mp c5).resolve_left (by simpa using nxk)
      obtain ⟨oc, od, dV, kV, doc, pm, an, cdv, ct, osl, rfl, lk, hcd, _, _⟩ := F.ex
      refine fnG_of lk hcd S (lenF (n + 1) i d m h1 h2) fun A outer s H vs Q E gd hr h => ⟨_, ?_, post (xa := 0) h⟩
      have cx : Ctx (TbN Ps n none) (cenv g m true) (cxOf (L2N.CX P w) P w K mg base m.N m.nm (defScope m.st) a cdv A outer s H E) (fun cls dd _ H' => E cls dd H') 0 := by
        refine ⟨rfl, S.nd, fun _ => rfl, rfl, ?_, fun _ => hfn _ rfl rfl rfl rfl rfl hr none, hbl, hgl, ggn, fun x hx => List.all_eq_true.mp c4 x hx, fun _ _ => rfl, L2N.takes_of rfl rfl rfl rfl, hxf, hhot _ rfl rfl rfl rfl rfl (L2H.roomH_of hr) none, hxk _ rfl rfl rfl rfl rfl (L2H.roomH_of hr) none, (fun z => by cases z), fun _ => gd⟩
        have := hr.un
        show (A.deeper _).units + 65 < cLine
        omega
      exact pB d.body cx S.kind ⟨rfl, rfl⟩ (L2.passes_of rfl) hbody
    · have hbody : okB (cenv g m false) d.body (defBody m.st) = true := (Bool.or_eq_true_iff.mp c6).resolve_left (by rw [decide_eq_true (Or.inl inhot)]; simp)
      obtain ⟨oc, od, dV, kV, doc, pm, an, cdv, ct, osl, rfl, lk, hcd, _, _⟩ := F.ex
      refine fnE_of lk hcd S (fun p => lenF (n + 1) i d m h1 h2) fun A outer s H vs Q E p hot room h => ⟨_, ?_, post (xa := p.1) h⟩
      have cx : Ctx (TbN Ps n none) (cenv g m false) (L2H.cxH (L2N.CX P w) P w K mg base m.N m.nm (defScope m.st) a cdv A outer s H E p) (fun cls dd _ H' => E cls dd H') p.1 := by
        refine ⟨rfl, S.nd, fun z => (by cases z), rfl, ?_, fun z => (by cases z), hbl, hgl, ggn, fun x hx => List.all_eq_true.mp c4 x hx, fun _ _ => rfl, L2N.takes_of rfl rfl rfl rfl, hxf, hhot _ rfl rfl rfl rfl rfl room none, hxk _ rfl rfl rfl rfl rfl room none,
          fun _ => ⟨⟨p.2, hot, List.mem_cons_self, fun c hc => by cases hc⟩⟩, fun z => by cases z⟩
        have := room.un
        show (A.deeper _).units + 65 < cLine
        omega
      exact pB (xa := p.1) d.body cx S.kind ⟨rfl, rfl⟩ (L2.passes_of rfl) hbody
    · have hbody : okB (cenv g m false) d.body (defBody m.st) = true := (Bool.or_eq_true_iff.mp c6).resolve_left (by rw [decide_eq_true (Or.inr inxk)]; simp)
      obtain ⟨oc, od, dV, kV, doc, pm, an, cdv, ct, osl, rfl, lk, hcd, _, _⟩ := F.ex
      have psl : d.fl = [false] → m.ps.length = 1 := fun e => by rw [c2, e]; rfl
      refine fnE_of lk hcd S (fun p vs H Q E h => ?_) fun A outer s H vs Q E p hot room h => ?_
      · obtain ⟨rfl, c, D, q, _, hq, _⟩ := h
        have hq : callB Ps (n + 1) (some c) i [] = .ok q := hq
        rw [runX] at hq
        obtain ⟨cc, _⟩ := chk_bind hq
        exact (psl (of_decide_eq_true (and2 cc).1)).symm
      · obtain ⟨rfl, c, D, q, ho, hq, hp, k⟩ := h
        have hq : callB Ps (n + 1) (some c) i [] = .ok q := hq
        rw [runX] at hq
        refine ⟨_, ?_, runDefX_post (T := TbN Ps n (some c)) (E := E) (mg := mg) (xs := g.xs) c3 hq hp k⟩
        have cx : Ctx (TbN Ps n (some c)) (cenv g m false) (L2H.cxH (L2N.CX P w) P w K mg base m.N m.nm (defScope m.st) a cdv A outer s H E p) (fun cls dd _ H' => E cls dd H') p.1 := by
          refine ⟨rfl, S.nd, fun z => (by cases z), rfl, ?_, fun z => (by cases z), hbl, hgl, ggn, fun x hx => List.all_eq_true.mp c4 x hx, fun _ _ => rfl, L2N.takes_of rfl rfl rfl rfl, hxf, hhot _ rfl rfl rfl rfl rfl room (some c), hxk _ rfl rfl rfl rfl rfl room (some c),
            fun _ => ⟨⟨p.2, hot, List.mem_cons_self, fun c' hc => by cases hc; exact ⟨D, ho⟩⟩⟩, fun z => by cases z⟩
          have := room.un
          show (A.deeper _).units + 65 < cLine
          omega
        exact pB (xa := p.1) d.body cx S.kind ⟨rfl, rfl⟩ (L2.passes_of rfl) hbody
/-- the law's own def, at a script -/
theorem law_sp {n i : Nat} {d : Def} {xs : List Str} {H : Hp} {a : Addr} {ns : List Int} (hfl : d.fl = [false]) (hO : Only H) (hS : SqL K H a (ns.map V.int)) (hrun : ∃ ios, callN Ps n i [.scr ns] = .ok ⟨false, .bl true, ios⟩) : spF K mg xs d.fl (callN Ps n i) [.ref a] H (fun v _ => v = .bl true) fun _ _ _ => False := by
  obtain ⟨ios, hrun⟩ := hrun
  rw [hfl]
  refine ⟨rfl, ⟨K, fun _ => False⟩, [.scr ns], rfl, fun b z => z.elim, ⟨.scr ns, [], .ref a, [], rfl, rfl, ⟨a, rfl, ?_⟩, rfl, rfl⟩, List.nodup_nil, .inl ⟨_, hrun, fun v H' post => ?_⟩⟩
  · rcases hS with (hS | ⟨o, hS⟩) | hS
    · rcases hO a with z | ⟨o, xs, z⟩
      · rw [hS] at z; cases z
      · rw [hS] at z; cases z
    · exact .inl ⟨o, hS, id⟩
    · exact .inr hS
  · exact post.2.1
end
end VL
/-! VM1: working the code out. -/
namespace VL
open PySem PySem.Spec L2
def Sat {α : Type} (x : Res α) (Q : α → Prop) : Prop := ∃ a, x = .ok a ∧ Q a
section
variable {α β : Type}
@[simp] theorem Sat_ok {a : α} {Q : α → Prop} : Sat (.ok a) Q ↔ Q a := ⟨fun ⟨_, e, h⟩ => by cases e; exact h, fun h => ⟨a, rfl, h⟩⟩
@[simp] theorem Sat_bind {x : Res α} {f : α → Res β} {Q : β → Prop} : Sat (x >>= f) Q ↔ Sat x (fun a => Sat (f a) Q) :=
  ⟨fun ⟨b, e, h⟩ => let ⟨a, e1, e2⟩ := Res.bind_ok e; ⟨a, e1, b, e2, h⟩, fun ⟨a, e1, b, e2, h⟩ => ⟨b, by rw [e1]; exact e2, h⟩⟩
@[simp] theorem Sat_chk {b : Bool} {Q : Unit → Prop} : Sat (chk b) Q ↔ b = true ∧ Q () := by
  cases b
  · simp [Sat]
  · exact ⟨fun ⟨a, _, h⟩ => ⟨rfl, h⟩, fun h => ⟨(), rfl, h.2⟩⟩
@[simp] theorem Sat_ofO {o : Option α} {Q : α → Prop} : Sat (ofO o) Q ↔ ∃ a, o = some a ∧ Q a := by
  cases o <;> simp [Sat]
@[simp] theorem Sat_noX {x : Res α} {Q : α → Prop} : Sat (noX x) Q ↔ Sat x Q :=
  ⟨fun ⟨a, e, h⟩ => ⟨a, noX_eq e, h⟩, fun ⟨a, e, h⟩ => ⟨a, by rw [e]; rfl, h⟩⟩
@[simp] theorem Sat_inEnv {env : EnvD} {fl : List Bool} {x : Res α} {Q : α → Prop} : Sat (inEnv env fl x) Q ↔ Sat x Q :=
  ⟨fun ⟨a, e, h⟩ => ⟨a, inEnv_eq e, h⟩, fun ⟨a, e, h⟩ => ⟨a, by rw [e]; rfl, h⟩⟩
theorem Sat.mono {x : Res α} {P Q : α → Prop} (h : Sat x P) (k : ∀ a, P a → Q a) : Sat x Q := let ⟨a, e, p⟩ := h; ⟨a, e, k a p⟩
theorem Sat.bind {x : Res α} {f : α → Res β} {P : α → Prop} {Q : β → Prop} (h : Sat x P) (k : ∀ a, P a → Sat (f a) Q) : Sat (x >>= f) Q := Sat_bind.mpr (h.mono k)
theorem Sat_ite {p : Prop} [Decidable p] {x y : Res α} {Q : α → Prop} : Sat (if p then x else y) Q ↔ (p → Sat x Q) ∧ (¬ p → Sat y Q) := by
  by_cases h : p <;> simp [h]
end
def varO (env : EnvD) (i : Nat) : Option Slot → Res (R × EnvD)
  | some (.sh d) => .ok (.dat d, env)
  | some (.ow d) => .ok (.slot i, env)
  | some (.io d) => .ok (.slot i, env)
  | _ => .fail
section
variable {T : Tb} {env : EnvD}
@[simp] theorem varO_sh {i : Nat} {d : D} : varO env i (some (.sh d)) = .ok (.dat d, env) := rfl
@[simp] theorem varO_ow {i : Nat} {d : D} : varO env i (some (.ow d)) = .ok (.slot i, env) := rfl
@[simp] theorem varO_io {i : Nat} {d : D} : varO env i (some (.io d)) = .ok (.slot i, env) := rfl
@[simp] theorem xE_var {i : Nat} : runE T (.var i) env = varO env i env[i]? := rfl
@[simp] theorem xE_lit {d : D} : runE T (.lit d) env = .ok (.dat d, env) := rfl
@[simp] theorem xE_op {o : Op} {a b : CE} : runE T (.op o a b) env = (runE T a env >>= fun p => runE T b p.2 >>= fun q => frc q.2 p.1 >>= fun da => frc q.2 q.1 >>= fun db => opD o da db >>= fun r => .ok (r, q.2)) := rfl
@[simp] theorem xE_neg {a : CE} : runE T (.neg a) env = (runE T a env >>= fun p => frc p.2 p.1 >>= fun da => ofO (asInt da) >>= fun i => .ok (.dat (.int (-i)), p.2)) := rfl
@[simp] theorem xE_cmp {c : Cm} {a b : CE} : runE T (.cmp c a b) env = (runE T a env >>= fun p => runE T b p.2 >>= fun q => frc q.2 p.1 >>= fun da => frc q.2 q.1 >>= fun db => cmD c da db >>= fun r => .ok (.dat (.bl r), q.2)) := rfl
@[simp] theorem xE_chn {c c' : Cm} {a b e : CE} : runE T (.chn c c' a b e) env = (runE T a env >>= fun p => runE T b p.2 >>= fun q => frc q.2 p.1 >>= fun da => frc q.2 q.1 >>= fun db => cmD c da db >>= fun r =>
    if r = true then (runE T e q.2 >>= fun z => frc z.2 q.1 >>= fun db' => frc z.2 z.1 >>= fun dc => cmD c' db' dc >>= fun r' => .ok (.dat (.bl r'), z.2)) else .ok (.dat (.bl false), q.2)) := rfl
@[simp] theorem xE_and {es : List CE} : runE T (.andb es) env = runL T true es env := rfl
@[simp] theorem xE_or {es : List CE} : runE T (.orb es) env = runL T false es env := rfl
@[simp] theorem xE_not {a : CE} : runE T (.notb a) env = (runE T a env >>= fun p => frc p.2 p.1 >>= fun da => ofO (asBl da) >>= fun k => .ok (.dat (.bl (!k)), p.2)) := rfl
@[simp] theorem xE_ife {t a b : CE} : runE T (.ife t a b) env = (runE T t env >>= fun p => frc p.2 p.1 >>= fun da => ofO (asBl da) >>= fun k => if k = true then runE T a p.2 else runE T b p.2) := rfl
@[simp] theorem xE_tup {es : List CE} : runE T (.tup es) env = (runK T es env >>= fun p => chk (decide (p.1.length ≤ SL)) >>= fun _ => .ok (.dat (.tup p.1), p.2)) := rfl
@[simp] theorem xE_lst {es : List CE} : runE T (.lst es) env = (runK T es env >>= fun p => chk (decide (p.1.length ≤ SL)) >>= fun _ => .ok (.own (.lst p.1), p.2)) := rfl
@[simp] theorem xE_dnew {t : Bool} : runE T (.dnew t) env = .ok (.own (if t then .dT [] else .dK []), env) := rfl
@[simp] theorem xE_idx {a b : CE} : runE T (.idx a b) env = (runE T a env >>= fun p => runE T b p.2 >>= fun q => frc q.2 p.1 >>= fun da => frc q.2 q.1 >>= fun db => idxD da db >>= fun d => .ok (.dat d, q.2)) := rfl
@[simp] theorem xE_slc {a : CE} {lo hi : Option CE} : runE T (.slc a lo hi) env = (runE T a env >>= fun p => runO T lo p.2 >>= fun l => runO T hi l.2 >>= fun h => frc h.2 p.1 >>= fun da => slcD da l.1 h.1 >>= fun r => .ok (r, h.2)) := rfl
@[simp] theorem xE_isi {a : CE} {t : Ty} : runE T (.isi a t) env = (runE T a env >>= fun p => frc p.2 p.1 >>= fun da => chk (isiOk da) >>= fun _ => .ok (.dat (.bl (isiD t da)), p.2)) := rfl
@[simp] theorem xE_call {f : Nat} {es : List CE} : runE T (.call f es) env = (runA T es env >>= fun p => callR T f p.1 p.2) := rfl
@[simp] theorem xE_blt {b : Bf} {es : List CE} : runE T (.blt b es) env = (runA T es env >>= fun p => frcs p.2 p.1 >>= fun ds => bfD b ds >>= fun r => .ok (r, p.2)) := rfl
@[simp] theorem xE_rngL {t : Bool} {es : List CE} : runE T (.rngL t es) env = (runA T es env >>= fun p => frcs p.2 p.1 >>= fun ds => rngD ds >>= fun q => chk (decide (q.2.1 ≤ SL)) >>= fun _ => .ok (if t then .dat (.tup (rngIt q)) else .own (.lst (rngIt q)), p.2)) := rfl
@[simp] theorem xE_srt {a : CE} : runE T (.srt a) env = (runE T a env >>= fun p => frc p.2 p.1 >>= fun d => ofO (tupI d) >>= fun ns => chk (decide (ns.length < 64)) >>= fun _ => .ok (.own (.lst ((setI ns).map .int)), p.2)) := rfl
theorem xE_lc {elt : CE} {tg : Tg} {it : CI} {c : Option CE} : runE T (.lc elt tg it c) env = (runI T it env >>= fun p => chk (freeOf p.2 tg.slots) >>= fun _ => lcL (lcT T elt tg c) p.1 p.2 [] >>= fun q => .ok (.own (.lst q.1), backE p.2 q.2 tg.slots)) := rfl
@[simp] theorem xA_nil : runA T [] env = .ok ([], env) := rfl
@[simp] theorem xA_cons {a : CE} {es : List CE} : runA T (a :: es) env = (runE T a env >>= fun p => runA T es p.2 >>= fun q => .ok (p.1 :: q.1, q.2)) := rfl
@[simp] theorem xK_nil : runK T [] env = .ok ([], env) := rfl
@[simp] theorem xK_cons {a : CE} {es : List CE} : runK T (a :: es) env = (runE T a env >>= fun p => esc p.2 p.1 >>= fun z => runK T es z.2 >>= fun q => .ok (z.1 :: q.1, q.2)) := rfl
@[simp] theorem xL_one {go : Bool} {a : CE} : runL T go [a] env = (runE T a env >>= fun p => frc p.2 p.1 >>= fun d => ofO (asBl d) >>= fun k => .ok (.dat (.bl k), p.2)) := rfl
@[simp] theorem xL_cons {go : Bool} {a b : CE} {es : List CE} : runL T go (a :: b :: es) env = (runE T a env >>= fun p => frc p.2 p.1 >>= fun d => ofO (asBl d) >>= fun k => if (k == go) = true then runL T go (b :: es) p.2 else .ok (.dat (.bl k), p.2)) := rfl
@[simp] theorem xO_none : runO T none env = .ok (none, env) := rfl
@[simp] theorem xO_some {a : CE} : runO T (some a) env = (runE T a env >>= fun p => frc p.2 p.1 >>= fun d => ofO (asInt d) >>= fun i => .ok (some i, p.2)) := rfl
@[simp] theorem xC_none : runC T none env = .ok (true, env) := rfl
@[simp] theorem xC_some {a : CE} : runC T (some a) env = (runE T a env >>= fun p => frc p.2 p.1 >>= fun d => ofO (asBl d) >>= fun i => .ok (i, p.2)) := rfl
@[simp] theorem xI_seq {a : CE} : runI T (.seq a) env = (runE T a env >>= fun p => esc p.2 p.1 >>= fun z => ofO (seqOf z.1) >>= fun ds => .ok (ds, z.2)) := rfl
@[simp] theorem xI_rng {es : List CE} : runI T (.rng es) env = (runA T es env >>= fun p => frcs p.2 p.1 >>= fun ds => rngD ds >>= fun q => .ok (rngIt q, p.2)) := rfl
@[simp] theorem xI_enm {a : CE} : runI T (.enm a) env = (runE T a env >>= fun p => esc p.2 p.1 >>= fun z => ofO (seqOf z.1) >>= fun ds => .ok (enumF 0 ds, z.2)) := rfl
@[simp] theorem xI_rvd {a : CE} : runI T (.rvd a) env = (runE T a env >>= fun p => esc p.2 p.1 >>= fun z => ofO (seqOf z.1) >>= fun ds => .ok (ds.reverse, z.2)) := rfl
/-! statements -/
def setO (env : EnvD) (i : Nat) : R → Res Out
  | .own d => stS env i (.ow d) >>= fun e => .ok (.nx e)
  | r => esc env r >>= fun z => stS z.2 i (.sh z.1) >>= fun e => .ok (.nx e)
@[simp] theorem setO_own {i : Nat} {d : D} : setO env i (.own d) = (stS env i (.ow d) >>= fun e => .ok (.nx e)) := rfl
@[simp] theorem setO_dat {i : Nat} {d : D} : setO env i (.dat d) = (stS env i (.sh d) >>= fun e => .ok (.nx e)) := rfl
@[simp] theorem setO_slot {i j : Nat} : setO env i (.slot j) = (esc env (.slot j) >>= fun z => stS z.2 i (.sh z.1) >>= fun e => .ok (.nx e)) := rfl
@[simp] theorem xS_set {i : Nat} {a : CE} : runS T (.set i a) env = (runE T a env >>= fun p => setO p.2 i p.1) := by
  show (runE T a env >>= fun p => _) = _
  exact congrArg _ (funext fun ⟨r, e⟩ => by cases r <;> rfl)
@[simp] theorem xS_unp {is : List Nat} {a : CE} : runS T (.unp is a) env = (runE T a env >>= fun p => frc p.2 p.1 >>= fun d => bindTg p.2 (.many is) d >>= fun e => .ok (.nx e)) := rfl
@[simp] theorem xS_sub {o : Nat} {k v : CE} : runS T (.sub o k v) env = (runE T v env >>= fun p => esc p.2 p.1 >>= fun z => rd z.2 o >>= fun _ => runE T k z.2 >>= fun q => frc q.2 q.1 >>= fun dk => rd q.2 o >>= fun d => putD d dk z.1 >>= fun d' => upS q.2 o d' >>= fun e => .ok (.nx e)) := rfl
@[simp] theorem xS_mut {m : Mu} {i : Nat} {es : List CE} : runS T (.mut m i es) env = (chk (isLst env i) >>= fun _ => runK T es env >>= fun p => rd p.2 i >>= fun d => muD m d p.1 >>= fun d' => upS p.2 i d' >>= fun e => .ok (.nx e)) := rfl
@[simp] theorem xS_exp {a : CE} : runS T (.exp a) env = (runE T a env >>= fun p => .ok (.nx p.2)) := rfl
@[simp] theorem xS_retN : runS T (.ret none) env = .ok (.rt (.dat .non) env) := rfl
@[simp] theorem xS_ret {a : CE} : runS T (.ret (some a)) env = (runE T a env >>= fun p => .ok (.rt p.1 p.2)) := rfl
@[simp] theorem xS_ife {t : CE} {a b : List CS} : runS T (.ife t a b) env = (runE T t env >>= fun p => frc p.2 p.1 >>= fun d => ofO (asBl d) >>= fun k => if k = true then runB T a p.2 else runB T b p.2) := rfl
theorem xS_whl {t : CE} {b : List CS} : runS T (.whl t b) env = whileN (whT T t b) WF env := rfl
theorem xS_for {tg : Tg} {it : CI} {b : List CS} : runS T (.for tg it b) env = (runI T it env >>= fun p => forL (foT T tg b) p.1 p.2) := rfl
@[simp] theorem xS_brk : runS T .brk env = .ok (.bk env) := rfl
@[simp] theorem xS_cnt : runS T .cnt env = .ok (.ct env) := rfl
@[simp] theorem xS_pas : runS T .pas env = .ok (.nx env) := rfl
noncomputable def seqO (T : Tb) (cs : List CS) : Out → Res Out
  | .nx e => runB T cs e
  | o => .ok o
@[simp] theorem seqO_nx {cs : List CS} : seqO T cs (.nx env) = runB T cs env := rfl
@[simp] theorem seqO_rt {cs : List CS} {r : R} : seqO T cs (.rt r env) = .ok (.rt r env) := rfl
@[simp] theorem seqO_bk {cs : List CS} : seqO T cs (.bk env) = .ok (.bk env) := rfl
@[simp] theorem seqO_ct {cs : List CS} : seqO T cs (.ct env) = .ok (.ct env) := rfl
@[simp] theorem xB_nil : runB T [] env = .ok (.nx env) := rfl
@[simp] theorem xB_cons {c : CS} {cs : List CS} : runB T (c :: cs) env = (runS T c env >>= fun o => seqO T cs o) := by
  show (runS T c env >>= fun o => _) = _
  exact congrArg _ (funext fun o => by cases o <;> rfl)
/-! slots, data -/
@[simp] theorem frc_dat {d : D} : frc env (.dat d) = .ok d := rfl
@[simp] theorem frc_own {d : D} : frc env (.own d) = .ok d := rfl
@[simp] theorem frc_slot {i : Nat} : frc env (.slot i) = rd env i := rfl
@[simp] theorem esc_dat {d : D} : esc env (.dat d) = .ok (d, env) := rfl
@[simp] theorem esc_own {d : D} : esc env (.own d) = .ok (d, env) := rfl
@[simp] theorem esc_slot {i : Nat} : esc env (.slot i) = (rd env i >>= fun d => escI env i >>= fun e => .ok (d, e)) := rfl
@[simp] theorem frcs_nil : frcs env [] = .ok [] := rfl
@[simp] theorem frcs_cons {r : R} {rs : List R} : frcs env (r :: rs) = (frc env r >>= fun d => frcs env rs >>= fun ds => .ok (d :: ds)) := rfl
def rdO : Option Slot → Res D
  | some (.sh d) => .ok d
  | some (.ow d) => .ok d
  | some (.io d) => .ok d
  | _ => .fail
@[simp] theorem rdO_sh {d : D} : rdO (some (.sh d)) = .ok d := rfl
@[simp] theorem rdO_ow {d : D} : rdO (some (.ow d)) = .ok d := rfl
@[simp] theorem rdO_io {d : D} : rdO (some (.io d)) = .ok d := rfl
@[simp] theorem rd_O {i : Nat} : rd env i = rdO env[i]? := by
  unfold rd
  cases env[i]? with
  | none => rfl
  | some s => cases s <;> rfl
def escO (env : EnvD) (i : Nat) : Option Slot → Res EnvD
  | some (.sh d) => .ok env
  | some (.ow d) => .ok (env.set i (.sh d))
  | _ => .fail
@[simp] theorem escO_sh {i : Nat} {d : D} : escO env i (some (.sh d)) = .ok env := rfl
@[simp] theorem escO_ow {i : Nat} {d : D} : escO env i (some (.ow d)) = .ok (env.set i (.sh d)) := rfl
@[simp] theorem escI_O {i : Nat} : escI env i = escO env i env[i]? := rfl
def upO (env : EnvD) (i : Nat) (d : D) : Option Slot → Res EnvD
  | some (.ow _) => .ok (env.set i (.ow d))
  | some (.io _) => .ok (env.set i (.io d))
  | _ => .fail
@[simp] theorem upO_ow {i : Nat} {d d' : D} : upO env i d (some (.ow d')) = .ok (env.set i (.ow d)) := rfl
@[simp] theorem upO_io {i : Nat} {d d' : D} : upO env i d (some (.io d')) = .ok (env.set i (.io d)) := rfl
@[simp] theorem upS_O {i : Nat} {d : D} : upS env i d = upO env i d env[i]? := rfl
def ioO : Option Slot → Bool
  | some (.io _) => true
  | _ => false
@[simp] theorem ioO_un : ioO (some .un) = false := rfl
@[simp] theorem ioO_sh {d : D} : ioO (some (.sh d)) = false := rfl
@[simp] theorem ioO_ow {d : D} : ioO (some (.ow d)) = false := rfl
@[simp] theorem stS_O {i : Nat} {s : Slot} : stS env i s = (chk (decide (i < env.length) && !ioO env[i]?) >>= fun _ => .ok (env.set i s)) := rfl
def lstO : Option Slot → Bool
  | some (.ow (.lst _)) => true
  | some (.io (.lst _)) => true
  | _ => false
@[simp] theorem lstO_ow {ds : List D} : lstO (some (.ow (.lst ds))) = true := rfl
@[simp] theorem lstO_io {ds : List D} : lstO (some (.io (.lst ds))) = true := rfl
@[simp] theorem isLst_O {i : Nat} : isLst env i = lstO env[i]? := rfl
@[simp] theorem bindTg_one {i : Nat} {d : D} : bindTg env (.one i) d = stS env i (.sh d) := rfl
@[simp] theorem bindTg_many {is : List Nat} {ds : List D} : bindTg env (.many is) (.tup ds) = bindTg.bindMany env is ds := rfl
@[simp] theorem bindMany_nil : bindTg.bindMany env [] [] = .ok env := rfl
@[simp] theorem bindMany_cons {i : Nat} {is : List Nat} {d : D} {ds : List D} : bindTg.bindMany env (i :: is) (d :: ds) = (stS env i (.sh d) >>= fun e => bindTg.bindMany e is ds) := rfl
@[simp] theorem asInt_int {i : Int} : asInt (.int i) = some i := rfl
@[simp] theorem asBl_bl {b : Bool} : asBl (.bl b) = some b := rfl
/-! operations -/
@[simp] theorem op_add {i j : Int} : opD .add (.int i) (.int j) = .ok (.dat (.int (i + j))) := rfl
@[simp] theorem op_sub {i j : Int} : opD .sub (.int i) (.int j) = .ok (.dat (.int (i - j))) := rfl
@[simp] theorem op_mul {i j : Int} : opD .mul (.int i) (.int j) = (chk (mulOk i j) >>= fun _ => .ok (.dat (.int (i * j)))) := rfl
@[simp] theorem op_fdiv {i j : Int} : opD .fdiv (.int i) (.int j) = (chk (decide (0 < j) && (decide (j < 1073741824) || !Builtin.divisionGoesByPylong i j)) >>= fun _ => .ok (.dat (.int (i / j)))) := rfl
@[simp] theorem op_mod {i j : Int} : opD .mod (.int i) (.int j) = (chk (decide (0 < j)) >>= fun _ => .ok (.dat (.int (i % j)))) := rfl
@[simp] theorem op_pow {i j : Int} : opD .pow (.int i) (.int j) = (chk (decide (0 ≤ j) && decide (j ≤ 1000000) && decide (i.natAbs < 18446744073709551616)) >>= fun _ => .ok (.dat (.int (i ^ j.toNat)))) := rfl
@[simp] theorem op_band {i j : Int} : opD .band (.int i) (.int j) = .ok (.dat (.int (Builtin.bitAnd i j))) := rfl
@[simp] theorem op_addL {x y : List D} : opD .add (.lst x) (.lst y) = (chk (decide (x.length + y.length ≤ SL)) >>= fun _ => .ok (.own (.lst (x ++ y)))) := rfl
@[simp] theorem op_addT {x y : List D} : opD .add (.tup x) (.tup y) = (chk (decide (x.length + y.length ≤ SL)) >>= fun _ => .ok (.dat (.tup (x ++ y)))) := rfl
@[simp] theorem op_mulL {x : List D} {k : Int} : opD .mul (.lst x) (.int k) = (chk (decide (k.natAbs < 9223372036854775808) && decide (x.length * k.toNat ≤ SL)) >>= fun _ => .ok (.own (.lst (List.replicate k.toNat x).flatten))) := rfl
@[simp] theorem cm_lt {i j : Int} : cmD .lt (.int i) (.int j) = .ok (decide (i < j)) := rfl
@[simp] theorem cm_le {i j : Int} : cmD .le (.int i) (.int j) = .ok (decide (i ≤ j)) := rfl
@[simp] theorem cm_gt {i j : Int} : cmD .gt (.int i) (.int j) = .ok (decide (j < i)) := rfl
@[simp] theorem cm_ge {i j : Int} : cmD .ge (.int i) (.int j) = .ok (decide (j ≤ i)) := rfl
@[simp] theorem eqv_int {i j : Int} : D.eqv (.int i) (.int j) = decide (i = j) := by
  show PyData.eqv (.int i) (.int j) = _
  simp [PyData.eqv]
  exact Bool.beq_eq_decide_eq i j
@[simp] theorem cm_eqI {i j : Int} : cmD .eq (.int i) (.int j) = .ok (decide (i = j)) := by
  show (chk (true && true) >>= fun _ => Res.ok (D.eqv (.int i) (.int j))) = _
  rw [eqv_int]; rfl
@[simp] theorem cm_neI {i j : Int} : cmD .ne (.int i) (.int j) = .ok (!decide (i = j)) := by
  show ((chk (true && true) >>= fun _ => Res.ok (D.eqv (.int i) (.int j))) >>= fun r => Res.ok (!r)) = _
  rw [eqv_int]; rfl
@[simp] theorem idx_lst {ds : List D} {i : Int} : idxD (.lst ds) (.int i) = ofO (atI ds i) := rfl
@[simp] theorem idx_tup {ds : List D} {i : Int} : idxD (.tup ds) (.int i) = ofO (atI ds i) := rfl
@[simp] theorem idx_scr {ds : List Int} {i : Int} : idxD (.scr ds) (.int i) = (ofO (atI ds i) >>= fun d => .ok (.int d)) := rfl
@[simp] theorem put_lst {ds : List D} {i : Int} {v : D} : putD (.lst ds) (.int i) v = (ofO (ixN ds.length i) >>= fun j => .ok (.lst (ds.set j v))) := rfl
@[simp] theorem mu_app {ds : List D} {d : D} : muD .append (.lst ds) [d] = (chk (decide (ds.length < SL)) >>= fun _ => .ok (.lst (ds ++ [d]))) := rfl
@[simp] theorem mu_ins {ds : List D} {d : D} {i : Int} : muD .insert (.lst ds) [.int i, d] = (chk (decide (ds.length < SL) && decide (0 ≤ i) && decide (i < 9223372036854775808)) >>= fun _ => .ok (.lst (ds.take i.toNat ++ d :: ds.drop i.toNat))) := rfl
@[simp] theorem vb_lenL {ds : List D} : bfD .len [.lst ds] = .ok (.dat (.int ds.length)) := rfl
@[simp] theorem vb_lenT {ds : List D} : bfD .len [.tup ds] = .ok (.dat (.int ds.length)) := rfl
@[simp] theorem vb_lenS {ds : List Int} : bfD .len [.scr ds] = .ok (.dat (.int ds.length)) := rfl
@[simp] theorem vb_max2 {i j : Int} : bfD .max2 [.int i, .int j] = .ok (.dat (.int (if j > i then j else i))) := rfl
@[simp] theorem vb_min2 {i j : Int} : bfD .min2 [.int i, .int j] = .ok (.dat (.int (if j < i then j else i))) := rfl
@[simp] theorem vb_int1 {i : Int} : bfD .int1 [.int i] = .ok (.dat (.int i)) := rfl
@[simp] theorem vb_int1b {k : Bool} : bfD .int1 [.bl k] = .ok (.dat (.int (if k then 1 else 0))) := rfl
@[simp] theorem vb_list1 {ds : List D} : bfD .list1 [.lst ds] = .ok (.own (.lst ds)) := rfl
@[simp] theorem vb_list1t {ds : List D} : bfD .list1 [.tup ds] = .ok (.own (.lst ds)) := rfl
@[simp] theorem vb_tuple1 {ds : List D} : bfD .tuple1 [.lst ds] = .ok (.dat (.tup ds)) := rfl
@[simp] theorem vb_tuple1t {ds : List D} : bfD .tuple1 [.tup ds] = .ok (.dat (.tup ds)) := rfl
@[simp] theorem vb_divmod {i j : Int} : bfD .divmod [.int i, .int j] = (chk (decide (0 < j) && (decide (j < 1073741824) || !Builtin.divisionGoesByPylong i j)) >>= fun _ => .ok (.dat (.tup [.int (i / j), .int (i % j)]))) := rfl
theorem mapM_ints : ∀ ns : List Int, (ns.map D.int).mapM asInt = some ns
  | [] => rfl
  | n :: ns => by
    rw [List.map_cons, List.mapM_cons, mapM_ints ns]
    rfl
theorem mapM_bls : ∀ ns : List Bool, (ns.map D.bl).mapM asBl = some ns
  | [] => rfl
  | n :: ns => by
    rw [List.map_cons, List.mapM_cons, mapM_bls ns]
    rfl
@[simp] theorem vb_sum {ns : List Int} : bfD .sum [.lst (ns.map D.int)] = .ok (.dat (.int ns.sum)) := by
  show (ofO ((ns.map D.int).mapM asInt) >>= fun ns => Res.ok (R.dat (.int ns.sum))) = _
  rw [mapM_ints]; rfl
@[simp] theorem vb_all {ns : List Bool} : bfD .all [.lst (ns.map D.bl)] = .ok (.dat (.bl (ns.all id))) := by
  show (ofO ((ns.map D.bl).mapM asBl) >>= fun ns => Res.ok (R.dat (.bl (ns.all id)))) = _
  rw [mapM_bls]; rfl
@[simp] theorem vb_sorted {ns : List Int} : bfD .sorted1 [.lst (ns.map D.int)] = .ok (.own (.lst ((sortI ns).map .int))) := by
  show (ofO ((ns.map D.int).mapM asInt) >>= fun ns => Res.ok (R.own (.lst ((sortI ns).map .int)))) = _
  rw [mapM_ints]; rfl
@[simp] theorem slc_lst {ds : List D} {lo hi : Option Int} : slcD (.lst ds) lo hi = .ok (.own (.lst (cutL ds lo hi))) := rfl
@[simp] theorem rng_1 {j : Int} : rngD [.int j] = (chk (decide (j.natAbs < 4611686018427387904)) >>= fun _ => .ok (0, j.toNat, 1)) := rfl
@[simp] theorem rng_2 {i j : Int} : rngD [.int i, .int j] = (chk (decide (i.natAbs < 4611686018427387904) && decide (j.natAbs < 4611686018427387904)) >>= fun _ => .ok (i, (j - i).toNat, 1)) := rfl
@[simp] theorem seqOf_lst {ds : List D} : seqOf (.lst ds) = some ds := rfl
@[simp] theorem seqOf_tup {ds : List D} : seqOf (.tup ds) = some ds := rfl
@[simp] theorem seqOf_scr {ds : List Int} : seqOf (.scr ds) = some (ds.map .int) := rfl
end
end VL
/-! VM2: what the laws draw by. -/
namespace VL
open PySem PySem.Spec L2
local macro_rules
  | `(tactic| simp?) => `(tactic| simp only [Sat_ok, Sat_bind, Sat_chk, Sat_ofO, Sat_noX, Sat_inEnv, varO_sh, varO_ow, varO_io, xE_var, xE_lit, xE_op, xE_neg, xE_cmp, xE_chn, xE_and, xE_or, xE_not, xE_ife, xE_tup, xE_lst, xE_dnew, xE_idx, xE_slc, xE_isi, xE_call, xE_blt, xE_rngL, xE_srt, xA_nil, xA_cons, xK_nil, xK_cons, xL_one, xL_cons, xO_none, xO_some, xC_none, xC_some, xI_seq, xI_rng, xI_enm, xI_rvd, setO_own, setO_dat, setO_slot, xS_set, xS_unp, xS_sub, xS_mut, xS_exp, xS_retN, xS_ret, xS_ife, xS_brk, xS_cnt, xS_pas, seqO_nx, seqO_rt, seqO_bk, seqO_ct, xB_nil, xB_cons, frc_dat, frc_own, frc_slot, esc_dat, esc_own, esc_slot, frcs_nil, frcs_cons, rdO_sh, rdO_ow, rdO_io, rd_O, escO_sh, escO_ow, escI_O, upO_ow, upO_io, upS_O, ioO_un, ioO_sh, ioO_ow, stS_O, lstO_ow, lstO_io, isLst_O, bindTg_one, bindTg_many, bindMany_nil, bindMany_cons, asInt_int, asBl_bl, op_add, op_sub, op_mul, op_fdiv, op_mod, op_pow, op_band, op_addL, op_addT, op_mulL, cm_lt, cm_le, cm_gt, cm_ge, eqv_int, cm_eqI, cm_neI, idx_lst, idx_tup, idx_scr, put_lst, mu_app, mu_ins, vb_lenL, vb_lenT, vb_lenS, vb_max2, vb_min2, vb_int1, vb_int1b, vb_list1, vb_list1t, vb_tuple1, vb_tuple1t, vb_divmod, vb_sum, vb_all, vb_sorted, slc_lst, rng_1, rng_2, seqOf_lst, seqOf_tup, seqOf_scr, List.getElem?_cons_zero, List.getElem?_cons_succ, List.set_cons_zero, List.set_cons_succ, List.length_cons, List.length_nil, Bool.and_eq_true, Bool.or_eq_true, decide_eq_true_eq, Bool.not_eq_true', Option.some.injEq, exists_eq_left', Bool.not_true, Bool.not_false, and_true, true_and, Nat.zero_le, Int.reduceToNat, Int.reduceLT, Int.reduceLE, Int.reduceAdd, Int.reduceSub, Int.reducePow, Int.reduceMul, and_self, true_or, or_true, Nat.reducePow, Nat.zero_add, Nat.reduceAdd, Nat.reduceLT, Nat.reduceLeDiff, decide_true, Nat.reduceSub, beq_self_eq_true, reduceIte, Bool.true_and, Bool.and_true, List.cons_append, List.nil_append, List.zip_cons_cons, List.zip_nil_left, List.map_cons, List.map_nil, List.replicate, Bool.true_eq_false, Bool.false_eq_true, Tg.slots, xS_for, List.length_map, Int.natAbs_natCast, Int.toNat_natCast, List.length_range, Bool.false_beq, Bool.true_beq, retR, iosOf, Option.map_some])
  | `(tactic| simp? [$ts,*]) => `(tactic| simp only [$ts,*, Sat_ok, Sat_bind, Sat_chk, Sat_ofO, Sat_noX, Sat_inEnv, varO_sh, varO_ow, varO_io, xE_var, xE_lit, xE_op, xE_neg, xE_cmp, xE_chn, xE_and, xE_or, xE_not, xE_ife, xE_tup, xE_lst, xE_dnew, xE_idx, xE_slc, xE_isi, xE_call, xE_blt, xE_rngL, xE_srt, xA_nil, xA_cons, xK_nil, xK_cons, xL_one, xL_cons, xO_none, xO_some, xC_none, xC_some, xI_seq, xI_rng, xI_enm, xI_rvd, setO_own, setO_dat, setO_slot, xS_set, xS_unp, xS_sub, xS_mut, xS_exp, xS_retN, xS_ret, xS_ife, xS_brk, xS_cnt, xS_pas, seqO_nx, seqO_rt, seqO_bk, seqO_ct, xB_nil, xB_cons, frc_dat, frc_own, frc_slot, esc_dat, esc_own, esc_slot, frcs_nil, frcs_cons, rdO_sh, rdO_ow, rdO_io, rd_O, escO_sh, escO_ow, escI_O, upO_ow, upO_io, upS_O, ioO_un, ioO_sh, ioO_ow, stS_O, lstO_ow, lstO_io, isLst_O, bindTg_one, bindTg_many, bindMany_nil, bindMany_cons, asInt_int, asBl_bl, op_add, op_sub, op_mul, op_fdiv, op_mod, op_pow, op_band, op_addL, op_addT, op_mulL, cm_lt, cm_le, cm_gt, cm_ge, eqv_int, cm_eqI, cm_neI, idx_lst, idx_tup, idx_scr, put_lst, mu_app, mu_ins, vb_lenL, vb_lenT, vb_lenS, vb_max2, vb_min2, vb_int1, vb_int1b, vb_list1, vb_list1t, vb_tuple1, vb_tuple1t, vb_divmod, vb_sum, vb_all, vb_sorted, slc_lst, rng_1, rng_2, seqOf_lst, seqOf_tup, seqOf_scr, List.getElem?_cons_zero, List.getElem?_cons_succ, List.set_cons_zero, List.set_cons_succ, List.length_cons, List.length_nil, Bool.and_eq_true, Bool.or_eq_true, decide_eq_true_eq, Bool.not_eq_true', Option.some.injEq, exists_eq_left', Bool.not_true, Bool.not_false, and_true, true_and, Nat.zero_le, Int.reduceToNat, Int.reduceLT, Int.reduceLE, Int.reduceAdd, Int.reduceSub, Int.reducePow, Int.reduceMul, and_self, true_or, or_true, Nat.reducePow, Nat.zero_add, Nat.reduceAdd, Nat.reduceLT, Nat.reduceLeDiff, decide_true, Nat.reduceSub, beq_self_eq_true, reduceIte, Bool.true_and, Bool.and_true, List.cons_append, List.nil_append, List.zip_cons_cons, List.zip_nil_left, List.map_cons, List.map_nil, List.replicate, Bool.true_eq_false, Bool.false_eq_true, Tg.slots, xS_for, List.length_map, Int.natAbs_natCast, Int.toNat_natCast, List.length_range, Bool.false_beq, Bool.true_beq, retR, iosOf, Option.map_some])
def pen (a b : Int) : D := .lst [.int a, .int b]
def dCell : Def := ⟨[false, false], 2, [.ife (.cmp .lt (.var 1) (.blt .len [.var 0])) [.ret (some (.idx (.var 0) (.var 1)))] [], .ret (some (.lit (.int 0)))]⟩
def dPen : Def := ⟨[false], 2, [.set 1 (.blt .max2 [.var 0, .op .sub (.lit (.int 0)) (.var 0)]), .ret (some (.lst [.var 1, .blt .int1 [.cmp .ge (.var 1) (.op .pow (.lit (.int 10)) (.lit (.int 18)))]]))]⟩
def dDraw : Def := ⟨[true, false], 5,
  [.ife (.cmp .eq (.idx (.var 0) (.lit (.int 1))) (.lit (.int 1))) [.unp [3, 4] (.blt .divmod [.idx (.var 0) (.lit (.int 0)), .var 1]), .sub 0 (.lit (.int 0)) (.var 3), .ret (some (.var 4))] [],
   .set 2 (.op .mod (.op .mul (.op .add (.op .mod (.idx (.var 0) (.lit (.int 0))) (.lit (.int 2147483647))) (.lit (.int 40503))) (.lit (.int 69621))) (.lit (.int 2147483629))),
   .set 2 (.op .mod (.op .add (.op .mul (.var 2) (.var 2)) (.lit (.int 7817))) (.lit (.int 2147483587))),
   .sub 0 (.lit (.int 0)) (.op .mod (.op .add (.op .mul (.var 2) (.lit (.int 48271))) (.lit (.int 11))) (.lit (.int 2147483629))),
   .ret (some (.op .mod (.op .fdiv (.idx (.var 0) (.lit (.int 0))) (.lit (.int 32))) (.var 1)))]⟩
def dWhole : Def := ⟨[false], 1, [.ret (some (.andb [.isi (.var 0) .int, .notb (.isi (.var 0) .bool)]))]⟩
section
variable {T : Tb}
theorem runDef_sat {d : Def} {ds : List D} {Q : FRes → Prop} (hl : ds.length = d.fl.length) (hn : d.fl.length ≤ d.n)
    (h : Sat (runB T d.body (startE d.fl d.n ds)) fun o => match o with
      | .nx e => ∃ ios, iosOf e d.fl 0 = some ios ∧ Q ⟨false, .non, ios⟩
      | .rt r e => Sat (retR e r) fun z => ∃ ios, iosOf z.2.2 d.fl 0 = some ios ∧ Q ⟨z.1, z.2.1, ios⟩
      | _ => False) : Sat (runDef T d ds) Q := by
  unfold runDef
  refine Sat.bind (P := fun _ => True) (Sat_chk.mpr ⟨by simp [hl, hn], trivial⟩) fun _ _ => ?_
  refine Sat.bind h fun o ho => ?_
  cases o with
  | bk e => exact ho.elim
  | ct e => exact ho.elim
  | nx e =>
    obtain ⟨ios, h1, h2⟩ := ho
    exact ⟨_, by show (ofO (iosOf e d.fl 0) >>= _) = _; rw [h1]; rfl, h2⟩
  | rt r e =>
    obtain ⟨z, e1, ios, h1, h2⟩ := ho
    exact ⟨_, by show (retR e r >>= _) = _; rw [e1]; show (ofO (iosOf z.2.2 d.fl 0) >>= _) = _; rw [h1]; rfl, h2⟩
theorem Sat_iteB {α : Type} {b : Bool} {x y : Res α} {Q : α → Prop} (h1 : b = true → Sat x Q) (h2 : b = false → Sat y Q) : Sat (if b = true then x else y) Q := by
  cases b
  · exact h2 rfl
  · exact h1 rfl
def isI : D → Bool
  | .int _ => true
  | _ => false
theorem whole_sat {d : D} (h : isiOk d = true) : Sat (runDef T dWhole [d]) fun q => q = ⟨false, .bl (isI d), []⟩ := by
  cases d <;> first
    | (cases h; done)
    | exact ⟨_, rfl, rfl⟩
theorem pen_sat {i : Int} : Sat (runDef T dPen [.int i]) fun q => ∃ a b, q = ⟨true, pen a b, []⟩ := by
  refine runDef_sat rfl (by decide) ?_
  show Sat (runB T dPen.body [.sh (.int i), .un]) _
  simp? [dPen]
  exact ⟨by decide, by decide, _, _, rfl⟩
theorem pen_at0 {a b : Int} : atI [D.int a, D.int b] 0 = some (.int a) := rfl
theorem pen_at1 {a b : Int} : atI [D.int a, D.int b] 1 = some (.int b) := rfl
theorem pen_ix : ixN 2 0 = some 0 := rfl
theorem mulOk_r {i j : Int} (h : j.natAbs < 18446744073709551616) : mulOk i j = true := by
  unfold mulOk
  simp [h]
theorem mulOk_l {i j : Int} (h : i.natAbs < 18446744073709551616) : mulOk i j = true := by
  unfold mulOk
  simp [h]
theorem draw_sat {a b many : Int} (h1 : 0 < many) (h2 : many < 1073741824) : Sat (runDef T dDraw [pen a b, .int many]) fun q => ∃ v a', q = ⟨false, .int v, [pen a' b]⟩ ∧ 0 ≤ v ∧ v < many := by
  refine runDef_sat rfl (by decide) ?_
  show Sat (runB T dDraw.body [.io (.lst [.int a, .int b]), .sh (.int many), .un, .un, .un]) _
  simp? [dDraw, pen_at0, pen_at1, pen_ix]
  refine Sat_ite.mpr ⟨fun _ => ?_, fun _ => ?_⟩
  · simp? [pen_at0, pen_at1, pen_ix, h1, h2]
    exact ⟨_, _, rfl, Int.emod_nonneg _ (by omega), Int.emod_lt_of_pos _ h1⟩
  · simp? [pen_at0, pen_at1, pen_ix, h1, h2]
    have sm : ∀ i m : Int, 0 < m → m < 18446744073709551616 → ∀ j, mulOk (i % m) j = true := fun i m hm hm2 j => by
      unfold mulOk
      have a1 := Int.emod_nonneg i (show m ≠ 0 by omega)
      have a2 := Int.emod_lt_of_pos i hm
      have : (i % m).natAbs < 18446744073709551616 := by omega
      simp [this]
    exact ⟨mulOk_r (by decide), sm _ _ (by decide) (by decide) _, mulOk_r (by decide), _, _, rfl, Int.emod_nonneg _ (by omega), Int.emod_lt_of_pos _ h1⟩
theorem cell_sat {ns : List Int} {k : Int} (h : 0 ≤ k) : Sat (runDef T dCell [.scr ns, .int k]) fun q => ∃ i, q = ⟨false, .int i, []⟩ := by
  refine runDef_sat rfl (by decide) ?_
  show Sat (runB T dCell.body [.sh (.scr ns), .sh (.int k)]) _
  simp? [dCell]
  refine Sat_ite.mpr ⟨fun hk => ?_, fun _ => ?_⟩
  · obtain ⟨v, hv⟩ : ∃ v, atI ns k = some v := by
      unfold atI ixN
      rw [if_pos h, if_pos hk]
      exact ⟨ns[k.toNat]'(by omega), List.getElem?_eq_getElem (by omega)⟩
    simp? [hv]
    exact ⟨_, rfl⟩
  · simp?
    exact ⟨_, rfl⟩
end
/-! ### loops -/
def FoP (I : EnvD → Prop) (Q : Out → Prop) : Out → Prop
  | .nx e => I e
  | .ct e => I e
  | .bk e => Q (.nx e)
  | .rt r e => Q (.rt r e)
@[simp] theorem FoP_nx {I : EnvD → Prop} {Q : Out → Prop} {e : EnvD} : FoP I Q (.nx e) = I e := rfl
@[simp] theorem FoP_ct {I : EnvD → Prop} {Q : Out → Prop} {e : EnvD} : FoP I Q (.ct e) = I e := rfl
@[simp] theorem FoP_bk {I : EnvD → Prop} {Q : Out → Prop} {e : EnvD} : FoP I Q (.bk e) = Q (.nx e) := rfl
@[simp] theorem FoP_rt {I : EnvD → Prop} {Q : Out → Prop} {e : EnvD} {r : R} : FoP I Q (.rt r e) = Q (.rt r e) := rfl
theorem forL_from {turn : EnvD → D → Res Out} {xs : List D} {I : Nat → EnvD → Prop} {Q : Out → Prop} (hs : ∀ k x e, xs[k]? = some x → I k e → Sat (turn e x) (FoP (I (k + 1)) Q)) (hq : ∀ e, I xs.length e → Q (.nx e)) :
    ∀ (n k : Nat) (e : EnvD), xs.length = k + n → I k e → Sat (forL turn (xs.drop k) e) Q
  | 0, k, e, hl, h => by
    rw [List.drop_of_length_le (by omega)]
    exact ⟨_, rfl, hq e (by rw [hl]; exact h)⟩
  | n + 1, k, e, hl, h => by
    have hk : k < xs.length := by omega
    rw [List.drop_eq_getElem_cons hk]
    show Sat (turn e xs[k] >>= _) Q
    refine Sat.bind (hs k _ e (List.getElem?_eq_getElem hk) h) fun o ho => ?_
    cases o with
    | nx e' => exact forL_from hs hq n (k + 1) e' (by omega) ho
    | ct e' => exact forL_from hs hq n (k + 1) e' (by omega) ho
    | bk e' => exact ⟨_, rfl, ho⟩
    | rt r e' => exact ⟨_, rfl, ho⟩
theorem forL_sat {turn : EnvD → D → Res Out} {xs : List D} {env : EnvD} (I : Nat → EnvD → Prop) {Q : Out → Prop} (h0 : I 0 env) (hs : ∀ k x e, xs[k]? = some x → I k e → Sat (turn e x) (FoP (I (k + 1)) Q)) (hq : ∀ e, I xs.length e → Q (.nx e)) : Sat (forL turn xs env) Q :=
  forL_from hs hq xs.length 0 env (by omega) h0
def LcP (I : EnvD → List D → Prop) (acc : List D) (z : Option D × EnvD) : Prop := match z.1 with
  | none => I z.2 acc
  | some d => acc.length < SL ∧ I z.2 (acc ++ [d])
@[simp] theorem LcP_none {I : EnvD → List D → Prop} {acc : List D} {e : EnvD} : LcP I acc (none, e) = I e acc := rfl
@[simp] theorem LcP_some {I : EnvD → List D → Prop} {acc : List D} {e : EnvD} {d : D} : LcP I acc (some d, e) = (acc.length < SL ∧ I e (acc ++ [d])) := rfl
theorem lcL_from {turn : EnvD → D → Res (Option D × EnvD)} {xs : List D} {I : Nat → EnvD → List D → Prop} (hs : ∀ k x e acc, xs[k]? = some x → I k e acc → Sat (turn e x) (LcP (I (k + 1)) acc)) :
    ∀ (n k : Nat) (e : EnvD) (acc : List D), xs.length = k + n → I k e acc → Sat (lcL turn (xs.drop k) e acc) fun z => I xs.length z.2 z.1
  | 0, k, e, acc, hl, h => by
    rw [List.drop_of_length_le (by omega)]
    exact ⟨_, rfl, by rw [hl]; exact h⟩
  | n + 1, k, e, acc, hl, h => by
    have hk : k < xs.length := by omega
    rw [List.drop_eq_getElem_cons hk]
    show Sat (noX (turn e xs[k]) >>= _) _
    refine Sat.bind (Sat_noX.mpr (hs k _ e acc (List.getElem?_eq_getElem hk) h)) fun z hz => ?_
    obtain ⟨o, e'⟩ := z
    cases o with
    | none => exact lcL_from hs n (k + 1) e' acc (by omega) hz
    | some d =>
      obtain ⟨h1, h2⟩ := hz
      show Sat (chk (decide (acc.length < SL)) >>= fun _ => lcL turn (xs.drop (k + 1)) e' (acc ++ [d])) _
      exact Sat.bind (P := fun _ => True) (Sat_chk.mpr ⟨by simpa using h1, trivial⟩) fun _ _ => lcL_from hs n (k + 1) e' (acc ++ [d]) (by omega) h2
theorem lcL_sat {turn : EnvD → D → Res (Option D × EnvD)} {xs : List D} {env : EnvD} (I : Nat → EnvD → List D → Prop) (h0 : I 0 env []) (hs : ∀ k x e acc, xs[k]? = some x → I k e acc → Sat (turn e x) (LcP (I (k + 1)) acc)) : Sat (lcL turn xs env []) fun z => I xs.length z.2 z.1 :=
  lcL_from hs xs.length 0 env [] (by omega) h0
theorem getD_of {env : EnvD} {i : Nat} {s : Slot} (h : env[i]? = some s) : env.getD i .un = s := by rw [List.getD_eq_getElem?_getD, h]; rfl
theorem set_same {env : EnvD} {i : Nat} {s : Slot} (h : env[i]? = some s) : env.set i s = env := by
  apply List.ext_getElem?
  intro j
  by_cases hj : j = i
  · subst hj
    rw [List.getElem?_set_self (List.getElem?_eq_some_iff.mp h).1, h]
  · rw [List.getElem?_set_ne (Ne.symm hj)]
theorem set_back {env : EnvD} {i : Nat} {s t : Slot} (h : env[i]? = some s) : (env.set i t).set i s = env := by
  rw [List.set_set]
  exact set_same h
/-- a comprehension over one name that changes nothing -/
theorem lc_pure' {α β : Type} {T : Tb} {elt : CE} {i : Nat} {it : CI} {c : Option CE} {env0 : EnvD} (env : EnvD) {s : Slot} {as : List α} {ea : α → D} {p : α → Bool} {g : α → β} {fe : β → D} (hi : env[i]? = some s) (hf : s = .un ∨ ∃ d, s = .sh d) (hI : Sat (runI T it env0) fun z => z = (as.map ea, env)) (hl : as.length ≤ SL)
    (hc : ∀ x ∈ as, Sat (runC T c (env.set i (.sh (ea x)))) fun z => z = (p x, env.set i (.sh (ea x))))
    (he : ∀ x ∈ as, p x = true → Sat (runE T elt (env.set i (.sh (ea x)))) fun z => z = (.dat (fe (g x)), env.set i (.sh (ea x))) ∨ z = (.own (fe (g x)), env.set i (.sh (ea x)))) :
    Sat (runE T (.lc elt (.one i) it c) env0) fun z => z = (.own (.lst (((as.filter p).map g).map fe)), env) := by
  have hlt : i < env.length := (List.getElem?_eq_some_iff.mp hi).1
  rw [xE_lc]
  refine Sat.bind hI fun z hz => ?_
  subst hz
  have hfr : freeOf env (Tg.slots (.one i)) = true := by
    show (([i] : List Nat).all fun i => _) = true
    simp only [List.all_cons, List.all_nil, Bool.and_true, hi]
    rcases hf with rfl | ⟨d, rfl⟩ <;> rfl
  refine Sat.bind (P := fun _ => True) (Sat_chk.mpr ⟨hfr, trivial⟩) fun _ _ => ?_
  refine Sat.bind (lcL_sat (I := fun k e acc => (e = env ∨ ∃ t, e = env.set i t) ∧ acc = (((as.take k).filter p).map g).map fe) ⟨.inl rfl, by simp⟩ fun k x e acc hx ⟨h1, h2⟩ => ?_) fun q hq => ?_
  · rw [List.getElem?_map] at hx
    obtain ⟨a, ha, rfl⟩ := Option.map_eq_some_iff.mp hx
    have hk : k < as.length := (List.getElem?_eq_some_iff.mp ha).1
    have hxm : a ∈ as := List.mem_of_getElem? ha
    have hw : (wipeE e [i]).set i (.sh (ea a)) = env.set i (.sh (ea a)) := by
      show (e.set i .un).set i (.sh (ea a)) = _
      rw [List.set_set]
      rcases h1 with rfl | ⟨t, rfl⟩
      · rfl
      · rw [List.set_set]
    have hb : bindTg (wipeE e (Tg.slots (.one i))) (.one i) (ea a) = .ok (env.set i (.sh (ea a))) := by
      have hel : e.length = env.length := by rcases h1 with rfl | ⟨t, rfl⟩ <;> simp
      show stS (e.set i .un) i (.sh (ea a)) = _
      rw [stS_O]
      have : (e.set i .un)[i]? = some .un := List.getElem?_set_self (by omega)
      rw [this]
      have h3 : (decide (i < (e.set i Slot.un).length) && !ioO (some .un)) = true := by simp [hel, hlt]
      rw [h3]
      show Res.ok ((e.set i .un).set i (.sh (ea a))) = _
      rw [← hw]; rfl
    have htake : (as.take (k + 1)).filter p = (as.take k).filter p ++ (if p a = true then [a] else []) := by
      rw [List.take_succ, ha, List.filter_append]
      by_cases hp : p a = true <;> simp [hp]
    have hal : acc.length < SL := by
      rw [h2, List.length_map, List.length_map]
      have := List.length_filter_le p (as.take k)
      rw [List.length_take] at this
      omega
    unfold lcT
    refine Sat.bind ⟨_, hb, rfl⟩ fun e3 h3 => ?_
    subst h3
    refine Sat.bind (hc a hxm) fun z hz => ?_
    subst hz
    refine Sat_iteB (fun hp => ?_) (fun hp => ?_)
    · refine Sat.bind (he a hxm hp) fun z hz => ?_
      rcases hz with rfl | rfl
      · exact ⟨_, rfl, hal, .inr ⟨_, rfl⟩, by rw [htake, if_pos hp, h2]; simp⟩
      · exact ⟨_, rfl, hal, .inr ⟨_, rfl⟩, by rw [htake, if_pos hp, h2]; simp⟩
    · exact ⟨_, rfl, .inr ⟨_, rfl⟩, by rw [htake, if_neg (by rw [hp]; exact Bool.false_ne_true), h2]; simp⟩
  · obtain ⟨ds, e2⟩ := q
    obtain ⟨h1, h2⟩ := hq
    refine Sat_ok.mpr ?_
    have h1 : e2 = env ∨ ∃ t, e2 = env.set i t := h1
    have h2 : ds = (((as.take (as.map ea).length).filter p).map g).map fe := h2
    rw [h2, List.length_map, List.take_length]
    have : backE env e2 [i] = env := by
      show e2.set i (env.getD i .un) = env
      rw [getD_of hi]
      rcases h1 with rfl | ⟨t, rfl⟩
      · exact set_same hi
      · exact set_back hi
    show (R.own (.lst _), backE env e2 [i]) = _
    rw [this]
theorem lc_pure {α β : Type} {T : Tb} {elt : CE} {i : Nat} {it : CI} {c : Option CE} {env : EnvD} {s : Slot} {as : List α} {ea : α → D} {p : α → Bool} {g : α → β} {fe : β → D} (hi : env[i]? = some s) (hf : s = .un ∨ ∃ d, s = .sh d) (hI : Sat (runI T it env) fun z => z = (as.map ea, env)) (hl : as.length ≤ SL)
    (hc : ∀ x ∈ as, Sat (runC T c (env.set i (.sh (ea x)))) fun z => z = (p x, env.set i (.sh (ea x))))
    (he : ∀ x ∈ as, p x = true → Sat (runE T elt (env.set i (.sh (ea x)))) fun z => z = (.dat (fe (g x)), env.set i (.sh (ea x))) ∨ z = (.own (fe (g x)), env.set i (.sh (ea x)))) :
    Sat (runE T (.lc elt (.one i) it c) env) fun z => z = (.own (.lst (((as.filter p).map g).map fe)), env) := lc_pure' env hi hf hI hl hc he
theorem lc_all' {α β : Type} {T : Tb} {elt : CE} {i : Nat} {it : CI} {env0 : EnvD} (env : EnvD) {s : Slot} {as : List α} {ea : α → D} {g : α → β} {fe : β → D} (hi : env[i]? = some s) (hf : s = .un ∨ ∃ d, s = .sh d) (hI : Sat (runI T it env0) fun z => z = (as.map ea, env)) (hl : as.length ≤ SL)
    (he : ∀ x ∈ as, Sat (runE T elt (env.set i (.sh (ea x)))) fun z => z = (.dat (fe (g x)), env.set i (.sh (ea x))) ∨ z = (.own (fe (g x)), env.set i (.sh (ea x)))) :
    Sat (runE T (.lc elt (.one i) it none) env0) fun z => z = (.own (.lst ((as.map g).map fe)), env) := by
  have := lc_pure' (p := fun _ => true) (c := none) (g := g) (fe := fe) env hi hf hI hl (fun x _ => ⟨_, rfl, rfl⟩) fun x hx _ => he x hx
  rw [show as.filter (fun _ => true) = as from List.filter_eq_self.mpr fun _ _ => rfl] at this
  exact this
theorem lc_all {α β : Type} {T : Tb} {elt : CE} {i : Nat} {it : CI} {env : EnvD} {s : Slot} {as : List α} {ea : α → D} {g : α → β} {fe : β → D} (hi : env[i]? = some s) (hf : s = .un ∨ ∃ d, s = .sh d) (hI : Sat (runI T it env) fun z => z = (as.map ea, env)) (hl : as.length ≤ SL)
    (he : ∀ x ∈ as, Sat (runE T elt (env.set i (.sh (ea x)))) fun z => z = (.dat (fe (g x)), env.set i (.sh (ea x))) ∨ z = (.own (fe (g x)), env.set i (.sh (ea x)))) :
    Sat (runE T (.lc elt (.one i) it none) env) fun z => z = (.own (.lst ((as.map g).map fe)), env) := by
  have := lc_pure (p := fun _ => true) (c := none) (g := g) (fe := fe) hi hf hI hl (fun x _ => ⟨_, rfl, rfl⟩) fun x hx _ => he x hx
  rw [show as.filter (fun _ => true) = as from List.filter_eq_self.mpr fun _ _ => rfl] at this
  exact this
end VL
/-! VM3: calls worked out. -/
namespace VL
open PySem PySem.Spec L2
section
variable {T : Tb} {env : EnvD}
def resR (q : FRes) : R := if q.own = true then .own q.d else .dat q.d
theorem callR_eq (f : Nat) (rs : List R) : callR T f rs env = (chk (fitA rs (T.fl f) && (decide ((ioSlots rs (T.fl f)).Nodup) && (ioSlots rs (T.fl f)).all (fun i => decide (i ∉ notIoSlots rs (T.fl f))))) >>= fun _ => frcs env rs >>= fun ds => inEnv env (T.fl f) (T.call f ds) >>= fun q =>
    (if (if q.own then q.d.pureIn else q.d.pure) && q.ios.all D.pureIn then .ok env else escs env (notIoSlots rs (T.fl f))) >>= fun e1 => ups e1 (ioSlots rs (T.fl f)) q.ios >>= fun e2 => .ok (resR q, e2)) := rfl
theorem no_io : ∀ {rs : List R} {fl : List Bool}, rs.length = fl.length → (∀ b ∈ fl, b = false) → fitA rs fl = true ∧ ioSlots rs fl = []
  | [], [], _, _ => ⟨rfl, rfl⟩
  | [], _ :: _, h, _ => by cases h
  | _ :: _, [], h, _ => by cases h
  | r :: rs, b :: fl, h, hb => by
    have h0 := hb b List.mem_cons_self
    subst h0
    obtain ⟨h1, h2⟩ := no_io (rs := rs) (fl := fl) (by simpa using h) fun b hm => hb b (List.mem_cons_of_mem _ hm)
    cases r <;> exact ⟨h1, h2⟩
/-- .. whatever its answer, no slot handed in -/
theorem no_slots : ∀ {rs : List R} {fl : List Bool}, rs.all R.isVal = true → notIoSlots rs fl = []
  | [], _, _ => by cases ‹List Bool› <;> rfl
  | .dat _ :: rs, [], _ => rfl
  | .own _ :: rs, [], _ => rfl
  | .slot _ :: rs, _, h => by cases h
  | .dat _ :: rs, b :: fl, h => by
    have := no_slots (rs := rs) (fl := fl) h
    cases b <;> exact this
  | .own _ :: rs, b :: fl, h => by
    have := no_slots (rs := rs) (fl := fl) h
    cases b <;> exact this
theorem callR_dat {f : Nat} {rs : List R} {fl : List Bool} {ds : List D} {P : FRes → Prop} {Q : R × EnvD → Prop} (hfl : T.fl f = fl) (hb : ∀ b ∈ fl, b = false) (hl : rs.length = fl.length) (hv : rs.all R.isVal = true) (hd : frcs env rs = .ok ds) (h : Sat (T.call f ds) P)
    (k : ∀ q, P q → q.ios = [] ∧ Q (resR q, env)) : Sat (callR T f rs env) Q := by
  rw [callR_eq, hfl]
  obtain ⟨h1, h2⟩ := no_io hl hb
  rw [h1, h2, no_slots hv]
  refine Sat.bind (P := fun _ => True) (Sat_chk.mpr ⟨rfl, trivial⟩) fun _ _ => ?_
  rw [hd]
  refine Sat_bind.mpr (Sat_ok.mpr (Sat.bind (Sat_inEnv.mpr h) fun q hq => ?_))
  obtain ⟨k1, k3⟩ := k q hq
  rw [k1]
  have e0 : ∀ c : Bool, (if c = true then Res.ok env else escs env []) = .ok env := fun c => by cases c <;> rfl
  rw [e0]
  exact ⟨_, rfl, k3⟩
structure DrawS (T : Tb) (i : Nat) : Prop where
  fl : T.fl i = [true, false]
  run : ∀ a b many, 0 < many → many < 1073741824 → Sat (T.call i [pen a b, .int many]) fun q => ∃ v a', q = ⟨false, .int v, [pen a' b]⟩ ∧ 0 ≤ v ∧ v < many
/-- a draw by a pen that was handed in -/
theorem drawIo {f j : Nat} {a b many : Int} {Q : R × EnvD → Prop} (D : DrawS T f) (hj : env[j]? = some (.io (pen a b))) (h1 : 0 < many) (h2 : many < 1073741824) (k : ∀ v a', 0 ≤ v → v < many → Q (.dat (.int v), env.set j (.io (pen a' b)))) : Sat (callR T f [.slot j, .dat (.int many)] env) Q := by
  rw [callR_eq, D.fl]
  refine Sat.bind (P := fun _ => True) (Sat_chk.mpr ⟨by simp [fitA, ioSlots, notIoSlots], trivial⟩) fun _ _ => ?_
  have hd : frcs env [.slot j, .dat (.int many)] = .ok [pen a b, .int many] := by
    show (rd env j >>= fun d => _) = _
    rw [rd_O, hj]; rfl
  rw [hd]
  refine Sat_bind.mpr (Sat_ok.mpr (Sat.bind (Sat_inEnv.mpr (D.run a b many h1 h2)) fun q hq => ?_))
  obtain ⟨v, a', rfl, hv1, hv2⟩ := hq
  refine ⟨_, ?_, k v a' hv1 hv2⟩
  show (Res.ok env >>= fun e1 => ups e1 [j] [pen a' b] >>= fun e2 => Res.ok (R.dat (.int v), e2)) = _
  show ((upS env j (pen a' b) >>= fun e => ups e [] []) >>= fun e2 => Res.ok (R.dat (.int v), e2)) = _
  rw [upS_O, hj]; rfl
end
/-! ### lists of whole numbers, of rows -/
abbrev tI (r : List Int) : D := .tup (r.map .int)
abbrev lI (r : List Int) : D := .lst (r.map .int)
abbrev oI (o : List (List Int)) : D := .tup (o.map tI)
theorem atI_nat {α : Type} {xs : List α} {i : Nat} (h : i < xs.length) : atI xs (i : Int) = some xs[i] := by
  unfold atI ixN
  rw [if_pos (by omega), if_pos (by omega)]
  simp [h]
theorem atI_get' {α : Type} {xs : List α} {i : Int} (h0 : 0 ≤ i) (h : i.toNat < xs.length) : atI xs i = some xs[i.toNat] := by
  obtain ⟨n, rfl⟩ : ∃ n : Nat, i = n := ⟨i.toNat, by omega⟩
  exact atI_nat h
theorem ixN_nat {n : Nat} {i : Int} (h0 : 0 ≤ i) (h : i.toNat < n) : ixN n i = some i.toNat := by
  unfold ixN
  rw [if_pos h0, if_pos (by omega)]
theorem fitL_ints : ∀ (r : List Int) (n : Nat), D.fitL (r.map .int) n = true
  | [], _ => rfl
  | _ :: r, n => fitL_ints r n
theorem any_eqv (p : Int) : ∀ r : List Int, ((r.map D.int).any fun z => D.eqv z (.int p)) = decide (p ∈ r)
  | [] => by simp
  | i :: r => by
    rw [List.map_cons, List.any_cons, any_eqv p r, eqv_int]
    by_cases h : i = p
    · subst h; simp
    · have h' : ¬ p = i := fun z => h z.symm
      simp [h, h']
@[simp] theorem cm_inT {p : Int} {r : List Int} : cmD .isin (.int p) (.tup (r.map .int)) = .ok (decide (p ∈ r)) := by
  show (chk (true && D.fitL (r.map .int) 50) >>= fun _ => Res.ok ((r.map D.int).any fun z => D.eqv z (.int p))) = _
  rw [fitL_ints, any_eqv]; rfl
@[simp] theorem cm_inL {p : Int} {r : List Int} : cmD .isin (.int p) (.lst (r.map .int)) = .ok (decide (p ∈ r)) := by
  show (chk (true && D.fitL (r.map .int) 50) >>= fun _ => Res.ok ((r.map D.int).any fun z => D.eqv z (.int p))) = _
  rw [fitL_ints, any_eqv]; rfl
@[simp] theorem cm_ninT {p : Int} {r : List Int} : cmD .notin (.int p) (.tup (r.map .int)) = .ok (!decide (p ∈ r)) := by
  show (inD (.int p) (.tup (r.map .int)) >>= fun q => Res.ok (!q)) = _
  rw [show inD (.int p) (.tup (r.map .int)) = .ok (decide (p ∈ r)) from cm_inT]; rfl
@[simp] theorem cm_ninL {p : Int} {r : List Int} : cmD .notin (.int p) (.lst (r.map .int)) = .ok (!decide (p ∈ r)) := by
  show (inD (.int p) (.lst (r.map .int)) >>= fun q => Res.ok (!q)) = _
  rw [show inD (.int p) (.lst (r.map .int)) = .ok (decide (p ∈ r)) from cm_inL]; rfl
theorem eqvL_ints : ∀ a b : List Int, PyData.eqvAll (D.pyL (a.map .int)) (D.pyL (b.map .int)) = decide (a = b)
  | [], [] => rfl
  | [], _ :: _ => rfl
  | _ :: _, [] => rfl
  | i :: a, j :: b => by
    show (PyData.eqv (.int i) (.int j) && PyData.eqvAll (D.pyL (a.map .int)) (D.pyL (b.map .int))) = _
    rw [eqvL_ints a b, show PyData.eqv (.int i) (.int j) = decide (i = j) from eqv_int]
    by_cases h : i = j <;> by_cases g : a = b <;> simp [h, g]
@[simp] theorem cm_eqLI {a b : List Int} : cmD .eq (.lst (a.map .int)) (.lst (b.map .int)) = .ok (decide (a = b)) := by
  show (chk (D.fitL (a.map .int) 49 && D.fitL (b.map .int) 49) >>= fun _ => Res.ok (PyData.eqvAll (D.pyL (a.map .int)) (D.pyL (b.map .int)))) = _
  rw [fitL_ints, fitL_ints, eqvL_ints]; rfl
@[simp] theorem cm_neLI {a b : List Int} : cmD .ne (.lst (a.map .int)) (.lst (b.map .int)) = .ok (!decide (a = b)) := by
  show (cmD .eq (.lst (a.map .int)) (.lst (b.map .int)) >>= fun r => Res.ok (!r)) = _
  rw [cm_eqLI]; rfl
def nI (k : Nat) : D := .int k
theorem rngIt_0 (n : Nat) : rngIt (0, n, 1) = (List.range n).map nI := by
  unfold rngIt nI
  simp
end VL
/-! VM4: sums. -/
namespace VL
open PySem PySem.Spec L2
def gV (v : List Int) (i : Int) : Int := v.getD i.toNat 0
def InR (o : List (List Int)) (n : Nat) : Prop := ∀ r ∈ o, r.length ≤ 1000 ∧ ∀ i ∈ r, 0 ≤ i ∧ i.toNat < n
section
variable {T : Tb}
theorem atI_gV {v : List Int} {i : Int} (h0 : 0 ≤ i) (h : i.toNat < v.length) : atI (v.map D.int) i = some (.int (gV v i)) := by
  rw [atI_get' h0 (by simpa using h)]
  unfold gV
  simp [List.getD_eq_getElem?_getD, h]
/-! ### an order turned about -/
def Fr1 (s : Slot) : Prop := s = .un ∨ ∃ d, s = .sh d
theorem ioO_free {s : Slot} (h : Fr1 s) : ioO (some s) = false := by
  rcases h with rfl | ⟨d, rfl⟩ <;> rfl
theorem rng_at {n k : Nat} {x : D} (h : ((List.range n).map nI)[k]? = some x) : x = .int k ∧ k < n := by
  rw [List.getElem?_map] at h
  obtain ⟨a, h1, h2⟩ := Option.map_eq_some_iff.mp h
  have hk : k < (List.range n).length := (List.getElem?_eq_some_iff.mp h1).1
  rw [List.length_range] at hk
  rw [List.getElem?_range hk] at h1
  cases h1
  exact ⟨h2.symm, hk⟩
def rowO (o : List (List Int)) (h : Nat) : List Int := o.getD h []
def turnRow (o : List (List Int)) (p : Nat) : List Int := ((List.range o.length).filter fun h => decide ((p : Int) ∈ rowO o h)).map Int.ofNat
def turnI (o : List (List Int)) : List (List Int) := (List.range o.length).map (turnRow o)
theorem atI_row {o : List (List Int)} {h : Nat} (hh : h < o.length) : atI (o.map tI) (h : Int) = some (tI (rowO o h)) := by
  rw [atI_nat (by simpa using hh)]
  simp [rowO, List.getD_eq_getElem?_getD, hh]
end
end VL
/-! VM5: sums beneath and above. -/
namespace VL
open PySem PySem.Spec L2
section
variable {T : Tb}
theorem map_at {α : Type} {f : α → D} {l : List α} {k : Nat} {x : D} (h : (l.map f)[k]? = some x) : ∃ a, l[k]? = some a ∧ x = f a := by
  rw [List.getElem?_map] at h
  obtain ⟨a, h1, h2⟩ := Option.map_eq_some_iff.mp h
  exact ⟨a, h1, h2.symm⟩
theorem take_at {α : Type} {l : List α} {k : Nat} {a : α} (h : l[k]? = some a) : l.take (k + 1) = l.take k ++ [a] := by
  rw [List.take_succ, h]; rfl
structure WholeS (T : Tb) (i : Nat) : Prop where
  fl : T.fl i = [false]
  run : ∀ d, isiOk d = true → Sat (T.call i [d]) fun q => q = ⟨false, .bl (isI d), []⟩
theorem turn_len (o : List (List Int)) : (turnI o).length = o.length := by unfold turnI; simp
/-! ### the law's own sums -/
theorem nodup_take {l : List Int} {t : Nat} {i : Int} (hn : l.Nodup) (hi : l[t]? = some i) : i ∉ l.take t := by
  intro hm
  have hlt : t < l.length := (List.getElem?_eq_some_iff.mp hi).1
  have e := List.take_append_drop t l
  rw [List.drop_eq_getElem_cons hlt, (List.getElem?_eq_some_iff.mp hi).2] at e
  rw [← e] at hn
  have := (List.nodup_append.mp hn).2.2 i hm i List.mem_cons_self
  exact this rfl
theorem rowO_mem {o : List (List Int)} {j : Nat} (h : j < o.length) : rowO o j ∈ o := by
  unfold rowO
  rw [List.getD_eq_getElem?_getD, List.getElem?_eq_getElem h]
  exact List.getElem_mem h
end
end VL
/-! VM6: drawn orders, values. -/
namespace VL
open PySem PySem.Spec L2
section
variable {T : Tb} {env : EnvD}
/-- a call whose first argument is a slot to be changed, the others plain -/
theorem callR_io {f j : Nat} {rs : List R} {fl : List Bool} {d : D} {ds : List D} {P : FRes → Prop} {Q : R × EnvD → Prop} (hfl : T.fl f = true :: fl) (hb : ∀ b ∈ fl, b = false) (hl : rs.length = fl.length) (hv : rs.all R.isVal = true) (hd : frcs env rs = .ok ds)
    (hj : env[j]? = some (.io d) ∨ env[j]? = some (.ow d)) (h : Sat (T.call f (d :: ds)) P)
    (k : ∀ q, P q → ∃ d', q.ios = [d'] ∧ ∀ e', (env[j]? = some (.io d) → e' = env.set j (.io d')) → (env[j]? = some (.ow d) → e' = env.set j (.ow d')) → Q (resR q, e')) : Sat (callR T f (.slot j :: rs) env) Q := by
  rw [callR_eq, hfl]
  obtain ⟨h1, h2⟩ := no_io hl hb
  have e1 : fitA (.slot j :: rs) (true :: fl) = true := h1
  have e2 : ioSlots (.slot j :: rs) (true :: fl) = [j] := by show j :: ioSlots rs fl = _; rw [h2]
  have e3 : notIoSlots (.slot j :: rs) (true :: fl) = [] := by show notIoSlots rs fl = _; exact no_slots hv
  rw [e1, e2, e3]
  refine Sat.bind (P := fun _ => True) (Sat_chk.mpr ⟨by simp, trivial⟩) fun _ _ => ?_
  have hf : frcs env (.slot j :: rs) = .ok (d :: ds) := by
    show (rd env j >>= fun x => frcs env rs >>= fun ds => Res.ok (x :: ds)) = _
    rw [rd_O]
    rcases hj with hj | hj <;> rw [hj, hd] <;> rfl
  rw [hf]
  refine Sat_bind.mpr (Sat_ok.mpr (Sat.bind (Sat_inEnv.mpr h) fun q hq => ?_))
  obtain ⟨d', k1, k2⟩ := k q hq
  rw [k1]
  have e0 : ∀ c : Bool, (if c = true then Res.ok env else escs env []) = .ok env := fun c => by cases c <;> rfl
  rw [e0]
  rcases hj with hj | hj
  · exact ⟨_, by
      show ((upS env j d' >>= fun e => ups e [] []) >>= fun e2 => Res.ok (resR q, e2)) = _
      rw [upS_O, hj]; rfl, k2 _ (fun _ => rfl) fun z => by rw [hj] at z; cases z⟩
  · exact ⟨_, by
      show ((upS env j d' >>= fun e => ups e [] []) >>= fun e2 => Res.ok (resR q, e2)) = _
      rw [upS_O, hj]; rfl, k2 _ (fun z => by rw [hj] at z; cases z) fun _ => rfl⟩
end
end VL
/-! VM7: drawn numbers and orders. -/
namespace VL
open PySem PySem.Spec L2
section
variable {T : Tb}
theorem runB_one {c : CS} {env : EnvD} {Q : Out → Prop} (h : Sat (runS T c env) Q) : Sat (runB T [c] env) Q := by
  rw [xB_cons]
  refine Sat.bind h fun o ho => ?_
  cases o <;> exact ⟨_, rfl, ho⟩
theorem ife_sat {t : CE} {x y : List CS} {env : EnvD} {Q : Out → Prop} (h : Sat (runE T t env) fun p => ∃ k e, p = (.dat (.bl k), e) ∧ (k = true → Sat (runB T x e) Q) ∧ (k = false → Sat (runB T y e) Q)) : Sat (runS T (.ife t x y) env) Q := by
  rw [xS_ife]
  refine Sat.bind h fun p hp => ?_
  obtain ⟨k, e, rfl, h1, h2⟩ := hp
  show Sat (if k = true then runB T x e else runB T y e) Q
  exact Sat_iteB h1 h2
/-! ### orders drawn -/
def Good (o : List (List Int)) : Prop := o.length ≤ 1000 ∧ InR o o.length ∧ ∀ r ∈ o, r.Nodup
/-- rows of unlike points below n -/
def Rows (n : Nat) (o : List (List Int)) : Prop := ∀ r ∈ o, r.Nodup ∧ ∀ i ∈ r, 0 ≤ i ∧ i < (n : Int)
theorem nodup_lenN : ∀ (n : Nat) {l : List Nat}, l.Nodup → (∀ x ∈ l, x < n) → l.length ≤ n
  | 0, [], _, _ => Nat.le_refl _
  | 0, x :: _, _, h => absurd (h x List.mem_cons_self) (by omega)
  | n + 1, l, hn, h => by
    by_cases hm : n ∈ l
    · have h1 := nodup_lenN n (l := l.erase n) (hn.erase n) fun x hx => by
        have h2 := (hn.mem_erase_iff).mp hx
        have := h x h2.2
        omega
      rw [List.length_erase_of_mem hm] at h1
      omega
    · have := nodup_lenN n hn fun x hx => by
        have := h x hx
        have : x ≠ n := fun z => hm (z ▸ hx)
        omega
      omega
theorem nodup_len {r : List Int} {n : Nat} (h : r.Nodup) (hb : ∀ i ∈ r, 0 ≤ i ∧ i < (n : Int)) : r.length ≤ n := by
  have hs : (r.map Int.toNat).Nodup := by
    refine List.pairwise_map.mpr (List.Pairwise.imp_of_mem ?_ h)
    intro a b ha hb' hne
    have h1 := hb a ha
    have h2 := hb b hb'
    omega
  have := nodup_lenN n hs fun x hx => by
    obtain ⟨i, hi, rfl⟩ := List.mem_map.mp hx
    have := hb i hi
    omega
  simpa using this
theorem good_of {o : List (List Int)} (hl : o.length ≤ 1000) (h : Rows o.length o) : Good o := by
  refine ⟨hl, fun r hr => ?_, fun r hr => (h r hr).1⟩
  obtain ⟨h1, h2⟩ := h r hr
  have := nodup_len h1 h2
  refine ⟨by omega, fun i hi => ?_⟩
  have := h2 i hi
  omega
/-- the rows as lists -/
abbrev lsI (o : List (List Int)) : List D := o.map lI
theorem lsI_at {o : List (List Int)} {i : Nat} (h : i < o.length) : atI (o.map lI) (i : Int) = some (lI (rowO o i)) := by
  rw [atI_nat (by simpa using h)]
  simp [rowO, List.getD_eq_getElem?_getD, h]
def rowFn (o : List (List Int)) : List (List Int) := o.map sortI
theorem rows_sort {n : Nat} {o : List (List Int)} (h : Rows n o) : Rows n (rowFn o) := by
  intro r hr
  obtain ⟨r0, h0, rfl⟩ := List.mem_map.mp hr
  obtain ⟨h1, h2⟩ := h r0 h0
  exact ⟨(sortI_perm r0).nodup_iff.mpr h1, fun i hi => h2 i ((sortI_perm r0).mem_iff.mp hi)⟩
theorem four_at {v : Int} (h0 : 0 ≤ v) (h : v < 4) : ∃ w : Int, atI [D.int 1, D.int 2, D.int 4, D.int 7] v = some (.int w) := by
  rw [atI_get' h0 (by simp; omega)]
  have : v.toNat = 0 ∨ v.toNat = 1 ∨ v.toNat = 2 ∨ v.toNat = 3 := by omega
  rcases this with e | e | e | e
  · exact ⟨1, by simp [e]⟩
  · exact ⟨2, by simp [e]⟩
  · exact ⟨4, by simp [e]⟩
  · exact ⟨7, by simp [e]⟩
end
end VL
/-! VM8: shaped orders. -/
namespace VL
open PySem PySem.Spec L2
section
variable {T : Tb}
@[simp] theorem cm_inT2 {p a b : Int} : cmD .isin (.int p) (.tup [.int a, .int b]) = .ok (decide (p ∈ [a, b])) := cm_inT (r := [a, b])
end
end VL
/-! VM9: the law of sums; the head in general. -/
namespace VL
open PySem PySem.Spec L2
section
variable {T : Tb}
structure CellS (T : Tb) (i : Nat) : Prop where
  fl : T.fl i = [false, false]
  run : ∀ ns k, 0 ≤ k → Sat (T.call i [.scr ns, .int k]) fun q => ∃ i, q = ⟨false, .int i, []⟩
structure PenS (T : Tb) (i : Nat) : Prop where
  fl : T.fl i = [false]
  run : ∀ c, Sat (T.call i [.int c]) fun q => ∃ a b, q = ⟨true, pen a b, []⟩
theorem slc_scr {ns : List Int} {lo hi : Option Int} : slcD (.scr ns) lo hi = .ok (.own (.lst ((cutL ns lo hi).map .int))) := rfl
theorem cutL_len {α : Type} (l : List α) (lo hi : Option Int) : (cutL l lo hi).length ≤ l.length := by
  unfold cutL
  rw [List.length_take, List.length_drop]
  omega
end
/-! ### the table of a program -/
noncomputable def TT (P : List Def) (n : Nat) : Tb := TbN P n none
theorem tt_call {P : List Def} {n i : Nat} {d : Def} (h : P[i]? = some d) (ds : List D) : (TT P (n + 1)).call i ds = runDef (TT P n) d ds := by
  show (match P[i]? with | some d => runDef (TbN P n none) d ds | none => .fail) = _
  rw [h]; rfl
theorem tt_sat {P : List Def} {n i : Nat} {d : Def} (h : P[i]? = some d) {ds : List D} {Q : FRes → Prop} (s : Sat (runDef (TT P n) d ds) Q) : Sat ((TT P (n + 1)).call i ds) Q := by
  rw [tt_call h]; exact s
/-- no exception is wished for -/
def spDry (sp : Sp) : Sp := fun vs H Q _ => sp vs H Q fun _ _ _ => False
theorem fn_dry {P : Program} {w : World} {K : PySem.W.Frag} {mg : Str → Option Value} {base : Heap} {k : Nat} {f : Addr} {fd : FuncData} {ps : List Str} {sp : Sp} (F : FnG P w K mg base (L2N.CX P w) k f fd ps sp) : FnG P w K mg base C8.CX0 k f fd ps (spDry sp) := by
  refine ⟨fun vs H Q E h => F.le _ _ _ _ h, fun A outer s H args us vs Q E hr hg e0 hb hv h => codeAny_mono (F.go A outer s H args us vs Q (fun _ _ _ => False) hr hg e0 hb hv h) fun r s' hq => ?_⟩
  match r, hq with
  | .ok (.ret u), hq => exact hq
  | .ok .next, hq => exact hq
  | .ok .brk, hq => exact hq
  | .ok .cont, hq => exact hq
  | .error e, hq =>
    obtain ⟨_, _, _, _, _, _, _, _, _, _, _, _, z⟩ := hq
    exact z.elim
/-! ### the law's def, called from outside where no display is being told -/
section
open PyProof.Rows
variable {P : Program} {w : World} {K : PySem.W.Frag} {mg mb : Str → Option Value} {a : Addr} {s : Shared} {H : Hp} {xs : Array Value}
/-- nothing is tracked but the script, a list -/
structure TopH (H : Hp) (s : Shared) (a : Addr) (xs : Array Value) : Prop where
  one : ∀ b u, H b = some u → b = a
  obj : s.heap.get? a = some { cls := .type "list", data := .seq xs }
theorem TopH.off (t : TopH H s a xs) {b : Addr} {o : Obj} (e : s.heap.get? b = some o) (hd : ∀ ys n, o.data ≠ .seq ys n) : H b = none := by
  cases q : H b with
  | none => rfl
  | some u =>
    have hb := t.one b u q
    subst hb
    rw [t.obj] at e
    cases e
    exact absurd rfl (hd _ _)
theorem TopH.ns (t : TopH H s a xs) {b : Addr} {m : Str → Option Value} : s.heap.Ns b m → (hidT s.heap H).Ns b m := fun ⟨o, es, ep, e, d, r⟩ =>
  ⟨o, es, ep, hidT_get e (t.off e fun ys n z => by rw [z] at d; cases d), d, r⟩
theorem TopH.env (t : TopH H s a xs) (KX : K.In s.heap) (hk : ∀ b u, H b = some u → K.lookup b = none) (hns : s.heap.Ns mainGlobals mg) (hb : s.heap.Ns builtinsNs mb) (hbb : ∀ x : Str, x ≠ "__name__" → mb x = bootBuiltins x) (hlim : s.heap.NoLimit) (hg : s.gens = #[]) (hok : HOk P w H s.heap) :
    K.In (hidT s.heap H) ∧ (hidT s.heap H).Ns mainGlobals mg ∧ Env0 P w K mg (hidT s.heap H) callerA [] s H := by
  have k1 : K.In (hidT s.heap H) := fun b o e => by
    refine hidT_get (KX b o e) ?_
    cases q : H b with
    | none => rfl
    | some u => rw [hk b u q] at e; cases e
  obtain ⟨mc, l1, l2⟩ := hlim
  exact ⟨k1, t.ns hns, rfl, ⟨k1, t.ns hns, ⟨mb, t.ns hb, hbb⟩, ⟨mc, t.ns l1, l2⟩⟩, fun b o e => of_hidT e, Nat.le_of_eq (hidT_size _ _), trivial, fun b z => absurd (show b ∈ ([] : List Addr) from z) (by simp), hok, .of_eq hg⟩
theorem law_callG {CX : CXT} {k : Nat} {fa : Addr} {fd : FuncData} {x : Str} {sp : Sp} {vs : List Value} {ns : List Int}
    (KX : K.In s.heap) (hns : s.heap.Ns mainGlobals mg) (hb : s.heap.Ns builtinsNs mb) (hbb : ∀ x : Str, x ≠ "__name__" → mb x = bootBuiltins x) (hlim : s.heap.NoLimit) (hg : s.gens = #[])
    (ha : s.heap.get? a = some { cls := .type "list", data := .seq vs.toArray }) (hi : IntsAre vs ns) (hl : ns.length ≤ sizeLine) (hr : Room k callerA)
    (F : ∀ base : Heap, K.In base → base.Ns mainGlobals mg → FnG P w K mg base CX k fa fd [x] sp) (hbind : ∀ (s : Shared) (u : Value), BindsTo s fd ⟨[u], []⟩ [(x, u)])
    (hsp : ∀ H : Hp, Only H → SqL K H a (ns.map V.int) → sp [.ref a] H (fun v _ => v = .bl true) fun _ _ _ => False) (hCX : ∀ H e s', CX [] H s (fun _ _ _ => False) e s' → False) :
    codeAny (model P w) callerA (.call (.ref fa) ⟨[.ref a], []⟩) (fun r s' => r = .ok (.ret (.bool true)) ∧ OldK s.heap s'.heap ∧ s'.os = s.os ∧ AllBare s'.gens) s := by
  have rv := vals_ints hi
  have run : ∀ H : Hp, TopH H s a vs.toArray → Only H → (∀ b u, H b = some u → K.lookup b = none) → SqL K H a (ns.map V.int) → HOk P w H s.heap →
      codeAny (model P w) callerA (.call (.ref fa) ⟨[.ref a], []⟩) (fun r s' => r = .ok (.ret (.bool true)) ∧ OldK s.heap s'.heap ∧ s'.os = s.os ∧ AllBare s'.gens) s := fun H t hO hk hS hok => by
    obtain ⟨b1, b2, e0⟩ := t.env KX hk hns hb hbb hlim hg hok
    refine codeAny_mono ((F _ b1 b2).go callerA [] s H ⟨[.ref a], []⟩ [.ref a] [.ref a] _ _ hr rfl e0 (hbind s (.ref a)) (.cons rfl .nil) (hsp H hO hS)) ?_
    intro r s' h
    match r, h with
    | .error e, h => exact (hCX H e s' h).elim
    | .ok .next, h => exact h.elim
    | .ok .brk, h => exact h.elim
    | .ok .cont, h => exact h.elim
    | .ok (.ret u), h =>
      obtain ⟨v, H', os, bare, un, hok', rv', rfl⟩ := h
      obtain rfl : u = Value.bool true := rv'
      refine ⟨rfl, OldK.of_keep ?_, os, bare⟩
      intro b o e
      cases q : H b with
      | none => exact un.keep b o e q (fun z => absurd (show b ∈ ([] : List Addr) from z) (by simp)) (by simp)
      | some u =>
        rcases hO b with z | ⟨ob, ys, z⟩
        · rw [q] at z; cases z
        · obtain ⟨e1, _⟩ := hok b _ z
          obtain ⟨e2, _⟩ := hok' b _ (un.frzs b ob _ z)
          rw [e] at e1
          cases e1
          exact e2
  cases hka : K.lookup a with
  | none =>
    have key : ∀ b u, (if b = a then some (HO.frz { cls := .type "list", data := .seq vs.toArray } (.lst (ns.map V.int))) else none) = some u → b = a ∧ u = HO.frz { cls := .type "list", data := .seq vs.toArray } (.lst (ns.map V.int)) := fun b u z => by
      split at z
      · rename_i hba
        cases z
        exact ⟨hba, rfl⟩
      · cases z
    refine run (fun b => if b = a then some (.frz { cls := .type "list", data := .seq vs.toArray } (.lst (ns.map V.int))) else none) ⟨fun b u z => (key b u z).1, ha⟩ (fun b => ?_) (fun b u z => (key b u z).1 ▸ hka) (.inl (.inr ⟨_, if_pos rfl⟩)) fun b u z => ?_
    · by_cases hba : b = a
      · exact .inr ⟨_, _, if_pos hba⟩
      · exact .inl (if_neg hba)
    · obtain ⟨rfl, rfl⟩ := key b u z
      exact ⟨ha, by rw [List.length_map]; exact hl, vs, _, rv, ha⟩
  | some o =>
    have e := KX a o hka
    rw [ha] at e
    cases e
    exact run (fun _ => none) ⟨fun b u z => (nomatch z), ha⟩ (fun b => .inl rfl) (fun b u z => (nomatch z)) (.inr ⟨_, vs.toArray, _, hka, rfl, rfl, rfl, by rw [List.size_toArray, hi.length]; exact hl, by simpa using rv⟩) fun b u z => (nomatch z)
theorem walk_ofG {l : PySem.W.OpenLaw} {n k : Nat} {q : Program} {loose : List Str} {XP : (Str → Option Value) → Heap → Prop} {YP : World → Heap → Prop} {d : DefRec} {CX : CXT} {x : Str}
    (hn : l.most = some n) (hn2 : n ≤ sizeLine) (hdf : d.params.defaults = []) (hr : Room k callerA)
    (F : ∀ (w : World) (mg : Str → Option Value) (fa : Addr) (h : Heap), YP w h → h.Ns mainGlobals mg → mg d.name = some (.ref fa) →
      ∃ (K : PySem.W.Frag) (fd : FuncData) (sp : Sp), K.In h ∧ (∀ (s : Shared) (u : Value), BindsTo s fd ⟨[u], []⟩ [(x, u)]) ∧
        (∀ (H : Hp) (a : Addr) (ns : List Int), ns.length ≤ n → Only H → SqL K H a (ns.map V.int) → sp [.ref a] H (fun v _ => v = .bl true) fun _ _ _ => False) ∧
        ∀ base : Heap, K.In base → base.Ns mainGlobals mg → FnG l.prog w K mg base CX k fa fd [x] sp)
    (hCX : ∀ (H : Hp) (s : Shared) (e : Value) (s' : Shared), CX [] H s (fun _ _ _ => False) e s' → False) :
    PySem.W.WalkO q loose XP YP l.row.toRowW d [] (fun f vs => PySem.call f vs) := by
  refine Att.attach_call hn hdf ?_
  intro w s₀ s₁ mg mb fa o pm cd doc a vs ns G Y ho hd hcd hmg hobj hints hlen hg
  obtain ⟨K, fd, sp, KX, hb, hsp, hF⟩ := F w mg fa _ Y G.T.g hmg
  exact law_callG KX G.T.g G.T.b G.T.builtins G.T.nolimit hg hobj hints (Nat.le_trans hlen hn2) hr hF hb (fun H hO hS => hsp H a ns hlen hO hS) fun H e s' => hCX H s₁ e s'
end
/-! ### the head in general -/
def toD (m : MDef) : He.DefD := ⟨(m.nm, none), m.nm, m.nm, defArgs m.st, defBody m.st, defScope m.st, [], []⟩
def faOf (g : GEnv) (Ms : List MDef) : List He.Fa := Ms.map (fun m => He.Fa.glo m.nm) ++ (g.bl.map He.Fa.free ++ g.gl.map fun p => match p.2 with
  | .int i => He.Fa.int p.1 i
  | .str z => He.Fa.str p.1 z
  | _ => He.Fa.free p.1)
/-- what the written part must say of the classes of refusals: of all that their names are bound, of those that are raised what they are -/
def xnB (K : PySem.W.Frag) (x : Str) : Bool := nameOk x && He.eqO (PySem.W.nsIn K mainGlobals x) (some (some (.ref (He.ga K x))))
def xfB (K : PySem.W.Frag) (rs : List Str) (c : Str) : Bool :=
  xnB K c && (PySem.W.excIn K (He.ga K c) He.veBase "ValueError.__new__" && (PySem.W.keepIn K (.ref (He.ga K c)) &&
    (decide (PySem.W.subIn K (.ref (He.ga K c)) (.type "BaseException") = some true) && (decide (PySem.W.typeIn K (.ref (He.ga K c)) = some (.type "type")) &&
    ((He.eqO (PySem.W.findIn K (.ref (He.ga K c)) "__getattribute__") (some (some (.builtin "BaseException.__getattribute__"))) && (He.eqO (PySem.W.findIn K (.ref (He.ga K c)) "__getattr__") (some none) && (PySem.W.hasDictIn K (He.ga K c) &&
      (He.eqO (PySem.W.findIn K (.ref (He.ga K c)) "__class__") (some (some (.builtin "object.__class__"))) && (He.eqO (PySem.W.specialIn K (.builtin "object.__class__") "__get__") (some (some (.builtin "getset_descriptor.__get__"))) &&
      (decide (PySem.W.takesIn K (.builtin "object.__class__") = some true) && decide (PySem.W.mroIn K (He.ga K c) (.type "object") = some true))))))) &&
    (rs.all (fun x => decide (PySem.W.kitOne K (.ref (He.ga K c)) (.ref (He.ga K x)) = some (xsub c x)) && decide (PySem.W.exmOne K (.ref (He.ga K c)) (.ref (He.ga K x)) = some (xsub c x))) &&
    decide (PySem.W.kitOne K (.ref (He.ga K c)) (.type "ValueError") = some true)))))))
def xfsB (xs rs : List Str) (K : PySem.W.Frag) : Bool := rs.all (xnB K) && xs.all (xfB K rs)
/-- a hook with the classes' facts -/
def obsV (n : Nat) (fa : List He.Fa) (fn : List He.DefD) (ex : PySem.W.Frag → Bool) (g : Addr → Option Obj) : He.AlD × Bool := (He.obsDG n fa fn g, ex (He.frG g (He.asD g n)))
def hookV (n : Nat) (fa : List He.Fa) (fn : List He.DefD) (ex : PySem.W.Frag → Bool) : PySem.W.Hook where
  α := He.AlD × Bool
  obs := fun s => obsV n fa fn ex s.heap.get?
  val := fun _ => (He.valD fn, true)
  says := fun _ h => ∃ K : PySem.W.Frag, K.In h ∧ He.SaysD fa fn K ∧ ex K = true
  of := fun _ _ e => ⟨_, He.frG_in, congrArg (fun z : He.AlD × Bool => z.1) e, congrArg (fun z : He.AlD × Bool => z.2) e⟩
  keeps := fun _ _ _ ⟨K, hK, c⟩ k => ⟨K, PySem.W.Frag.In.keeps hK k, c⟩
theorem obsV_eq {n : Nat} {fa : List He.Fa} {fn : List He.DefD} {ex : PySem.W.Frag → Bool} {g : Addr → Option Obj} {s : Shared} (h : ∀ a, g a = s.heap.get? a) : obsV n fa fn ex g = (hookV n fa fn ex).obs s := by
  have e : g = s.heap.get? := funext h
  rw [e] <;> rfl
section
variable {K : PySem.W.Frag} {h : Heap} {mg : Str → Option Value} {g : GEnv} {Ms : List MDef}
theorem head_xf (X : K.In h) (G : h.Ns mainGlobals mg) {xs rs : List Str} (c : xfsB xs rs K = true) : XFacts K mg xs rs := by
  obtain ⟨cn, cx⟩ := and2 c
  have nm : ∀ x, xnB K x = true → nameOk x = true ∧ mg x = some (.ref (He.ga K x)) := fun x h => ⟨(and2 h).1, PySem.W.mg_of X G (He.eqO_ok (and2 h).2)⟩
  refine ⟨fun x hx => ⟨(nm x (List.all_eq_true.mp cn x hx)).1, _, (nm x (List.all_eq_true.mp cn x hx)).2⟩, fun c hc => ?_⟩
  obtain ⟨h1, q⟩ := and2 (List.all_eq_true.mp cx c hc)
  obtain ⟨h3, q⟩ := and2 q
  obtain ⟨h4, q⟩ := and2 q
  obtain ⟨h5, q⟩ := and2 q
  obtain ⟨h6, q⟩ := and2 q
  obtain ⟨e, q⟩ := and2 q
  obtain ⟨h7, h8⟩ := and2 q
  obtain ⟨e1, e⟩ := and2 e
  obtain ⟨e2, e⟩ := and2 e
  obtain ⟨e3, e⟩ := and2 e
  obtain ⟨e4, e⟩ := and2 e
  obtain ⟨e5, e⟩ := and2 e
  obtain ⟨e6, e7⟩ := and2 e
  refine ⟨(nm c h1).1, He.ga K c, (nm c h1).2, h3, h4, of_decide_eq_true h5, of_decide_eq_true h6, ⟨He.eqO_ok e1, He.eqO_ok e2, of_decide_eq_true h5, e3, He.eqO_ok e4, He.eqO_ok e5, of_decide_eq_true e6, of_decide_eq_true e7⟩, fun x hx D' hg => ?_, of_decide_eq_true h8⟩
  have := (nm x (List.all_eq_true.mp cn x hx)).2.symm.trans hg
  cases this
  obtain ⟨g1, g2⟩ := and2 (List.all_eq_true.mp h7 x hx)
  exact ⟨of_decide_eq_true g1, of_decide_eq_true g2⟩
theorem fact_mem (c : He.SaysD (faOf g Ms) (Ms.map toD) K) {f : He.Fa} (hf : f ∈ faOf g Ms) : f.ok K = true := by
  obtain ⟨i, hi⟩ := List.getElem?_of_mem hf
  exact c.fact i hi
theorem head_defs (X : K.In h) (G : h.Ns mainGlobals mg) (c : He.SaysD (faOf g Ms) (Ms.map toD) K) (i : Nat) (m : MDef) (hm : Ms[i]? = some m) : ∃ fd, FunM K m (He.ga K m.nm) fd ∧ mg m.nm = some (.ref (He.ga K m.nm)) := by
  obtain ⟨fd, F⟩ := c.def_ i (d := toD m) (by rw [List.getElem?_map, hm]; rfl)
  refine ⟨fd, F, He.glo_ok X G (fact_mem c (List.mem_append_left _ ?_))⟩
  exact List.mem_map.mpr ⟨m, List.mem_of_getElem? hm, rfl⟩
theorem head_bl (X : K.In h) (G : h.Ns mainGlobals mg) (c : He.SaysD (faOf g Ms) (Ms.map toD) K) : ∀ x ∈ g.bl, mg x = none := fun x hx =>
  He.free_ok X G (fact_mem c (List.mem_append_right _ (List.mem_append_left _ (List.mem_map.mpr ⟨x, hx, rfl⟩))))
theorem head_gl (X : K.In h) (G : h.Ns mainGlobals mg) (c : He.SaysD (faOf g Ms) (Ms.map toD) K) : ∀ x d, g.gl.lookup x = some d → (∀ i, d = .int i → ∃ t, mg x = some (.int i t)) ∧ ∀ i, d = .str i → ∃ t, mg x = some (.str i t) := fun x d hx => by
  have hm := lookup_mem hx
  refine ⟨fun i e => ?_, fun i e => ?_⟩
  · subst e
    exact He.int_ok X G (fact_mem c (List.mem_append_right _ (List.mem_append_right _ (List.mem_map.mpr ⟨_, hm, rfl⟩))))
  · subst e
    exact He.str_ok X G (fact_mem c (List.mem_append_right _ (List.mem_append_right _ (List.mem_map.mpr ⟨_, hm, rfl⟩))))
end
end VL
/-! VM10: while; the first line of an order. -/
namespace VL
open PySem PySem.Spec L2
local macro_rules
  | `(tactic| simp?) => `(tactic| simp only [Sat_ok, Sat_bind, Sat_chk, Sat_ofO, Sat_noX, Sat_inEnv, varO_sh, varO_ow, varO_io, xE_var, xE_lit, xE_op, xE_neg, xE_cmp, xE_chn, xE_and, xE_or, xE_not, xE_ife, xE_tup, xE_lst, xE_dnew, xE_idx, xE_slc, xE_isi, xE_call, xE_blt, xE_rngL, xE_srt, xA_nil, xA_cons, xK_nil, xK_cons, xL_one, xL_cons, xO_none, xO_some, xC_none, xC_some, xI_seq, xI_rng, xI_enm, xI_rvd, setO_own, setO_dat, setO_slot, xS_set, xS_unp, xS_sub, xS_mut, xS_exp, xS_retN, xS_ret, xS_ife, xS_brk, xS_cnt, xS_pas, seqO_nx, seqO_rt, seqO_bk, seqO_ct, xB_nil, xB_cons, frc_dat, frc_own, frc_slot, esc_dat, esc_own, esc_slot, frcs_nil, frcs_cons, rdO_sh, rdO_ow, rdO_io, rd_O, escO_sh, escO_ow, escI_O, upO_ow, upO_io, upS_O, ioO_un, ioO_sh, ioO_ow, stS_O, lstO_ow, lstO_io, isLst_O, bindTg_one, bindTg_many, bindMany_nil, bindMany_cons, asInt_int, asBl_bl, op_add, op_sub, op_mul, op_fdiv, op_mod, op_pow, op_band, op_addL, op_addT, op_mulL, cm_lt, cm_le, cm_gt, cm_ge, eqv_int, cm_eqI, cm_neI, idx_lst, idx_tup, idx_scr, put_lst, mu_app, mu_ins, vb_lenL, vb_lenT, vb_lenS, vb_max2, vb_min2, vb_int1, vb_int1b, vb_list1, vb_list1t, vb_tuple1, vb_tuple1t, vb_divmod, vb_sum, vb_all, vb_sorted, slc_lst, rng_1, rng_2, seqOf_lst, seqOf_tup, seqOf_scr, cm_inT, cm_inL, cm_ninT, cm_ninL, cm_eqLI, cm_neLI, List.getElem?_cons_zero, List.getElem?_cons_succ, List.set_cons_zero, List.set_cons_succ, List.length_cons, List.length_nil, Bool.and_eq_true, Bool.or_eq_true, decide_eq_true_eq, Bool.not_eq_true', Option.some.injEq, exists_eq_left', Bool.not_true, Bool.not_false, and_true, true_and, Nat.zero_le, Int.reduceToNat, Int.reduceLT, Int.reduceLE, Int.reduceAdd, Int.reduceSub, Int.reducePow, Int.reduceMul, and_self, true_or, or_true, Nat.reducePow, Nat.zero_add, Nat.reduceAdd, Nat.reduceLT, Nat.reduceLeDiff, decide_true, Nat.reduceSub, beq_self_eq_true, reduceIte, Bool.true_and, Bool.and_true, List.cons_append, List.nil_append, List.zip_cons_cons, List.zip_nil_left, List.map_cons, List.map_nil, List.replicate, Bool.true_eq_false, Bool.false_eq_true, Tg.slots, xS_for, List.length_map, Int.natAbs_natCast, Int.toNat_natCast, rngIt_0, List.length_range, Bool.false_beq, Bool.true_beq, retR, iosOf, Option.map_some])
  | `(tactic| simp? [$ts,*]) => `(tactic| simp only [$ts,*, Sat_ok, Sat_bind, Sat_chk, Sat_ofO, Sat_noX, Sat_inEnv, varO_sh, varO_ow, varO_io, xE_var, xE_lit, xE_op, xE_neg, xE_cmp, xE_chn, xE_and, xE_or, xE_not, xE_ife, xE_tup, xE_lst, xE_dnew, xE_idx, xE_slc, xE_isi, xE_call, xE_blt, xE_rngL, xE_srt, xA_nil, xA_cons, xK_nil, xK_cons, xL_one, xL_cons, xO_none, xO_some, xC_none, xC_some, xI_seq, xI_rng, xI_enm, xI_rvd, setO_own, setO_dat, setO_slot, xS_set, xS_unp, xS_sub, xS_mut, xS_exp, xS_retN, xS_ret, xS_ife, xS_brk, xS_cnt, xS_pas, seqO_nx, seqO_rt, seqO_bk, seqO_ct, xB_nil, xB_cons, frc_dat, frc_own, frc_slot, esc_dat, esc_own, esc_slot, frcs_nil, frcs_cons, rdO_sh, rdO_ow, rdO_io, rd_O, escO_sh, escO_ow, escI_O, upO_ow, upO_io, upS_O, ioO_un, ioO_sh, ioO_ow, stS_O, lstO_ow, lstO_io, isLst_O, bindTg_one, bindTg_many, bindMany_nil, bindMany_cons, asInt_int, asBl_bl, op_add, op_sub, op_mul, op_fdiv, op_mod, op_pow, op_band, op_addL, op_addT, op_mulL, cm_lt, cm_le, cm_gt, cm_ge, eqv_int, cm_eqI, cm_neI, idx_lst, idx_tup, idx_scr, put_lst, mu_app, mu_ins, vb_lenL, vb_lenT, vb_lenS, vb_max2, vb_min2, vb_int1, vb_int1b, vb_list1, vb_list1t, vb_tuple1, vb_tuple1t, vb_divmod, vb_sum, vb_all, vb_sorted, slc_lst, rng_1, rng_2, seqOf_lst, seqOf_tup, seqOf_scr, cm_inT, cm_inL, cm_ninT, cm_ninL, cm_eqLI, cm_neLI, List.getElem?_cons_zero, List.getElem?_cons_succ, List.set_cons_zero, List.set_cons_succ, List.length_cons, List.length_nil, Bool.and_eq_true, Bool.or_eq_true, decide_eq_true_eq, Bool.not_eq_true', Option.some.injEq, exists_eq_left', Bool.not_true, Bool.not_false, and_true, true_and, Nat.zero_le, Int.reduceToNat, Int.reduceLT, Int.reduceLE, Int.reduceAdd, Int.reduceSub, Int.reducePow, Int.reduceMul, and_self, true_or, or_true, Nat.reducePow, Nat.zero_add, Nat.reduceAdd, Nat.reduceLT, Nat.reduceLeDiff, decide_true, Nat.reduceSub, beq_self_eq_true, reduceIte, Bool.true_and, Bool.and_true, List.cons_append, List.nil_append, List.zip_cons_cons, List.zip_nil_left, List.map_cons, List.map_nil, List.replicate, Bool.true_eq_false, Bool.false_eq_true, Tg.slots, xS_for, List.length_map, Int.natAbs_natCast, Int.toNat_natCast, rngIt_0, List.length_range, Bool.false_beq, Bool.true_beq, retR, iosOf, Option.map_some])
def WhP (I : EnvD → Prop) (Q : Out → Prop) (z : Bool × Out) : Prop := match z.1 with
  | true => FoP I Q z.2
  | false => Q z.2
@[simp] theorem WhP_t {I : EnvD → Prop} {Q : Out → Prop} {o : Out} : WhP I Q (true, o) = FoP I Q o := rfl
@[simp] theorem WhP_f {I : EnvD → Prop} {Q : Out → Prop} {o : Out} : WhP I Q (false, o) = Q o := rfl
theorem whileN_sat {turn : EnvD → Res (Bool × Out)} (I : Nat → EnvD → Prop) {Q : Out → Prop} (hs : ∀ m e, I m e → Sat (turn e) (WhP (fun e' => ∃ m', m' < m ∧ I m' e') Q)) :
    ∀ (n m : Nat) (e : EnvD), m < n → I m e → Sat (whileN turn n e) Q
  | 0, m, e, h, _ => absurd h (Nat.not_lt_zero m)
  | n + 1, m, e, h, hI => by
    show Sat (turn e >>= _) Q
    refine Sat.bind (hs m e hI) fun z hz => ?_
    obtain ⟨go, o⟩ := z
    cases go with
    | false => exact ⟨_, rfl, hz⟩
    | true =>
      have hz : FoP (fun e' => ∃ m', m' < m ∧ I m' e') Q o := hz
      cases o with
      | nx e' => obtain ⟨m', h1, h2⟩ := hz; exact whileN_sat I hs n m' e' (by omega) h2
      | ct e' => obtain ⟨m', h1, h2⟩ := hz; exact whileN_sat I hs n m' e' (by omega) h2
      | bk e' => exact ⟨_, rfl, hz⟩
      | rt r e' => exact ⟨_, rfl, hz⟩
section
variable {T : Tb}
theorem whl_sat {t : CE} {b : List CS} {env : EnvD} (I : Nat → EnvD → Prop) (m : Nat) {Q : Out → Prop} (hm : m < 1000000000000) (h0 : I m env) (hs : ∀ m e, I m e → Sat (whT T t b e) (WhP (fun e' => ∃ m', m' < m ∧ I m' e') Q)) : Sat (runS T (.whl t b) env) Q := by
  rw [xS_whl]
  exact whileN_sat I hs _ m env hm h0
def fProper : Def := ⟨[false, false], 3, [.ret (some (.lc (.var 2) (.one 2) (.seq (.idx (.var 0) (.var 1))) (some (.cmp .ne (.var 2) (.var 1)))))]⟩
def properL (o : List (List Int)) (p : Nat) : List Int := (rowO o p).filter fun i => !decide (i = (p : Int))
structure ProperS (T : Tb) (i : Nat) : Prop where
  fl : T.fl i = [false, false]
  run : ∀ (o : List (List Int)) (p : Nat), p < o.length → (rowO o p).length ≤ 1000 → Sat (T.call i [oI o, .int p]) fun q => q = ⟨true, lI (properL o p), []⟩
theorem proper_sat {o : List (List Int)} {p : Nat} (hp : p < o.length) (hl : (rowO o p).length ≤ 1000) : Sat (runDef T fProper [oI o, .int p]) fun q => q = ⟨true, lI (properL o p), []⟩ := by
  refine runDef_sat rfl (by decide) ?_
  show Sat (runB T fProper.body [.sh (oI o), .sh (.int p), .un]) _
  simp? [fProper]
  refine Sat.mono (lc_pure (as := rowO o p) (ea := D.int) (p := fun i => !decide (i = (p : Int))) (g := id) (fe := D.int) (s := .un) rfl (.inl rfl) ?_ (by unfold SL; omega) (fun x hx => ?_) fun x hx _ => ?_) ?_
  · simp? [atI_row hp]
  · simp?
  · simp?
    exact .inl rfl
  · rintro z rfl
    simp? [List.map_id]
    rfl
/-- the points of a row, but itself, have a lesser rank -/
def Acyc (o : List (List Int)) : Prop := ∃ ρ : Nat → Int, ∀ p < o.length, ∀ i ∈ rowO o p, i ≠ (p : Int) → ρ i.toNat < ρ p
def rdy (o : List (List Int)) (found : List Int) (p : Nat) : Bool := !decide ((p : Int) ∈ found) && (properL o p).all fun i => decide (i ∈ found)
def readyL (o : List (List Int)) (found : List Int) (k : Nat) : List Int := ((List.range k).filter (rdy o found)).map Int.ofNat
theorem readyL_succ (o : List (List Int)) (found : List Int) (k : Nat) : readyL o found (k + 1) = readyL o found k ++ if rdy o found k = true then [(k : Int)] else [] := by
  unfold readyL
  rw [List.range_succ, List.filter_append, List.map_append]
  by_cases h : rdy o found k = true <;> simp [h]
/-- a line begun: unlike points, each behind those of its row -/
structure Begun (o : List (List Int)) (found : List Int) : Prop where
  nd : found.Nodup
  rg : ∀ i ∈ found, 0 ≤ i ∧ i < (o.length : Int)
  dn : ∀ (j : Nat) (i : Int), found[j]? = some i → ∀ x ∈ properL o i.toNat, x ∈ found.take j
theorem ready_some {o : List (List Int)} {found : List Int} (ha : Acyc o) (hr : Rows o.length o) (b : Begun o found) (hl : found.length < o.length) : readyL o found o.length ≠ [] := by
  obtain ⟨ρ, hρ⟩ := ha
  -- a point not found yet
  have ex : ∃ p, p < o.length ∧ (p : Int) ∉ found := by
    refine Classical.byContradiction fun hc => ?_
    have hall : ∀ p, p < o.length → (p : Int) ∈ found := fun p hp => Classical.byContradiction fun h => hc ⟨p, hp, h⟩
    have h2 : ((List.range o.length).map Int.ofNat).length ≤ found.length := by
      have key : ∀ (l : List Int) (m : List Int), l.Nodup → (∀ x ∈ l, x ∈ m) → l.length ≤ m.length := by
        intro l
        induction l with
        | nil => intro m _ _; exact Nat.zero_le _
        | cons x l ih =>
          intro m hn hs
          obtain ⟨n1, n2⟩ := List.nodup_cons.mp hn
          have hx := hs x List.mem_cons_self
          have := ih (m.erase x) n2 fun y hy => by
            have hne : y ≠ x := fun z => n1 (z ▸ hy)
            exact (List.mem_erase_of_ne hne).mpr (hs y (List.mem_cons_of_mem _ hy))
          rw [List.length_erase_of_mem hx] at this
          have : 0 < m.length := List.length_pos_of_mem hx
          rw [List.length_cons]
          omega
      refine key _ _ (List.pairwise_map.mpr (List.nodup_range.imp fun hne z => hne (Int.ofNat.inj z))) fun x hx => ?_
      obtain ⟨p, hp, rfl⟩ := List.mem_map.mp hx
      exact hall p (List.mem_range.mp hp)
    rw [List.length_map, List.length_range] at h2
    omega
  -- the one of least rank among these
  have min : ∀ (l : List Nat), l ≠ [] → ∃ p ∈ l, ∀ x ∈ l, ρ p ≤ ρ x := by
    intro l
    induction l with
    | nil => intro h; exact absurd rfl h
    | cons x l ih =>
      intro _
      by_cases hl : l = []
      · subst hl; exact ⟨x, List.mem_cons_self, fun y hy => by rw [List.mem_singleton.mp hy]; exact Int.le_refl _⟩
      · obtain ⟨p, hp, hm⟩ := ih hl
        by_cases hxp : ρ x ≤ ρ p
        · refine ⟨x, List.mem_cons_self, fun y hy => ?_⟩
          rcases List.mem_cons.mp hy with rfl | hy
          · exact Int.le_refl _
          · have := hm y hy; omega
        · refine ⟨p, List.mem_cons_of_mem _ hp, fun y hy => ?_⟩
          rcases List.mem_cons.mp hy with rfl | hy
          · omega
          · exact hm y hy
  obtain ⟨p0, hp0, hn0⟩ := ex
  obtain ⟨p, hp, hm⟩ := min ((List.range o.length).filter fun p : Nat => !decide ((p : Int) ∈ found)) (by
    intro z
    have : p0 ∈ (List.range o.length).filter fun p : Nat => !decide ((p : Int) ∈ found) := List.mem_filter.mpr ⟨List.mem_range.mpr hp0, by simp [hn0]⟩
    rw [z] at this; cases this)
  obtain ⟨hp1, hp2⟩ := List.mem_filter.mp hp
  have hp1 := List.mem_range.mp hp1
  have hr0 : rdy o found p = true := by
    unfold rdy
    rw [Bool.and_eq_true]
    refine ⟨hp2, List.all_eq_true.mpr fun i hi => decide_eq_true ?_⟩
    obtain ⟨hi1, hi2⟩ := List.mem_filter.mp hi
    refine Classical.byContradiction fun hni => ?_
    have hb := (hr _ (rowO_mem hp1)).2 i hi1
    have hne : i ≠ (p : Int) := by simpa using hi2
    have hlt := hρ p hp1 i hi1 hne
    have hit : ((i.toNat : Nat) : Int) = i := by omega
    have := hm i.toNat (List.mem_filter.mpr ⟨List.mem_range.mpr (by omega), by rw [hit]; simp [hni]⟩)
    omega
  intro z
  have : (p : Int) ∈ readyL o found o.length := List.mem_map.mpr ⟨p, List.mem_filter.mpr ⟨List.mem_range.mpr hp1, hr0⟩, rfl⟩
  rw [z] at this; cases this
theorem begun_nil (o : List (List Int)) : Begun o [] := ⟨List.nodup_nil, fun i h => (by cases h), fun j i h => (by simp at h)⟩
theorem begun_add {o : List (List Int)} {found : List Int} (b : Begun o found) {p : Int} (hp : p ∈ readyL o found o.length) : Begun o (found ++ [p]) := by
  obtain ⟨q, hq, rfl⟩ := List.mem_map.mp hp
  obtain ⟨hq1, hq2⟩ := List.mem_filter.mp hq
  have hq1 := List.mem_range.mp hq1
  obtain ⟨h1, h2⟩ := and2 hq2
  have h1 : (q : Int) ∉ found := by simpa using h1
  refine ⟨List.nodup_append.mpr ⟨b.nd, by simp, fun x hx y hy z => ?_⟩, fun i hi => ?_, fun j i hj x hx => ?_⟩
  · subst z
    exact h1 (by rw [List.mem_singleton.mp hy] at hx; exact hx)
  · rcases List.mem_append.mp hi with hi | hi
    · exact b.rg i hi
    · rw [List.mem_singleton.mp hi]
      exact ⟨Int.natCast_nonneg q, Int.ofNat_lt.mpr hq1⟩
  · by_cases hjl : j < found.length
    · rw [List.getElem?_append_left hjl] at hj
      rw [List.take_append_of_le_length (by omega)]
      exact b.dn j i hj x hx
    · have hje : j = found.length := by
        have := (List.getElem?_eq_some_iff.mp hj).1
        rw [List.length_append, List.length_singleton] at this
        omega
      subst hje
      rw [List.getElem?_append_right (Nat.le_refl _), Nat.sub_self] at hj
      cases hj
      rw [List.take_append_of_le_length (Nat.le_refl _), List.take_length]
      exact of_decide_eq_true (List.all_eq_true.mp h2 x hx)
def fFirst (cp : Nat) : Def := ⟨[false], 5,
  [.set 1 (.lst []),
   .whl (.cmp .lt (.blt .len [.var 1]) (.blt .len [.var 0])) [.set 2 (.lst []), .for (.one 3) (.rng [.blt .len [.var 0]]) [.ife (.andb [.cmp .notin (.var 3) (.var 1), .blt .all [.lc (.cmp .isin (.var 4) (.var 1)) (.one 4) (.seq (.call cp [.var 0, .var 3])) none]]) [.mut .append 2 [.var 3]] []], .mut .append 1 [.blt .min1 [.var 2]]],
   .ret (some (.blt .tuple1 [.var 1]))]⟩
/-- the answer: all points, each behind those of its row -/
structure Line (o : List (List Int)) (l : List Int) : Prop extends Begun o l where
  len : l.length = o.length
theorem bf_min1' {ns : List Int} : bfD .min1 [.lst (ns.map D.int)] = (chk (decide (0 < ns.length)) >>= fun _ => .ok (.dat (.int (minI ns)))) := by
  show (ofO ((ns.map D.int).mapM asInt) >>= fun ns => chk (decide (0 < ns.length)) >>= fun _ => Res.ok (R.dat (.int (minI ns)))) = _
  rw [mapM_ints]; rfl
theorem first_sat {cp : Nat} (hP : ProperS T cp) {o : List (List Int)} (hl : o.length ≤ 1000) (hr : Rows o.length o) (ha : Acyc o) : Sat (runDef T (fFirst cp) [oI o]) fun q => ∃ l, q = ⟨false, tI l, []⟩ ∧ Line o l := by
  refine runDef_sat rfl (by simp [fFirst]) ?_
  show Sat (runB T (fFirst cp).body [.sh (oI o), .un, .un, .un, .un]) _
  simp? [fFirst]
  refine Sat.mono (whl_sat (I := fun m e => ∃ found s2 s3 s4, ioO (some s2) = false ∧ Fr1 s3 ∧ Fr1 s4 ∧ e = [.sh (oI o), .ow (lI found), s2, s3, s4] ∧ m = o.length - found.length ∧ Begun o found ∧ found.length ≤ o.length) o.length
    (Q := fun o' => ∃ found s2 s3 s4, o' = .nx [.sh (oI o), .ow (lI found), s2, s3, s4] ∧ Line o found) (by omega) ⟨[], .un, .un, .un, rfl, .inl rfl, .inl rfl, rfl, rfl, begun_nil o, Nat.zero_le _⟩ ?_) ?_
  · rintro m e ⟨found, s2, s3, s4, i2, f3, f4, rfl, rfl, hb, hfl⟩
    simp? [whT]
    refine Sat_ite.mpr ⟨fun hlt => ?_, fun hge => ?_⟩
    · have hlt : found.length < o.length := by omega
      simp? [i2]
      refine ⟨by omega, ?_⟩
      refine Sat.mono (forL_sat (I := fun k e => ∃ s3 s4, Fr1 s3 ∧ Fr1 s4 ∧ e = [.sh (oI o), .ow (lI found), .ow (lI (readyL o found k)), s3, s4]) (Q := fun o' => ∃ s3 s4, Fr1 s3 ∧ Fr1 s4 ∧ o' = .nx [.sh (oI o), .ow (lI found), .ow (lI (readyL o found o.length)), s3, s4]) ⟨s3, s4, f3, f4, rfl⟩ ?_ ?_) ?_
      · rintro k x e hx ⟨s3, s4, f3, f4, rfl⟩
        obtain ⟨rfl, hk⟩ := rng_at hx
        obtain ⟨g1, g2⟩ := hr _ (rowO_mem hk)
        have gl := nodup_len g1 g2
        have pl : (properL o k).length ≤ 1000 := by
          unfold properL
          have := List.length_filter_le (fun i => !decide (i = (k : Int))) (rowO o k)
          omega
        show Sat (bindTg _ (.one 3) (.int k) >>= fun e => runB T _ e) _
        refine Sat.bind (P := fun e' => e' = [.sh (oI o), .ow (lI found), .ow (lI (readyL o found k)), .sh (.int k), s4]) (by simp? [ioO_free f3]) fun e' he => ?_
        subst he
        have hc : Sat (runE T (.andb [.cmp .notin (.var 3) (.var 1), .blt .all [.lc (.cmp .isin (.var 4) (.var 1)) (.one 4) (.seq (.call cp [.var 0, .var 3])) none]]) [.sh (oI o), .ow (lI found), .ow (lI (readyL o found k)), .sh (.int k), s4]) fun p => p = (.dat (.bl (rdy o found k)), [.sh (oI o), .ow (lI found), .ow (lI (readyL o found k)), .sh (.int k), s4]) := by
          by_cases hkf : (k : Int) ∈ found
          · have h0 : rdy o found k = false := by unfold rdy; simp [hkf]
            simp? [h0, hkf]
          · have h0 : rdy o found k = (properL o k).all fun i => decide (i ∈ found) := by unfold rdy; simp [hkf]
            simp? [h0, hkf, decide_false]
            refine Sat.mono (lc_all (as := properL o k) (ea := D.int) (g := fun i => decide (i ∈ found)) (fe := D.bl) (s := s4) rfl f4 ?_ (by unfold SL; omega) fun i hi => ?_) ?_
            · simp?
              refine callR_dat hP.fl (by simp) rfl rfl rfl (hP.run o k hk (by omega)) fun q hq => ?_
              subst hq
              refine ⟨rfl, ?_⟩
              simp? [resR]
            · simp?
            · rintro z rfl
              simp?
              rw [List.all_map]
              rfl
        refine runB_one (ife_sat (hc.mono ?_))
        rintro p rfl
        refine ⟨_, _, rfl, fun h1 => ?_, fun h1 => ?_⟩
        · have rl : (readyL o found k).length ≤ 1000 := by
            unfold readyL
            rw [List.length_map]
            have := List.length_filter_le (rdy o found) (List.range k)
            rw [List.length_range] at this
            omega
          simp?
          refine ⟨by unfold SL; omega, .sh (.int k), s4, .inr ⟨_, rfl⟩, f4, ?_⟩
          rw [readyL_succ, if_pos h1]
          simp only [lI, List.map_append, List.map_cons, List.map_nil]
        · refine ⟨_, rfl, .sh (.int k), s4, .inr ⟨_, rfl⟩, f4, ?_⟩
          rw [readyL_succ, if_neg (by rw [h1]; exact Bool.false_ne_true), List.append_nil]
      · rintro e ⟨s3, s4, f3, f4, rfl⟩
        rw [List.length_map, List.length_range]
        exact ⟨s3, s4, f3, f4, rfl⟩
      · rintro o' ⟨s3, s4, f3, f4, rfl⟩
        have hne := ready_some ha hr hb hlt
        have hpos : 0 < (readyL o found o.length).length := List.length_pos_iff.mpr hne
        have hmem := (minI_spec hpos).1
        simp? [bf_min1', hpos]
        refine ⟨by unfold SL; omega, o.length - (found.length + 1), by omega, found ++ [minI (readyL o found o.length)], .ow (lI (readyL o found o.length)), s3, s4, rfl, f3, f4, ?_, by rw [List.length_append, List.length_singleton], begun_add hb hmem, by rw [List.length_append, List.length_singleton]; omega⟩
        simp only [lI, List.map_append, List.map_cons, List.map_nil]
    · simp? [WhP_f]
      exact ⟨found, s2, s3, s4, rfl, { hb with len := by omega }⟩
  · rintro o' ⟨found, s2, s3, s4, rfl, hb⟩
    simp?
    exact ⟨found, rfl, hb⟩
end
end VL
/-! VM11: sums taken back. -/
namespace VL
open PySem PySem.Spec L2
section
variable {T : Tb}
structure FirstS (T : Tb) (i : Nat) : Prop where
  fl : T.fl i = [false]
  run : ∀ o, o.length ≤ 1000 → Rows o.length o → Acyc o → Sat (T.call i [oI o]) fun q => ∃ l, q = ⟨false, tI l, []⟩ ∧ Line o l
theorem gV_set {w : List Int} {p : Nat} {x : Int} (hp : p < w.length) (i : Int) (h0 : 0 ≤ i) : gV (w.set p x) i = if i = (p : Int) then x else gV w i := by
  unfold gV
  rw [List.getD_eq_getElem?_getD, List.getD_eq_getElem?_getD]
  by_cases h : i = (p : Int)
  · subst h
    rw [if_pos rfl, Int.toNat_natCast, List.getElem?_set_self hp]
    rfl
  · rw [if_neg h, List.getElem?_set_ne (by omega)]
theorem take_mono {l : List Int} {s t : Nat} (h : s ≤ t) {x : Int} (hx : x ∈ l.take s) : x ∈ l.take t := by
  have : l.take s = (l.take t).take s := by rw [List.take_take, Nat.min_eq_left h]
  rw [this] at hx
  exact List.mem_of_mem_take hx
theorem line_all {o : List (List Int)} {l : List Int} (hL : Line o l) {p : Nat} (hp : p < o.length) : ∃ s : Nat, l[s]? = some (p : Int) := by
  refine Classical.byContradiction fun hc => ?_
  have hn : (p : Int) ∉ l := fun h => hc (List.getElem?_of_mem h)
  have hb : ∀ i ∈ (p : Int) :: l, 0 ≤ i ∧ i < (o.length : Int) := fun i hi => by
    rcases List.mem_cons.mp hi with rfl | hi
    · omega
    · exact hL.rg i hi
  have := nodup_len (List.nodup_cons.mpr ⟨hn, hL.nd⟩) hb
  rw [List.length_cons, hL.len] at this
  omega
end
end VL
/-! VM12: what is drawn is an order. -/
namespace VL
open PySem PySem.Spec L2
theorem rowO_set {rows : List (List Int)} {h : Nat} {r : List Int} (hh : h < rows.length) (p : Nat) : rowO (rows.set h r) p = if p = h then r else rowO rows p := by
  unfold rowO
  rw [List.getD_eq_getElem?_getD, List.getD_eq_getElem?_getD]
  by_cases e : p = h
  · subst e
    rw [if_pos rfl, List.getElem?_set_self hh]
    rfl
  · rw [if_neg e, List.getElem?_set_ne (Ne.symm e)]
/-- an order of n points, by ranks -/
structure OrdBy (ρ : Nat → Int) (n : Nat) (rows : List (List Int)) : Prop where
  len : rows.length = n
  rws : Rows n rows
  rfl' : ∀ p < n, (p : Int) ∈ rowO rows p
  lt : ∀ p < n, ∀ i ∈ rowO rows p, i ≠ (p : Int) → ρ i.toNat < ρ p
  tr : ∀ p < n, ∀ i ∈ rowO rows p, ∀ x ∈ rowO rows i.toNat, x ∈ rowO rows p
theorem OrdBy.acyc {ρ : Nat → Int} {n : Nat} {rows : List (List Int)} (O : OrdBy ρ n rows) : Acyc rows := ⟨ρ, fun p hp => O.lt p (by rw [← O.len]; exact hp)⟩
/-- rows put in order are the same rows -/
theorem rowO_sort (rows : List (List Int)) (p : Nat) : rowO (rowFn rows) p = sortI (rowO rows p) := by
  unfold rowO rowFn
  rw [List.getD_eq_getElem?_getD, List.getD_eq_getElem?_getD, List.getElem?_map]
  cases rows[p]? with
  | none => rfl
  | some r => rfl
theorem OrdBy.sort {ρ : Nat → Int} {n : Nat} {rows : List (List Int)} (O : OrdBy ρ n rows) : OrdBy ρ n (rowFn rows) := by
  have m : ∀ {p : Nat} {x : Int}, x ∈ rowO (rowFn rows) p ↔ x ∈ rowO rows p := fun {p x} => by rw [rowO_sort]; exact (sortI_perm _).mem_iff
  exact ⟨by unfold rowFn; rw [List.length_map]; exact O.len, rows_sort O.rws, fun p hp => m.mpr (O.rfl' p hp), fun p hp i hi => O.lt p hp i (m.mp hi), fun p hp i hi x hx => m.mpr (O.tr p hp i (m.mp hi) x (m.mp hx))⟩
theorem up_range (n : Nat) (p : Nat → Bool) : (((List.range n).filter p).map Int.ofNat).Pairwise (· < ·) := by
  refine List.pairwise_map.mpr ((List.pairwise_lt_range.filter p).imp fun h => ?_)
  exact Int.ofNat_lt.mpr h
/-- each row in order of size -/
def Up (o : List (List Int)) : Prop := ∀ r ∈ o, r.Pairwise (· < ·)
theorem up_sort {r : List Int} (h : r.Nodup) : (sortI r).Pairwise (· < ·) := by
  have h1 := sortI_sorted r
  have h2 := (sortI_perm r).nodup_iff.mpr h
  refine (h1.and h2).imp fun ⟨a, b⟩ => ?_
  omega
theorem up_rowFn {n : Nat} {o : List (List Int)} (h : Rows n o) : Up (rowFn o) := by
  intro r hr
  obtain ⟨r0, h0, rfl⟩ := List.mem_map.mp hr
  exact up_sort (h r0 h0).1
/-- an order of n points, by ranks, its rows rising -/
structure OrdU (ρ : Nat → Int) (n : Nat) (rows : List (List Int)) : Prop extends OrdBy ρ n rows where
  up : Up rows
end VL
/-! VM13: what is drawn is an order, worked out. -/
namespace VL
open PySem PySem.Spec L2
section
variable {T : Tb}
open Classical in
/-- where a point stands -/
noncomputable def rankIn (here : List Int) (p : Nat) : Int := if h : ∃ k : Nat, here[k]? = some (p : Int) then (Classical.choose h : Nat) else 0
theorem nodup_at {l : List Int} (hn : l.Nodup) {i j : Nat} {x : Int} (h1 : l[i]? = some x) (h2 : l[j]? = some x) : i = j := by
  rcases Nat.lt_trichotomy i j with h | h | h
  · exact absurd (List.mem_of_getElem? (i := i) (by rw [List.getElem?_take_of_lt h]; exact h1)) (nodup_take hn h2)
  · exact h
  · exact absurd (List.mem_of_getElem? (i := j) (by rw [List.getElem?_take_of_lt h]; exact h2)) (nodup_take hn h1)
theorem rankIn_of {here : List Int} (hn : here.Nodup) {k p : Nat} (h : here[k]? = some (p : Int)) : rankIn here p = k := by
  unfold rankIn
  have ex : ∃ k : Nat, here[k]? = some (p : Int) := ⟨k, h⟩
  rw [dif_pos ex, nodup_at hn (Classical.choose_spec ex) h]
theorem row_start {n q : Nat} (hq : q < n) : rowO ((List.range n).map fun k : Nat => [(k : Int)]) q = [(q : Int)] := by
  unfold rowO
  rw [List.getD_eq_getElem?_getD, List.getElem?_map, List.getElem?_range hq]
  rfl
end
end VL
/-! VM15: sums and what they come of. -/
namespace VL
open PySem PySem.Spec L2
theorem rowO_turn {o : List (List Int)} {p : Nat} (hp : p < o.length) : rowO (turnI o) p = turnRow o p := by
  unfold rowO turnI
  rw [List.getD_eq_getElem?_getD, List.getElem?_map, List.getElem?_range hp]
  rfl
theorem mem_turn {o : List (List Int)} {p : Nat} {i : Int} : i ∈ turnRow o p ↔ ∃ h : Nat, i = h ∧ h < o.length ∧ (p : Int) ∈ rowO o h := by
  unfold turnRow
  rw [List.mem_map]
  constructor
  · rintro ⟨h, hh, rfl⟩
    obtain ⟨h1, h2⟩ := List.mem_filter.mp hh
    exact ⟨h, rfl, List.mem_range.mp h1, of_decide_eq_true h2⟩
  · rintro ⟨h, rfl, h1, h2⟩
    exact ⟨h, List.mem_filter.mpr ⟨List.mem_range.mpr h1, decide_eq_true h2⟩, rfl⟩
theorem OrdBy.turn {ρ : Nat → Int} {o : List (List Int)} (O : OrdBy ρ o.length o) : OrdBy (fun p => - ρ p) (turnI o).length (turnI o) := by
  rw [turn_len]
  refine ⟨turn_len o, fun r hr => ?_, fun p hp => ?_, fun p hp i hi ne => ?_, fun p hp i hi x hx => ?_⟩
  · obtain ⟨p, hp, rfl⟩ := List.mem_map.mp hr
    refine ⟨List.pairwise_map.mpr ((List.nodup_range.filter _).imp fun hne z => hne (Int.ofNat.inj z)), fun i hi => ?_⟩
    obtain ⟨h, rfl, hh, _⟩ := mem_turn.mp hi
    omega
  · rw [rowO_turn hp]
    exact mem_turn.mpr ⟨p, rfl, hp, O.rfl' p hp⟩
  · rw [rowO_turn hp] at hi
    obtain ⟨h, rfl, hh, hm⟩ := mem_turn.mp hi
    have := O.lt h hh (p : Int) hm (fun z => ne z.symm)
    rw [Int.toNat_natCast] at this
    show - ρ ((h : Int).toNat) < - ρ p
    rw [Int.toNat_natCast]
    omega
  · rw [rowO_turn hp] at hi ⊢
    obtain ⟨h, rfl, hh, hm⟩ := mem_turn.mp hi
    rw [Int.toNat_natCast, rowO_turn hh] at hx
    obtain ⟨g, rfl, hg, hm2⟩ := mem_turn.mp hx
    exact mem_turn.mpr ⟨g, rfl, hg, O.tr g hg (h : Int) hm2 (p : Int) (by rw [Int.toNat_natCast]; exact hm)⟩
theorem up_turn (o : List (List Int)) : Up (turnI o) := by
  intro r hr
  obtain ⟨p, _, rfl⟩ := List.mem_map.mp hr
  exact up_range _ _
theorem OrdU.turn {ρ : Nat → Int} {o : List (List Int)} (O : OrdU ρ o.length o) : OrdU (fun p => - ρ p) (turnI o).length (turnI o) := ⟨O.toOrdBy.turn, up_turn o⟩
end VL
/-! VM16: law k10. -/
namespace VL
open PySem PySem.Spec L2
/-- an order, of at most a hundred points -/
def IsOrd (o : List (List Int)) : Prop := o.length ≤ 100 ∧ ∃ ρ, OrdU ρ o.length o
theorem IsOrd.turn {o : List (List Int)} (h : IsOrd o) : IsOrd (turnI o) := by
  obtain ⟨h1, ρ, O⟩ := h
  exact ⟨by rw [turn_len]; exact h1, _, O.turn⟩
theorem IsOrd.good {o : List (List Int)} (h : IsOrd o) : Good o := by
  obtain ⟨h1, ρ, O⟩ := h
  exact good_of (by omega) O.rws
section
variable {T : Tb}
end
end VL
/-! VN1: shorter ways: loops, comprehensions, calls. -/
namespace VL
open PySem PySem.Spec L2
/-- a slot that may be set anew -/
structure Jk where
  s : Slot
  h : ioO (some s) = false
def Jk.un : Jk := ⟨.un, rfl⟩
def Jk.sh (d : D) : Jk := ⟨.sh d, rfl⟩
def Jk.ow (d : D) : Jk := ⟨.ow d, rfl⟩
/-- a slot that may be a name of a comprehension -/
structure Fk where
  s : Slot
  h : Fr1 s
def Fk.un : Fk := ⟨.un, .inl rfl⟩
def Fk.sh (d : D) : Fk := ⟨.sh d, .inr ⟨d, rfl⟩⟩
theorem jk_io (j : Jk) : ioO (some j.s) = false := j.h
theorem fk_io (j : Fk) : ioO (some j.s) = false := ioO_free j.h
section
variable {T : Tb} {α : Type}
theorem for_map {turn : EnvD → D → Res Out} {as : List α} {f : α → D} {env : EnvD} (I : Nat → EnvD → Prop) {Q : Out → Prop} (h0 : I 0 env) (hs : ∀ k a e, as[k]? = some a → I k e → Sat (turn e (f a)) (FoP (I (k + 1)) Q)) (hq : ∀ e, I as.length e → Q (.nx e)) : Sat (forL turn (as.map f) env) Q :=
  forL_sat I h0 (fun k x e hx h => by obtain ⟨a, ha, rfl⟩ := map_at hx; exact hs k a e ha h) (by rw [List.length_map]; exact hq)
theorem for_rng {turn : EnvD → D → Res Out} {n : Nat} {env : EnvD} (I : Nat → EnvD → Prop) {Q : Out → Prop} (h0 : I 0 env) (hs : ∀ k e, k < n → I k e → Sat (turn e (.int k)) (FoP (I (k + 1)) Q)) (hq : ∀ e, I n e → Q (.nx e)) : Sat (forL turn ((List.range n).map nI) env) Q :=
  forL_sat I h0 (fun k x e hx h => by obtain ⟨rfl, hk⟩ := rng_at hx; exact hs k e hk h) (by rw [List.length_map, List.length_range]; exact hq)
/-- a loop whose turns each may be taken by themselves -/
theorem for_all {turn : EnvD → D → Res Out} {as : List α} {f : α → D} {env : EnvD} (I : EnvD → Prop) {Q : Out → Prop} (h0 : I env) (hs : ∀ a ∈ as, ∀ e, I e → Sat (turn e (f a)) (FoP I Q)) (hq : ∀ e, I e → Q (.nx e)) : Sat (forL turn (as.map f) env) Q :=
  for_map (fun _ => I) h0 (fun k a e ha h => hs a (List.mem_of_getElem? ha) e h) hq
/-- a turn that goes on, or returns what is told -/
def FindP (I : EnvD → Prop) (L : Nat) (x : Option D) : Out → Prop
  | .nx e => x = none ∧ I e
  | .ct e => x = none ∧ I e
  | .rt r e => ∃ d, x = some d ∧ r = .dat d ∧ e.length = L
  | .bk _ => False
@[simp] theorem FindP_nx {I : EnvD → Prop} {L : Nat} {x : Option D} {e : EnvD} : FindP I L x (.nx e) ↔ x = none ∧ I e := Iff.rfl
@[simp] theorem FindP_ct {I : EnvD → Prop} {L : Nat} {x : Option D} {e : EnvD} : FindP I L x (.ct e) ↔ x = none ∧ I e := Iff.rfl
@[simp] theorem FindP_rt {I : EnvD → Prop} {L : Nat} {x : Option D} {d : D} {e : EnvD} : FindP I L x (.rt (.dat d) e) ↔ x = some d ∧ e.length = L :=
  ⟨fun ⟨d', h1, h2, h3⟩ => by cases h2; exact ⟨h1, h3⟩, fun ⟨h1, h2⟩ => ⟨d, h1, rfl, h2⟩⟩
def EqV (r : R) (d : D) : Prop := r = .dat d ∨ r = .own d
@[simp] theorem EqV_dat {d d' : D} : EqV (.dat d) d' ↔ d = d' := ⟨fun h => by rcases h with h | h <;> cases h; rfl, fun h => by rw [h]; exact .inl rfl⟩
@[simp] theorem EqV_own {d d' : D} : EqV (.own d) d' ↔ d = d' := ⟨fun h => by rcases h with h | h <;> cases h; rfl, fun h => by rw [h]; exact .inr rfl⟩
/-- and, or: what is behind is worked out, too -/
def andK (go k : Bool) (f : Unit → Res (R × EnvD)) (e : EnvD) : Res (R × EnvD) := if (k == go) = true then f () else .ok (.dat (.bl k), e)
theorem xL_consK {go : Bool} {a b : CE} {es : List CE} {env : EnvD} : runL T go (a :: b :: es) env = (runE T a env >>= fun p => frc p.2 p.1 >>= fun d => ofO (asBl d) >>= fun k => andK go k (fun _ => runL T go (b :: es) p.2) p.2) := rfl
theorem andK_tt {f : Unit → Res (R × EnvD)} {e : EnvD} : andK true true f e = f () := rfl
theorem andK_tf {f : Unit → Res (R × EnvD)} {e : EnvD} : andK true false f e = .ok (.dat (.bl false), e) := rfl
theorem andK_ff {f : Unit → Res (R × EnvD)} {e : EnvD} : andK false false f e = f () := rfl
theorem andK_ft {f : Unit → Res (R × EnvD)} {e : EnvD} : andK false true f e = .ok (.dat (.bl true), e) := rfl
theorem andK_and {k b : Bool} {e : EnvD} : andK true k (fun _ => .ok (.dat (.bl b), e)) e = .ok (.dat (.bl (k && b)), e) := by cases k <;> rfl
theorem andK_or {k b : Bool} {e : EnvD} : andK false k (fun _ => .ok (.dat (.bl b), e)) e = .ok (.dat (.bl (k || b)), e) := by cases k <;> rfl
/-- a comprehension with a test -/
theorem lcQ' {β : Type} {elt : CE} {i : Nat} {it : CI} {c : CE} {env0 : EnvD} {Q : R × EnvD → Prop} (env : EnvD) {s : Slot} {as : List α} {ea : α → D} (p : α → Bool) (g : α → β) (fe : β → D) (hi : env[i]? = some s) (hf : s = .un ∨ ∃ d, s = .sh d) (hI : Sat (runI T it env0) fun z => z = (as.map ea, env)) (hl : as.length ≤ 10000000)
    (hc : ∀ x ∈ as, Sat (runE T c (env.set i (.sh (ea x)))) fun z => EqV z.1 (.bl (p x)) ∧ z.2 = env.set i (.sh (ea x)))
    (he : ∀ x ∈ as, p x = true → Sat (runE T elt (env.set i (.sh (ea x)))) fun z => EqV z.1 (fe (g x)) ∧ z.2 = env.set i (.sh (ea x)))
    (k : Q (.own (.lst (((as.filter p).map g).map fe)), env)) : Sat (runE T (.lc elt (.one i) it (some c)) env0) Q :=
  (lc_pure' env hi hf hI (by unfold SL; omega) (fun x hx => by
    rw [xC_some]
    refine Sat.bind (hc x hx) fun z hz => ?_
    obtain ⟨r, e⟩ := z
    obtain ⟨h1, h2⟩ := hz
    have h2 : e = _ := h2
    subst h2
    rcases h1 with h1 | h1 <;> (have h1 : r = _ := h1; subst h1; exact ⟨_, rfl, rfl⟩)) fun x hx hp => (he x hx hp).mono fun z hz => by
      obtain ⟨r, e⟩ := z
      obtain ⟨h1, h2⟩ := hz
      have h2 : e = _ := h2
      subst h2
      rcases h1 with h1 | h1 <;> (have h1 : r = _ := h1; subst h1)
      · exact .inl rfl
      · exact .inr rfl).mono fun z hz => by subst hz; exact k
theorem lcA' {β : Type} {elt : CE} {i : Nat} {it : CI} {env0 : EnvD} {Q : R × EnvD → Prop} (env : EnvD) {s : Slot} {as : List α} {ea : α → D} (g : α → β) (fe : β → D) (hi : env[i]? = some s) (hf : s = .un ∨ ∃ d, s = .sh d) (hI : Sat (runI T it env0) fun z => z = (as.map ea, env)) (hl : as.length ≤ 10000000)
    (he : ∀ x ∈ as, Sat (runE T elt (env.set i (.sh (ea x)))) fun z => EqV z.1 (fe (g x)) ∧ z.2 = env.set i (.sh (ea x)))
    (k : Q (.own (.lst ((as.map g).map fe)), env)) : Sat (runE T (.lc elt (.one i) it none) env0) Q :=
  (lc_all' env hi hf hI (by unfold SL; omega) fun x hx => (he x hx).mono fun z hz => by
      obtain ⟨r, e⟩ := z
      obtain ⟨h1, h2⟩ := hz
      have h2 : e = _ := h2
      subst h2
      rcases h1 with h1 | h1 <;> (have h1 : r = _ := h1; subst h1)
      · exact .inl rfl
      · exact .inr rfl).mono fun z hz => by subst hz; exact k
theorem lcQ {β : Type} {elt : CE} {i : Nat} {it : CI} {c : CE} {env : EnvD} {Q : R × EnvD → Prop} {s : Slot} {as : List α} {ea : α → D} (p : α → Bool) (g : α → β) (fe : β → D) (hi : env[i]? = some s) (hf : s = .un ∨ ∃ d, s = .sh d) (hI : Sat (runI T it env) fun z => z = (as.map ea, env)) (hl : as.length ≤ 10000000)
    (hc : ∀ x ∈ as, Sat (runE T c (env.set i (.sh (ea x)))) fun z => EqV z.1 (.bl (p x)) ∧ z.2 = env.set i (.sh (ea x)))
    (he : ∀ x ∈ as, p x = true → Sat (runE T elt (env.set i (.sh (ea x)))) fun z => EqV z.1 (fe (g x)) ∧ z.2 = env.set i (.sh (ea x)))
    (k : Q (.own (.lst (((as.filter p).map g).map fe)), env)) : Sat (runE T (.lc elt (.one i) it (some c)) env) Q := lcQ' env p g fe hi hf hI hl hc he k
theorem lcA {β : Type} {elt : CE} {i : Nat} {it : CI} {env : EnvD} {Q : R × EnvD → Prop} {s : Slot} {as : List α} {ea : α → D} (g : α → β) (fe : β → D) (hi : env[i]? = some s) (hf : s = .un ∨ ∃ d, s = .sh d) (hI : Sat (runI T it env) fun z => z = (as.map ea, env)) (hl : as.length ≤ 10000000)
    (he : ∀ x ∈ as, Sat (runE T elt (env.set i (.sh (ea x)))) fun z => EqV z.1 (fe (g x)) ∧ z.2 = env.set i (.sh (ea x)))
    (k : Q (.own (.lst ((as.map g).map fe)), env)) : Sat (runE T (.lc elt (.one i) it none) env) Q := lcA' env g fe hi hf hI hl he k
end
section
variable {T : Tb} {env : EnvD}
theorem callR_ow {f j : Nat} {rs : List R} {fl : List Bool} {d : D} {ds : List D} {P : FRes → Prop} {Q : R × EnvD → Prop} (hfl : T.fl f = true :: fl) (hb : ∀ b ∈ fl, b = false) (hl : rs.length = fl.length) (hv : rs.all R.isVal = true) (hd : frcs env rs = .ok ds)
    (hj : env[j]? = some (.ow d)) (h : Sat (T.call f (d :: ds)) P) (k : ∀ q, P q → ∃ d', q.ios = [d'] ∧ Q (resR q, env.set j (.ow d'))) : Sat (callR T f (.slot j :: rs) env) Q :=
  callR_io hfl hb hl hv hd (.inr hj) h fun q hq => let ⟨d', h1, h2⟩ := k q hq; ⟨d', h1, fun e' _ he => by rw [he hj]; exact h2⟩
theorem callR_ii {f j : Nat} {rs : List R} {fl : List Bool} {d : D} {ds : List D} {P : FRes → Prop} {Q : R × EnvD → Prop} (hfl : T.fl f = true :: fl) (hb : ∀ b ∈ fl, b = false) (hl : rs.length = fl.length) (hv : rs.all R.isVal = true) (hd : frcs env rs = .ok ds)
    (hj : env[j]? = some (.io d)) (h : Sat (T.call f (d :: ds)) P) (k : ∀ q, P q → ∃ d', q.ios = [d'] ∧ Q (resR q, env.set j (.io d'))) : Sat (callR T f (.slot j :: rs) env) Q :=
  callR_io hfl hb hl hv hd (.inl hj) h fun q hq => let ⟨d', h1, h2⟩ := k q hq; ⟨d', h1, fun e' he _ => by rw [he hj]; exact h2⟩
end
end VL
/-! VN2: lists walked in their slot, things kept. -/
namespace VL
open PySem PySem.Spec L2
def Slot.kp (s : Slot) : Prop := (∃ d, s = .sh d) ∨ s.calm = true
section
variable {T : Tb}
open Classical in
/-! a list walked in its slot -/
def FoS (I : EnvD → Prop) (i : Nat) (o : Bool) (Q : Out → Prop) : Out → Prop
  | .nx e => I e
  | .ct e => I e
  | .bk e => ∃ d, e[i]? = some (.io d) ∧ Q (.nx (e.set i (ownS o d)))
  | .rt r e => ∃ d, e[i]? = some (.io d) ∧ Q (.rt r (e.set i (ownS o d)))
@[simp] theorem FoS_nx {I : EnvD → Prop} {i : Nat} {o : Bool} {Q : Out → Prop} {e : EnvD} : FoS I i o Q (.nx e) = I e := rfl
@[simp] theorem FoS_ct {I : EnvD → Prop} {i : Nat} {o : Bool} {Q : Out → Prop} {e : EnvD} : FoS I i o Q (.ct e) = I e := rfl
end
end VL
/-! VC1: orders closed from steps. -/
namespace VL
open PySem PySem.Spec L2
local macro_rules
  | `(tactic| simp?) => `(tactic| simp only [jk_io, fk_io, resR, EqV_dat, EqV_own, FindP_nx, FindP_ct, FindP_rt, xL_consK, andK_tt, andK_tf, andK_ff, andK_ft, andK_and, andK_or, id_eq, Res.ok_bind, chk_true, ofO_some, or_false, false_or, or_self, and_false, false_and, not_true_eq_false, not_false_eq_true, decide_false, Bool.false_or, Bool.or_false, Bool.false_and, Bool.and_false, Bool.or_true, Bool.true_or, Sat_ok, Sat_bind, Sat_chk, Sat_ofO, Sat_noX, Sat_inEnv, varO_sh, varO_ow, varO_io, xE_var, xE_lit, xE_op, xE_neg, xE_cmp, xE_chn, xE_and, xE_or, xE_not, xE_ife, xE_tup, xE_lst, xE_dnew, xE_idx, xE_slc, xE_isi, xE_call, xE_blt, xE_rngL, xE_srt, xA_nil, xA_cons, xK_nil, xK_cons, xL_one, xO_none, xO_some, xC_none, xC_some, xI_seq, xI_rng, xI_enm, xI_rvd, setO_own, setO_dat, setO_slot, xS_set, xS_unp, xS_sub, xS_mut, xS_exp, xS_retN, xS_ret, xS_ife, xS_brk, xS_cnt, xS_pas, seqO_nx, seqO_rt, seqO_bk, seqO_ct, xB_nil, xB_cons, frc_dat, frc_own, frc_slot, esc_dat, esc_own, esc_slot, frcs_nil, frcs_cons, rdO_sh, rdO_ow, rdO_io, rd_O, escO_sh, escO_ow, escI_O, upO_ow, upO_io, upS_O, ioO_un, ioO_sh, ioO_ow, stS_O, lstO_ow, lstO_io, isLst_O, bindTg_one, bindTg_many, bindMany_nil, bindMany_cons, asInt_int, asBl_bl, op_add, op_sub, op_mul, op_fdiv, op_mod, op_pow, op_band, op_addL, op_addT, op_mulL, cm_lt, cm_le, cm_gt, cm_ge, eqv_int, cm_eqI, cm_neI, idx_lst, idx_tup, idx_scr, put_lst, mu_app, mu_ins, vb_lenL, vb_lenT, vb_lenS, vb_max2, vb_min2, vb_int1, vb_int1b, vb_list1, vb_list1t, vb_tuple1, vb_tuple1t, vb_divmod, vb_sum, vb_all, vb_sorted, slc_lst, rng_1, rng_2, seqOf_lst, seqOf_tup, seqOf_scr, cm_inT, cm_inL, cm_ninT, cm_ninL, cm_eqLI, cm_neLI, List.getElem?_cons_zero, List.getElem?_cons_succ, List.set_cons_zero, List.set_cons_succ, List.length_cons, List.length_nil, Bool.and_eq_true, Bool.or_eq_true, decide_eq_true_eq, Bool.not_eq_true', Option.some.injEq, exists_eq_left', Bool.not_true, Bool.not_false, and_true, true_and, Nat.zero_le, Int.reduceToNat, Int.reduceLT, Int.reduceLE, Int.reduceAdd, Int.reduceSub, Int.reducePow, Int.reduceMul, and_self, true_or, or_true, Nat.reducePow, Nat.zero_add, Nat.reduceAdd, Nat.reduceLT, Nat.reduceLeDiff, decide_true, Nat.reduceSub, beq_self_eq_true, reduceIte, Bool.true_and, Bool.and_true, List.cons_append, List.nil_append, List.zip_cons_cons, List.zip_nil_left, List.map_cons, List.map_nil, List.replicate, Bool.true_eq_false, Bool.false_eq_true, Tg.slots, xS_for, List.length_map, Int.natAbs_natCast, Int.toNat_natCast, rngIt_0, List.length_range, Bool.false_beq, Bool.true_beq, retR, iosOf, Option.map_some])
  | `(tactic| simp? [$ts,*]) => `(tactic| simp only [$ts,*, jk_io, fk_io, resR, EqV_dat, EqV_own, FindP_nx, FindP_ct, FindP_rt, xL_consK, andK_tt, andK_tf, andK_ff, andK_ft, andK_and, andK_or, id_eq, Res.ok_bind, chk_true, ofO_some, or_false, false_or, or_self, and_false, false_and, not_true_eq_false, not_false_eq_true, decide_false, Bool.false_or, Bool.or_false, Bool.false_and, Bool.and_false, Bool.or_true, Bool.true_or, Sat_ok, Sat_bind, Sat_chk, Sat_ofO, Sat_noX, Sat_inEnv, varO_sh, varO_ow, varO_io, xE_var, xE_lit, xE_op, xE_neg, xE_cmp, xE_chn, xE_and, xE_or, xE_not, xE_ife, xE_tup, xE_lst, xE_dnew, xE_idx, xE_slc, xE_isi, xE_call, xE_blt, xE_rngL, xE_srt, xA_nil, xA_cons, xK_nil, xK_cons, xL_one, xO_none, xO_some, xC_none, xC_some, xI_seq, xI_rng, xI_enm, xI_rvd, setO_own, setO_dat, setO_slot, xS_set, xS_unp, xS_sub, xS_mut, xS_exp, xS_retN, xS_ret, xS_ife, xS_brk, xS_cnt, xS_pas, seqO_nx, seqO_rt, seqO_bk, seqO_ct, xB_nil, xB_cons, frc_dat, frc_own, frc_slot, esc_dat, esc_own, esc_slot, frcs_nil, frcs_cons, rdO_sh, rdO_ow, rdO_io, rd_O, escO_sh, escO_ow, escI_O, upO_ow, upO_io, upS_O, ioO_un, ioO_sh, ioO_ow, stS_O, lstO_ow, lstO_io, isLst_O, bindTg_one, bindTg_many, bindMany_nil, bindMany_cons, asInt_int, asBl_bl, op_add, op_sub, op_mul, op_fdiv, op_mod, op_pow, op_band, op_addL, op_addT, op_mulL, cm_lt, cm_le, cm_gt, cm_ge, eqv_int, cm_eqI, cm_neI, idx_lst, idx_tup, idx_scr, put_lst, mu_app, mu_ins, vb_lenL, vb_lenT, vb_lenS, vb_max2, vb_min2, vb_int1, vb_int1b, vb_list1, vb_list1t, vb_tuple1, vb_tuple1t, vb_divmod, vb_sum, vb_all, vb_sorted, slc_lst, rng_1, rng_2, seqOf_lst, seqOf_tup, seqOf_scr, cm_inT, cm_inL, cm_ninT, cm_ninL, cm_eqLI, cm_neLI, List.getElem?_cons_zero, List.getElem?_cons_succ, List.set_cons_zero, List.set_cons_succ, List.length_cons, List.length_nil, Bool.and_eq_true, Bool.or_eq_true, decide_eq_true_eq, Bool.not_eq_true', Option.some.injEq, exists_eq_left', Bool.not_true, Bool.not_false, and_true, true_and, Nat.zero_le, Int.reduceToNat, Int.reduceLT, Int.reduceLE, Int.reduceAdd, Int.reduceSub, Int.reducePow, Int.reduceMul, and_self, true_or, or_true, Nat.reducePow, Nat.zero_add, Nat.reduceAdd, Nat.reduceLT, Nat.reduceLeDiff, decide_true, Nat.reduceSub, beq_self_eq_true, reduceIte, Bool.true_and, Bool.and_true, List.cons_append, List.nil_append, List.zip_cons_cons, List.zip_nil_left, List.map_cons, List.map_nil, List.replicate, Bool.true_eq_false, Bool.false_eq_true, Tg.slots, xS_for, List.length_map, Int.natAbs_natCast, Int.toNat_natCast, rngIt_0, List.length_range, Bool.false_beq, Bool.true_beq, retR, iosOf, Option.map_some])
abbrev pD (p : Int × Int) : D := .tup [.int p.1, .int p.2]
abbrev stL (st : List (Int × Int)) : D := .lst (st.map pD)
inductive Reach (st : List (Int × Int)) : Int → Int → Prop where
  | refl (x : Int) : Reach st x x
  | step {x lo hi : Int} : Reach st x lo → (lo, hi) ∈ st → Reach st x hi
theorem Reach.trans {st : List (Int × Int)} {x y z : Int} (h : Reach st x y) (g : Reach st y z) : Reach st x z := by
  induction g with
  | refl => exact h
  | step _ hm ih => exact .step ih hm
structure StepsBy (ρ : Nat → Int) (n : Nat) (st : List (Int × Int)) : Prop where
  rg : ∀ p ∈ st, 0 ≤ p.1 ∧ p.1 < (n : Int) ∧ 0 ≤ p.2 ∧ p.2 < (n : Int)
  lt : ∀ p ∈ st, ρ p.1.toNat < ρ p.2.toNat
theorem Reach.lt {ρ : Nat → Int} {n : Nat} {st : List (Int × Int)} (S : StepsBy ρ n st) {x y : Int} (h : Reach st x y) : x = y ∨ ρ x.toNat < ρ y.toNat := by
  induction h with
  | refl => exact .inl rfl
  | @step lo hi _ hm ih =>
    have : ρ lo.toNat < ρ hi.toNat := S.lt _ hm
    rcases ih with rfl | ih
    · exact .inr this
    · exact .inr (by omega)
/-- rows on the way to being closed -/
structure Cl (n : Nat) (st : List (Int × Int)) (rows : List (List Int)) : Prop where
  len : rows.length = n
  rws : Rows n rows
  me : ∀ h < n, (h : Int) ∈ rowO rows h
  re : ∀ h < n, ∀ x ∈ rowO rows h, Reach st x (h : Int)
def tot (rows : List (List Int)) : Nat := (rows.map List.length).sum
theorem tot_set : ∀ {rows : List (List Int)} {h : Nat} {r : List Int}, h < rows.length → tot (rows.set h r) + (rowO rows h).length = tot rows + r.length
  | [], h, r, hh => absurd hh (Nat.not_lt_zero h)
  | x :: rows, 0, r, hh => by
    unfold tot rowO
    simp
    omega
  | x :: rows, h + 1, r, hh => by
    have := tot_set (rows := rows) (h := h) (r := r) (by simpa using hh)
    unfold tot rowO at this ⊢
    simp at this ⊢
    omega
theorem tot_le : ∀ {rows : List (List Int)} {m : Nat}, (∀ r ∈ rows, r.length ≤ m) → tot rows ≤ rows.length * m
  | [], m, _ => by simp [tot]
  | x :: rows, m, h => by
    have h1 := h x List.mem_cons_self
    have h2 := tot_le (rows := rows) (m := m) fun r hr => h r (List.mem_cons_of_mem _ hr)
    unfold tot at h2 ⊢
    rw [List.map_cons, List.sum_cons, List.length_cons, Nat.succ_mul]
    omega
theorem Cl.tot {n : Nat} {st : List (Int × Int)} {rows : List (List Int)} (C : Cl n st rows) : tot rows ≤ n * n := by
  have := tot_le (rows := rows) (m := n) fun r hr => nodup_len (C.rws r hr).1 (C.rws r hr).2
  rwa [C.len] at this
def moreL (rows : List (List Int)) (lo hi : Int) : List Int := (rowO rows lo.toNat).filter fun x => !decide (x ∈ rowO rows hi.toNat)
theorem Cl.row {n : Nat} {st : List (Int × Int)} {rows : List (List Int)} (C : Cl n st rows) {h : Nat} (hh : h < n) : (rowO rows h).Nodup ∧ (∀ i ∈ rowO rows h, 0 ≤ i ∧ i < (n : Int)) ∧ (rowO rows h).length ≤ n := by
  obtain ⟨h1, h2⟩ := C.rws _ (rowO_mem (o := rows) (j := h) (by rw [C.len]; exact hh))
  exact ⟨h1, h2, nodup_len h1 h2⟩
theorem Cl.add {n : Nat} {st : List (Int × Int)} {rows : List (List Int)} (C : Cl n st rows) {p : Int × Int} (hp : p ∈ st) (hr : 0 ≤ p.1 ∧ p.1 < (n : Int) ∧ 0 ≤ p.2 ∧ p.2 < (n : Int)) : Cl n st (rows.set p.2.toNat (rowO rows p.2.toNat ++ moreL rows p.1 p.2)) := by
  obtain ⟨a1, a2, a3⟩ := C.row (h := p.1.toNat) (by omega)
  obtain ⟨b1, b2, b3⟩ := C.row (h := p.2.toNat) (by omega)
  have hs := rowO_set (rows := rows) (h := p.2.toNat) (r := rowO rows p.2.toNat ++ moreL rows p.1 p.2) (by rw [C.len]; omega)
  have nd : (rowO rows p.2.toNat ++ moreL rows p.1 p.2).Nodup := List.nodup_append.mpr ⟨b1, a1.filter _, fun x hx y hy z => by
    subst z
    have := (List.mem_filter.mp hy).2
    simp [hx] at this⟩
  have rg : ∀ i ∈ rowO rows p.2.toNat ++ moreL rows p.1 p.2, 0 ≤ i ∧ i < (n : Int) := fun i hi => by
    rcases List.mem_append.mp hi with hi | hi
    · exact b2 i hi
    · exact a2 i (List.mem_filter.mp hi).1
  refine ⟨by rw [List.length_set]; exact C.len, fun r hr' => ?_, fun h hh => ?_, fun h hh x hx => ?_⟩
  · rcases List.mem_or_eq_of_mem_set hr' with hr' | rfl
    · exact C.rws r hr'
    · exact ⟨nd, rg⟩
  · rw [hs]
    split
    · subst h; exact List.mem_append_left _ (C.me _ hh)
    · exact C.me h hh
  · rw [hs] at hx
    split at hx
    · subst h
      rcases List.mem_append.mp hx with hx | hx
      · exact C.re _ hh x hx
      · have q := C.re p.1.toNat (by omega) x (List.mem_filter.mp hx).1
        have e1 : ((p.1.toNat : Nat) : Int) = p.1 := by omega
        have e2 : ((p.2.toNat : Nat) : Int) = p.2 := by omega
        rw [e1] at q
        rw [e2]
        exact .step q hp
    · exact C.re h hh x hx
theorem set_row_same {rows : List (List Int)} {h : Nat} (hh : h < rows.length) : rows.set h (rowO rows h) = rows := by
  unfold rowO
  rw [List.getD_eq_getElem?_getD, List.getElem?_eq_getElem hh]
  exact List.set_getElem_self hh
def Sat1 (rows : List (List Int)) (p : Int × Int) : Prop := ∀ x ∈ rowO rows p.1.toNat, x ∈ rowO rows p.2.toNat
/-- the closed rows -/
theorem Cl.ord {ρ : Nat → Int} {n : Nat} {st : List (Int × Int)} {rows : List (List Int)} (C : Cl n st rows) (S : StepsBy ρ n st) (hc : ∀ p ∈ st, Sat1 rows p) : OrdU ρ n (rowFn rows) ∧ ∀ h < n, ∀ x : Int, (x ∈ rowO (rowFn rows) h ↔ 0 ≤ x ∧ x < (n : Int) ∧ Reach st x h) := by
  have all : ∀ {x y : Int}, Reach st x y → 0 ≤ x → x < (n : Int) → 0 ≤ y → y < (n : Int) → x ∈ rowO rows y.toNat := fun {x y} h => by
    induction h with
    | refl => intro h0 h1 _ _; have := C.me x.toNat (by omega); rwa [Int.toNat_of_nonneg h0] at this
    | step _ hm ih => intro h0 h1 _ _; have := S.rg _ hm; exact hc _ hm _ (ih h0 h1 (by omega) (by omega))
  have O : OrdBy ρ n rows := by
    refine ⟨C.len, C.rws, C.me, fun p hp i hi ne => ?_, fun p hp i hi x hx => ?_⟩
    · rcases (C.re p hp i hi).lt S with h | h
      · exact absurd h ne
      · rwa [Int.toNat_natCast] at h
    · have hi2 := (C.row hp).2.1 i hi
      have q1 := C.re p hp i hi
      have q2 := C.re i.toNat (by omega) x hx
      rw [Int.toNat_of_nonneg hi2.1] at q2
      have hx2 := (C.row (h := i.toNat) (by omega)).2.1 x hx
      have := all (q2.trans q1) hx2.1 hx2.2 (by omega) (by omega)
      rwa [Int.toNat_natCast] at this
  refine ⟨⟨O.sort, up_rowFn C.rws⟩, fun h hh x => ?_⟩
  rw [rowO_sort, (sortI_perm _).mem_iff]
  constructor
  · intro hx
    have := (C.row hh).2.1 x hx
    exact ⟨this.1, this.2, C.re h hh x hx⟩
  · rintro ⟨h0, h1, h2⟩
    have := all h2 h0 h1 (by omega) (by omega)
    rwa [Int.toNat_natCast] at this
theorem cl_start (n : Nat) (st : List (Int × Int)) : Cl n st ((List.range n).map fun k : Nat => [(k : Int)]) := by
  refine ⟨by simp, fun r hr => ?_, fun h hh => ?_, fun h hh x hx => ?_⟩
  · obtain ⟨k, hk, rfl⟩ := List.mem_map.mp hr
    have hk := List.mem_range.mp hk
    refine ⟨by simp, fun i hi => ?_⟩
    rw [List.mem_singleton.mp hi]
    omega
  · rw [row_start hh]; exact List.mem_singleton.mpr rfl
  · rw [row_start hh] at hx
    rw [List.mem_singleton.mp hx]
    exact .refl _
section
variable {T : Tb}
def fClosed : Def := ⟨[false, false], 10,
  [.set 2 (.lc (.lst [.var 4]) (.one 4) (.rng [.var 0]) none),
   .set 3 (.lit (.int 1)),
   .whl (.cmp .gt (.var 3) (.lit (.int 0))) [.set 3 (.lit (.int 0)), .for (.many [5, 6]) (.seq (.var 1)) [.set 7 (.lc (.var 9) (.one 9) (.seq (.idx (.var 2) (.var 5))) (some (.cmp .notin (.var 9) (.idx (.var 2) (.var 6))))), .sub 2 (.var 6) (.op .add (.idx (.var 2) (.var 6)) (.var 7)), .set 3 (.op .add (.var 3) (.blt .len [.var 7]))]],
   .ret (some (.blt .tuple1 [.lc (.blt .tuple1 [.blt .sorted1 [.var 8]]) (.one 8) (.seq (.var 2)) none]))]⟩
structure ClosedS (T : Tb) (i : Nat) : Prop where
  fl : T.fl i = [false, false]
  run : ∀ (n : Nat) (st : List (Int × Int)) (ρ : Nat → Int), n ≤ 100 → StepsBy ρ n st → Sat (T.call i [.int n, stL st]) fun q => ∃ o, q = ⟨false, oI o, []⟩ ∧ o.length = n ∧ OrdU ρ o.length o ∧ ∀ h < n, ∀ x : Int, (x ∈ rowO o h ↔ 0 ≤ x ∧ x < (n : Int) ∧ Reach st x h)
theorem closed_sat {n : Nat} {st : List (Int × Int)} {ρ : Nat → Int} (hn : n ≤ 100) (S : StepsBy ρ n st) : Sat (runDef T fClosed [.int n, stL st]) fun q => ∃ o, q = ⟨false, oI o, []⟩ ∧ o.length = n ∧ OrdU ρ o.length o ∧ ∀ h < n, ∀ x : Int, (x ∈ rowO o h ↔ 0 ≤ x ∧ x < (n : Int) ∧ Reach st x h) := by
  refine runDef_sat rfl (by decide) ?_
  show Sat (runB T fClosed.body [.sh (.int n), .sh (stL st), .un, .un, .un, .un, .un, .un, .un, .un]) _
  have nn : n * n ≤ 10000 := Nat.mul_le_mul hn hn
  simp? [fClosed]
  refine lcA (as := List.range n) (ea := nI) (fun k : Nat => [(k : Int)]) lI rfl (.inl rfl) ?_ (by simp; omega) (fun k hk => ?_) ?_
  · simp?
    omega
  · simp? [nI]
    exact ⟨by decide, rfl⟩
  simp?
  refine whl_sat (I := fun m e => ∃ (rows : List (List Int)) (left : Nat) (s4 s5 s6 s7 : Jk) (s8 s9 : Fk), e = [.sh (.int n), .sh (stL st), .ow (.lst (lsI rows)), .sh (.int left), s4.s, s5.s, s6.s, s7.s, s8.s, s9.s] ∧ Cl n st rows ∧ (left = 0 → ∀ p ∈ st, Sat1 rows p) ∧ m = 2 * (n * n - tot rows) + min left 1) (2 * (n * n - tot ((List.range n).map fun k : Nat => [(k : Int)])) + 1) (by omega)
    ⟨_, 1, .un, .un, .un, .un, .un, .un, rfl, cl_start n st, (fun h => by cases h), rfl⟩ ?_
  · rintro m e ⟨rows, left, s4, s5, s6, s7, s8, s9, rfl, C, hleft, rfl⟩
    have hct := C.tot
    simp? [whT]
    refine Sat_ite.mpr ⟨fun hlt => ?_, fun hge => ?_⟩
    · simp?
      refine for_map (fun k e => ∃ (rows' : List (List Int)) (left' : Nat) (s5 s6 s7 : Jk) (s9 : Fk), e = [.sh (.int n), .sh (stL st), .ow (.lst (lsI rows')), .sh (.int left'), s4.s, s5.s, s6.s, s7.s, s8.s, s9.s] ∧ Cl n st rows' ∧ tot rows' = tot rows + left' ∧ (left' = 0 → rows' = rows ∧ ∀ p ∈ st.take k, Sat1 rows p)) ⟨rows, 0, s5, s6, s7, s9, rfl, C, rfl, fun _ => ⟨rfl, fun p hp => by simp at hp⟩⟩ ?_ ?_
      · rintro k p e hp ⟨rows', left', s5, s6, s7, s9, rfl, C', ht', hl'⟩
        have hpm := List.mem_of_getElem? hp
        obtain ⟨r1, r2, r3, r4⟩ := S.rg p hpm
        obtain ⟨lo, hlo⟩ : ∃ lo : Nat, p.1 = lo := ⟨p.1.toNat, by omega⟩
        obtain ⟨hi, hhi⟩ : ∃ hi : Nat, p.2 = hi := ⟨p.2.toNat, by omega⟩
        have hrl := C'.len
        have at1 : atI (rows'.map lI) (lo : Int) = some (lI (rowO rows' lo)) := lsI_at (by omega)
        have at2 : atI (rows'.map lI) (hi : Int) = some (lI (rowO rows' hi)) := lsI_at (by omega)
        obtain ⟨a1, a2, a3⟩ := C'.row (h := lo) (by omega)
        obtain ⟨b1, b2, b3⟩ := C'.row (h := hi) (by omega)
        simp? [foT, hlo, hhi]
        refine lcQ (as := rowO rows' lo) (ea := D.int) (fun x => !decide (x ∈ rowO rows' hi)) id D.int rfl s9.h ?_ (by omega) (fun x hx => ?_) (fun x hx _ => ?_) ?_
        · simp? [at1]
        · simp? [at2]
        · simp?
        have ix : ixN rows'.length (hi : Int) = some hi := by
          rw [ixN_nat (by omega) (by omega)]
          simp
        have hml : (moreL rows' p.1 p.2).length ≤ (rowO rows' lo).length := by
          unfold moreL
          rw [hlo, Int.toNat_natCast]
          exact List.length_filter_le _ _
        have hme : moreL rows' p.1 p.2 = (rowO rows' lo).filter fun x => !decide (x ∈ rowO rows' hi) := by
          unfold moreL
          rw [hlo, hhi, Int.toNat_natCast, Int.toNat_natCast]
        have Ca := C'.add hpm ⟨r1, r2, r3, r4⟩
        have hts := tot_set (rows := rows') (h := p.2.toNat) (r := rowO rows' p.2.toNat ++ moreL rows' p.1 p.2) (by omega)
        rw [List.length_append] at hts
        rw [← hme]
        simp? [List.map_id, at2, ix]
        refine ⟨by unfold SL; omega, rows'.set p.2.toNat (rowO rows' p.2.toNat ++ moreL rows' p.1 p.2), left' + (moreL rows' p.1 p.2).length, .sh (.int lo), .sh (.int hi), .ow (lI (moreL rows' p.1 p.2)), s9, ?_, Ca, by omega, fun hz => ?_⟩
        · rw [hhi, Int.toNat_natCast]
          simp only [lsI, List.map_set, lI, List.map_append]
          rfl
        · have hz1 : left' = 0 := by omega
          have hz2 : moreL rows' p.1 p.2 = [] := List.length_eq_zero_iff.mp (by omega)
          obtain ⟨e1, e2⟩ := hl' hz1
          subst e1
          refine ⟨by rw [hz2, List.append_nil, set_row_same (by omega)], fun q hq => ?_⟩
          rw [take_at hp] at hq
          rcases List.mem_append.mp hq with hq | hq
          · exact e2 q hq
          · rw [List.mem_singleton.mp hq]
            intro x hx
            refine Classical.byContradiction fun hn => ?_
            have : x ∈ moreL rows' p.1 p.2 := List.mem_filter.mpr ⟨hx, by simp [hn]⟩
            rw [hz2] at this; cases this
      · rintro e ⟨rows', left', s5, s6, s7, s9, rfl, C', ht', hl'⟩
        have hct' := C'.tot
        simp?
        refine ⟨2 * (n * n - tot rows') + min left' 1, ?_, rows', left', s4, s5, s6, s7, s8, s9, rfl, C', fun hz => ?_, rfl⟩
        · by_cases hz : left' = 0
          · subst hz; omega
          · omega
        · obtain ⟨e1, e2⟩ := hl' hz
          subst e1
          rw [List.take_length] at e2
          exact e2
    · have hrl := C.len
      obtain ⟨O, hR⟩ := C.ord S (hleft (by omega))
      simp? [WhP_f]
      refine lcA' [.sh (.int n), .sh (stL st), .sh (.lst (lsI rows)), .sh (.int left), s4.s, s5.s, s6.s, s7.s, s8.s, s9.s] (as := rows) (ea := lI) sortI tI rfl s8.h ?_ (by omega) (fun r hr => ?_) ?_
      · simp?
      · simp?
      · simp?
        have hol := O.len
        exact ⟨rowFn rows, rfl, hol, by rw [hol]; exact O, hR⟩
end
end VL
/-! VC2: steps drawn, orders drawn by them. -/
namespace VL
open PySem PySem.Spec L2
local macro_rules
  | `(tactic| simp?) => `(tactic| simp only [jk_io, fk_io, resR, EqV_dat, EqV_own, FindP_nx, FindP_ct, FindP_rt, xL_consK, andK_tt, andK_tf, andK_ff, andK_ft, andK_and, andK_or, id_eq, Res.ok_bind, chk_true, ofO_some, or_false, false_or, or_self, and_false, false_and, not_true_eq_false, not_false_eq_true, decide_false, Bool.false_or, Bool.or_false, Bool.false_and, Bool.and_false, Bool.or_true, Bool.true_or, Sat_ok, Sat_bind, Sat_chk, Sat_ofO, Sat_noX, Sat_inEnv, varO_sh, varO_ow, varO_io, xE_var, xE_lit, xE_op, xE_neg, xE_cmp, xE_chn, xE_and, xE_or, xE_not, xE_ife, xE_tup, xE_lst, xE_dnew, xE_idx, xE_slc, xE_isi, xE_call, xE_blt, xE_rngL, xE_srt, xA_nil, xA_cons, xK_nil, xK_cons, xL_one, xO_none, xO_some, xC_none, xC_some, xI_seq, xI_rng, xI_enm, xI_rvd, setO_own, setO_dat, setO_slot, xS_set, xS_unp, xS_sub, xS_mut, xS_exp, xS_retN, xS_ret, xS_ife, xS_brk, xS_cnt, xS_pas, seqO_nx, seqO_rt, seqO_bk, seqO_ct, xB_nil, xB_cons, frc_dat, frc_own, frc_slot, esc_dat, esc_own, esc_slot, frcs_nil, frcs_cons, rdO_sh, rdO_ow, rdO_io, rd_O, escO_sh, escO_ow, escI_O, upO_ow, upO_io, upS_O, ioO_un, ioO_sh, ioO_ow, stS_O, lstO_ow, lstO_io, isLst_O, bindTg_one, bindTg_many, bindMany_nil, bindMany_cons, asInt_int, asBl_bl, op_add, op_sub, op_mul, op_fdiv, op_mod, op_pow, op_band, op_addL, op_addT, op_mulL, cm_lt, cm_le, cm_gt, cm_ge, eqv_int, cm_eqI, cm_neI, idx_lst, idx_tup, idx_scr, put_lst, mu_app, mu_ins, vb_lenL, vb_lenT, vb_lenS, vb_max2, vb_min2, vb_int1, vb_int1b, vb_list1, vb_list1t, vb_tuple1, vb_tuple1t, vb_divmod, vb_sum, vb_all, vb_sorted, slc_lst, rng_1, rng_2, seqOf_lst, seqOf_tup, seqOf_scr, cm_inT, cm_inL, cm_ninT, cm_ninL, cm_eqLI, cm_neLI, List.getElem?_cons_zero, List.getElem?_cons_succ, List.set_cons_zero, List.set_cons_succ, List.length_cons, List.length_nil, Bool.and_eq_true, Bool.or_eq_true, decide_eq_true_eq, Bool.not_eq_true', Option.some.injEq, exists_eq_left', Bool.not_true, Bool.not_false, and_true, true_and, Nat.zero_le, Int.reduceToNat, Int.reduceLT, Int.reduceLE, Int.reduceAdd, Int.reduceSub, Int.reducePow, Int.reduceMul, and_self, true_or, or_true, Nat.reducePow, Nat.zero_add, Nat.reduceAdd, Nat.reduceLT, Nat.reduceLeDiff, decide_true, Nat.reduceSub, beq_self_eq_true, reduceIte, Bool.true_and, Bool.and_true, List.cons_append, List.nil_append, List.zip_cons_cons, List.zip_nil_left, List.map_cons, List.map_nil, List.replicate, Bool.true_eq_false, Bool.false_eq_true, Tg.slots, xS_for, List.length_map, Int.natAbs_natCast, Int.toNat_natCast, rngIt_0, List.length_range, Bool.false_beq, Bool.true_beq, retR, iosOf, Option.map_some])
  | `(tactic| simp? [$ts,*]) => `(tactic| simp only [$ts,*, jk_io, fk_io, resR, EqV_dat, EqV_own, FindP_nx, FindP_ct, FindP_rt, xL_consK, andK_tt, andK_tf, andK_ff, andK_ft, andK_and, andK_or, id_eq, Res.ok_bind, chk_true, ofO_some, or_false, false_or, or_self, and_false, false_and, not_true_eq_false, not_false_eq_true, decide_false, Bool.false_or, Bool.or_false, Bool.false_and, Bool.and_false, Bool.or_true, Bool.true_or, Sat_ok, Sat_bind, Sat_chk, Sat_ofO, Sat_noX, Sat_inEnv, varO_sh, varO_ow, varO_io, xE_var, xE_lit, xE_op, xE_neg, xE_cmp, xE_chn, xE_and, xE_or, xE_not, xE_ife, xE_tup, xE_lst, xE_dnew, xE_idx, xE_slc, xE_isi, xE_call, xE_blt, xE_rngL, xE_srt, xA_nil, xA_cons, xK_nil, xK_cons, xL_one, xO_none, xO_some, xC_none, xC_some, xI_seq, xI_rng, xI_enm, xI_rvd, setO_own, setO_dat, setO_slot, xS_set, xS_unp, xS_sub, xS_mut, xS_exp, xS_retN, xS_ret, xS_ife, xS_brk, xS_cnt, xS_pas, seqO_nx, seqO_rt, seqO_bk, seqO_ct, xB_nil, xB_cons, frc_dat, frc_own, frc_slot, esc_dat, esc_own, esc_slot, frcs_nil, frcs_cons, rdO_sh, rdO_ow, rdO_io, rd_O, escO_sh, escO_ow, escI_O, upO_ow, upO_io, upS_O, ioO_un, ioO_sh, ioO_ow, stS_O, lstO_ow, lstO_io, isLst_O, bindTg_one, bindTg_many, bindMany_nil, bindMany_cons, asInt_int, asBl_bl, op_add, op_sub, op_mul, op_fdiv, op_mod, op_pow, op_band, op_addL, op_addT, op_mulL, cm_lt, cm_le, cm_gt, cm_ge, eqv_int, cm_eqI, cm_neI, idx_lst, idx_tup, idx_scr, put_lst, mu_app, mu_ins, vb_lenL, vb_lenT, vb_lenS, vb_max2, vb_min2, vb_int1, vb_int1b, vb_list1, vb_list1t, vb_tuple1, vb_tuple1t, vb_divmod, vb_sum, vb_all, vb_sorted, slc_lst, rng_1, rng_2, seqOf_lst, seqOf_tup, seqOf_scr, cm_inT, cm_inL, cm_ninT, cm_ninL, cm_eqLI, cm_neLI, List.getElem?_cons_zero, List.getElem?_cons_succ, List.set_cons_zero, List.set_cons_succ, List.length_cons, List.length_nil, Bool.and_eq_true, Bool.or_eq_true, decide_eq_true_eq, Bool.not_eq_true', Option.some.injEq, exists_eq_left', Bool.not_true, Bool.not_false, and_true, true_and, Nat.zero_le, Int.reduceToNat, Int.reduceLT, Int.reduceLE, Int.reduceAdd, Int.reduceSub, Int.reducePow, Int.reduceMul, and_self, true_or, or_true, Nat.reducePow, Nat.zero_add, Nat.reduceAdd, Nat.reduceLT, Nat.reduceLeDiff, decide_true, Nat.reduceSub, beq_self_eq_true, reduceIte, Bool.true_and, Bool.and_true, List.cons_append, List.nil_append, List.zip_cons_cons, List.zip_nil_left, List.map_cons, List.map_nil, List.replicate, Bool.true_eq_false, Bool.false_eq_true, Tg.slots, xS_for, List.length_map, Int.natAbs_natCast, Int.toNat_natCast, rngIt_0, List.length_range, Bool.false_beq, Bool.true_beq, retR, iosOf, Option.map_some])
section
variable {T : Tb}
def fSteps (cD : Nat) : Def := ⟨[true, false], 8,
  [.set 2 (.lst []),
   .for (.one 3) (.rng [.var 1]) [.mut .insert 2 [.call cD [.var 0, .op .add (.var 3) (.lit (.int 1))], .var 3]],
   .set 4 (.idx (.lst [.lit (.int 1), .lit (.int 2), .lit (.int 4), .lit (.int 7)]) (.call cD [.var 0, .lit (.int 4)])),
   .set 5 (.lst []),
   .for (.one 6) (.rng [.var 1]) [.for (.one 7) (.rng [.var 6]) [.ife (.cmp .lt (.call cD [.var 0, .lit (.int 8)]) (.var 4)) [.mut .append 5 [.tup [.idx (.var 2) (.var 7), .idx (.var 2) (.var 6)]]] []]],
   .ret (some (.var 5))]⟩
structure StepsS (T : Tb) (i : Nat) : Prop where
  fl : T.fl i = [true, false]
  run : ∀ a b (n : Nat), n ≤ 100 → Sat (T.call i [pen a b, .int n]) fun q => ∃ st a' ρ, q = ⟨true, stL st, [pen a' b]⟩ ∧ StepsBy ρ n st
theorem steps_sat {cD : Nat} (hD : DrawS T cD) {a b : Int} {n : Nat} (hn : n ≤ 100) : Sat (runDef T (fSteps cD) [pen a b, .int n]) fun q => ∃ st a' ρ, q = ⟨true, stL st, [pen a' b]⟩ ∧ StepsBy ρ n st := by
  refine runDef_sat rfl (by simp [fSteps]) ?_
  show Sat (runB T (fSteps cD).body [.io (pen a b), .sh (.int n), .un, .un, .un, .un, .un, .un]) _
  simp? [fSteps]
  refine ⟨by omega, ?_⟩
  refine for_rng (fun k e => ∃ a here, ∃ s : Jk, e = [.io (pen a b), .sh (.int n), .ow (lI here), s.s, .un, .un, .un, .un] ∧ here.length = k ∧ (∀ x ∈ here, 0 ≤ x ∧ x < (k : Int)) ∧ here.Nodup) ⟨a, [], .un, rfl, rfl, fun _ h => (by cases h), List.nodup_nil⟩ ?_ ?_
  · rintro k e hkn ⟨a, here, s, rfl, hk, hh, hnd⟩
    simp? [foT]
    refine drawIo hD rfl (by omega) (by omega) fun v a2 h2 h3 => ?_
    simp?
    refine ⟨⟨⟨by unfold SL; omega, h2⟩, by omega⟩, a2, here.take v.toNat ++ (k : Int) :: here.drop v.toNat, .sh (.int k), ?_, ?_, ?_, ?_⟩
    · simp only [lI, List.map_append, List.map_cons, List.map_take, List.map_drop]; rfl
    · rw [List.length_append, List.length_take, List.length_cons, List.length_drop]; omega
    · intro x hx
      rcases List.mem_append.mp hx with hx | hx
      · have := hh x (List.mem_of_mem_take hx); omega
      · rcases List.mem_cons.mp hx with rfl | hx
        · omega
        · have := hh x (List.mem_of_mem_drop hx); omega
    · have e1 := List.take_append_drop v.toNat here
      rw [← e1] at hnd
      obtain ⟨n1, n2, n3⟩ := List.nodup_append.mp hnd
      refine List.nodup_append.mpr ⟨n1, List.nodup_cons.mpr ⟨fun hm => ?_, n2⟩, fun x hx y hy => ?_⟩
      · have := hh _ (List.mem_of_mem_drop hm); omega
      · rcases List.mem_cons.mp hy with rfl | hy
        · intro z
          subst z
          have := hh _ (List.mem_of_mem_take hx); omega
        · exact n3 x hx y hy
  · rintro e ⟨a1, here, s, rfl, hk, hh, hnd⟩
    simp?
    refine ⟨by decide, drawIo hD rfl (by decide) (by decide) fun v a2 h2 h3 => ?_⟩
    obtain ⟨w, hw⟩ := four_at h2 h3
    simp? [hw]
    refine ⟨by omega, ?_⟩
    refine for_rng (fun k e => ∃ a st, ∃ s6 s7 : Jk, e = [.io (pen a b), .sh (.int n), .ow (lI here), s.s, .sh (.int w), .ow (stL st), s6.s, s7.s] ∧ StepsBy (rankIn here) n st ∧ st.length ≤ 100 * k) ⟨a2, [], .un, .un, rfl, ⟨fun p h => (by cases h), fun p h => (by cases h)⟩, Nat.le_refl 0⟩ ?_ ?_
    · rintro k e hkn ⟨a, st, s6, s7, rfl, S, hl⟩
      simp? [foT]
      refine ⟨by omega, ?_⟩
      refine for_rng (fun j e => ∃ a st, ∃ s7 : Jk, e = [.io (pen a b), .sh (.int n), .ow (lI here), s.s, .sh (.int w), .ow (stL st), .sh (.int k), s7.s] ∧ StepsBy (rankIn here) n st ∧ st.length ≤ 100 * k + j) ⟨a, st, s7, rfl, S, hl⟩ ?_ ?_
      · rintro j e hjk ⟨a, st, s7, rfl, S, hl⟩
        simp? [foT]
        refine drawIo hD rfl (by decide) (by decide) fun v a2 h4 h5 => ?_
        simp?
        refine Sat_ite.mpr ⟨fun _ => ?_, fun _ => ?_⟩
        case refine_2 =>
          simp?
          exact ⟨a2, st, .sh (.int j), rfl, S, by omega⟩
        have g1 : j < here.length := by omega
        have g2 : k < here.length := by omega
        have at1 : atI (here.map D.int) (j : Int) = some (.int here[j]) := by rw [atI_nat (by simpa using g1), List.getElem_map]
        have at2 : atI (here.map D.int) (k : Int) = some (.int here[k]) := by rw [atI_nat (by simpa using g2), List.getElem_map]
        simp? [at1, at2]
        refine ⟨by decide, by unfold SL; omega, a2, st ++ [(here[j], here[k])], .sh (.int j), by simp only [stL, List.map_append, List.map_cons, List.map_nil]; rfl, ?_, by rw [List.length_append, List.length_singleton]; omega⟩
        have b1 := hh _ (List.getElem_mem g1)
        have b2 := hh _ (List.getElem_mem g2)
        refine ⟨fun p hp => ?_, fun p hp => ?_⟩
        · rcases List.mem_append.mp hp with hp | hp
          · exact S.rg p hp
          · rw [List.mem_singleton.mp hp]
            exact ⟨b1.1, b1.2, b2.1, b2.2⟩
        · rcases List.mem_append.mp hp with hp | hp
          · exact S.lt p hp
          · rw [List.mem_singleton.mp hp]
            show rankIn here (here[j]).toNat < rankIn here (here[k]).toNat
            rw [rankIn_of hnd (k := j) (by rw [List.getElem?_eq_getElem g1, Int.toNat_of_nonneg b1.1]), rankIn_of hnd (k := k) (by rw [List.getElem?_eq_getElem g2, Int.toNat_of_nonneg b2.1])]
            omega
      · rintro e ⟨a, st, s7, rfl, S, hl⟩
        simp?
        exact ⟨a, st, .sh _, s7, rfl, S, by omega⟩
    · rintro e ⟨a, st, s6, s7, rfl, S, hl⟩
      simp?
      exact ⟨st, a, rankIn here, rfl, S⟩
def fOrder (cD cC cS : Nat) : Def := ⟨[true, false], 3,
  [.set 2 (.call cD [.var 0, .op .add (.var 1) (.lit (.int 1))]),
   .ret (some (.call cC [.var 2, .call cS [.var 0, .var 2]]))]⟩
structure OrderMS (T : Tb) (i : Nat) : Prop where
  fl : T.fl i = [true, false]
  run : ∀ a b most, 0 ≤ most → most ≤ 100 → Sat (T.call i [pen a b, .int most]) fun q => ∃ o a', q = ⟨false, oI o, [pen a' b]⟩ ∧ IsOrd o ∧ (o.length : Int) ≤ most
theorem order_sat {cD cC cS : Nat} (hD : DrawS T cD) (hC : ClosedS T cC) (hS : StepsS T cS) {a b most : Int} (h0 : 0 ≤ most) (h1 : most ≤ 100) : Sat (runDef T (fOrder cD cC cS) [pen a b, .int most]) fun q => ∃ o a', q = ⟨false, oI o, [pen a' b]⟩ ∧ IsOrd o ∧ (o.length : Int) ≤ most := by
  refine runDef_sat rfl (by simp [fOrder]) ?_
  show Sat (runB T (fOrder cD cC cS).body [.io (pen a b), .sh (.int most), .un]) _
  simp? [fOrder]
  refine drawIo hD rfl (by omega) (by omega) fun v a2 h2 h3 => ?_
  obtain ⟨n, rfl⟩ : ∃ n : Nat, v = n := ⟨v.toNat, by omega⟩
  simp?
  refine callR_ii hS.fl (by simp) rfl rfl rfl rfl (hS.run a2 b n (by omega)) fun q_ hq_ => ?_
  obtain ⟨st, a3, ρ, rfl, S⟩ := hq_
  refine ⟨_, rfl, ?_⟩
  simp?
  refine callR_dat hC.fl (by simp) rfl rfl rfl (hC.run n st ρ (by omega) S) fun q_ hq_ => ?_
  obtain ⟨o, rfl, hl, O, _⟩ := hq_
  refine ⟨rfl, ?_⟩
  simp?
  exact ⟨o, a3, rfl, ⟨by omega, ρ, O⟩, by omega⟩
end
end VL
/-! VC3: levels and layers. -/
namespace VL
open PySem PySem.Spec L2
local macro_rules
  | `(tactic| simp?) => `(tactic| simp only [jk_io, fk_io, resR, EqV_dat, EqV_own, FindP_nx, FindP_ct, FindP_rt, xL_consK, andK_tt, andK_tf, andK_ff, andK_ft, andK_and, andK_or, id_eq, Res.ok_bind, chk_true, ofO_some, or_false, false_or, or_self, and_false, false_and, not_true_eq_false, not_false_eq_true, decide_false, Bool.false_or, Bool.or_false, Bool.false_and, Bool.and_false, Bool.or_true, Bool.true_or, Sat_ok, Sat_bind, Sat_chk, Sat_ofO, Sat_noX, Sat_inEnv, varO_sh, varO_ow, varO_io, xE_var, xE_lit, xE_op, xE_neg, xE_cmp, xE_chn, xE_and, xE_or, xE_not, xE_ife, xE_tup, xE_lst, xE_dnew, xE_idx, xE_slc, xE_isi, xE_call, xE_blt, xE_rngL, xE_srt, xA_nil, xA_cons, xK_nil, xK_cons, xL_one, xO_none, xO_some, xC_none, xC_some, xI_seq, xI_rng, xI_enm, xI_rvd, setO_own, setO_dat, setO_slot, xS_set, xS_unp, xS_sub, xS_mut, xS_exp, xS_retN, xS_ret, xS_ife, xS_brk, xS_cnt, xS_pas, seqO_nx, seqO_rt, seqO_bk, seqO_ct, xB_nil, xB_cons, frc_dat, frc_own, frc_slot, esc_dat, esc_own, esc_slot, frcs_nil, frcs_cons, rdO_sh, rdO_ow, rdO_io, rd_O, escO_sh, escO_ow, escI_O, upO_ow, upO_io, upS_O, ioO_un, ioO_sh, ioO_ow, stS_O, lstO_ow, lstO_io, isLst_O, bindTg_one, bindTg_many, bindMany_nil, bindMany_cons, asInt_int, asBl_bl, op_add, op_sub, op_mul, op_fdiv, op_mod, op_pow, op_band, op_addL, op_addT, op_mulL, cm_lt, cm_le, cm_gt, cm_ge, eqv_int, cm_eqI, cm_neI, idx_lst, idx_tup, idx_scr, put_lst, mu_app, mu_ins, vb_lenL, vb_lenT, vb_lenS, vb_max2, vb_min2, vb_int1, vb_int1b, vb_list1, vb_list1t, vb_tuple1, vb_tuple1t, vb_divmod, vb_sum, vb_all, vb_sorted, slc_lst, rng_1, rng_2, seqOf_lst, seqOf_tup, seqOf_scr, cm_inT, cm_inL, cm_ninT, cm_ninL, cm_eqLI, cm_neLI, List.getElem?_cons_zero, List.getElem?_cons_succ, List.set_cons_zero, List.set_cons_succ, List.length_cons, List.length_nil, Bool.and_eq_true, Bool.or_eq_true, decide_eq_true_eq, Bool.not_eq_true', Option.some.injEq, exists_eq_left', Bool.not_true, Bool.not_false, and_true, true_and, Nat.zero_le, Int.reduceToNat, Int.reduceLT, Int.reduceLE, Int.reduceAdd, Int.reduceSub, Int.reducePow, Int.reduceMul, and_self, true_or, or_true, Nat.reducePow, Nat.zero_add, Nat.reduceAdd, Nat.reduceLT, Nat.reduceLeDiff, decide_true, Nat.reduceSub, beq_self_eq_true, reduceIte, Bool.true_and, Bool.and_true, List.cons_append, List.nil_append, List.zip_cons_cons, List.zip_nil_left, List.map_cons, List.map_nil, List.replicate, Bool.true_eq_false, Bool.false_eq_true, Tg.slots, xS_for, List.length_map, Int.natAbs_natCast, Int.toNat_natCast, rngIt_0, List.length_range, Bool.false_beq, Bool.true_beq, retR, iosOf, Option.map_some])
  | `(tactic| simp? [$ts,*]) => `(tactic| simp only [$ts,*, jk_io, fk_io, resR, EqV_dat, EqV_own, FindP_nx, FindP_ct, FindP_rt, xL_consK, andK_tt, andK_tf, andK_ff, andK_ft, andK_and, andK_or, id_eq, Res.ok_bind, chk_true, ofO_some, or_false, false_or, or_self, and_false, false_and, not_true_eq_false, not_false_eq_true, decide_false, Bool.false_or, Bool.or_false, Bool.false_and, Bool.and_false, Bool.or_true, Bool.true_or, Sat_ok, Sat_bind, Sat_chk, Sat_ofO, Sat_noX, Sat_inEnv, varO_sh, varO_ow, varO_io, xE_var, xE_lit, xE_op, xE_neg, xE_cmp, xE_chn, xE_and, xE_or, xE_not, xE_ife, xE_tup, xE_lst, xE_dnew, xE_idx, xE_slc, xE_isi, xE_call, xE_blt, xE_rngL, xE_srt, xA_nil, xA_cons, xK_nil, xK_cons, xL_one, xO_none, xO_some, xC_none, xC_some, xI_seq, xI_rng, xI_enm, xI_rvd, setO_own, setO_dat, setO_slot, xS_set, xS_unp, xS_sub, xS_mut, xS_exp, xS_retN, xS_ret, xS_ife, xS_brk, xS_cnt, xS_pas, seqO_nx, seqO_rt, seqO_bk, seqO_ct, xB_nil, xB_cons, frc_dat, frc_own, frc_slot, esc_dat, esc_own, esc_slot, frcs_nil, frcs_cons, rdO_sh, rdO_ow, rdO_io, rd_O, escO_sh, escO_ow, escI_O, upO_ow, upO_io, upS_O, ioO_un, ioO_sh, ioO_ow, stS_O, lstO_ow, lstO_io, isLst_O, bindTg_one, bindTg_many, bindMany_nil, bindMany_cons, asInt_int, asBl_bl, op_add, op_sub, op_mul, op_fdiv, op_mod, op_pow, op_band, op_addL, op_addT, op_mulL, cm_lt, cm_le, cm_gt, cm_ge, eqv_int, cm_eqI, cm_neI, idx_lst, idx_tup, idx_scr, put_lst, mu_app, mu_ins, vb_lenL, vb_lenT, vb_lenS, vb_max2, vb_min2, vb_int1, vb_int1b, vb_list1, vb_list1t, vb_tuple1, vb_tuple1t, vb_divmod, vb_sum, vb_all, vb_sorted, slc_lst, rng_1, rng_2, seqOf_lst, seqOf_tup, seqOf_scr, cm_inT, cm_inL, cm_ninT, cm_ninL, cm_eqLI, cm_neLI, List.getElem?_cons_zero, List.getElem?_cons_succ, List.set_cons_zero, List.set_cons_succ, List.length_cons, List.length_nil, Bool.and_eq_true, Bool.or_eq_true, decide_eq_true_eq, Bool.not_eq_true', Option.some.injEq, exists_eq_left', Bool.not_true, Bool.not_false, and_true, true_and, Nat.zero_le, Int.reduceToNat, Int.reduceLT, Int.reduceLE, Int.reduceAdd, Int.reduceSub, Int.reducePow, Int.reduceMul, and_self, true_or, or_true, Nat.reducePow, Nat.zero_add, Nat.reduceAdd, Nat.reduceLT, Nat.reduceLeDiff, decide_true, Nat.reduceSub, beq_self_eq_true, reduceIte, Bool.true_and, Bool.and_true, List.cons_append, List.nil_append, List.zip_cons_cons, List.zip_nil_left, List.map_cons, List.map_nil, List.replicate, Bool.true_eq_false, Bool.false_eq_true, Tg.slots, xS_for, List.length_map, Int.natAbs_natCast, Int.toNat_natCast, rngIt_0, List.length_range, Bool.false_beq, Bool.true_beq, retR, iosOf, Option.map_some])
/-- one more than the greatest of some, one at least -/
def upto (w : List Int) (l : List Int) : Int := l.foldl (fun m i => max m (gV w i + 1)) 1
theorem foldl_max_ge (w : List Int) : ∀ (l : List Int) (m : Int), m ≤ l.foldl (fun m i => max m (gV w i + 1)) m ∧ ∀ i ∈ l, gV w i + 1 ≤ l.foldl (fun m i => max m (gV w i + 1)) m
  | [], m => ⟨Int.le_refl m, fun i h => by cases h⟩
  | x :: l, m => by
    obtain ⟨h1, h2⟩ := foldl_max_ge w l (max m (gV w x + 1))
    refine ⟨by rw [List.foldl_cons]; omega, fun i hi => ?_⟩
    rw [List.foldl_cons]
    rcases List.mem_cons.mp hi with rfl | hi
    · omega
    · exact h2 i hi
theorem foldl_max_in (w : List Int) : ∀ (l : List Int) (m : Int), l.foldl (fun m i => max m (gV w i + 1)) m = m ∨ ∃ i ∈ l, l.foldl (fun m i => max m (gV w i + 1)) m = gV w i + 1
  | [], m => .inl rfl
  | x :: l, m => by
    rw [List.foldl_cons]
    rcases foldl_max_in w l (max m (gV w x + 1)) with h | ⟨i, hi, h⟩
    · by_cases hx : gV w x + 1 ≤ m
      · left; rw [h]; omega
      · right; exact ⟨x, List.mem_cons_self, by rw [h]; omega⟩
    · exact .inr ⟨i, List.mem_cons_of_mem _ hi, h⟩
theorem upto_ge1 (w l : List Int) : 1 ≤ upto w l := (foldl_max_ge w l 1).1
theorem upto_ge {w l : List Int} {i : Int} (h : i ∈ l) : gV w i + 1 ≤ upto w l := (foldl_max_ge w l 1).2 i h
theorem upto_in (w l : List Int) : upto w l = 1 ∨ ∃ i ∈ l, upto w l = gV w i + 1 := foldl_max_in w l 1
theorem upto_congr {w w' : List Int} : ∀ {l : List Int}, (∀ i ∈ l, gV w i = gV w' i) → upto w l = upto w' l := by
  intro l h
  unfold upto
  have : ∀ (l : List Int) (m : Int), (∀ i ∈ l, gV w i = gV w' i) → l.foldl (fun m i => max m (gV w i + 1)) m = l.foldl (fun m i => max m (gV w' i + 1)) m := by
    intro l
    induction l with
    | nil => intro m _; rfl
    | cons x l ih =>
      intro m h
      rw [List.foldl_cons, List.foldl_cons, h x List.mem_cons_self]
      exact ih _ fun i hi => h i (List.mem_cons_of_mem _ hi)
  exact this l 1 h
theorem upto_take {w l : List Int} {t : Nat} {i : Int} (h : l[t]? = some i) : upto w (l.take (t + 1)) = max (upto w (l.take t)) (gV w i + 1) := by
  unfold upto
  rw [take_at h, List.foldl_append]
  rfl
/-- the levels of an order's points -/
structure Lv (o : List (List Int)) (w : List Int) : Prop where
  len : w.length = o.length
  at' : ∀ p < o.length, gV w (p : Int) = upto w (properL o p)
theorem mem_proper {o : List (List Int)} {p : Nat} {i : Int} : i ∈ properL o p ↔ i ∈ rowO o p ∧ i ≠ (p : Int) := by
  unfold properL
  rw [List.mem_filter]
  simp
section
variable {T : Tb}
def fLevels (cF cP : Nat) : Def := ⟨[false], 4,
  [.set 1 (.op .mul (.lst [.lit (.int 1)]) (.blt .len [.var 0])),
   .for (.one 2) (.seq (.call cF [.var 0])) [.for (.one 3) (.seq (.call cP [.var 0, .var 2])) [.sub 1 (.var 2) (.blt .max2 [.idx (.var 1) (.var 2), .op .add (.idx (.var 1) (.var 3)) (.lit (.int 1))])]],
   .ret (some (.var 1))]⟩
structure LevelsS (T : Tb) (i : Nat) : Prop where
  fl : T.fl i = [false]
  run : ∀ o, IsOrd o → Sat (T.call i [oI o]) fun q => ∃ w, q = ⟨true, lI w, []⟩ ∧ Lv o w
theorem ones_flat (n : Nat) : (List.replicate n [D.int 1]).flatten = (List.replicate n (1 : Int)).map D.int := by
  induction n with
  | zero => rfl
  | succ n ih => rw [List.replicate_succ, List.flatten_cons, ih, List.replicate_succ]; rfl
theorem gV_rep {n : Nat} {i : Int} (h0 : 0 ≤ i) (h1 : i.toNat < n) : gV (List.replicate n 1) i = 1 := by
  unfold gV
  rw [List.getD_eq_getElem?_getD, List.getElem?_replicate, if_pos h1]
  rfl
theorem vb_max2' {i j : Int} : (if j > i then j else i) = max i j := by
  split <;> omega
theorem IsOrd.proper {o : List (List Int)} (h : IsOrd o) {p : Nat} (hp : p < o.length) : (properL o p).length ≤ 100 ∧ (properL o p).Nodup ∧ ∀ i ∈ properL o p, 0 ≤ i ∧ i < (o.length : Int) ∧ i ≠ (p : Int) := by
  obtain ⟨hl, ρ, O⟩ := h
  obtain ⟨h1, h2⟩ := O.rws _ (rowO_mem hp)
  have h3 := nodup_len h1 h2
  have h4 := List.length_filter_le (fun i => !decide (i = (p : Int))) (rowO o p)
  refine ⟨by unfold properL; omega, h1.filter _, fun i hi => ?_⟩
  obtain ⟨a, b⟩ := mem_proper.mp hi
  exact ⟨(h2 i a).1, (h2 i a).2, b⟩
theorem IsOrd.rle {o : List (List Int)} (h : IsOrd o) {p : Nat} (hp : p < o.length) : (rowO o p).length ≤ 1000 := (h.good.2.1 _ (rowO_mem hp)).1
theorem IsOrd.acyc {o : List (List Int)} (h : IsOrd o) : Acyc o := by
  obtain ⟨_, ρ, O⟩ := h
  exact O.toOrdBy.acyc
theorem IsOrd.rws {o : List (List Int)} (h : IsOrd o) : Rows o.length o := by
  obtain ⟨_, ρ, O⟩ := h
  exact O.rws
theorem levels_sat {cF cP : Nat} (hF : FirstS T cF) (hP : ProperS T cP) {o : List (List Int)} (ho : IsOrd o) : Sat (runDef T (fLevels cF cP) [oI o]) fun q => ∃ w, q = ⟨true, lI w, []⟩ ∧ Lv o w := by
  have hl := ho.1
  refine runDef_sat rfl (by simp [fLevels]) ?_
  show Sat (runB T (fLevels cF cP).body [.sh (oI o), .un, .un, .un]) _
  simp? [fLevels]
  refine ⟨by decide, ⟨by omega, by unfold SL; omega⟩, ?_⟩
  rw [ones_flat]
  refine callR_dat hF.fl (by simp) rfl rfl rfl (hF.run o (by omega) ho.rws ho.acyc) fun q_ hq_ => ?_
  obtain ⟨l, rfl, hL⟩ := hq_
  refine ⟨rfl, ?_⟩
  simp?
  refine for_map (fun t e => ∃ w, ∃ s2 s3 : Jk, e = [.sh (oI o), .ow (lI w), s2.s, s3.s] ∧ w.length = o.length ∧ (∀ s, s < t → ∀ q : Nat, l[s]? = some (q : Int) → gV w (q : Int) = upto w (properL o q)) ∧ ∀ s, t ≤ s → ∀ q : Nat, l[s]? = some (q : Int) → gV w (q : Int) = 1) ⟨List.replicate o.length 1, .un, .un, rfl, by simp, fun s hs => absurd hs (Nat.not_lt_zero s), fun s _ q hq => ?_⟩ ?_ ?_
  · have := hL.rg _ (List.mem_of_getElem? hq)
    exact gV_rep (by omega) (by omega)
  · rintro t i e hi ⟨w, s2, s3, rfl, hw, hd, hn⟩
    have hrg := hL.rg i (List.mem_of_getElem? hi)
    obtain ⟨p, rfl⟩ : ∃ p : Nat, i = p := ⟨i.toNat, by omega⟩
    have hp : p < o.length := by omega
    obtain ⟨pl, pn, pr⟩ := ho.proper hp
    have low : ∀ (s q : Nat), s ≤ t → l[s]? = some (q : Int) → ∀ i ∈ properL o q, i ≠ (p : Int) := fun s q hs hq i hi' => by
      have h1 := hL.dn s _ hq i (by rw [Int.toNat_natCast]; exact hi')
      exact fun z => nodup_take hL.nd hi (z ▸ take_mono hs h1)
    simp? [foT]
    refine callR_dat hP.fl (by simp) rfl rfl rfl (hP.run o p hp (ho.rle hp)) fun q_ hq_ => ?_
    obtain rfl := hq_
    refine ⟨rfl, ?_⟩
    simp?
    refine for_map (fun j e => ∃ s3 : Jk, e = [.sh (oI o), .ow (lI (w.set p (upto w ((properL o p).take j)))), .sh (.int p), s3.s]) ⟨s3, ?_⟩ ?_ ?_
    · have : upto w ((properL o p).take 0) = gV w (p : Int) := by rw [hn t (Nat.le_refl t) p hi]; rfl
      rw [this]
      have e1 : w.set p (gV w (p : Int)) = w := by
        unfold gV
        rw [List.getD_eq_getElem?_getD, Int.toNat_natCast, List.getElem?_eq_getElem (by omega)]
        exact List.set_getElem_self (by omega)
      rw [e1]
    · rintro j x e hx ⟨s3, rfl⟩
      obtain ⟨x0, x1, x2⟩ := pr x (List.mem_of_getElem? hx)
      have hpw : p < w.length := by omega
      have at1 : atI ((w.set p (upto w ((properL o p).take j))).map D.int) (p : Int) = some (.int (upto w ((properL o p).take j))) := by
        rw [atI_gV (by omega) (by rw [List.length_set]; omega), gV_set hpw _ (by omega), if_pos rfl]
      have at2 : atI ((w.set p (upto w ((properL o p).take j))).map D.int) x = some (.int (gV w x)) := by
        rw [atI_gV x0 (by rw [List.length_set]; omega), gV_set hpw _ x0, if_neg x2]
      have ix : ixN (w.set p (upto w ((properL o p).take j))).length (p : Int) = some p := by
        rw [ixN_nat (by omega) (by rw [List.length_set]; omega)]
        simp
      simp? [foT, at1, at2, ix]
      refine ⟨.sh (.int x), ?_⟩
      rw [vb_max2', ← upto_take hx]
      simp only [lI, List.map_set, List.set_set]
      rfl
    · rintro e ⟨s3, rfl⟩
      rw [List.take_length]
      simp?
      refine ⟨w.set p (upto w (properL o p)), .sh (.int p), s3, rfl, by rw [List.length_set]; exact hw, fun s hs q hq => ?_, fun s hs q hq => ?_⟩
      · have hsame : upto (w.set p (upto w (properL o p))) (properL o q) = upto w (properL o q) := upto_congr fun i hi' => by
          have := low s q (by omega) hq i hi'
          have hq' := hL.rg _ (List.mem_of_getElem? hq)
          have h0 := ((ho.proper (p := q) (by omega)).2.2 i hi').1
          rw [gV_set (by omega) _ h0, if_neg this]
        rw [hsame, gV_set (by omega) _ (by omega)]
        by_cases hst : s = t
        · subst hst
          rw [hi] at hq
          have e1 : p = q := by have := Option.some.inj hq; omega
          subst e1
          rw [if_pos rfl]
        · have hne : (q : Int) ≠ (p : Int) := fun z => by
            have : (p : Int) ∈ l.take t := by rw [← z]; exact List.mem_of_getElem? (i := s) (by rw [List.getElem?_take_of_lt (by omega)]; exact hq)
            exact nodup_take hL.nd hi this
          rw [if_neg hne]
          exact hd s (by omega) q hq
      · have hne : (q : Int) ≠ (p : Int) := fun z => by
          rw [z] at hq
          have := nodup_at hL.nd hi hq
          omega
        rw [gV_set (by omega) _ (by omega), if_neg hne]
        exact hn s (by omega) q hq
  · rintro e ⟨w, s2, s3, rfl, hw, hd, _⟩
    simp?
    refine ⟨w, rfl, hw, fun p hp => ?_⟩
    obtain ⟨s, hs⟩ := line_all hL hp
    exact hd s (List.getElem?_eq_some_iff.mp hs).1 p hs
end
end VL
/-! VC4: layers (law k22). -/
namespace VL
open PySem PySem.Spec L2
def topL (w : List Int) : Nat := (maxI (w ++ [0])).toNat
theorem max_top {w : List Int} (h : ∀ x ∈ w, 0 ≤ x) : maxI (w ++ [0]) = (topL w : Int) ∧ ∀ x ∈ w, x ≤ (topL w : Int) := by
  obtain ⟨h1, h2⟩ := maxI_spec (ns := w ++ [0]) (by simp)
  have h0 : 0 ≤ maxI (w ++ [0]) := h2 0 (by simp)
  have e : ((topL w : Nat) : Int) = maxI (w ++ [0]) := by unfold topL; omega
  exact ⟨e.symm, fun x hx => by rw [e]; exact h2 x (by simp [hx])⟩
theorem Lv.ge1 {o : List (List Int)} {w : List Int} (h : Lv o w) : ∀ x ∈ w, 1 ≤ x := fun x hx => by
  obtain ⟨p, hp⟩ := List.getElem?_of_mem hx
  have hp1 := (List.getElem?_eq_some_iff.mp hp).1
  have := h.at' p (by rw [← h.len]; exact hp1)
  have e : gV w (p : Int) = x := by
    unfold gV
    rw [List.getD_eq_getElem?_getD, Int.toNat_natCast, hp]; rfl
  rw [← e, this]
  exact upto_ge1 _ _
theorem gV_mem {w : List Int} {p : Nat} (hp : p < w.length) : gV w (p : Int) ∈ w := by
  unfold gV
  rw [List.getD_eq_getElem?_getD, Int.toNat_natCast, List.getElem?_eq_getElem hp]
  exact List.getElem_mem hp
section
variable {T : Tb}
theorem topL_le {o : List (List Int)} {w : List Int} (ho : IsOrd o) (hw : Lv o w) : topL w ≤ o.length := by
  -- a point of level k has one of level k - 1 beneath it, .. so there are k points
  refine Classical.byContradiction fun hn => ?_
  have lev : ∀ (k : Nat) (p : Nat), p < o.length → gV w (p : Int) = (k : Int) + 1 → ∃ l : List Int, l.length = k + 1 ∧ l.Nodup ∧ (∀ i ∈ l, 0 ≤ i ∧ i < (o.length : Int) ∧ gV w i ≤ (k : Int) + 1) := by
    intro k
    induction k with
    | zero =>
      intro p hp h
      exact ⟨[(p : Int)], rfl, by simp, fun i hi => by rw [List.mem_singleton.mp hi]; omega⟩
    | succ k ih =>
      intro p hp h
      have hat := hw.at' p hp
      rcases upto_in w (properL o p) with h1 | ⟨i, hi, h1⟩
      · omega
      · obtain ⟨i3, i4, _⟩ := (ho.proper hp).2.2 i hi
        obtain ⟨l, l1, l2, l3⟩ := ih i.toNat (by omega) (by rw [Int.toNat_of_nonneg i3]; omega)
        refine ⟨(p : Int) :: l, by simp [l1], List.nodup_cons.mpr ⟨fun z => ?_, l2⟩, fun j hj => ?_⟩
        · have := (l3 _ z).2.2; omega
        · rcases List.mem_cons.mp hj with rfl | hj
          · omega
          · have := l3 j hj; omega
  obtain ⟨h1, h2⟩ := max_top (w := w) fun x hx => by have := hw.ge1 x hx; omega
  obtain ⟨m1, _⟩ := maxI_spec (ns := w ++ [0]) (by simp)
  rw [h1] at m1
  rcases List.mem_append.mp m1 with m1 | m1
  · obtain ⟨p, hp⟩ := List.getElem?_of_mem m1
    have hp1 := (List.getElem?_eq_some_iff.mp hp).1
    have e : gV w (p : Int) = (topL w : Int) := by
      unfold gV
      rw [List.getD_eq_getElem?_getD, Int.toNat_natCast, hp]; rfl
    obtain ⟨l, l1, l2, l3⟩ := lev (topL w - 1) p (by rw [← hw.len]; exact hp1) (by omega)
    have := nodup_len l2 fun i hi => ⟨(l3 i hi).1, (l3 i hi).2.1⟩
    omega
  · have := List.mem_singleton.mp m1
    omega
end
end VL
/-! VC6: levels and heights by going over and over (law k07). -/
namespace VL
open PySem PySem.Spec L2
/-! going over pairs -/
theorem Lv.le {o : List (List Int)} {w : List Int} (ho : IsOrd o) (hw : Lv o w) : ∀ p < o.length, gV w (p : Int) ≤ (o.length : Int) := fun p hp => by
  have h1 := (max_top (w := w) fun x hx => by have := hw.ge1 x hx; omega).2 _ (gV_mem (w := w) (p := p) (by rw [hw.len]; exact hp))
  have h2 := topL_le ho hw
  omega
section
variable {T : Tb}
theorem enumF_map {α : Type} (f : α → D) : ∀ (l : List α) (k : Nat), enumF k (l.map f) = (List.range l.length).map fun i => D.tup [.int ((k + i : Nat) : Int), (l.map f).getD i .non]
  | [], _ => rfl
  | x :: l, k => by
    rw [List.map_cons]
    show D.tup [.int (k : Nat), f x] :: enumF (k + 1) (l.map f) = _
    rw [enumF_map f l (k + 1), List.length_cons, List.range_succ_eq_map, List.map_cons, List.map_map]
    congr 1
    refine List.map_congr_left fun i _ => ?_
    show _ = D.tup [.int ((k + (i + 1) : Nat) : Int), (f x :: l.map f).getD (i + 1) .non]
    rw [show k + (i + 1) = k + 1 + i by omega]
    rfl
end
end VL
/-! VC7: levels by going over and over, heights, and the longest chains (law k07). -/
namespace VL
open PySem PySem.Spec L2
def PsLv : List Def := [fProper, fFirst 0, fLevels 1 0]
theorem lv_proper (lv : Nat) : ProperS (TT PsLv (lv + 1)) 0 := ⟨rfl, fun o p h1 h2 => tt_sat (d := fProper) rfl (proper_sat h1 h2)⟩
theorem lv_first (lv : Nat) : FirstS (TT PsLv (lv + 2)) 1 := ⟨rfl, fun o h1 h2 h3 => tt_sat (d := fFirst 0) rfl (first_sat (lv_proper lv) h1 h2 h3)⟩
theorem lv_levels (lv : Nat) : LevelsS (TT PsLv (lv + 3)) 2 := ⟨rfl, fun o h => tt_sat (d := fLevels 1 0) rfl (levels_sat (lv_first lv) (lv_proper (lv + 1)) h)⟩
/-- each order has levels -/
theorem exists_lv {o : List (List Int)} (ho : IsOrd o) : ∃ w, Lv o w := by
  obtain ⟨_, _, w, _, hw⟩ := (lv_levels 0).run o ho
  exact ⟨w, hw⟩
theorem Lv.lt {o : List (List Int)} {w : List Int} (hw : Lv o w) {p q : Nat} (hp : p < o.length) (h : (q : Int) ∈ rowO o p) (ne : q ≠ p) : gV w (q : Int) + 1 ≤ gV w (p : Int) := by
  rw [hw.at' p hp]
  exact upto_ge (mem_proper.mpr ⟨h, by omega⟩)
section
variable {T : Tb}
theorem turn_row {o : List (List Int)} {p q : Nat} (hp : p < o.length) (hq : q < o.length) : (q : Int) ∈ rowO (turnI o) p ↔ (p : Int) ∈ rowO o q := by
  rw [rowO_turn hp, mem_turn]
  constructor
  · rintro ⟨h, e, _, h2⟩
    have : h = q := by omega
    exact this ▸ h2
  · exact fun h => ⟨q, rfl, hq, h⟩
end
end VL
/-! VC9: chains counted by their steps, and their sums by turns. -/
namespace VL
open PySem PySem.Spec L2
/-! sums -/
section
variable {α β : Type}
theorem sum_zero {l : List α} {f : α → Int} (h : ∀ x ∈ l, f x = 0) : (l.map f).sum = 0 := by
  induction l with
  | nil => rfl
  | cons x l ih => rw [List.map_cons, List.sum_cons, h x List.mem_cons_self, ih fun y hy => h y (List.mem_cons_of_mem _ hy)]; rfl
end
/-! chains from a point, by steps -/
def Cn (o : List (List Int)) (i : Nat) : Nat → Nat → Int
  | 0, p => if p = i then 1 else 0
  | t + 1, p => ((properL o p).map fun q => Cn o i t q.toNat).sum
section
variable {o : List (List Int)} {i : Nat}
theorem cn_dn (ho : IsOrd o) {t p : Nat} (hp : p < o.length) (h : Cn o i (t + 1) p ≠ 0) : ∃ q : Nat, q < o.length ∧ (q : Int) ∈ rowO o p ∧ q ≠ p ∧ Cn o i t q ≠ 0 := by
  refine Classical.byContradiction fun hc => h (sum_zero fun x hx => Classical.byContradiction fun hne => hc ?_)
  obtain ⟨r0, r1, r2⟩ := (ho.proper hp).2.2 x hx
  have e : ((x.toNat : Nat) : Int) = x := by omega
  exact ⟨x.toNat, by omega, by rw [e]; exact (mem_proper.mp hx).1, by omega, hne⟩
theorem cn_u {u : List Int} (ho : IsOrd o) (hu : Lv (turnI o) u) : ∀ {t p : Nat}, p < o.length → Cn o i t p ≠ 0 → gV u (p : Int) + t ≤ gV u (i : Int)
  | 0, p, _, h => by
    have : p = i := Classical.byContradiction fun z => h (if_neg z)
    subst this; omega
  | t + 1, p, hp, h => by
    obtain ⟨q, q1, q2, q3, q4⟩ := cn_dn ho hp h
    have := cn_u ho hu q1 q4
    have := hu.lt (p := q) (q := p) (by rw [turn_len]; exact q1) ((turn_row q1 hp).mpr q2) (Ne.symm q3)
    omega
theorem IsOrd.trans (ho : IsOrd o) {p : Nat} (hp : p < o.length) {q x : Int} (hq : q ∈ rowO o p) (hx : x ∈ rowO o q.toNat) : x ∈ rowO o p := by
  obtain ⟨_, ρ, O⟩ := ho
  exact O.tr p hp q hq x hx
theorem cn_top (ho : IsOrd o) {t p : Nat} (hi : i < o.length) (hp : p < o.length) (ht : o.length ≤ t) : Cn o i t p = 0 := by
  obtain ⟨u, hu⟩ := exists_lv ho.turn
  refine Classical.byContradiction fun h => ?_
  have h1 := cn_u ho hu hp h
  have h2 := hu.le ho.turn i (by rw [turn_len]; exact hi)
  have h3 := hu.ge1 _ (gV_mem (w := u) (p := p) (by rw [hu.len, turn_len]; exact hp))
  rw [turn_len] at h2
  omega
end
/-! read from the other end -/
/-! told numbers -/
def sg (t : Nat) : Int := 1 - 2 * ((t : Int) % 2)
section
variable {o : List (List Int)} {i j : Nat}
end
end VL
/-! VC11: told numbers asked, chains counted. -/
namespace VL
open PySem PySem.Spec L2
/-- as many steps as are told: none behind -/
structure Cts (o : List (List Int)) (i j K : Nat) : Prop where
  off : ∀ t, K ≤ t → Cn o i t j = 0
  lst : K = 0 ∨ Cn o i (K - 1) j ≠ 0
theorem Cts.le {o : List (List Int)} {i j K : Nat} (ho : IsOrd o) (hi : i < o.length) (hj : j < o.length) (c : Cts o i j K) : K ≤ o.length := by
  rcases c.lst with h | h
  · omega
  · refine Classical.byContradiction fun z => h (cn_top ho hi hj (by omega))
theorem cts_uniq {o : List (List Int)} {i j K K' : Nat} (a : Cts o i j K) (b : Cts o i j K') : K = K' := by
  rcases Nat.lt_trichotomy K K' with h | h | h
  · rcases b.lst with z | z
    · omega
    · exact absurd (a.off _ (by omega)) z
  · exact h
  · rcases a.lst with z | z
    · omega
    · exact absurd (b.off _ (by omega)) z
section
variable {T : Tb}
end
end VL
/-! VC14: law k23, the whole. -/
namespace VL
open PySem PySem.Spec L2
section
variable {o : List (List Int)} {u : List Int}
theorem u_top (hu : Lv (turnI o) u) {i : Nat} (hi : i < o.length) : gV u (i : Int) ≤ (topL u : Int) ∧ 1 ≤ gV u (i : Int) := by
  have hm : gV u (i : Int) ∈ u := gV_mem (w := u) (p := i) (by rw [hu.len, turn_len]; exact hi)
  exact ⟨(max_top fun x hx => by have := hu.ge1 x hx; omega).2 _ hm, hu.ge1 _ hm⟩
theorem cts_top (ho : IsOrd o) (hu : Lv (turnI o) u) {i j K : Nat} (hi : i < o.length) (hj : j < o.length) (c : Cts o i j K) : K ≤ topL u := by
  rcases c.lst with h | h
  · omega
  · have := cn_u ho hu hj h
    have := u_top hu hi
    have := u_top hu hj
    omega
/-- the longest of those seen -/
structure Vis (o : List (List Int)) (u : List Int) (J I m : Nat) : Prop where
  le : m ≤ topL u
  all : o.length < 8 → ∀ i j K : Nat, (j < J ∨ j = J ∧ i < I) → i < o.length → j < o.length → Cts o i j K → K ≤ m
theorem Vis.step (ho : IsOrd o) (hu : Lv (turnI o) u) {J I m K : Nat} (v : Vis o u J I m) (hi : I < o.length) (hj : J < o.length) (c : Cts o I J K) : Vis o u J (I + 1) (max m K) := by
  refine ⟨by have := v.le; have := cts_top ho hu hi hj c; omega, fun h8 i j K' h hi' hj' c' => ?_⟩
  by_cases e : j = J ∧ i = I
  · obtain ⟨rfl, rfl⟩ := e
    have := cts_uniq c c'
    omega
  · have := v.all h8 i j K' (by omega) hi' hj' c'
    omega
end
section
variable {T : Tb}
end
end VL
/-! VN3: comprehensions over two names; pairs sorted. -/
namespace VL
open PySem PySem.Spec L2
theorem set2 {env e : EnvD} {i j : Nat} (ne : i ≠ j) (h : e = env ∨ ∃ t u, e = (env.set i t).set j u) (a b : Slot) : (e.set i a).set j b = (env.set i a).set j b := by
  rcases h with rfl | ⟨t, u, rfl⟩
  · rfl
  · rw [List.set_comm _ _ (Ne.symm ne), List.set_set, List.set_set]
theorem set2w {e : EnvD} {i j : Nat} (ne : i ≠ j) (a b : Slot) : ((((e.set j .un).set i .un).set i a).set j b) = (e.set i a).set j b := by
  rw [List.set_set, List.set_comm _ _ (Ne.symm ne), List.set_set]
section
variable {α β : Type} {T : Tb}
theorem lc_two {elt : CE} {i j : Nat} {it : CI} {c : Option CE} {env0 : EnvD} (env : EnvD) {s1 s2 : Slot} {as : List α} {ea eb : α → D} {p : α → Bool} {g : α → β} {fe : β → D} (ne : i ≠ j) (hi : env[i]? = some s1) (hj : env[j]? = some s2) (hf1 : s1 = .un ∨ ∃ d, s1 = .sh d) (hf2 : s2 = .un ∨ ∃ d, s2 = .sh d)
    (hI : Sat (runI T it env0) fun z => z = (as.map (fun a => D.tup [ea a, eb a]), env)) (hl : as.length ≤ SL)
    (hc : ∀ x ∈ as, Sat (runC T c ((env.set i (.sh (ea x))).set j (.sh (eb x)))) fun z => z = (p x, (env.set i (.sh (ea x))).set j (.sh (eb x))))
    (he : ∀ x ∈ as, p x = true → Sat (runE T elt ((env.set i (.sh (ea x))).set j (.sh (eb x)))) fun z => z = (.dat (fe (g x)), (env.set i (.sh (ea x))).set j (.sh (eb x))) ∨ z = (.own (fe (g x)), (env.set i (.sh (ea x))).set j (.sh (eb x)))) :
    Sat (runE T (.lc elt (.many [i, j]) it c) env0) fun z => z = (.own (.lst (((as.filter p).map g).map fe)), env) := by
  have hlt : i < env.length := (List.getElem?_eq_some_iff.mp hi).1
  have hlj : j < env.length := (List.getElem?_eq_some_iff.mp hj).1
  rw [xE_lc]
  refine Sat.bind hI fun z hz => ?_
  subst hz
  have hfr : freeOf env (Tg.slots (.many [i, j])) = true := by
    show (([i, j] : List Nat).all fun i => _) = true
    simp only [List.all_cons, List.all_nil, Bool.and_true, hi, hj]
    rcases hf1 with rfl | ⟨d, rfl⟩ <;> rcases hf2 with rfl | ⟨d', rfl⟩ <;> rfl
  refine Sat.bind (P := fun _ => True) (Sat_chk.mpr ⟨hfr, trivial⟩) fun _ _ => ?_
  refine Sat.bind (lcL_sat (I := fun k e acc => (e = env ∨ ∃ t u, e = (env.set i t).set j u) ∧ acc = (((as.take k).filter p).map g).map fe) ⟨.inl rfl, by simp⟩ fun k x e acc hx ⟨h1, h2⟩ => ?_) fun q hq => ?_
  · rw [List.getElem?_map] at hx
    obtain ⟨a, ha, rfl⟩ := Option.map_eq_some_iff.mp hx
    have hk : k < as.length := (List.getElem?_eq_some_iff.mp ha).1
    have hxm : a ∈ as := List.mem_of_getElem? ha
    have hel : e.length = env.length := by rcases h1 with rfl | ⟨t, u, rfl⟩ <;> simp
    have hb : bindTg (wipeE e (Tg.slots (.many [i, j]))) (.many [i, j]) (.tup [ea a, eb a]) = .ok ((env.set i (.sh (ea a))).set j (.sh (eb a))) := by
      have k1 : stS ((e.set j .un).set i .un) i (.sh (ea a)) = .ok (((e.set j .un).set i .un).set i (.sh (ea a))) := by
        rw [stS_O]
        have : ((e.set j .un).set i .un)[i]? = some .un := List.getElem?_set_self (by simp; omega)
        rw [this]
        have h3 : (decide (i < ((e.set j Slot.un).set i Slot.un).length) && !ioO (some .un)) = true := by simp [hel, hlt]
        rw [h3]; rfl
      have k2 : stS (((e.set j .un).set i .un).set i (.sh (ea a))) j (.sh (eb a)) = .ok ((((e.set j .un).set i .un).set i (.sh (ea a))).set j (.sh (eb a))) := by
        rw [stS_O]
        have : (((e.set j .un).set i .un).set i (.sh (ea a)))[j]? = some .un := by
          rw [List.getElem?_set_ne ne, List.getElem?_set_ne ne, List.getElem?_set_self (by omega)]
        rw [this]
        have h3 : (decide (j < (((e.set j Slot.un).set i Slot.un).set i (Slot.sh (ea a))).length) && !ioO (some .un)) = true := by simp [hel, hlj]
        rw [h3]; rfl
      show (stS ((e.set j .un).set i .un) i (.sh (ea a)) >>= fun e => stS e j (.sh (eb a)) >>= fun e => Res.ok e) = _
      rw [k1]
      show (stS (((e.set j .un).set i .un).set i (.sh (ea a))) j (.sh (eb a)) >>= fun e => Res.ok e) = _
      rw [k2]
      show Res.ok _ = _
      rw [set2w ne, set2 ne h1]
    have htake : (as.take (k + 1)).filter p = (as.take k).filter p ++ (if p a = true then [a] else []) := by
      rw [List.take_succ, ha, List.filter_append]
      by_cases hp : p a = true <;> simp [hp]
    have hal : acc.length < SL := by
      rw [h2, List.length_map, List.length_map]
      have := List.length_filter_le p (as.take k)
      rw [List.length_take] at this
      omega
    unfold lcT
    refine Sat.bind ⟨_, hb, rfl⟩ fun e3 h3 => ?_
    subst h3
    refine Sat.bind (hc a hxm) fun z hz => ?_
    subst hz
    refine Sat_iteB (fun hp => ?_) (fun hp => ?_)
    · refine Sat.bind (he a hxm hp) fun z hz => ?_
      rcases hz with rfl | rfl
      · exact ⟨_, rfl, hal, .inr ⟨_, _, rfl⟩, by rw [htake, if_pos hp, h2]; simp⟩
      · exact ⟨_, rfl, hal, .inr ⟨_, _, rfl⟩, by rw [htake, if_pos hp, h2]; simp⟩
    · exact ⟨_, rfl, .inr ⟨_, _, rfl⟩, by rw [htake, if_neg (by rw [hp]; exact Bool.false_ne_true), h2]; simp⟩
  · obtain ⟨ds, e2⟩ := q
    obtain ⟨h1, h2⟩ := hq
    refine Sat_ok.mpr ?_
    have h1 : e2 = env ∨ ∃ t u, e2 = (env.set i t).set j u := h1
    have h2 : ds = (((as.take (as.map (fun a => D.tup [ea a, eb a])).length).filter p).map g).map fe := h2
    rw [h2, List.length_map, List.take_length]
    have : backE env e2 [i, j] = env := by
      show (e2.set j (env.getD j .un)).set i (env.getD i .un) = env
      rw [getD_of hi, getD_of hj, List.set_comm _ _ (Ne.symm ne), set2 ne h1, set_same hi, set_same hj]
    show (R.own (.lst _), backE env e2 [i, j]) = _
    rw [this]
/-- two names, no test -/
theorem lcM {elt : CE} {i j : Nat} {it : CI} {env0 : EnvD} {Q : R × EnvD → Prop} (env : EnvD) {s1 s2 : Slot} {as : List α} {ea eb : α → D} (g : α → β) (fe : β → D) (ne : i ≠ j) (hi : env[i]? = some s1) (hj : env[j]? = some s2) (hf1 : s1 = .un ∨ ∃ d, s1 = .sh d) (hf2 : s2 = .un ∨ ∃ d, s2 = .sh d)
    (hI : Sat (runI T it env0) fun z => z = (as.map (fun a => D.tup [ea a, eb a]), env)) (hl : as.length ≤ 10000000)
    (he : ∀ x ∈ as, Sat (runE T elt ((env.set i (.sh (ea x))).set j (.sh (eb x)))) fun z => EqV z.1 (fe (g x)) ∧ z.2 = (env.set i (.sh (ea x))).set j (.sh (eb x)))
    (k : Q (.own (.lst ((as.map g).map fe)), env)) : Sat (runE T (.lc elt (.many [i, j]) it none) env0) Q := by
  have := lc_two (p := fun _ => true) (c := none) (g := g) (fe := fe) (elt := elt) env ne hi hj hf1 hf2 hI (by unfold SL; omega) (fun x _ => ⟨_, rfl, rfl⟩) fun x hx _ => (he x hx).mono fun z hz => by
    obtain ⟨r, e⟩ := z
    obtain ⟨h1, h2⟩ := hz
    have h2 : e = _ := h2
    subst h2
    rcases h1 with h1 | h1 <;> (have h1 : r = _ := h1; subst h1)
    · exact .inl rfl
    · exact .inr rfl
  rw [show as.filter (fun _ => true) = as from List.filter_eq_self.mpr fun _ _ => rfl] at this
  exact this.mono fun z hz => by subst hz; exact k
end
end VL
/-! VC21: law k06: lines, as looked at by the law. -/
namespace VL
open PySem PySem.Spec L2
section
variable {T : Tb}
theorem bf_sortT {l : List Int} : bfD .sorted1 [tI l] = .ok (.own (lI (sortI l))) := by
  show (ofO ((l.map D.int).mapM asInt) >>= fun ns => Res.ok (R.own (.lst ((sortI ns).map .int)))) = _
  rw [mapM_ints]; rfl
end
end VL
/-! VC24: odd things. -/
namespace VL
open PySem PySem.Spec L2
section
variable {T : Tb}
theorem op_tI {x y : List Int} : opD .add (tI x) (tI y) = (chk (decide (x.length + y.length ≤ SL)) >>= fun _ => .ok (.dat (tI (x ++ y)))) := by
  show (chk (decide ((x.map D.int).length + (y.map D.int).length ≤ SL)) >>= fun _ => Res.ok (R.dat (.tup (x.map D.int ++ y.map D.int)))) = _
  rw [List.length_map, List.length_map, ← List.map_append]
end
end VL
/-! VN4: refusals. -/
namespace VL
open PySem PySem.Spec L2
/-- what comes out: an answer or a refusal -/
def Wp {α : Type} (x : Res α) (Q : α → Prop) (E : Ex → Prop) : Prop := match x with
  | .ok a => Q a
  | .exc c => E c
  | .fail => False
section
variable {α β : Type} {E : Ex → Prop}
theorem Wp_bind {x : Res α} {f : α → Res β} {Q : β → Prop} : Wp (x >>= f) Q E ↔ Wp x (fun a => Wp (f a) Q E) E := by cases x <;> exact Iff.rfl
theorem Wp.mono {x : Res α} {P Q : α → Prop} {E' : Ex → Prop} (h : Wp x P E') (k : ∀ a, P a → Q a) (k' : ∀ c, E' c → E c) : Wp x Q E := by
  cases x with
  | ok a => exact k a h
  | exc c => exact k' c h
  | fail => exact h
theorem Wp.bind {x : Res α} {f : α → Res β} {P : α → Prop} {Q : β → Prop} (h : Wp x P E) (k : ∀ a, P a → Wp (f a) Q E) : Wp (x >>= f) Q E := Wp_bind.mpr (h.mono k fun _ z => z)
end
section
variable {T : Tb} {env : EnvD} {E : Ex → Prop}
end
/-! ### which refusal it is -/
def kinds : List (Str × Str) := [("NoPoint", "point"), ("NoChain", "chain"), ("NoMap", "map"), ("NoLine", "line"), ("NoRow", "row"), ("NoStep", "step"), ("Round", "round"), ("NoBack", "back"), ("NoMarks", "marks"), ("NoText", "text"), ("TooGreat", "great")]
section
variable {T : Tb}
theorem xE_mth {m : Mt} {o : CE} {es : List CE} {env : EnvD} : runE T (.mth m o es) env = (runE T o env >>= fun p => frc p.2 p.1 >>= fun d0 => chk (mtOk m d0) >>= fun _ => runA T es p.2 >>= fun q => chk (q.1.all R.isVal) >>= fun _ => frc q.2 p.1 >>= fun d => frcs q.2 q.1 >>= fun ds => mtD m d ds >>= fun r => .ok (r, q.2)) := rfl
end
end VL
/-! VC58: dicts walked, compared; law k11. -/
namespace VL
open PySem PySem.Spec L2
section
variable {T : Tb} {env : EnvD}
theorem noX_sat {α : Type} {x : Res α} {Q : α → Prop} (h : Sat x Q) : Sat (noX x) Q := Sat_noX.mpr h
theorem forD_sh {tg : Tg} {i : Nat} {b : List CS} {d : D} {xs : List D} {Q : Out → Prop} (h : env[i]? = some (.sh d)) (hk : keysD d = some xs) (k : Sat (forL (foT T tg b) xs env) Q) : Sat (runS T (.forD tg i b) env) Q := by
  have e : runS T (.forD tg i b) env = noX (forL (foT T tg b) xs env) := by
    show noX (escI env i >>= fun e0 => dkyD e0 i >>= fun xs => forL (foT T tg b) xs e0) = _
    have h1 : escI env i = .ok env := by unfold escI; rw [h]
    have h2 : dkyD env i = .ok xs := by unfold dkyD; rw [h]; show ofO (keysD d) = _; rw [hk]; rfl
    rw [h1]
    show noX (dkyD env i >>= _) = _
    rw [h2]
    rfl
  rw [e]
  exact noX_sat k
theorem escI_ow {i : Nat} {d : D} (h : env[i]? = some (.ow d)) : escI env i = .ok (env.set i (.sh d)) := by unfold escI; rw [h]
theorem set_get {i : Nat} {s t : Slot} (h : env[i]? = some t) : (env.set i s)[i]? = some s := by
  rw [List.getElem?_set]
  have := (List.getElem?_eq_some_iff.mp h).1
  simp [this]
theorem forD_ow {tg : Tg} {i : Nat} {b : List CS} {d : D} {xs : List D} {Q : Out → Prop} (h : env[i]? = some (.ow d)) (hk : keysD d = some xs) (k : Sat (forL (foT T tg b) xs (env.set i (.sh d))) Q) : Sat (runS T (.forD tg i b) env) Q := by
  have e : runS T (.forD tg i b) env = noX (forL (foT T tg b) xs (env.set i (.sh d))) := by
    show noX (escI env i >>= fun e0 => dkyD e0 i >>= fun xs => forL (foT T tg b) xs e0) = _
    have h2 : dkyD (env.set i (.sh d)) i = .ok xs := by unfold dkyD; rw [set_get h]; show ofO (keysD d) = _; rw [hk]; rfl
    rw [escI_ow h]
    show noX (dkyD (env.set i (.sh d)) i >>= _) = _
    rw [h2]
    rfl
  rw [e]
  exact noX_sat k
end
/-! ### tables alike -/
section
variable {kvs kvs' : List (List Key × D)} {dom : Nat → Nat → Prop} {val : Nat → Nat → Int}
end
section
variable {T : Tb}
end
end VL
/-! VC60: tables taken times; tables drawn; law k27. -/
namespace VL
open PySem PySem.Spec L2
/-! ### sizes of numbers -/
theorem bits_int {a : Int} {n : Nat} (h : a.natAbs < 2 ^ n) : Builtin.Int.intBits a ≤ n := by
  unfold Builtin.Int.intBits
  split
  · omega
  · rename_i hz
    have h0 : a.natAbs ≠ 0 := fun z => by
      have e : a = 0 := by omega
      subst e
      exact hz rfl
    have := (Nat.log2_lt h0).mpr h
    omega
theorem mulOk_pow {a b : Int} {n m : Nat} (ha : a.natAbs < 2 ^ n) (hb : b.natAbs < 2 ^ m) (h : n + m ≤ 1000000) : mulOk a b = true := by
  unfold mulOk
  have h1 := bits_int ha
  have h2 := bits_int hb
  rw [show decide ((Builtin.Int.intBits a : Int) + (Builtin.Int.intBits b : Int) ≤ 134217728) = true from decide_eq_true (by omega)]
  simp
/-! ### copies: no two keys with one hash -/
/-! ### times -/
section
variable {T : Tb}
/-! ### numbers and tables drawn -/
end
end VL
/-! VC31: maps of orders, partners: plain. -/
namespace VL
open PySem PySem.Spec L2
/-- where it falls -/
def bad (o p : List (List Int)) (f : List Int) (i j : Nat) : Bool := decide ((i : Int) ∈ rowO o j) && !decide (gV f (i : Int) ∈ rowO p (gV f (j : Int)).toNat)
section
variable {o p : List (List Int)} {f : List Int}
end
end VL
/-! VC46: recipes, and what is a place. -/
namespace VL
open PySem PySem.Spec L2
/-- a recipe -/
inductive Rc where
  | line (n : Nat) | apart (n : Nat) | subsets (n : Nat) | divisors (n : Nat)
  | turned (r : Rc) | beside (a b : Rc) | upon (a b : Rc) | times (a b : Rc)
def Rc.d : Rc → D
  | .line n => .tup [.str "line", .int n]
  | .apart n => .tup [.str "apart", .int n]
  | .subsets n => .tup [.str "subsets", .int n]
  | .divisors n => .tup [.str "divisors", .int n]
  | .turned r => .tup [.str "turned", r.d]
  | .beside a b => .tup [.str "beside", a.d, b.d]
  | .upon a b => .tup [.str "upon", a.d, b.d]
  | .times a b => .tup [.str "times", a.d, b.d]
def Rc.ok : Rc → Prop
  | .line n => n ≤ 60
  | .apart n => n ≤ 60
  | .subsets n => n ≤ 30
  | .divisors n => 1 ≤ n ∧ n ≤ 10000
  | .turned r => r.ok
  | .beside a b => a.ok ∧ b.ok
  | .upon a b => a.ok ∧ b.ok
  | .times a b => a.ok ∧ b.ok
theorem Rc.pure : ∀ r : Rc, r.d.pure = true
  | .line n => rfl
  | .apart n => rfl
  | .subsets n => rfl
  | .divisors n => rfl
  | .turned r => by show (true && (r.d.pure && true)) = true; rw [r.pure]; rfl
  | .beside a b => by show (true && (a.d.pure && (b.d.pure && true))) = true; rw [a.pure, b.pure]; rfl
  | .upon a b => by show (true && (a.d.pure && (b.d.pure && true))) = true; rw [a.pure, b.pure]; rfl
  | .times a b => by show (true && (a.d.pure && (b.d.pure && true))) = true; rw [a.pure, b.pure]; rfl
section
variable {T : Tb}
/-! ### the program's -/
end
end VL
/-! VC47: recipes, as the law looks; how many places; the place of a number. -/
namespace VL
open PySem PySem.Spec L2
theorem op_shl {i j : Int} : opD .shl (.int i) (.int j) = (chk (decide (0 ≤ j) && decide (j ≤ 1000000) && decide (i.natAbs < 18446744073709551616)) >>= fun _ => .ok (.dat (.int (i * 2 ^ j.toNat)))) := rfl
theorem op_shr {i j : Int} : opD .shr (.int i) (.int j) = (chk (decide (0 ≤ j)) >>= fun _ => .ok (.dat (.int (i / 2 ^ j.toNat)))) := rfl
section
variable {T : Tb}
/-! ### how many -/
def lowL (n : Int) : List Int := ((List.range 100).filter fun k : Nat => decide ((1 + (k : Int) * 1) * (1 + (k : Int) * 1) ≤ n) && decide (n % (1 + (k : Int) * 1) = 0)).map fun k : Nat => 1 + (k : Int) * 1
def divL (n : Int) : List Int := lowL n ++ ((lowL n).reverse.filter fun x => decide (x * x < n)).map fun x => n / x
def many : Rc → Nat
  | .line n => n
  | .apart n => n
  | .subsets n => 2 ^ n
  | .divisors n => (divL n).length
  | .turned r => many r
  | .beside a b => many a + many b
  | .upon a b => many a + many b
  | .times a b => many a * many b
/-! ### the place of a number -/
end
end VL
/-! VC48: recipes drawn, places bent, law k34. -/
namespace VL
open PySem PySem.Spec L2
local macro_rules
  | `(tactic| simp?) => `(tactic| simp only [jk_io, fk_io, resR, EqV_dat, EqV_own, FindP_nx, FindP_ct, FindP_rt, xL_consK, andK_tt, andK_tf, andK_ff, andK_ft, andK_and, andK_or, id_eq, Res.ok_bind, chk_true, ofO_some, or_false, false_or, or_self, and_false, false_and, not_true_eq_false, not_false_eq_true, decide_false, Bool.false_or, Bool.or_false, Bool.false_and, Bool.and_false, Bool.or_true, Bool.true_or, Sat_ok, Sat_bind, Sat_chk, Sat_ofO, Sat_noX, Sat_inEnv, varO_sh, varO_ow, varO_io, xE_var, xE_lit, xE_op, xE_neg, xE_cmp, xE_chn, xE_and, xE_or, xE_not, xE_ife, xE_tup, xE_lst, xE_dnew, xE_idx, xE_slc, xE_isi, xE_call, xE_blt, xE_rngL, xE_srt, xA_nil, xA_cons, xK_nil, xK_cons, xL_one, xO_none, xO_some, xC_none, xC_some, xI_seq, xI_rng, xI_enm, xI_rvd, setO_own, setO_dat, setO_slot, xS_set, xS_unp, xS_sub, xS_mut, xS_exp, xS_retN, xS_ret, xS_ife, xS_brk, xS_cnt, xS_pas, seqO_nx, seqO_rt, seqO_bk, seqO_ct, xB_nil, xB_cons, frc_dat, frc_own, frc_slot, esc_dat, esc_own, esc_slot, frcs_nil, frcs_cons, rdO_sh, rdO_ow, rdO_io, rd_O, escO_sh, escO_ow, escI_O, upO_ow, upO_io, upS_O, ioO_un, ioO_sh, ioO_ow, stS_O, lstO_ow, lstO_io, isLst_O, bindTg_one, bindTg_many, bindMany_nil, bindMany_cons, asInt_int, asBl_bl, op_add, op_sub, op_mul, op_fdiv, op_mod, op_pow, op_band, op_addL, op_addT, op_mulL, cm_lt, cm_le, cm_gt, cm_ge, eqv_int, cm_eqI, cm_neI, idx_lst, idx_tup, idx_scr, put_lst, mu_app, mu_ins, vb_lenL, vb_lenT, vb_lenS, vb_max2, vb_min2, vb_int1, vb_int1b, vb_list1, vb_list1t, vb_tuple1, vb_tuple1t, vb_divmod, vb_sum, vb_all, vb_sorted, slc_lst, rng_1, rng_2, seqOf_lst, seqOf_tup, seqOf_scr, cm_inT, cm_inL, cm_ninT, cm_ninL, cm_eqLI, cm_neLI, List.getElem?_cons_zero, List.getElem?_cons_succ, List.set_cons_zero, List.set_cons_succ, List.length_cons, List.length_nil, Bool.and_eq_true, Bool.or_eq_true, decide_eq_true_eq, Bool.not_eq_true', Option.some.injEq, exists_eq_left', Bool.not_true, Bool.not_false, and_true, true_and, Nat.zero_le, Int.reduceToNat, Int.reduceLT, Int.reduceLE, Int.reduceAdd, Int.reduceSub, Int.reducePow, Int.reduceMul, and_self, true_or, or_true, Nat.reducePow, Nat.zero_add, Nat.reduceAdd, Nat.reduceLT, Nat.reduceLeDiff, decide_true, Nat.reduceSub, beq_self_eq_true, reduceIte, Bool.true_and, Bool.and_true, List.cons_append, List.nil_append, List.zip_cons_cons, List.zip_nil_left, List.map_cons, List.map_nil, List.replicate, Bool.true_eq_false, Bool.false_eq_true, Tg.slots, xS_for, List.length_map, Int.natAbs_natCast, Int.toNat_natCast, rngIt_0, List.length_range, Bool.false_beq, Bool.true_beq, retR, iosOf, Option.map_some])
  | `(tactic| simp? [$ts,*]) => `(tactic| simp only [$ts,*, jk_io, fk_io, resR, EqV_dat, EqV_own, FindP_nx, FindP_ct, FindP_rt, xL_consK, andK_tt, andK_tf, andK_ff, andK_ft, andK_and, andK_or, id_eq, Res.ok_bind, chk_true, ofO_some, or_false, false_or, or_self, and_false, false_and, not_true_eq_false, not_false_eq_true, decide_false, Bool.false_or, Bool.or_false, Bool.false_and, Bool.and_false, Bool.or_true, Bool.true_or, Sat_ok, Sat_bind, Sat_chk, Sat_ofO, Sat_noX, Sat_inEnv, varO_sh, varO_ow, varO_io, xE_var, xE_lit, xE_op, xE_neg, xE_cmp, xE_chn, xE_and, xE_or, xE_not, xE_ife, xE_tup, xE_lst, xE_dnew, xE_idx, xE_slc, xE_isi, xE_call, xE_blt, xE_rngL, xE_srt, xA_nil, xA_cons, xK_nil, xK_cons, xL_one, xO_none, xO_some, xC_none, xC_some, xI_seq, xI_rng, xI_enm, xI_rvd, setO_own, setO_dat, setO_slot, xS_set, xS_unp, xS_sub, xS_mut, xS_exp, xS_retN, xS_ret, xS_ife, xS_brk, xS_cnt, xS_pas, seqO_nx, seqO_rt, seqO_bk, seqO_ct, xB_nil, xB_cons, frc_dat, frc_own, frc_slot, esc_dat, esc_own, esc_slot, frcs_nil, frcs_cons, rdO_sh, rdO_ow, rdO_io, rd_O, escO_sh, escO_ow, escI_O, upO_ow, upO_io, upS_O, ioO_un, ioO_sh, ioO_ow, stS_O, lstO_ow, lstO_io, isLst_O, bindTg_one, bindTg_many, bindMany_nil, bindMany_cons, asInt_int, asBl_bl, op_add, op_sub, op_mul, op_fdiv, op_mod, op_pow, op_band, op_addL, op_addT, op_mulL, cm_lt, cm_le, cm_gt, cm_ge, eqv_int, cm_eqI, cm_neI, idx_lst, idx_tup, idx_scr, put_lst, mu_app, mu_ins, vb_lenL, vb_lenT, vb_lenS, vb_max2, vb_min2, vb_int1, vb_int1b, vb_list1, vb_list1t, vb_tuple1, vb_tuple1t, vb_divmod, vb_sum, vb_all, vb_sorted, slc_lst, rng_1, rng_2, seqOf_lst, seqOf_tup, seqOf_scr, cm_inT, cm_inL, cm_ninT, cm_ninL, cm_eqLI, cm_neLI, List.getElem?_cons_zero, List.getElem?_cons_succ, List.set_cons_zero, List.set_cons_succ, List.length_cons, List.length_nil, Bool.and_eq_true, Bool.or_eq_true, decide_eq_true_eq, Bool.not_eq_true', Option.some.injEq, exists_eq_left', Bool.not_true, Bool.not_false, and_true, true_and, Nat.zero_le, Int.reduceToNat, Int.reduceLT, Int.reduceLE, Int.reduceAdd, Int.reduceSub, Int.reducePow, Int.reduceMul, and_self, true_or, or_true, Nat.reducePow, Nat.zero_add, Nat.reduceAdd, Nat.reduceLT, Nat.reduceLeDiff, decide_true, Nat.reduceSub, beq_self_eq_true, reduceIte, Bool.true_and, Bool.and_true, List.cons_append, List.nil_append, List.zip_cons_cons, List.zip_nil_left, List.map_cons, List.map_nil, List.replicate, Bool.true_eq_false, Bool.false_eq_true, Tg.slots, xS_for, List.length_map, Int.natAbs_natCast, Int.toNat_natCast, rngIt_0, List.length_range, Bool.false_beq, Bool.true_beq, retR, iosOf, Option.map_some])
section
variable {T : Tb}
/-! ### recipes drawn -/
/-! ### a place bent -/
/-! ### the law's own -/
structure DrawG (T : Tb) (i : Nat) : Prop where
  fl : T.fl i = [true, false]
  run : ∀ a b many : Int, 0 < many → many.natAbs.log2 < 9000 → Sat (T.call i [pen a b, .int many]) fun q => ∃ v a', q = ⟨false, .int v, [pen a' b]⟩ ∧ 0 ≤ v ∧ v < many
theorem drawG_sat {a b many : Int} (h1 : 0 < many) (h2 : many.natAbs.log2 < 9000) : Sat (runDef T dDraw [pen a b, .int many]) fun q => ∃ v a', q = ⟨false, .int v, [pen a' b]⟩ ∧ 0 ≤ v ∧ v < many := by
  refine runDef_sat rfl (by decide) ?_
  show Sat (runB T dDraw.body [.io (.lst [.int a, .int b]), .sh (.int many), .un, .un, .un]) _
  simp? [dDraw, pen_at0, pen_at1, pen_ix]
  refine Sat_ite.mpr ⟨fun _ => ?_, fun _ => ?_⟩
  · simp? [pen_at0, pen_at1, pen_ix, h1, PyProof.noPylong_of_log2 (x := a) h2]
    exact ⟨_, _, rfl, Int.emod_nonneg _ (by omega), Int.emod_lt_of_pos _ h1⟩
  · simp? [pen_at0, pen_at1, pen_ix, h1]
    have sm : ∀ i m : Int, 0 < m → m < 18446744073709551616 → ∀ j, mulOk (i % m) j = true := fun i m hm hm2 j => by
      unfold mulOk
      have a1 := Int.emod_nonneg i (show m ≠ 0 by omega)
      have a2 := Int.emod_lt_of_pos i hm
      have : (i % m).natAbs < 18446744073709551616 := by omega
      simp [this]
    exact ⟨mulOk_r (by decide), sm _ _ (by decide) (by decide) _, mulOk_r (by decide), _, _, rfl, Int.emod_nonneg _ (by omega), Int.emod_lt_of_pos _ h1⟩
end
end VL
/-! VC66: down-sets: law k58. -/
namespace VL
open PySem PySem.Spec L2
section
variable {T : Tb}
theorem cut_1 {α : Type} (l : List α) : cutL l (some 1) none = l.drop 1 := by
  cases l with
  | nil => rfl
  | cons x l =>
    unfold cutL
    have e1 : HT.sIx (x :: l).length 0 (some 1) = 1 := by
      rw [show (1 : Int) = ((1 : Nat) : Int) from rfl, HT.sIx_nat, List.length_cons]
      omega
    have e2 : HT.sIx (x :: l).length (x :: l).length none = (x :: l).length := rfl
    rw [e1, e2]
    simp
end
end VL
/-! VC70: how things are chosen; values of rules. -/
namespace VL
open PySem PySem.Spec L2
local macro_rules
  | `(tactic| simp?) => `(tactic| simp only [jk_io, fk_io, resR, EqV_dat, EqV_own, FindP_nx, FindP_ct, FindP_rt, xL_consK, andK_tt, andK_tf, andK_ff, andK_ft, andK_and, andK_or, id_eq, Res.ok_bind, chk_true, ofO_some, or_false, false_or, or_self, and_false, false_and, not_true_eq_false, not_false_eq_true, decide_false, Bool.false_or, Bool.or_false, Bool.false_and, Bool.and_false, Bool.or_true, Bool.true_or, Sat_ok, Sat_bind, Sat_chk, Sat_ofO, Sat_noX, Sat_inEnv, varO_sh, varO_ow, varO_io, xE_var, xE_lit, xE_op, xE_neg, xE_cmp, xE_chn, xE_and, xE_or, xE_not, xE_ife, xE_tup, xE_lst, xE_dnew, xE_idx, xE_slc, xE_isi, xE_call, xE_blt, xE_rngL, xE_srt, xA_nil, xA_cons, xK_nil, xK_cons, xL_one, xO_none, xO_some, xC_none, xC_some, xI_seq, xI_rng, xI_enm, xI_rvd, setO_own, setO_dat, setO_slot, xS_set, xS_unp, xS_sub, xS_mut, xS_exp, xS_retN, xS_ret, xS_ife, xS_brk, xS_cnt, xS_pas, seqO_nx, seqO_rt, seqO_bk, seqO_ct, xB_nil, xB_cons, frc_dat, frc_own, frc_slot, esc_dat, esc_own, esc_slot, frcs_nil, frcs_cons, rdO_sh, rdO_ow, rdO_io, rd_O, escO_sh, escO_ow, escI_O, upO_ow, upO_io, upS_O, ioO_un, ioO_sh, ioO_ow, stS_O, lstO_ow, lstO_io, isLst_O, bindTg_one, bindTg_many, bindMany_nil, bindMany_cons, asInt_int, asBl_bl, op_add, op_sub, op_mul, op_fdiv, op_mod, op_pow, op_band, op_addL, op_addT, op_mulL, cm_lt, cm_le, cm_gt, cm_ge, eqv_int, cm_eqI, cm_neI, idx_lst, idx_tup, idx_scr, put_lst, mu_app, mu_ins, vb_lenL, vb_lenT, vb_lenS, vb_max2, vb_min2, vb_int1, vb_int1b, vb_list1, vb_list1t, vb_tuple1, vb_tuple1t, vb_divmod, vb_sum, vb_all, vb_sorted, slc_lst, rng_1, rng_2, seqOf_lst, seqOf_tup, seqOf_scr, cm_inT, cm_inL, cm_ninT, cm_ninL, cm_eqLI, cm_neLI, List.getElem?_cons_zero, List.getElem?_cons_succ, List.set_cons_zero, List.set_cons_succ, List.length_cons, List.length_nil, Bool.and_eq_true, Bool.or_eq_true, decide_eq_true_eq, Bool.not_eq_true', Option.some.injEq, exists_eq_left', Bool.not_true, Bool.not_false, and_true, true_and, Nat.zero_le, Int.reduceToNat, Int.reduceLT, Int.reduceLE, Int.reduceAdd, Int.reduceSub, Int.reducePow, Int.reduceMul, and_self, true_or, or_true, Nat.reducePow, Nat.zero_add, Nat.reduceAdd, Nat.reduceLT, Nat.reduceLeDiff, decide_true, Nat.reduceSub, beq_self_eq_true, reduceIte, Bool.true_and, Bool.and_true, List.cons_append, List.nil_append, List.zip_cons_cons, List.zip_nil_left, List.map_cons, List.map_nil, List.replicate, Bool.true_eq_false, Bool.false_eq_true, Tg.slots, xS_for, List.length_map, Int.natAbs_natCast, Int.toNat_natCast, rngIt_0, List.length_range, Bool.false_beq, Bool.true_beq, retR, iosOf, Option.map_some])
  | `(tactic| simp? [$ts,*]) => `(tactic| simp only [$ts,*, jk_io, fk_io, resR, EqV_dat, EqV_own, FindP_nx, FindP_ct, FindP_rt, xL_consK, andK_tt, andK_tf, andK_ff, andK_ft, andK_and, andK_or, id_eq, Res.ok_bind, chk_true, ofO_some, or_false, false_or, or_self, and_false, false_and, not_true_eq_false, not_false_eq_true, decide_false, Bool.false_or, Bool.or_false, Bool.false_and, Bool.and_false, Bool.or_true, Bool.true_or, Sat_ok, Sat_bind, Sat_chk, Sat_ofO, Sat_noX, Sat_inEnv, varO_sh, varO_ow, varO_io, xE_var, xE_lit, xE_op, xE_neg, xE_cmp, xE_chn, xE_and, xE_or, xE_not, xE_ife, xE_tup, xE_lst, xE_dnew, xE_idx, xE_slc, xE_isi, xE_call, xE_blt, xE_rngL, xE_srt, xA_nil, xA_cons, xK_nil, xK_cons, xL_one, xO_none, xO_some, xC_none, xC_some, xI_seq, xI_rng, xI_enm, xI_rvd, setO_own, setO_dat, setO_slot, xS_set, xS_unp, xS_sub, xS_mut, xS_exp, xS_retN, xS_ret, xS_ife, xS_brk, xS_cnt, xS_pas, seqO_nx, seqO_rt, seqO_bk, seqO_ct, xB_nil, xB_cons, frc_dat, frc_own, frc_slot, esc_dat, esc_own, esc_slot, frcs_nil, frcs_cons, rdO_sh, rdO_ow, rdO_io, rd_O, escO_sh, escO_ow, escI_O, upO_ow, upO_io, upS_O, ioO_un, ioO_sh, ioO_ow, stS_O, lstO_ow, lstO_io, isLst_O, bindTg_one, bindTg_many, bindMany_nil, bindMany_cons, asInt_int, asBl_bl, op_add, op_sub, op_mul, op_fdiv, op_mod, op_pow, op_band, op_addL, op_addT, op_mulL, cm_lt, cm_le, cm_gt, cm_ge, eqv_int, cm_eqI, cm_neI, idx_lst, idx_tup, idx_scr, put_lst, mu_app, mu_ins, vb_lenL, vb_lenT, vb_lenS, vb_max2, vb_min2, vb_int1, vb_int1b, vb_list1, vb_list1t, vb_tuple1, vb_tuple1t, vb_divmod, vb_sum, vb_all, vb_sorted, slc_lst, rng_1, rng_2, seqOf_lst, seqOf_tup, seqOf_scr, cm_inT, cm_inL, cm_ninT, cm_ninL, cm_eqLI, cm_neLI, List.getElem?_cons_zero, List.getElem?_cons_succ, List.set_cons_zero, List.set_cons_succ, List.length_cons, List.length_nil, Bool.and_eq_true, Bool.or_eq_true, decide_eq_true_eq, Bool.not_eq_true', Option.some.injEq, exists_eq_left', Bool.not_true, Bool.not_false, and_true, true_and, Nat.zero_le, Int.reduceToNat, Int.reduceLT, Int.reduceLE, Int.reduceAdd, Int.reduceSub, Int.reducePow, Int.reduceMul, and_self, true_or, or_true, Nat.reducePow, Nat.zero_add, Nat.reduceAdd, Nat.reduceLT, Nat.reduceLeDiff, decide_true, Nat.reduceSub, beq_self_eq_true, reduceIte, Bool.true_and, Bool.and_true, List.cons_append, List.nil_append, List.zip_cons_cons, List.zip_nil_left, List.map_cons, List.map_nil, List.replicate, Bool.true_eq_false, Bool.false_eq_true, Tg.slots, xS_for, List.length_map, Int.natAbs_natCast, Int.toNat_natCast, rngIt_0, List.length_range, Bool.false_beq, Bool.true_beq, retR, iosOf, Option.map_some])
/-- x (x - 1) .. of k factors -/
def ff (x : Int) : Nat → Int
  | 0 => 1
  | k + 1 => ff x k * (x - k)
def fct : Nat → Int
  | 0 => 1
  | k + 1 => fct k * (k + 1)
theorem fct_pos : ∀ k, 0 < fct k
  | 0 => by decide
  | k + 1 => Int.mul_pos (fct_pos k) (by omega)
theorem ff_zero : ∀ k : Nat, ff 0 (k + 1) = 0
  | 0 => by simp [ff]
  | k + 1 => by rw [ff, ff_zero k, Int.zero_mul]
theorem ff_pas (x : Int) : ∀ k : Nat, ff (x + 1) (k + 1) = ff x (k + 1) + (k + 1) * ff x k
  | 0 => by simp [ff]
  | k + 1 => by
    have ih := ff_pas x k
    have e1 : ff (x + 1) (k + 2) = ff (x + 1) (k + 1) * (x + 1 - (k + 1 : Nat)) := rfl
    have e2 : ff x (k + 2) = ff x (k + 1) * (x - (k + 1 : Nat)) := rfl
    have e3 : ff x (k + 1) = ff x k * (x - k) := rfl
    show ff (x + 1) (k + 2) = ff x (k + 2) + ((k + 1 : Nat) + 1) * ff x (k + 1)
    rw [e1, e2, ih]
    have h1 : (x + 1 - ((k + 1 : Nat) : Int)) = x - k := by omega
    rw [h1, Int.add_mul]
    have h2 : ((k : Int) + 1) * ff x k * (x - k) = (k + 1) * ff x (k + 1) := by rw [e3, Int.mul_assoc]
    rw [h2]
    have h3 : (x - ((k + 1 : Nat) : Int)) = (x - k) - 1 := by omega
    have h5 : ff x (k + 1) * ((x - k) - 1) = ff x (k + 1) * (x - k) - ff x (k + 1) := by rw [Int.mul_sub (ff x (k + 1)) (x - k) 1, Int.mul_one]
    rw [h3, h5]
    have h4 : (((k + 1 : Nat) : Int) + 1) * ff x (k + 1) = (k + 1) * ff x (k + 1) + ff x (k + 1) := by
      rw [Int.add_mul, Int.one_mul]; rfl
    rw [h4]
    omega
theorem ff_dv : ∀ (k : Nat) (x : Int), fct k ∣ ff x k
  | 0, x => ⟨1, rfl⟩
  | k + 1, x => by
    have ih := ff_dv k
    have st : ∀ y : Int, fct (k + 1) ∣ ff y (k + 1) ↔ fct (k + 1) ∣ ff (y + 1) (k + 1) := fun y => by
      rw [ff_pas y k]
      have hd : fct (k + 1) ∣ (k + 1) * ff y k := by
        obtain ⟨c, hc⟩ := ih y
        refine ⟨c, ?_⟩
        rw [hc]
        show _ = fct k * (k + 1) * c
        rw [← Int.mul_assoc, Int.mul_comm (k + 1 : Int) (fct k)]
      constructor
      · intro h; exact Int.dvd_add h hd
      · intro h
        have := Int.dvd_sub h hd
        rwa [Int.add_sub_cancel] at this
    have up : ∀ n : Nat, fct (k + 1) ∣ ff (n : Int) (k + 1) := fun n => by
      induction n with
      | zero => rw [show ((0 : Nat) : Int) = 0 from rfl, ff_zero]; exact ⟨0, by simp⟩
      | succ n ih => exact (st n).mp ih
    have dn : ∀ n : Nat, fct (k + 1) ∣ ff (-(n : Int)) (k + 1) := fun n => by
      induction n with
      | zero => rw [show (-((0 : Nat) : Int)) = 0 from rfl, ff_zero]; exact ⟨0, by simp⟩
      | succ n ih =>
        refine (st _).mpr ?_
        rw [show -((n + 1 : Nat) : Int) + 1 = -(n : Int) by omega]
        exact ih
    rcases Int.le_total 0 x with h | h
    · obtain ⟨n, rfl⟩ := Int.eq_ofNat_of_zero_le h; exact up n
    · obtain ⟨n, hn⟩ := Int.eq_ofNat_of_zero_le (show 0 ≤ -x by omega)
      rw [show x = -(n : Int) by omega]
      exact dn n
/-- how k are chosen of x -/
def cho (x : Int) (k : Nat) : Int := ff x k / fct k
theorem cho_mul (x : Int) (k : Nat) : cho x k * fct k = ff x k := Int.ediv_mul_cancel (ff_dv k x)
theorem cho_next (x : Int) (k : Nat) : cho x k * (x - k) / (k + 1) = cho x (k + 1) := by
  have h1 := cho_mul x k
  have h2 := cho_mul x (k + 1)
  have e : cho x k * (x - k) = cho x (k + 1) * (k + 1) := by
    refine Int.eq_of_mul_eq_mul_right (Int.ne_of_gt (fct_pos k)) ?_
    rw [show cho x k * (x - k) * fct k = cho x k * fct k * (x - k) by rw [Int.mul_assoc, Int.mul_comm (x - k), ← Int.mul_assoc], h1]
    rw [show cho x (k + 1) * (k + 1) * fct k = cho x (k + 1) * (fct k * (k + 1)) by rw [Int.mul_assoc, Int.mul_comm (k + 1 : Int)]]
    exact h2.symm
  rw [e, Int.mul_ediv_cancel _ (by omega)]
theorem ff_size {x : Int} (hx : x.natAbs < 2 ^ 101) : ∀ k : Nat, k ≤ 100 → (ff x k).natAbs < 2 ^ (102 * k + 1)
  | 0, _ => (by decide : (1 : Int).natAbs < 2 ^ (102 * 0 + 1))
  | k + 1, h => by
    have ih := ff_size hx k (by omega)
    show (ff x k * (x - k)).natAbs < _
    rw [Int.natAbs_mul]
    have h2 : (x - (k : Int)).natAbs < 2 ^ 102 := by
      have : (2 : Nat) ^ 102 = 2 ^ 101 + 2 ^ 101 := by decide
      have : (100 : Nat) < 2 ^ 101 := by decide
      omega
    rw [show 102 * (k + 1) + 1 = (102 * k + 1) + 102 by omega, Nat.pow_add]
    exact Nat.mul_lt_mul'' ih h2
theorem cho_size {x : Int} (hx : x.natAbs < 2 ^ 101) {k : Nat} (hk : k ≤ 100) : (cho x k).natAbs < 2 ^ (102 * k + 1) := by
  have h1 := cho_mul x k
  have h2 := ff_size hx k hk
  rw [← h1, Int.natAbs_mul] at h2
  have := fct_pos k
  have h3 : 1 ≤ (fct k).natAbs := by omega
  exact Nat.lt_of_le_of_lt (Nat.le_mul_of_pos_right _ h3) h2
theorem fct_small {k : Nat} (h : k ≤ 9) : fct k < 1073741824 := by
  have : k = 0 ∨ k = 1 ∨ k = 2 ∨ k = 3 ∨ k = 4 ∨ k = 5 ∨ k = 6 ∨ k = 7 ∨ k = 8 ∨ k = 9 := by omega
  rcases this with rfl | rfl | rfl | rfl | rfl | rfl | rfl | rfl | rfl | rfl <;> decide
section
variable {T : Tb}
def fChoose : Def := ⟨[false, false], 5,
  [.set 2 (.lit (.int 1)),
   .set 3 (.lit (.int 1)),
   .for (.one 4) (.rng [.var 1]) [.set 2 (.op .mul (.var 2) (.op .sub (.var 0) (.var 4))), .set 3 (.op .mul (.var 3) (.op .add (.var 4) (.lit (.int 1))))],
   .ret (some (.op .fdiv (.var 2) (.var 3)))]⟩
structure ChooseS (T : Tb) (i : Nat) : Prop where
  fl : T.fl i = [false, false]
  run : ∀ (x : Int) (k : Nat), x.natAbs < 2 ^ 101 → k ≤ 9 → Sat (T.call i [.int x, .int k]) fun q => q = ⟨false, .int (cho x k), []⟩
theorem choose_sat {x : Int} {k : Nat} (hx : x.natAbs < 2 ^ 101) (hk : k ≤ 9) : Sat (runDef T fChoose [.int x, .int k]) fun q => q = ⟨false, .int (cho x k), []⟩ := by
  refine runDef_sat rfl (by simp [fChoose]) ?_
  show Sat (runB T fChoose.body [.sh (.int x), .sh (.int k), .un, .un, .un]) _
  simp? [fChoose]
  refine ⟨by omega, ?_⟩
  refine for_rng (fun j e => ∃ s4 : Jk, e = [.sh (.int x), .sh (.int k), .sh (.int (ff x j)), .sh (.int (fct j)), s4.s]) ⟨.un, rfl⟩ ?_ ?_
  · rintro j e hj ⟨s4, rfl⟩
    have h1 := ff_size hx j (by omega)
    have h2 : (x - (j : Int)).natAbs < 2 ^ 102 := by
      have : (2 : Nat) ^ 102 = 2 ^ 101 + 2 ^ 101 := by decide
      have : (100 : Nat) < 2 ^ 101 := by decide
      omega
    have h3 := fct_small (show j ≤ 9 by omega)
    have h4 := fct_pos j
    simp? [foT]
    refine ⟨mulOk_pow h1 h2 (by omega), mulOk_l (by omega), ?_⟩
    exact ⟨.sh _, rfl⟩
  · rintro e ⟨s4, rfl⟩
    simp?
    exact ⟨⟨fct_pos k, .inl (fct_small hk)⟩, rfl⟩
def fLawChoose : Def := ⟨[false, false], 4,
  [.set 2 (.lit (.int 1)),
   .for (.one 3) (.rng [.var 1]) [.set 2 (.op .fdiv (.op .mul (.var 2) (.op .sub (.var 0) (.var 3))) (.op .add (.var 3) (.lit (.int 1))))],
   .ret (some (.var 2))]⟩
theorem lawChoose_sat {x : Int} {k : Nat} (hx : x.natAbs < 2 ^ 101) (hk : k ≤ 9) : Sat (runDef T fLawChoose [.int x, .int k]) fun q => q = ⟨false, .int (cho x k), []⟩ := by
  refine runDef_sat rfl (by simp [fLawChoose]) ?_
  show Sat (runB T fLawChoose.body [.sh (.int x), .sh (.int k), .un, .un]) _
  simp? [fLawChoose]
  refine ⟨by omega, ?_⟩
  refine for_rng (fun j e => ∃ s3 : Jk, e = [.sh (.int x), .sh (.int k), .sh (.int (cho x j)), s3.s]) ⟨.un, rfl⟩ ?_ ?_
  · rintro j e hj ⟨s3, rfl⟩
    have h1 := cho_size hx (show j ≤ 100 by omega)
    have h2 : (x - (j : Int)).natAbs < 2 ^ 102 := by
      have : (2 : Nat) ^ 102 = 2 ^ 101 + 2 ^ 101 := by decide
      have : (100 : Nat) < 2 ^ 101 := by decide
      omega
    simp? [foT]
    refine ⟨mulOk_pow h1 h2 (by omega), ⟨by omega, .inl (by omega)⟩, ?_⟩
    rw [cho_next]
    exact ⟨.sh _, rfl⟩
  · rintro e ⟨s3, rfl⟩
    simp?
/-- a rule: few numbers, not too great -/
structure SzR (l : List Int) : Prop where
  n : l.length ≤ 9
  v : ∀ v ∈ l, v.natAbs < 2 ^ 1000
def ruleV (l : List Int) (x : Int) : Int := ((List.range l.length).map fun k : Nat => gV l (k : Int) * cho x k).sum
theorem enum_intsR (l : List Int) : enumF 0 (l.map D.int) = (List.range l.length).map fun k : Nat => D.tup [.int (k : Int), .int (gV l (k : Int))] := by
  rw [enumF_map]
  refine List.map_congr_left fun k hk => ?_
  have hk := List.mem_range.mp hk
  rw [Nat.zero_add]
  congr 3
  rw [List.getD_eq_getElem?_getD, List.getElem?_map, List.getElem?_eq_getElem hk]
  show D.int l[k] = D.int (gV l (k : Int))
  congr 1
  unfold gV
  rw [Int.toNat_natCast, List.getD_eq_getElem?_getD, List.getElem?_eq_getElem hk]
  rfl
theorem SzR.at {l : List Int} (h : SzR l) {k : Nat} (hk : k < l.length) : (gV l (k : Int)).natAbs < 2 ^ 1000 := h.v _ (gV_mem (by simpa using hk))
theorem SzR.mul {l : List Int} (h : SzR l) {x : Int} (hx : x.natAbs < 2 ^ 101) {k : Nat} (hk : k < l.length) : mulOk (gV l (k : Int)) (cho x k) = true := by
  have := h.n
  exact mulOk_pow (h.at hk) (cho_size hx (show k ≤ 100 by omega)) (by omega)
def fRuleAt (cC : Nat) : Def := ⟨[false, false], 4,
  [.ret (some (.blt .sum [.lc (.op .mul (.var 3) (.call cC [.var 1, .var 2])) (.many [2, 3]) (.enm (.var 0)) none]))]⟩
structure RuleAtS (T : Tb) (i : Nat) : Prop where
  fl : T.fl i = [false, false]
  run : ∀ (l : List Int) (x : Int), SzR l → x.natAbs < 2 ^ 101 → Sat (T.call i [tI l, .int x]) fun q => q = ⟨false, .int (ruleV l x), []⟩
theorem ruleAt_sat {cC : Nat} (hC : ChooseS T cC) {l : List Int} {x : Int} (hl : SzR l) (hx : x.natAbs < 2 ^ 101) : Sat (runDef T (fRuleAt cC) [tI l, .int x]) fun q => q = ⟨false, .int (ruleV l x), []⟩ := by
  have hn := hl.n
  refine runDef_sat rfl (by simp [fRuleAt]) ?_
  show Sat (runB T (fRuleAt cC).body [.sh (tI l), .sh (.int x), .un, .un]) _
  simp? [fRuleAt]
  refine lcM [.sh (tI l), .sh (.int x), .un, .un] (as := List.range l.length) (ea := fun k => D.int (k : Nat)) (eb := fun k => D.int (gV l (k : Nat))) (fun k => gV l (k : Nat) * cho x k) D.int (by decide) rfl rfl (.inl rfl) (.inl rfl) ?_ (by simp; omega) (fun k hk => ?_) ?_
  · simp? [enum_intsR]
  · have hk := List.mem_range.mp hk
    simp?
    refine callR_dat hC.fl (by simp) rfl rfl rfl (hC.run x k hx (by omega)) fun q_ hq_ => ?_
    obtain rfl := hq_
    refine ⟨rfl, ?_⟩
    simp?
    exact hl.mul hx hk
  simp?
  rfl
def fRight69 (cC cW cR : Nat) : Def := ⟨[false, false], 6,
  [.set 2 (.blt .sum [.lc (.op .mul (.var 5) (.call cC [.var 1, .var 4])) (.many [4, 5]) (.enm (.var 0)) none]),
   .set 3 (.call cR [.var 0, .var 1]),
   .ret (some (.andb [.call cW [.var 3], .cmp .eq (.var 3) (.var 2), .cmp .eq (.call cR [.var 0, .var 1]) (.var 3)]))]⟩
theorem right69_sat {cC cW cR : Nat} (hC : ChooseS T cC) (hW : WholeS T cW) (hR : RuleAtS T cR) {l : List Int} {x : Int} (hl : SzR l) (hx : x.natAbs < 2 ^ 101) : Sat (runDef T (fRight69 cC cW cR) [tI l, .int x]) fun q => q = ⟨false, .bl true, []⟩ := by
  have hn := hl.n
  refine runDef_sat rfl (by simp [fRight69]) ?_
  show Sat (runB T (fRight69 cC cW cR).body [.sh (tI l), .sh (.int x), .un, .un, .un, .un]) _
  simp? [fRight69]
  refine lcM [.sh (tI l), .sh (.int x), .un, .un, .un, .un] (as := List.range l.length) (ea := fun k => D.int (k : Nat)) (eb := fun k => D.int (gV l (k : Nat))) (fun k => gV l (k : Nat) * cho x k) D.int (by decide) rfl rfl (.inl rfl) (.inl rfl) ?_ (by simp; omega) (fun k hk => ?_) ?_
  · simp? [enum_intsR]
  · have hk := List.mem_range.mp hk
    simp?
    refine callR_dat hC.fl (by simp) rfl rfl rfl (hC.run x k hx (by omega)) fun q_ hq_ => ?_
    obtain rfl := hq_
    refine ⟨rfl, ?_⟩
    simp?
    exact hl.mul hx hk
  simp?
  refine callR_dat hR.fl (by simp) rfl rfl rfl (hR.run l x hl hx) fun q_ hq_ => ?_
  obtain rfl := hq_
  refine ⟨rfl, ?_⟩
  simp?
  simp?
  refine callR_dat hW.fl (by simp) rfl rfl rfl (hW.run (.int (ruleV l x)) rfl) fun q_ hq_ => ?_
  obtain rfl := hq_
  refine ⟨rfl, ?_⟩
  simp?
  simp? [show isI (.int (ruleV l x)) = true from rfl]
  rw [show ((List.range l.length).map fun k : Nat => gV l (k : Int) * cho x k).sum = ruleV l x from rfl, decide_eq_true rfl]
  simp?
  refine callR_dat hR.fl (by simp) rfl rfl rfl (hR.run l x hl hx) fun q_ hq_ => ?_
  obtain rfl := hq_
  refine ⟨rfl, ?_⟩
  simp?
end
end VL
/-! VC61: law k27. -/
namespace VL
open PySem PySem.Spec L2
section
variable {T : Tb} {env : EnvD}
theorem xE_dspG {t : Bool} {es : List CE} : runE T (.dspG t es) env = noX (chk (decide (es.length ≤ 30)) >>= fun _ => runK T es env >>= fun p => dspD t p.1 >>= fun d => .ok (.own d, p.2)) := rfl
end
section
variable {T : Tb}
end
end VL
/-! VC71: levels of maps: law k69. -/
namespace VL
open PySem PySem.Spec L2
local macro_rules
  | `(tactic| simp?) => `(tactic| simp only [jk_io, fk_io, resR, EqV_dat, EqV_own, FindP_nx, FindP_ct, FindP_rt, xL_consK, andK_tt, andK_tf, andK_ff, andK_ft, andK_and, andK_or, id_eq, Res.ok_bind, chk_true, ofO_some, or_false, false_or, or_self, and_false, false_and, not_true_eq_false, not_false_eq_true, decide_false, Bool.false_or, Bool.or_false, Bool.false_and, Bool.and_false, Bool.or_true, Bool.true_or, Sat_ok, Sat_bind, Sat_chk, Sat_ofO, Sat_noX, Sat_inEnv, varO_sh, varO_ow, varO_io, xE_var, xE_lit, xE_op, xE_neg, xE_cmp, xE_chn, xE_and, xE_or, xE_not, xE_ife, xE_tup, xE_lst, xE_dnew, xE_idx, xE_slc, xE_isi, xE_call, xE_blt, xE_rngL, xE_srt, xA_nil, xA_cons, xK_nil, xK_cons, xL_one, xO_none, xO_some, xC_none, xC_some, xI_seq, xI_rng, xI_enm, xI_rvd, setO_own, setO_dat, setO_slot, xS_set, xS_unp, xS_sub, xS_mut, xS_exp, xS_retN, xS_ret, xS_ife, xS_brk, xS_cnt, xS_pas, seqO_nx, seqO_rt, seqO_bk, seqO_ct, xB_nil, xB_cons, frc_dat, frc_own, frc_slot, esc_dat, esc_own, esc_slot, frcs_nil, frcs_cons, rdO_sh, rdO_ow, rdO_io, rd_O, escO_sh, escO_ow, escI_O, upO_ow, upO_io, upS_O, ioO_un, ioO_sh, ioO_ow, stS_O, lstO_ow, lstO_io, isLst_O, bindTg_one, bindTg_many, bindMany_nil, bindMany_cons, asInt_int, asBl_bl, op_add, op_sub, op_mul, op_fdiv, op_mod, op_pow, op_band, op_addL, op_addT, op_mulL, cm_lt, cm_le, cm_gt, cm_ge, eqv_int, cm_eqI, cm_neI, idx_lst, idx_tup, idx_scr, put_lst, mu_app, mu_ins, vb_lenL, vb_lenT, vb_lenS, vb_max2, vb_min2, vb_int1, vb_int1b, vb_list1, vb_list1t, vb_tuple1, vb_tuple1t, vb_divmod, vb_sum, vb_all, vb_sorted, slc_lst, rng_1, rng_2, seqOf_lst, seqOf_tup, seqOf_scr, cm_inT, cm_inL, cm_ninT, cm_ninL, cm_eqLI, cm_neLI, List.getElem?_cons_zero, List.getElem?_cons_succ, List.set_cons_zero, List.set_cons_succ, List.length_cons, List.length_nil, Bool.and_eq_true, Bool.or_eq_true, decide_eq_true_eq, Bool.not_eq_true', Option.some.injEq, exists_eq_left', Bool.not_true, Bool.not_false, and_true, true_and, Nat.zero_le, Int.reduceToNat, Int.reduceLT, Int.reduceLE, Int.reduceAdd, Int.reduceSub, Int.reducePow, Int.reduceMul, and_self, true_or, or_true, Nat.reducePow, Nat.zero_add, Nat.reduceAdd, Nat.reduceLT, Nat.reduceLeDiff, decide_true, Nat.reduceSub, beq_self_eq_true, reduceIte, Bool.true_and, Bool.and_true, List.cons_append, List.nil_append, List.zip_cons_cons, List.zip_nil_left, List.map_cons, List.map_nil, List.replicate, Bool.true_eq_false, Bool.false_eq_true, Tg.slots, xS_for, List.length_map, Int.natAbs_natCast, Int.toNat_natCast, rngIt_0, List.length_range, Bool.false_beq, Bool.true_beq, retR, iosOf, Option.map_some])
  | `(tactic| simp? [$ts,*]) => `(tactic| simp only [$ts,*, jk_io, fk_io, resR, EqV_dat, EqV_own, FindP_nx, FindP_ct, FindP_rt, xL_consK, andK_tt, andK_tf, andK_ff, andK_ft, andK_and, andK_or, id_eq, Res.ok_bind, chk_true, ofO_some, or_false, false_or, or_self, and_false, false_and, not_true_eq_false, not_false_eq_true, decide_false, Bool.false_or, Bool.or_false, Bool.false_and, Bool.and_false, Bool.or_true, Bool.true_or, Sat_ok, Sat_bind, Sat_chk, Sat_ofO, Sat_noX, Sat_inEnv, varO_sh, varO_ow, varO_io, xE_var, xE_lit, xE_op, xE_neg, xE_cmp, xE_chn, xE_and, xE_or, xE_not, xE_ife, xE_tup, xE_lst, xE_dnew, xE_idx, xE_slc, xE_isi, xE_call, xE_blt, xE_rngL, xE_srt, xA_nil, xA_cons, xK_nil, xK_cons, xL_one, xO_none, xO_some, xC_none, xC_some, xI_seq, xI_rng, xI_enm, xI_rvd, setO_own, setO_dat, setO_slot, xS_set, xS_unp, xS_sub, xS_mut, xS_exp, xS_retN, xS_ret, xS_ife, xS_brk, xS_cnt, xS_pas, seqO_nx, seqO_rt, seqO_bk, seqO_ct, xB_nil, xB_cons, frc_dat, frc_own, frc_slot, esc_dat, esc_own, esc_slot, frcs_nil, frcs_cons, rdO_sh, rdO_ow, rdO_io, rd_O, escO_sh, escO_ow, escI_O, upO_ow, upO_io, upS_O, ioO_un, ioO_sh, ioO_ow, stS_O, lstO_ow, lstO_io, isLst_O, bindTg_one, bindTg_many, bindMany_nil, bindMany_cons, asInt_int, asBl_bl, op_add, op_sub, op_mul, op_fdiv, op_mod, op_pow, op_band, op_addL, op_addT, op_mulL, cm_lt, cm_le, cm_gt, cm_ge, eqv_int, cm_eqI, cm_neI, idx_lst, idx_tup, idx_scr, put_lst, mu_app, mu_ins, vb_lenL, vb_lenT, vb_lenS, vb_max2, vb_min2, vb_int1, vb_int1b, vb_list1, vb_list1t, vb_tuple1, vb_tuple1t, vb_divmod, vb_sum, vb_all, vb_sorted, slc_lst, rng_1, rng_2, seqOf_lst, seqOf_tup, seqOf_scr, cm_inT, cm_inL, cm_ninT, cm_ninL, cm_eqLI, cm_neLI, List.getElem?_cons_zero, List.getElem?_cons_succ, List.set_cons_zero, List.set_cons_succ, List.length_cons, List.length_nil, Bool.and_eq_true, Bool.or_eq_true, decide_eq_true_eq, Bool.not_eq_true', Option.some.injEq, exists_eq_left', Bool.not_true, Bool.not_false, and_true, true_and, Nat.zero_le, Int.reduceToNat, Int.reduceLT, Int.reduceLE, Int.reduceAdd, Int.reduceSub, Int.reducePow, Int.reduceMul, and_self, true_or, or_true, Nat.reducePow, Nat.zero_add, Nat.reduceAdd, Nat.reduceLT, Nat.reduceLeDiff, decide_true, Nat.reduceSub, beq_self_eq_true, reduceIte, Bool.true_and, Bool.and_true, List.cons_append, List.nil_append, List.zip_cons_cons, List.zip_nil_left, List.map_cons, List.map_nil, List.replicate, Bool.true_eq_false, Bool.false_eq_true, Tg.slots, xS_for, List.length_map, Int.natAbs_natCast, Int.toNat_natCast, rngIt_0, List.length_range, Bool.false_beq, Bool.true_beq, retR, iosOf, Option.map_some])
/-- a set of points, as a tuple -/
structure Pset (n : Nat) (s : List Int) : Prop where
  nd : s.Nodup
  rg : ∀ x ∈ s, 0 ≤ x ∧ x < (n : Int)
theorem Pset.len {n : Nat} {s : List Int} (h : Pset n s) : s.length ≤ n := nodup_len h.nd h.rg
/-- the points that are not there -/
def freeL (n : Nat) (s : List Int) : List Int := ((List.range n).filter fun i : Nat => decide ((i : Int) ∉ s)).map fun i : Nat => (i : Int)
theorem free_pset {n : Nat} {s : List Int} : Pset n (freeL n s) := ⟨by
  unfold freeL
  refine List.pairwise_map.mpr ((List.nodup_range.filter _).imp fun hne e => hne (by omega)), fun x hx => by
  obtain ⟨i, hi, rfl⟩ := List.mem_map.mp hx
  have := List.mem_range.mp (List.mem_filter.mp hi).1
  omega⟩
theorem free_not {n : Nat} {s : List Int} : ∀ x ∈ freeL n s, x ∉ s := fun x hx => by
  obtain ⟨i, hi, rfl⟩ := List.mem_map.mp hx
  exact of_decide_eq_true (List.mem_filter.mp hi).2
theorem free_len {n : Nat} {s : List Int} (h : Pset n s) : (freeL n s).length + s.length ≤ n := by
  have : (freeL n s ++ s).Nodup := by
    rw [List.nodup_append]
    exact ⟨free_pset.nd, h.nd, fun x hx y hy e => free_not x hx (e ▸ hy)⟩
  have := nodup_len this fun x hx => by
    rcases List.mem_append.mp hx with hx | hx
    · exact free_pset.rg x hx
    · exact h.rg x hx
  rwa [List.length_append] at this
theorem cm_eqL0 {l : List Int} : cmD .eq (.lst (l.map .int)) (.lst []) = .ok (decide (l = [])) := cm_eqLI (b := [])
section
variable {T : Tb}
def fNext : Def := ⟨[false, false, false], 10,
  [.set 3 (.lst [.tup []]),
   .for (.one 4) (.seq (.lc (.var 9) (.one 9) (.rng [.blt .len [.var 0]]) (some (.cmp .notin (.var 9) (.var 1))))) [.set 3 (.op .add (.var 3) (.lc (.op .add (.var 6) (.tup [.var 4])) (.one 6) (.seq (.var 3)) none))],
   .set 5 (.lst []),
   .for (.one 6) (.seq (.slc (.var 3) (some (.lit (.int 1))) none)) [.set 7 (.op .add (.var 1) (.var 6)), .set 8 (.lst []), .for (.one 4) (.seq (.var 6)) [.set 8 (.op .add (.var 8) (.lc (.var 9) (.one 9) (.seq (.idx (.var 0) (.var 4))) (some (.cmp .ne (.var 9) (.var 4)))))], .ife (.cmp .eq (.lc (.var 9) (.one 9) (.seq (.var 8)) (some (.cmp .notin (.var 9) (.var 7)))) (.lst [])) [.ife (.orb [.cmp .eq (.var 2) (.lit (.int 0)), .cmp .eq (.lc (.var 9) (.one 9) (.seq (.var 8)) (some (.cmp .isin (.var 9) (.var 6)))) (.lst [])]) [.mut .append 5 [.blt .tuple1 [.blt .sorted1 [.var 7]]]] []] []],
   .ret (some (.var 5))]⟩
/-- greater sets -/
structure Nexts (n : Nat) (s : List Int) (ts : List (List Int)) : Prop where
  ok : ∀ t ∈ ts, Pset n t ∧ s.length < t.length
  len : ts.length ≤ 2 ^ (n - s.length)
structure NextS (T : Tb) (i : Nat) : Prop where
  fl : T.fl i = [false, false, false]
  run : ∀ (o : List (List Int)) (s : List Int) (w : Int), IsOrd o → o.length ≤ 5 → Pset o.length s → Sat (T.call i [oI o, tI s, .int w]) fun q => ∃ ts, q = ⟨true, .lst (ts.map tI), []⟩ ∧ Nexts o.length s ts
theorem next_sat {o : List (List Int)} {s : List Int} {w : Int} (ho : IsOrd o) (h5 : o.length ≤ 5) (hs : Pset o.length s) : Sat (runDef T fNext [oI o, tI s, .int w]) fun q => ∃ ts, q = ⟨true, .lst (ts.map tI), []⟩ ∧ Nexts o.length s ts := by
  have hl := ho.1
  have hsl := hs.len
  refine runDef_sat rfl (by simp [fNext]) ?_
  show Sat (runB T fNext.body [.sh (oI o), .sh (tI s), .sh (.int w), .un, .un, .un, .un, .un, .un, .un]) _
  simp? [fNext]
  refine ⟨by decide, ?_⟩
  refine lcQ (as := List.range o.length) (ea := nI) (fun i : Nat => decide ((i : Int) ∉ s)) (fun i : Nat => (i : Int)) D.int rfl (.inl rfl) ?_ (by simp; omega) (fun i hi => ?_) (fun i hi _ => ?_) ?_
  · simp?
    omega
  · simp? [nI]
    simp
  · simp? [nI]
  rw [show (((List.range o.length).filter fun i : Nat => decide ((i : Int) ∉ s)).map fun i : Nat => (i : Int)) = freeL o.length s from rfl]
  have hfl := free_len hs
  have hpow : ∀ k ≤ 5, 2 ^ k ≤ 32 := fun k hk => by
    have : k = 0 ∨ k = 1 ∨ k = 2 ∨ k = 3 ∨ k = 4 ∨ k = 5 := by omega
    rcases this with rfl | rfl | rfl | rfl | rfl | rfl <;> decide
  simp?
  refine for_map (fun k e => ∃ (rest : List (List Int)) (s4 : Jk), e = [.sh (oI o), .sh (tI s), .sh (.int w), .ow (.lst (([] :: rest).map tI)), s4.s, .un, .un, .un, .un, .un] ∧ rest.length + 1 = 2 ^ k ∧ ∀ r ∈ rest, r ≠ [] ∧ r.Nodup ∧ ∀ x ∈ r, x ∈ (freeL o.length s).take k) ⟨[], .un, rfl, rfl, fun r hr => by cases hr⟩ ?_ ?_
  · rintro k p e hk ⟨rest, s4, rfl, hlen, hr⟩
    have hkl := (List.getElem?_eq_some_iff.mp hk).1
    have hpw := hpow (k + 1) (by omega)
    have hpe : 2 ^ (k + 1) = 2 ^ k + 2 ^ k := by rw [Nat.pow_succ]; omega
    have hp : p ∈ freeL o.length s := List.mem_of_getElem? hk
    have hpn : p ∉ (freeL o.length s).take k := fun z => by
      obtain ⟨t, ht, e⟩ := List.getElem_of_mem z
      rw [List.length_take] at ht
      rw [List.getElem_take] at e
      have nd := free_pset (n := o.length) (s := s).nd
      have e2 : (freeL o.length s)[k] = p := (List.getElem?_eq_some_iff.mp hk).2
      have := (List.getElem_inj nd).mp (e.trans e2.symm)
      omega
    have htk : (freeL o.length s).take (k + 1) = (freeL o.length s).take k ++ [p] := by rw [List.take_add_one, hk]; rfl
    have hr' : ∀ r ∈ ([] :: rest), r.Nodup ∧ ∀ x ∈ r, x ∈ (freeL o.length s).take k := fun r h => by
      rcases List.mem_cons.mp h with rfl | h
      · exact ⟨List.nodup_nil, fun x hx => by cases hx⟩
      · exact (hr r h).2
    have hrl : ∀ r ∈ ([] :: rest), r.length ≤ 5 := fun r h => by
      have := nodup_len (hr' r h).1 fun x hx => free_pset.rg x (List.mem_of_mem_take ((hr' r h).2 x hx))
      omega
    simp? [foT]
    refine lcA' [.sh (oI o), .sh (tI s), .sh (.int w), .sh (.lst (([] :: rest).map tI)), .sh (.int p), .un, .un, .un, .un, .un] (as := [] :: rest) (ea := tI) (fun r => r ++ [p]) tI rfl (.inl rfl) ?_ (by simp only [List.length_cons]; omega) (fun r h => ?_) ?_
    · simp?
    · have := hrl r h
      simp?
      refine ⟨by decide, by unfold SL; omega, ?_⟩
      show D.tup (r.map D.int ++ [D.int p]) = D.tup ((r ++ [p]).map D.int)
      rw [List.map_append]
      rfl
    · simp?
      refine ⟨by unfold SL; omega, rest ++ ([] :: rest).map (fun r => r ++ [p]), .sh (.int p), by simp [Jk.sh], ?_, fun r h => ?_⟩
      · simp only [List.length_append, List.length_map, List.length_cons]
        omega
      · rw [htk]
        rcases List.mem_append.mp h with h | h
        · exact ⟨(hr r h).1, (hr r h).2.1, fun x hx => List.mem_append_left _ ((hr r h).2.2 x hx)⟩
        · obtain ⟨r', h', rfl⟩ := List.mem_map.mp h
          obtain ⟨n1, n2⟩ := hr' r' h'
          refine ⟨by simp, ?_, fun x hx => ?_⟩
          · rw [List.nodup_append]
            refine ⟨n1, by simp, fun x hx y hy e => ?_⟩
            rw [List.mem_singleton.mp hy] at e
            subst e
            exact hpn (n2 x hx)
          · rcases List.mem_append.mp hx with hx | hx
            · exact List.mem_append_left _ (n2 x hx)
            · exact List.mem_append_right _ hx
  · rintro e ⟨rest, s4, rfl, hlen, hr⟩
    have hpw := hpow (freeL o.length s).length (by omega)
    simp? [cut_1]
    rw [show List.drop 1 (tI [] :: rest.map tI) = rest.map tI from rfl]
    refine for_map (fun k e => ∃ (ts : List (List Int)) (s4 s6 s7 s8 : Jk), e = [.sh (oI o), .sh (tI s), .sh (.int w), .ow (.lst (tI [] :: rest.map tI)), s4.s, .ow (.lst (ts.map tI)), s6.s, s7.s, s8.s, .un] ∧ (∀ t ∈ ts, Pset o.length t ∧ s.length < t.length) ∧ ts.length ≤ k) ⟨[], s4, .un, .un, .un, rfl, (fun t ht => by cases ht), Nat.le_refl _⟩ ?_ ?_
    · rintro k r e hk ⟨ts, s4, s6, s7, s8, rfl, hts, htl⟩
      have hkl := (List.getElem?_eq_some_iff.mp hk).1
      obtain ⟨r1, r2, r3⟩ := hr r (List.mem_of_getElem? hk)
      have r4 : ∀ x ∈ r, x ∈ freeL o.length s := fun x hx => List.mem_of_mem_take (r3 x hx)
      have hrl : r.length ≤ 5 := by
        have := nodup_len r2 fun x hx => free_pset.rg x (r4 x hx)
        omega
      have hps : Pset o.length (sortI (s ++ r)) ∧ s.length < (sortI (s ++ r)).length := by
        have hp := sortI_perm (s ++ r)
        refine ⟨⟨hp.nodup_iff.mpr ?_, fun x hx => ?_⟩, ?_⟩
        · rw [List.nodup_append]
          exact ⟨hs.nd, r2, fun x hx y hy e => free_not y (r4 y hy) (e ▸ hx)⟩
        · rcases List.mem_append.mp (hp.mem_iff.mp hx) with hx | hx
          · exact hs.rg x hx
          · exact free_pset.rg x (r4 x hx)
        · rw [hp.length_eq, List.length_append]
          have := List.length_pos_iff.mpr r1
          omega
      simp? [foT, op_tI]
      refine ⟨by unfold SL; omega, ?_⟩
      rw [show (s.map D.int ++ r.map D.int) = (s ++ r).map D.int from (List.map_append ..).symm]
      refine for_map (fun j e => ∃ (low : List Int) (s4 : Jk), e = [.sh (oI o), .sh (tI s), .sh (.int w), .ow (.lst (tI [] :: rest.map tI)), s4.s, .ow (.lst (ts.map tI)), .sh (tI r), .sh (tI (s ++ r)), .ow (lI low), .un] ∧ low.length ≤ 1000 * j) ⟨[], s4, rfl, Nat.le_refl _⟩ ?_ ?_
      · rintro j q e hj ⟨low, s4, rfl, hlow⟩
        have hjl := (List.getElem?_eq_some_iff.mp hj).1
        have hq := free_pset.rg q (r4 q (List.mem_of_getElem? hj))
        obtain ⟨q, rfl⟩ := Int.eq_ofNat_of_zero_le hq.1
        have hqo : q < o.length := by omega
        have hrq := ho.rle hqo
        simp? [foT]
        refine lcQ (as := rowO o q) (ea := D.int) (fun x => decide (x ≠ (q : Int))) (fun x => x) D.int rfl (.inl rfl) ?_ (by omega) (fun x hx => ?_) (fun x hx _ => ?_) ?_
        · simp? [atI_row hqo]
        · simp?
          simp
        · simp?
        rw [List.map_id']
        have hfl2 := List.length_filter_le (fun x => decide (x ≠ (q : Int))) (rowO o q)
        simp?
        refine ⟨by unfold SL; omega, low ++ (rowO o q).filter (fun x => decide (x ≠ (q : Int))), .sh _, by simp only [lI, List.map_append]; rfl, by rw [List.length_append]; omega⟩
      · rintro e ⟨low, s4, rfl, hlow⟩
        have hlb : low.length ≤ 5000 := by
          have := Nat.mul_le_mul_left 1000 hrl
          omega
        have fin : ∀ s8 : Slot, True := fun _ => trivial
        have key : ∀ (ts' : List (List Int)), ts' = ts ∨ ts' = ts ++ [sortI (s ++ r)] → (∀ t ∈ ts', Pset o.length t ∧ s.length < t.length) ∧ ts'.length ≤ k + 1 := fun ts' h => by
          rcases h with rfl | rfl
          · exact ⟨hts, by omega⟩
          · refine ⟨fun t ht => ?_, by rw [List.length_append]; simp only [List.length_cons, List.length_nil]; omega⟩
            rcases List.mem_append.mp ht with ht | ht
            · exact hts t ht
            · rw [List.mem_singleton.mp ht]; exact hps
        have ap : ts.map tI ++ [tI (sortI (s ++ r))] = (ts ++ [sortI (s ++ r)]).map tI := by rw [List.map_append]; rfl
        have htb : ts.length ≤ 32 := by omega
        simp?
        refine lcQ' [.sh (oI o), .sh (tI s), .sh (.int w), .ow (.lst (tI [] :: rest.map tI)), s4.s, .ow (.lst (ts.map tI)), .sh (tI r), .sh (tI (s ++ r)), .sh (lI low), .un] (as := low) (ea := D.int) (fun x => decide (x ∉ s ++ r)) (fun x => x) D.int rfl (.inl rfl) ?_ (by omega) (fun x hx => ?_) (fun x hx _ => ?_) ?_
        · simp?
        · simp?
          simp
        · simp?
        rw [List.map_id']
        simp? [cm_eqL0]
        refine Sat_ite.mpr ⟨fun h1 => ?_, fun h1 => ?_⟩
        · simp?
          obtain ⟨k1, k2⟩ := key ts (.inl rfl)
          obtain ⟨k3, k4⟩ := key _ (.inr rfl)
          cases hd : decide (w = 0) with
          | true =>
            simp? [bf_sortT]
            refine ⟨by unfold SL; omega, ts ++ [sortI (s ++ r)], s4, .sh (tI r), .sh (tI (s ++ r)), .sh (lI low), ?_, k3, k4⟩
            rw [← ap]
            rfl
          | false =>
            simp?
            refine lcQ (as := low) (ea := D.int) (fun x => decide (x ∈ r)) (fun x => x) D.int rfl (.inl rfl) ?_ (by omega) (fun x hx => ?_) (fun x hx _ => ?_) ?_
            · simp?
            · simp?
            · simp?
            rw [List.map_id']
            simp? [cm_eqL0]
            refine Sat_ite.mpr ⟨fun h2 => ?_, fun h2 => ?_⟩
            · simp? [bf_sortT]
              refine ⟨by unfold SL; omega, ts ++ [sortI (s ++ r)], s4, .sh (tI r), .sh (tI (s ++ r)), .sh (lI low), ?_, k3, k4⟩
              rw [← ap]
              rfl
            · simp?
              exact ⟨ts, s4, .sh _, .sh _, .sh _, rfl, k1, k2⟩
        · simp?
          obtain ⟨k1, k2⟩ := key ts (.inl rfl)
          exact ⟨ts, s4, .sh _, .sh _, .sh _, rfl, k1, k2⟩
    · rintro e ⟨ts, s4, s6, s7, s8, rfl, hts, htl⟩
      simp?
      have : 2 ^ (freeL o.length s).length ≤ 2 ^ (o.length - s.length) := Nat.pow_le_pow_right (by decide) (by omega)
      exact ⟨ts, rfl, hts, by omega⟩
/-- the sets of a level, with how many maps -/
structure Lvl (n : Nat) (l M B : Nat) (kvs : List (List Key × D)) : Prop where
  k : ∀ kv ∈ kvs, ∃ (t : List Int) (v : Int), kv = (t.map Sum.inl, .int v) ∧ Pset n t ∧ l ≤ t.length ∧ v.natAbs ≤ B
  n : kvs.length ≤ M
theorem keys_ints : ∀ t : List Int, keysOf (t.map D.int) = some (t.map Sum.inl)
  | [] => rfl
  | x :: t => by
    show (match keyOf (.int x), keysOf (t.map D.int) with
      | some k, some ks => some (k :: ks)
      | _, _ => none) = _
    rw [keys_ints t]; rfl
theorem keyD_ints (t : List Int) : (t.map (Sum.inl : Int → Key)).map keyD = t.map D.int := by
  rw [List.map_map]; rfl
theorem Lvl.look {n l M B : Nat} {kvs : List (List Key × D)} (h : Lvl n l M B kvs) {k : List Key} {d : D} (e : look kvs k = some d) : ∃ v : Int, d = .int v ∧ v.natAbs ≤ B := by
  unfold VL.look at e
  cases hf : kvs.find? fun kv => decide (kv.1 = k) with
  | none => rw [hf] at e; cases e
  | some kv =>
    rw [hf] at e
    obtain ⟨t, v, rfl, _, _, hv⟩ := h.k kv (List.mem_of_find?_eq_some hf)
    cases e
    exact ⟨v, rfl, hv⟩
theorem look_has {κ : Type} [DecidableEq κ] {kvs : List (κ × D)} {kv : κ × D} (h : kv ∈ kvs) : ∃ d, look kvs kv.1 = some d := by
  unfold look
  cases hf : kvs.find? fun x => decide (x.1 = kv.1) with
  | none =>
    have := List.find?_eq_none.mp hf kv h
    simp at this
  | some x => exact ⟨x.2, rfl⟩
theorem put_mem {κ : Type} [DecidableEq κ] {kvs : List (κ × D)} {k : κ} {v : D} {x : κ × D} (h : x ∈ put kvs k v) : x ∈ kvs ∨ x = (k, v) := by
  unfold put at h
  split at h
  · obtain ⟨y, hy, rfl⟩ := List.mem_map.mp h
    split
    · rename_i e
      exact .inr (by rw [e])
    · exact .inl hy
  · rcases List.mem_append.mp h with h | h
    · exact .inl h
    · exact .inr (List.mem_singleton.mp h)
theorem put_len {κ : Type} [DecidableEq κ] {kvs : List (κ × D)} {k : κ} {v : D} : (put kvs k v).length ≤ kvs.length + 1 := by
  unfold put
  split
  · rw [List.length_map]; omega
  · rw [List.length_append]; exact Nat.le_refl _
theorem getT {kvs : List (List Key × D)} {t : List Int} : getD (.dT kvs) (tI t) = .ok (look kvs (t.map Sum.inl)) := by
  show (ofO (keysOf (t.map D.int)) >>= fun k => Res.ok (look kvs k)) = _
  rw [keys_ints]; rfl
theorem putT {kvs : List (List Key × D)} {t : List Int} {v : D} : putD (.dT kvs) (tI t) v = (chk (decide (kvs.length < SL)) >>= fun _ => .ok (.dT (put kvs (t.map Sum.inl) v))) := by
  show (ofO (keysOf (t.map D.int)) >>= fun k => chk (decide (kvs.length < SL)) >>= fun _ => Res.ok (D.dT (put kvs k v))) = _
  rw [keys_ints]; rfl
theorem idxT {kvs : List (List Key × D)} {t : List Int} : idxD (.dT kvs) (tI t) = ofO (look kvs (t.map Sum.inl)) := by
  show (getD (.dT kvs) (tI t) >>= fun o => ofO o) = _
  rw [getT]; rfl
def exL : Nat → Nat
  | 0 => 0 | 1 => 5 | 2 => 9 | 3 => 12 | 4 => 14 | _ => 15
theorem ex_step {l : Nat} (h : l ≤ 5) : 2 ^ exL l * 2 ^ (5 - l) ≤ 2 ^ exL (l + 1) := by
  have : l = 0 ∨ l = 1 ∨ l = 2 ∨ l = 3 ∨ l = 4 ∨ l = 5 := by omega
  rcases this with rfl | rfl | rfl | rfl | rfl | rfl <;> decide
theorem ex_le (l : Nat) : 2 ^ exL l ≤ 32768 := by
  match l with
  | 0 => exact (by decide)
  | 1 => exact (by decide)
  | 2 => exact (by decide)
  | 3 => exact (by decide)
  | 4 => exact (by decide)
  | n + 5 => exact (show 2 ^ 15 ≤ 32768 from by decide)
/-- one more -/
theorem Lvl.put {n l B m : Nat} {kvs : List (List Key × D)} (h : Lvl n l m (m * B) kvs) {t : List Int} (ht : Pset n t) (hl : l ≤ t.length) {v : Int} (hv : v.natAbs ≤ (m + 1) * B) : Lvl n l (m + 1) ((m + 1) * B) (VL.put kvs (t.map Sum.inl) (.int v)) := by
  refine ⟨fun kv hk => ?_, Nat.le_trans put_len (by have := h.n; omega)⟩
  rcases put_mem hk with hk | rfl
  · obtain ⟨t', v', rfl, a, b, c⟩ := h.k kv hk
    exact ⟨t', v', rfl, a, b, Nat.le_trans c (Nat.mul_le_mul_right _ (by omega))⟩
  · exact ⟨t, v, rfl, ht, hl, hv⟩
def fOnto (cN : Nat) : Def := ⟨[false, false], 9,
  [.set 2 (.dspG true [.tup [], .lit (.int 1)]),
   .set 3 (.lst []),
   .set 4 (.rngL true [.blt .len [.var 0]]),
   .for (.one 5) (.rng [.op .add (.blt .len [.var 0]) (.lit (.int 1))]) [.mut .append 3 [.mth .get2 (.var 2) [.var 4, .lit (.int 0)]], .set 6 (.dnew true), .forD (.one 7) 2 [.for (.one 8) (.seq (.call cN [.var 0, .var 7, .var 1])) [.sub 6 (.var 8) (.op .add (.mth .get2 (.var 6) [.var 8, .lit (.int 0)]) (.idx (.var 2) (.var 7)))]], .set 2 (.var 6)],
   .ret (some (.blt .tuple1 [.var 3]))]⟩
structure OntoS (T : Tb) (i : Nat) : Prop where
  fl : T.fl i = [false, false]
  run : ∀ (o : List (List Int)) (w : Int), IsOrd o → o.length ≤ 5 → Sat (T.call i [oI o, .int w]) fun q => ∃ l, q = ⟨false, tI l, []⟩ ∧ SzR l
theorem onto_sat {cN : Nat} (hN : NextS T cN) {o : List (List Int)} {w : Int} (ho : IsOrd o) (h5 : o.length ≤ 5) : Sat (runDef T (fOnto cN) [oI o, .int w]) fun q => ∃ l, q = ⟨false, tI l, []⟩ ∧ SzR l := by
  refine runDef_sat rfl (by simp [fOnto]) ?_
  show Sat (runB T (fOnto cN).body [.sh (oI o), .sh (.int w), .un, .un, .un, .un, .un, .un, .un]) _
  have ew : (D.tup ((List.range o.length).map nI)) = tI ((List.range o.length).map fun k : Nat => (k : Int)) := by show D.tup _ = D.tup _; rw [List.map_map]; rfl
  simp? [fOnto, xE_dspG, show dspD true [.tup [], .int 1] = .ok (.dT [([], .int 1)]) from rfl]
  refine ⟨by omega, by unfold SL; omega, by omega, ?_⟩
  rw [ew, show ((o.length : Int) + 1).toNat = o.length + 1 by omega]
  refine for_rng (fun l e => ∃ (kvs : List (List Key × D)) (found : List Int) (s5 s6 s7 s8 : Jk), (e = [.sh (oI o), .sh (.int w), .ow (.dT kvs), .ow (lI found), .sh (tI ((List.range o.length).map fun k : Nat => (k : Int))), s5.s, s6.s, s7.s, s8.s] ∨ e = [.sh (oI o), .sh (.int w), .sh (.dT kvs), .ow (lI found), .sh (tI ((List.range o.length).map fun k : Nat => (k : Int))), s5.s, s6.s, s7.s, s8.s]) ∧ Lvl o.length l (2 ^ exL l) (32768 ^ l) kvs ∧ found.length = l ∧ ∀ v ∈ found, v.natAbs < 2 ^ 1000) ⟨_, [], .un, .un, .un, .un, .inl rfl, ⟨fun kv hk => ⟨[], 1, by rw [List.mem_singleton.mp hk]; rfl, ⟨List.nodup_nil, fun x hx => (by cases hx)⟩, Nat.le_refl _, by decide⟩, by decide⟩, rfl, fun v hv => (by cases hv)⟩ ?_ ?_
  · rintro l e hl ⟨kvs, found, s5, s6, s7, s8, he, L, hfl, hfv⟩
    have hl5 : l ≤ 5 := by omega
    have hB : (32768 : Nat) ^ l < 2 ^ 1000 := by
      have : (32768 : Nat) ^ l ≤ 32768 ^ 5 := Nat.pow_le_pow_right (by decide) hl5
      exact Nat.lt_of_le_of_lt this (by decide +kernel)
    obtain ⟨u, eu, hu⟩ : ∃ u : Int, (look kvs (((List.range o.length).map fun k : Nat => (k : Int)).map Sum.inl)).getD (.int 0) = .int u ∧ u.natAbs < 2 ^ 1000 := by
      cases hz : look kvs (((List.range o.length).map fun k : Nat => (k : Int)).map Sum.inl) with
      | none => exact ⟨0, rfl, by decide +kernel⟩
      | some d =>
        obtain ⟨v, rfl, hv⟩ := L.look hz
        exact ⟨v, rfl, Nat.lt_of_le_of_lt hv hB⟩
    have hfv' : ∀ v ∈ found ++ [u], v.natAbs < 2 ^ 1000 := fun v hv => by
      rcases List.mem_append.mp hv with hv | hv
      · exact hfv v hv
      · rw [List.mem_singleton.mp hv]; exact hu
    have grow : ∀ s5 s7 s8 : Jk, Sat (forL (foT T (.one 7) [.for (.one 8) (.seq (.call cN [.var 0, .var 7, .var 1])) [.sub 6 (.var 8) (.op .add (.mth .get2 (.var 6) [.var 8, .lit (.int 0)]) (.idx (.var 2) (.var 7)))]]) (kvs.map fun p => .tup (p.1.map keyD)) [.sh (oI o), .sh (.int w), .sh (.dT kvs), .ow (lI (found ++ [u])), .sh (tI ((List.range o.length).map fun k : Nat => (k : Int))), s5.s, .ow (.dT []), s7.s, s8.s]) fun o' => ∃ (later : List (List Key × D)) (s7 s8 : Jk), o' = .nx [.sh (oI o), .sh (.int w), .sh (.dT kvs), .ow (lI (found ++ [u])), .sh (tI ((List.range o.length).map fun k : Nat => (k : Int))), s5.s, .ow (.dT later), s7.s, s8.s] ∧ Lvl o.length (l + 1) (2 ^ exL (l + 1)) (32768 ^ (l + 1)) later := by
      intro s5 s7 s8
      have hM := L.n
      have hst := ex_step hl5
      have hex := ex_le (l + 1)
      have hp5 : 0 < 2 ^ (5 - l) := Nat.pow_pos (by decide)
      refine for_map (fun k e => ∃ (m : Nat) (later : List (List Key × D)) (s7 s8 : Jk), e = [.sh (oI o), .sh (.int w), .sh (.dT kvs), .ow (lI (found ++ [u])), .sh (tI ((List.range o.length).map fun k : Nat => (k : Int))), s5.s, .ow (.dT later), s7.s, s8.s] ∧ m ≤ k * 2 ^ (5 - l) ∧ Lvl o.length (l + 1) m (m * 32768 ^ l) later) ⟨0, [], s7, s8, rfl, Nat.zero_le _, ⟨fun kv hk => (by cases hk), Nat.zero_le _⟩⟩ ?_ ?_
      · rintro k kv e hk ⟨m, later, s7, s8, rfl, hm, hL⟩
        have hkl := (List.getElem?_eq_some_iff.mp hk).1
        have hmem := List.mem_of_getElem? hk
        obtain ⟨t, v, rfl, ht, hlt, hv⟩ := L.k kv hmem
        obtain ⟨d, hd⟩ := look_has hmem
        obtain ⟨v', rfl, hv'⟩ := L.look hd
        have hks : (k + 1) * 2 ^ (5 - l) ≤ 32768 := by
          have : (k + 1) * 2 ^ (5 - l) ≤ 2 ^ exL l * 2 ^ (5 - l) := Nat.mul_le_mul_right _ (by omega)
          omega
        have hk1 : (k + 1) * 2 ^ (5 - l) = k * 2 ^ (5 - l) + 2 ^ (5 - l) := by rw [Nat.add_mul, Nat.one_mul]
        simp? [foT, keyD_ints]
        refine callR_dat hN.fl (by simp) rfl rfl rfl (hN.run o t w ho h5 ht) fun q_ hq_ => ?_
        obtain ⟨ts, rfl, nx⟩ := hq_
        refine ⟨rfl, ?_⟩
        simp?
        have htl : ts.length ≤ 2 ^ (5 - l) := Nat.le_trans nx.len (Nat.pow_le_pow_right (by decide) (by omega))
        refine for_map (fun j e => ∃ (later : List (List Key × D)) (s8 : Jk), e = [.sh (oI o), .sh (.int w), .sh (.dT kvs), .ow (lI (found ++ [u])), .sh (tI ((List.range o.length).map fun k : Nat => (k : Int))), s5.s, .ow (.dT later), .sh (tI t), s8.s] ∧ Lvl o.length (l + 1) (m + j) ((m + j) * 32768 ^ l) later) ⟨later, s8, rfl, hL⟩ ?_ ?_
        · rintro j q e hj ⟨later, s8, rfl, hL⟩
          have hjl := (List.getElem?_eq_some_iff.mp hj).1
          obtain ⟨hq1, hq2⟩ := nx.ok q (List.mem_of_getElem? hj)
          obtain ⟨x, ex, hx⟩ : ∃ x : Int, (look later (q.map Sum.inl)).getD (.int 0) = .int x ∧ x.natAbs ≤ (m + j) * 32768 ^ l := by
            cases hz : look later (q.map Sum.inl) with
            | none => exact ⟨0, rfl, Nat.zero_le _⟩
            | some d =>
              obtain ⟨x, rfl, hx⟩ := hL.look hz
              exact ⟨x, rfl, hx⟩
          have hnl := hL.n
          have hsum : (x + v').natAbs ≤ (m + j + 1) * 32768 ^ l := by
            rw [Nat.add_mul (m + j) 1, Nat.one_mul]
            omega
          simp? [foT, xE_mth, mtOk, mtD, getT, ex, idxT, hd, putT]
          refine ⟨rfl, by unfold SL; omega, ?_⟩
          exact ⟨_, .sh _, rfl, hL.put hq1 (by omega) hsum⟩
        · rintro e ⟨later, s8, rfl, hL⟩
          simp?
          exact ⟨m + ts.length, later, .sh _, s8, rfl, by omega, hL⟩
      · rintro e ⟨m, later, s7, s8, rfl, hm, hL⟩
        have hm2 : m ≤ 2 ^ exL (l + 1) := Nat.le_trans hm (Nat.le_trans (Nat.mul_le_mul_right _ hM) hst)
        have hB2 : m * 32768 ^ l ≤ 32768 ^ (l + 1) := by
          rw [Nat.pow_succ, Nat.mul_comm]
          exact Nat.mul_le_mul_left _ (by omega)
        exact ⟨later, s7, s8, rfl, fun kv hk => by
          obtain ⟨t, v, e, a, b, c⟩ := hL.k kv hk
          exact ⟨t, v, e, a, b, Nat.le_trans c hB2⟩, by have := hL.n; omega⟩
    rcases he with rfl | rfl
    · simp? [foT, xE_mth, mtOk, mtD, getT, eu]
      refine ⟨rfl, by unfold SL; omega, ?_⟩
      rw [show (found.map D.int ++ [D.int u]) = (found ++ [u]).map D.int by simp]
      refine forD_ow rfl rfl ?_
      refine Sat.mono (grow (.sh (.int l)) s7 s8) ?_
      rintro o' ⟨later, s7, s8, rfl, hL⟩
      simp?
      exact ⟨later, found ++ [u], .sh _, .sh _, s7, s8, .inr rfl, hL, by rw [List.length_append, hfl]; rfl, hfv'⟩
    · simp? [foT, xE_mth, mtOk, mtD, getT, eu]
      refine ⟨rfl, by unfold SL; omega, ?_⟩
      rw [show (found.map D.int ++ [D.int u]) = (found ++ [u]).map D.int by simp]
      refine forD_sh rfl rfl ?_
      refine Sat.mono (grow (.sh (.int l)) s7 s8) ?_
      rintro o' ⟨later, s7, s8, rfl, hL⟩
      simp?
      exact ⟨later, found ++ [u], .sh _, .sh _, s7, s8, .inr rfl, hL, by rw [List.length_append, hfl]; rfl, hfv'⟩
  · rintro e ⟨kvs, found, s5, s6, s7, s8, he, L, hfl, hfv⟩
    rcases he with rfl | rfl
    · simp?
      exact ⟨found, rfl, by omega, hfv⟩
    · simp?
      exact ⟨found, rfl, by omega, hfv⟩
structure Right69S (T : Tb) (i : Nat) : Prop where
  fl : T.fl i = [false, false]
  run : ∀ (l : List Int) (x : Int), SzR l → x.natAbs < 2 ^ 101 → Sat (T.call i [tI l, .int x]) fun q => q = ⟨false, .bl true, []⟩
def fLaw69 (cR cC cP cN cO cD : Nat) : Def := ⟨[false], 6,
  [.for (.one 1) (.seq (.lst [.lit (.int 0), .lit (.int 1), .neg (.lit (.int 1)), .op .pow (.lit (.int 10)) (.lit (.int 30)), .neg (.op .pow (.lit (.int 10)) (.lit (.int 30)))])) [.ife (.orb [.notb (.call cR [.tup [.lit (.int 1)], .var 1]), .notb (.call cR [.tup [.lit (.int 0), .lit (.int 1)], .var 1]), .notb (.call cR [.tup [.lit (.int 0), .lit (.int 1), .lit (.int 2)], .var 1])]) [.ret (some (.lit (.bl false)))] [], .ife (.notb (.call cR [.op .add (.op .mul (.tup [.lit (.int 0)]) (.lit (.int 8))) (.tup [.lit (.int 1)]), .var 1])) [.ret (some (.lit (.bl false)))] []],
   .for (.one 2) (.seq (.op .add (.lst [.call cC [.var 0, .lit (.int 0)]]) (.slc (.var 0) (some (.lit (.int 1))) (some (.lit (.int 5)))))) [.set 3 (.call cP [.var 2]), .set 4 (.call cN [.call cO [.var 3, .lit (.int 5)], .call cD [.var 3, .lit (.int 2)]]), .set 5 (.lst [.call cD [.var 3, .lit (.int 12)], .op .sub (.neg (.lit (.int 1))) (.call cD [.var 3, .lit (.int 12)]), .call cD [.var 3, .lit (.int 41)], .op .sub (.neg (.lit (.int 1))) (.call cD [.var 3, .lit (.int 41)]), .lit (.int 0)]), .set 5 (.op .add (.var 5) (.lst [.call cD [.var 3, .op .add (.op .pow (.lit (.int 10)) (.lit (.int 30))) (.lit (.int 1))], .op .sub (.lit (.int 0)) (.call cD [.var 3, .op .add (.op .pow (.lit (.int 10)) (.lit (.int 30))) (.lit (.int 1))]), .op .sub (.call cD [.var 3, .lit (.int 1000)]) (.lit (.int 500))])), .for (.one 1) (.seq (.var 5)) [.ife (.notb (.call cR [.var 4, .var 1])) [.ret (some (.lit (.bl false)))] []]],
   .ret (some (.lit (.bl true)))]⟩
theorem szr_small {l : List Int} (h1 : l.length ≤ 9) (h2 : ∀ v ∈ l, v.natAbs < 10) : SzR l := ⟨h1, fun v hv => Nat.lt_of_lt_of_le (h2 v hv) (by
  have : (2 : Nat) ^ 4 ≤ 2 ^ 1000 := Nat.pow_le_pow_right (by decide) (by decide)
  omega)⟩
theorem law69_sat {cR cC cP cN cO cD : Nat} (hR : Right69S T cR) (hC : CellS T cC) (hP : PenS T cP) (hN : OntoS T cN) (hO : OrderMS T cO) (hD : DrawG T cD) {ns : List Int} (hn : ns.length ≤ 63) : Sat (runDef T (fLaw69 cR cC cP cN cO cD) [.scr ns]) fun q => q = ⟨false, .bl true, []⟩ := by
  refine runDef_sat rfl (by simp [fLaw69]) ?_
  show Sat (runB T (fLaw69 cR cC cP cN cO cD).body [.sh (.scr ns), .un, .un, .un, .un, .un]) _
  have hcl := cutL_len ns (some 1) (some 5)
  have byid : ∀ (turn : EnvD → D → Res Out) (ds : List D) (env : EnvD), forL turn ds env = forL turn (ds.map id) env := fun _ _ _ => by rw [List.map_id]
  simp? [fLaw69, slc_scr]
  refine ⟨by decide, by decide, by decide, ?_⟩
  rw [byid]
  have xs : ∀ d ∈ [D.int 0, D.int 1, D.int (-1), D.int (10 ^ 30), D.int (-10 ^ 30)], ∃ x : Int, d = .int x ∧ x.natAbs < 2 ^ 101 := by
    intro d hd
    simp only [List.mem_cons, List.not_mem_nil, or_false] at hd
    rcases hd with rfl | rfl | rfl | rfl | rfl <;> exact ⟨_, rfl, by decide +kernel⟩
  refine for_all (fun e => ∃ s1 : Jk, e = [.sh (.scr ns), s1.s, .un, .un, .un, .un]) ⟨.un, rfl⟩ ?_ ?_
  · rintro d hd e ⟨s1, rfl⟩
    obtain ⟨x, rfl, hx⟩ := xs d hd
    simp? [foT, id]
    refine ⟨by decide, ?_⟩
    refine callR_dat hR.fl (by simp) rfl rfl rfl (hR.run [1] x (szr_small (by decide) (by decide)) hx) fun q_ hq_ => ?_
    obtain rfl := hq_
    refine ⟨rfl, ?_⟩
    simp?
    refine ⟨by decide, ?_⟩
    refine callR_dat hR.fl (by simp) rfl rfl rfl (hR.run [0, 1] x (szr_small (by decide) (by decide)) hx) fun q_ hq_ => ?_
    obtain rfl := hq_
    refine ⟨rfl, ?_⟩
    simp?
    refine ⟨by decide, ?_⟩
    refine callR_dat hR.fl (by simp) rfl rfl rfl (hR.run [0, 1, 2] x (szr_small (by decide) (by decide)) hx) fun q_ hq_ => ?_
    obtain rfl := hq_
    refine ⟨rfl, ?_⟩
    simp?
    refine ⟨by decide, ?_⟩
    simp? [show opD .mul (.tup [.int 0]) (.int 8) = .ok (.dat (tI [0, 0, 0, 0, 0, 0, 0, 0])) from rfl]
    refine ⟨by decide, ?_⟩
    refine ⟨by decide, ?_⟩
    refine callR_dat hR.fl (by simp) rfl rfl rfl (hR.run [0, 0, 0, 0, 0, 0, 0, 0, 1] x (szr_small (by decide) (by decide)) hx) fun q_ hq_ => ?_
    obtain rfl := hq_
    refine ⟨rfl, ?_⟩
    simp?
    exact ⟨.sh _, rfl⟩
  rintro e ⟨s1, rfl⟩
  simp? [slc_scr]
  refine callR_dat hC.fl (by simp) rfl rfl rfl (hC.run ns 0 (by decide)) fun q_ hq_ => ?_
  obtain ⟨c, rfl⟩ := hq_
  refine ⟨rfl, ?_⟩
  simp?
  simp? [slc_scr]
  refine ⟨by decide, by unfold SL; omega, ?_⟩
  rw [show (D.int c :: (cutL ns (some 1) (some 5)).map D.int) = (c :: cutL ns (some 1) (some 5)).map D.int from rfl]
  refine for_all (fun e => ∃ s1 s2 s3 s4 s5 : Jk, e = [.sh (.scr ns), s1.s, s2.s, s3.s, s4.s, s5.s]) ⟨s1, .un, .un, .un, .un, rfl⟩ ?_ ?_
  · rintro c _ e ⟨s1, s2, s3, s4, s5, rfl⟩
    simp? [foT]
    refine callR_dat hP.fl (by simp) rfl rfl rfl (hP.run c) fun q_ hq_ => ?_
    obtain ⟨a, b, rfl⟩ := hq_
    refine ⟨rfl, ?_⟩
    simp?
    refine callR_ow hO.fl (by simp) rfl rfl rfl rfl (hO.run a b 5 (by decide) (by decide)) fun q_ hq_ => ?_
    obtain ⟨o, a1, rfl, ho, ho5⟩ := hq_
    refine ⟨_, rfl, ?_⟩
    simp?
    refine callR_ow hD.fl (by simp) rfl rfl rfl rfl (hD.run a1 b 2 (by decide) (by decide)) fun q_ hq_ => ?_
    obtain ⟨w, a2, rfl, w0, w1⟩ := hq_
    refine ⟨_, rfl, ?_⟩
    simp?
    refine callR_dat hN.fl (by simp) rfl rfl rfl (hN.run o w ho (by omega)) fun q_ hq_ => ?_
    obtain ⟨l, rfl, hl⟩ := hq_
    refine ⟨rfl, ?_⟩
    simp?
    refine callR_ow hD.fl (by simp) rfl rfl rfl rfl (hD.run a2 b 12 (by decide) (by decide)) fun q_ hq_ => ?_
    obtain ⟨v1, a3, rfl, p1, q1⟩ := hq_
    refine ⟨_, rfl, ?_⟩
    simp?
    refine callR_ow hD.fl (by simp) rfl rfl rfl rfl (hD.run a3 b 12 (by decide) (by decide)) fun q_ hq_ => ?_
    obtain ⟨v2, a4, rfl, p2, q2⟩ := hq_
    refine ⟨_, rfl, ?_⟩
    simp?
    refine callR_ow hD.fl (by simp) rfl rfl rfl rfl (hD.run a4 b 41 (by decide) (by decide)) fun q_ hq_ => ?_
    obtain ⟨v3, a5, rfl, p3, q3⟩ := hq_
    refine ⟨_, rfl, ?_⟩
    simp?
    refine callR_ow hD.fl (by simp) rfl rfl rfl rfl (hD.run a5 b 41 (by decide) (by decide)) fun q_ hq_ => ?_
    obtain ⟨v4, a6, rfl, p4, q4⟩ := hq_
    refine ⟨_, rfl, ?_⟩
    simp?
    refine ⟨by decide, by decide, ?_⟩
    refine callR_ow hD.fl (by simp) rfl rfl rfl rfl (hD.run a6 b (10 ^ 30 + 1) (by decide) (by decide +kernel)) fun q_ hq_ => ?_
    obtain ⟨v5, a7, rfl, p5, q5⟩ := hq_
    refine ⟨_, rfl, ?_⟩
    simp?
    refine ⟨by decide, ?_⟩
    refine callR_ow hD.fl (by simp) rfl rfl rfl rfl (hD.run a7 b (10 ^ 30 + 1) (by decide) (by decide +kernel)) fun q_ hq_ => ?_
    obtain ⟨v6, a8, rfl, p6, q6⟩ := hq_
    refine ⟨_, rfl, ?_⟩
    simp?
    refine callR_ow hD.fl (by simp) rfl rfl rfl rfl (hD.run a8 b 1000 (by decide) (by decide)) fun q_ hq_ => ?_
    obtain ⟨v7, a9, rfl, p7, q7⟩ := hq_
    refine ⟨_, rfl, ?_⟩
    simp?
    refine ⟨by decide, by decide, ?_⟩
    have big : (1000000 : Nat) < 2 ^ 101 := by decide +kernel
    have big2 : (10 : Int) ^ 30 + 1 < 2 ^ 101 := by decide +kernel
    have big3 : ((2 ^ 101 : Nat) : Int) = 2 ^ 101 := by decide +kernel
    have hxs : ∀ d ∈ [D.int v1, D.int (-1 - v2), D.int v3, D.int (-1 - v4), D.int 0, D.int v5, D.int (0 - v6), D.int (v7 - 500)], ∃ x : Int, d = .int x ∧ x.natAbs < 2 ^ 101 := by
      intro d hd
      simp only [List.mem_cons, List.not_mem_nil, or_false] at hd
      rcases hd with rfl | rfl | rfl | rfl | rfl | rfl | rfl | rfl <;> exact ⟨_, rfl, by omega⟩
    rw [byid]
    generalize [D.int v1, D.int (-1 - v2), D.int v3, D.int (-1 - v4), D.int 0, D.int v5, D.int (0 - v6), D.int (v7 - 500)] = ds at hxs ⊢
    refine for_all (fun e => ∃ s1 : Jk, e = [.sh (.scr ns), s1.s, .sh (.int c), .ow (pen a9 b), .sh (tI l), .sh (.lst ds)]) ⟨s1, rfl⟩ ?_ ?_
    · rintro d hd e ⟨s1, rfl⟩
      obtain ⟨x, rfl, hx⟩ := hxs d hd
      simp? [foT, id]
      refine callR_dat hR.fl (by simp) rfl rfl rfl (hR.run l x hl hx) fun q_ hq_ => ?_
      obtain rfl := hq_
      refine ⟨rfl, ?_⟩
      simp?
      exact ⟨.sh _, rfl⟩
    · rintro e ⟨s1, rfl⟩
      simp?
      exact ⟨s1, .sh _, .ow _, .sh _, .sh _, rfl⟩
  · rintro e ⟨s1, s2, s3, s4, s5, rfl⟩
    simp?
end
end VL
set_option maxHeartbeats 0
namespace VL
namespace LawX
open PySem PySem.Spec L2 PyProof.Rows
def d_0 : Def := fChoose
def d_1 : Def := fRuleAt 0
def d_2 : Def := dCell
def d_3 : Def := dPen
def d_4 : Def := dDraw
def d_5 : Def := dWhole
def d_6 : Def := fClosed
def d_7 : Def := fSteps 4
def d_8 : Def := fOrder 4 6 7
def d_9 : Def := fNext
def d_10 : Def := fOnto 9
def d_11 : Def := fLawChoose
def d_12 : Def := fRight69 11 5 1
def d_13 : Def := fLaw69 12 2 3 10 8 4
def Ps : List Def := [d_0, d_1, d_2, d_3, d_4, d_5, d_6, d_7, d_8, d_9, d_10, d_11, d_12, d_13]
def top (i : Nat) : Stmt := PySem.Challenge.pw_backsum_k69_values_of_rules.main.body.getD i (.Pass ⟨0, 0, 0, 0⟩)
def m_0 : MDef := ⟨"choose", ["x", "k"], ["x", "k", "top", "bottom", "at"], top 1⟩
def m_1 : MDef := ⟨"rule_at", ["rule", "x"], ["rule", "x", "at", "one"], top 2⟩
def m_2 : MDef := ⟨"_law_cell", ["_law_script", "_law_k"], ["_law_script", "_law_k"], top 4⟩
def m_3 : MDef := ⟨"_law_pen", ["_law_cell_here"], ["_law_cell_here", "_law_left"], top 5⟩
def m_4 : MDef := ⟨"_law_draw", ["_law_pen_here", "_law_many"], ["_law_pen_here", "_law_many", "_law_stir", "_law_left", "_law_found"], top 6⟩
def m_5 : MDef := ⟨"_law_whole", ["_law_thing"], ["_law_thing"], top 7⟩
def m_6 : MDef := ⟨"_law_closed", ["_law_many", "_law_steps_here"], ["_law_many", "_law_steps_here", "_law_rows", "_law_left", "_law_point", "_law_low", "_law_high", "_law_more", "_law_row", "_law_one"], top 8⟩
def m_7 : MDef := ⟨"_law_steps", ["_law_pen_here", "_law_many"], ["_law_pen_here", "_law_many", "_law_here", "_law_point", "_law_often", "_law_steps_here", "_law_high", "_law_low"], top 9⟩
def m_8 : MDef := ⟨"_law_order", ["_law_pen_here", "_law_most"], ["_law_pen_here", "_law_most", "_law_many"], top 10⟩
def m_9 : MDef := ⟨"_law_next", ["_law_order_here", "_law_some", "_law_least"], ["_law_order_here", "_law_some", "_law_least", "_law_rows", "_law_point", "_law_found", "_law_row", "_law_there", "_law_low", "_law_one"], top 11⟩
def m_10 : MDef := ⟨"_law_onto", ["_law_order_here", "_law_least"], ["_law_order_here", "_law_least", "_law_now", "_law_found", "_law_whole_here", "_law_level", "_law_later", "_law_some", "_law_more"], top 12⟩
def m_11 : MDef := ⟨"_law_choose", ["_law_x", "_law_k"], ["_law_x", "_law_k", "_law_found", "_law_at"], top 13⟩
def m_12 : MDef := ⟨"_law_right", ["_law_rule", "_law_x"], ["_law_rule", "_law_x", "_law_due", "_law_found", "_law_k", "_law_one"], top 14⟩
def m_13 : MDef := ⟨"law", ["_law_script"], ["_law_script", "_law_x", "_law_cell_here", "_law_pen_here", "_law_rule", "_law_some"], top 15⟩
def Ms : List MDef := [m_0, m_1, m_2, m_3, m_4, m_5, m_6, m_7, m_8, m_9, m_10, m_11, m_12, m_13]
def gFns : List (Str × Nat) := [("choose", 0), ("rule_at", 1), ("_law_cell", 2), ("_law_pen", 3), ("_law_draw", 4), ("_law_whole", 5), ("_law_closed", 6), ("_law_steps", 7), ("_law_order", 8), ("_law_next", 9), ("_law_onto", 10), ("_law_choose", 11), ("_law_right", 12), ("law", 13)]
def gGl : List (Str × D) := []
def gBl : List Str := ["range", "sum", "enumerate", "len", "max", "int", "divmod", "isinstance", "bool", "tuple", "sorted"]
def gXs : List Str := []
def gE : GEnv := ⟨gFns, gGl, gBl, gXs, [], [], []⟩
theorem ok_0 : okD gE d_0 m_0 = true := by kernel_rfl
theorem ok_1 : okD gE d_1 m_1 = true := by kernel_rfl
theorem ok_2 : okD gE d_2 m_2 = true := by kernel_rfl
theorem ok_3 : okD gE d_3 m_3 = true := by kernel_rfl
theorem ok_4 : okD gE d_4 m_4 = true := by kernel_rfl
theorem ok_5 : okD gE d_5 m_5 = true := by kernel_rfl
theorem ok_6 : okD gE d_6 m_6 = true := by kernel_rfl
theorem ok_7 : okD gE d_7 m_7 = true := by kernel_rfl
theorem ok_8 : okD gE d_8 m_8 = true := by kernel_rfl
theorem ok_9 : okD gE d_9 m_9 = true := by kernel_rfl
theorem ok_10 : okD gE d_10 m_10 = true := by kernel_rfl
theorem ok_11 : okD gE d_11 m_11 = true := by kernel_rfl
theorem ok_12 : okD gE d_12 m_12 = true := by kernel_rfl
theorem ok_13 : okD gE d_13 m_13 = true := by kernel_rfl
theorem okg : okG gE Ms = true := by kernel_rfl
theorem okall : okP gE Ms Ps Ms = true := by
  show (okD gE d_0 m_0 && (okD gE d_1 m_1 && (okD gE d_2 m_2 && (okD gE d_3 m_3 && (okD gE d_4 m_4 && (okD gE d_5 m_5 && (okD gE d_6 m_6 && (okD gE d_7 m_7 && (okD gE d_8 m_8 && (okD gE d_9 m_9 && (okD gE d_10 m_10 && (okD gE d_11 m_11 && (okD gE d_12 m_12 && (okD gE d_13 m_13 && okG gE Ms)))))))))))))) = true
  rw [ok_0, ok_1, ok_2, ok_3, ok_4, ok_5, ok_6, ok_7, ok_8, ok_9, ok_10, ok_11, ok_12, ok_13, okg]; rfl
theorem bd_0 : BindOk m_0 := fun _ _ _ _ _ _ us hl => match us, hl with | [_, _], _ => rfl
theorem bd_1 : BindOk m_1 := fun _ _ _ _ _ _ us hl => match us, hl with | [_, _], _ => rfl
theorem bd_2 : BindOk m_2 := fun _ _ _ _ _ _ us hl => match us, hl with | [_, _], _ => rfl
theorem bd_3 : BindOk m_3 := fun _ _ _ _ _ _ us hl => match us, hl with | [_], _ => rfl
theorem bd_4 : BindOk m_4 := fun _ _ _ _ _ _ us hl => match us, hl with | [_, _], _ => rfl
theorem bd_5 : BindOk m_5 := fun _ _ _ _ _ _ us hl => match us, hl with | [_], _ => rfl
theorem bd_6 : BindOk m_6 := fun _ _ _ _ _ _ us hl => match us, hl with | [_, _], _ => rfl
theorem bd_7 : BindOk m_7 := fun _ _ _ _ _ _ us hl => match us, hl with | [_, _], _ => rfl
theorem bd_8 : BindOk m_8 := fun _ _ _ _ _ _ us hl => match us, hl with | [_, _], _ => rfl
theorem bd_9 : BindOk m_9 := fun _ _ _ _ _ _ us hl => match us, hl with | [_, _, _], _ => rfl
theorem bd_10 : BindOk m_10 := fun _ _ _ _ _ _ us hl => match us, hl with | [_, _], _ => rfl
theorem bd_11 : BindOk m_11 := fun _ _ _ _ _ _ us hl => match us, hl with | [_, _], _ => rfl
theorem bd_12 : BindOk m_12 := fun _ _ _ _ _ _ us hl => match us, hl with | [_, _], _ => rfl
theorem bd_13 : BindOk m_13 := fun _ _ _ _ _ _ us hl => match us, hl with | [_], _ => rfl
theorem bdall : ∀ m ∈ Ms, BindOk m := by
  intro m hm
  rcases List.mem_cons.mp hm with rfl | hm
  · exact bd_0
  rcases List.mem_cons.mp hm with rfl | hm
  · exact bd_1
  rcases List.mem_cons.mp hm with rfl | hm
  · exact bd_2
  rcases List.mem_cons.mp hm with rfl | hm
  · exact bd_3
  rcases List.mem_cons.mp hm with rfl | hm
  · exact bd_4
  rcases List.mem_cons.mp hm with rfl | hm
  · exact bd_5
  rcases List.mem_cons.mp hm with rfl | hm
  · exact bd_6
  rcases List.mem_cons.mp hm with rfl | hm
  · exact bd_7
  rcases List.mem_cons.mp hm with rfl | hm
  · exact bd_8
  rcases List.mem_cons.mp hm with rfl | hm
  · exact bd_9
  rcases List.mem_cons.mp hm with rfl | hm
  · exact bd_10
  rcases List.mem_cons.mp hm with rfl | hm
  · exact bd_11
  rcases List.mem_cons.mp hm with rfl | hm
  · exact bd_12
  rw [List.mem_singleton.mp hm]
  exact bd_13
theorem s_law_choose (lv : Nat) : ChooseS (TT Ps (lv + 1)) 11 := ⟨rfl, fun x k h1 h2 => tt_sat (d := d_11) rfl (lawChoose_sat h1 h2)⟩
theorem s_law_whole (lv : Nat) : WholeS (TT Ps (lv + 1)) 5 := ⟨rfl, fun d h => tt_sat (d := d_5) rfl (whole_sat h)⟩
theorem s_choose (lv : Nat) : ChooseS (TT Ps (lv + 1)) 0 := ⟨rfl, fun x k h1 h2 => tt_sat (d := d_0) rfl (choose_sat h1 h2)⟩
theorem s_rule_at (lv : Nat) : RuleAtS (TT Ps (lv + 2)) 1 := ⟨rfl, fun l x h1 h2 => tt_sat (d := d_1) rfl (ruleAt_sat (s_choose lv) h1 h2)⟩
theorem s_law_right (lv : Nat) : Right69S (TT Ps (lv + 3)) 12 := ⟨rfl, fun l x h1 h2 => tt_sat (d := d_12) rfl (right69_sat (s_law_choose (lv + 1)) (s_law_whole (lv + 1)) (s_rule_at lv) h1 h2)⟩
theorem s_law_cell (lv : Nat) : CellS (TT Ps (lv + 1)) 2 := ⟨rfl, fun ns k h => tt_sat (d := d_2) rfl (cell_sat h)⟩
theorem s_law_pen (lv : Nat) : PenS (TT Ps (lv + 1)) 3 := ⟨rfl, fun c => tt_sat (d := d_3) rfl (pen_sat)⟩
theorem s_law_next (lv : Nat) : NextS (TT Ps (lv + 1)) 9 := ⟨rfl, fun o s w h1 h2 h3 => tt_sat (d := d_9) rfl (next_sat h1 h2 h3)⟩
theorem s_law_onto (lv : Nat) : OntoS (TT Ps (lv + 2)) 10 := ⟨rfl, fun o w h1 h2 => tt_sat (d := d_10) rfl (onto_sat (s_law_next lv) h1 h2)⟩
theorem s_law_draw (lv : Nat) : DrawS (TT Ps (lv + 1)) 4 := ⟨rfl, fun a b many h1 h2 => tt_sat (d := d_4) rfl (draw_sat h1 h2)⟩
theorem s_law_closed (lv : Nat) : ClosedS (TT Ps (lv + 1)) 6 := ⟨rfl, fun n st ρ h1 h2 => tt_sat (d := d_6) rfl (closed_sat h1 h2)⟩
theorem s_law_steps (lv : Nat) : StepsS (TT Ps (lv + 2)) 7 := ⟨rfl, fun a b n h => tt_sat (d := d_7) rfl (steps_sat (s_law_draw lv) h)⟩
theorem s_law_order (lv : Nat) : OrderMS (TT Ps (lv + 3)) 8 := ⟨rfl, fun a b most h1 h2 => tt_sat (d := d_8) rfl (order_sat (s_law_draw (lv + 1)) (s_law_closed (lv + 1)) (s_law_steps lv) h1 h2)⟩
theorem s_law_draw_G (lv : Nat) : DrawG (TT Ps (lv + 1)) 4 := ⟨rfl, fun a b many h1 h2 => tt_sat (d := d_4) rfl (drawG_sat h1 h2)⟩
theorem law_runs (ns : List Int) (h : ns.length ≤ 63) : ∃ ios, callN Ps 4 13 [.scr ns] = .ok ⟨false, .bl true, ios⟩ := by
  obtain ⟨q, hq, e⟩ := tt_sat (P := Ps) (n := 3) (i := 13) (d := d_13) rfl (law69_sat (s_law_right 0) (s_law_cell 2) (s_law_pen 2) (s_law_onto 1) (s_law_order 0) (s_law_draw_G 2) h)
  subst e
  exact ⟨[], hq⟩
abbrev RX : PySem.W.OpenRow := PySem.W.OpenLaw.row PySem.Challenge.rw_backsum_k69_values_of_rules
abbrev hkX : PySem.W.Hook := hookV 4 (faOf gE Ms) (Ms.map toD) (xfsB gE.xs gE.rs)
def obX (s : PySem.W.SharedT) : He.AlD × Bool := obsV 4 (faOf gE Ms) (Ms.map toD) (xfsB gE.xs gE.rs) (HandSHeadRun.getT s)
theorem obX_eq (s : PySem.W.SharedT) : obX s = hkX.obs s.abs := obsV_eq (HandSHeadRun.getT_eq s)
def looseX : List Str := ["choose", "rule_at", "_law_cell", "_law_pen", "_law_draw", "_law_whole", "_law_closed", "_law_steps", "_law_order", "_law_next", "_law_onto", "_law_choose", "_law_right"]
theorem runX (w : World) : HandSHeadRun.RunEq RX (PySem.W.view RX.prog [15]) hkX obX 6000 looseX w := by
  intro os
  kernel_rfl
theorem factsX {P : Program} {w : World} {K : PySem.W.Frag} {h : Heap} {mg : Str → Option Value} {f : Addr} (X : K.In h) (G : h.Ns mainGlobals mg) (hfa : mg ("law" : Str) = some (.ref f)) (c : He.SaysD (faOf gE Ms) (Ms.map toD) K) (cx : xfsB gE.xs gE.rs K = true) :
    ∃ fd : FuncData, (∀ (s : Shared) (v : Value), BindsTo s fd ⟨[v], []⟩ [("_law_script", v)]) ∧ ∀ base : Heap, K.In base → base.Ns mainGlobals mg → FnG P w K mg base C8.CX0 4 f fd ["_law_script"] (spDry (spF K mg gE.xs d_13.fl (callN Ps 4 13))) := by
  obtain ⟨fd, F, hm⟩ := head_defs X G c 13 m_13 rfl
  have e : some (Value.ref f) = some (.ref (He.ga K m_13.nm)) := hfa.symm.trans hm
  cases e
  have b := FunD.bindsA (ps := ["_law_script"]) F bd_13
  exact ⟨fd, fun s v => b s [v] rfl, fun base _ _ => fn_dry ((prog_ok okall (fun i m h => let ⟨fd, F, q⟩ := head_defs X G c i m h; ⟨_, fd, F, q⟩) bdall (head_bl X G c) (head_gl X G c) (head_xf X G cx) 4 13 d_13 m_13 _ fd rfl rfl F).ok (by decide +kernel))⟩
end LawX
end VL
open PySem PySem.W PySem.Calls PyProof.Rows
theorem PySem.Challenge.cw_backsum_k69_values_of_rules_holds : PySem.Challenge.rw_backsum_k69_values_of_rules.Holds := by
  w_on; o_law
  refine HandSHeadRun.head_any (r := VL.LawX.RX) (q := view VL.LawX.RX.prog [15]) (H := VL.LawX.hkX) (ob := VL.LawX.obX) (M := 6000) (loose := VL.LawX.looseX) (d := HandSHeadRun.topDef VL.LawX.RX.prog 15) (kwd := []) VL.LawX.obX_eq
    (by kernel_rfl) (fun s => by kernel_rfl) VL.LawX.runX (by kernel_rfl) (by kernel_rfl) (by kernel_rfl) (by rfl) (by first | assumption | decide +kernel) (by decide +kernel) ⟨rfl, rfl, rfl, rfl, rfl, by decide +kernel⟩ ?wit ?walk
  case wit => w_witness2
  case walk =>
    refine VL.walk_ofG (l := PySem.Challenge.rw_backsum_k69_values_of_rules) (n := 63) (k := 4) (x := "_law_script") (CX := C8.CX0) rfl (by decide) (by kernel_rfl) ⟨rfl, by decide, by decide⟩ ?all (fun _ _ _ _ z => z)
    intro w mg fa h Y G hmg0
    obtain ⟨K, KX, c, cx⟩ := Y
    have hlaw : mg ("law" : PySem.Str) = some (.ref fa) := by
      have e : (HandSHeadRun.topDef VL.LawX.RX.prog 15).name = ("law" : PySem.Str) := by kernel_rfl
      exact e ▸ hmg0
    obtain ⟨fd, hb, hF⟩ := VL.LawX.factsX (P := PySem.Challenge.rw_backsum_k69_values_of_rules.prog) (w := w) KX G hlaw c cx
    exact ⟨K, fd, VL.spDry (VL.spF K mg VL.LawX.gE.xs VL.LawX.d_13.fl (VL.callN VL.LawX.Ps 4 13)), KX, hb, fun H a ns hl hO hS => VL.law_sp (d := VL.LawX.d_13) rfl hO hS (VL.LawX.law_runs ns hl), hF⟩
