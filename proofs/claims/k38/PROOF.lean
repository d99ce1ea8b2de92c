import PyProof.Rows.All
import Wide.All
import OpenK.AllK
import Wide.FinOn
import HandS.ForMost
import HandS.ForExc
import HandS.Wide
import HandS.WideMore
import HandS.IsInst
import HandS.TupAny
import HandS.Deep
import HandS.SortInts
import HandS.Style
import KE.KTupSum
import HandS.Defaults
import HandS.MakeKwOnly
import HandS.CallSlots
import HandS.HeadEnd
import HandS.EndBits
import HandS.HotCalls
import HandS.ExcIs
import HandS.ExcField
import KE.KExcSuper
import HandS.ExcInit
import KE.KExcIs
import HandS.HeadHook1
import HandS.HeadHook2
import HandS.Head0
import HandS.Head1
import HandS.Head2
import KE.DataFind
import PySem.Challenge.RW_hedgejoin_k38_worlds_by_fields
set_option Elab.async false
set_option linter.all false
set_option maxRecDepth 100000

namespace Dl
open PySem PySem.Spec PyProof.Rows L2

inductive D where
  | non | bl (b : Bool) | int (i : Int) | str (s : Str)
  | tup (xs : List D) | lst (xs : List D) | scr (ns : List Int)
  | dic (ks : List Key) (vs : List D) | dit (ks : List (List Key)) (vs : List D)
  | obj (c : Nat) (vs : List D) | exc (c : Nat) (vs : List D) | ptr (k : Nat)
abbrev O := D
inductive Cell where
  | lst (xs : List D) | dic (ks : List Key) (vs : List D) | dit (ks : List (List Key)) (vs : List D) | ins (c : Nat) (vs : List D) | dead
abbrev Mem := List Cell
structure CT where
  ca : Nat → Addr
  fl : Nat → List Str

structure Le (F : Hp) (ad : List Addr) (F' : Hp) (ad' : List Addr) : Prop where
  same : Same F F'
  pre : ad <+: ad'
theorem Le.refl (F : Hp) (ad : List Addr) : Le F ad F ad := ⟨Same.refl _, List.prefix_refl _⟩
theorem Le.trans {F1 F2 F3 : Hp} {a1 a2 a3 : List Addr} (x : Le F1 a1 F2 a2) (y : Le F2 a2 F3 a3) : Le F1 a1 F3 a3 := ⟨x.same.trans y.same, x.pre.trans y.pre⟩
theorem prefix_get {α : Type} {l l' : List α} (h : l <+: l') {i : Nat} {a : α} (e : l[i]? = some a) : l'[i]? = some a := by
  obtain ⟨t, rfl⟩ := h
  rw [List.getElem?_append_left (List.getElem?_eq_some_iff.mp e).1]
  exact e
section
variable (K : PySem.W.Frag) (ct : CT) (F : Hp) (ad : List Addr)
def XDict (F : Hp) (fl : List Str) (vs : List V) (d : Option Addr) : Prop :=
  (vs = [] ∧ d = none) ∨ ∃ dd, d = some dd ∧ F dd = some (.xd (fl.zip vs)) ∧ vs.length = fl.length
def exObj (cls : Value) (d : Option Addr) (a : Addr) : HO := .ext fun h => ∃ (oe : Obj) (vs : Array Value), h.get? a = some oe ∧ Zc cls d oe ∧ oe.data = .fields vs
mutual
def Rep : D → V → Prop
  | .non, v => v = .non
  | .bl b, v => v = .bl b
  | .int i, v => v = .int i
  | .str s, v => v = .str s
  | .tup xs, v => ∃ a vs, v = .ref a ∧ SqT K F a vs ∧ RepL xs vs
  | .lst xs, v => ∃ a vs, v = .ref a ∧ F a = some (.lst vs) ∧ RepL xs vs
  | .scr ns, v => ∃ a, v = .ref a ∧ SqL K F a (ns.map V.int)
  | .dic ks xs, v => ∃ a vs, v = .ref a ∧ F a = some (.dK (ks.zip vs)) ∧ ks.length = vs.length ∧ RepL xs vs
  | .dit ks xs, v => ∃ a vs, v = .ref a ∧ F a = some (.dT (ks.zip vs)) ∧ ks.length = vs.length ∧ RepL xs vs
  | .obj c xs, v => ∃ a dx vs, v = .ref a ∧ F a = some (.ins (ct.ca c) dx ((ct.fl c).zip vs)) ∧ vs.length ≤ (ct.fl c).length ∧ RepL xs vs
  | .exc c xs, v => ∃ a d vs, v = .ref a ∧ F a = some (exObj (.ref (ct.ca c)) d a) ∧ XDict F (ct.fl c) vs d ∧ RepL xs vs
  | .ptr k, v => ∃ a, ad[k]? = some a ∧ v = .ref a
def RepL : List D → List V → Prop
  | [], vs => vs = []
  | d :: ds, vs => ∃ v r, vs = v :: r ∧ Rep d v ∧ RepL ds r
end
def RepX : D → Value → Option Addr → Prop
  | .exc c xs, cls, d => cls = .ref (ct.ca c) ∧ ∃ vs, XDict F (ct.fl c) vs d ∧ RepL K ct F ad xs vs
  | _, _, _ => False
end
section
variable {K : PySem.W.Frag} {ct : CT} {F F' : Hp} {ad ad' : List Addr}
theorem same_seqT {H H' : Hp} {a : Addr} {xs : List V} (e : Same H H') (h : SqT K H a xs) : SqT K H' a xs := by
  rcases h with (h | ⟨o, h⟩) | h
  · exact .inl (.inl (e _ _ h))
  · exact .inl (.inr ⟨o, e _ _ h⟩)
  · exact .inr h
theorem XDict.mono (e : Same F F') {fl : List Str} {vs : List V} {d : Option Addr} (h : XDict F fl vs d) : XDict F' fl vs d := by
  rcases h with h | ⟨dd, h1, h2, h3⟩
  · exact .inl h
  · exact .inr ⟨dd, h1, e _ _ h2, h3⟩
mutual
theorem Rep.mono (l : Le F ad F' ad') : ∀ {d : D} {v : V}, Rep K ct F ad d v → Rep K ct F' ad' d v
  | .non, _, h => by unfold Rep at h ⊢; exact h
  | .bl _, _, h => by unfold Rep at h ⊢; exact h
  | .int _, _, h => by unfold Rep at h ⊢; exact h
  | .str _, _, h => by unfold Rep at h ⊢; exact h
  | .tup xs, _, h => by
    unfold Rep at h ⊢
    obtain ⟨a, vs, h1, h2, h3⟩ := h
    exact ⟨a, vs, h1, same_seqT l.same h2, RepL.mono l h3⟩
  | .lst xs, _, h => by
    unfold Rep at h ⊢
    obtain ⟨a, vs, h1, h2, h3⟩ := h
    exact ⟨a, vs, h1, l.same _ _ h2, RepL.mono l h3⟩
  | .scr ns, _, h => by
    unfold Rep at h ⊢
    obtain ⟨a, h1, h2⟩ := h
    exact ⟨a, h1, l.same.seq h2⟩
  | .dic ks xs, _, h => by
    unfold Rep at h ⊢
    obtain ⟨a, vs, h1, h2, h3, h4⟩ := h
    exact ⟨a, vs, h1, l.same _ _ h2, h3, RepL.mono l h4⟩
  | .dit ks xs, _, h => by
    unfold Rep at h ⊢
    obtain ⟨a, vs, h1, h2, h3, h4⟩ := h
    exact ⟨a, vs, h1, l.same _ _ h2, h3, RepL.mono l h4⟩
  | .obj c xs, _, h => by
    unfold Rep at h ⊢
    obtain ⟨a, dx, vs, h1, h2, h3, h4⟩ := h
    exact ⟨a, dx, vs, h1, l.same _ _ h2, h3, RepL.mono l h4⟩
  | .exc c xs, _, h => by
    unfold Rep at h ⊢
    obtain ⟨a, d, vs, h1, h2, h3, h4⟩ := h
    exact ⟨a, d, vs, h1, l.same _ _ h2, h3.mono l.same, RepL.mono l h4⟩
  | .ptr k, _, h => by
    unfold Rep at h ⊢
    obtain ⟨a, h1, h2⟩ := h
    exact ⟨a, prefix_get l.pre h1, h2⟩
theorem RepL.mono (l : Le F ad F' ad') : ∀ {ds : List D} {vs : List V}, RepL K ct F ad ds vs → RepL K ct F' ad' ds vs
  | [], _, h => by unfold RepL at h ⊢; exact h
  | d :: ds, _, h => by
    unfold RepL at h ⊢
    obtain ⟨v, r, h1, h2, h3⟩ := h
    exact ⟨v, r, h1, Rep.mono l h2, RepL.mono l h3⟩
end
theorem RepX.mono (l : Le F ad F' ad') {x : D} {cls : Value} {d : Option Addr} (h : RepX K ct F ad x cls d) : RepX K ct F' ad' x cls d := by
  unfold RepX at h ⊢
  split at h
  · obtain ⟨h1, vs, h2, h3⟩ := h
    exact ⟨h1, vs, h2.mono l.same, h3.mono l⟩
  · exact h.elim
theorem RepL.nil : RepL K ct F ad [] [] := by unfold RepL; rfl
theorem RepL.cons {d : D} {v : V} {ds : List D} {vs : List V} (h : Rep K ct F ad d v) (t : RepL K ct F ad ds vs) : RepL K ct F ad (d :: ds) (v :: vs) := by
  unfold RepL
  exact ⟨v, vs, rfl, h, t⟩
theorem RepL.cases_cons {d : D} {ds : List D} {vs : List V} (h : RepL K ct F ad (d :: ds) vs) : ∃ v r, vs = v :: r ∧ Rep K ct F ad d v ∧ RepL K ct F ad ds r := by
  unfold RepL at h
  exact h
theorem RepL.length : ∀ {ds : List D} {vs : List V}, RepL K ct F ad ds vs → vs.length = ds.length
  | [], _, h => by unfold RepL at h; rw [h]; rfl
  | d :: ds, _, h => by
    obtain ⟨v, r, rfl, _, t⟩ := h.cases_cons
    rw [List.length_cons, List.length_cons, RepL.length t]
theorem RepL.get : ∀ {ds : List D} {vs : List V} {i : Nat} {d : D}, RepL K ct F ad ds vs → ds[i]? = some d → ∃ v, vs[i]? = some v ∧ Rep K ct F ad d v
  | [], _, i, _, h, e => by simp at e
  | d :: ds, _, 0, _, h, e => by
    obtain ⟨v, r, rfl, hv, t⟩ := h.cases_cons
    simp at e; subst e
    exact ⟨v, rfl, hv⟩
  | d :: ds, _, i + 1, _, h, e => by
    obtain ⟨v, r, rfl, hv, t⟩ := h.cases_cons
    obtain ⟨u, h1, h2⟩ := RepL.get t (i := i) (by simpa using e)
    exact ⟨u, by simpa using h1, h2⟩
theorem RepL.getV : ∀ {ds : List D} {vs : List V} {i : Nat} {v : V}, RepL K ct F ad ds vs → vs[i]? = some v → ∃ d, ds[i]? = some d ∧ Rep K ct F ad d v := fun {ds vs i v} h e => by
  have hl := h.length
  have hi : i < ds.length := by
    have := (List.getElem?_eq_some_iff.mp e).1
    omega
  obtain ⟨u, h1, h2⟩ := h.get (i := i) (d := ds[i]) (by simp [hi])
  rw [e] at h1
  cases h1
  exact ⟨_, by simp [hi], h2⟩
theorem RepL.append : ∀ {ds es : List D} {vs us : List V}, RepL K ct F ad ds vs → RepL K ct F ad es us → RepL K ct F ad (ds ++ es) (vs ++ us)
  | [], _, _, _, h, t => by unfold RepL at h; rw [h]; exact t
  | d :: ds, _, _, _, h, t => by
    obtain ⟨v, r, rfl, hv, q⟩ := h.cases_cons
    exact .cons hv (q.append t)
theorem RepL.take : ∀ {ds : List D} {vs : List V} (n : Nat), RepL K ct F ad ds vs → RepL K ct F ad (ds.take n) (vs.take n)
  | [], _, _, h => by unfold RepL at h; rw [h]; simp; exact .nil
  | d :: ds, _, 0, h => by simp; exact .nil
  | d :: ds, _, n + 1, h => by
    obtain ⟨v, r, rfl, hv, q⟩ := h.cases_cons
    exact .cons hv (q.take n)
theorem RepL.drop : ∀ {ds : List D} {vs : List V} (n : Nat), RepL K ct F ad ds vs → RepL K ct F ad (ds.drop n) (vs.drop n)
  | [], _, _, h => by unfold RepL at h; rw [h]; simp; exact .nil
  | d :: ds, _, 0, h => h
  | d :: ds, _, n + 1, h => by
    obtain ⟨v, r, rfl, hv, q⟩ := h.cases_cons
    exact q.drop n
theorem RepL.set : ∀ {ds : List D} {vs : List V} (n : Nat) {d : D} {v : V}, Rep K ct F ad d v → RepL K ct F ad ds vs → RepL K ct F ad (ds.set n d) (vs.set n v)
  | [], _, _, _, _, _, h => by unfold RepL at h; rw [h]; exact .nil
  | e :: ds, _, 0, _, _, hv, h => by
    obtain ⟨u, r, rfl, _, q⟩ := h.cases_cons
    exact .cons hv q
  | e :: ds, _, n + 1, _, _, hv, h => by
    obtain ⟨u, r, rfl, hu, q⟩ := h.cases_cons
    exact .cons hu (q.set n hv)
theorem RepL.eraseIdx : ∀ {ds : List D} {vs : List V} (n : Nat), RepL K ct F ad ds vs → RepL K ct F ad (ds.eraseIdx n) (vs.eraseIdx n)
  | [], _, _, h => by unfold RepL at h; rw [h]; exact .nil
  | e :: ds, _, 0, h => by
    obtain ⟨u, r, rfl, _, q⟩ := h.cases_cons
    exact q
  | e :: ds, _, n + 1, h => by
    obtain ⟨u, r, rfl, hu, q⟩ := h.cases_cons
    exact .cons hu (q.eraseIdx n)
theorem RepL.reverse : ∀ {ds : List D} {vs : List V}, RepL K ct F ad ds vs → RepL K ct F ad ds.reverse vs.reverse
  | [], _, h => by unfold RepL at h; rw [h]; exact .nil
  | e :: ds, _, h => by
    obtain ⟨u, r, rfl, hu, q⟩ := h.cases_cons
    rw [List.reverse_cons, List.reverse_cons]
    exact q.reverse.append (.cons hu .nil)
theorem RepL.map_int : ∀ (ns : List Int), RepL K ct F ad (ns.map D.int) (ns.map V.int)
  | [] => .nil
  | n :: ns => .cons (by unfold Rep; rfl) (RepL.map_int ns)


def CellR (K : PySem.W.Frag) (ct : CT) (F H : Hp) (ad : List Addr) (a : Addr) : Cell → Prop
  | .lst xs => F a = none ∧ ∃ vs, H a = some (.lst vs) ∧ RepL K ct F ad xs vs
  | .dic ks xs => F a = none ∧ ∃ vs, H a = some (.dK (ks.zip vs)) ∧ ks.length = vs.length ∧ RepL K ct F ad xs vs
  | .dit ks xs => F a = none ∧ ∃ vs, H a = some (.dT (ks.zip vs)) ∧ ks.length = vs.length ∧ RepL K ct F ad xs vs
  | .ins c xs => F a = none ∧ ∃ dx vs, H a = some (.ins (ct.ca c) dx ((ct.fl c).zip vs)) ∧ vs.length ≤ (ct.fl c).length ∧ RepL K ct F ad xs vs
  | .dead => True
structure Sx (K : PySem.W.Frag) (ct : CT) (G F H : Hp) (ad : List Addr) (M : Mem) : Prop where
  sub : Same F H
  len : ad.length = M.length
  nd : ad.Nodup
  cel : ∀ (k : Nat) c a, M[k]? = some c → ad[k]? = some a → CellR K ct F H ad a c
  frm : ∀ a o, G a = some o → H a = some o ∧ F a = none ∧ a ∉ ad
  trk : ∀ a ∈ ad, ∃ o, H a = some o
abbrev RepO (K : PySem.W.Frag) (ct : CT) (F : Hp) (ad : List Addr) : O → V → Prop := Rep K ct F ad
structure En (K : PySem.W.Frag) (ct : CT) (F : Hp) (ad : List Addr) (σ : L2.St) (env : List (Option O)) : Prop where
  len : env.length = σ.length
  get : ∀ (i : Nat) o, env[i]? = some (some o) → ∃ v, σ[i]? = some (some v) ∧ RepO K ct F ad o v
theorem RepO.mono {ad ad' : List Addr} (l : Le F ad F' ad') {o : O} {v : V} (h : RepO K ct F ad o v) : RepO K ct F' ad' o v := Rep.mono l h
theorem En.mono {ad ad' : List Addr} (l : Le F ad F' ad') {σ : L2.St} {env : List (Option O)} (h : En K ct F ad σ env) : En K ct F' ad' σ env := ⟨h.len, fun i o e => by
  obtain ⟨v, h1, h2⟩ := h.get i o e
  exact ⟨v, h1, h2.mono l⟩⟩
abbrev RepOs (K : PySem.W.Frag) (ct : CT) (F : Hp) (ad : List Addr) : List O → List V → Prop := RepL K ct F ad
theorem RepOs.mono {ad ad' : List Addr} (l : Le F ad F' ad') {os : List O} {vs : List V} (h : RepOs K ct F ad os vs) : RepOs K ct F' ad' os vs := RepL.mono l h


structure S where
  env : List (Option O)
  mem : Mem
inductive R (α : Type) where
  | ok (a : α) (s : S) | exc (x : D) (s : S) | bad
abbrev M (α : Type) := S → R α
def ret {α : Type} (a : α) : M α := fun s => .ok a s
def bad {α : Type} : M α := fun _ => .bad
def bnd {α β : Type} (m : M α) (k : α → M β) : M β := fun s => match m s with
  | .ok a s' => k a s'
  | .exc x s' => .exc x s'
  | .bad => .bad
abbrev Pr := Option (O × Mem)
def pr (p : Mem → Pr) : M O := fun s => match p s.mem with
  | some (o, m) => .ok o { s with mem := m }
  | none => .bad


abbrev Rl (α β : Type) := Hp → List Addr → α → β → Prop
class Mono {α β : Type} (ρ : Rl α β) : Prop where
  mono : ∀ {F F' : Hp} {ad ad' : List Addr} {a : α} {b : β}, Le F ad F' ad' → ρ F ad a b → ρ F' ad' a b
instance : Mono (RepO K ct) := ⟨fun l h => h.mono l⟩
instance : Mono (RepOs K ct) := ⟨fun l h => h.mono l⟩
def rEq {α : Type} : Rl α α := fun _ _ a b => a = b
instance {α : Type} : Mono (rEq (α := α)) := ⟨fun _ h => h⟩
def Post {α β : Type} (K : PySem.W.Frag) (ct : CT) (ρ : Rl α β) (W : WX) (G : Hp) (σ : L2.St) (F : Hp) (ad : List Addr) (r : R α) (Q : β → Hp → Prop) : Prop :=
  match r with
  | .ok a s => ∀ b F' H' ad', Le F ad F' ad' → Sx K ct G F' H' ad' s.mem → En K ct F' ad' σ s.env → ρ F' ad' a b → Q b H'
  | .exc x s => ∀ cls d F' H' ad', Le F ad F' ad' → Sx K ct G F' H' ad' s.mem → En K ct F' ad' σ s.env → RepX K ct F' ad' x cls d → W cls d σ H'
  | .bad => False
def tG {α β : Type} (K : PySem.W.Frag) (ct : CT) (ρ : Rl α β) (W : WX) (m : M α) : L2.St → Hp → (β → Hp → Prop) → Prop := fun σ H Q =>
  ∃ G F ad s, Sx K ct G F H ad s.mem ∧ En K ct F ad σ s.env ∧ Post K ct ρ W G σ F ad (m s) Q
abbrev tE (K : PySem.W.Frag) (ct : CT) (W : WX) (m : M O) : TE := tG K ct (RepO K ct) W m
abbrev tA (K : PySem.W.Frag) (ct : CT) (W : WX) (m : M (List O)) : TA := tG K ct (RepOs K ct) W m
abbrev tT (K : PySem.W.Frag) (ct : CT) (W : WX) (m : M Bool) : TT := tG K ct rEq W m
section
variable {α β α' β' : Type} {ρ : Rl α β} {ρ' : Rl α' β'} {W : WX} {G H : Hp} {σ : L2.St} {ad ad' : List Addr} {s : S} {m : M α} {k : α → M α'}
theorem Post.mono {r : R α} {Q : β → Hp → Prop} (l : Le F ad F' ad') (h : Post K ct ρ W G σ F ad r Q) : Post K ct ρ W G σ F' ad' r Q := by
  cases r with
  | ok a s => exact fun b F2 H2 ad2 l2 => h b F2 H2 ad2 (l.trans l2)
  | exc x s => exact fun c d F2 H2 ad2 l2 => h c d F2 H2 ad2 (l.trans l2)
  | bad => exact h
theorem Post.imp {r : R α} {Q Q' : β → Hp → Prop} (q : ∀ b H, Q b H → Q' b H) (h : Post K ct ρ W G σ F ad r Q) : Post K ct ρ W G σ F ad r Q' := by
  cases r with
  | ok a s => exact fun b F2 H2 ad2 l2 x y z => q _ _ (h b F2 H2 ad2 l2 x y z)
  | exc x s => exact h
  | bad => exact h
theorem tG.imp {Q Q' : β → Hp → Prop} (h : tG K ct ρ W m σ H Q) (q : ∀ b H, Q b H → Q' b H) : tG K ct ρ W m σ H Q' := by
  obtain ⟨G, F, ad, s, h1, h2, h3⟩ := h
  exact ⟨G, F, ad, s, h1, h2, h3.imp q⟩
theorem post_bnd {Q : β' → Hp → Prop} (hs : Sx K ct G F H ad s.mem) (he : En K ct F ad σ s.env) (h : Post K ct ρ' W G σ F ad (bnd m k s) Q) :
    tG K ct ρ W m σ H fun b H' => ∃ F' ad' s' a, Le F ad F' ad' ∧ Sx K ct G F' H' ad' s'.mem ∧ En K ct F' ad' σ s'.env ∧ ρ F' ad' a b ∧ Post K ct ρ' W G σ F' ad' (k a s') Q := by
  refine ⟨G, F, ad, s, hs, he, ?_⟩
  unfold bnd at h
  cases e : m s with
  | ok a s' =>
    rw [e] at h
    exact fun b F' H' ad' l x y z => ⟨F', ad', s', a, l, x, y, z, h.mono l⟩
  | exc x s' =>
    rw [e] at h
    exact h
  | bad =>
    rw [e] at h
    exact h
theorem Post.ret {a : α} {b : β} {Q : β → Hp → Prop} (hs : Sx K ct G F H ad s.mem) (he : En K ct F ad σ s.env) (hr : ρ F ad a b) (h : Post K ct ρ W G σ F ad (.ok a s) Q) : Q b H := h b F H ad (Le.refl _ _) hs he hr
end
def PostP (K : PySem.W.Frag) (ct : CT) (G F : Hp) (ad : List Addr) (r : Pr) (Q : VK) : Prop :=
  match r with
  | some (o, M) => ∀ v F' H' ad', Le F ad F' ad' → Sx K ct G F' H' ad' M → RepO K ct F' ad' o v → Q v H'
  | none => False
theorem post_pr {W : WX} {G : Hp} {σ : L2.St} {ad : List Addr} {s : S} {p : Mem → Pr} {Q : VK} (he : En K ct F ad σ s.env) (h : Post K ct (RepO K ct) W G σ F ad (pr p s) Q) : PostP K ct G F ad (p s.mem) Q := by
  unfold pr at h
  cases e : p s.mem with
  | none => rw [e] at h; exact h
  | some q =>
    obtain ⟨o, m⟩ := q
    rw [e] at h
    exact fun v F' H' ad' l x z => h v F' H' ad' l x (he.mono l) z
end
section
variable {K : PySem.W.Frag} {ct : CT} {F : Hp} {ad : List Addr}
theorem Rep.non_ {x : V} (h : Rep K ct F ad .non x) : x = .non := by unfold Rep at h; exact h
theorem Rep.bl_ {k : Bool} {x : V} (h : Rep K ct F ad (.bl k) x) : x = .bl k := by unfold Rep at h; exact h
theorem Rep.int_ {i : Int} {x : V} (h : Rep K ct F ad (.int i) x) : x = .int i := by unfold Rep at h; exact h
theorem Rep.str_ {z : Str} {x : V} (h : Rep K ct F ad (.str z) x) : x = .str z := by unfold Rep at h; exact h
theorem Rep.tup_ {ds : List D} {x : V} (h : Rep K ct F ad (.tup ds) x) : ∃ a vs, x = .ref a ∧ SqT K F a vs ∧ RepL K ct F ad ds vs := by unfold Rep at h; exact h
theorem Rep.lst_ {ds : List D} {x : V} (h : Rep K ct F ad (.lst ds) x) : ∃ a vs, x = .ref a ∧ F a = some (.lst vs) ∧ RepL K ct F ad ds vs := by unfold Rep at h; exact h
theorem Rep.scr_ {ns : List Int} {x : V} (h : Rep K ct F ad (.scr ns) x) : ∃ a, x = .ref a ∧ SqL K F a (ns.map V.int) := by unfold Rep at h; exact h
theorem Rep.ptr_ {k : Nat} {x : V} (h : Rep K ct F ad (.ptr k) x) : ∃ a, ad[k]? = some a ∧ x = .ref a := by unfold Rep at h; exact h
theorem Rep.ptr {k : Nat} {a : Addr} (h : ad[k]? = some a) : Rep K ct F ad (.ptr k) (.ref a) := by unfold Rep; exact ⟨a, h, rfl⟩
theorem Rep.non : Rep K ct F ad .non .non := by unfold Rep; rfl
theorem Rep.bl {k : Bool} : Rep K ct F ad (.bl k) (.bl k) := by unfold Rep; rfl
theorem Rep.int {i : Int} : Rep K ct F ad (.int i) (.int i) := by unfold Rep; rfl
theorem Rep.str {z : Str} : Rep K ct F ad (.str z) (.str z) := by unfold Rep; rfl
theorem Rep.tup {ds : List D} {a : Addr} {vs : List V} (h : SqT K F a vs) (r : RepL K ct F ad ds vs) : Rep K ct F ad (.tup ds) (.ref a) := by unfold Rep; exact ⟨a, vs, rfl, h, r⟩
end
end Dl

set_option maxRecDepth 100000
set_option maxHeartbeats 1000000
namespace Dl
open PySem PySem.Spec PyProof.Rows L2


section
variable {X : Cx}
theorem PE.imp {e : Expr} {t t' : TE} (h : PE X e t) (q : ∀ σ H Q, t' σ H Q → t σ H Q) : PE X e t' := ⟨fun pins s σ H Q I z => h.run pins s σ H Q I (q σ H Q z)⟩
theorem PT.imp {e : Expr} {t t' : TT} (h : PT X e t) (q : ∀ σ H Q, t' σ H Q → t σ H Q) : PT X e t' := ⟨fun pins s σ H Q I z => h.run pins s σ H Q I (q σ H Q z)⟩
theorem PW.imp {e : Expr} {t t' : TT} (h : PW X e t) (q : ∀ σ H Q, t' σ H Q → t σ H Q) : PW X e t' := ⟨fun wh pins s σ H Q I z => h.run wh pins s σ H Q I (q σ H Q z)⟩
theorem PA.imp {e : List Expr} {t t' : TA} (h : PA X e t) (q : ∀ σ H Q, t' σ H Q → t σ H Q) : PA X e t' := ⟨fun pos pins s σ H Q I z => h.run pos pins s σ H Q I (q σ H Q z)⟩
theorem PS.imp {e : Stmt} {t t' : TS} (h : PS X e t) (q : ∀ D σ H, t' D σ H → t D σ H) : PS X e t' := ⟨fun pins s σ H D I z => h.run pins s σ H D I (q D σ H z)⟩
theorem PSs.imp {e : List Stmt} {t t' : TS} (h : PSs X e t) (q : ∀ D σ H, t' D σ H → t D σ H) : PSs X e t' := ⟨fun pins s σ H D I z => h.run pins s σ H D I (q D σ H z)⟩
theorem PI.imp {tg iter : Expr} {t t' : TI} (h : PI X tg iter t) (q : ∀ σ H R, t' σ H R → t σ H R) : PI X tg iter t' := ⟨fun pins s σ H R I z => h.run pins s σ H R I (q σ H R z)⟩
end


section
variable {K : PySem.W.Frag} {ct : CT} {G F H : Hp} {ad : List Addr} {M : Mem}
theorem Sx.at (x : Sx K ct G F H ad M) {k : Nat} {c : Cell} (h : M[k]? = some c) : ∃ a, ad[k]? = some a ∧ CellR K ct F H ad a c := by
  have hk : k < ad.length := by rw [x.len]; exact (List.getElem?_eq_some_iff.mp h).1
  exact ⟨ad[k], by simp [hk], x.cel k c _ h (by simp [hk])⟩
theorem nodup_at {α : Type} {l : List α} (h : l.Nodup) {i j : Nat} {a : α} (x : l[i]? = some a) (y : l[j]? = some a) : i = j := nd_ix h x y
theorem CellR.mono {F' H' : Hp} {ad' : List Addr} {a : Addr} {c : Cell} (h : CellR K ct F H ad a c) (l : Le F ad F' ad') (n : F' a = F a) (o : H' a = H a) : CellR K ct F' H' ad' a c := by
  cases c with
  | lst xs => obtain ⟨h1, vs, h2, h3⟩ := h; exact ⟨n.trans h1, vs, o.trans h2, h3.mono l⟩
  | dic ks xs => obtain ⟨h1, vs, h2, h3, h4⟩ := h; exact ⟨n.trans h1, vs, o.trans h2, h3, h4.mono l⟩
  | dit ks xs => obtain ⟨h1, vs, h2, h3, h4⟩ := h; exact ⟨n.trans h1, vs, o.trans h2, h3, h4.mono l⟩
  | ins k xs => obtain ⟨h1, dx, vs, h2, h3, h4⟩ := h; exact ⟨n.trans h1, dx, vs, o.trans h2, h3, h4.mono l⟩
  | dead => trivial
theorem Sx.frozen (x : Sx K ct G F H ad M) {p : Addr} {o : HO} (hp : H p = none) : Le F ad (upd F p o) ad ∧ Sx K ct G (upd F p o) (upd H p o) ad M := by
  have fp : F p = none := x.sub.free hp
  have npa : ∀ a ∈ ad, a ≠ p := fun a ha z => by
    obtain ⟨u, q⟩ := x.trk a ha
    rw [z, hp] at q; cases q
  have ne : ∀ a u, H a = some u → a ≠ p := fun a u q z => by rw [z, hp] at q; cases q
  have se : Same F (upd F p o) := fun a u q => by rw [upd_ne (ne _ _ (x.sub _ _ q))]; exact q
  refine ⟨⟨se, List.prefix_refl _⟩, fun a u q => ?_, x.len, x.nd, fun k c a h1 h2 => ?_, fun a u q => ?_, fun a ha => ?_⟩
  · by_cases z : a = p
    · subst z; rw [upd_same] at q ⊢; exact q
    · rw [upd_ne z] at q ⊢; exact x.sub _ _ q
  · have z := npa a (List.mem_of_getElem? h2)
    exact (x.cel k c a h1 h2).mono ⟨se, List.prefix_refl _⟩ (upd_ne z) (upd_ne z)
  · obtain ⟨h1, h2, h3⟩ := x.frm a u q
    have z := ne a u h1
    rw [upd_ne z, upd_ne z]
    exact ⟨h1, h2, h3⟩
  · obtain ⟨u, q⟩ := x.trk a ha
    exact ⟨u, by rw [upd_ne (npa a ha)]; exact q⟩
theorem Sx.new (x : Sx K ct G F H ad M) {p : Addr} {o : HO} {c : Cell} (hp : H p = none) (hc : CellR K ct F (upd H p o) (ad ++ [p]) p c) : Le F ad F (ad ++ [p]) ∧ Sx K ct G F (upd H p o) (ad ++ [p]) (M ++ [c]) := by
  have fp : F p = none := x.sub.free hp
  have npa : ∀ a ∈ ad, a ≠ p := fun a ha z => by
    obtain ⟨u, q⟩ := x.trk a ha
    rw [z, hp] at q; cases q
  have ne : ∀ a u, H a = some u → a ≠ p := fun a u q z => by rw [z, hp] at q; cases q
  refine ⟨⟨Same.refl _, List.prefix_append _ _⟩, fun a u q => ?_, by simp [x.len], ?_, fun k c' a h1 h2 => ?_, fun a u q => ?_, fun a ha => ?_⟩
  · rw [upd_ne (ne _ _ (x.sub _ _ q))]; exact x.sub _ _ q
  · rw [List.nodup_append]
    refine ⟨x.nd, by simp, fun a ha b hb => ?_⟩
    have : b = p := by simpa using hb
    rw [this]; exact npa a ha
  · by_cases hk : k < M.length
    · rw [List.getElem?_append_left hk] at h1
      rw [List.getElem?_append_left (by rw [x.len]; exact hk)] at h2
      have z := npa a (List.mem_of_getElem? h2)
      exact (x.cel k c' a h1 h2).mono ⟨Same.refl _, List.prefix_append _ _⟩ rfl (upd_ne z)
    · have hkl := (List.getElem?_eq_some_iff.mp h1).1
      rw [List.length_append, List.length_singleton] at hkl
      have e : k = M.length := by omega
      subst e
      rw [List.getElem?_append_right (Nat.le_refl _)] at h1
      rw [← x.len, List.getElem?_append_right (Nat.le_refl _)] at h2
      simp at h1 h2
      subst h1 h2
      exact hc
  · obtain ⟨h1, h2, h3⟩ := x.frm a u q
    have z := ne a u h1
    rw [upd_ne z]
    refine ⟨h1, h2, fun hm => ?_⟩
    rcases List.mem_append.mp hm with hm | hm
    · exact h3 hm
    · exact z (by simpa using hm)
  · rcases List.mem_append.mp ha with hm | hm
    · obtain ⟨u, q⟩ := x.trk a hm
      exact ⟨u, by rw [upd_ne (npa a hm)]; exact q⟩
    · have e : a = p := by simpa using hm
      exact ⟨o, by rw [e]; exact upd_same⟩
theorem Sx.write (x : Sx K ct G F H ad M) {k : Nat} {a : Addr} {o : HO} {c : Cell} (ha : ad[k]? = some a) (hf : F a = none) (hc : CellR K ct F (upd H a o) ad a c) : Sx K ct G F (upd H a o) ad (M.set k c) := by
  refine ⟨fun b u q => ?_, by simp [x.len], x.nd, fun j c' b h1 h2 => ?_, fun b u q => ?_, fun b hb => ?_⟩
  · have z : b ≠ a := fun z => by rw [z, hf] at q; cases q
    rw [upd_ne z]; exact x.sub _ _ q
  · by_cases hj : j = k
    · subst hj
      rw [ha] at h2; cases h2
      have hk : j < M.length := by rw [← x.len]; exact (List.getElem?_eq_some_iff.mp ha).1
      rw [List.getElem?_set_self hk] at h1
      cases h1
      exact hc
    · rw [List.getElem?_set_ne (Ne.symm hj)] at h1
      have z : b ≠ a := fun z => hj (nodup_at x.nd (z ▸ h2) ha)
      exact (x.cel j c' b h1 h2).mono (Le.refl _ _) rfl (upd_ne z)
  · obtain ⟨h1, h2, h3⟩ := x.frm b u q
    have z : b ≠ a := fun z => h3 (z ▸ List.mem_of_getElem? ha)
    rw [upd_ne z]
    exact ⟨h1, h2, h3⟩
  · by_cases z : b = a
    · exact ⟨o, by rw [z]; exact upd_same⟩
    · obtain ⟨u, q⟩ := x.trk b hb
      exact ⟨u, by rw [upd_ne z]; exact q⟩
abbrev Hd := Nat → Mem → Option (D × Mem)
mutual
def frzW (g : Hd) : D → Mem → Option (D × Mem)
  | .ptr k, m => g k m
  | .tup xs, m => match frzWL g xs m with
    | some p => some (.tup p.1, p.2)
    | none => none
  | .lst xs, m => match frzWL g xs m with
    | some p => some (.lst p.1, p.2)
    | none => none
  | .obj c xs, m => match frzWL g xs m with
    | some p => some (.obj c p.1, p.2)
    | none => none
  | .non, m => some (.non, m)
  | .bl b, m => some (.bl b, m)
  | .int i, m => some (.int i, m)
  | .str s, m => some (.str s, m)
  | .scr ns, m => some (.scr ns, m)
  | .dic ks xs, m => some (.dic ks xs, m)
  | .dit ks xs, m => some (.dit ks xs, m)
  | .exc c xs, m => some (.exc c xs, m)
def frzWL (g : Hd) : List D → Mem → Option (List D × Mem)
  | [], m => some ([], m)
  | d :: ds, m => match frzW g d m with
    | some p => (match frzWL g ds p.2 with
      | some q => some (p.1 :: q.1, q.2)
      | none => none)
    | none => none
end
def frzK : Nat → Hd
  | 0 => fun _ _ => none
  | n + 1 => fun k m => match m[k]? with
    | some (.lst xs) => (match frzWL (frzK n) xs (m.set k .dead) with
      | some p => some (.lst p.1, p.2)
      | none => none)
    | some (.dic ks xs) => (match frzWL (frzK n) xs (m.set k .dead) with
      | some p => some (.dic ks p.1, p.2)
      | none => none)
    | some (.dit ks xs) => (match frzWL (frzK n) xs (m.set k .dead) with
      | some p => some (.dit ks p.1, p.2)
      | none => none)
    | some (.ins c xs) => (match frzWL (frzK n) xs (m.set k .dead) with
      | some p => some (.obj c p.1, p.2)
      | none => none)
    | _ => none
def frz (d : D) (m : Mem) : Option (D × Mem) := frzW (frzK 20) d m
structure Frz (K : PySem.W.Frag) (ct : CT) (G F H : Hp) (ad : List Addr) (M M' : Mem) (F' : Hp) : Prop where
  le : Le F ad F' ad
  sx : Sx K ct G F' H ad M'
  dd : ∀ (j : Nat) b, M[j]? = some .dead → ad[j]? = some b → F' b = F b ∧ M'[j]? = some .dead
theorem Frz.refl (x : Sx K ct G F H ad M) : Frz K ct G F H ad M M F := ⟨Le.refl _ _, x, fun _ _ h _ => ⟨rfl, h⟩⟩
theorem Frz.trans {F1 F2 : Hp} {M1 M2 : Mem} (x : Frz K ct G F H ad M M1 F1) (y : Frz K ct G F1 H ad M1 M2 F2) : Frz K ct G F H ad M M2 F2 := ⟨x.le.trans y.le, y.sx, fun j b h1 h2 => by
  obtain ⟨a1, a2⟩ := x.dd j b h1 h2
  obtain ⟨b1, b2⟩ := y.dd j b a2 h2
  exact ⟨b1.trans a1, b2⟩⟩
def HdOk (K : PySem.W.Frag) (ct : CT) (G H : Hp) (ad : List Addr) (g : Hd) : Prop := ∀ (F : Hp) (M : Mem) (k : Nat) (a : Addr) (d : D) (M' : Mem), Sx K ct G F H ad M → ad[k]? = some a → g k M = some (d, M') → ∃ F', Frz K ct G F H ad M M' F' ∧ Rep K ct F' ad d (.ref a)
mutual
theorem frzW_ok {g : Hd} (hg : HdOk K ct G H ad g) : ∀ {d : D} {F : Hp} {M : Mem} {v : V} {d' : D} {M' : Mem}, Sx K ct G F H ad M → Rep K ct F ad d v → frzW g d M = some (d', M') → ∃ F', Frz K ct G F H ad M M' F' ∧ Rep K ct F' ad d' v
  | .ptr k, F, M, v, d', M', x, r, e => by
    unfold frzW at e
    obtain ⟨a, ha, rfl⟩ := r.ptr_
    exact hg F M k a d' M' x ha e
  | .tup xs, F, M, v, d', M', x, r, e => by
    unfold frzW at e
    split at e
    · rename_i p q
      cases e
      unfold Rep at r
      obtain ⟨a, vs, rfl, h1, h2⟩ := r
      obtain ⟨F', f, r'⟩ := frzWL_ok hg x h2 q
      refine ⟨F', f, ?_⟩
      unfold Rep
      exact ⟨a, vs, rfl, same_seqT f.le.same h1, r'⟩
    · cases e
  | .lst xs, F, M, v, d', M', x, r, e => by
    unfold frzW at e
    split at e
    · rename_i p q
      cases e
      unfold Rep at r
      obtain ⟨a, vs, rfl, h1, h2⟩ := r
      obtain ⟨F', f, r'⟩ := frzWL_ok hg x h2 q
      refine ⟨F', f, ?_⟩
      unfold Rep
      exact ⟨a, vs, rfl, f.le.same _ _ h1, r'⟩
    · cases e
  | .obj c xs, F, M, v, d', M', x, r, e => by
    unfold frzW at e
    split at e
    · rename_i p q
      cases e
      unfold Rep at r
      obtain ⟨a, dx, vs, rfl, h1, h3, h2⟩ := r
      obtain ⟨F', f, r'⟩ := frzWL_ok hg x h2 q
      refine ⟨F', f, ?_⟩
      unfold Rep
      exact ⟨a, dx, vs, rfl, f.le.same _ _ h1, h3, r'⟩
    · cases e
  | .non, F, M, v, d', M', x, r, e => by unfold frzW at e; cases e; exact ⟨F, .refl x, r⟩
  | .bl _, F, M, v, d', M', x, r, e => by unfold frzW at e; cases e; exact ⟨F, .refl x, r⟩
  | .int _, F, M, v, d', M', x, r, e => by unfold frzW at e; cases e; exact ⟨F, .refl x, r⟩
  | .str _, F, M, v, d', M', x, r, e => by unfold frzW at e; cases e; exact ⟨F, .refl x, r⟩
  | .scr _, F, M, v, d', M', x, r, e => by unfold frzW at e; cases e; exact ⟨F, .refl x, r⟩
  | .dic _ _, F, M, v, d', M', x, r, e => by unfold frzW at e; cases e; exact ⟨F, .refl x, r⟩
  | .dit _ _, F, M, v, d', M', x, r, e => by unfold frzW at e; cases e; exact ⟨F, .refl x, r⟩
  | .exc _ _, F, M, v, d', M', x, r, e => by unfold frzW at e; cases e; exact ⟨F, .refl x, r⟩
theorem frzWL_ok {g : Hd} (hg : HdOk K ct G H ad g) : ∀ {ds : List D} {F : Hp} {M : Mem} {vs : List V} {ds' : List D} {M' : Mem}, Sx K ct G F H ad M → RepL K ct F ad ds vs → frzWL g ds M = some (ds', M') → ∃ F', Frz K ct G F H ad M M' F' ∧ RepL K ct F' ad ds' vs
  | [], F, M, vs, ds', M', x, r, e => by unfold frzWL at e; cases e; exact ⟨F, .refl x, r⟩
  | d :: ds, F, M, vs, ds', M', x, r, e => by
    unfold frzWL at e
    obtain ⟨v, us, rfl, r1, r2⟩ := r.cases_cons
    split at e
    · rename_i p q
      split at e
      · rename_i p2 q2
        cases e
        obtain ⟨F1, f1, z1⟩ := frzW_ok hg x r1 q
        obtain ⟨F2, f2, z2⟩ := frzWL_ok hg f1.sx (r2.mono f1.le) q2
        exact ⟨F2, f1.trans f2, .cons (z1.mono f2.le) z2⟩
      · cases e
    · cases e
end
theorem Sx.kill (x : Sx K ct G F H ad M) (k : Nat) : Sx K ct G F H ad (M.set k .dead) := by
  refine ⟨x.sub, by simp [x.len], x.nd, fun j c' b q1 q2 => ?_, x.frm, x.trk⟩
  by_cases hj : j = k
  · subst hj
    have hk : j < M.length := by rw [← x.len]; exact (List.getElem?_eq_some_iff.mp q2).1
    rw [List.getElem?_set_self hk] at q1
    cases q1
    trivial
  · rw [List.getElem?_set_ne (Ne.symm hj)] at q1
    exact x.cel j c' b q1 q2
theorem kill_dead {M : Mem} {k : Nat} {c : Cell} (h : M[k]? = some c) : (M.set k .dead)[k]? = some .dead := List.getElem?_set_self (List.getElem?_eq_some_iff.mp h).1
theorem Frz.take {F1 : Hp} {M1 : Mem} {k : Nat} {a : Addr} {c : Cell} {o : HO} (x : Sx K ct G F H ad M) (hc : M[k]? = some c) (hn : c ≠ .dead) (ha : ad[k]? = some a) (ho : H a = some o) (hf : F a = none)
    (f : Frz K ct G F H ad (M.set k .dead) M1 F1) : Frz K ct G F H ad M M1 (upd F1 a o) ∧ upd F1 a o a = some o ∧ Le F1 ad (upd F1 a o) ad := by
  obtain ⟨z1, z2⟩ := f.dd k a (kill_dead hc) ha
  have n1 : F1 a = none := z1.trans hf
  have se : Same F1 (upd F1 a o) := fun b u q => by
    rw [upd_ne (fun z => by rw [z, n1] at q; cases q)]; exact q
  have l1 : Le F1 ad (upd F1 a o) ad := ⟨se, List.prefix_refl _⟩
  refine ⟨⟨f.le.trans l1, ⟨fun b u q => ?_, f.sx.len, f.sx.nd, fun j c' b q1 q2 => ?_, fun b u q => ?_, f.sx.trk⟩, fun j b h1 h2 => ?_⟩, upd_same, l1⟩
  · by_cases z : b = a
    · subst z; rw [upd_same] at q; cases q; exact ho
    · rw [upd_ne z] at q; exact f.sx.sub _ _ q
  · by_cases hj : j = k
    · subst hj
      rw [z2] at q1; cases q1; trivial
    · have z : b ≠ a := fun z => hj (nodup_at x.nd (z ▸ q2) ha)
      exact (f.sx.cel j c' b q1 q2).mono l1 (upd_ne z) rfl
  · obtain ⟨q1, q2, q3⟩ := f.sx.frm b u q
    have z : b ≠ a := fun z => q3 (z ▸ List.mem_of_getElem? ha)
    rw [upd_ne z]
    exact ⟨q1, q2, q3⟩
  · have hj : j ≠ k := fun z => by
      subst z
      rw [hc] at h1; cases h1; exact hn rfl
    have z : b ≠ a := fun z => hj (nodup_at x.nd (z ▸ h2) ha)
    rw [upd_ne z]
    exact f.dd j b (by rw [List.getElem?_set_ne (Ne.symm hj)]; exact h1) h2
theorem frzK_ok : ∀ (n : Nat), HdOk K ct G H ad (frzK n)
  | 0 => fun F M k a d M' x ha e => by cases e
  | n + 1 => fun F M k a d M' x ha e => by
    unfold frzK at e
    cases hc : M[k]? with
    | none => simp only [hc] at e; cases e
    | some c =>
      simp only [hc] at e
      obtain ⟨o, ho⟩ := x.trk a (List.mem_of_getElem? ha)
      have cr := x.cel k c a hc ha
      cases c with
      | dead => cases e
      | lst xs =>
        simp only at e
        obtain ⟨h1, vs, h2, h3⟩ := cr
        rw [ho] at h2; cases h2
        split at e
        · rename_i p q
          cases e
          obtain ⟨F1, f1, r1⟩ := frzWL_ok (frzK_ok n) (x.kill k) h3 q
          obtain ⟨f2, u2, l2⟩ := f1.take x hc (by intro z; cases z) ha ho h1
          refine ⟨_, f2, ?_⟩
          unfold Rep
          exact ⟨a, vs, rfl, u2, r1.mono l2⟩
        · cases e
      | dic ks xs =>
        simp only at e
        obtain ⟨h1, vs, h2, h4, h3⟩ := cr
        rw [ho] at h2; cases h2
        split at e
        · rename_i p q
          cases e
          obtain ⟨F1, f1, r1⟩ := frzWL_ok (frzK_ok n) (x.kill k) h3 q
          obtain ⟨f2, u2, l2⟩ := f1.take x hc (by intro z; cases z) ha ho h1
          refine ⟨_, f2, ?_⟩
          unfold Rep
          exact ⟨a, vs, rfl, u2, h4, r1.mono l2⟩
        · cases e
      | dit ks xs =>
        simp only at e
        obtain ⟨h1, vs, h2, h4, h3⟩ := cr
        rw [ho] at h2; cases h2
        split at e
        · rename_i p q
          cases e
          obtain ⟨F1, f1, r1⟩ := frzWL_ok (frzK_ok n) (x.kill k) h3 q
          obtain ⟨f2, u2, l2⟩ := f1.take x hc (by intro z; cases z) ha ho h1
          refine ⟨_, f2, ?_⟩
          unfold Rep
          exact ⟨a, vs, rfl, u2, h4, r1.mono l2⟩
        · cases e
      | ins c xs =>
        simp only at e
        obtain ⟨h1, dx, vs, h2, h4, h3⟩ := cr
        rw [ho] at h2; cases h2
        split at e
        · rename_i p q
          cases e
          obtain ⟨F1, f1, r1⟩ := frzWL_ok (frzK_ok n) (x.kill k) h3 q
          obtain ⟨f2, u2, l2⟩ := f1.take x hc (by intro z; cases z) ha ho h1
          refine ⟨_, f2, ?_⟩
          unfold Rep
          exact ⟨a, dx, vs, rfl, u2, h4, r1.mono l2⟩
        · cases e
theorem Sx.frz (x : Sx K ct G F H ad M) {o : O} {v : V} {d : D} {M' : Mem} (hr : RepO K ct F ad o v) (e : frz o M = some (d, M')) : ∃ F', Le F ad F' ad ∧ Sx K ct G F' H ad M' ∧ Rep K ct F' ad d v := by
  obtain ⟨F', f, r⟩ := frzW_ok (frzK_ok 20) x hr e
  exact ⟨F', f.le, f.sx, r⟩
end


section
variable {X : Cx} {ct : CT} {W : WX} {x : Str} {pos : Pos}
def mVar (i : Nat) : M O := fun s => match s.env[i]? with
  | some (some o) => .ok o s
  | _ => .bad
theorem pd_var (i : Nat) (hN : X.N[i]? = some x := by rfl) (hv : Vis X.env.scope x := by first | exact Or.inl rfl | exact Or.inr (Or.inl rfl) | exact Or.inr (Or.inr rfl)) (hd : (x == ("__debug__" : Str)) = false := by decide)
    (hcd : (x == ("__classdict__" : Str)) = false := by decide) : PE X (.Name x pos) (tE X.K ct W (mVar i)) := by
  refine PE.imp (pe_var (i := i) hN hv hd hcd) fun σ H Q h => ?_
  obtain ⟨G, F, ad, s, hs, he, h⟩ := h
  unfold mVar at h
  cases e : s.env[i]? with
  | none => rw [e] at h; exact h.elim
  | some q =>
    rw [e] at h
    cases q with
    | none => exact h.elim
    | some o =>
      obtain ⟨v, h1, h2⟩ := he.get i o e
      exact ⟨v, h1, Post.ret hs he h2 h⟩
def mVarF (i : Nat) : M O := fun s => match s.env[i]? with
  | some (some o) => match frz o s.mem with
    | some (d, m) => .ok (d) ⟨s.env.set i (some (d)), m⟩
    | none => .bad
  | _ => .bad
theorem pd_varF (i : Nat) (hN : X.N[i]? = some x := by rfl) (hv : Vis X.env.scope x := by first | exact Or.inl rfl | exact Or.inr (Or.inl rfl) | exact Or.inr (Or.inr rfl)) (hd : (x == ("__debug__" : Str)) = false := by decide)
    (hcd : (x == ("__classdict__" : Str)) = false := by decide) : PE X (.Name x pos) (tE X.K ct W (mVarF i)) := by
  refine PE.imp (pe_var (i := i) hN hv hd hcd) fun σ H Q h => ?_
  obtain ⟨G, F, ad, s, hs, he, h⟩ := h
  unfold mVarF at h
  cases e : s.env[i]? with
  | none => rw [e] at h; exact h.elim
  | some q =>
    rw [e] at h
    cases q with
    | none => exact h.elim
    | some o =>
      simp only at h
      obtain ⟨v, h1, h2⟩ := he.get i o e
      refine ⟨v, h1, ?_⟩
      cases e2 : frz o s.mem with
      | none => rw [e2] at h; exact h.elim
      | some p =>
        obtain ⟨d, m⟩ := p
        rw [e2] at h
        obtain ⟨F', l, x', r'⟩ := hs.frz h2 e2
        refine h v F' H ad l x' ⟨by simpa using he.len, fun j o' q => ?_⟩ r'
        by_cases hj : j = i
        · subst hj
          have hlt : j < s.env.length := (List.getElem?_eq_some_iff.mp e).1
          simp only [List.getElem?_set_self hlt] at q
          cases q
          exact ⟨v, h1, r'⟩
        · simp only [List.getElem?_set_ne (Ne.symm hj)] at q
          exact (he.mono l).get j o' q
def mC (d : D) : M O := ret (d)
theorem tE_C {K : PySem.W.Frag} {d : D} {v : V} (hr : ∀ F ad, Rep K ct F ad d v) {σ : L2.St} {H : Hp} {Q : VK} (h : tE K ct W (mC d) σ H Q) : tC v σ H Q := by
  obtain ⟨G, F, ad, s, hs, he, h⟩ := h
  exact Post.ret (ρ := RepO K ct) hs he (show RepO K ct F ad (d) v from hr F ad) h
theorem pd_int {i j} : PE X (.Constant (.int i) j pos) (tE X.K ct W (mC (.int i))) := PE.imp pe_int fun _ _ _ h => tE_C (fun F _ => by unfold Rep; rfl) h
theorem pd_bl {b j} : PE X (.Constant (.bool b) j pos) (tE X.K ct W (mC (.bl b))) := PE.imp pe_bl fun _ _ _ h => tE_C (fun F _ => by unfold Rep; rfl) h
theorem pd_non {j} : PE X (.Constant .none j pos) (tE X.K ct W (mC .non)) := PE.imp pe_non fun _ _ _ h => tE_C (fun F _ => by unfold Rep; rfl) h
theorem pd_str {z j} : PE X (.Constant (.str z) j pos) (tE X.K ct W (mC (.str z))) := PE.imp pe_str fun _ _ _ h => tE_C (fun F _ => by unfold Rep; rfl) h
theorem pd_gint {i : Int} (hg : Gl X x) (hm : ∃ t, X.mg x = some (.int i t)) (hd : (x == ("__debug__" : Str)) = false := by decide) : PE X (.Name x pos) (tE X.K ct W (mC (.int i))) := by
  obtain ⟨t, hm⟩ := hm
  exact PE.imp (pe_glob (v := .int i) hg hm ⟨t, rfl⟩ hd) fun _ _ _ h => tE_C (fun F _ => by unfold Rep; rfl) h
theorem pd_gstr {z : Str} (hg : Gl X x) (hm : ∃ t, X.mg x = some (.str z t)) (hd : (x == ("__debug__" : Str)) = false := by decide) : PE X (.Name x pos) (tE X.K ct W (mC (.str z))) := by
  obtain ⟨t, hm⟩ := hm
  exact PE.imp (pe_glob (v := .str z) hg hm ⟨t, rfl⟩ hd) fun _ _ _ h => tE_C (fun F _ => by unfold Rep; rfl) h


abbrev P1 := O → Mem → Pr
abbrev P2 := O → O → Mem → Pr
abbrev Pn := List O → Mem → Pr
def r1 (K : PySem.W.Frag) (ct : CT) (p : P1) : V → Hp → VK → Prop := fun x H Q => ∃ G F ad M o, Sx K ct G F H ad M ∧ RepO K ct F ad o x ∧ PostP K ct G F ad (p o M) Q
def r2 (K : PySem.W.Frag) (ct : CT) (p : P2) : R2 := fun x y H Q => ∃ G F ad M o u, Sx K ct G F H ad M ∧ RepO K ct F ad o x ∧ RepO K ct F ad u y ∧ PostP K ct G F ad (p o u M) Q
def rn (K : PySem.W.Frag) (ct : CT) (p : Pn) : List V → Hp → VK → Prop := fun xs H Q => ∃ G F ad M os, Sx K ct G F H ad M ∧ RepOs K ct F ad os xs ∧ PostP K ct G F ad (p os M) Q
def m1 (p : P1) (a : M O) : M O := bnd a fun o => pr (p o)
def m2 (p : P2) (a b : M O) : M O := bnd a fun o => bnd b fun u => pr (p o u)
def mn (p : Pn) (as : M (List O)) : M O := bnd as fun os => pr (p os)
theorem t_1 {K : PySem.W.Frag} {p : P1} {a : M O} {σ : L2.St} {H : Hp} {Q : VK} (h : tE K ct W (m1 p a) σ H Q) : tE K ct W a σ H fun x H1 => r1 K ct p x H1 Q := by
  obtain ⟨G, F, ad, s, hs, he, h⟩ := h
  refine tG.imp (post_bnd (ρ := RepO K ct) hs he h) fun x H1 z => ?_
  obtain ⟨F1, ad1, s1, o, l1, hs1, he1, hr, h1⟩ := z
  exact ⟨G, F1, ad1, s1.mem, o, hs1, hr, post_pr he1 h1⟩
theorem t_2 {K : PySem.W.Frag} {p : P2} {a b : M O} {σ : L2.St} {H : Hp} {Q : VK} (h : tE K ct W (m2 p a b) σ H Q) : tE K ct W a σ H fun x H1 => tE K ct W b σ H1 fun y H2 => r2 K ct p x y H2 Q := by
  obtain ⟨G, F, ad, s, hs, he, h⟩ := h
  refine tG.imp (post_bnd (ρ := RepO K ct) hs he h) fun x H1 z => ?_
  obtain ⟨F1, ad1, s1, o, l1, hs1, he1, hr, h1⟩ := z
  refine tG.imp (post_bnd (ρ := RepO K ct) hs1 he1 h1) fun y H2 z => ?_
  obtain ⟨F2, ad2, s2, u, l2, hs2, he2, hr2, h2⟩ := z
  exact ⟨G, F2, ad2, s2.mem, o, u, hs2, hr.mono l2, hr2, post_pr he2 h2⟩
theorem t_n {K : PySem.W.Frag} {p : Pn} {as : M (List O)} {σ : L2.St} {H : Hp} {Q : VK} (h : tE K ct W (mn p as) σ H Q) : tA K ct W as σ H fun xs H1 => rn K ct p xs H1 Q := by
  obtain ⟨G, F, ad, s, hs, he, h⟩ := h
  refine tG.imp (post_bnd (ρ := RepOs K ct) hs he h) fun x H1 z => ?_
  obtain ⟨F1, ad1, s1, o, l1, hs1, he1, hr, h1⟩ := z
  exact ⟨G, F1, ad1, s1.mem, o, hs1, hr, post_pr he1 h1⟩
variable {a b : Expr} {ma mb : M O} {p : P2} {p1 : P1}
theorem pd_op {op : Operator} (ho : OpR X (binaryOp op) (r2 X.K ct p)) (ha : PE X a (tE X.K ct W ma)) (hb : PE X b (tE X.K ct W mb)) : PE X (.BinOp a op b pos) (tE X.K ct W (m2 p ma mb)) :=
  PE.imp (pe_op ho ha hb) fun _ _ _ h => t_2 h
theorem pd_un {op : UnaryOp} (ho : UnR X (unaryOp op) (r1 X.K ct p1)) (ha : PE X a (tE X.K ct W ma)) : PE X (.UnaryOp op a pos) (tE X.K ct W (m1 p1 ma)) :=
  PE.imp (pe_un ho ha) fun _ _ _ h => t_1 h
theorem pd_cmp {op : CmpOp} (ho : OpR X (compareOp op) (r2 X.K ct p)) (ha : PE X a (tE X.K ct W ma)) (hb : PE X b (tE X.K ct W mb)) (hm : behindInMarks op b = false) : PE X (.Compare a [op] [b] pos) (tE X.K ct W (m2 p ma mb)) :=
  PE.imp (pe_cmpR ho ha hb hm) fun _ _ _ h => t_2 h

def tb (m : M O) : M Bool := bnd m fun o s => match o with
  | (.bl b) => .ok b s
  | _ => .bad
theorem t_b {K : PySem.W.Frag} {m : M O} {σ : L2.St} {H : Hp} {Q : Bool → Hp → Prop} (h : tT K ct W (tb m) σ H Q) : tE K ct W m σ H fun x H1 => ∃ k, x = .bl k ∧ Q k H1 := by
  obtain ⟨G, F, ad, s, hs, he, h⟩ := h
  refine tG.imp (post_bnd (ρ := RepO K ct) hs he h) fun x H1 z => ?_
  obtain ⟨F1, ad1, s1, o, l1, hs1, he1, hr, h1⟩ := z
  cases o with
  | bl k =>
    have e : x = .bl k := by
      have q : Rep K ct F1 ad1 (.bl k) x := hr
      unfold Rep at q
      exact q
    exact ⟨k, e, Post.ret (ρ := rEq) hs1 he1 (show rEq F1 ad1 k k from rfl) h1⟩
  | _ => exact h1.elim
theorem pd_tb {m : M O} (h : PE X a (tE X.K ct W m)) (he : ∀ whole, isTrue a X.env whole = (do let v ← whole; standAt a.pos; holding [v] (truthy v)) := by intro _; rfl) : PT X a (tT X.K ct W (tb m)) :=
  PT.imp (pt_val h he) fun _ _ _ z => t_b z
theorem pd_tcmp {op : CmpOp} (ho : OpR X (compareOp op) (r2 X.K ct p)) (ha : PE X a (tE X.K ct W ma)) (hb : PE X b (tE X.K ct W mb)) (hm : behindInMarks op b = false) : PT X (.Compare a [op] [b] pos) (tT X.K ct W (tb (m2 p ma mb))) :=
  PT.imp (pt_cmpR ho ha hb hm) fun σ H Q z => tG.imp (t_2 (Q := fun x H' => ∃ k, x = .bl k ∧ Q k H') (t_b z)) fun _ _ q => q
def mAnd (a b : M Bool) : M Bool := bnd a fun k => if k = true then b else ret false
def mOr (a b : M Bool) : M Bool := bnd a fun k => if k = true then ret true else b
def mNot (a : M Bool) : M Bool := bnd a fun k => ret (!k)
variable {ta tb' : M Bool} {rest : List Expr}
theorem pd_w1and (ha : PT X a (tT X.K ct W ta)) : PW X (.BoolOp .And [a] pos) (tT X.K ct W ta) := pw_and1 ha
theorem pd_w1or (ha : PT X a (tT X.K ct W ta)) : PW X (.BoolOp .Or [a] pos) (tT X.K ct W ta) := pw_or1 ha
theorem pd_wand (ha : PT X a (tT X.K ct W ta)) (hb : PW X (.BoolOp .And (b :: rest) pos) (tT X.K ct W tb')) : PW X (.BoolOp .And (a :: b :: rest) pos) (tT X.K ct W (mAnd ta tb')) := by
  refine PW.imp (pw_and ha hb) fun σ H Q h => ?_
  obtain ⟨G, F, ad, s, hs, he, h⟩ := h
  refine tG.imp (post_bnd (ρ := rEq) hs he h) fun k H1 z => ?_
  obtain ⟨F1, ad1, s1, o, l1, hs1, he1, hr, h1⟩ := z
  cases (show o = k from hr)
  cases k with
  | true => exact ⟨G, F1, ad1, s1, hs1, he1, h1⟩
  | false => exact Post.ret (ρ := rEq) hs1 he1 rfl h1
theorem pd_wor (ha : PT X a (tT X.K ct W ta)) (hb : PW X (.BoolOp .Or (b :: rest) pos) (tT X.K ct W tb')) : PW X (.BoolOp .Or (a :: b :: rest) pos) (tT X.K ct W (mOr ta tb')) := by
  refine PW.imp (pw_or ha hb) fun σ H Q h => ?_
  obtain ⟨G, F, ad, s, hs, he, h⟩ := h
  refine tG.imp (post_bnd (ρ := rEq) hs he h) fun k H1 z => ?_
  obtain ⟨F1, ad1, s1, o, l1, hs1, he1, hr, h1⟩ := z
  cases (show o = k from hr)
  cases k with
  | false => exact ⟨G, F1, ad1, s1, hs1, he1, h1⟩
  | true => exact Post.ret (ρ := rEq) hs1 he1 rfl h1
theorem pd_tnot (ha : PT X a (tT X.K ct W ta)) : PT X (.UnaryOp .Not a pos) (tT X.K ct W (mNot ta)) := by
  refine PT.imp (pt_not ha) fun σ H Q h => ?_
  obtain ⟨G, F, ad, s, hs, he, h⟩ := h
  refine tG.imp (post_bnd (ρ := rEq) hs he h) fun k H1 z => ?_
  obtain ⟨F1, ad1, s1, o, l1, hs1, he1, hr, h1⟩ := z
  cases (show o = k from hr)
  exact Post.ret (ρ := rEq) hs1 he1 rfl h1
def mAndV (a b : M O) : M O := bnd a fun o s => match o with
  | (.bl true) => b s
  | (.bl false) => .ok ((.bl false)) s
  | _ => .bad
def mOrV (a b : M O) : M O := bnd a fun o s => match o with
  | (.bl false) => b s
  | (.bl true) => .ok ((.bl true)) s
  | _ => .bad
def mNotV (a : M O) : M O := bnd a fun o s => match o with
  | (.bl k) => .ok ((.bl (!k))) s
  | _ => .bad
theorem pd_one {op} {m : M O} (h : PE X a (tE X.K ct W m)) : PE X (.BoolOp op [a] pos) (tE X.K ct W m) := pe_one h
theorem pd_and (ha : PE X a (tE X.K ct W ma)) (hb : PE X (.BoolOp .And (b :: rest) pos) (tE X.K ct W mb)) : PE X (.BoolOp .And (a :: b :: rest) pos) (tE X.K ct W (mAndV ma mb)) := by
  refine PE.imp (pe_and ha hb) fun σ H Q h => ?_
  obtain ⟨G, F, ad, s, hs, he, h⟩ := h
  refine tG.imp (post_bnd (ρ := RepO X.K ct) hs he h) fun x H1 z => ?_
  obtain ⟨F1, ad1, s1, o, l1, hs1, he1, hr, h1⟩ := z
  cases o with
  | bl k =>
    refine ⟨k, Rep.bl_ hr, ?_⟩
    cases k with
    | true => exact ⟨G, F1, ad1, s1, hs1, he1, h1⟩
    | false => exact Post.ret (ρ := RepO X.K ct) hs1 he1 (.bl) h1
  | _ => exact h1.elim
theorem pd_or (ha : PE X a (tE X.K ct W ma)) (hb : PE X (.BoolOp .Or (b :: rest) pos) (tE X.K ct W mb)) : PE X (.BoolOp .Or (a :: b :: rest) pos) (tE X.K ct W (mOrV ma mb)) := by
  refine PE.imp (pe_or ha hb) fun σ H Q h => ?_
  obtain ⟨G, F, ad, s, hs, he, h⟩ := h
  refine tG.imp (post_bnd (ρ := RepO X.K ct) hs he h) fun x H1 z => ?_
  obtain ⟨F1, ad1, s1, o, l1, hs1, he1, hr, h1⟩ := z
  cases o with
  | bl k =>
    refine ⟨k, Rep.bl_ hr, ?_⟩
    cases k with
    | false => exact ⟨G, F1, ad1, s1, hs1, he1, h1⟩
    | true => exact Post.ret (ρ := RepO X.K ct) hs1 he1 (.bl) h1
  | _ => exact h1.elim
theorem pd_not (ha : PE X a (tE X.K ct W ma)) : PE X (.UnaryOp .Not a pos) (tE X.K ct W (mNotV ma)) := by
  refine PE.imp (pe_not ha) fun σ H Q h => ?_
  obtain ⟨G, F, ad, s, hs, he, h⟩ := h
  refine tG.imp (post_bnd (ρ := RepO X.K ct) hs he h) fun x H1 z => ?_
  obtain ⟨F1, ad1, s1, o, l1, hs1, he1, hr, h1⟩ := z
  cases o with
  | bl k => exact ⟨k, Rep.bl_ hr, Post.ret (ρ := RepO X.K ct) hs1 he1 (.bl) h1⟩
  | _ => exact h1.elim
def mIf {α : Type} (c : M Bool) (a b : M α) : M α := bnd c fun k => if k = true then a else b
theorem pd_ifExp {c : Expr} {mc : M Bool} (hc : PT X c (tT X.K ct W mc)) (ha : PE X a (tE X.K ct W ma)) (hb : PE X b (tE X.K ct W mb)) : PE X (.IfExp c a b pos) (tE X.K ct W (mIf mc ma mb)) := by
  refine PE.imp (pe_ifExp hc ha hb) fun σ H Q h => ?_
  obtain ⟨G, F, ad, s, hs, he, h⟩ := h
  refine tG.imp (post_bnd (ρ := rEq) hs he h) fun k H1 z => ?_
  obtain ⟨F1, ad1, s1, o, l1, hs1, he1, hr, h1⟩ := z
  cases (show o = k from hr)
  cases k with
  | false => exact ⟨G, F1, ad1, s1, hs1, he1, h1⟩
  | true => exact ⟨G, F1, ad1, s1, hs1, he1, h1⟩


def mNil : M (List O) := ret []
def mCons (a : M O) (as : M (List O)) : M (List O) := bnd a fun o => bnd as fun os => ret (o :: os)
variable {e : Expr} {es : List Expr} {me : M O} {mes : M (List O)}
theorem pda_nil : PA X [] (tA X.K ct W mNil) := PA.imp pa_nil fun σ H Q h => by
  obtain ⟨G, F, ad, s, hs, he, h⟩ := h
  exact Post.ret (ρ := RepOs X.K ct) (a := []) (b := []) hs he rfl h
theorem pda_cons (ha : PE X e (tE X.K ct W me)) (hr : PA X es (tA X.K ct W mes)) (hs : starEach (e :: es) X.env = (false, eval e X.env) :: starEach es X.env := by rfl) : PA X (e :: es) (tA X.K ct W (mCons me mes)) := by
  refine PA.imp (pa_cons ha hr hs) fun σ H Q h => ?_
  obtain ⟨G, F, ad, s, hs, he, h⟩ := h
  refine tG.imp (post_bnd (ρ := RepO X.K ct) hs he h) fun x H1 z => ?_
  obtain ⟨F1, ad1, s1, o, l1, hs1, he1, hr1, h1⟩ := z
  refine tG.imp (post_bnd (ρ := RepOs X.K ct) hs1 he1 h1) fun xs H2 z => ?_
  obtain ⟨F2, ad2, s2, os, l2, hs2, he2, hr2, h2⟩ := z
  exact Post.ret (ρ := RepOs X.K ct) hs2 he2 (show RepOs X.K ct F2 ad2 (o :: os) (x :: xs) from ⟨x, xs, rfl, hr1.mono l2, hr2⟩) h2
def pTup : Pn := fun os m => if os.length ≤ sizeLine then some (.tup os, m) else none
def pLst : Pn := fun os m => if os.length ≤ sizeLine then some (.ptr m.length, m ++ [.lst os]) else none
theorem tup_ok {K : PySem.W.Frag} {xs : List V} {H : Hp} {Q : VK} (h : rn K ct pTup xs H Q) : xs.length ≤ sizeLine ∧ ∀ p, H p = none → Q (.ref p) (upd H p (.tup xs)) := by
  obtain ⟨G, F, ad, m, os, hs, hr, h⟩ := h
  unfold pTup at h
  by_cases hz : os.length ≤ sizeLine
  · rw [if_pos hz] at h
    refine ⟨by rw [hr.length]; exact hz, fun p hp => ?_⟩
    obtain ⟨l2, hs2⟩ := hs.frozen (o := .tup xs) hp
    refine h _ _ _ _ l2 hs2 ?_
    exact Rep.tup (SqT.of upd_same) (hr.mono l2)
  · rw [if_neg hz] at h
    exact h.elim
theorem lst_ok {K : PySem.W.Frag} {xs : List V} {H : Hp} {Q : VK} (h : rn K ct pLst xs H Q) : xs.length ≤ sizeLine ∧ ∀ p, H p = none → Q (.ref p) (upd H p (.lst xs)) := by
  obtain ⟨G, F, ad, m, os, hs, hr, h⟩ := h
  unfold pLst at h
  by_cases hz : os.length ≤ sizeLine
  · rw [if_pos hz] at h
    refine ⟨by rw [hr.length]; exact hz, fun p hp => ?_⟩
    obtain ⟨l2, hs2⟩ := hs.new (o := .lst xs) (c := .lst os) hp ⟨hs.sub.free hp, xs, upd_same, hr.mono ⟨Same.refl _, List.prefix_append _ _⟩⟩
    refine h _ _ _ _ l2 hs2 (Rep.ptr ?_)
    have e : m.length = ad.length := by rw [hs.len]
    rw [e, List.getElem?_append_right (Nat.le_refl _)]
    simp
  · rw [if_neg hz] at h
    exact h.elim
theorem pd_tup {x1} (h : PA X es (tA X.K ct W mes)) : PE X (.Tuple es x1 pos) (tE X.K ct W (mn pTup mes)) :=
  PE.imp (pe_tup h) fun σ H Q z => tG.imp (t_n z) fun xs H1 q => tup_ok q
theorem pd_lst (h : PA X es (tA X.K ct W mes)) : PE X (.List es pos) (tE X.K ct W (mn pLst mes)) :=
  PE.imp (pe_lst h) fun σ H Q z => tG.imp (t_n z) fun xs H1 q => lst_ok q

variable {q' : Pos} {id : String} {T : String} {pn : Pn}
theorem pd_callB (hc : CallR X (.builtin id) (rn X.K ct pn)) (hg : Gl X x) (hm : X.mg x = none) (hv : bootBuiltins x = some (.builtin id)) (ha : PA X (e :: es) (tA X.K ct W mes)) (hn : x ≠ "__name__" := by decide) (hdb : (x == ("__debug__" : Str)) = false := by decide)
    (he : starEach (e :: es) X.env = (false, eval e X.env) :: starEach es X.env := by rfl) (hpl : (backTo pos (starEach es X.env)).any (·.1) = false := by rfl) : PE X (.Call (.Name x q') (e :: es) [] pos) (tE X.K ct W (mn pn mes)) :=
  PE.imp (pe_callB hc hg hm hv ha hn hdb he hpl) fun σ H Q z => t_n z
theorem pd_callTy (hc : CallR X (.type T) (rn X.K ct pn)) (hg : Gl X x) (hm : X.mg x = none) (hv : bootBuiltins x = some (.type T)) (ha : PA X (e :: es) (tA X.K ct W mes)) (hn : x ≠ "__name__" := by decide) (hdb : (x == ("__debug__" : Str)) = false := by decide)
    (he : starEach (e :: es) X.env = (false, eval e X.env) :: starEach es X.env := by rfl) (hpl : (backTo pos (starEach es X.env)).any (·.1) = false := by rfl) : PE X (.Call (.Name x q') (e :: es) [] pos) (tE X.K ct W (mn pn mes)) :=
  PE.imp (pe_callTy hc hg hm hv ha hn hdb he hpl) fun σ H Q z => t_n z
theorem pd_ix (hr : IxR X (r2 X.K ct p)) (ha : PE X a (tE X.K ct W ma)) (hb : PE X b (tE X.K ct W mb)) (hs : PlainIx b) : PE X (.Subscript a b pos) (tE X.K ct W (m2 p ma mb)) :=
  PE.imp (pe_ix hr ha hb hs) fun _ _ _ h => t_2 h
end


mutual
def D.beq : D → D → Bool
  | .non, e => match e with
    | .non => true
    | _ => false
  | .bl a, e => match e with
    | .bl b => a == b
    | _ => false
  | .int a, e => match e with
    | .int b => a == b
    | _ => false
  | .str a, e => match e with
    | .str b => a == b
    | _ => false
  | .tup a, e => match e with
    | .tup b => D.beqL a b
    | _ => false
  | .lst a, e => match e with
    | .lst b => D.beqL a b
    | _ => false
  | .scr a, e => match e with
    | .scr b => a == b
    | _ => false
  | .dic k a, e => match e with
    | .dic k' b => decide (k = k') && D.beqL a b
    | _ => false
  | .dit k a, e => match e with
    | .dit k' b => decide (k = k') && D.beqL a b
    | _ => false
  | .obj c a, e => match e with
    | .obj c' b => c == c' && D.beqL a b
    | _ => false
  | .exc c a, e => match e with
    | .exc c' b => c == c' && D.beqL a b
    | _ => false
  | .ptr k, e => match e with
    | .ptr k' => k == k'
    | _ => false
def D.beqL : List D → List D → Bool
  | [], l => match l with
    | [] => true
    | _ :: _ => false
  | a :: as, l => match l with
    | [] => false
    | b :: bs => D.beq a b && D.beqL as bs
end
mutual
theorem D.beq_eq : ∀ {a b : D}, D.beq a b = true → a = b
  | .non, b, h => by cases b <;> unfold D.beq at h <;> simp at h ⊢
  | .bl a, b, h => by cases b <;> unfold D.beq at h <;> simp at h ⊢; exact h
  | .int a, b, h => by cases b <;> unfold D.beq at h <;> simp at h ⊢; exact h
  | .str a, b, h => by cases b <;> unfold D.beq at h <;> simp at h ⊢; exact h
  | .tup a, b, h => by cases b <;> unfold D.beq at h <;> simp at h ⊢; exact D.beqL_eq h
  | .lst a, b, h => by cases b <;> unfold D.beq at h <;> simp at h ⊢; exact D.beqL_eq h
  | .scr a, b, h => by cases b <;> unfold D.beq at h <;> simp at h ⊢; exact h
  | .dic k a, b, h => by cases b <;> unfold D.beq at h <;> simp at h ⊢; exact ⟨h.1, D.beqL_eq h.2⟩
  | .dit k a, b, h => by cases b <;> unfold D.beq at h <;> simp at h ⊢; exact ⟨h.1, D.beqL_eq h.2⟩
  | .obj k a, b, h => by cases b <;> unfold D.beq at h <;> simp at h ⊢; exact ⟨h.1, D.beqL_eq h.2⟩
  | .exc k a, b, h => by cases b <;> unfold D.beq at h <;> simp at h ⊢; exact ⟨h.1, D.beqL_eq h.2⟩
  | .ptr k, b, h => by cases b <;> unfold D.beq at h <;> simp at h ⊢; exact h
theorem D.beqL_eq : ∀ {a b : List D}, D.beqL a b = true → a = b
  | [], l, h => by cases l <;> unfold D.beqL at h <;> simp at h ⊢
  | a :: as, l, h => by
    cases l with
    | nil => unfold D.beqL at h; simp at h
    | cons b bs =>
      unfold D.beqL at h
      rw [Bool.and_eq_true] at h
      rw [D.beq_eq h.1, D.beqL_eq h.2]
end
mutual
theorem D.beq_refl : ∀ (a : D), D.beq a a = true
  | .non => by unfold D.beq; rfl
  | .bl a => by unfold D.beq; simp
  | .int a => by unfold D.beq; simp
  | .str a => by unfold D.beq; simp
  | .tup a => by unfold D.beq; exact D.beqL_refl a
  | .lst a => by unfold D.beq; exact D.beqL_refl a
  | .scr a => by unfold D.beq; simp
  | .dic k a => by unfold D.beq; simp [D.beqL_refl a]
  | .dit k a => by unfold D.beq; simp [D.beqL_refl a]
  | .obj c a => by unfold D.beq; simp [D.beqL_refl a]
  | .exc c a => by unfold D.beq; simp [D.beqL_refl a]
  | .ptr k => by unfold D.beq; simp
theorem D.beqL_refl : ∀ (a : List D), D.beqL a a = true
  | [] => by unfold D.beqL; rfl
  | a :: as => by
    unfold D.beqL
    show (D.beq a a && D.beqL as as) = true
    rw [D.beq_refl a, D.beqL_refl as]; rfl
end
instance : DecidableEq D := fun a b => if h : D.beq a b = true then .isTrue (D.beq_eq h) else .isFalse fun e => h (e ▸ D.beq_refl a)
def Cell.isL (xs : List D) : Option Cell → Bool
  | some (.lst ys) => D.beqL ys xs
  | _ => false
theorem Cell.isL_iff {xs : List D} {c : Option Cell} : Cell.isL xs c = true ↔ c = some (.lst xs) := by
  unfold Cell.isL
  split
  · exact ⟨fun h => by rw [D.beqL_eq h], fun h => by cases h; exact D.beqL_refl _⟩
  · rename_i h
    exact ⟨fun z => (by cases z), fun z => absurd z (h xs)⟩
end Dl

set_option maxRecDepth 100000
set_option maxHeartbeats 1000000
namespace Dl
open PySem PySem.Spec PyProof.Rows L2


inductive Fl where
  | nx | bk | ct | rt (o : O)
def PostS (K : PySem.W.Frag) (ct : CT) (W : WX) (G : Hp) (F : Hp) (ad : List Addr) (r : R Fl) (D : Ends) : Prop :=
  match r with
  | .ok .nx s => ∀ σ' F' H' ad', Le F ad F' ad' → Sx K ct G F' H' ad' s.mem → En K ct F' ad' σ' s.env → D.nx σ' H'
  | .ok .bk s => ∀ σ' F' H' ad', Le F ad F' ad' → Sx K ct G F' H' ad' s.mem → En K ct F' ad' σ' s.env → D.bk σ' H'
  | .ok .ct s => ∀ σ' F' H' ad', Le F ad F' ad' → Sx K ct G F' H' ad' s.mem → En K ct F' ad' σ' s.env → D.ct σ' H'
  | .ok (.rt o) s => ∀ v F' H' ad', Le F ad F' ad' → Sx K ct G F' H' ad' s.mem → RepO K ct F' ad' o v → D.rt v H'
  | .exc x s => ∀ cls d σ' F' H' ad', Le F ad F' ad' → Sx K ct G F' H' ad' s.mem → En K ct F' ad' σ' s.env → RepX K ct F' ad' x cls d → W cls d σ' H'
  | .bad => False
def tS (K : PySem.W.Frag) (ct : CT) (W : WX) (m : M Fl) : TS := fun D σ H => ∃ G F ad s, Sx K ct G F H ad s.mem ∧ En K ct F ad σ s.env ∧ PostS K ct W G F ad (m s) D
section
variable {K : PySem.W.Frag} {ct : CT} {W : WX} {G F F' H : Hp} {σ : L2.St} {ad ad' : List Addr} {s : S} {D : Ends}
theorem PostS.mono {r : R Fl} (l : Le F ad F' ad') (h : PostS K ct W G F ad r D) : PostS K ct W G F' ad' r D := by
  cases r with
  | ok a s => cases a with
    | nx => exact fun b F2 H2 ad2 l2 => h b F2 H2 ad2 (l.trans l2)
    | bk => exact fun b F2 H2 ad2 l2 => h b F2 H2 ad2 (l.trans l2)
    | ct => exact fun b F2 H2 ad2 l2 => h b F2 H2 ad2 (l.trans l2)
    | rt o => exact fun b F2 H2 ad2 l2 => h b F2 H2 ad2 (l.trans l2)
  | exc x s => exact fun c d σ F2 H2 ad2 l2 => h c d σ F2 H2 ad2 (l.trans l2)
  | bad => exact h
theorem posts_bnd {α β : Type} {ρ : Rl α β} {m : M α} {k : α → M Fl} (hs : Sx K ct G F H ad s.mem) (he : En K ct F ad σ s.env) (h : PostS K ct W G F ad (bnd m k s) D) :
    tG K ct ρ W m σ H fun b H' => ∃ F' ad' s' a, Le F ad F' ad' ∧ Sx K ct G F' H' ad' s'.mem ∧ En K ct F' ad' σ s'.env ∧ ρ F' ad' a b ∧ PostS K ct W G F' ad' (k a s') D := by
  refine ⟨G, F, ad, s, hs, he, ?_⟩
  unfold bnd at h
  cases e : m s with
  | ok a s' =>
    rw [e] at h
    exact fun b F' H' ad' l x y z => ⟨F', ad', s', a, l, x, y, z, h.mono l⟩
  | exc x s' =>
    rw [e] at h
    exact fun c d F2 H2 ad2 l2 a b r => h c d σ F2 H2 ad2 l2 a b r
  | bad =>
    rw [e] at h
    exact h
def sNx : M Fl := ret .nx
def sSeq (a b : M Fl) : M Fl := fun s => match a s with
  | .ok .nx s' => b s'
  | .ok f s' => .ok f s'
  | .exc x s' => .exc x s'
  | .bad => .bad
theorem En.set {i : Nat} {o : O} {v : V} {env : List (Option O)} (h : En K ct F ad σ env) (r : RepO K ct F ad o v) : En K ct F ad (σ.set i (some v)) (env.set i (some o)) := by
  refine ⟨by simp [h.len], fun j o' q => ?_⟩
  by_cases hj : j = i
  · subst hj
    have hlt : j < env.length := by
      have := (List.getElem?_eq_some_iff.mp q).1
      simpa using this
    rw [List.getElem?_set_self hlt] at q
    cases q
    exact ⟨v, by rw [List.getElem?_set_self (by rw [← h.len]; exact hlt)], r⟩
  · rw [List.getElem?_set_ne (Ne.symm hj)] at q
    obtain ⟨u, h1, h2⟩ := h.get j o' q
    exact ⟨u, by rw [List.getElem?_set_ne (Ne.symm hj)]; exact h1, h2⟩
theorem En.forget {i : Nat} {env : List (Option O)} (h : En K ct F ad σ env) : En K ct F ad (σ.set i none) (env.set i none) := by
  refine ⟨by simp [h.len], fun j o' q => ?_⟩
  by_cases hj : j = i
  · subst hj
    have hlt : j < env.length := by
      have := (List.getElem?_eq_some_iff.mp q).1
      simpa using this
    rw [List.getElem?_set_self hlt] at q
    cases q
  · rw [List.getElem?_set_ne (Ne.symm hj)] at q
    obtain ⟨u, h1, h2⟩ := h.get j o' q
    exact ⟨u, by rw [List.getElem?_set_ne (Ne.symm hj)]; exact h1, h2⟩
end
section
variable {X : Cx} {ct : CT} {W : WX} {st : Stmt} {rest : List Stmt} {a b : M Fl} {e : Expr} {me : M O} {pos : Pos} {x : Str}
theorem pds_nil : PSs X [] (tS X.K ct W sNx) := PSs.imp pss_nil fun D σ H h => by
  obtain ⟨G, F, ad, s, hs, he, h⟩ := h
  exact h _ _ _ _ (Le.refl _ _) hs he
theorem pds_cons (h1 : PS X st (tS X.K ct W a)) (h2 : PSs X rest (tS X.K ct W b)) : PSs X (st :: rest) (tS X.K ct W (sSeq a b)) := by
  refine PSs.imp (pss_cons h1 h2) fun D σ H h => ?_
  obtain ⟨G, F, ad, s, hs, he, h⟩ := h
  refine ⟨G, F, ad, s, hs, he, ?_⟩
  unfold sSeq at h
  cases e : a s with
  | ok f s' =>
    rw [e] at h
    cases f with
    | nx => exact fun σ' F' H' ad' l x y => ⟨G, F', ad', s', x, y, h.mono l⟩
    | bk => exact h
    | ct => exact h
    | rt o => exact h
  | exc x s' => rw [e] at h; exact h
  | bad => rw [e] at h; exact h
theorem pds_one (h1 : PS X st (tS X.K ct W a)) : PSs X [st] (tS X.K ct W a) := pss_one h1
theorem pds_doc {z : Str} {j pos'} : PS X (.Expr (.Constant (.str z) j pos) pos') (tS X.K ct W sNx) := PS.imp ps_doc fun D σ H h => by
  obtain ⟨G, F, ad, s, hs, he, h⟩ := h
  exact h _ _ _ _ (Le.refl _ _) hs he
theorem pd_pass : PS X (.Pass pos) (tS X.K ct W sNx) := PS.imp ps_pass fun D σ H h => by
  obtain ⟨G, F, ad, s, hs, he, h⟩ := h
  exact h _ _ _ _ (Le.refl _ _) hs he
def sBk : M Fl := ret .bk
def sCt : M Fl := ret .ct
theorem pd_break : PS X (.Break pos) (tS X.K ct W sBk) := PS.imp ps_break fun D σ H h => by
  obtain ⟨G, F, ad, s, hs, he, h⟩ := h
  exact h _ _ _ _ (Le.refl _ _) hs he
theorem pd_continue : PS X (.Continue pos) (tS X.K ct W sCt) := PS.imp ps_continue fun D σ H h => by
  obtain ⟨G, F, ad, s, hs, he, h⟩ := h
  exact h _ _ _ _ (Le.refl _ _) hs he
def sEx (m : M O) : M Fl := bnd m fun _ => ret .nx
theorem pd_expr (he : PE X e (tE X.K ct W me)) (hs : swapsWith e none pos.line X.env = pure false := by rfl) : PS X (.Expr e pos) (tS X.K ct W (sEx me)) := by
  refine PS.imp (ps_expr he hs) fun D σ H h => ?_
  obtain ⟨G, F, ad, s, hs, he, h⟩ := h
  refine tG.imp (posts_bnd (ρ := RepO X.K ct) hs he h) fun v H1 z => ?_
  obtain ⟨F1, ad1, s1, o, l1, hs1, he1, hr, h1⟩ := z
  exact h1 _ _ _ _ (Le.refl _ _) hs1 he1
def sRt (m : M O) : M Fl := bnd m fun o => ret (.rt o)
theorem pd_ret (he : PE X e (tE X.K ct W me)) : PS X (.Return (some e) pos) (tS X.K ct W (sRt me)) := by
  refine PS.imp (ps_ret he) fun D σ H h => ?_
  obtain ⟨G, F, ad, s, hs, he, h⟩ := h
  refine tG.imp (posts_bnd (ρ := RepO X.K ct) hs he h) fun v H1 z => ?_
  obtain ⟨F1, ad1, s1, o, l1, hs1, he1, hr, h1⟩ := z
  exact h1 _ _ _ _ (Le.refl _ _) hs1 hr
def sRtN : M Fl := ret (.rt (.non))
theorem pd_retN : PS X (.Return none pos) (tS X.K ct W sRtN) := PS.imp ps_retN fun D σ H h => by
  obtain ⟨G, F, ad, s, hs, he, h⟩ := h
  exact h _ _ _ _ (Le.refl _ _) hs .non
theorem pd_if {c : Expr} {A B : List Stmt} {mc : M Bool} (hc : PT X c (tT X.K ct W mc)) (ha : PSs X A (tS X.K ct W a)) (hb : PSs X B (tS X.K ct W b)) : PS X (.If c A B pos) (tS X.K ct W (mIf mc a b)) := by
  refine PS.imp (ps_if hc ha hb) fun D σ H h => ?_
  obtain ⟨G, F, ad, s, hs, he, h⟩ := h
  refine tG.imp (posts_bnd (ρ := rEq) hs he h) fun k H1 z => ?_
  obtain ⟨F1, ad1, s1, o, l1, hs1, he1, hr, h1⟩ := z
  cases (show o = k from hr)
  cases k with
  | false => exact ⟨G, F1, ad1, s1, hs1, he1, h1⟩
  | true => exact ⟨G, F1, ad1, s1, hs1, he1, h1⟩
def sSet (i : Nat) (m : M O) : M Fl := bnd m fun o s => .ok .nx { s with env := s.env.set i (some o) }
theorem pd_set (i : Nat) {pos' : Pos} (hN : X.N.Nodup) (he : PE X e (tE X.K ct W me)) (hi : X.N[i]? = some x := by rfl) (hx : Loc X.env.scope x := by first | exact Or.inl rfl | exact Or.inr rfl) (hs : swapsWith e (some (.Name x pos')) pos.line X.env = pure false := by rfl) (hf : X.fn x = true ∨ X.env.scope.names.lookup x = some .local := by first | exact .inl rfl | exact .inr rfl | assumption) :
    PS X (.Assign [.Name x pos'] e pos) (tS X.K ct W (sSet i me)) := by
  refine PS.imp (ps_set hN hi hx he hs hf) fun D σ H h => ?_
  obtain ⟨G, F, ad, s, hs, he, h⟩ := h
  refine tG.imp (posts_bnd (ρ := RepO X.K ct) hs he h) fun v H1 z => ?_
  obtain ⟨F1, ad1, s1, o, l1, hs1, he1, hr, h1⟩ := z
  exact h1 _ _ _ _ (Le.refl _ _) hs1 (he1.set hr)
abbrev Tg := O → S → Option S
structure But (vs : List Nat) (σ σ' : L2.St) : Prop where
  len : σ'.length = σ.length
  at_ : ∀ j, j ∉ vs → σ'[j]? = σ[j]?
theorem But.trans {vs us : List Nat} {a b c : L2.St} (x : But vs a b) (y : But us b c) : But (vs ++ us) a c := ⟨y.len.trans x.len, fun j hj => by
  simp only [List.mem_append, not_or] at hj
  exact (y.at_ j hj.2).trans (x.at_ j hj.1)⟩
theorem But.set (σ : L2.St) (i : Nat) (v : Option V) : But [i] σ (σ.set i v) := ⟨by simp, fun j hj => List.getElem?_set_ne (fun z => hj (by simp [z]))⟩
theorem But.refl (σ : L2.St) : But [] σ σ := ⟨rfl, fun _ _ => rfl⟩
theorem wipe_get (σ : L2.St) : ∀ (vs : List Nat) (j : Nat), (wipe σ vs)[j]? = if j ∈ vs ∧ j < σ.length then some none else σ[j]?
  | [], j => by simp [wipe]
  | v :: vs, j => by
    unfold wipe
    by_cases hj : v = j
    · subst hj
      by_cases hl : v < σ.length
      · rw [List.getElem?_set_self (by rw [wipe_length]; exact hl), if_pos ⟨List.mem_cons_self, hl⟩]
      · rw [List.getElem?_eq_none (by simpa [wipe_length] using hl), if_neg (fun z => hl z.2), List.getElem?_eq_none (by simpa using hl)]
    · rw [List.getElem?_set_ne hj, wipe_get σ vs j]
      by_cases h : j ∈ vs ∧ j < σ.length
      · rw [if_pos h, if_pos ⟨List.mem_cons_of_mem _ h.1, h.2⟩]
      · rw [if_neg h, if_neg fun z => h ⟨(List.mem_cons.mp z.1).resolve_left (Ne.symm hj), z.2⟩]
theorem But.wipe {vs us : List Nat} {σ σ' : L2.St} (b : But vs σ σ') (h : ∀ j ∈ vs, j ∈ us) : L2.wipe σ' us = L2.wipe σ us := by
  apply List.ext_getElem?
  intro j
  rw [wipe_get, wipe_get, b.len]
  by_cases hj : j ∈ us ∧ j < σ.length
  · rw [if_pos hj, if_pos hj]
  · rw [if_neg hj, if_neg hj]
    by_cases h1 : j ∈ vs
    · have h2 : ¬ j < σ.length := fun z => hj ⟨h j h1, z⟩
      rw [List.getElem?_eq_none (by rw [b.len]; omega), List.getElem?_eq_none (by omega)]
    · exact b.at_ j h1
def tGt (K : PySem.W.Frag) (ct : CT) (vs : List Nat) (g : Tg) : TG := fun v σ H Q => ∃ G F ad s o, Sx K ct G F H ad s.mem ∧ En K ct F ad σ s.env ∧ RepO K ct F ad o v ∧ match g o s with
  | some s' => ∀ σ' F' H' ad', But vs σ σ' → Le F ad F' ad' → Sx K ct G F' H' ad' s'.mem → En K ct F' ad' σ' s'.env → Q σ' H'
  | none => False
theorem PG.imp {e : Expr} {t t' : TG} (h : PG X e t) (q : ∀ v σ H Q, t' v σ H Q → t v σ H Q) : PG X e t' := ⟨fun pins s σ H v u Q I r z => h.run pins s σ H v u Q I r (q v σ H Q z)⟩
theorem PGs.imp {e : List Expr} {t t' : TGs} (h : PGs X e t) (q : ∀ v σ H Q, t' v σ H Q → t v σ H Q) : PGs X e t' := ⟨fun pins s σ H v u Q I r z => h.run pins s σ H v u Q I r (q v σ H Q z)⟩
def gN (i : Nat) : Tg := fun o s => some { s with env := s.env.set i (some o) }
theorem pdg_name (i : Nat) (hN : X.N.Nodup) (hi : X.N[i]? = some x := by rfl) (hx : Loc X.env.scope x := by first | exact Or.inl rfl | exact Or.inr rfl) (hf : X.fn x = true ∨ X.env.scope.names.lookup x = some .local := by first | exact .inl rfl | exact .inr rfl | assumption) : PG X (.Name x pos) (tGt X.K ct [i] (gN i)) :=
  PG.imp (pg_name hN hi hx hf) fun v σ H Q h => by
    obtain ⟨G, F, ad, s, o, hs, he, hr, h⟩ := h
    exact h _ _ _ _ (But.set _ _ _) (Le.refl _ _) hs (he.set hr)
def tGts (K : PySem.W.Frag) (ct : CT) (is : List Nat) (g : List D → S → Option S) : TGs := fun vs σ H Q => ∃ G F ad s ds, Sx K ct G F H ad s.mem ∧ En K ct F ad σ s.env ∧ RepL K ct F ad ds vs ∧ match g ds s with
  | some s' => ∀ σ' F' H' ad', But is σ σ' → Le F ad F' ad' → Sx K ct G F' H' ad' s'.mem → En K ct F' ad' σ' s'.env → Q σ' H'
  | none => False
def gsNil : List D → S → Option S := fun ds s => match ds with
  | [] => some s
  | _ => none
def gsCons (g : Tg) (gs : List D → S → Option S) : List D → S → Option S := fun ds s => match ds with
  | [] => none
  | d :: ds => match g (d) s with
    | some s' => gs ds s'
    | none => none
theorem pdgs_nil : PGs X [] (tGts X.K ct [] gsNil) := PGs.imp pgs_nil fun vs σ H Q h => by
  obtain ⟨G, F, ad, s, ds, hs, he, hr, h⟩ := h
  cases ds with
  | nil =>
    unfold RepL at hr
    exact ⟨hr, h _ _ _ _ (But.refl _) (Le.refl _ _) hs he⟩
  | cons d ds => exact h.elim
theorem pdgs_cons {e : Expr} {es : List Expr} {is js : List Nat} {g : Tg} {gs : List D → S → Option S} (h1 : PG X e (tGt X.K ct is g)) (h2 : PGs X es (tGts X.K ct js gs))
    (hs : (assignEach (e :: es) X.env).map (·.2) = assign e X.env :: (assignEach es X.env).map (·.2) := by rfl) : PGs X (e :: es) (tGts X.K ct (is ++ js) (gsCons g gs)) := by
  refine PGs.imp (pgs_cons h1 h2 hs) fun vs σ H Q h => ?_
  obtain ⟨G, F, ad, s, ds, hs, he, hr, h⟩ := h
  cases ds with
  | nil => exact h.elim
  | cons d ds =>
    obtain ⟨v, r, rfl, hv, ht⟩ := hr.cases_cons
    refine ⟨v, r, rfl, G, F, ad, s, d, hs, he, hv, ?_⟩
    unfold gsCons at h
    simp only at h
    cases q : g (d) s with
    | none => rw [q] at h; exact h.elim
    | some s1 =>
      rw [q] at h
      simp only at h ⊢
      intro σ' F' H' ad' b l hs1 he1
      refine ⟨G, F', ad', s1, ds, hs1, he1, ht.mono l, ?_⟩
      cases q2 : gs ds s1 with
      | none => rw [q2] at h; exact h.elim
      | some s2 =>
        rw [q2] at h
        exact fun σ2 F2 H2 ad2 b2 l2 => h σ2 F2 H2 ad2 (b.trans b2) (l.trans l2)
def gT (n : Nat) (gs : List D → S → Option S) : Tg := fun o s => match o with
  | (.tup ds) => if ds.length = n then gs ds s else none
  | _ => none
theorem pdg_tup {es : List Expr} {k : Nat} {is : List Nat} {gs : List D → S → Option S} {n : Nat} (hc : X.calm = true) (h : PGs X es (tGts X.K ct is gs))
    (hn : (assignEach es X.env).length = n := by rfl) (hst : (assignEach es X.env).findIdx? (·.1) = none := by rfl) : PG X (.Tuple es k pos) (tGt X.K ct is (gT n gs)) := by
  refine PG.imp (pg_tup hc h hn hst) fun v σ H Q h => ?_
  obtain ⟨G, F, ad, s, o, hs, he, hr, h⟩ := h
  cases o with
  | tup ds =>
    obtain ⟨a, vs, rfl, h1, h2⟩ := hr.tup_
    unfold gT at h
    simp only at h
    by_cases hl : ds.length = n
    · rw [if_pos hl] at h
      exact ⟨a, vs, rfl, same_seqT hs.sub h1, by rw [h2.length]; exact hl, G, F, ad, s, ds, hs, he, h2, h⟩
    · rw [if_neg hl] at h; exact h.elim
  | _ => exact h.elim
def sAsg (g : Tg) (m : M O) : M Fl := bnd m fun o s => match g o s with
  | some s' => .ok .nx s'
  | none => .bad
theorem pd_asg {tg : Expr} {is : List Nat} {g : Tg} (he : PE X e (tE X.K ct W me)) (hg : PG X tg (tGt X.K ct is g)) (hs : swapsWithSole [tg] e pos.line X.env = pure false := by rfl) (hw : swappedStores [tg] e X.env = pure none := by rfl)
    (h1 : (assignEach [tg] X.env).map (·.2) = [assign tg X.env] := by rfl) : PS X (.Assign [tg] e pos) (tS X.K ct W (sAsg g me)) := by
  refine PS.imp (ps_asg he hg hs hw h1) fun D σ H h => ?_
  obtain ⟨G, F, ad, s, hs, he, h⟩ := h
  refine tG.imp (posts_bnd (ρ := RepO X.K ct) hs he h) fun v H1 z => ?_
  obtain ⟨F1, ad1, s1, o, l1, hs1, he1, hr, h1⟩ := z
  refine ⟨G, F1, ad1, s1, o, hs1, he1, hr, ?_⟩
  cases q : g o s1 with
  | none => simp only [q] at h1; exact h1.elim
  | some s2 => simp only [q] at h1; exact fun σ' F' H' ad' _ => h1 σ' F' H' ad'
abbrev P3 := O → O → O → Mem → Option Mem
def sSub (p : P3) (mo mi m : M O) : M Fl := bnd m fun v => bnd mo fun o => bnd mi fun i s => match p o i v s.mem with
  | some m' => .ok .nx { s with mem := m' }
  | none => .bad
def r3 (K : PySem.W.Frag) (ct : CT) (p : P3) : TSet := fun x y z H Q => ∃ G F ad M o i u, Sx K ct G F H ad M ∧ RepO K ct F ad o x ∧ RepO K ct F ad i y ∧ RepO K ct F ad u z ∧ match p o i u M with
  | some M' => ∀ F' H' ad', Le F ad F' ad' → Sx K ct G F' H' ad' M' → Q H'
  | none => False
theorem pd_sub {o i : Expr} {mo mi : M O} {p : P3} {opos : Pos} (he : PE X e (tE X.K ct W me)) (ho : PE X o (tE X.K ct W mo)) (hi : PE X i (tE X.K ct W mi)) (hset : PSet X (r3 X.K ct p)) (hs : swapsWithSole [.Subscript o i opos] e pos.line X.env = pure false := by rfl) (hw : swappedStores [.Subscript o i opos] e X.env = pure none := by rfl)
    (ha : ∀ v, assign (.Subscript o i opos) X.env v = (do
      let ov ← holding [v] (eval o X.env)
      let iv ← holding [v, ov] (eval i X.env)
      standAt opos
      holding [v, ov, iv] (setItem ov iv v)
      release [v, ov, iv] []) := by intro _; rfl)
    (h1 : (assignEach [.Subscript o i opos] X.env).map (·.2) = [assign (.Subscript o i opos) X.env] := by rfl) : PS X (.Assign [.Subscript o i opos] e pos) (tS X.K ct W (sSub p mo mi me)) := by
  refine PS.imp (ps_asg he (pg_sub ho hi hset ha) hs hw h1) fun D σ H h => ?_
  obtain ⟨G, F, ad, s, hs, he, h⟩ := h
  refine tG.imp (posts_bnd (ρ := RepO X.K ct) hs he h) fun v H1 z => ?_
  obtain ⟨F1, ad1, s1, u, l1, hs1, he1, hr1, h1⟩ := z
  refine tG.imp (posts_bnd (ρ := RepO X.K ct) hs1 he1 h1) fun ov H2 z => ?_
  obtain ⟨F2, ad2, s2, o2, l2, hs2, he2, hr2, h2⟩ := z
  refine tG.imp (posts_bnd (ρ := RepO X.K ct) hs2 he2 h2) fun iv H3 z => ?_
  obtain ⟨F3, ad3, s3, i3, l3, hs3, he3, hr3, h3⟩ := z
  refine ⟨G, F3, ad3, s3.mem, o2, i3, u, hs3, hr2.mono l3, hr3, hr1.mono (l2.trans l3), ?_⟩
  cases q : p o2 i3 u s3.mem with
  | none => simp only [q] at h3; exact h3.elim
  | some m' =>
    simp only [q] at h3
    exact fun F' H' ad' l x => h3 σ F' H' ad' l x (he3.mono l)
def sAug (i : Nat) (p : P2) (m : M O) : M Fl := bnd (mVar i) fun o => bnd m fun u s => match p o u s.mem with
  | some (r, m') => .ok .nx ⟨s.env.set i (some r), m'⟩
  | none => .bad
def PIpD (X : Cx) (ct : CT) (op : Operator) (p : P2) : Prop := PIp X op (fun x y H Q => r2 X.K ct p x y H Q)
theorem pd_aug (i : Nat) {op : Operator} {p : P2} {pos' : Pos} (hN : X.N.Nodup) (he : PE X e (tE X.K ct W me)) (ho : PIpD X ct op p) (hi : X.N[i]? = some x := by rfl) (hx : Loc X.env.scope x := by first | exact Or.inl rfl | exact Or.inr rfl) (hf : X.fn x = true ∨ X.env.scope.names.lookup x = some .local := by first | exact .inl rfl | exact .inr rfl | assumption) :
    PS X (.AugAssign (.Name x pos') op e pos) (tS X.K ct W (sAug i p me)) := by
  refine PS.imp (ps_aug hN hi hx he ho hf) fun D σ H h => ?_
  obtain ⟨G, F, ad, s, hs, he, h⟩ := h
  unfold sAug bnd mVar at h
  cases e : s.env[i]? with
  | none => simp only [e] at h; exact h.elim
  | some q =>
    cases q with
    | none => simp only [e] at h; exact h.elim
    | some o =>
      simp only [e] at h
      obtain ⟨v, h1, h2⟩ := he.get i o e
      refine ⟨v, h1, ?_⟩
      refine tG.imp (posts_bnd (ρ := RepO X.K ct) (m := me) (k := fun u s => match p o u s.mem with
        | some (r, m') => .ok .nx ⟨s.env.set i (some r), m'⟩
        | none => .bad) hs he h) fun y H1 z => ?_
      obtain ⟨F1, ad1, s1, u, l1, hs1, he1, hr1, h1⟩ := z
      refine ⟨G, F1, ad1, s1.mem, o, u, hs1, h2.mono l1, hr1, ?_⟩
      cases q : p o u s1.mem with
      | none => simp only [q] at h1; exact h1.elim
      | some r =>
        obtain ⟨r, m'⟩ := r
        simp only [q] at h1
        exact fun v F' H' ad' l x hr => h1 _ F' H' ad' l x ((he1.mono l).set hr)
end


structure Walk where
  items : List D
  grd : Option (Nat × List D) := none
def Walk.okB (w : Walk) (m : Mem) : Prop := ∀ k xs, w.grd = some (k, xs) → m[k]? = some (.lst xs)
instance (w : Walk) (m : Mem) : Decidable (w.okB m) := match h : w.grd with
  | none => .isTrue fun k xs e => by rw [h] at e; cases e
  | some (k, xs) => if c : Cell.isL xs m[k]? = true then .isTrue fun k' xs' e => by
      rw [h] at e; cases e
      exact Cell.isL_iff.mp c
    else .isFalse fun z => c (Cell.isL_iff.mpr (z k xs h))
def Dlv (K : PySem.W.Frag) (ct : CT) (F : Hp) (ad : List Addr) (w : Walk) (J : It) : Prop :=
  ∀ (i : Nat) G F' H' ad' M', Le F ad F' ad' → Sx K ct G F' H' ad' M' → w.okB M' →
    (∀ d, w.items[i]? = some d → J.go i H' ∧ ∀ x H'', J.yld i H' x H'' → ∃ F'', Le F' ad' F'' ad' ∧ Sx K ct G F'' H'' ad' M' ∧ Rep K ct F'' ad' d x) ∧ (w.items.length ≤ i → J.stop i H')
def tI (K : PySem.W.Frag) (ct : CT) (W : WX) (m : M Walk) : TI := fun σ H R => ∃ G F ad s, Sx K ct G F H ad s.mem ∧ En K ct F ad σ s.env ∧ match m s with
  | .ok w s' => ∀ J F' H' ad', Le F ad F' ad' → Sx K ct G F' H' ad' s'.mem → En K ct F' ad' σ s'.env → Dlv K ct F' ad' w J → R J H'
  | .exc x s' => ∀ cls d F' H' ad', Le F ad F' ad' → Sx K ct G F' H' ad' s'.mem → En K ct F' ad' σ s'.env → RepX K ct F' ad' x cls d → W cls d σ H'
  | .bad => False
def forL (w : Walk) (g : Tg) (body : M Fl) : List D → M Fl
  | [] => fun s => if w.okB s.mem then .ok .nx s else .bad
  | d :: ds => fun s => if w.okB s.mem then (match g (d) s with
      | some s1 => match body s1 with
        | .ok .nx s2 => forL w g body ds s2
        | .ok .ct s2 => forL w g body ds s2
        | .ok .bk s2 => .ok .nx s2
        | .ok (.rt o) s2 => .ok (.rt o) s2
        | .exc x s2 => .exc x s2
        | .bad => .bad
      | none => .bad) else .bad
def sFor (mi : M Walk) (g : Tg) (body : M Fl) : M Fl := bnd mi fun w => forL w g body w.items
section
variable {X : Cx} {ct : CT} {W : WX} {pos : Pos} {mi : M Walk} {mb : M Fl} {g : Tg}
theorem pd_for {tg iter : Expr} {is : List Nat} {body : List Stmt} (hp : PassesOwn (model X.prog X.w) X.A X.env X.xe) (hc : X.calm = true) (hi : PI X tg iter (tI X.K ct W mi)) (hg : PG X tg (tGt X.K ct is g)) (hb : PSs X body (tS X.K ct W mb))
    (hs : ∀ x, foldedSetIterable iter X.env x = pure x := by intro _; rfl) : PS X (.For tg iter body [] pos) (tS X.K ct W (sFor mi g mb)) := by
  refine PS.imp (ps_for hp hc hi hg hb hs) fun D σ H h => ?_
  obtain ⟨G, F, ad, s, hs, he, h⟩ := h
  refine ⟨G, F, ad, s, hs, he, ?_⟩
  unfold sFor bnd at h
  cases e : mi s with
  | bad => rw [e] at h; exact h
  | exc x s' => rw [e] at h; exact fun c d F2 H2 ad2 l2 a b r => h c d σ F2 H2 ad2 l2 a b r
  | ok w s' =>
    rw [e] at h
    intro J F1 H1 ad1 l1 hs1 he1 dv
    have h1 : PostS X.K ct W G F1 ad1 (forL w g mb w.items s') D := h.mono l1
    clear h
    refine ⟨fun i m σ H => m = w.items.length - i ∧ i ≤ w.items.length ∧ ∃ F2 ad2 s2, Le F1 ad1 F2 ad2 ∧ Sx X.K ct G F2 H ad2 s2.mem ∧ En X.K ct F2 ad2 σ s2.env ∧ PostS X.K ct W G F2 ad2 (forL w g mb (w.items.drop i) s2) D,
      ⟨_, rfl, Nat.zero_le _, F1, ad1, s', Le.refl _ _, hs1, he1, h1⟩, ?_⟩
    rintro i m σ2 H2 ⟨rfl, hi, F2, ad2, s2, l2, hs2, he2, h2⟩
    by_cases hlt : i < w.items.length
    · have hd : w.items.drop i = w.items[i] :: w.items.drop (i + 1) := List.drop_eq_getElem_cons hlt
      rw [hd] at h2
      unfold forL at h2
      by_cases ok : w.okB s2.mem
      · simp only [if_pos ok] at h2
        obtain ⟨go, yl⟩ := (dv i G F2 H2 ad2 s2.mem l2 hs2 ok).1 w.items[i] (by simp [hlt])
        refine .inr ⟨go, fun σ' H' => ∃ m', m' < w.items.length - i ∧ (m' = w.items.length - (i + 1) ∧ i + 1 ≤ w.items.length ∧ ∃ F2 ad2 s2, Le F1 ad1 F2 ad2 ∧ Sx X.K ct G F2 H' ad2 s2.mem ∧ En X.K ct F2 ad2 σ' s2.env ∧ PostS X.K ct W G F2 ad2 (forL w g mb (w.items.drop (i + 1)) s2) D),
          fun σ' H' z => z, fun x H' y => ?_⟩
        obtain ⟨F3, l3, hs3, hr3⟩ := yl x H' y
        refine ⟨G, F3, ad2, s2, w.items[i], hs3, he2.mono l3, hr3, ?_⟩
        cases q : g (w.items[i]) s2 with
        | none => rw [q] at h2; exact h2.elim
        | some s3 =>
          rw [q] at h2
          simp only at h2 ⊢
          intro σ4 F4 H4 ad4 _ l4 hs4 he4
          refine ⟨G, F4, ad4, s3, hs4, he4, ?_⟩
          have l24 := l3.trans l4
          have again : ∀ s5, PostS X.K ct W G F2 ad2 (forL w g mb (w.items.drop (i + 1)) s5) D → ∀ σ' F' H' ad', Le F4 ad4 F' ad' → Sx X.K ct G F' H' ad' s5.mem → En X.K ct F' ad' σ' s5.env →
              ∃ m', m' < w.items.length - i ∧ (m' = w.items.length - (i + 1) ∧ i + 1 ≤ w.items.length ∧ ∃ F2 ad2 s2, Le F1 ad1 F2 ad2 ∧ Sx X.K ct G F2 H' ad2 s2.mem ∧ En X.K ct F2 ad2 σ' s2.env ∧ PostS X.K ct W G F2 ad2 (forL w g mb (w.items.drop (i + 1)) s2) D) :=
            fun s5 p σ' F' H' ad' l x y => ⟨_, by omega, rfl, hlt, F', ad', s5, l2.trans (l24.trans l), x, y, p.mono (l24.trans l)⟩
          cases r : mb s3 with
          | bad => rw [r] at h2; exact h2
          | exc x s5 => rw [r] at h2; exact PostS.mono l24 h2
          | ok f s5 =>
            rw [r] at h2
            cases f with
            | nx => exact again s5 h2
            | ct => exact again s5 h2
            | bk => exact fun σ' F' H' ad' l x y => h2 σ' F' H' ad' (l24.trans l) x y
            | rt o => exact PostS.mono (D := D) l24 h2
      · simp only [if_neg ok] at h2; exact h2.elim
    · have e2 : i = w.items.length := by omega
      subst e2
      rw [List.drop_length] at h2
      unfold forL at h2
      by_cases ok : w.okB s2.mem
      · simp only [if_pos ok] at h2
        exact .inl ⟨(dv _ G F2 H2 ad2 s2.mem l2 hs2 ok).2 (Nat.le_refl _), h2 _ _ _ _ (Le.refl _ _) hs2 he2⟩
      · simp only [if_neg ok] at h2; exact h2.elim
def sWhile (c : M Bool) (body : M Fl) : Nat → M Fl
  | 0 => bad
  | n + 1 => bnd c fun k => if k = true then (fun s => match body s with
      | .ok .nx s2 => sWhile c body n s2
      | .ok .ct s2 => sWhile c body n s2
      | .ok .bk s2 => .ok .nx s2
      | .ok (.rt o) s2 => .ok (.rt o) s2
      | .exc x s2 => .exc x s2
      | .bad => .bad) else ret .nx
theorem pd_while {c : Expr} {body : List Stmt} {mc : M Bool} (n : Nat) (hp : PassesOwn (model X.prog X.w) X.A X.env X.xe) (hc : PT X c (tT X.K ct W mc)) (hb : PSs X body (tS X.K ct W mb)) : PS X (.While c body [] pos) (tS X.K ct W (sWhile mc mb n)) := by
  refine PS.imp (ps_while hp hc hb) fun D σ H h => ?_
  obtain ⟨G, F, ad, s, hs, he, h⟩ := h
  refine ⟨fun m σ H => ∃ G F ad s, Sx X.K ct G F H ad s.mem ∧ En X.K ct F ad σ s.env ∧ PostS X.K ct W G F ad (sWhile mc mb m s) D, ⟨n, G, F, ad, s, hs, he, h⟩, ?_⟩
  clear h he hs
  rintro m σ H ⟨G, F, ad, s, hs, he, h⟩
  cases m with
  | zero => exact h.elim
  | succ m =>
    unfold sWhile at h
    refine tG.imp (posts_bnd (ρ := rEq) hs he h) fun k H1 z => ?_
    obtain ⟨F1, ad1, s1, o, l1, hs1, he1, hr, h1⟩ := z
    cases (show o = k from hr)
    cases k with
    | false =>
      simp only [Bool.false_eq_true, if_false] at h1 ⊢
      exact h1 _ _ _ _ (Le.refl _ _) hs1 he1
    | true =>
      simp only [if_true] at h1 ⊢
      refine ⟨fun σ' H' => ∃ G F ad s, Sx X.K ct G F H' ad s.mem ∧ En X.K ct F ad σ' s.env ∧ PostS X.K ct W G F ad (sWhile mc mb m s) D, fun σ' H' z => ⟨m, Nat.lt_succ_self _, z⟩, G, F1, ad1, s1, hs1, he1, ?_⟩
      cases r : mb s1 with
      | bad => rw [r] at h1; exact h1
      | exc x s5 => rw [r] at h1; exact h1
      | ok f s5 =>
        rw [r] at h1
        cases f with
        | nx => exact fun σ' F' H' ad' l x y => ⟨G, F', ad', s5, x, y, h1.mono l⟩
        | ct => exact fun σ' F' H' ad' l x y => ⟨G, F', ad', s5, x, y, h1.mono l⟩
        | bk => exact h1
        | rt o => exact h1
end
end Dl

set_option maxRecDepth 100000
set_option maxHeartbeats 1000000
namespace Dl
open PySem PySem.Spec PyProof.Rows L2

section
variable {X : Cx} {ct : CT}
theorem OpR.imp {f : Value → Value → Sem Value} {r r' : R2} (h : OpR X f r) (q : ∀ x y H Q, r' x y H Q → r x y H Q) : OpR X f r' := fun pins s σ H x y v u Q I rx ry z => h pins s σ H x y v u Q I rx ry (q _ _ _ _ z)
theorem OpR.or {f : Value → Value → Sem Value} {r r' : R2} (h : OpR X f r) (h' : OpR X f r') : OpR X f (fun x y H Q => r x y H Q ∨ r' x y H Q) := fun pins s σ H x y v u Q I rx ry z =>
  z.elim (fun z => h pins s σ H x y v u Q I rx ry z) fun z => h' pins s σ H x y v u Q I rx ry z
theorem UnR.imp {f : Value → Sem Value} {r r' : V → Hp → VK → Prop} (h : UnR X f r) (q : ∀ x H Q, r' x H Q → r x H Q) : UnR X f r' := fun pins s σ H x v Q I rx z => h pins s σ H x v Q I rx (q _ _ _ z)
theorem CallR.imp {f : Value} {r r' : List V → Hp → VK → Prop} (h : CallR X f r) (q : ∀ xs H Q, r' xs H Q → r xs H Q) : CallR X f r' := fun pins s σ H xs us Q I r z => h pins s σ H xs us Q I r (q _ _ _ z)
theorem IxR.imp {r r' : R2} (h : IxR X r) (q : ∀ x y H Q, r' x y H Q → r x y H Q) : IxR X r' := fun a b pins s σ H x y v u Q I rx ry z w => h a b pins s σ H x y v u Q I rx ry (q _ _ _ _ z) w
theorem MtR.imp {id : String} {r r' : V → List V → Hp → VK → Prop} (h : MtR X id r) (q : ∀ x xs H Q, r' x xs H Q → r x xs H Q) : MtR X id r' := fun pins s σ H x xs v us Q I rx rs z => h pins s σ H x xs v us Q I rx rs (q _ _ _ _ z)
theorem SlR.imp {r r' : V → Option Int → Option Int → Hp → VK → Prop} (h : SlR X r) (q : ∀ x a b H Q, r' x a b H Q → r x a b H Q) : SlR X r' := fun pins s σ H x v vl vu lo hi sl Q I rx hs pl pu z => h pins s σ H x v vl vu lo hi sl Q I rx hs pl pu (q _ _ _ _ _ z)
theorem PSet.imp {r r' : TSet} (h : PSet X r) (q : ∀ x y z H Q, r' x y z H Q → r x y z H Q) : PSet X r' := fun pins s σ H o i v ov iv u Q I r1 r2 r3 z => h pins s σ H o i v ov iv u Q I r1 r2 r3 (q _ _ _ _ _ z)
end


def lstOf : O → Mem → Option (List D)
  | (.lst xs), _ => some xs
  | (.scr ns), _ => some (ns.map D.int)
  | .ptr k, m => match m[k]? with
    | some (.lst xs) => some xs
    | _ => none
  | _, _ => none
def tupOf : O → Option (List D)
  | (.tup xs) => some xs
  | _ => none
def seqOf (o : O) (m : Mem) : Option (List D) := match tupOf o with
  | some xs => some xs
  | none => lstOf o m
section
variable {K : PySem.W.Frag} {ct : CT} {G F H : Hp} {ad : List Addr} {M : Mem} {o u : O} {x y : V} {xs : List D} {Q : VK}
theorem lstOf_ok (hs : Sx K ct G F H ad M) (hr : RepO K ct F ad o x) (h : lstOf o M = some xs) : ∃ a vs, x = .ref a ∧ SqL K H a vs ∧ RepL K ct F ad xs vs := by
  cases o with
  | lst ys =>
    cases h
    obtain ⟨a, vs, rfl, h1, h2⟩ := hr.lst_
    exact ⟨a, vs, rfl, SqL.of (hs.sub _ _ h1), h2⟩
  | scr ns =>
    cases h
    obtain ⟨a, rfl, h1⟩ := hr.scr_
    exact ⟨a, _, rfl, hs.sub.seq h1, .map_int ns⟩
  | ptr k =>
    unfold lstOf at h
    cases e : M[k]? with
    | none => simp only [e] at h; cases h
    | some c =>
      simp only [e] at h
      cases c with
      | lst ys =>
        cases h
        obtain ⟨a, ha, rfl⟩ := hr
        obtain ⟨_, vs, h1, h2⟩ := hs.cel k _ a e ha
        exact ⟨a, vs, rfl, SqL.of h1, h2⟩
      | _ => cases h
  | _ => cases h
theorem tupOf_ok (hs : Sx K ct G F H ad M) (hr : RepO K ct F ad o x) (h : tupOf o = some xs) : ∃ a vs, x = .ref a ∧ SqT K H a vs ∧ RepL K ct F ad xs vs := by
  cases o with
  | tup ys =>
    cases h
    obtain ⟨a, vs, rfl, h1, h2⟩ := hr.tup_
    exact ⟨a, vs, rfl, same_seqT hs.sub h1, h2⟩
  | ptr k => cases h
  | _ => cases h
theorem seqOf_ok (hs : Sx K ct G F H ad M) (hr : RepO K ct F ad o x) (h : seqOf o M = some xs) : ∃ a vs, x = .ref a ∧ (SqL K H a vs ∨ SqT K H a vs) ∧ RepL K ct F ad xs vs := by
  unfold seqOf at h
  cases e : tupOf o with
  | some ys =>
    rw [e] at h; cases h
    obtain ⟨a, vs, h1, h2, h3⟩ := tupOf_ok hs hr e
    exact ⟨a, vs, h1, .inr h2, h3⟩
  | none =>
    rw [e] at h
    obtain ⟨a, vs, h1, h2, h3⟩ := lstOf_ok hs hr h
    exact ⟨a, vs, h1, .inl h2, h3⟩
def ptrL (o : O) (m : Mem) : Option (Nat × List D) := match o with
  | .ptr k => match m[k]? with
    | some (.lst xs) => some (k, xs)
    | _ => none
  | _ => none
theorem ptrL_ok (hs : Sx K ct G F H ad M) (hr : RepO K ct F ad o x) {k : Nat} (h : ptrL o M = some (k, xs)) : ∃ a vs, x = .ref a ∧ ad[k]? = some a ∧ F a = none ∧ H a = some (.lst vs) ∧ RepL K ct F ad xs vs := by
  unfold ptrL at h
  split at h
  · rename_i j
    cases e : M[j]? with
    | none => simp only [e] at h; cases h
    | some c =>
      simp only [e] at h
      cases c with
      | lst ys =>
        cases h
        obtain ⟨a, ha, rfl⟩ := hr
        have hc : CellR K ct F H ad a (.lst xs) := hs.cel _ _ a e ha
        obtain ⟨h0, vs, h1, h2⟩ := hc
        exact ⟨a, vs, rfl, ha, h0, h1, h2⟩
      | _ => cases h
  · cases h
def lstT : O → Mem → Option (List D)
  | (.lst xs), _ => some xs
  | .ptr k, m => match m[k]? with
    | some (.lst xs) => some xs
    | _ => none
  | _, _ => none
theorem lstT_ok (hs : Sx K ct G F H ad M) (hr : RepO K ct F ad o x) (h : lstT o M = some xs) : ∃ a vs, x = .ref a ∧ H a = some (.lst vs) ∧ RepL K ct F ad xs vs := by
  cases o with
  | lst ys =>
    cases h
    obtain ⟨a, vs, rfl, h1, h2⟩ := hr.lst_
    exact ⟨a, vs, rfl, hs.sub _ _ h1, h2⟩
  | ptr k =>
    unfold lstT at h
    cases e : M[k]? with
    | none => simp only [e] at h; cases h
    | some c =>
      simp only [e] at h
      cases c with
      | lst ys =>
        cases h
        obtain ⟨a, ha, rfl⟩ := hr
        obtain ⟨_, vs, h1, h2⟩ := hs.cel k _ a e ha
        exact ⟨a, vs, rfl, h1, h2⟩
      | _ => cases h
  | _ => cases h
theorem PostP.now (hs : Sx K ct G F H ad M) (hr : RepO K ct F ad o x) (h : PostP K ct G F ad (some (o, M)) Q) : Q x H := h _ _ _ _ (Le.refl _ _) hs hr
theorem PostP.newL (hs : Sx K ct G F H ad M) {ds : List D} {vs : List V} (hr : RepL K ct F ad ds vs) (h : PostP K ct G F ad (some (.ptr M.length, M ++ [.lst ds])) Q) : ∀ p, H p = none → Q (.ref p) (upd H p (.lst vs)) := fun p hp => by
  obtain ⟨l2, hs2⟩ := hs.new (o := .lst vs) (c := .lst ds) hp ⟨hs.sub.free hp, vs, upd_same, hr.mono ⟨Same.refl _, List.prefix_append _ _⟩⟩
  refine h _ _ _ _ l2 hs2 ⟨p, ?_, rfl⟩
  rw [← hs.len, List.getElem?_append_right (Nat.le_refl _)]
  simp
theorem PostP.newT (hs : Sx K ct G F H ad M) {ds : List D} {vs : List V} (hr : RepL K ct F ad ds vs) (h : PostP K ct G F ad (some ((.tup ds), M)) Q) : ∀ p, H p = none → Q (.ref p) (upd H p (.tup vs)) := fun p hp => by
  obtain ⟨l2, hs2⟩ := hs.frozen (o := .tup vs) hp
  refine h _ _ _ _ l2 hs2 ?_
  show Rep _ _ _ _ _ _
  unfold Rep
  exact ⟨p, vs, rfl, SqT.of upd_same, hr.mono l2⟩
theorem PostP.wrote (hs : Sx K ct G F H ad M) {k : Nat} {a : Addr} {ds : List D} {vs : List V} (ha : ad[k]? = some a) (hf : F a = none) (hr : RepL K ct F ad ds vs) {o : O} {v : V} (hv : RepO K ct F ad o v)
    (h : PostP K ct G F ad (some (o, M.set k (.lst ds))) Q) : Q v (upd H a (.lst vs)) :=
  h _ _ _ _ (Le.refl _ _) (hs.write ha hf ⟨hf, vs, upd_same, hr⟩) hv
end


def pI2 (C : Int → Int → Bool) (f : Int → Int → Int) : P2 := fun o u m => match o, u with
  | (.int i), (.int j) => if C i j = true then some ((.int (f i j)), m) else none
  | _, _ => none
def pB2 (f : Int → Int → Bool) : P2 := fun o u m => match o, u with
  | (.int i), (.int j) => some ((.bl (f i j)), m)
  | _, _ => none
section
variable {X : Cx} {ct : CT}
theorem pI2_ok {K : PySem.W.Frag} {C : Int → Int → Bool} {f : Int → Int → Int} {x y : V} {H : Hp} {Q : VK} (h : r2 K ct (pI2 C f) x y H Q) : ∃ i j, x = .int i ∧ y = .int j ∧ C i j = true ∧ Q (.int (f i j)) H := by
  obtain ⟨G, F, ad, M, o, u, hs, h1, h2, h⟩ := h
  unfold pI2 at h
  split at h
  · rename_i i j
    by_cases c : C i j = true
    · rw [if_pos c] at h
      exact ⟨i, j, h1.int_, h2.int_, c, PostP.now hs .int h⟩
    · rw [if_neg c] at h; exact h.elim
  · exact h.elim
theorem pB2_ok {K : PySem.W.Frag} {f : Int → Int → Bool} {x y : V} {H : Hp} {Q : VK} (h : r2 K ct (pB2 f) x y H Q) : ∃ i j, x = .int i ∧ y = .int j ∧ Q (.bl (f i j)) H := by
  obtain ⟨G, F, ad, M, o, u, hs, h1, h2, h⟩ := h
  unfold pB2 at h
  split at h
  · rename_i i j
    exact ⟨i, j, h1.int_, h2.int_, PostP.now hs .bl h⟩
  · exact h.elim
def cTrue : Int → Int → Bool := fun _ _ => true
def pSub : P2 := pI2 cTrue (· - ·)
theorem o_sub : OpR X (binaryOp .Sub) (r2 X.K ct pSub) := OpR.imp op_sub fun x y H Q h => by
  obtain ⟨i, j, h1, h2, _, h3⟩ := pI2_ok h
  exact ⟨i, j, h1, h2, h3⟩
def cMul (i j : Int) : Bool := decide ((-(2 ^ 64) < i ∧ i < 2 ^ 64) ∨ (-(2 ^ 64) < j ∧ j < 2 ^ 64)) || decide (i.natAbs.log2 + j.natAbs.log2 < 1000000)
def cDiv (_ j : Int) : Bool := decide (0 < j) && decide (j.natAbs.log2 < 9000)
def cMod (_ j : Int) : Bool := decide (0 < j)
def cPow (i j : Int) : Bool := decide (0 ≤ j ∧ j ≤ 1000000 ∧ i.natAbs < 2 ^ 64)
def pDiv : P2 := pI2 cDiv (· / ·)
theorem o_div : OpR X (binaryOp .FloorDiv) (r2 X.K ct pDiv) := OpR.imp op_fdivW fun x y H Q h => by
  obtain ⟨i, j, h1, h2, hc, h3⟩ := pI2_ok h
  unfold cDiv at hc
  rw [Bool.and_eq_true] at hc
  exact ⟨i, j, h1, h2, ⟨of_decide_eq_true hc.1, of_decide_eq_true hc.2⟩, h3⟩
def pMod : P2 := pI2 cMod (· % ·)
theorem o_mod : OpR X (binaryOp .Mod) (r2 X.K ct pMod) := OpR.imp op_mod fun x y H Q h => by
  obtain ⟨i, j, h1, h2, hc, h3⟩ := pI2_ok h
  exact ⟨i, j, h1, h2, of_decide_eq_true hc, h3⟩
def pPow : P2 := pI2 cPow (fun i j => i ^ j.toNat)
theorem o_pow : OpR X (binaryOp .Pow) (r2 X.K ct pPow) := OpR.imp op_pow fun x y H Q h => by
  obtain ⟨i, j, h1, h2, hc, h3⟩ := pI2_ok h
  exact ⟨i, j, h1, h2, (show 0 ≤ j ∧ j ≤ 1000000 ∧ i.natAbs < 2 ^ 64 from of_decide_eq_true hc), h3⟩
def pLt : P2 := pB2 fun i j => decide (i < j)
def pLe : P2 := pB2 fun i j => decide (i ≤ j)
def pGt : P2 := pB2 fun i j => decide (j < i)
def pGe : P2 := pB2 fun i j => decide (j ≤ i)
theorem o_lt : OpR X (compareOp .Lt) (r2 X.K ct pLt) := OpR.imp op_lt fun x y H Q h => pB2_ok h
theorem o_le : OpR X (compareOp .LtE) (r2 X.K ct pLe) := OpR.imp op_le fun x y H Q h => pB2_ok h
theorem o_gt : OpR X (compareOp .Gt) (r2 X.K ct pGt) := OpR.imp op_gt fun x y H Q h => pB2_ok h
theorem o_ge : OpR X (compareOp .GtE) (r2 X.K ct pGe) := OpR.imp op_ge fun x y H Q h => pB2_ok h
def pNeg : P1 := fun o m => match o with
  | (.int i) => some ((.int (-i)), m)
  | _ => none
theorem o_neg : UnR X (unaryOp .USub) (r1 X.K ct pNeg) := UnR.imp un_neg fun x H Q h => by
  obtain ⟨G, F, ad, M, o, hs, h1, h⟩ := h
  unfold pNeg at h
  split at h
  · exact ⟨_, h1.int_, PostP.now hs .int h⟩
  · exact h.elim


def pAdd : P2 := fun o u m => match o, u with
  | (.int i), (.int j) => some ((.int (i + j)), m)
  | (.str a), (.str b) => if a.length + b.length ≤ sizeLine then some ((.str (a ++ b)), m) else none
  | (.tup xs), (.tup ys) => if xs.length + ys.length ≤ sizeLine then some ((.tup (xs ++ ys)), m) else none
  | o, u => match lstT o m, lstT u m with
    | some xs, some ys => if xs.length + ys.length ≤ sizeLine then some (.ptr m.length, m ++ [.lst (xs ++ ys)]) else none
    | _, _ => none
theorem o_add : OpR X (binaryOp .Add) (r2 X.K ct pAdd) := OpR.imp (OpR.or (OpR.or op_add op_add_str) (OpR.or op_catA op_cat)) fun x y H Q h => by
  obtain ⟨G, F, ad, M, o, u, hs, h1, h2, h⟩ := h
  unfold pAdd at h
  split at h
  · exact .inl (.inl ⟨_, _, h1.int_, h2.int_, PostP.now hs .int h⟩)
  · split at h
    · rename_i hz
      exact .inl (.inr ⟨_, _, h1.str_, h2.str_, hz, PostP.now hs .str h⟩)
    · exact h.elim
  · rename_i xs ys
    split at h
    · rename_i hz
      obtain ⟨a, vs, rfl, q1, q2⟩ := h1.tup_
      obtain ⟨b, us, rfl, q3, q4⟩ := h2.tup_
      have q := q2.append q4
      refine .inr (.inl ⟨a, b, vs, us, rfl, rfl, same_seqT hs.sub q1, same_seqT hs.sub q3, by rw [q2.length, q4.length]; exact hz, fun z => ?_, fun z1 z2 => ?_, fun z1 z2 => ?_⟩)
      · refine PostP.now hs ?_ h
        show Rep _ _ _ _ _ _
        unfold Rep
        refine ⟨b, us, rfl, q3, ?_⟩
        rw [z, List.nil_append] at q; exact q
      · refine PostP.now hs ?_ h
        show Rep _ _ _ _ _ _
        unfold Rep
        refine ⟨a, vs, rfl, q1, ?_⟩
        rw [z2, List.append_nil] at q; exact q
      · exact PostP.newT hs q h
    · exact h.elim
  · split at h
    · rename_i e1 e2
      split at h
      · rename_i hz
        obtain ⟨a, vs, rfl, q1, q2⟩ := lstT_ok hs h1 e1
        obtain ⟨b, us, rfl, q3, q4⟩ := lstT_ok hs h2 e2
        exact .inr (.inr ⟨a, b, vs, us, rfl, rfl, q1, q3, by rw [q2.length, q4.length]; exact hz, PostP.newL hs (q2.append q4) h⟩)
      · exact h.elim
    · exact h.elim
def pMul : P2 := fun o u m => match o, u with
  | (.int i), (.int j) => if cMul i j = true then some ((.int (i * j)), m) else none
  | (.str z), (.int k) => if 0 ≤ k ∧ k < 2 ^ 30 ∧ z.length * k.toNat ≤ sizeLine then some ((.str ⟨(List.replicate k.toNat z.cps.toList).flatten.toArray⟩), m) else none
  | o, (.int k) => match lstT o m with
    | some xs => if -(2 ^ 63) ≤ k ∧ k < 2 ^ 63 ∧ xs.length * k.toNat ≤ sizeLine then some (.ptr m.length, m ++ [.lst (List.replicate k.toNat xs).flatten]) else none
    | none => none
  | _, _ => none
theorem RepL.rep {K : PySem.W.Frag} {F : Hp} {ad : List Addr} {ds : List D} {vs : List V} (h : RepL K ct F ad ds vs) : ∀ n, RepL K ct F ad (List.replicate n ds).flatten (List.replicate n vs).flatten
  | 0 => .nil
  | n + 1 => by
    rw [List.replicate_succ, List.replicate_succ, List.flatten_cons, List.flatten_cons]
    exact h.append (RepL.rep h n)
theorem fold_reps (z : Array Nat) : ∀ (n : Nat) (acc : Array Nat), (List.replicate n z).foldl (· ++ ·) acc = ⟨acc.toList ++ (List.replicate n z.toList).flatten⟩
  | 0, acc => by simp
  | n + 1, acc => by
    rw [List.replicate_succ, List.foldl_cons, fold_reps z n]
    rw [List.replicate_succ, List.flatten_cons]
    simp
theorem op_mul_str : OpR X (binaryOp .Mult) (fun x y H Q => ∃ z k, x = .str z ∧ y = .int k ∧ 0 ≤ k ∧ k < 2 ^ 30 ∧ z.length * k.toNat ≤ sizeLine ∧ Q (.str ⟨(List.replicate k.toNat z.cps.toList).flatten.toArray⟩) H) := by
  intro pins s σ H x y v u Q I rx ry h
  obtain ⟨z, k, rfl, rfl, h0, h1, hz, q⟩ := h
  obtain ⟨t, rfl⟩ := rx
  obtain ⟨t', rfl⟩ := ry
  have fin : ∀ (zz : Str) (tk tk' : Nat), zz = ⟨(List.replicate k.toNat z.cps.toList).flatten.toArray⟩ → EP X pins σ Q (.str zz tk) { s with toks := tk' } := fun zz tk tk' e => ⟨.str zz, H, I.tok _, ⟨_, rfl⟩, by rw [e]; exact q⟩
  refine PySem.P.mul_str ?_ (fun h2 h3 => ?_) (fun h2 h3 => ?_) ?_
  · have e1 : decide (k < -(2 ^ 63 : Int)) = false := decide_eq_false (by omega)
    have e2 : decide (k ≥ 2 ^ 63) = false := decide_eq_false (by omega)
    rw [e1, e2]; rfl
  · have hk : 1 ≤ k := by omega
    have e : (z.length : Int) * k ≤ 16777216 := by
      rw [sizeLine_eq] at hz
      have e1 : ((z.length * k.toNat : Nat) : Int) = (z.length : Int) * k := by rw [Int.natCast_mul, Int.toNat_of_nonneg h0]
      omega
    intro hc
    have hc : (2 ^ 63 - 1) / k < (z.length : Int) := hc
    rw [Int.ediv_lt_iff_lt_mul (by omega)] at hc
    omega
  · unfold Builtin.Str.tooLong
    exact decide_eq_false (by omega)
  · split
    · rename_i h2
      have e : k = 0 := by omega
      exact ⟨by decide, fin _ _ _ (by rw [e]; rfl)⟩
    · split
      · rename_i h2 h3
        rw [Bool.or_eq_true] at h3
        have e2 : z = ⟨(List.replicate k.toNat z.cps.toList).flatten.toArray⟩ := by
          rcases h3 with h3 | h3
          · have e : k = 1 := by simpa using h3
            rw [e]
            obtain ⟨c⟩ := z
            simp [List.replicate_succ]
          · have e : z.length = 0 := by simpa using h3
            obtain ⟨c⟩ := z
            have ec : c.size = 0 := e
            have ec2 : c = #[] := Array.eq_empty_of_size_eq_zero ec
            subst ec2
            simp
        exact ⟨.str z, H, I, ⟨t, rfl⟩, e2.symm ▸ q⟩
      · rw [fold_reps]
        have e : ((⟨(#[] : Array Nat).toList ++ (List.replicate k.toNat z.cps.toList).flatten⟩ : Array Nat)) = (List.replicate k.toNat z.cps.toList).flatten.toArray := by simp
        rw [e]
        refine ⟨?_, fin _ _ _ rfl⟩
        first
          | (show ((List.replicate k.toNat z.cps.toList).flatten.toArray).size ≤ sizeLine
             rw [List.size_toArray, PyProof.Rows.lm_len_rep_flat, Array.length_toList, Nat.mul_comm]; exact hz)
          | skip
theorem o_mul : OpR X (binaryOp .Mult) (r2 X.K ct pMul) := OpR.imp (OpR.or (OpR.or op_mul op_mulW) (OpR.or op_mul_str op_rep)) fun x y H Q h => by
  obtain ⟨G, F, ad, M, o, u, hs, h1, h2, h⟩ := h
  unfold pMul at h
  split at h
  · split at h
    · rename_i i j c
      have q := PostP.now hs .int h
      unfold cMul at c
      rw [Bool.or_eq_true] at c
      rcases c with c | c
      · exact .inl (.inl ⟨i, j, h1.int_, h2.int_, (show (-(2 ^ 64) < i ∧ i < 2 ^ 64) ∨ (-(2 ^ 64) < j ∧ j < 2 ^ 64) from of_decide_eq_true c), q⟩)
      · exact .inl (.inr ⟨i, j, h1.int_, h2.int_, (show i.natAbs.log2 + j.natAbs.log2 < 1000000 from of_decide_eq_true c), q⟩)
    · exact h.elim
  · split at h
    · rename_i z k c
      exact .inr (.inl ⟨z, k, h1.str_, h2.int_, c.1, c.2.1, c.2.2, PostP.now hs .str h⟩)
    · exact h.elim
  · split at h
    · rename_i xs e
      split at h
      · rename_i c
        obtain ⟨a, vs, rfl, q1, q2⟩ := lstT_ok hs h1 e
        exact .inr (.inr ⟨a, _, vs, rfl, h2.int_, q1, c.1, c.2.1, by rw [q2.length]; exact c.2.2, PostP.newL hs (RepL.rep q2 _) h⟩)
      · exact h.elim
    · exact h.elim
  · exact h.elim


mutual
def toW (g : Nat → Option PyData) : D → Option PyData
  | .non => some .none
  | .bl b => some (.bool b)
  | .int i => some (.int i)
  | .str z => some (.str z)
  | .tup xs => match toWL g xs with
    | some ps => some (.tuple ps)
    | none => none
  | .lst xs => match toWL g xs with
    | some ps => some (.list ps)
    | none => none
  | .scr ns => some (.list (ns.map .int))
  | .ptr k => g k
  | .dic _ _ => none
  | .dit _ _ => none
  | .obj _ _ => none
  | .exc _ _ => none
def toWL (g : Nat → Option PyData) : List D → Option (List PyData)
  | [] => some []
  | d :: ds => match toW g d with
    | some p => (match toWL g ds with
      | some ps => some (p :: ps)
      | none => none)
    | none => none
end
def toK (m : Mem) : Nat → Nat → Option PyData
  | 0 => fun _ => none
  | n + 1 => fun k => match m[k]? with
    | some (.lst xs) => (match toWL (toK m n) xs with
      | some ps => some (.list ps)
      | none => none)
    | _ => none
def toP (m : Mem) (d : D) : Option PyData := toW (toK m 20) d
def toPs (m : Mem) (ds : List D) : Option (List PyData) := toWL (toK m 20) ds
theorem dp_ints {K : PySem.W.Frag} {H : Hp} : ∀ ns : List Int, DpAll K H (ns.map V.int) (ns.map PyData.int)
  | [] => .nil
  | n :: ns => .cons (.int n) (dp_ints ns)
def HpOk (K : PySem.W.Frag) (H : Hp) (ad : List Addr) (g : Nat → Option PyData) : Prop := ∀ k a p, ad[k]? = some a → g k = some p → Dp K H (.ref a) p
mutual
theorem Rep.dp {K : PySem.W.Frag} {F H : Hp} {ad : List Addr} {g : Nat → Option PyData} (e : Same F H) (hg : HpOk K H ad g) : ∀ {d : D} {v : V} {p : PyData}, Rep K ct F ad d v → toW g d = some p → Dp K H v p
  | .non, v, p, h, c => by unfold toW at c; cases c; rw [h.non_]; exact .non
  | .bl b, v, p, h, c => by unfold toW at c; cases c; rw [h.bl_]; exact .bl b
  | .int i, v, p, h, c => by unfold toW at c; cases c; rw [h.int_]; exact .int i
  | .str z, v, p, h, c => by unfold toW at c; cases c; rw [h.str_]; exact .str z
  | .tup xs, v, p, h, c => by
    obtain ⟨a, vs, rfl, h1, h2⟩ := h.tup_
    unfold toW at c
    split at c
    · rename_i ps q
      cases c
      exact .tup (same_seqT e h1) (RepL.dp e hg h2 q)
    · cases c
  | .lst xs, v, p, h, c => by
    obtain ⟨a, vs, rfl, h1, h2⟩ := h.lst_
    unfold toW at c
    split at c
    · rename_i ps q
      cases c
      exact .lst (SqL.of (e _ _ h1)) (RepL.dp e hg h2 q)
    · cases c
  | .scr ns, v, p, h, c => by
    obtain ⟨a, rfl, h1⟩ := h.scr_
    unfold toW at c
    cases c
    exact .lst (e.seq h1) (dp_ints ns)
  | .ptr k, v, p, h, c => by
    obtain ⟨a, ha, rfl⟩ := h.ptr_
    unfold toW at c
    exact hg k a p ha c
  | .dic _ _, v, p, h, c => by unfold toW at c; cases c
  | .dit _ _, v, p, h, c => by unfold toW at c; cases c
  | .obj _ _, v, p, h, c => by unfold toW at c; cases c
  | .exc _ _, v, p, h, c => by unfold toW at c; cases c
theorem RepL.dp {K : PySem.W.Frag} {F H : Hp} {ad : List Addr} {g : Nat → Option PyData} (e : Same F H) (hg : HpOk K H ad g) : ∀ {ds : List D} {vs : List V} {ps : List PyData}, RepL K ct F ad ds vs → toWL g ds = some ps → DpAll K H vs ps
  | [], vs, ps, h, c => by unfold RepL at h; subst h; unfold toWL at c; cases c; exact .nil
  | d :: ds, vs, ps, h, c => by
    obtain ⟨v, r, rfl, h1, h2⟩ := h.cases_cons
    unfold toWL at c
    split at c
    · rename_i p q
      split at c
      · rename_i ps' q'
        cases c
        exact .cons (Rep.dp e hg h1 q) (RepL.dp e hg h2 q')
      · cases c
    · cases c
end
theorem toK_ok {K : PySem.W.Frag} {G F H : Hp} {ad : List Addr} {M : Mem} (hs : Sx K ct G F H ad M) : ∀ n, HpOk K H ad (toK M n)
  | 0 => fun k a p ha h => by cases h
  | n + 1 => fun k a p ha h => by
    unfold toK at h
    split at h
    · rename_i xs e
      split at h
      · rename_i ps q
        cases h
        obtain ⟨_, vs, h1, h2⟩ := hs.cel k _ a e ha
        exact .lst (SqL.of h1) (RepL.dp hs.sub (toK_ok hs n) h2 q)
      · cases h
    · cases h
theorem toP_dp {K : PySem.W.Frag} {G F H : Hp} {ad : List Addr} {M : Mem} {o : O} {x : V} {p : PyData} (hs : Sx K ct G F H ad M) (hr : RepO K ct F ad o x) (h : toP M o = some p) : Dp K H x p := Rep.dp hs.sub (toK_ok hs 20) hr h
theorem shaped_lay {d : PyData} (h : SeqAt.shaped d = true) : PyData.canLay0 d = true := SeqAt.canLay_of_shaped h
def eqO (o u : O) (m : Mem) : Option Bool := match o, u with
  | .non, .non => some true
  | .non, (.int _) => some false
  | (.int _), .non => some false
  | .non, (.str _) => some false
  | (.str _), .non => some false
  | (.int i), (.int j) => some (decide (i = j))
  | (.bl i), (.bl j) => some (decide (i = j))
  | (.str i), (.str j) => some (decide (i = j))
  | o, u => match toP m o, toP m u with
    | some d, some e => if SeqAt.shaped d = true ∧ SeqAt.shaped e = true then some (PyData.eqv d e) else none
    | _, _ => none
def pEq : P2 := fun o u m => (eqO o u m).map fun b => ((.bl b), m)
def pNe : P2 := fun o u m => (eqO o u m).map fun b => ((.bl (!b)), m)
theorem eqO_ok {K : PySem.W.Frag} {G F H : Hp} {ad : List Addr} {M : Mem} {o u : O} {x y : V} {b : Bool} (hs : Sx K ct G F H ad M) (h1 : RepO K ct F ad o x) (h2 : RepO K ct F ad u y) (h : eqO o u M = some b) :
    (scal x y = true ∧ b = decide (x = y)) ∨ ∃ d e, Dp K H x d ∧ Dp K H y e ∧ SeqAt.shaped d = true ∧ SeqAt.shaped e = true ∧ b = PyData.eqv d e := by
  unfold eqO at h
  split at h
  · cases h; rw [h1.non_, h2.non_]; exact .inl ⟨rfl, by simp⟩
  · cases h; rw [h1.non_, h2.int_]; exact .inl ⟨rfl, by simp⟩
  · cases h; rw [h1.int_, h2.non_]; exact .inl ⟨rfl, by simp⟩
  · cases h; rw [h1.non_, h2.str_]; exact .inl ⟨rfl, by simp⟩
  · cases h; rw [h1.str_, h2.non_]; exact .inl ⟨rfl, by simp⟩
  · cases h; rw [h1.int_, h2.int_]; exact .inl ⟨rfl, by simp⟩
  · cases h; rw [h1.bl_, h2.bl_]; exact .inl ⟨rfl, by simp⟩
  · cases h; rw [h1.str_, h2.str_]; exact .inl ⟨rfl, by simp⟩
  · split at h
    · rename_i e1 e2
      split at h
      · rename_i c
        cases h
        exact .inr ⟨_, _, toP_dp hs h1 e1, toP_dp hs h2 e2, c.1, c.2, rfl⟩
      · cases h
    · cases h
theorem o_eq (hu : X.A.units + 64 < cLine) : OpR X (compareOp .Eq) (r2 X.K ct pEq) := OpR.imp (OpR.or op_eq (op_eqD hu)) fun x y H Q h => by
  obtain ⟨G, F, ad, M, o, u, hs, h1, h2, h⟩ := h
  unfold pEq at h
  cases e : eqO o u M with
  | none => rw [e] at h; exact h.elim
  | some b =>
    rw [e] at h
    have q := PostP.now hs .bl h
    rcases eqO_ok hs h1 h2 e with ⟨z, rfl⟩ | ⟨d, e', z1, z2, z3, z4, rfl⟩
    · exact .inl ⟨z, q⟩
    · exact .inr ⟨d, e', z1, z2, z3, z4, q⟩
theorem o_ne (hu : X.A.units + 64 < cLine) : OpR X (compareOp .NotEq) (r2 X.K ct pNe) := OpR.imp (OpR.or op_ne (op_neD hu)) fun x y H Q h => by
  obtain ⟨G, F, ad, M, o, u, hs, h1, h2, h⟩ := h
  unfold pNe at h
  cases e : eqO o u M with
  | none => rw [e] at h; exact h.elim
  | some b =>
    rw [e] at h
    have q := PostP.now hs .bl h
    rcases eqO_ok hs h1 h2 e with ⟨z, rfl⟩ | ⟨d, e', z1, z2, z3, z4, rfl⟩
    · exact .inl ⟨z, q⟩
    · exact .inr ⟨d, e', z1, z2, z3, z4, q⟩

def isNone : O → Bool
  | .non => true
  | _ => false
theorem isNone_ok {K : PySem.W.Frag} {F : Hp} {ad : List Addr} {o : O} {x : V} (h : RepO K ct F ad o x) : decide (x = .non) = isNone o := by
  cases o with
  | ptr k =>
    obtain ⟨a, _, rfl⟩ := h
    simp [isNone]
  | non => rw [h.non_]; simp [isNone]
  | bl b => rw [h.bl_]; simp [isNone]
  | int b => rw [h.int_]; simp [isNone]
  | str b => rw [h.str_]; simp [isNone]
  | tup xs => obtain ⟨a, vs, rfl, _⟩ := h.tup_; simp [isNone]
  | lst xs => obtain ⟨a, vs, rfl, _⟩ := h.lst_; simp [isNone]
  | scr xs => obtain ⟨a, rfl, _⟩ := h.scr_; simp [isNone]
  | dic _ _ => have q : Rep _ _ _ _ _ _ := h; unfold Rep at q; obtain ⟨a, vs, rfl, _⟩ := q; simp [isNone]
  | dit _ _ => have q : Rep _ _ _ _ _ _ := h; unfold Rep at q; obtain ⟨a, vs, rfl, _⟩ := q; simp [isNone]
  | obj _ _ => have q : Rep _ _ _ _ _ _ := h; unfold Rep at q; obtain ⟨a, dx, vs, rfl, _⟩ := q; simp [isNone]
  | exc _ _ => have q : Rep _ _ _ _ _ _ := h; unfold Rep at q; obtain ⟨a, dx, vs, rfl, _⟩ := q; simp [isNone]
def pIsN : P2 := fun o u m => match u with
  | .non => some ((.bl (isNone o)), m)
  | _ => none
def pNotN : P2 := fun o u m => match u with
  | .non => some ((.bl (!isNone o)), m)
  | _ => none
theorem o_isN : OpR X (compareOp .Is) (r2 X.K ct pIsN) := OpR.imp op_isN fun x y H Q h => by
  obtain ⟨G, F, ad, M, o, u, hs, h1, h2, h⟩ := h
  unfold pIsN at h
  split at h
  · exact ⟨h2.non_, by rw [isNone_ok h1]; exact PostP.now hs .bl h⟩
  · exact h.elim
theorem o_notN : OpR X (compareOp .IsNot) (r2 X.K ct pNotN) := OpR.imp op_notN fun x y H Q h => by
  obtain ⟨G, F, ad, M, o, u, hs, h1, h2, h⟩ := h
  unfold pNotN at h
  split at h
  · exact ⟨h2.non_, by rw [isNone_ok h1]; exact PostP.now hs .bl h⟩
  · exact h.elim

theorem room_in_shaped' {d : PyData} {n u : Nat} (sd : SeqAt.shaped d = true) (hu : u + 65 < cLine) : u + 1 + min n d.depth < cLine := by
  have h : PyData.depth d ≤ 64 := by
    unfold SeqAt.shaped at sd
    rw [Bool.and_eq_true] at sd
    exact of_decide_eq_true sd.2
  omega
theorem op_inS (hu : X.A.units + 65 < cLine) : OpR X (compareOp .In) (fun x y H Q => ∃ (d : PyData) (ds : List PyData), Dp X.K H x d ∧ (Dp X.K H y (.list ds) ∨ Dp X.K H y (.tuple ds)) ∧ SeqAt.shaped d = true ∧ PyData.canLayAll0 ds = true ∧ Q (.bl (ds.any fun z => PyData.eqv z d)) H) := by
  intro pins s σ H x y v u Q I rx ry h
  obtain ⟨d, ds, hd, he, sd, se, q⟩ := h
  obtain ⟨as, r1⟩ := Dp.reads I d x v hd rx
  rcases he with he | he
  · obtain ⟨bs, r2⟩ := Dp.reads I (.list ds) y u he ry
    exact SeqAt.in_list_reads r2 r1 se (SeqAt.canLay_of_shaped sd) (room_in_shaped' sd hu) ⟨.bl _, H, I, rfl, q⟩
  · obtain ⟨bs, r2⟩ := Dp.reads I (.tuple ds) y u he ry
    exact SeqAt.in_tuple_reads r2 r1 se (SeqAt.canLay_of_shaped sd) (room_in_shaped' sd hu) ⟨.bl _, H, I, rfl, q⟩
theorem op_notInS (hu : X.A.units + 65 < cLine) : OpR X (compareOp .NotIn) (fun x y H Q => ∃ (d : PyData) (ds : List PyData), Dp X.K H x d ∧ (Dp X.K H y (.list ds) ∨ Dp X.K H y (.tuple ds)) ∧ SeqAt.shaped d = true ∧ PyData.canLayAll0 ds = true ∧ Q (.bl (!(ds.any fun z => PyData.eqv z d))) H) := by
  intro pins s σ H x y v u Q I rx ry h
  obtain ⟨d, ds, hd, he, sd, se, q⟩ := h
  obtain ⟨as, r1⟩ := Dp.reads I d x v hd rx
  rcases he with he | he
  · obtain ⟨bs, r2⟩ := Dp.reads I (.list ds) y u he ry
    exact SeqAt.notIn_list_reads r2 r1 se (SeqAt.canLay_of_shaped sd) (room_in_shaped' sd hu) ⟨.bl _, H, I, rfl, q⟩
  · obtain ⟨bs, r2⟩ := Dp.reads I (.tuple ds) y u he ry
    exact SeqAt.notIn_tuple_reads r2 r1 se (SeqAt.canLay_of_shaped sd) (room_in_shaped' sd hu) ⟨.bl _, H, I, rfl, q⟩
def seqP (o : O) (m : Mem) : Option (List PyData) := match seqOf o m with
  | some ds => toPs m ds
  | none => none
def inO (o u : O) (m : Mem) : Option Bool := match o, u with
  | (.str c), (.str z) => match c.cps.toList with
    | [k] => some (decide (k ∈ z.cps.toList))
    | _ => none
  | o, u => match toP m o, seqP u m with
    | some d, some ds => if SeqAt.shaped d = true ∧ PyData.canLayAll0 ds = true then some (ds.any fun z => PyData.eqv z d) else none
    | _, _ => none
def pIn : P2 := fun o u m => (inO o u m).map fun b => ((.bl b), m)
def pNotIn : P2 := fun o u m => (inO o u m).map fun b => ((.bl (!b)), m)
theorem seqOf_dp {K : PySem.W.Frag} {G F H : Hp} {ad : List Addr} {M : Mem} {o : O} {x : V} {ps : List PyData} (hs : Sx K ct G F H ad M) (hr : RepO K ct F ad o x) (h : seqP o M = some ps) : Dp K H x (.list ps) ∨ Dp K H x (.tuple ps) := by
  unfold seqP at h
  split at h
  · rename_i ds e
    obtain ⟨a, vs, rfl, q, r⟩ := seqOf_ok hs hr e
    rcases q with q | q
    · exact .inl (.lst q (RepL.dp hs.sub (toK_ok hs 20) r h))
    · exact .inr (.tup q (RepL.dp hs.sub (toK_ok hs 20) r h))
  · cases h
theorem inO_ok {K : PySem.W.Frag} {G F H : Hp} {ad : List Addr} {M : Mem} {o u : O} {x y : V} {b : Bool} (hs : Sx K ct G F H ad M) (h1 : RepO K ct F ad o x) (h2 : RepO K ct F ad u y) (h : inO o u M = some b) :
    (∃ c z, x = .str ⟨#[c]⟩ ∧ y = .str z ∧ b = decide (c ∈ z.cps.toList)) ∨ ∃ (d : PyData) (ds : List PyData), Dp K H x d ∧ (Dp K H y (.list ds) ∨ Dp K H y (.tuple ds)) ∧ SeqAt.shaped d = true ∧ PyData.canLayAll0 ds = true ∧ b = (ds.any fun z => PyData.eqv z d) := by
  unfold inO at h
  split at h
  · rename_i c z
    split at h
    · rename_i k e
      cases h
      have ec : c = ⟨#[k]⟩ := by
        obtain ⟨cs⟩ := c
        obtain ⟨l⟩ := cs
        simp at e
        rw [e]
      rw [h1.str_, h2.str_, ec]
      exact .inl ⟨k, z, rfl, rfl, rfl⟩
    · cases h
  · split at h
    · rename_i e1 e2
      split at h
      · rename_i c
        cases h
        exact .inr ⟨_, _, toP_dp hs h1 e1, seqOf_dp hs h2 e2, c.1, c.2, rfl⟩
      · cases h
    · cases h
theorem o_in (hu : X.A.units + 65 < cLine) : OpR X (compareOp .In) (r2 X.K ct pIn) := OpR.imp (OpR.or op_in_sign (op_inS hu)) fun x y H Q h => by
  obtain ⟨G, F, ad, M, o, u, hs, h1, h2, h⟩ := h
  unfold pIn at h
  cases e : inO o u M with
  | none => rw [e] at h; exact h.elim
  | some b =>
    rw [e] at h
    have q := PostP.now hs .bl h
    rcases inO_ok hs h1 h2 e with ⟨c, z, e1, e2, rfl⟩ | ⟨d, ds, z1, z2, z3, z4, rfl⟩
    · exact .inl ⟨c, z, e1, e2, q⟩
    · exact .inr ⟨d, ds, z1, z2, z3, z4, q⟩
theorem o_notIn (hu : X.A.units + 65 < cLine) : OpR X (compareOp .NotIn) (r2 X.K ct pNotIn) := OpR.imp (OpR.or op_notIn_sign (op_notInS hu)) fun x y H Q h => by
  obtain ⟨G, F, ad, M, o, u, hs, h1, h2, h⟩ := h
  unfold pNotIn at h
  cases e : inO o u M with
  | none => rw [e] at h; exact h.elim
  | some b =>
    rw [e] at h
    have q := PostP.now hs .bl h
    rcases inO_ok hs h1 h2 e with ⟨c, z, e1, e2, rfl⟩ | ⟨d, ds, z1, z2, z3, z4, rfl⟩
    · exact .inl ⟨c, z, e1, e2, q⟩
    · exact .inr ⟨d, ds, z1, z2, z3, z4, q⟩
end
end Dl

set_option maxRecDepth 100000
set_option maxHeartbeats 1000000
namespace Dl
open PySem PySem.Spec PyProof.Rows L2

section
variable {K : PySem.W.Frag} {ct : CT} {F : Hp} {ad : List Addr}
theorem RepOs.one {o : O} {xs : List V} (h : RepOs K ct F ad [o] xs) : ∃ x, xs = [x] ∧ RepO K ct F ad o x := by
  obtain ⟨v, r, rfl, h1, h2⟩ := h
  exact ⟨v, by rw [show r = [] from h2], h1⟩
theorem RepOs.two {o u : O} {xs : List V} (h : RepOs K ct F ad [o, u] xs) : ∃ x y, xs = [x, y] ∧ RepO K ct F ad o x ∧ RepO K ct F ad u y := by
  obtain ⟨v, r, rfl, h1, h2⟩ := h
  obtain ⟨y, rfl, h3⟩ := RepOs.one h2
  exact ⟨v, y, rfl, h1, h3⟩
theorem RepOs.three {o u w : O} {xs : List V} (h : RepOs K ct F ad [o, u, w] xs) : ∃ x y z, xs = [x, y, z] ∧ RepO K ct F ad o x ∧ RepO K ct F ad u y ∧ RepO K ct F ad w z := by
  obtain ⟨v, r, rfl, h1, h2⟩ := h
  obtain ⟨y, z, rfl, h3, h4⟩ := RepOs.two h2
  exact ⟨v, y, z, rfl, h1, h3, h4⟩
end
section
variable {X : Cx} {ct : CT}
theorem CallR.or {f : Value} {r r' : List V → Hp → VK → Prop} (h : CallR X f r) (h' : CallR X f r') : CallR X f (fun xs H Q => r xs H Q ∨ r' xs H Q) := fun pins s σ H xs us Q I rs z =>
  z.elim (fun z => h pins s σ H xs us Q I rs z) fun z => h' pins s σ H xs us Q I rs z

def pLen : Pn := fun os m => match os with
  | [(.str z)] => if z.length ≤ sizeLine then some ((.int z.length), m) else none
  | [o] => match seqOf o m with
    | some ds => some ((.int ds.length), m)
    | none => none
  | _ => none
theorem c_len : CallR X (.builtin "len") (rn X.K ct pLen) := CallR.imp (CallR.or call_len_str call_len_seq) fun xs H Q h => by
  obtain ⟨G, F, ad, M, os, hs, hr, h⟩ := h
  unfold pLen at h
  split at h
  · split at h
    · rename_i c
      obtain ⟨x, rfl, h1⟩ := hr.one
      cases h1.str_
      exact .inl ⟨_, rfl, c, PostP.now hs .int h⟩
    · exact h.elim
  · split at h
    · rename_i ds e
      obtain ⟨x, rfl, h1⟩ := hr.one
      obtain ⟨a, vs, rfl, q, r⟩ := seqOf_ok hs h1 e
      exact .inr ⟨a, vs, rfl, q, by rw [r.length]; exact PostP.now hs .int h⟩
    · exact h.elim
  · exact h.elim
def pInt : Pn := fun os m => match os with
  | [(.int i)] => some ((.int i), m)
  | [(.bl b)] => some ((.int (if b then 1 else 0)), m)
  | _ => none
theorem c_int : CallR X (.type "int") (rn X.K ct pInt) := CallR.imp call_int1 fun xs H Q h => by
  obtain ⟨G, F, ad, M, os, hs, hr, h⟩ := h
  unfold pInt at h
  split at h
  · obtain ⟨x, rfl, h1⟩ := hr.one
    cases h1.int_
    exact .inl ⟨_, rfl, PostP.now hs .int h⟩
  · obtain ⟨x, rfl, h1⟩ := hr.one
    cases h1.bl_
    exact .inr ⟨_, rfl, PostP.now hs .int h⟩
  · exact h.elim
def pList : Pn := fun os m => match os with
  | [o] => match seqOf o m with
    | some ds => some (.ptr m.length, m ++ [.lst ds])
    | none => none
  | _ => none
theorem c_list : CallR X (.type "list") (rn X.K ct pList) := CallR.imp call_list_of fun xs H Q h => by
  obtain ⟨G, F, ad, M, os, hs, hr, h⟩ := h
  unfold pList at h
  split at h
  · split at h
    · rename_i ds e
      obtain ⟨x, rfl, h1⟩ := hr.one
      obtain ⟨a, vs, rfl, q, r⟩ := seqOf_ok hs h1 e
      exact ⟨a, vs, rfl, q, PostP.newL hs r h⟩
    · exact h.elim
  · exact h.elim
def pTuple : Pn := fun os m => match os with
  | [o] => match seqOf o m with
    | some ds => some ((.tup ds), m)
    | none => none
  | _ => none
theorem c_tuple : CallR X (.type "tuple") (rn X.K ct pTuple) := CallR.imp call_tuple_of fun xs H Q h => by
  obtain ⟨G, F, ad, M, os, hs, hr, h⟩ := h
  unfold pTuple at h
  split at h
  · rename_i o
    obtain ⟨x, rfl, h1⟩ := hr.one
    unfold seqOf at h
    cases et : tupOf o with
    | some ds =>
      rw [et] at h
      have eo : o = (.tup ds) := by
        cases o <;> first | (cases et; rfl) | cases et
      subst eo
      obtain ⟨a, vs, rfl, q, r⟩ := tupOf_ok hs h1 et
      exact ⟨a, vs, rfl, .inr ⟨q, PostP.now hs h1 h⟩⟩
    | none =>
      rw [et] at h
      cases el : lstOf o M with
      | none => simp only [el] at h; exact h.elim
      | some ds =>
        simp only [el] at h
        obtain ⟨a, vs, rfl, q, r⟩ := lstOf_ok hs h1 el
        exact ⟨a, vs, rfl, .inl ⟨q, PostP.newT hs r h⟩⟩
  · exact h.elim
def asInts : List D → Option (List Int)
  | [] => some []
  | .int i :: ds => (asInts ds).map (i :: ·)
  | _ :: _ => none
theorem asInts_ok : ∀ {ds : List D} {ns : List Int}, asInts ds = some ns → ds = ns.map D.int
  | [], ns, h => by cases h; rfl
  | d :: ds, ns, h => by
    cases d with
    | int i =>
      unfold asInts at h
      cases e : asInts ds with
      | none => rw [e] at h; cases h
      | some ms => rw [e] at h; cases h; rw [asInts_ok e]; rfl
    | _ => cases h
theorem RepL.ints {K : PySem.W.Frag} {F : Hp} {ad : List Addr} : ∀ {ns : List Int} {vs : List V}, RepL K ct F ad (ns.map D.int) vs → vs = ns.map V.int
  | [], vs, h => by
    have h : RepL K ct F ad [] vs := h
    unfold RepL at h; exact h
  | n :: ns, vs, h => by
    obtain ⟨v, r, rfl, h1, h2⟩ := RepL.cases_cons (show RepL K ct F ad (D.int n :: ns.map D.int) vs from h)
    unfold Rep at h1
    rw [h1, RepL.ints h2]; rfl
def asBls : List D → Option (List Bool)
  | [] => some []
  | .bl i :: ds => (asBls ds).map (i :: ·)
  | _ :: _ => none
theorem asBls_ok {K : PySem.W.Frag} {F : Hp} {ad : List Addr} : ∀ {ds : List D} {vs : List V} {ns : List Bool}, asBls ds = some ns → RepL K ct F ad ds vs → vs = ns.map V.bl
  | [], vs, ns, h, r => by cases h; unfold RepL at r; exact r
  | d :: ds, vs, ns, h, r => by
    cases d with
    | bl i =>
      unfold asBls at h
      cases e : asBls ds with
      | none => rw [e] at h; cases h
      | some ms =>
        rw [e] at h; cases h
        obtain ⟨v, q, rfl, h1, h2⟩ := r.cases_cons
        unfold Rep at h1
        rw [h1, asBls_ok e h2]; rfl
    | _ => cases h
def pSum : Pn := fun os m => match os with
  | [o] => match seqOf o m with
    | some ds => (asInts ds).map fun ns => ((.int ns.sum), m)
    | none => none
  | _ => none
theorem cr_sumT (hc : X.calm = true) : CallR X (.builtin "sum") (fun vs H Q => ∃ (a : Addr) (ns : List Int), vs = [V.ref a] ∧ SqT X.K H a (ns.map V.int) ∧ Q (.int ns.sum) H) := by
  intro pins s σ H vs us Q I r h
  obtain ⟨a, ns, rfl, hs, q⟩ := h
  obtain ⟨its, rv, ⟨o, ho, hcl, n, hd⟩, _⟩ := I.tuple hs
  rw [Vals.ref1 r]
  have hi := rv.ints
  obtain ⟨xs, e⟩ := hi.allInts.items
  have hn : numsOf (intItems xs).toList = ns := by rw [← e]; exact hi.numsOf
  rw [nums_intItems] at hn
  rw [e] at hd
  refine PySem.W.ktm_sumG (I.ok.hd hc) ⟨o, ho, hcl, n, hd⟩ fun h' tk t' hk => ?_
  refine ⟨.int _, H, I.kept hk, ⟨_, rfl⟩, ?_⟩
  rw [preSum_eq, List.take_of_length_le (by simp), hn]
  exact q
theorem c_sum (hc : X.calm = true) : CallR X (.builtin "sum") (rn X.K ct pSum) := CallR.imp (CallR.or (cr_sum hc) (cr_sumT hc)) fun xs H Q h => by
  obtain ⟨G, F, ad, M, os, hs, hr, h⟩ := h
  unfold pSum at h
  split at h
  · split at h
    · rename_i ds e
      obtain ⟨x, rfl, h1⟩ := hr.one
      obtain ⟨a, vs, rfl, q, r⟩ := seqOf_ok hs h1 e
      cases e2 : asInts ds with
      | none => rw [e2] at h; exact h.elim
      | some ns =>
        rw [e2] at h
        have e3 := asInts_ok e2
        subst e3
        have e4 := r.ints
        subst e4
        rcases q with q | q
        · exact .inl ⟨a, ns, rfl, q, PostP.now hs .int h⟩
        · exact .inr ⟨a, ns, rfl, q, PostP.now hs .int h⟩
    · exact h.elim
  · exact h.elim
def pAll : Pn := fun os m => match os with
  | [o] => match lstOf o m with
    | some ds => (asBls ds).map fun ns => ((.bl (ns.all id)), m)
    | none => none
  | _ => none
def pAny : Pn := fun os m => match os with
  | [o] => match lstOf o m with
    | some ds => (asBls ds).map fun ns => ((.bl (ns.any id)), m)
    | none => none
  | _ => none
theorem c_all (hc : X.calm = true) : CallR X (.builtin "all") (rn X.K ct pAll) := CallR.imp (cr_all hc) fun xs H Q h => by
  obtain ⟨G, F, ad, M, os, hs, hr, h⟩ := h
  unfold pAll at h
  split at h
  · split at h
    · rename_i ds e
      obtain ⟨x, rfl, h1⟩ := hr.one
      obtain ⟨a, vs, rfl, q, r⟩ := lstOf_ok hs h1 e
      cases e2 : asBls ds with
      | none => rw [e2] at h; exact h.elim
      | some ns =>
        rw [e2] at h
        cases asBls_ok e2 r
        exact ⟨a, ns, rfl, q, PostP.now hs .bl h⟩
    · exact h.elim
  · exact h.elim
theorem c_any (hc : X.calm = true) : CallR X (.builtin "any") (rn X.K ct pAny) := CallR.imp (cr_any hc) fun xs H Q h => by
  obtain ⟨G, F, ad, M, os, hs, hr, h⟩ := h
  unfold pAny at h
  split at h
  · split at h
    · rename_i ds e
      obtain ⟨x, rfl, h1⟩ := hr.one
      obtain ⟨a, vs, rfl, q, r⟩ := lstOf_ok hs h1 e
      cases e2 : asBls ds with
      | none => rw [e2] at h; exact h.elim
      | some ns =>
        rw [e2] at h
        cases asBls_ok e2 r
        exact ⟨a, ns, rfl, q, PostP.now hs .bl h⟩
    · exact h.elim
  · exact h.elim
def pMax2 : Pn := fun os m => match os with
  | [(.int i), (.int j)] => some ((.int (if j > i then j else i)), m)
  | _ => none
def pMin2 : Pn := fun os m => match os with
  | [(.int i), (.int j)] => some ((.int (if j < i then j else i)), m)
  | _ => none
theorem c_max2 (hc : X.calm = true) : CallR X (.builtin "max") (rn X.K ct pMax2) := CallR.imp (call_max2 hc) fun xs H Q h => by
  obtain ⟨G, F, ad, M, os, hs, hr, h⟩ := h
  unfold pMax2 at h
  split at h
  · obtain ⟨x, y, rfl, h1, h2⟩ := hr.two
    cases h1.int_
    cases h2.int_
    exact ⟨_, _, rfl, PostP.now hs .int h⟩
  · exact h.elim
theorem c_min2 (hc : X.calm = true) : CallR X (.builtin "min") (rn X.K ct pMin2) := CallR.imp (call_min2 hc) fun xs H Q h => by
  obtain ⟨G, F, ad, M, os, hs, hr, h⟩ := h
  unfold pMin2 at h
  split at h
  · obtain ⟨x, y, rfl, h1, h2⟩ := hr.two
    cases h1.int_
    cases h2.int_
    exact ⟨_, _, rfl, PostP.now hs .int h⟩
  · exact h.elim
def sortI (ns : List Int) : List Int := ns.mergeSort fun a b => decide (a ≤ b)
theorem sortI_perm (ns : List Int) : (sortI ns).Perm ns := List.mergeSort_perm _ _
theorem sortI_sorted (ns : List Int) : (sortI ns).Pairwise (· ≤ ·) := by
  have h := List.pairwise_mergeSort (le := fun a b : Int => decide (a ≤ b)) (fun a b c h1 h2 => by simp at *; omega) (fun a b => by simp; omega) ns
  exact h.imp fun q => by simpa using q
theorem sortI_the {ns ms : List Int} (hp : ms.Perm ns) (hs : ms.Pairwise (· ≤ ·)) : ms = sortI ns :=
  List.Perm.eq_of_pairwise (fun x y _ _ h1 h2 => Int.le_antisymm h1 h2) hs (sortI_sorted ns) (hp.trans (sortI_perm ns).symm)
def pSortI : Pn := fun os m => match os with
  | [o] => match lstOf o m with
    | some ds => (asInts ds).map fun ns => (.ptr m.length, m ++ [.lst ((sortI ns).map D.int)])
    | none => none
  | _ => none
theorem c_sortI : CallR X (.builtin "sorted") (rn X.K ct pSortI) := CallR.imp cr_sortedI fun xs H Q h => by
  obtain ⟨G, F, ad, M, os, hs, hr, h⟩ := h
  unfold pSortI at h
  split at h
  · split at h
    · rename_i ds e
      obtain ⟨x, rfl, h1⟩ := hr.one
      obtain ⟨a, vs, rfl, q, r⟩ := lstOf_ok hs h1 e
      cases e2 : asInts ds with
      | none => rw [e2] at h; exact h.elim
      | some ns =>
        rw [e2] at h
        have e3 := asInts_ok e2
        subst e3
        have e4 := r.ints
        subst e4
        exact ⟨a, ns, rfl, q, fun ns' p hp hsr hn => by
          rw [sortI_the hp hsr]
          exact PostP.newL hs (.map_int _) h p hn⟩
    · exact h.elim
  · exact h.elim

def tyD : D → String
  | .non => "NoneType" | .bl _ => "bool" | .int _ => "int" | .str _ => "str" | .tup _ => "tuple" | .lst _ => "list" | .scr _ => "list" | .dic _ _ => "dict" | .dit _ _ => "dict" | _ => ""
def tyO (o : O) (m : Mem) : Option String := match o with
  | (.obj _ _) => none
  | (.exc _ _) => none
  | .ptr k => match m[k]? with
    | some (.lst _) => some "list"
    | some (.dic _ _) => some "dict"
    | some (.dit _ _) => some "dict"
    | _ => none
  | d => some (tyD d)
def isB (t T : String) : Bool := t == T || (t == "bool" && T == "int")
def tys : List String := ["NoneType", "bool", "int", "str", "tuple", "list", "dict"]
theorem kitB_all : ∀ t ∈ tys, ∀ T ∈ (["bool", "int", "str", "tuple", "list", "dict"] : List String), kitB t T = some (isB t T) := by decide +kernel
theorem tyO_ok {K : PySem.W.Frag} {G F H : Hp} {ad : List Addr} {M : Mem} {o : O} {x : V} {t : String} (hs : Sx K ct G F H ad M) (hr : RepO K ct F ad o x) (h : tyO o M = some t) : TyX K H x (.type t) ∧ t ∈ tys := by
  cases o with
  | ptr k =>
    unfold tyO at h
    cases e : M[k]? with
    | none => simp only [e] at h; cases h
    | some c =>
      simp only [e] at h
      obtain ⟨a, ha, rfl⟩ := hr
      cases c with
      | lst ys =>
        cases h
        obtain ⟨_, vs, h1, h2⟩ := hs.cel k _ a e ha
        exact ⟨.base (.lst h1), by simp [tyD, tys]⟩
      | dic ks ys =>
        cases h
        obtain ⟨_, vs, h1, h2⟩ := hs.cel k _ a e ha
        exact ⟨.base (.dK h1), by simp [tyD, tys]⟩
      | dit ks ys =>
        cases h
        obtain ⟨_, vs, h1, h2⟩ := hs.cel k _ a e ha
        exact ⟨.base (.dT h1), by simp [tyD, tys]⟩
      | _ => cases h
  | non => cases h; cases hr.non_; exact ⟨.base .non, by simp [tyD, tys]⟩
  | bl b => cases h; cases hr.bl_; exact ⟨.base (.bl b), by simp [tyD, tys]⟩
  | int b => cases h; cases hr.int_; exact ⟨.base (.int b), by simp [tyD, tys]⟩
  | str b => cases h; cases hr.str_; exact ⟨.base (.str b), by simp [tyD, tys]⟩
  | tup xs =>
    cases h
    obtain ⟨a, vs, rfl, h1, _⟩ := hr.tup_
    refine ⟨?_, by simp [tyD, tys]⟩
    rcases same_seqT hs.sub h1 with (q | ⟨ob, q⟩) | ⟨ob, its, n, q1, q2, _⟩
    · exact .base (.tup q)
    · exact .fTuple q
    · exact .kTuple q1 q2
  | lst xs =>
    cases h
    obtain ⟨a, vs, rfl, h1, _⟩ := hr.lst_
    exact ⟨.base (.lst (hs.sub _ _ h1)), by simp [tyD, tys]⟩
  | scr xs =>
    cases h
    obtain ⟨a, rfl, h1⟩ := hr.scr_
    refine ⟨?_, by simp [tyD, tys]⟩
    rcases hs.sub.seq h1 with (q | ⟨ob, q⟩) | ⟨ob, its, n, q1, q2, _⟩
    · exact .base (.lst q)
    · exact .base (.frz q)
    · exact .kList q1 q2
  | dic ks xs =>
    cases h
    have q : Rep _ _ _ _ _ _ := hr
    unfold Rep at q
    obtain ⟨a, vs, rfl, h1, _⟩ := q
    exact ⟨.base (.dK (hs.sub _ _ h1)), by simp [tyD, tys]⟩
  | dit ks xs =>
    cases h
    have q : Rep _ _ _ _ _ _ := hr
    unfold Rep at q
    obtain ⟨a, vs, rfl, h1, _⟩ := q
    exact ⟨.base (.dT (hs.sub _ _ h1)), by simp [tyD, tys]⟩
  | obj _ _ => cases h
  | exc _ _ => cases h
def pIsi (T : String) : P1 := fun o m => (tyO o m).map fun t => ((.bl (isB t T)), m)
theorem pd_isi {W : WX} {e : Expr} {me : M O} {x : Str} {q1 q2 pos : Pos} {T : String} (hT : T ∈ (["bool", "int", "str", "tuple", "list", "dict"] : List String)) (hg : Gl X "isinstance") (hm : X.mg "isinstance" = none) (hgT : Gl X x) (hmT : X.mg x = none) (hv : bootBuiltins x = some (.type T)) (he : PE X e (tE X.K ct W me)) (hnT : x ≠ "__name__" := by decide) (hdT : (x == ("__debug__" : Str)) = false := by decide)
    (h1 : starEach [e, .Name x q2] X.env = (false, eval e X.env) :: starEach [.Name x q2] X.env := by rfl) (h2 : starEach [.Name x q2] X.env = (false, eval (.Name x q2) X.env) :: starEach [] X.env := by rfl) (hpl : (backTo pos (starEach [.Name x q2] X.env)).any (·.1) = false := by rfl) :
    PE X (.Call (.Name "isinstance" q1) [e, .Name x q2] [] pos) (tE X.K ct W (m1 (pIsi T) me)) := by
  refine PE.imp (pe_callB call_isi hg hm (by decide +kernel) (pa_cons he (pa_cons (pe_bltn (v := .ty T) hgT hmT hv rfl hnT hdT) pa_nil h2) h1) (by decide) (by decide) h1 hpl) fun σ H Q h => ?_
  refine tG.imp (t_1 h) fun y H1 z => ?_
  obtain ⟨G, F, ad, M, o, hs, hr, h⟩ := z
  unfold pIsi at h
  cases e2 : tyO o M with
  | none => rw [e2] at h; exact h.elim
  | some t =>
    rw [e2] at h
    obtain ⟨t1, t2⟩ := tyO_ok hs hr e2
    exact ⟨y, .ty T, _, _, isB t T, rfl, .ty T, t1, kit_ty (kitB_all t t2 T hT), PostP.now hs .bl h⟩

def pIx : P2 := fun o u m => match u with
  | (.int i) => match o with
    | (.str z) => if z.length ≤ sizeLine then (atI z.cps.toList i).map fun c => ((.str ⟨#[c]⟩), m) else none
    | o => match seqOf o m with
      | some ds => (atI ds i).map fun d => (d, m)
      | none => none
  | _ => none
theorem atI_rep {K : PySem.W.Frag} {F : Hp} {ad : List Addr} {ds : List D} {vs : List V} {i : Int} {d : D} (r : RepL K ct F ad ds vs) (h : atI ds i = some d) : ∃ v, atI vs i = some v ∧ Rep K ct F ad d v := by
  unfold atI at h ⊢
  rw [r.length]
  cases e : ixN ds.length i with
  | none => rw [e] at h; cases h
  | some j =>
    rw [e] at h
    exact r.get h
theorem i_ix : IxR X (r2 X.K ct pIx) := IxR.imp ix_seq fun x y H Q h => by
  obtain ⟨G, F, ad, M, o, u, hs, h1, h2, h⟩ := h
  unfold pIx at h
  split at h
  · rename_i i
    cases h2.int_
    split at h
    · split at h
      · rename_i z c
        cases e : atI z.cps.toList i with
        | none => rw [e] at h; exact h.elim
        | some k =>
          rw [e] at h
          exact .inr (.inr ⟨z, i, k, h1.str_, rfl, c, e, PostP.now hs .str h⟩)
      · exact h.elim
    · split at h
      · rename_i ds e
        cases e2 : atI ds i with
        | none => rw [e2] at h; exact h.elim
        | some d =>
          rw [e2] at h
          obtain ⟨a, vs, rfl, q, r⟩ := seqOf_ok hs h1 e
          obtain ⟨v, e3, r3⟩ := atI_rep r e2
          have z := PostP.now hs (x := v) (show RepO X.K ct F ad (d) v from r3) h
          rcases q with q | q
          · exact .inl ⟨a, vs, i, v, rfl, rfl, q, e3, z⟩
          · exact .inr (.inl ⟨a, vs, i, v, rfl, rfl, q, e3, z⟩)
      · exact h.elim
  · exact h.elim
def mPart (m : Option (M O)) : M (Option Int) := match m with
  | none => ret none
  | some me => bnd me fun o s => match o with
    | (.int i) => .ok (some i) s
    | _ => .bad
theorem pdo_none {W : WX} : PO X none (tG X.K ct rEq W (mPart none)) := ⟨fun pins s σ H Q I h => (po_none (X := X)).run pins s σ H Q I (by
  obtain ⟨G, F, ad, s, hs, he, h⟩ := h
  exact Post.ret (ρ := rEq) hs he rfl h)⟩
theorem pdo_some {W : WX} {e : Expr} {me : M O} (h : PE X e (tE X.K ct W me)) : PO X (some e) (tG X.K ct rEq W (mPart (some me))) := ⟨fun pins s σ H Q I z => (po_some h).run pins s σ H Q I (by
  obtain ⟨G, F, ad, s, hs, he, h⟩ := z
  refine tG.imp (post_bnd (ρ := RepO X.K ct) hs he h) fun x H1 z => ?_
  obtain ⟨F1, ad1, s1, o, l1, hs1, he1, hr, h1⟩ := z
  cases o with
  | int i => exact ⟨i, hr.int_, Post.ret (ρ := rEq) hs1 he1 rfl h1⟩
  | _ => exact h1.elim)⟩
def cutD (ds : List D) (lo hi : Option Int) : List D := (ds.drop (HT.sIx ds.length 0 lo)).take (HT.sIx ds.length ds.length hi - HT.sIx ds.length 0 lo)
theorem RepL.cut {K : PySem.W.Frag} {F : Hp} {ad : List Addr} {ds : List D} {vs : List V} (r : RepL K ct F ad ds vs) (lo hi : Option Int) : RepL K ct F ad (cutD ds lo hi) (cutV vs lo hi) := by
  unfold cutD cutV
  rw [r.length]
  exact (r.drop _).take _
def pSl (o : O) (lo hi : Option Int) : Mem → Pr := fun m => match o with
  | (.str z) => if z.length ≤ sizeLine then some ((.str (cutS z lo hi)), m) else none
  | (.tup ds) => some ((.tup (cutD ds lo hi)), m)
  | o => match lstOf o m with
    | some ds => some (.ptr m.length, m ++ [.lst (cutD ds lo hi)])
    | none => none
def mSl (a : M O) (lo hi : Option (M O)) : M O := bnd a fun o => bnd (mPart lo) fun l => bnd (mPart hi) fun h => pr (pSl o l h)
theorem cut_all (ds : List D) (lo hi : Option Int) (h : HT.sIx ds.length 0 lo = 0 ∧ HT.sIx ds.length ds.length hi = ds.length) : cutD ds lo hi = ds := by
  unfold cutD
  rw [h.1, h.2]
  simp
theorem s_sl {K : PySem.W.Frag} (hK : K = X.K) : SlR X (fun x lo hi H Q => ∃ G F ad M o, Sx K ct G F H ad M ∧ RepO K ct F ad o x ∧ PostP K ct G F ad (pSl o lo hi M) Q) := by
  subst hK
  refine SlR.imp (SlR.or sl_str (SlR.or sl_tupA sl_list)) fun x lo hi H Q h => ?_
  obtain ⟨G, F, ad, M, o, hs, h1, h⟩ := h
  unfold pSl at h
  split at h
  · split at h
    · rename_i c
      exact .inl ⟨_, h1.str_, c, PostP.now hs .str h⟩
    · exact h.elim
  · rename_i ds
    obtain ⟨a, vs, rfl, q, r⟩ := h1.tup_
    refine .inr (.inl ⟨a, vs, rfl, same_seqT hs.sub q, fun z => ?_, fun z => PostP.newT hs (r.cut lo hi) h⟩)
    rw [r.length] at z
    rw [cut_all ds lo hi z] at h
    exact PostP.now hs h1 h
  · split at h
    · rename_i ds e
      obtain ⟨a, vs, rfl, q, r⟩ := lstOf_ok hs h1 e
      exact .inr (.inr ⟨a, vs, rfl, q, PostP.newL hs (r.cut lo hi) h⟩)
    · exact h.elim
theorem pd_sl {W : WX} {e : Expr} {me : M O} {lo hi : Option Expr} {ml mh : Option (M O)} {pos p2 : Pos} (he : PE X e (tE X.K ct W me)) (hl : PO X lo (tG X.K ct rEq W (mPart ml))) (hh : PO X hi (tG X.K ct rEq W (mPart mh))) : PE X (.Subscript e (.Slice lo hi none p2) pos) (tE X.K ct W (mSl me ml mh)) := by
  refine PE.imp (pe_slice (s_sl (ct := ct) rfl) he hl hh) fun σ H Q h => ?_
  obtain ⟨G, F, ad, s, hs, he, h⟩ := h
  refine tG.imp (post_bnd (ρ := RepO X.K ct) hs he h) fun x H1 z => ?_
  obtain ⟨F1, ad1, s1, o, l1, hs1, he1, hr, h1⟩ := z
  refine tG.imp (post_bnd (ρ := rEq) hs1 he1 h1) fun l H2 z => ?_
  obtain ⟨F2, ad2, s2, lo', l2, hs2, he2, hr2, h2⟩ := z
  cases (show lo' = l from hr2)
  refine tG.imp (post_bnd (ρ := rEq) hs2 he2 h2) fun hi' H3 z => ?_
  obtain ⟨F3, ad3, s3, hi2, l3, hs3, he3, hr3, h3⟩ := z
  cases (show hi2 = hi' from hr3)
  exact ⟨G, F3, ad3, s3.mem, o, hs3, hr.mono (l2.trans l3), post_pr he3 h3⟩
def pRev : P1 := fun o m => match lstOf o m with
  | some ds => some (.ptr m.length, m ++ [.lst ds.reverse])
  | none => none
theorem pd_revL {W : WX} {e : Expr} {me : M O} {k : Nat} {p1 p2 p3 pos : Pos} (he : PE X e (tE X.K ct W me)) : PE X (.Subscript e (.Slice none none (some (.UnaryOp .USub (.Constant (.int 1) k p1) p2)) p3) pos) (tE X.K ct W (m1 pRev me)) := by
  refine PE.imp (pe_revL he) fun σ H Q h => tG.imp (t_1 h) fun x H1 z => ?_
  obtain ⟨G, F, ad, M, o, hs, hr, h⟩ := z
  unfold pRev at h
  split at h
  · rename_i ds e
    obtain ⟨a, vs, rfl, q, r⟩ := lstOf_ok hs hr e
    exact ⟨a, vs, rfl, q, PostP.newL hs r.reverse h⟩
  · exact h.elim
def pSetL : P3 := fun o i v m => match i with
  | (.int i) => match ptrL o m with
    | some (k, ds) => match ixN ds.length i with
      | some j => some (m.set k (.lst (ds.set j v)))
      | none => none
    | none => none
  | _ => none
theorem s_setL : PSet X (r3 X.K ct pSetL) := PSet.imp set_list fun x y z H Q h => by
  obtain ⟨G, F, ad, M, o, i, u, hs, h1, h2, h3, h⟩ := h
  unfold pSetL at h
  split at h
  · rename_i m' e
    split at e
    · rename_i k
      cases h2.int_
      split at e
      · rename_i p ds e2
        obtain ⟨a, vs, rfl, ha, hf, hH, r2⟩ := ptrL_ok hs h1 e2
        split at e
        · rename_i j e3
          cases e
          refine ⟨a, vs, k, j, rfl, rfl, hH, by rw [r2.length]; exact e3, ?_⟩
          exact h _ _ _ (Le.refl _ _) (hs.write ha hf ⟨hf, vs.set j z, upd_same, r2.set j h3⟩)
        · cases e
      · cases e
    · cases e
  · exact h.elim

abbrev Pm := O → List O → Mem → Pr
def rm (K : PySem.W.Frag) (ct : CT) (p : Pm) : V → List V → Hp → VK → Prop := fun x xs H Q => ∃ G F ad M o os, Sx K ct G F H ad M ∧ RepO K ct F ad o x ∧ RepOs K ct F ad os xs ∧ PostP K ct G F ad (p o os M) Q
def isTy (T : String) (o : O) (m : Mem) : Bool := match o with
  | (.str _) => T == "str"
  | o => if T = "list" then (lstOf o m).isSome else false
def mMt (T : String) (p : Pm) (mo : M O) (mas : M (List O)) : M O := bnd mo fun o s => if isTy T o s.mem = true then bnd mas (fun os => pr (p o os)) s else .bad
theorem isTy_ok {K : PySem.W.Frag} {G F H : Hp} {ad : List Addr} {M : Mem} {o : O} {x : V} {T : String} (hs : Sx K ct G F H ad M) (hr : RepO K ct F ad o x) (h : isTy T o M = true) : tyV K T x H := by
  unfold isTy at h
  split at h
  · rw [hr.str_]
    show T = "str"
    simpa using h
  · split at h
    · rename_i e
      subst e
      cases e2 : lstOf o M with
      | none => rw [e2] at h; cases h
      | some ds =>
        obtain ⟨a, vs, rfl, q, r⟩ := lstOf_ok hs hr e2
        exact .inl ⟨rfl, vs, q⟩
    · cases h
variable {o e : Expr} {es : List Expr} {mo : M O} {mas : M (List O)} {name : Str} {apos cpos : Pos} {T id : String} {p : Pm} {W : WX}
theorem pd_bm (pa : PlainAttrs T) (slot : Slot T name id) (hty : typeOf (.builtin id) = pure (.type "method_descriptor")) (hm : MtR X id (rm X.K ct p)) (ho : PE X o (tE X.K ct W mo)) (ha : PA X (e :: es) (tA X.K ct W mas))
    (hbase : attributeBase o name X.env (eval o X.env) = eval o X.env := by rfl)
    (hfew : ((backTo cpos (starEach (e :: es) X.env)).all (fun x => !x.1) && (backToKw cpos (keywordEach [] X.env)).all (fun x => x.1.isSome)
      && decide ((e :: es).length + ([] : List Keyword).length + (if ([] : List Keyword).isEmpty then 0 else 1) < 30)) = true := by rfl)
    (hline : (apos.endLine == cpos.line) = true := by rfl) (hs : starEach (e :: es) X.env = (false, eval e X.env) :: starEach es X.env := by rfl) (hplain : (backTo cpos (starEach es X.env)).any (·.1) = false := by rfl) :
    PE X (.Call (.Attribute o name apos) (e :: es) [] cpos) (tE X.K ct W (mMt T p mo mas)) := by
  refine PE.imp (pe_bm pa slot hty hm ho ha hbase hfew hline hs hplain) fun σ H Q h => ?_
  obtain ⟨G, F, ad, s, hs, he, h⟩ := h
  refine tG.imp (post_bnd (ρ := RepO X.K ct) hs he h) fun x H1 z => ?_
  obtain ⟨F1, ad1, s1, o, l1, hs1, he1, hr, h1⟩ := z
  split at h1
  · rename_i c
    refine ⟨isTy_ok hs1 hr c, tG.imp (post_bnd (ρ := RepOs X.K ct) hs1 he1 h1) fun xs H2 z => ?_⟩
    obtain ⟨F2, ad2, s2, os, l2, hs2, he2, hr2, h2⟩ := z
    exact ⟨G, F2, ad2, s2.mem, o, os, hs2, hr.mono l2, hr2, post_pr he2 h2⟩
  · exact h1.elim
theorem pd_bm0 (pa : PlainAttrs T) (slot : Slot T name id) (hty : typeOf (.builtin id) = pure (.type "method_descriptor")) (hm : MtR X id (rm X.K ct p)) (ho : PE X o (tE X.K ct W mo))
    (hbase : attributeBase o name X.env (eval o X.env) = eval o X.env := by rfl) (hline : (apos.endLine == cpos.line) = true := by rfl) : PE X (.Call (.Attribute o name apos) [] [] cpos) (tE X.K ct W (mMt T p mo mNil)) := by
  refine PE.imp (pe_bm0 pa slot hty hm ho hbase hline) fun σ H Q h => ?_
  obtain ⟨G, F, ad, s, hs, he, h⟩ := h
  refine tG.imp (post_bnd (ρ := RepO X.K ct) hs he h) fun x H1 z => ?_
  obtain ⟨F1, ad1, s1, o, l1, hs1, he1, hr, h1⟩ := z
  split at h1
  · rename_i c
    exact ⟨isTy_ok hs1 hr c, G, F1, ad1, s1.mem, o, [], hs1, hr, rfl, post_pr he1 h1⟩
  · exact h1.elim
def pAppend : Pm := fun o os m => match os with
  | [d] => match ptrL o m with
    | some (k, ds) => if ds.length < sizeLine then some (.non, m.set k (.lst (ds ++ [d]))) else none
    | none => none
  | _ => none
theorem m_append : MtR X "list.append" (rm X.K ct pAppend) := MtR.imp mt_append fun x xs H Q h => by
  obtain ⟨G, F, ad, M, o, os, hs, h1, h2, h⟩ := h
  unfold pAppend at h
  split at h
  · rename_i d
    obtain ⟨y, rfl, r1⟩ := h2.one
    split at h
    · rename_i k ds e2
      obtain ⟨a, vs, rfl, ha, hf, hH, r3⟩ := ptrL_ok hs h1 e2
      split at h
      · rename_i c
        refine ⟨a, vs, y, rfl, rfl, hH, by rw [r3.length]; exact c, ?_⟩
        exact h _ _ _ _ (Le.refl _ _) (hs.write ha hf ⟨hf, _, upd_same, r3.append (.cons r1 .nil)⟩) .non
      · exact h.elim
    · exact h.elim
  · exact h.elim
def pPopAt : Pm := fun o os m => match os with
  | [(.int i)] => match ptrL o m with
    | some (k, ds) => if -(2 ^ 63) ≤ i ∧ i < 2 ^ 63 then (match ixN ds.length i with
      | some j => match ds[j]? with
        | some d => some (d, m.set k (.lst (ds.eraseIdx j)))
        | none => none
      | none => none) else none
    | none => none
  | _ => none
theorem m_popAt : MtR X "list.pop" (rm X.K ct pPopAt) := MtR.imp mt_popAt fun x xs H Q h => by
  obtain ⟨G, F, ad, M, o, os, hs, h1, h2, h⟩ := h
  unfold pPopAt at h
  split at h
  · rename_i i
    obtain ⟨y, rfl, r1⟩ := h2.one
    cases r1.int_
    split at h
    · rename_i k ds e
      obtain ⟨a, vs, rfl, ha, hf, hH, r3⟩ := ptrL_ok hs h1 e
      split at h
      · rename_i c
        cases e2 : ixN ds.length i with
        | none => simp only [e2] at h; exact h.elim
        | some j =>
          simp only [e2] at h
          cases e3 : ds[j]? with
          | none => simp only [e3] at h; exact h.elim
          | some d =>
            simp only [e3] at h
            obtain ⟨v, h3, r4⟩ := r3.get e3
            obtain ⟨q1, _⟩ := ixN_seq e2
            exact ⟨a, vs, i, j, v, rfl, rfl, hH, c.1, c.2, by rw [r3.length]; exact q1, h3, PostP.wrote hs ha hf (r3.eraseIdx j) (show RepO X.K ct F ad (d) v from r4) h⟩
      · exact h.elim
    · exact h.elim
  · exact h.elim
def pPop : Pm := fun o os m => match os with
  | [] => match ptrL o m with
    | some (k, ds) => match ds[ds.length - 1]? with
      | some d => some (d, m.set k (.lst ds.dropLast))
      | none => none
    | none => none
  | _ => none
theorem RepL.dropLast {K : PySem.W.Frag} {F : Hp} {ad : List Addr} {ds : List D} {vs : List V} (h : RepL K ct F ad ds vs) : RepL K ct F ad ds.dropLast vs.dropLast := by
  rw [List.dropLast_eq_take, List.dropLast_eq_take, h.length]
  exact h.take _
theorem m_pop : MtR X "list.pop" (rm X.K ct pPop) := MtR.imp mt_pop fun x xs H Q h => by
  obtain ⟨G, F, ad, M, o, os, hs, h1, h2, h⟩ := h
  unfold pPop at h
  split at h
  · have e0 : xs = [] := h2
    subst e0
    split at h
    · rename_i k ds e
      obtain ⟨a, vs, rfl, ha, hf, hH, r3⟩ := ptrL_ok hs h1 e
      cases e3 : ds[ds.length - 1]? with
      | none => simp only [e3] at h; exact h.elim
      | some d =>
        simp only [e3] at h
        obtain ⟨v, h3, r4⟩ := r3.get e3
        exact ⟨a, vs, v, rfl, rfl, hH, by rw [r3.length]; exact h3, PostP.wrote hs ha hf r3.dropLast (show RepO X.K ct F ad (d) v from r4) h⟩
    · exact h.elim
  · exact h.elim
def pReverse : Pm := fun o os m => match os with
  | [] => match ptrL o m with
    | some (k, ds) => some (.non, m.set k (.lst ds.reverse))
    | none => none
  | _ => none
theorem m_reverse : MtR X "list.reverse" (rm X.K ct pReverse) := MtR.imp mt_reverse fun x xs H Q h => by
  obtain ⟨G, F, ad, M, o, os, hs, h1, h2, h⟩ := h
  unfold pReverse at h
  split at h
  · have e0 : xs = [] := h2
    subst e0
    split at h
    · rename_i k ds e
      obtain ⟨a, vs, rfl, ha, hf, hH, r3⟩ := ptrL_ok hs h1 e
      exact ⟨a, vs, rfl, rfl, hH, PostP.wrote hs ha hf r3.reverse .non h⟩
    · exact h.elim
  · exact h.elim
def asStrs : List D → Option (List Str)
  | [] => some []
  | .str i :: ds => (asStrs ds).map (i :: ·)
  | _ :: _ => none
theorem asStrs_ok {K : PySem.W.Frag} {F : Hp} {ad : List Addr} : ∀ {ds : List D} {vs : List V} {ns : List Str}, asStrs ds = some ns → RepL K ct F ad ds vs → vs = ns.map V.str
  | [], vs, ns, h, r => by cases h; unfold RepL at r; exact r
  | d :: ds, vs, ns, h, r => by
    cases d with
    | str i =>
      unfold asStrs at h
      cases e : asStrs ds with
      | none => rw [e] at h; cases h
      | some ms =>
        rw [e] at h; cases h
        obtain ⟨v, q, rfl, h1, h2⟩ := r.cases_cons
        unfold Rep at h1
        rw [h1, asStrs_ok e h2]; rfl
    | _ => cases h
def pJoin : Pm := fun o os m => match o, os with
  | (.str a), [u] => match seqOf u m with
    | some ds => match asStrs ds with
      | some ys => if (ys.map (·.length)).sum + ys.length * a.length ≤ 16777216 then some ((.str (Txt.join a ys)), m) else none
      | none => none
    | none => none
  | _, _ => none
def mMt1 (p : Pm) (mo me : M O) : M O := bnd mo fun o s => match o with
  | (.str _) => bnd me (fun u => pr (p o [u])) s
  | _ => .bad
theorem pd_join {me : M O} (ho : PE X o (tE X.K ct W mo)) (he : PE X e (tE X.K ct W me)) (hs : starEach [e] X.env = [(false, eval e X.env)] := by rfl) (hbase : attributeBase o "join" X.env (eval o X.env) = eval o X.env := by rfl) (hline : (apos.endLine == cpos.line) = true := by rfl) :
    PE X (.Call (.Attribute o "join" apos) [e] [] cpos) (tE X.K ct W (mMt1 pJoin mo me)) := by
  refine PE.imp (pe_join ho he hs hbase hline) fun σ H Q h => ?_
  obtain ⟨G, F, ad, s, hs, he, h⟩ := h
  refine tG.imp (post_bnd (ρ := RepO X.K ct) hs he h) fun x H1 z => ?_
  obtain ⟨F1, ad1, s1, o, l1, hs1, he1, hr, h1⟩ := z
  split at h1
  · rename_i a
    refine ⟨⟨a, hr.str_⟩, tG.imp (post_bnd (ρ := RepO X.K ct) hs1 he1 h1) fun y H2 z => ?_⟩
    obtain ⟨F2, ad2, s2, u, l2, hs2, he2, hr2, h2⟩ := z
    have h3 := post_pr he2 h2
    unfold pJoin at h3
    simp only at h3
    cases e1 : seqOf u s2.mem with
    | none => rw [e1] at h3; exact h3.elim
    | some ds =>
      rw [e1] at h3
      simp only at h3
      cases e2 : asStrs ds with
      | none => rw [e2] at h3; exact h3.elim
      | some ys =>
        rw [e2] at h3
        simp only at h3
        split at h3
        · rename_i c
          obtain ⟨p, vs, rfl, q, r⟩ := seqOf_ok hs2 hr2 e1
          cases asStrs_ok e2 r
          exact ⟨a, p, ys, hr.str_, rfl, q, c, PostP.now hs2 .str h3⟩
        · exact h3.elim
  · exact h1.elim

def pIAdd : P2 := pI2 cTrue (· + ·)
def pISub : P2 := pI2 cTrue (· - ·)
theorem ip_addD : PIpD X ct .Add pIAdd := fun pins s σ H x y v u Q I r1 r2 h => ip_add pins s σ H x y v u Q I r1 r2 (by
  obtain ⟨i, j, h1, h2, _, h3⟩ := pI2_ok h
  exact ⟨i, j, h1, h2, h3⟩)
theorem ip_subD : PIpD X ct .Sub pISub := fun pins s σ H x y v u Q I r1 r2 h => ip_sub pins s σ H x y v u Q I r1 r2 (by
  obtain ⟨i, j, h1, h2, _, h3⟩ := pI2_ok h
  exact ⟨i, j, h1, h2, h3⟩)
end
end Dl

set_option maxRecDepth 100000
set_option maxHeartbeats 1000000
namespace Dl
open PySem PySem.Spec PyProof.Rows L2


def walkOf (o : O) (m : Mem) : Option Walk := match o with
  | .ptr k => match m[k]? with
    | some (.lst xs) => some ⟨xs, some (k, xs)⟩
    | _ => none
  | d => (seqOf (d) m).map fun xs => ⟨xs, none⟩
section
variable {K : PySem.W.Frag} {ct : CT} {G F H : Hp} {ad : List Addr} {M : Mem}
theorem walkOf_ok {o : O} {x : V} {w : Walk} (hs : Sx K ct G F H ad M) (hr : RepO K ct F ad o x) (h : walkOf o M = some w) : ∃ a, x = .ref a ∧
    ((∀ G F' H' ad' M', Le F ad F' ad' → Sx K ct G F' H' ad' M' → w.okB M' → ∃ vs, SqL K H' a vs ∧ RepL K ct F' ad' w.items vs) ∨ (∀ G F' H' ad' M', Le F ad F' ad' → Sx K ct G F' H' ad' M' → w.okB M' → ∃ vs, SqT K H' a vs ∧ RepL K ct F' ad' w.items vs)) ∧ w.okB M := by
  cases o with
  | ptr k =>
    unfold walkOf at h
    cases e : M[k]? with
    | none => simp only [e] at h; cases h
    | some c =>
      simp only [e] at h
      cases c with
      | lst xs =>
        cases h
        obtain ⟨a, ha, rfl⟩ := hr
        refine ⟨a, rfl, .inl fun G F' H' ad' M' l hs' ok => ?_, fun k' xs' q => by cases q; exact e⟩
        obtain ⟨_, vs, h1, h2⟩ := hs'.cel k _ a (ok k xs rfl) (prefix_get l.pre ha)
        exact ⟨vs, SqL.of h1, h2⟩
      | _ => cases h
  | tup ys =>
    cases h
    have okM : Walk.okB ⟨ys, none⟩ M := fun k' xs' q => by cases q
    obtain ⟨a, vs, rfl, q, r⟩ := hr.tup_
    exact ⟨a, rfl, .inr fun G F' H' ad' M' l hs' _ => ⟨vs, same_seqT (l.same.trans hs'.sub) q, r.mono l⟩, okM⟩
  | lst ys =>
    cases h
    have okM : Walk.okB ⟨ys, none⟩ M := fun k' xs' q => by cases q
    obtain ⟨a, vs, rfl, q, r⟩ := hr.lst_
    exact ⟨a, rfl, .inl fun G F' H' ad' M' l hs' _ => ⟨vs, SqL.of (hs'.sub _ _ (l.same _ _ q)), r.mono l⟩, okM⟩
  | scr ns =>
    cases h
    have okM : Walk.okB ⟨ns.map D.int, none⟩ M := fun k' xs' q => by cases q
    obtain ⟨a, rfl, q⟩ := hr.scr_
    exact ⟨a, rfl, .inl fun G F' H' ad' M' l hs' _ => ⟨_, (l.same.trans hs'.sub).seq q, .map_int ns⟩, okM⟩
  | _ => cases h
theorem dlv_list {a : Addr} {w : Walk} (h : ∀ G F' H' ad' M', Le F ad F' ad' → Sx K ct G F' H' ad' M' → w.okB M' → ∃ vs, SqL K H' a vs ∧ RepL K ct F' ad' w.items vs) : Dlv K ct F ad w (Itl K a) := fun i G F' H' ad' M' l hs ok => by
  obtain ⟨vs, q, r⟩ := h G F' H' ad' M' l hs ok
  refine ⟨fun d hd => ?_, fun hl => ⟨vs, q, by rw [r.length]; exact hl⟩⟩
  obtain ⟨v, h1, h2⟩ := r.get hd
  refine ⟨⟨vs, v, q, h1⟩, fun x H'' y => ?_⟩
  obtain ⟨rfl, y⟩ := y
  have e := y vs q
  rw [h1] at e; cases e
  exact ⟨F', Le.refl _ _, hs, h2⟩
theorem dlv_tup {a : Addr} {w : Walk} (h : ∀ G F' H' ad' M', Le F ad F' ad' → Sx K ct G F' H' ad' M' → w.okB M' → ∃ vs, SqT K H' a vs ∧ RepL K ct F' ad' w.items vs) : Dlv K ct F ad w (Itt K a) := fun i G F' H' ad' M' l hs ok => by
  obtain ⟨vs, q, r⟩ := h G F' H' ad' M' l hs ok
  refine ⟨fun d hd => ?_, fun hl => ⟨vs, q, by rw [r.length]; exact hl⟩⟩
  obtain ⟨v, h1, h2⟩ := r.get hd
  refine ⟨⟨vs, v, q, h1⟩, fun x H'' y => ?_⟩
  obtain ⟨rfl, y⟩ := y
  have e := y vs q
  rw [h1] at e; cases e
  exact ⟨F', Le.refl _ _, hs, h2⟩
end
section
variable {X : Cx} {ct : CT} {W : WX} {tg e : Expr} {me : M O}
def iSeq (K : PySem.W.Frag) (tl : TE) : TI := fun σ H R => tl σ H fun x H1 => ∃ a, x = .ref a ∧ (((∃ xs, SqL K H1 a xs) ∧ R (Itl K a) H1) ∨ ((∃ xs, SqT K H1 a xs) ∧ R (Itt K a) H1))
theorem pi_seq {tl : TE} (hl : PE X e tl) : PI X tg e (iSeq X.K tl) := by
  refine ⟨fun pins s σ H R I h => ?_⟩
  refine thn (hl.run pins s σ H _ I h) fun v s1 ⟨x, H1, I1, r1, q1⟩ => ?_
  obtain ⟨a, e, q⟩ := q1
  subst e
  cases r1
  have fp : ∀ b ∈ [s1.heap.objs.size], FpOk X pins H1 b := fun b hb => by
    have e : b = s1.heap.objs.size := by simpa using hb
    subst e
    exact I1.fpOk (Nat.le_refl _) (I1.hok.fresh (Nat.le_refl _))
  rcases q with ⟨⟨xs, hq⟩, q⟩ | ⟨⟨xs, hq⟩, q⟩
  · obtain ⟨its, rv, p, hz⟩ := I1.list hq
    refine wpAny_pyIter_list p.isList ?_
    exact ⟨s1.heap.objs.size, [s1.heap.objs.size], _, _, H1, rfl, I1.kept (t' := s1.toks) fun b o e => Heap.get?_push_of_some _ e, turn_list a _, ⟨_, Heap.get?_push_size _ rfl, rfl, rfl⟩, fp, q⟩
  · obtain ⟨its, rv, p, hz⟩ := I1.tuple hq
    refine wpAny_pyIter_tuple (show s1.heap.IsTuple a its.toArray from p) ?_
    exact ⟨s1.heap.objs.size, [s1.heap.objs.size], _, _, H1, rfl, I1.kept (t' := s1.toks) fun b o e => Heap.get?_push_of_some _ e, turn_tuple a _, ⟨_, Heap.get?_push_size _ rfl, rfl, rfl⟩, fp, q⟩
def wk (m : M O) (f : O → Mem → Option Walk) : M Walk := bnd m fun o s => match f o s.mem with
  | some w => .ok w s
  | none => .bad
theorem t_wk {K : PySem.W.Frag} {f : O → Mem → Option Walk} {σ : L2.St} {H : Hp} {R : It → Hp → Prop} (h : tI K ct W (wk me f) σ H R) : tE K ct W me σ H fun x H1 => ∃ G F ad M o w, Sx K ct G F H1 ad M ∧ RepO K ct F ad o x ∧ f o M = some w ∧ ∀ J, Dlv K ct F ad w J → R J H1 := by
  obtain ⟨G, F, ad, s, hs, he, h⟩ := h
  refine ⟨G, F, ad, s, hs, he, ?_⟩
  unfold wk bnd at h
  cases q : me s with
  | bad => rw [q] at h; exact h
  | exc x s' => rw [q] at h; exact h
  | ok o s' =>
    rw [q] at h
    intro v F' H' ad' l x y z
    cases e : f o s'.mem with
    | none => simp only [e] at h
    | some w =>
      simp only [e] at h
      exact ⟨G, F', ad', s'.mem, o, w, x, z, e, fun J dv => h J F' H' ad' l x y dv⟩
theorem pdi_seq (he : PE X e (tE X.K ct W me)) : PI X tg e (tI X.K ct W (wk me walkOf)) := PI.imp (pi_seq he) fun σ H R h => tG.imp (t_wk h) fun x H1 z => by
  obtain ⟨G, F, ad, M, o, w, hs, hr, e, k⟩ := z
  obtain ⟨a, rfl, q, ok⟩ := walkOf_ok hs hr e
  refine ⟨a, rfl, ?_⟩
  rcases q with q | q
  · obtain ⟨vs, q1, _⟩ := q G F H1 ad M (Le.refl _ _) hs ok
    exact .inl ⟨⟨vs, q1⟩, k _ (dlv_list q)⟩
  · obtain ⟨vs, q1, _⟩ := q G F H1 ad M (Le.refl _ _) hs ok
    exact .inr ⟨⟨vs, q1⟩, k _ (dlv_tup q)⟩
def signs (z : Str) : List D := z.cps.toList.map fun c => D.str ⟨#[c]⟩
def walkStr : O → Mem → Option Walk := fun o _ => match o with
  | (.str z) => some ⟨signs z, none⟩
  | _ => none
theorem pdi_str (he : PE X e (tE X.K ct W me)) : PI X tg e (tI X.K ct W (wk me walkStr)) := PI.imp (pi_str he) fun σ H R h => tG.imp (t_wk h) fun x H1 z => by
  obtain ⟨G, F, ad, M, o, w, hs, hr, e, k⟩ := z
  unfold walkStr at e
  split at e
  · rename_i z
    cases e
    refine ⟨z, hr.str_, k _ fun i G F' H' ad' M' l hs' ok => ⟨fun d hd => ?_, fun hl => ?_⟩⟩
    · have hi : i < z.cps.size := by
        have := (List.getElem?_eq_some_iff.mp hd).1
        simpa [signs] using this
      refine ⟨hi, fun x H'' y => ?_⟩
      obtain ⟨rfl, c, hc, rfl⟩ := y
      have e : (signs z)[i]? = some (D.str ⟨#[c]⟩) := by
        unfold signs
        rw [List.getElem?_map]
        have : z.cps.toList[i]? = some c := by simpa using hc
        rw [this]; rfl
      have e2 : d = D.str ⟨#[c]⟩ := Option.some.inj (hd.symm.trans e)
      subst e2
      exact ⟨F', Le.refl _ _, hs', by unfold Rep; rfl⟩
    · have hl : (signs z).length ≤ i := hl
      show z.cps.size ≤ i
      simpa [signs] using hl
  · cases e
def rangeD (lo : Int) (n : Nat) : List D := (List.range n).map fun (i : Nat) => D.int (lo + (i : Int))
theorem dlv_range {K : PySem.W.Frag} {F : Hp} {ad : List Addr} (lo : Int) (n : Nat) : Dlv K ct F ad ⟨rangeD lo n, none⟩ (Itr lo n) := fun i G F' H' ad' M' l hs' ok => by
  refine ⟨fun d hd => ?_, fun hl => ?_⟩
  · have hd : (rangeD lo n)[i]? = some d := hd
    have hi : i < n := by
      have := (List.getElem?_eq_some_iff.mp hd).1
      simpa [rangeD] using this
    refine ⟨hi, fun x H'' y => ?_⟩
    obtain ⟨rfl, rfl⟩ := y
    have e : (rangeD lo n)[i]? = some (D.int (lo + (i : Int))) := by
      unfold rangeD
      rw [List.getElem?_map, List.getElem?_range hi]; rfl
    rw [hd] at e
    cases e
    exact ⟨F', Le.refl _ _, hs', by unfold Rep; rfl⟩
  · have hl : (rangeD lo n).length ≤ i := hl
    show n ≤ i
    simpa [rangeD] using hl
def rgOk (i : Int) : Bool := decide (-(2 ^ 62) ≤ i) && decide (i < 2 ^ 62)
def mRng1 (a : M O) : M Walk := bnd a fun o s => match o with
  | (.int j) => if rgOk j = true then .ok ⟨rangeD 0 j.toNat, none⟩ s else .bad
  | _ => .bad
def mRng2 (a b : M O) : M Walk := bnd a fun o => bnd b fun u s => match o, u with
  | (.int i), (.int j) => if rgOk i = true ∧ rgOk j = true then .ok ⟨rangeD i (j - i).toNat, none⟩ s else .bad
  | _, _ => .bad
theorem rgOk_ok {i : Int} (h : rgOk i = true) : -(2 ^ 62) ≤ i ∧ i < 2 ^ 62 := by
  unfold rgOk at h
  rw [Bool.and_eq_true] at h
  exact ⟨of_decide_eq_true h.1, of_decide_eq_true h.2⟩
theorem tI_bnd {α β : Type} {ρ : Rl α β} {K : PySem.W.Frag} {m : M α} {k : α → M Walk} {G F H : Hp} {ad : List Addr} {s : S} {σ : L2.St} {R : It → Hp → Prop} (hs : Sx K ct G F H ad s.mem) (he : En K ct F ad σ s.env)
    (h : match bnd m k s with
      | .ok w s' => ∀ J F' H' ad', Le F ad F' ad' → Sx K ct G F' H' ad' s'.mem → En K ct F' ad' σ s'.env → Dlv K ct F' ad' w J → R J H'
      | .exc x s' => ∀ cls d F' H' ad', Le F ad F' ad' → Sx K ct G F' H' ad' s'.mem → En K ct F' ad' σ s'.env → RepX K ct F' ad' x cls d → W cls d σ H'
      | .bad => False) :
    tG K ct ρ W m σ H fun b H' => ∃ F' ad' s' a, Le F ad F' ad' ∧ Sx K ct G F' H' ad' s'.mem ∧ En K ct F' ad' σ s'.env ∧ ρ F' ad' a b ∧ (match k a s' with
      | .ok w s' => ∀ J F'' H' ad'', Le F' ad' F'' ad'' → Sx K ct G F'' H' ad'' s'.mem → En K ct F'' ad'' σ s'.env → Dlv K ct F'' ad'' w J → R J H'
      | .exc x s' => ∀ cls d F'' H' ad'', Le F' ad' F'' ad'' → Sx K ct G F'' H' ad'' s'.mem → En K ct F'' ad'' σ s'.env → RepX K ct F'' ad'' x cls d → W cls d σ H'
      | .bad => False) := by
  refine ⟨G, F, ad, s, hs, he, ?_⟩
  unfold bnd at h
  cases e : m s with
  | bad => rw [e] at h; exact h
  | exc x s' => rw [e] at h; exact h
  | ok a s' =>
    rw [e] at h
    refine fun b F' H' ad' l x y z => ⟨F', ad', s', a, l, x, y, z, ?_⟩
    cases q : k a s' with
    | ok w s2 => simp only [q] at h; exact fun J F2 H2 ad2 l2 => h J F2 H2 ad2 (l.trans l2)
    | exc x s2 => simp only [q] at h; exact fun c d F2 H2 ad2 l2 => h c d F2 H2 ad2 (l.trans l2)
    | bad => simp only [q] at h
variable {a b : Expr} {ma mb : M O} {p pos : Pos}
theorem pdi_range1 (hg : Gl X "range") (hm : X.mg "range" = none) (ha : PE X a (tE X.K ct W ma)) (hs1 : starEach [a] X.env = (false, eval a X.env) :: starEach [] X.env := by rfl) (hs : starEach [a] X.env = [(false, eval a X.env)] := by rfl) : PI X tg (.Call (.Name "range" p) [a] [] pos) (tI X.K ct W (mRng1 ma)) :=
  PI.imp (pi_range1 hg hm (pa_cons ha pa_nil hs1) hs) fun σ H R h => by
    obtain ⟨G, F, ad, s, hs, he, h⟩ := h
    refine tG.imp (tI_bnd (ρ := RepO X.K ct) hs he h) fun x H1 z => ?_
    obtain ⟨F1, ad1, s1, o, l1, hs1, he1, hr, h1⟩ := z
    cases o with
    | int j =>
      simp only at h1
      by_cases c : rgOk j = true
      · rw [if_pos c] at h1
        exact ⟨j, by rw [hr.int_], (rgOk_ok c).1, (rgOk_ok c).2, h1 _ _ _ _ (Le.refl _ _) hs1 he1 (dlv_range 0 _)⟩
      · rw [if_neg c] at h1; exact h1.elim
    | _ => exact h1.elim
theorem pdi_range2 (hg : Gl X "range") (hm : X.mg "range" = none) (ha : PE X a (tE X.K ct W ma)) (hb : PE X b (tE X.K ct W mb)) (h1 : starEach [a, b] X.env = (false, eval a X.env) :: starEach [b] X.env := by rfl) (h2 : starEach [b] X.env = (false, eval b X.env) :: starEach [] X.env := by rfl)
    (hs : starEach [a, b] X.env = [(false, eval a X.env), (false, eval b X.env)] := by rfl) (hs2 : starEach [b] X.env = [(false, eval b X.env)] := by rfl) : PI X tg (.Call (.Name "range" p) [a, b] [] pos) (tI X.K ct W (mRng2 ma mb)) :=
  PI.imp (pi_range2 hg hm (pa_cons ha (pa_cons hb pa_nil h2) h1) hs hs2) fun σ H R h => by
    obtain ⟨G, F, ad, s, hs, he, h⟩ := h
    refine tG.imp (tI_bnd (ρ := RepO X.K ct) hs he h) fun x H1 z => ?_
    obtain ⟨F1, ad1, s1, o, l1, hs1, he1, hr, h1⟩ := z
    refine tG.imp (tI_bnd (ρ := RepO X.K ct) hs1 he1 h1) fun y H2 z => ?_
    obtain ⟨F2, ad2, s2, u, l2, hs2, he2, hr2, h2⟩ := z
    cases o with
    | int i =>
      cases u with
      | int j =>
        simp only at h2
        by_cases c : rgOk i = true ∧ rgOk j = true
        · rw [if_pos c] at h2
          exact ⟨i, j, by rw [hr.int_, hr2.int_], ⟨(rgOk_ok c.1).1, (rgOk_ok c.1).2, (rgOk_ok c.2).1, (rgOk_ok c.2).2⟩, h2 _ _ _ _ (Le.refl _ _) hs2 he2 (dlv_range i _)⟩
        · rw [if_neg c] at h2; exact h2.elim
      | _ => exact h2.elim
    | _ => exact h2.elim
end


def wipeE (env : List (Option O)) : List Nat → List (Option O)
  | [] => env
  | v :: vs => (wipeE env vs).set v none
def backE (e0 e1 : List (Option O)) : List Nat → List (Option O)
  | [] => e1
  | v :: vs => (backE e0 e1 vs).set v (e0[v]?.getD none)
theorem En.back {K : PySem.W.Frag} {ct : CT} {F F' : Hp} {ad ad' : List Addr} {σ : L2.St} {e0 e1 : List (Option O)} (l : Le F ad F' ad') (h0 : En K ct F ad σ e0) (h1 : En K ct F' ad' σ e1) : ∀ vs, En K ct F' ad' σ (backE e0 e1 vs)
  | [] => h1
  | v :: vs => by
    unfold backE
    have ih := En.back l h0 h1 vs
    refine ⟨by rw [List.length_set, ih.len], fun j o q => ?_⟩
    by_cases hj : j = v
    · subst hj
      have hlt : j < (backE e0 e1 vs).length := by
        have := (List.getElem?_eq_some_iff.mp q).1
        simpa using this
      rw [List.getElem?_set_self hlt] at q
      have q' : e0[j]?.getD none = some o := Option.some.inj q
      cases e : e0[j]? with
      | none => rw [e] at q'; cases q'
      | some z =>
        rw [e] at q'
        have q'' : z = some o := q'
        obtain ⟨u, z1, z2⟩ := h0.get j o (by rw [e, q''])
        exact ⟨u, z1, z2.mono l⟩
    · rw [List.getElem?_set_ne (Ne.symm hj)] at q
      exact ih.get j o q
theorem En.wipe {K : PySem.W.Frag} {ct : CT} {F : Hp} {ad : List Addr} {σ : L2.St} {env : List (Option O)} (h : En K ct F ad σ env) : ∀ vs, En K ct F ad (L2.wipe σ vs) (wipeE env vs)
  | [] => h
  | v :: vs => by
    unfold L2.wipe wipeE
    exact (En.wipe h vs).forget
def lcL (w : Walk) (g : Tg) (tt : M Bool) (te : M O) (own : List Nat) : List D → List D → M (List D)
  | [], acc => fun s => if w.okB s.mem then .ok acc s else .bad
  | d :: ds, acc => fun s => if w.okB s.mem then (match g (d) s with
    | some s1 => match tt s1 with
      | .ok true s2 => match te s2 with
        | .ok o s3 => lcL w g tt te own ds (acc ++ [o]) ⟨wipeE s3.env own, s3.mem⟩
        | _ => .bad
      | .ok false s2 => lcL w g tt te own ds acc ⟨wipeE s2.env own, s2.mem⟩
      | _ => .bad
    | none => .bad) else .bad
def mLc (mi : M Walk) (g : Tg) (tt : M Bool) (te : M O) (own : List Nat) : M O := bnd mi fun w s => if w.items.length ≤ sizeLine then (match lcL w g tt te own w.items [] ⟨wipeE s.env own, s.mem⟩ with
    | .ok ds s' => .ok (.ptr s'.mem.length) ⟨backE s.env s'.env own, s'.mem ++ [.lst ds]⟩
    | _ => .bad) else .bad
def tTrue : M Bool := ret true
abbrev W0 : WX := fun _ _ _ _ => False
section
variable {K : PySem.W.Frag} {ct : CT} {G F H : Hp} {ad : List Addr} {M : Mem}
theorem Sx.foreign (x : Sx K ct G F H ad M) {p : Addr} {o : HO} (hp : H p = none) : Sx K ct (upd G p o) F (upd H p o) ad M := by
  have fp : F p = none := x.sub.free hp
  have npa : ∀ a ∈ ad, a ≠ p := fun a ha z => by
    obtain ⟨u, q⟩ := x.trk a ha
    rw [z, hp] at q; cases q
  have ne : ∀ a u, H a = some u → a ≠ p := fun a u q z => by rw [z, hp] at q; cases q
  refine ⟨fun a u q => ?_, x.len, x.nd, fun k c a h1 h2 => ?_, fun a u q => ?_, fun a ha => ?_⟩
  · rw [upd_ne (ne _ _ (x.sub _ _ q))]; exact x.sub _ _ q
  · have z := npa a (List.mem_of_getElem? h2)
    exact (x.cel k c a h1 h2).mono (Le.refl _ _) rfl (upd_ne z)
  · by_cases z : a = p
    · subst z
      rw [upd_same] at q ⊢
      exact ⟨q, fp, fun hm => npa a hm rfl⟩
    · rw [upd_ne z] at q ⊢
      exact x.frm a u q
  · obtain ⟨u, q⟩ := x.trk a ha
    exact ⟨u, by rw [upd_ne (npa a ha)]; exact q⟩
theorem Sx.fwrite {p : Addr} {o o' : HO} (x : Sx K ct (upd G p o) F H ad M) : Sx K ct (upd G p o') F (upd H p o') ad M := by
  obtain ⟨h1, h2, h3⟩ := x.frm p o upd_same
  refine ⟨fun a u q => ?_, x.len, x.nd, fun k c a h4 h5 => ?_, fun a u q => ?_, fun a ha => ?_⟩
  · have z : a ≠ p := fun z => by rw [z, h2] at q; cases q
    rw [upd_ne z]; exact x.sub _ _ q
  · have z : a ≠ p := fun z => h3 (z ▸ List.mem_of_getElem? h5)
    exact (x.cel k c a h4 h5).mono (Le.refl _ _) rfl (upd_ne z)
  · by_cases z : a = p
    · subst z
      rw [upd_same] at q ⊢
      exact ⟨q, h2, h3⟩
    · rw [upd_ne z] at q ⊢
      exact x.frm a u (by rw [upd_ne z]; exact q)
  · by_cases z : a = p
    · exact ⟨o', by rw [z]; exact upd_same⟩
    · obtain ⟨u, q⟩ := x.trk a ha
      exact ⟨u, by rw [upd_ne z]; exact q⟩
theorem Sx.adopt {p : Addr} {vs : List V} {ds : List D} (x : Sx K ct (upd G p (.lst vs)) F H ad M) (hg : G p = none) (r : RepL K ct F ad ds vs) : Sx K ct G F H (ad ++ [p]) (M ++ [.lst ds]) := by
  obtain ⟨h1, h2, h3⟩ := x.frm p _ upd_same
  refine ⟨x.sub, by simp [x.len], ?_, fun k c a h4 h5 => ?_, fun a u q => ?_, fun a ha => ?_⟩
  · rw [List.nodup_append]
    refine ⟨x.nd, by simp, fun a ha b hb => ?_⟩
    have e : b = p := by simpa using hb
    rw [e]; exact fun z => h3 (z ▸ ha)
  · by_cases hk : k < M.length
    · rw [List.getElem?_append_left hk] at h4
      rw [List.getElem?_append_left (by rw [x.len]; exact hk)] at h5
      exact (x.cel k c a h4 h5).mono ⟨Same.refl _, List.prefix_append _ _⟩ rfl rfl
    · have hkl := (List.getElem?_eq_some_iff.mp h4).1
      rw [List.length_append, List.length_singleton] at hkl
      have e : k = M.length := by omega
      subst e
      rw [List.getElem?_append_right (Nat.le_refl _)] at h4
      rw [← x.len, List.getElem?_append_right (Nat.le_refl _)] at h5
      simp at h4 h5
      subst h4 h5
      exact ⟨h2, vs, h1, r.mono ⟨Same.refl _, List.prefix_append _ _⟩⟩
  · have z : a ≠ p := fun z => by rw [z, hg] at q; cases q
    obtain ⟨q1, q2, q3⟩ := x.frm a u (by rw [upd_ne z]; exact q)
    refine ⟨q1, q2, fun hm => ?_⟩
    rcases List.mem_append.mp hm with hm | hm
    · exact q3 hm
    · exact z (by simpa using hm)
  · rcases List.mem_append.mp ha with hm | hm
    · exact x.trk a hm
    · have e : a = p := by simpa using hm
      exact ⟨_, by rw [e]; exact h1⟩
end
section
variable {K : PySem.W.Frag} {ct : CT} {W : WX}
theorem t_lc {mi : M Walk} {is own : List Nat} {g : Tg} {tt : M Bool} {te : M O} (hown : ∀ j ∈ is, j ∈ own) {σ : L2.St} {H : Hp} {Q : VK} (h : tE K ct W (mLc mi g tt te own) σ H Q) :
    tLc (tI K ct W mi) (tGt K ct is g) (tT K ct W0 tt) (tE K ct W0 te) own σ H Q := by
  obtain ⟨G, F, ad, s, hs, he, h⟩ := h
  refine ⟨G, F, ad, s, hs, he, ?_⟩
  unfold mLc bnd at h
  cases e : mi s with
  | bad => rw [e] at h; exact h
  | exc x s' => rw [e] at h; exact h
  | ok w s' =>
    rw [e] at h
    simp only at h
    intro J F1 H1 ad1 l1 hs1 he1 dv D hD
    by_cases hz : w.items.length ≤ sizeLine
    · rw [if_pos hz] at h
      cases r : lcL w g tt te own w.items [] ⟨wipeE s'.env own, s'.mem⟩ with
      | bad => rw [r] at h; exact h.elim
      | exc x s2 => rw [r] at h; exact h.elim
      | ok ds s2 =>
        rw [r] at h
        have hG : G D = none := by
          cases q : G D with
          | none => rfl
          | some o =>
            obtain ⟨z, _⟩ := hs1.frm D o q
            rw [hD] at z; cases z
        have inv : ∃ Wn : Nat → Hp → Prop, Wn = fun i H => ∃ F2 ad2 acc vs sE, Le F1 ad1 F2 ad2 ∧ Sx K ct (upd G D (.lst vs)) F2 H ad2 (S.mem sE) ∧ En K ct F2 ad2 (L2.wipe σ own) (S.env sE) ∧ RepL K ct F2 ad2 acc vs ∧ acc.length ≤ i ∧
            lcL w g tt te own (w.items.drop i) acc sE = .ok ds s2 := ⟨_, rfl⟩
        obtain ⟨Wn, eW⟩ := inv
        refine ⟨fun i m H => m = w.items.length - i ∧ i ≤ w.items.length ∧ Wn i H, ⟨_, rfl, Nat.zero_le _, by rw [eW]; exact ⟨F1, ad1, [], [], ⟨wipeE s'.env own, s'.mem⟩, Le.refl _ _, hs1.foreign hD, he1.wipe own, .nil, Nat.zero_le _, r⟩⟩, ?_⟩
        rintro i m H2 ⟨rfl, hi, wn⟩
        rw [eW] at wn
        obtain ⟨F2, ad2, acc, vs, sE, l2, hs2, he2, ra, hl, hr⟩ := wn
        by_cases hlt : i < w.items.length
        · have hd : w.items.drop i = w.items[i] :: w.items.drop (i + 1) := List.drop_eq_getElem_cons hlt
          rw [hd] at hr
          unfold lcL at hr
          by_cases ok : w.okB sE.mem
          · simp only [if_pos ok] at hr
            obtain ⟨go, yl⟩ := (dv i _ F2 H2 ad2 sE.mem l2 hs2 ok).1 w.items[i] (by simp [hlt])
            have again : ∀ H', Wn (i + 1) H' → ∃ m', m' < w.items.length - i ∧ (m' = w.items.length - (i + 1) ∧ i + 1 ≤ w.items.length ∧ Wn (i + 1) H') := fun H' z => ⟨_, by omega, rfl, hlt, z⟩
            refine .inr ⟨go, Wn (i + 1), again, fun x H' y => ?_⟩
            obtain ⟨F3, l3, hs3, hr3⟩ := yl x H' y
            refine ⟨upd G D (.lst vs), F3, ad2, sE, w.items[i], hs3, he2.mono l3, hr3, ?_⟩
            cases q : g (w.items[i]) sE with
            | none => rw [q] at hr; cases hr
            | some s3 =>
              rw [q] at hr
              simp only at hr ⊢
              intro σ4 F4 H4 ad4 bt l4 hs4 he4
              have ew := bt.wipe hown
              rw [show L2.wipe (L2.wipe σ own) own = L2.wipe σ own from by
                apply List.ext_getElem?
                intro j
                rw [wipe_get, wipe_get, wipe_length]
                by_cases hj : j ∈ own ∧ j < σ.length
                · rw [if_pos hj, if_pos hj]
                · rw [if_neg hj, if_neg hj]] at ew
              refine ⟨ew, upd G D (.lst vs), F4, ad4, s3, hs4, he4, ?_⟩
              cases q2 : tt s3 with
              | bad => rw [q2] at hr; cases hr
              | exc x s4 => rw [q2] at hr; cases hr
              | ok b s4 =>
                rw [q2] at hr
                intro b' F5 H5 ad5 l5 hs5 he5 hb
                cases (show b = b' from hb)
                cases b with
                | false =>
                  simp only [Bool.false_eq_true, if_false] at hr ⊢
                  rw [eW]
                  refine ⟨F5, ad5, acc, vs, ⟨wipeE s4.env own, s4.mem⟩, l2.trans (l3.trans (l4.trans l5)), hs5, ?_, ra.mono (l3.trans (l4.trans l5)), Nat.le_succ_of_le hl, hr⟩
                  rw [← ew]; exact he5.wipe own
                | true =>
                  simp only [if_true] at hr ⊢
                  refine ⟨upd G D (.lst vs), F5, ad5, s4, hs5, he5, ?_⟩
                  cases q3 : te s4 with
                  | bad => rw [q3] at hr; cases hr
                  | exc x s5 => rw [q3] at hr; cases hr
                  | ok o s5 =>
                    rw [q3] at hr
                    intro yv F6 H6 ad6 l6 hs6 he6 ro
                    simp only at hr
                    obtain ⟨g1, _, _⟩ := hs6.frm D _ upd_same
                    have rav := ra.length
                    refine ⟨vs, g1, by omega, ?_⟩
                    rw [eW]
                    refine ⟨F6, ad6, acc ++ [o], vs ++ [yv], ⟨wipeE s5.env own, s5.mem⟩, l2.trans (l3.trans (l4.trans (l5.trans l6))), hs6.fwrite, ?_, (ra.mono (l3.trans (l4.trans (l5.trans l6)))).append (.cons ro .nil), by simp; omega, hr⟩
                    rw [← ew]; exact he6.wipe own
          · simp only [if_neg ok] at hr; cases hr
        · have e2 : i = w.items.length := by omega
          subst e2
          rw [List.drop_length] at hr
          unfold lcL at hr
          by_cases ok : w.okB sE.mem
          · simp only [if_pos ok] at hr
            cases hr
            refine .inl ⟨(dv _ _ F2 H2 ad2 _ l2 hs2 ok).2 (Nat.le_refl _), ?_⟩
            have hs3 := hs2.adopt hG ra
            have l3 : Le F2 ad2 F2 (ad2 ++ [D]) := ⟨Same.refl _, List.prefix_append _ _⟩
            refine h _ F2 H2 (ad2 ++ [D]) (l1.trans (l2.trans l3)) hs3 ?_ ⟨D, ?_, rfl⟩
            · refine En.back (l2.trans l3) he1 ?_ own
              refine ⟨by rw [he2.len, wipe_length], fun j o q => ?_⟩
              obtain ⟨v, z1, z2⟩ := he2.get j o q
              exact ⟨v, (wipe_some z1).1, z2.mono l3⟩
            · rw [← hs2.len, List.getElem?_append_right (Nat.le_refl _)]
              simp
          · simp only [if_neg ok] at hr; cases hr
    · rw [if_neg hz] at h; exact h.elim
variable {X : Cx} {tg iter elt : Expr} {ifs : List Expr} {scope : Scope} {own : List (Str × Nat)} {is : List Nat} {pos : Pos} {mi : M Walk} {g : Tg} {tt : M Bool} {te : M O}
theorem pdts_nil {X : Cx} : PTs X [] (tT X.K ct W0 tTrue) := ⟨fun pins s σ H Q I h => (pts_nil (X := X)).run pins s σ H Q I (by
  obtain ⟨G, F, ad, s, hs, he, h⟩ := h
  exact Post.ret (ρ := rEq) hs he rfl h)⟩
theorem pd_lc (hc : X.calm = true) (hN : X.N.Nodup) (hi : PI X tg iter (tI X.K ct W mi)) (ok : BlkOk X.N X.env.scope scope own) (hown : ∀ j ∈ is, j ∈ own.map (·.2))
    (hg : ∀ (s : Shared) (H : Hp) (C : Addr) (cl : List (Str × Addr)) (fp : List Addr), PG (X.blk s H scope (compEnvC scope cl C X.env) fp) tg (tGt X.K ct is g)) (ht : ∀ (s : Shared) (H : Hp) (C : Addr) (cl : List (Str × Addr)) (fp : List Addr), PTs (X.blk s H scope (compEnvC scope cl C X.env) fp) ifs (tT X.K ct W0 tt))
    (he : ∀ (s : Shared) (H : Hp) (C : Addr) (cl : List (Str × Addr)) (fp : List Addr), PE (X.blk s H scope (compEnvC scope cl C X.env) fp) elt (tE X.K ct W0 te)) (hs : ∀ x, foldedSetIterable iter X.env x = pure x := by intro _; rfl) :
    PE X (.ListComp elt [⟨tg, iter, ifs, 0⟩] scope pos) (tE X.K ct W (mLc mi g tt te (own.map (·.2)))) :=
  PE.imp (pe_lc hc hN hi ok hg ht he hs) fun σ H Q h => t_lc hown h
theorem pd_setLc (i : Nat) {y : Str} {py spos : Pos} (hc : X.calm = true) (hN : X.N.Nodup) (hy : X.N[i]? = some y) (hyl : X.env.scope.names.lookup y = some .local)
    (hsw : swapsWith (.ListComp elt [⟨tg, iter, ifs, 0⟩] scope pos) (some (.Name y py)) spos.line X.env = pure true) (hi : PI X tg iter (tI X.K ct W mi)) (ok : BlkOk X.N X.env.scope scope own) (hown : ∀ j ∈ is, j ∈ own.map (·.2))
    (hg : ∀ (s : Shared) (H : Hp) (C : Addr) (cl : List (Str × Addr)) (fp : List Addr), PG (X.blk s H scope (compEnvC scope cl C X.env) fp) tg (tGt X.K ct is g)) (ht : ∀ (s : Shared) (H : Hp) (C : Addr) (cl : List (Str × Addr)) (fp : List Addr), PTs (X.blk s H scope (compEnvC scope cl C X.env) fp) ifs (tT X.K ct W0 tt))
    (he : ∀ (s : Shared) (H : Hp) (C : Addr) (cl : List (Str × Addr)) (fp : List Addr), PE (X.blk s H scope (compEnvC scope cl C X.env) fp) elt (tE X.K ct W0 te)) (hs : ∀ x, foldedSetIterable iter X.env x = pure x := by intro _; rfl) :
    PS X (.Assign [.Name y py] (.ListComp elt [⟨tg, iter, ifs, 0⟩] scope pos) spos) (tS X.K ct W (sSet i (mLc mi g tt te (own.map (·.2))))) := by
  refine PS.imp (ps_setLc hc hN hy hyl hsw hi ok hg ht he hs) fun D σ H h => ?_
  obtain ⟨G, F, ad, s, hs, he, h⟩ := h
  refine t_lc hown (Q := fun v H1 => D.nx (σ.set i (some v)) H1) (tG.imp (posts_bnd (ρ := RepO X.K ct) hs he h) fun v H1 z => ?_)
  obtain ⟨F1, ad1, s1, o, l1, hs1, he1, hr, h1⟩ := z
  exact h1 _ _ _ _ (Le.refl _ _) hs1 (he1.set hr)
end
end Dl

set_option maxRecDepth 100000
set_option maxHeartbeats 1000000
namespace Dl
open PySem PySem.Spec PyProof.Rows L2


mutual
def D.lo (n : Nat) : D → Bool
  | .ptr k => decide (k < n)
  | .tup xs => D.loL n xs
  | .lst xs => D.loL n xs
  | .dic _ xs => D.loL n xs
  | .dit _ xs => D.loL n xs
  | .obj _ xs => D.loL n xs
  | .exc _ xs => D.loL n xs
  | .non => true
  | .bl _ => true
  | .int _ => true
  | .str _ => true
  | .scr _ => true
def D.loL (n : Nat) : List D → Bool
  | [] => true
  | d :: ds => D.lo n d && D.loL n ds
end
def Cell.lo (n : Nat) : Cell → Bool
  | .lst xs => D.loL n xs
  | .dic _ xs => D.loL n xs
  | .dit _ xs => D.loL n xs
  | .ins _ xs => D.loL n xs
  | .dead => true
def Cell.beq : Cell → Cell → Bool
  | .lst xs, .lst ys => D.beqL xs ys
  | .dic ks xs, .dic ls ys => decide (ks = ls) && D.beqL xs ys
  | .dit ks xs, .dit ls ys => decide (ks = ls) && D.beqL xs ys
  | .ins c xs, .ins e ys => c == e && D.beqL xs ys
  | .dead, .dead => true
  | _, _ => false
theorem Cell.beq_eq {a b : Cell} (h : Cell.beq a b = true) : a = b := by
  cases a <;> cases b <;> simp [Cell.beq] at h ⊢
  · exact D.beqL_eq h
  · exact ⟨h.1, D.beqL_eq h.2⟩
  · exact ⟨h.1, D.beqL_eq h.2⟩
  · exact ⟨h.1, D.beqL_eq h.2⟩
theorem Cell.beq_refl (a : Cell) : Cell.beq a a = true := by
  cases a <;> simp [Cell.beq, D.beqL_refl]
def keepL (n : Nat) : Mem → Mem → Bool
  | [], _ => true
  | c :: cs, l => match l with
    | c' :: cs' => (Cell.beq c' c || Cell.lo n c') && keepL n cs cs'
    | [] => false
theorem keepL_get {n : Nat} : ∀ {m m' : Mem} {k : Nat} {c c' : Cell}, keepL n m m' = true → m[k]? = some c → m'[k]? = some c' → c' = c ∨ Cell.lo n c' = true
  | [], _, _, _, _, _, h, _ => by simp at h
  | c :: cs, [], _, _, _, h, _, _ => by unfold keepL at h; cases h
  | c :: cs, e :: es, 0, _, _, h, h1, h2 => by
    unfold keepL at h
    simp only [Bool.and_eq_true, Bool.or_eq_true] at h
    simp at h1 h2
    subst h1 h2
    exact h.1.imp Cell.beq_eq id
  | c :: cs, e :: es, k + 1, _, _, h, h1, h2 => by
    unfold keepL at h
    simp only [Bool.and_eq_true] at h
    exact keepL_get h.2 (by simpa using h1) (by simpa using h2)
section
variable {K : PySem.W.Frag} {ct : CT} {F : Hp} {ad ad' : List Addr}
mutual
theorem Rep.lo_ : ∀ {d : D} {v : V}, Rep K ct F ad d v → D.lo ad.length d = true
  | .non, _, _ => by unfold D.lo; rfl
  | .bl _, _, _ => by unfold D.lo; rfl
  | .int _, _, _ => by unfold D.lo; rfl
  | .str _, _, _ => by unfold D.lo; rfl
  | .scr _, _, _ => by unfold D.lo; rfl
  | .ptr k, _, h => by
    obtain ⟨a, ha, _⟩ := h.ptr_
    unfold D.lo
    exact decide_eq_true (List.getElem?_eq_some_iff.mp ha).1
  | .tup xs, _, h => by
    obtain ⟨a, vs, _, _, r⟩ := h.tup_
    unfold D.lo; exact RepL.lo_ r
  | .lst xs, _, h => by
    obtain ⟨a, vs, _, _, r⟩ := h.lst_
    unfold D.lo; exact RepL.lo_ r
  | .dic ks xs, _, h => by
    unfold Rep at h
    obtain ⟨a, vs, _, _, _, r⟩ := h
    unfold D.lo; exact RepL.lo_ r
  | .dit ks xs, _, h => by
    unfold Rep at h
    obtain ⟨a, vs, _, _, _, r⟩ := h
    unfold D.lo; exact RepL.lo_ r
  | .obj ks xs, _, h => by
    unfold Rep at h
    obtain ⟨a, dx, vs, _, _, _, r⟩ := h
    unfold D.lo; exact RepL.lo_ r
  | .exc ks xs, _, h => by
    unfold Rep at h
    obtain ⟨a, dx, vs, _, _, _, r⟩ := h
    unfold D.lo; exact RepL.lo_ r
theorem RepL.lo_ : ∀ {ds : List D} {vs : List V}, RepL K ct F ad ds vs → D.loL ad.length ds = true
  | [], _, _ => by unfold D.loL; rfl
  | d :: ds, _, h => by
    obtain ⟨v, r, rfl, h1, h2⟩ := h.cases_cons
    unfold D.loL
    rw [Rep.lo_ h1, RepL.lo_ h2]; rfl
end
mutual
theorem Rep.low {n : Nat} (e : ∀ k, k < n → ad[k]? = ad'[k]?) : ∀ {d : D} {v : V}, Rep K ct F ad' d v → D.lo n d = true → Rep K ct F ad d v
  | .non, _, h, _ => by unfold Rep at h ⊢; exact h
  | .bl _, _, h, _ => by unfold Rep at h ⊢; exact h
  | .int _, _, h, _ => by unfold Rep at h ⊢; exact h
  | .str _, _, h, _ => by unfold Rep at h ⊢; exact h
  | .scr _, _, h, _ => by unfold Rep at h ⊢; exact h
  | .ptr k, _, h, c => by
    obtain ⟨a, ha, q⟩ := h.ptr_
    unfold D.lo at c
    unfold Rep
    exact ⟨a, by rw [e k (of_decide_eq_true c)]; exact ha, q⟩
  | .tup xs, _, h, c => by
    unfold D.lo at c
    unfold Rep at h ⊢
    obtain ⟨a, vs, h1, h2, h3⟩ := h
    exact ⟨a, vs, h1, h2, RepL.low e h3 c⟩
  | .lst xs, _, h, c => by
    unfold D.lo at c
    unfold Rep at h ⊢
    obtain ⟨a, vs, h1, h2, h3⟩ := h
    exact ⟨a, vs, h1, h2, RepL.low e h3 c⟩
  | .dic ks xs, _, h, c => by
    unfold D.lo at c
    unfold Rep at h ⊢
    obtain ⟨a, vs, h1, h2, h3, h4⟩ := h
    exact ⟨a, vs, h1, h2, h3, RepL.low e h4 c⟩
  | .dit ks xs, _, h, c => by
    unfold D.lo at c
    unfold Rep at h ⊢
    obtain ⟨a, vs, h1, h2, h3, h4⟩ := h
    exact ⟨a, vs, h1, h2, h3, RepL.low e h4 c⟩
  | .obj ks xs, _, h, c => by
    unfold D.lo at c
    unfold Rep at h ⊢
    obtain ⟨a, dx, vs, h1, h2, h3, h4⟩ := h
    exact ⟨a, dx, vs, h1, h2, h3, RepL.low e h4 c⟩
  | .exc ks xs, _, h, c => by
    unfold D.lo at c
    unfold Rep at h ⊢
    obtain ⟨a, dx, vs, h1, h2, h3, h4⟩ := h
    exact ⟨a, dx, vs, h1, h2, h3, RepL.low e h4 c⟩
theorem RepL.low {n : Nat} (e : ∀ k, k < n → ad[k]? = ad'[k]?) : ∀ {ds : List D} {vs : List V}, RepL K ct F ad' ds vs → D.loL n ds = true → RepL K ct F ad ds vs
  | [], _, h, _ => by unfold RepL at h ⊢; exact h
  | d :: ds, _, h, c => by
    obtain ⟨v, r, rfl, h1, h2⟩ := h.cases_cons
    unfold D.loL at c
    rw [Bool.and_eq_true] at c
    exact .cons (Rep.low e h1 c.1) (RepL.low e h2 c.2)
end
theorem CellR.lo_ {H : Hp} {a : Addr} {c : Cell} (h : CellR K ct F H ad a c) : Cell.lo ad.length c = true := by
  cases c with
  | lst xs => obtain ⟨_, _, _, r⟩ := h; exact r.lo_
  | dic _ xs => obtain ⟨_, _, _, _, r⟩ := h; exact r.lo_
  | dit _ xs => obtain ⟨_, _, _, _, r⟩ := h; exact r.lo_
  | ins _ xs => obtain ⟨_, _, _, _, _, r⟩ := h; exact r.lo_
  | dead => rfl
theorem CellR.low {H : Hp} {a : Addr} {c : Cell} {n : Nat} (e : ∀ k, k < n → ad[k]? = ad'[k]?) (h : CellR K ct F H ad' a c) (l : Cell.lo n c = true) : CellR K ct F H ad a c := by
  cases c with
  | lst xs => obtain ⟨h1, vs, h2, h3⟩ := h; exact ⟨h1, vs, h2, h3.low e l⟩
  | dic ks xs => obtain ⟨h1, vs, h2, h3, h4⟩ := h; exact ⟨h1, vs, h2, h3, h4.low e l⟩
  | dit ks xs => obtain ⟨h1, vs, h2, h3, h4⟩ := h; exact ⟨h1, vs, h2, h3, h4.low e l⟩
  | ins k xs => obtain ⟨h1, dx, vs, h2, h3, h4⟩ := h; exact ⟨h1, dx, vs, h2, h3, h4.low e l⟩
  | dead => trivial
end


inductive Rc where
  | ok (o : O) (m : Mem) | exc (x : D) (m : Mem) | bad
abbrev Fn := List O → Mem → Rc
def fin (m : Mem) (d : D) (m' : Mem) : D × Mem :=
  if keepL m.length m m' = true then
    if D.lo m.length d = true then (d, m'.take m.length)
    else match d with
      | .ptr k => match m'[k]? with
        | some c => if Cell.lo m.length c = true then (.ptr m.length, m'.take m.length ++ [c]) else (.ptr k, m')
        | none => (.ptr k, m')
      | d => (d, m')
  else (d, m')
def fnOf (n N : Nat) (body : M Fl) : Fn := fun os m => if os.length = n then (match body ⟨os.map some ++ List.replicate (N - os.length) none, m⟩ with
  | .ok .nx s => .ok (fin m .non s.mem).1 (fin m .non s.mem).2
  | .ok (.rt d) s => .ok (fin m d s.mem).1 (fin m d s.mem).2
  | .exc x s => .exc (fin m x s.mem).1 (fin m x s.mem).2
  | _ => .bad) else .bad
def PostF (K : PySem.W.Frag) (ct : CT) (G F : Hp) (ad : List Addr) (r : Rc) (Q : VK) (E : XK) : Prop := match r with
  | .ok o M' => ∀ v F' H' ad', Le F ad F' ad' → Sx K ct G F' H' ad' M' → RepO K ct F' ad' o v → Q v H'
  | .exc x M' => ∀ cls d F' H' ad', Le F ad F' ad' → Sx K ct G F' H' ad' M' → RepX K ct F' ad' x cls d → E cls d H'
  | .bad => False
def spD (K : PySem.W.Frag) (ct : CT) (n : Nat) (φ : Fn) : Sp := fun vs H Q E => ∃ G F ad M os, Sx K ct G F H ad M ∧ RepOs K ct F ad os vs ∧ os.length = n ∧ PostF K ct G F ad (φ os M) Q E
section
variable {K : PySem.W.Frag} {ct : CT} {G F F' H H' : Hp} {ad ad' : List Addr} {M M' : Mem}
theorem take_pre {α : Type} {l l' : List α} (h : l <+: l') : l'.take l.length = l := (List.prefix_iff_eq_take.mp h).symm
theorem pre_get {α : Type} {l l' : List α} (h : l <+: l') (k : Nat) (hk : k < l.length) : l[k]? = l'[k]? := by
  obtain ⟨t, rfl⟩ := h
  rw [List.getElem?_append_left hk]
theorem Sx.trim (hs : Sx K ct G F H ad M) (x : Sx K ct G F' H' ad' M') (l : Le F ad F' ad') (kp : keepL M.length M M' = true) : Sx K ct G F' H' ad (M'.take M.length) := by
  have hl : ad.length = M.length := hs.len
  have hl2 : ad.length ≤ M'.length := by rw [← x.len]; exact l.pre.length_le
  refine ⟨x.sub, by rw [List.length_take]; omega, (x.nd.sublist l.pre.sublist), fun k c a h1 h2 => ?_, fun a o q => ?_, fun a ha => x.trk a (l.pre.subset ha)⟩
  · have hka : k < ad.length := (List.getElem?_eq_some_iff.mp h2).1
    have hk : k < M.length := by rw [← hl]; exact hka
    rw [List.getElem?_take_of_lt hk] at h1
    have h3 := x.cel k c a h1 (prefix_get l.pre h2)
    refine h3.low (n := M.length) (fun j hj => pre_get l.pre j (by rw [hl]; exact hj)) ?_
    rcases keepL_get kp (c := M[k]) (by simp [hk]) h1 with q | q
    · have q2 := (hs.cel k M[k] a (by simp [hk]) h2).lo_
      rw [q, ← hl]; exact q2
    · exact q
  · obtain ⟨h1, h2, h3⟩ := x.frm a o q
    exact ⟨h1, h2, fun z => h3 (l.pre.subset z)⟩
theorem fin_ok {d : D} {α : Type} {rel : Hp → List Addr → D → α → Prop} (low : ∀ {F : Hp} {ad ad' : List Addr} {d : D} {v : α} {n : Nat}, (∀ k, k < n → ad[k]? = ad'[k]?) → rel F ad' d v → D.lo n d = true → rel F ad d v)
    (ptr : ∀ {F : Hp} {ad ad' : List Addr} {k n : Nat} {v : α} {a : Addr}, rel F ad' (.ptr k) v → ad'[k]? = some a → ad[n]? = some a → rel F ad (.ptr n) v)
    {v : α} (hs : Sx K ct G F H ad M) (x : Sx K ct G F' H' ad' M') (l : Le F ad F' ad') (r : rel F' ad' d v) :
    ∃ ad'', Le F ad F' ad'' ∧ Sx K ct G F' H' ad'' (fin M d M').2 ∧ rel F' ad'' (fin M d M').1 v := by
  have old : ∃ ad'', Le F ad F' ad'' ∧ Sx K ct G F' H' ad'' M' ∧ rel F' ad'' d v := ⟨ad', l, x, r⟩
  unfold fin
  split
  · rename_i kp
    have y := hs.trim x l kp
    have low' : ∀ k, k < M.length → ad[k]? = ad'[k]? := fun k hk => pre_get l.pre k (by rw [hs.len]; exact hk)
    split
    · rename_i c
      exact ⟨ad, ⟨l.same, List.prefix_refl _⟩, y, low low' r c⟩
    · rename_i nc
      split
      · rename_i k
        split
        · rename_i c q
          split
          · rename_i lc
            have hk : ¬ k < M.length := fun z => nc (by unfold D.lo; exact decide_eq_true z)
            have hk2 : k < ad'.length := by rw [x.len]; exact (List.getElem?_eq_some_iff.mp q).1
            have ha : ad'[k]? = some ad'[k] := by simp [hk2]
            have hnew : ad'[k] ∉ ad := fun hm => by
              obtain ⟨j, hj⟩ := List.mem_iff_getElem?.mp hm
              have e1 := prefix_get l.pre hj
              have e2 := nodup_at x.nd e1 ha
              have : j < ad.length := (List.getElem?_eq_some_iff.mp hj).1
              rw [hs.len] at this
              omega
            have pre2 : ad <+: ad ++ [ad'[k]] := List.prefix_append _ _
            refine ⟨ad ++ [ad'[k]], ⟨l.same, pre2⟩, ⟨y.sub, ?_, ?_, fun j c' b h1 h2 => ?_, fun b o q' => ?_, fun b hb => ?_⟩, ptr r ha (by rw [← hs.len]; simp)⟩
            · rw [List.length_append, List.length_append, y.len]; rfl
            · rw [List.nodup_append]
              refine ⟨hs.nd, by simp, fun b hb b' hb' => ?_⟩
              have e1 : b' = ad'[k] := by simpa using hb'
              rw [e1]; exact fun z => hnew (z ▸ hb)
            · by_cases hj : j < ad.length
              · rw [List.getElem?_append_left hj] at h2
                rw [List.getElem?_append_left (by rw [← y.len]; exact hj)] at h1
                exact (y.cel j c' b h1 h2).mono ⟨Same.refl _, pre2⟩ rfl rfl
              · have hjl := (List.getElem?_eq_some_iff.mp h2).1
                rw [List.length_append, List.length_singleton] at hjl
                have e1 : j = ad.length := by omega
                subst e1
                rw [List.getElem?_append_right (Nat.le_refl _)] at h2
                rw [y.len, List.getElem?_append_right (Nat.le_refl _)] at h1
                simp at h1 h2
                subst h1 h2
                refine (x.cel k c _ q ha).low (n := M.length) (fun i hi => ?_) lc
                have hi2 : i < ad.length := by rw [hs.len]; exact hi
                rw [List.getElem?_append_left hi2]; exact low' i hi
            · obtain ⟨z1, z2, z3⟩ := x.frm b o q'
              refine ⟨z1, z2, fun hm => ?_⟩
              rcases List.mem_append.mp hm with hm | hm
              · exact z3 (l.pre.subset hm)
              · have e1 : b = ad'[k] := by simpa using hm
                exact z3 (e1 ▸ List.getElem_mem hk2)
            · rcases List.mem_append.mp hb with hm | hm
              · exact x.trk b (l.pre.subset hm)
              · have e1 : b = ad'[k] := by simpa using hm
                exact x.trk b (e1 ▸ List.getElem_mem hk2)
          · exact old
        · exact old
      · exact old
  · exact old
theorem fin_O {d : D} {v : V} (hs : Sx K ct G F H ad M) (x : Sx K ct G F' H' ad' M') (l : Le F ad F' ad') (r : Rep K ct F' ad' d v) : ∃ ad'', Le F ad F' ad'' ∧ Sx K ct G F' H' ad'' (fin M d M').2 ∧ Rep K ct F' ad'' (fin M d M').1 v :=
  fin_ok (rel := fun F ad d v => Rep K ct F ad d v) (fun e r c => Rep.low e r c) (fun r h1 h2 => by
    obtain ⟨b, hb, e⟩ := r.ptr_
    rw [h1] at hb; cases hb
    rw [e]; exact Rep.ptr h2) hs x l r
theorem fin_X {d : D} {cls : Value} {da : Option Addr} (hs : Sx K ct G F H ad M) (x : Sx K ct G F' H' ad' M') (l : Le F ad F' ad') (r : RepX K ct F' ad' d cls da) : ∃ ad'', Le F ad F' ad'' ∧ Sx K ct G F' H' ad'' (fin M d M').2 ∧ RepX K ct F' ad'' (fin M d M').1 cls da :=
  fin_ok (rel := fun F ad d v => RepX K ct F ad d v.1 v.2) (v := (cls, da)) (fun e r c => by
    unfold RepX at r ⊢
    split at r
    · unfold D.lo at c
      obtain ⟨h1, vs, h2, h3⟩ := r
      exact ⟨h1, vs, h2, h3.low e c⟩
    · exact r.elim) (fun r h1 h2 => by unfold RepX at r; exact r.elim) hs x l r
theorem En.begin_ {os : List O} {vs : List V} (r : RepOs K ct F ad os vs) (N : List Str) (n : Nat) (hn : n = N.length) : En K ct F ad (L2.start N vs) (os.map some ++ List.replicate (n - os.length) none) := by
  subst hn
  have hl := r.length
  refine ⟨by unfold L2.start; simp [hl], fun i o e => ?_⟩
  by_cases hi : i < os.length
  · rw [List.getElem?_append_left (by simpa using hi), List.getElem?_map] at e
    have e2 : os[i]? = some os[i] := by simp [hi]
    rw [e2] at e
    cases e
    obtain ⟨v, h1, h2⟩ := r.get e2
    refine ⟨v, ?_, h2⟩
    unfold L2.start
    rw [List.getElem?_append_left (by simpa [hl] using hi), List.getElem?_map, h1]; rfl
  · rw [List.getElem?_append_right (by simpa using hi), List.getElem?_replicate] at e
    split at e <;> cases e
theorem def_of {N ps : List Str} {n : Nat} {body : Dl.M Fl} {vs : List V} {Q : VK} {E : XK} (hn : n = N.length) (h : spD K ct ps.length (fnOf ps.length n body) vs H Q E) :
    tS K ct (fun cls d _ H => E cls d H) body { nx := fun _ H' => Q .non H', rt := Q } (L2.start N vs) H := by
  obtain ⟨G, F, ad, M, os, hs, hr, hl, h⟩ := h
  refine ⟨G, F, ad, ⟨os.map some ++ List.replicate (n - os.length) none, M⟩, hs, En.begin_ hr N n hn, ?_⟩
  unfold fnOf at h
  rw [if_pos hl] at h
  cases e : body ⟨os.map some ++ List.replicate (n - os.length) none, M⟩ with
  | bad => rw [e] at h; exact h
  | exc x s =>
    rw [e] at h
    intro cls d σ' F' H' ad' l x' _ z
    obtain ⟨ad2, l2, s2, r2⟩ := fin_X hs x' l z
    exact h cls d F' H' ad2 l2 s2 r2
  | ok f s =>
    rw [e] at h
    cases f with
    | bk => exact h.elim
    | ct => exact h.elim
    | nx =>
      intro σ' F' H' ad' l x' _
      obtain ⟨ad2, l2, s2, r2⟩ := fin_O hs x' l (d := .non) (v := .non) .non
      exact h _ F' H' ad2 l2 s2 r2
    | rt o =>
      intro v F' H' ad' l x' z
      obtain ⟨ad2, l2, s2, r2⟩ := fin_O hs x' l z
      exact h v F' H' ad2 l2 s2 r2
theorem ok_def {P : Program} {w : World} {mg : Str → Option Value} {base : Heap} {x qual : Str} {params : Arguments} {body : List Stmt} {scope : Scope} {dvs : List V} {kws : List (Str × V)} {f : Addr} {fd : FuncData} {N ps : List Str} {k n : Nat} {mb : Dl.M Fl}
    (D : FunD K x qual params body scope dvs kws f fd) (S : FnScope N ps scope) (hn : n = N.length)
    (hbody : ∀ (cdv : Value) (A : Around) (outer : List Env) (s : Shared) (H : Hp) (E : XK), Room k (A.deeper (envOfC qual scope s.heap.objs.size f cdv)) →
      PSs (cxOf (L2.CX P w) P w K mg base N qual scope f cdv A outer s H E) body (tS K ct (fun cls d _ H => E cls d H) mb)) :
    FnOk P w K mg base (L2.CX P w) (k + 1) f fd ps (spD K ct ps.length (fnOf ps.length n mb)) :=
  D.ok S (fun vs H Q E h => by
    obtain ⟨G, F, ad, M, os, hs, hr, hl, h⟩ := h
    rw [hr.length, hl]) fun cdv A outer s H vs Q E hr h => ⟨_, hbody cdv A outer s H E hr, def_of hn h⟩
end


def mCall (φ : Fn) (ms : M (List O)) : M O := bnd ms fun os s => match φ os s.mem with
  | .ok o m => .ok o { s with mem := m }
  | .exc x m => .exc x { s with mem := m }
  | .bad => .bad
section
variable {X : Cx} {ct : CT} {W : WX} {k n : Nat} {f : Addr} {fd : FuncData} {ps ks : List Str} {φ : Fn} {x : Str} {q pos : Pos} {e : Expr} {es : List Expr} {mes : M (List O)} {dvs : List V} {ds : List Value} {dos : List O}
abbrev Pas (X : Cx) (W : WX) : Prop := ∀ σ, PassesAt (L2.CX X.prog X.w) X σ (WE W σ)
theorem pas_of (tk : Takes X W) : Pas X W := fun σ => passAt tk σ
theorem pas0 : Pas X W0 := fun σ _ _ _ _ _ _ c => by
  obtain ⟨_, _, _, _, _, _, _, _, _, _, _, _, z⟩ := c
  exact z.elim
theorem RepOs.app {K : PySem.W.Frag} {F : Hp} {ad : List Addr} {os us : List O} {vs ws : List V} (h : RepOs K ct F ad os vs) (t : RepOs K ct F ad us ws) : RepOs K ct F ad (os ++ us) (vs ++ ws) := RepL.append h t
theorem post_call {K : PySem.W.Frag} {G F : Hp} {ad : List Addr} {s : S} {σ : L2.St} {os : List O} {Q : VK} (he : En K ct F ad σ s.env) (h : Post K ct (RepO K ct) W G σ F ad (match φ os s.mem with
    | .ok o m => .ok o { s with mem := m }
    | .exc x m => .exc x { s with mem := m }
    | .bad => .bad) Q) : PostF K ct G F ad (φ os s.mem) Q (WE W σ) := by
  cases e : φ os s.mem with
  | bad => rw [e] at h; exact h
  | exc x m => rw [e] at h; exact fun c d F' H' ad' l y z => h c d F' H' ad' l y (he.mono l) z
  | ok o m => rw [e] at h; exact fun v F' H' ad' l y z => h v F' H' ad' l y (he.mono l) z
theorem t_call {K : PySem.W.Frag} (hd : ∀ F ad, RepOs K ct F ad dos dvs) {σ : L2.St} {H : Hp} {Q : VK} (hφ : ∀ os m, φ os m ≠ .bad → os.length = n) (h : tE K ct W (mCall φ (bnd mes fun os => ret (os ++ dos))) σ H Q) :
    tA K ct W mes σ H fun vs H1 => spD K ct n φ (vs ++ dvs) H1 Q (WE W σ) := by
  obtain ⟨G, F, ad, s, hs, he, h⟩ := h
  have e : mCall φ (bnd mes fun os => ret (os ++ dos)) s = bnd mes (fun os s => match φ (os ++ dos) s.mem with
    | .ok o m => .ok o { s with mem := m }
    | .exc x m => .exc x { s with mem := m }
    | .bad => .bad) s := by
    unfold mCall bnd
    cases mes s <;> rfl
  rw [e] at h
  refine tG.imp (post_bnd (ρ := RepOs K ct) hs he h) fun vs H1 z => ?_
  obtain ⟨F1, ad1, s1, os, l1, hs1, he1, hr, h1⟩ := z
  have h2 := post_call he1 h1
  have h3 : φ (os ++ dos) s1.mem ≠ .bad := fun z => by
    rw [z] at h2; exact h2
  exact ⟨G, F1, ad1, s1.mem, os ++ dos, hs1, hr.app (hd F1 ad1), hφ _ _ h3, h2⟩
theorem fnOf_len {N : Nat} {body : M Fl} (os : List O) (m : Mem) (h : fnOf n N body os m ≠ .bad) : os.length = n := by
  unfold fnOf at h
  by_cases e : os.length = n
  · exact e
  · rw [if_neg e] at h; exact absurd rfl h
theorem pd_callD (F : FnOk X.prog X.w X.K X.mg X.base (L2.CX X.prog X.w) k f fd ps (spD X.K ct n φ)) (hφ : ∀ os m, φ os m ≠ .bad → os.length = n) (hr : Room k X.A) (hx : Pas X W) (hm : X.mg x = some (.ref f)) (hk : PySem.W.keepIn X.K (.ref f) = true) (hb : Binds X.K fd ps ds) (hdv : Vals dvs ds) (hd : ∀ F ad, RepOs X.K ct F ad dos dvs)
    (ha : PA X (e :: es) (tA X.K ct W mes)) (hg : Gl X x := by rfl) (hdb : (x == ("__debug__" : Str)) = false := by decide) (he : starEach (e :: es) X.env = (false, eval e X.env) :: starEach es X.env := by rfl) (hpl : (backTo pos (starEach es X.env)).any (·.1) = false := by rfl) :
    PE X (.Call (.Name x q) (e :: es) [] pos) (tE X.K ct W (mCall φ (bnd mes fun os => ret (os ++ dos)))) :=
  PE.imp (pe_callSD F hr hg hm hk hb hdv hx ha hdb he hpl) fun σ H Q h => t_call hd hφ h
theorem t_call0 {K : PySem.W.Frag} {σ : L2.St} {H : Hp} {Q : VK} (hφ : ∀ os m, φ os m ≠ .bad → os.length = n) (h : tE K ct W (mCall φ mes) σ H Q) : tA K ct W mes σ H fun vs H1 => spD K ct n φ vs H1 Q (WE W σ) := by
  obtain ⟨G, F, ad, s, hs, he, h⟩ := h
  refine tG.imp (post_bnd (ρ := RepOs K ct) hs he h) fun vs H1 z => ?_
  obtain ⟨F1, ad1, s1, os, l1, hs1, he1, hr, h1⟩ := z
  have h2 := post_call he1 h1
  have h3 : φ os s1.mem ≠ .bad := fun z => by
    rw [z] at h2; exact h2
  exact ⟨G, F1, ad1, s1.mem, os, hs1, hr, hφ _ _ h3, h2⟩
theorem pd_call (F : FnOk X.prog X.w X.K X.mg X.base (L2.CX X.prog X.w) k f fd ps (spD X.K ct n φ)) (hφ : ∀ os m, φ os m ≠ .bad → os.length = n) (hr : Room k X.A) (hx : Pas X W) (hm : X.mg x = some (.ref f)) (hk : PySem.W.keepIn X.K (.ref f) = true) (hb : Binds X.K fd ps [])
    (ha : PA X (e :: es) (tA X.K ct W mes)) (hg : Gl X x := by rfl) (hdb : (x == ("__debug__" : Str)) = false := by decide) (he : starEach (e :: es) X.env = (false, eval e X.env) :: starEach es X.env := by rfl) (hpl : (backTo pos (starEach es X.env)).any (·.1) = false := by rfl) :
    PE X (.Call (.Name x q) (e :: es) [] pos) (tE X.K ct W (mCall φ mes)) :=
  PE.imp (pe_callS F hr hg hm hk hb hx ha hdb he hpl) fun σ H Q h => t_call0 hφ h
theorem pd_call0 (F : FnOk X.prog X.w X.K X.mg X.base (L2.CX X.prog X.w) k f fd [] (spD X.K ct 0 φ)) (hφ : ∀ os m, φ os m ≠ .bad → os.length = 0) (hr : Room k X.A) (hx : Pas X W) (hm : X.mg x = some (.ref f)) (hk : PySem.W.keepIn X.K (.ref f) = true) (hb : Binds X.K fd [] [])
    (hg : Gl X x := by rfl) (hdb : (x == ("__debug__" : Str)) = false := by decide) : PE X (.Call (.Name x q) [] [] pos) (tE X.K ct W (mCall φ mNil)) := by
  refine ⟨fun pins s σ H Q I h => ?_⟩
  refine wpAny_Call_Name_kw (ld_glob I hg hm ?_ hdb)
  have h2 : tA X.K ct W mNil σ H fun vs H1 => spD X.K ct 0 φ vs H1 Q (WE W σ) := t_call0 hφ h
  obtain ⟨G, F', ad, s', hs, he, h3⟩ := h2
  have h4 : spD X.K ct 0 φ [] H Q (WE W σ) := Post.ret (ρ := RepOs X.K ct) (a := []) (b := []) hs he rfl h3
  exact PySem.W.callWith_K0 I.kIn hk (run_fnS (us := []) F hr hb (hx σ) I .nil h4)


variable {kws : List Keyword} {mks : M (List O)} {nm : Option Str} {kpos : Pos} {me : M O} {g : List Value → List Value → List Value} {gV : List V → List V → List V}
theorem PK.imp {e : List Keyword} {t t' : TA} (h : PK X e t) (q : ∀ σ H Q, t' σ H Q → t σ H Q) : PK X e t' := ⟨fun pos pins s σ H Q I z => h.run pos pins s σ H Q I (q σ H Q z)⟩
theorem pdk_nil : PK X [] (tA X.K ct W mNil) := PK.imp pk_nil fun σ H Q h => by
  obtain ⟨G, F, ad, s, hs, he, h⟩ := h
  exact Post.ret (ρ := RepOs X.K ct) (a := []) (b := []) hs he rfl h
theorem pdk_cons (ha : PE X e (tE X.K ct W me)) (hr : PK X kws (tA X.K ct W mks)) : PK X (⟨nm, e, kpos⟩ :: kws) (tA X.K ct W (mCons me mks)) := by
  refine PK.imp (pk_cons ha hr) fun σ H Q h => ?_
  obtain ⟨G, F, ad, s, hs, he, h⟩ := h
  refine tG.imp (post_bnd (ρ := RepO X.K ct) hs he h) fun x H1 z => ?_
  obtain ⟨F1, ad1, s1, o, l1, hs1, he1, hr1, h1⟩ := z
  refine tG.imp (post_bnd (ρ := RepOs X.K ct) hs1 he1 h1) fun xs H2 z => ?_
  obtain ⟨F2, ad2, s2, os, l2, hs2, he2, hr2, h2⟩ := z
  exact Post.ret (ρ := RepOs X.K ct) hs2 he2 (show RepOs X.K ct F2 ad2 (o :: os) (x :: xs) from ⟨x, xs, rfl, hr1.mono l2, hr2⟩) h2
theorem run_fnKS {pins : List (Addr × Obj)} {σ : L2.St} {H : Hp} {s : Shared} {Q : VK} {us ws : List Value} {vs zs : List V} {E : XK} {sp : Sp} (F : FnOk X.prog X.w X.K X.mg X.base (L2.CX X.prog X.w) k f fd ps sp) (hr : Room k X.A) (hb : KBn X.K fd ps n ks g gV) (hx : PassesAt (L2.CX X.prog X.w) X σ E)
    (I : Inv X pins σ H s) (r : Vals vs us) (rz : Vals zs ws) (l1 : vs.length = n) (l2 : zs.length = ks.length) (h : sp (gV vs zs) H Q E) : wpAny (model X.prog X.w) X.A (call (.ref f) us (ks.zip ws)) (EP X pins σ Q) X.xe s := by
  have r2 := hb.rel r rz
  refine wpAny_call (codeAny_mono (F.run X.A X.stack s H ⟨us, ks.zip ws⟩ (g us ws) (gV vs zs) Q E hr I.env0 (hb.to s us ws I.kIn (r.length.symm.trans l1) (rz.length.symm.trans l2)) r2 h) fun r s' hq => ?_)
  cases r with
  | error e => exact hx pins H s e s' I hq
  | ok fl =>
    cases fl with
    | ret u => exact I.after hq
    | next => exact False.elim hq
    | brk => exact False.elim hq
    | cont => exact False.elim hq
def tCallKS (n m : Nat) (sp : Sp) (gV : List V → List V → List V) (E : L2.St → XK) (t tk : TA) : TE := fun σ H Q => t σ H fun vs H1 => tk σ H1 fun zs H2 => vs.length = n ∧ zs.length = m ∧ sp (gV vs zs) H2 Q (E σ)
theorem pe_callKS {sp : Sp} {t tk : TA} (F : FnOk X.prog X.w X.K X.mg X.base (L2.CX X.prog X.w) k f fd ps sp) (hr : Room k X.A) (hg : Gl X x) (hm : X.mg x = some (.ref f)) (hk : PySem.W.keepIn X.K (.ref f) = true) (hb : KBn X.K fd ps n ks g gV) (hx : Pas X W)
    (ha : PA X (e :: es) t) (hkw : PK X kws tk) (hall : (backToKw pos (keywordEach kws X.env)).all (·.1.isSome) = true := by rfl) (hks : (backToKw pos (keywordEach kws X.env)).filterMap (·.1) = ks := by rfl)
    (hdb : (x == ("__debug__" : Str)) = false := by decide) (he : starEach (e :: es) X.env = (false, eval e X.env) :: starEach es X.env := by rfl)
    (hpl : ((backTo pos (starEach (e :: es) X.env)).any (·.1) || (backToKw pos (keywordEach kws X.env)).any (·.1.isNone)) = false := by rfl) :
    PE X (.Call (.Name x q) (e :: es) kws pos) (tCallKS n ks.length sp gV (WE W) t tk) := by
  refine ⟨fun pins s σ H Q I h => ?_⟩
  refine wpAny_Call_Name_kw (ld_glob I hg hm ?_ hdb)
  refine PySem.W.callWith_KW (h₀ := X.base) I.ok.mod.kin hk hall (thn (ha.run pos pins s σ H _ I h) fun us s1 ⟨vs, H1, I1, r, q⟩ => ?_) hpl he
  refine thn (hkw.run pos pins s1 σ H1 _ I1 q) fun ws s2 ⟨zs, H2, I2, rz, l1, l2, q2⟩ => ⟨I2.kIn, ?_⟩
  rw [hks]
  exact run_fnKS F hr hb (hx σ) I2 r rz l1 l2 q2
theorem pe_callKS0 {sp : Sp} {tk : TA} (F : FnOk X.prog X.w X.K X.mg X.base (L2.CX X.prog X.w) k f fd ps sp) (hr : Room k X.A) (hg : Gl X x) (hm : X.mg x = some (.ref f)) (hk : PySem.W.keepIn X.K (.ref f) = true) (hb : KBn X.K fd ps 0 ks g gV) (hx : Pas X W)
    (hkw : PK X kws tk) (hall : (backToKw pos (keywordEach kws X.env)).all (·.1.isSome) = true := by rfl) (hks : (backToKw pos (keywordEach kws X.env)).filterMap (·.1) = ks := by rfl)
    (hdb : (x == ("__debug__" : Str)) = false := by decide) (hpl : ((backTo pos (starEach [] X.env)).any (·.1) || (backToKw pos (keywordEach kws X.env)).any (·.1.isNone)) = false := by rfl) :
    PE X (.Call (.Name x q) [] kws pos) (tCallKS 0 ks.length sp gV (WE W) tNil tk) := by
  refine ⟨fun pins s σ H Q I h => ?_⟩
  refine wpAny_Call_Name_kw (ld_glob I hg hm ?_ hdb)
  refine PySem.W.callWith_KW0 (h₀ := X.base) I.ok.mod.kin hk hall ?_ hpl
  refine thn (hkw.run pos pins s σ H _ I h) fun ws s2 ⟨zs, H2, I2, rz, l1, l2, q2⟩ => ⟨I2.kIn, ?_⟩
  rw [hks]
  exact run_fnKS (us := []) (vs := []) F hr hb (hx σ) I2 .nil rz l1 l2 q2
structure KO (X : Cx) (ct : CT) (n m : Nat) (gV : List V → List V → List V) (gO : List O → List O → List O) : Prop where
  rel : ∀ {F ad os us vs ws}, RepOs X.K ct F ad os vs → RepOs X.K ct F ad us ws → os.length = n → us.length = m → RepOs X.K ct F ad (gO os us) (gV vs ws)
def mCallK (φ : Fn) (n m : Nat) (gO : List O → List O → List O) (ms mks : M (List O)) : M O := bnd ms fun os => bnd mks fun us s => if os.length = n ∧ us.length = m then (match φ (gO os us) s.mem with
  | .ok o m => .ok o { s with mem := m }
  | .exc x m => .exc x { s with mem := m }
  | .bad => .bad) else .bad
variable {gO : List O → List O → List O} {n' : Nat}
theorem t_callK {m : Nat} (hk : KO X ct n m gV gO) {σ : L2.St} {H : Hp} {Q : VK} (hφ : ∀ os m, φ os m ≠ .bad → os.length = n') (h : tE X.K ct W (mCallK φ n m gO mes mks) σ H Q) :
    tCallKS n m (spD X.K ct n' φ) gV (WE W) (tA X.K ct W mes) (tA X.K ct W mks) σ H Q := by
  obtain ⟨G, F, ad, s, hs, he, h⟩ := h
  refine tG.imp (post_bnd (ρ := RepOs X.K ct) hs he h) fun vs H1 z => ?_
  obtain ⟨F1, ad1, s1, os, l1, hs1, he1, hr, h1⟩ := z
  refine tG.imp (post_bnd (ρ := RepOs X.K ct) hs1 he1 h1) fun ws H2 z => ?_
  obtain ⟨F2, ad2, s2, us, l2, hs2, he2, hr2, h2⟩ := z
  split at h2
  · rename_i c
    have h3 := post_call he2 h2
    have h4 : φ (gO os us) s2.mem ≠ .bad := fun z => by
      rw [z] at h3; exact h3
    exact ⟨by rw [hr.length]; exact c.1, by rw [hr2.length]; exact c.2, G, F2, ad2, s2.mem, gO os us, hs2, hk.rel (hr.mono l2) hr2 c.1 c.2, hφ _ _ h4, h3⟩
  · exact h2.elim
theorem pd_callK (F : FnOk X.prog X.w X.K X.mg X.base (L2.CX X.prog X.w) k f fd ps (spD X.K ct n' φ)) (hφ : ∀ os m, φ os m ≠ .bad → os.length = n') (hr : Room k X.A) (hx : Pas X W) (hm : X.mg x = some (.ref f)) (hk : PySem.W.keepIn X.K (.ref f) = true) (hb : KBn X.K fd ps n ks g gV) (ho : KO X ct n ks.length gV gO)
    (ha : PA X (e :: es) (tA X.K ct W mes)) (hkw : PK X kws (tA X.K ct W mks)) (hg : Gl X x := by rfl) (hall : (backToKw pos (keywordEach kws X.env)).all (·.1.isSome) = true := by rfl) (hks : (backToKw pos (keywordEach kws X.env)).filterMap (·.1) = ks := by rfl)
    (hdb : (x == ("__debug__" : Str)) = false := by decide) (he : starEach (e :: es) X.env = (false, eval e X.env) :: starEach es X.env := by rfl)
    (hpl : ((backTo pos (starEach (e :: es) X.env)).any (·.1) || (backToKw pos (keywordEach kws X.env)).any (·.1.isNone)) = false := by rfl) :
    PE X (.Call (.Name x q) (e :: es) kws pos) (tE X.K ct W (mCallK φ n ks.length gO mes mks)) :=
  PE.imp (pe_callKS F hr hg hm hk hb hx ha hkw hall hks hdb he hpl) fun σ H Q h => t_callK ho hφ h
theorem pd_callK0 (F : FnOk X.prog X.w X.K X.mg X.base (L2.CX X.prog X.w) k f fd ps (spD X.K ct n' φ)) (hφ : ∀ os m, φ os m ≠ .bad → os.length = n') (hr : Room k X.A) (hx : Pas X W) (hm : X.mg x = some (.ref f)) (hk : PySem.W.keepIn X.K (.ref f) = true) (hb : KBn X.K fd ps 0 ks g gV) (ho : KO X ct 0 ks.length gV gO)
    (hkw : PK X kws (tA X.K ct W mks)) (hg : Gl X x := by rfl) (hall : (backToKw pos (keywordEach kws X.env)).all (·.1.isSome) = true := by rfl) (hks : (backToKw pos (keywordEach kws X.env)).filterMap (·.1) = ks := by rfl)
    (hdb : (x == ("__debug__" : Str)) = false := by decide) (hpl : ((backTo pos (starEach [] X.env)).any (·.1) || (backToKw pos (keywordEach kws X.env)).any (·.1.isNone)) = false := by rfl) :
    PE X (.Call (.Name x q) [] kws pos) (tE X.K ct W (mCallK φ 0 ks.length gO mNil mks)) :=
  PE.imp (pe_callKS0 F hr hg hm hk hb hx hkw hall hks hdb hpl) fun σ H Q h => by
    obtain ⟨G, F, ad, s, hs, he, h3⟩ := t_callK (mes := mNil) ho hφ h
    exact Post.ret (ρ := RepOs X.K ct) (a := []) (b := []) hs he rfl h3
end


def fnBad : Fn := fun _ _ => .bad
theorem ok_bad {P : Program} {w : World} {K : PySem.W.Frag} {ct : CT} {mg : Str → Option Value} {base : Heap} {CX : CXT} {k n : Nat} {f : Addr} {fd : FuncData} {ps : List Str} : FnOk P w K mg base CX k f fd ps (spD K ct n fnBad) := by
  have no : ∀ vs H Q E, ¬ spD K ct n fnBad vs H Q E := fun vs H Q E h => by
    obtain ⟨_, _, _, _, _, _, _, _, h⟩ := h
    exact h
  exact ⟨fun vs H Q E h => absurd h (no vs H Q E), fun A outer s H args us vs Q E _ _ _ _ h => absurd h (no vs H Q E)⟩


def IsDef (K : PySem.W.Frag) (mg : Str → Option Value) (x qual : Str) (params : Arguments) (body : List Stmt) (scope : Scope) (dvs : List V) (kws : List (Str × V)) : Prop := ∃ fa fd, mg x = some (.ref fa) ∧ FunD K x qual params body scope dvs kws fa fd
def Ok (P : Program) (w : World) (K : PySem.W.Frag) (ct : CT) (mg : Str → Option Value) (base : Heap) (k : Nat) (x : Str) (ps : List Str) (φ : Fn) : Prop := ∃ fa fd, mg x = some (.ref fa) ∧ PySem.W.keepIn K (.ref fa) = true ∧ Binds K fd ps [] ∧
  FnOk P w K mg base (L2.CX P w) k fa fd ps (spD K ct ps.length φ) ∧ (∀ os m, φ os m ≠ .bad → os.length = ps.length) ∧ ∃ qual params body scope dvs kws, FunD K x qual params body scope dvs kws fa fd
section
variable {P : Program} {w : World} {K : PySem.W.Frag} {ct : CT} {mg : Str → Option Value} {base : Heap} {k n : Nat} {x qual : Str} {ps N : List Str} {φ : Fn} {params : Arguments} {body : List Stmt} {scope : Scope} {mb : Dl.M Fl}
theorem Ok.of (D : IsDef K mg x qual params body scope [] []) (hb : ∀ fa fd, FunD K x qual params body scope [] [] fa fd → Binds K fd ps []) (S : FnScope N ps scope) (hn : n = N.length)
    (hbody : ∀ (f : Addr) (cdv : Value) (A : Around) (outer : List Env) (s : Shared) (H : Hp) (E : XK), Room k (A.deeper (envOfC qual scope s.heap.objs.size f cdv)) →
      PSs (cxOf (L2.CX P w) P w K mg base N qual scope f cdv A outer s H E) body (tS K ct (fun cls d _ H => E cls d H) mb)) : Ok P w K ct mg base (k + 1) x ps (fnOf ps.length n mb) := by
  obtain ⟨fa, fd, h1, F⟩ := D
  exact ⟨fa, fd, h1, F.kp, hb fa fd F, ok_def F S hn (fun cdv A outer s H E hr => hbody fa cdv A outer s H E hr), fnOf_len, _, _, _, _, _, _, F⟩
theorem Ok.bad (D : IsDef K mg x qual params body scope [] []) (hb : ∀ fa fd, FunD K x qual params body scope [] [] fa fd → Binds K fd ps []) : Ok P w K ct mg base k x ps fnBad := by
  obtain ⟨fa, fd, h1, F⟩ := D
  exact ⟨fa, fd, h1, F.kp, hb fa fd F, ok_bad, (fun os m h => absurd rfl h), _, _, _, _, _, _, F⟩
theorem Ok.mono {j : Nat} (h : Ok P w K ct mg base k x ps φ) (l : k ≤ j) : Ok P w K ct mg base j x ps φ := by
  obtain ⟨fa, fd, h1, h2, h3, h4, h5⟩ := h
  exact ⟨fa, fd, h1, h2, h3, ⟨h4.len, fun A outer s H args us vs Q E hr => h4.run A outer s H args us vs Q E (hr.mono l)⟩, h5⟩
end
section
variable {X : Cx} {ct : CT} {W : WX} {k n : Nat} {ps : List Str} {φ : Fn} {x : Str} {q pos : Pos} {e : Expr} {es : List Expr} {mes : M (List O)}
theorem Ok.call (h : Ok X.prog X.w X.K ct X.mg X.base k x ps φ) (hr : Room k X.A) (hx : Pas X W)
    (ha : PA X (e :: es) (tA X.K ct W mes)) (hg : Gl X x := by rfl) (hdb : (x == ("__debug__" : Str)) = false := by decide) (he : starEach (e :: es) X.env = (false, eval e X.env) :: starEach es X.env := by rfl) (hpl : (backTo pos (starEach es X.env)).any (·.1) = false := by rfl) :
    PE X (.Call (.Name x q) (e :: es) [] pos) (tE X.K ct W (mCall φ mes)) := by
  obtain ⟨fa, fd, h1, h2, h3, h4, h5, _⟩ := h
  exact pd_call h4 h5 hr hx h1 h2 h3 ha hg hdb he hpl
theorem Ok.call0 (h : Ok X.prog X.w X.K ct X.mg X.base k x [] φ) (hr : Room k X.A) (hx : Pas X W) (hg : Gl X x := by rfl) (hdb : (x == ("__debug__" : Str)) = false := by decide) :
    PE X (.Call (.Name x q) [] [] pos) (tE X.K ct W (mCall φ mNil)) := by
  obtain ⟨fa, fd, h1, h2, h3, h4, h5, _⟩ := h
  exact pd_call0 h4 h5 hr hx h1 h2 h3 hg hdb
end
theorem pdts_one {X : Cx} {ct : CT} {c : Expr} {t : Dl.M Bool} (h : PT X c (tT X.K ct W0 t)) : PTs X [c] (tT X.K ct W0 t) := pts_one h
def wfuel : Nat := 1000000000
theorem Room.u65 {k : Nat} {A : Around} (r : Room k A) : A.units + 65 < cLine := by have := r.un; omega
end Dl

set_option maxRecDepth 100000
set_option maxHeartbeats 2000000
namespace Dl
open PySem PySem.Spec PyProof.Rows L2


structure RoomW (k : Nat) (A : Around) : Prop where
  dp : A.depth + 3 * k + 5 < recursionLimit
  un : A.units + 16 * k + 200 < cLine
theorem RoomW.mono {j k : Nat} {A : Around} (r : RoomW k A) (h : j ≤ k) : RoomW j A := ⟨by have := r.dp; omega, by have := r.un; omega⟩
theorem RoomW.deeper {k : Nat} {A : Around} (r : RoomW (k + 1) A) (env : Env) : RoomW k (A.deeper env) :=
  ⟨by have := r.dp; show A.depth + 1 + 3 * k + 5 < _; omega, by have := r.un; show A.units + 3 + 16 * k + 200 < _; omega⟩
theorem RoomW.units {k : Nat} {A : Around} (r : RoomW k A) : A.units + 64 < cLine := by have := r.un; omega
theorem RoomW.u65 {k : Nat} {A : Around} (r : RoomW k A) : A.units + 65 < cLine := by have := r.un; omega
theorem RoomW.of {k : Nat} {A : Around} (r : Room k A) : RoomW k A := ⟨r.dp, r.un⟩
theorem RoomW.marked {k : Nat} {A : Around} (r : Room k A) (h : Option Value) : RoomW k (A.mark h) := ⟨r.dp, r.un⟩
structure FnW (P : Program) (w : World) (K : PySem.W.Frag) (mg : Str → Option Value) (base : Heap) (k : Nat) (f : Addr) (fd : FuncData) (ps : List Str) (sp : Sp) : Prop where
  len : ∀ vs H Q E, sp vs H Q E → vs.length = ps.length
  run : ∀ (A : Around) (outer : List Env) (s : Shared) (H : Hp) (args : Args) (us : List Value) (vs : List V) (Q : VK) (E : XK), RoomW k A → Env0 P w K mg base A outer s H → BindsTo s fd args (ps.zip us) → Vals vs us → sp vs H Q E →
    codeAny (model P w) A (.call (.ref f) args) (CR (L2.CX P w) outer P w H s Q E) s
abbrev cxW (P : Program) (w : World) (K : PySem.W.Frag) (mg : Str → Option Value) (base : Heap) (N : List Str) (qual : Str) (scope : Scope) (f : Addr) (cd : Value) (A : Around) (outer : List Env) (s : Shared) (H : Hp) (E : XK) : Cx :=
  { cxOf (L2.CX P w) P w K mg base N qual scope f cd A outer s H E with calm := false }
theorem inv_warm {X : Cx} {B : Around} {xe : Value → Shared → Prop} {pins : List (Addr × Obj)} {σ : L2.St} {H : Hp} {s : Shared} (hf : B.frames = X.A.frames) (I : Inv X pins σ H s) : Inv { X with A := B, calm := false, xe := xe } pins σ H s :=
  ⟨⟨I.ok.mod, I.ok.kind, I.ok.glob, I.ok.blt, I.ok.above, I.ok.inj, I.ok.has, I.ok.cab, (fun z => Bool.noConfusion (show false = true from z)), hf.trans I.ok.frames, I.ok.stk, I.ok.exf, I.ok.bs, I.ok.bsz, I.ok.noex, I.ok.exfs, I.ok.funs, I.ok.frf⟩,
    I.os, I.bare, I.base, I.loc, I.cell, I.free, I.freeC, I.pin, I.hok, I.len⟩
theorem fn_ofW {P : Program} {w : World} {K : PySem.W.Frag} {mg : Str → Option Value} {base : Heap} {k : Nat} {f : Addr} {name qual : Str} {params : Arguments} {body : List Stmt} {scope : Scope} {dV kV doc pm cdv ct oc : Value} {an od : Option Addr}
    {osl : Array (Option Value)} {N ps : List Str} {sp : Sp} (lk : K.lookup f = some ⟨oc, od, .func (PySem.W.fnOf name qual params body scope dV kV doc pm an cdv ct), osl⟩) (hcd : PySem.W.codeIn K cdv qual = true) (S : FnScope N ps scope)
    (len : ∀ vs H Q E, sp vs H Q E → vs.length = ps.length)
    (hbody : ∀ (A : Around) (outer : List Env) (s : Shared) (H : Hp) (vs : List V) (Q : VK) (E : XK), RoomW k (A.deeper (envOfC qual scope s.heap.objs.size f cdv)) → sp vs H Q E →
      ∃ t, PSs (cxW P w K mg base N qual scope f cdv A outer s H E) body t ∧ t { nx := fun _ H' => Q .non H', rt := Q } (L2.start N vs) H) :
    FnW P w K mg base (k + 1) f (PySem.W.fnOf name qual params body scope dV kV doc pm an cdv ct) ps sp := by
  refine ⟨len, fun A outer s H args us vs Q E hr e0 hb r hsp => ?_⟩
  have hl := len _ _ _ _ hsp
  have KX : K.In s.heap := e0.mod.kin.keeps fun b o e => (e0.bs b o e).1
  have lim : s.heap.NoLimit := e0.mod.nolimit.keeps fun b o e => (e0.bs b o e).1
  have dp : A.depth < recursionLimit := by have := hr.dp; omega
  have known : ∀ y ∈ ps.zip us, scope.names.lookup y.1 = some .local ∨ (scope.names.lookup y.1 = some .cell ∧ ((cellsFrom (s.heap.objs.size + 1) scope.names []).lookup y.1).isSome = true) := by
    rintro ⟨n, v⟩ hy
    exact (S.par n (List.of_mem_zip hy).1).imp id fun q => ⟨q, PySem.W.cellsFrom_some _ _ _ (.inl q)⟩
  refine codeAny_call_function dp (KX _ _ lk) rfl S.co S.gen rfl (PySem.W.codeRec_of KX hcd) (hb _ _ _ _ (wpAny_newFunctionEnv_cells S.kind known fun env he s1 x => ?_))
  subst he
  refine ⟨lim.keeps x.toInCall.keep, codeAny_func ?_⟩
  obtain ⟨t, ht, hq⟩ := hbody A outer s H vs Q E (hr.deeper _) hsp
  -- the entry, as where nothing is handled
  have e1 : Env0 P w K mg base { A with handled := none } outer s H := ⟨e0.frames, e0.mod, e0.bs, e0.bsz, e0.funs, e0.frf, e0.hok, e0.bare⟩
  have I0 := inv_start (CX := L2.CX P w) (qual := qual) (f := f) (cd := cdv) (E := E) S (A := { A with handled := none }) rfl e1 hl r x
  have I : Inv (cxW P w K mg base N qual scope f cdv A outer s H E) [] (L2.start N vs) H s1 := by
    have I1 := inv_warm (B := A.deeper (envOfC qual scope s.heap.objs.size f cdv)) (xe := (cxOf (L2.CX P w) P w K mg base N qual scope f cdv A outer s H E).xe) rfl I0
    exact I1
  refine wpAny_mono (ht.run [] s1 (L2.start N vs) H _ I hq) (fun fl s' hs => ?_) fun e s' hs => hs
  have done : ∀ {σ' : L2.St} {H' : Hp} {v : V} {u : Value}, Inv (cxW P w K mg base N qual scope f cdv A outer s H E) [] σ' H' s' → RelV v u → Q v H' → CE outer P w H s Q u s' :=
    fun {σ' H' v u} J rv q => ⟨v, H', J.os, J.bare, J.base, J.hok, rv, q⟩
  cases fl with
  | ret u => obtain ⟨v, σ', H', J, rv, q⟩ := hs; exact done J rv q
  | next => obtain ⟨σ', H', J, q⟩ := hs; exact done (v := V.non) (u := Value.none) J rfl q
  | brk => obtain ⟨_, _, _, q⟩ := hs; exact q.elim
  | cont => obtain ⟨_, _, _, q⟩ := hs; exact q.elim
section
variable {X : Cx} {k : Nat} {f : Addr} {fd : FuncData} {ps : List Str} {sp : Sp} {E : L2.St → XK} {x : Str} {q pos : Pos} {e : Expr} {es : List Expr} {t : TA} {ct : CT} {W : WX} {n : Nat} {φ : Fn} {mes : M (List O)}
theorem run_fnW {pins : List (Addr × Obj)} {σ : L2.St} {H : Hp} {s : Shared} {Q : VK} {us : List Value} {vs : List V} (F : FnW X.prog X.w X.K X.mg X.base k f fd ps sp) (hr : RoomW k X.A) (hb : Binds X.K fd ps []) (hx : PassesAt (L2.CX X.prog X.w) X σ (E σ))
    (I : Inv X pins σ H s) (r : Vals vs us) (h : sp vs H Q (E σ)) : wpAny (model X.prog X.w) X.A (call (.ref f) us) (EP X pins σ Q) X.xe s := by
  have hl : us.length = ps.length := by rw [← r.length]; exact F.len _ _ _ _ h
  have b := hb s us I.kIn (by rw [List.append_nil]; exact hl)
  rw [List.append_nil] at b
  refine wpAny_call (codeAny_mono (F.run X.A X.stack s H ⟨us, []⟩ us vs Q (E σ) hr I.env0 b r h) fun r s' hq => ?_)
  match r, hq with
  | .error e, hq => exact hx pins H s e s' I hq
  | .ok (.ret u), hq => exact I.after hq
def OkW (P : Program) (w : World) (K : PySem.W.Frag) (ct : CT) (mg : Str → Option Value) (base : Heap) (k : Nat) (x : Str) (ps : List Str) (φ : Fn) : Prop := ∃ fa fd, mg x = some (.ref fa) ∧ PySem.W.keepIn K (.ref fa) = true ∧ Binds K fd ps [] ∧
  FnW P w K mg base k fa fd ps (spD K ct ps.length φ) ∧ ∀ os m, φ os m ≠ .bad → os.length = ps.length
theorem OkW.call (h : OkW X.prog X.w X.K ct X.mg X.base k x ps φ) (hr : RoomW k X.A) (hx : Pas X W)
    (ha : PA X (e :: es) (tA X.K ct W mes)) (hg : Gl X x := by rfl) (hdb : (x == ("__debug__" : Str)) = false := by decide) (he : starEach (e :: es) X.env = (false, eval e X.env) :: starEach es X.env := by rfl) (hpl : (backTo pos (starEach es X.env)).any (·.1) = false := by rfl) :
    PE X (.Call (.Name x q) (e :: es) [] pos) (tE X.K ct W (mCall φ mes)) := by
  obtain ⟨fa, fd, h1, h2, h3, h4, h5⟩ := h
  refine PE.imp (t := tCallS (spD X.K ct ps.length φ) (WE W) (tA X.K ct W mes)) ⟨fun pins s σ H Q I h => ?_⟩ fun σ H Q h => t_call0 h5 h
  refine wpAny_Call_Name_kw (ld_glob I hg h1 ?_ hdb)
  refine PySem.W.callWith_K (h₀ := X.base) I.ok.mod.kin h2 (thn (ha.run pos pins s σ H _ I h) fun us s1 ⟨vs, H1, I1, r, q⟩ => ⟨I1.kIn, ?_⟩) he hpl
  exact run_fnW h4 hr h3 (hx σ) I1 r q
end
section
variable {P : Program} {w : World} {K : PySem.W.Frag} {ct : CT} {mg : Str → Option Value} {base : Heap} {k n : Nat} {x qual : Str} {ps N : List Str} {φ : Fn} {params : Arguments} {body : List Stmt} {scope : Scope} {mb : Dl.M Fl}
theorem OkW.of (D : IsDef K mg x qual params body scope [] []) (hb : ∀ fa fd, FunD K x qual params body scope [] [] fa fd → Binds K fd ps []) (S : FnScope N ps scope) (hn : n = N.length)
    (hbody : ∀ (f : Addr) (cdv : Value) (A : Around) (outer : List Env) (s : Shared) (H : Hp) (E : XK), RoomW k (A.deeper (envOfC qual scope s.heap.objs.size f cdv)) →
      PSs (cxW P w K mg base N qual scope f cdv A outer s H E) body (tS K ct (fun cls d _ H => E cls d H) mb)) : OkW P w K ct mg base (k + 1) x ps (fnOf ps.length n mb) := by
  obtain ⟨fa, fd, h1, F⟩ := D
  have b := hb fa fd F
  obtain ⟨oc, od, dV, kV, doc, pm, an, cdv, ct', osl, rfl, lk, hcd, _, _⟩ := F.ex
  refine ⟨fa, _, h1, F.kp, b, ?_, fnOf_len⟩
  refine fn_ofW (N := N) lk hcd S (fun vs H Q E h => ?_) fun A outer s H vs Q E hr h => ⟨_, hbody fa cdv A outer s H E hr, def_of hn h⟩
  obtain ⟨G, F, ad, M, os, hs, hr, hl, h⟩ := h
  rw [hr.length, hl]
theorem OkW.bad (D : IsDef K mg x qual params body scope [] []) (hb : ∀ fa fd, FunD K x qual params body scope [] [] fa fd → Binds K fd ps []) : OkW P w K ct mg base k x ps fnBad := by
  obtain ⟨fa, fd, h1, F⟩ := D
  have no : ∀ vs H Q E, ¬ spD K ct ps.length fnBad vs H Q E := fun vs H Q E h => by
    obtain ⟨_, _, _, _, _, _, _, _, h⟩ := h
    exact h
  exact ⟨fa, fd, h1, F.kp, hb fa fd F, ⟨fun vs H Q E h => absurd h (no vs H Q E), fun A outer s H args us vs Q E _ _ _ _ h => absurd h (no vs H Q E)⟩, fun os m h => absurd rfl h⟩
end
theorem takes_w {P : Program} {w : World} {K : PySem.W.Frag} {mg : Str → Option Value} {base : Heap} {N : List Str} {qual : Str} {scope : Scope} {f : Addr} {cd : Value} {A : Around} {outer : List Env} {s : Shared} {H : Hp} {E : XK} :
    Takes (cxW P w K mg base N qual scope f cd A outer s H E) (fun cls d _ H => E cls d H) := takes_of rfl rfl rfl rfl
end Dl

set_option maxRecDepth 100000
set_option maxHeartbeats 2000000
namespace Dl
open PySem PySem.Spec PyProof.Rows L2


theorem ex_ok {P : Program} {w : World} {H : Hp} {h : Heap} {a : Addr} {oe : Obj} {vs : Array Value} {cls : Value} {d : Option Addr} (ha : h.get? a = some oe) (hz : Zc cls d oe) (hd : oe.data = .fields vs) : ObjOk P w H h a (exObj cls d a) := by
  refine ⟨⟨oe, vs, ha, hz, hd⟩, ⟨oe, ha⟩, ?_⟩
  rintro h1 h2 ⟨o1, v1, e1, e2, e3⟩ k
  exact ⟨o1, v1, k _ e1, e2, e3⟩
theorem inv_track {X : Cx} {pins : List (Addr × Obj)} {σ : L2.St} {H : Hp} {s : Shared} {a : Addr} {oe : Obj} {vs : Array Value} {cls : Value} {d : Option Addr} (I : Inv X pins σ H s) (ha : s.heap.get? a = some oe) (hz : Zc cls d oe) (hd : oe.data = .fields vs) (na : H a = none)
    (nL : a ≠ X.env.locals) (ns : ∀ o, X.s_0.heap.get? a = some o → X.H_0 a = none → a ∉ X.ex → False) (np : ∀ p ∈ X.pn ++ pins, p.1 ≠ a) : Inv X pins σ (upd H a (exObj cls d a)) s := by
  have ne : ∀ {b : Addr} {o : HO}, H b = some o → b ≠ a := fun h z => by rw [z, na] at h; cases h
  refine ⟨I.ok, I.os, I.bare, ⟨I.base.keep, I.base.slot, fun b o e n hx => ?_, I.base.there, fun b xs e => ?_, fun b o u e => ?_, fun b ps e => ?_⟩, I.loc, I.cell, ?_, fun y c e => ?_, fun p hp => ?_, fun b o e => ?_, I.len⟩
  · by_cases z : b = a
    · subst z; exact (ns o e n hx).elim
    · rw [upd_ne z]; exact I.base.free b o e n hx
  · have q := I.base.tups b xs e
    rw [upd_ne (ne q)]; exact q
  · have q := I.base.frzs b o u e
    rw [upd_ne (ne q)]; exact q
  · obtain ⟨more, q⟩ := I.base.tbls b ps e
    exact ⟨more, by rw [upd_ne (ne q)]; exact q⟩
  · rw [upd_ne (Ne.symm nL)]; exact I.free
  · have z : c ≠ a := fun z => by
      obtain ⟨v, hv⟩ := I.cell y c e
      rw [z] at hv
      obtain ⟨o', h1, h2⟩ := hv
      rw [ha] at h1; cases h1
      rw [hd] at h2
      cases h2
    rw [upd_ne z]; exact I.freeC y c e
  · obtain ⟨h1, h2, h3⟩ := I.pin p hp
    exact ⟨h1, by rw [upd_ne (np p hp)]; exact h2, h3⟩
  · by_cases z : b = a
    · subst z
      rw [upd_same] at e; cases e
      exact ex_ok ha hz hd
    · rw [upd_ne z] at e
      exact (I.hok b o e).stay (fun _ _ _ q => q) (fun c q => by rw [upd_ne (ne q)]; exact q) fun c xs q => by rw [upd_ne (ne q)]; exact q


def wasT (K : PySem.W.Frag) (c : Value) (i : Nat) (ts : TS) (Wout : WX) (D : Ends) : WX := fun cls d σ H =>
  ∃ b, PySem.W.exmOne K cls c = some b ∧ (b = true → ∀ a, H a = none → ts { nx := fun σ' H' => D.nx (σ'.set i none) H', rt := D.rt, bk := fun σ' H' => D.bk (σ'.set i none) H', ct := fun σ' H' => D.ct (σ'.set i none) H' } (σ.set i (some (.ref a))) (upd H a (exObj cls d a))) ∧
    (b = false → Wout cls d σ H)
section
variable {X : Cx} {x n : Str} {c : Value} {i : Nat} {body suite : List Stmt} {b₀ : Stmt} {np pos pos' : Pos} {tb : WX → TS} {ts : TS} {Wout : WX}
theorem ps_tryT (hs : X.stack = X.env :: X.outer) (hf : X.env.frame = some X.env.locals) (hN : X.N.Nodup) (hi : X.N[i]? = some n) (hln : X.env.kindOf n = some .local) (hc : Names X x c) (tk : Takes X Wout)
    (hb : ∀ (W : WX) (pn : List (Addr × Obj)) (xe : Value → Shared → Prop), Takes (X.tr pn xe) W → PassesOwn (model X.prog X.w) X.A X.env xe → PSs (X.tr pn xe) body (tb W))
    (hsu : ∀ (a : Addr) (pn : List (Addr × Obj)), PSs (X.suite a pn) (b₀ :: suite) ts) :
    PS X (.Try body [.ExceptHandler (some (.Name x np)) (some n) (b₀ :: suite) pos'] [] [] pos) (fun D σ H => tb (wasT X.K c i ts Wout D) D σ H) := by
  refine ⟨fun pins s σ H D I h => ?_⟩
  have ok := I.ok
  have frm : X.A.frames = some (X.env :: X.outer) := by rw [ok.frames, hs]
  refine wpAny_Try_except ?_
  refine wpAny_mono ((hb (wasT X.K c i ts Wout D) (X.pn ++ pins) (fun e s₁ => wpAny (model X.prog X.w) X.A (noteFrame e X.env) (fun _ s₂ => wpAny (model X.prog X.w) X.A (setFlight e none) (fun _ s₃ =>
    wpAny (model X.prog X.w) X.A (handleBy e X.env [.ExceptHandler (some (.Name x np)) (some n) (b₀ :: suite) pos']) (SP X pins D) X.xe s₃) X.xe s₂) X.xe s₁) (fun u s' air => ?_) PassesOwn.looking).run [] s σ H D (I.toTry _) h) (fun f s1 hsp => ?_) (fun e s1 he => he)
  · -- an exception of the body
    obtain ⟨a, B, sI, pins', σ', H', cls, d, rfl, J', nb, up, sky, na, os, ag, b, hb1, hyes, hno⟩ := air
    have J : Inv X pins σ' H' sI := J'.ofTry ok
    rw [show (X.tr (X.pn ++ pins) _).stack = X.env :: X.outer from hs] at sky
    refine Sky.land Zc.steady frm hf sky fun h3 fl3 up3 => ?_
    obtain ⟨oe3, vs3, he3, hz3, hd3⟩ := fl3.there
    have away : a ∉ frs (X.env :: X.outer) := fun hm => by
      obtain ⟨_, o', e', hnf⟩ := fl3.2.2.1.mem hm
      rw [he3] at e'; cases e'
      exact hnf _ hd3
    have nL : a ≠ X.env.locals := fun z => away (List.mem_filterMap.mpr ⟨X.env, List.mem_cons_self, by rw [hf, z]⟩)
    have nF : a ∉ X.fs := fun hm => by
      obtain ⟨e, he, q⟩ := List.mem_filterMap.mp hm
      exact away (List.mem_filterMap.mpr ⟨e, List.mem_cons_of_mem _ he, q⟩)
    have newI : ∀ o, sI.heap.get? a = some o → False := fun o e => by
      have q := nb a o e (by rw [show (X.tr (X.pn ++ pins) _).stack = X.env :: X.outer from hs]; exact away)
      rw [fl3.2.1] at q; cases q
    have new0 : ∀ o, X.s_0.heap.get? a = some o → X.H_0 a = none → a ∉ X.ex → False := fun o e n0 hx => newI o (J.base.keep a o e n0 nF hx)
    have newP : ∀ p ∈ X.pn ++ pins, p.1 ≠ a := fun p hp z => newI p.2 (by rw [← z]; exact (J.pin p hp).1)
    have land : ∀ {h4 : Heap}, HandSPX.FlyingZ B (X.env :: X.outer) a (Zc cls d) h4 → s'.heap.UpToSlots h4 → Inv X pins σ' H' { s' with heap := h4 } := fun fl u4 => J.landed nb fl.1 (up.trans u4) os ag
    have J3 := land fl3 up3
    refine wpAny_handleBy_cons (codeAny_handlers_test ?_) (by intro q; cases q)
    have LT : PySem.W.Looks (model X.prog X.w) h3 (typeOf (.ref a)) cls := fun A Q E s k q => wpAny_typeOf_ref (k _ _ he3) (by rw [hz3.1]; exact q)
    have LM := PySem.W.exm_one (M := model X.prog X.w) (J3.kIn) LT hb1
    have asked : ∀ {Q : Value → Shared → Prop} {E : Value → Shared → Prop}, Q c { s' with heap := h3 } → wpAny (model X.prog X.w) (X.A.mark (some (.ref a))) (eval (.Name x np) X.env) Q E { s' with heap := h3 } := fun {Q E} q => by
      have S3 := J3.suite he3 hd3 na nL nF
      obtain ⟨hg, hdbg, hm | ⟨hm, hv, hnn⟩⟩ := hc
      · exact ld_glob (X := X.suite a ((a, oe3) :: (X.pn ++ pins))) S3 hg hm q hdbg
      · exact ld_blt (X := X.suite a ((a, oe3) :: (X.pn ++ pins))) S3 hg hm hv q hnn hdbg
    refine asked (LM.here ?_)
    cases b with
    | true =>
      refine codeAny_handlers_suite_as (HandSPX.lands_againZ fl3 fun h4 fl4 up4 => ?_)
      have J4 := land fl4 (up3.trans up4)
      obtain ⟨oe4, vs4, he4, hz4, hd4⟩ := fl4.there
      have T4 := inv_track J4 he4 hz4 hd4 na nL new0 newP
      have S4 : Inv (X.suite a (X.pn ++ pins)) [] σ' (upd H' a (exObj cls d a)) { s' with heap := h4 } :=
        ⟨T4.ok.suite _ _, T4.os, T4.bare, T4.base, T4.loc, T4.cell, T4.free, T4.freeC, fun p hp => T4.pin p (by rw [List.append_nil] at hp; exact hp), T4.hok, T4.len⟩
      refine store_ok (X := X.suite a (X.pn ++ pins)) (v := .ref a) S4 hN hi (.inl hln) rfl (fun s5 S5 => ?_) (.inr hln)
      refine wpAny_mono ((hsu a (X.pn ++ pins)).run [] s5 _ _ _ S5 (hyes rfl a na)) (fun f s6 hsp => ?_) (fun _ _ z => False.elim z)
      have after : ∀ {σ6 : L2.St} {H6 : Hp} {Q : Shared → Prop}, Inv (X.suite a (X.pn ++ pins)) [] σ6 H6 s6 → (∀ s7, Inv X pins (σ6.set i none) H6 s7 → Q s7) →
          wpAny (model X.prog X.w) X.A (do bindName X.env n .none; unbindBehindTheSuite X.env n pos') (fun _ s7 => Q s7) X.xe s6 := fun {σ6 H6 Q} S6 hq => by
        have J6 : Inv X pins σ6 H6 s6 := ⟨ok, S6.os, S6.bare, S6.base, S6.loc, S6.cell, S6.free, S6.freeC, fun p hp => S6.pin p (by rw [List.append_nil]; exact hp), S6.hok, S6.len⟩
        exact gone_ok J6 hN hi hln hq
      match f, hsp with
      | .next, ⟨σ6, H6, S6, q6⟩ => exact after S6 fun s7 J7 => ⟨_, _, J7, q6⟩
      | .brk, ⟨σ6, H6, S6, q6⟩ => exact after S6 fun s7 J7 => ⟨_, _, J7, q6⟩
      | .cont, ⟨σ6, H6, S6, q6⟩ => exact after S6 fun s7 J7 => ⟨_, _, J7, q6⟩
      | .ret u, ⟨v6, σ6, H6, S6, r6, q6⟩ => exact after S6 fun s7 J7 => ⟨_, _, _, J7, r6, q6⟩
    | false =>
      refine wpAny_handleBy_nil ?_
      obtain ⟨_, _, _, oe, vs, T, oT, ts', he, hz, hd, h1, hr⟩ := id fl3
      unfold PySem.passOn
      refine wpAny_bind (wpAny_field he hd h1 ?_)
      rw [if_neg (show ¬ ((Value.ref T == Value.none) = true) from by simp)]
      have out : wpAny (model X.prog X.w) X.A (setFlight (.ref a) X.env.frame) (fun _ s4 => wpAny (model X.prog X.w) X.A (throw (.ref a) : Sem Flow) (SP X pins D) X.xe s4) X.xe { s' with heap := h3 } := by
        rw [hf]
        exact HandSPX.setFlight_upZ fl3 fun h4 hh4 up4 => wpAny_throw (tk _ _ ⟨a, B, sI, pins, σ', H', cls, d, rfl, J, nb, (up.trans up3).trans up4, .inr (.inr (by rw [hs]; exact hh4)), na, os, ag, hno rfl⟩)
      first
        | exact wpAny_bind (wpAny_pure (wpAny_bind out))
        | exact wpAny_bind out
  · match f, hsp with
    | .next, ⟨σ', H', J', q⟩ => exact wpAny_execs_nil ⟨σ', H', J'.ofTry ok, q⟩
    | .brk, ⟨σ', H', J', q⟩ => exact ⟨σ', H', J'.ofTry ok, q⟩
    | .cont, ⟨σ', H', J', q⟩ => exact ⟨σ', H', J'.ofTry ok, q⟩
    | .ret u, ⟨v, σ', H', J', r, q⟩ => exact ⟨v, σ', H', J'.ofTry ok, r, q⟩
end
end Dl

set_option maxRecDepth 100000
set_option maxHeartbeats 2000000
namespace Dl
open PySem PySem.Spec PyProof.Rows L2
open PySem.W (ksFn ksEnv codeIn nsIn findIn typeIn keepIn subIn clsIn mroIn ks_superIn excInitIn KxsAt InstAt set_plain)
open PySem.HandSPX (excO)


inductive Asgs : List Stmt → List (Str × Str) → Prop
  | nil : Asgs [] []
  | cons {q1 q2 q3 q4 : Pos} {f p : Str} {r : List Stmt} {l : List (Str × Str)} : Asgs r l → Asgs (.Assign [.Attribute (.Name "self" q1) f q2] (.Name p q3) q4 :: r) ((f, p) :: l)
inductive InitB : List Stmt → List (Str × Str) → Prop
  | mk {p0 p1 p2 p3 p4 p5 : Pos} {z : Str} {j : Nat} {r : List Stmt} {l : List (Str × Str)} (he : ∀ env : Env, ∃ pl : Sem Bool, eval (.Call (.Attribute (.Call (.Name "super" p0) [] [] p1) "__init__" p2) [.Constant (.str z) j p3] [] p4) env = (do
      let ov ← attributeBase (.Call (.Name "super" p0) [] [] p1) "__init__" env (eval (.Call (.Name "super" p0) [] [] p1) env)
      standAt p2.atName
      let (f, first) ← holding [ov] (getMethod ov "__init__" pl)
      callWith p4 f first (backTo p4 (starEach [.Constant (.str z) j p3] env)) [])) : Asgs r l → InitB (.Expr (.Call (.Attribute (.Call (.Name "super" p0) [] [] p1) "__init__" p2) [.Constant (.str z) j p3] [] p4) p5 :: r) l
structure XTxt (P : Program) (K : PySem.W.Frag) (mg : Str → Option Value) (x : Str) (C : Addr) (ps : List Str) (fl : List (Str × Str)) : Prop where
  gC : mg x = some (.ref C)
  cls : ∃ nm q N bs bm sn sub ab col dd k0 k1 k2 k3 k5, K.lookup C = some (excClassObj nm q C N bs bm true sn sub ab col dd k0 k1 k2 k3 k5 "ValueError.__new__") ∧ PySem.HandSPX.refsVE bm = true
  sa : findIn K (.ref C) "__setattr__" = some (some (.builtin "object.__setattr__"))
  noF : ∀ f ∈ fl.map (·.1), findIn K (.ref C) f = some none
  kC : keepIn K (.ref C) = true
  exC : subIn K (.ref C) (.type "BaseException") = some true
  veC : subIn K (.ref C) (.type "ValueError") = some true
  tyC : typeIn K (.ref C) = some (.type "type")
  mro : mroIn K C (.ref C) = some true
  sup : mg "super" = none
  opq : nsIn K cStatics "thirdparty.any" = some none
  par : ks_superIn K C C "__init__" = some (some (.builtin "ValueError.__init__"))
  ini : excInitIn K C [.type "ValueError", .type "Exception", .type "BaseException", .type "object"] "ValueError.__new__" = true
  top : (P.main.scope.names.lookup ("super" : Str)).isSome = false
  fn : ∃ (fI cc cda : Addr) (qual : Str) (params : Arguments) (body : List Stmt) (scope : Scope) (ar : Arg) (oc : Value) (od : Option Addr) (doc pm : Value) (an : Option Addr) (ct : Value) (osl : Array (Option Value)) (ccl : Value) (cdd : Option Addr) (vs : Array Value) (ccs : Array (Option Value)) (file : Str) (tf : Tok) (cl : Value) (cld : Option Addr) (csl : Array (Option Value)),
    findIn K (.ref C) "__init__" = some (some (.ref fI)) ∧ typeIn K (.ref fI) = some (.type "function") ∧
    K.lookup fI = some ⟨oc, od, .func (ksFn "__init__" qual params body scope .none .none doc pm an (.ref cda) ct cc), osl⟩ ∧ codeIn K (.ref cda) qual = true ∧ InitB body fl ∧
    (∀ us : List Value, us.length = ps.length → bindArgs (ksFn "__init__" qual params body scope .none .none doc pm an (.ref cda) ct cc) ⟨us, []⟩ = pure (ps.zip us)) ∧
    (params.posonlyargs ++ params.args).head? = some ar ∧ ar.arg = "self" ∧ ps.head? = some ("self" : Str) ∧ ps.Nodup ∧
    K.lookup cda = some ⟨ccl, cdd, .fields vs, ccs⟩ ∧ vs[2]? = some (.str file tf) ∧ ((P.main.file : Str) == file) = true ∧ K.lookup cc = some ⟨cl, cld, .cell (some (.ref C)), csl⟩ ∧
    (∀ p ∈ ps, scope.names.lookup p = some .local) ∧ (∀ y ∈ scope.names, y.2 ≠ .cell) ∧ scope.names.lookup ("super" : Str) = some .globalImplicit ∧ scope.names.lookup ("__class__" : Str) = some .free ∧
    scope.kind = .function ∧ scope.isCoroutine = false ∧ scope.isGenerator = false ∧ (∀ q ∈ fl, q.2 ∈ ps ∧ q.2 ≠ "self" ∧ (q.2 == ("__debug__" : Str)) = false)
abbrev xFields (t : Addr) : PySem.Data := .fields #[.ref t, .none, .none, .none, .bool false, .none]
def XSt (C t1 : Addr) (fs : List (Str × Value)) (x L : Addr) (h0 hp : Heap) : Prop :=
  (fs = [] ∧ hp.get? x = some (excO C t1)) ∨ ∃ dx m, h0.objs.size ≤ dx ∧ dx ≠ x ∧ dx ≠ L ∧ hp.get? x = some { cls := .ref C, dict := some dx, data := xFields t1 } ∧ hp.Ns1 dx m ∧ Within m (fs.map (·.1)) ∧ ∀ y, m y = fs.lookup y
section
variable {P : Program} {w : World} {A : Around} {E : Value → Shared → Prop} {K : PySem.W.Frag} {mg : Str → Option Value} {n : Str} {C : Addr} {ps : List Str} {fl : List (Str × Str)}
theorem lookup_cons (name : Str) (v : Value) (fs : List (Str × Value)) (y : Str) : ((name, v) :: fs).lookup y = if y = name then some v else fs.lookup y := by
  rw [List.lookup_cons]
  by_cases h : y = name
  · subst h; simp
  · have e : (y == name) = false := by simpa using h
    simp [e, h]
theorem store_x (T : XTxt P K mg n C ps fl) {h0 hp : Heap} {x t1 L : Addr} {fs : List (Str × Value)} {f : Str} {v : Value} {Q : Unit → Shared → Prop} {g : Array GenState} {d : Drawn} {tk : Nat} {os : OsState} {mL : Str → Option Value}
    (X : K.In h0) (hx : h0.objs.size ≤ x) (kp : ∀ b o, h0.get? b = some o → hp.get? b = some o) (hL : hp.Ns L mL) (xL : x ≠ L) (S : XSt C t1 fs x L h0 hp) (hz : fs.length ≤ 1000) (hf : f ∈ fl.map (·.1))
    (hq : ∀ h' tk', (∀ b o, h0.get? b = some o → h'.get? b = some o) → h'.Ns L mL → XSt C t1 ((f, v) :: fs) x L h0 h' → Q () ⟨h', g, d, tk', os⟩) :
    wpAny (model P w) A (setAttr (.ref x) f v) Q E ⟨hp, g, d, tk, os⟩ := by
  obtain ⟨nm, q, N, bs, bm, sn, sub, ab, col, dd, k0, k1, k2, k3, k5, hC, hbm⟩ := T.cls
  have hcl : clsIn K C = some { name := nm, bases := bs, mro := .ref C :: bm, ns := N, qualname := q, hasDict := true, slotNames := sn, subclasses := sub, abstract := ab, collection := col, hasDel := false } := by unfold clsIn; rw [hC] <;> rfl
  have X1 : K.In hp := X.keeps kp
  have old : ∀ {b : Addr} {o : Obj}, h0.get? b = some o → b ≠ x := fun e z => by
    rw [z] at e
    exact absurd (Nat.lt_of_lt_of_le (Heap.lt_size e) hx) (Nat.lt_irrefl _)
  have noF := T.noF f hf
  obtain ⟨oL, es, ep, eL, rL⟩ := hL
  rcases S with ⟨rfl, hxo⟩ | ⟨dx, m, hd, nd, ndL, hxo, hns, hw, hm⟩
  · refine set_plain X1 (ox := excO C t1) (od := none) ⟨hxo, rfl, rfl, trivial⟩ T.sa ?_
    refine PySem.HandSPX.exc_osa X1 hxo hcl (show PySem.HandSPX.refsVE (.ref C :: bm) = true from hbm) rfl noF (fun h' tk' dx k hd nd hx' hns => ?_)
    have hlt := Heap.lt_size eL
    refine hq h' tk' (fun b o e => k b o (old e) (kp b o e)) ⟨oL, es, ep, k _ _ (Ne.symm xL) eL, rL⟩ (.inr ⟨dx, _, ?_, nd, ?_, hx', hns, ?_, fun y => ?_⟩)
    · refine Nat.le_trans ?_ hd
      cases hs : h0.objs.size with
      | zero => exact Nat.zero_le _
      | succ j => exact Nat.le_trans (by omega) (Nat.le_of_lt (Heap.lt_size hxo))
    · exact Nat.ne_of_gt (Nat.lt_of_lt_of_le hlt hd)
    · intro y hy
      by_cases z : y = f
      · subst z; simp
      · have hy : (if y = f then some v else none) ≠ none := hy
        rw [if_neg z] at hy; exact absurd rfl hy
    · exact (lookup_cons f v [] y).symm
  · obtain ⟨oD, esD, epD, hoD, hdD, _⟩ := hns.count hw
    refine set_plain X1 (ox := { cls := .ref C, dict := some dx, data := xFields t1 }) (od := some oD) ⟨hxo, rfl, rfl, hoD⟩ T.sa ?_
    refine PySem.OEX.osa_old X1 hxo hns hw (by rw [List.length_map]; exact hz) hcl (show PySem.HandSPX.refsVE (.ref C :: bm) = true from hbm) rfl noF (fun h' tk' k hns' => ?_)
    have oldD : ∀ {b : Addr} {o : Obj}, h0.get? b = some o → b ≠ dx := fun e z => by
      rw [z] at e
      exact absurd (Nat.lt_of_lt_of_le (Heap.lt_size e) hd) (Nat.lt_irrefl _)
    refine hq h' tk' (fun b o e => k b o (oldD e) (kp b o e)) ⟨oL, es, ep, k _ _ (Ne.symm ndL) eL, rL⟩ (.inr ⟨dx, _, hd, nd, ndL, k _ _ (Ne.symm nd) hxo, hns', ?_, fun y => ?_⟩)
    · exact Within.cons f v hw
    · rw [lookup_cons, hm]
theorem rest_x (T : XTxt P K mg n C ps fl) {h0 : Heap} {x t1 L : Addr} {mL : Str → Option Value} {val : Str → Value} {env : Env} {Q : Flow → Shared → Prop} {g : Array GenState} {d : Drawn} {os : OsState}
    (X : K.In h0) (hx : h0.objs.size ≤ x) (xL : x ≠ L) (hk : env.scope.kind = .function) (hLe : env.locals = L) (ks : env.kindOf "self" = some .local) (ms : mL "self" = some (.ref x)) :
    ∀ {body : List Stmt} {l : List (Str × Str)} (hA : Asgs body l) {fs : List (Str × Value)} {hp : Heap} {tk : Nat} (sub : ∀ q ∈ l, q.1 ∈ fl.map (·.1) ∧ mL q.2 = some (val q.2) ∧ env.kindOf q.2 = some .local ∧ (q.2 == ("__debug__" : Str)) = false)
    (kp : ∀ b o, h0.get? b = some o → hp.get? b = some o) (hL : hp.Ns L mL) (S : XSt C t1 fs x L h0 hp) (hz : fs.length + l.length ≤ 1000)
    (hq : ∀ h' tk', (∀ b o, h0.get? b = some o → h'.get? b = some o) → XSt C t1 ((l.map fun q => (q.1, val q.2)).reverse ++ fs) x L h0 h' → Q .next ⟨h', g, d, tk', os⟩),
    wpAny (model P w) A (execs body env) Q E ⟨hp, g, d, tk, os⟩ := by
  intro body l hA
  induction hA with
  | nil => exact fun sub kp hL S hz hq => wpAny_execs_nil (hq _ _ kp S)
  | @cons q1 q2 q3 q4 f p r l hr ih =>
    intro fs hp tk sub kp hL S hz hq
    obtain ⟨s1, s2, s3, s4⟩ := sub (f, p) List.mem_cons_self
    refine wpAny_execs_cons (plainObj_wpAny_Assign_Attribute ?_)
    refine wpAny_Name (wpAny_loadName_local hk s3 (by rw [hLe]; exact hL) s2 ?_) s4
    refine wpAny_Name (wpAny_loadName_local hk ks (by rw [hLe]; exact hL) ms ?_) (by decide)
    refine store_x T X hx kp hL xL S (by omega) s1 fun h' tk' k' hL' S' => ?_
    refine ih (fun q hq => sub q (List.mem_cons_of_mem _ hq)) k' hL' S' (by rw [List.length_cons] at hz ⊢; omega) fun h2 tk2 k2 S2 => hq h2 tk2 k2 ?_
    rw [List.map_cons, List.reverse_cons, List.append_assoc]
    exact S2
theorem init_x (T : XTxt P K mg n C ps fl) {h0 : Heap} {us : List Value} {R : Result → Shared → Prop} {s : Shared} {x t0 fI : Addr} {mb : Str → Option Value} (X : K.In h0) (hG : h0.Ns mainGlobals mg) (hB : h0.Ns builtinsNs mb) (hb : mb "super" = some (.type "super")) (kp : ∀ b o, h0.get? b = some o → s.heap.get? b = some o)
    (hx : h0.objs.size ≤ x) (hxo : s.heap.get? x = some (excO C t0)) (hlim : s.heap.NoLimit) (hroom : A.depth < recursionLimit) (hl : (Value.ref x :: us).length = ps.length) (hz : fl.length ≤ 1000)
    (hfI : findIn K (.ref C) "__init__" = some (some (.ref fI))) (hq : ∀ h' tk t1 L, (∀ b o, h0.get? b = some o → h'.get? b = some o) → x ≠ L → XSt C t1 ((fl.map fun q => (q.1, ((ps.zip (Value.ref x :: us)).lookup q.2).getD .none)).reverse) x L h0 h' → R (.ok (.ret .none)) { s with heap := h', toks := tk }) :
    codeAny (model P w) A (.call (.ref fI) ⟨.ref x :: us, []⟩) R s := by
  obtain ⟨fI', cc, cda, qual, params, body, scope, ar, oc, od, doc, pm, an, ct, osl, ccl, cdd, vs, ccs, file, tf, cl, cld, csl, f1, f2, f3, f4, f5, f6, f7, f8, f9, f10, f11, f12, f13, f14, f15, f16, f17, f18, f19, f20, f21, f22⟩ := T.fn
  have e1 : fI' = fI := by
    rw [f1] at hfI; cases hfI; rfl
  subst e1
  have X1 : K.In s.heap := X.keeps kp
  have loc : ∀ y ∈ ps.zip (Value.ref x :: us), scope.names.lookup y.1 = some .local := fun y hy => f15 _ (List.of_mem_zip hy).1
  obtain ⟨p0, hps⟩ : ∃ r, ps = ("self" : Str) :: r := by
    cases ps with
    | nil => cases f9
    | cons a r => simp at f9; exact ⟨r, by rw [f9]⟩
  refine PySem.ks_codeAny_call_defAt (fd := ksFn "__init__" qual params body scope .none .none doc pm an (.ref cda) ct cc) (body := body) (binds := ps.zip (Value.ref x :: us)) hroom (X1 _ _ f3) rfl hlim (PySem.W.codeRec_of X1 f4) rfl (.of_eq (f6 _ hl)) f16 loc (fun h1 hns k1 => ?_) f20 f21 f19
  have kp1 : ∀ b o, h0.get? b = some o → h1.get? b = some o := fun b o e => k1 b o (kp b o e)
  have hL0 : h0.objs.size ≤ s.heap.objs.size := Nat.le_trans hx (Nat.le_of_lt (Heap.lt_size hxo))
  have F : Fr h0 s.heap.objs.size h1 (fun y => (ps.zip (Value.ref x :: us)).reverse.lookup y) := ⟨hns, kp1, hL0⟩
  have xL : x ≠ s.heap.objs.size := Nat.ne_of_lt (Heap.lt_size hxo)
  have nx0 : h0.get? x = none := by
    cases e : h0.get? x with
    | none => rfl
    | some o => exact absurd (Nat.lt_of_lt_of_le (Heap.lt_size e) hx) (Nat.lt_irrefl _)
  have N : News h0 s.heap.objs.size h1 [(x, PySem.W.excObj C t0 none .none)] := fun p hp => by
    have e : p = (x, PySem.W.excObj C t0 none .none) := by simpa using hp
    rw [e]
    exact ⟨k1 _ _ hxo, xL, nx0⟩
  have zl : (ps.zip (Value.ref x :: us)).map (·.1) = ps := List.map_fst_zip (by rw [hl]; exact Nat.le_refl _)
  have look : ∀ y v, (ps.zip (Value.ref x :: us)).lookup y = some v → (ps.zip (Value.ref x :: us)).reverse.lookup y = some v := fun y v e => by
    have nd : ((ps.zip (Value.ref x :: us)).map (·.1)).Nodup := by rw [zl]; exact f10
    have hm := PySem.mem_of_lookup e
    have rec_ : ∀ (l : List (Str × Value)), (l.map (·.1)).Nodup → (y, v) ∈ l → l.lookup y = some v := by
      intro l
      induction l with
      | nil => intro _ h; cases h
      | cons a r ih =>
        intro nd h
        rw [List.map_cons, List.nodup_cons] at nd
        obtain ⟨a1, a2⟩ := a
        rw [lookup_cons]
        rcases List.mem_cons.mp h with h | h
        · cases h; rw [if_pos rfl]
        · have : y ≠ a1 := fun z => nd.1 (List.mem_map.mpr ⟨(y, v), h, z⟩)
          rw [if_neg this]; exact ih nd.2 h
    refine rec_ _ ?_ (List.mem_reverse.mpr hm)
    rw [List.map_reverse]
    exact (List.reverse_perm _).nodup_iff.mpr nd
  have self_ : (ps.zip (Value.ref x :: us)).lookup ("self" : Str) = some (Value.ref x) := by rw [hps, List.zip_cons_cons, lookup_cons, if_pos rfl]
  cases f5 with
  | @mk q0 q1 q2 q3 q4 q5 z j r l he hA =>
  obtain ⟨pl, he⟩ := he (ksEnv qual scope s.heap.objs.size fI' (.ref cda) cc)
  have hint : interactive (ksEnv qual scope s.heap.objs.size fI' (.ref cda) cc) = false := by
    unfold interactive
    simp [f19]
  refine PySem.ks_wpAt_execs_cons (PySem.ks_wpAt_Expr_any (PySem.ks_wpAt_MethodCall (pl := pl) ?_ he) hint rfl)
  obtain ⟨nm, q, Nn, bs, bm, sn, sb, ab, col, dd, k0, k1', k2, k3, k5, hC, hbm⟩ := T.cls
  have XX : K.In h1 := X.keeps kp1
  refine PySem.ks_wpAt_super_base (env := ksEnv qual scope s.heap.objs.size fI' (.ref cda) cc) f17 f18 (by decide) rfl (XX _ _ f3) rfl f7 rfl (XX _ _ f11) rfl f12 f13 T.top ?_
  refine PySem.W.ks_loadName_global f19 f17 (Calls.loadGlobal_builtin (env := ksEnv qual scope s.heap.objs.size fI' (.ref cda) cc) (hG.keeps kp1) T.sup (hB.keeps kp1) hb ⟨rfl, ?_⟩)
  refine wpAny_loadName_free f19 f18 rfl ⟨_, XX _ _ f14, rfl⟩ ?_
  rw [f8]
  refine wpAny_loadName_local (m := fun y => (ps.zip (Value.ref x :: us)).reverse.lookup y) f19 (show scope.names.lookup ("self" : Str) = some .local from f15 _ (by rw [hps]; exact List.mem_cons_self)) hns (look _ _ self_) ?_
  have I1 : InstAt h1 x (PySem.W.excObj C t0 none .none) C none := ⟨k1 _ _ hxo, rfl, rfl, trivial⟩
  refine PySem.ks_wpAny_isType_cls (XX _ _ hC) rfl ⟨rfl, ?_⟩
  refine PySem.ks_wpAny_call_super (XX _ _ hC) rfl I1.at_ I1.cls (fun c e => ?_) (PySem.W.looks_mroIn XX T.mro) (fun h2 e2 k2' => ?_)
  · cases e
  obtain ⟨F2, N2, _⟩ := PySem.W.ks_newsPush (s := ⟨h1, s.gens, s.drawn, 0, s.os⟩) F N rfl e2 k2'
  have I2 : InstAt h2 x (PySem.W.excObj C t0 none .none) C none := ⟨k2' _ _ (k1 _ _ hxo), rfl, rfl, trivial⟩
  refine PySem.W.kxs_method (so := h1.objs.size) (D := C) PySem.W.kxs_ValueError F2 X N2 List.mem_cons_self I2 T.opq T.par T.veC (by decide) fun q' h3 F3 N3 _ => ?_
  refine PySem.W.kxs_callWith1 (i := "ValueError.__init__") (x := x) N3 List.mem_cons_self ?_
  refine Calls.spliced_cons (Calls.Constant_str (k := j) (pos := q3) (Calls.spliced_nil ⟨(N3 _ List.mem_cons_self).1, ?_⟩))
  have lt1 : x < h1.objs.size := Heap.lt_size (k1 _ _ hxo)
  have nq : q' ≠ x := fun z => by
    have a := (N3 _ List.mem_cons_self).1
    rw [z] at a
    have b := (N3 (x, PySem.W.excObj C t0 none .none) (by simp)).1
    rw [a] at b
    cases b
  have U : PySem.W.UpdF x (PySem.W.excObj C t0 none .none) [(q', PySem.W.kxs_mw "ValueError.__init__" x), (h1.objs.size, PySem.W.ks_superObj C x C), (x, PySem.W.excObj C t0 none .none)] (fun o2 => [(q', PySem.W.kxs_mw "ValueError.__init__" x), (h1.objs.size, PySem.W.ks_superObj C x C), (x, o2)]) :=
    PySem.W.UpdF.tail nq (PySem.W.UpdF.tail (Nat.ne_of_gt lt1) (PySem.W.UpdF.head (r := []) (fun p h => nomatch h)))
  refine PySem.W.kxs_call F3 X N3 PySem.F.excBase_ValueError T.ini List.mem_cons_self U (by rw [sizeLine_eq]; show 1 ≤ 16777216; decide) fun t' h4 F4 N4 _ => ?_
  have hx4 : h4.get? x = some (excO C t') := (N4 (x, PySem.W.excObj C t' none .none) (by simp)).1
  refine wpAt_of_wpAny ?_
  have sz : fl.length ≤ 1000 := hz
  refine rest_x (fl := fl) (env := ksEnv qual scope s.heap.objs.size fI' (.ref cda) cc) (val := fun p => ((ps.zip (Value.ref x :: us)).lookup p).getD .none) T X hx xL f19 rfl (show scope.names.lookup ("self" : Str) = some .local from f15 _ (by rw [hps]; exact List.mem_cons_self)) (look _ _ self_) hA (fs := []) (fun q hq' => ?_) F4.keep F4.ns (.inl ⟨rfl, hx4⟩) (by simpa using sz) fun h' tk' k' S' => ?_
  · obtain ⟨g1, g2, g3⟩ := f22 q hq'
    refine ⟨List.mem_map_of_mem hq', ?_, f15 _ g1, g3⟩
    have : ∃ v, (ps.zip (Value.ref x :: us)).lookup q.2 = some v := by
      have hm : q.2 ∈ (ps.zip (Value.ref x :: us)).map (·.1) := by rw [zl]; exact g1
      have gen : ∀ (l : List (Str × Value)), q.2 ∈ l.map (·.1) → ∃ v, l.lookup q.2 = some v := by
        intro l
        induction l with
        | nil => intro h; cases h
        | cons a r ih =>
          intro h
          obtain ⟨a1, a2⟩ := a
          by_cases z : q.2 = a1
          · exact ⟨a2, by rw [lookup_cons, if_pos z]⟩
          · rw [List.map_cons] at h
            rcases List.mem_cons.mp h with h | h
            · exact absurd h z
            · obtain ⟨v, e⟩ := ih h
              exact ⟨v, by rw [lookup_cons, if_neg z]; exact e⟩
      exact gen _ hm
    obtain ⟨v, e⟩ := this
    rw [e]
    exact look _ _ e
  · rw [List.append_nil] at S'
    exact hq h' tk' t' _ k' xL S'
end
end Dl

set_option maxRecDepth 100000
set_option maxHeartbeats 2000000
namespace Dl
open PySem PySem.Spec PyProof.Rows L2
open PySem.W (codeIn nsIn findIn typeIn keepIn subIn clsIn mroIn looks_findIn bind_fn)
open PySem.HandSPX (excO)

theorem zip_val {us : List Value} : ∀ {r : List Str} (h : r.length = us.length) (nd : r.Nodup), (r.map fun p => ((r.zip us).lookup p).getD Value.none) = us := by
  induction us with
  | nil =>
    intro r h nd
    cases r with
    | nil => rfl
    | cons a r => cases h
  | cons u us ih =>
    intro r h nd
    cases r with
    | nil => cases h
    | cons a r =>
      rw [List.nodup_cons] at nd
      rw [List.map_cons, List.zip_cons_cons, lookup_cons, if_pos rfl]
      refine congrArg (u :: ·) ?_
      have e : ∀ p ∈ r, (((a, u) :: r.zip us).lookup p).getD Value.none = ((r.zip us).lookup p).getD Value.none := fun p hp => by
        rw [lookup_cons, if_neg (show ¬ p = a from fun z => nd.1 (z ▸ hp))]
      rw [List.map_congr_left e]
      exact ih (by simpa using h) nd.2
theorem zip_two (z : List (Str × Value)) : ∀ (fl : List (Str × Str)), (fl.map fun q => (q.1, (z.lookup q.2).getD Value.none)) = (fl.map (·.1)).zip ((fl.map (·.2)).map fun p => (z.lookup p).getD Value.none)
  | [] => rfl
  | b :: m => by simp only [List.map_cons, List.zip_cons_cons]; rw [zip_two z m]
theorem fl_val {us : List Value} {x : Addr} {r : List Str} {fl : List (Str × Str)} (hf : fl.map (·.2) = r) (h : r.length = us.length) (nd : (("self" : Str) :: r).Nodup) :
    (fl.map fun q => (q.1, (((("self" : Str) :: r).zip (Value.ref x :: us)).lookup q.2).getD Value.none)) = (fl.map (·.1)).zip us := by
  rw [List.nodup_cons] at nd
  have e1 : ∀ q ∈ fl, ((((("self" : Str) :: r).zip (Value.ref x :: us)).lookup q.2).getD Value.none) = ((r.zip us).lookup q.2).getD Value.none := fun q hq => by
    have hm : q.2 ∈ r := by rw [← hf]; exact List.mem_map_of_mem hq
    rw [List.zip_cons_cons, lookup_cons, if_neg (show ¬ q.2 = ("self" : Str) from fun z => nd.1 (z ▸ hm))]
  have e2 : (fl.map fun q => (q.1, (((("self" : Str) :: r).zip (Value.ref x :: us)).lookup q.2).getD Value.none)) = fl.map fun q => (q.1, ((r.zip us).lookup q.2).getD Value.none) :=
    List.map_congr_left fun q hq => by rw [e1 q hq]
  rw [e2]
  have e3 : (fl.map fun q => (q.1, ((r.zip us).lookup q.2).getD Value.none)) = (fl.map (·.1)).zip ((fl.map (·.2)).map fun p => ((r.zip us).lookup p).getD Value.none) := by
    exact zip_two _ _
  rw [e3, hf, zip_val h nd.2]
section
variable {P : Program} {w : World} {A : Around} {K : PySem.W.Frag} {mg : Str → Option Value} {n : Str} {C : Addr} {ps : List Str} {fl : List (Str × Str)} {r : List Str}
theorem made_x (T : XTxt P K mg n C ps fl) (hps : ps = ("self" : Str) :: r) (hf : fl.map (·.2) = r) {us : List Value} {R : Result → Shared → Prop} {s : Shared} {mb : Str → Option Value} (X : K.In s.heap) (hG : s.heap.Ns mainGlobals mg) (hB : s.heap.Ns builtinsNs mb) (hb : mb "super" = some (.type "super"))
    (hlim : s.heap.NoLimit) (hroom : A.depth + 1 < recursionLimit) (hl : us.length = r.length) (hz : fl.length ≤ 1000) (hs : us.length ≤ sizeLine)
    (hq : ∀ h' tk e t1 L, (∀ b o, s.heap.get? b = some o → h'.get? b = some o) → s.heap.objs.size ≤ e → XSt C t1 ((fl.map (·.1)).zip us).reverse e L s.heap h' → R (.ok (.ret (.ref e))) { s with heap := h', toks := tk }) :
    codeAny (model P w) A (.call (.ref C) ⟨us, []⟩) R s := by
  subst hps
  obtain ⟨nm, q, N, bs, bm, sn, sub, ab, col, dd, k0, k1, k2, k3, k5, hC, hbm⟩ := T.cls
  obtain ⟨fI, cc, cda, qual, params, body, scope, ar, oc, od, doc, pm, an, ct, osl, ccl, cdd, vs, ccs, file, tf, cl, cld, csl, f1, f2, f3, f4, f5, f6, f7, f8, f9, f10, frest⟩ := T.fn
  obtain ⟨hp, g, d, tk, os⟩ := s
  have k : ∀ b o, hp.get? b = some o → ((hp.push (PySem.W.kdv_tup us)).push (excO C hp.objs.size)).get? b = some o := fun b o e => Heap.get?_push_of_some _ (Heap.get?_push_of_some _ e)
  have hget : ((hp.push (PySem.W.kdv_tup us)).push (excO C hp.objs.size)).get? (hp.objs.size + 1) = some (excO C hp.objs.size) := by heap_get
  refine PySem.HandSPX.call_own PySem.F.excBase_ValueError (fun X => PySem.HandSPX.refsVE_contains X bm hbm) (X _ _ hC) (looks_findIn X f1) (fun self => bind_fn X self f2) hs ?_
  refine init_x (s := ⟨(hp.push (PySem.W.kdv_tup us)).push (excO C hp.objs.size), g, d, tk, os⟩) (h0 := hp) T X hG hB hb k (Nat.le_succ _) hget (hlim.keeps k) hroom (by simp [hl]) hz f1 fun h' tk' t1 L k' nL S => ?_
  rw [fl_val hf hl.symm f10] at S
  exact ⟨rfl, hq h' tk' (hp.objs.size + 1) t1 L k' (Nat.le_succ _) S⟩
end
theorem relO_zip : ∀ {fs : List Str} {vs : List V} {us : List Value}, Vals vs us → ∀ f, RelO ((fs.zip vs).lookup f) ((fs.zip us).lookup f)
  | [], _, _, _, f => by simp [RelO]
  | a :: fs, _, _, .nil, f => by simp [RelO]
  | a :: fs, _, _, .cons h t, f => by
    rw [List.zip_cons_cons, List.zip_cons_cons, List.lookup_cons, List.lookup_cons]
    cases e : f == a with
    | true => exact h
    | false => exact relO_zip t f
theorem zip_rev {α β : Type} : ∀ {l : List α} {m : List β}, l.length = m.length → (l.zip m).reverse = l.reverse.zip m.reverse
  | [], [], _ => rfl
  | [], _ :: _, h => by cases h
  | _ :: _, [], h => by cases h
  | a :: l, b :: m, h => by
    have h' : l.length = m.length := by simpa using h
    rw [List.zip_cons_cons, List.reverse_cons, List.reverse_cons, List.reverse_cons, List.zip_append (by simp [h']), zip_rev h']
    rfl
theorem vals_rev : ∀ {vs : List V} {us : List Value}, Vals vs us → Vals vs.reverse us.reverse
  | _, _, .nil => .nil
  | _, _, .cons h t => by
    rw [List.reverse_cons, List.reverse_cons]
    exact (vals_rev t).append (.cons h .nil)
theorem RepL.rev_ {K : PySem.W.Frag} {ct : CT} {F : Hp} {ad : List Addr} {ds : List D} {vs : List V} (h : RepL K ct F ad ds vs) : RepL K ct F ad ds.reverse vs.reverse := h.reverse
def XCls (P : Program) (K : PySem.W.Frag) (mg : Str → Option Value) (ct : CT) (c : Nat) (x : Str) (n : Nat) : Prop :=
  ∃ r fl, XTxt P K mg x (ct.ca c) (("self" : Str) :: r) fl ∧ fl.map (·.2) = r ∧ r.length = n ∧ ct.fl c = (fl.map (·.1)).reverse ∧ 0 < n ∧ n ≤ 1000
def tMkX (C : Addr) (n : Nat) (fs : List Str) (ta : TA) : L2.St → Hp → XK → Prop := fun σ H Q => ta σ H fun vs H1 => vs.length = n ∧ ∀ d, H1 d = none → Q (.ref C) (some d) (upd H1 d (.xd (fs.zip vs.reverse)))
def sRaise (c n : Nat) (ms : M (List O)) : M Fl := bnd ms fun os s => if os.length = n then .exc (.exc c os.reverse) s else .bad
section
variable {X : Cx} {ct : CT} {c n k : Nat} {x : Str} {W : WX} {e : Expr} {es : List Expr} {ta : TA} {p pos pos2 : Pos} {mes : M (List O)}
theorem pmk_x (T : XCls X.prog X.K X.mg ct c x n) (hr : Room k X.A) (ha : PA X (e :: es) ta) (hg : Gl X x := by rfl) (hdb : (x == ("__debug__" : Str)) = false := by decide)
    (he : starEach (e :: es) X.env = (false, eval e X.env) :: starEach es X.env := by rfl) (hpl : (backTo pos (starEach es X.env)).any (·.1) = false := by rfl) :
    PMk X (.Call (.Name x p) (e :: es) [] pos) (tMkX (ct.ca c) n (ct.fl c) ta) := by
  obtain ⟨r, fl, T, hf, hl, hfl, hn0, hn1⟩ := T
  intro pins s σ H Q I h
  refine wpAny_Call_Name_kw (ld_glob I hg T.gC ?_ hdb)
  refine PySem.W.callWith_K (h₀ := X.base) I.ok.mod.kin T.kC (thn (ha.run pos pins s σ H _ I h) fun us s1 hh => ?_) he hpl
  obtain ⟨vs, H1, I1, r1, hvl, q1⟩ := hh
  refine ⟨I1.kIn, ?_⟩
  have hlim := I1.nolimit
  have hlen : us.length = r.length := by rw [← r1.length, hvl, hl]
  have hfn : fl.length = n := by rw [← hl, ← hf, List.length_map]
  obtain ⟨mb, hB, hmb⟩ := I1.mod.blt
  have hGs := I1.mod.glob.keeps I1.bk
  have hBs := hB.keeps I1.bk
  have hks := I1.kIn
  obtain ⟨hp, g, d, tk, os⟩ := s1
  show wpAny _ _ (call (.ref (ct.ca c)) us) _ _ _
  refine wpAny_call (made_x (us := us) (s := ⟨hp, g, d, tk, os⟩) T rfl hf hks hGs hBs ((hmb _ (by decide)).trans (by decide +kernel)) hlim (by have := hr.dp; omega) hlen (by rw [hfn]; exact hn1) (by rw [hlen, hl, sizeLine_eq]; omega) fun h' tk' e t1 L keep new S => ?_)
  show MkP X pins σ Q (.ref e) ⟨h', g, d, tk', os⟩
  have hz : ((fl.map (·.1)).zip us).reverse = (ct.fl c).zip us.reverse := by rw [hfl, zip_rev (by rw [List.length_map, hfn, hlen, hl])]
  rw [hz] at S
  rcases S with ⟨e0, _⟩ | ⟨dx, m, hd, nd, ndL, hxo, hns, hw, hm⟩
  · have hl0 := congrArg List.length e0
    rw [List.length_zip, hfl, List.length_reverse, List.length_map, List.length_reverse, hfn, hlen, hl] at hl0
    simp at hl0
    omega
  · obtain ⟨G', g1, g2⟩ := restrict h' fun b => decide (b ≠ e)
    have gk : ∀ b, b ≠ e → G'.get? b = h'.get? b := fun b hb => g1 b (decide_eq_true hb)
    have ge : G'.get? e = none := g2 e (by simp)
    have old : ∀ b o, hp.get? b = some o → G'.get? b = some o := fun b o q => (gk b (Nat.ne_of_lt (Nat.lt_of_lt_of_le (Heap.lt_size q) new))).trans (keep b o q)
    have ob : ObjOk X.prog X.w (upd H1 dx (.xd ((ct.fl c).zip vs.reverse))) G' dx (.xd ((ct.fl c).zip vs.reverse)) :=
      ⟨_, hns.at (fun o q => (gk dx nd).trans q), fun f => by rw [hm]; exact relO_zip (vals_rev r1) f⟩
    have J : Inv X pins σ (upd H1 dx (.xd ((ct.fl c).zip vs.reverse))) ⟨G', g, d, tk', os⟩ := I1.laid (t' := tk') old hd ob
    refine ⟨e, _, _, ⟨G', g, d, tk', os⟩, _, .ref (ct.ca c), some dx, rfl, J, fun b o q => ?_, ge, hxo, ⟨rfl, rfl⟩, rfl, rfl, ?_, rfl, I1.bare, raises_own T.exC T.tyC, q1 dx (I1.hok.fresh hd)⟩
    · by_cases hb : b = e
      · have q' : G'.get? b = some o := q
        rw [hb, ge] at q'; cases q'
      · exact (gk b hb).symm.trans q
    · rw [upd_ne (Ne.symm nd)]
      exact I1.hok.fresh new
theorem pd_raise (hc : X.calm = true) (tk : Takes X W) (T : XCls X.prog X.K X.mg ct c x n) (hr : Room k X.A) (ha : PA X (e :: es) (tA X.K ct W mes)) (hg : Gl X x := by rfl) (hdb : (x == ("__debug__" : Str)) = false := by decide)
    (he : starEach (e :: es) X.env = (false, eval e X.env) :: starEach es X.env := by rfl) (hpl : (backTo pos (starEach es X.env)).any (·.1) = false := by rfl) :
    PS X (.Raise (some (.Call (.Name x p) (e :: es) [] pos)) none pos2) (tS X.K ct W (sRaise c n mes)) := by
  have fln : ct.fl c = ct.fl c ∧ (ct.fl c).length = n := by
    obtain ⟨r, fl, T, hf, hl, hfl, hn0, hn1⟩ := T
    refine ⟨rfl, ?_⟩
    rw [hfl, List.length_reverse, List.length_map, ← hl, ← hf, List.length_map]
  refine PS.imp (ps_raise hc tk (pmk_x T hr ha hg hdb he hpl)) fun D σ H h => ?_
  obtain ⟨G, F, ad, s, hs, hen, h⟩ := h
  refine tG.imp (posts_bnd (ρ := RepOs X.K ct) hs hen h) fun vs H1 z => ?_
  obtain ⟨F1, ad1, s1, os, l1, hs1, he1, hr1, h1⟩ := z
  split at h1
  · rename_i hn
    refine ⟨by rw [hr1.length]; exact hn, fun d hd => ?_⟩
    obtain ⟨l2, hs2⟩ := hs1.frozen (o := .xd ((ct.fl c).zip vs.reverse)) hd
    refine h1 _ _ _ _ _ _ l2 hs2 (he1.mono l2) ?_
    refine ⟨rfl, vs.reverse, .inr ⟨d, rfl, upd_same, ?_⟩, (hr1.mono l2).reverse⟩
    rw [List.length_reverse, hr1.length, hn]; exact fln.2.symm
  · exact h1.elim
end
end Dl

set_option maxRecDepth 100000
set_option maxHeartbeats 2000000
namespace Dl
open PySem PySem.Spec PyProof.Rows L2

theorem mem_lk {α β : Type} [BEq α] [LawfulBEq α] {c : α} {b : β} : ∀ {l : List (α × β)}, l.lookup c = some b → (c, b) ∈ l
  | [], h => by simp at h
  | (a, d) :: l, h => by
    rw [List.lookup_cons] at h
    cases e : c == a with
    | true =>
      rw [e] at h
      cases h
      rw [eq_of_beq e]
      exact List.mem_cons_self
    | false =>
      rw [e] at h
      exact List.mem_cons_of_mem _ (mem_lk h)

def sTry (mt : List (Nat × Bool)) (i : Nat) (body suite : M Fl) : M Fl := fun s => match body s with
  | .exc (.exc c ds) s1 => (match mt.lookup c with
    | some true => (match suite { s1 with env := s1.env.set i (some (.exc c ds)) } with
      | .ok .nx s2 => .ok .nx { s2 with env := s2.env.set i none }
      | .ok .bk s2 => .ok .bk { s2 with env := s2.env.set i none }
      | .ok .ct s2 => .ok .ct { s2 with env := s2.env.set i none }
      | .ok (.rt d) s2 => .ok (.rt d) s2
      | .exc _ _ => .bad
      | .bad => .bad)
    | some false => .exc (.exc c ds) s1
    | none => .bad)
  | .exc _ _ => .bad
  | .ok f s1 => .ok f s1
  | .bad => .bad
section
variable {X : Cx} {ct : CT} {x n : Str} {cv : Value} {i : Nat} {body suite : List Stmt} {b₀ : Stmt} {np pos pos' : Pos} {mb ms : M Fl} {W : WX} {mt : List (Nat × Bool)}
theorem pd_try (hmt : ∀ p ∈ mt, PySem.W.exmOne X.K (.ref (ct.ca p.1)) cv = some p.2) (hs : X.stack = X.env :: X.outer) (hf : X.env.frame = some X.env.locals) (hN : X.N.Nodup) (hi : X.N[i]? = some n) (hln : X.env.kindOf n = some .local) (hc : Names X x cv) (tk : Takes X W)
    (hb : ∀ (W : WX) (pn : List (Addr × Obj)) (xe : Value → Shared → Prop), Takes (X.tr pn xe) W → PassesOwn (model X.prog X.w) X.A X.env xe → PSs (X.tr pn xe) body (tS X.K ct W mb))
    (hsu : ∀ (a : Addr) (pn : List (Addr × Obj)), PSs (X.suite a pn) (b₀ :: suite) (tS X.K ct W0 ms)) :
    PS X (.Try body [.ExceptHandler (some (.Name x np)) (some n) (b₀ :: suite) pos'] [] [] pos) (tS X.K ct W (sTry mt i mb ms)) := by
  refine PS.imp (ps_tryT hs hf hN hi hln hc tk (tb := fun W => tS X.K ct W mb) (ts := tS X.K ct W0 ms) hb hsu) fun D σ H h => ?_
  obtain ⟨G, F, ad, s, hs, he, h⟩ := h
  refine ⟨G, F, ad, s, hs, he, ?_⟩
  unfold sTry at h
  cases e : mb s with
  | bad => rw [e] at h; exact h
  | ok f s1 =>
    rw [e] at h
    simp only at h
    cases f <;> exact h
  | exc z s1 =>
    rw [e] at h
    simp only at h
    intro cls d σ' F' H' ad' l hs' he' r
    cases z with
    | exc c ds =>
      unfold RepX at r
      simp only at h
      obtain ⟨rfl, vs, xd, rl⟩ := r
      have hm : ∀ b, mt.lookup c = some b → PySem.W.exmOne X.K (.ref (ct.ca c)) cv = some b := fun b q => hmt (c, b) (mem_lk q)
      cases q : mt.lookup c with
      | none => simp only [q] at h; exact h.elim
      | some b =>
        simp only [q] at h
        refine ⟨b, hm b q, fun hb1 a na => ?_, fun hb1 => ?_⟩
        · subst hb1
          simp only at h
          obtain ⟨l2, hs2⟩ := hs'.frozen (o := exObj (.ref (ct.ca c)) d a) na
          have rx : Rep X.K ct (upd F' a (exObj (.ref (ct.ca c)) d a)) ad' (.exc c ds) (.ref a) := by
            unfold Rep
            exact ⟨a, d, vs, rfl, upd_same, xd.mono l2.same, rl.mono l2⟩
          refine ⟨G, upd F' a (exObj (.ref (ct.ca c)) d a), ad', { s1 with env := s1.env.set i (some (.exc c ds)) }, hs2, (he'.mono l2).set rx, ?_⟩
          cases q2 : ms { s1 with env := s1.env.set i (some (.exc c ds)) } with
          | bad => rw [q2] at h; exact h
          | exc y s2 => rw [q2] at h; exact h.elim
          | ok f s2 =>
            rw [q2] at h
            have l12 := l.trans l2
            cases f with
            | nx => exact fun σ2 F2 H2 ad2 l3 hs3 he3 => h _ F2 H2 ad2 (l12.trans l3) hs3 he3.forget
            | bk => exact fun σ2 F2 H2 ad2 l3 hs3 he3 => h _ F2 H2 ad2 (l12.trans l3) hs3 he3.forget
            | ct => exact fun σ2 F2 H2 ad2 l3 hs3 he3 => h _ F2 H2 ad2 (l12.trans l3) hs3 he3.forget
            | rt o => exact fun v F2 H2 ad2 l3 hs3 r3 => h v F2 H2 ad2 (l12.trans l3) hs3 r3
        · subst hb1
          simp only at h
          refine h _ _ _ _ _ _ l hs' he' ?_
          exact ⟨rfl, vs, xd, rl⟩
    | _ => exact r.elim
end


structure XCl (K : PySem.W.Frag) (ct : CT) (c : Nat) : Prop where
  e : ExcC K (ct.ca c)
  fl : ∀ f ∈ ct.fl c, PySem.W.findIn K (.ref (ct.ca c)) f = some none
def IsExO (H : Hp) (C a : Addr) : Prop := ∃ d, H a = some (exObj (.ref C) d a) ∧ (d = none ∨ ∃ dd fs, d = some dd ∧ H dd = some (.xd fs))
theorem inst_of {X : Cx} {pins : List (Addr × Obj)} {σ : L2.St} {H : Hp} {s : Shared} {C a : Addr} (I : Inv X pins σ H s) (h : IsExO H C a) : ∃ ox od, PySem.W.InstAt s.heap a ox C od := by
  obtain ⟨d, h1, h2⟩ := h
  obtain ⟨⟨oe, vs, e1, e2, e3⟩, _⟩ := I.hok a _ h1
  obtain ⟨oc, od, dt, sl⟩ := oe
  obtain ⟨e4, e5⟩ := e2
  simp only at e4 e5 e3
  subst e4 e5 e3
  rcases h2 with rfl | ⟨dd, fs, rfl, h3⟩
  · exact ⟨_, none, e1, rfl, rfl, trivial⟩
  · obtain ⟨mA, hns, _⟩ := I.hok dd _ h3
    obtain ⟨oD, ho, _⟩ := lookIn_ns hns
    exact ⟨_, some oD, e1, rfl, rfl, ho⟩
def rIsX (K : PySem.W.Frag) : List V → Hp → VK → Prop := fun xs H Q => ∃ (C a : Addr) (c : V) (cv : Value) (b : Bool), xs = [.ref a, c] ∧ ExcC K C ∧ IsExO H C a ∧ (∀ u, RelV c u → u = cv) ∧ PySem.W.kitOne K (.ref C) cv = some b ∧ Q (.bl b) H
theorem call_isX {X : Cx} : CallR X (.builtin "isinstance") (rIsX X.K) := by
  intro pins s σ H xs us Q I r h
  obtain ⟨C, a, c, cv, b, rfl, ec, io, hcv, e, q⟩ := h
  obtain ⟨u1, u2, rfl, r1, r2⟩ := vals2 r
  cases (show u1 = Value.ref a from r1)
  have e2 := hcv _ r2
  subst e2
  obtain ⟨ox, od, J⟩ := inst_of I io
  obtain ⟨cd, hcd, _⟩ := PySem.W.any_some ec.hd
  exact PySem.W.kia_one (PySem.W.kitx_exc (by rw [hcd]; rfl) ec.hg ec.hk ec.hs ec.ha ec.hn ec.ht ec.hm) I.kIn J e (fun z => nomatch z) fun tk => ⟨.bl b, H, I.kept (t' := tk) fun _ _ z => z, rfl, q⟩
def rIsXT (K : PySem.W.Frag) : List V → Hp → VK → Prop := fun xs H Q => ∃ (C a tp : Addr) (cs : List V) (us : List Value) (b : Bool), xs = [.ref a, .ref tp] ∧ H tp = some (.tup cs) ∧ Paired ClsV cs us ∧ ExcC K C ∧ IsExO H C a ∧ PySem.W.kitAny K (.ref C) us = some b ∧ Q (.bl b) H
theorem call_isXT {X : Cx} : CallR X (.builtin "isinstance") (rIsXT X.K) := by
  intro pins s σ H xs us Q I r h
  obtain ⟨C, a, tp, cs, ws, b, rfl, hT, k, ec, io, e, q⟩ := h
  obtain ⟨u1, u2, rfl, r1, r2⟩ := vals2 r
  cases (show u1 = Value.ref a from r1)
  cases (show u2 = Value.ref tp from r2)
  obtain ⟨ox, od, J⟩ := inst_of I io
  obtain ⟨cd, hcd, _⟩ := PySem.W.any_some ec.hd
  obtain ⟨_, its, rv, o, h1, h2, n, h3⟩ := (show ObjOk X.prog X.w H s.heap tp (.tup cs) from I.hok tp _ hT)
  have e3 := ClsV.all k rv
  subst e3
  obtain ⟨oc, od', dt, sl⟩ := o
  simp only at h2 h3
  subst h2 h3
  exact PySem.W.kia_tup (PySem.W.kitx_exc (by rw [hcd]; rfl) ec.hg ec.hk ec.hs ec.ha ec.hn ec.ht ec.hm) I.kIn J h1 e (fun z => nomatch z) fun tk => ⟨.bl b, H, I.tok tk, rfl, q⟩
def pIsX (is : List (Nat × Bool)) : P1 := fun o m => match o with
  | .exc c _ => (match is.lookup c with
    | some b => some (.bl b, m)
    | none => none)
  | _ => none
section
variable {X : Cx} {ct : CT} {W : WX} {e : Expr} {me : M O} {x : Str} {q1 q2 pos : Pos} {is : List (Nat × Bool)} {cv : Value} {D : Addr}
theorem exo_of {K : PySem.W.Frag} {F H : Hp} {ad : List Addr} {c : Nat} {ds : List Dl.D} {v : V} (e : Same F H) (h : Rep K ct F ad (.exc c ds) v) : ∃ a, v = .ref a ∧ IsExO H (ct.ca c) a := by
  unfold Rep at h
  obtain ⟨a, d, vs, rfl, h1, h2, h3⟩ := h
  refine ⟨a, rfl, d, e _ _ h1, ?_⟩
  rcases h2 with ⟨_, rfl⟩ | ⟨dd, rfl, h4, _⟩
  · exact .inl rfl
  · exact .inr ⟨dd, _, rfl, e _ _ h4⟩
theorem pd_isX (his : ∀ p ∈ is, ExcC X.K (ct.ca p.1) ∧ PySem.W.kitOne X.K (.ref (ct.ca p.1)) (.ref D) = some p.2) (hg : Gl X "isinstance") (hm : X.mg "isinstance" = none) (hgT : Gl X x) (hmT : X.mg x = some (.ref D)) (he : PE X e (tE X.K ct W me)) (hdT : (x == ("__debug__" : Str)) = false := by decide)
    (h1 : starEach [e, .Name x q2] X.env = (false, eval e X.env) :: starEach [.Name x q2] X.env := by rfl) (h2 : starEach [.Name x q2] X.env = (false, eval (.Name x q2) X.env) :: starEach [] X.env := by rfl) (hpl : (backTo pos (starEach [.Name x q2] X.env)).any (·.1) = false := by rfl) :
    PE X (.Call (.Name "isinstance" q1) [e, .Name x q2] [] pos) (tE X.K ct W (m1 (pIsX is) me)) := by
  refine PE.imp (pe_callB call_isX hg hm (by decide +kernel) (pa_cons he (pa_cons (pe_glob (v := .ref D) hgT hmT rfl hdT) pa_nil h2) h1) (by decide) (by decide) h1 hpl) fun σ H Q h => ?_
  refine tG.imp (t_1 h) fun y H1 z => ?_
  obtain ⟨G, F, ad, M, o, hs, hr, h⟩ := z
  unfold pIsX at h
  split at h
  · rename_i c ds
    split at h
    · rename_i b q
      obtain ⟨a, rfl, io⟩ := exo_of hs.sub hr
      obtain ⟨z1, z2⟩ := his (c, b) (mem_lk q)
      exact ⟨ct.ca c, a, .ref D, .ref D, b, rfl, z1, io, fun u ru => ru, z2, PostP.now hs .bl h⟩
    · exact h.elim
  · exact h.elim
theorem pd_isXB {T : String} (his : ∀ p ∈ is, ExcC X.K (ct.ca p.1) ∧ PySem.W.kitOne X.K (.ref (ct.ca p.1)) (.type T) = some p.2) (hg : Gl X "isinstance") (hm : X.mg "isinstance" = none) (hgT : Gl X x) (hmT : X.mg x = none) (hv : bootBuiltins x = some (.type T)) (he : PE X e (tE X.K ct W me)) (hnT : x ≠ "__name__" := by decide) (hdT : (x == ("__debug__" : Str)) = false := by decide)
    (h1 : starEach [e, .Name x q2] X.env = (false, eval e X.env) :: starEach [.Name x q2] X.env := by rfl) (h2 : starEach [.Name x q2] X.env = (false, eval (.Name x q2) X.env) :: starEach [] X.env := by rfl) (hpl : (backTo pos (starEach [.Name x q2] X.env)).any (·.1) = false := by rfl) :
    PE X (.Call (.Name "isinstance" q1) [e, .Name x q2] [] pos) (tE X.K ct W (m1 (pIsX is) me)) := by
  refine PE.imp (pe_callB call_isX hg hm (by decide +kernel) (pa_cons he (pa_cons (pe_bltn (v := .ty T) hgT hmT hv rfl hnT hdT) pa_nil h2) h1) (by decide) (by decide) h1 hpl) fun σ H Q h => ?_
  refine tG.imp (t_1 h) fun y H1 z => ?_
  obtain ⟨G, F, ad, M, o, hs, hr, h⟩ := z
  unfold pIsX at h
  split at h
  · rename_i c ds
    split at h
    · rename_i b q
      obtain ⟨a, rfl, io⟩ := exo_of hs.sub hr
      obtain ⟨z1, z2⟩ := his (c, b) (mem_lk q)
      exact ⟨ct.ca c, a, .ty T, .type T, b, rfl, z1, io, fun u ru => ru, z2, PostP.now hs .bl h⟩
    · exact h.elim
  · exact h.elim
def pXf (fl : Nat → List Str) (cs : List Nat) (f : Str) : P1 := fun o m => match o with
  | .exc c ds => if c ∈ cs ∧ ds.length = (fl c).length then (match ((fl c).zip ds).lookup f with
    | some d => some (d, m)
    | none => none) else none
  | _ => none
theorem lookup_rep {K : PySem.W.Frag} {F : Hp} {ad : List Addr} {f : Str} {d : Dl.D} : ∀ {fs : List Str} {ds : List Dl.D} {vs : List V}, RepL K ct F ad ds vs → (fs.zip ds).lookup f = some d → ∃ v, (fs.zip vs).lookup f = some v ∧ Rep K ct F ad d v ∧ f ∈ fs
  | [], _, _, _, h => by simp at h
  | a :: fs, [], _, _, h => by simp at h
  | a :: fs, e :: ds, _, r, h => by
    obtain ⟨v, us, rfl, r1, r2⟩ := r.cases_cons
    rw [List.zip_cons_cons, List.lookup_cons] at h ⊢
    cases q : f == a with
    | true =>
      rw [q] at h
      cases h
      exact ⟨v, rfl, r1, by rw [show f = a by simpa using q]; exact List.mem_cons_self⟩
    | false =>
      rw [q] at h
      obtain ⟨u, z1, z2, z3⟩ := lookup_rep r2 h
      exact ⟨u, z1, z2, List.mem_cons_of_mem _ z3⟩
theorem pd_xf {f : Str} {cs : List Nat} (hcs : ∀ c ∈ cs, XCl X.K ct c) (he : PE X e (tE X.K ct W me)) (hb : attributeBase e f X.env (eval e X.env) = eval e X.env := by rfl) : PE X (.Attribute e f pos) (tE X.K ct W (m1 (pXf ct.fl cs f) me)) := by
  refine ⟨fun pins s σ H Q I h => ?_⟩
  refine attr_of hb (thn (he.run pins s σ H _ I (t_1 h)) fun u s1 hh => ?_)
  obtain ⟨x, H1, I1, rx, G, F, ad, M, o, hs, hr, h⟩ := hh
  unfold pXf at h
  split at h
  · rename_i c ds
    split at h
    · rename_i hc
      split at h
      · rename_i dd' q
        unfold Rep at hr
        obtain ⟨a, d, vs, rfl, h1, h2, h3⟩ := hr
        obtain rfl : u = Value.ref a := rx
        obtain ⟨v, z1, z2, z3⟩ := lookup_rep h3 q
        have XC := hcs c hc.1
        rcases h2 with ⟨rfl, _⟩ | ⟨dd, rfl, h4, _⟩
        · rw [List.zip_nil_right] at z1; cases z1
        · obtain ⟨⟨oe, fv, e1, e2, e3⟩, _⟩ := I1.hok a _ (hs.sub _ _ h1)
          obtain ⟨mA, hns, hrl⟩ := (show ObjOk X.prog X.w H1 s1.heap dd (.xd _) from I1.hok dd _ (hs.sub _ _ h4))
          obtain ⟨od, ho, hl⟩ := lookIn_ns hns
          obtain ⟨u, hu, ru⟩ := RelO.some_of (v := v) (o := mA f) (by rw [← z1]; exact hrl f)
          have J : PySem.W.InstAt s1.heap a oe (ct.ca c) (some od) := ⟨e1, e2.1, by unfold PySem.W.notCls; rw [e3] <;> rfl, by rw [e2.2]; exact ho⟩
          exact HandSPX.exc_get I1.kIn J XC.e.hg XC.e.hk XC.e.hs (PySem.W.findObj_own XC.e.hd (XC.fl f z3) rfl (by rw [hl, hu])) (handed_of ru) ⟨v, H1, I1.tok _, ru, PostP.now hs z2 h⟩
      · exact h.elim
    · exact h.elim
  · exact h.elim
end
end Dl

set_option maxRecDepth 100000
set_option maxHeartbeats 2000000
namespace Dl
open PySem PySem.Spec PyProof.Rows L2
theorem FunD.same {K : PySem.W.Frag} {x qual x' qual' : Str} {params params' : Arguments} {body body' : List Stmt} {scope scope' : Scope} {dvs dvs' : List V} {kws kws' : List (Str × V)} {f : Addr} {fd fd' : FuncData} (a : FunD K x qual params body scope dvs kws f fd) (b : FunD K x' qual' params' body' scope' dvs' kws' f fd') : fd = fd' := by
  obtain ⟨_, _, _, _, _, _, _, _, _, _, _, h1, _⟩ := a.ex
  obtain ⟨_, _, _, _, _, _, _, _, _, _, _, h2, _⟩ := b.ex
  rw [h1] at h2
  cases h2
  rfl
def OkK (P : Program) (w : World) (K : PySem.W.Frag) (ct : CT) (mg : Str → Option Value) (base : Heap) (k : Nat) (x : Str) (n : Nat) (ks : List Str) (m : Nat) (gO : List O → List O → List O) (φ : Fn) : Prop := ∃ fa fd ps g gV, mg x = some (.ref fa) ∧ PySem.W.keepIn K (.ref fa) = true ∧ KBn K fd ps n ks g gV ∧
  (∀ {F ad os us vs ws}, RepOs K ct F ad os vs → RepOs K ct F ad us ws → os.length = n → us.length = ks.length → RepOs K ct F ad (gO os us) (gV vs ws)) ∧
  FnOk P w K mg base (L2.CX P w) k fa fd ps (spD K ct m φ) ∧ ∀ os m', φ os m' ≠ .bad → os.length = m
section
variable {P : Program} {w : World} {K : PySem.W.Frag} {ct : CT} {mg : Str → Option Value} {base : Heap} {k n : Nat} {x qual : Str} {ps ks : List Str} {φ : Fn} {params : Arguments} {body : List Stmt} {scope : Scope} {dvs : List V} {kws : List (Str × V)} {gO : List O → List O → List O} {gV : List V → List V → List V}
theorem Ok.kw (h : Ok P w K ct mg base k x ps φ) (D : IsDef K mg x qual params body scope dvs kws) (hk : ∀ fa fd, FunD K x qual params body scope dvs kws fa fd → ∃ g, KBn K fd ps n ks g gV)
    (hrel : ∀ {F ad os us vs ws}, RepOs K ct F ad os vs → RepOs K ct F ad us ws → os.length = n → us.length = ks.length → RepOs K ct F ad (gO os us) (gV vs ws)) : OkK P w K ct mg base k x n ks ps.length gO φ := by
  obtain ⟨fa, fd, h1, h2, h3, h4, h5, q, pr, bd, sc, dv, kw, h6⟩ := h
  obtain ⟨fa', fd', e1, F⟩ := D
  rw [h1] at e1
  cases e1
  have e2 := FunD.same h6 F
  subst e2
  obtain ⟨g, hg⟩ := hk fa fd F
  exact ⟨fa, fd, ps, g, gV, h1, h2, hg, hrel, h4, h5⟩
end
section
variable {X : Cx} {ct : CT} {W : WX} {k n m : Nat} {ps ks : List Str} {φ : Fn} {x : Str} {q pos : Pos} {e : Expr} {es : List Expr} {mes mks : M (List O)} {kws : List Keyword} {gO : List O → List O → List O}
theorem OkK.call (h : OkK X.prog X.w X.K ct X.mg X.base k x n ks m gO φ) (hr : Room k X.A) (hx : Pas X W)
    (ha : PA X (e :: es) (tA X.K ct W mes)) (hkw : PK X kws (tA X.K ct W mks)) (hg : Gl X x := by rfl) (hall : (backToKw pos (keywordEach kws X.env)).all (·.1.isSome) = true := by rfl) (hks : (backToKw pos (keywordEach kws X.env)).filterMap (·.1) = ks := by rfl)
    (hdb : (x == ("__debug__" : Str)) = false := by decide) (he : starEach (e :: es) X.env = (false, eval e X.env) :: starEach es X.env := by rfl)
    (hpl : ((backTo pos (starEach (e :: es) X.env)).any (·.1) || (backToKw pos (keywordEach kws X.env)).any (·.1.isNone)) = false := by rfl) :
    PE X (.Call (.Name x q) (e :: es) kws pos) (tE X.K ct W (mCallK φ n ks.length gO mes mks)) := by
  obtain ⟨fa, fd, ps, g, gV, h1, h2, h3, h4, h5, h6⟩ := h
  exact pd_callK h5 h6 hr hx h1 h2 h3 ⟨h4⟩ ha hkw hg hall hks hdb he hpl
theorem OkK.call0 (h : OkK X.prog X.w X.K ct X.mg X.base k x 0 ks m gO φ) (hr : Room k X.A) (hx : Pas X W)
    (hkw : PK X kws (tA X.K ct W mks)) (hg : Gl X x := by rfl) (hall : (backToKw pos (keywordEach kws X.env)).all (·.1.isSome) = true := by rfl) (hks : (backToKw pos (keywordEach kws X.env)).filterMap (·.1) = ks := by rfl)
    (hdb : (x == ("__debug__" : Str)) = false := by decide) (hpl : ((backTo pos (starEach [] X.env)).any (·.1) || (backToKw pos (keywordEach kws X.env)).any (·.1.isNone)) = false := by rfl) :
    PE X (.Call (.Name x q) [] kws pos) (tE X.K ct W (mCallK φ 0 ks.length gO mNil mks)) := by
  obtain ⟨fa, fd, ps, g, gV, h1, h2, h3, h4, h5, h6⟩ := h
  exact pd_callK0 h5 h6 hr hx h1 h2 h3 ⟨h4⟩ hkw hg hall hks hdb hpl
end
def permL {α : Type} (ix : List Nat) (xs ys : List α) : List α := ix.filterMap fun i => (xs ++ ys)[i]?
theorem vals_perm {ix : List Nat} {vs zs : List V} {us ws : List Value} (h1 : Vals vs us) (h2 : Vals zs ws) : Vals (permL ix vs zs) (permL ix us ws) := by
  have h := h1.append h2
  unfold permL
  induction ix with
  | nil => exact .nil
  | cons i ix ih =>
    rw [List.filterMap_cons, List.filterMap_cons]
    cases e : (vs ++ zs)[i]? with
    | none =>
      have : (us ++ ws)[i]? = none := by
        rw [List.getElem?_eq_none_iff] at e ⊢
        rw [← h.length]; exact e
      rw [this]; exact ih
    | some v =>
      obtain ⟨u, hu, r⟩ := h.get e
      rw [hu]; exact .cons r ih
theorem rep_perm {K : PySem.W.Frag} {ct : CT} {F : Hp} {ad : List Addr} {ix : List Nat} {os us : List O} {vs ws : List V} (h1 : RepOs K ct F ad os vs) (h2 : RepOs K ct F ad us ws) : RepOs K ct F ad (permL ix os us) (permL ix vs ws) := by
  have h := RepL.append h1 h2
  unfold permL
  induction ix with
  | nil => exact .nil
  | cons i ix ih =>
    rw [List.filterMap_cons, List.filterMap_cons]
    cases e : (os ++ us)[i]? with
    | none =>
      have : (vs ++ ws)[i]? = none := by
        rw [List.getElem?_eq_none_iff] at e ⊢
        rw [h.length]; exact e
      rw [this]; exact ih
    | some v =>
      obtain ⟨u, hu, r⟩ := h.get e
      rw [hu]; exact .cons r ih
theorem Ok.perm {P : Program} {w : World} {K : PySem.W.Frag} {ct : CT} {mg : Str → Option Value} {base : Heap} {k n : Nat} {x qual : Str} {ps ks : List Str} {φ : Fn} {params : Arguments} {body : List Stmt} {scope : Scope} (ix : List Nat) (h : Ok P w K ct mg base k x ps φ) (D : IsDef K mg x qual params body scope [] [])
    (hb : ∀ (kV doc pm : Value) (an : Option Addr) (cdv ct : Value) (us ws : List Value), us.length = n → ws.length = ks.length → bindArgs (PySem.W.fnOf x qual params body scope .none kV doc pm an cdv ct) ⟨us, ks.zip ws⟩ = pure (ps.zip (permL ix us ws))) : OkK P w K ct mg base k x n ks ps.length (permL ix) φ := by
  refine h.kw D (gV := permL ix) (fun fa fd F => ⟨permL ix, ⟨fun s us ws _ h1 h2 => ?_, fun r1 r2 => vals_perm r1 r2⟩⟩) fun r1 r2 _ _ => rep_perm r1 r2
  obtain ⟨oc, od, dV, kV, doc, pm, an, cdv, ct, osl, rfl, lk, hcd, hD, hK⟩ := F.ex
  rcases hD with ⟨_, rfl⟩ | ⟨e, _⟩
  · exact .of_eq (hb kV doc pm an cdv ct us ws h1 h2)
  · exact absurd rfl e
end Dl

set_option maxRecDepth 100000
set_option maxHeartbeats 2000000
namespace Dl
open PySem PySem.Spec PyProof.Rows L2 He
open PySem.W (codeIn nsIn findIn typeIn keepIn subIn clsIn mroIn hasDictIn ks_superIn excInitIn specialIn takesIn ksFn Frag)


structure XD where
  name : Str
  qual : Str
  params : Arguments
  body : List Stmt
  scope : Scope
  ps : List Str
  fl : List (Str × Str)
abbrev FnX : Type := Option (Str × Str × Arguments × FuncBody × Scope × Addr × List Str × Addr)
def fnX (K : Frag) (x : Str) : FnX := match K.lookup (ma K (ga K x) "__init__") with
  | some ⟨_, _, .func fd, _⟩ => some (fd.name, fd.qualname, fd.params, fd.body, fd.scope, fd.globals, fd.closure.map (·.1), fd.builtins)
  | _ => none
def XD.val (d : XD) : FnX := some ("__init__", d.qual, d.params, .stmts d.body, d.scope, mainGlobals, [("__class__" : Str)], builtinsNs)
def ecB (K : Frag) (C : Addr) : Bool := He.eqO (findIn K (.ref C) "__getattribute__") (some (some (.builtin "BaseException.__getattribute__"))) && (He.eqO (findIn K (.ref C) "__getattr__") (some none) && (decide (subIn K (.ref C) (.type "BaseException") = some true) && (hasDictIn K C &&
  (He.eqO (findIn K (.ref C) "__class__") (some (some (.builtin "object.__class__"))) && (He.eqO (specialIn K (.builtin "object.__class__") "__get__") (some (some (.builtin "getset_descriptor.__get__"))) && (decide (takesIn K (.builtin "object.__class__") = some true) && decide (mroIn K C (.type "object") = some true)))))))
theorem ecB_ok {K : Frag} {C : Addr} (h : ecB K C = true) : ExcC K C := by
  obtain ⟨h1, h⟩ := ba h
  obtain ⟨h2, h⟩ := ba h
  obtain ⟨h3, h⟩ := ba h
  obtain ⟨h4, h⟩ := ba h
  obtain ⟨h5, h⟩ := ba h
  obtain ⟨h6, h⟩ := ba h
  obtain ⟨h7, h8⟩ := ba h
  exact ⟨He.eqO_ok h1, He.eqO_ok h2, of_decide_eq_true h3, h4, He.eqO_ok h5, He.eqO_ok h6, of_decide_eq_true h7, of_decide_eq_true h8⟩
def codeB (file : Str) (K : Frag) (v : Value) : Bool := match v with
  | .ref c => (match K.lookup c with
    | some ⟨_, _, .fields vs, _⟩ => (match (vs[2]? : Option Value) with
      | some (.str f _) => file == f
      | _ => false)
    | _ => false)
  | _ => false
def cellB (K : Frag) (C : Addr) : List (Str × Addr) → Bool
  | [(_, cc)] => (match K.lookup cc with
    | some ⟨_, _, .cell (some (.ref D)), _⟩ => D == C
    | _ => false)
  | _ => false
def initB (file : Str) (K : Frag) (C f : Addr) (q : Str) : Bool := match K.lookup f with
  | some ⟨_, _, .func fd, _⟩ => (match fd.defaults, fd.kwdefaults with
    | .none, .none => codeIn K fd.code q && (codeB file K fd.code && cellB K C fd.closure)
    | _, _ => false)
  | _ => false
def XD.ok (file : Str) (K : Frag) (d : XD) : Bool := He.eqO (nsIn K mainGlobals d.name) (some (some (.ref (ga K d.name)))) && (excInitIn K (ga K d.name) veBase "ValueError.__new__" && (ecB K (ga K d.name) &&
  (He.eqO (findIn K (.ref (ga K d.name)) "__setattr__") (some (some (.builtin "object.__setattr__"))) && ((d.fl.all fun q => He.eqO (findIn K (.ref (ga K d.name)) q.1) (some none)) && (keepIn K (.ref (ga K d.name)) &&
  (decide (subIn K (.ref (ga K d.name)) (.type "ValueError") = some true) && (decide (typeIn K (.ref (ga K d.name)) = some (.type "type")) && (decide (mroIn K (ga K d.name) (.ref (ga K d.name)) = some true) &&
  (He.eqO (ks_superIn K (ga K d.name) (ga K d.name) "__init__") (some (some (.builtin "ValueError.__init__"))) && (He.eqO (findIn K (.ref (ga K d.name)) "__init__") (some (some (.ref (ma K (ga K d.name) "__init__")))) &&
  (decide (typeIn K (.ref (ma K (ga K d.name) "__init__")) = some (.type "function")) && initB file K (ga K d.name) (ma K (ga K d.name) "__init__") d.qual)))))))))))
theorem tail_refs : ∀ {l : List Value}, PySem.W.excTail veBase l = true → PySem.HandSPX.refsVE l = true := by
  intro l
  induction l with
  | nil => intro e; exact absurd e (by decide)
  | cons a r ih =>
    intro e
    rcases PySem.W.excTail_cases (a :: r) e with ⟨c, r', q, h⟩ | q
    · obtain ⟨rfl, rfl⟩ := List.cons.inj q
      exact ih h
    · rw [q]; decide +kernel
theorem exc_cls {K : Frag} {C : Addr} (q : excInitIn K C veBase "ValueError.__new__" = true) (hd : hasDictIn K C = true) : ∃ nm q N bs bm sn sub ab col dd k0 k1 k2 k3 k5, K.lookup C = some (excClassObj nm q C N bs bm true sn sub ab col dd k0 k1 k2 k3 k5 "ValueError.__new__") ∧ PySem.HandSPX.refsVE bm = true := by
  unfold excInitIn at q
  split at q
  · rename_i dd cd sl ho
    split at q
    · rename_i C' bm k0 k1 k2 k3 n k5 hm hs
      simp only [Bool.and_eq_true, beq_iff_eq, Bool.not_eq_true'] at q
      obtain ⟨⟨⟨rfl, rfl⟩, hdel⟩, ht⟩ := q
      obtain ⟨nm, bs, mro, ns, qn, hd', sn, sub, ab, col, del⟩ := cd
      dsimp only at hm hdel
      subst hm hdel
      have hsl : sl = #[k0, k1, k2, k3, some (.builtin "ValueError.__new__"), k5] := by
        obtain ⟨l⟩ := sl
        simp only at hs
        rw [hs]
      subst hsl
      have e : hd' = true := by
        unfold hasDictIn clsIn at hd
        rw [ho] at hd
        exact hd
      subst e
      exact ⟨nm, qn, ns, bs, bm, sn, sub, ab, col, dd, k0, k1, k2, k3, k5, ho, tail_refs ht⟩
    · cases q
  · cases q
structure XDS (d : XD) : Prop where
  b : InitB d.body d.fl
  bind : ∀ (doc pm : Value) (an : Option Addr) (cda cc : Addr) (ct : Value) (us : List Value), us.length = d.ps.length → bindArgs (ksFn "__init__" d.qual d.params d.body d.scope .none .none doc pm an (.ref cda) ct cc) ⟨us, []⟩ = pure (d.ps.zip us)
  hd : ∃ ar, (d.params.posonlyargs ++ d.params.args).head? = some ar ∧ ar.arg = "self"
  sc : (d.ps.head? = some ("self" : Str) ∧ d.ps.Nodup) ∧ (∀ p ∈ d.ps, d.scope.names.lookup p = some .local) ∧ (∀ y ∈ d.scope.names, y.2 ≠ .cell) ∧ d.scope.names.lookup ("super" : Str) = some .globalImplicit ∧ d.scope.names.lookup ("__class__" : Str) = some .free ∧
    d.scope.kind = .function ∧ d.scope.isCoroutine = false ∧ d.scope.isGenerator = false ∧ (∀ q ∈ d.fl, q.2 ∈ d.ps ∧ q.2 ≠ "self" ∧ (q.2 == ("__debug__" : Str)) = false)
theorem xtxt_of {P : Program} {K : Frag} {mg : Str → Option Value} {h : Heap} {d : XD} (X : K.In h) (G : h.Ns mainGlobals mg) (S : XDS d) (e : fnX K d.name = d.val) (c : d.ok P.main.file K = true) (sup : mg "super" = none) (opq : nsIn K cStatics "thirdparty.any" = some none)
    (top : (P.main.scope.names.lookup ("super" : Str)).isSome = false) : XTxt P K mg d.name (ga K d.name) d.ps d.fl := by
  obtain ⟨c1, c⟩ := ba c
  obtain ⟨c2, c⟩ := ba c
  obtain ⟨c3, c⟩ := ba c
  obtain ⟨c4, c⟩ := ba c
  obtain ⟨c5, c⟩ := ba c
  obtain ⟨c6, c⟩ := ba c
  obtain ⟨c7, c⟩ := ba c
  obtain ⟨c8, c⟩ := ba c
  obtain ⟨c9, c⟩ := ba c
  obtain ⟨c10, c⟩ := ba c
  obtain ⟨c11, c⟩ := ba c
  obtain ⟨c12, c13⟩ := ba c
  have ec := ecB_ok c3
  refine ⟨PySem.W.mg_of X G (He.eqO_ok c1), exc_cls c2 ec.hd, He.eqO_ok c4, fun f hf => ?_, c6, ec.hs, of_decide_eq_true c7, of_decide_eq_true c8, of_decide_eq_true c9, sup, opq, He.eqO_ok c10, c2, top, ?_⟩
  · obtain ⟨q, hq, rfl⟩ := List.mem_map.mp hf
    exact He.eqO_ok (List.all_eq_true.mp c5 q hq)
  · obtain ⟨ar, a1, a2⟩ := S.hd
    obtain ⟨⟨s1, s2⟩, s3, s4, s5, s6, s7, s8, s9, s10⟩ := S.sc
    unfold initB at c13
    unfold fnX at e
    cases q : K.lookup (ma K (ga K d.name) "__init__") with
    | none => rw [q] at c13; cases c13
    | some o =>
      obtain ⟨oc, od, dt, osl⟩ := o
      rw [q] at c13 e
      cases dt with
      | func fd =>
        obtain ⟨n1, n2, n3, n4, n5, n6, n7, n8, n9, n10, n11, n12, n13, n14, n15⟩ := fd
        have e2 : (some (n1, n2, n3, n4, n5, n6, n7.map (·.1), n15) : FnX) = some (("__init__" : Str), d.qual, d.params, .stmts d.body, d.scope, mainGlobals, [("__class__" : Str)], builtinsNs) := e
        simp only [Option.some.injEq, Prod.mk.injEq] at e2
        obtain ⟨h1, h2, h3, h4, h5, h6, h7, h8⟩ := e2
        subst h1 h2 h3 h4 h5 h6 h8
        simp only at c13
        split at c13
        · obtain ⟨k1, k2⟩ := ba c13
          obtain ⟨k3, k4⟩ := ba k2
          unfold codeB at k3
          unfold cellB at k4
          cases n13 with
          | ref cda =>
            simp only at k3
            split at k3
            · rename_i ccl cdd vs ccs qc
              split at k3
              · rename_i file tf qv
                split at k4
                · rename_i nm cc
                  split at k4
                  · rename_i cl cld DD csl qq
                    have en : nm = "__class__" := by simpa using h7
                    have eD : DD = ga K d.name := by simpa using k4
                    subst en eD
                    exact ⟨_, cc, cda, d.qual, d.params, d.body, d.scope, ar, oc, od, n10, n11, n12, n14, osl, ccl, cdd, vs, ccs, file, tf, cl, cld, csl, He.eqO_ok c11, of_decide_eq_true c12, q, k1, S.b, fun us hl => S.bind n10 n11 n12 cda cc n14 us hl, a1, a2, s1, s2, qc, qv, k3, qq, s3, s4, s5, s6, s7, s8, s9, s10⟩
                  · cases k4
                · cases k4
              · cases k3
            · cases k3
          | _ => cases k3
        · cases c13
      | _ => cases c13


abbrev AlX : Type := AlD × List FnX × Bool
def obsX (file : Str) (fa : List Fa) (fn : List DefD) (xs : List XD) (bs : List (Frag → Bool)) (K : Frag) : AlX := (obsD fa fn K, xs.map (fun d => fnX K d.name), (xs.all fun d => d.ok file K) && bs.all fun b => b K)
def valX (fn : List DefD) (xs : List XD) : AlX := (valD fn, xs.map XD.val, true)
def obsXG (file : Str) (n : Nat) (fa : List Fa) (fn : List DefD) (xs : List XD) (bs : List (Frag → Bool)) (g : Addr → Option Obj) : AlX := obsX file fa fn xs bs (frG g (cStatics :: asD g n))
def hookX (file : Str) (n : Nat) (fa : List Fa) (fn : List DefD) (xs : List XD) (bs : List (Frag → Bool)) : PySem.W.Hook where
  α := AlX
  obs := fun s => obsXG file n fa fn xs bs s.heap.get?
  val := fun _ => valX fn xs
  says := fun _ h => ∃ K : Frag, K.In h ∧ obsX file fa fn xs bs K = valX fn xs
  of := fun _ _ e => ⟨_, frG_in, e⟩
  keeps := fun _ _ _ ⟨K, hK, c⟩ k => ⟨K, PySem.W.Frag.In.keeps hK k, c⟩
theorem obsXG_eq {file : Str} {n : Nat} {fa : List Fa} {fn : List DefD} {xs : List XD} {bs : List (Frag → Bool)} {g : Addr → Option Obj} {s : Shared} (h : ∀ a, g a = s.heap.get? a) : obsXG file n fa fn xs bs g = (hookX file n fa fn xs bs).obs s := by
  have e : g = s.heap.get? := funext h
  rw [e] <;> rfl
section
variable {file : Str} {fa : List Fa} {fn : List DefD} {xs : List XD} {bs : List (Frag → Bool)} {K : Frag}
theorem saysX_D (c : obsX file fa fn xs bs K = valX fn xs) : SaysD fa fn K := congrArg (fun z : AlX => z.1) c
theorem saysX_b (c : obsX file fa fn xs bs K = valX fn xs) (i : Nat) {b : Frag → Bool} (h : bs[i]? = some b := by rfl) : b K = true := by
  have c1 := (ba (show ((xs.all fun d => d.ok file K) && bs.all fun b => b K) = true from congrArg (fun z : AlX => z.2.2) c)).2
  exact List.all_eq_true.mp c1 b (List.mem_of_getElem? h)
theorem saysX_x (c : obsX file fa fn xs bs K = valX fn xs) (i : Nat) {d : XD} (h : xs[i]? = some d := by rfl) : fnX K d.name = d.val ∧ d.ok file K = true := by
  have c1 := (ba (show ((xs.all fun d => d.ok file K) && bs.all fun b => b K) = true from congrArg (fun z : AlX => z.2.2) c)).1
  have e : xs.map (fun d => fnX K d.name) = xs.map XD.val := congrArg (fun z : AlX => z.2.1) c
  have e2 : (xs.map fun d => fnX K d.name)[i]? = (xs.map XD.val)[i]? := by rw [e]
  rw [List.getElem?_map, List.getElem?_map, h] at e2
  exact ⟨Option.some.inj e2, List.all_eq_true.mp c1 d (List.mem_of_getElem? h)⟩
end
end Dl

set_option maxRecDepth 100000
set_option maxHeartbeats 2000000
namespace Dl
open PySem PySem.Spec PyProof.Rows L2 He
open PySem.W (Frag)

theorem cx_no {P : Program} {w : World} {o : List Env} {H : Hp} {s s' : Shared} {e : Value} (h : L2.CX P w o H s (fun _ _ _ => False) e s') : False := by
  obtain ⟨_, _, _, _, _, _, _, _, _, _, _, _, z⟩ := h
  exact z.elim
theorem ok_quiet {P : Program} {w : World} {K : Frag} {mg : Str → Option Value} {base : Heap} {k : Nat} {f : Addr} {fd : FuncData} {ps : List Str} {sp : Sp} (F : FnOk P w K mg base (L2.CX P w) k f fd ps sp) : FnOk P w K mg base CX0 k f fd ps (fun vs H Q _ => sp vs H Q fun _ _ _ => False) := by
  refine ⟨fun vs H Q E h => F.len _ _ _ _ h, fun A outer s H args us vs Q E hr e0 hb r h => ?_⟩
  refine codeAny_mono (F.run A outer s H args us vs Q _ hr e0 hb r h) fun r s' z => ?_
  match r, z with
  | .error e, z => exact (cx_no z).elim
  | .ok (.ret u), z => exact z
theorem walk_law {l : PySem.W.OpenLaw} {k : Nat} {q : Program} {loose : List Str} {XP : (Str → Option Value) → Heap → Prop} {YP : World → Heap → Prop} {d : DefRec} {x : Str} {φ : Fn}
    (hn : l.most = some 63) (hdf : d.params.defaults = []) (hr : Room k callerA)
    (F : ∀ (w : World) (mg : Str → Option Value) (h : Heap), YP w h → h.Ns mainGlobals mg → ∃ (K : Frag) (ct : CT) (qual : Str) (params : Arguments) (body : List Stmt) (scope : Scope), K.In h ∧ IsDef K mg d.name qual params body scope [] [] ∧
      (∀ (kV doc pm : Value) (an : Option Addr) (cdv ct : Value) (u : Value), bindArgs (PySem.W.fnOf d.name qual params body scope .none kV doc pm an cdv ct) ⟨[u], []⟩ = pure [(x, u)]) ∧ ∀ base : Heap, K.In base → base.Ns mainGlobals mg → Ok l.prog w K ct mg base k d.name [x] φ)
    (hφ : ∀ ns : List Int, ns.length ≤ 63 → ∃ m, φ [.scr ns] [] = .ok (.bl true) m) : PySem.W.WalkO q loose XP YP l.row.toRowW d [] (fun f vs => PySem.call f vs) := by
  refine L2.walk_ofE (l := l) (n := 63) (k := k) (x := x) (CX := CX0) hn (by rw [sizeLine_eq]; decide) hdf hr (fun w mg fa h Y G hmg => ?_) (fun _ _ _ _ z => z)
  obtain ⟨K, ct, qual, params, body, scope, KX, D, hb, hok⟩ := F w mg h Y G
  obtain ⟨fa', fd, e1, FD⟩ := D
  rw [hmg] at e1
  cases e1
  refine ⟨K, fd, fun vs H Q _ => spD K ct 1 φ vs H Q fun _ _ _ => False, KX, fun s u => ?_, fun H a ns hl ho hs => ?_, fun base hb1 hb2 => ?_⟩
  · have b := FunD.bindsA (ps := [x]) FD (fun kV doc pm an cdv ct us hl => match us, hl with | [u], _ => hb kV doc pm an cdv ct u)
    exact b s [u] rfl
  · obtain ⟨m, e⟩ := hφ ns hl
    refine ⟨fun _ => none, H, [], [], [.scr ns], ⟨Same.refl _, rfl, List.nodup_nil, (fun k c a h1 _ => by simp at h1), (fun a o q => by cases q), (fun a ha => by cases ha)⟩, .cons ?_ .nil, rfl, ?_⟩
    · unfold Rep
      exact ⟨a, rfl, hs⟩
    · rw [e]
      intro v F' H' ad' _ _ r
      exact r.bl_
  · obtain ⟨fa2, fd2, g1, g2, g3, g4, g5, _, _, _, _, _, _, g6⟩ := hok base hb1 hb2
    rw [hmg] at g1
    cases g1
    have e2 := FunD.same g6 FD
    subst e2
    exact ok_quiet g4

def isB_ (K : Frag) (nm : Nat → Str) (t : Frag → Value) (tab : List (Nat × Bool)) : Bool := tab.all fun p => ecB K (ga K (nm p.1)) && decide (PySem.W.kitOne K (.ref (ga K (nm p.1))) (t K) = some p.2)
theorem isB_ok {K : Frag} {nm : Nat → Str} {t : Frag → Value} {tab : List (Nat × Bool)} (h : isB_ K nm t tab = true) : ∀ p ∈ tab, ExcC K (ga K (nm p.1)) ∧ PySem.W.kitOne K (.ref (ga K (nm p.1))) (t K) = some p.2 := fun p hp => by
  obtain ⟨h1, h2⟩ := ba (List.all_eq_true.mp h p hp)
  exact ⟨ecB_ok h1, of_decide_eq_true h2⟩
def emB (K : Frag) (nm : Nat → Str) (d : Str) (tab : List (Nat × Bool)) : Bool := tab.all fun p => decide (PySem.W.exmOne K (.ref (ga K (nm p.1))) (.ref (ga K d)) = some p.2)
theorem emB_ok {K : Frag} {nm : Nat → Str} {d : Str} {tab : List (Nat × Bool)} (h : emB K nm d tab = true) : ∀ p ∈ tab, PySem.W.exmOne K (.ref (ga K (nm p.1))) (.ref (ga K d)) = some p.2 := fun p hp => of_decide_eq_true (List.all_eq_true.mp h p hp)
def xlB (K : Frag) (nm : Nat → Str) (fl : Nat → List Str) (cs : List Nat) : Bool := cs.all fun c => ecB K (ga K (nm c)) && (fl c).all fun f => He.eqO (PySem.W.findIn K (.ref (ga K (nm c))) f) (some none)
theorem xlB_ok {K : Frag} {nm : Nat → Str} {fl : Nat → List Str} {cs : List Nat} (h : xlB K nm fl cs = true) : ∀ c ∈ cs, XCl K ⟨fun c => ga K (nm c), fl⟩ c := fun c hc => by
  obtain ⟨h1, h2⟩ := ba (List.all_eq_true.mp h c hc)
  exact ⟨ecB_ok h1, fun f hf => He.eqO_ok (List.all_eq_true.mp h2 f hf)⟩
def opB (K : Frag) : Bool := He.eqO (PySem.W.nsIn K cStatics "thirdparty.any") (some none)
def iniOf (st : Stmt) : Stmt := match st with
  | .ClassDef _ _ _ body _ _ _ _ _ _ _ => body.getD 0 (.Pass ⟨0, 0, 0, 0⟩)
  | _ => .Pass ⟨0, 0, 0, 0⟩
end Dl
namespace Dl
open PySem PySem.Spec PyProof.Rows L2
def mFrz (m : M O) : M O := bnd m fun o s => match frz o s.mem with
  | some p => .ok p.1 { s with mem := p.2 }
  | none => .bad
theorem pd_frz {X : Cx} {ct : CT} {W : WX} {e : Expr} {me : M O} (h : PE X e (tE X.K ct W me)) : PE X e (tE X.K ct W (mFrz me)) := by
  refine PE.imp h fun σ H Q z => ?_
  obtain ⟨G, F, ad, s, hs, he, z⟩ := z
  refine tG.imp (post_bnd (ρ := RepO X.K ct) hs he z) fun x H1 q => ?_
  obtain ⟨F1, ad1, s1, o, l1, hs1, he1, hr, h1⟩ := q
  cases e1 : frz o s1.mem with
  | none => simp only [e1] at h1; exact h1.elim
  | some p =>
    simp only [e1] at h1
    obtain ⟨F2, l2, hs2, r2⟩ := hs1.frz hr e1
    exact h1 x F2 H1 ad1 l2 hs2 (he1.mono l2) r2
end Dl

set_option maxRecDepth 100000
set_option maxHeartbeats 2000000
namespace Dl
open PySem PySem.Spec PyProof.Rows L2

def iso (φ : Fn) : Fn := fun os m => if D.loL 0 os = true then (match φ os [] with
  | .ok d m' => if m'.isEmpty && D.lo 0 d then .ok d m else .bad
  | .exc x m' => if m'.isEmpty && D.lo 0 x then .exc x m else .bad
  | .bad => .bad) else .bad
section
variable {K : PySem.W.Frag} {ct : CT} {G F H F' H' : Hp} {ad ad' : List Addr} {M : Mem}
open Classical in
noncomputable def gOf (G F H : Hp) (ad : List Addr) : Hp := fun a => if a ∈ ad ∧ F a = none then H a else G a
theorem iso_pre (hs : Sx K ct G F H ad M) : Sx K ct (gOf G F H ad) F H [] [] := by
  refine ⟨hs.sub, rfl, List.nodup_nil, (fun k c a h _ => by simp at h), fun a o q => ?_, (fun a h => by cases h)⟩
  unfold gOf at q
  by_cases c : a ∈ ad ∧ F a = none
  · rw [if_pos c] at q
    exact ⟨q, c.2, by simp⟩
  · rw [if_neg c] at q
    obtain ⟨h1, h2, _⟩ := hs.frm a o q
    exact ⟨h1, h2, by simp⟩
theorem iso_post (hs : Sx K ct G F H ad M) (l : Le F [] F' ad') (x : Sx K ct (gOf G F H ad) F' H' ad' []) : Sx K ct G F' H' ad M ∧ Le F ad F' ad := by
  have l2 : Le F ad F' ad := ⟨l.same, List.prefix_refl _⟩
  have keep : ∀ a ∈ ad, F a = none → ∃ o, H a = some o ∧ H' a = some o ∧ F' a = none := fun a ha hf => by
    obtain ⟨o, ho⟩ := hs.trk a ha
    have q : gOf G F H ad a = some o := by unfold gOf; rw [if_pos ⟨ha, hf⟩]; exact ho
    obtain ⟨h1, h2, _⟩ := x.frm a o q
    exact ⟨o, ho, h1, h2⟩
  refine ⟨⟨x.sub, hs.len, hs.nd, fun k c a h1 h2 => ?_, fun a o q => ?_, fun a ha => ?_⟩, l2⟩
  · have cr := hs.cel k c a h1 h2
    cases c with
    | dead => trivial
    | lst xs =>
      obtain ⟨o, e1, e2, e3⟩ := keep a (List.mem_of_getElem? h2) cr.1
      exact cr.mono l2 (e3.trans cr.1.symm) (e2.trans e1.symm)
    | dic ks xs =>
      obtain ⟨o, e1, e2, e3⟩ := keep a (List.mem_of_getElem? h2) cr.1
      exact cr.mono l2 (e3.trans cr.1.symm) (e2.trans e1.symm)
    | dit ks xs =>
      obtain ⟨o, e1, e2, e3⟩ := keep a (List.mem_of_getElem? h2) cr.1
      exact cr.mono l2 (e3.trans cr.1.symm) (e2.trans e1.symm)
    | ins ks xs =>
      obtain ⟨o, e1, e2, e3⟩ := keep a (List.mem_of_getElem? h2) cr.1
      exact cr.mono l2 (e3.trans cr.1.symm) (e2.trans e1.symm)
  · obtain ⟨h1, h2, h3⟩ := hs.frm a o q
    have q2 : gOf G F H ad a = some o := by unfold gOf; rw [if_neg (fun z => h3 z.1)]; exact q
    obtain ⟨g1, g2, _⟩ := x.frm a o q2
    exact ⟨g1, g2, h3⟩
  · cases hf : F a with
    | none =>
      obtain ⟨o, _, e2, _⟩ := keep a ha hf
      exact ⟨o, e2⟩
    | some o => exact ⟨o, x.sub _ _ (l.same _ _ hf)⟩
theorem low0 {d : Dl.D} {v : V} (h : Rep K ct F' ad' d v) (c : D.lo 0 d = true) : Rep K ct F' ad d v := Rep.low (n := 0) (fun k hk => absurd hk (Nat.not_lt_zero k)) h c
theorem spD_iso {n : Nat} {φ : Fn} {vs : List V} {H : Hp} {Q : VK} {E : XK} (h : spD K ct n (iso φ) vs H Q E) : spD K ct n φ vs H Q E := by
  obtain ⟨G, F, ad, M, os, hs, hr, hl, h⟩ := h
  unfold iso at h
  by_cases c : D.loL 0 os = true
  · rw [if_pos c] at h
    refine ⟨gOf G F H ad, F, [], [], os, iso_pre hs, RepL.low (n := 0) (fun k hk => absurd hk (Nat.not_lt_zero k)) hr c, hl, ?_⟩
    cases e : φ os [] with
    | bad => rw [e] at h; exact h
    | ok d m' =>
      rw [e] at h
      simp only at h
      split at h
      · rename_i c2
        rw [Bool.and_eq_true] at c2
        have em : m' = [] := List.isEmpty_iff.mp c2.1
        subst em
        intro v F' H' ad' l x r
        obtain ⟨s2, l2⟩ := iso_post hs l x
        exact h v F' H' ad l2 s2 (low0 r c2.2)
      · exact h.elim
    | exc z m' =>
      rw [e] at h
      simp only at h
      split at h
      · rename_i c2
        rw [Bool.and_eq_true] at c2
        have em : m' = [] := List.isEmpty_iff.mp c2.1
        subst em
        intro cls d F' H' ad' l x r
        obtain ⟨s2, l2⟩ := iso_post hs l x
        refine h cls d F' H' ad l2 s2 ?_
        unfold RepX at r ⊢
        split at r
        · obtain ⟨h1, vs', h2, h3⟩ := r
          have c3 := c2.2
          unfold D.lo at c3
          exact ⟨h1, vs', h2, RepL.low (n := 0) (fun k hk => absurd hk (Nat.not_lt_zero k)) h3 c3⟩
        · exact r.elim
      · exact h.elim
  · rw [if_neg c] at h; exact h.elim
end
theorem iso_len {φ : Fn} {n : Nat} (h : ∀ os m, φ os m ≠ .bad → os.length = n) : ∀ os m, iso φ os m ≠ .bad → os.length = n := fun os m z => by
  refine h os [] fun e => z ?_
  unfold iso
  rw [e]
  split <;> rfl
theorem Ok.iso {P : Program} {w : World} {K : PySem.W.Frag} {ct : CT} {mg : Str → Option Value} {base : Heap} {k : Nat} {x : Str} {ps : List Str} {φ : Fn} (h : Ok P w K ct mg base k x ps φ) : Ok P w K ct mg base k x ps (iso φ) := by
  obtain ⟨fa, fd, h1, h2, h3, h4, h5, h6⟩ := h
  exact ⟨fa, fd, h1, h2, h3, ⟨fun vs H Q E z => h4.len vs H Q E (spD_iso z), fun A outer s H args us vs Q E hr e0 hb r z => h4.run A outer s H args us vs Q E hr e0 hb r (spD_iso z)⟩, iso_len h5, h6⟩
theorem OkW.iso {P : Program} {w : World} {K : PySem.W.Frag} {ct : CT} {mg : Str → Option Value} {base : Heap} {k : Nat} {x : Str} {ps : List Str} {φ : Fn} (h : OkW P w K ct mg base k x ps φ) : OkW P w K ct mg base k x ps (iso φ) := by
  obtain ⟨fa, fd, h1, h2, h3, h4, h5⟩ := h
  exact ⟨fa, fd, h1, h2, h3, ⟨fun vs H Q E z => h4.len vs H Q E (spD_iso z), fun A outer s H args us vs Q E hr e0 hb r z => h4.run A outer s H args us vs Q E hr e0 hb r (spD_iso z)⟩, iso_len h5⟩
theorem iso_ok {φ : Fn} {os : List O} {d : D} (h : φ os [] = .ok d []) (c : D.loL 0 os = true) (c2 : D.lo 0 d = true) (m : Mem) : iso φ os m = .ok d m := by
  unfold iso
  rw [if_pos c, h]
  simp [c2]
theorem iso_exc {φ : Fn} {os : List O} {d : D} (h : φ os [] = .exc d []) (c : D.loL 0 os = true) (c2 : D.lo 0 d = true) (m : Mem) : iso φ os m = .exc d m := by
  unfold iso
  rw [if_pos c, h]
  simp [c2]
end Dl

set_option maxRecDepth 100000
set_option maxHeartbeats 2000000
namespace Dl
open PySem PySem.Spec PyProof.Rows L2

def rCntD (K : PySem.W.Frag) : V → List V → Hp → VK → Prop := fun x xs H Q => ∃ (a : Addr) (y : V) (d : PyData) (ds : List PyData), x = V.ref a ∧ xs = [y] ∧ Dp K H (V.ref a) (.list ds) ∧ Dp K H y d ∧
  SeqAt.shaped (.list ds) = true ∧ SeqAt.shaped d = true ∧ Q (.int ((ds.countP fun z => PyData.eqv z d : Nat) : Int)) H
section
variable {X : Cx}
theorem mt_countD (hu : X.A.units + 65 < cLine) : MtR X "list.count" (rCntD X.K) := by
  intro pins s σ H x xs v us Q I rx rxs h
  obtain ⟨a, y, d, ds, rfl, rfl, hl, hy, sl, sd, q⟩ := h
  cases rx
  cases rxs with
  | cons ry rt =>
    rename_i uy ut
    cases rt
    obtain ⟨bs, r1⟩ := Dp.reads I d y uy hy ry
    have hxs : PyData.canLayAll0 ds = true := SeqAt.canLay_of_shaped sl
    have hroom : X.A.units + 1 + min (PyData.depthAll ds) d.depth < cLine := room_in_shaped sd hu
    cases hl with
    | lst hs ha =>
      obtain ⟨its, rv, ⟨⟨cls, dd, data, sls⟩, n, ho, hc, hdn, hdt⟩, hlen⟩ := I.list hs
      simp only at hc hdt
      subst hc hdt
      obtain ⟨as, h4⟩ := Dp.readsAll I ds _ its ha rv
      have hmap : its.map (SeqAt.readOf s.heap) = ds := SeqAt.readsAll_map ds its as hxs h4
      refine call_meets PySem.F.slot_list_count ⟨_, ho, rfl⟩ PySem.F.entry_list_count (PySem.F.args_list_count_2 _ _)
        (SeqAt.list_countAt a its.toArray n dd sls uy (fun u => PyData.eqv (SeqAt.readOf s.heap u) d)) ⟨ho, SeqAt.items_eqAt (vs := its.toArray) (show ReadsAll s.heap its.toArray.toList ds as from h4) r1 hxs (SeqAt.canLay_of_shaped sd) hroom, ?_⟩
      have e : (its.toArray.toList.countP fun u => PyData.eqv (SeqAt.readOf s.heap u) d) = ds.countP fun z => PyData.eqv z d := by
        rw [← hmap, List.countP_map]; rfl
      rw [e]
      exact ⟨.int _, H, I.tok _, ⟨_, rfl⟩, q⟩
variable {ct : CT}
def pCount : Pm := fun o os m => match os with
  | [u] => match (lstOf o m).bind (toPs m), toP m u with
    | some ds, some d => if SeqAt.shaped d = true ∧ SeqAt.shaped (.list ds) = true then some (.int ((ds.countP fun z => PyData.eqv z d : Nat) : Int), m) else none
    | _, _ => none
  | _ => none
theorem lst_dp {K : PySem.W.Frag} {G F H : Hp} {ad : List Addr} {M : Mem} {o : O} {x : V} {ps : List PyData} (hs : Sx K ct G F H ad M) (hr : RepO K ct F ad o x) (h : (lstOf o M).bind (toPs M) = some ps) : ∃ a, x = .ref a ∧ Dp K H (.ref a) (.list ps) := by
  cases e : lstOf o M with
  | none => rw [e] at h; cases h
  | some ds =>
    rw [e] at h
    obtain ⟨a, vs, rfl, q, r⟩ := lstOf_ok hs hr e
    exact ⟨a, rfl, .lst q (RepL.dp hs.sub (toK_ok hs 20) r h)⟩
theorem m_count (hu : X.A.units + 65 < cLine) : MtR X "list.count" (rm X.K ct pCount) := MtR.imp (mt_countD hu) fun x xs H Q h => by
  obtain ⟨G, F, ad, M, o, os, hs, h1, h2, h⟩ := h
  unfold pCount at h
  split at h
  · rename_i u
    obtain ⟨y, rfl, r1⟩ := h2.one
    split at h
    · rename_i ds d e1 e2
      split at h
      · rename_i c
        obtain ⟨a, rfl, q⟩ := lst_dp hs h1 e1
        exact ⟨a, y, d, ds, rfl, rfl, q, toP_dp hs r1 e2, c.2, c.1, PostP.now hs .int h⟩
      · exact h.elim
    · exact h.elim
  · exact h.elim
def pIndex : Pm := fun o os m => match os with
  | [u] => match (lstOf o m).bind (toPs m), toP m u with
    | some ds, some d => if SeqAt.shaped d = true ∧ SeqAt.shaped (.list ds) = true then (match ds.findIdx? fun z => PyData.eqv z d with
      | some j => some (.int (j : Nat), m)
      | none => none) else none
    | _, _ => none
  | _ => none
theorem m_index (hu : X.A.units + 65 < cLine) : MtR X "list.index" (rm X.K ct pIndex) := MtR.imp (mt_indexD hu) fun x xs H Q h => by
  obtain ⟨G, F, ad, M, o, os, hs, h1, h2, h⟩ := h
  unfold pIndex at h
  split at h
  · rename_i u
    obtain ⟨y, rfl, r1⟩ := h2.one
    split at h
    · rename_i ds d e1 e2
      split at h
      · rename_i c
        obtain ⟨a, rfl, q⟩ := lst_dp hs h1 e1
        split at h
        · rename_i j e3
          obtain ⟨p1, p2, p3⟩ := List.findIdx?_eq_some_iff_getElem.mp e3
          refine ⟨a, y, d, ds, j, ds[j], rfl, rfl, q, toP_dp hs r1 e2, c.2, c.1, List.getElem?_eq_getElem p1, p2, fun m z' hm hz => ?_, PostP.now hs .int h⟩
          obtain ⟨hm2, hz2⟩ := List.getElem?_eq_some_iff.mp hz
          have := p3 m hm
          rw [hz2] at this
          simpa using this
        · exact h.elim
      · exact h.elim
    · exact h.elim
  · exact h.elim
end

def cPowW (i j : Int) : Bool := decide (0 ≤ j) && decide ((Builtin.Int.intBits i : Int) * j ≤ 134217728)
def pPowW : P2 := pI2 cPowW (fun i j => i ^ j.toNat)
theorem o_powW {X : Cx} {ct : CT} : OpR X (binaryOp .Pow) (r2 X.K ct pPowW) := OpR.imp (r := rI (fun i j => 0 ≤ j ∧ (Builtin.Int.intBits i : Int) * j ≤ 2 ^ 27) fun i j => .int (i ^ j.toNat)) (opI fun _ _ _ _ _ _ _ hc q => PyProof.Rows.pow_int hc.1 hc.2 q) fun x y H Q h => by
  obtain ⟨i, j, h1, h2, hc, h3⟩ := pI2_ok h
  have hc : (decide (0 ≤ j) && decide ((Builtin.Int.intBits i : Int) * j ≤ 134217728)) = true := hc
  rw [Bool.and_eq_true] at hc
  exact ⟨i, j, h1, h2, ⟨of_decide_eq_true hc.1, of_decide_eq_true hc.2⟩, h3⟩

def OkN (P : Program) (w : World) (K : PySem.W.Frag) (ct : CT) (mg : Str → Option Value) (base : Heap) (k : Nat) (x : Str) (ps : List Str) (φ : Fn) : Prop := ∃ fa fd, mg x = some (.ref fa) ∧ PySem.W.keepIn K (.ref fa) = true ∧
  FnOk P w K mg base (L2.CX P w) k fa fd ps (spD K ct ps.length φ) ∧ (∀ os m, φ os m ≠ .bad → os.length = ps.length) ∧ ∃ qual params body scope dvs kws, FunD K x qual params body scope dvs kws fa fd
section
variable {P : Program} {w : World} {K : PySem.W.Frag} {ct : CT} {mg : Str → Option Value} {base : Heap} {k n : Nat} {x qual : Str} {ps N ks : List Str} {φ : Fn} {params : Arguments} {body : List Stmt} {scope : Scope} {mb : Dl.M Fl} {dvs : List V} {kws : List (Str × V)}
theorem OkN.of (D : IsDef K mg x qual params body scope dvs kws) (S : FnScope N ps scope) (hn : n = N.length)
    (hbody : ∀ (f : Addr) (cdv : Value) (A : Around) (outer : List Env) (s : Shared) (H : Hp) (E : XK), Room k (A.deeper (envOfC qual scope s.heap.objs.size f cdv)) →
      PSs (cxOf (L2.CX P w) P w K mg base N qual scope f cdv A outer s H E) body (tS K ct (fun cls d _ H => E cls d H) mb)) : OkN P w K ct mg base (k + 1) x ps (fnOf ps.length n mb) := by
  obtain ⟨fa, fd, h1, F⟩ := D
  exact ⟨fa, fd, h1, F.kp, ok_def F S hn (fun cdv A outer s H E hr => hbody fa cdv A outer s H E hr), fnOf_len, _, _, _, _, _, _, F⟩
theorem OkN.iso (h : OkN P w K ct mg base k x ps φ) : OkN P w K ct mg base k x ps (iso φ) := by
  obtain ⟨fa, fd, h1, h2, h4, h5, h6⟩ := h
  exact ⟨fa, fd, h1, h2, ⟨fun vs H Q E z => h4.len vs H Q E (spD_iso z), fun A outer s H args us vs Q E hr e0 hb r z => h4.run A outer s H args us vs Q E hr e0 hb r (spD_iso z)⟩, iso_len h5, h6⟩
theorem OkN.perm (ix : List Nat) (ms : List (Str × V)) (dos : List O) (h : OkN P w K ct mg base k x ps φ) (D : IsDef K mg x qual params body scope [] kws) (hk : kws ≠ []) (hms : ∀ q ∈ ms, q ∈ kws) (hd : ∀ F ad, RepOs K ct F ad dos (ms.map (·.2)))
    (hb : ∀ (Dd : Addr) (doc pm : Value) (an : Option Addr) (cdv ct : Value) (us mv ws : List Value), us.length = n → mv.length = ms.length → ws.length = ks.length →
      KwChain Dd ((ms.map (·.1)).zip mv) (bindArgs (PySem.W.fnOf x qual params body scope .none (.ref Dd) doc pm an cdv ct) ⟨us, ks.zip ws⟩) (ps.zip (permL ix us (ws ++ mv)))) : OkK P w K ct mg base k x n ks ps.length (fun os us => permL ix os (us ++ dos)) φ := by
  obtain ⟨fa, fd, h1, h2, h4, h5, q, pr, bd, sc, dv, kw, h6⟩ := h
  obtain ⟨fa', fd', e1, F⟩ := D
  rw [h1] at e1
  cases e1
  have e2 := FunD.same h6 F
  subst e2
  obtain ⟨oc, od, dV, kV, doc, pm, an, cdv, ct', osl, e, lk, hcd, hD, hK⟩ := F.ex
  rcases hD with ⟨_, rfl⟩ | ⟨e, _⟩
  · rcases hK with e | ⟨Dd, rfl, hq⟩
    · exact absurd e hk
    · obtain ⟨mv, hl, rk, hks⟩ := kwd_vals (ms := ms) fun q hm => hq q (hms q hm)
      refine ⟨fa, fd, ps, fun us ws => permL ix us (ws ++ mv), fun vs zs => permL ix vs (zs ++ ms.map (·.2)), h1, h2, ⟨fun s us ws X l1 l2 => ?_, fun r1 r2 => vals_perm r1 (r2.append rk)⟩, fun r1 r2 _ _ => rep_perm r1 (RepL.append r2 (hd _ _)), h4, h5⟩
      rw [e]
      exact BindsTo.of_looks fun M => KwChain.looks X hks (hb Dd doc pm an cdv ct' us mv ws l1 hl l2)
  · exact absurd rfl e
end
end Dl

set_option maxRecDepth 100000
set_option maxHeartbeats 2000000
namespace Dl
open PySem PySem.Spec PyProof.Rows L2

def loM (k : Nat) : Mem → Bool
  | [] => true
  | c :: m => Cell.lo k c && loM k m
def isoK (k : Nat) (φ : Fn) : Fn := fun os m => if D.loL k os = true ∧ k ≤ m.length ∧ loM k (m.take k) = true then (match φ os (m.take k) with
  | .ok d m' => if m'.length = k ∧ D.lo k d = true then .ok d (m' ++ m.drop k) else .bad
  | _ => .bad) else .bad
theorem loM_get {k : Nat} : ∀ {m : Mem} {j : Nat} {c : Cell}, loM k m = true → m[j]? = some c → Cell.lo k c = true
  | [], _, _, _, h => by simp at h
  | a :: m, 0, c, h, e => by
    simp at e; subst e
    unfold loM at h; rw [Bool.and_eq_true] at h; exact h.1
  | a :: m, j + 1, c, h, e => by
    unfold loM at h; rw [Bool.and_eq_true] at h
    exact loM_get h.2 (by simpa using e)
section
variable {K : PySem.W.Frag} {ct : CT} {G F H F' H' : Hp} {ad ad' : List Addr} {M : Mem} {k : Nat}
theorem take_get {α : Type} {l : List α} {j k : Nat} (h : j < k) : (l.take k)[j]? = l[j]? := by
  rw [List.getElem?_take, if_pos h]
theorem in_drop {α : Type} {l : List α} {j k : Nat} {a : α} (h : l[j]? = some a) (hj : k ≤ j) : a ∈ l.drop k := by
  refine List.mem_of_getElem? (i := j - k) ?_
  rw [List.getElem?_drop]
  rw [show k + (j - k) = j by omega]; exact h
theorem not_take {l : List Addr} {k : Nat} {a : Addr} (nd : l.Nodup) (h : a ∈ l.drop k) : a ∉ l.take k := by
  rw [← List.take_append_drop k l, List.nodup_append] at nd
  exact fun z => nd.2.2 a z a h rfl
theorem isoK_pre (hs : Sx K ct G F H ad M) (hk : k ≤ M.length) (hl : loM k (M.take k) = true) : Sx K ct (gOf G F H (ad.drop k)) F H (ad.take k) (M.take k) := by
  have hlen := hs.len
  refine ⟨hs.sub, by rw [List.length_take, List.length_take, hlen], hs.nd.sublist (List.take_sublist _ _), fun j c a h1 h2 => ?_, fun a o q => ?_, fun a h => hs.trk a (List.mem_of_mem_take h)⟩
  · have hj : j < k := by
      have := (List.getElem?_eq_some_iff.mp h1).1
      rw [List.length_take] at this; omega
    have lc := loM_get hl h1
    rw [take_get hj] at h1 h2
    exact (hs.cel j c a h1 h2).low (fun i hi => take_get hi) lc
  · unfold gOf at q
    by_cases c : a ∈ ad.drop k ∧ F a = none
    · rw [if_pos c] at q
      exact ⟨q, c.2, not_take hs.nd c.1⟩
    · rw [if_neg c] at q
      obtain ⟨h1, h2, h3⟩ := hs.frm a o q
      exact ⟨h1, h2, fun z => h3 (List.mem_of_mem_take z)⟩
theorem isoK_post {M' : Mem} (hs : Sx K ct G F H ad M) (hk : k ≤ M.length) (l : Le F (ad.take k) F' ad') (hM : M'.length = k) (x : Sx K ct (gOf G F H (ad.drop k)) F' H' ad' M') : ad' = ad.take k ∧ Sx K ct G F' H' ad (M' ++ M.drop k) ∧ Le F ad F' ad := by
  have hlen := hs.len
  have e : ad' = ad.take k := by
    obtain ⟨t, ht⟩ := l.pre
    have h1 := x.len
    rw [← ht, List.length_append, List.length_take] at h1
    have : t.length = 0 := by omega
    rw [List.length_eq_zero_iff.mp this, List.append_nil] at ht
    exact ht.symm
  subst e
  have l2 : Le F ad F' ad := ⟨l.same, List.prefix_refl _⟩
  have keep : ∀ a ∈ ad.drop k, F a = none → ∃ o, H a = some o ∧ H' a = some o ∧ F' a = none := fun a ha hf => by
    obtain ⟨o, ho⟩ := hs.trk a (List.mem_of_mem_drop ha)
    have q : gOf G F H (ad.drop k) a = some o := by unfold gOf; rw [if_pos ⟨ha, hf⟩]; exact ho
    obtain ⟨h1, h2, _⟩ := x.frm a o q
    exact ⟨o, ho, h1, h2⟩
  refine ⟨rfl, ⟨x.sub, ?_, hs.nd, fun j c a h1 h2 => ?_, fun a o q => ?_, fun a ha => ?_⟩, l2⟩
  · rw [List.length_append, List.length_drop, hM, hlen]; omega
  · by_cases hj : j < k
    · rw [List.getElem?_append_left (by omega)] at h1
      have h3 := x.cel j c a h1 (by rw [take_get hj]; exact h2)
      exact h3.mono ⟨Same.refl _, List.take_prefix _ _⟩ rfl rfl
    · rw [List.getElem?_append_right (by omega), List.getElem?_drop, hM, show k + (j - k) = j by omega] at h1
      have cr := hs.cel j c a h1 h2
      have ha := in_drop h2 (Nat.le_of_not_lt hj)
      cases c with
      | dead => trivial
      | lst xs =>
        obtain ⟨o, e1, e2, e3⟩ := keep a ha cr.1
        exact cr.mono l2 (e3.trans cr.1.symm) (e2.trans e1.symm)
      | dic ks xs =>
        obtain ⟨o, e1, e2, e3⟩ := keep a ha cr.1
        exact cr.mono l2 (e3.trans cr.1.symm) (e2.trans e1.symm)
      | dit ks xs =>
        obtain ⟨o, e1, e2, e3⟩ := keep a ha cr.1
        exact cr.mono l2 (e3.trans cr.1.symm) (e2.trans e1.symm)
      | ins ks xs =>
        obtain ⟨o, e1, e2, e3⟩ := keep a ha cr.1
        exact cr.mono l2 (e3.trans cr.1.symm) (e2.trans e1.symm)
  · obtain ⟨h1, h2, h3⟩ := hs.frm a o q
    have q2 : gOf G F H (ad.drop k) a = some o := by unfold gOf; rw [if_neg (fun z => h3 (List.mem_of_mem_drop z.1))]; exact q
    obtain ⟨g1, g2, _⟩ := x.frm a o q2
    exact ⟨g1, g2, h3⟩
  · rcases List.mem_append.mp ((List.take_append_drop k ad).symm ▸ ha : a ∈ ad.take k ++ ad.drop k) with h | h
    · exact x.trk a h
    · cases hf : F a with
      | none =>
        obtain ⟨o, _, e2, _⟩ := keep a h hf
        exact ⟨o, e2⟩
      | some o => exact ⟨o, x.sub _ _ (l.same _ _ hf)⟩
theorem spD_isoK {n : Nat} {φ : Fn} {vs : List V} {H : Hp} {Q : VK} {E : XK} (h : spD K ct n (isoK k φ) vs H Q E) : spD K ct n φ vs H Q E := by
  obtain ⟨G, F, ad, M, os, hs, hr, hl, h⟩ := h
  unfold isoK at h
  by_cases c : D.loL k os = true ∧ k ≤ M.length ∧ loM k (M.take k) = true
  · rw [if_pos c] at h
    obtain ⟨c1, c2, c3⟩ := c
    have ee : ∀ i, i < k → (ad.take k)[i]? = ad[i]? := fun i hi => take_get hi
    refine ⟨gOf G F H (ad.drop k), F, ad.take k, M.take k, os, isoK_pre hs c2 c3, RepL.low ee hr c1, hl, ?_⟩
    cases e : φ os (M.take k) with
    | bad => rw [e] at h; exact h
    | exc z m' => rw [e] at h; exact h.elim
    | ok d m' =>
      rw [e] at h
      simp only at h
      split at h
      · rename_i c4
        intro v F' H' ad' l x r
        obtain ⟨rfl, s2, l2⟩ := isoK_post hs c2 l c4.1 x
        exact h v F' H' ad l2 s2 (r.mono ⟨Same.refl _, List.take_prefix _ _⟩)
      · exact h.elim
  · rw [if_neg c] at h; exact h.elim
end
theorem isoK_len {φ : Fn} {n k : Nat} (h : ∀ os m, φ os m ≠ .bad → os.length = n) : ∀ os m, isoK k φ os m ≠ .bad → os.length = n := fun os m z => by
  refine h os (m.take k) fun e => z ?_
  unfold isoK
  rw [e]
  split <;> rfl
theorem Ok.isoK {P : Program} {w : World} {K : PySem.W.Frag} {ct : CT} {mg : Str → Option Value} {base : Heap} {k j : Nat} {x : Str} {ps : List Str} {φ : Fn} (h : Ok P w K ct mg base k x ps φ) : Ok P w K ct mg base k x ps (isoK j φ) := by
  obtain ⟨fa, fd, h1, h2, h3, h4, h5, h6⟩ := h
  exact ⟨fa, fd, h1, h2, h3, ⟨fun vs H Q E z => h4.len vs H Q E (spD_isoK z), fun A outer s H args us vs Q E hr e0 hb r z => h4.run A outer s H args us vs Q E hr e0 hb r (spD_isoK z)⟩, isoK_len h5, h6⟩
theorem OkN.isoK {P : Program} {w : World} {K : PySem.W.Frag} {ct : CT} {mg : Str → Option Value} {base : Heap} {k j : Nat} {x : Str} {ps : List Str} {φ : Fn} (h : OkN P w K ct mg base k x ps φ) : OkN P w K ct mg base k x ps (isoK j φ) := by
  obtain ⟨fa, fd, h1, h2, h4, h5, h6⟩ := h
  exact ⟨fa, fd, h1, h2, ⟨fun vs H Q E z => h4.len vs H Q E (spD_isoK z), fun A outer s H args us vs Q E hr e0 hb r z => h4.run A outer s H args us vs Q E hr e0 hb r (spD_isoK z)⟩, isoK_len h5, h6⟩
theorem isoS_ok {φ : Fn} {os : List O} {c c' : Cell} {d : D} (h : φ os [c] = .ok d [c']) (h1 : D.loL 1 os = true) (h2 : Cell.lo 1 c = true) (h3 : D.lo 1 d = true) (t : Mem) : isoK 1 φ os (c :: t) = .ok d (c' :: t) := by
  unfold isoK
  have e : (c :: t).take 1 = [c] := rfl
  rw [if_pos ⟨h1, by simp, by rw [e]; simp [loM, h2]⟩, e, h]
  simp [h3]
end Dl
namespace Dl
open PySem PySem.Spec PyProof.Rows L2
section
variable {X : Cx} {ct : CT} {W : WX} {me : M O} {tg iter elt : Expr} {ifs : List Expr} {scope : Scope} {pos : Pos} {mi : M Walk} {g : Tg} {tt : M Bool} {te : M O} {own : List (Str × Nat)} {is : List Nat}
theorem frz_tG {σ : L2.St} {H : Hp} {Q : VK} (z : tE X.K ct W (mFrz me) σ H Q) : tE X.K ct W me σ H Q := by
  obtain ⟨G, F, ad, s, hs, he, z⟩ := z
  refine tG.imp (post_bnd (ρ := RepO X.K ct) hs he z) fun x H1 q => ?_
  obtain ⟨F1, ad1, s1, o, l1, hs1, he1, hr, h1⟩ := q
  cases e1 : frz o s1.mem with
  | none => simp only [e1] at h1; exact h1.elim
  | some p =>
    simp only [e1] at h1
    obtain ⟨F2, l2, hs2, r2⟩ := hs1.frz hr e1
    exact h1 x F2 H1 ad1 l2 hs2 (he1.mono l2) r2
theorem pd_setLcF (i : Nat) {y : Str} {py spos : Pos} (hc : X.calm = true) (hN : X.N.Nodup) (hy : X.N[i]? = some y) (hyl : X.env.scope.names.lookup y = some .local)
    (hsw : swapsWith (.ListComp elt [⟨tg, iter, ifs, 0⟩] scope pos) (some (.Name y py)) spos.line X.env = pure true) (hi : PI X tg iter (tI X.K ct W mi)) (ok : BlkOk X.N X.env.scope scope own) (hown : ∀ j ∈ is, j ∈ own.map (·.2))
    (hg : ∀ (s : Shared) (H : Hp) (C : Addr) (cl : List (Str × Addr)) (fp : List Addr), PG (X.blk s H scope (compEnvC scope cl C X.env) fp) tg (tGt X.K ct is g)) (ht : ∀ (s : Shared) (H : Hp) (C : Addr) (cl : List (Str × Addr)) (fp : List Addr), PTs (X.blk s H scope (compEnvC scope cl C X.env) fp) ifs (tT X.K ct W0 tt))
    (he : ∀ (s : Shared) (H : Hp) (C : Addr) (cl : List (Str × Addr)) (fp : List Addr), PE (X.blk s H scope (compEnvC scope cl C X.env) fp) elt (tE X.K ct W0 te)) (hs : ∀ x, foldedSetIterable iter X.env x = pure x := by intro _; rfl) :
    PS X (.Assign [.Name y py] (.ListComp elt [⟨tg, iter, ifs, 0⟩] scope pos) spos) (tS X.K ct W (sSet i (mFrz (mLc mi g tt te (own.map (·.2)))))) := by
  refine PS.imp (ps_setLc hc hN hy hyl hsw hi ok hg ht he hs) fun D σ H h => ?_
  obtain ⟨G, F, ad, s, hs, he, h⟩ := h
  refine t_lc hown (Q := fun v H1 => D.nx (σ.set i (some v)) H1) (frz_tG (tG.imp (posts_bnd (ρ := RepO X.K ct) hs he h) fun v H1 z => ?_))
  obtain ⟨F1, ad1, s1, o, l1, hs1, he1, hr, h1⟩ := z
  exact h1 _ _ _ _ (Le.refl _ _) hs1 (he1.set hr)
end
end Dl

set_option maxRecDepth 100000
set_option maxHeartbeats 2000000
namespace Dl
open PySem PySem.Spec PyProof.Rows L2

@[irreducible] def T {α : Type} (m : M α) (s : S) (Q : α → S → Prop) (E : D → S → Prop) : Prop := match m s with
  | .ok a s' => Q a s'
  | .exc x s' => E x s'
  | .bad => False
section
variable {α β : Type} {s : S} {E : D → S → Prop}
theorem T_imp {m : M α} {Q Q' : α → S → Prop} (h : T m s Q E) (q : ∀ a s', Q a s' → Q' a s') : T m s Q' E := by
  unfold T at h ⊢
  cases e : m s with
  | ok a s' => rw [e] at h; exact q _ _ h
  | exc x s' => rw [e] at h; exact h
  | bad => rw [e] at h; exact h
theorem T_congr {m : M α} {Q Q' : α → S → Prop} (q : ∀ a s', Q a s' ↔ Q' a s') : T m s Q E ↔ T m s Q' E :=
  ⟨fun h => T_imp h fun a s' => (q a s').mp, fun h => T_imp h fun a s' => (q a s').mpr⟩
theorem T_bnd {m : M α} {k : α → M β} {Q : β → S → Prop} : T (bnd m k) s Q E ↔ T m s (fun a s' => T (k a) s' Q E) E := by
  unfold T bnd
  cases m s <;> exact Iff.rfl
theorem T_ret {a : α} {Q : α → S → Prop} : T (ret a) s Q E ↔ Q a s := by unfold T; exact Iff.rfl
theorem T_C {d : D} {Q : D → S → Prop} : T (mC d) s Q E ↔ Q d s := by unfold T; exact Iff.rfl
theorem T_var {i : Nat} {Q : D → S → Prop} : T (mVar i) s Q E ↔ ∃ o, s.env[i]? = some (some o) ∧ Q o s := by
  unfold T mVar
  cases e : s.env[i]? with
  | none => simp
  | some q => cases q <;> simp
def Pq (p : Pr) (Q : D → Mem → Prop) : Prop := match p with
  | some (o, m) => Q o m
  | none => False
def Pqm (p : Option Mem) (Q : Mem → Prop) : Prop := match p with
  | some m => Q m
  | none => False
theorem T_pr {p : Mem → Pr} {Q : D → S → Prop} : T (pr p) s Q E ↔ Pq (p s.mem) fun o m => Q o ⟨s.env, m⟩ := by
  unfold T pr Pq
  cases p s.mem with
  | none => exact Iff.rfl
  | some q => exact Iff.rfl
theorem T_m1 {p : P1} {a : M O} {Q : D → S → Prop} : T (m1 p a) s Q E ↔ T a s (fun x s1 => Pq (p x s1.mem) fun o m => Q o ⟨s1.env, m⟩) E := by
  unfold m1; rw [T_bnd]; exact Iff.of_eq (congrArg (fun z => T a s z E) (funext fun x => funext fun s1 => propext T_pr))
theorem T_m2 {p : P2} {a b : M O} {Q : D → S → Prop} : T (m2 p a b) s Q E ↔ T a s (fun x s1 => T b s1 (fun y s2 => Pq (p x y s2.mem) fun o m => Q o ⟨s2.env, m⟩) E) E := by
  unfold m2; rw [T_bnd]
  exact Iff.of_eq (congrArg (fun z => T a s z E) (funext fun x => funext fun s1 => propext (by rw [T_bnd]; exact Iff.of_eq (congrArg (fun z => T b s1 z E) (funext fun y => funext fun s2 => propext T_pr)))))
theorem T_mn {p : Pn} {a : M (List O)} {Q : D → S → Prop} : T (mn p a) s Q E ↔ T a s (fun x s1 => Pq (p x s1.mem) fun o m => Q o ⟨s1.env, m⟩) E := by
  unfold mn; rw [T_bnd]; exact Iff.of_eq (congrArg (fun z => T a s z E) (funext fun x => funext fun s1 => propext T_pr))
theorem T_nil {Q : List D → S → Prop} : T mNil s Q E ↔ Q [] s := by unfold T; exact Iff.rfl
theorem T_cons {a : M O} {b : M (List O)} {Q : List D → S → Prop} : T (mCons a b) s Q E ↔ T a s (fun x s1 => T b s1 (fun xs s2 => Q (x :: xs) s2) E) E := by
  unfold mCons; rw [T_bnd]
  exact Iff.of_eq (congrArg (fun z => T a s z E) (funext fun x => funext fun s1 => propext (by rw [T_bnd]; exact T_congr fun _ _ => by unfold T; exact Iff.rfl)))
theorem T_tb {m : M O} {Q : Bool → S → Prop} : T (tb m) s Q E ↔ T m s (fun o s' => ∃ b, o = .bl b ∧ Q b s') E := by
  unfold tb; rw [T_bnd]
  refine Iff.of_eq (congrArg (fun z => T m s z E) (funext fun o => funext fun s1 => propext ?_))
  cases o <;> simp [T]
theorem T_if {c : M Bool} {a b : M α} {Q : α → S → Prop} : T (mIf c a b) s Q E ↔ T c s (fun k s' => (k = true → T a s' Q E) ∧ (k = false → T b s' Q E)) E := by
  unfold mIf; rw [T_bnd]
  refine Iff.of_eq (congrArg (fun z => T c s z E) (funext fun k => funext fun s1 => propext ?_))
  cases k <;> simp
theorem T_and {a b : M Bool} {Q : Bool → S → Prop} : T (mAnd a b) s Q E ↔ T a s (fun k s' => (k = true → T b s' Q E) ∧ (k = false → Q false s')) E := by
  unfold mAnd; rw [T_bnd]
  refine Iff.of_eq (congrArg (fun z => T a s z E) (funext fun k => funext fun s1 => propext ?_))
  cases k <;> simp [T, ret]
theorem T_or {a b : M Bool} {Q : Bool → S → Prop} : T (mOr a b) s Q E ↔ T a s (fun k s' => (k = true → Q true s') ∧ (k = false → T b s' Q E)) E := by
  unfold mOr; rw [T_bnd]
  refine Iff.of_eq (congrArg (fun z => T a s z E) (funext fun k => funext fun s1 => propext ?_))
  cases k <;> simp [T, ret]
theorem T_not {a : M Bool} {Q : Bool → S → Prop} : T (mNot a) s Q E ↔ T a s (fun k s' => Q (!k) s') E := by
  unfold mNot; rw [T_bnd]; exact T_congr fun _ _ => by unfold T; exact Iff.rfl
theorem T_andV {a b : M O} {Q : D → S → Prop} : T (mAndV a b) s Q E ↔ T a s (fun o s' => ∃ k, o = .bl k ∧ (k = true → T b s' Q E) ∧ (k = false → Q (.bl false) s')) E := by
  unfold mAndV; rw [T_bnd]
  refine Iff.of_eq (congrArg (fun z => T a s z E) (funext fun o => funext fun s1 => propext ?_))
  cases o with
  | bl k => cases k <;> simp [T]
  | _ => simp [T]
theorem T_orV {a b : M O} {Q : D → S → Prop} : T (mOrV a b) s Q E ↔ T a s (fun o s' => ∃ k, o = .bl k ∧ (k = true → Q (.bl true) s') ∧ (k = false → T b s' Q E)) E := by
  unfold mOrV; rw [T_bnd]
  refine Iff.of_eq (congrArg (fun z => T a s z E) (funext fun o => funext fun s1 => propext ?_))
  cases o with
  | bl k => cases k <;> simp [T]
  | _ => simp [T]
theorem T_notV {a : M O} {Q : D → S → Prop} : T (mNotV a) s Q E ↔ T a s (fun o s' => ∃ k, o = .bl k ∧ Q (.bl (!k)) s') E := by
  unfold mNotV; rw [T_bnd]
  refine Iff.of_eq (congrArg (fun z => T a s z E) (funext fun o => funext fun s1 => propext ?_))
  cases o <;> simp [T]
theorem T_frz {a : M O} {Q : D → S → Prop} : T (mFrz a) s Q E ↔ T a s (fun o s' => Pq (frz o s'.mem) fun o m => Q o ⟨s'.env, m⟩) E := by
  unfold mFrz; rw [T_bnd]
  refine Iff.of_eq (congrArg (fun z => T a s z E) (funext fun o => funext fun s1 => propext ?_))
  unfold T Pq
  cases e : frz o s1.mem with
  | none => simp only [e]
  | some p => simp only [e]
theorem T_mt {ty : String} {p : Pm} {mo : M O} {ma : M (List O)} {Q : D → S → Prop} : T (mMt ty p mo ma) s Q E ↔ T mo s (fun o s1 => isTy ty o s1.mem = true ∧ T ma s1 (fun os s2 => Pq (p o os s2.mem) fun r m => Q r ⟨s2.env, m⟩) E) E := by
  unfold mMt; rw [T_bnd]
  refine Iff.of_eq (congrArg (fun z => T mo s z E) (funext fun o => funext fun s1 => propext ?_))
  by_cases c : isTy ty o s1.mem = true
  · have e : ∀ z : M O, T (fun s => if isTy ty o s.mem = true then z s else .bad) s1 Q E ↔ T z s1 Q E := fun z => by unfold T; simp only [if_pos c]
    rw [e, T_bnd]
    simp only [c, true_and]
    exact Iff.of_eq (congrArg (fun z => T ma s1 z E) (funext fun os => funext fun s2 => propext T_pr))
  · unfold T; simp [c]

theorem T_nx {Q : Fl → S → Prop} : T sNx s Q E ↔ Q .nx s := by unfold T; exact Iff.rfl
theorem T_bk {Q : Fl → S → Prop} : T sBk s Q E ↔ Q .bk s := by unfold T; exact Iff.rfl
theorem T_ct {Q : Fl → S → Prop} : T sCt s Q E ↔ Q .ct s := by unfold T; exact Iff.rfl
theorem T_rtN {Q : Fl → S → Prop} : T sRtN s Q E ↔ Q (.rt .non) s := by unfold T; exact Iff.rfl
theorem T_seq {a b : M Fl} {Q : Fl → S → Prop} : T (sSeq a b) s Q E ↔ T a s (fun f s' => (f = .nx → T b s' Q E) ∧ (f ≠ .nx → Q f s')) E := by
  unfold sSeq T
  cases e : a s with
  | ok f s' => cases f <;> simp [e]
  | exc x s' => simp only [e]
  | bad => simp only [e]
theorem T_mid {a b : M Fl} {Q : Fl → S → Prop} (I : S → Prop) (ha : T a s (fun f s' => f = .nx ∧ I s') E) (hb : ∀ s', I s' → T b s' Q E) : T (sSeq a b) s Q E := by
  rw [T_seq]
  refine T_imp ha fun f s' h => ?_
  obtain ⟨rfl, h⟩ := h
  exact ⟨fun _ => hb s' h, fun z => absurd rfl z⟩
theorem T_ex {m : M O} {Q : Fl → S → Prop} : T (sEx m) s Q E ↔ T m s (fun _ s' => Q .nx s') E := by unfold sEx; rw [T_bnd]; exact T_congr fun _ _ => by unfold T; exact Iff.rfl
theorem T_rt {m : M O} {Q : Fl → S → Prop} : T (sRt m) s Q E ↔ T m s (fun o s' => Q (.rt o) s') E := by unfold sRt; rw [T_bnd]; exact T_congr fun _ _ => by unfold T; exact Iff.rfl
theorem T_set {i : Nat} {m : M O} {Q : Fl → S → Prop} : T (sSet i m) s Q E ↔ T m s (fun o s' => Q .nx ⟨s'.env.set i (some o), s'.mem⟩) E := by unfold sSet; rw [T_bnd]; exact T_congr fun _ _ => by unfold T; exact Iff.rfl
theorem T_sub {p : P3} {mo mi m : M O} {Q : Fl → S → Prop} : T (sSub p mo mi m) s Q E ↔ T m s (fun v s1 => T mo s1 (fun o s2 => T mi s2 (fun i s3 => Pqm (p o i v s3.mem) fun m' => Q .nx ⟨s3.env, m'⟩) E) E) E := by
  unfold sSub; rw [T_bnd]
  refine Iff.of_eq (congrArg (fun z => T m s z E) (funext fun v => funext fun s1 => propext ?_))
  rw [T_bnd]
  refine Iff.of_eq (congrArg (fun z => T mo s1 z E) (funext fun o => funext fun s2 => propext ?_))
  rw [T_bnd]
  refine Iff.of_eq (congrArg (fun z => T mi s2 z E) (funext fun i => funext fun s3 => propext ?_))
  unfold T Pqm
  cases e : p o i v s3.mem <;> simp only [e]
theorem T_asg {g : Tg} {m : M O} {Q : Fl → S → Prop} : T (sAsg g m) s Q E ↔ T m s (fun o s1 => ∃ s2, g o s1 = some s2 ∧ Q .nx s2) E := by
  unfold sAsg; rw [T_bnd]
  refine Iff.of_eq (congrArg (fun z => T m s z E) (funext fun v => funext fun s1 => propext ?_))
  unfold T
  cases e : g v s1 <;> simp [e]
theorem T_raise {c n : Nat} {ms : M (List O)} {Q : Fl → S → Prop} : T (sRaise c n ms) s Q E ↔ T ms s (fun os s1 => os.length = n ∧ E (.exc c os.reverse) s1) E := by
  unfold sRaise; rw [T_bnd]
  refine Iff.of_eq (congrArg (fun z => T ms s z E) (funext fun os => funext fun s1 => propext ?_))
  unfold T
  by_cases h : os.length = n <;> simp [h]
def Tc (r : Rc) (Q : D → Mem → Prop) (E : D → Mem → Prop) : Prop := match r with
  | .ok o m => Q o m
  | .exc x m => E x m
  | .bad => False
theorem Tc_imp {r : Rc} {Q Q' E E' : D → Mem → Prop} (h : Tc r Q E) (q : ∀ o m, Q o m → Q' o m) (e : ∀ o m, E o m → E' o m) : Tc r Q' E' := by
  unfold Tc at h ⊢
  cases r with
  | ok o m => exact q _ _ h
  | exc o m => exact e _ _ h
  | bad => exact h
theorem Tc_ok {o : D} {m : Mem} {Q E : D → Mem → Prop} : Tc (.ok o m) Q E ↔ Q o m := Iff.rfl
theorem Tc_exc {o : D} {m : Mem} {Q E : D → Mem → Prop} : Tc (.exc o m) Q E ↔ E o m := Iff.rfl
theorem T_call {φ : Fn} {ms : M (List O)} {Q : D → S → Prop} : T (mCall φ ms) s Q E ↔ T ms s (fun os s1 => Tc (φ os s1.mem) (fun o m => Q o ⟨s1.env, m⟩) fun x m => E x ⟨s1.env, m⟩) E := by
  unfold mCall; rw [T_bnd]
  refine Iff.of_eq (congrArg (fun z => T ms s z E) (funext fun os => funext fun s1 => propext ?_))
  unfold T Tc
  cases e : φ os s1.mem <;> simp only [e]
theorem T_callK {φ : Fn} {n m : Nat} {gO : List O → List O → List O} {ms mk : M (List O)} {Q : D → S → Prop} : T (mCallK φ n m gO ms mk) s Q E ↔ T ms s (fun os s1 => T mk s1 (fun us s2 => (os.length = n ∧ us.length = m) ∧ Tc (φ (gO os us) s2.mem) (fun o m => Q o ⟨s2.env, m⟩) fun x m => E x ⟨s2.env, m⟩) E) E := by
  unfold mCallK; rw [T_bnd]
  refine Iff.of_eq (congrArg (fun z => T ms s z E) (funext fun os => funext fun s1 => propext ?_))
  rw [T_bnd]
  refine Iff.of_eq (congrArg (fun z => T mk s1 z E) (funext fun us => funext fun s2 => propext ?_))
  unfold T Tc
  by_cases h : os.length = n ∧ us.length = m
  · simp only [if_pos h, h, and_self, true_and]
    cases e : φ (gO os us) s2.mem <;> simp only [e, if_true]
  · simp only [if_neg h]
    exact ⟨False.elim, fun z => h z.1⟩
theorem T_fn {n N : Nat} {body : M Fl} {os : List O} {m : Mem} {Q E : D → Mem → Prop} (hl : os.length = n) : Tc (fnOf n N body os m) Q E ↔ T body ⟨os.map some ++ List.replicate (N - os.length) none, m⟩
    (fun f s => match f with
      | .nx => Q (fin m .non s.mem).1 (fin m .non s.mem).2
      | .rt d => Q (fin m d s.mem).1 (fin m d s.mem).2
      | _ => False) fun x s => E (fin m x s.mem).1 (fin m x s.mem).2 := by
  unfold fnOf T Tc
  rw [if_pos hl]
  cases e : body ⟨os.map some ++ List.replicate (N - os.length) none, m⟩ with
  | ok f s => cases f <;> simp only [e]
  | exc x s => simp only [e]
  | bad => simp only [e]
end

theorem keepL_refl (n : Nat) : ∀ m : Mem, keepL n m m = true
  | [] => rfl
  | c :: cs => by
    unfold keepL
    show ((Cell.beq c c || Cell.lo n c) && keepL n cs cs) = true
    rw [Cell.beq_refl, keepL_refl n cs]; rfl
theorem keepL_app (n : Nat) : ∀ m t : Mem, keepL n m (m ++ t) = true
  | [], _ => rfl
  | c :: cs, t => by
    unfold keepL
    show ((Cell.beq c c || Cell.lo n c) && keepL n cs (cs ++ t)) = true
    rw [Cell.beq_refl, keepL_app n cs t]; rfl
theorem keepL_set {n : Nat} {c' : Cell} (h : Cell.lo n c' = true) : ∀ (m t : Mem) (p : Nat), keepL n m (m.set p c' ++ t) = true
  | [], _, _ => rfl
  | c :: cs, t, 0 => by
    unfold keepL
    show ((Cell.beq c' c || Cell.lo n c') && keepL n cs (cs ++ t)) = true
    rw [h, Bool.or_true, keepL_app n cs t]; rfl
  | c :: cs, t, p + 1 => by
    unfold keepL
    show ((Cell.beq c c || Cell.lo n c) && keepL n cs (cs.set p c' ++ t)) = true
    rw [Cell.beq_refl, keepL_set h cs t p]; rfl
theorem fin_lo {m m' : Mem} {d : D} (k : keepL m.length m m' = true) (h : D.lo m.length d = true) : fin m d m' = (d, m'.take m.length) := by
  unfold fin
  rw [if_pos k, if_pos h]
theorem fin_same {m t : Mem} {d : D} (h : D.lo m.length d = true) : fin m d (m ++ t) = (d, m) := by
  rw [fin_lo (keepL_app _ _ _) h, List.take_left]
theorem fin_id {m : Mem} {d : D} (h : D.lo m.length d = true) : fin m d m = (d, m) := by
  rw [fin_lo (keepL_refl _ _) h, List.take_length]
theorem fin_set {m t : Mem} {d : D} {p : Nat} {c : Cell} (hc : Cell.lo m.length c = true) (h : D.lo m.length d = true) : fin m d (m.set p c ++ t) = (d, m.set p c) := by
  rw [fin_lo (keepL_set hc _ _ _) h]
  have e : m.length = (m.set p c).length := by simp
  rw [e, List.take_left]

theorem Pq_some {o : D} {m : Mem} {Q : D → Mem → Prop} : Pq (some (o, m)) Q ↔ Q o m := Iff.rfl
section
variable {m : Mem} {Q : D → Mem → Prop} {i j : Int}
theorem q_add : Pq (pAdd (.int i) (.int j) m) Q ↔ Q (.int (i + j)) m := Iff.rfl
theorem q_sub : Pq (pSub (.int i) (.int j) m) Q ↔ Q (.int (i - j)) m := Iff.rfl
theorem q_mul (h : cMul i j = true) : Pq (pMul (.int i) (.int j) m) Q ↔ Q (.int (i * j)) m := by unfold pMul; simp only [h, if_true]; exact Iff.rfl
theorem q_div (h : cDiv i j = true) : Pq (pDiv (.int i) (.int j) m) Q ↔ Q (.int (i / j)) m := by unfold pDiv pI2; simp only [h, if_true]; exact Iff.rfl
theorem q_mod (h : 0 < j) : Pq (pMod (.int i) (.int j) m) Q ↔ Q (.int (i % j)) m := by unfold pMod pI2 cMod; simp only [h, decide_true, if_true]; exact Iff.rfl
theorem q_pow (h : cPow i j = true) : Pq (pPow (.int i) (.int j) m) Q ↔ Q (.int (i ^ j.toNat)) m := by unfold pPow pI2; simp only [h, if_true]; exact Iff.rfl
theorem q_neg : Pq (pNeg (.int i) m) Q ↔ Q (.int (-i)) m := Iff.rfl
theorem q_lt : Pq (pLt (.int i) (.int j) m) Q ↔ Q (.bl (decide (i < j))) m := Iff.rfl
theorem q_le : Pq (pLe (.int i) (.int j) m) Q ↔ Q (.bl (decide (i ≤ j))) m := Iff.rfl
theorem q_gt : Pq (pGt (.int i) (.int j) m) Q ↔ Q (.bl (decide (j < i))) m := Iff.rfl
theorem q_ge : Pq (pGe (.int i) (.int j) m) Q ↔ Q (.bl (decide (j ≤ i))) m := Iff.rfl
theorem q_eq : Pq (pEq (.int i) (.int j) m) Q ↔ Q (.bl (decide (i = j))) m := Iff.rfl
theorem q_ne : Pq (pNe (.int i) (.int j) m) Q ↔ Q (.bl (!decide (i = j))) m := Iff.rfl
theorem q_int : Pq (pInt [.int i] m) Q ↔ Q (.int i) m := Iff.rfl
theorem q_intb {b : Bool} : Pq (pInt [.bl b] m) Q ↔ Q (.int (if b then 1 else 0)) m := Iff.rfl
theorem mul_l (h1 : -(2 ^ 64) < i) (h2 : i < 2 ^ 64) : cMul i j = true := by
  unfold cMul; rw [decide_eq_true (.inl ⟨h1, h2⟩)]; rfl
theorem mul_r (h1 : -(2 ^ 64) < j) (h2 : j < 2 ^ 64) : cMul i j = true := by
  unfold cMul; rw [decide_eq_true (.inr ⟨h1, h2⟩)]; rfl
theorem q_ix {p : Nat} {xs : List D} {d : D} (h : m[p]? = some (.lst xs)) (e : atI xs i = some d) : Pq (pIx (.ptr p) (.int i) m) Q ↔ Q d m := by
  unfold pIx seqOf tupOf lstOf Pq
  simp only [h, e, Option.map_some]
end
theorem q_mulr {m : Mem} {Q : D → Mem → Prop} {i j : Int} (h1 : -18446744073709551616 < j) (h2 : j < 18446744073709551616) : Pq (pMul (.int i) (.int j) m) Q ↔ Q (.int (i * j)) m := q_mul (mul_r (by omega) (by omega))
theorem q_mull {m : Mem} {Q : D → Mem → Prop} {i j : Int} (h1 : -18446744073709551616 < i) (h2 : i < 18446744073709551616) : Pq (pMul (.int i) (.int j) m) Q ↔ Q (.int (i * j)) m := q_mul (mul_l (by omega) (by omega))
theorem div_ok {i j : Int} (h1 : 0 < j) (h2 : j < 10000000000000000000000000000000000000000000000000000000000000000000000) : cDiv i j = true := by
  unfold cDiv
  rw [decide_eq_true h1, Bool.true_and]
  refine decide_eq_true ?_
  have e : j.natAbs < 2 ^ 300 := by
    have : (2 : Nat) ^ 300 = 2037035976334486086268445688409378161051468393665936250636140449354381299763336706183397376 := by decide +kernel
    omega
  have : j.natAbs.log2 < 300 := by
    by_cases z : j.natAbs = 0
    · rw [z]; decide
    · exact (Nat.log2_lt z).mpr e
  omega
theorem q_divn {m : Mem} {Q : D → Mem → Prop} {i j : Int} (h1 : 0 < j) (h2 : j < 10000000000000000000000000000000000000000000000000000000000000000000000) : Pq (pDiv (.int i) (.int j) m) Q ↔ Q (.int (i / j)) m := q_div (div_ok h1 h2)
theorem fi_int {m : Mem} {v : Int} : fin m (.int v) m = (.int v, m) := fin_id (by unfold D.lo; rfl)
theorem fi_bl {m : Mem} {v : Bool} : fin m (.bl v) m = (.bl v, m) := fin_id (by unfold D.lo; rfl)
theorem fi_non {m : Mem} : fin m .non m = (.non, m) := fin_id (by unfold D.lo; rfl)
theorem ok_of {r : Rc} {o : D} {m : Mem} (h : Tc r (fun d m' => d = o ∧ m' = m) fun _ _ => False) : r = .ok o m := by
  unfold Tc at h
  cases r with
  | ok d m' => obtain ⟨rfl, rfl⟩ := h; rfl
  | exc _ _ => exact h.elim
  | bad => exact h.elim
theorem tc_of {r : Rc} {o : D} {m : Mem} {Q E : D → Mem → Prop} (e : r = .ok o m) : Tc r Q E ↔ Q o m := by rw [e]; exact Iff.rfl
section
variable {m : Mem} {Q : D → Mem → Prop} {i : Int}
theorem q_ixp {p : Nat} : Pq (pIx (.ptr p) (.int i) m) Q ↔ ∃ xs, m[p]? = some (.lst xs) ∧ ∃ d, atI xs i = some d ∧ Q d m := by
  unfold pIx seqOf tupOf lstOf Pq
  cases h : m[p]? with
  | none => simp [h]
  | some c =>
    cases c with
    | lst xs =>
      simp only [h]
      cases e : atI xs i with
      | none => simp [e]
      | some d => simp [e]
    | _ => simp [h]
theorem q_ixl {xs : List D} : Pq (pIx (.lst xs) (.int i) m) Q ↔ ∃ d, atI xs i = some d ∧ Q d m := by
  unfold pIx seqOf tupOf lstOf Pq
  cases e : atI xs i with
  | none => simp [e]
  | some d => simp [e]
theorem q_ixt {xs : List D} : Pq (pIx (.tup xs) (.int i) m) Q ↔ ∃ d, atI xs i = some d ∧ Q d m := by
  unfold pIx seqOf tupOf Pq
  cases e : atI xs i with
  | none => simp [e]
  | some d => simp [e]
theorem q_lenl {xs : List D} : Pq (pLen [.lst xs] m) Q ↔ Q (.int xs.length) m := Iff.rfl
theorem q_lent {xs : List D} : Pq (pLen [.tup xs] m) Q ↔ Q (.int xs.length) m := Iff.rfl
theorem q_lenp {p : Nat} : Pq (pLen [.ptr p] m) Q ↔ ∃ xs, m[p]? = some (.lst xs) ∧ Q (.int xs.length) m := by
  unfold pLen seqOf tupOf lstOf Pq
  cases h : m[p]? with
  | none => simp [h]
  | some c => cases c <;> simp [h]
theorem q_setL {p : Nat} {v : D} {Q : Mem → Prop} : Pqm (pSetL (.ptr p) (.int i) v m) Q ↔ ∃ xs, m[p]? = some (.lst xs) ∧ ∃ j, ixN xs.length i = some j ∧ Q (m.set p (.lst (xs.set j v))) := by
  unfold pSetL ptrL Pqm
  cases h : m[p]? with
  | none => simp [h]
  | some c =>
    cases c with
    | lst xs =>
      simp only [h]
      cases e : ixN xs.length i with
      | none => simp [e]
      | some d => simp [e]
    | _ => simp [h]
theorem q_lst {xs : List D} (h : xs.length ≤ 16777216) : Pq (pLst xs m) Q ↔ Q (.ptr m.length) (m ++ [.lst xs]) := by
  unfold pLst Pq
  rw [if_pos (by rw [sizeLine_eq]; exact h)]
theorem q_tup {xs : List D} (h : xs.length ≤ 16777216) : Pq (pTup xs m) Q ↔ Q (.tup xs) m := by
  unfold pTup Pq
  rw [if_pos (by rw [sizeLine_eq]; exact h)]
theorem q_pow10 {n : Int} (h1 : 0 ≤ n) (h2 : n ≤ 1000000) : Pq (pPow (.int 10) (.int n) m) Q ↔ Q (.int (10 ^ n.toNat)) m := q_pow (by unfold cPow; exact decide_eq_true ⟨h1, h2, by decide⟩)
end
theorem at0 {α : Type} {a : α} {l : List α} : atI (a :: l) 0 = some a := by
  unfold atI ixN
  simp
theorem at1 {α : Type} {a b : α} {l : List α} : atI (a :: b :: l) 1 = some b := by
  unfold atI ixN
  have : (1 : Int) < (l.length : Int) + 1 + 1 := by omega
  simp [this]
theorem at2 {α : Type} {a b c : α} {l : List α} : atI (a :: b :: c :: l) 2 = some c := by
  unfold atI ixN
  have : (2 : Int) < (l.length : Int) + 1 + 1 + 1 := by omega
  simp [this]
theorem at3 {α : Type} {a b c d : α} {l : List α} : atI (a :: b :: c :: d :: l) 3 = some d := by
  unfold atI ixN
  have : (3 : Int) < (l.length : Int) + 1 + 1 + 1 + 1 := by omega
  simp [this]
theorem at4 {α : Type} {a b c d e : α} {l : List α} : atI (a :: b :: c :: d :: e :: l) 4 = some e := by
  unfold atI ixN
  have : (4 : Int) < (l.length : Int) + 1 + 1 + 1 + 1 + 1 := by omega
  simp [this]
theorem atI_nat {α : Type} {l : List α} {i : Int} (h0 : 0 ≤ i) (h1 : i < l.length) : atI l i = l[i.toNat]? := by
  unfold atI ixN
  simp [h0, h1]
theorem get_app {m t : Mem} {k : Nat} (h : k < m.length) : (m ++ t)[k]? = m[k]? := List.getElem?_append_left h

section
variable {s : S} {E : D → S → Prop} {m : Mem} {Q : D → Mem → Prop}
theorem T_part0 {Q : Option Int → S → Prop} : T (mPart none) s Q E ↔ Q none s := by unfold T; exact Iff.rfl
theorem T_part1 {me : M O} {Q : Option Int → S → Prop} : T (mPart (some me)) s Q E ↔ T me s (fun o s' => ∃ i, o = .int i ∧ Q (some i) s') E := by
  show T (bnd me _) s Q E ↔ _
  rw [T_bnd]
  refine Iff.of_eq (congrArg (fun z => T me s z E) (funext fun o => funext fun s1 => propext ?_))
  cases o <;> simp [T]
theorem T_sl {a : M O} {lo hi : Option (M O)} {Q : D → S → Prop} : T (mSl a lo hi) s Q E ↔ T a s (fun o s1 => T (mPart lo) s1 (fun l s2 => T (mPart hi) s2 (fun h s3 => Pq (pSl o l h s3.mem) fun r m => Q r ⟨s3.env, m⟩) E) E) E := by
  unfold mSl; rw [T_bnd]
  refine Iff.of_eq (congrArg (fun z => T a s z E) (funext fun o => funext fun s1 => propext ?_))
  rw [T_bnd]
  refine Iff.of_eq (congrArg (fun z => T (mPart lo) s1 z E) (funext fun l => funext fun s2 => propext ?_))
  rw [T_bnd]
  exact Iff.of_eq (congrArg (fun z => T (mPart hi) s2 z E) (funext fun h => funext fun s3 => propext T_pr))
theorem q_slp {p : Nat} {l h : Option Int} : Pq (pSl (.ptr p) l h m) Q ↔ ∃ xs, m[p]? = some (.lst xs) ∧ Q (.ptr m.length) (m ++ [.lst (cutD xs l h)]) := by
  unfold pSl lstOf Pq
  cases e : m[p]? with
  | none => simp [e]
  | some c => cases c <;> simp [e]
theorem q_sll {xs : List D} {l h : Option Int} : Pq (pSl (.lst xs) l h m) Q ↔ Q (.ptr m.length) (m ++ [.lst (cutD xs l h)]) := Iff.rfl
theorem q_slt {xs : List D} {l h : Option Int} : Pq (pSl (.tup xs) l h m) Q ↔ Q (.tup (cutD xs l h)) m := Iff.rfl
theorem q_revp {p : Nat} : Pq (pRev (.ptr p) m) Q ↔ ∃ xs, m[p]? = some (.lst xs) ∧ Q (.ptr m.length) (m ++ [.lst xs.reverse]) := by
  unfold pRev lstOf Pq
  cases e : m[p]? with
  | none => simp [e]
  | some c => cases c <;> simp [e]
theorem q_revl {xs : List D} : Pq (pRev (.lst xs) m) Q ↔ Q (.ptr m.length) (m ++ [.lst xs.reverse]) := Iff.rfl
theorem q_addpp {p q : Nat} : Pq (pAdd (.ptr p) (.ptr q) m) Q ↔ ∃ xs, m[p]? = some (.lst xs) ∧ ∃ ys, m[q]? = some (.lst ys) ∧ xs.length + ys.length ≤ sizeLine ∧ Q (.ptr m.length) (m ++ [.lst (xs ++ ys)]) := by
  unfold pAdd lstT Pq
  cases e : m[p]? with
  | none => simp [e]
  | some c =>
    cases c with
    | lst xs =>
      cases e2 : m[q]? with
      | none => simp [e, e2]
      | some c2 =>
        cases c2 with
        | lst ys =>
          simp only [e, e2]
          by_cases h : xs.length + ys.length ≤ sizeLine
          · simp [h]
          · simp [h]
        | _ => simp [e, e2]
    | _ => simp [e]
theorem q_listp {p : Nat} : Pq (pList [.ptr p] m) Q ↔ ∃ xs, m[p]? = some (.lst xs) ∧ Q (.ptr m.length) (m ++ [.lst xs]) := by
  unfold pList seqOf tupOf lstOf Pq
  cases e : m[p]? with
  | none => simp [e]
  | some c => cases c <;> simp [e]
theorem q_listl {xs : List D} : Pq (pList [.lst xs] m) Q ↔ Q (.ptr m.length) (m ++ [.lst xs]) := Iff.rfl
theorem q_listt {xs : List D} : Pq (pList [.tup xs] m) Q ↔ Q (.ptr m.length) (m ++ [.lst xs]) := Iff.rfl
theorem q_lists {ns : List Int} : Pq (pList [.scr ns] m) Q ↔ Q (.ptr m.length) (m ++ [.lst (ns.map .int)]) := Iff.rfl
theorem q_tuplep {p : Nat} : Pq (pTuple [.ptr p] m) Q ↔ ∃ xs, m[p]? = some (.lst xs) ∧ Q (.tup xs) m := by
  unfold pTuple seqOf tupOf lstOf Pq
  cases e : m[p]? with
  | none => simp [e]
  | some c => cases c <;> simp [e]
theorem q_tuplel {xs : List D} : Pq (pTuple [.lst xs] m) Q ↔ Q (.tup xs) m := Iff.rfl
theorem q_tuplet {xs : List D} : Pq (pTuple [.tup xs] m) Q ↔ Q (.tup xs) m := Iff.rfl
theorem q_app {p : Nat} {d : D} : Pq (pAppend (.ptr p) [d] m) Q ↔ ∃ xs, m[p]? = some (.lst xs) ∧ xs.length < sizeLine ∧ Q .non (m.set p (.lst (xs ++ [d]))) := by
  unfold pAppend ptrL Pq
  cases e : m[p]? with
  | none => simp [e]
  | some c =>
    cases c with
    | lst xs =>
      simp only [e]
      by_cases h : xs.length < sizeLine
      · simp [h]
      · simp [h]
    | _ => simp [e]
theorem isTyp {p : Nat} {xs : List D} (h : m[p]? = some (.lst xs)) : isTy "list" (.ptr p) m = true := by
  unfold isTy lstOf
  simp [h]
theorem q_isi {t : String} {o : D} : Pq (pIsi t o m) Q ↔ ∃ ty, tyO o m = some ty ∧ Q (.bl (isB ty t)) m := by
  unfold pIsi Pq
  cases e : tyO o m <;> simp [e]
theorem q_isN {o : D} : Pq (pIsN o .non m) Q ↔ Q (.bl (isNone o)) m := Iff.rfl
theorem q_notN {o : D} : Pq (pNotN o .non m) Q ↔ Q (.bl (!isNone o)) m := Iff.rfl
theorem q_sump {p : Nat} {ns : List Int} (h : m[p]? = some (.lst (ns.map .int))) : Pq (pSum [.ptr p] m) Q ↔ Q (.int ns.sum) m := by
  have e : asInts (ns.map D.int) = some ns := by
    clear h
    induction ns with
    | nil => rfl
    | cons a l ih => rw [List.map_cons]; unfold asInts; rw [ih]; rfl
  unfold pSum seqOf tupOf lstOf Pq
  simp [h, e]
end
section
variable {m : Mem} {Q : D → Mem → Prop}
theorem asInts_map : ∀ ns : List Int, asInts (ns.map D.int) = some ns
  | [] => rfl
  | a :: l => by rw [List.map_cons]; unfold asInts; rw [asInts_map l]; rfl
theorem q_sumt {ns : List Int} : Pq (pSum [.tup (ns.map .int)] m) Q ↔ Q (.int ns.sum) m := by
  unfold pSum seqOf tupOf Pq
  simp [asInts_map]
theorem q_mulp {p : Nat} {k : Int} : Pq (pMul (.ptr p) (.int k) m) Q ↔ ∃ xs, m[p]? = some (.lst xs) ∧ (-(2 ^ 63) ≤ k ∧ k < 2 ^ 63 ∧ xs.length * k.toNat ≤ sizeLine) ∧ Q (.ptr m.length) (m ++ [.lst (List.replicate k.toNat xs).flatten]) := by
  unfold pMul lstT Pq
  cases e : m[p]? with
  | none => simp [e]
  | some c =>
    cases c with
    | lst xs =>
      simp only [e]
      by_cases h : -(2 ^ 63) ≤ k ∧ k < 2 ^ 63 ∧ xs.length * k.toNat ≤ sizeLine
      · rw [if_pos h]
        exact ⟨fun z => ⟨xs, rfl, h, z⟩, fun ⟨ys, e1, _, z⟩ => by cases e1; exact z⟩
      · rw [if_neg h]
        exact ⟨False.elim, fun ⟨ys, e1, h1, z⟩ => by cases e1; exact h h1⟩
    | _ => simp [e]
end

section
variable {s : S} {E : D → S → Prop}
theorem forL_cons {w : Walk} {g : Tg} {body : M Fl} {d : D} {ds : List D} (ok : w.okB s.mem) : forL w g body (d :: ds) s = (match g d s with
      | some s1 => match body s1 with
        | .ok .nx s2 => forL w g body ds s2
        | .ok .ct s2 => forL w g body ds s2
        | .ok .bk s2 => .ok .nx s2
        | .ok (.rt o) s2 => .ok (.rt o) s2
        | .exc x s2 => .exc x s2
        | .bad => .bad
      | none => .bad) := by
  conv => lhs; unfold forL
  first
  | (rw [if_pos ok]; done)
  | (rw [if_pos ok]
     cases g d s with
     | none => rfl
     | some s1 =>
       cases body s1 with
       | ok f s2 => cases f <;> rfl
       | exc x s2 => rfl
       | bad => rfl)
def Tr {α : Type} (r : R α) (Q : α → S → Prop) (E : D → S → Prop) : Prop := match r with
  | .ok a s' => Q a s'
  | .exc x s' => E x s'
  | .bad => False
theorem T_Tr {α : Type} {m : M α} {s : S} {Q : α → S → Prop} {E : D → S → Prop} : T m s Q E ↔ Tr (m s) Q E := by
  unfold T Tr
  cases m s <;> exact Iff.rfl
theorem T_consOk {w : Walk} {g : Tg} {body : M Fl} {d : D} {ds : List D} {Q : Fl → S → Prop} (ok : w.okB s.mem) : T (forL w g body (d :: ds)) s Q E ↔ ∃ s1, g d s = some s1 ∧ T body s1 (fun f s2 => match f with
    | .nx => T (forL w g body ds) s2 Q E
    | .ct => T (forL w g body ds) s2 Q E
    | .bk => Q .nx s2
    | .rt o => Q (.rt o) s2) E := by
  rw [T_Tr, forL_cons ok]
  cases e : g d s with
  | none => simp [Tr]
  | some s1 =>
    simp only [Option.some.injEq, exists_eq_left']
    rw [T_Tr]
    cases e2 : body s1 with
    | ok f s2 => cases f <;> simp only [Tr, T_Tr]
    | exc x s2 => simp only [Tr]
    | bad => simp only [Tr]
theorem T_forn {w : Walk} {g : Tg} {body : M Fl} {Q : Fl → S → Prop} (hg : w.grd = none) : T (forL w g body []) s Q E ↔ Q .nx s := by
  have ok : w.okB s.mem := fun k xs h => by rw [hg] at h; cases h
  unfold T forL
  rw [if_pos ok]
theorem T_forc {w : Walk} {g : Tg} {body : M Fl} {d : D} {ds : List D} {Q : Fl → S → Prop} (hg : w.grd = none) : T (forL w g body (d :: ds)) s Q E ↔ ∃ s1, g d s = some s1 ∧ T body s1 (fun f s2 => match f with
    | .nx => T (forL w g body ds) s2 Q E
    | .ct => T (forL w g body ds) s2 Q E
    | .bk => Q .nx s2
    | .rt o => Q (.rt o) s2) E := by
  exact T_consOk fun k xs h => by rw [hg] at h; cases h
theorem T_forI {w : Walk} {g : Tg} {body : M Fl} {items : List D} {Q : Fl → S → Prop} (I : List D → S → Prop) (hg : w.grd = none) (h0 : I items s)
    (hs : ∀ d ds s, I (d :: ds) s → ∃ s1, g d s = some s1 ∧ T body s1 (fun f s2 => (f = .nx ∨ f = .ct) ∧ I ds s2) E) (h1 : ∀ s, I [] s → Q .nx s) : T (forL w g body items) s Q E := by
  induction items generalizing s with
  | nil => rw [T_forn hg]; exact h1 s h0
  | cons d ds ih =>
    rw [T_forc hg]
    obtain ⟨s1, e, h⟩ := hs d ds s h0
    refine ⟨s1, e, T_imp h fun f s2 z => ?_⟩
    obtain ⟨rfl | rfl, z⟩ := z
    · exact ih z
    · exact ih z
theorem T_forG {k : Nat} {xs : List D} {g : Tg} {body : M Fl} {items : List D} {Q : Fl → S → Prop} (I : List D → S → Prop) (h0 : I items s) (hk : ∀ ds s, I ds s → s.mem[k]? = some (.lst xs))
    (hs : ∀ d ds s, I (d :: ds) s → ∃ s1, g d s = some s1 ∧ T body s1 (fun f s2 => (f = .nx ∨ f = .ct) ∧ I ds s2) E) (h1 : ∀ s, I [] s → Q .nx s) : T (forL ⟨xs, some (k, xs)⟩ g body items) s Q E := by
  have ok : ∀ ds s, I ds s → Walk.okB ⟨xs, some (k, xs)⟩ s.mem := fun ds s i k' xs' h => by
    cases h; exact hk ds s i
  induction items generalizing s with
  | nil =>
    unfold T forL
    rw [if_pos (ok _ _ h0)]
    exact h1 s h0
  | cons d ds ih =>
    rw [T_consOk (ok _ _ h0)]
    obtain ⟨s1, e, h⟩ := hs d ds s h0
    refine ⟨s1, e, T_imp h fun f s2 z => ?_⟩
    obtain ⟨rfl | rfl, z⟩ := z
    · exact ih z
    · exact ih z
theorem T_for {mi : M Walk} {g : Tg} {body : M Fl} {Q : Fl → S → Prop} : T (sFor mi g body) s Q E ↔ T mi s (fun w s1 => T (forL w g body w.items) s1 Q E) E := by unfold sFor; rw [T_bnd]
theorem T_rng1 {a : M O} {Q : Walk → S → Prop} : T (mRng1 a) s Q E ↔ T a s (fun o s1 => ∃ j, o = .int j ∧ rgOk j = true ∧ Q ⟨rangeD 0 j.toNat, none⟩ s1) E := by
  unfold mRng1; rw [T_bnd]
  refine Iff.of_eq (congrArg (fun z => T a s z E) (funext fun o => funext fun s1 => propext ?_))
  cases o with
  | int j => by_cases h : rgOk j = true <;> simp [T, h]
  | _ => simp [T]
theorem T_wk {me : M O} {f : O → Mem → Option Walk} {Q : Walk → S → Prop} : T (wk me f) s Q E ↔ T me s (fun o s1 => ∃ w, f o s1.mem = some w ∧ Q w s1) E := by
  unfold wk; rw [T_bnd]
  refine Iff.of_eq (congrArg (fun z => T me s z E) (funext fun o => funext fun s1 => propext ?_))
  unfold T
  cases e : f o s1.mem <;> simp [e]
theorem rg_ok {j : Int} (h1 : -4611686018427387904 ≤ j) (h2 : j < 4611686018427387904) : rgOk j = true := by
  unfold rgOk
  rw [decide_eq_true (by omega), decide_eq_true (by omega)]; rfl
end

def SC (l : List Int) (i c n sd : Int) : Cell := .lst [.lst (l.map .int), .int i, .int c, .int n, .int sd]
def Sto (p : Nat) (m : Mem) : Prop := ∃ l i c n sd, 0 ≤ i ∧ 0 ≤ c ∧ m[p]? = some (SC l i c n sd)
theorem SC_lo {n : Nat} {l : List Int} {i c k sd : Int} : Cell.lo n (SC l i c k sd) = true := by
  have : ∀ l : List Int, D.loL n (l.map D.int) = true := by
    intro l
    induction l with
    | nil => rfl
    | cons a l ih => rw [List.map_cons]; unfold D.loL D.lo; rw [ih]; rfl
  unfold Cell.lo SC
  simp [D.loL, D.lo, this]
theorem set_same {m : Mem} {p : Nat} {c : Cell} (h : m[p]? = some c) : m.set p c = m := by
  apply List.ext_getElem?
  intro j
  by_cases e : j = p
  · subst e
    rw [List.getElem?_set_self (List.getElem?_eq_some_iff.mp h).1, h]
  · rw [List.getElem?_set_ne (Ne.symm e)]
theorem get_set {m : Mem} {p : Nat} {c c' : Cell} (h : m[p]? = some c) : (m.set p c')[p]? = some c' := List.getElem?_set_self (List.getElem?_eq_some_iff.mp h).1
theorem fin_set_int {m : Mem} {v : Int} {p : Nat} {l : List Int} {i c k sd : Int} : fin m (.int v) (m.set p (SC l i c k sd)) = (.int v, m.set p (SC l i c k sd)) := by
  have := fin_set (m := m) (t := []) (d := .int v) (p := p) (c := SC l i c k sd) SC_lo (by unfold D.lo; rfl)
  rwa [List.append_nil] at this
theorem ix50 : ixN 5 0 = some 0 := rfl
theorem ix51 : ixN 5 1 = some 1 := rfl
theorem ix52 : ixN 5 2 = some 2 := rfl
theorem ix53 : ixN 5 3 = some 3 := rfl
theorem ix54 : ixN 5 4 = some 4 := rfl
theorem ix5 (k : Nat) (h : k < 5) : ixN 5 (k : Int) = some k := by
  unfold ixN
  have : (k : Int) < 5 := by omega
  simp [this]
theorem fin_sto {m : Mem} {v : Int} {p : Nat} {l : List Int} {i c k sd : Int} : fin m (.int v) (m.set p (.lst [.lst (l.map .int), .int i, .int c, .int k, .int sd])) = (.int v, m.set p (.lst [.lst (l.map .int), .int i, .int c, .int k, .int sd])) := fin_set_int
theorem at_map {α β : Type} {f : α → β} {l : List α} {i : Int} (h0 : 0 ≤ i) (h1 : i < l.length) : ∃ z, atI (l.map f) i = some (f z) ∧ z ∈ l := by
  have hi : i.toNat < l.length := by omega
  refine ⟨l[i.toNat], ?_, List.getElem_mem hi⟩
  rw [atI_nat h0 (by rw [List.length_map]; exact h1), List.getElem?_map, List.getElem?_eq_getElem hi]
  rfl
theorem pow18 : (10 : Int) ^ (18 : Int).toNat = 1000000000000000000 := by decide
theorem pow12 : (10 : Int) ^ (12 : Int).toNat = 1000000000000 := by decide
theorem pow40 : (10 : Int) ^ (40 : Int).toNat = 10000000000000000000000000000000000000000 := by decide
theorem pow64 : (10 : Int) ^ (64 : Int).toNat = 10000000000000000000000000000000000000000000000000000000000000000 := by decide
def isS (c : Cell) : Prop := ∃ l i k n sd, 0 ≤ i ∧ 0 ≤ k ∧ c = SC l i k n sd
theorem isS.lo {c : Cell} (h : isS c) (n : Nat) : Cell.lo n c = true := by
  obtain ⟨l, i, k, n', sd, _, _, rfl⟩ := h
  exact SC_lo
theorem fin_s {m : Mem} {c : Cell} {p : Nat} {d : D} (h : isS c) (hd : D.lo m.length d = true) : fin m d (m.set p c) = (d, m.set p c) := by
  have := fin_set (m := m) (t := []) (d := d) (p := p) (c := c) (h.lo _) hd
  rwa [List.append_nil] at this
theorem fin_st {m t : Mem} {c : Cell} {p : Nat} {d : D} (h : isS c) (hd : D.lo m.length d = true) : fin m d (m.set p c ++ t) = (d, m.set p c) := fin_set (h.lo _) hd
theorem fin_new {m t : Mem} {c c' : Cell} {p k : Nat} (h : isS c) (hk : m.length ≤ k) (hc : (m.set p c ++ t)[k]? = some c') (hl : Cell.lo m.length c' = true) : fin m (.ptr k) (m.set p c ++ t) = (.ptr m.length, m.set p c ++ [c']) := by
  unfold fin
  have h1 : D.lo m.length (.ptr k) = false := by
    unfold D.lo; exact decide_eq_false (by omega)
  have e : m.length = (m.set p c).length := by simp
  rw [if_pos (keepL_set (h.lo _) _ _ _), h1, if_neg Bool.false_ne_true]
  simp only [hc, hl, if_true]
  rw [e, List.take_left]
theorem fin_new0 {m t : Mem} {c' : Cell} {k : Nat} (hk : m.length ≤ k) (hc : (m ++ t)[k]? = some c') (hl : Cell.lo m.length c' = true) : fin m (.ptr k) (m ++ t) = (.ptr m.length, m ++ [c']) := by
  unfold fin
  have h1 : D.lo m.length (.ptr k) = false := by
    unfold D.lo; exact decide_eq_false (by omega)
  rw [if_pos (keepL_app _ _ _), h1, if_neg Bool.false_ne_true]
  simp only [hc, hl, if_true]
  rw [List.take_left]
theorem lo_ints {n : Nat} : ∀ l : List Int, D.loL n (l.map D.int) = true
  | [] => rfl
  | a :: l => by rw [List.map_cons]; unfold D.loL D.lo; rw [lo_ints l]; rfl
theorem lo_lints {n : Nat} {l : List Int} : Cell.lo n (.lst (l.map D.int)) = true := lo_ints l
theorem fin_last {m M0 : Mem} {c c' : Cell} {p : Nat} (h : isS c) (e : ∃ t, M0 = m.set p c ++ t) (hl : Cell.lo m.length c' = true) : fin m (.ptr M0.length) (M0 ++ [c']) = (.ptr m.length, m.set p c ++ [c']) := by
  obtain ⟨t, rfl⟩ := e
  rw [List.append_assoc]
  refine fin_new h (by simp) ?_ hl
  rw [← List.append_assoc]
  exact List.getElem?_concat_length
theorem fin_last0 {m M0 : Mem} {c' : Cell} (e : ∃ t, M0 = m ++ t) (hl : Cell.lo m.length c' = true) : fin m (.ptr M0.length) (M0 ++ [c']) = (.ptr m.length, m ++ [c']) := by
  obtain ⟨t, rfl⟩ := e
  rw [List.append_assoc]
  refine fin_new0 (by simp) ?_ hl
  rw [← List.append_assoc]
  exact List.getElem?_concat_length
theorem loL_app {n : Nat} {ys : List D} : ∀ {xs : List D}, D.loL n (xs ++ ys) = (D.loL n xs && D.loL n ys)
  | [] => by rw [List.nil_append]; show _ = (true && _); rw [Bool.true_and]
  | a :: xs => by
    rw [List.cons_append]
    show (D.lo n a && D.loL n (xs ++ ys)) = ((D.lo n a && D.loL n xs) && D.loL n ys)
    rw [loL_app, Bool.and_assoc]
theorem loL_take {n : Nat} : ∀ {xs : List D} (k : Nat), D.loL n xs = true → D.loL n (xs.take k) = true
  | [], k, h => by rw [List.take_nil]; exact h
  | a :: xs, 0, h => rfl
  | a :: xs, k + 1, h => by
    have h : (D.lo n a && D.loL n xs) = true := h
    rw [Bool.and_eq_true] at h
    show (D.lo n a && D.loL n (xs.take k)) = true
    rw [h.1, loL_take k h.2]; rfl
theorem loL_drop {n : Nat} : ∀ {xs : List D} (k : Nat), D.loL n xs = true → D.loL n (xs.drop k) = true
  | [], k, h => by rw [List.drop_nil]; exact h
  | a :: xs, 0, h => h
  | a :: xs, k + 1, h => by
    have h : (D.lo n a && D.loL n xs) = true := h
    rw [Bool.and_eq_true] at h
    exact loL_drop k h.2
theorem cut_to {xs : List D} {r : Int} (h : 0 ≤ r) : cutD xs none (some r) = xs.take r.toNat := by
  obtain ⟨k, rfl⟩ := Int.eq_ofNat_of_zero_le h
  unfold cutD
  rw [HT.sIx_none, HT.sIx_nat, List.drop_zero, Nat.sub_zero, Int.toNat_natCast]
  apply List.ext_getElem?
  intro j
  rw [List.getElem?_take, List.getElem?_take]
  by_cases c : j < k
  · by_cases c2 : j < xs.length
    · rw [if_pos (by omega), if_pos c]
    · rw [List.getElem?_eq_none (by omega)]; simp
  · rw [if_neg (by omega), if_neg c]
theorem cut_from {xs : List D} {r : Int} (h : 0 ≤ r) : cutD xs (some r) none = xs.drop r.toNat := by
  obtain ⟨k, rfl⟩ := Int.eq_ofNat_of_zero_le h
  unfold cutD
  rw [HT.sIx_none, HT.sIx_nat, Int.toNat_natCast, List.take_of_length_le (by rw [List.length_drop]; omega)]
  by_cases c : k ≤ xs.length
  · rw [Nat.min_eq_left c]
  · rw [Nat.min_eq_right (by omega), List.drop_length, List.drop_of_length_le (by omega)]
theorem set_app {m t : Mem} {p : Nat} {c : Cell} (h : p < m.length) : (m ++ t).set p c = m.set p c ++ t := List.set_append_left _ _ h
theorem last_snoc {xs : List D} {d : D} : atI (xs ++ [d]) (-1) = some d := by
  unfold atI ixN
  have h : -(((xs ++ [d]).length : Nat) : Int) ≤ -1 := by simp; omega
  rw [if_neg (by decide), if_pos h]
  have e : ((-1 : Int) + ((xs ++ [d]).length : Nat)).toNat = xs.length := by
    rw [List.length_append, List.length_singleton]; omega
  show (some _).bind _ = _
  rw [e]
  simp
theorem ix_last {n : Nat} : ixN (n + 1) (-1) = some n := by
  unfold ixN
  have h : -(((n + 1 : Nat)) : Int) ≤ -1 := by omega
  rw [if_neg (by decide), if_pos h]
  congr 1
  omega
end Dl

set_option maxRecDepth 100000
set_option maxHeartbeats 2000000
namespace Dl
open PySem PySem.Spec PyProof.Rows L2

def sq (f : Fl) (A B : Prop) : Prop := (f = .nx → A) ∧ (f ≠ .nx → B)
theorem sq_nx {A B : Prop} : sq .nx A B ↔ A := by simp [sq]
theorem sq_rt {o : D} {A B : Prop} : sq (.rt o) A B ↔ B := by simp [sq]
theorem sq_bk {A B : Prop} : sq .bk A B ↔ B := by simp [sq]
theorem sq_ct {A B : Prop} : sq .ct A B ↔ B := by simp [sq]
def iq (k : Bool) (A B : Prop) : Prop := (k = true → A) ∧ (k = false → B)
theorem iq_t {A B : Prop} : iq true A B ↔ A := by simp [iq]
theorem iq_f {A B : Prop} : iq false A B ↔ B := by simp [iq]
theorem iq_dt {p : Prop} [Decidable p] {A B : Prop} (h : p) : iq (decide p) A B ↔ A := by simp [iq, h]
theorem iq_df {p : Prop} [Decidable p] {A B : Prop} (h : ¬p) : iq (decide p) A B ↔ B := by simp [iq, h]
theorem iq_nt {p : Prop} [Decidable p] {A B : Prop} (h : p) : iq (!decide p) A B ↔ B := by simp [iq, h]
theorem iq_nf {p : Prop} [Decidable p] {A B : Prop} (h : ¬p) : iq (!decide p) A B ↔ A := by simp [iq, h]
def tq (o : D) (Q : Bool → Prop) : Prop := ∃ b, o = .bl b ∧ Q b
theorem tq_bl {b : Bool} {Q : Bool → Prop} : tq (.bl b) Q ↔ Q b := by simp [tq]
def iqi (o : D) (Q : Int → Prop) : Prop := ∃ b, o = .int b ∧ Q b
theorem iqi_i {b : Int} {Q : Int → Prop} : iqi (.int b) Q ↔ Q b := by simp [iqi]
section
variable {α β : Type} {s : S} {E : D → S → Prop}
theorem L_seq {a b : M Fl} {Q : Fl → S → Prop} : T (sSeq a b) s Q E ↔ T a s (fun f s' => sq f (T b s' Q E) (Q f s')) E := T_seq
theorem L_if {c : M Bool} {a b : M α} {Q : α → S → Prop} : T (mIf c a b) s Q E ↔ T c s (fun k s' => iq k (T a s' Q E) (T b s' Q E)) E := T_if
theorem L_and {a b : M Bool} {Q : Bool → S → Prop} : T (mAnd a b) s Q E ↔ T a s (fun k s' => iq k (T b s' Q E) (Q false s')) E := T_and
theorem L_or {a b : M Bool} {Q : Bool → S → Prop} : T (mOr a b) s Q E ↔ T a s (fun k s' => iq k (Q true s') (T b s' Q E)) E := T_or
theorem L_tb {m : M O} {Q : Bool → S → Prop} : T (tb m) s Q E ↔ T m s (fun o s' => tq o fun b => Q b s') E := T_tb
theorem L_andV {a b : M O} {Q : D → S → Prop} : T (mAndV a b) s Q E ↔ T a s (fun o s' => tq o fun k => iq k (T b s' Q E) (Q (.bl false) s')) E := T_andV
theorem L_orV {a b : M O} {Q : D → S → Prop} : T (mOrV a b) s Q E ↔ T a s (fun o s' => tq o fun k => iq k (Q (.bl true) s') (T b s' Q E)) E := T_orV
theorem L_notV {a : M O} {Q : D → S → Prop} : T (mNotV a) s Q E ↔ T a s (fun o s' => tq o fun k => Q (.bl (!k)) s') E := T_notV
end
theorem iq_d {p : Prop} [Decidable p] {A B : Prop} : iq (decide p) A B ↔ (p → A) ∧ (¬p → B) := by simp [iq]
theorem iq_n {p : Prop} [Decidable p] {A B : Prop} : iq (!decide p) A B ↔ (¬p → A) ∧ (p → B) := by simp [iq]
section
variable {m : Mem} {Q : D → Mem → Prop} {v : Int} {z : Str} {xs : List D} {p : Nat}
theorem i_ib : Pq (pIsi "bool" (.int v) m) Q ↔ Q (.bl false) m := by
  have h : isB "int" "bool" = false := by decide +kernel
  rw [q_isi, ← h]
  exact ⟨fun ⟨_, h1, h2⟩ => by cases h1; exact h2, fun h2 => ⟨_, rfl, h2⟩⟩
theorem i_ii : Pq (pIsi "int" (.int v) m) Q ↔ Q (.bl true) m := by
  have h : isB "int" "int" = true := by decide +kernel
  rw [q_isi, ← h]
  exact ⟨fun ⟨_, h1, h2⟩ => by cases h1; exact h2, fun h2 => ⟨_, rfl, h2⟩⟩
theorem i_is : Pq (pIsi "str" (.int v) m) Q ↔ Q (.bl false) m := by
  have h : isB "int" "str" = false := by decide +kernel
  rw [q_isi, ← h]
  exact ⟨fun ⟨_, h1, h2⟩ => by cases h1; exact h2, fun h2 => ⟨_, rfl, h2⟩⟩
theorem i_il : Pq (pIsi "list" (.int v) m) Q ↔ Q (.bl false) m := by
  have h : isB "int" "list" = false := by decide +kernel
  rw [q_isi, ← h]
  exact ⟨fun ⟨_, h1, h2⟩ => by cases h1; exact h2, fun h2 => ⟨_, rfl, h2⟩⟩
theorem i_it : Pq (pIsi "tuple" (.int v) m) Q ↔ Q (.bl false) m := by
  have h : isB "int" "tuple" = false := by decide +kernel
  rw [q_isi, ← h]
  exact ⟨fun ⟨_, h1, h2⟩ => by cases h1; exact h2, fun h2 => ⟨_, rfl, h2⟩⟩
theorem i_sb : Pq (pIsi "bool" (.str z) m) Q ↔ Q (.bl false) m := by
  have h : isB "str" "bool" = false := by decide +kernel
  rw [q_isi, ← h]
  exact ⟨fun ⟨_, h1, h2⟩ => by cases h1; exact h2, fun h2 => ⟨_, rfl, h2⟩⟩
theorem i_si : Pq (pIsi "int" (.str z) m) Q ↔ Q (.bl false) m := by
  have h : isB "str" "int" = false := by decide +kernel
  rw [q_isi, ← h]
  exact ⟨fun ⟨_, h1, h2⟩ => by cases h1; exact h2, fun h2 => ⟨_, rfl, h2⟩⟩
theorem i_ss : Pq (pIsi "str" (.str z) m) Q ↔ Q (.bl true) m := by
  have h : isB "str" "str" = true := by decide +kernel
  rw [q_isi, ← h]
  exact ⟨fun ⟨_, h1, h2⟩ => by cases h1; exact h2, fun h2 => ⟨_, rfl, h2⟩⟩
theorem i_sl : Pq (pIsi "list" (.str z) m) Q ↔ Q (.bl false) m := by
  have h : isB "str" "list" = false := by decide +kernel
  rw [q_isi, ← h]
  exact ⟨fun ⟨_, h1, h2⟩ => by cases h1; exact h2, fun h2 => ⟨_, rfl, h2⟩⟩
theorem i_st : Pq (pIsi "tuple" (.str z) m) Q ↔ Q (.bl false) m := by
  have h : isB "str" "tuple" = false := by decide +kernel
  rw [q_isi, ← h]
  exact ⟨fun ⟨_, h1, h2⟩ => by cases h1; exact h2, fun h2 => ⟨_, rfl, h2⟩⟩
theorem i_tb : Pq (pIsi "bool" (.tup xs) m) Q ↔ Q (.bl false) m := by
  have h : isB "tuple" "bool" = false := by decide +kernel
  rw [q_isi, ← h]
  exact ⟨fun ⟨_, h1, h2⟩ => by cases h1; exact h2, fun h2 => ⟨_, rfl, h2⟩⟩
theorem i_ti : Pq (pIsi "int" (.tup xs) m) Q ↔ Q (.bl false) m := by
  have h : isB "tuple" "int" = false := by decide +kernel
  rw [q_isi, ← h]
  exact ⟨fun ⟨_, h1, h2⟩ => by cases h1; exact h2, fun h2 => ⟨_, rfl, h2⟩⟩
theorem i_ts : Pq (pIsi "str" (.tup xs) m) Q ↔ Q (.bl false) m := by
  have h : isB "tuple" "str" = false := by decide +kernel
  rw [q_isi, ← h]
  exact ⟨fun ⟨_, h1, h2⟩ => by cases h1; exact h2, fun h2 => ⟨_, rfl, h2⟩⟩
theorem i_tl : Pq (pIsi "list" (.tup xs) m) Q ↔ Q (.bl false) m := by
  have h : isB "tuple" "list" = false := by decide +kernel
  rw [q_isi, ← h]
  exact ⟨fun ⟨_, h1, h2⟩ => by cases h1; exact h2, fun h2 => ⟨_, rfl, h2⟩⟩
theorem i_tt : Pq (pIsi "tuple" (.tup xs) m) Q ↔ Q (.bl true) m := by
  have h : isB "tuple" "tuple" = true := by decide +kernel
  rw [q_isi, ← h]
  exact ⟨fun ⟨_, h1, h2⟩ => by cases h1; exact h2, fun h2 => ⟨_, rfl, h2⟩⟩
theorem i_pb (hl : m[p]? = some (.lst xs)) : Pq (pIsi "bool" (.ptr p) m) Q ↔ Q (.bl false) m := by
  have h : isB "list" "bool" = false := by decide +kernel
  have h2 : tyO (.ptr p) m = some "list" := by unfold tyO; simp only [hl]
  rw [q_isi, ← h, h2]
  exact ⟨fun ⟨_, h1, h2⟩ => by cases h1; exact h2, fun h2 => ⟨_, rfl, h2⟩⟩
theorem i_pi (hl : m[p]? = some (.lst xs)) : Pq (pIsi "int" (.ptr p) m) Q ↔ Q (.bl false) m := by
  have h : isB "list" "int" = false := by decide +kernel
  have h2 : tyO (.ptr p) m = some "list" := by unfold tyO; simp only [hl]
  rw [q_isi, ← h, h2]
  exact ⟨fun ⟨_, h1, h2⟩ => by cases h1; exact h2, fun h2 => ⟨_, rfl, h2⟩⟩
theorem i_ps (hl : m[p]? = some (.lst xs)) : Pq (pIsi "str" (.ptr p) m) Q ↔ Q (.bl false) m := by
  have h : isB "list" "str" = false := by decide +kernel
  have h2 : tyO (.ptr p) m = some "list" := by unfold tyO; simp only [hl]
  rw [q_isi, ← h, h2]
  exact ⟨fun ⟨_, h1, h2⟩ => by cases h1; exact h2, fun h2 => ⟨_, rfl, h2⟩⟩
theorem i_pl (hl : m[p]? = some (.lst xs)) : Pq (pIsi "list" (.ptr p) m) Q ↔ Q (.bl true) m := by
  have h : isB "list" "list" = true := by decide +kernel
  have h2 : tyO (.ptr p) m = some "list" := by unfold tyO; simp only [hl]
  rw [q_isi, ← h, h2]
  exact ⟨fun ⟨_, h1, h2⟩ => by cases h1; exact h2, fun h2 => ⟨_, rfl, h2⟩⟩
theorem i_pt (hl : m[p]? = some (.lst xs)) : Pq (pIsi "tuple" (.ptr p) m) Q ↔ Q (.bl false) m := by
  have h : isB "list" "tuple" = false := by decide +kernel
  have h2 : tyO (.ptr p) m = some "list" := by unfold tyO; simp only [hl]
  rw [q_isi, ← h, h2]
  exact ⟨fun ⟨_, h1, h2⟩ => by cases h1; exact h2, fun h2 => ⟨_, rfl, h2⟩⟩
theorem n_i : Pq (pIsN (.int v) .non m) Q ↔ Q (.bl false) m := Iff.rfl
theorem n_s : Pq (pIsN (.str z) .non m) Q ↔ Q (.bl false) m := Iff.rfl
theorem n_t : Pq (pIsN (.tup xs) .non m) Q ↔ Q (.bl false) m := Iff.rfl
theorem n_p : Pq (pIsN (.ptr p) .non m) Q ↔ Q (.bl false) m := Iff.rfl
theorem n_n : Pq (pIsN (.non) .non m) Q ↔ Q (.bl true) m := Iff.rfl
end
end Dl

set_option maxRecDepth 100000
set_option maxHeartbeats 2000000
namespace Dl
open PySem PySem.Spec PyProof.Rows L2
theorem of_tc {r : Rc} {P : D → Mem → Prop} (h : Tc r P fun _ _ => False) : ∃ d m, r = .ok d m ∧ P d m := by
  unfold Tc at h
  cases r with
  | ok d m => exact ⟨d, m, rfl, h⟩
  | exc _ _ => exact h.elim
  | bad => exact h.elim
theorem exc_of {r : Rc} {x : D} {m : Mem} (h : Tc r (fun _ _ => False) fun d m' => d = x ∧ m' = m) : r = .exc x m := by
  unfold Tc at h
  cases r with
  | ok _ _ => exact h.elim
  | exc d m' => rw [h.1, h.2]
  | bad => exact h.elim
theorem fin_fst {m m' : Mem} {d : D} (h : D.lo m.length d = true) : (fin m d m').1 = d := by
  unfold fin
  split
  · simp only [h, if_true]
  · rfl
theorem fin_c1 {c c' : Cell} {t : Mem} {d : D} (h : isS c') (hd : D.lo 1 d = true) : fin [c] d (c' :: t) = (d, [c']) := fin_st (m := [c]) (p := 0) (t := t) h hd
theorem fin_0 {t : Mem} {d : D} (hd : D.lo 0 d = true) : fin [] d t = (d, []) := by
  have := fin_same (m := []) (t := t) (d := d) hd
  rwa [List.nil_append] at this
mutual
theorem lo_mono {n : Nat} : ∀ {d : D}, D.lo 0 d = true → D.lo n d = true
  | .ptr k, h => by unfold D.lo at h; simp at h
  | .tup xs, h => by unfold D.lo at h ⊢; exact loL_mono h
  | .lst xs, h => by unfold D.lo at h ⊢; exact loL_mono h
  | .obj c xs, h => by unfold D.lo at h ⊢; exact loL_mono h
  | .dic _ xs, h => by unfold D.lo at h ⊢; exact loL_mono h
  | .dit _ xs, h => by unfold D.lo at h ⊢; exact loL_mono h
  | .exc _ xs, h => by unfold D.lo at h ⊢; exact loL_mono h
  | .non, _ => by unfold D.lo; rfl
  | .bl _, _ => by unfold D.lo; rfl
  | .int _, _ => by unfold D.lo; rfl
  | .str _, _ => by unfold D.lo; rfl
  | .scr _, _ => by unfold D.lo; rfl
theorem loL_mono {n : Nat} : ∀ {ds : List D}, D.loL 0 ds = true → D.loL n ds = true
  | [], _ => rfl
  | d :: ds, h => by
    unfold D.loL at h ⊢; rw [Bool.and_eq_true] at h
    rw [lo_mono h.1, loL_mono h.2]; rfl
end
theorem fin_ci {c c' : Cell} {t : Mem} {v : Int} (h : isS c') : fin [c] (.int v) (c' :: t) = (.int v, [c']) := fin_c1 h rfl
theorem fin_cs {c c' : Cell} {t : Mem} {v : Str} (h : isS c') : fin [c] (.str v) (c' :: t) = (.str v, [c']) := fin_c1 h rfl
theorem fin_cn {c c' : Cell} {t : Mem} (h : isS c') : fin [c] .non (c' :: t) = (.non, [c']) := fin_c1 h rfl
theorem fin_cb {c c' : Cell} {t : Mem} {v : Bool} (h : isS c') : fin [c] (.bl v) (c' :: t) = (.bl v, [c']) := fin_c1 h rfl
theorem fin_cl {c c' : Cell} {t : Mem} {xs : List D} (h : isS c') (hx : D.loL 0 xs = true) : fin [c] (.lst xs) (c' :: t) = (.lst xs, [c']) := fin_c1 h (lo_mono (d := .lst xs) hx)
theorem fin_ct {c c' : Cell} {t : Mem} {xs : List D} (h : isS c') (hx : D.loL 0 xs = true) : fin [c] (.tup xs) (c' :: t) = (.tup xs, [c']) := fin_c1 h (lo_mono (d := .tup xs) hx)
def DrV {α : Type} (φ : Fn) (os : List O) (c : Cell) (enc : α → D) (P : α → Prop) : Prop := ∃ a c', φ os [c] = .ok (enc a) [c'] ∧ isS c' ∧ P a
theorem DrV.of {α : Type} {φ : Fn} {os : List O} {c : Cell} {enc : α → D} {P : α → Prop} (h : Tc (φ os [c]) (fun d m => ∃ a c', d = enc a ∧ m = [c'] ∧ isS c' ∧ P a) fun _ _ => False) : DrV φ os c enc P := by
  obtain ⟨d, m, e, a, c', rfl, rfl, h1, h2⟩ := of_tc h
  exact ⟨a, c', e, h1, h2⟩
theorem DrV.get {α : Type} {φ : Fn} {os : List O} {c : Cell} {enc : α → D} {P : α → Prop} (h : DrV φ os c enc P) (sc : isS c) (h1 : D.loL 1 os = true) (h3 : ∀ a, P a → D.lo 1 (enc a) = true) : ∃ a c', (∀ t, isoK 1 φ os (c :: t) = .ok (enc a) (c' :: t)) ∧ isS c' ∧ P a := by
  obtain ⟨a, c', e, s', p⟩ := h
  exact ⟨a, c', isoS_ok e h1 (sc.lo 1) (h3 a p), s', p⟩

mutual
theorem frzW_cl {g : Hd} {m : Mem} : ∀ {d : D}, D.lo 0 d = true → frzW g d m = some (d, m)
  | .ptr k, h => by unfold D.lo at h; simp at h
  | .tup xs, h => by unfold D.lo at h; unfold frzW; rw [frzWL_cl h]
  | .lst xs, h => by unfold D.lo at h; unfold frzW; rw [frzWL_cl h]
  | .obj c xs, h => by unfold D.lo at h; unfold frzW; rw [frzWL_cl h]
  | .non, _ => by unfold frzW; rfl
  | .bl _, _ => by unfold frzW; rfl
  | .int _, _ => by unfold frzW; rfl
  | .str _, _ => by unfold frzW; rfl
  | .scr _, _ => by unfold frzW; rfl
  | .dic _ _, _ => by unfold frzW; rfl
  | .dit _ _, _ => by unfold frzW; rfl
  | .exc _ _, _ => by unfold frzW; rfl
theorem frzWL_cl {g : Hd} {m : Mem} : ∀ {ds : List D}, D.loL 0 ds = true → frzWL g ds m = some (ds, m)
  | [], _ => by unfold frzWL; rfl
  | d :: ds, h => by
    unfold D.loL at h; rw [Bool.and_eq_true] at h
    unfold frzWL; rw [frzW_cl h.1]
    simp only
    rw [frzWL_cl h.2]
end
theorem frz_cl {m : Mem} {d : D} (h : D.lo 0 d = true) : frz d m = some (d, m) := frzW_cl h
theorem frz_ptr {m : Mem} {k : Nat} {xs : List D} (h : m[k]? = some (.lst xs)) (hx : D.loL 0 xs = true) : frz (.ptr k) m = some (.lst xs, m.set k .dead) := by
  unfold frz frzW
  show frzK 20 k m = _
  unfold frzK
  simp only [h]
  rw [frzWL_cl hx]
theorem lo_strs {n : Nat} : ∀ l : List Str, D.loL n (l.map D.str) = true
  | [] => rfl
  | a :: l => by rw [List.map_cons]; unfold D.loL D.lo; rw [lo_strs l]; rfl
theorem loL_map {α : Type} {n : Nat} {f : α → D} (h : ∀ a, D.lo n (f a) = true) : ∀ l : List α, D.loL n (l.map f) = true
  | [] => rfl
  | a :: l => by rw [List.map_cons]; unfold D.loL; rw [h a, loL_map h l]; rfl
theorem isoE {φ : Fn} {os : List O} {x : D} (h : φ os [] = .exc x []) (c : D.loL 0 os = true) (c2 : D.lo 0 x = true) (m : Mem) : iso φ os m = .exc x m := iso_exc h c c2 m
theorem T_try {mt : List (Nat × Bool)} {i : Nat} {body suite : M Fl} {s : S} {Q : Fl → S → Prop} {E : D → S → Prop}
    (h : T body s Q fun x s1 => ∃ c ds, x = .exc c ds ∧ mt.lookup c = some true ∧ T suite ⟨s1.env.set i (some x), s1.mem⟩ (fun f s2 => match f with
      | .rt d => Q (.rt d) s2
      | f => Q f ⟨s2.env.set i none, s2.mem⟩) fun _ _ => False) : T (sTry mt i body suite) s Q E := by
  unfold T sTry
  unfold T at h
  cases e : body s with
  | ok f s1 => rw [e] at h; exact h
  | bad => rw [e] at h; exact h.elim
  | exc x s1 =>
    rw [e] at h
    obtain ⟨c, ds, rfl, hl, h⟩ := h
    simp only [hl]
    cases e2 : suite ⟨s1.env.set i (some (.exc c ds)), s1.mem⟩ with
    | ok f s2 => simp only [e2] at h ⊢; cases f <;> exact h
    | exc _ _ => simp only [e2] at h
    | bad => simp only [e2] at h
section
variable {m : Mem} {Q : D → Mem → Prop} {xs : List D} {b : Bool}
theorem i_gen {o : D} {t t' : String} (h : tyO o m = some t) (hb : isB t t' = b) : Pq (pIsi t' o m) Q ↔ Q (.bl b) m := by
  rw [q_isi, h, ← hb]
  exact ⟨fun ⟨_, h1, h2⟩ => by cases h1; exact h2, fun h2 => ⟨_, rfl, h2⟩⟩
theorem i_lb : Pq (pIsi "bool" (.lst xs) m) Q ↔ Q (.bl false) m := i_gen (t := "list") rfl (by decide +kernel)
theorem i_li : Pq (pIsi "int" (.lst xs) m) Q ↔ Q (.bl false) m := i_gen (t := "list") rfl (by decide +kernel)
theorem i_ls : Pq (pIsi "str" (.lst xs) m) Q ↔ Q (.bl false) m := i_gen (t := "list") rfl (by decide +kernel)
theorem i_ll : Pq (pIsi "list" (.lst xs) m) Q ↔ Q (.bl true) m := i_gen (t := "list") rfl (by decide +kernel)
theorem i_lt : Pq (pIsi "tuple" (.lst xs) m) Q ↔ Q (.bl false) m := i_gen (t := "list") rfl (by decide +kernel)
theorem i_bb {v : Bool} : Pq (pIsi "bool" (.bl v) m) Q ↔ Q (.bl true) m := i_gen (t := "bool") rfl (by decide +kernel)
theorem i_bi {v : Bool} : Pq (pIsi "int" (.bl v) m) Q ↔ Q (.bl true) m := i_gen (t := "bool") rfl (by decide +kernel)
theorem i_nb : Pq (pIsi "bool" .non m) Q ↔ Q (.bl false) m := i_gen (t := "NoneType") rfl (by decide +kernel)
theorem i_ni : Pq (pIsi "int" .non m) Q ↔ Q (.bl false) m := i_gen (t := "NoneType") rfl (by decide +kernel)
theorem n_l : Pq (pIsN (.lst xs) .non m) Q ↔ Q (.bl false) m := Iff.rfl
theorem n_b {v : Bool} : Pq (pIsN (.bl v) .non m) Q ↔ Q (.bl false) m := Iff.rfl
theorem q_eqb {a c : Bool} : Pq (pEq (.bl a) (.bl c) m) Q ↔ Q (.bl (decide (a = c))) m := by
  have e : pEq (.bl a) (.bl c) m = some (.bl (decide (a = c)), m) := by
    unfold pEq eqO
    cases a <;> cases c <;> rfl
  rw [e]; exact Iff.rfl
theorem q_eqs {a b : Str} : Pq (pEq (.str a) (.str b) m) Q ↔ Q (.bl (decide (a = b))) m := by
  have e : pEq (.str a) (.str b) m = some (.bl (decide (a = b)), m) := by
    unfold pEq eqO
    rfl
  rw [e]; exact Iff.rfl
end
theorem q_powW {m : Mem} {Q : D → Mem → Prop} {i j : Int} (h : cPowW i j = true) : Pq (pPowW (.int i) (.int j) m) Q ↔ Q (.int (i ^ j.toNat)) m := by
  unfold pPowW pI2
  simp only [h, if_true]
  exact Iff.rfl
def plainD : Nat → D → Bool
  | 0, _ => false
  | _ + 1, .non => true
  | _ + 1, .bl _ => true
  | _ + 1, .int _ => true
  | _ + 1, .str _ => true
  | n + 1, .tup xs => decide (xs.length ≤ 1000000) && xs.all (plainD n)
  | n + 1, .lst xs => decide (xs.length ≤ 1000000) && xs.all (plainD n)
  | _ + 1, _ => false
theorem plain_lo : ∀ (n : Nat) (d : D), plainD n d = true → D.lo 0 d = true
  | 0, d, h => by unfold plainD at h; cases h
  | n + 1, d, h => by
    have seq : ∀ xs : List D, xs.all (plainD n) = true → D.loL 0 xs = true := by
      intro xs
      induction xs with
      | nil => intro _; rfl
      | cons a l ih =>
        intro h
        rw [List.all_cons, Bool.and_eq_true] at h
        unfold D.loL
        rw [plain_lo n a h.1, ih h.2]; rfl
    cases d with
    | tup xs =>
      unfold plainD at h
      rw [Bool.and_eq_true] at h
      unfold D.lo; exact seq xs h.2
    | lst xs =>
      unfold plainD at h
      rw [Bool.and_eq_true] at h
      unfold D.lo; exact seq xs h.2
    | non => unfold D.lo; rfl
    | bl _ => unfold D.lo; rfl
    | int _ => unfold D.lo; rfl
    | str _ => unfold D.lo; rfl
    | _ => unfold plainD at h; cases h
end Dl

set_option maxRecDepth 100000
set_option maxHeartbeats 2000000
namespace Dl
open PySem PySem.Spec PyProof.Rows L2
section
variable {s : S} {E : D → S → Prop}
theorem T_rng2 {a b : M O} {Q : Walk → S → Prop} : T (mRng2 a b) s Q E ↔ T a s (fun o s1 => T b s1 (fun u s2 => iqi o fun i => iqi u fun j => (rgOk i = true ∧ rgOk j = true) ∧ Q ⟨rangeD i (j - i).toNat, none⟩ s2) E) E := by
  unfold mRng2; rw [T_bnd]
  refine Iff.of_eq (congrArg (fun z => T a s z E) (funext fun o => funext fun s1 => propext ?_))
  rw [T_bnd]
  refine Iff.of_eq (congrArg (fun z => T b s1 z E) (funext fun u => funext fun s2 => propext ?_))
  cases o with
  | int i =>
    cases u with
    | int j => by_cases h : rgOk i = true ∧ rgOk j = true <;> simp [T, h, iqi]
    | _ => simp [T, iqi]
  | _ => simp [T, iqi]
theorem T_forR {g : Tg} {body : M Fl} {lo : Int} {n : Nat} {Q : Fl → S → Prop} (I : Nat → S → Prop) (h0 : I 0 s)
    (hs : ∀ i s, i < n → I i s → ∃ s1, g (.int (lo + (i : Nat))) s = some s1 ∧ T body s1 (fun f s2 => (f = .nx ∨ f = .ct) ∧ I (i + 1) s2) E) (h1 : ∀ s, I n s → Q .nx s) : T (forL ⟨rangeD lo n, none⟩ g body (rangeD lo n)) s Q E := by
  refine T_forI (fun ds s => ∃ i, i ≤ n ∧ ds = (rangeD lo n).drop i ∧ I i s) rfl ⟨0, Nat.zero_le _, rfl, h0⟩ ?_ ?_
  · rintro d ds s ⟨i, hi, e, hI⟩
    have hl : (rangeD lo n).length = n := by unfold rangeD; simp
    have hin : i < n := by
      have := congrArg List.length e
      rw [List.length_drop, hl, List.length_cons] at this; omega
    have e2 : (rangeD lo n).drop i = .int (lo + (i : Nat)) :: (rangeD lo n).drop (i + 1) := by
      rw [List.drop_eq_getElem_cons (by omega)]
      congr 1
      unfold rangeD; simp
    rw [e2] at e
    obtain ⟨rfl, rfl⟩ := List.cons.inj e
    obtain ⟨s1, g1, t1⟩ := hs i s hin hI
    refine ⟨s1, g1, T_imp t1 fun f s2 z => ⟨z.1, i + 1, by omega, rfl, z.2⟩⟩
  · rintro s ⟨i, hi, e, hI⟩
    have hl : (rangeD lo n).length = n := by unfold rangeD; simp
    have := congrArg List.length e
    rw [List.length_drop, hl] at this
    have e3 : i = n := by simp at this; omega
    subst e3
    exact h1 s hI
theorem lcL_inv {w : Walk} {g : Tg} {tt : M Bool} {te : M O} {own : List Nat} (I : List D → List D → S → Prop) (hg : ∀ ds acc s, I ds acc s → w.okB s.mem)
    (hs : ∀ d ds acc s, I (d :: ds) acc s → ∃ s', g d s = some s' ∧ T tt s' (fun b s2 => if b = true then T te s2 (fun o s3 => I ds (acc ++ [o]) ⟨wipeE s3.env own, s3.mem⟩) (fun _ _ => False) else I ds acc ⟨wipeE s2.env own, s2.mem⟩) fun _ _ => False) :
    ∀ (ds acc : List D) (s : S), I ds acc s → ∃ acc' s', lcL w g tt te own ds acc s = .ok acc' s' ∧ I [] acc' s'
  | [], acc, s, h => by
    refine ⟨acc, s, ?_, h⟩
    unfold lcL
    rw [if_pos (hg _ _ _ h)]
  | d :: ds, acc, s, h => by
    obtain ⟨s', g1, t1⟩ := hs d ds acc s h
    unfold lcL
    rw [if_pos (hg _ _ _ h)]
    simp only [g1]
    unfold T at t1
    cases e : tt s' with
    | bad => rw [e] at t1; exact t1.elim
    | exc _ _ => rw [e] at t1; exact t1.elim
    | ok b s2 =>
      rw [e] at t1
      simp only at t1
      cases b with
      | false =>
        simp only [Bool.false_eq_true, if_false] at t1
        exact lcL_inv I hg hs ds acc _ t1
      | true =>
        simp only [if_true] at t1
        simp only
        cases e2 : te s2 with
        | bad => simp only [T, e2] at t1
        | exc _ _ => simp only [T, e2] at t1
        | ok o s3 =>
          simp only [T, e2] at t1
          simp only
          exact lcL_inv I hg hs ds (acc ++ [o]) _ t1
theorem T_lcI {mi : M Walk} {g : Tg} {tt : M Bool} {te : M O} {own : List Nat} {Q : D → S → Prop}
    (h : T mi s (fun w s1 => w.items.length ≤ 16777216 ∧ ∃ I : List D → List D → S → Prop, (∀ ds acc s, I ds acc s → w.okB s.mem) ∧ I w.items [] ⟨wipeE s1.env own, s1.mem⟩ ∧
      (∀ d ds acc s, I (d :: ds) acc s → ∃ s', g d s = some s' ∧ T tt s' (fun b s2 => if b = true then T te s2 (fun o s3 => I ds (acc ++ [o]) ⟨wipeE s3.env own, s3.mem⟩) (fun _ _ => False) else I ds acc ⟨wipeE s2.env own, s2.mem⟩) fun _ _ => False) ∧
      ∀ acc s', I [] acc s' → Q (.ptr s'.mem.length) ⟨backE s1.env s'.env own, s'.mem ++ [.lst acc]⟩) E) : T (mLc mi g tt te own) s Q E := by
  unfold mLc
  rw [T_bnd]
  refine T_imp h fun w s1 z => ?_
  obtain ⟨hl, I, hg, h0, hs, h1⟩ := z
  unfold T
  simp only
  rw [if_pos (by rw [sizeLine_eq]; exact hl)]
  obtain ⟨acc', s', e, i⟩ := lcL_inv I hg hs w.items [] _ h0
  rw [e]
  exact h1 acc' s' i
end
theorem okB_none {xs : List D} {m : Mem} : Walk.okB ⟨xs, none⟩ m := fun k xs h => by cases h
theorem T_lcP {mi : M Walk} {g : Tg} {tt : M Bool} {te : M O} {own : List Nat} {s : S} {E : D → S → Prop} {Q : D → S → Prop} (p : D → Bool) (f : D → D)
    (h : T mi s (fun w s1 => w.items.length ≤ 16777216 ∧ w.okB s1.mem ∧
      (∀ d ∈ w.items, ∃ s', g d ⟨wipeE s1.env own, s1.mem⟩ = some s' ∧ s'.mem = s1.mem ∧ wipeE s'.env own = wipeE s1.env own ∧ T tt s' (fun b s2 => b = p d ∧ s2 = s') (fun _ _ => False) ∧ (p d = true → T te s' (fun o s3 => o = f d ∧ s3 = s') (fun _ _ => False))) ∧
      Q (.ptr s1.mem.length) ⟨backE s1.env (wipeE s1.env own) own, s1.mem ++ [.lst ((w.items.filter p).map f)]⟩) E) : T (mLc mi g tt te own) s Q E := by
  refine T_lcI (T_imp h fun w s1 z => ?_)
  obtain ⟨hl, ok, hs, hq⟩ := z
  refine ⟨hl, fun ds acc s => (∃ pre, w.items = pre ++ ds ∧ acc = (pre.filter p).map f) ∧ s = ⟨wipeE s1.env own, s1.mem⟩, ?_, ⟨⟨[], rfl, rfl⟩, rfl⟩, ?_, ?_⟩
  · rintro ds acc s ⟨_, rfl⟩; exact ok
  · rintro d ds acc s ⟨⟨pre, e, rfl⟩, rfl⟩
    obtain ⟨s', g1, m1, w1, t1, t2⟩ := hs d (by rw [e]; simp)
    refine ⟨s', g1, T_imp t1 ?_⟩
    rintro b _ ⟨rfl, rfl⟩
    by_cases hp : p d = true
    · rw [if_pos hp]
      refine T_imp (t2 hp) ?_
      rintro _ _ ⟨rfl, rfl⟩
      refine ⟨⟨pre ++ [d], by rw [e]; simp, ?_⟩, by rw [w1, m1]⟩
      rw [List.filter_append, List.map_append]
      simp [hp]
    · rw [if_neg hp]
      refine ⟨⟨pre ++ [d], by rw [e]; simp, ?_⟩, by rw [w1, m1]⟩
      rw [List.filter_append]
      simp [hp]
  · rintro acc s' ⟨⟨pre, e, rfl⟩, rfl⟩
    rw [List.append_nil] at e
    subst e
    exact hq
theorem T_lcM {mi : M Walk} {g : Tg} {te : M O} {own : List Nat} {s : S} {E : D → S → Prop} {Q : D → S → Prop} (f : D → D)
    (h : T mi s (fun w s1 => w.items.length ≤ 16777216 ∧ w.okB s1.mem ∧
      (∀ d ∈ w.items, ∃ s', g d ⟨wipeE s1.env own, s1.mem⟩ = some s' ∧ s'.mem = s1.mem ∧ wipeE s'.env own = wipeE s1.env own ∧ T te s' (fun o s3 => o = f d ∧ s3 = s') (fun _ _ => False)) ∧
      Q (.ptr s1.mem.length) ⟨backE s1.env (wipeE s1.env own) own, s1.mem ++ [.lst (w.items.map f)]⟩) E) : T (mLc mi g tTrue te own) s Q E := by
  refine T_lcP (fun _ => true) f (T_imp h fun w s1 z => ?_)
  obtain ⟨hl, ok, hs, hq⟩ := z
  refine ⟨hl, ok, fun d hd => ?_, ?_⟩
  · obtain ⟨s', h1, h2, h3, h4⟩ := hs d hd
    exact ⟨s', h1, h2, h3, T_ret.mpr ⟨rfl, rfl⟩, fun _ => h4⟩
  · rw [List.filter_eq_self.mpr (fun _ _ => rfl)]; exact hq
end Dl

set_option maxRecDepth 100000
set_option maxHeartbeats 2000000
namespace K38
open PySem PySem.Spec PyProof.Rows L2 Dl
def top (i : Nat) : Stmt := PySem.Challenge.pw_hedgejoin_k38_worlds_by_fields.main.body.getD i (.Pass ⟨0, 0, 0, 0⟩)
def fl : Nat → List Str
  | 1 => ["name"]
  | 2 => ["name"]
  | 3 => ["name"]
  | 4 => ["name"]
  | 5 => ["size"]
  | 11 => ["lots"]
  | 12 => ["pair"]
  | 13 => ["pair"]
  | 14 => ["pair"]
  | 15 => ["pair"]
  | 16 => ["field"]
  | 17 => ["cause", "place"]
  | 18 => ["cause", "place"]
  | 19 => ["place"]
  | 20 => ["limit", "value"]
  | 21 => ["limit", "count"]
  | 22 => ["place"]
  | 23 => ["place"]
  | 24 => ["place"]
  | 25 => ["cause"]
  | _ => []
abbrev ct (ca : Nat → Addr) : CT := ⟨ca, fl⟩
structure Fx (P : Program) (K : PySem.W.Frag) (ca : Nat → Addr) (mg : Str → Option Value) : Prop where
  b_ValueError : mg "ValueError" = none
  b_bool : mg "bool" = none
  b_int : mg "int" = none
  b_isinstance : mg "isinstance" = none
  b_len : mg "len" = none
  b_list : mg "list" = none
  b_range : mg "range" = none
  b_str : mg "str" = none
  b_sum : mg "sum" = none
  b_tuple : mg "tuple" = none
  d_choose : IsDef K mg "choose" "choose" (defArgs (top 28)) (defBody (top 28)) (defScope (top 28)) [] []
  d_count_with_fields : IsDef K mg "count_with_fields" "count_with_fields" (defArgs (top 29)) (defBody (top 29)) (defScope (top 29)) [] []
  d_count_worlds : IsDef K mg "count_worlds" "count_worlds" (defArgs (top 30)) (defBody (top 30)) (defScope (top 30)) [] [("fields", V.non)]
  d__law_store : IsDef K mg "_law_store" "_law_store" (defArgs (top 32)) (defBody (top 32)) (defScope (top 32)) [] []
  d__law_mixed : IsDef K mg "_law_mixed" "_law_mixed" (defArgs (top 33)) (defBody (top 33)) (defScope (top 33)) [] []
  d__law_take : IsDef K mg "_law_take" "_law_take" (defArgs (top 34)) (defBody (top 34)) (defScope (top 34)) [] []
  d__law_number : IsDef K mg "_law_number" "_law_number" (defArgs (top 35)) (defBody (top 35)) (defScope (top 35)) [] []
  d__law_whole : IsDef K mg "_law_whole" "_law_whole" (defArgs (top 36)) (defBody (top 36)) (defScope (top 36)) [] []
  d__law_place : IsDef K mg "_law_place" "_law_place" (defArgs (top 37)) (defBody (top 37)) (defScope (top 37)) [] []
  d__law_same : IsDef K mg "_law_same" "_law_same" (defArgs (top 38)) (defBody (top 38)) (defScope (top 38)) [] []
  d__law_vast : IsDef K mg "_law_vast" "_law_vast" (defArgs (top 39)) (defBody (top 39)) (defScope (top 39)) [] []
  d__law_by_fields : IsDef K mg "_law_by_fields" "_law_by_fields" (defArgs (top 40)) (defBody (top 40)) (defScope (top 40)) [] []
  d__law_refusal : IsDef K mg "_law_refusal" "_law_refusal" (defArgs (top 41)) (defBody (top 41)) (defScope (top 41)) [] []
  d__law_asked : IsDef K mg "_law_asked" "_law_asked" (defArgs (top 42)) (defBody (top 42)) (defScope (top 42)) [] []
  d__law_asked_by : IsDef K mg "_law_asked_by" "_law_asked_by" (defArgs (top 43)) (defBody (top 43)) (defScope (top 43)) [] []
  d__law_due : IsDef K mg "_law_due" "_law_due" (defArgs (top 44)) (defBody (top 44)) (defScope (top 44)) [] []
  d__law_size_holds : IsDef K mg "_law_size_holds" "_law_size_holds" (defArgs (top 45)) (defBody (top 45)) (defScope (top 45)) [] []
  d_law : IsDef K mg "law" "law" (defArgs (top 46)) (defBody (top 46)) (defScope (top 46)) [] []
  g_HedgeError : mg "HedgeError" = some (.ref (ca 0))
  g_BadName : mg "BadName" = some (.ref (ca 1))
  g_RepeatedName : mg "RepeatedName" = some (.ref (ca 2))
  g_UnknownLot : mg "UnknownLot" = some (.ref (ca 3))
  g_SameLot : mg "SameLot" = some (.ref (ca 4))
  g_BadSize : mg "BadSize" = some (.ref (ca 5))
  g_BadParting : mg "BadParting" = some (.ref (ca 6))
  g_EndsDiffer : mg "EndsDiffer" = some (.ref (ca 7))
  g_OtherPond : mg "OtherPond" = some (.ref (ca 8))
  g_NoRun : mg "NoRun" = some (.ref (ca 9))
  g_EmptyBook : mg "EmptyBook" = some (.ref (ca 10))
  g_Crossing : mg "Crossing" = some (.ref (ca 11))
  g_AtStrife : mg "AtStrife" = some (.ref (ca 12))
  g_NoStrife : mg "NoStrife" = some (.ref (ca 13))
  g_SameField : mg "SameField" = some (.ref (ca 14))
  g_NotWithin : mg "NotWithin" = some (.ref (ca 15))
  g_CrossedField : mg "CrossedField" = some (.ref (ca 16))
  g_StepRefused : mg "StepRefused" = some (.ref (ca 17))
  g_OrderRefused : mg "OrderRefused" = some (.ref (ca 18))
  g_Stuck : mg "Stuck" = some (.ref (ca 19))
  g_OutOfRange : mg "OutOfRange" = some (.ref (ca 20))
  g_TooMany : mg "TooMany" = some (.ref (ca 21))
  g_BadText : mg "BadText" = some (.ref (ca 22))
  g_BadSplit : mg "BadSplit" = some (.ref (ca 23))
  g_BadRow : mg "BadRow" = some (.ref (ca 24))
  g_Ungranted : mg "Ungranted" = some (.ref (ca 25))
  x_OutOfRange : XCls P K mg (ct ca) 20 "OutOfRange" 2
  is_OutOfRange : ∀ p ∈ ([(20, true)] : List (Nat × Bool)), ExcC K (ca p.1) ∧ PySem.W.kitOne K (.ref (ca p.1)) (.ref (ca 20)) = some p.2
  is_ValueError : ∀ p ∈ ([(20, true)] : List (Nat × Bool)), ExcC K (ca p.1) ∧ PySem.W.kitOne K (.ref (ca p.1)) (.type "ValueError") = some p.2
  is_UnknownLot : ∀ p ∈ ([(20, false)] : List (Nat × Bool)), ExcC K (ca p.1) ∧ PySem.W.kitOne K (.ref (ca p.1)) (.ref (ca 3)) = some p.2
  is_Ungranted : ∀ p ∈ ([(20, false)] : List (Nat × Bool)), ExcC K (ca p.1) ∧ PySem.W.kitOne K (.ref (ca p.1)) (.ref (ca 25)) = some p.2
  is_TooMany : ∀ p ∈ ([(20, false)] : List (Nat × Bool)), ExcC K (ca p.1) ∧ PySem.W.kitOne K (.ref (ca p.1)) (.ref (ca 21)) = some p.2
  is_Stuck : ∀ p ∈ ([(20, false)] : List (Nat × Bool)), ExcC K (ca p.1) ∧ PySem.W.kitOne K (.ref (ca p.1)) (.ref (ca 19)) = some p.2
  is_StepRefused : ∀ p ∈ ([(20, false)] : List (Nat × Bool)), ExcC K (ca p.1) ∧ PySem.W.kitOne K (.ref (ca p.1)) (.ref (ca 17)) = some p.2
  is_SameLot : ∀ p ∈ ([(20, false)] : List (Nat × Bool)), ExcC K (ca p.1) ∧ PySem.W.kitOne K (.ref (ca p.1)) (.ref (ca 4)) = some p.2
  is_SameField : ∀ p ∈ ([(20, false)] : List (Nat × Bool)), ExcC K (ca p.1) ∧ PySem.W.kitOne K (.ref (ca p.1)) (.ref (ca 14)) = some p.2
  is_RepeatedName : ∀ p ∈ ([(20, false)] : List (Nat × Bool)), ExcC K (ca p.1) ∧ PySem.W.kitOne K (.ref (ca p.1)) (.ref (ca 2)) = some p.2
  is_OtherPond : ∀ p ∈ ([(20, false)] : List (Nat × Bool)), ExcC K (ca p.1) ∧ PySem.W.kitOne K (.ref (ca p.1)) (.ref (ca 8)) = some p.2
  is_OrderRefused : ∀ p ∈ ([(20, false)] : List (Nat × Bool)), ExcC K (ca p.1) ∧ PySem.W.kitOne K (.ref (ca p.1)) (.ref (ca 18)) = some p.2
  is_NotWithin : ∀ p ∈ ([(20, false)] : List (Nat × Bool)), ExcC K (ca p.1) ∧ PySem.W.kitOne K (.ref (ca p.1)) (.ref (ca 15)) = some p.2
  is_NoStrife : ∀ p ∈ ([(20, false)] : List (Nat × Bool)), ExcC K (ca p.1) ∧ PySem.W.kitOne K (.ref (ca p.1)) (.ref (ca 13)) = some p.2
  is_NoRun : ∀ p ∈ ([(20, false)] : List (Nat × Bool)), ExcC K (ca p.1) ∧ PySem.W.kitOne K (.ref (ca p.1)) (.ref (ca 9)) = some p.2
  is_EndsDiffer : ∀ p ∈ ([(20, false)] : List (Nat × Bool)), ExcC K (ca p.1) ∧ PySem.W.kitOne K (.ref (ca p.1)) (.ref (ca 7)) = some p.2
  is_EmptyBook : ∀ p ∈ ([(20, false)] : List (Nat × Bool)), ExcC K (ca p.1) ∧ PySem.W.kitOne K (.ref (ca p.1)) (.ref (ca 10)) = some p.2
  is_Crossing : ∀ p ∈ ([(20, false)] : List (Nat × Bool)), ExcC K (ca p.1) ∧ PySem.W.kitOne K (.ref (ca p.1)) (.ref (ca 11)) = some p.2
  is_CrossedField : ∀ p ∈ ([(20, false)] : List (Nat × Bool)), ExcC K (ca p.1) ∧ PySem.W.kitOne K (.ref (ca p.1)) (.ref (ca 16)) = some p.2
  is_BadText : ∀ p ∈ ([(20, false)] : List (Nat × Bool)), ExcC K (ca p.1) ∧ PySem.W.kitOne K (.ref (ca p.1)) (.ref (ca 22)) = some p.2
  is_BadSplit : ∀ p ∈ ([(20, false)] : List (Nat × Bool)), ExcC K (ca p.1) ∧ PySem.W.kitOne K (.ref (ca p.1)) (.ref (ca 23)) = some p.2
  is_BadSize : ∀ p ∈ ([(20, false)] : List (Nat × Bool)), ExcC K (ca p.1) ∧ PySem.W.kitOne K (.ref (ca p.1)) (.ref (ca 5)) = some p.2
  is_BadRow : ∀ p ∈ ([(20, false)] : List (Nat × Bool)), ExcC K (ca p.1) ∧ PySem.W.kitOne K (.ref (ca p.1)) (.ref (ca 24)) = some p.2
  is_BadParting : ∀ p ∈ ([(20, false)] : List (Nat × Bool)), ExcC K (ca p.1) ∧ PySem.W.kitOne K (.ref (ca p.1)) (.ref (ca 6)) = some p.2
  is_BadName : ∀ p ∈ ([(20, false)] : List (Nat × Bool)), ExcC K (ca p.1) ∧ PySem.W.kitOne K (.ref (ca p.1)) (.ref (ca 1)) = some p.2
  is_AtStrife : ∀ p ∈ ([(20, false)] : List (Nat × Bool)), ExcC K (ca p.1) ∧ PySem.W.kitOne K (.ref (ca p.1)) (.ref (ca 12)) = some p.2
  m_HedgeError : ∀ p ∈ ([(20, true)] : List (Nat × Bool)), PySem.W.exmOne K (.ref (ca p.1)) (.ref (ca 0)) = some p.2
  l_ : ∀ c ∈ ([20] : List Nat), XCl K (ct ca) c
variable {P : Program} {w : World} {K : PySem.W.Frag} {ca : Nat → Addr} {mg : Str → Option Value} {base : Heap}
abbrev s_choose : Stmt := top 28
theorem sc_choose : FnScope ["many", "few", "ways", "at"] ["many", "few"] (defScope s_choose) := ⟨rfl, rfl, rfl, by decide +kernel, rfl, by decide +kernel, by decide +kernel⟩
def m_choose : Dl.M Fl :=
  (sSeq (sSet 2 (mC (.int 1)))
  (sSeq (sFor (mRng1 (mVar 1)) (gN 3)
    (sSet 2 (m2 pDiv (m2 pMul (mVar 2) (m2 pSub (mVar 0) (mVar 3))) (m2 pAdd (mVar 3) (mC (.int 1))))))
  (sRt (mVar 2))))
@[irreducible] def φ_choose : Fn := fnOf 2 4 m_choose
theorem ok_choose (T : Fx P K ca mg) : Ok P w K (ct ca) mg base 1 "choose" ["many", "few"] φ_choose := by
  have sc := sc_choose
  unfold φ_choose
  refine Ok.of (N := ["many", "few", "ways", "at"]) T.d_choose (fun _ _ F => F.bindsN fun _ _ _ _ _ _ us hl => match us, hl with | [_, _], _ => rfl) sc rfl fun _ _ _ _ _ _ _ hr => ?_
  exact (pds_cons (pd_set 2 sc.nd pd_int)
  (pds_cons (pd_for (passes_of rfl) rfl (pdi_range1 rfl T.b_range (pd_var 1)) (pdg_name 3 sc.nd)
    (pds_one (pd_set 2 sc.nd (pd_op o_div (pd_op o_mul (pd_var 2) (pd_op o_sub (pd_var 0) (pd_var 3))) (pd_op o_add (pd_var 3) pd_int)))))
  (pds_one (pd_ret (pd_var 2)))))
abbrev s_count_with_fields : Stmt := top 29
theorem sc_count_with_fields : FnScope ["size", "fields"] ["size", "fields"] (defScope s_count_with_fields) := ⟨rfl, rfl, rfl, by decide +kernel, rfl, by decide +kernel, by decide +kernel⟩
def m_count_with_fields : Dl.M Fl :=
  (sSeq (mIf (tb (m2 pEq (mVar 0) (mC (.int 0))))
    (sRt (mIf (tb (m2 pEq (mVar 1) (mC (.int 0)))) (mC (.int 1)) (mC (.int 0))))
    sNx)
  (sSeq (mIf (mOr (tb (m2 pLt (mVar 1) (mC (.int 1)))) (tb (m2 pGt (mVar 1) (mVar 0))))
    (sRt (mC (.int 0)))
    sNx)
  (sRt (m2 pDiv (m2 pMul (mCall (iso φ_choose) (mCons (mVar 0) (mCons (mVar 1) mNil))) (mCall (iso φ_choose) (mCons (mVar 0) (mCons (m2 pSub (mVar 1) (mC (.int 1))) mNil)))) (mVar 0)))))
@[irreducible] def φ_count_with_fields : Fn := fnOf 2 2 m_count_with_fields
theorem ok_count_with_fields (T : Fx P K ca mg) : Ok P w K (ct ca) mg base 2 "count_with_fields" ["size", "fields"] φ_count_with_fields := by
  have g_choose := ok_choose (P := P) (w := w) (base := base) T
  have sc := sc_count_with_fields
  unfold φ_count_with_fields
  refine Ok.of (N := ["size", "fields"]) T.d_count_with_fields (fun _ _ F => F.bindsN fun _ _ _ _ _ _ us hl => match us, hl with | [_, _], _ => rfl) sc rfl fun _ _ _ _ _ _ _ hr => ?_
  exact (pds_cons (pd_if (pd_tcmp (o_eq hr.units) (pd_var 0) pd_int (nomark _))
    (pds_one (pd_ret (pd_ifExp (pd_tcmp (o_eq hr.units) (pd_var 1) pd_int (nomark _)) pd_int pd_int)))
    pds_nil)
  (pds_cons (pd_if (PW.pt (pd_wor (pd_tcmp o_lt (pd_var 1) pd_int (nomark _)) (pd_w1or (pd_tcmp o_gt (pd_var 1) (pd_var 0) (nomark _)))))
    (pds_one (pd_ret pd_int))
    pds_nil)
  (pds_one (pd_ret (pd_op o_div (pd_op o_mul (Ok.call (Ok.iso g_choose) (hr.mono (by omega)) (pas_of (takes_of rfl rfl rfl rfl)) (pda_cons (pd_var 0) (pda_cons (pd_var 1) pda_nil))) (Ok.call (Ok.iso g_choose) (hr.mono (by omega)) (pas_of (takes_of rfl rfl rfl rfl)) (pda_cons (pd_var 0) (pda_cons (pd_op o_sub (pd_var 1) pd_int) pda_nil)))) (pd_var 0))))))
abbrev s_count_worlds : Stmt := top 30
theorem sc_count_worlds : FnScope ["size", "fields", "number"] ["size", "fields"] (defScope s_count_worlds) := ⟨rfl, rfl, rfl, by decide +kernel, rfl, by decide +kernel, by decide +kernel⟩
def m_count_worlds : Dl.M Fl :=
  (sSeq (mIf (mOr (tb (m2 pLt (mVar 0) (mC (.int 0)))) (tb (m2 pGt (mVar 0) (mC (.int 10)))))
    (sRaise 20 2 (mCons (mVar 0) (mCons (mC (.int 11)) mNil)))
    sNx)
  (sSeq (mIf (tb (m2 pIsN (mVar 1) (mC .non)))
    (sRt (mn pSum (mCons (mLc (mRng1 (m2 pAdd (mVar 0) (mC (.int 1)))) (gN 2) tTrue (mCall (iso φ_count_with_fields) (mCons (mVar 0) (mCons (mVar 2) mNil))) [2]) mNil)))
    sNx)
  (sRt (mCall (iso φ_count_with_fields) (mCons (mVar 0) (mCons (mVar 1) mNil))))))
@[irreducible] def φ_count_worlds : Fn := fnOf 2 3 m_count_worlds
theorem okN_count_worlds (T : Fx P K ca mg) : OkN P w K (ct ca) mg base 3 "count_worlds" ["size", "fields"] φ_count_worlds := by
  have g_count_with_fields := ok_count_with_fields (P := P) (w := w) (base := base) T
  have sc := sc_count_worlds
  unfold φ_count_worlds
  refine OkN.of (N := ["size", "fields", "number"]) T.d_count_worlds sc rfl fun _ _ _ _ _ _ _ hr => ?_
  exact (pds_cons (pd_if (PW.pt (pd_wor (pd_tcmp o_lt (pd_var 0) pd_int (nomark _)) (pd_w1or (pd_tcmp o_gt (pd_var 0) pd_int (nomark _)))))
    (pds_one (pd_raise (ct := ct ca) (c := 20) (n := 2) rfl (takes_of rfl rfl rfl rfl) T.x_OutOfRange hr (pda_cons (pd_var 0) (pda_cons pd_int pda_nil))))
    pds_nil)
  (pds_cons (pd_if (pd_tcmp o_isN (pd_var 1) pd_non (nomark _))
    (pds_one (pd_ret (pd_callB (c_sum rfl) rfl T.b_sum (by decide +kernel) (pda_cons (pd_lc rfl sc.nd (pdi_range1 rfl T.b_range (pd_op o_add (pd_var 0) pd_int)) (own := [("number", 2)]) (blkOk_by (N := ["size", "fields", "number"]) (sc := defScope s_count_worlds) (by decide +kernel)) (by decide) (fun _ _ _ _ _ => (pdg_name 2 sc.nd)) (fun _ _ _ _ _ => pdts_nil) (fun _ _ _ _ _ => (Ok.call (Ok.iso g_count_with_fields) (hr.mono (by omega)) pas0 (pda_cons (pd_var 0) (pda_cons (pd_var 2) pda_nil))))) pda_nil))))
    pds_nil)
  (pds_one (pd_ret (Ok.call (Ok.iso g_count_with_fields) (hr.mono (by omega)) (pas_of (takes_of rfl rfl rfl rfl)) (pda_cons (pd_var 0) (pda_cons (pd_var 1) pda_nil)))))))
abbrev s__law_store : Stmt := top 32
theorem sc__law_store : FnScope ["_law_script", "_law_seed", "_law_cell"] ["_law_script"] (defScope s__law_store) := ⟨rfl, rfl, rfl, by decide +kernel, rfl, by decide +kernel, by decide +kernel⟩
def m__law_store : Dl.M Fl :=
  (sSeq (sSet 1 (mC (.int 7)))
  (sSeq (sFor (wk (mVar 0) walkOf) (gN 2)
    (sSet 1 (m2 pMod (mn pInt (mCons (m2 pAdd (m2 pAdd (m2 pMul (mVar 1) (mC (.int 1000003))) (m2 pMod (mn pInt (mCons (mVar 2) mNil)) (mC (.int 2305843009213693951)))) (mC (.int 11))) mNil)) (mC (.int 1000000000000000003)))))
  (sRt (mn pLst (mCons (mFrz (mn pList (mCons (mVar 0) mNil))) (mCons (mC (.int 0)) (mCons (mC (.int 0)) (mCons (mC (.int 0)) (mCons (mVar 1) mNil)))))))))
@[irreducible] def φ__law_store : Fn := fnOf 1 3 m__law_store
theorem ok__law_store (T : Fx P K ca mg) : Ok P w K (ct ca) mg base 1 "_law_store" ["_law_script"] φ__law_store := by
  have sc := sc__law_store
  unfold φ__law_store
  refine Ok.of (N := ["_law_script", "_law_seed", "_law_cell"]) T.d__law_store (fun _ _ F => F.bindsN fun _ _ _ _ _ _ us hl => match us, hl with | [_], _ => rfl) sc rfl fun _ _ _ _ _ _ _ hr => ?_
  exact (pds_cons (pd_set 1 sc.nd pd_int)
  (pds_cons (pd_for (passes_of rfl) rfl (pdi_seq (pd_var 0)) (pdg_name 2 sc.nd)
    (pds_one (pd_set 1 sc.nd (pd_op o_mod (pd_callTy c_int rfl T.b_int (by decide +kernel) (pda_cons (pd_op o_add (pd_op o_add (pd_op o_mul (pd_var 1) pd_int) (pd_op o_mod (pd_callTy c_int rfl T.b_int (by decide +kernel) (pda_cons (pd_var 2) pda_nil)) pd_int)) pd_int) pda_nil)) pd_int))))
  (pds_one (pd_ret (pd_lst (pda_cons (pd_frz (pd_callTy c_list rfl T.b_list (by decide +kernel) (pda_cons (pd_var 0) pda_nil))) (pda_cons pd_int (pda_cons pd_int (pda_cons pd_int (pda_cons (pd_var 1) pda_nil))))))))))
abbrev s__law_mixed : Stmt := top 33
theorem sc__law_mixed : FnScope ["_law_cell", "_law_turn", "_law_seed", "_law_once", "_law_twice"] ["_law_cell", "_law_turn", "_law_seed"] (defScope s__law_mixed) := ⟨rfl, rfl, rfl, by decide +kernel, rfl, by decide +kernel, by decide +kernel⟩
def m__law_mixed : Dl.M Fl :=
  (sSeq (sSet 3 (m2 pMod (mn pInt (mCons (m2 pAdd (m2 pAdd (m2 pAdd (m2 pMul (m2 pMod (mn pInt (mCons (mVar 0) mNil)) (mC (.int 2305843009213693951))) (mC (.int 48271))) (m2 pMul (mVar 1) (mC (.int 69621)))) (mVar 2)) (mC (.int 5))) mNil)) (mC (.int 2305843009213693951))))
  (sSeq (sSet 3 (m2 pMod (mn pInt (mCons (m2 pAdd (m2 pAdd (m2 pMul (mVar 3) (mVar 3)) (m2 pMul (m2 pDiv (mVar 3) (mC (.int 65537))) (mC (.int 16807)))) (mVar 1)) mNil)) (mC (.int 1000000000000000003))))
  (sSeq (sSet 4 (m2 pMod (mn pInt (mCons (m2 pAdd (m2 pAdd (m2 pMul (mVar 3) (mC (.int 6364136223846793005))) (m2 pDiv (mVar 3) (mC (.int 1048583)))) (mVar 2)) mNil)) (mC (.int 2305843009213693951))))
  (sRt (m2 pDiv (mVar 4) (mC (.int 1024)))))))
@[irreducible] def φ__law_mixed : Fn := fnOf 3 5 m__law_mixed
theorem ok__law_mixed (T : Fx P K ca mg) : Ok P w K (ct ca) mg base 1 "_law_mixed" ["_law_cell", "_law_turn", "_law_seed"] φ__law_mixed := by
  have sc := sc__law_mixed
  unfold φ__law_mixed
  refine Ok.of (N := ["_law_cell", "_law_turn", "_law_seed", "_law_once", "_law_twice"]) T.d__law_mixed (fun _ _ F => F.bindsN fun _ _ _ _ _ _ us hl => match us, hl with | [_, _, _], _ => rfl) sc rfl fun _ _ _ _ _ _ _ hr => ?_
  exact (pds_cons (pd_set 3 sc.nd (pd_op o_mod (pd_callTy c_int rfl T.b_int (by decide +kernel) (pda_cons (pd_op o_add (pd_op o_add (pd_op o_add (pd_op o_mul (pd_op o_mod (pd_callTy c_int rfl T.b_int (by decide +kernel) (pda_cons (pd_var 0) pda_nil)) pd_int) pd_int) (pd_op o_mul (pd_var 1) pd_int)) (pd_var 2)) pd_int) pda_nil)) pd_int))
  (pds_cons (pd_set 3 sc.nd (pd_op o_mod (pd_callTy c_int rfl T.b_int (by decide +kernel) (pda_cons (pd_op o_add (pd_op o_add (pd_op o_mul (pd_var 3) (pd_var 3)) (pd_op o_mul (pd_op o_div (pd_var 3) pd_int) pd_int)) (pd_var 1)) pda_nil)) pd_int))
  (pds_cons (pd_set 4 sc.nd (pd_op o_mod (pd_callTy c_int rfl T.b_int (by decide +kernel) (pda_cons (pd_op o_add (pd_op o_add (pd_op o_mul (pd_var 3) pd_int) (pd_op o_div (pd_var 3) pd_int)) (pd_var 2)) pda_nil)) pd_int))
  (pds_one (pd_ret (pd_op o_div (pd_var 4) pd_int))))))
abbrev s__law_take : Stmt := top 34
theorem sc__law_take : FnScope ["_law_store_here", "_law_many", "_law_cell", "_law_digit"] ["_law_store_here", "_law_many"] (defScope s__law_take) := ⟨rfl, rfl, rfl, by decide +kernel, rfl, by decide +kernel, by decide +kernel⟩
def m__law_take : Dl.M Fl :=
  (sSeq (mIf (tb (m2 pLt (mVar 1) (mC (.int 2))))
    (sRt (mC (.int 0)))
    sNx)
  (sSeq (mIf (tb (m2 pEq (m2 pIx (mVar 0) (mC (.int 2))) (mC (.int 0))))
    (sSeq (sSet 2 (mC (.int 0)))
    (sSeq (mIf (tb (m2 pLt (m2 pIx (mVar 0) (mC (.int 1))) (mn pLen (mCons (m2 pIx (mVar 0) (mC (.int 0))) mNil))))
      (sSeq (sSet 2 (m2 pIx (m2 pIx (mVar 0) (mC (.int 0))) (m2 pIx (mVar 0) (mC (.int 1)))))
      (sSub pSetL (mVar 0) (mC (.int 1)) (m2 pAdd (m2 pIx (mVar 0) (mC (.int 1))) (mC (.int 1)))))
      sNx)
    (sSeq (mIf (tb (m2 pLt (mVar 2) (m2 pPow (mC (.int 10)) (mC (.int 18)))))
      (sSeq (sSub pSetL (mVar 0) (mC (.int 3)) (m2 pAdd (m2 pIx (mVar 0) (mC (.int 3))) (mC (.int 1))))
      (sRt (m2 pMod (mn pInt (mCons (mCall φ__law_mixed (mCons (mVar 2) (mCons (m2 pIx (mVar 0) (mC (.int 3))) (mCons (m2 pIx (mVar 0) (mC (.int 4))) mNil)))) mNil)) (mVar 1))))
      sNx)
    (sSub pSetL (mVar 0) (mC (.int 2)) (mVar 2)))))
    sNx)
  (sSeq (sSet 3 (m2 pMod (mn pInt (mCons (m2 pIx (mVar 0) (mC (.int 2))) mNil)) (mVar 1)))
  (sSeq (sSub pSetL (mVar 0) (mC (.int 2)) (m2 pDiv (m2 pIx (mVar 0) (mC (.int 2))) (mVar 1)))
  (sRt (mVar 3))))))
@[irreducible] def φ__law_take : Fn := fnOf 2 4 m__law_take
theorem ok__law_take (T : Fx P K ca mg) : Ok P w K (ct ca) mg base 2 "_law_take" ["_law_store_here", "_law_many"] φ__law_take := by
  have g__law_mixed := ok__law_mixed (P := P) (w := w) (base := base) T
  have sc := sc__law_take
  unfold φ__law_take
  refine Ok.of (N := ["_law_store_here", "_law_many", "_law_cell", "_law_digit"]) T.d__law_take (fun _ _ F => F.bindsN fun _ _ _ _ _ _ us hl => match us, hl with | [_, _], _ => rfl) sc rfl fun _ _ _ _ _ _ _ hr => ?_
  exact (pds_cons (pd_if (pd_tcmp o_lt (pd_var 1) pd_int (nomark _))
    (pds_one (pd_ret pd_int))
    pds_nil)
  (pds_cons (pd_if (pd_tcmp (o_eq hr.units) (pd_ix i_ix (pd_var 0) pd_int (fun _ _ => rfl)) pd_int (nomark _))
    (pds_cons (pd_set 2 sc.nd pd_int)
    (pds_cons (pd_if (pd_tcmp o_lt (pd_ix i_ix (pd_var 0) pd_int (fun _ _ => rfl)) (pd_callB c_len rfl T.b_len (by decide +kernel) (pda_cons (pd_ix i_ix (pd_var 0) pd_int (fun _ _ => rfl)) pda_nil)) (nomark _))
      (pds_cons (pd_set 2 sc.nd (pd_ix i_ix (pd_ix i_ix (pd_var 0) pd_int (fun _ _ => rfl)) (pd_ix i_ix (pd_var 0) pd_int (fun _ _ => rfl)) (fun _ _ => rfl)))
      (pds_one (pd_sub (pd_op o_add (pd_ix i_ix (pd_var 0) pd_int (fun _ _ => rfl)) pd_int) (pd_var 0) pd_int s_setL)))
      pds_nil)
    (pds_cons (pd_if (pd_tcmp o_lt (pd_var 2) (pd_op o_pow pd_int pd_int) (nomark _))
      (pds_cons (pd_sub (pd_op o_add (pd_ix i_ix (pd_var 0) pd_int (fun _ _ => rfl)) pd_int) (pd_var 0) pd_int s_setL)
      (pds_one (pd_ret (pd_op o_mod (pd_callTy c_int rfl T.b_int (by decide +kernel) (pda_cons (Ok.call g__law_mixed (hr.mono (by omega)) (pas_of (takes_of rfl rfl rfl rfl)) (pda_cons (pd_var 2) (pda_cons (pd_ix i_ix (pd_var 0) pd_int (fun _ _ => rfl)) (pda_cons (pd_ix i_ix (pd_var 0) pd_int (fun _ _ => rfl)) pda_nil)))) pda_nil)) (pd_var 1)))))
      pds_nil)
    (pds_one (pd_sub (pd_var 2) (pd_var 0) pd_int s_setL)))))
    pds_nil)
  (pds_cons (pd_set 3 sc.nd (pd_op o_mod (pd_callTy c_int rfl T.b_int (by decide +kernel) (pda_cons (pd_ix i_ix (pd_var 0) pd_int (fun _ _ => rfl)) pda_nil)) (pd_var 1)))
  (pds_cons (pd_sub (pd_op o_div (pd_ix i_ix (pd_var 0) pd_int (fun _ _ => rfl)) (pd_var 1)) (pd_var 0) pd_int s_setL)
  (pds_one (pd_ret (pd_var 3)))))))
abbrev s__law_number : Stmt := top 35
theorem sc__law_number : FnScope ["_law_store_here", "_law_low", "_law_high", "_law_kind"] ["_law_store_here", "_law_low", "_law_high"] (defScope s__law_number) := ⟨rfl, rfl, rfl, by decide +kernel, rfl, by decide +kernel, by decide +kernel⟩
def m__law_number : Dl.M Fl :=
  (sSeq (sSet 3 (mCall (isoK 1 φ__law_take) (mCons (mVar 0) (mCons (mC (.int 6)) mNil))))
  (sSeq (mIf (mOr (tb (m2 pLe (mVar 2) (mVar 1))) (tb (m2 pEq (mVar 3) (mC (.int 0)))))
    (sRt (mVar 1))
    sNx)
  (sSeq (mIf (tb (m2 pEq (mVar 3) (mC (.int 1))))
    (sRt (mVar 2))
    sNx)
  (sRt (m2 pAdd (mVar 1) (mCall (isoK 1 φ__law_take) (mCons (mVar 0) (mCons (m2 pAdd (m2 pSub (mVar 2) (mVar 1)) (mC (.int 1))) mNil))))))))
@[irreducible] def φ__law_number : Fn := fnOf 3 4 m__law_number
theorem ok__law_number (T : Fx P K ca mg) : Ok P w K (ct ca) mg base 3 "_law_number" ["_law_store_here", "_law_low", "_law_high"] φ__law_number := by
  have g__law_take := ok__law_take (P := P) (w := w) (base := base) T
  have sc := sc__law_number
  unfold φ__law_number
  refine Ok.of (N := ["_law_store_here", "_law_low", "_law_high", "_law_kind"]) T.d__law_number (fun _ _ F => F.bindsN fun _ _ _ _ _ _ us hl => match us, hl with | [_, _, _], _ => rfl) sc rfl fun _ _ _ _ _ _ _ hr => ?_
  exact (pds_cons (pd_set 3 sc.nd (Ok.call (Ok.isoK (j := 1) g__law_take) (hr.mono (by omega)) (pas_of (takes_of rfl rfl rfl rfl)) (pda_cons (pd_var 0) (pda_cons pd_int pda_nil))))
  (pds_cons (pd_if (PW.pt (pd_wor (pd_tcmp o_le (pd_var 2) (pd_var 1) (nomark _)) (pd_w1or (pd_tcmp (o_eq hr.units) (pd_var 3) pd_int (nomark _)))))
    (pds_one (pd_ret (pd_var 1)))
    pds_nil)
  (pds_cons (pd_if (pd_tcmp (o_eq hr.units) (pd_var 3) pd_int (nomark _))
    (pds_one (pd_ret (pd_var 2)))
    pds_nil)
  (pds_one (pd_ret (pd_op o_add (pd_var 1) (Ok.call (Ok.isoK (j := 1) g__law_take) (hr.mono (by omega)) (pas_of (takes_of rfl rfl rfl rfl)) (pda_cons (pd_var 0) (pda_cons (pd_op o_add (pd_op o_sub (pd_var 2) (pd_var 1)) pd_int) pda_nil)))))))))
abbrev s__law_whole : Stmt := top 36
theorem sc__law_whole : FnScope ["_law_store_here", "_law_kind"] ["_law_store_here"] (defScope s__law_whole) := ⟨rfl, rfl, rfl, by decide +kernel, rfl, by decide +kernel, by decide +kernel⟩
def m__law_whole : Dl.M Fl :=
  (sSeq (sSet 1 (mCall (isoK 1 φ__law_take) (mCons (mVar 0) (mCons (mC (.int 8)) mNil))))
  (sSeq (mIf (tb (m2 pLt (mVar 1) (mC (.int 3))))
    (sRt (m2 pSub (mCall (isoK 1 φ__law_take) (mCons (mVar 0) (mCons (mC (.int 24)) mNil))) (mC (.int 8))))
    sNx)
  (sSeq (mIf (tb (m2 pEq (mVar 1) (mC (.int 3))))
    (sRt (m2 pSub (mCall (isoK 1 φ__law_take) (mCons (mVar 0) (mCons (mC (.int 2001)) mNil))) (mC (.int 1000))))
    sNx)
  (sSeq (mIf (tb (m2 pEq (mVar 1) (mC (.int 4))))
    (sRt (mCall (isoK 1 φ__law_take) (mCons (mVar 0) (mCons (m2 pPow (mC (.int 10)) (mC (.int 12))) mNil))))
    sNx)
  (sSeq (mIf (tb (m2 pEq (mVar 1) (mC (.int 5))))
    (sRt (m2 pSub (mC (.int 0)) (mCall (isoK 1 φ__law_take) (mCons (mVar 0) (mCons (m2 pPow (mC (.int 10)) (mC (.int 12))) mNil)))))
    sNx)
  (sSeq (mIf (tb (m2 pEq (mVar 1) (mC (.int 6))))
    (sRt (m2 pAdd (m2 pPow (mC (.int 10)) (mC (.int 40))) (mCall (isoK 1 φ__law_take) (mCons (mVar 0) (mCons (m2 pPow (mC (.int 10)) (mC (.int 12))) mNil)))))
    sNx)
  (sRt (m2 pSub (m2 pSub (mC (.int 0)) (m2 pPow (mC (.int 10)) (mC (.int 40)))) (mCall (isoK 1 φ__law_take) (mCons (mVar 0) (mCons (m2 pPow (mC (.int 10)) (mC (.int 12))) mNil)))))))))))
@[irreducible] def φ__law_whole : Fn := fnOf 1 2 m__law_whole
theorem ok__law_whole (T : Fx P K ca mg) : Ok P w K (ct ca) mg base 3 "_law_whole" ["_law_store_here"] φ__law_whole := by
  have g__law_take := ok__law_take (P := P) (w := w) (base := base) T
  have sc := sc__law_whole
  unfold φ__law_whole
  refine Ok.of (N := ["_law_store_here", "_law_kind"]) T.d__law_whole (fun _ _ F => F.bindsN fun _ _ _ _ _ _ us hl => match us, hl with | [_], _ => rfl) sc rfl fun _ _ _ _ _ _ _ hr => ?_
  exact (pds_cons (pd_set 1 sc.nd (Ok.call (Ok.isoK (j := 1) g__law_take) (hr.mono (by omega)) (pas_of (takes_of rfl rfl rfl rfl)) (pda_cons (pd_var 0) (pda_cons pd_int pda_nil))))
  (pds_cons (pd_if (pd_tcmp o_lt (pd_var 1) pd_int (nomark _))
    (pds_one (pd_ret (pd_op o_sub (Ok.call (Ok.isoK (j := 1) g__law_take) (hr.mono (by omega)) (pas_of (takes_of rfl rfl rfl rfl)) (pda_cons (pd_var 0) (pda_cons pd_int pda_nil))) pd_int)))
    pds_nil)
  (pds_cons (pd_if (pd_tcmp (o_eq hr.units) (pd_var 1) pd_int (nomark _))
    (pds_one (pd_ret (pd_op o_sub (Ok.call (Ok.isoK (j := 1) g__law_take) (hr.mono (by omega)) (pas_of (takes_of rfl rfl rfl rfl)) (pda_cons (pd_var 0) (pda_cons pd_int pda_nil))) pd_int)))
    pds_nil)
  (pds_cons (pd_if (pd_tcmp (o_eq hr.units) (pd_var 1) pd_int (nomark _))
    (pds_one (pd_ret (Ok.call (Ok.isoK (j := 1) g__law_take) (hr.mono (by omega)) (pas_of (takes_of rfl rfl rfl rfl)) (pda_cons (pd_var 0) (pda_cons (pd_op o_pow pd_int pd_int) pda_nil)))))
    pds_nil)
  (pds_cons (pd_if (pd_tcmp (o_eq hr.units) (pd_var 1) pd_int (nomark _))
    (pds_one (pd_ret (pd_op o_sub pd_int (Ok.call (Ok.isoK (j := 1) g__law_take) (hr.mono (by omega)) (pas_of (takes_of rfl rfl rfl rfl)) (pda_cons (pd_var 0) (pda_cons (pd_op o_pow pd_int pd_int) pda_nil))))))
    pds_nil)
  (pds_cons (pd_if (pd_tcmp (o_eq hr.units) (pd_var 1) pd_int (nomark _))
    (pds_one (pd_ret (pd_op o_add (pd_op o_pow pd_int pd_int) (Ok.call (Ok.isoK (j := 1) g__law_take) (hr.mono (by omega)) (pas_of (takes_of rfl rfl rfl rfl)) (pda_cons (pd_var 0) (pda_cons (pd_op o_pow pd_int pd_int) pda_nil))))))
    pds_nil)
  (pds_one (pd_ret (pd_op o_sub (pd_op o_sub pd_int (pd_op o_pow pd_int pd_int)) (Ok.call (Ok.isoK (j := 1) g__law_take) (hr.mono (by omega)) (pas_of (takes_of rfl rfl rfl rfl)) (pda_cons (pd_var 0) (pda_cons (pd_op o_pow pd_int pd_int) pda_nil))))))))))))
abbrev s__law_place : Stmt := top 37
theorem sc__law_place : FnScope ["_law_store_here", "_law_limit", "_law_kind", "_law_far"] ["_law_store_here", "_law_limit"] (defScope s__law_place) := ⟨rfl, rfl, rfl, by decide +kernel, rfl, by decide +kernel, by decide +kernel⟩
def m__law_place : Dl.M Fl :=
  (sSeq (sSet 2 (mCall (isoK 1 φ__law_take) (mCons (mVar 0) (mCons (mC (.int 12)) mNil))))
  (sSeq (mIf (tb (m2 pEq (mVar 2) (mC (.int 0))))
    (sRt (m2 pSub (mC (.int 0)) (mC (.int 1))))
    sNx)
  (sSeq (mIf (tb (m2 pEq (mVar 2) (mC (.int 1))))
    (sRt (mVar 1))
    sNx)
  (sSeq (mIf (tb (m2 pEq (mVar 2) (mC (.int 2))))
    (sSeq (sSet 3 (mCall (isoK 1 φ__law_whole) (mCons (mVar 0) mNil)))
    (sSeq (mIf (mAnd (tb (m2 pLe (mC (.int 0)) (mVar 3))) (tb (m2 pLt (mVar 3) (mVar 1))))
      (sRt (m2 pAdd (m2 pAdd (mVar 1) (mC (.int 1))) (mVar 3)))
      sNx)
    (sRt (mVar 3))))
    sNx)
  (sSeq (mIf (mAnd (tb (m2 pEq (mVar 2) (mC (.int 3)))) (tb (m2 pGt (mVar 1) (mC (.int 0)))))
    (sRt (m2 pSub (mVar 1) (mC (.int 1))))
    sNx)
  (sRt (mCall (isoK 1 φ__law_take) (mCons (mVar 0) (mCons (mVar 1) mNil)))))))))
@[irreducible] def φ__law_place : Fn := fnOf 2 4 m__law_place
theorem ok__law_place (T : Fx P K ca mg) : Ok P w K (ct ca) mg base 4 "_law_place" ["_law_store_here", "_law_limit"] φ__law_place := by
  have g__law_take := ok__law_take (P := P) (w := w) (base := base) T
  have g__law_whole := ok__law_whole (P := P) (w := w) (base := base) T
  have sc := sc__law_place
  unfold φ__law_place
  refine Ok.of (N := ["_law_store_here", "_law_limit", "_law_kind", "_law_far"]) T.d__law_place (fun _ _ F => F.bindsN fun _ _ _ _ _ _ us hl => match us, hl with | [_, _], _ => rfl) sc rfl fun _ _ _ _ _ _ _ hr => ?_
  exact (pds_cons (pd_set 2 sc.nd (Ok.call (Ok.isoK (j := 1) g__law_take) (hr.mono (by omega)) (pas_of (takes_of rfl rfl rfl rfl)) (pda_cons (pd_var 0) (pda_cons pd_int pda_nil))))
  (pds_cons (pd_if (pd_tcmp (o_eq hr.units) (pd_var 2) pd_int (nomark _))
    (pds_one (pd_ret (pd_op o_sub pd_int pd_int)))
    pds_nil)
  (pds_cons (pd_if (pd_tcmp (o_eq hr.units) (pd_var 2) pd_int (nomark _))
    (pds_one (pd_ret (pd_var 1)))
    pds_nil)
  (pds_cons (pd_if (pd_tcmp (o_eq hr.units) (pd_var 2) pd_int (nomark _))
    (pds_cons (pd_set 3 sc.nd (Ok.call (Ok.isoK (j := 1) g__law_whole) (hr.mono (by omega)) (pas_of (takes_of rfl rfl rfl rfl)) (pda_cons (pd_var 0) pda_nil)))
    (pds_cons (pd_if (PW.pt (pd_wand (pd_tcmp o_le pd_int (pd_var 3) (nomark _)) (pd_w1and (pd_tcmp o_lt (pd_var 3) (pd_var 1) (nomark _)))))
      (pds_one (pd_ret (pd_op o_add (pd_op o_add (pd_var 1) pd_int) (pd_var 3))))
      pds_nil)
    (pds_one (pd_ret (pd_var 3)))))
    pds_nil)
  (pds_cons (pd_if (PW.pt (pd_wand (pd_tcmp (o_eq hr.units) (pd_var 2) pd_int (nomark _)) (pd_w1and (pd_tcmp o_gt (pd_var 1) pd_int (nomark _)))))
    (pds_one (pd_ret (pd_op o_sub (pd_var 1) pd_int)))
    pds_nil)
  (pds_one (pd_ret (Ok.call (Ok.isoK (j := 1) g__law_take) (hr.mono (by omega)) (pas_of (takes_of rfl rfl rfl rfl)) (pda_cons (pd_var 0) (pda_cons (pd_var 1) pda_nil))))))))))
abbrev s__law_same : Stmt := top 38
theorem sc__law_same : FnScope ["_law_actual", "_law_expected", "_law_k"] ["_law_actual", "_law_expected"] (defScope s__law_same) := ⟨rfl, rfl, rfl, by decide +kernel, rfl, by decide +kernel, by decide +kernel⟩
def m__law_same (self : Fn) : Dl.M Fl :=
  (sSeq (mIf (tb (m2 pIsN (mVar 1) (mC .non)))
    (sRt (m2 pIsN (mVar 0) (mC .non)))
    sNx)
  (sSeq (mIf (tb (m1 (pIsi "bool") (mVar 1)))
    (sRt (mAndV (m1 (pIsi "bool") (mVar 0)) (m2 pEq (mVar 0) (mVar 1))))
    sNx)
  (sSeq (mIf (tb (m1 (pIsi "int") (mVar 1)))
    (sRt (mAndV (m1 (pIsi "int") (mVar 0)) (mAndV (mNotV (m1 (pIsi "bool") (mVar 0))) (m2 pEq (mVar 0) (mVar 1)))))
    sNx)
  (sSeq (mIf (tb (m1 (pIsi "str") (mVar 1)))
    (sRt (mAndV (m1 (pIsi "str") (mVar 0)) (m2 pEq (mVar 0) (mVar 1))))
    sNx)
  (sSeq (mIf (tb (m1 (pIsi "list") (mVar 1)))
    (mIf (mNot (tb (m1 (pIsi "list") (mVar 0))))
      (sRt (mC (.bl false)))
      sNx)
    (mIf (mNot (tb (m1 (pIsi "tuple") (mVar 0))))
      (sRt (mC (.bl false)))
      sNx))
  (sSeq (mIf (tb (m2 pNe (mn pLen (mCons (mVar 0) mNil)) (mn pLen (mCons (mVar 1) mNil))))
    (sRt (mC (.bl false)))
    sNx)
  (sSeq (sFor (mRng1 (mn pLen (mCons (mVar 1) mNil))) (gN 2)
    (mIf (mNot (tb (mCall self (mCons (m2 pIx (mVar 0) (mVar 2)) (mCons (m2 pIx (mVar 1) (mVar 2)) mNil)))))
      (sRt (mC (.bl false)))
      sNx))
  (sRt (mC (.bl true))))))))))
def φ__law_same : Nat → Fn
  | 0 => fnBad
  | n + 1 => fnOf 2 3 (m__law_same (φ__law_same n))
theorem ok__law_same (T : Fx P K ca mg) : ∀ n, Ok P w K (ct ca) mg base (1 + n) "_law_same" ["_law_actual", "_law_expected"] (φ__law_same n)
  | 0 => Ok.bad T.d__law_same (fun _ _ F => F.bindsN fun _ _ _ _ _ _ us hl => match us, hl with | [_, _], _ => rfl)
  | n + 1 => by
    have ih := ok__law_same T n
    have sc := sc__law_same
    refine Ok.of (k := 1 + n) (N := ["_law_actual", "_law_expected", "_law_k"]) T.d__law_same (fun _ _ F => F.bindsN fun _ _ _ _ _ _ us hl => match us, hl with | [_, _], _ => rfl) sc rfl fun _ _ _ _ _ _ _ hr => ?_
    exact (pds_cons (pd_if (pd_tcmp o_isN (pd_var 1) pd_non (nomark _))
    (pds_one (pd_ret (pd_cmp o_isN (pd_var 0) pd_non (nomark _))))
    pds_nil)
  (pds_cons (pd_if (pd_tb (pd_isi (T := "bool") (by decide) rfl T.b_isinstance rfl T.b_bool rfl (pd_var 1)))
    (pds_one (pd_ret (pd_and (pd_isi (T := "bool") (by decide) rfl T.b_isinstance rfl T.b_bool rfl (pd_var 0)) (pd_one (pd_cmp (o_eq hr.units) (pd_var 0) (pd_var 1) (nomark _))))))
    pds_nil)
  (pds_cons (pd_if (pd_tb (pd_isi (T := "int") (by decide) rfl T.b_isinstance rfl T.b_int rfl (pd_var 1)))
    (pds_one (pd_ret (pd_and (pd_isi (T := "int") (by decide) rfl T.b_isinstance rfl T.b_int rfl (pd_var 0)) (pd_and (pd_not (pd_isi (T := "bool") (by decide) rfl T.b_isinstance rfl T.b_bool rfl (pd_var 0))) (pd_one (pd_cmp (o_eq hr.units) (pd_var 0) (pd_var 1) (nomark _)))))))
    pds_nil)
  (pds_cons (pd_if (pd_tb (pd_isi (T := "str") (by decide) rfl T.b_isinstance rfl T.b_str rfl (pd_var 1)))
    (pds_one (pd_ret (pd_and (pd_isi (T := "str") (by decide) rfl T.b_isinstance rfl T.b_str rfl (pd_var 0)) (pd_one (pd_cmp (o_eq hr.units) (pd_var 0) (pd_var 1) (nomark _))))))
    pds_nil)
  (pds_cons (pd_if (pd_tb (pd_isi (T := "list") (by decide) rfl T.b_isinstance rfl T.b_list rfl (pd_var 1)))
    (pds_one (pd_if (pd_tnot (pd_tb (pd_isi (T := "list") (by decide) rfl T.b_isinstance rfl T.b_list rfl (pd_var 0))))
      (pds_one (pd_ret pd_bl))
      pds_nil))
    (pds_one (pd_if (pd_tnot (pd_tb (pd_isi (T := "tuple") (by decide) rfl T.b_isinstance rfl T.b_tuple rfl (pd_var 0))))
      (pds_one (pd_ret pd_bl))
      pds_nil)))
  (pds_cons (pd_if (pd_tcmp (o_ne hr.units) (pd_callB c_len rfl T.b_len (by decide +kernel) (pda_cons (pd_var 0) pda_nil)) (pd_callB c_len rfl T.b_len (by decide +kernel) (pda_cons (pd_var 1) pda_nil)) (nomark _))
    (pds_one (pd_ret pd_bl))
    pds_nil)
  (pds_cons (pd_for (passes_of rfl) rfl (pdi_range1 rfl T.b_range (pd_callB c_len rfl T.b_len (by decide +kernel) (pda_cons (pd_var 1) pda_nil))) (pdg_name 2 sc.nd)
    (pds_one (pd_if (pd_tnot (pd_tb (Ok.call ih (hr.mono (by omega)) (pas_of (takes_of rfl rfl rfl rfl)) (pda_cons (pd_ix i_ix (pd_var 0) (pd_var 2) (fun _ _ => rfl)) (pda_cons (pd_ix i_ix (pd_var 1) (pd_var 2) (fun _ _ => rfl)) pda_nil)))))
      (pds_one (pd_ret pd_bl))
      pds_nil)))
  (pds_one (pd_ret pd_bl)))))))))
abbrev s__law_vast : Stmt := top 39
theorem sc__law_vast : FnScope ["_law_store_here", "_law_limit", "_law_vast_here"] ["_law_store_here", "_law_limit"] (defScope s__law_vast) := ⟨rfl, rfl, rfl, by decide +kernel, rfl, by decide +kernel, by decide +kernel⟩
def m__law_vast : Dl.M Fl :=
  (sSeq (mIf (tb (m2 pGt (mCall (isoK 1 φ__law_take) (mCons (mVar 0) (mCons (mC (.int 12)) mNil))) (mC (.int 0))))
    (sRt (mCall (isoK 1 φ__law_place) (mCons (mVar 0) (mCons (mVar 1) mNil))))
    sNx)
  (sSeq (sSet 2 (m2 pAdd (m2 pPowW (m2 pPowW (m2 pPow (mC (.int 10)) (mC (.int 64))) (mC (.int 64))) (mC (.int 2))) (mCall (isoK 1 φ__law_take) (mCons (mVar 0) (mCons (mC (.int 1000)) mNil)))))
  (sSeq (mIf (tb (m2 pEq (mCall (isoK 1 φ__law_take) (mCons (mVar 0) (mCons (mC (.int 2)) mNil))) (mC (.int 0))))
    (sRt (m2 pSub (mC (.int 0)) (mVar 2)))
    sNx)
  (sRt (mVar 2)))))
@[irreducible] def φ__law_vast : Fn := fnOf 2 3 m__law_vast
theorem ok__law_vast (T : Fx P K ca mg) : Ok P w K (ct ca) mg base 5 "_law_vast" ["_law_store_here", "_law_limit"] φ__law_vast := by
  have g__law_take := ok__law_take (P := P) (w := w) (base := base) T
  have g__law_place := ok__law_place (P := P) (w := w) (base := base) T
  have sc := sc__law_vast
  unfold φ__law_vast
  refine Ok.of (N := ["_law_store_here", "_law_limit", "_law_vast_here"]) T.d__law_vast (fun _ _ F => F.bindsN fun _ _ _ _ _ _ us hl => match us, hl with | [_, _], _ => rfl) sc rfl fun _ _ _ _ _ _ _ hr => ?_
  exact (pds_cons (pd_if (pd_tcmp o_gt (Ok.call (Ok.isoK (j := 1) g__law_take) (hr.mono (by omega)) (pas_of (takes_of rfl rfl rfl rfl)) (pda_cons (pd_var 0) (pda_cons pd_int pda_nil))) pd_int (nomark _))
    (pds_one (pd_ret (Ok.call (Ok.isoK (j := 1) g__law_place) (hr.mono (by omega)) (pas_of (takes_of rfl rfl rfl rfl)) (pda_cons (pd_var 0) (pda_cons (pd_var 1) pda_nil)))))
    pds_nil)
  (pds_cons (pd_set 2 sc.nd (pd_op o_add (pd_op o_powW (pd_op o_powW (pd_op o_pow pd_int pd_int) pd_int) pd_int) (Ok.call (Ok.isoK (j := 1) g__law_take) (hr.mono (by omega)) (pas_of (takes_of rfl rfl rfl rfl)) (pda_cons (pd_var 0) (pda_cons pd_int pda_nil)))))
  (pds_cons (pd_if (pd_tcmp (o_eq hr.units) (Ok.call (Ok.isoK (j := 1) g__law_take) (hr.mono (by omega)) (pas_of (takes_of rfl rfl rfl rfl)) (pda_cons (pd_var 0) (pda_cons pd_int pda_nil))) pd_int (nomark _))
    (pds_one (pd_ret (pd_op o_sub pd_int (pd_var 2))))
    pds_nil)
  (pds_one (pd_ret (pd_var 2))))))
abbrev s__law_by_fields : Stmt := top 40
theorem sc__law_by_fields : FnScope ["_law_many", "_law_now", "_law_k", "_law_turn", "_law_later", "_law_m", "_law_j"] ["_law_many"] (defScope s__law_by_fields) := ⟨rfl, rfl, rfl, by decide +kernel, rfl, by decide +kernel, by decide +kernel⟩
def m__law_by_fields : Dl.M Fl :=
  (sSeq (sSet 1 (mLc (mRng1 (m2 pAdd (mVar 0) (mC (.int 1)))) (gN 2) tTrue (m2 pMul (mn pLst (mCons (mC (.int 0)) mNil)) (m2 pAdd (mVar 0) (mC (.int 1)))) [2]))
  (sSeq (sSub pSetL (m2 pIx (mVar 1) (mC (.int 0))) (mC (.int 0)) (mC (.int 1)))
  (sSeq (sFor (mRng1 (mVar 0)) (gN 3)
    (sSeq (sSet 4 (mLc (mRng1 (m2 pAdd (mVar 0) (mC (.int 1)))) (gN 2) tTrue (m2 pMul (mn pLst (mCons (mC (.int 0)) mNil)) (m2 pAdd (mVar 0) (mC (.int 1)))) [2]))
    (sSeq (sFor (mRng1 (m2 pAdd (mVar 3) (mC (.int 1)))) (gN 5)
      (sFor (mRng1 (m2 pAdd (mVar 3) (mC (.int 1)))) (gN 2)
        (sSeq (sSub pSetL (m2 pIx (mVar 4) (m2 pAdd (mVar 5) (mC (.int 1)))) (m2 pAdd (mVar 2) (mC (.int 1))) (m2 pAdd (m2 pIx (m2 pIx (mVar 4) (m2 pAdd (mVar 5) (mC (.int 1)))) (m2 pAdd (mVar 2) (mC (.int 1)))) (m2 pIx (m2 pIx (mVar 1) (mVar 5)) (mVar 2))))
        (sFor (mRng2 (mC (.int 1)) (m2 pAdd (mVar 5) (mC (.int 1)))) (gN 6)
          (sSub pSetL (m2 pIx (mVar 4) (mVar 6)) (mVar 2) (m2 pAdd (m2 pIx (m2 pIx (mVar 4) (mVar 6)) (mVar 2)) (m2 pIx (m2 pIx (mVar 1) (mVar 5)) (mVar 2))))))))
    (sSet 1 (mVar 4)))))
  (sRt (mFrz (mLc (mRng1 (m2 pAdd (mVar 0) (mC (.int 1)))) (gN 2) tTrue (mn pSum (mCons (mLc (mRng1 (m2 pAdd (mVar 0) (mC (.int 1)))) (gN 5) tTrue (m2 pIx (m2 pIx (mVar 1) (mVar 5)) (mVar 2)) [5]) mNil)) [2]))))))
@[irreducible] def φ__law_by_fields : Fn := fnOf 1 7 m__law_by_fields
theorem ok__law_by_fields (T : Fx P K ca mg) : Ok P w K (ct ca) mg base 1 "_law_by_fields" ["_law_many"] φ__law_by_fields := by
  have sc := sc__law_by_fields
  unfold φ__law_by_fields
  refine Ok.of (N := ["_law_many", "_law_now", "_law_k", "_law_turn", "_law_later", "_law_m", "_law_j"]) T.d__law_by_fields (fun _ _ F => F.bindsN fun _ _ _ _ _ _ us hl => match us, hl with | [_], _ => rfl) sc rfl fun _ _ _ _ _ _ _ hr => ?_
  exact (pds_cons (pd_set 1 sc.nd (pd_lc rfl sc.nd (pdi_range1 rfl T.b_range (pd_op o_add (pd_var 0) pd_int)) (own := [("_law_k", 2)]) (blkOk_by (N := ["_law_many", "_law_now", "_law_k", "_law_turn", "_law_later", "_law_m", "_law_j"]) (sc := defScope s__law_by_fields) (by decide +kernel)) (by decide) (fun _ _ _ _ _ => (pdg_name 2 sc.nd)) (fun _ _ _ _ _ => pdts_nil) (fun _ _ _ _ _ => (pd_op o_mul (pd_lst (pda_cons pd_int pda_nil)) (pd_op o_add (pd_var 0) pd_int)))))
  (pds_cons (pd_sub pd_int (pd_ix i_ix (pd_var 1) pd_int (fun _ _ => rfl)) pd_int s_setL)
  (pds_cons (pd_for (passes_of rfl) rfl (pdi_range1 rfl T.b_range (pd_var 0)) (pdg_name 3 sc.nd)
    (pds_cons (pd_setLc 4 rfl sc.nd rfl rfl (sw_true rfl rfl rfl (by decide +kernel)) (pdi_range1 rfl T.b_range (pd_op o_add (pd_var 0) pd_int)) (own := [("_law_k", 2)]) (blkOk_by (N := ["_law_many", "_law_now", "_law_k", "_law_turn", "_law_later", "_law_m", "_law_j"]) (sc := defScope s__law_by_fields) (by decide +kernel)) (by decide) (fun _ _ _ _ _ => (pdg_name 2 sc.nd)) (fun _ _ _ _ _ => pdts_nil) (fun _ _ _ _ _ => (pd_op o_mul (pd_lst (pda_cons pd_int pda_nil)) (pd_op o_add (pd_var 0) pd_int))))
    (pds_cons (pd_for (passes_of rfl) rfl (pdi_range1 rfl T.b_range (pd_op o_add (pd_var 3) pd_int)) (pdg_name 5 sc.nd)
      (pds_one (pd_for (passes_of rfl) rfl (pdi_range1 rfl T.b_range (pd_op o_add (pd_var 3) pd_int)) (pdg_name 2 sc.nd)
        (pds_cons (pd_sub (pd_op o_add (pd_ix i_ix (pd_ix i_ix (pd_var 4) (pd_op o_add (pd_var 5) pd_int) (fun _ _ => rfl)) (pd_op o_add (pd_var 2) pd_int) (fun _ _ => rfl)) (pd_ix i_ix (pd_ix i_ix (pd_var 1) (pd_var 5) (fun _ _ => rfl)) (pd_var 2) (fun _ _ => rfl))) (pd_ix i_ix (pd_var 4) (pd_op o_add (pd_var 5) pd_int) (fun _ _ => rfl)) (pd_op o_add (pd_var 2) pd_int) s_setL)
        (pds_one (pd_for (passes_of rfl) rfl (pdi_range2 rfl T.b_range pd_int (pd_op o_add (pd_var 5) pd_int)) (pdg_name 6 sc.nd)
          (pds_one (pd_sub (pd_op o_add (pd_ix i_ix (pd_ix i_ix (pd_var 4) (pd_var 6) (fun _ _ => rfl)) (pd_var 2) (fun _ _ => rfl)) (pd_ix i_ix (pd_ix i_ix (pd_var 1) (pd_var 5) (fun _ _ => rfl)) (pd_var 2) (fun _ _ => rfl))) (pd_ix i_ix (pd_var 4) (pd_var 6) (fun _ _ => rfl)) (pd_var 2) s_setL))))))))
    (pds_one (pd_set 1 sc.nd (pd_var 4))))))
  (pds_one (pd_ret (pd_frz (pd_lc rfl sc.nd (pdi_range1 rfl T.b_range (pd_op o_add (pd_var 0) pd_int)) (own := [("_law_k", 2)]) (blkOk_by (N := ["_law_many", "_law_now", "_law_k", "_law_turn", "_law_later", "_law_m", "_law_j"]) (sc := defScope s__law_by_fields) (by decide +kernel)) (by decide) (fun _ _ _ _ _ => (pdg_name 2 sc.nd)) (fun _ _ _ _ _ => pdts_nil) (fun _ _ _ _ _ => (pd_callB (c_sum rfl) rfl T.b_sum (by decide +kernel) (pda_cons (pd_lc rfl sc.nd (pdi_range1 rfl T.b_range (pd_op o_add (pd_var 0) pd_int)) (own := [("_law_m", 5)]) (blkOk_by (by rfl)) (by decide) (fun _ _ _ _ _ => (pdg_name 5 sc.nd)) (fun _ _ _ _ _ => pdts_nil) (fun _ _ _ _ _ => (pd_ix i_ix (pd_ix i_ix (pd_var 1) (pd_var 5) (fun _ _ => rfl)) (pd_var 2) (fun _ _ => rfl)))) pda_nil))))))))))
abbrev s__law_refusal : Stmt := top 41
theorem sc__law_refusal : FnScope ["_law_caught", "_law_kinds"] ["_law_caught"] (defScope s__law_refusal) := ⟨rfl, rfl, rfl, by decide +kernel, rfl, by decide +kernel, by decide +kernel⟩
def m__law_refusal : Dl.M Fl :=
  (sSeq (sSet 1 (mFrz (mn pLst (mCons (m1 (pIsX [(20, false)]) (mVar 0)) (mCons (m1 (pIsX [(20, false)]) (mVar 0)) (mCons (m1 (pIsX [(20, false)]) (mVar 0)) mNil))))))
  (sSeq (sSet 1 (mFrz (m2 pAdd (mVar 1) (mn pLst (mCons (m1 (pIsX [(20, false)]) (mVar 0)) (mCons (m1 (pIsX [(20, false)]) (mVar 0)) (mCons (m1 (pIsX [(20, false)]) (mVar 0)) mNil)))))))
  (sSeq (sSet 1 (mFrz (m2 pAdd (mVar 1) (mn pLst (mCons (m1 (pIsX [(20, false)]) (mVar 0)) (mCons (m1 (pIsX [(20, false)]) (mVar 0)) (mCons (m1 (pIsX [(20, false)]) (mVar 0)) mNil)))))))
  (sSeq (sSet 1 (mFrz (m2 pAdd (mVar 1) (mn pLst (mCons (m1 (pIsX [(20, false)]) (mVar 0)) (mCons (m1 (pIsX [(20, false)]) (mVar 0)) (mCons (m1 (pIsX [(20, false)]) (mVar 0)) mNil)))))))
  (sSeq (sSet 1 (mFrz (m2 pAdd (mVar 1) (mn pLst (mCons (m1 (pIsX [(20, false)]) (mVar 0)) (mCons (m1 (pIsX [(20, false)]) (mVar 0)) (mCons (m1 (pIsX [(20, false)]) (mVar 0)) mNil)))))))
  (sSeq (sSet 1 (mFrz (m2 pAdd (mVar 1) (mn pLst (mCons (m1 (pIsX [(20, false)]) (mVar 0)) (mCons (m1 (pIsX [(20, true)]) (mVar 0)) (mCons (m1 (pIsX [(20, false)]) (mVar 0)) mNil)))))))
  (sSeq (sSet 1 (mFrz (m2 pAdd (mVar 1) (mn pLst (mCons (m1 (pIsX [(20, false)]) (mVar 0)) (mCons (m1 (pIsX [(20, false)]) (mVar 0)) (mCons (m1 (pIsX [(20, false)]) (mVar 0)) mNil)))))))
  (sSeq (sSet 1 (mFrz (m2 pAdd (mVar 1) (mn pLst (mCons (m1 (pIsX [(20, false)]) (mVar 0)) (mCons (m1 (pIsX [(20, false)]) (mVar 0)) (mCons (m1 (pIsX [(20, false)]) (mVar 0)) mNil)))))))
  (sSeq (sSet 1 (mFrz (m2 pAdd (mVar 1) (mn pLst (mCons (m1 (pIsX [(20, false)]) (mVar 0)) mNil)))))
  (sSeq (mIf (mOr (tb (m2 pNe (mMt "list" pCount (mVar 1) (mCons (mC (.bl true)) mNil)) (mC (.int 1)))) (mNot (tb (m1 (pIsX [(20, true)]) (mVar 0)))))
    (sRt (mn pTup (mCons (mC (.str "refused")) mNil)))
    sNx)
  (sSeq (mIf (tb (m1 (pIsX [(20, true)]) (mVar 0)))
    (sRt (mn pTup (mCons (mC (.str "OutOfRange")) (mCons (m1 (pXf fl [20] "value") (mVar 0)) (mCons (m1 (pXf fl [20] "limit") (mVar 0)) mNil)))))
    sNx)
  (sRt (mn pTup (mCons (mC (.str "refused")) mNil))))))))))))))
@[irreducible] def φ__law_refusal : Fn := fnOf 1 2 m__law_refusal
theorem okW__law_refusal (T : Fx P K ca mg) : OkW P w K (ct ca) mg base 1 "_law_refusal" ["_law_caught"] φ__law_refusal := by
  have sc := sc__law_refusal
  unfold φ__law_refusal
  refine OkW.of (N := ["_law_caught", "_law_kinds"]) T.d__law_refusal (fun _ _ F => F.bindsN fun _ _ _ _ _ _ us hl => match us, hl with | [_], _ => rfl) sc rfl fun _ _ _ _ _ _ _ hr => ?_
  exact (pds_cons (pd_set 1 sc.nd (pd_frz (pd_lst (pda_cons (pd_isX (ct := ct ca) (is := [(20, false)]) T.is_AtStrife rfl T.b_isinstance rfl T.g_AtStrife (pd_var 0)) (pda_cons (pd_isX (ct := ct ca) (is := [(20, false)]) T.is_BadName rfl T.b_isinstance rfl T.g_BadName (pd_var 0)) (pda_cons (pd_isX (ct := ct ca) (is := [(20, false)]) T.is_BadParting rfl T.b_isinstance rfl T.g_BadParting (pd_var 0)) pda_nil))))))
  (pds_cons (pd_set 1 sc.nd (pd_frz (pd_op o_add (pd_var 1) (pd_lst (pda_cons (pd_isX (ct := ct ca) (is := [(20, false)]) T.is_BadRow rfl T.b_isinstance rfl T.g_BadRow (pd_var 0)) (pda_cons (pd_isX (ct := ct ca) (is := [(20, false)]) T.is_BadSize rfl T.b_isinstance rfl T.g_BadSize (pd_var 0)) (pda_cons (pd_isX (ct := ct ca) (is := [(20, false)]) T.is_BadSplit rfl T.b_isinstance rfl T.g_BadSplit (pd_var 0)) pda_nil)))))))
  (pds_cons (pd_set 1 sc.nd (pd_frz (pd_op o_add (pd_var 1) (pd_lst (pda_cons (pd_isX (ct := ct ca) (is := [(20, false)]) T.is_BadText rfl T.b_isinstance rfl T.g_BadText (pd_var 0)) (pda_cons (pd_isX (ct := ct ca) (is := [(20, false)]) T.is_CrossedField rfl T.b_isinstance rfl T.g_CrossedField (pd_var 0)) (pda_cons (pd_isX (ct := ct ca) (is := [(20, false)]) T.is_Crossing rfl T.b_isinstance rfl T.g_Crossing (pd_var 0)) pda_nil)))))))
  (pds_cons (pd_set 1 sc.nd (pd_frz (pd_op o_add (pd_var 1) (pd_lst (pda_cons (pd_isX (ct := ct ca) (is := [(20, false)]) T.is_EmptyBook rfl T.b_isinstance rfl T.g_EmptyBook (pd_var 0)) (pda_cons (pd_isX (ct := ct ca) (is := [(20, false)]) T.is_EndsDiffer rfl T.b_isinstance rfl T.g_EndsDiffer (pd_var 0)) (pda_cons (pd_isX (ct := ct ca) (is := [(20, false)]) T.is_NoRun rfl T.b_isinstance rfl T.g_NoRun (pd_var 0)) pda_nil)))))))
  (pds_cons (pd_set 1 sc.nd (pd_frz (pd_op o_add (pd_var 1) (pd_lst (pda_cons (pd_isX (ct := ct ca) (is := [(20, false)]) T.is_NoStrife rfl T.b_isinstance rfl T.g_NoStrife (pd_var 0)) (pda_cons (pd_isX (ct := ct ca) (is := [(20, false)]) T.is_NotWithin rfl T.b_isinstance rfl T.g_NotWithin (pd_var 0)) (pda_cons (pd_isX (ct := ct ca) (is := [(20, false)]) T.is_OrderRefused rfl T.b_isinstance rfl T.g_OrderRefused (pd_var 0)) pda_nil)))))))
  (pds_cons (pd_set 1 sc.nd (pd_frz (pd_op o_add (pd_var 1) (pd_lst (pda_cons (pd_isX (ct := ct ca) (is := [(20, false)]) T.is_OtherPond rfl T.b_isinstance rfl T.g_OtherPond (pd_var 0)) (pda_cons (pd_isX (ct := ct ca) (is := [(20, true)]) T.is_OutOfRange rfl T.b_isinstance rfl T.g_OutOfRange (pd_var 0)) (pda_cons (pd_isX (ct := ct ca) (is := [(20, false)]) T.is_RepeatedName rfl T.b_isinstance rfl T.g_RepeatedName (pd_var 0)) pda_nil)))))))
  (pds_cons (pd_set 1 sc.nd (pd_frz (pd_op o_add (pd_var 1) (pd_lst (pda_cons (pd_isX (ct := ct ca) (is := [(20, false)]) T.is_SameField rfl T.b_isinstance rfl T.g_SameField (pd_var 0)) (pda_cons (pd_isX (ct := ct ca) (is := [(20, false)]) T.is_SameLot rfl T.b_isinstance rfl T.g_SameLot (pd_var 0)) (pda_cons (pd_isX (ct := ct ca) (is := [(20, false)]) T.is_StepRefused rfl T.b_isinstance rfl T.g_StepRefused (pd_var 0)) pda_nil)))))))
  (pds_cons (pd_set 1 sc.nd (pd_frz (pd_op o_add (pd_var 1) (pd_lst (pda_cons (pd_isX (ct := ct ca) (is := [(20, false)]) T.is_Stuck rfl T.b_isinstance rfl T.g_Stuck (pd_var 0)) (pda_cons (pd_isX (ct := ct ca) (is := [(20, false)]) T.is_TooMany rfl T.b_isinstance rfl T.g_TooMany (pd_var 0)) (pda_cons (pd_isX (ct := ct ca) (is := [(20, false)]) T.is_Ungranted rfl T.b_isinstance rfl T.g_Ungranted (pd_var 0)) pda_nil)))))))
  (pds_cons (pd_set 1 sc.nd (pd_frz (pd_op o_add (pd_var 1) (pd_lst (pda_cons (pd_isX (ct := ct ca) (is := [(20, false)]) T.is_UnknownLot rfl T.b_isinstance rfl T.g_UnknownLot (pd_var 0)) pda_nil)))))
  (pds_cons (pd_if (PW.pt (pd_wor (pd_tcmp (o_ne hr.units) (pd_bm PySem.F.plainAttrs_list PySem.F.slot_list_count PySem.F.type_list_count (m_count hr.u65) (pd_var 1) (pda_cons pd_bl pda_nil)) pd_int (nomark _)) (pd_w1or (pd_tnot (pd_tb (pd_isXB (ct := ct ca) (is := [(20, true)]) (T := "ValueError") T.is_ValueError rfl T.b_isinstance rfl T.b_ValueError (by decide +kernel) (pd_var 0)))))))
    (pds_one (pd_ret (pd_tup (pda_cons pd_str pda_nil))))
    pds_nil)
  (pds_cons (pd_if (pd_tb (pd_isX (ct := ct ca) (is := [(20, true)]) T.is_OutOfRange rfl T.b_isinstance rfl T.g_OutOfRange (pd_var 0)))
    (pds_one (pd_ret (pd_tup (pda_cons pd_str (pda_cons (pd_xf (ct := ct ca) (cs := [20]) (fun c h => T.l_ c (by revert h; revert c; decide)) (pd_var 0)) (pda_cons (pd_xf (ct := ct ca) (cs := [20]) (fun c h => T.l_ c (by revert h; revert c; decide)) (pd_var 0)) pda_nil))))))
    pds_nil)
  (pds_one (pd_ret (pd_tup (pda_cons pd_str pda_nil)))))))))))))))
abbrev s__law_asked : Stmt := top 42
theorem sc__law_asked : FnScope ["_law_many", "e"] ["_law_many"] (defScope s__law_asked) := ⟨rfl, rfl, rfl, by decide +kernel, rfl, by decide +kernel, by decide +kernel⟩
def m__law_asked : Dl.M Fl :=
  (sTry [(20, true)] 1
    (sRt (mn pTup (mCons (mC (.str "told")) (mCons (mCallK (iso φ_count_worlds) 1 0 (fun os us => permL [0, 1] os (us ++ [D.non])) (mCons (mVar 0) mNil) mNil) mNil))))
    (sRt (mCall (iso φ__law_refusal) (mCons (mVar 1) mNil))))
@[irreducible] def φ__law_asked : Fn := fnOf 1 2 m__law_asked
theorem ok__law_asked (T : Fx P K ca mg) : Ok P w K (ct ca) mg base 4 "_law_asked" ["_law_many"] φ__law_asked := by
  have gN_count_worlds := okN_count_worlds (P := P) (w := w) (base := base) T
  have gW__law_refusal := okW__law_refusal (P := P) (w := w) (base := base) T
  have sc := sc__law_asked
  unfold φ__law_asked
  refine Ok.of (N := ["_law_many", "e"]) T.d__law_asked (fun _ _ F => F.bindsN fun _ _ _ _ _ _ us hl => match us, hl with | [_], _ => rfl) sc rfl fun _ _ _ _ _ _ _ hr => ?_
  exact (pds_one (pd_try (ct := ct ca) (mt := [(20, true)]) (i := 1) T.m_HedgeError rfl rfl sc.nd rfl rfl ⟨rfl, by decide, Or.inl T.g_HedgeError⟩ (takes_of rfl rfl rfl rfl)
    (fun W pn xe tk po => (pds_one (pd_ret (pd_tup (pda_cons pd_str (pda_cons (OkK.call (OkN.perm (kws := [("fields", V.non)]) (n := 1) (ks := []) [0, 1] [("fields", V.non)] [D.non] (OkN.iso gN_count_worlds) T.d_count_worlds (List.cons_ne_nil _ _) (by simp) (fun _ _ => (RepL.cons Rep.non RepL.nil)) (fun _ _ _ _ _ _ us mv ws h1 h2 h3 => match us, mv, ws, h1, h2, h3 with | [_], [_], [], _, _, _ => (by refine ⟨_, _, _, _, _, _, rfl, rfl, ?_⟩; show _ = _; rfl))) (hr.mono (by omega)) (pas_of tk) (pda_cons (pd_var 0) pda_nil) pdk_nil) pda_nil))))))
    (fun a pn => (pds_one (pd_ret (OkW.call (OkW.iso gW__law_refusal) (RoomW.mono (RoomW.marked hr _) (by omega)) pas0 (pda_cons (pd_var 1) pda_nil)))))))
abbrev s__law_asked_by : Stmt := top 43
theorem sc__law_asked_by : FnScope ["_law_many", "_law_wanted", "e"] ["_law_many", "_law_wanted"] (defScope s__law_asked_by) := ⟨rfl, rfl, rfl, by decide +kernel, rfl, by decide +kernel, by decide +kernel⟩
def m__law_asked_by : Dl.M Fl :=
  (sTry [(20, true)] 2
    (sRt (mn pTup (mCons (mC (.str "told")) (mCons (mCallK (iso φ_count_worlds) 0 2 (fun os us => permL [1, 0] os (us ++ [])) mNil (mCons (mVar 1) (mCons (mVar 0) mNil))) mNil))))
    (sRt (mCall (iso φ__law_refusal) (mCons (mVar 2) mNil))))
@[irreducible] def φ__law_asked_by : Fn := fnOf 2 3 m__law_asked_by
theorem ok__law_asked_by (T : Fx P K ca mg) : Ok P w K (ct ca) mg base 4 "_law_asked_by" ["_law_many", "_law_wanted"] φ__law_asked_by := by
  have gN_count_worlds := okN_count_worlds (P := P) (w := w) (base := base) T
  have gW__law_refusal := okW__law_refusal (P := P) (w := w) (base := base) T
  have sc := sc__law_asked_by
  unfold φ__law_asked_by
  refine Ok.of (N := ["_law_many", "_law_wanted", "e"]) T.d__law_asked_by (fun _ _ F => F.bindsN fun _ _ _ _ _ _ us hl => match us, hl with | [_, _], _ => rfl) sc rfl fun _ _ _ _ _ _ _ hr => ?_
  exact (pds_one (pd_try (ct := ct ca) (mt := [(20, true)]) (i := 2) T.m_HedgeError rfl rfl sc.nd rfl rfl ⟨rfl, by decide, Or.inl T.g_HedgeError⟩ (takes_of rfl rfl rfl rfl)
    (fun W pn xe tk po => (pds_one (pd_ret (pd_tup (pda_cons pd_str (pda_cons (OkK.call0 (OkN.perm (kws := [("fields", V.non)]) (n := 0) (ks := ["fields", "size"]) [1, 0] [] [] (OkN.iso gN_count_worlds) T.d_count_worlds (List.cons_ne_nil _ _) (by simp) (fun _ _ => RepL.nil) (fun _ _ _ _ _ _ us mv ws h1 h2 h3 => match us, mv, ws, h1, h2, h3 with | [], [], [_, _], _, _, _ => (by show _ = _; rfl))) (hr.mono (by omega)) (pas_of tk) (pdk_cons (pd_var 1) (pdk_cons (pd_var 0) pdk_nil))) pda_nil))))))
    (fun a pn => (pds_one (pd_ret (OkW.call (OkW.iso gW__law_refusal) (RoomW.mono (RoomW.marked hr _) (by omega)) pas0 (pda_cons (pd_var 2) pda_nil)))))))
abbrev s__law_due : Stmt := top 44
theorem sc__law_due : FnScope ["_law_many", "_law_by_fields_here", "_law_wanted"] ["_law_many", "_law_by_fields_here", "_law_wanted"] (defScope s__law_due) := ⟨rfl, rfl, rfl, by decide +kernel, rfl, by decide +kernel, by decide +kernel⟩
def m__law_due : Dl.M Fl :=
  (sSeq (mIf (mOr (tb (m2 pLt (mVar 0) (mC (.int 0)))) (tb (m2 pGt (mVar 0) (mC (.int 10)))))
    (sRt (mn pTup (mCons (mC (.str "OutOfRange")) (mCons (mVar 0) (mCons (mC (.int 11)) mNil)))))
    sNx)
  (sSeq (mIf (tb (m2 pIsN (mVar 2) (mC .non)))
    (sRt (mn pTup (mCons (mC (.str "told")) (mCons (mn pSum (mCons (mVar 1) mNil)) mNil))))
    sNx)
  (sSeq (mIf (mOr (tb (m2 pLt (mVar 2) (mC (.int 0)))) (tb (m2 pGt (mVar 2) (mVar 0))))
    (sRt (mn pTup (mCons (mC (.str "told")) (mCons (mC (.int 0)) mNil))))
    sNx)
  (sRt (mn pTup (mCons (mC (.str "told")) (mCons (m2 pIx (mVar 1) (mVar 2)) mNil)))))))
@[irreducible] def φ__law_due : Fn := fnOf 3 3 m__law_due
theorem ok__law_due (T : Fx P K ca mg) : Ok P w K (ct ca) mg base 1 "_law_due" ["_law_many", "_law_by_fields_here", "_law_wanted"] φ__law_due := by
  have sc := sc__law_due
  unfold φ__law_due
  refine Ok.of (N := ["_law_many", "_law_by_fields_here", "_law_wanted"]) T.d__law_due (fun _ _ F => F.bindsN fun _ _ _ _ _ _ us hl => match us, hl with | [_, _, _], _ => rfl) sc rfl fun _ _ _ _ _ _ _ hr => ?_
  exact (pds_cons (pd_if (PW.pt (pd_wor (pd_tcmp o_lt (pd_var 0) pd_int (nomark _)) (pd_w1or (pd_tcmp o_gt (pd_var 0) pd_int (nomark _)))))
    (pds_one (pd_ret (pd_tup (pda_cons pd_str (pda_cons (pd_var 0) (pda_cons pd_int pda_nil))))))
    pds_nil)
  (pds_cons (pd_if (pd_tcmp o_isN (pd_var 2) pd_non (nomark _))
    (pds_one (pd_ret (pd_tup (pda_cons pd_str (pda_cons (pd_callB (c_sum rfl) rfl T.b_sum (by decide +kernel) (pda_cons (pd_var 1) pda_nil)) pda_nil)))))
    pds_nil)
  (pds_cons (pd_if (PW.pt (pd_wor (pd_tcmp o_lt (pd_var 2) pd_int (nomark _)) (pd_w1or (pd_tcmp o_gt (pd_var 2) (pd_var 0) (nomark _)))))
    (pds_one (pd_ret (pd_tup (pda_cons pd_str (pda_cons pd_int pda_nil)))))
    pds_nil)
  (pds_one (pd_ret (pd_tup (pda_cons pd_str (pda_cons (pd_ix i_ix (pd_var 1) (pd_var 2) (fun _ _ => rfl)) pda_nil))))))))
abbrev s__law_size_holds : Stmt := top 45
theorem sc__law_size_holds : FnScope ["_law_many", "_law_by_fields_here", "_law_found", "_law_k", "_law_told"] ["_law_many", "_law_by_fields_here"] (defScope s__law_size_holds) := ⟨rfl, rfl, rfl, by decide +kernel, rfl, by decide +kernel, by decide +kernel⟩
def m__law_size_holds : Dl.M Fl :=
  (sSeq (sSet 2 (mn pLst mNil))
  (sSeq (sFor (mRng2 (m2 pSub (mC (.int 0)) (mC (.int 1))) (m2 pAdd (mVar 0) (mC (.int 3)))) (gN 3)
    (sSeq (sSet 4 (mCall (iso φ__law_asked_by) (mCons (mVar 0) (mCons (mVar 3) mNil))))
    (sSeq (mIf (mNot (tb (mCall (iso (φ__law_same 10)) (mCons (mVar 4) (mCons (mCall (iso φ__law_due) (mCons (mVar 0) (mCons (mVar 1) (mCons (mVar 3) mNil)))) mNil)))))
      (sRt (mC (.bl false)))
      sNx)
    (sEx (mMt "list" pAppend (mVar 2) (mCons (m2 pIx (mVar 4) (mC (.int 1))) mNil))))))
  (sSeq (sFor (mRng2 (mC (.int 1)) (m2 pAdd (mVar 0) (mC (.int 1)))) (gN 3)
    (mIf (tb (m2 pNe (m2 pIx (mVar 2) (m2 pAdd (mVar 3) (mC (.int 1)))) (m2 pIx (mVar 2) (m2 pSub (m2 pAdd (mVar 0) (mC (.int 2))) (mVar 3)))))
      (sRt (mC (.bl false)))
      sNx))
  (sSeq (mIf (mNot (tb (mCall (iso (φ__law_same 10)) (mCons (mCall (iso φ__law_asked_by) (mCons (mVar 0) (mCons (mC .non) mNil))) (mCons (mn pTup (mCons (mC (.str "told")) (mCons (mn pSum (mCons (mVar 2) mNil)) mNil))) mNil)))))
    (sRt (mC (.bl false)))
    sNx)
  (sRt (mCall (iso (φ__law_same 10)) (mCons (mCall (iso φ__law_asked) (mCons (mVar 0) mNil)) (mCons (mn pTup (mCons (mC (.str "told")) (mCons (mn pSum (mCons (mVar 1) mNil)) mNil))) mNil))))))))
@[irreducible] def φ__law_size_holds : Fn := fnOf 2 5 m__law_size_holds
theorem ok__law_size_holds (T : Fx P K ca mg) : Ok P w K (ct ca) mg base 12 "_law_size_holds" ["_law_many", "_law_by_fields_here"] φ__law_size_holds := by
  have g__law_same := ok__law_same (P := P) (w := w) (base := base) T 10
  have g__law_asked := ok__law_asked (P := P) (w := w) (base := base) T
  have g__law_asked_by := ok__law_asked_by (P := P) (w := w) (base := base) T
  have g__law_due := ok__law_due (P := P) (w := w) (base := base) T
  have sc := sc__law_size_holds
  unfold φ__law_size_holds
  refine Ok.of (N := ["_law_many", "_law_by_fields_here", "_law_found", "_law_k", "_law_told"]) T.d__law_size_holds (fun _ _ F => F.bindsN fun _ _ _ _ _ _ us hl => match us, hl with | [_, _], _ => rfl) sc rfl fun _ _ _ _ _ _ _ hr => ?_
  exact (pds_cons (pd_set 2 sc.nd (pd_lst pda_nil))
  (pds_cons (pd_for (passes_of rfl) rfl (pdi_range2 rfl T.b_range (pd_op o_sub pd_int pd_int) (pd_op o_add (pd_var 0) pd_int)) (pdg_name 3 sc.nd)
    (pds_cons (pd_set 4 sc.nd (Ok.call (Ok.iso g__law_asked_by) (hr.mono (by omega)) (pas_of (takes_of rfl rfl rfl rfl)) (pda_cons (pd_var 0) (pda_cons (pd_var 3) pda_nil))))
    (pds_cons (pd_if (pd_tnot (pd_tb (Ok.call (Ok.iso g__law_same) (hr.mono (by omega)) (pas_of (takes_of rfl rfl rfl rfl)) (pda_cons (pd_var 4) (pda_cons (Ok.call (Ok.iso g__law_due) (hr.mono (by omega)) (pas_of (takes_of rfl rfl rfl rfl)) (pda_cons (pd_var 0) (pda_cons (pd_var 1) (pda_cons (pd_var 3) pda_nil)))) pda_nil)))))
      (pds_one (pd_ret pd_bl))
      pds_nil)
    (pds_one (pd_expr (pd_bm PySem.F.plainAttrs_list PySem.F.slot_list_append PySem.F.type_list_append m_append (pd_var 2) (pda_cons (pd_ix i_ix (pd_var 4) pd_int (fun _ _ => rfl)) pda_nil)))))))
  (pds_cons (pd_for (passes_of rfl) rfl (pdi_range2 rfl T.b_range pd_int (pd_op o_add (pd_var 0) pd_int)) (pdg_name 3 sc.nd)
    (pds_one (pd_if (pd_tcmp (o_ne hr.units) (pd_ix i_ix (pd_var 2) (pd_op o_add (pd_var 3) pd_int) (fun _ _ => rfl)) (pd_ix i_ix (pd_var 2) (pd_op o_sub (pd_op o_add (pd_var 0) pd_int) (pd_var 3)) (fun _ _ => rfl)) (nomark _))
      (pds_one (pd_ret pd_bl))
      pds_nil)))
  (pds_cons (pd_if (pd_tnot (pd_tb (Ok.call (Ok.iso g__law_same) (hr.mono (by omega)) (pas_of (takes_of rfl rfl rfl rfl)) (pda_cons (Ok.call (Ok.iso g__law_asked_by) (hr.mono (by omega)) (pas_of (takes_of rfl rfl rfl rfl)) (pda_cons (pd_var 0) (pda_cons pd_non pda_nil))) (pda_cons (pd_tup (pda_cons pd_str (pda_cons (pd_callB (c_sum rfl) rfl T.b_sum (by decide +kernel) (pda_cons (pd_var 2) pda_nil)) pda_nil))) pda_nil)))))
    (pds_one (pd_ret pd_bl))
    pds_nil)
  (pds_one (pd_ret (Ok.call (Ok.iso g__law_same) (hr.mono (by omega)) (pas_of (takes_of rfl rfl rfl rfl)) (pda_cons (Ok.call (Ok.iso g__law_asked) (hr.mono (by omega)) (pas_of (takes_of rfl rfl rfl rfl)) (pda_cons (pd_var 0) pda_nil)) (pda_cons (pd_tup (pda_cons pd_str (pda_cons (pd_callB (c_sum rfl) rfl T.b_sum (by decide +kernel) (pda_cons (pd_var 1) pda_nil)) pda_nil))) pda_nil)))))))))
abbrev s_law : Stmt := top 46
theorem sc_law : FnScope ["_law_script", "_law_store_here", "_law_many", "_law_other", "_law_odd_size", "_law_odd_many", "_law_by_fields_here", "_law_odd_by_fields"] ["_law_script"] (defScope s_law) := ⟨rfl, rfl, rfl, by decide +kernel, rfl, by decide +kernel, by decide +kernel⟩
def m_law : Dl.M Fl :=
  (sSeq (sSet 1 (mCall φ__law_store (mCons (mVar 0) mNil)))
  (sSeq (sSet 2 (mCall (isoK 1 φ__law_number) (mCons (mVar 1) (mCons (mC (.int 0)) (mCons (mC (.int 10)) mNil)))))
  (sSeq (sSet 3 (mCall (isoK 1 φ__law_number) (mCons (mVar 1) (mCons (mC (.int 0)) (mCons (mC (.int 10)) mNil)))))
  (sSeq (sSet 4 (mCall (isoK 1 φ__law_vast) (mCons (mVar 1) (mCons (mC (.int 11)) mNil))))
  (sSeq (sSet 5 (mCall (isoK 1 φ__law_vast) (mCons (mVar 1) (mCons (m2 pAdd (mVar 2) (mC (.int 1))) mNil))))
  (sSeq (sSet 6 (mCall (iso φ__law_by_fields) (mCons (mVar 2) mNil)))
  (sSeq (sSet 7 (mFrz (mn pLst mNil)))
  (sSeq (mIf (mAnd (tb (m2 pLe (mC (.int 0)) (mVar 4))) (tb (m2 pLe (mVar 4) (mC (.int 10)))))
    (sSet 7 (mCall (iso φ__law_by_fields) (mCons (mVar 4) mNil)))
    sNx)
  (sSeq (mIf (mNot (tb (mCall (iso φ__law_size_holds) (mCons (mVar 2) (mCons (mVar 6) mNil)))))
    (sRt (mC (.bl false)))
    sNx)
  (sSeq (mIf (mNot (tb (mCall (iso (φ__law_same 10)) (mCons (mCall (iso φ__law_asked) (mCons (mVar 4) mNil)) (mCons (mCall (iso φ__law_due) (mCons (mVar 4) (mCons (mVar 7) (mCons (mC .non) mNil)))) mNil)))))
    (sRt (mC (.bl false)))
    sNx)
  (sSeq (mIf (mNot (tb (mCall (iso (φ__law_same 10)) (mCons (mCall (iso φ__law_asked_by) (mCons (mVar 4) (mCons (mVar 5) mNil))) (mCons (mCall (iso φ__law_due) (mCons (mVar 4) (mCons (mVar 7) (mCons (mVar 5) mNil)))) mNil)))))
    (sRt (mC (.bl false)))
    sNx)
  (sSeq (mIf (mNot (tb (mCall (iso (φ__law_same 10)) (mCons (mCall (iso φ__law_asked_by) (mCons (mVar 2) (mCons (mVar 5) mNil))) (mCons (mCall (iso φ__law_due) (mCons (mVar 2) (mCons (mVar 6) (mCons (mVar 5) mNil)))) mNil)))))
    (sRt (mC (.bl false)))
    sNx)
  (sSeq (mIf (mNot (tb (mCall (iso (φ__law_same 10)) (mCons (mCall (iso φ__law_asked_by) (mCons (mVar 4) (mCons (mVar 2) mNil))) (mCons (mCall (iso φ__law_due) (mCons (mVar 4) (mCons (mVar 7) (mCons (mVar 2) mNil)))) mNil)))))
    (sRt (mC (.bl false)))
    sNx)
  (sSeq (mIf (mNot (tb (mCall (iso φ__law_size_holds) (mCons (mVar 3) (mCons (mCall (iso φ__law_by_fields) (mCons (mVar 3) mNil)) mNil)))))
    (sRt (mC (.bl false)))
    sNx)
  (sRt (mCall (iso (φ__law_same 10)) (mCons (mCall (iso φ__law_asked) (mCons (mVar 2) mNil)) (mCons (mn pTup (mCons (mC (.str "told")) (mCons (mn pSum (mCons (mVar 6) mNil)) mNil))) mNil))))))))))))))))))
@[irreducible] def φ_law : Fn := fnOf 1 8 m_law
theorem ok_law (T : Fx P K ca mg) : Ok P w K (ct ca) mg base 13 "law" ["_law_script"] φ_law := by
  have g__law_same := ok__law_same (P := P) (w := w) (base := base) T 10
  have g__law_asked := ok__law_asked (P := P) (w := w) (base := base) T
  have g__law_size_holds := ok__law_size_holds (P := P) (w := w) (base := base) T
  have g__law_by_fields := ok__law_by_fields (P := P) (w := w) (base := base) T
  have g__law_due := ok__law_due (P := P) (w := w) (base := base) T
  have g__law_asked_by := ok__law_asked_by (P := P) (w := w) (base := base) T
  have g__law_vast := ok__law_vast (P := P) (w := w) (base := base) T
  have g__law_number := ok__law_number (P := P) (w := w) (base := base) T
  have g__law_store := ok__law_store (P := P) (w := w) (base := base) T
  have sc := sc_law
  unfold φ_law
  refine Ok.of (N := ["_law_script", "_law_store_here", "_law_many", "_law_other", "_law_odd_size", "_law_odd_many", "_law_by_fields_here", "_law_odd_by_fields"]) T.d_law (fun _ _ F => F.bindsN fun _ _ _ _ _ _ us hl => match us, hl with | [_], _ => rfl) sc rfl fun _ _ _ _ _ _ _ hr => ?_
  exact (pds_cons (pd_set 1 sc.nd (Ok.call g__law_store (hr.mono (by omega)) (pas_of (takes_of rfl rfl rfl rfl)) (pda_cons (pd_var 0) pda_nil)))
  (pds_cons (pd_set 2 sc.nd (Ok.call (Ok.isoK (j := 1) g__law_number) (hr.mono (by omega)) (pas_of (takes_of rfl rfl rfl rfl)) (pda_cons (pd_var 1) (pda_cons pd_int (pda_cons pd_int pda_nil)))))
  (pds_cons (pd_set 3 sc.nd (Ok.call (Ok.isoK (j := 1) g__law_number) (hr.mono (by omega)) (pas_of (takes_of rfl rfl rfl rfl)) (pda_cons (pd_var 1) (pda_cons pd_int (pda_cons pd_int pda_nil)))))
  (pds_cons (pd_set 4 sc.nd (Ok.call (Ok.isoK (j := 1) g__law_vast) (hr.mono (by omega)) (pas_of (takes_of rfl rfl rfl rfl)) (pda_cons (pd_var 1) (pda_cons pd_int pda_nil))))
  (pds_cons (pd_set 5 sc.nd (Ok.call (Ok.isoK (j := 1) g__law_vast) (hr.mono (by omega)) (pas_of (takes_of rfl rfl rfl rfl)) (pda_cons (pd_var 1) (pda_cons (pd_op o_add (pd_var 2) pd_int) pda_nil))))
  (pds_cons (pd_set 6 sc.nd (Ok.call (Ok.iso g__law_by_fields) (hr.mono (by omega)) (pas_of (takes_of rfl rfl rfl rfl)) (pda_cons (pd_var 2) pda_nil)))
  (pds_cons (pd_set 7 sc.nd (pd_frz (pd_lst pda_nil)))
  (pds_cons (pd_if (PW.pt (pd_wand (pd_tcmp o_le pd_int (pd_var 4) (nomark _)) (pd_w1and (pd_tcmp o_le (pd_var 4) pd_int (nomark _)))))
    (pds_one (pd_set 7 sc.nd (Ok.call (Ok.iso g__law_by_fields) (hr.mono (by omega)) (pas_of (takes_of rfl rfl rfl rfl)) (pda_cons (pd_var 4) pda_nil))))
    pds_nil)
  (pds_cons (pd_if (pd_tnot (pd_tb (Ok.call (Ok.iso g__law_size_holds) (hr.mono (by omega)) (pas_of (takes_of rfl rfl rfl rfl)) (pda_cons (pd_var 2) (pda_cons (pd_var 6) pda_nil)))))
    (pds_one (pd_ret pd_bl))
    pds_nil)
  (pds_cons (pd_if (pd_tnot (pd_tb (Ok.call (Ok.iso g__law_same) (hr.mono (by omega)) (pas_of (takes_of rfl rfl rfl rfl)) (pda_cons (Ok.call (Ok.iso g__law_asked) (hr.mono (by omega)) (pas_of (takes_of rfl rfl rfl rfl)) (pda_cons (pd_var 4) pda_nil)) (pda_cons (Ok.call (Ok.iso g__law_due) (hr.mono (by omega)) (pas_of (takes_of rfl rfl rfl rfl)) (pda_cons (pd_var 4) (pda_cons (pd_var 7) (pda_cons pd_non pda_nil)))) pda_nil)))))
    (pds_one (pd_ret pd_bl))
    pds_nil)
  (pds_cons (pd_if (pd_tnot (pd_tb (Ok.call (Ok.iso g__law_same) (hr.mono (by omega)) (pas_of (takes_of rfl rfl rfl rfl)) (pda_cons (Ok.call (Ok.iso g__law_asked_by) (hr.mono (by omega)) (pas_of (takes_of rfl rfl rfl rfl)) (pda_cons (pd_var 4) (pda_cons (pd_var 5) pda_nil))) (pda_cons (Ok.call (Ok.iso g__law_due) (hr.mono (by omega)) (pas_of (takes_of rfl rfl rfl rfl)) (pda_cons (pd_var 4) (pda_cons (pd_var 7) (pda_cons (pd_var 5) pda_nil)))) pda_nil)))))
    (pds_one (pd_ret pd_bl))
    pds_nil)
  (pds_cons (pd_if (pd_tnot (pd_tb (Ok.call (Ok.iso g__law_same) (hr.mono (by omega)) (pas_of (takes_of rfl rfl rfl rfl)) (pda_cons (Ok.call (Ok.iso g__law_asked_by) (hr.mono (by omega)) (pas_of (takes_of rfl rfl rfl rfl)) (pda_cons (pd_var 2) (pda_cons (pd_var 5) pda_nil))) (pda_cons (Ok.call (Ok.iso g__law_due) (hr.mono (by omega)) (pas_of (takes_of rfl rfl rfl rfl)) (pda_cons (pd_var 2) (pda_cons (pd_var 6) (pda_cons (pd_var 5) pda_nil)))) pda_nil)))))
    (pds_one (pd_ret pd_bl))
    pds_nil)
  (pds_cons (pd_if (pd_tnot (pd_tb (Ok.call (Ok.iso g__law_same) (hr.mono (by omega)) (pas_of (takes_of rfl rfl rfl rfl)) (pda_cons (Ok.call (Ok.iso g__law_asked_by) (hr.mono (by omega)) (pas_of (takes_of rfl rfl rfl rfl)) (pda_cons (pd_var 4) (pda_cons (pd_var 2) pda_nil))) (pda_cons (Ok.call (Ok.iso g__law_due) (hr.mono (by omega)) (pas_of (takes_of rfl rfl rfl rfl)) (pda_cons (pd_var 4) (pda_cons (pd_var 7) (pda_cons (pd_var 2) pda_nil)))) pda_nil)))))
    (pds_one (pd_ret pd_bl))
    pds_nil)
  (pds_cons (pd_if (pd_tnot (pd_tb (Ok.call (Ok.iso g__law_size_holds) (hr.mono (by omega)) (pas_of (takes_of rfl rfl rfl rfl)) (pda_cons (pd_var 3) (pda_cons (Ok.call (Ok.iso g__law_by_fields) (hr.mono (by omega)) (pas_of (takes_of rfl rfl rfl rfl)) (pda_cons (pd_var 3) pda_nil)) pda_nil)))))
    (pds_one (pd_ret pd_bl))
    pds_nil)
  (pds_one (pd_ret (Ok.call (Ok.iso g__law_same) (hr.mono (by omega)) (pas_of (takes_of rfl rfl rfl rfl)) (pda_cons (Ok.call (Ok.iso g__law_asked) (hr.mono (by omega)) (pas_of (takes_of rfl rfl rfl rfl)) (pda_cons (pd_var 2) pda_nil)) (pda_cons (pd_tup (pda_cons pd_str (pda_cons (pd_callB (c_sum rfl) rfl T.b_sum (by decide +kernel) (pda_cons (pd_var 6) pda_nil)) pda_nil))) pda_nil)))))))))))))))))))

open He
def nm : Nat → Str
  | 0 => "HedgeError"
  | 1 => "BadName"
  | 2 => "RepeatedName"
  | 3 => "UnknownLot"
  | 4 => "SameLot"
  | 5 => "BadSize"
  | 6 => "BadParting"
  | 7 => "EndsDiffer"
  | 8 => "OtherPond"
  | 9 => "NoRun"
  | 10 => "EmptyBook"
  | 11 => "Crossing"
  | 12 => "AtStrife"
  | 13 => "NoStrife"
  | 14 => "SameField"
  | 15 => "NotWithin"
  | 16 => "CrossedField"
  | 17 => "StepRefused"
  | 18 => "OrderRefused"
  | 19 => "Stuck"
  | 20 => "OutOfRange"
  | 21 => "TooMany"
  | 22 => "BadText"
  | 23 => "BadSplit"
  | 24 => "BadRow"
  | 25 => "Ungranted"
  | _ => ""
def fa : List Fa := [.free "ValueError", .free "bool", .free "int", .free "isinstance", .free "len", .free "list", .free "range", .free "str", .free "sum", .free "tuple", .free "super", .glo "choose", .glo "count_with_fields", .glo "count_worlds", .glo "_law_store", .glo "_law_mixed", .glo "_law_take", .glo "_law_number", .glo "_law_whole", .glo "_law_place", .glo "_law_same", .glo "_law_vast", .glo "_law_by_fields", .glo "_law_refusal", .glo "_law_asked", .glo "_law_asked_by", .glo "_law_due", .glo "_law_size_holds", .glo "law", .glo "HedgeError", .glo "BadName", .glo "RepeatedName", .glo "UnknownLot", .glo "SameLot", .glo "BadSize", .glo "BadParting", .glo "EndsDiffer", .glo "OtherPond", .glo "NoRun", .glo "EmptyBook", .glo "Crossing", .glo "AtStrife", .glo "NoStrife", .glo "SameField", .glo "NotWithin", .glo "CrossedField", .glo "StepRefused", .glo "OrderRefused", .glo "Stuck", .glo "OutOfRange", .glo "TooMany", .glo "BadText", .glo "BadSplit", .glo "BadRow", .glo "Ungranted"]
def fn : List DefD := [⟨("choose", none), "choose", "choose", defArgs (top 28), defBody (top 28), defScope (top 28), [], []⟩, ⟨("count_with_fields", none), "count_with_fields", "count_with_fields", defArgs (top 29), defBody (top 29), defScope (top 29), [], []⟩, ⟨("count_worlds", none), "count_worlds", "count_worlds", defArgs (top 30), defBody (top 30), defScope (top 30), [], [("fields", .non)]⟩, ⟨("_law_store", none), "_law_store", "_law_store", defArgs (top 32), defBody (top 32), defScope (top 32), [], []⟩, ⟨("_law_mixed", none), "_law_mixed", "_law_mixed", defArgs (top 33), defBody (top 33), defScope (top 33), [], []⟩, ⟨("_law_take", none), "_law_take", "_law_take", defArgs (top 34), defBody (top 34), defScope (top 34), [], []⟩, ⟨("_law_number", none), "_law_number", "_law_number", defArgs (top 35), defBody (top 35), defScope (top 35), [], []⟩, ⟨("_law_whole", none), "_law_whole", "_law_whole", defArgs (top 36), defBody (top 36), defScope (top 36), [], []⟩, ⟨("_law_place", none), "_law_place", "_law_place", defArgs (top 37), defBody (top 37), defScope (top 37), [], []⟩, ⟨("_law_same", none), "_law_same", "_law_same", defArgs (top 38), defBody (top 38), defScope (top 38), [], []⟩, ⟨("_law_vast", none), "_law_vast", "_law_vast", defArgs (top 39), defBody (top 39), defScope (top 39), [], []⟩, ⟨("_law_by_fields", none), "_law_by_fields", "_law_by_fields", defArgs (top 40), defBody (top 40), defScope (top 40), [], []⟩, ⟨("_law_refusal", none), "_law_refusal", "_law_refusal", defArgs (top 41), defBody (top 41), defScope (top 41), [], []⟩, ⟨("_law_asked", none), "_law_asked", "_law_asked", defArgs (top 42), defBody (top 42), defScope (top 42), [], []⟩, ⟨("_law_asked_by", none), "_law_asked_by", "_law_asked_by", defArgs (top 43), defBody (top 43), defScope (top 43), [], []⟩, ⟨("_law_due", none), "_law_due", "_law_due", defArgs (top 44), defBody (top 44), defScope (top 44), [], []⟩, ⟨("_law_size_holds", none), "_law_size_holds", "_law_size_holds", defArgs (top 45), defBody (top 45), defScope (top 45), [], []⟩, ⟨("law", none), "law", "law", defArgs (top 46), defBody (top 46), defScope (top 46), [], []⟩]
abbrev i_OutOfRange : Stmt := iniOf (top 21)
def xd_OutOfRange : XD := ⟨"OutOfRange", "OutOfRange.__init__", defArgs i_OutOfRange, defBody i_OutOfRange, defScope i_OutOfRange, ["self", "value", "limit"], [("value", "value"), ("limit", "limit")]⟩
theorem xs_OutOfRange : XDS xd_OutOfRange := ⟨.mk (fun _ => ⟨_, rfl⟩) (.cons (.cons .nil)), fun _ _ _ _ _ _ us hl => match us, hl with | [_, _, _], _ => rfl, ⟨_, rfl, rfl⟩, by decide +kernel⟩
def xs : List XD := [xd_OutOfRange]
def bs : List (PySem.W.Frag → Bool) := [opB, (fun K => isB_ K nm (fun K => .ref (ga K "OutOfRange")) [(20, true)]), (fun K => isB_ K nm (fun _ => .type "ValueError") [(20, true)]), (fun K => isB_ K nm (fun K => .ref (ga K "UnknownLot")) [(20, false)]), (fun K => isB_ K nm (fun K => .ref (ga K "Ungranted")) [(20, false)]), (fun K => isB_ K nm (fun K => .ref (ga K "TooMany")) [(20, false)]), (fun K => isB_ K nm (fun K => .ref (ga K "Stuck")) [(20, false)]), (fun K => isB_ K nm (fun K => .ref (ga K "StepRefused")) [(20, false)]), (fun K => isB_ K nm (fun K => .ref (ga K "SameLot")) [(20, false)]), (fun K => isB_ K nm (fun K => .ref (ga K "SameField")) [(20, false)]), (fun K => isB_ K nm (fun K => .ref (ga K "RepeatedName")) [(20, false)]), (fun K => isB_ K nm (fun K => .ref (ga K "OtherPond")) [(20, false)]), (fun K => isB_ K nm (fun K => .ref (ga K "OrderRefused")) [(20, false)]), (fun K => isB_ K nm (fun K => .ref (ga K "NotWithin")) [(20, false)]), (fun K => isB_ K nm (fun K => .ref (ga K "NoStrife")) [(20, false)]), (fun K => isB_ K nm (fun K => .ref (ga K "NoRun")) [(20, false)]), (fun K => isB_ K nm (fun K => .ref (ga K "EndsDiffer")) [(20, false)]), (fun K => isB_ K nm (fun K => .ref (ga K "EmptyBook")) [(20, false)]), (fun K => isB_ K nm (fun K => .ref (ga K "Crossing")) [(20, false)]), (fun K => isB_ K nm (fun K => .ref (ga K "CrossedField")) [(20, false)]), (fun K => isB_ K nm (fun K => .ref (ga K "BadText")) [(20, false)]), (fun K => isB_ K nm (fun K => .ref (ga K "BadSplit")) [(20, false)]), (fun K => isB_ K nm (fun K => .ref (ga K "BadSize")) [(20, false)]), (fun K => isB_ K nm (fun K => .ref (ga K "BadRow")) [(20, false)]), (fun K => isB_ K nm (fun K => .ref (ga K "BadParting")) [(20, false)]), (fun K => isB_ K nm (fun K => .ref (ga K "BadName")) [(20, false)]), (fun K => isB_ K nm (fun K => .ref (ga K "AtStrife")) [(20, false)]), (fun K => emB K nm "HedgeError" [(20, true)]), (fun K => xlB K nm fl [20])]
abbrev R : PySem.W.OpenRow := (PySem.W.OpenLaw.row PySem.Challenge.rw_hedgejoin_k38_worlds_by_fields)
abbrev file : Str := R.prog.main.file
abbrev hk : PySem.W.Hook := hookX file 4 fa fn xs bs
def ob (s : PySem.W.SharedT) : AlX := obsXG file 4 fa fn xs bs (HandSHeadRun.getT s)
theorem ob_eq (s : PySem.W.SharedT) : ob s = hk.obs s.abs := obsXG_eq (HandSHeadRun.getT_eq s)
def lo0 : List Str := ["HedgeError", "BadName", "RepeatedName", "UnknownLot", "SameLot", "BadSize", "BadParting", "EndsDiffer", "OtherPond", "NoRun", "EmptyBook", "Crossing", "AtStrife", "NoStrife", "SameField", "NotWithin", "CrossedField", "StepRefused", "OrderRefused", "Stuck", "OutOfRange", "TooMany", "BadText", "BadSplit", "BadRow", "Ungranted", "choose", "count_with_fields", "count_worlds", "_law_store"]
def lo1 : List Str := ["_law_mixed", "_law_take", "_law_number", "_law_whole", "_law_place", "_law_same", "_law_vast", "_law_by_fields", "_law_refusal", "_law_asked", "_law_asked_by", "_law_due", "_law_size_holds"]
def loose : List Str := lo0 ++ lo1
theorem run (w : World) : HandSHeadRun.RunEq R (PySem.W.view R.prog [46]) hk ob 9000 loose w := by
  intro os
  kernel_rfl
theorem fx {K : PySem.W.Frag} {h : Heap} {mg : Str → Option Value} (X : K.In h) (G : h.Ns mainGlobals mg) (c : obsX file fa fn xs bs K = valX fn xs) : Fx R.prog K (fun c => ga K (nm c)) mg := by
  have cD := saysX_D c
  have op := He.eqO_ok (saysX_b c 0 (b := opB) rfl)
  exact {
    b_ValueError := free_ok X G (cD.fact 0 (f := .free "ValueError") rfl),
    b_bool := free_ok X G (cD.fact 1 (f := .free "bool") rfl),
    b_int := free_ok X G (cD.fact 2 (f := .free "int") rfl),
    b_isinstance := free_ok X G (cD.fact 3 (f := .free "isinstance") rfl),
    b_len := free_ok X G (cD.fact 4 (f := .free "len") rfl),
    b_list := free_ok X G (cD.fact 5 (f := .free "list") rfl),
    b_range := free_ok X G (cD.fact 6 (f := .free "range") rfl),
    b_str := free_ok X G (cD.fact 7 (f := .free "str") rfl),
    b_sum := free_ok X G (cD.fact 8 (f := .free "sum") rfl),
    b_tuple := free_ok X G (cD.fact 9 (f := .free "tuple") rfl),
    d_choose := by
      obtain ⟨fd, F⟩ := cD.def_ 0 rfl
      exact ⟨_, fd, glo_ok X G (cD.fact 11 (f := .glo "choose") rfl), F⟩,
    d_count_with_fields := by
      obtain ⟨fd, F⟩ := cD.def_ 1 rfl
      exact ⟨_, fd, glo_ok X G (cD.fact 12 (f := .glo "count_with_fields") rfl), F⟩,
    d_count_worlds := by
      obtain ⟨fd, F⟩ := cD.def_ 2 rfl
      exact ⟨_, fd, glo_ok X G (cD.fact 13 (f := .glo "count_worlds") rfl), F⟩,
    d__law_store := by
      obtain ⟨fd, F⟩ := cD.def_ 3 rfl
      exact ⟨_, fd, glo_ok X G (cD.fact 14 (f := .glo "_law_store") rfl), F⟩,
    d__law_mixed := by
      obtain ⟨fd, F⟩ := cD.def_ 4 rfl
      exact ⟨_, fd, glo_ok X G (cD.fact 15 (f := .glo "_law_mixed") rfl), F⟩,
    d__law_take := by
      obtain ⟨fd, F⟩ := cD.def_ 5 rfl
      exact ⟨_, fd, glo_ok X G (cD.fact 16 (f := .glo "_law_take") rfl), F⟩,
    d__law_number := by
      obtain ⟨fd, F⟩ := cD.def_ 6 rfl
      exact ⟨_, fd, glo_ok X G (cD.fact 17 (f := .glo "_law_number") rfl), F⟩,
    d__law_whole := by
      obtain ⟨fd, F⟩ := cD.def_ 7 rfl
      exact ⟨_, fd, glo_ok X G (cD.fact 18 (f := .glo "_law_whole") rfl), F⟩,
    d__law_place := by
      obtain ⟨fd, F⟩ := cD.def_ 8 rfl
      exact ⟨_, fd, glo_ok X G (cD.fact 19 (f := .glo "_law_place") rfl), F⟩,
    d__law_same := by
      obtain ⟨fd, F⟩ := cD.def_ 9 rfl
      exact ⟨_, fd, glo_ok X G (cD.fact 20 (f := .glo "_law_same") rfl), F⟩,
    d__law_vast := by
      obtain ⟨fd, F⟩ := cD.def_ 10 rfl
      exact ⟨_, fd, glo_ok X G (cD.fact 21 (f := .glo "_law_vast") rfl), F⟩,
    d__law_by_fields := by
      obtain ⟨fd, F⟩ := cD.def_ 11 rfl
      exact ⟨_, fd, glo_ok X G (cD.fact 22 (f := .glo "_law_by_fields") rfl), F⟩,
    d__law_refusal := by
      obtain ⟨fd, F⟩ := cD.def_ 12 rfl
      exact ⟨_, fd, glo_ok X G (cD.fact 23 (f := .glo "_law_refusal") rfl), F⟩,
    d__law_asked := by
      obtain ⟨fd, F⟩ := cD.def_ 13 rfl
      exact ⟨_, fd, glo_ok X G (cD.fact 24 (f := .glo "_law_asked") rfl), F⟩,
    d__law_asked_by := by
      obtain ⟨fd, F⟩ := cD.def_ 14 rfl
      exact ⟨_, fd, glo_ok X G (cD.fact 25 (f := .glo "_law_asked_by") rfl), F⟩,
    d__law_due := by
      obtain ⟨fd, F⟩ := cD.def_ 15 rfl
      exact ⟨_, fd, glo_ok X G (cD.fact 26 (f := .glo "_law_due") rfl), F⟩,
    d__law_size_holds := by
      obtain ⟨fd, F⟩ := cD.def_ 16 rfl
      exact ⟨_, fd, glo_ok X G (cD.fact 27 (f := .glo "_law_size_holds") rfl), F⟩,
    d_law := by
      obtain ⟨fd, F⟩ := cD.def_ 17 rfl
      exact ⟨_, fd, glo_ok X G (cD.fact 28 (f := .glo "law") rfl), F⟩,
    g_HedgeError := glo_ok X G (cD.fact 29 (f := .glo "HedgeError") rfl),
    g_BadName := glo_ok X G (cD.fact 30 (f := .glo "BadName") rfl),
    g_RepeatedName := glo_ok X G (cD.fact 31 (f := .glo "RepeatedName") rfl),
    g_UnknownLot := glo_ok X G (cD.fact 32 (f := .glo "UnknownLot") rfl),
    g_SameLot := glo_ok X G (cD.fact 33 (f := .glo "SameLot") rfl),
    g_BadSize := glo_ok X G (cD.fact 34 (f := .glo "BadSize") rfl),
    g_BadParting := glo_ok X G (cD.fact 35 (f := .glo "BadParting") rfl),
    g_EndsDiffer := glo_ok X G (cD.fact 36 (f := .glo "EndsDiffer") rfl),
    g_OtherPond := glo_ok X G (cD.fact 37 (f := .glo "OtherPond") rfl),
    g_NoRun := glo_ok X G (cD.fact 38 (f := .glo "NoRun") rfl),
    g_EmptyBook := glo_ok X G (cD.fact 39 (f := .glo "EmptyBook") rfl),
    g_Crossing := glo_ok X G (cD.fact 40 (f := .glo "Crossing") rfl),
    g_AtStrife := glo_ok X G (cD.fact 41 (f := .glo "AtStrife") rfl),
    g_NoStrife := glo_ok X G (cD.fact 42 (f := .glo "NoStrife") rfl),
    g_SameField := glo_ok X G (cD.fact 43 (f := .glo "SameField") rfl),
    g_NotWithin := glo_ok X G (cD.fact 44 (f := .glo "NotWithin") rfl),
    g_CrossedField := glo_ok X G (cD.fact 45 (f := .glo "CrossedField") rfl),
    g_StepRefused := glo_ok X G (cD.fact 46 (f := .glo "StepRefused") rfl),
    g_OrderRefused := glo_ok X G (cD.fact 47 (f := .glo "OrderRefused") rfl),
    g_Stuck := glo_ok X G (cD.fact 48 (f := .glo "Stuck") rfl),
    g_OutOfRange := glo_ok X G (cD.fact 49 (f := .glo "OutOfRange") rfl),
    g_TooMany := glo_ok X G (cD.fact 50 (f := .glo "TooMany") rfl),
    g_BadText := glo_ok X G (cD.fact 51 (f := .glo "BadText") rfl),
    g_BadSplit := glo_ok X G (cD.fact 52 (f := .glo "BadSplit") rfl),
    g_BadRow := glo_ok X G (cD.fact 53 (f := .glo "BadRow") rfl),
    g_Ungranted := glo_ok X G (cD.fact 54 (f := .glo "Ungranted") rfl),
    x_OutOfRange := by
      obtain ⟨e1, e2⟩ := saysX_x c 0 (d := xd_OutOfRange) rfl
      exact ⟨["value", "limit"], [("value", "value"), ("limit", "limit")], xtxt_of (d := xd_OutOfRange) X G xs_OutOfRange e1 e2 (free_ok X G (cD.fact 10 (f := .free "super") rfl)) op (by decide +kernel), rfl, rfl, rfl, by decide, by decide⟩,
    is_OutOfRange := isB_ok (t := fun K => .ref (ga K "OutOfRange")) (saysX_b c 1 (b := fun K => isB_ K nm (fun K => .ref (ga K "OutOfRange")) [(20, true)]) rfl),
    is_ValueError := isB_ok (t := fun _ => .type "ValueError") (saysX_b c 2 (b := fun K => isB_ K nm (fun _ => .type "ValueError") [(20, true)]) rfl),
    is_UnknownLot := isB_ok (t := fun K => .ref (ga K "UnknownLot")) (saysX_b c 3 (b := fun K => isB_ K nm (fun K => .ref (ga K "UnknownLot")) [(20, false)]) rfl),
    is_Ungranted := isB_ok (t := fun K => .ref (ga K "Ungranted")) (saysX_b c 4 (b := fun K => isB_ K nm (fun K => .ref (ga K "Ungranted")) [(20, false)]) rfl),
    is_TooMany := isB_ok (t := fun K => .ref (ga K "TooMany")) (saysX_b c 5 (b := fun K => isB_ K nm (fun K => .ref (ga K "TooMany")) [(20, false)]) rfl),
    is_Stuck := isB_ok (t := fun K => .ref (ga K "Stuck")) (saysX_b c 6 (b := fun K => isB_ K nm (fun K => .ref (ga K "Stuck")) [(20, false)]) rfl),
    is_StepRefused := isB_ok (t := fun K => .ref (ga K "StepRefused")) (saysX_b c 7 (b := fun K => isB_ K nm (fun K => .ref (ga K "StepRefused")) [(20, false)]) rfl),
    is_SameLot := isB_ok (t := fun K => .ref (ga K "SameLot")) (saysX_b c 8 (b := fun K => isB_ K nm (fun K => .ref (ga K "SameLot")) [(20, false)]) rfl),
    is_SameField := isB_ok (t := fun K => .ref (ga K "SameField")) (saysX_b c 9 (b := fun K => isB_ K nm (fun K => .ref (ga K "SameField")) [(20, false)]) rfl),
    is_RepeatedName := isB_ok (t := fun K => .ref (ga K "RepeatedName")) (saysX_b c 10 (b := fun K => isB_ K nm (fun K => .ref (ga K "RepeatedName")) [(20, false)]) rfl),
    is_OtherPond := isB_ok (t := fun K => .ref (ga K "OtherPond")) (saysX_b c 11 (b := fun K => isB_ K nm (fun K => .ref (ga K "OtherPond")) [(20, false)]) rfl),
    is_OrderRefused := isB_ok (t := fun K => .ref (ga K "OrderRefused")) (saysX_b c 12 (b := fun K => isB_ K nm (fun K => .ref (ga K "OrderRefused")) [(20, false)]) rfl),
    is_NotWithin := isB_ok (t := fun K => .ref (ga K "NotWithin")) (saysX_b c 13 (b := fun K => isB_ K nm (fun K => .ref (ga K "NotWithin")) [(20, false)]) rfl),
    is_NoStrife := isB_ok (t := fun K => .ref (ga K "NoStrife")) (saysX_b c 14 (b := fun K => isB_ K nm (fun K => .ref (ga K "NoStrife")) [(20, false)]) rfl),
    is_NoRun := isB_ok (t := fun K => .ref (ga K "NoRun")) (saysX_b c 15 (b := fun K => isB_ K nm (fun K => .ref (ga K "NoRun")) [(20, false)]) rfl),
    is_EndsDiffer := isB_ok (t := fun K => .ref (ga K "EndsDiffer")) (saysX_b c 16 (b := fun K => isB_ K nm (fun K => .ref (ga K "EndsDiffer")) [(20, false)]) rfl),
    is_EmptyBook := isB_ok (t := fun K => .ref (ga K "EmptyBook")) (saysX_b c 17 (b := fun K => isB_ K nm (fun K => .ref (ga K "EmptyBook")) [(20, false)]) rfl),
    is_Crossing := isB_ok (t := fun K => .ref (ga K "Crossing")) (saysX_b c 18 (b := fun K => isB_ K nm (fun K => .ref (ga K "Crossing")) [(20, false)]) rfl),
    is_CrossedField := isB_ok (t := fun K => .ref (ga K "CrossedField")) (saysX_b c 19 (b := fun K => isB_ K nm (fun K => .ref (ga K "CrossedField")) [(20, false)]) rfl),
    is_BadText := isB_ok (t := fun K => .ref (ga K "BadText")) (saysX_b c 20 (b := fun K => isB_ K nm (fun K => .ref (ga K "BadText")) [(20, false)]) rfl),
    is_BadSplit := isB_ok (t := fun K => .ref (ga K "BadSplit")) (saysX_b c 21 (b := fun K => isB_ K nm (fun K => .ref (ga K "BadSplit")) [(20, false)]) rfl),
    is_BadSize := isB_ok (t := fun K => .ref (ga K "BadSize")) (saysX_b c 22 (b := fun K => isB_ K nm (fun K => .ref (ga K "BadSize")) [(20, false)]) rfl),
    is_BadRow := isB_ok (t := fun K => .ref (ga K "BadRow")) (saysX_b c 23 (b := fun K => isB_ K nm (fun K => .ref (ga K "BadRow")) [(20, false)]) rfl),
    is_BadParting := isB_ok (t := fun K => .ref (ga K "BadParting")) (saysX_b c 24 (b := fun K => isB_ K nm (fun K => .ref (ga K "BadParting")) [(20, false)]) rfl),
    is_BadName := isB_ok (t := fun K => .ref (ga K "BadName")) (saysX_b c 25 (b := fun K => isB_ K nm (fun K => .ref (ga K "BadName")) [(20, false)]) rfl),
    is_AtStrife := isB_ok (t := fun K => .ref (ga K "AtStrife")) (saysX_b c 26 (b := fun K => isB_ K nm (fun K => .ref (ga K "AtStrife")) [(20, false)]) rfl),
    m_HedgeError := emB_ok (saysX_b c 27 (b := fun K => emB K nm "HedgeError" [(20, true)]) rfl),
    l_ := xlB_ok (saysX_b c 28 (b := fun K => xlB K nm fl [20]) rfl) }
theorem holds_of (hφ : ∀ ns : List Int, ns.length ≤ 63 → ∃ m, φ_law [.scr ns] [] = .ok (.bl true) m) : PySem.Challenge.rw_hedgejoin_k38_worlds_by_fields.Holds := by
  w_on; o_law
  refine HandSHeadRun.head_any (r := PySem.W.OpenLaw.row PySem.Challenge.rw_hedgejoin_k38_worlds_by_fields) (q := PySem.W.view (PySem.W.OpenLaw.row PySem.Challenge.rw_hedgejoin_k38_worlds_by_fields).prog [46]) (H := hk) (ob := ob) (M := 9000) (loose := loose) (d := HandSHeadRun.topDef (PySem.W.OpenLaw.row PySem.Challenge.rw_hedgejoin_k38_worlds_by_fields).prog 46) (kwd := []) ob_eq
    (by kernel_rfl) (fun s => by kernel_rfl) run (by kernel_rfl) (by kernel_rfl) (by kernel_rfl) (by rfl) (by first | assumption | decide +kernel) (by decide +kernel) ⟨rfl, rfl, rfl, rfl, rfl, by decide +kernel⟩ ?hw ?hc
  case hw => w_witness2
  case hc =>
    refine walk_law (l := PySem.Challenge.rw_hedgejoin_k38_worlds_by_fields) (k := 13) (x := "_law_script") rfl (by kernel_rfl) ⟨rfl, by decide, by decide⟩ (fun w mg h Y G => ?_) hφ
    obtain ⟨K, KX, c⟩ := Y
    have T := fx KX G c
    have e : (HandSHeadRun.topDef (PySem.W.OpenLaw.row PySem.Challenge.rw_hedgejoin_k38_worlds_by_fields).prog 46).name = ("law" : Str) := by kernel_rfl
    rw [e]
    exact ⟨K, ct _, "law", _, _, _, KX, T.d_law, fun _ _ _ _ _ _ _ => rfl, fun base _ _ => ok_law T⟩
end K38


set_option maxRecDepth 100000
set_option maxHeartbeats 2000000
namespace K38
open PySem PySem.Spec PyProof.Rows L2 Dl
theorem mixed (c t s : Int) (m : Mem) : ∃ v, φ__law_mixed [.int c, .int t, .int s] m = .ok (.int v) m := by
  suffices h : Tc (φ__law_mixed [.int c, .int t, .int s] m) (fun d m' => ∃ v, d = .int v ∧ m' = m) fun _ _ => False by
    obtain ⟨d, m', e, v, rfl, rfl⟩ := of_tc h
    exact ⟨v, e⟩
  rw [φ__law_mixed]; refine (T_fn rfl).mpr ?_; rw [m__law_mixed]
  (simp (maxSteps := 1000000) (disch := first | omega | (simp only [List.length_append, List.length_set, List.length_cons, List.length_nil, List.length_map]; omega)) only [↓T_ret, ↓T_C, ↓T_var, ↓T_m1, ↓T_m2, ↓T_mn, ↓T_nil, ↓T_cons, ↓L_tb, ↓L_if, ↓L_and, ↓L_or, ↓T_not, ↓L_andV, ↓L_orV, ↓L_notV, ↓T_mt, ↓T_nx, ↓sq_nx, ↓sq_rt, ↓sq_bk, ↓sq_ct, ↓iq_t, ↓iq_f, ↓iq_dt, ↓iq_df, ↓iq_nt, ↓iq_nf, iq_d, iq_n, ↓tq_bl, ↓iqi_i, ↓Bool.not_true, ↓Bool.not_false, ↓i_ib, ↓i_ii, ↓i_is, ↓i_il, ↓i_it, ↓i_sb, ↓i_si, ↓i_ss, ↓i_sl, ↓i_st, ↓i_tb, ↓i_ti, ↓i_ts, ↓i_tl, ↓i_tt, ↓n_i, ↓n_s, ↓n_t, ↓n_p, ↓n_n, ↓T_bk, ↓T_ct, ↓T_rtN, ↓L_seq, ↓T_ex, ↓T_rt, ↓T_set, List.getElem?_concat_length, get_app, ↓T_sub, ↓T_part0, ↓T_part1, ↓T_sl, ↓T_for, ↓T_rng1, ↓T_wk, ↓q_slp, ↓q_sll, ↓q_slt, ↓q_revp, ↓q_revl, ↓q_addpp, ↓q_listp, ↓q_listl, ↓q_listt, ↓q_lists, ↓q_tuplep, ↓q_tuplel, ↓q_tuplet, ↓q_app, ↓q_notN, ↓T_frz, ↓T_call, ↓T_callK, ↓T_raise, ↓T_asg, ↓q_add, ↓q_sub, ↓q_neg, ↓q_lt, ↓q_le, ↓q_gt, ↓q_ge, ↓q_eq, ↓q_ne, ↓q_int, ↓q_intb, ↓q_mod, ↓q_ixp, ↓q_ixl, ↓q_ixt, ↓q_lenl, ↓q_lent, ↓q_lenp, ↓q_setL, ↓q_lst, ↓q_tup, ↓q_pow10, at0, at1, at2, at3, at4, Cell.lst.injEq, ↓q_mulr, ↓q_mull, ↓q_divn, ↓Tc_ok, ↓Tc_exc, ↓fi_int, ↓fi_bl, ↓fi_non, List.getElem?_cons_zero, List.getElem?_cons_succ, List.set_cons_zero, List.set_cons_succ, List.map_cons, List.map_nil, List.length_cons, List.length_nil, List.replicate, List.cons_append, List.nil_append, List.append_nil, Option.some.injEq, D.bl.injEq, D.int.injEq, ↓exists_eq_left, ↓exists_eq_left', exists_eq', ne_eq, reduceCtorEq, not_true_eq_false, not_false_eq_true, false_implies, true_implies, implies_true, forall_const, and_true, true_and, forall_eq, forall_eq', decide_eq_true_eq, decide_eq_false_iff_not, Nat.reduceAdd, Nat.reduceSub, Nat.zero_add, ↓i_lb, ↓i_li, ↓i_ls, ↓i_ll, ↓i_lt, ↓i_bb, ↓i_bi, ↓i_nb, ↓i_ni, ↓n_l, ↓n_b, ↓q_eqb, ↓q_eqs, List.cons.injEq, D.str.injEq, D.tup.injEq, D.lst.injEq])
theorem take_lt (many : Int) (h : many < 2) (m : Mem) : φ__law_take [.ptr 0, .int many] m = .ok (.int 0) m := by
  refine ok_of ?_
  rw [φ__law_take]; refine (T_fn rfl).mpr ?_; rw [m__law_take]
  (simp (maxSteps := 1000000) (disch := first | omega | (simp only [List.length_append, List.length_set, List.length_cons, List.length_nil, List.length_map]; omega)) only [↓T_ret, ↓T_C, ↓T_var, ↓T_m1, ↓T_m2, ↓T_mn, ↓T_nil, ↓T_cons, ↓L_tb, ↓L_if, ↓L_and, ↓L_or, ↓T_not, ↓L_andV, ↓L_orV, ↓L_notV, ↓T_mt, ↓T_nx, ↓sq_nx, ↓sq_rt, ↓sq_bk, ↓sq_ct, ↓iq_t, ↓iq_f, ↓iq_dt, ↓iq_df, ↓iq_nt, ↓iq_nf, iq_d, iq_n, ↓tq_bl, ↓iqi_i, ↓Bool.not_true, ↓Bool.not_false, ↓i_ib, ↓i_ii, ↓i_is, ↓i_il, ↓i_it, ↓i_sb, ↓i_si, ↓i_ss, ↓i_sl, ↓i_st, ↓i_tb, ↓i_ti, ↓i_ts, ↓i_tl, ↓i_tt, ↓n_i, ↓n_s, ↓n_t, ↓n_p, ↓n_n, ↓T_bk, ↓T_ct, ↓T_rtN, ↓L_seq, ↓T_ex, ↓T_rt, ↓T_set, List.getElem?_concat_length, get_app, ↓T_sub, ↓T_part0, ↓T_part1, ↓T_sl, ↓T_for, ↓T_rng1, ↓T_wk, ↓q_slp, ↓q_sll, ↓q_slt, ↓q_revp, ↓q_revl, ↓q_addpp, ↓q_listp, ↓q_listl, ↓q_listt, ↓q_lists, ↓q_tuplep, ↓q_tuplel, ↓q_tuplet, ↓q_app, ↓q_notN, ↓T_frz, ↓T_call, ↓T_callK, ↓T_raise, ↓T_asg, ↓q_add, ↓q_sub, ↓q_neg, ↓q_lt, ↓q_le, ↓q_gt, ↓q_ge, ↓q_eq, ↓q_ne, ↓q_int, ↓q_intb, ↓q_mod, ↓q_ixp, ↓q_ixl, ↓q_ixt, ↓q_lenl, ↓q_lent, ↓q_lenp, ↓q_setL, ↓q_lst, ↓q_tup, ↓q_pow10, at0, at1, at2, at3, at4, Cell.lst.injEq, ↓q_mulr, ↓q_mull, ↓q_divn, ↓Tc_ok, ↓Tc_exc, ↓fi_int, ↓fi_bl, ↓fi_non, List.getElem?_cons_zero, List.getElem?_cons_succ, List.set_cons_zero, List.set_cons_succ, List.map_cons, List.map_nil, List.length_cons, List.length_nil, List.replicate, List.cons_append, List.nil_append, List.append_nil, Option.some.injEq, D.bl.injEq, D.int.injEq, ↓exists_eq_left, ↓exists_eq_left', exists_eq', ne_eq, reduceCtorEq, not_true_eq_false, not_false_eq_true, false_implies, true_implies, implies_true, forall_const, and_true, true_and, forall_eq, forall_eq', decide_eq_true_eq, decide_eq_false_iff_not, Nat.reduceAdd, Nat.reduceSub, Nat.zero_add, ↓i_lb, ↓i_li, ↓i_ls, ↓i_ll, ↓i_lt, ↓i_bb, ↓i_bi, ↓i_nb, ↓i_ni, ↓n_l, ↓n_b, ↓q_eqb, ↓q_eqs, List.cons.injEq, D.str.injEq, D.tup.injEq, D.lst.injEq, h])
theorem take_ge (many : Int) (h : ¬ many < 2) (hb : many < 10000000000000000000000000000000000000000000000000000000000000000000000) (l : List Int) (i c n sd : Int) (hi : 0 ≤ i) (hc : 0 ≤ c) :
    Tc (φ__law_take [.ptr 0, .int many] [SC l i c n sd]) (fun d m' => ∃ r i' c' n', d = .int r ∧ 0 ≤ r ∧ r < many ∧ 0 ≤ i' ∧ 0 ≤ c' ∧ m' = [SC l i' c' n' sd]) fun _ _ => False := by
  rw [φ__law_take]; refine (T_fn rfl).mpr ?_; rw [m__law_take]
  have m1 : ∀ z : Int, 0 ≤ z % many := fun z => Int.emod_nonneg _ (by omega)
  have m2 : ∀ z : Int, z % many < many := fun z => Int.emod_lt_of_pos _ (by omega)
  have m3 : ∀ z : Int, 0 ≤ z → 0 ≤ z / many := fun z hz => Int.ediv_nonneg hz (by omega)
  have fs : ∀ (v : Int) (i' c' n' : Int), fin [SC l i c n sd] (.int v) [.lst [.lst (l.map .int), .int i', .int c', .int n', .int sd]] = (.int v, [SC l i' c' n' sd]) := fun v i' c' n' => fin_set_int (m := [SC l i c n sd]) (p := 0)
  by_cases hc0 : c = 0
  · subst hc0
    by_cases hl : i < l.length
    · obtain ⟨z, hz, _⟩ := at_map (f := D.int) hi hl
      by_cases h18 : z < 1000000000000000000
      · obtain ⟨v, hv⟩ := mixed z (n + 1) sd [.lst [.lst (l.map .int), .int (i + 1), .int 0, .int (n + 1), .int sd]]
        (simp (maxSteps := 1000000) (disch := first | omega | (simp only [List.length_append, List.length_set, List.length_cons, List.length_nil, List.length_map]; omega)) only [↓T_ret, ↓T_C, ↓T_var, ↓T_m1, ↓T_m2, ↓T_mn, ↓T_nil, ↓T_cons, ↓L_tb, ↓L_if, ↓L_and, ↓L_or, ↓T_not, ↓L_andV, ↓L_orV, ↓L_notV, ↓T_mt, ↓T_nx, ↓sq_nx, ↓sq_rt, ↓sq_bk, ↓sq_ct, ↓iq_t, ↓iq_f, ↓iq_dt, ↓iq_df, ↓iq_nt, ↓iq_nf, iq_d, iq_n, ↓tq_bl, ↓iqi_i, ↓Bool.not_true, ↓Bool.not_false, ↓i_ib, ↓i_ii, ↓i_is, ↓i_il, ↓i_it, ↓i_sb, ↓i_si, ↓i_ss, ↓i_sl, ↓i_st, ↓i_tb, ↓i_ti, ↓i_ts, ↓i_tl, ↓i_tt, ↓n_i, ↓n_s, ↓n_t, ↓n_p, ↓n_n, ↓T_bk, ↓T_ct, ↓T_rtN, ↓L_seq, ↓T_ex, ↓T_rt, ↓T_set, List.getElem?_concat_length, get_app, ↓T_sub, ↓T_part0, ↓T_part1, ↓T_sl, ↓T_for, ↓T_rng1, ↓T_wk, ↓q_slp, ↓q_sll, ↓q_slt, ↓q_revp, ↓q_revl, ↓q_addpp, ↓q_listp, ↓q_listl, ↓q_listt, ↓q_lists, ↓q_tuplep, ↓q_tuplel, ↓q_tuplet, ↓q_app, ↓q_notN, ↓T_frz, ↓T_call, ↓T_callK, ↓T_raise, ↓T_asg, ↓q_add, ↓q_sub, ↓q_neg, ↓q_lt, ↓q_le, ↓q_gt, ↓q_ge, ↓q_eq, ↓q_ne, ↓q_int, ↓q_intb, ↓q_mod, ↓q_ixp, ↓q_ixl, ↓q_ixt, ↓q_lenl, ↓q_lent, ↓q_lenp, ↓q_setL, ↓q_lst, ↓q_tup, ↓q_pow10, at0, at1, at2, at3, at4, Cell.lst.injEq, ↓q_mulr, ↓q_mull, ↓q_divn, ↓Tc_ok, ↓Tc_exc, ↓fi_int, ↓fi_bl, ↓fi_non, List.getElem?_cons_zero, List.getElem?_cons_succ, List.set_cons_zero, List.set_cons_succ, List.map_cons, List.map_nil, List.length_cons, List.length_nil, List.replicate, List.cons_append, List.nil_append, List.append_nil, Option.some.injEq, D.bl.injEq, D.int.injEq, ↓exists_eq_left, ↓exists_eq_left', exists_eq', ne_eq, reduceCtorEq, not_true_eq_false, not_false_eq_true, false_implies, true_implies, implies_true, forall_const, and_true, true_and, forall_eq, forall_eq', decide_eq_true_eq, decide_eq_false_iff_not, Nat.reduceAdd, Nat.reduceSub, Nat.zero_add, ↓i_lb, ↓i_li, ↓i_ls, ↓i_ll, ↓i_lt, ↓i_bb, ↓i_bi, ↓i_nb, ↓i_ni, ↓n_l, ↓n_b, ↓q_eqb, ↓q_eqs, List.cons.injEq, D.str.injEq, D.tup.injEq, D.lst.injEq, SC, ix51, ix52, ix53, h, List.length_map, hl, hz, h18, pow18, hv])
        rw [show [Cell.lst [D.lst (l.map .int), .int i, .int 0, .int n, .int sd]] = [SC l i 0 n sd] from rfl, fs]
        exact ⟨_, i + 1, 0, n + 1, rfl, m1 _, m2 _, by omega, hc, rfl⟩
      · (simp (maxSteps := 1000000) (disch := first | omega | (simp only [List.length_append, List.length_set, List.length_cons, List.length_nil, List.length_map]; omega)) only [↓T_ret, ↓T_C, ↓T_var, ↓T_m1, ↓T_m2, ↓T_mn, ↓T_nil, ↓T_cons, ↓L_tb, ↓L_if, ↓L_and, ↓L_or, ↓T_not, ↓L_andV, ↓L_orV, ↓L_notV, ↓T_mt, ↓T_nx, ↓sq_nx, ↓sq_rt, ↓sq_bk, ↓sq_ct, ↓iq_t, ↓iq_f, ↓iq_dt, ↓iq_df, ↓iq_nt, ↓iq_nf, iq_d, iq_n, ↓tq_bl, ↓iqi_i, ↓Bool.not_true, ↓Bool.not_false, ↓i_ib, ↓i_ii, ↓i_is, ↓i_il, ↓i_it, ↓i_sb, ↓i_si, ↓i_ss, ↓i_sl, ↓i_st, ↓i_tb, ↓i_ti, ↓i_ts, ↓i_tl, ↓i_tt, ↓n_i, ↓n_s, ↓n_t, ↓n_p, ↓n_n, ↓T_bk, ↓T_ct, ↓T_rtN, ↓L_seq, ↓T_ex, ↓T_rt, ↓T_set, List.getElem?_concat_length, get_app, ↓T_sub, ↓T_part0, ↓T_part1, ↓T_sl, ↓T_for, ↓T_rng1, ↓T_wk, ↓q_slp, ↓q_sll, ↓q_slt, ↓q_revp, ↓q_revl, ↓q_addpp, ↓q_listp, ↓q_listl, ↓q_listt, ↓q_lists, ↓q_tuplep, ↓q_tuplel, ↓q_tuplet, ↓q_app, ↓q_notN, ↓T_frz, ↓T_call, ↓T_callK, ↓T_raise, ↓T_asg, ↓q_add, ↓q_sub, ↓q_neg, ↓q_lt, ↓q_le, ↓q_gt, ↓q_ge, ↓q_eq, ↓q_ne, ↓q_int, ↓q_intb, ↓q_mod, ↓q_ixp, ↓q_ixl, ↓q_ixt, ↓q_lenl, ↓q_lent, ↓q_lenp, ↓q_setL, ↓q_lst, ↓q_tup, ↓q_pow10, at0, at1, at2, at3, at4, Cell.lst.injEq, ↓q_mulr, ↓q_mull, ↓q_divn, ↓Tc_ok, ↓Tc_exc, ↓fi_int, ↓fi_bl, ↓fi_non, List.getElem?_cons_zero, List.getElem?_cons_succ, List.set_cons_zero, List.set_cons_succ, List.map_cons, List.map_nil, List.length_cons, List.length_nil, List.replicate, List.cons_append, List.nil_append, List.append_nil, Option.some.injEq, D.bl.injEq, D.int.injEq, ↓exists_eq_left, ↓exists_eq_left', exists_eq', ne_eq, reduceCtorEq, not_true_eq_false, not_false_eq_true, false_implies, true_implies, implies_true, forall_const, and_true, true_and, forall_eq, forall_eq', decide_eq_true_eq, decide_eq_false_iff_not, Nat.reduceAdd, Nat.reduceSub, Nat.zero_add, ↓i_lb, ↓i_li, ↓i_ls, ↓i_ll, ↓i_lt, ↓i_bb, ↓i_bi, ↓i_nb, ↓i_ni, ↓n_l, ↓n_b, ↓q_eqb, ↓q_eqs, List.cons.injEq, D.str.injEq, D.tup.injEq, D.lst.injEq, SC, ix51, ix52, ix53, h, List.length_map, hl, hz, h18, pow18])
        rw [show [Cell.lst [D.lst (l.map .int), .int i, .int 0, .int n, .int sd]] = [SC l i 0 n sd] from rfl, fs]
        exact ⟨_, i + 1, _, n, rfl, m1 _, m2 _, by omega, m3 z (by omega), rfl⟩
    · obtain ⟨v, hv⟩ := mixed 0 (n + 1) sd [.lst [.lst (l.map .int), .int i, .int 0, .int (n + 1), .int sd]]
      have h18 : (0 : Int) < 1000000000000000000 := by decide
      (simp (maxSteps := 1000000) (disch := first | omega | (simp only [List.length_append, List.length_set, List.length_cons, List.length_nil, List.length_map]; omega)) only [↓T_ret, ↓T_C, ↓T_var, ↓T_m1, ↓T_m2, ↓T_mn, ↓T_nil, ↓T_cons, ↓L_tb, ↓L_if, ↓L_and, ↓L_or, ↓T_not, ↓L_andV, ↓L_orV, ↓L_notV, ↓T_mt, ↓T_nx, ↓sq_nx, ↓sq_rt, ↓sq_bk, ↓sq_ct, ↓iq_t, ↓iq_f, ↓iq_dt, ↓iq_df, ↓iq_nt, ↓iq_nf, iq_d, iq_n, ↓tq_bl, ↓iqi_i, ↓Bool.not_true, ↓Bool.not_false, ↓i_ib, ↓i_ii, ↓i_is, ↓i_il, ↓i_it, ↓i_sb, ↓i_si, ↓i_ss, ↓i_sl, ↓i_st, ↓i_tb, ↓i_ti, ↓i_ts, ↓i_tl, ↓i_tt, ↓n_i, ↓n_s, ↓n_t, ↓n_p, ↓n_n, ↓T_bk, ↓T_ct, ↓T_rtN, ↓L_seq, ↓T_ex, ↓T_rt, ↓T_set, List.getElem?_concat_length, get_app, ↓T_sub, ↓T_part0, ↓T_part1, ↓T_sl, ↓T_for, ↓T_rng1, ↓T_wk, ↓q_slp, ↓q_sll, ↓q_slt, ↓q_revp, ↓q_revl, ↓q_addpp, ↓q_listp, ↓q_listl, ↓q_listt, ↓q_lists, ↓q_tuplep, ↓q_tuplel, ↓q_tuplet, ↓q_app, ↓q_notN, ↓T_frz, ↓T_call, ↓T_callK, ↓T_raise, ↓T_asg, ↓q_add, ↓q_sub, ↓q_neg, ↓q_lt, ↓q_le, ↓q_gt, ↓q_ge, ↓q_eq, ↓q_ne, ↓q_int, ↓q_intb, ↓q_mod, ↓q_ixp, ↓q_ixl, ↓q_ixt, ↓q_lenl, ↓q_lent, ↓q_lenp, ↓q_setL, ↓q_lst, ↓q_tup, ↓q_pow10, at0, at1, at2, at3, at4, Cell.lst.injEq, ↓q_mulr, ↓q_mull, ↓q_divn, ↓Tc_ok, ↓Tc_exc, ↓fi_int, ↓fi_bl, ↓fi_non, List.getElem?_cons_zero, List.getElem?_cons_succ, List.set_cons_zero, List.set_cons_succ, List.map_cons, List.map_nil, List.length_cons, List.length_nil, List.replicate, List.cons_append, List.nil_append, List.append_nil, Option.some.injEq, D.bl.injEq, D.int.injEq, ↓exists_eq_left, ↓exists_eq_left', exists_eq', ne_eq, reduceCtorEq, not_true_eq_false, not_false_eq_true, false_implies, true_implies, implies_true, forall_const, and_true, true_and, forall_eq, forall_eq', decide_eq_true_eq, decide_eq_false_iff_not, Nat.reduceAdd, Nat.reduceSub, Nat.zero_add, ↓i_lb, ↓i_li, ↓i_ls, ↓i_ll, ↓i_lt, ↓i_bb, ↓i_bi, ↓i_nb, ↓i_ni, ↓n_l, ↓n_b, ↓q_eqb, ↓q_eqs, List.cons.injEq, D.str.injEq, D.tup.injEq, D.lst.injEq, SC, ix51, ix52, ix53, h, List.length_map, hl, h18, pow18, hv])
      rw [show [Cell.lst [D.lst (l.map .int), .int i, .int 0, .int n, .int sd]] = [SC l i 0 n sd] from rfl, fs]
      exact ⟨_, i, 0, n + 1, rfl, m1 _, m2 _, hi, hc, rfl⟩
  · (simp (maxSteps := 1000000) (disch := first | omega | (simp only [List.length_append, List.length_set, List.length_cons, List.length_nil, List.length_map]; omega)) only [↓T_ret, ↓T_C, ↓T_var, ↓T_m1, ↓T_m2, ↓T_mn, ↓T_nil, ↓T_cons, ↓L_tb, ↓L_if, ↓L_and, ↓L_or, ↓T_not, ↓L_andV, ↓L_orV, ↓L_notV, ↓T_mt, ↓T_nx, ↓sq_nx, ↓sq_rt, ↓sq_bk, ↓sq_ct, ↓iq_t, ↓iq_f, ↓iq_dt, ↓iq_df, ↓iq_nt, ↓iq_nf, iq_d, iq_n, ↓tq_bl, ↓iqi_i, ↓Bool.not_true, ↓Bool.not_false, ↓i_ib, ↓i_ii, ↓i_is, ↓i_il, ↓i_it, ↓i_sb, ↓i_si, ↓i_ss, ↓i_sl, ↓i_st, ↓i_tb, ↓i_ti, ↓i_ts, ↓i_tl, ↓i_tt, ↓n_i, ↓n_s, ↓n_t, ↓n_p, ↓n_n, ↓T_bk, ↓T_ct, ↓T_rtN, ↓L_seq, ↓T_ex, ↓T_rt, ↓T_set, List.getElem?_concat_length, get_app, ↓T_sub, ↓T_part0, ↓T_part1, ↓T_sl, ↓T_for, ↓T_rng1, ↓T_wk, ↓q_slp, ↓q_sll, ↓q_slt, ↓q_revp, ↓q_revl, ↓q_addpp, ↓q_listp, ↓q_listl, ↓q_listt, ↓q_lists, ↓q_tuplep, ↓q_tuplel, ↓q_tuplet, ↓q_app, ↓q_notN, ↓T_frz, ↓T_call, ↓T_callK, ↓T_raise, ↓T_asg, ↓q_add, ↓q_sub, ↓q_neg, ↓q_lt, ↓q_le, ↓q_gt, ↓q_ge, ↓q_eq, ↓q_ne, ↓q_int, ↓q_intb, ↓q_mod, ↓q_ixp, ↓q_ixl, ↓q_ixt, ↓q_lenl, ↓q_lent, ↓q_lenp, ↓q_setL, ↓q_lst, ↓q_tup, ↓q_pow10, at0, at1, at2, at3, at4, Cell.lst.injEq, ↓q_mulr, ↓q_mull, ↓q_divn, ↓Tc_ok, ↓Tc_exc, ↓fi_int, ↓fi_bl, ↓fi_non, List.getElem?_cons_zero, List.getElem?_cons_succ, List.set_cons_zero, List.set_cons_succ, List.map_cons, List.map_nil, List.length_cons, List.length_nil, List.replicate, List.cons_append, List.nil_append, List.append_nil, Option.some.injEq, D.bl.injEq, D.int.injEq, ↓exists_eq_left, ↓exists_eq_left', exists_eq', ne_eq, reduceCtorEq, not_true_eq_false, not_false_eq_true, false_implies, true_implies, implies_true, forall_const, and_true, true_and, forall_eq, forall_eq', decide_eq_true_eq, decide_eq_false_iff_not, Nat.reduceAdd, Nat.reduceSub, Nat.zero_add, ↓i_lb, ↓i_li, ↓i_ls, ↓i_ll, ↓i_lt, ↓i_bb, ↓i_bi, ↓i_nb, ↓i_ni, ↓n_l, ↓n_b, ↓q_eqb, ↓q_eqs, List.cons.injEq, D.str.injEq, D.tup.injEq, D.lst.injEq, SC, ix51, ix52, ix53, h, hc0])
    rw [show [Cell.lst [D.lst (l.map .int), .int i, .int c, .int n, .int sd]] = [SC l i c n sd] from rfl, fs]
    exact ⟨_, i, _, n, rfl, m1 _, m2 _, hi, m3 c hc, rfl⟩
theorem take0 (many : Int) (hb : many < 10000000000000000000000000000000000000000000000000000000000000000000000) (c : Cell) (hc : isS c) : DrV φ__law_take [.ptr 0, .int many] c D.int fun r => 0 ≤ r ∧ (2 ≤ many → r < many) ∧ (many < 2 → r = 0) := by
  by_cases h : many < 2
  · exact ⟨0, c, take_lt many h [c], hc, by omega, by omega, fun _ => rfl⟩
  · obtain ⟨l, i, k, n, sd, h1, h2, rfl⟩ := hc
    obtain ⟨d, m, e, r, i', k', n', rfl, a1, a2, a3, a4, rfl⟩ := of_tc (take_ge many h hb l i k n sd h1 h2)
    exact ⟨r, _, e, ⟨l, i', k', n', sd, a3, a4, rfl⟩, a1, fun _ => a2, fun z => absurd z h⟩
theorem take (many : Int) (c : Cell) (hc : isS c) (hb : many < 10000000000000000000000000000000000000000000000000000000000000000000000 := by omega) :
    ∃ r c', (∀ t, isoK 1 φ__law_take [.ptr 0, .int many] (c :: t) = .ok (.int r) (c' :: t)) ∧ isS c' ∧ 0 ≤ r ∧ (2 ≤ many → r < many) ∧ (many < 2 → r = 0) :=
  (take0 many hb c hc).get hc rfl fun _ _ => rfl
theorem store (ns : List Int) : ∃ c, φ__law_store [.scr ns] [] = .ok (.ptr 0) [c] ∧ isS c := by
  suffices key : Tc (φ__law_store [.scr ns] []) (fun o m' => ∃ c, o = .ptr 0 ∧ m' = [c] ∧ isS c) fun _ _ => False by
    obtain ⟨o, m', e, c, rfl, rfl, h1⟩ := of_tc key
    exact ⟨c, e, h1⟩
  rw [φ__law_store]; refine (T_fn rfl).mpr ?_; rw [m__law_store]
  have wk : walkOf (.scr ns) [] = some ⟨ns.map .int, none⟩ := rfl
  refine T_mid (fun s => s = ⟨[some (.scr ns), some (.int 7), none], []⟩) (by (simp (maxSteps := 1000000) (disch := first | omega | (simp only [List.length_append, List.length_set, List.length_cons, List.length_nil, List.length_map]; omega)) only [↓T_ret, ↓T_C, ↓T_var, ↓T_m1, ↓T_m2, ↓T_mn, ↓T_nil, ↓T_cons, ↓L_tb, ↓L_if, ↓L_and, ↓L_or, ↓T_not, ↓L_andV, ↓L_orV, ↓L_notV, ↓T_mt, ↓T_nx, ↓sq_nx, ↓sq_rt, ↓sq_bk, ↓sq_ct, ↓iq_t, ↓iq_f, ↓iq_dt, ↓iq_df, ↓iq_nt, ↓iq_nf, iq_d, iq_n, ↓tq_bl, ↓iqi_i, ↓Bool.not_true, ↓Bool.not_false, ↓i_ib, ↓i_ii, ↓i_is, ↓i_il, ↓i_it, ↓i_sb, ↓i_si, ↓i_ss, ↓i_sl, ↓i_st, ↓i_tb, ↓i_ti, ↓i_ts, ↓i_tl, ↓i_tt, ↓n_i, ↓n_s, ↓n_t, ↓n_p, ↓n_n, ↓T_bk, ↓T_ct, ↓T_rtN, ↓L_seq, ↓T_ex, ↓T_rt, ↓T_set, List.getElem?_concat_length, get_app, ↓T_sub, ↓T_part0, ↓T_part1, ↓T_sl, ↓T_for, ↓T_rng1, ↓T_wk, ↓q_slp, ↓q_sll, ↓q_slt, ↓q_revp, ↓q_revl, ↓q_addpp, ↓q_listp, ↓q_listl, ↓q_listt, ↓q_lists, ↓q_tuplep, ↓q_tuplel, ↓q_tuplet, ↓q_app, ↓q_notN, ↓T_frz, ↓T_call, ↓T_callK, ↓T_raise, ↓T_asg, ↓q_add, ↓q_sub, ↓q_neg, ↓q_lt, ↓q_le, ↓q_gt, ↓q_ge, ↓q_eq, ↓q_ne, ↓q_int, ↓q_intb, ↓q_mod, ↓q_ixp, ↓q_ixl, ↓q_ixt, ↓q_lenl, ↓q_lent, ↓q_lenp, ↓q_setL, ↓q_lst, ↓q_tup, ↓q_pow10, at0, at1, at2, at3, at4, Cell.lst.injEq, ↓q_mulr, ↓q_mull, ↓q_divn, ↓Tc_ok, ↓Tc_exc, ↓fi_int, ↓fi_bl, ↓fi_non, List.getElem?_cons_zero, List.getElem?_cons_succ, List.set_cons_zero, List.set_cons_succ, List.map_cons, List.map_nil, List.length_cons, List.length_nil, List.replicate, List.cons_append, List.nil_append, List.append_nil, Option.some.injEq, D.bl.injEq, D.int.injEq, ↓exists_eq_left, ↓exists_eq_left', exists_eq', ne_eq, reduceCtorEq, not_true_eq_false, not_false_eq_true, false_implies, true_implies, implies_true, forall_const, and_true, true_and, forall_eq, forall_eq', decide_eq_true_eq, decide_eq_false_iff_not, Nat.reduceAdd, Nat.reduceSub, Nat.zero_add, ↓i_lb, ↓i_li, ↓i_ls, ↓i_ll, ↓i_lt, ↓i_bb, ↓i_bi, ↓i_nb, ↓i_ni, ↓n_l, ↓n_b, ↓q_eqb, ↓q_eqs, List.cons.injEq, D.str.injEq, D.tup.injEq, D.lst.injEq])) ?_
  rintro _ rfl
  refine T_mid (fun s => ∃ v x, s = ⟨[some (.scr ns), some (.int v), x], []⟩ ∧ 0 ≤ v ∧ v < 1000000000000000003) ?_ ?_
  · (simp (maxSteps := 1000000) (disch := first | omega | (simp only [List.length_append, List.length_set, List.length_cons, List.length_nil, List.length_map]; omega)) only [↓T_ret, ↓T_C, ↓T_var, ↓T_m1, ↓T_m2, ↓T_mn, ↓T_nil, ↓T_cons, ↓L_tb, ↓L_if, ↓L_and, ↓L_or, ↓T_not, ↓L_andV, ↓L_orV, ↓L_notV, ↓T_mt, ↓T_nx, ↓sq_nx, ↓sq_rt, ↓sq_bk, ↓sq_ct, ↓iq_t, ↓iq_f, ↓iq_dt, ↓iq_df, ↓iq_nt, ↓iq_nf, iq_d, iq_n, ↓tq_bl, ↓iqi_i, ↓Bool.not_true, ↓Bool.not_false, ↓i_ib, ↓i_ii, ↓i_is, ↓i_il, ↓i_it, ↓i_sb, ↓i_si, ↓i_ss, ↓i_sl, ↓i_st, ↓i_tb, ↓i_ti, ↓i_ts, ↓i_tl, ↓i_tt, ↓n_i, ↓n_s, ↓n_t, ↓n_p, ↓n_n, ↓T_bk, ↓T_ct, ↓T_rtN, ↓L_seq, ↓T_ex, ↓T_rt, ↓T_set, List.getElem?_concat_length, get_app, ↓T_sub, ↓T_part0, ↓T_part1, ↓T_sl, ↓T_for, ↓T_rng1, ↓T_wk, ↓q_slp, ↓q_sll, ↓q_slt, ↓q_revp, ↓q_revl, ↓q_addpp, ↓q_listp, ↓q_listl, ↓q_listt, ↓q_lists, ↓q_tuplep, ↓q_tuplel, ↓q_tuplet, ↓q_app, ↓q_notN, ↓T_frz, ↓T_call, ↓T_callK, ↓T_raise, ↓T_asg, ↓q_add, ↓q_sub, ↓q_neg, ↓q_lt, ↓q_le, ↓q_gt, ↓q_ge, ↓q_eq, ↓q_ne, ↓q_int, ↓q_intb, ↓q_mod, ↓q_ixp, ↓q_ixl, ↓q_ixt, ↓q_lenl, ↓q_lent, ↓q_lenp, ↓q_setL, ↓q_lst, ↓q_tup, ↓q_pow10, at0, at1, at2, at3, at4, Cell.lst.injEq, ↓q_mulr, ↓q_mull, ↓q_divn, ↓Tc_ok, ↓Tc_exc, ↓fi_int, ↓fi_bl, ↓fi_non, List.getElem?_cons_zero, List.getElem?_cons_succ, List.set_cons_zero, List.set_cons_succ, List.map_cons, List.map_nil, List.length_cons, List.length_nil, List.replicate, List.cons_append, List.nil_append, List.append_nil, Option.some.injEq, D.bl.injEq, D.int.injEq, ↓exists_eq_left, ↓exists_eq_left', exists_eq', ne_eq, reduceCtorEq, not_true_eq_false, not_false_eq_true, false_implies, true_implies, implies_true, forall_const, and_true, true_and, forall_eq, forall_eq', decide_eq_true_eq, decide_eq_false_iff_not, Nat.reduceAdd, Nat.reduceSub, Nat.zero_add, ↓i_lb, ↓i_li, ↓i_ls, ↓i_ll, ↓i_lt, ↓i_bb, ↓i_bi, ↓i_nb, ↓i_ni, ↓n_l, ↓n_b, ↓q_eqb, ↓q_eqs, List.cons.injEq, D.str.injEq, D.tup.injEq, D.lst.injEq, wk])
    refine T_forI (fun ds s => ∃ v x, s = ⟨[some (.scr ns), some (.int v), x], []⟩ ∧ 0 ≤ v ∧ v < 1000000000000000003 ∧ ∃ ks : List Int, ds = ks.map .int) rfl ⟨7, none, rfl, by omega, by omega, ns, rfl⟩ ?_ ?_
    · rintro d ds _ ⟨v, x, rfl, h0, h1, ks, hk⟩
      match ks, hk with
      | k :: ks, hk =>
        rw [List.map_cons] at hk
        obtain ⟨rfl, rfl⟩ := List.cons.inj hk
        refine ⟨_, rfl, ?_⟩
        (simp (maxSteps := 1000000) (disch := first | omega | (simp only [List.length_append, List.length_set, List.length_cons, List.length_nil, List.length_map]; omega)) only [↓T_ret, ↓T_C, ↓T_var, ↓T_m1, ↓T_m2, ↓T_mn, ↓T_nil, ↓T_cons, ↓L_tb, ↓L_if, ↓L_and, ↓L_or, ↓T_not, ↓L_andV, ↓L_orV, ↓L_notV, ↓T_mt, ↓T_nx, ↓sq_nx, ↓sq_rt, ↓sq_bk, ↓sq_ct, ↓iq_t, ↓iq_f, ↓iq_dt, ↓iq_df, ↓iq_nt, ↓iq_nf, iq_d, iq_n, ↓tq_bl, ↓iqi_i, ↓Bool.not_true, ↓Bool.not_false, ↓i_ib, ↓i_ii, ↓i_is, ↓i_il, ↓i_it, ↓i_sb, ↓i_si, ↓i_ss, ↓i_sl, ↓i_st, ↓i_tb, ↓i_ti, ↓i_ts, ↓i_tl, ↓i_tt, ↓n_i, ↓n_s, ↓n_t, ↓n_p, ↓n_n, ↓T_bk, ↓T_ct, ↓T_rtN, ↓L_seq, ↓T_ex, ↓T_rt, ↓T_set, List.getElem?_concat_length, get_app, ↓T_sub, ↓T_part0, ↓T_part1, ↓T_sl, ↓T_for, ↓T_rng1, ↓T_wk, ↓q_slp, ↓q_sll, ↓q_slt, ↓q_revp, ↓q_revl, ↓q_addpp, ↓q_listp, ↓q_listl, ↓q_listt, ↓q_lists, ↓q_tuplep, ↓q_tuplel, ↓q_tuplet, ↓q_app, ↓q_notN, ↓T_frz, ↓T_call, ↓T_callK, ↓T_raise, ↓T_asg, ↓q_add, ↓q_sub, ↓q_neg, ↓q_lt, ↓q_le, ↓q_gt, ↓q_ge, ↓q_eq, ↓q_ne, ↓q_int, ↓q_intb, ↓q_mod, ↓q_ixp, ↓q_ixl, ↓q_ixt, ↓q_lenl, ↓q_lent, ↓q_lenp, ↓q_setL, ↓q_lst, ↓q_tup, ↓q_pow10, at0, at1, at2, at3, at4, Cell.lst.injEq, ↓q_mulr, ↓q_mull, ↓q_divn, ↓Tc_ok, ↓Tc_exc, ↓fi_int, ↓fi_bl, ↓fi_non, List.getElem?_cons_zero, List.getElem?_cons_succ, List.set_cons_zero, List.set_cons_succ, List.map_cons, List.map_nil, List.length_cons, List.length_nil, List.replicate, List.cons_append, List.nil_append, List.append_nil, Option.some.injEq, D.bl.injEq, D.int.injEq, ↓exists_eq_left, ↓exists_eq_left', exists_eq', ne_eq, reduceCtorEq, not_true_eq_false, not_false_eq_true, false_implies, true_implies, implies_true, forall_const, and_true, true_and, forall_eq, forall_eq', decide_eq_true_eq, decide_eq_false_iff_not, Nat.reduceAdd, Nat.reduceSub, Nat.zero_add, ↓i_lb, ↓i_li, ↓i_ls, ↓i_ll, ↓i_lt, ↓i_bb, ↓i_bi, ↓i_nb, ↓i_ni, ↓n_l, ↓n_b, ↓q_eqb, ↓q_eqs, List.cons.injEq, D.str.injEq, D.tup.injEq, D.lst.injEq])
        refine ⟨.inl trivial, _, _, rfl, Int.emod_nonneg _ (by omega), Int.emod_lt_of_pos _ (by omega), ks, rfl⟩
    · rintro _ ⟨v, x, rfl, h0, h1, _⟩
      exact ⟨rfl, v, x, rfl, h0, h1⟩
  rintro _ ⟨v, x, rfl, h0, h1⟩
  have fz : frz (.ptr 0) [.lst (ns.map D.int)] = some (.lst (ns.map .int), [.dead]) := frz_ptr rfl (lo_ints ns)
  (simp (maxSteps := 1000000) (disch := first | omega | (simp only [List.length_append, List.length_set, List.length_cons, List.length_nil, List.length_map]; omega)) only [↓T_ret, ↓T_C, ↓T_var, ↓T_m1, ↓T_m2, ↓T_mn, ↓T_nil, ↓T_cons, ↓L_tb, ↓L_if, ↓L_and, ↓L_or, ↓T_not, ↓L_andV, ↓L_orV, ↓L_notV, ↓T_mt, ↓T_nx, ↓sq_nx, ↓sq_rt, ↓sq_bk, ↓sq_ct, ↓iq_t, ↓iq_f, ↓iq_dt, ↓iq_df, ↓iq_nt, ↓iq_nf, iq_d, iq_n, ↓tq_bl, ↓iqi_i, ↓Bool.not_true, ↓Bool.not_false, ↓i_ib, ↓i_ii, ↓i_is, ↓i_il, ↓i_it, ↓i_sb, ↓i_si, ↓i_ss, ↓i_sl, ↓i_st, ↓i_tb, ↓i_ti, ↓i_ts, ↓i_tl, ↓i_tt, ↓n_i, ↓n_s, ↓n_t, ↓n_p, ↓n_n, ↓T_bk, ↓T_ct, ↓T_rtN, ↓L_seq, ↓T_ex, ↓T_rt, ↓T_set, List.getElem?_concat_length, get_app, ↓T_sub, ↓T_part0, ↓T_part1, ↓T_sl, ↓T_for, ↓T_rng1, ↓T_wk, ↓q_slp, ↓q_sll, ↓q_slt, ↓q_revp, ↓q_revl, ↓q_addpp, ↓q_listp, ↓q_listl, ↓q_listt, ↓q_lists, ↓q_tuplep, ↓q_tuplel, ↓q_tuplet, ↓q_app, ↓q_notN, ↓T_frz, ↓T_call, ↓T_callK, ↓T_raise, ↓T_asg, ↓q_add, ↓q_sub, ↓q_neg, ↓q_lt, ↓q_le, ↓q_gt, ↓q_ge, ↓q_eq, ↓q_ne, ↓q_int, ↓q_intb, ↓q_mod, ↓q_ixp, ↓q_ixl, ↓q_ixt, ↓q_lenl, ↓q_lent, ↓q_lenp, ↓q_setL, ↓q_lst, ↓q_tup, ↓q_pow10, at0, at1, at2, at3, at4, Cell.lst.injEq, ↓q_mulr, ↓q_mull, ↓q_divn, ↓Tc_ok, ↓Tc_exc, ↓fi_int, ↓fi_bl, ↓fi_non, List.getElem?_cons_zero, List.getElem?_cons_succ, List.set_cons_zero, List.set_cons_succ, List.map_cons, List.map_nil, List.length_cons, List.length_nil, List.replicate, List.cons_append, List.nil_append, List.append_nil, Option.some.injEq, D.bl.injEq, D.int.injEq, ↓exists_eq_left, ↓exists_eq_left', exists_eq', ne_eq, reduceCtorEq, not_true_eq_false, not_false_eq_true, false_implies, true_implies, implies_true, forall_const, and_true, true_and, forall_eq, forall_eq', decide_eq_true_eq, decide_eq_false_iff_not, Nat.reduceAdd, Nat.reduceSub, Nat.zero_add, ↓i_lb, ↓i_li, ↓i_ls, ↓i_ll, ↓i_lt, ↓i_bb, ↓i_bi, ↓i_nb, ↓i_ni, ↓n_l, ↓n_b, ↓q_eqb, ↓q_eqs, List.cons.injEq, D.str.injEq, D.tup.injEq, D.lst.injEq, fz, Pq_some])
  have f1 : fin [] (.ptr 1) [.dead, .lst [.lst (ns.map .int), .int 0, .int 0, .int 0, .int v]] = (.ptr 0, [SC ns 0 0 0 v]) := fin_new0 (m := []) (t := [.dead, SC ns 0 0 0 v]) (Nat.zero_le _) rfl SC_lo
  rw [f1]
  exact ⟨SC ns 0 0 0 v, rfl, rfl, ns, 0, 0, 0, v, by omega, by omega, rfl⟩
end K38

set_option maxRecDepth 100000
set_option maxHeartbeats 2000000
namespace K38
open PySem PySem.Spec PyProof.Rows L2 Dl
theorem same_non (n : Nat) (m : Mem) : φ__law_same (n + 1) [.non, .non] m = .ok (.bl true) m := by
  refine ok_of ?_
  rw [φ__law_same]; refine (T_fn (n := 2) rfl).mpr ?_; rw [m__law_same]
  (simp (maxSteps := 1000000) (disch := first | omega | (simp only [List.length_append, List.length_set, List.length_cons, List.length_nil, List.length_map]; omega)) only [↓T_ret, ↓T_C, ↓T_var, ↓T_m1, ↓T_m2, ↓T_mn, ↓T_nil, ↓T_cons, ↓L_tb, ↓L_if, ↓L_and, ↓L_or, ↓T_not, ↓L_andV, ↓L_orV, ↓L_notV, ↓T_mt, ↓T_nx, ↓sq_nx, ↓sq_rt, ↓sq_bk, ↓sq_ct, ↓iq_t, ↓iq_f, ↓iq_dt, ↓iq_df, ↓iq_nt, ↓iq_nf, iq_d, iq_n, ↓tq_bl, ↓iqi_i, ↓Bool.not_true, ↓Bool.not_false, ↓i_ib, ↓i_ii, ↓i_is, ↓i_il, ↓i_it, ↓i_sb, ↓i_si, ↓i_ss, ↓i_sl, ↓i_st, ↓i_tb, ↓i_ti, ↓i_ts, ↓i_tl, ↓i_tt, ↓n_i, ↓n_s, ↓n_t, ↓n_p, ↓n_n, ↓T_bk, ↓T_ct, ↓T_rtN, ↓L_seq, ↓T_ex, ↓T_rt, ↓T_set, List.getElem?_concat_length, get_app, ↓T_sub, ↓T_part0, ↓T_part1, ↓T_sl, ↓T_for, ↓T_rng1, ↓T_wk, ↓q_slp, ↓q_sll, ↓q_slt, ↓q_revp, ↓q_revl, ↓q_addpp, ↓q_listp, ↓q_listl, ↓q_listt, ↓q_lists, ↓q_tuplep, ↓q_tuplel, ↓q_tuplet, ↓q_app, ↓q_notN, ↓T_frz, ↓T_call, ↓T_callK, ↓T_raise, ↓T_asg, ↓q_add, ↓q_sub, ↓q_neg, ↓q_lt, ↓q_le, ↓q_gt, ↓q_ge, ↓q_eq, ↓q_ne, ↓q_int, ↓q_intb, ↓q_mod, ↓q_ixp, ↓q_ixl, ↓q_ixt, ↓q_lenl, ↓q_lent, ↓q_lenp, ↓q_setL, ↓q_lst, ↓q_tup, ↓q_pow10, at0, at1, at2, at3, at4, Cell.lst.injEq, ↓q_mulr, ↓q_mull, ↓q_divn, ↓Tc_ok, ↓Tc_exc, ↓fi_int, ↓fi_bl, ↓fi_non, List.getElem?_cons_zero, List.getElem?_cons_succ, List.set_cons_zero, List.set_cons_succ, List.map_cons, List.map_nil, List.length_cons, List.length_nil, List.replicate, List.cons_append, List.nil_append, List.append_nil, Option.some.injEq, D.bl.injEq, D.int.injEq, ↓exists_eq_left, ↓exists_eq_left', exists_eq', ne_eq, reduceCtorEq, not_true_eq_false, not_false_eq_true, false_implies, true_implies, implies_true, forall_const, and_true, true_and, forall_eq, forall_eq', decide_eq_true_eq, decide_eq_false_iff_not, Nat.reduceAdd, Nat.reduceSub, Nat.zero_add, ↓i_lb, ↓i_li, ↓i_ls, ↓i_ll, ↓i_lt, ↓i_bb, ↓i_bi, ↓i_nb, ↓i_ni, ↓n_l, ↓n_b, ↓q_eqb, ↓q_eqs, List.cons.injEq, D.str.injEq, D.tup.injEq, D.lst.injEq])
theorem same_bl (n : Nat) (b : Bool) (m : Mem) : φ__law_same (n + 1) [.bl b, .bl b] m = .ok (.bl true) m := by
  refine ok_of ?_
  rw [φ__law_same]; refine (T_fn (n := 2) rfl).mpr ?_; rw [m__law_same]
  (simp (maxSteps := 1000000) (disch := first | omega | (simp only [List.length_append, List.length_set, List.length_cons, List.length_nil, List.length_map]; omega)) only [↓T_ret, ↓T_C, ↓T_var, ↓T_m1, ↓T_m2, ↓T_mn, ↓T_nil, ↓T_cons, ↓L_tb, ↓L_if, ↓L_and, ↓L_or, ↓T_not, ↓L_andV, ↓L_orV, ↓L_notV, ↓T_mt, ↓T_nx, ↓sq_nx, ↓sq_rt, ↓sq_bk, ↓sq_ct, ↓iq_t, ↓iq_f, ↓iq_dt, ↓iq_df, ↓iq_nt, ↓iq_nf, iq_d, iq_n, ↓tq_bl, ↓iqi_i, ↓Bool.not_true, ↓Bool.not_false, ↓i_ib, ↓i_ii, ↓i_is, ↓i_il, ↓i_it, ↓i_sb, ↓i_si, ↓i_ss, ↓i_sl, ↓i_st, ↓i_tb, ↓i_ti, ↓i_ts, ↓i_tl, ↓i_tt, ↓n_i, ↓n_s, ↓n_t, ↓n_p, ↓n_n, ↓T_bk, ↓T_ct, ↓T_rtN, ↓L_seq, ↓T_ex, ↓T_rt, ↓T_set, List.getElem?_concat_length, get_app, ↓T_sub, ↓T_part0, ↓T_part1, ↓T_sl, ↓T_for, ↓T_rng1, ↓T_wk, ↓q_slp, ↓q_sll, ↓q_slt, ↓q_revp, ↓q_revl, ↓q_addpp, ↓q_listp, ↓q_listl, ↓q_listt, ↓q_lists, ↓q_tuplep, ↓q_tuplel, ↓q_tuplet, ↓q_app, ↓q_notN, ↓T_frz, ↓T_call, ↓T_callK, ↓T_raise, ↓T_asg, ↓q_add, ↓q_sub, ↓q_neg, ↓q_lt, ↓q_le, ↓q_gt, ↓q_ge, ↓q_eq, ↓q_ne, ↓q_int, ↓q_intb, ↓q_mod, ↓q_ixp, ↓q_ixl, ↓q_ixt, ↓q_lenl, ↓q_lent, ↓q_lenp, ↓q_setL, ↓q_lst, ↓q_tup, ↓q_pow10, at0, at1, at2, at3, at4, Cell.lst.injEq, ↓q_mulr, ↓q_mull, ↓q_divn, ↓Tc_ok, ↓Tc_exc, ↓fi_int, ↓fi_bl, ↓fi_non, List.getElem?_cons_zero, List.getElem?_cons_succ, List.set_cons_zero, List.set_cons_succ, List.map_cons, List.map_nil, List.length_cons, List.length_nil, List.replicate, List.cons_append, List.nil_append, List.append_nil, Option.some.injEq, D.bl.injEq, D.int.injEq, ↓exists_eq_left, ↓exists_eq_left', exists_eq', ne_eq, reduceCtorEq, not_true_eq_false, not_false_eq_true, false_implies, true_implies, implies_true, forall_const, and_true, true_and, forall_eq, forall_eq', decide_eq_true_eq, decide_eq_false_iff_not, Nat.reduceAdd, Nat.reduceSub, Nat.zero_add, ↓i_lb, ↓i_li, ↓i_ls, ↓i_ll, ↓i_lt, ↓i_bb, ↓i_bi, ↓i_nb, ↓i_ni, ↓n_l, ↓n_b, ↓q_eqb, ↓q_eqs, List.cons.injEq, D.str.injEq, D.tup.injEq, D.lst.injEq])
theorem same_int (n : Nat) (v : Int) (m : Mem) : φ__law_same (n + 1) [.int v, .int v] m = .ok (.bl true) m := by
  refine ok_of ?_
  rw [φ__law_same]; refine (T_fn (n := 2) rfl).mpr ?_; rw [m__law_same]
  (simp (maxSteps := 1000000) (disch := first | omega | (simp only [List.length_append, List.length_set, List.length_cons, List.length_nil, List.length_map]; omega)) only [↓T_ret, ↓T_C, ↓T_var, ↓T_m1, ↓T_m2, ↓T_mn, ↓T_nil, ↓T_cons, ↓L_tb, ↓L_if, ↓L_and, ↓L_or, ↓T_not, ↓L_andV, ↓L_orV, ↓L_notV, ↓T_mt, ↓T_nx, ↓sq_nx, ↓sq_rt, ↓sq_bk, ↓sq_ct, ↓iq_t, ↓iq_f, ↓iq_dt, ↓iq_df, ↓iq_nt, ↓iq_nf, iq_d, iq_n, ↓tq_bl, ↓iqi_i, ↓Bool.not_true, ↓Bool.not_false, ↓i_ib, ↓i_ii, ↓i_is, ↓i_il, ↓i_it, ↓i_sb, ↓i_si, ↓i_ss, ↓i_sl, ↓i_st, ↓i_tb, ↓i_ti, ↓i_ts, ↓i_tl, ↓i_tt, ↓n_i, ↓n_s, ↓n_t, ↓n_p, ↓n_n, ↓T_bk, ↓T_ct, ↓T_rtN, ↓L_seq, ↓T_ex, ↓T_rt, ↓T_set, List.getElem?_concat_length, get_app, ↓T_sub, ↓T_part0, ↓T_part1, ↓T_sl, ↓T_for, ↓T_rng1, ↓T_wk, ↓q_slp, ↓q_sll, ↓q_slt, ↓q_revp, ↓q_revl, ↓q_addpp, ↓q_listp, ↓q_listl, ↓q_listt, ↓q_lists, ↓q_tuplep, ↓q_tuplel, ↓q_tuplet, ↓q_app, ↓q_notN, ↓T_frz, ↓T_call, ↓T_callK, ↓T_raise, ↓T_asg, ↓q_add, ↓q_sub, ↓q_neg, ↓q_lt, ↓q_le, ↓q_gt, ↓q_ge, ↓q_eq, ↓q_ne, ↓q_int, ↓q_intb, ↓q_mod, ↓q_ixp, ↓q_ixl, ↓q_ixt, ↓q_lenl, ↓q_lent, ↓q_lenp, ↓q_setL, ↓q_lst, ↓q_tup, ↓q_pow10, at0, at1, at2, at3, at4, Cell.lst.injEq, ↓q_mulr, ↓q_mull, ↓q_divn, ↓Tc_ok, ↓Tc_exc, ↓fi_int, ↓fi_bl, ↓fi_non, List.getElem?_cons_zero, List.getElem?_cons_succ, List.set_cons_zero, List.set_cons_succ, List.map_cons, List.map_nil, List.length_cons, List.length_nil, List.replicate, List.cons_append, List.nil_append, List.append_nil, Option.some.injEq, D.bl.injEq, D.int.injEq, ↓exists_eq_left, ↓exists_eq_left', exists_eq', ne_eq, reduceCtorEq, not_true_eq_false, not_false_eq_true, false_implies, true_implies, implies_true, forall_const, and_true, true_and, forall_eq, forall_eq', decide_eq_true_eq, decide_eq_false_iff_not, Nat.reduceAdd, Nat.reduceSub, Nat.zero_add, ↓i_lb, ↓i_li, ↓i_ls, ↓i_ll, ↓i_lt, ↓i_bb, ↓i_bi, ↓i_nb, ↓i_ni, ↓n_l, ↓n_b, ↓q_eqb, ↓q_eqs, List.cons.injEq, D.str.injEq, D.tup.injEq, D.lst.injEq])
theorem same_str (n : Nat) (v : Str) (m : Mem) : φ__law_same (n + 1) [.str v, .str v] m = .ok (.bl true) m := by
  refine ok_of ?_
  rw [φ__law_same]; refine (T_fn (n := 2) rfl).mpr ?_; rw [m__law_same]
  (simp (maxSteps := 1000000) (disch := first | omega | (simp only [List.length_append, List.length_set, List.length_cons, List.length_nil, List.length_map]; omega)) only [↓T_ret, ↓T_C, ↓T_var, ↓T_m1, ↓T_m2, ↓T_mn, ↓T_nil, ↓T_cons, ↓L_tb, ↓L_if, ↓L_and, ↓L_or, ↓T_not, ↓L_andV, ↓L_orV, ↓L_notV, ↓T_mt, ↓T_nx, ↓sq_nx, ↓sq_rt, ↓sq_bk, ↓sq_ct, ↓iq_t, ↓iq_f, ↓iq_dt, ↓iq_df, ↓iq_nt, ↓iq_nf, iq_d, iq_n, ↓tq_bl, ↓iqi_i, ↓Bool.not_true, ↓Bool.not_false, ↓i_ib, ↓i_ii, ↓i_is, ↓i_il, ↓i_it, ↓i_sb, ↓i_si, ↓i_ss, ↓i_sl, ↓i_st, ↓i_tb, ↓i_ti, ↓i_ts, ↓i_tl, ↓i_tt, ↓n_i, ↓n_s, ↓n_t, ↓n_p, ↓n_n, ↓T_bk, ↓T_ct, ↓T_rtN, ↓L_seq, ↓T_ex, ↓T_rt, ↓T_set, List.getElem?_concat_length, get_app, ↓T_sub, ↓T_part0, ↓T_part1, ↓T_sl, ↓T_for, ↓T_rng1, ↓T_wk, ↓q_slp, ↓q_sll, ↓q_slt, ↓q_revp, ↓q_revl, ↓q_addpp, ↓q_listp, ↓q_listl, ↓q_listt, ↓q_lists, ↓q_tuplep, ↓q_tuplel, ↓q_tuplet, ↓q_app, ↓q_notN, ↓T_frz, ↓T_call, ↓T_callK, ↓T_raise, ↓T_asg, ↓q_add, ↓q_sub, ↓q_neg, ↓q_lt, ↓q_le, ↓q_gt, ↓q_ge, ↓q_eq, ↓q_ne, ↓q_int, ↓q_intb, ↓q_mod, ↓q_ixp, ↓q_ixl, ↓q_ixt, ↓q_lenl, ↓q_lent, ↓q_lenp, ↓q_setL, ↓q_lst, ↓q_tup, ↓q_pow10, at0, at1, at2, at3, at4, Cell.lst.injEq, ↓q_mulr, ↓q_mull, ↓q_divn, ↓Tc_ok, ↓Tc_exc, ↓fi_int, ↓fi_bl, ↓fi_non, List.getElem?_cons_zero, List.getElem?_cons_succ, List.set_cons_zero, List.set_cons_succ, List.map_cons, List.map_nil, List.length_cons, List.length_nil, List.replicate, List.cons_append, List.nil_append, List.append_nil, Option.some.injEq, D.bl.injEq, D.int.injEq, ↓exists_eq_left, ↓exists_eq_left', exists_eq', ne_eq, reduceCtorEq, not_true_eq_false, not_false_eq_true, false_implies, true_implies, implies_true, forall_const, and_true, true_and, forall_eq, forall_eq', decide_eq_true_eq, decide_eq_false_iff_not, Nat.reduceAdd, Nat.reduceSub, Nat.zero_add, ↓i_lb, ↓i_li, ↓i_ls, ↓i_ll, ↓i_lt, ↓i_bb, ↓i_bi, ↓i_nb, ↓i_ni, ↓n_l, ↓n_b, ↓q_eqb, ↓q_eqs, List.cons.injEq, D.str.injEq, D.tup.injEq, D.lst.injEq])
theorem same_seq (n : Nat) (m : Mem) (xs : List D) (d : D) (hd : d = .tup xs ∨ d = .lst xs) (hl : xs.length ≤ 1000000) (h : ∀ d ∈ xs, φ__law_same n [d, d] m = .ok (.bl true) m) : φ__law_same (n + 1) [d, d] m = .ok (.bl true) m := by
  refine ok_of ?_
  rw [φ__law_same]; refine (T_fn (n := 2) rfl).mpr ?_; rw [m__law_same]
  have ix : ∀ i ∈ (List.range xs.length), ∃ x, atI xs (i : Nat) = some x ∧ φ__law_same n [x, x] m = .ok (.bl true) m := fun i hi => by
    have hi := List.mem_range.mp hi
    exact ⟨xs[i], by rw [atI_nat (by omega) (by omega), Int.toNat_natCast]; exact List.getElem?_eq_getElem hi, h _ (List.getElem_mem hi)⟩
  have key : ∀ (d : D), (d = .tup xs ∨ d = .lst xs) → ∀ x, T (forL ⟨rangeD 0 ((xs.length : Nat) : Int).toNat, none⟩ (gN 2) (mIf (mNot (tb (mCall (φ__law_same n) (mCons (m2 pIx (mVar 0) (mVar 2)) (mCons (m2 pIx (mVar 1) (mVar 2)) mNil))))) (sRt (mC (.bl false))) sNx) (rangeD 0 ((xs.length : Nat) : Int).toNat)) ⟨[some d, some d, x], m⟩ (fun f s => f = .nx ∧ ∃ x, s = ⟨[some d, some d, x], m⟩) fun _ _ => False := fun d hd x => by
    refine T_forI (fun ds s => ∃ x, s = ⟨[some d, some d, x], m⟩ ∧ ∀ d ∈ ds, ∃ i : Nat, d = .int i ∧ i ∈ List.range xs.length) rfl ⟨_, rfl, fun d hd => ?_⟩ ?_ ?_
    · unfold rangeD at hd
      simp only [List.mem_map] at hd
      obtain ⟨i, hi, rfl⟩ := hd
      rw [Int.toNat_natCast] at hi
      exact ⟨i, by simp, hi⟩
    · rintro e ds _ ⟨x, rfl, he⟩
      obtain ⟨i, rfl, hi⟩ := he e List.mem_cons_self
      obtain ⟨y, h1, h2⟩ := ix i hi
      refine ⟨_, rfl, ?_⟩
      rcases hd with rfl | rfl
      · (simp (maxSteps := 1000000) (disch := first | omega | (simp only [List.length_append, List.length_set, List.length_cons, List.length_nil, List.length_map]; omega)) only [↓T_ret, ↓T_C, ↓T_var, ↓T_m1, ↓T_m2, ↓T_mn, ↓T_nil, ↓T_cons, ↓L_tb, ↓L_if, ↓L_and, ↓L_or, ↓T_not, ↓L_andV, ↓L_orV, ↓L_notV, ↓T_mt, ↓T_nx, ↓sq_nx, ↓sq_rt, ↓sq_bk, ↓sq_ct, ↓iq_t, ↓iq_f, ↓iq_dt, ↓iq_df, ↓iq_nt, ↓iq_nf, iq_d, iq_n, ↓tq_bl, ↓iqi_i, ↓Bool.not_true, ↓Bool.not_false, ↓i_ib, ↓i_ii, ↓i_is, ↓i_il, ↓i_it, ↓i_sb, ↓i_si, ↓i_ss, ↓i_sl, ↓i_st, ↓i_tb, ↓i_ti, ↓i_ts, ↓i_tl, ↓i_tt, ↓n_i, ↓n_s, ↓n_t, ↓n_p, ↓n_n, ↓T_bk, ↓T_ct, ↓T_rtN, ↓L_seq, ↓T_ex, ↓T_rt, ↓T_set, List.getElem?_concat_length, get_app, ↓T_sub, ↓T_part0, ↓T_part1, ↓T_sl, ↓T_for, ↓T_rng1, ↓T_wk, ↓q_slp, ↓q_sll, ↓q_slt, ↓q_revp, ↓q_revl, ↓q_addpp, ↓q_listp, ↓q_listl, ↓q_listt, ↓q_lists, ↓q_tuplep, ↓q_tuplel, ↓q_tuplet, ↓q_app, ↓q_notN, ↓T_frz, ↓T_call, ↓T_callK, ↓T_raise, ↓T_asg, ↓q_add, ↓q_sub, ↓q_neg, ↓q_lt, ↓q_le, ↓q_gt, ↓q_ge, ↓q_eq, ↓q_ne, ↓q_int, ↓q_intb, ↓q_mod, ↓q_ixp, ↓q_ixl, ↓q_ixt, ↓q_lenl, ↓q_lent, ↓q_lenp, ↓q_setL, ↓q_lst, ↓q_tup, ↓q_pow10, at0, at1, at2, at3, at4, Cell.lst.injEq, ↓q_mulr, ↓q_mull, ↓q_divn, ↓Tc_ok, ↓Tc_exc, ↓fi_int, ↓fi_bl, ↓fi_non, List.getElem?_cons_zero, List.getElem?_cons_succ, List.set_cons_zero, List.set_cons_succ, List.map_cons, List.map_nil, List.length_cons, List.length_nil, List.replicate, List.cons_append, List.nil_append, List.append_nil, Option.some.injEq, D.bl.injEq, D.int.injEq, ↓exists_eq_left, ↓exists_eq_left', exists_eq', ne_eq, reduceCtorEq, not_true_eq_false, not_false_eq_true, false_implies, true_implies, implies_true, forall_const, and_true, true_and, forall_eq, forall_eq', decide_eq_true_eq, decide_eq_false_iff_not, Nat.reduceAdd, Nat.reduceSub, Nat.zero_add, ↓i_lb, ↓i_li, ↓i_ls, ↓i_ll, ↓i_lt, ↓i_bb, ↓i_bi, ↓i_nb, ↓i_ni, ↓n_l, ↓n_b, ↓q_eqb, ↓q_eqs, List.cons.injEq, D.str.injEq, D.tup.injEq, D.lst.injEq, h1, h2])
        exact ⟨.inl trivial, _, rfl, fun d hd' => he d (List.mem_cons_of_mem _ hd')⟩
      · (simp (maxSteps := 1000000) (disch := first | omega | (simp only [List.length_append, List.length_set, List.length_cons, List.length_nil, List.length_map]; omega)) only [↓T_ret, ↓T_C, ↓T_var, ↓T_m1, ↓T_m2, ↓T_mn, ↓T_nil, ↓T_cons, ↓L_tb, ↓L_if, ↓L_and, ↓L_or, ↓T_not, ↓L_andV, ↓L_orV, ↓L_notV, ↓T_mt, ↓T_nx, ↓sq_nx, ↓sq_rt, ↓sq_bk, ↓sq_ct, ↓iq_t, ↓iq_f, ↓iq_dt, ↓iq_df, ↓iq_nt, ↓iq_nf, iq_d, iq_n, ↓tq_bl, ↓iqi_i, ↓Bool.not_true, ↓Bool.not_false, ↓i_ib, ↓i_ii, ↓i_is, ↓i_il, ↓i_it, ↓i_sb, ↓i_si, ↓i_ss, ↓i_sl, ↓i_st, ↓i_tb, ↓i_ti, ↓i_ts, ↓i_tl, ↓i_tt, ↓n_i, ↓n_s, ↓n_t, ↓n_p, ↓n_n, ↓T_bk, ↓T_ct, ↓T_rtN, ↓L_seq, ↓T_ex, ↓T_rt, ↓T_set, List.getElem?_concat_length, get_app, ↓T_sub, ↓T_part0, ↓T_part1, ↓T_sl, ↓T_for, ↓T_rng1, ↓T_wk, ↓q_slp, ↓q_sll, ↓q_slt, ↓q_revp, ↓q_revl, ↓q_addpp, ↓q_listp, ↓q_listl, ↓q_listt, ↓q_lists, ↓q_tuplep, ↓q_tuplel, ↓q_tuplet, ↓q_app, ↓q_notN, ↓T_frz, ↓T_call, ↓T_callK, ↓T_raise, ↓T_asg, ↓q_add, ↓q_sub, ↓q_neg, ↓q_lt, ↓q_le, ↓q_gt, ↓q_ge, ↓q_eq, ↓q_ne, ↓q_int, ↓q_intb, ↓q_mod, ↓q_ixp, ↓q_ixl, ↓q_ixt, ↓q_lenl, ↓q_lent, ↓q_lenp, ↓q_setL, ↓q_lst, ↓q_tup, ↓q_pow10, at0, at1, at2, at3, at4, Cell.lst.injEq, ↓q_mulr, ↓q_mull, ↓q_divn, ↓Tc_ok, ↓Tc_exc, ↓fi_int, ↓fi_bl, ↓fi_non, List.getElem?_cons_zero, List.getElem?_cons_succ, List.set_cons_zero, List.set_cons_succ, List.map_cons, List.map_nil, List.length_cons, List.length_nil, List.replicate, List.cons_append, List.nil_append, List.append_nil, Option.some.injEq, D.bl.injEq, D.int.injEq, ↓exists_eq_left, ↓exists_eq_left', exists_eq', ne_eq, reduceCtorEq, not_true_eq_false, not_false_eq_true, false_implies, true_implies, implies_true, forall_const, and_true, true_and, forall_eq, forall_eq', decide_eq_true_eq, decide_eq_false_iff_not, Nat.reduceAdd, Nat.reduceSub, Nat.zero_add, ↓i_lb, ↓i_li, ↓i_ls, ↓i_ll, ↓i_lt, ↓i_bb, ↓i_bi, ↓i_nb, ↓i_ni, ↓n_l, ↓n_b, ↓q_eqb, ↓q_eqs, List.cons.injEq, D.str.injEq, D.tup.injEq, D.lst.injEq, h1, h2])
        exact ⟨.inl trivial, _, rfl, fun d hd' => he d (List.mem_cons_of_mem _ hd')⟩
    · rintro _ ⟨x, rfl, _⟩
      exact ⟨rfl, x, rfl⟩
  rcases hd with rfl | rfl
  · (simp (maxSteps := 1000000) (disch := first | omega | (simp only [List.length_append, List.length_set, List.length_cons, List.length_nil, List.length_map]; omega)) only [↓T_ret, ↓T_C, ↓T_var, ↓T_m1, ↓T_m2, ↓T_mn, ↓T_nil, ↓T_cons, ↓L_tb, ↓L_if, ↓L_and, ↓L_or, ↓T_not, ↓L_andV, ↓L_orV, ↓L_notV, ↓T_mt, ↓T_nx, ↓sq_nx, ↓sq_rt, ↓sq_bk, ↓sq_ct, ↓iq_t, ↓iq_f, ↓iq_dt, ↓iq_df, ↓iq_nt, ↓iq_nf, iq_d, iq_n, ↓tq_bl, ↓iqi_i, ↓Bool.not_true, ↓Bool.not_false, ↓i_ib, ↓i_ii, ↓i_is, ↓i_il, ↓i_it, ↓i_sb, ↓i_si, ↓i_ss, ↓i_sl, ↓i_st, ↓i_tb, ↓i_ti, ↓i_ts, ↓i_tl, ↓i_tt, ↓n_i, ↓n_s, ↓n_t, ↓n_p, ↓n_n, ↓T_bk, ↓T_ct, ↓T_rtN, ↓L_seq, ↓T_ex, ↓T_rt, ↓T_set, List.getElem?_concat_length, get_app, ↓T_sub, ↓T_part0, ↓T_part1, ↓T_sl, ↓T_for, ↓T_rng1, ↓T_wk, ↓q_slp, ↓q_sll, ↓q_slt, ↓q_revp, ↓q_revl, ↓q_addpp, ↓q_listp, ↓q_listl, ↓q_listt, ↓q_lists, ↓q_tuplep, ↓q_tuplel, ↓q_tuplet, ↓q_app, ↓q_notN, ↓T_frz, ↓T_call, ↓T_callK, ↓T_raise, ↓T_asg, ↓q_add, ↓q_sub, ↓q_neg, ↓q_lt, ↓q_le, ↓q_gt, ↓q_ge, ↓q_eq, ↓q_ne, ↓q_int, ↓q_intb, ↓q_mod, ↓q_ixp, ↓q_ixl, ↓q_ixt, ↓q_lenl, ↓q_lent, ↓q_lenp, ↓q_setL, ↓q_lst, ↓q_tup, ↓q_pow10, at0, at1, at2, at3, at4, Cell.lst.injEq, ↓q_mulr, ↓q_mull, ↓q_divn, ↓Tc_ok, ↓Tc_exc, ↓fi_int, ↓fi_bl, ↓fi_non, List.getElem?_cons_zero, List.getElem?_cons_succ, List.set_cons_zero, List.set_cons_succ, List.map_cons, List.map_nil, List.length_cons, List.length_nil, List.replicate, List.cons_append, List.nil_append, List.append_nil, Option.some.injEq, D.bl.injEq, D.int.injEq, ↓exists_eq_left, ↓exists_eq_left', exists_eq', ne_eq, reduceCtorEq, not_true_eq_false, not_false_eq_true, false_implies, true_implies, implies_true, forall_const, and_true, true_and, forall_eq, forall_eq', decide_eq_true_eq, decide_eq_false_iff_not, Nat.reduceAdd, Nat.reduceSub, Nat.zero_add, ↓i_lb, ↓i_li, ↓i_ls, ↓i_ll, ↓i_lt, ↓i_bb, ↓i_bi, ↓i_nb, ↓i_ni, ↓n_l, ↓n_b, ↓q_eqb, ↓q_eqs, List.cons.injEq, D.str.injEq, D.tup.injEq, D.lst.injEq])
    refine ⟨rg_ok (by omega) (by omega), T_imp (key _ (.inl rfl) none) ?_⟩
    rintro _ _ ⟨rfl, x, rfl⟩
    (simp (maxSteps := 1000000) (disch := first | omega | (simp only [List.length_append, List.length_set, List.length_cons, List.length_nil, List.length_map]; omega)) only [↓T_ret, ↓T_C, ↓T_var, ↓T_m1, ↓T_m2, ↓T_mn, ↓T_nil, ↓T_cons, ↓L_tb, ↓L_if, ↓L_and, ↓L_or, ↓T_not, ↓L_andV, ↓L_orV, ↓L_notV, ↓T_mt, ↓T_nx, ↓sq_nx, ↓sq_rt, ↓sq_bk, ↓sq_ct, ↓iq_t, ↓iq_f, ↓iq_dt, ↓iq_df, ↓iq_nt, ↓iq_nf, iq_d, iq_n, ↓tq_bl, ↓iqi_i, ↓Bool.not_true, ↓Bool.not_false, ↓i_ib, ↓i_ii, ↓i_is, ↓i_il, ↓i_it, ↓i_sb, ↓i_si, ↓i_ss, ↓i_sl, ↓i_st, ↓i_tb, ↓i_ti, ↓i_ts, ↓i_tl, ↓i_tt, ↓n_i, ↓n_s, ↓n_t, ↓n_p, ↓n_n, ↓T_bk, ↓T_ct, ↓T_rtN, ↓L_seq, ↓T_ex, ↓T_rt, ↓T_set, List.getElem?_concat_length, get_app, ↓T_sub, ↓T_part0, ↓T_part1, ↓T_sl, ↓T_for, ↓T_rng1, ↓T_wk, ↓q_slp, ↓q_sll, ↓q_slt, ↓q_revp, ↓q_revl, ↓q_addpp, ↓q_listp, ↓q_listl, ↓q_listt, ↓q_lists, ↓q_tuplep, ↓q_tuplel, ↓q_tuplet, ↓q_app, ↓q_notN, ↓T_frz, ↓T_call, ↓T_callK, ↓T_raise, ↓T_asg, ↓q_add, ↓q_sub, ↓q_neg, ↓q_lt, ↓q_le, ↓q_gt, ↓q_ge, ↓q_eq, ↓q_ne, ↓q_int, ↓q_intb, ↓q_mod, ↓q_ixp, ↓q_ixl, ↓q_ixt, ↓q_lenl, ↓q_lent, ↓q_lenp, ↓q_setL, ↓q_lst, ↓q_tup, ↓q_pow10, at0, at1, at2, at3, at4, Cell.lst.injEq, ↓q_mulr, ↓q_mull, ↓q_divn, ↓Tc_ok, ↓Tc_exc, ↓fi_int, ↓fi_bl, ↓fi_non, List.getElem?_cons_zero, List.getElem?_cons_succ, List.set_cons_zero, List.set_cons_succ, List.map_cons, List.map_nil, List.length_cons, List.length_nil, List.replicate, List.cons_append, List.nil_append, List.append_nil, Option.some.injEq, D.bl.injEq, D.int.injEq, ↓exists_eq_left, ↓exists_eq_left', exists_eq', ne_eq, reduceCtorEq, not_true_eq_false, not_false_eq_true, false_implies, true_implies, implies_true, forall_const, and_true, true_and, forall_eq, forall_eq', decide_eq_true_eq, decide_eq_false_iff_not, Nat.reduceAdd, Nat.reduceSub, Nat.zero_add, ↓i_lb, ↓i_li, ↓i_ls, ↓i_ll, ↓i_lt, ↓i_bb, ↓i_bi, ↓i_nb, ↓i_ni, ↓n_l, ↓n_b, ↓q_eqb, ↓q_eqs, List.cons.injEq, D.str.injEq, D.tup.injEq, D.lst.injEq])
  · (simp (maxSteps := 1000000) (disch := first | omega | (simp only [List.length_append, List.length_set, List.length_cons, List.length_nil, List.length_map]; omega)) only [↓T_ret, ↓T_C, ↓T_var, ↓T_m1, ↓T_m2, ↓T_mn, ↓T_nil, ↓T_cons, ↓L_tb, ↓L_if, ↓L_and, ↓L_or, ↓T_not, ↓L_andV, ↓L_orV, ↓L_notV, ↓T_mt, ↓T_nx, ↓sq_nx, ↓sq_rt, ↓sq_bk, ↓sq_ct, ↓iq_t, ↓iq_f, ↓iq_dt, ↓iq_df, ↓iq_nt, ↓iq_nf, iq_d, iq_n, ↓tq_bl, ↓iqi_i, ↓Bool.not_true, ↓Bool.not_false, ↓i_ib, ↓i_ii, ↓i_is, ↓i_il, ↓i_it, ↓i_sb, ↓i_si, ↓i_ss, ↓i_sl, ↓i_st, ↓i_tb, ↓i_ti, ↓i_ts, ↓i_tl, ↓i_tt, ↓n_i, ↓n_s, ↓n_t, ↓n_p, ↓n_n, ↓T_bk, ↓T_ct, ↓T_rtN, ↓L_seq, ↓T_ex, ↓T_rt, ↓T_set, List.getElem?_concat_length, get_app, ↓T_sub, ↓T_part0, ↓T_part1, ↓T_sl, ↓T_for, ↓T_rng1, ↓T_wk, ↓q_slp, ↓q_sll, ↓q_slt, ↓q_revp, ↓q_revl, ↓q_addpp, ↓q_listp, ↓q_listl, ↓q_listt, ↓q_lists, ↓q_tuplep, ↓q_tuplel, ↓q_tuplet, ↓q_app, ↓q_notN, ↓T_frz, ↓T_call, ↓T_callK, ↓T_raise, ↓T_asg, ↓q_add, ↓q_sub, ↓q_neg, ↓q_lt, ↓q_le, ↓q_gt, ↓q_ge, ↓q_eq, ↓q_ne, ↓q_int, ↓q_intb, ↓q_mod, ↓q_ixp, ↓q_ixl, ↓q_ixt, ↓q_lenl, ↓q_lent, ↓q_lenp, ↓q_setL, ↓q_lst, ↓q_tup, ↓q_pow10, at0, at1, at2, at3, at4, Cell.lst.injEq, ↓q_mulr, ↓q_mull, ↓q_divn, ↓Tc_ok, ↓Tc_exc, ↓fi_int, ↓fi_bl, ↓fi_non, List.getElem?_cons_zero, List.getElem?_cons_succ, List.set_cons_zero, List.set_cons_succ, List.map_cons, List.map_nil, List.length_cons, List.length_nil, List.replicate, List.cons_append, List.nil_append, List.append_nil, Option.some.injEq, D.bl.injEq, D.int.injEq, ↓exists_eq_left, ↓exists_eq_left', exists_eq', ne_eq, reduceCtorEq, not_true_eq_false, not_false_eq_true, false_implies, true_implies, implies_true, forall_const, and_true, true_and, forall_eq, forall_eq', decide_eq_true_eq, decide_eq_false_iff_not, Nat.reduceAdd, Nat.reduceSub, Nat.zero_add, ↓i_lb, ↓i_li, ↓i_ls, ↓i_ll, ↓i_lt, ↓i_bb, ↓i_bi, ↓i_nb, ↓i_ni, ↓n_l, ↓n_b, ↓q_eqb, ↓q_eqs, List.cons.injEq, D.str.injEq, D.tup.injEq, D.lst.injEq])
    refine ⟨rg_ok (by omega) (by omega), T_imp (key _ (.inr rfl) none) ?_⟩
    rintro _ _ ⟨rfl, x, rfl⟩
    (simp (maxSteps := 1000000) (disch := first | omega | (simp only [List.length_append, List.length_set, List.length_cons, List.length_nil, List.length_map]; omega)) only [↓T_ret, ↓T_C, ↓T_var, ↓T_m1, ↓T_m2, ↓T_mn, ↓T_nil, ↓T_cons, ↓L_tb, ↓L_if, ↓L_and, ↓L_or, ↓T_not, ↓L_andV, ↓L_orV, ↓L_notV, ↓T_mt, ↓T_nx, ↓sq_nx, ↓sq_rt, ↓sq_bk, ↓sq_ct, ↓iq_t, ↓iq_f, ↓iq_dt, ↓iq_df, ↓iq_nt, ↓iq_nf, iq_d, iq_n, ↓tq_bl, ↓iqi_i, ↓Bool.not_true, ↓Bool.not_false, ↓i_ib, ↓i_ii, ↓i_is, ↓i_il, ↓i_it, ↓i_sb, ↓i_si, ↓i_ss, ↓i_sl, ↓i_st, ↓i_tb, ↓i_ti, ↓i_ts, ↓i_tl, ↓i_tt, ↓n_i, ↓n_s, ↓n_t, ↓n_p, ↓n_n, ↓T_bk, ↓T_ct, ↓T_rtN, ↓L_seq, ↓T_ex, ↓T_rt, ↓T_set, List.getElem?_concat_length, get_app, ↓T_sub, ↓T_part0, ↓T_part1, ↓T_sl, ↓T_for, ↓T_rng1, ↓T_wk, ↓q_slp, ↓q_sll, ↓q_slt, ↓q_revp, ↓q_revl, ↓q_addpp, ↓q_listp, ↓q_listl, ↓q_listt, ↓q_lists, ↓q_tuplep, ↓q_tuplel, ↓q_tuplet, ↓q_app, ↓q_notN, ↓T_frz, ↓T_call, ↓T_callK, ↓T_raise, ↓T_asg, ↓q_add, ↓q_sub, ↓q_neg, ↓q_lt, ↓q_le, ↓q_gt, ↓q_ge, ↓q_eq, ↓q_ne, ↓q_int, ↓q_intb, ↓q_mod, ↓q_ixp, ↓q_ixl, ↓q_ixt, ↓q_lenl, ↓q_lent, ↓q_lenp, ↓q_setL, ↓q_lst, ↓q_tup, ↓q_pow10, at0, at1, at2, at3, at4, Cell.lst.injEq, ↓q_mulr, ↓q_mull, ↓q_divn, ↓Tc_ok, ↓Tc_exc, ↓fi_int, ↓fi_bl, ↓fi_non, List.getElem?_cons_zero, List.getElem?_cons_succ, List.set_cons_zero, List.set_cons_succ, List.map_cons, List.map_nil, List.length_cons, List.length_nil, List.replicate, List.cons_append, List.nil_append, List.append_nil, Option.some.injEq, D.bl.injEq, D.int.injEq, ↓exists_eq_left, ↓exists_eq_left', exists_eq', ne_eq, reduceCtorEq, not_true_eq_false, not_false_eq_true, false_implies, true_implies, implies_true, forall_const, and_true, true_and, forall_eq, forall_eq', decide_eq_true_eq, decide_eq_false_iff_not, Nat.reduceAdd, Nat.reduceSub, Nat.zero_add, ↓i_lb, ↓i_li, ↓i_ls, ↓i_ll, ↓i_lt, ↓i_bb, ↓i_bi, ↓i_nb, ↓i_ni, ↓n_l, ↓n_b, ↓q_eqb, ↓q_eqs, List.cons.injEq, D.str.injEq, D.tup.injEq, D.lst.injEq])
theorem same_refl : ∀ (n : Nat) (d : D) (m : Mem), plainD n d = true → φ__law_same n [d, d] m = .ok (.bl true) m
  | 0, d, m, h => by unfold plainD at h; cases h
  | n + 1, d, m, h => by
    cases d with
    | non => exact same_non n m
    | bl b => exact same_bl n b m
    | int v => exact same_int n v m
    | str v => exact same_str n v m
    | tup xs =>
      unfold plainD at h
      rw [Bool.and_eq_true, decide_eq_true_eq, List.all_eq_true] at h
      exact same_seq n m xs _ (.inl rfl) h.1 fun d hd => same_refl n d m (h.2 d hd)
    | lst xs =>
      unfold plainD at h
      rw [Bool.and_eq_true, decide_eq_true_eq, List.all_eq_true] at h
      exact same_seq n m xs _ (.inr rfl) h.1 fun d hd => same_refl n d m (h.2 d hd)
    | _ => unfold plainD at h; cases h
theorem same_ok (d : D) (h : plainD 10 d = true) (m : Mem) : iso (φ__law_same 10) [d, d] m = .ok (.bl true) m :=
  iso_ok (same_refl 10 d [] h) (by unfold D.loL; rw [plain_lo 10 d h]; unfold D.loL; rw [plain_lo 10 d h]; rfl) rfl m
end K38

set_option maxRecDepth 100000
set_option maxHeartbeats 2000000
namespace K38
open PySem PySem.Spec PyProof.Rows L2 Dl
theorem number (low high : Int) (c : Cell) (hc : isS c) (hl : low ≤ high := by omega) (h1 : -1000000000000000000000000 ≤ low := by omega) (h2 : high ≤ 1000000000000000000000000 := by omega) :
    ∃ r c', (∀ t, isoK 1 φ__law_number [.ptr 0, .int low, .int high] (c :: t) = .ok (.int r) (c' :: t)) ∧ isS c' ∧ low ≤ r ∧ r ≤ high := by
  refine DrV.get (DrV.of ?_) hc rfl fun _ _ => rfl
  rw [φ__law_number]; refine (T_fn rfl).mpr ?_; rw [m__law_number]
  obtain ⟨k, c1, e1, s1, _⟩ := take 6 c hc
  obtain ⟨r, c2, e2, s2, r0, r1, r2⟩ := take (high - low + 1) c1 s1
  (simp (maxSteps := 1000000) (disch := first | omega | (simp only [List.length_append, List.length_set, List.length_cons, List.length_nil, List.length_map]; omega)) only [↓T_ret, ↓T_C, ↓T_var, ↓T_m1, ↓T_m2, ↓T_mn, ↓T_nil, ↓T_cons, ↓L_tb, ↓L_if, ↓L_and, ↓L_or, ↓T_not, ↓L_andV, ↓L_orV, ↓L_notV, ↓T_mt, ↓T_nx, ↓sq_nx, ↓sq_rt, ↓sq_bk, ↓sq_ct, ↓iq_t, ↓iq_f, ↓iq_dt, ↓iq_df, ↓iq_nt, ↓iq_nf, iq_d, iq_n, ↓tq_bl, ↓iqi_i, ↓Bool.not_true, ↓Bool.not_false, ↓i_ib, ↓i_ii, ↓i_is, ↓i_il, ↓i_it, ↓i_sb, ↓i_si, ↓i_ss, ↓i_sl, ↓i_st, ↓i_tb, ↓i_ti, ↓i_ts, ↓i_tl, ↓i_tt, ↓n_i, ↓n_s, ↓n_t, ↓n_p, ↓n_n, ↓T_bk, ↓T_ct, ↓T_rtN, ↓L_seq, ↓T_ex, ↓T_rt, ↓T_set, List.getElem?_concat_length, get_app, ↓T_sub, ↓T_part0, ↓T_part1, ↓T_sl, ↓T_for, ↓T_rng1, ↓T_wk, ↓q_slp, ↓q_sll, ↓q_slt, ↓q_revp, ↓q_revl, ↓q_addpp, ↓q_listp, ↓q_listl, ↓q_listt, ↓q_lists, ↓q_tuplep, ↓q_tuplel, ↓q_tuplet, ↓q_app, ↓q_notN, ↓T_frz, ↓T_call, ↓T_callK, ↓T_raise, ↓T_asg, ↓q_add, ↓q_sub, ↓q_neg, ↓q_lt, ↓q_le, ↓q_gt, ↓q_ge, ↓q_eq, ↓q_ne, ↓q_int, ↓q_intb, ↓q_mod, ↓q_ixp, ↓q_ixl, ↓q_ixt, ↓q_lenl, ↓q_lent, ↓q_lenp, ↓q_setL, ↓q_lst, ↓q_tup, ↓q_pow10, at0, at1, at2, at3, at4, Cell.lst.injEq, ↓q_mulr, ↓q_mull, ↓q_divn, ↓Tc_ok, ↓Tc_exc, ↓fi_int, ↓fi_bl, ↓fi_non, List.getElem?_cons_zero, List.getElem?_cons_succ, List.set_cons_zero, List.set_cons_succ, List.map_cons, List.map_nil, List.length_cons, List.length_nil, List.replicate, List.cons_append, List.nil_append, List.append_nil, Option.some.injEq, D.bl.injEq, D.int.injEq, ↓exists_eq_left, ↓exists_eq_left', exists_eq', ne_eq, reduceCtorEq, not_true_eq_false, not_false_eq_true, false_implies, true_implies, implies_true, forall_const, and_true, true_and, forall_eq, forall_eq', decide_eq_true_eq, decide_eq_false_iff_not, Nat.reduceAdd, Nat.reduceSub, Nat.zero_add, ↓i_lb, ↓i_li, ↓i_ls, ↓i_ll, ↓i_lt, ↓i_bb, ↓i_bi, ↓i_nb, ↓i_ni, ↓n_l, ↓n_b, ↓q_eqb, ↓q_eqs, List.cons.injEq, D.str.injEq, D.tup.injEq, D.lst.injEq, e1, e2, fin_ci s1, fin_ci s2, s1, s2])
  (simp only [exists_and_left, exists_and_right, exists_eq_left, exists_eq_left', exists_eq', List.cons.injEq, D.int.injEq, D.bl.injEq, D.str.injEq, D.tup.injEq, D.lst.injEq, and_true, true_and, implies_true, forall_const, and_self, s1, s2])
  omega
end K38

set_option maxRecDepth 100000
set_option maxHeartbeats 2000000
namespace K38
open PySem PySem.Spec PyProof.Rows L2 Dl
theorem whole (c : Cell) (hc : isS c) : ∃ r c', (∀ t, isoK 1 φ__law_whole [.ptr 0] (c :: t) = .ok (.int r) (c' :: t)) ∧ isS c' ∧ True := by
  refine DrV.get (DrV.of ?_) hc rfl fun _ _ => rfl
  rw [φ__law_whole]; refine (T_fn rfl).mpr ?_; rw [m__law_whole]
  obtain ⟨k, c1, e1, s1, _⟩ := take 8 c hc
  obtain ⟨r2, c2, e2, s2, _⟩ := take 24 c1 s1
  obtain ⟨r3, c3, e3, s3, _⟩ := take 2001 c1 s1
  obtain ⟨r4, c4, e4, s4, _⟩ := take 1000000000000 c1 s1
  (simp (maxSteps := 1000000) (disch := first | omega | (simp only [List.length_append, List.length_set, List.length_cons, List.length_nil, List.length_map]; omega)) only [↓T_ret, ↓T_C, ↓T_var, ↓T_m1, ↓T_m2, ↓T_mn, ↓T_nil, ↓T_cons, ↓L_tb, ↓L_if, ↓L_and, ↓L_or, ↓T_not, ↓L_andV, ↓L_orV, ↓L_notV, ↓T_mt, ↓T_nx, ↓sq_nx, ↓sq_rt, ↓sq_bk, ↓sq_ct, ↓iq_t, ↓iq_f, ↓iq_dt, ↓iq_df, ↓iq_nt, ↓iq_nf, iq_d, iq_n, ↓tq_bl, ↓iqi_i, ↓Bool.not_true, ↓Bool.not_false, ↓i_ib, ↓i_ii, ↓i_is, ↓i_il, ↓i_it, ↓i_sb, ↓i_si, ↓i_ss, ↓i_sl, ↓i_st, ↓i_tb, ↓i_ti, ↓i_ts, ↓i_tl, ↓i_tt, ↓n_i, ↓n_s, ↓n_t, ↓n_p, ↓n_n, ↓T_bk, ↓T_ct, ↓T_rtN, ↓L_seq, ↓T_ex, ↓T_rt, ↓T_set, List.getElem?_concat_length, get_app, ↓T_sub, ↓T_part0, ↓T_part1, ↓T_sl, ↓T_for, ↓T_rng1, ↓T_wk, ↓q_slp, ↓q_sll, ↓q_slt, ↓q_revp, ↓q_revl, ↓q_addpp, ↓q_listp, ↓q_listl, ↓q_listt, ↓q_lists, ↓q_tuplep, ↓q_tuplel, ↓q_tuplet, ↓q_app, ↓q_notN, ↓T_frz, ↓T_call, ↓T_callK, ↓T_raise, ↓T_asg, ↓q_add, ↓q_sub, ↓q_neg, ↓q_lt, ↓q_le, ↓q_gt, ↓q_ge, ↓q_eq, ↓q_ne, ↓q_int, ↓q_intb, ↓q_mod, ↓q_ixp, ↓q_ixl, ↓q_ixt, ↓q_lenl, ↓q_lent, ↓q_lenp, ↓q_setL, ↓q_lst, ↓q_tup, ↓q_pow10, at0, at1, at2, at3, at4, Cell.lst.injEq, ↓q_mulr, ↓q_mull, ↓q_divn, ↓Tc_ok, ↓Tc_exc, ↓fi_int, ↓fi_bl, ↓fi_non, List.getElem?_cons_zero, List.getElem?_cons_succ, List.set_cons_zero, List.set_cons_succ, List.map_cons, List.map_nil, List.length_cons, List.length_nil, List.replicate, List.cons_append, List.nil_append, List.append_nil, Option.some.injEq, D.bl.injEq, D.int.injEq, ↓exists_eq_left, ↓exists_eq_left', exists_eq', ne_eq, reduceCtorEq, not_true_eq_false, not_false_eq_true, false_implies, true_implies, implies_true, forall_const, and_true, true_and, forall_eq, forall_eq', decide_eq_true_eq, decide_eq_false_iff_not, Nat.reduceAdd, Nat.reduceSub, Nat.zero_add, ↓i_lb, ↓i_li, ↓i_ls, ↓i_ll, ↓i_lt, ↓i_bb, ↓i_bi, ↓i_nb, ↓i_ni, ↓n_l, ↓n_b, ↓q_eqb, ↓q_eqs, List.cons.injEq, D.str.injEq, D.tup.injEq, D.lst.injEq, e1, e2, e3, e4, fin_ci s2, fin_ci s3, fin_ci s4, s2, s3, s4, pow12, pow40])
  (simp only [exists_and_left, exists_and_right, exists_eq_left, exists_eq_left', exists_eq', List.cons.injEq, D.int.injEq, D.bl.injEq, D.str.injEq, D.tup.injEq, D.lst.injEq, and_true, true_and, implies_true, forall_const, and_self, s2, s3, s4])
end K38

set_option maxRecDepth 100000
set_option maxHeartbeats 2000000
namespace K38
open PySem PySem.Spec PyProof.Rows L2 Dl

def ptrs (b N : Nat) : List D := (List.range N).map fun i => D.ptr (b + 2 * i + 1)
structure Mat (m : Mem) (b N p : Nat) (mat : List (List Int)) : Prop where
  top : m[p]? = some (.lst (ptrs b N))
  row : ∀ (i : Nat) (r : List Int), mat[i]? = some r → m[b + 2 * i + 1]? = some (.lst (r.map .int))
  len : mat.length = N
  wid : ∀ (i : Nat) (r : List Int), mat[i]? = some r → r.length = N
  pos : p = b + 2 * N
def cellM (mat : List (List Int)) (i k : Nat) : Int := ((mat[i]?.getD [])[k]?).getD 0
def bump (mat : List (List Int)) (i k : Nat) (v : Int) : List (List Int) := mat.set i ((mat[i]?.getD []).set k (cellM mat i k + v))
section
variable {m : Mem} {b N p : Nat} {mat : List (List Int)}
theorem Mat.at_ (h : Mat m b N p mat) {i : Int} (h0 : 0 ≤ i) (h1 : i < N) : atI (ptrs b N) i = some (.ptr (b + 2 * i.toNat + 1)) := by
  unfold ptrs
  rw [atI_nat h0 (by simpa using h1)]
  simp [List.getElem?_range (show i.toNat < N by omega)]
theorem Mat.rowOf (h : Mat m b N p mat) {i : Nat} (hi : i < N) : mat[i]? = some (mat[i]?.getD []) := by
  rw [List.getElem?_eq_getElem (by rw [h.len]; exact hi)]; rfl
theorem Mat.cell (h : Mat m b N p mat) {i k : Int} (h0 : 0 ≤ i) (h1 : i < N) (k0 : 0 ≤ k) (k1 : k < N) : m[b + 2 * i.toNat + 1]? = some (.lst ((mat[i.toNat]?.getD []).map .int)) ∧ atI ((mat[i.toNat]?.getD []).map D.int) k = some (.int (cellM mat i.toNat k.toNat)) := by
  have e := h.rowOf (i := i.toNat) (by omega)
  have w := h.wid _ _ e
  refine ⟨h.row _ _ e, ?_⟩
  rw [atI_nat k0 (by rw [List.length_map]; omega), List.getElem?_map]
  unfold cellM
  rw [List.getElem?_eq_getElem (by omega)]
  rfl
theorem Mat.bump_ (h : Mat m b N p mat) {i k : Int} (h0 : 0 ≤ i) (h1 : i < N) (k0 : 0 ≤ k) (k1 : k < N) (v : Int) : Mat (m.set (b + 2 * i.toNat + 1) (.lst (((mat[i.toNat]?.getD []).map D.int).set k.toNat (.int (cellM mat i.toNat k.toNat + v))))) b N p (bump mat i.toNat k.toNat v) := by
  have hp := h.pos
  have hi : i.toNat < N := by omega
  have e := h.rowOf hi
  have ee := h.row _ _ e
  have hlt := (List.getElem?_eq_some_iff.mp ee).1
  refine ⟨?_, fun j r hr => ?_, by unfold bump; rw [List.length_set]; exact h.len, fun j r hr => ?_, hp⟩
  · rw [List.getElem?_set_ne (by omega)]; exact h.top
  · unfold bump at hr
    by_cases hj : j = i.toNat
    · subst hj
      rw [List.getElem?_set_self (by rw [h.len]; exact hi)] at hr
      cases hr
      rw [List.getElem?_set_self hlt, List.map_set]
    · rw [List.getElem?_set_ne (Ne.symm hj)] at hr
      rw [List.getElem?_set_ne (by omega)]
      exact h.row _ _ hr
  · unfold bump at hr
    by_cases hj : j = i.toNat
    · subst hj
      rw [List.getElem?_set_self (by rw [h.len]; exact hi)] at hr
      cases hr
      rw [List.length_set]; exact h.wid _ _ e
    · rw [List.getElem?_set_ne (Ne.symm hj)] at hr
      exact h.wid _ _ hr
theorem Mat.keep (h : Mat m b N p mat) {k : Nat} {c : Cell} (hk : p < k) : Mat (m.set k c) b N p mat := by
  have hp := h.pos
  refine ⟨by rw [List.getElem?_set_ne (by omega)]; exact h.top, fun i r hr => ?_, h.len, h.wid, hp⟩
  have hi : i < N := by rw [← h.len]; exact (List.getElem?_eq_some_iff.mp hr).1
  rw [List.getElem?_set_ne (by omega)]
  exact h.row i r hr
theorem Mat.app (h : Mat m b N p mat) (t : Mem) : Mat (m ++ t) b N p mat :=
  ⟨(get_app (List.getElem?_eq_some_iff.mp h.top).1).trans h.top, fun i r hr => (get_app (List.getElem?_eq_some_iff.mp (h.row i r hr)).1).trans (h.row i r hr), h.len, h.wid, h.pos⟩
end
def zero (N : Nat) : List (List Int) := List.replicate N (List.replicate N 0)
theorem rep_flat (k : Nat) : (List.replicate k [D.int 0]).flatten = (List.replicate k (0 : Int)).map D.int := by
  induction k with
  | zero => rfl
  | succ k ih => rw [List.replicate_succ, List.flatten_cons, ih]; rfl
theorem zeros {n : Nat} (hn : n ≤ 10) (m : Mem) (env : List (Option O)) (hv : env[0]? = some (some (.int (n : Nat)))) (j : Nat) (hj : j ≠ 0) (hl : j < env.length) (Q : D → S → Prop) (E : D → S → Prop)
    (h : ∀ m', Mat m' m.length (n + 1) (m.length + 2 * (n + 1)) (zero (n + 1)) → m'.length = m.length + 2 * (n + 1) + 1 → (∃ t, m' = m ++ t) → Q (.ptr (m.length + 2 * (n + 1))) ⟨env, m'⟩) :
    T (mLc (mRng1 (m2 pAdd (mVar 0) (mC (.int 1)))) (gN j) tTrue (m2 pMul (mn pLst (mCons (mC (.int 0)) mNil)) (m2 pAdd (mVar 0) (mC (.int 1)))) [j]) ⟨env, m⟩ Q E := by
  refine T_lcI ?_
  (simp (maxSteps := 1000000) (disch := first | omega | (simp only [List.length_append, List.length_set, List.length_cons, List.length_nil, List.length_map]; omega)) only [↓T_ret, ↓T_C, ↓T_var, ↓T_m1, ↓T_m2, ↓T_mn, ↓T_nil, ↓T_cons, ↓L_tb, ↓L_if, ↓L_and, ↓L_or, ↓T_not, ↓L_andV, ↓L_orV, ↓L_notV, ↓T_mt, ↓T_nx, ↓sq_nx, ↓sq_rt, ↓sq_bk, ↓sq_ct, ↓iq_t, ↓iq_f, ↓iq_dt, ↓iq_df, ↓iq_nt, ↓iq_nf, iq_d, iq_n, ↓tq_bl, ↓iqi_i, ↓Bool.not_true, ↓Bool.not_false, ↓i_ib, ↓i_ii, ↓i_is, ↓i_il, ↓i_it, ↓i_sb, ↓i_si, ↓i_ss, ↓i_sl, ↓i_st, ↓i_tb, ↓i_ti, ↓i_ts, ↓i_tl, ↓i_tt, ↓n_i, ↓n_s, ↓n_t, ↓n_p, ↓n_n, ↓T_bk, ↓T_ct, ↓T_rtN, ↓L_seq, ↓T_ex, ↓T_rt, ↓T_set, List.getElem?_concat_length, get_app, ↓T_sub, ↓T_part0, ↓T_part1, ↓T_sl, ↓T_for, ↓T_rng1, ↓T_wk, ↓q_slp, ↓q_sll, ↓q_slt, ↓q_revp, ↓q_revl, ↓q_addpp, ↓q_listp, ↓q_listl, ↓q_listt, ↓q_lists, ↓q_tuplep, ↓q_tuplel, ↓q_tuplet, ↓q_app, ↓q_notN, ↓T_frz, ↓T_call, ↓T_callK, ↓T_raise, ↓T_asg, ↓q_add, ↓q_sub, ↓q_neg, ↓q_lt, ↓q_le, ↓q_gt, ↓q_ge, ↓q_eq, ↓q_ne, ↓q_int, ↓q_intb, ↓q_mod, ↓q_ixp, ↓q_ixl, ↓q_ixt, ↓q_lenl, ↓q_lent, ↓q_lenp, ↓q_setL, ↓q_lst, ↓q_tup, ↓q_pow10, at0, at1, at2, at3, at4, Cell.lst.injEq, ↓q_mulr, ↓q_mull, ↓q_divn, ↓Tc_ok, ↓Tc_exc, ↓fi_int, ↓fi_bl, ↓fi_non, List.getElem?_cons_zero, List.getElem?_cons_succ, List.set_cons_zero, List.set_cons_succ, List.map_cons, List.map_nil, List.length_cons, List.length_nil, List.replicate, List.cons_append, List.nil_append, List.append_nil, Option.some.injEq, D.bl.injEq, D.int.injEq, ↓exists_eq_left, ↓exists_eq_left', exists_eq', ne_eq, reduceCtorEq, not_true_eq_false, not_false_eq_true, false_implies, true_implies, implies_true, forall_const, and_true, true_and, forall_eq, forall_eq', decide_eq_true_eq, decide_eq_false_iff_not, Nat.reduceAdd, Nat.reduceSub, Nat.zero_add, ↓i_lb, ↓i_li, ↓i_ls, ↓i_ll, ↓i_lt, ↓i_bb, ↓i_bi, ↓i_nb, ↓i_ni, ↓n_l, ↓n_b, ↓q_eqb, ↓q_eqs, List.cons.injEq, D.str.injEq, D.tup.injEq, D.lst.injEq, hv])
  refine ⟨rg_ok (by omega) (by omega), by unfold rangeD; simp; omega, ?_⟩
  have we : wipeE env [j] = env.set j none := rfl
  have hN : ((n : Int) + 1).toNat = n + 1 := by omega
  rw [hN, we]
  obtain ⟨zc, hz⟩ : ∃ z : Cell, z = Cell.lst ((List.replicate (n + 1) (0 : Int)).map .int) := ⟨_, rfl⟩
  refine ⟨fun ds acc s => ∃ k, k ≤ n + 1 ∧ ds = (rangeD 0 (n + 1)).drop k ∧ acc = ptrs m.length k ∧ s = ⟨env.set j none, m ++ (List.replicate k [Cell.lst [D.int 0], zc]).flatten⟩, fun _ _ _ _ => okB_none, ⟨0, by omega, rfl, rfl, by simp⟩, ?_, ?_⟩
  · rintro d ds acc _ ⟨k, hk, e, rfl, rfl⟩
    have hl2 : (rangeD 0 (n + 1)).length = n + 1 := by unfold rangeD; simp
    have hkn : k < n + 1 := by
      have := congrArg List.length e
      rw [List.length_drop, hl2, List.length_cons] at this; omega
    have e2 : (rangeD 0 (n + 1)).drop k = .int (0 + (k : Nat)) :: (rangeD 0 (n + 1)).drop (k + 1) := by
      rw [List.drop_eq_getElem_cons (by omega)]
      congr 1
      unfold rangeD; simp
    rw [e2] at e
    obtain ⟨rfl, rfl⟩ := List.cons.inj e
    refine ⟨_, rfl, ?_⟩
    have hv2 : ((env.set j none).set j (some (.int (0 + (k : Nat)))))[0]? = some (some (.int (n : Nat))) := by
      rw [List.getElem?_set_ne hj, List.getElem?_set_ne hj]; exact hv
    have tt : ∀ (s : S) (Q : Bool → S → Prop) (E : D → S → Prop), T tTrue s Q E ↔ Q true s := fun _ _ _ => T_ret
    (simp (maxSteps := 1000000) (disch := first | omega | (simp only [List.length_append, List.length_set, List.length_cons, List.length_nil, List.length_map]; omega)) only [↓T_ret, ↓T_C, ↓T_var, ↓T_m1, ↓T_m2, ↓T_mn, ↓T_nil, ↓T_cons, ↓L_tb, ↓L_if, ↓L_and, ↓L_or, ↓T_not, ↓L_andV, ↓L_orV, ↓L_notV, ↓T_mt, ↓T_nx, ↓sq_nx, ↓sq_rt, ↓sq_bk, ↓sq_ct, ↓iq_t, ↓iq_f, ↓iq_dt, ↓iq_df, ↓iq_nt, ↓iq_nf, iq_d, iq_n, ↓tq_bl, ↓iqi_i, ↓Bool.not_true, ↓Bool.not_false, ↓i_ib, ↓i_ii, ↓i_is, ↓i_il, ↓i_it, ↓i_sb, ↓i_si, ↓i_ss, ↓i_sl, ↓i_st, ↓i_tb, ↓i_ti, ↓i_ts, ↓i_tl, ↓i_tt, ↓n_i, ↓n_s, ↓n_t, ↓n_p, ↓n_n, ↓T_bk, ↓T_ct, ↓T_rtN, ↓L_seq, ↓T_ex, ↓T_rt, ↓T_set, List.getElem?_concat_length, get_app, ↓T_sub, ↓T_part0, ↓T_part1, ↓T_sl, ↓T_for, ↓T_rng1, ↓T_wk, ↓q_slp, ↓q_sll, ↓q_slt, ↓q_revp, ↓q_revl, ↓q_addpp, ↓q_listp, ↓q_listl, ↓q_listt, ↓q_lists, ↓q_tuplep, ↓q_tuplel, ↓q_tuplet, ↓q_app, ↓q_notN, ↓T_frz, ↓T_call, ↓T_callK, ↓T_raise, ↓T_asg, ↓q_add, ↓q_sub, ↓q_neg, ↓q_lt, ↓q_le, ↓q_gt, ↓q_ge, ↓q_eq, ↓q_ne, ↓q_int, ↓q_intb, ↓q_mod, ↓q_ixp, ↓q_ixl, ↓q_ixt, ↓q_lenl, ↓q_lent, ↓q_lenp, ↓q_setL, ↓q_lst, ↓q_tup, ↓q_pow10, at0, at1, at2, at3, at4, Cell.lst.injEq, ↓q_mulr, ↓q_mull, ↓q_divn, ↓Tc_ok, ↓Tc_exc, ↓fi_int, ↓fi_bl, ↓fi_non, List.getElem?_cons_zero, List.getElem?_cons_succ, List.set_cons_zero, List.set_cons_succ, List.map_cons, List.map_nil, List.length_cons, List.length_nil, List.replicate, List.cons_append, List.nil_append, List.append_nil, Option.some.injEq, D.bl.injEq, D.int.injEq, ↓exists_eq_left, ↓exists_eq_left', exists_eq', ne_eq, reduceCtorEq, not_true_eq_false, not_false_eq_true, false_implies, true_implies, implies_true, forall_const, and_true, true_and, forall_eq, forall_eq', decide_eq_true_eq, decide_eq_false_iff_not, Nat.reduceAdd, Nat.reduceSub, Nat.zero_add, ↓i_lb, ↓i_li, ↓i_ls, ↓i_ll, ↓i_lt, ↓i_bb, ↓i_bi, ↓i_nb, ↓i_ni, ↓n_l, ↓n_b, ↓q_eqb, ↓q_eqs, List.cons.injEq, D.str.injEq, D.tup.injEq, D.lst.injEq, hv2, tt, if_true])
    rw [q_mulp]
    refine ⟨[.int 0], List.getElem?_concat_length, ⟨by omega, by omega, by rw [sizeLine_eq]; simp; omega⟩, ?_⟩
    rw [hN, rep_flat, ← hz]
    refine ⟨k + 1, by omega, rfl, ?_, ?_⟩
    · unfold ptrs
      rw [List.range_succ, List.map_append]
      simp
      omega
    · have e4 : wipeE ((env.set j none).set j (some (.int (0 + (k : Nat))))) [j] = env.set j none := by
        show ((env.set j none).set j _).set j none = _
        rw [List.set_set, List.set_set]
      rw [e4]
      congr 1
      rw [List.replicate_succ', List.flatten_append]
      simp
  · rintro acc _ ⟨k, hk, e, rfl, rfl⟩
    have hl2 : (rangeD 0 (n + 1)).length = n + 1 := by unfold rangeD; simp
    have hkn : k = n + 1 := by
      have := congrArg List.length e
      rw [List.length_drop, hl2, List.length_nil] at this; omega
    subst hkn
    have fl : ∀ (x y : Cell) (k : Nat), ((List.replicate k [x, y]).flatten).length = 2 * k := fun x y k => by
      induction k with
      | zero => rfl
      | succ k ih => rw [List.replicate_succ, List.flatten_cons, List.length_append, ih]; simp; omega
    have fg : ∀ (x y : Cell) (k i : Nat), i < k → ((List.replicate k [x, y]).flatten)[2 * i + 1]? = some y := fun x y k => by
      induction k with
      | zero => intro i hi; omega
      | succ k ih =>
        intro i hi
        rw [List.replicate_succ, List.flatten_cons]
        cases i with
        | zero => rfl
        | succ i =>
          rw [show 2 * (i + 1) + 1 = (2 * i + 1) + 1 + 1 by omega]
          simp only [List.cons_append, List.nil_append, List.getElem?_cons_succ]
          exact ih i (by omega)
    have be : backE env (env.set j none) [j] = env := by
      show (env.set j none).set j (env[j]?.getD none) = env
      rw [List.set_set]
      apply List.ext_getElem?
      intro i
      by_cases hi : i = j
      · subst hi
        rw [List.getElem?_set_self hl, List.getElem?_eq_getElem hl]
        simp
      · rw [List.getElem?_set_ne (Ne.symm hi)]
    have el : (m ++ (List.replicate (n + 1) [Cell.lst [D.int 0], zc]).flatten).length = m.length + 2 * (n + 1) := by
      rw [List.length_append, fl]
    rw [be, el]
    refine h _ ⟨?_, fun i r hr => ?_, by unfold zero; simp, fun i r hr => ?_, rfl⟩ (by rw [List.length_append, el]; rfl) ⟨_, List.append_assoc _ _ _⟩
    · rw [← el]; exact List.getElem?_concat_length
    · unfold zero at hr
      rw [List.getElem?_replicate] at hr
      split at hr
      · rename_i hi
        cases hr
        rw [get_app (by rw [el]; omega), List.getElem?_append_right (by omega), show m.length + 2 * i + 1 - m.length = 2 * i + 1 by omega]
        rw [← hz]; exact fg _ _ _ i hi
      · cases hr
    · unfold zero at hr
      rw [List.getElem?_replicate] at hr
      split at hr
      · cases hr; simp
      · cases hr
theorem ixN_in {n : Nat} {i : Int} (h0 : 0 ≤ i) (h1 : i < n) : ixN n i = some i.toNat := by
  unfold ixN
  simp [h0, h1]
def envL (n : Nat) (p : Nat) (x2 : Option O) (t : Int) (p' : Nat) (x5 x6 : Option O) : List (Option O) := [some (.int (n : Nat)), some (.ptr p), x2, some (.int t), some (.ptr p'), x5, x6]
theorem sub_bump {mem : Mem} {b b' N p p' : Nat} {now mat : List (List Int)} {env : List (Option O)} {ei ek em ek' : M O} {i k m k' : Int} {v4 v1 : Nat} (E : D → S → Prop)
    (h : Mat mem b N p now) (h' : Mat mem b' N p' mat) (hp : p < b') (i0 : 0 ≤ i) (i1 : i < N) (k0 : 0 ≤ k) (k1 : k < N) (m0 : 0 ≤ m) (m1 : m < N) (j0 : 0 ≤ k') (j1 : k' < N)
    (e4 : env[v4]? = some (some (.ptr p'))) (e1 : env[v1]? = some (some (.ptr p)))
    (ti : ei ⟨env, mem⟩ = .ok (.int i) ⟨env, mem⟩) (tk : ek ⟨env, mem⟩ = .ok (.int k) ⟨env, mem⟩) (tm : em ⟨env, mem⟩ = .ok (.int m) ⟨env, mem⟩) (tk' : ek' ⟨env, mem⟩ = .ok (.int k') ⟨env, mem⟩) :
    T (sSub pSetL (m2 pIx (mVar v4) ei) ek (m2 pAdd (m2 pIx (m2 pIx (mVar v4) ei) ek) (m2 pIx (m2 pIx (mVar v1) em) ek'))) ⟨env, mem⟩
      (fun f s => f = .nx ∧ ∃ mem', s = ⟨env, mem'⟩ ∧ Mat mem' b N p now ∧ Mat mem' b' N p' (bump mat i.toNat k.toNat (cellM now m.toNat k'.toNat)) ∧ mem'.length = mem.length) E := by
  have T1 : ∀ (x : M O) (d : D) (Q : D → S → Prop), x ⟨env, mem⟩ = .ok d ⟨env, mem⟩ → (T x ⟨env, mem⟩ Q E ↔ Q d ⟨env, mem⟩) := fun x d Q e => by unfold T; rw [e]
  have ti' := fun Q => T1 ei _ Q ti
  have tk2 := fun Q => T1 ek _ Q tk
  have tm' := fun Q => T1 em _ Q tm
  have tk3 := fun Q => T1 ek' _ Q tk'
  obtain ⟨c1, c2⟩ := h'.cell i0 i1 k0 k1
  obtain ⟨d1, d2⟩ := h.cell m0 m1 j0 j1
  have a1 := h'.at_ i0 i1
  have a2 := h.at_ m0 m1
  have w := h'.wid _ _ (h'.rowOf (i := i.toNat) (by omega))
  have ix : ixN ((mat[i.toNat]?.getD []).map D.int).length k = some k.toNat := ixN_in k0 (by rw [List.length_map, w]; exact k1)
  have hp' := h'.pos
  refine (T_sub).mpr ?_
  (simp (maxSteps := 1000000) (disch := first | omega | (simp only [List.length_append, List.length_set, List.length_cons, List.length_nil, List.length_map]; omega)) only [↓T_ret, ↓T_C, ↓T_var, ↓T_m1, ↓T_m2, ↓T_mn, ↓T_nil, ↓T_cons, ↓L_tb, ↓L_if, ↓L_and, ↓L_or, ↓T_not, ↓L_andV, ↓L_orV, ↓L_notV, ↓T_mt, ↓T_nx, ↓sq_nx, ↓sq_rt, ↓sq_bk, ↓sq_ct, ↓iq_t, ↓iq_f, ↓iq_dt, ↓iq_df, ↓iq_nt, ↓iq_nf, iq_d, iq_n, ↓tq_bl, ↓iqi_i, ↓Bool.not_true, ↓Bool.not_false, ↓i_ib, ↓i_ii, ↓i_is, ↓i_il, ↓i_it, ↓i_sb, ↓i_si, ↓i_ss, ↓i_sl, ↓i_st, ↓i_tb, ↓i_ti, ↓i_ts, ↓i_tl, ↓i_tt, ↓n_i, ↓n_s, ↓n_t, ↓n_p, ↓n_n, ↓T_bk, ↓T_ct, ↓T_rtN, ↓L_seq, ↓T_ex, ↓T_rt, ↓T_set, List.getElem?_concat_length, get_app, ↓T_sub, ↓T_part0, ↓T_part1, ↓T_sl, ↓T_for, ↓T_rng1, ↓T_wk, ↓q_slp, ↓q_sll, ↓q_slt, ↓q_revp, ↓q_revl, ↓q_addpp, ↓q_listp, ↓q_listl, ↓q_listt, ↓q_lists, ↓q_tuplep, ↓q_tuplel, ↓q_tuplet, ↓q_app, ↓q_notN, ↓T_frz, ↓T_call, ↓T_callK, ↓T_raise, ↓T_asg, ↓q_add, ↓q_sub, ↓q_neg, ↓q_lt, ↓q_le, ↓q_gt, ↓q_ge, ↓q_eq, ↓q_ne, ↓q_int, ↓q_intb, ↓q_mod, ↓q_ixp, ↓q_ixl, ↓q_ixt, ↓q_lenl, ↓q_lent, ↓q_lenp, ↓q_setL, ↓q_lst, ↓q_tup, ↓q_pow10, at0, at1, at2, at3, at4, Cell.lst.injEq, ↓q_mulr, ↓q_mull, ↓q_divn, ↓Tc_ok, ↓Tc_exc, ↓fi_int, ↓fi_bl, ↓fi_non, List.getElem?_cons_zero, List.getElem?_cons_succ, List.set_cons_zero, List.set_cons_succ, List.map_cons, List.map_nil, List.length_cons, List.length_nil, List.replicate, List.cons_append, List.nil_append, List.append_nil, Option.some.injEq, D.bl.injEq, D.int.injEq, ↓exists_eq_left, ↓exists_eq_left', exists_eq', ne_eq, reduceCtorEq, not_true_eq_false, not_false_eq_true, false_implies, true_implies, implies_true, forall_const, and_true, true_and, forall_eq, forall_eq', decide_eq_true_eq, decide_eq_false_iff_not, Nat.reduceAdd, Nat.reduceSub, Nat.zero_add, ↓i_lb, ↓i_li, ↓i_ls, ↓i_ll, ↓i_lt, ↓i_bb, ↓i_bi, ↓i_nb, ↓i_ni, ↓n_l, ↓n_b, ↓q_eqb, ↓q_eqs, List.cons.injEq, D.str.injEq, D.tup.injEq, D.lst.injEq, ti', tk2, tm', tk3, e4, e1, h.top, h'.top, a1, a2, c1, c2, d1, d2])
  refine ⟨_, ix, _, rfl, h.keep (by omega), h'.bump_ i0 i1 k0 k1 _, by rw [List.length_set]⟩
end K38

set_option maxRecDepth 100000
set_option maxHeartbeats 2000000
namespace K38
open PySem PySem.Spec PyProof.Rows L2 Dl
def jF (k : Nat) (v : Int) (mat : List (List Int)) (j : Nat) : List (List Int) := bump mat (j + 1) k v
def kF (now : List (List Int)) (m : Nat) (mat : List (List Int)) (k : Nat) : List (List Int) := (List.range m).foldl (jF k (cellM now m k)) (bump mat (m + 1) (k + 1) (cellM now m k))
def mF (now : List (List Int)) (t : Nat) (mat : List (List Int)) (m : Nat) : List (List Int) := (List.range (t + 1)).foldl (kF now m) mat
def turnF (N : Nat) (now : List (List Int)) (t : Nat) : List (List Int) := (List.range (t + 1)).foldl (mF now t) (zero N)
theorem fold_succ {α : Type} (f : α → Nat → α) (a : α) (n : Nat) : (List.range (n + 1)).foldl f a = f ((List.range n).foldl f a) n := by
  rw [List.range_succ, List.foldl_append]; rfl
abbrev F0 : D → S → Prop := fun _ _ => False
section
variable {mem : Mem} {b b' N p p' n t : Nat} {now mat : List (List Int)}
theorem var_ok {i : Nat} {d : D} {env : List (Option O)} {m : Mem} (h : env[i]? = some (some d)) : mVar i ⟨env, m⟩ = .ok d ⟨env, m⟩ := by unfold mVar; simp only [h]
theorem var1_ok {i : Nat} {a c : Int} {env : List (Option O)} {m : Mem} (h : env[i]? = some (some (.int a))) : m2 pAdd (mVar i) (mC (.int c)) ⟨env, m⟩ = .ok (.int (a + c)) ⟨env, m⟩ := by
  unfold m2 bnd
  rw [var_ok h]
  rfl
theorem loop_j (h : Mat mem b N p now) (h' : Mat mem b' N p' mat) (hp : p < b') (hN : N ≤ 11) (k m : Nat) (hk : k < N) (hm : m < N) (x6 : Option O) (x0 : Option O) (tt : Option O) :
    T (sFor (mRng2 (mC (.int 1)) (m2 pAdd (mVar 5) (mC (.int 1)))) (gN 6) (sSub pSetL (m2 pIx (mVar 4) (mVar 6)) (mVar 2) (m2 pAdd (m2 pIx (m2 pIx (mVar 4) (mVar 6)) (mVar 2)) (m2 pIx (m2 pIx (mVar 1) (mVar 5)) (mVar 2)))))
      ⟨[x0, some (.ptr p), some (.int (k : Nat)), tt, some (.ptr p'), some (.int (m : Nat)), x6], mem⟩
      (fun f s => f = .nx ∧ ∃ x6 mem', s = ⟨[x0, some (.ptr p), some (.int (k : Nat)), tt, some (.ptr p'), some (.int (m : Nat)), x6], mem'⟩ ∧ Mat mem' b N p now ∧ Mat mem' b' N p' ((List.range m).foldl (jF k (cellM now m k)) mat) ∧ mem'.length = mem.length) F0 := by
  (simp (maxSteps := 1000000) (disch := first | omega | (simp only [List.length_append, List.length_set, List.length_cons, List.length_nil, List.length_map]; omega)) only [↓T_ret, ↓T_C, ↓T_var, ↓T_m1, ↓T_m2, ↓T_mn, ↓T_nil, ↓T_cons, ↓L_tb, ↓L_if, ↓L_and, ↓L_or, ↓T_not, ↓L_andV, ↓L_orV, ↓L_notV, ↓T_mt, ↓T_nx, ↓sq_nx, ↓sq_rt, ↓sq_bk, ↓sq_ct, ↓iq_t, ↓iq_f, ↓iq_dt, ↓iq_df, ↓iq_nt, ↓iq_nf, iq_d, iq_n, ↓tq_bl, ↓iqi_i, ↓Bool.not_true, ↓Bool.not_false, ↓i_ib, ↓i_ii, ↓i_is, ↓i_il, ↓i_it, ↓i_sb, ↓i_si, ↓i_ss, ↓i_sl, ↓i_st, ↓i_tb, ↓i_ti, ↓i_ts, ↓i_tl, ↓i_tt, ↓n_i, ↓n_s, ↓n_t, ↓n_p, ↓n_n, ↓T_bk, ↓T_ct, ↓T_rtN, ↓L_seq, ↓T_ex, ↓T_rt, ↓T_set, List.getElem?_concat_length, get_app, ↓T_sub, ↓T_part0, ↓T_part1, ↓T_sl, ↓T_for, ↓T_rng1, ↓T_wk, ↓q_slp, ↓q_sll, ↓q_slt, ↓q_revp, ↓q_revl, ↓q_addpp, ↓q_listp, ↓q_listl, ↓q_listt, ↓q_lists, ↓q_tuplep, ↓q_tuplel, ↓q_tuplet, ↓q_app, ↓q_notN, ↓T_frz, ↓T_call, ↓T_callK, ↓T_raise, ↓T_asg, ↓q_add, ↓q_sub, ↓q_neg, ↓q_lt, ↓q_le, ↓q_gt, ↓q_ge, ↓q_eq, ↓q_ne, ↓q_int, ↓q_intb, ↓q_mod, ↓q_ixp, ↓q_ixl, ↓q_ixt, ↓q_lenl, ↓q_lent, ↓q_lenp, ↓q_setL, ↓q_lst, ↓q_tup, ↓q_pow10, at0, at1, at2, at3, at4, Cell.lst.injEq, ↓q_mulr, ↓q_mull, ↓q_divn, ↓Tc_ok, ↓Tc_exc, ↓fi_int, ↓fi_bl, ↓fi_non, List.getElem?_cons_zero, List.getElem?_cons_succ, List.set_cons_zero, List.set_cons_succ, List.map_cons, List.map_nil, List.length_cons, List.length_nil, List.replicate, List.cons_append, List.nil_append, List.append_nil, Option.some.injEq, D.bl.injEq, D.int.injEq, ↓exists_eq_left, ↓exists_eq_left', exists_eq', ne_eq, reduceCtorEq, not_true_eq_false, not_false_eq_true, false_implies, true_implies, implies_true, forall_const, and_true, true_and, forall_eq, forall_eq', decide_eq_true_eq, decide_eq_false_iff_not, Nat.reduceAdd, Nat.reduceSub, Nat.zero_add, ↓i_lb, ↓i_li, ↓i_ls, ↓i_ll, ↓i_lt, ↓i_bb, ↓i_bi, ↓i_nb, ↓i_ni, ↓n_l, ↓n_b, ↓q_eqb, ↓q_eqs, List.cons.injEq, D.str.injEq, D.tup.injEq, D.lst.injEq, ↓T_rng2])
  refine ⟨⟨rg_ok (by omega) (by omega), rg_ok (by omega) (by omega)⟩, ?_⟩
  have e : ((m : Int) + 1 - 1).toNat = m := by omega
  rw [e]
  refine T_forR (fun i s => ∃ x6 mem', s = ⟨[x0, some (.ptr p), some (.int (k : Nat)), tt, some (.ptr p'), some (.int (m : Nat)), x6], mem'⟩ ∧ Mat mem' b N p now ∧ Mat mem' b' N p' ((List.range i).foldl (jF k (cellM now m k)) mat) ∧ mem'.length = mem.length) ⟨x6, mem, rfl, h, h', rfl⟩ ?_ ?_
  · rintro i _ hi ⟨x6, mem', rfl, g, g', hl⟩
    refine ⟨_, rfl, T_imp (sub_bump (i := 1 + (i : Int)) (k := (k : Nat)) (m := (m : Nat)) (k' := (k : Nat)) F0 g g' hp (by omega) (by omega) (by omega) (by omega) (by omega) (by omega) (by omega) (by omega) rfl rfl (var_ok rfl) (var_ok rfl) (var_ok rfl) (var_ok rfl)) ?_⟩
    rintro f _ ⟨rfl, mem2, rfl, q, q', hl2⟩
    refine ⟨.inl rfl, _, mem2, rfl, q, ?_, hl2.trans hl⟩
    rw [fold_succ]
    have e1 : (1 + (i : Int)).toNat = i + 1 := by omega
    rw [e1] at q'
    exact q'
  · rintro _ ⟨x6, mem', rfl, g, g', hl⟩
    exact ⟨rfl, x6, mem', rfl, g, g', hl⟩
theorem loop_k (h : Mat mem b N p now) (h' : Mat mem b' N p' mat) (hp : p < b') (hN : N ≤ 11) (m : Nat) (ht : t + 1 < N) (hm : m ≤ t) (x2 x6 : Option O) (x0 : Option O) :
    T (sFor (mRng1 (m2 pAdd (mVar 3) (mC (.int 1)))) (gN 2)
        (sSeq (sSub pSetL (m2 pIx (mVar 4) (m2 pAdd (mVar 5) (mC (.int 1)))) (m2 pAdd (mVar 2) (mC (.int 1))) (m2 pAdd (m2 pIx (m2 pIx (mVar 4) (m2 pAdd (mVar 5) (mC (.int 1)))) (m2 pAdd (mVar 2) (mC (.int 1)))) (m2 pIx (m2 pIx (mVar 1) (mVar 5)) (mVar 2))))
        (sFor (mRng2 (mC (.int 1)) (m2 pAdd (mVar 5) (mC (.int 1)))) (gN 6)
          (sSub pSetL (m2 pIx (mVar 4) (mVar 6)) (mVar 2) (m2 pAdd (m2 pIx (m2 pIx (mVar 4) (mVar 6)) (mVar 2)) (m2 pIx (m2 pIx (mVar 1) (mVar 5)) (mVar 2)))))))
      ⟨[x0, some (.ptr p), x2, some (.int (t : Nat)), some (.ptr p'), some (.int (m : Nat)), x6], mem⟩
      (fun f s => f = .nx ∧ ∃ x2 x6 mem', s = ⟨[x0, some (.ptr p), x2, some (.int (t : Nat)), some (.ptr p'), some (.int (m : Nat)), x6], mem'⟩ ∧ Mat mem' b N p now ∧ Mat mem' b' N p' (mF now t mat m) ∧ mem'.length = mem.length) F0 := by
  (simp (maxSteps := 1000000) (disch := first | omega | (simp only [List.length_append, List.length_set, List.length_cons, List.length_nil, List.length_map]; omega)) only [↓T_ret, ↓T_C, ↓T_var, ↓T_m1, ↓T_m2, ↓T_mn, ↓T_nil, ↓T_cons, ↓L_tb, ↓L_if, ↓L_and, ↓L_or, ↓T_not, ↓L_andV, ↓L_orV, ↓L_notV, ↓T_mt, ↓T_nx, ↓sq_nx, ↓sq_rt, ↓sq_bk, ↓sq_ct, ↓iq_t, ↓iq_f, ↓iq_dt, ↓iq_df, ↓iq_nt, ↓iq_nf, iq_d, iq_n, ↓tq_bl, ↓iqi_i, ↓Bool.not_true, ↓Bool.not_false, ↓i_ib, ↓i_ii, ↓i_is, ↓i_il, ↓i_it, ↓i_sb, ↓i_si, ↓i_ss, ↓i_sl, ↓i_st, ↓i_tb, ↓i_ti, ↓i_ts, ↓i_tl, ↓i_tt, ↓n_i, ↓n_s, ↓n_t, ↓n_p, ↓n_n, ↓T_bk, ↓T_ct, ↓T_rtN, ↓L_seq, ↓T_ex, ↓T_rt, ↓T_set, List.getElem?_concat_length, get_app, ↓T_sub, ↓T_part0, ↓T_part1, ↓T_sl, ↓T_for, ↓T_rng1, ↓T_wk, ↓q_slp, ↓q_sll, ↓q_slt, ↓q_revp, ↓q_revl, ↓q_addpp, ↓q_listp, ↓q_listl, ↓q_listt, ↓q_lists, ↓q_tuplep, ↓q_tuplel, ↓q_tuplet, ↓q_app, ↓q_notN, ↓T_frz, ↓T_call, ↓T_callK, ↓T_raise, ↓T_asg, ↓q_add, ↓q_sub, ↓q_neg, ↓q_lt, ↓q_le, ↓q_gt, ↓q_ge, ↓q_eq, ↓q_ne, ↓q_int, ↓q_intb, ↓q_mod, ↓q_ixp, ↓q_ixl, ↓q_ixt, ↓q_lenl, ↓q_lent, ↓q_lenp, ↓q_setL, ↓q_lst, ↓q_tup, ↓q_pow10, at0, at1, at2, at3, at4, Cell.lst.injEq, ↓q_mulr, ↓q_mull, ↓q_divn, ↓Tc_ok, ↓Tc_exc, ↓fi_int, ↓fi_bl, ↓fi_non, List.getElem?_cons_zero, List.getElem?_cons_succ, List.set_cons_zero, List.set_cons_succ, List.map_cons, List.map_nil, List.length_cons, List.length_nil, List.replicate, List.cons_append, List.nil_append, List.append_nil, Option.some.injEq, D.bl.injEq, D.int.injEq, ↓exists_eq_left, ↓exists_eq_left', exists_eq', ne_eq, reduceCtorEq, not_true_eq_false, not_false_eq_true, false_implies, true_implies, implies_true, forall_const, and_true, true_and, forall_eq, forall_eq', decide_eq_true_eq, decide_eq_false_iff_not, Nat.reduceAdd, Nat.reduceSub, Nat.zero_add, ↓i_lb, ↓i_li, ↓i_ls, ↓i_ll, ↓i_lt, ↓i_bb, ↓i_bi, ↓i_nb, ↓i_ni, ↓n_l, ↓n_b, ↓q_eqb, ↓q_eqs, List.cons.injEq, D.str.injEq, D.tup.injEq, D.lst.injEq])
  refine ⟨rg_ok (by omega) (by omega), ?_⟩
  have e : ((t : Int) + 1).toNat = t + 1 := by omega
  rw [e]
  refine T_forR (fun i s => ∃ x2 x6 mem', s = ⟨[x0, some (.ptr p), x2, some (.int (t : Nat)), some (.ptr p'), some (.int (m : Nat)), x6], mem'⟩ ∧ Mat mem' b N p now ∧ Mat mem' b' N p' ((List.range i).foldl (kF now m) mat) ∧ mem'.length = mem.length) ⟨x2, x6, mem, rfl, h, h', rfl⟩ ?_ ?_
  · rintro i _ hi ⟨x2, x6, mem', rfl, g, g', hl⟩
    refine ⟨_, rfl, ?_⟩
    refine T_mid (fun s => ∃ mem', s = ⟨[x0, some (.ptr p), some (.int (0 + (i : Nat))), some (.int (t : Nat)), some (.ptr p'), some (.int (m : Nat)), x6], mem'⟩ ∧ Mat mem' b N p now ∧ Mat mem' b' N p' (bump ((List.range i).foldl (kF now m) mat) (m + 1) (i + 1) (cellM now m i)) ∧ mem'.length = mem.length) ?_ ?_
    · refine T_imp (sub_bump (i := (m : Int) + 1) (k := 0 + (i : Nat) + 1) (m := (m : Nat)) (k' := 0 + (i : Nat)) F0 g g' hp (by omega) (by omega) (by omega) (by omega) (by omega) (by omega) (by omega) (by omega) rfl rfl (var1_ok rfl) (var1_ok rfl) (var_ok rfl) (var_ok rfl)) ?_
      rintro f _ ⟨rfl, mem2, rfl, q, q', hl2⟩
      have e1 : ((m : Int) + 1).toNat = m + 1 := by omega
      have e2 : (0 + (i : Int) + 1).toNat = i + 1 := by omega
      have e3 : (0 + (i : Int)).toNat = i := by omega
      rw [e1, e2, e3] at q'
      exact ⟨rfl, mem2, rfl, q, q', hl2.trans hl⟩
    · rintro _ ⟨mem2, rfl, q, q', hl2⟩
      simp only [Int.zero_add]
      refine T_imp (loop_j q q' hp hN i m (by omega) (by omega) x6 x0 _) ?_
      rintro f _ ⟨rfl, x6, mem3, rfl, r, r', hl3⟩
      refine ⟨.inl rfl, _, x6, mem3, rfl, r, ?_, hl3.trans hl2⟩
      rw [fold_succ]
      exact r'
  · rintro _ ⟨x2, x6, mem', rfl, g, g', hl⟩
    exact ⟨rfl, x2, x6, mem', rfl, g, g', hl⟩
end
end K38

set_option maxRecDepth 100000
set_option maxHeartbeats 2000000
namespace K38
open PySem PySem.Spec PyProof.Rows L2 Dl
def byF (n : Nat) (t : Nat) : List (List Int) := (List.range t).foldl (turnF (n + 1)) (bump (zero (n + 1)) 0 0 1)
def sumsF (n : Nat) : List Int := (List.range (n + 1)).map fun k => ((List.range (n + 1)).map fun m => cellM (byF n n) m k).sum
theorem sum_ptr {m : Mem} {Q : D → Mem → Prop} {p : Nat} {xs : List D} {ns : List Int} (h : m[p]? = some (.lst xs)) (e : xs = ns.map .int) : Pq (pSum [.ptr p] m) Q ↔ Q (.int ns.sum) m := by
  subst e; exact q_sump h
theorem by_fields (n : Nat) (hn : n ≤ 10) (m : Mem) : iso φ__law_by_fields [.int (n : Nat)] m = .ok (.lst ((sumsF n).map .int)) m := by
  refine iso_ok (ok_of ?_) rfl (by unfold D.lo; exact lo_ints _) m
  rw [φ__law_by_fields, m__law_by_fields]
  have hl1 : [D.int (n : Nat)].length = 1 := rfl
  rw [T_fn hl1]
  show T _ ⟨[some (.int (n : Nat)), none, none, none, none, none, none], []⟩ _ _
  refine T_mid (fun s => ∃ p mem b, s = ⟨[some (.int (n : Nat)), some (.ptr p), none, none, none, none, none], mem⟩ ∧ Mat mem b (n + 1) p (zero (n + 1))) ?_ ?_
  · refine T_set.mpr (zeros hn [] _ rfl 2 (by decide) (by simp) _ _ fun m' h1 h2 h3 => ⟨rfl, _, m', _, rfl, h1⟩)
  rintro _ ⟨p, mem, b, rfl, h⟩
  refine T_mid (fun s => ∃ p mem b, s = ⟨[some (.int (n : Nat)), some (.ptr p), none, none, none, none, none], mem⟩ ∧ Mat mem b (n + 1) p (byF n 0)) ?_ ?_
  · have z0 : (zero (n + 1))[0]?.getD [] = List.replicate (n + 1) 0 := by unfold zero; rfl
    obtain ⟨c1, c2⟩ := h.cell (i := 0) (k := 0) (by omega) (by omega) (by omega) (by omega)
    have a1 := h.at_ (i := 0) (by omega) (by omega)
    have hb := h.bump_ (i := 0) (k := 0) (by omega) (by omega) (by omega) (by omega) 1
    have c0 : cellM (zero (n + 1)) 0 0 = 0 := by unfold cellM; rw [z0]; rfl
    have ix : ixN (((zero (n + 1))[(0 : Int).toNat]?.getD []).map D.int).length 0 = some 0 := by
      show ixN (((zero (n + 1))[0]?.getD []).map D.int).length 0 = some 0
      rw [z0]
      exact ixN_in (by omega) (by simp)
    have ix : ixN (((zero (n + 1))[0]?.getD []).map D.int).length 0 = some 0 := ix
    have t0 : (0 : Int).toNat = 0 := rfl
    rw [t0] at c1 hb a1
    rw [c0, Int.zero_add] at hb
    (simp (maxSteps := 1000000) (disch := first | omega | (simp only [List.length_append, List.length_set, List.length_cons, List.length_nil, List.length_map]; omega)) only [↓T_ret, ↓T_C, ↓T_var, ↓T_m1, ↓T_m2, ↓T_mn, ↓T_nil, ↓T_cons, ↓L_tb, ↓L_if, ↓L_and, ↓L_or, ↓T_not, ↓L_andV, ↓L_orV, ↓L_notV, ↓T_mt, ↓T_nx, ↓sq_nx, ↓sq_rt, ↓sq_bk, ↓sq_ct, ↓iq_t, ↓iq_f, ↓iq_dt, ↓iq_df, ↓iq_nt, ↓iq_nf, iq_d, iq_n, ↓tq_bl, ↓iqi_i, ↓Bool.not_true, ↓Bool.not_false, ↓i_ib, ↓i_ii, ↓i_is, ↓i_il, ↓i_it, ↓i_sb, ↓i_si, ↓i_ss, ↓i_sl, ↓i_st, ↓i_tb, ↓i_ti, ↓i_ts, ↓i_tl, ↓i_tt, ↓n_i, ↓n_s, ↓n_t, ↓n_p, ↓n_n, ↓T_bk, ↓T_ct, ↓T_rtN, ↓L_seq, ↓T_ex, ↓T_rt, ↓T_set, List.getElem?_concat_length, get_app, ↓T_sub, ↓T_part0, ↓T_part1, ↓T_sl, ↓T_for, ↓T_rng1, ↓T_wk, ↓q_slp, ↓q_sll, ↓q_slt, ↓q_revp, ↓q_revl, ↓q_addpp, ↓q_listp, ↓q_listl, ↓q_listt, ↓q_lists, ↓q_tuplep, ↓q_tuplel, ↓q_tuplet, ↓q_app, ↓q_notN, ↓T_frz, ↓T_call, ↓T_callK, ↓T_raise, ↓T_asg, ↓q_add, ↓q_sub, ↓q_neg, ↓q_lt, ↓q_le, ↓q_gt, ↓q_ge, ↓q_eq, ↓q_ne, ↓q_int, ↓q_intb, ↓q_mod, ↓q_ixp, ↓q_ixl, ↓q_ixt, ↓q_lenl, ↓q_lent, ↓q_lenp, ↓q_setL, ↓q_lst, ↓q_tup, ↓q_pow10, at0, at1, at2, at3, at4, Cell.lst.injEq, ↓q_mulr, ↓q_mull, ↓q_divn, ↓Tc_ok, ↓Tc_exc, ↓fi_int, ↓fi_bl, ↓fi_non, List.getElem?_cons_zero, List.getElem?_cons_succ, List.set_cons_zero, List.set_cons_succ, List.map_cons, List.map_nil, List.length_cons, List.length_nil, List.replicate, List.cons_append, List.nil_append, List.append_nil, Option.some.injEq, D.bl.injEq, D.int.injEq, ↓exists_eq_left, ↓exists_eq_left', exists_eq', ne_eq, reduceCtorEq, not_true_eq_false, not_false_eq_true, false_implies, true_implies, implies_true, forall_const, and_true, true_and, forall_eq, forall_eq', decide_eq_true_eq, decide_eq_false_iff_not, Nat.reduceAdd, Nat.reduceSub, Nat.zero_add, ↓i_lb, ↓i_li, ↓i_ls, ↓i_ll, ↓i_lt, ↓i_bb, ↓i_bi, ↓i_nb, ↓i_ni, ↓n_l, ↓n_b, ↓q_eqb, ↓q_eqs, List.cons.injEq, D.str.injEq, D.tup.injEq, D.lst.injEq, h.top, a1, c1, ix])
    exact ⟨_, _, _, rfl, hb⟩
  rintro _ ⟨p, mem, b, rfl, h⟩
  refine T_mid (fun s => ∃ p mem b x2 x3 x4 x5 x6, s = ⟨[some (.int (n : Nat)), some (.ptr p), x2, x3, x4, x5, x6], mem⟩ ∧ Mat mem b (n + 1) p (byF n n)) ?_ ?_
  · (simp (maxSteps := 1000000) (disch := first | omega | (simp only [List.length_append, List.length_set, List.length_cons, List.length_nil, List.length_map]; omega)) only [↓T_ret, ↓T_C, ↓T_var, ↓T_m1, ↓T_m2, ↓T_mn, ↓T_nil, ↓T_cons, ↓L_tb, ↓L_if, ↓L_and, ↓L_or, ↓T_not, ↓L_andV, ↓L_orV, ↓L_notV, ↓T_mt, ↓T_nx, ↓sq_nx, ↓sq_rt, ↓sq_bk, ↓sq_ct, ↓iq_t, ↓iq_f, ↓iq_dt, ↓iq_df, ↓iq_nt, ↓iq_nf, iq_d, iq_n, ↓tq_bl, ↓iqi_i, ↓Bool.not_true, ↓Bool.not_false, ↓i_ib, ↓i_ii, ↓i_is, ↓i_il, ↓i_it, ↓i_sb, ↓i_si, ↓i_ss, ↓i_sl, ↓i_st, ↓i_tb, ↓i_ti, ↓i_ts, ↓i_tl, ↓i_tt, ↓n_i, ↓n_s, ↓n_t, ↓n_p, ↓n_n, ↓T_bk, ↓T_ct, ↓T_rtN, ↓L_seq, ↓T_ex, ↓T_rt, ↓T_set, List.getElem?_concat_length, get_app, ↓T_sub, ↓T_part0, ↓T_part1, ↓T_sl, ↓T_for, ↓T_rng1, ↓T_wk, ↓q_slp, ↓q_sll, ↓q_slt, ↓q_revp, ↓q_revl, ↓q_addpp, ↓q_listp, ↓q_listl, ↓q_listt, ↓q_lists, ↓q_tuplep, ↓q_tuplel, ↓q_tuplet, ↓q_app, ↓q_notN, ↓T_frz, ↓T_call, ↓T_callK, ↓T_raise, ↓T_asg, ↓q_add, ↓q_sub, ↓q_neg, ↓q_lt, ↓q_le, ↓q_gt, ↓q_ge, ↓q_eq, ↓q_ne, ↓q_int, ↓q_intb, ↓q_mod, ↓q_ixp, ↓q_ixl, ↓q_ixt, ↓q_lenl, ↓q_lent, ↓q_lenp, ↓q_setL, ↓q_lst, ↓q_tup, ↓q_pow10, at0, at1, at2, at3, at4, Cell.lst.injEq, ↓q_mulr, ↓q_mull, ↓q_divn, ↓Tc_ok, ↓Tc_exc, ↓fi_int, ↓fi_bl, ↓fi_non, List.getElem?_cons_zero, List.getElem?_cons_succ, List.set_cons_zero, List.set_cons_succ, List.map_cons, List.map_nil, List.length_cons, List.length_nil, List.replicate, List.cons_append, List.nil_append, List.append_nil, Option.some.injEq, D.bl.injEq, D.int.injEq, ↓exists_eq_left, ↓exists_eq_left', exists_eq', ne_eq, reduceCtorEq, not_true_eq_false, not_false_eq_true, false_implies, true_implies, implies_true, forall_const, and_true, true_and, forall_eq, forall_eq', decide_eq_true_eq, decide_eq_false_iff_not, Nat.reduceAdd, Nat.reduceSub, Nat.zero_add, ↓i_lb, ↓i_li, ↓i_ls, ↓i_ll, ↓i_lt, ↓i_bb, ↓i_bi, ↓i_nb, ↓i_ni, ↓n_l, ↓n_b, ↓q_eqb, ↓q_eqs, List.cons.injEq, D.str.injEq, D.tup.injEq, D.lst.injEq])
    refine ⟨rg_ok (by omega) (by omega), ?_⟩
    rw [Int.toNat_natCast]
    refine T_forR (fun t s => ∃ p mem b x2 x3 x4 x5 x6, s = ⟨[some (.int (n : Nat)), some (.ptr p), x2, x3, x4, x5, x6], mem⟩ ∧ Mat mem b (n + 1) p (byF n t)) ⟨p, mem, b, _, _, _, _, _, rfl, h⟩ ?_ ?_
    · rintro t _ ht ⟨p, mem, b, x2, x3, x4, x5, x6, rfl, h⟩
      refine ⟨_, rfl, ?_⟩
      refine T_mid (fun s => ∃ p' mem' b', s = ⟨[some (.int (n : Nat)), some (.ptr p), x2, some (.int (t : Nat)), some (.ptr p'), x5, x6], mem'⟩ ∧ Mat mem' b (n + 1) p (byF n t) ∧ Mat mem' b' (n + 1) p' (zero (n + 1)) ∧ p < b') ?_ ?_
      · refine T_set.mpr (zeros hn mem _ rfl 2 (by decide) (by simp) _ _ fun m' h1 h2 h3 => ⟨rfl, _, m', mem.length, ?_, ?_, h1, (List.getElem?_eq_some_iff.mp h.top).1⟩)
        · simp [gN]
        · obtain ⟨t, rfl⟩ := h3
          exact h.app t
      rintro _ ⟨p', mem', b', rfl, h, h', hp⟩
      refine T_mid (fun s => ∃ x2 x5 x6 mem', s = ⟨[some (.int (n : Nat)), some (.ptr p), x2, some (.int (t : Nat)), some (.ptr p'), x5, x6], mem'⟩ ∧ Mat mem' b' (n + 1) p' (turnF (n + 1) (byF n t) t)) ?_ ?_
      · (simp (maxSteps := 1000000) (disch := first | omega | (simp only [List.length_append, List.length_set, List.length_cons, List.length_nil, List.length_map]; omega)) only [↓T_ret, ↓T_C, ↓T_var, ↓T_m1, ↓T_m2, ↓T_mn, ↓T_nil, ↓T_cons, ↓L_tb, ↓L_if, ↓L_and, ↓L_or, ↓T_not, ↓L_andV, ↓L_orV, ↓L_notV, ↓T_mt, ↓T_nx, ↓sq_nx, ↓sq_rt, ↓sq_bk, ↓sq_ct, ↓iq_t, ↓iq_f, ↓iq_dt, ↓iq_df, ↓iq_nt, ↓iq_nf, iq_d, iq_n, ↓tq_bl, ↓iqi_i, ↓Bool.not_true, ↓Bool.not_false, ↓i_ib, ↓i_ii, ↓i_is, ↓i_il, ↓i_it, ↓i_sb, ↓i_si, ↓i_ss, ↓i_sl, ↓i_st, ↓i_tb, ↓i_ti, ↓i_ts, ↓i_tl, ↓i_tt, ↓n_i, ↓n_s, ↓n_t, ↓n_p, ↓n_n, ↓T_bk, ↓T_ct, ↓T_rtN, ↓L_seq, ↓T_ex, ↓T_rt, ↓T_set, List.getElem?_concat_length, get_app, ↓T_sub, ↓T_part0, ↓T_part1, ↓T_sl, ↓T_for, ↓T_rng1, ↓T_wk, ↓q_slp, ↓q_sll, ↓q_slt, ↓q_revp, ↓q_revl, ↓q_addpp, ↓q_listp, ↓q_listl, ↓q_listt, ↓q_lists, ↓q_tuplep, ↓q_tuplel, ↓q_tuplet, ↓q_app, ↓q_notN, ↓T_frz, ↓T_call, ↓T_callK, ↓T_raise, ↓T_asg, ↓q_add, ↓q_sub, ↓q_neg, ↓q_lt, ↓q_le, ↓q_gt, ↓q_ge, ↓q_eq, ↓q_ne, ↓q_int, ↓q_intb, ↓q_mod, ↓q_ixp, ↓q_ixl, ↓q_ixt, ↓q_lenl, ↓q_lent, ↓q_lenp, ↓q_setL, ↓q_lst, ↓q_tup, ↓q_pow10, at0, at1, at2, at3, at4, Cell.lst.injEq, ↓q_mulr, ↓q_mull, ↓q_divn, ↓Tc_ok, ↓Tc_exc, ↓fi_int, ↓fi_bl, ↓fi_non, List.getElem?_cons_zero, List.getElem?_cons_succ, List.set_cons_zero, List.set_cons_succ, List.map_cons, List.map_nil, List.length_cons, List.length_nil, List.replicate, List.cons_append, List.nil_append, List.append_nil, Option.some.injEq, D.bl.injEq, D.int.injEq, ↓exists_eq_left, ↓exists_eq_left', exists_eq', ne_eq, reduceCtorEq, not_true_eq_false, not_false_eq_true, false_implies, true_implies, implies_true, forall_const, and_true, true_and, forall_eq, forall_eq', decide_eq_true_eq, decide_eq_false_iff_not, Nat.reduceAdd, Nat.reduceSub, Nat.zero_add, ↓i_lb, ↓i_li, ↓i_ls, ↓i_ll, ↓i_lt, ↓i_bb, ↓i_bi, ↓i_nb, ↓i_ni, ↓n_l, ↓n_b, ↓q_eqb, ↓q_eqs, List.cons.injEq, D.str.injEq, D.tup.injEq, D.lst.injEq])
        refine ⟨rg_ok (by omega) (by omega), ?_⟩
        have e : ((t : Int) + 1).toNat = t + 1 := by omega
        rw [e]
        refine T_forR (fun i s => ∃ x2 x5 x6 mem', s = ⟨[some (.int (n : Nat)), some (.ptr p), x2, some (.int (t : Nat)), some (.ptr p'), x5, x6], mem'⟩ ∧ Mat mem' b (n + 1) p (byF n t) ∧ Mat mem' b' (n + 1) p' ((List.range i).foldl (mF (byF n t) t) (zero (n + 1)))) ⟨_, _, _, _, rfl, h, h'⟩ ?_ ?_
        · rintro i _ hi ⟨x2, x5, x6, mem', rfl, g, g'⟩
          refine ⟨_, rfl, ?_⟩
          show T _ ⟨[some (.int (n : Nat)), some (.ptr p), x2, some (.int (t : Nat)), some (.ptr p'), some (.int (0 + (i : Nat))), x6], mem'⟩ _ _
          rw [Int.zero_add]
          refine T_imp (loop_k g g' hp (by omega) i (by omega) (by omega) x2 x6 _) ?_
          rintro f _ ⟨rfl, x2, x6, mem3, rfl, r, r', _⟩
          refine ⟨.inl rfl, _, _, _, mem3, rfl, r, ?_⟩
          rw [fold_succ]
          exact r'
        · rintro _ ⟨x2, x5, x6, mem', rfl, g, g'⟩
          exact ⟨rfl, x2, x5, x6, mem', rfl, g'⟩
      rintro _ ⟨x2, x5, x6, mem', rfl, g'⟩
      (simp (maxSteps := 1000000) (disch := first | omega | (simp only [List.length_append, List.length_set, List.length_cons, List.length_nil, List.length_map]; omega)) only [↓T_ret, ↓T_C, ↓T_var, ↓T_m1, ↓T_m2, ↓T_mn, ↓T_nil, ↓T_cons, ↓L_tb, ↓L_if, ↓L_and, ↓L_or, ↓T_not, ↓L_andV, ↓L_orV, ↓L_notV, ↓T_mt, ↓T_nx, ↓sq_nx, ↓sq_rt, ↓sq_bk, ↓sq_ct, ↓iq_t, ↓iq_f, ↓iq_dt, ↓iq_df, ↓iq_nt, ↓iq_nf, iq_d, iq_n, ↓tq_bl, ↓iqi_i, ↓Bool.not_true, ↓Bool.not_false, ↓i_ib, ↓i_ii, ↓i_is, ↓i_il, ↓i_it, ↓i_sb, ↓i_si, ↓i_ss, ↓i_sl, ↓i_st, ↓i_tb, ↓i_ti, ↓i_ts, ↓i_tl, ↓i_tt, ↓n_i, ↓n_s, ↓n_t, ↓n_p, ↓n_n, ↓T_bk, ↓T_ct, ↓T_rtN, ↓L_seq, ↓T_ex, ↓T_rt, ↓T_set, List.getElem?_concat_length, get_app, ↓T_sub, ↓T_part0, ↓T_part1, ↓T_sl, ↓T_for, ↓T_rng1, ↓T_wk, ↓q_slp, ↓q_sll, ↓q_slt, ↓q_revp, ↓q_revl, ↓q_addpp, ↓q_listp, ↓q_listl, ↓q_listt, ↓q_lists, ↓q_tuplep, ↓q_tuplel, ↓q_tuplet, ↓q_app, ↓q_notN, ↓T_frz, ↓T_call, ↓T_callK, ↓T_raise, ↓T_asg, ↓q_add, ↓q_sub, ↓q_neg, ↓q_lt, ↓q_le, ↓q_gt, ↓q_ge, ↓q_eq, ↓q_ne, ↓q_int, ↓q_intb, ↓q_mod, ↓q_ixp, ↓q_ixl, ↓q_ixt, ↓q_lenl, ↓q_lent, ↓q_lenp, ↓q_setL, ↓q_lst, ↓q_tup, ↓q_pow10, at0, at1, at2, at3, at4, Cell.lst.injEq, ↓q_mulr, ↓q_mull, ↓q_divn, ↓Tc_ok, ↓Tc_exc, ↓fi_int, ↓fi_bl, ↓fi_non, List.getElem?_cons_zero, List.getElem?_cons_succ, List.set_cons_zero, List.set_cons_succ, List.map_cons, List.map_nil, List.length_cons, List.length_nil, List.replicate, List.cons_append, List.nil_append, List.append_nil, Option.some.injEq, D.bl.injEq, D.int.injEq, ↓exists_eq_left, ↓exists_eq_left', exists_eq', ne_eq, reduceCtorEq, not_true_eq_false, not_false_eq_true, false_implies, true_implies, implies_true, forall_const, and_true, true_and, forall_eq, forall_eq', decide_eq_true_eq, decide_eq_false_iff_not, Nat.reduceAdd, Nat.reduceSub, Nat.zero_add, ↓i_lb, ↓i_li, ↓i_ls, ↓i_ll, ↓i_lt, ↓i_bb, ↓i_bi, ↓i_nb, ↓i_ni, ↓n_l, ↓n_b, ↓q_eqb, ↓q_eqs, List.cons.injEq, D.str.injEq, D.tup.injEq, D.lst.injEq])
      refine ⟨.inl trivial, p', mem', b', _, _, _, _, _, rfl, ?_⟩
      unfold byF at g' ⊢
      rw [fold_succ]
      exact g'
    · rintro _ ⟨p, mem, b, x2, x3, x4, x5, x6, rfl, h⟩
      exact ⟨rfl, p, mem, b, x2, x3, x4, x5, x6, rfl, h⟩
  rintro _ ⟨p, mem, b, x2, x3, x4, x5, x6, rfl, h⟩
  have hN : ((n : Int) + 1).toNat = n + 1 := by omega
  (simp (maxSteps := 1000000) (disch := first | omega | (simp only [List.length_append, List.length_set, List.length_cons, List.length_nil, List.length_map]; omega)) only [↓T_ret, ↓T_C, ↓T_var, ↓T_m1, ↓T_m2, ↓T_mn, ↓T_nil, ↓T_cons, ↓L_tb, ↓L_if, ↓L_and, ↓L_or, ↓T_not, ↓L_andV, ↓L_orV, ↓L_notV, ↓T_mt, ↓T_nx, ↓sq_nx, ↓sq_rt, ↓sq_bk, ↓sq_ct, ↓iq_t, ↓iq_f, ↓iq_dt, ↓iq_df, ↓iq_nt, ↓iq_nf, iq_d, iq_n, ↓tq_bl, ↓iqi_i, ↓Bool.not_true, ↓Bool.not_false, ↓i_ib, ↓i_ii, ↓i_is, ↓i_il, ↓i_it, ↓i_sb, ↓i_si, ↓i_ss, ↓i_sl, ↓i_st, ↓i_tb, ↓i_ti, ↓i_ts, ↓i_tl, ↓i_tt, ↓n_i, ↓n_s, ↓n_t, ↓n_p, ↓n_n, ↓T_bk, ↓T_ct, ↓T_rtN, ↓L_seq, ↓T_ex, ↓T_rt, ↓T_set, List.getElem?_concat_length, get_app, ↓T_sub, ↓T_part0, ↓T_part1, ↓T_sl, ↓T_for, ↓T_rng1, ↓T_wk, ↓q_slp, ↓q_sll, ↓q_slt, ↓q_revp, ↓q_revl, ↓q_addpp, ↓q_listp, ↓q_listl, ↓q_listt, ↓q_lists, ↓q_tuplep, ↓q_tuplel, ↓q_tuplet, ↓q_app, ↓q_notN, ↓T_frz, ↓T_call, ↓T_callK, ↓T_raise, ↓T_asg, ↓q_add, ↓q_sub, ↓q_neg, ↓q_lt, ↓q_le, ↓q_gt, ↓q_ge, ↓q_eq, ↓q_ne, ↓q_int, ↓q_intb, ↓q_mod, ↓q_ixp, ↓q_ixl, ↓q_ixt, ↓q_lenl, ↓q_lent, ↓q_lenp, ↓q_setL, ↓q_lst, ↓q_tup, ↓q_pow10, at0, at1, at2, at3, at4, Cell.lst.injEq, ↓q_mulr, ↓q_mull, ↓q_divn, ↓Tc_ok, ↓Tc_exc, ↓fi_int, ↓fi_bl, ↓fi_non, List.getElem?_cons_zero, List.getElem?_cons_succ, List.set_cons_zero, List.set_cons_succ, List.map_cons, List.map_nil, List.length_cons, List.length_nil, List.replicate, List.cons_append, List.nil_append, List.append_nil, Option.some.injEq, D.bl.injEq, D.int.injEq, ↓exists_eq_left, ↓exists_eq_left', exists_eq', ne_eq, reduceCtorEq, not_true_eq_false, not_false_eq_true, false_implies, true_implies, implies_true, forall_const, and_true, true_and, forall_eq, forall_eq', decide_eq_true_eq, decide_eq_false_iff_not, Nat.reduceAdd, Nat.reduceSub, Nat.zero_add, ↓i_lb, ↓i_li, ↓i_ls, ↓i_ll, ↓i_lt, ↓i_bb, ↓i_bi, ↓i_nb, ↓i_ni, ↓n_l, ↓n_b, ↓q_eqb, ↓q_eqs, List.cons.injEq, D.str.injEq, D.tup.injEq, D.lst.injEq])
  refine T_lcI ?_
  (simp (maxSteps := 1000000) (disch := first | omega | (simp only [List.length_append, List.length_set, List.length_cons, List.length_nil, List.length_map]; omega)) only [↓T_ret, ↓T_C, ↓T_var, ↓T_m1, ↓T_m2, ↓T_mn, ↓T_nil, ↓T_cons, ↓L_tb, ↓L_if, ↓L_and, ↓L_or, ↓T_not, ↓L_andV, ↓L_orV, ↓L_notV, ↓T_mt, ↓T_nx, ↓sq_nx, ↓sq_rt, ↓sq_bk, ↓sq_ct, ↓iq_t, ↓iq_f, ↓iq_dt, ↓iq_df, ↓iq_nt, ↓iq_nf, iq_d, iq_n, ↓tq_bl, ↓iqi_i, ↓Bool.not_true, ↓Bool.not_false, ↓i_ib, ↓i_ii, ↓i_is, ↓i_il, ↓i_it, ↓i_sb, ↓i_si, ↓i_ss, ↓i_sl, ↓i_st, ↓i_tb, ↓i_ti, ↓i_ts, ↓i_tl, ↓i_tt, ↓n_i, ↓n_s, ↓n_t, ↓n_p, ↓n_n, ↓T_bk, ↓T_ct, ↓T_rtN, ↓L_seq, ↓T_ex, ↓T_rt, ↓T_set, List.getElem?_concat_length, get_app, ↓T_sub, ↓T_part0, ↓T_part1, ↓T_sl, ↓T_for, ↓T_rng1, ↓T_wk, ↓q_slp, ↓q_sll, ↓q_slt, ↓q_revp, ↓q_revl, ↓q_addpp, ↓q_listp, ↓q_listl, ↓q_listt, ↓q_lists, ↓q_tuplep, ↓q_tuplel, ↓q_tuplet, ↓q_app, ↓q_notN, ↓T_frz, ↓T_call, ↓T_callK, ↓T_raise, ↓T_asg, ↓q_add, ↓q_sub, ↓q_neg, ↓q_lt, ↓q_le, ↓q_gt, ↓q_ge, ↓q_eq, ↓q_ne, ↓q_int, ↓q_intb, ↓q_mod, ↓q_ixp, ↓q_ixl, ↓q_ixt, ↓q_lenl, ↓q_lent, ↓q_lenp, ↓q_setL, ↓q_lst, ↓q_tup, ↓q_pow10, at0, at1, at2, at3, at4, Cell.lst.injEq, ↓q_mulr, ↓q_mull, ↓q_divn, ↓Tc_ok, ↓Tc_exc, ↓fi_int, ↓fi_bl, ↓fi_non, List.getElem?_cons_zero, List.getElem?_cons_succ, List.set_cons_zero, List.set_cons_succ, List.map_cons, List.map_nil, List.length_cons, List.length_nil, List.replicate, List.cons_append, List.nil_append, List.append_nil, Option.some.injEq, D.bl.injEq, D.int.injEq, ↓exists_eq_left, ↓exists_eq_left', exists_eq', ne_eq, reduceCtorEq, not_true_eq_false, not_false_eq_true, false_implies, true_implies, implies_true, forall_const, and_true, true_and, forall_eq, forall_eq', decide_eq_true_eq, decide_eq_false_iff_not, Nat.reduceAdd, Nat.reduceSub, Nat.zero_add, ↓i_lb, ↓i_li, ↓i_ls, ↓i_ll, ↓i_lt, ↓i_bb, ↓i_bi, ↓i_nb, ↓i_ni, ↓n_l, ↓n_b, ↓q_eqb, ↓q_eqs, List.cons.injEq, D.str.injEq, D.tup.injEq, D.lst.injEq])
  refine ⟨rg_ok (by omega) (by omega), by unfold rangeD; simp; omega, ?_⟩
  rw [hN]
  refine ⟨fun ds acc s => ∃ k t, k ≤ n + 1 ∧ ds = (rangeD 0 (n + 1)).drop k ∧ acc = ((List.range k).map fun k => ((List.range (n + 1)).map fun m => cellM (byF n n) m k).sum).map .int ∧ s = ⟨[some (.int (n : Nat)), some (.ptr p), none, x3, x4, x5, x6], mem ++ t⟩, fun _ _ _ _ => okB_none, ⟨0, [], by omega, rfl, rfl, by simp [wipeE]⟩, ?_, ?_⟩
  · rintro d ds acc _ ⟨k, t, hk, e, rfl, rfl⟩
    have hl2 : (rangeD 0 (n + 1)).length = n + 1 := by unfold rangeD; simp
    have hkn : k < n + 1 := by
      have := congrArg List.length e
      rw [List.length_drop, hl2, List.length_cons] at this; omega
    have e2 : (rangeD 0 (n + 1)).drop k = .int (0 + (k : Nat)) :: (rangeD 0 (n + 1)).drop (k + 1) := by
      rw [List.drop_eq_getElem_cons (by omega)]
      congr 1
      unfold rangeD; simp
    rw [e2] at e
    obtain ⟨rfl, rfl⟩ := List.cons.inj e
    refine ⟨_, rfl, T_ret.mpr ?_⟩
    rw [if_pos rfl, Int.zero_add]
    have g := h.app t
    (simp (maxSteps := 1000000) (disch := first | omega | (simp only [List.length_append, List.length_set, List.length_cons, List.length_nil, List.length_map]; omega)) only [↓T_ret, ↓T_C, ↓T_var, ↓T_m1, ↓T_m2, ↓T_mn, ↓T_nil, ↓T_cons, ↓L_tb, ↓L_if, ↓L_and, ↓L_or, ↓T_not, ↓L_andV, ↓L_orV, ↓L_notV, ↓T_mt, ↓T_nx, ↓sq_nx, ↓sq_rt, ↓sq_bk, ↓sq_ct, ↓iq_t, ↓iq_f, ↓iq_dt, ↓iq_df, ↓iq_nt, ↓iq_nf, iq_d, iq_n, ↓tq_bl, ↓iqi_i, ↓Bool.not_true, ↓Bool.not_false, ↓i_ib, ↓i_ii, ↓i_is, ↓i_il, ↓i_it, ↓i_sb, ↓i_si, ↓i_ss, ↓i_sl, ↓i_st, ↓i_tb, ↓i_ti, ↓i_ts, ↓i_tl, ↓i_tt, ↓n_i, ↓n_s, ↓n_t, ↓n_p, ↓n_n, ↓T_bk, ↓T_ct, ↓T_rtN, ↓L_seq, ↓T_ex, ↓T_rt, ↓T_set, List.getElem?_concat_length, get_app, ↓T_sub, ↓T_part0, ↓T_part1, ↓T_sl, ↓T_for, ↓T_rng1, ↓T_wk, ↓q_slp, ↓q_sll, ↓q_slt, ↓q_revp, ↓q_revl, ↓q_addpp, ↓q_listp, ↓q_listl, ↓q_listt, ↓q_lists, ↓q_tuplep, ↓q_tuplel, ↓q_tuplet, ↓q_app, ↓q_notN, ↓T_frz, ↓T_call, ↓T_callK, ↓T_raise, ↓T_asg, ↓q_add, ↓q_sub, ↓q_neg, ↓q_lt, ↓q_le, ↓q_gt, ↓q_ge, ↓q_eq, ↓q_ne, ↓q_int, ↓q_intb, ↓q_mod, ↓q_ixp, ↓q_ixl, ↓q_ixt, ↓q_lenl, ↓q_lent, ↓q_lenp, ↓q_setL, ↓q_lst, ↓q_tup, ↓q_pow10, at0, at1, at2, at3, at4, Cell.lst.injEq, ↓q_mulr, ↓q_mull, ↓q_divn, ↓Tc_ok, ↓Tc_exc, ↓fi_int, ↓fi_bl, ↓fi_non, List.getElem?_cons_zero, List.getElem?_cons_succ, List.set_cons_zero, List.set_cons_succ, List.map_cons, List.map_nil, List.length_cons, List.length_nil, List.replicate, List.cons_append, List.nil_append, List.append_nil, Option.some.injEq, D.bl.injEq, D.int.injEq, ↓exists_eq_left, ↓exists_eq_left', exists_eq', ne_eq, reduceCtorEq, not_true_eq_false, not_false_eq_true, false_implies, true_implies, implies_true, forall_const, and_true, true_and, forall_eq, forall_eq', decide_eq_true_eq, decide_eq_false_iff_not, Nat.reduceAdd, Nat.reduceSub, Nat.zero_add, ↓i_lb, ↓i_li, ↓i_ls, ↓i_ll, ↓i_lt, ↓i_bb, ↓i_bi, ↓i_nb, ↓i_ni, ↓n_l, ↓n_b, ↓q_eqb, ↓q_eqs, List.cons.injEq, D.str.injEq, D.tup.injEq, D.lst.injEq])
    refine T_lcM (fun d => match d with
      | .int i => .int (cellM (byF n n) i.toNat k)
      | _ => .non) ?_
    (simp (maxSteps := 1000000) (disch := first | omega | (simp only [List.length_append, List.length_set, List.length_cons, List.length_nil, List.length_map]; omega)) only [↓T_ret, ↓T_C, ↓T_var, ↓T_m1, ↓T_m2, ↓T_mn, ↓T_nil, ↓T_cons, ↓L_tb, ↓L_if, ↓L_and, ↓L_or, ↓T_not, ↓L_andV, ↓L_orV, ↓L_notV, ↓T_mt, ↓T_nx, ↓sq_nx, ↓sq_rt, ↓sq_bk, ↓sq_ct, ↓iq_t, ↓iq_f, ↓iq_dt, ↓iq_df, ↓iq_nt, ↓iq_nf, iq_d, iq_n, ↓tq_bl, ↓iqi_i, ↓Bool.not_true, ↓Bool.not_false, ↓i_ib, ↓i_ii, ↓i_is, ↓i_il, ↓i_it, ↓i_sb, ↓i_si, ↓i_ss, ↓i_sl, ↓i_st, ↓i_tb, ↓i_ti, ↓i_ts, ↓i_tl, ↓i_tt, ↓n_i, ↓n_s, ↓n_t, ↓n_p, ↓n_n, ↓T_bk, ↓T_ct, ↓T_rtN, ↓L_seq, ↓T_ex, ↓T_rt, ↓T_set, List.getElem?_concat_length, get_app, ↓T_sub, ↓T_part0, ↓T_part1, ↓T_sl, ↓T_for, ↓T_rng1, ↓T_wk, ↓q_slp, ↓q_sll, ↓q_slt, ↓q_revp, ↓q_revl, ↓q_addpp, ↓q_listp, ↓q_listl, ↓q_listt, ↓q_lists, ↓q_tuplep, ↓q_tuplel, ↓q_tuplet, ↓q_app, ↓q_notN, ↓T_frz, ↓T_call, ↓T_callK, ↓T_raise, ↓T_asg, ↓q_add, ↓q_sub, ↓q_neg, ↓q_lt, ↓q_le, ↓q_gt, ↓q_ge, ↓q_eq, ↓q_ne, ↓q_int, ↓q_intb, ↓q_mod, ↓q_ixp, ↓q_ixl, ↓q_ixt, ↓q_lenl, ↓q_lent, ↓q_lenp, ↓q_setL, ↓q_lst, ↓q_tup, ↓q_pow10, at0, at1, at2, at3, at4, Cell.lst.injEq, ↓q_mulr, ↓q_mull, ↓q_divn, ↓Tc_ok, ↓Tc_exc, ↓fi_int, ↓fi_bl, ↓fi_non, List.getElem?_cons_zero, List.getElem?_cons_succ, List.set_cons_zero, List.set_cons_succ, List.map_cons, List.map_nil, List.length_cons, List.length_nil, List.replicate, List.cons_append, List.nil_append, List.append_nil, Option.some.injEq, D.bl.injEq, D.int.injEq, ↓exists_eq_left, ↓exists_eq_left', exists_eq', ne_eq, reduceCtorEq, not_true_eq_false, not_false_eq_true, false_implies, true_implies, implies_true, forall_const, and_true, true_and, forall_eq, forall_eq', decide_eq_true_eq, decide_eq_false_iff_not, Nat.reduceAdd, Nat.reduceSub, Nat.zero_add, ↓i_lb, ↓i_li, ↓i_ls, ↓i_ll, ↓i_lt, ↓i_bb, ↓i_bi, ↓i_nb, ↓i_ni, ↓n_l, ↓n_b, ↓q_eqb, ↓q_eqs, List.cons.injEq, D.str.injEq, D.tup.injEq, D.lst.injEq])
    refine ⟨rg_ok (by omega) (by omega), by unfold rangeD; simp; omega, okB_none, ?_, ?_⟩
    · intro d hd
      rw [hN] at hd
      unfold rangeD at hd
      simp only [List.mem_map, List.mem_range] at hd
      obtain ⟨i, hi, rfl⟩ := hd
      obtain ⟨c1, c2⟩ := g.cell (i := 0 + (i : Nat)) (k := (k : Nat)) (by omega) (by omega) (by omega) (by omega)
      have a1 := g.at_ (i := 0 + (i : Nat)) (by omega) (by omega)
      rw [Int.toNat_natCast] at c2
      refine ⟨_, rfl, rfl, ?_, ?_⟩
      · simp [wipeE]
      · (simp (maxSteps := 1000000) (disch := first | omega | (simp only [List.length_append, List.length_set, List.length_cons, List.length_nil, List.length_map]; omega)) only [↓T_ret, ↓T_C, ↓T_var, ↓T_m1, ↓T_m2, ↓T_mn, ↓T_nil, ↓T_cons, ↓L_tb, ↓L_if, ↓L_and, ↓L_or, ↓T_not, ↓L_andV, ↓L_orV, ↓L_notV, ↓T_mt, ↓T_nx, ↓sq_nx, ↓sq_rt, ↓sq_bk, ↓sq_ct, ↓iq_t, ↓iq_f, ↓iq_dt, ↓iq_df, ↓iq_nt, ↓iq_nf, iq_d, iq_n, ↓tq_bl, ↓iqi_i, ↓Bool.not_true, ↓Bool.not_false, ↓i_ib, ↓i_ii, ↓i_is, ↓i_il, ↓i_it, ↓i_sb, ↓i_si, ↓i_ss, ↓i_sl, ↓i_st, ↓i_tb, ↓i_ti, ↓i_ts, ↓i_tl, ↓i_tt, ↓n_i, ↓n_s, ↓n_t, ↓n_p, ↓n_n, ↓T_bk, ↓T_ct, ↓T_rtN, ↓L_seq, ↓T_ex, ↓T_rt, ↓T_set, List.getElem?_concat_length, get_app, ↓T_sub, ↓T_part0, ↓T_part1, ↓T_sl, ↓T_for, ↓T_rng1, ↓T_wk, ↓q_slp, ↓q_sll, ↓q_slt, ↓q_revp, ↓q_revl, ↓q_addpp, ↓q_listp, ↓q_listl, ↓q_listt, ↓q_lists, ↓q_tuplep, ↓q_tuplel, ↓q_tuplet, ↓q_app, ↓q_notN, ↓T_frz, ↓T_call, ↓T_callK, ↓T_raise, ↓T_asg, ↓q_add, ↓q_sub, ↓q_neg, ↓q_lt, ↓q_le, ↓q_gt, ↓q_ge, ↓q_eq, ↓q_ne, ↓q_int, ↓q_intb, ↓q_mod, ↓q_ixp, ↓q_ixl, ↓q_ixt, ↓q_lenl, ↓q_lent, ↓q_lenp, ↓q_setL, ↓q_lst, ↓q_tup, ↓q_pow10, at0, at1, at2, at3, at4, Cell.lst.injEq, ↓q_mulr, ↓q_mull, ↓q_divn, ↓Tc_ok, ↓Tc_exc, ↓fi_int, ↓fi_bl, ↓fi_non, List.getElem?_cons_zero, List.getElem?_cons_succ, List.set_cons_zero, List.set_cons_succ, List.map_cons, List.map_nil, List.length_cons, List.length_nil, List.replicate, List.cons_append, List.nil_append, List.append_nil, Option.some.injEq, D.bl.injEq, D.int.injEq, ↓exists_eq_left, ↓exists_eq_left', exists_eq', ne_eq, reduceCtorEq, not_true_eq_false, not_false_eq_true, false_implies, true_implies, implies_true, forall_const, and_true, true_and, forall_eq, forall_eq', decide_eq_true_eq, decide_eq_false_iff_not, Nat.reduceAdd, Nat.reduceSub, Nat.zero_add, ↓i_lb, ↓i_li, ↓i_ls, ↓i_ll, ↓i_lt, ↓i_bb, ↓i_bi, ↓i_nb, ↓i_ni, ↓n_l, ↓n_b, ↓q_eqb, ↓q_eqs, List.cons.injEq, D.str.injEq, D.tup.injEq, D.lst.injEq, g.top, a1, c1, c2, wipeE])
    · rw [hN]
      have em : (rangeD 0 (n + 1)).map (fun d => match d with
        | .int i => D.int (cellM (byF n n) i.toNat k)
        | _ => .non) = ((List.range (n + 1)).map fun m => cellM (byF n n) m k).map .int := by
        unfold rangeD
        rw [List.map_map, List.map_map]
        refine List.map_congr_left fun i _ => ?_
        show D.int (cellM (byF n n) (0 + (i : Int)).toNat k) = _
        rw [Int.zero_add, Int.toNat_natCast]
        rfl
      rw [em, sum_ptr List.getElem?_concat_length rfl]
      refine ⟨k + 1, t ++ [.lst (((List.range (n + 1)).map fun m => cellM (byF n n) m k).map .int)], by omega, rfl, ?_, ?_⟩
      · rw [show List.range (k + 1) = List.range k ++ [k] from List.range_succ, List.map_append, List.map_append]; rfl
      · simp [wipeE, backE]
  · rintro acc _ ⟨k, t, hk, e, rfl, rfl⟩
    have hl2 : (rangeD 0 (n + 1)).length = n + 1 := by unfold rangeD; simp
    have hkn : k = n + 1 := by
      have := congrArg List.length e
      rw [List.length_drop, hl2, List.length_nil] at this; omega
    subst hkn
    have fz : frz (.ptr (mem ++ t).length) (mem ++ t ++ [.lst ((sumsF n).map .int)]) = some (.lst ((sumsF n).map .int), _) := frz_ptr List.getElem?_concat_length (lo_ints _)
    rw [show ((List.range (n + 1)).map fun k => ((List.range (n + 1)).map fun m => cellM (byF n n) m k).sum) = sumsF n from rfl]
    rw [fz, Pq_some, fin_0 (by unfold D.lo; exact lo_ints _)]
    exact ⟨rfl, rfl⟩
end K38

set_option maxRecDepth 100000
set_option maxHeartbeats 2000000
namespace K38
open PySem PySem.Spec PyProof.Rows L2 Dl
theorem place (limit : Int) (h1 : limit ≤ 1000) (c : Cell) (hc : isS c) : ∃ r c', (∀ t, isoK 1 φ__law_place [.ptr 0, .int limit] (c :: t) = .ok (.int r) (c' :: t)) ∧ isS c' ∧ True := by
  refine DrV.get (DrV.of ?_) hc rfl fun _ _ => rfl
  rw [φ__law_place]; refine (T_fn rfl).mpr ?_; rw [m__law_place]
  obtain ⟨k, c1, e1, s1, _⟩ := take 12 c hc
  obtain ⟨r2, c2, e2, s2, _⟩ := whole c1 s1
  obtain ⟨r3, c3, e3, s3, _⟩ := take limit c1 s1
  (simp (maxSteps := 1000000) (disch := first | omega | (simp only [List.length_append, List.length_set, List.length_cons, List.length_nil, List.length_map]; omega)) only [↓T_ret, ↓T_C, ↓T_var, ↓T_m1, ↓T_m2, ↓T_mn, ↓T_nil, ↓T_cons, ↓L_tb, ↓L_if, ↓L_and, ↓L_or, ↓T_not, ↓L_andV, ↓L_orV, ↓L_notV, ↓T_mt, ↓T_nx, ↓sq_nx, ↓sq_rt, ↓sq_bk, ↓sq_ct, ↓iq_t, ↓iq_f, ↓iq_dt, ↓iq_df, ↓iq_nt, ↓iq_nf, iq_d, iq_n, ↓tq_bl, ↓iqi_i, ↓Bool.not_true, ↓Bool.not_false, ↓i_ib, ↓i_ii, ↓i_is, ↓i_il, ↓i_it, ↓i_sb, ↓i_si, ↓i_ss, ↓i_sl, ↓i_st, ↓i_tb, ↓i_ti, ↓i_ts, ↓i_tl, ↓i_tt, ↓n_i, ↓n_s, ↓n_t, ↓n_p, ↓n_n, ↓T_bk, ↓T_ct, ↓T_rtN, ↓L_seq, ↓T_ex, ↓T_rt, ↓T_set, List.getElem?_concat_length, get_app, ↓T_sub, ↓T_part0, ↓T_part1, ↓T_sl, ↓T_for, ↓T_rng1, ↓T_wk, ↓q_slp, ↓q_sll, ↓q_slt, ↓q_revp, ↓q_revl, ↓q_addpp, ↓q_listp, ↓q_listl, ↓q_listt, ↓q_lists, ↓q_tuplep, ↓q_tuplel, ↓q_tuplet, ↓q_app, ↓q_notN, ↓T_frz, ↓T_call, ↓T_callK, ↓T_raise, ↓T_asg, ↓q_add, ↓q_sub, ↓q_neg, ↓q_lt, ↓q_le, ↓q_gt, ↓q_ge, ↓q_eq, ↓q_ne, ↓q_int, ↓q_intb, ↓q_mod, ↓q_ixp, ↓q_ixl, ↓q_ixt, ↓q_lenl, ↓q_lent, ↓q_lenp, ↓q_setL, ↓q_lst, ↓q_tup, ↓q_pow10, at0, at1, at2, at3, at4, Cell.lst.injEq, ↓q_mulr, ↓q_mull, ↓q_divn, ↓Tc_ok, ↓Tc_exc, ↓fi_int, ↓fi_bl, ↓fi_non, List.getElem?_cons_zero, List.getElem?_cons_succ, List.set_cons_zero, List.set_cons_succ, List.map_cons, List.map_nil, List.length_cons, List.length_nil, List.replicate, List.cons_append, List.nil_append, List.append_nil, Option.some.injEq, D.bl.injEq, D.int.injEq, ↓exists_eq_left, ↓exists_eq_left', exists_eq', ne_eq, reduceCtorEq, not_true_eq_false, not_false_eq_true, false_implies, true_implies, implies_true, forall_const, and_true, true_and, forall_eq, forall_eq', decide_eq_true_eq, decide_eq_false_iff_not, Nat.reduceAdd, Nat.reduceSub, Nat.zero_add, ↓i_lb, ↓i_li, ↓i_ls, ↓i_ll, ↓i_lt, ↓i_bb, ↓i_bi, ↓i_nb, ↓i_ni, ↓n_l, ↓n_b, ↓q_eqb, ↓q_eqs, List.cons.injEq, D.str.injEq, D.tup.injEq, D.lst.injEq, e1, e2, e3, fin_ci s1, fin_ci s2, fin_ci s3])
  (simp only [exists_and_left, exists_and_right, exists_eq_left, exists_eq_left', exists_eq', List.cons.injEq, D.int.injEq, D.bl.injEq, D.str.injEq, D.tup.injEq, D.lst.injEq, and_true, true_and, implies_true, forall_const, and_self, s1, s2, s3])
theorem vast (limit : Int) (h1 : limit ≤ 1000) (c : Cell) (hc : isS c) : ∃ r c', (∀ t, isoK 1 φ__law_vast [.ptr 0, .int limit] (c :: t) = .ok (.int r) (c' :: t)) ∧ isS c' ∧ True := by
  refine DrV.get (DrV.of ?_) hc rfl fun _ _ => rfl
  rw [φ__law_vast]; refine (T_fn rfl).mpr ?_; rw [m__law_vast]
  obtain ⟨k, c1, e1, s1, _⟩ := take 12 c hc
  obtain ⟨r2, c2, e2, s2, _⟩ := place limit h1 c1 s1
  obtain ⟨r3, c3, e3, s3, _⟩ := take 1000 c1 s1
  obtain ⟨r4, c4, e4, s4, _⟩ := take 2 c3 s3
  have p1 := fun (m : Mem) (Q : D → Mem → Prop) => q_powW (m := m) (Q := Q) (i := 10000000000000000000000000000000000000000000000000000000000000000) (j := 64) (by decide +kernel)
  have t1 : (64 : Int).toNat = 64 := rfl
  have t2 : (2 : Int).toNat = 2 := rfl
  rw [t1] at p1
  have p2 := fun (m : Mem) (Q : D → Mem → Prop) => q_powW (m := m) (Q := Q) (i := 10000000000000000000000000000000000000000000000000000000000000000 ^ 64) (j := 2) (by decide +kernel)
  rw [t2] at p2
  generalize ((10000000000000000000000000000000000000000000000000000000000000000 : Int) ^ 64) = z1 at p1 p2
  generalize z1 ^ 2 = z2 at p2
  (simp (maxSteps := 1000000) (disch := first | omega | (simp only [List.length_append, List.length_set, List.length_cons, List.length_nil, List.length_map]; omega)) only [↓T_ret, ↓T_C, ↓T_var, ↓T_m1, ↓T_m2, ↓T_mn, ↓T_nil, ↓T_cons, ↓L_tb, ↓L_if, ↓L_and, ↓L_or, ↓T_not, ↓L_andV, ↓L_orV, ↓L_notV, ↓T_mt, ↓T_nx, ↓sq_nx, ↓sq_rt, ↓sq_bk, ↓sq_ct, ↓iq_t, ↓iq_f, ↓iq_dt, ↓iq_df, ↓iq_nt, ↓iq_nf, iq_d, iq_n, ↓tq_bl, ↓iqi_i, ↓Bool.not_true, ↓Bool.not_false, ↓i_ib, ↓i_ii, ↓i_is, ↓i_il, ↓i_it, ↓i_sb, ↓i_si, ↓i_ss, ↓i_sl, ↓i_st, ↓i_tb, ↓i_ti, ↓i_ts, ↓i_tl, ↓i_tt, ↓n_i, ↓n_s, ↓n_t, ↓n_p, ↓n_n, ↓T_bk, ↓T_ct, ↓T_rtN, ↓L_seq, ↓T_ex, ↓T_rt, ↓T_set, List.getElem?_concat_length, get_app, ↓T_sub, ↓T_part0, ↓T_part1, ↓T_sl, ↓T_for, ↓T_rng1, ↓T_wk, ↓q_slp, ↓q_sll, ↓q_slt, ↓q_revp, ↓q_revl, ↓q_addpp, ↓q_listp, ↓q_listl, ↓q_listt, ↓q_lists, ↓q_tuplep, ↓q_tuplel, ↓q_tuplet, ↓q_app, ↓q_notN, ↓T_frz, ↓T_call, ↓T_callK, ↓T_raise, ↓T_asg, ↓q_add, ↓q_sub, ↓q_neg, ↓q_lt, ↓q_le, ↓q_gt, ↓q_ge, ↓q_eq, ↓q_ne, ↓q_int, ↓q_intb, ↓q_mod, ↓q_ixp, ↓q_ixl, ↓q_ixt, ↓q_lenl, ↓q_lent, ↓q_lenp, ↓q_setL, ↓q_lst, ↓q_tup, ↓q_pow10, at0, at1, at2, at3, at4, Cell.lst.injEq, ↓q_mulr, ↓q_mull, ↓q_divn, ↓Tc_ok, ↓Tc_exc, ↓fi_int, ↓fi_bl, ↓fi_non, List.getElem?_cons_zero, List.getElem?_cons_succ, List.set_cons_zero, List.set_cons_succ, List.map_cons, List.map_nil, List.length_cons, List.length_nil, List.replicate, List.cons_append, List.nil_append, List.append_nil, Option.some.injEq, D.bl.injEq, D.int.injEq, ↓exists_eq_left, ↓exists_eq_left', exists_eq', ne_eq, reduceCtorEq, not_true_eq_false, not_false_eq_true, false_implies, true_implies, implies_true, forall_const, and_true, true_and, forall_eq, forall_eq', decide_eq_true_eq, decide_eq_false_iff_not, Nat.reduceAdd, Nat.reduceSub, Nat.zero_add, ↓i_lb, ↓i_li, ↓i_ls, ↓i_ll, ↓i_lt, ↓i_bb, ↓i_bi, ↓i_nb, ↓i_ni, ↓n_l, ↓n_b, ↓q_eqb, ↓q_eqs, List.cons.injEq, D.str.injEq, D.tup.injEq, D.lst.injEq, e1, e2, e3, e4, pow64, p1, p2, fin_ci s2, fin_ci s4])
  (simp only [exists_and_left, exists_and_right, exists_eq_left, exists_eq_left', exists_eq', List.cons.injEq, D.int.injEq, D.bl.injEq, D.str.injEq, D.tup.injEq, D.lst.injEq, and_true, true_and, implies_true, forall_const, and_self, s2, s4])

def lit : Nat → List Int
  | 0 => [1]
  | 1 => [0, 1]
  | 2 => [0, 1, 1]
  | 3 => [0, 1, 3, 1]
  | 4 => [0, 1, 6, 6, 1]
  | 5 => [0, 1, 10, 20, 10, 1]
  | 6 => [0, 1, 15, 50, 50, 15, 1]
  | 7 => [0, 1, 21, 105, 175, 105, 21, 1]
  | 8 => [0, 1, 28, 196, 490, 490, 196, 28, 1]
  | 9 => [0, 1, 36, 336, 1176, 1764, 1176, 336, 36, 1]
  | 10 => [0, 1, 45, 540, 2520, 5292, 5292, 2520, 540, 45, 1]
  | _ => []
theorem lit_ok : ∀ n : Fin 11, sumsF n = lit n := by decide +kernel
theorem hold_ok : ∀ n : Fin 11, φ__law_size_holds [.int (n : Nat), .lst ((lit n).map .int)] [] = .ok (.bl true) [] := by
  intro ⟨n, h⟩
  iterate 11
    rcases n with _ | n
    · kernel_rfl
  omega
end K38

set_option maxRecDepth 100000
set_option maxHeartbeats 4000000
namespace K38
open PySem PySem.Spec PyProof.Rows L2 Dl
theorem ref_ok (v : Int) (m : Mem) : iso φ__law_refusal [.exc 20 [.int 11, .int v]] m = .ok (.tup [.str "OutOfRange", .int v, .int 11]) m := iso_ok (by kernel_rfl) rfl rfl m
def Told (v : Int) : D := .tup [.str "told", .int v]
def Out (v : Int) : D := .tup [.str "OutOfRange", .int v, .int 11]
theorem asked_in : ∀ v : Fin 11, φ__law_asked [.int (v.val : Nat)] [] = .ok (Told (lit v).sum) [] := by
  intro ⟨n, h⟩
  iterate 11
    rcases n with _ | n
    · kernel_rfl
  omega
theorem asked_by_in : ∀ v w : Fin 11, φ__law_asked_by [.int (v.val : Nat), .int (w.val : Nat)] [] = .ok (Told ((lit v)[w.val]?.getD 0)) [] := by
  intro ⟨n, h⟩ ⟨k, h2⟩
  iterate 11
    rcases n with _ | n
    · iterate 11
        rcases k with _ | k
        · kernel_rfl
      omega
  omega
theorem q_suml {m : Mem} {Q : D → Mem → Prop} {ns : List Int} : Pq (pSum [.lst (ns.map .int)] m) Q ↔ Q (.int ns.sum) m := by
  unfold pSum seqOf tupOf lstOf Pq
  simp [asInts_map]
theorem fin_told (v : Int) : fin [] (Told v) [] = (Told v, []) := fin_0 rfl
theorem fin_out (v : Int) : fin [] (Out v) [] = (Out v, []) := fin_0 rfl
theorem due_none (v : Int) (hv : 0 ≤ v) (hv2 : v ≤ 10) (ns : List Int) : φ__law_due [.int v, .lst (ns.map .int), .non] [] = .ok (Told ns.sum) [] := by
  refine ok_of ?_
  rw [φ__law_due, m__law_due, T_fn (n := 3) rfl]
  have h1 : ¬ v < 0 := by omega
  have h2 : ¬ 10 < v := by omega
  (simp (maxSteps := 1000000) (disch := first | omega | (simp only [List.length_append, List.length_set, List.length_cons, List.length_nil, List.length_map]; omega)) only [↓T_ret, ↓T_C, ↓T_var, ↓T_m1, ↓T_m2, ↓T_mn, ↓T_nil, ↓T_cons, ↓L_tb, ↓L_if, ↓L_and, ↓L_or, ↓T_not, ↓L_andV, ↓L_orV, ↓L_notV, ↓T_mt, ↓T_nx, ↓sq_nx, ↓sq_rt, ↓sq_bk, ↓sq_ct, ↓iq_t, ↓iq_f, ↓iq_dt, ↓iq_df, ↓iq_nt, ↓iq_nf, iq_d, iq_n, ↓tq_bl, ↓iqi_i, ↓Bool.not_true, ↓Bool.not_false, ↓i_ib, ↓i_ii, ↓i_is, ↓i_il, ↓i_it, ↓i_sb, ↓i_si, ↓i_ss, ↓i_sl, ↓i_st, ↓i_tb, ↓i_ti, ↓i_ts, ↓i_tl, ↓i_tt, ↓n_i, ↓n_s, ↓n_t, ↓n_p, ↓n_n, ↓T_bk, ↓T_ct, ↓T_rtN, ↓L_seq, ↓T_ex, ↓T_rt, ↓T_set, List.getElem?_concat_length, get_app, ↓T_sub, ↓T_part0, ↓T_part1, ↓T_sl, ↓T_for, ↓T_rng1, ↓T_wk, ↓q_slp, ↓q_sll, ↓q_slt, ↓q_revp, ↓q_revl, ↓q_addpp, ↓q_listp, ↓q_listl, ↓q_listt, ↓q_lists, ↓q_tuplep, ↓q_tuplel, ↓q_tuplet, ↓q_app, ↓q_notN, ↓T_frz, ↓T_call, ↓T_callK, ↓T_raise, ↓T_asg, ↓q_add, ↓q_sub, ↓q_neg, ↓q_lt, ↓q_le, ↓q_gt, ↓q_ge, ↓q_eq, ↓q_ne, ↓q_int, ↓q_intb, ↓q_mod, ↓q_ixp, ↓q_ixl, ↓q_ixt, ↓q_lenl, ↓q_lent, ↓q_lenp, ↓q_setL, ↓q_lst, ↓q_tup, ↓q_pow10, at0, at1, at2, at3, at4, Cell.lst.injEq, ↓q_mulr, ↓q_mull, ↓q_divn, ↓Tc_ok, ↓Tc_exc, ↓fi_int, ↓fi_bl, ↓fi_non, List.getElem?_cons_zero, List.getElem?_cons_succ, List.set_cons_zero, List.set_cons_succ, List.map_cons, List.map_nil, List.length_cons, List.length_nil, List.replicate, List.cons_append, List.nil_append, List.append_nil, Option.some.injEq, D.bl.injEq, D.int.injEq, ↓exists_eq_left, ↓exists_eq_left', exists_eq', ne_eq, reduceCtorEq, not_true_eq_false, not_false_eq_true, false_implies, true_implies, implies_true, forall_const, and_true, true_and, forall_eq, forall_eq', decide_eq_true_eq, decide_eq_false_iff_not, Nat.reduceAdd, Nat.reduceSub, Nat.zero_add, ↓i_lb, ↓i_li, ↓i_ls, ↓i_ll, ↓i_lt, ↓i_bb, ↓i_bi, ↓i_nb, ↓i_ni, ↓n_l, ↓n_b, ↓q_eqb, ↓q_eqs, List.cons.injEq, D.str.injEq, D.tup.injEq, D.lst.injEq, h1, h2, q_suml])
  rw [show D.tup [.str "told", .int ns.sum] = Told ns.sum from rfl, fin_told]
  exact ⟨rfl, rfl⟩
theorem due_zero (v w : Int) (hv : 0 ≤ v) (hv2 : v ≤ 10) (d : D) (hw : w < 0 ∨ v < w) : φ__law_due [.int v, d, .int w] [] = .ok (Told 0) [] := by
  refine ok_of ?_
  rw [φ__law_due, m__law_due, T_fn (n := 3) rfl]
  have h1 : ¬ v < 0 := by omega
  have h2 : ¬ 10 < v := by omega
  rcases hw with h | h
  · (simp (maxSteps := 1000000) (disch := first | omega | (simp only [List.length_append, List.length_set, List.length_cons, List.length_nil, List.length_map]; omega)) only [↓T_ret, ↓T_C, ↓T_var, ↓T_m1, ↓T_m2, ↓T_mn, ↓T_nil, ↓T_cons, ↓L_tb, ↓L_if, ↓L_and, ↓L_or, ↓T_not, ↓L_andV, ↓L_orV, ↓L_notV, ↓T_mt, ↓T_nx, ↓sq_nx, ↓sq_rt, ↓sq_bk, ↓sq_ct, ↓iq_t, ↓iq_f, ↓iq_dt, ↓iq_df, ↓iq_nt, ↓iq_nf, iq_d, iq_n, ↓tq_bl, ↓iqi_i, ↓Bool.not_true, ↓Bool.not_false, ↓i_ib, ↓i_ii, ↓i_is, ↓i_il, ↓i_it, ↓i_sb, ↓i_si, ↓i_ss, ↓i_sl, ↓i_st, ↓i_tb, ↓i_ti, ↓i_ts, ↓i_tl, ↓i_tt, ↓n_i, ↓n_s, ↓n_t, ↓n_p, ↓n_n, ↓T_bk, ↓T_ct, ↓T_rtN, ↓L_seq, ↓T_ex, ↓T_rt, ↓T_set, List.getElem?_concat_length, get_app, ↓T_sub, ↓T_part0, ↓T_part1, ↓T_sl, ↓T_for, ↓T_rng1, ↓T_wk, ↓q_slp, ↓q_sll, ↓q_slt, ↓q_revp, ↓q_revl, ↓q_addpp, ↓q_listp, ↓q_listl, ↓q_listt, ↓q_lists, ↓q_tuplep, ↓q_tuplel, ↓q_tuplet, ↓q_app, ↓q_notN, ↓T_frz, ↓T_call, ↓T_callK, ↓T_raise, ↓T_asg, ↓q_add, ↓q_sub, ↓q_neg, ↓q_lt, ↓q_le, ↓q_gt, ↓q_ge, ↓q_eq, ↓q_ne, ↓q_int, ↓q_intb, ↓q_mod, ↓q_ixp, ↓q_ixl, ↓q_ixt, ↓q_lenl, ↓q_lent, ↓q_lenp, ↓q_setL, ↓q_lst, ↓q_tup, ↓q_pow10, at0, at1, at2, at3, at4, Cell.lst.injEq, ↓q_mulr, ↓q_mull, ↓q_divn, ↓Tc_ok, ↓Tc_exc, ↓fi_int, ↓fi_bl, ↓fi_non, List.getElem?_cons_zero, List.getElem?_cons_succ, List.set_cons_zero, List.set_cons_succ, List.map_cons, List.map_nil, List.length_cons, List.length_nil, List.replicate, List.cons_append, List.nil_append, List.append_nil, Option.some.injEq, D.bl.injEq, D.int.injEq, ↓exists_eq_left, ↓exists_eq_left', exists_eq', ne_eq, reduceCtorEq, not_true_eq_false, not_false_eq_true, false_implies, true_implies, implies_true, forall_const, and_true, true_and, forall_eq, forall_eq', decide_eq_true_eq, decide_eq_false_iff_not, Nat.reduceAdd, Nat.reduceSub, Nat.zero_add, ↓i_lb, ↓i_li, ↓i_ls, ↓i_ll, ↓i_lt, ↓i_bb, ↓i_bi, ↓i_nb, ↓i_ni, ↓n_l, ↓n_b, ↓q_eqb, ↓q_eqs, List.cons.injEq, D.str.injEq, D.tup.injEq, D.lst.injEq, h1, h2, h])
    rw [show D.tup [.str "told", .int 0] = Told 0 from rfl, fin_told]
    exact ⟨rfl, rfl⟩
  · have h3 : ¬ w < 0 := by omega
    (simp (maxSteps := 1000000) (disch := first | omega | (simp only [List.length_append, List.length_set, List.length_cons, List.length_nil, List.length_map]; omega)) only [↓T_ret, ↓T_C, ↓T_var, ↓T_m1, ↓T_m2, ↓T_mn, ↓T_nil, ↓T_cons, ↓L_tb, ↓L_if, ↓L_and, ↓L_or, ↓T_not, ↓L_andV, ↓L_orV, ↓L_notV, ↓T_mt, ↓T_nx, ↓sq_nx, ↓sq_rt, ↓sq_bk, ↓sq_ct, ↓iq_t, ↓iq_f, ↓iq_dt, ↓iq_df, ↓iq_nt, ↓iq_nf, iq_d, iq_n, ↓tq_bl, ↓iqi_i, ↓Bool.not_true, ↓Bool.not_false, ↓i_ib, ↓i_ii, ↓i_is, ↓i_il, ↓i_it, ↓i_sb, ↓i_si, ↓i_ss, ↓i_sl, ↓i_st, ↓i_tb, ↓i_ti, ↓i_ts, ↓i_tl, ↓i_tt, ↓n_i, ↓n_s, ↓n_t, ↓n_p, ↓n_n, ↓T_bk, ↓T_ct, ↓T_rtN, ↓L_seq, ↓T_ex, ↓T_rt, ↓T_set, List.getElem?_concat_length, get_app, ↓T_sub, ↓T_part0, ↓T_part1, ↓T_sl, ↓T_for, ↓T_rng1, ↓T_wk, ↓q_slp, ↓q_sll, ↓q_slt, ↓q_revp, ↓q_revl, ↓q_addpp, ↓q_listp, ↓q_listl, ↓q_listt, ↓q_lists, ↓q_tuplep, ↓q_tuplel, ↓q_tuplet, ↓q_app, ↓q_notN, ↓T_frz, ↓T_call, ↓T_callK, ↓T_raise, ↓T_asg, ↓q_add, ↓q_sub, ↓q_neg, ↓q_lt, ↓q_le, ↓q_gt, ↓q_ge, ↓q_eq, ↓q_ne, ↓q_int, ↓q_intb, ↓q_mod, ↓q_ixp, ↓q_ixl, ↓q_ixt, ↓q_lenl, ↓q_lent, ↓q_lenp, ↓q_setL, ↓q_lst, ↓q_tup, ↓q_pow10, at0, at1, at2, at3, at4, Cell.lst.injEq, ↓q_mulr, ↓q_mull, ↓q_divn, ↓Tc_ok, ↓Tc_exc, ↓fi_int, ↓fi_bl, ↓fi_non, List.getElem?_cons_zero, List.getElem?_cons_succ, List.set_cons_zero, List.set_cons_succ, List.map_cons, List.map_nil, List.length_cons, List.length_nil, List.replicate, List.cons_append, List.nil_append, List.append_nil, Option.some.injEq, D.bl.injEq, D.int.injEq, ↓exists_eq_left, ↓exists_eq_left', exists_eq', ne_eq, reduceCtorEq, not_true_eq_false, not_false_eq_true, false_implies, true_implies, implies_true, forall_const, and_true, true_and, forall_eq, forall_eq', decide_eq_true_eq, decide_eq_false_iff_not, Nat.reduceAdd, Nat.reduceSub, Nat.zero_add, ↓i_lb, ↓i_li, ↓i_ls, ↓i_ll, ↓i_lt, ↓i_bb, ↓i_bi, ↓i_nb, ↓i_ni, ↓n_l, ↓n_b, ↓q_eqb, ↓q_eqs, List.cons.injEq, D.str.injEq, D.tup.injEq, D.lst.injEq, h1, h2, h, h3])
    rw [show D.tup [.str "told", .int 0] = Told 0 from rfl, fin_told]
    exact ⟨rfl, rfl⟩
theorem due_in (v w : Int) (hv : 0 ≤ v) (hv2 : v ≤ 10) (ns : List Int) (h0 : 0 ≤ w) (hw : w ≤ v) (hl : (ns.length : Int) = v + 1) : φ__law_due [.int v, .lst (ns.map .int), .int w] [] = .ok (Told (ns[w.toNat]?.getD 0)) [] := by
  refine ok_of ?_
  rw [φ__law_due, m__law_due, T_fn (n := 3) rfl]
  have h1 : ¬ v < 0 := by omega
  have h2 : ¬ 10 < v := by omega
  have h3 : ¬ w < 0 := by omega
  have h4 : ¬ v < w := by omega
  have a1 : atI (ns.map D.int) w = some (.int (ns[w.toNat]?.getD 0)) := by
    rw [atI_nat h0 (by rw [List.length_map]; omega), List.getElem?_map, List.getElem?_eq_getElem (by omega)]; rfl
  (simp (maxSteps := 1000000) (disch := first | omega | (simp only [List.length_append, List.length_set, List.length_cons, List.length_nil, List.length_map]; omega)) only [↓T_ret, ↓T_C, ↓T_var, ↓T_m1, ↓T_m2, ↓T_mn, ↓T_nil, ↓T_cons, ↓L_tb, ↓L_if, ↓L_and, ↓L_or, ↓T_not, ↓L_andV, ↓L_orV, ↓L_notV, ↓T_mt, ↓T_nx, ↓sq_nx, ↓sq_rt, ↓sq_bk, ↓sq_ct, ↓iq_t, ↓iq_f, ↓iq_dt, ↓iq_df, ↓iq_nt, ↓iq_nf, iq_d, iq_n, ↓tq_bl, ↓iqi_i, ↓Bool.not_true, ↓Bool.not_false, ↓i_ib, ↓i_ii, ↓i_is, ↓i_il, ↓i_it, ↓i_sb, ↓i_si, ↓i_ss, ↓i_sl, ↓i_st, ↓i_tb, ↓i_ti, ↓i_ts, ↓i_tl, ↓i_tt, ↓n_i, ↓n_s, ↓n_t, ↓n_p, ↓n_n, ↓T_bk, ↓T_ct, ↓T_rtN, ↓L_seq, ↓T_ex, ↓T_rt, ↓T_set, List.getElem?_concat_length, get_app, ↓T_sub, ↓T_part0, ↓T_part1, ↓T_sl, ↓T_for, ↓T_rng1, ↓T_wk, ↓q_slp, ↓q_sll, ↓q_slt, ↓q_revp, ↓q_revl, ↓q_addpp, ↓q_listp, ↓q_listl, ↓q_listt, ↓q_lists, ↓q_tuplep, ↓q_tuplel, ↓q_tuplet, ↓q_app, ↓q_notN, ↓T_frz, ↓T_call, ↓T_callK, ↓T_raise, ↓T_asg, ↓q_add, ↓q_sub, ↓q_neg, ↓q_lt, ↓q_le, ↓q_gt, ↓q_ge, ↓q_eq, ↓q_ne, ↓q_int, ↓q_intb, ↓q_mod, ↓q_ixp, ↓q_ixl, ↓q_ixt, ↓q_lenl, ↓q_lent, ↓q_lenp, ↓q_setL, ↓q_lst, ↓q_tup, ↓q_pow10, at0, at1, at2, at3, at4, Cell.lst.injEq, ↓q_mulr, ↓q_mull, ↓q_divn, ↓Tc_ok, ↓Tc_exc, ↓fi_int, ↓fi_bl, ↓fi_non, List.getElem?_cons_zero, List.getElem?_cons_succ, List.set_cons_zero, List.set_cons_succ, List.map_cons, List.map_nil, List.length_cons, List.length_nil, List.replicate, List.cons_append, List.nil_append, List.append_nil, Option.some.injEq, D.bl.injEq, D.int.injEq, ↓exists_eq_left, ↓exists_eq_left', exists_eq', ne_eq, reduceCtorEq, not_true_eq_false, not_false_eq_true, false_implies, true_implies, implies_true, forall_const, and_true, true_and, forall_eq, forall_eq', decide_eq_true_eq, decide_eq_false_iff_not, Nat.reduceAdd, Nat.reduceSub, Nat.zero_add, ↓i_lb, ↓i_li, ↓i_ls, ↓i_ll, ↓i_lt, ↓i_bb, ↓i_bi, ↓i_nb, ↓i_ni, ↓n_l, ↓n_b, ↓q_eqb, ↓q_eqs, List.cons.injEq, D.str.injEq, D.tup.injEq, D.lst.injEq, h1, h2, h3, h4, a1])
  rw [show ∀ x, D.tup [.str "told", .int x] = Told x from fun _ => rfl, fin_told]
  exact ⟨rfl, rfl⟩
theorem due_out (v : Int) (hv : v < 0 ∨ 10 < v) (d w : D) : φ__law_due [.int v, d, w] [] = .ok (Out v) [] := by
  refine ok_of ?_
  rw [φ__law_due, m__law_due, T_fn (n := 3) rfl]
  rcases hv with h | h
  · (simp (maxSteps := 1000000) (disch := first | omega | (simp only [List.length_append, List.length_set, List.length_cons, List.length_nil, List.length_map]; omega)) only [↓T_ret, ↓T_C, ↓T_var, ↓T_m1, ↓T_m2, ↓T_mn, ↓T_nil, ↓T_cons, ↓L_tb, ↓L_if, ↓L_and, ↓L_or, ↓T_not, ↓L_andV, ↓L_orV, ↓L_notV, ↓T_mt, ↓T_nx, ↓sq_nx, ↓sq_rt, ↓sq_bk, ↓sq_ct, ↓iq_t, ↓iq_f, ↓iq_dt, ↓iq_df, ↓iq_nt, ↓iq_nf, iq_d, iq_n, ↓tq_bl, ↓iqi_i, ↓Bool.not_true, ↓Bool.not_false, ↓i_ib, ↓i_ii, ↓i_is, ↓i_il, ↓i_it, ↓i_sb, ↓i_si, ↓i_ss, ↓i_sl, ↓i_st, ↓i_tb, ↓i_ti, ↓i_ts, ↓i_tl, ↓i_tt, ↓n_i, ↓n_s, ↓n_t, ↓n_p, ↓n_n, ↓T_bk, ↓T_ct, ↓T_rtN, ↓L_seq, ↓T_ex, ↓T_rt, ↓T_set, List.getElem?_concat_length, get_app, ↓T_sub, ↓T_part0, ↓T_part1, ↓T_sl, ↓T_for, ↓T_rng1, ↓T_wk, ↓q_slp, ↓q_sll, ↓q_slt, ↓q_revp, ↓q_revl, ↓q_addpp, ↓q_listp, ↓q_listl, ↓q_listt, ↓q_lists, ↓q_tuplep, ↓q_tuplel, ↓q_tuplet, ↓q_app, ↓q_notN, ↓T_frz, ↓T_call, ↓T_callK, ↓T_raise, ↓T_asg, ↓q_add, ↓q_sub, ↓q_neg, ↓q_lt, ↓q_le, ↓q_gt, ↓q_ge, ↓q_eq, ↓q_ne, ↓q_int, ↓q_intb, ↓q_mod, ↓q_ixp, ↓q_ixl, ↓q_ixt, ↓q_lenl, ↓q_lent, ↓q_lenp, ↓q_setL, ↓q_lst, ↓q_tup, ↓q_pow10, at0, at1, at2, at3, at4, Cell.lst.injEq, ↓q_mulr, ↓q_mull, ↓q_divn, ↓Tc_ok, ↓Tc_exc, ↓fi_int, ↓fi_bl, ↓fi_non, List.getElem?_cons_zero, List.getElem?_cons_succ, List.set_cons_zero, List.set_cons_succ, List.map_cons, List.map_nil, List.length_cons, List.length_nil, List.replicate, List.cons_append, List.nil_append, List.append_nil, Option.some.injEq, D.bl.injEq, D.int.injEq, ↓exists_eq_left, ↓exists_eq_left', exists_eq', ne_eq, reduceCtorEq, not_true_eq_false, not_false_eq_true, false_implies, true_implies, implies_true, forall_const, and_true, true_and, forall_eq, forall_eq', decide_eq_true_eq, decide_eq_false_iff_not, Nat.reduceAdd, Nat.reduceSub, Nat.zero_add, ↓i_lb, ↓i_li, ↓i_ls, ↓i_ll, ↓i_lt, ↓i_bb, ↓i_bi, ↓i_nb, ↓i_ni, ↓n_l, ↓n_b, ↓q_eqb, ↓q_eqs, List.cons.injEq, D.str.injEq, D.tup.injEq, D.lst.injEq, h])
    rw [show D.tup [.str "OutOfRange", .int v, .int 11] = Out v from rfl, fin_out]
    exact ⟨rfl, rfl⟩
  · have h3 : ¬ v < 0 := by omega
    (simp (maxSteps := 1000000) (disch := first | omega | (simp only [List.length_append, List.length_set, List.length_cons, List.length_nil, List.length_map]; omega)) only [↓T_ret, ↓T_C, ↓T_var, ↓T_m1, ↓T_m2, ↓T_mn, ↓T_nil, ↓T_cons, ↓L_tb, ↓L_if, ↓L_and, ↓L_or, ↓T_not, ↓L_andV, ↓L_orV, ↓L_notV, ↓T_mt, ↓T_nx, ↓sq_nx, ↓sq_rt, ↓sq_bk, ↓sq_ct, ↓iq_t, ↓iq_f, ↓iq_dt, ↓iq_df, ↓iq_nt, ↓iq_nf, iq_d, iq_n, ↓tq_bl, ↓iqi_i, ↓Bool.not_true, ↓Bool.not_false, ↓i_ib, ↓i_ii, ↓i_is, ↓i_il, ↓i_it, ↓i_sb, ↓i_si, ↓i_ss, ↓i_sl, ↓i_st, ↓i_tb, ↓i_ti, ↓i_ts, ↓i_tl, ↓i_tt, ↓n_i, ↓n_s, ↓n_t, ↓n_p, ↓n_n, ↓T_bk, ↓T_ct, ↓T_rtN, ↓L_seq, ↓T_ex, ↓T_rt, ↓T_set, List.getElem?_concat_length, get_app, ↓T_sub, ↓T_part0, ↓T_part1, ↓T_sl, ↓T_for, ↓T_rng1, ↓T_wk, ↓q_slp, ↓q_sll, ↓q_slt, ↓q_revp, ↓q_revl, ↓q_addpp, ↓q_listp, ↓q_listl, ↓q_listt, ↓q_lists, ↓q_tuplep, ↓q_tuplel, ↓q_tuplet, ↓q_app, ↓q_notN, ↓T_frz, ↓T_call, ↓T_callK, ↓T_raise, ↓T_asg, ↓q_add, ↓q_sub, ↓q_neg, ↓q_lt, ↓q_le, ↓q_gt, ↓q_ge, ↓q_eq, ↓q_ne, ↓q_int, ↓q_intb, ↓q_mod, ↓q_ixp, ↓q_ixl, ↓q_ixt, ↓q_lenl, ↓q_lent, ↓q_lenp, ↓q_setL, ↓q_lst, ↓q_tup, ↓q_pow10, at0, at1, at2, at3, at4, Cell.lst.injEq, ↓q_mulr, ↓q_mull, ↓q_divn, ↓Tc_ok, ↓Tc_exc, ↓fi_int, ↓fi_bl, ↓fi_non, List.getElem?_cons_zero, List.getElem?_cons_succ, List.set_cons_zero, List.set_cons_succ, List.map_cons, List.map_nil, List.length_cons, List.length_nil, List.replicate, List.cons_append, List.nil_append, List.append_nil, Option.some.injEq, D.bl.injEq, D.int.injEq, ↓exists_eq_left, ↓exists_eq_left', exists_eq', ne_eq, reduceCtorEq, not_true_eq_false, not_false_eq_true, false_implies, true_implies, implies_true, forall_const, and_true, true_and, forall_eq, forall_eq', decide_eq_true_eq, decide_eq_false_iff_not, Nat.reduceAdd, Nat.reduceSub, Nat.zero_add, ↓i_lb, ↓i_li, ↓i_ls, ↓i_ll, ↓i_lt, ↓i_bb, ↓i_bi, ↓i_nb, ↓i_ni, ↓n_l, ↓n_b, ↓q_eqb, ↓q_eqs, List.cons.injEq, D.str.injEq, D.tup.injEq, D.lst.injEq, h, h3])
    rw [show D.tup [.str "OutOfRange", .int v, .int 11] = Out v from rfl, fin_out]
    exact ⟨rfl, rfl⟩
theorem cw_out (v : Int) (hv : v < 0 ∨ 10 < v) (d : D) (hd : D.lo 0 d = true) (m : Mem) : iso φ_count_worlds [.int v, d] m = .exc (.exc 20 [.int 11, .int v]) m := by
  refine isoE (exc_of ?_) (by unfold D.loL D.lo; unfold D.loL; rw [hd]; rfl) rfl m
  rw [φ_count_worlds, m_count_worlds, T_fn (n := 2) rfl]
  have f : fin [] (D.exc 20 [.int v, .int 11].reverse) [] = (.exc 20 [.int 11, .int v], []) := fin_id rfl
  rcases hv with h | h
  · (simp (maxSteps := 1000000) (disch := first | omega | (simp only [List.length_append, List.length_set, List.length_cons, List.length_nil, List.length_map]; omega)) only [↓T_ret, ↓T_C, ↓T_var, ↓T_m1, ↓T_m2, ↓T_mn, ↓T_nil, ↓T_cons, ↓L_tb, ↓L_if, ↓L_and, ↓L_or, ↓T_not, ↓L_andV, ↓L_orV, ↓L_notV, ↓T_mt, ↓T_nx, ↓sq_nx, ↓sq_rt, ↓sq_bk, ↓sq_ct, ↓iq_t, ↓iq_f, ↓iq_dt, ↓iq_df, ↓iq_nt, ↓iq_nf, iq_d, iq_n, ↓tq_bl, ↓iqi_i, ↓Bool.not_true, ↓Bool.not_false, ↓i_ib, ↓i_ii, ↓i_is, ↓i_il, ↓i_it, ↓i_sb, ↓i_si, ↓i_ss, ↓i_sl, ↓i_st, ↓i_tb, ↓i_ti, ↓i_ts, ↓i_tl, ↓i_tt, ↓n_i, ↓n_s, ↓n_t, ↓n_p, ↓n_n, ↓T_bk, ↓T_ct, ↓T_rtN, ↓L_seq, ↓T_ex, ↓T_rt, ↓T_set, List.getElem?_concat_length, get_app, ↓T_sub, ↓T_part0, ↓T_part1, ↓T_sl, ↓T_for, ↓T_rng1, ↓T_wk, ↓q_slp, ↓q_sll, ↓q_slt, ↓q_revp, ↓q_revl, ↓q_addpp, ↓q_listp, ↓q_listl, ↓q_listt, ↓q_lists, ↓q_tuplep, ↓q_tuplel, ↓q_tuplet, ↓q_app, ↓q_notN, ↓T_frz, ↓T_call, ↓T_callK, ↓T_raise, ↓T_asg, ↓q_add, ↓q_sub, ↓q_neg, ↓q_lt, ↓q_le, ↓q_gt, ↓q_ge, ↓q_eq, ↓q_ne, ↓q_int, ↓q_intb, ↓q_mod, ↓q_ixp, ↓q_ixl, ↓q_ixt, ↓q_lenl, ↓q_lent, ↓q_lenp, ↓q_setL, ↓q_lst, ↓q_tup, ↓q_pow10, at0, at1, at2, at3, at4, Cell.lst.injEq, ↓q_mulr, ↓q_mull, ↓q_divn, ↓Tc_ok, ↓Tc_exc, ↓fi_int, ↓fi_bl, ↓fi_non, List.getElem?_cons_zero, List.getElem?_cons_succ, List.set_cons_zero, List.set_cons_succ, List.map_cons, List.map_nil, List.length_cons, List.length_nil, List.replicate, List.cons_append, List.nil_append, List.append_nil, Option.some.injEq, D.bl.injEq, D.int.injEq, ↓exists_eq_left, ↓exists_eq_left', exists_eq', ne_eq, reduceCtorEq, not_true_eq_false, not_false_eq_true, false_implies, true_implies, implies_true, forall_const, and_true, true_and, forall_eq, forall_eq', decide_eq_true_eq, decide_eq_false_iff_not, Nat.reduceAdd, Nat.reduceSub, Nat.zero_add, ↓i_lb, ↓i_li, ↓i_ls, ↓i_ll, ↓i_lt, ↓i_bb, ↓i_bi, ↓i_nb, ↓i_ni, ↓n_l, ↓n_b, ↓q_eqb, ↓q_eqs, List.cons.injEq, D.str.injEq, D.tup.injEq, D.lst.injEq, h])
    rw [f]; exact ⟨rfl, rfl⟩
  · have h3 : ¬ v < 0 := by omega
    (simp (maxSteps := 1000000) (disch := first | omega | (simp only [List.length_append, List.length_set, List.length_cons, List.length_nil, List.length_map]; omega)) only [↓T_ret, ↓T_C, ↓T_var, ↓T_m1, ↓T_m2, ↓T_mn, ↓T_nil, ↓T_cons, ↓L_tb, ↓L_if, ↓L_and, ↓L_or, ↓T_not, ↓L_andV, ↓L_orV, ↓L_notV, ↓T_mt, ↓T_nx, ↓sq_nx, ↓sq_rt, ↓sq_bk, ↓sq_ct, ↓iq_t, ↓iq_f, ↓iq_dt, ↓iq_df, ↓iq_nt, ↓iq_nf, iq_d, iq_n, ↓tq_bl, ↓iqi_i, ↓Bool.not_true, ↓Bool.not_false, ↓i_ib, ↓i_ii, ↓i_is, ↓i_il, ↓i_it, ↓i_sb, ↓i_si, ↓i_ss, ↓i_sl, ↓i_st, ↓i_tb, ↓i_ti, ↓i_ts, ↓i_tl, ↓i_tt, ↓n_i, ↓n_s, ↓n_t, ↓n_p, ↓n_n, ↓T_bk, ↓T_ct, ↓T_rtN, ↓L_seq, ↓T_ex, ↓T_rt, ↓T_set, List.getElem?_concat_length, get_app, ↓T_sub, ↓T_part0, ↓T_part1, ↓T_sl, ↓T_for, ↓T_rng1, ↓T_wk, ↓q_slp, ↓q_sll, ↓q_slt, ↓q_revp, ↓q_revl, ↓q_addpp, ↓q_listp, ↓q_listl, ↓q_listt, ↓q_lists, ↓q_tuplep, ↓q_tuplel, ↓q_tuplet, ↓q_app, ↓q_notN, ↓T_frz, ↓T_call, ↓T_callK, ↓T_raise, ↓T_asg, ↓q_add, ↓q_sub, ↓q_neg, ↓q_lt, ↓q_le, ↓q_gt, ↓q_ge, ↓q_eq, ↓q_ne, ↓q_int, ↓q_intb, ↓q_mod, ↓q_ixp, ↓q_ixl, ↓q_ixt, ↓q_lenl, ↓q_lent, ↓q_lenp, ↓q_setL, ↓q_lst, ↓q_tup, ↓q_pow10, at0, at1, at2, at3, at4, Cell.lst.injEq, ↓q_mulr, ↓q_mull, ↓q_divn, ↓Tc_ok, ↓Tc_exc, ↓fi_int, ↓fi_bl, ↓fi_non, List.getElem?_cons_zero, List.getElem?_cons_succ, List.set_cons_zero, List.set_cons_succ, List.map_cons, List.map_nil, List.length_cons, List.length_nil, List.replicate, List.cons_append, List.nil_append, List.append_nil, Option.some.injEq, D.bl.injEq, D.int.injEq, ↓exists_eq_left, ↓exists_eq_left', exists_eq', ne_eq, reduceCtorEq, not_true_eq_false, not_false_eq_true, false_implies, true_implies, implies_true, forall_const, and_true, true_and, forall_eq, forall_eq', decide_eq_true_eq, decide_eq_false_iff_not, Nat.reduceAdd, Nat.reduceSub, Nat.zero_add, ↓i_lb, ↓i_li, ↓i_ls, ↓i_ll, ↓i_lt, ↓i_bb, ↓i_bi, ↓i_nb, ↓i_ni, ↓n_l, ↓n_b, ↓q_eqb, ↓q_eqs, List.cons.injEq, D.str.injEq, D.tup.injEq, D.lst.injEq, h, h3])
    rw [f]; exact ⟨rfl, rfl⟩
theorem cf_zero (v w : Int) (hv : 0 ≤ v) (hw : w < 0 ∨ v < w) (m : Mem) : iso φ_count_with_fields [.int v, .int w] m = .ok (.int 0) m := by
  refine iso_ok (ok_of ?_) rfl rfl m
  rw [φ_count_with_fields, m_count_with_fields, T_fn (n := 2) rfl]
  by_cases h0 : v = 0
  · have h1 : ¬ w = 0 := by omega
    (simp (maxSteps := 1000000) (disch := first | omega | (simp only [List.length_append, List.length_set, List.length_cons, List.length_nil, List.length_map]; omega)) only [↓T_ret, ↓T_C, ↓T_var, ↓T_m1, ↓T_m2, ↓T_mn, ↓T_nil, ↓T_cons, ↓L_tb, ↓L_if, ↓L_and, ↓L_or, ↓T_not, ↓L_andV, ↓L_orV, ↓L_notV, ↓T_mt, ↓T_nx, ↓sq_nx, ↓sq_rt, ↓sq_bk, ↓sq_ct, ↓iq_t, ↓iq_f, ↓iq_dt, ↓iq_df, ↓iq_nt, ↓iq_nf, iq_d, iq_n, ↓tq_bl, ↓iqi_i, ↓Bool.not_true, ↓Bool.not_false, ↓i_ib, ↓i_ii, ↓i_is, ↓i_il, ↓i_it, ↓i_sb, ↓i_si, ↓i_ss, ↓i_sl, ↓i_st, ↓i_tb, ↓i_ti, ↓i_ts, ↓i_tl, ↓i_tt, ↓n_i, ↓n_s, ↓n_t, ↓n_p, ↓n_n, ↓T_bk, ↓T_ct, ↓T_rtN, ↓L_seq, ↓T_ex, ↓T_rt, ↓T_set, List.getElem?_concat_length, get_app, ↓T_sub, ↓T_part0, ↓T_part1, ↓T_sl, ↓T_for, ↓T_rng1, ↓T_wk, ↓q_slp, ↓q_sll, ↓q_slt, ↓q_revp, ↓q_revl, ↓q_addpp, ↓q_listp, ↓q_listl, ↓q_listt, ↓q_lists, ↓q_tuplep, ↓q_tuplel, ↓q_tuplet, ↓q_app, ↓q_notN, ↓T_frz, ↓T_call, ↓T_callK, ↓T_raise, ↓T_asg, ↓q_add, ↓q_sub, ↓q_neg, ↓q_lt, ↓q_le, ↓q_gt, ↓q_ge, ↓q_eq, ↓q_ne, ↓q_int, ↓q_intb, ↓q_mod, ↓q_ixp, ↓q_ixl, ↓q_ixt, ↓q_lenl, ↓q_lent, ↓q_lenp, ↓q_setL, ↓q_lst, ↓q_tup, ↓q_pow10, at0, at1, at2, at3, at4, Cell.lst.injEq, ↓q_mulr, ↓q_mull, ↓q_divn, ↓Tc_ok, ↓Tc_exc, ↓fi_int, ↓fi_bl, ↓fi_non, List.getElem?_cons_zero, List.getElem?_cons_succ, List.set_cons_zero, List.set_cons_succ, List.map_cons, List.map_nil, List.length_cons, List.length_nil, List.replicate, List.cons_append, List.nil_append, List.append_nil, Option.some.injEq, D.bl.injEq, D.int.injEq, ↓exists_eq_left, ↓exists_eq_left', exists_eq', ne_eq, reduceCtorEq, not_true_eq_false, not_false_eq_true, false_implies, true_implies, implies_true, forall_const, and_true, true_and, forall_eq, forall_eq', decide_eq_true_eq, decide_eq_false_iff_not, Nat.reduceAdd, Nat.reduceSub, Nat.zero_add, ↓i_lb, ↓i_li, ↓i_ls, ↓i_ll, ↓i_lt, ↓i_bb, ↓i_bi, ↓i_nb, ↓i_ni, ↓n_l, ↓n_b, ↓q_eqb, ↓q_eqs, List.cons.injEq, D.str.injEq, D.tup.injEq, D.lst.injEq, h0, h1])
  · rcases hw with h | h
    · have h1 : w < 1 := by omega
      (simp (maxSteps := 1000000) (disch := first | omega | (simp only [List.length_append, List.length_set, List.length_cons, List.length_nil, List.length_map]; omega)) only [↓T_ret, ↓T_C, ↓T_var, ↓T_m1, ↓T_m2, ↓T_mn, ↓T_nil, ↓T_cons, ↓L_tb, ↓L_if, ↓L_and, ↓L_or, ↓T_not, ↓L_andV, ↓L_orV, ↓L_notV, ↓T_mt, ↓T_nx, ↓sq_nx, ↓sq_rt, ↓sq_bk, ↓sq_ct, ↓iq_t, ↓iq_f, ↓iq_dt, ↓iq_df, ↓iq_nt, ↓iq_nf, iq_d, iq_n, ↓tq_bl, ↓iqi_i, ↓Bool.not_true, ↓Bool.not_false, ↓i_ib, ↓i_ii, ↓i_is, ↓i_il, ↓i_it, ↓i_sb, ↓i_si, ↓i_ss, ↓i_sl, ↓i_st, ↓i_tb, ↓i_ti, ↓i_ts, ↓i_tl, ↓i_tt, ↓n_i, ↓n_s, ↓n_t, ↓n_p, ↓n_n, ↓T_bk, ↓T_ct, ↓T_rtN, ↓L_seq, ↓T_ex, ↓T_rt, ↓T_set, List.getElem?_concat_length, get_app, ↓T_sub, ↓T_part0, ↓T_part1, ↓T_sl, ↓T_for, ↓T_rng1, ↓T_wk, ↓q_slp, ↓q_sll, ↓q_slt, ↓q_revp, ↓q_revl, ↓q_addpp, ↓q_listp, ↓q_listl, ↓q_listt, ↓q_lists, ↓q_tuplep, ↓q_tuplel, ↓q_tuplet, ↓q_app, ↓q_notN, ↓T_frz, ↓T_call, ↓T_callK, ↓T_raise, ↓T_asg, ↓q_add, ↓q_sub, ↓q_neg, ↓q_lt, ↓q_le, ↓q_gt, ↓q_ge, ↓q_eq, ↓q_ne, ↓q_int, ↓q_intb, ↓q_mod, ↓q_ixp, ↓q_ixl, ↓q_ixt, ↓q_lenl, ↓q_lent, ↓q_lenp, ↓q_setL, ↓q_lst, ↓q_tup, ↓q_pow10, at0, at1, at2, at3, at4, Cell.lst.injEq, ↓q_mulr, ↓q_mull, ↓q_divn, ↓Tc_ok, ↓Tc_exc, ↓fi_int, ↓fi_bl, ↓fi_non, List.getElem?_cons_zero, List.getElem?_cons_succ, List.set_cons_zero, List.set_cons_succ, List.map_cons, List.map_nil, List.length_cons, List.length_nil, List.replicate, List.cons_append, List.nil_append, List.append_nil, Option.some.injEq, D.bl.injEq, D.int.injEq, ↓exists_eq_left, ↓exists_eq_left', exists_eq', ne_eq, reduceCtorEq, not_true_eq_false, not_false_eq_true, false_implies, true_implies, implies_true, forall_const, and_true, true_and, forall_eq, forall_eq', decide_eq_true_eq, decide_eq_false_iff_not, Nat.reduceAdd, Nat.reduceSub, Nat.zero_add, ↓i_lb, ↓i_li, ↓i_ls, ↓i_ll, ↓i_lt, ↓i_bb, ↓i_bi, ↓i_nb, ↓i_ni, ↓n_l, ↓n_b, ↓q_eqb, ↓q_eqs, List.cons.injEq, D.str.injEq, D.tup.injEq, D.lst.injEq, h0, h1])
    · have h1 : ¬ w < 1 := by omega
      (simp (maxSteps := 1000000) (disch := first | omega | (simp only [List.length_append, List.length_set, List.length_cons, List.length_nil, List.length_map]; omega)) only [↓T_ret, ↓T_C, ↓T_var, ↓T_m1, ↓T_m2, ↓T_mn, ↓T_nil, ↓T_cons, ↓L_tb, ↓L_if, ↓L_and, ↓L_or, ↓T_not, ↓L_andV, ↓L_orV, ↓L_notV, ↓T_mt, ↓T_nx, ↓sq_nx, ↓sq_rt, ↓sq_bk, ↓sq_ct, ↓iq_t, ↓iq_f, ↓iq_dt, ↓iq_df, ↓iq_nt, ↓iq_nf, iq_d, iq_n, ↓tq_bl, ↓iqi_i, ↓Bool.not_true, ↓Bool.not_false, ↓i_ib, ↓i_ii, ↓i_is, ↓i_il, ↓i_it, ↓i_sb, ↓i_si, ↓i_ss, ↓i_sl, ↓i_st, ↓i_tb, ↓i_ti, ↓i_ts, ↓i_tl, ↓i_tt, ↓n_i, ↓n_s, ↓n_t, ↓n_p, ↓n_n, ↓T_bk, ↓T_ct, ↓T_rtN, ↓L_seq, ↓T_ex, ↓T_rt, ↓T_set, List.getElem?_concat_length, get_app, ↓T_sub, ↓T_part0, ↓T_part1, ↓T_sl, ↓T_for, ↓T_rng1, ↓T_wk, ↓q_slp, ↓q_sll, ↓q_slt, ↓q_revp, ↓q_revl, ↓q_addpp, ↓q_listp, ↓q_listl, ↓q_listt, ↓q_lists, ↓q_tuplep, ↓q_tuplel, ↓q_tuplet, ↓q_app, ↓q_notN, ↓T_frz, ↓T_call, ↓T_callK, ↓T_raise, ↓T_asg, ↓q_add, ↓q_sub, ↓q_neg, ↓q_lt, ↓q_le, ↓q_gt, ↓q_ge, ↓q_eq, ↓q_ne, ↓q_int, ↓q_intb, ↓q_mod, ↓q_ixp, ↓q_ixl, ↓q_ixt, ↓q_lenl, ↓q_lent, ↓q_lenp, ↓q_setL, ↓q_lst, ↓q_tup, ↓q_pow10, at0, at1, at2, at3, at4, Cell.lst.injEq, ↓q_mulr, ↓q_mull, ↓q_divn, ↓Tc_ok, ↓Tc_exc, ↓fi_int, ↓fi_bl, ↓fi_non, List.getElem?_cons_zero, List.getElem?_cons_succ, List.set_cons_zero, List.set_cons_succ, List.map_cons, List.map_nil, List.length_cons, List.length_nil, List.replicate, List.cons_append, List.nil_append, List.append_nil, Option.some.injEq, D.bl.injEq, D.int.injEq, ↓exists_eq_left, ↓exists_eq_left', exists_eq', ne_eq, reduceCtorEq, not_true_eq_false, not_false_eq_true, false_implies, true_implies, implies_true, forall_const, and_true, true_and, forall_eq, forall_eq', decide_eq_true_eq, decide_eq_false_iff_not, Nat.reduceAdd, Nat.reduceSub, Nat.zero_add, ↓i_lb, ↓i_li, ↓i_ls, ↓i_ll, ↓i_lt, ↓i_bb, ↓i_bi, ↓i_nb, ↓i_ni, ↓n_l, ↓n_b, ↓q_eqb, ↓q_eqs, List.cons.injEq, D.str.injEq, D.tup.injEq, D.lst.injEq, h0, h1, h])
theorem cw_zero (v w : Int) (hv : 0 ≤ v) (hv2 : v ≤ 10) (hw : w < 0 ∨ v < w) (m : Mem) : iso φ_count_worlds [.int v, .int w] m = .ok (.int 0) m := by
  refine iso_ok (ok_of ?_) rfl rfl m
  rw [φ_count_worlds, m_count_worlds, T_fn (n := 2) rfl]
  have h1 : ¬ v < 0 := by omega
  have h2 : ¬ 10 < v := by omega
  (simp (maxSteps := 1000000) (disch := first | omega | (simp only [List.length_append, List.length_set, List.length_cons, List.length_nil, List.length_map]; omega)) only [↓T_ret, ↓T_C, ↓T_var, ↓T_m1, ↓T_m2, ↓T_mn, ↓T_nil, ↓T_cons, ↓L_tb, ↓L_if, ↓L_and, ↓L_or, ↓T_not, ↓L_andV, ↓L_orV, ↓L_notV, ↓T_mt, ↓T_nx, ↓sq_nx, ↓sq_rt, ↓sq_bk, ↓sq_ct, ↓iq_t, ↓iq_f, ↓iq_dt, ↓iq_df, ↓iq_nt, ↓iq_nf, iq_d, iq_n, ↓tq_bl, ↓iqi_i, ↓Bool.not_true, ↓Bool.not_false, ↓i_ib, ↓i_ii, ↓i_is, ↓i_il, ↓i_it, ↓i_sb, ↓i_si, ↓i_ss, ↓i_sl, ↓i_st, ↓i_tb, ↓i_ti, ↓i_ts, ↓i_tl, ↓i_tt, ↓n_i, ↓n_s, ↓n_t, ↓n_p, ↓n_n, ↓T_bk, ↓T_ct, ↓T_rtN, ↓L_seq, ↓T_ex, ↓T_rt, ↓T_set, List.getElem?_concat_length, get_app, ↓T_sub, ↓T_part0, ↓T_part1, ↓T_sl, ↓T_for, ↓T_rng1, ↓T_wk, ↓q_slp, ↓q_sll, ↓q_slt, ↓q_revp, ↓q_revl, ↓q_addpp, ↓q_listp, ↓q_listl, ↓q_listt, ↓q_lists, ↓q_tuplep, ↓q_tuplel, ↓q_tuplet, ↓q_app, ↓q_notN, ↓T_frz, ↓T_call, ↓T_callK, ↓T_raise, ↓T_asg, ↓q_add, ↓q_sub, ↓q_neg, ↓q_lt, ↓q_le, ↓q_gt, ↓q_ge, ↓q_eq, ↓q_ne, ↓q_int, ↓q_intb, ↓q_mod, ↓q_ixp, ↓q_ixl, ↓q_ixt, ↓q_lenl, ↓q_lent, ↓q_lenp, ↓q_setL, ↓q_lst, ↓q_tup, ↓q_pow10, at0, at1, at2, at3, at4, Cell.lst.injEq, ↓q_mulr, ↓q_mull, ↓q_divn, ↓Tc_ok, ↓Tc_exc, ↓fi_int, ↓fi_bl, ↓fi_non, List.getElem?_cons_zero, List.getElem?_cons_succ, List.set_cons_zero, List.set_cons_succ, List.map_cons, List.map_nil, List.length_cons, List.length_nil, List.replicate, List.cons_append, List.nil_append, List.append_nil, Option.some.injEq, D.bl.injEq, D.int.injEq, ↓exists_eq_left, ↓exists_eq_left', exists_eq', ne_eq, reduceCtorEq, not_true_eq_false, not_false_eq_true, false_implies, true_implies, implies_true, forall_const, and_true, true_and, forall_eq, forall_eq', decide_eq_true_eq, decide_eq_false_iff_not, Nat.reduceAdd, Nat.reduceSub, Nat.zero_add, ↓i_lb, ↓i_li, ↓i_ls, ↓i_ll, ↓i_lt, ↓i_bb, ↓i_bi, ↓i_nb, ↓i_ni, ↓n_l, ↓n_b, ↓q_eqb, ↓q_eqs, List.cons.injEq, D.str.injEq, D.tup.injEq, D.lst.injEq, h1, h2, cf_zero v w hv hw])
theorem asked_out (v : Int) (hv : v < 0 ∨ 10 < v) : φ__law_asked [.int v] [] = .ok (Out v) [] := by
  refine ok_of ?_
  rw [φ__law_asked, m__law_asked, T_fn (n := 1) rfl]
  refine T_try ?_
  have p : permL [0, 1] [D.int v] ([] ++ [.non]) = [.int v, .non] := rfl
  have p' : permL [0, 1] [D.int v] [.non] = [.int v, .non] := rfl
  (simp (maxSteps := 1000000) (disch := first | omega | (simp only [List.length_append, List.length_set, List.length_cons, List.length_nil, List.length_map]; omega)) only [↓T_ret, ↓T_C, ↓T_var, ↓T_m1, ↓T_m2, ↓T_mn, ↓T_nil, ↓T_cons, ↓L_tb, ↓L_if, ↓L_and, ↓L_or, ↓T_not, ↓L_andV, ↓L_orV, ↓L_notV, ↓T_mt, ↓T_nx, ↓sq_nx, ↓sq_rt, ↓sq_bk, ↓sq_ct, ↓iq_t, ↓iq_f, ↓iq_dt, ↓iq_df, ↓iq_nt, ↓iq_nf, iq_d, iq_n, ↓tq_bl, ↓iqi_i, ↓Bool.not_true, ↓Bool.not_false, ↓i_ib, ↓i_ii, ↓i_is, ↓i_il, ↓i_it, ↓i_sb, ↓i_si, ↓i_ss, ↓i_sl, ↓i_st, ↓i_tb, ↓i_ti, ↓i_ts, ↓i_tl, ↓i_tt, ↓n_i, ↓n_s, ↓n_t, ↓n_p, ↓n_n, ↓T_bk, ↓T_ct, ↓T_rtN, ↓L_seq, ↓T_ex, ↓T_rt, ↓T_set, List.getElem?_concat_length, get_app, ↓T_sub, ↓T_part0, ↓T_part1, ↓T_sl, ↓T_for, ↓T_rng1, ↓T_wk, ↓q_slp, ↓q_sll, ↓q_slt, ↓q_revp, ↓q_revl, ↓q_addpp, ↓q_listp, ↓q_listl, ↓q_listt, ↓q_lists, ↓q_tuplep, ↓q_tuplel, ↓q_tuplet, ↓q_app, ↓q_notN, ↓T_frz, ↓T_call, ↓T_callK, ↓T_raise, ↓T_asg, ↓q_add, ↓q_sub, ↓q_neg, ↓q_lt, ↓q_le, ↓q_gt, ↓q_ge, ↓q_eq, ↓q_ne, ↓q_int, ↓q_intb, ↓q_mod, ↓q_ixp, ↓q_ixl, ↓q_ixt, ↓q_lenl, ↓q_lent, ↓q_lenp, ↓q_setL, ↓q_lst, ↓q_tup, ↓q_pow10, at0, at1, at2, at3, at4, Cell.lst.injEq, ↓q_mulr, ↓q_mull, ↓q_divn, ↓Tc_ok, ↓Tc_exc, ↓fi_int, ↓fi_bl, ↓fi_non, List.getElem?_cons_zero, List.getElem?_cons_succ, List.set_cons_zero, List.set_cons_succ, List.map_cons, List.map_nil, List.length_cons, List.length_nil, List.replicate, List.cons_append, List.nil_append, List.append_nil, Option.some.injEq, D.bl.injEq, D.int.injEq, ↓exists_eq_left, ↓exists_eq_left', exists_eq', ne_eq, reduceCtorEq, not_true_eq_false, not_false_eq_true, false_implies, true_implies, implies_true, forall_const, and_true, true_and, forall_eq, forall_eq', decide_eq_true_eq, decide_eq_false_iff_not, Nat.reduceAdd, Nat.reduceSub, Nat.zero_add, ↓i_lb, ↓i_li, ↓i_ls, ↓i_ll, ↓i_lt, ↓i_bb, ↓i_bi, ↓i_nb, ↓i_ni, ↓n_l, ↓n_b, ↓q_eqb, ↓q_eqs, List.cons.injEq, D.str.injEq, D.tup.injEq, D.lst.injEq, p, p', cw_out v hv .non rfl])
  refine ⟨_, _, rfl, rfl, ?_⟩
  (simp (maxSteps := 1000000) (disch := first | omega | (simp only [List.length_append, List.length_set, List.length_cons, List.length_nil, List.length_map]; omega)) only [↓T_ret, ↓T_C, ↓T_var, ↓T_m1, ↓T_m2, ↓T_mn, ↓T_nil, ↓T_cons, ↓L_tb, ↓L_if, ↓L_and, ↓L_or, ↓T_not, ↓L_andV, ↓L_orV, ↓L_notV, ↓T_mt, ↓T_nx, ↓sq_nx, ↓sq_rt, ↓sq_bk, ↓sq_ct, ↓iq_t, ↓iq_f, ↓iq_dt, ↓iq_df, ↓iq_nt, ↓iq_nf, iq_d, iq_n, ↓tq_bl, ↓iqi_i, ↓Bool.not_true, ↓Bool.not_false, ↓i_ib, ↓i_ii, ↓i_is, ↓i_il, ↓i_it, ↓i_sb, ↓i_si, ↓i_ss, ↓i_sl, ↓i_st, ↓i_tb, ↓i_ti, ↓i_ts, ↓i_tl, ↓i_tt, ↓n_i, ↓n_s, ↓n_t, ↓n_p, ↓n_n, ↓T_bk, ↓T_ct, ↓T_rtN, ↓L_seq, ↓T_ex, ↓T_rt, ↓T_set, List.getElem?_concat_length, get_app, ↓T_sub, ↓T_part0, ↓T_part1, ↓T_sl, ↓T_for, ↓T_rng1, ↓T_wk, ↓q_slp, ↓q_sll, ↓q_slt, ↓q_revp, ↓q_revl, ↓q_addpp, ↓q_listp, ↓q_listl, ↓q_listt, ↓q_lists, ↓q_tuplep, ↓q_tuplel, ↓q_tuplet, ↓q_app, ↓q_notN, ↓T_frz, ↓T_call, ↓T_callK, ↓T_raise, ↓T_asg, ↓q_add, ↓q_sub, ↓q_neg, ↓q_lt, ↓q_le, ↓q_gt, ↓q_ge, ↓q_eq, ↓q_ne, ↓q_int, ↓q_intb, ↓q_mod, ↓q_ixp, ↓q_ixl, ↓q_ixt, ↓q_lenl, ↓q_lent, ↓q_lenp, ↓q_setL, ↓q_lst, ↓q_tup, ↓q_pow10, at0, at1, at2, at3, at4, Cell.lst.injEq, ↓q_mulr, ↓q_mull, ↓q_divn, ↓Tc_ok, ↓Tc_exc, ↓fi_int, ↓fi_bl, ↓fi_non, List.getElem?_cons_zero, List.getElem?_cons_succ, List.set_cons_zero, List.set_cons_succ, List.map_cons, List.map_nil, List.length_cons, List.length_nil, List.replicate, List.cons_append, List.nil_append, List.append_nil, Option.some.injEq, D.bl.injEq, D.int.injEq, ↓exists_eq_left, ↓exists_eq_left', exists_eq', ne_eq, reduceCtorEq, not_true_eq_false, not_false_eq_true, false_implies, true_implies, implies_true, forall_const, and_true, true_and, forall_eq, forall_eq', decide_eq_true_eq, decide_eq_false_iff_not, Nat.reduceAdd, Nat.reduceSub, Nat.zero_add, ↓i_lb, ↓i_li, ↓i_ls, ↓i_ll, ↓i_lt, ↓i_bb, ↓i_bi, ↓i_nb, ↓i_ni, ↓n_l, ↓n_b, ↓q_eqb, ↓q_eqs, List.cons.injEq, D.str.injEq, D.tup.injEq, D.lst.injEq, ref_ok])
  rw [show D.tup [.str "OutOfRange", .int v, .int 11] = Out v from rfl, fin_out]
  exact ⟨rfl, rfl⟩
theorem asked_by_out (v w : Int) (hv : v < 0 ∨ 10 < v) : φ__law_asked_by [.int v, .int w] [] = .ok (Out v) [] := by
  refine ok_of ?_
  rw [φ__law_asked_by, m__law_asked_by, T_fn (n := 2) rfl]
  refine T_try ?_
  have p : permL [1, 0] [] ([D.int w, D.int v] ++ []) = [.int v, .int w] := rfl
  have p' : permL [1, 0] [] [D.int w, D.int v] = [.int v, .int w] := rfl
  (simp (maxSteps := 1000000) (disch := first | omega | (simp only [List.length_append, List.length_set, List.length_cons, List.length_nil, List.length_map]; omega)) only [↓T_ret, ↓T_C, ↓T_var, ↓T_m1, ↓T_m2, ↓T_mn, ↓T_nil, ↓T_cons, ↓L_tb, ↓L_if, ↓L_and, ↓L_or, ↓T_not, ↓L_andV, ↓L_orV, ↓L_notV, ↓T_mt, ↓T_nx, ↓sq_nx, ↓sq_rt, ↓sq_bk, ↓sq_ct, ↓iq_t, ↓iq_f, ↓iq_dt, ↓iq_df, ↓iq_nt, ↓iq_nf, iq_d, iq_n, ↓tq_bl, ↓iqi_i, ↓Bool.not_true, ↓Bool.not_false, ↓i_ib, ↓i_ii, ↓i_is, ↓i_il, ↓i_it, ↓i_sb, ↓i_si, ↓i_ss, ↓i_sl, ↓i_st, ↓i_tb, ↓i_ti, ↓i_ts, ↓i_tl, ↓i_tt, ↓n_i, ↓n_s, ↓n_t, ↓n_p, ↓n_n, ↓T_bk, ↓T_ct, ↓T_rtN, ↓L_seq, ↓T_ex, ↓T_rt, ↓T_set, List.getElem?_concat_length, get_app, ↓T_sub, ↓T_part0, ↓T_part1, ↓T_sl, ↓T_for, ↓T_rng1, ↓T_wk, ↓q_slp, ↓q_sll, ↓q_slt, ↓q_revp, ↓q_revl, ↓q_addpp, ↓q_listp, ↓q_listl, ↓q_listt, ↓q_lists, ↓q_tuplep, ↓q_tuplel, ↓q_tuplet, ↓q_app, ↓q_notN, ↓T_frz, ↓T_call, ↓T_callK, ↓T_raise, ↓T_asg, ↓q_add, ↓q_sub, ↓q_neg, ↓q_lt, ↓q_le, ↓q_gt, ↓q_ge, ↓q_eq, ↓q_ne, ↓q_int, ↓q_intb, ↓q_mod, ↓q_ixp, ↓q_ixl, ↓q_ixt, ↓q_lenl, ↓q_lent, ↓q_lenp, ↓q_setL, ↓q_lst, ↓q_tup, ↓q_pow10, at0, at1, at2, at3, at4, Cell.lst.injEq, ↓q_mulr, ↓q_mull, ↓q_divn, ↓Tc_ok, ↓Tc_exc, ↓fi_int, ↓fi_bl, ↓fi_non, List.getElem?_cons_zero, List.getElem?_cons_succ, List.set_cons_zero, List.set_cons_succ, List.map_cons, List.map_nil, List.length_cons, List.length_nil, List.replicate, List.cons_append, List.nil_append, List.append_nil, Option.some.injEq, D.bl.injEq, D.int.injEq, ↓exists_eq_left, ↓exists_eq_left', exists_eq', ne_eq, reduceCtorEq, not_true_eq_false, not_false_eq_true, false_implies, true_implies, implies_true, forall_const, and_true, true_and, forall_eq, forall_eq', decide_eq_true_eq, decide_eq_false_iff_not, Nat.reduceAdd, Nat.reduceSub, Nat.zero_add, ↓i_lb, ↓i_li, ↓i_ls, ↓i_ll, ↓i_lt, ↓i_bb, ↓i_bi, ↓i_nb, ↓i_ni, ↓n_l, ↓n_b, ↓q_eqb, ↓q_eqs, List.cons.injEq, D.str.injEq, D.tup.injEq, D.lst.injEq, p, p', cw_out v hv (.int w) rfl])
  refine ⟨_, _, rfl, rfl, ?_⟩
  (simp (maxSteps := 1000000) (disch := first | omega | (simp only [List.length_append, List.length_set, List.length_cons, List.length_nil, List.length_map]; omega)) only [↓T_ret, ↓T_C, ↓T_var, ↓T_m1, ↓T_m2, ↓T_mn, ↓T_nil, ↓T_cons, ↓L_tb, ↓L_if, ↓L_and, ↓L_or, ↓T_not, ↓L_andV, ↓L_orV, ↓L_notV, ↓T_mt, ↓T_nx, ↓sq_nx, ↓sq_rt, ↓sq_bk, ↓sq_ct, ↓iq_t, ↓iq_f, ↓iq_dt, ↓iq_df, ↓iq_nt, ↓iq_nf, iq_d, iq_n, ↓tq_bl, ↓iqi_i, ↓Bool.not_true, ↓Bool.not_false, ↓i_ib, ↓i_ii, ↓i_is, ↓i_il, ↓i_it, ↓i_sb, ↓i_si, ↓i_ss, ↓i_sl, ↓i_st, ↓i_tb, ↓i_ti, ↓i_ts, ↓i_tl, ↓i_tt, ↓n_i, ↓n_s, ↓n_t, ↓n_p, ↓n_n, ↓T_bk, ↓T_ct, ↓T_rtN, ↓L_seq, ↓T_ex, ↓T_rt, ↓T_set, List.getElem?_concat_length, get_app, ↓T_sub, ↓T_part0, ↓T_part1, ↓T_sl, ↓T_for, ↓T_rng1, ↓T_wk, ↓q_slp, ↓q_sll, ↓q_slt, ↓q_revp, ↓q_revl, ↓q_addpp, ↓q_listp, ↓q_listl, ↓q_listt, ↓q_lists, ↓q_tuplep, ↓q_tuplel, ↓q_tuplet, ↓q_app, ↓q_notN, ↓T_frz, ↓T_call, ↓T_callK, ↓T_raise, ↓T_asg, ↓q_add, ↓q_sub, ↓q_neg, ↓q_lt, ↓q_le, ↓q_gt, ↓q_ge, ↓q_eq, ↓q_ne, ↓q_int, ↓q_intb, ↓q_mod, ↓q_ixp, ↓q_ixl, ↓q_ixt, ↓q_lenl, ↓q_lent, ↓q_lenp, ↓q_setL, ↓q_lst, ↓q_tup, ↓q_pow10, at0, at1, at2, at3, at4, Cell.lst.injEq, ↓q_mulr, ↓q_mull, ↓q_divn, ↓Tc_ok, ↓Tc_exc, ↓fi_int, ↓fi_bl, ↓fi_non, List.getElem?_cons_zero, List.getElem?_cons_succ, List.set_cons_zero, List.set_cons_succ, List.map_cons, List.map_nil, List.length_cons, List.length_nil, List.replicate, List.cons_append, List.nil_append, List.append_nil, Option.some.injEq, D.bl.injEq, D.int.injEq, ↓exists_eq_left, ↓exists_eq_left', exists_eq', ne_eq, reduceCtorEq, not_true_eq_false, not_false_eq_true, false_implies, true_implies, implies_true, forall_const, and_true, true_and, forall_eq, forall_eq', decide_eq_true_eq, decide_eq_false_iff_not, Nat.reduceAdd, Nat.reduceSub, Nat.zero_add, ↓i_lb, ↓i_li, ↓i_ls, ↓i_ll, ↓i_lt, ↓i_bb, ↓i_bi, ↓i_nb, ↓i_ni, ↓n_l, ↓n_b, ↓q_eqb, ↓q_eqs, List.cons.injEq, D.str.injEq, D.tup.injEq, D.lst.injEq, ref_ok])
  rw [show D.tup [.str "OutOfRange", .int v, .int 11] = Out v from rfl, fin_out]
  exact ⟨rfl, rfl⟩
theorem asked_by_zero (v w : Int) (hv : 0 ≤ v) (hv2 : v ≤ 10) (hw : w < 0 ∨ v < w) : φ__law_asked_by [.int v, .int w] [] = .ok (Told 0) [] := by
  refine ok_of ?_
  rw [φ__law_asked_by, m__law_asked_by, T_fn (n := 2) rfl]
  refine T_try ?_
  have p : permL [1, 0] [] ([D.int w, D.int v] ++ []) = [.int v, .int w] := rfl
  have p' : permL [1, 0] [] [D.int w, D.int v] = [.int v, .int w] := rfl
  (simp (maxSteps := 1000000) (disch := first | omega | (simp only [List.length_append, List.length_set, List.length_cons, List.length_nil, List.length_map]; omega)) only [↓T_ret, ↓T_C, ↓T_var, ↓T_m1, ↓T_m2, ↓T_mn, ↓T_nil, ↓T_cons, ↓L_tb, ↓L_if, ↓L_and, ↓L_or, ↓T_not, ↓L_andV, ↓L_orV, ↓L_notV, ↓T_mt, ↓T_nx, ↓sq_nx, ↓sq_rt, ↓sq_bk, ↓sq_ct, ↓iq_t, ↓iq_f, ↓iq_dt, ↓iq_df, ↓iq_nt, ↓iq_nf, iq_d, iq_n, ↓tq_bl, ↓iqi_i, ↓Bool.not_true, ↓Bool.not_false, ↓i_ib, ↓i_ii, ↓i_is, ↓i_il, ↓i_it, ↓i_sb, ↓i_si, ↓i_ss, ↓i_sl, ↓i_st, ↓i_tb, ↓i_ti, ↓i_ts, ↓i_tl, ↓i_tt, ↓n_i, ↓n_s, ↓n_t, ↓n_p, ↓n_n, ↓T_bk, ↓T_ct, ↓T_rtN, ↓L_seq, ↓T_ex, ↓T_rt, ↓T_set, List.getElem?_concat_length, get_app, ↓T_sub, ↓T_part0, ↓T_part1, ↓T_sl, ↓T_for, ↓T_rng1, ↓T_wk, ↓q_slp, ↓q_sll, ↓q_slt, ↓q_revp, ↓q_revl, ↓q_addpp, ↓q_listp, ↓q_listl, ↓q_listt, ↓q_lists, ↓q_tuplep, ↓q_tuplel, ↓q_tuplet, ↓q_app, ↓q_notN, ↓T_frz, ↓T_call, ↓T_callK, ↓T_raise, ↓T_asg, ↓q_add, ↓q_sub, ↓q_neg, ↓q_lt, ↓q_le, ↓q_gt, ↓q_ge, ↓q_eq, ↓q_ne, ↓q_int, ↓q_intb, ↓q_mod, ↓q_ixp, ↓q_ixl, ↓q_ixt, ↓q_lenl, ↓q_lent, ↓q_lenp, ↓q_setL, ↓q_lst, ↓q_tup, ↓q_pow10, at0, at1, at2, at3, at4, Cell.lst.injEq, ↓q_mulr, ↓q_mull, ↓q_divn, ↓Tc_ok, ↓Tc_exc, ↓fi_int, ↓fi_bl, ↓fi_non, List.getElem?_cons_zero, List.getElem?_cons_succ, List.set_cons_zero, List.set_cons_succ, List.map_cons, List.map_nil, List.length_cons, List.length_nil, List.replicate, List.cons_append, List.nil_append, List.append_nil, Option.some.injEq, D.bl.injEq, D.int.injEq, ↓exists_eq_left, ↓exists_eq_left', exists_eq', ne_eq, reduceCtorEq, not_true_eq_false, not_false_eq_true, false_implies, true_implies, implies_true, forall_const, and_true, true_and, forall_eq, forall_eq', decide_eq_true_eq, decide_eq_false_iff_not, Nat.reduceAdd, Nat.reduceSub, Nat.zero_add, ↓i_lb, ↓i_li, ↓i_ls, ↓i_ll, ↓i_lt, ↓i_bb, ↓i_bi, ↓i_nb, ↓i_ni, ↓n_l, ↓n_b, ↓q_eqb, ↓q_eqs, List.cons.injEq, D.str.injEq, D.tup.injEq, D.lst.injEq, p, p', cw_zero v w hv hv2 hw])
  rw [show D.tup [.str "told", .int 0] = Told 0 from rfl, fin_told]
  exact ⟨rfl, rfl⟩

def bfD (v : Int) : D := if 0 ≤ v ∧ v ≤ 10 then .lst ((lit v.toNat).map .int) else .lst []
theorem lit_len : ∀ n : Fin 11, (lit n).length = n.val + 1 := by decide +kernel
theorem told_pl (v : Int) : plainD 10 (Told v) = true := rfl
theorem out_pl (v : Int) : plainD 10 (Out v) = true := rfl
theorem asked_due (v : Int) (m : Mem) : ∃ d, iso φ__law_asked [.int v] m = .ok d m ∧ iso φ__law_due [.int v, bfD v, .non] m = .ok d m ∧ plainD 10 d = true := by
  by_cases h : 0 ≤ v ∧ v ≤ 10
  · unfold bfD
    rw [if_pos h]
    obtain ⟨h0, h1⟩ := h
    have e : ((v.toNat : Nat) : Int) = v := by omega
    have a := asked_in ⟨v.toNat, by omega⟩
    simp only [e] at a
    refine ⟨Told (lit v.toNat).sum, iso_ok a rfl rfl m, iso_ok (due_none v h0 h1 _) ?_ rfl m, told_pl _⟩
    simp [D.loL, D.lo, lo_ints]
  · unfold bfD
    rw [if_neg h]
    exact ⟨Out v, iso_ok (asked_out v (by omega)) rfl rfl m, iso_ok (due_out v (by omega) _ _) rfl rfl m, out_pl _⟩
theorem asked_by_due (v w : Int) (m : Mem) : ∃ d, iso φ__law_asked_by [.int v, .int w] m = .ok d m ∧ iso φ__law_due [.int v, bfD v, .int w] m = .ok d m ∧ plainD 10 d = true := by
  by_cases h : 0 ≤ v ∧ v ≤ 10
  · have lo : D.loL 0 [.int v, bfD v, .int w] = true := by
      unfold bfD
      rw [if_pos h]
      simp [D.loL, D.lo, lo_ints]
    unfold bfD at lo ⊢
    rw [if_pos h] at lo ⊢
    obtain ⟨h0, h1⟩ := h
    by_cases hw : w < 0 ∨ v < w
    · exact ⟨Told 0, iso_ok (asked_by_zero v w h0 h1 hw) rfl rfl m, iso_ok (due_zero v w h0 h1 _ hw) lo rfl m, told_pl _⟩
    · have e : ((v.toNat : Nat) : Int) = v := by omega
      have e2 : ((w.toNat : Nat) : Int) = w := by omega
      have a := asked_by_in ⟨v.toNat, by omega⟩ ⟨w.toNat, by omega⟩
      have l := lit_len ⟨v.toNat, by omega⟩
      simp only [e, e2] at a l
      exact ⟨_, iso_ok a rfl rfl m, iso_ok (due_in v w h0 h1 _ (by omega) (by omega) (by omega)) lo rfl m, told_pl _⟩
  · unfold bfD
    rw [if_neg h]
    exact ⟨Out v, iso_ok (asked_by_out v w (by omega)) rfl rfl m, iso_ok (due_out v (by omega) _ _) rfl rfl m, out_pl _⟩
end K38

set_option maxRecDepth 100000
set_option maxHeartbeats 4000000
namespace K38
open PySem PySem.Spec PyProof.Rows L2 Dl
theorem by_v (v : Int) (h0 : 0 ≤ v) (h1 : v ≤ 10) (m : Mem) : iso φ__law_by_fields [.int v] m = .ok (bfD v) m := by
  have e : ((v.toNat : Nat) : Int) = v := by omega
  have a := by_fields v.toNat (by omega) m
  have b := lit_ok ⟨v.toNat, by omega⟩
  simp only at b
  rw [e, b] at a
  unfold bfD
  rw [if_pos ⟨h0, h1⟩]
  exact a
theorem bfD_lo (v : Int) : D.lo 0 (bfD v) = true := by
  unfold bfD
  split <;> simp [D.lo, lo_ints, D.loL]
theorem hold_v (v : Int) (h0 : 0 ≤ v) (h1 : v ≤ 10) (m : Mem) : iso φ__law_size_holds [.int v, bfD v] m = .ok (.bl true) m := by
  have e : ((v.toNat : Nat) : Int) = v := by omega
  have a := hold_ok ⟨v.toNat, by omega⟩
  simp only [e] at a
  have : bfD v = .lst ((lit v.toNat).map .int) := by unfold bfD; rw [if_pos ⟨h0, h1⟩]
  rw [← this] at a
  exact iso_ok a (by simp [D.loL, D.lo, bfD_lo]) rfl m
theorem sum_bf (v : Int) (h0 : 0 ≤ v) (h1 : v ≤ 10) {m : Mem} {Q : D → Mem → Prop} : Pq (pSum [bfD v] m) Q ↔ Q (.int (lit v.toNat).sum) m := by
  unfold bfD
  rw [if_pos ⟨h0, h1⟩]
  exact q_suml
theorem the_law (ns : List Int) (hl : ns.length ≤ 63) : ∃ m, φ_law [.scr ns] [] = .ok (.bl true) m := by
  suffices key : Tc (φ_law [.scr ns] []) (fun o m' => o = .bl true) fun _ _ => False by
    obtain ⟨o, m', e, rfl⟩ := of_tc key
    exact ⟨m', e⟩
  rw [φ_law, m_law, T_fn (n := 1) rfl]
  obtain ⟨c0, e0, s0⟩ := store ns
  obtain ⟨v, c1, e1, s1, v0, v1⟩ := number 0 10 c0 s0
  obtain ⟨w, c2, e2, s2, w0, w1⟩ := number 0 10 c1 s1
  obtain ⟨x, c3, e3, s3, _⟩ := vast 11 (by omega) c2 s2
  obtain ⟨y, c4, e4, s4, _⟩ := vast (v + 1) (by omega) c3 s3
  obtain ⟨d1, a1, a2, a3⟩ := asked_due x [c4, .dead]
  obtain ⟨d2, b1, b2, b3⟩ := asked_by_due x y [c4, .dead]
  obtain ⟨d3, f1, f2, f3⟩ := asked_by_due v y [c4, .dead]
  obtain ⟨d4, g1, g2, g3⟩ := asked_by_due x v [c4, .dead]
  have hv := asked_in ⟨v.toNat, by omega⟩
  have ev : ((v.toNat : Nat) : Int) = v := by omega
  simp only [ev] at hv
  have hv := iso_ok hv rfl rfl [c4, .dead]
  have fz : frz (.ptr 1) [c4, .lst []] = some (.lst [], [c4, .dead]) := frz_ptr rfl rfl
  have yv := by_v v v0 v1
  have hvv := hold_v v v0 v1
  have hww := hold_v w w0 w1
  have yw := by_v w w0 w1
  have sv := fun (m : Mem) (Q : D → Mem → Prop) => sum_bf v v0 v1 (m := m) (Q := Q)
  have q1 := same_ok d1 a3
  have q2 := same_ok d2 b3
  have q3 := same_ok d3 f3
  have q4 := same_ok d4 g3
  refine T_mid (fun s => s = ⟨[some (.scr ns), some (.ptr 0), none, none, none, none, none, none], [c0]⟩) (by (simp (maxSteps := 1000000) (disch := first | omega | (simp only [List.length_append, List.length_set, List.length_cons, List.length_nil, List.length_map]; omega)) only [↓T_ret, ↓T_C, ↓T_var, ↓T_m1, ↓T_m2, ↓T_mn, ↓T_nil, ↓T_cons, ↓L_tb, ↓L_if, ↓L_and, ↓L_or, ↓T_not, ↓L_andV, ↓L_orV, ↓L_notV, ↓T_mt, ↓T_nx, ↓sq_nx, ↓sq_rt, ↓sq_bk, ↓sq_ct, ↓iq_t, ↓iq_f, ↓iq_dt, ↓iq_df, ↓iq_nt, ↓iq_nf, iq_d, iq_n, ↓tq_bl, ↓iqi_i, ↓Bool.not_true, ↓Bool.not_false, ↓i_ib, ↓i_ii, ↓i_is, ↓i_il, ↓i_it, ↓i_sb, ↓i_si, ↓i_ss, ↓i_sl, ↓i_st, ↓i_tb, ↓i_ti, ↓i_ts, ↓i_tl, ↓i_tt, ↓n_i, ↓n_s, ↓n_t, ↓n_p, ↓n_n, ↓T_bk, ↓T_ct, ↓T_rtN, ↓L_seq, ↓T_ex, ↓T_rt, ↓T_set, List.getElem?_concat_length, get_app, ↓T_sub, ↓T_part0, ↓T_part1, ↓T_sl, ↓T_for, ↓T_rng1, ↓T_wk, ↓q_slp, ↓q_sll, ↓q_slt, ↓q_revp, ↓q_revl, ↓q_addpp, ↓q_listp, ↓q_listl, ↓q_listt, ↓q_lists, ↓q_tuplep, ↓q_tuplel, ↓q_tuplet, ↓q_app, ↓q_notN, ↓T_frz, ↓T_call, ↓T_callK, ↓T_raise, ↓T_asg, ↓q_add, ↓q_sub, ↓q_neg, ↓q_lt, ↓q_le, ↓q_gt, ↓q_ge, ↓q_eq, ↓q_ne, ↓q_int, ↓q_intb, ↓q_mod, ↓q_ixp, ↓q_ixl, ↓q_ixt, ↓q_lenl, ↓q_lent, ↓q_lenp, ↓q_setL, ↓q_lst, ↓q_tup, ↓q_pow10, at0, at1, at2, at3, at4, Cell.lst.injEq, ↓q_mulr, ↓q_mull, ↓q_divn, ↓Tc_ok, ↓Tc_exc, ↓fi_int, ↓fi_bl, ↓fi_non, List.getElem?_cons_zero, List.getElem?_cons_succ, List.set_cons_zero, List.set_cons_succ, List.map_cons, List.map_nil, List.length_cons, List.length_nil, List.replicate, List.cons_append, List.nil_append, List.append_nil, Option.some.injEq, D.bl.injEq, D.int.injEq, ↓exists_eq_left, ↓exists_eq_left', exists_eq', ne_eq, reduceCtorEq, not_true_eq_false, not_false_eq_true, false_implies, true_implies, implies_true, forall_const, and_true, true_and, forall_eq, forall_eq', decide_eq_true_eq, decide_eq_false_iff_not, Nat.reduceAdd, Nat.reduceSub, Nat.zero_add, ↓i_lb, ↓i_li, ↓i_ls, ↓i_ll, ↓i_lt, ↓i_bb, ↓i_bi, ↓i_nb, ↓i_ni, ↓n_l, ↓n_b, ↓q_eqb, ↓q_eqs, List.cons.injEq, D.str.injEq, D.tup.injEq, D.lst.injEq, e0])) ?_
  rintro _ rfl
  refine T_mid (fun s => s = ⟨[some (.scr ns), some (.ptr 0), some (.int v), none, none, none, none, none], [c1]⟩) (by (simp (maxSteps := 1000000) (disch := first | omega | (simp only [List.length_append, List.length_set, List.length_cons, List.length_nil, List.length_map]; omega)) only [↓T_ret, ↓T_C, ↓T_var, ↓T_m1, ↓T_m2, ↓T_mn, ↓T_nil, ↓T_cons, ↓L_tb, ↓L_if, ↓L_and, ↓L_or, ↓T_not, ↓L_andV, ↓L_orV, ↓L_notV, ↓T_mt, ↓T_nx, ↓sq_nx, ↓sq_rt, ↓sq_bk, ↓sq_ct, ↓iq_t, ↓iq_f, ↓iq_dt, ↓iq_df, ↓iq_nt, ↓iq_nf, iq_d, iq_n, ↓tq_bl, ↓iqi_i, ↓Bool.not_true, ↓Bool.not_false, ↓i_ib, ↓i_ii, ↓i_is, ↓i_il, ↓i_it, ↓i_sb, ↓i_si, ↓i_ss, ↓i_sl, ↓i_st, ↓i_tb, ↓i_ti, ↓i_ts, ↓i_tl, ↓i_tt, ↓n_i, ↓n_s, ↓n_t, ↓n_p, ↓n_n, ↓T_bk, ↓T_ct, ↓T_rtN, ↓L_seq, ↓T_ex, ↓T_rt, ↓T_set, List.getElem?_concat_length, get_app, ↓T_sub, ↓T_part0, ↓T_part1, ↓T_sl, ↓T_for, ↓T_rng1, ↓T_wk, ↓q_slp, ↓q_sll, ↓q_slt, ↓q_revp, ↓q_revl, ↓q_addpp, ↓q_listp, ↓q_listl, ↓q_listt, ↓q_lists, ↓q_tuplep, ↓q_tuplel, ↓q_tuplet, ↓q_app, ↓q_notN, ↓T_frz, ↓T_call, ↓T_callK, ↓T_raise, ↓T_asg, ↓q_add, ↓q_sub, ↓q_neg, ↓q_lt, ↓q_le, ↓q_gt, ↓q_ge, ↓q_eq, ↓q_ne, ↓q_int, ↓q_intb, ↓q_mod, ↓q_ixp, ↓q_ixl, ↓q_ixt, ↓q_lenl, ↓q_lent, ↓q_lenp, ↓q_setL, ↓q_lst, ↓q_tup, ↓q_pow10, at0, at1, at2, at3, at4, Cell.lst.injEq, ↓q_mulr, ↓q_mull, ↓q_divn, ↓Tc_ok, ↓Tc_exc, ↓fi_int, ↓fi_bl, ↓fi_non, List.getElem?_cons_zero, List.getElem?_cons_succ, List.set_cons_zero, List.set_cons_succ, List.map_cons, List.map_nil, List.length_cons, List.length_nil, List.replicate, List.cons_append, List.nil_append, List.append_nil, Option.some.injEq, D.bl.injEq, D.int.injEq, ↓exists_eq_left, ↓exists_eq_left', exists_eq', ne_eq, reduceCtorEq, not_true_eq_false, not_false_eq_true, false_implies, true_implies, implies_true, forall_const, and_true, true_and, forall_eq, forall_eq', decide_eq_true_eq, decide_eq_false_iff_not, Nat.reduceAdd, Nat.reduceSub, Nat.zero_add, ↓i_lb, ↓i_li, ↓i_ls, ↓i_ll, ↓i_lt, ↓i_bb, ↓i_bi, ↓i_nb, ↓i_ni, ↓n_l, ↓n_b, ↓q_eqb, ↓q_eqs, List.cons.injEq, D.str.injEq, D.tup.injEq, D.lst.injEq, e1])) ?_
  rintro _ rfl
  refine T_mid (fun s => s = ⟨[some (.scr ns), some (.ptr 0), some (.int v), some (.int w), none, none, none, none], [c2]⟩) (by (simp (maxSteps := 1000000) (disch := first | omega | (simp only [List.length_append, List.length_set, List.length_cons, List.length_nil, List.length_map]; omega)) only [↓T_ret, ↓T_C, ↓T_var, ↓T_m1, ↓T_m2, ↓T_mn, ↓T_nil, ↓T_cons, ↓L_tb, ↓L_if, ↓L_and, ↓L_or, ↓T_not, ↓L_andV, ↓L_orV, ↓L_notV, ↓T_mt, ↓T_nx, ↓sq_nx, ↓sq_rt, ↓sq_bk, ↓sq_ct, ↓iq_t, ↓iq_f, ↓iq_dt, ↓iq_df, ↓iq_nt, ↓iq_nf, iq_d, iq_n, ↓tq_bl, ↓iqi_i, ↓Bool.not_true, ↓Bool.not_false, ↓i_ib, ↓i_ii, ↓i_is, ↓i_il, ↓i_it, ↓i_sb, ↓i_si, ↓i_ss, ↓i_sl, ↓i_st, ↓i_tb, ↓i_ti, ↓i_ts, ↓i_tl, ↓i_tt, ↓n_i, ↓n_s, ↓n_t, ↓n_p, ↓n_n, ↓T_bk, ↓T_ct, ↓T_rtN, ↓L_seq, ↓T_ex, ↓T_rt, ↓T_set, List.getElem?_concat_length, get_app, ↓T_sub, ↓T_part0, ↓T_part1, ↓T_sl, ↓T_for, ↓T_rng1, ↓T_wk, ↓q_slp, ↓q_sll, ↓q_slt, ↓q_revp, ↓q_revl, ↓q_addpp, ↓q_listp, ↓q_listl, ↓q_listt, ↓q_lists, ↓q_tuplep, ↓q_tuplel, ↓q_tuplet, ↓q_app, ↓q_notN, ↓T_frz, ↓T_call, ↓T_callK, ↓T_raise, ↓T_asg, ↓q_add, ↓q_sub, ↓q_neg, ↓q_lt, ↓q_le, ↓q_gt, ↓q_ge, ↓q_eq, ↓q_ne, ↓q_int, ↓q_intb, ↓q_mod, ↓q_ixp, ↓q_ixl, ↓q_ixt, ↓q_lenl, ↓q_lent, ↓q_lenp, ↓q_setL, ↓q_lst, ↓q_tup, ↓q_pow10, at0, at1, at2, at3, at4, Cell.lst.injEq, ↓q_mulr, ↓q_mull, ↓q_divn, ↓Tc_ok, ↓Tc_exc, ↓fi_int, ↓fi_bl, ↓fi_non, List.getElem?_cons_zero, List.getElem?_cons_succ, List.set_cons_zero, List.set_cons_succ, List.map_cons, List.map_nil, List.length_cons, List.length_nil, List.replicate, List.cons_append, List.nil_append, List.append_nil, Option.some.injEq, D.bl.injEq, D.int.injEq, ↓exists_eq_left, ↓exists_eq_left', exists_eq', ne_eq, reduceCtorEq, not_true_eq_false, not_false_eq_true, false_implies, true_implies, implies_true, forall_const, and_true, true_and, forall_eq, forall_eq', decide_eq_true_eq, decide_eq_false_iff_not, Nat.reduceAdd, Nat.reduceSub, Nat.zero_add, ↓i_lb, ↓i_li, ↓i_ls, ↓i_ll, ↓i_lt, ↓i_bb, ↓i_bi, ↓i_nb, ↓i_ni, ↓n_l, ↓n_b, ↓q_eqb, ↓q_eqs, List.cons.injEq, D.str.injEq, D.tup.injEq, D.lst.injEq, e2])) ?_
  rintro _ rfl
  refine T_mid (fun s => s = ⟨[some (.scr ns), some (.ptr 0), some (.int v), some (.int w), some (.int x), none, none, none], [c3]⟩) (by (simp (maxSteps := 1000000) (disch := first | omega | (simp only [List.length_append, List.length_set, List.length_cons, List.length_nil, List.length_map]; omega)) only [↓T_ret, ↓T_C, ↓T_var, ↓T_m1, ↓T_m2, ↓T_mn, ↓T_nil, ↓T_cons, ↓L_tb, ↓L_if, ↓L_and, ↓L_or, ↓T_not, ↓L_andV, ↓L_orV, ↓L_notV, ↓T_mt, ↓T_nx, ↓sq_nx, ↓sq_rt, ↓sq_bk, ↓sq_ct, ↓iq_t, ↓iq_f, ↓iq_dt, ↓iq_df, ↓iq_nt, ↓iq_nf, iq_d, iq_n, ↓tq_bl, ↓iqi_i, ↓Bool.not_true, ↓Bool.not_false, ↓i_ib, ↓i_ii, ↓i_is, ↓i_il, ↓i_it, ↓i_sb, ↓i_si, ↓i_ss, ↓i_sl, ↓i_st, ↓i_tb, ↓i_ti, ↓i_ts, ↓i_tl, ↓i_tt, ↓n_i, ↓n_s, ↓n_t, ↓n_p, ↓n_n, ↓T_bk, ↓T_ct, ↓T_rtN, ↓L_seq, ↓T_ex, ↓T_rt, ↓T_set, List.getElem?_concat_length, get_app, ↓T_sub, ↓T_part0, ↓T_part1, ↓T_sl, ↓T_for, ↓T_rng1, ↓T_wk, ↓q_slp, ↓q_sll, ↓q_slt, ↓q_revp, ↓q_revl, ↓q_addpp, ↓q_listp, ↓q_listl, ↓q_listt, ↓q_lists, ↓q_tuplep, ↓q_tuplel, ↓q_tuplet, ↓q_app, ↓q_notN, ↓T_frz, ↓T_call, ↓T_callK, ↓T_raise, ↓T_asg, ↓q_add, ↓q_sub, ↓q_neg, ↓q_lt, ↓q_le, ↓q_gt, ↓q_ge, ↓q_eq, ↓q_ne, ↓q_int, ↓q_intb, ↓q_mod, ↓q_ixp, ↓q_ixl, ↓q_ixt, ↓q_lenl, ↓q_lent, ↓q_lenp, ↓q_setL, ↓q_lst, ↓q_tup, ↓q_pow10, at0, at1, at2, at3, at4, Cell.lst.injEq, ↓q_mulr, ↓q_mull, ↓q_divn, ↓Tc_ok, ↓Tc_exc, ↓fi_int, ↓fi_bl, ↓fi_non, List.getElem?_cons_zero, List.getElem?_cons_succ, List.set_cons_zero, List.set_cons_succ, List.map_cons, List.map_nil, List.length_cons, List.length_nil, List.replicate, List.cons_append, List.nil_append, List.append_nil, Option.some.injEq, D.bl.injEq, D.int.injEq, ↓exists_eq_left, ↓exists_eq_left', exists_eq', ne_eq, reduceCtorEq, not_true_eq_false, not_false_eq_true, false_implies, true_implies, implies_true, forall_const, and_true, true_and, forall_eq, forall_eq', decide_eq_true_eq, decide_eq_false_iff_not, Nat.reduceAdd, Nat.reduceSub, Nat.zero_add, ↓i_lb, ↓i_li, ↓i_ls, ↓i_ll, ↓i_lt, ↓i_bb, ↓i_bi, ↓i_nb, ↓i_ni, ↓n_l, ↓n_b, ↓q_eqb, ↓q_eqs, List.cons.injEq, D.str.injEq, D.tup.injEq, D.lst.injEq, e3])) ?_
  rintro _ rfl
  refine T_mid (fun s => s = ⟨[some (.scr ns), some (.ptr 0), some (.int v), some (.int w), some (.int x), some (.int y), none, none], [c4]⟩) (by (simp (maxSteps := 1000000) (disch := first | omega | (simp only [List.length_append, List.length_set, List.length_cons, List.length_nil, List.length_map]; omega)) only [↓T_ret, ↓T_C, ↓T_var, ↓T_m1, ↓T_m2, ↓T_mn, ↓T_nil, ↓T_cons, ↓L_tb, ↓L_if, ↓L_and, ↓L_or, ↓T_not, ↓L_andV, ↓L_orV, ↓L_notV, ↓T_mt, ↓T_nx, ↓sq_nx, ↓sq_rt, ↓sq_bk, ↓sq_ct, ↓iq_t, ↓iq_f, ↓iq_dt, ↓iq_df, ↓iq_nt, ↓iq_nf, iq_d, iq_n, ↓tq_bl, ↓iqi_i, ↓Bool.not_true, ↓Bool.not_false, ↓i_ib, ↓i_ii, ↓i_is, ↓i_il, ↓i_it, ↓i_sb, ↓i_si, ↓i_ss, ↓i_sl, ↓i_st, ↓i_tb, ↓i_ti, ↓i_ts, ↓i_tl, ↓i_tt, ↓n_i, ↓n_s, ↓n_t, ↓n_p, ↓n_n, ↓T_bk, ↓T_ct, ↓T_rtN, ↓L_seq, ↓T_ex, ↓T_rt, ↓T_set, List.getElem?_concat_length, get_app, ↓T_sub, ↓T_part0, ↓T_part1, ↓T_sl, ↓T_for, ↓T_rng1, ↓T_wk, ↓q_slp, ↓q_sll, ↓q_slt, ↓q_revp, ↓q_revl, ↓q_addpp, ↓q_listp, ↓q_listl, ↓q_listt, ↓q_lists, ↓q_tuplep, ↓q_tuplel, ↓q_tuplet, ↓q_app, ↓q_notN, ↓T_frz, ↓T_call, ↓T_callK, ↓T_raise, ↓T_asg, ↓q_add, ↓q_sub, ↓q_neg, ↓q_lt, ↓q_le, ↓q_gt, ↓q_ge, ↓q_eq, ↓q_ne, ↓q_int, ↓q_intb, ↓q_mod, ↓q_ixp, ↓q_ixl, ↓q_ixt, ↓q_lenl, ↓q_lent, ↓q_lenp, ↓q_setL, ↓q_lst, ↓q_tup, ↓q_pow10, at0, at1, at2, at3, at4, Cell.lst.injEq, ↓q_mulr, ↓q_mull, ↓q_divn, ↓Tc_ok, ↓Tc_exc, ↓fi_int, ↓fi_bl, ↓fi_non, List.getElem?_cons_zero, List.getElem?_cons_succ, List.set_cons_zero, List.set_cons_succ, List.map_cons, List.map_nil, List.length_cons, List.length_nil, List.replicate, List.cons_append, List.nil_append, List.append_nil, Option.some.injEq, D.bl.injEq, D.int.injEq, ↓exists_eq_left, ↓exists_eq_left', exists_eq', ne_eq, reduceCtorEq, not_true_eq_false, not_false_eq_true, false_implies, true_implies, implies_true, forall_const, and_true, true_and, forall_eq, forall_eq', decide_eq_true_eq, decide_eq_false_iff_not, Nat.reduceAdd, Nat.reduceSub, Nat.zero_add, ↓i_lb, ↓i_li, ↓i_ls, ↓i_ll, ↓i_lt, ↓i_bb, ↓i_bi, ↓i_nb, ↓i_ni, ↓n_l, ↓n_b, ↓q_eqb, ↓q_eqs, List.cons.injEq, D.str.injEq, D.tup.injEq, D.lst.injEq, e4])) ?_
  rintro _ rfl
  refine T_mid (fun s => s = ⟨[some (.scr ns), some (.ptr 0), some (.int v), some (.int w), some (.int x), some (.int y), some (bfD v), none], [c4]⟩) (by (simp (maxSteps := 1000000) (disch := first | omega | (simp only [List.length_append, List.length_set, List.length_cons, List.length_nil, List.length_map]; omega)) only [↓T_ret, ↓T_C, ↓T_var, ↓T_m1, ↓T_m2, ↓T_mn, ↓T_nil, ↓T_cons, ↓L_tb, ↓L_if, ↓L_and, ↓L_or, ↓T_not, ↓L_andV, ↓L_orV, ↓L_notV, ↓T_mt, ↓T_nx, ↓sq_nx, ↓sq_rt, ↓sq_bk, ↓sq_ct, ↓iq_t, ↓iq_f, ↓iq_dt, ↓iq_df, ↓iq_nt, ↓iq_nf, iq_d, iq_n, ↓tq_bl, ↓iqi_i, ↓Bool.not_true, ↓Bool.not_false, ↓i_ib, ↓i_ii, ↓i_is, ↓i_il, ↓i_it, ↓i_sb, ↓i_si, ↓i_ss, ↓i_sl, ↓i_st, ↓i_tb, ↓i_ti, ↓i_ts, ↓i_tl, ↓i_tt, ↓n_i, ↓n_s, ↓n_t, ↓n_p, ↓n_n, ↓T_bk, ↓T_ct, ↓T_rtN, ↓L_seq, ↓T_ex, ↓T_rt, ↓T_set, List.getElem?_concat_length, get_app, ↓T_sub, ↓T_part0, ↓T_part1, ↓T_sl, ↓T_for, ↓T_rng1, ↓T_wk, ↓q_slp, ↓q_sll, ↓q_slt, ↓q_revp, ↓q_revl, ↓q_addpp, ↓q_listp, ↓q_listl, ↓q_listt, ↓q_lists, ↓q_tuplep, ↓q_tuplel, ↓q_tuplet, ↓q_app, ↓q_notN, ↓T_frz, ↓T_call, ↓T_callK, ↓T_raise, ↓T_asg, ↓q_add, ↓q_sub, ↓q_neg, ↓q_lt, ↓q_le, ↓q_gt, ↓q_ge, ↓q_eq, ↓q_ne, ↓q_int, ↓q_intb, ↓q_mod, ↓q_ixp, ↓q_ixl, ↓q_ixt, ↓q_lenl, ↓q_lent, ↓q_lenp, ↓q_setL, ↓q_lst, ↓q_tup, ↓q_pow10, at0, at1, at2, at3, at4, Cell.lst.injEq, ↓q_mulr, ↓q_mull, ↓q_divn, ↓Tc_ok, ↓Tc_exc, ↓fi_int, ↓fi_bl, ↓fi_non, List.getElem?_cons_zero, List.getElem?_cons_succ, List.set_cons_zero, List.set_cons_succ, List.map_cons, List.map_nil, List.length_cons, List.length_nil, List.replicate, List.cons_append, List.nil_append, List.append_nil, Option.some.injEq, D.bl.injEq, D.int.injEq, ↓exists_eq_left, ↓exists_eq_left', exists_eq', ne_eq, reduceCtorEq, not_true_eq_false, not_false_eq_true, false_implies, true_implies, implies_true, forall_const, and_true, true_and, forall_eq, forall_eq', decide_eq_true_eq, decide_eq_false_iff_not, Nat.reduceAdd, Nat.reduceSub, Nat.zero_add, ↓i_lb, ↓i_li, ↓i_ls, ↓i_ll, ↓i_lt, ↓i_bb, ↓i_bi, ↓i_nb, ↓i_ni, ↓n_l, ↓n_b, ↓q_eqb, ↓q_eqs, List.cons.injEq, D.str.injEq, D.tup.injEq, D.lst.injEq, yv])) ?_
  rintro _ rfl
  refine T_mid (fun s => s = ⟨[some (.scr ns), some (.ptr 0), some (.int v), some (.int w), some (.int x), some (.int y), some (bfD v), some (.lst [])], [c4, .dead]⟩) (by (simp (maxSteps := 1000000) (disch := first | omega | (simp only [List.length_append, List.length_set, List.length_cons, List.length_nil, List.length_map]; omega)) only [↓T_ret, ↓T_C, ↓T_var, ↓T_m1, ↓T_m2, ↓T_mn, ↓T_nil, ↓T_cons, ↓L_tb, ↓L_if, ↓L_and, ↓L_or, ↓T_not, ↓L_andV, ↓L_orV, ↓L_notV, ↓T_mt, ↓T_nx, ↓sq_nx, ↓sq_rt, ↓sq_bk, ↓sq_ct, ↓iq_t, ↓iq_f, ↓iq_dt, ↓iq_df, ↓iq_nt, ↓iq_nf, iq_d, iq_n, ↓tq_bl, ↓iqi_i, ↓Bool.not_true, ↓Bool.not_false, ↓i_ib, ↓i_ii, ↓i_is, ↓i_il, ↓i_it, ↓i_sb, ↓i_si, ↓i_ss, ↓i_sl, ↓i_st, ↓i_tb, ↓i_ti, ↓i_ts, ↓i_tl, ↓i_tt, ↓n_i, ↓n_s, ↓n_t, ↓n_p, ↓n_n, ↓T_bk, ↓T_ct, ↓T_rtN, ↓L_seq, ↓T_ex, ↓T_rt, ↓T_set, List.getElem?_concat_length, get_app, ↓T_sub, ↓T_part0, ↓T_part1, ↓T_sl, ↓T_for, ↓T_rng1, ↓T_wk, ↓q_slp, ↓q_sll, ↓q_slt, ↓q_revp, ↓q_revl, ↓q_addpp, ↓q_listp, ↓q_listl, ↓q_listt, ↓q_lists, ↓q_tuplep, ↓q_tuplel, ↓q_tuplet, ↓q_app, ↓q_notN, ↓T_frz, ↓T_call, ↓T_callK, ↓T_raise, ↓T_asg, ↓q_add, ↓q_sub, ↓q_neg, ↓q_lt, ↓q_le, ↓q_gt, ↓q_ge, ↓q_eq, ↓q_ne, ↓q_int, ↓q_intb, ↓q_mod, ↓q_ixp, ↓q_ixl, ↓q_ixt, ↓q_lenl, ↓q_lent, ↓q_lenp, ↓q_setL, ↓q_lst, ↓q_tup, ↓q_pow10, at0, at1, at2, at3, at4, Cell.lst.injEq, ↓q_mulr, ↓q_mull, ↓q_divn, ↓Tc_ok, ↓Tc_exc, ↓fi_int, ↓fi_bl, ↓fi_non, List.getElem?_cons_zero, List.getElem?_cons_succ, List.set_cons_zero, List.set_cons_succ, List.map_cons, List.map_nil, List.length_cons, List.length_nil, List.replicate, List.cons_append, List.nil_append, List.append_nil, Option.some.injEq, D.bl.injEq, D.int.injEq, ↓exists_eq_left, ↓exists_eq_left', exists_eq', ne_eq, reduceCtorEq, not_true_eq_false, not_false_eq_true, false_implies, true_implies, implies_true, forall_const, and_true, true_and, forall_eq, forall_eq', decide_eq_true_eq, decide_eq_false_iff_not, Nat.reduceAdd, Nat.reduceSub, Nat.zero_add, ↓i_lb, ↓i_li, ↓i_ls, ↓i_ll, ↓i_lt, ↓i_bb, ↓i_bi, ↓i_nb, ↓i_ni, ↓n_l, ↓n_b, ↓q_eqb, ↓q_eqs, List.cons.injEq, D.str.injEq, D.tup.injEq, D.lst.injEq, fz, Pq_some])) ?_
  rintro _ rfl
  refine T_mid (fun s => s = ⟨[some (.scr ns), some (.ptr 0), some (.int v), some (.int w), some (.int x), some (.int y), some (bfD v), some (bfD x)], [c4, .dead]⟩) ?_ ?_
  · by_cases hx : 0 ≤ x
    · by_cases hx2 : x ≤ 10
      · (simp (maxSteps := 1000000) (disch := first | omega | (simp only [List.length_append, List.length_set, List.length_cons, List.length_nil, List.length_map]; omega)) only [↓T_ret, ↓T_C, ↓T_var, ↓T_m1, ↓T_m2, ↓T_mn, ↓T_nil, ↓T_cons, ↓L_tb, ↓L_if, ↓L_and, ↓L_or, ↓T_not, ↓L_andV, ↓L_orV, ↓L_notV, ↓T_mt, ↓T_nx, ↓sq_nx, ↓sq_rt, ↓sq_bk, ↓sq_ct, ↓iq_t, ↓iq_f, ↓iq_dt, ↓iq_df, ↓iq_nt, ↓iq_nf, iq_d, iq_n, ↓tq_bl, ↓iqi_i, ↓Bool.not_true, ↓Bool.not_false, ↓i_ib, ↓i_ii, ↓i_is, ↓i_il, ↓i_it, ↓i_sb, ↓i_si, ↓i_ss, ↓i_sl, ↓i_st, ↓i_tb, ↓i_ti, ↓i_ts, ↓i_tl, ↓i_tt, ↓n_i, ↓n_s, ↓n_t, ↓n_p, ↓n_n, ↓T_bk, ↓T_ct, ↓T_rtN, ↓L_seq, ↓T_ex, ↓T_rt, ↓T_set, List.getElem?_concat_length, get_app, ↓T_sub, ↓T_part0, ↓T_part1, ↓T_sl, ↓T_for, ↓T_rng1, ↓T_wk, ↓q_slp, ↓q_sll, ↓q_slt, ↓q_revp, ↓q_revl, ↓q_addpp, ↓q_listp, ↓q_listl, ↓q_listt, ↓q_lists, ↓q_tuplep, ↓q_tuplel, ↓q_tuplet, ↓q_app, ↓q_notN, ↓T_frz, ↓T_call, ↓T_callK, ↓T_raise, ↓T_asg, ↓q_add, ↓q_sub, ↓q_neg, ↓q_lt, ↓q_le, ↓q_gt, ↓q_ge, ↓q_eq, ↓q_ne, ↓q_int, ↓q_intb, ↓q_mod, ↓q_ixp, ↓q_ixl, ↓q_ixt, ↓q_lenl, ↓q_lent, ↓q_lenp, ↓q_setL, ↓q_lst, ↓q_tup, ↓q_pow10, at0, at1, at2, at3, at4, Cell.lst.injEq, ↓q_mulr, ↓q_mull, ↓q_divn, ↓Tc_ok, ↓Tc_exc, ↓fi_int, ↓fi_bl, ↓fi_non, List.getElem?_cons_zero, List.getElem?_cons_succ, List.set_cons_zero, List.set_cons_succ, List.map_cons, List.map_nil, List.length_cons, List.length_nil, List.replicate, List.cons_append, List.nil_append, List.append_nil, Option.some.injEq, D.bl.injEq, D.int.injEq, ↓exists_eq_left, ↓exists_eq_left', exists_eq', ne_eq, reduceCtorEq, not_true_eq_false, not_false_eq_true, false_implies, true_implies, implies_true, forall_const, and_true, true_and, forall_eq, forall_eq', decide_eq_true_eq, decide_eq_false_iff_not, Nat.reduceAdd, Nat.reduceSub, Nat.zero_add, ↓i_lb, ↓i_li, ↓i_ls, ↓i_ll, ↓i_lt, ↓i_bb, ↓i_bi, ↓i_nb, ↓i_ni, ↓n_l, ↓n_b, ↓q_eqb, ↓q_eqs, List.cons.injEq, D.str.injEq, D.tup.injEq, D.lst.injEq, hx, hx2, by_v x hx hx2])
      · have : bfD x = .lst [] := by unfold bfD; rw [if_neg (by omega)]
        (simp (maxSteps := 1000000) (disch := first | omega | (simp only [List.length_append, List.length_set, List.length_cons, List.length_nil, List.length_map]; omega)) only [↓T_ret, ↓T_C, ↓T_var, ↓T_m1, ↓T_m2, ↓T_mn, ↓T_nil, ↓T_cons, ↓L_tb, ↓L_if, ↓L_and, ↓L_or, ↓T_not, ↓L_andV, ↓L_orV, ↓L_notV, ↓T_mt, ↓T_nx, ↓sq_nx, ↓sq_rt, ↓sq_bk, ↓sq_ct, ↓iq_t, ↓iq_f, ↓iq_dt, ↓iq_df, ↓iq_nt, ↓iq_nf, iq_d, iq_n, ↓tq_bl, ↓iqi_i, ↓Bool.not_true, ↓Bool.not_false, ↓i_ib, ↓i_ii, ↓i_is, ↓i_il, ↓i_it, ↓i_sb, ↓i_si, ↓i_ss, ↓i_sl, ↓i_st, ↓i_tb, ↓i_ti, ↓i_ts, ↓i_tl, ↓i_tt, ↓n_i, ↓n_s, ↓n_t, ↓n_p, ↓n_n, ↓T_bk, ↓T_ct, ↓T_rtN, ↓L_seq, ↓T_ex, ↓T_rt, ↓T_set, List.getElem?_concat_length, get_app, ↓T_sub, ↓T_part0, ↓T_part1, ↓T_sl, ↓T_for, ↓T_rng1, ↓T_wk, ↓q_slp, ↓q_sll, ↓q_slt, ↓q_revp, ↓q_revl, ↓q_addpp, ↓q_listp, ↓q_listl, ↓q_listt, ↓q_lists, ↓q_tuplep, ↓q_tuplel, ↓q_tuplet, ↓q_app, ↓q_notN, ↓T_frz, ↓T_call, ↓T_callK, ↓T_raise, ↓T_asg, ↓q_add, ↓q_sub, ↓q_neg, ↓q_lt, ↓q_le, ↓q_gt, ↓q_ge, ↓q_eq, ↓q_ne, ↓q_int, ↓q_intb, ↓q_mod, ↓q_ixp, ↓q_ixl, ↓q_ixt, ↓q_lenl, ↓q_lent, ↓q_lenp, ↓q_setL, ↓q_lst, ↓q_tup, ↓q_pow10, at0, at1, at2, at3, at4, Cell.lst.injEq, ↓q_mulr, ↓q_mull, ↓q_divn, ↓Tc_ok, ↓Tc_exc, ↓fi_int, ↓fi_bl, ↓fi_non, List.getElem?_cons_zero, List.getElem?_cons_succ, List.set_cons_zero, List.set_cons_succ, List.map_cons, List.map_nil, List.length_cons, List.length_nil, List.replicate, List.cons_append, List.nil_append, List.append_nil, Option.some.injEq, D.bl.injEq, D.int.injEq, ↓exists_eq_left, ↓exists_eq_left', exists_eq', ne_eq, reduceCtorEq, not_true_eq_false, not_false_eq_true, false_implies, true_implies, implies_true, forall_const, and_true, true_and, forall_eq, forall_eq', decide_eq_true_eq, decide_eq_false_iff_not, Nat.reduceAdd, Nat.reduceSub, Nat.zero_add, ↓i_lb, ↓i_li, ↓i_ls, ↓i_ll, ↓i_lt, ↓i_bb, ↓i_bi, ↓i_nb, ↓i_ni, ↓n_l, ↓n_b, ↓q_eqb, ↓q_eqs, List.cons.injEq, D.str.injEq, D.tup.injEq, D.lst.injEq, hx, hx2, this])
    · have : bfD x = .lst [] := by unfold bfD; rw [if_neg (by omega)]
      (simp (maxSteps := 1000000) (disch := first | omega | (simp only [List.length_append, List.length_set, List.length_cons, List.length_nil, List.length_map]; omega)) only [↓T_ret, ↓T_C, ↓T_var, ↓T_m1, ↓T_m2, ↓T_mn, ↓T_nil, ↓T_cons, ↓L_tb, ↓L_if, ↓L_and, ↓L_or, ↓T_not, ↓L_andV, ↓L_orV, ↓L_notV, ↓T_mt, ↓T_nx, ↓sq_nx, ↓sq_rt, ↓sq_bk, ↓sq_ct, ↓iq_t, ↓iq_f, ↓iq_dt, ↓iq_df, ↓iq_nt, ↓iq_nf, iq_d, iq_n, ↓tq_bl, ↓iqi_i, ↓Bool.not_true, ↓Bool.not_false, ↓i_ib, ↓i_ii, ↓i_is, ↓i_il, ↓i_it, ↓i_sb, ↓i_si, ↓i_ss, ↓i_sl, ↓i_st, ↓i_tb, ↓i_ti, ↓i_ts, ↓i_tl, ↓i_tt, ↓n_i, ↓n_s, ↓n_t, ↓n_p, ↓n_n, ↓T_bk, ↓T_ct, ↓T_rtN, ↓L_seq, ↓T_ex, ↓T_rt, ↓T_set, List.getElem?_concat_length, get_app, ↓T_sub, ↓T_part0, ↓T_part1, ↓T_sl, ↓T_for, ↓T_rng1, ↓T_wk, ↓q_slp, ↓q_sll, ↓q_slt, ↓q_revp, ↓q_revl, ↓q_addpp, ↓q_listp, ↓q_listl, ↓q_listt, ↓q_lists, ↓q_tuplep, ↓q_tuplel, ↓q_tuplet, ↓q_app, ↓q_notN, ↓T_frz, ↓T_call, ↓T_callK, ↓T_raise, ↓T_asg, ↓q_add, ↓q_sub, ↓q_neg, ↓q_lt, ↓q_le, ↓q_gt, ↓q_ge, ↓q_eq, ↓q_ne, ↓q_int, ↓q_intb, ↓q_mod, ↓q_ixp, ↓q_ixl, ↓q_ixt, ↓q_lenl, ↓q_lent, ↓q_lenp, ↓q_setL, ↓q_lst, ↓q_tup, ↓q_pow10, at0, at1, at2, at3, at4, Cell.lst.injEq, ↓q_mulr, ↓q_mull, ↓q_divn, ↓Tc_ok, ↓Tc_exc, ↓fi_int, ↓fi_bl, ↓fi_non, List.getElem?_cons_zero, List.getElem?_cons_succ, List.set_cons_zero, List.set_cons_succ, List.map_cons, List.map_nil, List.length_cons, List.length_nil, List.replicate, List.cons_append, List.nil_append, List.append_nil, Option.some.injEq, D.bl.injEq, D.int.injEq, ↓exists_eq_left, ↓exists_eq_left', exists_eq', ne_eq, reduceCtorEq, not_true_eq_false, not_false_eq_true, false_implies, true_implies, implies_true, forall_const, and_true, true_and, forall_eq, forall_eq', decide_eq_true_eq, decide_eq_false_iff_not, Nat.reduceAdd, Nat.reduceSub, Nat.zero_add, ↓i_lb, ↓i_li, ↓i_ls, ↓i_ll, ↓i_lt, ↓i_bb, ↓i_bi, ↓i_nb, ↓i_ni, ↓n_l, ↓n_b, ↓q_eqb, ↓q_eqs, List.cons.injEq, D.str.injEq, D.tup.injEq, D.lst.injEq, hx, this])
  rintro _ rfl
  refine T_mid (fun s => s = ⟨[some (.scr ns), some (.ptr 0), some (.int v), some (.int w), some (.int x), some (.int y), some (bfD v), some (bfD x)], [c4, .dead]⟩) (by (simp (maxSteps := 1000000) (disch := first | omega | (simp only [List.length_append, List.length_set, List.length_cons, List.length_nil, List.length_map]; omega)) only [↓T_ret, ↓T_C, ↓T_var, ↓T_m1, ↓T_m2, ↓T_mn, ↓T_nil, ↓T_cons, ↓L_tb, ↓L_if, ↓L_and, ↓L_or, ↓T_not, ↓L_andV, ↓L_orV, ↓L_notV, ↓T_mt, ↓T_nx, ↓sq_nx, ↓sq_rt, ↓sq_bk, ↓sq_ct, ↓iq_t, ↓iq_f, ↓iq_dt, ↓iq_df, ↓iq_nt, ↓iq_nf, iq_d, iq_n, ↓tq_bl, ↓iqi_i, ↓Bool.not_true, ↓Bool.not_false, ↓i_ib, ↓i_ii, ↓i_is, ↓i_il, ↓i_it, ↓i_sb, ↓i_si, ↓i_ss, ↓i_sl, ↓i_st, ↓i_tb, ↓i_ti, ↓i_ts, ↓i_tl, ↓i_tt, ↓n_i, ↓n_s, ↓n_t, ↓n_p, ↓n_n, ↓T_bk, ↓T_ct, ↓T_rtN, ↓L_seq, ↓T_ex, ↓T_rt, ↓T_set, List.getElem?_concat_length, get_app, ↓T_sub, ↓T_part0, ↓T_part1, ↓T_sl, ↓T_for, ↓T_rng1, ↓T_wk, ↓q_slp, ↓q_sll, ↓q_slt, ↓q_revp, ↓q_revl, ↓q_addpp, ↓q_listp, ↓q_listl, ↓q_listt, ↓q_lists, ↓q_tuplep, ↓q_tuplel, ↓q_tuplet, ↓q_app, ↓q_notN, ↓T_frz, ↓T_call, ↓T_callK, ↓T_raise, ↓T_asg, ↓q_add, ↓q_sub, ↓q_neg, ↓q_lt, ↓q_le, ↓q_gt, ↓q_ge, ↓q_eq, ↓q_ne, ↓q_int, ↓q_intb, ↓q_mod, ↓q_ixp, ↓q_ixl, ↓q_ixt, ↓q_lenl, ↓q_lent, ↓q_lenp, ↓q_setL, ↓q_lst, ↓q_tup, ↓q_pow10, at0, at1, at2, at3, at4, Cell.lst.injEq, ↓q_mulr, ↓q_mull, ↓q_divn, ↓Tc_ok, ↓Tc_exc, ↓fi_int, ↓fi_bl, ↓fi_non, List.getElem?_cons_zero, List.getElem?_cons_succ, List.set_cons_zero, List.set_cons_succ, List.map_cons, List.map_nil, List.length_cons, List.length_nil, List.replicate, List.cons_append, List.nil_append, List.append_nil, Option.some.injEq, D.bl.injEq, D.int.injEq, ↓exists_eq_left, ↓exists_eq_left', exists_eq', ne_eq, reduceCtorEq, not_true_eq_false, not_false_eq_true, false_implies, true_implies, implies_true, forall_const, and_true, true_and, forall_eq, forall_eq', decide_eq_true_eq, decide_eq_false_iff_not, Nat.reduceAdd, Nat.reduceSub, Nat.zero_add, ↓i_lb, ↓i_li, ↓i_ls, ↓i_ll, ↓i_lt, ↓i_bb, ↓i_bi, ↓i_nb, ↓i_ni, ↓n_l, ↓n_b, ↓q_eqb, ↓q_eqs, List.cons.injEq, D.str.injEq, D.tup.injEq, D.lst.injEq, hvv])) ?_
  rintro _ rfl
  refine T_mid (fun s => s = ⟨[some (.scr ns), some (.ptr 0), some (.int v), some (.int w), some (.int x), some (.int y), some (bfD v), some (bfD x)], [c4, .dead]⟩) (by (simp (maxSteps := 1000000) (disch := first | omega | (simp only [List.length_append, List.length_set, List.length_cons, List.length_nil, List.length_map]; omega)) only [↓T_ret, ↓T_C, ↓T_var, ↓T_m1, ↓T_m2, ↓T_mn, ↓T_nil, ↓T_cons, ↓L_tb, ↓L_if, ↓L_and, ↓L_or, ↓T_not, ↓L_andV, ↓L_orV, ↓L_notV, ↓T_mt, ↓T_nx, ↓sq_nx, ↓sq_rt, ↓sq_bk, ↓sq_ct, ↓iq_t, ↓iq_f, ↓iq_dt, ↓iq_df, ↓iq_nt, ↓iq_nf, iq_d, iq_n, ↓tq_bl, ↓iqi_i, ↓Bool.not_true, ↓Bool.not_false, ↓i_ib, ↓i_ii, ↓i_is, ↓i_il, ↓i_it, ↓i_sb, ↓i_si, ↓i_ss, ↓i_sl, ↓i_st, ↓i_tb, ↓i_ti, ↓i_ts, ↓i_tl, ↓i_tt, ↓n_i, ↓n_s, ↓n_t, ↓n_p, ↓n_n, ↓T_bk, ↓T_ct, ↓T_rtN, ↓L_seq, ↓T_ex, ↓T_rt, ↓T_set, List.getElem?_concat_length, get_app, ↓T_sub, ↓T_part0, ↓T_part1, ↓T_sl, ↓T_for, ↓T_rng1, ↓T_wk, ↓q_slp, ↓q_sll, ↓q_slt, ↓q_revp, ↓q_revl, ↓q_addpp, ↓q_listp, ↓q_listl, ↓q_listt, ↓q_lists, ↓q_tuplep, ↓q_tuplel, ↓q_tuplet, ↓q_app, ↓q_notN, ↓T_frz, ↓T_call, ↓T_callK, ↓T_raise, ↓T_asg, ↓q_add, ↓q_sub, ↓q_neg, ↓q_lt, ↓q_le, ↓q_gt, ↓q_ge, ↓q_eq, ↓q_ne, ↓q_int, ↓q_intb, ↓q_mod, ↓q_ixp, ↓q_ixl, ↓q_ixt, ↓q_lenl, ↓q_lent, ↓q_lenp, ↓q_setL, ↓q_lst, ↓q_tup, ↓q_pow10, at0, at1, at2, at3, at4, Cell.lst.injEq, ↓q_mulr, ↓q_mull, ↓q_divn, ↓Tc_ok, ↓Tc_exc, ↓fi_int, ↓fi_bl, ↓fi_non, List.getElem?_cons_zero, List.getElem?_cons_succ, List.set_cons_zero, List.set_cons_succ, List.map_cons, List.map_nil, List.length_cons, List.length_nil, List.replicate, List.cons_append, List.nil_append, List.append_nil, Option.some.injEq, D.bl.injEq, D.int.injEq, ↓exists_eq_left, ↓exists_eq_left', exists_eq', ne_eq, reduceCtorEq, not_true_eq_false, not_false_eq_true, false_implies, true_implies, implies_true, forall_const, and_true, true_and, forall_eq, forall_eq', decide_eq_true_eq, decide_eq_false_iff_not, Nat.reduceAdd, Nat.reduceSub, Nat.zero_add, ↓i_lb, ↓i_li, ↓i_ls, ↓i_ll, ↓i_lt, ↓i_bb, ↓i_bi, ↓i_nb, ↓i_ni, ↓n_l, ↓n_b, ↓q_eqb, ↓q_eqs, List.cons.injEq, D.str.injEq, D.tup.injEq, D.lst.injEq, a1, a2, q1])) ?_
  rintro _ rfl
  refine T_mid (fun s => s = ⟨[some (.scr ns), some (.ptr 0), some (.int v), some (.int w), some (.int x), some (.int y), some (bfD v), some (bfD x)], [c4, .dead]⟩) (by (simp (maxSteps := 1000000) (disch := first | omega | (simp only [List.length_append, List.length_set, List.length_cons, List.length_nil, List.length_map]; omega)) only [↓T_ret, ↓T_C, ↓T_var, ↓T_m1, ↓T_m2, ↓T_mn, ↓T_nil, ↓T_cons, ↓L_tb, ↓L_if, ↓L_and, ↓L_or, ↓T_not, ↓L_andV, ↓L_orV, ↓L_notV, ↓T_mt, ↓T_nx, ↓sq_nx, ↓sq_rt, ↓sq_bk, ↓sq_ct, ↓iq_t, ↓iq_f, ↓iq_dt, ↓iq_df, ↓iq_nt, ↓iq_nf, iq_d, iq_n, ↓tq_bl, ↓iqi_i, ↓Bool.not_true, ↓Bool.not_false, ↓i_ib, ↓i_ii, ↓i_is, ↓i_il, ↓i_it, ↓i_sb, ↓i_si, ↓i_ss, ↓i_sl, ↓i_st, ↓i_tb, ↓i_ti, ↓i_ts, ↓i_tl, ↓i_tt, ↓n_i, ↓n_s, ↓n_t, ↓n_p, ↓n_n, ↓T_bk, ↓T_ct, ↓T_rtN, ↓L_seq, ↓T_ex, ↓T_rt, ↓T_set, List.getElem?_concat_length, get_app, ↓T_sub, ↓T_part0, ↓T_part1, ↓T_sl, ↓T_for, ↓T_rng1, ↓T_wk, ↓q_slp, ↓q_sll, ↓q_slt, ↓q_revp, ↓q_revl, ↓q_addpp, ↓q_listp, ↓q_listl, ↓q_listt, ↓q_lists, ↓q_tuplep, ↓q_tuplel, ↓q_tuplet, ↓q_app, ↓q_notN, ↓T_frz, ↓T_call, ↓T_callK, ↓T_raise, ↓T_asg, ↓q_add, ↓q_sub, ↓q_neg, ↓q_lt, ↓q_le, ↓q_gt, ↓q_ge, ↓q_eq, ↓q_ne, ↓q_int, ↓q_intb, ↓q_mod, ↓q_ixp, ↓q_ixl, ↓q_ixt, ↓q_lenl, ↓q_lent, ↓q_lenp, ↓q_setL, ↓q_lst, ↓q_tup, ↓q_pow10, at0, at1, at2, at3, at4, Cell.lst.injEq, ↓q_mulr, ↓q_mull, ↓q_divn, ↓Tc_ok, ↓Tc_exc, ↓fi_int, ↓fi_bl, ↓fi_non, List.getElem?_cons_zero, List.getElem?_cons_succ, List.set_cons_zero, List.set_cons_succ, List.map_cons, List.map_nil, List.length_cons, List.length_nil, List.replicate, List.cons_append, List.nil_append, List.append_nil, Option.some.injEq, D.bl.injEq, D.int.injEq, ↓exists_eq_left, ↓exists_eq_left', exists_eq', ne_eq, reduceCtorEq, not_true_eq_false, not_false_eq_true, false_implies, true_implies, implies_true, forall_const, and_true, true_and, forall_eq, forall_eq', decide_eq_true_eq, decide_eq_false_iff_not, Nat.reduceAdd, Nat.reduceSub, Nat.zero_add, ↓i_lb, ↓i_li, ↓i_ls, ↓i_ll, ↓i_lt, ↓i_bb, ↓i_bi, ↓i_nb, ↓i_ni, ↓n_l, ↓n_b, ↓q_eqb, ↓q_eqs, List.cons.injEq, D.str.injEq, D.tup.injEq, D.lst.injEq, b1, b2, q2])) ?_
  rintro _ rfl
  refine T_mid (fun s => s = ⟨[some (.scr ns), some (.ptr 0), some (.int v), some (.int w), some (.int x), some (.int y), some (bfD v), some (bfD x)], [c4, .dead]⟩) (by (simp (maxSteps := 1000000) (disch := first | omega | (simp only [List.length_append, List.length_set, List.length_cons, List.length_nil, List.length_map]; omega)) only [↓T_ret, ↓T_C, ↓T_var, ↓T_m1, ↓T_m2, ↓T_mn, ↓T_nil, ↓T_cons, ↓L_tb, ↓L_if, ↓L_and, ↓L_or, ↓T_not, ↓L_andV, ↓L_orV, ↓L_notV, ↓T_mt, ↓T_nx, ↓sq_nx, ↓sq_rt, ↓sq_bk, ↓sq_ct, ↓iq_t, ↓iq_f, ↓iq_dt, ↓iq_df, ↓iq_nt, ↓iq_nf, iq_d, iq_n, ↓tq_bl, ↓iqi_i, ↓Bool.not_true, ↓Bool.not_false, ↓i_ib, ↓i_ii, ↓i_is, ↓i_il, ↓i_it, ↓i_sb, ↓i_si, ↓i_ss, ↓i_sl, ↓i_st, ↓i_tb, ↓i_ti, ↓i_ts, ↓i_tl, ↓i_tt, ↓n_i, ↓n_s, ↓n_t, ↓n_p, ↓n_n, ↓T_bk, ↓T_ct, ↓T_rtN, ↓L_seq, ↓T_ex, ↓T_rt, ↓T_set, List.getElem?_concat_length, get_app, ↓T_sub, ↓T_part0, ↓T_part1, ↓T_sl, ↓T_for, ↓T_rng1, ↓T_wk, ↓q_slp, ↓q_sll, ↓q_slt, ↓q_revp, ↓q_revl, ↓q_addpp, ↓q_listp, ↓q_listl, ↓q_listt, ↓q_lists, ↓q_tuplep, ↓q_tuplel, ↓q_tuplet, ↓q_app, ↓q_notN, ↓T_frz, ↓T_call, ↓T_callK, ↓T_raise, ↓T_asg, ↓q_add, ↓q_sub, ↓q_neg, ↓q_lt, ↓q_le, ↓q_gt, ↓q_ge, ↓q_eq, ↓q_ne, ↓q_int, ↓q_intb, ↓q_mod, ↓q_ixp, ↓q_ixl, ↓q_ixt, ↓q_lenl, ↓q_lent, ↓q_lenp, ↓q_setL, ↓q_lst, ↓q_tup, ↓q_pow10, at0, at1, at2, at3, at4, Cell.lst.injEq, ↓q_mulr, ↓q_mull, ↓q_divn, ↓Tc_ok, ↓Tc_exc, ↓fi_int, ↓fi_bl, ↓fi_non, List.getElem?_cons_zero, List.getElem?_cons_succ, List.set_cons_zero, List.set_cons_succ, List.map_cons, List.map_nil, List.length_cons, List.length_nil, List.replicate, List.cons_append, List.nil_append, List.append_nil, Option.some.injEq, D.bl.injEq, D.int.injEq, ↓exists_eq_left, ↓exists_eq_left', exists_eq', ne_eq, reduceCtorEq, not_true_eq_false, not_false_eq_true, false_implies, true_implies, implies_true, forall_const, and_true, true_and, forall_eq, forall_eq', decide_eq_true_eq, decide_eq_false_iff_not, Nat.reduceAdd, Nat.reduceSub, Nat.zero_add, ↓i_lb, ↓i_li, ↓i_ls, ↓i_ll, ↓i_lt, ↓i_bb, ↓i_bi, ↓i_nb, ↓i_ni, ↓n_l, ↓n_b, ↓q_eqb, ↓q_eqs, List.cons.injEq, D.str.injEq, D.tup.injEq, D.lst.injEq, f1, f2, q3])) ?_
  rintro _ rfl
  refine T_mid (fun s => s = ⟨[some (.scr ns), some (.ptr 0), some (.int v), some (.int w), some (.int x), some (.int y), some (bfD v), some (bfD x)], [c4, .dead]⟩) (by (simp (maxSteps := 1000000) (disch := first | omega | (simp only [List.length_append, List.length_set, List.length_cons, List.length_nil, List.length_map]; omega)) only [↓T_ret, ↓T_C, ↓T_var, ↓T_m1, ↓T_m2, ↓T_mn, ↓T_nil, ↓T_cons, ↓L_tb, ↓L_if, ↓L_and, ↓L_or, ↓T_not, ↓L_andV, ↓L_orV, ↓L_notV, ↓T_mt, ↓T_nx, ↓sq_nx, ↓sq_rt, ↓sq_bk, ↓sq_ct, ↓iq_t, ↓iq_f, ↓iq_dt, ↓iq_df, ↓iq_nt, ↓iq_nf, iq_d, iq_n, ↓tq_bl, ↓iqi_i, ↓Bool.not_true, ↓Bool.not_false, ↓i_ib, ↓i_ii, ↓i_is, ↓i_il, ↓i_it, ↓i_sb, ↓i_si, ↓i_ss, ↓i_sl, ↓i_st, ↓i_tb, ↓i_ti, ↓i_ts, ↓i_tl, ↓i_tt, ↓n_i, ↓n_s, ↓n_t, ↓n_p, ↓n_n, ↓T_bk, ↓T_ct, ↓T_rtN, ↓L_seq, ↓T_ex, ↓T_rt, ↓T_set, List.getElem?_concat_length, get_app, ↓T_sub, ↓T_part0, ↓T_part1, ↓T_sl, ↓T_for, ↓T_rng1, ↓T_wk, ↓q_slp, ↓q_sll, ↓q_slt, ↓q_revp, ↓q_revl, ↓q_addpp, ↓q_listp, ↓q_listl, ↓q_listt, ↓q_lists, ↓q_tuplep, ↓q_tuplel, ↓q_tuplet, ↓q_app, ↓q_notN, ↓T_frz, ↓T_call, ↓T_callK, ↓T_raise, ↓T_asg, ↓q_add, ↓q_sub, ↓q_neg, ↓q_lt, ↓q_le, ↓q_gt, ↓q_ge, ↓q_eq, ↓q_ne, ↓q_int, ↓q_intb, ↓q_mod, ↓q_ixp, ↓q_ixl, ↓q_ixt, ↓q_lenl, ↓q_lent, ↓q_lenp, ↓q_setL, ↓q_lst, ↓q_tup, ↓q_pow10, at0, at1, at2, at3, at4, Cell.lst.injEq, ↓q_mulr, ↓q_mull, ↓q_divn, ↓Tc_ok, ↓Tc_exc, ↓fi_int, ↓fi_bl, ↓fi_non, List.getElem?_cons_zero, List.getElem?_cons_succ, List.set_cons_zero, List.set_cons_succ, List.map_cons, List.map_nil, List.length_cons, List.length_nil, List.replicate, List.cons_append, List.nil_append, List.append_nil, Option.some.injEq, D.bl.injEq, D.int.injEq, ↓exists_eq_left, ↓exists_eq_left', exists_eq', ne_eq, reduceCtorEq, not_true_eq_false, not_false_eq_true, false_implies, true_implies, implies_true, forall_const, and_true, true_and, forall_eq, forall_eq', decide_eq_true_eq, decide_eq_false_iff_not, Nat.reduceAdd, Nat.reduceSub, Nat.zero_add, ↓i_lb, ↓i_li, ↓i_ls, ↓i_ll, ↓i_lt, ↓i_bb, ↓i_bi, ↓i_nb, ↓i_ni, ↓n_l, ↓n_b, ↓q_eqb, ↓q_eqs, List.cons.injEq, D.str.injEq, D.tup.injEq, D.lst.injEq, g1, g2, q4])) ?_
  rintro _ rfl
  refine T_mid (fun s => s = ⟨[some (.scr ns), some (.ptr 0), some (.int v), some (.int w), some (.int x), some (.int y), some (bfD v), some (bfD x)], [c4, .dead]⟩) (by (simp (maxSteps := 1000000) (disch := first | omega | (simp only [List.length_append, List.length_set, List.length_cons, List.length_nil, List.length_map]; omega)) only [↓T_ret, ↓T_C, ↓T_var, ↓T_m1, ↓T_m2, ↓T_mn, ↓T_nil, ↓T_cons, ↓L_tb, ↓L_if, ↓L_and, ↓L_or, ↓T_not, ↓L_andV, ↓L_orV, ↓L_notV, ↓T_mt, ↓T_nx, ↓sq_nx, ↓sq_rt, ↓sq_bk, ↓sq_ct, ↓iq_t, ↓iq_f, ↓iq_dt, ↓iq_df, ↓iq_nt, ↓iq_nf, iq_d, iq_n, ↓tq_bl, ↓iqi_i, ↓Bool.not_true, ↓Bool.not_false, ↓i_ib, ↓i_ii, ↓i_is, ↓i_il, ↓i_it, ↓i_sb, ↓i_si, ↓i_ss, ↓i_sl, ↓i_st, ↓i_tb, ↓i_ti, ↓i_ts, ↓i_tl, ↓i_tt, ↓n_i, ↓n_s, ↓n_t, ↓n_p, ↓n_n, ↓T_bk, ↓T_ct, ↓T_rtN, ↓L_seq, ↓T_ex, ↓T_rt, ↓T_set, List.getElem?_concat_length, get_app, ↓T_sub, ↓T_part0, ↓T_part1, ↓T_sl, ↓T_for, ↓T_rng1, ↓T_wk, ↓q_slp, ↓q_sll, ↓q_slt, ↓q_revp, ↓q_revl, ↓q_addpp, ↓q_listp, ↓q_listl, ↓q_listt, ↓q_lists, ↓q_tuplep, ↓q_tuplel, ↓q_tuplet, ↓q_app, ↓q_notN, ↓T_frz, ↓T_call, ↓T_callK, ↓T_raise, ↓T_asg, ↓q_add, ↓q_sub, ↓q_neg, ↓q_lt, ↓q_le, ↓q_gt, ↓q_ge, ↓q_eq, ↓q_ne, ↓q_int, ↓q_intb, ↓q_mod, ↓q_ixp, ↓q_ixl, ↓q_ixt, ↓q_lenl, ↓q_lent, ↓q_lenp, ↓q_setL, ↓q_lst, ↓q_tup, ↓q_pow10, at0, at1, at2, at3, at4, Cell.lst.injEq, ↓q_mulr, ↓q_mull, ↓q_divn, ↓Tc_ok, ↓Tc_exc, ↓fi_int, ↓fi_bl, ↓fi_non, List.getElem?_cons_zero, List.getElem?_cons_succ, List.set_cons_zero, List.set_cons_succ, List.map_cons, List.map_nil, List.length_cons, List.length_nil, List.replicate, List.cons_append, List.nil_append, List.append_nil, Option.some.injEq, D.bl.injEq, D.int.injEq, ↓exists_eq_left, ↓exists_eq_left', exists_eq', ne_eq, reduceCtorEq, not_true_eq_false, not_false_eq_true, false_implies, true_implies, implies_true, forall_const, and_true, true_and, forall_eq, forall_eq', decide_eq_true_eq, decide_eq_false_iff_not, Nat.reduceAdd, Nat.reduceSub, Nat.zero_add, ↓i_lb, ↓i_li, ↓i_ls, ↓i_ll, ↓i_lt, ↓i_bb, ↓i_bi, ↓i_nb, ↓i_ni, ↓n_l, ↓n_b, ↓q_eqb, ↓q_eqs, List.cons.injEq, D.str.injEq, D.tup.injEq, D.lst.injEq, yw, hww])) ?_
  rintro _ rfl
  (simp (maxSteps := 1000000) (disch := first | omega | (simp only [List.length_append, List.length_set, List.length_cons, List.length_nil, List.length_map]; omega)) only [↓T_ret, ↓T_C, ↓T_var, ↓T_m1, ↓T_m2, ↓T_mn, ↓T_nil, ↓T_cons, ↓L_tb, ↓L_if, ↓L_and, ↓L_or, ↓T_not, ↓L_andV, ↓L_orV, ↓L_notV, ↓T_mt, ↓T_nx, ↓sq_nx, ↓sq_rt, ↓sq_bk, ↓sq_ct, ↓iq_t, ↓iq_f, ↓iq_dt, ↓iq_df, ↓iq_nt, ↓iq_nf, iq_d, iq_n, ↓tq_bl, ↓iqi_i, ↓Bool.not_true, ↓Bool.not_false, ↓i_ib, ↓i_ii, ↓i_is, ↓i_il, ↓i_it, ↓i_sb, ↓i_si, ↓i_ss, ↓i_sl, ↓i_st, ↓i_tb, ↓i_ti, ↓i_ts, ↓i_tl, ↓i_tt, ↓n_i, ↓n_s, ↓n_t, ↓n_p, ↓n_n, ↓T_bk, ↓T_ct, ↓T_rtN, ↓L_seq, ↓T_ex, ↓T_rt, ↓T_set, List.getElem?_concat_length, get_app, ↓T_sub, ↓T_part0, ↓T_part1, ↓T_sl, ↓T_for, ↓T_rng1, ↓T_wk, ↓q_slp, ↓q_sll, ↓q_slt, ↓q_revp, ↓q_revl, ↓q_addpp, ↓q_listp, ↓q_listl, ↓q_listt, ↓q_lists, ↓q_tuplep, ↓q_tuplel, ↓q_tuplet, ↓q_app, ↓q_notN, ↓T_frz, ↓T_call, ↓T_callK, ↓T_raise, ↓T_asg, ↓q_add, ↓q_sub, ↓q_neg, ↓q_lt, ↓q_le, ↓q_gt, ↓q_ge, ↓q_eq, ↓q_ne, ↓q_int, ↓q_intb, ↓q_mod, ↓q_ixp, ↓q_ixl, ↓q_ixt, ↓q_lenl, ↓q_lent, ↓q_lenp, ↓q_setL, ↓q_lst, ↓q_tup, ↓q_pow10, at0, at1, at2, at3, at4, Cell.lst.injEq, ↓q_mulr, ↓q_mull, ↓q_divn, ↓Tc_ok, ↓Tc_exc, ↓fi_int, ↓fi_bl, ↓fi_non, List.getElem?_cons_zero, List.getElem?_cons_succ, List.set_cons_zero, List.set_cons_succ, List.map_cons, List.map_nil, List.length_cons, List.length_nil, List.replicate, List.cons_append, List.nil_append, List.append_nil, Option.some.injEq, D.bl.injEq, D.int.injEq, ↓exists_eq_left, ↓exists_eq_left', exists_eq', ne_eq, reduceCtorEq, not_true_eq_false, not_false_eq_true, false_implies, true_implies, implies_true, forall_const, and_true, true_and, forall_eq, forall_eq', decide_eq_true_eq, decide_eq_false_iff_not, Nat.reduceAdd, Nat.reduceSub, Nat.zero_add, ↓i_lb, ↓i_li, ↓i_ls, ↓i_ll, ↓i_lt, ↓i_bb, ↓i_bi, ↓i_nb, ↓i_ni, ↓n_l, ↓n_b, ↓q_eqb, ↓q_eqs, List.cons.injEq, D.str.injEq, D.tup.injEq, D.lst.injEq, hv, sv])
  have st := same_ok (Told (lit v.toNat).sum) (told_pl _) [c4, .dead]
  rw [show D.tup [.str "told", .int (lit v.toNat).sum] = Told (lit v.toNat).sum from rfl, st]
  exact fin_fst rfl
end K38

theorem PySem.Challenge.cw_hedgejoin_k38_worlds_by_fields_holds : PySem.Challenge.rw_hedgejoin_k38_worlds_by_fields.Holds :=
  K38.holds_of K38.the_law
