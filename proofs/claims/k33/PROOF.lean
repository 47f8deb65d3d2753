import PyProof.Rows.All
import Wide.All
import OpenK.AllK
import Wide.FinOn
import HandS.ForMost
import HandS.ForExc
import HandS.Evl
import KE.DataEq
import HandS.Wide
import HandS.Style
import HandS.TupAny
import HandS.Small
import HandS.NoneIn
import HandS.Conv
import HandS.SortInts
import HandS.IsInst
import HandS.Zip
import KE.SortData
import KE.LtData
import HandS.Ends
import HandS.ExcCtx
import HandS.HotCalls
import HandS.ExcInit
import HandS.ExcOwn
import HandS.TryMany
import HandS.RaiseFrom
import HandS.WordsExc
import HandS.ExcIs
import HandS.ExcField
import KE.KExcIs
import HandS.ExcInitHot
import PySem.Challenge.RW_selvage_k33_too_many
set_option Elab.async false
set_option linter.all false
set_option maxRecDepth 100000
set_option maxHeartbeats 4000000
/-! L3: the readings of the hand layer over trees. A value is a tree (T) or a mutable object's place (loc); what may change stands in a store (Sto). -/
namespace L3
open PySem PySem.Spec PyProof.Rows L2
open Evl (Ex)

/-! ### trees, what they stand for -/
inductive T where
  | non | bl (b : Bool) | int (i : Int) | str (x : Str) | ty (n : String) | loc (a : Addr)
  | lst (xs : List T) | tup (xs : List T) | ktup (xs : List T) | klst (xs : List T) | dk (kvs : List (Key × T))
mutual
inductive Rep (K : PySem.W.Frag) (G : Hp) : V → T → Prop
  | non : Rep K G .non .non
  | bl (b : Bool) : Rep K G (.bl b) (.bl b)
  | int (i : Int) : Rep K G (.int i) (.int i)
  | str (x : Str) : Rep K G (.str x) (.str x)
  | ty (n : String) : Rep K G (.ty n) (.ty n)
  | loc (a : Addr) : Rep K G (.ref a) (.loc a)
  | lst {a : Addr} {vs : List V} {xs : List T} : G a = some (.lst vs) → Reps K G vs xs → Rep K G (.ref a) (.lst xs)
  | tup {a : Addr} {vs : List V} {xs : List T} : G a = some (.tup vs) → Reps K G vs xs → Rep K G (.ref a) (.tup xs)
  | ktup {a : Addr} {vs : List V} {xs : List T} : SqT K G a vs → Reps K G vs xs → Rep K G (.ref a) (.ktup xs)
  | klst {a : Addr} {vs : List V} {xs : List T} : SqL K G a vs → Reps K G vs xs → Rep K G (.ref a) (.klst xs)
  | dk {a : Addr} {kvs : List (Key × V)} {kxs : List (Key × T)} : G a = some (.dK kvs) → kvs.map Prod.fst = kxs.map Prod.fst → Reps K G (kvs.map Prod.snd) (kxs.map Prod.snd) → Rep K G (.ref a) (.dk kxs)
inductive Reps (K : PySem.W.Frag) (G : Hp) : List V → List T → Prop
  | nil : Reps K G [] []
  | cons {v : V} {vs : List V} {x : T} {xs : List T} : Rep K G v x → Reps K G vs xs → Reps K G (v :: vs) (x :: xs)
end
mutual
theorem Rep.mono {K : PySem.W.Frag} {G G' : Hp} (e : Ex G G') : ∀ {v : V} {x : T}, Rep K G v x → Rep K G' v x
  | _, _, .non => .non
  | _, _, .bl b => .bl b
  | _, _, .int i => .int i
  | _, _, .str x => .str x
  | _, _, .ty n => .ty n
  | _, _, .loc a => .loc a
  | _, _, .lst h r => .lst (e _ _ h) (Reps.mono e r)
  | _, _, .tup h r => .tup (e _ _ h) (Reps.mono e r)
  | _, _, .ktup h r => .ktup (Evl.ex_t e h) (Reps.mono e r)
  | _, _, .klst h r => .klst (Evl.ex_l e h) (Reps.mono e r)
  | _, _, .dk h k r => .dk (e _ _ h) k (Reps.mono e r)
theorem Reps.mono {K : PySem.W.Frag} {G G' : Hp} (e : Ex G G') : ∀ {vs : List V} {xs : List T}, Reps K G vs xs → Reps K G' vs xs
  | _, _, .nil => .nil
  | _, _, .cons a r => .cons (Rep.mono e a) (Reps.mono e r)
end
section
variable {K : PySem.W.Frag} {G G' H : Hp}
theorem Reps.length : ∀ {vs : List V} {xs : List T}, Reps K G vs xs → vs.length = xs.length
  | _, _, .nil => rfl
  | _, _, .cons _ r => congrArg (· + 1) r.length
theorem Reps.append : ∀ {vs ws : List V} {xs ys : List T}, Reps K G vs xs → Reps K G ws ys → Reps K G (vs ++ ws) (xs ++ ys)
  | _, _, _, _, .nil, s => s
  | _, _, _, _, .cons a r, s => .cons a (r.append s)
theorem Reps.get : ∀ {vs : List V} {xs : List T} {i : Nat} {x : T}, Reps K G vs xs → xs[i]? = some x → ∃ v, vs[i]? = some v ∧ Rep K G v x
  | _, _, _, _, .nil, e => by simp at e
  | _, _, 0, _, .cons a _, e => by simp at e; subst e; exact ⟨_, rfl, a⟩
  | _, _, i + 1, x, .cons _ r, e => by
    obtain ⟨v, h1, h2⟩ := Reps.get (i := i) (x := x) r (by simpa using e)
    exact ⟨v, by simpa using h1, h2⟩
theorem Reps.getV : ∀ {vs : List V} {xs : List T} {i : Nat} {v : V}, Reps K G vs xs → vs[i]? = some v → ∃ x, xs[i]? = some x ∧ Rep K G v x
  | _, _, _, _, .nil, e => by simp at e
  | _, _, 0, _, .cons a _, e => by simp at e; subst e; exact ⟨_, rfl, a⟩
  | _, _, i + 1, v, .cons _ r, e => by
    obtain ⟨x, h1, h2⟩ := Reps.getV (i := i) (v := v) r (by simpa using e)
    exact ⟨x, by simpa using h1, h2⟩
theorem Reps.set {v : V} {x : T} (a : Rep K G v x) : ∀ {vs : List V} {xs : List T} (i : Nat), Reps K G vs xs → Reps K G (vs.set i v) (xs.set i x)
  | _, _, _, .nil => .nil
  | _, _, 0, .cons _ r => .cons a r
  | _, _, i + 1, .cons b r => .cons b (Reps.set a i r)
theorem Reps.take : ∀ {vs : List V} {xs : List T} (n : Nat), Reps K G vs xs → Reps K G (vs.take n) (xs.take n)
  | _, _, 0, _ => .nil
  | _, _, _ + 1, .nil => .nil
  | _, _, n + 1, .cons a r => .cons a (Reps.take n r)
theorem Reps.drop : ∀ {vs : List V} {xs : List T} (n : Nat), Reps K G vs xs → Reps K G (vs.drop n) (xs.drop n)
  | _, _, 0, r => r
  | _, _, _ + 1, .nil => .nil
  | _, _, n + 1, .cons _ r => Reps.drop n r
theorem Reps.erase : ∀ {vs : List V} {xs : List T} (n : Nat), Reps K G vs xs → Reps K G (vs.eraseIdx n) (xs.eraseIdx n)
  | _, _, _, .nil => .nil
  | _, _, 0, .cons _ r => r
  | _, _, n + 1, .cons a r => .cons a (Reps.erase n r)
theorem Reps.reverse : ∀ {vs : List V} {xs : List T}, Reps K G vs xs → Reps K G vs.reverse xs.reverse
  | _, _, .nil => .nil
  | _, _, .cons a r => by
    rw [List.reverse_cons, List.reverse_cons]
    exact (Reps.reverse r).append (.cons a .nil)
theorem Reps.rep {vs : List V} {xs : List T} (h : Reps K G vs xs) : ∀ k : Nat, Reps K G (List.replicate k vs).flatten (List.replicate k xs).flatten
  | 0 => .nil
  | k + 1 => by
    rw [List.replicate_succ, List.replicate_succ, List.flatten_cons, List.flatten_cons]
    exact h.append (Reps.rep h k)
theorem Reps.dropLast {vs : List V} {xs : List T} (h : Reps K G vs xs) : Reps K G vs.dropLast xs.dropLast := by
  rw [List.dropLast_eq_take, List.dropLast_eq_take, h.length]
  exact h.take _
theorem Reps.ints : ∀ {vs : List V} {ns : List Int}, Reps K G vs (ns.map T.int) → vs = ns.map V.int
  | _, [], .nil => rfl
  | _, n :: ns, .cons a r => by
    cases a
    rw [Reps.ints r]
    rfl
theorem Reps.of_ints : ∀ ns : List Int, Reps K G (ns.map V.int) (ns.map T.int)
  | [] => .nil
  | n :: ns => .cons (.int n) (Reps.of_ints ns)
theorem Reps.strs : ∀ {vs : List V} {ns : List Str}, Reps K G vs (ns.map T.str) → vs = ns.map V.str
  | _, [], .nil => rfl
  | _, n :: ns, .cons a r => by
    cases a
    rw [Reps.strs r]
    rfl
theorem Reps.of_strs : ∀ ns : List Str, Reps K G (ns.map V.str) (ns.map T.str)
  | [] => .nil
  | n :: ns => .cons (.str n) (Reps.of_strs ns)
theorem Reps.bls : ∀ {vs : List V} {ns : List Bool}, Reps K G vs (ns.map T.bl) → vs = ns.map V.bl
  | _, [], .nil => rfl
  | _, n :: ns, .cons a r => by
    cases a
    rw [Reps.bls r]
    rfl
end

/-! ### the store -/
inductive MO where
  | lst (xs : List T) | dk (kvs : List (Key × T)) | dt (kvs : List (List Key × T)) | ins (C dx : Addr) (fs : List (Str × T)) | xd (fs : List (Str × T)) | raw (o : HO)
abbrev Sto := Addr → Option MO
def PReps (K : PySem.W.Frag) (G : Hp) {κ : Type} (kvs : List (κ × V)) (kxs : List (κ × T)) : Prop := kvs.map Prod.fst = kxs.map Prod.fst ∧ Reps K G (kvs.map Prod.snd) (kxs.map Prod.snd)
inductive MRep (K : PySem.W.Frag) (G : Hp) : MO → HO → Prop
  | lst {vs : List V} {xs : List T} : Reps K G vs xs → MRep K G (.lst xs) (.lst vs)
  | dk {kvs : List (Key × V)} {kxs : List (Key × T)} : PReps K G kvs kxs → MRep K G (.dk kxs) (.dK kvs)
  | dt {kvs : List (List Key × V)} {kxs : List (List Key × T)} : PReps K G kvs kxs → MRep K G (.dt kxs) (.dT kvs)
  | ins {C dx : Addr} {fs : List (Str × V)} {fxs : List (Str × T)} : PReps K G fs fxs → MRep K G (.ins C dx fxs) (.ins C dx fs)
  | xd {fs : List (Str × V)} {fxs : List (Str × T)} : PReps K G fs fxs → MRep K G (.xd fxs) (.xd fs)
  | raw {o : HO} : MRep K G (.raw o) o
theorem PReps.mono {K : PySem.W.Frag} {G G' : Hp} {κ : Type} {kvs : List (κ × V)} {kxs : List (κ × T)} (e : Ex G G') (h : PReps K G kvs kxs) : PReps K G' kvs kxs := ⟨h.1, h.2.mono e⟩
theorem MRep.mono {K : PySem.W.Frag} {G G' : Hp} (e : Ex G G') {m : MO} {o : HO} (h : MRep K G m o) : MRep K G' m o := by
  cases h with
  | lst r => exact .lst (r.mono e)
  | dk r => exact .dk (r.mono e)
  | dt r => exact .dt (r.mono e)
  | ins r => exact .ins (r.mono e)
  | xd r => exact .xd (r.mono e)
  | raw => exact .raw
def supd (st : Sto) (a : Addr) (m : MO) : Sto := fun b => if b = a then some m else st b
def sdel (st : Sto) (a : Addr) : Sto := fun b => if b = a then none else st b
theorem supd_same {st : Sto} {a : Addr} {m : MO} : supd st a m a = some m := by unfold supd; rw [if_pos rfl]
theorem supd_ne {st : Sto} {a b : Addr} {m : MO} (h : b ≠ a) : supd st a m b = st b := by unfold supd; rw [if_neg h]
theorem supd_supd {st : Sto} {a : Addr} {m n : MO} : supd (supd st a m) a n = supd st a n := by
  funext b; unfold supd; split <;> rfl
theorem sdel_supd {st : Sto} {a : Addr} {m : MO} (h : st a = none) : sdel (supd st a m) a = st := by
  funext b; unfold sdel supd
  split
  · rename_i e; subst e; exact h.symm
  · rfl
/-- all that stands in s stands in t -/
def Sub (s t : Sto) : Prop := ∀ a m, s a = some m → t a = some m
theorem Sub.refl (s : Sto) : Sub s s := fun _ _ h => h
theorem Sub.trans {s t u : Sto} (a : Sub s t) (b : Sub t u) : Sub s u := fun x m h => b x m (a x m h)
theorem Sub.free {s t : Sto} (e : Sub s t) {p : Addr} (h : t p = none) : s p = none := by
  cases q : s p with
  | none => rfl
  | some m => rw [e p m q] at h; cases h
theorem sne {s : Sto} {a b : Addr} {m : MO} (h : s a = some m) (h' : s b = none) : a ≠ b := by
  intro e; subst e; rw [h] at h'; cases h'
theorem Sub.new {s : Sto} {p : Addr} {m : MO} (h : s p = none) : Sub s (supd s p m) := fun a n e => by
  rw [supd_ne (sne e h)]; exact e
theorem Sub.add {s t : Sto} {p : Addr} {m : MO} (e : Sub s t) (h : s p = none) : Sub s (supd t p m) := fun a n q => by
  rw [supd_ne (sne q h)]; exact e a n q
theorem Sub.upd {s t : Sto} {p : Addr} {m : MO} (e : Sub s t) : Sub (supd s p m) (supd t p m) := fun a n q => by
  by_cases h : a = p
  · subst h; rw [supd_same] at q; rw [supd_same]; exact q
  · rw [supd_ne h] at q; rw [supd_ne h]; exact e a n q
/-- the store changes at a place that stands in it already -/
theorem Sub.put {s t : Sto} {p : Addr} {m n : MO} (e : Sub (supd s p m) t) : Sub (supd s p n) (supd t p n) := fun a k q => by
  by_cases h : a = p
  · subst h; rw [supd_same] at q; rw [supd_same]; exact q
  · rw [supd_ne h] at q; rw [supd_ne h]; exact e a k (by rw [supd_ne h]; exact q)
theorem Sub.del {s t : Sto} {p : Addr} (e : Sub s t) (h : s p = none) : Sub s (sdel t p) := fun a m q => by
  unfold sdel
  rw [if_neg (sne q h)]
  exact e a m q
theorem Sub.at {s t : Sto} {p : Addr} {m : MO} (e : Sub (supd s p m) t) : t p = some m := e p m supd_same
theorem Sub.base {s t : Sto} {p : Addr} {m : MO} (e : Sub (supd s p m) t) (h : s p = none) : Sub s t := (Sub.new h).trans e

/-! ### heap, store, what never changes -/
/-- the written part; what stood as trees where the def (the try) began -/
structure KG where
  fr : PySem.W.Frag
  gb : Hp
instance : Coe KG PySem.W.Frag := ⟨KG.fr⟩
structure Cy extends Cx where
  gb : Hp
instance : CoeOut Cy Cx := ⟨Cy.toCx⟩
abbrev Cy.kg (X : Cy) : KG := ⟨X.toCx.K, X.gb⟩
structure Rel (K : KG) (H : Hp) (st : Sto) (G : Hp) : Prop where
  low : Ex K.gb G
  sub : ∀ a o, G a = some o → H a = some o
  mem : ∀ a m, st a = some m → G a = none ∧ ∃ o, H a = some o ∧ MRep K G m o
section
variable {K : KG} {G G' H : Hp} {st st' : Sto} {p : Addr}
theorem Rel.less (r : Rel K H st G) (e : Sub st' st) : Rel K H st' G := ⟨r.low, r.sub, fun a m h => r.mem a m (e a m h)⟩
theorem Rel.noG (r : Rel K H st G) (h : H p = none) : G p = none := by
  cases q : G p with
  | none => rfl
  | some o => rw [r.sub _ _ q] at h; cases h
theorem Rel.noS (r : Rel K H st G) (h : H p = none) : st p = none := by
  cases q : st p with
  | none => rfl
  | some m => obtain ⟨_, o, e, _⟩ := r.mem _ _ q; rw [e] at h; cases h
/-- a new thing that never changes -/
theorem Rel.newG (r : Rel K H st G) {o : HO} (h : H p = none) : Rel K (upd H p o) st (upd G p o) := by
  have e : Ex G (upd G p o) := Ex.new (r.noG h)
  refine ⟨r.low.trans e, fun a u q => ?_, fun a m q => ?_⟩
  · by_cases z : a = p
    · subst z; rw [upd_same] at q; rw [upd_same]; exact q
    · rw [upd_ne z] at q; rw [upd_ne z]; exact r.sub a u q
  · obtain ⟨q1, u, q2, q3⟩ := r.mem a m q
    have z : a ≠ p := ne_of_none q2 h
    exact ⟨by rw [upd_ne z]; exact q1, u, by rw [upd_ne z]; exact q2, q3.mono e⟩
/-- a new thing that may change -/
theorem Rel.newS (r : Rel K H st G) {o : HO} {m : MO} (h : H p = none) (mr : MRep K G m o) : Rel K (upd H p o) (supd st p m) G := by
  refine ⟨r.low, fun a u q => ?_, fun a n q => ?_⟩
  · rw [upd_ne (ne_of_none (r.sub a u q) h)]
    exact r.sub a u q
  · by_cases z : a = p
    · subst z; rw [supd_same] at q; cases q
      exact ⟨r.noG h, o, upd_same, mr⟩
    · rw [supd_ne z] at q
      obtain ⟨q1, u, q2, q3⟩ := r.mem a n q
      exact ⟨q1, u, by rw [upd_ne z]; exact q2, q3⟩
/-- a thing of the store is changed -/
theorem Rel.put (r : Rel K H st G) {o : HO} {m m0 : MO} (h : st p = some m0) (mr : MRep K G m o) : Rel K (upd H p o) (supd st p m) G := by
  obtain ⟨q1, _, q2, _⟩ := r.mem p m0 h
  refine ⟨r.low, fun a u q => ?_, fun a n q => ?_⟩
  · have z : a ≠ p := ne_of_none q q1
    rw [upd_ne z]
    exact r.sub a u q
  · by_cases z : a = p
    · subst z; rw [supd_same] at q; cases q
      exact ⟨q1, o, upd_same, mr⟩
    · rw [supd_ne z] at q
      obtain ⟨q1, u, q2, q3⟩ := r.mem a n q
      exact ⟨q1, u, by rw [upd_ne z]; exact q2, q3⟩
/-- a thing of the store will change no more -/
theorem Rel.frz (r : Rel K H st G) {o : HO} {m : MO} (h : st p = some m) (ho : H p = some o) : Ex G (upd G p o) ∧ Rel K H (sdel st p) (upd G p o) := by
  obtain ⟨q1, _, _, _⟩ := r.mem p m h
  have e : Ex G (upd G p o) := Ex.new q1
  refine ⟨e, r.low.trans e, fun a u q => ?_, fun a n q => ?_⟩
  · by_cases z : a = p
    · subst z; rw [upd_same] at q; cases q; exact ho
    · rw [upd_ne z] at q; exact r.sub a u q
  · unfold sdel at q
    split at q
    · cases q
    · rename_i z
      obtain ⟨q1, u, q2, q3⟩ := r.mem a n q
      exact ⟨by rw [upd_ne z]; exact q1, u, q2, q3.mono e⟩
theorem Rel.lst (r : Rel K H st G) {xs : List T} (h : st p = some (.lst xs)) : ∃ vs, H p = some (.lst vs) ∧ Reps K G vs xs := by
  obtain ⟨_, o, q2, q3⟩ := r.mem _ _ h
  cases q3 with
  | lst q => exact ⟨_, q2, q⟩
theorem Rel.dk (r : Rel K H st G) {xs : List (Key × T)} (h : st p = some (.dk xs)) : ∃ vs, H p = some (.dK vs) ∧ PReps K G vs xs := by
  obtain ⟨_, o, q2, q3⟩ := r.mem _ _ h
  cases q3 with
  | dk q => exact ⟨_, q2, q⟩
theorem Rel.dt (r : Rel K H st G) {xs : List (List Key × T)} (h : st p = some (.dt xs)) : ∃ vs, H p = some (.dT vs) ∧ PReps K G vs xs := by
  obtain ⟨_, o, q2, q3⟩ := r.mem _ _ h
  cases q3 with
  | dt q => exact ⟨_, q2, q⟩
theorem Rel.ins (r : Rel K H st G) {C dx : Addr} {xs : List (Str × T)} (h : st p = some (.ins C dx xs)) : ∃ vs, H p = some (.ins C dx vs) ∧ PReps K G vs xs := by
  obtain ⟨_, o, q2, q3⟩ := r.mem _ _ h
  cases q3 with
  | ins q => exact ⟨_, q2, q⟩
theorem Rel.raw (r : Rel K H st G) {o : HO} (h : st p = some (.raw o)) : H p = some o := by
  obtain ⟨_, o, q2, q3⟩ := r.mem _ _ h
  cases q3 with
  | raw => exact q2
end

/-! ### environments, what is wanted -/
abbrev En := List (Option T)
structure ERel (K : PySem.W.Frag) (G : Hp) (σ : L2.St) (env : En) : Prop where
  len : σ.length = env.length
  get : ∀ (i : Nat) (x : T), env[i]? = some (some x) → ∃ v, σ[i]? = some (some v) ∧ Rep K G v x
theorem ERel.mono {K : PySem.W.Frag} {G G' : Hp} {σ : L2.St} {env : En} (e : Ex G G') (h : ERel K G σ env) : ERel K G' σ env := ⟨h.len, fun i x q => let ⟨v, a, b⟩ := h.get i x q; ⟨v, a, b.mono e⟩⟩
theorem ERel.set {K : PySem.W.Frag} {G : Hp} {σ : L2.St} {env : En} (h : ERel K G σ env) {v : V} {x : T} (r : Rep K G v x) (i : Nat) : ERel K G (σ.set i (some v)) (env.set i (some x)) := by
  refine ⟨by rw [List.length_set, List.length_set]; exact h.len, fun j y q => ?_⟩
  by_cases e : i = j
  · subst e
    rw [List.getElem?_set] at q
    simp only [if_true] at q
    split at q
    · rename_i hl
      cases q
      exact ⟨v, by rw [List.getElem?_set]; simp [h.len, hl], r⟩
    · cases q
  · rw [List.getElem?_set_ne e] at q
    rw [List.getElem?_set_ne e]
    exact h.get j y q
abbrev TQ := T → Sto → Prop
abbrev RE := En → Sto → TQ → Prop
abbrev RT := En → Sto → (Bool → Sto → Prop) → Prop
abbrev RA := En → Sto → (List T → Sto → Prop) → Prop
abbrev RO := En → Sto → (Option Int → Sto → Prop) → Prop
structure Ends3 where
  nx : En → Sto → Prop
  rt : TQ
  bk : En → Sto → Prop := fun _ _ => False
  ct : En → Sto → Prop := fun _ _ => False
abbrev RS := Ends3 → En → Sto → Prop
abbrev RG := T → En → Sto → (En → Sto → Prop) → Prop
abbrev RGs := List T → En → Sto → (En → Sto → Prop) → Prop
section
variable (K : KG) (G0 : Hp)
def liftV (Q : TQ) : VK := fun v H => ∃ t st G, Ex G0 G ∧ Rel K H st G ∧ Rep K G v t ∧ Q t st
def liftB (Q : Bool → Sto → Prop) : Bool → Hp → Prop := fun b H => ∃ st G, Ex G0 G ∧ Rel K H st G ∧ Q b st
def liftA (Q : List T → Sto → Prop) : List V → Hp → Prop := fun vs H => ∃ ts st G, Ex G0 G ∧ Rel K H st G ∧ Reps K G vs ts ∧ Q ts st
def liftO (Q : Option Int → Sto → Prop) : Option Int → Hp → Prop := fun o H => ∃ st G, Ex G0 G ∧ Rel K H st G ∧ Q o st
def liftN (P : En → Sto → Prop) : L2.St → Hp → Prop := fun σ H => ∃ env st G, Ex G0 G ∧ Rel K H st G ∧ ERel K G σ env ∧ P env st
end
def eOf (K : KG) (r : RE) : TE := fun σ H Q => ∃ G env st Q3, Rel K H st G ∧ ERel K G σ env ∧ r env st Q3 ∧ ∀ v H', liftV K G Q3 v H' → Q v H'
def bOf (K : KG) (r : RT) : TT := fun σ H Q => ∃ G env st Q3, Rel K H st G ∧ ERel K G σ env ∧ r env st Q3 ∧ ∀ v H', liftB K G Q3 v H' → Q v H'
def aOf (K : KG) (r : RA) : TA := fun σ H Q => ∃ G env st Q3, Rel K H st G ∧ ERel K G σ env ∧ r env st Q3 ∧ ∀ v H', liftA K G Q3 v H' → Q v H'
def oOf (K : KG) (r : RO) : TO := fun σ H Q => ∃ G env st Q3, Rel K H st G ∧ ERel K G σ env ∧ r env st Q3 ∧ ∀ v H', liftO K G Q3 v H' → Q v H'
structure DLe (K : KG) (G : Hp) (D3 : Ends3) (D : Ends) : Prop where
  nx : ∀ σ H, liftN K G D3.nx σ H → D.nx σ H
  rt : ∀ v H, liftV K G D3.rt v H → D.rt v H
  bk : ∀ σ H, liftN K G D3.bk σ H → D.bk σ H
  ct : ∀ σ H, liftN K G D3.ct σ H → D.ct σ H
def sOf (K : KG) (r : RS) : TS := fun D σ H => ∃ G env st D3, Rel K H st G ∧ ERel K G σ env ∧ r D3 env st ∧ DLe K G D3 D
def gOf (K : KG) (r : RG) : TG := fun v σ H Q => ∃ G env st t P, Rel K H st G ∧ ERel K G σ env ∧ Rep K G v t ∧ r t env st P ∧ ∀ σ' H', liftN K G P σ' H' → Q σ' H'
def gsOf (K : KG) (r : RGs) : TGs := fun vs σ H Q => ∃ G env st ts P, Rel K H st G ∧ ERel K G σ env ∧ Reps K G vs ts ∧ r ts env st P ∧ ∀ σ' H', liftN K G P σ' H' → Q σ' H'
abbrev LE (X : Cy) (e : Expr) (r : RE) : Prop := PE X e (eOf X.kg r)
abbrev LT (X : Cy) (e : Expr) (r : RT) : Prop := PT X e (bOf X.kg r)
abbrev LW (X : Cy) (e : Expr) (r : RT) : Prop := PW X e (bOf X.kg r)
abbrev LA (X : Cy) (es : List Expr) (r : RA) : Prop := PA X es (aOf X.kg r)
abbrev LO (X : Cy) (e : Option Expr) (r : RO) : Prop := PO X e (oOf X.kg r)
abbrev LS (X : Cy) (s : Stmt) (r : RS) : Prop := PS X s (sOf X.kg r)
abbrev LSs (X : Cy) (s : List Stmt) (r : RS) : Prop := PSs X s (sOf X.kg r)
abbrev LG (X : Cy) (e : Expr) (r : RG) : Prop := PG X e (gOf X.kg r)
abbrev LGs (X : Cy) (es : List Expr) (r : RGs) : Prop := PGs X es (gsOf X.kg r)
section
variable {X : Cy}
theorem PE.wk {e : Expr} {t t' : TE} (h : PE X e t) (k : ∀ σ H Q, t' σ H Q → t σ H Q) : PE X e t' := ⟨fun pins s σ H Q I q => h.run pins s σ H Q I (k σ H Q q)⟩
theorem PT.wk {e : Expr} {t t' : TT} (h : PT X e t) (k : ∀ σ H Q, t' σ H Q → t σ H Q) : PT X e t' := ⟨fun pins s σ H Q I q => h.run pins s σ H Q I (k σ H Q q)⟩
theorem PW.wk {e : Expr} {t t' : TT} (h : PW X e t) (k : ∀ σ H Q, t' σ H Q → t σ H Q) : PW X e t' := ⟨fun wh pins s σ H Q I q => h.run wh pins s σ H Q I (k σ H Q q)⟩
theorem PA.wk {e : List Expr} {t t' : TA} (h : PA X e t) (k : ∀ σ H Q, t' σ H Q → t σ H Q) : PA X e t' := ⟨fun pos pins s σ H Q I q => h.run pos pins s σ H Q I (k σ H Q q)⟩
theorem PO.wk {e : Option Expr} {t t' : TO} (h : PO X e t) (k : ∀ σ H Q, t' σ H Q → t σ H Q) : PO X e t' := by
  obtain ⟨run⟩ := h
  exact ⟨fun pins s σ H Q I q => run pins s σ H Q I (k σ H Q q)⟩
theorem PS.wk {e : Stmt} {t t' : TS} (h : PS X e t) (k : ∀ D σ H, t' D σ H → t D σ H) : PS X e t' := ⟨fun pins s σ H D I q => h.run pins s σ H D I (k D σ H q)⟩
theorem PSs.wk {e : List Stmt} {t t' : TS} (h : PSs X e t) (k : ∀ D σ H, t' D σ H → t D σ H) : PSs X e t' := ⟨fun pins s σ H D I q => h.run pins s σ H D I (k D σ H q)⟩
end
end L3

/-! L3: expressions. -/
namespace L3
open PySem PySem.Spec PyProof.Rows L2
open Evl (Ex)
open PySem.SeqAt

section
variable {K : KG} {G H : Hp} {st : Sto} {σ : L2.St} {env : En}
theorem eOf_go {r : RE} {Q3 : TQ} {Q : VK} (R : Rel K H st G) (N : ERel K G σ env) (h : r env st Q3)
    (k : ∀ t st' G' H' v, Ex G G' → Rel K H' st' G' → Rep K G' v t → Q3 t st' → Q v H') : eOf K r σ H Q :=
  ⟨G, env, st, Q3, R, N, h, fun v H' ⟨t, st', G', e, R', rp, q⟩ => k t st' G' H' v e R' rp q⟩
theorem bOf_go {r : RT} {Q3 : Bool → Sto → Prop} {Q : Bool → Hp → Prop} (R : Rel K H st G) (N : ERel K G σ env) (h : r env st Q3)
    (k : ∀ b st' G' H', Ex G G' → Rel K H' st' G' → Q3 b st' → Q b H') : bOf K r σ H Q :=
  ⟨G, env, st, Q3, R, N, h, fun b H' ⟨st', G', e, R', q⟩ => k b st' G' H' e R' q⟩
theorem aOf_go {r : RA} {Q3 : List T → Sto → Prop} {Q : List V → Hp → Prop} (R : Rel K H st G) (N : ERel K G σ env) (h : r env st Q3)
    (k : ∀ ts st' G' H' vs, Ex G G' → Rel K H' st' G' → Reps K G' vs ts → Q3 ts st' → Q vs H') : aOf K r σ H Q :=
  ⟨G, env, st, Q3, R, N, h, fun v H' ⟨t, st', G', e, R', rp, q⟩ => k t st' G' H' v e R' rp q⟩
theorem oOf_go {r : RO} {Q3 : Option Int → Sto → Prop} {Q : Option Int → Hp → Prop} (R : Rel K H st G) (N : ERel K G σ env) (h : r env st Q3)
    (k : ∀ o st' G' H', Ex G G' → Rel K H' st' G' → Q3 o st' → Q o H') : oOf K r σ H Q :=
  ⟨G, env, st, Q3, R, N, h, fun b H' ⟨st', G', e, R', q⟩ => k b st' G' H' e R' q⟩
theorem liftV.mk {Q : TQ} {v : V} {t : T} (R : Rel K H st G) (r : Rep K G v t) (q : Q t st) : liftV K G Q v H := ⟨t, st, G, Ex.refl G, R, r, q⟩
theorem liftV.up {G' : Hp} {Q : TQ} {v : V} (e : Ex G G') (h : liftV K G' Q v H) : liftV K G Q v H := by
  obtain ⟨t, st, G2, e2, R, r, q⟩ := h
  exact ⟨t, st, G2, e.trans e2, R, r, q⟩
theorem liftN.up {G' : Hp} {P : En → Sto → Prop} (e : Ex G G') (h : liftN K G' P σ H) : liftN K G P σ H := by
  obtain ⟨env, st, G2, e2, R, N, q⟩ := h
  exact ⟨env, st, G2, e.trans e2, R, N, q⟩
theorem liftN.mk {P : En → Sto → Prop} (R : Rel K H st G) (N : ERel K G σ env) (q : P env st) : liftN K G P σ H := ⟨env, st, G, Ex.refl G, R, N, q⟩
theorem liftV.mono {P Q : TQ} {v : V} (k : ∀ t st, P t st → Q t st) (h : liftV K G P v H) : liftV K G Q v H := by
  obtain ⟨t, st, G2, e2, R, r, q⟩ := h
  exact ⟨t, st, G2, e2, R, r, k _ _ q⟩
theorem liftN.mono {P Q : En → Sto → Prop} (k : ∀ t st, P t st → Q t st) (h : liftN K G P σ H) : liftN K G Q σ H := by
  obtain ⟨t, st, G2, e2, R, r, q⟩ := h
  exact ⟨t, st, G2, e2, R, r, k _ _ q⟩
end

/-! ### names, constants -/
def rVar (i : Nat) : RE := fun env st Q => match env[i]? with | some (some t) => Q t st | _ => False
def rC (t : T) : RE := fun _ st Q => Q t st
section
variable {X : Cy}
theorem le_c {e : Expr} {v : V} {t : T} (h : PE X e (tC v)) (r : ∀ G, Rep X.K G v t) : LE X e (rC t) := PE.wk h fun σ H Q ⟨G, env, st, Q3, R, N, q, k⟩ => k v H (liftV.mk R (r G) q)
theorem le_int {i : Int} {j pos} : LE X (.Constant (.int i) j pos) (rC (.int i)) := le_c pe_int fun _ => .int i
theorem le_bl {b j pos} : LE X (.Constant (.bool b) j pos) (rC (.bl b)) := le_c pe_bl fun _ => .bl b
theorem le_non {j pos} : LE X (.Constant .none j pos) (rC .non) := le_c pe_non fun _ => .non
theorem le_str {x j pos} : LE X (.Constant (.str x) j pos) (rC (.str x)) := le_c pe_str fun _ => .str x
theorem lv (i : Nat) {x : Str} {pos : Pos} (hN : X.N[i]? = some x := by rfl) (hv : Vis X.env.scope x := by first | exact Or.inl rfl | exact Or.inr (Or.inl rfl) | exact Or.inr (Or.inr rfl)) (hd : (x == ("__debug__" : Str)) = false := by decide)
    (hcd : (x == ("__classdict__" : Str)) = false := by decide) : LE X (.Name x pos) (rVar i) := PE.wk (pv i hN hv hd hcd) fun σ H Q ⟨G, env, st, Q3, R, N, q, k⟩ => by
  unfold rVar at q
  split at q
  · rename_i t e
    obtain ⟨v, h1, h2⟩ := N.get _ _ e
    exact ⟨v, h1, k v H (liftV.mk R h2 q)⟩
  · exact q.elim
theorem le_glob {x : Str} {v : V} {u : Value} {t : T} {pos : Pos} (hg : Gl X x) (hm : X.mg x = some u) (r : RelV v u) (rt : ∀ G, Rep X.K G v t) (hd : (x == ("__debug__" : Str)) = false := by decide) : LE X (.Name x pos) (rC t) :=
  le_c (pe_glob hg hm r hd) rt
end

/-! ### operators by values -/
abbrev RR := T → T → Sto → TQ → Prop
def r2 (rr : RR) (ra rb : RE) : RE := fun env st Q => ra env st fun x st1 => rb env st1 fun y st2 => rr x y st2 Q
def r1 (rr : T → Sto → TQ → Prop) (ra : RE) : RE := fun env st Q => ra env st fun x st1 => rr x st1 Q
def Val2 (K : KG) (r : R2) (rr : RR) : Prop := ∀ G H st x y v w Q3 Q, Rel K H st G → Rep K G v x → Rep K G w y → rr x y st Q3 → (∀ v' H', liftV K G Q3 v' H' → Q v' H') → r v w H Q
def Val1 (K : KG) (r : V → Hp → VK → Prop) (rr : T → Sto → TQ → Prop) : Prop := ∀ G H st x v Q3 Q, Rel K H st G → Rep K G v x → rr x st Q3 → (∀ v' H', liftV K G Q3 v' H' → Q v' H') → r v H Q
section
variable {X : Cy} {a b : Expr} {ra rb : RE} {pos : Pos}
theorem tOp_go {K : KG} {r : R2} {rr : RR} (hv : Val2 K r rr) (σ : L2.St) (H : Hp) (Q : VK) (h : eOf K (r2 rr ra rb) σ H Q) : tOp r (eOf K ra) (eOf K rb) σ H Q := by
  obtain ⟨G, env, st, Q3, R, N, q, k⟩ := h
  refine eOf_go R N q fun x st1 G1 H1 v e1 R1 rx q1 => eOf_go R1 (N.mono e1) q1 fun y st2 G2 H2 w e2 R2 ry q2 => ?_
  exact hv G2 H2 st2 x y v w Q3 Q R2 (rx.mono e2) ry q2 fun v' H' z => k v' H' (liftV.up (e1.trans e2) z)
theorem tUn_go {K : KG} {r : V → Hp → VK → Prop} {rr : T → Sto → TQ → Prop} (hv : Val1 K r rr) (σ : L2.St) (H : Hp) (Q : VK) (h : eOf K (r1 rr ra) σ H Q) : tUn r (eOf K ra) σ H Q := by
  obtain ⟨G, env, st, Q3, R, N, q, k⟩ := h
  exact eOf_go R N q fun x st1 G1 H1 v e1 R1 rx q1 => hv G1 H1 st1 x v Q3 Q R1 rx q1 fun v' H' z => k v' H' (liftV.up e1 z)
theorem le_op {op : Operator} {r : R2} {rr : RR} (ho : OpR X (binaryOp op) r) (hv : Val2 X.kg r rr) (ha : LE X a ra) (hb : LE X b rb) : LE X (.BinOp a op b pos) (r2 rr ra rb) := PE.wk (pe_op ho ha hb) (tOp_go hv)
theorem le_un {op : UnaryOp} {r : V → Hp → VK → Prop} {rr : T → Sto → TQ → Prop} (ho : UnR X (unaryOp op) r) (hv : Val1 X.kg r rr) (ha : LE X a ra) : LE X (.UnaryOp op a pos) (r1 rr ra) := PE.wk (pe_un ho ha) (tUn_go hv)
theorem le_cmp {op : CmpOp} {r : R2} {rr : RR} (ho : OpR X (compareOp op) r) (hv : Val2 X.kg r rr) (ha : LE X a ra) (hb : LE X b rb) (hm : behindInMarks op b = false) : LE X (.Compare a [op] [b] pos) (r2 rr ra rb) := PE.wk (pe_cmpR ho ha hb hm) (tOp_go hv)
theorem le_ixR {r : R2} {rr : RR} (ho : IxR X r) (hv : Val2 X.kg r rr) (ha : LE X a ra) (hb : LE X b rb) (hs : PlainIx b) : LE X (.Subscript a b pos) (r2 rr ra rb) := PE.wk (pe_ix ho ha hb hs) (tOp_go hv)
theorem Val2.or {K : KG} {r r' : R2} {rr : RR} (h : Val2 K r rr) : Val2 K (fun x y H Q => r x y H Q ∨ r' x y H Q) rr := fun G H st x y v w Q3 Q R rx ry q k => .inl (h G H st x y v w Q3 Q R rx ry q k)
end
/-- a list that may be read: a tree, or one of the store -/
def LV (st : Sto) (t : T) (xs : List T) : Prop := match t with | .lst ys => xs = ys | .loc p => st p = some (.lst xs) | _ => False
section
variable {K : KG} {G H : Hp} {st : Sto}
theorem LV.rd {t : T} {xs : List T} {v : V} (R : Rel K H st G) (r : Rep K G v t) (l : LV st t xs) : ∃ a vs, v = .ref a ∧ H a = some (.lst vs) ∧ Reps K G vs xs := by
  cases r with
  | lst h rs => cases l; exact ⟨_, _, rfl, R.sub _ _ h, rs⟩
  | loc a =>
    obtain ⟨vs, h, rs⟩ := R.lst (show st a = some (.lst xs) from l)
    exact ⟨_, _, rfl, h, rs⟩
  | _ => exact l.elim
end
def rrAdd : RR := fun x y st Q => match x, y with
  | .int i, .int j => Q (.int (i + j)) st
  | .str i, .str j => i.length + j.length ≤ sizeLine ∧ Q (.str (i ++ j)) st
  | .tup xs, .tup ys => xs.length + ys.length ≤ sizeLine ∧ Q (.tup (xs ++ ys)) st
  | x, y => ∃ xs ys, LV st x xs ∧ LV st y ys ∧ xs.length + ys.length ≤ sizeLine ∧ Q (.lst (xs ++ ys)) st
def rrSub : RR := fun x y st Q => match x, y with
  | .int i, .int j => Q (.int (i - j)) st
  | _, _ => False
def MulC (i j : Int) : Prop := CMul i j ∨ CMulW i j
def rrMul : RR := fun x y st Q => match x, y with
  | .int i, .int j => MulC i j ∧ Q (.int (i * j)) st
  | x, .int k => ∃ xs, LV st x xs ∧ -(2 ^ 63) ≤ k ∧ k < 2 ^ 63 ∧ xs.length * k.toNat ≤ sizeLine ∧ Q (.lst (List.replicate k.toNat xs).flatten) st
  | _, _ => False
def rrMod : RR := fun x y st Q => match x, y with
  | .int i, .int j => 0 < j ∧ Q (.int (i % j)) st
  | _, _ => False
def rrDiv : RR := fun x y st Q => match x, y with
  | .int i, .int j => CDivW i j ∧ Q (.int (i / j)) st
  | _, _ => False
def rrPow : RR := fun x y st Q => match x, y with
  | .int i, .int j => CPow i j ∧ Q (.int (i ^ j.toNat)) st
  | _, _ => False
def rrLt : RR := fun x y st Q => match x, y with
  | .int i, .int j => Q (.bl (decide (i < j))) st
  | _, _ => False
def rrLe : RR := fun x y st Q => match x, y with
  | .int i, .int j => Q (.bl (decide (i ≤ j))) st
  | _, _ => False
def rrGt : RR := fun x y st Q => match x, y with
  | .int i, .int j => Q (.bl (decide (j < i))) st
  | _, _ => False
def rrGe : RR := fun x y st Q => match x, y with
  | .int i, .int j => Q (.bl (decide (j ≤ i))) st
  | _, _ => False
def rrNeg : T → Sto → TQ → Prop := fun x st Q => match x with
  | .int i => Q (.int (-i)) st
  | _ => False
section
variable {K : KG}
theorem v2_I0 {g : Int → Int → V} {gt : Int → Int → T} {rr : RR} (hg : ∀ G i j, Rep K G (g i j) (gt i j)) (hr : ∀ x y st Q, rr x y st Q → ∃ i j, x = .int i ∧ y = .int j ∧ Q (gt i j) st) : Val2 K (rI0 g) rr := fun G H st x y v w Q3 Q R rx ry q k => by
  obtain ⟨i, j, rfl, rfl, q'⟩ := hr x y st Q3 q
  cases rx; cases ry
  exact ⟨i, j, rfl, rfl, k _ _ (liftV.mk R (hg G i j) q')⟩
theorem v2_I {C : Int → Int → Prop} {g : Int → Int → V} {gt : Int → Int → T} {rr : RR} (hg : ∀ G i j, Rep K G (g i j) (gt i j)) (hr : ∀ x y st Q, rr x y st Q → ∃ i j, x = .int i ∧ y = .int j ∧ C i j ∧ Q (gt i j) st) : Val2 K (rI C g) rr := fun G H st x y v w Q3 Q R rx ry q k => by
  obtain ⟨i, j, rfl, rfl, c, q'⟩ := hr x y st Q3 q
  cases rx; cases ry
  exact ⟨i, j, rfl, rfl, c, k _ _ (liftV.mk R (hg G i j) q')⟩
theorem v_sub : Val2 K (rI0 fun i j => .int (i - j)) rrSub := v2_I0 (gt := fun i j => .int (i - j)) (fun _ _ _ => .int _) fun x y st Q h => by
  unfold rrSub at h
  split at h
  · exact ⟨_, _, rfl, rfl, h⟩
  · exact h.elim
theorem v_mod : Val2 K (rI (fun _ j => 0 < j) fun i j => .int (i % j)) rrMod := v2_I (gt := fun i j => .int (i % j)) (fun _ _ _ => .int _) fun x y st Q h => by
  unfold rrMod at h
  split at h
  · exact ⟨_, _, rfl, rfl, h.1, h.2⟩
  · exact h.elim
theorem v_div : Val2 K (rI CDivW fun i j => .int (i / j)) rrDiv := v2_I (gt := fun i j => .int (i / j)) (fun _ _ _ => .int _) fun x y st Q h => by
  unfold rrDiv at h
  split at h
  · exact ⟨_, _, rfl, rfl, h.1, h.2⟩
  · exact h.elim
theorem v_pow : Val2 K (rI CPow fun i j => .int (i ^ j.toNat)) rrPow := v2_I (gt := fun i j => .int (i ^ j.toNat)) (fun _ _ _ => .int _) fun x y st Q h => by
  unfold rrPow at h
  split at h
  · exact ⟨_, _, rfl, rfl, h.1, h.2⟩
  · exact h.elim
theorem v_lt : Val2 K (rI0 fun i j => .bl (decide (i < j))) rrLt := v2_I0 (gt := fun i j => .bl (decide (i < j))) (fun _ _ _ => .bl _) fun x y st Q h => by
  unfold rrLt at h
  split at h
  · exact ⟨_, _, rfl, rfl, h⟩
  · exact h.elim
theorem v_le : Val2 K (rI0 fun i j => .bl (decide (i ≤ j))) rrLe := v2_I0 (gt := fun i j => .bl (decide (i ≤ j))) (fun _ _ _ => .bl _) fun x y st Q h => by
  unfold rrLe at h
  split at h
  · exact ⟨_, _, rfl, rfl, h⟩
  · exact h.elim
theorem v_gt : Val2 K (rI0 fun i j => .bl (decide (j < i))) rrGt := v2_I0 (gt := fun i j => .bl (decide (j < i))) (fun _ _ _ => .bl _) fun x y st Q h => by
  unfold rrGt at h
  split at h
  · exact ⟨_, _, rfl, rfl, h⟩
  · exact h.elim
theorem v_ge : Val2 K (rI0 fun i j => .bl (decide (j ≤ i))) rrGe := v2_I0 (gt := fun i j => .bl (decide (j ≤ i))) (fun _ _ _ => .bl _) fun x y st Q h => by
  unfold rrGe at h
  split at h
  · exact ⟨_, _, rfl, rfl, h⟩
  · exact h.elim
theorem v_neg : Val1 K (rU fun i => .int (-i)) rrNeg := fun G H st x v Q3 Q R rx q k => by
  unfold rrNeg at q
  split at q
  · cases rx
    exact ⟨_, rfl, k _ _ (liftV.mk R (.int _) q)⟩
  · exact q.elim
end
section
variable {X : Cy} {a b : Expr} {ra rb : RE} {pos : Pos}
def rStrAdd : R2 := fun x y H Q => ∃ i j, x = .str i ∧ y = .str j ∧ i.length + j.length ≤ sizeLine ∧ Q (.str (i ++ j)) H
def rAddAll (K : PySem.W.Frag) : R2 := fun x y H Q => (rI0 fun i j => .int (i + j)) x y H Q ∨ (rStrAdd x y H Q ∨ (rCatA K x y H Q ∨ rCat x y H Q))
theorem op_addAll : OpR X (binaryOp .Add) (rAddAll X.K) := op_add.or (OpR.or (show OpR X (binaryOp .Add) rStrAdd from op_add_str) (op_catA.or op_cat))
theorem v_add {K : KG} : Val2 K (rAddAll K) rrAdd := fun G H st x y v w Q3 Q R rx ry q k => by
  unfold rrAdd at q
  split at q
  · cases rx; cases ry
    exact .inl ⟨_, _, rfl, rfl, k _ _ (liftV.mk R (.int _) q)⟩
  · cases rx; cases ry
    exact .inr (.inl ⟨_, _, rfl, rfl, q.1, k _ _ (liftV.mk R (.str _) q.2)⟩)
  · cases rx with
    | tup h1 r1 =>
    cases ry with
    | tup h2 r2 =>
    refine .inr (.inr (.inl ⟨_, _, _, _, rfl, rfl, Evl.st_of (R.sub _ _ h1), Evl.st_of (R.sub _ _ h2), by rw [r1.length, r2.length]; exact q.1, fun e => ?_, fun _ e => ?_, fun _ _ p hp => ?_⟩))
    · subst e
      cases r1
      exact k _ _ (liftV.mk R (.tup h2 r2) q.2)
    · subst e
      cases r2
      have q2 := q.2
      rw [List.append_nil] at q2
      exact k _ _ (liftV.mk R (.tup h1 r1) q2)
    · exact k _ _ ⟨_, _, _, Ex.new (R.noG hp), R.newG hp, .tup upd_same ((r1.append r2).mono (Ex.new (R.noG hp))), q.2⟩
  · obtain ⟨xs, ys, l1, l2, hz, q⟩ := q
    obtain ⟨a1, vs1, rfl, h1, r1⟩ := l1.rd R rx
    obtain ⟨a2, vs2, rfl, h2, r2⟩ := l2.rd R ry
    refine .inr (.inr (.inr ⟨_, _, _, _, rfl, rfl, h1, h2, by rw [r1.length, r2.length]; exact hz, fun p hp => ?_⟩))
    have e := Ex.new (o := .lst (vs1 ++ vs2)) (R.noG hp)
    exact k _ _ ⟨_, _, _, e, R.newG hp, .lst upd_same ((r1.append r2).mono e), q⟩
def rMulAll : R2 := fun x y H Q => (rI CMul fun i j => .int (i * j)) x y H Q ∨ ((rI CMulW fun i j => .int (i * j)) x y H Q ∨ rRep x y H Q)
theorem op_mulAll : OpR X (binaryOp .Mult) rMulAll := op_mul.or (op_mulW.or op_rep)
theorem v_mul {K : KG} : Val2 K rMulAll rrMul := fun G H st x y v w Q3 Q R rx ry q k => by
  unfold rrMul at q
  split at q
  · cases rx; cases ry
    obtain ⟨c | c, q⟩ := q
    · exact .inl ⟨_, _, rfl, rfl, c, k _ _ (liftV.mk R (.int _) q)⟩
    · exact .inr (.inl ⟨_, _, rfl, rfl, c, k _ _ (liftV.mk R (.int _) q)⟩)
  · cases ry
    obtain ⟨xs, l1, z1, z2, hz, q⟩ := q
    obtain ⟨a1, vs1, rfl, h1, r1⟩ := l1.rd R rx
    refine .inr (.inr ⟨_, _, _, rfl, rfl, h1, z1, z2, by rw [r1.length]; exact hz, fun p hp => ?_⟩)
    exact k _ _ ⟨_, _, _, Ex.new (R.noG hp), R.newG hp, .lst upd_same ((r1.rep _).mono (Ex.new (R.noG hp))), q⟩
  · exact q.elim
theorem le_add (ha : LE X a ra) (hb : LE X b rb) : LE X (.BinOp a .Add b pos) (r2 rrAdd ra rb) := le_op op_addAll v_add ha hb
theorem le_sub (ha : LE X a ra) (hb : LE X b rb) : LE X (.BinOp a .Sub b pos) (r2 rrSub ra rb) := le_op op_sub v_sub ha hb
theorem le_mul (ha : LE X a ra) (hb : LE X b rb) : LE X (.BinOp a .Mult b pos) (r2 rrMul ra rb) := le_op op_mulAll v_mul ha hb
theorem le_mod (ha : LE X a ra) (hb : LE X b rb) : LE X (.BinOp a .Mod b pos) (r2 rrMod ra rb) := le_op op_mod v_mod ha hb
theorem le_div (ha : LE X a ra) (hb : LE X b rb) : LE X (.BinOp a .FloorDiv b pos) (r2 rrDiv ra rb) := le_op op_fdivW v_div ha hb
theorem le_pow (ha : LE X a ra) (hb : LE X b rb) : LE X (.BinOp a .Pow b pos) (r2 rrPow ra rb) := le_op op_pow v_pow ha hb
theorem le_neg (ha : LE X a ra) : LE X (.UnaryOp .USub a pos) (r1 rrNeg ra) := le_un un_neg v_neg ha
theorem le_lt (ha : LE X a ra) (hb : LE X b rb) : LE X (.Compare a [.Lt] [b] pos) (r2 rrLt ra rb) := le_cmp op_lt v_lt ha hb (nomark _)
theorem le_le (ha : LE X a ra) (hb : LE X b rb) : LE X (.Compare a [.LtE] [b] pos) (r2 rrLe ra rb) := le_cmp op_le v_le ha hb (nomark _)
theorem le_gt (ha : LE X a ra) (hb : LE X b rb) : LE X (.Compare a [.Gt] [b] pos) (r2 rrGt ra rb) := le_cmp op_gt v_gt ha hb (nomark _)
theorem le_ge (ha : LE X a ra) (hb : LE X b rb) : LE X (.Compare a [.GtE] [b] pos) (r2 rrGe ra rb) := le_cmp op_ge v_ge ha hb (nomark _)
end

/-! ### data: ==, !=, in, not in over what reads as data -/
mutual
inductive DV (st : Sto) : Nat → T → PyData → Prop
  | non {n : Nat} : DV st n .non .none
  | bl {n : Nat} (b : Bool) : DV st n (.bl b) (.bool b)
  | int {n : Nat} (i : Int) : DV st n (.int i) (.int i)
  | str {n : Nat} (x : Str) : DV st n (.str x) (.str x)
  | lst {n : Nat} {xs : List T} {ds : List PyData} : DVs st n xs ds → DV st (n + 1) (.lst xs) (.list ds)
  | tup {n : Nat} {xs : List T} {ds : List PyData} : DVs st n xs ds → DV st (n + 1) (.tup xs) (.tuple ds)
  | ktup {n : Nat} {xs : List T} {ds : List PyData} : DVs st n xs ds → DV st (n + 1) (.ktup xs) (.tuple ds)
  | loc {n : Nat} {p : Addr} {xs : List T} {ds : List PyData} : st p = some (.lst xs) → DVs st n xs ds → DV st (n + 1) (.loc p) (.list ds)
inductive DVs (st : Sto) : Nat → List T → List PyData → Prop
  | nil {n : Nat} : DVs st n [] []
  | cons {n : Nat} {x : T} {xs : List T} {d : PyData} {ds : List PyData} : DV st n x d → DVs st n xs ds → DVs st n (x :: xs) (d :: ds)
end
section
variable {K : KG} {G H : Hp} {st st' : Sto}
mutual
theorem DV.dp (R : Rel K H st G) : ∀ {n : Nat} {t : T} {d : PyData}, DV st n t d → ∀ {v : V}, Rep K G v t → Dp K H v d
  | _, _, _, .non, _, r => by cases r; exact .non
  | _, _, _, .bl b, _, r => by cases r; exact .bl b
  | _, _, _, .int i, _, r => by cases r; exact .int i
  | _, _, _, .str x, _, r => by cases r; exact .str x
  | _, _, _, .lst h, _, r => by cases r with | lst a r => exact .lst (SqL.of (R.sub _ _ a)) (DVs.dp R h r)
  | _, _, _, .tup h, _, r => by cases r with | tup a r => exact .tup (Evl.st_of (R.sub _ _ a)) (DVs.dp R h r)
  | _, _, _, .ktup h, _, r => by cases r with | ktup a r => exact .tup (Evl.ex_t R.sub a) (DVs.dp R h r)
  | _, _, _, .loc e h, _, r => by
    cases r with
    | loc a =>
    obtain ⟨vs, h1, r⟩ := R.lst e
    exact .lst (SqL.of h1) (DVs.dp R h r)
theorem DVs.dp (R : Rel K H st G) : ∀ {n : Nat} {ts : List T} {ds : List PyData}, DVs st n ts ds → ∀ {vs : List V}, Reps K G vs ts → DpAll K H vs ds
  | _, _, _, .nil, _, r => by cases r; exact .nil
  | _, _, _, .cons h t, _, r => by cases r with | cons a r => exact .cons (DV.dp R h a) (DVs.dp R t r)
end
mutual
theorem DV.plain : ∀ {n : Nat} {t : T} {d : PyData}, DV st n t d → d.plain = true ∧ d.depth ≤ n
  | _, _, _, .non => ⟨rfl, Nat.zero_le _⟩
  | _, _, _, .bl _ => ⟨rfl, Nat.zero_le _⟩
  | _, _, _, .int _ => ⟨rfl, Nat.zero_le _⟩
  | _, _, _, .str _ => ⟨rfl, Nat.zero_le _⟩
  | _, _, _, .lst h => ⟨(DVs.plain h).1, by have := (DVs.plain h).2; simp only [PyData.depth]; omega⟩
  | _, _, _, .tup h => ⟨(DVs.plain h).1, by have := (DVs.plain h).2; simp only [PyData.depth]; omega⟩
  | _, _, _, .ktup h => ⟨(DVs.plain h).1, by have := (DVs.plain h).2; simp only [PyData.depth]; omega⟩
  | _, _, _, .loc _ h => ⟨(DVs.plain h).1, by have := (DVs.plain h).2; simp only [PyData.depth]; omega⟩
theorem DVs.plain : ∀ {n : Nat} {ts : List T} {ds : List PyData}, DVs st n ts ds → PyData.plainAll ds = true ∧ PyData.depthAll ds ≤ n
  | _, _, _, .nil => ⟨rfl, Nat.zero_le _⟩
  | _, _, _, .cons h t => ⟨by simp only [PyData.plainAll, (DV.plain h).1, (DVs.plain t).1, Bool.and_self], by
    have h1 := (DV.plain h).2
    have h2 := (DVs.plain t).2
    simp only [PyData.depthAll]
    omega⟩
end
mutual
theorem DV.mono (e : Sub st st') : ∀ {n : Nat} {t : T} {d : PyData}, DV st n t d → DV st' n t d
  | _, _, _, .non => .non
  | _, _, _, .bl b => .bl b
  | _, _, _, .int i => .int i
  | _, _, _, .str x => .str x
  | _, _, _, .lst h => .lst (DVs.mono e h)
  | _, _, _, .tup h => .tup (DVs.mono e h)
  | _, _, _, .ktup h => .ktup (DVs.mono e h)
  | _, _, _, .loc q h => .loc (e _ _ q) (DVs.mono e h)
theorem DVs.mono (e : Sub st st') : ∀ {n : Nat} {t : List T} {d : List PyData}, DVs st n t d → DVs st' n t d
  | _, _, _, .nil => .nil
  | _, _, _, .cons h t => .cons (DV.mono e h) (DVs.mono e t)
end
end
def rEqP (K : PySem.W.Frag) : R2 := fun x y H Q => ∃ d e, Dp K H x d ∧ Dp K H y e ∧ d.plain = true ∧ e.plain = true ∧ d.depth ≤ 64 ∧ Q (.bl (PyData.eqv d e)) H
def rNeP (K : PySem.W.Frag) : R2 := fun x y H Q => ∃ d e, Dp K H x d ∧ Dp K H y e ∧ d.plain = true ∧ e.plain = true ∧ d.depth ≤ 64 ∧ Q (.bl (!PyData.eqv d e)) H
def rInP (K : PySem.W.Frag) (neg : Bool) : R2 := fun x y H Q => ∃ d e ds, Dp K H x d ∧ Dp K H y e ∧ (e = .list ds ∨ e = .tuple ds) ∧ d.plain = true ∧ PyData.plainAll ds = true ∧ d.depth ≤ 64 ∧ Q (.bl (if neg then !(ds.any fun y => PyData.eqv y d) else ds.any fun y => PyData.eqv y d)) H
section
variable {X : Cy}
theorem op_eqP (hu : X.A.units + 66 < cLine) : OpR X (compareOp .Eq) (rEqP X.K) := by
  intro pins s σ H x y v u Q I rx ry h
  obtain ⟨d, e, hd, he, sd, se, hz, q⟩ := h
  obtain ⟨as, r1⟩ := Dp.reads I d x v hd rx
  obtain ⟨bs, r2⟩ := Dp.reads I e y u he ry
  exact eq_plain r1 r2 sd se (by have := Nat.min_le_left d.depth e.depth; omega) ⟨.bl _, H, I, rfl, q⟩
theorem op_neP (hu : X.A.units + 66 < cLine) : OpR X (compareOp .NotEq) (rNeP X.K) := by
  intro pins s σ H x y v u Q I rx ry h
  obtain ⟨d, e, hd, he, sd, se, hz, q⟩ := h
  obtain ⟨as, r1⟩ := Dp.reads I d x v hd rx
  obtain ⟨bs, r2⟩ := Dp.reads I e y u he ry
  exact ne_plain r1 r2 sd se (by have := Nat.min_le_left d.depth e.depth; omega) ⟨.bl _, H, I, rfl, q⟩
theorem op_inP (hu : X.A.units + 66 < cLine) : OpR X (compareOp .In) (rInP X.K false) := by
  intro pins s σ H x y v u Q I rx ry h
  obtain ⟨d, e, ds, hd, he, hds, sd, se, hz, q⟩ := h
  obtain ⟨as, r1⟩ := Dp.reads I d x v hd rx
  obtain ⟨bs, r2⟩ := Dp.reads I e y u he ry
  rcases hds with rfl | rfl
  · exact in_list_data r2 r1 se sd (by have := Nat.min_le_right (PyData.depthAll ds) d.depth; omega) ⟨.bl _, H, I, rfl, q⟩
  · exact in_tuple_data r2 r1 se sd (by have := Nat.min_le_right (PyData.depthAll ds) d.depth; omega) ⟨.bl _, H, I, rfl, q⟩
theorem op_ninP (hu : X.A.units + 66 < cLine) : OpR X (compareOp .NotIn) (rInP X.K true) := by
  intro pins s σ H x y v u Q I rx ry h
  obtain ⟨d, e, ds, hd, he, hds, sd, se, hz, q⟩ := h
  obtain ⟨as, r1⟩ := Dp.reads I d x v hd rx
  obtain ⟨bs, r2⟩ := Dp.reads I e y u he ry
  rcases hds with rfl | rfl
  · exact notIn_list_data r2 r1 se sd (by have := Nat.min_le_right (PyData.depthAll ds) d.depth; omega) ⟨.bl _, H, I, rfl, q⟩
  · exact notIn_tuple_data r2 r1 se sd (by have := Nat.min_le_right (PyData.depthAll ds) d.depth; omega) ⟨.bl _, H, I, rfl, q⟩
end
def rrEq : RR := fun x y st Q => ∃ d e, DV st 60 x d ∧ DV st 60 y e ∧ Q (.bl (PyData.eqv d e)) st
def rrNe : RR := fun x y st Q => ∃ d e, DV st 60 x d ∧ DV st 60 y e ∧ Q (.bl (!PyData.eqv d e)) st
def rrIn : RR := fun x y st Q => ∃ d e ds, DV st 60 x d ∧ DV st 60 y e ∧ (e = .list ds ∨ e = .tuple ds) ∧ Q (.bl (ds.any fun y => PyData.eqv y d)) st
def rrNotIn : RR := fun x y st Q => ∃ d e ds, DV st 60 x d ∧ DV st 60 y e ∧ (e = .list ds ∨ e = .tuple ds) ∧ Q (.bl (!(ds.any fun y => PyData.eqv y d))) st
theorem plain_items {e : PyData} {ds : List PyData} (h : e = .list ds ∨ e = .tuple ds) (p : e.plain = true) : PyData.plainAll ds = true := by
  rcases h with rfl | rfl <;> exact p
section
variable {K : KG}
theorem v_eq : Val2 K (rEqP K) rrEq := fun G H st x y v w Q3 Q R rx ry ⟨d, e, hd, he, q⟩ k => ⟨d, e, hd.dp R rx, he.dp R ry, hd.plain.1, he.plain.1, by have := hd.plain.2; omega, k _ _ (liftV.mk R (.bl _) q)⟩
theorem v_ne : Val2 K (rNeP K) rrNe := fun G H st x y v w Q3 Q R rx ry ⟨d, e, hd, he, q⟩ k => ⟨d, e, hd.dp R rx, he.dp R ry, hd.plain.1, he.plain.1, by have := hd.plain.2; omega, k _ _ (liftV.mk R (.bl _) q)⟩
theorem v_in : Val2 K (rInP K false) rrIn := fun G H st x y v w Q3 Q R rx ry ⟨d, e, ds, hd, he, hs, q⟩ k => ⟨d, e, ds, hd.dp R rx, he.dp R ry, hs, hd.plain.1, plain_items hs he.plain.1, by have := hd.plain.2; omega, k _ _ (liftV.mk R (.bl _) q)⟩
theorem v_nin : Val2 K (rInP K true) rrNotIn := fun G H st x y v w Q3 Q R rx ry ⟨d, e, ds, hd, he, hs, q⟩ k => ⟨d, e, ds, hd.dp R rx, he.dp R ry, hs, hd.plain.1, plain_items hs he.plain.1, by have := hd.plain.2; omega, k _ _ (liftV.mk R (.bl _) q)⟩
end
theorem hu66 {A : Around} {k : Nat} (hr : Room k A) : A.units + 66 < cLine := by have := hr.un; omega
section
variable {X : Cy} {a b : Expr} {ra rb : RE} {pos : Pos} {k : Nat}
theorem le_eq (hr : Room k X.A) (ha : LE X a ra) (hb : LE X b rb) : LE X (.Compare a [.Eq] [b] pos) (r2 rrEq ra rb) := le_cmp (op_eqP (hu66 hr)) v_eq ha hb (nomark _)
theorem le_ne (hr : Room k X.A) (ha : LE X a ra) (hb : LE X b rb) : LE X (.Compare a [.NotEq] [b] pos) (r2 rrNe ra rb) := le_cmp (op_neP (hu66 hr)) v_ne ha hb (nomark _)
theorem le_in (hr : Room k X.A) (ha : LE X a ra) (hb : LE X b rb) (hm : behindInMarks .In b = false := by rfl) : LE X (.Compare a [.In] [b] pos) (r2 rrIn ra rb) := le_cmp (op_inP (hu66 hr)) v_in ha hb hm
theorem le_nin (hr : Room k X.A) (ha : LE X a ra) (hb : LE X b rb) (hm : behindInMarks .NotIn b = false := by rfl) : LE X (.Compare a [.NotIn] [b] pos) (r2 rrNotIn ra rb) := le_cmp (op_ninP (hu66 hr)) v_nin ha hb hm
end
end L3

/-! L3: tests, displays, subscripts, calls, statements. -/
namespace L3
open PySem PySem.Spec PyProof.Rows L2
open Evl (Ex)

/-! ### tests -/
def rB (r : RE) : RT := fun env st Q => r env st fun t st1 => match t with | .bl b => Q b st1 | _ => False
def rAndT (r u : RT) : RT := fun env st Q => r env st fun b st1 => (b = true → u env st1 Q) ∧ (b = false → Q false st1)
def rOrT (r u : RT) : RT := fun env st Q => r env st fun b st1 => (b = true → Q true st1) ∧ (b = false → u env st1 Q)
def rNotT (r : RT) : RT := fun env st Q => r env st fun b st1 => Q (!b) st1
def rAndV (r u : RE) : RE := fun env st Q => r env st fun t st1 => match t with | .bl b => (b = true → u env st1 Q) ∧ (b = false → Q (.bl false) st1) | _ => False
def rOrV (r u : RE) : RE := fun env st Q => r env st fun t st1 => match t with | .bl b => (b = true → Q (.bl true) st1) ∧ (b = false → u env st1 Q) | _ => False
def rNotV (r : RE) : RE := fun env st Q => r env st fun t st1 => match t with | .bl b => Q (.bl (!b)) st1 | _ => False
def isNon : T → Bool | .non => true | _ => false
def rrIsN : T → Sto → TQ → Prop := fun x st Q => Q (.bl (isNon x)) st
def rrNotN : T → Sto → TQ → Prop := fun x st Q => Q (.bl (!isNon x)) st
def rrIsB : RR := fun x y st Q => match x, y with | .bl a, .bl b => Q (.bl (decide (a = b))) st | _, _ => False
def rrNotB : RR := fun x y st Q => match x, y with | .bl a, .bl b => Q (.bl (!decide (a = b))) st | _, _ => False
def rIfX (c : RT) (r u : RE) : RE := fun env st Q => c env st fun b st1 => (b = true → r env st1 Q) ∧ (b = false → u env st1 Q)
theorem Rep.isN {K : PySem.W.Frag} {G : Hp} {v : V} {t : T} (r : Rep K G v t) : decide (v = .non) = isNon t := by
  cases r <;> rfl
section
variable {X : Cy} {a b c : Expr} {ra rb rc : RE} {rt ru : RT} {pos : Pos} {rest : List Expr}
theorem lt_val {e : Expr} {r : RE} (h : LE X e r) (he : ∀ whole, isTrue e X.env whole = (do let v ← whole; standAt e.pos; holding [v] (truthy v)) := by intro _; rfl) : LT X e (rB r) :=
  PT.wk (pt_val h he) fun σ H Q ⟨G, env, st, Q3, R, N, q, k⟩ => eOf_go R N q fun t st' G' H' v e1 R1 rp q1 => by
    split at q1
    · cases rp; exact ⟨_, rfl, k _ _ ⟨st', G', e1, R1, q1⟩⟩
    · exact q1.elim
theorem lw_and1 (h : LT X a rt) : LW X (.BoolOp .And [a] pos) rt := pw_and1 h
theorem lw_or1 (h : LT X a rt) : LW X (.BoolOp .Or [a] pos) rt := pw_or1 h
theorem ite_and {b : Bool} {A B : Prop} (h : (b = true → A) ∧ (b = false → B)) : if b = true then A else B := by
  cases b with
  | true => exact h.1 rfl
  | false => exact h.2 rfl
theorem lw_and (ha : LT X a rt) (hb : LW X (.BoolOp .And (b :: rest) pos) ru) : LW X (.BoolOp .And (a :: b :: rest) pos) (rAndT rt ru) :=
  PW.wk (pw_and ha hb) fun σ H Q ⟨G, env, st, Q3, R, N, q, k⟩ => bOf_go R N q fun b st1 G1 H1 e1 R1 q1 => ite_and ⟨fun hb => bOf_go R1 (N.mono e1) (q1.1 hb) fun c st2 G2 H2 e2 R2 q2 => k _ _ ⟨st2, G2, e1.trans e2, R2, q2⟩, fun hb => k _ _ ⟨st1, G1, e1, R1, q1.2 hb⟩⟩
theorem lw_or (ha : LT X a rt) (hb : LW X (.BoolOp .Or (b :: rest) pos) ru) : LW X (.BoolOp .Or (a :: b :: rest) pos) (rOrT rt ru) :=
  PW.wk (pw_or ha hb) fun σ H Q ⟨G, env, st, Q3, R, N, q, k⟩ => bOf_go R N q fun b st1 G1 H1 e1 R1 q1 => ite_and ⟨fun hb => k _ _ ⟨st1, G1, e1, R1, q1.1 hb⟩, fun hb => bOf_go R1 (N.mono e1) (q1.2 hb) fun c st2 G2 H2 e2 R2 q2 => k _ _ ⟨st2, G2, e1.trans e2, R2, q2⟩⟩
theorem lt_w {e : Expr} (h : LW X e rt) : LT X e rt := PW.pt h
theorem lt_not (ha : LT X a rt) : LT X (.UnaryOp .Not a pos) (rNotT rt) :=
  PT.wk (pt_not ha) fun σ H Q ⟨G, env, st, Q3, R, N, q, k⟩ => bOf_go R N q fun b st1 G1 H1 e1 R1 q1 => k _ _ ⟨st1, G1, e1, R1, q1⟩
theorem le_one {op} (h : LE X a ra) : LE X (.BoolOp op [a] pos) ra := pe_one h
theorem le_and (ha : LE X a ra) (hb : LE X (.BoolOp .And (b :: rest) pos) rb) : LE X (.BoolOp .And (a :: b :: rest) pos) (rAndV ra rb) :=
  PE.wk (pe_and ha hb) fun σ H Q ⟨G, env, st, Q3, R, N, q, k⟩ => eOf_go R N q fun t st1 G1 H1 v e1 R1 rp q1 => by
    split at q1
    · cases rp
      exact ⟨_, rfl, ite_and ⟨fun hb => eOf_go R1 (N.mono e1) (q1.1 hb) fun c st2 G2 H2 w e2 R2 rp2 q2 => k _ _ ⟨c, st2, G2, e1.trans e2, R2, rp2, q2⟩, fun hb => k _ _ ⟨_, st1, G1, e1, R1, .bl _, q1.2 hb⟩⟩⟩
    · exact q1.elim
theorem le_or (ha : LE X a ra) (hb : LE X (.BoolOp .Or (b :: rest) pos) rb) : LE X (.BoolOp .Or (a :: b :: rest) pos) (rOrV ra rb) :=
  PE.wk (pe_or ha hb) fun σ H Q ⟨G, env, st, Q3, R, N, q, k⟩ => eOf_go R N q fun t st1 G1 H1 v e1 R1 rp q1 => by
    split at q1
    · cases rp
      exact ⟨_, rfl, ite_and ⟨fun hb => k _ _ ⟨_, st1, G1, e1, R1, .bl _, q1.1 hb⟩, fun hb => eOf_go R1 (N.mono e1) (q1.2 hb) fun c st2 G2 H2 w e2 R2 rp2 q2 => k _ _ ⟨c, st2, G2, e1.trans e2, R2, rp2, q2⟩⟩⟩
    · exact q1.elim
theorem le_not (ha : LE X a ra) : LE X (.UnaryOp .Not a pos) (rNotV ra) :=
  PE.wk (pe_not ha) fun σ H Q ⟨G, env, st, Q3, R, N, q, k⟩ => eOf_go R N q fun t st1 G1 H1 v e1 R1 rp q1 => by
    split at q1
    · cases rp; exact ⟨_, rfl, k _ _ ⟨_, st1, G1, e1, R1, .bl _, q1⟩⟩
    · exact q1.elim
theorem le_isN {j p} (ha : LE X a ra) : LE X (.Compare a [.Is] [.Constant .none j p] pos) (r1 rrIsN ra) :=
  PE.wk (pe_cmpR op_isN ha pe_non (nomark _)) fun σ H Q ⟨G, env, st, Q3, R, N, q, k⟩ => eOf_go R N q fun t st1 G1 H1 v e1 R1 rp q1 => ⟨rfl, by rw [rp.isN]; exact k _ _ ⟨_, st1, G1, e1, R1, .bl _, q1⟩⟩
theorem le_notN {j p} (ha : LE X a ra) : LE X (.Compare a [.IsNot] [.Constant .none j p] pos) (r1 rrNotN ra) :=
  PE.wk (pe_cmpR op_notN ha pe_non (nomark _)) fun σ H Q ⟨G, env, st, Q3, R, N, q, k⟩ => eOf_go R N q fun t st1 G1 H1 v e1 R1 rp q1 => ⟨rfl, by rw [rp.isN]; exact k _ _ ⟨_, st1, G1, e1, R1, .bl _, q1⟩⟩
theorem v_isB {K : KG} : Val2 K rIsB rrIsB := fun G H st x y v w Q3 Q R rx ry q k => by
  unfold rrIsB at q
  split at q
  · cases rx; cases ry
    exact ⟨_, _, rfl, rfl, k _ _ (liftV.mk R (.bl _) q)⟩
  · exact q.elim
theorem v_notB {K : KG} : Val2 K rNotB rrNotB := fun G H st x y v w Q3 Q R rx ry q k => by
  unfold rrNotB at q
  split at q
  · cases rx; cases ry
    exact ⟨_, _, rfl, rfl, k _ _ (liftV.mk R (.bl _) q)⟩
  · exact q.elim
theorem le_isB (ha : LE X a ra) (hb : LE X b rb) : LE X (.Compare a [.Is] [b] pos) (r2 rrIsB ra rb) := le_cmp op_isBl v_isB ha hb (nomark _)
theorem le_notB (ha : LE X a ra) (hb : LE X b rb) : LE X (.Compare a [.IsNot] [b] pos) (r2 rrNotB ra rb) := le_cmp op_notBl v_notB ha hb (nomark _)
theorem le_ifx (hc : LT X c rt) (ha : LE X a ra) (hb : LE X b rb) : LE X (.IfExp c a b pos) (rIfX rt ra rb) :=
  PE.wk (pe_ifExp hc ha hb) fun σ H Q ⟨G, env, st, Q3, R, N, q, k⟩ => bOf_go R N q fun b st1 G1 H1 e1 R1 q1 => ite_and ⟨fun hb => eOf_go R1 (N.mono e1) (q1.1 hb) fun c st2 G2 H2 w e2 R2 rp2 q2 => k _ _ ⟨c, st2, G2, e1.trans e2, R2, rp2, q2⟩,
    fun hb => eOf_go R1 (N.mono e1) (q1.2 hb) fun c st2 G2 H2 w e2 R2 rp2 q2 => k _ _ ⟨c, st2, G2, e1.trans e2, R2, rp2, q2⟩⟩
/-- a op b op' c -/
def rChain (rr rr' : RR) (ra rb rc : RE) : RE := fun env st Q => ra env st fun x st1 => rb env st1 fun y st2 => rr x y st2 fun z st3 => match z with
  | .bl b => (b = true → rc env st3 fun w st4 => rr' y w st4 Q) ∧ (b = false → Q (.bl false) st3)
  | _ => False
theorem le_chain {op op' : CmpOp} {r r' : R2} {rr rr' : RR} (ho : OpR X (compareOp op) r) (ho' : OpR X (compareOp op') r') (hv : Val2 X.kg r rr) (hv' : Val2 X.kg r' rr') (ha : LE X a ra) (hb : LE X b rb) (hc : LE X c rc)
    (hm : lastMarks [op, op'] [b, c] = false := by with_unfolding_all rfl) : LE X (.Compare a [op, op'] [b, c] pos) (rChain rr rr' ra rb rc) :=
  PE.wk (pe_chain ho ho' ha hb hc hm) fun σ H Q ⟨G, env, st, Q3, R, N, q, k⟩ => eOf_go R N q fun x st1 G1 H1 v e1 R1 rx q1 => eOf_go R1 (N.mono e1) q1 fun y st2 G2 H2 w e2 R2 ry q2 =>
    hv G2 H2 st2 x y v w _ _ R2 (rx.mono e2) ry q2 fun z H3 ⟨t, st3, G3, e3, R3, rz, q3⟩ => by
      dsimp only at q3
      split at q3
      · cases rz
        exact ⟨_, rfl, ite_and ⟨fun hb => eOf_go R3 (N.mono (e1.trans (e2.trans e3))) (q3.1 hb) fun u st4 G4 H4 w' e4 R4 ru q4 => hv' G4 H4 st4 y u w w' Q3 Q R4 (ry.mono (e3.trans e4)) ru q4 fun v' H' z => k v' H' (liftV.up (e1.trans (e2.trans (e3.trans e4))) z),
          fun hb => k _ _ ⟨_, st3, G3, e1.trans (e2.trans e3), R3, .bl _, q3.2 hb⟩⟩⟩
      · exact q3.elim
theorem tTest_go {K : KG} {t : TE} {r : RE} (h : ∀ σ H Q, eOf K r σ H Q → t σ H Q) (σ : L2.St) (H : Hp) (Q : Bool → Hp → Prop) (q : bOf K (rB r) σ H Q) : tTest t σ H Q := by
  obtain ⟨G, env, st, Q3, R, N, q, k⟩ := q
  refine h σ H _ (eOf_go R N q fun t st' G' H' v e1 R1 rp q1 => ?_)
  split at q1
  · cases rp; exact ⟨_, rfl, k _ _ ⟨st', G', e1, R1, q1⟩⟩
  · exact q1.elim
theorem lt_cmpR {op : CmpOp} {r : R2} {rr : RR} (ho : OpR X (compareOp op) r) (hv : Val2 X.kg r rr) (ha : LE X a ra) (hb : LE X b rb) (hm : behindInMarks op b = false) : LT X (.Compare a [op] [b] pos) (rB (r2 rr ra rb)) :=
  PT.wk (pt_cmpR ho ha hb hm) (tTest_go (tOp_go hv))
theorem lt_lt (ha : LE X a ra) (hb : LE X b rb) : LT X (.Compare a [.Lt] [b] pos) (rB (r2 rrLt ra rb)) := lt_cmpR op_lt v_lt ha hb (nomark _)
theorem lt_le (ha : LE X a ra) (hb : LE X b rb) : LT X (.Compare a [.LtE] [b] pos) (rB (r2 rrLe ra rb)) := lt_cmpR op_le v_le ha hb (nomark _)
theorem lt_gt (ha : LE X a ra) (hb : LE X b rb) : LT X (.Compare a [.Gt] [b] pos) (rB (r2 rrGt ra rb)) := lt_cmpR op_gt v_gt ha hb (nomark _)
theorem lt_ge (ha : LE X a ra) (hb : LE X b rb) : LT X (.Compare a [.GtE] [b] pos) (rB (r2 rrGe ra rb)) := lt_cmpR op_ge v_ge ha hb (nomark _)
theorem lt_eq {k : Nat} (hr : Room k X.A) (ha : LE X a ra) (hb : LE X b rb) : LT X (.Compare a [.Eq] [b] pos) (rB (r2 rrEq ra rb)) := lt_cmpR (op_eqP (hu66 hr)) v_eq ha hb (nomark _)
theorem lt_ne {k : Nat} (hr : Room k X.A) (ha : LE X a ra) (hb : LE X b rb) : LT X (.Compare a [.NotEq] [b] pos) (rB (r2 rrNe ra rb)) := lt_cmpR (op_neP (hu66 hr)) v_ne ha hb (nomark _)
theorem lt_in {k : Nat} (hr : Room k X.A) (ha : LE X a ra) (hb : LE X b rb) (hm : behindInMarks .In b = false := by rfl) : LT X (.Compare a [.In] [b] pos) (rB (r2 rrIn ra rb)) := lt_cmpR (op_inP (hu66 hr)) v_in ha hb hm
theorem lt_nin {k : Nat} (hr : Room k X.A) (ha : LE X a ra) (hb : LE X b rb) (hm : behindInMarks .NotIn b = false := by rfl) : LT X (.Compare a [.NotIn] [b] pos) (rB (r2 rrNotIn ra rb)) := lt_cmpR (op_ninP (hu66 hr)) v_nin ha hb hm
theorem lt_isB (ha : LE X a ra) (hb : LE X b rb) : LT X (.Compare a [.Is] [b] pos) (rB (r2 rrIsB ra rb)) := lt_cmpR op_isBl v_isB ha hb (nomark _)
theorem lt_notB (ha : LE X a ra) (hb : LE X b rb) : LT X (.Compare a [.IsNot] [b] pos) (rB (r2 rrNotB ra rb)) := lt_cmpR op_notBl v_notB ha hb (nomark _)
theorem lt_isN {j p} (ha : LE X a ra) : LT X (.Compare a [.Is] [.Constant .none j p] pos) (rB (r1 rrIsN ra)) :=
  PT.wk (pt_cmpR op_isN ha pe_non (nomark _)) (tTest_go fun σ H Q ⟨G, env, st, Q3, R, N, q, k⟩ => eOf_go R N q fun t st1 G1 H1 v e1 R1 rp q1 => ⟨rfl, by rw [rp.isN]; exact k _ _ ⟨_, st1, G1, e1, R1, .bl _, q1⟩⟩)
theorem lt_notN {j p} (ha : LE X a ra) : LT X (.Compare a [.IsNot] [.Constant .none j p] pos) (rB (r1 rrNotN ra)) :=
  PT.wk (pt_cmpR op_notN ha pe_non (nomark _)) (tTest_go fun σ H Q ⟨G, env, st, Q3, R, N, q, k⟩ => eOf_go R N q fun t st1 G1 H1 v e1 R1 rp q1 => ⟨rfl, by rw [rp.isN]; exact k _ _ ⟨_, st1, G1, e1, R1, .bl _, q1⟩⟩)
theorem tChain_go {K : KG} {r r' : R2} {rr rr' : RR} (hv : Val2 K r rr) (hv' : Val2 K r' rr') (σ : L2.St) (H : Hp) (Q : VK) (h : eOf K (rChain rr rr' ra rb rc) σ H Q) : tChain r r' (eOf K ra) (eOf K rb) (eOf K rc) σ H Q := by
  obtain ⟨G, env, st, Q3, R, N, q, k⟩ := h
  exact eOf_go R N q fun x st1 G1 H1 v e1 R1 rx q1 => eOf_go R1 (N.mono e1) q1 fun y st2 G2 H2 w e2 R2 ry q2 =>
    hv G2 H2 st2 x y v w _ _ R2 (rx.mono e2) ry q2 fun z H3 ⟨t, st3, G3, e3, R3, rz, q3⟩ => by
      dsimp only at q3
      split at q3
      · cases rz
        exact ⟨_, rfl, ite_and ⟨fun hb => eOf_go R3 (N.mono (e1.trans (e2.trans e3))) (q3.1 hb) fun u st4 G4 H4 w' e4 R4 ru q4 => hv' G4 H4 st4 y u w w' Q3 Q R4 (ry.mono (e3.trans e4)) ru q4 fun v' H' z => k v' H' (liftV.up (e1.trans (e2.trans (e3.trans e4))) z),
          fun hb => k _ _ ⟨_, st3, G3, e1.trans (e2.trans e3), R3, .bl _, q3.2 hb⟩⟩⟩
      · exact q3.elim
theorem lt_chain {op op' : CmpOp} {r r' : R2} {rr rr' : RR} (ho : OpR X (compareOp op) r) (ho' : OpR X (compareOp op') r') (hv : Val2 X.kg r rr) (hv' : Val2 X.kg r' rr') (ha : LE X a ra) (hb : LE X b rb) (hc : LE X c rc)
    (hm : lastMarks [op, op'] [b, c] = false := by with_unfolding_all rfl) : LT X (.Compare a [op, op'] [b, c] pos) (rB (rChain rr rr' ra rb rc)) := PT.wk (pt_chain ho ho' ha hb hc hm) (tTest_go (tChain_go hv hv'))
end

/-! ### displays -/
def rNil : RA := fun _ st Q => Q [] st
def rCons (ra : RE) (rs : RA) : RA := fun env st Q => ra env st fun x st1 => rs env st1 fun xs st2 => Q (x :: xs) st2
def rTup (rs : RA) : RE := fun env st Q => rs env st fun xs st1 => xs.length ≤ sizeLine ∧ Q (.tup xs) st1
def rLst (rs : RA) : RE := fun env st Q => rs env st fun xs st1 => xs.length ≤ sizeLine ∧ Q (.lst xs) st1
/-- a list that may change -/
def rLstM (rs : RA) : RE := fun env st Q => rs env st fun xs st1 => xs.length ≤ sizeLine ∧ ∀ p, st1 p = none → Q (.loc p) (supd st1 p (.lst xs))
/-- what may change no more -/
def rFrz (r : RE) : RE := fun env st Q => r env st fun t st1 => match t with
  | .loc p => (∃ xs, st1 p = some (.lst xs) ∧ Q (.lst xs) (sdel st1 p)) ∨ (∃ xs, st1 p = some (.dk xs) ∧ Q (.dk xs) (sdel st1 p))
  | _ => False
section
variable {X : Cy} {e : Expr} {es : List Expr} {ra : RE} {rs : RA} {pos : Pos}
theorem la_nil : LA X [] rNil := PA.wk pa_nil fun σ H Q ⟨G, env, st, Q3, R, N, q, k⟩ => k [] H ⟨[], st, G, Ex.refl G, R, .nil, q⟩
theorem la_cons (ha : LE X e ra) (hr : LA X es rs) (hs : starEach (e :: es) X.env = (false, eval e X.env) :: starEach es X.env := by rfl) : LA X (e :: es) (rCons ra rs) :=
  PA.wk (pa_cons ha hr hs) fun σ H Q ⟨G, env, st, Q3, R, N, q, k⟩ => eOf_go R N q fun x st1 G1 H1 v e1 R1 rx q1 => aOf_go R1 (N.mono e1) q1 fun xs st2 G2 H2 vs e2 R2 rxs q2 => k _ _ ⟨_, st2, G2, e1.trans e2, R2, .cons (rx.mono e2) rxs, q2⟩
theorem le_tup {x1} (h : LA X es rs) : LE X (.Tuple es x1 pos) (rTup rs) :=
  PE.wk (pe_tup h) fun σ H Q ⟨G, env, st, Q3, R, N, q, k⟩ => aOf_go R N q fun xs st1 G1 H1 vs e1 R1 rxs q1 => ⟨by rw [rxs.length]; exact q1.1, fun p hp =>
    have e2 := Ex.new (o := .tup vs) (R1.noG hp)
    k _ _ ⟨_, st1, _, e1.trans e2, R1.newG hp, .tup upd_same (rxs.mono e2), q1.2⟩⟩
theorem le_lst (h : LA X es rs) : LE X (.List es pos) (rLst rs) :=
  PE.wk (pe_lst h) fun σ H Q ⟨G, env, st, Q3, R, N, q, k⟩ => aOf_go R N q fun xs st1 G1 H1 vs e1 R1 rxs q1 => ⟨by rw [rxs.length]; exact q1.1, fun p hp =>
    have e2 := Ex.new (o := .lst vs) (R1.noG hp)
    k _ _ ⟨_, st1, _, e1.trans e2, R1.newG hp, .lst upd_same (rxs.mono e2), q1.2⟩⟩
theorem le_lstM (h : LA X es rs) : LE X (.List es pos) (rLstM rs) :=
  PE.wk (pe_lst h) fun σ H Q ⟨G, env, st, Q3, R, N, q, k⟩ => aOf_go R N q fun xs st1 G1 H1 vs e1 R1 rxs q1 => ⟨by rw [rxs.length]; exact q1.1, fun p hp =>
    k _ _ ⟨_, _, G1, e1, R1.newS hp (.lst rxs), .loc p, q1.2 p (R1.noS hp)⟩⟩
theorem le_frz (h : LE X e ra) : LE X e (rFrz ra) :=
  PE.wk h fun σ H Q ⟨G, env, st, Q3, R, N, q, k⟩ => eOf_go R N q fun t st1 G1 H1 v e1 R1 rp q1 => by
    split at q1
    · cases rp
      rename_i p
      rcases q1 with ⟨xs, hs, q1⟩ | ⟨xs, hs, q1⟩
      · obtain ⟨vs, hv, rs⟩ := R1.lst hs
        obtain ⟨e2, R2⟩ := R1.frz hs hv
        exact k _ _ ⟨_, _, _, e1.trans e2, R2, .lst upd_same (rs.mono e2), q1⟩
      · obtain ⟨vs, hv, rs⟩ := R1.dk hs
        obtain ⟨e2, R2⟩ := R1.frz hs hv
        exact k _ _ ⟨_, _, _, e1.trans e2, R2, .dk upd_same rs.1 (rs.2.mono e2), q1⟩
    · exact q1.elim
end

/-! ### subscripts, slices -/
def rrIx : RR := fun x y st Q => match x, y with
  | .tup xs, .int i => ∃ v, atI xs i = some v ∧ Q v st
  | .str z, .int i => ∃ c, z.length ≤ sizeLine ∧ atI z.cps.toList i = some c ∧ Q (.str ⟨#[c]⟩) st
  | x, .int i => ∃ xs v, LV st x xs ∧ atI xs i = some v ∧ Q v st
  | _, _ => False
theorem Reps.atI {K : PySem.W.Frag} {G : Hp} {vs : List V} {xs : List T} {i : Int} {x : T} (r : Reps K G vs xs) (h : L2.atI xs i = some x) : ∃ v, L2.atI vs i = some v ∧ Rep K G v x := by
  unfold L2.atI at h ⊢
  rw [r.length]
  cases e : ixN xs.length i with
  | none => rw [e] at h; cases h
  | some j =>
    rw [e] at h
    exact r.get h
theorem v_ix {K : KG} : Val2 K (rIx K) rrIx := fun G H st x y v w Q3 Q R rx ry q k => by
  unfold rrIx at q
  split at q
  · cases ry
    obtain ⟨z, hz, q⟩ := q
    cases rx with
    | tup h r =>
    obtain ⟨v, h1, h2⟩ := r.atI hz
    exact .inr (.inl ⟨_, _, _, v, rfl, rfl, Evl.st_of (R.sub _ _ h), h1, k _ _ (liftV.mk R h2 q)⟩)
  · cases ry; cases rx
    obtain ⟨c, h1, h2, q⟩ := q
    exact .inr (.inr ⟨_, _, c, rfl, rfl, h1, h2, k _ _ (liftV.mk R (.str _) q)⟩)
  · cases ry
    obtain ⟨xs, z, l, hz, q⟩ := q
    obtain ⟨a, vs, rfl, h, r⟩ := l.rd R rx
    obtain ⟨v, h1, h2⟩ := r.atI hz
    exact .inl ⟨_, _, _, v, rfl, rfl, SqL.of h, h1, k _ _ (liftV.mk R h2 q)⟩
  · exact q.elim
def cutT (xs : List T) (lo hi : Option Int) : List T := (xs.drop (HT.sIx xs.length 0 lo)).take (HT.sIx xs.length xs.length hi - HT.sIx xs.length 0 lo)
theorem Reps.cut {K : PySem.W.Frag} {G : Hp} {vs : List V} {xs : List T} (r : Reps K G vs xs) (lo hi : Option Int) : Reps K G (cutV vs lo hi) (cutT xs lo hi) := by
  unfold cutV cutT
  rw [r.length]
  exact (r.drop _).take _
def rNoPart : RO := fun _ st Q => Q none st
def rPart (r : RE) : RO := fun env st Q => r env st fun t st1 => match t with | .int i => Q (some i) st1 | _ => False
/-- the cut of a text, a list, a tuple -/
def rCut (r : RE) (rl rh : RO) : RE := fun env st Q => r env st fun t st1 => rl env st1 fun lo st2 => rh env st2 fun hi st3 => match t with
  | .str z => z.length ≤ sizeLine ∧ Q (.str (cutS z lo hi)) st3
  | .tup xs => Q (.tup (cutT xs lo hi)) st3
  | .lst xs => Q (.lst (cutT xs lo hi)) st3
  | .loc p => ∃ xs, st3 p = some (.lst xs) ∧ Q (.lst (cutT xs lo hi)) st3
  | _ => False
def rSlAll (K : PySem.W.Frag) : V → Option Int → Option Int → Hp → VK → Prop := fun x lo hi H Q => rSlL K x lo hi H Q ∨ (rSlA K x lo hi H Q ∨ rSlS x lo hi H Q)
def rRev (r : RE) : RE := fun env st Q => r env st fun t st1 => ∃ xs, LV st1 t xs ∧ Q (.lst xs.reverse) st1
section
variable {X : Cy} {a b : Expr} {ra rb : RE} {rl rh : RO} {pos p2 : Pos} {lo hi : Option Expr}
theorem le_ix (ha : LE X a ra) (hb : LE X b rb) (hs : PlainIx b := by exact fun _ _ => rfl) : LE X (.Subscript a b pos) (r2 rrIx ra rb) := le_ixR ix_seq v_ix ha hb hs
theorem lo_none : LO X none rNoPart := PO.wk po_none fun σ H Q ⟨G, env, st, Q3, R, N, q, k⟩ => k _ _ ⟨st, G, Ex.refl G, R, q⟩
theorem lo_some (h : LE X a ra) : LO X (some a) (rPart ra) := PO.wk (po_some h) fun σ H Q ⟨G, env, st, Q3, R, N, q, k⟩ => eOf_go R N q fun t st1 G1 H1 v e1 R1 rp q1 => by
  split at q1
  · cases rp; exact ⟨_, rfl, k _ _ ⟨st1, G1, e1, R1, q1⟩⟩
  · exact q1.elim
theorem cut_whole {xs : List T} {lo hi : Option Int} (h1 : HT.sIx xs.length 0 lo = 0) (h2 : HT.sIx xs.length xs.length hi = xs.length) : cutT xs lo hi = xs := by
  unfold cutT
  rw [h1, h2, List.drop_zero, Nat.sub_zero, List.take_length]
theorem le_cut (ha : LE X a ra) (hl : LO X lo rl) (hh : LO X hi rh) : LE X (.Subscript a (.Slice lo hi none p2) pos) (rCut ra rl rh) :=
  PE.wk (pe_slice (r := rSlAll X.K) (sl_list.or (sl_tupA.or sl_str)) ha hl hh) fun σ H Q ⟨G, env, st, Q3, R, N, q, k⟩ => eOf_go R N q fun t st1 G1 H1 v e1 R1 rp q1 =>
    oOf_go R1 (N.mono e1) q1 fun lo' st2 G2 H2 e2 R2 q2 => oOf_go R2 (N.mono (e1.trans e2)) q2 fun hi' st3 G3 H3 e3 R3 q3 => by
      have e123 := e1.trans (e2.trans e3)
      have rp3 := rp.mono (e2.trans e3)
      split at q3
      · cases rp3
        exact .inr (.inr ⟨_, rfl, q3.1, k _ _ ⟨_, st3, G3, e123, R3, .str _, q3.2⟩⟩)
      · cases rp3 with
        | tup h r =>
        refine .inr (.inl ⟨_, _, rfl, Evl.st_of (R3.sub _ _ h), fun w => ?_, fun _ p hp => ?_⟩)
        · rw [r.length] at w
          rw [cut_whole w.1 w.2] at q3
          exact k _ _ ⟨_, st3, G3, e123, R3, .tup h r, q3⟩
        · exact k _ _ ⟨_, st3, _, e123.trans (Ex.new (R3.noG hp)), R3.newG hp, .tup upd_same ((r.cut _ _).mono (Ex.new (R3.noG hp))), q3⟩
      · cases rp3 with
        | lst h r =>
        refine .inl ⟨_, _, rfl, SqL.of (R3.sub _ _ h), fun p hp => ?_⟩
        exact k _ _ ⟨_, st3, _, e123.trans (Ex.new (R3.noG hp)), R3.newG hp, .lst upd_same ((r.cut _ _).mono (Ex.new (R3.noG hp))), q3⟩
      · cases rp3
        obtain ⟨xs, hs, q3⟩ := q3
        obtain ⟨vs, h, r⟩ := R3.lst hs
        refine .inl ⟨_, _, rfl, SqL.of h, fun p hp => ?_⟩
        exact k _ _ ⟨_, st3, _, e123.trans (Ex.new (R3.noG hp)), R3.newG hp, .lst upd_same ((r.cut _ _).mono (Ex.new (R3.noG hp))), q3⟩
      · exact q3.elim
theorem le_rev {k : Nat} {p1 p2 p3 pos : Pos} (ha : LE X a ra) : LE X (.Subscript a (.Slice none none (some (.UnaryOp .USub (.Constant (.int 1) k p1) p2)) p3) pos) (rRev ra) :=
  PE.wk (pe_revL ha) fun σ H Q ⟨G, env, st, Q3, R, N, q, k⟩ => eOf_go R N q fun t st1 G1 H1 v e1 R1 rp ⟨xs, l, q1⟩ => by
    obtain ⟨a1, vs, rfl, h, r⟩ := l.rd R1 rp
    refine ⟨_, _, rfl, SqL.of h, fun p hp => ?_⟩
    exact k _ _ ⟨_, st1, _, e1.trans (Ex.new (R1.noG hp)), R1.newG hp, .lst upd_same (r.reverse.mono (Ex.new (R1.noG hp))), q1⟩
end

/-! ### built-ins by values -/
abbrev RRN := List T → Sto → TQ → Prop
def ValN (K : KG) (r : List V → Hp → VK → Prop) (rr : RRN) : Prop := ∀ G H st ts vs Q3 Q, Rel K H st G → Reps K G vs ts → rr ts st Q3 → (∀ v' H', liftV K G Q3 v' H' → Q v' H') → r vs H Q
def rN (rr : RRN) (rs : RA) : RE := fun env st Q => rs env st fun ts st1 => rr ts st1 Q
abbrev RRM := T → List T → Sto → TQ → Prop
def ValM (K : KG) (Ty : String) (r : V → List V → Hp → VK → Prop) (rr : RRM) : Prop := ∀ G H st x ts v vs Q3 Q, Rel K H st G → Rep K G v x → Reps K G vs ts → rr x ts st Q3 → (∀ v' H', liftV K G Q3 v' H' → Q v' H') → r v vs H Q
section
variable {X : Cy} {x : Str} {p pos : Pos} {e : Expr} {es : List Expr} {rs : RA} {id Ty : String} {r : List V → Hp → VK → Prop} {rr : RRN}
theorem le_callB (hc : CallR X (.builtin id) r) (hv : ValN X.kg r rr) (hg : Gl X x) (hm : X.mg x = none) (hb : bootBuiltins x = some (.builtin id)) (ha : LA X (e :: es) rs) (hn : x ≠ "__name__" := by decide) (hdb : (x == ("__debug__" : Str)) = false := by decide) (he : starEach (e :: es) X.env = (false, eval e X.env) :: starEach es X.env := by rfl) (hpl : (backTo pos (starEach es X.env)).any (·.1) = false := by rfl) :
    LE X (.Call (.Name x p) (e :: es) [] pos) (rN rr rs) :=
  PE.wk (pe_callB hc hg hm hb ha hn hdb he hpl) fun σ H Q ⟨G, env, st, Q3, R, N, q, k⟩ => aOf_go R N q fun ts st1 G1 H1 vs e1 R1 rp q1 => hv G1 H1 st1 ts vs Q3 Q R1 rp q1 fun v' H' z => k v' H' (liftV.up e1 z)
theorem le_callTy (hc : CallR X (.type Ty) r) (hv : ValN X.kg r rr) (hg : Gl X x) (hm : X.mg x = none) (hb : bootBuiltins x = some (.type Ty)) (ha : LA X (e :: es) rs) (hn : x ≠ "__name__" := by decide) (hdb : (x == ("__debug__" : Str)) = false := by decide) (he : starEach (e :: es) X.env = (false, eval e X.env) :: starEach es X.env := by rfl) (hpl : (backTo pos (starEach es X.env)).any (·.1) = false := by rfl) :
    LE X (.Call (.Name x p) (e :: es) [] pos) (rN rr rs) :=
  PE.wk (pe_callTy hc hg hm hb ha hn hdb he hpl) fun σ H Q ⟨G, env, st, Q3, R, N, q, k⟩ => aOf_go R N q fun ts st1 G1 H1 vs e1 R1 rp q1 => hv G1 H1 st1 ts vs Q3 Q R1 rp q1 fun v' H' z => k v' H' (liftV.up e1 z)
end
def rrLen : RRN := fun ts st Q => match ts with
  | [.str z] => z.length ≤ sizeLine ∧ Q (.int z.length) st
  | [.tup xs] => Q (.int xs.length) st
  | [t] => ∃ xs, LV st t xs ∧ Q (.int xs.length) st
  | _ => False
def rrList : RRN := fun ts st Q => match ts with
  | [.tup xs] => Q (.lst xs) st
  | [t] => ∃ xs, LV st t xs ∧ Q (.lst xs) st
  | _ => False
def rrListM : RRN := fun ts st Q => match ts with
  | [.tup xs] => ∀ p, st p = none → Q (.loc p) (supd st p (.lst xs))
  | [t] => ∃ xs, LV st t xs ∧ ∀ p, st p = none → Q (.loc p) (supd st p (.lst xs))
  | _ => False
def rrTuple : RRN := fun ts st Q => match ts with
  | [.tup xs] => Q (.tup xs) st
  | [t] => ∃ xs, LV st t xs ∧ Q (.tup xs) st
  | _ => False
def rrMax2 : RRN := fun ts st Q => match ts with | [.int i, .int j] => Q (.int (if j > i then j else i)) st | _ => False
def rrMin2 : RRN := fun ts st Q => match ts with | [.int i, .int j] => Q (.int (if j < i then j else i)) st | _ => False
def rrSum : RRN := fun ts st Q => match ts with
  | [t] => ∃ ns : List Int, LV st t (ns.map T.int) ∧ Q (.int ns.sum) st
  | _ => False
def rrMax1 : RRN := fun ts st Q => match ts with
  | [t] => ∃ ns : List Int, LV st t (ns.map T.int) ∧ 0 < ns.length ∧ ∀ m, m ∈ ns → (∀ y, y ∈ ns → y ≤ m) → Q (.int m) st
  | _ => False
def rrMin1 : RRN := fun ts st Q => match ts with
  | [t] => ∃ ns : List Int, LV st t (ns.map T.int) ∧ 0 < ns.length ∧ ∀ m, m ∈ ns → (∀ y, y ∈ ns → m ≤ y) → Q (.int m) st
  | _ => False
def rrAny : RRN := fun ts st Q => match ts with
  | [t] => ∃ bs : List Bool, LV st t (bs.map T.bl) ∧ Q (.bl (bs.any id)) st
  | _ => False
def rrAll : RRN := fun ts st Q => match ts with
  | [t] => ∃ bs : List Bool, LV st t (bs.map T.bl) ∧ Q (.bl (bs.all id)) st
  | _ => False
/-- sorted of whole numbers -/
def rrSortI : RRN := fun ts st Q => match ts with
  | [t] => ∃ ns : List Int, LV st t (ns.map T.int) ∧ ∀ ms : List Int, ms.Perm ns → ms.Pairwise (· ≤ ·) → Q (.lst (ms.map T.int)) st
  | _ => False
def rLenAll (K : PySem.W.Frag) : List V → Hp → VK → Prop := fun xs H Q => (∃ p ys, xs = [.ref p] ∧ (SqL K H p ys ∨ SqT K H p ys) ∧ Q (.int ys.length) H) ∨ (∃ z, xs = [.str z] ∧ z.length ≤ sizeLine ∧ Q (.int z.length) H)
section
variable {K : KG} {G H : Hp} {st : Sto}
theorem LV.rd1 {t : T} {xs : List T} {vs : List V} (R : Rel K H st G) (r : Reps K G vs [t]) (l : LV st t xs) : ∃ a ws, vs = [.ref a] ∧ H a = some (.lst ws) ∧ Reps K G ws xs := by
  cases r with
  | cons a r =>
  cases r
  obtain ⟨b, ws, rfl, h, rs⟩ := l.rd R a
  exact ⟨b, ws, rfl, h, rs⟩
theorem Reps.tup1 {xs : List T} {vs : List V} (r : Reps K G vs [.tup xs]) : ∃ a ws, vs = [.ref a] ∧ G a = some (.tup ws) ∧ Reps K G ws xs := by
  cases r with
  | cons a r =>
  cases r
  cases a with
  | tup h rs => exact ⟨_, _, rfl, h, rs⟩
theorem Reps.str1 {z : Str} {vs : List V} (r : Reps K G vs [.str z]) : vs = [.str z] := by
  cases r with
  | cons a r => cases r; cases a; rfl
theorem Reps.int2 {i j : Int} {vs : List V} (r : Reps K G vs [.int i, .int j]) : vs = [.int i, .int j] := by
  cases r with
  | cons a r =>
  cases r with
  | cons b r => cases r; cases a; cases b; rfl
theorem vn_len : ValN K (rLenAll K) rrLen := fun G H st ts vs Q3 Q R rs q k => by
  unfold rrLen at q
  split at q
  · exact .inr ⟨_, rs.str1, q.1, k _ _ (liftV.mk R (.int _) q.2)⟩
  · obtain ⟨a, ws, rfl, h, r⟩ := rs.tup1
    exact .inl ⟨_, _, rfl, .inr (Evl.st_of (R.sub _ _ h)), by rw [r.length]; exact k _ _ (liftV.mk R (.int _) q)⟩
  · obtain ⟨xs, l, q⟩ := q
    obtain ⟨a, ws, rfl, h, r⟩ := l.rd1 R rs
    exact .inl ⟨_, _, rfl, .inl (SqL.of h), by rw [r.length]; exact k _ _ (liftV.mk R (.int _) q)⟩
  · exact q.elim
def rListAll (K : PySem.W.Frag) : List V → Hp → VK → Prop := fun xs H Q => ∃ p ys, xs = [.ref p] ∧ (SqL K H p ys ∨ SqT K H p ys) ∧ ∀ l, H l = none → Q (.ref l) (upd H l (.lst ys))
theorem vn_list : ValN K (rListAll K) rrList := fun G H st ts vs Q3 Q R rs q k => by
  unfold rrList at q
  split at q
  · obtain ⟨a, ws, rfl, h, r⟩ := rs.tup1
    exact ⟨_, _, rfl, .inr (Evl.st_of (R.sub _ _ h)), fun p hp => k _ _ ⟨_, st, _, Ex.new (R.noG hp), R.newG hp, .lst upd_same (r.mono (Ex.new (R.noG hp))), q⟩⟩
  · obtain ⟨xs, l, q⟩ := q
    obtain ⟨a, ws, rfl, h, r⟩ := l.rd1 R rs
    exact ⟨_, _, rfl, .inl (SqL.of h), fun p hp => k _ _ ⟨_, st, _, Ex.new (R.noG hp), R.newG hp, .lst upd_same (r.mono (Ex.new (R.noG hp))), q⟩⟩
  · exact q.elim
theorem vn_listM : ValN K (rListAll K) rrListM := fun G H st ts vs Q3 Q R rs q k => by
  unfold rrListM at q
  split at q
  · obtain ⟨a, ws, rfl, h, r⟩ := rs.tup1
    exact ⟨_, _, rfl, .inr (Evl.st_of (R.sub _ _ h)), fun p hp => k _ _ ⟨_, _, G, Ex.refl G, R.newS hp (.lst r), .loc p, q p (R.noS hp)⟩⟩
  · obtain ⟨xs, l, q⟩ := q
    obtain ⟨a, ws, rfl, h, r⟩ := l.rd1 R rs
    exact ⟨_, _, rfl, .inl (SqL.of h), fun p hp => k _ _ ⟨_, _, G, Ex.refl G, R.newS hp (.lst r), .loc p, q p (R.noS hp)⟩⟩
  · exact q.elim
def rTupAll (K : PySem.W.Frag) : List V → Hp → VK → Prop := fun xs H Q => ∃ p ys, xs = [.ref p] ∧ ((SqL K H p ys ∧ ∀ l, H l = none → Q (.ref l) (upd H l (.tup ys))) ∨ (SqT K H p ys ∧ Q (.ref p) H))
theorem vn_tuple : ValN K (rTupAll K) rrTuple := fun G H st ts vs Q3 Q R rs q k => by
  unfold rrTuple at q
  split at q
  · obtain ⟨a, ws, rfl, h, r⟩ := rs.tup1
    exact ⟨_, _, rfl, .inr ⟨Evl.st_of (R.sub _ _ h), k _ _ (liftV.mk R (.tup h r) q)⟩⟩
  · obtain ⟨xs, l, q⟩ := q
    obtain ⟨a, ws, rfl, h, r⟩ := l.rd1 R rs
    exact ⟨_, _, rfl, .inl ⟨SqL.of h, fun p hp => k _ _ ⟨_, st, _, Ex.new (R.noG hp), R.newG hp, .tup upd_same (r.mono (Ex.new (R.noG hp))), q⟩⟩⟩
  · exact q.elim
theorem vn_max2 : ValN K (fun xs H Q => ∃ i j, xs = [.int i, .int j] ∧ Q (.int (if j > i then j else i)) H) rrMax2 := fun G H st ts vs Q3 Q R rs q k => by
  unfold rrMax2 at q
  split at q
  · exact ⟨_, _, rs.int2, k _ _ (liftV.mk R (.int _) q)⟩
  · exact q.elim
theorem vn_min2 : ValN K (fun xs H Q => ∃ i j, xs = [.int i, .int j] ∧ Q (.int (if j < i then j else i)) H) rrMin2 := fun G H st ts vs Q3 Q R rs q k => by
  unfold rrMin2 at q
  split at q
  · exact ⟨_, _, rs.int2, k _ _ (liftV.mk R (.int _) q)⟩
  · exact q.elim
theorem vn_sum : ValN K (rSum K) rrSum := fun G H st ts vs Q3 Q R rs q k => by
  unfold rrSum at q
  split at q
  · obtain ⟨ns, l, q⟩ := q
    obtain ⟨a, ws, rfl, h, r⟩ := l.rd1 R rs
    cases r.ints
    exact ⟨_, _, rfl, SqL.of h, k _ _ (liftV.mk R (.int _) q)⟩
  · exact q.elim
theorem vn_max1 : ValN K (rMax K) rrMax1 := fun G H st ts vs Q3 Q R rs q k => by
  unfold rrMax1 at q
  split at q
  · obtain ⟨ns, l, h0, q⟩ := q
    obtain ⟨a, ws, rfl, h, r⟩ := l.rd1 R rs
    cases r.ints
    exact ⟨_, _, rfl, SqL.of h, h0, fun m h1 h2 => k _ _ (liftV.mk R (.int _) (q m h1 h2))⟩
  · exact q.elim
theorem vn_min1 : ValN K (rMin K) rrMin1 := fun G H st ts vs Q3 Q R rs q k => by
  unfold rrMin1 at q
  split at q
  · obtain ⟨ns, l, h0, q⟩ := q
    obtain ⟨a, ws, rfl, h, r⟩ := l.rd1 R rs
    cases r.ints
    exact ⟨_, _, rfl, SqL.of h, h0, fun m h1 h2 => k _ _ (liftV.mk R (.int _) (q m h1 h2))⟩
  · exact q.elim
theorem vn_any : ValN K (rAny K) rrAny := fun G H st ts vs Q3 Q R rs q k => by
  unfold rrAny at q
  split at q
  · obtain ⟨ns, l, q⟩ := q
    obtain ⟨a, ws, rfl, h, r⟩ := l.rd1 R rs
    cases r.bls
    exact ⟨_, _, rfl, SqL.of h, k _ _ (liftV.mk R (.bl _) q)⟩
  · exact q.elim
theorem vn_all : ValN K (rAll K) rrAll := fun G H st ts vs Q3 Q R rs q k => by
  unfold rrAll at q
  split at q
  · obtain ⟨ns, l, q⟩ := q
    obtain ⟨a, ws, rfl, h, r⟩ := l.rd1 R rs
    cases r.bls
    exact ⟨_, _, rfl, SqL.of h, k _ _ (liftV.mk R (.bl _) q)⟩
  · exact q.elim
theorem vn_sortI : ValN K (rSortedI K) rrSortI := fun G H st ts vs Q3 Q R rs q k => by
  unfold rrSortI at q
  split at q
  · obtain ⟨ns, l, q⟩ := q
    obtain ⟨a, ws, rfl, h, r⟩ := l.rd1 R rs
    cases r.ints
    exact ⟨_, _, rfl, SqL.of h, fun ms p h1 h2 hp => k _ _ ⟨_, st, _, Ex.new (R.noG hp), R.newG hp, .lst upd_same (Reps.of_ints _), q ms h1 h2⟩⟩
  · exact q.elim
end
section
variable {X : Cy} {p pos : Pos} {e f : Expr} {es : List Expr} {rs : RA}
theorem le_len (hg : Gl X "len") (hm : X.mg "len" = none) (ha : LA X [e] rs) (he : starEach [e] X.env = (false, eval e X.env) :: starEach [] X.env := by rfl) (hpl : (backTo pos (starEach [] X.env)).any (·.1) = false := by rfl) : LE X (.Call (.Name "len" p) [e] [] pos) (rN rrLen rs) :=
  le_callB (r := rLenAll X.K) (call_len_seq.or call_len_str) vn_len hg hm PySem.boot_len ha (he := he) (hpl := hpl)
theorem le_list (hg : Gl X "list") (hm : X.mg "list" = none) (ha : LA X [e] rs) (he : starEach [e] X.env = (false, eval e X.env) :: starEach [] X.env := by rfl) (hpl : (backTo pos (starEach [] X.env)).any (·.1) = false := by rfl) : LE X (.Call (.Name "list" p) [e] [] pos) (rN rrList rs) :=
  le_callTy (r := rListAll X.K) call_list_of vn_list hg hm (by decide +kernel) ha (he := he) (hpl := hpl)
theorem le_listM (hg : Gl X "list") (hm : X.mg "list" = none) (ha : LA X [e] rs) (he : starEach [e] X.env = (false, eval e X.env) :: starEach [] X.env := by rfl) (hpl : (backTo pos (starEach [] X.env)).any (·.1) = false := by rfl) : LE X (.Call (.Name "list" p) [e] [] pos) (rN rrListM rs) :=
  le_callTy (r := rListAll X.K) call_list_of vn_listM hg hm (by decide +kernel) ha (he := he) (hpl := hpl)
theorem le_tuple (hg : Gl X "tuple") (hm : X.mg "tuple" = none) (ha : LA X [e] rs) (he : starEach [e] X.env = (false, eval e X.env) :: starEach [] X.env := by rfl) (hpl : (backTo pos (starEach [] X.env)).any (·.1) = false := by rfl) : LE X (.Call (.Name "tuple" p) [e] [] pos) (rN rrTuple rs) :=
  le_callTy (r := rTupAll X.K) call_tuple_of vn_tuple hg hm (by decide +kernel) ha (he := he) (hpl := hpl)
theorem le_max2 (hc : X.calm = true) (hg : Gl X "max") (hm : X.mg "max" = none) (ha : LA X [e, f] rs) (he : starEach [e, f] X.env = (false, eval e X.env) :: starEach [f] X.env := by rfl) (hpl : (backTo pos (starEach [f] X.env)).any (·.1) = false := by rfl) : LE X (.Call (.Name "max" p) [e, f] [] pos) (rN rrMax2 rs) :=
  le_callB (call_max2 hc) vn_max2 hg hm (by decide +kernel) ha (he := he) (hpl := hpl)
theorem le_min2 (hc : X.calm = true) (hg : Gl X "min") (hm : X.mg "min" = none) (ha : LA X [e, f] rs) (he : starEach [e, f] X.env = (false, eval e X.env) :: starEach [f] X.env := by rfl) (hpl : (backTo pos (starEach [f] X.env)).any (·.1) = false := by rfl) : LE X (.Call (.Name "min" p) [e, f] [] pos) (rN rrMin2 rs) :=
  le_callB (call_min2 hc) vn_min2 hg hm (by decide +kernel) ha (he := he) (hpl := hpl)
theorem le_sum (hc : X.calm = true) (hg : Gl X "sum") (hm : X.mg "sum" = none) (ha : LA X [e] rs) (he : starEach [e] X.env = (false, eval e X.env) :: starEach [] X.env := by rfl) (hpl : (backTo pos (starEach [] X.env)).any (·.1) = false := by rfl) : LE X (.Call (.Name "sum" p) [e] [] pos) (rN rrSum rs) :=
  le_callB (cr_sum hc) vn_sum hg hm (by decide +kernel) ha (he := he) (hpl := hpl)
theorem le_max1 (hc : X.calm = true) (hg : Gl X "max") (hm : X.mg "max" = none) (ha : LA X [e] rs) (he : starEach [e] X.env = (false, eval e X.env) :: starEach [] X.env := by rfl) (hpl : (backTo pos (starEach [] X.env)).any (·.1) = false := by rfl) : LE X (.Call (.Name "max" p) [e] [] pos) (rN rrMax1 rs) :=
  le_callB (cr_max hc) vn_max1 hg hm (by decide +kernel) ha (he := he) (hpl := hpl)
theorem le_min1 (hc : X.calm = true) (hg : Gl X "min") (hm : X.mg "min" = none) (ha : LA X [e] rs) (he : starEach [e] X.env = (false, eval e X.env) :: starEach [] X.env := by rfl) (hpl : (backTo pos (starEach [] X.env)).any (·.1) = false := by rfl) : LE X (.Call (.Name "min" p) [e] [] pos) (rN rrMin1 rs) :=
  le_callB (cr_min hc) vn_min1 hg hm (by decide +kernel) ha (he := he) (hpl := hpl)
theorem le_any (hc : X.calm = true) (hg : Gl X "any") (hm : X.mg "any" = none) (ha : LA X [e] rs) (he : starEach [e] X.env = (false, eval e X.env) :: starEach [] X.env := by rfl) (hpl : (backTo pos (starEach [] X.env)).any (·.1) = false := by rfl) : LE X (.Call (.Name "any" p) [e] [] pos) (rN rrAny rs) :=
  le_callB (cr_any hc) vn_any hg hm (by decide +kernel) ha (he := he) (hpl := hpl)
theorem le_all (hc : X.calm = true) (hg : Gl X "all") (hm : X.mg "all" = none) (ha : LA X [e] rs) (he : starEach [e] X.env = (false, eval e X.env) :: starEach [] X.env := by rfl) (hpl : (backTo pos (starEach [] X.env)).any (·.1) = false := by rfl) : LE X (.Call (.Name "all" p) [e] [] pos) (rN rrAll rs) :=
  le_callB (cr_all hc) vn_all hg hm (by decide +kernel) ha (he := he) (hpl := hpl)
theorem le_sortI (hg : Gl X "sorted") (hm : X.mg "sorted" = none) (ha : LA X [e] rs) (he : starEach [e] X.env = (false, eval e X.env) :: starEach [] X.env := by rfl) (hpl : (backTo pos (starEach [] X.env)).any (·.1) = false := by rfl) : LE X (.Call (.Name "sorted" p) [e] [] pos) (rN rrSortI rs) :=
  le_callB cr_sortedI vn_sortI hg hm (by decide +kernel) ha (he := he) (hpl := hpl)
end
/-! ### a list that is only read (the script) -/
def rrIxRo : RR := fun x y st Q => match x, y with
  | .klst xs, .int i => ∃ v, atI xs i = some v ∧ Q v st
  | _, _ => False
theorem v_ixRo {K : KG} : Val2 K (rIxL K) rrIxRo := fun G H st x y v w Q3 Q R rx ry q k => by
  unfold rrIxRo at q
  split at q
  · cases ry
    cases rx with
    | klst h1 r =>
    obtain ⟨z, hz, q⟩ := q
    obtain ⟨v, h2, h3⟩ := r.atI hz
    exact ⟨_, _, _, v, rfl, rfl, Evl.ex_l R.sub h1, h2, k _ _ (liftV.mk R h3 q)⟩
  · exact q.elim
def rrLenRo : RRN := fun ts st Q => match ts with
  | [.klst xs] => Q (.int xs.length) st
  | _ => False
theorem vn_lenRo {K : KG} : ValN K (fun xs H Q => ∃ p ys, xs = [.ref p] ∧ (SqL K H p ys ∨ SqT K H p ys) ∧ Q (.int ys.length) H) rrLenRo := fun G H st ts vs Q3 Q R rs q k => by
  unfold rrLenRo at q
  split at q
  · cases rs with
    | cons a rs =>
    cases rs
    cases a with
    | klst h1 r =>
    exact ⟨_, _, rfl, .inl (Evl.ex_l R.sub h1), by rw [r.length]; exact k _ _ (liftV.mk R (.int _) q)⟩
  · exact q.elim
def rCutRo (r : RE) (rl rh : RO) : RE := fun env st Q => r env st fun t st1 => rl env st1 fun lo st2 => rh env st2 fun hi st3 => match t with
  | .klst xs => Q (.lst (cutT xs lo hi)) st3
  | _ => False
section
variable {X : Cy} {a b e : Expr} {ra rb : RE} {rl rh : RO} {pos p p2 : Pos} {lo hi : Option Expr} {rs : RA}
theorem le_ixRo (ha : LE X a ra) (hb : LE X b rb) (hs : PlainIx b := by exact fun _ _ => rfl) : LE X (.Subscript a b pos) (r2 rrIxRo ra rb) := le_ixR ix_list v_ixRo ha hb hs
theorem le_lenRo (hg : Gl X "len") (hm : X.mg "len" = none) (ha : LA X [e] rs) (he : starEach [e] X.env = (false, eval e X.env) :: starEach [] X.env := by rfl) (hpl : (backTo pos (starEach [] X.env)).any (·.1) = false := by rfl) : LE X (.Call (.Name "len" p) [e] [] pos) (rN rrLenRo rs) :=
  le_callB call_len_seq vn_lenRo hg hm PySem.boot_len ha (he := he) (hpl := hpl)
theorem le_cutRo (ha : LE X a ra) (hl : LO X lo rl) (hh : LO X hi rh) : LE X (.Subscript a (.Slice lo hi none p2) pos) (rCutRo ra rl rh) :=
  PE.wk (pe_slice sl_list ha hl hh) fun σ H Q ⟨G, env, st, Q3, R, N, q, k⟩ => eOf_go R N q fun t st1 G1 H1 v e1 R1 rp q1 =>
    oOf_go R1 (N.mono e1) q1 fun lo' st2 G2 H2 e2 R2 q2 => oOf_go R2 (N.mono (e1.trans e2)) q2 fun hi' st3 G3 H3 e3 R3 q3 => by
      have e123 := e1.trans (e2.trans e3)
      have rp3 := rp.mono (e2.trans e3)
      split at q3
      · cases rp3 with
        | klst h r =>
        refine ⟨_, _, rfl, Evl.ex_l R3.sub h, fun p hp => ?_⟩
        exact k _ _ ⟨_, st3, _, e123.trans (Ex.new (R3.noG hp)), R3.newG hp, .lst upd_same ((r.cut _ _).mono (Ex.new (R3.noG hp))), q3⟩
      · exact q3.elim
end
end L3

/-! L3: statements, loops, comprehensions, defs. -/
namespace L3
open PySem PySem.Spec PyProof.Rows L2
open Evl (Ex)

section
variable {K : KG} {G G' H : Hp} {st : Sto} {σ : L2.St} {env : En} {D3 : Ends3} {D : Ends}
theorem DLe.up (d : DLe K G D3 D) (e : Ex G G') : DLe K G' D3 D := ⟨fun σ H h => d.nx σ H (liftN.up e h), fun v H h => d.rt v H (liftV.up e h), fun σ H h => d.bk σ H (liftN.up e h), fun σ H h => d.ct σ H (liftN.up e h)⟩
theorem sOf_go {r : RS} (R : Rel K H st G) (N : ERel K G σ env) (h : r D3 env st) (d : DLe K G D3 D) : sOf K r D σ H := ⟨G, env, st, D3, R, N, h, d⟩
end
/-! ### simple statements -/
def rNext : RS := fun D env st => D.nx env st
def rSeq (r u : RS) : RS := fun D env st => r { D with nx := u D } env st
def rBreak : RS := fun D env st => D.bk env st
def rCont : RS := fun D env st => D.ct env st
def rDrop (r : RE) : RS := fun D env st => r env st fun _ st1 => D.nx env st1
def rRet (r : RE) : RS := fun D env st => r env st D.rt
def rRetN : RS := fun D _ st => D.rt .non st
def rIf (c : RT) (r u : RS) : RS := fun D env st => c env st fun b st1 => (b = true → r D env st1) ∧ (b = false → u D env st1)
def rNever : RS := fun _ _ _ => False
def rAsg (r : RE) (g : RG) : RS := fun D env st => r env st fun t st1 => g t env st1 D.nx
def gNm (i : Nat) : RG := fun t env st P => P (env.set i (some t)) st
def gsNil : RGs := fun ts env st P => match ts with | [] => P env st | _ => False
def gsCons (g : RG) (gs : RGs) : RGs := fun ts env st P => match ts with | t :: ts => g t env st fun env' st' => gs ts env' st' P | _ => False
def gTp (n : Nat) (gs : RGs) : RG := fun t env st P => match t with | .tup xs => xs.length = n ∧ gs xs env st P | _ => False
def rPar (i j : Nat) (rs : RA) : RS := fun D env st => rs env st fun ts st1 => match ts with | [v, w] => D.nx ((env.set i (some v)).set j (some w)) st1 | _ => False
section
variable {X : Cy} {s : Stmt} {rest ss uu : List Stmt} {r u : RS} {e c : Expr} {re : RE} {rt : RT} {pos : Pos}
theorem lss_nil : LSs X [] rNext := PSs.wk pss_nil fun D σ H ⟨G, env, st, D3, R, N, h, d⟩ => d.nx _ _ (liftN.mk R N h)
theorem lss_cons (h1 : LS X s r) (h2 : LSs X rest u) : LSs X (s :: rest) (rSeq r u) := PSs.wk (pss_cons h1 h2) fun D σ H ⟨G, env, st, D3, R, N, h, d⟩ =>
  ⟨G, env, st, { D3 with nx := u D3 }, R, N, h, ⟨fun σ' H' ⟨env', st', G', e, R', N', q⟩ => ⟨G', env', st', D3, R', N', q, d.up e⟩, d.rt, d.bk, d.ct⟩⟩
theorem lss_one (h1 : LS X s r) : LSs X [s] r := pss_one h1
theorem ls_pass : LS X (.Pass pos) rNext := PS.wk ps_pass fun D σ H ⟨G, env, st, D3, R, N, h, d⟩ => d.nx _ _ (liftN.mk R N h)
theorem ls_break : LS X (.Break pos) rBreak := PS.wk ps_break fun D σ H ⟨G, env, st, D3, R, N, h, d⟩ => d.bk _ _ (liftN.mk R N h)
theorem ls_continue : LS X (.Continue pos) rCont := PS.wk ps_continue fun D σ H ⟨G, env, st, D3, R, N, h, d⟩ => d.ct _ _ (liftN.mk R N h)
theorem ls_expr (he : LE X e re) (hs : swapsWith e none pos.line X.env = pure false := by rfl) : LS X (.Expr e pos) (rDrop re) := PS.wk (ps_expr he hs) fun D σ H ⟨G, env, st, D3, R, N, h, d⟩ =>
  eOf_go R N h fun t st1 G1 H1 v e1 R1 rp q => d.nx _ _ ⟨env, st1, G1, e1, R1, N.mono e1, q⟩
theorem ls_ret (he : LE X e re) : LS X (.Return (some e) pos) (rRet re) := PS.wk (ps_ret he) fun D σ H ⟨G, env, st, D3, R, N, h, d⟩ =>
  eOf_go R N h fun t st1 G1 H1 v e1 R1 rp q => d.rt _ _ ⟨t, st1, G1, e1, R1, rp, q⟩
theorem ls_retN : LS X (.Return none pos) rRetN := PS.wk ps_retN fun D σ H ⟨G, env, st, D3, R, N, h, d⟩ => d.rt _ _ (liftV.mk R .non h)
theorem ls_if (hc : LT X c rt) (ha : LSs X ss r) (hb : LSs X uu u) : LS X (.If c ss uu pos) (rIf rt r u) := PS.wk (ps_if hc ha hb) fun D σ H ⟨G, env, st, D3, R, N, h, d⟩ =>
  bOf_go R N h fun b st1 G1 H1 e1 R1 q => ite_and ⟨fun hb => sOf_go R1 (N.mono e1) (q.1 hb) (d.up e1), fun hb => sOf_go R1 (N.mono e1) (q.2 hb) (d.up e1)⟩
theorem ls_never : LS X s rNever := ⟨fun _ _ _ _ _ _ h => by
  obtain ⟨_, _, _, _, _, _, h, _⟩ := h
  exact h.elim⟩
theorem lss_never : LSs X ss rNever := ⟨fun _ _ _ _ _ _ h => by
  obtain ⟨_, _, _, _, _, _, h, _⟩ := h
  exact h.elim⟩
/-- a word between two statements: what follows is shown once, from Mid -/
def rCutS (r u : RS) : RS := fun D env st => ∃ Mid : En → Sto → Prop, r { D with nx := Mid } env st ∧ ∀ env' st', Mid env' st' → u D env' st'
theorem lss_cut (h1 : LS X s r) (h2 : LSs X rest u) : LSs X (s :: rest) (rCutS r u) := PSs.wk (Evl.pss_cut h1 h2) fun D σ H ⟨G, env, st, D3, R, N, ⟨Mid, h, hm⟩, d⟩ =>
  ⟨liftN X.kg G Mid, ⟨G, env, st, { D3 with nx := Mid }, R, N, h, ⟨fun _ _ z => z, d.rt, d.bk, d.ct⟩⟩, fun σ' H' ⟨env', st', G', e, R', N', q⟩ => ⟨G', env', st', D3, R', N', hm env' st' q, d.up e⟩⟩
theorem set_self {env : En} {i : Nat} {t : T} (h : env[i]? = some (some t)) : env.set i (some t) = env := by
  refine List.ext_getElem? fun j => ?_
  by_cases e : i = j
  · subst e
    rw [List.getElem?_set]
    have := (List.getElem?_eq_some_iff.mp h).1
    simp only [if_true, this, h]
  · rw [List.getElem?_set_ne e]
/-- if c: x = e, told by what x has behind it -/
theorem seq_ifset {i : Nat} {D : Ends3} {env : En} {st : Sto} {t0 : T} (P : T → Prop) (h0 : env[i]? = some (some t0)) (hp0 : P t0) (hc : ∀ K : Bool → Sto → Prop, (∀ b, K b st) → rt env st K) (he : ∀ K : TQ, (∀ t, P t → K t st) → re env st K)
    (hrest : ∀ t, P t → u D (env.set i (some t)) st) : rSeq (rIf rt (rAsg re (gNm i)) rNext) u D env st :=
  hc _ fun b => ⟨fun _ => he _ fun t ht => hrest t ht, fun _ => by
    have h := hrest t0 hp0
    rw [set_self h0] at h
    exact h⟩
@[irreducible] def rIfSet (rt : RT) (re : RE) (i : Nat) (u : RS) : RS := rSeq (rIf rt (rAsg re (gNm i)) rNext) u
theorem lss_ifset {i : Nat} (h1 : LS X s (rIf rt (rAsg re (gNm i)) rNext)) (h2 : LSs X rest u) : LSs X (s :: rest) (rIfSet rt re i u) := by
  unfold rIfSet
  exact lss_cons h1 h2
theorem ifset {i : Nat} {D : Ends3} {env : En} {st : Sto} {t0 : T} (P : T → Prop) (h0 : env[i]? = some (some t0)) (hp0 : P t0) (hc : ∀ K : Bool → Sto → Prop, (∀ b, K b st) → rt env st K) (he : ∀ K : TQ, (∀ t, P t → K t st) → re env st K)
    (hrest : ∀ t, P t → u D (env.set i (some t)) st) : rIfSet rt re i u D env st := by
  unfold rIfSet
  exact seq_ifset P h0 hp0 hc he hrest
/-! ### targets -/
theorem PG.wk {t t' : TG} (h : PG X e t) (k : ∀ v σ H Q, t' v σ H Q → t v σ H Q) : PG X e t' := ⟨fun pins s σ H v u Q I r q => h.run pins s σ H v u Q I r (k v σ H Q q)⟩
theorem PGs.wk {es : List Expr} {t t' : TGs} (h : PGs X es t) (k : ∀ v σ H Q, t' v σ H Q → t v σ H Q) : PGs X es t' := ⟨fun pins s σ H v u Q I r q => h.run pins s σ H v u Q I r (k v σ H Q q)⟩
theorem lg_name {i : Nat} {x : Str} (hN : X.N.Nodup) (hi : X.N[i]? = some x) (hx : Loc X.env.scope x) (hf : X.fn x = true ∨ X.env.scope.names.lookup x = some .local := by first | exact .inl rfl | exact .inr rfl | assumption) : LG X (.Name x pos) (gNm i) :=
  PG.wk (pg_name hN hi hx hf) fun v σ H Q ⟨G, env, st, t, P, R, N, rp, h, k⟩ => k _ _ (liftN.mk R (N.set rp i) h)
theorem lgs_nil : LGs X [] gsNil := PGs.wk pgs_nil fun vs σ H Q ⟨G, env, st, ts, P, R, N, rp, h, k⟩ => by
  unfold gsNil at h
  split at h
  · cases rp; exact ⟨rfl, k _ _ (liftN.mk R N h)⟩
  · exact h.elim
theorem lgs_cons {es : List Expr} {g : RG} {gs : RGs} (h1 : LG X e g) (h2 : LGs X es gs) (hs : (assignEach (e :: es) X.env).map (·.2) = assign e X.env :: (assignEach es X.env).map (·.2) := by rfl) : LGs X (e :: es) (gsCons g gs) := PGs.wk (pgs_cons h1 h2 hs) fun vs σ H Q ⟨G, env, st, ts, P, R, N, rp, h, k⟩ => by
  unfold gsCons at h
  split at h
  · cases rp with
    | cons a rs =>
    exact ⟨_, _, rfl, G, env, st, _, _, R, N, a, h, fun σ' H' ⟨env', st', G', e1, R', N', q⟩ => ⟨G', env', st', _, P, R', N', rs.mono e1, q, fun σ2 H2 z => k _ _ (liftN.up e1 z)⟩⟩
  · exact h.elim
theorem lg_tup {es : List Expr} {k n : Nat} {gs : RGs} (hc : X.calm = true) (h : LGs X es gs) (hn : (assignEach es X.env).length = n := by rfl) (hst : (assignEach es X.env).findIdx? (·.1) = none := by rfl) : LG X (.Tuple es k pos) (gTp n gs) :=
  PG.wk (pg_tup hc h hn hst) fun v σ H Q ⟨G, env, st, t, P, R, N, rp, h, k⟩ => by
    unfold gTp at h
    split at h
    · cases rp with
      | tup h1 rs => exact ⟨_, _, rfl, Evl.st_of (R.sub _ _ h1), by rw [rs.length]; exact h.1, G, env, st, _, P, R, N, rs, h.2, k⟩
    · exact h.elim
theorem ls_asg {tg : Expr} {g : RG} (he : LE X e re) (hg : LG X tg g) (hs : swapsWithSole [tg] e pos.line X.env = pure false := by rfl) (hw : swappedStores [tg] e X.env = pure none := by rfl) (h1 : (assignEach [tg] X.env).map (·.2) = [assign tg X.env] := by rfl) : LS X (.Assign [tg] e pos) (rAsg re g) :=
  PS.wk (ps_asg he hg hs hw h1) fun D σ H ⟨G, env, st, D3, R, N, h, d⟩ => eOf_go R N h fun t st1 G1 H1 v e1 R1 rp q => ⟨G1, env, st1, t, D3.nx, R1, N.mono e1, rp, q, fun σ' H' z => d.nx _ _ (liftN.up e1 z)⟩
/-- x = e -/
theorem ls_set {i : Nat} {x : Str} {pos' : Pos} (hN : X.N.Nodup) (hi : X.N[i]? = some x) (hx : Loc X.env.scope x) (he : LE X e re) (hs : swapsWith e (some (.Name x pos')) pos.line X.env = pure false := by rfl) (hf : X.fn x = true ∨ X.env.scope.names.lookup x = some .local := by first | exact .inl rfl | exact .inr rfl | assumption) :
    LS X (.Assign [.Name x pos'] e pos) (rAsg re (gNm i)) :=
  PS.wk (ps_set hN hi hx he hs hf) fun D σ H ⟨G, env, st, D3, R, N, h, d⟩ => eOf_go R N h fun t st1 G1 H1 v e1 R1 rp q => d.nx _ _ ⟨_, st1, G1, e1, R1, (N.mono e1).set rp i, q⟩
theorem ls_par {i j : Nat} {x y : Str} {a b : Expr} {ra : RA} {px py pt : Pos} {kt k2 pt2} (hc : X.calm = true) (hN : X.N.Nodup) (hi : X.N[i]? = some x) (hj : X.N[j]? = some y) (hij : i ≠ j)
    (hx : X.env.scope.names.lookup x = some .local) (hy : X.env.scope.names.lookup y = some .local) (ha : LA X [a, b] ra)
    (hw : swappedStores [.Tuple [.Name x px, .Name y py] kt pt] (.Tuple [a, b] k2 pt2) X.env = pure (some [x, y]))
    (hs : swapsWithSole [.Tuple [.Name x px, .Name y py] kt pt] (.Tuple [a, b] k2 pt2) pos.line X.env = pure false := by rfl) : LS X (.Assign [.Tuple [.Name x px, .Name y py] kt pt] (.Tuple [a, b] k2 pt2) pos) (rPar i j ra) :=
  PS.wk (ps_par hc hN hi hj hij hx hy ha hw hs) fun D σ H ⟨G, env, st, D3, R, N, h, d⟩ => aOf_go R N h fun ts st1 G1 H1 vs e1 R1 rp q => by
    split at q
    · cases rp with
      | cons a r =>
      cases r with
      | cons b r =>
      cases r
      exact ⟨_, _, rfl, d.nx _ _ ⟨_, st1, G1, e1, R1, ((N.mono e1).set a i).set b j, q⟩⟩
    · exact q.elim
end

/-! ### what is walked -/
/-- the things that come, and while they stay so -/
structure Src where
  xs : List T
  ok : Sto → Prop
abbrev RI := En → Sto → (Src → Sto → Prop) → Prop
def JOk (K : KG) (J : It) (S : Src) (G1 : Hp) : Prop := ∀ (i : Nat) (H : Hp) (st : Sto) (G : Hp), Ex G1 G → Rel K H st G → S.ok st →
  (i < S.xs.length → J.go i H ∧ ∀ v H', J.yld i H v H' → ∃ G' x, Ex G G' ∧ Rel K H' st G' ∧ S.xs[i]? = some x ∧ Rep K G' v x) ∧ (S.xs.length ≤ i → J.stop i H)
def iOf (K : KG) (ri : RI) : TI := fun σ H P => ∃ G env st Q3, Rel K H st G ∧ ERel K G σ env ∧ ri env st Q3 ∧ ∀ S J st' G' H', Ex G G' → Rel K H' st' G' → Q3 S st' → JOk K J S G' → P J H'
abbrev LI (X : Cy) (tg iter : Expr) (ri : RI) : Prop := PI X tg iter (iOf X.kg ri)
def riL (r : RE) : RI := fun env st Q => r env st fun t st1 => ∃ xs, LV st1 t xs ∧ Q ⟨xs, fun st' => LV st' t xs⟩ st1
def riT (r : RE) : RI := fun env st Q => r env st fun t st1 => match t with | .tup xs => Q ⟨xs, fun _ => True⟩ st1 | _ => False
def rgI (lo : Int) (n : Nat) : List T := (List.range n).map fun (k : Nat) => T.int (lo + k)
def riR1 (ra : RA) : RI := fun env st Q => ra env st fun ts st1 => match ts with | [.int j] => (-(2 ^ 62) ≤ j ∧ j < 2 ^ 62) ∧ Q ⟨rgI 0 j.toNat, fun _ => True⟩ st1 | _ => False
def riR2 (ra : RA) : RI := fun env st Q => ra env st fun ts st1 => match ts with | [.int i, .int j] => (-(2 ^ 62) ≤ i ∧ i < 2 ^ 62 ∧ -(2 ^ 62) ≤ j ∧ j < 2 ^ 62) ∧ Q ⟨rgI i (j - i).toNat, fun _ => True⟩ st1 | _ => False
theorem rgI_len (lo : Int) (n : Nat) : (rgI lo n).length = n := by unfold rgI; rw [List.length_map, List.length_range]
theorem rgI_at {lo : Int} {n i : Nat} {x : T} (h : (rgI lo n)[i]? = some x) : i < n ∧ x = .int (lo + i) := by
  unfold rgI at h
  rw [List.getElem?_map] at h
  cases e : (List.range n)[i]? with
  | none => rw [e] at h; cases h
  | some k =>
    rw [e] at h
    obtain ⟨h1, h2⟩ := List.getElem?_eq_some_iff.mp e
    rw [List.length_range] at h1
    rw [List.getElem_range] at h2
    subst h2
    cases h
    exact ⟨h1, rfl⟩
theorem rgI_get {lo : Int} {n i : Nat} (h : i < n) : (rgI lo n)[i]? = some (.int (lo + i)) := by
  unfold rgI
  rw [List.getElem?_map, List.getElem?_range h]
  rfl
section
variable {X : Cy} {tg : Expr}
theorem PI.wk {iter : Expr} {w w' : TI} (h : PI X tg iter w) (k : ∀ σ H P, w' σ H P → w σ H P) : PI X tg iter w' := by
  obtain ⟨run⟩ := h
  exact ⟨fun pins s σ H P I q => run pins s σ H P I (k σ H P q)⟩
theorem li_list {l : Expr} {r : RE} (hl : LE X l r) : LI X tg l (riL r) := PI.wk (pi_list hl) fun σ H P ⟨G, env, st, Q3, R, N, h, k⟩ => eOf_go R N h fun t st1 G1 H1 v e1 R1 rp ⟨xs, l, q⟩ => by
  obtain ⟨a, vs, rfl, hv, rs⟩ := l.rd R1 rp
  refine ⟨a, rfl, ⟨vs, SqL.of hv⟩, k ⟨xs, fun st' => LV st' t xs⟩ _ st1 G1 H1 e1 R1 q fun i H2 st2 G2 e2 R2 l2 => ?_⟩
  obtain ⟨a', vs', e3, hv', rs'⟩ := l2.rd R2 (rp.mono e2)
  cases e3
  refine ⟨fun hi => ⟨?_, fun w H' y => ?_⟩, fun hi => ⟨vs', SqL.of hv', by rw [rs'.length]; exact hi⟩⟩
  · have hi' : i < vs'.length := by rw [rs'.length]; exact hi
    exact ⟨vs', vs'[i], SqL.of hv', List.getElem?_eq_getElem hi'⟩
  · obtain ⟨rfl, y⟩ := y
    obtain ⟨x, h1, h2⟩ := rs'.getV (y vs' (SqL.of hv'))
    exact ⟨G2, x, Ex.refl G2, R2, h1, h2⟩
theorem li_tup {l : Expr} {r : RE} (hl : LE X l r) : LI X tg l (riT r) := PI.wk (pi_tup hl) fun σ H P ⟨G, env, st, Q3, R, N, h, k⟩ => eOf_go R N h fun t st1 G1 H1 v e1 R1 rp q => by
  split at q
  · cases rp with
    | @tup a vs xs hv rs =>
    refine ⟨_, rfl, ⟨_, Evl.st_of (R1.sub _ _ hv)⟩, k ⟨_, fun _ => True⟩ _ st1 G1 H1 e1 R1 q fun i H2 st2 G2 e2 R2 _ => ?_⟩
    have hv' := Evl.st_of (K := X.K) (R2.sub _ _ (e2 _ _ hv))
    have rs' := rs.mono e2
    refine ⟨fun hi => ⟨?_, fun w H' y => ?_⟩, fun hi => ⟨_, hv', by rw [rs'.length]; exact hi⟩⟩
    · have hi' : i < vs.length := by rw [rs'.length]; exact hi
      exact ⟨vs, vs[i], hv', List.getElem?_eq_getElem hi'⟩
    · obtain ⟨rfl, y⟩ := y
      obtain ⟨x, h1, h2⟩ := rs'.getV (y vs hv')
      exact ⟨G2, x, Ex.refl G2, R2, h1, h2⟩
  · exact q.elim
theorem jok_range {K : KG} (lo : Int) (n : Nat) (G1 : Hp) : JOk K (Itr lo n) ⟨rgI lo n, fun _ => True⟩ G1 := fun i H2 st2 G2 e2 R2 _ => by
  refine ⟨fun hi => ⟨?_, fun w H' y => ?_⟩, fun hi => ?_⟩
  · show i < n
    rw [← rgI_len lo n]; exact hi
  · obtain ⟨rfl, rfl⟩ := y
    exact ⟨G2, _, Ex.refl G2, R2, rgI_get (by rw [← rgI_len lo n]; exact hi), .int _⟩
  · show n ≤ i
    rw [← rgI_len lo n]; exact hi
theorem li_range1 {a : Expr} {ra : RA} {p pos : Pos} (hg : Gl X "range") (hm : X.mg "range" = none) (ha : LA X [a] ra) (hs : starEach [a] X.env = [(false, eval a X.env)] := by rfl) : LI X tg (.Call (.Name "range" p) [a] [] pos) (riR1 ra) :=
  PI.wk (pi_range1 hg hm ha hs) fun σ H P ⟨G, env, st, Q3, R, N, h, k⟩ => aOf_go R N h fun ts st1 G1 H1 vs e1 R1 rp q => by
    split at q
    · cases rp with
      | cons a r =>
      cases r; cases a
      exact ⟨_, rfl, q.1.1, q.1.2, k _ _ st1 G1 H1 e1 R1 q.2 (jok_range _ _ _)⟩
    · exact q.elim
theorem li_range2 {a b : Expr} {ra : RA} {p pos : Pos} (hg : Gl X "range") (hm : X.mg "range" = none) (ha : LA X [a, b] ra) (hs : starEach [a, b] X.env = [(false, eval a X.env), (false, eval b X.env)] := by rfl) (hs2 : starEach [b] X.env = [(false, eval b X.env)] := by rfl) : LI X tg (.Call (.Name "range" p) [a, b] [] pos) (riR2 ra) :=
  PI.wk (pi_range2 hg hm ha hs hs2) fun σ H P ⟨G, env, st, Q3, R, N, h, k⟩ => aOf_go R N h fun ts st1 G1 H1 vs e1 R1 rp q => by
    split at q
    · cases rp with
      | cons a r =>
      cases r with
      | cons b r =>
      cases r; cases a; cases b
      exact ⟨_, _, rfl, q.1, k _ _ st1 G1 H1 e1 R1 q.2 (jok_range _ _ _)⟩
    · exact q.elim
end
/-! ### for, while -/
def rFor (ri : RI) (g : RG) (rb : RS) : RS := fun D env st => ri env st fun S st1 => ∃ Pv : Nat → En → Sto → Prop, Pv 0 env st1 ∧ (∀ i env' st', i ≤ S.xs.length → Pv i env' st' → S.ok st') ∧
  (∀ i x env' st', S.xs[i]? = some x → Pv i env' st' → g x env' st' fun env2 st2 => rb { D with nx := Pv (i + 1), ct := Pv (i + 1), bk := D.nx } env2 st2) ∧ ∀ env' st', Pv S.xs.length env' st' → D.nx env' st'
def rWhile (c : RT) (rb : RS) : RS := fun D env st => ∃ W : Nat → En → Sto → Prop, (∃ m, W m env st) ∧ ∀ m env' st', W m env' st' →
  c env' st' fun b st1 => (b = true → rb { D with nx := fun e s => ∃ m', m' < m ∧ W m' e s, ct := fun e s => ∃ m', m' < m ∧ W m' e s, bk := D.nx } env' st1) ∧ (b = false → D.nx env' st1)
section
variable {X : Cy} {tg iter c : Expr} {body : List Stmt} {ri : RI} {g : RG} {rb : RS} {rt : RT} {pos : Pos}
theorem ls_for (hp : PassesOwn (model X.prog X.w) X.A X.env X.xe) (hc : X.calm = true) (hi : LI X tg iter ri) (hg : LG X tg g) (hb : LSs X body rb) (hs : ∀ x, foldedSetIterable iter X.env x = pure x := by intro _; rfl) : LS X (.For tg iter body [] pos) (rFor ri g rb) :=
  PS.wk (ps_for hp hc hi hg hb hs) fun D σ H ⟨G, env, st, D3, R, N, h, d⟩ => ⟨G, env, st, _, R, N, h, fun S J st1 G1 H1 e1 R1 ⟨Pv, p0, ps, pt, pd⟩ jok => by
    refine ⟨fun i m σ' H' => m = S.xs.length - i ∧ i ≤ S.xs.length ∧ liftN X.kg G1 (Pv i) σ' H', ⟨S.xs.length, by simp, Nat.zero_le _, liftN.mk R1 (N.mono e1) p0⟩, ?_⟩
    rintro i m σ' H' ⟨rfl, hle, env', st', G', e2, R', N', p⟩
    obtain ⟨j1, j2⟩ := jok i H' st' G' e2 R' (ps i env' st' hle p)
    by_cases hlt : i < S.xs.length
    · refine .inr ⟨(j1 hlt).1, liftN X.kg G1 (Pv (i + 1)), fun σ2 H2 z => ⟨S.xs.length - (i + 1), by omega, rfl, hlt, z⟩, fun v H2 y => ?_⟩
      obtain ⟨G2, x, e3, R2, hx, rx⟩ := (j1 hlt).2 v H2 y
      refine ⟨G2, env', st', x, _, R2, N'.mono e3, rx, pt i x env' st' hx p, fun σ3 H3 ⟨env3, st3, G3, e4, R3, N3, q⟩ => ?_⟩
      have ee : Ex G G3 := e1.trans (e2.trans (e3.trans e4))
      have e13 : Ex G1 G3 := e2.trans (e3.trans e4)
      exact ⟨G3, env3, st3, _, R3, N3, q, ⟨fun σ H z => liftN.up e13 z, fun v H z => d.rt v H (liftV.up ee z), fun σ H z => d.nx σ H (liftN.up ee z), fun σ H z => liftN.up e13 z⟩⟩
    · have e : i = S.xs.length := by omega
      subst e
      exact .inl ⟨j2 (Nat.le_refl _), d.nx _ _ ⟨env', st', G', e1.trans e2, R', N', pd env' st' p⟩⟩⟩
theorem ls_while (hp : PassesOwn (model X.prog X.w) X.A X.env X.xe) (hc : LT X c rt) (hb : LSs X body rb) : LS X (.While c body [] pos) (rWhile rt rb) :=
  PS.wk (ps_while hp hc hb) fun D σ H ⟨G, env, st, D3, R, N, ⟨W, ⟨m0, w0⟩, ht⟩, d⟩ => by
    refine ⟨fun m σ' H' => liftN X.kg G (W m) σ' H', ⟨m0, liftN.mk R N w0⟩, ?_⟩
    rintro m σ' H' ⟨env', st', G', e1, R', N', w⟩
    refine bOf_go R' N' (ht m env' st' w) fun b st1 G1 H1 e2 R1 q => ite_and ⟨fun hb => ?_, fun hb => d.nx _ _ ⟨env', st1, G1, e1.trans e2, R1, N'.mono e2, q.2 hb⟩⟩
    refine ⟨liftN X.kg G (fun e s => ∃ m', m' < m ∧ W m' e s), fun σ2 H2 ⟨env2, st2, G2, e3, R2, N2, m', hm, w'⟩ => ⟨m', hm, env2, st2, G2, e3, R2, N2, w'⟩, ?_⟩
    have ee := e1.trans e2
    exact ⟨G1, env', st1, _, R1, N'.mono e2, q.1 hb, ⟨fun σ H z => liftN.up ee z, fun v H z => d.rt v H (liftV.up ee z), fun σ H z => d.nx σ H (liftN.up ee z), fun σ H z => liftN.up ee z⟩⟩
end

/-! ### promises, calls, bodies -/
abbrev XK3 := Value → Option Addr → Sto → Prop
abbrev Sp3 := List T → Sto → TQ → XK3 → Prop
def liftX (K : KG) (E : XK3) : XK := fun c d H => ∃ st G, Rel K H st G ∧ E c d st
def lift3 (K : PySem.W.Frag) (sp : Sp3) : Sp := fun vs H Q E => ∃ G st ts Q3 E3, Rel ⟨K, G⟩ H st G ∧ Reps K G vs ts ∧ sp ts st Q3 E3 ∧ (∀ v H', liftV ⟨K, G⟩ G Q3 v H' → Q v H') ∧ ∀ c d H', liftX ⟨K, G⟩ E3 c d H' → E c d H'
section
variable {K : KG} {G G1 H : Hp} {st : Sto}
theorem Rel.re (R : Rel K H st G) : Rel ⟨K.fr, G⟩ H st G := ⟨Ex.refl G, R.sub, R.mem⟩
theorem Rel.back (h : Ex K.gb G1) (R : Rel ⟨K.fr, G1⟩ H st G) : Rel K H st G := ⟨h.trans R.low, R.sub, R.mem⟩
theorem liftV.back {Q : TQ} {v : V} (h : Ex K.gb G1) (z : liftV ⟨K.fr, G1⟩ G Q v H) : liftV K G Q v H := by
  obtain ⟨t, st, G2, e, R, r, q⟩ := z
  exact ⟨t, st, G2, e, R.back h, r, q⟩
theorem liftX.back {E : XK3} {c : Value} {d : Option Addr} (h : Ex K.gb G1) (z : liftX ⟨K.fr, G1⟩ E c d H) : liftX K E c d H := by
  obtain ⟨st, G2, R, q⟩ := z
  exact ⟨st, G2, R.back h, q⟩
end
def rCall (sp : Sp3) (rs : RA) : RE := fun env st Q => rs env st fun ts st1 => sp ts st1 Q fun _ _ _ => False
section
variable {X : Cy} {sp : Sp3} {k : Nat} {f : Addr} {fd : FuncData} {ps : List Str} {x : Str} {p pos : Pos} {e : Expr} {es : List Expr} {rs : RA}
/-- a def that lets nothing out, called by its name -/
theorem le_call (F : FnOk X.prog X.w X.K X.mg X.base CX0 k f fd ps (lift3 X.K sp)) (hr : Room k X.A) (hg : Gl X x) (hm : X.mg x = some (.ref f)) (hk : PySem.W.keepIn X.K (.ref f) = true) (hb : Binds X.K fd ps [])
    (ha : LA X (e :: es) rs) (hdb : (x == ("__debug__" : Str)) = false := by decide) (he : starEach (e :: es) X.env = (false, eval e X.env) :: starEach es X.env := by rfl) (hpl : (backTo pos (starEach es X.env)).any (·.1) = false := by rfl) :
    LE X (.Call (.Name x p) (e :: es) [] pos) (rCall sp rs) :=
  PE.wk (pe_call F hr hg hm hk hb .nil pass0 ha hdb he hpl) fun σ H Q ⟨G, env, st, Q3, R, N, h, k⟩ => aOf_go R N h fun ts st1 G1 H1 vs e1 R1 rp q => by
    refine ⟨G1, st1, ts, Q3, fun _ _ _ => False, R1.re, by rw [List.append_nil]; exact rp, q, fun v H' z => k v H' (liftV.up e1 (liftV.back (K := X.kg) R1.low z)), fun c d H' ⟨_, _, _, z⟩ => z.elim⟩
theorem le_call0 (F : FnOk X.prog X.w X.K X.mg X.base CX0 k f fd ps (lift3 X.K sp)) (hr : Room k X.A) (hg : Gl X x) (hm : X.mg x = some (.ref f)) (hk : PySem.W.keepIn X.K (.ref f) = true) (hb : Binds X.K fd ps [])
    (hdb : (x == ("__debug__" : Str)) = false := by decide) : LE X (.Call (.Name x p) [] [] pos) (rCall sp rNil) :=
  PE.wk (pe_call0 F hr hg hm hk hb .nil pass0 hdb) fun σ H Q ⟨G, env, st, Q3, R, N, h, k⟩ => ⟨G, st, [], Q3, fun _ _ _ => False, R.re, .nil, h, fun v H' z => k v H' (liftV.back (K := X.kg) R.low z), fun c d H' ⟨_, _, _, z⟩ => z.elim⟩
end
def start3 (N : List Str) (ts : List T) : En := ts.map some ++ List.replicate (N.length - ts.length) none
theorem erel_start {K : PySem.W.Frag} {G : Hp} (N : List Str) {vs : List V} {ts : List T} (r : Reps K G vs ts) : ERel K G (L2.start N vs) (start3 N ts) := by
  refine ⟨?_, fun i x h => ?_⟩
  · unfold L2.start start3
    rw [List.length_append, List.length_append, List.length_map, List.length_map, r.length]
    simp
  · unfold start3 at h
    unfold L2.start
    by_cases hi : i < ts.length
    · rw [List.getElem?_append_left (by rw [List.length_map]; exact hi), List.getElem?_map] at h
      cases e : ts[i]? with
      | none => rw [e] at h; cases h
      | some y =>
        rw [e] at h
        cases h
        obtain ⟨v, h1, h2⟩ := r.get e
        refine ⟨v, ?_, h2⟩
        rw [List.getElem?_append_left (by rw [List.length_map, r.length]; exact hi), List.getElem?_map, h1]
        rfl
    · rw [List.getElem?_append_right (by rw [List.length_map]; omega), List.length_map, List.getElem?_replicate] at h
      split at h <;> cases h
/-- wanted of some smaller store -/
def upQ (Q : TQ) : TQ := fun t st => ∃ s0, Sub s0 st ∧ Q t s0
theorem upQ.mk {Q : TQ} {t : T} {s0 st : Sto} (e : Sub s0 st) (q : Q t s0) : upQ Q t st := ⟨s0, e, q⟩
theorem liftV.less {K : KG} {G H : Hp} {Q : TQ} {v : V} (h : liftV K G (upQ Q) v H) : liftV K G Q v H := by
  obtain ⟨t, st, G2, e2, R, r, s0, e, q⟩ := h
  exact ⟨t, s0, G2, e2, R.less e, r, q⟩
section
variable {P : Program} {w : World} {K : PySem.W.Frag} {mg : Str → Option Value} {base : Heap}
/-- THE RULE for a def that lets nothing out -/
theorem ok3 {x qual : Str} {stm : Stmt} {f : Addr} {fd : FuncData} {N ps : List Str} {k : Nat} {sp : Sp3} (F : Fun K x qual stm f fd) (S : FnScope N ps (defScope stm)) (len : ∀ ts st Q E, sp ts st Q E → ts.length = ps.length)
    (hbody : ∀ (cdv : Value) (A : Around) (outer : List Env) (s : Shared) (H : Hp) (E : XK), Room k (A.deeper (envOfC qual (defScope stm) s.heap.objs.size f cdv)) →
      ∃ r, (∀ gb, LSs ⟨(cxOf CX0 P w K mg base N qual (defScope stm) f cdv A outer s H E).nox, gb⟩ (defBody stm) r) ∧
        ∀ ts st Q E3, sp ts st Q E3 → r { nx := fun _ st' => upQ Q .non st', rt := upQ Q } (start3 N ts) st) : FnOk P w K mg base CX0 (k + 1) f fd ps (lift3 K sp) := by
  refine F.ok S (fun vs H Q E h => ?_) (fun cdv A outer s H vs Q E hr h => ?_)
  · obtain ⟨G, st, ts, Q3, E3, R, r, q, _⟩ := h
    rw [r.length]
    exact len ts st Q3 E3 q
  · obtain ⟨G, st, ts, Q3, E3, R, r, q, k1, k2⟩ := h
    obtain ⟨rd, h1, h2⟩ := hbody cdv A outer s H E hr
    refine ⟨_, h1 G, G, start3 N ts, st, _, R, erel_start N r, h2 ts st Q3 E3 q, ?_⟩
    exact ⟨fun σ' H' ⟨env', st', G', e, R', N', z⟩ => k1 _ _ (liftV.less ⟨_, st', G', e, R', .non, z⟩), fun v H' z => k1 _ _ (liftV.less z), fun _ _ ⟨_, _, _, _, _, _, z⟩ => z.elim, fun _ _ ⟨_, _, _, _, _, _, z⟩ => z.elim⟩
end
end L3

/-! L3: comprehensions, methods of lists. -/
namespace L3
open PySem PySem.Spec PyProof.Rows L2
open Evl (Ex)

/-! ### comprehensions -/
def wipe3 (env : En) (vs : List Nat) : En := vs.foldr (fun v e => e.set v none) env
theorem wipe_get (σ : L2.St) : ∀ (vs : List Nat) (j : Nat), (wipe σ vs)[j]? = if j ∈ vs then (if j < σ.length then some none else none) else σ[j]?
  | [], j => by simp [wipe]
  | v :: vs, j => by
    show ((wipe σ vs).set v none)[j]? = _
    by_cases e : v = j
    · subst e
      rw [List.getElem?_set]
      simp only [if_true, wipe_length, List.mem_cons, true_or]
    · rw [List.getElem?_set_ne e, wipe_get σ vs j]
      have : (j ∈ v :: vs) = (j ∈ vs) := by
        rw [List.mem_cons]
        exact propext ⟨fun h => h.resolve_left (fun q => e q.symm), Or.inr⟩
      simp only [this]
theorem wipe_set {σ : L2.St} {vs : List Nat} {i : Nat} {x : Option V} (hi : i ∈ vs) : wipe ((wipe σ vs).set i x) vs = wipe σ vs := by
  refine List.ext_getElem? fun j => ?_
  rw [wipe_get, wipe_get, List.length_set, wipe_length]
  by_cases h : j ∈ vs
  · rw [if_pos h, if_pos h]
  · rw [if_neg h, if_neg h, List.getElem?_set_ne (fun e => h (by rw [← e]; exact hi)), wipe_get, if_neg h]
theorem wipe_set' {σ τ : L2.St} {vs : List Nat} {i : Nat} {x : Option V} (hi : i ∈ vs) (e : wipe τ vs = wipe σ vs) : wipe (τ.set i x) vs = wipe σ vs := by
  rw [← e]
  refine List.ext_getElem? fun j => ?_
  rw [wipe_get, wipe_get, List.length_set]
  by_cases h : j ∈ vs
  · rw [if_pos h, if_pos h]
  · rw [if_neg h, if_neg h, List.getElem?_set_ne (fun e => h (by rw [← e]; exact hi))]
theorem wipe_wipe (σ : L2.St) (vs : List Nat) : wipe (wipe σ vs) vs = wipe σ vs := by
  refine List.ext_getElem? fun j => ?_
  rw [wipe_get, wipe_get, wipe_length]
  by_cases h : j ∈ vs
  · rw [if_pos h, if_pos h]
  · rw [if_neg h, if_neg h]
theorem erel_wipe {K : PySem.W.Frag} {G : Hp} {σ : L2.St} {env : En} (N : ERel K G σ env) : ∀ vs : List Nat, ERel K G (wipe σ vs) (wipe3 env vs)
  | [] => N
  | v :: vs => by
    have M := erel_wipe N vs
    refine ⟨?_, fun i x h => ?_⟩
    · show ((wipe σ vs).set v none).length = ((wipe3 env vs).set v none).length
      rw [List.length_set, List.length_set]
      exact M.len
    · have h : ((wipe3 env vs).set v none)[i]? = some (some x) := h
      show ∃ w, ((wipe σ vs).set v none)[i]? = some (some w) ∧ _
      by_cases e : v = i
      · subst e
        rw [List.getElem?_set] at h
        simp only [if_true] at h
        split at h <;> cases h
      · rw [List.getElem?_set_ne e] at h
        rw [List.getElem?_set_ne e]
        exact M.get i x h
/-- a comprehension's target: only its own names are stored -/
def TgOk (K : KG) (g : TG) (rg : RG) (vs : List Nat) : Prop := ∀ (G H : Hp) (st : Sto) (σ : L2.St) (env : En) (v : V) (t : T) (P : En → Sto → Prop) (Q2 : L2.St → Hp → Prop), Rel K H st G → ERel K G (wipe σ vs) env → Rep K G v t → rg t env st P →
  (∀ σ2 H2, wipe σ2 vs = wipe σ vs → liftN K G P σ2 H2 → Q2 σ2 H2) → g v (wipe σ vs) H Q2
theorem tg_name {K : KG} {i : Nat} {vs : List Nat} (hi : i ∈ vs) : TgOk K (gName i) (gNm i) vs := fun G H st σ env v t P Q2 R N rp h k2 => k2 _ _ (wipe_set hi) (liftN.mk R (N.set rp i) h)
theorem tg_two {K : KG} {i j : Nat} {vs : List Nat} (hi : i ∈ vs) (hj : j ∈ vs) : TgOk K (gTup K 2 (gCons (gName i) (gCons (gName j) gNil))) (gTp 2 (gsCons (gNm i) (gsCons (gNm j) gsNil))) vs := fun G H st σ env v t P Q2 R N rp h k2 => by
  unfold gTp at h
  split at h
  · cases rp with
    | tup h1 rs =>
    obtain ⟨hl, h⟩ := h
    rename_i xs _ _
    match xs, hl with
    | [a, b], _ =>
    cases rs with
    | cons r1 rs =>
    cases rs with
    | cons r2 rs =>
    cases rs
    exact ⟨_, _, rfl, Evl.st_of (R.sub _ _ h1), rfl, _, _, rfl, _, _, rfl, rfl, k2 _ _ (wipe_set' hj (wipe_set hi)) (liftN.mk R ((N.set r1 i).set r2 j) h)⟩
  · exact h.elim
theorem tg_four {K : KG} {i j k l : Nat} {vs : List Nat} (hi : i ∈ vs) (hj : j ∈ vs) (hk : k ∈ vs) (hl' : l ∈ vs) : TgOk K (gTup K 4 (gCons (gName i) (gCons (gName j) (gCons (gName k) (gCons (gName l) gNil))))) (gTp 4 (gsCons (gNm i) (gsCons (gNm j) (gsCons (gNm k) (gsCons (gNm l) gsNil))))) vs := fun G H st σ env v t P Q2 R N rp h k2 => by
  unfold gTp at h
  split at h
  · cases rp with
    | tup h1 rs =>
    obtain ⟨hl, h⟩ := h
    rename_i xs _ _
    match xs, hl with
    | [a, b, c, d], _ =>
    cases rs with
    | cons r1 rs =>
    cases rs with
    | cons r2 rs =>
    cases rs with
    | cons r3 rs =>
    cases rs with
    | cons r4 rs =>
    cases rs
    exact ⟨_, _, rfl, Evl.st_of (R.sub _ _ h1), rfl, _, _, rfl, _, _, rfl, _, _, rfl, _, _, rfl, rfl, k2 _ _ (wipe_set' hl' (wipe_set' hk (wipe_set' hj (wipe_set hi)))) (liftN.mk R ((((N.set r1 i).set r2 j).set r3 k).set r4 l) h)⟩
  · exact h.elim
abbrev Cy.bk (X : Cy) (s : Shared) (H : Hp) (scope : Scope) (cenv : Env) (fp : List Addr) : Cy := ⟨X.toCx.blk s H scope cenv fp, X.gb⟩
def rYes : RT := fun _ st Q => Q true st
def rLc (ri : RI) (g : RG) (rt : RT) (re : RE) (vs : List Nat) : RE := fun env st Q => ri env st fun S st1 => ∀ D, st1 D = none → ∃ Pv : Nat → Sto → Prop, Pv 0 (supd st1 D (.lst [])) ∧ (∀ i st', i ≤ S.xs.length → Pv i st' → S.ok st') ∧
  (∀ i x st', S.xs[i]? = some x → Pv i st' → g x (wipe3 env vs) st' fun env2 st2 => rt env2 st2 fun b st3 =>
    (b = true → re env2 st3 fun y st4 => ∃ acc, st4 D = some (.lst acc) ∧ acc.length < sizeLine ∧ Pv (i + 1) (supd st4 D (.lst (acc ++ [y])))) ∧ (b = false → Pv (i + 1) st3)) ∧ ∀ st', Pv S.xs.length st' → Q (.loc D) st'
section
variable {X : Cy}
theorem PTs.wk {e : List Expr} {t t' : TT} (h : PTs X e t) (k : ∀ σ H Q, t' σ H Q → t σ H Q) : PTs X e t' := ⟨fun pins s σ H Q I q => h.run pins s σ H Q I (k σ H Q q)⟩
theorem lts_nil : PTs X [] (bOf X.kg rYes) := PTs.wk pts_nil fun σ H Q ⟨G, env, st, Q3, R, N, h, k⟩ => k _ _ ⟨st, G, Ex.refl G, R, h⟩
theorem lts_one {c : Expr} {r : RT} (h : LT X c r) : PTs X [c] (bOf X.kg r) := pts_one h
theorem tLc_go {K : KG} {ri : RI} {g : TG} {rg : RG} {rt : RT} {re : RE} {vs : List Nat} (hg : TgOk K g rg vs) (σ : L2.St) (H : Hp) (Q : VK) (h : eOf K (rLc ri rg rt re vs) σ H Q) : tLc (iOf K ri) g (bOf K rt) (eOf K re) vs σ H Q := by
  obtain ⟨G, env, st, Q3, R, N, q, k⟩ := h
  refine ⟨G, env, st, _, R, N, q, fun S J st1 G1 H1 e1 R1 q jok D hD => ?_⟩
  obtain ⟨Pv, p0, ps, pt, pd⟩ := q D (R1.noS hD)
  refine ⟨fun i m H' => m = S.xs.length - i ∧ i ≤ S.xs.length ∧ ∃ st' G', Ex G1 G' ∧ Rel K H' st' G' ∧ Pv i st', ⟨S.xs.length, by simp, Nat.zero_le _, _, G1, Ex.refl G1, R1.newS hD (.lst .nil), p0⟩, ?_⟩
  rintro i m H' ⟨rfl, hle, st', G', e2, R', p⟩
  obtain ⟨j1, j2⟩ := jok i H' st' G' e2 R' (ps i st' hle p)
  by_cases hlt : i < S.xs.length
  · refine .inr ⟨(j1 hlt).1, fun H2 => ∃ st2 G2, Ex G1 G2 ∧ Rel K H2 st2 G2 ∧ Pv (i + 1) st2, fun H2 z => ⟨S.xs.length - (i + 1), by omega, rfl, hlt, z⟩, fun v H2 y => ?_⟩
    obtain ⟨G2, x, e3, R2, hx, rx⟩ := (j1 hlt).2 v H2 y
    have N2 := erel_wipe (N.mono (e1.trans (e2.trans e3))) vs
    refine hg G2 H2 st' σ (wipe3 env vs) v x _ _ R2 N2 rx (pt i x st' hx p) fun σ2 H3 w z => ?_
    obtain ⟨env2, st2, G3, e4, R3, N3, q3⟩ := z
    refine ⟨w, bOf_go R3 N3 q3 fun b st3 G4 H4 e5 R4 q4 => ite_and ⟨fun hb => eOf_go R4 (N3.mono e5) (q4.1 hb) fun y st4 G5 H5 u e6 R5 ry q5 => ?_, fun hb => ⟨st3, G4, e2.trans (e3.trans (e4.trans e5)), R4, q4.2 hb⟩⟩⟩
    obtain ⟨acc, ha, hz, pn⟩ := q5
    obtain ⟨va, hv, ra⟩ := R5.lst ha
    exact ⟨va, hv, by rw [ra.length]; exact hz, _, G5, e2.trans (e3.trans (e4.trans (e5.trans e6))), R5.put ha (.lst (ra.append (.cons ry .nil))), pn⟩
  · have e : i = S.xs.length := by omega
    subst e
    exact .inl ⟨j2 (Nat.le_refl _), k _ _ ⟨_, st', G', e1.trans e2, R', .loc D, pd st' p⟩⟩
theorem le_lc {elt tg iter : Expr} {ifs : List Expr} {scope : Scope} {own : List (Str × Nat)} {pos : Pos} {ri : RI} {g : TG} {rg : RG} {rt : RT} {re : RE} (hc : X.calm = true) (hN : X.N.Nodup) (hi : LI X tg iter ri) (ok : BlkOk X.N X.env.scope scope own)
    (hg : ∀ (s : Shared) (H : Hp) (C : Addr) (cl : List (Str × Addr)) (fp : List Addr), PG (X.bk s H scope (compEnvC scope cl C X.env) fp) tg g) (hgo : TgOk X.kg g rg (own.map (·.2))) (ht : ∀ (s : Shared) (H : Hp) (C : Addr) (cl : List (Str × Addr)) (fp : List Addr), PTs (X.bk s H scope (compEnvC scope cl C X.env) fp) ifs (bOf X.kg rt))
    (he : ∀ (s : Shared) (H : Hp) (C : Addr) (cl : List (Str × Addr)) (fp : List Addr), LE (X.bk s H scope (compEnvC scope cl C X.env) fp) elt re) (hs : ∀ x, foldedSetIterable iter X.env x = pure x := by intro _; rfl) :
    LE X (.ListComp elt [⟨tg, iter, ifs, 0⟩] scope pos) (rLc ri rg rt re (own.map (·.2))) := PE.wk (pe_lc hc hN hi ok hg ht he hs) (tLc_go hgo)
/-- name = [..] -/
theorem ls_setLc {i : Nat} {y : Str} {py : Pos} {elt tg iter : Expr} {ifs : List Expr} {scope : Scope} {own : List (Str × Nat)} {pos spos : Pos} {ri : RI} {g : TG} {rg : RG} {rt : RT} {re : RE} (hc : X.calm = true) (hN : X.N.Nodup) (hy : X.N[i]? = some y) (hyl : X.env.scope.names.lookup y = some .local)
    (hsw : swapsWith (.ListComp elt [⟨tg, iter, ifs, 0⟩] scope pos) (some (.Name y py)) spos.line X.env = pure true) (hi : LI X tg iter ri) (ok : BlkOk X.N X.env.scope scope own)
    (hg : ∀ (s : Shared) (H : Hp) (C : Addr) (cl : List (Str × Addr)) (fp : List Addr), PG (X.bk s H scope (compEnvC scope cl C X.env) fp) tg g) (hgo : TgOk X.kg g rg (own.map (·.2))) (ht : ∀ (s : Shared) (H : Hp) (C : Addr) (cl : List (Str × Addr)) (fp : List Addr), PTs (X.bk s H scope (compEnvC scope cl C X.env) fp) ifs (bOf X.kg rt))
    (he : ∀ (s : Shared) (H : Hp) (C : Addr) (cl : List (Str × Addr)) (fp : List Addr), LE (X.bk s H scope (compEnvC scope cl C X.env) fp) elt re) (hs : ∀ x, foldedSetIterable iter X.env x = pure x := by intro _; rfl) :
    LS X (.Assign [.Name y py] (.ListComp elt [⟨tg, iter, ifs, 0⟩] scope pos) spos) (rAsg (rLc ri rg rt re (own.map (·.2))) (gNm i)) :=
  PS.wk (ps_setLc hc hN hy hyl hsw hi ok hg ht he hs) fun D σ H ⟨G, env, st, D3, R, N, h, d⟩ => tLc_go hgo σ H _ (eOf_go R N h fun t st1 G1 H1 v e1 R1 rp q => d.nx _ _ ⟨_, st1, G1, e1, R1, (N.mono e1).set rp i, q⟩)
end
/-! ### methods -/
def rM0 (ty : T → Sto → Prop) (rr : RRM) (ro : RE) : RE := fun env st Q => ro env st fun x st1 => ty x st1 ∧ rr x [] st1 Q
def rM (ty : T → Sto → Prop) (rr : RRM) (ro : RE) (rs : RA) : RE := fun env st Q => ro env st fun x st1 => ty x st1 ∧ rs env st1 fun ts st2 => rr x ts st2 Q
def ValTy (K : KG) (Ty : String) (ty : T → Sto → Prop) : Prop := ∀ G H st x v, Rel K H st G → Rep K G v x → ty x st → tyV K Ty v H
def tyL : T → Sto → Prop := fun x st => ∃ xs, LV st x xs
def tyS : T → Sto → Prop := fun x _ => match x with | .str _ => True | _ => False
def tyD : T → Sto → Prop := fun x st => match x with | .loc p => (∃ xs, st p = some (.dk xs)) ∨ (∃ xs, st p = some (.dt xs)) | .dk _ => True | _ => False
section
variable {K : KG}
theorem ty_l : ValTy K "list" tyL := fun G H st x v R r ⟨xs, l⟩ => by
  obtain ⟨a, vs, rfl, h, _⟩ := l.rd R r
  exact .inl ⟨rfl, _, SqL.of h⟩
theorem ty_s : ValTy K "str" tyS := fun G H st x v R r h => by
  unfold tyS at h
  split at h
  · cases r; rfl
  · exact h.elim
theorem ty_d : ValTy K "dict" tyD := fun G H st x v R r h => by
  unfold tyD at h
  split at h
  · cases r
    rcases h with ⟨xs, h⟩ | ⟨xs, h⟩
    · obtain ⟨vs, hv, _⟩ := R.dk h
      exact .inr (.inr (.inl ⟨rfl, .inl ⟨_, hv⟩⟩))
    · obtain ⟨vs, hv, _⟩ := R.dt h
      exact .inr (.inr (.inl ⟨rfl, .inr ⟨_, hv⟩⟩))
  · cases r with
    | dk h _ _ => exact .inr (.inr (.inl ⟨rfl, .inl ⟨_, R.sub _ _ h⟩⟩))
  · exact h.elim
end
section
variable {X : Cy} {o e : Expr} {es : List Expr} {ro : RE} {rs : RA} {name : Str} {apos cpos : Pos} {Ty id : String} {r : V → List V → Hp → VK → Prop} {rr : RRM} {ty : T → Sto → Prop}
theorem le_bm0 (pa : PlainAttrs Ty) (slot : Slot Ty name id) (hty : typeOf (.builtin id) = pure (.type "method_descriptor")) (hm : MtR X id r) (hv : ValM X.kg Ty r rr) (hvt : ValTy X.kg Ty ty) (ho : LE X o ro)
    (hbase : attributeBase o name X.env (eval o X.env) = eval o X.env := by rfl) (hline : (apos.endLine == cpos.line) = true := by rfl) : LE X (.Call (.Attribute o name apos) [] [] cpos) (rM0 ty rr ro) :=
  PE.wk (pe_bm0 pa slot hty hm ho hbase hline) fun σ H Q ⟨G, env, st, Q3, R, N, h, k⟩ => eOf_go R N h fun x st1 G1 H1 v e1 R1 rp q => ⟨hvt G1 H1 st1 x v R1 rp q.1, hv G1 H1 st1 x [] v [] Q3 Q R1 rp .nil q.2 fun v' H' z => k v' H' (liftV.up e1 z)⟩
theorem le_bm (pa : PlainAttrs Ty) (slot : Slot Ty name id) (hty : typeOf (.builtin id) = pure (.type "method_descriptor")) (hm : MtR X id r) (hv : ValM X.kg Ty r rr) (hvt : ValTy X.kg Ty ty) (ho : LE X o ro) (ha : LA X (e :: es) rs)
    (hbase : attributeBase o name X.env (eval o X.env) = eval o X.env := by rfl)
    (hfew : ((backTo cpos (starEach (e :: es) X.env)).all (fun x => !x.1) && (backToKw cpos (keywordEach [] X.env)).all (fun x => x.1.isSome)
      && decide ((e :: es).length + ([] : List Keyword).length + (if ([] : List Keyword).isEmpty then 0 else 1) < 30)) = true := by rfl)
    (hline : (apos.endLine == cpos.line) = true := by rfl) (hs : starEach (e :: es) X.env = (false, eval e X.env) :: starEach es X.env := by rfl) (hplain : (backTo cpos (starEach es X.env)).any (·.1) = false := by rfl) :
    LE X (.Call (.Attribute o name apos) (e :: es) [] cpos) (rM ty rr ro rs) :=
  PE.wk (pe_bm pa slot hty hm ho ha hbase hfew hline hs hplain) fun σ H Q ⟨G, env, st, Q3, R, N, h, k⟩ => eOf_go R N h fun x st1 G1 H1 v e1 R1 rp q => ⟨hvt G1 H1 st1 x v R1 rp q.1, aOf_go R1 (N.mono e1) q.2 fun ts st2 G2 H2 vs e2 R2 rps q2 =>
    hv G2 H2 st2 x ts v vs Q3 Q R2 (rp.mono e2) rps q2 fun v' H' z => k v' H' (liftV.up (e1.trans e2) z)⟩
end
def rrAppend : RRM := fun x ts st Q => match x, ts with | .loc p, [t] => ∃ xs, st p = some (.lst xs) ∧ xs.length < sizeLine ∧ Q .non (supd st p (.lst (xs ++ [t]))) | _, _ => False
def rrExtend : RRM := fun x ts st Q => match x, ts with | .loc p, [t] => ∃ xs ys, st p = some (.lst xs) ∧ LV st t ys ∧ xs.length + ys.length ≤ sizeLine ∧ Q .non (supd st p (.lst (xs ++ ys))) | _, _ => False
def rrPop : RRM := fun x ts st Q => match x, ts with | .loc p, [] => ∃ xs y, st p = some (.lst xs) ∧ xs[xs.length - 1]? = some y ∧ Q y (supd st p (.lst xs.dropLast)) | _, _ => False
def rrClear : RRM := fun x ts st Q => match x, ts with | .loc p, [] => ∃ xs, st p = some (.lst xs) ∧ Q .non (supd st p (.lst [])) | _, _ => False
section
variable {K : KG}
theorem vm_append : ValM K "list" rAppend rrAppend := fun G H st x ts v vs Q3 Q R rx rs q k => by
  unfold rrAppend at q
  split at q
  · cases rx
    cases rs with
    | cons a rs =>
    cases rs
    obtain ⟨xs, hs, hz, q⟩ := q
    obtain ⟨ws, hw, rw_⟩ := R.lst hs
    exact ⟨_, _, _, rfl, rfl, hw, by rw [rw_.length]; exact hz, k _ _ ⟨_, _, G, Ex.refl G, R.put hs (.lst (rw_.append (.cons a .nil))), .non, q⟩⟩
  · exact q.elim
theorem vm_extend : ValM K "list" rExtend rrExtend := fun G H st x ts v vs Q3 Q R rx rs q k => by
  unfold rrExtend at q
  split at q
  · cases rx
    cases rs with
    | cons a rs =>
    cases rs
    obtain ⟨xs, ys, hs, l, hz, q⟩ := q
    obtain ⟨ws, hw, rw_⟩ := R.lst hs
    obtain ⟨b, zs, rfl, hb, rz⟩ := l.rd R a
    exact ⟨_, _, _, _, rfl, rfl, hw, hb, by rw [rw_.length, rz.length]; exact hz, k _ _ ⟨_, _, G, Ex.refl G, R.put hs (.lst (rw_.append rz)), .non, q⟩⟩
  · exact q.elim
theorem vm_pop : ValM K "list" rPop rrPop := fun G H st x ts v vs Q3 Q R rx rs q k => by
  unfold rrPop at q
  split at q
  · cases rx
    cases rs
    obtain ⟨xs, y, hs, hy, q⟩ := q
    obtain ⟨ws, hw, rw_⟩ := R.lst hs
    obtain ⟨u, h1, h2⟩ := rw_.get hy
    exact ⟨_, _, u, rfl, rfl, hw, by rw [rw_.length]; exact h1, k _ _ ⟨_, _, G, Ex.refl G, R.put hs (.lst rw_.dropLast), h2, q⟩⟩
  · exact q.elim
theorem vm_clear : ValM K "list" rClear rrClear := fun G H st x ts v vs Q3 Q R rx rs q k => by
  unfold rrClear at q
  split at q
  · cases rx
    cases rs
    obtain ⟨xs, hs, q⟩ := q
    obtain ⟨ws, hw, rw_⟩ := R.lst hs
    exact ⟨_, _, rfl, rfl, hw, k _ _ ⟨_, _, G, Ex.refl G, R.put hs (.lst .nil), .non, q⟩⟩
  · exact q.elim
end
section
variable {X : Cy} {o e : Expr} {ro re : RE} {rs : RA} {apos cpos : Pos}
/-- xs.append(e) as a statement's expression -/
theorem le_append (ho : LE X o ro) (ha : LA X [e] rs) (hbase : attributeBase o "append" X.env (eval o X.env) = eval o X.env := by rfl)
    (hfew : ((backTo cpos (starEach [e] X.env)).all (fun x => !x.1) && (backToKw cpos (keywordEach [] X.env)).all (fun x => x.1.isSome)
      && decide ([e].length + ([] : List Keyword).length + (if ([] : List Keyword).isEmpty then 0 else 1) < 30)) = true := by rfl)
    (hline : (apos.endLine == cpos.line) = true := by rfl) (hs : starEach [e] X.env = (false, eval e X.env) :: starEach [] X.env := by rfl) (hplain : (backTo cpos (starEach [] X.env)).any (·.1) = false := by rfl) :
    LE X (.Call (.Attribute o "append" apos) [e] [] cpos) (rM tyL rrAppend ro rs) :=
  le_bm PySem.F.plainAttrs_list PySem.F.slot_list_append PySem.F.type_list_append mt_append vm_append ty_l ho ha hbase hfew hline hs hplain
theorem le_extend (ho : LE X o ro) (ha : LA X [e] rs) (hbase : attributeBase o "extend" X.env (eval o X.env) = eval o X.env := by rfl)
    (hfew : ((backTo cpos (starEach [e] X.env)).all (fun x => !x.1) && (backToKw cpos (keywordEach [] X.env)).all (fun x => x.1.isSome)
      && decide ([e].length + ([] : List Keyword).length + (if ([] : List Keyword).isEmpty then 0 else 1) < 30)) = true := by rfl)
    (hline : (apos.endLine == cpos.line) = true := by rfl) (hs : starEach [e] X.env = (false, eval e X.env) :: starEach [] X.env := by rfl) (hplain : (backTo cpos (starEach [] X.env)).any (·.1) = false := by rfl) :
    LE X (.Call (.Attribute o "extend" apos) [e] [] cpos) (rM tyL rrExtend ro rs) :=
  le_bm PySem.F.plainAttrs_list PySem.F.slot_list_extend PySem.F.type_list_extend mt_extend vm_extend ty_l ho ha hbase hfew hline hs hplain
theorem le_pop (ho : LE X o ro) (hbase : attributeBase o "pop" X.env (eval o X.env) = eval o X.env := by rfl) (hline : (apos.endLine == cpos.line) = true := by rfl) : LE X (.Call (.Attribute o "pop" apos) [] [] cpos) (rM0 tyL rrPop ro) :=
  le_bm0 PySem.F.plainAttrs_list PySem.F.slot_list_pop PySem.F.type_list_pop mt_pop vm_pop ty_l ho hbase hline
theorem le_clear (ho : LE X o ro) (hbase : attributeBase o "clear" X.env (eval o X.env) = eval o X.env := by rfl) (hline : (apos.endLine == cpos.line) = true := by rfl) : LE X (.Call (.Attribute o "clear" apos) [] [] cpos) (rM0 tyL rrClear ro) :=
  le_bm0 PySem.F.plainAttrs_list PySem.F.slot_list_clear PySem.F.type_list_clear mt_clear vm_clear ty_l ho hbase hline
end
end L3

/-! L3: defs as they stand behind the top, their promises bundled. -/
namespace L3
open PySem PySem.Spec PyProof.Rows L2
open Evl (Ex)
/-- the built-ins' names are not the module's own -/
structure Bi (mg : Str → Option Value) : Prop where
  len : mg "len" = none
  range : mg "range" = none
  list : mg "list" = none
  tuple : mg "tuple" = none
  max : mg "max" = none
  min : mg "min" = none
  sum : mg "sum" = none
  any : mg "any" = none
  all : mg "all" = none
  sorted : mg "sorted" = none
  isinstance : mg "isinstance" = none
  int : mg "int" = none
  str : mg "str" = none
  bool : mg "bool" = none
  zip : mg "zip" = none
  enumerate : mg "enumerate" = none
  dict : mg "dict" = none
  set : mg "set" = none
  ValueError : mg "ValueError" = none
/-- a def of the text as it stands behind the top -/
structure Tx (K : PySem.W.Frag) (mg : Str → Option Value) (nm qual : Str) (stm : Stmt) (ps : List Str) : Prop where
  ex : ∃ f fd, Fun K nm qual stm f fd ∧ mg nm = some (.ref f) ∧ Binds K fd ps []
/-- it keeps its promise -/
structure Df (P : Program) (w : World) (K : PySem.W.Frag) (mg : Str → Option Value) (base : Heap) (k : Nat) (nm : Str) (ps : List Str) (sp : Sp3) : Prop where
  ex : ∃ f fd, FnOk P w K mg base CX0 k f fd ps (lift3 K sp) ∧ mg nm = some (.ref f) ∧ PySem.W.keepIn K (.ref f) = true ∧ Binds K fd ps []
def pureSp {α : Type} (args : α → List T) (pre : α → Prop) (res : α → T) : Sp3 := fun ts st Q _ => ∃ x, ts = args x ∧ pre x ∧ Q (res x) st
section
variable {X : Cy} {sp : Sp3} {k : Nat} {ps : List Str} {x : Str} {p pos : Pos} {e : Expr} {es : List Expr} {rs : RA}
theorem le_callD (D : Df X.prog X.w X.K X.mg X.base k x ps sp) (hr : Room k X.A) (hg : Gl X x)
    (ha : LA X (e :: es) rs) (hdb : (x == ("__debug__" : Str)) = false := by decide) (he : starEach (e :: es) X.env = (false, eval e X.env) :: starEach es X.env := by rfl) (hpl : (backTo pos (starEach es X.env)).any (·.1) = false := by rfl) :
    LE X (.Call (.Name x p) (e :: es) [] pos) (rCall sp rs) := by
  obtain ⟨f, fd, F, hm, hk, hb⟩ := D.ex
  exact le_call F hr hg hm hk hb ha hdb he hpl
theorem le_callD0 (D : Df X.prog X.w X.K X.mg X.base k x ps sp) (hr : Room k X.A) (hg : Gl X x)
    (hdb : (x == ("__debug__" : Str)) = false := by decide) : LE X (.Call (.Name x p) [] [] pos) (rCall sp rNil) := by
  obtain ⟨f, fd, F, hm, hk, hb⟩ := D.ex
  exact le_call0 F hr hg hm hk hb hdb
end
section
variable {P : Program} {w : World} {K : PySem.W.Frag} {mg : Str → Option Value} {base : Heap}
theorem dmk {nm qual : Str} {stm : Stmt} {N ps : List Str} {k : Nat} {sp : Sp3} (t : Tx K mg nm qual stm ps) (S : FnScope N ps (defScope stm)) (len : ∀ ts st Q E, sp ts st Q E → ts.length = ps.length)
    (hbody : ∀ (f : Addr) (cdv : Value) (A : Around) (outer : List Env) (s : Shared) (H : Hp) (E : XK), Room k (A.deeper (envOfC qual (defScope stm) s.heap.objs.size f cdv)) →
      ∃ r, (∀ gb, LSs ⟨(cxOf CX0 P w K mg base N qual (defScope stm) f cdv A outer s H E).nox, gb⟩ (defBody stm) r) ∧
        ∀ ts st Q E3, sp ts st Q E3 → r { nx := fun _ st' => upQ Q .non st', rt := upQ Q } (start3 N ts) st) : Df P w K mg base (k + 1) nm ps sp := by
  obtain ⟨f, fd, F, hm, hb⟩ := t.ex
  exact ⟨f, fd, ok3 F S len (hbody f), hm, F.kp, hb⟩
end
theorem pure_len {α : Type} {args : α → List T} {pre : α → Prop} {res : α → T} {n : Nat} (h : ∀ x, (args x).length = n) : ∀ ts st Q E, pureSp args pre res ts st Q E → ts.length = n := by
  rintro ts st Q E ⟨x, rfl, _⟩
  exact h x
theorem sz {n : Nat} (h : n ≤ 16777216) : n ≤ sizeLine := by rw [sizeLine_eq]; exact h
theorem sz' {n : Nat} (h : Nat.ble n 16777216 = true) : n ≤ sizeLine := sz (Nat.le_of_ble_eq_true h)
theorem szl {n : Nat} (h : n < 16777216) : n < sizeLine := by rw [sizeLine_eq]; exact h

/-! ### how the program's things are written as trees -/
structure Knd where
  name : Str
  width : Int
  worth : Int
  allowed : Int
  deriving DecidableEq
def eK (k : Knd) : T := .tup [.str k.name, .int k.width, .int k.worth, .int k.allowed]
def eTb (tb : List Knd) : T := .lst (tb.map eK)
def eIs (l : List Int) : T := .lst (l.map T.int)
def eP (p : Int × Str) : T := .tup [.int p.1, .str p.2]
def eCut (c : List (Int × Str)) : T := .lst (c.map eP)
/-! ### lists by places -/
theorem atI_map {α β : Type} (f : α → β) (l : List α) (i : Int) : atI (l.map f) i = (atI l i).map f := by
  unfold atI
  rw [List.length_map]
  cases ixN l.length i with
  | none => rfl
  | some j => exact List.getElem?_map
theorem atI_ix {α : Type} {l : List α} {i : Int} {j : Nat} {v : α} (e : i = (j : Int)) (h : l[j]? = some v) : atI l i = some v := by
  subst e
  exact atI_nat h
theorem atI_ints {l : List Int} {i : Int} {v : Int} (h : atI l i = some v) : atI (l.map T.int) i = some (.int v) := by
  rw [atI_map, h]
  rfl
theorem atI_lastI {l : List Int} {v : Int} (h : l.getLast? = some v) : atI (l.map T.int) (-1) = some (.int v) := by
  obtain ⟨ys, rfl⟩ := List.getLast?_eq_some_iff.mp h
  rw [List.map_append]
  exact atI_last _ _
end L3

namespace Sv
open PySem L2 L3
def topS (i : Nat) : Stmt := PySem.Challenge.pw_selvage_k33_too_many.main.body.getD i (.Pass ⟨0, 0, 0, 0⟩)
abbrev s_running_sums : Stmt := topS 1
abbrev s_ends_well : Stmt := topS 2
abbrev s_heights : Stmt := topS 3
abbrev s_best_ends : Stmt := topS 10
abbrev s_ways_ahead : Stmt := topS 11
abbrev s_best_count : Stmt := topS 12
abbrev s_all_best : Stmt := topS 13
abbrev s_q_cell : Stmt := topS 15
abbrev s_q_mix : Stmt := topS 16
abbrev s_q_row : Stmt := topS 17
abbrev s_q_table : Stmt := topS 18
abbrev s_q_flaw : Stmt := topS 19
abbrev s_q_roll : Stmt := topS 20
abbrev s_q_drawn : Stmt := topS 21
abbrev s_q_sums : Stmt := topS 22
abbrev s_q_good : Stmt := topS 23
abbrev s_q_heights : Stmt := topS 24
abbrev s_q_is_whole : Stmt := topS 25
abbrev s_q_best_count : Stmt := topS 26
abbrev s_q_asked : Stmt := topS 27
abbrev s_law : Stmt := topS 28
abbrev s_TooMany_init : Stmt := inClass (topS 7) 0
end Sv

/-! L3: isinstance, zip, enumerate, dicts, stores into lists, lists of ranges. -/
namespace L3
open PySem PySem.Spec PyProof.Rows L2
open Evl (Ex)

/-! ### isinstance -/
/-- the built-in type's name -/
def TyN (st : Sto) (t : T) (n : String) : Prop := match t with
  | .non => n = "NoneType" | .bl _ => n = "bool" | .int _ => n = "int" | .str _ => n = "str" | .lst _ => n = "list" | .tup _ => n = "tuple" | .dk _ => n = "dict"
  | .loc p => (∃ xs, st p = some (.lst xs) ∧ n = "list") ∨ (∃ xs, st p = some (.dk xs) ∧ n = "dict")
  | _ => False
theorem TyN.ok {K : KG} {G H : Hp} {st : Sto} {t : T} {v : V} {n : String} (R : Rel K H st G) (r : Rep K G v t) (h : TyN st t n) : TyX K H v (.type n) := by
  cases r with
  | non => cases h; exact .base .non
  | bl b => cases h; exact .base (.bl b)
  | int i => cases h; exact .base (.int i)
  | str x => cases h; exact .base (.str x)
  | lst e _ => cases h; exact .base (.lst (R.sub _ _ e))
  | tup e _ => cases h; exact .base (.tup (R.sub _ _ e))
  | dk e _ _ => cases h; exact .base (.dK (R.sub _ _ e))
  | loc a =>
    rcases h with ⟨xs, h, rfl⟩ | ⟨xs, h, rfl⟩
    · obtain ⟨vs, hv, _⟩ := R.lst h
      exact .base (.lst hv)
    · obtain ⟨vs, hv, _⟩ := R.dk h
      exact .base (.dK hv)
  | _ => exact h.elim
def rIsiB (n : String) (r : RE) : RE := fun env st Q => r env st fun t st1 => ∃ a b, TyN st1 t a ∧ kitB a n = some b ∧ Q (.bl b) st1
theorem k_ii : kitB "int" "int" = some true := by decide +kernel
theorem k_bi : kitB "bool" "int" = some true := by decide +kernel
theorem k_si : kitB "str" "int" = some false := by decide +kernel
theorem k_ni : kitB "NoneType" "int" = some false := by decide +kernel
theorem k_li : kitB "list" "int" = some false := by decide +kernel
theorem k_ti : kitB "tuple" "int" = some false := by decide +kernel
theorem k_ib : kitB "int" "bool" = some false := by decide +kernel
theorem k_bb : kitB "bool" "bool" = some true := by decide +kernel
theorem k_lb : kitB "list" "bool" = some false := by decide +kernel
theorem k_nb : kitB "NoneType" "bool" = some false := by decide +kernel
theorem k_ss : kitB "str" "str" = some true := by decide +kernel
theorem k_ll : kitB "list" "list" = some true := by decide +kernel
theorem k_il : kitB "int" "list" = some false := by decide +kernel
theorem k_nl : kitB "NoneType" "list" = some false := by decide +kernel
theorem k_tl : kitB "tuple" "list" = some false := by decide +kernel
theorem k_lt : kitB "list" "tuple" = some false := by decide +kernel
theorem k_it : kitB "int" "tuple" = some false := by decide +kernel
theorem k_tt : kitB "tuple" "tuple" = some true := by decide +kernel
section
variable {X : Cy} {e : Expr} {p pos p2 : Pos} {re : RE} {n : String}
theorem le_isi {x : Str} {u : Value} (hg : Gl X "isinstance") (hm : X.mg "isinstance" = none) (hg2 : Gl X x) (hm2 : X.mg x = none) (hv : bootBuiltins x = some (.type n)) (ha : LE X e re) (hn : x ≠ "__name__" := by decide) (hd : (x == ("__debug__" : Str)) = false := by decide)
    (he : starEach [e, .Name x p2] X.env = (false, eval e X.env) :: starEach [.Name x p2] X.env := by rfl) (hpl : (backTo pos (starEach [.Name x p2] X.env)).any (·.1) = false := by rfl) (he2 : starEach [.Name x p2] X.env = (false, eval (.Name x p2) X.env) :: starEach [] X.env := by rfl) :
    LE X (.Call (.Name "isinstance" p) [e, .Name x p2] [] pos) (rIsiB n re) :=
  PE.wk (pe_callB call_isi hg hm (by decide +kernel) (pa_cons ha (pa_cons (pe_bltn (v := .ty n) hg2 hm2 hv rfl hn hd) pa_nil he2) he) (he := he) (hpl := hpl)) fun σ H Q ⟨G, env, st, Q3, R, N, q, k⟩ => eOf_go R N q fun t st1 G1 H1 v e1 R1 rp ⟨a, b, ht, hk, q1⟩ =>
    ⟨_, _, _, _, b, rfl, .ty n, ht.ok R1 rp, kit_ty hk, k _ _ ⟨_, st1, G1, e1, R1, .bl b, q1⟩⟩
theorem le_isi_int (hg : Gl X "isinstance") (hm : X.mg "isinstance" = none) (hg2 : Gl X "int") (hm2 : X.mg "int" = none) (ha : LE X e re) (he : starEach [e, .Name "int" p2] X.env = (false, eval e X.env) :: starEach [.Name "int" p2] X.env := by rfl) (hpl : (backTo pos (starEach [.Name "int" p2] X.env)).any (·.1) = false := by rfl) (he2 : starEach [.Name "int" p2] X.env = (false, eval (.Name "int" p2) X.env) :: starEach [] X.env := by rfl) :
    LE X (.Call (.Name "isinstance" p) [e, .Name "int" p2] [] pos) (rIsiB "int" re) := le_isi (u := .none) hg hm hg2 hm2 (by decide +kernel) ha (he := he) (hpl := hpl) (he2 := he2)
theorem le_isi_bool (hg : Gl X "isinstance") (hm : X.mg "isinstance" = none) (hg2 : Gl X "bool") (hm2 : X.mg "bool" = none) (ha : LE X e re) (he : starEach [e, .Name "bool" p2] X.env = (false, eval e X.env) :: starEach [.Name "bool" p2] X.env := by rfl) (hpl : (backTo pos (starEach [.Name "bool" p2] X.env)).any (·.1) = false := by rfl) (he2 : starEach [.Name "bool" p2] X.env = (false, eval (.Name "bool" p2) X.env) :: starEach [] X.env := by rfl) :
    LE X (.Call (.Name "isinstance" p) [e, .Name "bool" p2] [] pos) (rIsiB "bool" re) := le_isi (u := .none) hg hm hg2 hm2 (by decide +kernel) ha (he := he) (hpl := hpl) (he2 := he2)
theorem le_isi_str (hg : Gl X "isinstance") (hm : X.mg "isinstance" = none) (hg2 : Gl X "str") (hm2 : X.mg "str" = none) (ha : LE X e re) (he : starEach [e, .Name "str" p2] X.env = (false, eval e X.env) :: starEach [.Name "str" p2] X.env := by rfl) (hpl : (backTo pos (starEach [.Name "str" p2] X.env)).any (·.1) = false := by rfl) (he2 : starEach [.Name "str" p2] X.env = (false, eval (.Name "str" p2) X.env) :: starEach [] X.env := by rfl) :
    LE X (.Call (.Name "isinstance" p) [e, .Name "str" p2] [] pos) (rIsiB "str" re) := le_isi (u := .none) hg hm hg2 hm2 (by decide +kernel) ha (he := he) (hpl := hpl) (he2 := he2)
theorem le_isi_list (hg : Gl X "isinstance") (hm : X.mg "isinstance" = none) (hg2 : Gl X "list") (hm2 : X.mg "list" = none) (ha : LE X e re) (he : starEach [e, .Name "list" p2] X.env = (false, eval e X.env) :: starEach [.Name "list" p2] X.env := by rfl) (hpl : (backTo pos (starEach [.Name "list" p2] X.env)).any (·.1) = false := by rfl) (he2 : starEach [.Name "list" p2] X.env = (false, eval (.Name "list" p2) X.env) :: starEach [] X.env := by rfl) :
    LE X (.Call (.Name "isinstance" p) [e, .Name "list" p2] [] pos) (rIsiB "list" re) := le_isi (u := .none) hg hm hg2 hm2 (by decide +kernel) ha (he := he) (hpl := hpl) (he2 := he2)
theorem le_isi_tuple (hg : Gl X "isinstance") (hm : X.mg "isinstance" = none) (hg2 : Gl X "tuple") (hm2 : X.mg "tuple" = none) (ha : LE X e re) (he : starEach [e, .Name "tuple" p2] X.env = (false, eval e X.env) :: starEach [.Name "tuple" p2] X.env := by rfl) (hpl : (backTo pos (starEach [.Name "tuple" p2] X.env)).any (·.1) = false := by rfl) (he2 : starEach [.Name "tuple" p2] X.env = (false, eval (.Name "tuple" p2) X.env) :: starEach [] X.env := by rfl) :
    LE X (.Call (.Name "isinstance" p) [e, .Name "tuple" p2] [] pos) (rIsiB "tuple" re) := le_isi (u := .none) hg hm hg2 hm2 (by decide +kernel) ha (he := he) (hpl := hpl) (he2 := he2)
end

/-! ### zip, enumerate: the pairs are new tuples -/
def zipT (xs ys : List T) : List T := (xs.zip ys).map fun p => .tup [p.1, p.2]
def enumT (xs : List T) : List T := (List.range xs.length).zipWith (fun i x => .tup [.int (i : Nat), x]) xs
def riZip (rs : RA) : RI := fun env st Q => rs env st fun ts st1 => match ts with | [t, u] => ∃ xs ys, LV st1 t xs ∧ LV st1 u ys ∧ Q ⟨zipT xs ys, fun st' => LV st' t xs ∧ LV st' u ys⟩ st1 | _ => False
def riEnum (rs : RA) : RI := fun env st Q => rs env st fun ts st1 => match ts with | [t] => ∃ xs, LV st1 t xs ∧ Q ⟨enumT xs, fun st' => LV st' t xs⟩ st1 | _ => False
theorem zipT_len (xs ys : List T) : (zipT xs ys).length = min xs.length ys.length := by unfold zipT; rw [List.length_map, List.length_zip]
theorem zipT_get {xs ys : List T} {i : Nat} {x y : T} (hx : xs[i]? = some x) (hy : ys[i]? = some y) : (zipT xs ys)[i]? = some (.tup [x, y]) := by
  unfold zipT
  rw [List.getElem?_map, List.getElem?_zip_eq_some (z := (x, y)) |>.mpr ⟨hx, hy⟩]; rfl
theorem zipT_at {xs ys : List T} {i : Nat} {z : T} (h : (zipT xs ys)[i]? = some z) : ∃ x y, xs[i]? = some x ∧ ys[i]? = some y ∧ z = .tup [x, y] := by
  unfold zipT at h
  rw [List.getElem?_map] at h
  cases e : (xs.zip ys)[i]? with
  | none => rw [e] at h; cases h
  | some p =>
    rw [e] at h; cases h
    obtain ⟨h1, h2⟩ := List.getElem?_zip_eq_some.mp e
    exact ⟨p.1, p.2, h1, h2, rfl⟩
theorem enumT_len (xs : List T) : (enumT xs).length = xs.length := by unfold enumT; rw [List.length_zipWith, List.length_range]; omega
theorem enumT_get {xs : List T} {i : Nat} {x : T} (hx : xs[i]? = some x) : (enumT xs)[i]? = some (.tup [.int (i : Nat), x]) := by
  have hi := (List.getElem?_eq_some_iff.mp hx).1
  unfold enumT
  rw [List.getElem?_zipWith, List.getElem?_range hi, hx]
theorem enumT_at {xs : List T} {i : Nat} {z : T} (h : (enumT xs)[i]? = some z) : ∃ x, xs[i]? = some x ∧ z = .tup [.int (i : Nat), x] := by
  have hi : i < xs.length := by
    have := (List.getElem?_eq_some_iff.mp h).1
    rw [enumT_len] at this; exact this
  have hx := List.getElem?_eq_getElem hi
  rw [enumT_get hx] at h
  cases h
  exact ⟨_, hx, rfl⟩
section
variable {X : Cy} {pos tpos p : Pos} {e e2 : Expr} {elts : List Expr} {kk : Nat} {rs : RA}
theorem li_zip (hg : Gl X "zip") (hm : X.mg "zip" = none) (ha : LA X [e, e2] rs) (hs : starEach [e, e2] X.env = (false, eval e X.env) :: starEach [e2] X.env := by rfl) (hpl : (backTo pos (starEach [e2] X.env)).any (·.1) = false := by rfl) :
    LI X (.Tuple elts kk tpos) (.Call (.Name "zip" p) [e, e2] [] pos) (riZip rs) := PI.wk (pi_zip hg hm ha hs hpl) fun σ H P ⟨G, env, st, Q3, R, N, h, k⟩ => aOf_go R N h fun ts st1 G1 H1 vs e1 R1 rp q => by
  split at q
  · cases rp with
    | cons r1 rp =>
    cases rp with
    | cons r2 rp =>
    cases rp
    obtain ⟨xs, ys, l1, l2, q⟩ := q
    obtain ⟨a, vx, rfl, hx, rx⟩ := l1.rd R1 r1
    obtain ⟨b, vy, rfl, hy, ry⟩ := l2.rd R1 r2
    refine ⟨a, b, vx, vy, rfl, SqL.of hx, SqL.of hy, k _ _ st1 G1 H1 e1 R1 q fun i H2 st2 G2 e2 R2 ⟨m1, m2⟩ => ?_⟩
    obtain ⟨a', vx', z1, hx', rx'⟩ := m1.rd R2 (r1.mono e2)
    obtain ⟨b', vy', z2, hy', ry'⟩ := m2.rd R2 (r2.mono e2)
    cases z1; cases z2
    have l1 := rx'.length
    have l2 := ry'.length
    have lz := zipT_len xs ys
    refine ⟨fun hi => ⟨?_, fun w H' y => ?_⟩, fun hi => ⟨vx', vy', SqL.of hx', SqL.of hy', by dsimp only at hi; omega⟩⟩
    · dsimp only at hi
      have h1 : i < vx'.length := by omega
      have h2 : i < vy'.length := by omega
      exact ⟨vx', vy', vx'[i], vy'[i], SqL.of hx', SqL.of hy', List.getElem?_eq_getElem h1, List.getElem?_eq_getElem h2⟩
    · obtain ⟨T0, x, y, rfl, nT, rfl, fx, fy⟩ := y
      obtain ⟨tx, a1, a2⟩ := rx'.getV (fx vx' (SqL.of hx'))
      obtain ⟨ty, b1, b2⟩ := ry'.getV (fy vy' (SqL.of hy'))
      have e3 := Ex.new (o := .tup [x, y]) (R2.noG nT)
      exact ⟨_, _, e3, R2.newG nT, zipT_get a1 b1, .tup upd_same (.cons (a2.mono e3) (.cons (b2.mono e3) .nil))⟩
  · exact q.elim
theorem li_enum (hg : Gl X "enumerate") (hm : X.mg "enumerate" = none) (ha : LA X [e] rs) (hs : starEach [e] X.env = [(false, eval e X.env)] := by rfl) :
    LI X (.Tuple elts kk tpos) (.Call (.Name "enumerate" p) [e] [] pos) (riEnum rs) := PI.wk (pi_enum hg hm ha hs) fun σ H P ⟨G, env, st, Q3, R, N, h, k⟩ => aOf_go R N h fun ts st1 G1 H1 vs e1 R1 rp q => by
  split at q
  · cases rp with
    | cons r1 rp =>
    cases rp
    obtain ⟨xs, l1, q⟩ := q
    obtain ⟨a, vx, rfl, hx, rx⟩ := l1.rd R1 r1
    refine ⟨a, vx, rfl, SqL.of hx, k _ _ st1 G1 H1 e1 R1 q fun i H2 st2 G2 e2 R2 m1 => ?_⟩
    obtain ⟨a', vx', z1, hx', rx'⟩ := m1.rd R2 (r1.mono e2)
    cases z1
    have l1 := rx'.length
    have lz := enumT_len xs
    refine ⟨fun hi => ⟨?_, fun w H' y => ?_⟩, fun hi => ⟨vx', SqL.of hx', by dsimp only at hi; omega⟩⟩
    · dsimp only at hi
      have h1 : i < vx'.length := by omega
      exact ⟨vx', vx'[i], SqL.of hx', List.getElem?_eq_getElem h1⟩
    · obtain ⟨T0, x, rfl, nT, rfl, fx⟩ := y
      obtain ⟨tx, a1, a2⟩ := rx'.getV (fx vx' (SqL.of hx'))
      have e3 := Ex.new (o := .tup [.int (i : Nat), x]) (R2.noG nT)
      exact ⟨_, _, e3, R2.newG nT, enumT_get a1, .tup upd_same (.cons (.int _) (.cons (a2.mono e3) .nil))⟩
  · exact q.elim
end

/-! ### stores into lists -/
def gSubL (ra rb : RE) : RG := fun t env st P => ra env st fun o st1 => rb env st1 fun i st2 => match o, i with
  | .loc p, .int k => ∃ xs j, st2 p = some (.lst xs) ∧ ixN xs.length k = some j ∧ P env (supd st2 p (.lst (xs.set j t)))
  | _, _ => False
section
variable {X : Cy} {a b : Expr} {ra rb : RE} {pos : Pos}
theorem lg_subL (ha : LE X a ra) (hb : LE X b rb) (h0 : ∀ v, assign (.Subscript a b pos) X.env v = (do
    let ov ← holding [v] (eval a X.env)
    let iv ← holding [v, ov] (eval b X.env)
    standAt pos
    holding [v, ov, iv] (setItem ov iv v)
    release [v, ov, iv] []) := by intro _; rfl) : LG X (.Subscript a b pos) (gSubL ra rb) := PG.wk (pg_sub ha hb set_list h0) fun v σ H Q ⟨G, env, st, t, P, R, N, rp, h, k⟩ =>
  eOf_go R N h fun o st1 G1 H1 vo e1 R1 ro q1 => eOf_go R1 (N.mono e1) q1 fun i st2 G2 H2 vi e2 R2 ri q2 => by
    split at q2
    · cases ro; cases ri
      obtain ⟨xs, j, hs, hj, q⟩ := q2
      obtain ⟨ws, hw, rw_⟩ := R2.lst hs
      exact ⟨_, _, _, j, rfl, rfl, hw, by rw [rw_.length]; exact hj, k _ _ ⟨env, _, G2, e1.trans e2, R2.put hs (.lst (Reps.set (rp.mono (e1.trans e2)) j rw_)), N.mono (e1.trans e2), q⟩⟩
    · exact q2.elim
end
theorem ixN_nat {n j : Nat} {k : Int} (e : k = (j : Int)) (h : j < n) : ixN n k = some j := by
  subst e
  unfold ixN
  rw [if_pos (by omega), if_pos (by omega)]
  simp

/-! ### list(range(..)), int(flag) -/
def rrLR1 : List T → Sto → TQ → Prop := fun ts st Q => match ts with | [.int j] => RgOk 0 j ∧ Q (.lst (rgI 0 j.toNat)) st | _ => False
theorem rgV_rep {K : PySem.W.Frag} {G : Hp} (a b : Int) : Reps K G (rgV a b) (rgI a (b - a).toNat) := by
  unfold rgV rgI
  have : ∀ l : List Nat, Reps K G (l.map fun i => V.int (a + (i : Nat))) (l.map fun (k : Nat) => T.int (a + k)) := fun l => by
    induction l with
    | nil => exact .nil
    | cons x l ih => exact .cons (.int _) ih
  exact this _
def rLR1 (ra : RE) : RE := fun env st Q => ra env st fun t st1 => match t with | .int j => RgOk 0 j ∧ Q (.lst (rgI 0 j.toNat)) st1 | _ => False
def rLR1M (ra : RE) : RE := fun env st Q => ra env st fun t st1 => match t with | .int j => RgOk 0 j ∧ ∀ p, st1 p = none → Q (.loc p) (supd st1 p (.lst (rgI 0 j.toNat))) | _ => False
def rLR2 (ra rb : RE) : RE := fun env st Q => ra env st fun t st1 => rb env st1 fun u st2 => match t, u with | .int i, .int j => RgOk i j ∧ Q (.lst (rgI i (j - i).toNat)) st2 | _, _ => False
section
variable {X : Cy} {a b : Expr} {ra rb : RE} {p q p2 q2 : Pos}
theorem le_listR1 (hc : X.calm = true) (hg : Gl X "list") (hm : X.mg "list" = none) (hg2 : Gl X "range") (hm2 : X.mg "range" = none) (ha : LE X a ra) (na : starEach [a] X.env = (false, eval a X.env) :: starEach [] X.env := by rfl)
    (nb : starEach [.Call (.Name "range" p2) [a] [] q2] X.env = (false, eval (.Call (.Name "range" p2) [a] [] q2) X.env) :: starEach [] X.env := by rfl) : LE X (.Call (.Name "list" p) [.Call (.Name "range" p2) [a] [] q2] [] q) (rLR1 ra) :=
  PE.wk (pe_listRg hc hg hm (prg_1 hg2 hm2 ha na) nb) fun σ H Q ⟨G, env, st, Q3, R, N, h, k⟩ => eOf_go R N h fun t st1 G1 H1 v e1 R1 rp q => by
    split at q
    · cases rp
      rename_i j
      refine ⟨j, rfl, q.1, fun l hl => ?_⟩
      have q2 := q.2
      have rr := fun G => rgV_rep (K := X.K) (G := G) 0 j
      rw [Int.sub_zero] at rr
      exact k _ _ ⟨_, st1, _, e1.trans (Ex.new (R1.noG hl)), R1.newG hl, .lst upd_same (rr _), q2⟩
    · exact q.elim
theorem le_listR1M (hc : X.calm = true) (hg : Gl X "list") (hm : X.mg "list" = none) (hg2 : Gl X "range") (hm2 : X.mg "range" = none) (ha : LE X a ra) (na : starEach [a] X.env = (false, eval a X.env) :: starEach [] X.env := by rfl)
    (nb : starEach [.Call (.Name "range" p2) [a] [] q2] X.env = (false, eval (.Call (.Name "range" p2) [a] [] q2) X.env) :: starEach [] X.env := by rfl) : LE X (.Call (.Name "list" p) [.Call (.Name "range" p2) [a] [] q2] [] q) (rLR1M ra) :=
  PE.wk (pe_listRg hc hg hm (prg_1 hg2 hm2 ha na) nb) fun σ H Q ⟨G, env, st, Q3, R, N, h, k⟩ => eOf_go R N h fun t st1 G1 H1 v e1 R1 rp q => by
    split at q
    · cases rp
      rename_i j
      refine ⟨j, rfl, q.1, fun l hl => ?_⟩
      have q2 := q.2 l (R1.noS hl)
      have rr := rgV_rep (K := X.K) (G := G1) 0 j
      rw [Int.sub_zero] at rr
      exact k _ _ ⟨_, _, _, e1, R1.newS hl (.lst rr), .loc l, q2⟩
    · exact q.elim
theorem le_listR2 (hc : X.calm = true) (hg : Gl X "list") (hm : X.mg "list" = none) (hg2 : Gl X "range") (hm2 : X.mg "range" = none) (ha : LE X a ra) (hb : LE X b rb) (na : starEach [a, b] X.env = (false, eval a X.env) :: starEach [b] X.env := by rfl) (na2 : starEach [b] X.env = (false, eval b X.env) :: starEach [] X.env := by rfl) (hp : (backTo q2 (starEach [b] X.env)).any (·.1) = false := by rfl)
    (nb : starEach [.Call (.Name "range" p2) [a, b] [] q2] X.env = (false, eval (.Call (.Name "range" p2) [a, b] [] q2) X.env) :: starEach [] X.env := by rfl) : LE X (.Call (.Name "list" p) [.Call (.Name "range" p2) [a, b] [] q2] [] q) (rLR2 ra rb) :=
  PE.wk (pe_listRg hc hg hm (prg_2 hg2 hm2 ha hb na na2 hp) nb) fun σ H Q ⟨G, env, st, Q3, R, N, h, k⟩ => eOf_go R N h fun t st1 G1 H1 v e1 R1 rp q => eOf_go R1 (N.mono e1) q fun u st2 G2 H2 w e2 R2 rq q => by
    split at q
    · cases rp; cases rq
      refine ⟨_, _, rfl, rfl, q.1, fun l hl => ?_⟩
      exact k _ _ ⟨_, st2, _, e1.trans (e2.trans (Ex.new (R2.noG hl))), R2.newG hl, .lst upd_same (rgV_rep _ _), q.2⟩
    · exact q.elim
end
def rrIntB : RRN := fun ts st Q => match ts with
  | [.int i] => Q (.int i) st
  | [.bl b] => Q (.int (if b then 1 else 0)) st
  | _ => False
section
variable {X : Cy} {p pos : Pos} {e : Expr} {rs : RA}
theorem vn_intB {K : KG} : ValN K (fun xs H Q => (∃ i, xs = [.int i] ∧ Q (.int i) H) ∨ ∃ k, xs = [.bl k] ∧ Q (.int (if k then 1 else 0)) H) rrIntB := fun G H st ts vs Q3 Q R rs q k => by
  unfold rrIntB at q
  split at q
  · cases rs with
    | cons a rs => cases rs; cases a; exact .inl ⟨_, rfl, k _ _ (liftV.mk R (.int _) q)⟩
  · cases rs with
    | cons a rs => cases rs; cases a; exact .inr ⟨_, rfl, k _ _ (liftV.mk R (.int _) q)⟩
  · exact q.elim
theorem le_intB (hg : Gl X "int") (hm : X.mg "int" = none) (ha : LA X [e] rs) (he : starEach [e] X.env = (false, eval e X.env) :: starEach [] X.env := by rfl) (hpl : (backTo pos (starEach [] X.env)).any (·.1) = false := by rfl) : LE X (.Call (.Name "int" p) [e] [] pos) (rN rrIntB rs) :=
  le_callTy call_int1 vn_intB hg hm (by decide +kernel) ha (he := he) (hpl := hpl)
end
end L3

/-! L3: sorted and < over data, xs + ys as a list that may change. -/
namespace L3
open PySem PySem.Spec PyProof.Rows L2
open Evl (Ex)
open PySem.W (EachIs AllAlike Sortable dataLe dataLt alike alikeAll)
section
variable {X : Cy} {pins : List (Addr × Obj)} {σ : L2.St} {H : Hp} {s : Shared}
theorem dpAll_len {K : PySem.W.Frag} : ∀ {ws : List V} {ds : List PyData}, DpAll K H ws ds → ws.length = ds.length
  | _, _, .nil => rfl
  | _, _, .cons _ r => congrArg (· + 1) (dpAll_len r)
theorem each_zip (I : Inv X pins σ H s) : ∀ {ws : List V} {ds : List PyData} {us : List Value}, DpAll X.K H ws ds → Vals ws us →
    EachIs (fun (u : Value) (b : V × PyData) => RelV b.1 u) us (ws.zip ds) ∧ EachIs (fun (u : Value) (b : V × PyData) => ∃ as, Reads s.heap u b.2 as) us (ws.zip ds)
  | _, _, _, .nil, .nil => ⟨.nil, .nil⟩
  | _, _, _, .cons a r, .cons b t => by
    obtain ⟨h1, h2⟩ := each_zip I r t
    exact ⟨.cons b h1, .cons (Dp.reads I _ _ _ a b) h2⟩
theorem each_vals : ∀ {us : List Value} {bs : List (V × PyData)}, EachIs (fun (u : Value) (b : V × PyData) => RelV b.1 u) us bs → Vals (bs.map Prod.fst) us
  | _, _, .nil => .nil
  | _, _, .cons a r => .cons a (each_vals r)
def rSortD (K : PySem.W.Frag) : List V → Hp → VK → Prop := fun vs H Q => ∃ (a : Addr) (ws : List V) (ds : List PyData), vs = [V.ref a] ∧ SqL K H a ws ∧ DpAll K H ws ds ∧ AllAlike ds ∧ Sortable ds ∧ PyData.depthAll ds ≤ 64 ∧
  ∀ p, H p = none → Q (.ref p) (upd H p (.lst (((ws.zip ds).mergeSort (dataLe false Prod.snd)).map Prod.fst)))
theorem depth_le_all : ∀ {ds : List PyData} {d : PyData}, d ∈ ds → d.depth ≤ PyData.depthAll ds
  | x :: xs, d, h => by
    rw [List.mem_cons] at h
    simp only [PyData.depthAll]
    rcases h with rfl | h
    · omega
    · have := depth_le_all h; omega
theorem cr_sortedD (hu : X.A.units + 66 < cLine) : CallR X (.builtin "sorted") (rSortD X.K) := by
  intro pins s σ H vs us Q I r h
  obtain ⟨a, ws, ds, rfl, hs, hd, hal, hk, hdep, q⟩ := h
  obtain ⟨its, rv, hl, hz⟩ := I.list hs
  rw [Vals.ref1 r]
  obtain ⟨e1, e2⟩ := each_zip I hd rv
  have hlen := dpAll_len hd
  have hsnd : (ws.zip ds).map Prod.snd = ds := List.map_snd_zip (by omega)
  have hzl : (ws.zip ds).length = ws.length := by rw [List.length_zip]; omega
  refine PySem.W.sorted_data (enc := Prod.snd) hl.isList e1 e2 (by rw [hsnd]; exact hal) (by rw [hsnd]; exact hk) (by rw [hzl]; exact hz) (fun b hb => ?_) fun out h1 h2 => ?_
  · have : b.2 ∈ ds := by rw [← hsnd]; exact List.mem_map.mpr ⟨b, hb, rfl⟩
    have := depth_le_all this
    omega
  · obtain ⟨ep, he'⟩ := PyProof.Rows.sortedAll_at s.heap its out.toArray
    refine ⟨.ref _, upd H (s.heap.objs.size + 1) (.lst (((ws.zip ds).mergeSort (dataLe false Prod.snd)).map Prod.fst)), I.laid (t' := s.toks) (fun _ _ => PyProof.Rows.sortedAll_old) (Nat.le_succ _) ⟨?_, out, ep, each_vals h2, he'⟩, rfl, q _ (I.hok.fresh (Nat.le_succ _))⟩
    rw [List.length_map, List.length_mergeSort, hzl]; exact hz
end
/-- the items in order, by what they read as -/
def sortT (xs : List T) (ds : List PyData) : List T := ((xs.zip ds).mergeSort (dataLe false Prod.snd)).map Prod.fst
theorem reps_mem {K : PySem.W.Frag} {G : Hp} : ∀ {l : List (V × T)}, (∀ p ∈ l, Rep K G p.1 p.2) → Reps K G (l.map Prod.fst) (l.map Prod.snd)
  | [], _ => .nil
  | p :: l, h => .cons (h p (List.mem_cons_self ..)) (reps_mem fun q hq => h q (List.mem_cons_of_mem _ hq))
theorem reps_zip {K : PySem.W.Frag} {G : Hp} : ∀ {ws : List V} {xs : List T}, Reps K G ws xs → ∀ p ∈ ws.zip xs, Rep K G p.1 p.2
  | _, _, .nil, p, hp => by simp at hp
  | _, _, .cons a r, p, hp => by
    rw [List.zip_cons_cons, List.mem_cons] at hp
    rcases hp with rfl | hp
    · exact a
    · exact reps_zip r p hp
theorem zip3_mem {α β γ : Type} : ∀ {as : List α} {bs : List β} {cs : List γ} {p : α × β × γ}, p ∈ as.zip (bs.zip cs) → (p.1, p.2.1) ∈ as.zip bs
  | a :: as, b :: bs, c :: cs, p, h => by
    rw [List.zip_cons_cons, List.zip_cons_cons, List.mem_cons] at h
    rw [List.zip_cons_cons, List.mem_cons]
    rcases h with rfl | h
    · exact .inl rfl
    · exact .inr (zip3_mem h)
theorem sort_reps {K : PySem.W.Frag} {G : Hp} {ws : List V} {xs : List T} {ds : List PyData} (r_ : Reps K G ws xs) (hl : xs.length = ds.length) :
    Reps K G (((ws.zip ds).mergeSort (dataLe false Prod.snd)).map Prod.fst) (sortT xs ds) := by
  have hw := r_.length
  have e1 : ∀ {ws : List V} {xs : List T} {ds : List PyData}, ws.length = xs.length → xs.length = ds.length → (ws.zip (xs.zip ds)).map (fun p => (p.1, p.2.2)) = ws.zip ds := by
    intro ws
    induction ws with
    | nil => intros; rfl
    | cons w ws ih =>
      intro xs ds h1 h2
      cases xs with
      | nil => simp at h1
      | cons x xs =>
        cases ds with
        | nil => simp at h2
        | cons d ds =>
          have := ih (xs := xs) (ds := ds) (by simpa using h1) (by simpa using h2)
          simp only [List.zip_cons_cons, List.map_cons, this]
  have e2 : ∀ {ws : List V} {xs : List T} {ds : List PyData}, ws.length = xs.length → xs.length = ds.length → (ws.zip (xs.zip ds)).map (fun p => p.2) = xs.zip ds := by
    intro ws xs ds h1 h2
    exact List.map_snd_zip (by rw [List.length_zip]; omega)
  let r : V × T × PyData → V × T × PyData → Bool := dataLe false fun p => p.2.2
  have m1 := PySem.W.sort_maps (r := r) (s := dataLe false Prod.snd) (fun p : V × T × PyData => (p.1, p.2.2)) (l := ws.zip (xs.zip ds)) fun _ _ _ _ => rfl
  have m2 := PySem.W.sort_maps (r := r) (s := dataLe false Prod.snd) (fun p : V × T × PyData => p.2) (l := ws.zip (xs.zip ds)) fun _ _ _ _ => rfl
  rw [e1 hw hl] at m1
  rw [e2 hw hl] at m2
  unfold sortT
  rw [← m1, ← m2, List.map_map, List.map_map]
  have key : ∀ l : List (V × T × PyData), (∀ p ∈ l, Rep K G p.1 p.2.1) → Reps K G (l.map (Prod.fst ∘ fun p => (p.1, p.2.2))) (l.map (Prod.fst ∘ fun p => p.2)) := by
    intro l
    induction l with
    | nil => intro _; exact .nil
    | cons p l ih => intro h; exact .cons (h p (List.mem_cons_self ..)) (ih fun q hq => h q (List.mem_cons_of_mem _ hq))
  refine key _ fun p hp => ?_
  exact reps_zip r_ _ (zip3_mem (List.mem_mergeSort.mp hp))
def rrSortD : RRN := fun ts st Q => match ts with
  | [t] => ∃ xs ds, LV st t xs ∧ DVs st 60 xs ds ∧ AllAlike ds ∧ Sortable ds ∧ Q (.lst (sortT xs ds)) st
  | _ => False
def rrSortDM : RRN := fun ts st Q => match ts with
  | [t] => ∃ xs ds, LV st t xs ∧ DVs st 60 xs ds ∧ AllAlike ds ∧ Sortable ds ∧ ∀ p, st p = none → Q (.loc p) (supd st p (.lst (sortT xs ds)))
  | _ => False
section
variable {K : KG}
theorem dvs_len {st : Sto} : ∀ {n : Nat} {xs : List T} {ds : List PyData}, DVs st n xs ds → xs.length = ds.length
  | _, _, _, .nil => rfl
  | _, _, _, .cons _ r => congrArg (· + 1) (dvs_len r)
theorem vn_sortD : ValN K (rSortD K) rrSortD := fun G H st ts vs Q3 Q R rs q k => by
  unfold rrSortD at q
  split at q
  · obtain ⟨xs, ds, l, dv, hal, hk, q⟩ := q
    obtain ⟨a, ws, rfl, h, r⟩ := l.rd1 R rs
    refine ⟨_, _, ds, rfl, SqL.of h, dv.dp R r, hal, hk, by have := dv.plain.2; omega, fun p hp => ?_⟩
    have e := Ex.new (o := .lst (((ws.zip ds).mergeSort (dataLe false Prod.snd)).map Prod.fst)) (R.noG hp)
    exact k _ _ ⟨_, st, _, e, R.newG hp, .lst upd_same ((sort_reps r (dvs_len dv)).mono e), q⟩
  · exact q.elim
theorem vn_sortDM : ValN K (rSortD K) rrSortDM := fun G H st ts vs Q3 Q R rs q k => by
  unfold rrSortDM at q
  split at q
  · obtain ⟨xs, ds, l, dv, hal, hk, q⟩ := q
    obtain ⟨a, ws, rfl, h, r⟩ := l.rd1 R rs
    refine ⟨_, _, ds, rfl, SqL.of h, dv.dp R r, hal, hk, by have := dv.plain.2; omega, fun p hp => ?_⟩
    exact k _ _ ⟨_, _, G, Ex.refl G, R.newS hp (.lst (sort_reps r (dvs_len dv))), .loc p, q p (R.noS hp)⟩
  · exact q.elim
end
section
variable {X : Cy} {p pos : Pos} {e : Expr} {rs : RA} {k : Nat}
theorem le_sortD (hr : Room k X.A) (hg : Gl X "sorted") (hm : X.mg "sorted" = none) (ha : LA X [e] rs) (he : starEach [e] X.env = (false, eval e X.env) :: starEach [] X.env := by rfl) (hpl : (backTo pos (starEach [] X.env)).any (·.1) = false := by rfl) : LE X (.Call (.Name "sorted" p) [e] [] pos) (rN rrSortD rs) :=
  le_callB (cr_sortedD (hu66 hr)) vn_sortD hg hm (by decide +kernel) ha (he := he) (hpl := hpl)
theorem le_sortDM (hr : Room k X.A) (hg : Gl X "sorted") (hm : X.mg "sorted" = none) (ha : LA X [e] rs) (he : starEach [e] X.env = (false, eval e X.env) :: starEach [] X.env := by rfl) (hpl : (backTo pos (starEach [] X.env)).any (·.1) = false := by rfl) : LE X (.Call (.Name "sorted" p) [e] [] pos) (rN rrSortDM rs) :=
  le_callB (cr_sortedD (hu66 hr)) vn_sortDM hg hm (by decide +kernel) ha (he := he) (hpl := hpl)
end
/-! ### < of data -/
def rLtD (K : PySem.W.Frag) : R2 := fun x y H Q => ∃ d e, Dp K H x d ∧ Dp K H y e ∧ alike d e = true ∧ d ≠ .none ∧ d.depth ≤ 64 ∧ Q (.bl (dataLt d e)) H
def rrLtD : RR := fun x y st Q => ∃ d e, DV st 60 x d ∧ DV st 60 y e ∧ alike d e = true ∧ d ≠ .none ∧ Q (.bl (dataLt d e)) st
theorem v_ltD {K : KG} : Val2 K (rLtD K) rrLtD := fun G H st x y v w Q3 Q R rx ry ⟨d, e, hd, he, ha, hn, q⟩ k => ⟨d, e, hd.dp R rx, he.dp R ry, ha, hn, by have := hd.plain.2; omega, k _ _ (liftV.mk R (.bl _) q)⟩
section
variable {X : Cy} {a b : Expr} {ra rb : RE} {pos : Pos} {k : Nat}
theorem op_ltD (hu : X.A.units + 66 < cLine) : OpR X (compareOp .Lt) (rLtD X.K) := by
  intro pins s σ H x y v u Q I rx ry h
  obtain ⟨d, e, hd, he, ha, hn, hz, q⟩ := h
  obtain ⟨as, r1⟩ := Dp.reads I d x v hd rx
  obtain ⟨bs, r2⟩ := Dp.reads I e y u he ry
  exact PySem.W.rcLt_alike d e _ _ v u as bs r1 r2 ha hn (by have := Nat.min_le_left d.depth e.depth; omega) _ _ _ _ ⟨.bl _, H, I, rfl, q⟩
theorem le_ltL (hr : Room k X.A) (ha : LE X a ra) (hb : LE X b rb) : LE X (.Compare a [.Lt] [b] pos) (r2 rrLtD ra rb) := le_cmp (op_ltD (hu66 hr)) v_ltD ha hb (nomark _)
theorem lt_ltL (hr : Room k X.A) (ha : LE X a ra) (hb : LE X b rb) : LT X (.Compare a [.Lt] [b] pos) (rB (r2 rrLtD ra rb)) := lt_cmpR (op_ltD (hu66 hr)) v_ltD ha hb (nomark _)
/-! ### xs + ys, a list that may change -/
def rrAddM : RR := fun x y st Q => ∃ xs ys, LV st x xs ∧ LV st y ys ∧ xs.length + ys.length ≤ sizeLine ∧ ∀ p, st p = none → Q (.loc p) (supd st p (.lst (xs ++ ys)))
theorem v_addM {K : KG} : Val2 K rCat rrAddM := fun G H st x y v w Q3 Q R rx ry ⟨xs, ys, l1, l2, hz, q⟩ k => by
  obtain ⟨a1, vs1, rfl, h1, r1⟩ := l1.rd R rx
  obtain ⟨a2, vs2, rfl, h2, r2⟩ := l2.rd R ry
  exact ⟨_, _, _, _, rfl, rfl, h1, h2, by rw [r1.length, r2.length]; exact hz, fun p hp => k _ _ ⟨_, _, G, Ex.refl G, R.newS hp (.lst (r1.append r2)), .loc p, q p (R.noS hp)⟩⟩
theorem le_addM (ha : LE X a ra) (hb : LE X b rb) : LE X (.BinOp a .Add b pos) (r2 rrAddM ra rb) := le_op op_cat v_addM ha hb
end
end L3

/-! Equality of data, small helps. -/
namespace L3
open PySem PySem.Spec PyProof.Rows L2
section
variable {st : Sto} {Q : TQ}
theorem eq_ii {i j : Int} (h : Q (.bl (decide (i = j))) st) : rrEq (.int i) (.int j) st Q := ⟨_, _, .int i, .int j, h⟩
theorem ne_ii {i j : Int} (h : Q (.bl (!decide (i = j))) st) : rrNe (.int i) (.int j) st Q := ⟨_, _, .int i, .int j, h⟩
theorem eq_ss {i j : Str} (h : Q (.bl (decide (i = j))) st) : rrEq (.str i) (.str j) st Q := ⟨_, _, .str i, .str j, h⟩
theorem ne_ss {i j : Str} (h : Q (.bl (!decide (i = j))) st) : rrNe (.str i) (.str j) st Q := ⟨_, _, .str i, .str j, h⟩
mutual
theorem eqv_self : ∀ {d : PyData}, d.plain = true → PyData.eqv d d = true
  | .none, _ => rfl
  | .bool b, _ => by cases b <;> rfl
  | .int i, _ => decide_eq_true (p := i = i) rfl
  | .str i, _ => decide_eq_true (p := i = i) rfl
  | .list xs, h => by unfold PyData.eqv; exact eqvAll_self h
  | .tuple xs, h => by unfold PyData.eqv; exact eqvAll_self h
  | .dict _, h => by cases h
theorem eqvAll_self : ∀ {ds : List PyData}, PyData.plainAll ds = true → PyData.eqvAll ds ds = true
  | [], _ => rfl
  | d :: ds, h => by
    unfold PyData.plainAll at h
    rw [Bool.and_eq_true] at h
    unfold PyData.eqvAll
    rw [eqv_self h.1, eqvAll_self h.2]
    rfl
end
theorem eq_self {x y : T} {d : PyData} (hx : DV st 60 x d) (hy : DV st 60 y d) (h : Q (.bl true) st) : rrEq x y st Q := ⟨_, _, hx, hy, by rw [eqv_self hx.plain.1]; exact h⟩
theorem ne_self {x y : T} {d : PyData} (hx : DV st 60 x d) (hy : DV st 60 y d) (h : Q (.bl false) st) : rrNe x y st Q := ⟨_, _, hx, hy, by rw [eqv_self hx.plain.1]; exact h⟩
theorem DVs.ints {n : Nat} : ∀ (l : List Int), DVs st n (l.map T.int) (l.map PyData.int)
  | [] => .nil
  | i :: l => .cons (.int i) (DVs.ints l)
def dIs (l : List Int) : PyData := .list (l.map PyData.int)
theorem DV.is {n : Nat} (l : List Int) : DV st (n + 1) (eIs l) (dIs l) := .lst (DVs.ints l)
def dK (k : Knd) : PyData := .tuple [.str k.name, .int k.width, .int k.worth, .int k.allowed]
theorem DV.k {n : Nat} (k : Knd) : DV st (n + 1) (eK k) (dK k) := .tup (.cons (.str _) (.cons (.int _) (.cons (.int _) (.cons (.int _) .nil))))
theorem DVs.map {α : Type} {f : α → T} {g : α → PyData} {n : Nat} (h : ∀ x, DV st n (f x) (g x)) : ∀ (l : List α), DVs st n (l.map f) (l.map g)
  | [] => .nil
  | i :: l => .cons (h i) (DVs.map h l)
def dTb (tb : List Knd) : PyData := .list (tb.map dK)
theorem DV.tb {n : Nat} (tb : List Knd) : DV st (n + 2) (eTb tb) (dTb tb) := .lst (DVs.map DV.k tb)
end
section
variable {rt : RT} {re : RE} {u : RS}
/-- if c: x = e, where the test's answer is known -/
theorem ifsetB {i : Nat} {D : Ends3} {env : En} {st : Sto} {t0 : T} (b : Bool) (t1 : T) (h0 : env[i]? = some (some t0)) (hc : ∀ K : Bool → Sto → Prop, K b st → rt env st K) (he : b = true → ∀ K : TQ, K t1 st → re env st K)
    (hrest : u D (env.set i (some (if b then t1 else t0))) st) : rIfSet rt re i u D env st := by
  unfold rIfSet
  refine hc _ ⟨fun e => ?_, fun e => ?_⟩
  · subst e
    exact he rfl _ hrest
  · subst e
    have h := hrest
    rw [if_neg (by decide), set_self h0] at h
    exact h
end
section
variable {X : Cy}
/-- name = [..], a list that changes no more -/
theorem ls_setLcF {i : Nat} {y : Str} {py : Pos} {elt tg iter : Expr} {ifs : List Expr} {scope : Scope} {own : List (Str × Nat)} {pos spos : Pos} {ri : RI} {g : TG} {rg : RG} {rt : RT} {re : RE} (hc : X.calm = true) (hN : X.N.Nodup) (hy : X.N[i]? = some y) (hyl : X.env.scope.names.lookup y = some .local)
    (hsw : swapsWith (.ListComp elt [⟨tg, iter, ifs, 0⟩] scope pos) (some (.Name y py)) spos.line X.env = pure true) (hi : LI X tg iter ri) (ok : BlkOk X.N X.env.scope scope own)
    (hg : ∀ (s : Shared) (H : Hp) (C : Addr) (cl : List (Str × Addr)) (fp : List Addr), PG (X.bk s H scope (compEnvC scope cl C X.env) fp) tg g) (hgo : TgOk X.kg g rg (own.map (·.2))) (ht : ∀ (s : Shared) (H : Hp) (C : Addr) (cl : List (Str × Addr)) (fp : List Addr), PTs (X.bk s H scope (compEnvC scope cl C X.env) fp) ifs (bOf X.kg rt))
    (he : ∀ (s : Shared) (H : Hp) (C : Addr) (cl : List (Str × Addr)) (fp : List Addr), LE (X.bk s H scope (compEnvC scope cl C X.env) fp) elt re) (hs : ∀ x, foldedSetIterable iter X.env x = pure x := by intro _; rfl) :
    LS X (.Assign [.Name y py] (.ListComp elt [⟨tg, iter, ifs, 0⟩] scope pos) spos) (rAsg (rFrz (rLc ri rg rt re (own.map (·.2)))) (gNm i)) :=
  PS.wk (ps_setLc hc hN hy hyl hsw hi ok hg ht he hs) fun D σ H ⟨G, env, st, D3, R, N, h, d⟩ => tLc_go hgo σ H _ (eOf_go R N (show rLc ri rg rt re (own.map (·.2)) env st (fun t st1 => match t with | .loc p => (∃ xs, st1 p = some (.lst xs) ∧ D3.nx (env.set i (some (.lst xs))) (sdel st1 p)) ∨ (∃ xs, st1 p = some (.dk xs) ∧ D3.nx (env.set i (some (.dk xs))) (sdel st1 p)) | _ => False) from h) fun t st1 G1 H1 v e1 R1 rp q1 => by
    split at q1
    · cases rp
      rename_i p
      rcases q1 with ⟨xs, hs, q1⟩ | ⟨xs, hs, q1⟩
      · obtain ⟨vs, hv, rs⟩ := R1.lst hs
        obtain ⟨e2, R2⟩ := R1.frz hs hv
        exact d.nx _ _ ⟨_, _, _, e1.trans e2, R2, (N.mono (e1.trans e2)).set (.lst upd_same (rs.mono e2)) i, q1⟩
      · obtain ⟨vs, hv, rs⟩ := R1.dk hs
        obtain ⟨e2, R2⟩ := R1.frz hs hv
        exact d.nx _ _ ⟨_, _, _, e1.trans e2, R2, (N.mono (e1.trans e2)).set (.dk upd_same rs.1 (rs.2.mono e2)) i, q1⟩
    · exact q1.elim)
end
end L3

/-! L3: the ends: a def's facts out of the written part, the law's promise at the heap behind the top. -/
namespace L3
open PySem PySem.Spec PyProof.Rows L2
open Evl (Ex)
section
variable {K : PySem.W.Frag} {h : Heap} {mg : Str → Option Value}
theorem tx_of {nm qual : Str} {stm : Stmt} {ps : List Str} {f : Addr} {oc : Value} {od an : Option Addr} {osl : Array (Option Value)} {kV dc pm cd ct : Value} (X : K.In h) (G : h.Ns mainGlobals mg)
    (hb : ∀ (kV doc pm : Value) (an : Option Addr) (cdv ct : Value) (us : List Value), us.length = ps.length → bindArgs (PySem.W.fnOf nm qual (defArgs stm) (defBody stm) (defScope stm) .none kV doc pm an cdv ct) ⟨us, []⟩ = pure (ps.zip us))
    (a : PySem.W.nsIn K mainGlobals nm = some (some (.ref f))) (l : K.lookup f = some ⟨oc, od, .func (PySem.W.fnOf nm qual (defArgs stm) (defBody stm) (defScope stm) .none kV dc pm an cd ct), osl⟩)
    (c : PySem.W.codeIn K cd qual = true) (k : PySem.W.keepIn K (.ref f) = true) : Tx K mg nm qual stm ps :=
  ⟨f, _, fun_mk l c k, PySem.W.mg_of X G a, (fun_mk (st := stm) l c k).binds hb⟩
theorem fun_of {nm qual : Str} {stm : Stmt} {f fa : Addr} {oc : Value} {od an : Option Addr} {osl : Array (Option Value)} {kV dc pm cd ct : Value} (X : K.In h) (G : h.Ns mainGlobals mg) (hfa : mg nm = some (.ref fa))
    (a : PySem.W.nsIn K mainGlobals nm = some (some (.ref f))) (l : K.lookup f = some ⟨oc, od, .func (PySem.W.fnOf nm qual (defArgs stm) (defBody stm) (defScope stm) .none kV dc pm an cd ct), osl⟩)
    (c : PySem.W.codeIn K cd qual = true) (k : PySem.W.keepIn K (.ref f) = true) : Fun K nm qual stm fa (PySem.W.fnOf nm qual (defArgs stm) (defBody stm) (defScope stm) .none kV dc pm an cd ct) := by
  have e := hfa.symm.trans (PySem.W.mg_of X G a)
  cases e
  exact fun_mk l c k
end
def eScr (ns : List Int) : T := .klst (ns.map T.int)
theorem reps_ints {K : PySem.W.Frag} {G : Hp} : ∀ ns : List Int, Reps K G (ns.map V.int) (ns.map T.int)
  | [] => .nil
  | i :: ns => .cons (.int i) (reps_ints ns)
/-- the law's promise: True, whatever the store behind -/
theorem law_sp {K : PySem.W.Frag} {sp : Sp3} {H : Hp} {a : Addr} {ns : List Int} (hS : SqL K H a (ns.map V.int)) (h : ∀ (Q : TQ) (E : XK3) (st : Sto), (∀ st', Q (.bl true) st') → sp [eScr ns] st Q E) :
    lift3 K sp [.ref a] H (fun v _ => v = .bl true) fun _ _ _ => False :=
  ⟨H, fun _ => none, [eScr ns], fun t _ => t = .bl true, fun _ _ _ => False, ⟨Ex.refl H, fun _ _ h => h, fun _ _ h => by cases h⟩, .cons (.klst hS (reps_ints ns)) .nil, h _ _ _ fun _ => rfl,
    fun v H' ⟨t, st, G', e, R, rp, q⟩ => by subst q; cases rp; rfl, fun _ _ _ ⟨_, _, _, q⟩ => q.elim⟩
end L3

namespace Sv
open PySem PySem.Spec PyProof.Rows L2 L3
section
variable {P : Program} {w : World} {K : PySem.W.Frag} {mg : Str → Option Value} {base : Heap}
theorem mulR {i j : Int} (h : -(2 ^ 64) < j ∧ j < 2 ^ 64) : MulC i j := .inl (.inr h)
theorem mulL {i j : Int} (h : -(2 ^ 64) < i ∧ i < 2 ^ 64) : MulC i j := .inl (.inl h)
/-! ### _law_cell: some whole number -/
abbrev sp_q_cell : Sp3 := fun ts st Q _ => ∃ (sc : List Int) (i : Int), ts = [eScr sc, .int i] ∧ 0 ≤ i ∧ ∀ c, Q (.int c) st
abbrev N_q_cell : List Str := ["_law_script", "_law_place", "_law_seed", "_law_cell_here"]
theorem sc_q_cell : FnScope N_q_cell ["_law_script", "_law_place"] (defScope s_q_cell) := ⟨rfl, rfl, rfl, by decide +kernel, rfl, by decide +kernel, by decide +kernel⟩

theorem d_q_cell (t : Tx K mg "_law_cell" "_law_cell" s_q_cell ["_law_script", "_law_place"]) (B : Bi mg) : Df P w K mg base 1 "_law_cell" ["_law_script", "_law_place"] sp_q_cell := by
  refine dmk t sc_q_cell (by rintro _ _ _ _ ⟨_, _, rfl, _⟩; rfl) fun f cdv A outer s H E hr => ⟨_, fun _ => (lss_cons (ls_if (lt_lt (lv 1) (le_lenRo (by rfl) B.len (la_cons (lv 0) la_nil)))
    (lss_one (ls_ret (le_ixRo (lv 0) (lv 1))))
    lss_nil)
    (lss_cons (ls_set (i := 2) sc_q_cell.nd rfl (.inl rfl) le_int)
    (lss_cons (ls_for PassesOwn.never rfl (li_list (le_cutRo (lv 0) lo_none (lo_some le_int))) (lg_name (i := 3) sc_q_cell.nd rfl (.inl rfl))
    (lss_one (ls_set (i := 2) sc_q_cell.nd rfl (.inl rfl) (le_mod (le_add (le_add (le_mul (lv 2) le_int) (le_mod (lv 3) le_int)) le_int) le_int))))
    (lss_one (ls_ret (le_mod (le_add (lv 2) (le_mul le_int (lv 1))) le_int)))))), ?_⟩
  rintro ts st Q E3 ⟨sc, i, rfl, hi, q⟩
  refine ⟨fun hb => ?_, fun hb => ?_⟩
  · have hlt : i < ((sc.map T.int).length : Int) := of_decide_eq_true hb
    have hl : i.toNat < (sc.map T.int).length := by omega
    have hg : (sc.map T.int)[i.toNat]? = some (.int (sc[i.toNat]'(by rw [List.length_map] at hl; exact hl))) := by rw [List.getElem?_map, List.getElem?_eq_getElem]; rfl
    exact ⟨_, atI_ix (j := i.toNat) (by omega) hg, upQ.mk (Sub.refl _) (q _)⟩
  · refine ⟨_, rfl, fun j env st' => ∃ z x, env = [some (eScr sc), some (.int i), some (.int z), x] ∧ st' = st, ⟨_, _, rfl, rfl⟩, fun _ _ _ _ _ => rfl, ?_, ?_⟩
    · rintro j x env st' hx ⟨z, y, rfl, rfl⟩
      unfold cutT at hx
      rw [← List.map_drop, ← List.map_take] at hx
      cases hg : (List.take (HT.sIx (List.map T.int sc).length (List.map T.int sc).length (some 63) - HT.sIx (List.map T.int sc).length 0 none) (List.drop (HT.sIx (List.map T.int sc).length 0 none) sc))[j]? with
      | none => rw [List.getElem?_map, hg] at hx; cases hx
      | some c =>
      rw [List.getElem?_map, hg] at hx; cases hx
      exact ⟨mulR (by decide), by decide, by decide, ⟨_, _, rfl, rfl⟩⟩
    · rintro env st' ⟨z, y, rfl, rfl⟩
      exact ⟨mulL (by decide), by decide, upQ.mk (Sub.refl _) (q _)⟩
/-! ### _law_mix: some whole number -/
abbrev sp_q_mix : Sp3 := fun ts st Q _ => ∃ (c i : Int), ts = [.int c, .int i] ∧ 0 ≤ i ∧ i ≤ 1000000 ∧ ∀ c, Q (.int c) st
abbrev N_q_mix : List Str := ["_law_cell_here", "_law_k", "_law_one", "_law_two"]
theorem sc_q_mix : FnScope N_q_mix ["_law_cell_here", "_law_k"] (defScope s_q_mix) := ⟨rfl, rfl, rfl, by decide +kernel, rfl, by decide +kernel, by decide +kernel⟩

theorem d_q_mix (t : Tx K mg "_law_mix" "_law_mix" s_q_mix ["_law_cell_here", "_law_k"]) (B : Bi mg) : Df P w K mg base 1 "_law_mix" ["_law_cell_here", "_law_k"] sp_q_mix := by
  refine dmk t sc_q_mix (by rintro _ _ _ _ ⟨_, _, rfl, _⟩; rfl) fun f cdv A outer s H E hr => ⟨_, fun _ => (lss_cons (ls_set (i := 2) sc_q_mix.nd rfl (.inl rfl) (le_mod (le_pow (le_add (le_add (le_mod (lv 0) le_int) (le_mul le_int (lv 1))) le_int) le_int) le_int))
    (lss_cons (ls_set (i := 3) sc_q_mix.nd rfl (.inl rfl) (le_mod (le_add (le_add (le_mul (lv 2) le_int) (le_mul (le_mul le_int (lv 1)) (lv 1))) le_int) le_int))
    (lss_one (ls_ret (le_div (lv 3) le_int))))), ?_⟩
  rintro ts st Q E3 ⟨c, i, rfl, hi, hi2, q⟩
  have h1 := Int.emod_nonneg c (b := 2147483629) (by decide)
  have h2 := Int.emod_lt_of_pos c (b := 2147483629) (by decide)
  exact ⟨by decide, mulL (by decide), ⟨by decide, by decide, by omega⟩, by decide, mulR (by decide), mulL (by decide), mulR (by omega), by decide, ⟨by decide, by decide⟩, upQ.mk (Sub.refl _) (q _)⟩
/-! ### _law_row: for each size a whole number from 0 on below it -/
def InRow (sizes xs : List Int) : Prop := xs.length = sizes.length ∧ ∀ (i : Nat) (z x : Int), sizes[i]? = some z → xs[i]? = some x → 0 ≤ x ∧ x < z
theorem InRow.at {sizes xs : List Int} (h : InRow sizes xs) {i : Nat} {z : Int} (hz : sizes[i]? = some z) : ∃ x, xs[i]? = some x ∧ 0 ≤ x ∧ x < z := by
  have hi : i < xs.length := by rw [h.1]; exact (List.getElem?_eq_some_iff.mp hz).1
  exact ⟨xs[i], List.getElem?_eq_getElem hi, h.2 i z _ hz (List.getElem?_eq_getElem hi)⟩
theorem InRow.more {sizes xs : List Int} {i : Nat} {z x : Int} (h : InRow (sizes.take i) xs) (hz : sizes[i]? = some z) (h0 : 0 ≤ x) (h1 : x < z) : InRow (sizes.take (i + 1)) (xs ++ [x]) := by
  have hi : i < sizes.length := (List.getElem?_eq_some_iff.mp hz).1
  have hl : (sizes.take i).length = i := by rw [List.length_take]; omega
  refine ⟨by rw [List.length_append, h.1, List.length_take, List.length_take]; simp; omega, fun j y u hy hu => ?_⟩
  rw [List.take_add_one, hz] at hy
  by_cases e : j < i
  · rw [List.getElem?_append_left (by rw [hl]; exact e)] at hy
    rw [List.getElem?_append_left (by rw [h.1, hl]; exact e)] at hu
    exact h.2 j y u hy hu
  · rw [List.getElem?_append_right (by rw [hl]; omega), hl] at hy
    rw [List.getElem?_append_right (by rw [h.1, hl]; omega), h.1, hl] at hu
    cases hj : j - i with
    | zero => rw [hj] at hy hu; cases hy; cases hu; exact ⟨h0, h1⟩
    | succ n => rw [hj] at hu; simp at hu
theorem two9000 {z : Int} (h0 : 0 < z) (h : z < 2 ^ 200) : CDivW z z := wide_div (b := 200) h0 (by omega) (by decide) (by decide)
abbrev sp_q_row : Sp3 := fun ts st Q _ => ∃ (sc : List Int) (i : Int) (sizes : List Int), ts = [eScr sc, .int i, eIs sizes] ∧ 0 ≤ i ∧ i ≤ 1000000 ∧ sizes.length ≤ 100000 ∧ (∀ z ∈ sizes, 0 < z ∧ z < 2 ^ 200) ∧
  ∀ xs, InRow sizes xs → Q (eIs xs) st
abbrev N_q_row : List Str := ["_law_script", "_law_place", "_law_sizes", "_law_cell_here", "_law_left", "_law_some", "_law_k", "_law_other"]
theorem sc_q_row : FnScope N_q_row ["_law_script", "_law_place", "_law_sizes"] (defScope s_q_row) := ⟨rfl, rfl, rfl, by decide +kernel, rfl, by decide +kernel, by decide +kernel⟩

theorem d_q_row (t : Tx K mg "_law_row" "_law_row" s_q_row ["_law_script", "_law_place", "_law_sizes"]) (B : Bi mg) (d_q_cell : Df P w K mg base 1 "_law_cell" ["_law_script", "_law_place"] sp_q_cell) (d_q_mix : Df P w K mg base 1 "_law_mix" ["_law_cell_here", "_law_k"] sp_q_mix) :
    Df P w K mg base 2 "_law_row" ["_law_script", "_law_place", "_law_sizes"] sp_q_row := by
  refine dmk t sc_q_row (by rintro _ _ _ _ ⟨_, _, _, rfl, _⟩; rfl) fun f cdv A outer s H E hr => ⟨_, fun _ => (lss_cons (ls_set (i := 3) sc_q_row.nd rfl (.inl rfl) (le_callD d_q_cell (hr.mono (by decide)) (by rfl) (la_cons (lv 0) (la_cons (lv 1) la_nil))))
    (lss_cons (ls_set (i := 4) sc_q_row.nd rfl (.inl rfl) (lv 3))
    (lss_cons (ls_set (i := 5) sc_q_row.nd rfl (.inl rfl) (le_lstM la_nil))
    (lss_cons (ls_for PassesOwn.never rfl (li_range1 (by rfl) B.range (la_cons (le_len (by rfl) B.len (la_cons (lv 2) la_nil)) la_nil)) (lg_name (i := 6) sc_q_row.nd rfl (.inl rfl))
    (lss_one (ls_if (lt_lt (lv 3) (le_pow le_int le_int))
    (lss_one (ls_expr (le_append (lv 5) (la_cons (le_mod (le_callD d_q_mix (hr.mono (by decide)) (by rfl) (la_cons (lv 3) (la_cons (lv 6) la_nil))) (le_ix (lv 2) (lv 6))) la_nil))))
    (lss_one (ls_if (lt_gt (lv 4) le_int)
    (lss_cons (ls_expr (le_append (lv 5) (la_cons (le_mod (lv 4) (le_ix (lv 2) (lv 6))) la_nil)))
    (lss_one (ls_set (i := 4) sc_q_row.nd rfl (.inl rfl) (le_div (lv 4) (le_ix (lv 2) (lv 6))))))
    (lss_cons (ls_set (i := 7) sc_q_row.nd rfl (.inl rfl) (le_callD d_q_cell (hr.mono (by decide)) (by rfl) (la_cons (lv 0) (la_cons (le_mod (le_add (le_add (lv 1) le_int) (lv 6)) le_int) la_nil))))
    (lss_one (ls_expr (le_append (lv 5) (la_cons (le_mod (le_callD d_q_mix (hr.mono (by decide)) (by rfl) (la_cons (lv 7) (la_cons (lv 6) la_nil))) (le_ix (lv 2) (lv 6))) la_nil))))))))))
    (lss_one (ls_ret (le_frz (lv 5)))))))), ?_⟩
  rintro ts st Q E3 ⟨sc, i, sizes, rfl, hi, hi2, hlen, hz, q⟩
  refine ⟨sc, i, rfl, hi, fun c => ⟨sz (by decide), fun p hp => ⟨_, rfl, ⟨by omega, by rw [List.length_map]; omega⟩, ?_⟩⟩⟩
  refine ⟨fun j env st' => ∃ (z : Int) (xs : List Int) (x y : Option T), env = [some (eScr sc), some (.int i), some (eIs sizes), some (.int c), some (.int z), some (.loc p), x, y] ∧ InRow (sizes.take j) xs ∧ Sub (supd st p (.lst (xs.map T.int))) st',
    ⟨_, [], none, none, rfl, ⟨by simp, fun _ _ _ h => by simp at h⟩, Sub.refl _⟩, fun _ _ _ _ _ => trivial, ?_, ?_⟩
  · rintro j x env st' hx ⟨z, xs, y1, y2, rfl, hx0, hs⟩
    obtain ⟨hj, rfl⟩ := rgI_at hx
    have hj' : j < sizes.length := by rw [List.length_map] at hj; omega
    have hzj : sizes[j]? = some sizes[j] := List.getElem?_eq_getElem hj'
    have hz1 := hz _ (List.mem_of_getElem? hzj)
    have hzT : atI (sizes.map T.int) (0 + (j : Int)) = some (.int sizes[j]) := atI_ints (atI_ix (by omega) hzj)
    have hxl : xs.length = j := by rw [hx0.1, List.length_take]; omega
    have hll : (xs.map T.int).length < sizeLine := szl (by rw [List.length_map]; omega)
    have fin : ∀ (u : Int) (stt : Sto), Sub (supd st p (.lst (xs.map T.int))) stt → Sub (supd st p (.lst ((xs ++ [u % sizes[j]]).map T.int))) (supd stt p (.lst (xs.map T.int ++ [.int (u % sizes[j])]))) ∧ InRow (sizes.take (j + 1)) (xs ++ [u % sizes[j]]) := fun u stt hst =>
      ⟨by rw [List.map_append]; exact hst.put, hx0.more hzj (Int.emod_nonneg _ (by omega)) (Int.emod_lt_of_pos _ hz1.1)⟩
    refine ⟨⟨by decide, by decide, by decide⟩, fun _ => ?_, fun _ => ⟨fun _ => ?_, fun _ => ?_⟩⟩
    · refine ⟨⟨_, hs.at⟩, _, _, rfl, by omega, by omega, fun u => ⟨_, _, rfl, hzT, hz1.1, _, hs.at, hll, ?_⟩⟩
      exact ⟨z, _, _, _, rfl, (fin u st' hs).2, (fin u st' hs).1⟩
    · refine ⟨⟨_, hs.at⟩, _, _, rfl, hzT, hz1.1, _, hs.at, hll, _, _, rfl, hzT, ⟨hz1.1, (two9000 hz1.1 hz1.2).2⟩, ?_⟩
      exact ⟨_, _, _, _, rfl, (fin z st' hs).2, (fin z st' hs).1⟩
    · refine ⟨by decide, sc, _, rfl, Int.emod_nonneg _ (by decide), fun o => ⟨⟨_, hs.at⟩, _, _, rfl, by omega, by omega, fun u => ⟨_, _, rfl, hzT, hz1.1, _, hs.at, hll, ?_⟩⟩⟩
      exact ⟨z, _, _, _, rfl, (fin u st' hs).2, (fin u st' hs).1⟩
  · rintro env st' ⟨z, xs, y1, y2, rfl, hx0, hs⟩
    rw [rgI_len, List.length_map] at hx0
    have e : sizes.take ((sizes.length : Int).toNat) = sizes := by rw [Int.toNat_natCast, List.take_length]
    rw [e] at hx0
    exact .inl ⟨_, hs.at, upQ.mk ((hs.base hp).del hp) (q xs hx0)⟩
end
end Sv

namespace Sv
open PySem PySem.Spec PyProof.Rows L2 L3
/-! ### the mathematics -/
theorem atI_anyI {l : List Int} {x : Int} (h0 : 0 ≤ x) (h : x < l.length) : ∃ z, atI (l.map T.int) x = some (.int z) ∧ z ∈ l := by
  have hi : x.toNat < l.length := by omega
  exact ⟨l[x.toNat], atI_ints (atI_ix (by omega) (List.getElem?_eq_getElem hi)), List.getElem_mem hi⟩
theorem InRow.ix {sizes xs : List Int} (h : InRow sizes xs) {i : Int} {z : Int} (j : Nat) (e : i = (j : Int)) (hz : sizes[j]? = some z) : ∃ x, atI (xs.map T.int) i = some (.int x) ∧ 0 ≤ x ∧ x < z := by
  obtain ⟨x, hx, h0, h1⟩ := h.at hz
  exact ⟨x, atI_ints (atI_ix e hx), h0, h1⟩
theorem rep_at {l : List Int} : ∀ {m k j : Nat}, k < m → j < l.length → (List.replicate m l).flatten[l.length * k + j]? = l[j]?
  | m + 1, 0, j, _, h => by
    rw [List.replicate_succ, List.flatten_cons, Nat.mul_zero, Nat.zero_add, List.getElem?_append_left h]
  | m + 1, k + 1, j, h1, h => by
    rw [List.replicate_succ, List.flatten_cons, List.getElem?_append_right (by rw [Nat.mul_add]; omega)]
    rw [show l.length * (k + 1) + j - l.length = l.length * k + j by rw [Nat.mul_add]; omega]
    exact rep_at (by omega) h
theorem rep_len {α : Type} (l : List α) (m : Nat) : (List.replicate m l).flatten.length = m * l.length := by simp
theorem eIs_app (a b : List Int) (m : Nat) : T.lst (a.map T.int ++ (List.replicate m (b.map T.int)).flatten) = eIs (a ++ (List.replicate m b).flatten) := by
  unfold eIs
  rw [List.map_append, List.map_flatten, List.map_replicate]
def poolN : List Str := ["a", "ab", "abc", "b", "ba", "z", "zzzzzzzz", "roll", "cut", "by", "aab", "zz", "kind", "qsvw", "fghjmp", "x"]
/-- a kind as the law draws it -/
structure GoodK (k : Knd) : Prop where
  w1 : 1 ≤ k.width
  w2 : k.width ≤ 200
  v1 : 1 ≤ k.worth
  v2 : k.worth ≤ 10 ^ 18
  a1 : 0 ≤ k.allowed
  a2 : k.allowed < 10 ^ 18
  nm : k.name ∈ poolN
structure GoodTb (tb : List Knd) : Prop where
  kinds : ∀ k ∈ tb, GoodK k
  names : (tb.map (·.name)).Nodup
theorem pool_nodup : poolN.Nodup := by decide +kernel
theorem pool_at {i : Int} (h0 : 0 ≤ i) (h : i < 16) : ∃ z, atI (poolN.map T.str) i = some (.str z) ∧ poolN[i.toNat]? = some z := by
  have hi : i.toNat < poolN.length := by show i.toNat < 16; omega
  refine ⟨poolN[i.toNat], ?_, List.getElem?_eq_getElem hi⟩
  rw [atI_map, atI_ix (v := poolN[i.toNat]) (by omega) (List.getElem?_eq_getElem hi)]
  rfl
/-- two places of the pool that the draw picks are two -/
theorem pick_ne {s4 s5 : Int} {j k : Nat} (hj : j < k) (hk : k < 16) (e : (s4 + (2 * s5 + 1) * (j : Int)) % 16 = (s4 + (2 * s5 + 1) * (k : Int)) % 16) : False := by
  have h : ((2 * s5 + 1) * ((k : Int) - j)) % 16 = 0 := by
    have : (2 * s5 + 1) * ((k : Int) - j) = (s4 + (2 * s5 + 1) * (k : Int)) - (s4 + (2 * s5 + 1) * (j : Int)) := by rw [Int.mul_sub]; omega
    rw [this, Int.sub_emod, e, Int.sub_self]; rfl
  have h2 : ((2 * (s5 % 16) + 1) * ((k : Int) - j)) % 16 = 0 := by
    rw [Int.mul_emod] at h
    rw [Int.mul_emod]
    have : (2 * (s5 % 16) + 1) % 16 = (2 * s5 + 1) % 16 := by omega
    rw [this]; exact h
  have hs0 := Int.emod_nonneg s5 (b := 16) (by decide)
  have hs1 := Int.emod_lt_of_pos s5 (b := 16) (by decide)
  generalize s5 % 16 = a at h2 hs0 hs1
  have hd : ∃ d : Nat, (k : Int) - j = (d : Int) ∧ 1 ≤ d ∧ d < 16 := ⟨k - j, by omega, by omega, by omega⟩
  obtain ⟨d, hd, hd1, hd2⟩ := hd
  rw [hd] at h2
  obtain ⟨b, rfl⟩ : ∃ b : Nat, a = (b : Int) := ⟨a.toNat, by omega⟩
  have hb : b < 16 := by omega
  have : ∀ b : Nat, b < 16 → ∀ d : Nat, d < 16 → 1 ≤ d → ((2 * (b : Int) + 1) * (d : Int)) % 16 ≠ 0 := by decide +kernel
  exact this b hb d hd2 hd1 h2
section
variable {P : Program} {w : World} {K : PySem.W.Frag} {mg : Str → Option Value} {base : Heap}
/-! ### _law_flaw -/
abbrev sp_q_flaw : Sp3 := fun ts st Q _ => ∃ (sc : List Int) (i : Int) (m : Nat), ts = [eScr sc, .int i, .int m] ∧ 0 ≤ i ∧ i ≤ 1000000 ∧ m ≤ 1000000 ∧ ∀ z ∈ ([1, 1, 7, 10 ^ 17] : List Int), Q (.int z) st
abbrev N_q_flaw : List Str := ["_law_script", "_law_place", "_law_most"]
theorem sc_q_flaw : FnScope N_q_flaw ["_law_script", "_law_place", "_law_most"] (defScope s_q_flaw) := ⟨rfl, rfl, rfl, by decide +kernel, rfl, by decide +kernel, by decide +kernel⟩

theorem d_q_flaw (t : Tx K mg "_law_flaw" "_law_flaw" s_q_flaw ["_law_script", "_law_place", "_law_most"]) (B : Bi mg) (d_q_row : Df P w K mg base 2 "_law_row" ["_law_script", "_law_place", "_law_sizes"] sp_q_row) : Df P w K mg base 3 "_law_flaw" ["_law_script", "_law_place", "_law_most"] sp_q_flaw := by
  refine dmk t sc_q_flaw (by rintro _ _ _ _ ⟨_, _, _, rfl, _⟩; rfl) fun f cdv A outer s H E hr => ⟨_, fun _ => (lss_one (ls_ret (le_ix (le_lst (la_cons le_int (la_cons le_int (la_cons le_int (la_cons (le_pow le_int le_int) la_nil))))) (le_ix (le_callD d_q_row (hr.mono (by decide)) (by rfl) (la_cons (lv 0) (la_cons (lv 1) (la_cons (le_lst (la_cons (le_add (lv 2) le_int) (la_cons le_int la_nil))) la_nil)))) le_int)))), ?_⟩
  rintro ts st Q E3 ⟨sc, i, m, rfl, hi, hi2, hm, q⟩
  refine ⟨⟨by decide, by decide, by decide⟩, sz' rfl, sz' rfl, sc, i, [(m : Int) + 1, 4], rfl, hi, hi2, Nat.le_of_ble_eq_true rfl, fun z hz => ?_, fun xs hx => ?_⟩
  · simp only [List.mem_cons, List.mem_nil_iff, or_false] at hz
    rcases hz with rfl | rfl
    · exact ⟨by omega, by omega⟩
    · decide
  · obtain ⟨x, hx1, h0, h1⟩ := hx.ix 1 rfl rfl
    obtain ⟨z, hz, hm⟩ := atI_anyI (l := [1, 1, 7, 10 ^ (17 : Int).toNat]) h0 h1
    exact ⟨_, _, rfl, hx1, _, _, rfl, hz, upQ.mk (Sub.refl _) (q z hm)⟩
/-! ### _law_roll -/
def GoodR (m : Nat) (r : List Int) : Prop := r.length ≤ m ∧ ∀ x ∈ r, 0 ≤ x ∧ x ≤ 10 ^ 18
abbrev sp_q_roll : Sp3 := fun ts st Q _ => ∃ (sc : List Int) (i : Int) (m : Nat) (fl : Int), ts = [eScr sc, .int i, .int m, .int fl] ∧ 0 ≤ i ∧ i ≤ 1000000 ∧ m ≤ 1000 ∧ 0 ≤ fl ∧ fl ≤ 10 ^ 17 ∧ ∀ r, GoodR m r → Q (eIs r) st
abbrev N_q_roll : List Str := ["_law_script", "_law_place", "_law_most", "_law_flaw_here", "_law_some", "_law_great", "_law_roll_here", "_law_k", "_law_at", "_law_weight"]
theorem sc_q_roll : FnScope N_q_roll ["_law_script", "_law_place", "_law_most", "_law_flaw_here"] (defScope s_q_roll) := ⟨rfl, rfl, rfl, by decide +kernel, rfl, by decide +kernel, by decide +kernel⟩

theorem d_q_roll (t : Tx K mg "_law_roll" "_law_roll" s_q_roll ["_law_script", "_law_place", "_law_most", "_law_flaw_here"]) (B : Bi mg) (d_q_row : Df P w K mg base 2 "_law_row" ["_law_script", "_law_place", "_law_sizes"] sp_q_row) : Df P w K mg base 3 "_law_roll" ["_law_script", "_law_place", "_law_most", "_law_flaw_here"] sp_q_roll := by
  refine dmk t sc_q_roll (by rintro _ _ _ _ ⟨_, _, _, _, rfl, _⟩; rfl) fun f cdv A outer s H E hr => ⟨_, fun _ => (lss_cons (ls_set (i := 4) sc_q_roll.nd rfl (.inl rfl) (le_callD d_q_row (hr.mono (by decide)) (by rfl) (la_cons (lv 0) (la_cons (lv 1) (la_cons (le_add (le_lst (la_cons (le_add (lv 2) le_int) (la_cons le_int (la_cons le_int la_nil)))) (le_mul (le_lst (la_cons le_int (la_cons le_int la_nil))) (lv 2))) la_nil)))))
    (lss_cons (ls_set (i := 5) sc_q_roll.nd rfl (.inl rfl) (le_mul le_int (lv 3)))
    (lss_ifset (ls_if (lt_eq hr (le_ix (lv 4) le_int) le_int)
    (lss_one (ls_set (i := 5) sc_q_roll.nd rfl (.inl rfl) (le_pow le_int le_int)))
    lss_nil)
    (lss_cons (ls_set (i := 6) sc_q_roll.nd rfl (.inl rfl) (le_lstM la_nil))
    (lss_cons (ls_for PassesOwn.never rfl (li_range1 (by rfl) B.range (la_cons (le_ix (lv 4) le_int) la_nil)) (lg_name (i := 7) sc_q_roll.nd rfl (.inl rfl))
    (lss_cons (ls_set (i := 8) sc_q_roll.nd rfl (.inl rfl) (le_add (le_mul le_int (lv 7)) le_int))
    (lss_cons (ls_set (i := 9) sc_q_roll.nd rfl (.inl rfl) le_int)
    (lss_ifset (ls_if (lt_lt (le_ix (lv 4) (lv 8)) (le_ix (le_lst (la_cons le_int (la_cons le_int (la_cons le_int (la_cons le_int la_nil))))) (le_ix (lv 4) le_int)))
    (lss_one (ls_set (i := 9) sc_q_roll.nd rfl (.inl rfl) (le_ix (le_lst (la_cons (lv 3) (la_cons (lv 3) (la_cons (le_mul le_int (lv 3)) (la_cons (le_mul le_int (lv 3)) (la_cons (lv 5) la_nil)))))) (le_ix (lv 4) (le_add (lv 8) le_int)))))
    lss_nil)
    (lss_one (ls_expr (le_append (lv 6) (la_cons (lv 9) la_nil))))))))
    (lss_one (ls_ret (le_frz (lv 6))))))))), ?_⟩
  rintro ts st Q E3 ⟨sc, i, m, fl, rfl, hi, hi2, hm, hf0, hf1, q⟩
  refine ⟨sz' rfl, sz' rfl, _, rfl, by omega, by omega, sz (by show 2 * ((m : Int)).toNat ≤ _; omega), _, _, rfl, rfl, sz (by rw [rep_len]; show 3 + ((m : Int)).toNat * 2 ≤ _; omega), ?_⟩
  refine ⟨sc, i, [(m : Int) + 1, 4, 3] ++ (List.replicate (m : Int).toNat [8, 5]).flatten, ?_, hi, hi2, ?_, ?_, fun xs hx => ?_⟩
  · rw [← eIs_app]; rfl
  · rw [List.length_append, rep_len]; show 3 + ((m : Int)).toNat * 2 ≤ _; omega
  · intro z hz
    rw [List.mem_append] at hz
    rcases hz with hz | hz
    · simp only [List.mem_cons, List.mem_nil_iff, or_false] at hz
      rcases hz with rfl | rfl | rfl
      · exact ⟨by omega, by omega⟩
      · decide
      · decide
    · rw [List.mem_flatten] at hz
      obtain ⟨l, hl, hz⟩ := hz
      rw [List.mem_replicate] at hl
      obtain ⟨_, rfl⟩ := hl
      simp only [List.mem_cons, List.mem_nil_iff, or_false] at hz
      rcases hz with rfl | rfl <;> decide
  · have e0 : (m : Int).toNat = m := by omega
    rw [e0] at hx
    refine ⟨mulL (by decide), ?_⟩
    obtain ⟨x2, hx2, _, _⟩ := hx.ix 2 rfl rfl
    refine ifset (fun t => ∃ z, t = .int z ∧ 0 ≤ z ∧ z ≤ 10 ^ 18) rfl ⟨_, rfl, by omega, by omega⟩ (fun KK hK => ⟨_, _, rfl, hx2, _, _, .int _, .int _, hK _⟩) (fun KK hK => ⟨⟨by decide, by decide, by decide⟩, hK _ ⟨_, rfl, by decide, by decide⟩⟩) ?_
    rintro _ ⟨gr, rfl, hg0, hg1⟩
    refine ⟨sz' rfl, fun p hp => ?_⟩
    obtain ⟨x0, hx0, h00, h01⟩ := hx.ix 0 rfl rfl
    refine ⟨_, _, rfl, hx0, ⟨by omega, by omega⟩, ?_⟩
    refine ⟨fun j env st' => ∃ (r : List Int) (x y z : Option T), env = [some (eScr sc), some (.int i), some (.int m), some (.int fl), some (eIs xs), some (.int gr), some (.loc p), x, y, z] ∧ r.length = j ∧ (∀ x ∈ r, 0 ≤ x ∧ x ≤ 10 ^ 18) ∧ Sub (supd st p (.lst (r.map T.int))) st',
      ⟨[], none, none, none, rfl, rfl, by simp, Sub.refl _⟩, fun _ _ _ _ _ => trivial, ?_, ?_⟩
    · rintro j x env st' hxj ⟨r, y1, y2, y3, rfl, hrl, hr0, hs⟩
      obtain ⟨hj, rfl⟩ := rgI_at hxj
      have hjm : j < m := by omega
      have hs1 : ([(m : Int) + 1, 4, 3] ++ (List.replicate m [8, 5]).flatten)[3 + 2 * j]? = some 8 := by
        rw [List.getElem?_append_right (by show 3 ≤ _; omega), show 3 + 2 * j - [(m : Int) + 1, 4, 3].length = [(8 : Int), 5].length * j + 0 by show 3 + 2 * j - 3 = 2 * j + 0; omega, rep_at hjm (by decide)]
        rfl
      have hs2 : ([(m : Int) + 1, 4, 3] ++ (List.replicate m [8, 5]).flatten)[3 + 2 * j + 1]? = some 5 := by
        rw [List.getElem?_append_right (by show 3 ≤ _; omega), show 3 + 2 * j + 1 - [(m : Int) + 1, 4, 3].length = [(8 : Int), 5].length * j + 1 by show 3 + 2 * j + 1 - 3 = 2 * j + 1; omega, rep_at hjm (by decide)]
        rfl
      obtain ⟨a1, ha1, _, _⟩ := hx.ix (i := 2 * (0 + (j : Int)) + 3) (3 + 2 * j) (by omega) hs1
      obtain ⟨a2, ha2, b0, b1⟩ := hx.ix (i := 2 * (0 + (j : Int)) + 3 + 1) (3 + 2 * j + 1) (by omega) hs2
      obtain ⟨a3, ha3, c0, c1⟩ := hx.ix (i := 1) 1 rfl rfl
      obtain ⟨z3, hz3, _⟩ := atI_anyI (l := [0, 1, 3, 6]) c0 c1
      obtain ⟨z2, hz2, hm2⟩ := atI_anyI (l := [fl, fl, 2 * fl, 3 * fl, gr]) b0 b1
      refine ⟨mulL (by decide), ?_⟩
      refine ifset (fun t => ∃ z, t = .int z ∧ 0 ≤ z ∧ z ≤ 10 ^ 18) rfl ⟨_, rfl, by omega, by decide⟩ (fun KK hK => ⟨_, _, rfl, ha1, sz' rfl, _, _, rfl, ha3, _, _, rfl, hz3, hK _⟩)
        (fun KK hK => ⟨mulL (by decide), mulL (by decide), sz' rfl, _, _, rfl, ha2, _, _, rfl, hz2, hK _ ⟨_, rfl, ?_⟩⟩) ?_
      · simp only [List.mem_cons, List.mem_nil_iff, or_false] at hm2
        rcases hm2 with rfl | rfl | rfl | rfl | rfl <;> omega
      · rintro _ ⟨wt, rfl, hw0, hw1⟩
        refine ⟨⟨_, hs.at⟩, _, hs.at, szl (by rw [List.length_map]; omega), ⟨r ++ [wt], _, _, _, rfl, by rw [List.length_append, hrl]; rfl, ?_, ?_⟩⟩
        · intro x hx
          rw [List.mem_append, List.mem_singleton] at hx
          rcases hx with hx | rfl
          · exact hr0 x hx
          · exact ⟨hw0, hw1⟩
        · rw [List.map_append]; exact hs.put
    · rintro env st' ⟨r, y1, y2, y3, rfl, hrl, hr0, hs⟩
      refine .inl ⟨_, hs.at, upQ.mk ((hs.base hp).del hp) (q r ⟨?_, hr0⟩)⟩
      rw [rgI_len] at hrl
      omega
/-! ### _law_table -/
abbrev sp_q_table : Sp3 := fun ts st Q _ => ∃ (sc : List Int) (i : Int) (m : Nat), ts = [eScr sc, .int i, .int m] ∧ 0 ≤ i ∧ i ≤ 1000000 ∧ m ≤ 8 ∧ ∀ tb, GoodTb tb → tb.length ≤ m → Q (eTb tb) st
abbrev N_q_table : List Str := ["_law_script", "_law_place", "_law_most", "_law_pool", "_law_some", "_law_flaw_here", "_law_gain", "_law_table_here", "_law_k", "_law_at", "_law_width", "_law_worth", "_law_allowed", "_law_name"]
theorem sc_q_table : FnScope N_q_table ["_law_script", "_law_place", "_law_most"] (defScope s_q_table) := ⟨rfl, rfl, rfl, by decide +kernel, rfl, by decide +kernel, by decide +kernel⟩

theorem d_q_table (t : Tx K mg "_law_table" "_law_table" s_q_table ["_law_script", "_law_place", "_law_most"]) (B : Bi mg) (d_q_row : Df P w K mg base 2 "_law_row" ["_law_script", "_law_place", "_law_sizes"] sp_q_row) : Df P w K mg base 3 "_law_table" ["_law_script", "_law_place", "_law_most"] sp_q_table := by
  refine dmk t sc_q_table (by rintro _ _ _ _ ⟨_, _, _, rfl, _⟩; rfl) fun f cdv A outer s H E hr => ⟨_, fun _ => (lss_cons (ls_set (i := 3) sc_q_table.nd rfl (.inl rfl) (le_lst (la_cons le_str (la_cons le_str (la_cons le_str (la_cons le_str (la_cons le_str (la_cons le_str (la_cons le_str (la_cons le_str (la_cons le_str (la_cons le_str la_nil))))))))))))
    (lss_cons (ls_set (i := 3) sc_q_table.nd rfl (.inl rfl) (le_add (lv 3) (le_lst (la_cons le_str (la_cons le_str (la_cons le_str (la_cons le_str (la_cons le_str (la_cons le_str la_nil)))))))))
    (lss_cons (ls_set (i := 4) sc_q_table.nd rfl (.inl rfl) (le_callD d_q_row (hr.mono (by decide)) (by rfl) (la_cons (lv 0) (la_cons (lv 1) (la_cons (le_add (le_lst (la_cons (le_add (lv 2) le_int) (la_cons le_int (la_cons le_int (la_cons le_int (la_cons le_int (la_cons le_int la_nil))))))) (le_mul (le_lst (la_cons le_int (la_cons le_int (la_cons le_int la_nil)))) (lv 2))) la_nil)))))
    (lss_cons (ls_set (i := 5) sc_q_table.nd rfl (.inl rfl) (le_ix (le_lst (la_cons le_int (la_cons le_int (la_cons le_int (la_cons (le_pow le_int le_int) la_nil))))) (le_ix (lv 4) le_int)))
    (lss_cons (ls_set (i := 6) sc_q_table.nd rfl (.inl rfl) (le_ix (le_lst (la_cons le_int (la_cons le_int (la_cons (le_pow le_int le_int) (la_cons (le_mul le_int (le_pow le_int le_int)) la_nil))))) (le_ix (lv 4) le_int)))
    (lss_cons (ls_set (i := 7) sc_q_table.nd rfl (.inl rfl) (le_lstM la_nil))
    (lss_cons (ls_for PassesOwn.never rfl (li_range1 (by rfl) B.range (la_cons (le_ix (lv 4) le_int) la_nil)) (lg_name (i := 8) sc_q_table.nd rfl (.inl rfl))
    (lss_cons (ls_set (i := 9) sc_q_table.nd rfl (.inl rfl) (le_add (le_mul le_int (lv 8)) le_int))
    (lss_cons (ls_set (i := 10) sc_q_table.nd rfl (.inl rfl) (le_ix (le_lst (la_cons le_int (la_cons le_int (la_cons le_int (la_cons le_int (la_cons le_int (la_cons le_int (la_cons le_int (la_cons le_int (la_cons le_int (la_cons le_int (la_cons (le_ix (le_lst (la_cons le_int (la_cons le_int la_nil))) (le_mod (lv 8) le_int)) la_nil)))))))))))) (le_ix (lv 4) (lv 9))))
    (lss_cons (ls_set (i := 11) sc_q_table.nd rfl (.inl rfl) (le_add le_int (le_ix (lv 4) (le_add (lv 9) le_int))))
    (lss_ifset (ls_if (lt_eq hr (le_ix (lv 4) le_int) le_int)
    (lss_one (ls_set (i := 11) sc_q_table.nd rfl (.inl rfl) (le_add (le_mul le_int (lv 10)) (le_mod (le_ix (lv 4) (le_add (lv 9) le_int)) le_int))))
    lss_nil)
    (lss_ifset (ls_if (lt_eq hr (le_ix (lv 4) le_int) le_int)
    (lss_one (ls_set (i := 11) sc_q_table.nd rfl (.inl rfl) (le_add le_int (le_mod (le_ix (lv 4) (le_add (lv 9) le_int)) le_int))))
    lss_nil)
    (lss_ifset (ls_if (lt_eq hr (le_ix (lv 4) le_int) le_int)
    (lss_one (ls_set (i := 11) sc_q_table.nd rfl (.inl rfl) (lv 10)))
    lss_nil)
    (lss_cons (ls_set (i := 12) sc_q_table.nd rfl (.inl rfl) (le_min2 rfl (by rfl) B.min (la_cons (le_mul (le_ix (le_lst (la_cons le_int (la_cons le_int (la_cons le_int (la_cons le_int (la_cons le_int (la_cons le_int la_nil))))))) (le_ix (lv 4) (le_add (lv 9) le_int))) (lv 5)) (la_cons (le_sub (le_pow le_int le_int) le_int) la_nil))))
    (lss_cons (ls_set (i := 13) sc_q_table.nd rfl (.inl rfl) (le_ix (lv 3) (le_mod (le_add (le_ix (lv 4) le_int) (le_mul (le_add (le_mul le_int (le_ix (lv 4) le_int)) le_int) (lv 8))) le_int)))
    (lss_one (ls_expr (le_append (lv 7) (la_cons (le_tup (la_cons (lv 13) (la_cons (lv 10) (la_cons (le_min2 rfl (by rfl) B.min (la_cons (le_mul (lv 11) (lv 6)) (la_cons (le_pow le_int le_int) la_nil))) (la_cons (lv 12) la_nil))))) la_nil)))))))))))))
    (lss_one (ls_ret (le_frz (lv 7))))))))))), ?_⟩
  rintro ts st Q E3 ⟨sc, i, m, rfl, hi, hi2, hm, q⟩
  refine ⟨sz' rfl, sz' rfl, _, _, rfl, rfl, sz' rfl, ?_⟩
  refine ⟨sz' rfl, sz' rfl, _, rfl, by omega, by omega, sz (by show 3 * ((m : Int)).toNat ≤ _; omega), _, _, rfl, rfl, sz (by rw [rep_len]; show 6 + ((m : Int)).toNat * 3 ≤ _; omega), ?_⟩
  refine ⟨sc, i, [(m : Int) + 1, 4, 4, 4, 16, 4] ++ (List.replicate (m : Int).toNat [11, 40, 6]).flatten, ?_, hi, hi2, ?_, ?_, fun xs hx => ?_⟩
  · rw [← eIs_app]; rfl
  · rw [List.length_append, rep_len]; show 6 + ((m : Int)).toNat * 3 ≤ _; omega
  · intro z hz
    rw [List.mem_append] at hz
    rcases hz with hz | hz
    · simp only [List.mem_cons, List.mem_nil_iff, or_false] at hz
      rcases hz with rfl | rfl | rfl | rfl | rfl | rfl
      · exact ⟨by omega, by omega⟩
      all_goals decide
    · rw [List.mem_flatten] at hz
      obtain ⟨l, hl, hz⟩ := hz
      rw [List.mem_replicate] at hl
      obtain ⟨_, rfl⟩ := hl
      simp only [List.mem_cons, List.mem_nil_iff, or_false] at hz
      rcases hz with rfl | rfl | rfl <;> decide
  · have e0 : (m : Int).toNat = m := by omega
    rw [e0] at hx
    obtain ⟨x1, hx1, a10, a11⟩ := hx.ix 1 rfl rfl
    obtain ⟨x2, hx2, a20, a21⟩ := hx.ix 2 rfl rfl
    obtain ⟨x3, hx3, a30, a31⟩ := hx.ix 3 rfl rfl
    obtain ⟨x4, hx4, a40, a41⟩ := hx.ix 4 rfl rfl
    obtain ⟨x5, hx5, a50, a51⟩ := hx.ix 5 rfl rfl
    obtain ⟨x0, hx0, a00, a01⟩ := hx.ix 0 rfl rfl
    obtain ⟨fl, hfl, mfl⟩ := atI_anyI (l := [1, 1, 7, 10 ^ (17 : Int).toNat]) a10 a11
    obtain ⟨gn, hgn, mgn⟩ := atI_anyI (l := [1, 1, 10 ^ (6 : Int).toNat, 25 * 10 ^ (15 : Int).toNat]) a20 a21
    have fl0 : 0 ≤ fl ∧ fl ≤ 10 ^ 17 := by
      simp only [List.mem_cons, List.mem_nil_iff, or_false] at mfl
      rcases mfl with rfl | rfl | rfl | rfl <;> decide
    have gn0 : 1 ≤ gn ∧ gn ≤ 25 * 10 ^ 15 := by
      simp only [List.mem_cons, List.mem_nil_iff, or_false] at mgn
      rcases mgn with rfl | rfl | rfl | rfl <;> decide
    refine ⟨⟨by decide, by decide, by decide⟩, sz' rfl, _, _, rfl, hx1, _, _, rfl, hfl, ?_⟩
    refine ⟨⟨by decide, by decide, by decide⟩, ⟨by decide, by decide, by decide⟩, mulL (by decide), sz' rfl, _, _, rfl, hx2, _, _, rfl, hgn, ?_⟩
    refine ⟨sz' rfl, fun p hp => ⟨_, _, rfl, hx0, ⟨by omega, by omega⟩, ?_⟩⟩
    refine ⟨fun j env st' => ∃ (tb : List Knd) (y1 y2 y3 y4 y5 y6 : Option T), env = [some (eScr sc), some (.int i), some (.int m), some (.lst (poolN.map T.str)), some (eIs xs), some (.int fl), some (.int gn), some (.loc p), y1, y2, y3, y4, y5, y6] ∧
        tb.length = j ∧ (∀ k ∈ tb, GoodK k) ∧ (∀ (k : Nat) (kd : Knd), tb[k]? = some kd → poolN[((x4 + (2 * x5 + 1) * (k : Int)) % 16).toNat]? = some kd.name) ∧ Sub (supd st p (.lst (tb.map eK))) st',
      ⟨[], none, none, none, none, none, none, rfl, rfl, by simp, by simp, Sub.refl _⟩, fun _ _ _ _ _ => trivial, ?_, ?_⟩
    · rintro j x env st' hxj ⟨tb, y1, y2, y3, y4, y5, y6, rfl, htl, hg, hnm, hs⟩
      obtain ⟨hj, rfl⟩ := rgI_at hxj
      have hjm : j < m := by omega
      have hsz : ∀ (d : Nat) (z : Int), ([11, 40, 6] : List Int)[d]? = some z → ([(m : Int) + 1, 4, 4, 4, 16, 4] ++ (List.replicate m [11, 40, 6]).flatten)[6 + 3 * j + d]? = some z := fun d z hd => by
        have hd3 : d < 3 := (List.getElem?_eq_some_iff.mp hd).1
        rw [List.getElem?_append_right (by show 6 ≤ _; omega), show 6 + 3 * j + d - [(m : Int) + 1, 4, 4, 4, 16, 4].length = [(11 : Int), 40, 6].length * j + d by show 6 + 3 * j + d - 6 = 3 * j + d; omega, rep_at hjm hd3]
        exact hd
      obtain ⟨b1, hb1, b10, b11⟩ := hx.ix (i := 3 * (0 + (j : Int)) + 6) (6 + 3 * j + 0) (by omega) (hsz 0 11 rfl)
      obtain ⟨b2, hb2, b20, b21⟩ := hx.ix (i := 3 * (0 + (j : Int)) + 6 + 1) (6 + 3 * j + 1) (by omega) (hsz 1 40 rfl)
      obtain ⟨b3, hb3, b30, b31⟩ := hx.ix (i := 3 * (0 + (j : Int)) + 6 + 2) (6 + 3 * j + 2) (by omega) (hsz 2 6 rfl)
      obtain ⟨c1, hc1, mc1⟩ := atI_anyI (l := [150, 200]) (x := (0 + (j : Int)) % 2) (Int.emod_nonneg _ (by decide)) (Int.emod_lt_of_pos _ (by decide))
      obtain ⟨wd, hwd, mwd⟩ := atI_anyI (l := [1, 2, 3, 4, 5, 6, 2, 3, 11, 40, c1]) b10 b11
      obtain ⟨al, hal, mal⟩ := atI_anyI (l := [0, 0, 1, 2, 3, 12]) b30 b31
      have wd0 : 1 ≤ wd ∧ wd ≤ 200 := by
        have hc : 1 ≤ c1 ∧ c1 ≤ 200 := by
          simp only [List.mem_cons, List.mem_nil_iff, or_false] at mc1
          rcases mc1 with rfl | rfl <;> decide
        simp only [List.mem_cons, List.mem_nil_iff, or_false] at mwd
        rcases mwd with rfl | rfl | rfl | rfl | rfl | rfl | rfl | rfl | rfl | rfl | rfl <;> omega
      have al0 : 0 ≤ al ∧ al ≤ 12 := by
        simp only [List.mem_cons, List.mem_nil_iff, or_false] at mal
        rcases mal with rfl | rfl | rfl | rfl | rfl | rfl <;> decide
      refine ⟨mulL (by decide), sz' rfl, by decide, _, _, rfl, hc1, sz' rfl, _, _, rfl, hb1, _, _, rfl, hwd, ?_⟩
      refine ⟨_, _, rfl, hb2, ?_⟩
      refine ifset (fun t => ∃ z, t = .int z ∧ 1 ≤ z ∧ z ≤ 1000) rfl ⟨_, rfl, by omega, by omega⟩ (fun KK hK => ⟨_, _, rfl, hx3, _, _, .int _, .int _, hK _⟩) (fun KK hK => ⟨mulL (by decide), _, _, rfl, hb2, by decide, hK _ ⟨_, rfl, by omega, by omega⟩⟩) ?_
      rintro _ ⟨w1, rfl, w10, w11⟩
      refine ifset (fun t => ∃ z, t = .int z ∧ 1 ≤ z ∧ z ≤ 1000) rfl ⟨_, rfl, by omega, by omega⟩ (fun KK hK => ⟨_, _, rfl, hx3, _, _, .int _, .int _, hK _⟩) (fun KK hK => ⟨_, _, rfl, hb2, by decide, hK _ ⟨_, rfl, by omega, by omega⟩⟩) ?_
      rintro _ ⟨w2, rfl, w20, w21⟩
      refine ifset (fun t => ∃ z, t = .int z ∧ 1 ≤ z ∧ z ≤ 1000) rfl ⟨_, rfl, by omega, by omega⟩ (fun KK hK => ⟨_, _, rfl, hx3, _, _, .int _, .int _, hK _⟩) (fun KK hK => hK _ ⟨_, rfl, by omega, by omega⟩) ?_
      rintro _ ⟨w3, rfl, w30, w31⟩
      have hal2 : 0 ≤ al * fl ∧ al * fl ≤ 12 * 10 ^ 17 := by
        refine ⟨Int.mul_nonneg al0.1 fl0.1, ?_⟩
        exact Int.le_trans (Int.mul_le_mul_of_nonneg_right al0.2 fl0.1) (Int.mul_le_mul_of_nonneg_left fl0.2 (by decide))
      have hwg : 1 ≤ w3 * gn ∧ w3 * gn ≤ 1000 * (25 * 10 ^ 15) := by
        refine ⟨?_, Int.le_trans (Int.mul_le_mul_of_nonneg_right w31 (by omega)) (Int.mul_le_mul_of_nonneg_left gn0.2 (by decide))⟩
        have := Int.mul_le_mul_of_nonneg_right w30 (show 0 ≤ gn by omega)
        omega
      refine ⟨sz' rfl, _, _, rfl, hb3, _, _, rfl, hal, mulL (by omega), ⟨by decide, by decide, by decide⟩, ?_⟩
      obtain ⟨nm, hnm1, hnm2⟩ := pool_at (i := (x4 + (2 * x5 + 1) * (0 + (j : Int))) % 16) (Int.emod_nonneg _ (by decide)) (Int.emod_lt_of_pos _ (by decide))
      refine ⟨_, _, rfl, hx4, _, _, rfl, hx5, mulL (by decide), mulL (by omega), by decide, _, _, rfl, hnm1, ?_⟩
      refine ⟨⟨_, hs.at⟩, mulL (by omega), ⟨by decide, by decide, by decide⟩, sz' rfl, _, hs.at, szl (by rw [List.length_map]; omega), ?_⟩
      let kd : Knd := ⟨nm, wd, if 10 ^ (18 : Int).toNat < w3 * gn then 10 ^ (18 : Int).toNat else w3 * gn, if 10 ^ (18 : Int).toNat - 1 < al * fl then 10 ^ (18 : Int).toNat - 1 else al * fl⟩
      refine ⟨tb ++ [kd], _, _, _, _, _, _, rfl, by rw [List.length_append, htl]; rfl, fun k hk => ?_, fun n k hk => ?_, ?_⟩
      · rw [List.mem_append, List.mem_singleton] at hk
        rcases hk with hk | rfl
        · exact hg k hk
        · have e18 : (10 : Int) ^ (18 : Int).toNat = 1000000000000000000 := by decide
          exact ⟨wd0.1, wd0.2, by dsimp only [kd]; split <;> omega, by dsimp only [kd]; split <;> omega, by dsimp only [kd]; split <;> omega, by dsimp only [kd]; rw [e18]; split <;> omega, List.mem_of_getElem? hnm2⟩
      · by_cases e : n < tb.length
        · rw [List.getElem?_append_left e] at hk
          exact hnm n k hk
        · rw [List.getElem?_append_right (by omega)] at hk
          cases hn : n - tb.length with
          | zero =>
            rw [hn] at hk
            cases hk
            have : n = j := by omega
            subst this
            rw [Int.zero_add] at hnm2
            exact hnm2
          | succ z => rw [hn] at hk; simp at hk
      · rw [List.map_append]; exact hs.put
    · rintro env st' ⟨tb, y1, y2, y3, y4, y5, y6, rfl, htl, hg, hnm, hs⟩
      rw [rgI_len] at htl
      have htm : tb.length ≤ m := by omega
      refine .inl ⟨_, hs.at, upQ.mk ((hs.base hp).del hp) (q tb ⟨hg, ?_⟩ htm)⟩
      rw [List.nodup_iff_pairwise_ne, List.pairwise_iff_getElem]
      intro a b ha hb hab e
      rw [List.length_map] at ha hb
      rw [List.getElem_map, List.getElem_map] at e
      have h1 := hnm a _ (List.getElem?_eq_getElem ha)
      have h2 := hnm b _ (List.getElem?_eq_getElem hb)
      rw [e] at h1
      have h3 := (List.getElem?_eq_some_iff.mp h1)
      have h4 := (List.getElem?_eq_some_iff.mp h2)
      have h5 : ((x4 + (2 * x5 + 1) * (a : Int)) % 16).toNat = ((x4 + (2 * x5 + 1) * (b : Int)) % 16).toNat := (List.getElem_inj pool_nodup).mp (h3.2.trans h4.2.symm)
      have n1 := Int.emod_nonneg (x4 + (2 * x5 + 1) * (a : Int)) (b := 16) (by decide)
      have n2 := Int.emod_nonneg (x4 + (2 * x5 + 1) * (b : Int)) (b := 16) (by decide)
      exact pick_ne (s4 := x4) (s5 := x5) hab (by omega) (by omega)
end
end Sv

/-! The mathematics of heights, best cuttings and their number: plain Lean, no program in sight. -/
namespace Sv
open PySem PySem.Spec PyProof.Rows L2 L3
open PySem.W (dataLe dataLt alike alikeAll AllAlike Sortable keyToks keyToksAll)
/-! ### lists built one by one, each item out of the ones ahead -/
section
variable {α : Type} [Inhabited α]
def build (f : List α → Nat → α) (a : α) : Nat → List α
  | 0 => [a]
  | n + 1 => build f a n ++ [f (build f a n) (n + 1)]
def bval (f : List α → Nat → α) (a : α) (j : Nat) : α := (build f a j)[j]?.getD default
variable {f : List α → Nat → α} {a : α}
theorem build_len : ∀ n, (build f a n).length = n + 1
  | 0 => rfl
  | n + 1 => by unfold build; rw [List.length_append, build_len n]; rfl
theorem build_pre : ∀ (n j : Nat), j ≤ n → (build f a n)[j]? = some (bval f a j) := fun n j h => by
  induction n with
  | zero =>
    have : j = 0 := by omega
    subst this
    rfl
  | succ n ih =>
    by_cases e : j = n + 1
    · subst e
      unfold bval
      have : (build f a (n + 1))[n + 1]? = some ((build f a (n + 1))[n + 1]'(by rw [build_len]; omega)) := List.getElem?_eq_getElem _
      rw [this]; rfl
    · unfold build
      rw [List.getElem?_append_left (by rw [build_len]; omega)]
      exact ih (by omega)
theorem bval_zero : bval f a 0 = a := rfl
theorem bval_succ (n : Nat) : bval f a (n + 1) = f (build f a n) (n + 1) := by
  unfold bval
  have : (build f a (n + 1))[n + 1]? = some (f (build f a n) (n + 1)) := by
    show (build f a n ++ [f (build f a n) (n + 1)])[n + 1]? = _
    rw [List.getElem?_append_right (by rw [build_len]; omega), build_len, Nat.sub_self]
    rfl
  rw [this]
  rfl
theorem build_getD {n j : Nat} (h : j ≤ n) (d : α) : (build f a n)[j]?.getD d = bval f a j := by rw [build_pre n j h]; rfl
theorem build_last (n : Nat) : (build f a n).getLast? = some (bval f a n) := by
  rw [List.getLast?_eq_getElem?, build_len]
  exact build_pre n n (Nat.le_refl _)
end
theorem build_ix {f : List Int → Nat → Int} {a : Int} {n : Nat} {i : Int} (j : Nat) (e : i = (j : Int)) (h : j ≤ n) : atI ((build f a n).map T.int) i = some (.int (bval f a j)) := atI_ints (atI_ix e (build_pre n j h))
theorem foldl_more {α β : Type} (f : β → α → β) (b : β) {l : List α} {i : Nat} {x : α} (h : l[i]? = some x) : (l.take (i + 1)).foldl f b = f ((l.take i).foldl f b) x := by
  rw [List.take_add_one, h, List.foldl_append]; rfl
theorem filter_more {α : Type} (p : α → Bool) {l : List α} {i : Nat} {x : α} (h : l[i]? = some x) : (l.take (i + 1)).filter p = (l.take i).filter p ++ (if p x then [x] else []) := by
  rw [List.take_add_one, h, List.filter_append]
  show _ = (l.take i).filter p ++ _
  congr 1
  show List.filter p [x] = _
  rw [List.filter_cons]; rfl
theorem map_get {α β : Type} {f : α → β} {l : List α} {i : Nat} {y : β} (h : (l.map f)[i]? = some y) : ∃ x, l[i]? = some x ∧ y = f x := by
  rw [List.getElem?_map] at h
  cases e : l[i]? with
  | none => rw [e] at h; cases h
  | some x => rw [e] at h; cases h; exact ⟨x, rfl, rfl⟩
theorem rng_get {f : Nat → Int} {n j : Nat} (h : j < n) : ((List.range n).map f)[j]? = some (f j) := by
  rw [List.getElem?_map, List.getElem?_range h]; rfl
theorem rng_last (f : Nat → Int) (n : Nat) : ((List.range (n + 1)).map f).getLast? = some (f n) := by
  rw [List.range_succ, List.map_append]; simp
theorem rng_more {α : Type} (f : Nat → α) (n : Nat) : (List.range (n + 1)).map f = (List.range n).map f ++ [f n] := by
  rw [List.range_succ, List.map_append]; rfl
/-! ### running sums, what fits -/
/-- the first j weights together -/
def psum (r : List Int) (j : Nat) : Int := (r.take j).sum
def rsums (r : List Int) : List Int := (List.range (r.length + 1)).map (psum r)
theorem psum_succ {r : List Int} {j : Nat} {x : Int} (h : r[j]? = some x) : psum r (j + 1) = psum r j + x := L2.sum_take h
theorem rsums_at {r : List Int} {j : Nat} (h : j ≤ r.length) : (rsums r)[j]? = some (psum r j) := rng_get (by omega)
theorem rsums_len (r : List Int) : (rsums r).length = r.length + 1 := by unfold rsums; rw [List.length_map, List.length_range]
theorem sums_at {r : List Int} {i : Int} (j : Nat) (e : i = (j : Int)) (h : j ≤ r.length) : atI ((rsums r).map T.int) i = some (.int (psum r j)) := atI_ints (atI_ix e (rsums_at h))
/-- a good kind: at least one cell wide -/
def okK (k : Knd) : Prop := 1 ≤ k.width
/-- a piece of the kind fits that ends at e -/
def fitE (r : List Int) (k : Knd) (e : Nat) : Bool := decide ((0 : Int) ≤ (e : Int) - k.width) && decide (psum r e - psum r (e - k.width.toNat) ≤ k.allowed)
theorem fitE_le {r : List Int} {k : Knd} {e : Nat} (h : fitE r k e = true) : k.width ≤ (e : Int) := by
  unfold fitE at h
  rw [Bool.and_eq_true] at h
  have := of_decide_eq_true h.1
  omega
/-! ### heights -/
def hstep (r : List Int) (told : List Int) (e : Nat) (g : Int) (k : Knd) : Int := if fitE r k e then max g (told[e - k.width.toNat]?.getD 0 + k.worth) else g
def hF (r : List Int) (tb : List Knd) (l : List Int) (e : Nat) : Int := tb.foldl (hstep r l e) (l[e - 1]?.getD 0)
abbrev hl (r : List Int) (tb : List Knd) : Nat → List Int := build (hF r tb) 0
/-- the greatest worth of the first j cells -/
abbrev hgt (r : List Int) (tb : List Knd) (j : Nat) : Int := bval (hF r tb) 0 j
/-! ### the kinds that a best cutting ends with, the number of best cuttings, these -/
def bEnds (r : List Int) (tb : List Knd) (e : Nat) : List Knd := tb.filter fun k => fitE r k e && decide (hgt r tb (e - k.width.toNat) + k.worth = hgt r tb e)
theorem bEnds_mem {r : List Int} {tb : List Knd} {e : Nat} {k : Knd} (h : k ∈ bEnds r tb e) : k ∈ tb ∧ fitE r k e = true ∧ hgt r tb (e - k.width.toNat) + k.worth = hgt r tb e := by
  unfold bEnds at h
  rw [List.mem_filter, Bool.and_eq_true] at h
  exact ⟨h.1, h.2.1, of_decide_eq_true h.2.2⟩
def wF (r : List Int) (tb : List Knd) (l : List Int) (e : Nat) : Int := (bEnds r tb e).foldl (fun c k => c + l[e - k.width.toNat]?.getD 0) (if hgt r tb e = hgt r tb (e - 1) then l[e - 1]?.getD 0 else 0)
abbrev wl (r : List Int) (tb : List Knd) : Nat → List Int := build (wF r tb) 1
abbrev ways (r : List Int) (tb : List Knd) (j : Nat) : Int := bval (wF r tb) 1 j
abbrev Pc := Int × Str
def bF (r : List Int) (tb : List Knd) (l : List (List (List Pc))) (e : Nat) : List (List Pc) :=
  (if hgt r tb e = hgt r tb (e - 1) then l[e - 1]?.getD [] else []) ++ (bEnds r tb e).flatMap fun k => (l[e - k.width.toNat]?.getD []).map (· ++ [(((e - k.width.toNat : Nat) : Int), k.name)])
/-- all best cuttings of the first j cells -/
abbrev bst (r : List Int) (tb : List Knd) (j : Nat) : List (List Pc) := bval (bF r tb) [[]] j
theorem flatMap_congr {α β : Type} {f g : α → List β} : ∀ {l : List α}, (∀ x ∈ l, f x = g x) → l.flatMap f = l.flatMap g
  | [], _ => rfl
  | x :: l, h => by
    rw [List.flatMap_cons, List.flatMap_cons, h x (List.mem_cons_self ..), flatMap_congr fun y hy => h y (List.mem_cons_of_mem _ hy)]
section
variable {r : List Int} {tb : List Knd}
theorem bst_succ (ok : ∀ k ∈ tb, okK k) (n : Nat) : bst r tb (n + 1) = (if hgt r tb (n + 1) = hgt r tb n then bst r tb n else []) ++ (bEnds r tb (n + 1)).flatMap fun k => (bst r tb (n + 1 - k.width.toNat)).map (· ++ [(((n + 1 - k.width.toNat : Nat) : Int), k.name)]) := by
  rw [bst, bval_succ]
  unfold bF
  rw [Nat.add_sub_cancel, build_getD (Nat.le_refl n)]
  congr 1
  refine flatMap_congr fun k hk => ?_
  have h1 := fitE_le (bEnds_mem hk).2.1
  have h2 : 1 ≤ k.width := ok k (bEnds_mem hk).1
  rw [build_getD (by omega)]
  rfl
theorem ways_succ (ok : ∀ k ∈ tb, okK k) (n : Nat) : ways r tb (n + 1) = (bEnds r tb (n + 1)).foldl (fun c k => c + ways r tb (n + 1 - k.width.toNat)) (if hgt r tb (n + 1) = hgt r tb n then ways r tb n else 0) := by
  rw [ways, bval_succ]
  unfold wF
  rw [Nat.add_sub_cancel, build_getD (Nat.le_refl n)]
  have : ∀ (l : List Knd) (c : Int), (∀ k ∈ l, k ∈ bEnds r tb (n + 1)) → l.foldl (fun c k => c + (build (wF r tb) 1 n)[n + 1 - k.width.toNat]?.getD 0) c = l.foldl (fun c k => c + ways r tb (n + 1 - k.width.toNat)) c := by
    intro l
    induction l with
    | nil => intros; rfl
    | cons k l ih =>
      intro c h
      have hk := h k (List.mem_cons_self ..)
      have h1 := fitE_le (bEnds_mem hk).2.1
      have h2 : 1 ≤ k.width := ok k (bEnds_mem hk).1
      rw [List.foldl_cons, List.foldl_cons, build_getD (by omega)]
      exact ih _ fun k hk => h k (List.mem_cons_of_mem _ hk)
  exact this _ _ fun _ h => h
theorem foldl_len {α β : Type} (f : α → List β) : ∀ (l : List α) (c : Int), l.foldl (fun c k => c + ((f k).length : Int)) c = c + ((l.flatMap f).length : Int)
  | [], c => by simp
  | x :: l, c => by
    rw [List.foldl_cons, foldl_len f l, List.flatMap_cons, List.length_append]
    omega
/-- their number -/
theorem ways_count (ok : ∀ k ∈ tb, okK k) : ∀ j, ways r tb j = ((bst r tb j).length : Int) := fun j => by
  induction j using Nat.strongRecOn with
  | _ j ih =>
    cases j with
    | zero => rfl
    | succ n =>
      rw [ways_succ ok, bst_succ ok, List.length_append]
      have e : ∀ (l : List Knd) (c : Int), (∀ k ∈ l, k ∈ bEnds r tb (n + 1)) → l.foldl (fun c k => c + ways r tb (n + 1 - k.width.toNat)) c = l.foldl (fun c k => c + (((bst r tb (n + 1 - k.width.toNat)).map (· ++ [(((n + 1 - k.width.toNat : Nat) : Int), k.name)])).length : Int)) c := by
        intro l
        induction l with
        | nil => intros; rfl
        | cons k l ihl =>
          intro c h
          have hk := h k (List.mem_cons_self ..)
          have h2 : 1 ≤ k.width := ok k (bEnds_mem hk).1
          rw [List.foldl_cons, List.foldl_cons, ih _ (by omega), List.length_map]
          exact ihl _ fun k hk => h k (List.mem_cons_of_mem _ hk)
      rw [e _ _ fun _ h => h, foldl_len]
      split
      · rw [ih n (by omega)]
        omega
      · rw [List.length_nil]
        omega
/-! ### each of them is a cutting of that worth -/
def goodAt (r : List Int) (k : Knd) (p : Int) : Bool := decide (0 ≤ p) && decide (p + k.width ≤ r.length) && decide (psum r (p + k.width).toNat - psum r p.toNat ≤ k.allowed)
def kindOf (tb : List Knd) (nm : Str) : Option Knd := tb.find? fun k => decide (k.name = nm)
/-- one piece more: the worth so far, the place from which on the cells are free -/
def amtS (r : List Int) (tb : List Knd) (s : Int × Int) (p : Pc) : Option (Int × Int) := match kindOf tb p.2 with
  | none => none
  | some k => if p.1 < s.2 then none else if goodAt r k p.1 then some (s.1 + k.worth, p.1 + k.width) else none
/-- the worth of a cutting, none where it is none -/
def amount (r : List Int) (tb : List Knd) (c : List Pc) : Option Int := (c.foldlM (amtS r tb) (0, 0)).map (·.1)
theorem kindOf_mem {tb : List Knd} (nd : (tb.map (·.name)).Nodup) {k : Knd} (h : k ∈ tb) : kindOf tb k.name = some k := by
  induction tb with
  | nil => cases h
  | cons x tb ih =>
    rw [List.map_cons, List.nodup_cons] at nd
    unfold kindOf
    rw [List.find?_cons]
    rw [List.mem_cons] at h
    rcases h with rfl | h
    · simp
    · have : x.name ≠ k.name := fun e => nd.1 (by rw [e]; exact List.mem_map.mpr ⟨k, h, rfl⟩)
      simp only [this, decide_false]
      exact ih nd.2 h
theorem fit_good {k : Knd} {e : Nat} (hk : okK k) (he : e ≤ r.length) (h : fitE r k e = true) : goodAt r k ((e - k.width.toNat : Nat) : Int) = true := by
  have h1 := fitE_le h
  have h2 : 1 ≤ k.width := hk
  unfold fitE at h
  rw [Bool.and_eq_true] at h
  have h3 := of_decide_eq_true h.2
  unfold goodAt
  have e1 : (((e - k.width.toNat : Nat) : Int) + k.width).toNat = e := by omega
  rw [e1, Bool.and_eq_true, Bool.and_eq_true]
  exact ⟨⟨decide_eq_true (by omega), decide_eq_true (by omega)⟩, decide_eq_true (by rw [Int.toNat_natCast]; exact h3)⟩
theorem bst_amt (ok : ∀ k ∈ tb, okK k) (nd : (tb.map (·.name)).Nodup) : ∀ (j : Nat), j ≤ r.length → ∀ c ∈ bst r tb j, ∃ fr, c.foldlM (amtS r tb) (0, 0) = some (hgt r tb j, fr) ∧ fr ≤ (j : Int) := fun j => by
  induction j using Nat.strongRecOn with
  | _ j ih =>
    intro hj c hc
    cases j with
    | zero =>
      have : c = [] := by
        have h : c ∈ ([[]] : List (List Pc)) := hc
        simpa using h
      subst this
      exact ⟨0, rfl, by omega⟩
    | succ n =>
      rw [bst_succ ok, List.mem_append] at hc
      rcases hc with hc | hc
      · split at hc
        · rename_i e
          obtain ⟨fr, h1, h2⟩ := ih n (by omega) (by omega) c hc
          exact ⟨fr, by rw [e]; exact h1, by omega⟩
        · cases hc
      · rw [List.mem_flatMap] at hc
        obtain ⟨k, hk, hc⟩ := hc
        rw [List.mem_map] at hc
        obtain ⟨c', hc', rfl⟩ := hc
        obtain ⟨m1, m2, m3⟩ := bEnds_mem hk
        have h1 := fitE_le m2
        have h2 : 1 ≤ k.width := ok k m1
        obtain ⟨fr, a1, a2⟩ := ih _ (by omega) (by omega) c' hc'
        refine ⟨(n + 1 : Nat), ?_, by omega⟩
        rw [List.foldlM_append, a1]
        show amtS r tb (hgt r tb (n + 1 - k.width.toNat), fr) (((n + 1 - k.width.toNat : Nat) : Int), k.name) >>= _ = _
        unfold amtS
        rw [kindOf_mem nd m1]
        dsimp only
        rw [if_neg (by omega), if_pos (fit_good (ok k m1) hj m2), m3]
        show some _ = some _
        rw [show ((n + 1 - k.width.toNat : Nat) : Int) + k.width = ((n + 1 : Nat) : Int) by omega]
theorem bst_amount (ok : ∀ k ∈ tb, okK k) (nd : (tb.map (·.name)).Nodup) {j : Nat} (hj : j ≤ r.length) {c : List Pc} (hc : c ∈ bst r tb j) : amount r tb c = some (hgt r tb j) := by
  obtain ⟨fr, h, _⟩ := bst_amt ok nd j hj c hc
  unfold amount
  rw [h]
  rfl
/-- their pieces begin ahead of the end -/
theorem bst_before (ok : ∀ k ∈ tb, okK k) : ∀ (j : Nat), ∀ c ∈ bst r tb j, ∀ p ∈ c, p.1 < (j : Int) := fun j => by
  induction j using Nat.strongRecOn with
  | _ j ih =>
    intro c hc p hp
    cases j with
    | zero =>
      have : c = [] := by
        have h : c ∈ ([[]] : List (List Pc)) := hc
        simpa using h
      subst this
      cases hp
    | succ n =>
      rw [bst_succ ok, List.mem_append] at hc
      rcases hc with hc | hc
      · split at hc
        · have := ih n (by omega) c hc p hp
          omega
        · cases hc
      · rw [List.mem_flatMap] at hc
        obtain ⟨k, hk, hc⟩ := hc
        rw [List.mem_map] at hc
        obtain ⟨c', hc', rfl⟩ := hc
        have h2 : 1 ≤ k.width := ok k (bEnds_mem hk).1
        rw [List.mem_append, List.mem_singleton] at hp
        rcases hp with hp | rfl
        · have := ih _ (by omega) c' hc' p hp
          omega
        · show ((n + 1 - k.width.toNat : Nat) : Int) < _
          omega
theorem bst_len (ok : ∀ k ∈ tb, okK k) : ∀ (j : Nat), ∀ c ∈ bst r tb j, c.length ≤ j := fun j => by
  induction j using Nat.strongRecOn with
  | _ j ih =>
    intro c hc
    cases j with
    | zero =>
      have : c = [] := by
        have h : c ∈ ([[]] : List (List Pc)) := hc
        simpa using h
      subst this
      exact Nat.le_refl _
    | succ n =>
      rw [bst_succ ok, List.mem_append] at hc
      rcases hc with hc | hc
      · split at hc
        · have := ih n (by omega) c hc
          omega
        · cases hc
      · rw [List.mem_flatMap] at hc
        obtain ⟨k, hk, hc⟩ := hc
        rw [List.mem_map] at hc
        obtain ⟨c', hc', rfl⟩ := hc
        have h2 : 1 ≤ k.width := ok k (bEnds_mem hk).1
        have h1 := fitE_le (bEnds_mem hk).2.1
        rw [List.length_append]
        have := ih _ (by omega) c' hc'
        simp only [List.length_singleton]
        omega
theorem nodup_map_app {l : List (List Pc)} (x : Pc) (h : l.Nodup) : (l.map (· ++ [x])).Nodup := by
  rw [List.Nodup, List.pairwise_map]
  exact h.imp fun hne e => hne (List.append_cancel_right e)
/-- no two of them are the same -/
theorem bst_nodup (ok : ∀ k ∈ tb, okK k) (nd : (tb.map (·.name)).Nodup) : ∀ (j : Nat), j ≤ r.length → (bst r tb j).Nodup := fun j => by
  induction j using Nat.strongRecOn with
  | _ j ih =>
    intro hj
    cases j with
    | zero => exact List.nodup_cons.mpr ⟨by simp, List.nodup_nil⟩
    | succ n =>
      rw [bst_succ ok, List.nodup_append]
      refine ⟨by split; exact ih n (by omega) (by omega); exact List.nodup_nil, ?_, ?_⟩
      · -- the pieces at the end: of each kind its own
        have gen : ∀ l : List Knd, (l.map (·.name)).Nodup → (∀ k ∈ l, k ∈ bEnds r tb (n + 1)) → (l.flatMap fun k => (bst r tb (n + 1 - k.width.toNat)).map (· ++ [(((n + 1 - k.width.toNat : Nat) : Int), k.name)])).Nodup := by
          intro l
          induction l with
          | nil => intros; exact List.nodup_nil
          | cons k l ihl =>
            intro hn hm
            rw [List.map_cons, List.nodup_cons] at hn
            rw [List.flatMap_cons, List.nodup_append]
            have h2 : 1 ≤ k.width := ok k (bEnds_mem (hm k (List.mem_cons_self ..))).1
            refine ⟨nodup_map_app _ (ih _ (by omega) (by omega)), ihl hn.2 fun k hk => hm k (List.mem_cons_of_mem _ hk), ?_⟩
            intro a ha b hb e
            subst e
            rw [List.mem_map] at ha
            obtain ⟨c1, _, rfl⟩ := ha
            rw [List.mem_flatMap] at hb
            obtain ⟨k', hk', hb⟩ := hb
            rw [List.mem_map] at hb
            obtain ⟨c2, _, e⟩ := hb
            have := List.append_inj_right' e rfl
            simp only [List.cons.injEq, Prod.mk.injEq, and_true] at this
            exact hn.1 (by rw [← this.2]; exact List.mem_map.mpr ⟨k', hk', rfl⟩)
        refine gen _ ?_ fun _ h => h
        exact List.Nodup.sublist (List.Sublist.map _ List.filter_sublist) nd
      · intro a ha b hb e
        subst e
        split at ha
        · rw [List.mem_flatMap] at hb
          obtain ⟨k, hk, hb⟩ := hb
          rw [List.mem_map] at hb
          obtain ⟨c, hc, rfl⟩ := hb
          obtain ⟨m1, m2, m3⟩ := bEnds_mem hk
          obtain ⟨fr, a1, a2⟩ := bst_amt ok nd n (by omega) _ ha
          have h1 := fitE_le m2
          have h2 : 1 ≤ k.width := ok k m1
          obtain ⟨fr', b1, b2⟩ := bst_amt ok nd _ (by omega) _ hc
          rw [List.foldlM_append, b1] at a1
          have a1 : (amtS r tb (hgt r tb (n + 1 - k.width.toNat), fr') (((n + 1 - k.width.toNat : Nat) : Int), k.name) >>= pure) = some (hgt r tb n, fr) := a1
          unfold amtS at a1
          rw [kindOf_mem nd m1] at a1
          dsimp only at a1
          rw [if_neg (by omega), if_pos (fit_good (ok k m1) hj m2)] at a1
          have a1 : some (hgt r tb (n + 1 - k.width.toNat) + k.worth, ((n + 1 - k.width.toNat : Nat) : Int) + k.width) = some (hgt r tb n, fr) := a1
          rw [Option.some.injEq, Prod.mk.injEq] at a1
          omega
        · cases ha
end
end Sv

namespace Sv
open PySem PySem.Spec PyProof.Rows L2 L3
section
variable {P : Program} {w : World} {K : PySem.W.Frag} {mg : Str → Option Value} {base : Heap}
/-! ### running_sums -/
abbrev sp_running_sums : Sp3 := pureSp (fun r : List Int => [eIs r]) (fun r => r.length ≤ 1000000) (fun r => eIs (rsums r))
abbrev N_running_sums : List Str := ["roll", "told", "weight"]
theorem sc_running_sums : FnScope N_running_sums ["roll"] (defScope s_running_sums) := ⟨rfl, rfl, rfl, by decide +kernel, rfl, by decide +kernel, by decide +kernel⟩

theorem d_running_sums (t : Tx K mg "running_sums" "running_sums" s_running_sums ["roll"]) (B : Bi mg) : Df P w K mg base 1 "running_sums" ["roll"] sp_running_sums := by
  refine dmk t sc_running_sums (pure_len fun _ => rfl) fun f cdv A outer s H E hr => ⟨_, fun _ => (lss_cons (ls_set (i := 1) sc_running_sums.nd rfl (.inl rfl) (le_lstM (la_cons le_int la_nil)))
    (lss_cons (ls_for PassesOwn.never rfl (li_list (lv 0)) (lg_name (i := 2) sc_running_sums.nd rfl (.inl rfl))
    (lss_one (ls_expr (le_append (lv 1) (la_cons (le_add (le_ix (lv 1) (le_neg le_int)) (lv 2)) la_nil)))))
    (lss_one (ls_ret (le_frz (lv 1)))))), ?_⟩
  rintro ts st Q E3 ⟨r, rfl, hl, q⟩
  refine ⟨sz (by decide), fun p hp => ⟨_, rfl, fun i env st' => ∃ x, env = [some (eIs r), some (.loc p), x] ∧ Sub (supd st p (.lst (((List.range (i + 1)).map (psum r)).map T.int))) st', ⟨none, rfl, Sub.refl _⟩, fun _ _ _ _ _ => rfl, ?_, ?_⟩⟩
  · rintro i x env st' hx ⟨y, rfl, hs⟩
    rw [List.getElem?_map] at hx
    cases hx' : r[i]? with
    | none => rw [hx'] at hx; cases hx
    | some z =>
    rw [hx'] at hx; cases hx
    have hi : i < r.length := (List.getElem?_eq_some_iff.mp hx').1
    refine ⟨⟨_, hs.at⟩, _, _, hs.at, atI_lastI (rng_last (psum r) i), _, hs.at, szl (by simp; omega), _, rfl, ?_⟩
    rw [rng_more (psum r) (i + 1), List.map_append, psum_succ hx']
    exact hs.put
  · rintro env st' ⟨y, rfl, hs⟩
    refine .inl ⟨_, hs.at, upQ.mk ((hs.base hp).del hp) ?_⟩
    rw [List.length_map]
    exact q
end
end Sv

namespace Sv
open PySem PySem.Spec PyProof.Rows L2 L3
section
variable {P : Program} {w : World} {K : PySem.W.Frag} {mg : Str → Option Value} {base : Heap}
/-! ### ends_well -/
abbrev sp_ends_well : Sp3 := fun ts st Q _ => ∃ (r : List Int) (k : Knd) (e : Nat), ts = [eIs (rsums r), eK k, .int e] ∧ e ≤ r.length ∧ okK k ∧ Q (.bl (fitE r k e)) st
abbrev N_ends_well : List Str := ["sums", "kind", "end", "place"]
theorem sc_ends_well : FnScope N_ends_well ["sums", "kind", "end"] (defScope s_ends_well) := ⟨rfl, rfl, rfl, by decide +kernel, rfl, by decide +kernel, by decide +kernel⟩

theorem d_ends_well (t : Tx K mg "ends_well" "ends_well" s_ends_well ["sums", "kind", "end"]) (B : Bi mg) : Df P w K mg base 1 "ends_well" ["sums", "kind", "end"] sp_ends_well := by
  refine dmk t sc_ends_well (by rintro _ _ _ _ ⟨_, _, _, rfl, _⟩; rfl) fun f cdv A outer s H E hr => ⟨_, fun _ => (lss_cons (ls_set (i := 3) sc_ends_well.nd rfl (.inl rfl) (le_sub (lv 2) (le_ix (lv 1) le_int)))
    (lss_one (ls_ret (le_and (le_ge (lv 3) le_int) (le_one (le_le (le_sub (le_ix (lv 0) (lv 2)) (le_ix (lv 0) (lv 3))) (le_ix (lv 1) le_int))))))), ?_⟩
  rintro ts st Q E3 ⟨r, k, e, rfl, he, hk, q⟩
  refine ⟨_, rfl, fun hb => ?_, fun hb => upQ.mk (Sub.refl _) ?_⟩
  · have h0 : (0 : Int) ≤ (e : Int) - k.width := of_decide_eq_true hb
    refine ⟨_, _, rfl, sums_at e rfl he, _, _, rfl, sums_at (e - k.width.toNat) (by have : 1 ≤ k.width := hk; omega) (by omega), _, rfl, upQ.mk (Sub.refl _) ?_⟩
    have e1 : fitE r k e = decide (psum r e - psum r (e - k.width.toNat) ≤ k.allowed) := by unfold fitE; rw [hb, Bool.true_and]
    rw [← e1]
    exact q
  · have e1 : fitE r k e = false := by unfold fitE; rw [hb, Bool.false_and]
    rw [← e1]
    exact q
/-! ### heights -/
abbrev sp_heights : Sp3 := fun ts st Q _ => ∃ (r : List Int) (tb : List Knd), ts = [eIs r, eTb tb] ∧ r.length ≤ 1000000 ∧ (∀ k ∈ tb, okK k) ∧ Q (eIs (hl r tb r.length)) st
abbrev N_heights : List Str := ["roll", "table", "sums", "told", "end", "greatest", "kind"]
theorem sc_heights : FnScope N_heights ["roll", "table"] (defScope s_heights) := ⟨rfl, rfl, rfl, by decide +kernel, rfl, by decide +kernel, by decide +kernel⟩

theorem d_heights (t : Tx K mg "heights" "heights" s_heights ["roll", "table"]) (B : Bi mg) (d_running_sums : Df P w K mg base 1 "running_sums" ["roll"] sp_running_sums) (d_ends_well : Df P w K mg base 1 "ends_well" ["sums", "kind", "end"] sp_ends_well) :
    Df P w K mg base 2 "heights" ["roll", "table"] sp_heights := by
  refine dmk t sc_heights (by rintro _ _ _ _ ⟨_, _, rfl, _⟩; rfl) fun f cdv A outer s H E hr => ⟨_, fun _ => (lss_cons (ls_set (i := 2) sc_heights.nd rfl (.inl rfl) (le_callD d_running_sums (hr.mono (by decide)) (by rfl) (la_cons (lv 0) la_nil)))
    (lss_cons (ls_set (i := 3) sc_heights.nd rfl (.inl rfl) (le_lstM (la_cons le_int la_nil)))
    (lss_cons (ls_for PassesOwn.never rfl (li_range2 (by rfl) B.range (la_cons le_int (la_cons (le_len (by rfl) B.len (la_cons (lv 2) la_nil)) la_nil))) (lg_name (i := 4) sc_heights.nd rfl (.inl rfl))
    (lss_cons (ls_set (i := 5) sc_heights.nd rfl (.inl rfl) (le_ix (lv 3) (le_neg le_int)))
    (lss_cons (ls_for PassesOwn.never rfl (li_list (lv 1)) (lg_name (i := 6) sc_heights.nd rfl (.inl rfl))
    (lss_one (ls_if (lt_val (le_callD d_ends_well (hr.mono (by decide)) (by rfl) (la_cons (lv 2) (la_cons (lv 6) (la_cons (lv 4) la_nil)))))
    (lss_one (ls_set (i := 5) sc_heights.nd rfl (.inl rfl) (le_max2 rfl (by rfl) B.max (la_cons (lv 5) (la_cons (le_add (le_ix (lv 3) (le_sub (lv 4) (le_ix (lv 6) le_int))) (le_ix (lv 6) le_int)) la_nil)))))
    lss_nil)))
    (lss_one (ls_expr (le_append (lv 3) (la_cons (lv 5) la_nil)))))))
    (lss_one (ls_ret (le_frz (lv 3))))))), ?_⟩
  rintro ts st Q E3 ⟨r, tb, rfl, hl0, hk, q⟩
  refine ⟨r, rfl, hl0, sz (by decide), fun p hp => ⟨_, rfl, ⟨by decide, by decide, by omega, by rw [List.length_map, rsums_len]; omega⟩, ?_⟩⟩
  refine ⟨fun i env st' => ∃ x y z, env = [some (eIs r), some (eTb tb), some (eIs (rsums r)), some (.loc p), x, y, z] ∧ Sub (supd st p (.lst ((hl r tb i).map T.int))) st', ⟨_, _, _, rfl, Sub.refl _⟩, fun _ _ _ _ _ => trivial, ?_, ?_⟩
  · rintro i x env st' hx ⟨x1, x2, x3, rfl, hs⟩
    obtain ⟨hi, rfl⟩ := rgI_at hx
    have hi' : i < r.length := by rw [List.length_map, rsums_len] at hi; omega
    refine ⟨_, _, hs.at, atI_lastI (build_last i), _, rfl, ?_⟩
    refine ⟨fun j env st2 => ∃ z, env = [some (eIs r), some (eTb tb), some (eIs (rsums r)), some (.loc p), some (.int (1 + (i : Int))), some (.int ((tb.take j).foldl (hstep r (hl r tb i) (i + 1)) (hgt r tb i))), z] ∧ Sub (supd st p (.lst ((hl r tb i).map T.int))) st2, ⟨_, rfl, hs⟩, fun _ _ _ _ _ => rfl, ?_, ?_⟩
    · rintro j y env st2 hy ⟨z, rfl, hs2⟩
      obtain ⟨k, hkj, rfl⟩ := map_get hy
      have hok := hk k (List.mem_of_getElem? hkj)
      have hw : 1 ≤ k.width := hok
      refine ⟨r, k, i + 1, by show _ = [eIs (rsums r), eK k, .int ((i + 1 : Nat) : Int)]; rw [show ((i + 1 : Nat) : Int) = 1 + (i : Int) by omega], hi', hok, fun hb => ?_, fun hb => ?_⟩
      · have h0 : (0 : Int) ≤ ((i + 1 : Nat) : Int) - k.width := by
          have hb' : fitE r k (i + 1) = true := hb
          unfold fitE at hb'
          rw [Bool.and_eq_true] at hb'
          exact of_decide_eq_true hb'.1
        refine ⟨_, rfl, _, _, hs2.at, build_ix (i + 1 - k.width.toNat) (by omega) (by omega), _, rfl, ?_⟩
        refine ⟨some (eK k), ?_, hs2⟩
        rw [foldl_more _ _ hkj]
        have hb' : fitE r k (i + 1) = true := hb
        have e2 : (hl r tb i)[i + 1 - k.width.toNat]?.getD 0 = hgt r tb (i + 1 - k.width.toNat) := by rw [build_pre i _ (by omega)]; rfl
        have e1 : ∀ g, hstep r (hl r tb i) (i + 1) g k = (if hgt r tb (i + 1 - k.width.toNat) + k.worth > g then hgt r tb (i + 1 - k.width.toNat) + k.worth else g) := fun g => by
          unfold hstep
          rw [if_pos hb', e2, Int.max_def]
          split <;> split <;> omega
        rw [e1]
        rfl
      · refine ⟨some (eK k), ?_, hs2⟩
        rw [foldl_more _ _ hkj]
        have hb' : fitE r k (i + 1) = false := hb
        have e1 : ∀ g, hstep r (hl r tb i) (i + 1) g k = g := fun g => by unfold hstep; rw [hb']; rfl
        rw [e1]
        rfl
    · rintro env st2 ⟨z, rfl, hs2⟩
      refine ⟨⟨_, hs2.at⟩, _, hs2.at, szl (by rw [List.length_map, build_len]; omega), ⟨_, _, _, rfl, ?_⟩⟩
      have e1 : hl r tb (i + 1) = hl r tb i ++ [(tb.take (tb.map eK).length).foldl (hstep r (hl r tb i) (i + 1)) (hgt r tb i)] := by
        rw [List.length_map, List.take_length]
        show hl r tb i ++ [tb.foldl (hstep r (hl r tb i) (i + 1)) ((hl r tb i)[i + 1 - 1]?.getD 0)] = _
        rw [Nat.add_sub_cancel]
        rw [build_pre i i (Nat.le_refl _)]
        rfl
      rw [e1, List.map_append]
      exact hs2.put
  · rintro env st' ⟨x1, x2, x3, rfl, hs⟩
    refine .inl ⟨_, hs.at, upQ.mk ((hs.base hp).del hp) ?_⟩
    have e1 : (rgI 1 ((((rsums r).map T.int).length : Int) - 1).toNat).length = r.length := by
      rw [rgI_len, List.length_map, rsums_len]; omega
    rw [e1]
    exact q
end
end Sv

/-! The mathematics of the list of all best cuttings: in order, each once. -/
namespace Sv
open PySem PySem.Spec PyProof.Rows L2 L3
open PySem.W (dataLe dataLt alike alikeAll AllAlike Sortable keyToks keyToksAll)
/-! ### the order of cuttings -/
def ePc (p : Pc) : T := .tup [.int p.1, .str p.2]
def dPc (p : Pc) : PyData := .tuple [.int p.1, .str p.2]
def dC (c : List Pc) : PyData := .list (c.map dPc)
theorem alike_pcs : ∀ a b : List Pc, alikeAll (a.map dPc) (b.map dPc) = true
  | [], b => by cases b <;> rfl
  | _ :: _, [] => rfl
  | x :: a, y :: b => by
    rw [List.map_cons, List.map_cons, alikeAll, alike_pcs a b]
    rfl
theorem alike_dC (a b : List Pc) : alike (dC a) (dC b) = true := by
  unfold dC; rw [alike]; exact alike_pcs a b
theorem eqv_pc {p q : Pc} (h : PyData.eqv (dPc p) (dPc q) = true) : p = q := by
  obtain ⟨i, s⟩ := p
  obtain ⟨j, t⟩ := q
  have h : (decide (i = j) && (decide (s = t) && true)) = true := h
  rw [Bool.and_true, Bool.and_eq_true] at h
  rw [of_decide_eq_true h.1, of_decide_eq_true h.2]
theorem eqv_pcs : ∀ {a b : List Pc}, PyData.eqvAll (a.map dPc) (b.map dPc) = true → a = b
  | [], [], _ => rfl
  | [], _ :: _, h => by cases h
  | _ :: _, [], h => by cases h
  | x :: a, y :: b, h => by
    rw [List.map_cons, List.map_cons, PyData.eqvAll, Bool.and_eq_true] at h
    rw [eqv_pc h.1, eqv_pcs h.2]
theorem eqv_dC {a b : List Pc} (h : PyData.eqv (dC a) (dC b) = true) : a = b := by
  unfold dC at h; rw [PyData.eqv] at h; exact eqv_pcs h
theorem toks_eq {x y : PyData} (h : alike x y = true) (e : keyToks x = keyToks y) : PyData.eqv x y = true := by
  cases hv : PyData.eqv x y with
  | true => rfl
  | false =>
    have := ((PySem.W.toks_eqv x y h).2 hv) [] [Sum.inl 0]
    rw [e, PySem.W.lex_pre] at this
    have h2 : PyProof.Rows.lexLt itemOrd (keyToks y) (keyToks y) = false := (listOrd itemOrd).irrefl _
    rw [h2] at this
    exact absurd this (by decide)
theorem dataLt_tri {x y : PyData} (h : alike x y = true) (h1 : dataLt x y = false) (h2 : dataLt y x = false) : PyData.eqv x y = true :=
  toks_eq h ((listOrd itemOrd).total _ _ h1 h2)
theorem dataLe_total {α : Type} (k : α → PyData) : PySem.W.TotalLe (dataLe false k) := PySem.W.sortLe_total (listOrd itemOrd) false fun a => keyToks (k a)
theorem lt_dC {a b : List Pc} (h : dataLe false dC a b = true) (n : a ≠ b) : dataLt (dC a) (dC b) = true := by
  cases e : dataLt (dC a) (dC b) with
  | true => rfl
  | false =>
    refine absurd (eqv_dC (dataLt_tri (alike_dC a b) e ?_)) n
    have h : (!dataLt (dC b) (dC a)) = true := h
    simpa using h
def eL (x : Addr × List Pc) : T := .loc x.1
theorem zip_map2 {α β γ : Type} (f : α → β) (g : α → γ) : ∀ l : List α, (l.map f).zip (l.map g) = l.map fun x => (f x, g x)
  | [] => rfl
  | x :: l => by rw [List.map_cons, List.map_cons, List.zip_cons_cons, zip_map2 f g l]; rfl
theorem sort_cuts (l : List (Addr × List Pc)) : sortT (l.map eL) (l.map fun x => dC x.2) = (l.mergeSort (dataLe false fun x => dC x.2)).map eL := by
  unfold sortT
  rw [zip_map2, ← PySem.W.sort_maps (r := dataLe false fun x => dC x.2) (s := dataLe false Prod.snd) (fun x => (eL x, dC x.2)) fun _ _ _ _ => rfl, List.map_map]
  rfl
theorem sort_cuts_snd (l : List (Addr × List Pc)) : (l.mergeSort (dataLe false fun x => dC x.2)).map (·.2) = (l.map (·.2)).mergeSort (dataLe false dC) :=
  PySem.W.sort_maps (r := dataLe false fun x : Addr × List Pc => dC x.2) (s := dataLe false dC) (fun x : Addr × List Pc => x.2) fun _ _ _ _ => rfl
/-- the best cuttings in order, each once -/
structure Told (cs bs : List (List Pc)) : Prop where
  perm : cs.Perm bs
  asc : cs.Pairwise fun a b => dataLt (dC a) (dC b) = true
theorem told_of {cs bs : List (List Pc)} (h : cs.Perm bs) (nd : bs.Nodup) : Told (cs.mergeSort (dataLe false dC)) bs := by
  have hp := (List.mergeSort_perm cs (dataLe false dC)).trans h
  refine ⟨hp, ?_⟩
  have hs := PySem.W.sort_pairwise (dataLe_total dC) cs
  have hn : (cs.mergeSort (dataLe false dC)).Nodup := hp.nodup_iff.mpr nd
  exact (hs.and hn).imp fun h => lt_dC h.1 h.2
/-! ### there is always one -/
section
variable {r : List Int} {tb : List Knd}
theorem hfold_one (l : List Int) (e : Nat) : ∀ (tb : List Knd) (g : Int), tb.foldl (hstep r l e) g = g ∨ ∃ k ∈ tb, fitE r k e = true ∧ tb.foldl (hstep r l e) g = l[e - k.width.toNat]?.getD 0 + k.worth
  | [], g => .inl rfl
  | k :: tb, g => by
    rw [List.foldl_cons]
    rcases hfold_one l e tb (hstep r l e g k) with h | ⟨k', h1, h2, h3⟩
    · rw [h]
      unfold hstep
      split
      · rename_i hf
        rw [Int.max_def]
        split
        · exact .inr ⟨k, List.mem_cons_self .., hf, rfl⟩
        · exact .inl rfl
      · exact .inl rfl
    · exact .inr ⟨k', List.mem_cons_of_mem _ h1, h2, h3⟩
theorem hgt_one (ok : ∀ k ∈ tb, okK k) (n : Nat) : hgt r tb (n + 1) = hgt r tb n ∨ ∃ k, k ∈ bEnds r tb (n + 1) := by
  have e : hgt r tb (n + 1) = tb.foldl (hstep r (hl r tb n) (n + 1)) (hgt r tb n) := by
    rw [hgt, bval_succ]
    unfold hF
    rw [Nat.add_sub_cancel, build_getD (Nat.le_refl n)]
    rfl
  rcases hfold_one (r := r) (hl r tb n) (n + 1) tb (hgt r tb n) with h | ⟨k, h1, h2, h3⟩
  · exact .inl (e.trans h)
  · refine .inr ⟨k, ?_⟩
    have h4 := fitE_le h2
    have h5 : 1 ≤ k.width := ok k h1
    rw [build_getD (by omega)] at h3
    unfold bEnds
    rw [List.mem_filter, Bool.and_eq_true]
    exact ⟨h1, h2, decide_eq_true (by rw [e, h3])⟩
theorem bst_ne (ok : ∀ k ∈ tb, okK k) : ∀ j, 1 ≤ (bst r tb j).length := fun j => by
  induction j using Nat.strongRecOn with
  | _ j ih =>
    cases j with
    | zero => exact Nat.le_refl _
    | succ n =>
      rw [bst_succ ok, List.length_append]
      rcases hgt_one (r := r) ok n with h | ⟨k, hk⟩
      · rw [if_pos h]
        have := ih n (by omega)
        omega
      · have h5 : 1 ≤ k.width := ok k (bEnds_mem hk).1
        have := ih (n + 1 - k.width.toNat) (by omega)
        have h6 : 1 ≤ ((bEnds r tb (n + 1)).flatMap fun k => (bst r tb (n + 1 - k.width.toNat)).map (· ++ [(((n + 1 - k.width.toNat : Nat) : Int), k.name)])).length := by
          obtain ⟨c, hc⟩ := List.exists_mem_of_length_pos (l := bst r tb (n + 1 - k.width.toNat)) (by omega)
          refine List.length_pos_of_mem (a := c ++ [(((n + 1 - k.width.toNat : Nat) : Int), k.name)]) ?_
          rw [List.mem_flatMap]
          exact ⟨k, hk, List.mem_map.mpr ⟨c, hc, rfl⟩⟩
        omega
/-! ### what all_best keeps -/
/-- an end still open: the cells ahead, the list of the pieces behind -/
abbrev Op := Nat × Addr × List Pc
def eS (x : Op) : T := .tup [.int x.1, .loc x.2.1]
def flatS (r : List Int) (tb : List Knd) (SL : List Op) : List (List Pc) := SL.flatMap fun x => (bst r tb x.1).map (· ++ x.2.2)
structure AN (r : List Int) (tb : List Knd) (n : Nat) (TL : List (Addr × List Pc)) (SL : List Op) : Prop where
  perm : (TL.map (·.2) ++ flatS r tb SL).Perm (bst r tb n)
  len : ∀ x ∈ SL, x.1 + x.2.2.length ≤ n
theorem flatS_app (A B : List Op) : flatS r tb (A ++ B) = flatS r tb A ++ flatS r tb B := List.flatMap_append
theorem flatS_len (ok : ∀ k ∈ tb, okK k) : ∀ SL : List Op, SL.length ≤ (flatS r tb SL).length
  | [] => Nat.zero_le _
  | x :: SL => by
    unfold flatS
    rw [List.flatMap_cons, List.length_append, List.length_map, List.length_cons]
    have := bst_ne (r := r) ok x.1
    have := flatS_len ok SL
    unfold flatS at this
    omega
theorem AN.lens (ok : ∀ k ∈ tb, okK k) {n : Nat} {TL : List (Addr × List Pc)} {SL : List Op} (h : AN r tb n TL SL) : TL.length + SL.length ≤ (bst r tb n).length := by
  have := h.perm.length_eq
  rw [List.length_append, List.length_map] at this
  have := flatS_len (r := r) ok SL
  omega
theorem AN.start (n : Nat) (a : Addr) : AN r tb n [] [(n, a, [])] := by
  refine ⟨?_, fun x hx => ?_⟩
  · have : flatS r tb [(n, a, [])] = bst r tb n := by
      unfold flatS
      simp
    rw [this]
    exact List.Perm.refl _
  · rw [List.mem_singleton] at hx
    subst hx
    exact Nat.le_refl _
theorem AN.done {n : Nat} {TL : List (Addr × List Pc)} (h : AN r tb n TL []) : (TL.map (·.2)).Perm (bst r tb n) := by
  have := h.perm
  have e : flatS r tb [] = [] := rfl
  rw [e, List.append_nil] at this
  exact this
theorem AN.tell {n : Nat} {TL : List (Addr × List Pc)} {SL : List Op} {a : Addr} {c : List Pc} (h : AN r tb n TL (SL ++ [(0, a, c)])) : AN r tb n (TL ++ [(a, c)]) SL := by
  refine ⟨?_, fun x hx => h.len x (List.mem_append_left _ hx)⟩
  have e : flatS r tb [(0, a, c)] = [c] := rfl
  have hp := h.perm
  rw [flatS_app, e, ← List.append_assoc] at hp
  refine List.Perm.trans ?_ hp
  rw [List.map_append, List.append_assoc]
  have : List.map (·.2) [(a, c)] = [c] := rfl
  rw [this, List.append_assoc]
  exact List.Perm.append_left _ List.perm_append_comm
/-- the pieces that may end at e, ahead of c -/
def moreOf (r : List Int) (tb : List Knd) (e : Nat) (c : List Pc) : List (Nat × List Pc) := (bEnds r tb e).map fun k => (e - k.width.toNat, (((e - k.width.toNat : Nat) : Int), k.name) :: c)
theorem AN.open (ok : ∀ k ∈ tb, okK k) {n e : Nat} {TL : List (Addr × List Pc)} {SL NL : List Op} {a : Addr} {c : List Pc} (h : AN r tb n TL (SL ++ [(e + 1, a, c)]))
    (hN : NL.map (fun x => (x.1, x.2.2)) = moreOf r tb (e + 1) c) : AN r tb n TL (SL ++ (if hgt r tb (e + 1) = hgt r tb e then [(e, a, c)] else []) ++ NL) := by
  refine ⟨?_, fun x hx => ?_⟩
  · have e1 : flatS r tb (SL ++ (if hgt r tb (e + 1) = hgt r tb e then [(e, a, c)] else []) ++ NL) = flatS r tb (SL ++ [(e + 1, a, c)]) := by
      rw [flatS_app, flatS_app, flatS_app, List.append_assoc]
      congr 1
      have e2 : flatS r tb [(e + 1, a, c)] = (bst r tb (e + 1)).map (· ++ c) := by
        unfold flatS; simp
      have e3 : flatS r tb NL = ((bEnds r tb (e + 1)).flatMap fun k => (bst r tb (e + 1 - k.width.toNat)).map (· ++ [(((e + 1 - k.width.toNat : Nat) : Int), k.name)])).map (· ++ c) := by
        have : flatS r tb NL = (NL.map (fun x => (x.1, x.2.2))).flatMap fun y => (bst r tb y.1).map (· ++ y.2) := by
          unfold flatS
          rw [List.flatMap_map]
        rw [this, hN]
        unfold moreOf
        rw [List.flatMap_map, List.map_flatMap]
        refine flatMap_congr fun k _ => ?_
        rw [List.map_map]
        refine List.map_congr_left fun y _ => ?_
        show y ++ ((((e + 1 - k.width.toNat : Nat) : Int), k.name) :: c) = y ++ [_] ++ c
        rw [List.append_assoc]
        rfl
      rw [e2, e3, bst_succ ok, List.map_append]
      congr 1
      split
      · unfold flatS; simp
      · rfl
    rw [e1]
    exact h.perm
  · have hc := h.len _ (List.mem_append_right _ (List.mem_singleton.mpr rfl))
    have hc : e + 1 + c.length ≤ n := hc
    rw [List.append_assoc, List.mem_append, List.mem_append] at hx
    rcases hx with hx | hx | hx
    · exact h.len x (List.mem_append_left _ hx)
    · split at hx
      · rw [List.mem_singleton] at hx
        subst hx
        show e + c.length ≤ n
        omega
      · cases hx
    · have hm : (x.1, x.2.2) ∈ moreOf r tb (e + 1) c := by rw [← hN]; exact List.mem_map.mpr ⟨x, hx, rfl⟩
      unfold moreOf at hm
      rw [List.mem_map] at hm
      obtain ⟨k, hk, hm⟩ := hm
      rw [Prod.mk.injEq] at hm
      have h5 : 1 ≤ k.width := ok k (bEnds_mem hk).1
      have h6 := fitE_le (bEnds_mem hk).2.1
      rw [← hm.1, ← hm.2, List.length_cons]
      omega
/-- how much there is still to open -/
def mu (tb : List Knd) (SL : List Op) : Nat := (SL.map fun x => (tb.length + 2) ^ x.1).sum
theorem mu_app (A B : List Op) : mu tb (A ++ B) = mu tb A + mu tb B := by
  unfold mu; rw [List.map_append, List.sum_append]
theorem mu_tell {SL : List Op} {a : Addr} {c : List Pc} : mu tb SL < mu tb (SL ++ [(0, a, c)]) := by
  rw [mu_app]
  have : mu tb [(0, a, c)] = 1 := rfl
  omega
theorem mu_open (ok : ∀ k ∈ tb, okK k) {e : Nat} {SL NL : List Op} {a : Addr} {c : List Pc} (hN : NL.map (fun x => (x.1, x.2.2)) = moreOf r tb (e + 1) c) :
    mu tb (SL ++ (if hgt r tb (e + 1) = hgt r tb e then [(e, a, c)] else []) ++ NL) < mu tb (SL ++ [(e + 1, a, c)]) := by
  rw [mu_app, mu_app, mu_app]
  have e1 : mu tb [(e + 1, a, c)] = (tb.length + 2) ^ (e + 1) := by unfold mu; simp
  have e2 : mu tb (if hgt r tb (e + 1) = hgt r tb e then [(e, a, c)] else []) ≤ (tb.length + 2) ^ e := by
    split
    · unfold mu; simp
    · exact Nat.zero_le _
  have e3 : mu tb NL ≤ tb.length * (tb.length + 2) ^ e := by
    have h1 : mu tb NL = ((NL.map (fun x => (x.1, x.2.2))).map fun y => (tb.length + 2) ^ y.1).sum := by unfold mu; rw [List.map_map]; rfl
    rw [h1, hN]
    unfold moreOf
    rw [List.map_map]
    have h2 : ∀ l : List Knd, (∀ k ∈ l, okK k) → (l.map ((fun y : Nat × List Pc => (tb.length + 2) ^ y.1) ∘ fun k => (e + 1 - k.width.toNat, (((e + 1 - k.width.toNat : Nat) : Int), k.name) :: c))).sum ≤ l.length * (tb.length + 2) ^ e := by
      intro l
      induction l with
      | nil => intro _; simp
      | cons k l ih =>
        intro hk
        have h5 : 1 ≤ k.width := hk k (List.mem_cons_self ..)
        have := ih fun k h => hk k (List.mem_cons_of_mem _ h)
        rw [List.map_cons, List.sum_cons, List.length_cons, Nat.add_mul, Nat.one_mul, Nat.add_comm]
        refine Nat.add_le_add this ?_
        show (tb.length + 2) ^ (e + 1 - k.width.toNat) ≤ _
        exact Nat.pow_le_pow_right (by omega) (by omega)
    have h3 := h2 (bEnds r tb (e + 1)) fun k hk => ok k (bEnds_mem hk).1
    have h4 : (bEnds r tb (e + 1)).length ≤ tb.length := List.length_filter_le ..
    exact Nat.le_trans h3 (Nat.mul_le_mul_right _ h4)
  rw [e1, Nat.pow_succ]
  have : 1 ≤ (tb.length + 2) ^ e := Nat.pow_pos (by omega)
  have h6 : (tb.length + 2) ^ e * (tb.length + 2) = tb.length * (tb.length + 2) ^ e + 2 * (tb.length + 2) ^ e := by
    rw [Nat.mul_comm, Nat.add_mul]
  rw [h6]
  omega
end
end Sv

namespace Sv
open PySem PySem.Spec PyProof.Rows L2 L3
theorem good_fit {r : List Int} {k : Knd} {e : Nat} (hk : okK k) (he : e ≤ r.length) : goodAt r k ((e : Int) - k.width) = fitE r k e := by
  have h2 : 1 ≤ k.width := hk
  unfold goodAt fitE
  have e1 : ((e : Int) - k.width + k.width).toNat = e := by omega
  have e2 : ((e : Int) - k.width).toNat = e - k.width.toNat := by omega
  have e3 : decide ((e : Int) - k.width + k.width ≤ (r.length : Int)) = true := decide_eq_true (by omega)
  rw [e1, e2, e3, Bool.and_true]
section
variable {P : Program} {w : World} {K : PySem.W.Frag} {mg : Str → Option Value} {base : Heap}
/-! ### _law_drawn -/
abbrev sp_q_drawn : Sp3 := fun ts st Q _ => ∃ (sc : List Int) (i : Int) (m kn : Nat), ts = [eScr sc, .int i, .int m, .int kn] ∧ 0 ≤ i ∧ i ≤ 900000 ∧ m ≤ 1000 ∧ kn ≤ 8 ∧ ∀ r tb, GoodR m r → GoodTb tb → tb.length ≤ kn → Q (.tup [eIs r, eTb tb]) st
abbrev N_q_drawn : List Str := ["_law_script", "_law_place", "_law_most", "_law_kinds", "_law_flaw_here"]
theorem sc_q_drawn : FnScope N_q_drawn ["_law_script", "_law_place", "_law_most", "_law_kinds"] (defScope s_q_drawn) := ⟨rfl, rfl, rfl, by decide +kernel, rfl, by decide +kernel, by decide +kernel⟩

theorem d_q_drawn (t : Tx K mg "_law_drawn" "_law_drawn" s_q_drawn ["_law_script", "_law_place", "_law_most", "_law_kinds"]) (B : Bi mg) (d_q_flaw : Df P w K mg base 3 "_law_flaw" ["_law_script", "_law_place", "_law_most"] sp_q_flaw) (d_q_roll : Df P w K mg base 3 "_law_roll" ["_law_script", "_law_place", "_law_most", "_law_flaw_here"] sp_q_roll) (d_q_table : Df P w K mg base 3 "_law_table" ["_law_script", "_law_place", "_law_most"] sp_q_table) :
    Df P w K mg base 4 "_law_drawn" ["_law_script", "_law_place", "_law_most", "_law_kinds"] sp_q_drawn := by
  refine dmk t sc_q_drawn (by rintro _ _ _ _ ⟨_, _, _, _, rfl, _⟩; rfl) fun f cdv A outer s H E hr => ⟨_, fun _ => (lss_cons (ls_set (i := 4) sc_q_drawn.nd rfl (.inl rfl) (le_callD d_q_flaw (hr.mono (by decide)) (by rfl) (la_cons (lv 0) (la_cons (lv 1) (la_cons (lv 3) la_nil)))))
    (lss_one (ls_ret (le_tup (la_cons (le_callD d_q_roll (hr.mono (by decide)) (by rfl) (la_cons (lv 0) (la_cons (le_add (lv 1) le_int) (la_cons (lv 2) (la_cons (lv 4) la_nil))))) (la_cons (le_callD d_q_table (hr.mono (by decide)) (by rfl) (la_cons (lv 0) (la_cons (lv 1) (la_cons (lv 3) la_nil)))) la_nil)))))), ?_⟩
  rintro ts st Q E3 ⟨sc, i, m, kn, rfl, hi, hi2, hm, hkn, q⟩
  refine ⟨sc, i, kn, rfl, hi, by omega, by omega, fun z hz => ?_⟩
  have hz2 : 0 ≤ z ∧ z ≤ 10 ^ 17 := by
    simp only [List.mem_cons, List.mem_nil_iff, or_false] at hz
    rcases hz with rfl | rfl | rfl | rfl <;> decide
  exact ⟨sc, i + 1, m, z, rfl, by omega, by omega, hm, hz2.1, hz2.2, fun r hr => ⟨sc, i, kn, rfl, hi, by omega, hkn, fun tb ht hl => ⟨sz' rfl, upQ.mk (Sub.refl _) (q r tb hr ht hl)⟩⟩⟩
/-! ### _law_sums -/
abbrev sp_q_sums : Sp3 := pureSp (fun r : List Int => [eIs r]) (fun r => r.length ≤ 1000000) (fun r => eIs (rsums r))
abbrev N_q_sums : List Str := ["_law_roll_here", "_law_sums_here", "_law_weight"]
theorem sc_q_sums : FnScope N_q_sums ["_law_roll_here"] (defScope s_q_sums) := ⟨rfl, rfl, rfl, by decide +kernel, rfl, by decide +kernel, by decide +kernel⟩

theorem d_q_sums (t : Tx K mg "_law_sums" "_law_sums" s_q_sums ["_law_roll_here"]) (B : Bi mg) : Df P w K mg base 1 "_law_sums" ["_law_roll_here"] sp_q_sums := by
  refine dmk t sc_q_sums (pure_len fun _ => rfl) fun f cdv A outer s H E hr => ⟨_, fun _ => (lss_cons (ls_set (i := 1) sc_q_sums.nd rfl (.inl rfl) (le_lstM (la_cons le_int la_nil)))
    (lss_cons (ls_for PassesOwn.never rfl (li_list (lv 0)) (lg_name (i := 2) sc_q_sums.nd rfl (.inl rfl))
    (lss_one (ls_expr (le_append (lv 1) (la_cons (le_add (le_ix (lv 1) (le_neg le_int)) (lv 2)) la_nil)))))
    (lss_one (ls_ret (le_frz (lv 1)))))), ?_⟩
  rintro ts st Q E3 ⟨r, rfl, hl, q⟩
  refine ⟨sz (by decide), fun p hp => ⟨_, rfl, fun i env st' => ∃ x, env = [some (eIs r), some (.loc p), x] ∧ Sub (supd st p (.lst (((List.range (i + 1)).map (psum r)).map T.int))) st', ⟨none, rfl, Sub.refl _⟩, fun _ _ _ _ _ => rfl, ?_, ?_⟩⟩
  · rintro i x env st' hx ⟨y, rfl, hs⟩
    rw [List.getElem?_map] at hx
    cases hx' : r[i]? with
    | none => rw [hx'] at hx; cases hx
    | some z =>
    rw [hx'] at hx; cases hx
    have hi : i < r.length := (List.getElem?_eq_some_iff.mp hx').1
    refine ⟨⟨_, hs.at⟩, _, _, hs.at, atI_lastI (rng_last (psum r) i), _, hs.at, szl (by simp; omega), _, rfl, ?_⟩
    rw [rng_more (psum r) (i + 1), List.map_append, psum_succ hx']
    exact hs.put
  · rintro env st' ⟨y, rfl, hs⟩
    refine .inl ⟨_, hs.at, upQ.mk ((hs.base hp).del hp) ?_⟩
    rw [List.length_map]
    exact q
/-! ### _law_good -/
abbrev sp_q_good : Sp3 := fun ts st Q _ => ∃ (r : List Int) (k : Knd) (p : Int), ts = [eIs (rsums r), eK k, .int p] ∧ okK k ∧ Q (.bl (goodAt r k p)) st
abbrev N_q_good : List Str := ["_law_sums_here", "_law_kind", "_law_at", "_law_end"]
theorem sc_q_good : FnScope N_q_good ["_law_sums_here", "_law_kind", "_law_at"] (defScope s_q_good) := ⟨rfl, rfl, rfl, by decide +kernel, rfl, by decide +kernel, by decide +kernel⟩

theorem d_q_good (t : Tx K mg "_law_good" "_law_good" s_q_good ["_law_sums_here", "_law_kind", "_law_at"]) (B : Bi mg) : Df P w K mg base 1 "_law_good" ["_law_sums_here", "_law_kind", "_law_at"] sp_q_good := by
  refine dmk t sc_q_good (by rintro _ _ _ _ ⟨_, _, _, rfl, _⟩; rfl) fun f cdv A outer s H E hr => ⟨_, fun _ => (lss_cons (ls_set (i := 3) sc_q_good.nd rfl (.inl rfl) (le_add (lv 2) (le_ix (lv 1) le_int)))
    (lss_cons (ls_if (lt_w (lw_or (lt_lt (lv 2) le_int) (lw_or1 (lt_ge (lv 3) (le_len (by rfl) B.len (la_cons (lv 0) la_nil))))))
    (lss_one (ls_ret le_bl))
    lss_nil)
    (lss_one (ls_ret (le_le (le_sub (le_ix (lv 0) (lv 3)) (le_ix (lv 0) (lv 2))) (le_ix (lv 1) le_int)))))), ?_⟩
  rintro ts st Q E3 ⟨r, k, p, rfl, hk, q⟩
  have hw : 1 ≤ k.width := hk
  refine ⟨_, rfl, fun h1 => ⟨fun _ => upQ.mk (Sub.refl _) ?_, (nomatch ·)⟩, fun h1 => ?_⟩
  · have h1 := of_decide_eq_true h1
    have : goodAt r k p = false := by unfold goodAt; rw [decide_eq_false (by omega), Bool.false_and, Bool.false_and]
    rw [← this]; exact q
  have h1 := of_decide_eq_false h1
  refine ⟨_, rfl, fun h2 => upQ.mk (Sub.refl _) ?_, fun h2 => ?_⟩
  · have h2 : decide (p + k.width ≥ (((rsums r).map T.int).length : Int)) = true := h2
    have h2 := of_decide_eq_true h2
    rw [List.length_map, rsums_len] at h2
    have : goodAt r k p = false := by unfold goodAt; rw [decide_eq_false (p := p + k.width ≤ (r.length : Int)) (by omega), Bool.and_false, Bool.false_and]
    rw [← this]; exact q
  · have h2 : decide (p + k.width ≥ (((rsums r).map T.int).length : Int)) = false := h2
    have h2 := of_decide_eq_false h2
    rw [List.length_map, rsums_len] at h2
    refine ⟨_, _, rfl, sums_at (p + k.width).toNat (by omega) (by omega), _, _, rfl, sums_at p.toNat (by omega) (by omega), _, rfl, upQ.mk (Sub.refl _) ?_⟩
    have : goodAt r k p = decide (psum r (p + k.width).toNat - psum r p.toNat ≤ k.allowed) := by unfold goodAt; rw [decide_eq_true (p := 0 ≤ p) (by omega), decide_eq_true (p := p + k.width ≤ (r.length : Int)) (by omega), Bool.true_and, Bool.true_and]
    rw [← this]; exact q
/-! ### _law_heights -/
abbrev sp_q_heights : Sp3 := fun ts st Q _ => ∃ (r : List Int) (tb : List Knd), ts = [eIs r, eTb tb] ∧ r.length ≤ 1000000 ∧ (∀ k ∈ tb, okK k) ∧ Q (eIs (hl r tb r.length)) st
abbrev N_q_heights : List Str := ["_law_roll_here", "_law_table_here", "_law_sums_here", "_law_high", "_law_end", "_law_most", "_law_kind", "_law_at"]
theorem sc_q_heights : FnScope N_q_heights ["_law_roll_here", "_law_table_here"] (defScope s_q_heights) := ⟨rfl, rfl, rfl, by decide +kernel, rfl, by decide +kernel, by decide +kernel⟩

theorem d_q_heights (t : Tx K mg "_law_heights" "_law_heights" s_q_heights ["_law_roll_here", "_law_table_here"]) (B : Bi mg) (d_q_sums : Df P w K mg base 1 "_law_sums" ["_law_roll_here"] sp_q_sums) (d_q_good : Df P w K mg base 1 "_law_good" ["_law_sums_here", "_law_kind", "_law_at"] sp_q_good) :
    Df P w K mg base 2 "_law_heights" ["_law_roll_here", "_law_table_here"] sp_q_heights := by
  refine dmk t sc_q_heights (by rintro _ _ _ _ ⟨_, _, rfl, _⟩; rfl) fun f cdv A outer s H E hr => ⟨_, fun _ => (lss_cons (ls_set (i := 2) sc_q_heights.nd rfl (.inl rfl) (le_callD d_q_sums (hr.mono (by decide)) (by rfl) (la_cons (lv 0) la_nil)))
    (lss_cons (ls_set (i := 3) sc_q_heights.nd rfl (.inl rfl) (le_lstM (la_cons le_int la_nil)))
    (lss_cons (ls_for PassesOwn.never rfl (li_range2 (by rfl) B.range (la_cons le_int (la_cons (le_len (by rfl) B.len (la_cons (lv 2) la_nil)) la_nil))) (lg_name (i := 4) sc_q_heights.nd rfl (.inl rfl))
    (lss_cons (ls_set (i := 5) sc_q_heights.nd rfl (.inl rfl) (le_ix (lv 3) (le_neg le_int)))
    (lss_cons (ls_for PassesOwn.never rfl (li_list (lv 1)) (lg_name (i := 6) sc_q_heights.nd rfl (.inl rfl))
    (lss_cons (ls_set (i := 7) sc_q_heights.nd rfl (.inl rfl) (le_sub (lv 4) (le_ix (lv 6) le_int)))
    (lss_one (ls_if (lt_val (le_callD d_q_good (hr.mono (by decide)) (by rfl) (la_cons (lv 2) (la_cons (lv 6) (la_cons (lv 7) la_nil)))))
    (lss_one (ls_set (i := 5) sc_q_heights.nd rfl (.inl rfl) (le_max2 rfl (by rfl) B.max (la_cons (lv 5) (la_cons (le_add (le_ix (lv 3) (lv 7)) (le_ix (lv 6) le_int)) la_nil)))))
    lss_nil))))
    (lss_one (ls_expr (le_append (lv 3) (la_cons (lv 5) la_nil)))))))
    (lss_one (ls_ret (le_frz (lv 3))))))), ?_⟩
  rintro ts st Q E3 ⟨r, tb, rfl, hl0, hk, q⟩
  refine ⟨r, rfl, hl0, sz (by decide), fun p hp => ⟨_, rfl, ⟨by decide, by decide, by omega, by rw [List.length_map, rsums_len]; omega⟩, ?_⟩⟩
  refine ⟨fun i env st' => ∃ x y z v, env = [some (eIs r), some (eTb tb), some (eIs (rsums r)), some (.loc p), x, y, z, v] ∧ Sub (supd st p (.lst ((hl r tb i).map T.int))) st', ⟨_, _, _, _, rfl, Sub.refl _⟩, fun _ _ _ _ _ => trivial, ?_, ?_⟩
  · rintro i x env st' hx ⟨x1, x2, x3, x4, rfl, hs⟩
    obtain ⟨hi, rfl⟩ := rgI_at hx
    have hi' : i < r.length := by rw [List.length_map, rsums_len] at hi; omega
    refine ⟨_, _, hs.at, atI_lastI (build_last i), _, rfl, ?_⟩
    refine ⟨fun j env st2 => ∃ z v, env = [some (eIs r), some (eTb tb), some (eIs (rsums r)), some (.loc p), some (.int (1 + (i : Int))), some (.int ((tb.take j).foldl (hstep r (hl r tb i) (i + 1)) (hgt r tb i))), z, v] ∧ Sub (supd st p (.lst ((hl r tb i).map T.int))) st2, ⟨_, _, rfl, hs⟩, fun _ _ _ _ _ => rfl, ?_, ?_⟩
    · rintro j y env st2 hy ⟨z, v, rfl, hs2⟩
      obtain ⟨k, hkj, rfl⟩ := map_get hy
      have hok := hk k (List.mem_of_getElem? hkj)
      have hw : 1 ≤ k.width := hok
      have eg : goodAt r k (1 + (i : Int) - k.width) = fitE r k (i + 1) := by
        rw [← good_fit hok (by omega : i + 1 ≤ r.length), show ((i + 1 : Nat) : Int) = 1 + (i : Int) by omega]
      refine ⟨_, rfl, r, k, _, rfl, hok, fun hb => ?_, fun hb => ?_⟩
      · rw [eg] at hb
        have h0 := fitE_le hb
        refine ⟨_, _, hs2.at, build_ix (i + 1 - k.width.toNat) (by omega) (by omega), _, rfl, ?_⟩
        refine ⟨some (eK k), some (.int (1 + (i : Int) - k.width)), ?_, hs2⟩
        rw [foldl_more _ _ hkj]
        have e2 : (hl r tb i)[i + 1 - k.width.toNat]?.getD 0 = hgt r tb (i + 1 - k.width.toNat) := by rw [build_pre i _ (by omega)]; rfl
        have e1 : ∀ g, hstep r (hl r tb i) (i + 1) g k = (if hgt r tb (i + 1 - k.width.toNat) + k.worth > g then hgt r tb (i + 1 - k.width.toNat) + k.worth else g) := fun g => by
          unfold hstep
          rw [if_pos hb, e2, Int.max_def]
          split <;> split <;> omega
        rw [e1]
        rfl
      · rw [eg] at hb
        refine ⟨some (eK k), some (.int (1 + (i : Int) - k.width)), ?_, hs2⟩
        rw [foldl_more _ _ hkj]
        have e1 : ∀ g, hstep r (hl r tb i) (i + 1) g k = g := fun g => by unfold hstep; rw [hb]; rfl
        rw [e1]
        rfl
    · rintro env st2 ⟨z, v, rfl, hs2⟩
      refine ⟨⟨_, hs2.at⟩, _, hs2.at, szl (by rw [List.length_map, build_len]; omega), ⟨_, _, _, _, rfl, ?_⟩⟩
      have e1 : hl r tb (i + 1) = hl r tb i ++ [(tb.take (tb.map eK).length).foldl (hstep r (hl r tb i) (i + 1)) (hgt r tb i)] := by
        rw [List.length_map, List.take_length]
        show hl r tb i ++ [tb.foldl (hstep r (hl r tb i) (i + 1)) ((hl r tb i)[i + 1 - 1]?.getD 0)] = _
        rw [Nat.add_sub_cancel, build_pre i i (Nat.le_refl _)]
        rfl
      rw [e1, List.map_append]
      exact hs2.put
  · rintro env st' ⟨x1, x2, x3, x4, rfl, hs⟩
    refine .inl ⟨_, hs.at, upQ.mk ((hs.base hp).del hp) ?_⟩
    have e1 : (rgI 1 ((((rsums r).map T.int).length : Int) - 1).toNat).length = r.length := by
      rw [rgI_len, List.length_map, rsums_len]; omega
    rw [e1]
    exact q
/-! ### _law_is_whole -/
abbrev sp_q_is_whole : Sp3 := fun ts st Q _ => ∃ (i : Int), ts = [.int i] ∧ Q (.bl true) st
abbrev N_q_is_whole : List Str := ["_law_one"]
theorem sc_q_is_whole : FnScope N_q_is_whole ["_law_one"] (defScope s_q_is_whole) := ⟨rfl, rfl, rfl, by decide +kernel, rfl, by decide +kernel, by decide +kernel⟩

theorem d_q_is_whole (t : Tx K mg "_law_is_whole" "_law_is_whole" s_q_is_whole ["_law_one"]) (B : Bi mg) : Df P w K mg base 1 "_law_is_whole" ["_law_one"] sp_q_is_whole := by
  refine dmk t sc_q_is_whole (by rintro _ _ _ _ ⟨_, rfl, _⟩; rfl) fun f cdv A outer s H E hr => ⟨_, fun _ => (lss_one (ls_ret (le_and (le_isi_int (by rfl) B.isinstance (by rfl) B.int (lv 0)) (le_one (le_not (le_isi_bool (by rfl) B.isinstance (by rfl) B.bool (lv 0))))))), ?_⟩
  rintro ts st Q E3 ⟨i, rfl, q⟩
  exact ⟨_, _, rfl, k_ii, fun _ => ⟨_, _, rfl, k_ib, upQ.mk (Sub.refl _) q⟩, (nomatch ·)⟩
end
end Sv

namespace Sv
open PySem PySem.Spec PyProof.Rows L2 L3
section
variable {P : Program} {w : World} {K : PySem.W.Frag} {mg : Str → Option Value} {base : Heap}
/-! ### best_ends -/
abbrev sp_best_ends : Sp3 := fun ts st Q _ => ∃ (r : List Int) (tb : List Knd) (e : Nat), ts = [eIs (rsums r), eIs (hl r tb r.length), eTb tb, .int e] ∧ e ≤ r.length ∧ tb.length ≤ 1000000 ∧ (∀ k ∈ tb, okK k) ∧ Q (eTb (bEnds r tb e)) st
abbrev N_best_ends : List Str := ["sums", "high", "table", "end", "told", "kind"]
theorem sc_best_ends : FnScope N_best_ends ["sums", "high", "table", "end"] (defScope s_best_ends) := ⟨rfl, rfl, rfl, by decide +kernel, rfl, by decide +kernel, by decide +kernel⟩

theorem d_best_ends (t : Tx K mg "best_ends" "best_ends" s_best_ends ["sums", "high", "table", "end"]) (B : Bi mg) (d_ends_well : Df P w K mg base 1 "ends_well" ["sums", "kind", "end"] sp_ends_well) : Df P w K mg base 2 "best_ends" ["sums", "high", "table", "end"] sp_best_ends := by
  refine dmk t sc_best_ends (by rintro _ _ _ _ ⟨_, _, _, rfl, _⟩; rfl) fun f cdv A outer s H E hr => ⟨_, fun _ => (lss_cons (ls_set (i := 4) sc_best_ends.nd rfl (.inl rfl) (le_lstM la_nil))
    (lss_cons (ls_for PassesOwn.never rfl (li_list (lv 2)) (lg_name (i := 5) sc_best_ends.nd rfl (.inl rfl))
    (lss_one (ls_if (lt_w (lw_and (lt_val (le_callD d_ends_well (hr.mono (by decide)) (by rfl) (la_cons (lv 0) (la_cons (lv 5) (la_cons (lv 3) la_nil))))) (lw_and1 (lt_eq hr (le_add (le_ix (lv 1) (le_sub (lv 3) (le_ix (lv 5) le_int))) (le_ix (lv 5) le_int)) (le_ix (lv 1) (lv 3))))))
    (lss_one (ls_expr (le_append (lv 4) (la_cons (lv 5) la_nil))))
    lss_nil)))
    (lss_one (ls_ret (le_frz (lv 4)))))), ?_⟩
  rintro ts st Q E3 ⟨r, tb, e, rfl, he, htb, hk, q⟩
  refine ⟨sz (by decide), fun p hp => ⟨_, rfl, fun j env st' => ∃ x, env = [some (eIs (rsums r)), some (eIs (hl r tb r.length)), some (eTb tb), some (.int e), some (.loc p), x] ∧ Sub (supd st p (.lst (((tb.take j).filter fun k => fitE r k e && decide (hgt r tb (e - k.width.toNat) + k.worth = hgt r tb e)).map eK))) st', ⟨none, rfl, Sub.refl _⟩, fun _ _ _ _ _ => rfl, ?_, ?_⟩⟩
  · rintro j x env st' hx ⟨z, rfl, hs⟩
    obtain ⟨k, hkj, rfl⟩ := map_get hx
    have hok := hk k (List.mem_of_getElem? hkj)
    have hw : 1 ≤ k.width := hok
    have hjl : j < tb.length := (List.getElem?_eq_some_iff.mp hkj).1
    have hpl : ((tb.take j).filter fun k => fitE r k e && decide (hgt r tb (e - k.width.toNat) + k.worth = hgt r tb e)).length ≤ 1000000 := by
      refine Nat.le_trans (List.length_filter_le ..) ?_
      rw [List.length_take]; omega
    refine ⟨r, k, e, rfl, he, hok, fun hb => ?_, fun hb => ?_⟩
    · have hb' : fitE r k e = true := hb
      have h0 := fitE_le hb'
      refine ⟨_, rfl, _, _, rfl, build_ix (e - k.width.toNat) (by omega) (by omega), _, rfl, _, _, rfl, build_ix e rfl (by omega), eq_ii ⟨fun he1 => ?_, fun he1 => ?_⟩⟩
      · have he1 := of_decide_eq_true he1
        refine ⟨⟨_, hs.at⟩, _, hs.at, szl (by rw [List.length_map]; omega), ⟨some (eK k), rfl, ?_⟩⟩
        rw [filter_more _ hkj, hb', if_pos (by rw [decide_eq_true he1]; rfl), List.map_append]
        exact hs.put
      · have he1 := of_decide_eq_false he1
        refine ⟨some (eK k), rfl, ?_⟩
        rw [filter_more _ hkj, hb', decide_eq_false he1, if_neg (by decide), List.append_nil]
        exact hs
    · have hb' : fitE r k e = false := hb
      refine ⟨(nomatch ·), fun _ => ⟨some (eK k), rfl, ?_⟩⟩
      rw [filter_more _ hkj, hb', if_neg (by rw [Bool.false_and]; decide), List.append_nil]
      exact hs
  · rintro env st' ⟨z, rfl, hs⟩
    refine .inl ⟨_, hs.at, upQ.mk ((hs.base hp).del hp) ?_⟩
    rw [List.length_map, List.take_length]
    exact q
/-! ### ways_ahead -/
abbrev sp_ways_ahead : Sp3 := fun ts st Q _ => ∃ (r : List Int) (tb : List Knd), ts = [eIs r, eTb tb] ∧ r.length ≤ 1000000 ∧ tb.length ≤ 1000000 ∧ (∀ k ∈ tb, okK k) ∧ Q (eIs (wl r tb r.length)) st
abbrev N_ways_ahead : List Str := ["roll", "table", "sums", "high", "told", "end", "count", "kind"]
theorem sc_ways_ahead : FnScope N_ways_ahead ["roll", "table"] (defScope s_ways_ahead) := ⟨rfl, rfl, rfl, by decide +kernel, rfl, by decide +kernel, by decide +kernel⟩

theorem d_ways_ahead (t : Tx K mg "ways_ahead" "ways_ahead" s_ways_ahead ["roll", "table"]) (B : Bi mg) (d_running_sums : Df P w K mg base 1 "running_sums" ["roll"] sp_running_sums)
    (d_heights : Df P w K mg base 2 "heights" ["roll", "table"] sp_heights) (d_best_ends : Df P w K mg base 2 "best_ends" ["sums", "high", "table", "end"] sp_best_ends) : Df P w K mg base 3 "ways_ahead" ["roll", "table"] sp_ways_ahead := by
  refine dmk t sc_ways_ahead (by rintro _ _ _ _ ⟨_, _, rfl, _⟩; rfl) fun f cdv A outer s H E hr => ⟨_, fun _ => (lss_cons (ls_set (i := 2) sc_ways_ahead.nd rfl (.inl rfl) (le_callD d_running_sums (hr.mono (by decide)) (by rfl) (la_cons (lv 0) la_nil)))
    (lss_cons (ls_set (i := 3) sc_ways_ahead.nd rfl (.inl rfl) (le_callD d_heights (hr.mono (by decide)) (by rfl) (la_cons (lv 0) (la_cons (lv 1) la_nil))))
    (lss_cons (ls_set (i := 4) sc_ways_ahead.nd rfl (.inl rfl) (le_lstM (la_cons le_int la_nil)))
    (lss_cons (ls_for PassesOwn.never rfl (li_range2 (by rfl) B.range (la_cons le_int (la_cons (le_len (by rfl) B.len (la_cons (lv 2) la_nil)) la_nil))) (lg_name (i := 5) sc_ways_ahead.nd rfl (.inl rfl))
    (lss_cons (ls_set (i := 6) sc_ways_ahead.nd rfl (.inl rfl) le_int)
    (lss_ifset (ls_if (lt_eq hr (le_ix (lv 3) (lv 5)) (le_ix (lv 3) (le_sub (lv 5) le_int)))
    (lss_one (ls_set (i := 6) sc_ways_ahead.nd rfl (.inl rfl) (le_ix (lv 4) (le_sub (lv 5) le_int))))
    lss_nil)
    (lss_cons (ls_for PassesOwn.never rfl (li_list (le_callD d_best_ends (hr.mono (by decide)) (by rfl) (la_cons (lv 2) (la_cons (lv 3) (la_cons (lv 1) (la_cons (lv 5) la_nil)))))) (lg_name (i := 7) sc_ways_ahead.nd rfl (.inl rfl))
    (lss_one (ls_set (i := 6) sc_ways_ahead.nd rfl (.inl rfl) (le_add (lv 6) (le_ix (lv 4) (le_sub (lv 5) (le_ix (lv 7) le_int)))))))
    (lss_one (ls_expr (le_append (lv 4) (la_cons (lv 6) la_nil))))))))
    (lss_one (ls_ret (le_frz (lv 4)))))))), ?_⟩
  rintro ts st Q E3 ⟨r, tb, rfl, hl0, htb, hk, q⟩
  refine ⟨r, rfl, hl0, r, tb, rfl, hl0, hk, sz (by decide), fun p hp => ⟨_, rfl, ⟨by decide, by decide, by omega, by rw [List.length_map, rsums_len]; omega⟩, ?_⟩⟩
  refine ⟨fun i env st' => ∃ x y z, env = [some (eIs r), some (eTb tb), some (eIs (rsums r)), some (eIs (hl r tb r.length)), some (.loc p), x, y, z] ∧ Sub (supd st p (.lst ((wl r tb i).map T.int))) st', ⟨_, _, _, rfl, Sub.refl _⟩, fun _ _ _ _ _ => trivial, ?_, ?_⟩
  · rintro i x env st' hx ⟨x1, x2, x3, rfl, hs⟩
    obtain ⟨hi, rfl⟩ := rgI_at hx
    have hi' : i < r.length := by rw [List.length_map, rsums_len] at hi; omega
    refine ifsetB (decide (hgt r tb (i + 1) = hgt r tb i)) (.int (ways r tb i)) rfl (fun KK hK => ?_) (fun _ KK hK => ?_) ?_
    · exact ⟨_, _, rfl, build_ix (i + 1) (by omega) (by omega), _, _, rfl, build_ix i (by omega) (by omega), eq_ii hK⟩
    · exact ⟨_, _, hs.at, build_ix i (by omega) (by omega), hK⟩
    refine ⟨r, tb, i + 1, by show _ = [eIs (rsums r), eIs (hl r tb r.length), eTb tb, .int ((i + 1 : Nat) : Int)]; rw [show ((i + 1 : Nat) : Int) = 1 + (i : Int) by omega], hi', htb, hk, ?_⟩
    have e0 : ∀ c : Bool, (if c then T.int (ways r tb i) else T.int 0) = T.int (if c then ways r tb i else 0) := by intro c; cases c <;> rfl
    rw [e0]
    refine ⟨_, rfl, fun j env st2 => ∃ z, env = [some (eIs r), some (eTb tb), some (eIs (rsums r)), some (eIs (hl r tb r.length)), some (.loc p), some (.int (1 + (i : Int))), some (.int (((bEnds r tb (i + 1)).take j).foldl (fun c k => c + (wl r tb i)[i + 1 - k.width.toNat]?.getD 0) (if hgt r tb (i + 1) = hgt r tb (i + 1 - 1) then (wl r tb i)[i + 1 - 1]?.getD 0 else 0))), z] ∧ Sub (supd st p (.lst ((wl r tb i).map T.int))) st2, ⟨x3, ?_, hs⟩, fun _ _ _ _ _ => rfl, ?_, ?_⟩
    · rw [Nat.add_sub_cancel, build_pre i i (Nat.le_refl _)]
      rw [List.take_zero, List.foldl_nil]
      simp only [decide_eq_true_eq]
      rfl
    · rintro j y env st2 hy ⟨z, rfl, hs2⟩
      obtain ⟨k, hkj, rfl⟩ := map_get hy
      obtain ⟨m1, m2, m3⟩ := bEnds_mem (List.mem_of_getElem? hkj)
      have h1 := fitE_le m2
      have hw : 1 ≤ k.width := hk k m1
      refine ⟨_, rfl, _, _, hs2.at, build_ix (i + 1 - k.width.toNat) (by omega) (by omega), some (eK k), ?_, hs2⟩
      rw [foldl_more _ _ hkj, build_getD (by omega : i + 1 - k.width.toNat ≤ i)]
      rfl
    · rintro env st2 ⟨z, rfl, hs2⟩
      refine ⟨⟨_, hs2.at⟩, _, hs2.at, szl (by rw [List.length_map, build_len]; omega), ⟨_, _, _, rfl, ?_⟩⟩
      have e1 : wl r tb (i + 1) = wl r tb i ++ [((bEnds r tb (i + 1)).take ((bEnds r tb (i + 1)).map eK).length).foldl (fun c k => c + (wl r tb i)[i + 1 - k.width.toNat]?.getD 0) (if hgt r tb (i + 1) = hgt r tb (i + 1 - 1) then (wl r tb i)[i + 1 - 1]?.getD 0 else 0)] := by
        rw [List.length_map, List.take_length]
        rfl
      rw [e1, List.map_append]
      exact hs2.put
  · rintro env st' ⟨x1, x2, x3, rfl, hs⟩
    refine .inl ⟨_, hs.at, upQ.mk ((hs.base hp).del hp) ?_⟩
    have e1 : (rgI 1 ((((rsums r).map T.int).length : Int) - 1).toNat).length = r.length := by
      rw [rgI_len, List.length_map, rsums_len]; omega
    rw [e1]
    exact q
/-! ### best_count -/
abbrev sp_best_count : Sp3 := fun ts st Q _ => ∃ (r : List Int) (tb : List Knd), ts = [eIs r, eTb tb] ∧ r.length ≤ 1000000 ∧ tb.length ≤ 1000000 ∧ (∀ k ∈ tb, okK k) ∧ Q (.int (ways r tb r.length)) st
abbrev N_best_count : List Str := ["roll", "table"]
theorem sc_best_count : FnScope N_best_count ["roll", "table"] (defScope s_best_count) := ⟨rfl, rfl, rfl, by decide +kernel, rfl, by decide +kernel, by decide +kernel⟩

theorem d_best_count (t : Tx K mg "best_count" "best_count" s_best_count ["roll", "table"]) (B : Bi mg) (d_ways_ahead : Df P w K mg base 3 "ways_ahead" ["roll", "table"] sp_ways_ahead) : Df P w K mg base 4 "best_count" ["roll", "table"] sp_best_count := by
  refine dmk t sc_best_count (by rintro _ _ _ _ ⟨_, _, rfl, _⟩; rfl) fun f cdv A outer s H E hr => ⟨_, fun _ => (lss_one (ls_ret (le_ix (le_callD d_ways_ahead (hr.mono (by decide)) (by rfl) (la_cons (lv 0) (la_cons (lv 1) la_nil))) (le_neg le_int)))), ?_⟩
  rintro ts st Q E3 ⟨r, tb, rfl, hl0, htb, hk, q⟩
  exact ⟨r, tb, rfl, hl0, htb, hk, _, _, rfl, atI_lastI (build_last r.length), upQ.mk (Sub.refl _) q⟩
end
end Sv

namespace Sv
open PySem PySem.Spec PyProof.Rows L2 L3
theorem filter_foldl {α β : Type} (p : α → Bool) (f : β → α → β) : ∀ (l : List α) (b : β), (l.filter p).foldl f b = l.foldl (fun c k => if p k then f c k else c) b
  | [], b => rfl
  | x :: l, b => by
    rw [List.filter_cons, List.foldl_cons]
    cases h : p x with
    | true => simp only [if_true, List.foldl_cons]; exact filter_foldl p f l _
    | false => simp only [Bool.false_eq_true, if_false]; exact filter_foldl p f l _
section
variable {P : Program} {w : World} {K : PySem.W.Frag} {mg : Str → Option Value} {base : Heap}
/-! ### _law_best_count -/
/-- one kind more at the end e -/
def wstep (r : List Int) (tb : List Knd) (l : List Int) (e : Nat) (c : Int) (k : Knd) : Int := if (fitE r k e && decide (hgt r tb (e - k.width.toNat) + k.worth = hgt r tb e)) = true then c + l[e - k.width.toNat]?.getD 0 else c
theorem wl_more (r : List Int) (tb : List Knd) (i : Nat) : wl r tb (i + 1) = wl r tb i ++ [tb.foldl (wstep r tb (wl r tb i) (i + 1)) (if hgt r tb (i + 1) = hgt r tb i then ways r tb i else 0)] := by
  show wl r tb i ++ [wF r tb (wl r tb i) (i + 1)] = _
  congr 2
  unfold wF bEnds
  rw [filter_foldl, Nat.add_sub_cancel, build_getD (Nat.le_refl i)]
  rfl
abbrev sp_q_best_count : Sp3 := fun ts st Q _ => ∃ (r : List Int) (tb : List Knd), ts = [eIs r, eTb tb] ∧ r.length ≤ 1000000 ∧ (∀ k ∈ tb, okK k) ∧ Q (.int (ways r tb r.length)) st
abbrev N_q_best_count : List Str := ["_law_roll_here", "_law_table_here", "_law_sums_here", "_law_high", "_law_told", "_law_end", "_law_count", "_law_kind", "_law_at"]
theorem sc_q_best_count : FnScope N_q_best_count ["_law_roll_here", "_law_table_here"] (defScope s_q_best_count) := ⟨rfl, rfl, rfl, by decide +kernel, rfl, by decide +kernel, by decide +kernel⟩

theorem d_q_best_count (t : Tx K mg "_law_best_count" "_law_best_count" s_q_best_count ["_law_roll_here", "_law_table_here"]) (B : Bi mg) (d_q_sums : Df P w K mg base 1 "_law_sums" ["_law_roll_here"] sp_q_sums) (d_q_good : Df P w K mg base 1 "_law_good" ["_law_sums_here", "_law_kind", "_law_at"] sp_q_good)
    (d_q_heights : Df P w K mg base 2 "_law_heights" ["_law_roll_here", "_law_table_here"] sp_q_heights) : Df P w K mg base 3 "_law_best_count" ["_law_roll_here", "_law_table_here"] sp_q_best_count := by
  refine dmk t sc_q_best_count (by rintro _ _ _ _ ⟨_, _, rfl, _⟩; rfl) fun f cdv A outer s H E hr => ⟨_, fun _ => (lss_cons (ls_set (i := 2) sc_q_best_count.nd rfl (.inl rfl) (le_callD d_q_sums (hr.mono (by decide)) (by rfl) (la_cons (lv 0) la_nil)))
    (lss_cons (ls_set (i := 3) sc_q_best_count.nd rfl (.inl rfl) (le_callD d_q_heights (hr.mono (by decide)) (by rfl) (la_cons (lv 0) (la_cons (lv 1) la_nil))))
    (lss_cons (ls_set (i := 4) sc_q_best_count.nd rfl (.inl rfl) (le_lstM (la_cons le_int la_nil)))
    (lss_cons (ls_for PassesOwn.never rfl (li_range2 (by rfl) B.range (la_cons le_int (la_cons (le_len (by rfl) B.len (la_cons (lv 2) la_nil)) la_nil))) (lg_name (i := 5) sc_q_best_count.nd rfl (.inl rfl))
    (lss_cons (ls_set (i := 6) sc_q_best_count.nd rfl (.inl rfl) le_int)
    (lss_ifset (ls_if (lt_eq hr (le_ix (lv 3) (lv 5)) (le_ix (lv 3) (le_sub (lv 5) le_int)))
    (lss_one (ls_set (i := 6) sc_q_best_count.nd rfl (.inl rfl) (le_ix (lv 4) (le_neg le_int))))
    lss_nil)
    (lss_cons (ls_for PassesOwn.never rfl (li_list (lv 1)) (lg_name (i := 7) sc_q_best_count.nd rfl (.inl rfl))
    (lss_cons (ls_set (i := 8) sc_q_best_count.nd rfl (.inl rfl) (le_sub (lv 5) (le_ix (lv 7) le_int)))
    (lss_one (ls_if (lt_w (lw_and (lt_val (le_callD d_q_good (hr.mono (by decide)) (by rfl) (la_cons (lv 2) (la_cons (lv 7) (la_cons (lv 8) la_nil))))) (lw_and1 (lt_eq hr (le_add (le_ix (lv 3) (lv 8)) (le_ix (lv 7) le_int)) (le_ix (lv 3) (lv 5))))))
    (lss_one (ls_set (i := 6) sc_q_best_count.nd rfl (.inl rfl) (le_add (lv 6) (le_ix (lv 4) (lv 8)))))
    lss_nil))))
    (lss_one (ls_expr (le_append (lv 4) (la_cons (lv 6) la_nil))))))))
    (lss_one (ls_ret (le_ix (lv 4) (le_neg le_int)))))))), ?_⟩
  rintro ts st Q E3 ⟨r, tb, rfl, hl0, hk, q⟩
  refine ⟨r, rfl, hl0, r, tb, rfl, hl0, hk, sz (by decide), fun p hp => ⟨_, rfl, ⟨by decide, by decide, by omega, by rw [List.length_map, rsums_len]; omega⟩, ?_⟩⟩
  refine ⟨fun i env st' => ∃ x y z v, env = [some (eIs r), some (eTb tb), some (eIs (rsums r)), some (eIs (hl r tb r.length)), some (.loc p), x, y, z, v] ∧ Sub (supd st p (.lst ((wl r tb i).map T.int))) st', ⟨_, _, _, _, rfl, Sub.refl _⟩, fun _ _ _ _ _ => trivial, ?_, ?_⟩
  · rintro i x env st' hx ⟨x1, x2, x3, x4, rfl, hs⟩
    obtain ⟨hi, rfl⟩ := rgI_at hx
    have hi' : i < r.length := by rw [List.length_map, rsums_len] at hi; omega
    refine ifsetB (decide (hgt r tb (i + 1) = hgt r tb i)) (.int (ways r tb i)) rfl (fun KK hK => ?_) (fun _ KK hK => ?_) ?_
    · exact ⟨_, _, rfl, build_ix (i + 1) (by omega) (by omega), _, _, rfl, build_ix i (by omega) (by omega), eq_ii hK⟩
    · exact ⟨_, _, hs.at, atI_lastI (build_last i), hK⟩
    have e0 : ∀ c : Bool, (if c then T.int (ways r tb i) else T.int 0) = T.int (if c then ways r tb i else 0) := by intro c; cases c <;> rfl
    rw [e0]
    refine ⟨_, rfl, fun j env st2 => ∃ z v, env = [some (eIs r), some (eTb tb), some (eIs (rsums r)), some (eIs (hl r tb r.length)), some (.loc p), some (.int (1 + (i : Int))), some (.int ((tb.take j).foldl (wstep r tb (wl r tb i) (i + 1)) (if hgt r tb (i + 1) = hgt r tb i then ways r tb i else 0))), z, v] ∧ Sub (supd st p (.lst ((wl r tb i).map T.int))) st2, ⟨x3, x4, ?_, hs⟩, fun _ _ _ _ _ => rfl, ?_, ?_⟩
    · rw [List.take_zero, List.foldl_nil]
      simp only [decide_eq_true_eq]
      rfl
    · rintro j y env st2 hy ⟨z, v, rfl, hs2⟩
      obtain ⟨k, hkj, rfl⟩ := map_get hy
      have hok := hk k (List.mem_of_getElem? hkj)
      have hw : 1 ≤ k.width := hok
      have eg : goodAt r k (1 + (i : Int) - k.width) = fitE r k (i + 1) := by
        rw [← good_fit hok (by omega : i + 1 ≤ r.length), show ((i + 1 : Nat) : Int) = 1 + (i : Int) by omega]
      refine ⟨_, rfl, r, k, _, rfl, hok, fun hb => ?_, fun hb => ⟨(nomatch ·), fun _ => ?_⟩⟩
      · rw [eg] at hb
        have h0 := fitE_le hb
        refine ⟨_, _, rfl, build_ix (i + 1 - k.width.toNat) (by omega) (by omega), _, rfl, _, _, rfl, build_ix (i + 1) (by omega) (by omega), _, _, .int _, .int _, fun he => ?_, fun he => ?_⟩
        · have he : decide (hgt r tb (i + 1 - k.width.toNat) + k.worth = hgt r tb (i + 1)) = true := he
          refine ⟨_, _, hs2.at, build_ix (i + 1 - k.width.toNat) (by omega) (by omega), some (eK k), some (.int (1 + (i : Int) - k.width)), ?_, hs2⟩
          rw [foldl_more _ _ hkj]
          have e1 : ∀ g, wstep r tb (wl r tb i) (i + 1) g k = g + ways r tb (i + 1 - k.width.toNat) := fun g => by unfold wstep; rw [hb, he, if_pos (show (true && true) = true from rfl), build_getD (by omega)]
          rw [e1]
          rfl
        · have he : decide (hgt r tb (i + 1 - k.width.toNat) + k.worth = hgt r tb (i + 1)) = false := he
          refine ⟨some (eK k), some (.int (1 + (i : Int) - k.width)), ?_, hs2⟩
          rw [foldl_more _ _ hkj]
          have e1 : ∀ g, wstep r tb (wl r tb i) (i + 1) g k = g := fun g => by unfold wstep; rw [hb, he]; rfl
          rw [e1]
          rfl
      · rw [eg] at hb
        refine ⟨some (eK k), some (.int (1 + (i : Int) - k.width)), ?_, hs2⟩
        rw [foldl_more _ _ hkj]
        have e1 : ∀ g, wstep r tb (wl r tb i) (i + 1) g k = g := fun g => by unfold wstep; rw [hb]; rfl
        rw [e1]
        rfl
    · rintro env st2 ⟨z, v, rfl, hs2⟩
      refine ⟨⟨_, hs2.at⟩, _, hs2.at, szl (by rw [List.length_map, build_len]; omega), ⟨_, _, _, _, rfl, ?_⟩⟩
      rw [wl_more, List.map_append]
      have := hs2.put (n := .lst ((wl r tb i).map T.int ++ [.int ((tb.take (tb.map eK).length).foldl (wstep r tb (wl r tb i) (i + 1)) (if hgt r tb (i + 1) = hgt r tb i then ways r tb i else 0))]))
      rw [List.length_map, List.take_length] at this
      rw [List.length_map, List.take_length]
      exact this
  · rintro env st' ⟨x1, x2, x3, x4, rfl, hs⟩
    have e1 : (rgI 1 ((((rsums r).map T.int).length : Int) - 1).toNat).length = r.length := by
      rw [rgI_len, List.length_map, rsums_len]; omega
    rw [e1] at hs
    exact ⟨_, _, hs.at, atI_lastI (build_last r.length), upQ.mk (hs.base hp) q⟩
end
end Sv

namespace Sv
open PySem PySem.Spec PyProof.Rows L2 L3
open PySem.W (dataLe dataLt)
/-! ### the store as all_best goes -/
structure AB (st st' : Sto) (po pt : Addr) (TL : List (Addr × List Pc)) (SL : List Op) : Prop where
  hpo : st' po = some (.lst (SL.map eS))
  hpt : st' pt = some (.lst (TL.map eL))
  ne : po ≠ pt
  sl : ∀ x ∈ SL, st' x.2.1 = some (.lst (x.2.2.map ePc)) ∧ x.2.1 ≠ po ∧ x.2.1 ≠ pt
  tl : ∀ x ∈ TL, st' x.1 = some (.lst (x.2.map ePc)) ∧ x.1 ≠ po ∧ x.1 ≠ pt
  sub : Sub st st'
section
variable {st st' : Sto} {po pt : Addr} {TL : List (Addr × List Pc)} {SL : List Op}
theorem AB.setS (h : AB st st' po pt TL SL) (h0 : st po = none) (SL' : List Op) (hs : ∀ x ∈ SL', st' x.2.1 = some (.lst (x.2.2.map ePc)) ∧ x.2.1 ≠ po ∧ x.2.1 ≠ pt) : AB st (supd st' po (.lst (SL'.map eS))) po pt TL SL' :=
  ⟨supd_same, by rw [supd_ne h.ne.symm]; exact h.hpt, h.ne, fun x hx => ⟨by rw [supd_ne (hs x hx).2.1]; exact (hs x hx).1, (hs x hx).2⟩, fun x hx => ⟨by rw [supd_ne (h.tl x hx).2.1]; exact (h.tl x hx).1, (h.tl x hx).2⟩, h.sub.add h0⟩
theorem AB.setT (h : AB st st' po pt TL SL) (h0 : st pt = none) (TL' : List (Addr × List Pc)) (hs : ∀ x ∈ TL', st' x.1 = some (.lst (x.2.map ePc)) ∧ x.1 ≠ po ∧ x.1 ≠ pt) : AB st (supd st' pt (.lst (TL'.map eL))) po pt TL' SL :=
  ⟨by rw [supd_ne h.ne]; exact h.hpo, supd_same, h.ne, fun x hx => ⟨by rw [supd_ne (h.sl x hx).2.2]; exact (h.sl x hx).1, (h.sl x hx).2⟩, fun x hx => ⟨by rw [supd_ne (hs x hx).2.2]; exact (hs x hx).1, (hs x hx).2⟩, h.sub.add h0⟩
theorem AB.new (h : AB st st' po pt TL SL) {p : Addr} (hp : st' p = none) (c : List Pc) : AB st (supd st' p (.lst (c.map ePc))) po pt TL SL ∧ (supd st' p (.lst (c.map ePc))) p = some (.lst (c.map ePc)) ∧ p ≠ po ∧ p ≠ pt := by
  have n1 : p ≠ po := fun e => by rw [e, h.hpo] at hp; cases hp
  have n2 : p ≠ pt := fun e => by rw [e, h.hpt] at hp; cases hp
  refine ⟨⟨by rw [supd_ne n1.symm]; exact h.hpo, by rw [supd_ne n2.symm]; exact h.hpt, h.ne, fun x hx => ?_, fun x hx => ?_, h.sub.trans (Sub.new hp)⟩, supd_same, n1, n2⟩
  · obtain ⟨a, b⟩ := h.sl x hx
    exact ⟨by rw [supd_ne (fun e => by rw [e, hp] at a; cases a)]; exact a, b⟩
  · obtain ⟨a, b⟩ := h.tl x hx
    exact ⟨by rw [supd_ne (fun e => by rw [e, hp] at a; cases a)]; exact a, b⟩
end
theorem dvs_pcs {st : Sto} {n : Nat} : ∀ c : List Pc, DVs st (n + 1) (c.map ePc) (c.map dPc)
  | [] => .nil
  | x :: c => .cons (.tup (.cons (.int _) (.cons (.str _) .nil))) (dvs_pcs c)
theorem dvs_cuts {st : Sto} {n : Nat} : ∀ {l : List (Addr × List Pc)}, (∀ x ∈ l, st x.1 = some (.lst (x.2.map ePc))) → DVs st (n + 2) (l.map eL) (l.map fun x => dC x.2)
  | [], _ => .nil
  | x :: l, h => .cons (.loc (h x (List.mem_cons_self ..)) (dvs_pcs _)) (dvs_cuts fun y hy => h y (List.mem_cons_of_mem _ hy))
end Sv

/-! L3: exceptions: raise, defs that raise, try. -/
namespace L3
open PySem PySem.Spec PyProof.Rows L2
open Evl (Ex)
/-- what is wished of an exception: class, own dict, slots, store -/
abbrev XE := Value → Option Addr → En → Sto → Prop
def wOf (K : KG) (E : XE) : WX := fun c d σ H => ∃ G env st, Rel K H st G ∧ ERel K G σ env ∧ E c d env st
def upX (E : XK3) : XE := fun c d _ st => ∃ s0, Sub s0 st ∧ E c d s0
theorem upX.mk {E : XK3} {c : Value} {d : Option Addr} {env : En} {s0 st : Sto} (e : Sub s0 st) (q : E c d s0) : upX E c d env st := ⟨s0, e, q⟩
abbrev TakesX (X : Cy) (E : XE) : Prop := L2N.Takes X (wOf X.kg E)
/-! ### defs that raise -/
section
variable {P : Program} {w : World} {K : PySem.W.Frag} {mg : Str → Option Value} {base : Heap}
theorem ok3X {x qual : Str} {stm : Stmt} {f : Addr} {fd : FuncData} {N ps : List Str} {k : Nat} {sp : Sp3} (F : Fun K x qual stm f fd) (S : FnScope N ps (defScope stm)) (len : ∀ ts st Q E, sp ts st Q E → ts.length = ps.length)
    (hbody : ∀ (cdv : Value) (A : Around) (outer : List Env) (s : Shared) (H : Hp) (E : XK), Room k (A.deeper (envOfC qual (defScope stm) s.heap.objs.size f cdv)) → ∀ E3 : XK3,
      ∃ r, (∀ gb, TakesX ⟨cxOf (L2N.CX P w) P w K mg base N qual (defScope stm) f cdv A outer s H E, gb⟩ (upX E3) → LSs ⟨cxOf (L2N.CX P w) P w K mg base N qual (defScope stm) f cdv A outer s H E, gb⟩ (defBody stm) r) ∧
        ∀ ts st Q, sp ts st Q E3 → r { nx := fun _ st' => upQ Q .non st', rt := upQ Q } (start3 N ts) st) : FnOk P w K mg base (L2N.CX P w) (k + 1) f fd ps (lift3 K sp) := by
  obtain ⟨c1, d1, e1, e2, e3, e4, e5, e6, e7, rfl, hlk, hcode⟩ := F.ex
  refine fn_of hlk hcode S (fun vs H Q E h => ?_) fun A outer s H vs Q E hr h => ?_
  · obtain ⟨G, st, ts, Q3, E3, R, r, q, _⟩ := h
    rw [r.length]
    exact len ts st Q3 E3 q
  · obtain ⟨G, st, ts, Q3, E3, R, r, q, k1, k2⟩ := h
    obtain ⟨rd, h1, h2⟩ := hbody _ A outer s H E hr E3
    refine ⟨_, h1 G ((L2N.takes_of rfl rfl rfl rfl).imp fun c d σ H' z => ?_), G, start3 N ts, st, _, R, erel_start N r, h2 ts st Q3 q, ?_⟩
    · obtain ⟨G1, env1, st1, R1, N1, s0, e, q1⟩ := z
      exact k2 c d H' ⟨s0, G1, R1.less e, q1⟩
    · exact ⟨fun σ' H' ⟨env', st', G', e, R', N', z⟩ => k1 _ _ (liftV.less ⟨_, st', G', e, R', .non, z⟩), fun v H' z => k1 _ _ (liftV.less z), fun _ _ ⟨_, _, _, _, _, _, z⟩ => z.elim, fun _ _ ⟨_, _, _, _, _, _, z⟩ => z.elim⟩
/-- a def that may raise keeps its promise -/
structure Dx (P : Program) (w : World) (K : PySem.W.Frag) (mg : Str → Option Value) (base : Heap) (k : Nat) (nm : Str) (ps : List Str) (sp : Sp3) : Prop where
  ex : ∃ f fd, FnOk P w K mg base (L2N.CX P w) k f fd ps (lift3 K sp) ∧ mg nm = some (.ref f) ∧ PySem.W.keepIn K (.ref f) = true ∧ Binds K fd ps []
theorem dmkX {nm qual : Str} {stm : Stmt} {N ps : List Str} {k : Nat} {sp : Sp3} (t : Tx K mg nm qual stm ps) (S : FnScope N ps (defScope stm)) (len : ∀ ts st Q E, sp ts st Q E → ts.length = ps.length)
    (hbody : ∀ (f : Addr) (cdv : Value) (A : Around) (outer : List Env) (s : Shared) (H : Hp) (E : XK), Room k (A.deeper (envOfC qual (defScope stm) s.heap.objs.size f cdv)) → ∀ E3 : XK3,
      ∃ r, (∀ gb, TakesX ⟨cxOf (L2N.CX P w) P w K mg base N qual (defScope stm) f cdv A outer s H E, gb⟩ (upX E3) → LSs ⟨cxOf (L2N.CX P w) P w K mg base N qual (defScope stm) f cdv A outer s H E, gb⟩ (defBody stm) r) ∧
        ∀ ts st Q, sp ts st Q E3 → r { nx := fun _ st' => upQ Q .non st', rt := upQ Q } (start3 N ts) st) : Dx P w K mg base (k + 1) nm ps sp := by
  obtain ⟨f, fd, F, hm, hb⟩ := t.ex
  exact ⟨f, fd, ok3X F S len (hbody f), hm, F.kp, hb⟩
end
def rCallX (sp : Sp3) (E : XE) (rs : RA) : RE := fun env st Q => rs env st fun ts st1 => sp ts st1 Q fun c d st2 => E c d env st2
section
variable {X : Cy} {sp : Sp3} {E : XE} {k : Nat} {f : Addr} {fd : FuncData} {ps : List Str} {x : Str} {p pos : Pos} {e : Expr} {es : List Expr} {rs : RA}
theorem le_callX (D : Dx X.prog X.w X.K X.mg X.base k x ps sp) (hr : Room k X.A) (tk : TakesX X E) (hg : Gl X x)
    (ha : LA X (e :: es) rs) (hdb : (x == ("__debug__" : Str)) = false := by decide) (he : starEach (e :: es) X.env = (false, eval e X.env) :: starEach es X.env := by rfl) (hpl : (backTo pos (starEach es X.env)).any (·.1) = false := by rfl) :
    LE X (.Call (.Name x p) (e :: es) [] pos) (rCallX sp E rs) := by
  obtain ⟨f, fd, F, hm, hk, hb⟩ := D.ex
  exact PE.wk (pe_callS F hr hg hm hk hb (fun σ => L2N.passAt tk σ) ha hdb he hpl) fun σ H Q ⟨G, env, st, Q3, R, N, h, k⟩ => aOf_go R N h fun ts st1 G1 H1 vs e1 R1 rp q =>
    ⟨G1, st1, ts, Q3, fun c d st2 => E c d env st2, R1.re, rp, q, fun v H' z => k v H' (liftV.up e1 (liftV.back (K := X.kg) R1.low z)), fun c d H' ⟨st2, G2, R2, q2⟩ => ⟨G2, env, st2, Rel.back (K := X.kg) R1.low R2, N.mono (e1.trans R2.low), q2⟩⟩
end
/-! ### raise C("..") -/
/-- an own exception class over ValueError, made by its base's words -/
structure ExT (K : PySem.W.Frag) (mg : Str → Option Value) (x : Str) (C : Addr) : Prop where
  q : PySem.W.excIn K C [.type "ValueError", .type "Exception", .type "BaseException", .type "object"] "ValueError.__new__" = true
  g : mg x = some (.ref C)
  kp : PySem.W.keepIn K (.ref C) = true
  sub : PySem.W.subIn K (.ref C) (.type "BaseException") = some true
  ty : PySem.W.typeIn K (.ref C) = some (.type "type")
def rRaise (c : Value) (E : XE) : RS := fun _ env st => E c none env st
section
variable {X : Cy} {E : XE} {x m : Str} {C : Addr} {j : Nat} {p p2 pos pos' : Pos}
theorem ls_raiseT (T : ExT X.K X.mg x C) (tk : TakesX X E) (hc : X.calm = true) (hg : Gl X x) (hdb : (x == ("__debug__" : Str)) = false := by decide) :
    LS X (.Raise (some (.Call (.Name x p) [.Constant (.str m) j p2] [] pos)) none pos') (rRaise (.ref C) E) :=
  PS.wk (L2N.ps_raise hc tk (L2N.pmk_own PySem.F.excBase_ValueError T.q T.g T.kp (raises_own T.sub T.ty) hg hdb)) fun D σ H ⟨G, env, st, D3, R, N, h, d⟩ => ⟨G, env, st, R, N, h⟩
end
/-! ### try -/
theorem ERel.unset {K : PySem.W.Frag} {G : Hp} {σ : L2.St} {env : En} (h : ERel K G σ env) (i : Nat) : ERel K G (σ.set i none) (env.set i none) := by
  refine ⟨by rw [List.length_set, List.length_set]; exact h.len, fun j y q => ?_⟩
  by_cases e : i = j
  · subst e
    rw [List.getElem?_set] at q
    simp only [if_true] at q
    split at q <;> cases q
  · rw [List.getElem?_set_ne e] at q
    rw [List.getElem?_set_ne e]
    exact h.get j y q
theorem liftN.back {K : KG} {G1 G H : Hp} {P : En → Sto → Prop} {σ : L2.St} (h : Ex K.gb G1) (z : liftN ⟨K.fr, G1⟩ G P σ H) : liftN K G P σ H := by
  obtain ⟨env, st, G2, e, R, N, q⟩ := z
  exact ⟨env, st, G2, e, R.back h, N, q⟩
theorem DLe.re {K : KG} {G : Hp} {D3 : Ends3} {D : Ends} (h : Ex K.gb G) (d : DLe K G D3 D) : DLe ⟨K.fr, G⟩ G D3 D :=
  ⟨fun σ H z => d.nx σ H (liftN.back h z), fun v H z => d.rt v H (liftV.back h z), fun σ H z => d.bk σ H (liftN.back h z), fun σ H z => d.ct σ H (liftN.back h z)⟩
/-- the ends behind a suite that has held its exception in slot i -/
def unD (i : Nat) (D : Ends3) : Ends3 := { nx := fun e s => D.nx (e.set i none) s, rt := D.rt, bk := fun e s => D.bk (e.set i none) s, ct := fun e s => D.ct (e.set i none) s }
def rTryAs (K : PySem.W.Frag) (c : Value) (i : Nat) (rb : XE → RS) (rs : Addr → Value → Option Addr → RS) (Eo : XE) : RS := fun D env st =>
  rb (fun cls d env1 st1 => ∃ b, PySem.W.exmOne K cls c = some b ∧ (b = true → ∀ a, st1 a = none → rs a cls d (unD i D) (env1.set i (some (.loc a))) st1) ∧ (b = false → Eo cls d env1 st1)) D env st
def rTry (K : PySem.W.Frag) (c : Value) (rb : XE → RS) (rs : Addr → Value → Option Addr → RS) (Eo : XE) : RS := fun D env st =>
  rb (fun cls d env1 st1 => ∃ b, PySem.W.exmOne K cls c = some b ∧ (b = true → ∀ a, st1 a = none → rs a cls d D env1 st1) ∧ (b = false → Eo cls d env1 st1)) D env st
abbrev Cy.tr (X : Cy) (pn : List (Addr × Obj)) (xe : Value → Shared → Prop) (gb : Hp) : Cy := ⟨X.toCx.tr pn xe, gb⟩
abbrev Cy.suite (X : Cy) (a : Addr) (pn : List (Addr × Obj)) : Cy := ⟨X.toCx.suite a pn, X.gb⟩
section
variable {X : Cy} {x n : Str} {c : Value} {i : Nat} {body suite : List Stmt} {b₀ : Stmt} {np pos pos' : Pos} {rb : XE → RS} {rs : Addr → Value → Option Addr → RS} {Eo : XE}
/-- a try's body by its wish -/
def tBody (K : PySem.W.Frag) (rb : XE → RS) (W : WX) : TS := fun D σ H => ∃ gb E, (∀ c d σ' H', wOf ⟨K, gb⟩ E c d σ' H' → W c d σ' H') ∧ sOf ⟨K, gb⟩ (rb E) D σ H
theorem body_ok {pn : List (Addr × Obj)} {xe : Value → Shared → Prop} {W : WX} (tk : L2N.Takes (X.toCx.tr pn xe) W) (h : ∀ gb E, TakesX (X.tr pn xe gb) E → LSs (X.tr pn xe gb) body (rb E)) : PSs (X.toCx.tr pn xe) body (tBody X.K rb W) :=
  ⟨fun pins s σ H D I ⟨gb, E, hw, q⟩ => (h gb E (tk.imp hw)).run pins s σ H D I q⟩
theorem ls_tryAs (K0 : PySem.W.Frag) (hs : X.stack = X.env :: X.outer) (hf : X.env.frame = some X.env.locals) (hN : X.N.Nodup) (hi : X.N[i]? = some n) (hln : X.env.kindOf n = some .local) (hc : Names X x c) (tk : TakesX X Eo)
    (hb : ∀ (pn : List (Addr × Obj)) (xe : Value → Shared → Prop) (gb : Hp) (E : XE), PassesOwn (model X.prog X.w) X.A X.env xe → TakesX (X.tr pn xe gb) E → LSs (X.tr pn xe gb) body (rb E))
    (hsu : ∀ (a : Addr) (oe : Obj) (cls : Value) (d : Option Addr) (pn : List (Addr × Obj)), L2N.Zn cls d oe → (∃ vs, oe.data = .fields vs) → LSs (X.suite a ((a, oe) :: pn)) (b₀ :: suite) (rs a cls d)) (hK : X.K = K0 := by rfl) :
    LS X (.Try body [.ExceptHandler (some (.Name x np)) (some n) (b₀ :: suite) pos'] [] [] pos) (rTryAs K0 c i rb rs Eo) := by
  subst hK
  exact PS.wk (L2N.ps_try_as (tb := tBody X.K rb) (ts := fun a cls d => sOf X.kg (rs a cls d)) (Wout := wOf X.kg Eo) hs hf hN hi hln hc tk (fun W pn xe tk1 po => body_ok tk1 fun gb E tk2 => hb pn xe gb E po tk2) hsu) fun D σ H ⟨G, env, st, D3, R, N, h, d⟩ => by
    refine ⟨G, _, fun cls dd σ1 H1 z => ?_, G, env, st, D3, R.re, N, h, d.re R.low⟩
    obtain ⟨G1, env1, st1, R1, N1, b, hb1, hy, hn⟩ := z
    have R2 : Rel X.kg H1 st1 G1 := Rel.back (K := X.kg) R.low R1
    refine ⟨b, hb1, fun e a ha => ?_, fun e => ⟨G1, env1, st1, R2, N1, hn e⟩⟩
    exact ⟨G1, _, st1, unD i D3, R2, N1.set (.loc a) i, hy e a (R2.noS ha),
      ⟨fun σ' H' ⟨e2, s2, G2, x2, R3, N3, q⟩ => d.nx _ _ ⟨_, s2, G2, R1.low.trans x2, R3, N3.unset i, q⟩, fun v H' z => d.rt v H' (liftV.up R1.low z),
        fun σ' H' ⟨e2, s2, G2, x2, R3, N3, q⟩ => d.bk _ _ ⟨_, s2, G2, R1.low.trans x2, R3, N3.unset i, q⟩, fun σ' H' ⟨e2, s2, G2, x2, R3, N3, q⟩ => d.ct _ _ ⟨_, s2, G2, R1.low.trans x2, R3, N3.unset i, q⟩⟩⟩
/-- without a name -/
theorem ls_try (K0 : PySem.W.Frag) (hs : X.stack = X.env :: X.outer) (hf : X.env.frame = some X.env.locals) (hc : Names X x c) (tk : TakesX X Eo)
    (hb : ∀ (pn : List (Addr × Obj)) (xe : Value → Shared → Prop) (gb : Hp) (E : XE), PassesOwn (model X.prog X.w) X.A X.env xe → TakesX (X.tr pn xe gb) E → LSs (X.tr pn xe gb) body (rb E))
    (hsu : ∀ (a : Addr) (oe : Obj) (cls : Value) (d : Option Addr) (pn : List (Addr × Obj)), L2N.Zn cls d oe → (∃ vs, oe.data = .fields vs) → LSs (X.suite a ((a, oe) :: pn)) (b₀ :: suite) (rs a cls d)) (hK : X.K = K0 := by rfl) :
    LS X (.Try body [.ExceptHandler (some (.Name x np)) none (b₀ :: suite) pos'] [] [] pos) (rTry K0 c rb rs Eo) := by
  subst hK
  exact PS.wk (L2N.ps_try_many (tb := tBody X.K rb) (l := [(c, fun a cls d => sOf X.kg (rs a cls d))]) (Wout := wOf X.kg Eo) hs hf tk (fun W pn xe tk1 po => body_ok tk1 fun gb E tk2 => hb pn xe gb E po tk2) (.cons hc hsu .nil)) fun D σ H ⟨G, env, st, D3, R, N, h, d⟩ => by
    refine ⟨G, _, fun cls dd σ1 H1 z => ?_, G, env, st, D3, R.re, N, h, d.re R.low⟩
    obtain ⟨G1, env1, st1, R1, N1, b, hb1, hy, hn⟩ := z
    have R2 : Rel X.kg H1 st1 G1 := Rel.back (K := X.kg) R.low R1
    refine ⟨b, hb1, fun e a ha => ?_, fun e => ⟨G1, env1, st1, R2, N1, hn e⟩⟩
    exact ⟨G1, _, st1, D3, R2, N1, hy e a (R2.noS ha), d.up R1.low⟩
end
theorem takes0 {X : Cy} : TakesX X fun _ _ _ _ => False := fun u s' ⟨_, _, _, _, _, _, _, _, _, _, _, _, _, _, _, _, _, _, _, _, _, z⟩ => z.elim
end L3

/-! L3: exceptions with an own __init__ that calls its base's; isinstance and fields of a caught one; defs called in a suite. -/
namespace L3
open PySem PySem.Spec PyProof.Rows L2 L2H
open Evl (Ex)
/-! ### B.__init__(self, ..), B an own class over ValueError without own __init__ -/
structure BaseC (K : PySem.W.Frag) (mg : Str → Option Value) (x : Str) (B : Addr) : Prop where
  g : mg x = some (.ref B)
  ga : PySem.W.specialIn K (.ref B) "__getattribute__" = some (some (.builtin "type.__getattribute__"))
  rd : PySem.W.readsIn K B (.type "type") = true
  fd : PySem.W.findCls K (.ref B) (.type "type") "__init__" = some (.val (.builtin "ValueError.__init__"))
section
variable {X : Cx} {o e : Expr} {es : List Expr} {ta : TA} {x : Str} {B : Addr} {p p1 p2 pos : Pos}
theorem pe_cinit {pl : Sem Bool} (T : BaseC X.K X.mg x B) (hg : Gl X x) (ha : PA X (e :: es) ta) (hdb : (x == ("__debug__" : Str)) = false := by decide)
    (hc : eval (.Call (.Attribute (.Name x p1) "__init__" p2) (e :: es) [] pos) X.env = (do let ov ← eval (.Name x p1) X.env; standAt p2.atName; let (f, first) ← holding [ov] (getMethod ov "__init__" pl); callWith pos f first (backTo pos (starEach (e :: es) X.env)) (backToKw pos (keywordEach [] X.env))) := by rfl)
    (he : starEach (e :: es) X.env = (false, eval e X.env) :: starEach es X.env := by rfl) (hpl : (backTo pos (starEach es X.env)).any (·.1) = false := by rfl) :
    PE X (.Call (.Attribute (.Name x p1) "__init__" p2) (e :: es) [] pos) (tVeI X.K ta) :=
  ⟨fun pins s σ H Q I h => PySem.W.methodCall_KW (ld_glob I hg T.g (PySem.W.method_cls I.kIn T.ga (PySem.W.cls_value I.kIn T.rd T.fd (by decide +kernel)
    (callWith_method1 (thn (ha.run pos pins _ σ H _ (I.tok _) h) fun us s1 z => by
      obtain ⟨vs, H1, I1, r1, a, C, ws, ev, hl, OC, ea, q⟩ := z
      subst ev
      cases r1 with
      | @cons _ u0 _ ur ra rw' =>
      have e0 : u0 = Value.ref a := ra
      subst e0
      exact oinit_ok OC I1 ea (by rw [← Paired.length rw', sizeLine_eq]; omega) fun s' J => ⟨.non, H1, J, rfl, q⟩) he hpl))) hdb) hc⟩
end
/-- what the __init__ of one field promises -/
def spI (K : PySem.W.Frag) (f : Str) : Sp := fun vs H Q _ => ∃ (a C : Addr) (v : V), vs = [.ref a, v] ∧ OexC K C ∧ PySem.W.findIn K (.ref C) f = some none ∧ H a = some (exo a C none) ∧
  ∀ dx, H dx = none → dx ≠ a → Q .non (upd (upd H dx (exd dx [(f, v)])) a (exo a C (some dx)))
/-! ### raise C(e), C with such an __init__ -/
/-- what the top has left of such a class -/
structure ExI (P : Program) (w : World) (K : PySem.W.Frag) (mg : Str → Option Value) (base : Heap) (x f : Str) (C : Addr) : Prop where
  o : OexC K C
  g : mg x = some (.ref C)
  no : PySem.W.findIn K (.ref C) f = some none
  fn : ∃ (fI : Addr) (fd : FuncData) (ps : List Str), PySem.W.findIn K (.ref C) "__init__" = some (some (.ref fI)) ∧ PySem.W.typeIn K (.ref fI) = some (.type "function") ∧ FnOk P w K mg base CX0 1 fI fd ps (spI K f) ∧ Binds K fd ps []
theorem upd_back {H : Hp} {a dx : Addr} {C : Addr} {o : HO} {fs : List (Str × V)} (ha : H a = none) (hd : dx ≠ a) : upd (del (upd (upd (upd H a o) dx (exd dx fs)) a (exo a C (some dx))) a) dx (.xd fs) = upd H dx (.xd fs) := by
  funext b
  by_cases h1 : b = dx
  · rw [h1, upd_same, upd_same]
  · rw [upd_ne h1, upd_ne h1]
    by_cases h2 : b = a
    · rw [h2, del_same, ha]
    · rw [del_ne h2, upd_ne h2, upd_ne h1, upd_ne h2]
section
variable {X : Cx} {e : Expr} {ta : TA} {x f : Str} {C : Addr} {p pos : Pos}
/-- C(e): the class, the own dict, new -/
def tMkI (C : Addr) (f : Str) (ta : TA) : L2.St → Hp → XK → Prop := fun σ H Q => ta σ H fun vs H1 => ∃ v, vs = [v] ∧ ∀ d, H1 d = none → Q (.ref C) (some d) (upd H1 d (.xd [(f, v)]))
theorem mkI (T : ExI X.prog X.w X.K X.mg X.base x f C) (hr : Room 2 X.A) (hg : Gl X x) (ha : PA X [e] ta) (hdb : (x == ("__debug__" : Str)) = false := by decide)
    (he : starEach [e] X.env = (false, eval e X.env) :: starEach [] X.env := by rfl) (hpl : (backTo pos (starEach [] X.env)).any (·.1) = false := by rfl) : L2N.PMk X (.Call (.Name x p) [e] [] pos) (tMkI C f ta) := by
  intro pins s σ H Q I h
  obtain ⟨fI, fd, ps, iC, tI, F1, hb⟩ := T.fn
  obtain ⟨y0, y1, y2, y3, bm, y4, y5, y6, y7, y8, y9, z1, z2, z3, z4, hC, hbm⟩ := T.o.cls
  refine wpAny_Call_Name_kw (ld_glob I hg T.g (PySem.W.callWith_K (h₀ := X.base) I.ok.mod.kin T.o.kC (thn (ha.run pos pins s σ H _ I h) fun us s1 z => ?_) he hpl) hdb)
  obtain ⟨vs, H1, I1, r1, v, rfl, q1⟩ := z
  refine ⟨I1.kIn, ?_⟩
  cases r1 with
  | @cons _ u _ _ ru rn =>
  cases rn
  show wpAny _ _ (call (.ref C) [u]) _ _ _
  obtain ⟨hp, g, dr, tk, os⟩ := s1
  generalize ea : hp.objs.size + 1 = a0
  have hsz : hp.objs.size ≤ a0 := by omega
  have hn : H1 a0 = none := I1.hok.fresh hsz
  have kk : ∀ b ob, hp.get? b = some ob → ((hp.push (PySem.W.kdv_tup [u])).push (PySem.HandSPX.excO C hp.objs.size)).get? b = some ob := fun b ob z => Heap.get?_push_of_some _ (Heap.get?_push_of_some _ z)
  have hget : ((hp.push (PySem.W.kdv_tup [u])).push (PySem.HandSPX.excO C hp.objs.size)).get? a0 = some (PySem.HandSPX.excO C hp.objs.size) := by rw [← ea]; heap_get
  have I2 : Inv X pins σ (upd H1 a0 (exo a0 C none)) ⟨(hp.push (PySem.W.kdv_tup [u])).push (PySem.HandSPX.excO C hp.objs.size), g, dr, tk, os⟩ := I1.laid (t' := tk) kk hsz (exo_ok hget)
  have r2 : Vals [V.ref a0, v] [Value.ref a0, u] := .cons rfl (.cons ru .nil)
  have hsp : spI X.K f [V.ref a0, v] (upd H1 a0 (exo a0 C none)) (fun v2 H2 => v2 = .non ∧ ∃ d, H1 d = none ∧ d ≠ a0 ∧ H2 = upd (upd (upd H1 a0 (exo a0 C none)) d (exd d [(f, v)])) a0 (exo a0 C (some d))) fun _ _ _ => False :=
    ⟨a0, C, v, rfl, T.o, T.no, upd_same, fun dx h1 h2 => ⟨rfl, dx, by rw [upd_ne h2] at h1; exact h1, h2, rfl⟩⟩
  have b := hb ⟨(hp.push (PySem.W.kdv_tup [u])).push (PySem.HandSPX.excO C hp.objs.size), g, dr, tk, os⟩ [Value.ref a0, u] I2.kIn (by rw [F1.len _ _ _ _ hsp |>.symm]; rfl)
  rw [List.append_nil] at b
  have run := F1.run (X.A.under (.builtin "type.__call__" ⟨.ref C :: [u], []⟩)) X.stack _ _ ⟨[Value.ref a0, u], []⟩ [Value.ref a0, u] _ _ (fun _ _ _ => False) ((hr.mono (by decide) : Room (1 + 1) X.A).make C [u] []) (I2.env0.make C [u] []) b r2 hsp
  subst ea
  refine wpAny_call (PySem.HandSPX.call_own PySem.F.excBase_ValueError (fun Y => PySem.HandSPX.refsVE_contains Y bm hbm) (I1.kIn _ _ hC) (PySem.W.looks_findIn I1.kIn iC) (fun self => PySem.W.bind_fn I1.kIn self tI) (by show 1 ≤ sizeLine; rw [sizeLine_eq]; omega) (codeAny_mono run fun r s' hq' => ?_))
  cases r with
  | error er => exact False.elim hq'
  | ok fl =>
    cases fl with
    | next => exact False.elim hq'
    | brk => exact False.elim hq'
    | cont => exact False.elim hq'
    | ret u2 =>
      obtain ⟨v2, H2, os2, bare2, un2, hok2, rv, ev, d, hd1, hda, rfl⟩ := hq'
      subst ev
      obtain ⟨h2, g2, d2, t2, os'⟩ := s'
      have ea2 : (upd (upd (upd H1 (hp.objs.size + 1) (exo (hp.objs.size + 1) C none)) d (exd d [(f, v)])) (hp.objs.size + 1) (exo (hp.objs.size + 1) C (some d))) (hp.objs.size + 1) = some (exo (hp.objs.size + 1) C (some d)) := upd_same
      have ed2 : (upd (upd (upd H1 (hp.objs.size + 1) (exo (hp.objs.size + 1) C none)) d (exd d [(f, v)])) (hp.objs.size + 1) (exo (hp.objs.size + 1) C (some d))) d = some (exd d [(f, v)]) := by rw [upd_ne hda, upd_same]
      obtain ⟨t0, G, J, kG, ge, hoe, na⟩ := mk_end0 (d2 := d2) (t2 := t2) I1 hsz kk un2 hok2 os2 bare2 ea2 ed2 hd1
      rw [upd_back hn hda] at J na
      exact ⟨rv, hp.objs.size + 1, _, _, ⟨G, g2, d2, t2, os'⟩, _, .ref C, some d, rfl, J, kG, ge, hoe, ⟨rfl, rfl, fun vs hv => by cases hv; rfl⟩, rfl, rfl, na, rfl, bare2, raises_own T.o.exC T.o.tyC, q1 d hd1⟩
end
/-- raise C(e) -/
def rRaiseI (C : Addr) (f : Str) (E : XE) (ra : RE) : RS := fun _ env st => ra env st fun t st1 => ∀ d, st1 d = none → E (.ref C) (some d) env (supd st1 d (.xd [(f, t)]))
section
variable {X : Cy} {E : XE} {e : Expr} {ra : RE} {x f : Str} {C : Addr} {p pos pos' : Pos}
theorem ls_raiseI (T : ExI X.prog X.w X.K X.mg X.base x f C) (hr : Room 2 X.A) (tk : TakesX X E) (hc : X.calm = true) (hg : Gl X x) (ha : LE X e ra) (hdb : (x == ("__debug__" : Str)) = false := by decide)
    (he : starEach [e] X.env = (false, eval e X.env) :: starEach [] X.env := by rfl) (hpl : (backTo pos (starEach [] X.env)).any (·.1) = false := by rfl) :
    LS X (.Raise (some (.Call (.Name x p) [e] [] pos)) none pos') (rRaiseI C f E ra) :=
  PS.wk (L2N.ps_raise hc tk (mkI T hr hg (la_cons ha la_nil he) hdb he hpl)) fun D σ H ⟨G, env, st, D3, R, N, h, d⟩ => aOf_go R N (r := rCons ra rNil) (Q3 := fun ts st1 => match ts with | [t] => ∀ d, st1 d = none → E (.ref C) (some d) env (supd st1 d (.xd [(f, t)])) | _ => False) h fun ts st1 G1 H1 vs e1 R1 rp q => by
    split at q
    · rename_i t
      cases rp with
      | @cons v _ _ _ a rs =>
      cases rs
      exact ⟨v, rfl, fun d2 hd => ⟨G1, env, _, R1.newS hd (show MRep _ _ (.xd [(f, t)]) (.xd [(f, v)]) from .xd ⟨rfl, .cons a .nil⟩), N.mono e1, q d2 (R1.noS hd)⟩⟩
    · exact q.elim
end
/-! ### isinstance(e, C), e the exception that the suite holds -/
theorem call_isX {X : Cx} {a : Addr} {oe : Obj} {cls : Value} {d : Option Addr} {pn : List (Addr × Obj)} (hz : Zc cls d oe) (hf : ∃ vs, oe.data = .fields vs) :
    CallR (X.suite a ((a, oe) :: pn)) (.builtin "isinstance") (fun xs H Q => ∃ (D : Addr) (c : V) (cv : Value) (b : Bool), cls = .ref D ∧ ExcC X.K D ∧ xs = [.ref a, c] ∧ (∀ u, RelV c u → u = cv) ∧ (∀ dd, d = some dd → ∃ fs, H dd = some (.xd fs)) ∧ PySem.W.kitOne X.K (.ref D) cv = some b ∧ Q (.bl b) H) := by
  intro pins s σ H xs us Q I r ⟨D, c, cv, b, hcls, T, hxs, hcv, hdd, hk, q⟩
  subst hcls hxs
  cases r with
  | cons rx rr =>
  cases rr with
  | cons rc rr =>
  cases rr
  cases rx
  rw [hcv _ rc]
  obtain ⟨hget, _⟩ := I.pin (a, oe) (List.mem_append.mpr (.inl List.mem_cons_self))
  obtain ⟨vs, hv⟩ := hf
  have J : ∃ od, PySem.W.InstAt s.heap a oe D od := by
    cases d with
    | none => exact ⟨none, hget, hz.1, by unfold PySem.W.notCls; rw [hv] <;> rfl, by rw [hz.2]; trivial⟩
    | some dd =>
      obtain ⟨fs, e⟩ := hdd dd rfl
      have hx : ObjOk X.prog X.w H s.heap dd (.xd fs) := I.hok dd _ e
      obtain ⟨mA, hns, _⟩ := hx
      obtain ⟨o1, _, _, ho, _⟩ := hns
      exact ⟨some o1, hget, hz.1, by unfold PySem.W.notCls; rw [hv] <;> rfl, by rw [hz.2]; exact ho⟩
  obtain ⟨od, J⟩ := J
  obtain ⟨cd, hcd, _⟩ := PySem.W.any_some T.hd
  exact PySem.W.kia_one (PySem.W.kitx_exc (by rw [hcd]; rfl) T.hg T.hk T.hs T.ha T.hn T.ht T.hm) I.kIn J hk (fun z => nomatch z) fun tk => ⟨.bl b, H, I.kept (t' := tk) fun _ _ z => z, rfl, q⟩
def rIsX (K : PySem.W.Frag) (a : Addr) (cls : Value) (d : Option Addr) (cv : Value) (re : RE) : RE := fun env st Q => re env st fun t st1 => ∃ D b, t = .loc a ∧ cls = .ref D ∧ ExcC K D ∧ (∀ dd, d = some dd → ∃ fs, st1 dd = some (.xd fs)) ∧ PySem.W.kitOne K (.ref D) cv = some b ∧ Q (.bl b) st1
section
variable {X : Cy} {a : Addr} {oe : Obj} {cls : Value} {d : Option Addr} {pn : List (Addr × Obj)} {e : Expr} {re : RE} {x : Str} {p p2 pos : Pos}
theorem le_isX0 (K0 : PySem.W.Frag) {cv : Value} {t2 : T} (hz : L2N.Zn cls d oe) (hf : ∃ vs, oe.data = .fields vs) (hg : Gl (X.suite a ((a, oe) :: pn)) "isinstance") (hm : X.mg "isinstance" = none) (he : LE (X.suite a ((a, oe) :: pn)) e re)
    (hx : LE (X.suite a ((a, oe) :: pn)) (.Name x p2) (rC t2)) (hcv : ∀ G v, Rep X.K G v t2 → ∀ u, RelV v u → u = cv) (hs : starEach [e, .Name x p2] X.env = (false, eval e X.env) :: starEach [.Name x p2] X.env := by rfl) (hs2 : starEach [.Name x p2] X.env = (false, eval (.Name x p2) X.env) :: starEach [] X.env := by rfl)
    (hpl : (backTo pos (starEach [.Name x p2] X.env)).any (·.1) = false := by rfl) (hK : X.K = K0 := by rfl) :
    LE (X.suite a ((a, oe) :: pn)) (.Call (.Name "isinstance" p) [e, .Name x p2] [] pos) (rIsX K0 a cls d cv re) := by
  subst hK
  exact PE.wk (pe_callB (call_isX hz.zc hf) hg hm (by decide +kernel) (la_cons he (la_cons hx la_nil hs2) hs) (he := hs) (hpl := hpl)) fun σ H Q ⟨G, env, st, Q3, R, N, h, k⟩ => aOf_go R N (r := rCons re (rCons (rC t2) rNil))
    (Q3 := fun ts st1 => match ts with | [t, u] => u = t2 ∧ ∃ D b, t = .loc a ∧ cls = .ref D ∧ ExcC X.K D ∧ (∀ dd, d = some dd → ∃ fs, st1 dd = some (.xd fs)) ∧ PySem.W.kitOne X.K (.ref D) cv = some b ∧ Q3 (.bl b) st1 | _ => False)
    (by
      have e0 : (fun (t : T) (st1 : Sto) => ∃ D b, t = .loc a ∧ cls = .ref D ∧ ExcC X.K D ∧ (∀ dd, d = some dd → ∃ fs, st1 dd = some (.xd fs)) ∧ PySem.W.kitOne X.K (.ref D) cv = some b ∧ Q3 (.bl b) st1) = fun t st1 => t2 = t2 ∧ ∃ D b, t = .loc a ∧ cls = .ref D ∧ ExcC X.K D ∧ (∀ dd, d = some dd → ∃ fs, st1 dd = some (.xd fs)) ∧ PySem.W.kitOne X.K (.ref D) cv = some b ∧ Q3 (.bl b) st1 := by
        funext t st1
        simp only [true_and]
      have h : re env st fun t st1 => ∃ D b, t = .loc a ∧ cls = .ref D ∧ ExcC X.K D ∧ (∀ dd, d = some dd → ∃ fs, st1 dd = some (.xd fs)) ∧ PySem.W.kitOne X.K (.ref D) cv = some b ∧ Q3 (.bl b) st1 := h
      rw [e0] at h
      exact h) fun ts st1 G1 H1 vs e1 R1 rp q => by
    split at q
    rotate_left
    · exact q.elim
    obtain ⟨hu, D, b, et, h1, h2, h3, h4, q⟩ := q
    subst hu
    subst et
    cases rp with
    | cons a1 rs =>
    cases rs with
    | @cons c _ _ _ a2 rs =>
    cases rs
    cases a1
    refine ⟨D, c, cv, b, h1, h2, rfl, hcv _ _ a2, fun dd hdd => ?_, h4, k _ _ ⟨.bl b, st1, G1, e1, R1, .bl b, q⟩⟩
    obtain ⟨fs, e3⟩ := h3 dd hdd
    obtain ⟨_, o, e4, m⟩ := R1.mem _ _ e3
    cases m with
    | xd _ => exact ⟨_, e4⟩
/-- an own class -/
theorem le_isX (K0 : PySem.W.Frag) {C : Addr} (hC : X.mg x = some (.ref C)) (hz : L2N.Zn cls d oe) (hf : ∃ vs, oe.data = .fields vs) (hg : Gl (X.suite a ((a, oe) :: pn)) "isinstance") (hm : X.mg "isinstance" = none) (hgx : Gl (X.suite a ((a, oe) :: pn)) x) (he : LE (X.suite a ((a, oe) :: pn)) e re)
    (hdb : (x == ("__debug__" : Str)) = false := by decide) (hs : starEach [e, .Name x p2] X.env = (false, eval e X.env) :: starEach [.Name x p2] X.env := by rfl) (hs2 : starEach [.Name x p2] X.env = (false, eval (.Name x p2) X.env) :: starEach [] X.env := by rfl)
    (hpl : (backTo pos (starEach [.Name x p2] X.env)).any (·.1) = false := by rfl) (hK : X.K = K0 := by rfl) :
    LE (X.suite a ((a, oe) :: pn)) (.Call (.Name "isinstance" p) [e, .Name x p2] [] pos) (rIsX K0 a cls d (.ref C) re) :=
  le_isX0 K0 hz hf hg hm he (le_glob (v := .ref C) (t := .loc C) hgx hC rfl (fun _ => .loc C) hdb) (fun G v r u h => by cases r; exact h) hs hs2 hpl hK
/-- a built-in class -/
theorem le_isXB (K0 : PySem.W.Frag) {n : String} (hC : X.mg x = none) (hb : bootBuiltins x = some (.type n)) (hz : L2N.Zn cls d oe) (hf : ∃ vs, oe.data = .fields vs) (hg : Gl (X.suite a ((a, oe) :: pn)) "isinstance") (hm : X.mg "isinstance" = none) (hgx : Gl (X.suite a ((a, oe) :: pn)) x) (he : LE (X.suite a ((a, oe) :: pn)) e re)
    (hn : x ≠ "__name__" := by decide) (hdb : (x == ("__debug__" : Str)) = false := by decide) (hs : starEach [e, .Name x p2] X.env = (false, eval e X.env) :: starEach [.Name x p2] X.env := by rfl) (hs2 : starEach [.Name x p2] X.env = (false, eval (.Name x p2) X.env) :: starEach [] X.env := by rfl)
    (hpl : (backTo pos (starEach [.Name x p2] X.env)).any (·.1) = false := by rfl) (hK : X.K = K0 := by rfl) :
    LE (X.suite a ((a, oe) :: pn)) (.Call (.Name "isinstance" p) [e, .Name x p2] [] pos) (rIsX K0 a cls d (.type n) re) :=
  le_isX0 K0 hz hf hg hm he (le_c (t := .ty n) (pe_bltn (v := .ty n) hgx hC hb rfl hn hdb) fun _ => .ty n) (fun G v r u h => by cases r; exact h) hs hs2 hpl hK
end
/-! ### e.f -/
def rXf (K : PySem.W.Frag) (a : Addr) (cls : Value) (d : Option Addr) (f : Str) (re : RE) : RE := fun env st Q => re env st fun t st1 => ∃ D dd fs u, t = .loc a ∧ cls = .ref D ∧ XfC K D ∧ PySem.W.findIn K (.ref D) f = some none ∧ d = some dd ∧ st1 dd = some (.xd fs) ∧ fs.lookup f = some u ∧ Q u st1
theorem preps_look {K : PySem.W.Frag} {G : Hp} {f : Str} {u : T} : ∀ {fs : List (Str × V)} {gs : List (Str × T)}, PReps K G fs gs → gs.lookup f = some u → ∃ v, fs.lookup f = some v ∧ Rep K G v u
  | [], [], _, h => by cases h
  | [], _ :: _, ⟨e, _⟩, _ => by cases e
  | _ :: _, [], ⟨e, _⟩, _ => by cases e
  | (k, v) :: fs, (k', t) :: gs, ⟨e, r⟩, h => by
    simp only [List.map_cons, List.cons.injEq] at e
    obtain ⟨rfl, e⟩ := e
    rw [List.map_cons, List.map_cons] at r
    cases r with
    | cons r1 r2 =>
    rw [List.lookup_cons] at h
    rw [List.lookup_cons]
    cases hk : f == k with
    | true => rw [hk] at h; cases h; exact ⟨v, rfl, r1⟩
    | false => rw [hk] at h; exact preps_look ⟨e, r2⟩ h
section
variable {X : Cy} {a : Addr} {oe : Obj} {cls : Value} {d : Option Addr} {pn : List (Addr × Obj)} {e : Expr} {re : RE} {f : Str} {pos : Pos}
theorem le_xf (K0 : PySem.W.Frag) (hz : L2N.Zn cls d oe) (hf : ∃ vs, oe.data = .fields vs) (he : LE (X.suite a ((a, oe) :: pn)) e re) (hb : attributeBase e f X.env (eval e X.env) = eval e X.env := by rfl) (hK : X.K = K0 := by rfl) :
    LE (X.suite a ((a, oe) :: pn)) (.Attribute e f pos) (rXf K0 a cls d f re) := by
  subst hK
  by_cases hD : ∃ D, cls = .ref D ∧ XfC X.K D ∧ PySem.W.findIn X.K (.ref D) f = some none
  · obtain ⟨D, hcls, T, hno⟩ := hD
    refine PE.wk (pe_xf (C := D) T hno hz.zc hf he hb) fun σ H Q ⟨G, env, st, Q3, R, N, h, k⟩ => eOf_go R N (r := re) h fun t st1 G1 H1 v e1 R1 rp ⟨D2, dd, fs, u, h1, h2, h3, h4, h5, h6, h7, q⟩ => ?_
    subst h1
    cases rp
    obtain ⟨_, o, e4, m⟩ := R1.mem _ _ h6
    cases m with
    | xd m =>
    obtain ⟨v, l, r⟩ := preps_look m h7
    exact ⟨rfl, hcls, dd, _, v, h5, e4, l, k _ _ ⟨u, st1, G1, e1, R1, r, q⟩⟩
  · refine ⟨fun pins s σ H Q I ⟨G, env, st, Q3, R, N, h, k⟩ => attr_of hb (thn (he.run pins s σ H (fun _ _ => False) I (eOf_go R N (r := re) h fun t st1 G1 H1 v e1 R1 rp ⟨D2, dd, fs, u, h1, h2, h3, h4, h5, h6, h7, q⟩ => hD ⟨D2, h2, h3, h4⟩)) fun _ _ ⟨_, _, _, _, z⟩ => z.elim)⟩
end
/-! ### defs called in a suite -/
section
variable {P : Program} {w : World} {K : PySem.W.Frag} {mg : Str → Option Value} {base : Heap}
structure Dh (P : Program) (w : World) (K : PySem.W.Frag) (mg : Str → Option Value) (base : Heap) (k : Nat) (nm : Str) (ps : List Str) (sp : Sp3) : Prop where
  ex : ∃ f fd, FnH P w K mg base CX0 k f fd ps (lift3 K sp) ∧ mg nm = some (.ref f) ∧ PySem.W.keepIn K (.ref f) = true ∧ Binds K fd ps []
theorem dmkH {nm qual : Str} {stm : Stmt} {N ps : List Str} {k : Nat} {sp : Sp3} (t : Tx K mg nm qual stm ps) (S : FnScope N ps (defScope stm)) (len : ∀ ts st Q E, sp ts st Q E → ts.length = ps.length)
    (hbody : ∀ (f : Addr) (cdv : Value) (A : Around) (outer : List Env) (s : Shared) (H : Hp) (E : XK) (p : Addr × Obj), RoomH k (A.deeper (envOfC qual (defScope stm) s.heap.objs.size f cdv)) →
      ∃ r, (∀ gb, LSs ⟨(cxH CX0 P w K mg base N qual (defScope stm) f cdv A outer s H E p).nox, gb⟩ (defBody stm) r) ∧ ∀ ts st Q E3, sp ts st Q E3 → r { nx := fun _ st' => upQ Q .non st', rt := upQ Q } (start3 N ts) st) : Dh P w K mg base (k + 1) nm ps sp := by
  obtain ⟨f, fd, F, hm, hb⟩ := t.ex
  refine ⟨f, fd, ?_, hm, F.kp, hb⟩
  obtain ⟨c1, d1, e1, e2, e3, e4, e5, e6, e7, rfl, hlk, hcode⟩ := F.ex
  refine fn_ofH hlk hcode S (fun vs H Q E h => ?_) fun A outer s H vs Q E p hot hr h => ?_
  · obtain ⟨G, st, ts, Q3, E3, R, r, q, _⟩ := h
    rw [r.length]
    exact len ts st Q3 E3 q
  · obtain ⟨G, st, ts, Q3, E3, R, r, q, k1, k2⟩ := h
    obtain ⟨rd, h1, h2⟩ := hbody f _ A outer s H E p hr
    refine ⟨_, PSs.nox (h1 G), G, start3 N ts, st, _, R, erel_start N r, h2 ts st Q3 E3 q, ?_⟩
    exact ⟨fun σ' H' ⟨env', st', G', e, R', N', z⟩ => k1 _ _ (liftV.less ⟨_, st', G', e, R', .non, z⟩), fun v H' z => k1 _ _ (liftV.less z), fun _ _ ⟨_, _, _, _, _, _, z⟩ => z.elim, fun _ _ ⟨_, _, _, _, _, _, z⟩ => z.elim⟩
end
section
variable {X : Cy} {a : Addr} {oe : Obj} {cls : Value} {d : Option Addr} {pn : List (Addr × Obj)} {sp : Sp3} {k : Nat} {ps : List Str} {x : Str} {p pos : Pos} {e : Expr} {es : List Expr} {rs : RA}
theorem le_callH (D : Dh X.prog X.w X.K X.mg X.base k x ps sp) (hz : L2N.Zn cls d oe) (hf : ∃ vs, oe.data = .fields vs) (hr : Room k X.A) (hg : Gl (X.suite a ((a, oe) :: pn)) x)
    (ha : LA (X.suite a ((a, oe) :: pn)) (e :: es) rs) (hdb : (x == ("__debug__" : Str)) = false := by decide) (he : starEach (e :: es) X.env = (false, eval e X.env) :: starEach es X.env := by rfl) (hpl : (backTo pos (starEach es X.env)).any (·.1) = false := by rfl) :
    LE (X.suite a ((a, oe) :: pn)) (.Call (.Name x p) (e :: es) [] pos) (rCall sp rs) := by
  obtain ⟨f, fd, F, hm, hk, hb⟩ := D.ex
  obtain ⟨vs0, hv0⟩ := hf
  have hot : HotC (X.suite a ((a, oe) :: pn)).toCx := ⟨(a, oe), ⟨rfl, vs0, hv0, hz.2.2 vs0 hv0⟩, List.mem_cons_self⟩
  exact PE.wk (pe_callH (E := fun _ _ _ _ => False) F ⟨hr.dp, hr.un⟩ hot hg hm hk hb (fun _ _ _ _ _ _ _ z => z.elim) ha hdb he hpl) fun σ H Q ⟨G, env, st, Q3, R, N, h, k⟩ => aOf_go R N h fun ts st1 G1 H1 vs e1 R1 rp q =>
    ⟨G1, st1, ts, Q3, fun _ _ _ => False, R1.re, rp, q, fun v H' z => k v H' (liftV.up e1 (liftV.back (K := X.kg) R1.low z)), fun c d H' ⟨_, _, _, z⟩ => z.elim⟩
end
end L3

namespace Sv
open PySem PySem.Spec PyProof.Rows L2 L3
open PySem.W (dataLe dataLt)
section
variable {P : Program} {w : World} {K : PySem.W.Frag} {mg : Str → Option Value} {base : Heap}
/-! ### all_best -/
abbrev sp_all_bestX (C : Addr) : Sp3 := fun ts st Q E => ∃ (r : List Int) (tb : List Knd) (m : Int), ts = [eIs r, eTb tb, .int m] ∧ r.length ≤ 1000000 ∧ tb.length ≤ 1000000 ∧ (∀ k ∈ tb, okK k) ∧ (tb.map (·.name)).Nodup ∧ m ≤ 1000000 ∧ (m < ways r tb r.length → ∀ d, st d = none → E (.ref C) (some d) (supd st d (.xd [("most", .int m)]))) ∧
  (ways r tb r.length ≤ m → ∀ (L : List (Addr × List Pc)) (st' : Sto) (p : Addr), Told (L.map (·.2)) (bst r tb r.length) → Sub st st' → st' p = some (.lst (L.map eL)) → (∀ x ∈ L, st' x.1 = some (.lst (x.2.map ePc)) ∧ x.1 ≠ p) → Q (.loc p) st')
abbrev N_all_best : List Str := ["roll", "table", "most", "sums", "high", "told", "open_ends", "end", "behind", "kind", "place"]
theorem sc_all_best : FnScope N_all_best ["roll", "table", "most"] (defScope s_all_best) := ⟨rfl, rfl, rfl, by decide +kernel, rfl, by decide +kernel, by decide +kernel⟩

theorem d_all_best {C : Addr} (t : Tx K mg "all_best" "all_best" s_all_best ["roll", "table", "most"]) (B : Bi mg) (TM : ExI P w K mg base "TooMany" "most" C) (d_running_sums : Df P w K mg base 1 "running_sums" ["roll"] sp_running_sums)
    (d_heights : Df P w K mg base 2 "heights" ["roll", "table"] sp_heights) (d_best_ends : Df P w K mg base 2 "best_ends" ["sums", "high", "table", "end"] sp_best_ends) (d_best_count : Df P w K mg base 4 "best_count" ["roll", "table"] sp_best_count) : Dx P w K mg base 5 "all_best" ["roll", "table", "most"] (sp_all_bestX C) := by
  refine dmkX t sc_all_best (by rintro _ _ _ _ ⟨_, _, _, rfl, _⟩; rfl) fun f cdv A outer s H E hr E3 => ⟨_, fun _ tk => (lss_cons (ls_if (lt_gt (le_callD d_best_count (hr.mono (by decide)) (by rfl) (la_cons (lv 0) (la_cons (lv 1) la_nil))) (lv 2))
    (lss_one (ls_raiseI TM (hr.mono (by decide)) tk rfl (by rfl) (lv 2)))
    lss_nil)
    (lss_cons (ls_set (i := 3) sc_all_best.nd rfl (.inl rfl) (le_callD d_running_sums (hr.mono (by decide)) (by rfl) (la_cons (lv 0) la_nil)))
    (lss_cons (ls_set (i := 4) sc_all_best.nd rfl (.inl rfl) (le_callD d_heights (hr.mono (by decide)) (by rfl) (la_cons (lv 0) (la_cons (lv 1) la_nil))))
    (lss_cons (ls_set (i := 5) sc_all_best.nd rfl (.inl rfl) (le_lstM la_nil))
    (lss_cons (ls_set (i := 6) sc_all_best.nd rfl (.inl rfl) (le_lstM (la_cons (le_tup (la_cons (le_len (by rfl) B.len (la_cons (lv 0) la_nil)) (la_cons (le_lstM la_nil) la_nil))) la_nil)))
    (lss_cons (ls_while (passes_of rfl) (lt_gt (le_len (by rfl) B.len (la_cons (lv 6) la_nil)) le_int)
    (lss_cons (ls_asg (le_pop (lv 6)) (lg_tup (n := 2) rfl (lgs_cons (lg_name (i := 7) sc_all_best.nd rfl (.inl rfl)) (lgs_cons (lg_name (i := 8) sc_all_best.nd rfl (.inl rfl)) lgs_nil))))
    (lss_one (ls_if (lt_eq hr (lv 7) le_int)
    (lss_one (ls_expr (le_append (lv 5) (la_cons (lv 8) la_nil))))
    (lss_cut (ls_if (lt_eq hr (le_ix (lv 4) (lv 7)) (le_ix (lv 4) (le_sub (lv 7) le_int)))
    (lss_one (ls_expr (le_append (lv 6) (la_cons (le_tup (la_cons (le_sub (lv 7) le_int) (la_cons (lv 8) la_nil))) la_nil))))
    lss_nil)
    (lss_one (ls_for (passes_of rfl) rfl (li_list (le_callD d_best_ends (hr.mono (by decide)) (by rfl) (la_cons (lv 3) (la_cons (lv 4) (la_cons (lv 1) (la_cons (lv 7) la_nil)))))) (lg_name (i := 9) sc_all_best.nd rfl (.inl rfl))
    (lss_cons (ls_set (i := 10) sc_all_best.nd rfl (.inl rfl) (le_sub (lv 7) (le_ix (lv 9) le_int)))
    (lss_one (ls_expr (le_append (lv 6) (la_cons (le_tup (la_cons (lv 10) (la_cons (le_addM (le_lst (la_cons (le_tup (la_cons (lv 10) (la_cons (le_ix (lv 9) le_int) la_nil))) la_nil)) (lv 8)) la_nil))) la_nil))))))))))))
    (lss_one (ls_ret (le_sortDM hr (by rfl) B.sorted (la_cons (lv 5) la_nil)))))))))), ?_⟩
  rintro ts st Q ⟨r, tb, m, rfl, hl0, htb, hk, nd, hm2, hE, q⟩
  refine ⟨r, tb, rfl, hl0, htb, hk, fun hb d hd => upX.mk (Sub.refl _) (hE (of_decide_eq_true hb) d hd), fun hb => ?_⟩
  have hm : ways r tb r.length ≤ m := by have := of_decide_eq_false hb; omega
  have q := q hm
  have hcap : (bst r tb r.length).length ≤ 1000000 := by
    have := ways_count (r := r) hk r.length
    omega
  refine ⟨r, rfl, hl0, r, tb, rfl, hl0, hk, sz (by decide), fun pt hpt => ?_⟩
  refine ⟨_, rfl, sz (by decide), fun a ha => ⟨sz' rfl, sz' rfl, fun po hpo => ?_⟩⟩
  have hpt' : pt ≠ po := fun e => by rw [← e] at hpo; unfold supd at hpo; split at hpo <;> simp at hpo
  have hapt : a ≠ pt := fun e => by rw [e, supd_same] at ha; cases ha
  have hapo : a ≠ po := fun e => by rw [e, supd_same] at hpo; cases hpo
  have hpo0 : st po = none := by
    rw [supd_ne hapo.symm, supd_ne hpt'.symm] at hpo
    exact hpo
  refine ⟨fun mm env st' => ∃ (TL : List (Addr × List Pc)) (SL : List Op) (x7 x8 x9 x10 : Option T), mm = mu tb SL ∧ env = [some (eIs r), some (eTb tb), some (.int m), some (eIs (rsums r)), some (eIs (hl r tb r.length)), some (.loc pt), some (.loc po), x7, x8, x9, x10] ∧ AB st st' po pt TL SL ∧ AN r tb r.length TL SL,
    ⟨_, [], [(r.length, a, [])], none, none, none, none, rfl, rfl, ?_, AN.start _ a⟩, ?_⟩
  · refine ⟨?_, ?_, hpt'.symm, ?_, fun x hx => (by cases hx), ?_⟩
    · rw [supd_same]; rw [List.length_map]; rfl
    · rw [supd_ne hpt', supd_ne hapt.symm, supd_same]; rfl
    · intro x hx
      rw [List.mem_singleton] at hx
      subst hx
      exact ⟨by rw [supd_ne hapo, supd_same]; rfl, hapo, hapt⟩
    · exact ((Sub.new hpt).trans (Sub.new ha)).trans (Sub.new hpo)
  rintro mm env st' ⟨TL, SL, x7, x8, x9, x10, rfl, rfl, hA, hN⟩
  have hlens := hN.lens hk
  refine ⟨_, hA.hpo, fun hb => ?_, fun hb => ?_⟩
  · -- one more end
    rcases List.eq_nil_or_concat SL with rfl | ⟨SL', ⟨e, ad, c⟩, rfl⟩
    · exact absurd (of_decide_eq_true hb) (by simp)
    have hpo' : st' po = some (.lst (SL'.map eS ++ [eS (e, ad, c)])) := by rw [hA.hpo, List.concat_eq_append, List.map_append]; rfl
    rw [List.concat_eq_append] at hA hN hlens ⊢
    rw [List.length_append, List.length_singleton] at hlens
    have hin : (e, ad, c) ∈ SL' ++ [(e, ad, c)] := List.mem_append_right _ (List.mem_singleton.mpr rfl)
    have hA1 := hA.setS hpo0 SL' fun x hx => hA.sl x (List.mem_append_left _ hx)
    have hc1 : (supd st' po (.lst (SL'.map eS))) ad = some (.lst (c.map ePc)) ∧ ad ≠ po ∧ ad ≠ pt := ⟨by rw [supd_ne (hA.sl _ hin).2.1]; exact (hA.sl _ hin).1, (hA.sl _ hin).2⟩
    have hcl : e + c.length ≤ r.length := hN.len _ hin
    refine ⟨⟨_, hpo'⟩, _, eS (e, ad, c), hpo', by rw [List.length_append]; simp, ?_⟩
    rw [List.dropLast_concat]
    refine ⟨rfl, _, _, .int _, .int _, fun he => ?_, fun he => ?_⟩
    · -- it is at the start: told
      have he : decide ((e : Int) = 0) = true := he
      have he := of_decide_eq_true he
      have e0 : e = 0 := by omega
      subst e0
      refine ⟨⟨_, hA1.hpt⟩, _, hA1.hpt, szl (by rw [List.length_map]; omega), ?_⟩
      refine ⟨mu tb SL', mu_tell, TL ++ [(ad, c)], SL', _, _, _, _, rfl, rfl, ?_, hN.tell⟩
      have := hA1.setT hpt (TL ++ [(ad, c)]) fun x hx => by
        rw [List.mem_append, List.mem_singleton] at hx
        rcases hx with hx | rfl
        · exact hA1.tl x hx
        · exact hc1
      rw [List.map_append] at this
      exact this
    · have he : decide ((e : Int) = 0) = false := he
      have he := of_decide_eq_false he
      obtain ⟨e, rfl⟩ : ∃ d, e = d + 1 := ⟨e - 1, by omega⟩
      generalize hst1 : supd st' po (.lst (SL'.map eS)) = st1 at hA1 hc1
      refine ⟨fun env st2 => env = [some (eIs r), some (eTb tb), some (.int m), some (eIs (rsums r)), some (eIs (hl r tb r.length)), some (.loc pt), some (.loc po), some (.int ((e + 1 : Nat) : Int)), some (.loc ad), x9, x10] ∧ AB st st2 po pt TL (SL' ++ if hgt r tb (e + 1) = hgt r tb e then [(e, ad, c)] else []) ∧ st2 ad = some (.lst (c.map ePc)), ?_, ?_⟩
      · refine ⟨_, _, rfl, build_ix (e + 1) rfl (by omega), _, _, rfl, build_ix e (by omega) (by omega), eq_ii ⟨fun hb => ?_, fun hb => ?_⟩⟩
        · have hb := of_decide_eq_true hb
          refine ⟨⟨_, hA1.hpo⟩, sz' rfl, _, hA1.hpo, szl (by rw [List.length_map]; omega), rfl, ?_, ?_⟩
          · rw [if_pos hb]
            have := hA1.setS hpo0 (SL' ++ [(e, ad, c)]) fun x hx => by
              rw [List.mem_append, List.mem_singleton] at hx
              rcases hx with hx | rfl
              · exact hA1.sl x hx
              · exact hc1
            rw [List.map_append] at this
            rw [show ((e + 1 : Nat) : Int) - 1 = (e : Int) by omega]
            exact this
          · rw [supd_ne hc1.2.1]; exact hc1.1
        · have hb := of_decide_eq_false hb
          refine ⟨rfl, ?_, hc1.1⟩
          rw [if_neg hb, List.append_nil]
          exact hA1
      · rintro env st2 ⟨rfl, hA2, hc2⟩
        have hPl : (if hgt r tb (e + 1) = hgt r tb e then [(e, ad, c)] else ([] : List Op)).length ≤ 1 := by split <;> simp
        refine ⟨r, tb, e + 1, rfl, by omega, htb, hk, _, rfl, fun j env st3 => ∃ (NL : List Op) (y9 y10 : Option T), env = [some (eIs r), some (eTb tb), some (.int m), some (eIs (rsums r)), some (eIs (hl r tb r.length)), some (.loc pt), some (.loc po), some (.int ((e + 1 : Nat) : Int)), some (.loc ad), y9, y10] ∧
          NL.map (fun x => (x.1, x.2.2)) = (moreOf r tb (e + 1) c).take j ∧ AB st st3 po pt TL (SL' ++ (if hgt r tb (e + 1) = hgt r tb e then [(e, ad, c)] else []) ++ NL) ∧ st3 ad = some (.lst (c.map ePc)), ⟨[], x9, x10, rfl, rfl, by rw [List.append_nil]; exact hA2, hc2⟩, fun _ _ _ _ _ => rfl, ?_, ?_⟩
        · rintro j y env st3 hy ⟨NL, y9, y10, rfl, hNL, hA3, hc3⟩
          obtain ⟨k, hkj, rfl⟩ := map_get hy
          obtain ⟨m1, m2, m3⟩ := bEnds_mem (List.mem_of_getElem? hkj)
          have h1 := fitE_le m2
          have hw : 1 ≤ k.width := hk k m1
          have hNl : NL.length ≤ tb.length := by
            have := congrArg List.length hNL
            rw [List.length_map, List.length_take] at this
            unfold moreOf at this
            rw [List.length_map] at this
            have h4 : (bEnds r tb (e + 1)).length ≤ tb.length := List.length_filter_le ..
            omega
          refine ⟨_, rfl, ⟨_, hA3.hpo⟩, _, rfl, sz' rfl, sz' rfl, ?_⟩
          have hce : e + c.length ≤ r.length := by omega
          refine ⟨_, _, rfl, hc3, sz (by rw [List.length_map]; simp; omega), fun p hp => ⟨sz' rfl, ?_⟩⟩
          have hpc : T.tup [.int (((e + 1 : Nat) : Int) - k.width), .str k.name] = ePc (((e + 1 - k.width.toNat : Nat) : Int), k.name) := by
            unfold ePc
            rw [show ((e + 1 : Nat) : Int) - k.width = ((e + 1 - k.width.toNat : Nat) : Int) by omega]
          rw [hpc]
          obtain ⟨hA4, hc4, n1, n2⟩ := hA3.new hp ((((e + 1 - k.width.toNat : Nat) : Int), k.name) :: c)
          have had : ad ≠ p := fun e => by rw [← e, hc3] at hp; cases hp
          refine ⟨_, hA4.hpo, szl (by rw [List.length_map, List.length_append, List.length_append]; omega), NL ++ [(e + 1 - k.width.toNat, p, (((e + 1 - k.width.toNat : Nat) : Int), k.name) :: c)], _, _, rfl, ?_, ?_, ?_⟩
          · rw [List.map_append, hNL, List.take_add_one]
            congr 1
            unfold moreOf
            rw [List.getElem?_map, hkj]
            rfl
          · have := hA4.setS hpo0 (SL' ++ (if hgt r tb (e + 1) = hgt r tb e then [(e, ad, c)] else []) ++ (NL ++ [(e + 1 - k.width.toNat, p, (((e + 1 - k.width.toNat : Nat) : Int), k.name) :: c)])) fun x hx => by
              rw [← List.append_assoc, List.mem_append, List.mem_singleton] at hx
              rcases hx with hx | rfl
              · exact hA4.sl x hx
              · exact ⟨hc4, n1, n2⟩
            rw [← List.append_assoc, List.map_append] at this
            rw [show ((e + 1 : Nat) : Int) - k.width = ((e + 1 - k.width.toNat : Nat) : Int) by omega, ← List.append_assoc _ NL]
            exact this
          · rw [supd_ne hc1.2.1, supd_ne had]; exact hc3
        · rintro env st3 ⟨NL, y9, y10, rfl, hNL, hA3, hc3⟩
          have e1 : (moreOf r tb (e + 1) c).take ((bEnds r tb (e + 1)).map eK).length = moreOf r tb (e + 1) c := by
            refine List.take_of_length_le ?_
            unfold moreOf
            rw [List.length_map, List.length_map]
            exact Nat.le_refl _
          rw [e1] at hNL
          exact ⟨_, mu_open hk hNL, TL, _, _, _, _, _, rfl, rfl, hA3, hN.open hk hNL⟩
  · -- none left
    have hb := of_decide_eq_false hb
    have : SL = [] := by
      cases SL with
      | nil => rfl
      | cons x l => simp at hb
    subst this
    refine ⟨_, _, hA.hpt, dvs_cuts fun x hx => (hA.tl x hx).1, ?_, ?_, fun p hp => ?_⟩
    · exact PySem.W.AllAlike.of fun a b => alike_dC a.2 b.2
    · exact PySem.W.Sortable.others fun b => ⟨(nomatch ·), fun xs => (nomatch ·)⟩
    · refine upQ.mk (Sub.refl _) ?_
      refine q (TL.mergeSort (dataLe false fun x => dC x.2)) _ p ?_ (hA.sub.trans (Sub.new hp)) (by rw [supd_same, sort_cuts]) fun x hx => ?_
      · rw [sort_cuts_snd]
        exact told_of hN.done (bst_nodup hk nd _ (Nat.le_refl _))
      · have hx' := hA.tl x (List.mem_mergeSort.mp hx)
        have : x.1 ≠ p := fun e => by rw [← e, hx'.1] at hp; cases hp
        exact ⟨by rw [supd_ne this]; exact hx'.1, this⟩
end
end Sv

namespace Sv
open PySem PySem.Spec PyProof.Rows L2 L3
theorem GoodTb.ok {tb : List Knd} (h : GoodTb tb) : ∀ k ∈ tb, okK k := fun k hk => (h.kinds k hk).w1
section
variable {P : Program} {w : World} {K : PySem.W.Frag} {mg : Str → Option Value} {base : Heap}
/-! ### TooMany.__init__ -/
theorem sc_TooMany : FnScope ["self", "most"] ["self", "most"] (defScope s_TooMany_init) := ⟨rfl, rfl, rfl, by decide +kernel, rfl, by decide +kernel, by decide +kernel⟩
theorem i_TooMany {fI B : Addr} {fd : FuncData} (F : Fun K "__init__" "TooMany.__init__" s_TooMany_init fI fd) (T : BaseC K mg "CutError" B) : FnOk P w K mg base CX0 1 fI fd ["self", "most"] (spI K "most") := by
  refine F.ok sc_TooMany (fun vs H Q E h => ?_) fun cdv A outer s H vs Q E hr h => ⟨_, pss_cons (ps_expr (pe_cinit T rfl (pa_cons (pv 0) (pa_cons pe_str pa_nil)))) (pss_one (ps_ost (pv 0) (pv 1))), ?_⟩
  · obtain ⟨a, C, v, rfl, _⟩ := h
    rfl
  · obtain ⟨a, C, v, rfl, O, no, ha, q⟩ := h
    exact ⟨_, rfl, a, C, _, rfl, by decide, O, ha, _, rfl, _, rfl, a, C, rfl, O, no, .inl ⟨ha, q⟩⟩
/-! ### _law_is_whole, called in a suite -/
theorem h_q_is_whole (t : Tx K mg "_law_is_whole" "_law_is_whole" s_q_is_whole ["_law_one"]) (B : Bi mg) : Dh P w K mg base 1 "_law_is_whole" ["_law_one"] sp_q_is_whole := by
  refine dmkH t sc_q_is_whole (by rintro _ _ _ _ ⟨_, rfl, _⟩; rfl) fun f cdv A outer s H E p hr => ⟨_, fun _ => (lss_one (ls_ret (le_and (le_isi_int (by rfl) B.isinstance (by rfl) B.int (lv 0)) (le_one (le_not (le_isi_bool (by rfl) B.isinstance (by rfl) B.bool (lv 0))))))), ?_⟩
  rintro ts st Q E3 ⟨i, rfl, q⟩
  exact ⟨_, _, rfl, k_ii, fun _ => ⟨_, _, rfl, k_ib, upQ.mk (Sub.refl _) q⟩, (nomatch ·)⟩
/-! ### _law_asked -/
/-- what the clauses ask of the classes -/
structure Cls33 (K : PySem.W.Frag) (mg : Str → Option Value) (CE TM TL TB : Addr) : Prop where
  gCE : mg "CutError" = some (.ref CE)
  gTM : mg "TooMany" = some (.ref TM)
  gTL : mg "TooLong" = some (.ref TL)
  gTB : mg "TooBig" = some (.ref TB)
  gVE : mg "ValueError" = none
  ex : PySem.W.exmOne K (.ref TM) (.ref CE) = some true
  tm : PySem.W.kitOne K (.ref TM) (.ref TM) = some true
  tl : PySem.W.kitOne K (.ref TM) (.ref TL) = some false
  tb : PySem.W.kitOne K (.ref TM) (.ref TB) = some false
  ve : PySem.W.kitOne K (.ref TM) (.type "ValueError") = some true
  c : ExcC K TM
  f : XfC K TM
  no : PySem.W.findIn K (.ref TM) "most" = some none
abbrev sp_q_asked : Sp3 := fun ts st Q _ => ∃ (r : List Int) (tb : List Knd) (m : Int), ts = [eIs r, eTb tb, .int m] ∧ r.length ≤ 1000000 ∧ tb.length ≤ 1000000 ∧ (∀ k ∈ tb, okK k) ∧ (tb.map (·.name)).Nodup ∧ m ≤ 1000000 ∧
  Q (if m < ways r tb r.length then .tup [.str "many", .int m] else .tup [.str "told", .int (ways r tb r.length)]) st
abbrev N_q_asked : List Str := ["_law_roll_here", "_law_table_here", "_law_most", "e"]
theorem sc_q_asked : FnScope N_q_asked ["_law_roll_here", "_law_table_here", "_law_most"] (defScope s_q_asked) := ⟨rfl, rfl, rfl, by decide +kernel, rfl, by decide +kernel, by decide +kernel⟩

theorem d_q_asked {CE TM TL TB : Addr} (t : Tx K mg "_law_asked" "_law_asked" s_q_asked ["_law_roll_here", "_law_table_here", "_law_most"]) (B : Bi mg) (C : Cls33 K mg CE TM TL TB) (d_all_best : Dx P w K mg base 5 "all_best" ["roll", "table", "most"] (sp_all_bestX TM)) (h_q_is_whole : Dh P w K mg base 1 "_law_is_whole" ["_law_one"] sp_q_is_whole) :
    Df P w K mg base 6 "_law_asked" ["_law_roll_here", "_law_table_here", "_law_most"] sp_q_asked := by
  refine dmk t sc_q_asked (by rintro _ _ _ _ ⟨_, _, _, rfl, _⟩; rfl) fun f cdv A outer s H E hr => ⟨_, fun _ =>
    (lss_one (ls_tryAs K (i := 3) rfl rfl sc_q_asked.nd rfl rfl ⟨rfl, by decide, .inl C.gCE⟩ takes0
      (fun pn xe gb E po tk => lss_one (ls_ret (le_tup (la_cons le_str (la_cons (le_len (by rfl) B.len (la_cons (le_callX d_all_best (hr.mono (by decide)) tk (by rfl) (la_cons (lv 0) (la_cons (lv 1) (la_cons (lv 2) la_nil)))) la_nil)) la_nil)))))
      (fun a oe cls d pn hz hf =>
        lss_cons (ls_if (lt_w (lw_or (lt_not (lt_val (le_isX K C.gTM hz hf (by rfl) B.isinstance (by rfl) (lv 3)))) (lw_or (lt_val (le_isX K C.gTL hz hf (by rfl) B.isinstance (by rfl) (lv 3))) (lw_or1 (lt_val (le_isX K C.gTB hz hf (by rfl) B.isinstance (by rfl) (lv 3)))))))
          (lss_one (ls_ret (le_tup (la_cons le_str (la_cons le_int la_nil))))) lss_nil)
        (lss_cons (ls_if (lt_w (lw_or (lt_not (lt_val (le_isXB K (n := "ValueError") C.gVE (by decide +kernel) hz hf (by rfl) B.isinstance (by rfl) (lv 3)))) (lw_or1 (lt_not (lt_val (le_callH h_q_is_whole hz hf (hr.mono (by decide)) (by rfl) (la_cons (le_xf K hz hf (lv 3)) la_nil)))))))
          (lss_one (ls_ret (le_tup (la_cons le_str (la_cons le_int la_nil))))) lss_nil)
        (lss_one (ls_ret (le_tup (la_cons le_str (la_cons (le_xf K hz hf (lv 3)) la_nil))))))))), ?_⟩
  rintro ts st Q E3 ⟨r, tb, m, rfl, hl0, htb, hk, nd, hm, q⟩
  refine ⟨r, tb, m, rfl, hl0, htb, hk, nd, hm, fun hlt d hd => ?_, fun hle L st' p hT hs hp hL => ?_⟩
  · rw [if_pos hlt] at q
    have hx : ∀ dd, some d = some dd → ∃ fs, (supd st d (.xd [("most", .int m)])) dd = some (.xd fs) := fun dd e => by cases e; exact ⟨_, supd_same⟩
    have hlk : List.lookup ("most" : Str) [(("most" : Str), T.int m)] = some (T.int m) := by simp [List.lookup]
    refine ⟨true, C.ex, fun _ a ha => ?_, (nomatch ·)⟩
    refine ⟨TM, true, rfl, rfl, C.c, hx, C.tm, (nomatch ·), fun _ => ⟨TM, false, rfl, rfl, C.c, hx, C.tl, (nomatch ·), fun _ => ⟨TM, false, rfl, rfl, C.c, hx, C.tb, (nomatch ·), fun _ => ?_⟩⟩⟩
    refine ⟨TM, true, rfl, rfl, C.c, hx, C.ve, (nomatch ·), fun _ => ⟨TM, d, _, .int m, rfl, rfl, C.f, C.no, rfl, supd_same, hlk, m, rfl, (nomatch ·), fun _ => ?_⟩⟩
    exact ⟨TM, d, _, .int m, rfl, rfl, C.f, C.no, rfl, supd_same, hlk, sz' rfl, upQ.mk (Sub.new hd) q⟩
  · rw [if_neg (by omega)] at q
    have hlen : (((L.map eL).length : Nat) : Int) = ways r tb r.length := by
      rw [List.length_map, ways_count (r := r) hk, ← hT.perm.length_eq, List.length_map]
    refine ⟨_, hp, sz' rfl, upQ.mk hs ?_⟩
    rw [hlen]
    exact q
/-! ### the law -/
abbrev sp_law : Sp3 := fun ts st Q _ => ∃ sc : List Int, ts = [eScr sc] ∧ ∀ st', Q (.bl true) st'
abbrev N_law : List Str := ["_law_script", "_law_roll_here", "_law_table_here", "_law_count", "_law_some", "_law_most", "_law_turn"]
theorem sc_law : FnScope N_law ["_law_script"] (defScope s_law) := ⟨rfl, rfl, rfl, by decide +kernel, rfl, by decide +kernel, by decide +kernel⟩

theorem d_law {f0 : Addr} {fd0 : FuncData} (t : Fun K "law" "law" s_law f0 fd0) (B : Bi mg) (d_q_row : Df P w K mg base 2 "_law_row" ["_law_script", "_law_place", "_law_sizes"] sp_q_row)
    (d_q_drawn : Df P w K mg base 4 "_law_drawn" ["_law_script", "_law_place", "_law_most", "_law_kinds"] sp_q_drawn) (d_q_best_count : Df P w K mg base 3 "_law_best_count" ["_law_roll_here", "_law_table_here"] sp_q_best_count) (d_q_asked : Df P w K mg base 6 "_law_asked" ["_law_roll_here", "_law_table_here", "_law_most"] sp_q_asked) :
    FnOk P w K mg base CX0 7 f0 fd0 ["_law_script"] (lift3 K sp_law) := by
  refine ok3 t sc_law (by rintro _ _ _ _ ⟨_, rfl, _⟩; rfl) fun cdv A outer s H E hr => ⟨_, fun _ => (lss_cons (ls_asg (le_callD d_q_drawn (hr.mono (by decide)) (by rfl) (la_cons (lv 0) (la_cons le_int (la_cons le_int (la_cons le_int la_nil))))) (lg_tup (n := 2) rfl (lgs_cons (lg_name (i := 1) sc_law.nd rfl (.inl rfl)) (lgs_cons (lg_name (i := 2) sc_law.nd rfl (.inl rfl)) lgs_nil))))
    (lss_cons (ls_set (i := 3) sc_law.nd rfl (.inl rfl) (le_callD d_q_best_count (hr.mono (by decide)) (by rfl) (la_cons (lv 1) (la_cons (lv 2) la_nil))))
    (lss_cons (ls_set (i := 4) sc_law.nd rfl (.inl rfl) (le_callD d_q_row (hr.mono (by decide)) (by rfl) (la_cons (lv 0) (la_cons le_int (la_cons (le_lst (la_cons le_int (la_cons le_int la_nil))) la_nil)))))
    (lss_cons (ls_set (i := 5) sc_law.nd rfl (.inl rfl) (le_ix (le_lst (la_cons (le_sub (lv 3) le_int) (la_cons (le_mod (le_ix (lv 4) le_int) (lv 3)) (la_cons le_int la_nil)))) (le_ix (lv 4) le_int)))
    (lss_cons (ls_set (i := 5) sc_law.nd rfl (.inl rfl) (le_min2 rfl (by rfl) B.min (la_cons (lv 5) (la_cons le_int la_nil))))
    (lss_cons (ls_for PassesOwn.never rfl (li_range1 (by rfl) B.range (la_cons le_int la_nil)) (lg_name (i := 6) sc_law.nd rfl (.inl rfl))
    (lss_cons (ls_if (lt_ne hr (le_callD d_q_asked (hr.mono (by decide)) (by rfl) (la_cons (le_list (by rfl) B.list (la_cons (lv 1) la_nil)) (la_cons (le_list (by rfl) B.list (la_cons (lv 2) la_nil)) (la_cons (lv 5) la_nil)))) (le_tup (la_cons le_str (la_cons (lv 5) la_nil))))
    (lss_one (ls_ret le_bl))
    lss_nil)
    (lss_one (ls_if (lt_w (lw_and (lt_le (lv 3) le_int) (lw_and1 (lt_ne hr (le_callD d_q_asked (hr.mono (by decide)) (by rfl) (la_cons (le_list (by rfl) B.list (la_cons (lv 1) la_nil)) (la_cons (le_list (by rfl) B.list (la_cons (lv 2) la_nil)) (la_cons (lv 3) la_nil)))) (le_tup (la_cons le_str (la_cons (lv 3) la_nil)))))))
    (lss_one (ls_ret le_bl))
    lss_nil))))
    (lss_one (ls_ret le_bl)))))))), ?_⟩
  rintro ts st Q E3 ⟨sc, rfl, q⟩
  refine ⟨sc, 0, 30, 8, rfl, by decide, by decide, by omega, by decide, fun r tb hr ht htl => ?_⟩
  have hok := ht.ok
  have hl0 : r.length ≤ 1000000 := by have := hr.1; omega
  have htb : tb.length ≤ 1000000 := by omega
  have hcnt : 1 ≤ ways r tb r.length := by
    have h1 := ways_count (r := r) hok r.length
    have h2 := bst_ne (r := r) hok r.length
    omega
  refine ⟨rfl, r, tb, rfl, hl0, hok, sz' rfl, sc, 2, [3, 200], rfl, by decide, by decide, by decide, ?_, fun xs hx => ?_⟩
  · intro z hz
    simp only [List.mem_cons, List.mem_nil_iff, or_false] at hz
    rcases hz with rfl | rfl <;> decide
  obtain ⟨x0, hx0, a00, a01⟩ := hx.ix 0 rfl rfl
  obtain ⟨x1, hx1, a10, a11⟩ := hx.ix 1 rfl rfl
  have hm0 := Int.emod_nonneg x1 (b := ways r tb r.length) (by omega)
  have hm1 := Int.emod_lt_of_pos x1 (b := ways r tb r.length) (by omega)
  obtain ⟨m, hm, mm⟩ := atI_anyI (l := [ways r tb r.length - 1, x1 % ways r tb r.length, 0]) a00 a01
  have hmr : 0 ≤ m ∧ m < ways r tb r.length := by
    simp only [List.mem_cons, List.mem_nil_iff, or_false] at mm
    rcases mm with rfl | rfl | rfl <;> omega
  refine ⟨_, _, rfl, hx1, by omega, sz' rfl, _, _, rfl, hx0, _, _, rfl, hm, ?_⟩
  have b0 : 0 ≤ (if (200 : Int) < m then (200 : Int) else m) := by split <;> omega
  have b1 : (if (200 : Int) < m then (200 : Int) else m) < ways r tb r.length := by split <;> omega
  have b2 : (if (200 : Int) < m then (200 : Int) else m) ≤ 200 := by split <;> omega
  refine ⟨⟨by decide, by decide⟩, fun i env st' => ∃ x, env = [some (eScr sc), some (eIs r), some (eTb tb), some (.int (ways r tb r.length)), some (eIs xs), some (.int (if (200 : Int) < m then (200 : Int) else m)), x] ∧ st' = st, ⟨none, rfl, rfl⟩, fun _ _ _ _ _ => trivial, ?_, ?_⟩
  · rintro i x env st' hxi ⟨y, rfl, rfl⟩
    obtain ⟨hi, rfl⟩ := rgI_at hxi
    have hP : ∀ (s : Str) (z : Int), DV st' 60 (.tup [.str s, .int z]) (.tuple [.str s, .int z]) := fun s z => .tup (.cons (.str _) (.cons (.int _) .nil))
    refine ⟨_, rfl, _, rfl, r, tb, _, rfl, hl0, htb, hok, ht.names, by omega, ?_⟩
    rw [if_pos b1]
    refine ⟨sz' rfl, ne_self (hP _ _) (hP _ _) ⟨(nomatch ·), fun _ => ⟨fun hb => ?_, fun hb => ⟨(nomatch ·), fun _ => ⟨_, rfl, rfl⟩⟩⟩⟩⟩
    have hb := of_decide_eq_true hb
    refine ⟨_, rfl, _, rfl, r, tb, _, rfl, hl0, htb, hok, ht.names, by omega, ?_⟩
    rw [if_neg (show ¬ ways r tb r.length < ways r tb r.length by omega)]
    exact ⟨sz' rfl, ne_self (hP _ _) (hP _ _) ⟨(nomatch ·), fun _ => ⟨_, rfl, rfl⟩⟩⟩
  · rintro env st' ⟨y, rfl, rfl⟩
    exact upQ.mk (Sub.refl _) (q _)
/-! ### what the end must show of the classes -/
theorem exi_of {h : Heap} (X : K.In h) (G : h.Ns mainGlobals mg) {CE TM fI N : Addr} {nm q : Str} {bs sub : List Value} {sn : List Str} {ab : Bool} {col : Option Bool} {dd od an : Option Addr} {m0 m1 m2 m3 m5 : Option Value} {oc kV dc pm cd ct : Value} {osl : Array (Option Value)}
    (aCE : PySem.W.nsIn K mainGlobals "CutError" = some (some (.ref CE))) (aTM : PySem.W.nsIn K mainGlobals "TooMany" = some (some (.ref TM)))
    (xL : K.lookup TM = some (excClassObj nm q TM N bs [.ref CE, .type "ValueError", .type "Exception", .type "BaseException", .type "object"] true sn sub ab col dd m0 m1 m2 m3 m5 "ValueError.__new__"))
    (sa : PySem.W.findIn K (.ref TM) "__setattr__" = some (some (.builtin "object.__setattr__"))) (eC : PySem.W.subIn K (.ref TM) (.type "BaseException") = some true) (tC : PySem.W.typeIn K (.ref TM) = some (.type "type")) (kC : PySem.W.keepIn K (.ref TM) = true)
    (no : PySem.W.findIn K (.ref TM) "most" = some none) (aI : PySem.W.findIn K (.ref TM) "__init__" = some (some (.ref fI))) (tI : PySem.W.typeIn K (.ref fI) = some (.type "function"))
    (lI : K.lookup fI = some ⟨oc, od, .func (PySem.W.fnOf "__init__" "TooMany.__init__" (defArgs s_TooMany_init) (defBody s_TooMany_init) (defScope s_TooMany_init) .none kV dc pm an cd ct), osl⟩) (cI : PySem.W.codeIn K cd "TooMany.__init__" = true) (kI : PySem.W.keepIn K (.ref fI) = true)
    (ga : PySem.W.specialIn K (.ref CE) "__getattribute__" = some (some (.builtin "type.__getattribute__"))) (rd : PySem.W.readsIn K CE (.type "type") = true) (fdc : PySem.W.findCls K (.ref CE) (.type "type") "__init__" = some (.val (.builtin "ValueError.__init__"))) :
    ExI P w K mg base "TooMany" "most" TM :=
  { o := ⟨⟨nm, q, N, bs, _, sn, sub, ab, col, dd, m0, m1, m2, m3, m5, xL, rfl⟩, sa, eC, tC, kC⟩
    g := PySem.W.mg_of X G aTM
    no := no
    fn := ⟨fI, _, _, aI, tI, i_TooMany (fun_mk lI cI kI) ⟨PySem.W.mg_of X G aCE, ga, rd, fdc⟩, (fun_mk (st := s_TooMany_init) lI cI kI).binds fun _ _ _ _ _ _ us hl => match us, hl with | [_, _], _ => rfl⟩ }
theorem cls_of {h : Heap} (X : K.In h) (G : h.Ns mainGlobals mg) {CE TM TL TB : Addr} (aCE : PySem.W.nsIn K mainGlobals "CutError" = some (some (.ref CE))) (aTM : PySem.W.nsIn K mainGlobals "TooMany" = some (some (.ref TM)))
    (aTL : PySem.W.nsIn K mainGlobals "TooLong" = some (some (.ref TL))) (aTB : PySem.W.nsIn K mainGlobals "TooBig" = some (some (.ref TB))) (zV : PySem.W.nsIn K mainGlobals "ValueError" = some none)
    (eCE : PySem.W.subIn K (.ref CE) (.type "BaseException") = some true) (dCE : PySem.W.hasDictIn K CE = true) (tCE : PySem.W.typeIn K (.ref CE) = some (.type "type")) (sTM : PySem.W.subIn K (.ref TM) (.ref CE) = some true) (tm : PySem.W.kitOne K (.ref TM) (.ref TM) = some true) (tl : PySem.W.kitOne K (.ref TM) (.ref TL) = some false) (tb : PySem.W.kitOne K (.ref TM) (.ref TB) = some false)
    (ve : PySem.W.kitOne K (.ref TM) (.type "ValueError") = some true) (hg : PySem.W.findIn K (.ref TM) "__getattribute__" = some (some (.builtin "BaseException.__getattribute__"))) (hk : PySem.W.findIn K (.ref TM) "__getattr__" = some none) (hs : PySem.W.subIn K (.ref TM) (.type "BaseException") = some true)
    (hd : PySem.W.hasDictIn K TM = true) (ha : PySem.W.findIn K (.ref TM) "__class__" = some (some (.builtin "object.__class__"))) (hn : PySem.W.specialIn K (.builtin "object.__class__") "__get__" = some (some (.builtin "getset_descriptor.__get__")))
    (ht : PySem.W.takesIn K (.builtin "object.__class__") = some true) (hm : PySem.W.mroIn K TM (.type "object") = some true) (no : PySem.W.findIn K (.ref TM) "most" = some none) : Cls33 K mg CE TM TL TB :=
  ⟨PySem.W.mg_of X G aCE, PySem.W.mg_of X G aTM, PySem.W.mg_of X G aTL, PySem.W.mg_of X G aTB, PySem.W.mg_none_of X G zV, PySem.W.exm_ref eCE dCE tCE sTM, tm, tl, tb, ve, ⟨hg, hk, hs, hd, ha, hn, ht, hm⟩, ⟨hg, hk, hs, hd⟩, no⟩
end
end Sv

namespace Sv
section
open PySem PySem.Spec PyProof.Rows L2 L3
theorem all_mk {l : PySem.W.OpenLaw} {w : World} {K : PySem.W.Frag} {h : Heap} {mg : Str → Option Value} {fa fL f0 f1 f2 f3 f4 f5 f6 f7 f8 f9 f10 f11 f12 f13 f14 f15 f16 f17 f18 f19 f20 : Addr} (X : K.In h) (G : h.Ns mainGlobals mg) (hfa : mg "law" = some (.ref fa))
    {od0 an0 : Option Addr} {sl0 : Array (Option Value)} {oc0 kV0 dc0 pm0 cd0 ct0 : Value} {od1 an1 : Option Addr} {sl1 : Array (Option Value)} {oc1 kV1 dc1 pm1 cd1 ct1 : Value} {od2 an2 : Option Addr} {sl2 : Array (Option Value)} {oc2 kV2 dc2 pm2 cd2 ct2 : Value} {od3 an3 : Option Addr} {sl3 : Array (Option Value)} {oc3 kV3 dc3 pm3 cd3 ct3 : Value} {od4 an4 : Option Addr} {sl4 : Array (Option Value)} {oc4 kV4 dc4 pm4 cd4 ct4 : Value} {od5 an5 : Option Addr} {sl5 : Array (Option Value)} {oc5 kV5 dc5 pm5 cd5 ct5 : Value} {od6 an6 : Option Addr} {sl6 : Array (Option Value)} {oc6 kV6 dc6 pm6 cd6 ct6 : Value} {od7 an7 : Option Addr} {sl7 : Array (Option Value)} {oc7 kV7 dc7 pm7 cd7 ct7 : Value} {od8 an8 : Option Addr} {sl8 : Array (Option Value)} {oc8 kV8 dc8 pm8 cd8 ct8 : Value} {od9 an9 : Option Addr} {sl9 : Array (Option Value)} {oc9 kV9 dc9 pm9 cd9 ct9 : Value} {od10 an10 : Option Addr} {sl10 : Array (Option Value)} {oc10 kV10 dc10 pm10 cd10 ct10 : Value} {od11 an11 : Option Addr} {sl11 : Array (Option Value)} {oc11 kV11 dc11 pm11 cd11 ct11 : Value} {od12 an12 : Option Addr} {sl12 : Array (Option Value)} {oc12 kV12 dc12 pm12 cd12 ct12 : Value} {od13 an13 : Option Addr} {sl13 : Array (Option Value)} {oc13 kV13 dc13 pm13 cd13 ct13 : Value} {od14 an14 : Option Addr} {sl14 : Array (Option Value)} {oc14 kV14 dc14 pm14 cd14 ct14 : Value} {od15 an15 : Option Addr} {sl15 : Array (Option Value)} {oc15 kV15 dc15 pm15 cd15 ct15 : Value} {od16 an16 : Option Addr} {sl16 : Array (Option Value)} {oc16 kV16 dc16 pm16 cd16 ct16 : Value} {od17 an17 : Option Addr} {sl17 : Array (Option Value)} {oc17 kV17 dc17 pm17 cd17 ct17 : Value} {od18 an18 : Option Addr} {sl18 : Array (Option Value)} {oc18 kV18 dc18 pm18 cd18 ct18 : Value} {od19 an19 : Option Addr} {sl19 : Array (Option Value)} {oc19 kV19 dc19 pm19 cd19 ct19 : Value} {od20 an20 : Option Addr} {sl20 : Array (Option Value)} {oc20 kV20 dc20 pm20 cd20 ct20 : Value} {odL anL : Option Addr} {slL : Array (Option Value)} {ocL kVL dcL pmL cdL ctL : Value}
    (a0 : PySem.W.nsIn K mainGlobals "_law_cell" = some (some (.ref f0))) (l0 : K.lookup f0 = some ⟨oc0, od0, .func (PySem.W.fnOf "_law_cell" "_law_cell" (defArgs s_q_cell) (defBody s_q_cell) (defScope s_q_cell) .none kV0 dc0 pm0 an0 cd0 ct0), sl0⟩) (c0 : PySem.W.codeIn K cd0 "_law_cell" = true) (k0 : PySem.W.keepIn K (.ref f0) = true)
    (a1 : PySem.W.nsIn K mainGlobals "_law_mix" = some (some (.ref f1))) (l1 : K.lookup f1 = some ⟨oc1, od1, .func (PySem.W.fnOf "_law_mix" "_law_mix" (defArgs s_q_mix) (defBody s_q_mix) (defScope s_q_mix) .none kV1 dc1 pm1 an1 cd1 ct1), sl1⟩) (c1 : PySem.W.codeIn K cd1 "_law_mix" = true) (k1 : PySem.W.keepIn K (.ref f1) = true)
    (a2 : PySem.W.nsIn K mainGlobals "_law_row" = some (some (.ref f2))) (l2 : K.lookup f2 = some ⟨oc2, od2, .func (PySem.W.fnOf "_law_row" "_law_row" (defArgs s_q_row) (defBody s_q_row) (defScope s_q_row) .none kV2 dc2 pm2 an2 cd2 ct2), sl2⟩) (c2 : PySem.W.codeIn K cd2 "_law_row" = true) (k2 : PySem.W.keepIn K (.ref f2) = true)
    (a3 : PySem.W.nsIn K mainGlobals "_law_flaw" = some (some (.ref f3))) (l3 : K.lookup f3 = some ⟨oc3, od3, .func (PySem.W.fnOf "_law_flaw" "_law_flaw" (defArgs s_q_flaw) (defBody s_q_flaw) (defScope s_q_flaw) .none kV3 dc3 pm3 an3 cd3 ct3), sl3⟩) (c3 : PySem.W.codeIn K cd3 "_law_flaw" = true) (k3 : PySem.W.keepIn K (.ref f3) = true)
    (a4 : PySem.W.nsIn K mainGlobals "_law_roll" = some (some (.ref f4))) (l4 : K.lookup f4 = some ⟨oc4, od4, .func (PySem.W.fnOf "_law_roll" "_law_roll" (defArgs s_q_roll) (defBody s_q_roll) (defScope s_q_roll) .none kV4 dc4 pm4 an4 cd4 ct4), sl4⟩) (c4 : PySem.W.codeIn K cd4 "_law_roll" = true) (k4 : PySem.W.keepIn K (.ref f4) = true)
    (a5 : PySem.W.nsIn K mainGlobals "_law_table" = some (some (.ref f5))) (l5 : K.lookup f5 = some ⟨oc5, od5, .func (PySem.W.fnOf "_law_table" "_law_table" (defArgs s_q_table) (defBody s_q_table) (defScope s_q_table) .none kV5 dc5 pm5 an5 cd5 ct5), sl5⟩) (c5 : PySem.W.codeIn K cd5 "_law_table" = true) (k5 : PySem.W.keepIn K (.ref f5) = true)
    (a6 : PySem.W.nsIn K mainGlobals "running_sums" = some (some (.ref f6))) (l6 : K.lookup f6 = some ⟨oc6, od6, .func (PySem.W.fnOf "running_sums" "running_sums" (defArgs s_running_sums) (defBody s_running_sums) (defScope s_running_sums) .none kV6 dc6 pm6 an6 cd6 ct6), sl6⟩) (c6 : PySem.W.codeIn K cd6 "running_sums" = true) (k6 : PySem.W.keepIn K (.ref f6) = true)
    (a7 : PySem.W.nsIn K mainGlobals "ends_well" = some (some (.ref f7))) (l7 : K.lookup f7 = some ⟨oc7, od7, .func (PySem.W.fnOf "ends_well" "ends_well" (defArgs s_ends_well) (defBody s_ends_well) (defScope s_ends_well) .none kV7 dc7 pm7 an7 cd7 ct7), sl7⟩) (c7 : PySem.W.codeIn K cd7 "ends_well" = true) (k7 : PySem.W.keepIn K (.ref f7) = true)
    (a8 : PySem.W.nsIn K mainGlobals "heights" = some (some (.ref f8))) (l8 : K.lookup f8 = some ⟨oc8, od8, .func (PySem.W.fnOf "heights" "heights" (defArgs s_heights) (defBody s_heights) (defScope s_heights) .none kV8 dc8 pm8 an8 cd8 ct8), sl8⟩) (c8 : PySem.W.codeIn K cd8 "heights" = true) (k8 : PySem.W.keepIn K (.ref f8) = true)
    (a9 : PySem.W.nsIn K mainGlobals "_law_drawn" = some (some (.ref f9))) (l9 : K.lookup f9 = some ⟨oc9, od9, .func (PySem.W.fnOf "_law_drawn" "_law_drawn" (defArgs s_q_drawn) (defBody s_q_drawn) (defScope s_q_drawn) .none kV9 dc9 pm9 an9 cd9 ct9), sl9⟩) (c9 : PySem.W.codeIn K cd9 "_law_drawn" = true) (k9 : PySem.W.keepIn K (.ref f9) = true)
    (a10 : PySem.W.nsIn K mainGlobals "_law_sums" = some (some (.ref f10))) (l10 : K.lookup f10 = some ⟨oc10, od10, .func (PySem.W.fnOf "_law_sums" "_law_sums" (defArgs s_q_sums) (defBody s_q_sums) (defScope s_q_sums) .none kV10 dc10 pm10 an10 cd10 ct10), sl10⟩) (c10 : PySem.W.codeIn K cd10 "_law_sums" = true) (k10 : PySem.W.keepIn K (.ref f10) = true)
    (a11 : PySem.W.nsIn K mainGlobals "_law_good" = some (some (.ref f11))) (l11 : K.lookup f11 = some ⟨oc11, od11, .func (PySem.W.fnOf "_law_good" "_law_good" (defArgs s_q_good) (defBody s_q_good) (defScope s_q_good) .none kV11 dc11 pm11 an11 cd11 ct11), sl11⟩) (c11 : PySem.W.codeIn K cd11 "_law_good" = true) (k11 : PySem.W.keepIn K (.ref f11) = true)
    (a12 : PySem.W.nsIn K mainGlobals "_law_heights" = some (some (.ref f12))) (l12 : K.lookup f12 = some ⟨oc12, od12, .func (PySem.W.fnOf "_law_heights" "_law_heights" (defArgs s_q_heights) (defBody s_q_heights) (defScope s_q_heights) .none kV12 dc12 pm12 an12 cd12 ct12), sl12⟩) (c12 : PySem.W.codeIn K cd12 "_law_heights" = true) (k12 : PySem.W.keepIn K (.ref f12) = true)
    (a13 : PySem.W.nsIn K mainGlobals "_law_is_whole" = some (some (.ref f13))) (l13 : K.lookup f13 = some ⟨oc13, od13, .func (PySem.W.fnOf "_law_is_whole" "_law_is_whole" (defArgs s_q_is_whole) (defBody s_q_is_whole) (defScope s_q_is_whole) .none kV13 dc13 pm13 an13 cd13 ct13), sl13⟩) (c13 : PySem.W.codeIn K cd13 "_law_is_whole" = true) (k13 : PySem.W.keepIn K (.ref f13) = true)
    (a14 : PySem.W.nsIn K mainGlobals "best_ends" = some (some (.ref f14))) (l14 : K.lookup f14 = some ⟨oc14, od14, .func (PySem.W.fnOf "best_ends" "best_ends" (defArgs s_best_ends) (defBody s_best_ends) (defScope s_best_ends) .none kV14 dc14 pm14 an14 cd14 ct14), sl14⟩) (c14 : PySem.W.codeIn K cd14 "best_ends" = true) (k14 : PySem.W.keepIn K (.ref f14) = true)
    (a15 : PySem.W.nsIn K mainGlobals "ways_ahead" = some (some (.ref f15))) (l15 : K.lookup f15 = some ⟨oc15, od15, .func (PySem.W.fnOf "ways_ahead" "ways_ahead" (defArgs s_ways_ahead) (defBody s_ways_ahead) (defScope s_ways_ahead) .none kV15 dc15 pm15 an15 cd15 ct15), sl15⟩) (c15 : PySem.W.codeIn K cd15 "ways_ahead" = true) (k15 : PySem.W.keepIn K (.ref f15) = true)
    (a16 : PySem.W.nsIn K mainGlobals "best_count" = some (some (.ref f16))) (l16 : K.lookup f16 = some ⟨oc16, od16, .func (PySem.W.fnOf "best_count" "best_count" (defArgs s_best_count) (defBody s_best_count) (defScope s_best_count) .none kV16 dc16 pm16 an16 cd16 ct16), sl16⟩) (c16 : PySem.W.codeIn K cd16 "best_count" = true) (k16 : PySem.W.keepIn K (.ref f16) = true)
    (a17 : PySem.W.nsIn K mainGlobals "_law_best_count" = some (some (.ref f17))) (l17 : K.lookup f17 = some ⟨oc17, od17, .func (PySem.W.fnOf "_law_best_count" "_law_best_count" (defArgs s_q_best_count) (defBody s_q_best_count) (defScope s_q_best_count) .none kV17 dc17 pm17 an17 cd17 ct17), sl17⟩) (c17 : PySem.W.codeIn K cd17 "_law_best_count" = true) (k17 : PySem.W.keepIn K (.ref f17) = true)
    (a18 : PySem.W.nsIn K mainGlobals "all_best" = some (some (.ref f18))) (l18 : K.lookup f18 = some ⟨oc18, od18, .func (PySem.W.fnOf "all_best" "all_best" (defArgs s_all_best) (defBody s_all_best) (defScope s_all_best) .none kV18 dc18 pm18 an18 cd18 ct18), sl18⟩) (c18 : PySem.W.codeIn K cd18 "all_best" = true) (k18 : PySem.W.keepIn K (.ref f18) = true)
    (a19 : PySem.W.nsIn K mainGlobals "_law_is_whole" = some (some (.ref f19))) (l19 : K.lookup f19 = some ⟨oc19, od19, .func (PySem.W.fnOf "_law_is_whole" "_law_is_whole" (defArgs s_q_is_whole) (defBody s_q_is_whole) (defScope s_q_is_whole) .none kV19 dc19 pm19 an19 cd19 ct19), sl19⟩) (c19 : PySem.W.codeIn K cd19 "_law_is_whole" = true) (k19 : PySem.W.keepIn K (.ref f19) = true)
    (a20 : PySem.W.nsIn K mainGlobals "_law_asked" = some (some (.ref f20))) (l20 : K.lookup f20 = some ⟨oc20, od20, .func (PySem.W.fnOf "_law_asked" "_law_asked" (defArgs s_q_asked) (defBody s_q_asked) (defScope s_q_asked) .none kV20 dc20 pm20 an20 cd20 ct20), sl20⟩) (c20 : PySem.W.codeIn K cd20 "_law_asked" = true) (k20 : PySem.W.keepIn K (.ref f20) = true)
    (aL : PySem.W.nsIn K mainGlobals "law" = some (some (.ref fL))) (lL : K.lookup fL = some ⟨ocL, odL, .func (PySem.W.fnOf "law" "law" (defArgs s_law) (defBody s_law) (defScope s_law) .none kVL dcL pmL anL cdL ctL), slL⟩) (cL : PySem.W.codeIn K cdL "law" = true) (kL : PySem.W.keepIn K (.ref fL) = true)
    {CE_ : Addr} {TM_ : Addr} {fI_ : Addr} {N_ : Addr} {nm_ : Str} {q_ : Str} {bs_ : List Value} {sub_ : List Value} {sn_ : List Str} {ab_ : Bool} {col_ : Option Bool} {dd_ : Option Addr} {od_ : Option Addr} {an_ : Option Addr} {m0_ : Option Value} {m1_ : Option Value} {m2_ : Option Value} {m3_ : Option Value} {m5_ : Option Value} {oc_ : Value} {kV_ : Value} {dc_ : Value} {pm_ : Value} {cd_ : Value} {ct_ : Value} {osl_ : Array (Option Value)} {TL_ : Addr} {TB_ : Addr}
    (e_aCE : PySem.W.nsIn K mainGlobals "CutError" = some (some (.ref CE_)))
    (e_aTM : PySem.W.nsIn K mainGlobals "TooMany" = some (some (.ref TM_)))
    (e_xL : K.lookup TM_ = some (excClassObj nm_ q_ TM_ N_ bs_ [.ref CE_, .type "ValueError", .type "Exception", .type "BaseException", .type "object"] true sn_ sub_ ab_ col_ dd_ m0_ m1_ m2_ m3_ m5_ "ValueError.__new__"))
    (e_sa : PySem.W.findIn K (.ref TM_) "__setattr__" = some (some (.builtin "object.__setattr__")))
    (e_eC : PySem.W.subIn K (.ref TM_) (.type "BaseException") = some true)
    (e_tC : PySem.W.typeIn K (.ref TM_) = some (.type "type"))
    (e_kC : PySem.W.keepIn K (.ref TM_) = true)
    (e_no : PySem.W.findIn K (.ref TM_) "most" = some none)
    (e_aI : PySem.W.findIn K (.ref TM_) "__init__" = some (some (.ref fI_)))
    (e_tI : PySem.W.typeIn K (.ref fI_) = some (.type "function"))
    (e_lI : K.lookup fI_ = some ⟨oc_, od_, .func (PySem.W.fnOf "__init__" "TooMany.__init__" (defArgs s_TooMany_init) (defBody s_TooMany_init) (defScope s_TooMany_init) .none kV_ dc_ pm_ an_ cd_ ct_), osl_⟩)
    (e_cI : PySem.W.codeIn K cd_ "TooMany.__init__" = true)
    (e_kI : PySem.W.keepIn K (.ref fI_) = true)
    (e_ga : PySem.W.specialIn K (.ref CE_) "__getattribute__" = some (some (.builtin "type.__getattribute__")))
    (e_rd : PySem.W.readsIn K CE_ (.type "type") = true)
    (e_fdc : PySem.W.findCls K (.ref CE_) (.type "type") "__init__" = some (.val (.builtin "ValueError.__init__")))
    (e_aTL : PySem.W.nsIn K mainGlobals "TooLong" = some (some (.ref TL_)))
    (e_aTB : PySem.W.nsIn K mainGlobals "TooBig" = some (some (.ref TB_)))
    (e_zV : PySem.W.nsIn K mainGlobals "ValueError" = some none)
    (e_eCE : PySem.W.subIn K (.ref CE_) (.type "BaseException") = some true)
    (e_dCE : PySem.W.hasDictIn K CE_ = true)
    (e_tCE : PySem.W.typeIn K (.ref CE_) = some (.type "type"))
    (e_sTM : PySem.W.subIn K (.ref TM_) (.ref CE_) = some true)
    (e_tm : PySem.W.kitOne K (.ref TM_) (.ref TM_) = some true)
    (e_tl : PySem.W.kitOne K (.ref TM_) (.ref TL_) = some false)
    (e_tb : PySem.W.kitOne K (.ref TM_) (.ref TB_) = some false)
    (e_ve : PySem.W.kitOne K (.ref TM_) (.type "ValueError") = some true)
    (e_hg : PySem.W.findIn K (.ref TM_) "__getattribute__" = some (some (.builtin "BaseException.__getattribute__")))
    (e_hk : PySem.W.findIn K (.ref TM_) "__getattr__" = some none)
    (e_hs : PySem.W.subIn K (.ref TM_) (.type "BaseException") = some true)
    (e_hd : PySem.W.hasDictIn K TM_ = true)
    (e_ha : PySem.W.findIn K (.ref TM_) "__class__" = some (some (.builtin "object.__class__")))
    (e_hn : PySem.W.specialIn K (.builtin "object.__class__") "__get__" = some (some (.builtin "getset_descriptor.__get__")))
    (e_ht : PySem.W.takesIn K (.builtin "object.__class__") = some true)
    (e_hm : PySem.W.mroIn K TM_ (.type "object") = some true)
    (z_len : PySem.W.nsIn K mainGlobals "len" = some none)
    (z_range : PySem.W.nsIn K mainGlobals "range" = some none)
    (z_list : PySem.W.nsIn K mainGlobals "list" = some none)
    (z_tuple : PySem.W.nsIn K mainGlobals "tuple" = some none)
    (z_max : PySem.W.nsIn K mainGlobals "max" = some none)
    (z_min : PySem.W.nsIn K mainGlobals "min" = some none)
    (z_sum : PySem.W.nsIn K mainGlobals "sum" = some none)
    (z_any : PySem.W.nsIn K mainGlobals "any" = some none)
    (z_all : PySem.W.nsIn K mainGlobals "all" = some none)
    (z_sorted : PySem.W.nsIn K mainGlobals "sorted" = some none)
    (z_isinstance : PySem.W.nsIn K mainGlobals "isinstance" = some none)
    (z_int : PySem.W.nsIn K mainGlobals "int" = some none)
    (z_str : PySem.W.nsIn K mainGlobals "str" = some none)
    (z_bool : PySem.W.nsIn K mainGlobals "bool" = some none)
    (z_zip : PySem.W.nsIn K mainGlobals "zip" = some none)
    (z_enumerate : PySem.W.nsIn K mainGlobals "enumerate" = some none)
    (z_dict : PySem.W.nsIn K mainGlobals "dict" = some none)
    (z_set : PySem.W.nsIn K mainGlobals "set" = some none)
    (z_ValueError : PySem.W.nsIn K mainGlobals "ValueError" = some none)
    : ∃ fd : FuncData, (∀ (s : Shared) (v : Value), BindsTo s fd ⟨[v], []⟩ [("_law_script", v)]) ∧ ∀ base : Heap, K.In base → base.Ns mainGlobals mg → FnOk l.prog w K mg base CX0 7 fa fd ["_law_script"] (lift3 K sp_law) := by
  have B : Bi mg := ⟨PySem.W.mg_none_of X G z_len, PySem.W.mg_none_of X G z_range, PySem.W.mg_none_of X G z_list, PySem.W.mg_none_of X G z_tuple, PySem.W.mg_none_of X G z_max, PySem.W.mg_none_of X G z_min, PySem.W.mg_none_of X G z_sum, PySem.W.mg_none_of X G z_any, PySem.W.mg_none_of X G z_all, PySem.W.mg_none_of X G z_sorted, PySem.W.mg_none_of X G z_isinstance, PySem.W.mg_none_of X G z_int, PySem.W.mg_none_of X G z_str, PySem.W.mg_none_of X G z_bool, PySem.W.mg_none_of X G z_zip, PySem.W.mg_none_of X G z_enumerate, PySem.W.mg_none_of X G z_dict, PySem.W.mg_none_of X G z_set, PySem.W.mg_none_of X G z_ValueError⟩
  refine ⟨PySem.W.fnOf "law" "law" (defArgs s_law) (defBody s_law) (defScope s_law) .none kVL dcL pmL anL cdL ctL, fun s v => .of_eq rfl, fun base _ _ => ?_⟩
  have x_TM := exi_of (P := l.prog) (w := w) (base := base) X G e_aCE e_aTM e_xL e_sa e_eC e_tC e_kC e_no e_aI e_tI e_lI e_cI e_kI e_ga e_rd e_fdc
  have x_C := cls_of X G e_aCE e_aTM e_aTL e_aTB e_zV e_eCE e_dCE e_tCE e_sTM e_tm e_tl e_tb e_ve e_hg e_hk e_hs e_hd e_ha e_hn e_ht e_hm e_no
  have d0 := d_q_cell (P := l.prog) (w := w) (base := base) (tx_of X G (ps := ["_law_script", "_law_place"]) (fun _ _ _ _ _ _ us hl => match us, hl with | [_, _], _ => rfl) a0 l0 c0 k0) B 
  have d1 := d_q_mix (P := l.prog) (w := w) (base := base) (tx_of X G (ps := ["_law_cell_here", "_law_k"]) (fun _ _ _ _ _ _ us hl => match us, hl with | [_, _], _ => rfl) a1 l1 c1 k1) B 
  have d2 := d_q_row (P := l.prog) (w := w) (base := base) (tx_of X G (ps := ["_law_script", "_law_place", "_law_sizes"]) (fun _ _ _ _ _ _ us hl => match us, hl with | [_, _, _], _ => rfl) a2 l2 c2 k2) B d0 d1
  have d3 := d_q_flaw (P := l.prog) (w := w) (base := base) (tx_of X G (ps := ["_law_script", "_law_place", "_law_most"]) (fun _ _ _ _ _ _ us hl => match us, hl with | [_, _, _], _ => rfl) a3 l3 c3 k3) B d2
  have d4 := d_q_roll (P := l.prog) (w := w) (base := base) (tx_of X G (ps := ["_law_script", "_law_place", "_law_most", "_law_flaw_here"]) (fun _ _ _ _ _ _ us hl => match us, hl with | [_, _, _, _], _ => rfl) a4 l4 c4 k4) B d2
  have d5 := d_q_table (P := l.prog) (w := w) (base := base) (tx_of X G (ps := ["_law_script", "_law_place", "_law_most"]) (fun _ _ _ _ _ _ us hl => match us, hl with | [_, _, _], _ => rfl) a5 l5 c5 k5) B d2
  have d6 := d_running_sums (P := l.prog) (w := w) (base := base) (tx_of X G (ps := ["roll"]) (fun _ _ _ _ _ _ us hl => match us, hl with | [_], _ => rfl) a6 l6 c6 k6) B 
  have d7 := d_ends_well (P := l.prog) (w := w) (base := base) (tx_of X G (ps := ["sums", "kind", "end"]) (fun _ _ _ _ _ _ us hl => match us, hl with | [_, _, _], _ => rfl) a7 l7 c7 k7) B 
  have d8 := d_heights (P := l.prog) (w := w) (base := base) (tx_of X G (ps := ["roll", "table"]) (fun _ _ _ _ _ _ us hl => match us, hl with | [_, _], _ => rfl) a8 l8 c8 k8) B d6 d7
  have d9 := d_q_drawn (P := l.prog) (w := w) (base := base) (tx_of X G (ps := ["_law_script", "_law_place", "_law_most", "_law_kinds"]) (fun _ _ _ _ _ _ us hl => match us, hl with | [_, _, _, _], _ => rfl) a9 l9 c9 k9) B d3 d4 d5
  have d10 := d_q_sums (P := l.prog) (w := w) (base := base) (tx_of X G (ps := ["_law_roll_here"]) (fun _ _ _ _ _ _ us hl => match us, hl with | [_], _ => rfl) a10 l10 c10 k10) B 
  have d11 := d_q_good (P := l.prog) (w := w) (base := base) (tx_of X G (ps := ["_law_sums_here", "_law_kind", "_law_at"]) (fun _ _ _ _ _ _ us hl => match us, hl with | [_, _, _], _ => rfl) a11 l11 c11 k11) B 
  have d12 := d_q_heights (P := l.prog) (w := w) (base := base) (tx_of X G (ps := ["_law_roll_here", "_law_table_here"]) (fun _ _ _ _ _ _ us hl => match us, hl with | [_, _], _ => rfl) a12 l12 c12 k12) B d10 d11
  have d13 := d_q_is_whole (P := l.prog) (w := w) (base := base) (tx_of X G (ps := ["_law_one"]) (fun _ _ _ _ _ _ us hl => match us, hl with | [_], _ => rfl) a13 l13 c13 k13) B 
  have d14 := d_best_ends (P := l.prog) (w := w) (base := base) (tx_of X G (ps := ["sums", "high", "table", "end"]) (fun _ _ _ _ _ _ us hl => match us, hl with | [_, _, _, _], _ => rfl) a14 l14 c14 k14) B d7
  have d15 := d_ways_ahead (P := l.prog) (w := w) (base := base) (tx_of X G (ps := ["roll", "table"]) (fun _ _ _ _ _ _ us hl => match us, hl with | [_, _], _ => rfl) a15 l15 c15 k15) B d6 d8 d14
  have d16 := d_best_count (P := l.prog) (w := w) (base := base) (tx_of X G (ps := ["roll", "table"]) (fun _ _ _ _ _ _ us hl => match us, hl with | [_, _], _ => rfl) a16 l16 c16 k16) B d15
  have d17 := d_q_best_count (P := l.prog) (w := w) (base := base) (tx_of X G (ps := ["_law_roll_here", "_law_table_here"]) (fun _ _ _ _ _ _ us hl => match us, hl with | [_, _], _ => rfl) a17 l17 c17 k17) B d10 d11 d12
  have d18 := d_all_best (P := l.prog) (w := w) (base := base) (tx_of X G (ps := ["roll", "table", "most"]) (fun _ _ _ _ _ _ us hl => match us, hl with | [_, _, _], _ => rfl) a18 l18 c18 k18) B x_TM d6 d8 d14 d16
  have d19 := h_q_is_whole (P := l.prog) (w := w) (base := base) (tx_of X G (ps := ["_law_one"]) (fun _ _ _ _ _ _ us hl => match us, hl with | [_], _ => rfl) a19 l19 c19 k19) B 
  have d20 := d_q_asked (P := l.prog) (w := w) (base := base) (tx_of X G (ps := ["_law_roll_here", "_law_table_here", "_law_most"]) (fun _ _ _ _ _ _ us hl => match us, hl with | [_, _, _], _ => rfl) a20 l20 c20 k20) B x_C d18 d19
  exact d_law (P := l.prog) (w := w) (base := base) (fun_of X G hfa aL lL cL kL) B d2 d9 d17 d20
theorem walk {l : PySem.W.OpenLaw} {q : Program} {loose : List Str} {XP : (Str → Option Value) → Heap → Prop} {YP : World → Heap → Prop} {d : DefRec} {K : Params → PySem.W.Frag} (hn : l.most = some 63) (hdf : d.params.defaults = [])
    (hY : ∀ (w : World) (h : Heap), YP w h → (K w.params).In h)
    (F : ∀ (w : World) (mg : Str → Option Value) (fa : Addr) (h : Heap), (K w.params).In h → h.Ns mainGlobals mg → mg d.name = some (.ref fa) →
      ∃ fd : FuncData, (∀ (s : Shared) (u : Value), BindsTo s fd ⟨[u], []⟩ [("_law_script", u)]) ∧ ∀ base : Heap, (K w.params).In base → base.Ns mainGlobals mg → FnOk l.prog w (K w.params) mg base CX0 7 fa fd ["_law_script"] (lift3 (K w.params) sp_law)) :
    PySem.W.WalkO q loose XP YP l.row.toRowW d [] (fun f vs => PySem.call f vs) :=
  L2.walk_of (n := 63) (k := 7) (x := "_law_script") (CX := fun _ => CX0) (sp := fun w => lift3 (K w.params) sp_law) hn (by decide) hdf ⟨rfl, by decide, by decide⟩ hY F (fun _ _ a ns hl _ hS => law_sp hS fun Q E st q => ⟨ns, rfl, q⟩) fun _ _ _ _ _ z => z
end
end Sv
open PySem PySem.W PyProof.Rows in
set_option maxRecDepth 100000 in
set_option maxHeartbeats 0 in
theorem PySem.Challenge.cw_selvage_k33_too_many_holds : PySem.Challenge.rw_selvage_k33_too_many.Holds := by
  w_on; o_law; k_head; (case hw => w_witness2)
  k_fill
  refine Sv.walk (l := PySem.Challenge.rw_selvage_k33_too_many) rfl rfl (fun w h Y => PySem.W.kIn_of Y) ?F
  case F =>
    intro w mg fa h KX G hmg
    refine' Sv.all_mk KX G hmg ?a0 ?l0 ?c0 ?k0 ?a1 ?l1 ?c1 ?k1 ?a2 ?l2 ?c2 ?k2 ?a3 ?l3 ?c3 ?k3 ?a4 ?l4 ?c4 ?k4 ?a5 ?l5 ?c5 ?k5 ?a6 ?l6 ?c6 ?k6 ?a7 ?l7 ?c7 ?k7 ?a8 ?l8 ?c8 ?k8 ?a9 ?l9 ?c9 ?k9 ?a10 ?l10 ?c10 ?k10 ?a11 ?l11 ?c11 ?k11 ?a12 ?l12 ?c12 ?k12 ?a13 ?l13 ?c13 ?k13 ?a14 ?l14 ?c14 ?k14 ?a15 ?l15 ?c15 ?k15 ?a16 ?l16 ?c16 ?k16 ?a17 ?l17 ?c17 ?k17 ?a18 ?l18 ?c18 ?k18 ?a19 ?l19 ?c19 ?k19 ?a20 ?l20 ?c20 ?k20 ?aL ?lL ?cL ?kL ?e_aCE ?e_aTM ?e_xL ?e_sa ?e_eC ?e_tC ?e_kC ?e_no ?e_aI ?e_tI ?e_lI ?e_cI ?e_kI ?e_ga ?e_rd ?e_fdc ?e_aTL ?e_aTB ?e_zV ?e_eCE ?e_dCE ?e_tCE ?e_sTM ?e_tm ?e_tl ?e_tb ?e_ve ?e_hg ?e_hk ?e_hs ?e_hd ?e_ha ?e_hn ?e_ht ?e_hm ?z_len ?z_range ?z_list ?z_tuple ?z_max ?z_min ?z_sum ?z_any ?z_all ?z_sorted ?z_isinstance ?z_int ?z_str ?z_bool ?z_zip ?z_enumerate ?z_dict ?z_set ?z_ValueError
    (case a0 => k_is)
    (case l0 => k_is)
    (case c0 => k_is)
    (case k0 => k_is)
    (case a1 => k_is)
    (case l1 => k_is)
    (case c1 => k_is)
    (case k1 => k_is)
    (case a2 => k_is)
    (case l2 => k_is)
    (case c2 => k_is)
    (case k2 => k_is)
    (case a3 => k_is)
    (case l3 => k_is)
    (case c3 => k_is)
    (case k3 => k_is)
    (case a4 => k_is)
    (case l4 => k_is)
    (case c4 => k_is)
    (case k4 => k_is)
    (case a5 => k_is)
    (case l5 => k_is)
    (case c5 => k_is)
    (case k5 => k_is)
    (case a6 => k_is)
    (case l6 => k_is)
    (case c6 => k_is)
    (case k6 => k_is)
    (case a7 => k_is)
    (case l7 => k_is)
    (case c7 => k_is)
    (case k7 => k_is)
    (case a8 => k_is)
    (case l8 => k_is)
    (case c8 => k_is)
    (case k8 => k_is)
    (case a9 => k_is)
    (case l9 => k_is)
    (case c9 => k_is)
    (case k9 => k_is)
    (case a10 => k_is)
    (case l10 => k_is)
    (case c10 => k_is)
    (case k10 => k_is)
    (case a11 => k_is)
    (case l11 => k_is)
    (case c11 => k_is)
    (case k11 => k_is)
    (case a12 => k_is)
    (case l12 => k_is)
    (case c12 => k_is)
    (case k12 => k_is)
    (case a13 => k_is)
    (case l13 => k_is)
    (case c13 => k_is)
    (case k13 => k_is)
    (case a14 => k_is)
    (case l14 => k_is)
    (case c14 => k_is)
    (case k14 => k_is)
    (case a15 => k_is)
    (case l15 => k_is)
    (case c15 => k_is)
    (case k15 => k_is)
    (case a16 => k_is)
    (case l16 => k_is)
    (case c16 => k_is)
    (case k16 => k_is)
    (case a17 => k_is)
    (case l17 => k_is)
    (case c17 => k_is)
    (case k17 => k_is)
    (case a18 => k_is)
    (case l18 => k_is)
    (case c18 => k_is)
    (case k18 => k_is)
    (case a19 => k_is)
    (case l19 => k_is)
    (case c19 => k_is)
    (case k19 => k_is)
    (case a20 => k_is)
    (case l20 => k_is)
    (case c20 => k_is)
    (case k20 => k_is)
    (case aL => k_is)
    (case lL => k_is)
    (case cL => k_is)
    (case kL => k_is)
    (case e_aCE => first | k_is | kit_is)
    (case e_aTM => first | k_is | kit_is)
    (case e_xL => first | k_is | kit_is)
    (case e_sa => first | k_is | kit_is)
    (case e_eC => first | k_is | kit_is)
    (case e_tC => first | k_is | kit_is)
    (case e_kC => first | k_is | kit_is)
    (case e_no => first | k_is | kit_is)
    (case e_aI => first | k_is | kit_is)
    (case e_tI => first | k_is | kit_is)
    (case e_lI => first | k_is | kit_is)
    (case e_cI => first | k_is | kit_is)
    (case e_kI => first | k_is | kit_is)
    (case e_ga => first | k_is | kit_is)
    (case e_rd => first | k_is | kit_is)
    (case e_fdc => first | k_is | kit_is)
    (case e_aTL => first | k_is | kit_is)
    (case e_aTB => first | k_is | kit_is)
    (case e_zV => first | k_is | kit_is)
    (case e_eCE => first | k_is | kit_is)
    (case e_dCE => first | k_is | kit_is)
    (case e_tCE => first | k_is | kit_is)
    (case e_sTM => first | k_is | kit_is)
    (case e_tm => first | k_is | kit_is)
    (case e_tl => first | k_is | kit_is)
    (case e_tb => first | k_is | kit_is)
    (case e_ve => first | k_is | kit_is)
    (case e_hg => first | k_is | kit_is)
    (case e_hk => first | k_is | kit_is)
    (case e_hs => first | k_is | kit_is)
    (case e_hd => first | k_is | kit_is)
    (case e_ha => first | k_is | kit_is)
    (case e_hn => first | k_is | kit_is)
    (case e_ht => first | k_is | kit_is)
    (case e_hm => first | k_is | kit_is)
    (case z_len => k_is)
    (case z_range => k_is)
    (case z_list => k_is)
    (case z_tuple => k_is)
    (case z_max => k_is)
    (case z_min => k_is)
    (case z_sum => k_is)
    (case z_any => k_is)
    (case z_all => k_is)
    (case z_sorted => k_is)
    (case z_isinstance => k_is)
    (case z_int => k_is)
    (case z_str => k_is)
    (case z_bool => k_is)
    (case z_zip => k_is)
    (case z_enumerate => k_is)
    (case z_dict => k_is)
    (case z_set => k_is)
    (case z_ValueError => k_is)
