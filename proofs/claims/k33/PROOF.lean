import PyProof.Rows.All
import HandS.ForMost
import HandS.ForExc
import HandS.Walk
import HandS.Star
import HandS.Zip
import HandS.TupSets
import HandS.ExcInit
import HandS.Flow
import KE.SortData
import PyProof.Rows.EqDataRows
import PyProof.ReprRoads
import HandS.TupAny
import HandS.TupMul
import HandS.Wide
import HandS.IsInst
import HandS.Conv
import HandS.RaiseMore
import HandS.Deep
import HandS.Style
import KE.GoesMore
import KE.GoesEnum
import KE.KeyNested
import HandS.HeadEnd
import HandS.Defaults
import KE.KRevSl
import HandS.Words
import HandS.Codes
import HandS.Head0
import HandS.Head1
import HandS.Head2
import HandS.HeadHook1
import HandS.HeadHook2
import PyProof.ReprLen
import PySem.Challenge.RW_piledhigh_k33_watchers_and_what_is_none
section
set_option Elab.async false
set_option linter.all false
set_option maxRecDepth 100000
set_option maxHeartbeats 2000000
namespace Rf
open PySem PySem.Spec PyProof.Rows L2

/-! ### plain data -/
inductive D where
  | non | bl (b : Bool) | int (i : Int) | str (x : Str) | tup (ds : List D) | ref (n : Nat) | ty (n : String) | rol (ns : List Int)
inductive O where
  | lst (ds : List D)
abbrev Sto := List O
inductive Res (α : Type) where
  | ok (a : α) (S : Sto)
  | exc (c : Nat) (d : D) (S : Sto)
  | bad
structure Cm where
  call : Nat → List D → Sto → Res D
  fuel : Nat
  cl : Nat → Addr
abbrev Ev := List (Option D)
abbrev M (α : Type) := Cm → Ev → Sto → Res α
inductive Out where
  | nx (ρ : Ev) | rt (d : D) | bk (ρ : Ev) | ct (ρ : Ev)
abbrev MS := M Out

def Res.bind {α β : Type} : Res α → (α → Sto → Res β) → Res β
  | .ok a S, f => f a S
  | .exc c d S, _ => .exc c d S
  | .bad, _ => .bad
def M.ret {α : Type} (a : α) : M α := fun _ _ S => .ok a S
def M.bind {α β : Type} (m : M α) (f : α → M β) : M β := fun c ρ S => (m c ρ S).bind fun a S' => f a c ρ S'
def M.bad {α : Type} : M α := fun _ _ _ => .bad
def M.opt {α : Type} (o : Option α) : M α := fun _ _ S => match o with
  | some a => .ok a S
  | none => .bad

mutual
def D.blw (n : Nat) : D → Bool
  | .ref k => decide (k < n)
  | .tup ds => D.blws n ds
  | _ => true
def D.blws (n : Nat) : List D → Bool
  | [] => true
  | d :: ds => D.blw n d && D.blws n ds
end
def O.blw (n : Nat) : O → Bool
  | .lst ds => D.blws n ds

/-! ### what stands for what -/
/-- a list that is read only: the script -/
def Ro (K : PySem.W.Frag) (H : Hp) (a : Addr) (xs : List V) : Prop :=
  (∃ o, H a = some (.frz o (.lst xs))) ∨
    ∃ (o : Obj) (its : Array Value) (n : Nat), K.lookup a = some o ∧ o.cls = .type "list" ∧ o.dict = none ∧ o.data = .seq its n ∧ its.size ≤ sizeLine ∧ Vals xs its.toList
theorem Ro.sq {K : PySem.W.Frag} {H : Hp} {a : Addr} {xs : List V} (h : Ro K H a xs) : SqL K H a xs := by
  rcases h with ⟨o, h⟩ | h
  · exact .inl (.inr ⟨o, h⟩)
  · exact .inr h
mutual
def Rep (K : PySem.W.Frag) (H : Hp) (μ : List Addr) : D → V → Prop
  | .non, v => v = .non
  | .bl b, v => v = .bl b
  | .int i, v => v = .int i
  | .str x, v => v = .str x
  | .ty n, v => v = .ty n
  | .rol ns, v => ∃ a, v = .ref a ∧ Ro K H a (ns.map V.int)
  | .ref k, v => ∃ a, μ[k]? = some a ∧ v = .ref a
  | .tup ds, v => ∃ a vs, v = .ref a ∧ H a = some (.tup vs) ∧ Reps K H μ ds vs
def Reps (K : PySem.W.Frag) (H : Hp) (μ : List Addr) : List D → List V → Prop
  | [], vs => vs = []
  | d :: ds, vs => ∃ v r, vs = v :: r ∧ Rep K H μ d v ∧ Reps K H μ ds r
end
def RepO (K : PySem.W.Frag) (H : Hp) (μ : List Addr) (a : Addr) : O → Prop
  | .lst ds => ∃ vs, H a = some (.lst vs) ∧ Reps K H μ ds vs
structure RepS (K : PySem.W.Frag) (H : Hp) (μ : List Addr) (S : Sto) : Prop where
  len : μ.length = S.length
  obj : ∀ (k : Nat) (o : O) (a : Addr), S[k]? = some o → μ[k]? = some a → RepO K H μ a o
  dif : ∀ (j k : Nat) (a : Addr), μ[j]? = some a → μ[k]? = some a → j = k
/-- tuples and what is locked stay, and whatever stands apart from the places μ; what is new stands apart from all -/
structure Ltr (μ ν : List Addr) (H H' : Hp) : Prop where
  tup : ∀ a xs, H a = some (.tup xs) → H' a = some (.tup xs)
  frz : ∀ a o u, H a = some (.frz o u) → H' a = some (.frz o u)
  oth : ∀ a o, H a = some o → a ∉ μ → H' a = some o
  all : ∀ a o, H a = some o → ∃ u, H' a = some u
  new : ∀ a, a ∈ ν → H a = none
theorem Ltr.refl (μ : List Addr) (H : Hp) : Ltr μ [] H H := ⟨fun _ _ h => h, fun _ _ _ h => h, fun _ _ h _ => h, fun _ o h => ⟨o, h⟩, fun _ h => by cases h⟩
theorem Ltr.was {μ ν : List Addr} {H H' : Hp} (l : Ltr μ ν H H') {a : Addr} (h : H' a = none) : H a = none := by
  cases e : H a with
  | none => rfl
  | some o =>
    obtain ⟨u, q⟩ := l.all a o e
    rw [q] at h; cases h
theorem Ltr.trans {μ ν ν' : List Addr} {H H1 H2 : Hp} (a : Ltr μ ν H H1) (b : Ltr (μ ++ ν) ν' H1 H2) : Ltr μ (ν ++ ν') H H2 where
  tup := fun _ _ h => b.tup _ _ (a.tup _ _ h)
  frz := fun _ _ _ h => b.frz _ _ _ (a.frz _ _ _ h)
  oth := fun x o h n => b.oth x o (a.oth x o h n) fun z => by
    rcases List.mem_append.mp z with z | z
    · exact n z
    · rw [a.new x z] at h; cases h
  all := fun x o h => by
    obtain ⟨u, q⟩ := a.all x o h
    exact b.all x u q
  new := fun x hx => by
    rcases List.mem_append.mp hx with z | z
    · exact a.new x z
    · exact a.was (b.new x z)
/-- a new object that no place names -/
theorem Ltr.tmp {μ : List Addr} {H : Hp} {p : Addr} {o : HO} (h : H p = none) : Ltr μ [] H (upd H p o) :=
  ⟨fun a xs e => by rw [upd_ne (ne_of_none e h)]; exact e, fun a o u e => by rw [upd_ne (ne_of_none e h)]; exact e, fun a o e _ => by rw [upd_ne (ne_of_none e h)]; exact e,
    fun a o e => ⟨o, by rw [upd_ne (ne_of_none e h)]; exact e⟩, fun _ z => by cases z⟩
/-- .. that the next place names -/
theorem Ltr.nxt {μ : List Addr} {H : Hp} {p : Addr} {o : HO} (h : H p = none) : Ltr μ [p] H (upd H p o) :=
  ⟨(Ltr.tmp (μ := μ) h).tup, (Ltr.tmp (μ := μ) h).frz, (Ltr.tmp (μ := μ) h).oth, (Ltr.tmp (μ := μ) h).all, fun a z => by rw [List.mem_singleton.mp z]; exact h⟩
/-- an object of a place is written -/
theorem Ltr.wr {μ : List Addr} {H : Hp} {p : Addr} {o u : HO} (hp : p ∈ μ) (h : H p = some u) (h1 : ∀ xs, u ≠ .tup xs) (h2 : ∀ ob z, u ≠ .frz ob z) : Ltr μ [] H (upd H p o) :=
  ⟨fun a xs e => by rw [upd_ne (ne_of e h fun z => h1 xs z.symm)]; exact e, fun a ob z e => by rw [upd_ne (ne_of e h fun y => h2 ob z y.symm)]; exact e,
    fun a ob e n => by rw [upd_ne (fun z => n (by rw [z]; exact hp))]; exact e,
    fun a ob e => by
      by_cases z : a = p
      · exact ⟨o, by rw [z]; exact upd_same⟩
      · exact ⟨ob, by rw [upd_ne z]; exact e⟩, fun _ z => by cases z⟩
theorem Ltr.lst {μ : List Addr} {H : Hp} {p : Addr} {o : HO} {xs : List V} (hp : p ∈ μ) (h : H p = some (.lst xs)) : Ltr μ [] H (upd H p o) := .wr hp h (fun _ z => by cases z) (fun _ _ z => by cases z)

/-- what Rep leans on -/
structure Kp (H H' : Hp) : Prop where
  tup : ∀ a xs, H a = some (.tup xs) → H' a = some (.tup xs)
  frz : ∀ a o u, H a = some (.frz o u) → H' a = some (.frz o u)
theorem Ltr.kp {μ ν : List Addr} {H H' : Hp} (l : Ltr μ ν H H') : Kp H H' := ⟨l.tup, l.frz⟩
theorem Ro.keep {K : PySem.W.Frag} {H H' : Hp} {a : Addr} {xs : List V} (h : Ro K H a xs) (l : Kp H H') : Ro K H' a xs := by
  rcases h with ⟨o, h⟩ | h
  · exact .inl ⟨o, l.frz _ _ _ h⟩
  · exact .inr h
section
variable {K : PySem.W.Frag}
mutual
theorem Rep.later {H H' : Hp} {μ ν : List Addr} (l : Kp H H') : ∀ (d : D) (v : V), Rep K H μ d v → Rep K H' (μ ++ ν) d v
  | .non, _, h => h
  | .bl _, _, h => h
  | .int _, _, h => h
  | .str _, _, h => h
  | .ty _, _, h => h
  | .rol ns, v, h => by
    simp only [Rep] at h ⊢
    obtain ⟨a, h1, h2⟩ := h
    exact ⟨a, h1, h2.keep l⟩
  | .ref k, v, h => by
    simp only [Rep] at h ⊢
    obtain ⟨a, h1, h2⟩ := h
    refine ⟨a, ?_, h2⟩
    rw [List.getElem?_append_left (List.getElem?_eq_some_iff.mp h1).1]
    exact h1
  | .tup ds, v, h => by
    simp only [Rep] at h ⊢
    obtain ⟨a, vs, h1, h2, h3⟩ := h
    exact ⟨a, vs, h1, l.tup _ _ h2, Reps.later l ds vs h3⟩
theorem Reps.later {H H' : Hp} {μ ν : List Addr} (l : Kp H H') : ∀ (ds : List D) (vs : List V), Reps K H μ ds vs → Reps K H' (μ ++ ν) ds vs
  | [], _, h => h
  | d :: ds, vs, h => by
    simp only [Reps] at h ⊢
    obtain ⟨v, r, h1, h2, h3⟩ := h
    exact ⟨v, r, h1, Rep.later l d v h2, Reps.later l ds r h3⟩
end
mutual
theorem Rep.blw {H : Hp} {μ : List Addr} : ∀ (d : D) (v : V), Rep K H μ d v → d.blw μ.length = true
  | .non, _, _ => rfl
  | .bl _, _, _ => rfl
  | .int _, _, _ => rfl
  | .str _, _, _ => rfl
  | .ty _, _, _ => rfl
  | .rol _, _, _ => rfl
  | .ref k, v, h => by
    simp only [Rep] at h
    obtain ⟨a, h1, h2⟩ := h
    simp only [D.blw, decide_eq_true_eq]
    exact (List.getElem?_eq_some_iff.mp h1).1
  | .tup ds, v, h => by
    simp only [Rep] at h
    obtain ⟨a, vs, h1, h2, h3⟩ := h
    simp only [D.blw]
    exact Reps.blw ds vs h3
theorem Reps.blw {H : Hp} {μ : List Addr} : ∀ (ds : List D) (vs : List V), Reps K H μ ds vs → D.blws μ.length ds = true
  | [], _, _ => rfl
  | d :: ds, vs, h => by
    simp only [Reps] at h
    obtain ⟨v, r, h1, h2, h3⟩ := h
    simp only [D.blws, Bool.and_eq_true]
    exact ⟨Rep.blw d v h2, Reps.blw ds r h3⟩
end
/-! where all that it speaks of lies below, the rest of the places does not matter -/
mutual
theorem Rep.cut {H : Hp} {μ ν : List Addr} : ∀ (d : D) (v : V), d.blw μ.length = true → Rep K H (μ ++ ν) d v → Rep K H μ d v
  | .non, _, _, h => h
  | .bl _, _, _, h => h
  | .int _, _, _, h => h
  | .str _, _, _, h => h
  | .ty _, _, _, h => h
  | .rol ns, v, b, h => by
    simp only [Rep] at h ⊢
    exact h
  | .ref k, v, b, h => by
    simp only [Rep] at h ⊢
    simp only [D.blw, decide_eq_true_eq] at b
    obtain ⟨a, h1, h2⟩ := h
    rw [List.getElem?_append_left b] at h1
    exact ⟨a, h1, h2⟩
  | .tup ds, v, b, h => by
    simp only [Rep] at h ⊢
    simp only [D.blw] at b
    obtain ⟨a, vs, h1, h2, h3⟩ := h
    exact ⟨a, vs, h1, h2, Reps.cut ds vs b h3⟩
theorem Reps.cut {H : Hp} {μ ν : List Addr} : ∀ (ds : List D) (vs : List V), D.blws μ.length ds = true → Reps K H (μ ++ ν) ds vs → Reps K H μ ds vs
  | [], _, _, h => h
  | d :: ds, vs, b, h => by
    simp only [Reps] at h ⊢
    simp only [D.blws, Bool.and_eq_true] at b
    obtain ⟨v, r, h1, h2, h3⟩ := h
    exact ⟨v, r, h1, Rep.cut d v b.1 h2, Reps.cut ds r b.2 h3⟩
end

/-! ### the store -/
theorem Reps.len {H : Hp} {μ : List Addr} : ∀ {ds : List D} {vs : List V}, Reps K H μ ds vs → vs.length = ds.length
  | [], _, h => by simp only [Reps] at h; rw [h]; rfl
  | d :: ds, vs, h => by
    simp only [Reps] at h
    obtain ⟨v, r, h1, h2, h3⟩ := h
    rw [h1, List.length_cons, List.length_cons, Reps.len h3]
theorem Reps.get {H : Hp} {μ : List Addr} : ∀ {ds : List D} {vs : List V} {i : Nat} {v : V}, Reps K H μ ds vs → vs[i]? = some v → ∃ d, ds[i]? = some d ∧ Rep K H μ d v
  | [], _, i, v, h, e => by simp only [Reps] at h; rw [h] at e; simp at e
  | d :: ds, vs, i, v, h, e => by
    simp only [Reps] at h
    obtain ⟨w, r, h1, h2, h3⟩ := h
    subst h1
    cases i with
    | zero => simp at e; subst e; exact ⟨d, rfl, h2⟩
    | succ i => simp at e; simpa using Reps.get h3 e
theorem Reps.getD {H : Hp} {μ : List Addr} : ∀ {ds : List D} {vs : List V} {i : Nat} {d : D}, Reps K H μ ds vs → ds[i]? = some d → ∃ v, vs[i]? = some v ∧ Rep K H μ d v
  | [], _, i, v, h, e => by simp at e
  | d :: ds, vs, i, v, h, e => by
    simp only [Reps] at h
    obtain ⟨w, r, h1, h2, h3⟩ := h
    subst h1
    cases i with
    | zero => simp at e; subst e; exact ⟨w, rfl, h2⟩
    | succ i => simp at e; simpa using Reps.getD h3 e
theorem Reps.nil {H : Hp} {μ : List Addr} : Reps K H μ [] [] := by simp only [Reps]
theorem Reps.cons {H : Hp} {μ : List Addr} {d : D} {v : V} {ds : List D} {vs : List V} (h : Rep K H μ d v) (t : Reps K H μ ds vs) : Reps K H μ (d :: ds) (v :: vs) := by
  simp only [Reps]; exact ⟨v, vs, rfl, h, t⟩
theorem Reps.app {H : Hp} {μ : List Addr} : ∀ {ds es : List D} {vs ws : List V}, Reps K H μ ds vs → Reps K H μ es ws → Reps K H μ (ds ++ es) (vs ++ ws)
  | [], _, _, _, h, t => by simp only [Reps] at h; rw [h]; exact t
  | d :: ds, es, vs, ws, h, t => by
    simp only [Reps] at h
    obtain ⟨v, r, h1, h2, h3⟩ := h
    subst h1
    exact .cons h2 (Reps.app h3 t)
theorem Reps.set {H : Hp} {μ : List Addr} {d : D} {v : V} (hd : Rep K H μ d v) : ∀ {ds : List D} {vs : List V} (i : Nat), Reps K H μ ds vs → Reps K H μ (ds.set i d) (vs.set i v)
  | [], _, i, h => by simp only [Reps] at h; rw [h]; exact .nil
  | e :: ds, vs, i, h => by
    simp only [Reps] at h
    obtain ⟨w, r, h1, h2, h3⟩ := h
    subst h1
    cases i with
    | zero => exact .cons hd h3
    | succ i => exact .cons h2 (Reps.set hd i h3)
theorem Reps.take {H : Hp} {μ : List Addr} : ∀ {ds : List D} {vs : List V} (n : Nat), Reps K H μ ds vs → Reps K H μ (ds.take n) (vs.take n)
  | _, _, 0, _ => by simp; exact .nil
  | [], _, n + 1, h => by simp only [Reps] at h; rw [h]; exact .nil
  | d :: ds, vs, n + 1, h => by
    simp only [Reps] at h
    obtain ⟨v, r, h1, h2, h3⟩ := h
    subst h1
    exact .cons h2 (Reps.take n h3)
theorem Reps.drop {H : Hp} {μ : List Addr} : ∀ {ds : List D} {vs : List V} (n : Nat), Reps K H μ ds vs → Reps K H μ (ds.drop n) (vs.drop n)
  | _, _, 0, h => h
  | [], _, n + 1, h => by simp only [Reps] at h; rw [h]; exact .nil
  | d :: ds, vs, n + 1, h => by
    simp only [Reps] at h
    obtain ⟨v, r, h1, h2, h3⟩ := h
    subst h1
    exact Reps.drop n h3
theorem Reps.rev {H : Hp} {μ : List Addr} : ∀ {ds : List D} {vs : List V}, Reps K H μ ds vs → Reps K H μ ds.reverse vs.reverse
  | [], _, h => by simp only [Reps] at h; rw [h]; exact .nil
  | d :: ds, vs, h => by
    simp only [Reps] at h
    obtain ⟨v, r, h1, h2, h3⟩ := h
    subst h1
    rw [List.reverse_cons, List.reverse_cons]
    exact (Reps.rev h3).app (.cons h2 .nil)
theorem Reps.rep {H : Hp} {μ : List Addr} {ds : List D} {vs : List V} (h : Reps K H μ ds vs) : ∀ k : Nat, Reps K H μ (List.replicate k ds).flatten (List.replicate k vs).flatten
  | 0 => .nil
  | k + 1 => by rw [List.replicate_succ, List.replicate_succ, List.flatten_cons, List.flatten_cons]; exact h.app (Reps.rep h k)

end
section
variable {K : PySem.W.Frag} {H H' : Hp} {μ ν : List Addr} {S : Sto} {p : Addr}
theorem RepS.at_lst (r : RepS K H μ S) {k : Nat} {ds : List D} (h : S[k]? = some (.lst ds)) : ∃ a vs, μ[k]? = some a ∧ a ∈ μ ∧ H a = some (.lst vs) ∧ Reps K H μ ds vs := by
  have hk : k < S.length := (List.getElem?_eq_some_iff.mp h).1
  have hm : k < μ.length := by rw [r.len]; exact hk
  obtain ⟨vs, h1, h2⟩ := r.obj k _ μ[k] h (by simp [hm])
  exact ⟨_, vs, by simp [hm], List.getElem_mem hm, h1, h2⟩
/-- each place is told of -/
theorem RepS.told (r : RepS K H μ S) {a : Addr} (h : a ∈ μ) : ∃ o, H a = some o := by
  obtain ⟨k, hk⟩ := List.getElem?_of_mem h
  have hm : k < S.length := by rw [← r.len]; exact (List.getElem?_eq_some_iff.mp hk).1
  have q := r.obj k S[k] a (by simp [hm]) hk
  cases e : S[k] with
  | lst ds =>
    rw [e] at q
    obtain ⟨vs, h1, _⟩ := q
    exact ⟨_, h1⟩
theorem RepS.not (r : RepS K H μ S) (h : H p = none) : p ∉ μ := fun z => by
  obtain ⟨o, e⟩ := r.told z
  rw [e] at h; cases h
/-- nothing at the places changes: a temporary object -/
theorem RepS.tmp {o : HO} (r : RepS K H μ S) (h : H p = none) : RepS K (upd H p o) μ S := by
  have l := (Ltr.tmp (μ := μ) (o := o) h).kp
  refine ⟨r.len, fun k u a hk ha => ?_, r.dif⟩
  have q := r.obj k u a hk ha
  cases u with
  | lst ds =>
    obtain ⟨vs, h1, h2⟩ := q
    exact ⟨vs, by rw [upd_ne (ne_of_none h1 h)]; exact h1, by simpa using Reps.later (ν := []) l ds vs h2⟩
/-- .. written: it is at none of the places -/
theorem RepS.apart {o : HO} (r : RepS K H μ S) (h : p ∉ μ) (l : Kp H (upd H p o)) : RepS K (upd H p o) μ S := by
  refine ⟨r.len, fun k u a hk ha => ?_, r.dif⟩
  have q := r.obj k u a hk ha
  cases u with
  | lst ds =>
    obtain ⟨vs, h1, h2⟩ := q
    exact ⟨vs, by rw [upd_ne (fun z => h (by rw [← z]; exact List.mem_of_getElem? ha))]; exact h1, by simpa using Reps.later (ν := []) l ds vs h2⟩
/-- a list that stood by itself gets the next place -/
theorem RepS.own {ds : List D} {vs : List V} (r : RepS K H μ S) (h : H p = some (.lst vs)) (hn : p ∉ μ) (hv : Reps K H μ ds vs) : RepS K H (μ ++ [p]) (S ++ [.lst ds]) := by
  have l : Kp H H := ⟨fun _ _ e => e, fun _ _ _ e => e⟩
  have old : ∀ {j : Nat} {a : Addr}, (μ ++ [p])[j]? = some a → (j < S.length ∧ μ[j]? = some a ∧ a ≠ p) ∨ (j = S.length ∧ a = p) := by
    intro j a e1
    by_cases hlt : j < S.length
    · rw [List.getElem?_append_left (by rw [r.len]; exact hlt)] at e1
      exact .inl ⟨hlt, e1, fun z => hn (by rw [← z]; exact List.mem_of_getElem? e1)⟩
    · have hj : j < (μ ++ [p]).length := (List.getElem?_eq_some_iff.mp e1).1
      have e : j = S.length := by
        rw [List.length_append, r.len] at hj
        simp at hj
        omega
      subst e
      rw [List.getElem?_append_right (by rw [r.len]; omega), r.len] at e1
      simp at e1
      exact .inr ⟨rfl, e1.symm⟩
  refine ⟨by simp [r.len], fun k u a hk ha => ?_, fun j k a e1 e2 => ?_⟩
  · rcases old ha with ⟨h1, h2, h3⟩ | ⟨h1, h2⟩
    · rw [List.getElem?_append_left h1] at hk
      have q := r.obj k u a hk h2
      cases u with
      | lst es =>
        obtain ⟨ws, h4, h5⟩ := q
        exact ⟨ws, h4, Reps.later l es ws h5⟩
    · subst h1 h2
      rw [List.getElem?_append_right (Nat.le_refl _)] at hk
      simp at hk
      subst hk
      exact ⟨vs, h, Reps.later l ds vs hv⟩
  · rcases old e1 with ⟨a1, a2, a3⟩ | ⟨a1, a2⟩ <;> rcases old e2 with ⟨b1, b2, b3⟩ | ⟨b1, b2⟩
    · exact r.dif j k a a2 b2
    · exact absurd b2 a3
    · exact absurd a2 b3
    · rw [a1, b1]
/-- a new object at the next place -/
theorem RepS.add {ds : List D} {vs : List V} (r : RepS K H μ S) (h : H p = none) (hv : Reps K H μ ds vs) : RepS K (upd H p (.lst vs)) (μ ++ [p]) (S ++ [.lst ds]) :=
  (r.tmp h).own upd_same (r.not h) (by simpa using Reps.later (ν := []) (Ltr.tmp (μ := μ) h).kp ds vs hv)
/-- the list at a place is written -/
theorem RepS.wr {k : Nat} {ds es : List D} {a : Addr} {vs ws : List V} (r : RepS K H μ S) (hk : S[k]? = some (.lst ds)) (ha : μ[k]? = some a) (hv : H a = some (.lst vs)) (he : Reps K H μ es ws) : RepS K (upd H a (.lst ws)) μ (S.set k (.lst es)) := by
  have hm : a ∈ μ := List.mem_of_getElem? ha
  have l := (Ltr.lst (μ := μ) (o := .lst ws) hm hv).kp
  have kl : k < S.length := (List.getElem?_eq_some_iff.mp hk).1
  refine ⟨by simp [r.len], fun j u b hj hb => ?_, r.dif⟩
  by_cases hjk : j = k
  · subst hjk
    rw [List.getElem?_set_self kl] at hj
    cases hj
    rw [ha] at hb
    cases hb
    exact ⟨ws, upd_same, by simpa using Reps.later (ν := []) l es ws he⟩
  · rw [List.getElem?_set_ne (Ne.symm hjk)] at hj
    have q := r.obj j u b hj hb
    cases u with
    | lst fs =>
      obtain ⟨zs, h1, h2⟩ := q
      exact ⟨zs, by rw [upd_ne fun z => hjk (r.dif j k b hb (by rw [z]; exact ha))]; exact h1, by simpa using Reps.later (ν := []) l fs zs h2⟩
/-- the places behind n are forgotten -/
theorem RepS.cut (r : RepS K H (μ ++ ν) S) (hb : ∀ o ∈ S.take μ.length, o.blw μ.length = true) : RepS K H μ (S.take μ.length) := by
  have hl : S.length = μ.length + ν.length := by rw [← r.len, List.length_append]
  refine ⟨by rw [List.length_take]; omega, fun k o a hk ha => ?_, fun i j b e1 e2 => ?_⟩
  · have hkm : k < μ.length := (List.getElem?_eq_some_iff.mp ha).1
    have hb' := hb o (List.mem_of_getElem? hk)
    rw [List.getElem?_take_of_lt hkm] at hk
    have q := r.obj k o a hk (by rw [List.getElem?_append_left hkm]; exact ha)
    cases o with
    | lst ds =>
      obtain ⟨vs, h1, h2⟩ := q
      exact ⟨vs, h1, Reps.cut ds vs hb' h2⟩
  · have i1 : i < μ.length := (List.getElem?_eq_some_iff.mp e1).1
    have i2 : j < μ.length := (List.getElem?_eq_some_iff.mp e2).1
    exact r.dif i j b (by rw [List.getElem?_append_left i1]; exact e1) (by rw [List.getElem?_append_left i2]; exact e2)
theorem RepS.blw (r : RepS K H μ S) : ∀ o ∈ S, o.blw μ.length = true := fun o ho => by
  obtain ⟨k, hk⟩ := List.getElem?_of_mem ho
  have hkS : k < S.length := (List.getElem?_eq_some_iff.mp hk).1
  have hm : k < μ.length := by rw [r.len]; exact hkS
  have q := r.obj k o μ[k] hk (by simp [hm])
  cases o with
  | lst ds => obtain ⟨vs, h1, h2⟩ := q; exact Reps.blw ds vs h2
end
end Rf
end

section
set_option Elab.async false
set_option linter.all false
set_option maxRecDepth 100000
set_option maxHeartbeats 2000000
namespace Rf
open PySem PySem.Spec PyProof.Rows L2

/-! ### what holds behind a computation -/
def Fine {α : Type} (K : PySem.W.Frag) (cl : Nat → Addr) (E : XK) (μ : List Addr) (H : Hp) (r : Res α) (Q : α → Sto → List Addr → Hp → Prop) : Prop := match r with
  | .ok a S => ∀ ν H', Ltr μ ν H H' → RepS K H' (μ ++ ν) S → Q a S (μ ++ ν) H'
  | .exc k d S => ∀ ν H' dx v, Ltr μ ν H H' → RepS K H' (μ ++ ν) S → H' dx = some (.xd [("value", v)]) → Rep K H' (μ ++ ν) d v → E (.ref (cl k)) (some dx) H'
  | .bad => False
section
variable {α β : Type} {K : PySem.W.Frag} {cl : Nat → Addr} {E : XK} {μ : List Addr} {H : Hp} {r : Res α} {Q Q' : α → Sto → List Addr → Hp → Prop}
theorem Fine.mono (h : Fine K cl E μ H r Q) (i : ∀ a S ν H', Ltr μ ν H H' → RepS K H' (μ ++ ν) S → Q a S (μ ++ ν) H' → Q' a S (μ ++ ν) H') : Fine K cl E μ H r Q' := by
  cases r with
  | ok a S => exact fun ν H' l s => i a S ν H' l s (h ν H' l s)
  | exc k d S => exact h
  | bad => exact h
theorem Fine.bind {f : α → Sto → Res β} {Q : β → Sto → List Addr → Hp → Prop} (h : Fine K cl E μ H (r.bind f) Q) :
    Fine K cl E μ H r fun a S μ' H' => Fine K cl E μ' H' (f a S) Q := by
  cases r with
  | ok a S =>
    intro ν H' l s
    show Fine K cl E (μ ++ ν) H' (f a S) Q
    have h : Fine K cl E μ H (f a S) Q := h
    cases e : f a S with
    | ok b S' =>
      rw [e] at h
      intro ν' H2 l2 s2
      have := h (ν ++ ν') H2 (l.trans l2) (by rw [← List.append_assoc]; exact s2)
      rw [← List.append_assoc] at this
      exact this
    | exc k d S' =>
      rw [e] at h
      intro ν' H2 dx v l2 s2 hx hv
      exact h (ν ++ ν') H2 dx v (l.trans l2) (by rw [← List.append_assoc]; exact s2) hx (by rw [← List.append_assoc]; exact hv)
    | bad => rw [e] at h; exact h
  | exc k d S => exact h
  | bad => exact h
/-- from a later heap -/
theorem Fine.shift {ν : List Addr} {H' : Hp} (l : Ltr μ ν H H') (h : Fine K cl E μ H r Q) : Fine K cl E (μ ++ ν) H' r Q := by
  cases r with
  | ok a S =>
    intro ν2 H2 l2 s2
    have := h (ν ++ ν2) H2 (l.trans l2) (by rw [← List.append_assoc]; exact s2)
    rw [← List.append_assoc] at this
    exact this
  | exc k d S =>
    intro ν2 H2 dx v l2 s2 hx hv
    exact h (ν ++ ν2) H2 dx v (l.trans l2) (by rw [← List.append_assoc]; exact s2) hx (by rw [← List.append_assoc]; exact hv)
  | bad => exact h
/-- nothing has changed -/
theorem Fine.now {a : α} {S : Sto} (h : Fine K cl E μ H (.ok a S) Q) (s : RepS K H μ S) : Q a S μ H := by
  have := h [] H (Ltr.refl μ H) (by simpa using s)
  simpa using this
/-- a temporary object has come -/
theorem Fine.tmp {a : α} {S : Sto} {p : Addr} {o : HO} (h : Fine K cl E μ H (.ok a S) Q) (s : RepS K H μ S) (hp : H p = none) : Q a S μ (upd H p o) := by
  have := h [] (upd H p o) (Ltr.tmp hp) (by simpa using s.tmp hp)
  simpa using this
end

/-- slots -/
structure RepE (K : PySem.W.Frag) (H : Hp) (μ : List Addr) (ρ : Ev) (σ : L2.St) : Prop where
  len : σ.length = ρ.length
  get : ∀ (i : Nat) (d : D), ρ[i]? = some (some d) → ∃ v, σ[i]? = some (some v) ∧ Rep K H μ d v
theorem RepE.later {K : PySem.W.Frag} {H H' : Hp} {μ ν : List Addr} {ρ : Ev} {σ : L2.St} (r : RepE K H μ ρ σ) (l : Ltr μ ν H H') : RepE K H' (μ ++ ν) ρ σ :=
  ⟨r.len, fun i d h => let ⟨v, h1, h2⟩ := r.get i d h; ⟨v, h1, Rep.later l.kp d v h2⟩⟩
theorem RepE.set {K : PySem.W.Frag} {H : Hp} {μ : List Addr} {ρ : Ev} {σ : L2.St} (r : RepE K H μ ρ σ) {i : Nat} {d : D} {v : V} (h : Rep K H μ d v) : RepE K H μ (ρ.set i (some d)) (σ.set i (some v)) := by
  refine ⟨by simp [r.len], fun j e he => ?_⟩
  by_cases hj : j = i
  · subst hj
    by_cases hl : j < ρ.length
    · rw [List.getElem?_set_self hl] at he
      cases he
      exact ⟨v, by rw [List.getElem?_set_self (by rw [r.len]; exact hl)], h⟩
    · rw [List.getElem?_eq_none (by simpa using hl)] at he; cases he
  · rw [List.getElem?_set_ne (Ne.symm hj)] at he ⊢
    exact r.get j e he

/-! ### readings by computations -/
def tD (K : PySem.W.Frag) (E : XK) (c : Cm) (m : M D) : TE := fun σ H Q => ∃ μ S ρ, RepS K H μ S ∧ RepE K H μ ρ σ ∧ Fine K c.cl E μ H (m c ρ S) fun d _ μ' H' => ∀ v, Rep K H' μ' d v → Q v H'
def tT (K : PySem.W.Frag) (E : XK) (c : Cm) (m : M Bool) : TT := fun σ H Q => ∃ μ S ρ, RepS K H μ S ∧ RepE K H μ ρ σ ∧ Fine K c.cl E μ H (m c ρ S) fun b _ _ H' => Q b H'
def tDs (K : PySem.W.Frag) (E : XK) (c : Cm) (m : M (List D)) : TA := fun σ H Q => ∃ μ S ρ, RepS K H μ S ∧ RepE K H μ ρ σ ∧ Fine K c.cl E μ H (m c ρ S) fun ds _ μ' H' => ∀ vs, Reps K H' μ' ds vs → Q vs H'
/-- a new list, named by no place -/
def tL (K : PySem.W.Frag) (E : XK) (c : Cm) (m : M (List D)) : TE := fun σ H Q => ∃ μ S ρ, RepS K H μ S ∧ RepE K H μ ρ σ ∧
  Fine K c.cl E μ H (m c ρ S) fun ds S' μ' H' => ∀ p vs, H p = none → H' p = some (.lst vs) → p ∉ μ' → Reps K H' μ' ds vs → Q (.ref p) H'
def EndsD (K : PySem.W.Frag) (D : Ends) : Out → Sto → List Addr → Hp → Prop := fun o _ μ' H' => match o with
  | .nx ρ => ∀ σ, RepE K H' μ' ρ σ → D.nx σ H'
  | .rt d => ∀ v, Rep K H' μ' d v → D.rt v H'
  | .bk ρ => ∀ σ, RepE K H' μ' ρ σ → D.bk σ H'
  | .ct ρ => ∀ σ, RepE K H' μ' ρ σ → D.ct σ H'
def tS (K : PySem.W.Frag) (E : XK) (c : Cm) (m : MS) : TS := fun D σ H => ∃ μ S ρ, RepS K H μ S ∧ RepE K H μ ρ σ ∧ Fine K c.cl E μ H (m c ρ S) (EndsD K D)

/-- readings may be strengthened -/
theorem _root_.L2.PE.imp {X : Cx} {e : Expr} {t t' : TE} (h : PE X e t) (i : ∀ σ H Q, t' σ H Q → t σ H Q) : PE X e t' := ⟨fun pins s σ H Q I q => h.run pins s σ H Q I (i σ H Q q)⟩
theorem _root_.L2.PT.imp {X : Cx} {e : Expr} {t t' : TT} (h : PT X e t) (i : ∀ σ H Q, t' σ H Q → t σ H Q) : PT X e t' := ⟨fun pins s σ H Q I q => h.run pins s σ H Q I (i σ H Q q)⟩
theorem _root_.L2.PW.imp {X : Cx} {e : Expr} {t t' : TT} (h : PW X e t) (i : ∀ σ H Q, t' σ H Q → t σ H Q) : PW X e t' := ⟨fun wh pins s σ H Q I q => h.run wh pins s σ H Q I (i σ H Q q)⟩
theorem _root_.L2.PA.imp {X : Cx} {es : List Expr} {t t' : TA} (h : PA X es t) (i : ∀ σ H Q, t' σ H Q → t σ H Q) : PA X es t' := ⟨fun pos pins s σ H Q I q => h.run pos pins s σ H Q I (i σ H Q q)⟩
theorem _root_.L2.PS.imp {X : Cx} {st : Stmt} {t t' : TS} (h : PS X st t) (i : ∀ D σ H, t' D σ H → t D σ H) : PS X st t' := ⟨fun pins s σ H D I q => h.run pins s σ H D I (i D σ H q)⟩
theorem _root_.L2.PSs.imp {X : Cx} {st : List Stmt} {t t' : TS} (h : PSs X st t) (i : ∀ D σ H, t' D σ H → t D σ H) : PSs X st t' := ⟨fun pins s σ H D I q => h.run pins s σ H D I (i D σ H q)⟩

/-! ### operations by values -/
abbrev OpD := D → D → Sto → Res D
def rOp (K : PySem.W.Frag) (cl : Nat → Addr) (E : XK) (f : OpD) : R2 := fun x y H Q => ∃ μ S a b, RepS K H μ S ∧ Rep K H μ a x ∧ Rep K H μ b y ∧ Fine K cl E μ H (f a b S) fun d _ μ' H' => ∀ v, Rep K H' μ' d v → Q v H'
theorem _root_.L2.OpR.imp {X : Cx} {f : Value → Value → Sem Value} {r r' : R2} (h : OpR X f r) (i : ∀ x y H Q, r' x y H Q → r x y H Q) : OpR X f r' :=
  fun pins s σ H x y v u Q I rx ry q => h pins s σ H x y v u Q I rx ry (i x y H Q q)
abbrev CallD := List D → Sto → Res D
def rCall (K : PySem.W.Frag) (cl : Nat → Addr) (E : XK) (f : CallD) : List V → Hp → VK → Prop := fun xs H Q => ∃ μ S ds, RepS K H μ S ∧ Reps K H μ ds xs ∧ Fine K cl E μ H (f ds S) fun d _ μ' H' => ∀ v, Rep K H' μ' d v → Q v H'
theorem _root_.L2.CallR.imp {X : Cx} {f : Value} {r r' : List V → Hp → VK → Prop} (h : CallR X f r) (i : ∀ xs H Q, r' xs H Q → r xs H Q) : CallR X f r' :=
  fun pins s σ H xs us Q I rx q => h pins s σ H xs us Q I rx (i xs H Q q)

section
variable {K : PySem.W.Frag} {E : XK} {c : Cm} {σ : L2.St} {H : Hp}
/-- one, then another -/
theorem tD_bind {α : Type} {m : M D} {f : D → M α} {Q : α → Sto → List Addr → Hp → Prop} {μ : List Addr} {S : Sto} {ρ : Ev} {R : V → Hp → Prop} (hS : RepS K H μ S) (hρ : RepE K H μ ρ σ)
    (h : Fine K c.cl E μ H (m.bind f c ρ S) Q)
    (k : ∀ d S' μ' H' v, RepS K H' μ' S' → RepE K H' μ' ρ σ → Rep K H' μ' d v → (∀ x w, Rep K H μ x w → Rep K H' μ' x w) → Fine K c.cl E μ' H' (f d c ρ S') Q → R v H') : tD K E c m σ H R :=
  ⟨μ, S, ρ, hS, hρ, (Fine.bind h).mono fun d S' ν H' l s q v hv => k d S' (μ ++ ν) H' v s (hρ.later l) hv (fun x w hx => Rep.later l.kp x w hx) q⟩
theorem tT_bind {α : Type} {m : M Bool} {f : Bool → M α} {Q : α → Sto → List Addr → Hp → Prop} {μ : List Addr} {S : Sto} {ρ : Ev} {R : Bool → Hp → Prop} (hS : RepS K H μ S) (hρ : RepE K H μ ρ σ)
    (h : Fine K c.cl E μ H (m.bind f c ρ S) Q)
    (k : ∀ b S' μ' H', RepS K H' μ' S' → RepE K H' μ' ρ σ → (∀ x w, Rep K H μ x w → Rep K H' μ' x w) → Fine K c.cl E μ' H' (f b c ρ S') Q → R b H') : tT K E c m σ H R :=
  ⟨μ, S, ρ, hS, hρ, (Fine.bind h).mono fun b S' ν H' l s q => k b S' (μ ++ ν) H' s (hρ.later l) (fun x w hx => Rep.later l.kp x w hx) q⟩
theorem tDs_bind {α : Type} {m : M (List D)} {f : List D → M α} {Q : α → Sto → List Addr → Hp → Prop} {μ : List Addr} {S : Sto} {ρ : Ev} {R : List V → Hp → Prop} (hS : RepS K H μ S) (hρ : RepE K H μ ρ σ)
    (h : Fine K c.cl E μ H (m.bind f c ρ S) Q)
    (k : ∀ ds S' μ' H' vs, RepS K H' μ' S' → RepE K H' μ' ρ σ → Reps K H' μ' ds vs → (∀ x w, Rep K H μ x w → Rep K H' μ' x w) → Fine K c.cl E μ' H' (f ds c ρ S') Q → R vs H') : tDs K E c m σ H R :=
  ⟨μ, S, ρ, hS, hρ, (Fine.bind h).mono fun d S' ν H' l s q v hv => k d S' (μ ++ ν) H' v s (hρ.later l) hv (fun x w hx => Rep.later l.kp x w hx) q⟩
theorem tL_bind {α : Type} {m : M (List D)} {f : List D → M α} {Q : α → Sto → List Addr → Hp → Prop} {μ : List Addr} {S : Sto} {ρ : Ev} {R : V → Hp → Prop} (hS : RepS K H μ S) (hρ : RepE K H μ ρ σ)
    (h : Fine K c.cl E μ H (m.bind f c ρ S) Q)
    (k : ∀ ds S' μ' H' p vs, RepS K H' μ' S' → RepE K H' μ' ρ σ → H p = none → H' p = some (.lst vs) → p ∉ μ' → Reps K H' μ' ds vs → (∀ x w, Rep K H μ x w → Rep K H' μ' x w) → Fine K c.cl E μ' H' (f ds c ρ S') Q → R (.ref p) H') : tL K E c m σ H R :=
  ⟨μ, S, ρ, hS, hρ, (Fine.bind h).mono fun d S' ν H' l s q p vs h0 h1 h2 h3 => k d S' (μ ++ ν) H' p vs s (hρ.later l) h0 h1 h2 h3 (fun x w hx => Rep.later l.kp x w hx) q⟩
theorem tS_bind {α : Type} {m : M α} {f : α → MS} {D : Ends} {μ : List Addr} {S : Sto} {ρ : Ev} (h : Fine K c.cl E μ H (m.bind f c ρ S) (EndsD K D)) :
    Fine K c.cl E μ H (m c ρ S) fun a S' μ' H' => Fine K c.cl E μ' H' (f a c ρ S') (EndsD K D) := Fine.bind h
end
end Rf
end

section
set_option Elab.async false
set_option linter.all false
set_option maxRecDepth 100000
set_option maxHeartbeats 2000000
namespace Rf
open PySem PySem.Spec PyProof.Rows L2

/-! ### what is known of a text's place -/
structure Gs where
  sc : Scope
  N : List Str
  consts : List (Str × D)
  fns : List (Str × Nat)
  bis : List Str
  top : Bool := true
def immV : D → Option V
  | .non => some .non
  | .bl b => some (.bl b)
  | .int i => some (.int i)
  | .str x => some (.str x)
  | .ty n => some (.ty n)
  | _ => none
/-- the def at f does what call i tells -/
structure FnD (P : Program) (w : World) (K : PySem.W.Frag) (mg : Str → Option Value) (base : Heap) (c : Cm) (lv i : Nat) (f : Addr) (fd : FuncData) (ps : List Str) : Prop where
  run : ∀ (A : Around) (outer : List Env) (s : Shared) (H : L2.Hp) (args : Args) (us : List Value) (vs : List V) (Q : VK) (E : XK) (μ : List Addr) (S : Sto) (ds : List D), Room lv A → A.guards = some [] → Env0 P w K mg base A outer s H → BindsTo s fd args (ps.zip us) → Vals vs us →
    vs.length = ps.length → RepS K H μ S → Reps K H μ ds vs → Fine K c.cl E μ H (c.call i ds S) (fun d _ μ' H' => ∀ v, Rep K H' μ' d v → Q v H') → codeAny (model P w) A (.call (.ref f) args) (CR (L2.CX P w) outer P w H s Q E) s
structure Cok (g : Gs) (c : Cm) (lv : Nat) (E : XK) (X : Cx) : Prop where
  sc : X.env.scope = g.sc
  kind : g.sc.kind = .function
  N : X.N = g.N
  nd : X.N.Nodup
  calm : X.calm = true
  room : Room lv X.A
  gd : X.A.guards = some []
  po : PassesOwn (model X.prog X.w) X.A X.env X.xe
  px : Passes (L2.CX X.prog X.w) X E
  top : g.top = true → ∀ x, X.fn x = true
  bi : ∀ x ∈ g.bis, X.mg x = none
  cs : ∀ x d, g.consts.lookup x = some d → ∃ u v, X.mg x = some u ∧ immV d = some v ∧ RelV v u
  fn : ∀ x i, g.fns.lookup x = some i → ∃ f fd ps, X.mg x = some (.ref f) ∧ PySem.W.keepIn X.K (.ref f) = true ∧ Binds X.K fd ps [] ∧ (∀ ds S, ds.length ≠ ps.length → c.call i ds S = .bad) ∧ FnD X.prog X.w X.K X.mg X.base c lv i f fd ps

theorem imm_rep {K : PySem.W.Frag} {H : Hp} {μ : List Addr} {d : D} {v : V} (h : immV d = some v) : Rep K H μ d v := by
  cases d <;> simp [immV] at h <;> subst h <;> simp [Rep]

abbrev PEd (X : Cx) (c : Cm) (E : XK) (e : Expr) (m : M D) : Prop := PE X e (tD X.K E c m)
abbrev PLd (X : Cx) (c : Cm) (E : XK) (e : Expr) (m : M (List D)) : Prop := PE X e (tL X.K E c m)
abbrev PTd (X : Cx) (c : Cm) (E : XK) (e : Expr) (m : M Bool) : Prop := PT X e (tT X.K E c m)
abbrev PWd (X : Cx) (c : Cm) (E : XK) (e : Expr) (m : M Bool) : Prop := PW X e (tT X.K E c m)
abbrev PAd (X : Cx) (c : Cm) (E : XK) (es : List Expr) (m : M (List D)) : Prop := PA X es (tDs X.K E c m)
abbrev PSd (X : Cx) (c : Cm) (E : XK) (st : Stmt) (m : MS) : Prop := PS X st (tS X.K E c m)
abbrev PSsd (X : Cx) (c : Cm) (E : XK) (st : List Stmt) (m : MS) : Prop := PSs X st (tS X.K E c m)

/-! ### computations of expressions -/
def mVar (i : Nat) : M D := fun _ ρ S => match ρ[i]? with
  | some (some d) => .ok d S
  | _ => .bad
def mLit (d : D) : M D := M.ret d
def mOp (f : OpD) (a b : M D) : M D := a.bind fun x => b.bind fun y => fun _ _ S => f x y S
def mUn (f : D → Sto → Res D) (a : M D) : M D := a.bind fun x => fun _ _ S => f x S
def mNew (m : M (List D)) : M D := m.bind fun ds => fun _ _ S => if ds.length ≤ sizeLine then .ok (.ref S.length) (S ++ [.lst ds]) else .bad
def aNil : M (List D) := M.ret []
def aCons (a : M D) (r : M (List D)) : M (List D) := a.bind fun x => r.bind fun xs => M.ret (x :: xs)
def itemsOf (d : D) (S : Sto) : Option (List D) := match d with
  | .tup ds => some ds
  | .ref k => match S[k]? with
    | some (.lst ds) => some ds
    | none => none
  | .rol ns => some (ns.map .int)
  | _ => none
def aStar (a : M D) (r : M (List D)) : M (List D) := a.bind fun x => fun c ρ S => match itemsOf x S with
  | some ds => (r c ρ S).bind fun es S' => .ok (ds ++ es) S'
  | none => .bad
/-- items of a new list, within a display -/
def aStarL (a : M (List D)) (r : M (List D)) : M (List D) := a.bind fun ds => r.bind fun es => M.ret (ds ++ es)
def mTup (m : M (List D)) : M D := m.bind fun ds => fun _ _ S => if ds.length ≤ sizeLine then .ok (.tup ds) S else .bad
def lLst (m : M (List D)) : M (List D) := m.bind fun ds => fun _ _ S => if ds.length ≤ sizeLine then .ok ds S else .bad
def mCall (i : Nat) (m : M (List D)) : M D := m.bind fun ds => fun c _ S => c.call i ds S
def mBi (f : CallD) (m : M (List D)) : M D := m.bind fun ds => fun _ _ S => f ds S
def truth (d : D) (S : Sto) : Option Bool := match d with
  | .non => some false
  | .bl b => some b
  | .int i => some (i != 0)
  | .str x => if x.length ≤ sizeLine then some ((x.length : Int) != 0) else none
  | .tup ds => some !ds.isEmpty
  | .ref k => match S[k]? with
    | some (.lst ds) => some !ds.isEmpty
    | none => none
  | .rol ns => some !ns.isEmpty
  | .ty _ => none
def tTru (a : M D) : M Bool := a.bind fun x => fun _ _ S => match truth x S with
  | some b => .ok b S
  | none => .bad
/-- what must be a bool -/
def tBoo (a : M D) : M Bool := a.bind fun x => match x with
  | .bl b => M.ret b
  | _ => M.bad
def tAn (a b : M Bool) : M Bool := a.bind fun k => if k = true then b else M.ret false
def tO (a b : M Bool) : M Bool := a.bind fun k => if k = true then M.ret true else b
def tNo (a : M Bool) : M Bool := a.bind fun k => M.ret !k
def mAn (a b : M D) : M D := a.bind fun x => match x with
  | .bl true => b
  | .bl false => M.ret (.bl false)
  | _ => M.bad
def mO (a b : M D) : M D := a.bind fun x => match x with
  | .bl false => b
  | .bl true => M.ret (.bl true)
  | _ => M.bad
def mNo (a : M D) : M D := a.bind fun x => fun _ _ S => match truth x S with
  | some b => .ok (.bl !b) S
  | none => .bad
def mIf (t : M Bool) (a b : M D) : M D := t.bind fun k => if k = true then a else b
def mChain (f g : OpD) (a b e : M D) : M D := a.bind fun x => b.bind fun y => fun c ρ S => (f x y S).bind fun z S1 => match z with
  | .bl true => (e c ρ S1).bind fun w S2 => g y w S2
  | .bl false => .ok (.bl false) S1
  | _ => .bad

section
variable {X : Cx} {c : Cm} {lv : Nat} {E : XK} {g : Gs} {a b e : Expr} {es : List Expr} {ma mb me : M D} {mt mu : M Bool} {ms : M (List D)} {pos p : Pos}
theorem pd_var (k : Cok g c lv E X) {i : Nat} {x : Str} (hN : g.N[i]? = some x) (hv : Vis g.sc x) (hd : (x == ("__debug__" : Str)) = false) (hc : (x == ("__classdict__" : Str)) = false) : PEd X c E (.Name x pos) (mVar i) := by
  refine (pe_var (by rw [k.N]; exact hN) (by rw [k.sc]; exact hv) hd hc).imp fun σ H Q h => ?_
  obtain ⟨μ, S, ρ, hS, hρ, h⟩ := h
  cases q : ρ[i]? with
  | none => simp only [mVar, q] at h; exact h.elim
  | some o =>
    cases o with
    | none => simp only [mVar, q] at h; exact h.elim
    | some d =>
      simp only [mVar, q] at h
      obtain ⟨v, h1, h2⟩ := hρ.get i d q
      exact ⟨v, h1, h.now hS v h2⟩
theorem pd_lit {d : D} {v : V} (h : PE X e (tC v)) (hd : immV d = some v) : PEd X c E e (mLit d) := by
  refine h.imp fun σ H Q h => ?_
  obtain ⟨μ, S, ρ, hS, hρ, h⟩ := h
  exact (show Fine X.K c.cl E μ H (.ok d S) _ from h).now hS v (imm_rep hd)
theorem pd_glob (k : Cok g c lv E X) {x : Str} {d : D} (hg : g.sc.names.lookup x = some .globalImplicit) (hd : g.consts.lookup x = some d) (hb : (x == ("__debug__" : Str)) = false) : PEd X c E (.Name x pos) (mLit d) := by
  obtain ⟨u, v, h1, h2, h3⟩ := k.cs x d hd
  exact pd_lit (pe_glob (by unfold Gl Env.kindOf; rw [k.sc]; exact hg) h1 h3 hb) h2
theorem pd_op {op : Operator} {f : OpD} (ho : OpR X (binaryOp op) (rOp X.K c.cl E f)) (ha : PEd X c E a ma) (hb : PEd X c E b mb) : PEd X c E (.BinOp a op b pos) (mOp f ma mb) := by
  refine (pe_op ho ha hb).imp fun σ H Q h => ?_
  obtain ⟨μ, S, ρ, hS, hρ, h⟩ := h
  refine tD_bind hS hρ h fun x S1 μ1 H1 v s1 r1 hv _ h1 => ?_
  refine tD_bind s1 r1 h1 fun y S2 μ2 H2 w s2 r2 hw l2 h2 => ?_
  exact ⟨μ2, S2, x, y, s2, l2 x v hv, hw, h2⟩
theorem pd_cmp {op : CmpOp} {f : OpD} (ho : OpR X (compareOp op) (rOp X.K c.cl E f)) (ha : PEd X c E a ma) (hb : PEd X c E b mb) (hm : behindInMarks op b = false) : PEd X c E (.Compare a [op] [b] pos) (mOp f ma mb) := by
  refine (pe_cmpR ho ha hb hm).imp fun σ H Q h => ?_
  obtain ⟨μ, S, ρ, hS, hρ, h⟩ := h
  refine tD_bind hS hρ h fun x S1 μ1 H1 v s1 r1 hv _ h1 => ?_
  refine tD_bind s1 r1 h1 fun y S2 μ2 H2 w s2 r2 hw l2 h2 => ?_
  exact ⟨μ2, S2, x, y, s2, l2 x v hv, hw, h2⟩
theorem pt_cmpd {op : CmpOp} {f : OpD} (ho : OpR X (compareOp op) (rOp X.K c.cl E f)) (ha : PEd X c E a ma) (hb : PEd X c E b mb) (hm : behindInMarks op b = false) : PTd X c E (.Compare a [op] [b] pos) (tBoo (mOp f ma mb)) := by
  refine (pt_cmpR ho ha hb hm).imp fun σ H Q h => ?_
  obtain ⟨μ, S, ρ, hS, hρ, h⟩ := h
  have h := Fine.bind h
  show tD X.K E c ma σ H _
  refine tD_bind hS hρ h fun x S1 μ1 H1 v s1 r1 hv _ h1 => ?_
  refine tD_bind s1 r1 h1 fun y S2 μ2 H2 w s2 r2 hw l2 h2 => ?_
  refine ⟨μ2, S2, x, y, s2, l2 x v hv, hw, h2.mono fun d S3 ν H3 l s3 q z hz => ?_⟩
  cases d with
  | bl k => simp only [Rep] at hz; exact ⟨k, hz, (show Fine X.K c.cl E _ H3 (.ok k S3) _ from q).now s3⟩
  | _ => exact (show False from q).elim
theorem pd_chain {op op' : CmpOp} {f f' : OpD} (ho : OpR X (compareOp op) (rOp X.K c.cl E f)) (ho' : OpR X (compareOp op') (rOp X.K c.cl E f')) (ha : PEd X c E a ma) (hb : PEd X c E b mb) (he : PEd X c E e me)
    (hm : lastMarks [op, op'] [b, e] = false) : PEd X c E (.Compare a [op, op'] [b, e] pos) (mChain f f' ma mb me) := by
  refine (pe_chain ho ho' ha hb he hm).imp fun σ H Q h => ?_
  obtain ⟨μ, S, ρ, hS, hρ, h⟩ := h
  refine tD_bind hS hρ h fun x S1 μ1 H1 v s1 r1 hv _ h1 => ?_
  refine tD_bind s1 r1 h1 fun y S2 μ2 H2 w s2 r2 hw l2 h2 => ?_
  refine ⟨μ2, S2, x, y, s2, l2 x v hv, hw, (Fine.bind h2).mono fun d S3 ν H3 l s3 q z hz => ?_⟩
  cases d with
  | bl k =>
    simp only [Rep] at hz
    refine ⟨k, hz, ?_⟩
    have hw3 := Rep.later (ν := ν) l.kp y w hw
    have r3 := r2.later l
    cases k with
    | true =>
      rw [if_pos rfl]
      have q : Fine X.K c.cl E (μ2 ++ ν) H3 ((me c ρ S3).bind fun w S2 => f' y w S2) _ := q
      refine ⟨μ2 ++ ν, S3, ρ, s3, r3, (Fine.bind q).mono fun d2 S4 ν4 H4 l4 s4 q4 z4 hz4 => ?_⟩
      exact ⟨(μ2 ++ ν) ++ ν4, S4, y, d2, s4, Rep.later l4.kp y w hw3, hz4, q4⟩
    | false =>
      rw [if_neg Bool.false_ne_true]
      exact (show Fine X.K c.cl E (μ2 ++ ν) H3 (.ok (D.bl false) S3) _ from q).now s3 _ (by simp only [Rep])
  | _ => exact (show False from q).elim
theorem pt_chaind {op op' : CmpOp} {f f' : OpD} (ho : OpR X (compareOp op) (rOp X.K c.cl E f)) (ho' : OpR X (compareOp op') (rOp X.K c.cl E f')) (ha : PEd X c E a ma) (hb : PEd X c E b mb) (he : PEd X c E e me)
    (hm : lastMarks [op, op'] [b, e] = false) : PTd X c E (.Compare a [op, op'] [b, e] pos) (tBoo (mChain f f' ma mb me)) := by
  refine (pt_chain ho ho' ha hb he hm).imp fun σ H Q h => ?_
  obtain ⟨μ, S, ρ, hS, hρ, h⟩ := h
  have h := Fine.bind h
  refine tD_bind hS hρ h fun x S1 μ1 H1 v s1 r1 hv _ h1 => ?_
  refine tD_bind s1 r1 h1 fun y S2 μ2 H2 w s2 r2 hw l2 h2 => ?_
  refine ⟨μ2, S2, x, y, s2, l2 x v hv, hw, (Fine.bind h2).mono fun d S3 ν H3 l s3 q z hz => ?_⟩
  cases d with
  | bl k =>
    simp only [Rep] at hz
    refine ⟨k, hz, ?_⟩
    have hw3 := Rep.later (ν := ν) l.kp y w hw
    have r3 := r2.later l
    have fin : ∀ {d : D} {S' : Sto} {μ' : List Addr} {H' : Hp} {z : V}, RepS X.K H' μ' S' → Rep X.K H' μ' d z → Fine X.K c.cl E μ' H' (match d with | .bl b => M.ret b c ρ S' | _ => M.bad c ρ S') (fun b _ _ H' => Q b H') → ∃ k, z = .bl k ∧ Q k H' := by
      intro d S' μ' H' z s hz q
      cases d with
      | bl k => simp only [Rep] at hz; exact ⟨k, hz, (show Fine X.K c.cl E μ' H' (.ok k S') _ from q).now s⟩
      | _ => exact (show False from q).elim
    cases k with
    | true =>
      rw [if_pos rfl]
      have q : Fine X.K c.cl E (μ2 ++ ν) H3 ((me c ρ S3).bind fun w S2 => f' y w S2) _ := q
      refine ⟨μ2 ++ ν, S3, ρ, s3, r3, (Fine.bind q).mono fun d2 S4 ν4 H4 l4 s4 q4 z4 hz4 => ?_⟩
      refine ⟨(μ2 ++ ν) ++ ν4, S4, y, d2, s4, Rep.later l4.kp y w hw3, hz4, q4.mono fun d5 S5 ν5 H5 l5 s5 q5 z5 hz5 => ?_⟩
      refine fin s5 hz5 ?_
      cases d5 <;> exact q5
    | false =>
      rw [if_neg Bool.false_ne_true]
      have q := (show Fine X.K c.cl E (μ2 ++ ν) H3 (.ok (D.bl false) S3) _ from q).now s3
      exact ⟨false, rfl, (show Fine X.K c.cl E (μ2 ++ ν) H3 (.ok false S3) _ from q).now s3⟩
  | _ => exact (show False from q).elim
theorem pa_nild : PAd X c E [] aNil := pa_nil.imp fun σ H Q h => by
  obtain ⟨μ, S, ρ, hS, hρ, h⟩ := h
  exact (show Fine X.K c.cl E μ H (.ok [] S) _ from h).now hS [] .nil
theorem pa_consd (ha : PEd X c E a ma) (hr : PAd X c E es ms) (hs : starEach (a :: es) X.env = (false, eval a X.env) :: starEach es X.env) : PAd X c E (a :: es) (aCons ma ms) := by
  refine (pa_cons ha hr hs).imp fun σ H Q h => ?_
  obtain ⟨μ, S, ρ, hS, hρ, h⟩ := h
  refine tD_bind hS hρ h fun x S1 μ1 H1 v s1 r1 hv _ h1 => ?_
  refine tDs_bind s1 r1 h1 fun xs S2 μ2 H2 vs s2 r2 hvs l2 h2 => ?_
  exact (show Fine X.K c.cl E μ2 H2 (.ok (x :: xs) S2) _ from h2).now s2 (v :: vs) (.cons (l2 x v hv) hvs)
theorem reps_ints {K : PySem.W.Frag} {H : L2.Hp} {μ : List Addr} : ∀ ns : List Int, Reps K H μ (ns.map .int) (ns.map V.int)
  | [] => .nil
  | n :: ns => .cons (by simp only [Rep]) (reps_ints ns)
theorem items_sq {K : PySem.W.Frag} {H : Hp} {μ : List Addr} {S : Sto} {d : D} {v : V} {ds : List D} (hS : RepS K H μ S) (hv : Rep K H μ d v) (h : itemsOf d S = some ds) : ∃ q vs, v = .ref q ∧ (SqT K H q vs ∨ SqL K H q vs) ∧ Reps K H μ ds vs := by
  cases d with
  | tup es =>
    simp only [itemsOf, Option.some.injEq] at h
    subst h
    simp only [Rep] at hv
    obtain ⟨q, vs, h1, h2, h3⟩ := hv
    exact ⟨q, vs, h1, .inl (SqT.of h2), h3⟩
  | ref k =>
    simp only [Rep] at hv
    obtain ⟨q, h1, h2⟩ := hv
    simp only [itemsOf] at h
    cases e : S[k]? with
    | none => rw [e] at h; cases h
    | some o =>
      rw [e] at h
      have w := hS.obj k o q e h1
      cases o with
      | lst es =>
        simp only [Option.some.injEq] at h
        subst h
        obtain ⟨vs, w1, w2⟩ := w
        exact ⟨q, vs, h2, .inr (SqL.of w1), w2⟩
  | rol ns =>
    simp only [itemsOf, Option.some.injEq] at h
    subst h
    simp only [Rep] at hv
    obtain ⟨q, h1, h2⟩ := hv
    exact ⟨q, _, h1, .inr h2.sq, reps_ints ns⟩
  | _ => cases h
theorem pa_stard (ha : PEd X c E a ma) (hr : PAd X c E es ms) (hs : starEach (.Starred a p :: es) X.env = (true, eval a X.env) :: starEach es X.env) : PAd X c E (.Starred a p :: es) (aStar ma ms) := by
  refine (StX.pa_star ha hr hs).imp fun σ H Q h => ?_
  obtain ⟨μ, S, ρ, hS, hρ, h⟩ := h
  refine tD_bind hS hρ h fun x S1 μ1 H1 v s1 r1 hv _ h1 => ?_
  cases e : itemsOf x S1 with
  | none => simp only [e] at h1; exact h1.elim
  | some ds =>
    simp only [e] at h1
    obtain ⟨q, vs, rfl, hq, hvs⟩ := items_sq s1 hv e
    refine ⟨q, vs, rfl, hq, ⟨μ1, S1, ρ, s1, r1, (Fine.bind h1).mono fun es2 S2 ν2 H2 l2 s2 q2 ws hws => ?_⟩⟩
    exact (show Fine X.K c.cl E (μ1 ++ ν2) H2 (.ok (ds ++ es2) S2) _ from q2).now s2 (vs ++ ws) ((Reps.later l2.kp ds vs hvs).app hws)
theorem pa_starLd {ml : M (List D)} (ha : PLd X c E a ml) (hr : PAd X c E es ms) (hs : starEach (.Starred a p :: es) X.env = (true, eval a X.env) :: starEach es X.env) : PAd X c E (.Starred a p :: es) (aStarL ml ms) := by
  refine (StX.pa_star ha hr hs).imp fun σ H Q h => ?_
  obtain ⟨μ, S, ρ, hS, hρ, h⟩ := h
  refine tL_bind hS hρ h fun ds S1 μ1 H1 q vs s1 r1 _ hq _ hvs _ h1 => ?_
  refine ⟨q, vs, rfl, .inr (SqL.of hq), ⟨μ1, S1, ρ, s1, r1, (Fine.bind h1).mono fun es2 S2 ν2 H2 l2 s2 q2 ws hws => ?_⟩⟩
  exact (show Fine X.K c.cl E (μ1 ++ ν2) H2 (.ok (ds ++ es2) S2) _ from q2).now s2 (vs ++ ws) ((Reps.later l2.kp ds vs hvs).app hws)
theorem pd_tup {x1} (h : PAd X c E es ms) : PEd X c E (.Tuple es x1 pos) (mTup ms) := by
  refine (pe_tup h).imp fun σ H Q h => ?_
  obtain ⟨μ, S, ρ, hS, hρ, h⟩ := h
  refine tDs_bind hS hρ h fun xs S1 μ1 H1 vs s1 r1 hvs _ h1 => ?_
  by_cases hz : xs.length ≤ sizeLine
  · simp only [hz, if_true] at h1
    refine ⟨by rw [hvs.len]; exact hz, fun q hq => h1.tmp s1 hq _ ?_⟩
    simp only [Rep]
    exact ⟨q, vs, rfl, upd_same, by simpa using Reps.later (ν := []) (Ltr.tmp (μ := μ1) hq).kp xs vs hvs⟩
  · simp only [hz, if_false] at h1; exact h1.elim
theorem pl_lst (h : PAd X c E es ms) : PLd X c E (.List es pos) (lLst ms) := by
  refine (pe_lst h).imp fun σ H Q h => ?_
  obtain ⟨μ, S, ρ, hS, hρ, h⟩ := h
  refine ⟨μ, S, ρ, hS, hρ, (Fine.bind h).mono fun xs S1 ν H1 l s1 h1 vs hvs => ?_⟩
  by_cases hz : xs.length ≤ sizeLine
  · simp only [hz, if_true] at h1
    exact ⟨by rw [hvs.len]; exact hz, fun q hq => h1.tmp s1 hq q vs (l.was hq) upd_same (s1.not hq) (by simpa using Reps.later (ν := []) (Ltr.tmp (μ := μ ++ ν) hq).kp xs vs hvs)⟩
  · simp only [hz, if_false] at h1; exact h1.elim
/-- a new list gets the next place -/
theorem pd_new {ml : M (List D)} (h : PLd X c E e ml) : PEd X c E e (mNew ml) := by
  refine h.imp fun σ H Q h => ?_
  obtain ⟨μ, S, ρ, hS, hρ, h⟩ := h
  refine ⟨μ, S, ρ, hS, hρ, ?_⟩
  unfold mNew M.bind at h
  cases r : ml c ρ S with
  | ok xs S1 =>
    rw [r] at h
    simp only [Res.bind] at h
    by_cases hz : xs.length ≤ sizeLine
    · simp only [hz, if_true] at h
      intro ν H1 l s1 q vs h0 hq hn hvs
      have l2 : Ltr μ (ν ++ [q]) H H1 := ⟨l.tup, l.frz, l.oth, l.all, fun a ha => by
        rcases List.mem_append.mp ha with z | z
        · exact l.new a z
        · rw [List.mem_singleton.mp z]; exact h0⟩
      refine h (ν ++ [q]) H1 l2 (by rw [← List.append_assoc]; exact s1.own hq hn hvs) (.ref q) ?_
      simp only [Rep]
      refine ⟨q, ?_, rfl⟩
      rw [← List.append_assoc, ← s1.len, List.getElem?_append_right (Nat.le_refl _)]
      simp
    · simp only [hz, if_false] at h; exact h.elim
  | exc k d S1 => rw [r] at h; exact h
  | bad => rw [r] at h; exact h
theorem Cok.callR (k : Cok g c lv E X) {x : Str} {i : Nat} (h : g.fns.lookup x = some i) : ∃ f, X.mg x = some (.ref f) ∧ PySem.W.keepIn X.K (.ref f) = true ∧ CallR X (.ref f) (rCall X.K c.cl E (c.call i)) := by
  obtain ⟨f, fd, ps, h1, h2, h3, h4, F⟩ := k.fn x i h
  refine ⟨f, h1, h2, fun pins s σ H vs us Q I r q => ?_⟩
  obtain ⟨μ, S, ds, hS, hv, hf⟩ := q
  have hl : ds.length = ps.length := by
    by_cases e : ds.length = ps.length
    · exact e
    · rw [h4 ds S e] at hf; exact hf.elim
  have hl2 : vs.length = ps.length := by rw [hv.len]; exact hl
  have hb := h3 s us I.kIn (by rw [List.append_nil, ← r.length]; exact hl2)
  rw [List.append_nil] at hb
  refine wpAny_call (codeAny_mono (F.run X.A X.stack s H ⟨us, []⟩ us vs Q E μ S ds k.room k.gd I.env0 hb r hl2 hS hv hf) fun r s' hq => ?_)
  cases r with
  | error e => exact k.px pins σ H s e s' I hq
  | ok fl =>
    cases fl with
    | ret u => exact I.after hq
    | next => exact False.elim hq
    | brk => exact False.elim hq
    | cont => exact False.elim hq
end
end Rf
end

section
set_option Elab.async false
set_option linter.all false
set_option maxRecDepth 100000
set_option maxHeartbeats 2000000
namespace Rf
open PySem PySem.Spec PyProof.Rows L2

section
variable {X : Cx} {c : Cm} {lv : Nat} {E : XK} {g : Gs} {a b e : Expr} {es rest : List Expr} {ma mb me : M D} {ta tb tu : M Bool} {ms : M (List D)} {pos p : Pos}
theorem truth_ok {K : PySem.W.Frag} {H : L2.Hp} {μ : List Addr} {S : Sto} {d : D} {v : V} {k : Bool} (hS : RepS K H μ S) (hv : Rep K H μ d v) (h : truth d S = some k) : TruV K v H k := by
  cases d with
  | non => simp only [Rep] at hv; subst hv; simp only [truth, Option.some.injEq] at h; exact h.symm
  | bl b => simp only [Rep] at hv; subst hv; simp only [truth, Option.some.injEq] at h; exact h.symm
  | int i => simp only [Rep] at hv; subst hv; simp only [truth, Option.some.injEq] at h; exact h.symm
  | str x =>
    simp only [Rep] at hv
    subst hv
    simp only [truth] at h
    by_cases hz : x.length ≤ sizeLine
    · simp only [hz, if_true, Option.some.injEq] at h
      exact ⟨hz, h.symm⟩
    · simp only [hz, if_false] at h; cases h
  | tup ds =>
    simp only [Rep] at hv
    obtain ⟨q, vs, h1, h2, h3⟩ := hv
    subst h1
    simp only [truth, Option.some.injEq] at h
    refine .inr (.inl ⟨vs, SqT.of h2, ?_⟩)
    rw [← h]
    have := h3.len
    cases vs <;> cases ds <;> simp_all
  | ref n =>
    simp only [Rep] at hv
    obtain ⟨q, h1, h2⟩ := hv
    subst h2
    simp only [truth] at h
    cases e : S[n]? with
    | none => rw [e] at h; cases h
    | some o =>
      rw [e] at h
      have w := hS.obj n o q e h1
      cases o with
      | lst es =>
        obtain ⟨vs, w1, w2⟩ := w
        simp only [Option.some.injEq] at h
        refine .inl ⟨vs, SqL.of w1, ?_⟩
        rw [← h]
        have := w2.len
        cases vs <;> cases es <;> simp_all
  | rol ns =>
    simp only [Rep] at hv
    obtain ⟨q, h1, h2⟩ := hv
    subst h1
    simp only [truth, Option.some.injEq] at h
    refine .inl ⟨_, h2.sq, ?_⟩
    rw [← h]
    cases ns <;> rfl
  | ty _ => cases h
theorem pt_tru (ha : PEd X c E a ma) (he : ∀ whole, isTrue a X.env whole = (do let v ← whole; standAt a.pos; holding [v] (truthy v))) : PTd X c E a (tTru ma) := by
  refine (pt_truth ha he).imp fun σ H Q h => ?_
  obtain ⟨μ, S, ρ, hS, hρ, h⟩ := h
  refine tD_bind hS hρ h fun x S1 μ1 H1 v s1 r1 hv _ h1 => ?_
  cases q : truth x S1 with
  | none => simp only [q] at h1; exact h1.elim
  | some k =>
    simp only [q] at h1
    exact ⟨k, truth_ok s1 hv q, h1.now s1⟩
theorem pw_an (ha : PTd X c E a ta) (hb : PWd X c E (.BoolOp .And (b :: rest) pos) tb) : PWd X c E (.BoolOp .And (a :: b :: rest) pos) (tAn ta tb) := by
  refine (pw_and ha hb).imp fun σ H Q h => ?_
  obtain ⟨μ, S, ρ, hS, hρ, h⟩ := h
  refine tT_bind hS hρ h fun k S1 μ1 H1 s1 r1 _ h1 => ?_
  cases k with
  | true => rw [if_pos rfl] at h1 ⊢; exact ⟨μ1, S1, ρ, s1, r1, h1⟩
  | false => rw [if_neg Bool.false_ne_true] at h1 ⊢; exact (show Fine X.K c.cl E μ1 H1 (.ok false S1) _ from h1).now s1
theorem pw_o (ha : PTd X c E a ta) (hb : PWd X c E (.BoolOp .Or (b :: rest) pos) tb) : PWd X c E (.BoolOp .Or (a :: b :: rest) pos) (tO ta tb) := by
  refine (pw_or ha hb).imp fun σ H Q h => ?_
  obtain ⟨μ, S, ρ, hS, hρ, h⟩ := h
  refine tT_bind hS hρ h fun k S1 μ1 H1 s1 r1 _ h1 => ?_
  cases k with
  | true => rw [if_pos rfl] at h1 ⊢; exact (show Fine X.K c.cl E μ1 H1 (.ok true S1) _ from h1).now s1
  | false => rw [if_neg Bool.false_ne_true] at h1 ⊢; exact ⟨μ1, S1, ρ, s1, r1, h1⟩
theorem pt_no (ha : PTd X c E a ta) : PTd X c E (.UnaryOp .Not a pos) (tNo ta) := by
  refine (pt_not ha).imp fun σ H Q h => ?_
  obtain ⟨μ, S, ρ, hS, hρ, h⟩ := h
  refine tT_bind hS hρ h fun k S1 μ1 H1 s1 r1 _ h1 => ?_
  exact (show Fine X.K c.cl E μ1 H1 (.ok (!k) S1) _ from h1).now s1
theorem pd_an (ha : PEd X c E a ma) (hb : PEd X c E (.BoolOp .And (b :: rest) pos) mb) : PEd X c E (.BoolOp .And (a :: b :: rest) pos) (mAn ma mb) := by
  refine (pe_and ha hb).imp fun σ H Q h => ?_
  obtain ⟨μ, S, ρ, hS, hρ, h⟩ := h
  refine tD_bind hS hρ h fun x S1 μ1 H1 v s1 r1 hv _ h1 => ?_
  cases x with
  | bl k =>
    simp only [Rep] at hv
    refine ⟨k, hv, ?_⟩
    cases k with
    | true => rw [if_pos rfl]; exact ⟨μ1, S1, ρ, s1, r1, h1⟩
    | false => rw [if_neg Bool.false_ne_true]; exact (show Fine X.K c.cl E μ1 H1 (.ok (D.bl false) S1) _ from h1).now s1 _ (by simp only [Rep])
  | _ => exact (show False from h1).elim
theorem pd_o (ha : PEd X c E a ma) (hb : PEd X c E (.BoolOp .Or (b :: rest) pos) mb) : PEd X c E (.BoolOp .Or (a :: b :: rest) pos) (mO ma mb) := by
  refine (pe_or ha hb).imp fun σ H Q h => ?_
  obtain ⟨μ, S, ρ, hS, hρ, h⟩ := h
  refine tD_bind hS hρ h fun x S1 μ1 H1 v s1 r1 hv _ h1 => ?_
  cases x with
  | bl k =>
    simp only [Rep] at hv
    refine ⟨k, hv, ?_⟩
    cases k with
    | true => rw [if_pos rfl]; exact (show Fine X.K c.cl E μ1 H1 (.ok (D.bl true) S1) _ from h1).now s1 _ (by simp only [Rep])
    | false => rw [if_neg Bool.false_ne_true]; exact ⟨μ1, S1, ρ, s1, r1, h1⟩
  | _ => exact (show False from h1).elim
theorem pd_no (ha : PEd X c E a ma) : PEd X c E (.UnaryOp .Not a pos) (mNo ma) := by
  refine (pe_notT ha).imp fun σ H Q h => ?_
  obtain ⟨μ, S, ρ, hS, hρ, h⟩ := h
  refine tD_bind hS hρ h fun x S1 μ1 H1 v s1 r1 hv _ h1 => ?_
  cases q : truth x S1 with
  | none => simp only [q] at h1; exact h1.elim
  | some k =>
    simp only [q] at h1
    exact ⟨k, truth_ok s1 hv q, h1.now s1 _ (by simp only [Rep])⟩
theorem pd_if {t : Expr} (ht : PTd X c E t ta) (ha : PEd X c E a ma) (hb : PEd X c E b mb) : PEd X c E (.IfExp t a b pos) (mIf ta ma mb) := by
  refine (pe_ifExp ht ha hb).imp fun σ H Q h => ?_
  obtain ⟨μ, S, ρ, hS, hρ, h⟩ := h
  refine tT_bind hS hρ h fun k S1 μ1 H1 s1 r1 _ h1 => ?_
  cases k with
  | true => rw [if_pos rfl] at h1 ⊢; exact ⟨μ1, S1, ρ, s1, r1, h1⟩
  | false => rw [if_neg Bool.false_ne_true] at h1 ⊢; exact ⟨μ1, S1, ρ, s1, r1, h1⟩
theorem pd_un {op : UnaryOp} {f : D → Sto → Res D} (ho : UnR X (unaryOp op) fun x H Q => ∃ μ S d, RepS X.K H μ S ∧ Rep X.K H μ d x ∧ Fine X.K c.cl E μ H (f d S) fun d _ μ' H' => ∀ v, Rep X.K H' μ' d v → Q v H') (ha : PEd X c E a ma) :
    PEd X c E (.UnaryOp op a pos) (mUn f ma) := by
  refine (pe_un ho ha).imp fun σ H Q h => ?_
  obtain ⟨μ, S, ρ, hS, hρ, h⟩ := h
  exact tD_bind hS hρ h fun x S1 μ1 H1 v s1 r1 hv _ h1 => ⟨μ1, S1, x, s1, hv, h1⟩

/-! ### calls -/
theorem pd_call (k : Cok g c lv E X) {x : Str} {i : Nat} (hg : g.sc.names.lookup x = some .globalImplicit) (hf : g.fns.lookup x = some i) (ha : PAd X c E (e :: es) ms) (hd : (x == ("__debug__" : Str)) = false)
    (he : starEach (e :: es) X.env = (false, eval e X.env) :: starEach es X.env) (hpl : (backTo pos (starEach es X.env)).any (·.1) = false) : PEd X c E (.Call (.Name x p) (e :: es) [] pos) (mCall i ms) := by
  obtain ⟨f, hm, hk, hc⟩ := k.callR hf
  refine ⟨fun pins s σ H Q I h => ?_⟩
  refine wpAny_Call_Name_kw (ld_glob I (by unfold Gl Env.kindOf; rw [k.sc]; exact hg) hm ?_ hd)
  have ha' : PA X (e :: es) fun σ H Q => tDs X.K E c ms σ H Q := ha
  obtain ⟨μ, S, ρ, hS, hρ, h⟩ := h
  have h2 : tDs X.K E c ms σ H fun vs H1 => rCall X.K c.cl E (c.call i) vs H1 Q :=
    tDs_bind hS hρ h fun ds S1 μ1 H1 vs s1 r1 hv _ h1 => ⟨μ1, S1, ds, s1, hv, h1⟩
  exact PySem.W.callWith_K (h₀ := X.base) I.ok.mod.kin hk (thn (ha.run pos pins s σ H _ I h2) fun us s1 ⟨vs, H1, I1, r, q⟩ => ⟨I1.kIn, hc pins s1 σ H1 vs us Q I1 r q⟩) he hpl
theorem pd_call0 (k : Cok g c lv E X) {x : Str} {i : Nat} (hg : g.sc.names.lookup x = some .globalImplicit) (hf : g.fns.lookup x = some i) (hd : (x == ("__debug__" : Str)) = false) :
    PEd X c E (.Call (.Name x p) [] [] pos) (mCall i aNil) := by
  obtain ⟨f, hm, hk, hc⟩ := k.callR hf
  refine ⟨fun pins s σ H Q I h => ?_⟩
  refine wpAny_Call_Name_kw (ld_glob I (by unfold Gl Env.kindOf; rw [k.sc]; exact hg) hm ?_ hd)
  obtain ⟨μ, S, ρ, hS, hρ, h⟩ := h
  exact PySem.W.callWith_K0 I.kIn hk (hc pins s σ H [] [] Q I .nil ⟨μ, S, [], hS, .nil, h⟩)
theorem pd_bi (k : Cok g c lv E X) {x : Str} {id : String} {f : CallD} (hc : CallR X (.builtin id) (rCall X.K c.cl E f)) (hg : g.sc.names.lookup x = some .globalImplicit) (hb : x ∈ g.bis) (hv : bootBuiltins x = some (.builtin id))
    (ha : PAd X c E (e :: es) ms) (hn : x ≠ "__name__") (hd : (x == ("__debug__" : Str)) = false)
    (he : starEach (e :: es) X.env = (false, eval e X.env) :: starEach es X.env) (hpl : (backTo pos (starEach es X.env)).any (·.1) = false) : PEd X c E (.Call (.Name x p) (e :: es) [] pos) (mBi f ms) := by
  refine (pe_callB hc (by unfold Gl Env.kindOf; rw [k.sc]; exact hg) (k.bi x hb) hv ha hn hd he hpl).imp fun σ H Q h => ?_
  obtain ⟨μ, S, ρ, hS, hρ, h⟩ := h
  exact tDs_bind hS hρ h fun ds S1 μ1 H1 vs s1 r1 hv _ h1 => ⟨μ1, S1, ds, s1, hv, h1⟩
theorem pd_ty (k : Cok g c lv E X) {x : Str} {T : String} {f : CallD} (hc : CallR X (.type T) (rCall X.K c.cl E f)) (hg : g.sc.names.lookup x = some .globalImplicit) (hb : x ∈ g.bis) (hv : bootBuiltins x = some (.type T))
    (ha : PAd X c E (e :: es) ms) (hn : x ≠ "__name__") (hd : (x == ("__debug__" : Str)) = false)
    (he : starEach (e :: es) X.env = (false, eval e X.env) :: starEach es X.env) (hpl : (backTo pos (starEach es X.env)).any (·.1) = false) : PEd X c E (.Call (.Name x p) (e :: es) [] pos) (mBi f ms) := by
  refine (pe_callTy hc (by unfold Gl Env.kindOf; rw [k.sc]; exact hg) (k.bi x hb) hv ha hn hd he hpl).imp fun σ H Q h => ?_
  obtain ⟨μ, S, ρ, hS, hρ, h⟩ := h
  exact tDs_bind hS hρ h fun ds S1 μ1 H1 vs s1 r1 hv _ h1 => ⟨μ1, S1, ds, s1, hv, h1⟩
/-- a built-in called upon one new list that no one else holds -/
abbrev ListF := List D → Sto → Res D
def mLi (f : ListF) (m : M (List D)) : M D := m.bind fun ds => fun _ _ S => f ds S
def rList (K : PySem.W.Frag) (cl : Nat → Addr) (E : XK) (f : ListF) : List V → L2.Hp → VK → Prop := fun xs H Q => ∃ μ S ds q vs, xs = [.ref q] ∧ RepS K H μ S ∧ H q = some (.lst vs) ∧ q ∉ μ ∧ Reps K H μ ds vs ∧ Fine K cl E μ H (f ds S) fun d _ μ' H' => ∀ v, Rep K H' μ' d v → Q v H'
theorem pd_bil (k : Cok g c lv E X) {x : Str} {id : String} {f : ListF} {ml : M (List D)} (hc : CallR X (.builtin id) (rList X.K c.cl E f)) (hg : g.sc.names.lookup x = some .globalImplicit) (hb : x ∈ g.bis) (hv : bootBuiltins x = some (.builtin id))
    (ha : PLd X c E e ml) (hn : x ≠ "__name__") (hd : (x == ("__debug__" : Str)) = false)
    (he : starEach [e] X.env = [(false, eval e X.env)]) : PEd X c E (.Call (.Name x p) [e] [] pos) (mLi f ml) := by
  refine (pe_callB hc (by unfold Gl Env.kindOf; rw [k.sc]; exact hg) (k.bi x hb) hv (pa_cons ha pa_nil (by rw [he]; rfl)) hn hd (by rw [he]; rfl) rfl).imp fun σ H Q h => ?_
  obtain ⟨μ, S, ρ, hS, hρ, h⟩ := h
  show tL X.K E c ml σ H fun y H1 => rList X.K c.cl E f [y] H1 Q
  exact tL_bind hS hρ h fun ds S1 μ1 H1 q vs s1 r1 _ hq hn hvs _ h1 => ⟨μ1, S1, ds, q, vs, rfl, s1, hq, hn, hvs, h1⟩
theorem pd_tyl (k : Cok g c lv E X) {x : Str} {T : String} {f : ListF} {ml : M (List D)} (hc : CallR X (.type T) (rList X.K c.cl E f)) (hg : g.sc.names.lookup x = some .globalImplicit) (hb : x ∈ g.bis) (hv : bootBuiltins x = some (.type T))
    (ha : PLd X c E e ml) (hn : x ≠ "__name__") (hd : (x == ("__debug__" : Str)) = false)
    (he : starEach [e] X.env = [(false, eval e X.env)]) : PEd X c E (.Call (.Name x p) [e] [] pos) (mLi f ml) := by
  refine (pe_callTy hc (by unfold Gl Env.kindOf; rw [k.sc]; exact hg) (k.bi x hb) hv (pa_cons ha pa_nil (by rw [he]; rfl)) hn hd (by rw [he]; rfl) rfl).imp fun σ H Q h => ?_
  obtain ⟨μ, S, ρ, hS, hρ, h⟩ := h
  show tL X.K E c ml σ H fun y H1 => rList X.K c.cl E f [y] H1 Q
  exact tL_bind hS hρ h fun ds S1 μ1 H1 q vs s1 r1 _ hq hn hvs _ h1 => ⟨μ1, S1, ds, q, vs, rfl, s1, hq, hn, hvs, h1⟩
end
end Rf
end

section
set_option Elab.async false
set_option linter.all false
set_option maxRecDepth 100000
set_option maxHeartbeats 2000000
namespace Rf
open PySem PySem.Spec PyProof.Rows L2

/-! ### statements -/
def sNil : MS := fun _ ρ S => .ok (.nx ρ) S
def sSeq (a b : MS) : MS := fun c ρ S => (a c ρ S).bind fun o S1 => match o with
  | .nx ρ1 => b c ρ1 S1
  | o => .ok o S1
def sRet (m : M D) : MS := m.bind fun d => M.ret (.rt d)
def sRetN : MS := M.ret (.rt .non)
def sDrop (m : M D) : MS := m.bind fun _ => fun _ ρ S => .ok (.nx ρ) S
def sIf (t : M Bool) (a b : MS) : MS := t.bind fun k => if k = true then a else b
/-- targets: what a value does to the slots -/
inductive Tg where
  | nm (i : Nat)
  | tp (ts : List Tg)
mutual
def Tg.put : Tg → D → Ev → Option Ev
  | .nm i, d, ρ => some (ρ.set i (some d))
  | .tp ts, .tup ds, ρ => Tg.puts ts ds ρ
  | .tp _, _, _ => none
def Tg.puts : List Tg → List D → Ev → Option Ev
  | [], [], ρ => some ρ
  | t :: ts, d :: ds, ρ => match Tg.put t d ρ with
    | some ρ1 => Tg.puts ts ds ρ1
    | none => none
  | _, _, _ => none
end
mutual
def Tg.slots : Tg → List Nat
  | .nm i => [i]
  | .tp ts => Tg.slotss ts
def Tg.slotss : List Tg → List Nat
  | [] => []
  | t :: ts => Tg.slots t ++ Tg.slotss ts
end
def sAsg (t : Tg) (m : M D) : MS := m.bind fun d => fun _ ρ S => match t.put d ρ with
  | some ρ1 => .ok (.nx ρ1) S
  | none => .bad
/-- xs[i] = v of a list -/
def setD (o i v : D) (S : Sto) : Res Unit := match o, i with
  | .ref k, .int n => match S[k]? with
    | some (.lst ds) => match ixN ds.length n with
      | some j => .ok () (S.set k (.lst (ds.set j v)))
      | none => .bad
    | _ => .bad
  | _, _ => .bad
def sSub (mo mi mv : M D) : MS := mv.bind fun v => mo.bind fun o => mi.bind fun i => fun _ ρ S => (setD o i v S).bind fun _ S1 => .ok (.nx ρ) S1

section
variable {X : Cx} {c : Cm} {lv : Nat} {E : XK} {g : Gs} {a b e : Expr} {es : List Expr} {ma mb me : M D} {ta : M Bool} {st : Stmt} {sts sts' : List Stmt} {s t : MS} {pos p : Pos}
theorem pss_nild : PSsd X c E [] sNil := pss_nil.imp fun D σ H h => by
  obtain ⟨μ, S, ρ, hS, hρ, h⟩ := h
  exact (show Fine X.K c.cl E μ H (.ok (Out.nx ρ) S) _ from h).now hS σ hρ
theorem pss_consd (h1 : PSd X c E st s) (h2 : PSsd X c E sts t) : PSsd X c E (st :: sts) (sSeq s t) := by
  refine (pss_cons h1 h2).imp fun D σ H h => ?_
  obtain ⟨μ, S, ρ, hS, hρ, h⟩ := h
  refine ⟨μ, S, ρ, hS, hρ, (Fine.bind h).mono fun o S1 ν H1 l s1 q => ?_⟩
  cases o with
  | nx ρ1 => exact fun σ1 r1 => ⟨μ ++ ν, S1, ρ1, s1, r1, q⟩
  | rt d => exact (show Fine X.K c.cl E (μ ++ ν) H1 (.ok (Out.rt d) S1) _ from q).now s1
  | bk ρ1 => exact (show Fine X.K c.cl E (μ ++ ν) H1 (.ok (Out.bk ρ1) S1) _ from q).now s1
  | ct ρ1 => exact (show Fine X.K c.cl E (μ ++ ν) H1 (.ok (Out.ct ρ1) S1) _ from q).now s1
theorem pss_oned (h1 : PSd X c E st s) : PSsd X c E [st] s := (pss_one h1).imp fun D σ H h => h
theorem ps_retd (h : PEd X c E e me) : PSd X c E (.Return (some e) pos) (sRet me) := (ps_ret h).imp fun D σ H h => by
  obtain ⟨μ, S, ρ, hS, hρ, h⟩ := h
  exact tD_bind hS hρ h fun x S1 μ1 H1 v s1 r1 hv _ h1 => (show Fine X.K c.cl E μ1 H1 (.ok (Out.rt x) S1) _ from h1).now s1 v hv
theorem ps_retNd : PSd X c E (.Return none pos) sRetN := ps_retN.imp fun D σ H h => by
  obtain ⟨μ, S, ρ, hS, hρ, h⟩ := h
  exact (show Fine X.K c.cl E μ H (.ok (Out.rt Rf.D.non) S) _ from h).now hS _ (by simp only [Rep])
theorem ps_dropd (h : PEd X c E e me) (hs : swapsWith e none pos.line X.env = pure false) : PSd X c E (.Expr e pos) (sDrop me) := (ps_expr h hs).imp fun D σ H h => by
  obtain ⟨μ, S, ρ, hS, hρ, h⟩ := h
  exact tD_bind hS hρ h fun x S1 μ1 H1 v s1 r1 hv _ h1 => (show Fine X.K c.cl E μ1 H1 (.ok (Out.nx ρ) S1) _ from h1).now s1 σ r1
theorem ps_docd {x j pos'} : PSd X c E (.Expr (.Constant (.str x) j pos) pos') sNil := ps_doc.imp fun D σ H h => by
  obtain ⟨μ, S, ρ, hS, hρ, h⟩ := h
  exact (show Fine X.K c.cl E μ H (.ok (Out.nx ρ) S) _ from h).now hS σ hρ
theorem ps_passd : PSd X c E (.Pass pos) sNil := ps_pass.imp fun D σ H h => by
  obtain ⟨μ, S, ρ, hS, hρ, h⟩ := h
  exact (show Fine X.K c.cl E μ H (.ok (Out.nx ρ) S) _ from h).now hS σ hρ
theorem ps_ifd (ht : PTd X c E e ta) (h1 : PSsd X c E sts s) (h2 : PSsd X c E sts' t) : PSd X c E (.If e sts sts' pos) (sIf ta s t) := (ps_if ht h1 h2).imp fun D σ H h => by
  obtain ⟨μ, S, ρ, hS, hρ, h⟩ := h
  refine tT_bind hS hρ h fun k S1 μ1 H1 s1 r1 _ h1 => ?_
  cases k with
  | true => rw [if_pos rfl] at h1 ⊢; exact ⟨μ1, S1, ρ, s1, r1, h1⟩
  | false => rw [if_neg Bool.false_ne_true] at h1 ⊢; exact ⟨μ1, S1, ρ, s1, r1, h1⟩

/-! ### targets -/
/-- a target does what t says -/
def tGd (K : PySem.W.Frag) (t : Tg) : TG := fun v σ H Q => ∃ μ ρ d ρ', RepE K H μ ρ σ ∧ Rep K H μ d v ∧ t.put d ρ = some ρ' ∧ ∀ σ', RepE K H μ ρ' σ' → (∀ j, j ∉ t.slots → σ'[j]? = σ[j]?) → Q σ' H
def tGds (K : PySem.W.Frag) (ts : List Tg) : TGs := fun vs σ H Q => ∃ μ ρ ds ρ', RepE K H μ ρ σ ∧ Reps K H μ ds vs ∧ Tg.puts ts ds ρ = some ρ' ∧ ∀ σ', RepE K H μ ρ' σ' → (∀ j, j ∉ Tg.slotss ts → σ'[j]? = σ[j]?) → Q σ' H
theorem _root_.L2.PG.imp {X : Cx} {e : Expr} {t t' : TG} (h : PG X e t) (i : ∀ v σ H Q, t' v σ H Q → t v σ H Q) : PG X e t' := ⟨fun pins s σ H v u Q I r q => h.run pins s σ H v u Q I r (i v σ H Q q)⟩
theorem _root_.L2.PGs.imp {X : Cx} {es : List Expr} {t t' : TGs} (h : PGs X es t) (i : ∀ vs σ H Q, t' vs σ H Q → t vs σ H Q) : PGs X es t' := ⟨fun pins s σ H vs us Q I r q => h.run pins s σ H vs us Q I r (i vs σ H Q q)⟩
theorem pg_nm (k : Cok g c lv E X) {i : Nat} {x : Str} (hi : g.N[i]? = some x) (hx : Loc g.sc x) (hf : X.fn x = true ∨ X.env.scope.names.lookup x = some .local) : PG X (.Name x pos) (tGd X.K (.nm i)) := by
  refine (pg_name k.nd (by rw [k.N]; exact hi) (by rw [k.sc]; exact hx) hf).imp fun v σ H Q h => ?_
  obtain ⟨μ, ρ, d, ρ', hρ, hd, hp, q⟩ := h
  simp only [Tg.put, Option.some.injEq] at hp
  subst hp
  refine q _ (hρ.set hd) fun j hj => ?_
  simp only [Tg.slots, List.mem_singleton] at hj
  rw [List.getElem?_set_ne (Ne.symm hj)]
theorem pgs_nild : PGs X [] (tGds X.K []) := pgs_nil.imp fun vs σ H Q h => by
  obtain ⟨μ, ρ, ds, ρ', hρ, hd, hp, q⟩ := h
  cases ds with
  | nil =>
    simp only [Tg.puts, Option.some.injEq] at hp
    subst hp
    simp only [Reps] at hd
    exact ⟨hd, q σ hρ fun _ _ => rfl⟩
  | cons d ds => simp only [Tg.puts] at hp; cases hp
theorem pgs_consd {t : Tg} {ts : List Tg} (h1 : PG X e (tGd X.K t)) (h2 : PGs X es (tGds X.K ts)) (hs : (assignEach (e :: es) X.env).map (·.2) = assign e X.env :: (assignEach es X.env).map (·.2)) : PGs X (e :: es) (tGds X.K (t :: ts)) := by
  refine (pgs_cons h1 h2 hs).imp fun vs σ H Q h => ?_
  obtain ⟨μ, ρ, ds, ρ', hρ, hd, hp, q⟩ := h
  cases ds with
  | nil => simp only [Tg.puts] at hp; cases hp
  | cons d ds =>
    simp only [Reps] at hd
    obtain ⟨v, r, h3, h4, h5⟩ := hd
    simp only [Tg.puts] at hp
    cases e1 : t.put d ρ with
    | none => rw [e1] at hp; cases hp
    | some ρ1 =>
      rw [e1] at hp
      refine ⟨v, r, h3, μ, ρ, d, ρ1, hρ, h4, e1, fun σ1 r1 a1 => ⟨μ, ρ1, ds, ρ', r1, h5, hp, fun σ2 r2 a2 => q σ2 r2 fun j hj => ?_⟩⟩
      simp only [Tg.slotss, List.mem_append, not_or] at hj
      rw [a2 j hj.2, a1 j hj.1]
theorem pg_tp (k : Cok g c lv E X) {ts : List Tg} {n : Nat} {x1} (h : PGs X es (tGds X.K ts)) (hn : (assignEach es X.env).length = n) (hl : ts.length = n) (hst : (assignEach es X.env).findIdx? (·.1) = none) : PG X (.Tuple es x1 pos) (tGd X.K (.tp ts)) := by
  refine (pg_tup k.calm h hn hst).imp fun v σ H Q h => ?_
  obtain ⟨μ, ρ, d, ρ', hρ, hd, hp, q⟩ := h
  cases d with
  | tup ds =>
    simp only [Tg.put] at hp
    simp only [Rep] at hd
    obtain ⟨w, vs, h1, h2, h3⟩ := hd
    refine ⟨w, vs, h1, SqT.of h2, ?_, μ, ρ, ds, ρ', hρ, h3, hp, q⟩
    have len : ∀ (ts : List Tg) (ds : List D) (ρ ρ' : Ev), Tg.puts ts ds ρ = some ρ' → ds.length = ts.length := by
      intro ts
      induction ts with
      | nil => intro ds ρ ρ' h; cases ds with
        | nil => rfl
        | cons d ds => simp only [Tg.puts] at h; cases h
      | cons t ts ih =>
        intro ds ρ ρ' h
        cases ds with
        | nil => simp only [Tg.puts] at h; cases h
        | cons d ds =>
          simp only [Tg.puts] at h
          cases e1 : t.put d ρ with
          | none => rw [e1] at h; cases h
          | some ρ1 => rw [e1] at h; rw [List.length_cons, List.length_cons, ih ds ρ1 ρ' h]
    rw [h3.len, len ts ds ρ ρ' hp, hl]
  | _ => simp only [Tg.put] at hp; cases hp
theorem ps_asgd {tg : Expr} {t : Tg} (he : PEd X c E e me) (hg : PG X tg (tGd X.K t)) (hs : swapsWithSole [tg] e pos.line X.env = pure false) (hw : swappedStores [tg] e X.env = pure none)
    (h1 : (assignEach [tg] X.env).map (·.2) = [assign tg X.env]) : PSd X c E (.Assign [tg] e pos) (sAsg t me) := (ps_asg he hg hs hw h1).imp fun D σ H h => by
  obtain ⟨μ, S, ρ, hS, hρ, h⟩ := h
  refine tD_bind hS hρ h fun x S1 μ1 H1 v s1 r1 hv _ h1 => ?_
  cases e1 : t.put x ρ with
  | none => simp only [e1] at h1; exact h1.elim
  | some ρ1 =>
    simp only [e1] at h1
    exact ⟨μ1, ρ, x, ρ1, r1, hv, e1, fun σ1 r2 _ => (show Fine X.K c.cl E μ1 H1 (.ok (Out.nx ρ1) S1) _ from h1).now s1 σ1 r2⟩
theorem ps_setd (k : Cok g c lv E X) {i : Nat} {x : Str} {pos' : Pos} (hi : g.N[i]? = some x) (hx : Loc g.sc x) (he : PEd X c E e me) (hs : swapsWith e (some (.Name x pos')) pos.line X.env = pure false)
    (hf : X.fn x = true ∨ X.env.scope.names.lookup x = some .local) : PSd X c E (.Assign [.Name x pos'] e pos) (sAsg (.nm i) me) := by
  refine (ps_set k.nd (by rw [k.N]; exact hi) (by rw [k.sc]; exact hx) he hs hf).imp fun D σ H h => ?_
  obtain ⟨μ, S, ρ, hS, hρ, h⟩ := h
  refine tD_bind hS hρ h fun x S1 μ1 H1 v s1 r1 hv _ h1 => ?_
  simp only [Tg.put] at h1
  exact (show Fine X.K c.cl E μ1 H1 (.ok (Out.nx (ρ.set i (some x))) S1) _ from h1).now s1 _ (r1.set hv)
theorem ps_subd {o i : Expr} {mo mi : M D} (he : PEd X c E e me) (ho : PEd X c E o mo) (hi : PEd X c E i mi) (hs : swapsWithSole [.Subscript o i p] e pos.line X.env = pure false) (hw : swappedStores [.Subscript o i p] e X.env = pure none)
    (ha : ∀ v, assign (.Subscript o i p) X.env v = (do
      let ov ← holding [v] (eval o X.env)
      let iv ← holding [v, ov] (eval i X.env)
      standAt p
      holding [v, ov, iv] (setItem ov iv v)
      release [v, ov, iv] [])) (h1 : (assignEach [.Subscript o i p] X.env).map (·.2) = [assign (.Subscript o i p) X.env]) : PSd X c E (.Assign [.Subscript o i p] e pos) (sSub mo mi me) := by
  refine (ps_asg he (pg_sub ho hi set_list ha) hs hw h1).imp fun D σ H h => ?_
  obtain ⟨μ, S, ρ, hS, hρ, h⟩ := h
  refine tD_bind hS hρ h fun x S1 μ1 H1 v s1 r1 hv _ h1 => ?_
  refine tD_bind s1 r1 h1 fun y S2 μ2 H2 w s2 r2 hw l2 h2 => ?_
  refine tD_bind s2 r2 h2 fun z S3 μ3 H3 u s3 r3 hu l3 h3 => ?_
  have hv := l3 _ _ (l2 _ _ hv)
  have hw := l3 _ _ hw
  cases y with
  | ref k =>
    cases z with
    | int n =>
      simp only [setD] at h3
      cases e1 : S3[k]? with
      | none => rw [e1] at h3; exact h3.elim
      | some ob =>
        rw [e1] at h3
        cases ob with
        | lst ds =>
          simp only at h3
          cases e2 : ixN ds.length n with
          | none => rw [e2] at h3; exact h3.elim
          | some j =>
            rw [e2] at h3
            simp only [Rep] at hw hu
            obtain ⟨q, hq, rfl⟩ := hw
            have w3 := s3.obj k _ q e1 hq
            obtain ⟨ws, w4, w5⟩ := w3
            refine ⟨q, ws, n, j, rfl, hu, w4, by rw [w5.len]; exact e2, ?_⟩
            have h3 : Fine X.K c.cl E μ3 H3 (.ok (Out.nx ρ) (S3.set k (.lst (ds.set j x)))) (EndsD X.K D) := h3
            have l := Ltr.lst (μ := μ3) (o := .lst (ws.set j v)) (List.mem_of_getElem? hq) w4
            have := h3 [] _ l (by simpa using s3.wr e1 hq w4 (Reps.set hv j w5))
            exact this σ (by simpa using r3.later l)
    | _ => exact (show False from h3).elim
  | _ => exact (show False from h3).elim
end
end Rf
end

section
set_option Elab.async false
set_option linter.all false
set_option maxRecDepth 100000
set_option maxHeartbeats 2000000
namespace Rf
open PySem PySem.Spec PyProof.Rows L2

/-! ### what is walked -/
structure Src where
  items : List D
  grd : Sto → Prop
/-- a J that gives the items while the guard holds -/
structure Goes (K : PySem.W.Frag) (J : It) (w : Src) (μ : List Addr) (H : L2.Hp) : Prop where
  go : ∀ (i : Nat) (ν : List Addr) (H1 : L2.Hp) (S : Sto) (d : D), Ltr μ ν H H1 → RepS K H1 (μ ++ ν) S → w.grd S → w.items[i]? = some d → J.go i H1 ∧
    ∀ x H2, J.yld i H1 x H2 → Ltr (μ ++ ν) [] H1 H2 ∧ RepS K H2 (μ ++ ν) S ∧ Rep K H2 (μ ++ ν) d x
  stop : ∀ (ν : List Addr) (H1 : L2.Hp) (S : Sto), Ltr μ ν H H1 → RepS K H1 (μ ++ ν) S → w.grd S → J.stop w.items.length H1
def tI (K : PySem.W.Frag) (E : XK) (c : Cm) (m : M Src) : TI := fun σ H R => ∃ μ S ρ, RepS K H μ S ∧ RepE K H μ ρ σ ∧ Fine K c.cl E μ H (m c ρ S) fun w _ μ' H' => ∀ J, Goes K J w μ' H' → R J H'
theorem _root_.L2.PI.imp {X : Cx} {tg e : Expr} {t t' : TI} (h : PI X tg e t) (i : ∀ σ H R, t' σ H R → t σ H R) : PI X tg e t' := ⟨fun pins s σ H R I q => h.run pins s σ H R I (i σ H R q)⟩
abbrev PId (X : Cx) (c : Cm) (E : XK) (tg e : Expr) (m : M Src) : Prop := PI X tg e (tI X.K E c m)

def iTupD (m : M D) : M Src := m.bind fun d => match d with
  | .tup ds => M.ret ⟨ds, fun _ => True⟩
  | _ => M.bad
/-- a list, a tuple, what is read only -/
def iSeq (m : M D) : M Src := m.bind fun d => fun _ _ S => match d with
  | .ref k => match S[k]? with
    | some (.lst ds) => .ok ⟨ds, fun S' => S'[k]? = some (.lst ds)⟩ S
    | none => .bad
  | .rol ns => .ok ⟨ns.map .int, fun _ => True⟩ S
  | _ => .bad
/-- a list that no one else holds -/
def iNew (m : M (List D)) : M Src := m.bind fun ds => M.ret ⟨ds, fun _ => True⟩
def small (j : Int) : Bool := decide (-(2 ^ 62) ≤ j) && decide (j < 2 ^ 62)
def rangeD (lo hi : Int) : List D := (List.range (hi - lo).toNat).map fun i => .int (lo + (i : Nat))
def iRg1 (m : M (List D)) : M Src := m.bind fun ds => match ds with
  | [.int j] => if small j = true then M.ret ⟨rangeD 0 j, fun _ => True⟩ else M.bad
  | _ => M.bad
def iRg2 (m : M (List D)) : M Src := m.bind fun ds => match ds with
  | [.int i, .int j] => if small i = true ∧ small j = true then M.ret ⟨rangeD i j, fun _ => True⟩ else M.bad
  | _ => M.bad
def zipD : List D → List D → List D
  | x :: xs, y :: ys => .tup [x, y] :: zipD xs ys
  | _, _ => []
def iZip (m : M (List D)) : M Src := m.bind fun ds => match ds with
  | [.tup xs, .tup ys] => M.ret ⟨zipD xs ys, fun _ => True⟩
  | _ => M.bad

section
variable {X : Cx} {c : Cm} {lv : Nat} {E : XK} {g : Gs} {a b e tg : Expr} {es : List Expr} {ma mb me : M D} {ml ms : M (List D)} {pos p : Pos}
theorem rep_range {K : PySem.W.Frag} {H : L2.Hp} {μ : List Addr} {lo hi : Int} {i : Nat} {d : D} (h : (rangeD lo hi)[i]? = some d) : i < (hi - lo).toNat ∧ Rep K H μ d (.int (lo + (i : Nat))) := by
  unfold rangeD at h
  rw [List.getElem?_map] at h
  by_cases hi : i < (hi - lo).toNat
  · rw [List.getElem?_range hi] at h
    simp at h
    subst h
    exact ⟨hi, by simp only [Rep]⟩
  · rw [List.getElem?_eq_none (by simpa using hi)] at h
    cases h
theorem goes_tup {K : PySem.W.Frag} {q : Addr} {vs : List V} {ds : List D} {μ : List Addr} {H : L2.Hp} (hq : H q = some (.tup vs)) (hv : Reps K H μ ds vs) : Goes K (Itt K q) ⟨ds, fun _ => True⟩ μ H where
  go := fun i ν H1 S d l s _ hi => by
    obtain ⟨v, h1, h2⟩ := hv.getD hi
    have hq1 := SqT.of (K := K) (l.tup _ _ hq)
    refine ⟨⟨vs, v, hq1, h1⟩, fun x H2 y => ?_⟩
    obtain ⟨rfl, y⟩ := y
    have := y vs hq1
    rw [h1] at this
    cases this
    exact ⟨Ltr.refl _ _, s, Rep.later l.kp d v h2⟩
  stop := fun ν H1 S l s _ => ⟨vs, SqT.of (l.tup _ _ hq), by rw [hv.len]; exact Nat.le_refl _⟩
theorem goes_list {K : PySem.W.Frag} {q : Addr} {ds : List D} {G : Sto → Prop} {μ : List Addr} {H : L2.Hp} (h : ∀ ν H1 S, Ltr μ ν H H1 → RepS K H1 (μ ++ ν) S → G S → ∃ vs, SqL K H1 q vs ∧ Reps K H1 (μ ++ ν) ds vs) : Goes K (Itl K q) ⟨ds, G⟩ μ H where
  go := fun i ν H1 S d l s hg hi => by
    obtain ⟨vs, hq1, hv⟩ := h ν H1 S l s hg
    obtain ⟨v, h1, h2⟩ := hv.getD hi
    refine ⟨⟨vs, v, hq1, h1⟩, fun x H2 y => ?_⟩
    obtain ⟨rfl, y⟩ := y
    have := y vs hq1
    rw [h1] at this
    cases this
    exact ⟨Ltr.refl _ _, s, h2⟩
  stop := fun ν H1 S l s hg => by
    obtain ⟨vs, hq1, hv⟩ := h ν H1 S l s hg
    exact ⟨vs, hq1, by rw [hv.len]; exact Nat.le_refl _⟩
theorem pi_tupd (h : PEd X c E e me) : PId X c E tg e (iTupD me) := by
  refine (pi_tup h).imp fun σ H R h => ?_
  obtain ⟨μ, S, ρ, hS, hρ, h⟩ := h
  refine tD_bind hS hρ h fun x S1 μ1 H1 v s1 r1 hv _ h1 => ?_
  cases x with
  | tup ds =>
    simp only [Rep] at hv
    obtain ⟨q, vs, rfl, h2, h3⟩ := hv
    exact ⟨q, rfl, ⟨vs, SqT.of h2⟩, (show Fine X.K c.cl E μ1 H1 (.ok (⟨ds, fun _ => True⟩ : Src) S1) _ from h1).now s1 _ (goes_tup h2 h3)⟩
  | _ => exact (show False from h1).elim
theorem pi_seqd (h : PEd X c E e me) : PId X c E tg e (iSeq me) := by
  refine (pi_list h).imp fun σ H R h => ?_
  obtain ⟨μ, S, ρ, hS, hρ, h⟩ := h
  refine tD_bind hS hρ h fun x S1 μ1 H1 v s1 r1 hv _ h1 => ?_
  cases x with
  | ref k =>
    simp only [Rep] at hv
    obtain ⟨q, h2, rfl⟩ := hv
    simp only at h1
    cases e1 : S1[k]? with
    | none => simp only [e1] at h1; exact h1.elim
    | some o =>
      cases o with
      | lst ds =>
        simp only [e1] at h1
        obtain ⟨vs, w1, w2⟩ := s1.obj k _ q e1 h2
        refine ⟨q, rfl, ⟨vs, SqL.of w1⟩, (show Fine X.K c.cl E μ1 H1 (.ok (⟨ds, fun S' => S'[k]? = some (.lst ds)⟩ : Src) S1) _ from h1).now s1 _ (goes_list fun ν H2 S2 l s2 hg => ?_)⟩
        have hk : (μ1 ++ ν)[k]? = some q := by rw [List.getElem?_append_left (List.getElem?_eq_some_iff.mp h2).1]; exact h2
        obtain ⟨ws, z1, z2⟩ := s2.obj k _ q hg hk
        exact ⟨ws, SqL.of z1, z2⟩
  | rol ns =>
    simp only [Rep] at hv
    obtain ⟨q, rfl, h2⟩ := hv
    exact ⟨q, rfl, ⟨_, h2.sq⟩, (show Fine X.K c.cl E μ1 H1 (.ok (⟨ns.map .int, fun _ => True⟩ : Src) S1) _ from h1).now s1 _ (goes_list fun ν H2 S2 l s2 _ => ⟨_, (h2.keep l.kp).sq, reps_ints ns⟩)⟩
  | _ => exact (show False from h1).elim
theorem pi_newd (h : PLd X c E e ml) : PId X c E tg e (iNew ml) := by
  refine (pi_list h).imp fun σ H R h => ?_
  obtain ⟨μ, S, ρ, hS, hρ, h⟩ := h
  refine tL_bind hS hρ h fun ds S1 μ1 H1 q vs s1 r1 _ hq hn hvs _ h1 => ?_
  refine ⟨q, rfl, ⟨vs, SqL.of hq⟩, (show Fine X.K c.cl E μ1 H1 (.ok (⟨ds, fun _ => True⟩ : Src) S1) _ from h1).now s1 _ (goes_list fun ν H2 S2 l s2 _ => ?_)⟩
  exact ⟨vs, SqL.of (l.oth _ _ hq hn), Reps.later l.kp ds vs hvs⟩
theorem goes_range {K : PySem.W.Frag} {lo hi : Int} {μ : List Addr} {H : L2.Hp} : Goes K (Itr lo (hi - lo).toNat) ⟨rangeD lo hi, fun _ => True⟩ μ H where
  go := fun i ν H1 S d l s _ hi => by
    obtain ⟨h1, h2⟩ := rep_range (K := K) (H := H1) (μ := μ ++ ν) hi
    refine ⟨h1, fun x H2 y => ?_⟩
    obtain ⟨rfl, rfl⟩ := y
    exact ⟨Ltr.refl _ _, s, h2⟩
  stop := fun ν H1 S l s _ => by
    show (hi - lo).toNat ≤ (rangeD lo hi).length
    unfold rangeD
    simp
theorem small_iff {j : Int} : small j = true ↔ -(2 ^ 62) ≤ j ∧ j < 2 ^ 62 := by
  unfold small
  rw [Bool.and_eq_true, decide_eq_true_eq, decide_eq_true_eq]
theorem reps_one {K : PySem.W.Frag} {H : L2.Hp} {μ : List Addr} {d : D} {vs : List V} (h : Reps K H μ [d] vs) : ∃ v, vs = [v] ∧ Rep K H μ d v := by
  simp only [Reps] at h
  obtain ⟨v, r, h1, h2, h3⟩ := h
  exact ⟨v, by rw [h1, h3], h2⟩
theorem reps_two {K : PySem.W.Frag} {H : L2.Hp} {μ : List Addr} {d f : D} {vs : List V} (h : Reps K H μ [d, f] vs) : ∃ v w, vs = [v, w] ∧ Rep K H μ d v ∧ Rep K H μ f w := by
  simp only [Reps] at h
  obtain ⟨v, r, h1, h2, w, r', h3, h4, h5⟩ := h
  exact ⟨v, w, by rw [h1, h3, h5], h2, h4⟩
theorem pi_rg1 (k : Cok g c lv E X) (hg : g.sc.names.lookup ("range" : Str) = some .globalImplicit) (hb : ("range" : Str) ∈ g.bis) (ha : PAd X c E [a] ms) (hs : starEach [a] X.env = [(false, eval a X.env)]) : PId X c E tg (.Call (.Name "range" p) [a] [] pos) (iRg1 ms) := by
  refine (pi_range1 (by unfold Gl Env.kindOf; rw [k.sc]; exact hg) (k.bi _ hb) ha hs).imp fun σ H R h => ?_
  obtain ⟨μ, S, ρ, hS, hρ, h⟩ := h
  refine tDs_bind hS hρ h fun ds S1 μ1 H1 vs s1 r1 hv _ h1 => ?_
  split at h1
  · rename_i j
    obtain ⟨v, rfl, h2⟩ := reps_one hv
    simp only [Rep] at h2
    subst h2
    split at h1
    · rename_i hj
      obtain ⟨q1, q2⟩ := small_iff.mp hj
      have e0 : (j - 0).toNat = j.toNat := by rw [Int.sub_zero]
      have gr := goes_range (K := X.K) (lo := 0) (hi := j) (μ := μ1) (H := H1)
      rw [e0] at gr
      exact ⟨j, rfl, q1, q2, (show Fine X.K c.cl E μ1 H1 (.ok (⟨rangeD 0 j, fun _ => True⟩ : Src) S1) _ from h1).now s1 _ gr⟩
    · exact (show False from h1).elim
  · exact (show False from h1).elim
theorem pi_rg2 (k : Cok g c lv E X) (hg : g.sc.names.lookup ("range" : Str) = some .globalImplicit) (hb : ("range" : Str) ∈ g.bis) (ha : PAd X c E [a, b] ms) (hs : starEach [a, b] X.env = [(false, eval a X.env), (false, eval b X.env)])
    (hs2 : starEach [b] X.env = [(false, eval b X.env)]) : PId X c E tg (.Call (.Name "range" p) [a, b] [] pos) (iRg2 ms) := by
  refine (pi_range2 (by unfold Gl Env.kindOf; rw [k.sc]; exact hg) (k.bi _ hb) ha hs hs2).imp fun σ H R h => ?_
  obtain ⟨μ, S, ρ, hS, hρ, h⟩ := h
  refine tDs_bind hS hρ h fun ds S1 μ1 H1 vs s1 r1 hv _ h1 => ?_
  split at h1
  · rename_i i j
    obtain ⟨v, w, rfl, h2, h3⟩ := reps_two hv
    simp only [Rep] at h2 h3
    subst h2 h3
    split at h1
    · rename_i hj
      obtain ⟨q1, q2⟩ := small_iff.mp hj.1
      obtain ⟨q3, q4⟩ := small_iff.mp hj.2
      exact ⟨i, j, rfl, ⟨q1, q2, q3, q4⟩, (show Fine X.K c.cl E μ1 H1 (.ok (⟨rangeD i j, fun _ => True⟩ : Src) S1) _ from h1).now s1 _ goes_range⟩
    · exact (show False from h1).elim
  · exact (show False from h1).elim
theorem zipD_get : ∀ {xs ys : List D} {i : Nat} {d : D}, (zipD xs ys)[i]? = some d → ∃ x y, xs[i]? = some x ∧ ys[i]? = some y ∧ d = .tup [x, y]
  | [], _, i, d, h => by simp [zipD] at h
  | _ :: _, [], i, d, h => by simp [zipD] at h
  | x :: xs, y :: ys, 0, d, h => by simp [zipD] at h; exact ⟨x, y, rfl, rfl, h.symm⟩
  | x :: xs, y :: ys, i + 1, d, h => by
    simp only [zipD, List.getElem?_cons_succ] at h ⊢
    exact zipD_get h
theorem zipD_len : ∀ (xs ys : List D), (zipD xs ys).length = min xs.length ys.length
  | [], _ => by simp [zipD]
  | _ :: _, [] => by simp [zipD]
  | x :: xs, y :: ys => by simp only [zipD, List.length_cons, zipD_len xs ys]; omega
theorem pi_zipd (k : Cok g c lv E X) {elts : List Expr} {kk : Nat} {tpos : Pos} (hg : g.sc.names.lookup ("zip" : Str) = some .globalImplicit) (hb : ("zip" : Str) ∈ g.bis) (ha : PAd X c E [a, b] ms) (hs : starEach [a, b] X.env = [(false, eval a X.env), (false, eval b X.env)])
    (hs2 : starEach [b] X.env = [(false, eval b X.env)]) : PId X c E (.Tuple elts kk tpos) (.Call (.Name "zip" p) [a, b] [] pos) (iZip ms) := by
  refine (RZ.pi_zipA (by unfold Gl Env.kindOf; rw [k.sc]; exact hg) (k.bi _ hb) ha (by rw [hs, hs2]) (by rw [hs2]; rfl)).imp fun σ H R h => ?_
  obtain ⟨μ, S, ρ, hS, hρ, h⟩ := h
  refine tDs_bind hS hρ h fun ds S1 μ1 H1 vs s1 r1 hv _ h1 => ?_
  split at h1
  · rename_i xs ys
    obtain ⟨v, w, rfl, h2, h3⟩ := reps_two hv
    simp only [Rep] at h2 h3
    obtain ⟨q, us, rfl, q2, q3⟩ := h2
    obtain ⟨q', ws, rfl, z2, z3⟩ := h3
    refine ⟨q, q', us, ws, rfl, .inr ⟨SqT.of q2, SqT.of z2, (show Fine X.K c.cl E μ1 H1 (.ok (⟨zipD xs ys, fun _ => True⟩ : Src) S1) _ from h1).now s1 _ ⟨fun i ν H2 S2 d l s2 _ hi => ?_, fun ν H2 S2 l s2 _ => ?_⟩⟩⟩
    · obtain ⟨x, y, e1, e2, rfl⟩ := zipD_get hi
      obtain ⟨u, f1, f2⟩ := q3.getD e1
      obtain ⟨t, f3, f4⟩ := z3.getD e2
      have g1 := SqT.of (K := X.K) (l.tup _ _ q2)
      have g2 := SqT.of (K := X.K) (l.tup _ _ z2)
      refine ⟨⟨us, ws, u, t, g1, g2, f1, f3⟩, fun x' H3 y' => ?_⟩
      obtain ⟨T, x2, y2, rfl, hT, rfl, e5, e6⟩ := y'
      have e7 := e5 us g1
      have e8 := e6 ws g2
      rw [f1] at e7; cases e7
      rw [f3] at e8; cases e8
      have l2 := Ltr.tmp (μ := μ1 ++ ν) (o := .tup [u, t]) hT
      refine ⟨l2, s2.tmp hT, ?_⟩
      simp only [Rep]
      refine ⟨T, [u, t], rfl, upd_same, .cons ?_ (.cons ?_ .nil)⟩
      · simpa using Rep.later (ν := []) l2.kp x u (Rep.later l.kp x u f2)
      · simpa using Rep.later (ν := []) l2.kp y t (Rep.later l.kp y t f4)
    · refine ⟨us, ws, SqT.of (l.tup _ _ q2), SqT.of (l.tup _ _ z2), ?_⟩
      show us.length ≤ (zipD xs ys).length ∨ ws.length ≤ (zipD xs ys).length
      rw [zipD_len, q3.len, z3.len]
      omega
  · exact (show False from h1).elim

/-! ### for -/
open Classical in
/-- over the items, one by one; the guard is asked at each turn and at the end -/
noncomputable def forL (G : Sto → Prop) (t : Tg) (body : MS) : List D → MS
  | [], _, ρ, S => if G S then .ok (.nx ρ) S else .bad
  | d :: ds, c, ρ, S => if G S then (match t.put d ρ with
    | some ρ1 => (body c ρ1 S).bind fun o S1 => match o with
      | .nx ρ2 => forL G t body ds c ρ2 S1
      | .ct ρ2 => forL G t body ds c ρ2 S1
      | .bk ρ2 => .ok (.nx ρ2) S1
      | .rt d => .ok (.rt d) S1
    | none => .bad) else .bad
noncomputable def sFor (t : Tg) (m : M Src) (body : MS) : MS := m.bind fun w => forL w.grd t body w.items
theorem ps_ford (k : Cok g c lv E X) {t : Tg} {mi : M Src} {sb : MS} {body : List Stmt} (hi : PId X c E tg e mi) (hg : PG X tg (tGd X.K t)) (hb : PSsd X c E body sb) (hs : ∀ x, foldedSetIterable e X.env x = pure x) : PSd X c E (.For tg e body [] pos) (sFor t mi sb) := by
  refine (ps_for k.po k.calm hi hg hb hs).imp fun D σ H h => ?_
  obtain ⟨μ, S, ρ, hS, hρ, h⟩ := h
  refine ⟨μ, S, ρ, hS, hρ, (Fine.bind h).mono fun w S1 ν H1 l s1 q J go => ?_⟩
  refine ⟨fun i m σ' H' => m = w.items.length - i ∧ i ≤ w.items.length ∧ ∃ ν' S' ρ', Ltr (μ ++ ν) ν' H1 H' ∧ RepS X.K H' ((μ ++ ν) ++ ν') S' ∧ RepE X.K H' ((μ ++ ν) ++ ν') ρ' σ' ∧ Fine X.K c.cl E ((μ ++ ν) ++ ν') H' (forL w.grd t sb (w.items.drop i) c ρ' S') (EndsD X.K D),
    ⟨w.items.length, by simp, Nat.zero_le _, [], S1, ρ, Ltr.refl _ _, by simpa using s1, by simpa using hρ.later l, by simpa using q⟩, ?_⟩
  rintro i m σ' H' ⟨rfl, hle, ν', S', ρ', l1, s2, r2, q2⟩
  by_cases hlt : i < w.items.length
  · have hd : w.items.drop i = w.items[i] :: w.items.drop (i + 1) := List.drop_eq_getElem_cons hlt
    rw [hd] at q2
    unfold forL at q2
    by_cases hG : w.grd S'
    · simp only [hG, if_true] at q2
      obtain ⟨g1, g2⟩ := go.go i ν' H' S' w.items[i] l1 s2 hG (by simp [hlt])
      refine .inr ⟨g1, fun σ2 H2 => ∃ ν2 S2 ρ2, Ltr (μ ++ ν) ν2 H1 H2 ∧ RepS X.K H2 ((μ ++ ν) ++ ν2) S2 ∧ RepE X.K H2 ((μ ++ ν) ++ ν2) ρ2 σ2 ∧ Fine X.K c.cl E ((μ ++ ν) ++ ν2) H2 (forL w.grd t sb (w.items.drop (i + 1)) c ρ2 S2) (EndsD X.K D),
        fun σ2 H2 z => ⟨w.items.length - (i + 1), by omega, rfl, hlt, z⟩, fun x H2 y => ?_⟩
      obtain ⟨l3, s3, v3⟩ := g2 x H2 y
      cases e1 : t.put w.items[i] ρ' with
      | none => simp only [e1] at q2; exact q2.elim
      | some ρ1 =>
        simp only [e1] at q2
        have r3 : RepE X.K H2 ((μ ++ ν) ++ ν') ρ' σ' := by simpa using r2.later l3
        refine ⟨(μ ++ ν) ++ ν', ρ', w.items[i], ρ1, r3, v3, e1, fun σ3 r4 _ => ?_⟩
        have l4 : Ltr (μ ++ ν) ν' H1 H2 := by simpa using l1.trans l3
        have q3 := Fine.shift l3 q2
        rw [List.append_nil] at q3
        refine ⟨(μ ++ ν) ++ ν', S', ρ1, s3, r4, (Fine.bind q3).mono fun o S5 ν5 H5 l5 s5 q5 => ?_⟩
        have l6 : Ltr (μ ++ ν) (ν' ++ ν5) H1 H5 := l4.trans l5
        have as : ((μ ++ ν) ++ ν') ++ ν5 = (μ ++ ν) ++ (ν' ++ ν5) := List.append_assoc _ _ _
        cases o with
        | nx ρ5 =>
          intro σ5 r5
          rw [as] at q5 s5 r5
          exact ⟨ν' ++ ν5, S5, ρ5, l6, s5, r5, q5⟩
        | ct ρ5 =>
          intro σ5 r5
          rw [as] at q5 s5 r5
          exact ⟨ν' ++ ν5, S5, ρ5, l6, s5, r5, q5⟩
        | bk ρ5 => exact (show Fine X.K c.cl E _ H5 (.ok (Out.nx ρ5) S5) _ from q5).now s5
        | rt d => exact (show Fine X.K c.cl E _ H5 (.ok (Out.rt d) S5) _ from q5).now s5
    · simp only [hG, if_false] at q2; exact q2.elim
  · have e : i = w.items.length := by omega
    subst e
    rw [List.drop_length] at q2
    unfold forL at q2
    by_cases hG : w.grd S'
    · simp only [hG, if_true] at q2
      exact .inl ⟨go.stop ν' H' S' l1 s2 hG, (show Fine X.K c.cl E _ H' (.ok (Out.nx ρ') S') _ from q2).now s2 σ' r2⟩
    · simp only [hG, if_false] at q2; exact q2.elim
end
end Rf
end

section
set_option Elab.async false
set_option linter.all false
set_option maxRecDepth 100000
set_option maxHeartbeats 2000000
namespace Rf
open PySem PySem.Spec PyProof.Rows L2

/-! ### comprehensions -/
def Res.nox {α : Type} : Res α → Res α
  | .exc _ _ _ => .bad
  | r => r
def E0 : XK := fun _ _ _ => False
theorem Fine.nox {α : Type} {K : PySem.W.Frag} {cl : Nat → Addr} {E : XK} {μ : List Addr} {H : L2.Hp} {r : Res α} {Q : α → Sto → List Addr → L2.Hp → Prop} (h : Fine K cl E μ H r.nox Q) : Fine K cl E0 μ H r Q := by
  cases r with
  | ok a S => exact h
  | exc k d S => exact (show False from h).elim
  | bad => exact h
def wipeD (ρ : Ev) : List Nat → Ev
  | [] => ρ
  | v :: vs => (wipeD ρ vs).set v none
theorem wipe_get (σ : L2.St) (j : Nat) : ∀ vs : List Nat, (wipe σ vs)[j]? = if j ∈ vs ∧ j < σ.length then some none else σ[j]?
  | [] => by simp [wipe]
  | v :: vs => by
    have ih := wipe_get σ j vs
    unfold wipe
    rw [List.getElem?_set, wipe_length]
    by_cases e : v = j
    · subst e
      by_cases hl : v < σ.length
      · simp [hl]
      · rw [if_pos rfl, if_neg hl, if_neg (fun z => hl z.2), List.getElem?_eq_none (by omega)]
    · rw [if_neg e, ih]
      by_cases hm : j ∈ vs
      · simp [hm]
      · have : j ∉ v :: vs := by simp [hm]; exact fun z => e z.symm
        simp [hm, this]
theorem wipe_same {σ σ' : L2.St} {vs : List Nat} (hl : σ'.length = σ.length) (h : ∀ j, j ∉ vs → σ'[j]? = (wipe σ vs)[j]?) : wipe σ' vs = wipe σ vs := by
  refine List.ext_getElem? fun j => ?_
  by_cases hj : j ∈ vs
  · rw [wipe_get, wipe_get, hl]
    by_cases hlt : j < σ.length
    · simp [hj, hlt]
    · rw [if_neg (fun z => hlt z.2), if_neg (fun z => hlt z.2), List.getElem?_eq_none (by omega), List.getElem?_eq_none (by omega)]
  · rw [wipe_get, if_neg (fun z => hj z.1), h j hj]
theorem RepE.wipe {K : PySem.W.Frag} {H : L2.Hp} {μ : List Addr} {ρ : Ev} {σ : L2.St} (r : RepE K H μ ρ σ) : ∀ vs : List Nat, RepE K H μ (wipeD ρ vs) (L2.wipe σ vs)
  | [] => r
  | v :: vs => by
    have ih := RepE.wipe r vs
    refine ⟨?_, fun i d h => ?_⟩
    · unfold wipeD L2.wipe
      rw [List.length_set, List.length_set, ih.len]
    · unfold wipeD at h
      unfold L2.wipe
      by_cases e : v = i
      · subst e
        rw [List.getElem?_set] at h
        simp at h
      · rw [List.getElem?_set_ne e] at h ⊢
        exact ih.get i d h
open Classical in
noncomputable def compL (G : Sto → Prop) (own : List Nat) (t : Tg) (tt : M Bool) (te : M D) : List D → List D → M (List D)
  | [], acc, _, _, S => if G S then .ok acc S else .bad
  | d :: ds, acc, c, ρ, S => if G S then (match t.put d (wipeD ρ own) with
    | some ρ1 => (tt c ρ1 S).nox.bind fun b S1 => if b = true then (te c ρ1 S1).nox.bind fun y S2 => if acc.length < sizeLine then compL G own t tt te ds (acc ++ [y]) c ρ S2 else .bad else compL G own t tt te ds acc c ρ S1
    | none => .bad) else .bad
noncomputable def lComp (m : M Src) (own : List Nat) (t : Tg) (tt : M Bool) (te : M D) : M (List D) := m.bind fun w => compL w.grd own t tt te w.items []
def tYesD : M Bool := M.ret true
theorem Ltr.off {μ ν : List Addr} {H H' : L2.Hp} {q : Addr} {o : HO} (l : Ltr μ ν H H') (h : H q = none) : Ltr μ ν H (upd H' q o) :=
  ⟨fun a xs e => by rw [upd_ne (ne_of_none e h)]; exact l.tup a xs e, fun a ob u e => by rw [upd_ne (ne_of_none e h)]; exact l.frz a ob u e,
    fun a ob e n => by rw [upd_ne (ne_of_none e h)]; exact l.oth a ob e n, fun a ob e => by rw [upd_ne (ne_of_none e h)]; exact l.all a ob e, l.new⟩
theorem Kp.lst {H : L2.Hp} {q : Addr} {o : HO} {vs : List V} (h : H q = some (.lst vs)) : Kp H (upd H q o) :=
  ⟨fun a xs e => by rw [upd_ne (ne_of e h (by intro z; cases z))]; exact e, fun a ob u e => by rw [upd_ne (ne_of e h (by intro z; cases z))]; exact e⟩

section
variable {X : Cx} {c : Cm} {lv : Nat} {E : XK} {g : Gs} {e tg elt : Expr} {ifs : List Expr} {scope : Scope} {own : List (Str × Nat)} {mi : M Src} {te : M D} {tt : M Bool} {t : Tg} {pos p : Pos}
theorem put_lens : ∀ (t : Tg) (d : D) (ρ ρ1 : Ev), t.put d ρ = some ρ1 → ρ1.length = ρ.length
  | .nm i, d, ρ, ρ1, h => by
    simp only [Tg.put, Option.some.injEq] at h
    rw [← h, List.length_set]
  | .tp ts, d, ρ, ρ1, h => by
    cases d with
    | tup ds => simp only [Tg.put] at h; exact puts_lens ts ds ρ ρ1 h
    | _ => simp only [Tg.put] at h; cases h
where
  puts_lens : ∀ (ts : List Tg) (ds : List D) (ρ ρ1 : Ev), Tg.puts ts ds ρ = some ρ1 → ρ1.length = ρ.length
  | [], [], ρ, ρ1, h => by
    simp only [Tg.puts, Option.some.injEq] at h
    rw [h]
  | [], _ :: _, ρ, ρ1, h => by simp only [Tg.puts] at h; cases h
  | _ :: _, [], ρ, ρ1, h => by simp only [Tg.puts] at h; cases h
  | t :: ts, d :: ds, ρ, ρ1, h => by
    simp only [Tg.puts] at h
    cases e1 : t.put d ρ with
    | none => rw [e1] at h; cases h
    | some ρ2 =>
      rw [e1] at h
      rw [puts_lens ts ds ρ2 ρ1 h, put_lens t d ρ ρ2 e1]
theorem lc_ok {σ : L2.St} {H : L2.Hp} {Q : VK} (hsl : ∀ j ∈ t.slots, j ∈ own.map (·.2)) (h : tL X.K E c (lComp mi (own.map (·.2)) t tt te) σ H Q) :
    tLc (tI X.K E c mi) (tGd X.K t) (tT X.K E0 c tt) (tD X.K E0 c te) (own.map (·.2)) σ H Q := by
  obtain ⟨μ, S, ρ, hS, hρ, h⟩ := h
  refine ⟨μ, S, ρ, hS, hρ, (Fine.bind h).mono fun w S1 ν H1 l s1 q J go D hD => ?_⟩
  have hD0 : H D = none := l.was hD
  have hρ1 := hρ.later l
  replace q := (show Fine X.K c.cl E (μ ++ ν) H1 (compL w.grd (own.map (·.2)) t tt te w.items [] c ρ S1) _ from q)
  generalize hvs : own.map (·.2) = vs at q hsl ⊢
  generalize hn : μ ++ ν = μ1 at q hρ1 s1 go
  generalize htot : compL w.grd vs t tt te w.items [] c ρ S1 = tot at q
  refine ⟨fun i m H' => m = w.items.length - i ∧ i ≤ w.items.length ∧ ∃ ν' S' acc av, Ltr μ1 ν' H1 H' ∧ RepS X.K H' (μ1 ++ ν') S' ∧ RepE X.K H' (μ1 ++ ν') ρ σ ∧ H' D = some (.lst av) ∧ D ∉ μ1 ++ ν' ∧
    Reps X.K H' (μ1 ++ ν') acc av ∧ tot = compL w.grd vs t tt te (w.items.drop i) acc c ρ S',
    ⟨w.items.length, by simp, Nat.zero_le _, [], S1, [], [], by simpa using Ltr.off (Ltr.refl _ _) hD, by simpa using s1.tmp hD, by simpa using (hρ1.later (Ltr.tmp (o := .lst []) hD)), upd_same, by simpa using s1.not hD, .nil, htot.symm⟩, ?_⟩
  rintro i m H' ⟨rfl, hle, ν', S', acc, av, l1, s2, r2, hDa, hDn, hacc, eq⟩
  by_cases hlt : i < w.items.length
  · have hd : w.items.drop i = w.items[i] :: w.items.drop (i + 1) := List.drop_eq_getElem_cons hlt
    rw [hd] at eq
    unfold compL at eq
    by_cases hG : w.grd S'
    · rw [if_pos hG] at eq
      obtain ⟨g1, g2⟩ := go.go i ν' H' S' w.items[i] l1 s2 hG (by simp [hlt])
      refine .inr ⟨g1, fun H2 => ∃ ν2 S2 acc av, Ltr μ1 ν2 H1 H2 ∧ RepS X.K H2 (μ1 ++ ν2) S2 ∧ RepE X.K H2 (μ1 ++ ν2) ρ σ ∧ H2 D = some (.lst av) ∧ D ∉ μ1 ++ ν2 ∧
        Reps X.K H2 (μ1 ++ ν2) acc av ∧ tot = compL w.grd vs t tt te (w.items.drop (i + 1)) acc c ρ S2,
        fun H2 z => ⟨w.items.length - (i + 1), by omega, rfl, hlt, z⟩, fun x H2 y => ?_⟩
      obtain ⟨l3, s3, v3⟩ := g2 x H2 y
      cases e1 : t.put w.items[i] (wipeD ρ vs) with
      | none => simp only [e1] at eq; rw [eq] at q; exact q.elim
      | some ρ1 =>
        simp only [e1] at eq
        have r3 : RepE X.K H2 (μ1 ++ ν') ρ σ := by simpa using r2.later l3
        have a3 : Reps X.K H2 (μ1 ++ ν') acc av := by simpa using Reps.later (ν := []) l3.kp acc av hacc
        have d3 : H2 D = some (.lst av) := l3.oth D _ hDa hDn
        have l4 : Ltr μ1 ν' H1 H2 := by simpa using l1.trans l3
        refine ⟨μ1 ++ ν', wipeD ρ vs, w.items[i], ρ1, r3.wipe _, v3, e1, fun σ3 r4 ag => ⟨?_, ?_⟩⟩
        · refine wipe_same ?_ fun j hj => ag j fun z => hj (hsl j z)
          rw [r4.len, put_lens _ _ _ _ e1, ← (r3.wipe vs).len, L2.wipe_length]
        · refine ⟨μ1 ++ ν', S', ρ1, s3, r4, ?_⟩
          cases e2 : tt c ρ1 S' with
          | exc k d S5 => rw [e2] at eq; rw [eq] at q; exact (show False from q).elim
          | bad => rw [e2] at eq; rw [eq] at q; exact (show False from q).elim
          | ok b S5 =>
            rw [e2] at eq
            intro ν5 H5 l5 s5
            have as : (μ1 ++ ν') ++ ν5 = μ1 ++ (ν' ++ ν5) := List.append_assoc _ _ _
            have l6 : Ltr μ1 (ν' ++ ν5) H1 H5 := l4.trans l5
            have r5 := r3.later l5
            have r45 := r4.later l5
            have a5 := Reps.later (ν := ν5) l5.kp acc av a3
            have d5 : H5 D = some (.lst av) := l5.oth D _ d3 hDn
            have n5 : D ∉ (μ1 ++ ν') ++ ν5 := fun z => by
              rcases List.mem_append.mp z with z | z
              · exact hDn z
              · rw [l5.new D z] at d3; cases d3
            cases b with
            | false =>
              show if false = true then _ else _
              rw [if_neg Bool.false_ne_true]
              rw [as] at s5 r5 a5 n5
              exact ⟨ν' ++ ν5, S5, acc, av, l6, s5, r5, d5, n5, a5, eq⟩
            | true =>
              show if true = true then _ else _
              rw [if_pos rfl]
              refine ⟨(μ1 ++ ν') ++ ν5, S5, ρ1, s5, r45, ?_⟩
              have eq : tot = (te c ρ1 S5).nox.bind fun y S2 => if acc.length < sizeLine then compL w.grd vs t tt te (w.items.drop (i + 1)) (acc ++ [y]) c ρ S2 else .bad := eq
              cases e3 : te c ρ1 S5 with
              | exc k d S5 => rw [e3] at eq; rw [eq] at q; exact (show False from q).elim
              | bad => rw [e3] at eq; rw [eq] at q; exact (show False from q).elim
              | ok z S7 =>
                rw [e3] at eq
                intro ν7 H7 l7 s7 zv hz
                have eq : tot = if acc.length < sizeLine then compL w.grd vs t tt te (w.items.drop (i + 1)) (acc ++ [z]) c ρ S7 else .bad := eq
                by_cases hsz : acc.length < sizeLine
                · rw [if_pos hsz] at eq
                  have as7 : ((μ1 ++ ν') ++ ν5) ++ ν7 = μ1 ++ (ν' ++ ν5 ++ ν7) := by simp [List.append_assoc]
                  have d7 : H7 D = some (.lst av) := l7.oth D _ d5 n5
                  have n7 : D ∉ ((μ1 ++ ν') ++ ν5) ++ ν7 := fun z => by
                    rcases List.mem_append.mp z with z | z
                    · exact n5 z
                    · rw [l7.new D z] at d5; cases d5
                  have kp := Kp.lst (o := .lst (av ++ [zv])) d7
                  have a7 := Reps.later (ν := ν7) l7.kp acc av a5
                  have a8 : Reps X.K H7 (((μ1 ++ ν') ++ ν5) ++ ν7) (acc ++ [z]) (av ++ [zv]) := a7.app (.cons hz .nil)
                  have l7' : Ltr (μ1 ++ (ν' ++ ν5)) ν7 H5 H7 := by rw [← as]; exact l7
                  have l8 : Ltr μ1 (ν' ++ ν5 ++ ν7) H1 (upd H7 D (.lst (av ++ [zv]))) := Ltr.off (l6.trans l7') hD
                  have r7 := r5.later l7
                  refine ⟨av, d7, by rw [a7.len]; exact hsz, ν' ++ ν5 ++ ν7, S7, acc ++ [z], av ++ [zv], l8, ?_, ?_, upd_same, by rw [← as7]; exact n7, ?_, eq⟩
                  · rw [← as7]; exact s7.apart n7 kp
                  · rw [← as7]
                    exact ⟨r7.len, fun i d h => let ⟨v, h1, h2⟩ := r7.get i d h; ⟨v, h1, by simpa using Rep.later (ν := []) kp d v h2⟩⟩
                  · rw [← as7]; simpa using Reps.later (ν := []) kp _ _ a8
                · rw [if_neg hsz] at eq; rw [eq] at q; exact (show False from q).elim
    · rw [if_neg hG] at eq; rw [eq] at q; exact (show False from q).elim
  · have e : i = w.items.length := by omega
    subst e
    rw [List.drop_length] at eq
    unfold compL at eq
    by_cases hG : w.grd S'
    · rw [if_pos hG] at eq
      rw [eq] at q
      exact .inl ⟨go.stop ν' H' S' l1 s2 hG, (show Fine X.K c.cl E μ1 H1 (.ok acc S') _ from q) ν' H' l1 s2 D av hD0 hDa hDn hacc⟩
    · rw [if_neg hG] at eq
      rw [eq] at q; exact (show False from q).elim
theorem pl_comp (k : Cok g c lv E X) (hi : PId X c E tg e mi) (ok : BlkOk g.N g.sc scope own) (hsl : ∀ j ∈ t.slots, j ∈ own.map (·.2))
    (hg : ∀ (s : Shared) (H : L2.Hp) (C : Addr) (cl : List (Str × Addr)) (fp : List Addr), PG (X.blk s H scope (compEnvC scope cl C X.env) fp) tg (tGd X.K t))
    (ht : ∀ (s : Shared) (H : L2.Hp) (C : Addr) (cl : List (Str × Addr)) (fp : List Addr), PTs (X.blk s H scope (compEnvC scope cl C X.env) fp) ifs (tT X.K E0 c tt))
    (he : ∀ (s : Shared) (H : L2.Hp) (C : Addr) (cl : List (Str × Addr)) (fp : List Addr), PE (X.blk s H scope (compEnvC scope cl C X.env) fp) elt (tD X.K E0 c te)) (hs : ∀ x, foldedSetIterable e X.env x = pure x) :
    PLd X c E (.ListComp elt [⟨tg, e, ifs, 0⟩] scope pos) (lComp mi (own.map (·.2)) t tt te) :=
  (pe_lc k.calm k.nd hi (by rw [k.N, k.sc]; exact ok) hg ht he hs).imp fun σ H Q h => lc_ok hsl h
theorem pts_nild {X : Cx} : PTs X [] (tT X.K E0 c tYesD) := ⟨fun pins s σ H Q I h => pts_nil.run pins s σ H Q I (by
  obtain ⟨μ, S, ρ, hS, hρ, h⟩ := h
  exact (show Fine X.K c.cl E0 μ H (.ok true S) _ from h).now hS)⟩
theorem pts_oned {X : Cx} (h : PTd X c E0 e tt) : PTs X [e] (tT X.K E0 c tt) := pts_one h
/-- name = [..] -/
theorem ps_setcomp (k : Cok g c lv E X) {i : Nat} {y : Str} {py spos : Pos} (hy : g.N[i]? = some y) (hyl : g.sc.names.lookup y = some .local) (hsw : swapsWith (.ListComp elt [⟨tg, e, ifs, 0⟩] scope pos) (some (.Name y py)) spos.line X.env = pure true)
    (hi : PId X c E tg e mi) (ok : BlkOk g.N g.sc scope own) (hsl : ∀ j ∈ t.slots, j ∈ own.map (·.2))
    (hg : ∀ (s : Shared) (H : L2.Hp) (C : Addr) (cl : List (Str × Addr)) (fp : List Addr), PG (X.blk s H scope (compEnvC scope cl C X.env) fp) tg (tGd X.K t))
    (ht : ∀ (s : Shared) (H : L2.Hp) (C : Addr) (cl : List (Str × Addr)) (fp : List Addr), PTs (X.blk s H scope (compEnvC scope cl C X.env) fp) ifs (tT X.K E0 c tt))
    (he : ∀ (s : Shared) (H : L2.Hp) (C : Addr) (cl : List (Str × Addr)) (fp : List Addr), PE (X.blk s H scope (compEnvC scope cl C X.env) fp) elt (tD X.K E0 c te)) (hs : ∀ x, foldedSetIterable e X.env x = pure x) :
    PSd X c E (.Assign [.Name y py] (.ListComp elt [⟨tg, e, ifs, 0⟩] scope pos) spos) (sAsg (.nm i) (mNew (lComp mi (own.map (·.2)) t tt te))) := by
  refine (ps_setLc k.calm k.nd (by rw [k.N]; exact hy) (by rw [k.sc]; exact hyl) hsw hi (by rw [k.N, k.sc]; exact ok) hg ht he hs).imp fun D σ H h => ?_
  obtain ⟨μ, S, ρ, hS, hρ, h⟩ := h
  refine lc_ok hsl ?_
  refine ⟨μ, S, ρ, hS, hρ, ?_⟩
  unfold sAsg mNew M.bind at h
  cases r : lComp mi (own.map (·.2)) t tt te c ρ S with
  | ok xs S1 =>
    rw [r] at h
    simp only [Res.bind] at h
    by_cases hz : xs.length ≤ sizeLine
    · simp only [hz, if_true, Tg.put] at h
      intro ν H1 l s1 q vs h0 hq hn hvs
      have l2 : Ltr μ (ν ++ [q]) H H1 := ⟨l.tup, l.frz, l.oth, l.all, fun a ha => by
        rcases List.mem_append.mp ha with z | z
        · exact l.new a z
        · rw [List.mem_singleton.mp z]; exact h0⟩
      have s2 := s1.own hq hn hvs
      rw [List.append_assoc] at s2
      have h3 := h (ν ++ [q]) H1 l2 s2 (σ.set i (some (.ref q)))
      refine h3 ((hρ.later l2).set ?_)
      simp only [Rep]
      refine ⟨q, ?_, rfl⟩
      rw [← List.append_assoc, ← s1.len, List.getElem?_append_right (Nat.le_refl _)]
      simp
    · simp only [hz, if_false] at h; exact h.elim
  | exc k d S1 => rw [r] at h; exact h
  | bad => rw [r] at h; exact h
end
end Rf
end

section
set_option Elab.async false
set_option linter.all false
set_option maxRecDepth 100000
set_option maxHeartbeats 2000000
namespace Rf
open PySem PySem.Spec PyProof.Rows L2

/-! ### operations -/
def okI (i : Int) (S : Sto) : Res D := .ok (.int i) S
def okB (b : Bool) (S : Sto) : Res D := .ok (.bl b) S
/-- a new list -/
def newL (ds : List D) (S : Sto) : Res D := if ds.length ≤ sizeLine then .ok (.ref S.length) (S ++ [.lst ds]) else .bad
def addD : OpD := fun a b S => match a, b with
  | .int i, .int j => .ok (.int (i + j)) S
  | .str x, .str y => if x.length + y.length ≤ sizeLine then .ok (.str (x ++ y)) S else .bad
  | .tup xs, .tup ys => if xs.length + ys.length ≤ sizeLine then .ok (.tup (xs ++ ys)) S else .bad
  | .ref k, .ref l => match S[k]?, S[l]? with
    | some (.lst xs), some (.lst ys) => newL (xs ++ ys) S
    | _, _ => .bad
  | _, _ => .bad
def subD : OpD := fun a b S => match a, b with
  | .int i, .int j => .ok (.int (i - j)) S
  | _, _ => .bad
instance : DecidablePred fun p : Int × Int => CMul p.1 p.2 := fun _ => by unfold CMul; infer_instance
instance {i j : Int} : Decidable (CMul i j) := by unfold CMul; infer_instance
instance {i j : Int} : Decidable (CMulW i j) := by unfold CMulW; infer_instance
instance {i j : Int} : Decidable (CDiv i j) := by unfold CDiv; infer_instance
instance {i j : Int} : Decidable (CDivW i j) := by unfold CDivW; infer_instance
def mulD : OpD := fun a b S => match a, b with
  | .int i, .int j => if CMul i j ∨ CMulW i j then .ok (.int (i * j)) S else .bad
  | .tup xs, .int k => if k = 1 then .ok (.tup xs) S else if xs ≠ [] ∧ 2 ≤ k ∧ k ≤ 1000 ∧ xs.length ≤ 1000 then .ok (.tup (List.replicate k.toNat xs).flatten) S else .bad
  | .ref l, .int k => match S[l]? with
    | some (.lst xs) => if -(2 ^ 63) ≤ k ∧ k < 2 ^ 63 ∧ xs.length * k.toNat ≤ sizeLine then .ok (.ref S.length) (S ++ [.lst (List.replicate k.toNat xs).flatten]) else .bad
    | none => .bad
  | _, _ => .bad
def modD : OpD := fun a b S => match a, b with
  | .int i, .int j => if 0 < j then .ok (.int (i % j)) S else .bad
  | _, _ => .bad
def fdivD : OpD := fun a b S => match a, b with
  | .int i, .int j => if CDiv i j ∨ CDivW i j then .ok (.int (i / j)) S else .bad
  | _, _ => .bad
def powD : OpD := fun a b S => match a, b with
  | .int i, .int j => if 0 ≤ j ∧ (Builtin.Int.intBits i : Int) * j ≤ 2 ^ 27 then .ok (.int (i ^ j.toNat)) S else .bad
  | _, _ => .bad
def cmpI (f : Int → Int → Bool) : OpD := fun a b S => match a, b with
  | .int i, .int j => .ok (.bl (f i j)) S
  | _, _ => .bad
def isNon : D → Bool
  | .non => true
  | _ => false
def isnD : OpD := fun a b S => match b with
  | .non => .ok (.bl (isNon a)) S
  | _ => .bad
def notnD : OpD := fun a b S => match b with
  | .non => .ok (.bl !(isNon a)) S
  | _ => .bad
def negD : D → Sto → Res D := fun a S => match a with
  | .int i => .ok (.int (-i)) S
  | _ => .bad
def idxD : OpD := fun a b S => match a, b with
  | .tup xs, .int i => match atI xs i with
    | some d => .ok d S
    | none => .bad
  | .ref k, .int i => match S[k]? with
    | some (.lst xs) => match atI xs i with
      | some d => .ok d S
      | none => .bad
    | none => .bad
  | .rol ns, .int i => match atI ns i with
    | some n => .ok (.int n) S
    | none => .bad
  | .str z, .int i => if z.length ≤ sizeLine then (match atI z.cps.toList i with
    | some u => .ok (.str ⟨#[u]⟩) S
    | none => .bad) else .bad
  | _, _ => .bad
def cutD (xs : List D) (lo hi : Option Int) : List D := (xs.drop (HT.sIx xs.length 0 lo)).take (HT.sIx xs.length xs.length hi - HT.sIx xs.length 0 lo)
def cutI (xs : List Int) (lo hi : Option Int) : List Int := (xs.drop (HT.sIx xs.length 0 lo)).take (HT.sIx xs.length xs.length hi - HT.sIx xs.length 0 lo)
def sliD (a : D) (lo hi : Option Int) (S : Sto) : Res D := match a with
  | .tup xs => .ok (.tup (cutD xs lo hi)) S
  | .ref k => match S[k]? with
    | some (.lst xs) => .ok (.ref S.length) (S ++ [.lst (cutD xs lo hi)])
    | none => .bad
  | .rol ns => .ok (.ref S.length) (S ++ [.lst ((cutI ns lo hi).map .int)])
  | .str z => if z.length ≤ sizeLine then .ok (.str (cutS z lo hi)) S else .bad
  | _ => .bad

section
variable {X : Cx} {cl : Nat → Addr} {E : XK} {K : PySem.W.Frag}
theorem fine_new {α : Type} {μ : List Addr} {H : L2.Hp} {S : Sto} {ds : List D} {vs : List V} {p : Addr} {Q : D → Sto → List Addr → L2.Hp → Prop} (hS : RepS K H μ S) (hp : H p = none) (hv : Reps K H μ ds vs)
    (h : Fine K cl E μ H (.ok (.ref S.length) (S ++ [.lst ds])) Q) : Q (.ref S.length) (S ++ [.lst ds]) (μ ++ [p]) (upd H p (.lst vs)) ∧ Rep K (upd H p (.lst vs)) (μ ++ [p]) (.ref S.length) (.ref p) := by
  refine ⟨h [p] _ (Ltr.nxt hp) (hS.add hp hv), ?_⟩
  simp only [Rep]
  refine ⟨p, ?_, rfl⟩
  rw [← hS.len, List.getElem?_append_right (Nat.le_refl _)]
  simp
theorem od_add : OpR X (binaryOp .Add) (rOp X.K cl E addD) := by
  refine (OpR.or op_add (OpR.or op_add_str (OpR.or op_catA op_cat))).imp fun x y H Q h => ?_
  obtain ⟨μ, S, a, b, hS, ha, hb, h⟩ := h
  unfold addD at h
  split at h
  · simp only [Rep] at ha hb
    exact .inl ⟨_, _, ha, hb, h.now hS _ (by simp only [Rep])⟩
  · simp only [Rep] at ha hb
    split at h
    · rename_i hz
      exact .inr (.inl ⟨_, _, ha, hb, hz, h.now hS _ (by simp only [Rep])⟩)
    · exact h.elim
  · rename_i xs ys
    simp only [Rep] at ha hb
    obtain ⟨p, vs, rfl, h1, h2⟩ := ha
    obtain ⟨q, ws, rfl, h3, h4⟩ := hb
    split at h
    · rename_i hz
      refine .inr (.inr (.inl ⟨p, q, vs, ws, rfl, rfl, SqT.of h1, SqT.of h3, by rw [h2.len, h4.len]; exact hz, fun e => ?_, fun _ e => ?_, fun _ _ t ht => ?_⟩))
      · subst e
        have : xs = [] := by have := h2.len; cases xs <;> simp_all
        subst this
        refine h.now hS _ ?_
        simp only [Rep, List.nil_append]
        exact ⟨q, ws, rfl, h3, h4⟩
      · subst e
        have : ys = [] := by have := h4.len; cases ys <;> simp_all
        subst this
        refine h.now hS _ ?_
        simp only [Rep, List.append_nil]
        exact ⟨p, vs, rfl, h1, h2⟩
      · refine h.tmp hS ht _ ?_
        simp only [Rep]
        exact ⟨t, vs ++ ws, rfl, upd_same, by simpa using Reps.later (ν := []) (Ltr.tmp (μ := μ) ht).kp _ _ (h2.app h4)⟩
    · exact h.elim
  · rename_i k l
    simp only [Rep] at ha hb
    obtain ⟨p, h1, rfl⟩ := ha
    obtain ⟨q, h3, rfl⟩ := hb
    split at h
    · rename_i xs ys e1 e2
      obtain ⟨vs, w1, w2⟩ := hS.obj _ _ p e1 h1
      obtain ⟨ws, w3, w4⟩ := hS.obj _ _ q e2 h3
      unfold newL at h
      split at h
      · rename_i hz
        rw [List.length_append] at hz
        refine .inr (.inr (.inr ⟨p, q, vs, ws, rfl, rfl, w1, w3, by rw [w2.len, w4.len]; exact hz, fun t ht => ?_⟩))
        obtain ⟨z1, z2⟩ := fine_new (α := Unit) hS ht (w2.app w4) h
        exact z1 _ z2
      · exact h.elim
    · exact h.elim
  · exact h.elim
theorem od_sub : OpR X (binaryOp .Sub) (rOp X.K cl E subD) := op_sub.imp fun x y H Q h => by
  obtain ⟨μ, S, a, b, hS, ha, hb, h⟩ := h
  unfold subD at h
  split at h
  · simp only [Rep] at ha hb
    exact ⟨_, _, ha, hb, h.now hS _ (by simp only [Rep])⟩
  · exact h.elim
theorem tuple_mulOne (l : Addr) (items : Array Value) (n : Nat) (x : Int) (u : Tok) (dd : Option Addr) (sl : Array (Option Value)) (c0 : (decide (x < -(2 ^ 63)) || decide (x ≥ 2 ^ 63)) = false) (c1 : (items.isEmpty || x == 1) = true) :
    Meets (Builtin.«tuple.__mul__» ⟨[.ref l, .int x u], []⟩) (fun _ R s => s.heap.get? l = some { cls := .type "tuple", dict := dd, data := .seq items n, slots := sl } ∧
      R (.ok (.ret (Value.ref l))) s) :=
  .of_wp fun prog w A R s h => by
    obtain ⟨hp, g, d, tk, os⟩ := s
    obtain ⟨hl, h⟩ := h
    have f1 := AutoSeq1.idx_int
    wp_walk using wpAny_loadPart' hl
    repeat (first
      | (refine wpAny_ite_false (decide_eq_false (by rw [c0]; exact Bool.false_ne_true)) ?_; wp_walk using wpAny_loadPart' hl)
      | (refine wpAny_ite_true (decide_eq_true (by rw [c1])) ?_; wp_walk using wpAny_loadPart' hl))
    exact ⟨_, rfl, h⟩
/-- once: the tuple itself -/
def rOneT (K : PySem.W.Frag) : R2 := fun x y H Q => ∃ l xs, x = .ref l ∧ y = .int 1 ∧ SqT K H l xs ∧ Q (.ref l) H
theorem op_oneT {X : Cx} : OpR X (binaryOp .Mult) (rOneT X.K) := by
  intro pins s σ H x y v u Q I rx ry h
  obtain ⟨l, xs, rfl, rfl, hT, q⟩ := h
  cases rx
  obtain ⟨t, rfl⟩ := ry
  obtain ⟨its, r, ⟨⟨cls, dd, data, sl⟩, ho, hc, n, hd⟩, hs⟩ := I.tuple hT
  simp only at hc hd
  subst hc hd
  have c0 : (decide ((1 : Int) < -(2 ^ 63)) || decide ((1 : Int) ≥ 2 ^ 63)) = false := by decide
  have c1 : (its.toArray.isEmpty || (1 : Int) == 1) = true := by simp
  exact wpAny_binaryOp_repeat_ref (T := "tuple") (U := "int") (by decide) ⟨_, ho, rfl⟩ (fun s' => typeIs_int s' 1 t) noFill_tuple_mul F.fills_int_mul F.slot_int_rmul repeat_tuple F.slot_int_index.lookup
    (call_meets F.slot_int_rmul (typeIs_int s 1 t) F.entry_int_rmul (F.args_int_rmul_2 _ _) (int_rmul_tuple 1 t l its.toArray n dd sl)
      ⟨ho, rfl, ⟨_, ho, rfl⟩, call_meets F.slot_tuple_mul ⟨_, ho, rfl⟩ F.entry_tuple_mul (F.args_tuple_mul_2 _ _) (tuple_mulOne l its.toArray n 1 t dd sl c0 c1) ⟨ho, ⟨.ref l, H, I, rfl, q⟩⟩⟩)
theorem od_mul : OpR X (binaryOp .Mult) (rOp X.K cl E mulD) := by
  refine (OpR.or op_mul (OpR.or op_mulW (OpR.or op_oneT (OpR.or op_repT op_rep)))).imp fun x y H Q h => ?_
  obtain ⟨μ, S, a, b, hS, ha, hb, h⟩ := h
  unfold mulD at h
  split at h
  · simp only [Rep] at ha hb
    split at h
    · rename_i hc
      rcases hc with hc | hc
      · exact .inl ⟨_, _, ha, hb, hc, h.now hS _ (by simp only [Rep])⟩
      · exact .inr (.inl ⟨_, _, ha, hb, hc, h.now hS _ (by simp only [Rep])⟩)
    · exact h.elim
  · rename_i xs k
    simp only [Rep] at ha hb
    obtain ⟨p, vs, rfl, h1, h2⟩ := ha
    by_cases hk1 : k = 1
    · subst hk1
      exact .inr (.inr (.inl ⟨p, vs, rfl, hb, SqT.of h1, h.now hS _ (by simp only [Rep]; exact ⟨p, vs, rfl, h1, h2⟩)⟩))
    rw [if_neg hk1] at h
    split at h
    · rename_i hz
      obtain ⟨z1, z2, z3, z4⟩ := hz
      refine .inr (.inr (.inr (.inl ⟨p, k, vs, rfl, hb, SqT.of h1, fun e => z1 ?_, z2, z3, by rw [h2.len]; exact z4, fun t ht => h.tmp hS ht _ ?_⟩)))
      · subst e
        have := h2.len
        cases xs <;> simp_all
      · simp only [Rep]
        exact ⟨t, _, rfl, upd_same, by simpa using Reps.later (ν := []) (Ltr.tmp (μ := μ) ht).kp _ _ (h2.rep k.toNat)⟩
    · exact h.elim
  · rename_i l k
    simp only [Rep] at ha hb
    obtain ⟨p, h1, rfl⟩ := ha
    split at h
    · rename_i xs e1
      obtain ⟨vs, w1, w2⟩ := hS.obj _ _ p e1 h1
      split at h
      · rename_i hz
        obtain ⟨z1, z2, z3⟩ := hz
        refine .inr (.inr (.inr (.inr ⟨p, k, vs, rfl, hb, w1, z1, z2, by rw [w2.len]; exact z3, fun t ht => ?_⟩)))
        obtain ⟨y1, y2⟩ := fine_new (α := Unit) hS ht (w2.rep k.toNat) h
        exact y1 _ y2
      · exact h.elim
    · exact h.elim
  · exact h.elim
theorem od_mod : OpR X (binaryOp .Mod) (rOp X.K cl E modD) := op_mod.imp fun x y H Q h => by
  obtain ⟨μ, S, a, b, hS, ha, hb, h⟩ := h
  unfold modD at h
  split at h
  · simp only [Rep] at ha hb
    split at h
    · rename_i hz
      exact ⟨_, _, ha, hb, hz, h.now hS _ (by simp only [Rep])⟩
    · exact h.elim
  · exact h.elim
theorem od_fdiv : OpR X (binaryOp .FloorDiv) (rOp X.K cl E fdivD) := (OpR.or op_fdiv op_fdivW).imp fun x y H Q h => by
  obtain ⟨μ, S, a, b, hS, ha, hb, h⟩ := h
  unfold fdivD at h
  split at h
  · simp only [Rep] at ha hb
    split at h
    · rename_i hz
      rcases hz with hz | hz
      · exact .inl ⟨_, _, ha, hb, hz, h.now hS _ (by simp only [Rep])⟩
      · exact .inr ⟨_, _, ha, hb, hz, h.now hS _ (by simp only [Rep])⟩
    · exact h.elim
  · exact h.elim
theorem od_pow : OpR X (binaryOp .Pow) (rOp X.K cl E powD) := (opI (C := fun i j => 0 ≤ j ∧ (Builtin.Int.intBits i : Int) * j ≤ 2 ^ 27) (g := fun i j => i ^ j.toNat) fun _ _ _ _ _ _ _ hc q => pow_int hc.1 hc.2 q).imp fun x y H Q h => by
  obtain ⟨μ, S, a, b, hS, ha, hb, h⟩ := h
  unfold powD at h
  split at h
  · simp only [Rep] at ha hb
    split at h
    · rename_i hz
      exact ⟨_, _, ha, hb, hz, h.now hS _ (by simp only [Rep])⟩
    · exact h.elim
  · exact h.elim
theorem od_cmpI {op : CmpOp} {f : Int → Int → Bool} (ho : OpR X (compareOp op) (rI0 fun i j => .bl (f i j))) : OpR X (compareOp op) (rOp X.K cl E (cmpI f)) := ho.imp fun x y H Q h => by
  obtain ⟨μ, S, a, b, hS, ha, hb, h⟩ := h
  unfold cmpI at h
  split at h
  · simp only [Rep] at ha hb
    exact ⟨_, _, ha, hb, h.now hS _ (by simp only [Rep])⟩
  · exact h.elim
theorem rep_non {μ : List Addr} {H : L2.Hp} {a : D} {x : V} (h : Rep K H μ a x) : decide (x = .non) = isNon a := by
  cases a <;> simp only [Rep] at h
  all_goals first
    | (subst h; rfl)
    | (obtain ⟨p, vs, rfl, _⟩ := h; rfl)
    | (obtain ⟨p, _, rfl⟩ := h; rfl)
    | (obtain ⟨p, rfl, _⟩ := h; rfl)
theorem od_isn : OpR X (compareOp .Is) (rOp X.K cl E isnD) := op_isN.imp fun x y H Q h => by
  obtain ⟨μ, S, a, b, hS, ha, hb, h⟩ := h
  unfold isnD at h
  split at h
  · simp only [Rep] at hb
    exact ⟨hb, h.now hS _ (by simp only [Rep]; rw [rep_non ha])⟩
  · exact h.elim
theorem od_notn : OpR X (compareOp .IsNot) (rOp X.K cl E notnD) := op_notN.imp fun x y H Q h => by
  obtain ⟨μ, S, a, b, hS, ha, hb, h⟩ := h
  unfold notnD at h
  split at h
  · simp only [Rep] at hb
    exact ⟨hb, h.now hS _ (by simp only [Rep]; rw [rep_non ha])⟩
  · exact h.elim
theorem od_neg : UnR X (unaryOp .USub) fun x H Q => ∃ μ S d, RepS X.K H μ S ∧ Rep X.K H μ d x ∧ Fine X.K cl E μ H (negD d S) fun d _ μ' H' => ∀ v, Rep X.K H' μ' d v → Q v H' :=
  fun pins s σ H x v Q I r h => un_neg pins s σ H x v Q I r (by
    obtain ⟨μ, S, a, hS, ha, h⟩ := h
    unfold negD at h
    split at h
    · simp only [Rep] at ha
      exact ⟨_, ha, h.now hS _ (by simp only [Rep])⟩
    · exact h.elim)
theorem atI_rep {μ : List Addr} {H : L2.Hp} {ds : List D} {vs : List V} {i : Int} {d : D} (h : Reps K H μ ds vs) (e : atI ds i = some d) : ∃ v, atI vs i = some v ∧ Rep K H μ d v := by
  unfold atI at e ⊢
  rw [h.len]
  cases q : ixN ds.length i with
  | none => rw [q] at e; cases e
  | some j =>
    rw [q] at e
    exact h.getD (show ds[j]? = some d from e)
theorem atI_map {α β : Type} (f : α → β) (xs : List α) (i : Int) : atI (xs.map f) i = (atI xs i).map f := by
  unfold atI
  rw [List.length_map]
  cases ixN xs.length i with
  | none => rfl
  | some j => simp
theorem ix_d : IxR X (rOp X.K cl E idxD) := fun value slice pins s σ H x y v u Q I rx ry h hs => ix_seq value slice pins s σ H x y v u Q I rx ry (by
  obtain ⟨μ, S, a, b, hS, ha, hb, h⟩ := h
  unfold idxD at h
  split at h
  · simp only [Rep] at ha hb
    obtain ⟨p, vs, rfl, h1, h2⟩ := ha
    split at h
    · rename_i d e
      obtain ⟨w, e2, hw⟩ := atI_rep h2 e
      exact .inr (.inl ⟨p, vs, _, w, rfl, hb, SqT.of h1, e2, h.now hS w hw⟩)
    · exact h.elim
  · simp only [Rep] at ha hb
    obtain ⟨p, h1, rfl⟩ := ha
    split at h
    · rename_i xs e1
      obtain ⟨vs, w1, w2⟩ := hS.obj _ _ p e1 h1
      split at h
      · rename_i d e
        obtain ⟨w, e2, hw⟩ := atI_rep w2 e
        exact .inl ⟨p, vs, _, w, rfl, hb, SqL.of w1, e2, h.now hS w hw⟩
      · exact h.elim
    · exact h.elim
  · simp only [Rep] at ha hb
    obtain ⟨p, rfl, h1⟩ := ha
    split at h
    · rename_i n e
      exact .inl ⟨p, _, _, .int n, rfl, hb, h1.sq, by rw [atI_map, e]; rfl, h.now hS _ (by simp only [Rep])⟩
    · exact h.elim
  · simp only [Rep] at ha hb
    split at h
    · rename_i hz
      split at h
      · rename_i n e
        exact .inr (.inr ⟨_, _, n, ha, hb, hz, e, h.now hS _ (by simp only [Rep])⟩)
      · exact h.elim
    · exact h.elim
  · exact h.elim) hs
end
end Rf
end

section
set_option Elab.async false
set_option linter.all false
set_option maxRecDepth 100000
set_option maxHeartbeats 2000000
namespace Rf
open PySem PySem.Spec PyProof.Rows L2

/-! ### subscripts, slices -/
def mOpt (m : Option (M D)) : M (Option Int) := match m with
  | none => M.ret none
  | some m => m.bind fun d => match d with
    | .int i => M.ret (some i)
    | _ => M.bad
def mSl (a : M D) (lo hi : Option (M D)) : M D := a.bind fun d => (mOpt lo).bind fun l => (mOpt hi).bind fun h => fun _ _ S => sliD d l h S

section
variable {X : Cx} {c : Cm} {lv : Nat} {E : XK} {g : Gs} {a b e o : Expr} {es : List Expr} {ma mb me mo : M D} {ms ml : M (List D)} {pos p p2 : Pos}
theorem pd_ix (ha : PEd X c E a ma) (hb : PEd X c E b mb) (hs : PlainIx b) : PEd X c E (.Subscript a b pos) (mOp idxD ma mb) := by
  refine (pe_ix (ix_d (cl := c.cl) (E := E)) ha hb hs).imp fun σ H Q h => ?_
  obtain ⟨μ, S, ρ, hS, hρ, h⟩ := h
  refine tD_bind hS hρ h fun x S1 μ1 H1 v s1 r1 hv _ h1 => ?_
  refine tD_bind s1 r1 h1 fun y S2 μ2 H2 w s2 r2 hw l2 h2 => ?_
  exact ⟨μ2, S2, x, y, s2, l2 x v hv, hw, h2⟩
def tOd (K : PySem.W.Frag) (E : XK) (c : Cm) (m : M (Option Int)) : TO := fun σ H Q => ∃ μ S ρ, RepS K H μ S ∧ RepE K H μ ρ σ ∧ Fine K c.cl E μ H (m c ρ S) fun i _ _ H' => Q i H'
abbrev POd (X : Cx) (c : Cm) (E : XK) (e : Option Expr) (m : Option (M D)) : Prop := PO X e (tOd X.K E c (mOpt m))
theorem _root_.L2.PO.imp {X : Cx} {e : Option Expr} {t t' : TO} (h : PO X e t) (i : ∀ σ H Q, t' σ H Q → t σ H Q) : PO X e t' := ⟨fun pins s σ H Q I q => h.run pins s σ H Q I (i σ H Q q)⟩
theorem po_non : POd X c E none none := po_none.imp fun σ H Q h => by
  obtain ⟨μ, S, ρ, hS, hρ, h⟩ := h
  exact (show Fine X.K c.cl E μ H (.ok (none : Option Int) S) _ from h).now hS
theorem po_som (ha : PEd X c E a ma) : POd X c E (some a) (some ma) := (po_some ha).imp fun σ H Q h => by
  obtain ⟨μ, S, ρ, hS, hρ, h⟩ := h
  refine tD_bind hS hρ h fun x S1 μ1 H1 v s1 r1 hv _ h1 => ?_
  cases x with
  | int i =>
    simp only [Rep] at hv
    exact ⟨i, hv, (show Fine X.K c.cl E μ1 H1 (.ok (some i : Option Int) S1) _ from h1).now s1⟩
  | _ => exact (show False from h1).elim
theorem reps_cut {K : PySem.W.Frag} {H : L2.Hp} {μ : List Addr} {xs : List D} {vs : List V} (h : Reps K H μ xs vs) (lo hi : Option Int) : Reps K H μ (cutD xs lo hi) (cutV vs lo hi) := by
  unfold cutD cutV
  rw [h.len]
  exact (h.drop _).take _
theorem reps_cutI {K : PySem.W.Frag} {H : L2.Hp} {μ : List Addr} (ns : List Int) (lo hi : Option Int) : Reps K H μ ((cutI ns lo hi).map .int) (cutV (ns.map V.int) lo hi) := by
  have e : (cutI ns lo hi).map D.int = cutD (ns.map .int) lo hi := by
    unfold cutI cutD
    rw [List.map_take, List.map_drop, List.length_map]
  rw [e]
  exact reps_cut (reps_ints ns) lo hi
theorem sl_d : SlR X fun x lo hi H Q => ∃ μ S a, RepS X.K H μ S ∧ Rep X.K H μ a x ∧ Fine X.K c.cl E μ H (sliD a lo hi S) fun d _ μ' H' => ∀ v, Rep X.K H' μ' d v → Q v H' := by
  intro pins s σ H x v vl vu lo hi sl Q I rx hs pl pu h
  refine (sl_tupA.or (sl_list.or sl_str)) pins s σ H x v vl vu lo hi sl Q I rx hs pl pu ?_
  obtain ⟨μ, S, a, hS, ha, h⟩ := h
  unfold sliD at h
  split at h
  · rename_i xs
    simp only [Rep] at ha
    obtain ⟨q, vs, rfl, h1, h2⟩ := ha
    refine .inl ⟨q, vs, rfl, SqT.of h1, fun w => ?_, fun _ t ht => h.tmp hS ht _ ?_⟩
    · refine h.now hS _ ?_
      simp only [Rep]
      refine ⟨q, vs, rfl, h1, ?_⟩
      have : cutD xs lo hi = xs := by
        unfold cutD
        rw [h2.len] at w
        rw [w.1, w.2]
        simp
      rw [this]; exact h2
    · simp only [Rep]
      exact ⟨t, _, rfl, upd_same, by simpa using Reps.later (ν := []) (Ltr.tmp (μ := μ) ht).kp _ _ (reps_cut h2 lo hi)⟩
  · rename_i k
    simp only [Rep] at ha
    obtain ⟨q, h1, rfl⟩ := ha
    split at h
    · rename_i xs e1
      obtain ⟨vs, w1, w2⟩ := hS.obj _ _ q e1 h1
      refine .inr (.inl ⟨q, vs, rfl, SqL.of w1, fun t ht => ?_⟩)
      obtain ⟨y1, y2⟩ := fine_new (α := Unit) hS ht (reps_cut w2 lo hi) h
      exact y1 _ y2
    · exact h.elim
  · rename_i ns
    simp only [Rep] at ha
    obtain ⟨q, rfl, h1⟩ := ha
    refine .inr (.inl ⟨q, _, rfl, h1.sq, fun t ht => ?_⟩)
    obtain ⟨y1, y2⟩ := fine_new (α := Unit) hS ht (reps_cutI ns lo hi) h
    exact y1 _ y2
  · simp only [Rep] at ha
    split at h
    · rename_i hz
      exact .inr (.inr ⟨_, ha, hz, h.now hS _ (by simp only [Rep])⟩)
    · exact h.elim
  · exact h.elim
theorem pd_sl {lo hi : Option Expr} {ml mh : Option (M D)} (ha : PEd X c E a ma) (hl : POd X c E lo ml) (hh : POd X c E hi mh) : PEd X c E (.Subscript a (.Slice lo hi none p2) pos) (mSl ma ml mh) := by
  refine (pe_slice (sl_d (c := c) (E := E)) ha hl hh).imp fun σ H Q h => ?_
  obtain ⟨μ, S, ρ, hS, hρ, h⟩ := h
  refine tD_bind hS hρ h fun x S1 μ1 H1 v s1 r1 hv _ h1 => ?_
  refine ⟨μ1, S1, ρ, s1, r1, (Fine.bind h1).mono fun l S2 ν2 H2 l2 s2 h2 => ?_⟩
  refine ⟨_, S2, ρ, s2, r1.later l2, (Fine.bind h2).mono fun u S3 ν3 H3 l3 s3 h3 => ?_⟩
  exact ⟨_, S3, x, s3, Rep.later l3.kp x v (Rep.later l2.kp x v hv), h3⟩

/-! ### methods -/
abbrev MetD := D → List D → Sto → Res D
def rMet (K : PySem.W.Frag) (cl : Nat → Addr) (E : XK) (T : String) (f : MetD) : V → List V → L2.Hp → VK → Prop := fun x xs H Q => ∃ μ S d ds, RepS K H μ S ∧ Rep K H μ d x ∧ Reps K H μ ds xs ∧ Fine K cl E μ H (f d ds S) fun d _ μ' H' => ∀ v, Rep K H' μ' d v → Q v H'
theorem _root_.L2.MtR.imp {X : Cx} {id : String} {r r' : V → List V → L2.Hp → VK → Prop} (h : MtR X id r) (i : ∀ x xs H Q, r' x xs H Q → r x xs H Q) : MtR X id r' :=
  fun pins s σ H x xs v us Q I r rs q => h pins s σ H x xs v us Q I r rs (i x xs H Q q)
/-- a value is of a built-in type -/
def isTy (T : String) (d : D) (S : Sto) : Bool := match d with
  | .str _ => T == "str"
  | .ref k => match S[k]? with
    | some (.lst _) => T == "list"
    | none => false
  | _ => false
def mMet (T : String) (f : MetD) (a : M D) (m : M (List D)) : M D := a.bind fun d => fun c ρ S => if isTy T d S = true then (m.bind fun ds => fun _ _ S1 => f d ds S1) c ρ S else .bad
theorem isTy_v {K : PySem.W.Frag} {H : L2.Hp} {μ : List Addr} {S : Sto} {T : String} {d : D} {v : V} (hS : RepS K H μ S) (hv : Rep K H μ d v) (h : isTy T d S = true) : tyV K T v H := by
  unfold isTy at h
  split at h
  · simp only [Rep] at hv
    subst hv
    exact beq_iff_eq.mp h
  · simp only [Rep] at hv
    obtain ⟨q, h1, rfl⟩ := hv
    split at h
    · rename_i xs e1
      obtain ⟨vs, w1, w2⟩ := hS.obj _ _ q e1 h1
      exact .inl ⟨beq_iff_eq.mp h, vs, SqL.of w1⟩
    · cases h
  · cases h
theorem pd_met {T id : String} {name : Str} {apos cpos : Pos} {f : MetD} (pa : PlainAttrs T) (slot : Slot T name id) (hty : typeOf (.builtin id) = pure (.type "method_descriptor")) (hm : MtR X id (rMet X.K c.cl E T f)) (ho : PEd X c E o mo) (ha : PAd X c E (e :: es) ms)
    (hbase : attributeBase o name X.env (eval o X.env) = eval o X.env)
    (hfew : ((backTo cpos (starEach (e :: es) X.env)).all (fun x => !x.1) && (backToKw cpos (keywordEach [] X.env)).all (fun x => x.1.isSome)
      && decide ((e :: es).length + ([] : List Keyword).length + (if ([] : List Keyword).isEmpty then 0 else 1) < 30)) = true)
    (hline : (apos.endLine == cpos.line) = true) (hs : starEach (e :: es) X.env = (false, eval e X.env) :: starEach es X.env) (hplain : (backTo cpos (starEach es X.env)).any (·.1) = false) :
    PEd X c E (.Call (.Attribute o name apos) (e :: es) [] cpos) (mMet T f mo ms) := by
  refine (pe_bm pa slot hty hm ho ha hbase hfew hline hs hplain).imp fun σ H Q h => ?_
  obtain ⟨μ, S, ρ, hS, hρ, h⟩ := h
  refine tD_bind hS hρ h fun x S1 μ1 H1 v s1 r1 hv _ h1 => ?_
  by_cases ht : isTy T x S1 = true
  · simp only [ht, if_true] at h1
    refine ⟨isTy_v s1 hv ht, ?_⟩
    exact tDs_bind s1 r1 h1 fun ds S2 μ2 H2 vs s2 r2 hvs l2 h2 => ⟨μ2, S2, x, ds, s2, l2 x v hv, hvs, h2⟩
  · simp only [ht] at h1; exact (show False from h1).elim
/-- .. upon one new list -/
abbrev MetL := D → List D → Sto → Res D
def mMetL (T : String) (f : MetL) (a : M D) (m : M (List D)) : M D := a.bind fun d => fun c ρ S => if isTy T d S = true then (m.bind fun ds => fun _ _ S1 => f d ds S1) c ρ S else .bad
theorem pd_metl {T id : String} {name : Str} {apos cpos : Pos} {f : MetL} (pa : PlainAttrs T) (slot : Slot T name id) (hty : typeOf (.builtin id) = pure (.type "method_descriptor"))
    (hm : MtR X id fun x xs H Q => ∃ μ S d ds q vs, RepS X.K H μ S ∧ Rep X.K H μ d x ∧ xs = [.ref q] ∧ H q = some (.lst vs) ∧ q ∉ μ ∧ Reps X.K H μ ds vs ∧ Fine X.K c.cl E μ H (f d ds S) fun d _ μ' H' => ∀ v, Rep X.K H' μ' d v → Q v H')
    (ho : PEd X c E o mo) (ha : PLd X c E e ml)
    (hbase : attributeBase o name X.env (eval o X.env) = eval o X.env)
    (hfew : ((backTo cpos (starEach [e] X.env)).all (fun x => !x.1) && (backToKw cpos (keywordEach [] X.env)).all (fun x => x.1.isSome)
      && decide ([e].length + ([] : List Keyword).length + (if ([] : List Keyword).isEmpty then 0 else 1) < 30)) = true)
    (hline : (apos.endLine == cpos.line) = true) (hs : starEach [e] X.env = [(false, eval e X.env)]) :
    PEd X c E (.Call (.Attribute o name apos) [e] [] cpos) (mMetL T f mo ml) := by
  refine (pe_bm pa slot hty hm ho (pa_cons ha pa_nil (by rw [hs]; rfl)) hbase hfew hline (by rw [hs]; rfl) rfl).imp fun σ H Q h => ?_
  obtain ⟨μ, S, ρ, hS, hρ, h⟩ := h
  refine tD_bind hS hρ h fun x S1 μ1 H1 v s1 r1 hv _ h1 => ?_
  by_cases ht : isTy T x S1 = true
  · simp only [ht, if_true] at h1
    refine ⟨isTy_v s1 hv ht, ?_⟩
    show tL X.K E c ml σ H1 fun y H2 => _
    exact tL_bind s1 r1 h1 fun ds S2 μ2 H2 q vs s2 r2 _ hq hn hvs l2 h2 => ⟨μ2, S2, x, ds, q, vs, s2, l2 x v hv, rfl, hq, hn, hvs, h2⟩
  · simp only [ht] at h1; exact (show False from h1).elim
def appD : MetD := fun d ds S => match d, ds with
  | .ref k, [y] => match S[k]? with
    | some (.lst xs) => if xs.length < sizeLine then .ok .non (S.set k (.lst (xs ++ [y]))) else .bad
    | none => .bad
  | _, _ => .bad
def extD : MetD := fun d ds S => match d, ds with
  | .ref k, [.ref l] => match S[k]?, S[l]? with
    | some (.lst xs), some (.lst ys) => if xs.length + ys.length ≤ sizeLine then .ok .non (S.set k (.lst (xs ++ ys))) else .bad
    | _, _ => .bad
  | _, _ => .bad
def extL : MetL := fun d ys S => match d with
  | .ref k => match S[k]? with
    | some (.lst xs) => if xs.length + ys.length ≤ sizeLine then .ok .non (S.set k (.lst (xs ++ ys))) else .bad
    | none => .bad
  | _ => .bad
theorem fine_set {K : PySem.W.Frag} {cl : Nat → Addr} {μ : List Addr} {H : L2.Hp} {S : Sto} {k : Nat} {xs es : List D} {q : Addr} {vs ws : List V} {Q : D → Sto → List Addr → L2.Hp → Prop} {d : D} (hS : RepS K H μ S) (hk : S[k]? = some (.lst xs)) (hq : μ[k]? = some q) (hv : H q = some (.lst vs)) (he : Reps K H μ es ws)
    (h : Fine K cl E μ H (.ok d (S.set k (.lst es))) Q) : Q d (S.set k (.lst es)) μ (upd H q (.lst ws)) := by
  have := h [] _ (Ltr.lst (List.mem_of_getElem? hq) hv) (by simpa using hS.wr hk hq hv he)
  simpa using this
theorem mt_appD : MtR X "list.append" (rMet X.K c.cl E "list" appD) := MtR.imp mt_append fun x xs H Q h => by
  obtain ⟨μ, S, d, ds, hS, hd, hds, h⟩ := h
  unfold appD at h
  split at h
  · rename_i k y
    simp only [Rep] at hd
    obtain ⟨q, h1, rfl⟩ := hd
    obtain ⟨v, rfl, h2⟩ := reps_one hds
    split at h
    · rename_i zs e1
      obtain ⟨vs, w1, w2⟩ := hS.obj _ _ q e1 h1
      split at h
      · rename_i hz
        refine ⟨q, vs, v, rfl, rfl, w1, by rw [w2.len]; exact hz, ?_⟩
        exact fine_set hS e1 h1 w1 (w2.app (.cons h2 .nil)) h _ (by simp only [Rep])
      · exact h.elim
    · exact h.elim
  · exact h.elim
theorem mt_extD : MtR X "list.extend" (rMet X.K c.cl E "list" extD) := MtR.imp mt_extend fun x xs H Q h => by
  obtain ⟨μ, S, d, ds, hS, hd, hds, h⟩ := h
  unfold extD at h
  split at h
  · rename_i k l
    simp only [Rep] at hd
    obtain ⟨q, h1, rfl⟩ := hd
    obtain ⟨v, rfl, h2⟩ := reps_one hds
    simp only [Rep] at h2
    obtain ⟨q2, h3, rfl⟩ := h2
    split at h
    · rename_i zs ys e1 e2
      obtain ⟨vs, w1, w2⟩ := hS.obj _ _ q e1 h1
      obtain ⟨us, w3, w4⟩ := hS.obj _ _ q2 e2 h3
      split at h
      · rename_i hz
        refine ⟨q, q2, vs, us, rfl, rfl, w1, w3, by rw [w2.len, w4.len]; exact hz, ?_⟩
        exact fine_set hS e1 h1 w1 (w2.app w4) h _ (by simp only [Rep])
      · exact h.elim
    · exact h.elim
  · exact h.elim
theorem mt_extL : MtR X "list.extend" fun x xs H Q => ∃ μ S d ds q vs, RepS X.K H μ S ∧ Rep X.K H μ d x ∧ xs = [.ref q] ∧ H q = some (.lst vs) ∧ q ∉ μ ∧ Reps X.K H μ ds vs ∧ Fine X.K c.cl E μ H (extL d ds S) fun d _ μ' H' => ∀ v, Rep X.K H' μ' d v → Q v H' := MtR.imp mt_extend fun x xs H Q h => by
  obtain ⟨μ, S, d, ds, q2, us, hS, hd, rfl, hq, hn, hds, h⟩ := h
  unfold extL at h
  split at h
  · rename_i k
    simp only [Rep] at hd
    obtain ⟨q, h1, rfl⟩ := hd
    split at h
    · rename_i zs e1
      obtain ⟨vs, w1, w2⟩ := hS.obj _ _ q e1 h1
      split at h
      · rename_i hz
        refine ⟨q, q2, vs, us, rfl, rfl, w1, hq, by rw [w2.len, hds.len]; exact hz, ?_⟩
        exact fine_set hS e1 h1 w1 (w2.app hds) h _ (by simp only [Rep])
      · exact h.elim
    · exact h.elim
  · exact h.elim
end
end Rf
end

section
set_option Elab.async false
set_option linter.all false
set_option maxRecDepth 100000
set_option maxHeartbeats 2000000
namespace Rf
open PySem PySem.Spec PyProof.Rows L2

/-! ### data as a whole -/
mutual
def toP (S : Sto) : D → Option PyData
  | .non => some .none
  | .bl b => some (.bool b)
  | .int i => some (.int i)
  | .str x => some (.str x)
  | .tup ds => (toPs S ds).map .tuple
  | .rol ns => some (.list (ns.map .int))
  | .ref _ => none
  | .ty _ => none
def toPs (S : Sto) : List D → Option (List PyData)
  | [] => some []
  | d :: ds => match toP S d, toPs S ds with
    | some p, some ps => some (p :: ps)
    | _, _ => none
end
/-- with lists, to a depth -/
def toQ : Nat → Sto → D → Option PyData
  | 0, _, _ => none
  | n + 1, S, d => match d with
    | .non => some .none
    | .bl b => some (.bool b)
    | .int i => some (.int i)
    | .str x => some (.str x)
    | .tup ds => (ds.mapM (toQ n S)).map .tuple
    | .rol ns => some (.list (ns.map .int))
    | .ref k => match S[k]? with
      | some (.lst ds) => (ds.mapM (toQ n S)).map .list
      | none => none
    | .ty _ => none
section
variable {K : PySem.W.Frag} {H : L2.Hp} {μ : List Addr} {S : Sto}
theorem dp_ints : ∀ ns : List Int, DpAll K H (ns.map V.int) (ns.map PyData.int)
  | [] => .nil
  | n :: ns => .cons (.int n) (dp_ints ns)
theorem mapM_dp {f : D → Option PyData} : ∀ {ds : List D} {ps : List PyData} {vs : List V}, (∀ d p v, f d = some p → Rep K H μ d v → Dp K H v p) → ds.mapM f = some ps → Reps K H μ ds vs → DpAll K H vs ps
  | [], ps, vs, hf, h, r => by
    simp only [Reps] at r
    subst r
    simp at h
    subst h
    exact .nil
  | d :: ds, ps, vs, hf, h, r => by
    simp only [Reps] at r
    obtain ⟨v, w, rfl, h1, h2⟩ := r
    rw [List.mapM_cons] at h
    cases e1 : f d with
    | none => rw [e1] at h; cases h
    | some p =>
      rw [e1] at h
      cases e2 : ds.mapM f with
      | none => rw [e2] at h; cases h
      | some qs =>
        rw [e2] at h
        cases h
        exact .cons (hf d p v e1 h1) (mapM_dp hf e2 h2)
theorem toQ_dp (hS : RepS K H μ S) : ∀ (n : Nat) (d : D) (p : PyData) (v : V), toQ n S d = some p → Rep K H μ d v → Dp K H v p
  | 0, d, p, v, h, _ => by cases h
  | n + 1, d, p, v, h, r => by
    have ih := toQ_dp hS n
    unfold toQ at h
    split at h
    · simp only [Rep] at r; subst r; cases h; exact .non
    · simp only [Rep] at r; subst r; cases h; exact .bl _
    · simp only [Rep] at r; subst r; cases h; exact .int _
    · simp only [Rep] at r; subst r; cases h; exact .str _
    · rename_i ds
      simp only [Rep] at r
      obtain ⟨q, vs, rfl, h1, h2⟩ := r
      cases e : ds.mapM (toQ n S) with
      | none => rw [e] at h; cases h
      | some ps =>
        rw [e] at h
        cases h
        exact .tup (SqT.of h1) (mapM_dp (fun d p v => ih d p v) e h2)
    · rename_i ns
      simp only [Rep] at r
      obtain ⟨q, rfl, h1⟩ := r
      cases h
      exact .lst h1.sq (dp_ints ns)
    · rename_i k
      simp only [Rep] at r
      obtain ⟨q, h1, rfl⟩ := r
      split at h
      · rename_i ds e1
        obtain ⟨vs, w1, w2⟩ := hS.obj _ _ q e1 h1
        cases e : ds.mapM (toQ n S) with
        | none => rw [e] at h; cases h
        | some ps =>
          rw [e] at h
          cases h
          exact .lst (SqL.of w1) (mapM_dp (fun d p v => ih d p v) e w2)
      · cases h
    · cases h
end

/-! ### built-ins -/
def lenD : CallD := fun ds S => match ds with
  | [.str x] => if x.length ≤ sizeLine then .ok (.int x.length) S else .bad
  | [.tup xs] => .ok (.int xs.length) S
  | [.rol ns] => .ok (.int ns.length) S
  | [.ref k] => match S[k]? with
    | some (.lst xs) => .ok (.int xs.length) S
    | none => .bad
  | _ => .bad
def intD : CallD := fun ds S => match ds with
  | [.int i] => .ok (.int i) S
  | [.bl k] => .ok (.int (if k then 1 else 0)) S
  | _ => .bad
def absD : CallD := fun ds S => match ds with
  | [.int i] => .ok (.int (if i < 0 then -i else i)) S
  | _ => .bad
def maxD : CallD := fun ds S => match ds with
  | [.int i, .int j] => .ok (.int (if j > i then j else i)) S
  | _ => .bad
def minD : CallD := fun ds S => match ds with
  | [.int i, .int j] => .ok (.int (if j < i then j else i)) S
  | _ => .bad
def strD : CallD := fun ds S => match ds with
  | [.int i] => if i.natAbs.log2 < 1920 then .ok (.str (toString i)) S else .bad
  | _ => .bad
/-- tuple(x), list(x) of a list or a tuple -/
def tupleD : CallD := fun ds S => match ds with
  | [d] => match itemsOf d S with
    | some xs => if xs.length ≤ sizeLine then .ok (.tup xs) S else .bad
    | none => .bad
  | _ => .bad
def listD : CallD := fun ds S => match ds with
  | [d] => match itemsOf d S with
    | some xs => if xs.length ≤ sizeLine then .ok (.ref S.length) (S ++ [.lst xs]) else .bad
    | none => .bad
  | _ => .bad
def tupleL : ListF := fun xs S => if xs.length ≤ sizeLine then .ok (.tup xs) S else .bad
def intsOf : List D → Option (List Int)
  | [] => some []
  | .int i :: r => (intsOf r).map (i :: ·)
  | _ => none
def boolsOf : List D → Option (List Bool)
  | [] => some []
  | .bl i :: r => (boolsOf r).map (i :: ·)
  | _ => none
def sumOf (xs : List D) (S : Sto) : Res D := match intsOf xs with
  | some ns => .ok (.int ns.sum) S
  | none => .bad
def allOf (xs : List D) (S : Sto) : Res D := match boolsOf xs with
  | some bs => .ok (.bl (bs.all id)) S
  | none => .bad
def anyOf (xs : List D) (S : Sto) : Res D := match boolsOf xs with
  | some bs => .ok (.bl (bs.any id)) S
  | none => .bad
def lenL : ListF := fun xs S => .ok (.int xs.length) S
/-- of a list of a place -/
def onList (f : ListF) : CallD := fun ds S => match ds with
  | [.ref k] => match S[k]? with
    | some (.lst xs) => f xs S
    | none => .bad
  | [.rol ns] => f (ns.map .int) S
  | _ => .bad
def tyOfD (d : D) (S : Sto) : Option String := match d with
  | .non => some "NoneType"
  | .bl _ => some "bool"
  | .int _ => some "int"
  | .str _ => some "str"
  | .tup _ => some "tuple"
  | .ref k => match S[k]? with
    | some (.lst _) => some "list"
    | none => none
  | .rol _ => none
  | .ty _ => none
/-- is a value of type a one of type b -/
def subTy (a b : String) : Option Bool := if (["NoneType", "bool", "int", "str", "tuple", "list"] : List String).contains a && (["bool", "int", "str", "tuple", "list"] : List String).contains b then some (a == b || (a == "bool" && b == "int")) else none
def isiD : CallD := fun ds S => match ds with
  | [d, .ty b] => match tyOfD d S with
    | some a => match subTy a b with
      | some k => .ok (.bl k) S
      | none => .bad
    | none => .bad
  | _ => .bad
def reprD : CallD := fun ds S => match ds with
  | [d] => match toQ 30 S d with
    | some p => if p.showable = true ∧ p.shown.length ≤ sizeLine ∧ p.depth ≤ 60 then .ok (.str p.shown) S else .bad
    | none => .bad
  | _ => .bad
def twoStr : PyData → PyData → Bool
  | .str _, .str _ => true
  | _, _ => false
def eqD : OpD := fun a b S => match toQ 30 S a, toQ 30 S b with
  | some p, some q => if (SeqAt.shaped p = true ∧ SeqAt.shaped q = true) ∨ twoStr p q = true then .ok (.bl (PyData.eqv p q)) S else .bad
  | _, _ => .bad
def neD : OpD := fun a b S => match toQ 30 S a, toQ 30 S b with
  | some p, some q => if (SeqAt.shaped p = true ∧ SeqAt.shaped q = true) ∨ twoStr p q = true then .ok (.bl !(PyData.eqv p q)) S else .bad
  | _, _ => .bad
def noneP : PyData → Bool
  | .none => true
  | _ => false
def ltD : OpD := fun a b S => match toQ 30 S a, toQ 30 S b with
  | some p, some q => if PySem.W.alike p q = true ∧ noneP p = false ∧ p.depth ≤ 60 then .ok (.bl (PySem.W.dataLt p q)) S else .bad
  | _, _ => .bad

section
variable {X : Cx} {cl : Nat → Addr} {E : XK}
theorem cd_len : CallR X (.builtin "len") (rCall X.K cl E lenD) := call_len.imp fun xs H Q h => by
  obtain ⟨μ, S, ds, hS, hv, h⟩ := h
  unfold lenD at h
  split at h
  · obtain ⟨v, rfl, h2⟩ := reps_one hv
    simp only [Rep] at h2
    subst h2
    split at h
    · rename_i hz
      exact ⟨_, _, rfl, ⟨hz, rfl⟩, h.now hS _ (by simp only [Rep])⟩
    · exact h.elim
  · obtain ⟨v, rfl, h2⟩ := reps_one hv
    simp only [Rep] at h2
    obtain ⟨q, vs, rfl, h3, h4⟩ := h2
    exact ⟨_, _, rfl, .inr ⟨vs, SqT.of h3, rfl⟩, h.now hS _ (by simp only [Rep]; rw [h4.len])⟩
  · obtain ⟨v, rfl, h2⟩ := reps_one hv
    simp only [Rep] at h2
    obtain ⟨q, rfl, h3⟩ := h2
    exact ⟨_, _, rfl, .inl ⟨_, h3.sq, rfl⟩, h.now hS _ (by simp only [Rep]; rw [List.length_map])⟩
  · obtain ⟨v, rfl, h2⟩ := reps_one hv
    simp only [Rep] at h2
    obtain ⟨q, h3, rfl⟩ := h2
    split at h
    · rename_i e1
      obtain ⟨vs, w1, w2⟩ := hS.obj _ _ q e1 h3
      exact ⟨_, _, rfl, .inl ⟨vs, SqL.of w1, rfl⟩, h.now hS _ (by simp only [Rep]; rw [w2.len])⟩
    · exact h.elim
  · exact h.elim
theorem cd_int : CallR X (.type "int") (rCall X.K cl E intD) := call_int1.imp fun xs H Q h => by
  obtain ⟨μ, S, ds, hS, hv, h⟩ := h
  unfold intD at h
  split at h
  · obtain ⟨v, rfl, h2⟩ := reps_one hv
    simp only [Rep] at h2
    subst h2
    exact .inl ⟨_, rfl, h.now hS _ (by simp only [Rep])⟩
  · obtain ⟨v, rfl, h2⟩ := reps_one hv
    simp only [Rep] at h2
    subst h2
    exact .inr ⟨_, rfl, h.now hS _ (by simp only [Rep])⟩
  · exact h.elim
theorem cd_abs : CallR X (.builtin "abs") (rCall X.K cl E absD) := call_abs.imp fun xs H Q h => by
  obtain ⟨μ, S, ds, hS, hv, h⟩ := h
  unfold absD at h
  split at h
  · obtain ⟨v, rfl, h2⟩ := reps_one hv
    simp only [Rep] at h2
    subst h2
    exact ⟨_, rfl, h.now hS _ (by simp only [Rep])⟩
  · exact h.elim
theorem cd_max (hc : X.calm = true) : CallR X (.builtin "max") (rCall X.K cl E maxD) := (call_max2 hc).imp fun xs H Q h => by
  obtain ⟨μ, S, ds, hS, hv, h⟩ := h
  unfold maxD at h
  split at h
  · obtain ⟨v, w, rfl, h2, h3⟩ := reps_two hv
    simp only [Rep] at h2 h3
    subst h2 h3
    exact ⟨_, _, rfl, h.now hS _ (by simp only [Rep])⟩
  · exact h.elim
theorem cd_min (hc : X.calm = true) : CallR X (.builtin "min") (rCall X.K cl E minD) := (call_min2 hc).imp fun xs H Q h => by
  obtain ⟨μ, S, ds, hS, hv, h⟩ := h
  unfold minD at h
  split at h
  · obtain ⟨v, w, rfl, h2, h3⟩ := reps_two hv
    simp only [Rep] at h2 h3
    subst h2 h3
    exact ⟨_, _, rfl, h.now hS _ (by simp only [Rep])⟩
  · exact h.elim
theorem cd_str : CallR X (.type "str") (rCall X.K cl E strD) := call_str_int.imp fun xs H Q h => by
  obtain ⟨μ, S, ds, hS, hv, h⟩ := h
  unfold strD at h
  split at h
  · obtain ⟨v, rfl, h2⟩ := reps_one hv
    simp only [Rep] at h2
    subst h2
    split at h
    · rename_i hz
      exact ⟨_, rfl, hz, h.now hS _ (by simp only [Rep])⟩
    · exact h.elim
  · exact h.elim
theorem cd_tuple : CallR X (.type "tuple") (rCall X.K cl E tupleD) := call_tuple_of.imp fun xs H Q h => by
  obtain ⟨μ, S, ds, hS, hv, h⟩ := h
  unfold tupleD at h
  split at h
  · rename_i d
    obtain ⟨v, rfl, h2⟩ := reps_one hv
    split at h
    · rename_i ys e1
      split at h
      · obtain ⟨q, vs, rfl, hq, hvs⟩ := items_sq hS h2 e1
        rcases hq with hq | hq
        · cases d with
          | tup zs =>
            simp only [itemsOf, Option.some.injEq] at e1
            subst e1
            exact ⟨q, vs, rfl, .inr ⟨hq, h.now hS _ h2⟩⟩
          | ref k =>
            simp only [Rep] at h2
            obtain ⟨q', h3, e⟩ := h2
            cases e
            simp only [itemsOf] at e1
            split at e1
            · rename_i e2
              cases e1
              obtain ⟨ws, w1, w2⟩ := hS.obj _ _ q e2 h3
              exact ⟨q, ws, rfl, .inl ⟨SqL.of w1, fun l hl => h.tmp hS hl _ (by
                simp only [Rep]
                exact ⟨l, ws, rfl, upd_same, by simpa using Reps.later (ν := []) (Ltr.tmp (μ := μ) hl).kp _ _ w2⟩)⟩⟩
            · cases e1
          | rol ns =>
            simp only [Rep] at h2
            obtain ⟨q', e, h3⟩ := h2
            cases e
            simp only [itemsOf, Option.some.injEq] at e1
            subst e1
            exact ⟨q, _, rfl, .inl ⟨h3.sq, fun l hl => h.tmp hS hl _ (by
              simp only [Rep]
              exact ⟨l, _, rfl, upd_same, reps_ints ns⟩)⟩⟩
          | _ => cases e1
        · exact ⟨q, vs, rfl, .inl ⟨hq, fun l hl => h.tmp hS hl _ (by
            simp only [Rep]
            exact ⟨l, vs, rfl, upd_same, by simpa using Reps.later (ν := []) (Ltr.tmp (μ := μ) hl).kp _ _ hvs⟩)⟩⟩
      · exact h.elim
    · exact h.elim
  · exact h.elim
theorem cd_list : CallR X (.type "list") (rCall X.K cl E listD) := call_list_of.imp fun xs H Q h => by
  obtain ⟨μ, S, ds, hS, hv, h⟩ := h
  unfold listD at h
  split at h
  · rename_i d
    obtain ⟨v, rfl, h2⟩ := reps_one hv
    split at h
    · rename_i ys e1
      split at h
      · obtain ⟨q, vs, rfl, hq, hvs⟩ := items_sq hS h2 e1
        refine ⟨q, vs, rfl, hq.symm, fun l hl => ?_⟩
        obtain ⟨z1, z2⟩ := fine_new (α := Unit) hS hl hvs h
        exact z1 _ z2
      · exact h.elim
    · exact h.elim
  · exact h.elim
theorem cl_tuple : CallR X (.type "tuple") (rList X.K cl E tupleL) := call_tuple_of.imp fun xs H Q h => by
  obtain ⟨μ, S, ds, q, vs, rfl, hS, hq, hn, hv, h⟩ := h
  unfold tupleL at h
  split at h
  · exact ⟨q, vs, rfl, .inl ⟨SqL.of hq, fun l hl => h.tmp hS hl _ (by
      simp only [Rep]
      exact ⟨l, vs, rfl, upd_same, by simpa using Reps.later (ν := []) (Ltr.tmp (μ := μ) hl).kp _ _ hv⟩)⟩⟩
  · exact h.elim
theorem reps_intsOf {K : PySem.W.Frag} {H : L2.Hp} {μ : List Addr} : ∀ {xs : List D} {vs : List V} {ns : List Int}, Reps K H μ xs vs → intsOf xs = some ns → vs = ns.map V.int
  | [], vs, ns, h, e => by
    simp only [Reps] at h
    simp only [intsOf, Option.some.injEq] at e
    rw [h, ← e]; rfl
  | d :: xs, vs, ns, h, e => by
    simp only [Reps] at h
    obtain ⟨v, r, rfl, h2, h3⟩ := h
    cases d with
    | int i =>
      simp only [Rep] at h2
      simp only [intsOf] at e
      cases q : intsOf xs with
      | none => rw [q] at e; cases e
      | some ms =>
        rw [q] at e
        cases e
        rw [h2, reps_intsOf h3 q]; rfl
    | _ => cases e
theorem reps_boolsOf {K : PySem.W.Frag} {H : L2.Hp} {μ : List Addr} : ∀ {xs : List D} {vs : List V} {ns : List Bool}, Reps K H μ xs vs → boolsOf xs = some ns → vs = ns.map V.bl
  | [], vs, ns, h, e => by
    simp only [Reps] at h
    simp only [boolsOf, Option.some.injEq] at e
    rw [h, ← e]; rfl
  | d :: xs, vs, ns, h, e => by
    simp only [Reps] at h
    obtain ⟨v, r, rfl, h2, h3⟩ := h
    cases d with
    | bl i =>
      simp only [Rep] at h2
      simp only [boolsOf] at e
      cases q : boolsOf xs with
      | none => rw [q] at e; cases e
      | some ms =>
        rw [q] at e
        cases e
        rw [h2, reps_boolsOf h3 q]; rfl
    | _ => cases e
/-- f of one list that is told -/
def rL1 (K : PySem.W.Frag) (cl : Nat → Addr) (E : XK) (f : ListF) : List V → L2.Hp → VK → Prop := fun xs H Q => ∃ μ S ds q vs, xs = [.ref q] ∧ RepS K H μ S ∧ SqL K H q vs ∧ Reps K H μ ds vs ∧ Fine K cl E μ H (f ds S) fun d _ μ' H' => ∀ v, Rep K H' μ' d v → Q v H'
theorem rL1.new {K : PySem.W.Frag} {f : ListF} {fv : Value} (h : CallR X fv (rL1 X.K cl E f)) : CallR X fv (rList X.K cl E f) := h.imp fun xs H Q h => by
  obtain ⟨μ, S, ds, q, vs, e, hS, hq, hn, hv, h⟩ := h
  exact ⟨μ, S, ds, q, vs, e, hS, SqL.of hq, hv, h⟩
theorem rL1.on {K : PySem.W.Frag} {f : ListF} {fv : Value} (h : CallR X fv (rL1 X.K cl E f)) : CallR X fv (rCall X.K cl E (onList f)) := h.imp fun xs H Q h => by
  obtain ⟨μ, S, ds, hS, hv, h⟩ := h
  unfold onList at h
  split at h
  · obtain ⟨v, rfl, h2⟩ := reps_one hv
    simp only [Rep] at h2
    obtain ⟨q, h3, rfl⟩ := h2
    split at h
    · rename_i ys e1
      obtain ⟨ws, w1, w2⟩ := hS.obj _ _ q e1 h3
      exact ⟨μ, S, ys, q, ws, rfl, hS, SqL.of w1, w2, h⟩
    · exact h.elim
  · rename_i ns
    obtain ⟨v, rfl, h2⟩ := reps_one hv
    simp only [Rep] at h2
    obtain ⟨q, rfl, h3⟩ := h2
    exact ⟨μ, S, _, q, _, rfl, hS, h3.sq, reps_ints ns, h⟩
  · exact h.elim
theorem c1_sum (hc : X.calm = true) : CallR X (.builtin "sum") (rL1 X.K cl E sumOf) := (cr_sum hc).imp fun xs H Q h => by
  obtain ⟨μ, S, ds, q, vs, rfl, hS, hq, hv, h⟩ := h
  unfold sumOf at h
  split at h
  · rename_i ns e
    have := reps_intsOf hv e
    subst this
    exact ⟨q, ns, rfl, hq, h.now hS _ (by simp only [Rep])⟩
  · exact h.elim
theorem c1_all (hc : X.calm = true) : CallR X (.builtin "all") (rL1 X.K cl E allOf) := (cr_all hc).imp fun xs H Q h => by
  obtain ⟨μ, S, ds, q, vs, rfl, hS, hq, hv, h⟩ := h
  unfold allOf at h
  split at h
  · rename_i ns e
    have := reps_boolsOf hv e
    subst this
    exact ⟨q, ns, rfl, hq, h.now hS _ (by simp only [Rep])⟩
  · exact h.elim
theorem c1_any (hc : X.calm = true) : CallR X (.builtin "any") (rL1 X.K cl E anyOf) := (cr_any hc).imp fun xs H Q h => by
  obtain ⟨μ, S, ds, q, vs, rfl, hS, hq, hv, h⟩ := h
  unfold anyOf at h
  split at h
  · rename_i ns e
    have := reps_boolsOf hv e
    subst this
    exact ⟨q, ns, rfl, hq, h.now hS _ (by simp only [Rep])⟩
  · exact h.elim
theorem c1_len : CallR X (.builtin "len") (rL1 X.K cl E lenL) := call_len.imp fun xs H Q h => by
  obtain ⟨μ, S, ds, q, vs, rfl, hS, hq, hv, h⟩ := h
  exact ⟨_, _, rfl, .inl ⟨vs, hq, rfl⟩, (show Fine X.K cl E μ H (.ok (Rf.D.int ds.length) S) _ from h).now hS _ (by simp only [Rep]; rw [hv.len])⟩
theorem kit_sub {K : PySem.W.Frag} {a b : String} {k : Bool} (h : subTy a b = some k) : PySem.W.kitOne K (.type a) (.type b) = some k := by
  unfold subTy at h
  split at h
  · rename_i hc
    rw [Bool.and_eq_true] at hc
    obtain ⟨h1, h2⟩ := hc
    have m1 : a ∈ (["NoneType", "bool", "int", "str", "tuple", "list"] : List String) := by simpa using h1
    have m2 : b ∈ (["bool", "int", "str", "tuple", "list"] : List String) := by simpa using h2
    simp only [List.mem_cons, List.not_mem_nil, or_false] at m1 m2
    rcases m1 with rfl | rfl | rfl | rfl | rfl | rfl <;> rcases m2 with rfl | rfl | rfl | rfl | rfl <;> (cases h; with_unfolding_all rfl)
  · cases h
theorem cd_isi : CallR X (.builtin "isinstance") (rCall X.K cl E isiD) := call_isi.imp fun xs H Q h => by
  obtain ⟨μ, S, ds, hS, hv, h⟩ := h
  unfold isiD at h
  split at h
  · rename_i d b
    obtain ⟨v, w, rfl, h2, h3⟩ := reps_two hv
    simp only [Rep] at h3
    subst h3
    split at h
    · rename_i ta e1
      split at h
      · rename_i k e2
        refine ⟨v, .ty b, .type ta, .type b, k, rfl, .ty b, ?_, kit_sub e2, h.now hS _ (by simp only [Rep])⟩
        cases d with
        | non => simp only [Rep] at h2; subst h2; cases e1; exact .base .non
        | bl z => simp only [Rep] at h2; subst h2; cases e1; exact .base (.bl z)
        | int z => simp only [Rep] at h2; subst h2; cases e1; exact .base (.int z)
        | str z => simp only [Rep] at h2; subst h2; cases e1; exact .base (.str z)
        | tup zs =>
          simp only [Rep] at h2
          obtain ⟨q, vs, rfl, h4, h5⟩ := h2
          cases e1
          exact .base (.tup h4)
        | ref k =>
          simp only [Rep] at h2
          obtain ⟨q, h4, rfl⟩ := h2
          simp only [tyOfD] at e1
          split at e1
          · rename_i e3
            obtain ⟨vs, w1, w2⟩ := hS.obj _ _ q e3 h4
            cases e1
            exact .base (.lst w1)
          · cases e1
        | rol _ => cases e1
        | ty _ => cases e1
      · exact h.elim
    · exact h.elim
  · exact h.elim
theorem od_eq (hr : Room 0 X.A) : OpR X (compareOp .Eq) (rOp X.K cl E eqD) := (OpR.or (op_eqD hr.units) op_eq).imp fun x y H Q h => by
  obtain ⟨μ, S, a, b, hS, ha, hb, h⟩ := h
  unfold eqD at h
  split at h
  · rename_i p q e1 e2
    have d1 := toQ_dp hS 30 a p x e1 ha
    have d2 := toQ_dp hS 30 b q y e2 hb
    split at h
    · rename_i hz
      have h := h.now hS
      rcases hz with hz | hz
      · exact .inl ⟨p, q, d1, d2, hz.1, hz.2, h _ (by simp only [Rep])⟩
      · unfold twoStr at hz
        split at hz
        · rename_i u v _
          cases d1
          cases d2
          refine .inr ⟨rfl, ?_⟩
          have z := h (.bl (PyData.eqv (.str u) (.str v))) (by simp only [Rep])
          have e : decide (V.str u = V.str v) = PyData.eqv (.str u) (.str v) := by
            simp only [PyData.eqv]; rw [Bool.eq_iff_iff]; simp
          rw [e]
          exact z
        · cases hz
    · exact h.elim
  · exact h.elim
theorem od_ne (hr : Room 0 X.A) : OpR X (compareOp .NotEq) (rOp X.K cl E neD) := (OpR.or (op_neD hr.units) op_ne).imp fun x y H Q h => by
  obtain ⟨μ, S, a, b, hS, ha, hb, h⟩ := h
  unfold neD at h
  split at h
  · rename_i p q e1 e2
    have d1 := toQ_dp hS 30 a p x e1 ha
    have d2 := toQ_dp hS 30 b q y e2 hb
    split at h
    · rename_i hz
      have h := h.now hS
      rcases hz with hz | hz
      · exact .inl ⟨p, q, d1, d2, hz.1, hz.2, h _ (by simp only [Rep])⟩
      · unfold twoStr at hz
        split at hz
        · rename_i u v _
          cases d1
          cases d2
          refine .inr ⟨rfl, ?_⟩
          have z := h (.bl !(PyData.eqv (.str u) (.str v))) (by simp only [Rep])
          have e : decide (V.str u = V.str v) = PyData.eqv (.str u) (.str v) := by
            simp only [PyData.eqv]; rw [Bool.eq_iff_iff]; simp
          rw [e]
          exact z
        · cases hz
    · exact h.elim
  · exact h.elim
theorem od_lt (hr : Room 0 X.A) : OpR X (compareOp .Lt) (rOp X.K cl E ltD) := by
  intro pins s σ H x y v u Q I rx ry h
  obtain ⟨μ, S, a, b, hS, ha, hb, h⟩ := h
  unfold ltD at h
  split at h
  · rename_i p q e1 e2
    split at h
    · rename_i hz
      obtain ⟨h1, h2, h3⟩ := hz
      obtain ⟨as, r1⟩ := Dp.reads I p x v (toQ_dp hS 30 a p x e1 ha) rx
      obtain ⟨bs, r2⟩ := Dp.reads I q y u (toQ_dp hS 30 b q y e2 hb) ry
      have hu := hr.units
      have hmin : min p.depth q.depth ≤ p.depth := Nat.min_le_left _ _
      have := PySem.W.rcLt_alike p q X.A s v u as bs r1 r2 h1 (by intro z; subst z; cases h2) (by omega) X.prog X.w X.xe (EP X pins σ Q) ⟨.bl (PySem.W.dataLt p q), H, I, rfl, h.now hS _ (by simp only [Rep])⟩
      exact this
    · exact h.elim
  · exact h.elim
end
end Rf
end

section
set_option Elab.async false
set_option linter.all false
set_option maxRecDepth 100000
set_option maxHeartbeats 2000000
namespace Rf
open PySem PySem.Spec PyProof.Rows L2
section
variable {X : Cx} {cl : Nat → Addr} {E : XK}
theorem dp_nodict {K : PySem.W.Frag} {H : L2.Hp} : ∀ (p : PyData) (v : V), Dp K H v p → p.hasDict = false
  | .none, _, _ => by simp only [PyData.hasDict]
  | .bool _, _, _ => by simp only [PyData.hasDict]
  | .int _, _, _ => by simp only [PyData.hasDict]
  | .str _, _, _ => by simp only [PyData.hasDict]
  | .list ps, _, h => by cases h with | lst _ h => simp only [PyData.hasDict]; exact dps_nodict ps _ h
  | .tuple ps, _, h => by cases h with | tup _ h => simp only [PyData.hasDict]; exact dps_nodict ps _ h
  | .dict _, _, h => by cases h
where
  dps_nodict : ∀ (ps : List PyData) (vs : List V), DpAll K H vs ps → PyData.hasDictAll ps = false
  | [], _, _ => by simp only [PyData.hasDictAll]
  | p :: ps, _, h => by
    cases h with
    | cons h1 h2 => simp only [PyData.hasDictAll, dp_nodict p _ h1, dps_nodict ps _ h2, Bool.or_false]
theorem cd_repr (hr : Room 0 X.A) (hg : X.A.guards = some []) : CallR X (.builtin "repr") (rCall X.K cl E reprD) := by
  intro pins s σ H xs us Q I r h
  obtain ⟨μ, S, ds, hS, hv, h⟩ := h
  unfold reprD at h
  split at h
  · rename_i d
    obtain ⟨v, rfl, h2⟩ := reps_one hv
    obtain ⟨u, rfl, ru⟩ := vals1 r
    split at h
    · rename_i p e
      split at h
      · rename_i hz
        obtain ⟨z1, z2, z3⟩ := hz
        have dp := toQ_dp hS 30 d p v e h2
        have q := h.now hS (.str p.shown) (by simp only [Rep])
        obtain ⟨as, rd⟩ := Dp.reads I p v u dp ru
        have hnd := dp_nodict p v dp
        have hu := hr.units
        cases p with
        | none =>
          cases dp
          cases ru
          exact PySem.P.repr_of_none ⟨.str _, H, I.tok _, ⟨_, rfl⟩, q⟩
        | bool b =>
          cases dp
          cases ru
          exact PySem.P.repr_of_bool ⟨.str _, H, I.tok _, ⟨_, rfl⟩, q⟩
        | int i =>
          cases dp
          obtain ⟨t, rfl⟩ := ru
          simp only [PyData.showable, decide_eq_true_eq] at z1
          exact PySem.P.repr_of_int z1 ⟨.str _, H, I.tok _, ⟨_, rfl⟩, q⟩
        | str x =>
          cases dp
          obtain ⟨t, rfl⟩ := ru
          exact PySem.P.repr_of_str ⟨.str _, H, I.tok _, ⟨_, rfl⟩, q⟩ z2
        | list ps =>
          cases dp
          cases ru
          exact repr_of_reads' rd z1 (PyData.noDict_hsm hnd) hg (by omega) (fun _ _ e => e) (fun h' u tk hk => ⟨.str _, H, I.kept hk, ⟨_, rfl⟩, q⟩) z2
        | tuple ps =>
          cases dp
          cases ru
          exact repr_of_reads' rd z1 (PyData.noDict_hsm hnd) hg (by omega) (fun _ _ e => e) (fun h' u tk hk => ⟨.str _, H, I.kept hk, ⟨_, rfl⟩, q⟩) z2
        | dict _ => cases dp
      · exact h.elim
    · exact h.elim
  · exact h.elim

/-! ### sorted of data -/
def dLe (S : Sto) (a b : D × PyData) : Bool := PySem.W.dataLe false (fun p : D × PyData => p.2) a b
/-- each with its data -/
def withP (S : Sto) : List D → Option (List (D × PyData))
  | [] => some []
  | d :: ds => match toQ 30 S d, withP S ds with
    | some p, some r => some ((d, p) :: r)
    | _, _ => none
def nonNil : PyData → Bool
  | .tuple (_ :: _) => true
  | _ => false
def noTup : PyData → Bool
  | .tuple _ => false
  | .none => false
  | _ => true
def sortOk (ps : List (D × PyData)) : Bool := (ps.all fun a => ps.all fun b => PySem.W.alike a.2 b.2) && (ps.all (fun a => nonNil a.2) || ps.all fun a => noTup a.2) && ps.all (fun a => decide (a.2.depth ≤ 60)) && decide (ps.length ≤ sizeLine)
def sortP (ds : List D) (S : Sto) : Option (List D) := match withP S ds with
  | some ps => if sortOk ps = true then some ((ps.mergeSort (PySem.W.dataLe false fun p => p.2)).map (·.1)) else none
  | none => none
theorem withP_spec {K : PySem.W.Frag} {H : L2.Hp} {μ : List Addr} {S : Sto} (hS : RepS K H μ S) : ∀ {ds : List D} {ps : List (D × PyData)} {vs : List V}, withP S ds = some ps → Reps K H μ ds vs →
    ∃ qs : List ((D × PyData) × V), qs.map (·.1) = ps ∧ qs.map (·.2) = vs ∧ ∀ q ∈ qs, Rep K H μ q.1.1 q.2 ∧ Dp K H q.2 q.1.2
  | [], ps, vs, h, r => by
    simp only [Reps] at r
    simp only [withP, Option.some.injEq] at h
    subst h r
    exact ⟨[], rfl, rfl, fun _ h => by cases h⟩
  | d :: ds, ps, vs, h, r => by
    simp only [Reps] at r
    obtain ⟨v, w, rfl, h1, h2⟩ := r
    simp only [withP] at h
    split at h
    · rename_i p r e1 e2
      cases h
      obtain ⟨qs, a1, a2, a3⟩ := withP_spec hS e2 h2
      refine ⟨((d, p), v) :: qs, by simp [a1], by simp [a2], fun q hq => ?_⟩
      rcases List.mem_cons.mp hq with rfl | hq
      · exact ⟨h1, toQ_dp hS 30 d p v e1 h1⟩
      · exact a3 q hq
    · cases h
/-- a list that is sorted: a new list -/
theorem sorted_any {pins : List (Addr × Obj)} {s : Shared} {σ : L2.St} {H : L2.Hp} {l : Addr} {vs : List V} {μ : List Addr} {S : Sto} {ds : List D} {es : List D} {Q : VK} (hr : Room 0 X.A) (I : Inv X pins σ H s) (hl : SqL X.K H l vs) (hS : RepS X.K H μ S) (hv : Reps X.K H μ ds vs) (e : sortP ds S = some es)
    (h : ∀ p ws, H p = none → Reps X.K H μ es ws → Q (.ref p) (upd H p (.lst ws))) : wpAny (model X.prog X.w) X.A (call (.builtin "sorted") [.ref l]) (EP X pins σ Q) X.xe s := by
  unfold sortP at e
  split at e
  · rename_i ps e1
    split at e
    · rename_i hok
      cases e
      obtain ⟨qs, a1, a2, a3⟩ := withP_spec hS e1 hv
      obtain ⟨its, rv, pl, hz⟩ := I.list hl
      unfold sortOk at hok
      simp only [Bool.and_eq_true, List.all_eq_true, Bool.or_eq_true, decide_eq_true_eq] at hok
      obtain ⟨⟨⟨o1, o2⟩, o3⟩, o4⟩ := hok
      have lens : qs.length = ps.length := by rw [← a1, List.length_map]
      have mem : ∀ q ∈ qs, q.1 ∈ ps := fun q hq => by rw [← a1]; exact List.mem_map_of_mem hq
      have eqs : ∀ {its : List Value} {qs : List ((D × PyData) × V)}, Vals (qs.map (·.2)) its → PySem.W.EachIs (fun u q => RelV q.2 u ∧ q ∈ qs) its qs := by
        intro its qs rv
        have : ∀ {its : List Value} {qs : List ((D × PyData) × V)} {all : List ((D × PyData) × V)}, (∀ q ∈ qs, q ∈ all) → Vals (qs.map (·.2)) its → PySem.W.EachIs (fun u q => RelV q.2 u ∧ q ∈ all) its qs := by
          intro its qs all hm rv
          induction qs generalizing its with
          | nil => cases rv; exact .nil
          | cons q qs ih =>
            cases rv with
            | cons r1 r2 => exact .cons ⟨r1, hm q List.mem_cons_self⟩ (ih (fun z hz => hm z (List.mem_cons_of_mem _ hz)) r2)
        exact this (fun q hq => hq) rv
      rw [← a2] at rv
      have E1 := eqs rv
      have hu := hr.units
      refine PySem.W.sorted_data (R := fun u q => RelV q.2 u ∧ q ∈ qs) (enc := fun q : (D × PyData) × V => q.1.2) pl.isList E1 (E1.mono fun u q ⟨r1, hq⟩ => Dp.reads I _ _ _ (a3 q hq).2 r1) ?_ ?_ (by rw [lens]; exact o4) (fun q hq => ?_) fun out hlen hout => ?_
      · intro x hx y hy
        obtain ⟨q, hq, rfl⟩ := List.mem_map.mp hx
        obtain ⟨q', hq', rfl⟩ := List.mem_map.mp hy
        exact o1 _ (mem q hq) _ (mem q' hq')
      · rcases o2 with o2 | o2
        · refine .inl fun x hx => ?_
          obtain ⟨q, hq, rfl⟩ := List.mem_map.mp hx
          have := o2 _ (mem q hq)
          unfold nonNil at this
          split at this
          · rename_i z zs he; exact ⟨z, zs, he⟩
          · cases this
        · refine .inr fun x hx => ?_
          obtain ⟨q, hq, rfl⟩ := List.mem_map.mp hx
          have := o2 _ (mem q hq)
          refine ⟨fun z => ?_, fun xs z => ?_⟩ <;> (rw [z] at this; cases this)
      · have := o3 _ (mem q hq)
        omega
      · -- the new list
        have hmem : ∀ q ∈ qs.mergeSort (PySem.W.dataLe false fun q : (D × PyData) × V => q.1.2), q ∈ qs := fun q hq => (List.mergeSort_perm qs _).mem_iff.mp hq
        have srt : (qs.mergeSort (PySem.W.dataLe false fun q : (D × PyData) × V => q.1.2)).map (·.1) = ps.mergeSort (PySem.W.dataLe false fun p : D × PyData => p.2) := by
          rw [← a1]
          exact PySem.W.sort_maps (s := PySem.W.dataLe false fun p : D × PyData => p.2) (fun q : (D × PyData) × V => q.1) (fun _ _ _ _ => rfl)
        obtain ⟨cc, hc⟩ := sortedAll_at s.heap its out.toArray
        have rep : ∀ {qs : List ((D × PyData) × V)} {out : List Value}, (∀ q ∈ qs, Rep X.K H μ q.1.1 q.2) → PySem.W.EachIs (fun u q => RelV q.2 u ∧ q ∈ qs) out qs → True := fun _ _ => trivial
        have both : ∀ {zs : List ((D × PyData) × V)} {out : List Value}, (∀ q ∈ zs, q ∈ qs) → PySem.W.EachIs (fun u q => RelV q.2 u ∧ q ∈ qs) out zs → Vals (zs.map (·.2)) out ∧ Reps X.K H μ ((zs.map (·.1)).map (·.1)) (zs.map (·.2)) := by
          intro zs
          induction zs with
          | nil => intro out _ he; cases he; exact ⟨.nil, .nil⟩
          | cons z zs ih =>
            intro out hm he
            cases he with
            | cons h1 h2 =>
              obtain ⟨i1, i2⟩ := ih (fun q hq => hm q (List.mem_cons_of_mem _ hq)) h2
              exact ⟨.cons h1.1 i1, .cons (a3 z (hm z List.mem_cons_self)).1 i2⟩
        obtain ⟨b1, b2⟩ := both hmem hout
        rw [srt] at b2
        have hn : H (s.heap.objs.size + 1) = none := I.hok.fresh (Nat.le_succ _)
        refine ⟨.ref (s.heap.objs.size + 1), _, I.laid (t' := s.toks) (o := .lst _) (fun b o e => sortedAll_old e) (Nat.le_succ _) ?_, rfl, h _ _ hn b2⟩
        refine ⟨?_, out, cc, b1, hc⟩
        rw [List.length_map, List.length_mergeSort, lens]
        exact o4

    · cases e
  · cases e
/-- sorted(x) as a new list that no place names; upon a list -/
def lSort (m : M (List D)) : M (List D) := m.bind fun ds => fun _ _ S => match sortP ds S with
  | some es => .ok es S
  | none => .bad
def lSortD (m : M D) : M (List D) := m.bind fun d => fun _ _ S => match d with
  | .ref k => match S[k]? with
    | some (.lst ds) => match sortP ds S with
      | some es => .ok es S
      | none => .bad
    | none => .bad
  | .rol ns => match sortP (ns.map .int) S with
    | some es => .ok es S
    | none => .bad
  | _ => .bad
theorem pl_sort {g : Gs} {c : Cm} {lv : Nat} (k : Cok g c lv E X) {e : Expr} {ml : M (List D)} {p pos : Pos} (hg : g.sc.names.lookup ("sorted" : Str) = some .globalImplicit) (hb : ("sorted" : Str) ∈ g.bis) (ha : PLd X c E e ml) (he : starEach [e] X.env = [(false, eval e X.env)]) :
    PLd X c E (.Call (.Name "sorted" p) [e] [] pos) (lSort ml) := by
  refine ⟨fun pins s σ H Q I h => ?_⟩
  refine wpAny_Call_Name_kw (ld_blt I (by unfold Gl Env.kindOf; rw [k.sc]; exact hg) (k.bi _ hb) (show bootBuiltins ("sorted" : Str) = some (.builtin "sorted") by decide +kernel) ?_)
  obtain ⟨μ, S, ρ, hS, hρ, h⟩ := h
  have h2 : tL X.K E c ml σ H fun y H1 => ∀ pins s1, Inv X pins σ H1 s1 → ∀ u, RelV y u → wpAny (model X.prog X.w) X.A (call (.builtin "sorted") [u]) (EP X pins σ Q) X.xe s1 := by
    refine ⟨μ, S, ρ, hS, hρ, (Fine.bind h).mono fun ds S1 ν H1 l s1 q p vs hp0 hp hpn hvs pins s2 I2 u hu => ?_⟩
    cases (show u = Value.ref p from hu)
    dsimp only at q
    split at q
    · rename_i es e1
      refine sorted_any (k.room.mono (Nat.zero_le _)) I2 (SqL.of hp) s1 hvs e1 fun t ws ht hws => ?_
      have l2 := Ltr.tmp (μ := μ ++ ν) (o := .lst ws) ht
      have := q [] _ l2 (by simpa using s1.tmp ht) t ws (l.was ht) upd_same (by simpa using s1.not ht) (by simpa using Reps.later (ν := []) l2.kp _ _ hws)
      exact this
    · exact (show False from q).elim
  exact PyProof.Rows.callWith_builtin1 (thn ((pa_cons ha pa_nil (by rw [he]; rfl)).run pos pins s σ H (fun vs H1 => ∃ y, vs = [y] ∧ ∀ pins s1, Inv X pins σ H1 s1 → ∀ u, RelV y u → wpAny (model X.prog X.w) X.A (call (.builtin "sorted") [u]) (EP X pins σ Q) X.xe s1) I
    (by
      obtain ⟨μ, S, ρ, a1, a2, a3⟩ := h2
      exact ⟨μ, S, ρ, a1, a2, a3.mono fun ds S1 ν H1 l s1 q p vs h0 h1 h2 h3 => ⟨_, rfl, q p vs h0 h1 h2 h3⟩⟩)) fun us s1 ⟨vs, H1, I1, r1, y, e1, q1⟩ => by
      subst e1
      obtain ⟨u, rfl, ru⟩ := vals1 r1
      exact q1 pins s1 I1 u ru) (by rw [he]; rfl) rfl
theorem pl_sortD {g : Gs} {c : Cm} {lv : Nat} (k : Cok g c lv E X) {e : Expr} {me : M D} {p pos : Pos} (hg : g.sc.names.lookup ("sorted" : Str) = some .globalImplicit) (hb : ("sorted" : Str) ∈ g.bis) (ha : PEd X c E e me) (he : starEach [e] X.env = [(false, eval e X.env)]) :
    PLd X c E (.Call (.Name "sorted" p) [e] [] pos) (lSortD me) := by
  refine ⟨fun pins s σ H Q I h => ?_⟩
  refine wpAny_Call_Name_kw (ld_blt I (by unfold Gl Env.kindOf; rw [k.sc]; exact hg) (k.bi _ hb) (show bootBuiltins ("sorted" : Str) = some (.builtin "sorted") by decide +kernel) ?_)
  obtain ⟨μ, S, ρ, hS, hρ, h⟩ := h
  have h2 : tD X.K E c me σ H fun y H1 => ∀ pins s1, Inv X pins σ H1 s1 → ∀ u, RelV y u → wpAny (model X.prog X.w) X.A (call (.builtin "sorted") [u]) (EP X pins σ Q) X.xe s1 := by
    refine ⟨μ, S, ρ, hS, hρ, (Fine.bind h).mono fun d S1 ν H1 l s1 q y hy pins s2 I2 u hu => ?_⟩
    have fin : ∀ {es : List D} {qa : Addr} {vs : List V} {ds : List D}, SqL X.K H1 qa vs → Reps X.K H1 (μ ++ ν) ds vs → sortP ds S1 = some es → y = .ref qa →
        Fine X.K c.cl E (μ ++ ν) H1 (.ok es S1) (fun ds S' μ' H' => ∀ p vs, H p = none → H' p = some (.lst vs) → p ∉ μ' → Reps X.K H' μ' ds vs → Q (.ref p) H') → wpAny (model X.prog X.w) X.A (call (.builtin "sorted") [u]) (EP X pins σ Q) X.xe s2 := by
      intro es qa vs ds hq hvs e1 ey q
      subst ey
      cases (show u = Value.ref qa from hu)
      refine sorted_any (k.room.mono (Nat.zero_le _)) I2 hq s1 hvs e1 fun t ws ht hws => ?_
      have l2 := Ltr.tmp (μ := μ ++ ν) (o := .lst ws) ht
      exact q [] _ l2 (by simpa using s1.tmp ht) t ws (l.was ht) upd_same (by simpa using s1.not ht) (by simpa using Reps.later (ν := []) l2.kp _ _ hws)
    dsimp only at q
    split at q
    · simp only [Rep] at hy
      obtain ⟨qa, z1, z2⟩ := hy
      split at q
      · rename_i ds e2
        obtain ⟨vs, w1, w2⟩ := s1.obj _ _ qa e2 z1
        split at q
        · rename_i es e1
          exact fin (SqL.of w1) w2 e1 z2 q
        · exact (show False from q).elim
      · exact (show False from q).elim
    · rename_i ns
      simp only [Rep] at hy
      obtain ⟨qa, z2, z1⟩ := hy
      split at q
      · rename_i es e1
        exact fin z1.sq (reps_ints ns) e1 z2 q
      · exact (show False from q).elim
    · exact (show False from q).elim
  exact PyProof.Rows.callWith_builtin1 (thn ((pa_cons ha pa_nil (by rw [he]; rfl)).run pos pins s σ H (fun vs H1 => ∃ y, vs = [y] ∧ ∀ pins s1, Inv X pins σ H1 s1 → ∀ u, RelV y u → wpAny (model X.prog X.w) X.A (call (.builtin "sorted") [u]) (EP X pins σ Q) X.xe s1) I
    (by
      obtain ⟨μ, S, ρ, a1, a2, a3⟩ := h2
      exact ⟨μ, S, ρ, a1, a2, a3.mono fun ds S1 ν H1 l s1 q v hv => ⟨_, rfl, q v hv⟩⟩)) fun us s1 ⟨vs, H1, I1, r1, y, e1, q1⟩ => by
      subst e1
      obtain ⟨u, rfl, ru⟩ := vals1 r1
      exact q1 pins s1 I1 u ru) (by rw [he]; rfl) rfl
end
end Rf
end

section
set_option Elab.async false
set_option linter.all false
set_option maxRecDepth 100000
set_option maxHeartbeats 2000000
namespace Rf
open PySem PySem.Spec PyProof.Rows L2

/-! ### enumerate over a tuple -/
theorem meets_enumT (l : Addr) (items : Array Value) (n : Nat) (dct : Option Addr) (sl : Array (Option Value)) :
    Meets (Builtin.«enumerate.__new__» ⟨[.type "enumerate", .ref l], []⟩) (fun _ R s => s.heap.get? l = some { cls := .type "tuple", dict := dct, data := .seq items n, slots := sl } ∧
      R (.ok (.ret (.ref (s.heap.push { cls := .type "tuple_iterator", data := .fields #[.ref l, .int 0 0] }).objs.size)))
        { s with heap := (s.heap.push { cls := .type "tuple_iterator", data := .fields #[.ref l, .int 0 0] }).push { cls := .type "enumerate", data := .fields #[.none, .bool false, .ref s.heap.objs.size, rawInt 0, .none, .none] } }) :=
  .of_wp fun prog w A R s h => by
    obtain ⟨hp, gs, d, tk, os⟩ := s; obtain ⟨hl, h⟩ := h
    have hsub := sub_enumerate
    have hT : Heap.IsTuple (Shared.heap ⟨hp, gs, d, tk, os⟩) l items := ⟨_, hl, rfl, n, rfl⟩
    wp_walk using AutoSeq1.wpAny_loadPart' hl
    refine wpAny_stack_any fun st => wpAny_pure ?_
    split
    · rename_i cc _ _ _ _ _
      cases (cc == Value.type "enumerate") <;> (wp_walk using AutoSeq1.wpAny_loadPart' hl, wpAny_pyIter_tuple hT; exact ⟨_, rfl, h⟩)
    · wp_walk using AutoSeq1.wpAny_loadPart' hl, wpAny_pyIter_tuple hT
      exact ⟨_, rfl, h⟩
section
variable {prog : Program} {w : World} {A : Around} {E : Value → Shared → Prop} {s : Shared}
theorem call_enumT {l : Addr} {items : Array Value} {Q : Value → Shared → Prop} (hL : IsTup s.heap l items)
    (h : ∀ h', IsEnum h' (s.heap.objs.size + 1) s.heap.objs.size 0 .none → h'.IsTupleIter s.heap.objs.size l 0 → (∀ b o, s.heap.get? b = some o → h'.get? b = some o) → Q (.ref (s.heap.objs.size + 1)) { s with heap := h' }) :
    wpAny (model prog w) A (call (.type "enumerate") [.ref l]) Q E s := by
  obtain ⟨⟨cc, dct, dt, sl⟩, hl, hc, n, hd⟩ := hL
  replace hc : cc = .type "tuple" := hc
  replace hd : dt = .seq items n := hd
  subst hc hd
  refine callType_new F.called_enumerate (by decide) (F.typeCall_enumerate_1 _) (F.newCall_enumerate_1 _) (fun obj => F.args_object_init_2 obj _) F.entry_enumerate_new (meets_enumT l items n dct sl) ⟨hl, ?_⟩
  have hz : (s.heap.push { cls := .type "tuple_iterator", data := .fields #[.ref l, .int 0 0] }).objs.size = s.heap.objs.size + 1 := Heap.size_push ..
  show _ ∧ _
  rw [hz]
  have he : IsEnum ((s.heap.push { cls := .type "tuple_iterator", data := .fields #[.ref l, .int 0 0] }).push
      { cls := .type "enumerate", data := .fields #[.none, .bool false, .ref s.heap.objs.size, rawInt 0, .none, .none] }) (s.heap.objs.size + 1) s.heap.objs.size 0 .none := by
    have q := Heap.get?_push_size (s.heap.push { cls := .type "tuple_iterator", data := .fields #[.ref l, .int 0 0] })
      (o := { cls := .type "enumerate", data := .fields #[.none, .bool false, .ref s.heap.objs.size, rawInt 0, .none, .none] }) rfl
    rw [hz] at q; exact q
  exact ⟨⟨_, he, rfl⟩, h _ he ⟨_, Heap.get?_push_of_some _ (Heap.get?_push_size _ rfl), rfl, rfl⟩ fun b o x => Heap.get?_push_of_some _ (Heap.get?_push_of_some _ x)⟩
end
/-- a tuple's items, each in a new pair with its number -/
def Iet (K : PySem.W.Frag) (a : Addr) : It :=
  ⟨fun i H => ∃ (xs : List V) (x : V), SqT K H a xs ∧ xs[i]? = some x, fun i H v H' => ∃ T x, v = .ref T ∧ H T = none ∧ H' = upd H T (.tup [.int (i : Nat), x]) ∧ ∀ xs, SqT K H a xs → xs[i]? = some x, fun i H => ∃ xs : List V, SqT K H a xs ∧ xs.length = i⟩
theorem turn_enumT {P : Program} {w : World} {K : PySem.W.Frag} {elts : List Expr} {kk : Nat} {tpos : Pos} (a e it : Addr) :
    Turn P w K (.Tuple elts kk tpos) (Iet K a) [e, it] e (fun i h => (∃ old, IsEnum h e it ((i : Nat) : Int) old) ∧ h.IsTupleIter it a i ∧ e ≠ it) where
  mem := by simp
  obj := fun i h st b hb => by
    obtain ⟨⟨old, he⟩, ⟨o, ho, hc, hd⟩, _⟩ := st
    have e' : b = e ∨ b = it := by simpa using hb
    rcases e' with z | z
    · subst z; exact ⟨_, he, fun v q => nomatch q⟩
    · subst z; exact ⟨o, ho, fun v q => by rw [hd] at q; cases q⟩
  keep := fun i h h' st k => let ⟨⟨old, he⟩, hi, hne⟩ := st; ⟨⟨old, k e (by simp) _ he⟩, hi.at fun o q => k it (by simp) o q, hne⟩
  item := by
    intro X hP hw hK hc i pins s σ H E I hf st hg
    subst hP hw hK
    obtain ⟨⟨old, he⟩, hit, hne⟩ := st
    obtain ⟨xs, x, hq, hx⟩ := hg
    obtain ⟨its, rv, tp, hz⟩ := I.tuple hq
    obtain ⟨u, hu, ru⟩ := rv.get hx
    have hel : e < s.heap.objs.size := Heap.lt_size he
    have hil : it < s.heap.objs.size := by obtain ⟨_, q, _⟩ := hit; exact Heap.lt_size q
    have hlt : i < its.toArray.size := by rw [List.size_toArray]; exact (List.getElem?_eq_some_iff.mp hu).1
    have hta : a ≠ it := fun z => by
      obtain ⟨o, h1, h2, h3⟩ := hit
      obtain ⟨o', h4, h5, n, h6⟩ := tp
      rw [z, h1] at h4; cases h4
      rw [h2] at h5; exact absurd (Value.type.inj h5) (by decide)
    have hte : e ≠ a := fun z => by
      obtain ⟨o', h4, h5, n, h6⟩ := tp
      rw [← z, he] at h4; cases h4
      exact absurd (Value.type.inj h5) (by decide)
    refine wpAny_pyNext_enum_itemD (Draws.tuple (prog := X.prog) (w := X.w) (A := X.A.in1) (I.ok.hd hc) it a hta its.toArray) he ⟨hit, tp⟩ hlt hne (by simp [hne, hte]) fun v h' tk hv ho hst hT hsz hk => ?_
    have hvu : v = u := by
      have h1 : its.toArray[i]? = some v := hv
      rw [List.getElem?_toArray, hu] at h1
      exact (Option.some.inj h1).symm
    subst hvu
    refine ⟨_, rfl, wpAny_letOwnedTupleGo_enum (s := { s with heap := h', toks := tk + 1 }) ho fun h'' he' sb => ?_⟩
    have hT2 : h''.get? s.heap.objs.size = some { cls := .type "tuple", data := .seq #[.int i tk, v] } := (sb.2 _ (Nat.ne_of_gt hel)).trans hT
    have new : ObjOk X.prog X.w (upd H s.heap.objs.size (.tup [.int (i : Nat), x])) h'' s.heap.objs.size (.tup [.int (i : Nat), x]) :=
      ⟨by show 2 ≤ sizeLine; decide, [.int i tk, v], .cons ⟨_, rfl⟩ (.cons ru .nil), ⟨_, hT2, rfl, _, rfl⟩⟩
    have I1 : Inv X pins σ (upd H s.heap.objs.size (.tup [.int (i : Nat), x])) { s with heap := h'', toks := tk + 1 } :=
      I.turnedNew (ch := [e, it]) (fun b ob hb q => (sb.2 b (fun z => hb (by simp [z]))).trans (hk b ob (fun z => hb (by simp [z])) (fun z => hb (by simp [z])) q)) hf (Nat.le_refl _) new
    refine ⟨.ref s.heap.objs.size, _, I1, rfl, ⟨_, x, rfl, I.hok.fresh (Nat.le_refl _), rfl, fun ys hy => by rw [I.tuple_inj hy hq]; exact hx⟩, ⟨⟨v, ?_⟩, hst.1.at fun o q => (sb.2 it (Ne.symm hne)).trans q, hne⟩, fun b hb => ?_⟩
    · have e1 : ((i + 1 : Nat) : Int) = (i : Int) + 1 := by omega
      rw [e1]; exact he'
    · have hb' : b < s.heap.objs.size := by
        have e' : b = e ∨ b = it := by simpa using hb
        rcases e' with z | z <;> subst z <;> assumption
      rw [upd_ne (Nat.ne_of_lt hb')]
      exact (hf b hb).1
  done := by
    intro X hP hw hK hc i pins s σ H E I hf st hg
    subst hP hw hK
    obtain ⟨⟨old, he⟩, hit, hne⟩ := st
    obtain ⟨xs, hq, hx⟩ := hg
    obtain ⟨its, rv, tp, hz⟩ := I.tuple hq
    obtain ⟨f0, f1, f2, f3, f4, f5⟩ := hf it (by simp)
    have hl := rv.length
    have hi : i = its.toArray.size := by rw [List.size_toArray, ← hl, hx]
    subst hi
    have hta : a ≠ it := fun z => by
      obtain ⟨o, h1, h2, h3⟩ := hit
      obtain ⟨o', h4, h5, n, h6⟩ := tp
      rw [z, h1] at h4; cases h4
      rw [h2] at h5; exact absurd (Value.type.inj h5) (by decide)
    exact wpAny_pyNext_enum_endD (Draws.tuple (prog := X.prog) (w := X.w) (A := X.A.in1) (I.ok.hd hc) it a hta its.toArray) he ⟨hit, tp⟩ fun h' eb => ⟨rfl, I.turned (t' := s.toks) (fun b o hb q => eb b o hb q) f0 f1 f3 f4 f5⟩
  self := fun A i s Q E st h => let ⟨⟨_, he⟩, _⟩ := st; wpAny_pyIter_enum he h

/-! ### what is walked: lists and tuples alike -/
def enumD : Nat → List D → List D
  | _, [] => []
  | n, d :: ds => .tup [.int (n : Nat), d] :: enumD (n + 1) ds
theorem enumD_get : ∀ {n : Nat} {xs : List D} {i : Nat} {d : D}, (enumD n xs)[i]? = some d → ∃ x, xs[i]? = some x ∧ d = .tup [.int ((n + i : Nat) : Int), x]
  | n, [], i, d, h => by simp [enumD] at h
  | n, x :: xs, 0, d, h => by simp [enumD] at h; exact ⟨x, rfl, h.symm⟩
  | n, x :: xs, i + 1, d, h => by
    simp only [enumD, List.getElem?_cons_succ] at h ⊢
    obtain ⟨y, h1, h2⟩ := enumD_get h
    exact ⟨y, h1, by rw [h2]; congr 4; omega⟩
theorem enumD_len : ∀ (n : Nat) (xs : List D), (enumD n xs).length = xs.length
  | n, [] => rfl
  | n, x :: xs => by simp only [enumD, List.length_cons, enumD_len (n + 1) xs]
def srcOf (d : D) (S : Sto) : Option Src := match d with
  | .tup ds => some ⟨ds, fun _ => True⟩
  | .rol ns => some ⟨ns.map .int, fun _ => True⟩
  | .ref k => match S[k]? with
    | some (.lst ds) => some ⟨ds, fun S' => S'[k]? = some (.lst ds)⟩
    | none => none
  | _ => none
def iAny (m : M D) : M Src := m.bind fun d => fun _ _ S => match srcOf d S with
  | some w => .ok w S
  | none => .bad
def iEnumD (m : M (List D)) : M Src := m.bind fun ds => match ds with
  | [.tup xs] => M.ret ⟨enumD 0 xs, fun _ => True⟩
  | _ => M.bad
section
variable {X : Cx} {c : Cm} {lv : Nat} {E : XK} {g : Gs} {a b e tg : Expr} {es : List Expr} {ma mb me : M D} {ml ms : M (List D)} {pos p : Pos}
theorem pi_anyd (h : PEd X c E e me) : PId X c E tg e (iAny me) := by
  refine ⟨fun pins s σ H R I hq => ?_⟩
  obtain ⟨μ, S, ρ, hS, hρ, hq⟩ := hq
  have h2 : tD X.K E c me σ H fun v H1 => ∀ s1, Inv X pins σ H1 s1 → ∀ u, RelV v u → wpAny (model X.prog X.w) X.A (pyIter u) (PIE X pins σ tg R) X.xe s1 := by
    refine tD_bind hS hρ hq fun x S1 μ1 H1 v s1 r1 hv _ h1 => ?_
    intro s2 I2 u hu
    skip
    cases x with
    | tup ds =>
      simp only [Rep] at hv
      obtain ⟨q, vs, rfl, w2, w3⟩ := hv
      cases hu
      obtain ⟨its, rv, tp, hz⟩ := I2.tuple (SqT.of w2)
      refine wpAny_pyIter_tuple (show s2.heap.IsTuple q its.toArray from tp) ?_
      refine ⟨s2.heap.objs.size, [s2.heap.objs.size], _, _, H1, rfl, I2.kept (t' := s2.toks) fun b o e => Heap.get?_push_of_some _ e, turn_tuple q _, ⟨_, Heap.get?_push_size _ rfl, rfl, rfl⟩, fun b hb => ?_, ?_⟩
      · rw [List.mem_singleton.mp hb]
        exact I2.fpOk (Nat.le_refl _) (I2.hok.fresh (Nat.le_refl _))
      · exact (show Fine X.K c.cl E μ1 H1 (.ok (⟨ds, fun _ => True⟩ : Src) S1) _ from h1).now s1 _ (goes_tup w2 w3)
    | ref k =>
      simp only [Rep] at hv
      obtain ⟨q, w1, rfl⟩ := hv
      cases hu
      simp only [srcOf] at h1
      cases e1 : S1[k]? with
      | none => simp only [e1] at h1; exact h1.elim
      | some o =>
        cases o with
        | lst ds =>
          simp only [e1] at h1
          obtain ⟨vs, z1, z2⟩ := s1.obj k _ q e1 w1
          obtain ⟨its, rv, tp, hz⟩ := I2.list (SqL.of z1)
          refine wpAny_pyIter_list tp.isList ?_
          refine ⟨s2.heap.objs.size, [s2.heap.objs.size], _, _, H1, rfl, I2.kept (t' := s2.toks) fun b o e => Heap.get?_push_of_some _ e, turn_list q _, ⟨_, Heap.get?_push_size _ rfl, rfl, rfl⟩, fun b hb => ?_, ?_⟩
          · rw [List.mem_singleton.mp hb]
            exact I2.fpOk (Nat.le_refl _) (I2.hok.fresh (Nat.le_refl _))
          · refine (show Fine X.K c.cl E μ1 H1 (.ok (⟨ds, fun S' => S'[k]? = some (.lst ds)⟩ : Src) S1) _ from h1).now s1 _ (goes_list fun ν H2 S2 l s2 hg => ?_)
            have hk : (μ1 ++ ν)[k]? = some q := by rw [List.getElem?_append_left (List.getElem?_eq_some_iff.mp w1).1]; exact w1
            obtain ⟨ws, z1, z2⟩ := s2.obj k _ q hg hk
            exact ⟨ws, SqL.of z1, z2⟩
    | rol ns =>
      simp only [Rep] at hv
      obtain ⟨q, rfl, w2⟩ := hv
      cases hu
      obtain ⟨its, rv, tp, hz⟩ := I2.list w2.sq
      refine wpAny_pyIter_list tp.isList ?_
      refine ⟨s2.heap.objs.size, [s2.heap.objs.size], _, _, H1, rfl, I2.kept (t' := s2.toks) fun b o e => Heap.get?_push_of_some _ e, turn_list q _, ⟨_, Heap.get?_push_size _ rfl, rfl, rfl⟩, fun b hb => ?_, ?_⟩
      · rw [List.mem_singleton.mp hb]
        exact I2.fpOk (Nat.le_refl _) (I2.hok.fresh (Nat.le_refl _))
      · exact (show Fine X.K c.cl E μ1 H1 (.ok (⟨ns.map .int, fun _ => True⟩ : Src) S1) _ from h1).now s1 _ (goes_list fun ν H2 S2 l s2 _ => ⟨_, (w2.keep l.kp).sq, reps_ints ns⟩)
    | _ => exact (show False from h1).elim
  exact thn (h.run pins s σ H _ I h2) fun u s1 ⟨v, H1, I1, rv, q1⟩ => q1 s1 I1 u rv
theorem pi_enumd (k : Cok g c lv E X) {elts : List Expr} {kk : Nat} {tpos : Pos} (hg : g.sc.names.lookup ("enumerate" : Str) = some .globalImplicit) (hb : ("enumerate" : Str) ∈ g.bis) (ha : PAd X c E [a] ms) (hs : starEach [a] X.env = [(false, eval a X.env)]) :
    PId X c E (.Tuple elts kk tpos) (.Call (.Name "enumerate" p) [a] [] pos) (iEnumD ms) := by
  refine ⟨fun pins s σ H R I h => ?_⟩
  refine Call_ (ld_blt I (by unfold Gl Env.kindOf; rw [k.sc]; exact hg) (k.bi _ hb) boot_enumerate (PyProof.Rows.callWith_type1 (thn (ha.run pos pins s σ H (fun vs H1 => ∃ q us xs S1 μ1, vs = [.ref q] ∧ H1 q = some (.tup us) ∧ RepS X.K H1 μ1 S1 ∧ Reps X.K H1 μ1 xs us ∧ ∀ J, Rf.Goes X.K J ⟨enumD 0 xs, fun _ => True⟩ μ1 H1 → R J H1) I ?_) fun us s1 ⟨vs, H1, I1, r1, q1⟩ => ?_) hs rfl))
  · obtain ⟨μ, S, ρ, hS, hρ, h⟩ := h
    refine tDs_bind hS hρ h fun ds S1 μ1 H1 vs s1 r1 hv _ h1 => ?_
    split at h1
    · rename_i xs
      obtain ⟨v, rfl, h2⟩ := reps_one hv
      simp only [Rep] at h2
      obtain ⟨q, us, rfl, h3, h4⟩ := h2
      exact ⟨q, us, xs, S1, μ1, rfl, h3, s1, h4, (show Fine X.K c.cl E μ1 H1 (.ok (⟨enumD 0 xs, fun _ => True⟩ : Src) S1) _ from h1).now s1⟩
    · exact (show False from h1).elim
  · obtain ⟨q, ws, xs, S1, μ1, rfl, hq, hS, hv, qR⟩ := q1
    obtain ⟨u, rfl, ru⟩ := vals1 r1
    cases ru
    obtain ⟨its, rv, tp, hz⟩ := I1.tuple (SqT.of hq)
    refine call_enumT tp fun h' he hit hk => wpAny_pyIter_enum he ?_
    have I2 : Inv X pins σ H1 { s1 with heap := h' } := I1.kept (t' := s1.toks) hk
    refine ⟨s1.heap.objs.size + 1, [s1.heap.objs.size + 1, s1.heap.objs.size], _, _, H1, rfl, I2, turn_enumT q (s1.heap.objs.size + 1) s1.heap.objs.size, ⟨⟨.none, he⟩, hit, Nat.succ_ne_self _⟩, fun b hb => ?_, ?_⟩
    · have e' : b = s1.heap.objs.size + 1 ∨ b = s1.heap.objs.size := by simpa using hb
      have hle : s1.heap.objs.size ≤ b := by rcases e' with z | z <;> subst z <;> omega
      exact I1.fpOk hle (I1.hok.fresh hle)
    · refine qR _ ⟨fun i ν H2 S d l s2 _ hi => ?_, fun ν H2 S l s2 _ => ?_⟩
      · obtain ⟨x, e1, rfl⟩ := enumD_get hi
        obtain ⟨u, f1, f2⟩ := hv.getD e1
        have g1 := SqT.of (K := X.K) (l.tup _ _ hq)
        refine ⟨⟨ws, u, g1, f1⟩, fun x' H3 y' => ?_⟩
        obtain ⟨T, x2, rfl, hT, rfl, e5⟩ := y'
        have e7 := e5 ws g1
        rw [f1] at e7; cases e7
        have l2 := Ltr.tmp (μ := μ1 ++ ν) (o := .tup [.int (i : Nat), u]) hT
        refine ⟨l2, s2.tmp hT, ?_⟩
        simp only [Rep]
        refine ⟨T, [.int (i : Nat), u], rfl, upd_same, .cons ?_ (.cons ?_ .nil)⟩
        · simp only [Rep, Nat.zero_add]
        · simpa using Rep.later (ν := []) l2.kp x u (Rep.later l.kp x u f2)
      · exact ⟨ws, SqT.of (l.tup _ _ hq), by rw [hv.len]; exact (enumD_len 0 xs).symm⟩

/-! ### list(range(..)) -/
def rgOk (a b : Int) : Bool := small a && small b && decide ((b - a).toNat ≤ 2 ^ 24)
def lRg1 (m : M D) : M (List D) := m.bind fun d => match d with
  | .int j => if rgOk 0 j = true then M.ret (rangeD 0 j) else M.bad
  | _ => M.bad
def lRg2 (m m2 : M D) : M (List D) := m.bind fun d => m2.bind fun f => match d, f with
  | .int i, .int j => if rgOk i j = true then M.ret (rangeD i j) else M.bad
  | _, _ => M.bad
theorem reps_rg {K : PySem.W.Frag} {H : L2.Hp} {μ : List Addr} (i j : Int) : Reps K H μ (rangeD i j) (rgV i j) := by
  unfold rangeD rgV
  generalize (j - i).toNat = n
  have : ∀ l : List Nat, Reps K H μ (l.map fun k => D.int (i + (k : Nat))) (l.map fun k => V.int (i + (k : Nat))) := by
    intro l
    induction l with
    | nil => exact .nil
    | cons k l ih => exact .cons (by simp only [Rep]) ih
  exact this _
theorem rgOk_ok {a b : Int} (h : rgOk a b = true) : RgOk a b := by
  unfold rgOk at h
  simp only [Bool.and_eq_true, decide_eq_true_eq] at h
  obtain ⟨⟨h1, h2⟩, h3⟩ := h
  exact ⟨(small_iff.mp h1).1, (small_iff.mp h1).2, (small_iff.mp h2).1, (small_iff.mp h2).2, h3⟩
theorem pl_rg1 (k : Cok g c lv E X) {p2 pos2 : Pos} (hg : g.sc.names.lookup ("list" : Str) = some .globalImplicit) (hb : ("list" : Str) ∈ g.bis) (hg2 : g.sc.names.lookup ("range" : Str) = some .globalImplicit) (hb2 : ("range" : Str) ∈ g.bis)
    (ha : PEd X c E a ma) (hs : starEach [a] X.env = [(false, eval a X.env)]) : PLd X c E (.Call (.Name "list" p) [.Call (.Name "range" p2) [a] [] pos2] [] pos) (lRg1 ma) := by
  refine (pe_listRg k.calm (by unfold Gl Env.kindOf; rw [k.sc]; exact hg) (k.bi _ hb) (prg_1 (by unfold Gl Env.kindOf; rw [k.sc]; exact hg2) (k.bi _ hb2) ha (by rw [hs]; rfl)) rfl).imp fun σ H Q h => ?_
  obtain ⟨μ, S, ρ, hS, hρ, h⟩ := h
  refine ⟨μ, S, ρ, hS, hρ, (Fine.bind h).mono fun x S1 ν H1 l s1 h1 v hv => ?_⟩
  dsimp only at h1
  split at h1
  · rename_i j
    simp only [Rep] at hv
    subst hv
    split at h1
    · rename_i hj
      refine ⟨j, rfl, rgOk_ok hj, fun q hq => ?_⟩
      exact (show Fine X.K c.cl E (μ ++ ν) H1 (.ok (rangeD 0 j) S1) _ from h1).tmp s1 hq q _ (l.was hq) upd_same (s1.not hq) (reps_rg 0 j)
    · exact (show False from h1).elim
  · exact (show False from h1).elim
theorem pl_rg2 (k : Cok g c lv E X) {p2 pos2 : Pos} (hg : g.sc.names.lookup ("list" : Str) = some .globalImplicit) (hb : ("list" : Str) ∈ g.bis) (hg2 : g.sc.names.lookup ("range" : Str) = some .globalImplicit) (hb2 : ("range" : Str) ∈ g.bis)
    (ha : PEd X c E a ma) (hb' : PEd X c E b mb) (hs : starEach [a, b] X.env = [(false, eval a X.env), (false, eval b X.env)]) (hs2 : starEach [b] X.env = [(false, eval b X.env)]) : PLd X c E (.Call (.Name "list" p) [.Call (.Name "range" p2) [a, b] [] pos2] [] pos) (lRg2 ma mb) := by
  refine (pe_listRg k.calm (by unfold Gl Env.kindOf; rw [k.sc]; exact hg) (k.bi _ hb) (prg_2 (by unfold Gl Env.kindOf; rw [k.sc]; exact hg2) (k.bi _ hb2) ha hb' (by rw [hs, hs2]) (by rw [hs2]; rfl) (by rw [hs2]; rfl)) rfl).imp fun σ H Q h => ?_
  obtain ⟨μ, S, ρ, hS, hρ, h⟩ := h
  refine ⟨μ, S, ρ, hS, hρ, (Fine.bind h).mono fun x S1 ν H1 l s1 h1 v hv => ?_⟩
  refine ⟨μ ++ ν, S1, ρ, s1, hρ.later l, (Fine.bind h1).mono fun y S2 ν2 H2 l2 s2 h2 w hw => ?_⟩
  have hv := Rep.later (ν := ν2) l2.kp x v hv
  dsimp only at h2
  split at h2
  · rename_i _ _ i j _
    simp only [Rep] at hv hw
    subst hv hw
    split at h2
    · rename_i hj
      refine ⟨i, j, rfl, rfl, rgOk_ok hj, fun q hq => ?_⟩
      exact (show Fine X.K c.cl E ((μ ++ ν) ++ ν2) H2 (.ok (rangeD i j) S2) _ from h2).tmp s2 hq q _ (l.was (l2.was hq)) upd_same (s2.not hq) (reps_rg i j)
    · exact (show False from h2).elim
  · exact (show False from h2).elim

/-! ### in -/
def inD : OpD := fun a b S => match toQ 30 S a, itemsOf b S with
  | some p, some ds => match ds.mapM (toQ 30 S) with
    | some ps => if SeqAt.shaped p = true ∧ SeqAt.shaped (.list ps) = true then .ok (.bl (ps.any fun z => PyData.eqv z p)) S else .bad
    | none => .bad
  | _, _ => .bad

/-! ### two or three names at once -/
def sPar2 (i j : Nat) (m : M (List D)) : MS := m.bind fun ds => fun _ ρ S => match ds with
  | [a, b] => .ok (.nx ((ρ.set i (some a)).set j (some b))) S
  | _ => .bad
def sPar3 (i j l : Nat) (m : M (List D)) : MS := m.bind fun ds => fun _ ρ S => match ds with
  | [a, b, d] => .ok (.nx (((ρ.set i (some a)).set j (some b)).set l (some d))) S
  | _ => .bad
theorem reps_three {K : PySem.W.Frag} {H : L2.Hp} {μ : List Addr} {d f h : D} {vs : List V} (q : Reps K H μ [d, f, h] vs) : ∃ v w x, vs = [v, w, x] ∧ Rep K H μ d v ∧ Rep K H μ f w ∧ Rep K H μ h x := by
  simp only [Reps] at q
  obtain ⟨v, r, h1, h2, w, r', h3, h4, x, r2, h5, h6, h7⟩ := q
  exact ⟨v, w, x, by rw [h1, h3, h5, h7], h2, h4, h6⟩
theorem ps_par2d (k : Cok g c lv E X) {i j : Nat} {x y : Str} {px py pt : Pos} {kt k2 : Nat} {pt2 : Pos} (hi : g.N[i]? = some x) (hj : g.N[j]? = some y) (hij : i ≠ j) (hx : g.sc.names.lookup x = some .local) (hy : g.sc.names.lookup y = some .local) (ha : PAd X c E [a, b] ms)
    (hw : swappedStores [.Tuple [.Name x px, .Name y py] kt pt] (.Tuple [a, b] k2 pt2) X.env = pure (some [x, y])) (hs : swapsWithSole [.Tuple [.Name x px, .Name y py] kt pt] (.Tuple [a, b] k2 pt2) pos.line X.env = pure false) :
    PSd X c E (.Assign [.Tuple [.Name x px, .Name y py] kt pt] (.Tuple [a, b] k2 pt2) pos) (sPar2 i j ms) := by
  refine (ps_par k.calm k.nd (by rw [k.N]; exact hi) (by rw [k.N]; exact hj) hij (by rw [k.sc]; exact hx) (by rw [k.sc]; exact hy) ha hw hs).imp fun D σ H h => ?_
  obtain ⟨μ, S, ρ, hS, hρ, h⟩ := h
  refine tDs_bind hS hρ h fun ds S1 μ1 H1 vs s1 r1 hv _ h1 => ?_
  skip
  split at h1
  · rename_i d f
    obtain ⟨v, w, rfl, h2, h3⟩ := reps_two hv
    exact ⟨v, w, rfl, (show Fine X.K c.cl E μ1 H1 (.ok (Out.nx _) S1) _ from h1).now s1 _ ((r1.set h2).set h3)⟩
  · exact (show False from h1).elim
theorem ps_par3d (k : Cok g c lv E X) {i j l : Nat} {x y z : Str} {e : Expr} {px py pz pt : Pos} {kt k2 : Nat} {pt2 : Pos} (hi : g.N[i]? = some x) (hj : g.N[j]? = some y) (hl : g.N[l]? = some z) (hij : i ≠ j) (hil : i ≠ l) (hjl : j ≠ l)
    (hx : g.sc.names.lookup x = some .local) (hy : g.sc.names.lookup y = some .local) (hz : g.sc.names.lookup z = some .local) (ha : PAd X c E [a, b, e] ms)
    (hw : swappedStores [.Tuple [.Name x px, .Name y py, .Name z pz] kt pt] (.Tuple [a, b, e] k2 pt2) X.env = pure (some [x, y, z])) (hs : swapsWithSole [.Tuple [.Name x px, .Name y py, .Name z pz] kt pt] (.Tuple [a, b, e] k2 pt2) pos.line X.env = pure false) :
    PSd X c E (.Assign [.Tuple [.Name x px, .Name y py, .Name z pz] kt pt] (.Tuple [a, b, e] k2 pt2) pos) (sPar3 i j l ms) := by
  refine (ps_par3 k.calm k.nd (by rw [k.N]; exact hi) (by rw [k.N]; exact hj) (by rw [k.N]; exact hl) hij hil hjl (by rw [k.sc]; exact hx) (by rw [k.sc]; exact hy) (by rw [k.sc]; exact hz) ha hw hs).imp fun D σ H h => ?_
  obtain ⟨μ, S, ρ, hS, hρ, h⟩ := h
  refine tDs_bind hS hρ h fun ds S1 μ1 H1 vs s1 r1 hv _ h1 => ?_
  skip
  split at h1
  · rename_i d f t
    obtain ⟨v, w, u, rfl, h2, h3, h4⟩ := reps_three hv
    exact ⟨v, w, u, rfl, (show Fine X.K c.cl E μ1 H1 (.ok (Out.nx _) S1) _ from h1).now s1 _ (((r1.set h2).set h3).set h4)⟩
  · exact (show False from h1).elim
end
end Rf
end

section
set_option Elab.async false
set_option linter.all false
set_option maxRecDepth 100000
set_option maxHeartbeats 4000000
/-! Rf, part M: sets whose items are tuples of any depth (whole numbers, bools, None, no texts): set(list), set(tuple), then sorted / len. -/
namespace Rf
open PySem PySem.Spec PyProof.Rows L2

mutual
def noTxt : NestedKey → Bool
  | .text _ => false
  | .tup ks => noTxts ks
  | _ => true
def noTxts : List NestedKey → Bool
  | [] => true
  | k :: ks => noTxt k && noTxts ks
end
section
variable {P : Program} {w : World}
mutual
theorem aclass_key : ∀ (k : NestedKey) (v : Value) (n : Nat) (s : Shared), NestedIs s.heap k v → k.depth ≤ n → ∀ (A : Around) (E : Value → Shared → Prop) (Q : Bool → Shared → Prop), Q false s → wpAny (model P w) A (ofAClassStatement n v) Q E s
  | .none, _, n, s, x, _, A, E, Q, h => by cases x; cases n <;> exact wpAny_pure h
  | .num i, _, n, s, x, _, A, E, Q, h => by cases x <;> cases n <;> exact wpAny_pure h
  | .text y, _, n, s, x, _, A, E, Q, h => by cases x; cases n <;> exact wpAny_pure h
  | .tup ks, _, n, s, x, hn, A, E, Q, h => by
    cases x with
    | tup hg hc hd hk =>
      simp only [NestedKey.depth] at hn
      cases n with
      | zero => omega
      | succ n =>
        unfold ofAClassStatement
        refine wpAny_bind (wpAny_typeOf ⟨_, hg, hc⟩ ?_)
        dsimp only
        have e : (("tuple" : String) == "tuple") = true := by decide
        simp only [e, if_true, Bool.not_true, Bool.false_eq_true, if_false]
        try refine wpAny_bind (wpAny_pure ?_)
        try simp only [Bool.not_true, Bool.false_eq_true, if_false]
        show wpAny _ _ (seqItems? (.ref _) >>= _) _ _ s
        refine wpAny_bind (wpAny_seqItems hg hd ?_)
        dsimp only
        refine wpAny_bind ?_
        show wpAny _ _ (forIn _ _ _) _ _ s
        rw [← Array.forIn_toList]
        have all := aclass_keys ks _ n s hk (by omega)
        refine wpAny_forIn_list _ (fun rest r s' => r.1 = none ∧ s' = s ∧ ∀ v ∈ rest, ∀ (A : Around) (E : Value → Shared → Prop) (Q : Bool → Shared → Prop), Q false s → wpAny (model P w) A (ofAClassStatement n v) Q E s) _ ?_ ?_ _ _ ⟨rfl, rfl, all⟩
        · rintro v rest r s' ⟨hr, rfl, ha⟩
          refine wpAny_bind (ha v List.mem_cons_self _ _ _ ?_)
          simp only [Bool.false_eq_true, if_false]
          exact wpAny_pure ⟨rfl, rfl, fun u hu => ha u (List.mem_cons_of_mem _ hu)⟩
        · rintro ⟨r1, r2⟩ s' ⟨hr, rfl, _⟩
          simp only at hr
          subst hr
          exact wpAny_pure h
theorem aclass_keys : ∀ (ks : List NestedKey) (vs : List Value) (n : Nat) (s : Shared), NestedAll s.heap ks vs → NestedKey.depthAll ks ≤ n → ∀ v ∈ vs, ∀ (A : Around) (E : Value → Shared → Prop) (Q : Bool → Shared → Prop), Q false s → wpAny (model P w) A (ofAClassStatement n v) Q E s
  | [], _, n, s, x, _, v, hv => by cases x; cases hv
  | k :: ks, _, n, s, x, hn, v, hv => by
    cases x with
    | cons x1 x2 =>
      simp only [NestedKey.depthAll] at hn
      rcases List.mem_cons.mp hv with e | hv
      · rw [e]; exact aclass_key k _ n s x1 (by omega)
      · exact aclass_keys ks _ n s x2 (by omega) v hv
end
mutual
theorem byval_key : ∀ (k : NestedKey) (v : Value) (n : Nat) (s : Shared), NestedIs s.heap k v → noTxt k = true → k.depth ≤ n → ∀ (A : Around) (E : Value → Shared → Prop) (Q : Bool → Shared → Prop), Q true s → wpAny (model P w) A (hashByValue n v) Q E s
  | .none, _, n, s, x, _, _, A, E, Q, h => by cases x; cases n <;> exact wpAny_pure h
  | .num i, _, n, s, x, _, _, A, E, Q, h => by cases x <;> cases n <;> exact wpAny_pure h
  | .text y, _, n, s, x, z, _, A, E, Q, h => by simp [noTxt] at z
  | .tup ks, _, n, s, x, z, hn, A, E, Q, h => by
    cases x with
    | tup hg hc hd hk =>
      simp only [NestedKey.depth] at hn
      simp only [noTxt] at z
      cases n with
      | zero => omega
      | succ n =>
        unfold hashByValue
        refine wpAny_bind (wpAny_specialOf ⟨_, hg, hc⟩ F.slot_tuple_hash.lookup ?_)
        show wpAny _ _ (seqItems? (.ref _) >>= _) _ _ s
        refine wpAny_bind (wpAny_seqItems hg hd ?_)
        refine wpAny_bind ?_
        show wpAny _ _ (forIn _ _ _) _ _ s
        rw [← Array.forIn_toList]
        have all := byval_keys ks _ n s hk z (by omega)
        refine wpAny_forIn_list _ (fun rest r s' => r.1 = none ∧ s' = s ∧ ∀ v ∈ rest, ∀ (A : Around) (E : Value → Shared → Prop) (Q : Bool → Shared → Prop), Q true s → wpAny (model P w) A (hashByValue n v) Q E s) _ ?_ ?_ _ _ ⟨rfl, rfl, all⟩
        · rintro v rest r s' ⟨hr, rfl, ha⟩
          refine wpAny_bind (ha v List.mem_cons_self _ _ _ ?_)
          simp only [Bool.not_true, Bool.false_eq_true, if_false]
          exact wpAny_pure ⟨rfl, rfl, fun u hu => ha u (List.mem_cons_of_mem _ hu)⟩
        · rintro ⟨r1, r2⟩ s' ⟨hr, rfl, _⟩
          simp only at hr
          subst hr
          exact wpAny_pure h
theorem byval_keys : ∀ (ks : List NestedKey) (vs : List Value) (n : Nat) (s : Shared), NestedAll s.heap ks vs → noTxts ks = true → NestedKey.depthAll ks ≤ n → ∀ v ∈ vs, ∀ (A : Around) (E : Value → Shared → Prop) (Q : Bool → Shared → Prop), Q true s → wpAny (model P w) A (hashByValue n v) Q E s
  | [], _, n, s, x, _, _, v, hv => by cases x; cases hv
  | k :: ks, _, n, s, x, z, hn, v, hv => by
    cases x with
    | cons x1 x2 =>
      simp only [NestedKey.depthAll] at hn
      simp only [noTxts, Bool.and_eq_true] at z
      rcases List.mem_cons.mp hv with e | hv
      · rw [e]; exact byval_key k _ n s x1 z.1 (by omega)
      · exact byval_keys ks _ n s x2 z.2 (by omega) v hv
end
end

/-- the tuple at b is the key k, of depth 8 at most, without texts -/
structure KAt (h : Heap) (k : NestedKey) (b : Addr) : Prop where
  it : NestedIs h k (.ref b)
  dp : k.depth ≤ 8
  tx : noTxt k = true
theorem KAt.keep {h h' : Heap} {k : NestedKey} {b : Addr} (x : KAt h k b) (e : ∀ c o, h.get? c = some o → h'.get? c = some o) : KAt h' k b :=
  ⟨NestedIs.at (fun a o _ _ q _ => e a o q) k _ x.it, x.dp, x.tx⟩
theorem KAt.but {h h' : Heap} {k : NestedKey} {a b : Addr} {o : Obj} {es : Array (Int × Value)} {ep : Nat} {t : SetTable} (x : KAt h k b) (ho : h.get? a = some o) (hd : o.data = .set es ep t) (e : Heap.SameBut a h h') : KAt h' k b :=
  ⟨NestedIs.at (fun c u vs n q z => (e.2 c fun y => by subst y; rw [ho] at q; cases q; rw [hd] at z; cases z).trans q) k _ x.it, x.dp, x.tx⟩

/-- the set at a with the tuples L -/
structure NSet (w : World) (h : Heap) (a : Addr) (L : List (Addr × NestedKey)) (es : Array (Int × Value)) (ep : Nat) (t : SetTable) : Prop where
  ob : ∃ o, h.get? a = some o ∧ o.ExactSet ∧ o.data = .set es ep t
  rows : es.toList = L.map fun p => (p.2.hash w, Value.ref p.1)
  tab : TabOk t (L.map fun p => p.2.hash w)
  dif : (L.map (·.2)).Nodup
  all : ∀ p ∈ L, KAt h p.2 p.1
  plain : t.plain = true
  led : w.params.followText "set-order" = true ∨ t.led = true
  room : L.length * 5 < t.mask * 3
  few : L.length < 64
section
variable {P : Program} {w : World} {A : Around} {E : Value → Shared → Prop} {s : Shared} {a : Addr} {L : List (Addr × NestedKey)} {es : Array (Int × Value)} {ep : Nat} {t : SetTable}
theorem NSet.sz (R : NSet w s.heap a L es ep t) : es.size = L.length := by
  rw [← Array.length_toList, R.rows, List.length_map]
theorem NSet.fit (R : NSet w s.heap a L es ep t) : t.fits es.size = true := by
  have h1 : t.place.size = L.length := by rw [R.tab.sz, List.length_map]
  have h2 := R.sz
  have h3 := R.room
  simp only [SetTable.fits, SetTable.fill, R.tab.dm, Bool.and_eq_true, beq_iff_eq, decide_eq_true_eq]
  show t.place.size = es.size ∧ t.place.size + 0 ≤ t.mask
  omega
theorem NSet.at (R : NSet w s.heap a L es ep t) {i : Nat} {p : Addr × NestedKey} (h : L[i]? = some p) : es[i]? = some (p.2.hash w, Value.ref p.1) := by
  have : es.toList[i]? = some (p.2.hash w, Value.ref p.1) := by rw [R.rows, List.getElem?_map, h]; rfl
  rwa [Array.getElem?_toList] at this
theorem NSet.keep {h' : Heap} (R : NSet w s.heap a L es ep t) (e : ∀ o, s.heap.get? a = some o → h'.get? a = some o) (k : ∀ p ∈ L, KAt h' p.2 p.1) : NSet w h' a L es ep t :=
  let ⟨o, h1, h2⟩ := R.ob
  ⟨⟨o, e o h1, h2⟩, R.rows, R.tab, R.dif, k, R.plain, R.led, R.room, R.few⟩
theorem nset_new {h : Heap} (ho : h.get? a = some { cls := .type "set", dict := none, data := .set #[] 0 (.fresh 0 0 (!w.params.followText "set-order")) }) : NSet w h a [] #[] 0 (.fresh 0 0 (!w.params.followText "set-order")) where
  ob := ⟨_, ho, ⟨rfl, rfl, rfl⟩, rfl⟩
  rows := rfl
  tab := ⟨List.Pairwise.nil, rfl, rfl, .inl rfl, fun x hx => (by cases hx), fun i h j hi => (by simp at hi)⟩
  dif := List.nodup_nil
  all := fun p hp => (by cases hp)
  plain := rfl
  led := by
    show _ ∨ (!w.params.followText "set-order") = true
    cases w.params.followText "set-order" <;> simp
  room := show 0 * 5 < 7 * 3 by decide
  few := show 0 < 64 by decide
/-- no search among tuples shows the table -/
theorem unseen {k : NestedKey} {b : Addr} {Q : Bool → Shared → Prop} (hk : KAt s.heap k b) {ys : List Value} (hy : ∀ y ∈ ys, ∃ k' c, y = Value.ref c ∧ KAt s.heap k' c) (h : Q false s) :
    wpAny (model P w) A (searchCouldBeSeen (.ref b) ys) Q E s := by
  unfold searchCouldBeSeen
  refine wpAny_bind ?_
  refine wpAny_forIn_list _ (fun rest r s' => r.1 = none ∧ s' = s ∧ ∀ y ∈ rest, ∃ k' c, y = Value.ref c ∧ KAt s.heap k' c) _ ?_ ?_ _ _ ⟨rfl, rfl, hy⟩
  · rintro v rest r s' ⟨hr, rfl, hall⟩
    obtain ⟨k', c, rfl, hc⟩ := hall v List.mem_cons_self
    have more : ∀ y ∈ rest, ∃ k' c, y = Value.ref c ∧ KAt s'.heap k' c := fun u hu => hall u (List.mem_cons_of_mem _ hu)
    dsimp only
    by_cases hv : (b == c || (carriedByValue (.ref b) && carriedByValue (.ref c))) = true
    · exact wp_if_pos hv (wpAny_pure ⟨rfl, rfl, more⟩)
    · refine wp_if_neg hv (wpAny_bind (quiet_key k _ 8 s' hk.it hk.dp _ _ _ ?_))
      simp only [Bool.not_true, Bool.false_eq_true, if_false]
      refine wpAny_bind (quiet_key k' _ 8 s' hc.it hc.dp _ _ _ ?_)
      simp only [Bool.not_true, Bool.false_eq_true, if_false]
      refine wpAny_bind (aclass_key k _ 8 s' hk.it hk.dp _ _ _ ?_)
      simp only [Bool.false_eq_true, if_false]
      refine wpAny_bind (aclass_key k' _ 8 s' hc.it hc.dp _ _ _ ?_)
      simp only [Bool.false_eq_true, if_false]
      exact wpAny_pure ⟨rfl, rfl, more⟩
  · rintro ⟨r1, r2⟩ s' ⟨hr, rfl, _⟩
    simp only at hr
    subst hr
    exact wpAny_pure h
/-- one row's == with the key sought -/
theorem row_eq {x y : NestedKey} {b c : Addr} {Q : Bool → Shared → Prop} (hu : A.units + 8 < cLine) (hx : KAt s.heap x b) (hy : KAt s.heap y c) (h : Q (decide (x = y)) s) : wpAny (model P w) A (eqBool (.ref b) (.ref c)) Q E s :=
  eqAt_key x y A s _ _ hx.it hy.it (by have := hx.dp; omega) _ _ _ _ (by rw [← NestedKey.decide_eq]; exact h)
/-- the first probe of a hash, and the c-th one -/
abbrev prb (t : SetTable) (h : Int) (c : Nat) : SetTable.Probe := nth t.mask (runAt t.mask (SetTable.bits h % (t.mask + 1)) (SetTable.bits h)) c
theorem prb_add (t : SetTable) (h : Int) (c q : Nat) : nth t.mask (prb t h c) q = prb t h (c + q) := (nth_add t.mask c _ q).symm
theorem prb_clean (t : SetTable) (h : Int) (c : Nat) : (prb t h c).dummy = none := by
  have go : ∀ (n : Nat) (p : SetTable.Probe), p.dummy = none → (nth t.mask p n).dummy = none := by
    intro n
    induction n with
    | zero => exact fun _ h => h
    | succ n ih =>
      intro p h
      refine ih (adv t.mask p) ?_
      unfold adv
      split <;> exact h
  exact go c _ rfl
/-- the search for k from the c-th probe on, K the first empty one -/
theorem seek (R : NSet w s.heap a L es ep t) {x : Addr} {k : NestedKey} (hx : KAt s.heap k x) (hu : A.units + 8 < cLine) {K : Nat} (hKf : K < 10 * SetTable.turns t.mask)
    (hK : way t.mask (k.hash w) K ∉ t.place.toList) (hKb : ∀ c, c < K → way t.mask (k.hash w) c ∈ t.place.toList) {Q : SetFound → Shared → Prop}
    (hin : k ∈ L.map (·.2) → Q (.there none) s) (hout : k ∉ L.map (·.2) → Q (.free (way t.mask (k.hash w) K) false) s) :
    ∀ (f c : Nat) (st : Option SetTable.Probe), st.getD (t.probeStart (k.hash w)) = prb t (k.hash w) c → c ≤ K → K - c < f →
      (∀ (i : Nat) p, L[i]? = some p → p.2 = k → ∃ c', c ≤ c' ∧ c' < K ∧ t.place.toList[i]? = some (way t.mask (k.hash w) c')) →
      wpAny (model P w) A (setSearchFrom a (.ref x) (k.hash w) true f st) Q E s
  | 0, c, st, _, _, hf, _ => absurd hf (Nat.not_lt_zero _)
  | f + 1, c, st, hst, hc, hf, hre => by
    obtain ⟨o, ho, hex, hd⟩ := R.ob
    rw [setSearchFrom_succ]
    refine wpAny_bind (wpAny_setState_of ho hd R.fit ?_)
    dsimp only
    refine wp_if_neg (by unfold SetTable.gaveWay; rw [mask_odd R.tab.mok]; decide) ?_
    try refine wpAny_bind (wpAny_pure ?_)
    have jj : ∀ q, (nth t.mask (prb t (k.hash w) c) q).j = way t.mask (k.hash w) (c + q) := fun q => congrArg SetTable.Probe.j (prb_add t _ c q)
    have hashes : ∀ (i : Nat) p, L[i]? = some p → (fun i => (es[i]?.map (·.1)).getD 0) i = p.2.hash w := fun i p hp => by
      show (es[i]?.map (·.1)).getD 0 = _
      rw [R.at hp]; rfl
    have at2 : c + (K - c) = K := by omega
    rcases go_spec t R.tab.ris R.tab.dm (fun i => (es[i]?.map (·.1)).getD 0) (k.hash w) (10 * SetTable.turns t.mask) (K - c) (prb t (k.hash w) c) (prb_clean t _ c) (by omega)
      (fun q hq => by rw [jj]; exact hKb (c + q) (by omega)) (by rw [jj, at2]; exact hK) with ⟨q, i, hq, hi, hh, hno, hpr⟩ | ⟨hno, hpr⟩
    · have hpr2 : t.probe (fun i => (es[i]?.map (·.1)).getD 0) (k.hash w) (st.getD (t.probeStart (k.hash w))) = some (.candidate (way t.mask (k.hash w) (c + q)) i (prb t (k.hash w) (c + (q + 1)))) := by
        rw [hst, ← jj, ← prb_add]; exact hpr
      rw [hpr2]
      dsimp only
      rw [jj] at hi
      have hil : i < L.length := by
        have h1 := (List.getElem?_eq_some_iff.mp hi).1
        have h2 := R.tab.sz
        rw [List.length_map] at h2
        rw [Array.length_toList] at h1
        omega
      obtain ⟨p, hp⟩ : ∃ p, L[i]? = some p := ⟨_, List.getElem?_eq_getElem hil⟩
      have hm : p ∈ L := List.mem_of_getElem? hp
      have tail : wpAny (model P w) A (searchRest a (.ref x) (k.hash w) true f es t (way t.mask (k.hash w) (c + q)) i (prb t (k.hash w) (c + (q + 1)))) Q E s := by
        unfold searchRest
        rw [R.at hp]
        dsimp only
        refine wpAny_bind (wpAny_holding (row_eq hu (R.all p hm) hx ?_))
        refine wpAny_bind (wpAny_setState_of ho hd R.fit ?_)
        dsimp only
        by_cases hkk : p.2 = k
        · exact wp_if_pos (by simp [hkk]) (wpAny_pure (hin (List.mem_map.mpr ⟨p, hm, hkk⟩)))
        · refine wp_if_neg (by simp [hkk]) ?_
          try refine wpAny_bind (wpAny_pure ?_)
          rw [sameMem]
          dsimp only
          have hsl : t.slot (way t.mask (k.hash w) (c + q)) = .live i := slot_live R.tab.ris hi
          simp only [if_true, hsl, R.at hp]
          refine wpAny_bind (wpAny_isSame_ref_self (wpAny_bind (wpAny_pure ?_)))
          simp only [if_true]
          refine wp_if_neg (by simp [hkk]) (seek R hx hu hKf hK hKb hin hout f (c + (q + 1)) _ rfl (by omega) (by omega) fun i0 p0 h0 hk0 => ?_)
          obtain ⟨c', a1, a2, a3⟩ := hre i0 p0 h0 hk0
          refine ⟨c', Nat.lt_of_not_le fun z => ?_, a2, a3⟩
          have z : c' ≤ c + q := z
          by_cases y : c' = c + q
          · rw [y] at a3
            have s0 := slot_live R.tab.ris a3
            rw [hsl] at s0
            injection s0 with s0
            rw [← s0, hp] at h0
            exact hkk ((congrArg Prod.snd (Option.some.inj h0)).trans hk0)
          · exact hno (c' - c) i0 (by omega) (by rw [jj, show c + (c' - c) = c' by omega]; exact a3) ((hashes i0 p0 h0).trans (congrArg (NestedKey.hash w) hk0))
      by_cases hl : t.led = true
      · refine wp_if_neg (by simp [hl]) ?_
        try refine wpAny_bind (wpAny_pure ?_)
        exact tail
      · refine wp_if_pos (by simp [hl]) (wpAny_bind (unseen hx (fun y hy => ?_) ?_))
        · obtain ⟨e, he, rfl⟩ := List.mem_map.mp hy
          have he2 : e ∈ es.toList := by
            have : e ∈ es ∧ e.1 = k.hash w := by simpa using he
            simpa using this.1
          rw [R.rows] at he2
          obtain ⟨p2, hp2, rfl⟩ := List.mem_map.mp he2
          exact ⟨p2.2, p2.1, rfl, R.all p2 hp2⟩
        · refine wp_if_neg (by decide) ?_
          try refine wpAny_bind (wpAny_pure ?_)
          exact tail
    · have hpr2 : t.probe (fun i => (es[i]?.map (·.1)).getD 0) (k.hash w) (st.getD (t.probeStart (k.hash w))) = some (.empty (way t.mask (k.hash w) K) none) := by
        have e2 : way t.mask (k.hash w) K = (nth t.mask (prb t (k.hash w) c) (K - c)).j := by rw [jj, at2]
        rw [hst, e2]; exact hpr
      rw [hpr2]
      dsimp only
      refine wpAny_pure (hout fun hm => ?_)
      obtain ⟨p0, h0, hk0⟩ := List.mem_map.mp hm
      obtain ⟨i0, hi0⟩ := List.getElem?_of_mem h0
      obtain ⟨c', a1, a2, a3⟩ := hre i0 p0 hi0 hk0
      exact hno (c' - c) i0 (by omega) (by rw [jj, show c + (c' - c) = c' by omega]; exact a3) ((hashes i0 p0 hi0).trans (congrArg (NestedKey.hash w) hk0))
/-- the search that adding asks for -/
theorem sought (R : NSet w s.heap a L es ep t) {x : Addr} {k : NestedKey} (hx : KAt s.heap k x) (hu : A.units + 8 < cLine) {Q : SetFound → Shared → Prop} (hin : k ∈ L.map (·.2) → Q (.there none) s)
    (hout : ∀ K, k ∉ L.map (·.2) → way t.mask (k.hash w) K ∉ t.place.toList → (∀ c, c < K → way t.mask (k.hash w) c ∈ t.place.toList) → Q (.free (way t.mask (k.hash w) K) false) s) :
    wpAny (model P w) A (setSearch a (.ref x) (k.hash w) true) Q E s := by
  have hr := R.room
  obtain ⟨K, h1, h2, h3⟩ := R.tab.first (by rw [List.length_map]; omega) (k.hash w)
  have hb : 10 * SetTable.turns t.mask ≤ 1420 := by
    unfold SetTable.turns
    rcases R.tab.mok with e | e | e <;> omega
  unfold setSearch
  refine seek R hx hu h1 h2 h3 hin (fun hn => hout K hn h2 h3) 100000 0 none rfl (Nat.zero_le _) (by omega) fun i p hp hk => ?_
  have hi : (L.map fun p => p.2.hash w)[i]? = some (k.hash w) := by rw [List.getElem?_map, hp, ← hk]; rfl
  have hil : i < t.place.toList.length := by
    have h1 := (List.getElem?_eq_some_iff.mp hp).1
    have h2 := R.tab.sz
    rw [List.length_map] at h2
    rw [Array.length_toList]
    omega
  obtain ⟨c, hc, e⟩ := R.tab.before h2 hi (List.getElem?_eq_getElem hil)
  exact ⟨c, Nat.zero_le _, hc, by rw [List.getElem?_eq_getElem hil, e]⟩
/-- rows in another order -/
theorem rows_in (hr : es.toList = L.map fun p => (p.2.hash w, Value.ref p.1)) {order : Array Nat} (hp : order.toList.Perm (List.range L.length)) :
    ∃ L2 : List (Addr × NestedKey), (order.filterMap (es[·]?)).toList = L2.map (fun p => (p.2.hash w, Value.ref p.1)) ∧ L2.Perm L ∧ (L2.map fun p => p.2.hash w) = order.toList.map fun i => (es.map (·.1)).getD i 0 := by
  have hsz : es.size = L.length := by rw [← Array.length_toList, hr, List.length_map]
  have at' : ∀ i, es[i]? = (L[i]?).map fun p : Addr × NestedKey => (p.2.hash w, Value.ref p.1) := fun i => by rw [← Array.getElem?_toList, hr, List.getElem?_map]
  refine ⟨order.toList.filterMap (L[·]?), ?_, ?_, ?_⟩
  · rw [Array.toList_filterMap, List.map_filterMap]
    exact congrArg (fun f => List.filterMap f order.toList) (funext at')
  · refine (hp.filterMap _).trans ?_
    have : ∀ n, n ≤ L.length → (List.range n).filterMap (L[·]?) = L.take n := by
      intro n
      induction n with
      | zero => intro _; rfl
      | succ n ih =>
        intro hn
        rw [List.range_succ, List.filterMap_append, ih (by omega), List.take_succ, List.getElem?_eq_getElem hn]
        simp [List.getElem?_eq_getElem (show n < L.length from hn)]
    rw [this _ (Nat.le_refl _), List.take_length]
  · have : ∀ l : List Nat, (∀ i ∈ l, i < L.length) → (l.filterMap (L[·]?)).map (fun p => p.2.hash w) = l.map fun i => (es.map (·.1)).getD i 0 := by
      intro l
      induction l with
      | nil => intro _; rfl
      | cons i l ih =>
        intro hl
        have hi := hl i List.mem_cons_self
        rw [List.filterMap_cons_some (List.getElem?_eq_getElem hi), List.map_cons, List.map_cons, ih fun j hj => hl j (List.mem_cons_of_mem _ hj)]
        have e5 : (es.map (·.1))[i]? = some ((L[i]).2.hash w) := by rw [Array.getElem?_map, at' i, List.getElem?_eq_getElem hi]; rfl
        simp [Array.getD_eq_getD_getElem?, e5]
    exact this _ fun i hi => List.mem_range.mp (hp.mem_iff.mp hi)
/-- laid anew, larger -/
theorem relaid {o : Obj} (ho : s.heap.get? a = some o) (hex : o.ExactSet) (hd : o.data = .set es ep t) (hr : es.toList = L.map fun p => (p.2.hash w, Value.ref p.1)) (hsz : t.place.size = es.size) (hdm : t.dummies = #[]) (hfl : es.size ≤ t.mask)
    (nd : (L.map (·.2)).Nodup) (al : ∀ p ∈ L, KAt s.heap p.2 p.1) (pl : t.plain = true) (ld : w.params.followText "set-order" = true ∨ t.led = true) (few : L.length < 64) {wanted M : Nat}
    (hw : SetTable.sizeAbove wanted - 1 = M) (hM : MaskOk M) (hw2 : SetTable.sizeAbove wanted ≤ 128) (hn : L.length * 5 < M * 3) {Q : Unit → Shared → Prop}
    (hQ : ∀ h' L' es' ep' t', Heap.SameBut a s.heap h' → NSet w h' a L' es' ep' t' → L'.Perm L → Q () { s with heap := h' }) : wpAny (model P w) A (setRelay a wanted) Q E s := by
  have hsl : es.size = L.length := by rw [← Array.length_toList, hr, List.length_map]
  have fits : t.fits es.size = true := by
    simp only [SetTable.fits, SetTable.fill, hdm, Bool.and_eq_true, beq_iff_eq, decide_eq_true_eq]
    show t.place.size = es.size ∧ t.place.size + 0 ≤ t.mask
    omega
  obtain ⟨t', order, e, hp, T, em, el, ep', ed⟩ := relaid_ok t (hs := es.map (·.1)) (wanted := wanted) hw hM (by rw [Array.size_map, hsl]; omega)
  rw [Array.size_map, hsl] at hp
  obtain ⟨L2, r1, r2, r3⟩ := rows_in hr hp
  rw [← r3] at T
  have hs2 : (order.filterMap (es[·]?)).size = es.size := by rw [← Array.length_toList, r1, List.length_map, r2.length_eq, hsl]
  rw [setRelay_eq]
  refine wpAny_bind (wpAny_setState_of ho hd fits ?_)
  dsimp only
  refine wp_if_neg (by rw [sizeLine_eq]; omega) ?_
  try refine wpAny_bind (wpAny_pure ?_)
  rw [e]
  dsimp only
  refine wpAny_bind (wp_if_neg (by rw [hs2]; simp) ?_)
  try refine wpAny_bind (wpAny_pure ?_)
  refine wpAny_pure ?_
  dsimp only
  refine wpAny_storeSet_of ho hd ?_ (by rw [hs2, hsl, sizeLine_eq]; omega)
  have sb : Heap.SameBut a s.heap (s.heap.update a (Obj.putSet (order.filterMap (es[·]?)) t')) := Heap.SameBut.update ..
  exact hQ _ L2 _ (ep + 1) t' sb ⟨⟨_, store_at ho hd, ⟨hex.1, hex.2.1, hex.2.2⟩, rfl⟩, r1, T, (r2.map (·.2)).nodup_iff.mpr nd, fun p hpm => (al p (r2.mem_iff.mp hpm)).but ho hd sb,
    by rw [ep']; exact pl, by rw [el]; exact ld, by rw [r2.length_eq, em]; exact hn, by rw [r2.length_eq]; exact few⟩ r2
/-- one is added -/
theorem nset_add (R : NSet w s.heap a L es ep t) {x : Addr} {k : NestedKey} (hx : KAt s.heap k x) (hu : A.units + 8 < cLine) (hfew : L.length + 1 < 64) {Q : Bool → Shared → Prop}
    (hQ : ∀ b h' L' es' ep' t', Heap.SameBut a s.heap h' → NSet w h' a L' es' ep' t' → (k ∈ L.map (·.2) → L' = L) → (k ∉ L.map (·.2) → L'.Perm ((x, k) :: L)) → Q b { s with heap := h' }) :
    wpAny (model P w) A (setAddHashed a (.ref x) (k.hash w)) Q E s := by
  obtain ⟨o, ho, hex, hd⟩ := R.ob
  have hsl := R.sz
  have hroom := R.room
  unfold setAddHashed
  refine wpAny_holding ?_
  rw [show (100000 : Nat) = 99999 + 1 from rfl, setAddHashedIn_succ]
  refine wpAny_bind (wpAny_setState_of ho hd R.fit ?_)
  dsimp only
  refine wp_if_neg (by simp [byScan, Value.scannable]) ?_
  try refine wpAny_bind (wpAny_pure ?_)
  refine wpAny_bind (sought R hx hu (fun hm => ?_) fun K hm hK hb => ?_)
  · dsimp only
    exact wpAny_pure (hQ false s.heap L es ep t (Heap.SameBut.refl a s.heap) R (fun _ => rfl) fun z => absurd hm z)
  · dsimp only
    refine wpAny_bind (wpAny_setState_of ho hd R.fit ?_)
    dsimp only
    obtain ⟨q1, q2, q3, q4, q5, q6, q7, q8, q9⟩ := R.tab.put hK hb
    have hp1 : (t.put (way t.mask (k.hash w) K)).1.plain = true := by rw [q6]; exact R.plain
    generalize hpt : t.put (way t.mask (k.hash w) K) = pt at q1 q3 q4 q5 q6 q7 q8 q9 hp1 ⊢
    obtain ⟨t1, p⟩ := pt
    dsimp only at q1 q3 q4 q5 q6 q7 q8 q9 hp1 ⊢
    subst q1
    first
      | (refine wpAny_bind ?_; refine wp_if_pos hp1 ?_; refine byval_key k _ 8 s hx.it hx.tx hx.dp _ _ _ ?_)
      | refine wp_if_pos hp1 (wpAny_bind (byval_key k _ 8 s hx.it hx.tx hx.dp _ _ _ ?_))
    simp only [if_true]
    have hin : (SetTable.insertAt es (SetTable.below t.place (way t.mask (k.hash w) K)) (k.hash w, Value.ref x)).toList =
        (L.take (SetTable.below t.place (way t.mask (k.hash w) K)) ++ (x, k) :: L.drop (SetTable.below t.place (way t.mask (k.hash w) K))).map fun p => (p.2.hash w, Value.ref p.1) := by
      rw [SetTable.toList_insertAt, R.rows, List.map_append, List.map_cons, List.map_take, List.map_drop]
    generalize hpp : SetTable.below t.place (way t.mask (k.hash w) K) = p at q2 q3 hin ⊢
    have pm := put_perm L p (x, k)
    have hlen : (L.take p ++ (x, k) :: L.drop p).length = L.length + 1 := pm.length_eq
    have hhs : (L.take p ++ (x, k) :: L.drop p).map (fun p => p.2.hash w) = (L.map fun p => p.2.hash w).take p ++ k.hash w :: (L.map fun p => p.2.hash w).drop p := by
      rw [List.map_append, List.map_cons, List.map_take, List.map_drop]
    rw [← hhs] at q3
    have nd1 : ((L.take p ++ (x, k) :: L.drop p).map (·.2)).Nodup := (pm.map (·.2)).nodup_iff.mpr (by rw [List.map_cons]; exact List.nodup_cons.mpr ⟨hm, R.dif⟩)
    have hes : (SetTable.insertAt es p (k.hash w, Value.ref x)).size = L.length + 1 := by rw [← Array.length_toList, hin, List.length_map, hlen]
    generalize SetTable.insertAt es p (k.hash w, Value.ref x) = es1 at hin hes ⊢
    generalize L.take p ++ (x, k) :: L.drop p = L1 at pm hlen q3 nd1 hin
    refine wpAny_bind (wpAny_storeSet_of ho hd ?_ (by rw [hes, sizeLine_eq]; omega))
    have sb : Heap.SameBut a s.heap (s.heap.update a (Obj.putSet es1 t1)) := Heap.SameBut.update ..
    have ho1 := store_at (es' := es1) (t' := t1) ho hd
    generalize s.heap.update a (Obj.putSet es1 t1) = h1 at sb ho1 ⊢
    have al1 : ∀ p ∈ L1, KAt h1 p.2 p.1 := fun p hp => by
      rcases List.mem_cons.mp (pm.mem_iff.mp hp) with e | hp
      · rw [e]; exact hx.but ho hd sb
      · exact (R.all p hp).but ho hd sb
    have ld1 : w.params.followText "set-order" = true ∨ t1.led = true := by rw [q5]; exact R.led
    by_cases hf : t1.tooFull = true
    · first
        | (refine wpAny_bind ?_; refine wp_if_pos (by simp [hf]) ?_)
        | (refine wp_if_pos (by simp [hf]) ?_; refine wpAny_bind ?_)
      have hfull : (L.length + 1) * 5 ≥ t1.mask * 3 := by
        have h := hf
        unfold SetTable.tooFull at h
        rw [decide_eq_true_eq, q9, List.length_map] at h
        exact h
      rw [hsl]
      have hsz1 : t1.place.size = es1.size := by
        have h := q3.sz
        rw [List.length_map, hlen] at h
        rw [h, hes]
      have two : (t.mask = 7 ∧ L.length = 4) ∨ (t.mask = 31 ∧ L.length = 18) := by
        rcases R.tab.mok with e | e | e
        · left; rw [q4, e] at hfull; rw [e] at hroom; exact ⟨e, by omega⟩
        · right; rw [q4, e] at hfull; rw [e] at hroom; exact ⟨e, by omega⟩
        · exfalso; rw [q4, e] at hfull; omega
      have go : ∀ M, SetTable.sizeAbove (SetTable.grown (L.length + 1)) - 1 = M → MaskOk M → SetTable.sizeAbove (SetTable.grown (L.length + 1)) ≤ 128 → (L.length + 1) * 5 < M * 3 →
          wpAny (model P w) A (setRelay a (SetTable.grown (L.length + 1))) (fun _ s' => wpAny (model P w) A (pure true) Q E s') E { s with heap := h1 } := fun M m1 m2 m3 m4 =>
        relaid (s := { s with heap := h1 }) ho1 ⟨hex.1, hex.2.1, hex.2.2⟩ rfl hin hsz1 q3.dm (by rw [hes, q4]; rcases two with ⟨e, e2⟩ | ⟨e, e2⟩ <;> omega) nd1 al1 hp1 ld1 (by rw [hlen]; exact hfew) m1 m2 m3 (by rw [hlen]; exact m4)
          fun h2 L2 es2 ep2 t2 sb2 R2 pm2 => wpAny_pure (hQ true h2 L2 es2 ep2 t2 (sb.trans sb2) R2 (fun z => absurd z hm) fun _ => pm2.trans pm)
      rcases two with ⟨_, e2⟩ | ⟨_, e2⟩
      · exact go 31 (by rw [e2, size_20]) (.inr (.inl rfl)) (by rw [e2, size_20]; decide) (by omega)
      · exact go 127 (by rw [e2, size_76]) (.inr (.inr rfl)) (by rw [e2, size_76]; decide) (by omega)
    · first
        | refine wp_if_neg (by simp [hf]) ?_
        | (refine wpAny_bind ?_; refine wp_if_neg (by simp [hf]) ?_; refine wpAny_pure ?_)
      refine wpAny_pure (hQ true h1 L1 es1 (ep + 1) t1 sb ⟨⟨_, ho1, ⟨hex.1, hex.2.1, hex.2.2⟩, rfl⟩, hin, q3, nd1, al1, hp1, ld1, ?_, by rw [hlen]; exact hfew⟩ (fun z => absurd z hm) fun _ => pm)
      have h := hf
      unfold SetTable.tooFull at h
      rw [decide_eq_true_eq, q9, List.length_map] at h
      rw [hlen]
      omega
end
end Rf
end

section
set_option Elab.async false
set_option linter.all false
set_option maxRecDepth 100000
set_option maxHeartbeats 4000000
/-! Rf, part N: set(list), set(tuple) of tuples of any depth, or of ints; sorted and len of these. -/
namespace Rf
open PySem PySem.Spec PyProof.Rows L2

/-- what is in the set, of the first i items -/
structure Met (ks : List (Addr × NestedKey)) (i : Nat) (L : List (Addr × NestedKey)) : Prop where
  sub : ∀ p ∈ L, p ∈ ks.take i
  all : ∀ p ∈ ks.take i, p.2 ∈ L.map (·.2)
  len : L.length ≤ i
theorem Met.skip {ks L : List (Addr × NestedKey)} {i : Nat} {x : Addr × NestedKey} (g : Met ks i L) (h : ks[i]? = some x) (hm : x.2 ∈ L.map (·.2)) : Met ks (i + 1) L := by
  refine ⟨fun p hp => ?_, fun p hp => ?_, Nat.le_succ_of_le g.len⟩ <;> rw [List.take_succ, h] at *
  · exact List.mem_append_left _ (g.sub p hp)
  · rcases List.mem_append.mp hp with z | z
    · exact g.all p z
    · rw [List.mem_singleton.mp z]; exact hm
theorem Met.put {ks L L' : List (Addr × NestedKey)} {i : Nat} {x : Addr × NestedKey} (g : Met ks i L) (h : ks[i]? = some x) (pm : L'.Perm (x :: L)) : Met ks (i + 1) L' := by
  refine ⟨fun p hp => ?_, fun p hp => ?_, ?_⟩
  · rw [List.take_succ, h]
    rcases List.mem_cons.mp (pm.mem_iff.mp hp) with e | z
    · rw [e]; exact List.mem_append_right _ (List.mem_singleton.mpr rfl)
    · exact List.mem_append_left _ (g.sub p z)
  · rw [List.take_succ, h] at hp
    rw [(pm.map (·.2)).mem_iff, List.map_cons]
    rcases List.mem_append.mp hp with z | z
    · exact List.mem_cons_of_mem _ (g.all p z)
    · rw [List.mem_singleton.mp z]; exact List.mem_cons_self
  · rw [pm.length_eq, List.length_cons]
    exact Nat.succ_le_succ g.len
section
variable {P : Program} {w : World} {A : Around} {E : Value → Shared → Prop} {s : Shared}
/-- the filling loop -/
theorem fill_keys {I : Addr} {fp wr : List Addr} {G : Array GenState → Array GenState → Prop} {n : Nat} {Pv : Nat → Value → Prop} {St : Nat → Shared → Prop} {R : Result → Shared → Prop}
    (W : WalksS P w A.in1 I fp wr G n Pv St) (T : Addr) (hT : T ∉ fp) (ks : List (Addr × NestedKey)) (hn : n = ks.length) (hfew : ks.length < 64) (hval : ∀ i v, Pv i v → ∃ p, ks[i]? = some p ∧ v = .ref p.1)
    (h0 : Heap) (hk : ∀ p ∈ ks, KAt h0 p.2 p.1) (hT0 : h0.get? T = none) (hw0 : ∀ b ∈ wr, h0.get? b = none) (hu : A.in1.units + 8 < cLine) :
    ∀ (m i : Nat) (s : Shared), n - i = m → i ≤ n → St i s → (∀ b o, h0.get? b = some o → s.heap.get? b = some o) → (∃ L es ep t, NSet w s.heap T L es ep t ∧ Met ks i L) →
      (∀ s' L es ep t, Moved (T :: wr) G s s' → NSet w s'.heap T L es ep t → Met ks n L → (∀ b o, h0.get? b = some o → s'.heap.get? b = some o) → R (.ok (.ret .none)) s') →
      codeAny (model P w) A (.builtin "set.update.loop" ⟨[.ref T, .ref I], []⟩) R s := by
  have hTw : T ∉ wr := fun h => hT (W.sub _ h)
  have hsub : ∀ b ∈ wr, b ∈ T :: wr := fun b hb => List.mem_cons_of_mem _ hb
  have kept : ∀ {s s' : Shared}, Moved wr G s s' → (∀ b o, h0.get? b = some o → s.heap.get? b = some o) → ∀ b o, h0.get? b = some o → s'.heap.get? b = some o := fun hm hkp b o e =>
    hm.heap b o (fun hb => by rw [hw0 b hb] at e; cases e) (hkp b o e)
  intro m
  induction m with
  | zero =>
    rintro i s hk' hi hst hkp ⟨L, es, ep, t, hS, g⟩ hR
    obtain rfl : i = n := by omega
    refine codeAny_builtin F.entry_set_update_loop ?_
    rw [Around.under_plainId F.plain_set_update_loop _]
    show wpAny _ A.in1 (pyNext (.ref I) >>= _) _ _ s
    refine wpAny_bind (W.done s _ _ hst fun s' hm => ?_)
    show wpAny _ A.in1 (ret Value.none) _ _ s'
    have hkp' := kept hm hkp
    exact wpAny_pure (hR s' L es ep t (hm.mono hsub) (hS.keep (s := s) (fun o e => hm.heap T o hTw e) fun p hp => (hk p (List.mem_of_mem_take (g.sub p hp))).keep hkp') g hkp')
  | succ m ih =>
    rintro i s hk' hi hst hkp ⟨L, es, ep, t, hS, g⟩ hR
    have hlt : i < n := by omega
    refine codeAny_builtin F.entry_set_update_loop ?_
    rw [Around.under_plainId F.plain_set_update_loop _]
    show wpAny _ A.in1 (pyNext (.ref I) >>= _) _ _ s
    refine wpAny_bind (W.item i s _ _ hlt hst fun v s' hP hst' hm => ?_)
    obtain ⟨p, hp, rfl⟩ := hval i v hP
    have hkp' := kept hm hkp
    have hS' : NSet w s'.heap T L es ep t := hS.keep (s := s) (fun o e => hm.heap T o hTw e) fun q hq => (hk q (List.mem_of_mem_take (g.sub q hq))).keep hkp'
    have hx : KAt s'.heap p.2 p.1 := (hk p (List.mem_of_getElem? hp)).keep hkp'
    show wpAny _ A.in1 (holding [Value.ref p.1] (setAdd T (.ref p.1)) >>= _) _ _ s'
    refine wpAny_bind (wpAny_holding ?_)
    unfold setAdd
    refine wpAny_holding (wpAny_bind (pyHash_key _ _ _ _ _ hx.it (by have := hx.dp; omega) ?_))
    refine nset_add (s := { s' with toks := s'.toks + p.2.draws }) hS' hx hu (by have := g.len; omega) fun b h' L' es' ep' t' hsb hS2 c1 c2 => ?_
    have g' : Met ks (i + 1) L' := by
      rcases Classical.em (p.2 ∈ L.map (·.2)) with c | c
      · rw [c1 c]; exact g.skip hp c
      · exact g.put hp (c2 c)
    have hkp2 : ∀ b o, h0.get? b = some o → h'.get? b = some o := fun b o e => (hsb.2 b (fun z => by rw [z, hT0] at e; cases e)).trans (hkp' b o e)
    refine wpAny_pure ⟨plainId_quiet F.plain_set_update_loop _, ih (i + 1) _ (by omega) hlt (W.frame _ s' _ _ hst' (Nat.le_add_right _ _) fun b hb o e => ?_) hkp2 ⟨L', es', ep', t', hS2, g'⟩ fun s'' L2 es2 ep2 t2 hm'' hS'' g'' hkp'' => ?_⟩
    · rw [hsb.2 b fun h : b = T => hT (by rw [← h]; exact hb)]; exact e
    · refine hR s'' L2 es2 ep2 t2 (Moved.trans W.gtrans ((hm.mono hsub).then_heap (Nat.le_add_right _ _) fun b o hb e => ?_) hm'') hS'' g'' hkp''
      rw [hsb.2 b fun h : b = T => hb (by rw [h]; exact List.mem_cons_self)]; exact e

/-! ### set(x) by what its loop does -/
abbrev newSetO (w : World) : Obj := { cls := .type "set", dict := none, data := .set #[] 0 (.fresh 0 0 (!w.params.followText "set-order")) }
abbrev iterO (T : String) (l : Addr) : Obj := { cls := .type T, data := .fields #[.ref l, .int 0 0] }
/-- the filling loop ends with Fin of the heap -/
def Fills (P : Program) (w : World) (A : Around) (s : Shared) (it : Obj) (Fin : Heap → Prop) : Prop :=
  ∀ R : Result → Shared → Prop, (∀ h' tk, Fin h' → R (.ok (.ret .none)) { s with heap := h', toks := tk }) →
    codeAny (model P w) A (.builtin "set.update.loop" ⟨[.ref s.heap.objs.size, .ref (s.heap.objs.size + 1)], []⟩) R { s with heap := (s.heap.push (newSetO w)).push it }
set_option maxHeartbeats 4000000 in
theorem make_setL {l : Addr} {items : Array Value} {Fin : Heap → Prop} {Q : Value → Shared → Prop} (hl : s.heap.IsList l items) (hF : Fills P w A.in1.in1 s (iterO "list_iterator" l) Fin)
    (h : ∀ h' tk, Fin h' → Q (.ref s.heap.objs.size) { s with heap := h', toks := tk }) : wpAny (model P w) A (call (.type "set") [.ref l]) Q E s := by
  obtain ⟨c, tl, hmro⟩ := F.called_set.mro
  have hmade := F.called_set.made
  have hsub := F.called_set.sub
  refine wpAny_call (codeAny_of_tree ?_)
  show wpAny _ _ (callAny (.type "set") _) _ _ _
  refine wpAny_pure ⟨Code.quiet_builtin _ (by decide +kernel), codeAny_builtin F.entry_type_call ?_⟩
  rw [Around.under_plain (weight_type_call_type "set" [.ref l] []) rfl]
  have h1 := F.called_set.notType
  have h2 := F.called_set.canCreate
  have hct := F.typeCall_set_1 (.ref l)
  repeat (any_goals (first | assumption | wp_step))
  refine codeAny_mono (code_set_led1 (.ref l) (E := E) (Q₁ := fun obj s₁ => obj = .ref s.heap.objs.size ∧ s₁ = { s with heap := s.heap.push (newSetO w) }) ⟨rfl, rfl⟩) fun r s₁ hr => ?_
  cases r with
  | error e => exact hr
  | ok fl =>
    cases fl with
    | ret obj =>
      obtain ⟨rfl, rfl⟩ := hr
      have hS : (s.heap.push (newSetO w)).get? s.heap.objs.size = some (newSetO w) := Heap.get?_push_size _ rfl
      have hT : Shared.TypeIs { s with heap := s.heap.push (newSetO w) } (.ref s.heap.objs.size) "set" := ⟨_, hS, rfl⟩
      have hli := F.called_set.init.lookup
      have hbi := F.called_set.init.bind (.ref s.heap.objs.size)
      repeat (any_goals (first | assumption | wp_step))
      refine codeAny_mono (codeAny_call_builtin (R := wants (fun r s₂ => r = .none ∧ ∃ h' tk, s₂ = { s with heap := h', toks := tk } ∧ Fin h') E) F.called_set.init.plain F.entry_set_init (check_set_init_1 hT ?_)) fun r₂ s₂ hr₂ => ?_
      · obtain ⟨⟨ocls, odict, odata, oslots⟩, hol, hcl, nl, hdl⟩ := hl
        simp only at hcl hdl
        subst hcl; subst hdl
        have hol' : (s.heap.push (newSetO w)).get? l = some { cls := .type "list", dict := odict, data := .seq items nl, slots := oslots } := Heap.get?_push_of_some _ hol
        have hsls := F.sub_list_set
        have hslf := F.sub_list_frozenset
        have hne : (Value.type "list" == Value.type "dict") = false := by decide
        have hl1 : (s.heap.push (newSetO w)).IsList l items := ⟨_, hol', rfl, nl, rfl⟩
        unfold Builtin.«set.__init__» noKeywords Builtin.Frozenset.updateFrom
        generalize hPI : pyIter = PI
        wp_walk
        subst hPI
        refine wpAny_pyIter_list hl1 ?_
        refine wpAny_bind (wpAny_runValue ?_)
        have hz1 : (s.heap.push (newSetO w)).objs.size = s.heap.objs.size + 1 := Heap.size_push ..
        dsimp only
        rw [hz1]
        refine hF _ fun h' tk fin => ?_
        show wpAny _ _ _ _ _ _
        refine wpAny_pure ?_
        show wpAny _ _ (ret Value.none) _ _ _
        exact wpAny_pure ⟨rfl, h', tk, rfl, fin⟩
      · cases r₂ with
        | error e => exact hr₂
        | ok fl₂ =>
          cases fl₂ with
          | ret r =>
            obtain ⟨rfl, h', tk, rfl, fin⟩ := hr₂
            repeat (any_goals (first | assumption | wp_step))
            exact h _ _ fin
          | _ => exact hr₂.elim
    | _ => exact hr.elim
set_option maxHeartbeats 4000000 in
theorem make_setT {l : Addr} {items : Array Value} {Fin : Heap → Prop} {Q : Value → Shared → Prop} (hl : s.heap.IsTuple l items) (hF : Fills P w A.in1.in1 s (iterO "tuple_iterator" l) Fin)
    (h : ∀ h' tk, Fin h' → Q (.ref s.heap.objs.size) { s with heap := h', toks := tk }) : wpAny (model P w) A (call (.type "set") [.ref l]) Q E s := by
  obtain ⟨c, tl, hmro⟩ := F.called_set.mro
  have hmade := F.called_set.made
  have hsub := F.called_set.sub
  refine wpAny_call (codeAny_of_tree ?_)
  show wpAny _ _ (callAny (.type "set") _) _ _ _
  refine wpAny_pure ⟨Code.quiet_builtin _ (by decide +kernel), codeAny_builtin F.entry_type_call ?_⟩
  rw [Around.under_plain (weight_type_call_type "set" [.ref l] []) rfl]
  have h1 := F.called_set.notType
  have h2 := F.called_set.canCreate
  have hct := F.typeCall_set_1 (.ref l)
  repeat (any_goals (first | assumption | wp_step))
  refine codeAny_mono (code_set_led1 (.ref l) (E := E) (Q₁ := fun obj s₁ => obj = .ref s.heap.objs.size ∧ s₁ = { s with heap := s.heap.push (newSetO w) }) ⟨rfl, rfl⟩) fun r s₁ hr => ?_
  cases r with
  | error e => exact hr
  | ok fl =>
    cases fl with
    | ret obj =>
      obtain ⟨rfl, rfl⟩ := hr
      have hS : (s.heap.push (newSetO w)).get? s.heap.objs.size = some (newSetO w) := Heap.get?_push_size _ rfl
      have hT : Shared.TypeIs { s with heap := s.heap.push (newSetO w) } (.ref s.heap.objs.size) "set" := ⟨_, hS, rfl⟩
      have hli := F.called_set.init.lookup
      have hbi := F.called_set.init.bind (.ref s.heap.objs.size)
      repeat (any_goals (first | assumption | wp_step))
      refine codeAny_mono (codeAny_call_builtin (R := wants (fun r s₂ => r = .none ∧ ∃ h' tk, s₂ = { s with heap := h', toks := tk } ∧ Fin h') E) F.called_set.init.plain F.entry_set_init (check_set_init_1 hT ?_)) fun r₂ s₂ hr₂ => ?_
      · obtain ⟨⟨ocls, odict, odata, oslots⟩, hol, hcl, nl, hdl⟩ := hl
        simp only at hcl hdl
        subst hcl; subst hdl
        have hol' : (s.heap.push (newSetO w)).get? l = some { cls := .type "tuple", dict := odict, data := .seq items nl, slots := oslots } := Heap.get?_push_of_some _ hol
        have hsls := F.sub_tuple_set
        have hslf := F.sub_tuple_frozenset
        have hne : (Value.type "tuple" == Value.type "dict") = false := by decide
        have hl1 : (s.heap.push (newSetO w)).IsTuple l items := ⟨_, hol', rfl, nl, rfl⟩
        unfold Builtin.«set.__init__» noKeywords Builtin.Frozenset.updateFrom
        generalize hPI : pyIter = PI
        wp_walk
        subst hPI
        refine wpAny_pyIter_tuple hl1 ?_
        refine wpAny_bind (wpAny_runValue ?_)
        have hz1 : (s.heap.push (newSetO w)).objs.size = s.heap.objs.size + 1 := Heap.size_push ..
        dsimp only
        rw [hz1]
        refine hF _ fun h' tk fin => ?_
        show wpAny _ _ _ _ _ _
        refine wpAny_pure ?_
        show wpAny _ _ (ret Value.none) _ _ _
        exact wpAny_pure ⟨rfl, h', tk, rfl, fin⟩
      · cases r₂ with
        | error e => exact hr₂
        | ok fl₂ =>
          cases fl₂ with
          | ret r =>
            obtain ⟨rfl, h', tk, rfl, fin⟩ := hr₂
            repeat (any_goals (first | assumption | wp_step))
            exact h _ _ fin
          | _ => exact hr₂.elim
    | _ => exact hr.elim
theorem none_above {b : Addr} (hb : s.heap.objs.size ≤ b) : s.heap.get? b = none := Heap.get?_none_of_le hb
theorem Moved.eq3 {wr : List Addr} {s0 s1 s' : Shared} (m : Moved wr (fun a b => b = a) s1 s') (e : s1 = { s0 with heap := s1.heap, toks := s1.toks }) : s' = { s0 with heap := s'.heap, toks := s'.toks } := by
  obtain ⟨h', g2, d', tk', os'⟩ := s'
  have eg := m.gens
  have ed := m.drawn
  have eo := m.os
  rw [e] at eg ed eo
  simp only at eg ed eo
  subst eg ed eo
  rfl
/-- of tuples -/
theorem fillsK_list {l : Addr} {items : Array Value} (ks : List (Addr × NestedKey)) (hh : A.handled = none) (hl : s.heap.IsList l items) (hit : items.toList = ks.map fun p => Value.ref p.1) (hk : ∀ p ∈ ks, KAt s.heap p.2 p.1) (hfew : ks.length < 64)
    (hu : A.units + 9 < cLine) : Fills P w A s (iterO "list_iterator" l) fun h' => (∃ L es ep t, NSet w h' s.heap.objs.size L es ep t ∧ Met ks ks.length L) ∧ ∀ b o, s.heap.get? b = some o → h'.get? b = some o := by
  intro R hR
  have hz1 : (s.heap.push (newSetO w)).objs.size = s.heap.objs.size + 1 := Heap.size_push ..
  have hlS : l < s.heap.objs.size := let ⟨_, ho, _⟩ := hl; Heap.lt_size ho
  have hn : items.size = ks.length := by rw [← Array.length_toList, hit, List.length_map]
  have hh1 : A.in1.handled = none := by simp [hh]
  have hl1 : (s.heap.push (newSetO w)).IsList l items := hl.push _
  refine fill_keys ((Walks.list hh1 (s.heap.objs.size + 1) l (Nat.ne_of_lt (Nat.lt_succ_of_lt hlS)) items).toS) s.heap.objs.size (by simp; exact Nat.ne_of_gt hlS) ks hn hfew (fun i v hv => ?_) s.heap hk (none_above (Nat.le_refl _))
    (fun b hb => none_above (by rw [List.mem_singleton.mp hb]; exact Nat.le_succ _)) (by simp only [Around.in1_units]; omega) (items.size - 0) 0 _ (by omega) (Nat.zero_le _) ⟨⟨_, by rw [← hz1]; exact Heap.get?_push_size _ rfl, rfl, rfl⟩, hl1.push _⟩
    (fun b o e => Heap.get?_push_of_some _ (Heap.get?_push_of_some _ e)) ?_ ?_
  · have q : items.toList[i]? = some v := by rw [Array.getElem?_toList]; exact hv
    rw [hit, List.getElem?_map] at q
    cases hq : ks[i]? with
    | none => rw [hq] at q; cases q
    | some p => rw [hq] at q; exact ⟨p, rfl, (Option.some.inj q).symm⟩
  · exact ⟨[], #[], 0, _, nset_new (Heap.get?_push_of_some _ (Heap.get?_push_size _ rfl)), ⟨fun p hp => (by cases hp), fun p hp => (by simp at hp), Nat.le_refl _⟩⟩
  · intro s' L es ep t hm hS' g' hkp
    rw [hn] at g'
    have e := Moved.eq3 (s0 := s) hm rfl
    rw [e]
    exact hR _ _ ⟨⟨L, es, ep, t, hS', g'⟩, hkp⟩
theorem fillsK_tup {l : Addr} {items : Array Value} (ks : List (Addr × NestedKey)) (hh : A.handled = none) (hl : s.heap.IsTuple l items) (hit : items.toList = ks.map fun p => Value.ref p.1) (hk : ∀ p ∈ ks, KAt s.heap p.2 p.1) (hfew : ks.length < 64)
    (hu : A.units + 9 < cLine) : Fills P w A s (iterO "tuple_iterator" l) fun h' => (∃ L es ep t, NSet w h' s.heap.objs.size L es ep t ∧ Met ks ks.length L) ∧ ∀ b o, s.heap.get? b = some o → h'.get? b = some o := by
  intro R hR
  have hz1 : (s.heap.push (newSetO w)).objs.size = s.heap.objs.size + 1 := Heap.size_push ..
  have hlS : l < s.heap.objs.size := let ⟨_, ho, _⟩ := hl; Heap.lt_size ho
  have hn : items.size = ks.length := by rw [← Array.length_toList, hit, List.length_map]
  have hh1 : A.in1.handled = none := by simp [hh]
  have hl1 : (s.heap.push (newSetO w)).IsTuple l items := hl.push _
  refine fill_keys ((Walks.tuple hh1 (s.heap.objs.size + 1) l (Nat.ne_of_lt (Nat.lt_succ_of_lt hlS)) items).toS) s.heap.objs.size (by simp; exact Nat.ne_of_gt hlS) ks hn hfew (fun i v hv => ?_) s.heap hk (none_above (Nat.le_refl _))
    (fun b hb => none_above (by rw [List.mem_singleton.mp hb]; exact Nat.le_succ _)) (by simp only [Around.in1_units]; omega) (items.size - 0) 0 _ (by omega) (Nat.zero_le _) ⟨⟨_, by rw [← hz1]; exact Heap.get?_push_size _ rfl, rfl, rfl⟩, hl1.push _⟩
    (fun b o e => Heap.get?_push_of_some _ (Heap.get?_push_of_some _ e)) ?_ ?_
  · have q : items.toList[i]? = some v := by rw [Array.getElem?_toList]; exact hv
    rw [hit, List.getElem?_map] at q
    cases hq : ks[i]? with
    | none => rw [hq] at q; cases q
    | some p => rw [hq] at q; exact ⟨p, rfl, (Option.some.inj q).symm⟩
  · exact ⟨[], #[], 0, _, nset_new (Heap.get?_push_of_some _ (Heap.get?_push_size _ rfl)), ⟨fun p hp => (by cases hp), fun p hp => (by simp at hp), Nat.le_refl _⟩⟩
  · intro s' L es ep t hm hS' g' hkp
    rw [hn] at g'
    have e := Moved.eq3 (s0 := s) hm rfl
    rw [e]
    exact hR _ _ ⟨⟨L, es, ep, t, hS', g'⟩, hkp⟩
/-- of ints -/
theorem int_at {items : Array Value} {ns : List Int} (hit : IntsAre items.toList ns) {i : Nat} {v : Value} (hv : items[i]? = some v) : ∃ k t, ns[i]? = some k ∧ v = .int k t := by
  have hz : items.size = ns.length := by rw [← Array.length_toList, IntsAre.length hit]
  have hi : i < ns.length := by rw [← hz]; exact (Array.getElem?_eq_some_iff.mp hv).1
  obtain ⟨t, e⟩ := PyProof.Rows.IntsAre.int_at hit i v (by rw [Array.getElem?_toList]; exact hv)
  exact ⟨ns[i], t, List.getElem?_eq_getElem hi, by rw [e, List.getD_eq_getElem?_getD, List.getElem?_eq_getElem hi]; rfl⟩
theorem fillsI_list {l : Addr} {items : Array Value} (ns : List Int) (hh : A.handled = none) (hl : s.heap.IsList l items) (hit : IntsAre items.toList ns) (hfew : ns.length + 1 < scanBound) :
    Fills P w A s (iterO "list_iterator" l) fun h' => (∃ c, c ≤ ns.length ∧ SetR w h' s.heap.objs.size (fun j => decide (j ∈ ns)) c) ∧ ∀ b o, s.heap.get? b = some o → h'.get? b = some o := by
  intro R hR
  have hz1 : (s.heap.push (newSetO w)).objs.size = s.heap.objs.size + 1 := Heap.size_push ..
  have hlS : l < s.heap.objs.size := let ⟨_, ho, _⟩ := hl; Heap.lt_size ho
  have hn : items.size = ns.length := by rw [← Array.length_toList, IntsAre.length hit]
  have hh1 : A.in1.handled = none := by simp [hh]
  have hl1 : (s.heap.push (newSetO w)).IsList l items := hl.push _
  refine set_update_ints ((Walks.list hh1 (s.heap.objs.size + 1) l (Nat.ne_of_lt (Nat.lt_succ_of_lt hlS)) items).toS) s.heap.objs.size (by simp; exact Nat.ne_of_gt hlS) ns hn hfew (fun i v hv => int_at hit hv) (items.size - 0) 0 _ (by omega) (Nat.zero_le _)
    ⟨⟨_, by rw [← hz1]; exact Heap.get?_push_size _ rfl, rfl, rfl⟩, hl1.push _⟩ ⟨0, Nat.le_refl 0, setR_new_at (Heap.get?_push_of_some _ (Heap.get?_push_size _ rfl))⟩ ?_
  intro s' c hm hc hS'
  have e := Moved.eq3 (s0 := s) hm rfl
  rw [hn] at hc
  have hk : ∀ b o, s.heap.get? b = some o → s'.heap.get? b = some o := fun b o q => by
    have hb := Heap.lt_size q
    refine hm.heap b o ?_ (Heap.get?_push_of_some _ (Heap.get?_push_of_some _ q))
    simp only [List.mem_cons, List.not_mem_nil, or_false, not_or]
    exact ⟨Nat.ne_of_lt hb, Nat.ne_of_lt (Nat.lt_succ_of_lt hb)⟩
  rw [e]
  exact hR _ _ ⟨⟨c, hc, hS'⟩, hk⟩
theorem fillsI_tup {l : Addr} {items : Array Value} (ns : List Int) (hh : A.handled = none) (hl : s.heap.IsTuple l items) (hit : IntsAre items.toList ns) (hfew : ns.length + 1 < scanBound) :
    Fills P w A s (iterO "tuple_iterator" l) fun h' => (∃ c, c ≤ ns.length ∧ SetR w h' s.heap.objs.size (fun j => decide (j ∈ ns)) c) ∧ ∀ b o, s.heap.get? b = some o → h'.get? b = some o := by
  intro R hR
  have hz1 : (s.heap.push (newSetO w)).objs.size = s.heap.objs.size + 1 := Heap.size_push ..
  have hlS : l < s.heap.objs.size := let ⟨_, ho, _⟩ := hl; Heap.lt_size ho
  have hn : items.size = ns.length := by rw [← Array.length_toList, IntsAre.length hit]
  have hh1 : A.in1.handled = none := by simp [hh]
  have hl1 : (s.heap.push (newSetO w)).IsTuple l items := hl.push _
  refine set_update_ints ((Walks.tuple hh1 (s.heap.objs.size + 1) l (Nat.ne_of_lt (Nat.lt_succ_of_lt hlS)) items).toS) s.heap.objs.size (by simp; exact Nat.ne_of_gt hlS) ns hn hfew (fun i v hv => int_at hit hv) (items.size - 0) 0 _ (by omega) (Nat.zero_le _)
    ⟨⟨_, by rw [← hz1]; exact Heap.get?_push_size _ rfl, rfl, rfl⟩, hl1.push _⟩ ⟨0, Nat.le_refl 0, setR_new_at (Heap.get?_push_of_some _ (Heap.get?_push_size _ rfl))⟩ ?_
  intro s' c hm hc hS'
  have e := Moved.eq3 (s0 := s) hm rfl
  rw [hn] at hc
  have hk : ∀ b o, s.heap.get? b = some o → s'.heap.get? b = some o := fun b o q => by
    have hb := Heap.lt_size q
    refine hm.heap b o ?_ (Heap.get?_push_of_some _ (Heap.get?_push_of_some _ q))
    simp only [List.mem_cons, List.not_mem_nil, or_false, not_or]
    exact ⟨Nat.ne_of_lt hb, Nat.ne_of_lt (Nat.lt_succ_of_lt hb)⟩
  rw [e]
  exact hR _ _ ⟨⟨c, hc, hS'⟩, hk⟩
end
end Rf
end

section
set_option Elab.async false
set_option linter.all false
set_option maxRecDepth 100000
set_option maxHeartbeats 4000000
/-! Rf, part O: sorted(set(x)), in plain words and as a rule. -/
namespace Rf
open PySem PySem.Spec PyProof.Rows L2

/-! ### keys -/
mutual
def nkey : D → Option NestedKey
  | .non => some .none
  | .int i => some (.num i)
  | .tup ds => match nkeys ds with
    | some ks => some (.tup ks)
    | none => none
  | _ => none
def nkeys : List D → Option (List NestedKey)
  | [] => some []
  | d :: ds => match nkey d, nkeys ds with
    | some k, some r => some (k :: r)
    | _, _ => none
end
mutual
def unkey : NestedKey → D
  | .none => .non
  | .num i => .int i
  | .text x => .str x
  | .tup ks => .tup (unkeys ks)
def unkeys : List NestedKey → List D
  | [] => []
  | k :: ks => unkey k :: unkeys ks
end
mutual
theorem unkey_of : ∀ (d : D) (k : NestedKey), nkey d = some k → unkey k = d ∧ noTxt k = true
  | .non, k, h => by simp only [nkey, Option.some.injEq] at h; subst h; exact ⟨rfl, rfl⟩
  | .int i, k, h => by simp only [nkey, Option.some.injEq] at h; subst h; exact ⟨rfl, rfl⟩
  | .tup ds, k, h => by
    simp only [nkey] at h
    cases e : nkeys ds with
    | none => rw [e] at h; cases h
    | some ks =>
      rw [e] at h; cases h
      have := unkeys_of ds ks e
      exact ⟨by simp only [unkey, this.1], by simp only [noTxt, this.2]⟩
  | .bl _, k, h => by simp only [nkey] at h; cases h
  | .str _, k, h => by simp only [nkey] at h; cases h
  | .ref _, k, h => by simp only [nkey] at h; cases h
  | .ty _, k, h => by simp only [nkey] at h; cases h
  | .rol _, k, h => by simp only [nkey] at h; cases h
theorem unkeys_of : ∀ (ds : List D) (ks : List NestedKey), nkeys ds = some ks → unkeys ks = ds ∧ noTxts ks = true
  | [], ks, h => by simp only [nkeys, Option.some.injEq] at h; subst h; exact ⟨rfl, rfl⟩
  | d :: ds, ks, h => by
    simp only [nkeys] at h
    split at h
    · rename_i k r e1 e2
      cases h
      have a := unkey_of d k e1
      have b := unkeys_of ds r e2
      exact ⟨by simp only [unkeys, a.1, b.1], by simp only [noTxts, a.2, b.2, Bool.and_self]⟩
    · cases h
end
theorem unkeys_map : ∀ ks : List NestedKey, unkeys ks = ks.map unkey
  | [] => rfl
  | k :: ks => by rw [unkeys, unkeys_map ks, List.map_cons]
mutual
theorem rep_key {X : Cx} {pins : List (Addr × Obj)} {σ : L2.St} {H : L2.Hp} {s : Shared} {μ : List Addr} (I : Inv X pins σ H s) : ∀ (d : D) (k : NestedKey) (v : V) (u : Value), nkey d = some k → Rep X.K H μ d v → RelV v u → NestedIs s.heap k u ∧ Reads s.heap u k.data []
  | .non, k, v, u, h, r, e => by
    simp only [nkey, Option.some.injEq] at h
    simp only [Rep] at r
    subst h r; cases e
    exact ⟨.none, .none⟩
  | .int i, k, v, u, h, r, e => by
    simp only [nkey, Option.some.injEq] at h
    simp only [Rep] at r
    subst h r; obtain ⟨t, rfl⟩ := e
    exact ⟨.int _ _, .int _ _⟩
  | .tup ds, k, v, u, h, r, e => by
    simp only [nkey] at h
    simp only [Rep] at r
    obtain ⟨a, vs, rfl, h2, h3⟩ := r
    cases e
    cases e1 : nkeys ds with
    | none => rw [e1] at h; cases h
    | some ks =>
      rw [e1] at h; cases h
      obtain ⟨its, rv, ⟨o, ho, hc, n, hd⟩, hz⟩ := I.tuple (SqT.of h2)
      have q := reps_key I ds ks vs its e1 h3 rv
      exact ⟨.tup ho hc hd (by simpa using q.1), by rw [NestedKey.data]; exact .tuple ho hc hd (by simpa using q.2)⟩
  | .bl _, k, v, u, h, _, _ => by simp only [nkey] at h; cases h
  | .str _, k, v, u, h, _, _ => by simp only [nkey] at h; cases h
  | .ref _, k, v, u, h, _, _ => by simp only [nkey] at h; cases h
  | .ty _, k, v, u, h, _, _ => by simp only [nkey] at h; cases h
  | .rol _, k, v, u, h, _, _ => by simp only [nkey] at h; cases h
theorem reps_key {X : Cx} {pins : List (Addr × Obj)} {σ : L2.St} {H : L2.Hp} {s : Shared} {μ : List Addr} (I : Inv X pins σ H s) : ∀ (ds : List D) (ks : List NestedKey) (vs : List V) (us : List Value), nkeys ds = some ks → Reps X.K H μ ds vs → Vals vs us → NestedAll s.heap ks us ∧ ReadsAll s.heap us (NestedKey.datas ks) []
  | [], ks, vs, us, h, r, e => by
    simp only [nkeys, Option.some.injEq] at h
    simp only [Reps] at r
    subst h r; cases e
    exact ⟨.nil, by rw [NestedKey.datas]; exact .nil⟩
  | d :: ds, ks, vs, us, h, r, e => by
    simp only [nkeys] at h
    simp only [Reps] at r
    obtain ⟨v, vr, rfl, h2, h3⟩ := r
    split at h
    · rename_i k r e1 e2
      cases h
      cases e with
      | cons x1 x2 =>
        have a := rep_key I d k v _ e1 h2 x1
        have b := reps_key I ds r vr _ e2 h3 x2
        exact ⟨.cons a.1 b.1, by rw [NestedKey.datas]; exact .cons (as := []) (bs := []) a.2 b.2⟩
    · cases h
end
mutual
theorem eqv_data : ∀ a b : NestedKey, PyData.eqv a.data b.data = NestedKey.beq a b
  | .none, b => by cases b <;> simp [NestedKey.data, PyData.eqv, NestedKey.beq]
  | .num i, b => by
    cases b with
    | num j => simp only [NestedKey.data, PyData.eqv, NestedKey.beq]; rw [Bool.eq_iff_iff]; simp
    | _ => simp [NestedKey.data, PyData.eqv, NestedKey.beq]
  | .text x, b => by
    cases b with
    | text y => simp only [NestedKey.data, PyData.eqv, NestedKey.beq]; rw [Bool.eq_iff_iff]; simp
    | _ => simp [NestedKey.data, PyData.eqv, NestedKey.beq]
  | .tup ks, b => by
    cases b with
    | tup js => simp only [NestedKey.data, PyData.eqv, NestedKey.beq]; exact eqvAll_data ks js
    | _ => simp [NestedKey.data, PyData.eqv, NestedKey.beq]
theorem eqvAll_data : ∀ a b : List NestedKey, PyData.eqvAll (NestedKey.datas a) (NestedKey.datas b) = NestedKey.beqAll a b
  | [], [] => by simp [NestedKey.datas, PyData.eqvAll, NestedKey.beqAll]
  | [], _ :: _ => by simp [NestedKey.datas, PyData.eqvAll, NestedKey.beqAll]
  | _ :: _, [] => by simp [NestedKey.datas, PyData.eqvAll, NestedKey.beqAll]
  | a :: as, b :: bs => by simp only [NestedKey.datas, PyData.eqvAll, NestedKey.beqAll, eqv_data a b, eqvAll_data as bs]
end
mutual
theorem depth_data : ∀ k : NestedKey, k.data.depth = k.depth
  | .none => by simp [NestedKey.data, PyData.depth, NestedKey.depth]
  | .num _ => by simp [NestedKey.data, PyData.depth, NestedKey.depth]
  | .text _ => by simp [NestedKey.data, PyData.depth, NestedKey.depth]
  | .tup ks => by simp only [NestedKey.data, PyData.depth, NestedKey.depth, depth_datas ks]
theorem depth_datas : ∀ ks : List NestedKey, PyData.depthAll (NestedKey.datas ks) = NestedKey.depthAll ks
  | [] => by simp [NestedKey.datas, PyData.depthAll, NestedKey.depthAll]
  | k :: ks => by simp only [NestedKey.datas, PyData.depthAll, NestedKey.depthAll, depth_data k, depth_datas ks]
end

/-! ### the order -/
def kLe (a b : NestedKey) : Bool := PySem.W.dataLe false NestedKey.data a b
theorem kLe_total : PySem.W.TotalLe kLe := PySem.W.sortLe_total (listOrd itemOrd) false fun b => PySem.W.keyToks (NestedKey.data b)
theorem toks_inj {x y : PyData} (ha : PySem.W.alike x y = true) (h : PySem.W.keyToks x = PySem.W.keyToks y) : PyData.eqv x y = true := by
  cases e : PyData.eqv x y with
  | true => rfl
  | false =>
    exfalso
    have q := (PySem.W.toks_eqv x y ha).2 e [] [.inl 0]
    have i : PyProof.Rows.lexLt itemOrd (PySem.W.keyToks x) (PySem.W.keyToks y) = false := by rw [h]; exact (listOrd itemOrd).irrefl _
    rw [i, h, List.append_nil] at q
    have : ∀ l : List (Int ⊕ List Nat), PyProof.Rows.lexLt itemOrd l (l ++ [.inl 0]) = true := by
      intro l
      have := PySem.W.lex_pre l [] [.inl 0]
      rw [List.append_nil] at this
      rw [this]; rfl
    rw [this] at q; cases q
theorem kLe_anti {a b : NestedKey} (ha : PySem.W.alike a.data b.data = true) (h1 : kLe a b = true) (h2 : kLe b a = true) : a = b := by
  have h1 : (!(listOrd itemOrd).blt (PySem.W.keyToks b.data) (PySem.W.keyToks a.data)) = true := h1
  have h2 : (!(listOrd itemOrd).blt (PySem.W.keyToks a.data) (PySem.W.keyToks b.data)) = true := h2
  rw [Bool.not_eq_true'] at h1 h2
  have e := (listOrd itemOrd).total _ _ h2 h1
  have q := toks_inj ha e
  rw [eqv_data] at q
  exact NestedKey.eq_of_beq _ _ q
def sortK (ks : List NestedKey) : List NestedKey := ks.mergeSort kLe
theorem sortK_unique {as bs : List NestedKey} (p : as.Perm bs) (h : ∀ a ∈ as, ∀ b ∈ as, PySem.W.alike a.data b.data = true) (hb : bs.Pairwise fun a b => kLe a b = true) : sortK as = bs := by
  refine List.Perm.eq_of_pairwise (le := fun a b => kLe a b = true) (fun a b h1 h2 => ?_) (PySem.W.sort_pairwise kLe_total as) hb ((List.mergeSort_perm as kLe).trans p)
  exact kLe_anti (h a ((List.mergeSort_perm as kLe).mem_iff.mp h1) b (p.mem_iff.mpr h2))
theorem sortK_perm {as bs : List NestedKey} (p : as.Perm bs) (h : ∀ a ∈ as, ∀ b ∈ as, PySem.W.alike a.data b.data = true) : sortK as = sortK bs :=
  sortK_unique (p.trans (List.mergeSort_perm bs kLe).symm) h (PySem.W.sort_pairwise kLe_total bs)
def dedupK : List NestedKey → List NestedKey
  | [] => []
  | k :: ks => if k ∈ ks then dedupK ks else k :: dedupK ks
theorem mem_dedupK {x : NestedKey} : ∀ {ks : List NestedKey}, x ∈ dedupK ks ↔ x ∈ ks
  | [] => by simp [dedupK]
  | k :: ks => by
    unfold dedupK
    split
    · rename_i h
      rw [mem_dedupK, List.mem_cons]
      exact ⟨.inr, fun z => z.elim (fun e => by rw [e]; exact h) id⟩
    · rw [List.mem_cons, List.mem_cons, mem_dedupK]
theorem nodup_dedupK : ∀ ks : List NestedKey, (dedupK ks).Nodup
  | [] => List.nodup_nil
  | k :: ks => by
    unfold dedupK
    split
    · exact nodup_dedupK ks
    · rename_i h
      exact List.nodup_cons.mpr ⟨fun z => h (mem_dedupK.mp z), nodup_dedupK ks⟩
def isNum : NestedKey → Bool
  | .num _ => true
  | _ => false
def isRow : NestedKey → Bool
  | .tup (k :: ks) => decide ((NestedKey.tup (k :: ks)).depth ≤ 8)
  | _ => false
def okKeys (ks : List NestedKey) : Bool := decide (ks.length < 64) && (ks.all isNum || (ks.all isRow && ks.all fun a => ks.all fun b => PySem.W.alike a.data b.data))
def setSort (ds : List D) : Option (List D) := match nkeys ds with
  | some ks => if okKeys ks = true then some ((sortK (dedupK ks)).map unkey) else none
  | none => none
def lSset (m : M D) : M (List D) := m.bind fun d => fun _ _ S => match itemsOf d S with
  | some ds => match setSort ds with
    | some es => .ok es S
    | none => .bad
  | none => .bad
def setLen (ds : List D) : Option Nat := match nkeys ds with
  | some ks => if okKeys ks = true then some (dedupK ks).length else none
  | none => none

/-! ### pairs of addresses and keys -/
theorem zip_keys {X : Cx} {pins : List (Addr × Obj)} {σ : L2.St} {H : L2.Hp} {s : Shared} {μ : List Addr} (I : Inv X pins σ H s) : ∀ {ds : List D} {ks : List NestedKey} {vs : List V} {us : List Value}, nkeys ds = some ks → ks.all isRow = true → Reps X.K H μ ds vs → Vals vs us →
    ∃ ps : List (Addr × NestedKey), us = ps.map (fun p => Value.ref p.1) ∧ ps.map (·.2) = ks ∧ ∀ p ∈ ps, KAt s.heap p.2 p.1 ∧ Reads s.heap (.ref p.1) p.2.data [] ∧ Rep X.K H μ (unkey p.2) (.ref p.1)
  | [], ks, vs, us, h, _, r, e => by
    simp only [nkeys, Option.some.injEq] at h
    simp only [Reps] at r
    subst h r; cases e
    exact ⟨[], rfl, rfl, fun p hp => by cases hp⟩
  | d :: ds, ks, vs, us, h, ha, r, e => by
    simp only [nkeys] at h
    simp only [Reps] at r
    obtain ⟨v, vr, rfl, h2, h3⟩ := r
    split at h
    · rename_i k rr e1 e2
      cases h
      rw [List.all_cons, Bool.and_eq_true] at ha
      cases e with
      | cons x1 x2 =>
        obtain ⟨ps, p1, p2, p3⟩ := zip_keys I e2 ha.2 h3 x2
        have a := rep_key I d k v _ e1 h2 x1
        have uk := unkey_of d k e1
        have hr := ha.1
        unfold isRow at hr
        split at hr
        · rename_i k0 ks0
          obtain ⟨a1, a2⟩ := a
          have : ∃ b, v = .ref b := by
            rw [← uk.1] at h2
            simp only [unkey, Rep] at h2
            obtain ⟨b, _, e, _⟩ := h2
            exact ⟨b, e⟩
          obtain ⟨b, rfl⟩ := this
          cases x1
          refine ⟨(b, _) :: ps, by rw [p1]; rfl, by rw [List.map_cons, p2], fun p hp => ?_⟩
          rcases List.mem_cons.mp hp with rfl | hp
          · exact ⟨⟨a1, by simpa using hr, uk.2⟩, a2, by rw [uk.1]; exact h2⟩
          · exact p3 p hp
        · cases hr
    · cases h
theorem ints_keys {X : Cx} {H : L2.Hp} {μ : List Addr} : ∀ {ds : List D} {ks : List NestedKey} {vs : List V} {us : List Value}, nkeys ds = some ks → ks.all isNum = true → Reps X.K H μ ds vs → Vals vs us →
    ∃ ns : List Int, IntsAre us ns ∧ ks = ns.map NestedKey.num
  | [], ks, vs, us, h, _, r, e => by
    simp only [nkeys, Option.some.injEq] at h
    simp only [Reps] at r
    subst h r; cases e
    exact ⟨[], .nil, rfl⟩
  | d :: ds, ks, vs, us, h, ha, r, e => by
    simp only [nkeys] at h
    simp only [Reps] at r
    obtain ⟨v, vr, rfl, h2, h3⟩ := r
    split at h
    · rename_i k rr e1 e2
      cases h
      rw [List.all_cons, Bool.and_eq_true] at ha
      cases e with
      | cons x1 x2 =>
        obtain ⟨ns, n1, n2⟩ := ints_keys e2 ha.2 h3 x2
        have uk := unkey_of d k e1
        have hr := ha.1
        unfold isNum at hr
        split at hr
        · rename_i i
          rw [← uk.1] at h2
          simp only [unkey, Rep] at h2
          subst h2
          obtain ⟨t, rfl⟩ := x1
          exact ⟨i :: ns, .cons i t n1, by rw [n2, List.map_cons]⟩
        · cases hr
    · cases h
theorem kLe_num {i j : Int} : kLe (.num i) (.num j) = decide (i ≤ j) := by
  show (!PySem.W.dataLt (.int j) (.int i)) = _
  rw [PySem.W.dataLt_int]
  by_cases h : i ≤ j
  · simp [h, Int.not_lt.mpr h]
  · simp [h, Int.not_le.mp h]
theorem reps_of {K : PySem.W.Frag} {H : L2.Hp} {μ : List Addr} : ∀ {ps : List (Addr × NestedKey)}, (∀ p ∈ ps, Rep K H μ (unkey p.2) (.ref p.1)) → Reps K H μ ((ps.map (·.2)).map unkey) (ps.map fun p => V.ref p.1)
  | [], _ => .nil
  | p :: ps, h => .cons (h p List.mem_cons_self) (reps_of fun q hq => h q (List.mem_cons_of_mem _ hq))
/-- a set of tuples, sorted: a new list -/
theorem sorted_nset {X : Cx} {pins : List (Addr × Obj)} {σ : L2.St} {H : L2.Hp} {s : Shared} {μ : List Addr} {a : Addr} {L : List (Addr × NestedKey)} {es : Array (Int × Value)} {ep : Nat} {t : SetTable} {Q : VK} (I : Inv X pins σ H s) (hc : X.calm = true) (hu : X.A.units + 64 < cLine) (R : NSet X.w s.heap a L es ep t)
    (hr : ∀ p ∈ L, isRow p.2 = true ∧ Reads s.heap (.ref p.1) p.2.data [] ∧ Rep X.K H μ (unkey p.2) (.ref p.1)) (hal : ∀ p ∈ L, ∀ q ∈ L, PySem.W.alike p.2.data q.2.data = true)
    (h : ∀ p ws, H p = none → Reps X.K H μ ((sortK (L.map (·.2))).map unkey) ws → Q (.ref p) (upd H p (.lst ws))) :
    wpAny (model X.prog X.w) X.A (call (.builtin "sorted") [.ref a]) (EP X pins σ Q) X.xe s := by
  obtain ⟨o, ho, hex, hd⟩ := R.ob
  have hsz := R.sz
  have hfew := R.few
  refine Calls.call_function_entry kind_sorted plain_sorted entry_sorted (args_sorted1 _) ?_
  unfold Builtin.«sorted»
  refine wpAny_bind (m := checkCount "sorted" 1 1 _) (wpAny_pure ?_)
  refine wpAny_bind (collect_set (A := X.A.in1) (I.ok.hd hc) ⟨o, ho, hex.1, hd⟩ R.fit (by unfold scanBound; omega) R.tab.ris R.led fun s1 vs k1 hz g1 o1 pm => ?_)
  have hes : es.toList.map (·.2) = L.map fun q => Value.ref q.1 := by rw [R.rows, List.map_map]; rfl
  rw [hes] at pm
  have nL : L.Nodup := List.Pairwise.of_map (·.2) (fun _ _ hne e => hne (congrArg (·.2) e)) R.dif
  have inj : ∀ q ∈ L, ∀ r ∈ L, Value.ref q.1 = Value.ref r.1 → q = r := fun q hq r hr e => by
    injection e with e
    have a1 := (R.all q hq).it
    have a2 := (R.all r hr).it
    rw [e] at a1
    exact Prod.ext e (NestedIs.inj _ _ _ a1 a2)
  obtain ⟨L1, e1, p1⟩ : ∃ L1 : List (Addr × NestedKey), vs = L1.map (fun q => Value.ref q.1) ∧ L1.Perm L := by
    have : ∀ (vs : List Value) (L : List (Addr × NestedKey)), vs.Perm (L.map fun q => Value.ref q.1) → ∃ L1 : List (Addr × NestedKey), vs = L1.map (fun q => Value.ref q.1) ∧ L1.Perm L := by
      intro vs
      induction vs with
      | nil =>
        intro L pm
        have : L = [] := by simpa using pm.length_eq.symm
        exact ⟨[], rfl, by rw [this]⟩
      | cons v vs ih =>
        intro L pm
        obtain ⟨q, hq, e⟩ := List.mem_map.mp (pm.mem_iff.mp List.mem_cons_self)
        obtain ⟨l1, l2, rfl⟩ := List.append_of_mem hq
        have pm2 : vs.Perm ((l1 ++ l2).map fun q => Value.ref q.1) := by
          have z : (v :: vs).Perm (v :: (l1 ++ l2).map fun q => Value.ref q.1) := by
            refine pm.trans ?_
            rw [← e]
            simpa using (List.perm_middle (a := q) (l₁ := l1) (l₂ := l2)).map fun q : Addr × NestedKey => Value.ref q.1
          exact z.cons_inv
        obtain ⟨L1, a1, a2⟩ := ih _ pm2
        exact ⟨q :: L1, by rw [List.map_cons, ← a1, e], (a2.cons q).trans List.perm_middle.symm⟩
    exact this vs L pm
  have hvl : vs.length = L.length := by rw [pm.length_eq, List.length_map]
  refine wpAny_bind (wpAny_newList ?_ (by rw [hvl, sizeLine_eq]; omega))
  have hoL : (s1.heap.push (seqObj "list" vs.toArray 0)).get? s1.heap.objs.size = some (seqObj "list" vs.toArray 0) := Heap.get?_push_size _ rfl
  have rd : ∀ q ∈ L1, Reads (s1.heap.push (seqObj "list" vs.toArray 0)) (.ref q.1) q.2.data [] := fun q hq =>
    PyProof.Rows.Reads.keeps (fun b o e => Heap.get?_push_of_some _ (k1 b o e)) (hr q (p1.mem_iff.mp hq)).2.1
  have each : ∀ l : List (Addr × NestedKey), (∀ q ∈ l, q ∈ L1) → PySem.W.EachIs (fun v q => v = Value.ref q.1 ∧ q ∈ L1) (l.map fun q => Value.ref q.1) l := by
    intro l
    induction l with
    | nil => intro _; exact .nil
    | cons q l ih => intro hm; exact .cons ⟨rfl, hm q List.mem_cons_self⟩ (ih fun r hr => hm r (List.mem_cons_of_mem _ hr))
  have ee := each L1 fun _ h => h
  rw [← e1] at ee
  have hrow : ∀ q ∈ L1, isRow q.2 = true := fun q hq => (hr q (p1.mem_iff.mp hq)).1
  refine wpAny_bind (wpAny_holding (PySem.W.list_sort_data (A := X.A.in1) (s := { s1 with heap := s1.heap.push (seqObj "list" vs.toArray 0) }) (R := fun v q => v = Value.ref q.1 ∧ q ∈ L1) (enc := fun q : Addr × NestedKey => q.2.data) hoL ee
    (ee.mono fun v q ⟨e, hq⟩ => ⟨[], by rw [e]; exact rd q hq, by simp⟩) ?_ (.inl ?_) (by rw [p1.length_eq, sizeLine_eq]; omega) (fun q hq => ?_) fun out hlen hout => ?_))
  · intro x hx y hy
    obtain ⟨q, hq, rfl⟩ := List.mem_map.mp hx
    obtain ⟨r, hr, rfl⟩ := List.mem_map.mp hy
    exact hal q (p1.mem_iff.mp hq) r (p1.mem_iff.mp hr)
  · intro x hx
    obtain ⟨q, hq, rfl⟩ := List.mem_map.mp hx
    have z := hrow q hq
    unfold isRow at z
    split at z
    · rename_i k0 ks0 e
      exact ⟨k0.data, NestedKey.datas ks0, by rw [e, NestedKey.data, NestedKey.datas]⟩
    · cases z
  · have z := hrow q hq
    unfold isRow at z
    split at z
    · rename_i k0 ks0 e
      have : q.2.depth ≤ 8 := by rw [e]; simpa using z
      rw [depth_data]
      simp only [Around.in1_units]
      omega
    · cases z
  · have srt : (L1.mergeSort (PySem.W.dataLe false fun q : Addr × NestedKey => q.2.data)).map (·.2) = sortK (L.map (·.2)) := by
      have sm := PySem.W.sort_maps (r := PySem.W.dataLe false fun q : Addr × NestedKey => q.2.data) (s := kLe) (fun q : Addr × NestedKey => q.2) (l := L1) (fun _ _ _ _ => rfl)
      refine sm.trans ?_
      refine sortK_perm (p1.map (·.2)) fun x hx y hy => ?_
      obtain ⟨q, hq, rfl⟩ := List.mem_map.mp hx
      obtain ⟨r, hr, rfl⟩ := List.mem_map.mp hy
      exact hal q (p1.mem_iff.mp hq) r (p1.mem_iff.mp hr)
    generalize hL2 : L1.mergeSort (PySem.W.dataLe false fun q : Addr × NestedKey => q.2.data) = L2 at hout srt
    have mem2 : ∀ q ∈ L2, q ∈ L := fun q hq => p1.mem_iff.mp ((List.mergeSort_perm L1 _).mem_iff.mp (by rw [hL2]; exact hq))
    have oute : out = L2.map fun q => Value.ref q.1 := by
      have : ∀ {out : List Value} {L2 : List (Addr × NestedKey)}, PySem.W.EachIs (fun v q => v = Value.ref q.1 ∧ q ∈ L1) out L2 → out = L2.map fun q => Value.ref q.1 := by
        intro out L2 h
        induction h with
        | nil => rfl
        | cons h1 _ ih => rw [h1.1, ih]; rfl
      exact this hout
    have hl2 : L2.length = L.length := by rw [← hL2, List.length_mergeSort, p1.length_eq]
    obtain ⟨c, hcc⟩ := sortedHeap_at (vs := vs) (out := out.toArray) hoL
    have hn : H s1.heap.objs.size = none := I.hok.fresh hz
    have kk : ∀ b u, s.heap.get? b = some u → (sortedHeap (s1.heap.push (seqObj "list" vs.toArray 0)) s1.heap.objs.size vs out.toArray).get? b = some u := fun b u e => by
      have q := k1 b u e
      have hlt := Heap.lt_size q
      rw [sortedHeap_old (Nat.ne_of_lt hlt) (by rw [size_push']; exact Nat.lt_succ_of_lt hlt)]
      exact Heap.get?_push_of_some _ q
    have rp : Reps X.K H μ ((sortK (L.map (·.2))).map unkey) (L2.map fun q => V.ref q.1) := by
      rw [← srt]
      exact reps_of fun p hp => (hr p (mem2 p hp)).2.2
    have vl : Vals (L2.map fun q => V.ref q.1) out := by
      rw [oute]
      clear srt hL2 rp mem2 hl2 oute hout
      induction L2 with
      | nil => exact .nil
      | cons q l ih => exact .cons rfl ih
    have J : Inv X pins σ (upd H s1.heap.objs.size (.lst (L2.map fun q => V.ref q.1))) { s with heap := sortedHeap (s1.heap.push (seqObj "list" vs.toArray 0)) s1.heap.objs.size vs out.toArray, gens := s1.gens, drawn := s1.drawn, toks := s1.toks } :=
      I.call (ch := []) (Un.laid kk hz hn) (I.hok.laid kk hz ⟨by rw [List.length_map, hl2, sizeLine_eq]; omega, out, c, vl, hcc⟩) (by rw [g1]; exact I.bare) (fun _ z => nomatch z)
    have e : { s1 with heap := sortedHeap (s1.heap.push (seqObj "list" vs.toArray 0)) s1.heap.objs.size vs out.toArray } = { s with heap := sortedHeap (s1.heap.push (seqObj "list" vs.toArray 0)) s1.heap.objs.size vs out.toArray, gens := s1.gens, drawn := s1.drawn, toks := s1.toks } := by
      cases s1
      cases s
      cases o1
      rfl
    refine wpAny_pure ⟨_, rfl, ?_⟩
    show EP X pins σ Q _ { s1 with heap := sortedHeap (s1.heap.push (seqObj "list" vs.toArray 0)) s1.heap.objs.size vs out.toArray }
    rw [e]
    exact ⟨.ref s1.heap.objs.size, _, J, rfl, h _ _ hn rp⟩
theorem okK {ks : List NestedKey} (h : okKeys ks = true) : ks.length < 64 ∧ (ks.all isNum = true ∨ (ks.all isRow = true ∧ ∀ a ∈ ks, ∀ b ∈ ks, PySem.W.alike a.data b.data = true)) := by
  unfold okKeys at h
  rw [Bool.and_eq_true, Bool.or_eq_true, Bool.and_eq_true, decide_eq_true_eq] at h
  refine ⟨h.1, h.2.imp id fun z => ⟨z.1, fun a ha b hb => ?_⟩⟩
  exact List.all_eq_true.mp (List.all_eq_true.mp z.2 a ha) b hb
theorem alike_num {ks : List NestedKey} (h : ks.all isNum = true) : ∀ a ∈ ks, ∀ b ∈ ks, PySem.W.alike a.data b.data = true := fun a ha b hb => by
  have h1 := List.all_eq_true.mp h a ha
  have h2 := List.all_eq_true.mp h b hb
  cases a <;> cases b <;> simp_all [isNum, NestedKey.data, PySem.W.alike]
/-- sorted(set(x)): the two calls, one behind the other -/
theorem sset_run {X : Cx} {pins : List (Addr × Obj)} {σ : L2.St} {H : L2.Hp} {s : Shared} {μ : List Addr} {q : Addr} {vs : List V} {ds es : List D} {Q : VK} (I : Inv X pins σ H s) (hc : X.calm = true) (hu : X.A.units + 64 < cLine) (hq : SqT X.K H q vs ∨ SqL X.K H q vs) (hv : Reps X.K H μ ds vs) (he : setSort ds = some es)
    (h : ∀ p ws, H p = none → Reps X.K H μ es ws → Q (.ref p) (upd H p (.lst ws))) :
    wpAny (model X.prog X.w) X.A (call (.type "set") [.ref q]) (fun v s' => wpAny (model X.prog X.w) X.A (call (.builtin "sorted") [v]) (EP X pins σ Q) X.xe s') X.xe s := by
  unfold setSort at he
  cases e1 : nkeys ds with
  | none => rw [e1] at he; cases he
  | some ks =>
    rw [e1] at he
    dsimp only at he
    split at he
    · rename_i ok
      cases he
      obtain ⟨hl, ok⟩ := okK ok
      have hd := I.ok.hd hc
      have src : ∃ its, Vals vs its ∧ (s.heap.IsTuple q its.toArray ∨ s.heap.IsList q its.toArray) := by
        rcases hq with hq | hq
        · obtain ⟨its, rv, tp, hz⟩ := I.tuple hq; exact ⟨its, rv, .inl tp⟩
        · obtain ⟨its, rv, tp, hz⟩ := I.list hq; exact ⟨its, rv, .inr tp.isList⟩
      obtain ⟨its, rv, src⟩ := src
      rcases ok with ok | ⟨ok, al⟩
      · obtain ⟨ns, n1, rfl⟩ := ints_keys e1 ok hv rv
        rw [List.length_map] at hl
        have fin : ∀ h' tk, ((∃ c, c ≤ ns.length ∧ SetR X.w h' s.heap.objs.size (fun j => decide (j ∈ ns)) c) ∧ ∀ b o, s.heap.get? b = some o → h'.get? b = some o) →
            wpAny (model X.prog X.w) X.A (call (.builtin "sorted") [.ref s.heap.objs.size]) (EP X pins σ Q) X.xe { s with heap := h', toks := tk } := by
          rintro h' tk ⟨⟨c, hcl, R⟩, hk⟩
          have I1 : Inv X pins σ H { s with heap := h', toks := tk } := I.kept hk
          refine sorted_set R hd (by omega) fun s' p out c ns' k g o hp hg hi hs hm hlen => ?_
          have hn : H p = none := I1.hok.fresh hp
          have J : Inv X pins σ (upd H p (.lst (ns'.map V.int))) { s with heap := s'.heap, gens := s'.gens, drawn := s'.drawn, toks := s'.toks } :=
            Inv.call (s := { s with heap := h', toks := tk }) (ch := []) I1 (Un.laid (h := h') k hp hn) (I1.hok.laid k hp ⟨by rw [List.length_map, hlen, sizeLine_eq]; omega, out.toList, c, vals_of_ints hi, hg⟩) (by rw [g]; exact I.bare) (fun _ z => nomatch z)
          have e : s' = { s with heap := s'.heap, gens := s'.gens, drawn := s'.drawn, toks := s'.toks } := by
            cases s'
            cases s
            cases o
            rfl
          rw [e]
          refine ⟨.ref p, _, J, rfl, h p _ hn ?_⟩
          have : sortK (dedupK (ns.map NestedKey.num)) = ns'.map NestedKey.num := by
            refine sortK_unique ?_ (fun a ha b hb => alike_num ok a (mem_dedupK.mp ha) b (mem_dedupK.mp hb)) (List.pairwise_map.mpr (hs.imp fun {a b} z => by rw [kLe_num]; exact decide_eq_true (Int.le_of_lt z)))
            refine (List.perm_ext_iff_of_nodup (nodup_dedupK _) (List.pairwise_map.mpr (hs.imp fun {a b} z e => by injection e with e; omega))).mpr fun x => ?_
            rw [mem_dedupK]
            constructor
            · intro hx
              obtain ⟨i, hi, rfl⟩ := List.mem_map.mp hx
              exact List.mem_map_of_mem ((hm i).mpr (decide_eq_true hi))
            · intro hx
              obtain ⟨i, hi, rfl⟩ := List.mem_map.mp hx
              exact List.mem_map_of_mem (of_decide_eq_true ((hm i).mp hi))
          rw [this, List.map_map]
          have := reps_ints (K := X.K) (H := H) (μ := μ) ns'
          exact this
        rcases src with src | src
        · exact make_setT src (fillsI_tup ns (by simp [hd]) src (by simpa using n1) (by unfold scanBound; omega)) fin
        · exact make_setL src (fillsI_list ns (by simp [hd]) src (by simpa using n1) (by unfold scanBound; omega)) fin
      · obtain ⟨ps, p1, p2, p3⟩ := zip_keys I e1 ok hv rv
        subst p2
        rw [List.length_map] at hl
        have fin : ∀ h' tk, ((∃ L es ep t, NSet X.w h' s.heap.objs.size L es ep t ∧ Met ps ps.length L) ∧ ∀ b o, s.heap.get? b = some o → h'.get? b = some o) →
            wpAny (model X.prog X.w) X.A (call (.builtin "sorted") [.ref s.heap.objs.size]) (EP X pins σ Q) X.xe { s with heap := h', toks := tk } := by
          rintro h' tk ⟨⟨L, es, ep, t, R, g⟩, hk⟩
          have I1 : Inv X pins σ H { s with heap := h', toks := tk } := I.kept hk
          have sub : ∀ p ∈ L, p ∈ ps := fun p hp => List.mem_of_mem_take (g.sub p hp)
          refine sorted_nset I1 hc hu R (fun p hp => ⟨List.all_eq_true.mp ok _ (List.mem_map_of_mem (sub p hp)), PyProof.Rows.Reads.keeps hk (p3 p (sub p hp)).2.1, (p3 p (sub p hp)).2.2⟩)
            (fun p hp r hr => al _ (List.mem_map_of_mem (sub p hp)) _ (List.mem_map_of_mem (sub r hr))) fun p ws hn rp => h p ws hn ?_
          have : sortK (dedupK (ps.map (·.2))) = sortK (L.map (·.2)) := by
            refine sortK_perm ((List.perm_ext_iff_of_nodup (nodup_dedupK _) R.dif).mpr fun x => ?_) fun a ha b hb => al a (mem_dedupK.mp ha) b (mem_dedupK.mp hb)
            rw [mem_dedupK]
            constructor
            · intro hx
              obtain ⟨p, hp, rfl⟩ := List.mem_map.mp hx
              exact g.all p (by rw [List.take_length]; exact hp)
            · intro hx
              obtain ⟨p, hp, rfl⟩ := List.mem_map.mp hx
              exact List.mem_map_of_mem (sub p hp)
          rw [this]
          exact rp
        rcases src with src | src
        · exact make_setT src (fillsK_tup ps (by simp [hd]) src (by simpa using p1) (fun p hp => (p3 p hp).1) hl (by simp only [Around.in1_units]; omega)) fin
        · exact make_setL src (fillsK_list ps (by simp [hd]) src (by simpa using p1) (fun p hp => (p3 p hp).1) hl (by simp only [Around.in1_units]; omega)) fin
    · cases he
theorem pl_sset {X : Cx} {c : Cm} {lv : Nat} {E : XK} {g : Gs} {a : Expr} {ma : M D} {p p2 q pos : Pos} (k : Cok g c lv E X) (hg : g.sc.names.lookup ("sorted" : Str) = some .globalImplicit) (hb : ("sorted" : Str) ∈ g.bis) (hg2 : g.sc.names.lookup ("set" : Str) = some .globalImplicit) (hb2 : ("set" : Str) ∈ g.bis)
    (ha : PEd X c E a ma) (na : starEach [a] X.env = [(false, eval a X.env)]) : PLd X c E (.Call (.Name "sorted" p) [.Call (.Name "set" p2) [a] [] q] [] pos) (lSset ma) := by
  refine ⟨fun pins s σ H Q I h => ?_⟩
  refine Call_ (ld_blt I (by unfold Gl Env.kindOf; rw [k.sc]; exact hg) (k.bi _ hb) (show bootBuiltins ("sorted" : Str) = some (.builtin "sorted") by decide +kernel) ?_)
  refine PyProof.Rows.callWith_builtin1 (PyProof.Rows.args_cons ?_ rfl) rfl rfl
  refine Call_ (ld_blt I (by unfold Gl Env.kindOf; rw [k.sc]; exact hg2) (k.bi _ hb2) boot_set ?_)
  have na2 : starEach [a] X.env = (false, eval a X.env) :: starEach [] X.env := by rw [na]; rfl
  obtain ⟨μ, S, ρ, hS, hρ, h⟩ := h
  refine PyProof.Rows.callWith_type1 (PyProof.Rows.args_cons (thn (ha.run pins s σ H (fun x H1 => ∃ l vs ds es μ1, x = .ref l ∧ (SqT X.K H1 l vs ∨ SqL X.K H1 l vs) ∧ Reps X.K H1 μ1 ds vs ∧ setSort ds = some es ∧ ∀ p ws, H1 p = none → Reps X.K H1 μ1 es ws → Q (.ref p) (upd H1 p (.lst ws))) I ?_)
    fun v s1 ⟨x, H1, I1, r1, q1⟩ => PyProof.Rows.args_nil ?_) na2) na2 rfl
  · refine ⟨μ, S, ρ, hS, hρ, (Fine.bind h).mono fun x S1 ν H1 l s1 h1 v hv => ?_⟩
    generalize hμ1 : μ ++ ν = μ1 at s1 h1 hv
    cases e : itemsOf x S1 with
    | none => simp only [e] at h1; exact h1.elim
    | some ds =>
      simp only [e] at h1
      cases e2 : setSort ds with
      | none => simp only [e2] at h1; exact h1.elim
      | some es =>
        simp only [e2] at h1
        obtain ⟨l2, vs, rfl, hq, hvs⟩ := items_sq s1 hv e
        refine ⟨l2, vs, ds, es, μ1, rfl, hq, hvs, e2, fun p ws hp hw => ?_⟩
        have lt := Ltr.tmp (μ := μ1) (o := .lst ws) hp
        exact (show Fine X.K c.cl E μ1 H1 (.ok es S1) _ from h1) [] _ lt (by simpa using s1.tmp hp) p ws (l.was hp) upd_same (by simpa using s1.not hp) (by simpa using Reps.later (ν := []) lt.kp _ _ hw)
  · obtain ⟨l, vs, ds, es, μ1, rfl, hq, hv, he, hQ⟩ := q1
    cases r1
    refine thn (sset_run I1 k.calm (by have := (k.room.mono (Nat.zero_le _)).units; omega) hq hv he hQ) fun v s2 hv2 => ?_
    exact PyProof.Rows.args_nil hv2
end Rf
end

section
set_option Elab.async false
set_option linter.all false
set_option maxRecDepth 100000
set_option maxHeartbeats 4000000
/-! Rf, part P: what is not read, in, t[::-1], blocks, defs by their bodies, the law's end. -/
namespace Rf
open PySem PySem.Spec PyProof.Rows L2

section
variable {X : Cx} {c : Cm} {lv : Nat} {E : XK} {g : Gs} {a b e : Expr} {es : List Expr} {ma mb me : M D} {ms : M (List D)} {pos p : Pos}
/-! ### not read: never come to -/
theorem pd_bad : PEd X c E e M.bad := ⟨fun pins s σ H Q I h => by obtain ⟨μ, S, ρ, _, _, h⟩ := h; exact (show False from h).elim⟩
theorem pl_bad : PLd X c E e M.bad := ⟨fun pins s σ H Q I h => by obtain ⟨μ, S, ρ, _, _, h⟩ := h; exact (show False from h).elim⟩
theorem pt_bad : PTd X c E e M.bad := ⟨fun pins s σ H Q I h => by obtain ⟨μ, S, ρ, _, _, h⟩ := h; exact (show False from h).elim⟩
theorem pw_bad : PWd X c E e M.bad := ⟨fun wh pins s σ H Q I h => by obtain ⟨μ, S, ρ, _, _, h⟩ := h; exact (show False from h).elim⟩
theorem pa_bad : PAd X c E es M.bad := ⟨fun pos pins s σ H Q I h => by obtain ⟨μ, S, ρ, _, _, h⟩ := h; exact (show False from h).elim⟩
theorem ps_bad {st : Stmt} : PSd X c E st M.bad := ⟨fun pins s σ H D I h => by obtain ⟨μ, S, ρ, _, _, h⟩ := h; exact (show False from h).elim⟩
theorem pss_bad {st : List Stmt} : PSsd X c E st M.bad := ⟨fun pins s σ H D I h => by obtain ⟨μ, S, ρ, _, _, h⟩ := h; exact (show False from h).elim⟩

/-! ### in -/
def inQ (neg : Bool) : OpD := fun a b S => match toQ 30 S a, toQ 30 S b with
  | some p, some (.list ps) => if SeqAt.shaped p = true ∧ SeqAt.shaped (.list ps) = true then .ok (.bl (neg ^^ ps.any fun z => PyData.eqv z p)) S else .bad
  | some p, some (.tuple ps) => if SeqAt.shaped p = true ∧ SeqAt.shaped (.list ps) = true then .ok (.bl (neg ^^ ps.any fun z => PyData.eqv z p)) S else .bad
  | _, _ => .bad
theorem od_in (hr : Room 0 X.A) : OpR X (compareOp .In) (rOp X.K c.cl E (inQ false)) := by
  intro pins s σ H x y v u Q I rx ry h
  obtain ⟨μ, S, a, b, hS, hx, hy, h⟩ := h
  have hu := hr.un
  unfold inQ at h
  split at h
  · rename_i q1 q2 q3 e1 e2
    split at h
    · rename_i hz
      obtain ⟨as, r1⟩ := Dp.reads I _ x v (toQ_dp hS 30 _ _ _ e1 hx) rx
      obtain ⟨bs, r2⟩ := Dp.reads I _ y u (toQ_dp hS 30 _ _ _ e2 hy) ry
      exact SeqAt.in_list_reads r2 r1 (SeqAt.canLay_of_shaped hz.2) (SeqAt.canLay_of_shaped hz.1) (room_in_shaped hz.1 (by omega)) ⟨.bl _, H, I, rfl, h.now hS _ (by simp only [Rep, Bool.false_xor])⟩
    · exact h.elim
  · rename_i q1 q2 q3 e1 e2
    split at h
    · rename_i hz
      obtain ⟨as, r1⟩ := Dp.reads I _ x v (toQ_dp hS 30 _ _ _ e1 hx) rx
      obtain ⟨bs, r2⟩ := Dp.reads I _ y u (toQ_dp hS 30 _ _ _ e2 hy) ry
      exact SeqAt.in_tuple_reads r2 r1 (SeqAt.canLay_of_shaped hz.2) (SeqAt.canLay_of_shaped hz.1) (room_in_shaped hz.1 (by omega)) ⟨.bl _, H, I, rfl, h.now hS _ (by simp only [Rep, Bool.false_xor])⟩
    · exact h.elim
  · exact h.elim
theorem od_notin (hr : Room 0 X.A) : OpR X (compareOp .NotIn) (rOp X.K c.cl E (inQ true)) := by
  intro pins s σ H x y v u Q I rx ry h
  obtain ⟨μ, S, a, b, hS, hx, hy, h⟩ := h
  have hu := hr.un
  unfold inQ at h
  split at h
  · rename_i q1 q2 q3 e1 e2
    split at h
    · rename_i hz
      obtain ⟨as, r1⟩ := Dp.reads I _ x v (toQ_dp hS 30 _ _ _ e1 hx) rx
      obtain ⟨bs, r2⟩ := Dp.reads I _ y u (toQ_dp hS 30 _ _ _ e2 hy) ry
      exact SeqAt.notIn_list_reads r2 r1 (SeqAt.canLay_of_shaped hz.2) (SeqAt.canLay_of_shaped hz.1) (room_in_shaped hz.1 (by omega)) ⟨.bl _, H, I, rfl, h.now hS _ (by simp only [Rep, Bool.true_xor])⟩
    · exact h.elim
  · rename_i q1 q2 q3 e1 e2
    split at h
    · rename_i hz
      obtain ⟨as, r1⟩ := Dp.reads I _ x v (toQ_dp hS 30 _ _ _ e1 hx) rx
      obtain ⟨bs, r2⟩ := Dp.reads I _ y u (toQ_dp hS 30 _ _ _ e2 hy) ry
      exact SeqAt.notIn_tuple_reads r2 r1 (SeqAt.canLay_of_shaped hz.2) (SeqAt.canLay_of_shaped hz.1) (room_in_shaped hz.1 (by omega)) ⟨.bl _, H, I, rfl, h.now hS _ (by simp only [Rep, Bool.true_xor])⟩
    · exact h.elim
  · exact h.elim
end

/-! ### t[::-1], xs[::-1] -/
section
variable {prog : Program} {w : World} {A : Around} {E : Value → Shared → Prop} {s : Shared}
theorem slice_back {sl : Addr} {vl vu vs : Value} {n : Nat} {Q : Int × Int × Nat → Shared → Prop} (hs : s.heap.IsSliceOf sl vl vu vs) (pl : IsPart vl none) (pu : IsPart vu none) (ps : IsPart vs (some (-1)))
    (h : Q ((n : Int) - 1, -1, n) s) : wpAny (model prog w) A (Builtin.Slice.sliceApplied (.ref sl) (pure (n : Int))) Q E s := by
  obtain ⟨os, hos, hcs, hds⟩ := id hs
  unfold Builtin.Slice.sliceApplied Builtin.Slice.sliceFields
  refine wpAny_bind (wpAny_bind (wpAny_field hos hds (x := vl) rfl (wpAny_bind (wpAny_field hos hds (x := vu) rfl (wpAny_bind (wpAny_field hos hds (x := vs) rfl (wpAny_pure ?_)))))))
  refine wpAny_bind (HT.slicePart_ ps ?_)
  show wpAny _ _ (if ((-1 : Int) == 0) = true then _ else _) _ _ s
  rw [if_neg (by decide)]
  refine wpAny_bind (HT.slicePart_ pl (wpAny_bind (HT.slicePart_ pu (wpAny_bind (wpAny_pure ?_)))))
  have e : Builtin.Slice.slicePlaces ((n : Int) - 1) (-1) (-1) = n := by
    unfold Builtin.Slice.slicePlaces
    rw [if_neg (by decide)]
    by_cases hn : n = 0
    · subst hn; rfl
    · rw [if_pos (by omega), show (-(-1) : Int) = 1 by decide, Int.ediv_one]; omega
  show wpAny _ _ (pure ((n : Int) - 1, (-1 : Int), Builtin.Slice.slicePlaces ((n : Int) - 1) (-1) (-1))) _ _ s
  rw [e]
  exact wpAny_pure h
theorem fmap_congr {α β : Type} {f g : α → Option β} : ∀ {l : List α}, (∀ x ∈ l, f x = g x) → l.filterMap f = l.filterMap g
  | [], _ => rfl
  | x :: l, h => by
    have ih := fmap_congr (f := f) (g := g) (l := l) fun y hy => h y (List.mem_cons_of_mem _ hy)
    rw [List.filterMap_cons, List.filterMap_cons, h x List.mem_cons_self, ih]
theorem back_pick (xs : Array Value) : ((List.range xs.size).filterMap fun (k : Nat) => xs[((xs.size : Int) - 1 + (k : Int) * (-1)).toNat]?).toArray = xs.toList.reverse.toArray := by
  have e : (List.range xs.size).filterMap (fun (k : Nat) => xs[((xs.size : Int) - 1 + (k : Int) * (-1)).toNat]?) = ((List.range xs.size).map fun k => xs.size - 1 - k).filterMap (xs[·]?) := by
    rw [List.filterMap_map]
    refine fmap_congr fun k hk => ?_
    have := List.mem_range.mp hk
    show xs[((xs.size : Int) - 1 + (k : Int) * (-1)).toNat]? = xs[xs.size - 1 - k]?
    rw [show ((xs.size : Int) - 1 + (k : Int) * (-1)).toNat = xs.size - 1 - k by omega]
  rw [e, PySem.W.krv_range, List.filterMap_reverse, PySem.W.krv_all]
theorem getItem_back {t sl : Addr} {items : Array Value} {vl vu vs : Value} {Q : Value → Shared → Prop} (ht : IsTup s.heap t items) (hs : s.heap.IsSliceOf sl vl vu vs) (pl : IsPart vl none) (pu : IsPart vu none) (ps : IsPart vs (some (-1)))
    (h : Q (.ref s.heap.objs.size) { s with heap := s.heap.push { cls := .type "tuple", data := .seq items.toList.reverse.toArray } }) (hsz : items.size ≤ sizeLine) : wpAny (model prog w) A (getItem (.ref t) (.ref sl)) Q E s := by
  have htake : sizeOk (.seq items.toList.reverse.toArray) := by
    show items.toList.reverse.toArray.size ≤ sizeLine
    rw [List.size_toArray, List.length_reverse, Array.length_toList]; exact hsz
  obtain ⟨os, hos, hcs, hds⟩ := id hs
  have hTs : s.TypeIs (.ref sl) "slice" := ⟨os, hos, hcs⟩
  unfold getItem
  try with_reducible refine wpAny_holding ?_
  first | refine wpAny_bind (wpAny_pure ?_) | skip
  refine wpAny_bind (wpAny_sequenceKey ht.typeIs (by decide) ?_)
  refine wpAny_bind (wpAny_callSpecial?_slot (name := Str.ofString "__getitem__") ht.typeIs PyProof.Rows.slot_tuple_getitem
    (wpAny_call_entry PyProof.Rows.slot_tuple_getitem ht.typeIs entry_tuple_getitem ?_ (args_tuple_getitem _ _)))
  show wpAny _ _ (Builtin.Tuple.tupleItemsOf (.ref t) >>= _) _ _ s
  refine wpAny_bind (tupleItemsOf_ ht ?_)
  refine wpAny_bind (wpAny_typeOf hTs ?_)
  rw [if_pos (by decide)]
  refine wpAny_bind (slice_back hs pl pu ps ?_)
  have hno : ¬ ((((items.size : Int) - 1) == 0 && (-1 : Int) == 1 && items.size == items.size) = true) := by simp
  show wpAny _ _ (if (((items.size : Int) - 1) == 0 && (-1 : Int) == 1 && items.size == items.size) = true then _ else _) _ _ s
  rw [if_neg hno, back_pick]
  first
    | exact wpAny_bind (m := Builtin.Tuple.tupleExact _) (wpAny_newObj_type (wpAny_pure ⟨_, rfl, wpAny_pure h⟩) htake)
    | exact wpAny_bind (m := Builtin.Tuple.tupleExact _) (wpAny_newObj_type (wpAny_bind (wpAny_pure (wpAny_pure ⟨_, rfl, wpAny_pure h⟩))) htake)
    | exact wpAny_bind (wpAny_bind (m := Builtin.Tuple.tupleExact _) (wpAny_newObj_type (wpAny_pure (wpAny_pure ⟨_, rfl, wpAny_pure h⟩)) htake))
    | exact wpAny_bind (wpAny_bind (m := Builtin.Tuple.tupleExact _) (wpAny_newObj_type (wpAny_pure ⟨_, rfl, wpAny_pure h⟩) htake))
end
/-- t[::-1] of a tuple -/
def mBack (m : M D) : M D := m.bind fun d => match d with
  | .tup ds => M.ret (.tup ds.reverse)
  | _ => M.bad
theorem pd_back {X : Cx} {c : Cm} {E : XK} {a : Expr} {ma : M D} {k : Nat} {p1 p2 p3 pos : Pos} (ha : PEd X c E a ma) :
    PEd X c E (.Subscript a (.Slice none none (some (.UnaryOp .USub (.Constant (.int 1) k p1) p2)) p3) pos) (mBack ma) := by
  refine ⟨fun pins s σ H Q I h => ?_⟩
  obtain ⟨μ, S, ρ, hS, hρ, h⟩ := h
  refine Subscript_ (thn (ha.run pins s σ H (fun x H1 => ∃ q vs ds S1 μ1, x = .ref q ∧ H1 q = some (.tup vs) ∧ RepS X.K H1 μ1 S1 ∧ Reps X.K H1 μ1 ds vs ∧ Fine X.K c.cl E μ1 H1 (.ok (D.tup ds.reverse) S1) fun d _ μ' H' => ∀ v, Rep X.K H' μ' d v → Q v H') I ?_) fun v s1 ⟨x, H1, I1, r1, q1⟩ => ?_)
  · refine tD_bind hS hρ h fun x S1 μ1 H1 v s1 r1 hv _ h1 => ?_
    cases x with
    | tup ds =>
      simp only [Rep] at hv
      obtain ⟨q, vs, rfl, w1, w2⟩ := hv
      exact ⟨q, vs, ds, S1, μ1, rfl, w1, s1, w2, h1⟩
    | _ => exact (show False from h1).elim
  obtain ⟨q, vs, ds, S1, μ1, rfl, hq, hS1, hv, qq⟩ := q1
  cases r1
  have hst : PO X (some (.UnaryOp .USub (.Constant (.int 1) k p1) p2)) (tPart (tUn (rU fun i => .int (-i)) (tC (.int 1)))) := L2.po_some (pe_un un_neg pe_int)
  refine wpAny_Slice (thn (po_none.run pins s1 σ H1 (fun o H2 => o = none ∧ H2 = H1) I1 ⟨rfl, rfl⟩) fun vl s2 ⟨l, H2, I2, pl, el, e2⟩ => ?_)
  subst el e2
  refine thn (po_none.run pins s2 σ H2 (fun o H3 => o = none ∧ H3 = H2) I2 ⟨rfl, rfl⟩) fun vu s3 ⟨u, H3, I3, pu, eu, e3⟩ => ?_
  subst eu e3
  refine thn (hst.run pins s3 σ H3 (fun o H4 => o = some (-1) ∧ H4 = H3) I3 ⟨1, rfl, -1, rfl, rfl, rfl⟩) fun vt s4 ⟨o, H4, I4, ps, eo, e4⟩ => ?_
  subst eo e4
  have I5 : Inv X pins σ H4 { s4 with heap := s4.heap.push { cls := .type "slice", data := .fields #[vl, vu, vt] } } := I4.kept (t' := s4.toks) fun b ob q => Heap.get?_push_of_some _ q
  obtain ⟨its, r, ht, hz⟩ := I5.tuple (SqT.of hq)
  show wpAny (model X.prog X.w) X.A (subscriptTail a (.Slice none none (some (.UnaryOp .USub (.Constant (.int 1) k p1) p2)) p3) (.ref q) (.ref s4.heap.objs.size)) (EP X pins σ Q) X.xe { s4 with heap := s4.heap.push { cls := .type "slice", data := .fields #[vl, vu, vt] } }
  refine tail_any (ops := [.ref q, .ref s4.heap.objs.size]) ht.typeIs (PyProof.Rows.slot_tuple_getitem.lookup) ?_ (by with_unfolding_all rfl)
  refine getItem_back ht (Heap.IsSliceOf.new _ vl vu vt) pl pu ps ?_ (by rw [List.size_toArray, ← r.length]; exact hz)
  have hn : H4 (s4.heap.push { cls := .type "slice", data := .fields #[vl, vu, vt] }).objs.size = none := I5.hok.fresh (Nat.le_refl _)
  refine ⟨.ref _, _, I5.laid (t' := s4.toks) (o := .tup vs.reverse) (fun b ob q => Heap.get?_push_of_some _ q) (Nat.le_refl _) ?_, rfl, ?_⟩
  · exact ⟨by rw [List.length_reverse]; exact hz, its.reverse, r.reverse, ⟨_, Heap.get?_push_size _ rfl, rfl, 0, by simp⟩⟩
  · refine qq.tmp hS1 hn _ ?_
    simp only [Rep]
    exact ⟨_, vs.reverse, rfl, upd_same, by simpa using Reps.later (ν := []) (Ltr.tmp (μ := μ1) hn).kp _ _ hv.rev⟩

/-! ### the block of a comprehension -/
def Gs.blk (g : Gs) (scope : Scope) : Gs := { g with sc := relS scope g.sc, top := false }
theorem Cok.blk {X : Cx} {c : Cm} {lv : Nat} {E : XK} {g : Gs} {scope : Scope} (k : Cok g c lv E X) (hk : scope.kind = .function) (s : Shared) (H : L2.Hp) (C : Addr) (cl : List (Str × Addr)) (fp : List Addr) :
    Cok (g.blk scope) c lv E0 (X.blk s H scope (compEnvC scope cl C X.env) fp) where
  sc := by
    show relabel scope X.env = relS scope g.sc
    rw [← k.sc]; rfl
  kind := hk
  N := k.N
  nd := k.nd
  calm := k.calm
  room := k.room
  gd := k.gd
  po := PassesOwn.never
  px := fun pins σ H s e s' I h => by
    obtain ⟨a, B, H', cls, d, _, _, _, _, _, _, _, h⟩ := h
    exact h
  top := fun h => by cases h
  bi := k.bi
  cs := k.cs
  fn := k.fn

/-! ### defs -/
def startD (N : Nat) (ds : List D) : Ev := ds.map some ++ List.replicate (N - ds.length) none
def trimD (n : Nat) (d : D) (S : Sto) : Res D := if d.blw n = true ∧ ((S.take n).all (·.blw n)) = true then .ok d (S.take n) else .ok d S
def endD (n : Nat) : Res Out → Res D
  | .ok (.nx _) S => trimD n .non S
  | .ok (.rt d) S => trimD n d S
  | .ok _ _ => .bad
  | .exc k d S => .exc k d S
  | .bad => .bad
def runB (N : Nat) (m : MS) (c : Cm) (ds : List D) (S : Sto) : Res D := endD S.length (m c (startD N ds) S)
/-- a table of defs: parameters, slots, body; to a depth -/
abbrev Tab := List (Nat × Nat × MS)
def callK (T : Tab) (cl : Nat → Addr) (fuel : Nat) : Nat → Nat → List D → Sto → Res D
  | 0, _, _, _ => .bad
  | k + 1, i, ds, S => match T[i]? with
    | some (np, n, m) => if ds.length = np then runB n m ⟨callK T cl fuel k, fuel, cl⟩ ds S else .bad
    | none => .bad
theorem start_rep {K : PySem.W.Frag} {H : L2.Hp} {μ : List Addr} {N : List Str} {ds : List D} {vs : List V} (h : Reps K H μ ds vs) (hn : ds.length ≤ N.length) : RepE K H μ (startD N.length ds) (L2.start N vs) := by
  have hl := h.len
  refine ⟨?_, fun i d e => ?_⟩
  · unfold L2.start startD; simp [hl]
  · unfold L2.start startD at *
    by_cases hi : i < ds.length
    · rw [List.getElem?_append_left (by simpa using hi), List.getElem?_map] at e
      cases q : ds[i]? with
      | none => rw [q] at e; cases e
      | some d' =>
        rw [q] at e
        cases e
        obtain ⟨v, h1, h2⟩ := h.getD q
        refine ⟨v, ?_, h2⟩
        rw [List.getElem?_append_left (by simp [hl]; exact hi), List.getElem?_map, h1]; rfl
    · rw [List.getElem?_append_right (by simpa using Nat.le_of_not_lt hi), List.getElem?_replicate] at e
      split at e <;> cases e
theorem fine_trim {K : PySem.W.Frag} {cl : Nat → Addr} {E : XK} {μ : List Addr} {H : L2.Hp} {n : Nat} {d : D} {S : Sto} {Q : VK} (hn : n = μ.length) (h : Fine K cl E μ H (trimD n d S) fun d _ μ' H' => ∀ v, Rep K H' μ' d v → Q v H') :
    Fine K cl E μ H (.ok d S) fun d _ μ' H' => ∀ v, Rep K H' μ' d v → Q v H' := by
  subst hn
  unfold trimD at h
  split at h
  · rename_i hb
    intro ν H' l r v hv
    have l0 : Ltr μ [] H H' := ⟨l.tup, l.frz, l.oth, l.all, fun a z => by cases z⟩
    exact h [] H' l0 (by simpa using r.cut fun o ho => List.all_eq_true.mp hb.2 o ho) v (by simpa using Rep.cut d v hb.1 hv)
  · exact h
/-- the context of a def's body -/
theorem cok_body {P : Program} {w : World} {K : PySem.W.Frag} {mg : Str → Option Value} {base : Heap} {g : Gs} {c : Cm} {k : Nat} {qual : Str} {f : Addr} {cdv : Value} {A : Around} {outer : List Env} {s : Shared} {H : L2.Hp} {E : XK} {ps : List Str}
    (S : FnScope g.N ps g.sc) (hr : Room k (A.deeper (envOfC qual g.sc s.heap.objs.size f cdv))) (hg : A.guards = some [])
    (bi : ∀ x ∈ g.bis, mg x = none) (cs : ∀ x d, g.consts.lookup x = some d → ∃ u v, mg x = some u ∧ immV d = some v ∧ RelV v u)
    (fn : ∀ x i, g.fns.lookup x = some i → ∃ f fd ps, mg x = some (.ref f) ∧ PySem.W.keepIn K (.ref f) = true ∧ Binds K fd ps [] ∧ (∀ ds S, ds.length ≠ ps.length → c.call i ds S = .bad) ∧ FnD P w K mg base c k i f fd ps) :
    Cok g c k E (cxOf (L2.CX P w) P w K mg base g.N qual g.sc f cdv A outer s H E) where
  sc := rfl
  kind := S.kind
  N := rfl
  nd := S.nd
  calm := rfl
  room := hr
  gd := hg
  po := passes_of rfl
  px := passes_call (takes_of (E₁ := fun e' s'' => L2.CX P w outer H s E e' s'') rfl rfl rfl rfl) fun _ _ _ _ h => h
  top := fun _ _ => rfl
  bi := bi
  cs := cs
  fn := fn
/-- a def, by what its body computes -/
theorem fnD_of {P : Program} {w : World} {K : PySem.W.Frag} {mg : Str → Option Value} {base : Heap} {g : Gs} {c : Cm} {T : Tab} {k i : Nat} {x qual : Str} {params : Arguments} {body : List Stmt} {f : Addr} {fd : FuncData} {ps : List Str} {m : MS} {fuel : Nat} {cl : Nat → Addr}
    (F : FunD K x qual params body g.sc [] [] f fd) (S : FnScope g.N ps g.sc) (hT : T[i]? = some (ps.length, g.N.length, m)) (hps : ps.length ≤ g.N.length)
    (hm : ∀ X E, X.prog = P → X.w = w → Cok g ⟨callK T cl fuel k, fuel, cl⟩ k E X → PSsd X ⟨callK T cl fuel k, fuel, cl⟩ E body m)
    (bi : ∀ x ∈ g.bis, mg x = none) (cs : ∀ x d, g.consts.lookup x = some d → ∃ u v, mg x = some u ∧ immV d = some v ∧ RelV v u)
    (fn : ∀ x i, g.fns.lookup x = some i → ∃ f fd ps, mg x = some (.ref f) ∧ PySem.W.keepIn K (.ref f) = true ∧ Binds K fd ps [] ∧ (∀ ds S, ds.length ≠ ps.length → callK T cl fuel k i ds S = .bad) ∧ FnD P w K mg base ⟨callK T cl fuel k, fuel, cl⟩ k i f fd ps) :
    FnD P w K mg base ⟨callK T cl fuel (k + 1), fuel, cl⟩ (k + 1) i f fd ps := by
  obtain ⟨oc, od, dV, kV, doc, pm, an, cdv, ct, osl, rfl, lk, hcd, _, _⟩ := F.ex
  refine ⟨fun A outer s H args us vs Q E μ S0 ds hr hg e0 hb r hl hS hv hq => ?_⟩
  have KX : K.In s.heap := e0.mod.kin.keeps fun b o e => (e0.bs b o e).1
  have lim : s.heap.NoLimit := e0.mod.nolimit.keeps fun b o e => (e0.bs b o e).1
  have hkind : ∀ y ∈ ps.zip us, g.sc.names.lookup y.1 = some .local ∨ (g.sc.names.lookup y.1 = some .cell ∧ ((cellsFrom (s.heap.objs.size + 1) g.sc.names []).lookup y.1).isSome = true) := fun ⟨n, v⟩ hy => by
    rcases S.par n (List.of_mem_zip hy).1 with q | q
    · exact .inl q
    · exact .inr ⟨q, PySem.W.cellsFrom_some _ _ _ (.inl q)⟩
  refine codeAny_call_function hr.depth (KX _ _ lk) rfl S.co S.gen rfl (PySem.W.codeRec_of KX hcd) (hb _ _ _ _ ?_)
  refine wpAny_newFunctionEnv_cells S.kind hkind fun env he s1 x => ?_
  subst he
  refine ⟨lim.keeps x.toInCall.keep, codeAny_func ?_⟩
  have hdl : ds.length = ps.length := by rw [← hv.len]; exact hl
  have cb := cok_body (P := P) (w := w) (K := K) (mg := mg) (base := base) (c := ⟨callK T cl fuel k, fuel, cl⟩) (qual := qual) (f := f) (cdv := cdv) (A := A) (outer := outer) (s := s) (H := H) (E := E) S (hr.deeper _) hg bi cs fn
  have ht := hm _ E rfl rfl cb
  have I : Inv (cxOf (L2.CX P w) P w K mg base g.N qual g.sc f cdv A outer s H E) [] (L2.start g.N vs) H s1 := inv_start S hr.hd e0 hl r x
  have body : tS K E ⟨callK T cl fuel k, fuel, cl⟩ m { nx := fun _ H' => Q .non H', rt := Q } (L2.start g.N vs) H := by
    refine ⟨μ, S0, startD g.N.length ds, hS, start_rep hv (by omega), ?_⟩
    have hc : callK T cl fuel (k + 1) i ds S0 = runB g.N.length m ⟨callK T cl fuel k, fuel, cl⟩ ds S0 := by
      simp only [callK, hT]
      rw [if_pos hdl]
    replace hq : Fine K cl E μ H (callK T cl fuel (k + 1) i ds S0) _ := hq
    rw [hc] at hq
    unfold runB at hq
    show Fine K cl E μ H (m ⟨callK T cl fuel k, fuel, cl⟩ (startD g.N.length ds) S0) _
    cases e : m ⟨callK T cl fuel k, fuel, cl⟩ (startD g.N.length ds) S0 with
    | bad => rw [e] at hq; exact hq
    | exc n d S' => rw [e] at hq; exact hq
    | ok o S' =>
      rw [e] at hq
      cases o with
      | nx ρ =>
        have z := fine_trim hS.len.symm hq
        exact fun ν H' l s σ _ => z ν H' l s .non (by simp only [Rep])
      | rt d =>
        have z := fine_trim hS.len.symm hq
        exact fun ν H' l s v hv => z ν H' l s v hv
      | bk ρ => exact hq.elim
      | ct ρ => exact hq.elim
  refine wpAny_mono (ht.run [] s1 (L2.start g.N vs) H _ I body) (fun fl s' hs => ?_) fun e s' hs => hs
  have fin : ∀ {σ' : L2.St} {H' : L2.Hp} {v : V} {u : Value}, Inv (cxOf (L2.CX P w) P w K mg base g.N qual g.sc f cdv A outer s H E) [] σ' H' s' → RelV v u → Q v H' → CE outer P w H s Q u s' :=
    fun {σ' H' v u} J rv q => ⟨v, H', J.os, J.bare, J.base, J.hok, rv, q⟩
  cases fl with
  | ret u =>
    obtain ⟨v, σ', H', J, rv, q⟩ := hs
    exact fin J rv q
  | next =>
    obtain ⟨σ', H', J, q⟩ := hs
    exact fin (v := V.non) (u := Value.none) J rfl q
  | brk =>
    obtain ⟨_, _, _, q⟩ := hs
    exact False.elim q
  | cont =>
    obtain ⟨_, _, _, q⟩ := hs
    exact False.elim q
theorem fnD_zero {P : Program} {w : World} {K : PySem.W.Frag} {mg : Str → Option Value} {base : Heap} {T : Tab} {i : Nat} {f : Addr} {fd : FuncData} {ps : List Str} {fuel : Nat} {cl : Nat → Addr} : FnD P w K mg base ⟨callK T cl fuel 0, fuel, cl⟩ 0 i f fd ps :=
  ⟨fun _ _ _ _ _ _ _ _ _ _ _ _ _ _ _ _ _ _ _ _ h => (show False from h).elim⟩
end Rf
end

section
set_option Elab.async false
set_option linter.all false
set_option maxRecDepth 100000
set_option maxHeartbeats 4000000
/-! Rf, part Q: the law's end, for a def whose call is told by a computation. -/
namespace Rf
open PySem PySem.Spec PyProof.Rows L2

section
variable {P : Program} {w : World} {K : PySem.W.Frag} {mg mb : Str → Option Value} {c : Cm} {k i : Nat} {fa a : Addr} {fd : FuncData} {x : Str} {s₁ : Shared} {vs : List Value} {ns : List Int}
/-- at an abstract heap that tracks the script at most -/
theorem law_at {H : L2.Hp} (hok : HOk P w H s₁.heap) (hH : ∀ b u, H b = some u → b = a ∧ u = .frz { cls := .type "list", data := .seq vs.toArray } (.lst (ns.map V.int))) (hK : H a ≠ none → K.lookup a = none) (hS : Ro K H a (ns.map V.int))
    (KX : K.In s₁.heap) (hns : s₁.heap.Ns mainGlobals mg) (hb : s₁.heap.Ns builtinsNs mb) (hbb : ∀ x : Str, x ≠ "__name__" → mb x = bootBuiltins x) (hlim : s₁.heap.NoLimit) (hg : s₁.gens = #[])
    (ha : s₁.heap.get? a = some { cls := .type "list", data := .seq vs.toArray }) (hr : Room k callerA)
    (F : ∀ base : Heap, K.In base → base.Ns mainGlobals mg → FnD P w K mg base c k i fa fd [x]) (hbind : ∀ (s : Shared) (u : Value), BindsTo s fd ⟨[u], []⟩ [(x, u)]) {S' : Sto} (hT : c.call i [.rol ns] [] = .ok (.bl true) S') :
    codeAny (model P w) callerA (.call (.ref fa) ⟨[.ref a], []⟩) (fun r s' => r = .ok (.ret (.bool true)) ∧ OldK s₁.heap s'.heap ∧ s'.os = s₁.os ∧ AllBare s'.gens) s₁ := by
  have untracked : ∀ {b : Addr} {o : Obj}, s₁.heap.get? b = some o → (∀ es ep, o.data = .dict es ep → False) ∨ H b = none := fun {b o} e => by
    cases q : H b with
    | none => exact .inr rfl
    | some u =>
      obtain ⟨rfl, _⟩ := hH b u q
      rw [ha] at e; cases e
      exact .inl fun es ep d => by cases d
  have put : ∀ {b : Addr} {m : Str → Option Value}, s₁.heap.Ns b m → (hidT s₁.heap H).Ns b m := fun {b m} ⟨o, es, ep, e, d, r⟩ => ⟨o, es, ep, hidT_get e ((untracked e).resolve_left fun z => z es ep d), d, r⟩
  have hKb : K.In (hidT s₁.heap H) := fun b o e => hidT_get (KX b o e) (by
    cases q : H b with
    | none => rfl
    | some u =>
      obtain ⟨rfl, _⟩ := hH b u q
      rw [hK (by rw [q]; simp)] at e; cases e)
  have hM : Mod K mg (hidT s₁.heap H) := ⟨hKb, put hns, ⟨mb, put hb, hbb⟩, let ⟨mc, h1, h2⟩ := hlim; ⟨mc, put h1, h2⟩⟩
  have e0 : Env0 P w K mg (hidT s₁.heap H) callerA [] s₁ H := ⟨rfl, hM, fun b o e => of_hidT e, Nat.le_of_eq (hidT_size _ _), trivial, fun b hb => absurd (show b ∈ ([] : List Addr) from hb) (by simp), hok, .of_eq hg⟩
  have fine : Fine K c.cl (fun _ _ _ => False) [] H (c.call i [.rol ns] []) fun d _ μ' H' => ∀ v, Rep K H' μ' d v → v = .bl true := by
    rw [hT]
    intro ν H' l r v hv
    simpa only [Rep] using hv
  have rs : RepS K H [] [] := ⟨rfl, fun k o a h => by simp at h, fun j k a h => by simp at h⟩
  have rv : Reps K H [] [.rol ns] [.ref a] := .cons (by simp only [Rep]; exact ⟨a, rfl, hS⟩) .nil
  refine codeAny_mono ((F _ hKb (put hns)).run callerA [] s₁ H ⟨[.ref a], []⟩ [.ref a] [.ref a] (fun v _ => v = .bl true) (fun _ _ _ => False) [] [] [.rol ns] hr rfl e0 (hbind s₁ (.ref a)) (.cons rfl .nil) rfl rs rv fine) fun r s' h => ?_
  cases r with
  | error e =>
    obtain ⟨_, _, _, _, _, _, _, _, _, _, _, _, h⟩ := h
    exact h.elim
  | ok fl =>
    cases fl with
    | next => exact False.elim h
    | brk => exact False.elim h
    | cont => exact False.elim h
    | ret u =>
      obtain ⟨v, H', os, bare, un, hok', r', q⟩ := h
      have q' : v = .bl true := q
      subst q'
      obtain rfl : u = Value.bool true := r'
      refine ⟨rfl, OldK.of_keep fun b o e => ?_, os, bare⟩
      cases q : H b with
      | none => exact un.keep b o e q (by intro z; exact absurd (show b ∈ ([] : List Addr) from z) (by simp)) (by simp)
      | some u =>
        obtain ⟨_, rfl⟩ := hH b u q
        obtain ⟨e1, _⟩ := hok b _ q
        obtain ⟨e2, _⟩ := hok' b _ (un.frzs b _ _ q)
        rw [e] at e1; cases e1
        exact e2
theorem law_callD (KX : K.In s₁.heap) (hns : s₁.heap.Ns mainGlobals mg) (hb : s₁.heap.Ns builtinsNs mb) (hbb : ∀ x : Str, x ≠ "__name__" → mb x = bootBuiltins x) (hlim : s₁.heap.NoLimit) (hg : s₁.gens = #[])
    (ha : s₁.heap.get? a = some { cls := .type "list", data := .seq vs.toArray }) (hi : IntsAre vs ns) (hl : ns.length ≤ sizeLine) (hr : Room k callerA)
    (F : ∀ base : Heap, K.In base → base.Ns mainGlobals mg → FnD P w K mg base c k i fa fd [x]) (hbind : ∀ (s : Shared) (u : Value), BindsTo s fd ⟨[u], []⟩ [(x, u)]) {S' : Sto} (hT : c.call i [.rol ns] [] = .ok (.bl true) S') :
    codeAny (model P w) callerA (.call (.ref fa) ⟨[.ref a], []⟩) (fun r s' => r = .ok (.ret (.bool true)) ∧ OldK s₁.heap s'.heap ∧ s'.os = s₁.os ∧ AllBare s'.gens) s₁ := by
  have rv := vals_ints hi
  have lenV := hi.length
  cases hk : K.lookup a with
  | some o =>
    have e := KX a o hk
    rw [ha] at e
    cases e
    exact law_at (H := fun _ => none) (fun b u z => by cases z) (fun b u z => by cases z) (fun z => absurd rfl z) (.inr ⟨_, vs.toArray, _, hk, rfl, rfl, rfl, by rw [List.size_toArray, lenV]; exact hl, by simpa using rv⟩) KX hns hb hbb hlim hg ha hr F hbind hT
  | none =>
    have look : ∀ b u, (if b = a then some (HO.frz { cls := .type "list", data := .seq vs.toArray } (.lst (ns.map V.int))) else none) = some u → b = a ∧ u = .frz { cls := .type "list", data := .seq vs.toArray } (.lst (ns.map V.int)) := fun b u z => by
      split at z
      · rename_i e; cases z; exact ⟨e, rfl⟩
      · cases z
    refine law_at (H := fun b => if b = a then some (.frz { cls := .type "list", data := .seq vs.toArray } (.lst (ns.map V.int))) else none) (fun b u z => ?_) look (fun _ => hk) (.inl ⟨_, if_pos rfl⟩) KX hns hb hbb hlim hg ha hr F hbind hT
    obtain ⟨rfl, rfl⟩ := look b u z
    exact ⟨ha, by rw [List.length_map]; exact hl, vs, _, rv, ha⟩
end
/-- a law's walk, over a head by facts -/
theorem walk_ofD {l : PySem.W.OpenLaw} {n k i : Nat} {q : Program} {loose : List Str} {XP : (Str → Option Value) → Heap → Prop} {YP : World → Heap → Prop} {d : DefRec} {x : Str}
    (hn : l.most = some n) (hn2 : n ≤ sizeLine) (hdf : d.params.defaults = []) (hr : Room k callerA)
    (F : ∀ (w : World) (mg : Str → Option Value) (fa : Addr) (h : Heap), YP w h → h.Ns mainGlobals mg → mg d.name = some (.ref fa) →
      ∃ (K : PySem.W.Frag) (fd : FuncData) (c : Cm), K.In h ∧ (∀ (s : Shared) (u : Value), BindsTo s fd ⟨[u], []⟩ [(x, u)]) ∧ (∀ ns : List Int, ns.length ≤ n → ∃ S', c.call i [.rol ns] [] = .ok (.bl true) S') ∧
        ∀ base : Heap, K.In base → base.Ns mainGlobals mg → FnD l.prog w K mg base c k i fa fd [x]) :
    PySem.W.WalkO q loose XP YP l.row.toRowW d [] (fun f vs => PySem.call f vs) := by
  refine Att.attach_call hn hdf fun w s₀ s₁ mg mb fa o pm cd doc a vs ns G Y ho hd hcd hmg hobj hints hlen hg => ?_
  obtain ⟨K, fd, c, KX, hb, hsp, hF⟩ := F w mg fa _ Y G.T.g hmg
  obtain ⟨S', hT⟩ := hsp ns hlen
  exact law_callD KX G.T.g G.T.b G.T.builtins G.T.nolimit hg hobj hints (Nat.le_trans hlen hn2) hr hF hb hT
end Rf
end

section
set_option Elab.async false
set_option linter.all false
set_option maxRecDepth 100000
set_option maxHeartbeats 4000000
/-! Rf, part R: the rules as the printer (gen.py) uses them, their side conditions as booleans. -/
namespace Rf
open PySem PySem.Spec PyProof.Rows L2

def visB (sc : Scope) (x : Str) : Bool := decide (sc.names.lookup x = some .local) || (decide (sc.names.lookup x = some .cell) || decide (sc.names.lookup x = some .free))
theorem vis_by {sc : Scope} {x : Str} (h : visB sc x = true) : Vis sc x := by
  unfold visB at h
  rw [Bool.or_eq_true, Bool.or_eq_true, decide_eq_true_eq, decide_eq_true_eq, decide_eq_true_eq] at h
  exact h
def varB (g : Gs) (i : Nat) (x : Str) : Bool := decide (g.N[i]? = some x) && (visB g.sc x && (decide (x ≠ ("__debug__" : Str)) && decide (x ≠ ("__classdict__" : Str))))
def glo (g : Gs) (x : Str) : Bool := decide (g.sc.names.lookup x = some .globalImplicit) && (decide (x ≠ ("__debug__" : Str)) && decide (x ≠ ("__name__" : Str)))
def bltB (g : Gs) (x : Str) : Bool := glo g x && decide (x ∈ g.bis)
def fnB (g : Gs) (x : Str) (i : Nat) : Bool := glo g x && decide (g.fns.lookup x = some i)
def locB (g : Gs) (i : Nat) (x : Str) : Bool := decide (g.N[i]? = some x) && (decide (g.sc.names.lookup x = some .local) || (decide (g.sc.names.lookup x = some .cell) && g.top))
theorem ne_beq {x y : Str} (h : x ≠ y) : (x == y) = false := by
  cases e : x == y with
  | false => rfl
  | true => exact absurd (beq_iff_eq.mp e) h
theorem glo_by {g : Gs} {x : Str} (h : glo g x = true) : g.sc.names.lookup x = some .globalImplicit ∧ (x == ("__debug__" : Str)) = false ∧ x ≠ ("__name__" : Str) := by
  unfold glo at h
  rw [Bool.and_eq_true, Bool.and_eq_true, decide_eq_true_eq, decide_eq_true_eq, decide_eq_true_eq] at h
  exact ⟨h.1, ne_beq h.2.1, h.2.2⟩
theorem blt_by {g : Gs} {x : Str} (h : bltB g x = true) : g.sc.names.lookup x = some .globalImplicit ∧ (x == ("__debug__" : Str)) = false ∧ x ≠ ("__name__" : Str) ∧ x ∈ g.bis := by
  unfold bltB at h
  rw [Bool.and_eq_true, decide_eq_true_eq] at h
  have := glo_by h.1
  exact ⟨this.1, this.2.1, this.2.2, h.2⟩
section
variable {X : Cx} {c : Cm} {lv : Nat} {E : XK} {g : Gs} {a b e o : Expr} {es : List Expr} {ma mb me mo : M D} {ms : M (List D)} {ml : M (List D)} {pos p p2 apos : Pos}
theorem Cok.env_kind (k : Cok g c lv E X) (x : Str) : X.env.kindOf x = g.sc.names.lookup x := by unfold Env.kindOf; rw [k.sc]
theorem Cok.blockKind (k : Cok g c lv E X) : X.env.blockKind = .function := by
  have h : X.env.scope.kind = .function := by rw [k.sc]; exact k.kind
  unfold Env.blockKind
  rw [h]
  rfl
theorem r_var (k : Cok g c lv E X) (i : Nat) {x : Str} (h : varB g i x = true) : PEd X c E (.Name x pos) (mVar i) := by
  unfold varB at h
  rw [Bool.and_eq_true, Bool.and_eq_true, Bool.and_eq_true, decide_eq_true_eq, decide_eq_true_eq, decide_eq_true_eq] at h
  exact pd_var k h.1 (vis_by h.2.1) (ne_beq h.2.2.1) (ne_beq h.2.2.2)
theorem loc_by (k : Cok g c lv E X) {i : Nat} {x : Str} (h : locB g i x = true) : g.N[i]? = some x ∧ Loc g.sc x ∧ (X.fn x = true ∨ X.env.scope.names.lookup x = some .local) := by
  unfold locB at h
  rw [Bool.and_eq_true, Bool.or_eq_true, Bool.and_eq_true, decide_eq_true_eq, decide_eq_true_eq, decide_eq_true_eq] at h
  refine ⟨h.1, ?_, ?_⟩
  · rcases h.2 with z | z
    · exact .inl z
    · exact .inr z.1
  · rcases h.2 with z | z
    · exact .inr (by rw [k.sc]; exact z)
    · exact .inl (k.top z.2 x)
theorem r_nm (k : Cok g c lv E X) (i : Nat) {x : Str} (h : locB g i x = true) : PG X (.Name x pos) (tGd X.K (.nm i)) := let z := loc_by k h; pg_nm k z.1 z.2.1 z.2.2
theorem r_set (k : Cok g c lv E X) (i : Nat) {x : Str} {pos' : Pos} (h : locB g i x = true) (he : PEd X c E e me) (hs : swapsWith e (some (.Name x pos')) pos.line X.env = pure false) : PSd X c E (.Assign [.Name x pos'] e pos) (sAsg (.nm i) me) :=
  let z := loc_by k h; ps_setd k z.1 z.2.1 he hs z.2.2
/-- name = [.. for ..]: the name isn't a local one, or stands on another line, or is the block's own, too -/
def swcB (g : Gs) (x : Str) (px pos : Pos) (scope : Scope) : Bool := decide (g.sc.names.lookup x = some .local) && (px.line == pos.line && !(scope.names.any fun (n, k) => n == x && (k == .local || k == .cell)))
theorem swc_eq (k : Cok g c lv E X) {x : Str} {px q : Pos} {n : Nat} {elt : Expr} {cs : List Comprehension} {scope : Scope} : swapsWith (.ListComp elt cs scope q) (some (.Name x px)) n X.env = pure (swcB g x px q scope) := by
  show (pure ((X.env.blockKind == ScopeKind.function) && (X.env.kindOf x == some NameKind.local) && (px.line == q.line) && !(scope.names.any fun (n, k) => n == x && (k == .local || k == .cell))) : Sem Bool) = _
  unfold swcB
  rw [k.env_kind, k.blockKind]
  have e : (g.sc.names.lookup x == some NameKind.local) = decide (g.sc.names.lookup x = some .local) := by
    cases h : (g.sc.names.lookup x == some NameKind.local) with
    | true => exact (decide_eq_true (eq_of_beq h)).symm
    | false => exact (decide_eq_false fun z => by rw [z] at h; simp at h).symm
  show pure ((ScopeKind.function == ScopeKind.function) && (g.sc.names.lookup x == some NameKind.local) && ((px.line == q.line)) && !(scope.names.any fun (n, k) => n == x && (k == .local || k == .cell))) = _
  rw [e]
  simp [Bool.and_assoc]
theorem r_setc (k : Cok g c lv E X) (i : Nat) {x : Str} {px q : Pos} {elt : Expr} {cs : List Comprehension} {scope : Scope} {ml : M (List D)} (h : locB g i x = true) (hw : swcB g x px q scope = false) (he : PLd X c E (.ListComp elt cs scope q) ml) :
    PSd X c E (.Assign [.Name x px] (.ListComp elt cs scope q) pos) (sAsg (.nm i) (mNew ml)) := r_set k i h (pd_new he) (by rw [swc_eq k, hw])
def swB (sc : Scope) (ts vs : List Expr) : Option (Option (List Str)) :=
  if (!(ts.length == 2 || ts.length == 3) || vs.length != ts.length) = true then some none
  else if (vs.any fun | .Starred .. => true | _ => false) = true then some none
  else
    let names := ts.filterMap fun
      | .Name id pos => if (sc.names.lookup id == some .local && pos.line == (ts.head?.map (·.pos.line)).getD 0) = true then some id else none
      | _ => none
    if (names.length != ts.length || names.eraseDups.length != names.length) = true then some none
    else if vs.all (foldedForSure 8) = true then some none
    else if vs.all (constantsAlone 8) = true then none
    else some (some names)
theorem sw_eq (k : Cok g c lv E X) {ts vs : List Expr} {k1 k2 : Nat} {p1 p2 : Pos} {r : Option (List Str)} (h : swB g.sc ts vs = some r) : swappedStores [.Tuple ts k1 p1] (.Tuple vs k2 p2) X.env = pure r := by
  unfold swappedStores
  simp only [k.env_kind, k.blockKind]
  unfold swB at h
  have hk : (ScopeKind.function != ScopeKind.function) = false := by decide
  simp only [hk, Bool.or_false]
  show (if (!(ts.length == 2 || ts.length == 3) || vs.length != ts.length) = true then (pure none : Sem (Option (List Str))) else _) = pure r
  split at h
  · rename_i h1; rw [if_pos h1]; cases h; rfl
  · rename_i h1
    rw [if_neg h1]
    split at h
    · rename_i h2; cases h; exact if_pos h2
    · rename_i h2
      refine (if_neg h2).trans ?_
      dsimp only at h ⊢
      split at h
      · rename_i h3; cases h; exact if_pos h3
      · rename_i h3
        refine (if_neg h3).trans ?_
        split at h
        · rename_i h4; cases h; exact if_pos h4
        · rename_i h4
          refine (if_neg h4).trans ?_
          split at h
          · cases h
          · rename_i h5; cases h; exact if_neg h5
theorem r_asgt (k : Cok g c lv E X) {ts vs : List Expr} {k1 k2 : Nat} {p1 p2 : Pos} {t : Tg} (h : swB g.sc ts vs = some none) (he : PEd X c E (.Tuple vs k2 p2) me) (hg : PG X (.Tuple ts k1 p1) (tGd X.K t))
    (h1 : (assignEach [.Tuple ts k1 p1] X.env).map (·.2) = [assign (.Tuple ts k1 p1) X.env] := by rfl) : PSd X c E (.Assign [.Tuple ts k1 p1] (.Tuple vs k2 p2) pos) (sAsg t me) := ps_asgd he hg rfl (sw_eq k h) h1
theorem r_asg {ts : List Expr} {k1 : Nat} {p1 : Pos} {t : Tg} (he : PEd X c E e me) (hg : PG X (.Tuple ts k1 p1) (tGd X.K t)) (hw : swappedStores [.Tuple ts k1 p1] e X.env = pure none := by rfl) (hs : swapsWithSole [.Tuple ts k1 p1] e pos.line X.env = pure false := by rfl)
    (h1 : (assignEach [.Tuple ts k1 p1] X.env).map (·.2) = [assign (.Tuple ts k1 p1) X.env] := by rfl) : PSd X c E (.Assign [.Tuple ts k1 p1] e pos) (sAsg t me) := ps_asgd he hg hs hw h1
theorem r_par2 (k : Cok g c lv E X) (i j : Nat) {x y : Str} {px py pt : Pos} {kt k2 : Nat} {pt2 : Pos} (h : (locB g i x && (locB g j y && (decide (i ≠ j) && (decide (g.sc.names.lookup x = some .local) && decide (g.sc.names.lookup y = some .local))))) = true)
    (hw : swB g.sc [.Name x px, .Name y py] [a, b] = some (some [x, y])) (ha : PAd X c E [a, b] ms) : PSd X c E (.Assign [.Tuple [.Name x px, .Name y py] kt pt] (.Tuple [a, b] k2 pt2) pos) (sPar2 i j ms) := by
  simp only [Bool.and_eq_true, decide_eq_true_eq] at h
  exact ps_par2d k (loc_by k h.1).1 (loc_by k h.2.1).1 h.2.2.1 h.2.2.2.1 h.2.2.2.2 ha (sw_eq k hw) rfl
theorem r_par3 (k : Cok g c lv E X) (i j l : Nat) {x y z : Str} {px py pz pt : Pos} {kt k2 : Nat} {pt2 : Pos}
    (h : (locB g i x && (locB g j y && (locB g l z && (decide (i ≠ j) && (decide (i ≠ l) && (decide (j ≠ l) && (decide (g.sc.names.lookup x = some .local) && (decide (g.sc.names.lookup y = some .local) && decide (g.sc.names.lookup z = some .local))))))))) = true)
    (hw : swB g.sc [.Name x px, .Name y py, .Name z pz] [a, b, e] = some (some [x, y, z])) (ha : PAd X c E [a, b, e] ms) : PSd X c E (.Assign [.Tuple [.Name x px, .Name y py, .Name z pz] kt pt] (.Tuple [a, b, e] k2 pt2) pos) (sPar3 i j l ms) := by
  simp only [Bool.and_eq_true, decide_eq_true_eq] at h
  exact ps_par3d k (loc_by k h.1).1 (loc_by k h.2.1).1 (loc_by k h.2.2.1).1 h.2.2.2.1 h.2.2.2.2.1 h.2.2.2.2.2.1 h.2.2.2.2.2.2.1 h.2.2.2.2.2.2.2.1 h.2.2.2.2.2.2.2.2 ha (sw_eq k hw) rfl
theorem r_glob (k : Cok g c lv E X) {x : Str} {d : D} (h : glo g x = true) (hd : g.consts.lookup x = some d) : PEd X c E (.Name x pos) (mLit d) := pd_glob k (glo_by h).1 hd (glo_by h).2.1
theorem r_call (k : Cok g c lv E X) (i : Nat) {x : Str} (h : fnB g x i = true) (ha : PAd X c E (e :: es) ms) (he : starEach (e :: es) X.env = (false, eval e X.env) :: starEach es X.env := by rfl)
    (hpl : (backTo pos (starEach es X.env)).any (·.1) = false := by rfl) : PEd X c E (.Call (.Name x p) (e :: es) [] pos) (mCall i ms) := by
  unfold fnB at h
  rw [Bool.and_eq_true, decide_eq_true_eq] at h
  exact pd_call k (glo_by h.1).1 h.2 ha (glo_by h.1).2.1 he hpl
theorem r_call0 (k : Cok g c lv E X) (i : Nat) {x : Str} (h : fnB g x i = true) : PEd X c E (.Call (.Name x p) [] [] pos) (mCall i aNil) := by
  unfold fnB at h
  rw [Bool.and_eq_true, decide_eq_true_eq] at h
  exact pd_call0 k (glo_by h.1).1 h.2 (glo_by h.1).2.1
theorem r_bi (k : Cok g c lv E X) {x : Str} {id : String} {f : CallD} (h : bltB g x = true) (hv : bootBuiltins x = some (.builtin id)) (hc : CallR X (.builtin id) (rCall X.K c.cl E f)) (ha : PAd X c E (e :: es) ms)
    (he : starEach (e :: es) X.env = (false, eval e X.env) :: starEach es X.env := by rfl) (hpl : (backTo pos (starEach es X.env)).any (·.1) = false := by rfl) : PEd X c E (.Call (.Name x p) (e :: es) [] pos) (mBi f ms) :=
  let z := blt_by h; pd_bi k hc z.1 z.2.2.2 hv ha z.2.2.1 z.2.1 he hpl
theorem r_ty (k : Cok g c lv E X) {x : Str} {T : String} {f : CallD} (h : bltB g x = true) (hv : bootBuiltins x = some (.type T)) (hc : CallR X (.type T) (rCall X.K c.cl E f)) (ha : PAd X c E (e :: es) ms)
    (he : starEach (e :: es) X.env = (false, eval e X.env) :: starEach es X.env := by rfl) (hpl : (backTo pos (starEach es X.env)).any (·.1) = false := by rfl) : PEd X c E (.Call (.Name x p) (e :: es) [] pos) (mBi f ms) :=
  let z := blt_by h; pd_ty k hc z.1 z.2.2.2 hv ha z.2.2.1 z.2.1 he hpl
theorem r_bil (k : Cok g c lv E X) {x : Str} {id : String} {f : ListF} (h : bltB g x = true) (hv : bootBuiltins x = some (.builtin id)) (hc : CallR X (.builtin id) (rList X.K c.cl E f)) (ha : PLd X c E e ml)
    (he : starEach [e] X.env = [(false, eval e X.env)] := by rfl) : PEd X c E (.Call (.Name x p) [e] [] pos) (mLi f ml) := let z := blt_by h; pd_bil k hc z.1 z.2.2.2 hv ha z.2.2.1 z.2.1 he
theorem r_tyl (k : Cok g c lv E X) {x : Str} {T : String} {f : ListF} (h : bltB g x = true) (hv : bootBuiltins x = some (.type T)) (hc : CallR X (.type T) (rList X.K c.cl E f)) (ha : PLd X c E e ml)
    (he : starEach [e] X.env = [(false, eval e X.env)] := by rfl) : PEd X c E (.Call (.Name x p) [e] [] pos) (mLi f ml) := let z := blt_by h; pd_tyl k hc z.1 z.2.2.2 hv ha z.2.2.1 z.2.1 he
theorem b_len : bootBuiltins ("len" : Str) = some (.builtin "len") := by decide +kernel
theorem b_repr : bootBuiltins ("repr" : Str) = some (.builtin "repr") := by decide +kernel
theorem b_isi : bootBuiltins ("isinstance" : Str) = some (.builtin "isinstance") := by decide +kernel
theorem b_abs : bootBuiltins ("abs" : Str) = some (.builtin "abs") := by decide +kernel
theorem b_max : bootBuiltins ("max" : Str) = some (.builtin "max") := by decide +kernel
theorem b_min : bootBuiltins ("min" : Str) = some (.builtin "min") := by decide +kernel
theorem b_sum : bootBuiltins ("sum" : Str) = some (.builtin "sum") := by decide +kernel
theorem b_all : bootBuiltins ("all" : Str) = some (.builtin "all") := by decide +kernel
theorem b_any : bootBuiltins ("any" : Str) = some (.builtin "any") := by decide +kernel
theorem b_int : bootBuiltins ("int" : Str) = some (.type "int") := by decide +kernel
theorem b_str : bootBuiltins ("str" : Str) = some (.type "str") := by decide +kernel
theorem b_tuple : bootBuiltins ("tuple" : Str) = some (.type "tuple") := by decide +kernel
theorem b_list : bootBuiltins ("list" : Str) = some (.type "list") := by decide +kernel
theorem b_bool : bootBuiltins ("bool" : Str) = some (.type "bool") := by decide +kernel
theorem r_len (k : Cok g c lv E X) (h : bltB g "len" = true) (ha : PAd X c E [e] ms) (he : starEach [e] X.env = (false, eval e X.env) :: starEach [] X.env := by rfl) : PEd X c E (.Call (.Name "len" p) [e] [] pos) (mBi lenD ms) := r_bi k h b_len cd_len ha he
theorem r_repr (k : Cok g c lv E X) (h : bltB g "repr" = true) (ha : PAd X c E [e] ms) (he : starEach [e] X.env = (false, eval e X.env) :: starEach [] X.env := by rfl) : PEd X c E (.Call (.Name "repr" p) [e] [] pos) (mBi reprD ms) := r_bi k h b_repr (cd_repr (k.room.mono (Nat.zero_le _)) k.gd) ha he
theorem r_isi (k : Cok g c lv E X) (h : bltB g "isinstance" = true) (ha : PAd X c E (e :: es) ms) (he : starEach (e :: es) X.env = (false, eval e X.env) :: starEach es X.env := by rfl) (hpl : (backTo pos (starEach es X.env)).any (·.1) = false := by rfl) :
    PEd X c E (.Call (.Name "isinstance" p) (e :: es) [] pos) (mBi isiD ms) := r_bi k h b_isi cd_isi ha he hpl
theorem r_abs (k : Cok g c lv E X) (h : bltB g "abs" = true) (ha : PAd X c E [e] ms) (he : starEach [e] X.env = (false, eval e X.env) :: starEach [] X.env := by rfl) : PEd X c E (.Call (.Name "abs" p) [e] [] pos) (mBi absD ms) := r_bi k h b_abs cd_abs ha he
theorem r_max (k : Cok g c lv E X) (h : bltB g "max" = true) (ha : PAd X c E (e :: es) ms) (he : starEach (e :: es) X.env = (false, eval e X.env) :: starEach es X.env := by rfl) (hpl : (backTo pos (starEach es X.env)).any (·.1) = false := by rfl) :
    PEd X c E (.Call (.Name "max" p) (e :: es) [] pos) (mBi maxD ms) := r_bi k h b_max (cd_max k.calm) ha he hpl
theorem r_min (k : Cok g c lv E X) (h : bltB g "min" = true) (ha : PAd X c E (e :: es) ms) (he : starEach (e :: es) X.env = (false, eval e X.env) :: starEach es X.env := by rfl) (hpl : (backTo pos (starEach es X.env)).any (·.1) = false := by rfl) :
    PEd X c E (.Call (.Name "min" p) (e :: es) [] pos) (mBi minD ms) := r_bi k h b_min (cd_min k.calm) ha he hpl
theorem r_int (k : Cok g c lv E X) (h : bltB g "int" = true) (ha : PAd X c E [e] ms) (he : starEach [e] X.env = (false, eval e X.env) :: starEach [] X.env := by rfl) : PEd X c E (.Call (.Name "int" p) [e] [] pos) (mBi intD ms) := r_ty k h b_int cd_int ha he
theorem r_str (k : Cok g c lv E X) (h : bltB g "str" = true) (ha : PAd X c E [e] ms) (he : starEach [e] X.env = (false, eval e X.env) :: starEach [] X.env := by rfl) : PEd X c E (.Call (.Name "str" p) [e] [] pos) (mBi strD ms) := r_ty k h b_str cd_str ha he
theorem r_tuple (k : Cok g c lv E X) (h : bltB g "tuple" = true) (ha : PAd X c E [e] ms) (he : starEach [e] X.env = (false, eval e X.env) :: starEach [] X.env := by rfl) : PEd X c E (.Call (.Name "tuple" p) [e] [] pos) (mBi tupleD ms) := r_ty k h b_tuple cd_tuple ha he
theorem r_list (k : Cok g c lv E X) (h : bltB g "list" = true) (ha : PAd X c E [e] ms) (he : starEach [e] X.env = (false, eval e X.env) :: starEach [] X.env := by rfl) : PEd X c E (.Call (.Name "list" p) [e] [] pos) (mBi listD ms) := r_ty k h b_list cd_list ha he
theorem r_tuplel (k : Cok g c lv E X) (h : bltB g "tuple" = true) (ha : PLd X c E e ml) (he : starEach [e] X.env = [(false, eval e X.env)] := by rfl) : PEd X c E (.Call (.Name "tuple" p) [e] [] pos) (mLi tupleL ml) := r_tyl k h b_tuple cl_tuple ha he
theorem r_alll (k : Cok g c lv E X) (h : bltB g "all" = true) (ha : PLd X c E e ml) (he : starEach [e] X.env = [(false, eval e X.env)] := by rfl) : PEd X c E (.Call (.Name "all" p) [e] [] pos) (mLi allOf ml) := r_bil k h b_all (rL1.new (K := X.K) (c1_all k.calm)) ha he
theorem r_anyl (k : Cok g c lv E X) (h : bltB g "any" = true) (ha : PLd X c E e ml) (he : starEach [e] X.env = [(false, eval e X.env)] := by rfl) : PEd X c E (.Call (.Name "any" p) [e] [] pos) (mLi anyOf ml) := r_bil k h b_any (rL1.new (K := X.K) (c1_any k.calm)) ha he
theorem r_suml (k : Cok g c lv E X) (h : bltB g "sum" = true) (ha : PLd X c E e ml) (he : starEach [e] X.env = [(false, eval e X.env)] := by rfl) : PEd X c E (.Call (.Name "sum" p) [e] [] pos) (mLi sumOf ml) := r_bil k h b_sum (rL1.new (K := X.K) (c1_sum k.calm)) ha he
theorem r_lenl (k : Cok g c lv E X) (h : bltB g "len" = true) (ha : PLd X c E e ml) (he : starEach [e] X.env = [(false, eval e X.env)] := by rfl) : PEd X c E (.Call (.Name "len" p) [e] [] pos) (mLi lenL ml) := r_bil k h b_len (rL1.new (K := X.K) c1_len) ha he
theorem r_sum (k : Cok g c lv E X) (h : bltB g "sum" = true) (ha : PAd X c E [e] ms) (he : starEach [e] X.env = (false, eval e X.env) :: starEach [] X.env := by rfl) : PEd X c E (.Call (.Name "sum" p) [e] [] pos) (mBi (onList sumOf) ms) := r_bi k h b_sum (rL1.on (K := X.K) (c1_sum k.calm)) ha he
theorem r_all (k : Cok g c lv E X) (h : bltB g "all" = true) (ha : PAd X c E [e] ms) (he : starEach [e] X.env = (false, eval e X.env) :: starEach [] X.env := by rfl) : PEd X c E (.Call (.Name "all" p) [e] [] pos) (mBi (onList allOf) ms) := r_bi k h b_all (rL1.on (K := X.K) (c1_all k.calm)) ha he
theorem r_any (k : Cok g c lv E X) (h : bltB g "any" = true) (ha : PAd X c E [e] ms) (he : starEach [e] X.env = (false, eval e X.env) :: starEach [] X.env := by rfl) : PEd X c E (.Call (.Name "any" p) [e] [] pos) (mBi (onList anyOf) ms) := r_bi k h b_any (rL1.on (K := X.K) (c1_any k.calm)) ha he
/-- a type's name as a value -/
def immTy (T : String) : M D := mLit (.ty T)
theorem r_tyv (k : Cok g c lv E X) {x : Str} {T : String} (h : bltB g x = true) (hv : bootBuiltins x = some (.type T)) : PEd X c E (.Name x pos) (mLit (.ty T)) :=
  let z := blt_by h; pd_lit ⟨fun pins s σ H Q I q => ld_blt I (by unfold Gl Env.kindOf; rw [k.sc]; exact z.1) (k.bi x z.2.2.2) hv ⟨.ty T, H, I, rfl, q⟩ z.2.2.1 z.2.1⟩ rfl
/-! methods -/
theorem r_app (ho : PEd X c E o mo) (ha : PAd X c E [e] ms) (hbase : attributeBase o "append" X.env (eval o X.env) = eval o X.env := by rfl)
    (hfew : ((backTo pos (starEach [e] X.env)).all (fun x => !x.1) && (backToKw pos (keywordEach [] X.env)).all (fun x => x.1.isSome)
      && decide ([e].length + ([] : List Keyword).length + (if ([] : List Keyword).isEmpty then 0 else 1) < 30)) = true := by rfl)
    (hline : (apos.endLine == pos.line) = true := by rfl) (hs : starEach [e] X.env = (false, eval e X.env) :: starEach [] X.env := by rfl) : PEd X c E (.Call (.Attribute o "append" apos) [e] [] pos) (mMet "list" appD mo ms) :=
  pd_met PySem.F.plainAttrs_list PySem.F.slot_list_append PySem.F.type_list_append mt_appD ho ha hbase hfew hline hs rfl
theorem r_ext (ho : PEd X c E o mo) (ha : PAd X c E [e] ms) (hbase : attributeBase o "extend" X.env (eval o X.env) = eval o X.env := by rfl)
    (hfew : ((backTo pos (starEach [e] X.env)).all (fun x => !x.1) && (backToKw pos (keywordEach [] X.env)).all (fun x => x.1.isSome)
      && decide ([e].length + ([] : List Keyword).length + (if ([] : List Keyword).isEmpty then 0 else 1) < 30)) = true := by rfl)
    (hline : (apos.endLine == pos.line) = true := by rfl) (hs : starEach [e] X.env = (false, eval e X.env) :: starEach [] X.env := by rfl) : PEd X c E (.Call (.Attribute o "extend" apos) [e] [] pos) (mMet "list" extD mo ms) :=
  pd_met PySem.F.plainAttrs_list PySem.F.slot_list_extend PySem.F.type_list_extend mt_extD ho ha hbase hfew hline hs rfl
theorem r_extl (ho : PEd X c E o mo) (ha : PLd X c E e ml) (hbase : attributeBase o "extend" X.env (eval o X.env) = eval o X.env := by rfl)
    (hfew : ((backTo pos (starEach [e] X.env)).all (fun x => !x.1) && (backToKw pos (keywordEach [] X.env)).all (fun x => x.1.isSome)
      && decide ([e].length + ([] : List Keyword).length + (if ([] : List Keyword).isEmpty then 0 else 1) < 30)) = true := by rfl)
    (hline : (apos.endLine == pos.line) = true := by rfl) (hs : starEach [e] X.env = [(false, eval e X.env)] := by rfl) : PEd X c E (.Call (.Attribute o "extend" apos) [e] [] pos) (mMetL "list" extL mo ml) :=
  pd_metl PySem.F.plainAttrs_list PySem.F.slot_list_extend PySem.F.type_list_extend mt_extL ho ha hbase hfew hline hs
theorem r_drop (h : PEd X c E e me) (hs : swapsWith e none pos.line X.env = pure false := by rfl) : PSd X c E (.Expr e pos) (sDrop me) := ps_dropd h hs
theorem r_sub {i : Expr} {mi : M D} (he : PEd X c E e me) (ho : PEd X c E o mo) (hi : PEd X c E i mi) (hs : swapsWithSole [.Subscript o i p] e pos.line X.env = pure false := by rfl) (hw : swappedStores [.Subscript o i p] e X.env = pure none := by rfl)
    (ha : ∀ v, assign (.Subscript o i p) X.env v = (do
      let ov ← holding [v] (eval o X.env)
      let iv ← holding [v, ov] (eval i X.env)
      standAt p
      holding [v, ov, iv] (setItem ov iv v)
      release [v, ov, iv] []) := by intro _; rfl) (h1 : (assignEach [.Subscript o i p] X.env).map (·.2) = [assign (.Subscript o i p) X.env] := by rfl) : PSd X c E (.Assign [.Subscript o i p] e pos) (sSub mo mi me) := ps_subd he ho hi hs hw ha h1
theorem r_cons (ha : PEd X c E a ma) (hr : PAd X c E es ms) (hs : starEach (a :: es) X.env = (false, eval a X.env) :: starEach es X.env := by rfl) : PAd X c E (a :: es) (aCons ma ms) := pa_consd ha hr hs
theorem r_star (ha : PEd X c E a ma) (hr : PAd X c E es ms) (hs : starEach (.Starred a p :: es) X.env = (true, eval a X.env) :: starEach es X.env := by rfl) : PAd X c E (.Starred a p :: es) (aStar ma ms) := pa_stard ha hr hs
theorem r_starl (ha : PLd X c E a ml) (hr : PAd X c E es ms) (hs : starEach (.Starred a p :: es) X.env = (true, eval a X.env) :: starEach es X.env := by rfl) : PAd X c E (.Starred a p :: es) (aStarL ml ms) := pa_starLd ha hr hs
theorem r_comp (k : Cok g c lv E X) {elt tg : Expr} {ifs : List Expr} {scope : Scope} {own : List (Str × Nat)} {mi : M Src} {te : M D} {tt : M Bool} {t : Tg} (hi : PId X c E tg e mi) (ok : (blkC g.N g.sc scope own && (t.slots.all fun j => (own.map (·.2)).contains j) && decide (scope.kind = .function)) = true)
    (hg : ∀ {X : Cx} (k : Cok (g.blk scope) c lv E0 X), PG X tg (tGd X.K t)) (ht : ∀ {X : Cx} (k : Cok (g.blk scope) c lv E0 X), PTs X ifs (tT X.K E0 c tt)) (he : ∀ {X : Cx} (k : Cok (g.blk scope) c lv E0 X), PEd X c E0 elt te)
    (hs : ∀ x, foldedSetIterable e X.env x = pure x := by intro _; rfl) : PLd X c E (.ListComp elt [⟨tg, e, ifs, 0⟩] scope pos) (lComp mi (own.map (·.2)) t tt te) := by
  rw [Bool.and_eq_true, Bool.and_eq_true, decide_eq_true_eq] at ok
  refine pl_comp k hi (blkOk_by ok.1.1) (fun j hj => ?_) (fun s H C cl fp => hg (k.blk ok.2 s H C cl fp)) (fun s H C cl fp => ht (k.blk ok.2 s H C cl fp)) (fun s H C cl fp => he (k.blk ok.2 s H C cl fp)) hs
  have := List.all_eq_true.mp ok.1.2 j hj
  simpa using this
theorem r_setcomp (k : Cok g c lv E X) (i : Nat) {y : Str} {py spos : Pos} {elt tg : Expr} {ifs : List Expr} {scope : Scope} {own : List (Str × Nat)} {mi : M Src} {te : M D} {tt : M Bool} {t : Tg} (hl : (locB g i y && decide (g.sc.names.lookup y = some .local)) = true) (hw : swcB g y py pos scope = true) (hi : PId X c E tg e mi) (ok : (blkC g.N g.sc scope own && (t.slots.all fun j => (own.map (·.2)).contains j) && decide (scope.kind = .function)) = true)
    (hg : ∀ {X : Cx} (k : Cok (g.blk scope) c lv E0 X), PG X tg (tGd X.K t)) (ht : ∀ {X : Cx} (k : Cok (g.blk scope) c lv E0 X), PTs X ifs (tT X.K E0 c tt)) (he : ∀ {X : Cx} (k : Cok (g.blk scope) c lv E0 X), PEd X c E0 elt te)
    (hs : ∀ x, foldedSetIterable e X.env x = pure x := by intro _; rfl) : PSd X c E (.Assign [.Name y py] (.ListComp elt [⟨tg, e, ifs, 0⟩] scope pos) spos) (sAsg (.nm i) (mNew (lComp mi (own.map (·.2)) t tt te))) := by
  rw [Bool.and_eq_true, Bool.and_eq_true, decide_eq_true_eq] at ok
  rw [Bool.and_eq_true, decide_eq_true_eq] at hl
  refine ps_setcomp k (loc_by k hl.1).1 hl.2 (by rw [swc_eq k, hw]) hi (blkOk_by ok.1.1) (fun j hj => ?_) (fun s H C cl fp => hg (k.blk ok.2 s H C cl fp)) (fun s H C cl fp => ht (k.blk ok.2 s H C cl fp)) (fun s H C cl fp => he (k.blk ok.2 s H C cl fp)) hs
  have := List.all_eq_true.mp ok.1.2 j hj
  simpa using this
theorem r_for (k : Cok g c lv E X) {tg : Expr} {t : Tg} {mi : M Src} {sb : MS} {body : List Stmt} (hi : PId X c E tg e mi) (hg : PG X tg (tGd X.K t)) (hb : PSsd X c E body sb) (hs : ∀ x, foldedSetIterable e X.env x = pure x := by intro _; rfl) : PSd X c E (.For tg e body [] pos) (sFor t mi sb) := ps_ford k hi hg hb hs
theorem r_rg1 (k : Cok g c lv E X) {tg : Expr} (h : bltB g "range" = true) (ha : PAd X c E [a] ms) (hs : starEach [a] X.env = [(false, eval a X.env)] := by rfl) : PId X c E tg (.Call (.Name "range" p) [a] [] pos) (iRg1 ms) := let z := blt_by h; pi_rg1 k z.1 z.2.2.2 ha hs
theorem r_rg2 (k : Cok g c lv E X) {tg : Expr} (h : bltB g "range" = true) (ha : PAd X c E [a, b] ms) (hs : starEach [a, b] X.env = [(false, eval a X.env), (false, eval b X.env)] := by rfl) (hs2 : starEach [b] X.env = [(false, eval b X.env)] := by rfl) :
    PId X c E tg (.Call (.Name "range" p) [a, b] [] pos) (iRg2 ms) := let z := blt_by h; pi_rg2 k z.1 z.2.2.2 ha hs hs2
theorem r_zip (k : Cok g c lv E X) {elts : List Expr} {kk : Nat} {tpos : Pos} (h : bltB g "zip" = true) (ha : PAd X c E [a, b] ms) (hs : starEach [a, b] X.env = [(false, eval a X.env), (false, eval b X.env)] := by rfl) (hs2 : starEach [b] X.env = [(false, eval b X.env)] := by rfl) :
    PId X c E (.Tuple elts kk tpos) (.Call (.Name "zip" p) [a, b] [] pos) (iZip ms) := let z := blt_by h; pi_zipd k z.1 z.2.2.2 ha hs hs2
theorem r_enum (k : Cok g c lv E X) {elts : List Expr} {kk : Nat} {tpos : Pos} (h : bltB g "enumerate" = true) (ha : PAd X c E [a] ms) (hs : starEach [a] X.env = [(false, eval a X.env)] := by rfl) :
    PId X c E (.Tuple elts kk tpos) (.Call (.Name "enumerate" p) [a] [] pos) (iEnumD ms) := let z := blt_by h; pi_enumd k z.1 z.2.2.2 ha hs
theorem r_lrg1 (k : Cok g c lv E X) {pos2 : Pos} (h : (bltB g "list" && bltB g "range") = true) (ha : PEd X c E a ma) (hs : starEach [a] X.env = [(false, eval a X.env)] := by rfl) :
    PLd X c E (.Call (.Name "list" p) [.Call (.Name "range" p2) [a] [] pos2] [] pos) (lRg1 ma) := by
  rw [Bool.and_eq_true] at h
  exact pl_rg1 k (blt_by h.1).1 (blt_by h.1).2.2.2 (blt_by h.2).1 (blt_by h.2).2.2.2 ha hs
theorem r_lrg2 (k : Cok g c lv E X) {pos2 : Pos} (h : (bltB g "list" && bltB g "range") = true) (ha : PEd X c E a ma) (hb : PEd X c E b mb) (hs : starEach [a, b] X.env = [(false, eval a X.env), (false, eval b X.env)] := by rfl) (hs2 : starEach [b] X.env = [(false, eval b X.env)] := by rfl) :
    PLd X c E (.Call (.Name "list" p) [.Call (.Name "range" p2) [a, b] [] pos2] [] pos) (lRg2 ma mb) := by
  rw [Bool.and_eq_true] at h
  exact pl_rg2 k (blt_by h.1).1 (blt_by h.1).2.2.2 (blt_by h.2).1 (blt_by h.2).2.2.2 ha hb hs hs2
theorem r_sort (k : Cok g c lv E X) (h : bltB g "sorted" = true) (ha : PLd X c E e ml) (he : starEach [e] X.env = [(false, eval e X.env)] := by rfl) : PLd X c E (.Call (.Name "sorted" p) [e] [] pos) (lSort ml) := let z := blt_by h; pl_sort k z.1 z.2.2.2 ha he
theorem r_sortD (k : Cok g c lv E X) (h : bltB g "sorted" = true) (ha : PEd X c E e me) (he : starEach [e] X.env = [(false, eval e X.env)] := by rfl) : PLd X c E (.Call (.Name "sorted" p) [e] [] pos) (lSortD me) := let z := blt_by h; pl_sortD k z.1 z.2.2.2 ha he
theorem r_sset (k : Cok g c lv E X) {q : Pos} (h : (bltB g "sorted" && bltB g "set") = true) (ha : PEd X c E a ma) (na : starEach [a] X.env = [(false, eval a X.env)] := by rfl) : PLd X c E (.Call (.Name "sorted" p) [.Call (.Name "set" p2) [a] [] q] [] pos) (lSset ma) := by
  rw [Bool.and_eq_true] at h
  exact pl_sset k (blt_by h.1).1 (blt_by h.1).2.2.2 (blt_by h.2).1 (blt_by h.2).2.2.2 ha na
theorem r_int' {i : Int} {j : Nat} : PEd X c E (.Constant (.int i) j pos) (mLit (.int i)) := pd_lit pe_int rfl
theorem r_s {x : Str} {j : Nat} : PEd X c E (.Constant (.str x) j pos) (mLit (.str x)) := pd_lit pe_str rfl
theorem r_b {x : Bool} {j : Nat} : PEd X c E (.Constant (.bool x) j pos) (mLit (.bl x)) := pd_lit pe_bl rfl
theorem r_n {j : Nat} : PEd X c E (.Constant .none j pos) (mLit .non) := pd_lit pe_non rfl
theorem Cok.r0 (k : Cok g c lv E X) : Room 0 X.A := k.room.mono (Nat.zero_le _)
end
end Rf
end

section
set_option Elab.async false
set_option linter.all false
set_option maxRecDepth 100000
set_option maxHeartbeats 4000000
/-! Rf, part S: tables of defs, all of them at once. -/
namespace Rf
open PySem PySem.Spec PyProof.Rows L2

section
variable {X : Cx} {c : Cm} {lv : Nat} {E : XK} {g : Gs} {a : Expr} {ma : M D} {mt : M Bool} {pos : Pos} {op : BoolOp} {ifs : List Expr}
theorem pd_one (h : PEd X c E a ma) : PEd X c E (.BoolOp op [a] pos) ma := ⟨fun pins s σ H Q I q => h.run pins s σ H Q I q⟩
theorem pw_an1 (h : PTd X c E a mt) : PWd X c E (.BoolOp .And [a] pos) mt := pw_and1 h
theorem pw_o1 (h : PTd X c E a mt) : PWd X c E (.BoolOp .Or [a] pos) mt := pw_or1 h
theorem pts_bad : PTs X ifs (tT X.K E c M.bad) := ⟨fun pins s σ H Q I h => by obtain ⟨μ, S, ρ, _, _, h⟩ := h; exact (show False from h).elim⟩
end
structure DefE where
  name : Str
  st : Stmt
  N : List Str
  ps : List Str
  m : MS
def gOf (consts : List (Str × D)) (fns : List (Str × Nat)) (bis : List Str) (d : DefE) : Gs := { sc := defScope d.st, N := d.N, consts := consts, fns := fns, bis := bis }
def DefE.dd (d : DefE) : He.DefD := ⟨(d.name, none), d.name, d.name, defArgs d.st, defBody d.st, defScope d.st, [], []⟩
def tabOf (defs : List DefE) : Tab := defs.map fun d => (d.ps.length, d.N.length, d.m)
/-- what the head tells of the defs -/
structure Told (K : PySem.W.Frag) (mg : Str → Option Value) (defs : List DefE) (consts : List (Str × D)) (bis : List Str) (adr : Nat → Addr) (fdf : Nat → FuncData) : Prop where
  fd : ∀ (i : Nat) (d : DefE), defs[i]? = some d → FunD K d.name d.name (defArgs d.st) (defBody d.st) (defScope d.st) [] [] (adr i) (fdf i) ∧ mg d.name = some (.ref (adr i)) ∧ Binds K (fdf i) d.ps []
  bi : ∀ x ∈ bis, mg x = none
  cs : ∀ x d, consts.lookup x = some d → ∃ u v, mg x = some u ∧ immV d = some v ∧ RelV v u
theorem call_len {T : Tab} {cl : Nat → Addr} {fuel k i : Nat} {ds : List D} {S : Sto} {np n : Nat} {m : MS} (h : T[i]? = some (np, n, m)) (hl : ds.length ≠ np) : callK T cl fuel k i ds S = .bad := by
  cases k with
  | zero => rfl
  | succ k => simp only [callK, h, if_neg hl]
theorem all_defs {P : Program} {w : World} {K : PySem.W.Frag} {mg : Str → Option Value} {base : Heap} {defs : List DefE} {consts : List (Str × D)} {fns : List (Str × Nat)} {bis : List Str} {adr : Nat → Addr} {fdf : Nat → FuncData} {cl : Nat → Addr} {fuel : Nat}
    (T : Told K mg defs consts bis adr fdf) (hs : (defs.all fun d => C8.scC d.N d.ps (defScope d.st) && decide (d.ps.length ≤ d.N.length)) = true)
    (hm : ∀ (i : Nat) (d : DefE), defs[i]? = some d → ∀ {X : Cx} {c : Cm} {lv : Nat} {E : XK}, Cok (gOf consts fns bis d) c lv E X → PSsd X c E (defBody d.st) d.m)
    (hf : ∀ (x : Str) (i : Nat), fns.lookup x = some i → ∃ d : DefE, defs[i]? = some d ∧ d.name = x) :
    ∀ (k i : Nat) (d : DefE), defs[i]? = some d → FnD P w K mg base ⟨callK (tabOf defs) cl fuel k, fuel, cl⟩ k i (adr i) (fdf i) d.ps
  | 0, i, d, _ => fnD_zero
  | k + 1, i, d, h => by
    have ih := all_defs (cl := cl) (fuel := fuel) (P := P) (w := w) (base := base) T hs hm hf k
    obtain ⟨F, _, _⟩ := T.fd i d h
    have sc := List.all_eq_true.mp hs d (List.mem_of_getElem? h)
    rw [Bool.and_eq_true, decide_eq_true_eq] at sc
    refine fnD_of (g := gOf consts fns bis d) (c := ⟨callK (tabOf defs) cl fuel k, fuel, cl⟩) F (C8.fnScope_by sc.1) (by unfold tabOf; rw [List.getElem?_map, h]; rfl) sc.2 (fun X E _ _ kk => hm i d h kk) T.bi T.cs fun x j hx => ?_
    obtain ⟨e, he, rfl⟩ := hf x j hx
    obtain ⟨Fe, ge, be⟩ := T.fd j e he
    exact ⟨adr j, fdf j, e.ps, ge, Fe.kp, be, fun ds S hl => call_len (by unfold tabOf; rw [List.getElem?_map, he]; rfl) hl, ih j e he⟩
/-- from what the head says -/
theorem told_of {K : PySem.W.Frag} {h : Heap} {mg : Str → Option Value} {defs : List DefE} {consts : List (Str × D)} {bis : List Str} {fa : List He.Fa} (X : K.In h) (G : h.Ns mainGlobals mg) (c : He.SaysD fa (defs.map DefE.dd) K)
    (hg : ∀ d : DefE, d ∈ defs → He.Fa.glo d.name ∈ fa) (hb : ∀ x ∈ bis, He.Fa.free x ∈ fa) (hc : ∀ x d, consts.lookup x = some d → (∃ i, d = .int i ∧ He.Fa.int x i ∈ fa) ∨ ∃ z, d = .str z ∧ He.Fa.str x z ∈ fa)
    (hbd : ∀ d : DefE, d ∈ defs → ∀ (kV doc pm : Value) (an : Option Addr) (cdv ct : Value) (us : List Value), us.length = d.ps.length → bindArgs (PySem.W.fnOf d.name d.name (defArgs d.st) (defBody d.st) (defScope d.st) .none kV doc pm an cdv ct) ⟨us, []⟩ = pure (d.ps.zip us)) :
    ∃ fdf : Nat → FuncData, Told K mg defs consts bis (fun i => match defs[i]? with | some d => He.fAd K (d.name, none) | none => 0) fdf := by
  have fact : ∀ {f : He.Fa}, f ∈ fa → f.ok K = true := fun {f} hf => by
    obtain ⟨i, hi⟩ := List.getElem?_of_mem hf
    exact c.fact i hi
  have one : ∀ i : Nat, ∃ fd : FuncData, ∀ d : DefE, defs[i]? = some d → FunD K d.name d.name (defArgs d.st) (defBody d.st) (defScope d.st) [] [] (He.fAd K (d.name, none)) fd := fun i => by
    cases e : defs[i]? with
    | none => exact ⟨default, fun d h => nomatch h⟩
    | some d =>
      obtain ⟨fd, F⟩ := c.def_ i (d := d.dd) (by rw [List.getElem?_map, e]; rfl)
      exact ⟨fd, fun d' h => by cases h; exact F⟩
  obtain ⟨fdf, one⟩ := Classical.axiomOfChoice one
  refine ⟨fdf, fun i d h => ?_, fun x hx => He.free_ok X G (fact (hb x hx)), fun x d h => ?_⟩
  · have F := one i d h
    have hm := List.mem_of_getElem? h
    simp only [h]
    exact ⟨F, He.glo_ok X G (fact (hg d hm)), F.bindsN (hbd d hm)⟩
  · rcases hc x d h with ⟨i, rfl, hi⟩ | ⟨z, rfl, hi⟩
    · obtain ⟨t, e⟩ := He.int_ok X G (fact hi)
      exact ⟨_, .int i, e, rfl, t, rfl⟩
    · obtain ⟨t, e⟩ := He.str_ok X G (fact hi)
      exact ⟨_, .str z, e, rfl, t, rfl⟩
end Rf
end

section
set_option Elab.async false
set_option linter.all false
set_option maxRecDepth 100000
set_option maxHeartbeats 4000000
/-! Rf, part T: evaluation, in plain words. -/
namespace Rf
open PySem PySem.Spec PyProof.Rows L2

/-! ### stores -/
def Wf (S : Sto) : Prop := ∀ o ∈ S, o.blw S.length = true
mutual
theorem D.blw_mono {m n : Nat} (h : m ≤ n) : ∀ d : D, d.blw m = true → d.blw n = true
  | .ref k, z => by simp only [D.blw, decide_eq_true_eq] at z ⊢; omega
  | .tup ds, z => by simp only [D.blw] at z ⊢; exact D.blws_mono h ds z
  | .non, _ => rfl
  | .bl _, _ => rfl
  | .int _, _ => rfl
  | .str _, _ => rfl
  | .ty _, _ => rfl
  | .rol _, _ => rfl
theorem D.blws_mono {m n : Nat} (h : m ≤ n) : ∀ ds : List D, D.blws m ds = true → D.blws n ds = true
  | [], _ => rfl
  | d :: ds, z => by
    simp only [D.blws, Bool.and_eq_true] at z ⊢
    exact ⟨D.blw_mono h d z.1, D.blws_mono h ds z.2⟩
end
theorem blws_iff {n : Nat} : ∀ {ds : List D}, D.blws n ds = true ↔ ∀ d ∈ ds, d.blw n = true
  | [] => by simp [D.blws]
  | d :: ds => by simp [D.blws, blws_iff (ds := ds)]
theorem O.blw_mono {m n : Nat} (h : m ≤ n) : ∀ o : O, o.blw m = true → o.blw n = true
  | .lst ds, z => D.blws_mono h ds z
theorem Wf.nil : Wf [] := fun o h => by cases h
theorem Wf.add {S : Sto} (w : Wf S) {ds : List D} (h : D.blws (S.length + 1) ds = true) : Wf (S ++ [.lst ds]) := fun o ho => by
  rw [List.length_append]
  rcases List.mem_append.mp ho with z | z
  · exact O.blw_mono (Nat.le_add_right _ _) o (w o z)
  · rw [List.mem_singleton.mp z]; exact h
theorem Wf.set {S : Sto} (w : Wf S) {k : Nat} {ds : List D} (h : D.blws S.length ds = true) : Wf (S.set k (.lst ds)) := fun o ho => by
  rw [List.length_set]
  rcases List.mem_or_eq_of_mem_set ho with z | z
  · exact w o z
  · rw [z]; exact h
theorem trim_of {S S' : Sto} {n : Nat} {d : D} (w : ∀ o ∈ S'.take n, o.blw n = true) (h : d.blw n = true) : trimD n d S' = .ok d (S'.take n) := if_pos ⟨h, List.all_eq_true.mpr w⟩
theorem trim_app {S G : Sto} {d : D} (w : Wf S) (h : d.blw S.length = true) : trimD S.length d (S ++ G) = .ok d S := by
  rw [trim_of (S := S) (by rw [List.take_left]; exact w) h, List.take_left]
theorem trim_self {S : Sto} {d : D} (w : Wf S) (h : d.blw S.length = true) : trimD S.length d S = .ok d S := by
  have := trim_app (G := []) w h
  rwa [List.append_nil] at this
theorem end_rt {S : Sto} {d : D} (w : Wf S) (h : d.blw S.length = true) : endD S.length (.ok (.rt d) S) = .ok d S := trim_self w h
theorem end_app {S G : Sto} {d : D} (w : Wf S) (h : d.blw S.length = true) : endD S.length (.ok (.rt d) (S ++ G)) = .ok d S := trim_app w h

/-! ### walks over what is apart -/
/-- items one by one, without a guard -/
def compC (own : List Nat) (t : Tg) (tt : M Bool) (te : M D) : List D → List D → M (List D)
  | [], acc, _, _, S => .ok acc S
  | d :: ds, acc, c, ρ, S => match t.put d (wipeD ρ own) with
    | some ρ1 => (tt c ρ1 S).nox.bind fun b S1 => if b = true then (te c ρ1 S1).nox.bind fun y S2 => if acc.length < sizeLine then compC own t tt te ds (acc ++ [y]) c ρ S2 else .bad else compC own t tt te ds acc c ρ S1
    | none => .bad
theorem compL_true (own : List Nat) (t : Tg) (tt : M Bool) (te : M D) : ∀ (ds acc : List D) (c : Cm) (ρ : Ev) (S : Sto), compL (fun _ => True) own t tt te ds acc c ρ S = compC own t tt te ds acc c ρ S
  | [], acc, c, ρ, S => by unfold compL compC; rw [if_pos trivial]
  | d :: ds, acc, c, ρ, S => by
    unfold compL compC
    rw [if_pos trivial]
    cases t.put d (wipeD ρ own) with
    | none => rfl
    | some ρ1 =>
      dsimp only
      congr 1
      funext b S1
      split
      · congr 1
        funext y S2
        split
        · exact compL_true own t tt te ds _ c ρ S2
        · rfl
      · exact compL_true own t tt te ds _ c ρ S1
/-- each item gives f of it, the store stays -/
theorem compC_map {own : List Nat} {t : Tg} {te : M D} {c : Cm} {ρ : Ev} {S : Sto} {f : D → D} : ∀ (ds acc : List D), acc.length + ds.length ≤ sizeLine → (∀ d ∈ ds, ∃ ρ1, t.put d (wipeD ρ own) = some ρ1 ∧ te c ρ1 S = .ok (f d) S) →
    compC own t tYesD te ds acc c ρ S = .ok (acc ++ ds.map f) S
  | [], acc, _, _ => by simp [compC]
  | d :: ds, acc, hl, h => by
    obtain ⟨ρ1, h1, h2⟩ := h d List.mem_cons_self
    have ih := compC_map ds (acc ++ [f d]) (by simp at hl ⊢; omega) fun e he => h e (List.mem_cons_of_mem _ he)
    simp only [List.length_cons] at hl
    have e : tYesD c ρ1 S = .ok true S := rfl
    unfold compC
    simp only [h1, e, Res.nox, Res.bind, if_true, h2]
    rw [if_pos (by omega), ih]
    simp
/-- those for which p holds -/
theorem compC_filter {own : List Nat} {t : Tg} {tt : M Bool} {te : M D} {c : Cm} {ρ : Ev} {S : Sto} {p : D → Bool} {f : D → D} : ∀ (ds acc : List D), acc.length + ds.length ≤ sizeLine → (∀ d ∈ ds, ∃ ρ1, t.put d (wipeD ρ own) = some ρ1 ∧ tt c ρ1 S = .ok (p d) S ∧ (p d = true → te c ρ1 S = .ok (f d) S)) →
    compC own t tt te ds acc c ρ S = .ok (acc ++ (ds.filter p).map f) S
  | [], acc, _, _ => by simp [compC]
  | d :: ds, acc, hl, h => by
    obtain ⟨ρ1, h1, h2, h3⟩ := h d List.mem_cons_self
    simp only [List.length_cons] at hl
    unfold compC
    simp only [h1, h2, Res.nox, Res.bind]
    cases e : p d with
    | true =>
      rw [if_pos rfl, h3 e]
      simp only [Res.nox, Res.bind]
      rw [if_pos (by omega), compC_filter ds _ (by simp; omega) fun e he => h e (List.mem_cons_of_mem _ he)]
      simp [e]
    | false =>
      rw [if_neg Bool.false_ne_true, compC_filter ds _ (by omega) fun e he => h e (List.mem_cons_of_mem _ he)]
      simp [e]
theorem boolsOf_map {α : Type} (p : α → Bool) : ∀ xs : List α, boolsOf (xs.map fun x => D.bl (p x)) = some (xs.map p)
  | [] => rfl
  | x :: xs => by simp only [List.map_cons, boolsOf, boolsOf_map p xs, Option.map]
end Rf
end

section
set_option Elab.async false
set_option linter.all false
set_option maxRecDepth 100000
set_option maxHeartbeats 4000000
/-! Rf, part U: evaluation, one lemma for each kind of computation. -/
namespace Rf
open PySem PySem.Spec PyProof.Rows L2
section
variable {c : Cm} {ρ ρ1 : Ev} {S S1 S2 S3 : Sto} {a b m mo mi mv : M D} {ms r : M (List D)} {t u : M Bool} {x y d v : D} {xs ds : List D} {s1 s2 rest : MS} {p q k : Bool} {i j : Nat} {n : Int}
theorem v_var (h : ρ[i]? = some (some d)) : mVar i c ρ S = .ok d S := by simp only [mVar, h]
theorem v_lit : mLit d c ρ S = .ok d S := rfl
theorem v_op {f : OpD} {z : Res D} (h1 : a c ρ S = .ok x S1) (h2 : b c ρ S1 = .ok y S2) (h3 : f x y S2 = z) : mOp f a b c ρ S = z := by simp only [mOp, M.bind, h1, h2, Res.bind, h3]
theorem v_un {f : D → Sto → Res D} {z : Res D} (h1 : a c ρ S = .ok x S1) (h3 : f x S1 = z) : mUn f a c ρ S = z := by simp only [mUn, M.bind, h1, Res.bind, h3]
theorem a_nil : aNil c ρ S = .ok [] S := rfl
theorem a_cons (h1 : a c ρ S = .ok x S1) (h2 : r c ρ S1 = .ok xs S2) : aCons a r c ρ S = .ok (x :: xs) S2 := by simp only [aCons, M.bind, M.ret, h1, h2, Res.bind]
theorem a_star {es : List D} (h1 : a c ρ S = .ok x S1) (hi : itemsOf x S1 = some es) (h2 : r c ρ S1 = .ok xs S2) : aStar a r c ρ S = .ok (es ++ xs) S2 := by simp only [aStar, M.bind, h1, Res.bind, hi, h2]
theorem v_call {z : Res D} (h1 : ms c ρ S = .ok ds S1) (h2 : c.call i ds S1 = z) : mCall i ms c ρ S = z := by simp only [mCall, M.bind, h1, Res.bind, h2]
theorem v_bi {f : CallD} {z : Res D} (h1 : ms c ρ S = .ok ds S1) (h2 : f ds S1 = z) : mBi f ms c ρ S = z := by simp only [mBi, M.bind, h1, Res.bind, h2]
theorem v_li {f : ListF} {z : Res D} (h1 : ms c ρ S = .ok ds S1) (h2 : f ds S1 = z) : mLi f ms c ρ S = z := by simp only [mLi, M.bind, h1, Res.bind, h2]
theorem v_tup (h1 : ms c ρ S = .ok ds S1) (hl : ds.length ≤ sizeLine) : mTup ms c ρ S = .ok (.tup ds) S1 := by simp only [mTup, M.bind, h1, Res.bind, if_pos hl]
theorem l_lst (h1 : ms c ρ S = .ok ds S1) (hl : ds.length ≤ sizeLine) : lLst ms c ρ S = .ok ds S1 := by simp only [lLst, M.bind, h1, Res.bind, if_pos hl]
theorem v_new (h1 : ms c ρ S = .ok ds S1) (hl : ds.length ≤ sizeLine) : mNew ms c ρ S = .ok (.ref S1.length) (S1 ++ [.lst ds]) := by simp only [mNew, M.bind, h1, Res.bind, if_pos hl]
theorem v_an (h1 : a c ρ S = .ok (.bl p) S) (h2 : p = true → b c ρ S = .ok (.bl q) S) : mAn a b c ρ S = .ok (.bl (p && q)) S := by
  cases p with
  | true => simp only [mAn, M.bind, h1, Res.bind, h2 rfl, Bool.true_and]
  | false => simp only [mAn, M.bind, M.ret, h1, Res.bind, Bool.false_and]
theorem v_an_t {z : Res D} (h1 : a c ρ S = .ok (.bl true) S1) (h2 : b c ρ S1 = z) : mAn a b c ρ S = z := by simp only [mAn, M.bind, h1, Res.bind, h2]
theorem v_an_f (h1 : a c ρ S = .ok (.bl false) S1) : mAn a b c ρ S = .ok (.bl false) S1 := by simp only [mAn, M.bind, M.ret, h1, Res.bind]
theorem v_o (h1 : a c ρ S = .ok (.bl p) S) (h2 : p = false → b c ρ S = .ok (.bl q) S) : mO a b c ρ S = .ok (.bl (p || q)) S := by
  cases p with
  | false => simp only [mO, M.bind, h1, Res.bind, h2 rfl, Bool.false_or]
  | true => simp only [mO, M.bind, M.ret, h1, Res.bind, Bool.true_or]
theorem v_no (h1 : a c ρ S = .ok d S1) (ht : truth d S1 = some k) : mNo a c ρ S = .ok (.bl !k) S1 := by simp only [mNo, M.bind, h1, Res.bind, ht]
theorem v_if {z : Res D} (h1 : t c ρ S = .ok k S1) (h2 : k = true → a c ρ S1 = z) (h3 : k = false → b c ρ S1 = z) : mIf t a b c ρ S = z := by
  cases k with
  | true => simp only [mIf, M.bind, h1, Res.bind, if_true, h2 rfl]
  | false => simp only [mIf, M.bind, h1, Res.bind, Bool.false_eq_true, if_false, h3 rfl]
theorem v_chain {e : M D} {f g : Int → Int → Bool} {i j l : Int} (h1 : a c ρ S = .ok (.int i) S) (h2 : b c ρ S = .ok (.int j) S) (h3 : e c ρ S = .ok (.int l) S) : mChain (cmpI f) (cmpI g) a b e c ρ S = .ok (.bl (f i j && g j l)) S := by
  simp only [mChain, M.bind, h1, h2, Res.bind, cmpI]
  cases f i j with
  | true => simp only [h3, Bool.true_and]
  | false => simp only [Bool.false_and]
theorem t_tru (h1 : a c ρ S = .ok d S1) (ht : truth d S1 = some k) : tTru a c ρ S = .ok k S1 := by simp only [tTru, M.bind, h1, Res.bind, ht]
theorem t_trub (h1 : a c ρ S = .ok (.bl k) S1) : tTru a c ρ S = .ok k S1 := t_tru h1 rfl
theorem t_boo (h1 : a c ρ S = .ok (.bl k) S1) : tBoo a c ρ S = .ok k S1 := by simp only [tBoo, M.bind, M.ret, h1, Res.bind]
theorem t_no (h1 : t c ρ S = .ok k S1) : tNo t c ρ S = .ok (!k) S1 := by simp only [tNo, M.bind, M.ret, h1, Res.bind]
theorem t_an (h1 : t c ρ S = .ok p S) (h2 : p = true → u c ρ S = .ok q S) : tAn t u c ρ S = .ok (p && q) S := by
  cases p with
  | true => simp only [tAn, M.bind, h1, Res.bind, if_true, h2 rfl, Bool.true_and]
  | false => simp only [tAn, M.bind, M.ret, h1, Res.bind, Bool.false_eq_true, if_false, Bool.false_and]
theorem t_an_t {z : Res Bool} (h1 : t c ρ S = .ok true S1) (h2 : u c ρ S1 = z) : tAn t u c ρ S = z := by simp only [tAn, M.bind, h1, Res.bind, if_true, h2]
theorem t_an_f (h1 : t c ρ S = .ok false S1) : tAn t u c ρ S = .ok false S1 := by simp only [tAn, M.bind, M.ret, h1, Res.bind, Bool.false_eq_true, if_false]
theorem t_o (h1 : t c ρ S = .ok p S) (h2 : p = false → u c ρ S = .ok q S) : tO t u c ρ S = .ok (p || q) S := by
  cases p with
  | false => simp only [tO, M.bind, h1, Res.bind, Bool.false_eq_true, if_false, h2 rfl, Bool.false_or]
  | true => simp only [tO, M.bind, M.ret, h1, Res.bind, if_true, Bool.true_or]
theorem t_o_t (h1 : t c ρ S = .ok true S1) : tO t u c ρ S = .ok true S1 := by simp only [tO, M.bind, M.ret, h1, Res.bind, if_true]
theorem t_o_f {z : Res Bool} (h1 : t c ρ S = .ok false S1) (h2 : u c ρ S1 = z) : tO t u c ρ S = z := by simp only [tO, M.bind, h1, Res.bind, Bool.false_eq_true, if_false, h2]
/-! statements -/
theorem s_ret (h1 : m c ρ S = .ok d S1) : sRet m c ρ S = .ok (.rt d) S1 := by simp only [sRet, M.bind, M.ret, h1, Res.bind]
theorem s_nil : sNil c ρ S = .ok (.nx ρ) S := rfl
theorem s_if {z : Res Out} (h1 : t c ρ S = .ok k S1) (h2 : k = true → s1 c ρ S1 = z) (h3 : k = false → s2 c ρ S1 = z) : sIf t s1 s2 c ρ S = z := by
  cases k with
  | true => simp only [sIf, M.bind, h1, Res.bind, if_true, h2 rfl]
  | false => simp only [sIf, M.bind, h1, Res.bind, Bool.false_eq_true, if_false, h3 rfl]
theorem s_nx {z : Res Out} (h1 : s1 c ρ S = .ok (.nx ρ1) S1) (h2 : s2 c ρ1 S1 = z) : sSeq s1 s2 c ρ S = z := by simp only [sSeq, h1, Res.bind, h2]
theorem s_rt (h1 : s1 c ρ S = .ok (.rt d) S1) : sSeq s1 s2 c ρ S = .ok (.rt d) S1 := by simp only [sSeq, h1, Res.bind]
theorem s_asg {tg : Tg} (h1 : m c ρ S = .ok d S1) (hp : tg.put d ρ = some ρ1) : sAsg tg m c ρ S = .ok (.nx ρ1) S1 := by simp only [sAsg, M.bind, h1, Res.bind, hp]
theorem s_drop (h1 : m c ρ S = .ok d S1) : sDrop m c ρ S = .ok (.nx ρ) S1 := by simp only [sDrop, M.bind, h1, Res.bind]
theorem s_sub (h1 : mv c ρ S = .ok v S1) (h2 : mo c ρ S1 = .ok x S2) (h3 : mi c ρ S2 = .ok y S3) {S4 : Sto} (h4 : setD x y v S3 = .ok () S4) : sSub mo mi mv c ρ S = .ok (.nx ρ) S4 := by simp only [sSub, M.bind, h1, h2, h3, Res.bind, h4]
/-- if t: return False; rest -/
theorem s_guard (h1 : t c ρ S = .ok k S) (h2 : k = false → rest c ρ S = .ok (.rt (.bl q)) S) : sSeq (sIf t (sRet (mLit (.bl false))) sNil) rest c ρ S = .ok (.rt (.bl (!k && q))) S := by
  cases k with
  | true => exact s_rt (s_if h1 (fun _ => s_ret v_lit) (fun z => by cases z))
  | false => exact s_nx (s_if h1 (fun z => by cases z) (fun _ => s_nil)) (h2 rfl)
end
/-! shapes of values -/
def isTup : D → Bool
  | .tup _ => true
  | _ => false
def lenT : D → Nat
  | .tup ds => ds.length
  | _ => 0
def nth (v : D) (i : Nat) : D := match v with
  | .tup ds => ds.getD i .non
  | _ => .non
def itm : D → List D
  | .tup ds => ds
  | _ => []
theorem tup_itm {v : D} (h : isTup v = true) : v = .tup (itm v) := by
  cases v with
  | tup ds => rfl
  | _ => cases h
theorem len_itm {v : D} : lenT v = (itm v).length := by cases v <;> rfl
theorem atI_get {xs : List D} {i : Nat} (h : i < xs.length) : atI xs (i : Int) = some (xs.getD i .non) := by
  unfold atI ixN
  rw [if_pos (by omega), if_pos (by omega)]
  simp [h, List.getD_eq_getElem?_getD]
theorem idx_nth {v : D} {S : Sto} {i : Nat} (h : isTup v = true) (hi : i < lenT v) : idxD v (.int (i : Int)) S = .ok (nth v i) S := by
  cases v with
  | tup ds => simp only [idxD, atI_get (show i < ds.length from hi), nth]
  | _ => cases h
end Rf
end

section
set_option Elab.async false
set_option linter.all false
set_option maxRecDepth 100000
set_option maxHeartbeats 4000000
/-! sorted lists of keys -/
namespace Rf
open PySem PySem.Spec PyProof.Rows L2
def kLt (a b : NestedKey) : Bool := !kLe b a
theorem kLt_eq (a b : NestedKey) : kLt a b = (listOrd itemOrd).blt (PySem.W.keyToks a.data) (PySem.W.keyToks b.data) := by
  show (!(!(listOrd itemOrd).blt (PySem.W.keyToks a.data) (PySem.W.keyToks b.data))) = _
  rw [Bool.not_not]
theorem kLt_data (a b : NestedKey) : kLt a b = PySem.W.dataLt a.data b.data := kLt_eq a b
theorem kLt_trans {a b c : NestedKey} (h1 : kLt a b = true) (h2 : kLt b c = true) : kLt a c = true := by
  rw [kLt_eq] at *
  exact (listOrd itemOrd).trans _ _ _ h1 h2
theorem kLt_irrefl (a : NestedKey) : kLt a a = false := by
  rw [kLt_eq]
  exact (listOrd itemOrd).irrefl _
theorem kLt_le {a b : NestedKey} (h : kLt a b = true) : kLe a b = true := by
  have h2 : kLt b a = false := by
    cases e : kLt b a with
    | false => rfl
    | true => have := kLt_trans h e; rw [kLt_irrefl] at this; cases this
  unfold kLt at h2
  simpa using h2
def adjK : List NestedKey → Bool
  | a :: b :: r => kLt a b && adjK (b :: r)
  | _ => true
theorem adj_pair : ∀ {ks : List NestedKey}, adjK ks = true → ks.Pairwise fun a b => kLt a b = true
  | [], _ => List.Pairwise.nil
  | [a], _ => List.pairwise_cons.mpr ⟨fun b hb => (by cases hb), List.Pairwise.nil⟩
  | a :: b :: r, h => by
    simp only [adjK, Bool.and_eq_true] at h
    have ih := adj_pair h.2
    refine List.pairwise_cons.mpr ⟨fun x hx => ?_, ih⟩
    rcases List.mem_cons.mp hx with rfl | hx
    · exact h.1
    · exact kLt_trans h.1 ((List.pairwise_cons.mp ih).1 x hx)
theorem pair_adj : ∀ {ks : List NestedKey}, (ks.Pairwise fun a b => kLt a b = true) → adjK ks = true
  | [], _ => rfl
  | [a], _ => rfl
  | a :: b :: r, h => by
    obtain ⟨h1, h2⟩ := List.pairwise_cons.mp h
    simp only [adjK, h1 b List.mem_cons_self, pair_adj h2, Bool.and_self]
theorem adj_sorted {ks : List NestedKey} (h : ∀ a ∈ ks, ∀ b ∈ ks, PySem.W.alike a.data b.data = true) (ha : adjK ks = true) : sortK (dedupK ks) = ks := by
  have p := adj_pair ha
  have nd : ks.Nodup := p.imp fun {a b} z e => by rw [e, kLt_irrefl] at z; cases z
  refine sortK_unique ((List.perm_ext_iff_of_nodup (nodup_dedupK ks) nd).mpr fun x => mem_dedupK) (fun a ha b hb => h a (mem_dedupK.mp ha) b (mem_dedupK.mp hb)) (p.imp fun z => kLt_le z)
theorem sorted_adj {ks : List NestedKey} (h : ∀ a ∈ ks, ∀ b ∈ ks, PySem.W.alike a.data b.data = true) : adjK (sortK (dedupK ks)) = true := by
  refine pair_adj ?_
  have nd : (sortK (dedupK ks)).Nodup := (List.mergeSort_perm _ _).nodup_iff.mpr (nodup_dedupK ks)
  have pw : (sortK (dedupK ks)).Pairwise fun a b => kLe a b = true := PySem.W.sort_pairwise kLe_total _
  have mem : ∀ {x : NestedKey}, x ∈ sortK (dedupK ks) → x ∈ ks := fun hx => mem_dedupK.mp ((List.mergeSort_perm _ _).mem_iff.mp hx)
  refine (List.pairwise_and_iff.mpr ⟨pw, nd⟩).imp_of_mem fun {a b} ha hb z => ?_
  unfold kLt
  cases e : kLe b a with
  | false => rfl
  | true => exact absurd (kLe_anti (h a (mem ha) b (mem hb)) z.1 e) z.2
theorem adj_iff {ks : List NestedKey} (h : ∀ a ∈ ks, ∀ b ∈ ks, PySem.W.alike a.data b.data = true) : adjK ks = NestedKey.beqAll ks (sortK (dedupK ks)) := by
  rw [Bool.eq_iff_iff]
  constructor
  · intro ha
    rw [adj_sorted h ha]
    exact NestedKey.beqAll_self ks
  · intro hb
    have := NestedKey.eq_of_beqAll _ _ hb
    rw [this]
    exact sorted_adj h
/-! what a key's data is -/
mutual
theorem q_key {S : Sto} : ∀ (d : D) (k : NestedKey) (n : Nat), nkey d = some k → k.depth < n → toQ n S d = some k.data
  | .non, k, n, h, hn => by
    simp only [nkey, Option.some.injEq] at h
    subst h
    cases n with
    | zero => omega
    | succ n => simp only [toQ, NestedKey.data]
  | .int i, k, n, h, hn => by
    simp only [nkey, Option.some.injEq] at h
    subst h
    cases n with
    | zero => omega
    | succ n => simp only [toQ, NestedKey.data]
  | .tup ds, k, n, h, hn => by
    simp only [nkey] at h
    cases e : nkeys ds with
    | none => rw [e] at h; cases h
    | some ks =>
      rw [e] at h; cases h
      cases n with
      | zero => omega
      | succ n =>
        simp only [NestedKey.depth] at hn
        simp only [toQ, NestedKey.data, qs_key ds ks n e (by omega)]
        rfl
  | .bl _, k, n, h, _ => by simp only [nkey] at h; cases h
  | .str _, k, n, h, _ => by simp only [nkey] at h; cases h
  | .ref _, k, n, h, _ => by simp only [nkey] at h; cases h
  | .ty _, k, n, h, _ => by simp only [nkey] at h; cases h
  | .rol _, k, n, h, _ => by simp only [nkey] at h; cases h
theorem qs_key {S : Sto} : ∀ (ds : List D) (ks : List NestedKey) (n : Nat), nkeys ds = some ks → NestedKey.depthAll ks < n → ds.mapM (toQ n S) = some (NestedKey.datas ks)
  | [], ks, n, h, hn => by
    simp only [nkeys, Option.some.injEq] at h
    subst h
    rfl
  | d :: ds, ks, n, h, hn => by
    simp only [nkeys] at h
    split at h
    · rename_i k r e1 e2
      cases h
      simp only [NestedKey.depthAll] at hn
      rw [List.mapM_cons, q_key d k n e1 (by omega), qs_key ds r n e2 (by omega)]
      rfl
    · cases h
end
/-- rows a, b, c, (n, ..) -/
def RK (k : NestedKey) : Prop := ∃ (a b c : Int) (ns : List Int), k = .tup [.num a, .num b, .num c, .tup (ns.map .num)]
theorem alike_nums : ∀ (as bs : List Int), PySem.W.alikeAll (NestedKey.datas (as.map .num)) (NestedKey.datas (bs.map .num)) = true
  | [], _ => by simp [NestedKey.datas, PySem.W.alikeAll]
  | _ :: _, [] => by simp [NestedKey.datas, PySem.W.alikeAll]
  | a :: as, b :: bs => by simp [NestedKey.datas, NestedKey.data, PySem.W.alikeAll, PySem.W.alike, alike_nums as bs]
theorem RK.alike {x y : NestedKey} (hx : RK x) (hy : RK y) : PySem.W.alike x.data y.data = true := by
  obtain ⟨a, b, c, ns, rfl⟩ := hx
  obtain ⟨a', b', c', ns', rfl⟩ := hy
  simp [NestedKey.data, NestedKey.datas, PySem.W.alike, PySem.W.alikeAll, alike_nums]
theorem depth_nums : ∀ ns : List Int, NestedKey.depthAll (ns.map .num) = 0
  | [] => by simp [NestedKey.depthAll]
  | n :: ns => by simp [NestedKey.depthAll, NestedKey.depth, depth_nums ns]
theorem RK.depth {x : NestedKey} (hx : RK x) : x.depth = 2 := by
  obtain ⟨a, b, c, ns, rfl⟩ := hx
  simp [NestedKey.depth, NestedKey.depthAll, depth_nums]
theorem RK.row {x : NestedKey} (hx : RK x) : isRow x = true := by
  have hd := hx.depth
  obtain ⟨a, b, c, ns, rfl⟩ := hx
  simp only [isRow, hd]; decide
theorem depthAll_le {n : Nat} : ∀ {ks : List NestedKey}, (∀ k ∈ ks, k.depth ≤ n) → NestedKey.depthAll ks ≤ n
  | [], _ => by simp [NestedKey.depthAll]
  | k :: ks, h => by
    have := depthAll_le (n := n) fun x hx => h x (List.mem_cons_of_mem _ hx)
    have := h k List.mem_cons_self
    simp only [NestedKey.depthAll]; omega
mutual
theorem key_lay : ∀ k : NestedKey, noTxt k = true → k.data.canLay0 = true
  | .none, _ => by simp [NestedKey.data, PyData.canLay0]
  | .num _, _ => by simp [NestedKey.data, PyData.canLay0]
  | .text _, h => by simp [noTxt] at h
  | .tup ks, h => by simp only [NestedKey.data, PyData.canLay0]; exact keys_lay ks (by simpa only [noTxt] using h)
theorem keys_lay : ∀ ks : List NestedKey, noTxts ks = true → PyData.canLayAll0 (NestedKey.datas ks) = true
  | [], _ => by simp [NestedKey.datas, PyData.canLayAll0]
  | k :: ks, h => by
    simp only [noTxts, Bool.and_eq_true] at h
    simp [NestedKey.datas, PyData.canLayAll0, key_lay k h.1, keys_lay ks h.2]
end
end Rf
end

section
set_option Elab.async false
set_option linter.all false
set_option maxRecDepth 100000
set_option maxHeartbeats 4000000
/-! Rf, part W: values of moderate size: what is known of them, their repr. -/
namespace Rf
open PySem PySem.Spec PyProof.Rows L2
/-! values whose data is known, to a depth -/
def hkD : Nat → Sto → D → Bool
  | 0, _, _ => false
  | n + 1, S, d => match d with
    | .tup ds => ds.all (hkD n S)
    | .ref k => match S[k]? with
      | some (.lst ds) => ds.all (hkD n S)
      | none => false
    | .rol _ => false
    | .ty _ => false
    | _ => true
theorem hk_mono {S : Sto} : ∀ {n : Nat} {d : D}, hkD n S d = true → hkD (n + 1) S d = true
  | 0, d, h => by cases h
  | n + 1, d, h => by
    cases d with
    | tup ds =>
      simp only [hkD, List.all_eq_true] at h ⊢
      exact fun x hx => by have := hk_mono (h x hx); simpa only [hkD] using this
    | ref k =>
      simp only [hkD] at h ⊢
      cases e : S[k]? with
      | none => rw [e] at h; cases h
      | some o =>
        cases o with
        | lst ds =>
          rw [e] at h
          simp only [List.all_eq_true] at h ⊢
          exact fun x hx => by have := hk_mono (h x hx); simpa only [hkD] using this
    | _ => exact h
theorem hk_le {S : Sto} {m n : Nat} {d : D} (hmn : m ≤ n) (h : hkD m S d = true) : hkD n S d = true := by
  induction hmn with
  | refl => exact h
  | step _ ih => exact hk_mono ih
theorem mapM_of {f : D → Option PyData} : ∀ {xs : List D}, (∀ x ∈ xs, ∃ y, f x = some y) → ∃ ys, xs.mapM f = some ys
  | [], _ => ⟨[], rfl⟩
  | x :: xs, h => by
    obtain ⟨y, e1⟩ := h x List.mem_cons_self
    obtain ⟨ys, e2⟩ := mapM_of fun z hz => h z (List.mem_cons_of_mem _ hz)
    exact ⟨y :: ys, by rw [List.mapM_cons, e1, e2]; rfl⟩
theorem hk_q {S : Sto} : ∀ {n : Nat} {d : D}, hkD n S d = true → ∃ p, toQ n S d = some p
  | 0, d, h => by cases h
  | n + 1, d, h => by
    cases d with
    | tup ds =>
      simp only [hkD, List.all_eq_true] at h
      obtain ⟨ps, e⟩ := mapM_of (f := toQ n S) fun x hx => hk_q (h x hx)
      exact ⟨_, by simp only [toQ, e]; rfl⟩
    | ref k =>
      simp only [hkD] at h
      cases e : S[k]? with
      | none => rw [e] at h; cases h
      | some o =>
        cases o with
        | lst ds =>
          rw [e] at h
          simp only [List.all_eq_true] at h
          obtain ⟨ps, e2⟩ := mapM_of (f := toQ n S) fun x hx => hk_q (h x hx)
          exact ⟨_, by simp only [toQ, e, e2]; rfl⟩
    | rol ns => cases h
    | ty n => cases h
    | _ => exact ⟨_, rfl⟩
def HK (S : Sto) (v : D) : Prop := hkD 30 S v = true
theorem HK.q {S : Sto} {v : D} (h : HK S v) : ∃ p, toQ 30 S v = some p := hk_q h
theorem HK.mem {S : Sto} {ds : List D} (h : HK S (.tup ds)) : ∀ d ∈ ds, HK S d := fun d hd => by
  change hkD (29 + 1) S (.tup ds) = true at h
  simp only [hkD, List.all_eq_true] at h
  exact hk_le (m := 29) (by omega) (h d hd)
def short (i : Int) : Bool := decide (i.natAbs < 10 ^ 12) || decide (i = 10 ^ 20)
mutual
/-- the weight of a value of moderate size, to a depth -/
def gd : Nat → Sto → D → Option Nat
  | 0, _, _ => none
  | n + 1, S, d => match d with
    | .non => some 0
    | .bl _ => some 0
    | .int i => if short i = true then some 70 else none
    | .str x => if x.cps.toList.all (fun c => decide (c < 16 ^ 8)) = true then some x.cps.size else none
    | .tup ds => gds n S ds
    | .ref k => match S[k]? with
      | some (.lst ds) => gds n S ds
      | none => none
    | .rol _ => none
    | .ty _ => none
def gds : Nat → Sto → List D → Option Nat
  | _, _, [] => some 0
  | n, S, d :: ds => match gd n S d, gds n S ds with
    | some a, some b => some (a + 1 + b)
    | _, _ => none
end
theorem gds_nil {n : Nat} {S : Sto} : gds n S [] = some 0 := by simp only [gds]
theorem gds_cons {n : Nat} {S : Sto} {d : D} {ds : List D} {a b : Nat} (h1 : gd n S d = some a) (h2 : gds n S ds = some b) : gds n S (d :: ds) = some (a + 1 + b) := by simp only [gds, h1, h2]
theorem gds_inv {n : Nat} {S : Sto} {d : D} {ds : List D} {w : Nat} (h : gds n S (d :: ds) = some w) : ∃ a b, gd n S d = some a ∧ gds n S ds = some b ∧ w = a + 1 + b := by
  simp only [gds] at h
  split at h
  · rename_i a b e1 e2
    cases h
    exact ⟨a, b, e1, e2, rfl⟩
  · cases h
/-- what is known of data of moderate size -/
structure Mod1 (p : PyData) (w n : Nat) : Prop where
  show_ : p.showable = true
  leaf : p.leavesShort 25 = true
  wt : p.weight ≤ w
  dp : p.depth ≤ n
theorem short_ok {i : Int} (h : short i = true) : Mod1 (.int i) 70 1 := by
  unfold short at h
  rw [Bool.or_eq_true, decide_eq_true_eq, decide_eq_true_eq] at h
  rcases h with h | rfl
  · have hl : i.natAbs.log2 ≤ 40 := by
      by_cases z : i.natAbs = 0
      · rw [z]; decide
      · have : 2 ^ i.natAbs.log2 ≤ i.natAbs := Nat.log2_self_le z
        by_cases q : i.natAbs.log2 ≤ 40
        · exact q
        · have : 2 ^ 41 ≤ 2 ^ i.natAbs.log2 := Nat.pow_le_pow_right (by decide) (by omega)
          have e : (2 : Nat) ^ 41 = 2199023255552 := by decide
          have e2 : (10 : Nat) ^ 12 = 1000000000000 := by decide
          omega
    refine ⟨by simp only [PyData.showable, decide_eq_true_eq]; omega, ?_, ?_, by simp [PyData.depth]⟩
    · simp only [PyData.leavesShort, decide_eq_true_eq]
      have := PyData.shown_int_le h
      omega
    · simp only [PyData.weight]
      split <;> omega
  · exact ⟨by decide +kernel, by decide +kernel, by decide +kernel, by decide⟩
mutual
theorem gd_ok {S : Sto} : ∀ (n : Nat) (d : D) (w : Nat), gd n S d = some w → hkD n S d = true ∧ ∃ p, toQ n S d = some p ∧ Mod1 p w n
  | 0, d, w, h => by simp only [gd] at h; cases h
  | n + 1, .non, w, h => by
    simp only [gd] at h; cases h
    exact ⟨rfl, .none, rfl, by simp [PyData.showable], by simp [PyData.leavesShort], by simp [PyData.weight], by simp [PyData.depth]⟩
  | n + 1, .bl b, w, h => by
    simp only [gd] at h; cases h
    exact ⟨rfl, .bool b, rfl, by simp [PyData.showable], by simp [PyData.leavesShort], by simp [PyData.weight], by simp [PyData.depth]⟩
  | n + 1, .int i, w, h => by
    simp only [gd] at h
    split at h
    · rename_i hs
      cases h
      have := short_ok hs
      exact ⟨rfl, .int i, rfl, this.show_, this.leaf, this.wt, by have := this.dp; omega⟩
    · cases h
  | n + 1, .str x, w, h => by
    simp only [gd] at h
    split at h
    · rename_i hs
      cases h
      exact ⟨rfl, .str x, rfl, by simp [PyData.showable], by simpa [PyData.leavesShort] using hs, by simp [PyData.weight], by simp [PyData.depth]⟩
    · cases h
  | n + 1, .tup ds, w, h => by
    simp only [gd] at h
    obtain ⟨h1, ps, h2, h3, h4, h5, h6⟩ := gds_ok n ds w h
    refine ⟨by simp only [hkD, List.all_eq_true]; exact h1, .tuple ps, by simp only [toQ, h2]; rfl, by simpa only [PyData.showable] using h3, by simpa only [PyData.leavesShort] using h4, by simpa only [PyData.weight] using h5, (by simp only [PyData.depth]; omega)⟩
  | n + 1, .ref k, w, h => by
    simp only [gd] at h
    cases e : S[k]? with
    | none => rw [e] at h; cases h
    | some o =>
      cases o with
      | lst ds =>
        rw [e] at h
        obtain ⟨h1, ps, h2, h3, h4, h5, h6⟩ := gds_ok n ds w h
        refine ⟨by simp only [hkD, e, List.all_eq_true]; exact h1, .list ps, by simp only [toQ, e, h2]; rfl, by simpa only [PyData.showable] using h3, by simpa only [PyData.leavesShort] using h4, by simpa only [PyData.weight] using h5, (by simp only [PyData.depth]; omega)⟩
  | n + 1, .rol _, w, h => by simp only [gd] at h; cases h
  | n + 1, .ty _, w, h => by simp only [gd] at h; cases h
theorem gds_ok {S : Sto} : ∀ (n : Nat) (ds : List D) (w : Nat), gds n S ds = some w → (∀ d ∈ ds, hkD n S d = true) ∧ ∃ ps, ds.mapM (toQ n S) = some ps ∧ PyData.showableAll ps = true ∧ PyData.leavesShortAll 25 ps = true ∧ PyData.weightAll ps ≤ w ∧ PyData.depthAll ps ≤ n
  | n, [], w, h => by
    simp only [gds] at h; cases h
    exact ⟨fun d hd => (by cases hd), [], rfl, by simp [PyData.showableAll], by simp [PyData.leavesShortAll], by simp [PyData.weightAll], by simp [PyData.depthAll]⟩
  | n, d :: ds, w, h => by
    obtain ⟨a, b, e1, e2, rfl⟩ := gds_inv h
    obtain ⟨h1, p, h2, m⟩ := gd_ok n d a e1
    obtain ⟨g1, ps, g2, g3, g4, g5, g6⟩ := gds_ok n ds b e2
    refine ⟨fun x hx => ?_, p :: ps, by rw [List.mapM_cons, h2, g2]; rfl, by simp [PyData.showableAll, m.show_, g3], by simp [PyData.leavesShortAll, m.leaf, g4], by have := m.wt; simp only [PyData.weightAll]; omega, ?_⟩
    · rcases List.mem_cons.mp hx with rfl | hx
      · exact h1
      · exact g1 x hx
    · have := m.dp
      simp only [PyData.depthAll]
      omega
end
mutual
theorem toQ_mono {S : Sto} : ∀ (n : Nat) (d : D) (p : PyData), toQ n S d = some p → toQ (n + 1) S d = some p
  | 0, d, p, h => by cases h
  | n + 1, .non, p, h => h
  | n + 1, .bl b, p, h => h
  | n + 1, .int i, p, h => h
  | n + 1, .str x, p, h => h
  | n + 1, .ty _, p, h => by simp only [toQ] at h; cases h
  | n + 1, .rol _, p, h => h
  | n + 1, .tup ds, p, h => by
    simp only [toQ] at h ⊢
    cases e : ds.mapM (toQ n S) with
    | none => rw [e] at h; cases h
    | some ps =>
      rw [e] at h
      have := toQs_mono n ds ps e
      simp only [toQ] at this
      rw [this]; exact h
  | n + 1, .ref k, p, h => by
    simp only [toQ] at h ⊢
    cases e0 : S[k]? with
    | none => rw [e0] at h; cases h
    | some o =>
      cases o with
      | lst ds =>
        rw [e0] at h
        dsimp only at h ⊢
        cases e : ds.mapM (toQ n S) with
        | none => rw [e] at h; cases h
        | some ps =>
          rw [e] at h
          have := toQs_mono n ds ps e
          simp only [toQ] at this
          rw [this]; exact h
theorem toQs_mono {S : Sto} : ∀ (n : Nat) (ds : List D) (ps : List PyData), ds.mapM (toQ n S) = some ps → ds.mapM (toQ (n + 1) S) = some ps
  | n, [], ps, h => h
  | n, d :: ds, ps, h => by
    rw [List.mapM_cons] at h ⊢
    cases e1 : toQ n S d with
    | none => rw [e1] at h; cases h
    | some q =>
      cases e2 : ds.mapM (toQ n S) with
      | none => rw [e1, e2] at h; cases h
      | some qs =>
        rw [e1, e2] at h
        rw [toQ_mono n d q e1, toQs_mono n ds qs e2]
        exact h
end
theorem toQ_le {S : Sto} {m n : Nat} {d : D} {p : PyData} (hmn : m ≤ n) (h : toQ m S d = some p) : toQ n S d = some p := by
  induction hmn with
  | refl => exact h
  | step _ ih => exact toQ_mono _ _ _ ih
/-- a value of moderate size -/
def Good (S : Sto) (v : D) (W : Nat) : Prop := ∃ n w, n ≤ 20 ∧ w ≤ W ∧ gd n S v = some w
theorem Good.HK {S : Sto} {v : D} {W : Nat} (h : Good S v W) : HK S v := let ⟨n, w, h1, _, h3⟩ := h; hk_le (by omega) (gd_ok n v w h3).1
theorem Good.repr {S : Sto} {v : D} {W : Nat} (h : Good S v W) (hW : W ≤ 500000) : ∃ p : PyData, reprD [v] S = .ok (.str p.shown) S := by
  obtain ⟨n, w, h1, h2, h3⟩ := h
  obtain ⟨_, p, e, m⟩ := gd_ok n v w h3
  refine ⟨p, ?_⟩
  unfold reprD
  dsimp only
  rw [toQ_le (show n ≤ 30 by omega) e]
  dsimp only
  have l := PyData.shown_le 25 (by decide) p m.leaf
  have := m.wt
  have := m.dp
  rw [if_pos ⟨m.show_, by rw [sizeLine_eq]; omega, by omega⟩]
theorem repr_bl {b : Bool} {S : Sto} : reprD [.bl b] S = .ok (.str (PyData.bool b).shown) S := by
  show (if _ then _ else _) = _
  rw [if_pos ⟨by simp [PyData.showable], by cases b <;> (rw [sizeLine_eq]; decide), by simp [PyData.depth]⟩]
theorem eq_str {x y : Str} {S : Sto} : eqD (.str x) (.str y) S = .ok (.bl (x == y)) S := by
  show (if _ then _ else _) = _
  rw [if_pos (.inr rfl)]
  simp only [PyData.eqv]
end Rf
end

section
set_option Elab.async false
set_option linter.all false
set_option maxRecDepth 100000
set_option maxHeartbeats 0
/-! printed by gen.py: what the defs of the row compute -/
namespace Rf.L33
open PySem PySem.Spec PyProof.Rows L2 Rf
noncomputable section
def top (i : Nat) : Stmt := PySem.Challenge.pw_piledhigh_k33_watchers_and_what_is_none.main.body.getD i (.Pass ⟨0, 0, 0, 0⟩)
def consts : List (Str × D) := [("MOST_MOODS", .int 5), ("MOST_SLIPS", .int 6), ("MOST_RULES", .int 60), ("MOST_PUT", .int 2), ("TRIPLE", .int 3), ("FOUR", .int 4), ("MOST_STATES", .int 4), ("PAIR", .int 2)]
def fns : List (Str × Nat) := [("is_tuple", 0), ("is_whole", 1), ("is_integer", 2), ("is_rising", 3), ("is_rule", 4), ("is_office", 5), ("check_office", 6), ("is_row", 7), ("check_moods", 8), ("is_watcher", 9), ("check_mood", 10), ("never", 11), ("not_before", 12), ("not_behind", 13), ("_law_pot", 14), ("_law_take", 15), ("_law_of", 16), ("_law_places", 17), ("_law_odd", 18), ("_law_is_int", 19), ("_law_bent", 20), ("_law_office", 21), ("_law_watcher", 22), ("_law_is_watcher", 23), ("_law_right", 24), ("law", 25)]
def bis : List Str := ["abs", "all", "bool", "int", "isinstance", "len", "list", "max", "min", "range", "repr", "set", "sorted", "str", "sum", "tuple", "zip"]
def m_is_tuple : MS := sRet (mAn (mBi isiD (aCons (mVar 0) (aCons (mLit (.ty "tuple")) (aNil)))) (mChain (cmpI fun i j => decide (i ≤ j)) (cmpI fun i j => decide (i ≤ j)) (mVar 1) (mBi lenD (aCons (mVar 0) (aNil))) (mVar 2)))
def m_is_whole : MS := sRet (mAn (mBi isiD (aCons (mVar 0) (aCons (mLit (.ty "int")) (aNil)))) (mNo (mBi isiD (aCons (mVar 0) (aCons (mLit (.ty "bool")) (aNil))))))
def m_is_integer : MS := sRet (mAn (mCall 1 (aCons (mVar 0) (aNil))) (mChain (cmpI fun i j => decide (i ≤ j)) (cmpI fun i j => decide (i ≤ j)) (mVar 1) (mVar 0) (mVar 2)))
def m_is_rising : MS := sRet (mLi allOf (lComp (iZip (aCons (mVar 0) (aCons (mSl (mVar 0) (some (mLit (.int 1))) none) (aNil)))) [1, 2] (.tp [.nm 1, .nm 2]) (tYesD) (mOp ltD (mVar 1) (mVar 2))))
def m_is_rule : MS := sSeq (sIf (tO (tNo (tTru (mCall 0 (aCons (mVar 0) (aCons (mLit (.int 4)) (aCons (mLit (.int 4)) (aNil))))))) (tNo (tTru (mCall 2 (aCons (mOp idxD (mVar 0) (mLit (.int 0))) (aCons (mLit (.int 0)) (aCons (mOp subD (mVar 1) (mLit (.int 1))) (aNil)))))))) (sRet (mLit (.bl false))) (sNil)) (sSeq (sIf (tO (tNo (tTru (mCall 2 (aCons (mOp idxD (mVar 0) (mLit (.int 1))) (aCons (mLit (.int 0)) (aCons (mOp subD (mVar 2) (mLit (.int 1))) (aNil))))))) (tNo (tTru (mCall 2 (aCons (mOp idxD (mVar 0) (mLit (.int 2))) (aCons (mLit (.int 0)) (aCons (mOp subD (mVar 1) (mLit (.int 1))) (aNil)))))))) (sRet (mLit (.bl false))) (sNil)) (sRet (mAn (mCall 0 (aCons (mOp idxD (mVar 0) (mLit (.int 3))) (aCons (mLit (.int 0)) (aCons (mLit (.int 2)) (aNil))))) (mLi allOf (lComp (iAny (mOp idxD (mVar 0) (mLit (.int 3)))) [3] (.nm 3) (tYesD) (mCall 2 (aCons (mVar 3) (aCons (mLit (.int 0)) (aCons (mOp subD (mVar 2) (mLit (.int 1))) (aNil))))))))))
def m_is_office : MS := sSeq (sIf (tO (tNo (tTru (mCall 0 (aCons (mVar 0) (aCons (mLit (.int 3)) (aCons (mLit (.int 3)) (aNil))))))) (tNo (tTru (mCall 2 (aCons (mOp idxD (mVar 0) (mLit (.int 0))) (aCons (mLit (.int 1)) (aCons (mLit (.int 5)) (aNil)))))))) (sRet (mLit (.bl false))) (sNil)) (sSeq (sAsg (.tp [.nm 1, .nm 2, .nm 3]) (mVar 0)) (sSeq (sIf (tO (tNo (tTru (mCall 2 (aCons (mVar 2) (aCons (mLit (.int 1)) (aCons (mLit (.int 6)) (aNil))))))) (tNo (tTru (mCall 0 (aCons (mVar 3) (aCons (mLit (.int 0)) (aCons (mLit (.int 60)) (aNil)))))))) (sRet (mLit (.bl false))) (sNil)) (sRet (mAn (mLi allOf (lComp (iAny (mVar 3)) [4] (.nm 4) (tYesD) (mCall 4 (aCons (mVar 4) (aCons (mVar 1) (aCons (mVar 2) (aNil))))))) (mCall 3 (aCons (mVar 3) (aNil)))))))
def m_check_office : MS := sIf (tNo (tTru (mCall 5 (aCons (mVar 0) (aNil))))) (M.bad) (sNil)
def m_is_row : MS := sRet (mAn (mBi isiD (aCons (mVar 0) (aCons (mLit (.ty "tuple")) (aNil)))) (mAn (mLi allOf (lComp (iAny (mVar 0)) [2] (.nm 2) (tYesD) (mCall 2 (aCons (mVar 2) (aCons (mLit (.int 0)) (aCons (mOp subD (mVar 1) (mLit (.int 1))) (aNil))))))) (mCall 3 (aCons (mVar 0) (aNil)))))
def m_check_moods : MS := sIf (tNo (tTru (mCall 7 (aCons (mVar 1) (aCons (mOp idxD (mVar 0) (mLit (.int 0))) (aNil)))))) (M.bad) (sNil)
def m_is_watcher : MS := sSeq (sDrop (mCall 6 (aCons (mVar 0) (aNil)))) (sSeq (sIf (tO (tNo (tTru (mCall 0 (aCons (mVar 1) (aCons (mLit (.int 2)) (aCons (mLit (.int 2)) (aNil))))))) (tNo (tTru (mCall 0 (aCons (mOp idxD (mVar 1) (mLit (.int 0))) (aCons (mLit (.int 1)) (aCons (mLit (.int 4)) (aNil)))))))) (sRet (mLit (.bl false))) (sNil)) (sSeq (sAsg (.nm 2) (mBi lenD (aCons (mOp idxD (mVar 1) (mLit (.int 0))) (aNil)))) (sSeq (sIf (tNo (tTru (mLi allOf (lComp (iAny (mOp idxD (mVar 1) (mLit (.int 0)))) [3] (.nm 3) (tYesD) (mCall 0 (aCons (mVar 3) (aCons (mOp idxD (mVar 0) (mLit (.int 0))) (aCons (mOp idxD (mVar 0) (mLit (.int 0))) (aNil))))))))) (sRet (mLit (.bl false))) (sNil)) (sSeq (sIf (tNo (tTru (mLi allOf (lComp (iAny (mOp idxD (mVar 1) (mLit (.int 0)))) [3] (.nm 3) (tYesD) (mLi allOf (lComp (iAny (mVar 3)) [4] (.nm 4) (tYesD) (mCall 2 (aCons (mVar 4) (aCons (mLit (.int 0)) (aCons (mOp subD (mVar 2) (mLit (.int 1))) (aNil))))))))))) (sRet (mLit (.bl false))) (sNil)) (sSeq (sIf (tO (tNo (tTru (mBi isiD (aCons (mOp idxD (mVar 1) (mLit (.int 1))) (aCons (mLit (.ty "tuple")) (aNil)))))) (tNo (tTru (mLi allOf (lComp (iAny (mOp idxD (mVar 1) (mLit (.int 1)))) [4] (.nm 4) (tYesD) (mCall 2 (aCons (mVar 4) (aCons (mLit (.int 0)) (aCons (mOp subD (mVar 2) (mLit (.int 1))) (aNil)))))))))) (sRet (mLit (.bl false))) (sNil)) (sRet (mCall 3 (aCons (mOp idxD (mVar 1) (mLit (.int 1))) (aNil)))))))))
def m_check_mood : MS := sIf (tNo (tTru (mCall 2 (aCons (mVar 1) (aCons (mLit (.int 0)) (aCons (mOp subD (mOp idxD (mVar 0) (mLit (.int 0))) (mLit (.int 1))) (aNil))))))) (M.bad) (sNil)
def m_never : MS := sSeq (sDrop (mCall 6 (aCons (mVar 0) (aNil)))) (sSeq (sDrop (mCall 8 (aCons (mVar 0) (aCons (mVar 1) (aNil))))) (sSeq (sAsg (.nm 2) (mLi tupleL (lComp (iRg1 (aCons (mOp idxD (mVar 0) (mLit (.int 0))) (aNil))) [3] (.nm 3) (tYesD) (mBi intD (aCons (mOp (inQ false) (mVar 3) (mVar 1)) (aNil)))))) (sRet (mTup (aCons (mTup (aCons (mVar 2) (aCons (mOp mulD (mTup (aCons (mLit (.int 1)) (aNil))) (mOp idxD (mVar 0) (mLit (.int 0)))) (aNil)))) (aCons (mTup (aCons (mLit (.int 1)) (aNil))) (aNil)))))))
def m_not_before : MS := sSeq (sDrop (mCall 6 (aCons (mVar 0) (aNil)))) (sSeq (sDrop (mCall 10 (aCons (mVar 0) (aCons (mVar 1) (aNil))))) (sSeq (sDrop (mCall 10 (aCons (mVar 0) (aCons (mVar 2) (aNil))))) (sSeq (sAsg (.nm 3) (mOp mulD (mNew (lLst (aCons (mLit (.int 0)) (aNil)))) (mOp idxD (mVar 0) (mLit (.int 0))))) (sSeq (sSub (mVar 3) (mVar 2) (mLit (.int 2))) (sSeq (sSub (mVar 3) (mVar 1) (mLit (.int 1))) (sRet (mTup (aCons (mTup (aCons (mBi tupleD (aCons (mVar 3) (aNil))) (aCons (mOp mulD (mTup (aCons (mLit (.int 1)) (aNil))) (mOp idxD (mVar 0) (mLit (.int 0)))) (aCons (mOp mulD (mTup (aCons (mLit (.int 2)) (aNil))) (mOp idxD (mVar 0) (mLit (.int 0)))) (aNil))))) (aCons (mTup (aCons (mLit (.int 2)) (aNil))) (aNil))))))))))
def m_not_behind : MS := sSeq (sDrop (mCall 6 (aCons (mVar 0) (aNil)))) (sSeq (sDrop (mCall 10 (aCons (mVar 0) (aCons (mVar 1) (aNil))))) (sSeq (sDrop (mCall 10 (aCons (mVar 0) (aCons (mVar 2) (aNil))))) (sSeq (sAsg (.nm 3) (mNew (lComp (iRg1 (aCons (mOp idxD (mVar 0) (mLit (.int 0))) (aNil))) [5] (.nm 5) (tYesD) (mBi intD (aCons (mOp eqD (mVar 5) (mVar 1)) (aNil)))))) (sSeq (sAsg (.nm 4) (mBi listD (aCons (mVar 3) (aNil)))) (sSeq (sSub (mVar 4) (mVar 2) (mLit (.int 2))) (sRet (mTup (aCons (mTup (aCons (mBi tupleD (aCons (mVar 3) (aNil))) (aCons (mBi tupleD (aCons (mVar 4) (aNil))) (aCons (mOp mulD (mTup (aCons (mLit (.int 2)) (aNil))) (mOp idxD (mVar 0) (mLit (.int 0)))) (aNil))))) (aCons (mTup (aCons (mLit (.int 2)) (aNil))) (aNil))))))))))
def m_law_pot : MS := sSeq (sAsg (.nm 2) (mIf (tBoo (mOp ltD (mVar 1) (mBi lenD (aCons (mVar 0) (aNil))))) (mOp idxD (mVar 0) (mVar 1)) (mOp addD (mOp addD (mOp modD (mBi (onList sumOf) (aCons (mSl (mVar 0) none (some (mLit (.int 1)))) (aNil))) (mLit (.int 1000003))) (mOp mulD (mLit (.int 7387)) (mVar 1))) (mLit (.int 464))))) (sSeq (sAsg (.nm 3) (mOp mulD (mOp modD (mBi intD (aCons (mBi absD (aCons (mVar 2) (aNil))) (aNil))) (mOp powD (mOp powD (mLit (.int 10)) (mLit (.int 60))) (mLit (.int 5)))) (mBi intD (aCons (mOp (cmpI fun i j => decide (j ≤ i)) (mBi absD (aCons (mVar 2) (aNil))) (mOp powD (mLit (.int 10)) (mLit (.int 18)))) (aNil))))) (sSeq (sAsg (.nm 4) (mOp modD (mBi intD (aCons (mVar 2) (aNil))) (mLit (.int 2305843009213693951)))) (sRet (mNew (lLst (aCons (mVar 3) (aCons (mOp modD (mBi intD (aCons (mOp addD (mOp addD (mOp mulD (mVar 4) (mLit (.int 95137))) (mOp mulD (mOp mulD (mLit (.int 11855)) (mVar 1)) (mVar 1))) (mLit (.int 871))) (aNil))) (mLit (.int 2305843009213693921))) (aCons (mLit (.int 0)) (aNil)))))))))
def m_law_take : MS := sSeq (sIf (tBoo (mOp (cmpI fun i j => decide (j < i)) (mOp idxD (mVar 0) (mLit (.int 0))) (mLit (.int 0)))) (sSeq (sAsg (.nm 2) (mOp modD (mBi intD (aCons (mOp idxD (mVar 0) (mLit (.int 0))) (aNil))) (mVar 1))) (sSeq (sSub (mVar 0) (mLit (.int 0)) (mOp fdivD (mOp idxD (mVar 0) (mLit (.int 0))) (mVar 1))) (sRet (mVar 2)))) (sNil)) (sSeq (sSub (mVar 0) (mLit (.int 2)) (mOp addD (mOp idxD (mVar 0) (mLit (.int 2))) (mLit (.int 1)))) (sSeq (sAsg (.nm 3) (mOp idxD (mNew (lLst (aCons (mLit (.int 2147483647)) (aCons (mLit (.int 2147483629)) (aCons (mLit (.int 2147483587)) (aCons (mLit (.int 2147483579)) (aCons (mLit (.int 2147483563)) (aNil)))))))) (mOp modD (mBi intD (aCons (mOp idxD (mVar 0) (mLit (.int 2))) (aNil))) (mLit (.int 5))))) (sSeq (sAsg (.nm 4) (mOp modD (mBi intD (aCons (mOp powD (mBi intD (aCons (mOp addD (mOp addD (mOp idxD (mVar 0) (mLit (.int 1))) (mOp mulD (mOp mulD (mLit (.int 92026)) (mOp idxD (mVar 0) (mLit (.int 2)))) (mOp idxD (mVar 0) (mLit (.int 2))))) (mLit (.int 671))) (aNil))) (mLit (.int 3))) (aNil))) (mVar 3))) (sSeq (sAsg (.nm 4) (mOp modD (mBi intD (aCons (mOp mulD (mVar 4) (mOp addD (mOp modD (mBi intD (aCons (mVar 4) (aNil))) (mLit (.int 10259))) (mOp mulD (mLit (.int 122)) (mOp idxD (mVar 0) (mLit (.int 2)))))) (aNil))) (mLit (.int 2305843009213693907)))) (sRet (mOp modD (mBi intD (aCons (mOp fdivD (mVar 4) (mLit (.int 152))) (aNil))) (mVar 1)))))))
def m_law_of : MS := sRet (mOp idxD (mVar 1) (mCall 15 (aCons (mVar 0) (aCons (mBi lenD (aCons (mVar 1) (aNil))) (aNil)))))
def m_law_places : MS := sRet (mNew (lRg1 (mBi maxD (aCons (mLit (.int 1)) (aCons (mBi minD (aCons (mVar 1) (aCons (mBi lenD (aCons (mVar 0) (aNil))) (aNil)))) (aNil))))))
def m_law_odd : MS := sSeq (sAsg (.nm 1) (mNew (lLst (aCons (mLit .non) (aCons (mLit (.bl true)) (aCons (mLit (.bl false)) (aCons (mLit (.int 0)) (aCons (mLit (.int 1)) (aCons (mUn negD (mLit (.int 1))) (aCons (mLit (.int 2)) (aCons (mLit (.int 201)) (aCons (mLit (.str "")) (aCons (mLit (.str "a")) (aCons (mLit (.str "office")) (aCons (mLit (.str "never")) (aCons (mTup (aNil)) (aCons (mNew (lLst (aNil))) (aCons (mTup (aCons (mLit (.int 0)) (aNil))) (aCons (mTup (aCons (mTup (aNil)) (aNil))) (aCons (mNew (lLst (aCons (mLit (.int 1)) (aNil)))) (aCons (mTup (aCons (mLit (.bl true)) (aNil))) (aNil)))))))))))))))))))))) (sSeq (sAsg (.nm 1) (mOp addD (mVar 1) (mNew (lLst (aCons (mTup (aCons (mLit (.str "a")) (aNil))) (aCons (mTup (aCons (mLit (.int 0)) (aCons (mTup (aNil)) (aNil)))) (aCons (mTup (aCons (mLit (.int 7)) (aNil))) (aCons (mTup (aCons (mLit (.int 0)) (aCons (mNew (lLst (aCons (mLit (.int 0)) (aNil)))) (aNil)))) (aCons (mTup (aCons (mLit (.int 1)) (aCons (mLit (.int 1)) (aCons (mTup (aNil)) (aNil))))) (aCons (mTup (aCons (mLit (.int 1)) (aCons (mTup (aNil)) (aCons (mTup (aCons (mLit (.int 0)) (aNil))) (aNil))))) (aCons (mTup (aCons (mLit .non) (aCons (mTup (aNil)) (aNil)))) (aCons (mLit (.str "office 1 1")) (aCons (mOp powD (mLit (.int 10)) (mLit (.int 20))) (aNil)))))))))))))) (sRet (mCall 16 (aCons (mVar 0) (aCons (mVar 1) (aNil))))))
def m_law_is_int : MS := sRet (mAn (mBi isiD (aCons (mVar 0) (aCons (mLit (.ty "int")) (aNil)))) (mAn (mNo (mBi isiD (aCons (mVar 0) (aCons (mLit (.ty "bool")) (aNil))))) (mChain (cmpI fun i j => decide (i ≤ j)) (cmpI fun i j => decide (i ≤ j)) (mVar 1) (mVar 0) (mVar 2))))
def m_law_bent : MS := sSeq (sIf (tAn (tTru (mBi isiD (aCons (mVar 1) (aCons (mLit (.ty "tuple")) (aNil))))) (tAn (tBoo (mOp neD (mVar 1) (mTup (aNil)))) (tBoo (mOp (cmpI fun i j => decide (j < i)) (mCall 15 (aCons (mVar 0) (aCons (mLit (.int 5)) (aNil)))) (mLit (.int 0)))))) (sSeq (sAsg (.nm 2) (mCall 15 (aCons (mVar 0) (aCons (mBi lenD (aCons (mVar 1) (aNil))) (aNil))))) (sRet (mOp addD (mOp addD (mSl (mVar 1) none (some (mVar 2))) (mTup (aCons (mCall 20 (aCons (mVar 0) (aCons (mOp idxD (mVar 1) (mVar 2)) (aNil)))) (aNil)))) (mSl (mVar 1) (some (mOp addD (mVar 2) (mLit (.int 1)))) none)))) (sNil)) (sSeq (sIf (tTru (mBi isiD (aCons (mVar 1) (aCons (mLit (.ty "tuple")) (aNil))))) (sRet (mCall 16 (aCons (mVar 0) (aCons (mNew (lLst (aCons (mBi listD (aCons (mVar 1) (aNil))) (aCons (mSl (mVar 1) (some (mLit (.int 1))) none) (aCons (mSl (mVar 1) none (some (mUn negD (mLit (.int 1))))) (aCons (mOp addD (mVar 1) (mSl (mVar 1) (some (mUn negD (mLit (.int 1)))) none)) (aCons (mBack (mVar 1)) (aCons (mTup (aNil)) (aCons (mLit .non) (aNil)))))))))) (aNil))))) (sNil)) (sSeq (sIf (tTru (mBi isiD (aCons (mVar 1) (aCons (mLit (.ty "bool")) (aNil))))) (sRet (mCall 16 (aCons (mVar 0) (aCons (mNew (lLst (aCons (mNo (mVar 1)) (aCons (mBi intD (aCons (mVar 1) (aNil))) (aCons (mLit .non) (aNil)))))) (aNil))))) (sNil)) (sSeq (sIf (tTru (mBi isiD (aCons (mVar 1) (aCons (mLit (.ty "int")) (aNil))))) (sRet (mCall 16 (aCons (mVar 0) (aCons (mNew (lLst (aCons (mOp addD (mVar 1) (mLit (.int 1))) (aCons (mOp subD (mVar 1) (mLit (.int 1))) (aCons (mUn negD (mVar 1)) (aCons (mBi strD (aCons (mVar 1) (aNil))) (aCons (mLit .non) (aCons (mOp eqD (mVar 1) (mLit (.int 1))) (aCons (mTup (aCons (mVar 1) (aNil))) (aNil)))))))))) (aNil))))) (sNil)) (sSeq (sIf (tTru (mBi isiD (aCons (mVar 1) (aCons (mLit (.ty "str")) (aNil))))) (sSeq (sAsg (.nm 3) (mNew (lLst (aCons (mOp addD (mVar 1) (mLit (.str "a"))) (aCons (mSl (mVar 1) none (some (mUn negD (mLit (.int 1))))) (aCons (M.bad) (aCons (mNew (lLst (aCons (mVar 1) (aNil)))) (aCons (mLit (.str "a")) (aCons (mLit .non) (aCons (mLit (.int 0)) (aCons (mLit (.str "")) (aCons (mOp addD (mLit (.str "b")) (mVar 1)) (aCons (mOp addD (mVar 1) (mLit (.str "/"))) (aNil)))))))))))))) (sRet (mCall 16 (aCons (mVar 0) (aCons (mVar 3) (aNil)))))) (sNil)) (sRet (mCall 18 (aCons (mVar 0) (aNil))))))))
def m_law_office : MS := sSeq (sAsg (.tp [.nm 4, .nm 5, .nm 6]) (mTup (aCons (mOp addD (mLit (.int 1)) (mCall 15 (aCons (mVar 0) (aCons (mVar 1) (aNil))))) (aCons (mOp addD (mLit (.int 1)) (mCall 15 (aCons (mVar 0) (aCons (mVar 2) (aNil))))) (aCons (mNew (lLst (aNil))) (aNil)))))) (sSeq (sFor (.nm 7) (iRg1 (aCons (mCall 15 (aCons (mVar 0) (aCons (mOp addD (mVar 3) (mLit (.int 1))) (aNil)))) (aNil))) (sSeq (sAsg (.nm 8) (mLi tupleL (lComp (iRg1 (aCons (mCall 16 (aCons (mVar 0) (aCons (mNew (lLst (aCons (mLit (.int 0)) (aCons (mLit (.int 0)) (aCons (mLit (.int 1)) (aCons (mLit (.int 1)) (aCons (mLit (.int 2)) (aCons (mLit (.int 2)) (aNil))))))))) (aNil)))) (aNil))) [9] (.nm 9) (tYesD) (mCall 15 (aCons (mVar 0) (aCons (mVar 5) (aNil))))))) (sDrop (mMet "list" appD (mVar 6) (aCons (mTup (aCons (mCall 15 (aCons (mVar 0) (aCons (mVar 4) (aNil)))) (aCons (mCall 15 (aCons (mVar 0) (aCons (mVar 5) (aNil)))) (aCons (mCall 15 (aCons (mVar 0) (aCons (mVar 4) (aNil)))) (aCons (mVar 8) (aNil)))))) (aNil)))))) (sRet (mTup (aCons (mVar 4) (aCons (mVar 5) (aCons (mLi tupleL (lSset (mVar 6))) (aNil)))))))
def m_law_watcher : MS := sSeq (sAsg (.nm 2) (mOp addD (mLit (.int 1)) (mCall 15 (aCons (mVar 0) (aCons (mLit (.int 4)) (aNil)))))) (sSeq (sAsg (.nm 3) (mLi tupleL (lComp (iRg1 (aCons (mVar 2) (aNil))) [4] (.nm 4) (tYesD) (mLi tupleL (lComp (iRg1 (aCons (mOp idxD (mVar 1) (mLit (.int 0))) (aNil))) [5] (.nm 5) (tYesD) (mCall 15 (aCons (mVar 0) (aCons (mVar 2) (aNil))))))))) (sRet (mTup (aCons (mVar 3) (aCons (mLi tupleL (lComp (iRg1 (aCons (mVar 2) (aNil))) [4] (.nm 4) (tBoo (mOp eqD (mCall 15 (aCons (mVar 0) (aCons (mLit (.int 3)) (aNil)))) (mLit (.int 0)))) (mVar 4))) (aNil))))))
def m_law_is_watcher : MS := sSeq (sIf (tO (tNo (tTru (mBi isiD (aCons (mVar 1) (aCons (mLit (.ty "tuple")) (aNil)))))) (tBoo (mOp neD (mBi lenD (aCons (mVar 1) (aNil))) (mLit (.int 2))))) (sRet (mLit (.bl false))) (sNil)) (sSeq (sIf (tO (tNo (tTru (mBi isiD (aCons (mOp idxD (mVar 1) (mLit (.int 0))) (aCons (mLit (.ty "tuple")) (aNil)))))) (tNo (tBoo (mChain (cmpI fun i j => decide (i ≤ j)) (cmpI fun i j => decide (i ≤ j)) (mLit (.int 1)) (mBi lenD (aCons (mOp idxD (mVar 1) (mLit (.int 0))) (aNil))) (mLit (.int 4)))))) (sRet (mLit (.bl false))) (sNil)) (sSeq (sAsg (.nm 2) (mBi lenD (aCons (mOp idxD (mVar 1) (mLit (.int 0))) (aNil)))) (sSeq (sFor (.nm 3) (iAny (mOp idxD (mVar 1) (mLit (.int 0)))) (sSeq (sIf (tO (tNo (tTru (mBi isiD (aCons (mVar 3) (aCons (mLit (.ty "tuple")) (aNil)))))) (tBoo (mOp neD (mBi lenD (aCons (mVar 3) (aNil))) (mOp idxD (mVar 0) (mLit (.int 0)))))) (sRet (mLit (.bl false))) (sNil)) (sIf (tNo (tTru (mLi allOf (lComp (iAny (mVar 3)) [4] (.nm 4) (tYesD) (mCall 19 (aCons (mVar 4) (aCons (mLit (.int 0)) (aCons (mOp subD (mVar 2) (mLit (.int 1))) (aNil))))))))) (sRet (mLit (.bl false))) (sNil)))) (sSeq (sIf (tO (tNo (tTru (mBi isiD (aCons (mOp idxD (mVar 1) (mLit (.int 1))) (aCons (mLit (.ty "tuple")) (aNil)))))) (tNo (tTru (mLi allOf (lComp (iAny (mOp idxD (mVar 1) (mLit (.int 1)))) [4] (.nm 4) (tYesD) (mCall 19 (aCons (mVar 4) (aCons (mLit (.int 0)) (aCons (mOp subD (mVar 2) (mLit (.int 1))) (aNil)))))))))) (sRet (mLit (.bl false))) (sNil)) (sRet (mOp eqD (mBi listD (aCons (mOp idxD (mVar 1) (mLit (.int 1))) (aNil))) (mNew (lSset (mOp idxD (mVar 1) (mLit (.int 1)))))))))))
def m_law_right : MS := sSeq (sAsg (.nm 1) (mCall 21 (aCons (mVar 0) (aCons (mLit (.int 4)) (aCons (mLit (.int 3)) (aCons (mLit (.int 5)) (aNil))))))) (sSeq (sAsg (.tp [.nm 2, .nm 3]) (mTup (aCons (mCall 15 (aCons (mVar 0) (aCons (mOp idxD (mVar 1) (mLit (.int 0))) (aNil)))) (aCons (mCall 15 (aCons (mVar 0) (aCons (mOp idxD (mVar 1) (mLit (.int 0))) (aNil)))) (aNil))))) (sSeq (sAsg (.nm 4) (mLi tupleL (lComp (iRg1 (aCons (mOp idxD (mVar 1) (mLit (.int 0))) (aNil))) [13] (.nm 13) (tBoo (mOp eqD (mCall 15 (aCons (mVar 0) (aCons (mLit (.int 2)) (aNil)))) (mLit (.int 0)))) (mVar 13)))) (sSeq (sAsg (.nm 5) (mNew (lRg1 (mOp idxD (mVar 1) (mLit (.int 0)))))) (sSeq (sAsg (.nm 6) (mTup (aCons (mLi tupleL (lComp (iAny (mVar 5)) [13] (.nm 13) (tYesD) (mLit (.int 1)))) (aCons (mLi tupleL (lComp (iAny (mVar 5)) [13] (.nm 13) (tYesD) (mLit (.int 2)))) (aNil))))) (sSeq (sAsg (.nm 7) (mTup (aCons (mLi tupleL (lComp (iAny (mVar 5)) [13] (.nm 13) (tYesD) (mIf (tBoo (mOp (inQ false) (mVar 13) (mVar 4))) (mLit (.int 1)) (mLit (.int 0))))) (aCons (mOp idxD (mVar 6) (mLit (.int 0))) (aNil))))) (sSeq (sIf (tBoo (mOp neD (mBi reprD (aCons (mCall 11 (aCons (mVar 1) (aCons (mVar 4) (aNil)))) (aNil))) (mBi reprD (aCons (mTup (aCons (mVar 7) (aCons (mTup (aCons (mLit (.int 1)) (aNil))) (aNil)))) (aNil))))) (sRet (mLit (.bl false))) (sNil)) (sSeq (sAsg (.nm 8) (mLi tupleL (lComp (iAny (mVar 5)) [13] (.nm 13) (tYesD) (mIf (tBoo (mOp eqD (mVar 13) (mVar 2))) (mLit (.int 1)) (mIf (tBoo (mOp eqD (mVar 13) (mVar 3))) (mLit (.int 2)) (mLit (.int 0))))))) (sSeq (sIf (tBoo (mOp neD (mBi reprD (aCons (mCall 12 (aCons (mVar 1) (aCons (mVar 2) (aCons (mVar 3) (aNil))))) (aNil))) (mBi reprD (aCons (mTup (aCons (mOp addD (mTup (aCons (mVar 8) (aNil))) (mVar 6)) (aCons (mTup (aCons (mLit (.int 2)) (aNil))) (aNil)))) (aNil))))) (sRet (mLit (.bl false))) (sNil)) (sSeq (sAsg (.nm 9) (mLi tupleL (lComp (iAny (mVar 5)) [13] (.nm 13) (tYesD) (mIf (tBoo (mOp eqD (mVar 13) (mVar 2))) (mLit (.int 1)) (mLit (.int 0)))))) (sSeq (sAsg (.nm 10) (mLi tupleL (lComp (iAny (mVar 5)) [13] (.nm 13) (tYesD) (mIf (tBoo (mOp eqD (mVar 13) (mVar 3))) (mLit (.int 2)) (mIf (tBoo (mOp eqD (mVar 13) (mVar 2))) (mLit (.int 1)) (mLit (.int 0))))))) (sSeq (sIf (tBoo (mOp neD (mBi reprD (aCons (mCall 13 (aCons (mVar 1) (aCons (mVar 2) (aCons (mVar 3) (aNil))))) (aNil))) (mBi reprD (aCons (mTup (aCons (mTup (aCons (mVar 9) (aCons (mVar 10) (aCons (mOp idxD (mVar 6) (mLit (.int 1))) (aNil))))) (aCons (mTup (aCons (mLit (.int 2)) (aNil))) (aNil)))) (aNil))))) (sRet (mLit (.bl false))) (sNil)) (sSeq (sAsg (.nm 11) (mCall 22 (aCons (mVar 0) (aCons (mVar 1) (aNil))))) (sSeq (sAsg (.nm 12) (mNew (lLst (aCons (mVar 11) (aCons (mBi listD (aCons (mVar 11) (aNil))) (aCons (mSl (mVar 11) none (some (mLit (.int 1)))) (aCons (mTup (aCons (mOp idxD (mVar 11) (mLit (.int 0))) (aCons (mOp addD (mOp idxD (mVar 11) (mLit (.int 1))) (mTup (aCons (mLit (.int 0)) (aNil)))) (aNil)))) (aCons (mTup (aCons (mOp mulD (mOp idxD (mVar 11) (mLit (.int 0))) (mLit (.int 5))) (aCons (mTup (aNil)) (aNil)))) (aCons (mCall 18 (aCons (mVar 0) (aNil))) (aNil)))))))))) (sSeq (sDrop (mMet "list" extD (mVar 12) (aCons (mOp addD (mNew (lLst (aCons (mTup (aCons (mTup (aNil)) (aCons (mTup (aNil)) (aNil)))) (aCons (mTup (aCons (mTup (aCons (mTup (aCons (mLit (.int 0)) (aNil))) (aNil))) (aCons (mTup (aCons (mLit (.int 0)) (aNil))) (aNil)))) (aCons (mTup (aCons (mTup (aCons (mOp mulD (mTup (aCons (mLit (.int 0)) (aNil))) (mLit (.int 9))) (aNil))) (aCons (mTup (aNil)) (aNil)))) (aNil)))))) (mNew (lComp (iRg1 (aCons (mLit (.int 12)) (aNil))) [14] (.nm 14) (tYesD) (mCall 20 (aCons (mVar 0) (aCons (mVar 11) (aNil))))))) (aNil)))) (sRet (mLi allOf (lComp (iAny (mVar 12)) [15] (.nm 15) (tYesD) (mOp eqD (mBi reprD (aCons (mCall 9 (aCons (mVar 1) (aCons (mVar 15) (aNil)))) (aNil))) (mBi reprD (aCons (mCall 23 (aCons (mVar 1) (aCons (mVar 15) (aNil)))) (aNil)))))))))))))))))))))
def m_law : MS := sSeq (sFor (.nm 1) (iAny (mCall 17 (aCons (mVar 0) (aCons (mLit (.int 4)) (aNil))))) (sSeq (sAsg (.nm 2) (mCall 14 (aCons (mVar 0) (aCons (mVar 1) (aNil))))) (sIf (tNo (tTru (mLi allOf (lComp (iRg1 (aCons (mLit (.int 3)) (aNil))) [3] (.nm 3) (tYesD) (mCall 24 (aCons (mVar 2) (aNil))))))) (sRet (mLit (.bl false))) (sNil)))) (sRet (mLit (.bl true)))
def defs : List DefE := [⟨"is_tuple", top 1, ["value", "least", "most"], ["value", "least", "most"], m_is_tuple⟩,
  ⟨"is_whole", top 2, ["value"], ["value"], m_is_whole⟩,
  ⟨"is_integer", top 3, ["value", "low", "high"], ["value", "low", "high"], m_is_integer⟩,
  ⟨"is_rising", top 4, ["values", "one", "other"], ["values"], m_is_rising⟩,
  ⟨"is_rule", top 17, ["value", "moods", "slips", "slip"], ["value", "moods", "slips"], m_is_rule⟩,
  ⟨"is_office", top 18, ["value", "moods", "slips", "rules", "rule"], ["value"], m_is_office⟩,
  ⟨"check_office", top 19, ["value"], ["value"], m_check_office⟩,
  ⟨"is_row", top 21, ["value", "most", "one"], ["value", "most"], m_is_row⟩,
  ⟨"check_moods", top 22, ["office", "value"], ["office", "value"], m_check_moods⟩,
  ⟨"is_watcher", top 26, ["office", "value", "many", "row", "state"], ["office", "value"], m_is_watcher⟩,
  ⟨"check_mood", top 27, ["office", "value"], ["office", "value"], m_check_mood⟩,
  ⟨"never", top 28, ["office", "moods", "row", "mood"], ["office", "moods"], m_never⟩,
  ⟨"not_before", top 29, ["office", "one", "other", "row"], ["office", "one", "other"], m_not_before⟩,
  ⟨"not_behind", top 30, ["office", "one", "other", "fresh", "warned", "mood"], ["office", "one", "other"], m_not_behind⟩,
  ⟨"_law_pot", top 32, ["script", "place", "cell", "own", "small"], ["script", "place"], m_law_pot⟩,
  ⟨"_law_take", top 33, ["pot", "upto", "digit", "prime", "blend"], ["pot", "upto"], m_law_take⟩,
  ⟨"_law_of", top 34, ["pot", "some"], ["pot", "some"], m_law_of⟩,
  ⟨"_law_places", top 35, ["script", "most"], ["script", "most"], m_law_places⟩,
  ⟨"_law_odd", top 36, ["pot", "some"], ["pot"], m_law_odd⟩,
  ⟨"_law_is_int", top 37, ["value", "low", "high"], ["value", "low", "high"], m_law_is_int⟩,
  ⟨"_law_bent", top 38, ["pot", "value", "at", "some"], ["pot", "value"], m_law_bent⟩,
  ⟨"_law_office", top 39, ["pot", "moods", "slips", "rules", "many", "kinds", "found", "lap", "put", "turn"], ["pot", "moods", "slips", "rules"], m_law_office⟩,
  ⟨"_law_watcher", top 40, ["pot", "office", "many", "rows", "state", "mood"], ["pot", "office"], m_law_watcher⟩,
  ⟨"_law_is_watcher", top 41, ["office", "value", "many", "row", "one"], ["office", "value"], m_law_is_watcher⟩,
  ⟨"_law_right", top 42, ["pot", "office", "one", "other", "moods", "some", "full", "due", "first", "fresh", "warned", "watcher", "values", "mood", "lap", "value"], ["pot"], m_law_right⟩,
  ⟨"law", top 43, ["script", "place", "pot", "lap"], ["script"], m_law⟩]
theorem b_is_tuple {X : Cx} {c : Cm} {lv : Nat} {E : XK} (k : Cok (gOf consts fns bis ⟨"is_tuple", top 1, ["value", "least", "most"], ["value", "least", "most"], m_is_tuple⟩) c lv E X) : PSsd X c E (defBody (top 1)) m_is_tuple := by
  unfold m_is_tuple
  exact pss_oned (ps_retd (pd_an (r_isi k (by decide +kernel) (r_cons (r_var k 0 (by decide +kernel)) (r_cons (r_tyv k (by decide +kernel) b_tuple) (pa_nild)))) (pd_one (pd_chain (od_cmpI op_le) (od_cmpI op_le) (r_var k 1 (by decide +kernel)) (r_len k (by decide +kernel) (r_cons (r_var k 0 (by decide +kernel)) (pa_nild))) (r_var k 2 (by decide +kernel)) rfl))))
theorem b_is_whole {X : Cx} {c : Cm} {lv : Nat} {E : XK} (k : Cok (gOf consts fns bis ⟨"is_whole", top 2, ["value"], ["value"], m_is_whole⟩) c lv E X) : PSsd X c E (defBody (top 2)) m_is_whole := by
  unfold m_is_whole
  exact pss_oned (ps_retd (pd_an (r_isi k (by decide +kernel) (r_cons (r_var k 0 (by decide +kernel)) (r_cons (r_tyv k (by decide +kernel) b_int) (pa_nild)))) (pd_one (pd_no (r_isi k (by decide +kernel) (r_cons (r_var k 0 (by decide +kernel)) (r_cons (r_tyv k (by decide +kernel) b_bool) (pa_nild))))))))
theorem b_is_integer {X : Cx} {c : Cm} {lv : Nat} {E : XK} (k : Cok (gOf consts fns bis ⟨"is_integer", top 3, ["value", "low", "high"], ["value", "low", "high"], m_is_integer⟩) c lv E X) : PSsd X c E (defBody (top 3)) m_is_integer := by
  unfold m_is_integer
  exact pss_oned (ps_retd (pd_an (r_call k 1 (by decide +kernel) (r_cons (r_var k 0 (by decide +kernel)) (pa_nild))) (pd_one (pd_chain (od_cmpI op_le) (od_cmpI op_le) (r_var k 1 (by decide +kernel)) (r_var k 0 (by decide +kernel)) (r_var k 2 (by decide +kernel)) rfl))))
theorem b_is_rising {X : Cx} {c : Cm} {lv : Nat} {E : XK} (k : Cok (gOf consts fns bis ⟨"is_rising", top 4, ["values", "one", "other"], ["values"], m_is_rising⟩) c lv E X) : PSsd X c E (defBody (top 4)) m_is_rising := by
  unfold m_is_rising
  exact pss_oned (ps_retd (r_alll k (by decide +kernel) (r_comp k (own := [("one", 1), ("other", 2)]) (r_zip k (by decide +kernel) (r_cons (r_var k 0 (by decide +kernel)) (r_cons (pd_sl (r_var k 0 (by decide +kernel)) (po_som (r_int')) po_non) (pa_nild)))) (by decide +kernel) (fun k => pg_tp k (pgs_consd (r_nm k 1 (by decide +kernel)) (pgs_consd (r_nm k 2 (by decide +kernel)) (pgs_nild) rfl) rfl) rfl rfl rfl) (fun k => pts_nild) (fun k => pd_cmp (od_lt k.r0) (r_var k 1 (by decide +kernel)) (r_var k 2 (by decide +kernel)) rfl))))
theorem b_is_rule {X : Cx} {c : Cm} {lv : Nat} {E : XK} (k : Cok (gOf consts fns bis ⟨"is_rule", top 17, ["value", "moods", "slips", "slip"], ["value", "moods", "slips"], m_is_rule⟩) c lv E X) : PSsd X c E (defBody (top 17)) m_is_rule := by
  unfold m_is_rule
  exact pss_consd (ps_ifd ((pw_o (pt_no (pt_tru (r_call k 0 (by decide +kernel) (r_cons (r_var k 0 (by decide +kernel)) (r_cons (r_glob k (by decide +kernel) (by kernel_rfl)) (r_cons (r_glob k (by decide +kernel) (by kernel_rfl)) (pa_nild))))) (fun _ => rfl))) (pw_o1 (pt_no (pt_tru (r_call k 2 (by decide +kernel) (r_cons (pd_ix (r_var k 0 (by decide +kernel)) (r_int') (fun _ _ => rfl)) (r_cons (r_int') (r_cons (pd_op od_sub (r_var k 1 (by decide +kernel)) (r_int')) (pa_nild))))) (fun _ => rfl))))).pt) (pss_oned (ps_retd (r_b))) (pss_nild)) (pss_consd (ps_ifd ((pw_o (pt_no (pt_tru (r_call k 2 (by decide +kernel) (r_cons (pd_ix (r_var k 0 (by decide +kernel)) (r_int') (fun _ _ => rfl)) (r_cons (r_int') (r_cons (pd_op od_sub (r_var k 2 (by decide +kernel)) (r_int')) (pa_nild))))) (fun _ => rfl))) (pw_o1 (pt_no (pt_tru (r_call k 2 (by decide +kernel) (r_cons (pd_ix (r_var k 0 (by decide +kernel)) (r_int') (fun _ _ => rfl)) (r_cons (r_int') (r_cons (pd_op od_sub (r_var k 1 (by decide +kernel)) (r_int')) (pa_nild))))) (fun _ => rfl))))).pt) (pss_oned (ps_retd (r_b))) (pss_nild)) (pss_oned (ps_retd (pd_an (r_call k 0 (by decide +kernel) (r_cons (pd_ix (r_var k 0 (by decide +kernel)) (r_glob k (by decide +kernel) (by kernel_rfl)) (fun _ _ => rfl)) (r_cons (r_int') (r_cons (r_glob k (by decide +kernel) (by kernel_rfl)) (pa_nild))))) (pd_one (r_alll k (by decide +kernel) (r_comp k (own := [("slip", 3)]) (pi_anyd (pd_ix (r_var k 0 (by decide +kernel)) (r_glob k (by decide +kernel) (by kernel_rfl)) (fun _ _ => rfl))) (by decide +kernel) (fun k => r_nm k 3 (by decide +kernel)) (fun k => pts_nild) (fun k => r_call k 2 (by decide +kernel) (r_cons (r_var k 3 (by decide +kernel)) (r_cons (r_int') (r_cons (pd_op od_sub (r_var k 2 (by decide +kernel)) (r_int')) (pa_nild))))))))))))
theorem b_is_office {X : Cx} {c : Cm} {lv : Nat} {E : XK} (k : Cok (gOf consts fns bis ⟨"is_office", top 18, ["value", "moods", "slips", "rules", "rule"], ["value"], m_is_office⟩) c lv E X) : PSsd X c E (defBody (top 18)) m_is_office := by
  unfold m_is_office
  exact pss_consd (ps_ifd ((pw_o (pt_no (pt_tru (r_call k 0 (by decide +kernel) (r_cons (r_var k 0 (by decide +kernel)) (r_cons (r_glob k (by decide +kernel) (by kernel_rfl)) (r_cons (r_glob k (by decide +kernel) (by kernel_rfl)) (pa_nild))))) (fun _ => rfl))) (pw_o1 (pt_no (pt_tru (r_call k 2 (by decide +kernel) (r_cons (pd_ix (r_var k 0 (by decide +kernel)) (r_int') (fun _ _ => rfl)) (r_cons (r_int') (r_cons (r_glob k (by decide +kernel) (by kernel_rfl)) (pa_nild))))) (fun _ => rfl))))).pt) (pss_oned (ps_retd (r_b))) (pss_nild)) (pss_consd (r_asg (r_var k 0 (by decide +kernel)) (pg_tp k (pgs_consd (r_nm k 1 (by decide +kernel)) (pgs_consd (r_nm k 2 (by decide +kernel)) (pgs_consd (r_nm k 3 (by decide +kernel)) (pgs_nild) rfl) rfl) rfl) rfl rfl rfl)) (pss_consd (ps_ifd ((pw_o (pt_no (pt_tru (r_call k 2 (by decide +kernel) (r_cons (r_var k 2 (by decide +kernel)) (r_cons (r_int') (r_cons (r_glob k (by decide +kernel) (by kernel_rfl)) (pa_nild))))) (fun _ => rfl))) (pw_o1 (pt_no (pt_tru (r_call k 0 (by decide +kernel) (r_cons (r_var k 3 (by decide +kernel)) (r_cons (r_int') (r_cons (r_glob k (by decide +kernel) (by kernel_rfl)) (pa_nild))))) (fun _ => rfl))))).pt) (pss_oned (ps_retd (r_b))) (pss_nild)) (pss_oned (ps_retd (pd_an (r_alll k (by decide +kernel) (r_comp k (own := [("rule", 4)]) (pi_anyd (r_var k 3 (by decide +kernel))) (by decide +kernel) (fun k => r_nm k 4 (by decide +kernel)) (fun k => pts_nild) (fun k => r_call k 4 (by decide +kernel) (r_cons (r_var k 4 (by decide +kernel)) (r_cons (r_var k 1 (by decide +kernel)) (r_cons (r_var k 2 (by decide +kernel)) (pa_nild))))))) (pd_one (r_call k 3 (by decide +kernel) (r_cons (r_var k 3 (by decide +kernel)) (pa_nild)))))))))
theorem b_check_office {X : Cx} {c : Cm} {lv : Nat} {E : XK} (k : Cok (gOf consts fns bis ⟨"check_office", top 19, ["value"], ["value"], m_check_office⟩) c lv E X) : PSsd X c E (defBody (top 19)) m_check_office := by
  unfold m_check_office
  exact pss_oned (ps_ifd (pt_no (pt_tru (r_call k 5 (by decide +kernel) (r_cons (r_var k 0 (by decide +kernel)) (pa_nild))) (fun _ => rfl))) (pss_oned (ps_bad)) (pss_nild))
theorem b_is_row {X : Cx} {c : Cm} {lv : Nat} {E : XK} (k : Cok (gOf consts fns bis ⟨"is_row", top 21, ["value", "most", "one"], ["value", "most"], m_is_row⟩) c lv E X) : PSsd X c E (defBody (top 21)) m_is_row := by
  unfold m_is_row
  exact pss_oned (ps_retd (pd_an (r_isi k (by decide +kernel) (r_cons (r_var k 0 (by decide +kernel)) (r_cons (r_tyv k (by decide +kernel) b_tuple) (pa_nild)))) (pd_an (r_alll k (by decide +kernel) (r_comp k (own := [("one", 2)]) (pi_anyd (r_var k 0 (by decide +kernel))) (by decide +kernel) (fun k => r_nm k 2 (by decide +kernel)) (fun k => pts_nild) (fun k => r_call k 2 (by decide +kernel) (r_cons (r_var k 2 (by decide +kernel)) (r_cons (r_int') (r_cons (pd_op od_sub (r_var k 1 (by decide +kernel)) (r_int')) (pa_nild))))))) (pd_one (r_call k 3 (by decide +kernel) (r_cons (r_var k 0 (by decide +kernel)) (pa_nild)))))))
theorem b_check_moods {X : Cx} {c : Cm} {lv : Nat} {E : XK} (k : Cok (gOf consts fns bis ⟨"check_moods", top 22, ["office", "value"], ["office", "value"], m_check_moods⟩) c lv E X) : PSsd X c E (defBody (top 22)) m_check_moods := by
  unfold m_check_moods
  exact pss_oned (ps_ifd (pt_no (pt_tru (r_call k 7 (by decide +kernel) (r_cons (r_var k 1 (by decide +kernel)) (r_cons (pd_ix (r_var k 0 (by decide +kernel)) (r_int') (fun _ _ => rfl)) (pa_nild)))) (fun _ => rfl))) (pss_oned (ps_bad)) (pss_nild))
theorem b_is_watcher {X : Cx} {c : Cm} {lv : Nat} {E : XK} (k : Cok (gOf consts fns bis ⟨"is_watcher", top 26, ["office", "value", "many", "row", "state"], ["office", "value"], m_is_watcher⟩) c lv E X) : PSsd X c E (defBody (top 26)) m_is_watcher := by
  unfold m_is_watcher
  exact pss_consd (r_drop (r_call k 6 (by decide +kernel) (r_cons (r_var k 0 (by decide +kernel)) (pa_nild)))) (pss_consd (ps_ifd ((pw_o (pt_no (pt_tru (r_call k 0 (by decide +kernel) (r_cons (r_var k 1 (by decide +kernel)) (r_cons (r_glob k (by decide +kernel) (by kernel_rfl)) (r_cons (r_glob k (by decide +kernel) (by kernel_rfl)) (pa_nild))))) (fun _ => rfl))) (pw_o1 (pt_no (pt_tru (r_call k 0 (by decide +kernel) (r_cons (pd_ix (r_var k 1 (by decide +kernel)) (r_int') (fun _ _ => rfl)) (r_cons (r_int') (r_cons (r_glob k (by decide +kernel) (by kernel_rfl)) (pa_nild))))) (fun _ => rfl))))).pt) (pss_oned (ps_retd (r_b))) (pss_nild)) (pss_consd (r_set k 2 (by decide +kernel) (r_len k (by decide +kernel) (r_cons (pd_ix (r_var k 1 (by decide +kernel)) (r_int') (fun _ _ => rfl)) (pa_nild))) rfl) (pss_consd (ps_ifd (pt_no (pt_tru (r_alll k (by decide +kernel) (r_comp k (own := [("row", 3)]) (pi_anyd (pd_ix (r_var k 1 (by decide +kernel)) (r_int') (fun _ _ => rfl))) (by decide +kernel) (fun k => r_nm k 3 (by decide +kernel)) (fun k => pts_nild) (fun k => r_call k 0 (by decide +kernel) (r_cons (r_var k 3 (by decide +kernel)) (r_cons (pd_ix (r_var k 0 (by decide +kernel)) (r_int') (fun _ _ => rfl)) (r_cons (pd_ix (r_var k 0 (by decide +kernel)) (r_int') (fun _ _ => rfl)) (pa_nild))))))) (fun _ => rfl))) (pss_oned (ps_retd (r_b))) (pss_nild)) (pss_consd (ps_ifd (pt_no (pt_tru (r_alll k (by decide +kernel) (r_comp k (own := [("row", 3)]) (pi_anyd (pd_ix (r_var k 1 (by decide +kernel)) (r_int') (fun _ _ => rfl))) (by decide +kernel) (fun k => r_nm k 3 (by decide +kernel)) (fun k => pts_nild) (fun k => r_alll k (by decide +kernel) (r_comp k (own := [("state", 4)]) (pi_anyd (r_var k 3 (by decide +kernel))) (by decide +kernel) (fun k => r_nm k 4 (by decide +kernel)) (fun k => pts_nild) (fun k => r_call k 2 (by decide +kernel) (r_cons (r_var k 4 (by decide +kernel)) (r_cons (r_int') (r_cons (pd_op od_sub (r_var k 2 (by decide +kernel)) (r_int')) (pa_nild))))))))) (fun _ => rfl))) (pss_oned (ps_retd (r_b))) (pss_nild)) (pss_consd (ps_ifd ((pw_o (pt_no (pt_tru (r_isi k (by decide +kernel) (r_cons (pd_ix (r_var k 1 (by decide +kernel)) (r_int') (fun _ _ => rfl)) (r_cons (r_tyv k (by decide +kernel) b_tuple) (pa_nild)))) (fun _ => rfl))) (pw_o1 (pt_no (pt_tru (r_alll k (by decide +kernel) (r_comp k (own := [("state", 4)]) (pi_anyd (pd_ix (r_var k 1 (by decide +kernel)) (r_int') (fun _ _ => rfl))) (by decide +kernel) (fun k => r_nm k 4 (by decide +kernel)) (fun k => pts_nild) (fun k => r_call k 2 (by decide +kernel) (r_cons (r_var k 4 (by decide +kernel)) (r_cons (r_int') (r_cons (pd_op od_sub (r_var k 2 (by decide +kernel)) (r_int')) (pa_nild))))))) (fun _ => rfl))))).pt) (pss_oned (ps_retd (r_b))) (pss_nild)) (pss_oned (ps_retd (r_call k 3 (by decide +kernel) (r_cons (pd_ix (r_var k 1 (by decide +kernel)) (r_int') (fun _ _ => rfl)) (pa_nild))))))))))
theorem b_check_mood {X : Cx} {c : Cm} {lv : Nat} {E : XK} (k : Cok (gOf consts fns bis ⟨"check_mood", top 27, ["office", "value"], ["office", "value"], m_check_mood⟩) c lv E X) : PSsd X c E (defBody (top 27)) m_check_mood := by
  unfold m_check_mood
  exact pss_oned (ps_ifd (pt_no (pt_tru (r_call k 2 (by decide +kernel) (r_cons (r_var k 1 (by decide +kernel)) (r_cons (r_int') (r_cons (pd_op od_sub (pd_ix (r_var k 0 (by decide +kernel)) (r_int') (fun _ _ => rfl)) (r_int')) (pa_nild))))) (fun _ => rfl))) (pss_oned (ps_bad)) (pss_nild))
theorem b_never {X : Cx} {c : Cm} {lv : Nat} {E : XK} (k : Cok (gOf consts fns bis ⟨"never", top 28, ["office", "moods", "row", "mood"], ["office", "moods"], m_never⟩) c lv E X) : PSsd X c E (defBody (top 28)) m_never := by
  unfold m_never
  exact pss_consd (r_drop (r_call k 6 (by decide +kernel) (r_cons (r_var k 0 (by decide +kernel)) (pa_nild)))) (pss_consd (r_drop (r_call k 8 (by decide +kernel) (r_cons (r_var k 0 (by decide +kernel)) (r_cons (r_var k 1 (by decide +kernel)) (pa_nild))))) (pss_consd (r_set k 2 (by decide +kernel) (r_tuplel k (by decide +kernel) (r_comp k (own := [("mood", 3)]) (r_rg1 k (by decide +kernel) (r_cons (pd_ix (r_var k 0 (by decide +kernel)) (r_int') (fun _ _ => rfl)) (pa_nild))) (by decide +kernel) (fun k => r_nm k 3 (by decide +kernel)) (fun k => pts_nild) (fun k => r_int k (by decide +kernel) (r_cons (pd_cmp (od_in k.r0) (r_var k 3 (by decide +kernel)) (r_var k 1 (by decide +kernel)) rfl) (pa_nild))))) rfl) (pss_oned (ps_retd (pd_tup (r_cons (pd_tup (r_cons (r_var k 2 (by decide +kernel)) (r_cons (pd_op od_mul (pd_tup (r_cons (r_int') (pa_nild))) (pd_ix (r_var k 0 (by decide +kernel)) (r_int') (fun _ _ => rfl))) (pa_nild)))) (r_cons (pd_tup (r_cons (r_int') (pa_nild))) (pa_nild))))))))
theorem b_not_before {X : Cx} {c : Cm} {lv : Nat} {E : XK} (k : Cok (gOf consts fns bis ⟨"not_before", top 29, ["office", "one", "other", "row"], ["office", "one", "other"], m_not_before⟩) c lv E X) : PSsd X c E (defBody (top 29)) m_not_before := by
  unfold m_not_before
  exact pss_consd (r_drop (r_call k 6 (by decide +kernel) (r_cons (r_var k 0 (by decide +kernel)) (pa_nild)))) (pss_consd (r_drop (r_call k 10 (by decide +kernel) (r_cons (r_var k 0 (by decide +kernel)) (r_cons (r_var k 1 (by decide +kernel)) (pa_nild))))) (pss_consd (r_drop (r_call k 10 (by decide +kernel) (r_cons (r_var k 0 (by decide +kernel)) (r_cons (r_var k 2 (by decide +kernel)) (pa_nild))))) (pss_consd (r_set k 3 (by decide +kernel) (pd_op od_mul (pd_new (pl_lst (r_cons (r_int') (pa_nild)))) (pd_ix (r_var k 0 (by decide +kernel)) (r_int') (fun _ _ => rfl))) rfl) (pss_consd (r_sub (r_int') (r_var k 3 (by decide +kernel)) (r_var k 2 (by decide +kernel))) (pss_consd (r_sub (r_int') (r_var k 3 (by decide +kernel)) (r_var k 1 (by decide +kernel))) (pss_oned (ps_retd (pd_tup (r_cons (pd_tup (r_cons (r_tuple k (by decide +kernel) (r_cons (r_var k 3 (by decide +kernel)) (pa_nild))) (r_cons (pd_op od_mul (pd_tup (r_cons (r_int') (pa_nild))) (pd_ix (r_var k 0 (by decide +kernel)) (r_int') (fun _ _ => rfl))) (r_cons (pd_op od_mul (pd_tup (r_cons (r_int') (pa_nild))) (pd_ix (r_var k 0 (by decide +kernel)) (r_int') (fun _ _ => rfl))) (pa_nild))))) (r_cons (pd_tup (r_cons (r_int') (pa_nild))) (pa_nild)))))))))))
theorem b_not_behind {X : Cx} {c : Cm} {lv : Nat} {E : XK} (k : Cok (gOf consts fns bis ⟨"not_behind", top 30, ["office", "one", "other", "fresh", "warned", "mood"], ["office", "one", "other"], m_not_behind⟩) c lv E X) : PSsd X c E (defBody (top 30)) m_not_behind := by
  unfold m_not_behind
  exact pss_consd (r_drop (r_call k 6 (by decide +kernel) (r_cons (r_var k 0 (by decide +kernel)) (pa_nild)))) (pss_consd (r_drop (r_call k 10 (by decide +kernel) (r_cons (r_var k 0 (by decide +kernel)) (r_cons (r_var k 1 (by decide +kernel)) (pa_nild))))) (pss_consd (r_drop (r_call k 10 (by decide +kernel) (r_cons (r_var k 0 (by decide +kernel)) (r_cons (r_var k 2 (by decide +kernel)) (pa_nild))))) (pss_consd (r_setcomp k 3 (own := [("mood", 5)]) (by decide +kernel) (by decide +kernel) (r_rg1 k (by decide +kernel) (r_cons (pd_ix (r_var k 0 (by decide +kernel)) (r_int') (fun _ _ => rfl)) (pa_nild))) (by decide +kernel) (fun k => r_nm k 5 (by decide +kernel)) (fun k => pts_nild) (fun k => r_int k (by decide +kernel) (r_cons (pd_cmp (od_eq k.r0) (r_var k 5 (by decide +kernel)) (r_var k 1 (by decide +kernel)) rfl) (pa_nild)))) (pss_consd (r_set k 4 (by decide +kernel) (r_list k (by decide +kernel) (r_cons (r_var k 3 (by decide +kernel)) (pa_nild))) rfl) (pss_consd (r_sub (r_int') (r_var k 4 (by decide +kernel)) (r_var k 2 (by decide +kernel))) (pss_oned (ps_retd (pd_tup (r_cons (pd_tup (r_cons (r_tuple k (by decide +kernel) (r_cons (r_var k 3 (by decide +kernel)) (pa_nild))) (r_cons (r_tuple k (by decide +kernel) (r_cons (r_var k 4 (by decide +kernel)) (pa_nild))) (r_cons (pd_op od_mul (pd_tup (r_cons (r_int') (pa_nild))) (pd_ix (r_var k 0 (by decide +kernel)) (r_int') (fun _ _ => rfl))) (pa_nild))))) (r_cons (pd_tup (r_cons (r_int') (pa_nild))) (pa_nild)))))))))))
theorem b_law_pot {X : Cx} {c : Cm} {lv : Nat} {E : XK} (k : Cok (gOf consts fns bis ⟨"_law_pot", top 32, ["script", "place", "cell", "own", "small"], ["script", "place"], m_law_pot⟩) c lv E X) : PSsd X c E (defBody (top 32)) m_law_pot := by
  unfold m_law_pot
  exact pss_consd (r_set k 2 (by decide +kernel) (pd_if (pt_cmpd (od_lt k.r0) (r_var k 1 (by decide +kernel)) (r_len k (by decide +kernel) (r_cons (r_var k 0 (by decide +kernel)) (pa_nild))) rfl) (pd_ix (r_var k 0 (by decide +kernel)) (r_var k 1 (by decide +kernel)) (fun _ _ => rfl)) (pd_op od_add (pd_op od_add (pd_op od_mod (r_sum k (by decide +kernel) (r_cons (pd_sl (r_var k 0 (by decide +kernel)) po_non (po_som (r_int'))) (pa_nild))) (r_int')) (pd_op od_mul (r_int') (r_var k 1 (by decide +kernel)))) (r_int'))) rfl) (pss_consd (r_set k 3 (by decide +kernel) (pd_op od_mul (pd_op od_mod (r_int k (by decide +kernel) (r_cons (r_abs k (by decide +kernel) (r_cons (r_var k 2 (by decide +kernel)) (pa_nild))) (pa_nild))) (pd_op od_pow (pd_op od_pow (r_int') (r_int')) (r_int'))) (r_int k (by decide +kernel) (r_cons (pd_cmp (od_cmpI op_ge) (r_abs k (by decide +kernel) (r_cons (r_var k 2 (by decide +kernel)) (pa_nild))) (pd_op od_pow (r_int') (r_int')) rfl) (pa_nild)))) rfl) (pss_consd (r_set k 4 (by decide +kernel) (pd_op od_mod (r_int k (by decide +kernel) (r_cons (r_var k 2 (by decide +kernel)) (pa_nild))) (r_int')) rfl) (pss_oned (ps_retd (pd_new (pl_lst (r_cons (r_var k 3 (by decide +kernel)) (r_cons (pd_op od_mod (r_int k (by decide +kernel) (r_cons (pd_op od_add (pd_op od_add (pd_op od_mul (r_var k 4 (by decide +kernel)) (r_int')) (pd_op od_mul (pd_op od_mul (r_int') (r_var k 1 (by decide +kernel))) (r_var k 1 (by decide +kernel)))) (r_int')) (pa_nild))) (r_int')) (r_cons (r_int') (pa_nild))))))))))
theorem b_law_take {X : Cx} {c : Cm} {lv : Nat} {E : XK} (k : Cok (gOf consts fns bis ⟨"_law_take", top 33, ["pot", "upto", "digit", "prime", "blend"], ["pot", "upto"], m_law_take⟩) c lv E X) : PSsd X c E (defBody (top 33)) m_law_take := by
  unfold m_law_take
  exact pss_consd (ps_ifd (pt_cmpd (od_cmpI op_gt) (pd_ix (r_var k 0 (by decide +kernel)) (r_int') (fun _ _ => rfl)) (r_int') rfl) (pss_consd (r_set k 2 (by decide +kernel) (pd_op od_mod (r_int k (by decide +kernel) (r_cons (pd_ix (r_var k 0 (by decide +kernel)) (r_int') (fun _ _ => rfl)) (pa_nild))) (r_var k 1 (by decide +kernel))) rfl) (pss_consd (r_sub (pd_op od_fdiv (pd_ix (r_var k 0 (by decide +kernel)) (r_int') (fun _ _ => rfl)) (r_var k 1 (by decide +kernel))) (r_var k 0 (by decide +kernel)) (r_int')) (pss_oned (ps_retd (r_var k 2 (by decide +kernel)))))) (pss_nild)) (pss_consd (r_sub (pd_op od_add (pd_ix (r_var k 0 (by decide +kernel)) (r_int') (fun _ _ => rfl)) (r_int')) (r_var k 0 (by decide +kernel)) (r_int')) (pss_consd (r_set k 3 (by decide +kernel) (pd_ix (pd_new (pl_lst (r_cons (r_int') (r_cons (r_int') (r_cons (r_int') (r_cons (r_int') (r_cons (r_int') (pa_nild)))))))) (pd_op od_mod (r_int k (by decide +kernel) (r_cons (pd_ix (r_var k 0 (by decide +kernel)) (r_int') (fun _ _ => rfl)) (pa_nild))) (r_int')) (fun _ _ => rfl)) rfl) (pss_consd (r_set k 4 (by decide +kernel) (pd_op od_mod (r_int k (by decide +kernel) (r_cons (pd_op od_pow (r_int k (by decide +kernel) (r_cons (pd_op od_add (pd_op od_add (pd_ix (r_var k 0 (by decide +kernel)) (r_int') (fun _ _ => rfl)) (pd_op od_mul (pd_op od_mul (r_int') (pd_ix (r_var k 0 (by decide +kernel)) (r_int') (fun _ _ => rfl))) (pd_ix (r_var k 0 (by decide +kernel)) (r_int') (fun _ _ => rfl)))) (r_int')) (pa_nild))) (r_int')) (pa_nild))) (r_var k 3 (by decide +kernel))) rfl) (pss_consd (r_set k 4 (by decide +kernel) (pd_op od_mod (r_int k (by decide +kernel) (r_cons (pd_op od_mul (r_var k 4 (by decide +kernel)) (pd_op od_add (pd_op od_mod (r_int k (by decide +kernel) (r_cons (r_var k 4 (by decide +kernel)) (pa_nild))) (r_int')) (pd_op od_mul (r_int') (pd_ix (r_var k 0 (by decide +kernel)) (r_int') (fun _ _ => rfl))))) (pa_nild))) (r_int')) rfl) (pss_oned (ps_retd (pd_op od_mod (r_int k (by decide +kernel) (r_cons (pd_op od_fdiv (r_var k 4 (by decide +kernel)) (r_int')) (pa_nild))) (r_var k 1 (by decide +kernel)))))))))
theorem b_law_of {X : Cx} {c : Cm} {lv : Nat} {E : XK} (k : Cok (gOf consts fns bis ⟨"_law_of", top 34, ["pot", "some"], ["pot", "some"], m_law_of⟩) c lv E X) : PSsd X c E (defBody (top 34)) m_law_of := by
  unfold m_law_of
  exact pss_oned (ps_retd (pd_ix (r_var k 1 (by decide +kernel)) (r_call k 15 (by decide +kernel) (r_cons (r_var k 0 (by decide +kernel)) (r_cons (r_len k (by decide +kernel) (r_cons (r_var k 1 (by decide +kernel)) (pa_nild))) (pa_nild)))) (fun _ _ => rfl)))
theorem b_law_places {X : Cx} {c : Cm} {lv : Nat} {E : XK} (k : Cok (gOf consts fns bis ⟨"_law_places", top 35, ["script", "most"], ["script", "most"], m_law_places⟩) c lv E X) : PSsd X c E (defBody (top 35)) m_law_places := by
  unfold m_law_places
  exact pss_oned (ps_retd (pd_new (r_lrg1 k (by decide +kernel) (r_max k (by decide +kernel) (r_cons (r_int') (r_cons (r_min k (by decide +kernel) (r_cons (r_var k 1 (by decide +kernel)) (r_cons (r_len k (by decide +kernel) (r_cons (r_var k 0 (by decide +kernel)) (pa_nild))) (pa_nild)))) (pa_nild)))))))
theorem b_law_odd {X : Cx} {c : Cm} {lv : Nat} {E : XK} (k : Cok (gOf consts fns bis ⟨"_law_odd", top 36, ["pot", "some"], ["pot"], m_law_odd⟩) c lv E X) : PSsd X c E (defBody (top 36)) m_law_odd := by
  unfold m_law_odd
  exact pss_consd (r_set k 1 (by decide +kernel) (pd_new (pl_lst (r_cons (r_n) (r_cons (r_b) (r_cons (r_b) (r_cons (r_int') (r_cons (r_int') (r_cons (pd_un od_neg (r_int')) (r_cons (r_int') (r_cons (r_int') (r_cons (r_s) (r_cons (r_s) (r_cons (r_s) (r_cons (r_s) (r_cons (pd_tup (pa_nild)) (r_cons (pd_new (pl_lst (pa_nild))) (r_cons (pd_tup (r_cons (r_int') (pa_nild))) (r_cons (pd_tup (r_cons (pd_tup (pa_nild)) (pa_nild))) (r_cons (pd_new (pl_lst (r_cons (r_int') (pa_nild)))) (r_cons (pd_tup (r_cons (r_b) (pa_nild))) (pa_nild))))))))))))))))))))) rfl) (pss_consd (r_set k 1 (by decide +kernel) (pd_op od_add (r_var k 1 (by decide +kernel)) (pd_new (pl_lst (r_cons (pd_tup (r_cons (r_s) (pa_nild))) (r_cons (pd_tup (r_cons (r_int') (r_cons (pd_tup (pa_nild)) (pa_nild)))) (r_cons (pd_tup (r_cons (r_int') (pa_nild))) (r_cons (pd_tup (r_cons (r_int') (r_cons (pd_new (pl_lst (r_cons (r_int') (pa_nild)))) (pa_nild)))) (r_cons (pd_tup (r_cons (r_int') (r_cons (r_int') (r_cons (pd_tup (pa_nild)) (pa_nild))))) (r_cons (pd_tup (r_cons (r_int') (r_cons (pd_tup (pa_nild)) (r_cons (pd_tup (r_cons (r_int') (pa_nild))) (pa_nild))))) (r_cons (pd_tup (r_cons (r_n) (r_cons (pd_tup (pa_nild)) (pa_nild)))) (r_cons (r_s) (r_cons (pd_op od_pow (r_int') (r_int')) (pa_nild))))))))))))) rfl) (pss_oned (ps_retd (r_call k 16 (by decide +kernel) (r_cons (r_var k 0 (by decide +kernel)) (r_cons (r_var k 1 (by decide +kernel)) (pa_nild)))))))
theorem b_law_is_int {X : Cx} {c : Cm} {lv : Nat} {E : XK} (k : Cok (gOf consts fns bis ⟨"_law_is_int", top 37, ["value", "low", "high"], ["value", "low", "high"], m_law_is_int⟩) c lv E X) : PSsd X c E (defBody (top 37)) m_law_is_int := by
  unfold m_law_is_int
  exact pss_oned (ps_retd (pd_an (r_isi k (by decide +kernel) (r_cons (r_var k 0 (by decide +kernel)) (r_cons (r_tyv k (by decide +kernel) b_int) (pa_nild)))) (pd_an (pd_no (r_isi k (by decide +kernel) (r_cons (r_var k 0 (by decide +kernel)) (r_cons (r_tyv k (by decide +kernel) b_bool) (pa_nild))))) (pd_one (pd_chain (od_cmpI op_le) (od_cmpI op_le) (r_var k 1 (by decide +kernel)) (r_var k 0 (by decide +kernel)) (r_var k 2 (by decide +kernel)) rfl)))))
theorem b_law_bent {X : Cx} {c : Cm} {lv : Nat} {E : XK} (k : Cok (gOf consts fns bis ⟨"_law_bent", top 38, ["pot", "value", "at", "some"], ["pot", "value"], m_law_bent⟩) c lv E X) : PSsd X c E (defBody (top 38)) m_law_bent := by
  unfold m_law_bent
  exact pss_consd (ps_ifd ((pw_an (pt_tru (r_isi k (by decide +kernel) (r_cons (r_var k 1 (by decide +kernel)) (r_cons (r_tyv k (by decide +kernel) b_tuple) (pa_nild)))) (fun _ => rfl)) (pw_an (pt_cmpd (od_ne k.r0) (r_var k 1 (by decide +kernel)) (pd_tup (pa_nild)) rfl) (pw_an1 (pt_cmpd (od_cmpI op_gt) (r_call k 15 (by decide +kernel) (r_cons (r_var k 0 (by decide +kernel)) (r_cons (r_int') (pa_nild)))) (r_int') rfl)))).pt) (pss_consd (r_set k 2 (by decide +kernel) (r_call k 15 (by decide +kernel) (r_cons (r_var k 0 (by decide +kernel)) (r_cons (r_len k (by decide +kernel) (r_cons (r_var k 1 (by decide +kernel)) (pa_nild))) (pa_nild)))) rfl) (pss_oned (ps_retd (pd_op od_add (pd_op od_add (pd_sl (r_var k 1 (by decide +kernel)) po_non (po_som (r_var k 2 (by decide +kernel)))) (pd_tup (r_cons (r_call k 20 (by decide +kernel) (r_cons (r_var k 0 (by decide +kernel)) (r_cons (pd_ix (r_var k 1 (by decide +kernel)) (r_var k 2 (by decide +kernel)) (fun _ _ => rfl)) (pa_nild)))) (pa_nild)))) (pd_sl (r_var k 1 (by decide +kernel)) (po_som (pd_op od_add (r_var k 2 (by decide +kernel)) (r_int'))) po_non))))) (pss_nild)) (pss_consd (ps_ifd (pt_tru (r_isi k (by decide +kernel) (r_cons (r_var k 1 (by decide +kernel)) (r_cons (r_tyv k (by decide +kernel) b_tuple) (pa_nild)))) (fun _ => rfl)) (pss_oned (ps_retd (r_call k 16 (by decide +kernel) (r_cons (r_var k 0 (by decide +kernel)) (r_cons (pd_new (pl_lst (r_cons (r_list k (by decide +kernel) (r_cons (r_var k 1 (by decide +kernel)) (pa_nild))) (r_cons (pd_sl (r_var k 1 (by decide +kernel)) (po_som (r_int')) po_non) (r_cons (pd_sl (r_var k 1 (by decide +kernel)) po_non (po_som (pd_un od_neg (r_int')))) (r_cons (pd_op od_add (r_var k 1 (by decide +kernel)) (pd_sl (r_var k 1 (by decide +kernel)) (po_som (pd_un od_neg (r_int'))) po_non)) (r_cons (pd_back (r_var k 1 (by decide +kernel))) (r_cons (pd_tup (pa_nild)) (r_cons (r_n) (pa_nild)))))))))) (pa_nild)))))) (pss_nild)) (pss_consd (ps_ifd (pt_tru (r_isi k (by decide +kernel) (r_cons (r_var k 1 (by decide +kernel)) (r_cons (r_tyv k (by decide +kernel) b_bool) (pa_nild)))) (fun _ => rfl)) (pss_oned (ps_retd (r_call k 16 (by decide +kernel) (r_cons (r_var k 0 (by decide +kernel)) (r_cons (pd_new (pl_lst (r_cons (pd_no (r_var k 1 (by decide +kernel))) (r_cons (r_int k (by decide +kernel) (r_cons (r_var k 1 (by decide +kernel)) (pa_nild))) (r_cons (r_n) (pa_nild)))))) (pa_nild)))))) (pss_nild)) (pss_consd (ps_ifd (pt_tru (r_isi k (by decide +kernel) (r_cons (r_var k 1 (by decide +kernel)) (r_cons (r_tyv k (by decide +kernel) b_int) (pa_nild)))) (fun _ => rfl)) (pss_oned (ps_retd (r_call k 16 (by decide +kernel) (r_cons (r_var k 0 (by decide +kernel)) (r_cons (pd_new (pl_lst (r_cons (pd_op od_add (r_var k 1 (by decide +kernel)) (r_int')) (r_cons (pd_op od_sub (r_var k 1 (by decide +kernel)) (r_int')) (r_cons (pd_un od_neg (r_var k 1 (by decide +kernel))) (r_cons (r_str k (by decide +kernel) (r_cons (r_var k 1 (by decide +kernel)) (pa_nild))) (r_cons (r_n) (r_cons (pd_cmp (od_eq k.r0) (r_var k 1 (by decide +kernel)) (r_int') rfl) (r_cons (pd_tup (r_cons (r_var k 1 (by decide +kernel)) (pa_nild))) (pa_nild)))))))))) (pa_nild)))))) (pss_nild)) (pss_consd (ps_ifd (pt_tru (r_isi k (by decide +kernel) (r_cons (r_var k 1 (by decide +kernel)) (r_cons (r_tyv k (by decide +kernel) b_str) (pa_nild)))) (fun _ => rfl)) (pss_consd (r_set k 3 (by decide +kernel) (pd_new (pl_lst (r_cons (pd_op od_add (r_var k 1 (by decide +kernel)) (r_s)) (r_cons (pd_sl (r_var k 1 (by decide +kernel)) po_non (po_som (pd_un od_neg (r_int')))) (r_cons (pd_bad) (r_cons (pd_new (pl_lst (r_cons (r_var k 1 (by decide +kernel)) (pa_nild)))) (r_cons (r_s) (r_cons (r_n) (r_cons (r_int') (r_cons (r_s) (r_cons (pd_op od_add (r_s) (r_var k 1 (by decide +kernel))) (r_cons (pd_op od_add (r_var k 1 (by decide +kernel)) (r_s)) (pa_nild))))))))))))) rfl) (pss_oned (ps_retd (r_call k 16 (by decide +kernel) (r_cons (r_var k 0 (by decide +kernel)) (r_cons (r_var k 3 (by decide +kernel)) (pa_nild))))))) (pss_nild)) (pss_oned (ps_retd (r_call k 18 (by decide +kernel) (r_cons (r_var k 0 (by decide +kernel)) (pa_nild)))))))))
theorem b_law_office {X : Cx} {c : Cm} {lv : Nat} {E : XK} (k : Cok (gOf consts fns bis ⟨"_law_office", top 39, ["pot", "moods", "slips", "rules", "many", "kinds", "found", "lap", "put", "turn"], ["pot", "moods", "slips", "rules"], m_law_office⟩) c lv E X) : PSsd X c E (defBody (top 39)) m_law_office := by
  unfold m_law_office
  exact pss_consd (r_asgt k (by kernel_rfl) (pd_tup (r_cons (pd_op od_add (r_int') (r_call k 15 (by decide +kernel) (r_cons (r_var k 0 (by decide +kernel)) (r_cons (r_var k 1 (by decide +kernel)) (pa_nild))))) (r_cons (pd_op od_add (r_int') (r_call k 15 (by decide +kernel) (r_cons (r_var k 0 (by decide +kernel)) (r_cons (r_var k 2 (by decide +kernel)) (pa_nild))))) (r_cons (pd_new (pl_lst (pa_nild))) (pa_nild))))) (pg_tp k (pgs_consd (r_nm k 4 (by decide +kernel)) (pgs_consd (r_nm k 5 (by decide +kernel)) (pgs_consd (r_nm k 6 (by decide +kernel)) (pgs_nild) rfl) rfl) rfl) rfl rfl rfl)) (pss_consd (r_for k (r_rg1 k (by decide +kernel) (r_cons (r_call k 15 (by decide +kernel) (r_cons (r_var k 0 (by decide +kernel)) (r_cons (pd_op od_add (r_var k 3 (by decide +kernel)) (r_int')) (pa_nild)))) (pa_nild))) (r_nm k 7 (by decide +kernel)) (pss_consd (r_set k 8 (by decide +kernel) (r_tuplel k (by decide +kernel) (r_comp k (own := [("turn", 9)]) (r_rg1 k (by decide +kernel) (r_cons (r_call k 16 (by decide +kernel) (r_cons (r_var k 0 (by decide +kernel)) (r_cons (pd_new (pl_lst (r_cons (r_int') (r_cons (r_int') (r_cons (r_int') (r_cons (r_int') (r_cons (r_int') (r_cons (r_int') (pa_nild))))))))) (pa_nild)))) (pa_nild))) (by decide +kernel) (fun k => r_nm k 9 (by decide +kernel)) (fun k => pts_nild) (fun k => r_call k 15 (by decide +kernel) (r_cons (r_var k 0 (by decide +kernel)) (r_cons (r_var k 5 (by decide +kernel)) (pa_nild)))))) rfl) (pss_oned (r_drop (r_app (r_var k 6 (by decide +kernel)) (r_cons (pd_tup (r_cons (r_call k 15 (by decide +kernel) (r_cons (r_var k 0 (by decide +kernel)) (r_cons (r_var k 4 (by decide +kernel)) (pa_nild)))) (r_cons (r_call k 15 (by decide +kernel) (r_cons (r_var k 0 (by decide +kernel)) (r_cons (r_var k 5 (by decide +kernel)) (pa_nild)))) (r_cons (r_call k 15 (by decide +kernel) (r_cons (r_var k 0 (by decide +kernel)) (r_cons (r_var k 4 (by decide +kernel)) (pa_nild)))) (r_cons (r_var k 8 (by decide +kernel)) (pa_nild)))))) (pa_nild))))))) (pss_oned (ps_retd (pd_tup (r_cons (r_var k 4 (by decide +kernel)) (r_cons (r_var k 5 (by decide +kernel)) (r_cons (r_tuplel k (by decide +kernel) (r_sset k (by decide +kernel) (r_var k 6 (by decide +kernel)))) (pa_nild))))))))
theorem b_law_watcher {X : Cx} {c : Cm} {lv : Nat} {E : XK} (k : Cok (gOf consts fns bis ⟨"_law_watcher", top 40, ["pot", "office", "many", "rows", "state", "mood"], ["pot", "office"], m_law_watcher⟩) c lv E X) : PSsd X c E (defBody (top 40)) m_law_watcher := by
  unfold m_law_watcher
  exact pss_consd (r_set k 2 (by decide +kernel) (pd_op od_add (r_int') (r_call k 15 (by decide +kernel) (r_cons (r_var k 0 (by decide +kernel)) (r_cons (r_int') (pa_nild))))) rfl) (pss_consd (r_set k 3 (by decide +kernel) (r_tuplel k (by decide +kernel) (r_comp k (own := [("state", 4)]) (r_rg1 k (by decide +kernel) (r_cons (r_var k 2 (by decide +kernel)) (pa_nild))) (by decide +kernel) (fun k => r_nm k 4 (by decide +kernel)) (fun k => pts_nild) (fun k => r_tuplel k (by decide +kernel) (r_comp k (own := [("mood", 5)]) (r_rg1 k (by decide +kernel) (r_cons (pd_ix (r_var k 1 (by decide +kernel)) (r_int') (fun _ _ => rfl)) (pa_nild))) (by decide +kernel) (fun k => r_nm k 5 (by decide +kernel)) (fun k => pts_nild) (fun k => r_call k 15 (by decide +kernel) (r_cons (r_var k 0 (by decide +kernel)) (r_cons (r_var k 2 (by decide +kernel)) (pa_nild)))))))) rfl) (pss_oned (ps_retd (pd_tup (r_cons (r_var k 3 (by decide +kernel)) (r_cons (r_tuplel k (by decide +kernel) (r_comp k (own := [("state", 4)]) (r_rg1 k (by decide +kernel) (r_cons (r_var k 2 (by decide +kernel)) (pa_nild))) (by decide +kernel) (fun k => r_nm k 4 (by decide +kernel)) (fun k => pts_oned (pt_cmpd (od_eq k.r0) (r_call k 15 (by decide +kernel) (r_cons (r_var k 0 (by decide +kernel)) (r_cons (r_int') (pa_nild)))) (r_int') rfl)) (fun k => r_var k 4 (by decide +kernel)))) (pa_nild)))))))
theorem b_law_is_watcher {X : Cx} {c : Cm} {lv : Nat} {E : XK} (k : Cok (gOf consts fns bis ⟨"_law_is_watcher", top 41, ["office", "value", "many", "row", "one"], ["office", "value"], m_law_is_watcher⟩) c lv E X) : PSsd X c E (defBody (top 41)) m_law_is_watcher := by
  unfold m_law_is_watcher
  exact pss_consd (ps_ifd ((pw_o (pt_no (pt_tru (r_isi k (by decide +kernel) (r_cons (r_var k 1 (by decide +kernel)) (r_cons (r_tyv k (by decide +kernel) b_tuple) (pa_nild)))) (fun _ => rfl))) (pw_o1 (pt_cmpd (od_ne k.r0) (r_len k (by decide +kernel) (r_cons (r_var k 1 (by decide +kernel)) (pa_nild))) (r_int') rfl))).pt) (pss_oned (ps_retd (r_b))) (pss_nild)) (pss_consd (ps_ifd ((pw_o (pt_no (pt_tru (r_isi k (by decide +kernel) (r_cons (pd_ix (r_var k 1 (by decide +kernel)) (r_int') (fun _ _ => rfl)) (r_cons (r_tyv k (by decide +kernel) b_tuple) (pa_nild)))) (fun _ => rfl))) (pw_o1 (pt_no (pt_chaind (od_cmpI op_le) (od_cmpI op_le) (r_int') (r_len k (by decide +kernel) (r_cons (pd_ix (r_var k 1 (by decide +kernel)) (r_int') (fun _ _ => rfl)) (pa_nild))) (r_int') rfl)))).pt) (pss_oned (ps_retd (r_b))) (pss_nild)) (pss_consd (r_set k 2 (by decide +kernel) (r_len k (by decide +kernel) (r_cons (pd_ix (r_var k 1 (by decide +kernel)) (r_int') (fun _ _ => rfl)) (pa_nild))) rfl) (pss_consd (r_for k (pi_anyd (pd_ix (r_var k 1 (by decide +kernel)) (r_int') (fun _ _ => rfl))) (r_nm k 3 (by decide +kernel)) (pss_consd (ps_ifd ((pw_o (pt_no (pt_tru (r_isi k (by decide +kernel) (r_cons (r_var k 3 (by decide +kernel)) (r_cons (r_tyv k (by decide +kernel) b_tuple) (pa_nild)))) (fun _ => rfl))) (pw_o1 (pt_cmpd (od_ne k.r0) (r_len k (by decide +kernel) (r_cons (r_var k 3 (by decide +kernel)) (pa_nild))) (pd_ix (r_var k 0 (by decide +kernel)) (r_int') (fun _ _ => rfl)) rfl))).pt) (pss_oned (ps_retd (r_b))) (pss_nild)) (pss_oned (ps_ifd (pt_no (pt_tru (r_alll k (by decide +kernel) (r_comp k (own := [("one", 4)]) (pi_anyd (r_var k 3 (by decide +kernel))) (by decide +kernel) (fun k => r_nm k 4 (by decide +kernel)) (fun k => pts_nild) (fun k => r_call k 19 (by decide +kernel) (r_cons (r_var k 4 (by decide +kernel)) (r_cons (r_int') (r_cons (pd_op od_sub (r_var k 2 (by decide +kernel)) (r_int')) (pa_nild))))))) (fun _ => rfl))) (pss_oned (ps_retd (r_b))) (pss_nild))))) (pss_consd (ps_ifd ((pw_o (pt_no (pt_tru (r_isi k (by decide +kernel) (r_cons (pd_ix (r_var k 1 (by decide +kernel)) (r_int') (fun _ _ => rfl)) (r_cons (r_tyv k (by decide +kernel) b_tuple) (pa_nild)))) (fun _ => rfl))) (pw_o1 (pt_no (pt_tru (r_alll k (by decide +kernel) (r_comp k (own := [("one", 4)]) (pi_anyd (pd_ix (r_var k 1 (by decide +kernel)) (r_int') (fun _ _ => rfl))) (by decide +kernel) (fun k => r_nm k 4 (by decide +kernel)) (fun k => pts_nild) (fun k => r_call k 19 (by decide +kernel) (r_cons (r_var k 4 (by decide +kernel)) (r_cons (r_int') (r_cons (pd_op od_sub (r_var k 2 (by decide +kernel)) (r_int')) (pa_nild))))))) (fun _ => rfl))))).pt) (pss_oned (ps_retd (r_b))) (pss_nild)) (pss_oned (ps_retd (pd_cmp (od_eq k.r0) (r_list k (by decide +kernel) (r_cons (pd_ix (r_var k 1 (by decide +kernel)) (r_int') (fun _ _ => rfl)) (pa_nild))) (pd_new (r_sset k (by decide +kernel) (pd_ix (r_var k 1 (by decide +kernel)) (r_int') (fun _ _ => rfl)))) rfl)))))))
theorem b_law_right {X : Cx} {c : Cm} {lv : Nat} {E : XK} (k : Cok (gOf consts fns bis ⟨"_law_right", top 42, ["pot", "office", "one", "other", "moods", "some", "full", "due", "first", "fresh", "warned", "watcher", "values", "mood", "lap", "value"], ["pot"], m_law_right⟩) c lv E X) : PSsd X c E (defBody (top 42)) m_law_right := by
  unfold m_law_right
  exact pss_consd (r_set k 1 (by decide +kernel) (r_call k 21 (by decide +kernel) (r_cons (r_var k 0 (by decide +kernel)) (r_cons (r_int') (r_cons (r_int') (r_cons (r_int') (pa_nild)))))) rfl) (pss_consd (r_asgt k (by kernel_rfl) (pd_tup (r_cons (r_call k 15 (by decide +kernel) (r_cons (r_var k 0 (by decide +kernel)) (r_cons (pd_ix (r_var k 1 (by decide +kernel)) (r_int') (fun _ _ => rfl)) (pa_nild)))) (r_cons (r_call k 15 (by decide +kernel) (r_cons (r_var k 0 (by decide +kernel)) (r_cons (pd_ix (r_var k 1 (by decide +kernel)) (r_int') (fun _ _ => rfl)) (pa_nild)))) (pa_nild)))) (pg_tp k (pgs_consd (r_nm k 2 (by decide +kernel)) (pgs_consd (r_nm k 3 (by decide +kernel)) (pgs_nild) rfl) rfl) rfl rfl rfl)) (pss_consd (r_set k 4 (by decide +kernel) (r_tuplel k (by decide +kernel) (r_comp k (own := [("mood", 13)]) (r_rg1 k (by decide +kernel) (r_cons (pd_ix (r_var k 1 (by decide +kernel)) (r_int') (fun _ _ => rfl)) (pa_nild))) (by decide +kernel) (fun k => r_nm k 13 (by decide +kernel)) (fun k => pts_oned (pt_cmpd (od_eq k.r0) (r_call k 15 (by decide +kernel) (r_cons (r_var k 0 (by decide +kernel)) (r_cons (r_int') (pa_nild)))) (r_int') rfl)) (fun k => r_var k 13 (by decide +kernel)))) rfl) (pss_consd (r_set k 5 (by decide +kernel) (pd_new (r_lrg1 k (by decide +kernel) (pd_ix (r_var k 1 (by decide +kernel)) (r_int') (fun _ _ => rfl)))) rfl) (pss_consd (r_set k 6 (by decide +kernel) (pd_tup (r_cons (r_tuplel k (by decide +kernel) (r_comp k (own := [("mood", 13)]) (pi_anyd (r_var k 5 (by decide +kernel))) (by decide +kernel) (fun k => r_nm k 13 (by decide +kernel)) (fun k => pts_nild) (fun k => r_int'))) (r_cons (r_tuplel k (by decide +kernel) (r_comp k (own := [("mood", 13)]) (pi_anyd (r_var k 5 (by decide +kernel))) (by decide +kernel) (fun k => r_nm k 13 (by decide +kernel)) (fun k => pts_nild) (fun k => r_int'))) (pa_nild)))) rfl) (pss_consd (r_set k 7 (by decide +kernel) (pd_tup (r_cons (r_tuplel k (by decide +kernel) (r_comp k (own := [("mood", 13)]) (pi_anyd (r_var k 5 (by decide +kernel))) (by decide +kernel) (fun k => r_nm k 13 (by decide +kernel)) (fun k => pts_nild) (fun k => pd_if (pt_cmpd (od_in k.r0) (r_var k 13 (by decide +kernel)) (r_var k 4 (by decide +kernel)) rfl) (r_int') (r_int')))) (r_cons (pd_ix (r_var k 6 (by decide +kernel)) (r_int') (fun _ _ => rfl)) (pa_nild)))) rfl) (pss_consd (ps_ifd (pt_cmpd (od_ne k.r0) (r_repr k (by decide +kernel) (r_cons (r_call k 11 (by decide +kernel) (r_cons (r_var k 1 (by decide +kernel)) (r_cons (r_var k 4 (by decide +kernel)) (pa_nild)))) (pa_nild))) (r_repr k (by decide +kernel) (r_cons (pd_tup (r_cons (r_var k 7 (by decide +kernel)) (r_cons (pd_tup (r_cons (r_int') (pa_nild))) (pa_nild)))) (pa_nild))) rfl) (pss_oned (ps_retd (r_b))) (pss_nild)) (pss_consd (r_set k 8 (by decide +kernel) (r_tuplel k (by decide +kernel) (r_comp k (own := [("mood", 13)]) (pi_anyd (r_var k 5 (by decide +kernel))) (by decide +kernel) (fun k => r_nm k 13 (by decide +kernel)) (fun k => pts_nild) (fun k => pd_if (pt_cmpd (od_eq k.r0) (r_var k 13 (by decide +kernel)) (r_var k 2 (by decide +kernel)) rfl) (r_int') (pd_if (pt_cmpd (od_eq k.r0) (r_var k 13 (by decide +kernel)) (r_var k 3 (by decide +kernel)) rfl) (r_int') (r_int'))))) rfl) (pss_consd (ps_ifd (pt_cmpd (od_ne k.r0) (r_repr k (by decide +kernel) (r_cons (r_call k 12 (by decide +kernel) (r_cons (r_var k 1 (by decide +kernel)) (r_cons (r_var k 2 (by decide +kernel)) (r_cons (r_var k 3 (by decide +kernel)) (pa_nild))))) (pa_nild))) (r_repr k (by decide +kernel) (r_cons (pd_tup (r_cons (pd_op od_add (pd_tup (r_cons (r_var k 8 (by decide +kernel)) (pa_nild))) (r_var k 6 (by decide +kernel))) (r_cons (pd_tup (r_cons (r_int') (pa_nild))) (pa_nild)))) (pa_nild))) rfl) (pss_oned (ps_retd (r_b))) (pss_nild)) (pss_consd (r_set k 9 (by decide +kernel) (r_tuplel k (by decide +kernel) (r_comp k (own := [("mood", 13)]) (pi_anyd (r_var k 5 (by decide +kernel))) (by decide +kernel) (fun k => r_nm k 13 (by decide +kernel)) (fun k => pts_nild) (fun k => pd_if (pt_cmpd (od_eq k.r0) (r_var k 13 (by decide +kernel)) (r_var k 2 (by decide +kernel)) rfl) (r_int') (r_int')))) rfl) (pss_consd (r_set k 10 (by decide +kernel) (r_tuplel k (by decide +kernel) (r_comp k (own := [("mood", 13)]) (pi_anyd (r_var k 5 (by decide +kernel))) (by decide +kernel) (fun k => r_nm k 13 (by decide +kernel)) (fun k => pts_nild) (fun k => pd_if (pt_cmpd (od_eq k.r0) (r_var k 13 (by decide +kernel)) (r_var k 3 (by decide +kernel)) rfl) (r_int') (pd_if (pt_cmpd (od_eq k.r0) (r_var k 13 (by decide +kernel)) (r_var k 2 (by decide +kernel)) rfl) (r_int') (r_int'))))) rfl) (pss_consd (ps_ifd (pt_cmpd (od_ne k.r0) (r_repr k (by decide +kernel) (r_cons (r_call k 13 (by decide +kernel) (r_cons (r_var k 1 (by decide +kernel)) (r_cons (r_var k 2 (by decide +kernel)) (r_cons (r_var k 3 (by decide +kernel)) (pa_nild))))) (pa_nild))) (r_repr k (by decide +kernel) (r_cons (pd_tup (r_cons (pd_tup (r_cons (r_var k 9 (by decide +kernel)) (r_cons (r_var k 10 (by decide +kernel)) (r_cons (pd_ix (r_var k 6 (by decide +kernel)) (r_int') (fun _ _ => rfl)) (pa_nild))))) (r_cons (pd_tup (r_cons (r_int') (pa_nild))) (pa_nild)))) (pa_nild))) rfl) (pss_oned (ps_retd (r_b))) (pss_nild)) (pss_consd (r_set k 11 (by decide +kernel) (r_call k 22 (by decide +kernel) (r_cons (r_var k 0 (by decide +kernel)) (r_cons (r_var k 1 (by decide +kernel)) (pa_nild)))) rfl) (pss_consd (r_set k 12 (by decide +kernel) (pd_new (pl_lst (r_cons (r_var k 11 (by decide +kernel)) (r_cons (r_list k (by decide +kernel) (r_cons (r_var k 11 (by decide +kernel)) (pa_nild))) (r_cons (pd_sl (r_var k 11 (by decide +kernel)) po_non (po_som (r_int'))) (r_cons (pd_tup (r_cons (pd_ix (r_var k 11 (by decide +kernel)) (r_int') (fun _ _ => rfl)) (r_cons (pd_op od_add (pd_ix (r_var k 11 (by decide +kernel)) (r_int') (fun _ _ => rfl)) (pd_tup (r_cons (r_int') (pa_nild)))) (pa_nild)))) (r_cons (pd_tup (r_cons (pd_op od_mul (pd_ix (r_var k 11 (by decide +kernel)) (r_int') (fun _ _ => rfl)) (r_int')) (r_cons (pd_tup (pa_nild)) (pa_nild)))) (r_cons (r_call k 18 (by decide +kernel) (r_cons (r_var k 0 (by decide +kernel)) (pa_nild))) (pa_nild))))))))) rfl) (pss_consd (r_drop (r_ext (r_var k 12 (by decide +kernel)) (r_cons (pd_op od_add (pd_new (pl_lst (r_cons (pd_tup (r_cons (pd_tup (pa_nild)) (r_cons (pd_tup (pa_nild)) (pa_nild)))) (r_cons (pd_tup (r_cons (pd_tup (r_cons (pd_tup (r_cons (r_int') (pa_nild))) (pa_nild))) (r_cons (pd_tup (r_cons (r_int') (pa_nild))) (pa_nild)))) (r_cons (pd_tup (r_cons (pd_tup (r_cons (pd_op od_mul (pd_tup (r_cons (r_int') (pa_nild))) (r_int')) (pa_nild))) (r_cons (pd_tup (pa_nild)) (pa_nild)))) (pa_nild)))))) (pd_new (r_comp k (own := [("lap", 14)]) (r_rg1 k (by decide +kernel) (r_cons (r_int') (pa_nild))) (by decide +kernel) (fun k => r_nm k 14 (by decide +kernel)) (fun k => pts_nild) (fun k => r_call k 20 (by decide +kernel) (r_cons (r_var k 0 (by decide +kernel)) (r_cons (r_var k 11 (by decide +kernel)) (pa_nild))))))) (pa_nild)))) (pss_oned (ps_retd (r_alll k (by decide +kernel) (r_comp k (own := [("value", 15)]) (pi_anyd (r_var k 12 (by decide +kernel))) (by decide +kernel) (fun k => r_nm k 15 (by decide +kernel)) (fun k => pts_nild) (fun k => pd_cmp (od_eq k.r0) (r_repr k (by decide +kernel) (r_cons (r_call k 9 (by decide +kernel) (r_cons (r_var k 1 (by decide +kernel)) (r_cons (r_var k 15 (by decide +kernel)) (pa_nild)))) (pa_nild))) (r_repr k (by decide +kernel) (r_cons (r_call k 23 (by decide +kernel) (r_cons (r_var k 1 (by decide +kernel)) (r_cons (r_var k 15 (by decide +kernel)) (pa_nild)))) (pa_nild))) rfl)))))))))))))))))))
theorem b_law {X : Cx} {c : Cm} {lv : Nat} {E : XK} (k : Cok (gOf consts fns bis ⟨"law", top 43, ["script", "place", "pot", "lap"], ["script"], m_law⟩) c lv E X) : PSsd X c E (defBody (top 43)) m_law := by
  unfold m_law
  exact pss_consd (r_for k (pi_anyd (r_call k 17 (by decide +kernel) (r_cons (r_var k 0 (by decide +kernel)) (r_cons (r_int') (pa_nild))))) (r_nm k 1 (by decide +kernel)) (pss_consd (r_set k 2 (by decide +kernel) (r_call k 14 (by decide +kernel) (r_cons (r_var k 0 (by decide +kernel)) (r_cons (r_var k 1 (by decide +kernel)) (pa_nild)))) rfl) (pss_oned (ps_ifd (pt_no (pt_tru (r_alll k (by decide +kernel) (r_comp k (own := [("lap", 3)]) (r_rg1 k (by decide +kernel) (r_cons (r_int') (pa_nild))) (by decide +kernel) (fun k => r_nm k 3 (by decide +kernel)) (fun k => pts_nild) (fun k => r_call k 24 (by decide +kernel) (r_cons (r_var k 2 (by decide +kernel)) (pa_nild))))) (fun _ => rfl))) (pss_oned (ps_retd (r_b))) (pss_nild))))) (pss_oned (ps_retd (r_b)))
theorem bodies : ∀ (i : Nat) (d : DefE), defs[i]? = some d → ∀ {X : Cx} {c : Cm} {lv : Nat} {E : XK}, Cok (gOf consts fns bis d) c lv E X → PSsd X c E (defBody d.st) d.m
  | 0, d, h => by cases h; exact fun k => b_is_tuple k
  | 1, d, h => by cases h; exact fun k => b_is_whole k
  | 2, d, h => by cases h; exact fun k => b_is_integer k
  | 3, d, h => by cases h; exact fun k => b_is_rising k
  | 4, d, h => by cases h; exact fun k => b_is_rule k
  | 5, d, h => by cases h; exact fun k => b_is_office k
  | 6, d, h => by cases h; exact fun k => b_check_office k
  | 7, d, h => by cases h; exact fun k => b_is_row k
  | 8, d, h => by cases h; exact fun k => b_check_moods k
  | 9, d, h => by cases h; exact fun k => b_is_watcher k
  | 10, d, h => by cases h; exact fun k => b_check_mood k
  | 11, d, h => by cases h; exact fun k => b_never k
  | 12, d, h => by cases h; exact fun k => b_not_before k
  | 13, d, h => by cases h; exact fun k => b_not_behind k
  | 14, d, h => by cases h; exact fun k => b_law_pot k
  | 15, d, h => by cases h; exact fun k => b_law_take k
  | 16, d, h => by cases h; exact fun k => b_law_of k
  | 17, d, h => by cases h; exact fun k => b_law_places k
  | 18, d, h => by cases h; exact fun k => b_law_odd k
  | 19, d, h => by cases h; exact fun k => b_law_is_int k
  | 20, d, h => by cases h; exact fun k => b_law_bent k
  | 21, d, h => by cases h; exact fun k => b_law_office k
  | 22, d, h => by cases h; exact fun k => b_law_watcher k
  | 23, d, h => by cases h; exact fun k => b_law_is_watcher k
  | 24, d, h => by cases h; exact fun k => b_law_right k
  | 25, d, h => by cases h; exact fun k => b_law k
  | _ + 26, d, h => by cases h
def dfs : List He.DefD := defs.map DefE.dd
def fa : List He.Fa := [.glo "is_tuple", .glo "is_whole", .glo "is_integer", .glo "is_rising", .glo "is_rule", .glo "is_office", .glo "check_office", .glo "is_row", .glo "check_moods", .glo "is_watcher", .glo "check_mood", .glo "never", .glo "not_before", .glo "not_behind", .glo "_law_pot", .glo "_law_take", .glo "_law_of", .glo "_law_places", .glo "_law_odd", .glo "_law_is_int", .glo "_law_bent", .glo "_law_office", .glo "_law_watcher", .glo "_law_is_watcher", .glo "_law_right", .glo "law", .int "MOST_MOODS" 5, .int "MOST_SLIPS" 6, .int "MOST_RULES" 60, .int "MOST_PUT" 2, .int "TRIPLE" 3, .int "FOUR" 4, .int "MOST_STATES" 4, .int "PAIR" 2, .free "abs", .free "all", .free "bool", .free "int", .free "isinstance", .free "len", .free "list", .free "max", .free "min", .free "range", .free "repr", .free "set", .free "sorted", .free "str", .free "sum", .free "tuple", .free "zip"]
abbrev R : PySem.W.OpenRow := PySem.W.OpenLaw.row PySem.Challenge.rw_piledhigh_k33_watchers_and_what_is_none
abbrev hk : PySem.W.Hook := He.hookD 4 fa dfs
def ob (s : PySem.W.SharedT) : He.AlD := He.obsDG 4 fa dfs (HandSHeadRun.getT s)
theorem ob_eq (s : PySem.W.SharedT) : ob s = hk.obs s.abs := He.obsDG_eq (HandSHeadRun.getT_eq s)
def names : List Str := (["is_tuple", "is_whole", "is_integer", "is_rising", "is_rule", "is_office", "check_office", "is_row", "check_moods", "is_watcher", "check_mood", "never", "not_before", "not_behind", "_law_pot", "_law_take", "_law_of", "_law_places", "_law_odd", "_law_is_int", "_law_bent", "_law_office", "_law_watcher", "_law_is_watcher", "_law_right", "MOST_MOODS", "MOST_SLIPS", "MOST_RULES", "MOST_PUT", "TRIPLE"] : List Str) ++ (["FOUR", "MOST_STATES", "PAIR", "ErrandError", "BadOffice", "BadMoods", "BadMood"] : List Str)
def lawI : Nat := 25
def lawTop : Nat := 43
theorem scopes : (defs.all fun d => C8.scC d.N d.ps (defScope d.st) && decide (d.ps.length ≤ d.N.length)) = true := by decide +kernel
theorem run (w : World) : HandSHeadRun.RunEq R (PySem.W.view R.prog [43]) hk ob 3640 names w := by
  intro os
  kernel_rfl
end
end Rf.L33
end

section
set_option Elab.async false
set_option linter.all false
set_option maxRecDepth 100000
set_option maxHeartbeats 0
namespace Rf.L33
open PySem PySem.Spec PyProof.Rows L2 Rf
theorem fns_ok : ∀ (x : Str) (i : Nat), fns.lookup x = some i → ∃ d : DefE, defs[i]? = some d ∧ d.name = x := by
  have key : (fns.all fun p => match defs[p.2]? with | some d => decide (d.name = p.1) | none => false) = true := by decide +kernel
  intro x i h
  have := List.all_eq_true.mp key (x, i) (PySem.mem_of_lookup h)
  dsimp only at this
  split at this
  · rename_i d e; exact ⟨d, e, of_decide_eq_true this⟩
  · cases this
theorem consts_ok : ∀ (x : Str) (d : D), consts.lookup x = some d → (∃ i, d = .int i ∧ He.Fa.int x i ∈ fa) ∨ ∃ z, d = .str z ∧ He.Fa.str x z ∈ fa := by
  intro x d h
  have h := PySem.mem_of_lookup h
  simp only [consts, List.mem_cons, List.not_mem_nil, or_false, Prod.mk.injEq] at h
  rcases h with ⟨rfl, rfl⟩ | ⟨rfl, rfl⟩ | ⟨rfl, rfl⟩ | ⟨rfl, rfl⟩ | ⟨rfl, rfl⟩ | ⟨rfl, rfl⟩ | ⟨rfl, rfl⟩ | ⟨rfl, rfl⟩ <;> exact .inl ⟨_, rfl, by simp [fa]⟩
theorem glos : ∀ d : DefE, d ∈ defs → He.Fa.glo d.name ∈ fa := by
  intro d h
  simp only [defs, List.mem_cons, List.not_mem_nil, or_false] at h
  rcases h with rfl | rfl | rfl | rfl | rfl | rfl | rfl | rfl | rfl | rfl | rfl | rfl | rfl | rfl | rfl | rfl | rfl | rfl | rfl | rfl | rfl | rfl | rfl | rfl | rfl | rfl <;> simp [fa]
theorem frees : ∀ x ∈ bis, He.Fa.free x ∈ fa := by
  intro x h
  simp only [bis, List.mem_cons, List.not_mem_nil, or_false] at h
  rcases h with rfl | rfl | rfl | rfl | rfl | rfl | rfl | rfl | rfl | rfl | rfl | rfl | rfl | rfl | rfl | rfl | rfl <;> simp [fa]
theorem bound : ∀ d : DefE, d ∈ defs → ∀ (kV doc pm : Value) (an : Option Addr) (cdv ct : Value) (us : List Value), us.length = d.ps.length → bindArgs (PySem.W.fnOf d.name d.name (defArgs d.st) (defBody d.st) (defScope d.st) .none kV doc pm an cdv ct) ⟨us, []⟩ = pure (d.ps.zip us) := by
  intro d h
  simp only [defs, List.mem_cons, List.not_mem_nil, or_false] at h
  rcases h with rfl | rfl | rfl | rfl | rfl | rfl | rfl | rfl | rfl | rfl | rfl | rfl | rfl | rfl | rfl | rfl | rfl | rfl | rfl | rfl | rfl | rfl | rfl | rfl | rfl | rfl <;> intro kV doc pm an cdv ct us hl <;>
    first
    | (match us, hl with | [_], _ => rfl)
    | (match us, hl with | [_, _], _ => rfl)
    | (match us, hl with | [_, _, _], _ => rfl)
    | (match us, hl with | [_, _, _, _], _ => rfl)
    | (match us, hl with | [_, _, _, _, _], _ => rfl)
    | (match us, hl with | [_, _, _, _, _, _], _ => rfl)
    | (match us, hl with | [], _ => rfl)
end Rf.L33
end

section
set_option Elab.async false
set_option linter.all false
set_option maxRecDepth 100000
set_option maxHeartbeats 4000000
/-! Rf, part X: what holds behind a computation, construct by construct. -/
namespace Rf
open PySem PySem.Spec PyProof.Rows L2
abbrev XQ := Nat → D → Sto → Prop
def noX : XQ := fun _ _ _ => False
def wp {α : Type} (r : Res α) (Q : α → Sto → Prop) (X : XQ) : Prop := match r with
  | .ok a S => Q a S
  | .exc c d S => X c d S
  | .bad => False
section
variable {α β : Type} {c : Cm} {ρ : Ev} {S : Sto} {X : XQ}
theorem wp_ok {a : α} {Q : α → Sto → Prop} : wp (.ok a S) Q X = Q a S := rfl
theorem wp_exc {k : Nat} {d : D} {Q : α → Sto → Prop} : wp (.exc k d S : Res α) Q X = X k d S := rfl
theorem wp_bad {Q : α → Sto → Prop} : wp (.bad : Res α) Q X = False := rfl
theorem wp_bnd {r : Res α} {f : α → Sto → Res β} {Q : β → Sto → Prop} : wp (r.bind f) Q X = wp r (fun a S' => wp (f a S') Q X) X := by cases r <;> rfl
theorem wp_bind {m : M α} {f : α → M β} {Q : β → Sto → Prop} : wp (M.bind m f c ρ S) Q X = wp (m c ρ S) (fun a S' => wp (f a c ρ S') Q X) X := wp_bnd
theorem wp_mono {r : Res α} {Q Q' : α → Sto → Prop} (h : wp r Q X) (i : ∀ a S, Q a S → Q' a S) : wp r Q' X := by
  cases r with
  | ok a S => exact i a S h
  | exc k d S => exact h
  | bad => exact h
/-- what is known of a value: an equation -/
theorem wp_of {r : Res α} {a : α} {Q : α → Sto → Prop} (h : r = .ok a S) (q : Q a S) : wp r Q X := by rw [h]; exact q
theorem ok_of {r : Res α} {a : α} (h : wp r (fun b T => b = a ∧ T = S) noX) : r = .ok a S := by
  cases r with
  | ok b T => obtain ⟨rfl, rfl⟩ := h; rfl
  | exc k d S => exact h.elim
  | bad => exact h.elim
theorem ex_of {r : Res α} {P : α → Sto → Prop} (h : wp r P noX) : ∃ a S, r = .ok a S ∧ P a S := by
  cases r with
  | ok b T => exact ⟨b, T, rfl, h⟩
  | exc k d S => exact h.elim
  | bad => exact h.elim
/-- a guard -/
theorem wp_g {p : Prop} [Decidable p] {r : Res α} {Q : α → Sto → Prop} : wp (if p then r else .bad) Q X = (p ∧ wp r Q X) := by
  by_cases h : p
  · rw [if_pos h]; simp [h]
  · rw [if_neg h]; simp [h, wp]
theorem wp_ite {p : Prop} [Decidable p] {r r' : Res α} {Q : α → Sto → Prop} : wp (if p then r else r') Q X = if p then wp r Q X else wp r' Q X := by
  by_cases h : p
  · rw [if_pos h, if_pos h]
  · rw [if_neg h, if_neg h]
/-! ### expressions -/
variable {Q : D → Sto → Prop} {B : Bool → Sto → Prop} {L : List D → Sto → Prop} {O : Out → Sto → Prop} {ma mb me : M D} {ta tb : M Bool} {ms mr ml : M (List D)}
def VarK (Q : D → Sto → Prop) (S : Sto) : Option (Option D) → Prop
  | some (some d) => Q d S
  | _ => False
theorem vk_s {d : D} : VarK Q S (some (some d)) = Q d S := rfl
theorem w_var {i : Nat} : wp (mVar i c ρ S) Q X = VarK Q S ρ[i]? := by
  unfold mVar VarK
  cases ρ[i]? with
  | none => rfl
  | some o => cases o <;> rfl
theorem w_lit {d : D} : wp (mLit d c ρ S) Q X = Q d S := rfl
theorem w_op {f : D → D → Sto → Res D} : wp (mOp f ma mb c ρ S) Q X = wp (ma c ρ S) (fun x S1 => wp (mb c ρ S1) (fun y S2 => wp (f x y S2) Q X) X) X := by
  unfold mOp; rw [wp_bind]; congr; funext x S1; rw [wp_bind]
theorem w_un {f : D → Sto → Res D} : wp (mUn f ma c ρ S) Q X = wp (ma c ρ S) (fun x S1 => wp (f x S1) Q X) X := by unfold mUn; rw [wp_bind]
theorem w_new : wp (mNew ml c ρ S) Q X = wp (ml c ρ S) (fun ds S1 => ds.length ≤ sizeLine ∧ Q (.ref S1.length) (S1 ++ [.lst ds])) X := by
  unfold mNew; rw [wp_bind]; congr; funext ds S1; rw [wp_g]; rfl
theorem w_nil : wp (aNil c ρ S) L X = L [] S := rfl
theorem w_cons : wp (aCons ma mr c ρ S) L X = wp (ma c ρ S) (fun x S1 => wp (mr c ρ S1) (fun xs S2 => L (x :: xs) S2) X) X := by
  unfold aCons; rw [wp_bind]; congr; funext x S1; rw [wp_bind]; rfl
theorem w_starL : wp (aStarL ml mr c ρ S) L X = wp (ml c ρ S) (fun x S1 => wp (mr c ρ S1) (fun xs S2 => L (x ++ xs) S2) X) X := by
  unfold aStarL; rw [wp_bind]; congr; funext x S1; rw [wp_bind]; rfl
def StarK (c : Cm) (ρ : Ev) (mr : M (List D)) (L : List D → Sto → Prop) (X : XQ) (S : Sto) : Option (List D) → Prop
  | some ds => wp (mr c ρ S) (fun es S' => L (ds ++ es) S') X
  | none => False
theorem stk_s {ds : List D} : StarK c ρ mr L X S (some ds) = wp (mr c ρ S) (fun es S' => L (ds ++ es) S') X := rfl
theorem w_star : wp (aStar ma mr c ρ S) L X = wp (ma c ρ S) (fun x S1 => StarK c ρ mr L X S1 (itemsOf x S1)) X := by
  unfold aStar; rw [wp_bind]; congr; funext x S1
  cases itemsOf x S1 with
  | none => rfl
  | some ds => dsimp only; rw [wp_bnd]; rfl
theorem w_tup : wp (mTup ms c ρ S) Q X = wp (ms c ρ S) (fun ds S1 => ds.length ≤ sizeLine ∧ Q (.tup ds) S1) X := by
  unfold mTup; rw [wp_bind]; congr; funext ds S1; rw [wp_g]; rfl
theorem w_lst : wp (lLst ms c ρ S) L X = wp (ms c ρ S) (fun ds S1 => ds.length ≤ sizeLine ∧ L ds S1) X := by
  unfold lLst; rw [wp_bind]; congr; funext ds S1; rw [wp_g]; rfl
theorem w_call {i : Nat} : wp (mCall i ms c ρ S) Q X = wp (ms c ρ S) (fun ds S1 => wp (c.call i ds S1) Q X) X := by unfold mCall; rw [wp_bind]
theorem w_bi {f : List D → Sto → Res D} : wp (mBi f ms c ρ S) Q X = wp (ms c ρ S) (fun ds S1 => wp (f ds S1) Q X) X := by unfold mBi; rw [wp_bind]
theorem w_li {f : List D → Sto → Res D} : wp (mLi f ml c ρ S) Q X = wp (ml c ρ S) (fun ds S1 => wp (f ds S1) Q X) X := by unfold mLi; rw [wp_bind]
def TruK (B : Bool → Sto → Prop) (S : Sto) : Option Bool → Prop
  | some b => B b S
  | none => False
theorem trk_s {b : Bool} : TruK B S (some b) = B b S := rfl
theorem w_tru : wp (tTru ma c ρ S) B X = wp (ma c ρ S) (fun d S1 => TruK B S1 (truth d S1)) X := by
  unfold tTru; rw [wp_bind]; congr; funext d S1
  cases truth d S1 <;> rfl
def BooK (B : Bool → Sto → Prop) (S : Sto) : D → Prop
  | .bl b => B b S
  | _ => False
theorem bok_b {b : Bool} : BooK B S (.bl b) = B b S := rfl
theorem w_boo : wp (tBoo ma c ρ S) B X = wp (ma c ρ S) (fun d S1 => BooK B S1 d) X := by
  unfold tBoo; rw [wp_bind]; congr; funext d S1
  cases d <;> rfl
def AnK (c : Cm) (ρ : Ev) (tb : M Bool) (B : Bool → Sto → Prop) (X : XQ) (S : Sto) : Bool → Prop
  | true => wp (tb c ρ S) B X
  | false => B false S
theorem ank_t : AnK c ρ tb B X S true = wp (tb c ρ S) B X := rfl
theorem ank_f : AnK c ρ tb B X S false = B false S := rfl
theorem w_tan : wp (tAn ta tb c ρ S) B X = wp (ta c ρ S) (fun k S1 => AnK c ρ tb B X S1 k) X := by
  unfold tAn; rw [wp_bind]; congr; funext k S1; cases k <;> rfl
def OrK (c : Cm) (ρ : Ev) (tb : M Bool) (B : Bool → Sto → Prop) (X : XQ) (S : Sto) : Bool → Prop
  | false => wp (tb c ρ S) B X
  | true => B true S
theorem ork_f : OrK c ρ tb B X S false = wp (tb c ρ S) B X := rfl
theorem ork_t : OrK c ρ tb B X S true = B true S := rfl
theorem w_tor : wp (tO ta tb c ρ S) B X = wp (ta c ρ S) (fun k S1 => OrK c ρ tb B X S1 k) X := by
  unfold tO; rw [wp_bind]; congr; funext k S1; cases k <;> rfl
theorem w_tno : wp (tNo ta c ρ S) B X = wp (ta c ρ S) (fun k S1 => B (!k) S1) X := by unfold tNo; rw [wp_bind]; rfl
theorem w_tyes : wp (tYesD c ρ S) B X = B true S := rfl
def mAnK (c : Cm) (ρ : Ev) (mb : M D) (Q : D → Sto → Prop) (X : XQ) (S : Sto) : D → Prop
  | .bl true => wp (mb c ρ S) Q X
  | .bl false => Q (.bl false) S
  | _ => False
theorem mank_t : mAnK c ρ mb Q X S (.bl true) = wp (mb c ρ S) Q X := rfl
theorem mank_f : mAnK c ρ mb Q X S (.bl false) = Q (.bl false) S := rfl
theorem w_man : wp (mAn ma mb c ρ S) Q X = wp (ma c ρ S) (fun d S1 => mAnK c ρ mb Q X S1 d) X := by
  unfold mAn; rw [wp_bind]; congr; funext d S1
  cases d <;> first | rfl | (rename_i b; cases b <;> rfl)
def mOK (c : Cm) (ρ : Ev) (mb : M D) (Q : D → Sto → Prop) (X : XQ) (S : Sto) : D → Prop
  | .bl false => wp (mb c ρ S) Q X
  | .bl true => Q (.bl true) S
  | _ => False
theorem mok_f : mOK c ρ mb Q X S (.bl false) = wp (mb c ρ S) Q X := rfl
theorem mok_t : mOK c ρ mb Q X S (.bl true) = Q (.bl true) S := rfl
theorem w_mor : wp (mO ma mb c ρ S) Q X = wp (ma c ρ S) (fun d S1 => mOK c ρ mb Q X S1 d) X := by
  unfold mO; rw [wp_bind]; congr; funext d S1
  cases d <;> first | rfl | (rename_i b; cases b <;> rfl)
theorem w_mno : wp (mNo ma c ρ S) Q X = wp (ma c ρ S) (fun d S1 => TruK (fun b T => Q (.bl !b) T) S1 (truth d S1)) X := by
  unfold mNo; rw [wp_bind]; congr; funext d S1
  cases truth d S1 <;> rfl
def IfV (c : Cm) (ρ : Ev) (ma mb : M D) (Q : D → Sto → Prop) (X : XQ) (S : Sto) : Bool → Prop
  | true => wp (ma c ρ S) Q X
  | false => wp (mb c ρ S) Q X
theorem ifv_t : IfV c ρ ma mb Q X S true = wp (ma c ρ S) Q X := rfl
theorem ifv_f : IfV c ρ ma mb Q X S false = wp (mb c ρ S) Q X := rfl
theorem w_mif : wp (mIf ta ma mb c ρ S) Q X = wp (ta c ρ S) (fun k S1 => IfV c ρ ma mb Q X S1 k) X := by
  unfold mIf; rw [wp_bind]; congr; funext k S1; cases k <;> rfl
def ChK (c : Cm) (ρ : Ev) (g : OpD) (y : D) (me : M D) (Q : D → Sto → Prop) (X : XQ) (S : Sto) : D → Prop
  | .bl true => wp (me c ρ S) (fun w S2 => wp (g y w S2) Q X) X
  | .bl false => Q (.bl false) S
  | _ => False
theorem chk_t {g : D → D → Sto → Res D} {y : D} : ChK c ρ g y me Q X S (.bl true) = wp (me c ρ S) (fun w S2 => wp (g y w S2) Q X) X := rfl
theorem chk_f {g : D → D → Sto → Res D} {y : D} : ChK c ρ g y me Q X S (.bl false) = Q (.bl false) S := rfl
theorem w_chain {f g : D → D → Sto → Res D} : wp (mChain f g ma mb me c ρ S) Q X = wp (ma c ρ S) (fun x S1 => wp (mb c ρ S1) (fun y S2 => wp (f x y S2) (fun z S3 => ChK c ρ g y me Q X S3 z) X) X) X := by
  unfold mChain; rw [wp_bind]; congr; funext x S1; rw [wp_bind]; congr; funext y S2
  show wp ((f x y S2).bind _) Q X = _
  rw [wp_bnd]; congr; funext z S3
  cases z <;> first | rfl | (rename_i b; cases b <;> first | rfl | (dsimp only; rw [wp_bnd]; rfl))
def OptK (Q : Option Int → Sto → Prop) (S : Sto) : D → Prop
  | .int i => Q (some i) S
  | _ => False
theorem opk_i {Q : Option Int → Sto → Prop} {i : Int} : OptK Q S (.int i) = Q (some i) S := rfl
theorem w_optn {Q : Option Int → Sto → Prop} : wp (mOpt none c ρ S) Q X = Q none S := rfl
theorem w_opts {Q : Option Int → Sto → Prop} : wp (mOpt (some ma) c ρ S) Q X = wp (ma c ρ S) (fun d S1 => OptK Q S1 d) X := by
  unfold mOpt; rw [wp_bind]; congr; funext d S1; cases d <;> rfl
theorem w_sl {lo hi : Option (M D)} : wp (mSl ma lo hi c ρ S) Q X = wp (ma c ρ S) (fun d S1 => wp (mOpt lo c ρ S1) (fun l S2 => wp (mOpt hi c ρ S2) (fun h S3 => wp (sliD d l h S3) Q X) X) X) X := by
  unfold mSl; rw [wp_bind]; congr; funext d S1; rw [wp_bind]; congr; funext l S2; rw [wp_bind]
def MetK (r : D → Prop) (d : D) : Bool → Prop
  | true => r d
  | false => False
theorem metk_t {r : D → Prop} {d : D} : MetK r d true = r d := rfl
theorem w_met {T : String} {f : D → List D → Sto → Res D} : wp (mMet T f ma ms c ρ S) Q X = wp (ma c ρ S) (fun d S1 => MetK (fun d => wp (ms c ρ S1) (fun ds S2 => wp (f d ds S2) Q X) X) d (isTy T d S1)) X := by
  unfold mMet; rw [wp_bind]; congr; funext d S1
  cases h : isTy T d S1 with
  | true =>
    rw [if_pos rfl]
    exact wp_bind
  | false =>
    rw [if_neg Bool.false_ne_true]
    rfl
theorem w_metl {T : String} {f : D → List D → Sto → Res D} : wp (mMetL T f ma ml c ρ S) Q X = wp (ma c ρ S) (fun d S1 => MetK (fun d => wp (ml c ρ S1) (fun ds S2 => wp (f d ds S2) Q X) X) d (isTy T d S1)) X := by
  unfold mMetL; rw [wp_bind]; congr; funext d S1
  cases h : isTy T d S1 with
  | true =>
    rw [if_pos rfl]
    exact wp_bind
  | false =>
    rw [if_neg Bool.false_ne_true]
    rfl
def BackK (Q : D → Sto → Prop) (S : Sto) : D → Prop
  | .tup xs => Q (.tup xs.reverse) S
  | _ => False
/-! ### statements -/
def SeqK (b : MS) (c : Cm) (O : Out → Sto → Prop) (X : XQ) : Out → Sto → Prop
  | .nx ρ', S => wp (b c ρ' S) O X
  | .rt d, S => O (.rt d) S
  | .bk ρ', S => O (.bk ρ') S
  | .ct ρ', S => O (.ct ρ') S
theorem sk_nx {b : MS} {ρ' : Ev} : SeqK b c O X (.nx ρ') S = wp (b c ρ' S) O X := rfl
theorem sk_rt {b : MS} {d : D} : SeqK b c O X (.rt d) S = O (.rt d) S := rfl
theorem sk_bk {b : MS} {ρ' : Ev} : SeqK b c O X (.bk ρ') S = O (.bk ρ') S := rfl
theorem sk_ct {b : MS} {ρ' : Ev} : SeqK b c O X (.ct ρ') S = O (.ct ρ') S := rfl
theorem w_seq {a b : MS} : wp (sSeq a b c ρ S) O X = wp (a c ρ S) (SeqK b c O X) X := by
  unfold sSeq; rw [wp_bnd]; congr; funext o S1; cases o <;> rfl
theorem w_snil : wp (sNil c ρ S) O X = O (.nx ρ) S := rfl
theorem w_ret : wp (sRet ma c ρ S) O X = wp (ma c ρ S) (fun d S1 => O (.rt d) S1) X := by unfold sRet; rw [wp_bind]; rfl
theorem w_retn : wp (sRetN c ρ S) O X = O (.rt .non) S := rfl
theorem w_drop : wp (sDrop ma c ρ S) O X = wp (ma c ρ S) (fun _ S1 => O (.nx ρ) S1) X := by unfold sDrop; rw [wp_bind]; rfl
def IfK (a b : MS) (c : Cm) (ρ : Ev) (O : Out → Sto → Prop) (X : XQ) (S : Sto) : Bool → Prop
  | true => wp (a c ρ S) O X
  | false => wp (b c ρ S) O X
theorem ifk_t {a b : MS} : IfK a b c ρ O X S true = wp (a c ρ S) O X := rfl
theorem ifk_f {a b : MS} : IfK a b c ρ O X S false = wp (b c ρ S) O X := rfl
theorem w_if {a b : MS} : wp (sIf ta a b c ρ S) O X = wp (ta c ρ S) (fun k S1 => IfK a b c ρ O X S1 k) X := by
  unfold sIf; rw [wp_bind]; congr; funext k S1; cases k <;> rfl
def AsgK (t : Tg) (ρ : Ev) (O : Out → Sto → Prop) (d : D) (S : Sto) : Prop := match t.put d ρ with
  | some ρ' => O (.nx ρ') S
  | none => False
theorem agk_nm {i : Nat} {d : D} : AsgK (.nm i) ρ O d S = O (.nx (ρ.set i (some d))) S := by unfold AsgK; simp only [Tg.put]
theorem agk_tp {ts : List Tg} {ds : List D} {ρ' : Ev} (h : Tg.puts ts ds ρ = some ρ') : AsgK (.tp ts) ρ O (.tup ds) S = O (.nx ρ') S := by unfold AsgK; simp only [Tg.put, h]
theorem w_asg {t : Tg} : wp (sAsg t ma c ρ S) O X = wp (ma c ρ S) (AsgK t ρ O) X := by
  unfold sAsg AsgK; rw [wp_bind]; congr; funext d S1; cases t.put d ρ <;> rfl
theorem w_par2 {i j : Nat} : wp (sPar2 i j ms c ρ S) O X = wp (ms c ρ S) (fun ds S1 => ∃ a b, ds = [a, b] ∧ O (.nx ((ρ.set i (some a)).set j (some b))) S1) X := by
  unfold sPar2; rw [wp_bind]; congr; funext ds S1
  match ds with
  | [] => exact propext ⟨fun h => h.elim, fun ⟨_, _, e, _⟩ => by cases e⟩
  | [a] => exact propext ⟨fun h => h.elim, fun ⟨_, _, e, _⟩ => by cases e⟩
  | [a, b] => exact propext ⟨fun h => ⟨a, b, rfl, h⟩, fun ⟨_, _, e, h⟩ => by cases e; exact h⟩
  | a :: b :: d :: r => exact propext ⟨fun h => h.elim, fun ⟨_, _, e, _⟩ => by cases e⟩
theorem w_par3 {i j l : Nat} : wp (sPar3 i j l ms c ρ S) O X = wp (ms c ρ S) (fun ds S1 => ∃ a b d, ds = [a, b, d] ∧ O (.nx (((ρ.set i (some a)).set j (some b)).set l (some d))) S1) X := by
  unfold sPar3; rw [wp_bind]; congr; funext ds S1
  match ds with
  | [] => exact propext ⟨fun h => h.elim, fun ⟨_, _, _, e, _⟩ => by cases e⟩
  | [a] => exact propext ⟨fun h => h.elim, fun ⟨_, _, _, e, _⟩ => by cases e⟩
  | [a, b] => exact propext ⟨fun h => h.elim, fun ⟨_, _, _, e, _⟩ => by cases e⟩
  | [a, b, d] => exact propext ⟨fun h => ⟨a, b, d, rfl, h⟩, fun ⟨_, _, _, e, h⟩ => by cases e; exact h⟩
  | a :: b :: d :: e :: r => exact propext ⟨fun h => h.elim, fun ⟨_, _, _, e, _⟩ => by cases e⟩
theorem w_sub {mo mi mv : M D} : wp (sSub mo mi mv c ρ S) O X = wp (mv c ρ S) (fun v S1 => wp (mo c ρ S1) (fun o S2 => wp (mi c ρ S2) (fun i S3 => wp (setD o i v S3) (fun _ S4 => O (.nx ρ) S4) X) X) X) X := by
  unfold sSub; rw [wp_bind]; congr; funext v S1; rw [wp_bind]; congr; funext o S2; rw [wp_bind]; congr; funext i S3
  rw [wp_bnd]; rfl
/-! ### what is walked -/
variable {W : Src → Sto → Prop}
def SrcK (W : Src → Sto → Prop) (S : Sto) : Option Src → Prop
  | some w => W w S
  | none => False
theorem srk_s {w : Src} : SrcK W S (some w) = W w S := rfl
theorem w_any : wp (iAny ma c ρ S) W X = wp (ma c ρ S) (fun d S1 => SrcK W S1 (srcOf d S1)) X := by
  unfold iAny; rw [wp_bind]; congr; funext d S1; cases srcOf d S1 <;> rfl
theorem w_inew : wp (iNew ml c ρ S) W X = wp (ml c ρ S) (fun ds S1 => W ⟨ds, fun _ => True⟩ S1) X := by unfold iNew; rw [wp_bind]; rfl
theorem w_rg1 : wp (iRg1 ms c ρ S) W X = wp (ms c ρ S) (fun ds S1 => ∃ j, ds = [.int j] ∧ small j = true ∧ W ⟨rangeD 0 j, fun _ => True⟩ S1) X := by
  unfold iRg1; rw [wp_bind]; congr; funext ds S1
  split
  · rename_i j
    by_cases h : small j = true
    · rw [if_pos h]; exact propext ⟨fun q => ⟨j, rfl, h, q⟩, fun ⟨_, e, _, q⟩ => by cases e; exact q⟩
    · rw [if_neg h]; exact propext ⟨fun q => q.elim, fun ⟨_, e, h2, q⟩ => by cases e; exact absurd h2 h⟩
  · rename_i h
    exact propext ⟨fun q => q.elim, fun ⟨j, e, _, q⟩ => (h j e).elim⟩
theorem w_rg2 : wp (iRg2 ms c ρ S) W X = wp (ms c ρ S) (fun ds S1 => ∃ i j, ds = [.int i, .int j] ∧ (small i = true ∧ small j = true) ∧ W ⟨rangeD i j, fun _ => True⟩ S1) X := by
  unfold iRg2; rw [wp_bind]; congr; funext ds S1
  split
  · rename_i i j
    by_cases h : small i = true ∧ small j = true
    · rw [if_pos h]; exact propext ⟨fun q => ⟨i, j, rfl, h, q⟩, fun ⟨_, _, e, _, q⟩ => by cases e; exact q⟩
    · rw [if_neg h]; exact propext ⟨fun q => q.elim, fun ⟨_, _, e, h2, q⟩ => by cases e; exact absurd h2 h⟩
  · rename_i h
    exact propext ⟨fun q => q.elim, fun ⟨i, j, e, _, q⟩ => (h i j e).elim⟩
theorem w_zip : wp (iZip ms c ρ S) W X = wp (ms c ρ S) (fun ds S1 => ∃ xs ys, ds = [.tup xs, .tup ys] ∧ W ⟨zipD xs ys, fun _ => True⟩ S1) X := by
  unfold iZip; rw [wp_bind]; congr; funext ds S1
  split
  · rename_i i j
    exact propext ⟨fun q => ⟨i, j, rfl, q⟩, fun ⟨_, _, e, q⟩ => by cases e; exact q⟩
  · rename_i h
    exact propext ⟨fun q => q.elim, fun ⟨i, j, e, q⟩ => (h i j e).elim⟩
theorem w_enum : wp (iEnumD ms c ρ S) W X = wp (ms c ρ S) (fun ds S1 => ∃ xs, ds = [.tup xs] ∧ W ⟨enumD 0 xs, fun _ => True⟩ S1) X := by
  unfold iEnumD; rw [wp_bind]; congr; funext ds S1
  split
  · rename_i i
    exact propext ⟨fun q => ⟨i, rfl, q⟩, fun ⟨_, e, q⟩ => by cases e; exact q⟩
  · rename_i h
    exact propext ⟨fun q => q.elim, fun ⟨i, e, q⟩ => (h i e).elim⟩
theorem w_comp {mi : M Src} {own : List Nat} {t : Tg} {tt : M Bool} {te : M D} : wp (lComp mi own t tt te c ρ S) L X = wp (mi c ρ S) (fun w S1 => wp (compL w.grd own t tt te w.items [] c ρ S1) L X) X := by unfold lComp; rw [wp_bind]
theorem w_for {mi : M Src} {t : Tg} {b : MS} : wp (sFor t mi b c ρ S) O X = wp (mi c ρ S) (fun w S1 => wp (forL w.grd t b w.items c ρ S1) O X) X := by unfold sFor; rw [wp_bind]
/-- a comprehension under an invariant: what is turned, what is made, the store -/
theorem wp_compI {G : Sto → Prop} {own : List Nat} {t : Tg} {tt : M Bool} {te : M D} (I : List D → List D → Sto → Prop) : ∀ (ds pre acc : List D) (S : Sto), I pre acc S →
    (∀ pre d acc S, I pre acc S → d ∈ ds → G S ∧ ∃ ρ1, t.put d (wipeD ρ own) = some ρ1 ∧ wp (tt c ρ1 S) (fun b S1 => if b = true then wp (te c ρ1 S1) (fun y S2 => acc.length < sizeLine ∧ I (pre ++ [d]) (acc ++ [y]) S2) noX else I (pre ++ [d]) acc S1) noX) →
    (∀ acc S, I (pre ++ ds) acc S → G S ∧ L acc S) → wp (compL G own t tt te ds acc c ρ S) L X
  | [], pre, acc, S, h, _, e => by
    obtain ⟨h1, h2⟩ := e acc S (by simpa using h)
    unfold compL
    rw [if_pos h1]
    exact h2
  | d :: ds, pre, acc, S, h, hs, e => by
    obtain ⟨h1, ρ1, h2, h3⟩ := hs pre d acc S h List.mem_cons_self
    unfold compL
    rw [if_pos h1]
    simp only [h2]
    cases h4 : tt c ρ1 S with
    | bad => rw [h4] at h3; exact h3.elim
    | exc k d S => rw [h4] at h3; exact h3.elim
    | ok b S1 =>
      rw [h4] at h3
      have goo : ∀ acc' S', I (pre ++ [d]) acc' S' → wp (compL G own t tt te ds acc' c ρ S') L X := fun acc' S' h' =>
        wp_compI I ds (pre ++ [d]) acc' S' h' (fun p x a T hI hx => hs p x a T hI (List.mem_cons_of_mem _ hx)) (fun a T hI => e a T (by simpa using hI))
      cases b with
      | false => exact goo acc S1 h3
      | true =>
        have h3 : wp (te c ρ1 S1) (fun y S2 => acc.length < sizeLine ∧ I (pre ++ [d]) (acc ++ [y]) S2) noX := h3
        show wp ((te c ρ1 S1).nox.bind _) L X
        cases h5 : te c ρ1 S1 with
        | bad => rw [h5] at h3; exact h3.elim
        | exc k d S => rw [h5] at h3; exact h3.elim
        | ok y S2 =>
          rw [h5] at h3
          show wp (if acc.length < sizeLine then _ else _) L X
          rw [if_pos h3.1]
          exact goo _ S2 h3.2
/-- .. that leaves the store -/
theorem wp_compP {G : Sto → Prop} {own : List Nat} {t : Tg} {tt : M Bool} {te : M D} {ds : List D} (p : D → Bool) (f : D → D) (hG : G S) (hl : ds.length ≤ sizeLine)
    (hs : ∀ d ∈ ds, ∃ ρ1, t.put d (wipeD ρ own) = some ρ1 ∧ wp (tt c ρ1 S) (fun b S1 => b = p d ∧ S1 = S ∧ (b = true → wp (te c ρ1 S) (fun y S2 => y = f d ∧ S2 = S) noX)) noX) (q : L ((ds.filter p).map f) S) :
    wp (compL G own t tt te ds [] c ρ S) L X := by
  have key : ∀ (es pre acc : List D), (∀ d ∈ es, d ∈ ds) → acc = (pre.filter p).map f → pre.length + es.length ≤ sizeLine → L (((pre ++ es).filter p).map f) S → wp (compL G own t tt te es acc c ρ S) L X := by
    intro es
    induction es with
    | nil =>
      intro pre acc _ e _ q
      unfold compL
      rw [if_pos hG, List.append_nil] at *
      rw [e]
      exact q
    | cons d es ih =>
      intro pre acc hm e hz q
      obtain ⟨ρ1, h2, h3⟩ := hs d (hm d List.mem_cons_self)
      rw [List.length_cons] at hz
      unfold compL
      rw [if_pos hG]
      simp only [h2]
      cases h4 : tt c ρ1 S with
      | bad => rw [h4] at h3; exact h3.elim
      | exc k d S => rw [h4] at h3; exact h3.elim
      | ok b S1 =>
        rw [h4] at h3
        obtain ⟨hb, rfl, h3⟩ := h3
        subst hb
        have q' : L (((pre ++ [d] ++ es).filter p).map f) S1 := by rw [List.append_assoc]; exact q
        cases hp : p d with
        | false =>
          exact ih (pre ++ [d]) acc (fun x hx => hm x (List.mem_cons_of_mem _ hx)) (by rw [e, List.filter_append, List.filter_cons]; simp [hp]) (by simp; omega) q'
        | true =>
          have h3 := h3 hp
          show wp ((te c ρ1 S1).nox.bind _) L X
          cases h5 : te c ρ1 S1 with
          | bad => rw [h5] at h3; exact h3.elim
          | exc k d S => rw [h5] at h3; exact h3.elim
          | ok y S2 =>
            rw [h5] at h3
            obtain ⟨rfl, rfl⟩ := h3
            show wp (if acc.length < sizeLine then _ else _) L X
            have hal : acc.length ≤ pre.length := by rw [e, List.length_map]; exact List.length_filter_le _ _
            rw [if_pos (by omega)]
            exact ih (pre ++ [d]) _ (fun x hx => hm x (List.mem_cons_of_mem _ hx)) (by rw [e, List.filter_append, List.filter_cons]; simp [hp]) (by simp; omega) q'
  exact key ds [] [] (fun d h => h) rfl (by simpa using hl) (by simpa using q)
/-- a loop under an invariant: what is turned, the slots, the store -/
theorem wp_forI {G : Sto → Prop} {t : Tg} {b : MS} (I : List D → Ev → Sto → Prop) : ∀ (ds pre : List D) (ρ : Ev) (S : Sto), I pre ρ S →
    (∀ pre d post ρ S, I pre ρ S → ds = post ++ d :: (ds.drop (post.length + 1)) → G S ∧ ∃ ρ1, t.put d ρ = some ρ1 ∧ wp (b c ρ1 S) (fun o S1 => match o with
      | .nx ρ2 => I (pre ++ [d]) ρ2 S1
      | .ct ρ2 => I (pre ++ [d]) ρ2 S1
      | .bk ρ2 => O (.nx ρ2) S1
      | .rt v => O (.rt v) S1) X) →
    (∀ ρ S, I (pre ++ ds) ρ S → G S ∧ O (.nx ρ) S) → wp (forL G t b ds c ρ S) O X
  | [], pre, ρ, S, h, _, e => by
    obtain ⟨h1, h2⟩ := e ρ S (by simpa using h)
    unfold forL
    rw [if_pos h1]
    exact h2
  | d :: ds, pre, ρ, S, h, hs, e => by
    obtain ⟨h1, ρ1, h2, h3⟩ := hs pre d [] ρ S h rfl
    unfold forL
    rw [if_pos h1]
    simp only [h2]
    have goo : ∀ ρ' S', I (pre ++ [d]) ρ' S' → wp (forL G t b ds c ρ' S') O X := fun ρ' S' h' =>
      wp_forI I ds (pre ++ [d]) ρ' S' h' (fun p x po r T hI hx => hs p x (d :: po) r T hI (by rw [List.cons_append, List.length_cons, List.drop_succ_cons, ← hx])) (fun a T hI => e a T (by simpa using hI))
    rw [wp_bnd]
    refine wp_mono h3 fun o S1 ho => ?_
    cases o with
    | nx ρ2 => exact goo _ _ ho
    | ct ρ2 => exact goo _ _ ho
    | bk ρ2 => exact ho
    | rt v => exact ho
/-- .. with the place in the walk -/
theorem wp_compJ {G : Sto → Prop} {own : List Nat} {t : Tg} {tt : M Bool} {te : M D} {ds : List D} (I : List D → List D → Sto → Prop) (h0 : I [] [] S)
    (hs : ∀ pre d post acc S, ds = pre ++ d :: post → I pre acc S → G S ∧ ∃ ρ1, t.put d (wipeD ρ own) = some ρ1 ∧ wp (tt c ρ1 S) (fun b S1 => if b = true then wp (te c ρ1 S1) (fun y S2 => acc.length < sizeLine ∧ I (pre ++ [d]) (acc ++ [y]) S2) noX else I (pre ++ [d]) acc S1) noX)
    (he : ∀ acc S, I ds acc S → G S ∧ L acc S) : wp (compL G own t tt te ds [] c ρ S) L X := by
  have key : ∀ (es pre acc : List D) (S : Sto), ds = pre ++ es → I pre acc S → wp (compL G own t tt te es acc c ρ S) L X := by
    intro es
    induction es with
    | nil =>
      intro pre acc S e h
      rw [List.append_nil] at e
      subst e
      obtain ⟨h1, h2⟩ := he acc S h
      unfold compL
      rw [if_pos h1]
      exact h2
    | cons d es ih =>
      intro pre acc S e h
      obtain ⟨h1, ρ1, h2, h3⟩ := hs pre d es acc S e h
      have e' : ds = (pre ++ [d]) ++ es := by rw [e]; simp
      unfold compL
      rw [if_pos h1]
      simp only [h2]
      cases h4 : tt c ρ1 S with
      | bad => rw [h4] at h3; exact h3.elim
      | exc k d S => rw [h4] at h3; exact h3.elim
      | ok b S1 =>
        rw [h4] at h3
        cases b with
        | false => exact ih (pre ++ [d]) acc S1 e' h3
        | true =>
          have h3 : wp (te c ρ1 S1) (fun y S2 => acc.length < sizeLine ∧ I (pre ++ [d]) (acc ++ [y]) S2) noX := h3
          show wp ((te c ρ1 S1).nox.bind _) L X
          cases h5 : te c ρ1 S1 with
          | bad => rw [h5] at h3; exact h3.elim
          | exc k d S => rw [h5] at h3; exact h3.elim
          | ok y S2 =>
            rw [h5] at h3
            show wp (if acc.length < sizeLine then _ else _) L X
            rw [if_pos h3.1]
            exact ih _ _ S2 e' h3.2
  exact key ds [] [] S rfl h0
theorem wp_forJ {G : Sto → Prop} {t : Tg} {b : MS} {ds : List D} (I : List D → Ev → Sto → Prop) (h0 : I [] ρ S)
    (hs : ∀ pre d post ρ S, ds = pre ++ d :: post → I pre ρ S → G S ∧ ∃ ρ1, t.put d ρ = some ρ1 ∧ wp (b c ρ1 S) (fun o S1 => match o with
      | .nx ρ2 => I (pre ++ [d]) ρ2 S1
      | .ct ρ2 => I (pre ++ [d]) ρ2 S1
      | .bk ρ2 => O (.nx ρ2) S1
      | .rt v => O (.rt v) S1) X)
    (he : ∀ ρ S, I ds ρ S → G S ∧ O (.nx ρ) S) : wp (forL G t b ds c ρ S) O X := by
  have key : ∀ (es pre : List D) (ρ : Ev) (S : Sto), ds = pre ++ es → I pre ρ S → wp (forL G t b es c ρ S) O X := by
    intro es
    induction es with
    | nil =>
      intro pre ρ S e h
      rw [List.append_nil] at e
      subst e
      obtain ⟨h1, h2⟩ := he ρ S h
      unfold forL
      rw [if_pos h1]
      exact h2
    | cons d es ih =>
      intro pre ρ S e h
      obtain ⟨h1, ρ1, h2, h3⟩ := hs pre d es ρ S e h
      have e' : ds = (pre ++ [d]) ++ es := by rw [e]; simp
      unfold forL
      rw [if_pos h1]
      simp only [h2]
      rw [wp_bnd]
      refine wp_mono h3 fun o S1 ho => ?_
      cases o with
      | nx ρ2 => exact ih _ _ _ e' ho
      | ct ρ2 => exact ih _ _ _ e' ho
      | bk ρ2 => exact ho
      | rt v => exact ho
  exact key ds [] ρ S rfl h0
/-! ### a def's end -/
def TrimK (n : Nat) (Q : D → Sto → Prop) (d : D) (S : Sto) : Prop := wp (trimD n d S) Q noX
def EndK (n : Nat) (Q : D → Sto → Prop) : Out → Sto → Prop
  | .nx _, S => TrimK n Q .non S
  | .rt d, S => TrimK n Q d S
  | _, _ => False
theorem trim_x {n : Nat} {d : D} {X' : XQ} : wp (trimD n d S) Q X = wp (trimD n d S) Q X' := by
  unfold trimD; split <;> rfl
theorem w_end {n : Nat} {r : Res Out} : wp (endD n r) Q X = wp r (EndK n Q) X := by
  cases r with
  | ok o S =>
    cases o with
    | nx ρ => exact trim_x
    | rt d => exact trim_x
    | bk ρ => rfl
    | ct ρ => rfl
  | exc k d S => rfl
  | bad => rfl
theorem ek_rt {n : Nat} {d : D} : EndK n Q (.rt d) S = TrimK n Q d S := rfl
theorem ek_nx {n : Nat} : EndK n Q (.nx ρ) S = TrimK n Q .non S := rfl
/-- nothing but things behind have come -/
theorem trim_on {d : D} {T : Sto} (w : Wf S) (hd : d.blw S.length = true) (h : S.length ≤ T.length) (ho : ∀ j, j < S.length → T[j]? = S[j]?) (q : Q d S) : TrimK S.length Q d T := by
  have e : T.take S.length = S := by
    apply List.ext_getElem?
    intro i
    by_cases hi : i < S.length
    · rw [List.getElem?_take_of_lt hi]; exact ho i hi
    · rw [List.getElem?_eq_none (by rw [List.length_take]; omega), List.getElem?_eq_none (by omega)]
  unfold TrimK trimD
  rw [e, if_pos ⟨hd, List.all_eq_true.mpr w⟩]
  exact q
theorem trim_add {d : D} {G : Sto} (w : Wf S) (hd : d.blw S.length = true) (q : Q d S) : TrimK S.length Q d (S ++ G) :=
  trim_on w hd (by simp) (fun j hj => List.getElem?_append_left hj) q
theorem tk_self {d : D} (w : Wf S) (hd : d.blw S.length = true) (q : Q d S) : TrimK S.length Q d S :=
  trim_on w hd (Nat.le_refl _) (fun j hj => rfl) q
end
end Rf
end

section
set_option Elab.async false
set_option linter.all false
set_option maxRecDepth 100000
set_option maxHeartbeats 4000000
namespace Rf.L33
open PySem PySem.Spec PyProof.Rows L2 Rf
noncomputable section
abbrev C (k : Nat) := callK (tabOf defs) (fun _ => 0) 0 k
abbrev cm (k : Nat) : Cm := ⟨C k, 0, fun _ => 0⟩
theorem c0 (k : Nat) (a b d : D) (S : Sto) : C (k + 1) 0 [a, b, d] S = endD S.length (m_is_tuple (cm k) [some a, some b, some d] S) := rfl
/-- is the value's type known -/
def Kn (S : Sto) (v : D) : Prop := ∃ T, tyOfD v S = some T ∧ T ∈ (["NoneType", "bool", "int", "str", "tuple", "list"] : List String)
theorem isi_tup {S : Sto} {v : D} (h : Kn S v) : isiD [v, .ty "tuple"] S = .ok (.bl (isTup v)) S := by
  obtain ⟨T, h1, h2⟩ := h
  cases v with
  | ref k =>
    have h3 : tyOfD (.ref k) S = some "list" := by
      simp only [tyOfD] at h1 ⊢
      split at h1
      · rename_i e; simp [e]
      · cases h1
    simp only [isiD, h3]; rfl
  | rol ns => cases h1
  | ty n => cases h1
  | _ => simp only [isiD, tyOfD]; rfl
theorem s0 (k : Nat) {v : D} {lo hi : Int} {S : Sto} (w : Wf S) (h : Kn S v) : C (k + 1) 0 [v, .int lo, .int hi] S = .ok (.bl (isTup v && (decide (lo ≤ lenT v) && decide ((lenT v : Int) ≤ hi)))) S := by
  rw [c0]
  have e : m_is_tuple (cm k) [some v, some (.int lo), some (.int hi)] S = .ok (.rt (.bl (isTup v && (decide (lo ≤ lenT v) && decide ((lenT v : Int) ≤ hi))))) S := by
    simp only [m_is_tuple, sRet, mAn, mBi, aCons, aNil, mVar, mLit, M.bind, M.ret, Res.bind, List.getElem?_cons_zero, List.getElem?_cons_succ, isi_tup h]
    cases v with
    | tup ds =>
      simp only [isTup, mChain, mVar, mBi, aCons, aNil, M.bind, M.ret, Res.bind, List.getElem?_cons_zero, List.getElem?_cons_succ, lenD, cmpI, lenT, Bool.true_and]
      by_cases hb : lo ≤ (ds.length : Int) <;> simp [hb] <;> rfl
    | _ => rfl
  rw [e]
  exact end_rt w rfl
end
end Rf.L33
end

section
set_option Elab.async false
set_option linter.all false
set_option maxRecDepth 100000
set_option maxHeartbeats 4000000
namespace Rf.L33
open PySem PySem.Spec PyProof.Rows L2 Rf
noncomputable section
theorem _root_.Rf.HK.kn {S : Sto} {v : D} (h : HK S v) : Kn S v := by
  cases v with
  | non => exact ⟨_, rfl, by decide⟩
  | bl b => exact ⟨_, rfl, by decide⟩
  | int i => exact ⟨_, rfl, by decide⟩
  | str x => exact ⟨_, rfl, by decide⟩
  | tup ds => exact ⟨_, rfl, by decide⟩
  | ref k =>
    change hkD (29 + 1) S (.ref k) = true at h
    simp only [hkD] at h
    split at h
    · rename_i e; exact ⟨"list", by simp only [tyOfD, e], by decide⟩
    · cases h
  | rol ns => cases h
  | ty n => cases h
/-! ints within bounds -/
def isI : D → Bool
  | .int _ => true
  | _ => false
def inR (v : D) (lo hi : Int) : Bool := match v with
  | .int i => decide (lo ≤ i) && decide (i ≤ hi)
  | _ => false
theorem isi_int {S : Sto} {v : D} (h : Kn S v) : isiD [v, .ty "int"] S = .ok (.bl (match v with | .int _ => true | .bl _ => true | _ => false)) S := by
  obtain ⟨T, h1, h2⟩ := h
  cases v with
  | ref k =>
    have h3 : tyOfD (.ref k) S = some "list" := by
      simp only [tyOfD] at h1 ⊢
      split at h1
      · rename_i e; simp [e]
      · cases h1
    simp only [isiD, h3]; rfl
  | rol ns => cases h1
  | ty n => cases h1
  | _ => simp only [isiD, tyOfD]; rfl
theorem isi_bool {S : Sto} {v : D} (h : Kn S v) : isiD [v, .ty "bool"] S = .ok (.bl (match v with | .bl _ => true | _ => false)) S := by
  obtain ⟨T, h1, h2⟩ := h
  cases v with
  | ref k =>
    have h3 : tyOfD (.ref k) S = some "list" := by
      simp only [tyOfD] at h1 ⊢
      split at h1
      · rename_i e; simp [e]
      · cases h1
    simp only [isiD, h3]; rfl
  | rol ns => cases h1
  | ty n => cases h1
  | _ => simp only [isiD, tyOfD]; rfl
theorem c1 (k : Nat) (a : D) (S : Sto) : C (k + 1) 1 [a] S = endD S.length (m_is_whole (cm k) [some a] S) := rfl
theorem s1 (k : Nat) {v : D} {S : Sto} (w : Wf S) (h : Kn S v) : C (k + 1) 1 [v] S = .ok (.bl (isI v)) S := by
  rw [c1]
  have e : m_is_whole (cm k) [some v] S = .ok (.rt (.bl (isI v))) S := by
    simp only [m_is_whole, sRet, mAn, mBi, aCons, aNil, mVar, mLit, M.bind, M.ret, Res.bind, List.getElem?_cons_zero, List.getElem?_cons_succ, isi_int h]
    cases v <;> simp only [mNo, mBi, aCons, aNil, mVar, mLit, M.bind, M.ret, Res.bind, List.getElem?_cons_zero, isi_bool h, truth, isI] <;> rfl
  rw [e]
  exact end_rt w rfl
theorem c2 (k : Nat) (a b d : D) (S : Sto) : C (k + 1) 2 [a, b, d] S = endD S.length (m_is_integer (cm k) [some a, some b, some d] S) := rfl
theorem s2 (k : Nat) {v : D} {lo hi : Int} {S : Sto} (w : Wf S) (h : Kn S v) : C (k + 2) 2 [v, .int lo, .int hi] S = .ok (.bl (inR v lo hi)) S := by
  rw [c2]
  have e : m_is_integer (cm (k + 1)) [some v, some (.int lo), some (.int hi)] S = .ok (.rt (.bl (inR v lo hi))) S := by
    simp only [m_is_integer, sRet, mAn, mCall, aCons, aNil, mVar, mLit, M.bind, M.ret, Res.bind, List.getElem?_cons_zero, List.getElem?_cons_succ, s1 k w h]
    cases v with
    | int i =>
      simp only [isI, mChain, mVar, M.bind, M.ret, Res.bind, List.getElem?_cons_zero, List.getElem?_cons_succ, cmpI, inR]
      by_cases hb : lo ≤ i <;> simp [hb]
    | _ => rfl
  rw [e]
  exact end_rt w rfl
theorem c12 (k : Nat) (a b d : D) (S : Sto) : C (k + 1) 19 [a, b, d] S = endD S.length (m_law_is_int (cm k) [some a, some b, some d] S) := rfl
theorem s12 (k : Nat) {v : D} {lo hi : Int} {S : Sto} (w : Wf S) (h : Kn S v) : C (k + 1) 19 [v, .int lo, .int hi] S = .ok (.bl (inR v lo hi)) S := by
  rw [c12]
  have e : m_law_is_int (cm k) [some v, some (.int lo), some (.int hi)] S = .ok (.rt (.bl (inR v lo hi))) S := by
    simp only [m_law_is_int, sRet, mAn, mBi, aCons, aNil, mVar, mLit, M.bind, M.ret, Res.bind, List.getElem?_cons_zero, List.getElem?_cons_succ, isi_int h]
    cases v with
    | int i =>
      simp only [mNo, mBi, aCons, aNil, mVar, mLit, M.bind, M.ret, Res.bind, List.getElem?_cons_zero, List.getElem?_cons_succ, isi_bool h, truth, mChain, cmpI, inR, Bool.not_false]
      by_cases hb : lo ≤ i <;> simp [hb]
    | _ => simp only [mNo, mBi, aCons, aNil, mVar, mLit, M.bind, M.ret, Res.bind, List.getElem?_cons_zero, isi_bool h, truth, inR] <;> rfl
  rw [e]
  exact end_rt w rfl
end
end Rf.L33
end

section
set_option Elab.async false
set_option linter.all false
set_option maxRecDepth 100000
set_option maxHeartbeats 4000000
namespace Rf.L33
open PySem PySem.Spec PyProof.Rows L2 Rf
noncomputable section
theorem comp_any {S : Sto} {ds : List D} {own : List Nat} {t : Tg} {tt : M Bool} {te : M D} {c : Cm} {ρ : Ev} {m : M D} (h : m c ρ S = .ok (.tup ds) S) : lComp (iAny m) own t tt te c ρ S = compC own t tt te ds [] c ρ S := by
  unfold lComp iAny M.bind
  rw [h]
  simp only [Res.bind, srcOf]
  exact compL_true own t tt te ds [] c ρ S
/-- all([f(x) for x in a tuple]) -/
theorem all_any {S : Sto} {v : D} {own : List Nat} {t : Tg} {te : M D} {c : Cm} {ρ : Ev} {m : M D} {p : D → Bool} (hv : isTup v = true) (hl : lenT v ≤ sizeLine) (h : m c ρ S = .ok v S) (he : ∀ d ∈ itm v, ∃ ρ1, t.put d (wipeD ρ own) = some ρ1 ∧ te c ρ1 S = .ok (.bl (p d)) S) :
    mLi allOf (lComp (iAny m) own t tYesD te) c ρ S = .ok (.bl ((itm v).all p)) S := by
  rw [tup_itm hv] at h
  refine v_li ((comp_any h).trans (compC_map (f := fun d => .bl (p d)) (itm v) [] (by rw [len_itm] at hl; simpa using hl) he)) ?_
  simp only [List.nil_append, allOf, boolsOf_map]
  rw [List.all_map]
  rfl
theorem HK.nth {S : Sto} {v : D} {i : Nat} (h : HK S v) (ht : isTup v = true) (hi : i < lenT v) : HK S (nth v i) := by
  cases v with
  | tup ds =>
    refine h.mem _ ?_
    have hi : i < ds.length := hi
    simp only [Rf.nth, List.getD_eq_getElem?_getD, List.getElem?_eq_getElem hi, Option.getD_some]
    exact List.getElem_mem hi
  | _ => cases ht
def bnd (lo : Int) (v : D) (hi : Int) : Bool := isTup v && (decide (lo ≤ lenT v) && decide ((lenT v : Int) ≤ hi))
theorem bnd_of {lo hi : Int} {v : D} (h : bnd lo v hi = true) : isTup v = true ∧ lo ≤ lenT v ∧ (lenT v : Int) ≤ hi := by
  unfold bnd at h
  simp only [Bool.and_eq_true, decide_eq_true_eq] at h
  exact h
def isRule (m s : Int) (v : D) : Bool :=
  !(!bnd 4 v 4 || !inR (nth v 0) 0 (m - 1)) && (!(!inR (nth v 1) 0 (s - 1) || !inR (nth v 2) 0 (m - 1)) && (bnd 0 (nth v 3) 2 && (itm (nth v 3)).all fun p => inR p 0 (s - 1)))
theorem c4 (k : Nat) (a b d : D) (S : Sto) : C (k + 1) 4 [a, b, d] S = endD S.length (m_is_rule (cm k) [some a, some b, some d, none] S) := rfl
theorem s4 (k : Nat) {v : D} {m s : Int} {S : Sto} (w : Wf S) (h : HK S v) : C (k + 3) 4 [v, .int m, .int s] S = .ok (.bl (isRule m s v)) S := by
  rw [c4]
  have ix : ∀ {i : Nat} {ρ : Ev}, ρ[0]? = some (some v) → isTup v = true → i < lenT v → mOp idxD (mVar 0) (mLit (.int (i : Int))) (cm (k + 2)) ρ S = .ok (nth v i) S := fun h0 h1 h2 => v_op (v_var h0) v_lit (idx_nth h1 h2)
  have in2 : ∀ {e : M D} {x : D} {ρ : Ev} {j : Nat} {n : Int}, HK S x → e (cm (k + 2)) ρ S = .ok x S → ρ[j]? = some (some (.int n)) → mCall 2 (aCons e (aCons (mLit (.int 0)) (aCons (mOp subD (mVar j) (mLit (.int 1))) aNil))) (cm (k + 2)) ρ S = .ok (.bl (inR x 0 (n - 1))) S :=
    fun hx he hj => v_call (a_cons he (a_cons v_lit (a_cons (v_op (v_var hj) v_lit rfl) a_nil))) (s2 k w hx.kn)
  have e : m_is_rule (cm (k + 2)) [some v, some (.int m), some (.int s), none] S = .ok (.rt (.bl (isRule m s v))) S := by
    refine s_guard (t_o (t_no (t_trub (v_call (a_cons (v_var rfl) (a_cons v_lit (a_cons v_lit a_nil))) (s0 (k + 1) w h.kn)))) fun hb => ?_) fun hb => ?_
    · have b := bnd_of (lo := 4) (hi := 4) (v := v) (by simpa [bnd] using hb)
      exact t_no (t_trub (in2 (HK.nth h b.1 (by omega)) (ix (i := 0) rfl b.1 (by omega)) rfl))
    · have hb0 : bnd 4 v 4 = true := by
        simp only [Bool.or_eq_false_iff, Bool.not_eq_false'] at hb
        exact hb.1
      have b := bnd_of hb0
      refine s_guard (t_o (t_no (t_trub (in2 (HK.nth h b.1 (by omega)) (ix (i := 1) rfl b.1 (by omega)) rfl))) fun _ => t_no (t_trub (in2 (HK.nth h b.1 (by omega)) (ix (i := 2) rfl b.1 (by omega)) rfl))) fun _ => ?_
      have h3 := HK.nth (i := 3) h b.1 (by omega)
      refine s_ret (v_an (v_call (a_cons (ix (i := 3) rfl b.1 (by omega)) (a_cons v_lit (a_cons v_lit a_nil))) (s0 (k + 1) w h3.kn)) fun hb3 => ?_)
      have b3 := bnd_of (lo := 0) (hi := 2) hb3
      refine all_any b3.1 (by rw [sizeLine_eq]; omega) (ix (i := 3) rfl b.1 (by omega)) fun d hd => ⟨_, rfl, ?_⟩
      exact in2 (by rw [tup_itm b3.1] at h3; exact h3.mem d hd) (v_var rfl) rfl
  rw [e]
  exact end_rt w rfl
end
end Rf.L33
end

section
set_option Elab.async false
set_option linter.all false
set_option maxRecDepth 100000
set_option maxHeartbeats 4000000
namespace Rf.L33
open PySem PySem.Spec PyProof.Rows L2 Rf
noncomputable section
theorem ne_int {i j : Int} {S : Sto} : neD (.int i) (.int j) S = .ok (.bl !(i == j)) S := by
  have h1 : SeqAt.shaped (.int i) = true := by unfold SeqAt.shaped; simp [PyData.canLay0, PyData.depth]
  have h2 : SeqAt.shaped (.int j) = true := by unfold SeqAt.shaped; simp [PyData.canLay0, PyData.depth]
  show (if (SeqAt.shaped (.int i) = true ∧ SeqAt.shaped (.int j) = true) ∨ twoStr (.int i) (.int j) = true then Res.ok (D.bl !(PyData.eqv (.int i) (.int j))) S else .bad) = _
  rw [if_pos (.inl ⟨h1, h2⟩)]
  simp only [PyData.eqv]
theorem eq_int {i j : Int} {S : Sto} : eqD (.int i) (.int j) S = .ok (.bl (i == j)) S := by
  have h1 : SeqAt.shaped (.int i) = true := by unfold SeqAt.shaped; simp [PyData.canLay0, PyData.depth]
  have h2 : SeqAt.shaped (.int j) = true := by unfold SeqAt.shaped; simp [PyData.canLay0, PyData.depth]
  show (if (SeqAt.shaped (.int i) = true ∧ SeqAt.shaped (.int j) = true) ∨ twoStr (.int i) (.int j) = true then Res.ok (D.bl (PyData.eqv (.int i) (.int j))) S else .bad) = _
  rw [if_pos (.inl ⟨h1, h2⟩)]
  simp only [PyData.eqv]
theorem len_tup {v : D} {S : Sto} (h : isTup v = true) : lenD [v] S = .ok (.int (lenT v)) S := by
  cases v with
  | tup ds => rfl
  | _ => cases h
end
end Rf.L33
end

section
set_option Elab.async false
set_option linter.all false
set_option maxRecDepth 100000
set_option maxHeartbeats 4000000
namespace Rf
open PySem PySem.Spec PyProof.Rows L2
theorem e_guard {c : Cm} {ρ : Ev} {S : Sto} {t : M Bool} {rest : MS} {k q : Bool} (w : Wf S) (h1 : t c ρ S = .ok k S) (h2 : k = false → endD S.length (rest c ρ S) = .ok (.bl q) S) :
    endD S.length (sSeq (sIf t (sRet (mLit (.bl false))) sNil) rest c ρ S) = .ok (.bl (!k && q)) S := by
  cases k with
  | true =>
    have := s_rt (s2 := rest) (s_if (s1 := sRet (mLit (.bl false))) (s2 := sNil) h1 (fun _ => s_ret v_lit) (fun z => by cases z))
    rw [this]
    exact end_rt w rfl
  | false =>
    have := s_nx (s2 := rest) (z := rest c ρ S) (s_if (s1 := sRet (mLit (.bl false))) (s2 := sNil) h1 (fun z => by cases z) (fun _ => s_nil)) rfl
    rw [this, h2 rfl]
    rfl
theorem nkeys_len : ∀ {ds : List D} {ks : List NestedKey}, nkeys ds = some ks → ks.length = ds.length
  | [], ks, h => by simp only [nkeys, Option.some.injEq] at h; subst h; rfl
  | d :: ds, ks, h => by
    simp only [nkeys] at h
    split at h
    · rename_i k r e1 e2
      cases h
      rw [List.length_cons, List.length_cons, nkeys_len e2]
    · cases h
theorem cut_tail (xs : List D) : cutD xs (some 1) none = xs.drop 1 := by
  unfold cutD
  rw [show HT.sIx xs.length 0 (some 1) = min 1 xs.length from HT.sIx_nat xs.length 0 1, HT.sIx_none]
  cases xs with
  | nil => rfl
  | cons x r =>
    rw [show min 1 (x :: r).length = 1 by rw [List.length_cons]; omega]
    show (r.take ((x :: r).length - 1)) = r
    rw [List.length_cons, Nat.add_sub_cancel]
    exact List.take_length
def kLtD (p : D) : Bool := match nkey (nth p 0), nkey (nth p 1) with
  | some a, some b => kLt a b
  | _, _ => false
theorem zip_adj : ∀ {ds : List D} {ks : List NestedKey}, nkeys ds = some ks → (zipD ds (ds.drop 1)).all kLtD = adjK ks
  | [], ks, h => by simp only [nkeys, Option.some.injEq] at h; subst h; rfl
  | [d], ks, h => by
    simp only [nkeys] at h
    split at h
    · rename_i k r e1 e2
      cases h
      cases e2
      rfl
    · cases h
  | d :: e :: ds, ks, h => by
    simp only [nkeys] at h
    split at h
    · rename_i k r e1 e2
      cases h
      have ih := zip_adj (ds := e :: ds) (ks := r) (by simpa only [nkeys] using e2)
      split at e2
      · rename_i k2 r2 e3 e4
        cases e2
        show (kLtD (.tup [d, e]) && (zipD (e :: ds) ((e :: ds).drop 1)).all kLtD) = (kLt k k2 && adjK (k2 :: r2))
        rw [ih]
        have : kLtD (.tup [d, e]) = kLt k k2 := by
          show (match nkey d, nkey e with | some a, some b => kLt a b | _, _ => false) = _
          rw [e1, e3]
        rw [this]
      · cases e2
    · cases h
theorem zip_mem : ∀ {xs ys : List D} {d : D}, d ∈ zipD xs ys → ∃ x y, d = .tup [x, y] ∧ x ∈ xs ∧ y ∈ ys
  | [], _, d, h => by simp [zipD] at h
  | _ :: _, [], d, h => by simp [zipD] at h
  | x :: xs, y :: ys, d, h => by
    simp only [zipD, List.mem_cons] at h
    rcases h with rfl | h
    · exact ⟨x, y, rfl, List.mem_cons_self, List.mem_cons_self⟩
    · obtain ⟨a, b, e, h1, h2⟩ := zip_mem h
      exact ⟨a, b, e, List.mem_cons_of_mem _ h1, List.mem_cons_of_mem _ h2⟩
theorem nkeys_mem : ∀ {ds : List D} {ks : List NestedKey}, nkeys ds = some ks → ∀ d ∈ ds, ∃ k ∈ ks, nkey d = some k
  | [], ks, h, d, hd => by cases hd
  | e :: ds, ks, h, d, hd => by
    simp only [nkeys] at h
    split at h
    · rename_i k r e1 e2
      cases h
      rcases List.mem_cons.mp hd with rfl | hd
      · exact ⟨k, List.mem_cons_self, e1⟩
      · obtain ⟨k', h1, h2⟩ := nkeys_mem e2 d hd
        exact ⟨k', List.mem_cons_of_mem _ h1, h2⟩
    · cases h
theorem zip_len : ∀ (xs ys : List D), (zipD xs ys).length ≤ xs.length
  | [], _ => by simp [zipD]
  | _ :: _, [] => by simp [zipD]
  | x :: xs, y :: ys => by simp only [zipD, List.length_cons]; have := zip_len xs ys; omega
/-- one row below another -/
theorem lt_rows {x y : D} {a b : NestedKey} {S : Sto} (hx : nkey x = some a) (hy : nkey y = some b) (ra : RK a) (rb : RK b) : ltD x y S = .ok (.bl (kLt a b)) S := by
  have qx := q_key (S := S) x a 30 hx (by rw [ra.depth]; omega)
  have qy := q_key (S := S) y b 30 hy (by rw [rb.depth]; omega)
  have hn : noneP a.data = false := by obtain ⟨_, _, _, _, rfl⟩ := ra; rfl
  unfold ltD
  rw [qx, qy]
  dsimp only
  rw [if_pos ⟨ra.alike rb, hn, by rw [depth_data, ra.depth]; omega⟩, kLt_data]
end Rf
namespace Rf.L33
open PySem PySem.Spec PyProof.Rows L2 Rf
noncomputable section
theorem c3 (k : Nat) (a : D) (S : Sto) : C (k + 1) 3 [a] S = endD S.length (m_is_rising (cm k) [some a, none, none] S) := rfl
theorem s3 (k : Nat) {rs : List D} {ks : List NestedKey} {S : Sto} (w : Wf S) (hk : nkeys rs = some ks) (hr : ∀ x ∈ ks, RK x) (hl : rs.length ≤ 1000) : C (k + 1) 3 [.tup rs] S = .ok (.bl (adjK ks)) S := by
  rw [c3]
  have e : m_is_rising (cm k) [some (.tup rs), none, none] S = .ok (.rt (.bl (adjK ks))) S := by
    have it : iZip (aCons (mVar 0) (aCons (mSl (mVar 0) (some (mLit (.int 1))) none) aNil)) (cm k) [some (.tup rs), none, none] S = .ok ⟨zipD rs (rs.drop 1), fun _ => True⟩ S := by
      have sl : mSl (mVar 0) (some (mLit (.int 1))) none (cm k) [some (.tup rs), none, none] S = .ok (.tup (rs.drop 1)) S := by
        show Res.ok (D.tup (cutD rs (some 1) none)) S = _
        rw [cut_tail]
      unfold iZip M.bind
      rw [a_cons (v_var rfl) (a_cons sl a_nil)]
      rfl
    refine s_ret (v_li (f := allOf) (ds := (zipD rs (rs.drop 1)).map fun d => .bl (kLtD d)) (S1 := S) ?_ ?_)
    · unfold lComp M.bind
      rw [it]
      refine (compL_true _ _ _ _ _ _ _ _ _).trans ?_
      refine (compC_map (f := fun d => .bl (kLtD d)) _ [] (by have := zip_len rs (rs.drop 1); rw [sizeLine_eq]; simp only [List.length_nil]; omega) fun d hd => ?_).trans (by rw [List.nil_append])
      obtain ⟨x, y, rfl, hx, hy⟩ := zip_mem hd
      obtain ⟨a, ha1, ha2⟩ := nkeys_mem hk x hx
      obtain ⟨b, hb1, hb2⟩ := nkeys_mem hk y (List.mem_of_mem_drop hy)
      refine ⟨[some (.tup rs), some x, some y], rfl, v_op (v_var rfl) (v_var rfl) ?_⟩
      rw [lt_rows ha2 hb2 (hr a ha1) (hr b hb1)]
      have : kLtD (.tup [x, y]) = kLt a b := by
        show (match nkey x, nkey y with | some a, some b => kLt a b | _, _ => false) = _
        rw [ha2, hb2]
      rw [this]
    · simp only [allOf, boolsOf_map]
      rw [List.all_map]
      have := zip_adj hk
      rw [← this]
      rfl
  rw [e]
  exact end_rt w rfl
end
end Rf.L33
end

section
set_option Elab.async false
set_option linter.all false
set_option maxRecDepth 100000
set_option maxHeartbeats 4000000
namespace Rf.L33
open PySem PySem.Spec PyProof.Rows L2 Rf
noncomputable section
theorem inR_int {v : D} {lo hi : Int} (h : inR v lo hi = true) : ∃ i, v = .int i ∧ lo ≤ i ∧ i ≤ hi := by
  cases v with
  | int i =>
    simp only [inR, Bool.and_eq_true, decide_eq_true_eq] at h
    exact ⟨i, rfl, h⟩
  | _ => cases h
theorem ints_all : ∀ {ps : List D} {lo hi : Int}, (ps.all fun p => inR p lo hi) = true → ∃ ns : List Int, ps = ns.map .int
  | [], _, _, _ => ⟨[], rfl⟩
  | p :: ps, lo, hi, h => by
    simp only [List.all_cons, Bool.and_eq_true] at h
    obtain ⟨i, rfl, _⟩ := inR_int h.1
    obtain ⟨ns, rfl⟩ := ints_all h.2
    exact ⟨i :: ns, rfl⟩
theorem nkeys_ints : ∀ ns : List Int, nkeys (ns.map .int) = some (ns.map .num)
  | [] => rfl
  | n :: ns => by simp only [List.map_cons, nkeys, nkey, nkeys_ints ns]
theorem rule_shape {m s : Int} {v : D} (h : isRule m s v = true) : ∃ (a b c : Int) (ns : List Int), v = .tup [.int a, .int b, .int c, .tup (ns.map .int)] ∧ ns.length ≤ 2 ∧ (0 ≤ a ∧ a ≤ m - 1) ∧ (0 ≤ b ∧ b ≤ s - 1) ∧ (0 ≤ c ∧ c ≤ m - 1) := by
  unfold isRule at h
  simp only [Bool.and_eq_true, Bool.not_eq_true', Bool.or_eq_false_iff, Bool.not_eq_false'] at h
  obtain ⟨⟨h1, h2⟩, ⟨h3, h4⟩, h5, h6⟩ := h
  obtain ⟨t1, t2, t3⟩ := bnd_of h1
  have hl : lenT v = 4 := by omega
  cases v with
  | tup ds =>
    match ds, hl with
    | [a, b, c, e], _ =>
      obtain ⟨i, rfl, hi⟩ := inR_int h2
      obtain ⟨j, rfl, hj⟩ := inR_int h3
      obtain ⟨l, rfl, hl⟩ := inR_int h4
      obtain ⟨u1, u2, u3⟩ := bnd_of h5
      cases e with
      | tup ps =>
        obtain ⟨ns, rfl⟩ := ints_all h6
        have hn : ((ns.map D.int).length : Int) ≤ 2 := u3
        rw [List.length_map] at hn
        exact ⟨i, j, l, ns, rfl, by omega, hi, hj, hl⟩
      | _ => cases u1
  | _ => cases t1
theorem rule_key {m s : Int} {v : D} (h : isRule m s v = true) : ∃ k, nkey v = some k ∧ RK k := by
  obtain ⟨a, b, c, ns, rfl, _⟩ := rule_shape h
  exact ⟨.tup [.num a, .num b, .num c, .tup (ns.map .num)], by simp only [nkey, nkeys, nkeys_ints], a, b, c, ns, rfl⟩
theorem rules_keys : ∀ {m s : Int} {rs : List D}, rs.all (isRule m s) = true → ∃ ks, nkeys rs = some ks ∧ ∀ k ∈ ks, RK k
  | m, s, [], _ => ⟨[], rfl, fun k hk => by cases hk⟩
  | m, s, r :: rs, h => by
    simp only [List.all_cons, Bool.and_eq_true] at h
    obtain ⟨k, h1, h2⟩ := rule_key h.1
    obtain ⟨ks, h3, h4⟩ := rules_keys h.2
    refine ⟨k :: ks, by simp only [nkeys, h1, h3], fun x hx => ?_⟩
    rcases List.mem_cons.mp hx with rfl | hx
    · exact h2
    · exact h4 x hx
def iv : D → Int
  | .int i => i
  | _ => 0
def ris (rs : List D) : Bool := match nkeys rs with
  | some ks => adjK ks
  | none => false
def isOff (v : D) : Bool := !(!bnd 3 v 3 || !inR (nth v 0) 1 5) && (!(!inR (nth v 1) 1 6 || !bnd 0 (nth v 2) 60) && ((itm (nth v 2)).all (isRule (iv (nth v 0)) (iv (nth v 1))) && ris (itm (nth v 2))))
theorem c5 (k : Nat) (a : D) (S : Sto) : C (k + 1) 5 [a] S = endD S.length (m_is_office (cm k) [some a, none, none, none, none] S) := rfl
theorem tup3 {v : D} (h : isTup v = true) (hl : lenT v = 3) : v = .tup [nth v 0, nth v 1, nth v 2] := by
  cases v with
  | tup ds =>
    match ds, hl with
    | [a, b, c], _ => rfl
  | _ => cases h
theorem s5 (k : Nat) {v : D} {S : Sto} (w : Wf S) (h : HK S v) : C (k + 4) 5 [v] S = .ok (.bl (isOff v)) S := by
  rw [c5]
  have ix : ∀ {i : Nat} {ρ : Ev}, ρ[0]? = some (some v) → isTup v = true → i < lenT v → mOp idxD (mVar 0) (mLit (.int (i : Int))) (cm (k + 3)) ρ S = .ok (nth v i) S := fun h0 h1 h2 => v_op (v_var h0) v_lit (idx_nth h1 h2)
  refine e_guard w (t_o (t_no (t_trub (v_call (a_cons (v_var rfl) (a_cons v_lit (a_cons v_lit a_nil))) (s0 (k + 2) w h.kn)))) fun hb => ?_) fun hb => ?_
  · have b := bnd_of (lo := 3) (hi := 3) (v := v) (by simpa [bnd] using hb)
    exact t_no (t_trub (v_call (a_cons (ix (i := 0) rfl b.1 (by omega)) (a_cons v_lit (a_cons v_lit a_nil))) (s2 (k + 1) w (HK.nth h b.1 (by omega)).kn)))
  · simp only [Bool.or_eq_false_iff, Bool.not_eq_false'] at hb
    obtain ⟨hb, hm⟩ := hb
    have b := bnd_of (lo := 3) (hi := 3) hb
    obtain ⟨m, em, m1, m2⟩ := inR_int hm
    have h1 := HK.nth (i := 1) h b.1 (by omega)
    have h2 := HK.nth (i := 2) h b.1 (by omega)
    have hv := tup3 b.1 (by omega)
    have put : Tg.put (.tp [.nm 1, .nm 2, .nm 3]) v [some v, none, none, none, none] = some [some v, some (nth v 0), some (nth v 1), some (nth v 2), none] := by
      generalize nth v 0 = x0 at *
      generalize nth v 1 = x1 at *
      generalize nth v 2 = x2 at *
      subst hv
      rfl
    rw [s_nx (z := _) (s_asg (v_var rfl) put) rfl]
    refine e_guard w (t_o (t_no (t_trub (v_call (a_cons (v_var rfl) (a_cons v_lit (a_cons v_lit a_nil))) (s2 (k + 1) w h1.kn)))) fun _ => t_no (t_trub (v_call (a_cons (v_var rfl) (a_cons v_lit (a_cons v_lit a_nil))) (s0 (k + 2) w h2.kn)))) fun hb2 => ?_
    simp only [Bool.or_eq_false_iff, Bool.not_eq_false'] at hb2
    obtain ⟨hs, hb3⟩ := hb2
    obtain ⟨s, es, _⟩ := inR_int hs
    have b3 := bnd_of (lo := 0) (hi := 60) (v := nth v 2) hb3
    have ev : iv (nth v 0) = m := by rw [em]; rfl
    have ew : iv (nth v 1) = s := by rw [es]; rfl
    rw [ev, ew]
    have fin : sRet (mAn (mLi allOf (lComp (iAny (mVar 3)) [4] (.nm 4) tYesD (mCall 4 (aCons (mVar 4) (aCons (mVar 1) (aCons (mVar 2) aNil)))))) (mCall 3 (aCons (mVar 3) aNil))) (cm (k + 3)) [some v, some (nth v 0), some (nth v 1), some (nth v 2), none] S =
        .ok (.rt (.bl ((itm (nth v 2)).all (isRule m s) && ris (itm (nth v 2))))) S := by
      refine s_ret (v_an (all_any (v := nth v 2) b3.1 (by rw [sizeLine_eq]; omega) (v_var rfl) fun d hd => ⟨_, rfl, v_call (a_cons (v_var rfl) (a_cons (v_var (d := .int m) (by rw [← em]; rfl)) (a_cons (v_var (d := .int s) (by rw [← es]; rfl)) a_nil))) (s4 k w ?_)⟩) fun ha => ?_)
      · rw [tup_itm b3.1] at h2
        exact h2.mem d hd
      · obtain ⟨ks, hk, hr⟩ := rules_keys ha
        have hl : (itm (nth v 2)).length ≤ 1000 := by rw [← len_itm]; omega
        refine v_call (a_cons (v_var (d := .tup (itm (nth v 2))) (by rw [← tup_itm b3.1]; rfl)) a_nil) ?_
        have := s3 (k + 2) w hk hr hl
        unfold ris
        rw [hk]
        exact this
    exact (congrArg (endD S.length) fin).trans (end_rt w rfl)
end
end Rf.L33
end

section
set_option Elab.async false
set_option linter.all false
set_option maxRecDepth 100000
set_option maxHeartbeats 4000000
namespace Rf
open PySem PySem.Spec PyProof.Rows L2
theorem items_keys : ∀ (ks : List NestedKey), (∀ k ∈ ks, noTxt k = true) → nkeys (ks.map unkey) = some ks := by
  have key : ∀ k : NestedKey, noTxt k = true → nkey (unkey k) = some k := by
    intro k
    have : ∀ n, ∀ k : NestedKey, k.depth ≤ n → noTxt k = true → nkey (unkey k) = some k := by
      intro n
      induction n with
      | zero =>
        intro k hk ht
        cases k with
        | none => rfl
        | num i => rfl
        | text x => simp [noTxt] at ht
        | tup ks => simp [NestedKey.depth] at hk
      | succ n ih =>
        intro k hk ht
        cases k with
        | none => rfl
        | num i => rfl
        | text x => simp [noTxt] at ht
        | tup ks =>
          simp only [NestedKey.depth] at hk
          simp only [noTxt] at ht
          have : ∀ ks : List NestedKey, NestedKey.depthAll ks ≤ n → noTxts ks = true → nkeys (unkeys ks) = some ks := by
            intro ks
            induction ks with
            | nil => intro _ _; rfl
            | cons k ks ih2 =>
              intro h1 h2
              simp only [NestedKey.depthAll] at h1
              simp only [noTxts, Bool.and_eq_true] at h2
              simp only [unkeys, nkeys, ih k (by omega) h2.1, ih2 (by omega) h2.2]
          simp only [unkey, nkey, this ks (by omega) ht]
    exact this k.depth k (Nat.le_refl _)
  intro ks
  induction ks with
  | nil => intro _; rfl
  | cons k ks ih => intro h; simp only [List.map_cons, nkeys, key k (h k List.mem_cons_self), ih fun x hx => h x (List.mem_cons_of_mem _ hx)]
theorem nkeys_txt {ds : List D} {ks : List NestedKey} (h : nkeys ds = some ks) : noTxts ks = true := (unkeys_of ds ks h).2
theorem noTxts_mem : ∀ {ks : List NestedKey}, noTxts ks = true → ∀ k ∈ ks, noTxt k = true
  | k :: ks, h, x, hx => by
    simp only [noTxts, Bool.and_eq_true] at h
    rcases List.mem_cons.mp hx with rfl | hx
    · exact h.1
    · exact noTxts_mem h.2 x hx
theorem noTxts_of : ∀ {ks : List NestedKey}, (∀ k ∈ ks, noTxt k = true) → noTxts ks = true
  | [], _ => rfl
  | k :: ks, h => by simp only [noTxts, h k List.mem_cons_self, noTxts_of fun x hx => h x (List.mem_cons_of_mem _ hx), Bool.and_self]
theorem sort_mem {ks : List NestedKey} {x : NestedKey} : x ∈ sortK (dedupK ks) ↔ x ∈ ks := by
  unfold sortK
  rw [(List.mergeSort_perm _ _).mem_iff, mem_dedupK]
theorem set_sorted {ds : List D} {ks : List NestedKey} (h : nkeys ds = some ks) (hr : ∀ k ∈ ks, RK k) (hl : ds.length < 64) : setSort ds = some ((sortK (dedupK ks)).map unkey) := by
  unfold setSort
  rw [h]
  dsimp only
  rw [if_pos]
  unfold okKeys
  rw [Bool.and_eq_true, Bool.or_eq_true, Bool.and_eq_true, decide_eq_true_eq]
  refine ⟨by rw [nkeys_len h]; exact hl, .inr ⟨List.all_eq_true.mpr fun k hk => (hr k hk).row, List.all_eq_true.mpr fun a ha => List.all_eq_true.mpr fun b hb => (hr a ha).alike (hr b hb)⟩⟩
theorem dedup_len : ∀ ks : List NestedKey, (dedupK ks).length ≤ ks.length
  | [] => Nat.le_refl _
  | k :: ks => by
    unfold dedupK
    have := dedup_len ks
    split <;> simp only [List.length_cons] <;> omega
/-- two lists of rows -/
theorem eq_lists {S : Sto} {i j : Nat} {ds es : List D} {ks js : List NestedKey} (hi : S[i]? = some (.lst ds)) (hj : S[j]? = some (.lst es)) (hk : nkeys ds = some ks) (hj2 : nkeys es = some js) (rk : ∀ k ∈ ks, RK k) (rj : ∀ k ∈ js, RK k) :
    eqD (.ref i) (.ref j) S = .ok (.bl (NestedKey.beqAll ks js)) S := by
  have dk : NestedKey.depthAll ks ≤ 2 := depthAll_le fun k h => by rw [(rk k h).depth]; omega
  have dj : NestedKey.depthAll js ≤ 2 := depthAll_le fun k h => by rw [(rj k h).depth]; omega
  have q1 : toQ 30 S (.ref i) = some (.list (NestedKey.datas ks)) := by
    show (match S[i]? with | some (.lst ds) => (ds.mapM (toQ 29 S)).map PyData.list | none => none) = _
    rw [hi]
    show ((ds.mapM (toQ 29 S)).map PyData.list) = _
    rw [qs_key ds ks 29 hk (by omega)]; rfl
  have q2 : toQ 30 S (.ref j) = some (.list (NestedKey.datas js)) := by
    show (match S[j]? with | some (.lst ds) => (ds.mapM (toQ 29 S)).map PyData.list | none => none) = _
    rw [hj]
    show ((es.mapM (toQ 29 S)).map PyData.list) = _
    rw [qs_key es js 29 hj2 (by omega)]; rfl
  have sh : ∀ {ks : List NestedKey}, noTxts ks = true → NestedKey.depthAll ks ≤ 2 → SeqAt.shaped (.list (NestedKey.datas ks)) = true := by
    intro ks h1 h2
    unfold SeqAt.shaped
    rw [Bool.and_eq_true, decide_eq_true_eq]
    refine ⟨by simp only [PyData.canLay0]; exact keys_lay ks h1, ?_⟩
    simp only [PyData.depth, depth_datas]; omega
  unfold eqD
  rw [q1, q2]
  dsimp only
  rw [if_pos (.inl ⟨sh (nkeys_txt hk) dk, sh (nkeys_txt hj2) dj⟩)]
  simp only [PyData.eqv, eqvAll_data]
end Rf
namespace Rf.L33
open PySem PySem.Spec PyProof.Rows L2 Rf
noncomputable section
end
end Rf.L33
end

section
set_option Elab.async false
set_option linter.all false
set_option maxRecDepth 100000
set_option maxHeartbeats 4000000
namespace Rf.L33
open PySem PySem.Spec PyProof.Rows L2 Rf
noncomputable section
/-! draws -/
theorem c8 (k : Nat) (a b : D) (S : Sto) : C (k + 1) 15 [a, b] S = endD S.length (m_law_take (cm k) [some a, some b, none, none, none] S) := rfl
theorem blw_ints (n : Nat) : ∀ is : List Int, D.blws n (is.map .int) = true
  | [] => rfl
  | i :: is => by simp only [List.map_cons, D.blws, D.blw, blw_ints n is, Bool.and_self]
theorem pot_ix {c : Cm} {ρ : Ev} {S : Sto} {p : Nat} {a b d : Int} (h0 : ρ[0]? = some (some (.ref p))) (hp : S[p]? = some (.lst [.int a, .int b, .int d])) :
    mOp idxD (mVar 0) (mLit (.int 0)) c ρ S = .ok (.int a) S ∧ mOp idxD (mVar 0) (mLit (.int 1)) c ρ S = .ok (.int b) S ∧ mOp idxD (mVar 0) (mLit (.int 2)) c ρ S = .ok (.int d) S := by
  have i0 : atI [D.int a, .int b, .int d] 0 = some (.int a) := rfl
  have i1 : atI [D.int a, .int b, .int d] 1 = some (.int b) := rfl
  have i2 : atI [D.int a, .int b, .int d] 2 = some (.int d) := rfl
  refine ⟨v_op (v_var h0) v_lit ?_, v_op (v_var h0) v_lit ?_, v_op (v_var h0) v_lit ?_⟩
  · simp only [idxD, hp, i0]
  · simp only [idxD, hp, i1]
  · simp only [idxD, hp, i2]
theorem mod_ok {i j : Int} {S : Sto} (h : 0 < j) : modD (.int i) (.int j) S = .ok (.int (i % j)) S := if_pos h
theorem fdiv_ok {i j : Int} {S : Sto} (h : 0 < j) (h2 : j < 2 ^ 30) : fdivD (.int i) (.int j) S = .ok (.int (i / j)) S := if_pos (.inl ⟨h, Int.lt_of_lt_of_le h2 (by decide)⟩)
theorem mul_ok {i j : Int} {S : Sto} (h : -(2 ^ 64) < j ∧ j < 2 ^ 64) : mulD (.int i) (.int j) S = .ok (.int (i * j)) S := if_pos (.inl (.inr h))
theorem mul_ok' {i j : Int} {S : Sto} (h : -(2 ^ 64) < i ∧ i < 2 ^ 64) : mulD (.int i) (.int j) S = .ok (.int (i * j)) S := if_pos (.inl (.inl h))
theorem set_pot {p : Nat} {S : Sto} {a b d x : Int} (hp : S[p]? = some (.lst [.int a, .int b, .int d])) :
    setD (.ref p) (.int 0) (.int x) S = .ok () (S.set p (.lst [.int x, .int b, .int d])) ∧ setD (.ref p) (.int 2) (.int x) S = .ok () (S.set p (.lst [.int a, .int b, .int x])) := by
  have n0 : ixN 3 0 = some 0 := rfl
  have n2 : ixN 3 2 = some 2 := rfl
  refine ⟨?_, ?_⟩
  · simp only [setD, hp]
    show (match ixN 3 0 with | some j => Res.ok () (S.set p (.lst ([D.int a, .int b, .int d].set j (.int x)))) | none => .bad) = _
    rw [n0]; rfl
  · simp only [setD, hp]
    show (match ixN 3 2 with | some j => Res.ok () (S.set p (.lst ([D.int a, .int b, .int d].set j (.int x)))) | none => .bad) = _
    rw [n2]; rfl
def primes : List D := [.int 2147483647, .int 2147483629, .int 2147483587, .int 2147483579, .int 2147483563]
theorem prime_at {n : Int} : ∃ q : Int, atI primes (n % 5) = some (.int q) ∧ 0 < q := by
  have h1 : 0 ≤ n % 5 := Int.emod_nonneg _ (by decide)
  have h2 : n % 5 < 5 := Int.emod_lt_of_pos _ (by decide)
  have : n % 5 = 0 ∨ n % 5 = 1 ∨ n % 5 = 2 ∨ n % 5 = 3 ∨ n % 5 = 4 := by omega
  rcases this with e | e | e | e | e <;> rw [e] <;> exact ⟨_, rfl, by decide⟩
theorem s8 (k : Nat) {p : Nat} {u own seed n : Int} {S : Sto} (w : Wf S) (hp : S[p]? = some (.lst [.int own, .int seed, .int n])) (h0 : 0 ≤ own) (hs : 0 ≤ seed ∧ seed < 2 ^ 62) (hn : 0 ≤ n ∧ n < 2 ^ 20) (hu : 1 ≤ u ∧ u < 2 ^ 30) :
    ∃ i own' n', C (k + 1) 15 [.ref p, .int u] S = .ok (.int i) (S.set p (.lst [.int own', .int seed, .int n'])) ∧ 0 ≤ i ∧ i < u ∧ 0 ≤ own' ∧ n ≤ n' ∧ n' ≤ n + 1 := by
  have hpl : p < S.length := (List.getElem?_eq_some_iff.mp hp).1
  have wfs : ∀ a b d : Int, Wf (S.set p (.lst [.int a, .int b, .int d])) := fun a b d => w.set rfl
  rw [c8]
  obtain ⟨i0, i1, i2⟩ := pot_ix (c := cm k) (ρ := [some (.ref p), some (.int u), none, none, none]) rfl hp
  by_cases ho : 0 < own
  · refine ⟨own % u, own / u, n, ?_, Int.emod_nonneg _ (by omega), Int.emod_lt_of_pos _ (by omega), Int.ediv_nonneg h0 (by omega), Int.le_refl _, by omega⟩
    obtain ⟨j0, j1, j2⟩ := pot_ix (c := cm k) (ρ := [some (.ref p), some (.int u), some (.int (own % u)), none, none]) rfl hp
    have e : m_law_take (cm k) [some (.ref p), some (.int u), none, none, none] S = .ok (.rt (.int (own % u))) (S.set p (.lst [.int (own / u), .int seed, .int n])) := by
      refine s_rt (s_if (k := true) (t_boo (v_op i0 v_lit (by show Res.ok (D.bl (decide (0 < own))) S = _; rw [decide_eq_true ho]))) (fun _ => ?_) (fun z => by cases z))
      refine s_nx (s_asg (v_op (v_bi (a_cons i0 a_nil) rfl) (v_var rfl) (mod_ok (by omega))) rfl) ?_
      refine s_nx (s_sub (v_op j0 (v_var rfl) (fdiv_ok (by omega) hu.2)) (v_var rfl) v_lit (set_pot hp).1) (s_ret (v_var rfl))
    rw [e]
    have := end_rt (d := .int (own % u)) (wfs (own / u) seed n) rfl
    rw [List.length_set] at this
    exact this
  · have ho : own = 0 := by omega
    subst ho
    have hp1 : (S.set p (.lst [.int 0, .int seed, .int (n + 1)]))[p]? = some (.lst [.int 0, .int seed, .int (n + 1)]) := by rw [List.getElem?_set_self hpl]
    generalize hS1 : S.set p (.lst [.int 0, .int seed, .int (n + 1)]) = S1 at hp1
    have hp2 : (S1 ++ [.lst primes])[p]? = some (.lst [.int 0, .int seed, .int (n + 1)]) := by
      rw [List.getElem?_append_left (by rw [← hS1, List.length_set]; exact hpl)]; exact hp1
    obtain ⟨q, hq, hq0⟩ := prime_at (n := n + 1)
    obtain ⟨x1, hx1⟩ : ∃ x1 : Int, x1 = (seed + 92026 * (n + 1) * (n + 1) + 671) ^ (3 : Int).toNat % q := ⟨_, rfl⟩
    obtain ⟨x2, hx2⟩ : ∃ x2 : Int, x2 = (x1 * (x1 % 10259 + 122 * (n + 1))) % 2305843009213693907 := ⟨_, rfl⟩
    refine ⟨x2 / 152 % u, 0, n + 1, ?_, Int.emod_nonneg _ (by omega), Int.emod_lt_of_pos _ (by omega), Int.le_refl _, by omega, by omega⟩
    have e : m_law_take (cm k) [some (.ref p), some (.int u), none, none, none] S = .ok (.rt (.int (x2 / 152 % u))) (S1 ++ [.lst primes]) := by
      refine s_nx (s_if (k := false) (t_boo (v_op i0 v_lit (by rfl))) (fun z => by cases z) (fun _ => s_nil)) ?_
      refine s_nx (s_sub (S4 := S1) (v_op i2 v_lit rfl) (v_var rfl) v_lit (by rw [← hS1]; exact (set_pot hp).2)) ?_
      obtain ⟨a0, a1, a2⟩ := pot_ix (c := cm k) (ρ := [some (.ref p), some (.int u), none, none, none]) rfl hp1
      obtain ⟨b0, b1, b2⟩ := pot_ix (c := cm k) (ρ := [some (.ref p), some (.int u), none, none, none]) rfl hp2
      refine s_nx (ρ1 := [some (.ref p), some (.int u), none, some (.int q), none]) (S1 := S1 ++ [.lst primes]) (s_asg (d := .int q) (v_op (x := .ref S1.length) (v_new (ds := primes) (l_lst (a_cons v_lit (a_cons v_lit (a_cons v_lit (a_cons v_lit (a_cons v_lit a_nil))))) (by decide)) (by decide)) (v_op (v_bi (a_cons b2 a_nil) rfl) v_lit (mod_ok (by decide))) ?_) rfl) ?_
      · show (match (S1 ++ [O.lst primes])[S1.length]? with | some (.lst xs) => (match atI xs ((n + 1) % 5) with | some d => Res.ok d (S1 ++ [O.lst primes]) | none => .bad) | none => .bad) = _
        rw [List.getElem?_append_right (Nat.le_refl _), Nat.sub_self]
        show (match atI primes ((n + 1) % 5) with | some d => Res.ok d (S1 ++ [O.lst primes]) | none => .bad) = _
        rw [hq]
      obtain ⟨d0, d1, d2⟩ := pot_ix (c := cm k) (ρ := [some (.ref p), some (.int u), none, some (.int q), none]) rfl hp2
      have e30 : (2 : Int) ^ 20 = 1048576 := by decide
      have e62 : (2 : Int) ^ 62 = 4611686018427387904 := by decide
      have e64 : (2 : Int) ^ 64 = 18446744073709551616 := by decide
      have sq : 0 ≤ (n + 1) * (n + 1) ∧ (n + 1) * (n + 1) ≤ 1048576 * 1048576 := by
        refine ⟨Int.mul_nonneg (by omega) (by omega), Int.mul_le_mul (by omega) (by omega) (by omega) (by decide)⟩
      have big : 0 ≤ seed + 92026 * (n + 1) * (n + 1) + 671 ∧ seed + 92026 * (n + 1) * (n + 1) + 671 < 2 ^ 64 := by
        rw [Int.mul_assoc]
        have : 92026 * ((n + 1) * (n + 1)) ≤ 92026 * (1048576 * 1048576) := Int.mul_le_mul_of_nonneg_left sq.2 (by decide)
        have : 0 ≤ 92026 * ((n + 1) * (n + 1)) := Int.mul_nonneg (by decide) sq.1
        omega
      have pw : powD (.int (seed + 92026 * (n + 1) * (n + 1) + 671)) (.int 3) (S1 ++ [.lst primes]) = .ok (.int ((seed + 92026 * (n + 1) * (n + 1) + 671) ^ (3 : Int).toNat)) (S1 ++ [.lst primes]) := by
        refine if_pos ⟨by decide, ?_⟩
        have := intBits_le_64 (k := seed + 92026 * (n + 1) * (n + 1) + 671) (by omega) big.2
        have e27 : (2 : Int) ^ 27 = 134217728 := by decide
        omega
      refine s_nx (ρ1 := [some (.ref p), some (.int u), none, some (.int q), some (.int x1)]) (s_asg (d := .int x1) (v_op (v_bi (a_cons (v_op (v_bi (a_cons (v_op (v_op d1 (v_op (v_op v_lit d2 (mul_ok (by omega))) d2 (mul_ok (by omega))) rfl) v_lit rfl) a_nil) rfl) v_lit pw) a_nil) rfl) (v_var rfl) (by rw [hx1]; exact mod_ok hq0)) rfl) ?_
      obtain ⟨f0, f1, f2⟩ := pot_ix (c := cm k) (ρ := [some (.ref p), some (.int u), none, some (.int q), some (.int x1)]) rfl hp2
      have m1 : 0 ≤ x1 % 10259 := Int.emod_nonneg _ (by decide)
      have m2 : x1 % 10259 < 10259 := Int.emod_lt_of_pos _ (by decide)
      refine s_nx (ρ1 := [some (.ref p), some (.int u), none, some (.int q), some (.int x2)]) (s_asg (d := .int x2) (v_op (v_bi (a_cons (v_op (v_var rfl) (v_op (v_op (v_bi (a_cons (v_var rfl) a_nil) rfl) v_lit (mod_ok (by decide))) (v_op v_lit f2 (mul_ok (by omega))) rfl) (mul_ok (by omega))) a_nil) rfl) v_lit (by rw [hx2]; exact mod_ok (by decide))) rfl) ?_
      exact s_ret (v_op (v_bi (a_cons (v_op (v_var rfl) v_lit (fdiv_ok (by decide) (by decide))) a_nil) rfl) (v_var rfl) (mod_ok (by omega)))
    rw [e]
    have hl : S.length = S1.length := by rw [← hS1, List.length_set]
    rw [hl]
    have wf1 : Wf S1 := by rw [← hS1]; exact wfs _ _ _
    refine (end_app wf1 rfl).trans ?_
    rw [hS1]
end
end Rf.L33
end

section
set_option Elab.async false
set_option linter.all false
set_option maxRecDepth 100000
set_option maxHeartbeats 4000000
namespace Rf
open PySem PySem.Spec PyProof.Rows L2
/-- a pot at p, at most N draws mixed -/
def Pt (S : Sto) (p : Nat) (N : Int) : Prop := ∃ own seed n : Int, S[p]? = some (.lst [.int own, .int seed, .int n]) ∧ 0 ≤ own ∧ (0 ≤ seed ∧ seed < 2 ^ 62) ∧ 0 ≤ n ∧ n ≤ N
theorem Pt.mono {S : Sto} {p : Nat} {N M : Int} (h : Pt S p N) (hm : N ≤ M) : Pt S p M := let ⟨a, b, c, h1, h2, h3, h4, h5⟩ := h; ⟨a, b, c, h1, h2, h3, h4, by omega⟩
theorem Pt.lt {S : Sto} {p : Nat} {N : Int} (h : Pt S p N) : p < S.length := let ⟨a, b, c, h1, _⟩ := h; (List.getElem?_eq_some_iff.mp h1).1
/-- S' is S, the object at p otherwise, more behind -/
structure Ch (S S' : Sto) (p : Nat) : Prop where
  wf : Wf S'
  len : S.length ≤ S'.length
  oth : ∀ j, j < S.length → j ≠ p → S'[j]? = S[j]?
theorem Ch.refl {S : Sto} {p : Nat} (w : Wf S) : Ch S S p := ⟨w, Nat.le_refl _, fun _ _ _ => rfl⟩
theorem Ch.trans {S T U : Sto} {p : Nat} (a : Ch S T p) (b : Ch T U p) : Ch S U p := ⟨b.wf, Nat.le_trans a.len b.len, fun j h1 h2 => (b.oth j (Nat.lt_of_lt_of_le h1 a.len) h2).trans (a.oth j h1 h2)⟩
theorem Ch.add {S : Sto} {p : Nat} (w : Wf S) {ds : List D} (h : D.blws S.length ds = true) : Ch S (S ++ [.lst ds]) p := ⟨w.add (D.blws_mono (Nat.le_succ _) ds h), by simp, fun j hj _ => List.getElem?_append_left hj⟩
theorem Pt.add {S : Sto} {p : Nat} {N : Int} (h : Pt S p N) (G : Sto) : Pt (S ++ G) p N := let ⟨a, b, c, h1, r⟩ := h; ⟨a, b, c, by rw [List.getElem?_append_left (List.getElem?_eq_some_iff.mp h1).1]; exact h1, r⟩
/-! trimming -/
mutual
theorem gd_take {S : Sto} {n : Nat} (hn : n ≤ S.length) (w : ∀ o ∈ S.take n, o.blw n = true) : ∀ (m : Nat) (d : D), d.blw n = true → gd m (S.take n) d = gd m S d
  | 0, d, _ => by simp only [gd]
  | m + 1, .ref k, h => by
    simp only [D.blw, decide_eq_true_eq] at h
    simp only [gd]
    rw [List.getElem?_take_of_lt h]
    cases e : S[k]? with
    | none => rfl
    | some o =>
      cases o with
      | lst ds =>
        have : O.blw n (.lst ds) = true := w _ (List.mem_of_getElem? (by rw [List.getElem?_take_of_lt h]; exact e))
        exact gds_take hn w m ds this
  | m + 1, .tup ds, h => by
    simp only [D.blw] at h
    simp only [gd]
    exact gds_take hn w m ds h
  | m + 1, .non, _ => by simp only [gd]
  | m + 1, .bl _, _ => by simp only [gd]
  | m + 1, .int _, _ => by simp only [gd]
  | m + 1, .str _, _ => by simp only [gd]
  | m + 1, .rol _, _ => by simp only [gd]
  | m + 1, .ty _, _ => by simp only [gd]
theorem gds_take {S : Sto} {n : Nat} (hn : n ≤ S.length) (w : ∀ o ∈ S.take n, o.blw n = true) : ∀ (m : Nat) (ds : List D), D.blws n ds = true → gds m (S.take n) ds = gds m S ds
  | m, [], _ => by simp only [gds]
  | m, d :: ds, h => by
    simp only [D.blws, Bool.and_eq_true] at h
    simp only [gds, gd_take hn w m d h.1, gds_take hn w m ds h.2]
end
/-- a def's end: what is behind may be cut off -/
theorem end_any {S S' : Sto} {p : Nat} {d : D} {N : Int} {W : Nat} (c : Ch S S' p) (hp : Pt S' p N) (hps : p < S.length) (hb : d.blw S'.length = true) (hg : Good S' d W) :
    ∃ S2, endD S.length (.ok (.rt d) S') = .ok d S2 ∧ Ch S S2 p ∧ Pt S2 p N ∧ d.blw S2.length = true ∧ Good S2 d W := by
  unfold endD trimD
  by_cases h : d.blw S.length = true ∧ ((S'.take S.length).all (·.blw S.length)) = true
  · have w : ∀ o ∈ S'.take S.length, o.blw S.length = true := fun o ho => List.all_eq_true.mp h.2 o ho
    have hl : (S'.take S.length).length = S.length := by rw [List.length_take]; have := c.len; omega
    refine ⟨S'.take S.length, if_pos h, ⟨fun o ho => by rw [hl]; exact w o ho, by omega, fun j h1 h2 => by rw [List.getElem?_take_of_lt h1]; exact c.oth j h1 h2⟩, ?_, by rw [hl]; exact h.1, ?_⟩
    · obtain ⟨a, b, e, h1, r⟩ := hp
      exact ⟨a, b, e, by rw [List.getElem?_take_of_lt hps]; exact h1, r⟩
    · obtain ⟨n, x, h1, h2, h3⟩ := hg
      exact ⟨n, x, h1, h2, by rw [gd_take c.len w n d h.1]; exact h3⟩
  · exact ⟨S', if_neg h, c, hp, hb, hg⟩
end Rf
namespace Rf.L33
open PySem PySem.Spec PyProof.Rows L2 Rf
noncomputable section
theorem take (k : Nat) {p : Nat} {u N : Int} {S : Sto} (w : Wf S) (hp : Pt S p N) (hN : N < 2 ^ 20) (hu : 1 ≤ u ∧ u < 2 ^ 30) :
    ∃ i S', C (k + 1) 15 [.ref p, .int u] S = .ok (.int i) S' ∧ 0 ≤ i ∧ i < u ∧ Ch S S' p ∧ S'.length = S.length ∧ Pt S' p (N + 1) := by
  obtain ⟨own, seed, n, h1, h2, h3, h4, h5⟩ := hp
  obtain ⟨i, own', n', e, a1, a2, a3, a4, a5⟩ := s8 k w h1 h2 h3 ⟨h4, by omega⟩ hu
  have hl : p < S.length := (List.getElem?_eq_some_iff.mp h1).1
  refine ⟨i, _, e, a1, a2, ⟨w.set rfl, by rw [List.length_set]; exact Nat.le_refl _, fun j _ hj => List.getElem?_set_ne (Ne.symm hj)⟩, List.length_set, own', seed, n', by rw [List.getElem?_set_self hl], a3, h3, by omega, by omega⟩
theorem c9 (k : Nat) (a b : D) (S : Sto) : C (k + 1) 16 [a, b] S = endD S.length (m_law_of (cm k) [some a, some b] S) := rfl
theorem of_ (k : Nat) {p l : Nat} {N : Int} {S : Sto} {xs : List D} (w : Wf S) (hp : Pt S p N) (hN : N < 2 ^ 20) (hl : S[l]? = some (.lst xs)) (hx : xs ≠ []) (hx2 : xs.length < 2 ^ 30) (hlp : l ≠ p) :
    ∃ d S', C (k + 2) 16 [.ref p, .ref l] S = .ok d S' ∧ d ∈ xs ∧ Ch S S' p ∧ S'.length = S.length ∧ Pt S' p (N + 1) := by
  have hll : l < S.length := (List.getElem?_eq_some_iff.mp hl).1
  have hpos : 0 < xs.length := List.length_pos_iff.mpr hx
  obtain ⟨i, S', e, a1, a2, a3, a4, a5⟩ := take k (u := xs.length) w hp hN ⟨by omega, by omega⟩
  have hl' : S'[l]? = some (.lst xs) := (a3.oth l hll hlp).trans hl
  have hi : i.toNat < xs.length := by omega
  have at' : atI xs i = some (xs.getD i.toNat .non) := by
    have := atI_get (xs := xs) (i := i.toNat) hi
    rwa [show ((i.toNat : Nat) : Int) = i by omega] at this
  have hm : xs.getD i.toNat .non ∈ xs := by
    rw [List.getD_eq_getElem?_getD, List.getElem?_eq_getElem hi]
    exact List.getElem_mem hi
  refine ⟨xs.getD i.toNat .non, S', ?_, hm, a3, a4, a5⟩
  rw [c9]
  have e2 : m_law_of (cm (k + 1)) [some (.ref p), some (.ref l)] S = .ok (.rt (xs.getD i.toNat .non)) S' := by
    have le : lenD [.ref l] S = .ok (.int xs.length) S := by simp only [lenD, hl]
    refine s_ret (v_op (v_var rfl) (v_call (a_cons (v_var rfl) (a_cons (v_bi (a_cons (v_var rfl) a_nil) le) a_nil)) e) ?_)
    simp only [idxD, hl', at']
  rw [e2]
  have hb : (xs.getD i.toNat .non).blw S'.length = true := by
    have := a3.wf _ (List.mem_of_getElem? hl')
    exact blws_iff.mp this _ hm
  rw [← a4]
  exact end_rt a3.wf hb
end
end Rf.L33
end

section
set_option Elab.async false
set_option linter.all false
set_option maxRecDepth 100000
set_option maxHeartbeats 4000000
namespace Rf
open PySem PySem.Spec PyProof.Rows L2
theorem sz {n : Nat} (h : n ≤ 1000) : n ≤ sizeLine := by rw [sizeLine_eq]; omega
theorem gds_bound {n : Nat} {S : Sto} {w : Nat} : ∀ {ds : List D}, (∀ d ∈ ds, ∃ a, gd n S d = some a ∧ a ≤ w) → ∃ b, gds n S ds = some b ∧ b ≤ ds.length * (w + 1)
  | [], _ => ⟨0, gds_nil, by simp⟩
  | d :: ds, h => by
    obtain ⟨a, h1, h2⟩ := h d List.mem_cons_self
    obtain ⟨b, h3, h4⟩ := gds_bound fun x hx => h x (List.mem_cons_of_mem _ hx)
    refine ⟨_, gds_cons h1 h3, ?_⟩
    rw [List.length_cons, Nat.add_mul]
    omega
mutual
theorem gd_mono {S : Sto} : ∀ {n : Nat} {d : D} {w : Nat}, gd n S d = some w → gd (n + 1) S d = some w
  | 0, d, w, h => by simp only [gd] at h; cases h
  | n + 1, .tup ds, w, h => by simp only [gd] at h ⊢; have := gds_mono h; simpa only [gds, gd] using this
  | n + 1, .ref k, w, h => by
    simp only [gd] at h ⊢
    cases e : S[k]? with
    | none => rw [e] at h; cases h
    | some o =>
      cases o with
      | lst ds => rw [e] at h; exact gds_mono h
  | n + 1, .non, w, h => by simpa only [gd] using h
  | n + 1, .bl _, w, h => by simpa only [gd] using h
  | n + 1, .int _, w, h => by simpa only [gd] using h
  | n + 1, .str _, w, h => by simpa only [gd] using h
  | n + 1, .rol _, w, h => by simp only [gd] at h; cases h
  | n + 1, .ty _, w, h => by simp only [gd] at h; cases h
theorem gds_mono {S : Sto} : ∀ {n : Nat} {ds : List D} {w : Nat}, gds n S ds = some w → gds (n + 1) S ds = some w
  | n, [], w, h => by simpa only [gds] using h
  | n, d :: ds, w, h => by
    obtain ⟨a, b, e1, e2, rfl⟩ := gds_inv h
    exact gds_cons (gd_mono e1) (gds_mono e2)
end
theorem gd_le {S : Sto} {m n : Nat} {d : D} {w : Nat} (hmn : m ≤ n) (h : gd m S d = some w) : gd n S d = some w := by
  induction hmn with
  | refl => exact h
  | step _ ih => exact gd_mono ih
end Rf
namespace Rf.L33
open PySem PySem.Spec PyProof.Rows L2 Rf
noncomputable section
def odd1 (n : Nat) : List D := [.non, .bl true, .bl false, .int 0, .int 1, .int (-1), .int 2, .int 201, .str "", .str "a", .str "office", .str "never", .tup [], .ref n, .tup [.int 0], .tup [.tup []], .ref (n + 1), .tup [.bl true]]
def odd2 (n : Nat) : List D := [.tup [.str "a"], .tup [.int 0, .tup []], .tup [.int 7], .tup [.int 0, .ref n], .tup [.int 1, .int 1, .tup []], .tup [.int 1, .tup [], .tup [.int 0]], .tup [.non, .tup []], .str "office 1 1", .int (10 ^ 20)]
theorem c11 (k : Nat) (a : D) (S : Sto) : C (k + 1) 18 [a] S = endD S.length (m_law_odd (cm k) [some a, none] S) := rfl
def oddS (S : Sto) : Sto := S ++ [O.lst [], O.lst [.int 1], O.lst (odd1 S.length), O.lst [.int 0], O.lst (odd2 (S.length + 3)), O.lst (odd1 S.length ++ odd2 (S.length + 3))]
theorem pow20 {S : Sto} : powD (.int 10) (.int 20) S = .ok (.int (10 ^ 20)) S := by
  have e : powD (.int 10) (.int 20) S = if 0 ≤ (20 : Int) ∧ (Builtin.Int.intBits 10 : Int) * 20 ≤ 2 ^ 27 then Res.ok (.int (10 ^ (20 : Int).toNat)) S else .bad := rfl
  rw [e, if_pos]
  · rfl
  refine ⟨by decide, ?_⟩
  have := intBits_le_64 (k := 10) (by decide) (by decide)
  have e27 : (2 : Int) ^ 27 = 134217728 := by decide
  omega
theorem oddE1 (k : Nat) (a : D) (S : Sto) : mNew (lLst (aCons (mLit .non) (aCons (mLit (.bl true)) (aCons (mLit (.bl false)) (aCons (mLit (.int 0)) (aCons (mLit (.int 1)) (aCons (mUn negD (mLit (.int 1))) (aCons (mLit (.int 2)) (aCons (mLit (.int 201)) (aCons (mLit (.str "")) (aCons (mLit (.str "a")) (aCons (mLit (.str "office")) (aCons (mLit (.str "never")) (aCons (mTup (aNil)) (aCons (mNew (lLst (aNil))) (aCons (mTup (aCons (mLit (.int 0)) (aNil))) (aCons (mTup (aCons (mTup (aNil)) (aNil))) (aCons (mNew (lLst (aCons (mLit (.int 1)) (aNil)))) (aCons (mTup (aCons (mLit (.bl true)) (aNil))) (aNil)))))))))))))))))))) (cm k) [some a, none] S =
    .ok (.ref (S.length + 2)) (S ++ [O.lst [], O.lst [.int 1], O.lst (odd1 S.length)]) := by
  have e : mNew (lLst aNil) (cm k) [some a, none] S = .ok (.ref S.length) (S ++ [O.lst []]) := v_new (l_lst a_nil (sz (by simp))) (sz (by simp))
  have e2 : mNew (lLst (aCons (mLit (.int 1)) aNil)) (cm k) [some a, none] (S ++ [O.lst []]) = .ok (.ref (S.length + 1)) (S ++ [O.lst [], O.lst [.int 1]]) := by
    refine (v_new (l_lst (a_cons v_lit a_nil) (sz (by simp))) (sz (by simp))).trans ?_
    simp
  refine (v_new (l_lst (a_cons v_lit (a_cons v_lit (a_cons v_lit (a_cons v_lit (a_cons v_lit (a_cons (v_un v_lit rfl) (a_cons v_lit (a_cons v_lit (a_cons v_lit (a_cons v_lit (a_cons v_lit (a_cons v_lit (a_cons (v_tup a_nil (sz (by simp))) (a_cons e (a_cons (v_tup (a_cons v_lit a_nil) (sz (by simp))) (a_cons (v_tup (a_cons (v_tup a_nil (sz (by simp))) a_nil) (sz (by simp))) (a_cons e2 (a_cons (v_tup (a_cons v_lit a_nil) (sz (by simp))) a_nil)))))))))))))))))) (sz (by simp))) (sz (by simp))).trans ?_
  simp [odd1]
end
end Rf.L33
end

section
set_option Elab.async false
set_option linter.all false
set_option maxRecDepth 100000
set_option maxHeartbeats 4000000
namespace Rf.L33
open PySem PySem.Spec PyProof.Rows L2 Rf
noncomputable section
theorem oddE2 (k : Nat) (a b : D) (S : Sto) : mNew (lLst (aCons (mTup (aCons (mLit (.str "a")) (aNil))) (aCons (mTup (aCons (mLit (.int 0)) (aCons (mTup (aNil)) (aNil)))) (aCons (mTup (aCons (mLit (.int 7)) (aNil))) (aCons (mTup (aCons (mLit (.int 0)) (aCons (mNew (lLst (aCons (mLit (.int 0)) (aNil)))) (aNil)))) (aCons (mTup (aCons (mLit (.int 1)) (aCons (mLit (.int 1)) (aCons (mTup (aNil)) (aNil))))) (aCons (mTup (aCons (mLit (.int 1)) (aCons (mTup (aNil)) (aCons (mTup (aCons (mLit (.int 0)) (aNil))) (aNil))))) (aCons (mTup (aCons (mLit .non) (aCons (mTup (aNil)) (aNil)))) (aCons (mLit (.str "office 1 1")) (aCons (mOp powD (mLit (.int 10)) (mLit (.int 20))) (aNil))))))))))) (cm k) [some a, some b] S =
    .ok (.ref (S.length + 1)) (S ++ [O.lst [.int 0], O.lst (odd2 S.length)]) := by
  have e : mNew (lLst (aCons (mLit (.int 0)) aNil)) (cm k) [some a, some b] S = .ok (.ref S.length) (S ++ [O.lst [.int 0]]) := v_new (l_lst (a_cons v_lit a_nil) (sz (by simp))) (sz (by simp))
  refine (v_new (l_lst (a_cons (v_tup (a_cons v_lit a_nil) (sz (by simp))) (a_cons (v_tup (a_cons v_lit (a_cons (v_tup a_nil (sz (by simp))) a_nil)) (sz (by simp))) (a_cons (v_tup (a_cons v_lit a_nil) (sz (by simp))) (a_cons (v_tup (a_cons v_lit (a_cons e a_nil)) (sz (by simp)))
    (a_cons (v_tup (a_cons v_lit (a_cons v_lit (a_cons (v_tup a_nil (sz (by simp))) a_nil))) (sz (by simp))) (a_cons (v_tup (a_cons v_lit (a_cons (v_tup a_nil (sz (by simp))) (a_cons (v_tup (a_cons v_lit a_nil) (sz (by simp))) a_nil))) (sz (by simp)))
    (a_cons (v_tup (a_cons v_lit (a_cons (v_tup a_nil (sz (by simp))) a_nil)) (sz (by simp))) (a_cons v_lit (a_cons (v_op v_lit v_lit pow20) a_nil))))))))) (sz (by simp))) (sz (by simp))).trans ?_
  simp [odd2]
theorem odd_good {S : Sto} {n : Nat} (h0 : S[n]? = some (.lst [])) (h1 : S[n + 1]? = some (.lst [.int 1])) (h3 : S[n + 3]? = some (.lst [.int 0])) : ∀ d ∈ odd1 n ++ odd2 (n + 3), Good S d 300 := by
  intro d hd
  have key : ∃ w, gd 5 S d = some w ∧ w ≤ 300 := by
    have s0 : short 0 = true := by decide
    have s1 : short 1 = true := by decide
    have s2 : short (-1) = true := by decide
    have s3 : short 2 = true := by decide
    have s4 : short 201 = true := by decide
    have s5 : short 7 = true := by decide
    have s6 : short (10 ^ 20) = true := by decide
    simp only [odd1, odd2, List.cons_append, List.nil_append, List.mem_cons, List.not_mem_nil, or_false] at hd
    rcases hd with rfl | rfl | rfl | rfl | rfl | rfl | rfl | rfl | rfl | rfl | rfl | rfl | rfl | rfl | rfl | rfl | rfl | rfl | rfl | rfl | rfl | rfl | rfl | rfl | rfl | rfl | rfl <;>
      first
      | exact ⟨_, by simp only [gd, gds, s0, s1, s2, s3, s4, s5, s6, h0, h1, h3, if_true]; rfl, by decide⟩
      | exact ⟨_, by simp only [gd, gds, s0, s1, s2, s3, s4, s5, s6, h0, h1, h3, if_true]; rfl, by omega⟩
  obtain ⟨w, e, hw⟩ := key
  exact ⟨5, w, by omega, hw, e⟩
theorem odd_ (k : Nat) {p : Nat} {N : Int} {S : Sto} (w : Wf S) (hp : Pt S p N) (hN : N < 2 ^ 20) :
    ∃ d S', C (k + 3) 18 [.ref p] S = .ok d S' ∧ Good S' d 300 ∧ d.blw S'.length = true ∧ Ch S S' p ∧ Pt S' p (N + 1) := by
  have hps := hp.lt
  have hT : S ++ [O.lst [], O.lst [.int 1], O.lst (odd1 S.length)] ++ [O.lst [.int 0], O.lst (odd2 (S.length + 3))] ++ [O.lst (odd1 S.length ++ odd2 (S.length + 3))] = oddS S := by simp [oddS]
  have wT : Wf (oddS S) := by
    intro o ho
    have hl : (oddS S).length = S.length + 6 := by simp [oddS]
    rw [hl]
    unfold oddS at ho
    rcases List.mem_append.mp ho with z | z
    · exact O.blw_mono (by omega) o (w o z)
    · simp only [List.mem_cons, List.not_mem_nil, or_false] at z
      rcases z with rfl | rfl | rfl | rfl | rfl | rfl <;> simp [O.blw, D.blws, D.blw, odd1, odd2] <;> omega
  have at5 : (oddS S)[S.length + 5]? = some (.lst (odd1 S.length ++ odd2 (S.length + 3))) := by
    unfold oddS; rw [List.getElem?_append_right (by omega)]; simp
  have at0 : (oddS S)[S.length]? = some (.lst []) := by unfold oddS; rw [List.getElem?_append_right (by omega)]; simp
  have at1 : (oddS S)[S.length + 1]? = some (.lst [.int 1]) := by unfold oddS; rw [List.getElem?_append_right (by omega)]; simp
  have at3 : (oddS S)[S.length + 3]? = some (.lst [.int 0]) := by unfold oddS; rw [List.getElem?_append_right (by omega)]; simp
  have hpT : Pt (oddS S) p N := by unfold oddS; exact hp.add _
  have lT : (oddS S).length = S.length + 6 := by simp [oddS]
  obtain ⟨d, S', e, hd, c, hl, hp'⟩ := of_ k wT hpT hN at5 (by simp [odd1]) (by simp [odd1, odd2]) (by omega)
  have chS : Ch S (oddS S) p := ⟨wT, by omega, fun j hj _ => by unfold oddS; rw [List.getElem?_append_left hj]⟩
  have g : Good S' d 300 := odd_good ((c.oth _ (by omega) (by omega)).trans at0) ((c.oth _ (by omega) (by omega)).trans at1) ((c.oth _ (by omega) (by omega)).trans at3) d hd
  have hb : d.blw S'.length = true := by
    have := c.wf _ (List.mem_of_getElem? ((c.oth _ (by omega) (by omega)).trans at5))
    exact blws_iff.mp this _ hd
  have add : addD (.ref (S.length + 2)) (.ref (S ++ [O.lst [], O.lst [.int 1], O.lst (odd1 S.length)]).length.succ) (S ++ [O.lst [], O.lst [.int 1], O.lst (odd1 S.length)] ++ [O.lst [.int 0], O.lst (odd2 (S.length + 3))]) = .ok (.ref (S.length + 5)) (oddS S) := by
    have a1 : (S ++ [O.lst [], O.lst [.int 1], O.lst (odd1 S.length)] ++ [O.lst [.int 0], O.lst (odd2 (S.length + 3))])[S.length + 2]? = some (.lst (odd1 S.length)) := by
      rw [List.getElem?_append_left (by simp), List.getElem?_append_right (by omega)]; simp
    have a2 : (S ++ [O.lst [], O.lst [.int 1], O.lst (odd1 S.length)] ++ [O.lst [.int 0], O.lst (odd2 (S.length + 3))])[(S ++ [O.lst [], O.lst [.int 1], O.lst (odd1 S.length)]).length.succ]? = some (.lst (odd2 (S.length + 3))) := by
      rw [List.getElem?_append_right (by simp)]; simp
    simp only [addD, a1, a2]
    unfold newL
    rw [if_pos (sz (by simp [odd1, odd2])), hT]
    simp
  have body : m_law_odd (cm (k + 2)) [some (.ref p), none] S = .ok (.rt d) S' := by
    refine s_nx (s_asg (oddE1 (k + 2) (.ref p) S) rfl) ?_
    refine s_nx (ρ1 := [some (.ref p), some (.ref (S.length + 5))]) (s_asg (v_op (v_var rfl) ((oddE2 (k + 2) (.ref p) (.ref (S.length + 2)) _).trans ?_) add) rfl) (s_ret (v_call (a_cons (v_var rfl) (a_cons (v_var rfl) a_nil)) e))
    simp
  rw [c11, body]
  obtain ⟨S2, r1, r2, r3, r4, r5⟩ := end_any (chS.trans c) hp' hps hb g
  exact ⟨d, S2, r1, r5, r4, r2, r3⟩
end
end Rf.L33
end

section
set_option Elab.async false
set_option linter.all false
set_option maxRecDepth 100000
set_option maxHeartbeats 4000000
namespace Rf
open PySem PySem.Spec PyProof.Rows L2
/-! slices -/
theorem cut_to (xs : List D) (i : Nat) : cutD xs none (some (i : Int)) = xs.take i := by
  unfold cutD
  rw [HT.sIx_none, HT.sIx_nat, List.drop_zero, Nat.sub_zero]
  by_cases h : i ≤ xs.length
  · rw [Nat.min_eq_left h]
  · rw [Nat.min_eq_right (by omega), List.take_length, List.take_of_length_le (by omega)]
theorem cut_from (xs : List D) (i : Nat) : cutD xs (some (i : Int)) none = xs.drop i := by
  unfold cutD
  rw [HT.sIx_none, HT.sIx_nat]
  by_cases h : i ≤ xs.length
  · rw [Nat.min_eq_left h, List.take_of_length_le (by rw [List.length_drop]; omega)]
  · rw [Nat.min_eq_right (by omega), List.drop_length, List.drop_of_length_le (by omega)]; simp
theorem sIx_m1 (n d : Nat) : HT.sIx n d (some (-1)) = n - 1 := by
  show (if (-1 : Int) < 0 then (-1 + (n : Int)).toNat else min (-1 : Int).toNat n) = _
  rw [if_pos (by decide)]; omega
theorem cut_init (xs : List D) : cutD xs none (some (-1)) = xs.take (xs.length - 1) := by
  unfold cutD
  rw [HT.sIx_none, sIx_m1, List.drop_zero, Nat.sub_zero]
theorem cut_last (xs : List D) : cutD xs (some (-1)) none = xs.drop (xs.length - 1) := by
  unfold cutD
  rw [HT.sIx_none, sIx_m1, List.take_of_length_le (by rw [List.length_drop]; omega)]
theorem v_sl {c : Cm} {ρ : Ev} {S S1 S2 S3 : Sto} {a l h : M D} {x : D} {i j : Int} {z : Res D} (h1 : a c ρ S = .ok x S1) (h2 : l c ρ S1 = .ok (.int i) S2) (h3 : h c ρ S2 = .ok (.int j) S3) (h4 : sliD x (some i) (some j) S3 = z) : mSl a (some l) (some h) c ρ S = z := by
  simp only [mSl, M.bind, M.ret, h1, Res.bind, mOpt, h2, h3, h4]
theorem v_slf {c : Cm} {ρ : Ev} {S S1 S2 : Sto} {a l : M D} {x : D} {i : Int} {z : Res D} (h1 : a c ρ S = .ok x S1) (h2 : l c ρ S1 = .ok (.int i) S2) (h4 : sliD x (some i) none S2 = z) : mSl a (some l) none c ρ S = z := by
  simp only [mSl, M.bind, M.ret, h1, Res.bind, mOpt, h2, h4]
theorem v_slt {c : Cm} {ρ : Ev} {S S1 S2 : Sto} {a l : M D} {x : D} {i : Int} {z : Res D} (h1 : a c ρ S = .ok x S1) (h2 : l c ρ S1 = .ok (.int i) S2) (h4 : sliD x none (some i) S2 = z) : mSl a none (some l) c ρ S = z := by
  simp only [mSl, M.bind, M.ret, h1, Res.bind, mOpt, h2, h4]
theorem v_back {c : Cm} {ρ : Ev} {S S1 : Sto} {a : M D} {ds : List D} (h1 : a c ρ S = .ok (.tup ds) S1) : mBack a c ρ S = .ok (.tup ds.reverse) S1 := by
  simp only [mBack, M.bind, M.ret, h1, Res.bind]
/-! weights of lists -/
theorem gds_app {n : Nat} {S : Sto} : ∀ {as bs : List D} {a b : Nat}, gds n S as = some a → gds n S bs = some b → gds n S (as ++ bs) = some (a + b)
  | [], bs, a, b, h1, h2 => by simp only [gds, Option.some.injEq] at h1; subst h1; simpa using h2
  | d :: as, bs, a, b, h1, h2 => by
    obtain ⟨x, y, e1, e2, rfl⟩ := gds_inv h1
    have := gds_cons e1 (gds_app e2 h2)
    rw [List.cons_append, this]
    congr 1; omega
theorem gds_split {n : Nat} {S : Sto} : ∀ {as bs : List D} {w : Nat}, gds n S (as ++ bs) = some w → ∃ a b, gds n S as = some a ∧ gds n S bs = some b ∧ w = a + b
  | [], bs, w, h => ⟨0, w, gds_nil, h, by omega⟩
  | d :: as, bs, w, h => by
    obtain ⟨x, y, e1, e2, rfl⟩ := gds_inv h
    obtain ⟨a, b, h1, h2, rfl⟩ := gds_split e2
    exact ⟨x + 1 + a, b, gds_cons e1 h1, h2, by omega⟩
theorem gds_rev {n : Nat} {S : Sto} : ∀ {as : List D} {a : Nat}, gds n S as = some a → gds n S as.reverse = some a
  | [], a, h => h
  | d :: as, a, h => by
    obtain ⟨x, y, e1, e2, rfl⟩ := gds_inv h
    rw [List.reverse_cons, gds_app (gds_rev e2) (gds_cons e1 gds_nil)]
    congr 1; omega
/-! values made of small ints and tuples -/
def ofv : Nat → D → Bool
  | _, .int i => decide (i.natAbs ≤ 200)
  | n + 1, .tup ds => ds.all (ofv n)
  | _, _ => false
theorem ofv_blw : ∀ {n : Nat} {d : D} {m : Nat}, ofv n d = true → d.blw m = true
  | n, .int i, m, _ => rfl
  | n + 1, .tup ds, m, h => by
    simp only [ofv, List.all_eq_true] at h
    simp only [D.blw]
    exact blws_iff.mpr fun x hx => ofv_blw (h x hx)
  | 0, .tup ds, m, h => by simp [ofv] at h
  | n, .non, m, h => by cases n <;> simp [ofv] at h
  | n, .bl _, m, h => by cases n <;> simp [ofv] at h
  | n, .str _, m, h => by cases n <;> simp [ofv] at h
  | n, .ref _, m, h => by cases n <;> simp [ofv] at h
  | n, .ty _, m, h => by cases n <;> simp [ofv] at h
  | n, .rol _, m, h => by cases n <;> simp [ofv] at h
theorem ofv_key : ∀ {n : Nat} {d : D}, ofv n d = true → ∃ k, nkey d = some k ∧ k.depth ≤ n
  | n, .int i, _ => ⟨.num i, rfl, by simp [NestedKey.depth]⟩
  | n + 1, .tup ds, h => by
    simp only [ofv, List.all_eq_true] at h
    have : ∀ {ds : List D}, (∀ x ∈ ds, ofv n x = true) → ∃ ks, nkeys ds = some ks ∧ NestedKey.depthAll ks ≤ n := by
      intro ds
      induction ds with
      | nil => intro _; exact ⟨[], rfl, by simp [NestedKey.depthAll]⟩
      | cons d ds ih =>
        intro h
        obtain ⟨k, h1, h2⟩ := ofv_key (h d List.mem_cons_self)
        obtain ⟨ks, h3, h4⟩ := ih fun x hx => h x (List.mem_cons_of_mem _ hx)
        exact ⟨k :: ks, by simp only [nkeys, h1, h3], by simp only [NestedKey.depthAll]; omega⟩
    obtain ⟨ks, h1, h2⟩ := this h
    exact ⟨.tup ks, by simp only [nkey, h1], by simp only [NestedKey.depth]; omega⟩
  | 0, .tup ds, h => by simp [ofv] at h
  | n, .non, h => by cases n <;> simp [ofv] at h
  | n, .bl _, h => by cases n <;> simp [ofv] at h
  | n, .str _, h => by cases n <;> simp [ofv] at h
  | n, .ref _, h => by cases n <;> simp [ofv] at h
  | n, .ty _, h => by cases n <;> simp [ofv] at h
  | n, .rol _, h => by cases n <;> simp [ofv] at h
theorem key_shaped {d : D} {k : NestedKey} (h : nkey d = some k) (hd : k.depth ≤ 60) : SeqAt.shaped k.data = true := by
  unfold SeqAt.shaped
  rw [Bool.and_eq_true, decide_eq_true_eq]
  exact ⟨key_lay k (unkey_of d k h).2, by rw [depth_data]; omega⟩
/-- value != () -/
theorem ne_unit {n : Nat} {ds : List D} {S : Sto} (h : ofv n (.tup ds) = true) (hn : n ≤ 20) : neD (.tup ds) (.tup []) S = .ok (.bl !ds.isEmpty) S := by
  obtain ⟨k, h1, h2⟩ := ofv_key h
  have q1 := q_key (S := S) _ k 30 h1 (by omega)
  have q2 : toQ 30 S (.tup []) = some (.tuple []) := rfl
  unfold neD
  rw [q1, q2]
  dsimp only
  rw [if_pos (.inl ⟨key_shaped h1 (by omega), by decide⟩)]
  simp only [nkey] at h1
  cases e : nkeys ds with
  | none => rw [e] at h1; cases h1
  | some ks =>
    rw [e] at h1; cases h1
    cases ds with
    | nil =>
      simp only [nkeys, Option.some.injEq] at e
      subst e
      simp [NestedKey.data, NestedKey.datas, PyData.eqv, PyData.eqvAll]
    | cons d ds =>
      simp only [nkeys] at e
      split at e
      · cases e
        simp [NestedKey.data, NestedKey.datas, PyData.eqv, PyData.eqvAll]
      · cases e
theorem str_small (i : Int) (hi : i.natAbs ≤ 200) (S : Sto) : ∃ w, gd 1 S (.str (toString i)) = some w ∧ w ≤ 4 := by
  have key : (List.range 401).all (fun j => (Str.ofString (toString ((j : Int) - 200))).cps.toList.all (fun c => decide (c < 16 ^ 8)) && decide ((Str.ofString (toString ((j : Int) - 200))).cps.size ≤ 4)) = true := by decide +kernel
  have := List.all_eq_true.mp key (i + 200).toNat (by rw [List.mem_range]; omega)
  rw [show (((i + 200).toNat : Nat) : Int) - 200 = i by omega, Bool.and_eq_true, decide_eq_true_eq] at this
  exact ⟨_, by simp only [gd]; exact if_pos this.1, this.2⟩
end Rf
end

section
set_option Elab.async false
set_option linter.all false
set_option maxRecDepth 100000
set_option maxHeartbeats 4000000
namespace Rf
open PySem PySem.Spec PyProof.Rows L2
theorem end_gd {S S' : Sto} {p : Nat} {d : D} {N : Int} {m w : Nat} (c : Ch S S' p) (hp : Pt S' p N) (hps : p < S.length) (hb : d.blw S'.length = true) (hg : gd m S' d = some w) :
    ∃ S2, endD S.length (.ok (.rt d) S') = .ok d S2 ∧ Ch S S2 p ∧ Pt S2 p N ∧ d.blw S2.length = true ∧ gd m S2 d = some w := by
  unfold endD trimD
  by_cases h : d.blw S.length = true ∧ ((S'.take S.length).all (·.blw S.length)) = true
  · have w : ∀ o ∈ S'.take S.length, o.blw S.length = true := fun o ho => List.all_eq_true.mp h.2 o ho
    have hl : (S'.take S.length).length = S.length := by rw [List.length_take]; have := c.len; omega
    refine ⟨S'.take S.length, if_pos h, ⟨fun o ho => by rw [hl]; exact w o ho, by omega, fun j h1 h2 => by rw [List.getElem?_take_of_lt h1]; exact c.oth j h1 h2⟩, ?_, by rw [hl]; exact h.1, by rw [gd_take c.len w m d h.1]; exact hg⟩
    obtain ⟨a, b, e, h1, r⟩ := hp
    exact ⟨a, b, e, by rw [List.getElem?_take_of_lt hps]; exact h1, r⟩
  · exact ⟨S', if_neg h, c, hp, hb, hg⟩
theorem gds_len {n : Nat} {S : Sto} : ∀ {ds : List D} {w : Nat}, gds n S ds = some w → ds.length ≤ w
  | [], w, h => Nat.zero_le _
  | d :: ds, w, h => by
    obtain ⟨a, b, e1, e2, rfl⟩ := gds_inv h
    have := gds_len e2
    rw [List.length_cons]; omega
theorem gds_le {S : Sto} {m n : Nat} {ds : List D} {w : Nat} (hmn : m ≤ n) (h : gds m S ds = some w) : gds n S ds = some w := by
  induction hmn with
  | refl => exact h
  | step _ ih => exact gds_mono ih
theorem short_le {i : Int} (h : i.natAbs ≤ 1000) : short i = true := by
  unfold short
  rw [Bool.or_eq_true, decide_eq_true_eq]
  have e : (10 : Nat) ^ 12 = 1000000000000 := by decide
  exact .inl (by omega)
theorem ofv_gd : ∀ {n : Nat} {d : D}, ofv n d = true → ∃ w, ∀ S, gd (n + 1) S d = some w
  | n, .int i, h => by
    have : i.natAbs ≤ 200 := by cases n <;> simpa [ofv] using h
    exact ⟨70, fun S => by simp only [gd]; exact if_pos (short_le (by omega))⟩
  | n + 1, .tup ds, h => by
    simp only [ofv, List.all_eq_true] at h
    have : ∀ {ds : List D}, (∀ x ∈ ds, ofv n x = true) → ∃ w, ∀ S, gds (n + 1) S ds = some w := by
      intro ds
      induction ds with
      | nil => intro _; exact ⟨0, fun S => gds_nil⟩
      | cons d ds ih =>
        intro h
        obtain ⟨a, h1⟩ := ofv_gd (h d List.mem_cons_self)
        obtain ⟨b, h2⟩ := ih fun x hx => h x (List.mem_cons_of_mem _ hx)
        exact ⟨_, fun S => gds_cons (h1 S) (h2 S)⟩
    obtain ⟨w, hw⟩ := this h
    exact ⟨w, fun S => by simp only [gd]; exact hw S⟩
  | 0, .tup ds, h => by simp [ofv] at h
  | n, .non, h => by cases n <;> simp [ofv] at h
  | n, .bl _, h => by cases n <;> simp [ofv] at h
  | n, .str _, h => by cases n <;> simp [ofv] at h
  | n, .ref _, h => by cases n <;> simp [ofv] at h
  | n, .ty _, h => by cases n <;> simp [ofv] at h
  | n, .rol _, h => by cases n <;> simp [ofv] at h
theorem ofv_shape {n : Nat} {d : D} (h : ofv n d = true) : (∃ i : Int, d = .int i ∧ i.natAbs ≤ 200) ∨ ∃ m ds, n = m + 1 ∧ d = .tup ds ∧ ∀ x ∈ ds, ofv m x = true := by
  cases d with
  | int i => exact .inl ⟨i, rfl, by cases n <;> simpa [ofv] using h⟩
  | tup ds =>
    cases n with
    | zero => simp [ofv] at h
    | succ m => exact .inr ⟨m, ds, rfl, rfl, by simpa only [ofv, List.all_eq_true] using h⟩
  | _ => cases n <;> simp [ofv] at h
end Rf
namespace Rf.L33
open PySem PySem.Spec PyProof.Rows L2 Rf
noncomputable section
theorem c13 (k : Nat) (a b : D) (S : Sto) : C (k + 1) 20 [a, b] S = endD S.length (m_law_bent (cm k) [some a, some b, none, none] S) := rfl
theorem kn_tup {ds : List D} {S : Sto} : Kn S (.tup ds) := ⟨_, rfl, by decide⟩
theorem kn_int {i : Int} {S : Sto} : Kn S (.int i) := ⟨_, rfl, by decide⟩
/-- one of a new list of variants -/
theorem pick (k : Nat) {p : Nat} {N : Int} {S T : Sto} {xs : List D} {m w : Nat} {ms : M (List D)} {ρ : Ev} (hps : p < S.length) (c : Ch S T p) (hp : Pt T p N) (hN : N < 2 ^ 20) (h0 : ρ[0]? = some (some (.ref p))) (he : ms (cm (k + 2)) ρ S = .ok xs T) (hx : xs ≠ []) (hl : xs.length ≤ 1000) (hb : D.blws T.length xs = true)
    (hg : ∀ S', Ch (T ++ [.lst xs]) S' p → ∀ d ∈ xs, ∃ w', gd m S' d = some w' ∧ w' ≤ w) :
    ∃ d S', mCall 16 (aCons (mVar 0) (aCons (mNew ms) aNil)) (cm (k + 2)) ρ S = .ok d S' ∧ (∃ w', gd m S' d = some w' ∧ w' ≤ w) ∧ d.blw S'.length = true ∧ Ch S S' p ∧ Pt S' p (N + 1) := by
  have wT := c.wf
  have cT := Ch.add (p := p) wT hb
  have hpT := hp.add [O.lst xs]
  obtain ⟨d, S', e, hd, c2, hl2, hp2⟩ := of_ k cT.wf hpT hN (l := T.length) (xs := xs) (by simp) hx (by omega) (by have := c.len; omega)
  have hb' : d.blw S'.length = true := by
    have := c2.wf _ (List.mem_of_getElem? ((c2.oth T.length (by simp) (by have := c.len; omega)).trans (show (T ++ [O.lst xs])[T.length]? = some (.lst xs) by simp)))
    exact blws_iff.mp this _ hd
  exact ⟨d, S', v_call (a_cons (v_var h0) (a_cons (v_new he (sz hl)) a_nil)) e, hg S' c2 d hd, hb', (c.trans cT).trans c2, hp2⟩
theorem bent_int (k : Nat) {n : Nat} {p : Nat} {i N : Int} {S : Sto} (hi : i.natAbs ≤ 200) (w : Wf S) (hp : Pt S p N) (hN : N < 2 ^ 20) :
    ∃ d S', C (k + 3) 20 [.ref p, .int i] S = .ok d S' ∧ (∃ w', gd (n + 3) S' d = some w' ∧ w' ≤ 300) ∧ d.blw S'.length = true ∧ Ch S S' p ∧ Pt S' p (N + 1) := by
  obtain ⟨d, S', e, ⟨w', g1, g2⟩, hb, c, hp'⟩ := pick k (m := n + 3) (w := 300) (S := S) (T := S) (ρ := [some (.ref p), some (.int i), none, none]) (xs := [.int (i + 1), .int (i - 1), .int (-i), .str (toString i), .non, .bl (i == 1), .tup [.int i]])
    (ms := lLst (aCons (mOp addD (mVar 1) (mLit (.int 1))) (aCons (mOp subD (mVar 1) (mLit (.int 1))) (aCons (mUn negD (mVar 1)) (aCons (mBi strD (aCons (mVar 1) (aNil))) (aCons (mLit .non) (aCons (mOp eqD (mVar 1) (mLit (.int 1))) (aCons (mTup (aCons (mVar 1) (aNil))) (aNil)))))))))
    hp.lt (Ch.refl w) hp hN rfl (by
      have hs : strD [.int i] S = .ok (.str (toString i)) S := by
        refine if_pos ?_
        by_cases z : i.natAbs = 0
        · rw [z]; decide
        · have := Nat.log2_self_le z
          have : i.natAbs.log2 < 2 ^ i.natAbs.log2 := Nat.lt_two_pow_self
          omega
      exact l_lst (a_cons (v_op (v_var rfl) v_lit rfl) (a_cons (v_op (v_var rfl) v_lit rfl) (a_cons (v_un (v_var rfl) rfl) (a_cons (v_bi (a_cons (v_var rfl) a_nil) hs) (a_cons v_lit (a_cons (v_op (v_var rfl) v_lit eq_int) (a_cons (v_tup (a_cons (v_var rfl) a_nil) (sz (by simp))) a_nil))))))) (sz (by simp))) (by simp) (by simp) (by simp [D.blws, D.blw])
    (fun S' _ d hd => by
      have s1 : short (i + 1) = true := short_le (by omega)
      have s2 : short (i - 1) = true := short_le (by omega)
      have s3 : short (-i) = true := short_le (by omega)
      have s4 : short i = true := short_le (by omega)
      obtain ⟨ws, e1, e2⟩ := str_small i hi S'
      have e1 := gd_le (show 1 ≤ n + 3 by omega) e1
      simp only [List.mem_cons, List.not_mem_nil, or_false] at hd
      rcases hd with rfl | rfl | rfl | rfl | rfl | rfl | rfl
      · exact ⟨70, by simp only [gd, s1, if_true], by omega⟩
      · exact ⟨70, by simp only [gd, s2, if_true], by omega⟩
      · exact ⟨70, by simp only [gd, s3, if_true], by omega⟩
      · exact ⟨ws, e1, by omega⟩
      · exact ⟨0, by simp only [gd], by omega⟩
      · exact ⟨0, by simp only [gd], by omega⟩
      · exact ⟨70 + 1 + 0, by simp only [gd, gds, s4, if_true], by omega⟩)
  have body : m_law_bent (cm (k + 2)) [some (.ref p), some (.int i), none, none] S = .ok (.rt d) S' := by
    have t : tTru (mBi isiD (aCons (mVar 1) (aCons (mLit (.ty "tuple")) aNil))) (cm (k + 2)) [some (.ref p), some (.int i), none, none] S = .ok false S := t_trub (v_bi (a_cons (v_var rfl) (a_cons v_lit a_nil)) (isi_tup kn_int))
    refine s_nx (s_if (k := false) (t_an_f t) (fun z => by cases z) (fun _ => s_nil)) (s_nx (s_if (k := false) t (fun z => by cases z) (fun _ => s_nil)) (s_nx (s_if (k := false) (t_trub (v_bi (a_cons (v_var rfl) (a_cons v_lit a_nil)) (isi_bool kn_int))) (fun z => by cases z) (fun _ => s_nil)) (s_rt (s_if (k := true) (t_trub (v_bi (a_cons (v_var rfl) (a_cons v_lit a_nil)) (isi_int kn_int))) (fun _ => s_ret e) (fun z => by cases z)))))
  rw [c13, body]
  obtain ⟨S2, r1, r2, r3, r4, r5⟩ := end_gd c hp' hp.lt hb g1
  exact ⟨d, S2, r1, ⟨w', r5, g2⟩, r4, r2, r3⟩
end
end Rf.L33
end

section
set_option Elab.async false
set_option linter.all false
set_option maxRecDepth 100000
set_option maxHeartbeats 4000000
namespace Rf.L33
open PySem PySem.Spec PyProof.Rows L2 Rf
noncomputable section
theorem blws_of {n m : Nat} {ds : List D} (h : ∀ x ∈ ds, ofv n x = true) : D.blws m ds = true := blws_iff.mpr fun x hx => ofv_blw (h x hx)
theorem gd_tup {n : Nat} {S : Sto} {ds : List D} {w : Nat} (h : gds n S ds = some w) : gd (n + 1) S (.tup ds) = some w := by simp only [gd, h]
theorem v_from {c : Cm} {ρ : Ev} {T : Sto} {a l : M D} {ds : List D} {n : Nat} (h1 : a c ρ T = .ok (.tup ds) T) (h2 : l c ρ T = .ok (.int (n : Int)) T) : mSl a (some l) none c ρ T = .ok (.tup (ds.drop n)) T :=
  v_slf h1 h2 (by show Res.ok (D.tup (cutD ds (some (n : Int)) none)) _ = _; rw [cut_from])
theorem v_upto {c : Cm} {ρ : Ev} {T : Sto} {a l : M D} {ds : List D} {n : Nat} (h1 : a c ρ T = .ok (.tup ds) T) (h2 : l c ρ T = .ok (.int (n : Int)) T) : mSl a none (some l) c ρ T = .ok (.tup (ds.take n)) T :=
  v_slt h1 h2 (by show Res.ok (D.tup (cutD ds none (some (n : Int)))) _ = _; rw [cut_to])
theorem v_init {c : Cm} {ρ : Ev} {T : Sto} {a l : M D} {ds : List D} (h1 : a c ρ T = .ok (.tup ds) T) (h2 : l c ρ T = .ok (.int (-1)) T) : mSl a none (some l) c ρ T = .ok (.tup (ds.take (ds.length - 1))) T :=
  v_slt h1 h2 (by show Res.ok (D.tup (cutD ds none (some (-1)))) _ = _; rw [cut_init])
theorem v_lastT {c : Cm} {ρ : Ev} {T : Sto} {a l : M D} {ds : List D} (h1 : a c ρ T = .ok (.tup ds) T) (h2 : l c ρ T = .ok (.int (-1)) T) : mSl a (some l) none c ρ T = .ok (.tup (ds.drop (ds.length - 1))) T :=
  v_slf h1 h2 (by show Res.ok (D.tup (cutD ds (some (-1)) none)) _ = _; rw [cut_last])
theorem v_cat {c : Cm} {ρ : Ev} {S S1 T : Sto} {a b : M D} {as bs : List D} (h1 : a c ρ S = .ok (.tup as) S1) (h2 : b c ρ S1 = .ok (.tup bs) T) (h : as.length + bs.length ≤ sizeLine) : mOp addD a b c ρ S = .ok (.tup (as ++ bs)) T :=
  v_op h1 h2 (by show (if as.length + bs.length ≤ sizeLine then _ else _) = _; rw [if_pos h])
/-- the variants of a tuple, S the state in which they are made -/
theorem bent_base (k : Nat) {m wt : Nat} {p : Nat} {N : Int} {S : Sto} {ds : List D} (ho : ∀ x ∈ ds, ofv m x = true) (hw : ∀ S, gds (m + 1) S ds = some wt) (hwt : wt ≤ 100000) (w : Wf S) (hp : Pt S p N) (hN : N < 2 ^ 20) :
    ∃ d S', mCall 16 (aCons (mVar 0) (aCons (mNew (lLst (aCons (mBi listD (aCons (mVar 1) (aNil))) (aCons (mSl (mVar 1) (some (mLit (.int 1))) none) (aCons (mSl (mVar 1) none (some (mUn negD (mLit (.int 1))))) (aCons (mOp addD (mVar 1) (mSl (mVar 1) (some (mUn negD (mLit (.int 1)))) none)) (aCons (mBack (mVar 1)) (aCons (mTup (aNil)) (aCons (mLit .non) (aNil)))))))))) aNil)) (cm (k + 2)) [some (.ref p), some (.tup ds), none, none] S = .ok d S' ∧
      (∃ w', gd (m + 4) S' d = some w' ∧ w' ≤ 2 * wt + 300) ∧ d.blw S'.length = true ∧ Ch S S' p ∧ Pt S' p (N + 1) := by
  have hl : ds.length ≤ 100000 := Nat.le_trans (gds_len (hw S)) hwt
  have big : ∀ {n : Nat}, n ≤ 200000 → n ≤ sizeLine := fun h => by rw [sizeLine_eq]; omega
  have cT := Ch.add (p := p) w (blws_of (m := S.length) ho)
  refine pick k (m := m + 4) (w := 2 * wt + 300) (S := S) (T := S ++ [.lst ds]) (xs := [.ref S.length, .tup (ds.drop 1), .tup (ds.take (ds.length - 1)), .tup (ds ++ ds.drop (ds.length - 1)), .tup ds.reverse, .tup [], .non]) hp.lt cT (hp.add _) hN rfl ?_ (by simp) (by simp) ?_ ?_
  · have hli : listD [.tup ds] S = .ok (.ref S.length) (S ++ [.lst ds]) := by
      show (if ds.length ≤ sizeLine then _ else _) = _
      rw [if_pos (big (by omega))]
    have vv : ∀ T, mVar 1 (cm (k + 2)) [some (.ref p), some (.tup ds), none, none] T = .ok (.tup ds) T := fun T => v_var rfl
    have vm : ∀ T, mUn negD (mLit (.int 1)) (cm (k + 2)) [some (.ref p), some (.tup ds), none, none] T = .ok (.int (-1)) T := fun T => v_un v_lit rfl
    exact l_lst (a_cons (v_bi (a_cons (vv _) a_nil) hli) (a_cons (v_from (n := 1) (vv _) v_lit) (a_cons (v_init (vv _) (vm _)) (a_cons (v_cat (vv _) (v_lastT (vv _) (vm _)) (big (by rw [List.length_drop]; omega))) (a_cons (v_back (vv _)) (a_cons (v_tup a_nil (sz (by simp))) (a_cons v_lit a_nil))))))) (sz (by simp))
  · have hlen : (S ++ [O.lst ds]).length = S.length + 1 := by simp
    have b1 : ∀ {es : List D}, (∀ x ∈ es, x ∈ ds) → D.blw (S ++ [O.lst ds]).length (.tup es) = true := fun h => by
      simp only [D.blw]
      exact blws_iff.mpr fun x hx => ofv_blw (ho x (h x hx))
    simp only [D.blws, Bool.and_eq_true]
    refine ⟨by simp only [D.blw, hlen, decide_eq_true_eq]; omega, b1 fun x hx => List.mem_of_mem_drop hx, b1 fun x hx => List.mem_of_mem_take hx, b1 fun x hx => ?_, b1 fun x hx => List.mem_reverse.mp hx, rfl, rfl, trivial⟩
    rcases List.mem_append.mp hx with z | z
    · exact z
    · exact List.mem_of_mem_drop z
  · intro S' c d hd
    have hw' := hw S'
    have sub : ∀ i, ∃ a b, gds (m + 1) S' (ds.take i) = some a ∧ gds (m + 1) S' (ds.drop i) = some b ∧ wt = a + b := fun i => gds_split (by rw [List.take_append_drop]; exact hw')
    have up : ∀ {es : List D} {x : Nat}, gds (m + 1) S' es = some x → gd (m + 4) S' (.tup es) = some x := fun h => gd_tup (gds_le (by omega) h)
    have hS : S'[S.length]? = some (.lst ds) := by
      refine (c.oth _ (by simp) (by have := hp.lt; omega)).trans ?_
      rw [List.getElem?_append_left (by simp)]; simp
    simp only [List.mem_cons, List.not_mem_nil, or_false] at hd
    rcases hd with rfl | rfl | rfl | rfl | rfl | rfl | rfl
    · exact ⟨wt, by simp only [gd, hS]; exact gds_le (by omega) hw', by omega⟩
    · obtain ⟨a, b, h1, h2, h3⟩ := sub 1
      exact ⟨b, up h2, by omega⟩
    · obtain ⟨a, b, h1, h2, h3⟩ := sub (ds.length - 1)
      exact ⟨a, up h1, by omega⟩
    · obtain ⟨a, b, h1, h2, h3⟩ := sub (ds.length - 1)
      exact ⟨wt + b, up (gds_app hw' h2), by omega⟩
    · exact ⟨wt, up (gds_rev hw'), by omega⟩
    · exact ⟨0, up gds_nil, by omega⟩
    · exact ⟨0, by simp only [gd], by omega⟩
theorem bent : ∀ (n : Nat), n ≤ 15 → ∀ (L : Nat), n + 3 ≤ L → ∀ {v : D} {wt p : Nat} {N : Int} {S : Sto}, ofv n v = true → (∀ S, gd (n + 1) S v = some wt) → wt ≤ 100000 → Wf S → Pt S p N → N + 3 * n + 3 < 2 ^ 20 →
    ∃ d S', C L 20 [.ref p, v] S = .ok d S' ∧ (∃ w', gd (n + 3) S' d = some w' ∧ w' ≤ 2 * wt + 300) ∧ d.blw S'.length = true ∧ Ch S S' p ∧ Pt S' p (N + 3 * n + 3) := by
  intro n
  induction n with
  | zero =>
    intro _ L hL v wt p N S ho hw hwt w hp hN
    rcases ofv_shape ho with ⟨i, rfl, hi⟩ | ⟨m, ds, e, _⟩
    · obtain ⟨L1, rfl⟩ : ∃ L1, L = L1 + 3 := ⟨L - 3, by omega⟩
      obtain ⟨d, S', e, ⟨w', g1, g2⟩, hb, c, hp'⟩ := bent_int L1 (n := 0) hi w hp (by omega)
      exact ⟨d, S', e, ⟨w', g1, by omega⟩, hb, c, hp'.mono (by omega)⟩
    · cases e
  | succ m ih =>
    intro hm L hL v wt p N S ho hw hwt w hp hN
    obtain ⟨L1, rfl⟩ : ∃ L1, L = L1 + 3 := ⟨L - 3, by omega⟩
    rcases ofv_shape ho with ⟨i, rfl, hi⟩ | ⟨m', ds, e, rfl, hds⟩
    · obtain ⟨d, S', e, ⟨w', g1, g2⟩, hb, c, hp'⟩ := bent_int L1 (n := m + 1) hi w hp (by omega)
      exact ⟨d, S', e, ⟨w', g1, by omega⟩, hb, c, hp'.mono (by omega)⟩
    · obtain rfl : m' = m := by omega
      have hws : ∀ S, gds (m' + 1) S ds = some wt := fun S => by have := hw S; simpa only [gd] using this
      have hps := hp.lt
      have tt : ∀ S, tTru (mBi isiD (aCons (mVar 1) (aCons (mLit (.ty "tuple")) aNil))) (cm (L1 + 2)) [some (.ref p), some (.tup ds), none, none] S = .ok true S := fun S => t_trub (v_bi (a_cons (v_var rfl) (a_cons v_lit a_nil)) (isi_tup kn_tup))
      have nu : ∀ S, tBoo (mOp neD (mVar 1) (mTup aNil)) (cm (L1 + 2)) [some (.ref p), some (.tup ds), none, none] S = .ok (!ds.isEmpty) S := fun S => t_boo (v_op (v_var rfl) (v_tup a_nil (sz (by simp))) (ne_unit ho (by omega)))
      -- the variants at S1
      have base : ∀ {S1 : Sto} {N1 : Int}, Ch S S1 p → Pt S1 p N1 → N1 ≤ N + 1 → tAn (tTru (mBi isiD (aCons (mVar 1) (aCons (mLit (.ty "tuple")) aNil)))) (tAn (tBoo (mOp neD (mVar 1) (mTup aNil))) (tBoo (mOp (cmpI fun i j => decide (j < i)) (mCall 15 (aCons (mVar 0) (aCons (mLit (.int 5)) aNil))) (mLit (.int 0))))) (cm (L1 + 2)) [some (.ref p), some (.tup ds), none, none] S = .ok false S1 →
          ∃ d S', C (L1 + 3) 20 [.ref p, .tup ds] S = .ok d S' ∧ (∃ w', gd (m' + 1 + 3) S' d = some w' ∧ w' ≤ 2 * wt + 300) ∧ d.blw S'.length = true ∧ Ch S S' p ∧ Pt S' p (N + 3 * ((m' + 1 : Nat) : Int) + 3) := by
        intro S1 N1 c1 hp1 hN1 ht
        obtain ⟨d, S', e, ⟨w', g1, g2⟩, hb, c, hp'⟩ := bent_base L1 hds hws hwt c1.wf hp1 (by omega)
        have body : m_law_bent (cm (L1 + 2)) [some (.ref p), some (.tup ds), none, none] S = .ok (.rt d) S' :=
          s_nx (s_if (k := false) ht (fun z => by cases z) (fun _ => s_nil)) (s_rt (s_if (k := true) (tt S1) (fun _ => s_ret e) (fun z => by cases z)))
        rw [c13, body]
        obtain ⟨S2, r1, r2, r3, r4, r5⟩ := end_gd (c1.trans c) hp' hps hb g1
        exact ⟨d, S2, r1, ⟨w', r5, g2⟩, r4, r2, r3.mono (by omega)⟩
      cases hds0 : ds.isEmpty with
      | true => exact base (Ch.refl w) hp (by omega) (t_an_t (tt S) (t_an_f (by rw [nu, hds0]; rfl)))
      | false =>
        have hpos : 0 < ds.length := by cases ds with | nil => simp at hds0 | cons x xs => simp
        obtain ⟨i, S1, e1, a1, a2, c1, l1, hp1⟩ := take (L1 + 1) (u := 5) w hp (by omega) (by omega)
        have drawn : tAn (tTru (mBi isiD (aCons (mVar 1) (aCons (mLit (.ty "tuple")) aNil)))) (tAn (tBoo (mOp neD (mVar 1) (mTup aNil))) (tBoo (mOp (cmpI fun i j => decide (j < i)) (mCall 15 (aCons (mVar 0) (aCons (mLit (.int 5)) aNil))) (mLit (.int 0))))) (cm (L1 + 2)) [some (.ref p), some (.tup ds), none, none] S = .ok (decide (0 < i)) S1 :=
          t_an_t (tt S) (t_an_t (by rw [nu, hds0]; rfl) (t_boo (v_op (v_call (a_cons (v_var rfl) (a_cons v_lit a_nil)) e1) v_lit rfl)))
        by_cases hi : 0 < i
        · rw [decide_eq_true hi] at drawn
          have hlen : ds.length ≤ 100000 := Nat.le_trans (gds_len (hws S)) hwt
          obtain ⟨j, S2, e2, b1, b2, c2, l2, hp2⟩ := take (L1 + 1) (u := ds.length) c1.wf hp1 (by omega) ⟨by omega, by omega⟩
          obtain ⟨jn, rfl⟩ : ∃ jn : Nat, j = (jn : Int) := ⟨j.toNat, by omega⟩
          have hj : jn < ds.length := by omega
          have hx : ds[jn] ∈ ds := List.getElem_mem hj
          obtain ⟨wx, hwx⟩ := ofv_gd (hds _ hx)
          have dr : ds.drop jn = ds[jn] :: ds.drop (jn + 1) := List.drop_eq_getElem_cons hj
          have wsum : ∀ S, ∃ a b, gds (m' + 1) S (ds.take jn) = some a ∧ gds (m' + 1) S (ds.drop (jn + 1)) = some b ∧ wt = a + (wx + 1 + b) := fun S => by
            obtain ⟨a, b, h1, h2, h3⟩ := gds_split (as := ds.take jn) (bs := ds.drop jn) (by rw [List.take_append_drop]; exact hws S)
            rw [dr] at h2
            obtain ⟨x, y, h4, h5, h6⟩ := gds_inv h2
            have := hwx S
            rw [h4] at this
            cases this
            exact ⟨a, y, h1, h5, by omega⟩
          obtain ⟨d', S3, e3, ⟨w', g1, g2⟩, hb, c3, hp3⟩ := ih (by omega) (L1 + 2) (by omega) (hds _ hx) hwx (by obtain ⟨a, b, _, _, h⟩ := wsum S; omega) c2.wf hp2 (by omega)
          obtain ⟨a, b, h1, h2, h3⟩ := wsum S3
          have big : ∀ {n : Nat}, n ≤ 300000 → n ≤ sizeLine := fun h => by rw [sizeLine_eq]; omega
          have body : m_law_bent (cm (L1 + 2)) [some (.ref p), some (.tup ds), none, none] S = .ok (.rt (.tup ((ds.take jn ++ [d']) ++ ds.drop (jn + 1)))) S3 := by
            refine s_rt (s_if (k := true) drawn (fun _ => ?_) (fun z => by cases z))
            refine s_nx (ρ1 := [some (.ref p), some (.tup ds), some (.int (jn : Int)), none]) (s_asg (v_call (a_cons (v_var rfl) (a_cons (v_bi (a_cons (v_var rfl) a_nil) rfl) a_nil)) e2) rfl) (s_ret ?_)
            have vv : ∀ T, mVar 1 (cm (L1 + 2)) [some (.ref p), some (.tup ds), some (.int (jn : Int)), none] T = .ok (.tup ds) T := fun T => v_var rfl
            have vj : ∀ T, mVar 2 (cm (L1 + 2)) [some (.ref p), some (.tup ds), some (.int (jn : Int)), none] T = .ok (.int (jn : Int)) T := fun T => v_var rfl
            have vx : mOp idxD (mVar 1) (mVar 2) (cm (L1 + 2)) [some (.ref p), some (.tup ds), some (.int (jn : Int)), none] S2 = .ok ds[jn] S2 := v_op (vv _) (vj _) (by
              show (match atI ds (jn : Int) with | some d => Res.ok d S2 | none => .bad) = _
              rw [atI_get hj]
              simp [List.getD_eq_getElem?_getD, hj])
            have vk : mOp addD (mVar 2) (mLit (.int 1)) (cm (L1 + 2)) [some (.ref p), some (.tup ds), some (.int (jn : Int)), none] S3 = .ok (.int ((jn + 1 : Nat) : Int)) S3 := v_op (vj _) v_lit rfl
            exact v_cat (v_cat (v_upto (vv _) (vj _)) (v_tup (a_cons (v_call (a_cons (v_var rfl) (a_cons vx a_nil)) e3) a_nil) (sz (by simp))) (big (by rw [List.length_take]; simp; omega))) (v_from (vv _) vk) (big (by rw [List.length_append, List.length_take, List.length_drop]; simp; omega))
          have hbt : D.blw S3.length (.tup ((ds.take jn ++ [d']) ++ ds.drop (jn + 1))) = true := by
            simp only [D.blw]
            refine blws_iff.mpr fun x hx => ?_
            rcases List.mem_append.mp hx with z | z
            · rcases List.mem_append.mp z with z | z
              · exact ofv_blw (hds x (List.mem_of_mem_take z))
              · rw [List.mem_singleton.mp z]; exact hb
            · exact ofv_blw (hds x (List.mem_of_mem_drop z))
          have gt : gd (m' + 1 + 3) S3 (.tup ((ds.take jn ++ [d']) ++ ds.drop (jn + 1))) = some ((a + (w' + 1 + 0)) + b) :=
            gd_tup (gds_app (gds_app (gds_le (by omega) h1) (gds_cons g1 gds_nil)) (gds_le (by omega) h2))
          rw [c13, body]
          obtain ⟨S4, r1, r2, r3, r4, r5⟩ := end_gd ((c1.trans c2).trans c3) hp3 hps hbt gt
          exact ⟨_, S4, r1, ⟨_, r5, by omega⟩, r4, r2, r3.mono (by omega)⟩
        · rw [decide_eq_false hi] at drawn
          exact base c1 hp1 (by omega) drawn
end
end Rf.L33
end

section
set_option Elab.async false
set_option linter.all false
set_option maxRecDepth 100000
set_option maxHeartbeats 4000000
namespace Rf
open PySem PySem.Spec PyProof.Rows L2
/-- items one by one, the store changing under an invariant -/
theorem compC_run {own : List Nat} {t : Tg} {te : M D} {c : Cm} {ρ : Ev} {P : D → Prop} {I : Nat → Sto → Prop} (B : Nat) : ∀ (ds acc : List D) (n : Nat) (S : Sto), acc.length + ds.length ≤ sizeLine → n + ds.length ≤ B →
    (∀ d ∈ ds, ∀ n S, n < B → I n S → ∃ ρ1 y S1, t.put d (wipeD ρ own) = some ρ1 ∧ te c ρ1 S = .ok y S1 ∧ P y ∧ I (n + 1) S1) → I n S →
    ∃ ys S', compC own t tYesD te ds acc c ρ S = .ok (acc ++ ys) S' ∧ ys.length = ds.length ∧ (∀ y ∈ ys, P y) ∧ I (n + ds.length) S'
  | [], acc, n, S, _, _, _, h => ⟨[], S, by simp [compC], rfl, by simp, h⟩
  | d :: ds, acc, n, S, hl, hB, hs, h => by
    simp only [List.length_cons] at hl hB
    obtain ⟨ρ1, y, S1, h1, h2, h3, h4⟩ := hs d List.mem_cons_self n S (by omega) h
    obtain ⟨ys, S', e, a1, a2, a3⟩ := compC_run B ds (acc ++ [y]) (n + 1) S1 (by simp; omega) (by omega) (fun x hx => hs x (List.mem_cons_of_mem _ hx)) h4
    have e0 : tYesD c ρ1 S = .ok true S := rfl
    refine ⟨y :: ys, S', ?_, by simp [a1], fun z hz => ?_, by rw [List.length_cons, show n + (ds.length + 1) = n + 1 + ds.length by omega]; exact a3⟩
    · unfold compC
      simp only [h1, e0, Res.nox, Res.bind, if_true, h2]
      rw [if_pos (by omega), e]
      simp
    · rcases List.mem_cons.mp hz with rfl | hz
      · exact h3
      · exact a2 z hz
/-- rounds of a loop under an invariant -/
theorem forL_run {t : Tg} {body : MS} {c : Cm} {I : Nat → Ev → Sto → Prop} (B : Nat) : ∀ (ds : List D) (n : Nat) (ρ : Ev) (S : Sto), n + ds.length ≤ B →
    (∀ d ∈ ds, ∀ n ρ S, n < B → I n ρ S → ∃ ρ1 ρ2 S1, t.put d ρ = some ρ1 ∧ body c ρ1 S = .ok (.nx ρ2) S1 ∧ I (n + 1) ρ2 S1) → I n ρ S →
    ∃ ρ' S', forL (fun _ => True) t body ds c ρ S = .ok (.nx ρ') S' ∧ I (n + ds.length) ρ' S'
  | [], n, ρ, S, _, _, h => ⟨ρ, S, by unfold forL; exact if_pos trivial, h⟩
  | d :: ds, n, ρ, S, hB, hs, h => by
    simp only [List.length_cons] at hB
    obtain ⟨ρ1, ρ2, S1, h1, h2, h3⟩ := hs d List.mem_cons_self n ρ S (by omega) h
    obtain ⟨ρ', S', e, a⟩ := forL_run B ds (n + 1) ρ2 S1 (by omega) (fun x hx => hs x (List.mem_cons_of_mem _ hx)) h3
    refine ⟨ρ', S', ?_, by rw [List.length_cons, show n + (ds.length + 1) = n + 1 + ds.length by omega]; exact a⟩
    unfold forL
    rw [if_pos trivial, h1]
    simp only [h2, Res.bind]
    exact e
theorem rg_len {j : Int} : (rangeD 0 j).length = j.toNat := by simp [rangeD]
theorem rg_of {c : Cm} {ρ : Ev} {S S1 : Sto} {m : M (List D)} {j : Int} (h : m c ρ S = .ok [.int j] S1) (hj : small j = true) : iRg1 m c ρ S = .ok ⟨rangeD 0 j, fun _ => True⟩ S1 := by
  simp only [iRg1, M.bind, M.ret, h, Res.bind, if_pos hj]
theorem comp_rg {c : Cm} {ρ : Ev} {S S1 : Sto} {m : M (List D)} {j : Int} {own : List Nat} {t : Tg} {tt : M Bool} {te : M D} (h : m c ρ S = .ok [.int j] S1) (hj : small j = true) : lComp (iRg1 m) own t tt te c ρ S = compC own t tt te (rangeD 0 j) [] c ρ S1 := by
  unfold lComp M.bind
  rw [rg_of h hj]
  simp only [Res.bind]
  exact compL_true own t tt te _ [] c ρ S1
theorem for_rg {c : Cm} {ρ : Ev} {S S1 : Sto} {m : M (List D)} {j : Int} {t : Tg} {b : MS} (h : m c ρ S = .ok [.int j] S1) (hj : small j = true) : sFor t (iRg1 m) b c ρ S = forL (fun _ => True) t b (rangeD 0 j) c ρ S1 := by
  unfold sFor M.bind
  rw [rg_of h hj]
  rfl
end Rf
namespace Rf.L33
open PySem PySem.Spec PyProof.Rows L2 Rf
noncomputable section
def Rl (m s : Int) (v : D) : Prop := ∃ (a b c : Int) (ns : List Int), v = .tup [.int a, .int b, .int c, .tup (ns.map .int)] ∧ ns.length ≤ 2 ∧ (0 ≤ a ∧ a < m) ∧ (0 ≤ b ∧ b < s) ∧ (0 ≤ c ∧ c < m) ∧ ∀ n ∈ ns, 0 ≤ n ∧ n < s
theorem inR_of {i lo hi : Int} (h1 : lo ≤ i) (h2 : i ≤ hi) : inR (.int i) lo hi = true := by
  simp [inR, h1, h2]
theorem Rl.rule {m s : Int} {v : D} (h : Rl m s v) : isRule m s v = true := by
  obtain ⟨a, b, c, ns, rfl, hl, ha, hb, hc, hn⟩ := h
  have e0 : inR (.int a) 0 (m - 1) = true := inR_of ha.1 (by omega)
  have e1 : inR (.int b) 0 (s - 1) = true := inR_of hb.1 (by omega)
  have e2 : inR (.int c) 0 (m - 1) = true := inR_of hc.1 (by omega)
  have e3 : ((ns.map D.int).all fun p => inR p 0 (s - 1)) = true := by
    rw [List.all_eq_true]
    intro x hx
    obtain ⟨n, hn1, rfl⟩ := List.mem_map.mp hx
    exact inR_of (hn n hn1).1 (by have := (hn n hn1).2; omega)
  have e4 : bnd 4 (.tup [.int a, .int b, .int c, .tup (ns.map .int)]) 4 = true := rfl
  have e5 : bnd 0 (.tup (ns.map .int)) 2 = true := by
    simp only [bnd, isTup, lenT, List.length_map, Bool.true_and, Bool.and_eq_true, decide_eq_true_eq]
    omega
  unfold isRule
  rw [e4]
  show (!(!true || !inR (.int a) 0 (m - 1)) && (!(!inR (.int b) 0 (s - 1) || !inR (.int c) 0 (m - 1)) && (bnd 0 (.tup (ns.map .int)) 2 && (ns.map D.int).all fun p => inR p 0 (s - 1)))) = true
  rw [e0, e1, e2, e3, e5]
  rfl
theorem gd_int' {n : Nat} {S : Sto} {i : Int} (h : i.natAbs ≤ 200) : gd (n + 1) S (.int i) = some 70 := by
  simp only [gd]
  exact if_pos (short_le (by omega))
theorem Rl.ofv {m s : Int} {v : D} (h : Rl m s v) (hm : m ≤ 6) (hs : s ≤ 6) : Rf.ofv 2 v = true ∧ ∀ S, ∃ w, gd 4 S v = some w ∧ w ≤ 400 := by
  obtain ⟨a, b, c, ns, rfl, hl, ha, hb, hc, hn⟩ := h
  constructor
  · simp only [Rf.ofv, List.all_cons, List.all_nil, Bool.and_true, Bool.and_eq_true, decide_eq_true_eq, List.all_eq_true, List.mem_map]
    refine ⟨by omega, by omega, by omega, ?_⟩
    rintro x ⟨n, hn1, rfl⟩
    have := hn n hn1
    simp only [Rf.ofv, decide_eq_true_eq]
    omega
  · intro S
    obtain ⟨w, h1, h2⟩ := gds_bound (n := 2) (S := S) (w := 70) (ds := ns.map .int) fun d hd => by
      obtain ⟨n, hn1, rfl⟩ := List.mem_map.mp hd
      have := hn n hn1
      exact ⟨70, gd_int' (by omega), Nat.le_refl _⟩
    rw [List.length_map] at h2
    refine ⟨_, gd_tup (gds_cons (gd_int' (by omega)) (gds_cons (gd_int' (by omega)) (gds_cons (gd_int' (by omega)) (gds_cons (gd_tup h1) gds_nil)))), ?_⟩
    have : ns.length * 71 ≤ 2 * 71 := Nat.mul_le_mul_right _ hl
    omega
theorem Rl.key {m s : Int} {v : D} (h : Rl m s v) : ∃ k, nkey v = some k ∧ RK k ∧ unkey k = v := by
  obtain ⟨k, h1, h2⟩ := rule_key h.rule
  exact ⟨k, h1, h2, (unkey_of v k h1).1⟩
theorem Rl.keys {m s : Int} : ∀ {rs : List D}, (∀ r ∈ rs, Rl m s r) → ∃ ks, nkeys rs = some ks ∧ (∀ k ∈ ks, RK k) ∧ ∀ k ∈ ks, Rl m s (unkey k)
  | [], _ => ⟨[], rfl, by simp, by simp⟩
  | r :: rs, h => by
    obtain ⟨k, h1, h2, h3⟩ := (h r List.mem_cons_self).key
    obtain ⟨ks, g1, g2, g3⟩ := Rl.keys fun x hx => h x (List.mem_cons_of_mem _ hx)
    refine ⟨k :: ks, by simp only [nkeys, h1, g1], fun x hx => ?_, fun x hx => ?_⟩
    · rcases List.mem_cons.mp hx with rfl | hx
      · exact h2
      · exact g2 x hx
    · rcases List.mem_cons.mp hx with rfl | hx
      · rw [h3]; exact h r List.mem_cons_self
      · exact g3 x hx
/-- an office as it is drawn -/
def Off (d : D) : Prop := ∃ (m s : Int) (rs : List D) (ks : List NestedKey), d = .tup [.int m, .int s, .tup rs] ∧ (1 ≤ m ∧ m ≤ 5) ∧ (1 ≤ s ∧ s ≤ 6) ∧ rs.length ≤ 60 ∧ (∀ r ∈ rs, Rl m s r) ∧ nkeys rs = some ks ∧ adjK ks = true ∧ ∀ k ∈ ks, RK k
theorem Off.is {d : D} (h : Off d) : isOff d = true := by
  obtain ⟨m, s, rs, ks, rfl, hm, hs, hl, hr, hk, ha, rk⟩ := h
  have e0 : inR (.int m) 1 5 = true := inR_of hm.1 hm.2
  have e1 : inR (.int s) 1 6 = true := inR_of hs.1 hs.2
  have e5 : bnd 0 (.tup rs) 60 = true := by
    show (true && (decide ((0 : Int) ≤ (rs.length : Nat)) && decide (((rs.length : Nat) : Int) ≤ 60))) = true
    rw [Bool.true_and, Bool.and_eq_true, decide_eq_true_eq, decide_eq_true_eq]
    omega
  have e4 : bnd 3 (.tup [.int m, .int s, .tup rs]) 3 = true := rfl
  have e6 : rs.all (isRule m s) = true := List.all_eq_true.mpr fun r h => (hr r h).rule
  have e7 : ris rs = true := by unfold ris; rw [hk]; exact ha
  unfold isOff
  rw [e4]
  show (!(!true || !inR (.int m) 1 5) && (!(!inR (.int s) 1 6 || !bnd 0 (.tup rs) 60) && (rs.all (isRule m s) && ris rs))) = true
  rw [e0, e1, e5, e6, e7]
  rfl
theorem Off.ofv {d : D} (h : Off d) : Rf.ofv 4 d = true ∧ ∀ S, ∃ w, gd 6 S d = some w ∧ w ≤ 30000 := by
  obtain ⟨m, s, rs, ks, rfl, hm, hs, hl, hr, hk, ha, rk⟩ := h
  constructor
  · have : rs.all (Rf.ofv 2) = true := List.all_eq_true.mpr fun r h => ((hr r h).ofv (by omega) (by omega)).1
    simp only [Rf.ofv, List.all_cons, List.all_nil, Bool.and_true, Bool.and_eq_true, decide_eq_true_eq]
    refine ⟨by omega, by omega, ?_⟩
    exact this
  · intro S
    obtain ⟨w, h1, h2⟩ := gds_bound (n := 4) (S := S) (w := 400) (ds := rs) fun d hd => ((hr d hd).ofv (by omega) (by omega)).2 S
    refine ⟨_, gd_tup (gds_cons (gd_int' (by omega)) (gds_cons (gd_int' (by omega)) (gds_cons (gd_tup h1) gds_nil))), ?_⟩
    have : rs.length * 401 ≤ 60 * 401 := Nat.mul_le_mul_right _ hl
    omega
end
end Rf.L33
end

section
set_option Elab.async false
set_option linter.all false
set_option maxRecDepth 100000
set_option maxHeartbeats 4000000
namespace Rf.L33
open PySem PySem.Spec PyProof.Rows L2 Rf
noncomputable section
theorem c14 (k : Nat) (a b c d : D) (S : Sto) : C (k + 1) 21 [a, b, c, d] S = endD S.length (m_law_office (cm k) [some a, some b, some c, some d, none, none, none, none, none, none] S) := rfl
theorem nkeys_ok {m s : Int} {rs : List D} (h : ∀ r ∈ rs, Rl m s r) (hl : rs.length ≤ 60) : ∃ es ks, setSort rs = some es ∧ es.length ≤ 60 ∧ (∀ r ∈ es, Rl m s r) ∧ nkeys es = some ks ∧ adjK ks = true ∧ ∀ k ∈ ks, RK k := by
  obtain ⟨ks, g1, g2, g3⟩ := Rl.keys h
  have mm : ∀ k ∈ sortK (dedupK ks), k ∈ ks := fun k hk => sort_mem.mp hk
  refine ⟨_, sortK (dedupK ks), set_sorted g1 g2 (by omega), ?_, fun r hr => ?_, items_keys _ fun k hk => noTxts_mem (nkeys_txt g1) k (mm k hk), sorted_adj fun a ha b hb => (g2 a ha).alike (g2 b hb), fun k hk => g2 k (mm k hk)⟩
  · rw [List.length_map]
    unfold sortK
    rw [List.length_mergeSort]
    have := dedup_len ks
    rw [nkeys_len g1] at this
    omega
  · obtain ⟨k, hk, rfl⟩ := List.mem_map.mp hr
    exact g3 k (mm k hk)
theorem ints_of {s : Int} : ∀ {ys : List D}, (∀ y ∈ ys, ∃ n : Int, y = .int n ∧ 0 ≤ n ∧ n < s) → ∃ ns : List Int, ys = ns.map .int ∧ ∀ n ∈ ns, 0 ≤ n ∧ n < s
  | [], _ => ⟨[], rfl, by simp⟩
  | y :: ys, h => by
    obtain ⟨n, rfl, hn⟩ := h y List.mem_cons_self
    obtain ⟨ns, rfl, h2⟩ := ints_of fun x hx => h x (List.mem_cons_of_mem _ hx)
    refine ⟨n :: ns, rfl, fun x hx => ?_⟩
    rcases List.mem_cons.mp hx with rfl | hx
    · exact hn
    · exact h2 x hx
/-- one drawn rule's end -/
theorem put_ (k : Nat) {p : Nat} {N s : Int} {S : Sto} {ρ : Ev} (h0 : ρ[0]? = some (some (.ref p))) (h5 : ρ[5]? = some (some (.int s))) (hρ : ρ.length = 10) (w : Wf S) (hp : Pt S p N) (hN : N + 3 < 2 ^ 20) (hs : 1 ≤ s ∧ s ≤ 6) :
    ∃ (ns : List Int) (S' : Sto), mLi tupleL (lComp (iRg1 (aCons (mCall 16 (aCons (mVar 0) (aCons (mNew (lLst (aCons (mLit (.int 0)) (aCons (mLit (.int 0)) (aCons (mLit (.int 1)) (aCons (mLit (.int 1)) (aCons (mLit (.int 2)) (aCons (mLit (.int 2)) (aNil))))))))) (aNil)))) (aNil))) [9] (.nm 9) (tYesD) (mCall 15 (aCons (mVar 0) (aCons (mVar 5) (aNil))))) (cm (k + 2)) ρ S = .ok (.tup (ns.map .int)) S' ∧
      ns.length ≤ 2 ∧ (∀ n ∈ ns, 0 ≤ n ∧ n < s) ∧ Ch S S' p ∧ Pt S' p (N + 3) := by
  have hps := hp.lt
  have hnew : ∀ {T : Sto}, mNew (lLst (aCons (mLit (.int 0)) (aCons (mLit (.int 0)) (aCons (mLit (.int 1)) (aCons (mLit (.int 1)) (aCons (mLit (.int 2)) (aCons (mLit (.int 2)) (aNil)))))))) (cm (k + 2)) ρ T = .ok (.ref T.length) (T ++ [.lst [.int 0, .int 0, .int 1, .int 1, .int 2, .int 2]]) :=
    v_new (l_lst (a_cons v_lit (a_cons v_lit (a_cons v_lit (a_cons v_lit (a_cons v_lit (a_cons v_lit a_nil)))))) (sz (by simp))) (sz (by simp))
  have cT : Ch S (S ++ [.lst [.int 0, .int 0, .int 1, .int 1, .int 2, .int 2]]) p := Ch.add w rfl
  obtain ⟨d, S1, e1, hd, c1, l1, hp1⟩ := of_ k (l := S.length) (xs := [.int 0, .int 0, .int 1, .int 1, .int 2, .int 2]) cT.wf (hp.add _) (by omega) (by simp) (by simp) (by simp) (by omega)
  obtain ⟨j, rfl, hj⟩ : ∃ j : Int, d = .int j ∧ 0 ≤ j ∧ j ≤ 2 := by
    simp only [List.mem_cons, List.not_mem_nil, or_false] at hd
    rcases hd with rfl | rfl | rfl | rfl | rfl | rfl <;> exact ⟨_, rfl, by decide, by decide⟩
  have hw : (wipeD ρ [9])[0]? = some (some (.ref p)) ∧ (wipeD ρ [9])[5]? = some (some (.int s)) ∧ (wipeD ρ [9]).length = 10 := by
    have : wipeD ρ [9] = ρ.set 9 none := rfl
    rw [this]
    refine ⟨by rw [List.getElem?_set_ne (by decide)]; exact h0, by rw [List.getElem?_set_ne (by decide)]; exact h5, by rw [List.length_set]; exact hρ⟩
  have c2 := cT.trans c1
  obtain ⟨ys, S', e, a1, a2, a3⟩ := compC_run (own := [9]) (t := .nm 9) (te := mCall 15 (aCons (mVar 0) (aCons (mVar 5) (aNil)))) (c := cm (k + 2)) (ρ := ρ) (P := fun d => ∃ n : Int, d = .int n ∧ 0 ≤ n ∧ n < s) (I := fun n T => Ch S T p ∧ Pt T p (N + 1 + n)) 2 (rangeD 0 j) [] 0 S1 (by rw [rg_len]; exact sz (by simp; omega)) (by rw [rg_len]; omega)
    (fun d hd n T hn hI => by
      obtain ⟨c, q⟩ := hI
      obtain ⟨i, T', e, b1, b2, c3, l3, q3⟩ := take (k + 1) (u := s) c.wf q (by omega) ⟨by omega, by omega⟩
      exact ⟨(wipeD ρ [9]).set 9 (some d), .int i, T', rfl, v_call (a_cons (v_var (by rw [List.getElem?_set_ne (by decide)]; exact hw.1)) (a_cons (v_var (by rw [List.getElem?_set_ne (by decide)]; exact hw.2.1)) a_nil)) e, ⟨i, rfl, b1, b2⟩, c.trans c3, q3.mono (by omega)⟩)
    ⟨c2, hp1.mono (by omega)⟩
  obtain ⟨ns, rfl, hns⟩ := ints_of a2
  rw [rg_len] at a1 a3
  refine ⟨ns, S', v_li ((comp_rg (a_cons (v_call (a_cons (v_var h0) (a_cons hnew a_nil)) e1) a_nil) ?_).trans e) ?_, by rw [List.length_map] at a1; omega, hns, a3.1, a3.2.mono (by omega)⟩
  · unfold small
    rw [Bool.and_eq_true, decide_eq_true_eq, decide_eq_true_eq]
    omega
  · show (if ((([] : List D) ++ ns.map D.int).length) ≤ sizeLine then _ else _) = _
    rw [if_pos (sz (by rw [List.nil_append, a1]; omega))]
    rfl
end
end Rf.L33
end

section
set_option Elab.async false
set_option linter.all false
set_option maxRecDepth 100000
set_option maxHeartbeats 4000000
namespace Rf.L33
open PySem PySem.Spec PyProof.Rows L2 Rf
noncomputable section
theorem v_app {c : Cm} {ρ : Ev} {S S1 : Sto} {a : M D} {m : M (List D)} {f : Nat} {xs ys : List D} {y : D} (h1 : a c ρ S = .ok (.ref f) S) (hf : S[f]? = some (.lst ys)) (h2 : m c ρ S = .ok [y] S1) (hf1 : S1[f]? = some (.lst xs)) (hl : xs.length < sizeLine) :
    mMet "list" appD a m c ρ S = .ok .non (S1.set f (.lst (xs ++ [y]))) := by
  have t : isTy "list" (.ref f) S = true := by simp only [isTy, hf]; rfl
  simp only [mMet, M.bind, h1, Res.bind, if_pos t, h2, appD, hf1, if_pos hl]
theorem blw_rl {n : Nat} {m s : Int} {rs : List D} (h : ∀ r ∈ rs, Rl m s r) (hm : m ≤ 6) (hs : s ≤ 6) : D.blws n rs = true := blws_iff.mpr fun r hr => ofv_blw ((h r hr).ofv hm hs).1
theorem s14 (k : Nat) {p : Nat} {N mA sA rA : Int} {S : Sto} (hm : 1 ≤ mA ∧ mA ≤ 5) (hs : 1 ≤ sA ∧ sA ≤ 6) (hr : 0 ≤ rA ∧ rA ≤ 60) (w : Wf S) (hp : Pt S p N) (hN : N + 1000 < 2 ^ 20) :
    ∃ d S', C (k + 3) 21 [.ref p, .int mA, .int sA, .int rA] S = .ok d S' ∧ Off d ∧ Ch S S' p ∧ Pt S' p (N + 500) := by
  have hps := hp.lt
  obtain ⟨m, S1, e1, m1, m2, c1, l1, hp1⟩ := take (k + 1) (u := mA) w hp (by omega) (by omega)
  obtain ⟨s, S2, e2, s1, s2, c2, l2, hp2⟩ := take (k + 1) (u := sA) c1.wf hp1 (by omega) (by omega)
  have c3 : Ch S2 (S2 ++ [.lst []]) p := Ch.add c2.wf rfl
  obtain ⟨q, S4, e4, q1, q2, c4, l4, hp4⟩ := take (k + 1) (u := rA + 1) c3.wf (hp2.add _) (by omega) (by omega)
  have hf4 : S4[S2.length]? = some (.lst []) := (c4.oth _ (by simp) (by omega)).trans (by simp)
  have C04 := ((c1.trans c2).trans c3).trans c4
  let I : Nat → Ev → Sto → Prop := fun n ρ T => ∃ (x7 x8 : Option D) (xs : List D), ρ = [some (.ref p), some (.int mA), some (.int sA), some (.int rA), some (.int (1 + m)), some (.int (1 + s)), some (.ref S2.length), x7, x8, none] ∧ T[S2.length]? = some (.lst xs) ∧ xs.length = n ∧ (∀ r ∈ xs, Rl (1 + m) (1 + s) r) ∧ Ch S T p ∧ Pt T p (N + 3 + 6 * n)
  have i0 : I 0 [some (.ref p), some (.int mA), some (.int sA), some (.int rA), some (.int (1 + m)), some (.int (1 + s)), some (.ref S2.length), none, none, none] S4 := ⟨none, none, [], rfl, hf4, rfl, by simp, C04, hp4.mono (by omega)⟩
  obtain ⟨ρ', S5, e5, x7, x8, xs, rfl, h1, h2, h3, h4, h5⟩ := forL_run (I := I) (t := .nm 7) (c := cm (k + 2)) (body := sSeq (sAsg (.nm 8) (mLi tupleL (lComp (iRg1 (aCons (mCall 16 (aCons (mVar 0) (aCons (mNew (lLst (aCons (mLit (.int 0)) (aCons (mLit (.int 0)) (aCons (mLit (.int 1)) (aCons (mLit (.int 1)) (aCons (mLit (.int 2)) (aCons (mLit (.int 2)) (aNil))))))))) (aNil)))) (aNil))) [9] (.nm 9) (tYesD) (mCall 15 (aCons (mVar 0) (aCons (mVar 5) (aNil))))))) (sDrop (mMet "list" appD (mVar 6) (aCons (mTup (aCons (mCall 15 (aCons (mVar 0) (aCons (mVar 4) (aNil)))) (aCons (mCall 15 (aCons (mVar 0) (aCons (mVar 5) (aNil)))) (aCons (mCall 15 (aCons (mVar 0) (aCons (mVar 4) (aNil)))) (aCons (mVar 8) (aNil)))))) (aNil))))) 60 (rangeD 0 q) 0 _ S4 (by rw [rg_len]; omega)
    (fun d hd n ρ T hn hI => by
      obtain ⟨x7, x8, xs, rfl, a1, a2, a3, a4, a5⟩ := hI
      obtain ⟨ns, T1, r1, r2, r3, r4, r5⟩ := put_ k (ρ := [some (.ref p), some (.int mA), some (.int sA), some (.int rA), some (.int (1 + m)), some (.int (1 + s)), some (.ref S2.length), some d, x8, none]) (s := 1 + s) rfl rfl rfl a4.wf a5 (by omega) (by omega)
      obtain ⟨i1, T2, f1, u1, v1, g1, _, b1⟩ := take (k + 1) (u := 1 + m) r4.wf r5 (by omega) ⟨by omega, by omega⟩
      obtain ⟨i2, T3, f2, u2, v2, g2, _, b2⟩ := take (k + 1) (u := 1 + s) g1.wf b1 (by omega) ⟨by omega, by omega⟩
      obtain ⟨i3, T4, f3, u3, v3, g3, _, b3⟩ := take (k + 1) (u := 1 + m) g2.wf b2 (by omega) ⟨by omega, by omega⟩
      have hfT : S2.length < T.length := (List.getElem?_eq_some_iff.mp a1).1
      have gg := ((r4.trans g1).trans g2).trans g3
      have hT4 : T4[S2.length]? = some (.lst xs) := (gg.oth _ hfT (by have := c1.len; have := c2.len; omega)).trans a1
      have hlt : S2.length < T4.length := (List.getElem?_eq_some_iff.mp hT4).1
      have new : Rl (1 + m) (1 + s) (.tup [.int i1, .int i2, .int i3, .tup (ns.map .int)]) := ⟨i1, i2, i3, ns, rfl, r2, ⟨u1, v1⟩, ⟨u2, v2⟩, ⟨u3, v3⟩, r3⟩
      have all : ∀ r ∈ xs ++ [.tup [.int i1, .int i2, .int i3, .tup (ns.map .int)]], Rl (1 + m) (1 + s) r := fun r hr => by
        rcases List.mem_append.mp hr with z | z
        · exact a3 r z
        · rw [List.mem_singleton.mp z]; exact new
      have hT1 : T1[S2.length]? = some (.lst xs) := (r4.oth _ hfT (by have := c1.len; have := c2.len; omega)).trans a1
      have aa := v_app (c := cm (k + 2)) (ρ := [some (.ref p), some (.int mA), some (.int sA), some (.int rA), some (.int (1 + m)), some (.int (1 + s)), some (.ref S2.length), some d, some (.tup (ns.map .int)), none]) (a := mVar 6) (m := aCons (mTup (aCons (mCall 15 (aCons (mVar 0) (aCons (mVar 4) (aNil)))) (aCons (mCall 15 (aCons (mVar 0) (aCons (mVar 5) (aNil)))) (aCons (mCall 15 (aCons (mVar 0) (aCons (mVar 4) (aNil)))) (aCons (mVar 8) (aNil)))))) (aNil))
        (v_var rfl) hT1 (a_cons (v_tup (a_cons (v_call (a_cons (v_var rfl) (a_cons (v_var rfl) a_nil)) f1) (a_cons (v_call (a_cons (v_var rfl) (a_cons (v_var rfl) a_nil)) f2) (a_cons (v_call (a_cons (v_var rfl) (a_cons (v_var rfl) a_nil)) f3) (a_cons (v_var rfl) a_nil)))) (sz (by simp))) a_nil) hT4 (by rw [sizeLine_eq]; omega)
      refine ⟨[some (.ref p), some (.int mA), some (.int sA), some (.int rA), some (.int (1 + m)), some (.int (1 + s)), some (.ref S2.length), some d, x8, none], [some (.ref p), some (.int mA), some (.int sA), some (.int rA), some (.int (1 + m)), some (.int (1 + s)), some (.ref S2.length), some d, some (.tup (ns.map .int)), none], T4.set S2.length (.lst (xs ++ [.tup [.int i1, .int i2, .int i3, .tup (ns.map .int)]])), rfl, s_nx (ρ1 := [some (.ref p), some (.int mA), some (.int sA), some (.int rA), some (.int (1 + m)), some (.int (1 + s)), some (.ref S2.length), some d, some (.tup (ns.map .int)), none]) (s_asg r1 rfl) (s_drop aa), some d, some (.tup (ns.map .int)), _, rfl, List.getElem?_set_self hlt, by simp [a2], all, ?_, ?_⟩
      · have ag := a4.trans gg
        refine ⟨gg.wf.set (blw_rl all (by omega) (by omega)), by rw [List.length_set]; exact ag.len, fun j h1 h2 => ?_⟩
        rw [List.getElem?_set_ne (by have := c1.len; have := c2.len; omega)]
        exact ag.oth j h1 h2
      · obtain ⟨x, y, z, h1, hh⟩ := b3
        refine Pt.mono (N := N + 3 + 6 * n + 3 + 1 + 1 + 1) ⟨x, y, z, ?_, hh⟩ (by push_cast; omega)
        rw [List.getElem?_set_ne (by have := c1.len; have := c2.len; omega)]
        exact h1) i0
  rw [rg_len] at h2 h5
  obtain ⟨es, ks, g1, g2, g3, g4, g5, g6⟩ := nkeys_ok h3 (by omega)
  have off : Off (.tup [.int (1 + m), .int (1 + s), .tup es]) := ⟨1 + m, 1 + s, es, ks, rfl, by omega, by omega, g2, g3, g4, g5, g6⟩
  have l4 : lSset (mVar 6) (cm (k + 2)) [some (.ref p), some (.int mA), some (.int sA), some (.int rA), some (.int (1 + m)), some (.int (1 + s)), some (.ref S2.length), x7, x8, none] S5 = .ok es S5 := by
    have e : mVar 6 (cm (k + 2)) [some (.ref p), some (.int mA), some (.int sA), some (.int rA), some (.int (1 + m)), some (.int (1 + s)), some (.ref S2.length), x7, x8, none] S5 = .ok (.ref S2.length) S5 := v_var rfl
    simp only [lSset, M.bind, e, Res.bind, itemsOf, h1, g1]
  have tl : tupleL es S5 = .ok (.tup es) S5 := if_pos (sz (by omega))
  have hsm : small q = true := by
    unfold small
    rw [Bool.and_eq_true, decide_eq_true_eq, decide_eq_true_eq]
    omega
  have hnil : mNew (lLst aNil) (cm (k + 2)) [some (.ref p), some (.int mA), some (.int sA), some (.int rA), none, none, none, none, none, none] S2 = .ok (.ref S2.length) (S2 ++ [.lst []]) := v_new (l_lst a_nil (sz (by simp))) (sz (by simp))
  have body : m_law_office (cm (k + 2)) [some (.ref p), some (.int mA), some (.int sA), some (.int rA), none, none, none, none, none, none] S = .ok (.rt (.tup [.int (1 + m), .int (1 + s), .tup es])) S5 := by
    refine s_nx (S1 := S2 ++ [.lst []]) (ρ1 := [some (.ref p), some (.int mA), some (.int sA), some (.int rA), some (.int (1 + m)), some (.int (1 + s)), some (.ref S2.length), none, none, none]) (s_asg (v_tup (a_cons (v_op v_lit (v_call (a_cons (v_var rfl) (a_cons (v_var rfl) a_nil)) e1) rfl) (a_cons (v_op v_lit (v_call (a_cons (v_var rfl) (a_cons (v_var rfl) a_nil)) e2) rfl) (a_cons hnil a_nil))) (sz (by simp))) rfl) ?_
    refine s_nx ((for_rg (a_cons (v_call (a_cons (v_var rfl) (a_cons (v_op (v_var rfl) v_lit rfl) a_nil)) e4) a_nil) hsm).trans e5) ?_
    exact s_ret (v_tup (a_cons (v_var rfl) (a_cons (v_var rfl) (a_cons (v_li l4 tl) a_nil))) (sz (by simp)))
  rw [c14, body]
  obtain ⟨w4, hw4, _⟩ := off.ofv.2 S5
  obtain ⟨S6, r1, r2, r3, r4, r5⟩ := end_gd (m := 6) h4 h5 hps (ofv_blw off.ofv.1) hw4
  exact ⟨_, S6, r1, off, r2, r3.mono (by omega)⟩
end
end Rf.L33
end

section
set_option Elab.async false
set_option linter.all false
set_option maxRecDepth 100000
set_option maxHeartbeats 4000000
namespace Rf
open PySem PySem.Spec PyProof.Rows L2
theorem enum_range : ∀ (xs : List D) (n : Nat), enumD n xs = (List.range xs.length).map fun i => .tup [.int ((n + i : Nat) : Int), xs.getD i .non]
  | [], n => rfl
  | x :: xs, n => by
    rw [enumD, enum_range xs (n + 1), List.length_cons, List.range_succ_eq_map, List.map_cons, List.map_map]
    congr 1
    refine List.map_congr_left fun i _ => ?_
    show D.tup [.int ((n + 1 + i : Nat) : Int), xs.getD i .non] = D.tup [.int ((n + (i + 1) : Nat) : Int), (x :: xs).getD (i + 1) .non]
    rw [show n + 1 + i = n + (i + 1) by omega]
    rfl
theorem range_range (n : Nat) : rangeD 0 (n : Int) = (List.range n).map fun i => .int (i : Int) := by
  unfold rangeD
  rw [show ((n : Int) - 0).toNat = n by omega]
  exact List.map_congr_left fun i _ => by rw [Int.zero_add]
end Rf
end

section
set_option Elab.async false
set_option linter.all false
set_option maxRecDepth 100000
set_option maxHeartbeats 4000000
namespace Rf
open PySem PySem.Spec PyProof.Rows L2
theorem lt_int2 {i j : Int} {S : Sto} : ltD (.int i) (.int j) S = .ok (.bl (decide (i < j))) S := by
  have q : ∀ i : Int, toQ 30 S (.int i) = some (.int i) := fun _ => rfl
  unfold ltD
  rw [q, q]
  dsimp only
  rw [if_pos ⟨rfl, rfl, by simp [PyData.depth]⟩, PySem.W.dataLt_int]
theorem pow_ok {i : Int} {n : Nat} {S : Sto} (h : i.natAbs.log2 < 1000) (hn : n ≤ 100) : powD (.int i) (.int (n : Int)) S = .ok (.int (i ^ n)) S := by
  have e : powD (.int i) (.int (n : Int)) S = if 0 ≤ (n : Int) ∧ (Builtin.Int.intBits i : Int) * n ≤ 2 ^ 27 then Res.ok (.int (i ^ (n : Int).toNat)) S else .bad := rfl
  rw [e, if_pos]
  · rw [Int.toNat_natCast]
  have b : Builtin.Int.intBits i ≤ 1000 := by
    unfold Builtin.Int.intBits
    split <;> omega
  refine ⟨Int.natCast_nonneg _, ?_⟩
  have : Builtin.Int.intBits i * n ≤ 1000 * 100 := Nat.mul_le_mul b hn
  have e27 : (2 : Int) ^ 27 = 134217728 := by decide
  omega
theorem big_mod : ∃ M : Int, 0 < M ∧ ∀ c ρ S, mOp powD (mOp powD (mLit (.int 10)) (mLit (.int 60))) (mLit (.int 5)) c ρ S = .ok (.int M) S := by
  refine ⟨((10 : Int) ^ 60) ^ 5, Int.pow_pos (Int.pow_pos (by decide)), fun c ρ S => ?_⟩
  exact v_op (v_op v_lit v_lit (pow_ok (n := 60) (by decide) (by decide))) v_lit (pow_ok (n := 5) (by
    have : ((10 : Int) ^ 60).natAbs = 10 ^ 60 := by decide
    rw [this]
    decide) (by decide))
theorem pow18 : ∃ M : Int, ∀ c ρ S, mOp powD (mLit (.int 10)) (mLit (.int 18)) c ρ S = .ok (.int M) S := ⟨_, fun c ρ S => v_op v_lit v_lit (pow_ok (n := 18) (by decide) (by decide))⟩
end Rf
namespace Rf.L33
open PySem PySem.Spec PyProof.Rows L2 Rf
noncomputable section
theorem c7 (k : Nat) (a b : D) (S : Sto) : C (k + 1) 14 [a, b] S = endD S.length (m_law_pot (cm k) [some a, some b, none, none, none] S) := rfl
theorem ints_map : ∀ ns : List Int, intsOf (ns.map .int) = some ns
  | [] => rfl
  | n :: ns => by simp only [List.map_cons, intsOf, ints_map ns, Option.map]
/-- the cell's number -/
theorem cell_ (k : Nat) {ns : List Int} {n : Nat} {S : Sto} (hn : n ≤ 1000) : ∃ (v : Int) (G : List O), (∀ o ∈ G, ∃ l : List Int, o = .lst (l.map .int)) ∧ mIf (tBoo (mOp ltD (mVar 1) (mBi lenD (aCons (mVar 0) (aNil))))) (mOp idxD (mVar 0) (mVar 1)) (mOp addD (mOp addD (mOp modD (mBi (onList sumOf) (aCons (mSl (mVar 0) none (some (mLit (.int 1)))) (aNil))) (mLit (.int 1000003))) (mOp mulD (mLit (.int 7387)) (mVar 1))) (mLit (.int 464))) (cm k) [some (.rol ns), some (.int (n : Int)), none, none, none] S = .ok (.int v) (S ++ G) := by
  have t : tBoo (mOp ltD (mVar 1) (mBi lenD (aCons (mVar 0) (aNil)))) (cm k) [some (.rol ns), some (.int (n : Int)), none, none, none] S = .ok (decide ((n : Int) < ns.length)) S := t_boo (v_op (v_var rfl) (v_bi (a_cons (v_var rfl) a_nil) rfl) lt_int2)
  by_cases h : n < ns.length
  · rw [decide_eq_true (by omega)] at t
    refine ⟨ns[n], [], by simp, ?_⟩
    rw [List.append_nil]
    refine v_if (k := true) t (fun _ => v_op (v_var rfl) (v_var rfl) ?_) (fun z => by cases z)
    have : atI ns (n : Int) = some ns[n] := by
      have ix : ixN ns.length (n : Int) = some n := by unfold ixN; simp [h]
      simp [atI, ix, h]
    show (match atI ns (n : Int) with | some n => Res.ok (D.int n) S | none => .bad) = _
    rw [this]
  · rw [decide_eq_false (by omega)] at t
    refine ⟨(cutI ns none (some 1)).sum % 1000003 + 7387 * n + 464, [.lst ((cutI ns none (some 1)).map .int)], fun o ho => ⟨_, List.mem_singleton.mp ho⟩, ?_⟩
    have sl : mSl (mVar 0) none (some (mLit (.int 1))) (cm k) [some (.rol ns), some (.int (n : Int)), none, none, none] S = .ok (.ref S.length) (S ++ [.lst ((cutI ns none (some 1)).map .int)]) := v_slt (v_var rfl) v_lit rfl
    have su : onList sumOf [.ref S.length] (S ++ [.lst ((cutI ns none (some 1)).map .int)]) = .ok (.int (cutI ns none (some 1)).sum) (S ++ [.lst ((cutI ns none (some 1)).map .int)]) := by
      have : (S ++ [O.lst ((cutI ns none (some 1)).map .int)])[S.length]? = some (.lst ((cutI ns none (some 1)).map .int)) := by simp
      simp only [onList, this, sumOf, ints_map]
    refine v_if (k := false) t (fun z => by cases z) (fun _ => ?_)
    exact v_op (v_op (v_op (v_bi (a_cons sl a_nil) su) v_lit (mod_ok (by decide))) (v_op v_lit (v_var rfl) (mul_ok (by omega))) rfl) v_lit rfl
end
end Rf.L33
end

section
set_option Elab.async false
set_option linter.all false
set_option maxRecDepth 100000
set_option maxHeartbeats 4000000
namespace Rf.L33
open PySem PySem.Spec PyProof.Rows L2 Rf
noncomputable section
theorem end_ref {n q : Nat} {S : Sto} (h : n ≤ q) : endD n (.ok (.rt (.ref q)) S) = .ok (.ref q) S := by
  show trimD n (.ref q) S = _
  unfold trimD
  refine if_neg ?_
  rintro ⟨h1, _⟩
  simp only [D.blw, decide_eq_true_eq] at h1
  omega
theorem s7 (k : Nat) {ns : List Int} {n : Nat} {S : Sto} (w : Wf S) (hn : n ≤ 1000) : ∃ q S', C (k + 1) 14 [.rol ns, .int (n : Int)] S = .ok (.ref q) S' ∧ Pt S' q 0 ∧ S.length ≤ q ∧ Wf S' ∧ S.length ≤ S'.length ∧ ∀ j, j < S.length → S'[j]? = S[j]? := by
  obtain ⟨v, G, hG, e1⟩ := cell_ k (ns := ns) (S := S) hn
  obtain ⟨M, hM, e2⟩ := big_mod
  obtain ⟨B, e3⟩ := pow18
  obtain ⟨A, hA, eA⟩ : ∃ A : Int, 0 ≤ A ∧ ∀ T, absD [.int v] T = .ok (.int A) T := ⟨if v < 0 then -v else v, by split <;> omega, fun T => rfl⟩
  obtain ⟨b, hb, eb⟩ : ∃ b : Int, (0 ≤ b ∧ b ≤ 1) ∧ ∀ T, intD [.bl (decide (B ≤ A))] T = .ok (.int b) T := ⟨if decide (B ≤ A) = true then 1 else 0, by split <;> omega, fun T => rfl⟩
  have am : 0 ≤ A % M := Int.emod_nonneg _ (by omega)
  have own : 0 ≤ A % M * b := Int.mul_nonneg am hb.1
  let seed : Int := (v % 2305843009213693951 * 95137 + 11855 * n * n + 871) % 2305843009213693921
  have hseed : 0 ≤ seed ∧ seed < 2 ^ 62 := by
    have h1 : 0 ≤ seed := Int.emod_nonneg _ (by decide)
    have h2 : seed < 2305843009213693921 := Int.emod_lt_of_pos _ (by decide)
    have e62 : (2 : Int) ^ 62 = 4611686018427387904 := by decide
    omega
  have wG : Wf (S ++ G) := fun o ho => by
    rcases List.mem_append.mp ho with z | z
    · exact O.blw_mono (by simp) o (w o z)
    · obtain ⟨l, rfl⟩ := hG o z
      exact blw_ints _ l
  have b1 : sAsg (.nm 3) (mOp mulD (mOp modD (mBi intD (aCons (mBi absD (aCons (mVar 2) (aNil))) (aNil))) (mOp powD (mOp powD (mLit (.int 10)) (mLit (.int 60))) (mLit (.int 5)))) (mBi intD (aCons (mOp (cmpI fun i j => decide (j ≤ i)) (mBi absD (aCons (mVar 2) (aNil))) (mOp powD (mLit (.int 10)) (mLit (.int 18)))) (aNil)))) (cm k) [some (.rol ns), some (.int (n : Int)), some (.int v), none, none] (S ++ G) = .ok (.nx [some (.rol ns), some (.int (n : Int)), some (.int v), some (.int (A % M * b)), none]) (S ++ G) :=
    s_asg (v_op (v_op (v_bi (a_cons (v_bi (a_cons (v_var rfl) a_nil) (eA _)) a_nil) rfl) (e2 _ _ _) (mod_ok hM)) (v_bi (a_cons (v_op (v_bi (a_cons (v_var rfl) a_nil) (eA _)) (e3 _ _ _) rfl) a_nil) (eb _)) (mul_ok (by omega))) rfl
  have b2 : sAsg (.nm 4) (mOp modD (mBi intD (aCons (mVar 2) (aNil))) (mLit (.int 2305843009213693951))) (cm k) [some (.rol ns), some (.int (n : Int)), some (.int v), some (.int (A % M * b)), none] (S ++ G) = .ok (.nx [some (.rol ns), some (.int (n : Int)), some (.int v), some (.int (A % M * b)), some (.int (v % 2305843009213693951))]) (S ++ G) :=
    s_asg (v_op (v_bi (a_cons (v_var rfl) a_nil) rfl) v_lit (mod_ok (by decide))) rfl
  have body : m_law_pot (cm k) [some (.rol ns), some (.int (n : Int)), none, none, none] S = .ok (.rt (.ref (S ++ G).length)) ((S ++ G) ++ [.lst [.int (A % M * b), .int seed, .int 0]]) := by
    refine s_nx (s_asg e1 rfl) (s_nx b1 (s_nx b2 (s_ret (v_new (l_lst (a_cons (v_var rfl) (a_cons (v_op (v_bi (a_cons (v_op (v_op (v_op (v_var rfl) v_lit (mul_ok (by decide))) (v_op (v_op v_lit (v_var rfl) (mul_ok (by omega))) (v_var rfl) (mul_ok (by omega))) rfl) v_lit rfl) a_nil) rfl) v_lit (mod_ok (by decide))) (a_cons v_lit a_nil))) (sz (by simp))) (sz (by simp))))))
  rw [c7, body]
  refine ⟨(S ++ G).length, (S ++ G) ++ [.lst [.int (A % M * b), .int seed, .int 0]], ?_, ⟨A % M * b, seed, 0, by simp, own, hseed, by decide, by decide⟩, by simp, wG.add rfl, by simp <;> omega, fun j hj => ?_⟩
  · exact end_ref (by simp)
  · rw [List.getElem?_append_left (by simp; omega), List.getElem?_append_left hj]
theorem c10 (k : Nat) (a b : D) (S : Sto) : C (k + 1) 17 [a, b] S = endD S.length (m_law_places (cm k) [some a, some b] S) := rfl
theorem s10 (k : Nat) {ns : List Int} {S : Sto} (w : Wf S) (h : ns.length ≤ 63) : ∃ n : Nat, n ≤ 4 ∧ C (k + 1) 17 [.rol ns, .int 4] S = .ok (.ref S.length) (S ++ [.lst (rangeD 0 (n : Int))]) := by
  obtain ⟨n, hn, en⟩ : ∃ n : Nat, n ≤ 4 ∧ mBi maxD (aCons (mLit (.int 1)) (aCons (mBi minD (aCons (mVar 1) (aCons (mBi lenD (aCons (mVar 0) (aNil))) (aNil)))) (aNil))) (cm k) [some (.rol ns), some (.int 4)] S = .ok (.int (n : Int)) S := by
    have e := v_bi (c := cm k) (ρ := [some (.rol ns), some (.int 4)]) (S := S) (f := maxD) (a_cons (v_lit (d := .int 1)) (a_cons (v_bi (f := minD) (a_cons (v_var (i := 1) rfl) (a_cons (v_bi (f := lenD) (a_cons (v_var (i := 0) rfl) a_nil) rfl) a_nil)) rfl) a_nil)) rfl
    refine ⟨(if (if (ns.length : Int) < 4 then (ns.length : Int) else 4) > 1 then (if (ns.length : Int) < 4 then (ns.length : Int) else 4) else 1).toNat, by split <;> split <;> omega, e.trans ?_⟩
    show Res.ok (D.int _) S = Res.ok (D.int _) S
    congr 2
    split <;> split <;> omega
  refine ⟨n, hn, ?_⟩
  have l : lRg1 (mBi maxD (aCons (mLit (.int 1)) (aCons (mBi minD (aCons (mVar 1) (aCons (mBi lenD (aCons (mVar 0) (aNil))) (aNil)))) (aNil)))) (cm k) [some (.rol ns), some (.int 4)] S = .ok (rangeD 0 (n : Int)) S := by
    have : rgOk 0 (n : Int) = true := by
      unfold rgOk small
      simp only [Bool.and_eq_true, decide_eq_true_eq]
      omega
    simp only [lRg1, M.bind, M.ret, en, Res.bind, if_pos this]
  have body : m_law_places (cm k) [some (.rol ns), some (.int 4)] S = .ok (.rt (.ref S.length)) (S ++ [.lst (rangeD 0 (n : Int))]) := s_ret (v_new l (sz (by rw [rg_len]; omega)))
  rw [c10, body]
  exact end_ref (Nat.le_refl _)
end
end Rf.L33
end

section
set_option Elab.async false
set_option linter.all false
set_option maxRecDepth 100000
set_option maxHeartbeats 4000000
namespace Rf.L33
open PySem PySem.Spec PyProof.Rows L2 Rf
noncomputable section
theorem Off.hk {d : D} (h : Off d) (S : Sto) : HK S d := by
  obtain ⟨w, h1, h2⟩ := h.ofv.2 S
  exact (show Good S d 30000 from ⟨6, w, by omega, h2, h1⟩).HK
theorem c6 (k : Nat) (a : D) (S : Sto) : C (k + 1) 6 [a] S = endD S.length (m_check_office (cm k) [some a] S) := rfl
theorem s6 (k : Nat) {d : D} {S : Sto} (w : Wf S) (h : Off d) : C (k + 5) 6 [d] S = .ok .non S := by
  apply ok_of
  rw [c6]
  unfold m_check_office
  simp only [w_var, vk_s, w_lit, w_op, w_un, w_new, w_nil, w_cons, w_starL, w_star, stk_s, w_tup, w_lst, w_call, w_bi, w_li, w_tru, trk_s, w_boo, bok_b, w_tan, ank_t, ank_f, w_tor, ork_f, ork_t, w_tno, w_tyes, w_man, mank_t, mank_f, w_mor, mok_f, mok_t, w_mno, w_mif, ifv_t, ifv_f, w_chain, chk_t, chk_f, w_optn, w_opts, opk_i, w_sl, w_met, metk_t, w_metl, w_snil, w_ret, w_retn, w_drop, w_if, ifk_t, ifk_f, w_asg, agk_nm, w_par2, w_par3, w_sub, w_seq, sk_nx, sk_rt, sk_bk, sk_ct, w_end, ek_rt, ek_nx, w_any, srk_s, w_inew, w_rg1, w_rg2, w_zip, w_enum, w_comp, w_for, List.getElem?_cons_zero, List.getElem?_cons_succ, List.set_cons_zero, List.set_cons_succ, wp_ok, truth, Bool.not_true, Bool.not_false, s5 k w (h.hk S), h.is]
  exact tk_self w rfl ⟨rfl, rfl⟩
end
end Rf.L33
end

section
set_option Elab.async false
set_option linter.all false
set_option maxRecDepth 100000
set_option maxHeartbeats 4000000
namespace Rf
open PySem PySem.Spec PyProof.Rows L2
theorem all_mapw {ds : List D} {f : D → Bool} {S : Sto} : allOf (ds.map fun d => .bl (f d)) S = .ok (.bl (ds.all f)) S := by
  simp only [allOf, boolsOf_map]
  rw [List.all_map]; rfl
theorem filter_yes {α : Type} (ds : List α) : ds.filter (fun _ => true) = ds := List.filter_eq_self.mpr fun _ _ => rfl
def adjI (ns : List Int) : Bool := (ns.zip (ns.drop 1)).all fun p => decide (p.1 < p.2)
theorem zip_ints : ∀ (as bs : List Int), zipD (as.map .int) (bs.map .int) = (as.zip bs).map fun p => .tup [.int p.1, .int p.2]
  | [], _ => by simp [zipD]
  | _ :: _, [] => by simp [zipD]
  | a :: as, b :: bs => by simp only [List.map_cons, zipD, List.zip_cons_cons, zip_ints as bs]
theorem cut_from1 {ds : List D} {S : Sto} : sliD (.tup ds) (some 1) none S = .ok (.tup (ds.drop 1)) S := by
  show Res.ok (D.tup (cutD ds (some 1) none)) S = _
  rw [cut_tail]
theorem shaped_int (i : Int) : SeqAt.shaped (.int i) = true := by unfold SeqAt.shaped; simp [PyData.canLay0, PyData.depth]
theorem idx_tup {ds : List D} {i : Nat} {d : D} {S : Sto} (h : ds[i]? = some d) : idxD (.tup ds) (.int (i : Int)) S = .ok d S := by
  have hi : i < ds.length := (List.getElem?_eq_some_iff.mp h).1
  show (match atI ds (i : Int) with | some d => Res.ok d S | none => .bad) = _
  rw [atI_get hi, List.getD_eq_getElem?_getD, h]; rfl
theorem idx0 {d : D} {r : List D} {S : Sto} : idxD (.tup (d :: r)) (.int 0) S = .ok d S := idx_tup (i := 0) rfl
theorem idx1 {d e : D} {r : List D} {S : Sto} : idxD (.tup (d :: e :: r)) (.int 1) S = .ok e S := idx_tup (i := 1) rfl
theorem idx2 {d e f : D} {r : List D} {S : Sto} : idxD (.tup (d :: e :: f :: r)) (.int 2) S = .ok f S := idx_tup (i := 2) rfl
theorem idx3 {d e f g : D} {r : List D} {S : Sto} : idxD (.tup (d :: e :: f :: g :: r)) (.int 3) S = .ok g S := idx_tup (i := 3) rfl
end Rf
namespace Rf.L33
open PySem PySem.Spec PyProof.Rows L2 Rf
noncomputable section
theorem kn_i {i : Int} {S : Sto} : Kn S (.int i) := ⟨_, rfl, by decide⟩
theorem kn_t {ds : List D} {S : Sto} : Kn S (.tup ds) := ⟨_, rfl, by decide⟩
theorem s3i (k : Nat) {ns : List Int} {S : Sto} (w : Wf S) (hl : ns.length ≤ 1000000) : C (k + 1) 3 [.tup (ns.map .int)] S = .ok (.bl (adjI ns)) S := by
  apply ok_of
  rw [c3]
  unfold m_is_rising
  simp only [w_var, vk_s, w_lit, w_op, w_un, w_new, w_nil, w_cons, w_starL, w_star, stk_s, w_tup, w_lst, w_call, w_bi, w_li, w_tru, trk_s, w_boo, bok_b, w_tan, ank_t, ank_f, w_tor, ork_f, ork_t, w_tno, w_tyes, w_man, mank_t, mank_f, w_mor, mok_f, mok_t, w_mno, w_mif, ifv_t, ifv_f, w_chain, chk_t, chk_f, w_optn, w_opts, opk_i, w_sl, w_met, metk_t, w_metl, w_snil, w_ret, w_retn, w_drop, w_if, ifk_t, ifk_f, w_asg, agk_nm, w_par2, w_par3, w_sub, w_seq, sk_nx, sk_rt, sk_bk, sk_ct, w_end, ek_rt, ek_nx, w_any, srk_s, w_inew, w_rg1, w_rg2, w_zip, w_enum, w_comp, w_for, List.getElem?_cons_zero, List.getElem?_cons_succ, List.set_cons_zero, List.set_cons_succ, wp_ok, truth, Bool.not_true, Bool.not_false, sizeLine_eq, List.length_cons, List.length_nil, Nat.reduceAdd, Nat.reduceLeDiff, true_and, cmpI, subD, negD, cut_from1]
  refine ⟨_, _, rfl, ?_⟩
  rw [List.map_drop.symm, zip_ints]
  refine wp_compP (fun _ => true) (fun d => .bl (match d with | .tup [.int a, .int b] => decide (a < b) | _ => false)) trivial (by rw [sizeLine_eq]; simp; omega) (fun d hd => ?_) ?_
  · obtain ⟨⟨a, b⟩, hp, rfl⟩ := List.mem_map.mp hd
    refine ⟨_, rfl, wp_of (a := true) (S := S) rfl ⟨rfl, rfl, fun _ => ?_⟩⟩
    show wp (ltD (.int a) (.int b) S) _ _
    rw [lt_int2]
    exact ⟨rfl, rfl⟩
  · rw [filter_yes, all_mapw]
    refine tk_self w rfl ⟨?_, rfl⟩
    rw [List.all_map]; rfl
/-- all ints within bounds -/
theorem all_in (k : Nat) {G : Sto → Prop} {j : Nat} {own : List Nat} {ds : List D} {lo hi : Int} {S : Sto} {ρ : Ev} {te : M D} {L : List D → Sto → Prop} (w : Wf S) (hG : G S) (hl : ds.length ≤ sizeLine) (hk : ∀ d ∈ ds, Kn S d)
    (he : ∀ d ρ1, Tg.put (.nm j) d (wipeD ρ own) = some ρ1 → te (cm (k + 2)) ρ1 S = C (k + 2) 2 [d, .int lo, .int hi] S) (q : L (ds.map fun d => .bl (inR d lo hi)) S) :
    wp (compL G own (.nm j) tYesD te ds [] (cm (k + 2)) ρ S) L noX := by
  refine wp_compP (fun _ => true) (fun d => .bl (inR d lo hi)) hG hl (fun d hd => ⟨_, rfl, wp_of (a := true) (S := S) rfl ⟨rfl, rfl, fun _ => ?_⟩⟩) (by rw [filter_yes]; exact q)
  rw [he d _ rfl, s2 k w (hk d hd)]
  exact ⟨rfl, rfl⟩
theorem c_is_row (k : Nat) (a b : D) (S : Sto) : C (k + 1) 7 [a, b] S = endD S.length (m_is_row (cm k) [some a, some b, none] S) := rfl
theorem s_is_row (k : Nat) {ns : List Int} {m : Int} {S : Sto} (w : Wf S) (hl : ns.length ≤ 1000) (hi : ∀ n ∈ ns, 0 ≤ n ∧ n < m) (ha : adjI ns = true) : C (k + 3) 7 [.tup (ns.map .int), .int m] S = .ok (.bl true) S := by
  apply ok_of
  rw [c_is_row]
  unfold m_is_row
  simp only [w_var, vk_s, w_lit, w_op, w_un, w_new, w_nil, w_cons, w_starL, w_star, stk_s, w_tup, w_lst, w_call, w_bi, w_li, w_tru, trk_s, w_boo, bok_b, w_tan, ank_t, ank_f, w_tor, ork_f, ork_t, w_tno, w_tyes, w_man, mank_t, mank_f, w_mor, mok_f, mok_t, w_mno, w_mif, ifv_t, ifv_f, w_chain, chk_t, chk_f, w_optn, w_opts, opk_i, w_sl, w_met, metk_t, w_metl, w_snil, w_ret, w_retn, w_drop, w_if, ifk_t, ifk_f, w_asg, agk_nm, w_par2, w_par3, w_sub, w_seq, sk_nx, sk_rt, sk_bk, sk_ct, w_end, ek_rt, ek_nx, w_any, srk_s, w_inew, w_rg1, w_rg2, w_zip, w_enum, w_comp, w_for, List.getElem?_cons_zero, List.getElem?_cons_succ, List.set_cons_zero, List.set_cons_succ, wp_ok, truth, Bool.not_true, Bool.not_false, sizeLine_eq, List.length_cons, List.length_nil, Nat.reduceAdd, Nat.reduceLeDiff, true_and, cmpI, subD, negD, isi_tup (kn_t (ds := ns.map .int)), isTup, srcOf, subD]
  refine all_in k w trivial (by rw [sizeLine_eq]; simp; omega) (fun d hd => by obtain ⟨n, _, rfl⟩ := List.mem_map.mp hd; exact kn_i) (fun d ρ1 e => by cases e; rfl) ?_
  rw [all_mapw]
  have : (ns.map D.int).all (fun d => inR d 0 (m - 1)) = true := List.all_eq_true.mpr fun d hd => by
    obtain ⟨n, hn, rfl⟩ := List.mem_map.mp hd
    exact inR_of (hi n hn).1 (by have := (hi n hn).2; omega)
  rw [this]
  simp only [w_var, vk_s, w_lit, w_op, w_un, w_new, w_nil, w_cons, w_starL, w_star, stk_s, w_tup, w_lst, w_call, w_bi, w_li, w_tru, trk_s, w_boo, bok_b, w_tan, ank_t, ank_f, w_tor, ork_f, ork_t, w_tno, w_tyes, w_man, mank_t, mank_f, w_mor, mok_f, mok_t, w_mno, w_mif, ifv_t, ifv_f, w_chain, chk_t, chk_f, w_optn, w_opts, opk_i, w_sl, w_met, metk_t, w_metl, w_snil, w_ret, w_retn, w_drop, w_if, ifk_t, ifk_f, w_asg, agk_nm, w_par2, w_par3, w_sub, w_seq, sk_nx, sk_rt, sk_bk, sk_ct, w_end, ek_rt, ek_nx, w_any, srk_s, w_inew, w_rg1, w_rg2, w_zip, w_enum, w_comp, w_for, List.getElem?_cons_zero, List.getElem?_cons_succ, List.set_cons_zero, List.set_cons_succ, wp_ok, truth, Bool.not_true, Bool.not_false, sizeLine_eq, List.length_cons, List.length_nil, Nat.reduceAdd, Nat.reduceLeDiff, true_and, cmpI, subD, negD, (s3i (k + 1) w (Nat.le_trans hl (by decide)) : C (k + 2) 3 _ _ = _), ha]
  exact tk_self w rfl ⟨rfl, rfl⟩
end
end Rf.L33
end

section
set_option Elab.async false
set_option linter.all false
set_option maxRecDepth 100000
set_option maxHeartbeats 4000000
namespace Rf
open PySem PySem.Spec PyProof.Rows L2
theorem datas_ints : ∀ ns : List Int, NestedKey.datas (ns.map .num) = ns.map .int
  | [] => rfl
  | n :: ns => by simp only [List.map_cons, NestedKey.datas, NestedKey.data, datas_ints ns]
theorem noTxts_ints : ∀ ns : List Int, noTxts (ns.map .num) = true
  | [] => rfl
  | n :: ns => by simp only [List.map_cons, noTxts, noTxt, noTxts_ints ns, Bool.and_self]
theorem depthAll_ints : ∀ ns : List Int, NestedKey.depthAll (ns.map .num) ≤ 0
  | [] => Nat.le_refl _
  | n :: ns => by
    have := depthAll_ints ns
    simp only [List.map_cons, NestedKey.depthAll, NestedKey.depth]; omega
theorem toQ_ints {ns : List Int} {S : Sto} {n : Nat} : toQ (n + 2) S (.tup (ns.map .int)) = some (.tuple (ns.map .int)) := by
  show ((ns.map D.int).mapM (toQ (n + 1) S)).map PyData.tuple = _
  have : ∀ ns : List Int, (ns.map D.int).mapM (toQ (n + 1) S) = some (ns.map PyData.int) := by
    intro ns
    induction ns with
    | nil => rfl
    | cons n ns ih => rw [List.map_cons, List.mapM_cons, ih]; rfl
  rw [this]; rfl
theorem shaped_ints {ns : List Int} : SeqAt.shaped (.list (ns.map .int)) = true := by
  rw [← datas_ints]
  unfold SeqAt.shaped
  have := depthAll_ints ns
  rw [Bool.and_eq_true, decide_eq_true_eq]
  refine ⟨by simp only [PyData.canLay0]; exact keys_lay _ (noTxts_ints ns), ?_⟩
  simp only [PyData.depth, depth_datas]; omega
theorem any_ints {i : Int} : ∀ ns : List Int, ((ns.map PyData.int).any fun z => PyData.eqv z (.int i)) = ns.any fun n => n == i
  | [] => rfl
  | n :: ns => by simp only [List.map_cons, List.any_cons, any_ints ns, PyData.eqv]
theorem in_ints {i : Int} {ns : List Int} {S : Sto} : inQ false (.int i) (.tup (ns.map .int)) S = .ok (.bl (ns.any fun n => n == i)) S := by
  unfold inQ
  rw [toQ_ints, show toQ 30 S (.int i) = some (.int i) from rfl]
  dsimp only
  rw [if_pos ⟨shaped_int i, shaped_ints⟩, any_ints, Bool.false_xor]
end Rf
namespace Rf.L33
open PySem PySem.Spec PyProof.Rows L2 Rf
noncomputable section
theorem c_check_moods (k : Nat) (a b : D) (S : Sto) : C (k + 1) 8 [a, b] S = endD S.length (m_check_moods (cm k) [some a, some b] S) := rfl
theorem s_check_moods (k : Nat) {ns : List Int} {m : Int} {r : List D} {S : Sto} (w : Wf S) (hl : ns.length ≤ 1000) (hi : ∀ n ∈ ns, 0 ≤ n ∧ n < m) (ha : adjI ns = true) : C (k + 4) 8 [.tup (.int m :: r), .tup (ns.map .int)] S = .ok .non S := by
  apply ok_of
  rw [c_check_moods]
  unfold m_check_moods
  simp only [w_var, vk_s, w_lit, w_op, w_un, w_new, w_nil, w_cons, w_starL, w_star, stk_s, w_tup, w_lst, w_call, w_bi, w_li, w_tru, trk_s, w_boo, bok_b, w_tan, ank_t, ank_f, w_tor, ork_f, ork_t, w_tno, w_tyes, w_man, mank_t, mank_f, w_mor, mok_f, mok_t, w_mno, w_mif, ifv_t, ifv_f, w_chain, chk_t, chk_f, w_optn, w_opts, opk_i, w_sl, w_met, metk_t, w_metl, w_snil, w_ret, w_retn, w_drop, w_if, ifk_t, ifk_f, w_asg, agk_nm, w_par2, w_par3, w_sub, w_seq, sk_nx, sk_rt, sk_bk, sk_ct, w_end, ek_rt, ek_nx, w_any, srk_s, w_inew, w_rg1, w_rg2, w_zip, w_enum, w_comp, w_for, List.getElem?_cons_zero, List.getElem?_cons_succ, List.set_cons_zero, List.set_cons_succ, wp_ok, truth, Bool.not_true, Bool.not_false, sizeLine_eq, List.length_cons, List.length_nil, Nat.reduceAdd, Nat.reduceLeDiff, true_and, cmpI, subD, negD, idx0, s_is_row k w hl hi ha]
  exact tk_self w rfl ⟨rfl, rfl⟩
theorem c_check_mood (k : Nat) (a b : D) (S : Sto) : C (k + 1) 10 [a, b] S = endD S.length (m_check_mood (cm k) [some a, some b] S) := rfl
theorem s_check_mood (k : Nat) {i m : Int} {r : List D} {S : Sto} (w : Wf S) (hi : 0 ≤ i ∧ i < m) : C (k + 3) 10 [.tup (.int m :: r), .int i] S = .ok .non S := by
  apply ok_of
  rw [c_check_mood]
  unfold m_check_mood
  simp only [w_var, vk_s, w_lit, w_op, w_un, w_new, w_nil, w_cons, w_starL, w_star, stk_s, w_tup, w_lst, w_call, w_bi, w_li, w_tru, trk_s, w_boo, bok_b, w_tan, ank_t, ank_f, w_tor, ork_f, ork_t, w_tno, w_tyes, w_man, mank_t, mank_f, w_mor, mok_f, mok_t, w_mno, w_mif, ifv_t, ifv_f, w_chain, chk_t, chk_f, w_optn, w_opts, opk_i, w_sl, w_met, metk_t, w_metl, w_snil, w_ret, w_retn, w_drop, w_if, ifk_t, ifk_f, w_asg, agk_nm, w_par2, w_par3, w_sub, w_seq, sk_nx, sk_rt, sk_bk, sk_ct, w_end, ek_rt, ek_nx, w_any, srk_s, w_inew, w_rg1, w_rg2, w_zip, w_enum, w_comp, w_for, List.getElem?_cons_zero, List.getElem?_cons_succ, List.set_cons_zero, List.set_cons_succ, wp_ok, truth, Bool.not_true, Bool.not_false, sizeLine_eq, List.length_cons, List.length_nil, Nat.reduceAdd, Nat.reduceLeDiff, true_and, cmpI, subD, negD, idx0, subD, s2 k w (kn_i (i := i)), inR_of hi.1 (show i ≤ m - 1 by omega)]
  exact tk_self w rfl ⟨rfl, rfl⟩
theorem intD_b {b : Bool} {S : Sto} : intD [.bl b] S = .ok (.int (if b then 1 else 0)) S := rfl
/-- [f(i) for i in range(m)], the store as it is -/
theorem comp_rgP {c : Cm} {ρ : Ev} {S : Sto} {own : List Nat} {j : Nat} {te : M D} {m : Int} (f : Int → D) (L : List D → Sto → Prop) {X : XQ} (hm : 0 ≤ m ∧ m ≤ 1000) (h : ∀ i : Int, 0 ≤ i → i < m → wp (te c ((wipeD ρ own).set j (some (.int i))) S) (fun y T => y = f i ∧ T = S) noX)
    (q : L ((List.range m.toNat).map fun (i : Nat) => f (i : Int)) S) : wp (compL (fun _ => True) own (.nm j) tYesD te (rangeD 0 m) [] c ρ S) L X := by
  have hr : rangeD 0 m = (List.range m.toNat).map fun (i : Nat) => D.int (i : Int) := by
    have := range_range m.toNat
    rwa [Int.toNat_of_nonneg hm.1] at this
  refine wp_compP (fun _ => true) (fun d => f (iv d)) trivial (by rw [rg_len, sizeLine_eq]; omega) (fun d hd => ⟨_, rfl, ?_⟩) ?_
  · rw [hr] at hd
    obtain ⟨i, hi, rfl⟩ := List.mem_map.mp hd
    have hi := List.mem_range.mp hi
    exact wp_of (a := true) (S := S) rfl ⟨rfl, rfl, fun _ => h i (by omega) (by omega)⟩
  · rw [filter_yes, hr, List.map_map]
    exact q
theorem small_of {m : Int} (h : -1000 ≤ m ∧ m ≤ 1000) : small m = true := by
  unfold small
  rw [Bool.and_eq_true, decide_eq_true_eq, decide_eq_true_eq]
  have e62 : (2 : Int) ^ 62 = 4611686018427387904 := by decide
  omega
theorem mul_rep {a m : Int} {S : Sto} (hm : 1 ≤ m ∧ m ≤ 1000) : mulD (.tup [.int a]) (.int m) S = .ok (.tup (List.replicate m.toNat (.int a))) S := by
  show (if m = 1 then Res.ok (D.tup [.int a]) S else if [D.int a] ≠ [] ∧ 2 ≤ m ∧ m ≤ 1000 ∧ [D.int a].length ≤ 1000 then Res.ok (D.tup (List.replicate m.toNat [D.int a]).flatten) S else .bad) = _
  by_cases h : m = 1
  · subst h; rfl
  · rw [if_neg h, if_pos ⟨by simp, by omega, by omega, by simp⟩]
    congr 2
    generalize m.toNat = n
    induction n with
    | zero => rfl
    | succ n ih => rw [List.replicate_succ, List.flatten_cons, ih]; rfl
theorem tupL {ds : List D} {S : Sto} (h : ds.length ≤ 1000) : tupleL ds S = .ok (.tup ds) S := if_pos (by rw [sizeLine_eq]; omega)
def rowN (m : Int) (f : Int → Int) : List D := (List.range m.toNat).map fun (i : Nat) => D.int (f (i : Int))
theorem rowN_len (m : Int) (f : Int → Int) : (rowN m f).length = m.toNat := by unfold rowN; rw [List.length_map, List.length_range]
theorem tup_blw {n : Nat} {m : Int} {f : Int → Int} : D.blws n (rowN m f) = true := blws_iff.mpr fun d hd => by
  obtain ⟨i, _, rfl⟩ := List.mem_map.mp hd; rfl
theorem rep_blw {n k : Nat} {a : Int} : D.blws n (List.replicate k (.int a)) = true := blws_iff.mpr fun d hd => by
  rw [(List.mem_replicate.mp hd).2]; rfl
theorem c_never (k : Nat) (a b : D) (S : Sto) : C (k + 1) 11 [a, b] S = endD S.length (m_never (cm k) [some a, some b, none, none] S) := rfl
theorem s_never (k : Nat) {m : Int} {s : D} {rs : List D} {ns : List Int} {S : Sto} (w : Wf S) (ho : Off (.tup [.int m, s, .tup rs])) (hm : 1 ≤ m ∧ m ≤ 5) (hl : ns.length ≤ 1000) (hi : ∀ n ∈ ns, 0 ≤ n ∧ n < m) (ha : adjI ns = true) :
    C (k + 6) 11 [.tup [.int m, s, .tup rs], .tup (ns.map .int)] S = .ok (.tup [.tup [.tup (rowN m fun i => if ns.any (fun n => n == i) then 1 else 0), .tup (List.replicate m.toNat (.int 1))], .tup [.int 1]]) S := by
  apply ok_of
  rw [c_never]
  unfold m_never
  simp only [w_var, vk_s, w_lit, w_op, w_un, w_new, w_nil, w_cons, w_starL, w_star, stk_s, w_tup, w_lst, w_call, w_bi, w_li, w_tru, trk_s, w_boo, bok_b, w_tan, ank_t, ank_f, w_tor, ork_f, ork_t, w_tno, w_tyes, w_man, mank_t, mank_f, w_mor, mok_f, mok_t, w_mno, w_mif, ifv_t, ifv_f, w_chain, chk_t, chk_f, w_optn, w_opts, opk_i, w_sl, w_met, metk_t, w_metl, w_snil, w_ret, w_retn, w_drop, w_if, ifk_t, ifk_f, w_asg, agk_nm, w_par2, w_par3, w_sub, w_seq, sk_nx, sk_rt, sk_bk, sk_ct, w_end, ek_rt, ek_nx, w_any, srk_s, w_inew, w_rg1, w_rg2, w_zip, w_enum, w_comp, w_for, List.getElem?_cons_zero, List.getElem?_cons_succ, List.set_cons_zero, List.set_cons_succ, wp_ok, truth, Bool.not_true, Bool.not_false, sizeLine_eq, List.length_cons, List.length_nil, Nat.reduceAdd, Nat.reduceLeDiff, true_and, cmpI, subD, negD, s6 k w ho, (s_check_moods (k + 1) w hl hi ha : C (k + 5) 8 _ _ = _), idx0]
  refine ⟨_, rfl, small_of (by omega), ?_⟩
  refine comp_rgP (fun i => .int (if ns.any (fun n => n == i) then 1 else 0)) _ (by omega) (fun i h1 h2 => ?_) ?_
  · simp only [w_var, vk_s, w_lit, w_op, w_un, w_new, w_nil, w_cons, w_starL, w_star, stk_s, w_tup, w_lst, w_call, w_bi, w_li, w_tru, trk_s, w_boo, bok_b, w_tan, ank_t, ank_f, w_tor, ork_f, ork_t, w_tno, w_tyes, w_man, mank_t, mank_f, w_mor, mok_f, mok_t, w_mno, w_mif, ifv_t, ifv_f, w_chain, chk_t, chk_f, w_optn, w_opts, opk_i, w_sl, w_met, metk_t, w_metl, w_snil, w_ret, w_retn, w_drop, w_if, ifk_t, ifk_f, w_asg, agk_nm, w_par2, w_par3, w_sub, w_seq, sk_nx, sk_rt, sk_bk, sk_ct, w_end, ek_rt, ek_nx, w_any, srk_s, w_inew, w_rg1, w_rg2, w_zip, w_enum, w_comp, w_for, List.getElem?_cons_zero, List.getElem?_cons_succ, List.set_cons_zero, List.set_cons_succ, wp_ok, truth, Bool.not_true, Bool.not_false, sizeLine_eq, List.length_cons, List.length_nil, Nat.reduceAdd, Nat.reduceLeDiff, true_and, cmpI, subD, negD, wipeD, in_ints, intD_b]
  · rw [tupL (by rw [List.length_map, List.length_range]; omega)]
    simp only [w_var, vk_s, w_lit, w_op, w_un, w_new, w_nil, w_cons, w_starL, w_star, stk_s, w_tup, w_lst, w_call, w_bi, w_li, w_tru, trk_s, w_boo, bok_b, w_tan, ank_t, ank_f, w_tor, ork_f, ork_t, w_tno, w_tyes, w_man, mank_t, mank_f, w_mor, mok_f, mok_t, w_mno, w_mif, ifv_t, ifv_f, w_chain, chk_t, chk_f, w_optn, w_opts, opk_i, w_sl, w_met, metk_t, w_metl, w_snil, w_ret, w_retn, w_drop, w_if, ifk_t, ifk_f, w_asg, agk_nm, w_par2, w_par3, w_sub, w_seq, sk_nx, sk_rt, sk_bk, sk_ct, w_end, ek_rt, ek_nx, w_any, srk_s, w_inew, w_rg1, w_rg2, w_zip, w_enum, w_comp, w_for, List.getElem?_cons_zero, List.getElem?_cons_succ, List.set_cons_zero, List.set_cons_succ, wp_ok, truth, Bool.not_true, Bool.not_false, sizeLine_eq, List.length_cons, List.length_nil, Nat.reduceAdd, Nat.reduceLeDiff, true_and, cmpI, subD, negD, idx0, mul_rep (a := 1) (show 1 ≤ m ∧ m ≤ 1000 by omega)]
    exact tk_self w (by simp [D.blw, D.blws, tup_blw, rep_blw, blws_iff]) ⟨rfl, rfl⟩
theorem set_list {k j : Nat} {ds : List D} {v : D} {i : Int} {S : Sto} (h : S[k]? = some (.lst ds)) (hi : i = (j : Int)) (hj : j < ds.length) : setD (.ref k) (.int i) v S = .ok () (S.set k (.lst (ds.set j v))) := by
  have ix : ixN ds.length i = some j := by unfold ixN; rw [hi]; simp [hj]
  simp only [setD, h, ix]
theorem at_last {S : Sto} {o : O} : (S ++ [o])[S.length]? = some o := by simp
theorem mul_lst {a m : Int} {k : Nat} {S : Sto} (h : S[k]? = some (.lst [.int a])) (hm : 1 ≤ m ∧ m ≤ 1000) : mulD (.ref k) (.int m) S = .ok (.ref S.length) (S ++ [.lst (List.replicate m.toNat (.int a))]) := by
  have e : (List.replicate m.toNat [D.int a]).flatten = List.replicate m.toNat (.int a) := by
    generalize m.toNat = n
    induction n with
    | zero => rfl
    | succ n ih => rw [List.replicate_succ, List.flatten_cons, ih]; rfl
  simp only [mulD, h]
  have e63 : (2 : Int) ^ 63 = 9223372036854775808 := by decide
  rw [if_pos ⟨by omega, by omega, by rw [sizeLine_eq]; simp; omega⟩, e]
theorem row_set {m a b : Int} (ha : 0 ≤ a ∧ a < m) (hb : 0 ≤ b ∧ b < m) : ((List.replicate m.toNat (D.int 0)).set a.toNat (.int 2)).set b.toNat (.int 1) = rowN m fun i => if i = b then 1 else if i = a then 2 else 0 := by
  apply List.ext_getElem
  · rw [List.length_set, List.length_set, List.length_replicate, rowN_len]
  · intro i h1 h2
    rw [rowN_len] at h2
    have eb : (b.toNat = i) = ((i : Int) = b) := by apply propext; omega
    have ea : (a.toNat = i) = ((i : Int) = a) := by apply propext; omega
    simp only [rowN, List.getElem_set, List.getElem_replicate, List.getElem_map, List.getElem_range, eb, ea]
    by_cases z : (i : Int) = b
    · simp [z]
    · by_cases y : (i : Int) = a
      · subst y; simp [z]
      · simp [z, y]
theorem c_not_before (k : Nat) (a b d : D) (S : Sto) : C (k + 1) 12 [a, b, d] S = endD S.length (m_not_before (cm k) [some a, some b, some d, none] S) := rfl
theorem tup_ref {k : Nat} {ds : List D} {S : Sto} (h : S[k]? = some (.lst ds)) (hl : ds.length ≤ 1000) : tupleD [.ref k] S = .ok (.tup ds) S := by
  simp only [tupleD, itemsOf, h]
  exact if_pos (by rw [sizeLine_eq]; omega)
theorem s_not_before (k : Nat) {m a b : Int} {s : D} {rs : List D} {S : Sto} (w : Wf S) (ho : Off (.tup [.int m, s, .tup rs])) (hm : 1 ≤ m ∧ m ≤ 5) (ha : 0 ≤ a ∧ a < m) (hb : 0 ≤ b ∧ b < m) :
    C (k + 6) 12 [.tup [.int m, s, .tup rs], .int b, .int a] S = .ok (.tup [.tup [.tup (rowN m fun i => if i = b then 1 else if i = a then 2 else 0), .tup (List.replicate m.toNat (.int 1)), .tup (List.replicate m.toNat (.int 2))], .tup [.int 2]]) S := by
  apply ok_of
  rw [c_not_before]
  unfold m_not_before
  simp only [w_var, vk_s, w_lit, w_op, w_un, w_new, w_nil, w_cons, w_starL, w_star, stk_s, w_tup, w_lst, w_call, w_bi, w_li, w_tru, trk_s, w_boo, bok_b, w_tan, ank_t, ank_f, w_tor, ork_f, ork_t, w_tno, w_tyes, w_man, mank_t, mank_f, w_mor, mok_f, mok_t, w_mno, w_mif, ifv_t, ifv_f, w_chain, chk_t, chk_f, w_optn, w_opts, opk_i, w_sl, w_met, metk_t, w_metl, w_snil, w_ret, w_retn, w_drop, w_if, ifk_t, ifk_f, w_asg, agk_nm, w_par2, w_par3, w_sub, w_seq, sk_nx, sk_rt, sk_bk, sk_ct, w_end, ek_rt, ek_nx, w_any, srk_s, w_inew, w_rg1, w_rg2, w_zip, w_enum, w_comp, w_for, List.getElem?_cons_zero, List.getElem?_cons_succ, List.set_cons_zero, List.set_cons_succ, wp_ok, truth, Bool.not_true, Bool.not_false, sizeLine_eq, List.length_cons, List.length_nil, Nat.reduceAdd, Nat.reduceLeDiff, true_and, cmpI, subD, negD, s6 k w ho, (s_check_mood (k + 2) w ha : C (k + 5) 10 _ _ = _), (s_check_mood (k + 2) w hb : C (k + 5) 10 _ _ = _), idx0]
  rw [mul_lst at_last (show 1 ≤ m ∧ m ≤ 1000 by omega)]
  simp only [w_var, vk_s, w_lit, w_op, w_un, w_new, w_nil, w_cons, w_starL, w_star, stk_s, w_tup, w_lst, w_call, w_bi, w_li, w_tru, trk_s, w_boo, bok_b, w_tan, ank_t, ank_f, w_tor, ork_f, ork_t, w_tno, w_tyes, w_man, mank_t, mank_f, w_mor, mok_f, mok_t, w_mno, w_mif, ifv_t, ifv_f, w_chain, chk_t, chk_f, w_optn, w_opts, opk_i, w_sl, w_met, metk_t, w_metl, w_snil, w_ret, w_retn, w_drop, w_if, ifk_t, ifk_f, w_asg, agk_nm, w_par2, w_par3, w_sub, w_seq, sk_nx, sk_rt, sk_bk, sk_ct, w_end, ek_rt, ek_nx, w_any, srk_s, w_inew, w_rg1, w_rg2, w_zip, w_enum, w_comp, w_for, List.getElem?_cons_zero, List.getElem?_cons_succ, List.set_cons_zero, List.set_cons_succ, wp_ok, truth, Bool.not_true, Bool.not_false, sizeLine_eq, List.length_cons, List.length_nil, Nat.reduceAdd, Nat.reduceLeDiff, true_and, cmpI, subD, negD]
  have hl : (List.replicate m.toNat (D.int 0)).length = m.toNat := List.length_replicate
  rw [set_list (j := a.toNat) at_last (by omega) (by omega)]
  simp only [w_var, vk_s, w_lit, w_op, w_un, w_new, w_nil, w_cons, w_starL, w_star, stk_s, w_tup, w_lst, w_call, w_bi, w_li, w_tru, trk_s, w_boo, bok_b, w_tan, ank_t, ank_f, w_tor, ork_f, ork_t, w_tno, w_tyes, w_man, mank_t, mank_f, w_mor, mok_f, mok_t, w_mno, w_mif, ifv_t, ifv_f, w_chain, chk_t, chk_f, w_optn, w_opts, opk_i, w_sl, w_met, metk_t, w_metl, w_snil, w_ret, w_retn, w_drop, w_if, ifk_t, ifk_f, w_asg, agk_nm, w_par2, w_par3, w_sub, w_seq, sk_nx, sk_rt, sk_bk, sk_ct, w_end, ek_rt, ek_nx, w_any, srk_s, w_inew, w_rg1, w_rg2, w_zip, w_enum, w_comp, w_for, List.getElem?_cons_zero, List.getElem?_cons_succ, List.set_cons_zero, List.set_cons_succ, wp_ok, truth, Bool.not_true, Bool.not_false, sizeLine_eq, List.length_cons, List.length_nil, Nat.reduceAdd, Nat.reduceLeDiff, true_and, cmpI, subD, negD]
  rw [set_list (j := b.toNat) (List.getElem?_set_self (by simp)) (by omega) (by rw [List.length_set]; omega)]
  simp only [w_var, vk_s, w_lit, w_op, w_un, w_new, w_nil, w_cons, w_starL, w_star, stk_s, w_tup, w_lst, w_call, w_bi, w_li, w_tru, trk_s, w_boo, bok_b, w_tan, ank_t, ank_f, w_tor, ork_f, ork_t, w_tno, w_tyes, w_man, mank_t, mank_f, w_mor, mok_f, mok_t, w_mno, w_mif, ifv_t, ifv_f, w_chain, chk_t, chk_f, w_optn, w_opts, opk_i, w_sl, w_met, metk_t, w_metl, w_snil, w_ret, w_retn, w_drop, w_if, ifk_t, ifk_f, w_asg, agk_nm, w_par2, w_par3, w_sub, w_seq, sk_nx, sk_rt, sk_bk, sk_ct, w_end, ek_rt, ek_nx, w_any, srk_s, w_inew, w_rg1, w_rg2, w_zip, w_enum, w_comp, w_for, List.getElem?_cons_zero, List.getElem?_cons_succ, List.set_cons_zero, List.set_cons_succ, wp_ok, truth, Bool.not_true, Bool.not_false, sizeLine_eq, List.length_cons, List.length_nil, Nat.reduceAdd, Nat.reduceLeDiff, true_and, cmpI, subD, negD]
  rw [tup_ref (List.getElem?_set_self (by simp)) (by rw [List.length_set, List.length_set]; omega)]
  simp only [w_var, vk_s, w_lit, w_op, w_un, w_new, w_nil, w_cons, w_starL, w_star, stk_s, w_tup, w_lst, w_call, w_bi, w_li, w_tru, trk_s, w_boo, bok_b, w_tan, ank_t, ank_f, w_tor, ork_f, ork_t, w_tno, w_tyes, w_man, mank_t, mank_f, w_mor, mok_f, mok_t, w_mno, w_mif, ifv_t, ifv_f, w_chain, chk_t, chk_f, w_optn, w_opts, opk_i, w_sl, w_met, metk_t, w_metl, w_snil, w_ret, w_retn, w_drop, w_if, ifk_t, ifk_f, w_asg, agk_nm, w_par2, w_par3, w_sub, w_seq, sk_nx, sk_rt, sk_bk, sk_ct, w_end, ek_rt, ek_nx, w_any, srk_s, w_inew, w_rg1, w_rg2, w_zip, w_enum, w_comp, w_for, List.getElem?_cons_zero, List.getElem?_cons_succ, List.set_cons_zero, List.set_cons_succ, wp_ok, truth, Bool.not_true, Bool.not_false, sizeLine_eq, List.length_cons, List.length_nil, Nat.reduceAdd, Nat.reduceLeDiff, true_and, cmpI, subD, negD, idx0, mul_rep (a := 1) (show 1 ≤ m ∧ m ≤ 1000 by omega), mul_rep (a := 2) (show 1 ≤ m ∧ m ≤ 1000 by omega)]
  rw [row_set ha hb]
  refine trim_on w (by simp [D.blw, D.blws, tup_blw, rep_blw]) (by simp <;> omega) (fun j hj => ?_) ⟨rfl, rfl⟩
  rw [List.getElem?_set_ne (by simp; omega), List.getElem?_set_ne (by simp; omega), List.getElem?_append_left (by simp; omega), List.getElem?_append_left hj]
theorem row_set2 {m a b : Int} (ha : 0 ≤ a ∧ a < m) : (rowN m fun i => if i = b then 1 else 0).set a.toNat (.int 2) = rowN m fun i => if i = a then 2 else if i = b then 1 else 0 := by
  apply List.ext_getElem
  · rw [List.length_set, rowN_len, rowN_len]
  · intro i h1 h2
    rw [rowN_len] at h2
    have ea : (a.toNat = i) = ((i : Int) = a) := by apply propext; omega
    simp only [rowN, List.getElem_set, List.getElem_map, List.getElem_range, ea]
    by_cases y : (i : Int) = a
    · simp [y]
    · simp [y]
theorem list_ref {k : Nat} {ds : List D} {S : Sto} (h : S[k]? = some (.lst ds)) (hl : ds.length ≤ 1000) : listD [.ref k] S = .ok (.ref S.length) (S ++ [.lst ds]) := by
  simp only [listD, itemsOf, h]
  exact if_pos (by rw [sizeLine_eq]; omega)
theorem c_not_behind (k : Nat) (a b d : D) (S : Sto) : C (k + 1) 13 [a, b, d] S = endD S.length (m_not_behind (cm k) [some a, some b, some d, none, none, none] S) := rfl
theorem s_not_behind (k : Nat) {m a b : Int} {s : D} {rs : List D} {S : Sto} (w : Wf S) (ho : Off (.tup [.int m, s, .tup rs])) (hm : 1 ≤ m ∧ m ≤ 5) (ha : 0 ≤ a ∧ a < m) (hb : 0 ≤ b ∧ b < m) :
    C (k + 6) 13 [.tup [.int m, s, .tup rs], .int b, .int a] S = .ok (.tup [.tup [.tup (rowN m fun i => if i = b then 1 else 0), .tup (rowN m fun i => if i = a then 2 else if i = b then 1 else 0), .tup (List.replicate m.toNat (.int 2))], .tup [.int 2]]) S := by
  apply ok_of
  rw [c_not_behind]
  unfold m_not_behind
  simp only [w_var, vk_s, w_lit, w_op, w_un, w_new, w_nil, w_cons, w_starL, w_star, stk_s, w_tup, w_lst, w_call, w_bi, w_li, w_tru, trk_s, w_boo, bok_b, w_tan, ank_t, ank_f, w_tor, ork_f, ork_t, w_tno, w_tyes, w_man, mank_t, mank_f, w_mor, mok_f, mok_t, w_mno, w_mif, ifv_t, ifv_f, w_chain, chk_t, chk_f, w_optn, w_opts, opk_i, w_sl, w_met, metk_t, w_metl, w_snil, w_ret, w_retn, w_drop, w_if, ifk_t, ifk_f, w_asg, agk_nm, w_par2, w_par3, w_sub, w_seq, sk_nx, sk_rt, sk_bk, sk_ct, w_end, ek_rt, ek_nx, w_any, srk_s, w_inew, w_rg1, w_rg2, w_zip, w_enum, w_comp, w_for, List.getElem?_cons_zero, List.getElem?_cons_succ, List.set_cons_zero, List.set_cons_succ, wp_ok, truth, Bool.not_true, Bool.not_false, sizeLine_eq, List.length_cons, List.length_nil, Nat.reduceAdd, Nat.reduceLeDiff, true_and, cmpI, subD, negD, s6 k w ho, (s_check_mood (k + 2) w ha : C (k + 5) 10 _ _ = _), (s_check_mood (k + 2) w hb : C (k + 5) 10 _ _ = _), idx0]
  refine ⟨_, rfl, small_of (by omega), ?_⟩
  refine comp_rgP (fun i => .int (if i = b then 1 else 0)) _ (by omega) (fun i h1 h2 => ?_) ?_
  · simp only [w_var, vk_s, w_lit, w_op, w_un, w_new, w_nil, w_cons, w_starL, w_star, stk_s, w_tup, w_lst, w_call, w_bi, w_li, w_tru, trk_s, w_boo, bok_b, w_tan, ank_t, ank_f, w_tor, ork_f, ork_t, w_tno, w_tyes, w_man, mank_t, mank_f, w_mor, mok_f, mok_t, w_mno, w_mif, ifv_t, ifv_f, w_chain, chk_t, chk_f, w_optn, w_opts, opk_i, w_sl, w_met, metk_t, w_metl, w_snil, w_ret, w_retn, w_drop, w_if, ifk_t, ifk_f, w_asg, agk_nm, w_par2, w_par3, w_sub, w_seq, sk_nx, sk_rt, sk_bk, sk_ct, w_end, ek_rt, ek_nx, w_any, srk_s, w_inew, w_rg1, w_rg2, w_zip, w_enum, w_comp, w_for, List.getElem?_cons_zero, List.getElem?_cons_succ, List.set_cons_zero, List.set_cons_succ, wp_ok, truth, Bool.not_true, Bool.not_false, sizeLine_eq, List.length_cons, List.length_nil, Nat.reduceAdd, Nat.reduceLeDiff, true_and, cmpI, subD, negD, wipeD, eq_int, intD_b, beq_iff_eq]
  · have hr : (List.range m.toNat).map (fun (i : Nat) => D.int (if (i : Int) = b then 1 else 0)) = rowN m fun i => if i = b then 1 else 0 := rfl
    rw [hr]
    have hl := rowN_len m fun i => if i = b then 1 else 0
    refine ⟨by rw [hl]; omega, ?_⟩
    rw [list_ref at_last (by rw [hl]; omega)]
    simp only [w_var, vk_s, w_lit, w_op, w_un, w_new, w_nil, w_cons, w_starL, w_star, stk_s, w_tup, w_lst, w_call, w_bi, w_li, w_tru, trk_s, w_boo, bok_b, w_tan, ank_t, ank_f, w_tor, ork_f, ork_t, w_tno, w_tyes, w_man, mank_t, mank_f, w_mor, mok_f, mok_t, w_mno, w_mif, ifv_t, ifv_f, w_chain, chk_t, chk_f, w_optn, w_opts, opk_i, w_sl, w_met, metk_t, w_metl, w_snil, w_ret, w_retn, w_drop, w_if, ifk_t, ifk_f, w_asg, agk_nm, w_par2, w_par3, w_sub, w_seq, sk_nx, sk_rt, sk_bk, sk_ct, w_end, ek_rt, ek_nx, w_any, srk_s, w_inew, w_rg1, w_rg2, w_zip, w_enum, w_comp, w_for, List.getElem?_cons_zero, List.getElem?_cons_succ, List.set_cons_zero, List.set_cons_succ, wp_ok, truth, Bool.not_true, Bool.not_false, sizeLine_eq, List.length_cons, List.length_nil, Nat.reduceAdd, Nat.reduceLeDiff, true_and, cmpI, subD, negD]
    rw [set_list (j := a.toNat) at_last (by omega) (by rw [hl]; omega)]
    simp only [w_var, vk_s, w_lit, w_op, w_un, w_new, w_nil, w_cons, w_starL, w_star, stk_s, w_tup, w_lst, w_call, w_bi, w_li, w_tru, trk_s, w_boo, bok_b, w_tan, ank_t, ank_f, w_tor, ork_f, ork_t, w_tno, w_tyes, w_man, mank_t, mank_f, w_mor, mok_f, mok_t, w_mno, w_mif, ifv_t, ifv_f, w_chain, chk_t, chk_f, w_optn, w_opts, opk_i, w_sl, w_met, metk_t, w_metl, w_snil, w_ret, w_retn, w_drop, w_if, ifk_t, ifk_f, w_asg, agk_nm, w_par2, w_par3, w_sub, w_seq, sk_nx, sk_rt, sk_bk, sk_ct, w_end, ek_rt, ek_nx, w_any, srk_s, w_inew, w_rg1, w_rg2, w_zip, w_enum, w_comp, w_for, List.getElem?_cons_zero, List.getElem?_cons_succ, List.set_cons_zero, List.set_cons_succ, wp_ok, truth, Bool.not_true, Bool.not_false, sizeLine_eq, List.length_cons, List.length_nil, Nat.reduceAdd, Nat.reduceLeDiff, true_and, cmpI, subD, negD]
    rw [tup_ref (k := List.length S) (ds := rowN m fun i => if i = b then 1 else 0) (by rw [List.getElem?_set_ne (by simp), List.getElem?_append_left (by simp)]; simp) (by rw [hl]; omega)]
    simp only [w_var, vk_s, w_lit, w_op, w_un, w_new, w_nil, w_cons, w_starL, w_star, stk_s, w_tup, w_lst, w_call, w_bi, w_li, w_tru, trk_s, w_boo, bok_b, w_tan, ank_t, ank_f, w_tor, ork_f, ork_t, w_tno, w_tyes, w_man, mank_t, mank_f, w_mor, mok_f, mok_t, w_mno, w_mif, ifv_t, ifv_f, w_chain, chk_t, chk_f, w_optn, w_opts, opk_i, w_sl, w_met, metk_t, w_metl, w_snil, w_ret, w_retn, w_drop, w_if, ifk_t, ifk_f, w_asg, agk_nm, w_par2, w_par3, w_sub, w_seq, sk_nx, sk_rt, sk_bk, sk_ct, w_end, ek_rt, ek_nx, w_any, srk_s, w_inew, w_rg1, w_rg2, w_zip, w_enum, w_comp, w_for, List.getElem?_cons_zero, List.getElem?_cons_succ, List.set_cons_zero, List.set_cons_succ, wp_ok, truth, Bool.not_true, Bool.not_false, sizeLine_eq, List.length_cons, List.length_nil, Nat.reduceAdd, Nat.reduceLeDiff, true_and, cmpI, subD, negD]
    rw [tup_ref (List.getElem?_set_self (by simp)) (by rw [List.length_set, hl]; omega)]
    simp only [w_var, vk_s, w_lit, w_op, w_un, w_new, w_nil, w_cons, w_starL, w_star, stk_s, w_tup, w_lst, w_call, w_bi, w_li, w_tru, trk_s, w_boo, bok_b, w_tan, ank_t, ank_f, w_tor, ork_f, ork_t, w_tno, w_tyes, w_man, mank_t, mank_f, w_mor, mok_f, mok_t, w_mno, w_mif, ifv_t, ifv_f, w_chain, chk_t, chk_f, w_optn, w_opts, opk_i, w_sl, w_met, metk_t, w_metl, w_snil, w_ret, w_retn, w_drop, w_if, ifk_t, ifk_f, w_asg, agk_nm, w_par2, w_par3, w_sub, w_seq, sk_nx, sk_rt, sk_bk, sk_ct, w_end, ek_rt, ek_nx, w_any, srk_s, w_inew, w_rg1, w_rg2, w_zip, w_enum, w_comp, w_for, List.getElem?_cons_zero, List.getElem?_cons_succ, List.set_cons_zero, List.set_cons_succ, wp_ok, truth, Bool.not_true, Bool.not_false, sizeLine_eq, List.length_cons, List.length_nil, Nat.reduceAdd, Nat.reduceLeDiff, true_and, cmpI, subD, negD, idx0, mul_rep (a := 2) (show 1 ≤ m ∧ m ≤ 1000 by omega)]
    rw [row_set2 ha]
    refine trim_on w (by simp [D.blw, D.blws, tup_blw, rep_blw]) (by simp <;> omega) (fun j hj => ?_) ⟨rfl, rfl⟩
    rw [List.getElem?_set_ne (by simp; omega), List.getElem?_append_left (by simp; omega), List.getElem?_append_left hj]
end
end Rf.L33
end

section
set_option Elab.async false
set_option linter.all false
set_option maxRecDepth 100000
set_option maxHeartbeats 4000000
namespace Rf
open PySem PySem.Spec PyProof.Rows L2
theorem kLt_num (a b : Int) : kLt (.num a) (.num b) = decide (a < b) := by
  unfold kLt
  rw [kLe_num, Bool.eq_iff_iff]
  simp
theorem adjK_ints : ∀ ns : List Int, adjK (ns.map .num) = adjI ns
  | [] => rfl
  | [a] => rfl
  | a :: b :: r => by
    have ih := adjK_ints (b :: r)
    simp only [List.map_cons] at ih
    simp only [List.map_cons, adjK, ih, kLt_num, adjI, List.drop_succ_cons, List.drop_zero, List.zip_cons_cons, List.all_cons]
theorem nk_ints : ∀ ns : List Int, nkeys (ns.map .int) = some (ns.map .num)
  | [] => rfl
  | n :: ns => by simp only [List.map_cons, nkeys, nkey, nk_ints ns]
theorem isNum_ints (ns : List Int) : (ns.map NestedKey.num).all isNum = true := List.all_eq_true.mpr fun k hk => by
  obtain ⟨n, _, rfl⟩ := List.mem_map.mp hk; rfl
theorem set_ints {ns : List Int} (h : ns.length < 64) : setSort (ns.map .int) = some ((sortK (dedupK (ns.map .num))).map unkey) := by
  unfold setSort
  rw [nk_ints]
  dsimp only
  rw [if_pos]
  unfold okKeys
  rw [isNum_ints, Bool.true_or, Bool.and_true, decide_eq_true_eq, List.length_map]
  exact h
theorem nums_of : ∀ {ks : List NestedKey}, (∀ k ∈ ks, isNum k = true) → ∃ ns : List Int, ks = ns.map .num
  | [], _ => ⟨[], rfl⟩
  | k :: ks, h => by
    obtain ⟨ns, rfl⟩ := nums_of fun x hx => h x (List.mem_cons_of_mem _ hx)
    have := h k List.mem_cons_self
    cases k with
    | num i => exact ⟨i :: ns, rfl⟩
    | _ => cases this
theorem unkey_nums (ns : List Int) : (ns.map NestedKey.num).map unkey = ns.map .int := by rw [List.map_map]; rfl
theorem eq_ilists {S : Sto} {i j : Nat} {as bs : List Int} (hi : S[i]? = some (.lst (as.map .int))) (hj : S[j]? = some (.lst (bs.map .int))) : eqD (.ref i) (.ref j) S = .ok (.bl (NestedKey.beqAll (as.map .num) (bs.map .num))) S := by
  have q : ∀ {i : Nat} {as : List Int}, S[i]? = some (.lst (as.map .int)) → toQ 30 S (.ref i) = some (.list (as.map .int)) := fun {i as} h => by
    show (match S[i]? with | some (.lst ds) => (ds.mapM (toQ 29 S)).map PyData.list | none => none) = _
    rw [h]
    show (((as.map D.int).mapM (toQ 29 S)).map PyData.list) = _
    rw [qs_key (as.map D.int) (as.map .num) 29 (nk_ints as) (by rw [depth_nums]; omega), datas_ints]; rfl
  unfold eqD
  rw [q hi, q hj]
  dsimp only
  rw [if_pos (.inl ⟨shaped_ints, shaped_ints⟩), ← datas_ints, ← datas_ints]
  simp only [PyData.eqv, eqvAll_data]
theorem eq_rising (ns : List Int) : ∃ js : List Int, sortK (dedupK (ns.map .num)) = js.map .num ∧ js.length ≤ ns.length ∧ NestedKey.beqAll (ns.map .num) (js.map .num) = adjI ns := by
  have al := alike_num (isNum_ints ns)
  obtain ⟨js, hjs⟩ := nums_of (ks := sortK (dedupK (ns.map .num))) fun k hk => by
    have := sort_mem.mp hk
    obtain ⟨n, _, rfl⟩ := List.mem_map.mp this; rfl
  refine ⟨js, hjs, ?_, ?_⟩
  · have h1 : (sortK (dedupK (ns.map .num))).length = js.length := by rw [hjs, List.length_map]
    unfold sortK at h1
    rw [List.length_mergeSort] at h1
    have := dedup_len (ns.map .num)
    rw [List.length_map] at this
    omega
  · rw [← adjK_ints, adj_iff al, hjs]
/-- all([f(x) for x in ds]), the store as it is -/
theorem wp_all {G : Sto → Prop} {own : List Nat} {j : Nat} {te : M D} {ds : List D} {c : Cm} {ρ : Ev} {S : Sto} {Q : D → Sto → Prop} {X : XQ} (f : D → Bool) (hG : G S) (hl : ds.length ≤ 1000000)
    (hs : ∀ d ∈ ds, wp (te c ((wipeD ρ own).set j (some d)) S) (fun y T => y = .bl (f d) ∧ T = S) noX) (q : Q (.bl (ds.all f)) S) :
    wp (compL G own (.nm j) tYesD te ds [] c ρ S) (fun es S1 => wp (allOf es S1) Q X) X :=
  wp_compP (fun _ => true) (fun d => .bl (f d)) hG (by rw [sizeLine_eq]; omega) (fun d hd => ⟨_, rfl, wp_of (a := true) (S := S) rfl ⟨rfl, rfl, fun _ => hs d hd⟩⟩) (by rw [filter_yes, all_mapw]; exact q)
mutual
/-- the weight of a value, what stands behind references left out -/
def ks (n : Nat) : D → Option Nat
  | .ref k => if k < n then some 0 else none
  | .tup ds => kss n ds
  | .int _ => some 70
  | .rol _ => none
  | .ty _ => none
  | _ => some 0
def kss (n : Nat) : List D → Option Nat
  | [] => some 0
  | d :: ds => match ks n d, kss n ds with
    | some a, some b => some (a + 1 + b)
    | _, _ => none
end
theorem kss_inv {n : Nat} {d : D} {ds : List D} {w : Nat} (h : kss n (d :: ds) = some w) : ∃ a b, ks n d = some a ∧ kss n ds = some b ∧ w = a + 1 + b := by
  simp only [kss] at h
  split at h
  · rename_i a b e1 e2
    cases h
    exact ⟨a, b, e1, e2, rfl⟩
  · cases h
theorem kss_cons {n : Nat} {d : D} {ds : List D} {a b : Nat} (h1 : ks n d = some a) (h2 : kss n ds = some b) : kss n (d :: ds) = some (a + 1 + b) := by simp only [kss, h1, h2]
mutual
theorem ks_mono {n m : Nat} (h : n ≤ m) : ∀ {d : D} {w : Nat}, ks n d = some w → ks m d = some w
  | .ref k, w, e => by
    simp only [ks] at e ⊢
    by_cases hk : k < n
    · rw [if_pos hk] at e; rw [if_pos (by omega)]; exact e
    · rw [if_neg hk] at e; cases e
  | .tup ds, w, e => by simp only [ks] at e ⊢; exact kss_mono h e
  | .int _, w, e => by simpa only [ks] using e
  | .rol _, w, e => by simp only [ks] at e; cases e
  | .ty _, w, e => by simp only [ks] at e; cases e
  | .non, w, e => by simpa only [ks] using e
  | .bl _, w, e => by simpa only [ks] using e
  | .str _, w, e => by simpa only [ks] using e
theorem kss_mono {n m : Nat} (h : n ≤ m) : ∀ {ds : List D} {w : Nat}, kss n ds = some w → kss m ds = some w
  | [], w, e => by simpa only [kss] using e
  | d :: ds, w, e => by
    obtain ⟨a, b, e1, e2, rfl⟩ := kss_inv e
    exact kss_cons (ks_mono h e1) (kss_mono h e2)
end
mutual
theorem gd_ks {S : Sto} : ∀ {n : Nat} {d : D} {w : Nat}, gd n S d = some w → ∃ x, ks S.length d = some x ∧ x ≤ w
  | 0, d, w, h => by simp only [gd] at h; cases h
  | n + 1, .tup ds, w, h => by simp only [gd] at h; simp only [ks]; exact gds_ks h
  | n + 1, .ref k, w, h => by
    simp only [gd] at h
    cases e : S[k]? with
    | none => rw [e] at h; cases h
    | some o => exact ⟨0, by simp only [ks]; rw [if_pos (List.getElem?_eq_some_iff.mp e).1], Nat.zero_le _⟩
  | n + 1, .int i, w, h => by
    simp only [gd] at h
    split at h
    · cases h; exact ⟨70, by simp only [ks], Nat.le_refl _⟩
    · cases h
  | n + 1, .non, w, h => ⟨0, by simp only [ks], Nat.zero_le _⟩
  | n + 1, .bl _, w, h => ⟨0, by simp only [ks], Nat.zero_le _⟩
  | n + 1, .str _, w, h => ⟨0, by simp only [ks], Nat.zero_le _⟩
  | n + 1, .rol _, w, h => by simp only [gd] at h; cases h
  | n + 1, .ty _, w, h => by simp only [gd] at h; cases h
theorem gds_ks {S : Sto} : ∀ {n : Nat} {ds : List D} {w : Nat}, gds n S ds = some w → ∃ x, kss S.length ds = some x ∧ x ≤ w
  | n, [], w, h => ⟨0, by simp only [kss], Nat.zero_le _⟩
  | n, d :: ds, w, h => by
    obtain ⟨a, b, e1, e2, rfl⟩ := gds_inv h
    obtain ⟨x, h1, h2⟩ := gd_ks e1
    obtain ⟨y, h3, h4⟩ := gds_ks e2
    exact ⟨_, kss_cons h1 h3, by omega⟩
end
def Fit (n : Nat) (v : D) (W : Nat) : Prop := ∃ w, ks n v = some w ∧ w ≤ W
theorem Good.fit {S : Sto} {v : D} {W : Nat} (h : Good S v W) : Fit S.length v W := by
  obtain ⟨n, w, h1, h2, h3⟩ := h
  obtain ⟨x, h4, h5⟩ := gd_ks h3
  exact ⟨x, h4, by omega⟩
theorem Fit.mono {n m : Nat} {v : D} {W : Nat} (h : Fit n v W) (hm : n ≤ m) : Fit m v W := let ⟨w, h1, h2⟩ := h; ⟨w, ks_mono hm h1, h2⟩
theorem Fit.le {n : Nat} {v : D} {W W' : Nat} (h : Fit n v W) (hm : W ≤ W') : Fit n v W' := let ⟨w, h1, h2⟩ := h; ⟨w, h1, by omega⟩
theorem kss_len {n : Nat} : ∀ {ds : List D} {w : Nat}, kss n ds = some w → ds.length ≤ w ∧ ∀ d ∈ ds, ∃ x, ks n d = some x ∧ x ≤ w
  | [], w, _ => ⟨Nat.zero_le _, fun d hd => by cases hd⟩
  | d :: ds, w, h => by
    obtain ⟨a, b, e1, e2, rfl⟩ := kss_inv h
    obtain ⟨h1, h2⟩ := kss_len e2
    refine ⟨by rw [List.length_cons]; omega, fun x hx => ?_⟩
    rcases List.mem_cons.mp hx with rfl | hx
    · exact ⟨a, e1, by omega⟩
    · obtain ⟨y, h3, h4⟩ := h2 x hx
      exact ⟨y, h3, by omega⟩
theorem Fit.tup {n : Nat} {ds : List D} {W : Nat} (h : Fit n (.tup ds) W) : ds.length ≤ W ∧ ∀ d ∈ ds, Fit n d W := by
  obtain ⟨w, h1, h2⟩ := h
  simp only [ks] at h1
  obtain ⟨h3, h4⟩ := kss_len h1
  exact ⟨by omega, fun d hd => let ⟨x, h5, h6⟩ := h4 d hd; ⟨x, h5, by omega⟩⟩
theorem kss_ints {n : Nat} : ∀ (ns : List Int), kss n (ns.map .int) = some (71 * ns.length)
  | [] => rfl
  | i :: ns => by
    simp only [List.map_cons, kss, ks, kss_ints ns, List.length_cons]
    congr 1; omega
theorem kss_app {n : Nat} : ∀ {as bs : List D} {a b : Nat}, kss n as = some a → kss n bs = some b → kss n (as ++ bs) = some (a + b)
  | [], bs, a, b, h1, h2 => by
    simp only [kss, Option.some.injEq] at h1
    subst h1
    rw [List.nil_append, h2, Nat.zero_add]
  | d :: as, bs, a, b, h1, h2 => by
    obtain ⟨x, y, e1, e2, rfl⟩ := kss_inv h1
    rw [List.cons_append, kss_cons e1 (kss_app e2 h2)]
    congr 1; omega
theorem kss_bound {n w : Nat} : ∀ {ds : List D}, (∀ d ∈ ds, ∃ a, ks n d = some a ∧ a ≤ w) → ∃ b, kss n ds = some b ∧ b ≤ ds.length * (w + 1)
  | [], _ => ⟨0, rfl, by simp⟩
  | d :: ds, h => by
    obtain ⟨a, h1, h2⟩ := h d List.mem_cons_self
    obtain ⟨b, h3, h4⟩ := kss_bound fun x hx => h x (List.mem_cons_of_mem _ hx)
    refine ⟨_, kss_cons h1 h3, ?_⟩
    rw [List.length_cons, Nat.add_mul]
    omega
end Rf
namespace Rf.L33
open PySem PySem.Spec PyProof.Rows L2 Rf
noncomputable section
def many (v : D) : Int := lenT (nth v 0)
def rowsOk (m : Int) (v : D) : Bool := (itm (nth v 0)).all (fun r => bnd m r m) && (itm (nth v 0)).all fun r => (itm r).all fun s => inR s 0 (many v - 1)
def endsOk (v : D) : Bool := isTup (nth v 1) && ((itm (nth v 1)).all (fun s => inR s 0 (many v - 1)) && adjI ((itm (nth v 1)).map iv))
def isW (m : Int) (v : D) : Bool := bnd 2 v 2 && (bnd 1 (nth v 0) 4 && (rowsOk m v && endsOk v))
theorem _root_.Rf.Fit.kn {S : Sto} {v : D} {W : Nat} (h : Fit S.length v W) : Kn S v := by
  obtain ⟨w, h1, _⟩ := h
  cases v with
  | non => exact ⟨_, rfl, by decide⟩
  | bl b => exact ⟨_, rfl, by decide⟩
  | int i => exact ⟨_, rfl, by decide⟩
  | str x => exact ⟨_, rfl, by decide⟩
  | tup ds => exact ⟨_, rfl, by decide⟩
  | ref k =>
    simp only [ks] at h1
    by_cases hk : k < S.length
    · have e : S[k]? = some S[k] := by simp [hk]
      cases q : S[k] with
      | lst ds => exact ⟨"list", by simp only [tyOfD, e, q], by decide⟩
    · rw [if_neg hk] at h1; cases h1
  | rol ns => simp only [ks] at h1; cases h1
  | ty n => simp only [ks] at h1; cases h1
theorem ints_iv {ds : List D} {lo hi : Int} (h : (ds.all fun p => inR p lo hi) = true) : ds = (ds.map iv).map .int := by
  obtain ⟨ns, rfl⟩ := ints_all h
  simp [List.map_map, Function.comp_def, iv]
theorem c_is_watcher (k : Nat) (a b : D) (S : Sto) : C (k + 1) 9 [a, b] S = endD S.length (m_is_watcher (cm k) [some a, some b, none, none, none] S) := rfl
theorem s0b (k : Nat) {v : D} {lo hi : Int} {S : Sto} (w : Wf S) (h : Kn S v) : C (k + 1) 0 [v, .int lo, .int hi] S = .ok (.bl (bnd lo v hi)) S := s0 k w h
theorem idxT {v : D} {i : Nat} {S : Sto} (h : isTup v = true) (hi : i < lenT v) : idxD v (.int (i : Int)) S = .ok (nth v i) S := idx_nth h hi
theorem itm_t {ds : List D} : itm (.tup ds) = ds := rfl
theorem isTup_t {ds : List D} : isTup (.tup ds) = true := rfl
theorem tup1 {v : D} (h : isTup v = true) : ∃ ds, v = .tup ds := by
  cases v with
  | tup ds => exact ⟨ds, rfl⟩
  | _ => cases h
theorem tup2 {v : D} (h : bnd 2 v 2 = true) : ∃ a b, v = .tup [a, b] := by
  obtain ⟨h1, h2, h3⟩ := bnd_of h
  obtain ⟨ds, rfl⟩ := tup1 h1
  have hl : ds.length = 2 := by
    simp only [lenT] at h2 h3; omega
  match ds, hl with
  | [a, b], _ => exact ⟨a, b, rfl⟩
theorem s_is_watcher (k : Nat) {m : Int} {s v : D} {rs : List D} {S : Sto} (w : Wf S) (ho : Off (.tup [.int m, s, .tup rs])) (h : Fit S.length v 500000) :
    C (k + 6) 9 [.tup [.int m, s, .tup rs], v] S = .ok (.bl (isW m v)) S := by
  apply ok_of
  rw [c_is_watcher]
  unfold m_is_watcher
  simp only [w_var, vk_s, w_lit, w_op, w_un, w_new, w_nil, w_cons, w_starL, w_star, stk_s, w_tup, w_lst, w_call, w_bi, w_li, w_tru, trk_s, w_boo, bok_b, w_tan, ank_t, ank_f, w_tor, ork_f, ork_t, w_tno, w_tyes, w_man, mank_t, mank_f, w_mor, mok_f, mok_t, w_mno, w_mif, ifv_t, ifv_f, w_chain, chk_t, chk_f, w_optn, w_opts, opk_i, w_sl, w_met, metk_t, w_metl, w_snil, w_ret, w_retn, w_drop, w_if, ifk_t, ifk_f, w_asg, agk_nm, w_par2, w_par3, w_sub, w_seq, sk_nx, sk_rt, sk_bk, sk_ct, w_end, ek_rt, ek_nx, w_any, srk_s, w_inew, w_rg1, w_rg2, w_zip, w_enum, w_comp, w_for, List.getElem?_cons_zero, List.getElem?_cons_succ, List.set_cons_zero, List.set_cons_succ, wp_ok, truth, Bool.not_true, Bool.not_false, sizeLine_eq, List.length_cons, List.length_nil, Nat.reduceAdd, Nat.reduceLeDiff, true_and, cmpI, subD, negD, s6 k w ho, (s0b (k + 4) w h.kn : C (k + 5) 0 _ _ = _)]
  unfold isW
  cases h2 : bnd 2 v 2 with
  | false =>
    simp only [w_var, vk_s, w_lit, w_op, w_un, w_new, w_nil, w_cons, w_starL, w_star, stk_s, w_tup, w_lst, w_call, w_bi, w_li, w_tru, trk_s, w_boo, bok_b, w_tan, ank_t, ank_f, w_tor, ork_f, ork_t, w_tno, w_tyes, w_man, mank_t, mank_f, w_mor, mok_f, mok_t, w_mno, w_mif, ifv_t, ifv_f, w_chain, chk_t, chk_f, w_optn, w_opts, opk_i, w_sl, w_met, metk_t, w_metl, w_snil, w_ret, w_retn, w_drop, w_if, ifk_t, ifk_f, w_asg, agk_nm, w_par2, w_par3, w_sub, w_seq, sk_nx, sk_rt, sk_bk, sk_ct, w_end, ek_rt, ek_nx, w_any, srk_s, w_inew, w_rg1, w_rg2, w_zip, w_enum, w_comp, w_for, List.getElem?_cons_zero, List.getElem?_cons_succ, List.set_cons_zero, List.set_cons_succ, wp_ok, truth, Bool.not_true, Bool.not_false, sizeLine_eq, List.length_cons, List.length_nil, Nat.reduceAdd, Nat.reduceLeDiff, true_and, cmpI, subD, negD, Bool.false_and]
    exact tk_self w rfl ⟨rfl, rfl⟩
  | true =>
    obtain ⟨a, b, rfl⟩ := tup2 h2
    have g0 := h.tup.2 a (by simp)
    have g1 := h.tup.2 b (by simp)
    have n0 : nth (.tup [a, b]) 0 = a := rfl
    have n1 : nth (.tup [a, b]) 1 = b := rfl
    simp only [w_var, vk_s, w_lit, w_op, w_un, w_new, w_nil, w_cons, w_starL, w_star, stk_s, w_tup, w_lst, w_call, w_bi, w_li, w_tru, trk_s, w_boo, bok_b, w_tan, ank_t, ank_f, w_tor, ork_f, ork_t, w_tno, w_tyes, w_man, mank_t, mank_f, w_mor, mok_f, mok_t, w_mno, w_mif, ifv_t, ifv_f, w_chain, chk_t, chk_f, w_optn, w_opts, opk_i, w_sl, w_met, metk_t, w_metl, w_snil, w_ret, w_retn, w_drop, w_if, ifk_t, ifk_f, w_asg, agk_nm, w_par2, w_par3, w_sub, w_seq, sk_nx, sk_rt, sk_bk, sk_ct, w_end, ek_rt, ek_nx, w_any, srk_s, w_inew, w_rg1, w_rg2, w_zip, w_enum, w_comp, w_for, List.getElem?_cons_zero, List.getElem?_cons_succ, List.set_cons_zero, List.set_cons_succ, wp_ok, truth, Bool.not_true, Bool.not_false, sizeLine_eq, List.length_cons, List.length_nil, Nat.reduceAdd, Nat.reduceLeDiff, true_and, cmpI, subD, negD, idx0, (s0b (k + 4) w g0.kn : C (k + 5) 0 _ _ = _), n0, rowsOk, endsOk, n1, many]
    cases h3 : bnd 1 a 4 with
    | false =>
      simp only [w_var, vk_s, w_lit, w_op, w_un, w_new, w_nil, w_cons, w_starL, w_star, stk_s, w_tup, w_lst, w_call, w_bi, w_li, w_tru, trk_s, w_boo, bok_b, w_tan, ank_t, ank_f, w_tor, ork_f, ork_t, w_tno, w_tyes, w_man, mank_t, mank_f, w_mor, mok_f, mok_t, w_mno, w_mif, ifv_t, ifv_f, w_chain, chk_t, chk_f, w_optn, w_opts, opk_i, w_sl, w_met, metk_t, w_metl, w_snil, w_ret, w_retn, w_drop, w_if, ifk_t, ifk_f, w_asg, agk_nm, w_par2, w_par3, w_sub, w_seq, sk_nx, sk_rt, sk_bk, sk_ct, w_end, ek_rt, ek_nx, w_any, srk_s, w_inew, w_rg1, w_rg2, w_zip, w_enum, w_comp, w_for, List.getElem?_cons_zero, List.getElem?_cons_succ, List.set_cons_zero, List.set_cons_succ, wp_ok, truth, Bool.not_true, Bool.not_false, sizeLine_eq, List.length_cons, List.length_nil, Nat.reduceAdd, Nat.reduceLeDiff, true_and, cmpI, subD, negD, Bool.false_and, Bool.and_false]
      exact tk_self w rfl ⟨rfl, rfl⟩
    | true =>
      have b3 := bnd_of h3
      obtain ⟨rows, rfl⟩ := tup1 b3.1
      have l3 : rows.length ≤ 4 := by have := b3.2.2; simp only [lenT] at this; omega
      simp only [w_var, vk_s, w_lit, w_op, w_un, w_new, w_nil, w_cons, w_starL, w_star, stk_s, w_tup, w_lst, w_call, w_bi, w_li, w_tru, trk_s, w_boo, bok_b, w_tan, ank_t, ank_f, w_tor, ork_f, ork_t, w_tno, w_tyes, w_man, mank_t, mank_f, w_mor, mok_f, mok_t, w_mno, w_mif, ifv_t, ifv_f, w_chain, chk_t, chk_f, w_optn, w_opts, opk_i, w_sl, w_met, metk_t, w_metl, w_snil, w_ret, w_retn, w_drop, w_if, ifk_t, ifk_f, w_asg, agk_nm, w_par2, w_par3, w_sub, w_seq, sk_nx, sk_rt, sk_bk, sk_ct, w_end, ek_rt, ek_nx, w_any, srk_s, w_inew, w_rg1, w_rg2, w_zip, w_enum, w_comp, w_for, List.getElem?_cons_zero, List.getElem?_cons_succ, List.set_cons_zero, List.set_cons_succ, wp_ok, truth, Bool.not_true, Bool.not_false, sizeLine_eq, List.length_cons, List.length_nil, Nat.reduceAdd, Nat.reduceLeDiff, true_and, cmpI, subD, negD, idx0, lenD, srcOf, Bool.true_and, lenT, itm_t]
      refine wp_all (fun r => bnd m r m) trivial (by omega) (fun d hd => ?_) ?_
      · simp only [w_var, vk_s, w_lit, w_op, w_un, w_new, w_nil, w_cons, w_starL, w_star, stk_s, w_tup, w_lst, w_call, w_bi, w_li, w_tru, trk_s, w_boo, bok_b, w_tan, ank_t, ank_f, w_tor, ork_f, ork_t, w_tno, w_tyes, w_man, mank_t, mank_f, w_mor, mok_f, mok_t, w_mno, w_mif, ifv_t, ifv_f, w_chain, chk_t, chk_f, w_optn, w_opts, opk_i, w_sl, w_met, metk_t, w_metl, w_snil, w_ret, w_retn, w_drop, w_if, ifk_t, ifk_f, w_asg, agk_nm, w_par2, w_par3, w_sub, w_seq, sk_nx, sk_rt, sk_bk, sk_ct, w_end, ek_rt, ek_nx, w_any, srk_s, w_inew, w_rg1, w_rg2, w_zip, w_enum, w_comp, w_for, List.getElem?_cons_zero, List.getElem?_cons_succ, List.set_cons_zero, List.set_cons_succ, wp_ok, truth, Bool.not_true, Bool.not_false, sizeLine_eq, List.length_cons, List.length_nil, Nat.reduceAdd, Nat.reduceLeDiff, true_and, cmpI, subD, negD, wipeD, idx0, (s0b (k + 4) w (g0.tup.2 d hd).kn : C (k + 5) 0 _ _ = _)]
      cases h4 : rows.all (fun r => bnd m r m) with
      | false =>
        simp only [w_var, vk_s, w_lit, w_op, w_un, w_new, w_nil, w_cons, w_starL, w_star, stk_s, w_tup, w_lst, w_call, w_bi, w_li, w_tru, trk_s, w_boo, bok_b, w_tan, ank_t, ank_f, w_tor, ork_f, ork_t, w_tno, w_tyes, w_man, mank_t, mank_f, w_mor, mok_f, mok_t, w_mno, w_mif, ifv_t, ifv_f, w_chain, chk_t, chk_f, w_optn, w_opts, opk_i, w_sl, w_met, metk_t, w_metl, w_snil, w_ret, w_retn, w_drop, w_if, ifk_t, ifk_f, w_asg, agk_nm, w_par2, w_par3, w_sub, w_seq, sk_nx, sk_rt, sk_bk, sk_ct, w_end, ek_rt, ek_nx, w_any, srk_s, w_inew, w_rg1, w_rg2, w_zip, w_enum, w_comp, w_for, List.getElem?_cons_zero, List.getElem?_cons_succ, List.set_cons_zero, List.set_cons_succ, wp_ok, truth, Bool.not_true, Bool.not_false, sizeLine_eq, List.length_cons, List.length_nil, Nat.reduceAdd, Nat.reduceLeDiff, true_and, cmpI, subD, negD, Bool.false_and, Bool.and_false]
        exact tk_self w rfl ⟨rfl, rfl⟩
      | true =>
        simp only [w_var, vk_s, w_lit, w_op, w_un, w_new, w_nil, w_cons, w_starL, w_star, stk_s, w_tup, w_lst, w_call, w_bi, w_li, w_tru, trk_s, w_boo, bok_b, w_tan, ank_t, ank_f, w_tor, ork_f, ork_t, w_tno, w_tyes, w_man, mank_t, mank_f, w_mor, mok_f, mok_t, w_mno, w_mif, ifv_t, ifv_f, w_chain, chk_t, chk_f, w_optn, w_opts, opk_i, w_sl, w_met, metk_t, w_metl, w_snil, w_ret, w_retn, w_drop, w_if, ifk_t, ifk_f, w_asg, agk_nm, w_par2, w_par3, w_sub, w_seq, sk_nx, sk_rt, sk_bk, sk_ct, w_end, ek_rt, ek_nx, w_any, srk_s, w_inew, w_rg1, w_rg2, w_zip, w_enum, w_comp, w_for, List.getElem?_cons_zero, List.getElem?_cons_succ, List.set_cons_zero, List.set_cons_succ, wp_ok, truth, Bool.not_true, Bool.not_false, sizeLine_eq, List.length_cons, List.length_nil, Nat.reduceAdd, Nat.reduceLeDiff, true_and, cmpI, subD, negD, idx0, srcOf, Bool.true_and]
        refine wp_all (fun r => (itm r).all fun s => inR s 0 (rows.length - 1)) trivial (by omega) (fun d hd => ?_) ?_
        · obtain ⟨r, rfl⟩ := tup1 (bnd_of (List.all_eq_true.mp h4 d hd)).1
          have gr := g0.tup.2 _ hd
          simp only [w_var, vk_s, w_lit, w_op, w_un, w_new, w_nil, w_cons, w_starL, w_star, stk_s, w_tup, w_lst, w_call, w_bi, w_li, w_tru, trk_s, w_boo, bok_b, w_tan, ank_t, ank_f, w_tor, ork_f, ork_t, w_tno, w_tyes, w_man, mank_t, mank_f, w_mor, mok_f, mok_t, w_mno, w_mif, ifv_t, ifv_f, w_chain, chk_t, chk_f, w_optn, w_opts, opk_i, w_sl, w_met, metk_t, w_metl, w_snil, w_ret, w_retn, w_drop, w_if, ifk_t, ifk_f, w_asg, agk_nm, w_par2, w_par3, w_sub, w_seq, sk_nx, sk_rt, sk_bk, sk_ct, w_end, ek_rt, ek_nx, w_any, srk_s, w_inew, w_rg1, w_rg2, w_zip, w_enum, w_comp, w_for, List.getElem?_cons_zero, List.getElem?_cons_succ, List.set_cons_zero, List.set_cons_succ, wp_ok, truth, Bool.not_true, Bool.not_false, sizeLine_eq, List.length_cons, List.length_nil, Nat.reduceAdd, Nat.reduceLeDiff, true_and, cmpI, subD, negD, wipeD, srcOf, itm_t]
          refine wp_all (fun s => inR s 0 (rows.length - 1)) trivial (by have := gr.tup.1; omega) (fun d hd => ?_) ⟨rfl, rfl⟩
          simp only [w_var, vk_s, w_lit, w_op, w_un, w_new, w_nil, w_cons, w_starL, w_star, stk_s, w_tup, w_lst, w_call, w_bi, w_li, w_tru, trk_s, w_boo, bok_b, w_tan, ank_t, ank_f, w_tor, ork_f, ork_t, w_tno, w_tyes, w_man, mank_t, mank_f, w_mor, mok_f, mok_t, w_mno, w_mif, ifv_t, ifv_f, w_chain, chk_t, chk_f, w_optn, w_opts, opk_i, w_sl, w_met, metk_t, w_metl, w_snil, w_ret, w_retn, w_drop, w_if, ifk_t, ifk_f, w_asg, agk_nm, w_par2, w_par3, w_sub, w_seq, sk_nx, sk_rt, sk_bk, sk_ct, w_end, ek_rt, ek_nx, w_any, srk_s, w_inew, w_rg1, w_rg2, w_zip, w_enum, w_comp, w_for, List.getElem?_cons_zero, List.getElem?_cons_succ, List.set_cons_zero, List.set_cons_succ, wp_ok, truth, Bool.not_true, Bool.not_false, sizeLine_eq, List.length_cons, List.length_nil, Nat.reduceAdd, Nat.reduceLeDiff, true_and, cmpI, subD, negD, wipeD, subD, (s2 (k + 3) w (gr.tup.2 d hd).kn : C (k + 5) 2 _ _ = _)]
        cases h5 : rows.all (fun r => (itm r).all fun s => inR s 0 (rows.length - 1)) with
        | false =>
          simp only [w_var, vk_s, w_lit, w_op, w_un, w_new, w_nil, w_cons, w_starL, w_star, stk_s, w_tup, w_lst, w_call, w_bi, w_li, w_tru, trk_s, w_boo, bok_b, w_tan, ank_t, ank_f, w_tor, ork_f, ork_t, w_tno, w_tyes, w_man, mank_t, mank_f, w_mor, mok_f, mok_t, w_mno, w_mif, ifv_t, ifv_f, w_chain, chk_t, chk_f, w_optn, w_opts, opk_i, w_sl, w_met, metk_t, w_metl, w_snil, w_ret, w_retn, w_drop, w_if, ifk_t, ifk_f, w_asg, agk_nm, w_par2, w_par3, w_sub, w_seq, sk_nx, sk_rt, sk_bk, sk_ct, w_end, ek_rt, ek_nx, w_any, srk_s, w_inew, w_rg1, w_rg2, w_zip, w_enum, w_comp, w_for, List.getElem?_cons_zero, List.getElem?_cons_succ, List.set_cons_zero, List.set_cons_succ, wp_ok, truth, Bool.not_true, Bool.not_false, sizeLine_eq, List.length_cons, List.length_nil, Nat.reduceAdd, Nat.reduceLeDiff, true_and, cmpI, subD, negD, Bool.false_and, Bool.and_false]
          exact tk_self w rfl ⟨rfl, rfl⟩
        | true =>
          simp only [w_var, vk_s, w_lit, w_op, w_un, w_new, w_nil, w_cons, w_starL, w_star, stk_s, w_tup, w_lst, w_call, w_bi, w_li, w_tru, trk_s, w_boo, bok_b, w_tan, ank_t, ank_f, w_tor, ork_f, ork_t, w_tno, w_tyes, w_man, mank_t, mank_f, w_mor, mok_f, mok_t, w_mno, w_mif, ifv_t, ifv_f, w_chain, chk_t, chk_f, w_optn, w_opts, opk_i, w_sl, w_met, metk_t, w_metl, w_snil, w_ret, w_retn, w_drop, w_if, ifk_t, ifk_f, w_asg, agk_nm, w_par2, w_par3, w_sub, w_seq, sk_nx, sk_rt, sk_bk, sk_ct, w_end, ek_rt, ek_nx, w_any, srk_s, w_inew, w_rg1, w_rg2, w_zip, w_enum, w_comp, w_for, List.getElem?_cons_zero, List.getElem?_cons_succ, List.set_cons_zero, List.set_cons_succ, wp_ok, truth, Bool.not_true, Bool.not_false, sizeLine_eq, List.length_cons, List.length_nil, Nat.reduceAdd, Nat.reduceLeDiff, true_and, cmpI, subD, negD, idx1, isi_tup g1.kn, Bool.true_and]
          cases h6 : isTup b with
          | false =>
            simp only [w_var, vk_s, w_lit, w_op, w_un, w_new, w_nil, w_cons, w_starL, w_star, stk_s, w_tup, w_lst, w_call, w_bi, w_li, w_tru, trk_s, w_boo, bok_b, w_tan, ank_t, ank_f, w_tor, ork_f, ork_t, w_tno, w_tyes, w_man, mank_t, mank_f, w_mor, mok_f, mok_t, w_mno, w_mif, ifv_t, ifv_f, w_chain, chk_t, chk_f, w_optn, w_opts, opk_i, w_sl, w_met, metk_t, w_metl, w_snil, w_ret, w_retn, w_drop, w_if, ifk_t, ifk_f, w_asg, agk_nm, w_par2, w_par3, w_sub, w_seq, sk_nx, sk_rt, sk_bk, sk_ct, w_end, ek_rt, ek_nx, w_any, srk_s, w_inew, w_rg1, w_rg2, w_zip, w_enum, w_comp, w_for, List.getElem?_cons_zero, List.getElem?_cons_succ, List.set_cons_zero, List.set_cons_succ, wp_ok, truth, Bool.not_true, Bool.not_false, sizeLine_eq, List.length_cons, List.length_nil, Nat.reduceAdd, Nat.reduceLeDiff, true_and, cmpI, subD, negD, Bool.false_and, Bool.and_false]
            exact tk_self w rfl ⟨rfl, rfl⟩
          | true =>
            obtain ⟨es, rfl⟩ := tup1 h6
            simp only [w_var, vk_s, w_lit, w_op, w_un, w_new, w_nil, w_cons, w_starL, w_star, stk_s, w_tup, w_lst, w_call, w_bi, w_li, w_tru, trk_s, w_boo, bok_b, w_tan, ank_t, ank_f, w_tor, ork_f, ork_t, w_tno, w_tyes, w_man, mank_t, mank_f, w_mor, mok_f, mok_t, w_mno, w_mif, ifv_t, ifv_f, w_chain, chk_t, chk_f, w_optn, w_opts, opk_i, w_sl, w_met, metk_t, w_metl, w_snil, w_ret, w_retn, w_drop, w_if, ifk_t, ifk_f, w_asg, agk_nm, w_par2, w_par3, w_sub, w_seq, sk_nx, sk_rt, sk_bk, sk_ct, w_end, ek_rt, ek_nx, w_any, srk_s, w_inew, w_rg1, w_rg2, w_zip, w_enum, w_comp, w_for, List.getElem?_cons_zero, List.getElem?_cons_succ, List.set_cons_zero, List.set_cons_succ, wp_ok, truth, Bool.not_true, Bool.not_false, sizeLine_eq, List.length_cons, List.length_nil, Nat.reduceAdd, Nat.reduceLeDiff, true_and, cmpI, subD, negD, idx1, srcOf, Bool.true_and, itm_t]
            refine wp_all (fun s => inR s 0 (rows.length - 1)) trivial (by have := g1.tup.1; omega) (fun d hd => ?_) ?_
            · simp only [w_var, vk_s, w_lit, w_op, w_un, w_new, w_nil, w_cons, w_starL, w_star, stk_s, w_tup, w_lst, w_call, w_bi, w_li, w_tru, trk_s, w_boo, bok_b, w_tan, ank_t, ank_f, w_tor, ork_f, ork_t, w_tno, w_tyes, w_man, mank_t, mank_f, w_mor, mok_f, mok_t, w_mno, w_mif, ifv_t, ifv_f, w_chain, chk_t, chk_f, w_optn, w_opts, opk_i, w_sl, w_met, metk_t, w_metl, w_snil, w_ret, w_retn, w_drop, w_if, ifk_t, ifk_f, w_asg, agk_nm, w_par2, w_par3, w_sub, w_seq, sk_nx, sk_rt, sk_bk, sk_ct, w_end, ek_rt, ek_nx, w_any, srk_s, w_inew, w_rg1, w_rg2, w_zip, w_enum, w_comp, w_for, List.getElem?_cons_zero, List.getElem?_cons_succ, List.set_cons_zero, List.set_cons_succ, wp_ok, truth, Bool.not_true, Bool.not_false, sizeLine_eq, List.length_cons, List.length_nil, Nat.reduceAdd, Nat.reduceLeDiff, true_and, cmpI, subD, negD, wipeD, subD, (s2 (k + 3) w (g1.tup.2 d hd).kn : C (k + 5) 2 _ _ = _)]
            cases h7 : es.all (fun s => inR s 0 (rows.length - 1)) with
            | false =>
              simp only [w_var, vk_s, w_lit, w_op, w_un, w_new, w_nil, w_cons, w_starL, w_star, stk_s, w_tup, w_lst, w_call, w_bi, w_li, w_tru, trk_s, w_boo, bok_b, w_tan, ank_t, ank_f, w_tor, ork_f, ork_t, w_tno, w_tyes, w_man, mank_t, mank_f, w_mor, mok_f, mok_t, w_mno, w_mif, ifv_t, ifv_f, w_chain, chk_t, chk_f, w_optn, w_opts, opk_i, w_sl, w_met, metk_t, w_metl, w_snil, w_ret, w_retn, w_drop, w_if, ifk_t, ifk_f, w_asg, agk_nm, w_par2, w_par3, w_sub, w_seq, sk_nx, sk_rt, sk_bk, sk_ct, w_end, ek_rt, ek_nx, w_any, srk_s, w_inew, w_rg1, w_rg2, w_zip, w_enum, w_comp, w_for, List.getElem?_cons_zero, List.getElem?_cons_succ, List.set_cons_zero, List.set_cons_succ, wp_ok, truth, Bool.not_true, Bool.not_false, sizeLine_eq, List.length_cons, List.length_nil, Nat.reduceAdd, Nat.reduceLeDiff, true_and, cmpI, subD, negD, Bool.false_and, Bool.and_false]
              exact tk_self w rfl ⟨rfl, rfl⟩
            | true =>
              have ei := ints_iv h7
              rw [ei]
              simp only [w_var, vk_s, w_lit, w_op, w_un, w_new, w_nil, w_cons, w_starL, w_star, stk_s, w_tup, w_lst, w_call, w_bi, w_li, w_tru, trk_s, w_boo, bok_b, w_tan, ank_t, ank_f, w_tor, ork_f, ork_t, w_tno, w_tyes, w_man, mank_t, mank_f, w_mor, mok_f, mok_t, w_mno, w_mif, ifv_t, ifv_f, w_chain, chk_t, chk_f, w_optn, w_opts, opk_i, w_sl, w_met, metk_t, w_metl, w_snil, w_ret, w_retn, w_drop, w_if, ifk_t, ifk_f, w_asg, agk_nm, w_par2, w_par3, w_sub, w_seq, sk_nx, sk_rt, sk_bk, sk_ct, w_end, ek_rt, ek_nx, w_any, srk_s, w_inew, w_rg1, w_rg2, w_zip, w_enum, w_comp, w_for, List.getElem?_cons_zero, List.getElem?_cons_succ, List.set_cons_zero, List.set_cons_succ, wp_ok, truth, Bool.not_true, Bool.not_false, sizeLine_eq, List.length_cons, List.length_nil, Nat.reduceAdd, Nat.reduceLeDiff, true_and, cmpI, subD, negD, idx1, (s3i (k + 4) (ns := es.map iv) w (by rw [List.length_map]; have := g1.tup.1; omega) : C (k + 5) 3 _ _ = _), Bool.true_and]
              have e2 : List.map iv (List.map D.int (List.map iv es)) = List.map iv es := by rw [← ei]
              refine tk_self w rfl ⟨?_, rfl⟩
              have h8 : (List.map D.int (List.map iv es)).all (fun s => inR s 0 (↑rows.length - 1)) = true := by rw [← ei]; exact h7
              simp only [h6, itm_t, h7, h8, e2, Bool.true_and]
              done
end
end Rf.L33
end

section
set_option Elab.async false
set_option linter.all false
set_option maxRecDepth 100000
set_option maxHeartbeats 4000000
namespace Rf
open PySem PySem.Spec PyProof.Rows L2
theorem lset_tup {ds es : List D} {c : Cm} {ρ : Ev} {S S1 : Sto} {ma : M D} (h : ma c ρ S = .ok (.tup ds) S1) (hs : setSort ds = some es) : lSset ma c ρ S = .ok es S1 := by
  simp only [lSset, M.bind, h, Res.bind, itemsOf, hs]
theorem list_tup {ds : List D} {S : Sto} (hl : ds.length ≤ 1000000) : listD [.tup ds] S = .ok (.ref S.length) (S ++ [.lst ds]) := by
  show (if ds.length ≤ sizeLine then _ else _) = _
  exact if_pos (by rw [sizeLine_eq]; omega)
end Rf
namespace Rf.L33
open PySem PySem.Spec PyProof.Rows L2 Rf
noncomputable section
theorem c_law_is_watcher (k : Nat) (a b : D) (S : Sto) : C (k + 1) 23 [a, b] S = endD S.length (m_law_is_watcher (cm k) [some a, some b, none, none, none] S) := rfl
theorem bnd_len {ds : List D} {lo hi : Int} : bnd lo (.tup ds) hi = (decide (lo ≤ ds.length) && decide ((ds.length : Int) ≤ hi)) := rfl
def okRow (m n : Int) (r : D) : Bool := bnd m r m && (itm r).all fun s => inR s 0 (n - 1)
theorem rows_ok {m n : Int} (rows : List D) : (rows.all (fun r => bnd m r m) && rows.all fun r => (itm r).all fun s => inR s 0 (n - 1)) = rows.all (okRow m n) := by
  induction rows with
  | nil => rfl
  | cons r rows ih =>
    simp only [List.all_cons, ← ih, okRow]
    cases bnd m r m <;> cases (itm r).all (fun s => inR s 0 (n - 1)) <;> cases rows.all (fun r => bnd m r m) <;> simp
theorem bnd_tup {r : D} {m : Int} : bnd m r m = (isTup r && ((lenT r : Int) == m)) := by
  unfold bnd
  cases isTup r with
  | false => rfl
  | true =>
    rw [Bool.true_and, Bool.true_and, Bool.eq_iff_iff]
    simp; omega
theorem s_law_is_watcher (k : Nat) {m : Int} {s v : D} {rs : List D} {S : Sto} (w : Wf S) (ho : Off (.tup [.int m, s, .tup rs])) (h : Fit S.length v 500000) (hn : ∀ ns : List Int, nth v 1 = .tup (ns.map .int) → ns.length < 64) :
    C (k + 3) 23 [.tup [.int m, s, .tup rs], v] S = .ok (.bl (isW m v)) S := by
  apply ok_of
  rw [c_law_is_watcher]
  unfold m_law_is_watcher
  simp only [w_var, vk_s, w_lit, w_op, w_un, w_new, w_nil, w_cons, w_starL, w_star, stk_s, w_tup, w_lst, w_call, w_bi, w_li, w_tru, trk_s, w_boo, bok_b, w_tan, ank_t, ank_f, w_tor, ork_f, ork_t, w_tno, w_tyes, w_man, mank_t, mank_f, w_mor, mok_f, mok_t, w_mno, w_mif, ifv_t, ifv_f, w_chain, chk_t, chk_f, w_optn, w_opts, opk_i, w_sl, w_met, metk_t, w_metl, w_snil, w_ret, w_retn, w_drop, w_if, ifk_t, ifk_f, w_asg, agk_nm, w_par2, w_par3, w_sub, w_seq, sk_nx, sk_rt, sk_bk, sk_ct, w_end, ek_rt, ek_nx, w_any, srk_s, w_inew, w_rg1, w_rg2, w_zip, w_enum, w_comp, w_for, List.getElem?_cons_zero, List.getElem?_cons_succ, List.set_cons_zero, List.set_cons_succ, wp_ok, truth, Bool.not_true, Bool.not_false, sizeLine_eq, List.length_cons, List.length_nil, Nat.reduceAdd, Nat.reduceLeDiff, true_and, cmpI, subD, negD, isi_tup h.kn]
  have lenF : ∀ {v : D} {hi : Int}, isTup v = false → bnd hi v hi = false := fun h => by unfold bnd; rw [h]; rfl
  cases h1 : isTup v with
  | false =>
    simp only [w_var, vk_s, w_lit, w_op, w_un, w_new, w_nil, w_cons, w_starL, w_star, stk_s, w_tup, w_lst, w_call, w_bi, w_li, w_tru, trk_s, w_boo, bok_b, w_tan, ank_t, ank_f, w_tor, ork_f, ork_t, w_tno, w_tyes, w_man, mank_t, mank_f, w_mor, mok_f, mok_t, w_mno, w_mif, ifv_t, ifv_f, w_chain, chk_t, chk_f, w_optn, w_opts, opk_i, w_sl, w_met, metk_t, w_metl, w_snil, w_ret, w_retn, w_drop, w_if, ifk_t, ifk_f, w_asg, agk_nm, w_par2, w_par3, w_sub, w_seq, sk_nx, sk_rt, sk_bk, sk_ct, w_end, ek_rt, ek_nx, w_any, srk_s, w_inew, w_rg1, w_rg2, w_zip, w_enum, w_comp, w_for, List.getElem?_cons_zero, List.getElem?_cons_succ, List.set_cons_zero, List.set_cons_succ, wp_ok, truth, Bool.not_true, Bool.not_false, sizeLine_eq, List.length_cons, List.length_nil, Nat.reduceAdd, Nat.reduceLeDiff, true_and, cmpI, subD, negD]
    have : bnd 2 v 2 = false := by unfold bnd; rw [h1]; rfl
    exact tk_self w rfl ⟨by unfold isW; rw [this]; rfl, rfl⟩
  | true =>
    simp only [w_var, vk_s, w_lit, w_op, w_un, w_new, w_nil, w_cons, w_starL, w_star, stk_s, w_tup, w_lst, w_call, w_bi, w_li, w_tru, trk_s, w_boo, bok_b, w_tan, ank_t, ank_f, w_tor, ork_f, ork_t, w_tno, w_tyes, w_man, mank_t, mank_f, w_mor, mok_f, mok_t, w_mno, w_mif, ifv_t, ifv_f, w_chain, chk_t, chk_f, w_optn, w_opts, opk_i, w_sl, w_met, metk_t, w_metl, w_snil, w_ret, w_retn, w_drop, w_if, ifk_t, ifk_f, w_asg, agk_nm, w_par2, w_par3, w_sub, w_seq, sk_nx, sk_rt, sk_bk, sk_ct, w_end, ek_rt, ek_nx, w_any, srk_s, w_inew, w_rg1, w_rg2, w_zip, w_enum, w_comp, w_for, List.getElem?_cons_zero, List.getElem?_cons_succ, List.set_cons_zero, List.set_cons_succ, wp_ok, truth, Bool.not_true, Bool.not_false, sizeLine_eq, List.length_cons, List.length_nil, Nat.reduceAdd, Nat.reduceLeDiff, true_and, cmpI, subD, negD, len_tup h1, ne_int]
    have e2 : bnd 2 v 2 = ((lenT v : Int) == 2) := by rw [bnd_tup, h1, Bool.true_and]
    unfold isW
    rw [e2]
    cases h2 : ((lenT v : Int) == 2) with
    | false =>
      simp only [w_var, vk_s, w_lit, w_op, w_un, w_new, w_nil, w_cons, w_starL, w_star, stk_s, w_tup, w_lst, w_call, w_bi, w_li, w_tru, trk_s, w_boo, bok_b, w_tan, ank_t, ank_f, w_tor, ork_f, ork_t, w_tno, w_tyes, w_man, mank_t, mank_f, w_mor, mok_f, mok_t, w_mno, w_mif, ifv_t, ifv_f, w_chain, chk_t, chk_f, w_optn, w_opts, opk_i, w_sl, w_met, metk_t, w_metl, w_snil, w_ret, w_retn, w_drop, w_if, ifk_t, ifk_f, w_asg, agk_nm, w_par2, w_par3, w_sub, w_seq, sk_nx, sk_rt, sk_bk, sk_ct, w_end, ek_rt, ek_nx, w_any, srk_s, w_inew, w_rg1, w_rg2, w_zip, w_enum, w_comp, w_for, List.getElem?_cons_zero, List.getElem?_cons_succ, List.set_cons_zero, List.set_cons_succ, wp_ok, truth, Bool.not_true, Bool.not_false, sizeLine_eq, List.length_cons, List.length_nil, Nat.reduceAdd, Nat.reduceLeDiff, true_and, cmpI, subD, negD, Bool.false_and]
      exact tk_self w rfl ⟨rfl, rfl⟩
    | true =>
      obtain ⟨a, b, rfl⟩ := tup2 (by rw [e2]; exact h2)
      have g0 := h.tup.2 a (by simp)
      have g1 := h.tup.2 b (by simp)
      have n0 : nth (.tup [a, b]) 0 = a := rfl
      have n1 : nth (.tup [a, b]) 1 = b := rfl
      simp only [w_var, vk_s, w_lit, w_op, w_un, w_new, w_nil, w_cons, w_starL, w_star, stk_s, w_tup, w_lst, w_call, w_bi, w_li, w_tru, trk_s, w_boo, bok_b, w_tan, ank_t, ank_f, w_tor, ork_f, ork_t, w_tno, w_tyes, w_man, mank_t, mank_f, w_mor, mok_f, mok_t, w_mno, w_mif, ifv_t, ifv_f, w_chain, chk_t, chk_f, w_optn, w_opts, opk_i, w_sl, w_met, metk_t, w_metl, w_snil, w_ret, w_retn, w_drop, w_if, ifk_t, ifk_f, w_asg, agk_nm, w_par2, w_par3, w_sub, w_seq, sk_nx, sk_rt, sk_bk, sk_ct, w_end, ek_rt, ek_nx, w_any, srk_s, w_inew, w_rg1, w_rg2, w_zip, w_enum, w_comp, w_for, List.getElem?_cons_zero, List.getElem?_cons_succ, List.set_cons_zero, List.set_cons_succ, wp_ok, truth, Bool.not_true, Bool.not_false, sizeLine_eq, List.length_cons, List.length_nil, Nat.reduceAdd, Nat.reduceLeDiff, true_and, cmpI, subD, negD, idx0, isi_tup g0.kn, n0, rowsOk, endsOk, n1, many, Bool.true_and]
      cases h3 : isTup a with
      | false =>
        simp only [w_var, vk_s, w_lit, w_op, w_un, w_new, w_nil, w_cons, w_starL, w_star, stk_s, w_tup, w_lst, w_call, w_bi, w_li, w_tru, trk_s, w_boo, bok_b, w_tan, ank_t, ank_f, w_tor, ork_f, ork_t, w_tno, w_tyes, w_man, mank_t, mank_f, w_mor, mok_f, mok_t, w_mno, w_mif, ifv_t, ifv_f, w_chain, chk_t, chk_f, w_optn, w_opts, opk_i, w_sl, w_met, metk_t, w_metl, w_snil, w_ret, w_retn, w_drop, w_if, ifk_t, ifk_f, w_asg, agk_nm, w_par2, w_par3, w_sub, w_seq, sk_nx, sk_rt, sk_bk, sk_ct, w_end, ek_rt, ek_nx, w_any, srk_s, w_inew, w_rg1, w_rg2, w_zip, w_enum, w_comp, w_for, List.getElem?_cons_zero, List.getElem?_cons_succ, List.set_cons_zero, List.set_cons_succ, wp_ok, truth, Bool.not_true, Bool.not_false, sizeLine_eq, List.length_cons, List.length_nil, Nat.reduceAdd, Nat.reduceLeDiff, true_and, cmpI, subD, negD]
        have : bnd 1 a 4 = false := by unfold bnd; rw [h3]; rfl
        exact tk_self w rfl ⟨by rw [this]; rfl, rfl⟩
      | true =>
        obtain ⟨rows, rfl⟩ := tup1 h3
        simp only [w_var, vk_s, w_lit, w_op, w_un, w_new, w_nil, w_cons, w_starL, w_star, stk_s, w_tup, w_lst, w_call, w_bi, w_li, w_tru, trk_s, w_boo, bok_b, w_tan, ank_t, ank_f, w_tor, ork_f, ork_t, w_tno, w_tyes, w_man, mank_t, mank_f, w_mor, mok_f, mok_t, w_mno, w_mif, ifv_t, ifv_f, w_chain, chk_t, chk_f, w_optn, w_opts, opk_i, w_sl, w_met, metk_t, w_metl, w_snil, w_ret, w_retn, w_drop, w_if, ifk_t, ifk_f, w_asg, agk_nm, w_par2, w_par3, w_sub, w_seq, sk_nx, sk_rt, sk_bk, sk_ct, w_end, ek_rt, ek_nx, w_any, srk_s, w_inew, w_rg1, w_rg2, w_zip, w_enum, w_comp, w_for, List.getElem?_cons_zero, List.getElem?_cons_succ, List.set_cons_zero, List.set_cons_succ, wp_ok, truth, Bool.not_true, Bool.not_false, sizeLine_eq, List.length_cons, List.length_nil, Nat.reduceAdd, Nat.reduceLeDiff, true_and, cmpI, subD, negD, idx0, lenD, cmpI, bnd_len, lenT, itm_t]
        cases h4 : decide ((1 : Int) ≤ rows.length) with
        | false =>
          simp only [w_var, vk_s, w_lit, w_op, w_un, w_new, w_nil, w_cons, w_starL, w_star, stk_s, w_tup, w_lst, w_call, w_bi, w_li, w_tru, trk_s, w_boo, bok_b, w_tan, ank_t, ank_f, w_tor, ork_f, ork_t, w_tno, w_tyes, w_man, mank_t, mank_f, w_mor, mok_f, mok_t, w_mno, w_mif, ifv_t, ifv_f, w_chain, chk_t, chk_f, w_optn, w_opts, opk_i, w_sl, w_met, metk_t, w_metl, w_snil, w_ret, w_retn, w_drop, w_if, ifk_t, ifk_f, w_asg, agk_nm, w_par2, w_par3, w_sub, w_seq, sk_nx, sk_rt, sk_bk, sk_ct, w_end, ek_rt, ek_nx, w_any, srk_s, w_inew, w_rg1, w_rg2, w_zip, w_enum, w_comp, w_for, List.getElem?_cons_zero, List.getElem?_cons_succ, List.set_cons_zero, List.set_cons_succ, wp_ok, truth, Bool.not_true, Bool.not_false, sizeLine_eq, List.length_cons, List.length_nil, Nat.reduceAdd, Nat.reduceLeDiff, true_and, cmpI, subD, negD, Bool.false_and]
          exact tk_self w rfl ⟨rfl, rfl⟩
        | true =>
          simp only [w_var, vk_s, w_lit, w_op, w_un, w_new, w_nil, w_cons, w_starL, w_star, stk_s, w_tup, w_lst, w_call, w_bi, w_li, w_tru, trk_s, w_boo, bok_b, w_tan, ank_t, ank_f, w_tor, ork_f, ork_t, w_tno, w_tyes, w_man, mank_t, mank_f, w_mor, mok_f, mok_t, w_mno, w_mif, ifv_t, ifv_f, w_chain, chk_t, chk_f, w_optn, w_opts, opk_i, w_sl, w_met, metk_t, w_metl, w_snil, w_ret, w_retn, w_drop, w_if, ifk_t, ifk_f, w_asg, agk_nm, w_par2, w_par3, w_sub, w_seq, sk_nx, sk_rt, sk_bk, sk_ct, w_end, ek_rt, ek_nx, w_any, srk_s, w_inew, w_rg1, w_rg2, w_zip, w_enum, w_comp, w_for, List.getElem?_cons_zero, List.getElem?_cons_succ, List.set_cons_zero, List.set_cons_succ, wp_ok, truth, Bool.not_true, Bool.not_false, sizeLine_eq, List.length_cons, List.length_nil, Nat.reduceAdd, Nat.reduceLeDiff, true_and, cmpI, subD, negD, Bool.true_and]
          cases h5 : decide ((rows.length : Int) ≤ 4) with
          | false =>
            simp only [w_var, vk_s, w_lit, w_op, w_un, w_new, w_nil, w_cons, w_starL, w_star, stk_s, w_tup, w_lst, w_call, w_bi, w_li, w_tru, trk_s, w_boo, bok_b, w_tan, ank_t, ank_f, w_tor, ork_f, ork_t, w_tno, w_tyes, w_man, mank_t, mank_f, w_mor, mok_f, mok_t, w_mno, w_mif, ifv_t, ifv_f, w_chain, chk_t, chk_f, w_optn, w_opts, opk_i, w_sl, w_met, metk_t, w_metl, w_snil, w_ret, w_retn, w_drop, w_if, ifk_t, ifk_f, w_asg, agk_nm, w_par2, w_par3, w_sub, w_seq, sk_nx, sk_rt, sk_bk, sk_ct, w_end, ek_rt, ek_nx, w_any, srk_s, w_inew, w_rg1, w_rg2, w_zip, w_enum, w_comp, w_for, List.getElem?_cons_zero, List.getElem?_cons_succ, List.set_cons_zero, List.set_cons_succ, wp_ok, truth, Bool.not_true, Bool.not_false, sizeLine_eq, List.length_cons, List.length_nil, Nat.reduceAdd, Nat.reduceLeDiff, true_and, cmpI, subD, negD, Bool.false_and]
            exact tk_self w rfl ⟨rfl, rfl⟩
          | true =>
            have l3 : rows.length ≤ 4 := by have := of_decide_eq_true h5; omega
            simp only [w_var, vk_s, w_lit, w_op, w_un, w_new, w_nil, w_cons, w_starL, w_star, stk_s, w_tup, w_lst, w_call, w_bi, w_li, w_tru, trk_s, w_boo, bok_b, w_tan, ank_t, ank_f, w_tor, ork_f, ork_t, w_tno, w_tyes, w_man, mank_t, mank_f, w_mor, mok_f, mok_t, w_mno, w_mif, ifv_t, ifv_f, w_chain, chk_t, chk_f, w_optn, w_opts, opk_i, w_sl, w_met, metk_t, w_metl, w_snil, w_ret, w_retn, w_drop, w_if, ifk_t, ifk_f, w_asg, agk_nm, w_par2, w_par3, w_sub, w_seq, sk_nx, sk_rt, sk_bk, sk_ct, w_end, ek_rt, ek_nx, w_any, srk_s, w_inew, w_rg1, w_rg2, w_zip, w_enum, w_comp, w_for, List.getElem?_cons_zero, List.getElem?_cons_succ, List.set_cons_zero, List.set_cons_succ, wp_ok, truth, Bool.not_true, Bool.not_false, sizeLine_eq, List.length_cons, List.length_nil, Nat.reduceAdd, Nat.reduceLeDiff, true_and, cmpI, subD, negD, idx0, lenD, srcOf, Bool.true_and, rows_ok]
            refine wp_forI (fun pre ρ T => ∃ x3, ρ = [some (.tup [.int m, s, .tup rs]), some (.tup [.tup rows, b]), some (.int rows.length), x3, none] ∧ T = S ∧ pre.all (okRow m rows.length) = true) rows [] _ S ⟨none, rfl, rfl, rfl⟩ ?_ ?_
            · rintro pre d post ρ T ⟨x3, rfl, rfl, hp⟩ hd
              have hd : d ∈ rows := by rw [hd]; simp
              have gd := g0.tup.2 d hd
              refine ⟨trivial, _, rfl, ?_⟩
              simp only [w_var, vk_s, w_lit, w_op, w_un, w_new, w_nil, w_cons, w_starL, w_star, stk_s, w_tup, w_lst, w_call, w_bi, w_li, w_tru, trk_s, w_boo, bok_b, w_tan, ank_t, ank_f, w_tor, ork_f, ork_t, w_tno, w_tyes, w_man, mank_t, mank_f, w_mor, mok_f, mok_t, w_mno, w_mif, ifv_t, ifv_f, w_chain, chk_t, chk_f, w_optn, w_opts, opk_i, w_sl, w_met, metk_t, w_metl, w_snil, w_ret, w_retn, w_drop, w_if, ifk_t, ifk_f, w_asg, agk_nm, w_par2, w_par3, w_sub, w_seq, sk_nx, sk_rt, sk_bk, sk_ct, w_end, ek_rt, ek_nx, w_any, srk_s, w_inew, w_rg1, w_rg2, w_zip, w_enum, w_comp, w_for, List.getElem?_cons_zero, List.getElem?_cons_succ, List.set_cons_zero, List.set_cons_succ, wp_ok, truth, Bool.not_true, Bool.not_false, sizeLine_eq, List.length_cons, List.length_nil, Nat.reduceAdd, Nat.reduceLeDiff, true_and, cmpI, subD, negD, isi_tup gd.kn]
              have bad : okRow m rows.length d = false → rows.all (okRow m rows.length) = false := fun h => by
                cases e : rows.all (okRow m rows.length) with
                | false => rfl
                | true => have := List.all_eq_true.mp e d hd; rw [h] at this; cases this
              cases h6 : isTup d with
              | false =>
                simp only [w_var, vk_s, w_lit, w_op, w_un, w_new, w_nil, w_cons, w_starL, w_star, stk_s, w_tup, w_lst, w_call, w_bi, w_li, w_tru, trk_s, w_boo, bok_b, w_tan, ank_t, ank_f, w_tor, ork_f, ork_t, w_tno, w_tyes, w_man, mank_t, mank_f, w_mor, mok_f, mok_t, w_mno, w_mif, ifv_t, ifv_f, w_chain, chk_t, chk_f, w_optn, w_opts, opk_i, w_sl, w_met, metk_t, w_metl, w_snil, w_ret, w_retn, w_drop, w_if, ifk_t, ifk_f, w_asg, agk_nm, w_par2, w_par3, w_sub, w_seq, sk_nx, sk_rt, sk_bk, sk_ct, w_end, ek_rt, ek_nx, w_any, srk_s, w_inew, w_rg1, w_rg2, w_zip, w_enum, w_comp, w_for, List.getElem?_cons_zero, List.getElem?_cons_succ, List.set_cons_zero, List.set_cons_succ, wp_ok, truth, Bool.not_true, Bool.not_false, sizeLine_eq, List.length_cons, List.length_nil, Nat.reduceAdd, Nat.reduceLeDiff, true_and, cmpI, subD, negD]
                rw [bad (by unfold okRow bnd; rw [h6]; rfl)]
                exact tk_self w rfl ⟨rfl, rfl⟩
              | true =>
                obtain ⟨r, rfl⟩ := tup1 h6
                simp only [w_var, vk_s, w_lit, w_op, w_un, w_new, w_nil, w_cons, w_starL, w_star, stk_s, w_tup, w_lst, w_call, w_bi, w_li, w_tru, trk_s, w_boo, bok_b, w_tan, ank_t, ank_f, w_tor, ork_f, ork_t, w_tno, w_tyes, w_man, mank_t, mank_f, w_mor, mok_f, mok_t, w_mno, w_mif, ifv_t, ifv_f, w_chain, chk_t, chk_f, w_optn, w_opts, opk_i, w_sl, w_met, metk_t, w_metl, w_snil, w_ret, w_retn, w_drop, w_if, ifk_t, ifk_f, w_asg, agk_nm, w_par2, w_par3, w_sub, w_seq, sk_nx, sk_rt, sk_bk, sk_ct, w_end, ek_rt, ek_nx, w_any, srk_s, w_inew, w_rg1, w_rg2, w_zip, w_enum, w_comp, w_for, List.getElem?_cons_zero, List.getElem?_cons_succ, List.set_cons_zero, List.set_cons_succ, wp_ok, truth, Bool.not_true, Bool.not_false, sizeLine_eq, List.length_cons, List.length_nil, Nat.reduceAdd, Nat.reduceLeDiff, true_and, cmpI, subD, negD, lenD, idx0, ne_int]
                have e7 : bnd m (.tup r) m = ((r.length : Int) == m) := bnd_tup
                cases h7 : ((r.length : Int) == m) with
                | false =>
                  simp only [w_var, vk_s, w_lit, w_op, w_un, w_new, w_nil, w_cons, w_starL, w_star, stk_s, w_tup, w_lst, w_call, w_bi, w_li, w_tru, trk_s, w_boo, bok_b, w_tan, ank_t, ank_f, w_tor, ork_f, ork_t, w_tno, w_tyes, w_man, mank_t, mank_f, w_mor, mok_f, mok_t, w_mno, w_mif, ifv_t, ifv_f, w_chain, chk_t, chk_f, w_optn, w_opts, opk_i, w_sl, w_met, metk_t, w_metl, w_snil, w_ret, w_retn, w_drop, w_if, ifk_t, ifk_f, w_asg, agk_nm, w_par2, w_par3, w_sub, w_seq, sk_nx, sk_rt, sk_bk, sk_ct, w_end, ek_rt, ek_nx, w_any, srk_s, w_inew, w_rg1, w_rg2, w_zip, w_enum, w_comp, w_for, List.getElem?_cons_zero, List.getElem?_cons_succ, List.set_cons_zero, List.set_cons_succ, wp_ok, truth, Bool.not_true, Bool.not_false, sizeLine_eq, List.length_cons, List.length_nil, Nat.reduceAdd, Nat.reduceLeDiff, true_and, cmpI, subD, negD]
                  rw [bad (by unfold okRow; rw [e7, h7]; rfl)]
                  exact tk_self w rfl ⟨rfl, rfl⟩
                | true =>
                  simp only [w_var, vk_s, w_lit, w_op, w_un, w_new, w_nil, w_cons, w_starL, w_star, stk_s, w_tup, w_lst, w_call, w_bi, w_li, w_tru, trk_s, w_boo, bok_b, w_tan, ank_t, ank_f, w_tor, ork_f, ork_t, w_tno, w_tyes, w_man, mank_t, mank_f, w_mor, mok_f, mok_t, w_mno, w_mif, ifv_t, ifv_f, w_chain, chk_t, chk_f, w_optn, w_opts, opk_i, w_sl, w_met, metk_t, w_metl, w_snil, w_ret, w_retn, w_drop, w_if, ifk_t, ifk_f, w_asg, agk_nm, w_par2, w_par3, w_sub, w_seq, sk_nx, sk_rt, sk_bk, sk_ct, w_end, ek_rt, ek_nx, w_any, srk_s, w_inew, w_rg1, w_rg2, w_zip, w_enum, w_comp, w_for, List.getElem?_cons_zero, List.getElem?_cons_succ, List.set_cons_zero, List.set_cons_succ, wp_ok, truth, Bool.not_true, Bool.not_false, sizeLine_eq, List.length_cons, List.length_nil, Nat.reduceAdd, Nat.reduceLeDiff, true_and, cmpI, subD, negD, srcOf]
                  refine wp_all (fun s => inR s 0 (rows.length - 1)) trivial (by have := gd.tup.1; omega) (fun e he => ?_) ?_
                  · simp only [w_var, vk_s, w_lit, w_op, w_un, w_new, w_nil, w_cons, w_starL, w_star, stk_s, w_tup, w_lst, w_call, w_bi, w_li, w_tru, trk_s, w_boo, bok_b, w_tan, ank_t, ank_f, w_tor, ork_f, ork_t, w_tno, w_tyes, w_man, mank_t, mank_f, w_mor, mok_f, mok_t, w_mno, w_mif, ifv_t, ifv_f, w_chain, chk_t, chk_f, w_optn, w_opts, opk_i, w_sl, w_met, metk_t, w_metl, w_snil, w_ret, w_retn, w_drop, w_if, ifk_t, ifk_f, w_asg, agk_nm, w_par2, w_par3, w_sub, w_seq, sk_nx, sk_rt, sk_bk, sk_ct, w_end, ek_rt, ek_nx, w_any, srk_s, w_inew, w_rg1, w_rg2, w_zip, w_enum, w_comp, w_for, List.getElem?_cons_zero, List.getElem?_cons_succ, List.set_cons_zero, List.set_cons_succ, wp_ok, truth, Bool.not_true, Bool.not_false, sizeLine_eq, List.length_cons, List.length_nil, Nat.reduceAdd, Nat.reduceLeDiff, true_and, cmpI, subD, negD, wipeD, subD, (s12 (k + 1) w (gd.tup.2 e he).kn : C (k + 2) 19 _ _ = _)]
                  cases h8 : r.all (fun s => inR s 0 (rows.length - 1)) with
                  | false =>
                    simp only [w_var, vk_s, w_lit, w_op, w_un, w_new, w_nil, w_cons, w_starL, w_star, stk_s, w_tup, w_lst, w_call, w_bi, w_li, w_tru, trk_s, w_boo, bok_b, w_tan, ank_t, ank_f, w_tor, ork_f, ork_t, w_tno, w_tyes, w_man, mank_t, mank_f, w_mor, mok_f, mok_t, w_mno, w_mif, ifv_t, ifv_f, w_chain, chk_t, chk_f, w_optn, w_opts, opk_i, w_sl, w_met, metk_t, w_metl, w_snil, w_ret, w_retn, w_drop, w_if, ifk_t, ifk_f, w_asg, agk_nm, w_par2, w_par3, w_sub, w_seq, sk_nx, sk_rt, sk_bk, sk_ct, w_end, ek_rt, ek_nx, w_any, srk_s, w_inew, w_rg1, w_rg2, w_zip, w_enum, w_comp, w_for, List.getElem?_cons_zero, List.getElem?_cons_succ, List.set_cons_zero, List.set_cons_succ, wp_ok, truth, Bool.not_true, Bool.not_false, sizeLine_eq, List.length_cons, List.length_nil, Nat.reduceAdd, Nat.reduceLeDiff, true_and, cmpI, subD, negD]
                    rw [bad (by unfold okRow; rw [e7, h7, itm_t, h8]; rfl)]
                    exact tk_self w rfl ⟨rfl, rfl⟩
                  | true =>
                    simp only [w_var, vk_s, w_lit, w_op, w_un, w_new, w_nil, w_cons, w_starL, w_star, stk_s, w_tup, w_lst, w_call, w_bi, w_li, w_tru, trk_s, w_boo, bok_b, w_tan, ank_t, ank_f, w_tor, ork_f, ork_t, w_tno, w_tyes, w_man, mank_t, mank_f, w_mor, mok_f, mok_t, w_mno, w_mif, ifv_t, ifv_f, w_chain, chk_t, chk_f, w_optn, w_opts, opk_i, w_sl, w_met, metk_t, w_metl, w_snil, w_ret, w_retn, w_drop, w_if, ifk_t, ifk_f, w_asg, agk_nm, w_par2, w_par3, w_sub, w_seq, sk_nx, sk_rt, sk_bk, sk_ct, w_end, ek_rt, ek_nx, w_any, srk_s, w_inew, w_rg1, w_rg2, w_zip, w_enum, w_comp, w_for, List.getElem?_cons_zero, List.getElem?_cons_succ, List.set_cons_zero, List.set_cons_succ, wp_ok, truth, Bool.not_true, Bool.not_false, sizeLine_eq, List.length_cons, List.length_nil, Nat.reduceAdd, Nat.reduceLeDiff, true_and, cmpI, subD, negD]
                    exact ⟨_, rfl, by rw [List.all_append, hp]; simp [okRow, e7, h7, itm_t, h8]⟩
            · rintro ρ T ⟨x3, rfl, rfl, hp⟩
              rw [List.nil_append] at hp
              refine ⟨trivial, ?_⟩
              simp only [w_var, vk_s, w_lit, w_op, w_un, w_new, w_nil, w_cons, w_starL, w_star, stk_s, w_tup, w_lst, w_call, w_bi, w_li, w_tru, trk_s, w_boo, bok_b, w_tan, ank_t, ank_f, w_tor, ork_f, ork_t, w_tno, w_tyes, w_man, mank_t, mank_f, w_mor, mok_f, mok_t, w_mno, w_mif, ifv_t, ifv_f, w_chain, chk_t, chk_f, w_optn, w_opts, opk_i, w_sl, w_met, metk_t, w_metl, w_snil, w_ret, w_retn, w_drop, w_if, ifk_t, ifk_f, w_asg, agk_nm, w_par2, w_par3, w_sub, w_seq, sk_nx, sk_rt, sk_bk, sk_ct, w_end, ek_rt, ek_nx, w_any, srk_s, w_inew, w_rg1, w_rg2, w_zip, w_enum, w_comp, w_for, List.getElem?_cons_zero, List.getElem?_cons_succ, List.set_cons_zero, List.set_cons_succ, wp_ok, truth, Bool.not_true, Bool.not_false, sizeLine_eq, List.length_cons, List.length_nil, Nat.reduceAdd, Nat.reduceLeDiff, true_and, cmpI, subD, negD, idx1, isi_tup g1.kn, hp, Bool.true_and]
              cases h6 : isTup b with
              | false =>
                simp only [w_var, vk_s, w_lit, w_op, w_un, w_new, w_nil, w_cons, w_starL, w_star, stk_s, w_tup, w_lst, w_call, w_bi, w_li, w_tru, trk_s, w_boo, bok_b, w_tan, ank_t, ank_f, w_tor, ork_f, ork_t, w_tno, w_tyes, w_man, mank_t, mank_f, w_mor, mok_f, mok_t, w_mno, w_mif, ifv_t, ifv_f, w_chain, chk_t, chk_f, w_optn, w_opts, opk_i, w_sl, w_met, metk_t, w_metl, w_snil, w_ret, w_retn, w_drop, w_if, ifk_t, ifk_f, w_asg, agk_nm, w_par2, w_par3, w_sub, w_seq, sk_nx, sk_rt, sk_bk, sk_ct, w_end, ek_rt, ek_nx, w_any, srk_s, w_inew, w_rg1, w_rg2, w_zip, w_enum, w_comp, w_for, List.getElem?_cons_zero, List.getElem?_cons_succ, List.set_cons_zero, List.set_cons_succ, wp_ok, truth, Bool.not_true, Bool.not_false, sizeLine_eq, List.length_cons, List.length_nil, Nat.reduceAdd, Nat.reduceLeDiff, true_and, cmpI, subD, negD, Bool.false_and]
                exact tk_self w rfl ⟨rfl, rfl⟩
              | true =>
                obtain ⟨es, rfl⟩ := tup1 h6
                simp only [w_var, vk_s, w_lit, w_op, w_un, w_new, w_nil, w_cons, w_starL, w_star, stk_s, w_tup, w_lst, w_call, w_bi, w_li, w_tru, trk_s, w_boo, bok_b, w_tan, ank_t, ank_f, w_tor, ork_f, ork_t, w_tno, w_tyes, w_man, mank_t, mank_f, w_mor, mok_f, mok_t, w_mno, w_mif, ifv_t, ifv_f, w_chain, chk_t, chk_f, w_optn, w_opts, opk_i, w_sl, w_met, metk_t, w_metl, w_snil, w_ret, w_retn, w_drop, w_if, ifk_t, ifk_f, w_asg, agk_nm, w_par2, w_par3, w_sub, w_seq, sk_nx, sk_rt, sk_bk, sk_ct, w_end, ek_rt, ek_nx, w_any, srk_s, w_inew, w_rg1, w_rg2, w_zip, w_enum, w_comp, w_for, List.getElem?_cons_zero, List.getElem?_cons_succ, List.set_cons_zero, List.set_cons_succ, wp_ok, truth, Bool.not_true, Bool.not_false, sizeLine_eq, List.length_cons, List.length_nil, Nat.reduceAdd, Nat.reduceLeDiff, true_and, cmpI, subD, negD, idx1, srcOf, Bool.true_and, itm_t]
                refine wp_all (fun s => inR s 0 (rows.length - 1)) trivial (by have := g1.tup.1; omega) (fun d hd => ?_) ?_
                · simp only [w_var, vk_s, w_lit, w_op, w_un, w_new, w_nil, w_cons, w_starL, w_star, stk_s, w_tup, w_lst, w_call, w_bi, w_li, w_tru, trk_s, w_boo, bok_b, w_tan, ank_t, ank_f, w_tor, ork_f, ork_t, w_tno, w_tyes, w_man, mank_t, mank_f, w_mor, mok_f, mok_t, w_mno, w_mif, ifv_t, ifv_f, w_chain, chk_t, chk_f, w_optn, w_opts, opk_i, w_sl, w_met, metk_t, w_metl, w_snil, w_ret, w_retn, w_drop, w_if, ifk_t, ifk_f, w_asg, agk_nm, w_par2, w_par3, w_sub, w_seq, sk_nx, sk_rt, sk_bk, sk_ct, w_end, ek_rt, ek_nx, w_any, srk_s, w_inew, w_rg1, w_rg2, w_zip, w_enum, w_comp, w_for, List.getElem?_cons_zero, List.getElem?_cons_succ, List.set_cons_zero, List.set_cons_succ, wp_ok, truth, Bool.not_true, Bool.not_false, sizeLine_eq, List.length_cons, List.length_nil, Nat.reduceAdd, Nat.reduceLeDiff, true_and, cmpI, subD, negD, wipeD, subD, (s12 (k + 1) w (g1.tup.2 d hd).kn : C (k + 2) 19 _ _ = _)]
                cases h7 : es.all (fun s => inR s 0 (rows.length - 1)) with
                | false =>
                  simp only [w_var, vk_s, w_lit, w_op, w_un, w_new, w_nil, w_cons, w_starL, w_star, stk_s, w_tup, w_lst, w_call, w_bi, w_li, w_tru, trk_s, w_boo, bok_b, w_tan, ank_t, ank_f, w_tor, ork_f, ork_t, w_tno, w_tyes, w_man, mank_t, mank_f, w_mor, mok_f, mok_t, w_mno, w_mif, ifv_t, ifv_f, w_chain, chk_t, chk_f, w_optn, w_opts, opk_i, w_sl, w_met, metk_t, w_metl, w_snil, w_ret, w_retn, w_drop, w_if, ifk_t, ifk_f, w_asg, agk_nm, w_par2, w_par3, w_sub, w_seq, sk_nx, sk_rt, sk_bk, sk_ct, w_end, ek_rt, ek_nx, w_any, srk_s, w_inew, w_rg1, w_rg2, w_zip, w_enum, w_comp, w_for, List.getElem?_cons_zero, List.getElem?_cons_succ, List.set_cons_zero, List.set_cons_succ, wp_ok, truth, Bool.not_true, Bool.not_false, sizeLine_eq, List.length_cons, List.length_nil, Nat.reduceAdd, Nat.reduceLeDiff, true_and, cmpI, subD, negD, Bool.false_and]
                  exact tk_self w rfl ⟨rfl, rfl⟩
                | true =>
                  have ei := ints_iv h7
                  have hl : (es.map iv).length < 64 := hn _ (by rw [n1, ← ei])
                  obtain ⟨js, j1, j2, j3⟩ := eq_rising (es.map iv)
                  have se : setSort es = some (js.map .int) := by
                    rw [ei, set_ints hl, j1, unkey_nums]
                  simp only [w_var, vk_s, w_lit, w_op, w_un, w_new, w_nil, w_cons, w_starL, w_star, stk_s, w_tup, w_lst, w_call, w_bi, w_li, w_tru, trk_s, w_boo, bok_b, w_tan, ank_t, ank_f, w_tor, ork_f, ork_t, w_tno, w_tyes, w_man, mank_t, mank_f, w_mor, mok_f, mok_t, w_mno, w_mif, ifv_t, ifv_f, w_chain, chk_t, chk_f, w_optn, w_opts, opk_i, w_sl, w_met, metk_t, w_metl, w_snil, w_ret, w_retn, w_drop, w_if, ifk_t, ifk_f, w_asg, agk_nm, w_par2, w_par3, w_sub, w_seq, sk_nx, sk_rt, sk_bk, sk_ct, w_end, ek_rt, ek_nx, w_any, srk_s, w_inew, w_rg1, w_rg2, w_zip, w_enum, w_comp, w_for, List.getElem?_cons_zero, List.getElem?_cons_succ, List.set_cons_zero, List.set_cons_succ, wp_ok, truth, Bool.not_true, Bool.not_false, sizeLine_eq, List.length_cons, List.length_nil, Nat.reduceAdd, Nat.reduceLeDiff, true_and, cmpI, subD, negD, idx1, list_tup (show es.length ≤ 1000000 by have := g1.tup.1; omega)]
                  refine wp_of (lset_tup (ds := es) rfl se) ⟨by rw [List.length_map]; rw [List.length_map] at hl j2; omega, ?_⟩
                  rw [eq_ilists (i := List.length T) (as := es.map iv) (bs := js) (by rw [← ei]; simp) (by simp)]
                  simp only [w_var, vk_s, w_lit, w_op, w_un, w_new, w_nil, w_cons, w_starL, w_star, stk_s, w_tup, w_lst, w_call, w_bi, w_li, w_tru, trk_s, w_boo, bok_b, w_tan, ank_t, ank_f, w_tor, ork_f, ork_t, w_tno, w_tyes, w_man, mank_t, mank_f, w_mor, mok_f, mok_t, w_mno, w_mif, ifv_t, ifv_f, w_chain, chk_t, chk_f, w_optn, w_opts, opk_i, w_sl, w_met, metk_t, w_metl, w_snil, w_ret, w_retn, w_drop, w_if, ifk_t, ifk_f, w_asg, agk_nm, w_par2, w_par3, w_sub, w_seq, sk_nx, sk_rt, sk_bk, sk_ct, w_end, ek_rt, ek_nx, w_any, srk_s, w_inew, w_rg1, w_rg2, w_zip, w_enum, w_comp, w_for, List.getElem?_cons_zero, List.getElem?_cons_succ, List.set_cons_zero, List.set_cons_succ, wp_ok, truth, Bool.not_true, Bool.not_false, sizeLine_eq, List.length_cons, List.length_nil, Nat.reduceAdd, Nat.reduceLeDiff, true_and, cmpI, subD, negD, j3]
                  refine trim_on w rfl (by simp <;> omega) (fun j hj => ?_) ⟨by simp only [h6, h7, Bool.true_and], rfl⟩
                  rw [List.getElem?_append_left (by simp; omega), List.getElem?_append_left hj]
end
end Rf.L33
end

section
set_option Elab.async false
set_option linter.all false
set_option maxRecDepth 100000
set_option maxHeartbeats 4000000
namespace Rf
open PySem PySem.Spec PyProof.Rows L2
theorem adjI_pw : ∀ {ns : List Int}, ns.Pairwise (· < ·) → adjI ns = true
  | [], _ => rfl
  | [a], _ => rfl
  | a :: b :: r, h => by
    obtain ⟨h1, h2⟩ := List.pairwise_cons.mp h
    have ih := adjI_pw h2
    simp only [adjI, List.drop_succ_cons, List.drop_zero, List.zip_cons_cons, List.all_cons] at ih ⊢
    rw [ih, decide_eq_true (h1 b List.mem_cons_self)]; rfl
theorem rng_at {n : Int} {pre post : List D} {d : D} (h : rangeD 0 n = pre ++ d :: post) : d = .int pre.length ∧ (pre.length : Int) < n := by
  have hl := congrArg List.length h
  rw [rg_len] at hl
  simp at hl
  have hp : pre.length < n.toNat := by omega
  have : (rangeD 0 n)[pre.length]? = some d := by rw [h]; simp
  have hr : rangeD 0 n = (List.range n.toNat).map fun (i : Nat) => D.int (i : Int) := by
    have := range_range n.toNat
    rwa [Int.toNat_of_nonneg (by omega)] at this
  rw [hr, List.getElem?_map, List.getElem?_range hp] at this
  cases this
  exact ⟨rfl, by omega⟩
/-- a def's end behind draws: pure data -/
theorem tk_ch {S T : Sto} {p : Nat} {N : Int} {d : D} {Q : D → Sto → Prop} (c : Ch S T p) (hp : Pt T p N) (hps : p < S.length) (hb : ∀ n, d.blw n = true) (q : ∀ S', Ch S S' p → Pt S' p N → Q d S') : TrimK S.length Q d T := by
  unfold TrimK trimD
  split
  · rename_i h
    have w : ∀ o ∈ T.take S.length, o.blw S.length = true := fun o ho => List.all_eq_true.mp h.2 o ho
    have hl : (T.take S.length).length = S.length := by rw [List.length_take]; have := c.len; omega
    refine q _ ⟨fun o ho => by rw [hl]; exact w o ho, by omega, fun j h1 h2 => by rw [List.getElem?_take_of_lt h1]; exact c.oth j h1 h2⟩ ?_
    obtain ⟨a, b, e, h1, r⟩ := hp
    exact ⟨a, b, e, by rw [List.getElem?_take_of_lt hps]; exact h1, r⟩
  · exact q T c hp
theorem blws_ints (n : Nat) (ns : List Int) : D.blws n (ns.map .int) = true := blws_iff.mpr fun d hd => by
  obtain ⟨i, _, rfl⟩ := List.mem_map.mp hd; rfl
end Rf
namespace Rf.L33
open PySem PySem.Spec PyProof.Rows L2 Rf
noncomputable section
/-- [x for x in range(n) if a draw is nought] -/
theorem sub_ (k : Nat) {c : Cm} {ρ : Ev} {own : List Nat} {j p : Nat} {u n N : Int} {S : Sto} {tt : M Bool} {te : M D} {L : List D → Sto → Prop} (hc : c = cm (k + 1)) (w : Wf S) (hp : Pt S p N) (hN : N + n < 2 ^ 20) (hn : 0 ≤ n ∧ n ≤ 1000) (hu : 1 ≤ u ∧ u < 2 ^ 30)
    (ht : ∀ i T, tt c ((wipeD ρ own).set j (some (.int i))) T = (tBoo (mOp eqD (mCall 15 (aCons (mLit (.ref p)) (aCons (mLit (.int u)) aNil))) (mLit (.int 0)))) c ((wipeD ρ own).set j (some (.int i))) T) (he : ∀ i T, te c ((wipeD ρ own).set j (some (.int i))) T = .ok (.int i) T)
    (q : ∀ (es : List Int) T, es.Pairwise (· < ·) → (∀ x ∈ es, 0 ≤ x ∧ x < n) → (es.length : Int) ≤ n → Ch S T p → Pt T p (N + n) → L (es.map .int) T) :
    wp (compL (fun _ => True) own (.nm j) tt te (rangeD 0 n) [] c ρ S) L noX := by
  subst hc
  refine wp_compJ (fun pre acc T => ∃ es : List Int, acc = es.map .int ∧ es.Pairwise (· < ·) ∧ (∀ x ∈ es, 0 ≤ x ∧ x < pre.length) ∧ es.length ≤ pre.length ∧ Ch S T p ∧ Pt T p (N + pre.length)) ⟨[], rfl, List.Pairwise.nil, by simp, by simp, Ch.refl w, by simpa using hp⟩ ?_ ?_
  · rintro pre d post acc T e ⟨es, rfl, h1, h2, h3, h4, h5⟩
    obtain ⟨rfl, hlt⟩ := rng_at e
    refine ⟨trivial, _, rfl, ?_⟩
    rw [ht]
    obtain ⟨i, T1, e1, a1, a2, c1, l1, p1⟩ := take k (u := u) h4.wf h5 (by omega) hu
    simp only [w_var, vk_s, w_lit, w_op, w_un, w_new, w_nil, w_cons, w_starL, w_star, stk_s, w_tup, w_lst, w_call, w_bi, w_li, w_tru, trk_s, w_boo, bok_b, w_tan, ank_t, ank_f, w_tor, ork_f, ork_t, w_tno, w_tyes, w_man, mank_t, mank_f, w_mor, mok_f, mok_t, w_mno, w_mif, ifv_t, ifv_f, w_chain, chk_t, chk_f, w_optn, w_opts, opk_i, w_sl, w_met, metk_t, w_metl, w_snil, w_ret, w_retn, w_drop, w_if, ifk_t, ifk_f, w_asg, agk_nm, w_par2, w_par3, w_sub, w_seq, sk_nx, sk_rt, sk_bk, sk_ct, w_end, ek_rt, ek_nx, w_any, srk_s, w_inew, w_rg1, w_rg2, w_zip, w_enum, w_comp, w_for, List.getElem?_cons_zero, List.getElem?_cons_succ, List.set_cons_zero, List.set_cons_succ, wp_ok, truth, Bool.not_true, Bool.not_false, sizeLine_eq, List.length_cons, List.length_nil, Nat.reduceAdd, Nat.reduceLeDiff, true_and, cmpI, subD, negD, e1, eq_int]
    have c2 := h4.trans c1
    have p2 : Pt T1 p (N + ((pre ++ [D.int (pre.length : Int)]).length : Nat)) := p1.mono (by simp; omega)
    cases hz : (i == 0) with
    | true =>
      rw [if_pos rfl, he]
      simp only [w_var, vk_s, w_lit, w_op, w_un, w_new, w_nil, w_cons, w_starL, w_star, stk_s, w_tup, w_lst, w_call, w_bi, w_li, w_tru, trk_s, w_boo, bok_b, w_tan, ank_t, ank_f, w_tor, ork_f, ork_t, w_tno, w_tyes, w_man, mank_t, mank_f, w_mor, mok_f, mok_t, w_mno, w_mif, ifv_t, ifv_f, w_chain, chk_t, chk_f, w_optn, w_opts, opk_i, w_sl, w_met, metk_t, w_metl, w_snil, w_ret, w_retn, w_drop, w_if, ifk_t, ifk_f, w_asg, agk_nm, w_par2, w_par3, w_sub, w_seq, sk_nx, sk_rt, sk_bk, sk_ct, w_end, ek_rt, ek_nx, w_any, srk_s, w_inew, w_rg1, w_rg2, w_zip, w_enum, w_comp, w_for, List.getElem?_cons_zero, List.getElem?_cons_succ, List.set_cons_zero, List.set_cons_succ, wp_ok, truth, Bool.not_true, Bool.not_false, sizeLine_eq, List.length_cons, List.length_nil, Nat.reduceAdd, Nat.reduceLeDiff, true_and, cmpI, subD, negD]
      refine ⟨by rw [List.length_map]; omega, es ++ [(pre.length : Int)], by simp, List.pairwise_append.mpr ⟨h1, by simp, fun a ha b hb => ?_⟩, fun x hx => ?_, by simp; omega, c2, by simpa using p2⟩
      · rw [List.mem_singleton.mp hb]; exact (h2 a ha).2
      · rcases List.mem_append.mp hx with z | z
        · have := h2 x z; simp; omega
        · rw [List.mem_singleton.mp z]; simp; omega
    | false =>
      rw [if_neg Bool.false_ne_true]
      refine ⟨es, rfl, h1, fun x hx => ?_, by simp; omega, c2, p2⟩
      have := h2 x hx; simp; omega
  · rintro acc T ⟨es, rfl, h1, h2, h3, h4, h5⟩
    rw [rg_len] at h2 h3 h5
    exact ⟨trivial, q es T h1 (fun x hx => by have := h2 x hx; omega) (by omega) h4 (h5.mono (by omega))⟩
end
end Rf.L33
end

section
set_option Elab.async false
set_option linter.all false
set_option maxRecDepth 100000
set_option maxHeartbeats 4000000
namespace Rf.L33
open PySem PySem.Spec PyProof.Rows L2 Rf
noncomputable section
theorem c_law_watcher (k : Nat) (a b : D) (S : Sto) : C (k + 1) 22 [a, b] S = endD S.length (m_law_watcher (cm k) [some a, some b, none, none, none, none] S) := rfl
/-- a row as it is drawn -/
def WRow (r : D) : Prop := ∃ ns : List Int, r = .tup (ns.map .int) ∧ ns.length ≤ 5 ∧ ∀ n ∈ ns, 0 ≤ n ∧ n < 4
/-- a watcher as it is drawn -/
def Wat (v : D) : Prop := ∃ (rows : List D) (ends : List Int), v = .tup [.tup rows, .tup (ends.map .int)] ∧ (1 ≤ rows.length ∧ rows.length ≤ 4) ∧ (∀ r ∈ rows, WRow r) ∧ ends.length ≤ 4 ∧ ∀ n ∈ ends, 0 ≤ n ∧ n < 4
/-- [take(pot, u) for .. in range(n)] -/
theorem draws_ (k : Nat) {c : Cm} {ρ : Ev} {own : List Nat} {j p : Nat} {u n N : Int} {S : Sto} {te : M D} {L : List D → Sto → Prop} (hc : c = cm (k + 1)) (w : Wf S) (hp : Pt S p N) (hN : N + n < 2 ^ 20) (hn : 0 ≤ n ∧ n ≤ 1000) (hu : 1 ≤ u ∧ u < 2 ^ 30)
    (he : ∀ d T, te c ((wipeD ρ own).set j (some d)) T = C (k + 1) 15 [.ref p, .int u] T)
    (q : ∀ (es : List Int) T, (∀ x ∈ es, 0 ≤ x ∧ x < u) → (es.length : Int) = n → Ch S T p → Pt T p (N + n) → L (es.map .int) T) :
    wp (compL (fun _ => True) own (.nm j) tYesD te (rangeD 0 n) [] c ρ S) L noX := by
  subst hc
  refine wp_compJ (fun pre acc T => ∃ es : List Int, acc = es.map .int ∧ (∀ x ∈ es, 0 ≤ x ∧ x < u) ∧ es.length = pre.length ∧ Ch S T p ∧ Pt T p (N + pre.length)) ⟨[], rfl, by simp, by simp, Ch.refl w, by simpa using hp⟩ ?_ ?_
  · rintro pre d post acc T e ⟨es, rfl, h2, h3, h4, h5⟩
    obtain ⟨rfl, hlt⟩ := rng_at e
    refine ⟨trivial, _, rfl, ?_⟩
    obtain ⟨i, T1, e1, a1, a2, c1, l1, p1⟩ := take k (u := u) h4.wf h5 (by omega) hu
    refine wp_of (a := true) (S := T) rfl ?_
    rw [if_pos rfl, he, e1]
    refine ⟨by rw [List.length_map, sizeLine_eq]; omega, es ++ [i], by simp, fun x hx => ?_, by simp; omega, h4.trans c1, p1.mono (by simp; omega)⟩
    rcases List.mem_append.mp hx with z | z
    · exact h2 x z
    · rw [List.mem_singleton.mp z]; exact ⟨a1, a2⟩
  · rintro acc T ⟨es, rfl, h2, h3, h4, h5⟩
    rw [rg_len] at h3 h5
    exact ⟨trivial, q es T h2 (by omega) h4 (h5.mono (by omega))⟩
theorem s_law_watcher (k : Nat) {p : Nat} {m N : Int} {s : D} {rs : List D} {S : Sto} (w : Wf S) (hp : Pt S p N) (hN : N + 100 < 2 ^ 20) (hm : 1 ≤ m ∧ m ≤ 5) :
    ∃ v S', C (k + 2) 22 [.ref p, .tup [.int m, s, .tup rs]] S = .ok v S' ∧ Wat v ∧ Ch S S' p ∧ Pt S' p (N + 40) := by
  have hps := hp.lt
  refine ex_of ?_
  rw [c_law_watcher]
  unfold m_law_watcher
  obtain ⟨i, S1, e1, i1, i2, c1, l1, p1⟩ := take k (u := 4) w hp (by omega) (by omega)
  simp only [w_var, vk_s, w_lit, w_op, w_un, w_new, w_nil, w_cons, w_starL, w_star, stk_s, w_tup, w_lst, w_call, w_bi, w_li, w_tru, trk_s, w_boo, bok_b, w_tan, ank_t, ank_f, w_tor, ork_f, ork_t, w_tno, w_tyes, w_man, mank_t, mank_f, w_mor, mok_f, mok_t, w_mno, w_mif, ifv_t, ifv_f, w_chain, chk_t, chk_f, w_optn, w_opts, opk_i, w_sl, w_met, metk_t, w_metl, w_snil, w_ret, w_retn, w_drop, w_if, ifk_t, ifk_f, w_asg, agk_nm, w_par2, w_par3, w_sub, w_seq, sk_nx, sk_rt, sk_bk, sk_ct, w_end, ek_rt, ek_nx, w_any, srk_s, w_inew, w_rg1, w_rg2, w_zip, w_enum, w_comp, w_for, List.getElem?_cons_zero, List.getElem?_cons_succ, List.set_cons_zero, List.set_cons_succ, wp_ok, truth, Bool.not_true, Bool.not_false, sizeLine_eq, List.length_cons, List.length_nil, Nat.reduceAdd, Nat.reduceLeDiff, true_and, cmpI, subD, negD, e1, addD]
  refine ⟨_, rfl, small_of (by omega), ?_⟩
  refine wp_compJ (fun pre acc T => (∀ r ∈ acc, WRow r) ∧ acc.length = pre.length ∧ Ch S T p ∧ Pt T p (N + 1 + 5 * pre.length)) ⟨by simp, rfl, c1, by simpa using p1⟩ ?_ ?_
  · rintro pre d post acc T e ⟨h1, h2, h3, h4⟩
    obtain ⟨rfl, hlt⟩ := rng_at e
    refine ⟨trivial, _, rfl, wp_of (a := true) (S := T) rfl ?_⟩
    rw [if_pos rfl]
    simp only [w_var, vk_s, w_lit, w_op, w_un, w_new, w_nil, w_cons, w_starL, w_star, stk_s, w_tup, w_lst, w_call, w_bi, w_li, w_tru, trk_s, w_boo, bok_b, w_tan, ank_t, ank_f, w_tor, ork_f, ork_t, w_tno, w_tyes, w_man, mank_t, mank_f, w_mor, mok_f, mok_t, w_mno, w_mif, ifv_t, ifv_f, w_chain, chk_t, chk_f, w_optn, w_opts, opk_i, w_sl, w_met, metk_t, w_metl, w_snil, w_ret, w_retn, w_drop, w_if, ifk_t, ifk_f, w_asg, agk_nm, w_par2, w_par3, w_sub, w_seq, sk_nx, sk_rt, sk_bk, sk_ct, w_end, ek_rt, ek_nx, w_any, srk_s, w_inew, w_rg1, w_rg2, w_zip, w_enum, w_comp, w_for, List.getElem?_cons_zero, List.getElem?_cons_succ, List.set_cons_zero, List.set_cons_succ, wp_ok, truth, Bool.not_true, Bool.not_false, sizeLine_eq, List.length_cons, List.length_nil, Nat.reduceAdd, Nat.reduceLeDiff, true_and, cmpI, subD, negD, wipeD, idx0]
    refine ⟨_, rfl, small_of (by omega), ?_⟩
    refine draws_ k (u := 1 + i) (p := p) (N := N + 1 + 5 * pre.length) rfl h3.wf h4 (by omega) (by omega) (by omega) (fun d T => ?_) ?_
    · rfl
    · intro es T2 a1 a2 a3 a4
      rw [tupL (by rw [List.length_map]; omega)]
      simp only [w_var, vk_s, w_lit, w_op, w_un, w_new, w_nil, w_cons, w_starL, w_star, stk_s, w_tup, w_lst, w_call, w_bi, w_li, w_tru, trk_s, w_boo, bok_b, w_tan, ank_t, ank_f, w_tor, ork_f, ork_t, w_tno, w_tyes, w_man, mank_t, mank_f, w_mor, mok_f, mok_t, w_mno, w_mif, ifv_t, ifv_f, w_chain, chk_t, chk_f, w_optn, w_opts, opk_i, w_sl, w_met, metk_t, w_metl, w_snil, w_ret, w_retn, w_drop, w_if, ifk_t, ifk_f, w_asg, agk_nm, w_par2, w_par3, w_sub, w_seq, sk_nx, sk_rt, sk_bk, sk_ct, w_end, ek_rt, ek_nx, w_any, srk_s, w_inew, w_rg1, w_rg2, w_zip, w_enum, w_comp, w_for, List.getElem?_cons_zero, List.getElem?_cons_succ, List.set_cons_zero, List.set_cons_succ, wp_ok, truth, Bool.not_true, Bool.not_false, sizeLine_eq, List.length_cons, List.length_nil, Nat.reduceAdd, Nat.reduceLeDiff, true_and, cmpI, subD, negD]
      refine ⟨by omega, fun r hr => ?_, by simp; omega, h3.trans a3, a4.mono (by simp; omega)⟩
      rcases List.mem_append.mp hr with z | z
      · exact h1 r z
      · rw [List.mem_singleton.mp z]
        exact ⟨es, rfl, by omega, fun n hn => by have := a1 n hn; omega⟩
  · rintro acc T ⟨h1, h2, h3, h4⟩
    rw [rg_len] at h2 h4
    refine ⟨trivial, ?_⟩
    rw [tupL (by omega)]
    simp only [w_var, vk_s, w_lit, w_op, w_un, w_new, w_nil, w_cons, w_starL, w_star, stk_s, w_tup, w_lst, w_call, w_bi, w_li, w_tru, trk_s, w_boo, bok_b, w_tan, ank_t, ank_f, w_tor, ork_f, ork_t, w_tno, w_tyes, w_man, mank_t, mank_f, w_mor, mok_f, mok_t, w_mno, w_mif, ifv_t, ifv_f, w_chain, chk_t, chk_f, w_optn, w_opts, opk_i, w_sl, w_met, metk_t, w_metl, w_snil, w_ret, w_retn, w_drop, w_if, ifk_t, ifk_f, w_asg, agk_nm, w_par2, w_par3, w_sub, w_seq, sk_nx, sk_rt, sk_bk, sk_ct, w_end, ek_rt, ek_nx, w_any, srk_s, w_inew, w_rg1, w_rg2, w_zip, w_enum, w_comp, w_for, List.getElem?_cons_zero, List.getElem?_cons_succ, List.set_cons_zero, List.set_cons_succ, wp_ok, truth, Bool.not_true, Bool.not_false, sizeLine_eq, List.length_cons, List.length_nil, Nat.reduceAdd, Nat.reduceLeDiff, true_and, cmpI, subD, negD]
    refine ⟨_, rfl, small_of (by omega), ?_⟩
    refine sub_ k (u := 3) (p := p) (N := N + 30) rfl h3.wf (h4.mono (by omega)) (by omega) (by omega) (by omega) (fun i T => rfl) (fun i T => rfl) ?_
    intro es T2 b1 b2 b3 b4 b5
    rw [tupL (by rw [List.length_map]; omega)]
    simp only [w_var, vk_s, w_lit, w_op, w_un, w_new, w_nil, w_cons, w_starL, w_star, stk_s, w_tup, w_lst, w_call, w_bi, w_li, w_tru, trk_s, w_boo, bok_b, w_tan, ank_t, ank_f, w_tor, ork_f, ork_t, w_tno, w_tyes, w_man, mank_t, mank_f, w_mor, mok_f, mok_t, w_mno, w_mif, ifv_t, ifv_f, w_chain, chk_t, chk_f, w_optn, w_opts, opk_i, w_sl, w_met, metk_t, w_metl, w_snil, w_ret, w_retn, w_drop, w_if, ifk_t, ifk_f, w_asg, agk_nm, w_par2, w_par3, w_sub, w_seq, sk_nx, sk_rt, sk_bk, sk_ct, w_end, ek_rt, ek_nx, w_any, srk_s, w_inew, w_rg1, w_rg2, w_zip, w_enum, w_comp, w_for, List.getElem?_cons_zero, List.getElem?_cons_succ, List.set_cons_zero, List.set_cons_succ, wp_ok, truth, Bool.not_true, Bool.not_false, sizeLine_eq, List.length_cons, List.length_nil, Nat.reduceAdd, Nat.reduceLeDiff, true_and, cmpI, subD, negD]
    refine tk_ch (h3.trans b4) b5 hps (fun n => ?_) fun S' c' p' => ⟨⟨acc, es, rfl, by omega, h1, by omega, fun n hn => by have := b2 n hn; omega⟩, c', p'.mono (by omega)⟩
    simp only [D.blw, D.blws, blws_ints, Bool.and_true]
    exact blws_iff.mpr fun r hr => by obtain ⟨ns, rfl, _⟩ := h1 r hr; simp only [D.blw, blws_ints]
end
end Rf.L33
end

section
set_option Elab.async false
set_option linter.all false
set_option maxRecDepth 100000
set_option maxHeartbeats 4000000
namespace Rf.L33
open PySem PySem.Spec PyProof.Rows L2 Rf
noncomputable section
def OkV (n : Nat) (v : D) : Prop := Fit n v 500000 ∧ ∀ ns : List Int, nth v 1 = .tup (ns.map .int) → ns.length < 64
theorem OkV.mono {n m : Nat} {v : D} (h : OkV n v) (hm : n ≤ m) : OkV m v := ⟨h.1.mono hm, h.2⟩
theorem okv_small {n : Nat} {v : D} (h : Fit n v 4500) : OkV n v := by
  refine ⟨h.le (by omega), fun ns hn => ?_⟩
  cases v with
  | tup ds =>
    match ds, hn with
    | a :: b :: r, hn =>
      have hb : b = .tup (ns.map .int) := hn
      obtain ⟨w, h1, h2⟩ := h.tup.2 b (by simp)
      rw [hb] at h1
      simp only [ks, kss_ints] at h1
      cases h1
      omega
    | [a], hn => cases hn
    | [], hn => cases hn
  | _ => cases hn
/-- both looks agree -/
theorem both_ (k : Nat) {m : Int} {s v : D} {rs : List D} {S : Sto} (w : Wf S) (ho : Off (.tup [.int m, s, .tup rs])) (h : OkV S.length v) :
    ∃ b, C (k + 6) 9 [.tup [.int m, s, .tup rs], v] S = .ok (.bl b) S ∧ C (k + 6) 23 [.tup [.int m, s, .tup rs], v] S = .ok (.bl b) S :=
  ⟨isW m v, s_is_watcher k w ho h.1, (s_law_is_watcher (k + 3) w ho h.1 h.2 : C (k + 6) 23 _ _ = _)⟩
theorem Wat.ofv {v : D} (h : Wat v) : Rf.ofv 3 v = true ∧ ∃ wt, (∀ S, gd 4 S v = some wt) ∧ wt ≤ 2000 := by
  obtain ⟨rows, ends, rfl, h1, h2, h3, h4⟩ := h
  have o : Rf.ofv 3 (.tup [.tup rows, .tup (ends.map .int)]) = true := by
    simp only [Rf.ofv, List.all_cons, List.all_nil, Bool.and_true, Bool.and_eq_true, List.all_eq_true]
    refine ⟨fun r hr => ?_, fun d hd => ?_⟩
    · obtain ⟨ns, rfl, _, hn⟩ := h2 r hr
      simp only [Rf.ofv, List.all_eq_true, List.mem_map]
      rintro x ⟨n, hn1, rfl⟩
      have := hn n hn1
      simp only [Rf.ofv, decide_eq_true_eq]; omega
    · obtain ⟨n, hn1, rfl⟩ := List.mem_map.mp hd
      have := h4 n hn1
      simp only [Rf.ofv, decide_eq_true_eq]; omega
  obtain ⟨wt, hw⟩ := ofv_gd o
  refine ⟨o, wt, hw, ?_⟩
  have qi : ∀ {n : Nat} {ns : List Int}, (∀ x ∈ ns, 0 ≤ x ∧ x < 4) → ∃ b, gds (n + 1) [] (ns.map .int) = some b ∧ b ≤ ns.length * 71 := fun {n ns} h => by
    obtain ⟨b, e1, e2⟩ := gds_bound (n := n + 1) (S := []) (w := 70) (ds := ns.map .int) fun d hd => by
      obtain ⟨x, hx, rfl⟩ := List.mem_map.mp hd
      have := h x hx
      exact ⟨70, gd_int' (by omega), Nat.le_refl _⟩
    rw [List.length_map] at e2
    exact ⟨b, e1, e2⟩
  obtain ⟨a, ha1, ha2⟩ := gds_bound (n := 2) (S := []) (w := 355) (ds := rows) fun d hd => by
    obtain ⟨ns, rfl, hl, hn⟩ := h2 d hd
    obtain ⟨b, e1, e2⟩ := qi (n := 0) hn
    exact ⟨b, gd_tup e1, by have : ns.length * 71 ≤ 5 * 71 := Nat.mul_le_mul_right _ hl; omega⟩
  obtain ⟨b, hb1, hb2⟩ := qi (n := 1) h4
  have := hw []
  rw [gd_tup (gds_cons (gd_tup ha1) (gds_cons (gd_tup hb1) gds_nil))] at this
  cases this
  have z1 : rows.length * 356 ≤ 4 * 356 := Nat.mul_le_mul_right _ h1.2
  have z2 : ends.length * 71 ≤ 4 * 71 := Nat.mul_le_mul_right _ h3
  omega
theorem rep_eq {m a : Int} : (List.range m.toNat).map (fun (_ : Nat) => D.int a) = List.replicate m.toNat (.int a) := by
  rw [List.map_const', List.length_range]
theorem lrg1 {c : Cm} {ρ : Ev} {S S1 : Sto} {ma : M D} {m : Int} (h : ma c ρ S = .ok (.int m) S1) (hm : 0 ≤ m ∧ m ≤ 1000) : lRg1 ma c ρ S = .ok (rangeD 0 m) S1 := by
  have : rgOk 0 m = true := by
    unfold rgOk
    rw [small_of (by omega), small_of (by omega), Bool.true_and, Bool.true_and, decide_eq_true_eq]
    omega
  simp only [lRg1, M.bind, M.ret, h, Res.bind, if_pos this]
/-- tuple([f(i) for i in some]), some = list(range(m)) -/
theorem rowc_ {c : Cm} {ρ : Ev} {S : Sto} {own : List Nat} {j q : Nat} {te : M D} {m : Int} (f : Int → Int) {Q : D → Sto → Prop} {X : XQ} (hm : 0 ≤ m ∧ m ≤ 1000) (hq : S[q]? = some (.lst (rangeD 0 m)))
    (h : ∀ i : Int, 0 ≤ i → i < m → wp (te c ((wipeD ρ own).set j (some (.int i))) S) (fun y T => y = .int (f i) ∧ T = S) noX) (qq : Q (.tup (rowN m f)) S) :
    wp (compL (fun S' => S'[q]? = some (.lst (rangeD 0 m))) own (.nm j) tYesD te (rangeD 0 m) [] c ρ S) (fun es T => wp (tupleL es T) Q X) X := by
  have hr : rangeD 0 m = (List.range m.toNat).map fun (i : Nat) => D.int (i : Int) := by
    have := range_range m.toNat
    rwa [Int.toNat_of_nonneg hm.1] at this
  refine wp_compP (fun _ => true) (fun d => .int (f (iv d))) hq (by rw [rg_len, sizeLine_eq]; omega) (fun d hd => ⟨_, rfl, wp_of (a := true) (S := S) rfl ⟨rfl, rfl, fun _ => ?_⟩⟩) ?_
  · rw [hr] at hd
    obtain ⟨i, hi, rfl⟩ := List.mem_map.mp hd
    have hi := List.mem_range.mp hi
    exact h i (by omega) (by omega)
  · rw [filter_yes, hr, List.map_map]
    refine wp_of (tupL (by rw [List.length_map, List.length_range]; omega)) qq
theorem rowN_const {m a : Int} : (rowN m fun _ => a) = List.replicate m.toNat (.int a) := rep_eq
/-- repr twice -/
theorem repr2 {v : D} {W : Nat} {S : Sto} (h : Good S v W) (hW : W ≤ 500000) : ∃ z, reprD [v] S = .ok (.str z) S := by
  obtain ⟨p, hr⟩ := h.repr hW
  exact ⟨_, hr⟩
theorem ne_str {x y : Str} {S : Sto} : neD (.str x) (.str y) S = .ok (.bl !(x == y)) S := by
  show (if _ then _ else _) = _
  rw [if_pos (.inr rfl)]
  simp only [PyData.eqv]
theorem ne_str2 {z : Str} {S : Sto} : neD (.str z) (.str z) S = .ok (.bl false) S := by rw [ne_str]; simp
theorem good_row {m : Int} {f : Int → Int} {S : Sto} (hm : m ≤ 5) (hf : ∀ i, 0 ≤ f i ∧ f i ≤ 2) : ∃ w, gd 3 S (.tup (rowN m f)) = some w ∧ w ≤ 400 := by
  obtain ⟨b, e1, e2⟩ := gds_bound (n := 2) (S := S) (w := 70) (ds := rowN m f) fun d hd => by
    obtain ⟨i, _, rfl⟩ := List.mem_map.mp hd
    have := hf i
    exact ⟨70, gd_int' (by omega), Nat.le_refl _⟩
  rw [rowN_len] at e2
  exact ⟨b, gd_tup e1, by have : m.toNat * 71 ≤ 5 * 71 := Nat.mul_le_mul_right _ (by omega); omega⟩
end
end Rf.L33
end

section
set_option Elab.async false
set_option linter.all false
set_option maxRecDepth 100000
set_option maxHeartbeats 8000000
namespace Rf.L33
open PySem PySem.Spec PyProof.Rows L2 Rf
noncomputable section
theorem w_lrg1 {c : Cm} {ρ : Ev} {S : Sto} {ma : M D} {L : List D → Sto → Prop} {X : XQ} : wp (lRg1 ma c ρ S) L X = wp (ma c ρ S) (fun d S1 => ∃ j, d = .int j ∧ rgOk 0 j = true ∧ L (rangeD 0 j) S1) X := by
  unfold lRg1; rw [wp_bind]; congr; funext d S1
  split
  · rename_i j
    by_cases h : rgOk 0 j = true
    · rw [if_pos h]; exact propext ⟨fun q => ⟨j, rfl, h, q⟩, fun ⟨_, e, _, q⟩ => by cases e; exact q⟩
    · rw [if_neg h]; exact propext ⟨fun q => q.elim, fun ⟨_, e, h2, q⟩ => by cases e; exact absurd h2 h⟩
  · rename_i h
    exact propext ⟨fun q => q.elim, fun ⟨j, e, _, q⟩ => (h j e).elim⟩
theorem rgok {m : Int} (hm : 0 ≤ m ∧ m ≤ 1000) : rgOk 0 m = true := by
  unfold rgOk
  rw [small_of (by omega), small_of (by omega), Bool.true_and, Bool.true_and, decide_eq_true_eq]
  omega
theorem add_tup {xs ys : List D} {S : Sto} (h : xs.length + ys.length ≤ 1000) : addD (.tup xs) (.tup ys) S = .ok (.tup (xs ++ ys)) S := by
  show (if xs.length + ys.length ≤ sizeLine then _ else _) = _
  exact if_pos (by rw [sizeLine_eq]; omega)
theorem is_list {k : Nat} {ds : List D} {S : Sto} (h : S[k]? = some (.lst ds)) : isTy "list" (.ref k) S = true := by simp only [isTy, h]; rfl
theorem add_lst {i j : Nat} {xs ys : List D} {S : Sto} (hi : S[i]? = some (.lst xs)) (hj : S[j]? = some (.lst ys)) (hl : xs.length + ys.length ≤ 1000) : addD (.ref i) (.ref j) S = .ok (.ref S.length) (S ++ [.lst (xs ++ ys)]) := by
  simp only [addD, hi, hj, newL]
  exact if_pos (by rw [List.length_append, sizeLine_eq]; omega)
theorem ext_lst {i j : Nat} {xs ys : List D} {S : Sto} (hi : S[i]? = some (.lst xs)) (hj : S[j]? = some (.lst ys)) (hl : xs.length + ys.length ≤ 1000) : extD (.ref i) [.ref j] S = .ok .non (S.set i (.lst (xs ++ ys))) := by
  simp only [extD, hi, hj]
  exact if_pos (by rw [sizeLine_eq]; omega)
theorem rep3 {xs : List D} {a : Int} {S : Sto} (h : ∀ x ∈ xs, ∃ w, gd 3 S x = some w ∧ w ≤ 400) (hl : xs.length ≤ 5) (ha : 0 ≤ a ∧ a ≤ 2) : ∃ z, reprD [.tup [.tup xs, .tup [.int a]]] S = .ok (.str z) S := by
  obtain ⟨b, e1, e2⟩ := gds_bound h
  have e3 : gd 2 S (.tup [.int a]) = some (70 + 1 + 0) := gd_tup (gds_cons (gd_int' (by omega)) gds_nil)
  have g : gd 5 S (.tup [.tup xs, .tup [.int a]]) = some (b + 1 + (70 + 1 + 0 + 1 + 0)) := gd_tup (gds_cons (gd_tup e1) (gds_cons (gd_le (by omega) e3) gds_nil))
  have : xs.length * 401 ≤ 5 * 401 := Nat.mul_le_mul_right _ hl
  exact repr2 (W := 500000) ⟨5, _, by omega, by omega, g⟩ (by omega)
theorem good_rep {m a : Int} {S : Sto} (hm : m ≤ 5) (ha : 0 ≤ a ∧ a ≤ 2) : ∃ w, gd 3 S (.tup (List.replicate m.toNat (.int a))) = some w ∧ w ≤ 400 := by
  rw [← rowN_const]
  exact good_row hm fun _ => ha
theorem c_law_right (k : Nat) (a : D) (S : Sto) : C (k + 1) 24 [a] S = endD S.length (m_law_right (cm k) (some a :: List.replicate 15 none) S) := rfl
theorem s_law_right (k : Nat) {p : Nat} {N : Int} {S : Sto} (w : Wf S) (hp : Pt S p N) (hN : N + 5000 < 2 ^ 20) : ∃ v S', C (k + 12) 24 [.ref p] S = .ok v S' ∧ v = .bl true ∧ Ch S S' p ∧ Pt S' p (N + 2000) := by
  have hps := hp.lt
  refine ex_of ?_
  rw [c_law_right]
  unfold m_law_right
  obtain ⟨d, S1, e1, off, c1, p1⟩ := s14 (k + 8) (mA := 4) (sA := 3) (rA := 5) (by omega) (by omega) (by omega) w hp (by omega)
  obtain ⟨m, s, rs, kks, rfl, hm, hs, _⟩ := id off
  obtain ⟨a, S2, e2, a1, a2, c2, l2, p2⟩ := take (k + 10) (u := m) c1.wf p1 (by omega) (by omega)
  obtain ⟨b, S3, e3, b1, b2, c3, l3, p3⟩ := take (k + 10) (u := m) c2.wf p2 (by omega) (by omega)
  simp only [w_var, vk_s, w_lit, w_op, w_un, w_new, w_nil, w_cons, w_starL, w_star, stk_s, w_tup, w_lst, w_call, w_bi, w_li, w_tru, trk_s, w_boo, bok_b, w_tan, ank_t, ank_f, w_tor, ork_f, ork_t, w_tno, w_tyes, w_man, mank_t, mank_f, w_mor, mok_f, mok_t, w_mno, w_mif, ifv_t, ifv_f, w_chain, chk_t, chk_f, w_optn, w_opts, opk_i, w_sl, w_met, metk_t, w_metl, w_snil, w_ret, w_retn, w_drop, w_if, ifk_t, ifk_f, w_asg, agk_nm, w_par2, w_par3, w_sub, w_seq, sk_nx, sk_rt, sk_bk, sk_ct, w_end, ek_rt, ek_nx, w_any, srk_s, w_inew, w_rg1, w_rg2, w_zip, w_enum, w_comp, w_for, List.getElem?_cons_zero, List.getElem?_cons_succ, List.set_cons_zero, List.set_cons_succ, wp_ok, truth, Bool.not_true, Bool.not_false, sizeLine_eq, List.length_cons, List.length_nil, Nat.reduceAdd, Nat.reduceLeDiff, true_and, cmpI, subD, negD, List.replicate, (e1 : C (k + 11) 21 _ _ = _), idx0, (e2 : C (k + 11) 15 _ _ = _), (e3 : C (k + 11) 15 _ _ = _)]
  rw [agk_tp (ρ' := _) rfl]
  simp only [w_var, vk_s, w_lit, w_op, w_un, w_new, w_nil, w_cons, w_starL, w_star, stk_s, w_tup, w_lst, w_call, w_bi, w_li, w_tru, trk_s, w_boo, bok_b, w_tan, ank_t, ank_f, w_tor, ork_f, ork_t, w_tno, w_tyes, w_man, mank_t, mank_f, w_mor, mok_f, mok_t, w_mno, w_mif, ifv_t, ifv_f, w_chain, chk_t, chk_f, w_optn, w_opts, opk_i, w_sl, w_met, metk_t, w_metl, w_snil, w_ret, w_retn, w_drop, w_if, ifk_t, ifk_f, w_asg, agk_nm, w_par2, w_par3, w_sub, w_seq, sk_nx, sk_rt, sk_bk, sk_ct, w_end, ek_rt, ek_nx, w_any, srk_s, w_inew, w_rg1, w_rg2, w_zip, w_enum, w_comp, w_for, List.getElem?_cons_zero, List.getElem?_cons_succ, List.set_cons_zero, List.set_cons_succ, wp_ok, truth, Bool.not_true, Bool.not_false, sizeLine_eq, List.length_cons, List.length_nil, Nat.reduceAdd, Nat.reduceLeDiff, true_and, cmpI, subD, negD, idx0]
  refine ⟨_, rfl, small_of (by omega), ?_⟩
  refine sub_ (k + 10) (u := 2) (p := p) (N := N + 502) rfl c3.wf (p3.mono (by omega)) (by omega) (by omega) (by omega) (fun i T => rfl) (fun i T => rfl) ?_
  intro es S4 es1 es2 es3 c4 p4
  have c04 := ((c1.trans c2).trans c3).trans c4
  rw [tupL (by rw [List.length_map]; omega)]
  simp only [w_var, vk_s, w_lit, w_op, w_un, w_new, w_nil, w_cons, w_starL, w_star, stk_s, w_tup, w_lst, w_call, w_bi, w_li, w_tru, trk_s, w_boo, bok_b, w_tan, ank_t, ank_f, w_tor, ork_f, ork_t, w_tno, w_tyes, w_man, mank_t, mank_f, w_mor, mok_f, mok_t, w_mno, w_mif, ifv_t, ifv_f, w_chain, chk_t, chk_f, w_optn, w_opts, opk_i, w_sl, w_met, metk_t, w_metl, w_snil, w_ret, w_retn, w_drop, w_if, ifk_t, ifk_f, w_asg, agk_nm, w_par2, w_par3, w_sub, w_seq, sk_nx, sk_rt, sk_bk, sk_ct, w_end, ek_rt, ek_nx, w_any, srk_s, w_inew, w_rg1, w_rg2, w_zip, w_enum, w_comp, w_for, List.getElem?_cons_zero, List.getElem?_cons_succ, List.set_cons_zero, List.set_cons_succ, wp_ok, truth, Bool.not_true, Bool.not_false, sizeLine_eq, List.length_cons, List.length_nil, Nat.reduceAdd, Nat.reduceLeDiff, true_and, cmpI, subD, negD]
  simp only [w_var, vk_s, w_lit, w_op, w_un, w_new, w_nil, w_cons, w_starL, w_star, stk_s, w_tup, w_lst, w_call, w_bi, w_li, w_tru, trk_s, w_boo, bok_b, w_tan, ank_t, ank_f, w_tor, ork_f, ork_t, w_tno, w_tyes, w_man, mank_t, mank_f, w_mor, mok_f, mok_t, w_mno, w_mif, ifv_t, ifv_f, w_chain, chk_t, chk_f, w_optn, w_opts, opk_i, w_sl, w_met, metk_t, w_metl, w_snil, w_ret, w_retn, w_drop, w_if, ifk_t, ifk_f, w_asg, agk_nm, w_par2, w_par3, w_sub, w_seq, sk_nx, sk_rt, sk_bk, sk_ct, w_end, ek_rt, ek_nx, w_any, srk_s, w_inew, w_rg1, w_rg2, w_zip, w_enum, w_comp, w_for, List.getElem?_cons_zero, List.getElem?_cons_succ, List.set_cons_zero, List.set_cons_succ, wp_ok, truth, Bool.not_true, Bool.not_false, sizeLine_eq, List.length_cons, List.length_nil, Nat.reduceAdd, Nat.reduceLeDiff, true_and, cmpI, subD, negD, w_lrg1, idx0]
  refine ⟨_, rfl, rgok (by omega), by rw [rg_len]; omega, ?_⟩
  have q5 : (S4 ++ [O.lst (rangeD 0 m)])[S4.length]? = some (.lst (rangeD 0 m)) := at_last
  simp only [w_var, vk_s, w_lit, w_op, w_un, w_new, w_nil, w_cons, w_starL, w_star, stk_s, w_tup, w_lst, w_call, w_bi, w_li, w_tru, trk_s, w_boo, bok_b, w_tan, ank_t, ank_f, w_tor, ork_f, ork_t, w_tno, w_tyes, w_man, mank_t, mank_f, w_mor, mok_f, mok_t, w_mno, w_mif, ifv_t, ifv_f, w_chain, chk_t, chk_f, w_optn, w_opts, opk_i, w_sl, w_met, metk_t, w_metl, w_snil, w_ret, w_retn, w_drop, w_if, ifk_t, ifk_f, w_asg, agk_nm, w_par2, w_par3, w_sub, w_seq, sk_nx, sk_rt, sk_bk, sk_ct, w_end, ek_rt, ek_nx, w_any, srk_s, w_inew, w_rg1, w_rg2, w_zip, w_enum, w_comp, w_for, List.getElem?_cons_zero, List.getElem?_cons_succ, List.set_cons_zero, List.set_cons_succ, wp_ok, truth, Bool.not_true, Bool.not_false, sizeLine_eq, List.length_cons, List.length_nil, Nat.reduceAdd, Nat.reduceLeDiff, true_and, cmpI, subD, negD, srcOf, q5]
  refine rowc_ (fun _ => 1) (by omega) q5 (fun i _ _ => ⟨rfl, rfl⟩) ?_
  simp only [w_var, vk_s, w_lit, w_op, w_un, w_new, w_nil, w_cons, w_starL, w_star, stk_s, w_tup, w_lst, w_call, w_bi, w_li, w_tru, trk_s, w_boo, bok_b, w_tan, ank_t, ank_f, w_tor, ork_f, ork_t, w_tno, w_tyes, w_man, mank_t, mank_f, w_mor, mok_f, mok_t, w_mno, w_mif, ifv_t, ifv_f, w_chain, chk_t, chk_f, w_optn, w_opts, opk_i, w_sl, w_met, metk_t, w_metl, w_snil, w_ret, w_retn, w_drop, w_if, ifk_t, ifk_f, w_asg, agk_nm, w_par2, w_par3, w_sub, w_seq, sk_nx, sk_rt, sk_bk, sk_ct, w_end, ek_rt, ek_nx, w_any, srk_s, w_inew, w_rg1, w_rg2, w_zip, w_enum, w_comp, w_for, List.getElem?_cons_zero, List.getElem?_cons_succ, List.set_cons_zero, List.set_cons_succ, wp_ok, truth, Bool.not_true, Bool.not_false, sizeLine_eq, List.length_cons, List.length_nil, Nat.reduceAdd, Nat.reduceLeDiff, true_and, cmpI, subD, negD, srcOf, q5]
  refine rowc_ (fun _ => 2) (by omega) q5 (fun i _ _ => ⟨rfl, rfl⟩) ?_
  simp only [w_var, vk_s, w_lit, w_op, w_un, w_new, w_nil, w_cons, w_starL, w_star, stk_s, w_tup, w_lst, w_call, w_bi, w_li, w_tru, trk_s, w_boo, bok_b, w_tan, ank_t, ank_f, w_tor, ork_f, ork_t, w_tno, w_tyes, w_man, mank_t, mank_f, w_mor, mok_f, mok_t, w_mno, w_mif, ifv_t, ifv_f, w_chain, chk_t, chk_f, w_optn, w_opts, opk_i, w_sl, w_met, metk_t, w_metl, w_snil, w_ret, w_retn, w_drop, w_if, ifk_t, ifk_f, w_asg, agk_nm, w_par2, w_par3, w_sub, w_seq, sk_nx, sk_rt, sk_bk, sk_ct, w_end, ek_rt, ek_nx, w_any, srk_s, w_inew, w_rg1, w_rg2, w_zip, w_enum, w_comp, w_for, List.getElem?_cons_zero, List.getElem?_cons_succ, List.set_cons_zero, List.set_cons_succ, wp_ok, truth, Bool.not_true, Bool.not_false, sizeLine_eq, List.length_cons, List.length_nil, Nat.reduceAdd, Nat.reduceLeDiff, true_and, cmpI, subD, negD, srcOf, q5]
  have w5 : Wf (S4 ++ [O.lst (rangeD 0 m)]) := c4.wf.add (blws_iff.mpr fun d hd => by obtain ⟨n, _, rfl⟩ := List.mem_map.mp hd; rfl)
  have c05 : Ch S (S4 ++ [O.lst (rangeD 0 m)]) p := c04.trans (Ch.add c4.wf (blws_iff.mpr fun d hd => by obtain ⟨n, _, rfl⟩ := List.mem_map.mp hd; rfl))
  have p5 : Pt (S4 ++ [O.lst (rangeD 0 m)]) p (N + 520) := (p4.add _).mono (by omega)
  have q5l : S4.length < (S4 ++ [O.lst (rangeD 0 m)]).length := by simp
  have q5p : S4.length ≠ p := by have := c04.len; omega
  generalize S4 ++ [O.lst (rangeD 0 m)] = S5 at *
  generalize S4.length = q at *
  refine rowc_ (fun i => if es.any (fun n => n == i) then 1 else 0) (by omega) q5 (fun i _ _ => ?_) ?_
  · simp only [w_var, vk_s, w_lit, w_op, w_un, w_new, w_nil, w_cons, w_starL, w_star, stk_s, w_tup, w_lst, w_call, w_bi, w_li, w_tru, trk_s, w_boo, bok_b, w_tan, ank_t, ank_f, w_tor, ork_f, ork_t, w_tno, w_tyes, w_man, mank_t, mank_f, w_mor, mok_f, mok_t, w_mno, w_mif, ifv_t, ifv_f, w_chain, chk_t, chk_f, w_optn, w_opts, opk_i, w_sl, w_met, metk_t, w_metl, w_snil, w_ret, w_retn, w_drop, w_if, ifk_t, ifk_f, w_asg, agk_nm, w_par2, w_par3, w_sub, w_seq, sk_nx, sk_rt, sk_bk, sk_ct, w_end, ek_rt, ek_nx, w_any, srk_s, w_inew, w_rg1, w_rg2, w_zip, w_enum, w_comp, w_for, List.getElem?_cons_zero, List.getElem?_cons_succ, List.set_cons_zero, List.set_cons_succ, wp_ok, truth, Bool.not_true, Bool.not_false, sizeLine_eq, List.length_cons, List.length_nil, Nat.reduceAdd, Nat.reduceLeDiff, true_and, cmpI, subD, negD, wipeD, in_ints]
    cases es.any (fun n => n == i) <;> simp only [w_var, vk_s, w_lit, w_op, w_un, w_new, w_nil, w_cons, w_starL, w_star, stk_s, w_tup, w_lst, w_call, w_bi, w_li, w_tru, trk_s, w_boo, bok_b, w_tan, ank_t, ank_f, w_tor, ork_f, ork_t, w_tno, w_tyes, w_man, mank_t, mank_f, w_mor, mok_f, mok_t, w_mno, w_mif, ifv_t, ifv_f, w_chain, chk_t, chk_f, w_optn, w_opts, opk_i, w_sl, w_met, metk_t, w_metl, w_snil, w_ret, w_retn, w_drop, w_if, ifk_t, ifk_f, w_asg, agk_nm, w_par2, w_par3, w_sub, w_seq, sk_nx, sk_rt, sk_bk, sk_ct, w_end, ek_rt, ek_nx, w_any, srk_s, w_inew, w_rg1, w_rg2, w_zip, w_enum, w_comp, w_for, List.getElem?_cons_zero, List.getElem?_cons_succ, List.set_cons_zero, List.set_cons_succ, wp_ok, truth, Bool.not_true, Bool.not_false, sizeLine_eq, List.length_cons, List.length_nil, Nat.reduceAdd, Nat.reduceLeDiff, true_and, cmpI, subD, negD] <;> simp
  simp only [w_var, vk_s, w_lit, w_op, w_un, w_new, w_nil, w_cons, w_starL, w_star, stk_s, w_tup, w_lst, w_call, w_bi, w_li, w_tru, trk_s, w_boo, bok_b, w_tan, ank_t, ank_f, w_tor, ork_f, ork_t, w_tno, w_tyes, w_man, mank_t, mank_f, w_mor, mok_f, mok_t, w_mno, w_mif, ifv_t, ifv_f, w_chain, chk_t, chk_f, w_optn, w_opts, opk_i, w_sl, w_met, metk_t, w_metl, w_snil, w_ret, w_retn, w_drop, w_if, ifk_t, ifk_f, w_asg, agk_nm, w_par2, w_par3, w_sub, w_seq, sk_nx, sk_rt, sk_bk, sk_ct, w_end, ek_rt, ek_nx, w_any, srk_s, w_inew, w_rg1, w_rg2, w_zip, w_enum, w_comp, w_for, List.getElem?_cons_zero, List.getElem?_cons_succ, List.set_cons_zero, List.set_cons_succ, wp_ok, truth, Bool.not_true, Bool.not_false, sizeLine_eq, List.length_cons, List.length_nil, Nat.reduceAdd, Nat.reduceLeDiff, true_and, cmpI, subD, negD, (s_never (k + 5) w5 off hm (by omega) es2 (adjI_pw es1) : C (k + 11) 11 _ _ = _), rowN_const]
  have gr : ∀ (f : Int → Int), (∀ i, 0 ≤ f i ∧ f i ≤ 2) → ∃ w, gd 3 S5 (.tup (rowN m f)) = some w ∧ w ≤ 400 := fun f hf => good_row (by omega) hf
  have gc : ∀ (x : Int), 0 ≤ x ∧ x ≤ 2 → ∃ w, gd 3 S5 (.tup (List.replicate m.toNat (.int x))) = some w ∧ w ≤ 400 := fun x hx => good_rep (by omega) hx
  obtain ⟨z1, hz1⟩ := rep3 (S := S5) (a := 1) (xs := [.tup (rowN m fun i => if es.any (fun n => n == i) then 1 else 0), .tup (List.replicate m.toNat (.int 1))]) (fun x hx => by
    simp only [List.mem_cons, List.not_mem_nil, or_false] at hx
    rcases hx with rfl | rfl
    · exact gr _ fun i => by split <;> omega
    · exact gc 1 (by omega)) (by simp) (by omega)
  simp only [w_var, vk_s, w_lit, w_op, w_un, w_new, w_nil, w_cons, w_starL, w_star, stk_s, w_tup, w_lst, w_call, w_bi, w_li, w_tru, trk_s, w_boo, bok_b, w_tan, ank_t, ank_f, w_tor, ork_f, ork_t, w_tno, w_tyes, w_man, mank_t, mank_f, w_mor, mok_f, mok_t, w_mno, w_mif, ifv_t, ifv_f, w_chain, chk_t, chk_f, w_optn, w_opts, opk_i, w_sl, w_met, metk_t, w_metl, w_snil, w_ret, w_retn, w_drop, w_if, ifk_t, ifk_f, w_asg, agk_nm, w_par2, w_par3, w_sub, w_seq, sk_nx, sk_rt, sk_bk, sk_ct, w_end, ek_rt, ek_nx, w_any, srk_s, w_inew, w_rg1, w_rg2, w_zip, w_enum, w_comp, w_for, List.getElem?_cons_zero, List.getElem?_cons_succ, List.set_cons_zero, List.set_cons_succ, wp_ok, truth, Bool.not_true, Bool.not_false, sizeLine_eq, List.length_cons, List.length_nil, Nat.reduceAdd, Nat.reduceLeDiff, true_and, cmpI, subD, negD, hz1, ne_str2, srcOf, q5]
  refine rowc_ (fun i => if i = a then 1 else if i = b then 2 else 0) (by omega) q5 (fun i _ _ => ?_) ?_
  · simp only [w_var, vk_s, w_lit, w_op, w_un, w_new, w_nil, w_cons, w_starL, w_star, stk_s, w_tup, w_lst, w_call, w_bi, w_li, w_tru, trk_s, w_boo, bok_b, w_tan, ank_t, ank_f, w_tor, ork_f, ork_t, w_tno, w_tyes, w_man, mank_t, mank_f, w_mor, mok_f, mok_t, w_mno, w_mif, ifv_t, ifv_f, w_chain, chk_t, chk_f, w_optn, w_opts, opk_i, w_sl, w_met, metk_t, w_metl, w_snil, w_ret, w_retn, w_drop, w_if, ifk_t, ifk_f, w_asg, agk_nm, w_par2, w_par3, w_sub, w_seq, sk_nx, sk_rt, sk_bk, sk_ct, w_end, ek_rt, ek_nx, w_any, srk_s, w_inew, w_rg1, w_rg2, w_zip, w_enum, w_comp, w_for, List.getElem?_cons_zero, List.getElem?_cons_succ, List.set_cons_zero, List.set_cons_succ, wp_ok, truth, Bool.not_true, Bool.not_false, sizeLine_eq, List.length_cons, List.length_nil, Nat.reduceAdd, Nat.reduceLeDiff, true_and, cmpI, subD, negD, wipeD, eq_int]
    cases ha : (i == a) with
    | true => simp only [w_var, vk_s, w_lit, w_op, w_un, w_new, w_nil, w_cons, w_starL, w_star, stk_s, w_tup, w_lst, w_call, w_bi, w_li, w_tru, trk_s, w_boo, bok_b, w_tan, ank_t, ank_f, w_tor, ork_f, ork_t, w_tno, w_tyes, w_man, mank_t, mank_f, w_mor, mok_f, mok_t, w_mno, w_mif, ifv_t, ifv_f, w_chain, chk_t, chk_f, w_optn, w_opts, opk_i, w_sl, w_met, metk_t, w_metl, w_snil, w_ret, w_retn, w_drop, w_if, ifk_t, ifk_f, w_asg, agk_nm, w_par2, w_par3, w_sub, w_seq, sk_nx, sk_rt, sk_bk, sk_ct, w_end, ek_rt, ek_nx, w_any, srk_s, w_inew, w_rg1, w_rg2, w_zip, w_enum, w_comp, w_for, List.getElem?_cons_zero, List.getElem?_cons_succ, List.set_cons_zero, List.set_cons_succ, wp_ok, truth, Bool.not_true, Bool.not_false, sizeLine_eq, List.length_cons, List.length_nil, Nat.reduceAdd, Nat.reduceLeDiff, true_and, cmpI, subD, negD]; rw [if_pos (by simpa using ha)]; exact ⟨rfl, trivial⟩
    | false =>
      have ha : ¬ i = a := by simpa using ha
      simp only [w_var, vk_s, w_lit, w_op, w_un, w_new, w_nil, w_cons, w_starL, w_star, stk_s, w_tup, w_lst, w_call, w_bi, w_li, w_tru, trk_s, w_boo, bok_b, w_tan, ank_t, ank_f, w_tor, ork_f, ork_t, w_tno, w_tyes, w_man, mank_t, mank_f, w_mor, mok_f, mok_t, w_mno, w_mif, ifv_t, ifv_f, w_chain, chk_t, chk_f, w_optn, w_opts, opk_i, w_sl, w_met, metk_t, w_metl, w_snil, w_ret, w_retn, w_drop, w_if, ifk_t, ifk_f, w_asg, agk_nm, w_par2, w_par3, w_sub, w_seq, sk_nx, sk_rt, sk_bk, sk_ct, w_end, ek_rt, ek_nx, w_any, srk_s, w_inew, w_rg1, w_rg2, w_zip, w_enum, w_comp, w_for, List.getElem?_cons_zero, List.getElem?_cons_succ, List.set_cons_zero, List.set_cons_succ, wp_ok, truth, Bool.not_true, Bool.not_false, sizeLine_eq, List.length_cons, List.length_nil, Nat.reduceAdd, Nat.reduceLeDiff, true_and, cmpI, subD, negD, eq_int]
      cases hb : (i == b) with
      | true => simp only [w_var, vk_s, w_lit, w_op, w_un, w_new, w_nil, w_cons, w_starL, w_star, stk_s, w_tup, w_lst, w_call, w_bi, w_li, w_tru, trk_s, w_boo, bok_b, w_tan, ank_t, ank_f, w_tor, ork_f, ork_t, w_tno, w_tyes, w_man, mank_t, mank_f, w_mor, mok_f, mok_t, w_mno, w_mif, ifv_t, ifv_f, w_chain, chk_t, chk_f, w_optn, w_opts, opk_i, w_sl, w_met, metk_t, w_metl, w_snil, w_ret, w_retn, w_drop, w_if, ifk_t, ifk_f, w_asg, agk_nm, w_par2, w_par3, w_sub, w_seq, sk_nx, sk_rt, sk_bk, sk_ct, w_end, ek_rt, ek_nx, w_any, srk_s, w_inew, w_rg1, w_rg2, w_zip, w_enum, w_comp, w_for, List.getElem?_cons_zero, List.getElem?_cons_succ, List.set_cons_zero, List.set_cons_succ, wp_ok, truth, Bool.not_true, Bool.not_false, sizeLine_eq, List.length_cons, List.length_nil, Nat.reduceAdd, Nat.reduceLeDiff, true_and, cmpI, subD, negD]; rw [if_neg ha, if_pos (by simpa using hb)]; exact ⟨rfl, trivial⟩
      | false => simp only [w_var, vk_s, w_lit, w_op, w_un, w_new, w_nil, w_cons, w_starL, w_star, stk_s, w_tup, w_lst, w_call, w_bi, w_li, w_tru, trk_s, w_boo, bok_b, w_tan, ank_t, ank_f, w_tor, ork_f, ork_t, w_tno, w_tyes, w_man, mank_t, mank_f, w_mor, mok_f, mok_t, w_mno, w_mif, ifv_t, ifv_f, w_chain, chk_t, chk_f, w_optn, w_opts, opk_i, w_sl, w_met, metk_t, w_metl, w_snil, w_ret, w_retn, w_drop, w_if, ifk_t, ifk_f, w_asg, agk_nm, w_par2, w_par3, w_sub, w_seq, sk_nx, sk_rt, sk_bk, sk_ct, w_end, ek_rt, ek_nx, w_any, srk_s, w_inew, w_rg1, w_rg2, w_zip, w_enum, w_comp, w_for, List.getElem?_cons_zero, List.getElem?_cons_succ, List.set_cons_zero, List.set_cons_succ, wp_ok, truth, Bool.not_true, Bool.not_false, sizeLine_eq, List.length_cons, List.length_nil, Nat.reduceAdd, Nat.reduceLeDiff, true_and, cmpI, subD, negD]; rw [if_neg ha, if_neg (by simpa using hb)]; exact ⟨rfl, trivial⟩
  simp only [w_var, vk_s, w_lit, w_op, w_un, w_new, w_nil, w_cons, w_starL, w_star, stk_s, w_tup, w_lst, w_call, w_bi, w_li, w_tru, trk_s, w_boo, bok_b, w_tan, ank_t, ank_f, w_tor, ork_f, ork_t, w_tno, w_tyes, w_man, mank_t, mank_f, w_mor, mok_f, mok_t, w_mno, w_mif, ifv_t, ifv_f, w_chain, chk_t, chk_f, w_optn, w_opts, opk_i, w_sl, w_met, metk_t, w_metl, w_snil, w_ret, w_retn, w_drop, w_if, ifk_t, ifk_f, w_asg, agk_nm, w_par2, w_par3, w_sub, w_seq, sk_nx, sk_rt, sk_bk, sk_ct, w_end, ek_rt, ek_nx, w_any, srk_s, w_inew, w_rg1, w_rg2, w_zip, w_enum, w_comp, w_for, List.getElem?_cons_zero, List.getElem?_cons_succ, List.set_cons_zero, List.set_cons_succ, wp_ok, truth, Bool.not_true, Bool.not_false, sizeLine_eq, List.length_cons, List.length_nil, Nat.reduceAdd, Nat.reduceLeDiff, true_and, cmpI, subD, negD, (s_not_before (k + 5) w5 off hm (a := b) (b := a) ⟨b1, b2⟩ ⟨a1, a2⟩ : C (k + 11) 12 _ _ = _)]
  obtain ⟨z2, hz2⟩ := rep3 (S := S5) (a := 2) (xs := [.tup (rowN m fun i => if i = a then 1 else if i = b then 2 else 0), .tup (List.replicate m.toNat (.int 1)), .tup (List.replicate m.toNat (.int 2))]) (fun x hx => by
    simp only [List.mem_cons, List.not_mem_nil, or_false] at hx
    rcases hx with rfl | rfl | rfl
    · exact gr _ fun i => by split <;> first | omega | (split <;> omega)
    · exact gc 1 (by omega)
    · exact gc 2 (by omega)) (by simp) (by omega)
  simp only [w_var, vk_s, w_lit, w_op, w_un, w_new, w_nil, w_cons, w_starL, w_star, stk_s, w_tup, w_lst, w_call, w_bi, w_li, w_tru, trk_s, w_boo, bok_b, w_tan, ank_t, ank_f, w_tor, ork_f, ork_t, w_tno, w_tyes, w_man, mank_t, mank_f, w_mor, mok_f, mok_t, w_mno, w_mif, ifv_t, ifv_f, w_chain, chk_t, chk_f, w_optn, w_opts, opk_i, w_sl, w_met, metk_t, w_metl, w_snil, w_ret, w_retn, w_drop, w_if, ifk_t, ifk_f, w_asg, agk_nm, w_par2, w_par3, w_sub, w_seq, sk_nx, sk_rt, sk_bk, sk_ct, w_end, ek_rt, ek_nx, w_any, srk_s, w_inew, w_rg1, w_rg2, w_zip, w_enum, w_comp, w_for, List.getElem?_cons_zero, List.getElem?_cons_succ, List.set_cons_zero, List.set_cons_succ, wp_ok, truth, Bool.not_true, Bool.not_false, sizeLine_eq, List.length_cons, List.length_nil, Nat.reduceAdd, Nat.reduceLeDiff, true_and, cmpI, subD, negD, hz2, add_tup (xs := [D.tup (rowN m fun i => if i = a then 1 else if i = b then 2 else 0)]) (ys := [D.tup (List.replicate m.toNat (D.int 1)), D.tup (List.replicate m.toNat (D.int 2))]) (by simp), List.cons_append, List.nil_append, ne_str2, srcOf, q5]
  refine rowc_ (fun i => if i = a then 1 else 0) (by omega) q5 (fun i _ _ => ?_) ?_
  · simp only [w_var, vk_s, w_lit, w_op, w_un, w_new, w_nil, w_cons, w_starL, w_star, stk_s, w_tup, w_lst, w_call, w_bi, w_li, w_tru, trk_s, w_boo, bok_b, w_tan, ank_t, ank_f, w_tor, ork_f, ork_t, w_tno, w_tyes, w_man, mank_t, mank_f, w_mor, mok_f, mok_t, w_mno, w_mif, ifv_t, ifv_f, w_chain, chk_t, chk_f, w_optn, w_opts, opk_i, w_sl, w_met, metk_t, w_metl, w_snil, w_ret, w_retn, w_drop, w_if, ifk_t, ifk_f, w_asg, agk_nm, w_par2, w_par3, w_sub, w_seq, sk_nx, sk_rt, sk_bk, sk_ct, w_end, ek_rt, ek_nx, w_any, srk_s, w_inew, w_rg1, w_rg2, w_zip, w_enum, w_comp, w_for, List.getElem?_cons_zero, List.getElem?_cons_succ, List.set_cons_zero, List.set_cons_succ, wp_ok, truth, Bool.not_true, Bool.not_false, sizeLine_eq, List.length_cons, List.length_nil, Nat.reduceAdd, Nat.reduceLeDiff, true_and, cmpI, subD, negD, wipeD, eq_int]
    cases ha : (i == a) with
    | true => simp only [w_var, vk_s, w_lit, w_op, w_un, w_new, w_nil, w_cons, w_starL, w_star, stk_s, w_tup, w_lst, w_call, w_bi, w_li, w_tru, trk_s, w_boo, bok_b, w_tan, ank_t, ank_f, w_tor, ork_f, ork_t, w_tno, w_tyes, w_man, mank_t, mank_f, w_mor, mok_f, mok_t, w_mno, w_mif, ifv_t, ifv_f, w_chain, chk_t, chk_f, w_optn, w_opts, opk_i, w_sl, w_met, metk_t, w_metl, w_snil, w_ret, w_retn, w_drop, w_if, ifk_t, ifk_f, w_asg, agk_nm, w_par2, w_par3, w_sub, w_seq, sk_nx, sk_rt, sk_bk, sk_ct, w_end, ek_rt, ek_nx, w_any, srk_s, w_inew, w_rg1, w_rg2, w_zip, w_enum, w_comp, w_for, List.getElem?_cons_zero, List.getElem?_cons_succ, List.set_cons_zero, List.set_cons_succ, wp_ok, truth, Bool.not_true, Bool.not_false, sizeLine_eq, List.length_cons, List.length_nil, Nat.reduceAdd, Nat.reduceLeDiff, true_and, cmpI, subD, negD]; rw [if_pos (by simpa using ha)]; exact ⟨rfl, trivial⟩
    | false => simp only [w_var, vk_s, w_lit, w_op, w_un, w_new, w_nil, w_cons, w_starL, w_star, stk_s, w_tup, w_lst, w_call, w_bi, w_li, w_tru, trk_s, w_boo, bok_b, w_tan, ank_t, ank_f, w_tor, ork_f, ork_t, w_tno, w_tyes, w_man, mank_t, mank_f, w_mor, mok_f, mok_t, w_mno, w_mif, ifv_t, ifv_f, w_chain, chk_t, chk_f, w_optn, w_opts, opk_i, w_sl, w_met, metk_t, w_metl, w_snil, w_ret, w_retn, w_drop, w_if, ifk_t, ifk_f, w_asg, agk_nm, w_par2, w_par3, w_sub, w_seq, sk_nx, sk_rt, sk_bk, sk_ct, w_end, ek_rt, ek_nx, w_any, srk_s, w_inew, w_rg1, w_rg2, w_zip, w_enum, w_comp, w_for, List.getElem?_cons_zero, List.getElem?_cons_succ, List.set_cons_zero, List.set_cons_succ, wp_ok, truth, Bool.not_true, Bool.not_false, sizeLine_eq, List.length_cons, List.length_nil, Nat.reduceAdd, Nat.reduceLeDiff, true_and, cmpI, subD, negD]; rw [if_neg (by simpa using ha)]; exact ⟨rfl, trivial⟩
  simp only [w_var, vk_s, w_lit, w_op, w_un, w_new, w_nil, w_cons, w_starL, w_star, stk_s, w_tup, w_lst, w_call, w_bi, w_li, w_tru, trk_s, w_boo, bok_b, w_tan, ank_t, ank_f, w_tor, ork_f, ork_t, w_tno, w_tyes, w_man, mank_t, mank_f, w_mor, mok_f, mok_t, w_mno, w_mif, ifv_t, ifv_f, w_chain, chk_t, chk_f, w_optn, w_opts, opk_i, w_sl, w_met, metk_t, w_metl, w_snil, w_ret, w_retn, w_drop, w_if, ifk_t, ifk_f, w_asg, agk_nm, w_par2, w_par3, w_sub, w_seq, sk_nx, sk_rt, sk_bk, sk_ct, w_end, ek_rt, ek_nx, w_any, srk_s, w_inew, w_rg1, w_rg2, w_zip, w_enum, w_comp, w_for, List.getElem?_cons_zero, List.getElem?_cons_succ, List.set_cons_zero, List.set_cons_succ, wp_ok, truth, Bool.not_true, Bool.not_false, sizeLine_eq, List.length_cons, List.length_nil, Nat.reduceAdd, Nat.reduceLeDiff, true_and, cmpI, subD, negD, srcOf, q5]
  refine rowc_ (fun i => if i = b then 2 else if i = a then 1 else 0) (by omega) q5 (fun i _ _ => ?_) ?_
  · simp only [w_var, vk_s, w_lit, w_op, w_un, w_new, w_nil, w_cons, w_starL, w_star, stk_s, w_tup, w_lst, w_call, w_bi, w_li, w_tru, trk_s, w_boo, bok_b, w_tan, ank_t, ank_f, w_tor, ork_f, ork_t, w_tno, w_tyes, w_man, mank_t, mank_f, w_mor, mok_f, mok_t, w_mno, w_mif, ifv_t, ifv_f, w_chain, chk_t, chk_f, w_optn, w_opts, opk_i, w_sl, w_met, metk_t, w_metl, w_snil, w_ret, w_retn, w_drop, w_if, ifk_t, ifk_f, w_asg, agk_nm, w_par2, w_par3, w_sub, w_seq, sk_nx, sk_rt, sk_bk, sk_ct, w_end, ek_rt, ek_nx, w_any, srk_s, w_inew, w_rg1, w_rg2, w_zip, w_enum, w_comp, w_for, List.getElem?_cons_zero, List.getElem?_cons_succ, List.set_cons_zero, List.set_cons_succ, wp_ok, truth, Bool.not_true, Bool.not_false, sizeLine_eq, List.length_cons, List.length_nil, Nat.reduceAdd, Nat.reduceLeDiff, true_and, cmpI, subD, negD, wipeD, eq_int]
    cases hb : (i == b) with
    | true => simp only [w_var, vk_s, w_lit, w_op, w_un, w_new, w_nil, w_cons, w_starL, w_star, stk_s, w_tup, w_lst, w_call, w_bi, w_li, w_tru, trk_s, w_boo, bok_b, w_tan, ank_t, ank_f, w_tor, ork_f, ork_t, w_tno, w_tyes, w_man, mank_t, mank_f, w_mor, mok_f, mok_t, w_mno, w_mif, ifv_t, ifv_f, w_chain, chk_t, chk_f, w_optn, w_opts, opk_i, w_sl, w_met, metk_t, w_metl, w_snil, w_ret, w_retn, w_drop, w_if, ifk_t, ifk_f, w_asg, agk_nm, w_par2, w_par3, w_sub, w_seq, sk_nx, sk_rt, sk_bk, sk_ct, w_end, ek_rt, ek_nx, w_any, srk_s, w_inew, w_rg1, w_rg2, w_zip, w_enum, w_comp, w_for, List.getElem?_cons_zero, List.getElem?_cons_succ, List.set_cons_zero, List.set_cons_succ, wp_ok, truth, Bool.not_true, Bool.not_false, sizeLine_eq, List.length_cons, List.length_nil, Nat.reduceAdd, Nat.reduceLeDiff, true_and, cmpI, subD, negD]; rw [if_pos (by simpa using hb)]; exact ⟨rfl, trivial⟩
    | false =>
      have hb : ¬ i = b := by simpa using hb
      simp only [w_var, vk_s, w_lit, w_op, w_un, w_new, w_nil, w_cons, w_starL, w_star, stk_s, w_tup, w_lst, w_call, w_bi, w_li, w_tru, trk_s, w_boo, bok_b, w_tan, ank_t, ank_f, w_tor, ork_f, ork_t, w_tno, w_tyes, w_man, mank_t, mank_f, w_mor, mok_f, mok_t, w_mno, w_mif, ifv_t, ifv_f, w_chain, chk_t, chk_f, w_optn, w_opts, opk_i, w_sl, w_met, metk_t, w_metl, w_snil, w_ret, w_retn, w_drop, w_if, ifk_t, ifk_f, w_asg, agk_nm, w_par2, w_par3, w_sub, w_seq, sk_nx, sk_rt, sk_bk, sk_ct, w_end, ek_rt, ek_nx, w_any, srk_s, w_inew, w_rg1, w_rg2, w_zip, w_enum, w_comp, w_for, List.getElem?_cons_zero, List.getElem?_cons_succ, List.set_cons_zero, List.set_cons_succ, wp_ok, truth, Bool.not_true, Bool.not_false, sizeLine_eq, List.length_cons, List.length_nil, Nat.reduceAdd, Nat.reduceLeDiff, true_and, cmpI, subD, negD, eq_int]
      cases ha : (i == a) with
      | true => simp only [w_var, vk_s, w_lit, w_op, w_un, w_new, w_nil, w_cons, w_starL, w_star, stk_s, w_tup, w_lst, w_call, w_bi, w_li, w_tru, trk_s, w_boo, bok_b, w_tan, ank_t, ank_f, w_tor, ork_f, ork_t, w_tno, w_tyes, w_man, mank_t, mank_f, w_mor, mok_f, mok_t, w_mno, w_mif, ifv_t, ifv_f, w_chain, chk_t, chk_f, w_optn, w_opts, opk_i, w_sl, w_met, metk_t, w_metl, w_snil, w_ret, w_retn, w_drop, w_if, ifk_t, ifk_f, w_asg, agk_nm, w_par2, w_par3, w_sub, w_seq, sk_nx, sk_rt, sk_bk, sk_ct, w_end, ek_rt, ek_nx, w_any, srk_s, w_inew, w_rg1, w_rg2, w_zip, w_enum, w_comp, w_for, List.getElem?_cons_zero, List.getElem?_cons_succ, List.set_cons_zero, List.set_cons_succ, wp_ok, truth, Bool.not_true, Bool.not_false, sizeLine_eq, List.length_cons, List.length_nil, Nat.reduceAdd, Nat.reduceLeDiff, true_and, cmpI, subD, negD]; rw [if_neg hb, if_pos (by simpa using ha)]; exact ⟨rfl, trivial⟩
      | false => simp only [w_var, vk_s, w_lit, w_op, w_un, w_new, w_nil, w_cons, w_starL, w_star, stk_s, w_tup, w_lst, w_call, w_bi, w_li, w_tru, trk_s, w_boo, bok_b, w_tan, ank_t, ank_f, w_tor, ork_f, ork_t, w_tno, w_tyes, w_man, mank_t, mank_f, w_mor, mok_f, mok_t, w_mno, w_mif, ifv_t, ifv_f, w_chain, chk_t, chk_f, w_optn, w_opts, opk_i, w_sl, w_met, metk_t, w_metl, w_snil, w_ret, w_retn, w_drop, w_if, ifk_t, ifk_f, w_asg, agk_nm, w_par2, w_par3, w_sub, w_seq, sk_nx, sk_rt, sk_bk, sk_ct, w_end, ek_rt, ek_nx, w_any, srk_s, w_inew, w_rg1, w_rg2, w_zip, w_enum, w_comp, w_for, List.getElem?_cons_zero, List.getElem?_cons_succ, List.set_cons_zero, List.set_cons_succ, wp_ok, truth, Bool.not_true, Bool.not_false, sizeLine_eq, List.length_cons, List.length_nil, Nat.reduceAdd, Nat.reduceLeDiff, true_and, cmpI, subD, negD]; rw [if_neg hb, if_neg (by simpa using ha)]; exact ⟨rfl, trivial⟩
  simp only [w_var, vk_s, w_lit, w_op, w_un, w_new, w_nil, w_cons, w_starL, w_star, stk_s, w_tup, w_lst, w_call, w_bi, w_li, w_tru, trk_s, w_boo, bok_b, w_tan, ank_t, ank_f, w_tor, ork_f, ork_t, w_tno, w_tyes, w_man, mank_t, mank_f, w_mor, mok_f, mok_t, w_mno, w_mif, ifv_t, ifv_f, w_chain, chk_t, chk_f, w_optn, w_opts, opk_i, w_sl, w_met, metk_t, w_metl, w_snil, w_ret, w_retn, w_drop, w_if, ifk_t, ifk_f, w_asg, agk_nm, w_par2, w_par3, w_sub, w_seq, sk_nx, sk_rt, sk_bk, sk_ct, w_end, ek_rt, ek_nx, w_any, srk_s, w_inew, w_rg1, w_rg2, w_zip, w_enum, w_comp, w_for, List.getElem?_cons_zero, List.getElem?_cons_succ, List.set_cons_zero, List.set_cons_succ, wp_ok, truth, Bool.not_true, Bool.not_false, sizeLine_eq, List.length_cons, List.length_nil, Nat.reduceAdd, Nat.reduceLeDiff, true_and, cmpI, subD, negD, (s_not_behind (k + 5) w5 off hm (a := b) (b := a) ⟨b1, b2⟩ ⟨a1, a2⟩ : C (k + 11) 13 _ _ = _), idx1]
  obtain ⟨z3, hz3⟩ := rep3 (S := S5) (a := 2) (xs := [.tup (rowN m fun i => if i = a then 1 else 0), .tup (rowN m fun i => if i = b then 2 else if i = a then 1 else 0), .tup (List.replicate m.toNat (.int 2))]) (fun x hx => by
    simp only [List.mem_cons, List.not_mem_nil, or_false] at hx
    rcases hx with rfl | rfl | rfl
    · exact gr _ fun i => by split <;> omega
    · exact gr _ fun i => by split <;> first | omega | (split <;> omega)
    · exact gc 2 (by omega)) (by simp) (by omega)
  simp only [w_var, vk_s, w_lit, w_op, w_un, w_new, w_nil, w_cons, w_starL, w_star, stk_s, w_tup, w_lst, w_call, w_bi, w_li, w_tru, trk_s, w_boo, bok_b, w_tan, ank_t, ank_f, w_tor, ork_f, ork_t, w_tno, w_tyes, w_man, mank_t, mank_f, w_mor, mok_f, mok_t, w_mno, w_mif, ifv_t, ifv_f, w_chain, chk_t, chk_f, w_optn, w_opts, opk_i, w_sl, w_met, metk_t, w_metl, w_snil, w_ret, w_retn, w_drop, w_if, ifk_t, ifk_f, w_asg, agk_nm, w_par2, w_par3, w_sub, w_seq, sk_nx, sk_rt, sk_bk, sk_ct, w_end, ek_rt, ek_nx, w_any, srk_s, w_inew, w_rg1, w_rg2, w_zip, w_enum, w_comp, w_for, List.getElem?_cons_zero, List.getElem?_cons_succ, List.set_cons_zero, List.set_cons_succ, wp_ok, truth, Bool.not_true, Bool.not_false, sizeLine_eq, List.length_cons, List.length_nil, Nat.reduceAdd, Nat.reduceLeDiff, true_and, cmpI, subD, negD, hz3, ne_str2]
  obtain ⟨v, S6, e6, wat, c6, p6⟩ := s_law_watcher (k + 9) (s := .int s) (rs := rs) w5 p5 (by omega) hm
  simp only [w_var, vk_s, w_lit, w_op, w_un, w_new, w_nil, w_cons, w_starL, w_star, stk_s, w_tup, w_lst, w_call, w_bi, w_li, w_tru, trk_s, w_boo, bok_b, w_tan, ank_t, ank_f, w_tor, ork_f, ork_t, w_tno, w_tyes, w_man, mank_t, mank_f, w_mor, mok_f, mok_t, w_mno, w_mif, ifv_t, ifv_f, w_chain, chk_t, chk_f, w_optn, w_opts, opk_i, w_sl, w_met, metk_t, w_metl, w_snil, w_ret, w_retn, w_drop, w_if, ifk_t, ifk_f, w_asg, agk_nm, w_par2, w_par3, w_sub, w_seq, sk_nx, sk_rt, sk_bk, sk_ct, w_end, ek_rt, ek_nx, w_any, srk_s, w_inew, w_rg1, w_rg2, w_zip, w_enum, w_comp, w_for, List.getElem?_cons_zero, List.getElem?_cons_succ, List.set_cons_zero, List.set_cons_succ, wp_ok, truth, Bool.not_true, Bool.not_false, sizeLine_eq, List.length_cons, List.length_nil, Nat.reduceAdd, Nat.reduceLeDiff, true_and, cmpI, subD, negD, (e6 : C (k + 11) 22 _ _ = _)]
  obtain ⟨rows, ends, rfl, r1, r2, r3, r4⟩ := id wat
  have sl : ∀ T, sliD (.tup [.tup rows, .tup (ends.map .int)]) none (some 1) T = .ok (.tup [.tup rows]) T := fun T => by
    show Res.ok (D.tup (cutD _ none (some ((1 : Nat) : Int)))) T = _
    rw [cut_to]; rfl
  have mu : ∀ T, mulD (.tup rows) (.int 5) T = .ok (.tup (List.replicate 5 rows).flatten) T := fun T => by
    show (if (5 : Int) = 1 then Res.ok (D.tup rows) T else if rows ≠ [] ∧ 2 ≤ (5 : Int) ∧ (5 : Int) ≤ 1000 ∧ rows.length ≤ 1000 then Res.ok (D.tup (List.replicate (5 : Int).toNat rows).flatten) T else .bad) = _
    rw [if_neg (by decide), if_pos ⟨fun e => by rw [e] at r1; simp at r1, by decide, by decide, by omega⟩]
    rfl
  have bV : ∀ n, D.blws n [D.tup rows, .tup (ends.map .int)] = true := fun n => by
    simp only [D.blws, D.blw, blws_ints, Bool.and_true]
    exact blws_iff.mpr fun r hr => by obtain ⟨ns, rfl, _⟩ := r2 r hr; simp only [D.blw, blws_ints]
  have c7 : Ch S6 (S6 ++ [O.lst [D.tup rows, .tup (ends.map .int)]]) p := Ch.add c6.wf (bV _)
  obtain ⟨o, S8, e8, go, bo, c8, p8⟩ := odd_ (k + 8) c7.wf (p6.add _) (by omega)
  simp only [w_var, vk_s, w_lit, w_op, w_un, w_new, w_nil, w_cons, w_starL, w_star, stk_s, w_tup, w_lst, w_call, w_bi, w_li, w_tru, trk_s, w_boo, bok_b, w_tan, ank_t, ank_f, w_tor, ork_f, ork_t, w_tno, w_tyes, w_man, mank_t, mank_f, w_mor, mok_f, mok_t, w_mno, w_mif, ifv_t, ifv_f, w_chain, chk_t, chk_f, w_optn, w_opts, opk_i, w_sl, w_met, metk_t, w_metl, w_snil, w_ret, w_retn, w_drop, w_if, ifk_t, ifk_f, w_asg, agk_nm, w_par2, w_par3, w_sub, w_seq, sk_nx, sk_rt, sk_bk, sk_ct, w_end, ek_rt, ek_nx, w_any, srk_s, w_inew, w_rg1, w_rg2, w_zip, w_enum, w_comp, w_for, List.getElem?_cons_zero, List.getElem?_cons_succ, List.set_cons_zero, List.set_cons_succ, wp_ok, truth, Bool.not_true, Bool.not_false, sizeLine_eq, List.length_cons, List.length_nil, Nat.reduceAdd, Nat.reduceLeDiff, true_and, cmpI, subD, negD, list_tup (ds := [D.tup rows, .tup (ends.map .int)]) (by simp), sl, idx0, idx1, add_tup (xs := ends.map .int) (ys := [.int 0]) (by simp; omega), mu, (e8 : C (k + 11) 18 _ _ = _)]
  generalize hx1 : [D.tup [D.tup rows, D.tup (List.map D.int ends)], D.ref (List.length S6), D.tup [D.tup rows], D.tup [D.tup rows, D.tup (List.map D.int ends ++ [D.int 0])], D.tup [D.tup (List.replicate 5 rows).flatten, D.tup []], o] = xs1
  have q9 : (S8 ++ [O.lst xs1])[S8.length]? = some (.lst xs1) := at_last
  have l1 : xs1.length = 6 := by rw [← hx1]; rfl
  simp only [w_var, vk_s, w_lit, w_op, w_un, w_new, w_nil, w_cons, w_starL, w_star, stk_s, w_tup, w_lst, w_call, w_bi, w_li, w_tru, trk_s, w_boo, bok_b, w_tan, ank_t, ank_f, w_tor, ork_f, ork_t, w_tno, w_tyes, w_man, mank_t, mank_f, w_mor, mok_f, mok_t, w_mno, w_mif, ifv_t, ifv_f, w_chain, chk_t, chk_f, w_optn, w_opts, opk_i, w_sl, w_met, metk_t, w_metl, w_snil, w_ret, w_retn, w_drop, w_if, ifk_t, ifk_f, w_asg, agk_nm, w_par2, w_par3, w_sub, w_seq, sk_nx, sk_rt, sk_bk, sk_ct, w_end, ek_rt, ek_nx, w_any, srk_s, w_inew, w_rg1, w_rg2, w_zip, w_enum, w_comp, w_for, List.getElem?_cons_zero, List.getElem?_cons_succ, List.set_cons_zero, List.set_cons_succ, wp_ok, truth, Bool.not_true, Bool.not_false, sizeLine_eq, List.length_cons, List.length_nil, Nat.reduceAdd, Nat.reduceLeDiff, true_and, cmpI, subD, negD, is_list q9, mul_rep (a := 0) (m := 9) (by omega)]
  generalize hA : [D.tup [D.tup [], D.tup []], D.tup [D.tup [D.tup [D.int 0]], D.tup [D.int 0]], D.tup [D.tup [D.tup (List.replicate (Int.toNat 9) (D.int 0))], D.tup []]] = As
  have lA : As.length = 3 := by rw [← hA]; rfl
  have lt8 : S6.length < S8.length := by have := c8.len; simp at this; omega
  have brows : ∀ n, D.blws n rows = true := fun n => blws_iff.mpr fun r hr => by obtain ⟨ns, rfl, _⟩ := r2 r hr; simp only [D.blw, blws_ints]
  have bx1 : D.blws S8.length xs1 = true := by
    have f1 : D.blws S8.length (List.replicate 5 rows).flatten = true := blws_iff.mpr fun r hr => by
      obtain ⟨l, hl, hr⟩ := List.mem_flatten.mp hr
      rw [(List.mem_replicate.mp hl).2] at hr
      exact blws_iff.mp (brows _) r hr
    have f2 : D.blws S8.length (List.map D.int ends ++ [D.int 0]) = true := by
      have := blws_ints S8.length (ends ++ [0])
      simpa using this
    rw [← hx1]
    simp only [D.blws, D.blw, blws_ints, Bool.and_true, bo, brows, f1, f2, decide_eq_true lt8]
  have bA : ∀ n, D.blws n As = true := fun n => by rw [← hA]; rfl
  obtain ⟨wo, wt, hwt, hwt2⟩ := wat.ofv
  have fr : ∃ a, (∀ n, kss n rows = some a) ∧ a ≤ 2000 := by
    obtain ⟨w, h1, h2⟩ := (show Good ([] : Sto) (.tup [.tup rows, .tup (ends.map .int)]) 2000 from ⟨4, wt, by omega, hwt2, hwt _⟩).fit
    simp only [ks] at h1
    obtain ⟨a, b, e1, _, rfl⟩ := kss_inv h1
    simp only [ks] at e1
    exact ⟨a, fun n => kss_mono (Nat.zero_le _) e1, by omega⟩
  obtain ⟨fa, hfa, hfa2⟩ := fr
  have okx1 : ∀ x ∈ xs1, OkV S8.length x := by
    rw [← hx1]
    intro x hx
    simp only [List.mem_cons, List.not_mem_nil, or_false] at hx
    have he : (71 : Nat) * ends.length ≤ 71 * 4 := Nat.mul_le_mul_left _ r3
    rcases hx with rfl | rfl | rfl | rfl | rfl | rfl
    · exact okv_small ((show Good S8 (.tup [.tup rows, .tup (ends.map .int)]) 2000 from ⟨4, wt, by omega, hwt2, hwt _⟩).fit.le (by omega))
    · exact okv_small ⟨0, by simp only [ks]; exact if_pos lt8, by omega⟩
    · exact okv_small ⟨fa + 1 + 0, by simp only [ks, kss, hfa], by omega⟩
    · refine okv_small ⟨fa + 1 + (71 * (ends ++ [0]).length + 1 + 0), ?_, by rw [List.length_append]; simp; omega⟩
      have := kss_ints (n := S8.length) (ends ++ [0])
      rw [List.map_append] at this
      simp only [ks, kss, hfa]
      simp only [List.map_cons, List.map_nil] at this
      rw [this]
    · have e5 : kss S8.length (List.replicate 5 rows).flatten = some (fa + (fa + (fa + (fa + (fa + 0))))) := by
        simp only [List.replicate, List.flatten_cons, List.flatten_nil]
        exact kss_app (hfa _) (kss_app (hfa _) (kss_app (hfa _) (kss_app (hfa _) (kss_app (hfa _) rfl))))
      refine ⟨⟨_, by simp only [ks]; exact kss_cons e5 (kss_cons rfl rfl), by omega⟩, fun ns hn => ?_⟩
      have : D.tup [] = .tup (ns.map .int) := hn
      cases ns with
      | nil => simp
      | cons => simp at this
    · exact okv_small (go.fit.le (by omega))
  have okA : ∀ n, ∀ x ∈ As, OkV n x := by
    rw [← hA]
    intro n x hx
    simp only [List.mem_cons, List.not_mem_nil, or_false] at hx
    rcases hx with rfl | rfl | rfl <;> exact okv_small ⟨_, rfl, by decide⟩
  have c9 : Ch S8 (S8 ++ [O.lst xs1]) p := Ch.add c8.wf bx1
  have c10 : Ch (S8 ++ [O.lst xs1]) (S8 ++ [O.lst xs1] ++ [O.lst As]) p := Ch.add c9.wf (bA _)
  have C10 := ((((c05.trans c6).trans c7).trans c8).trans c9).trans c10
  have P10 : Pt (S8 ++ [O.lst xs1] ++ [O.lst As]) p (N + 561) := ((p8.add _).add _).mono (by omega)
  have qx : (S8 ++ [O.lst xs1] ++ [O.lst As])[S8.length]? = some (.lst xs1) := by rw [List.getElem?_append_left (by simp)]; exact q9
  have qA : (S8 ++ [O.lst xs1] ++ [O.lst As])[(S8 ++ [O.lst xs1]).length]? = some (.lst As) := at_last
  have lx : S8.length < (S8 ++ [O.lst xs1] ++ [O.lst As]).length := by simp
  have lAl : (S8 ++ [O.lst xs1]).length < (S8 ++ [O.lst xs1] ++ [O.lst As]).length := by simp
  have pl : p < S8.length ∧ p < (S8 ++ [O.lst xs1]).length := by
    have := c05.len; have := c6.len; have := c7.len; have := c8.len; simp; omega
  have sl0 : S.length ≤ S8.length := by have := c05.len; have := c6.len; have := c7.len; have := c8.len; omega
  have okx1' := fun x hx => (okx1 x hx).mono (Nat.le_of_lt lx)
  generalize (S8 ++ [O.lst xs1] ++ [O.lst As]) = S10 at *
  generalize (S8 ++ [O.lst xs1]).length = nA at *
  refine ⟨12, rfl, by decide, ?_⟩
  refine wp_compJ (fun pre acc T => (∀ y ∈ acc, OkV T.length y ∧ y.blw T.length = true) ∧ acc.length = pre.length ∧ Ch S10 T p ∧ Pt T p (N + 561 + 12 * pre.length)) ⟨by simp, rfl, Ch.refl C10.wf, by simpa using P10⟩ ?_ ?_
  · rintro pre x post acc T e ⟨h1, h2, h3, h4⟩
    obtain ⟨rfl, hlt⟩ := rng_at e
    refine ⟨trivial, _, rfl, wp_of (a := true) (S := T) rfl ?_⟩
    rw [if_pos rfl]
    obtain ⟨y, T2, ey, ⟨w', g1, g2⟩, hb, cy, py⟩ := bent 3 (by omega) (k + 11) (by omega) wo hwt (by omega) h3.wf h4 (by omega)
    simp only [w_var, vk_s, w_lit, w_op, w_un, w_new, w_nil, w_cons, w_starL, w_star, stk_s, w_tup, w_lst, w_call, w_bi, w_li, w_tru, trk_s, w_boo, bok_b, w_tan, ank_t, ank_f, w_tor, ork_f, ork_t, w_tno, w_tyes, w_man, mank_t, mank_f, w_mor, mok_f, mok_t, w_mno, w_mif, ifv_t, ifv_f, w_chain, chk_t, chk_f, w_optn, w_opts, opk_i, w_sl, w_met, metk_t, w_metl, w_snil, w_ret, w_retn, w_drop, w_if, ifk_t, ifk_f, w_asg, agk_nm, w_par2, w_par3, w_sub, w_seq, sk_nx, sk_rt, sk_bk, sk_ct, w_end, ek_rt, ek_nx, w_any, srk_s, w_inew, w_rg1, w_rg2, w_zip, w_enum, w_comp, w_for, List.getElem?_cons_zero, List.getElem?_cons_succ, List.set_cons_zero, List.set_cons_succ, wp_ok, truth, Bool.not_true, Bool.not_false, sizeLine_eq, List.length_cons, List.length_nil, Nat.reduceAdd, Nat.reduceLeDiff, true_and, cmpI, subD, negD, wipeD, ey]
    refine ⟨by omega, fun z hz => ?_, by simp; omega, h3.trans cy, py.mono (by simp; omega)⟩
    rcases List.mem_append.mp hz with q | q
    · exact ⟨(h1 z q).1.mono cy.len, D.blw_mono cy.len _ (h1 z q).2⟩
    · rw [List.mem_singleton.mp q]
      exact ⟨okv_small ((show Good T2 y 4500 from ⟨6, w', by omega, by omega, g1⟩).fit), hb⟩
  · rintro acc T ⟨h1, h2, h3, h4⟩
    rw [rg_len] at h2 h4
    have h2 : acc.length = 12 := h2
    refine ⟨trivial, by omega, ?_⟩
    have tx : T[S8.length]? = some (.lst xs1) := (h3.oth _ lx (by omega)).trans qx
    have tA : T[nA]? = some (.lst As) := (h3.oth _ lAl (by omega)).trans qA
    have ltx := (List.getElem?_eq_some_iff.mp tx).1
    have ltA := (List.getElem?_eq_some_iff.mp tA).1
    rw [add_lst (xs := As) (ys := acc) (by rw [List.getElem?_append_left ltA]; exact tA) at_last (by omega)]
    simp only [w_var, vk_s, w_lit, w_op, w_un, w_new, w_nil, w_cons, w_starL, w_star, stk_s, w_tup, w_lst, w_call, w_bi, w_li, w_tru, trk_s, w_boo, bok_b, w_tan, ank_t, ank_f, w_tor, ork_f, ork_t, w_tno, w_tyes, w_man, mank_t, mank_f, w_mor, mok_f, mok_t, w_mno, w_mif, ifv_t, ifv_f, w_chain, chk_t, chk_f, w_optn, w_opts, opk_i, w_sl, w_met, metk_t, w_metl, w_snil, w_ret, w_retn, w_drop, w_if, ifk_t, ifk_f, w_asg, agk_nm, w_par2, w_par3, w_sub, w_seq, sk_nx, sk_rt, sk_bk, sk_ct, w_end, ek_rt, ek_nx, w_any, srk_s, w_inew, w_rg1, w_rg2, w_zip, w_enum, w_comp, w_for, List.getElem?_cons_zero, List.getElem?_cons_succ, List.set_cons_zero, List.set_cons_succ, wp_ok, truth, Bool.not_true, Bool.not_false, sizeLine_eq, List.length_cons, List.length_nil, Nat.reduceAdd, Nat.reduceLeDiff, true_and, cmpI, subD, negD]
    rw [ext_lst (xs := xs1) (ys := As ++ acc) (by rw [List.getElem?_append_left (by simp; omega), List.getElem?_append_left ltx]; exact tx) at_last (by rw [List.length_append]; omega)]
    simp only [w_var, vk_s, w_lit, w_op, w_un, w_new, w_nil, w_cons, w_starL, w_star, stk_s, w_tup, w_lst, w_call, w_bi, w_li, w_tru, trk_s, w_boo, bok_b, w_tan, ank_t, ank_f, w_tor, ork_f, ork_t, w_tno, w_tyes, w_man, mank_t, mank_f, w_mor, mok_f, mok_t, w_mno, w_mif, ifv_t, ifv_f, w_chain, chk_t, chk_f, w_optn, w_opts, opk_i, w_sl, w_met, metk_t, w_metl, w_snil, w_ret, w_retn, w_drop, w_if, ifk_t, ifk_f, w_asg, agk_nm, w_par2, w_par3, w_sub, w_seq, sk_nx, sk_rt, sk_bk, sk_ct, w_end, ek_rt, ek_nx, w_any, srk_s, w_inew, w_rg1, w_rg2, w_zip, w_enum, w_comp, w_for, List.getElem?_cons_zero, List.getElem?_cons_succ, List.set_cons_zero, List.set_cons_succ, wp_ok, truth, Bool.not_true, Bool.not_false, sizeLine_eq, List.length_cons, List.length_nil, Nat.reduceAdd, Nat.reduceLeDiff, true_and, cmpI, subD, negD]
    have lU : (T ++ [O.lst acc] ++ [O.lst (As ++ acc)]).length = T.length + 2 := by simp
    have bacc : D.blws T.length acc = true := blws_iff.mpr fun y hy => (h1 y hy).2
    have ball : D.blws (T.length + 2) (xs1 ++ (As ++ acc)) = true := blws_iff.mpr fun y hy => by
      rcases List.mem_append.mp hy with z | z
      · exact D.blw_mono (by omega) _ (blws_iff.mp bx1 y z)
      · rcases List.mem_append.mp z with z | z
        · exact blws_iff.mp (bA _) y z
        · exact D.blw_mono (by omega) _ (h1 y z).2
    have cA : Ch T (T ++ [O.lst acc] ++ [O.lst (As ++ acc)]) p := (Ch.add h3.wf bacc).trans (Ch.add ((Ch.add (p := p) h3.wf bacc).wf) (blws_iff.mpr fun y hy => by
      rcases List.mem_append.mp hy with z | z
      · exact blws_iff.mp (bA _) y z
      · exact D.blw_mono (by simp) _ (h1 y z).2))
    have uq : ((T ++ [O.lst acc] ++ [O.lst (As ++ acc)]).set S8.length (O.lst (xs1 ++ (As ++ acc))))[S8.length]? = some (O.lst (xs1 ++ (As ++ acc))) := List.getElem?_set_self (by rw [lU]; omega)
    have cU : Ch S ((T ++ [O.lst acc] ++ [O.lst (As ++ acc)]).set S8.length (O.lst (xs1 ++ (As ++ acc)))) p := by
      have q := (C10.trans h3).trans cA
      refine ⟨q.wf.set (by rw [lU]; exact ball), by rw [List.length_set]; exact q.len, fun j h1 h2 => ?_⟩
      rw [List.getElem?_set_ne (by omega)]
      exact q.oth j h1 h2
    have pU : Pt ((T ++ [O.lst acc] ++ [O.lst (As ++ acc)]).set S8.length (O.lst (xs1 ++ (As ++ acc)))) p (N + 2000) := by
      obtain ⟨x, y, z, e, r⟩ := ((h4.add [O.lst acc]).add [O.lst (As ++ acc)]).mono (show N + 561 + 12 * ((rangeD 0 12).length : Nat) ≤ N + 2000 by rw [rg_len]; show N + 561 + 12 * ((12 : Nat) : Int) ≤ _; omega)
      exact ⟨x, y, z, by rw [List.getElem?_set_ne (by omega)]; exact e, r⟩
    have lV : ((T ++ [O.lst acc] ++ [O.lst (As ++ acc)]).set S8.length (O.lst (xs1 ++ (As ++ acc)))).length = T.length + 2 := by rw [List.length_set, lU]
    have okU : ∀ y ∈ xs1 ++ (As ++ acc), OkV (T.length + 2) y := fun y hy => by
      rcases List.mem_append.mp hy with z | z
      · exact (okx1 y z).mono (by omega)
      · rcases List.mem_append.mp z with z | z
        · exact okA _ y z
        · exact (h1 y z).1.mono (by omega)
    generalize (T ++ [O.lst acc] ++ [O.lst (As ++ acc)]).set S8.length (O.lst (xs1 ++ (As ++ acc))) = U at *
    simp only [w_var, vk_s, w_lit, w_op, w_un, w_new, w_nil, w_cons, w_starL, w_star, stk_s, w_tup, w_lst, w_call, w_bi, w_li, w_tru, trk_s, w_boo, bok_b, w_tan, ank_t, ank_f, w_tor, ork_f, ork_t, w_tno, w_tyes, w_man, mank_t, mank_f, w_mor, mok_f, mok_t, w_mno, w_mif, ifv_t, ifv_f, w_chain, chk_t, chk_f, w_optn, w_opts, opk_i, w_sl, w_met, metk_t, w_metl, w_snil, w_ret, w_retn, w_drop, w_if, ifk_t, ifk_f, w_asg, agk_nm, w_par2, w_par3, w_sub, w_seq, sk_nx, sk_rt, sk_bk, sk_ct, w_end, ek_rt, ek_nx, w_any, srk_s, w_inew, w_rg1, w_rg2, w_zip, w_enum, w_comp, w_for, List.getElem?_cons_zero, List.getElem?_cons_succ, List.set_cons_zero, List.set_cons_succ, wp_ok, truth, Bool.not_true, Bool.not_false, sizeLine_eq, List.length_cons, List.length_nil, Nat.reduceAdd, Nat.reduceLeDiff, true_and, cmpI, subD, negD, srcOf, uq]
    refine wp_all (fun _ => true) uq (by simp only [List.length_append]; omega) (fun y hy => ?_) ?_
    · obtain ⟨bb, f1, f2⟩ := both_ (k + 5) cU.wf off (v := y) (by rw [lV]; exact okU y hy)
      simp only [w_var, vk_s, w_lit, w_op, w_un, w_new, w_nil, w_cons, w_starL, w_star, stk_s, w_tup, w_lst, w_call, w_bi, w_li, w_tru, trk_s, w_boo, bok_b, w_tan, ank_t, ank_f, w_tor, ork_f, ork_t, w_tno, w_tyes, w_man, mank_t, mank_f, w_mor, mok_f, mok_t, w_mno, w_mif, ifv_t, ifv_f, w_chain, chk_t, chk_f, w_optn, w_opts, opk_i, w_sl, w_met, metk_t, w_metl, w_snil, w_ret, w_retn, w_drop, w_if, ifk_t, ifk_f, w_asg, agk_nm, w_par2, w_par3, w_sub, w_seq, sk_nx, sk_rt, sk_bk, sk_ct, w_end, ek_rt, ek_nx, w_any, srk_s, w_inew, w_rg1, w_rg2, w_zip, w_enum, w_comp, w_for, List.getElem?_cons_zero, List.getElem?_cons_succ, List.set_cons_zero, List.set_cons_succ, wp_ok, truth, Bool.not_true, Bool.not_false, sizeLine_eq, List.length_cons, List.length_nil, Nat.reduceAdd, Nat.reduceLeDiff, true_and, cmpI, subD, negD, wipeD, (f1 : C (k + 11) 9 _ _ = _), (f2 : C (k + 11) 23 _ _ = _), repr_bl, eq_str, beq_self_eq_true]
      done
    · rw [List.all_eq_true.mpr fun _ _ => rfl]
      exact tk_ch cU pU hps (fun n => rfl) fun S' c' p' => ⟨rfl, c', p'⟩
end
end Rf.L33
end

section
set_option Elab.async false
set_option linter.all false
set_option maxRecDepth 100000
set_option maxHeartbeats 8000000
namespace Rf.L33
open PySem PySem.Spec PyProof.Rows L2 Rf
noncomputable section
theorem c_law (k : Nat) (a : D) (S : Sto) : C (k + 1) 25 [a] S = endD S.length (m_law (cm k) [some a, none, none, none] S) := rfl
theorem s_law (k : Nat) {ns : List Int} (h : ns.length ≤ 63) : ∃ v S', C (k + 13) 25 [.rol ns] [] = .ok v S' ∧ v = .bl true := by
  refine ex_of ?_
  rw [c_law]
  unfold m_law
  obtain ⟨n, hn, e1⟩ := s10 (k + 11) (ns := ns) Wf.nil h
  simp only [w_var, vk_s, w_lit, w_op, w_un, w_new, w_nil, w_cons, w_starL, w_star, stk_s, w_tup, w_lst, w_call, w_bi, w_li, w_tru, trk_s, w_boo, bok_b, w_tan, ank_t, ank_f, w_tor, ork_f, ork_t, w_tno, w_tyes, w_man, mank_t, mank_f, w_mor, mok_f, mok_t, w_mno, w_mif, ifv_t, ifv_f, w_chain, chk_t, chk_f, w_optn, w_opts, opk_i, w_sl, w_met, metk_t, w_metl, w_snil, w_ret, w_retn, w_drop, w_if, ifk_t, ifk_f, w_asg, agk_nm, w_par2, w_par3, w_sub, w_seq, sk_nx, sk_rt, sk_bk, sk_ct, w_end, ek_rt, ek_nx, w_any, srk_s, w_inew, w_rg1, w_rg2, w_zip, w_enum, w_comp, w_for, List.getElem?_cons_zero, List.getElem?_cons_succ, List.set_cons_zero, List.set_cons_succ, wp_ok, truth, Bool.not_true, Bool.not_false, sizeLine_eq, List.length_cons, List.length_nil, Nat.reduceAdd, Nat.reduceLeDiff, true_and, cmpI, subD, negD, (e1 : C (k + 12) 17 _ _ = _)]
  have q1 : (([] : Sto) ++ [O.lst (rangeD 0 (n : Int))])[0]? = some (.lst (rangeD 0 (n : Int))) := rfl
  have w1 : Wf (([] : Sto) ++ [O.lst (rangeD 0 (n : Int))]) := Wf.nil.add (blws_iff.mpr fun d hd => by obtain ⟨i, _, rfl⟩ := List.mem_map.mp hd; rfl)
  generalize (([] : Sto) ++ [O.lst (rangeD 0 (n : Int))]) = S1 at *
  simp only [w_var, vk_s, w_lit, w_op, w_un, w_new, w_nil, w_cons, w_starL, w_star, stk_s, w_tup, w_lst, w_call, w_bi, w_li, w_tru, trk_s, w_boo, bok_b, w_tan, ank_t, ank_f, w_tor, ork_f, ork_t, w_tno, w_tyes, w_man, mank_t, mank_f, w_mor, mok_f, mok_t, w_mno, w_mif, ifv_t, ifv_f, w_chain, chk_t, chk_f, w_optn, w_opts, opk_i, w_sl, w_met, metk_t, w_metl, w_snil, w_ret, w_retn, w_drop, w_if, ifk_t, ifk_f, w_asg, agk_nm, w_par2, w_par3, w_sub, w_seq, sk_nx, sk_rt, sk_bk, sk_ct, w_end, ek_rt, ek_nx, w_any, srk_s, w_inew, w_rg1, w_rg2, w_zip, w_enum, w_comp, w_for, List.getElem?_cons_zero, List.getElem?_cons_succ, List.set_cons_zero, List.set_cons_succ, wp_ok, truth, Bool.not_true, Bool.not_false, sizeLine_eq, List.length_cons, List.length_nil, Nat.reduceAdd, Nat.reduceLeDiff, true_and, cmpI, subD, negD, srcOf, q1]
  refine wp_forJ (fun pre ρ T => ∃ x1 x2 x3, ρ = [some (.rol ns), x1, x2, x3] ∧ Wf T ∧ T[0]? = some (.lst (rangeD 0 (n : Int)))) ⟨none, none, none, rfl, w1, q1⟩ ?_ ?_
  · rintro pre d post ρ T e ⟨x1, x2, x3, rfl, wT, qT⟩
    obtain ⟨rfl, hlt⟩ := rng_at e
    refine ⟨qT, _, rfl, ?_⟩
    obtain ⟨q, T1, e2, p2, l2, w2, l3, o2⟩ := s7 (k + 11) (ns := ns) (n := pre.length) wT (by omega)
    have l0 : 0 < T.length := (List.getElem?_eq_some_iff.mp qT).1
    simp only [w_var, vk_s, w_lit, w_op, w_un, w_new, w_nil, w_cons, w_starL, w_star, stk_s, w_tup, w_lst, w_call, w_bi, w_li, w_tru, trk_s, w_boo, bok_b, w_tan, ank_t, ank_f, w_tor, ork_f, ork_t, w_tno, w_tyes, w_man, mank_t, mank_f, w_mor, mok_f, mok_t, w_mno, w_mif, ifv_t, ifv_f, w_chain, chk_t, chk_f, w_optn, w_opts, opk_i, w_sl, w_met, metk_t, w_metl, w_snil, w_ret, w_retn, w_drop, w_if, ifk_t, ifk_f, w_asg, agk_nm, w_par2, w_par3, w_sub, w_seq, sk_nx, sk_rt, sk_bk, sk_ct, w_end, ek_rt, ek_nx, w_any, srk_s, w_inew, w_rg1, w_rg2, w_zip, w_enum, w_comp, w_for, List.getElem?_cons_zero, List.getElem?_cons_succ, List.set_cons_zero, List.set_cons_succ, wp_ok, truth, Bool.not_true, Bool.not_false, sizeLine_eq, List.length_cons, List.length_nil, Nat.reduceAdd, Nat.reduceLeDiff, true_and, cmpI, subD, negD, (e2 : C (k + 12) 14 _ _ = _)]
    refine ⟨3, rfl, by decide, ?_⟩
    refine wp_compJ (fun pre acc U => (∀ y ∈ acc, y = .bl true) ∧ acc.length = pre.length ∧ Ch T1 U q ∧ Pt U q (2000 * pre.length)) ⟨by simp, rfl, Ch.refl w2, by simpa using p2⟩ ?_ ?_
    · rintro pre x post acc U e ⟨h1, h2, h3, h4⟩
      obtain ⟨rfl, hlt⟩ := rng_at e
      refine ⟨trivial, _, rfl, wp_of (a := true) (S := U) rfl ?_⟩
      rw [if_pos rfl]
      obtain ⟨v, U2, e3, rfl, c3, p3⟩ := s_law_right k h3.wf h4 (by omega)
      simp only [w_var, vk_s, w_lit, w_op, w_un, w_new, w_nil, w_cons, w_starL, w_star, stk_s, w_tup, w_lst, w_call, w_bi, w_li, w_tru, trk_s, w_boo, bok_b, w_tan, ank_t, ank_f, w_tor, ork_f, ork_t, w_tno, w_tyes, w_man, mank_t, mank_f, w_mor, mok_f, mok_t, w_mno, w_mif, ifv_t, ifv_f, w_chain, chk_t, chk_f, w_optn, w_opts, opk_i, w_sl, w_met, metk_t, w_metl, w_snil, w_ret, w_retn, w_drop, w_if, ifk_t, ifk_f, w_asg, agk_nm, w_par2, w_par3, w_sub, w_seq, sk_nx, sk_rt, sk_bk, sk_ct, w_end, ek_rt, ek_nx, w_any, srk_s, w_inew, w_rg1, w_rg2, w_zip, w_enum, w_comp, w_for, List.getElem?_cons_zero, List.getElem?_cons_succ, List.set_cons_zero, List.set_cons_succ, wp_ok, truth, Bool.not_true, Bool.not_false, sizeLine_eq, List.length_cons, List.length_nil, Nat.reduceAdd, Nat.reduceLeDiff, true_and, cmpI, subD, negD, wipeD, e3]
      refine ⟨by omega, fun z hz => ?_, by simp; omega, h3.trans c3, p3.mono (by simp; omega)⟩
      rcases List.mem_append.mp hz with z | z
      · exact h1 _ z
      · exact List.mem_singleton.mp z
    · rintro acc U ⟨h1, h2, h3, h4⟩
      refine ⟨trivial, ?_⟩
      have ea : allOf acc U = .ok (.bl true) U := by
        have e : acc = acc.map fun _ => D.bl ((fun _ => true) ()) := by
          conv => lhs; rw [← List.map_id acc]
          exact List.map_congr_left fun y hy => h1 y hy
        rw [e]
        exact (all_mapw (f := fun _ => true)).trans (by rw [List.all_eq_true.mpr fun _ _ => rfl])
      simp only [w_var, vk_s, w_lit, w_op, w_un, w_new, w_nil, w_cons, w_starL, w_star, stk_s, w_tup, w_lst, w_call, w_bi, w_li, w_tru, trk_s, w_boo, bok_b, w_tan, ank_t, ank_f, w_tor, ork_f, ork_t, w_tno, w_tyes, w_man, mank_t, mank_f, w_mor, mok_f, mok_t, w_mno, w_mif, ifv_t, ifv_f, w_chain, chk_t, chk_f, w_optn, w_opts, opk_i, w_sl, w_met, metk_t, w_metl, w_snil, w_ret, w_retn, w_drop, w_if, ifk_t, ifk_f, w_asg, agk_nm, w_par2, w_par3, w_sub, w_seq, sk_nx, sk_rt, sk_bk, sk_ct, w_end, ek_rt, ek_nx, w_any, srk_s, w_inew, w_rg1, w_rg2, w_zip, w_enum, w_comp, w_for, List.getElem?_cons_zero, List.getElem?_cons_succ, List.set_cons_zero, List.set_cons_succ, wp_ok, truth, Bool.not_true, Bool.not_false, sizeLine_eq, List.length_cons, List.length_nil, Nat.reduceAdd, Nat.reduceLeDiff, true_and, cmpI, subD, negD, ea]
      exact ⟨_, _, _, rfl, h3.wf, by rw [h3.oth 0 (by omega) (by omega), o2 0 l0]; exact qT⟩
  · rintro ρ T ⟨x1, x2, x3, rfl, wT, qT⟩
    refine ⟨qT, ?_⟩
    simp only [w_var, vk_s, w_lit, w_op, w_un, w_new, w_nil, w_cons, w_starL, w_star, stk_s, w_tup, w_lst, w_call, w_bi, w_li, w_tru, trk_s, w_boo, bok_b, w_tan, ank_t, ank_f, w_tor, ork_f, ork_t, w_tno, w_tyes, w_man, mank_t, mank_f, w_mor, mok_f, mok_t, w_mno, w_mif, ifv_t, ifv_f, w_chain, chk_t, chk_f, w_optn, w_opts, opk_i, w_sl, w_met, metk_t, w_metl, w_snil, w_ret, w_retn, w_drop, w_if, ifk_t, ifk_f, w_asg, agk_nm, w_par2, w_par3, w_sub, w_seq, sk_nx, sk_rt, sk_bk, sk_ct, w_end, ek_rt, ek_nx, w_any, srk_s, w_inew, w_rg1, w_rg2, w_zip, w_enum, w_comp, w_for, List.getElem?_cons_zero, List.getElem?_cons_succ, List.set_cons_zero, List.set_cons_succ, wp_ok, truth, Bool.not_true, Bool.not_false, sizeLine_eq, List.length_cons, List.length_nil, Nat.reduceAdd, Nat.reduceLeDiff, true_and, cmpI, subD, negD]
    unfold TrimK trimD
    split <;> rfl
theorem math (ns : List Int) (h : ns.length ≤ 63) : ∃ S', callK (tabOf defs) (fun _ => 0) 0 40 lawI [.rol ns] [] = .ok (.bl true) S' := by
  obtain ⟨v, S', e, rfl⟩ := s_law 27 h
  exact ⟨S', e⟩
end
end Rf.L33
end

section
set_option Elab.async false
set_option linter.all false
set_option maxRecDepth 100000
set_option maxHeartbeats 0
open PySem PySem.W PySem.Calls PyProof.Rows
theorem finL33 (math : ∀ ns : List Int, ns.length ≤ 63 → ∃ S', Rf.callK (Rf.tabOf Rf.L33.defs) (fun _ => 0) 0 40 Rf.L33.lawI [.rol ns] [] = .ok (.bl true) S') : PySem.Challenge.rw_piledhigh_k33_watchers_and_what_is_none.Holds := by
  w_on; o_law
  refine HandSHeadRun.head_any (r := OpenLaw.row PySem.Challenge.rw_piledhigh_k33_watchers_and_what_is_none) (q := view (OpenLaw.row PySem.Challenge.rw_piledhigh_k33_watchers_and_what_is_none).prog [Rf.L33.lawTop]) (H := Rf.L33.hk) (ob := Rf.L33.ob) (M := 3640) (loose := Rf.L33.names)
    (d := HandSHeadRun.topDef (OpenLaw.row PySem.Challenge.rw_piledhigh_k33_watchers_and_what_is_none).prog Rf.L33.lawTop) (kwd := []) Rf.L33.ob_eq
    (by kernel_rfl) (fun s => by kernel_rfl) Rf.L33.run (by kernel_rfl) (by kernel_rfl) (by kernel_rfl) (by rfl) (by first | assumption | decide +kernel) (by decide +kernel) ⟨rfl, rfl, rfl, rfl, rfl, by decide +kernel⟩ ?hw ?hc
  case hw => w_witness2
  case hc =>
    refine Rf.walk_ofD (l := PySem.Challenge.rw_piledhigh_k33_watchers_and_what_is_none) (n := 63) (k := 40) (i := Rf.L33.lawI) (x := "script") rfl (by decide) (by kernel_rfl) ⟨rfl, by decide, by decide⟩ ?F
    intro w mg fa h Y G hmg0
    obtain ⟨K, KX, c⟩ := Y
    have hmg : mg ("law" : PySem.Str) = some (.ref fa) := by
      have e : (HandSHeadRun.topDef (OpenLaw.row PySem.Challenge.rw_piledhigh_k33_watchers_and_what_is_none).prog Rf.L33.lawTop).name = ("law" : PySem.Str) := by kernel_rfl
      rw [← e]
      exact hmg0
    obtain ⟨fdf, T⟩ := Rf.told_of (consts := Rf.L33.consts) (bis := Rf.L33.bis) KX G c Rf.L33.glos Rf.L33.frees Rf.L33.consts_ok Rf.L33.bound
    have hd : Rf.L33.defs[Rf.L33.lawI]? = some ⟨"law", Rf.L33.top Rf.L33.lawTop, (Rf.L33.defs[Rf.L33.lawI]?.map Rf.DefE.N).getD [], ["script"], Rf.L33.m_law⟩ := rfl
    obtain ⟨F, g, b⟩ := T.fd _ _ hd
    have e := hmg.symm.trans g
    cases e
    refine ⟨K, fdf Rf.L33.lawI, ⟨Rf.callK (Rf.tabOf Rf.L33.defs) (fun _ => 0) 0 40, 0, fun _ => 0⟩, KX, fun s u => ?_, math, fun base _ _ => ?_⟩
    · exact L2.FunD.bindsA (ps := ["script"]) F (Rf.L33.bound _ (List.mem_of_getElem? hd)) s [u] rfl
    · exact Rf.all_defs (cl := fun _ => 0) (fuel := 0) (P := (PySem.Challenge.rw_piledhigh_k33_watchers_and_what_is_none).prog) (w := w) (base := base) T Rf.L33.scopes Rf.L33.bodies Rf.L33.fns_ok 40 _ _ hd
end

theorem PySem.Challenge.cw_piledhigh_k33_watchers_and_what_is_none_holds : PySem.Challenge.rw_piledhigh_k33_watchers_and_what_is_none.Holds := by
  exact (finL33 fun ns h => Rf.L33.math ns h)
