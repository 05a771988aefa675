import PyProof.Rows.All
import Wide.All
import OpenK.AllK
import Wide.FinOn
import HandS.ForMost
import HandS.ForExc
import HandS.CallSlots
import HandS.IsInst
import HandS.ExcInit
import HandS.ExcField
import HandS.TryMany
import HandS.Star
import HandS.Defaults
import HandS.Wide
import HandS.TupAny
import HandS.Deep
import HandS.RaiseMore
import HandS.Steps
import HandS.StrMore
import HandS.Codes
import HandS.Text
import HandS.Iter
import HandS.Zip
import KE.GoesZip
import KE.GoesMore
import KE.GoesEnum
import KE.KUnpackStar
import KE.KSuper
import HandS.Nested
import HandS.Words
import HandS.HeadHook1
import HandS.HeadHook2
import HandS.HeadHook3
import PySem.Challenge.RW_gangbooks_k97_certificates_round
import HandS.HeadEnd
import HandS.Head0
import HandS.Head1
import HandS.Head2
import PyProof.Rows.StrDigitsNeg
import PyProof.P3Eq
import PyProof.StrLawsAffix
set_option Elab.async false
set_option linter.all false
set_option maxRecDepth 100000
set_option maxHeartbeats 4000000
/-! FL: a functional reading of the hand layer. Values are trees; lists that change and objects that change stand in a store. -/
namespace FL
open PySem PySem.Spec PyProof.Rows L2

/-- a value as a tree: fls a list that never changes again, wls the script or a written list, ist an instance that never changes again, obj a place of the store, glo what a name of the module stands for -/
inductive D where
  | non | bl (b : Bool) | int (i : Int) | str (x : Str) | tup (ds : List D) | fls (ds : List D) | wls (ds : List D) | ist (C : Str) (fs : List (Str × D)) | obj (i : Nat) | glo (x : Str) | ty (n : String)
/-- what stands in the store -/
inductive O where
  | lst (ds : List D)
  | ins (C : Str) (fs : List (Str × D))
abbrev Sto := List O
/-- where the store's places stand; the things that are hidden (a list that a comprehension is making) -/
structure Rr where
  pl : List Addr
  hid : List Addr
def Rr.push (ρ : Rr) (p : Addr) : Rr := ⟨ρ.pl ++ [p], ρ.hid⟩
def Rr.hide (ρ : Rr) (p : Addr) : Rr := ⟨ρ.pl, p :: ρ.hid⟩
/-- neither a place nor hidden -/
def Rr.off (ρ : Rr) (a : Addr) : Prop := a ∉ ρ.pl ∧ a ∉ ρ.hid
abbrev Env' := List (Option D)
/-- a run's end -/
inductive R (α : Type) where
  | ok (a : α) (s : Sto)
  | exc (C : Str) (fs : List (Str × D)) (s : Sto)
  | bad
def R.bind {α β : Type} : R α → (α → Sto → R β) → R β
  | .ok a s, k => k a s
  | .exc C fs s, _ => .exc C fs s
  | .bad, _ => .bad
abbrev M := Env' → Sto → R D

/-- a written tuple, a written list -/
def WrT (K : PySem.W.Frag) (a : Addr) (xs : List V) : Prop := ∃ (o : Obj) (its : Array Value) (n : Nat), K.lookup a = some o ∧ o.cls = .type "tuple" ∧ o.data = .seq its n ∧ its.size ≤ sizeLine ∧ Vals xs its.toList
def WrL (K : PySem.W.Frag) (a : Addr) (xs : List V) : Prop := ∃ (o : Obj) (its : Array Value) (n : Nat), K.lookup a = some o ∧ o.cls = .type "list" ∧ o.dict = none ∧ o.data = .seq its n ∧ its.size ≤ sizeLine ∧ Vals xs its.toList
/-- a tuple, a list that stands still: off the store -/
def Rt (K : PySem.W.Frag) (ρ : Rr) (H : Hp) (a : Addr) (xs : List V) : Prop := (Rd H a (.tup xs) ∧ ρ.off a) ∨ WrT K a xs
def Rl (K : PySem.W.Frag) (ρ : Rr) (H : Hp) (a : Addr) (xs : List V) : Prop := ((∃ o, H a = some (.frz o (.lst xs))) ∧ ρ.off a) ∨ WrL K a xs
theorem Rt.sq {K : PySem.W.Frag} {ρ : Rr} {H : Hp} {a : Addr} {xs : List V} (h : Rt K ρ H a xs) : SqT K H a xs := h.elim (fun h => .inl h.1) .inr
theorem Rl.sq {K : PySem.W.Frag} {ρ : Rr} {H : Hp} {a : Addr} {xs : List V} (h : Rl K ρ H a xs) : SqL K H a xs := h.elim (fun h => .inl (.inr h.1)) .inr
section
variable (K : PySem.W.Frag) (mg : Str → Option Value)
mutual
inductive IsV (ρ : Rr) (H : Hp) : V → D → Prop where
  | non : IsV ρ H .non .non
  | bl {b : Bool} : IsV ρ H (.bl b) (.bl b)
  | int {i : Int} : IsV ρ H (.int i) (.int i)
  | str {x : Str} : IsV ρ H (.str x) (.str x)
  | tup {a : Addr} {xs : List V} {ds : List D} (h : Rt K ρ H a xs) (hs : IsVs ρ H xs ds) : IsV ρ H (.ref a) (.tup ds)
  | fls {a : Addr} {xs : List V} {ds : List D} (h : H a = some (.lst xs)) (n : ρ.off a) (hs : IsVs ρ H xs ds) : IsV ρ H (.ref a) (.fls ds)
  | wls {a : Addr} {xs : List V} {ds : List D} (h : Rl K ρ H a xs) (hs : IsVs ρ H xs ds) : IsV ρ H (.ref a) (.wls ds)
  | ist {a ca dx : Addr} {C : Str} {gs : List (Str × V)} {fs : List (Str × D)} (hc : mg C = some (.ref ca)) (h : H a = some (.ins ca dx gs)) (n : ρ.off a) (hs : IsFs ρ H gs fs) : IsV ρ H (.ref a) (.ist C fs)
  | obj {a : Addr} {i : Nat} (h : ρ.pl[i]? = some a) : IsV ρ H (.ref a) (.obj i)
  | glo {a : Addr} {x : Str} (h : mg x = some (.ref a)) : IsV ρ H (.ref a) (.glo x)
  | ty {n : String} : IsV ρ H (.ty n) (.ty n)
inductive IsVs (ρ : Rr) (H : Hp) : List V → List D → Prop where
  | nil : IsVs ρ H [] []
  | cons {v : V} {d : D} {vs : List V} {ds : List D} (h : IsV ρ H v d) (t : IsVs ρ H vs ds) : IsVs ρ H (v :: vs) (d :: ds)
inductive IsFs (ρ : Rr) (H : Hp) : List (Str × V) → List (Str × D) → Prop where
  | nil : IsFs ρ H [] []
  | cons {f : Str} {v : V} {d : D} {vs : List (Str × V)} {ds : List (Str × D)} (h : IsV ρ H v d) (t : IsFs ρ H vs ds) : IsFs ρ H ((f, v) :: vs) ((f, d) :: ds)
end
/-- the heap behind a step: the store's places are kept, new ones are fresh; nothing goes; all that the store does not hold stays -/
structure Le (ρ : Rr) (H : Hp) (ρ' : Rr) (H' : Hp) : Prop where
  pre : ∃ t, ρ' = ⟨ρ.pl ++ t, ρ.hid⟩ ∧ ∀ a ∈ t, H a = none
  liv : ∀ a, H' a = none → H a = none
  frm : ∀ a o, H a = some o → a ∉ ρ.pl → H' a = some o
def OkO (ρ : Rr) (H : Hp) (a : Addr) : O → Prop
  | .lst ds => ∃ xs, H a = some (.lst xs) ∧ IsVs K mg ρ H xs ds
  | .ins C fs => ∃ ca dx gs, mg C = some (.ref ca) ∧ H a = some (.ins ca dx gs) ∧ IsFs K mg ρ H gs fs
/-- the store stands in the heap -/
structure Rep (ρ : Rr) (H : Hp) (s : List O) : Prop where
  len : ρ.pl.length = s.length
  nd : ρ.pl.Nodup
  hd : ∀ a ∈ ρ.hid, H a ≠ none ∧ a ∉ ρ.pl
  at_ : ∀ (i : Nat) (a : Addr) (o : O), ρ.pl[i]? = some a → s[i]? = some o → OkO K mg ρ H a o
/-- the frame's names -/
inductive Evs (ρ : Rr) (H : Hp) : L2.St → Env' → Prop where
  | nil : Evs ρ H [] []
  | off {x : Option V} {σ : L2.St} {τ : Env'} (t : Evs ρ H σ τ) : Evs ρ H (x :: σ) (none :: τ)
  | on {v : V} {d : D} {σ : L2.St} {τ : Env'} (h : IsV K mg ρ H v d) (t : Evs ρ H σ τ) : Evs ρ H (some v :: σ) (some d :: τ)
end

section
variable {K : PySem.W.Frag} {mg : Str → Option Value} {ρ ρ1 ρ2 ρ' : Rr} {H H1 H2 H' : Hp}
theorem Le.refl : Le ρ H ρ H := ⟨⟨[], by rw [List.append_nil], fun _ h => absurd h (by simp)⟩, fun _ e => e, fun _ _ e _ => e⟩
theorem Le.mem (l : Le ρ H ρ' H') {a : Addr} {o : HO} (e : H a = some o) (n : a ∉ ρ.pl) : a ∉ ρ'.pl := by
  obtain ⟨t, rfl, f⟩ := l.pre
  intro h
  rcases List.mem_append.mp h with h | h
  · exact n h
  · rw [f a h] at e
    cases e
theorem Le.off (l : Le ρ H ρ' H') {a : Addr} {o : HO} (e : H a = some o) (n : ρ.off a) : ρ'.off a := by
  refine ⟨l.mem e n.1, ?_⟩
  obtain ⟨t, rfl, f⟩ := l.pre
  exact n.2
theorem Le.trans (l : Le ρ H ρ1 H1) (m : Le ρ1 H1 ρ2 H2) : Le ρ H ρ2 H2 := by
  refine ⟨?_, fun a e => l.liv a (m.liv a e), fun a o e n => m.frm a o (l.frm a o e n) (l.mem e n)⟩
  obtain ⟨t, rfl, f⟩ := l.pre
  obtain ⟨u, rfl, g⟩ := m.pre
  refine ⟨t ++ u, by rw [List.append_assoc], fun a h => ?_⟩
  rcases List.mem_append.mp h with h | h
  · exact f a h
  · exact l.liv a (g a h)
theorem Le.get (l : Le ρ H ρ' H') {i : Nat} {a : Addr} (h : ρ.pl[i]? = some a) : ρ'.pl[i]? = some a := by
  obtain ⟨t, rfl, _⟩ := l.pre
  have hi : i < ρ.pl.length := (List.getElem?_eq_some_iff.mp h).1
  show (ρ.pl ++ t)[i]? = some a
  rw [List.getElem?_append_left hi]
  exact h
/-- what stands apart from the store stays -/
structure Ex (ρ : Rr) (H : Hp) (ρ' : Rr) (H' : Hp) : Prop where
  get : ∀ (i : Nat) (a : Addr), ρ.pl[i]? = some a → ρ'.pl[i]? = some a
  keep : ∀ a o, H a = some o → ρ.off a → H' a = some o ∧ ρ'.off a
theorem Le.ex (l : Le ρ H ρ' H') : Ex ρ H ρ' H' := ⟨fun _ _ => l.get, fun a o e n => ⟨l.frm a o e n.1, l.off e n⟩⟩
theorem Ex.trans (l : Ex ρ H ρ1 H1) (m : Ex ρ1 H1 ρ2 H2) : Ex ρ H ρ2 H2 := ⟨fun i a h => m.get i a (l.get i a h), fun a o e n => let ⟨h1, h2⟩ := l.keep a o e n; m.keep a o h1 h2⟩
theorem Ex.refl : Ex ρ H ρ H := ⟨fun _ _ h => h, fun _ _ e n => ⟨e, n⟩⟩
theorem Ex.rt (l : Ex ρ H ρ' H') {a : Addr} {xs : List V} (h : Rt K ρ H a xs) : Rt K ρ' H' a xs := by
  rcases h with ⟨h | ⟨o, h⟩, n⟩ | h
  · exact .inl ⟨.inl (l.keep _ _ h n).1, (l.keep _ _ h n).2⟩
  · exact .inl ⟨.inr ⟨o, (l.keep _ _ h n).1⟩, (l.keep _ _ h n).2⟩
  · exact .inr h
theorem Ex.rl (l : Ex ρ H ρ' H') {a : Addr} {xs : List V} (h : Rl K ρ H a xs) : Rl K ρ' H' a xs := by
  rcases h with ⟨⟨o, h⟩, n⟩ | h
  · exact .inl ⟨⟨o, (l.keep _ _ h n).1⟩, (l.keep _ _ h n).2⟩
  · exact .inr h
mutual
theorem IsV.ex (l : Ex ρ H ρ' H') : ∀ {v : V} {d : D}, IsV K mg ρ H v d → IsV K mg ρ' H' v d
  | _, _, .non => .non
  | _, _, .bl => .bl
  | _, _, .int => .int
  | _, _, .str => .str
  | _, _, .tup h hs => .tup (l.rt h) (IsVs.ex l hs)
  | _, _, .fls h n hs => .fls (l.keep _ _ h n).1 (l.keep _ _ h n).2 (IsVs.ex l hs)
  | _, _, .wls h hs => .wls (l.rl h) (IsVs.ex l hs)
  | _, _, .ist hc h n hs => .ist hc (l.keep _ _ h n).1 (l.keep _ _ h n).2 (IsFs.ex l hs)
  | _, _, .obj h => .obj (l.get _ _ h)
  | _, _, .glo h => .glo h
  | _, _, .ty => .ty
theorem IsVs.ex (l : Ex ρ H ρ' H') : ∀ {vs : List V} {ds : List D}, IsVs K mg ρ H vs ds → IsVs K mg ρ' H' vs ds
  | _, _, .nil => .nil
  | _, _, .cons h t => .cons (IsV.ex l h) (IsVs.ex l t)
theorem IsFs.ex (l : Ex ρ H ρ' H') : ∀ {vs : List (Str × V)} {ds : List (Str × D)}, IsFs K mg ρ H vs ds → IsFs K mg ρ' H' vs ds
  | _, _, .nil => .nil
  | _, _, .cons h t => .cons (IsV.ex l h) (IsFs.ex l t)
end
theorem Evs.ex (l : Ex ρ H ρ' H') : ∀ {σ : L2.St} {τ : Env'}, Evs K mg ρ H σ τ → Evs K mg ρ' H' σ τ
  | _, _, .nil => .nil
  | _, _, .off t => .off (Evs.ex l t)
  | _, _, .on h t => .on (h.ex l) (Evs.ex l t)
theorem IsV.mono (l : Le ρ H ρ' H') {v : V} {d : D} (h : IsV K mg ρ H v d) : IsV K mg ρ' H' v d := h.ex l.ex
theorem IsVs.mono (l : Le ρ H ρ' H') {vs : List V} {ds : List D} (h : IsVs K mg ρ H vs ds) : IsVs K mg ρ' H' vs ds := h.ex l.ex
theorem IsFs.mono (l : Le ρ H ρ' H') {vs : List (Str × V)} {ds : List (Str × D)} (h : IsFs K mg ρ H vs ds) : IsFs K mg ρ' H' vs ds := h.ex l.ex
theorem Evs.mono (l : Le ρ H ρ' H') {σ : L2.St} {τ : Env'} (h : Evs K mg ρ H σ τ) : Evs K mg ρ' H' σ τ := h.ex l.ex
theorem Evs.get : ∀ {σ : L2.St} {τ : Env'} {i : Nat} {d : D}, Evs K mg ρ H σ τ → τ[i]? = some (some d) → ∃ v, σ[i]? = some (some v) ∧ IsV K mg ρ H v d
  | _, _, i, d, .nil, h => by simp at h
  | _, _, 0, d, .off t, h => by simp at h
  | _, _, i + 1, d, .off t, h => by
    obtain ⟨v, e, q⟩ := Evs.get (i := i) t (by simpa using h)
    exact ⟨v, by simpa using e, q⟩
  | _, _, 0, d, .on (v := v) q t, h => by
    simp at h
    subst h
    exact ⟨v, rfl, q⟩
  | _, _, i + 1, d, .on q t, h => by
    obtain ⟨v, e, q⟩ := Evs.get (i := i) t (by simpa using h)
    exact ⟨v, by simpa using e, q⟩
theorem Evs.set : ∀ {σ : L2.St} {τ : Env'} {v : V} {d : D} (i : Nat), Evs K mg ρ H σ τ → IsV K mg ρ H v d → Evs K mg ρ H (σ.set i (some v)) (τ.set i (some d))
  | _, _, _, _, _, .nil, _ => .nil
  | _, _, _, _, 0, .off t, h => .on h t
  | _, _, _, _, i + 1, .off t, h => .off (Evs.set i t h)
  | _, _, _, _, 0, .on _ t, h => .on h t
  | _, _, _, _, i + 1, .on q t, h => .on q (Evs.set i t h)
theorem IsVs.length : ∀ {vs : List V} {ds : List D}, IsVs K mg ρ H vs ds → vs.length = ds.length
  | _, _, .nil => rfl
  | _, _, .cons _ t => congrArg (· + 1) (IsVs.length t)
theorem IsVs.get : ∀ {vs : List V} {ds : List D} {i : Nat} {d : D}, IsVs K mg ρ H vs ds → ds[i]? = some d → ∃ v, vs[i]? = some v ∧ IsV K mg ρ H v d
  | _, _, i, d, .nil, h => by simp at h
  | _, _, 0, d, .cons (v := v) q t, h => by
    simp at h
    subst h
    exact ⟨v, rfl, q⟩
  | _, _, i + 1, d, .cons q t, h => by
    obtain ⟨v, e, q⟩ := IsVs.get (i := i) t (by simpa using h)
    exact ⟨v, by simpa using e, q⟩
theorem IsVs.append : ∀ {vs ws : List V} {ds es : List D}, IsVs K mg ρ H vs ds → IsVs K mg ρ H ws es → IsVs K mg ρ H (vs ++ ws) (ds ++ es)
  | _, _, _, _, .nil, s => s
  | _, _, _, _, .cons h t, s => .cons h (IsVs.append t s)
theorem IsVs.set : ∀ {vs : List V} {ds : List D} {v : V} {d : D} (i : Nat), IsVs K mg ρ H vs ds → IsV K mg ρ H v d → IsVs K mg ρ H (vs.set i v) (ds.set i d)
  | _, _, _, _, _, .nil, _ => .nil
  | _, _, _, _, 0, .cons _ t, h => .cons h t
  | _, _, _, _, i + 1, .cons q t, h => .cons q (IsVs.set i t h)
theorem IsVs.take : ∀ {vs : List V} {ds : List D} (n : Nat), IsVs K mg ρ H vs ds → IsVs K mg ρ H (vs.take n) (ds.take n)
  | _, _, 0, _ => .nil
  | _, _, _ + 1, .nil => .nil
  | _, _, n + 1, .cons h t => .cons h (IsVs.take n t)
theorem IsVs.drop : ∀ {vs : List V} {ds : List D} (n : Nat), IsVs K mg ρ H vs ds → IsVs K mg ρ H (vs.drop n) (ds.drop n)
  | _, _, 0, h => h
  | _, _, _ + 1, .nil => .nil
  | _, _, n + 1, .cons _ t => IsVs.drop n t
theorem Rep.has {s : List O} (r : Rep K mg ρ H s) {a : Addr} (h : a ∈ ρ.pl) : ∃ (i : Nat) (o : O), ρ.pl[i]? = some a ∧ s[i]? = some o ∧ OkO K mg ρ H a o := by
  obtain ⟨i, hi, e⟩ := List.getElem_of_mem h
  have hs : i < s.length := by rw [← r.len]; exact hi
  have e1 : ρ.pl[i]? = some a := by rw [List.getElem?_eq_getElem hi, e]
  exact ⟨i, s[i], e1, List.getElem?_eq_getElem hs, r.at_ i a s[i] e1 (List.getElem?_eq_getElem hs)⟩
theorem OkO.there {a : Addr} {o : O} (h : OkO K mg ρ H a o) : ∃ u, H a = some u ∧ Mut (some u) := by
  cases o with
  | lst ds =>
    obtain ⟨xs, e, _⟩ := h
    exact ⟨_, e, trivial⟩
  | ins C fs =>
    obtain ⟨ca, dx, gs, _, e, _⟩ := h
    exact ⟨_, e, trivial⟩
/-- a fresh address is no place of the store -/
theorem Rep.fresh {s : List O} (r : Rep K mg ρ H s) {a : Addr} (h : H a = none) : ρ.off a := by
  refine ⟨fun hm => ?_, fun hm => (r.hd a hm).1 h⟩
  obtain ⟨i, o, _, _, q⟩ := r.has hm
  obtain ⟨u, e, _⟩ := q.there
  rw [h] at e
  cases e
/-- a new thing that the store does not hold -/
theorem Le.new {p : Addr} {u : HO} (h : H p = none) : Le ρ H ρ (upd H p u) := by
  refine ⟨⟨[], by rw [List.append_nil], fun _ h => absurd h (by simp)⟩, fun a e => ?_, fun a o e _ => ?_⟩
  · by_cases hp : a = p
    · rw [hp]; exact h
    · rwa [upd_ne hp] at e
  · rw [upd_ne (ne_of_none e h)]; exact e
/-- a new thing that the store holds at its end -/
theorem Le.push {p : Addr} {u : HO} (h : H p = none) : Le ρ H (ρ.push p) (upd H p u) := by
  refine ⟨⟨[p], rfl, fun a ha => ?_⟩, (Le.new (ρ := ρ) h).liv, (Le.new (ρ := ρ) h).frm⟩
  rw [List.mem_singleton.mp ha]; exact h
/-- a place of the store is written -/
theorem Le.put {p : Addr} {u : HO} (h : p ∈ ρ.pl) (hp : H p ≠ none) : Le ρ H ρ (upd H p u) := by
  refine ⟨⟨[], by rw [List.append_nil], fun _ h => absurd h (by simp)⟩, fun a e => ?_, fun a o e n => ?_⟩
  · by_cases q : a = p
    · rw [q, upd_same] at e; cases e
    · rwa [upd_ne q] at e
  · rw [upd_ne fun q => n (by rw [q]; exact h)]; exact e
theorem OkO.mono (l : Le ρ H ρ' H') {a : Addr} (e : H' a = H a) : ∀ {o : O}, OkO K mg ρ H a o → OkO K mg ρ' H' a o
  | .lst ds, ⟨xs, h, hs⟩ => ⟨xs, e.trans h, hs.mono l⟩
  | .ins C fs, ⟨ca, dx, gs, hc, h, hs⟩ => ⟨ca, dx, gs, hc, e.trans h, hs.mono l⟩
theorem Rep.new {s : List O} (r : Rep K mg ρ H s) {p : Addr} {u : HO} (h : H p = none) : Rep K mg ρ (upd H p u) s := by
  refine ⟨r.len, r.nd, fun a ha => ⟨fun e => ?_, (r.hd a ha).2⟩, fun i a o h1 h2 => (r.at_ i a o h1 h2).mono (Le.new h) (upd_ne fun q => ?_)⟩
  · exact (r.hd a ha).1 ((Le.new (ρ := ρ) h).liv a e)
  · exact (r.fresh h).1 (q ▸ List.mem_of_getElem? h1)
theorem Rep.push {s : List O} (r : Rep K mg ρ H s) {p : Addr} {u : HO} {o : O} (h : H p = none) (ho : OkO K mg (ρ.push p) (upd H p u) p o) : Rep K mg (ρ.push p) (upd H p u) (s ++ [o]) := by
  refine ⟨by show (ρ.pl ++ [p]).length = _; rw [List.length_append, List.length_append, r.len]; rfl, ?_, fun a ha => ⟨fun e => (r.hd a ha).1 ((Le.new (ρ := ρ) h).liv a e), fun hm => ?_⟩, fun i a o' h1 h2 => ?_⟩
  · refine List.nodup_append.mpr ⟨r.nd, by simp, fun a ha b hb => ?_⟩
    rw [List.mem_singleton.mp hb]
    rintro rfl
    exact (r.fresh h).1 ha
  · rcases List.mem_append.mp hm with hm | hm
    · exact (r.hd a ha).2 hm
    · rw [List.mem_singleton.mp hm] at ha
      exact (r.fresh h).2 ha
  · have h1 : (ρ.pl ++ [p])[i]? = some a := h1
    by_cases hi : i < ρ.pl.length
    · rw [List.getElem?_append_left hi] at h1
      rw [List.getElem?_append_left (by rw [← r.len]; exact hi)] at h2
      refine (r.at_ i a o' h1 h2).mono (Le.push h) (upd_ne fun q => ?_)
      exact (r.fresh h).1 (q ▸ List.mem_of_getElem? h1)
    · have hl : i < (ρ.pl ++ [p]).length := (List.getElem?_eq_some_iff.mp h1).1
      have e : i = ρ.pl.length := by
        rw [List.length_append, List.length_singleton] at hl; omega
      subst e
      rw [List.getElem?_append_right (Nat.le_refl _), Nat.sub_self] at h1
      rw [r.len, List.getElem?_append_right (Nat.le_refl _), Nat.sub_self] at h2
      have e1 : p = a := Option.some.inj h1
      have e2 : o = o' := Option.some.inj h2
      subst e1 e2
      exact ho
theorem nodup_ixA : ∀ {l : List Addr}, l.Nodup → ∀ {i j : Nat} {a : Addr}, l[i]? = some a → l[j]? = some a → i = j
  | [], _, i, j, a, h, _ => by simp at h
  | b :: l, h, 0, 0, a, _, _ => rfl
  | b :: l, h, 0, j + 1, a, h1, h2 => by
    have e : b = a := by simpa using h1
    have m : a ∈ l := List.mem_of_getElem? (by simpa using h2)
    exact absurd m (e ▸ (List.nodup_cons.mp h).1)
  | b :: l, h, i + 1, 0, a, h1, h2 => by
    have e : b = a := by simpa using h2
    have m : a ∈ l := List.mem_of_getElem? (by simpa using h1)
    exact absurd m (e ▸ (List.nodup_cons.mp h).1)
  | b :: l, h, i + 1, j + 1, a, h1, h2 => congrArg (· + 1) (nodup_ixA (List.nodup_cons.mp h).2 (by simpa using h1) (by simpa using h2))
theorem nodup_get {l : List Addr} (h : l.Nodup) {i j : Nat} {a : Addr} (h1 : l[i]? = some a) (h2 : l[j]? = some a) : i = j := nodup_ixA h h1 h2
theorem Rep.put {s : List O} (r : Rep K mg ρ H s) {p : Addr} {i : Nat} {u : HO} {o : O} (h : ρ.pl[i]? = some p) (ho : OkO K mg ρ (upd H p u) p o) : Rep K mg ρ (upd H p u) (s.set i o) := by
  have hm := List.mem_of_getElem? h
  obtain ⟨_, _, _, _, q⟩ := r.has hm
  obtain ⟨u0, e0, _⟩ := q.there
  have l : Le ρ H ρ (upd H p u) := Le.put hm (by rw [e0]; simp)
  refine ⟨by rw [List.length_set]; exact r.len, r.nd, fun a ha => ⟨fun e => (r.hd a ha).1 (l.liv a e), (r.hd a ha).2⟩, fun j a o' h1 h2 => ?_⟩
  by_cases hj : j = i
  · subst hj
    rw [h] at h1
    have e : p = a := Option.some.inj h1
    subst e
    have hs : j < s.length := by
      rw [← r.len]; exact (List.getElem?_eq_some_iff.mp h).1
    rw [List.getElem?_set_self hs] at h2
    have e2 : o = o' := Option.some.inj h2
    subst e2
    exact ho
  · rw [List.getElem?_set_ne (Ne.symm hj)] at h2
    refine (r.at_ j a o' h1 h2).mono l (upd_ne fun q => ?_)
    subst q
    exact hj (nodup_get r.nd h1 h)
end

/-! ### readings -/
/-- what is wanted of a run's end -/
def Post {α : Type} (K : PySem.W.Frag) (mg : Str → Option Value) (W : WX) (ρ : Rr) (H : Hp) (σ : L2.St) (r : R α) (P : Rr → Hp → α → Sto → Prop) : Prop := match r with
  | .ok a s' => ∀ ρ' H', Le ρ H ρ' H' → Rep K mg ρ' H' s' → P ρ' H' a s'
  | .exc C fs s' => ∀ ρ' H' ca dd gs, Le ρ H ρ' H' → Rep K mg ρ' H' s' → mg C = some (.ref ca) → H' dd = some (.xd gs) → IsFs K mg ρ' H' gs fs → W (.ref ca) (some dd) σ H'
  | .bad => False
theorem Post.le {α : Type} {K : PySem.W.Frag} {mg : Str → Option Value} {W : WX} {ρ ρ1 : Rr} {H H1 : Hp} {σ : L2.St} {r : R α} {P : Rr → Hp → α → Sto → Prop} (l : Le ρ H ρ1 H1) (h : Post K mg W ρ H σ r P) : Post K mg W ρ1 H1 σ r P := by
  cases r with
  | ok a s => exact fun ρ' H' m rp => h ρ' H' (l.trans m) rp
  | exc C fs s => exact fun ρ' H' ca dd gs m rp => h ρ' H' ca dd gs (l.trans m) rp
  | bad => exact h
theorem Post.imp {α : Type} {K : PySem.W.Frag} {mg : Str → Option Value} {W : WX} {ρ : Rr} {H : Hp} {σ : L2.St} {r : R α} {P P' : Rr → Hp → α → Sto → Prop} (h : Post K mg W ρ H σ r P)
    (k : ∀ ρ' H' a s', Le ρ H ρ' H' → Rep K mg ρ' H' s' → P ρ' H' a s' → P' ρ' H' a s') : Post K mg W ρ H σ r P' := by
  cases r with
  | ok a s => exact fun ρ' H' m rp => k _ _ _ _ m rp (h ρ' H' m rp)
  | exc C fs s => exact h
  | bad => exact h
/-- a bind's first part -/
theorem Post.bind {α β : Type} {K : PySem.W.Frag} {mg : Str → Option Value} {W : WX} {ρ : Rr} {H : Hp} {σ : L2.St} {r : R α} {k : α → Sto → R β} {P : Rr → Hp → β → Sto → Prop} (h : Post K mg W ρ H σ (r.bind k) P) :
    Post K mg W ρ H σ r (fun ρ' H' a s' => Post K mg W ρ' H' σ (k a s') P) := by
  cases r with
  | ok a s => exact fun ρ' H' m rp => Post.le m h
  | exc C fs s => exact h
  | bad => exact h
section
variable (K : PySem.W.Frag) (mg : Str → Option Value) (W : WX)
def tM (m : Env' → Sto → R D) : TE := fun σ H Q => ∃ ρ τ s, Rep K mg ρ H s ∧ Evs K mg ρ H σ τ ∧ Post K mg W ρ H σ (m τ s) (fun ρ' H' d _ => ∀ v, IsV K mg ρ' H' v d → Q v H')
def tMB (m : Env' → Sto → R Bool) : TT := fun σ H Q => ∃ ρ τ s, Rep K mg ρ H s ∧ Evs K mg ρ H σ τ ∧ Post K mg W ρ H σ (m τ s) (fun _ H' b _ => Q b H')
def tMA (m : Env' → Sto → R (List D)) : TA := fun σ H Q => ∃ ρ τ s, Rep K mg ρ H s ∧ Evs K mg ρ H σ τ ∧ Post K mg W ρ H σ (m τ s) (fun ρ' H' ds _ => ∀ vs, IsVs K mg ρ' H' vs ds → Q vs H')
end
section
variable {K : PySem.W.Frag} {mg : Str → Option Value} {W : WX} {ρ : Rr} {H : Hp} {σ : L2.St} {τ : Env'} {s : List O}
/-- an expression is read, then what follows -/
theorem tM_go {m : Env' → Sto → R D} {P : Rr → Hp → D → Sto → Prop} {Q : VK} (r : Rep K mg ρ H s) (e : Evs K mg ρ H σ τ) (h : Post K mg W ρ H σ (m τ s) P)
    (k : ∀ ρ' H' d s' v, Le ρ H ρ' H' → Rep K mg ρ' H' s' → Evs K mg ρ' H' σ τ → IsV K mg ρ' H' v d → P ρ' H' d s' → Q v H') : tM K mg W m σ H Q :=
  ⟨ρ, τ, s, r, e, h.imp fun ρ' H' d s' l r' p v hv => k ρ' H' d s' v l r' (e.mono l) hv p⟩
theorem tMB_go {m : Env' → Sto → R Bool} {P : Rr → Hp → Bool → Sto → Prop} {Q : Bool → Hp → Prop} (r : Rep K mg ρ H s) (e : Evs K mg ρ H σ τ) (h : Post K mg W ρ H σ (m τ s) P)
    (k : ∀ ρ' H' b s', Le ρ H ρ' H' → Rep K mg ρ' H' s' → Evs K mg ρ' H' σ τ → P ρ' H' b s' → Q b H') : tMB K mg W m σ H Q :=
  ⟨ρ, τ, s, r, e, h.imp fun ρ' H' d s' l r' p => k ρ' H' d s' l r' (e.mono l) p⟩
theorem tMA_go {m : Env' → Sto → R (List D)} {P : Rr → Hp → List D → Sto → Prop} {Q : List V → Hp → Prop} (r : Rep K mg ρ H s) (e : Evs K mg ρ H σ τ) (h : Post K mg W ρ H σ (m τ s) P)
    (k : ∀ ρ' H' ds s' vs, Le ρ H ρ' H' → Rep K mg ρ' H' s' → Evs K mg ρ' H' σ τ → IsVs K mg ρ' H' vs ds → P ρ' H' ds s' → Q vs H') : tMA K mg W m σ H Q :=
  ⟨ρ, τ, s, r, e, h.imp fun ρ' H' d s' l r' p v hv => k ρ' H' d s' v l r' (e.mono l) hv p⟩
end
/-- a reading that asks more -/
theorem PE.imp {X : Cx} {e : Expr} {t t' : TE} (h : PE X e t) (k : ∀ σ H Q, t' σ H Q → t σ H Q) : PE X e t' := ⟨fun pins s σ H Q I q => h.run pins s σ H Q I (k σ H Q q)⟩
theorem PT.imp {X : Cx} {e : Expr} {t t' : TT} (h : PT X e t) (k : ∀ σ H Q, t' σ H Q → t σ H Q) : PT X e t' := ⟨fun pins s σ H Q I q => h.run pins s σ H Q I (k σ H Q q)⟩
theorem PW.imp {X : Cx} {e : Expr} {t t' : TT} (h : PW X e t) (k : ∀ σ H Q, t' σ H Q → t σ H Q) : PW X e t' := ⟨fun w pins s σ H Q I q => h.run w pins s σ H Q I (k σ H Q q)⟩
theorem PA.imp {X : Cx} {es : List Expr} {t t' : TA} (h : PA X es t) (k : ∀ σ H Q, t' σ H Q → t σ H Q) : PA X es t' := ⟨fun pos pins s σ H Q I q => h.run pos pins s σ H Q I (k σ H Q q)⟩
theorem PS.imp {X : Cx} {st : Stmt} {t t' : TS} (h : PS X st t) (k : ∀ D σ H, t' D σ H → t D σ H) : PS X st t' := ⟨fun pins s σ H D I q => h.run pins s σ H D I (k D σ H q)⟩
theorem PSs.imp {X : Cx} {st : List Stmt} {t t' : TS} (h : PSs X st t) (k : ∀ D σ H, t' D σ H → t D σ H) : PSs X st t' := ⟨fun pins s σ H D I q => h.run pins s σ H D I (k D σ H q)⟩
end FL

namespace FL
open PySem PySem.Spec PyProof.Rows L2
def tupAt (K : PySem.W.Frag) (u : Value) : Option (List Value) := match u with
  | .ref a => (match K.lookup a with
    | some ⟨.type c, _, .seq its _, _⟩ => if c = "tuple" ∧ its.size ≤ sizeLine then some its.toList else none
    | _ => none)
  | _ => none
def strAt (u : Value) (x : Str) : Bool := match u with
  | .str y _ => decide (x = y)
  | _ => false
def intAt (u : Value) (x : Int) : Bool := match u with
  | .int y _ => decide (x = y)
  | _ => false
def nonAt (u : Value) : Bool := match u with
  | .none => true
  | _ => false
mutual
def isD (K : PySem.W.Frag) (u : Value) : D → Bool
  | .tup ds => isDs K (tupAt K u) ds
  | .str x => strAt u x
  | .int i => intAt u i
  | .non => nonAt u
  | .bl _ => false
  | .fls _ => false
  | .wls _ => false
  | .ist _ _ => false
  | .obj _ => false
  | .glo _ => false
  | .ty _ => false
def isDs (K : PySem.W.Frag) (us : Option (List Value)) : List D → Bool
  | [] => (match us with
    | some [] => true
    | _ => false)
  | d :: ds => (match us with
    | some (u :: us) => isD K u d && isDs K (some us) ds
    | _ => false)
end
end FL
set_option Elab.async false
set_option linter.all false
set_option maxRecDepth 100000
set_option maxHeartbeats 4000000
namespace K97
open PySem PySem.Spec PyProof.Rows L2 FL
/-- the classes' fields -/
def okL : List (Str × Str) := [(("Shortage" : Str), ("end" : Str)), (("Shortage" : Str), ("gang" : Str)), (("Shortage" : Str), ("rows" : Str)), (("Shortage" : Str), ("start" : Str)), (("Share" : Str), ("bottom" : Str)), (("Share" : Str), ("top" : Str)), (("Settlement" : Str), ("after" : Str)), (("Settlement" : Str), ("deeds" : Str)), (("Settlement" : Str), ("hold" : Str)), (("Settlement" : Str), ("rows" : Str)), (("Packing" : Str), ("places" : Str)), (("CaseTree" : Str), ("node" : Str)), (("Survival" : Str), ("rows" : Str)), (("Frail" : Str), ("machines" : Str)), (("Frail" : Str), ("node" : Str)), (("Levels" : Str), ("amount" : Str)), (("Levels" : Str), ("resource" : Str)), (("Levels" : Str), ("rows" : Str)), (("Levels" : Str), ("shares" : Str)), (("Levels" : Str), ("wanted" : Str)), (("FloorPlan" : Str), ("rows" : Str)), (("Crowded" : Str), ("lot" : Str)), (("Crowded" : Str), ("node" : Str)), (("MovePlan" : Str), ("machine" : Str)), (("MovePlan" : Str), ("moves" : Str)), (("Stuck" : Str), ("machine" : Str)), (("Stuck" : Str), ("places" : Str)), (("PairTable" : Str), ("relation" : Str)), (("PairTable" : Str), ("rows" : Str)), (("PairBook" : Str), ("book" : Str)), (("PairBook" : Str), ("relation" : Str)), (("Quote" : Str), ("hour" : Str)), (("Quote" : Str), ("places" : Str)), (("Quote" : Str), ("refusals" : Str)), (("Quote" : Str), ("template" : Str)), (("NoQuote" : Str), ("refusals" : Str)), (("NoQuote" : Str), ("template" : Str)), (("Blockers" : Str), ("hour" : Str)), (("Blockers" : Str), ("rows" : Str)), (("Blockers" : Str), ("template" : Str)), (("Verdict" : Str), ("words" : Str)), (("Kept" : Str), ("rows" : Str)), (("Kept" : Str), ("words" : Str)), (("Broken" : Str), ("book" : Str)), (("Broken" : Str), ("words" : Str)), (("WaitBound" : Str), ("book" : Str)), (("WaitBound" : Str), ("hours" : Str)), (("WaitBound" : Str), ("name" : Str)), (("WaitBound" : Str), ("rows" : Str)), (("WaitBound" : Str), ("shapes" : Str)), (("WaitRing" : Str), ("book" : Str)), (("WaitRing" : Str), ("name" : Str)), (("WaitRing" : Str), ("ring" : Str))]
/-- the classes above a class -/
def mroL : List (Str × List Str) := [(("Shortage" : Str), [("Shortage" : Str), ("Certificate" : Str), ("No" : Str)]), (("Settlement" : Str), [("Settlement" : Str), ("Certificate" : Str), ("Yes" : Str)]), (("Packing" : Str), [("Packing" : Str), ("Certificate" : Str), ("Yes" : Str)]), (("CaseTree" : Str), [("CaseTree" : Str), ("Certificate" : Str), ("No" : Str)]), (("Survival" : Str), [("Survival" : Str), ("Certificate" : Str), ("Yes" : Str)]), (("Frail" : Str), [("Frail" : Str), ("Certificate" : Str), ("No" : Str)]), (("Levels" : Str), [("Levels" : Str), ("Certificate" : Str), ("Yes" : Str)]), (("FloorPlan" : Str), [("FloorPlan" : Str), ("Certificate" : Str), ("Yes" : Str)]), (("Crowded" : Str), [("Crowded" : Str), ("Certificate" : Str), ("No" : Str)]), (("MovePlan" : Str), [("MovePlan" : Str), ("Certificate" : Str), ("Yes" : Str)]), (("Stuck" : Str), [("Stuck" : Str), ("Certificate" : Str), ("No" : Str)]), (("PairTable" : Str), [("PairTable" : Str), ("Certificate" : Str), ("Yes" : Str)]), (("PairBook" : Str), [("PairBook" : Str), ("Certificate" : Str), ("No" : Str)]), (("Quote" : Str), [("Quote" : Str), ("Certificate" : Str), ("Yes" : Str)]), (("NoQuote" : Str), [("NoQuote" : Str), ("Certificate" : Str), ("No" : Str)]), (("Blockers" : Str), [("Blockers" : Str), ("Certificate" : Str), ("Yes" : Str)]), (("Kept" : Str), [("Kept" : Str), ("Verdict" : Str), ("Certificate" : Str), ("Yes" : Str)]), (("Broken" : Str), [("Broken" : Str), ("Verdict" : Str), ("Certificate" : Str), ("No" : Str)]), (("WaitBound" : Str), [("WaitBound" : Str), ("Certificate" : Str), ("Yes" : Str)]), (("WaitRing" : Str), [("WaitRing" : Str), ("Certificate" : Str), ("No" : Str)])]
def testL : List Str := [("Blockers" : Str), ("Broken" : Str), ("CaseTree" : Str), ("Certificate" : Str), ("Crowded" : Str), ("FloorPlan" : Str), ("Frail" : Str), ("Kept" : Str), ("Levels" : Str), ("MovePlan" : Str), ("No" : Str), ("NoQuote" : Str), ("Packing" : Str), ("PairBook" : Str), ("PairTable" : Str), ("Quote" : Str), ("Settlement" : Str), ("Shortage" : Str), ("Stuck" : Str), ("Survival" : Str), ("WaitBound" : Str), ("WaitRing" : Str), ("Yes" : Str)]
def formsL : List (Str × D) := [(("shortage" : Str), .tup [.str ("row" : Str), .tup [.str ("row" : Str), .tup [.str ("int" : Str)], .tup [.str ("int" : Str)]], .tup [.str ("int" : Str)], .tup [.str ("int" : Str)], .tup [.str ("all" : Str), .tup [.str ("row" : Str), .tup [.str ("int" : Str)], .tup [.str ("or" : Str), .tup [.str ("int" : Str)], .tup [.str ("word" : Str)]]]]]),
  (("packing" : Str), .tup [.str ("row" : Str), .tup [.str ("all" : Str), .tup [.str ("all" : Str), .tup [.str ("int" : Str)]]]]),
  (("tree" : Str), .tup [.str ("row" : Str), .tup [.str ("all" : Str), .tup [.str ("any" : Str)]]]),
  (("levels" : Str), .tup [.str ("row" : Str), .tup [.str ("int" : Str)], .tup [.str ("row" : Str), .tup [.str ("int" : Str)], .tup [.str ("int" : Str)]], .tup [.str ("all" : Str), .tup [.str ("int" : Str)]], .tup [.str ("all" : Str), .tup [.str ("row" : Str), .tup [.str ("int" : Str)], .tup [.str ("int" : Str)]]], .tup [.str ("all" : Str), .tup [.str ("row" : Str), .tup [.str ("int" : Str)], .tup [.str ("word" : Str)], .tup [.str ("or" : Str), .tup [.str ("row" : Str), .tup [.str ("int" : Str)], .tup [.str ("int" : Str)]], .tup [.str ("none" : Str)]]]]]),
  (("floors" : Str), .tup [.str ("row" : Str), .tup [.str ("all" : Str), .tup [.str ("row" : Str), .tup [.str ("all" : Str), .tup [.str ("int" : Str)]], .tup [.str ("all" : Str), .tup [.str ("all" : Str), .tup [.str ("int" : Str)]]]]]]),
  (("crowded" : Str), .tup [.str ("row" : Str), .tup [.str ("all" : Str), .tup [.str ("int" : Str)]], .tup [.str ("all" : Str), .tup [.str ("any" : Str)]]]),
  (("settled" : Str), .tup [.str ("row" : Str), .tup [.str ("all" : Str), .tup [.str ("all" : Str), .tup [.str ("any" : Str)]]], .tup [.str ("all" : Str), .tup [.str ("all" : Str), .tup [.str ("any" : Str)]]], .tup [.str ("or" : Str), .tup [.str ("row" : Str), .tup [.str ("word" : Str)], .tup [.str ("int" : Str)], .tup [.str ("all" : Str), .tup [.str ("int" : Str)]]], .tup [.str ("none" : Str)]]]),
  (("quote" : Str), .tup [.str ("row" : Str), .tup [.str ("int" : Str)], .tup [.str ("int" : Str)], .tup [.str ("all" : Str), .tup [.str ("all" : Str), .tup [.str ("int" : Str)]]], .tup [.str ("all" : Str), .tup [.str ("row" : Str), .tup [.str ("int" : Str)], .tup [.str ("int" : Str)], .tup [.str ("all" : Str), .tup [.str ("row" : Str), .tup [.str ("int" : Str)], .tup [.str ("or" : Str), .tup [.str ("int" : Str)], .tup [.str ("word" : Str)]]]]]]]),
  (("no-quote" : Str), .tup [.str ("row" : Str), .tup [.str ("int" : Str)], .tup [.str ("all" : Str), .tup [.str ("row" : Str), .tup [.str ("int" : Str)], .tup [.str ("int" : Str)], .tup [.str ("all" : Str), .tup [.str ("row" : Str), .tup [.str ("int" : Str)], .tup [.str ("or" : Str), .tup [.str ("int" : Str)], .tup [.str ("word" : Str)]]]]]]]),
  (("blockers" : Str), .tup [.str ("row" : Str), .tup [.str ("int" : Str)], .tup [.str ("int" : Str)], .tup [.str ("all" : Str), .tup [.str ("row" : Str), .tup [.str ("word" : Str)], .tup [.str ("int" : Str)], .tup [.str ("all" : Str), .tup [.str ("row" : Str), .tup [.str ("int" : Str)], .tup [.str ("or" : Str), .tup [.str ("int" : Str)], .tup [.str ("word" : Str)]]]]]]]),
  (("survival" : Str), .tup [.str ("row" : Str), .tup [.str ("all" : Str), .tup [.str ("row" : Str), .tup [.str ("all" : Str), .tup [.str ("int" : Str)]], .tup [.str ("all" : Str), .tup [.str ("all" : Str), .tup [.str ("int" : Str)]]]]]]),
  (("frail" : Str), .tup [.str ("row" : Str), .tup [.str ("all" : Str), .tup [.str ("int" : Str)]], .tup [.str ("all" : Str), .tup [.str ("any" : Str)]]]),
  (("moves" : Str), .tup [.str ("row" : Str), .tup [.str ("int" : Str)], .tup [.str ("all" : Str), .tup [.str ("row" : Str), .tup [.str ("word" : Str)], .tup [.str ("all" : Str), .tup [.str ("int" : Str)]]]]]),
  (("stuck" : Str), .tup [.str ("row" : Str), .tup [.str ("int" : Str)], .tup [.str ("all" : Str), .tup [.str ("all" : Str), .tup [.str ("all" : Str), .tup [.str ("int" : Str)]]]]]),
  (("kept" : Str), .tup [.str ("row" : Str), .tup [.str ("all" : Str), .tup [.str ("or" : Str), .tup [.str ("int" : Str)], .tup [.str ("word" : Str)]]], .tup [.str ("all" : Str), .tup [.str ("row" : Str), .tup [.str ("all" : Str), .tup [.str ("any" : Str)]], .tup [.str ("int" : Str)], .tup [.str ("int" : Str)]]]]),
  (("broken" : Str), .tup [.str ("row" : Str), .tup [.str ("all" : Str), .tup [.str ("or" : Str), .tup [.str ("int" : Str)], .tup [.str ("word" : Str)]]], .tup [.str ("all" : Str), .tup [.str ("all" : Str), .tup [.str ("or" : Str), .tup [.str ("int" : Str)], .tup [.str ("word" : Str)]]]]]),
  (("wait" : Str), .tup [.str ("row" : Str), .tup [.str ("int" : Str)], .tup [.str ("or" : Str), .tup [.str ("word" : Str)], .tup [.str ("none" : Str)]], .tup [.str ("all" : Str), .tup [.str ("all" : Str), .tup [.str ("or" : Str), .tup [.str ("int" : Str)], .tup [.str ("word" : Str)]]]], .tup [.str ("all" : Str), .tup [.str ("all" : Str), .tup [.str ("any" : Str)]]], .tup [.str ("all" : Str), .tup [.str ("row" : Str), .tup [.str ("all" : Str), .tup [.str ("any" : Str)]], .tup [.str ("int" : Str)], .tup [.str ("int" : Str)]]]]),
  (("ring" : Str), .tup [.str ("row" : Str), .tup [.str ("word" : Str)], .tup [.str ("all" : Str), .tup [.str ("all" : Str), .tup [.str ("or" : Str), .tup [.str ("int" : Str)], .tup [.str ("word" : Str)]]]], .tup [.str ("all" : Str), .tup [.str ("all" : Str), .tup [.str ("or" : Str), .tup [.str ("int" : Str)], .tup [.str ("word" : Str)]]]]]),
  (("pairs" : Str), .tup [.str ("row" : Str), .tup [.str ("word" : Str)], .tup [.str ("all" : Str), .tup [.str ("row" : Str), .tup [.str ("all" : Str), .tup [.str ("any" : Str)]], .tup [.str ("all" : Str), .tup [.str ("any" : Str)]], .tup [.str ("all" : Str), .tup [.str ("int" : Str)]], .tup [.str ("all" : Str), .tup [.str ("int" : Str)]], .tup [.str ("all" : Str), .tup [.str ("int" : Str)]]]]]),
  (("parted" : Str), .tup [.str ("row" : Str), .tup [.str ("word" : Str)], .tup [.str ("all" : Str), .tup [.str ("all" : Str), .tup [.str ("or" : Str), .tup [.str ("int" : Str)], .tup [.str ("word" : Str)]]]]])]
def formsM : List Str := [("shortages" : Str), ("packings" : Str), ("trees" : Str), ("levelss" : Str), ("floorss" : Str), ("crowdeds" : Str), ("settleds" : Str), ("quotes" : Str), ("no-quotes" : Str), ("blockerss" : Str), ("survivals" : Str), ("frails" : Str), ("movess" : Str), ("stucks" : Str), ("kepts" : Str), ("brokens" : Str), ("waits" : Str), ("rings" : Str), ("pairss" : Str), ("parteds" : Str)]
def top (i : Nat) : Stmt := PySem.Challenge.pw_gangbooks_k97_certificates_round.main.body.getD i (.Pass ⟨0, 0, 0, 0⟩)
def meth (i j : Nat) : Stmt := (C8.clsBody (top i)).getD j (.Pass ⟨0, 0, 0, 0⟩)
def d_Blockers_init : He.DefD := ⟨(("Blockers" : Str), some ("__init__" : Str)), ("__init__" : Str), ("Blockers.__init__" : Str), defArgs (meth 54 0), defBody (meth 54 0), defScope (meth 54 0), [], []⟩
def d_CaseTree_init : He.DefD := ⟨(("CaseTree" : Str), some ("__init__" : Str)), ("__init__" : Str), ("CaseTree.__init__" : Str), defArgs (meth 35 0), defBody (meth 35 0), defScope (meth 35 0), [], []⟩
def d_Crowded_init : He.DefD := ⟨(("Crowded" : Str), some ("__init__" : Str)), ("__init__" : Str), ("Crowded.__init__" : Str), defArgs (meth 44 0), defBody (meth 44 0), defScope (meth 44 0), [], []⟩
def d_FloorPlan_init : He.DefD := ⟨(("FloorPlan" : Str), some ("__init__" : Str)), ("__init__" : Str), ("FloorPlan.__init__" : Str), defArgs (meth 43 0), defBody (meth 43 0), defScope (meth 43 0), [], []⟩
def d_NoQuote_init : He.DefD := ⟨(("NoQuote" : Str), some ("__init__" : Str)), ("__init__" : Str), ("NoQuote.__init__" : Str), defArgs (meth 53 0), defBody (meth 53 0), defScope (meth 53 0), [], []⟩
def d_Packing_init : He.DefD := ⟨(("Packing" : Str), some ("__init__" : Str)), ("__init__" : Str), ("Packing.__init__" : Str), defArgs (meth 34 0), defBody (meth 34 0), defScope (meth 34 0), [], []⟩
def d_Quote_init : He.DefD := ⟨(("Quote" : Str), some ("__init__" : Str)), ("__init__" : Str), ("Quote.__init__" : Str), defArgs (meth 52 0), defBody (meth 52 0), defScope (meth 52 0), [], []⟩
def d_Settlement_init : He.DefD := ⟨(("Settlement" : Str), some ("__init__" : Str)), ("__init__" : Str), ("Settlement.__init__" : Str), defArgs (meth 32 0), defBody (meth 32 0), defScope (meth 32 0), [], []⟩
def d_Shortage_init : He.DefD := ⟨(("Shortage" : Str), some ("__init__" : Str)), ("__init__" : Str), ("Shortage.__init__" : Str), defArgs (meth 25 0), defBody (meth 25 0), defScope (meth 25 0), [], []⟩
def d_Levels_init : He.DefD := ⟨(("Levels" : Str), some ("__init__" : Str)), ("__init__" : Str), ("Levels.__init__" : Str), defArgs (meth 40 0), defBody (meth 40 0), defScope (meth 40 0), [], []⟩
def d_gcd : He.DefD := ⟨(("gcd" : Str), none), ("gcd" : Str), ("gcd" : Str), defArgs (top 28), defBody (top 28), defScope (top 28), [], []⟩
def d_Share_init : He.DefD := ⟨(("Share" : Str), some ("__init__" : Str)), ("__init__" : Str), ("Share.__init__" : Str), defArgs (meth 27 0), defBody (meth 27 0), defScope (meth 27 0), [.int 1], []⟩
def d_law_levels : He.DefD := ⟨(("_law_levels" : Str), none), ("_law_levels" : Str), ("_law_levels" : Str), defArgs (top 102), defBody (top 102), defScope (top 102), [], []⟩
def d_law_first : He.DefD := ⟨(("_law_first" : Str), none), ("_law_first" : Str), ("_law_first" : Str), defArgs (top 103), defBody (top 103), defScope (top 103), [], []⟩
def d_law_forms : He.DefD := ⟨(("_law_forms" : Str), none), ("_law_forms" : Str), ("_law_forms" : Str), defArgs (top 93), defBody (top 93), defScope (top 93), [], []⟩
def d_law_next : He.DefD := ⟨(("_law_next" : Str), none), ("_law_next" : Str), ("_law_next" : Str), defArgs (top 94), defBody (top 94), defScope (top 94), [], []⟩
def d_law_number : He.DefD := ⟨(("_law_number" : Str), none), ("_law_number" : Str), ("_law_number" : Str), defArgs (top 95), defBody (top 95), defScope (top 95), [], []⟩
def d_law_word : He.DefD := ⟨(("_law_word" : Str), none), ("_law_word" : Str), ("_law_word" : Str), defArgs (top 96), defBody (top 96), defScope (top 96), [], []⟩
def d_law_note : He.DefD := ⟨(("_law_note" : Str), none), ("_law_note" : Str), ("_law_note" : Str), defArgs (top 98), defBody (top 98), defScope (top 98), [], []⟩
def d_law_pair : He.DefD := ⟨(("_law_pair" : Str), none), ("_law_pair" : Str), ("_law_pair" : Str), defArgs (top 97), defBody (top 97), defScope (top 97), [], []⟩
def d_law_made : He.DefD := ⟨(("_law_made" : Str), none), ("_law_made" : Str), ("_law_made" : Str), defArgs (top 99), defBody (top 99), defScope (top 99), [], []⟩
def d_law_pick : He.DefD := ⟨(("_law_pick" : Str), none), ("_law_pick" : Str), ("_law_pick" : Str), defArgs (top 92), defBody (top 92), defScope (top 92), [.int 1], []⟩
def d_law_pool : He.DefD := ⟨(("_law_pool" : Str), none), ("_law_pool" : Str), ("_law_pool" : Str), defArgs (top 91), defBody (top 91), defScope (top 91), [], []⟩
def d_Verdict_init : He.DefD := ⟨(("Verdict" : Str), some ("__init__" : Str)), ("__init__" : Str), ("Verdict.__init__" : Str), defArgs (meth 56 0), defBody (meth 56 0), defScope (meth 56 0), [], []⟩
def d_PairBook_init : He.DefD := ⟨(("PairBook" : Str), some ("__init__" : Str)), ("__init__" : Str), ("PairBook.__init__" : Str), defArgs (meth 50 0), defBody (meth 50 0), defScope (meth 50 0), [], []⟩
def d_PairTable_init : He.DefD := ⟨(("PairTable" : Str), some ("__init__" : Str)), ("__init__" : Str), ("PairTable.__init__" : Str), defArgs (meth 49 0), defBody (meth 49 0), defScope (meth 49 0), [], []⟩
def d_WaitBound_init : He.DefD := ⟨(("WaitBound" : Str), some ("__init__" : Str)), ("__init__" : Str), ("WaitBound.__init__" : Str), defArgs (meth 60 0), defBody (meth 60 0), defScope (meth 60 0), [], []⟩
def d_WaitRing_init : He.DefD := ⟨(("WaitRing" : Str), some ("__init__" : Str)), ("__init__" : Str), ("WaitRing.__init__" : Str), defArgs (meth 61 0), defBody (meth 61 0), defScope (meth 61 0), [], []⟩
def d_certificate_of_books : He.DefD := ⟨(("certificate_of_books" : Str), none), ("certificate_of_books" : Str), ("certificate_of_books" : Str), defArgs (top 87), defBody (top 87), defScope (top 87), [], []⟩
def d_Frail_init : He.DefD := ⟨(("Frail" : Str), some ("__init__" : Str)), ("__init__" : Str), ("Frail.__init__" : Str), defArgs (meth 38 0), defBody (meth 38 0), defScope (meth 38 0), [], []⟩
def d_MovePlan_init : He.DefD := ⟨(("MovePlan" : Str), some ("__init__" : Str)), ("__init__" : Str), ("MovePlan.__init__" : Str), defArgs (meth 46 0), defBody (meth 46 0), defScope (meth 46 0), [], []⟩
def d_Stuck_init : He.DefD := ⟨(("Stuck" : Str), some ("__init__" : Str)), ("__init__" : Str), ("Stuck.__init__" : Str), defArgs (meth 47 0), defBody (meth 47 0), defScope (meth 47 0), [], []⟩
def d_Survival_init : He.DefD := ⟨(("Survival" : Str), some ("__init__" : Str)), ("__init__" : Str), ("Survival.__init__" : Str), defArgs (meth 37 0), defBody (meth 37 0), defScope (meth 37 0), [], []⟩
def d_read_share : He.DefD := ⟨(("read_share" : Str), none), ("read_share" : Str), ("read_share" : Str), defArgs (top 89), defBody (top 89), defScope (top 89), [], []⟩
def d_read_levels : He.DefD := ⟨(("read_levels" : Str), none), ("read_levels" : Str), ("read_levels" : Str), defArgs (top 88), defBody (top 88), defScope (top 88), [], []⟩
def d_certificate_of_states : He.DefD := ⟨(("certificate_of_states" : Str), none), ("certificate_of_states" : Str), ("certificate_of_states" : Str), defArgs (top 86), defBody (top 86), defScope (top 86), [], []⟩
def d_has_form : He.DefD := ⟨(("has_form" : Str), none), ("has_form" : Str), ("has_form" : Str), defArgs (top 23), defBody (top 23), defScope (top 23), [], []⟩
def d_close_row : He.DefD := ⟨(("close_row" : Str), none), ("close_row" : Str), ("close_row" : Str), defArgs (top 20), defBody (top 20), defScope (top 20), [], []⟩
def d_goes_on : He.DefD := ⟨(("goes_on" : Str), none), ("goes_on" : Str), ("goes_on" : Str), defArgs (top 21), defBody (top 21), defScope (top 21), [], []⟩
def d_token_note : He.DefD := ⟨(("token_note" : Str), none), ("token_note" : Str), ("token_note" : Str), defArgs (top 22), defBody (top 22), defScope (top 22), [], []⟩
def d_read_note : He.DefD := ⟨(("read_note" : Str), none), ("read_note" : Str), ("read_note" : Str), defArgs (top 19), defBody (top 19), defScope (top 19), [], []⟩
def d_read_certificate : He.DefD := ⟨(("read_certificate" : Str), none), ("read_certificate" : Str), ("read_certificate" : Str), defArgs (top 85), defBody (top 85), defScope (top 85), [], []⟩
def d_law_read : He.DefD := ⟨(("_law_read" : Str), none), ("_law_read" : Str), ("_law_read" : Str), defArgs (top 107), defBody (top 107), defScope (top 107), [], []⟩
def d_law_bad : He.DefD := ⟨(("_law_bad" : Str), none), ("_law_bad" : Str), ("_law_bad" : Str), defArgs (top 108), defBody (top 108), defScope (top 108), [], []⟩
def d_law_spoilt_pair : He.DefD := ⟨(("_law_spoilt_pair" : Str), none), ("_law_spoilt_pair" : Str), ("_law_spoilt_pair" : Str), defArgs (top 109), defBody (top 109), defScope (top 109), [], []⟩
def d_law_spoilt : He.DefD := ⟨(("_law_spoilt" : Str), none), ("_law_spoilt" : Str), ("_law_spoilt" : Str), defArgs (top 110), defBody (top 110), defScope (top 110), [], []⟩
def d_law_text : He.DefD := ⟨(("_law_text" : Str), none), ("_law_text" : Str), ("_law_text" : Str), defArgs (top 100), defBody (top 100), defScope (top 100), [], []⟩
def d_law_refused : He.DefD := ⟨(("_law_refused" : Str), none), ("_law_refused" : Str), ("_law_refused" : Str), defArgs (top 111), defBody (top 111), defScope (top 111), [], []⟩
def d_Blockers_note : He.DefD := ⟨(("Blockers" : Str), some ("note" : Str)), ("note" : Str), ("Blockers.note" : Str), defArgs (meth 54 1), defBody (meth 54 1), defScope (meth 54 1), [], []⟩
def d_Broken_note : He.DefD := ⟨(("Broken" : Str), some ("note" : Str)), ("note" : Str), ("Broken.note" : Str), defArgs (meth 58 1), defBody (meth 58 1), defScope (meth 58 1), [], []⟩
def d_CaseTree_note : He.DefD := ⟨(("CaseTree" : Str), some ("note" : Str)), ("note" : Str), ("CaseTree.note" : Str), defArgs (meth 35 1), defBody (meth 35 1), defScope (meth 35 1), [], []⟩
def d_Crowded_note : He.DefD := ⟨(("Crowded" : Str), some ("note" : Str)), ("note" : Str), ("Crowded.note" : Str), defArgs (meth 44 1), defBody (meth 44 1), defScope (meth 44 1), [], []⟩
def d_FloorPlan_note : He.DefD := ⟨(("FloorPlan" : Str), some ("note" : Str)), ("note" : Str), ("FloorPlan.note" : Str), defArgs (meth 43 1), defBody (meth 43 1), defScope (meth 43 1), [], []⟩
def d_Frail_note : He.DefD := ⟨(("Frail" : Str), some ("note" : Str)), ("note" : Str), ("Frail.note" : Str), defArgs (meth 38 1), defBody (meth 38 1), defScope (meth 38 1), [], []⟩
def d_Kept_note : He.DefD := ⟨(("Kept" : Str), some ("note" : Str)), ("note" : Str), ("Kept.note" : Str), defArgs (meth 57 1), defBody (meth 57 1), defScope (meth 57 1), [], []⟩
def d_share_note : He.DefD := ⟨(("share_note" : Str), none), ("share_note" : Str), ("share_note" : Str), defArgs (top 41), defBody (top 41), defScope (top 41), [], []⟩
def d_Levels_note : He.DefD := ⟨(("Levels" : Str), some ("note" : Str)), ("note" : Str), ("Levels.note" : Str), defArgs (meth 40 3), defBody (meth 40 3), defScope (meth 40 3), [], []⟩
def d_MovePlan_note : He.DefD := ⟨(("MovePlan" : Str), some ("note" : Str)), ("note" : Str), ("MovePlan.note" : Str), defArgs (meth 46 1), defBody (meth 46 1), defScope (meth 46 1), [], []⟩
def d_No_holds : He.DefD := ⟨(("No" : Str), some ("holds" : Str)), ("holds" : Str), ("No.holds" : Str), defArgs (meth 17 0), defBody (meth 17 0), defScope (meth 17 0), [], []⟩
def d_NoQuote_note : He.DefD := ⟨(("NoQuote" : Str), some ("note" : Str)), ("note" : Str), ("NoQuote.note" : Str), defArgs (meth 53 1), defBody (meth 53 1), defScope (meth 53 1), [], []⟩
def d_Packing_note : He.DefD := ⟨(("Packing" : Str), some ("note" : Str)), ("note" : Str), ("Packing.note" : Str), defArgs (meth 34 1), defBody (meth 34 1), defScope (meth 34 1), [], []⟩
def d_PairBook_note : He.DefD := ⟨(("PairBook" : Str), some ("note" : Str)), ("note" : Str), ("PairBook.note" : Str), defArgs (meth 50 1), defBody (meth 50 1), defScope (meth 50 1), [], []⟩
def d_PairTable_note : He.DefD := ⟨(("PairTable" : Str), some ("note" : Str)), ("note" : Str), ("PairTable.note" : Str), defArgs (meth 49 1), defBody (meth 49 1), defScope (meth 49 1), [], []⟩
def d_Quote_note : He.DefD := ⟨(("Quote" : Str), some ("note" : Str)), ("note" : Str), ("Quote.note" : Str), defArgs (meth 52 1), defBody (meth 52 1), defScope (meth 52 1), [], []⟩
def d_Settlement_note : He.DefD := ⟨(("Settlement" : Str), some ("note" : Str)), ("note" : Str), ("Settlement.note" : Str), defArgs (meth 32 1), defBody (meth 32 1), defScope (meth 32 1), [], []⟩
def d_Shortage_note : He.DefD := ⟨(("Shortage" : Str), some ("note" : Str)), ("note" : Str), ("Shortage.note" : Str), defArgs (meth 25 1), defBody (meth 25 1), defScope (meth 25 1), [], []⟩
def d_Stuck_note : He.DefD := ⟨(("Stuck" : Str), some ("note" : Str)), ("note" : Str), ("Stuck.note" : Str), defArgs (meth 47 1), defBody (meth 47 1), defScope (meth 47 1), [], []⟩
def d_Survival_note : He.DefD := ⟨(("Survival" : Str), some ("note" : Str)), ("note" : Str), ("Survival.note" : Str), defArgs (meth 37 1), defBody (meth 37 1), defScope (meth 37 1), [], []⟩
def d_WaitBound_note : He.DefD := ⟨(("WaitBound" : Str), some ("note" : Str)), ("note" : Str), ("WaitBound.note" : Str), defArgs (meth 60 1), defBody (meth 60 1), defScope (meth 60 1), [], []⟩
def d_WaitRing_note : He.DefD := ⟨(("WaitRing" : Str), some ("note" : Str)), ("note" : Str), ("WaitRing.note" : Str), defArgs (meth 61 1), defBody (meth 61 1), defScope (meth 61 1), [], []⟩
def d_Yes_holds : He.DefD := ⟨(("Yes" : Str), some ("holds" : Str)), ("holds" : Str), ("Yes.holds" : Str), defArgs (meth 16 0), defBody (meth 16 0), defScope (meth 16 0), [], []⟩
def d_law_flags : He.DefD := ⟨(("_law_flags" : Str), none), ("_law_flags" : Str), ("_law_flags" : Str), defArgs (top 105), defBody (top 105), defScope (top 105), [], []⟩
def d_law_plain : He.DefD := ⟨(("_law_plain" : Str), none), ("_law_plain" : Str), ("_law_plain" : Str), defArgs (top 101), defBody (top 101), defScope (top 101), [], []⟩
def d_law_same : He.DefD := ⟨(("_law_same" : Str), none), ("_law_same" : Str), ("_law_same" : Str), defArgs (top 106), defBody (top 106), defScope (top 106), [], []⟩
def d_law_second : He.DefD := ⟨(("_law_second" : Str), none), ("_law_second" : Str), ("_law_second" : Str), defArgs (top 104), defBody (top 104), defScope (top 104), [], []⟩
def d_write_note : He.DefD := ⟨(("write_note" : Str), none), ("write_note" : Str), ("write_note" : Str), defArgs (top 18), defBody (top 18), defScope (top 18), [], []⟩
def d_certificate_text : He.DefD := ⟨(("certificate_text" : Str), none), ("certificate_text" : Str), ("certificate_text" : Str), defArgs (top 84), defBody (top 84), defScope (top 84), [], []⟩
def d_law : He.DefD := ⟨(("law" : Str), none), ("law" : Str), ("law" : Str), defArgs (top 112), defBody (top 112), defScope (top 112), [], []⟩
def d_exc : He.DefD := ⟨(("GangError" : Str), some ("__init__" : Str)), ("__init__" : Str), ("GangError.__init__" : Str), defArgs (meth 2 0), defBody (meth 2 0), defScope (meth 2 0), [], []⟩
def stKept : Stmt := (meth 57 0)
def stBroken : Stmt := (meth 58 0)
def excIx : Nat := 78
def fn : List He.DefD := [d_Blockers_init, d_CaseTree_init, d_Crowded_init, d_FloorPlan_init, d_NoQuote_init, d_Packing_init, d_Quote_init, d_Settlement_init, d_Shortage_init, d_Levels_init, d_gcd, d_Share_init, d_law_levels, d_law_first, d_law_forms, d_law_next, d_law_number, d_law_word, d_law_note, d_law_pair, d_law_made, d_law_pick, d_law_pool, d_Verdict_init, d_PairBook_init, d_PairTable_init, d_WaitBound_init, d_WaitRing_init, d_certificate_of_books, d_Frail_init, d_MovePlan_init, d_Stuck_init, d_Survival_init, d_read_share, d_read_levels, d_certificate_of_states, d_has_form, d_close_row, d_goes_on, d_token_note, d_read_note, d_read_certificate, d_law_read, d_law_bad, d_law_spoilt_pair, d_law_spoilt, d_law_text, d_law_refused, d_Blockers_note, d_Broken_note, d_CaseTree_note, d_Crowded_note, d_FloorPlan_note, d_Frail_note, d_Kept_note, d_share_note, d_Levels_note, d_MovePlan_note, d_No_holds, d_NoQuote_note, d_Packing_note, d_PairBook_note, d_PairTable_note, d_Quote_note, d_Settlement_note, d_Shortage_note, d_Stuck_note, d_Survival_note, d_WaitBound_note, d_WaitRing_note, d_Yes_holds, d_law_flags, d_law_plain, d_law_same, d_law_second, d_write_note, d_certificate_text, d_law, d_exc]
def gloL : List Str := [("BadCertificate" : Str), ("BadNote" : Str), ("Blockers" : Str), ("Broken" : Str), ("CaseTree" : Str), ("Certificate" : Str), ("Crowded" : Str), ("FORMS" : Str), ("FloorPlan" : Str), ("Frail" : Str), ("Kept" : Str), ("Levels" : Str), ("MovePlan" : Str), ("No" : Str), ("NoQuote" : Str), ("Packing" : Str), ("PairBook" : Str), ("PairTable" : Str), ("Quote" : Str), ("Settlement" : Str), ("Share" : Str), ("Shortage" : Str), ("Stuck" : Str), ("Survival" : Str), ("Verdict" : Str), ("WaitBound" : Str), ("WaitRing" : Str), ("Yes" : Str), ("_law_bad" : Str), ("_law_first" : Str), ("_law_flags" : Str), ("_law_forms" : Str), ("_law_levels" : Str), ("_law_made" : Str), ("_law_next" : Str), ("_law_note" : Str), ("_law_number" : Str), ("_law_pair" : Str), ("_law_pick" : Str), ("_law_plain" : Str), ("_law_pool" : Str), ("_law_read" : Str), ("_law_refused" : Str), ("_law_same" : Str), ("_law_second" : Str), ("_law_spoilt" : Str), ("_law_spoilt_pair" : Str), ("_law_text" : Str), ("_law_word" : Str), ("certificate_of_books" : Str), ("certificate_of_states" : Str), ("certificate_text" : Str), ("close_row" : Str), ("gcd" : Str), ("goes_on" : Str), ("has_form" : Str), ("law" : Str), ("read_certificate" : Str), ("read_levels" : Str), ("read_note" : Str), ("read_share" : Str), ("share_note" : Str), ("token_note" : Str), ("write_note" : Str)]
def freeL : List Str := [("bool" : Str), ("len" : Str), ("abs" : Str), ("min" : Str), ("sum" : Str), ("all" : Str), ("any" : Str), ("isinstance" : Str), ("int" : Str), ("str" : Str), ("tuple" : Str), ("range" : Str), ("enumerate" : Str), ("zip" : Str), ("super" : Str)]
def strL : List (Str × Str) := [(("DIGITS" : Str), ("0123456789" : Str)), (("LETTERS" : Str), ("abcdefghijklmnopqrstuvwxyz" : Str)), (("FIRST_CHARS" : Str), ("abcdefghijklmnopqrstuvwxyz0123456789-" : Str)), (("WORD_CHARS" : Str), ("abcdefghijklmnopqrstuvwxyz0123456789-:" : Str))]
def intL : List (Str × Int) := [(("LONGEST_WORD" : Str), 24), (("LONGEST_NUMBER" : Str), 200), (("DEEPEST" : Str), 100)]
def mkL : List Str := [("Shortage" : Str), ("Settlement" : Str), ("Packing" : Str), ("CaseTree" : Str), ("Survival" : Str), ("Frail" : Str), ("Levels" : Str), ("FloorPlan" : Str), ("Crowded" : Str), ("MovePlan" : Str), ("Stuck" : Str), ("PairTable" : Str), ("PairBook" : Str), ("Quote" : Str), ("NoQuote" : Str), ("Blockers" : Str), ("Kept" : Str), ("Broken" : Str), ("WaitBound" : Str), ("WaitRing" : Str), ("Share" : Str)]
/-- a class, a method, where it stands -/
def methL : List (Str × Str × Str) := [(("Shortage" : Str), ("note" : Str), ("Shortage" : Str)), (("Settlement" : Str), ("note" : Str), ("Settlement" : Str)), (("Packing" : Str), ("note" : Str), ("Packing" : Str)), (("CaseTree" : Str), ("note" : Str), ("CaseTree" : Str)), (("Survival" : Str), ("note" : Str), ("Survival" : Str)), (("Frail" : Str), ("note" : Str), ("Frail" : Str)), (("Levels" : Str), ("note" : Str), ("Levels" : Str)), (("FloorPlan" : Str), ("note" : Str), ("FloorPlan" : Str)), (("Crowded" : Str), ("note" : Str), ("Crowded" : Str)), (("MovePlan" : Str), ("note" : Str), ("MovePlan" : Str)), (("Stuck" : Str), ("note" : Str), ("Stuck" : Str)), (("PairTable" : Str), ("note" : Str), ("PairTable" : Str)), (("PairBook" : Str), ("note" : Str), ("PairBook" : Str)), (("Quote" : Str), ("note" : Str), ("Quote" : Str)), (("NoQuote" : Str), ("note" : Str), ("NoQuote" : Str)), (("Blockers" : Str), ("note" : Str), ("Blockers" : Str)), (("Kept" : Str), ("note" : Str), ("Kept" : Str)), (("Broken" : Str), ("note" : Str), ("Broken" : Str)), (("WaitBound" : Str), ("note" : Str), ("WaitBound" : Str)), (("WaitRing" : Str), ("note" : Str), ("WaitRing" : Str)), (("Shortage" : Str), ("holds" : Str), ("No" : Str)), (("Settlement" : Str), ("holds" : Str), ("Yes" : Str)), (("Packing" : Str), ("holds" : Str), ("Yes" : Str)), (("CaseTree" : Str), ("holds" : Str), ("No" : Str)), (("Survival" : Str), ("holds" : Str), ("Yes" : Str)), (("Frail" : Str), ("holds" : Str), ("No" : Str)), (("Levels" : Str), ("holds" : Str), ("Yes" : Str)), (("FloorPlan" : Str), ("holds" : Str), ("Yes" : Str)), (("Crowded" : Str), ("holds" : Str), ("No" : Str)), (("MovePlan" : Str), ("holds" : Str), ("Yes" : Str)), (("Stuck" : Str), ("holds" : Str), ("No" : Str)), (("PairTable" : Str), ("holds" : Str), ("Yes" : Str)), (("PairBook" : Str), ("holds" : Str), ("No" : Str)), (("Quote" : Str), ("holds" : Str), ("Yes" : Str)), (("NoQuote" : Str), ("holds" : Str), ("No" : Str)), (("Blockers" : Str), ("holds" : Str), ("Yes" : Str)), (("Kept" : Str), ("holds" : Str), ("Yes" : Str)), (("Broken" : Str), ("holds" : Str), ("No" : Str)), (("WaitBound" : Str), ("holds" : Str), ("Yes" : Str)), (("WaitRing" : Str), ("holds" : Str), ("No" : Str))]
abbrev RowO : PySem.W.OpenRow := PySem.W.OpenLaw.row PySem.Challenge.rw_gangbooks_k97_certificates_round
/-- an own exception class -/
def oexB (K : PySem.W.Frag) (C : Addr) : Bool := (match K.lookup C with
  | some ⟨.type t, _, .cls cd, sl⟩ => (match cd.mro, sl.toList with
    | .ref C' :: bm, [_, _, _, _, some (.builtin n), _] => decide (t = "type") && (decide (C' = C) && (decide (n = "ValueError.__new__") && (!cd.hasDel && (cd.hasDict && PySem.HandSPX.refsVE bm))))
    | _, _ => false)
  | _ => false) && (decide (PySem.W.findIn K (.ref C) "__setattr__" = some (some (.builtin "object.__setattr__"))) && (decide (PySem.W.subIn K (.ref C) (.type "BaseException") = some true) && (decide (PySem.W.typeIn K (.ref C) = some (.type "type")) && PySem.W.keepIn K (.ref C))))
def excB (K : PySem.W.Frag) (x : Str) : Bool := oexB K (He.ga K x) && (decide (PySem.W.findIn K (.ref (He.ga K x)) "__init__" = some (some (.ref (He.fAd K d_exc.at_)))) && (decide (PySem.W.typeIn K (.ref (He.fAd K d_exc.at_)) = some (.type "function")) && (decide (PySem.W.findIn K (.ref (He.ga K x)) "subject" = some none) && xfB K (He.ga K x))))
/-- what the classes say of isinstance -/
def isaB (K : PySem.W.Frag) : Bool := decide (PySem.W.specialIn K (.builtin "object.__class__") "__get__" = some (some (.builtin "getset_descriptor.__get__"))) && (decide (PySem.W.takesIn K (.builtin "object.__class__") = some true) &&
  mroL.all fun p => decide (PySem.W.findIn K (.ref (He.ga K p.1)) "__class__" = some (some (.builtin "object.__class__"))) && (decide (PySem.W.mroIn K (He.ga K p.1) (.type "object") = some true) && testL.all fun C' => decide (PySem.W.kitOne K (.ref (He.ga K p.1)) (.ref (He.ga K C')) = some (p.2.contains C'))))
def formB (K : PySem.W.Frag) : Bool := (formsL.all fun q => match PySem.W.nsIn K (He.ga K "FORMS") q.1 with
  | some (some u) => isD K u q.2
  | _ => false) && formsM.all fun z => decide (PySem.W.nsIn K (He.ga K "FORMS") z = some none)
def methB (K : PySem.W.Frag) : Bool := methL.all fun p => decide (He.ma K (He.ga K p.1) p.2.1 = He.ma K (He.ga K p.2.2) p.2.1)
/-- an __init__ with the cell of its class -/
abbrev FnC : Type := Option (Str × Str × Arguments × FuncBody × Scope × Addr × List Str × Addr)
def fnC (K : PySem.W.Frag) (p : Str × Option Str) : FnC := match K.lookup (He.fAd K p) with
  | some ⟨_, _, .func fd, _⟩ => some (fd.name, fd.qualname, fd.params, fd.body, fd.scope, fd.globals, fd.closure.map (·.1), fd.builtins)
  | _ => none
def valC (q : Str) (st : Stmt) : FnC := some ("__init__", q, defArgs st, .stmts (defBody st), defScope st, mainGlobals, ["__class__"], builtinsNs)
def supB (K : PySem.W.Frag) (x q : Str) (C : Addr) (fV : Addr) : Bool := (match K.lookup (He.fAd K (x, some "__init__")) with
  | some ⟨_, _, .func fd, _⟩ => (match fd.defaults, fd.kwdefaults, fd.annotations, fd.code, fd.closure with
    | .none, .none, none, .ref c, [(_, cc)] => PySem.W.codeIn K (.ref c) q && ((match K.lookup c with
      | some ⟨_, _, .fields vs, _⟩ => (match (vs[2]? : Option Value) with
        | some (Value.str fl _) => ((RowO.prog.main.file : Str) == fl)
        | _ => false)
      | _ => false) && (match K.lookup cc with
      | some ⟨_, _, .cell (some (.ref C')), _⟩ => decide (C' = C)
      | _ => false))
    | _, _, _, _, _ => false)
  | _ => false) && ((PySem.W.clsIn K C).isSome && (decide (PySem.W.mroIn K C (.ref C) = some true) && (decide (PySem.W.nsIn K cStatics "thirdparty.any" = some none) && (decide (PySem.W.ks_superIn K C C "__init__" = some (some (.ref fV))) && (decide (PySem.W.typeIn K (.ref fV) = some (.type "function")) && (PySem.W.fnIn K fV && PySem.W.keepIn K (.ref (He.fAd K (x, some "__init__")))))))))
def dictAs (g : Addr → Option Obj) (ns : Addr) (xs : List Str) : List Addr := match g ns with
  | some o => (match o.data with
    | .dict es _ => es.toList.flatMap fun e => if xs.any (fun x => e.key.isStr x) = true then He.refV e.val else []
    | _ => [])
  | none => []
def mroAs (g : Addr → Option Obj) (a : Addr) : List Addr := match g a with
  | some o => (match o.data with
    | .cls cd => cd.mro.flatMap He.refV
    | _ => [])
  | none => []
def nsAs (g : Addr → Option Obj) (a : Addr) : List Addr := match g a with
  | some o => (match o.data with
    | .cls cd => [cd.ns]
    | _ => [])
  | none => []
def defAs (g : Addr → Option Obj) (a : Addr) : List Addr := match g a with
  | some o => (match o.data with
    | .func fd => He.refV fd.code ++ (He.refV fd.defaults ++ fd.closure.map (·.2))
    | _ => [])
  | none => []
def treeAs (g : Addr → Option Obj) : Nat → List Addr → List Addr
  | 0, as => as
  | n + 1, as => as ++ treeAs g n (as.flatMap fun a => match g a with
    | some o => (match o.data with
      | .seq its _ => its.toList.flatMap He.refV
      | .dict es _ => es.toList.flatMap fun e => He.refV e.val
      | _ => [])
    | none => [])
def asX (g : Addr → Option Obj) : List Addr :=
  let g0 := dictAs g mainGlobals (gloL ++ (testL ++ [("GangError" : Str)]))
  let cs := (g0 ++ g0.flatMap (mroAs g)).eraseDups
  let ns := cs.flatMap (nsAs g)
  let ms := ns.flatMap fun a => dictAs g a [("__init__" : Str), ("note" : Str), ("holds" : Str)]
  mainGlobals :: cStatics :: (cs ++ (ns ++ (ms ++ ((cs ++ ms).flatMap (defAs g) ++ treeAs g 9 (dictAs g mainGlobals [("FORMS" : Str)])))))
def tabsL : List He.Tab := [(fun K => He.ga K "FORMS", formsL.map (·.1))]
def faO (a1 a2 a3 a4 a5 a6 a7 a8 a9 a10 a11 a12 : List He.Fa) : List He.Fa := a1 ++ (a2 ++ (a3 ++ (a4 ++ (a5 ++ (a6 ++ (a7 ++ (a8 ++ (a9 ++ (a10 ++ (a11 ++ a12))))))))))
def exmL : List He.Fa := [.exm "BadCertificate" "BadCertificate" true, .exm "BadNote" "BadCertificate" false, .exm "BadNote" "BadNote" true]
def l1 : List He.Fa := gloL.map .glo
def l2 : List He.Fa := testL.map .glo
def l3 : List He.Fa := freeL.map .free
def l4 : List He.Fa := strL.map fun p => .str p.1 p.2
def l5 : List He.Fa := intL.map fun p => .int p.1 p.2
def l6 : List He.Fa := mkL.map .mkr
def l7 : List He.Fa := methL.map fun p => .cls p.1
def l8 : List He.Fa := methL.map fun p => .meth p.1 p.2.1
def l9 : List He.Fa := okL.map fun p => .cls p.1
def l10 : List He.Fa := okL.map fun p => .noat p.1 p.2
def l11 : List He.Fa := mroL.map fun p => .cls p.1
def faL : List He.Fa := faO l1 l2 l3 l4 l5 l6 l7 l8 l9 l10 l11 exmL
def exB (K : PySem.W.Frag) : Bool := methB K && (isaB K && (formB K && (excB K "BadNote" && (excB K "BadCertificate" && (supB K "Kept" "Kept.__init__" (He.ga K "Kept") (He.fAd K d_Verdict_init.at_) && supB K "Broken" "Broken.__init__" (He.ga K "Broken") (He.fAd K d_Verdict_init.at_))))))
abbrev AlX : Type := He.AlT × (Bool × List FnC)
def obsX (K : PySem.W.Frag) : AlX := (He.obsT faL fn tabsL K, (exB K, [fnC K ("Kept", some "__init__"), fnC K ("Broken", some "__init__")]))
def valX (w : World) : AlX := (He.valT fn tabsL w, (true, [valC "Kept.__init__" stKept, valC "Broken.__init__" stBroken]))
def SaysX (w : World) (K : PySem.W.Frag) : Prop := obsX K = valX w
def obsXG (g : Addr → Option Obj) : AlX := obsX (He.frG g (asX g))
def hookX : PySem.W.Hook where
  α := AlX
  obs := fun s => obsXG s.heap.get?
  val := fun w => valX w
  says := fun w h => ∃ K : PySem.W.Frag, K.In h ∧ SaysX w K
  of := fun _ _ e => ⟨_, He.frG_in, e⟩
  keeps := fun _ _ _ ⟨K, hK, c⟩ k => ⟨K, PySem.W.Frag.In.keeps hK k, c⟩
theorem obsXG_eq {g : Addr → Option Obj} {s : Shared} (h : ∀ a, g a = s.heap.get? a) : obsXG g = hookX.obs s := by
  have e : g = s.heap.get? := funext h
  rw [e] <;> rfl
end K97
set_option Elab.async false
set_option linter.all false
set_option maxRecDepth 100000
set_option maxHeartbeats 0
namespace K97
open PySem PySem.W PySem.Calls PySem.Spec PyProof.Rows L2 FL
def nm0 : List Str := [("_wall" : Str), ("GangError" : Str), ("BadShare" : Str), ("BadNote" : Str), ("BadCertificate" : Str), ("Unknown" : Str), ("DIGITS" : Str), ("LETTERS" : Str), ("FIRST_CHARS" : Str), ("WORD_CHARS" : Str), ("LONGEST_WORD" : Str), ("LONGEST_NUMBER" : Str), ("DEEPEST" : Str), ("Certificate" : Str), ("Yes" : Str), ("No" : Str), ("write_note" : Str), ("read_note" : Str), ("close_row" : Str), ("goes_on" : Str), ("token_note" : Str), ("has_form" : Str), ("Shortage" : Str), ("Share" : Str), ("gcd" : Str), ("as_share" : Str), ("is_number" : Str), ("Settlement" : Str), ("Packing" : Str), ("CaseTree" : Str), ("Survival" : Str), ("Frail" : Str), ("Levels" : Str), ("share_note" : Str), ("FloorPlan" : Str)]
def nm1 : List Str := [("Crowded" : Str), ("MovePlan" : Str), ("Stuck" : Str), ("PairTable" : Str), ("PairBook" : Str), ("Quote" : Str), ("NoQuote" : Str), ("Blockers" : Str), ("Verdict" : Str), ("Kept" : Str), ("Broken" : Str), ("WaitBound" : Str), ("WaitRing" : Str), ("NUMBER" : Str), ("WORD" : Str), ("NONE" : Str), ("TUPLE" : Str), ("TUPLES" : Str), ("NUMBERS" : Str), ("PLACES" : Str), ("GANG" : Str), ("SHARE" : Str), ("DIVISION" : Str), ("BOUNDS" : Str), ("REFUSALS" : Str), ("BLOCKER" : Str), ("PLACED" : Str), ("MOVE" : Str), ("HOLD" : Str), ("WORDS" : Str), ("EVENTS" : Str), ("TRIPLES" : Str), ("PAIR" : Str), ("FORMS" : Str), ("certificate_text" : Str)]
def nm2 : List Str := [("read_certificate" : Str), ("certificate_of_states" : Str), ("certificate_of_books" : Str), ("read_levels" : Str), ("read_share" : Str), ("_law_pool" : Str), ("_law_pick" : Str), ("_law_forms" : Str), ("_law_next" : Str), ("_law_number" : Str), ("_law_word" : Str), ("_law_pair" : Str), ("_law_note" : Str), ("_law_made" : Str), ("_law_text" : Str), ("_law_plain" : Str), ("_law_levels" : Str), ("_law_first" : Str), ("_law_second" : Str), ("_law_flags" : Str), ("_law_same" : Str), ("_law_read" : Str), ("_law_bad" : Str), ("_law_spoilt_pair" : Str), ("_law_spoilt" : Str), ("_law_refused" : Str)]
def loose : List Str := nm0 ++ nm1 ++ nm2
def ob (s : PySem.W.SharedT) : AlX := obsXG (HandSHeadRun.getT s)
theorem ob_eq (s : PySem.W.SharedT) : ob s = hookX.obs s.abs := obsXG_eq (HandSHeadRun.getT_eq s)
theorem runA0 (w : World) (os : OsState) : (HandSHeadRun.endF (HandSHeadRun.stepQ (HandSHeadRun.denQ HandSHeadRun.tabQ) RowO.prog (w.withFollow "special-get-raises" false)) 20000 RowO.prog (w.withFollow "special-get-raises" false) os).map (fun s => (HandSHeadRun.looksF RowO.prog (boot_heap (w.withFollow "special-get-raises" false).params) s.abs, HandSHeadRun.seenQ (PySem.W.view RowO.prog [112]) loose (importedModules RowO.prog.main.body) (fun s => xlAt (PySem.W.view RowO.prog [112]) [] s && recOk RowO.toRowW.records s) s.abs)) = some ((true, openGood (PySem.W.view RowO.prog [112]) loose)) := by kernel_rfl
theorem runB0 (w : World) (os : OsState) : (HandSHeadRun.endF (HandSHeadRun.stepQ (HandSHeadRun.denQ HandSHeadRun.tabQ) RowO.prog (w.withFollow "special-get-raises" false)) 20000 RowO.prog (w.withFollow "special-get-raises" false) os).map (fun s => (ob s).1.1.1) = some ((hookX.val (w.withFollow "special-get-raises" false)).1.1.1) := by kernel_rfl
theorem runC0 (w : World) (os : OsState) : (HandSHeadRun.endF (HandSHeadRun.stepQ (HandSHeadRun.denQ HandSHeadRun.tabQ) RowO.prog (w.withFollow "special-get-raises" false)) 20000 RowO.prog (w.withFollow "special-get-raises" false) os).map (fun s => ((ob s).1.1.2, (ob s).1.2)) = some (((hookX.val (w.withFollow "special-get-raises" false)).1.1.2, (hookX.val (w.withFollow "special-get-raises" false)).1.2)) := by kernel_rfl
theorem runD0 (w : World) (os : OsState) : (HandSHeadRun.endF (HandSHeadRun.stepQ (HandSHeadRun.denQ HandSHeadRun.tabQ) RowO.prog (w.withFollow "special-get-raises" false)) 20000 RowO.prog (w.withFollow "special-get-raises" false) os).map (fun s => (ob s).2) = some ((hookX.val (w.withFollow "special-get-raises" false)).2) := by kernel_rfl
theorem runA1 (w : World) (os : OsState) : (HandSHeadRun.endF (HandSHeadRun.stepQ (HandSHeadRun.denQ HandSHeadRun.tabQ) RowO.prog (w.withFollow "special-get-raises" true)) 20000 RowO.prog (w.withFollow "special-get-raises" true) os).map (fun s => (HandSHeadRun.looksF RowO.prog (boot_heap (w.withFollow "special-get-raises" true).params) s.abs, HandSHeadRun.seenQ (PySem.W.view RowO.prog [112]) loose (importedModules RowO.prog.main.body) (fun s => xlAt (PySem.W.view RowO.prog [112]) [] s && recOk RowO.toRowW.records s) s.abs)) = some ((true, openGood (PySem.W.view RowO.prog [112]) loose)) := by kernel_rfl
theorem runB1 (w : World) (os : OsState) : (HandSHeadRun.endF (HandSHeadRun.stepQ (HandSHeadRun.denQ HandSHeadRun.tabQ) RowO.prog (w.withFollow "special-get-raises" true)) 20000 RowO.prog (w.withFollow "special-get-raises" true) os).map (fun s => (ob s).1.1.1) = some ((hookX.val (w.withFollow "special-get-raises" true)).1.1.1) := by kernel_rfl
theorem runC1 (w : World) (os : OsState) : (HandSHeadRun.endF (HandSHeadRun.stepQ (HandSHeadRun.denQ HandSHeadRun.tabQ) RowO.prog (w.withFollow "special-get-raises" true)) 20000 RowO.prog (w.withFollow "special-get-raises" true) os).map (fun s => ((ob s).1.1.2, (ob s).1.2)) = some (((hookX.val (w.withFollow "special-get-raises" true)).1.1.2, (hookX.val (w.withFollow "special-get-raises" true)).1.2)) := by kernel_rfl
theorem runD1 (w : World) (os : OsState) : (HandSHeadRun.endF (HandSHeadRun.stepQ (HandSHeadRun.denQ HandSHeadRun.tabQ) RowO.prog (w.withFollow "special-get-raises" true)) 20000 RowO.prog (w.withFollow "special-get-raises" true) os).map (fun s => (ob s).2) = some ((hookX.val (w.withFollow "special-get-raises" true)).2) := by kernel_rfl
theorem join4 {A B C E F G H : Type} {o : Option A} {f1 : A → B} {f2 : A → C} {h : A → ((E × F) × G) × H} {a : B} {b : C} {v : ((E × F) × G) × H} (h1 : o.map (fun s => (f1 s, f2 s)) = some (a, b)) (h2 : o.map (fun s => (h s).1.1.1) = some v.1.1.1) (h3 : o.map (fun s => ((h s).1.1.2, (h s).1.2)) = some (v.1.1.2, v.1.2)) (h4 : o.map (fun s => (h s).2) = some v.2) : o.map (fun s => (f1 s, f2 s, h s)) = some (a, b, v) := by
  cases o with
  | none => cases h1
  | some s =>
    have e1 : (f1 s, f2 s) = (a, b) := Option.some.inj h1
    have e2 : (h s).1.1.1 = v.1.1.1 := Option.some.inj h2
    have e3 : ((h s).1.1.2, (h s).1.2) = (v.1.1.2, v.1.2) := Option.some.inj h3
    have e4 : (h s).2 = v.2 := Option.some.inj h4
    have e5 : f1 s = a := (Prod.mk.inj e1).1
    have e6 : f2 s = b := (Prod.mk.inj e1).2
    have e7 : (h s).1.1.2 = v.1.1.2 := (Prod.mk.inj e3).1
    have e8 : (h s).1.2 = v.1.2 := (Prod.mk.inj e3).2
    have e9 : h s = v := Prod.ext (Prod.ext (Prod.ext e2 e7) e8) e4
    show some (f1 s, f2 s, h s) = _
    rw [e9, e5, e6]
theorem run_f (w : World) : HandSHeadRun.RunEq RowO (PySem.W.view RowO.prog [112]) hookX ob 20000 loose (w.withFollow "special-get-raises" false) := by
  intro os
  exact join4 (runA0 w os) (runB0 w os) (runC0 w os) (runD0 w os)
theorem run_t (w : World) : HandSHeadRun.RunEq RowO (PySem.W.view RowO.prog [112]) hookX ob 20000 loose (w.withFollow "special-get-raises" true) := by
  intro os
  exact join4 (runA1 w os) (runB1 w os) (runC1 w os) (runD1 w os)
theorem run_all (w : World) : HandSHeadRun.RunEq RowO (PySem.W.view RowO.prog [112]) hookX ob 20000 loose w := PySem.W.byRow2 "special-get-raises" run_f run_t w
end K97

set_option Elab.async false
set_option linter.all false
set_option maxRecDepth 100000
set_option maxHeartbeats 4000000
namespace FL
open PySem PySem.Spec PyProof.Rows L2
/-! ### names, constants -/
def R.of {α : Type} (o : Option α) (s : Sto) : R α := match o with
  | some a => .ok a s
  | none => .bad
def varM (i : Nat) : M := fun τ s => match τ[i]? with
  | some (some d) => .ok d s
  | _ => .bad
def cM (d : D) : M := fun _ s => .ok d s
/-- two operands, then a pure answer; .. that may touch the store -/
def op2 (f : D → D → Option D) (ma mb : M) : M := fun τ s => (ma τ s).bind fun x s => (mb τ s).bind fun y s => R.of (f x y) s
def op1 (f : D → Option D) (ma : M) : M := fun τ s => (ma τ s).bind fun x s => R.of (f x) s
/-- tests -/
abbrev MB := Env' → Sto → R Bool
def ttM (f : D → Sto → Option Bool) (ma : M) : MB := fun τ s => (ma τ s).bind fun x s => R.of (f x s) s
def valB (ma : M) : MB := ttM (fun x _ => match x with
  | .bl b => some b
  | _ => none) ma
def notB (m : MB) : MB := fun τ s => (m τ s).bind fun b s => .ok (!b) s
def andB (m n : MB) : MB := fun τ s => (m τ s).bind fun b s => if b = true then n τ s else .ok false s
def orB (m n : MB) : MB := fun τ s => (m τ s).bind fun b s => if b = true then .ok true s else n τ s
def notM (m : M) : M := fun τ s => (m τ s).bind fun x s => match x with
  | .bl b => .ok (.bl (!b)) s
  | _ => .bad
def andM (m n : M) : M := fun τ s => (m τ s).bind fun x s => match x with
  | .bl b => if b = true then n τ s else .ok (.bl false) s
  | _ => .bad
def orM (m n : M) : M := fun τ s => (m τ s).bind fun x s => match x with
  | .bl b => if b = true then .ok (.bl true) s else n τ s
  | _ => .bad
def ifM (c : MB) (a b : M) : M := fun τ s => (c τ s).bind fun t s => if t = true then a τ s else b τ s
/-- arguments -/
abbrev MA := Env' → Sto → R (List D)
def nilA : MA := fun _ s => .ok [] s
def consA (m : M) (ms : MA) : MA := fun τ s => (m τ s).bind fun x s => (ms τ s).bind fun xs s => .ok (x :: xs) s
def tupM (ms : MA) : M := fun τ s => (ms τ s).bind fun xs s => if xs.length ≤ sizeLine then .ok (.tup xs) s else .bad
def flsM (ms : MA) : M := fun τ s => (ms τ s).bind fun xs s => if xs.length ≤ sizeLine then .ok (.fls xs) s else .bad
def lstM (ms : MA) : M := fun τ s => (ms τ s).bind fun xs s => if xs.length ≤ sizeLine then .ok (.obj s.length) (s ++ [.lst xs]) else .bad
/-- a call of what is a function on values -/
def call1 (f : List D → Sto → R D) (ms : MA) : M := fun τ s => (ms τ s).bind fun xs s => f xs s

section
variable {X : Cx} {W : WX} {pos : Pos}
abbrev PM (X : Cx) (W : WX) (e : Expr) (m : M) : Prop := PE X e (tM X.K X.mg W m)
abbrev PMB (X : Cx) (W : WX) (e : Expr) (m : MB) : Prop := PT X e (tMB X.K X.mg W m)
abbrev PMA (X : Cx) (W : WX) (es : List Expr) (m : MA) : Prop := PA X es (tMA X.K X.mg W m)
theorem pm_var {i : Nat} {x : Str} {pos : Pos} (hN : X.N[i]? = some x) (hv : Vis X.env.scope x) (hd : (x == ("__debug__" : Str)) = false := by decide) (hcd : (x == ("__classdict__" : Str)) = false := by decide) : PM X W (.Name x pos) (varM i) :=
  PE.imp (pe_var hN hv hd hcd) fun σ H Q ⟨ρ, τ, s, r, e, h⟩ => by
    unfold varM at h
    cases q : τ[i]? with
    | none => rw [q] at h; exact h.elim
    | some o =>
      cases o with
      | none => rw [q] at h; exact h.elim
      | some d =>
        rw [q] at h
        obtain ⟨v, e1, e2⟩ := e.get q
        exact ⟨v, e1, h ρ H .refl r v e2⟩
/-- what is read and gives a value that is told -/
theorem pm_c {e : Expr} {v : V} {d : D} (h : PE X e (tC v)) (hv : ∀ ρ H, IsV X.K X.mg ρ H v d) : PM X W e (cM d) :=
  PE.imp h fun σ H Q ⟨ρ, τ, s, r, e, h⟩ => h ρ H .refl r v (hv ρ H)
theorem pm_int {i j pos} : PM X W (.Constant (.int i) j pos) (cM (.int i)) := pm_c pe_int fun _ _ => .int
theorem pm_str {x j pos} : PM X W (.Constant (.str x) j pos) (cM (.str x)) := pm_c pe_str fun _ _ => .str
theorem pm_bl {b j pos} : PM X W (.Constant (.bool b) j pos) (cM (.bl b)) := pm_c pe_bl fun _ _ => .bl
theorem pm_non {j pos} : PM X W (.Constant .none j pos) (cM .non) := pm_c pe_non fun _ _ => .non
theorem pm_glob {x : Str} {v : V} {u : Value} {d : D} {pos : Pos} (hg : Gl X x) (hm : X.mg x = some u) (r : RelV v u) (hv : ∀ ρ H, IsV X.K X.mg ρ H v d) (hd : (x == ("__debug__" : Str)) = false := by decide) : PM X W (.Name x pos) (cM d) :=
  pm_c (pe_glob hg hm r hd) hv

/-! ### operators -/
/-- a pure operation on trees is served by a rule -/
def OpC (K : PySem.W.Frag) (mg : Str → Option Value) (f : D → D → Option D) (r : R2) : Prop :=
  ∀ (ρ : Rr) (H : Hp) (s : Sto) (v u : V) (x y d : D) (Q : VK), Rep K mg ρ H s → IsV K mg ρ H v x → IsV K mg ρ H u y → f x y = some d →
    (∀ H' w, Le ρ H ρ H' → Rep K mg ρ H' s → IsV K mg ρ H' w d → Q w H') → r v u H Q
theorem op2_go {f : D → D → Option D} {r : R2} {ma mb : M} {σ : L2.St} {H : Hp} {Q : VK} (hf : OpC X.K X.mg f r) (h : tM X.K X.mg W (op2 f ma mb) σ H Q) : tOp r (tM X.K X.mg W ma) (tM X.K X.mg W mb) σ H Q := by
  obtain ⟨ρ, τ, s, rp, e, h⟩ := h
  refine tM_go rp e (Post.bind h) fun ρ1 H1 x s1 v l1 r1 e1 hv h1 => ?_
  refine tM_go r1 e1 (Post.bind h1) fun ρ2 H2 y s2 u l2 r2 e2 hu h2 => ?_
  cases hq : f x y with
  | none => rw [hq] at h2; exact h2.elim
  | some d =>
    rw [hq] at h2
    exact hf ρ2 H2 s2 v u x y d Q r2 (hv.mono l2) hu hq fun H' w l r' hw => h2 ρ2 H' l r' w hw
theorem pm_op {op : Operator} {a b : Expr} {ma mb : M} {f : D → D → Option D} {r : R2} (ho : OpR X (binaryOp op) r) (hf : OpC X.K X.mg f r) (ha : PM X W a ma) (hb : PM X W b mb) : PM X W (.BinOp a op b pos) (op2 f ma mb) :=
  PE.imp (pe_op ho ha hb) fun _ _ _ h => op2_go hf h
theorem pm_cmp {op : CmpOp} {a b : Expr} {ma mb : M} {f : D → D → Option D} {r : R2} (ho : OpR X (compareOp op) r) (hf : OpC X.K X.mg f r) (ha : PM X W a ma) (hb : PM X W b mb) (hm : behindInMarks op b = false) : PM X W (.Compare a [op] [b] pos) (op2 f ma mb) :=
  PE.imp (pe_cmpR ho ha hb hm) fun _ _ _ h => op2_go hf h
theorem valB_go {te : TE} {m : M} {σ : L2.St} {H : Hp} {Q : Bool → Hp → Prop} (k : ∀ Q', tM X.K X.mg W m σ H Q' → te σ H Q') (h : tMB X.K X.mg W (valB m) σ H Q) : tTest te σ H Q := by
  obtain ⟨ρ, τ, s, rp, e, h⟩ := h
  refine k _ (tM_go rp e (Post.bind h) fun ρ1 H1 x s1 v l1 r1 e1 hv h1 => ?_)
  cases x with
  | bl b =>
    cases hv
    exact ⟨b, rfl, h1 ρ1 H1 .refl r1⟩
  | _ => exact h1.elim
theorem pmb_cmp {op : CmpOp} {a b : Expr} {ma mb : M} {f : D → D → Option D} {r : R2} (ho : OpR X (compareOp op) r) (hf : OpC X.K X.mg f r) (ha : PM X W a ma) (hb : PM X W b mb) (hm : behindInMarks op b = false) : PMB X W (.Compare a [op] [b] pos) (valB (op2 f ma mb)) :=
  PT.imp (pt_cmpR ho ha hb hm) fun _ _ _ h => valB_go (fun _ h => op2_go hf h) h
theorem pmb_val {e : Expr} {m : M} (h : PM X W e m) (he : ∀ whole, isTrue e X.env whole = (do let v ← whole; standAt e.pos; holding [v] (truthy v)) := by intro _; rfl) : PMB X W e (valB m) :=
  PT.imp (pt_val h he) fun σ H Q h => by
    exact valB_go (te := tM X.K X.mg W m) (fun _ h => h) h
theorem pmb_not {a : Expr} {m : MB} (ha : PMB X W a m) : PMB X W (.UnaryOp .Not a pos) (notB m) :=
  PT.imp (pt_not ha) fun σ H Q ⟨ρ, τ, s, rp, e, h⟩ => tMB_go rp e (Post.bind h) fun ρ1 H1 b s1 l1 r1 e1 h1 => h1 ρ1 H1 .refl r1
abbrev PMW (X : Cx) (W : WX) (e : Expr) (m : MB) : Prop := PW X e (tMB X.K X.mg W m)
theorem pmw_and1 {a : Expr} {m : MB} (ha : PMB X W a m) : PMW X W (.BoolOp .And [a] pos) m := pw_and1 ha
theorem pmw_or1 {a : Expr} {m : MB} (ha : PMB X W a m) : PMW X W (.BoolOp .Or [a] pos) m := pw_or1 ha
theorem pmw_and {a b : Expr} {rest : List Expr} {m n : MB} (ha : PMB X W a m) (hb : PMW X W (.BoolOp .And (b :: rest) pos) n) : PMW X W (.BoolOp .And (a :: b :: rest) pos) (andB m n) :=
  PW.imp (pw_and ha hb) fun σ H Q ⟨ρ, τ, s, rp, e, h⟩ => tMB_go rp e (Post.bind h) fun ρ1 H1 b s1 l1 r1 e1 h1 => by
    cases b with
    | true => exact ⟨ρ1, τ, s1, r1, e1, h1⟩
    | false => exact h1 ρ1 H1 .refl r1
theorem pmw_or {a b : Expr} {rest : List Expr} {m n : MB} (ha : PMB X W a m) (hb : PMW X W (.BoolOp .Or (b :: rest) pos) n) : PMW X W (.BoolOp .Or (a :: b :: rest) pos) (orB m n) :=
  PW.imp (pw_or ha hb) fun σ H Q ⟨ρ, τ, s, rp, e, h⟩ => tMB_go rp e (Post.bind h) fun ρ1 H1 b s1 l1 r1 e1 h1 => by
    cases b with
    | true => exact h1 ρ1 H1 .refl r1
    | false => exact ⟨ρ1, τ, s1, r1, e1, h1⟩
theorem pmb_w {e : Expr} {m : MB} (h : PMW X W e m) : PMB X W e m := PW.pt h
theorem pm_not {a : Expr} {m : M} (ha : PM X W a m) : PM X W (.UnaryOp .Not a pos) (notM m) :=
  PE.imp (pe_not ha) fun σ H Q ⟨ρ, τ, s, rp, e, h⟩ => tM_go rp e (Post.bind h) fun ρ1 H1 x s1 v l1 r1 e1 hv h1 => by
    cases x with
    | bl b => cases hv; exact ⟨b, rfl, h1 ρ1 H1 .refl r1 _ .bl⟩
    | _ => exact h1.elim
theorem pm_one {op} {a : Expr} {m : M} (ha : PM X W a m) : PM X W (.BoolOp op [a] pos) m := pe_one ha
theorem pm_and {a b : Expr} {rest : List Expr} {m n : M} (ha : PM X W a m) (hb : PM X W (.BoolOp .And (b :: rest) pos) n) : PM X W (.BoolOp .And (a :: b :: rest) pos) (andM m n) :=
  PE.imp (pe_and ha hb) fun σ H Q ⟨ρ, τ, s, rp, e, h⟩ => tM_go rp e (Post.bind h) fun ρ1 H1 x s1 v l1 r1 e1 hv h1 => by
    cases x with
    | bl b =>
      cases hv
      refine ⟨b, rfl, ?_⟩
      cases b with
      | true => exact ⟨ρ1, τ, s1, r1, e1, h1⟩
      | false => exact h1 ρ1 H1 .refl r1 _ .bl
    | _ => exact h1.elim
theorem pm_or {a b : Expr} {rest : List Expr} {m n : M} (ha : PM X W a m) (hb : PM X W (.BoolOp .Or (b :: rest) pos) n) : PM X W (.BoolOp .Or (a :: b :: rest) pos) (orM m n) :=
  PE.imp (pe_or ha hb) fun σ H Q ⟨ρ, τ, s, rp, e, h⟩ => tM_go rp e (Post.bind h) fun ρ1 H1 x s1 v l1 r1 e1 hv h1 => by
    cases x with
    | bl b =>
      cases hv
      refine ⟨b, rfl, ?_⟩
      cases b with
      | true => exact h1 ρ1 H1 .refl r1 _ .bl
      | false => exact ⟨ρ1, τ, s1, r1, e1, h1⟩
    | _ => exact h1.elim
theorem pm_if {c a b : Expr} {mc : MB} {m n : M} (hc : PMB X W c mc) (ha : PM X W a m) (hb : PM X W b n) : PM X W (.IfExp c a b pos) (ifM mc m n) :=
  PE.imp (pe_ifExp hc ha hb) fun σ H Q ⟨ρ, τ, s, rp, e, h⟩ => tMB_go rp e (Post.bind h) fun ρ1 H1 b s1 l1 r1 e1 h1 => by
    cases b with
    | true => exact ⟨ρ1, τ, s1, r1, e1, h1⟩
    | false => exact ⟨ρ1, τ, s1, r1, e1, h1⟩
theorem pm_un {op : UnaryOp} {a : Expr} {m : M} {f : D → Option D} {r : V → Hp → VK → Prop} (ho : UnR X (unaryOp op) r)
    (hf : ∀ (ρ : Rr) (H : Hp) (v : V) (x d : D) (Q : VK), IsV X.K X.mg ρ H v x → f x = some d → (∀ w, IsV X.K X.mg ρ H w d → Q w H) → r v H Q) (ha : PM X W a m) : PM X W (.UnaryOp op a pos) (op1 f m) :=
  PE.imp (pe_un ho ha) fun σ H Q ⟨ρ, τ, s, rp, e, h⟩ => tM_go rp e (Post.bind h) fun ρ1 H1 x s1 v l1 r1 e1 hv h1 => by
    cases hq : f x with
    | none => rw [hq] at h1; exact h1.elim
    | some d => rw [hq] at h1; exact hf ρ1 H1 v x d Q hv hq fun w hw => h1 ρ1 H1 .refl r1 w hw
/-! ### arguments, displays -/
theorem pma_nil : PMA X W [] nilA := PA.imp pa_nil fun σ H Q ⟨ρ, τ, s, rp, e, h⟩ => h ρ H .refl rp [] .nil
theorem pma_cons {e : Expr} {es : List Expr} {m : M} {ms : MA} (h : PM X W e m) (hs : PMA X W es ms) (hst : starEach (e :: es) X.env = (false, eval e X.env) :: starEach es X.env := by rfl) : PMA X W (e :: es) (consA m ms) :=
  PA.imp (pa_cons h hs hst) fun σ H Q ⟨ρ, τ, s, rp, e, h⟩ => tM_go rp e (Post.bind h) fun ρ1 H1 x s1 v l1 r1 e1 hv h1 =>
    tMA_go r1 e1 (Post.bind h1) fun ρ2 H2 xs s2 vs l2 r2 e2 hvs h2 => h2 ρ2 H2 .refl r2 _ (.cons (hv.mono l2) hvs)
theorem pm_tup {es : List Expr} {x1} {ms : MA} (h : PMA X W es ms) : PM X W (.Tuple es x1 pos) (tupM ms) :=
  PE.imp (pe_tup h) fun σ H Q ⟨ρ, τ, s, rp, e, h⟩ => tMA_go rp e (Post.bind h) fun ρ1 H1 xs s1 vs l1 r1 e1 hvs h1 => by
    by_cases hz : xs.length ≤ sizeLine
    · rw [if_pos hz] at h1
      refine ⟨by rw [hvs.length]; exact hz, fun p hp => ?_⟩
      exact h1 ρ1 _ (.new hp) (r1.new hp) _ (.tup (.inl ⟨.inl upd_same, r1.fresh hp⟩) (hvs.mono (.new hp)))
    · rw [if_neg hz] at h1; exact h1.elim
theorem pm_fls {es : List Expr} {ms : MA} (h : PMA X W es ms) : PM X W (.List es pos) (flsM ms) :=
  PE.imp (pe_lst h) fun σ H Q ⟨ρ, τ, s, rp, e, h⟩ => tMA_go rp e (Post.bind h) fun ρ1 H1 xs s1 vs l1 r1 e1 hvs h1 => by
    by_cases hz : xs.length ≤ sizeLine
    · rw [if_pos hz] at h1
      refine ⟨by rw [hvs.length]; exact hz, fun p hp => ?_⟩
      exact h1 ρ1 _ (.new hp) (r1.new hp) _ (.fls upd_same (r1.fresh hp) (hvs.mono (.new hp)))
    · rw [if_neg hz] at h1; exact h1.elim
theorem get_push {l : List Addr} {p : Addr} : (l ++ [p])[l.length]? = some p := by
  rw [List.getElem?_append_right (Nat.le_refl _), Nat.sub_self]; rfl
theorem pm_lst {es : List Expr} {ms : MA} (h : PMA X W es ms) : PM X W (.List es pos) (lstM ms) :=
  PE.imp (pe_lst h) fun σ H Q ⟨ρ, τ, s, rp, e, h⟩ => tMA_go rp e (Post.bind h) fun ρ1 H1 xs s1 vs l1 r1 e1 hvs h1 => by
    by_cases hz : xs.length ≤ sizeLine
    · rw [if_pos hz] at h1
      refine ⟨by rw [hvs.length]; exact hz, fun p hp => ?_⟩
      refine h1 (ρ1.push p) _ (.push hp) (r1.push hp ⟨vs, upd_same, hvs.mono (.push hp)⟩) _ (.obj ?_)
      show (ρ1.pl ++ [p])[s1.length]? = some p; rw [← r1.len]; exact get_push
    · rw [if_neg hz] at h1; exact h1.elim
/-! ### calls of what is known on values -/
def CallC (K : PySem.W.Frag) (mg : Str → Option Value) (f : List D → Sto → R D) (r : List V → Hp → VK → Prop) : Prop :=
  ∀ (W : WX) (σ : L2.St) (ρ : Rr) (H : Hp) (s : Sto) (vs : List V) (xs : List D) (Q : VK), Rep K mg ρ H s → IsVs K mg ρ H vs xs → Post K mg W ρ H σ (f xs s) (fun ρ' H' d _ => ∀ v, IsV K mg ρ' H' v d → Q v H') → r vs H Q
theorem call_go {f : List D → Sto → R D} {r : List V → Hp → VK → Prop} {ms : MA} {σ : L2.St} {H : Hp} {Q : VK} (hf : CallC X.K X.mg f r) (h : tM X.K X.mg W (call1 f ms) σ H Q) : tCB r (tMA X.K X.mg W ms) σ H Q := by
  obtain ⟨ρ, τ, s, rp, e, h⟩ := h
  exact tMA_go rp e (Post.bind h) fun ρ1 H1 xs s1 vs l1 r1 e1 hvs h1 => hf W σ ρ1 H1 s1 vs xs Q r1 hvs h1
theorem pm_callB {x : Str} {id : String} {p : Pos} {e : Expr} {es : List Expr} {f : List D → Sto → R D} {r : List V → Hp → VK → Prop} {ms : MA} (hc : CallR X (.builtin id) r) (hf : CallC X.K X.mg f r) (hg : Gl X x) (hm : X.mg x = none) (hv : bootBuiltins x = some (.builtin id)) (ha : PMA X W (e :: es) ms)
    (hn : x ≠ "__name__" := by decide) (hdb : (x == ("__debug__" : Str)) = false := by decide) (he : starEach (e :: es) X.env = (false, eval e X.env) :: starEach es X.env := by rfl) (hpl : (backTo pos (starEach es X.env)).any (·.1) = false := by rfl) :
    PM X W (.Call (.Name x p) (e :: es) [] pos) (call1 f ms) := PE.imp (pe_callB hc hg hm hv ha hn hdb he hpl) fun _ _ _ h => call_go hf h
theorem pm_callTy {x : Str} {T : String} {p : Pos} {e : Expr} {es : List Expr} {f : List D → Sto → R D} {r : List V → Hp → VK → Prop} {ms : MA} (hc : CallR X (.type T) r) (hf : CallC X.K X.mg f r) (hg : Gl X x) (hm : X.mg x = none) (hv : bootBuiltins x = some (.type T)) (ha : PMA X W (e :: es) ms)
    (hn : x ≠ "__name__" := by decide) (hdb : (x == ("__debug__" : Str)) = false := by decide) (he : starEach (e :: es) X.env = (false, eval e X.env) :: starEach es X.env := by rfl) (hpl : (backTo pos (starEach es X.env)).any (·.1) = false := by rfl) :
    PM X W (.Call (.Name x p) (e :: es) [] pos) (call1 f ms) := PE.imp (pe_callTy hc hg hm hv ha hn hdb he hpl) fun _ _ _ h => call_go hf h
end
end FL

set_option Elab.async false
set_option linter.all false
set_option maxRecDepth 100000
set_option maxHeartbeats 4000000
namespace FL
open PySem PySem.Spec PyProof.Rows L2
/-! ### what trees are as data -/
mutual
def toP : D → Option PyData
  | .non => some .none
  | .bl b => some (.bool b)
  | .int i => some (.int i)
  | .str x => some (.str x)
  | .tup ds => (toPs ds).map .tuple
  | .fls ds => (toPs ds).map .list
  | .wls ds => (toPs ds).map .list
  | _ => none
def toPs : List D → Option (List PyData)
  | [] => some []
  | d :: ds => match toP d, toPs ds with
    | some x, some xs => some (x :: xs)
    | _, _ => none
end
section
variable {K : PySem.W.Frag} {mg : Str → Option Value} {ρ : Rr} {H : Hp}
theorem isV_ref {v : V} {d : D} (h : IsV K mg ρ H v d) : (∃ a, v = .ref a) ∨ (match d with | .non => v = .non | .bl b => v = .bl b | .int i => v = .int i | .str x => v = .str x | .ty n => v = .ty n | _ => False) := by
  cases h <;> first | exact .inr rfl | exact .inl ⟨_, rfl⟩
mutual
theorem IsV.dp : ∀ {v : V} {d : D} {p : PyData}, IsV K mg ρ H v d → toP d = some p → Dp K H v p
  | _, _, p, .non, h => by simp only [toP, Option.some.injEq] at h; subst h; exact .non
  | _, _, p, .bl, h => by simp only [toP, Option.some.injEq] at h; subst h; exact .bl _
  | _, _, p, .int, h => by simp only [toP, Option.some.injEq] at h; subst h; exact .int _
  | _, _, p, .str, h => by simp only [toP, Option.some.injEq] at h; subst h; exact .str _
  | _, .tup ds, p, .tup h hs, e => by
    simp only [toP] at e
    cases q : toPs ds with
    | none => rw [q] at e; simp at e
    | some ps =>
      rw [q] at e
      simp only [Option.map_some, Option.some.injEq] at e
      subst e
      exact .tup h.sq (IsVs.dp hs q)
  | _, .fls ds, p, .fls h n hs, e => by
    simp only [toP] at e
    cases q : toPs ds with
    | none => rw [q] at e; simp at e
    | some ps =>
      rw [q] at e
      simp only [Option.map_some, Option.some.injEq] at e
      subst e
      exact .lst (.of h) (IsVs.dp hs q)
  | _, .wls ds, p, .wls h hs, e => by
    simp only [toP] at e
    cases q : toPs ds with
    | none => rw [q] at e; simp at e
    | some ps =>
      rw [q] at e
      simp only [Option.map_some, Option.some.injEq] at e
      subst e
      exact .lst h.sq (IsVs.dp hs q)
  | _, .ist _ _, p, .ist _ _ _ _, e => by simp [toP] at e
  | _, .obj _, p, .obj _, e => by simp [toP] at e
  | _, .glo _, p, .glo _, e => by simp [toP] at e
  | _, .ty _, p, .ty, e => by simp [toP] at e
theorem IsVs.dp : ∀ {vs : List V} {ds : List D} {ps : List PyData}, IsVs K mg ρ H vs ds → toPs ds = some ps → DpAll K H vs ps
  | _, _, ps, .nil, h => by simp only [toPs, Option.some.injEq] at h; subst h; exact .nil
  | _, d :: ds, ps, .cons h t, e => by
    simp only [toPs] at e
    cases q1 : toP d with
    | none => rw [q1] at e; simp at e
    | some x =>
      cases q2 : toPs ds with
      | none => rw [q1, q2] at e; simp at e
      | some xs =>
        rw [q1, q2] at e
        simp only [Option.some.injEq] at e
        subst e
        exact .cons (IsV.dp h q1) (IsVs.dp t q2)
end
end
/-! ### pure operations -/
def addP : D → D → Option D
  | .int i, .int j => some (.int (i + j))
  | .str x, .str y => if x.length + y.length ≤ sizeLine then some (.str (x ++ y)) else none
  | .tup xs, .tup ys => if xs.length + ys.length ≤ sizeLine then some (.tup (xs ++ ys)) else none
  | .fls xs, .fls ys => if xs.length + ys.length ≤ sizeLine then some (.fls (xs ++ ys)) else none
  | _, _ => none
def subP : D → D → Option D
  | .int i, .int j => some (.int (i - j))
  | _, _ => none
instance {i j : Int} : Decidable (CMulW i j) := by unfold CMulW; infer_instance
def mulP : D → D → Option D
  | .int i, .int j => if CMulW i j then some (.int (i * j)) else none
  | _, _ => none
instance {i j : Int} : Decidable (CDivW i j) := by unfold CDivW; infer_instance
def divP : D → D → Option D
  | .int i, .int j => if CDivW i j then some (.int (i / j)) else none
  | _, _ => none
def modP : D → D → Option D
  | .int i, .int j => if 0 < j then some (.int (i % j)) else none
  | _, _ => none
instance {i j : Int} : Decidable (CPow i j) := by unfold CPow; infer_instance
/-- what ** serves -/
def CPow2 (i j : Int) : Prop := 0 ≤ j ∧ (Builtin.Int.intBits i : Int) * j ≤ 134217728
instance {i j : Int} : Decidable (CPow2 i j) := by unfold CPow2; infer_instance
def powP : D → D → Option D
  | .int i, .int j => if CPow2 i j then some (.int (i ^ j.toNat)) else none
  | _, _ => none
def negP : D → Option D
  | .int i => some (.int (-i))
  | _ => none
/-- == of the scalars, else of data -/
def eqB (x y : D) : Option Bool := match x, y with
  | .int i, .int j => some (decide (i = j))
  | .str a, .str b => some (decide (a = b))
  | .bl a, .bl b => some (decide (a = b))
  | .non, .non => some true
  | x, y => match toP x, toP y with
    | some d, some e => if SeqAt.shaped d = true ∧ SeqAt.shaped e = true then some (PyData.eqv d e) else none
    | _, _ => none
def eqP (x y : D) : Option D := (eqB x y).map .bl
def neP (x y : D) : Option D := (eqB x y).map fun b => .bl (!b)
def isNP : D → D → Option D
  | .non, .non => some (.bl true)
  | _, .non => some (.bl false)
  | _, _ => none
def notNP : D → D → Option D
  | .non, .non => some (.bl false)
  | _, .non => some (.bl true)
  | _, _ => none
def cmpP (p : Int → Int → Bool) : D → D → Option D
  | .int i, .int j => some (.bl (p i j))
  | _, _ => none
def ltP : D → D → Option D := cmpP fun i j => decide (i < j)
def leP : D → D → Option D := cmpP fun i j => decide (i ≤ j)
def gtP : D → D → Option D := cmpP fun i j => decide (j < i)
def geP : D → D → Option D := cmpP fun i j => decide (j ≤ i)
/-- a flat value -/
def flV : D → Option V
  | .non => some .non
  | .bl b => some (.bl b)
  | .int i => some (.int i)
  | .str x => some (.str x)
  | _ => none
def flVs : List D → Option (List V)
  | [] => some []
  | d :: ds => match flV d, flVs ds with
    | some v, some vs => some (v :: vs)
    | _, _ => none
def inB : D → D → Option Bool
  | .str x, .str z => match x.cps.toList with
    | [c] => some (decide (c ∈ z.cps.toList))
    | _ => none
  | x, .tup ds => match flV x, flVs ds with
    | some v, some vs => some (inV v vs)
    | _, _ => none
  | x, .fls ds => match toP x, toPs ds with
    | some d, some es => if SeqAt.shaped d = true ∧ SeqAt.shaped (.list es) = true then some (es.any fun z => PyData.eqv z d) else none
    | _, _ => none
  | x, .wls ds => match toP x, toPs ds with
    | some d, some es => if SeqAt.shaped d = true ∧ SeqAt.shaped (.list es) = true then some (es.any fun z => PyData.eqv z d) else none
    | _, _ => none
  | _, _ => none
def inP (x y : D) : Option D := (inB x y).map .bl
def notInP (x y : D) : Option D := (inB x y).map fun b => .bl (!b)

section
variable {X : Cx}
theorem oc_atom {f : D → D → Option D} {r : R2} (h : ∀ (ρ : Rr) (H : Hp) (v u : V) (x y d : D) (Q : VK), IsV X.K X.mg ρ H v x → IsV X.K X.mg ρ H u y → f x y = some d → (∀ w, IsV X.K X.mg ρ H w d → Q w H) → r v u H Q) : OpC X.K X.mg f r :=
  fun ρ H s v u x y d Q rp hv hu e k => h ρ H v u x y d Q hv hu e fun w hw => k H w .refl rp hw
abbrev rAddA (K : PySem.W.Frag) : R2 := fun x y H Q => (∃ i j, x = .int i ∧ y = .int j ∧ Q (.int (i + j)) H) ∨ (∃ i j, x = .str i ∧ y = .str j ∧ i.length + j.length ≤ sizeLine ∧ Q (.str (i ++ j)) H) ∨ rCatA K x y H Q ∨ rCat x y H Q
theorem op_addA : OpR X (binaryOp .Add) (rAddA X.K) := op_add.or (op_add_str.or (op_catA.or op_cat))
theorem isVs_nil {K : PySem.W.Frag} {mg : Str → Option Value} {ρ : Rr} {H : Hp} {vs : List V} {ds : List D} (h : IsVs K mg ρ H vs ds) : vs = [] ↔ ds = [] := by
  cases h with
  | nil => simp
  | cons _ _ => simp
theorem oc_add : OpC X.K X.mg addP (rAddA X.K) := by
  intro ρ H s v u x y d Q rp hv hu e k
  cases x with
  | int i =>
    cases y with
    | int j => cases hv; cases hu; cases e; exact .inl ⟨i, j, rfl, rfl, k H _ .refl rp .int⟩
    | _ => cases e
  | str a =>
    cases y with
    | str b =>
      cases hv; cases hu
      simp only [addP] at e
      split at e
      · rename_i hz; cases e; exact .inr (.inl ⟨a, b, rfl, rfl, hz, k H _ .refl rp .str⟩)
      · cases e
    | _ => cases e
  | tup as =>
    cases y with
    | tup bs =>
      simp only [addP] at e
      split at e
      · rename_i hz
        cases e
        cases hv with
        | tup h1 s1 =>
          cases hu with
          | tup h2 s2 =>
            refine .inr (.inr (.inl ⟨_, _, _, _, rfl, rfl, h1.sq, h2.sq, by rw [s1.length, s2.length]; exact hz, fun z => ?_, fun z1 z2 => ?_, fun _ _ p hp => ?_⟩))
            · have z' := (isVs_nil s1).mp z
              subst z'
              exact k H _ .refl rp (.tup h2 s2)
            · have z' := (isVs_nil s2).mp z2
              subst z'
              rw [List.append_nil] at k
              exact k H _ .refl rp (.tup h1 s1)
            · exact k _ _ (.new hp) (rp.new hp) (.tup (.inl ⟨.inl upd_same, rp.fresh hp⟩) ((s1.append s2).mono (.new hp)))
      · cases e
    | _ => cases e
  | fls as =>
    cases y with
    | fls bs =>
      simp only [addP] at e
      split at e
      · rename_i hz
        cases e
        cases hv with
        | fls h1 n1 s1 =>
          cases hu with
          | fls h2 n2 s2 =>
            refine .inr (.inr (.inr ⟨_, _, _, _, rfl, rfl, h1, h2, by rw [s1.length, s2.length]; exact hz, fun p hp => ?_⟩))
            exact k _ _ (.new hp) (rp.new hp) (.fls upd_same (rp.fresh hp) ((s1.append s2).mono (.new hp)))
      · cases e
    | _ => cases e
  | _ => cases e
theorem oc_int2 {f : D → D → Option D} {C : Int → Int → Prop} {g : Int → Int → V} {gd : Int → Int → D} (hg : ∀ ρ H i j, IsV X.K X.mg ρ H (g i j) (gd i j)) (hf : ∀ x y d, f x y = some d → ∃ i j, x = .int i ∧ y = .int j ∧ C i j ∧ d = gd i j) : OpC X.K X.mg f (rI C g) :=
  oc_atom fun ρ H v u x y d Q hv hu e k => by
    obtain ⟨i, j, rfl, rfl, hc, rfl⟩ := hf x y d e
    cases hv; cases hu
    exact ⟨i, j, rfl, rfl, hc, k _ (hg ρ H i j)⟩
theorem oc_int0 {f : D → D → Option D} {g : Int → Int → V} {gd : Int → Int → D} (hg : ∀ ρ H i j, IsV X.K X.mg ρ H (g i j) (gd i j)) (hf : ∀ x y d, f x y = some d → ∃ i j, x = .int i ∧ y = .int j ∧ d = gd i j) : OpC X.K X.mg f (rI0 g) :=
  oc_atom fun ρ H v u x y d Q hv hu e k => by
    obtain ⟨i, j, rfl, rfl, rfl⟩ := hf x y d e
    cases hv; cases hu
    exact ⟨i, j, rfl, rfl, k _ (hg ρ H i j)⟩
theorem oc_sub : OpC X.K X.mg subP (rI0 fun i j => .int (i - j)) := oc_int0 (gd := fun i j => .int (i - j)) (fun _ _ _ _ => .int) fun x y d e => by
  cases x <;> cases y <;> first | (cases e; exact ⟨_, _, rfl, rfl, rfl⟩) | cases e
theorem oc_mul : OpC X.K X.mg mulP (rI CMulW fun i j => .int (i * j)) := oc_int2 (gd := fun i j => .int (i * j)) (fun _ _ _ _ => .int) fun x y d e => by
  cases x <;> cases y <;> first | (simp only [mulP] at e; split at e; (rename_i h; cases e; exact ⟨_, _, rfl, rfl, h, rfl⟩); cases e) | cases e
theorem oc_div : OpC X.K X.mg divP (rI CDivW fun i j => .int (i / j)) := oc_int2 (gd := fun i j => .int (i / j)) (fun _ _ _ _ => .int) fun x y d e => by
  cases x <;> cases y <;> first | (simp only [divP] at e; split at e; (rename_i h; cases e; exact ⟨_, _, rfl, rfl, h, rfl⟩); cases e) | cases e
theorem oc_mod : OpC X.K X.mg modP (rI (fun _ j => 0 < j) fun i j => .int (i % j)) := oc_int2 (gd := fun i j => .int (i % j)) (fun _ _ _ _ => .int) fun x y d e => by
  cases x <;> cases y <;> first | (simp only [modP] at e; split at e; (rename_i h; cases e; exact ⟨_, _, rfl, rfl, h, rfl⟩); cases e) | cases e
theorem op_pow2 {X : Cx} : OpR X (binaryOp .Pow) (rI CPow2 fun i j => .int (i ^ j.toNat)) := opI fun i j _ _ _ _ _ hc q => by
  exact pow_int hc.1 hc.2 q
theorem oc_pow : OpC X.K X.mg powP (rI CPow2 fun i j => .int (i ^ j.toNat)) := oc_int2 (gd := fun i j => .int (i ^ j.toNat)) (fun _ _ _ _ => .int) fun x y d e => by
  cases x <;> cases y <;> first | (simp only [powP] at e; split at e; (rename_i h; cases e; exact ⟨_, _, rfl, rfl, h, rfl⟩); cases e) | cases e
theorem oc_cmp {p : Int → Int → Bool} : OpC X.K X.mg (cmpP p) (rI0 fun i j => .bl (p i j)) := oc_int0 (gd := fun i j => .bl (p i j)) (fun _ _ _ _ => .bl) fun x y d e => by
  cases x <;> cases y <;> first | (cases e; exact ⟨_, _, rfl, rfl, rfl⟩) | cases e
theorem oc_isN : OpC X.K X.mg isNP (fun x y H Q => y = .non ∧ Q (.bl (decide (x = .non))) H) := oc_atom fun ρ H v u x y d Q hv hu e k => by
  cases y with
  | non =>
    cases hu
    refine ⟨rfl, k _ ?_⟩
    cases hv <;> (cases e; first | exact .bl | (rw [decide_eq_false (by intro h; cases h)]; exact .bl))
  | _ => cases x <;> cases e
theorem oc_notN : OpC X.K X.mg notNP (fun x y H Q => y = .non ∧ Q (.bl (!decide (x = .non))) H) := oc_atom fun ρ H v u x y d Q hv hu e k => by
  cases y with
  | non =>
    cases hu
    refine ⟨rfl, k _ ?_⟩
    cases hv <;> (cases e; first | exact .bl | (rw [decide_eq_false (by intro h; cases h)]; exact .bl))
  | _ => cases x <;> cases e
abbrev rEqA (K : PySem.W.Frag) : R2 := fun x y H Q => rEq x y H Q ∨ rEqD K x y H Q
abbrev rNeA (K : PySem.W.Frag) : R2 := fun x y H Q => rNe x y H Q ∨ rNeD K x y H Q
theorem op_eqA (hu : X.A.units + 64 < cLine) : OpR X (compareOp .Eq) (rEqA X.K) := op_eq.or (op_eqD hu)
theorem op_neA (hu : X.A.units + 64 < cLine) : OpR X (compareOp .NotEq) (rNeA X.K) := op_ne.or (op_neD hu)
/-- what eqB says -/
theorem eqB_of {K : PySem.W.Frag} {mg : Str → Option Value} {ρ : Rr} {H : Hp} {v u : V} {x y : D} {b : Bool} (hv : IsV K mg ρ H v x) (hu : IsV K mg ρ H u y) (e : eqB x y = some b) :
    (scal v u = true ∧ decide (v = u) = b) ∨ ∃ d e', Dp K H v d ∧ Dp K H u e' ∧ SeqAt.shaped d = true ∧ SeqAt.shaped e' = true ∧ PyData.eqv d e' = b := by
  have deep : (match toP x, toP y with | some d, some e => if SeqAt.shaped d = true ∧ SeqAt.shaped e = true then some (PyData.eqv d e) else none | _, _ => none) = some b → ∃ d e', Dp K H v d ∧ Dp K H u e' ∧ SeqAt.shaped d = true ∧ SeqAt.shaped e' = true ∧ PyData.eqv d e' = b := by
    intro e
    cases q1 : toP x with
    | none => rw [q1] at e; simp at e
    | some d =>
      cases q2 : toP y with
      | none => rw [q1, q2] at e; simp at e
      | some d' =>
        rw [q1, q2] at e
        simp only at e
        split at e
        · rename_i h
          exact ⟨d, d', hv.dp q1, hu.dp q2, h.1, h.2, Option.some.inj e⟩
        · cases e
  unfold eqB at e
  split at e
  · cases hv; cases hu; cases e; exact .inl ⟨rfl, by simp⟩
  · cases hv; cases hu; cases e; exact .inl ⟨rfl, by simp⟩
  · cases hv; cases hu; cases e; exact .inl ⟨rfl, by simp⟩
  · cases hv; cases hu; cases e; exact .inl ⟨rfl, rfl⟩
  · exact .inr (deep e)
theorem oc_eq : OpC X.K X.mg eqP (rEqA X.K) := oc_atom fun ρ H v u x y d Q hv hu e k => by
  unfold eqP at e
  cases q : eqB x y with
  | none => rw [q] at e; cases e
  | some b =>
    rw [q] at e
    cases e
    rcases eqB_of hv hu q with ⟨h1, h2⟩ | ⟨d, e', h1, h2, h3, h4, h5⟩
    · exact .inl ⟨h1, by rw [h2]; exact k _ .bl⟩
    · exact .inr ⟨d, e', h1, h2, h3, h4, by rw [h5]; exact k _ .bl⟩
theorem oc_ne : OpC X.K X.mg neP (rNeA X.K) := oc_atom fun ρ H v u x y d Q hv hu e k => by
  unfold neP at e
  cases q : eqB x y with
  | none => rw [q] at e; cases e
  | some b =>
    rw [q] at e
    cases e
    rcases eqB_of hv hu q with ⟨h1, h2⟩ | ⟨d, e', h1, h2, h3, h4, h5⟩
    · exact .inl ⟨h1, by rw [h2]; exact k _ .bl⟩
    · exact .inr ⟨d, e', h1, h2, h3, h4, by rw [h5]; exact k _ .bl⟩
theorem flV_of {K : PySem.W.Frag} {mg : Str → Option Value} {ρ : Rr} {H : Hp} {v w : V} {x : D} (hv : IsV K mg ρ H v x) (e : flV x = some w) : v = w ∧ flatV v = true := by
  cases hv <;> first | (cases e; exact ⟨rfl, rfl⟩) | cases e
theorem flVs_of {K : PySem.W.Frag} {mg : Str → Option Value} {ρ : Rr} {H : Hp} : ∀ {vs ws : List V} {xs : List D}, IsVs K mg ρ H vs xs → flVs xs = some ws → vs = ws ∧ vs.all flatV = true
  | _, _, _, .nil, e => by cases e; exact ⟨rfl, rfl⟩
  | _, ws, x :: xs, .cons h t, e => by
    simp only [flVs] at e
    cases q1 : flV x with
    | none => rw [q1] at e; simp at e
    | some w =>
      cases q2 : flVs xs with
      | none => rw [q1, q2] at e; simp at e
      | some ws' =>
        rw [q1, q2] at e
        cases e
        obtain ⟨rfl, f1⟩ := flV_of h q1
        obtain ⟨rfl, f2⟩ := flVs_of t q2
        exact ⟨rfl, by rw [List.all_cons, f1, f2]; rfl⟩
abbrev rInA (K : PySem.W.Frag) : R2 := fun x y H Q => rInS x y H Q ∨ rIn K false x y H Q ∨ rInD K x y H Q
abbrev rNotInA (K : PySem.W.Frag) : R2 := fun x y H Q => rNotInS x y H Q ∨ rIn K true x y H Q ∨ rNotInD K x y H Q
theorem op_inA (hu : X.A.units + 65 < cLine) : OpR X (compareOp .In) (rInA X.K) := op_inS.or (op_in_seq.or (op_inD hu))
theorem op_notInA (hu : X.A.units + 65 < cLine) : OpR X (compareOp .NotIn) (rNotInA X.K) := op_notInS.or (op_notIn_seq.or (op_notInD hu))
theorem inB_of {K : PySem.W.Frag} {mg : Str → Option Value} {ρ : Rr} {H : Hp} {v u : V} {x y : D} {b : Bool} (hv : IsV K mg ρ H v x) (hu : IsV K mg ρ H u y) (e : inB x y = some b) :
    (∃ (c : Nat) (z : Str), v = .str ⟨#[c]⟩ ∧ u = .str z ∧ decide (c ∈ z.cps.toList) = b) ∨ (∃ p xs, u = .ref p ∧ (SqL K H p xs ∨ SqT K H p xs) ∧ flatV v = true ∧ xs.all flatV = true ∧ inV v xs = b) ∨
    ∃ d ds, Dp K H v d ∧ Dp K H u (.list ds) ∧ SeqAt.shaped d = true ∧ SeqAt.shaped (.list ds) = true ∧ (ds.any fun z => PyData.eqv z d) = b := by
  have deep : ∀ (ds : List D), toP y = (toPs ds).map PyData.list → (match toP x, toPs ds with | some d, some es => if SeqAt.shaped d = true ∧ SeqAt.shaped (.list es) = true then some (es.any fun z => PyData.eqv z d) else none | _, _ => none) = some b →
      ∃ d ds, Dp K H v d ∧ Dp K H u (.list ds) ∧ SeqAt.shaped d = true ∧ SeqAt.shaped (.list ds) = true ∧ (ds.any fun z => PyData.eqv z d) = b := by
    intro ds hy e
    cases q1 : toP x with
    | none => rw [q1] at e; simp at e
    | some d =>
      cases q2 : toPs ds with
      | none => rw [q1, q2] at e; simp at e
      | some es =>
        rw [q1, q2] at e
        simp only at e
        split at e
        · rename_i h
          rw [q2] at hy
          exact ⟨d, es, hv.dp q1, hu.dp hy, h.1, h.2, Option.some.inj e⟩
        · cases e
  unfold inB at e
  split at e
  · rename_i a z
    split at e
    · rename_i c hc
      cases hv; cases hu; cases e
      refine .inl ⟨c, z, ?_, rfl, rfl⟩
      have : a = ⟨#[c]⟩ := Str.ext' (Array.toList_inj.mp (by simpa using hc))
      rw [this]
    · cases e
  · rename_i ds
    cases q1 : flV x with
    | none => rw [q1] at e; simp at e
    | some w =>
      cases q2 : flVs ds with
      | none => rw [q1, q2] at e; simp at e
      | some ws =>
        rw [q1, q2] at e
        cases e
        cases hu with
        | tup h hs =>
          obtain ⟨rfl, f1⟩ := flV_of hv q1
          obtain ⟨rfl, f2⟩ := flVs_of hs q2
          exact .inr (.inl ⟨_, _, rfl, .inr h.sq, f1, f2, rfl⟩)
  · exact .inr (.inr (deep _ (by simp only [toP]) e))
  · exact .inr (.inr (deep _ (by simp only [toP]) e))
  · cases e
theorem oc_in : OpC X.K X.mg inP (rInA X.K) := oc_atom fun ρ H v u x y d Q hv hu e k => by
  unfold inP at e
  cases q : inB x y with
  | none => rw [q] at e; cases e
  | some b =>
    rw [q] at e
    cases e
    rcases inB_of hv hu q with ⟨c, z, h1, h2, h3⟩ | ⟨p, xs, h1, h2, h3, h4, h5⟩ | ⟨d, ds, h1, h2, h3, h4, h5⟩
    · exact .inl ⟨c, z, h1, h2, by rw [h3]; exact k _ .bl⟩
    · exact .inr (.inl ⟨p, xs, h1, h2, h3, h4, by rw [h5]; exact k _ .bl⟩)
    · exact .inr (.inr ⟨d, ds, h1, h2, h3, h4, by rw [h5]; exact k _ .bl⟩)
theorem oc_notIn : OpC X.K X.mg notInP (rNotInA X.K) := oc_atom fun ρ H v u x y d Q hv hu e k => by
  unfold notInP at e
  cases q : inB x y with
  | none => rw [q] at e; cases e
  | some b =>
    rw [q] at e
    cases e
    rcases inB_of hv hu q with ⟨c, z, h1, h2, h3⟩ | ⟨p, xs, h1, h2, h3, h4, h5⟩ | ⟨d, ds, h1, h2, h3, h4, h5⟩
    · exact .inl ⟨c, z, h1, h2, by rw [h3]; exact k _ .bl⟩
    · exact .inr (.inl ⟨p, xs, h1, h2, h3, h4, by rw [h5]; exact k _ .bl⟩)
    · exact .inr (.inr ⟨d, ds, h1, h2, h3, h4, by rw [h5]; exact k _ .bl⟩)
end
end FL

set_option Elab.async false
set_option linter.all false
set_option maxRecDepth 100000
set_option maxHeartbeats 4000000
namespace FL
open PySem PySem.Spec PyProof.Rows L2
/-! ### subscripts -/
def op2s (f : D → D → Sto → Option D) (ma mb : M) : M := fun τ s => (ma τ s).bind fun x s => (mb τ s).bind fun y s => R.of (f x y s) s
def OpCS (K : PySem.W.Frag) (mg : Str → Option Value) (f : D → D → Sto → Option D) (r : R2) : Prop :=
  ∀ (ρ : Rr) (H : Hp) (s : Sto) (v u : V) (x y d : D) (Q : VK), Rep K mg ρ H s → IsV K mg ρ H v x → IsV K mg ρ H u y → f x y s = some d →
    (∀ H' w, Le ρ H ρ H' → Rep K mg ρ H' s → IsV K mg ρ H' w d → Q w H') → r v u H Q
/-- the items of a list, a tuple -/
def itemsS (x : D) (s : Sto) : Option (List D) := match x with
  | .tup ds => some ds
  | .fls ds => some ds
  | .wls ds => some ds
  | .obj i => match s[i]? with
    | some (.lst ds) => some ds
    | _ => none
  | _ => none
def ixS (x y : D) (s : Sto) : Option D := match y with
  | .int i => (match x with
    | .str z => if z.length ≤ sizeLine then (atI z.cps.toList i).map fun c => .str ⟨#[c]⟩ else none
    | x => (itemsS x s).bind fun ds => atI ds i)
  | _ => none
section
variable {X : Cx} {W : WX} {pos : Pos}
theorem itemsS_of {K : PySem.W.Frag} {mg : Str → Option Value} {ρ : Rr} {H : Hp} {s : Sto} {v : V} {x : D} {ds : List D} (rp : Rep K mg ρ H s) (hv : IsV K mg ρ H v x) (e : itemsS x s = some ds) :
    ∃ a xs, v = .ref a ∧ (SqL K H a xs ∨ SqT K H a xs) ∧ IsVs K mg ρ H xs ds := by
  cases hv with
  | tup h hs => cases e; exact ⟨_, _, rfl, .inr h.sq, hs⟩
  | fls h n hs => cases e; exact ⟨_, _, rfl, .inl (.of h), hs⟩
  | wls h hs => cases e; exact ⟨_, _, rfl, .inl h.sq, hs⟩
  | @obj a i h =>
    have e' : (match s[i]? with
      | some (.lst ds) => some ds
      | _ => none) = some ds := e
    cases q : s[i]? with
    | none => rw [q] at e'; cases e'
    | some o =>
      rw [q] at e'
      cases o with
      | lst ds' =>
        cases e'
        obtain ⟨xs, h1, h2⟩ := rp.at_ i a _ h q
        exact ⟨_, _, rfl, .inl (.of h1), h2⟩
      | ins C fs => cases e'
  | _ => cases e
theorem ixN_len {α β : Type} {xs : List α} {ys : List β} (h : xs.length = ys.length) {i : Int} : ixN xs.length i = ixN ys.length i := by rw [h]
theorem IsVs.atI {K : PySem.W.Frag} {mg : Str → Option Value} {ρ : Rr} {H : Hp} {vs : List V} {ds : List D} {i : Int} {d : D} (h : IsVs K mg ρ H vs ds) (e : L2.atI ds i = some d) : ∃ v, L2.atI vs i = some v ∧ IsV K mg ρ H v d := by
  unfold L2.atI at e ⊢
  rw [h.length]
  cases q : ixN ds.length i with
  | none => rw [q] at e; cases e
  | some j =>
    rw [q] at e
    exact h.get e
theorem oc_ix : OpCS X.K X.mg ixS (rIx X.K) := by
  intro ρ H s v u x y d Q rp hv hu e k
  cases y with
  | int i =>
    cases hu
    have gen : ∀ ds, itemsS x s = some ds → L2.atI ds i = some d → rIx X.K v (.int i) H Q := by
      intro ds h1 h2
      obtain ⟨a, xs, rfl, h3, h4⟩ := itemsS_of rp hv h1
      obtain ⟨w, h5, h6⟩ := h4.atI h2
      rcases h3 with h3 | h3
      · exact .inl ⟨a, xs, i, w, rfl, rfl, h3, h5, k H w .refl rp h6⟩
      · exact .inr (.inl ⟨a, xs, i, w, rfl, rfl, h3, h5, k H w .refl rp h6⟩)
    have gen2 : (itemsS x s).bind (fun ds => L2.atI ds i) = some d → rIx X.K v (.int i) H Q := by
      intro h
      cases q : itemsS x s with
      | none => rw [q] at h; cases h
      | some ds => rw [q] at h; exact gen ds q h
    cases x with
    | str z =>
      cases hv
      have e' : (if z.length ≤ sizeLine then (L2.atI z.cps.toList i).map fun c => D.str ⟨#[c]⟩ else none) = some d := e
      split at e'
      · rename_i hz
        cases q : L2.atI z.cps.toList i with
        | none => rw [q] at e'; cases e'
        | some c =>
          rw [q] at e'
          cases e'
          exact .inr (.inr ⟨z, i, c, rfl, rfl, hz, q, k H _ .refl rp .str⟩)
      · cases e'
    | _ => exact gen2 e
  | _ => cases e
theorem op2s_go {f : D → D → Sto → Option D} {r : R2} {ma mb : M} {σ : L2.St} {H : Hp} {Q : VK} (hf : OpCS X.K X.mg f r) (h : tM X.K X.mg W (op2s f ma mb) σ H Q) : tOp r (tM X.K X.mg W ma) (tM X.K X.mg W mb) σ H Q := by
  obtain ⟨ρ, τ, s, rp, e, h⟩ := h
  refine tM_go rp e (Post.bind h) fun ρ1 H1 x s1 v l1 r1 e1 hv h1 => ?_
  refine tM_go r1 e1 (Post.bind h1) fun ρ2 H2 y s2 u l2 r2 e2 hu h2 => ?_
  cases hq : f x y s2 with
  | none => rw [hq] at h2; exact h2.elim
  | some d =>
    rw [hq] at h2
    exact hf ρ2 H2 s2 v u x y d Q r2 (hv.mono l2) hu hq fun H' w l r' hw => h2 ρ2 H' l r' w hw
theorem pm_ix {a b : Expr} {ma mb : M} (ha : PM X W a ma) (hb : PM X W b mb) (hs : PlainIx b := by intro _ _; rfl) : PM X W (.Subscript a b pos) (op2s ixS ma mb) :=
  PE.imp (pe_ix ix_seq ha hb hs) fun _ _ _ h => op2s_go oc_ix h
/-! ### slices -/
def cutL {α : Type} (xs : List α) (lo hi : Option Int) : List α := (xs.drop (HT.sIx xs.length 0 lo)).take (HT.sIx xs.length xs.length hi - HT.sIx xs.length 0 lo)
abbrev MO := Env' → Sto → R (Option Int)
def noO : MO := fun _ s => .ok none s
def someO (m : M) : MO := fun τ s => (m τ s).bind fun x s => match x with
  | .int i => .ok (some i) s
  | _ => .bad
def slP (x : D) (lo hi : Option Int) : Option D := match x with
  | .tup ds => some (.tup (cutL ds lo hi))
  | .fls ds => some (.fls (cutL ds lo hi))
  | .wls ds => some (.fls (cutL ds lo hi))
  | .str z => if z.length ≤ sizeLine then some (.str (Txt.slice z lo hi)) else none
  | _ => none
def slM (m : M) (lo hi : MO) : M := fun τ s => (m τ s).bind fun x s => (lo τ s).bind fun l s => (hi τ s).bind fun h s => R.of (slP x l h) s
def tMO (K : PySem.W.Frag) (mg : Str → Option Value) (W : WX) (m : MO) : TO := fun σ H Q => ∃ ρ τ s, Rep K mg ρ H s ∧ Evs K mg ρ H σ τ ∧ Post K mg W ρ H σ (m τ s) (fun _ H' o _ => Q o H')
theorem PO.imp {e : Option Expr} {t t' : TO} (h : PO X e t) (k : ∀ σ H Q, t' σ H Q → t σ H Q) : PO X e t' := ⟨fun pins s σ H Q I q => h.run pins s σ H Q I (k σ H Q q)⟩
abbrev PMO (X : Cx) (W : WX) (e : Option Expr) (m : MO) : Prop := PO X e (tMO X.K X.mg W m)
theorem pmo_none : PMO X W none noO := PO.imp po_none fun σ H Q ⟨ρ, τ, s, rp, e, h⟩ => h ρ H .refl rp
theorem pmo_some {e : Expr} {m : M} (h : PM X W e m) : PMO X W (some e) (someO m) := PO.imp (po_some h) fun σ H Q ⟨ρ, τ, s, rp, e, h⟩ =>
  tM_go rp e (Post.bind h) fun ρ1 H1 x s1 v l1 r1 e1 hv h1 => by
    cases x with
    | int i => cases hv; exact ⟨i, rfl, h1 ρ1 H1 .refl r1⟩
    | _ => exact h1.elim
theorem IsVs.cut {K : PySem.W.Frag} {mg : Str → Option Value} {ρ : Rr} {H : Hp} {vs : List V} {ds : List D} {lo hi : Option Int} (h : IsVs K mg ρ H vs ds) : IsVs K mg ρ H (cutV vs lo hi) (cutL ds lo hi) := by
  unfold cutV cutL
  rw [h.length]
  exact (h.drop _).take _
theorem cutL_whole {α : Type} {xs : List α} {lo hi : Option Int} (h : HT.sIx xs.length 0 lo = 0 ∧ HT.sIx xs.length xs.length hi = xs.length) : cutL xs lo hi = xs := by
  unfold cutL
  rw [h.1, h.2, List.drop_zero, Nat.sub_zero, List.take_length]
abbrev rSl3 (K : PySem.W.Frag) : V → Option Int → Option Int → Hp → VK → Prop := fun x lo hi H Q => rSlA K x lo hi H Q ∨ rSlL K x lo hi H Q ∨ C8.rSlX x lo hi H Q
theorem pm_slice {e : Expr} {lo hi : Option Expr} {p2 : Pos} {m : M} {ml mh : MO} (he : PM X W e m) (hl : PMO X W lo ml) (hh : PMO X W hi mh) : PM X W (.Subscript e (.Slice lo hi none p2) pos) (slM m ml mh) :=
  PE.imp (pe_slice (r := rSl3 X.K) (sl_tupA.or (sl_list.or C8.sl_txt)) he hl hh) fun σ H Q ⟨ρ, τ, s, rp, e, h⟩ => by
    refine tM_go rp e (Post.bind h) fun ρ1 H1 x s1 v l1 r1 e1 hv h1 => ?_
    refine ⟨ρ1, τ, s1, r1, e1, (Post.bind h1).imp fun ρ2 H2 l s2 l2 r2 h2 => ?_⟩
    refine ⟨ρ2, τ, s2, r2, e1.mono l2, (Post.bind h2).imp fun ρ3 H3 u s3 l3 r3 h3 => ?_⟩
    have hv3 := hv.mono (l2.trans l3)
    cases x with
    | tup ds =>
      cases hv3 with
      | @tup a xs _ ht hs =>
        refine .inl ⟨a, xs, rfl, ht.sq, fun w => ?_, fun w p hp => ?_⟩
        · refine h3 ρ3 H3 .refl r3 _ ?_
          have w' : HT.sIx ds.length 0 l = 0 ∧ HT.sIx ds.length ds.length u = ds.length := by rw [← hs.length]; exact w
          rw [cutL_whole w']
          exact .tup ht hs
        · exact h3 ρ3 _ (.new hp) (r3.new hp) _ (.tup (.inl ⟨.inl upd_same, r3.fresh hp⟩) (hs.cut.mono (.new hp)))
    | fls ds =>
      cases hv3 with
      | @fls a xs _ ht n hs => exact .inr (.inl ⟨a, xs, rfl, .of ht, fun p hp => h3 ρ3 _ (.new hp) (r3.new hp) _ (.fls upd_same (r3.fresh hp) (hs.cut.mono (.new hp)))⟩)
    | wls ds =>
      cases hv3 with
      | @wls a xs _ ht hs => exact .inr (.inl ⟨a, xs, rfl, ht.sq, fun p hp => h3 ρ3 _ (.new hp) (r3.new hp) _ (.fls upd_same (r3.fresh hp) (hs.cut.mono (.new hp)))⟩)
    | str z =>
      cases hv3
      have h3' : Post X.K X.mg W ρ3 H3 σ (R.of (if z.length ≤ sizeLine then some (D.str (Txt.slice z l u)) else none) s3) (fun ρ' H' d _ => ∀ v, IsV X.K X.mg ρ' H' v d → Q v H') := h3
      split at h3'
      · rename_i hz
        exact .inr (.inr ⟨z, rfl, hz, h3' ρ3 H3 .refl r3 _ .str⟩)
      · exact h3'.elim
    | _ => exact h3.elim
/-! ### built-ins -/
def lenF (xs : List D) (s : Sto) : R D := match xs with
  | [.str z] => if z.length ≤ sizeLine then .ok (.int z.length) s else .bad
  | [x] => match itemsS x s with
    | some ds => .ok (.int ds.length) s
    | none => .bad
  | _ => .bad
theorem isVs1 {K : PySem.W.Frag} {mg : Str → Option Value} {ρ : Rr} {H : Hp} {vs : List V} {x : D} (h : IsVs K mg ρ H vs [x]) : ∃ v, vs = [v] ∧ IsV K mg ρ H v x := by
  cases h with
  | cons h t => cases t; exact ⟨_, rfl, h⟩
theorem isVs2 {K : PySem.W.Frag} {mg : Str → Option Value} {ρ : Rr} {H : Hp} {vs : List V} {x y : D} (h : IsVs K mg ρ H vs [x, y]) : ∃ v u, vs = [v, u] ∧ IsV K mg ρ H v x ∧ IsV K mg ρ H u y := by
  cases h with
  | cons h t => obtain ⟨u, rfl, h2⟩ := isVs1 t; exact ⟨_, _, rfl, h, h2⟩
abbrev rLen2 (K : PySem.W.Frag) : List V → Hp → VK → Prop := fun xs H Q => ∃ x n, xs = [x] ∧ LenV K x H n ∧ Q (.int n) H
theorem cc_len : CallC X.K X.mg lenF (rLen2 X.K) := by
  intro W σ ρ H s vs xs Q rp hv h
  unfold lenF at h
  split at h
  · rename_i z
    obtain ⟨v, ev, hw⟩ := isVs1 hv
    subst ev
    cases hw
    split at h
    · rename_i hz
      exact ⟨.str z, z.length, rfl, ⟨hz, rfl⟩, h ρ H .refl rp _ .int⟩
    · exact h.elim
  · rename_i x _
    obtain ⟨v, ev, hw⟩ := isVs1 hv
    subst ev
    cases q : itemsS x s with
    | none => rw [q] at h; exact h.elim
    | some ds =>
      rw [q] at h
      obtain ⟨a, ys, rfl, h1, h2⟩ := itemsS_of rp hw q
      refine ⟨.ref a, ds.length, rfl, ?_, h ρ H .refl rp _ .int⟩
      rcases h1 with h1 | h1
      · exact .inl ⟨ys, h1, h2.length.symm⟩
      · exact .inr ⟨ys, h1, h2.length.symm⟩
  · exact h.elim
def absF (xs : List D) (s : Sto) : R D := match xs with
  | [.int i] => .ok (.int (if i < 0 then -i else i)) s
  | _ => .bad
def minF (xs : List D) (s : Sto) : R D := match xs with
  | [.int i, .int j] => .ok (.int (if j < i then j else i)) s
  | _ => .bad
def maxF (xs : List D) (s : Sto) : R D := match xs with
  | [.int i, .int j] => .ok (.int (if j > i then j else i)) s
  | _ => .bad
def intF (xs : List D) (s : Sto) : R D := match xs with
  | [.int i] => .ok (.int i) s
  | [.bl b] => .ok (.int (if b then 1 else 0)) s
  | [.str a] => match PySem.intText? a with
    | some n => if a.length ≤ 640 then .ok (.int n) s else .bad
    | none => .bad
  | _ => .bad
def strF (xs : List D) (s : Sto) : R D := match xs with
  | [.int i] => if i.natAbs.log2 < 1920 then .ok (.str (toString i)) s else .bad
  | [.str a] => .ok (.str a) s
  | _ => .bad
def tupleF (xs : List D) (s : Sto) : R D := match xs with
  | [x] => match itemsS x s with
    | some ds => .ok (.tup ds) s
    | none => .bad
  | _ => .bad
/-- list(x), never changed behind; .. that may change -/
def listF (xs : List D) (s : Sto) : R D := match xs with
  | [x] => match itemsS x s with
    | some ds => .ok (.fls ds) s
    | none => .bad
  | _ => .bad
def asInts : List D → Option (List Int)
  | [] => some []
  | .int i :: ds => (asInts ds).map (i :: ·)
  | _ => none
def asBls : List D → Option (List Bool)
  | [] => some []
  | .bl i :: ds => (asBls ds).map (i :: ·)
  | _ => none
def sumF (xs : List D) (s : Sto) : R D := match xs with
  | [.fls ds] => R.of ((asInts ds).map fun ns => .int ns.sum) s
  | [.obj i] => (match s[i]? with
    | some (.lst ds) => R.of ((asInts ds).map fun ns => .int ns.sum) s
    | _ => .bad)
  | _ => .bad
def allF (xs : List D) (s : Sto) : R D := match xs with
  | [.fls ds] => R.of ((asBls ds).map fun ns => .bl (ns.all id)) s
  | _ => .bad
def anyF (xs : List D) (s : Sto) : R D := match xs with
  | [.fls ds] => R.of ((asBls ds).map fun ns => .bl (ns.any id)) s
  | _ => .bad
theorem asInts_of {K : PySem.W.Frag} {mg : Str → Option Value} {ρ : Rr} {H : Hp} : ∀ {vs : List V} {ds : List D} {ns : List Int}, IsVs K mg ρ H vs ds → asInts ds = some ns → vs = ns.map V.int
  | _, _, _, .nil, e => by cases e; rfl
  | _, _, ns, .cons (d := d) (ds := ds) h t, e => by
    cases d with
    | int i =>
      cases h
      simp only [asInts] at e
      cases q : asInts ds with
      | none => rw [q] at e; cases e
      | some ms =>
        rw [q] at e
        cases e
        rw [asInts_of t q]; rfl
    | _ => cases e
theorem asBls_of {K : PySem.W.Frag} {mg : Str → Option Value} {ρ : Rr} {H : Hp} : ∀ {vs : List V} {ds : List D} {ns : List Bool}, IsVs K mg ρ H vs ds → asBls ds = some ns → vs = ns.map V.bl
  | _, _, _, .nil, e => by cases e; rfl
  | _, _, ns, .cons (d := d) (ds := ds) h t, e => by
    cases d with
    | bl i =>
      cases h
      simp only [asBls] at e
      cases q : asBls ds with
      | none => rw [q] at e; cases e
      | some ms =>
        rw [q] at e
        cases e
        rw [asBls_of t q]; rfl
    | _ => cases e
theorem cc_abs : CallC X.K X.mg absF (fun xs H Q => ∃ i, xs = [.int i] ∧ Q (.int (if i < 0 then -i else i)) H) := by
  intro W σ ρ H s vs xs Q rp hv h
  unfold absF at h
  split at h
  · rename_i i
    obtain ⟨v, ev, hw⟩ := isVs1 hv
    subst ev
    cases hw
    exact ⟨i, rfl, h ρ H .refl rp _ .int⟩
  · exact h.elim
theorem cc_min : CallC X.K X.mg minF (fun xs H Q => ∃ i j, xs = [.int i, .int j] ∧ Q (.int (if j < i then j else i)) H) := by
  intro W σ ρ H s vs xs Q rp hv h
  unfold minF at h
  split at h
  · rename_i i j
    obtain ⟨v, u, ev, hw, hu⟩ := isVs2 hv
    subst ev
    cases hw; cases hu
    exact ⟨i, j, rfl, h ρ H .refl rp _ .int⟩
  · exact h.elim
theorem cc_max : CallC X.K X.mg maxF (fun xs H Q => ∃ i j, xs = [.int i, .int j] ∧ Q (.int (if j > i then j else i)) H) := by
  intro W σ ρ H s vs xs Q rp hv h
  unfold maxF at h
  split at h
  · rename_i i j
    obtain ⟨v, u, ev, hw, hu⟩ := isVs2 hv
    subst ev
    cases hw; cases hu
    exact ⟨i, j, rfl, h ρ H .refl rp _ .int⟩
  · exact h.elim
theorem CallR.or {f : Value} {r r' : List V → Hp → VK → Prop} (h : CallR X f r) (h' : CallR X f r') : CallR X f (fun xs H Q => r xs H Q ∨ r' xs H Q) := by
  intro pins s σ H xs us Q I rs q
  rcases q with q | q
  · exact h pins s σ H xs us Q I rs q
  · exact h' pins s σ H xs us Q I rs q
abbrev rInt3 : List V → Hp → VK → Prop := fun xs H Q => ((∃ i, xs = [.int i] ∧ Q (.int i) H) ∨ ∃ k, xs = [.bl k] ∧ Q (.int (if k then 1 else 0)) H) ∨ ∃ a n, xs = [.str a] ∧ PySem.intText? a = some n ∧ a.length ≤ 640 ∧ Q (.int n) H
theorem call_int3 : CallR X (.type "int") rInt3 := CallR.or call_int1 call_int_str
theorem cc_int : CallC X.K X.mg intF rInt3 := by
  intro W σ ρ H s vs xs Q rp hv h
  unfold intF at h
  split at h
  · rename_i i
    obtain ⟨v, ev, hw⟩ := isVs1 hv
    subst ev
    cases hw
    exact .inl (.inl ⟨i, rfl, h ρ H .refl rp _ .int⟩)
  · rename_i i
    obtain ⟨v, ev, hw⟩ := isVs1 hv
    subst ev
    cases hw
    exact .inl (.inr ⟨i, rfl, h ρ H .refl rp _ .int⟩)
  · rename_i a
    obtain ⟨v, ev, hw⟩ := isVs1 hv
    subst ev
    cases hw
    cases q : PySem.intText? a with
    | none => rw [q] at h; exact h.elim
    | some n =>
      rw [q] at h
      simp only at h
      split at h
      · rename_i hl
        exact .inr ⟨a, n, rfl, q, hl, h ρ H .refl rp _ .int⟩
      · exact h.elim
  · exact h.elim
abbrev rStr2 : List V → Hp → VK → Prop := fun xs H Q => (∃ i, xs = [.int i] ∧ i.natAbs.log2 < 1920 ∧ Q (.str (toString i)) H) ∨ ∃ a, xs = [.str a] ∧ Q (.str a) H
theorem call_str2 : CallR X (.type "str") rStr2 := CallR.or call_str_int SkE.call_str_str
theorem cc_str : CallC X.K X.mg strF rStr2 := by
  intro W σ ρ H s vs xs Q rp hv h
  unfold strF at h
  split at h
  · rename_i i
    obtain ⟨v, ev, hw⟩ := isVs1 hv
    subst ev
    cases hw
    split at h
    · rename_i hl
      exact .inl ⟨i, rfl, hl, h ρ H .refl rp _ .str⟩
    · exact h.elim
  · rename_i a
    obtain ⟨v, ev, hw⟩ := isVs1 hv
    subst ev
    cases hw
    exact .inr ⟨a, rfl, h ρ H .refl rp _ .str⟩
  · exact h.elim
theorem cc_tuple : CallC X.K X.mg tupleF (fun xs H Q => ∃ p ys, xs = [.ref p] ∧ ((SqL X.K H p ys ∧ ∀ l, H l = none → Q (.ref l) (upd H l (.tup ys))) ∨ (SqT X.K H p ys ∧ Q (.ref p) H))) := by
  intro W σ ρ H s vs xs Q rp hv h
  unfold tupleF at h
  split at h
  · rename_i x
    obtain ⟨v, ev, hw⟩ := isVs1 hv
    subst ev
    cases q : itemsS x s with
    | none => rw [q] at h; exact h.elim
    | some ds =>
      rw [q] at h
      cases hw with
      | tup ht hs => cases q; exact ⟨_, _, rfl, .inr ⟨ht.sq, h ρ H .refl rp _ (.tup ht hs)⟩⟩
      | fls h1 n hs => cases q; exact ⟨_, _, rfl, .inl ⟨.of h1, fun l hl => h ρ _ (.new hl) (rp.new hl) _ (.tup (.inl ⟨.inl upd_same, rp.fresh hl⟩) (hs.mono (.new hl)))⟩⟩
      | wls h1 hs => cases q; exact ⟨_, _, rfl, .inl ⟨h1.sq, fun l hl => h ρ _ (.new hl) (rp.new hl) _ (.tup (.inl ⟨.inl upd_same, rp.fresh hl⟩) (hs.mono (.new hl)))⟩⟩
      | @obj a i ha =>
        have q' : (match s[i]? with
          | some (.lst ds) => some ds
          | _ => none) = some ds := q
        cases qq : s[i]? with
        | none => rw [qq] at q'; cases q'
        | some o =>
          rw [qq] at q'
          cases o with
          | ins C fs => cases q'
          | lst ds' =>
            cases q'
            obtain ⟨ys, h1, hs⟩ := rp.at_ i a _ ha qq
            exact ⟨_, _, rfl, .inl ⟨.of h1, fun l hl => h ρ _ (.new hl) (rp.new hl) _ (.tup (.inl ⟨.inl upd_same, rp.fresh hl⟩) (hs.mono (.new hl)))⟩⟩
      | _ => cases q
  · exact h.elim
theorem cc_list : CallC X.K X.mg listF (fun xs H Q => ∃ p ys, xs = [.ref p] ∧ (SqL X.K H p ys ∨ SqT X.K H p ys) ∧ ∀ l, H l = none → Q (.ref l) (upd H l (.lst ys))) := by
  intro W σ ρ H s vs xs Q rp hv h
  unfold listF at h
  split at h
  · rename_i x
    obtain ⟨v, ev, hw⟩ := isVs1 hv
    subst ev
    cases q : itemsS x s with
    | none => rw [q] at h; exact h.elim
    | some ds =>
      rw [q] at h
      obtain ⟨a, ys, rfl, h1, hs⟩ := itemsS_of rp hw q
      exact ⟨_, _, rfl, h1, fun l hl => h ρ _ (.new hl) (rp.new hl) _ (.fls upd_same (rp.fresh hl) (hs.mono (.new hl)))⟩
  · exact h.elim
theorem cc_sum : CallC X.K X.mg sumF (rSum X.K) := by
  intro W σ ρ H s vs xs Q rp hv h
  unfold sumF at h
  split at h
  · rename_i ds
    obtain ⟨v, ev, hw⟩ := isVs1 hv
    subst ev
    cases q : asInts ds with
    | none => rw [q] at h; exact h.elim
    | some ns =>
      rw [q] at h
      cases hw with
      | fls h1 n hs =>
        have e := asInts_of hs q
        subst e
        exact ⟨_, ns, rfl, .of h1, h ρ H .refl rp _ .int⟩
  · rename_i i
    obtain ⟨v, ev, hw⟩ := isVs1 hv
    subst ev
    cases hw with
    | @obj a i ha =>
      cases q0 : s[i]? with
      | none => rw [q0] at h; exact h.elim
      | some o =>
        rw [q0] at h
        cases o with
        | ins C fs => exact h.elim
        | lst ds =>
          have h' : Post X.K X.mg W ρ H σ (R.of ((asInts ds).map fun ns => D.int ns.sum) s) (fun ρ' H' d _ => ∀ v, IsV X.K X.mg ρ' H' v d → Q v H') := h
          cases q : asInts ds with
          | none => rw [q] at h'; exact h'.elim
          | some ns =>
            rw [q] at h'
            obtain ⟨ys, e1, e2⟩ := rp.at_ i a _ ha q0
            have e := asInts_of e2 q
            subst e
            exact ⟨_, ns, rfl, .of e1, h' ρ H .refl rp _ .int⟩
  · exact h.elim
theorem cc_all : CallC X.K X.mg allF (rAll X.K) := by
  intro W σ ρ H s vs xs Q rp hv h
  unfold allF at h
  split at h
  · rename_i ds
    obtain ⟨v, ev, hw⟩ := isVs1 hv
    subst ev
    cases q : asBls ds with
    | none => rw [q] at h; exact h.elim
    | some ns =>
      rw [q] at h
      cases hw with
      | fls h1 n hs =>
        have e := asBls_of hs q
        subst e
        exact ⟨_, ns, rfl, .of h1, h ρ H .refl rp _ .bl⟩
  · exact h.elim
theorem cc_any : CallC X.K X.mg anyF (rAny X.K) := by
  intro W σ ρ H s vs xs Q rp hv h
  unfold anyF at h
  split at h
  · rename_i ds
    obtain ⟨v, ev, hw⟩ := isVs1 hv
    subst ev
    cases q : asBls ds with
    | none => rw [q] at h; exact h.elim
    | some ns =>
      rw [q] at h
      cases hw with
      | fls h1 n hs =>
        have e := asBls_of hs q
        subst e
        exact ⟨_, ns, rfl, .of h1, h ρ H .refl rp _ .bl⟩
  · exact h.elim
end
end FL

set_option Elab.async false
set_option linter.all false
set_option maxRecDepth 100000
set_option maxHeartbeats 4000000
namespace FL
open PySem PySem.Spec PyProof.Rows L2
/-! ### statements -/
inductive RS where
  | nx (τ : Env') (s : Sto)
  | bk (τ : Env') (s : Sto)
  | ct (τ : Env') (s : Sto)
  | rt (d : D) (s : Sto)
  | exc (C : Str) (fs : List (Str × D)) (τ : Env') (s : Sto)
  | bad
abbrev MS := Env' → Sto → RS
def R.toS {α : Type} (τ : Env') (k : α → Sto → RS) : R α → RS
  | .ok a s => k a s
  | .exc C fs s => .exc C fs τ s
  | .bad => .bad
def PostS (K : PySem.W.Frag) (mg : Str → Option Value) (W : WX) (ρ : Rr) (H : Hp) (r : RS) (D' : Ends) : Prop := match r with
  | .nx τ s => ∀ ρ' H' σ', Le ρ H ρ' H' → Rep K mg ρ' H' s → Evs K mg ρ' H' σ' τ → D'.nx σ' H'
  | .bk τ s => ∀ ρ' H' σ', Le ρ H ρ' H' → Rep K mg ρ' H' s → Evs K mg ρ' H' σ' τ → D'.bk σ' H'
  | .ct τ s => ∀ ρ' H' σ', Le ρ H ρ' H' → Rep K mg ρ' H' s → Evs K mg ρ' H' σ' τ → D'.ct σ' H'
  | .rt d s => ∀ ρ' H' v, Le ρ H ρ' H' → Rep K mg ρ' H' s → IsV K mg ρ' H' v d → D'.rt v H'
  | .exc C fs τ s => ∀ ρ' H' σ' ca dd gs, Le ρ H ρ' H' → Rep K mg ρ' H' s → Evs K mg ρ' H' σ' τ → mg C = some (.ref ca) → H' dd = some (.xd gs) → IsFs K mg ρ' H' gs fs → W (.ref ca) (some dd) σ' H'
  | .bad => False
section
variable {K : PySem.W.Frag} {mg : Str → Option Value} {W : WX} {ρ ρ1 : Rr} {H H1 : Hp} {σ : L2.St} {τ : Env'} {s : List O} {D' D'' : Ends}
theorem PostS.le {r : RS} (l : Le ρ H ρ1 H1) (h : PostS K mg W ρ H r D') : PostS K mg W ρ1 H1 r D' := by
  cases r with
  | nx τ s => exact fun ρ' H' σ' m => h ρ' H' σ' (l.trans m)
  | bk τ s => exact fun ρ' H' σ' m => h ρ' H' σ' (l.trans m)
  | ct τ s => exact fun ρ' H' σ' m => h ρ' H' σ' (l.trans m)
  | rt d s => exact fun ρ' H' v m => h ρ' H' v (l.trans m)
  | exc C fs τ s => exact fun ρ' H' σ' ca dd gs m => h ρ' H' σ' ca dd gs (l.trans m)
  | bad => exact h
theorem PostS.expr {α : Type} {r : R α} {k : α → Sto → RS} (e : Evs K mg ρ H σ τ) (h : PostS K mg W ρ H (r.toS τ k) D') : Post K mg W ρ H σ r (fun ρ' H' a s' => PostS K mg W ρ' H' (k a s') D') := by
  cases r with
  | ok a s => exact fun ρ' H' m rp => PostS.le m h
  | exc C fs s => exact fun ρ' H' ca dd gs m rp => h ρ' H' σ ca dd gs m rp (e.mono m)
  | bad => exact h
/-- what follows a statement that goes on -/
def RS.seq (r : RS) (k : MS) : RS := match r with
  | .nx τ s => k τ s
  | r => r
theorem PostS.seq {r : RS} {k : MS} (h : PostS K mg W ρ H (r.seq k) D') :
    PostS K mg W ρ H r { D' with nx := fun σ' H' => ∃ ρ' τ' s', Rep K mg ρ' H' s' ∧ Evs K mg ρ' H' σ' τ' ∧ PostS K mg W ρ' H' (k τ' s') D' } := by
  cases r with
  | nx τ s => exact fun ρ' H' σ' m rp e => ⟨ρ', τ, s, rp, e, PostS.le m h⟩
  | bk τ s => exact h
  | ct τ s => exact h
  | rt d s => exact h
  | exc C fs τ s => exact h
  | bad => exact h
end
def tS (K : PySem.W.Frag) (mg : Str → Option Value) (W : WX) (m : MS) : TS := fun D' σ H => ∃ ρ τ s, Rep K mg ρ H s ∧ Evs K mg ρ H σ τ ∧ PostS K mg W ρ H (m τ s) D'
abbrev PMS (X : Cx) (W : WX) (st : Stmt) (m : MS) : Prop := PS X st (tS X.K X.mg W m)
abbrev PMSs (X : Cx) (W : WX) (st : List Stmt) (m : MS) : Prop := PSs X st (tS X.K X.mg W m)
def nilS : MS := fun τ s => .nx τ s
def seqS (m n : MS) : MS := fun τ s => (m τ s).seq n
def setM (i : Nat) (m : M) : MS := fun τ s => (m τ s).toS τ fun d s => .nx (τ.set i (some d)) s
def retM (m : M) : MS := fun τ s => (m τ s).toS τ fun d s => .rt d s
def retNM : MS := fun _ s => .rt .non s
def exprM (m : M) : MS := fun τ s => (m τ s).toS τ fun _ s => .nx τ s
def ifS (c : MB) (a b : MS) : MS := fun τ s => (c τ s).toS τ fun t s => if t = true then a τ s else b τ s
def breakS : MS := fun τ s => .bk τ s
def contS : MS := fun τ s => .ct τ s
section
variable {X : Cx} {W : WX} {pos : Pos}
theorem pms_nil : PMSs X W [] nilS := PSs.imp pss_nil fun D' σ H ⟨ρ, τ, s, rp, e, h⟩ => h ρ H σ .refl rp e
theorem pms_cons {st : Stmt} {rest : List Stmt} {m n : MS} (h1 : PMS X W st m) (h2 : PMSs X W rest n) : PMSs X W (st :: rest) (seqS m n) :=
  PSs.imp (pss_cons h1 h2) fun D' σ H ⟨ρ, τ, s, rp, e, h⟩ => ⟨ρ, τ, s, rp, e, PostS.seq h⟩
theorem pms_one {st : Stmt} {m : MS} (h1 : PMS X W st m) : PMSs X W [st] m := pss_one h1
theorem pms_pass : PMS X W (.Pass pos) nilS := PS.imp ps_pass fun D' σ H ⟨ρ, τ, s, rp, e, h⟩ => h ρ H σ .refl rp e
theorem pms_break : PMS X W (.Break pos) breakS := PS.imp ps_break fun D' σ H ⟨ρ, τ, s, rp, e, h⟩ => h ρ H σ .refl rp e
theorem pms_cont : PMS X W (.Continue pos) contS := PS.imp ps_continue fun D' σ H ⟨ρ, τ, s, rp, e, h⟩ => h ρ H σ .refl rp e
theorem pms_doc {x j p' } : PMS X W (.Expr (.Constant (.str x) j p') pos) nilS := PS.imp ps_doc fun D' σ H ⟨ρ, τ, s, rp, e, h⟩ => h ρ H σ .refl rp e
theorem pms_never {st : Stmt} : PMS X W st (fun _ _ => .bad) := PS.imp ps_never fun D' σ H ⟨ρ, τ, s, rp, e, h⟩ => h
theorem pms_nevers {st : List Stmt} : PMSs X W st (fun _ _ => .bad) := PSs.imp pss_never fun D' σ H ⟨ρ, τ, s, rp, e, h⟩ => h
theorem pms_set {i : Nat} {x : Str} {e : Expr} {m : M} {pos' : Pos} (hN : X.N.Nodup) (hi : X.N[i]? = some x) (hx : Loc X.env.scope x) (he : PM X W e m) (hs : swapsWith e (some (.Name x pos')) pos.line X.env = pure false := by rfl)
    (hf : X.fn x = true ∨ X.env.scope.names.lookup x = some .local := by first | exact .inl rfl | exact .inr rfl | assumption) : PMS X W (.Assign [.Name x pos'] e pos) (setM i m) :=
  PS.imp (ps_set hN hi hx he hs hf) fun D' σ H ⟨ρ, τ, s, rp, e, h⟩ => tM_go rp e (PostS.expr e h) fun ρ1 H1 d s1 v l1 r1 e1 hv h1 => h1 ρ1 H1 _ .refl r1 (e1.set i hv)
theorem pms_ret {e : Expr} {m : M} (he : PM X W e m) : PMS X W (.Return (some e) pos) (retM m) :=
  PS.imp (ps_ret he) fun D' σ H ⟨ρ, τ, s, rp, e, h⟩ => tM_go rp e (PostS.expr e h) fun ρ1 H1 d s1 v l1 r1 e1 hv h1 => h1 ρ1 H1 v .refl r1 hv
theorem pms_retN : PMS X W (.Return none pos) retNM := PS.imp ps_retN fun D' σ H ⟨ρ, τ, s, rp, e, h⟩ => h ρ H .non .refl rp .non
theorem pms_expr {e : Expr} {m : M} (he : PM X W e m) (hs : swapsWith e none pos.line X.env = pure false := by rfl) : PMS X W (.Expr e pos) (exprM m) :=
  PS.imp (ps_expr he hs) fun D' σ H ⟨ρ, τ, s, rp, e, h⟩ => tM_go rp e (PostS.expr e h) fun ρ1 H1 d s1 v l1 r1 e1 hv h1 => h1 ρ1 H1 σ .refl r1 e1
theorem pms_if {c : Expr} {a b : List Stmt} {mc : MB} {m n : MS} (hc : PMB X W c mc) (ha : PMSs X W a m) (hb : PMSs X W b n) : PMS X W (.If c a b pos) (ifS mc m n) :=
  PS.imp (ps_if hc ha hb) fun D' σ H ⟨ρ, τ, s, rp, e, h⟩ => tMB_go rp e (PostS.expr e h) fun ρ1 H1 b s1 l1 r1 e1 h1 => by
    cases b with
    | true => exact ⟨ρ1, τ, s1, r1, e1, h1⟩
    | false => exact ⟨ρ1, τ, s1, r1, e1, h1⟩
/-- x += e -/
def augM (i : Nat) (f : D → D → Option D) (m : M) : MS := fun τ s => match τ[i]? with
  | some (some x) => (m τ s).toS τ fun y s => match f x y with
    | some d => .nx (τ.set i (some d)) s
    | none => .bad
  | _ => .bad
/-- an in-place operation, by values -/
def IpC (K : PySem.W.Frag) (mg : Str → Option Value) (f : D → D → Option D) (r : TIp) : Prop :=
  ∀ (ρ : Rr) (H : Hp) (s : Sto) (v u : V) (x y d : D) (Q : VK), Rep K mg ρ H s → IsV K mg ρ H v x → IsV K mg ρ H u y → f x y = some d →
    (∀ H' w, Le ρ H ρ H' → Rep K mg ρ H' s → IsV K mg ρ H' w d → Q w H') → r v u H Q
theorem pms_aug {i : Nat} {x : Str} {e : Expr} {m : M} {op : Operator} {f : D → D → Option D} {ti : TIp} {pos' : Pos} (hN : X.N.Nodup) (hi : X.N[i]? = some x) (hx : Loc X.env.scope x) (he : PM X W e m) (ho : PIp X op ti) (hc : IpC X.K X.mg f ti)
    (hf : X.fn x = true ∨ X.env.scope.names.lookup x = some .local := by first | exact .inl rfl | exact .inr rfl | assumption) : PMS X W (.AugAssign (.Name x pos') op e pos) (augM i f m) :=
  PS.imp (ps_aug hN hi hx he ho hf) fun D' σ H ⟨ρ, τ, s, rp, e, h⟩ => by
    unfold augM at h
    cases q : τ[i]? with
    | none => rw [q] at h; exact h.elim
    | some o =>
      cases o with
      | none => rw [q] at h; exact h.elim
      | some x =>
        rw [q] at h
        obtain ⟨v, e1, hv⟩ := e.get q
        refine ⟨v, e1, tM_go rp e (PostS.expr e h) fun ρ1 H1 y s1 u l1 r1 e1 hu h1 => ?_⟩
        cases qf : f x y with
        | none => rw [qf] at h1; exact h1.elim
        | some d =>
          rw [qf] at h1
          exact hc ρ1 H1 s1 v u x y d _ r1 (hv.mono l1) hu qf fun H2 w l2 r2 hw => h1 ρ1 H2 _ l2 r2 ((e1.mono l2).set i hw)
/-! ### targets -/
abbrev GM := D → Env' → Option Env'
def nameG (i : Nat) : GM := fun d τ => some (τ.set i (some d))
def tG (K : PySem.W.Frag) (mg : Str → Option Value) (g : GM) : TG := fun v σ H Q => ∃ ρ τ s d τ', Rep K mg ρ H s ∧ Evs K mg ρ H σ τ ∧ IsV K mg ρ H v d ∧ g d τ = some τ' ∧ ∀ σ', Evs K mg ρ H σ' τ' → Q σ' H
abbrev PMG (X : Cx) (tg : Expr) (g : GM) : Prop := PG X tg (tG X.K X.mg g)
theorem PG.imp {e : Expr} {t t' : TG} (h : PG X e t) (k : ∀ v σ H Q, t' v σ H Q → t v σ H Q) : PG X e t' := ⟨fun pins s σ H v u Q I r q => h.run pins s σ H v u Q I r (k v σ H Q q)⟩
theorem pmg_name {i : Nat} {x : Str} (hN : X.N.Nodup) (hi : X.N[i]? = some x) (hx : Loc X.env.scope x) (hf : X.fn x = true ∨ X.env.scope.names.lookup x = some .local := by first | exact .inl rfl | exact .inr rfl | assumption) : PMG X (.Name x pos) (nameG i) :=
  PG.imp (pg_name hN hi hx hf) fun v σ H Q ⟨ρ, τ, s, d, τ', rp, e, hv, q, k⟩ => by
    cases q
    exact k _ (e.set i hv)
abbrev GMs := List D → Env' → Option Env'
def nilG : GMs := fun ds τ => match ds with
  | [] => some τ
  | _ => none
def consG (g : GM) (gs : GMs) : GMs := fun ds τ => match ds with
  | d :: ds => (g d τ).bind fun τ => gs ds τ
  | [] => none
def tGs (K : PySem.W.Frag) (mg : Str → Option Value) (g : GMs) : TGs := fun vs σ H Q => ∃ ρ τ s ds τ', Rep K mg ρ H s ∧ Evs K mg ρ H σ τ ∧ IsVs K mg ρ H vs ds ∧ g ds τ = some τ' ∧ ∀ σ', Evs K mg ρ H σ' τ' → Q σ' H
abbrev PMGs (X : Cx) (tg : List Expr) (g : GMs) : Prop := PGs X tg (tGs X.K X.mg g)
theorem PGs.imp {e : List Expr} {t t' : TGs} (h : PGs X e t) (k : ∀ v σ H Q, t' v σ H Q → t v σ H Q) : PGs X e t' := ⟨fun pins s σ H vs us Q I r q => h.run pins s σ H vs us Q I r (k vs σ H Q q)⟩
theorem pmgs_nil : PMGs X [] nilG := PGs.imp pgs_nil fun vs σ H Q ⟨ρ, τ, s, ds, τ', rp, e, hv, q, k⟩ => by
  cases hv with
  | nil => cases q; exact ⟨rfl, k _ e⟩
  | cons _ _ => cases q
theorem pmgs_cons {e : Expr} {es : List Expr} {g : GM} {gs : GMs} (h1 : PMG X e g) (h2 : PMGs X es gs) (hs : (assignEach (e :: es) X.env).map (·.2) = assign e X.env :: (assignEach es X.env).map (·.2) := by rfl) : PMGs X (e :: es) (consG g gs) :=
  PGs.imp (pgs_cons h1 h2 hs) fun vs σ H Q ⟨ρ, τ, s, ds, τ', rp, e, hv, q, k⟩ => by
    cases hv with
    | nil => cases q
    | @cons v d vs ds h t =>
      have q' : (g d τ).bind (fun τ => gs ds τ) = some τ' := q
      cases qg : g d τ with
      | none => rw [qg] at q'; cases q'
      | some τ1 =>
        rw [qg] at q'
        exact ⟨v, vs, rfl, ρ, τ, s, d, τ1, rp, e, h, qg, fun σ1 e1 => ⟨ρ, τ1, s, ds, τ', rp, e1, t, q', k⟩⟩
def tupG (n : Nat) (g : GMs) : GM := fun d τ => match d with
  | .tup ds => if ds.length = n then g ds τ else none
  | _ => none
theorem pmg_tup {es : List Expr} {k : Nat} {g : GMs} {n : Nat} (hc : X.calm = true) (h : PMGs X es g) (hn : (assignEach es X.env).length = n := by rfl) (hst : (assignEach es X.env).findIdx? (·.1) = none := by rfl) : PMG X (.Tuple es k pos) (tupG n g) :=
  PG.imp (pg_tup hc h hn hst) fun v σ H Q ⟨ρ, τ, s, d, τ', rp, e, hv, q, k⟩ => by
    cases hv with
    | @tup a xs ds ht hs =>
      have q' : (if ds.length = n then g ds τ else none) = some τ' := q
      split at q'
      · rename_i hl
        exact ⟨a, xs, rfl, ht.sq, by rw [hs.length]; exact hl, ρ, τ, s, ds, τ', rp, e, hs, q', k⟩
      · cases q'
    | _ => cases q
def asgM (g : GM) (m : M) : MS := fun τ s => (m τ s).toS τ fun d s => match g d τ with
  | some τ' => .nx τ' s
  | none => .bad
theorem pms_asg {tg e : Expr} {m : M} {g : GM} (he : PM X W e m) (hg : PMG X tg g) (hs : swapsWithSole [tg] e pos.line X.env = pure false := by rfl) (hw : swappedStores [tg] e X.env = pure none := by rfl) (ha : (assignEach [tg] X.env).map (·.2) = [assign tg X.env] := by rfl) : PMS X W (.Assign [tg] e pos) (asgM g m) :=
  PS.imp (ps_asg he hg hs hw ha) fun D' σ H ⟨ρ, τ, s, rp, e, h⟩ => tM_go rp e (PostS.expr e h) fun ρ1 H1 d s1 v l1 r1 e1 hv h1 => by
    cases q : g d τ with
    | none => rw [q] at h1; exact h1.elim
    | some τ' =>
      rw [q] at h1
      exact ⟨ρ1, τ, s1, d, τ', r1, e1, hv, q, fun σ' e' => h1 ρ1 H1 σ' .refl r1 e'⟩
def parM (i j : Nat) (ms : MA) : MS := fun τ s => (ms τ s).toS τ fun ds s => match ds with
  | [x, y] => .nx ((τ.set i (some x)).set j (some y)) s
  | _ => .bad
theorem pms_par {i j : Nat} {x y : Str} {a b : Expr} {ms : MA} {px py pt : Pos} {kt k2 pt2} (hc : X.calm = true) (hN : X.N.Nodup) (hi : X.N[i]? = some x) (hj : X.N[j]? = some y) (hij : i ≠ j) (hx : X.env.scope.names.lookup x = some .local) (hy : X.env.scope.names.lookup y = some .local)
    (ha : PMA X W [a, b] ms)
    (rule : ∀ {ta : TA}, PA X [a, b] ta → PS X (.Assign [.Tuple [.Name x px, .Name y py] kt pt] (.Tuple [a, b] k2 pt2) pos) (tPar i j ta)) : PMS X W (.Assign [.Tuple [.Name x px, .Name y py] kt pt] (.Tuple [a, b] k2 pt2) pos) (parM i j ms) :=
  PS.imp (rule ha) fun D' σ H ⟨ρ, τ, s, rp, e, h⟩ => tMA_go rp e (PostS.expr e h) fun ρ1 H1 ds s1 vs l1 r1 e1 hv h1 => by
    match ds, hv, h1 with
    | [], _, h1 => exact h1.elim
    | [_], _, h1 => exact h1.elim
    | [d1, d2], hv, h1 =>
      obtain ⟨v, u, e2, hw, hu⟩ := isVs2 hv
      exact ⟨v, u, e2, h1 ρ1 H1 _ .refl r1 ((e1.set i hw).set j hu)⟩
    | _ :: _ :: _ :: _, _, h1 => exact h1.elim
/-! ### stores -/
def putD (f : Str) (v : D) : List (Str × D) → List (Str × D)
  | [] => [(f, v)]
  | (g, x) :: r => if g = f then (g, v) :: r else (g, x) :: putD f v r
theorem IsFs.put {K : PySem.W.Frag} {mg : Str → Option Value} {ρ : Rr} {H : Hp} {f : Str} {v : V} {d : D} (hv : IsV K mg ρ H v d) : ∀ {gs : List (Str × V)} {fs : List (Str × D)}, IsFs K mg ρ H gs fs → IsFs K mg ρ H (putF f v gs) (putD f d fs)
  | _, _, .nil => .cons hv .nil
  | _, _, .cons (f := g) (vs := gs) (ds := fs) h t => by
    show IsFs K mg ρ H (if g = f then (g, v) :: gs else (g, _) :: putF f v gs) (if g = f then (g, d) :: fs else (g, _) :: putD f d fs)
    by_cases q : g = f
    · rw [if_pos q, if_pos q]; exact .cons hv t
    · rw [if_neg q, if_neg q]; exact .cons h (IsFs.put hv t)
theorem IsFs.length {K : PySem.W.Frag} {mg : Str → Option Value} {ρ : Rr} {H : Hp} : ∀ {gs : List (Str × V)} {fs : List (Str × D)}, IsFs K mg ρ H gs fs → gs.length = fs.length
  | _, _, .nil => rfl
  | _, _, .cons _ t => congrArg (· + 1) t.length
theorem IsFs.get {K : PySem.W.Frag} {mg : Str → Option Value} {ρ : Rr} {H : Hp} {f : Str} {d : D} : ∀ {gs : List (Str × V)} {fs : List (Str × D)}, IsFs K mg ρ H gs fs → fs.lookup f = some d → ∃ v, gs.lookup f = some v ∧ IsV K mg ρ H v d
  | _, _, .nil, e => by cases e
  | _, _, .cons (f := g) (v := v) h t, e => by
    rw [List.lookup_cons] at e ⊢
    cases q : (f == g) with
    | true => rw [q] at e; cases e; exact ⟨_, rfl, h⟩
    | false => rw [q] at e; exact t.get e
theorem IsFs.none {K : PySem.W.Frag} {mg : Str → Option Value} {ρ : Rr} {H : Hp} {f : Str} : ∀ {gs : List (Str × V)} {fs : List (Str × D)}, IsFs K mg ρ H gs fs → fs.lookup f = Option.none → gs.lookup f = Option.none
  | _, _, .nil, e => rfl
  | _, _, .cons (f := g) (v := v) h t, e => by
    rw [List.lookup_cons] at e ⊢
    cases q : (f == g) with
    | true => rw [q] at e; cases e
    | false => rw [q] at e; exact t.none e
/-- what is known of the module's classes: ok C f: instances of C may have the field f -/
structure Ct (K : PySem.W.Frag) (mg : Str → Option Value) (ok : Str → Str → Bool) : Prop where
  fld : ∀ (C f : Str) (ca : Addr), mg C = some (.ref ca) → ok C f = true → Cls K ca ∧ NoAttr K ca f
/-- o.f = e, o in the store -/
def fldS (ok : Str → Str → Bool) (f : Str) (mo me : M) : MS := fun τ s => (me τ s).toS τ fun y s => (mo τ s).toS τ fun x s => match x with
  | .obj i => (match s[i]? with
    | some (.ins C fs) => if ok C f = true ∧ fs.length < 1000 then .nx τ (s.set i (.ins C (putD f y fs))) else .bad
    | _ => .bad)
  | _ => .bad
theorem pms_fld {ok : Str → Str → Bool} {o e : Expr} {f : Str} {mo me : M} {pos' : Pos} (T : Ct X.K X.mg ok) (ho : PM X W o mo) (he : PM X W e me) (hs : swapsWith e (some (.Attribute o f pos')) pos.line X.env = pure false := by rfl) : PMS X W (.Assign [.Attribute o f pos'] e pos) (fldS ok f mo me) :=
  PS.imp (ps_fld ho he hs) fun D' σ H ⟨ρ, τ, s, rp, e, h⟩ => tM_go rp e (PostS.expr e h) fun ρ1 H1 y s1 v l1 r1 e1 hv h1 => tM_go r1 e1 (PostS.expr e1 h1) fun ρ2 H2 x s2 u l2 r2 e2 hu h2 => by
    cases hu with
    | @obj a i hi =>
      have h2' : PostS X.K X.mg W ρ2 H2 (match s2[i]? with
        | some (.ins C fs) => if ok C f = true ∧ fs.length < 1000 then .nx τ (s2.set i (.ins C (putD f y fs))) else .bad
        | _ => .bad) D' := h2
      cases q : s2[i]? with
      | none => rw [q] at h2'; exact h2'.elim
      | some ob =>
        rw [q] at h2'
        cases ob with
        | lst ds => exact h2'.elim
        | ins C fs =>
          simp only at h2'
          split at h2'
          · rename_i hk
            obtain ⟨ca, dx, gs, hc, ha, hf⟩ := r2.at_ i a _ hi q
            obtain ⟨t1, t2⟩ := T.fld C f ca hc hk.1
            have hm := List.mem_of_getElem? hi
            have l3 : Le ρ2 H2 ρ2 (upd H2 a (.ins ca dx (putF f v gs))) := Le.put hm (by rw [ha]; simp)
            have hput : IsFs X.K X.mg ρ2 (upd H2 a (.ins ca dx (putF f v gs))) (putF f v gs) (putD f y fs) := (hf.mono l3).put ((hv.mono l2).mono l3)
            exact ⟨a, ca, dx, gs, rfl, ha, t1, t2, by rw [hf.length]; exact hk.2, h2' ρ2 _ σ l3 (r2.put hi ⟨ca, dx, _, hc, upd_same, hput⟩) (e2.mono l3)⟩
          · exact h2'.elim
    | _ => exact h2.elim
/-- o.f read -/
def fldF (ok : Str → Str → Bool) (f : Str) (x : D) (s : Sto) : Option D := match x with
  | .ist C fs => if ok C f = true then fs.lookup f else none
  | .obj i => (match s[i]? with
    | some (.ins C fs) => if ok C f = true then fs.lookup f else none
    | _ => none)
  | _ => none
def fldM (ok : Str → Str → Bool) (f : Str) (m : M) : M := fun τ s => (m τ s).bind fun x s => R.of (fldF ok f x s) s
theorem pm_fld {ok : Str → Str → Bool} {e : Expr} {f : Str} {m : M} (T : Ct X.K X.mg ok) (he : PM X W e m) (hb : attributeBase e f X.env (eval e X.env) = eval e X.env := by rfl) : PM X W (.Attribute e f pos) (fldM ok f m) :=
  PE.imp (pe_fld he hb) fun σ H Q ⟨ρ, τ, s, rp, e, h⟩ => tM_go rp e (Post.bind h) fun ρ1 H1 x s1 v l1 r1 e1 hv h1 => by
    cases hv with
    | @ist a ca dx C gs fs hc ha n hs =>
      have h1' : Post X.K X.mg W ρ1 H1 σ (R.of (if ok C f = true then fs.lookup f else none) s1) (fun ρ' H' d _ => ∀ v, IsV X.K X.mg ρ' H' v d → Q v H') := h1
      split at h1'
      · rename_i hk
        cases q : fs.lookup f with
        | none => rw [q] at h1'; exact h1'.elim
        | some d =>
          rw [q] at h1'
          obtain ⟨w, hw, hd⟩ := hs.get q
          obtain ⟨t1, t2⟩ := T.fld C f ca hc hk
          exact ⟨a, ca, dx, gs, w, rfl, ha, t1, t2, hw, h1' ρ1 H1 .refl r1 w hd⟩
      · exact h1'.elim
    | @obj a i hi =>
      have h1' : Post X.K X.mg W ρ1 H1 σ (R.of (match s1[i]? with
        | some (.ins C fs) => if ok C f = true then fs.lookup f else none
        | _ => none) s1) (fun ρ' H' d _ => ∀ v, IsV X.K X.mg ρ' H' v d → Q v H') := h1
      cases q0 : s1[i]? with
      | none => rw [q0] at h1'; exact h1'.elim
      | some ob =>
        rw [q0] at h1'
        cases ob with
        | lst ds => exact h1'.elim
        | ins C fs =>
          simp only at h1'
          split at h1'
          · rename_i hk
            cases q : fs.lookup f with
            | none => rw [q] at h1'; exact h1'.elim
            | some d =>
              rw [q] at h1'
              obtain ⟨ca, dx, gs, hc, ha, hs⟩ := r1.at_ i a _ hi q0
              obtain ⟨w, hw, hd⟩ := hs.get q
              obtain ⟨t1, t2⟩ := T.fld C f ca hc hk
              exact ⟨a, ca, dx, gs, w, rfl, ha, t1, t2, hw, h1' ρ1 H1 .refl r1 w hd⟩
          · exact h1'.elim
    | _ => exact h1.elim
/-! ### lists that change -/
/-- the list at a place -/
def lstAt (x : D) (s : Sto) : Option (Nat × List D) := match x with
  | .obj i => (match s[i]? with
    | some (.lst ds) => some (i, ds)
    | _ => none)
  | _ => none
theorem lstAt_of {K : PySem.W.Frag} {mg : Str → Option Value} {ρ : Rr} {H : Hp} {s : Sto} {v : V} {x : D} {i : Nat} {ds : List D} (rp : Rep K mg ρ H s) (hv : IsV K mg ρ H v x) (e : lstAt x s = some (i, ds)) :
    ∃ a xs, v = .ref a ∧ x = .obj i ∧ ρ.pl[i]? = some a ∧ s[i]? = some (.lst ds) ∧ H a = some (.lst xs) ∧ IsVs K mg ρ H xs ds := by
  cases hv with
  | @obj a j h =>
    have e' : (match s[j]? with
      | some (.lst ds) => some (j, ds)
      | _ => none) = some (i, ds) := e
    cases q : s[j]? with
    | none => rw [q] at e'; cases e'
    | some o =>
      rw [q] at e'
      cases o with
      | ins C fs => cases e'
      | lst ds' =>
        cases e'
        obtain ⟨xs, h1, h2⟩ := rp.at_ _ a _ h q
        exact ⟨a, xs, rfl, rfl, h, q, h1, h2⟩
  | _ => cases e
/-- a list's method: the list ahead of the arguments, then what it does -/
def lmM (f : Nat → List D → List D → Sto → R D) (mo : M) (ms : MA) : M := fun τ s => (mo τ s).bind fun x s => match lstAt x s with
  | none => .bad
  | some _ => (ms τ s).bind fun ys s => match lstAt x s with
    | some (i, ds) => f i ds ys s
    | none => .bad
def appF (i : Nat) (ds : List D) (ys : List D) (s : Sto) : R D := match ys with
  | [y] => if ds.length < sizeLine then .ok .non (s.set i (.lst (ds ++ [y]))) else .bad
  | _ => .bad
/-- a list's method, by values -/
def LmC (K : PySem.W.Frag) (mg : Str → Option Value) (f : Nat → List D → List D → Sto → R D) (r : V → List V → Hp → VK → Prop) : Prop :=
  ∀ (W : WX) (σ : L2.St) (ρ : Rr) (H : Hp) (s : Sto) (a : Addr) (i : Nat) (xs vs : List V) (ds ys : List D) (Q : VK), Rep K mg ρ H s → ρ.pl[i]? = some a → s[i]? = some (.lst ds) → H a = some (.lst xs) → IsVs K mg ρ H xs ds → IsVs K mg ρ H vs ys →
    Post K mg W ρ H σ (f i ds ys s) (fun ρ' H' d _ => ∀ v, IsV K mg ρ' H' v d → Q v H') → r (.ref a) vs H Q
theorem lm_go {f : Nat → List D → List D → Sto → R D} {r : V → List V → Hp → VK → Prop} {mo : M} {ms : MA} {σ : L2.St} {H : Hp} {Q : VK} (hf : LmC X.K X.mg f r) (h : tM X.K X.mg W (lmM f mo ms) σ H Q) : tBM X.K "list" r (tM X.K X.mg W mo) (tMA X.K X.mg W ms) σ H Q := by
  obtain ⟨ρ, τ, s, rp, e, h⟩ := h
  refine tM_go rp e (Post.bind h) fun ρ1 H1 x s1 v l1 r1 e1 hv h1 => ?_
  cases q : lstAt x s1 with
  | none => rw [q] at h1; exact h1.elim
  | some p =>
    rw [q] at h1
    obtain ⟨i, ds⟩ := p
    obtain ⟨a, xs, rfl, rfl, h2, h3, h4, h5⟩ := lstAt_of r1 hv q
    refine ⟨.inl ⟨rfl, xs, .of h4⟩, tMA_go r1 e1 (Post.bind h1) fun ρ2 H2 ys s2 vs l2 r2 e2 hvs h6 => ?_⟩
    cases q2 : lstAt (.obj i) s2 with
    | none => rw [q2] at h6; exact h6.elim
    | some p2 =>
      rw [q2] at h6
      obtain ⟨j, ds2⟩ := p2
      obtain ⟨b, xs2, e3, e4, g2, g3, g4, g5⟩ := lstAt_of r2 (hv.mono l2) q2
      cases e3
      cases e4
      exact hf W σ ρ2 H2 s2 a i xs2 vs ds2 ys Q r2 g2 g3 g4 g5 hvs h6
theorem pm_lm {o e : Expr} {es : List Expr} {mo : M} {ms : MA} {name : Str} {id : String} {apos : Pos} {f : Nat → List D → List D → Sto → R D} {r : V → List V → Hp → VK → Prop} (pa : PlainAttrs "list") (slot : Slot "list" name id) (hty : typeOf (.builtin id) = pure (.type "method_descriptor")) (hm : MtR X id r)
    (hf : LmC X.K X.mg f r) (ho : PM X W o mo) (ha : PMA X W (e :: es) ms)
    (hbase : attributeBase o name X.env (eval o X.env) = eval o X.env := by rfl)
    (hfew : ((backTo pos (starEach (e :: es) X.env)).all (fun x => !x.1) && (backToKw pos (keywordEach [] X.env)).all (fun x => x.1.isSome)
      && decide ((e :: es).length + ([] : List Keyword).length + (if ([] : List Keyword).isEmpty then 0 else 1) < 30)) = true := by rfl)
    (hline : (apos.endLine == pos.line) = true := by rfl) (hs : starEach (e :: es) X.env = (false, eval e X.env) :: starEach es X.env := by rfl) (hplain : (backTo pos (starEach es X.env)).any (·.1) = false := by rfl) :
    PM X W (.Call (.Attribute o name apos) (e :: es) [] pos) (lmM f mo ms) := PE.imp (pe_bm pa slot hty hm ho ha hbase hfew hline hs hplain) fun _ _ _ h => lm_go hf h
theorem lc_app : LmC X.K X.mg appF rAppend := by
  intro W σ ρ H s a i xs vs ds ys Q rp hi hs ha hxs hys h
  unfold appF at h
  split at h
  · rename_i y
    obtain ⟨v, ev, hw⟩ := isVs1 hys
    subst ev
    split at h
    · rename_i hl
      have hm := List.mem_of_getElem? hi
      have l : Le ρ H ρ (upd H a (.lst (xs ++ [v]))) := Le.put hm (by rw [ha]; simp)
      refine ⟨a, xs, v, rfl, rfl, ha, by rw [hxs.length]; exact hl, h ρ _ l (rp.put hi ⟨_, upd_same, (hxs.mono l).append (.cons (hw.mono l) .nil)⟩) _ .non⟩
    · exact h.elim
  · exact h.elim
/-- xs.append(e) -/
theorem pm_append {o e : Expr} {mo m : M} {apos : Pos} (ho : PM X W o mo) (he : PM X W e m)
    (hbase : attributeBase o "append" X.env (eval o X.env) = eval o X.env := by rfl)
    (hfew : ((backTo pos (starEach [e] X.env)).all (fun x => !x.1) && (backToKw pos (keywordEach [] X.env)).all (fun x => x.1.isSome)
      && decide ([e].length + ([] : List Keyword).length + (if ([] : List Keyword).isEmpty then 0 else 1) < 30)) = true := by rfl)
    (hline : (apos.endLine == pos.line) = true := by rfl) (hs : starEach [e] X.env = (false, eval e X.env) :: starEach [] X.env := by rfl) :
    PM X W (.Call (.Attribute o "append" apos) [e] [] pos) (lmM appF mo (consA m nilA)) :=
  pm_lm PySem.F.plainAttrs_list PySem.F.slot_list_append PySem.F.type_list_append mt_append lc_app ho (pma_cons he pma_nil hs) hbase hfew hline hs rfl
/-- xs.pop() -/
def popM (mo : M) : M := fun τ s => (mo τ s).bind fun x s => match lstAt x s with
  | some (i, ds) => (match ds[ds.length - 1]? with
    | some y => .ok y (s.set i (.lst ds.dropLast))
    | none => .bad)
  | none => .bad
theorem IsVs.dropLast {K : PySem.W.Frag} {mg : Str → Option Value} {ρ : Rr} {H : Hp} {vs : List V} {ds : List D} (h : IsVs K mg ρ H vs ds) : IsVs K mg ρ H vs.dropLast ds.dropLast := by
  rw [List.dropLast_eq_take, List.dropLast_eq_take, h.length]; exact h.take _
theorem pm_pop {o : Expr} {mo : M} {apos : Pos} (ho : PM X W o mo) (hbase : attributeBase o "pop" X.env (eval o X.env) = eval o X.env := by rfl) (hline : (apos.endLine == pos.line) = true := by rfl) : PM X W (.Call (.Attribute o "pop" apos) [] [] pos) (popM mo) :=
  PE.imp (pe_bm0 PySem.F.plainAttrs_list PySem.F.slot_list_pop PySem.F.type_list_pop mt_pop ho hbase hline) fun σ H Q ⟨ρ, τ, s, rp, e, h⟩ => tM_go rp e (Post.bind h) fun ρ1 H1 x s1 v l1 r1 e1 hv h1 => by
    cases q : lstAt x s1 with
    | none => rw [q] at h1; exact h1.elim
    | some p =>
      rw [q] at h1
      obtain ⟨i, ds⟩ := p
      obtain ⟨a, xs, rfl, rfl, h2, h3, h4, h5⟩ := lstAt_of r1 hv q
      simp only at h1
      cases q2 : ds[ds.length - 1]? with
      | none => rw [q2] at h1; exact h1.elim
      | some y =>
        rw [q2] at h1
        obtain ⟨w, hw, hy⟩ := h5.get q2
        have hm := List.mem_of_getElem? h2
        have l : Le ρ1 H1 ρ1 (upd H1 a (.lst xs.dropLast)) := Le.put hm (by rw [h4]; simp)
        exact ⟨.inl ⟨rfl, xs, .of h4⟩, a, xs, w, rfl, rfl, h4, by rw [h5.length]; exact hw, h1 ρ1 _ l (r1.put h2 ⟨_, upd_same, (h5.mono l).dropLast⟩) w (hy.mono l)⟩
/-- xs[i] = e -/
def setIxS (me mo mi : M) : MS := fun τ s => (me τ s).toS τ fun y s => (mo τ s).toS τ fun x s => (mi τ s).toS τ fun k s => match k, lstAt x s with
  | .int n, some (i, ds) => (match ixN ds.length n with
    | some j => .nx τ (s.set i (.lst (ds.set j y)))
    | none => .bad)
  | _, _ => .bad
theorem pms_setIx {o i e : Expr} {me mo mi : M} {p : Pos} (he : PM X W e me) (ho : PM X W o mo) (hi : PM X W i mi) (hs : swapsWithSole [.Subscript o i p] e pos.line X.env = pure false := by rfl) (hw : swappedStores [.Subscript o i p] e X.env = pure none := by rfl)
    (rule : ∀ {to ti : TE}, PE X o to → PE X i ti → PG X (.Subscript o i p) (gSub to ti rSetL)) : PMS X W (.Assign [.Subscript o i p] e pos) (setIxS me mo mi) :=
  PS.imp (ps_asg he (rule ho hi) hs hw) fun D' σ H ⟨ρ, τ, s, rp, e, h⟩ => tM_go rp e (PostS.expr e h) fun ρ1 H1 y s1 v l1 r1 e1 hv h1 =>
    tM_go r1 e1 (PostS.expr e1 h1) fun ρ2 H2 x s2 u l2 r2 e2 hu h2 => tM_go r2 e2 (PostS.expr e2 h2) fun ρ3 H3 k s3 w l3 r3 e3 hw h3 => by
      cases k with
      | int n =>
        cases hw
        cases q : lstAt x s3 with
        | none => rw [q] at h3; exact h3.elim
        | some p =>
          rw [q] at h3
          obtain ⟨j, ds⟩ := p
          obtain ⟨a, xs, rfl, rfl, g2, g3, g4, g5⟩ := lstAt_of r3 (hu.mono l3) q
          simp only at h3
          cases q2 : ixN ds.length n with
          | none => rw [q2] at h3; exact h3.elim
          | some m =>
            rw [q2] at h3
            have hm := List.mem_of_getElem? g2
            have l : Le ρ3 H3 ρ3 (upd H3 a (.lst (xs.set m v))) := Le.put hm (by rw [g4]; simp)
            exact ⟨a, xs, n, m, rfl, rfl, g4, by rw [g5.length]; exact q2, h3 ρ3 _ σ l (r3.put g2 ⟨_, upd_same, (g5.mono l).set m (((hv.mono l2).mono l3).mono l)⟩) (e3.mono l)⟩
      | _ => exact h3.elim
end
end FL

set_option Elab.async false
set_option linter.all false
set_option maxRecDepth 100000
set_option maxHeartbeats 4000000
namespace FL
open PySem PySem.Spec PyProof.Rows L2
/-! ### while -/
def RS.loop (r : RS) (k : MS) : RS := match r with
  | .nx τ s => k τ s
  | .ct τ s => k τ s
  | .bk τ s => .nx τ s
  | r => r
def whileL (c : MB) (b : MS) : Nat → MS
  | 0 => fun _ _ => .bad
  | n + 1 => fun τ s => (c τ s).toS τ fun t s => if t = true then (b τ s).loop (whileL c b n) else .nx τ s
def whileS (fuel : Env' → Sto → Nat) (c : MB) (b : MS) : MS := fun τ s => whileL c b (fuel τ s) τ s
section
variable {K : PySem.W.Frag} {mg : Str → Option Value} {W : WX} {ρ : Rr} {H : Hp} {D' : Ends}
theorem PostS.loop {r : RS} {k : MS} (h : PostS K mg W ρ H (r.loop k) D') {N : L2.St → Hp → Prop}
    (hN : ∀ ρ' H' σ' τ' s', Le ρ H ρ' H' → Rep K mg ρ' H' s' → Evs K mg ρ' H' σ' τ' → PostS K mg W ρ' H' (k τ' s') D' → N σ' H') :
    PostS K mg W ρ H r { D' with nx := N, ct := N, bk := D'.nx } := by
  cases r with
  | nx τ s => exact fun ρ' H' σ' m rp e => hN ρ' H' σ' τ s m rp e (PostS.le m h)
  | ct τ s => exact fun ρ' H' σ' m rp e => hN ρ' H' σ' τ s m rp e (PostS.le m h)
  | bk τ s => exact h
  | rt d s => exact h
  | exc C fs τ s => exact h
  | bad => exact h
end
section
variable {X : Cx} {W : WX} {pos : Pos}
theorem pms_while {c : Expr} {body : List Stmt} {mc : MB} {mb : MS} (fuel : Env' → Sto → Nat) (hp : PassesOwn (model X.prog X.w) X.A X.env X.xe) (hc : PMB X W c mc) (hb : PMSs X W body mb) : PMS X W (.While c body [] pos) (whileS fuel mc mb) :=
  PS.imp (ps_while hp hc hb) fun D' σ H ⟨ρ, τ, s, rp, e, h⟩ => by
    refine ⟨fun m σ H => ∃ ρ τ s, Rep X.K X.mg ρ H s ∧ Evs X.K X.mg ρ H σ τ ∧ PostS X.K X.mg W ρ H (whileL mc mb m τ s) D', ⟨fuel τ s, ρ, τ, s, rp, e, h⟩, ?_⟩
    rintro m σ H ⟨ρ, τ, s, rp, e, h⟩
    cases m with
    | zero => exact h.elim
    | succ n =>
      refine tMB_go rp e (PostS.expr e h) fun ρ1 H1 b s1 l1 r1 e1 h1 => ?_
      cases b with
      | false => exact h1 ρ1 H1 σ .refl r1 e1
      | true =>
        refine ⟨fun σ' H' => ∃ ρ τ s, Rep X.K X.mg ρ H' s ∧ Evs X.K X.mg ρ H' σ' τ ∧ PostS X.K X.mg W ρ H' (whileL mc mb n τ s) D', fun σ' H' hN => ⟨n, Nat.lt_succ_self n, hN⟩, ?_⟩
        exact ⟨ρ1, τ, s1, r1, e1, PostS.loop h1 fun ρ' H' σ' τ' s' _ r' e' h' => ⟨ρ', τ', s', r', e', h'⟩⟩
/-! ### what is walked -/
/-- the iterator J hands out these items, whatever is done beside it -/
def Strm (K : PySem.W.Frag) (mg : Str → Option Value) (J : It) (ρ0 : Rr) (H0 : Hp) (items : List D) : Prop :=
  ∀ (ρ : Rr) (H : Hp) (s : Sto) (i : Nat), Ex ρ0 H0 ρ H → Rep K mg ρ H s →
    (∀ d, items[i]? = some d → J.go i H ∧ ∀ x H', J.yld i H x H' → Le ρ H ρ H' ∧ Rep K mg ρ H' s ∧ IsV K mg ρ H' x d) ∧ (i = items.length → J.stop i H)
abbrev MI := Env' → Sto → R (List D)
def tMI (K : PySem.W.Frag) (mg : Str → Option Value) (W : WX) (m : MI) : TI := fun σ H R' => ∃ ρ τ s, Rep K mg ρ H s ∧ Evs K mg ρ H σ τ ∧ Post K mg W ρ H σ (m τ s) (fun ρ' H' ds _ => ∀ J, Strm K mg J ρ' H' ds → R' J H')
abbrev PMI (X : Cx) (W : WX) (tg iter : Expr) (m : MI) : Prop := PI X tg iter (tMI X.K X.mg W m)
theorem PI.imp {tg e : Expr} {t t' : TI} (h : PI X tg e t) (k : ∀ σ H R', t' σ H R' → t σ H R') : PI X tg e t' := ⟨fun pins s σ H R' I q => h.run pins s σ H R' I (k σ H R' q)⟩
theorem tMI_go {K : PySem.W.Frag} {mg : Str → Option Value} {ρ : Rr} {H : Hp} {σ : L2.St} {τ : Env'} {s : List O} {m : MI} {P : Rr → Hp → List D → Sto → Prop} {R' : It → Hp → Prop} (r : Rep K mg ρ H s) (e : Evs K mg ρ H σ τ) (h : Post K mg W ρ H σ (m τ s) P)
    (k : ∀ ρ' H' ds s' J, Le ρ H ρ' H' → Rep K mg ρ' H' s' → Evs K mg ρ' H' σ τ → Strm K mg J ρ' H' ds → P ρ' H' ds s' → R' J H') : tMI K mg W m σ H R' :=
  ⟨ρ, τ, s, r, e, h.imp fun ρ' H' d s' l r' p J hJ => k ρ' H' d s' J l r' (e.mono l) hJ p⟩
/-! ### for -/
def forL (g : GM) (b : MS) : List D → MS
  | [] => fun τ s => .nx τ s
  | d :: ds => fun τ s => match g d τ with
    | none => .bad
    | some τ => (b τ s).loop (forL g b ds)
def forS (mi : MI) (g : GM) (b : MS) : MS := fun τ s => (mi τ s).toS τ fun ds s => forL g b ds τ s
theorem pms_for {tg iter : Expr} {body : List Stmt} {mi : MI} {g : GM} {mb : MS} (hp : PassesOwn (model X.prog X.w) X.A X.env X.xe) (hc : X.calm = true) (hi : PMI X W tg iter mi) (hg : PMG X tg g) (hb : PMSs X W body mb)
    (rule : ∀ {wi : TI} {g : TG} {tb : TS}, PI X tg iter wi → PG X tg g → PSs X body tb → PS X (.For tg iter body [] pos) (tFor wi g tb)) : PMS X W (.For tg iter body [] pos) (forS mi g mb) :=
  PS.imp (rule hi hg hb) fun D' σ H ⟨ρ, τ, s, rp, e, h⟩ => tMI_go rp e (PostS.expr e h) fun ρ1 H1 ds s1 J l1 r1 e1 hJ h1 => by
    refine ⟨fun i m σ H => m = ds.length - i ∧ i ≤ ds.length ∧ ∃ ρ τ s, Le ρ1 H1 ρ H ∧ Rep X.K X.mg ρ H s ∧ Evs X.K X.mg ρ H σ τ ∧ PostS X.K X.mg W ρ H (forL g mb (ds.drop i) τ s) D',
      ⟨ds.length, rfl, Nat.zero_le _, ρ1, τ, s1, .refl, r1, e1, h1⟩, ?_⟩
    rintro i m σ H ⟨rfl, hi, ρ, τ, s, l, rp, e, h⟩
    obtain ⟨go, stop⟩ := hJ ρ H s i l.ex rp
    by_cases hlt : i < ds.length
    · right
      obtain ⟨g1, g2⟩ := go ds[i] (List.getElem?_eq_getElem hlt)
      rw [List.drop_eq_getElem_cons hlt] at h
      refine ⟨g1, fun σ' H' => ∃ ρ τ s, Le ρ1 H1 ρ H' ∧ Rep X.K X.mg ρ H' s ∧ Evs X.K X.mg ρ H' σ' τ ∧ PostS X.K X.mg W ρ H' (forL g mb (ds.drop (i + 1)) τ s) D', fun σ' H' hN => ⟨ds.length - (i + 1), by omega, rfl, hlt, hN⟩, fun x H' hy => ?_⟩
      obtain ⟨l2, r2, hx⟩ := g2 x H' hy
      have h' : PostS X.K X.mg W ρ H (match g ds[i] τ with
        | none => RS.bad
        | some τ => (mb τ s).loop (forL g mb (ds.drop (i + 1)))) D' := h
      cases q : g ds[i] τ with
      | none => rw [q] at h'; exact h'.elim
      | some τ2 =>
        rw [q] at h'
        refine ⟨ρ, τ, s, ds[i], τ2, r2, e.mono l2, hx, q, fun σ2 e2 => ⟨ρ, τ2, s, r2, e2, ?_⟩⟩
        exact PostS.loop (PostS.le l2 h') fun ρ' H'' σ' τ' s' l3 r' e' hp' => ⟨ρ', τ', s', (l.trans l2).trans l3, r', e', hp'⟩
    · left
      have ei : ds.drop i = [] := List.drop_eq_nil_of_le (by omega)
      rw [ei] at h
      exact ⟨stop (by omega), h ρ H σ .refl rp e⟩
/-! ### what may be walked -/
/-- the items of what stands still -/
def stillItems (x : D) : Option (List D) := match x with
  | .tup ds => some ds
  | .fls ds => some ds
  | .wls ds => some ds
  | .str z => some (z.cps.toList.map fun c => .str ⟨#[c]⟩)
  | _ => none
def seqI (m : M) : MI := fun τ s => (m τ s).bind fun x s => R.of (stillItems x) s
def iAny (K : PySem.W.Frag) (tl : TE) : TI := fun σ H R' => tl σ H fun x H1 => (∃ a, x = .ref a ∧ (∃ xs, SqL K H1 a xs) ∧ R' (Itl K a) H1) ∨ (∃ a, x = .ref a ∧ (∃ xs, SqT K H1 a xs) ∧ R' (Itt K a) H1) ∨ ∃ z, x = .str z ∧ R' (Its z) H1
theorem PI.or3 {tg l : Expr} {tl : TE} (hl : PE X l tl) : PI X tg l (iAny X.K tl) := by
  refine ⟨fun pins s σ H R' I h => ?_⟩
  refine thn (hl.run pins s σ H _ I h) fun v s1 ⟨x, H1, I1, r1, q1⟩ => ?_
  -- each kind of value by its own rule, at the value that was found
  rcases q1 with ⟨a, ex, ⟨xs, hq⟩, q⟩ | ⟨a, ex, ⟨xs, hq⟩, q⟩ | ⟨z, ex, q⟩
  · subst ex
    cases r1
    obtain ⟨its, rv, p, hz⟩ := I1.list hq
    refine wpAny_pyIter_list p.isList ?_
    refine ⟨s1.heap.objs.size, [s1.heap.objs.size], _, _, H1, rfl, I1.kept (t' := s1.toks) fun b o e => Heap.get?_push_of_some _ e, turn_list a _, ⟨_, Heap.get?_push_size _ rfl, rfl, rfl⟩, fun b hb => ?_, q⟩
    have e : b = s1.heap.objs.size := by simpa using hb
    subst e
    exact I1.fpOk (Nat.le_refl _) (I1.hok.fresh (Nat.le_refl _))
  · subst ex
    cases r1
    obtain ⟨its, rv, p, hz⟩ := I1.tuple hq
    refine wpAny_pyIter_tuple (show s1.heap.IsTuple a its.toArray from p) ?_
    refine ⟨s1.heap.objs.size, [s1.heap.objs.size], _, _, H1, rfl, I1.kept (t' := s1.toks) fun b o e => Heap.get?_push_of_some _ e, turn_tuple a _, ⟨_, Heap.get?_push_size _ rfl, rfl, rfl⟩, fun b hb => ?_, q⟩
    have e : b = s1.heap.objs.size := by simpa using hb
    subst e
    exact I1.fpOk (Nat.le_refl _) (I1.hok.fresh (Nat.le_refl _))
  · subst ex
    obtain ⟨t, rfl⟩ := r1
    cases ha : z.cps.all (· < 128)
    · exact wpAny_pyIter_wide ha (pi_one (tk := s1.toks) I1 _ (turn_str _ z t "str_iterator" (.inr rfl)) ⟨_, Heap.get?_push_size _ rfl, rfl, rfl⟩ q)
    · exact wpAny_pyIter_ascii ha (pi_one (tk := s1.toks) I1 _ (turn_str _ z t "str_ascii_iterator" (.inl rfl)) ⟨_, Heap.get?_push_size _ rfl, rfl, rfl⟩ q)
theorem strm_seq {J : It} {K : PySem.W.Frag} {mg : Str → Option Value} {ρ0 : Rr} {H0 : Hp} {a : Addr} {xs : List V} {ds : List D} (hs : IsVs K mg ρ0 H0 xs ds)
    (hJ : (J = Itl K a ∧ ∀ ρ H s, Ex ρ0 H0 ρ H → Rep K mg ρ H s → SqL K H a xs) ∨ (J = Itt K a ∧ ∀ ρ H s, Ex ρ0 H0 ρ H → Rep K mg ρ H s → SqT K H a xs)) : Strm K mg J ρ0 H0 ds := by
  intro ρ H s i l rp
  rcases hJ with ⟨rfl, hq⟩ | ⟨rfl, hq⟩
  · have q := hq ρ H s l rp
    refine ⟨fun d hd => ?_, fun hi => ⟨xs, q, by rw [hs.length]; exact Nat.le_of_eq hi.symm⟩⟩
    obtain ⟨v, e1, e2⟩ := hs.get hd
    refine ⟨⟨xs, v, q, e1⟩, fun x H' ⟨eH, hx⟩ => ?_⟩
    subst eH
    have e3 := (hx xs q).symm.trans e1
    cases e3
    exact ⟨.refl, rp, e2.ex l⟩
  · have q := hq ρ H s l rp
    refine ⟨fun d hd => ?_, fun hi => ⟨xs, q, by rw [hs.length]; exact Nat.le_of_eq hi.symm⟩⟩
    obtain ⟨v, e1, e2⟩ := hs.get hd
    refine ⟨⟨xs, v, q, e1⟩, fun x H' ⟨eH, hx⟩ => ?_⟩
    subst eH
    have e3 := (hx xs q).symm.trans e1
    cases e3
    exact ⟨.refl, rp, e2.ex l⟩
theorem strm_str {K : PySem.W.Frag} {mg : Str → Option Value} {ρ0 : Rr} {H0 : Hp} {z : Str} : Strm K mg (Its z) ρ0 H0 (z.cps.toList.map fun c => .str ⟨#[c]⟩) := by
  intro ρ H s i l rp
  refine ⟨fun d hd => ?_, fun hi => ?_⟩
  · rw [List.getElem?_map, Array.getElem?_toList] at hd
    cases q : z.cps[i]? with
    | none => rw [q] at hd; cases hd
    | some c =>
      rw [q] at hd
      cases hd
      refine ⟨(Array.getElem?_eq_some_iff.mp q).1, fun x H' ⟨eH, c', hc, ex⟩ => ?_⟩
      subst eH
      rw [q] at hc
      cases hc
      subst ex
      exact ⟨.refl, rp, .str⟩
  · show z.cps.size ≤ i
    rw [List.length_map, Array.length_toList] at hi
    exact Nat.le_of_eq hi.symm
theorem pmi_seq {tg e : Expr} {m : M} (h : PM X W e m) : PMI X W tg e (seqI m) :=
  PI.imp (PI.or3 h) fun σ H R' ⟨ρ, τ, s, rp, e, h⟩ => tM_go rp e (Post.bind h) fun ρ1 H1 x s1 v l1 r1 e1 hv h1 => by
    cases hv with
    | @tup a xs ds ht hs => exact .inr (.inl ⟨a, rfl, ⟨xs, ht.sq⟩, h1 ρ1 H1 .refl r1 _ (strm_seq hs (.inr ⟨rfl, fun ρ H s l _ => (l.rt ht).sq⟩))⟩)
    | @fls a xs ds ht n hs => exact .inl ⟨a, rfl, ⟨xs, .of ht⟩, h1 ρ1 H1 .refl r1 _ (strm_seq hs (.inl ⟨rfl, fun ρ H s l _ => .of (l.keep _ _ ht n).1⟩))⟩
    | @wls a xs ds ht hs => exact .inl ⟨a, rfl, ⟨xs, ht.sq⟩, h1 ρ1 H1 .refl r1 _ (strm_seq hs (.inl ⟨rfl, fun ρ H s l _ => (l.rl ht).sq⟩))⟩
    | @str z => exact .inr (.inr ⟨z, rfl, h1 ρ1 H1 .refl r1 _ strm_str⟩)
    | _ => exact h1.elim
def rngL (lo : Int) (n : Nat) : List D := (List.range n).map fun (i : Nat) => .int (lo + (i : Int))
def rng1F : D → Option (List D)
  | .int j => if -(2 ^ 62) ≤ j ∧ j < 2 ^ 62 then some (rngL 0 j.toNat) else none
  | _ => none
def rng2F : D → D → Option (List D)
  | .int i, .int j => if -(2 ^ 62) ≤ i ∧ i < 2 ^ 62 ∧ -(2 ^ 62) ≤ j ∧ j < 2 ^ 62 then some (rngL i (j - i).toNat) else none
  | _, _ => none
def rng1I (m : M) : MI := fun τ s => (m τ s).bind fun x s => R.of (rng1F x) s
def rng2I (m n : M) : MI := fun τ s => (m τ s).bind fun x s => (n τ s).bind fun y s => R.of (rng2F x y) s
theorem post_one {K : PySem.W.Frag} {mg : Str → Option Value} {ρ : Rr} {H : Hp} {σ : L2.St} {τ : Env'} {s : List O} {α : Type} {m : M} {f : D → Sto → R α} {P : Rr → Hp → α → Sto → Prop} (h : Post K mg W ρ H σ ((m τ s).bind f) P) :
    Post K mg W ρ H σ (consA m nilA τ s) (fun ρ' H' xs s' => ∃ x, xs = [x] ∧ Post K mg W ρ' H' σ (f x s') P) := by
  unfold consA
  cases q : m τ s with
  | ok x s2 =>
    rw [q] at h
    exact fun ρ' H' l rp => ⟨x, rfl, Post.le l h⟩
  | exc C fs s2 => rw [q] at h; exact h
  | bad => rw [q] at h; exact h
theorem post_two {K : PySem.W.Frag} {mg : Str → Option Value} {ρ : Rr} {H : Hp} {σ : L2.St} {τ : Env'} {s : List O} {α : Type} {m n : M} {f : D → D → Sto → R α} {P : Rr → Hp → α → Sto → Prop} (h : Post K mg W ρ H σ ((m τ s).bind fun x s => (n τ s).bind fun y s => f x y s) P) :
    Post K mg W ρ H σ (consA m (consA n nilA) τ s) (fun ρ' H' xs s' => ∃ x y, xs = [x, y] ∧ Post K mg W ρ' H' σ (f x y s') P) := by
  unfold consA
  cases q : m τ s with
  | ok x s2 =>
    rw [q] at h
    show Post K mg W ρ H σ ((consA n nilA τ s2).bind fun xs s => R.ok (x :: xs) s) _
    have h' : Post K mg W ρ H σ ((n τ s2).bind fun y s => f x y s) P := h
    unfold consA
    cases q2 : n τ s2 with
    | ok y s3 =>
      rw [q2] at h'
      exact fun ρ' H' l rp => ⟨x, y, rfl, Post.le l h'⟩
    | exc C fs s2 => rw [q2] at h'; exact h'
    | bad => rw [q2] at h'; exact h'
  | exc C fs s2 => rw [q] at h; exact h
  | bad => rw [q] at h; exact h
theorem strm_rng {K : PySem.W.Frag} {mg : Str → Option Value} {ρ0 : Rr} {H0 : Hp} {lo : Int} {n : Nat} : Strm K mg (Itr lo n) ρ0 H0 (rngL lo n) := by
  intro ρ H s i l rp
  unfold rngL
  refine ⟨fun d hd => ?_, fun hi => ?_⟩
  · rw [List.getElem?_map] at hd
    by_cases hi : i < n
    · rw [List.getElem?_range hi] at hd
      cases hd
      refine ⟨hi, fun x H' ⟨eH, ex⟩ => ?_⟩
      subst eH ex
      exact ⟨.refl, rp, .int⟩
    · rw [List.getElem?_eq_none (by rw [List.length_range]; omega)] at hd
      cases hd
  · show n ≤ i
    rw [List.length_map, List.length_range] at hi
    exact Nat.le_of_eq hi.symm
theorem pmi_range1 {tg a : Expr} {m : M} {p : Pos} (hg : Gl X "range") (hm : X.mg "range" = none) (ha : PM X W a m) (hs : starEach [a] X.env = [(false, eval a X.env)] := by rfl) : PMI X W tg (.Call (.Name "range" p) [a] [] pos) (rng1I m) :=
  PI.imp (pi_range1 hg hm (pma_cons ha pma_nil hs) hs) fun σ H R' ⟨ρ, τ, s, rp, e, h⟩ => tMA_go rp e (post_one h) fun ρ1 H1 xs s1 vs l1 r1 e1 hv ⟨x, ex, h1⟩ => by
    subst ex
    obtain ⟨v, ev, hw⟩ := isVs1 hv
    subst ev
    cases x with
    | int j =>
      cases hw
      have h1' : Post X.K X.mg W ρ1 H1 σ (R.of (if -(2 ^ 62) ≤ j ∧ j < 2 ^ 62 then some (rngL 0 j.toNat) else none) s1) (fun ρ' H' ds _ => ∀ J, Strm X.K X.mg J ρ' H' ds → R' J H') := h1
      split at h1'
      · rename_i hb
        exact ⟨j, rfl, hb.1, hb.2, h1' ρ1 H1 .refl r1 _ strm_rng⟩
      · exact h1'.elim
    | _ => exact h1.elim
theorem pmi_range2 {tg a b : Expr} {m n : M} {p : Pos} (hg : Gl X "range") (hm : X.mg "range" = none) (ha : PM X W a m) (hb : PM X W b n) (hs : starEach [a, b] X.env = [(false, eval a X.env), (false, eval b X.env)] := by rfl) (hs2 : starEach [b] X.env = [(false, eval b X.env)] := by rfl) : PMI X W tg (.Call (.Name "range" p) [a, b] [] pos) (rng2I m n) :=
  PI.imp (pi_range2 hg hm (pma_cons ha (pma_cons hb pma_nil hs2) (by rw [hs, hs2])) hs hs2) fun σ H R' ⟨ρ, τ, s, rp, e, h⟩ => tMA_go rp e (post_two h) fun ρ1 H1 xs s1 vs l1 r1 e1 hv ⟨x, y, ex, h1⟩ => by
    subst ex
    obtain ⟨v, u, ev, hw, hu⟩ := isVs2 hv
    subst ev
    cases x with
    | int i =>
      cases y with
      | int j =>
        cases hw; cases hu
        have h1' : Post X.K X.mg W ρ1 H1 σ (R.of (if -(2 ^ 62) ≤ i ∧ i < 2 ^ 62 ∧ -(2 ^ 62) ≤ j ∧ j < 2 ^ 62 then some (rngL i (j - i).toNat) else none) s1) (fun ρ' H' ds _ => ∀ J, Strm X.K X.mg J ρ' H' ds → R' J H') := h1
        split at h1'
        · rename_i hb
          exact ⟨i, j, rfl, hb, h1' ρ1 H1 .refl r1 _ strm_rng⟩
        · exact h1'.elim
      | _ => exact h1.elim
    | _ => exact h1.elim
/-! ### comprehensions -/
inductive Tgt where
  | one (i : Nat)
  | many (is : List Nat)
def setL {α : Type} : List Nat → List α → List (Option α) → Option (List (Option α))
  | [], [], σ => some σ
  | i :: is, v :: vs, σ => setL is vs (σ.set i (some v))
  | _, _, _ => none
def Tgt.d : Tgt → D → Env' → Option Env'
  | .one i, d, τ => some (τ.set i (some d))
  | .many is, .tup ds, τ => setL is ds τ
  | .many _, _, _ => none
def gSlots (is : List Nat) : TGs := fun vs σ H Q => ∃ σ', setL is vs σ = some σ' ∧ Q σ' H
theorem pgs_slots_nil : PGs X [] (gSlots []) := PGs.imp pgs_nil fun vs σ H Q ⟨σ', h, q⟩ => by
  cases vs with
  | nil => cases h; exact ⟨rfl, q⟩
  | cons _ _ => cases h
theorem pgs_slots {i : Nat} {x : Str} {is : List Nat} {es : List Expr} (hN : X.N.Nodup) (hi : X.N[i]? = some x) (hx : Loc X.env.scope x) (h2 : PGs X es (gSlots is)) (hf : X.fn x = true ∨ X.env.scope.names.lookup x = some .local := by first | exact .inl rfl | exact .inr rfl | assumption)
    (hs : (assignEach (.Name x pos :: es) X.env).map (·.2) = assign (.Name x pos) X.env :: (assignEach es X.env).map (·.2) := by rfl) : PGs X (.Name x pos :: es) (gSlots (i :: is)) :=
  PGs.imp (pgs_cons (pg_name hN hi hx hf) h2 hs) fun vs σ H Q ⟨σ', h, q⟩ => by
    cases vs with
    | nil => cases h
    | cons v vs => exact ⟨v, vs, rfl, σ', h, q⟩
/-- a comprehension's target -/
def tgtG (K : PySem.W.Frag) : Tgt → TG
  | .one i => gName i
  | .many is => gTup K is.length (gSlots is)
theorem setL_evs {K : PySem.W.Frag} {mg : Str → Option Value} {ρ : Rr} {H : Hp} : ∀ (is : List Nat) {vs : List V} {ds : List D} (σ : L2.St) (τ : Env') {τ' : Env'}, Evs K mg ρ H σ τ → IsVs K mg ρ H vs ds → setL is ds τ = some τ' → ∃ σ', setL is vs σ = some σ' ∧ Evs K mg ρ H σ' τ' := by
  intro is
  induction is with
  | nil =>
    intro vs ds σ τ τ' e hv h
    cases hv with
    | nil => cases h; exact ⟨σ, rfl, e⟩
    | cons _ _ => cases h
  | cons i is ih =>
    intro vs ds σ τ τ' e hv h
    cases hv with
    | nil => cases h
    | cons hv t => exact ih _ _ (e.set i hv) t h
theorem setL_len {α : Type} : ∀ {is : List Nat} {vs : List α} {σ σ' : List (Option α)}, setL is vs σ = some σ' → vs.length = is.length
  | [], [], _, _, _ => rfl
  | [], _ :: _, _, _, h => by cases h
  | _ :: _, [], _, _, h => by cases h
  | i :: is, v :: vs, σ, σ', h => congrArg (· + 1) (setL_len (is := is) (vs := vs) h)
def wipeD (τ : Env') : List Nat → Env'
  | [] => τ
  | v :: vs => (wipeD τ vs).set v none
theorem evs_none {K : PySem.W.Frag} {mg : Str → Option Value} {ρ : Rr} {H : Hp} : ∀ {σ : L2.St} {τ : Env'} (i : Nat), Evs K mg ρ H σ τ → Evs K mg ρ H (σ.set i none) (τ.set i none)
  | _, _, _, .nil => .nil
  | _, _, 0, .off t => .off t
  | _, _, i + 1, .off t => .off (evs_none i t)
  | _, _, 0, .on _ t => .off t
  | _, _, i + 1, .on h t => .on h (evs_none i t)
theorem evs_wipe {K : PySem.W.Frag} {mg : Str → Option Value} {ρ : Rr} {H : Hp} {σ : L2.St} {τ : Env'} (e : Evs K mg ρ H σ τ) : ∀ vs : List Nat, Evs K mg ρ H (wipe σ vs) (wipeD τ vs)
  | [] => e
  | v :: vs => evs_none v (evs_wipe e vs)
theorem wipe_set {σ : L2.St} {i : Nat} {x : Option V} : ∀ {vs : List Nat}, i ∈ vs → wipe (σ.set i x) vs = wipe σ vs
  | v :: vs, h => by
    unfold wipe
    by_cases e : i = v
    · subst e
      by_cases h2 : i ∈ vs
      · rw [wipe_set h2]
      · have z : ∀ ws : List Nat, i ∉ ws → wipe (σ.set i x) ws = (wipe σ ws).set i x := by
          intro ws
          induction ws with
          | nil => intro _; rfl
          | cons w ws ih =>
            intro hw
            have h1 : i ≠ w := fun q => hw (by rw [q]; exact List.mem_cons_self)
            have h3 : i ∉ ws := fun q => hw (List.mem_cons_of_mem _ q)
            unfold wipe
            rw [ih h3, List.set_comm _ _ h1]
        rw [z vs h2, List.set_set]
    · have h2 : i ∈ vs := by
        rcases List.mem_cons.mp h with q | q
        · exact absurd q e
        · exact q
      rw [wipe_set h2]
theorem wipe_twice {σ : L2.St} : ∀ (vs ws : List Nat), (∀ v ∈ vs, v ∈ ws) → wipe (wipe σ vs) ws = wipe σ ws
  | [], _, _ => rfl
  | v :: vs, ws, h => by
    show wipe ((wipe σ vs).set v none) ws = _
    rw [wipe_set (h v List.mem_cons_self)]
    exact wipe_twice vs ws fun u hu => h u (List.mem_cons_of_mem _ hu)
theorem wipe_setL {ws : List Nat} : ∀ {is : List Nat} {vs : List V} {σ σ' : L2.St}, (∀ i ∈ is, i ∈ ws) → setL is vs σ = some σ' → wipe σ' ws = wipe σ ws
  | [], [], σ, σ', _, h => by cases h; rfl
  | [], _ :: _, _, _, _, h => by cases h
  | _ :: _, [], _, _, _, h => by cases h
  | i :: is, v :: vs, σ, σ', hi, h => by
    have e := wipe_setL (ws := ws) (is := is) (vs := vs) (σ := σ.set i (some v)) (fun j hj => hi j (List.mem_cons_of_mem _ hj)) h
    rw [e, wipe_set (hi i List.mem_cons_self)]
def Tgt.slots : Tgt → List Nat
  | .one i => [i]
  | .many is => is
/-- a target takes an item, within the slots vs -/
theorem tgt_go {K : PySem.W.Frag} {mg : Str → Option Value} {ρ : Rr} {H : Hp} {g : Tgt} {σ : L2.St} {τ τ' : Env'} {v : V} {d : D} {vs : List Nat} {Q : L2.St → Hp → Prop} (e : Evs K mg ρ H (wipe σ vs) τ) (hv : IsV K mg ρ H v d) (h : g.d d τ = some τ') (hs : ∀ i ∈ g.slots, i ∈ vs)
    (k : ∀ σ', wipe σ' vs = wipe σ vs → Evs K mg ρ H σ' τ' → Q σ' H) : tgtG K g v (wipe σ vs) H Q := by
  cases g with
  | one i =>
    cases h
    refine k _ ?_ (e.set i hv)
    rw [wipe_set (hs i (by simp [Tgt.slots]))]
    exact wipe_twice vs vs fun _ h => h
  | many is =>
    cases hv with
    | @tup a xs ds ht hsx =>
      have h' : setL is ds τ = some τ' := h
      obtain ⟨σ', e1, e2⟩ := setL_evs is _ _ e hsx h'
      have hl : xs.length = is.length := setL_len e1
      refine ⟨a, xs, rfl, ht.sq, hl, σ', e1, k σ' ?_ e2⟩
      rw [wipe_setL (fun i hi => hs i hi) e1]
      exact wipe_twice vs vs fun _ h => h
    | _ => cases h
/-- a run that raises is not served -/
def R.nox {α : Type} : R α → R α
  | .ok a s => .ok a s
  | _ => .bad
def compL (g : Tgt) (tt : MB) (te : M) (τ : Env') : Nat → List D → Sto → R (List D)
  | _, [], s => .ok [] s
  | n, d :: ds, s => match g.d d τ with
    | none => .bad
    | some τ1 => (tt τ1 s).nox.bind fun b s => if b = true then (te τ1 s).nox.bind fun x s => if n < sizeLine then (compL g tt te τ (n + 1) ds s).bind fun xs s => .ok (x :: xs) s else .bad else compL g tt te τ n ds s
def lcM (mi : MI) (g : Tgt) (tt : MB) (te : M) (vs : List Nat) : M := fun τ s => (mi τ s).bind fun ds s => (compL g tt te (wipeD τ vs) 0 ds s).bind fun xs s => .ok (.fls xs) s
def yesB : MB := fun _ s => .ok true s
abbrev WN : WX := fun _ _ _ _ => False
theorem Post.nox {α β : Type} {K : PySem.W.Frag} {mg : Str → Option Value} {ρ : Rr} {H : Hp} {σ σ2 : L2.St} {r : R α} {k : α → Sto → R β} {P : Rr → Hp → β → Sto → Prop} (h : Post K mg W ρ H σ (r.nox.bind k) P) :
    Post K mg WN ρ H σ2 r (fun ρ' H' a s' => Post K mg W ρ' H' σ (k a s') P) := by
  cases r with
  | ok a s => exact fun ρ' H' m rp => Post.le m h
  | exc C fs s => exact h.elim
  | bad => exact h
section
variable {K : PySem.W.Frag} {mg : Str → Option Value} {ρ ρ' : Rr} {H H' : Hp}
theorem Le.hid (l : Le ρ H ρ' H') (h : List Addr) : Le ⟨ρ.pl, h⟩ H ⟨ρ'.pl, h⟩ H' := by
  obtain ⟨t, rfl, f⟩ := l.pre
  exact ⟨⟨t, rfl, f⟩, l.liv, l.frm⟩
theorem Le.hid_eq (l : Le ρ H ρ' H') : ρ'.hid = ρ.hid := by
  obtain ⟨t, rfl, f⟩ := l.pre
  rfl
theorem Le.mut {p : Addr} {u : HO} (l : Le ρ H ρ' H') (h : H p = none) : Le ρ H ρ' (upd H' p u) := by
  refine ⟨l.pre, fun a e => ?_, fun a o e n => ?_⟩
  · by_cases q : a = p
    · rw [q]; exact h
    · rw [upd_ne q] at e; exact l.liv a e
  · rw [upd_ne (ne_of_none e h)]; exact l.frm a o e n
/-- the list that is being made is hidden -/
theorem Ex.hide {p : Addr} {u : HO} (h : H p = none) : Ex ρ H (ρ.hide p) (upd H p u) :=
  ⟨fun _ _ e => e, fun a o e n => ⟨by rw [upd_ne (ne_of_none e h)]; exact e, n.1, fun hm => by
    rcases List.mem_cons.mp hm with q | q
    · exact ne_of_none e h q
    · exact n.2 q⟩⟩
theorem Ex.hput {p : Addr} {u : HO} (h : p ∈ ρ.hid) : Ex ρ H ρ (upd H p u) := ⟨fun _ _ e => e, fun a o e n => ⟨by rw [upd_ne fun q => n.2 (by rw [q]; exact h)]; exact e, n⟩⟩
theorem Ex.unhide {p : Addr} {t : List Addr} (h : ρ.hid = p :: t) : Ex ρ H ⟨ρ.pl, t⟩ H := ⟨fun _ _ e => e, fun a o e n => ⟨e, n.1, fun q => n.2 (by rw [h]; exact List.mem_cons_of_mem _ q)⟩⟩
theorem OkO.ex (l : Ex ρ H ρ' H') {a : Addr} (e : H' a = H a) : ∀ {o : O}, OkO K mg ρ H a o → OkO K mg ρ' H' a o
  | .lst ds, ⟨xs, h, hs⟩ => ⟨xs, e.trans h, hs.ex l⟩
  | .ins C fs, ⟨ca, dx, gs, hc, h, hs⟩ => ⟨ca, dx, gs, hc, e.trans h, hs.ex l⟩
theorem Rep.hide {s : List O} (r : Rep K mg ρ H s) {p : Addr} {u : HO} (h : H p = none) : Rep K mg (ρ.hide p) (upd H p u) s := by
  have off := r.fresh h
  refine ⟨r.len, r.nd, fun a ha => ?_, fun i a o h1 h2 => (r.at_ i a o h1 h2).ex (Ex.hide h) (upd_ne fun q => ?_)⟩
  · rcases List.mem_cons.mp ha with q | q
    · rw [q]; exact ⟨by rw [upd_same]; simp, off.1⟩
    · exact ⟨fun e => (r.hd a q).1 ((Le.new (ρ := ρ) h).liv a e), (r.hd a q).2⟩
  · exact off.1 (q ▸ List.mem_of_getElem? h1)
theorem Rep.hput {s : List O} (r : Rep K mg ρ H s) {p : Addr} {u : HO} (h : p ∈ ρ.hid) : Rep K mg ρ (upd H p u) s := by
  refine ⟨r.len, r.nd, fun a ha => ⟨?_, (r.hd a ha).2⟩, fun i a o h1 h2 => (r.at_ i a o h1 h2).ex (Ex.hput h) (upd_ne fun q => ?_)⟩
  · by_cases q : a = p
    · rw [q, upd_same]; simp
    · rw [upd_ne q]; exact (r.hd a ha).1
  · exact (r.hd p h).2 (q ▸ List.mem_of_getElem? h1)
theorem Rep.unhide {s : List O} (r : Rep K mg ρ H s) {p : Addr} {t : List Addr} (h : ρ.hid = p :: t) : Rep K mg ⟨ρ.pl, t⟩ H s :=
  ⟨r.len, r.nd, fun a ha => r.hd a (by rw [h]; exact List.mem_cons_of_mem _ ha), fun i a o h1 h2 => (r.at_ i a o h1 h2).ex (Ex.unhide h) rfl⟩
end
def compEnd (ads : List D) (r : R (List D)) : R D := r.bind fun xs s => .ok (.fls (ads ++ xs)) s
theorem bind_assoc {α β γ : Type} (r : R α) (f : α → Sto → R β) (k : β → Sto → R γ) : (r.bind f).bind k = r.bind fun a s => (f a s).bind k := by
  cases r <;> rfl
/-- the state of a comprehension ahead of turn i: Dl the list that grows, hidden -/
def CompInv (K : PySem.W.Frag) (mg : Str → Option Value) (W : WX) (g : Tgt) (tt : MB) (te : M) (τw : Env') (σ σw : L2.St) (ρ1 : Rr) (H1 : Hp) (Dl : Addr) (ds : List D) (Q : VK) (i : Nat) (H : Hp) : Prop :=
  ∃ (ρ : Rr) (s : Sto) (acc : List V) (ads : List D), ρ.hid = Dl :: ρ1.hid ∧ Le ρ1 H1 ⟨ρ.pl, ρ1.hid⟩ H ∧ Ex ρ1 H1 ρ H ∧ Rep K mg ρ H s ∧ Evs K mg ρ H σw τw ∧ H Dl = some (.lst acc) ∧ IsVs K mg ρ H acc ads ∧
    Post K mg W ρ1 H1 σ (compEnd ads (compL g tt te τw ads.length (ds.drop i) s)) (fun ρ' H' d _ => ∀ v, IsV K mg ρ' H' v d → Q v H')
theorem lc_go {vs : List Nat} {mi : MI} {g : Tgt} {tt : MB} {te : M} {tx : TT} (hs : ∀ i ∈ g.slots, i ∈ vs) (htx : ∀ σ H Q, tMB X.K X.mg WN tt σ H Q → tx σ H Q) :
    ∀ (σ : L2.St) (H : Hp) (Q : VK), tM X.K X.mg W (lcM mi g tt te vs) σ H Q → tLc (tMI X.K X.mg W mi) (tgtG X.K g) tx (tM X.K X.mg WN te) vs σ H Q :=
  fun σ H Q ⟨ρ, τ, s, rp, e, h⟩ => tMI_go rp e (Post.bind h) fun ρ1 H1 ds s1 J l1 r1 e1 hJ h1 Dl hD => by
    refine ⟨fun i m H => m = ds.length - i ∧ i ≤ ds.length ∧ CompInv X.K X.mg W g tt te (wipeD τ vs) σ (wipe σ vs) ρ1 H1 Dl ds Q i H,
      ⟨ds.length, rfl, Nat.zero_le _, ρ1.hide Dl, s1, [], [], rfl, Le.new hD, Ex.hide hD, r1.hide hD, (evs_wipe e1 _).ex (Ex.hide hD), upd_same, .nil, h1⟩, ?_⟩
    rintro i m H ⟨rfl, hi, ρ, s, acc, ads, eh, l, x, rp, e, hDl, hacc, h⟩
    obtain ⟨go, stop⟩ := hJ ρ H s i x rp
    have mem : Dl ∈ ρ.hid := by rw [eh]; exact List.mem_cons_self
    have offl : ρ1.off Dl := r1.fresh hD
    by_cases hlt : i < ds.length
    · right
      obtain ⟨g1, g2⟩ := go ds[i] (List.getElem?_eq_getElem hlt)
      rw [List.drop_eq_getElem_cons hlt] at h
      refine ⟨g1, fun H => CompInv X.K X.mg W g tt te (wipeD τ vs) σ (wipe σ vs) ρ1 H1 Dl ds Q (i + 1) H, fun H' hN => ⟨ds.length - (i + 1), by omega, rfl, hlt, hN⟩, fun y H' hy => ?_⟩
      obtain ⟨l2, r2, hy2⟩ := g2 y H' hy
      unfold compL at h
      cases q : g.d ds[i] (wipeD τ vs) with
      | none => rw [q] at h; exact h.elim
      | some τ1 =>
        rw [q] at h
        refine tgt_go (e.mono l2) hy2 q hs fun σ2 hw e2 => ⟨hw, htx _ _ _ ?_⟩
        have h2 : Post X.K X.mg W ρ1 H1 σ ((tt τ1 s).nox.bind fun b s => compEnd ads (if b = true then (te τ1 s).nox.bind fun x s => if ads.length < sizeLine then (compL g tt te (wipeD τ vs) (ads.length + 1) (ds.drop (i + 1)) s).bind fun xs s => .ok (x :: xs) s else .bad else compL g tt te (wipeD τ vs) ads.length (ds.drop (i + 1)) s)) (fun ρ' H' d _ => ∀ v, IsV X.K X.mg ρ' H' v d → Q v H') := by
          have h3 := h
          have e3 : compEnd ads ((tt τ1 s).nox.bind fun b s => if b = true then (te τ1 s).nox.bind fun x s => if ads.length < sizeLine then (compL g tt te (wipeD τ vs) (ads.length + 1) (ds.drop (i + 1)) s).bind fun xs s => .ok (x :: xs) s else .bad else compL g tt te (wipeD τ vs) ads.length (ds.drop (i + 1)) s) = _ := bind_assoc _ _ _
          rw [e3] at h3
          exact h3
        -- a heap behind ours, the list as it is
        have back : ∀ {ρ' : Rr} {H2 : Hp}, Le ρ H' ρ' H2 → ρ'.hid = Dl :: ρ1.hid ∧ Le ρ1 H1 ⟨ρ'.pl, ρ1.hid⟩ H2 ∧ Ex ρ1 H1 ρ' H2 ∧ H2 Dl = some (.lst acc) := fun {ρ' H2} m => by
          have m' := l2.trans m
          exact ⟨by rw [m'.hid_eq, eh], l.trans (m'.hid ρ1.hid), x.trans m'.ex, m'.frm _ _ hDl (rp.hd Dl mem).2⟩
        cases qt : tt τ1 s with
        | bad => rw [qt] at h2; exact h2.elim
        | exc C fs s2 => rw [qt] at h2; exact h2.elim
        | ok b s2 =>
          rw [qt] at h2
          refine ⟨ρ, τ1, s, r2, e2, ?_⟩
          rw [qt]
          intro ρ3 H3 m3 r3
          have h4 : Post X.K X.mg W ρ1 H1 σ (compEnd ads (if b = true then (te τ1 s2).nox.bind fun x s => if ads.length < sizeLine then (compL g tt te (wipeD τ vs) (ads.length + 1) (ds.drop (i + 1)) s).bind fun xs s => .ok (x :: xs) s else .bad else compL g tt te (wipeD τ vs) ads.length (ds.drop (i + 1)) s2)) (fun ρ' H' d _ => ∀ v, IsV X.K X.mg ρ' H' v d → Q v H') := h2
          cases b with
          | false =>
            rw [if_neg Bool.false_ne_true] at h4
            obtain ⟨b1, b2, b3, b4⟩ := back m3
            exact ⟨ρ3, s2, acc, ads, b1, b2, b3, r3, (e.mono l2).mono m3, b4, (hacc.mono l2).mono m3, h4⟩
          | true =>
            rw [if_pos rfl] at h4
            show tM X.K X.mg WN te σ2 H3 fun y H4 => _
            cases qe : te τ1 s2 with
            | bad => rw [qe] at h4; exact h4.elim
            | exc C fs s4 => rw [qe] at h4; exact h4.elim
            | ok z s4 =>
              rw [qe] at h4
              refine ⟨ρ3, τ1, s2, r3, e2.mono m3, ?_⟩
              rw [qe]
              intro ρ4 H4 m4 r4 v hv
              have m34 := m3.trans m4
              obtain ⟨b1, b2, b3, b4⟩ := back m34
              have h5 : Post X.K X.mg W ρ1 H1 σ (compEnd ads (if ads.length < sizeLine then (compL g tt te (wipeD τ vs) (ads.length + 1) (ds.drop (i + 1)) s4).bind fun xs s => .ok (z :: xs) s else .bad)) (fun ρ' H' d _ => ∀ v, IsV X.K X.mg ρ' H' v d → Q v H') := h4
              have hacc4 := (hacc.mono l2).mono m34
              by_cases hz : ads.length < sizeLine
              · rw [if_pos hz] at h5
                have mem4 : Dl ∈ ρ4.hid := by rw [b1]; exact List.mem_cons_self
                have e6 : compEnd ads ((compL g tt te (wipeD τ vs) (ads.length + 1) (ds.drop (i + 1)) s4).bind fun xs s => .ok (z :: xs) s) = compEnd (ads ++ [z]) (compL g tt te (wipeD τ vs) (ads ++ [z]).length (ds.drop (i + 1)) s4) := by
                  have el : (ads ++ [z]).length = ads.length + 1 := by simp
                  rw [el]
                  unfold compEnd
                  rw [bind_assoc]
                  congr 1
                  funext xs s
                  show R.ok (D.fls (ads ++ z :: xs)) s = R.ok (D.fls (ads ++ [z] ++ xs)) s
                  rw [List.append_assoc]; rfl
                rw [e6] at h5
                refine ⟨acc, b4, by rw [hacc4.length]; exact hz, ρ4, s4, acc ++ [v], ads ++ [z], b1, b2.mut hD, b3.trans (Ex.hput mem4), r4.hput mem4, ((e.mono l2).mono m34).ex (Ex.hput mem4), upd_same, (hacc4.append (.cons hv .nil)).ex (Ex.hput mem4), h5⟩
              · rw [if_neg hz] at h5; exact h5.elim
    · left
      have ei : ds.drop i = [] := List.drop_eq_nil_of_le (by omega)
      rw [ei] at h
      refine ⟨stop (by omega), h ⟨ρ.pl, ρ1.hid⟩ H l (rp.unhide eh) _ ?_⟩
      rw [List.append_nil]
      exact .fls hDl ⟨(rp.hd Dl mem).2, offl.2⟩ (hacc.ex (Ex.unhide eh))
theorem pm_lc {elt tg iter : Expr} {ifs : List Expr} {scope : Scope} {vs : List Nat} {mi : MI} {g : Tgt} {tt : MB} {te : M} {tx : TT} (hi : PMI X W tg iter mi) (hs : ∀ i ∈ g.slots, i ∈ vs)
    (htx : ∀ σ H Q, tMB X.K X.mg WN tt σ H Q → tx σ H Q)
    (rule : ∀ {wi : TI}, PI X tg iter wi → PE X (.ListComp elt [⟨tg, iter, ifs, 0⟩] scope pos) (tLc wi (tgtG X.K g) tx (tM X.K X.mg WN te) vs)) :
    PM X W (.ListComp elt [⟨tg, iter, ifs, 0⟩] scope pos) (lcM mi g tt te vs) :=
  PE.imp (rule hi) (lc_go hs htx)
/-- y = [..] -/
theorem pms_setLc {elt tg iter : Expr} {ifs : List Expr} {scope : Scope} {vs : List Nat} {mi : MI} {g : Tgt} {tt : MB} {te : M} {tx : TT} {k : Nat} {y : Str} {py spos : Pos} (hi : PMI X W tg iter mi) (hs : ∀ i ∈ g.slots, i ∈ vs)
    (htx : ∀ σ H Q, tMB X.K X.mg WN tt σ H Q → tx σ H Q)
    (rule : ∀ {wi : TI}, PI X tg iter wi → PS X (.Assign [.Name y py] (.ListComp elt [⟨tg, iter, ifs, 0⟩] scope pos) spos) (tAsg (tLc wi (tgtG X.K g) tx (tM X.K X.mg WN te) vs) (gName k))) :
    PMS X W (.Assign [.Name y py] (.ListComp elt [⟨tg, iter, ifs, 0⟩] scope pos) spos) (setM k (lcM mi g tt te vs)) :=
  PS.imp (rule hi) fun D' σ H ⟨ρ, τ, s, rp, e, h⟩ => lc_go hs htx σ H _ (tM_go rp e (PostS.expr e h) fun ρ1 H1 d s1 v l1 r1 e1 hv h1 => h1 ρ1 H1 _ .refl r1 (e1.set k hv))
end
end FL

set_option Elab.async false
set_option linter.all false
set_option maxRecDepth 100000
set_option maxHeartbeats 4000000
namespace FL
open PySem PySem.Spec PyProof.Rows L2
/-! ### a def's end: what it made and did not hand on is forgotten, what it hands on stands still -/
mutual
def subD (r : Nat → Option D) : D → Option D
  | .obj i => r i
  | .tup ds => (subL r ds).map .tup
  | .fls ds => (subL r ds).map .fls
  | .wls ds => (subL r ds).map .wls
  | .ist C fs => (subF r fs).map (.ist C)
  | .non => some .non
  | .bl b => some (.bl b)
  | .int i => some (.int i)
  | .str x => some (.str x)
  | .glo x => some (.glo x)
  | .ty n => some (.ty n)
def subL (r : Nat → Option D) : List D → Option (List D)
  | [] => some []
  | d :: ds => match subD r d, subL r ds with
    | some x, some xs => some (x :: xs)
    | _, _ => none
def subF (r : Nat → Option D) : List (Str × D) → Option (List (Str × D))
  | [] => some []
  | (f, d) :: ds => match subD r d, subF r ds with
    | some x, some xs => some ((f, x) :: xs)
    | _, _ => none
end
def look (s : Sto) (n0 : Nat) : Nat → Nat → Option D
  | 0, i => if i < n0 then some (.obj i) else none
  | k + 1, i => if i < n0 then some (.obj i) else match s[i]? with
    | some (.lst ds) => (subL (look s n0 k) ds).map .fls
    | some (.ins C fs) => (subF (look s n0 k) fs).map (.ist C)
    | none => none
def subO (r : Nat → Option D) : O → Option O
  | .lst ds => (subL r ds).map .lst
  | .ins C fs => (subF r fs).map (.ins C)
def subS (r : Nat → Option D) : Sto → Option Sto
  | [] => some []
  | o :: os => match subO r o, subS r os with
    | some x, some xs => some (x :: xs)
    | _, _ => none
def trimR (n0 : Nat) : R D → R D
  | .ok d s => if s.length ≤ n0 then .ok d s else match subD (look s n0 8) d, subS (look s n0 8) (s.take n0) with
    | some d', some s' => .ok d' s'
    | _, _ => .bad
  | .exc C fs s => if s.length ≤ n0 then .exc C fs s else match subF (look s n0 8) fs, subS (look s n0 8) (s.take n0) with
    | some fs', some s' => .exc C fs' s'
    | _, _ => .bad
  | .bad => .bad
section
variable {K : PySem.W.Frag} {mg : Str → Option Value} {ρ ρ' : Rr} {H H' : Hp} {r : Nat → Option D}
/-- what a name of a place is read as, in a store that holds less -/
structure Less (K : PySem.W.Frag) (mg : Str → Option Value) (ρ' ρ : Rr) (H' : Hp) (r : Nat → Option D) : Prop where
  off : ∀ a, ρ'.off a → ρ.off a
  obj : ∀ i d a, r i = some d → ρ'.pl[i]? = some a → IsV K mg ρ H' (.ref a) d
theorem Less.rt (l : Less K mg ρ' ρ H' r) {a : Addr} {xs : List V} (h : Rt K ρ' H' a xs) : Rt K ρ H' a xs := h.imp (fun h => ⟨h.1, l.off _ h.2⟩) id
theorem Less.rl (l : Less K mg ρ' ρ H' r) {a : Addr} {xs : List V} (h : Rl K ρ' H' a xs) : Rl K ρ H' a xs := h.imp (fun h => ⟨h.1, l.off _ h.2⟩) id
mutual
theorem IsV.sub (l : Less K mg ρ' ρ H' r) : ∀ {v : V} {d d' : D}, IsV K mg ρ' H' v d → subD r d = some d' → IsV K mg ρ H' v d'
  | _, _, _, .non, e => by cases (show some D.non = _ from e); exact .non
  | _, _, _, .bl (b := b), e => by cases (show some (D.bl b) = _ from e); exact .bl
  | _, _, _, .int (i := i), e => by cases (show some (D.int i) = _ from e); exact .int
  | _, _, _, .str (x := x), e => by cases (show some (D.str x) = _ from e); exact .str
  | _, _, _, .tup (ds := ds) h hs, e => by
    cases q : subL r ds with
    | none => rw [subD, q] at e; cases e
    | some ds' => rw [subD, q] at e; cases e; exact .tup (l.rt h) (IsVs.sub l hs q)
  | _, _, _, .fls (ds := ds) h n hs, e => by
    cases q : subL r ds with
    | none => rw [subD, q] at e; cases e
    | some ds' => rw [subD, q] at e; cases e; exact .fls h (l.off _ n) (IsVs.sub l hs q)
  | _, _, _, .wls (ds := ds) h hs, e => by
    cases q : subL r ds with
    | none => rw [subD, q] at e; cases e
    | some ds' => rw [subD, q] at e; cases e; exact .wls (l.rl h) (IsVs.sub l hs q)
  | _, _, _, .ist (fs := fs) hc h n hs, e => by
    cases q : subF r fs with
    | none => rw [subD, q] at e; cases e
    | some ds' => rw [subD, q] at e; cases e; exact .ist hc h (l.off _ n) (IsFs.sub l hs q)
  | _, _, _, .obj h, e => l.obj _ _ _ e h
  | _, _, _, .glo (x := x) h, e => by cases (show some (D.glo x) = _ from e); exact .glo h
  | _, _, _, .ty (n := n), e => by cases (show some (D.ty n) = _ from e); exact .ty
theorem IsVs.sub (l : Less K mg ρ' ρ H' r) : ∀ {vs : List V} {ds ds' : List D}, IsVs K mg ρ' H' vs ds → subL r ds = some ds' → IsVs K mg ρ H' vs ds'
  | _, _, _, .nil, e => by cases (show some ([] : List D) = _ from e); exact .nil
  | _, _, _, .cons (d := d) (ds := ds) h t, e => by
    rw [subL] at e
    cases q1 : subD r d with
    | none => rw [q1] at e; cases e
    | some d' =>
      cases q2 : subL r ds with
      | none => rw [q1, q2] at e; cases e
      | some ds' => rw [q1, q2] at e; cases e; exact .cons (IsV.sub l h q1) (IsVs.sub l t q2)
theorem IsFs.sub (l : Less K mg ρ' ρ H' r) : ∀ {vs : List (Str × V)} {ds ds' : List (Str × D)}, IsFs K mg ρ' H' vs ds → subF r ds = some ds' → IsFs K mg ρ H' vs ds'
  | _, _, _, .nil, e => by cases (show some ([] : List (Str × D)) = _ from e); exact .nil
  | _, _, _, .cons (d := d) (ds := ds) h t, e => by
    rw [subF] at e
    cases q1 : subD r d with
    | none => rw [q1] at e; cases e
    | some d' =>
      cases q2 : subF r ds with
      | none => rw [q1, q2] at e; cases e
      | some ds' => rw [q1, q2] at e; cases e; exact .cons (IsV.sub l h q1) (IsFs.sub l t q2)
end
theorem OkO.sub (l : Less K mg ρ' ρ H' r) {a : Addr} {o o' : O} (h : OkO K mg ρ' H' a o) (e : subO r o = some o') : OkO K mg ρ H' a o' := by
  cases o with
  | lst ds =>
    obtain ⟨xs, h1, h2⟩ := h
    change (subL r ds).map O.lst = some o' at e
    cases q : subL r ds with
    | none => rw [q] at e; cases e
    | some ds' => rw [q] at e; cases e; exact ⟨xs, h1, h2.sub l q⟩
  | ins C fs =>
    obtain ⟨ca, dx, gs, h0, h1, h2⟩ := h
    change (subF r fs).map (O.ins C) = some o' at e
    cases q : subF r fs with
    | none => rw [q] at e; cases e
    | some ds' => rw [q] at e; cases e; exact ⟨ca, dx, gs, h0, h1, h2.sub l q⟩
theorem subS_get : ∀ {s s' : Sto}, subS r s = some s' → s'.length = s.length ∧ ∀ (i : Nat) (o' : O), s'[i]? = some o' → ∃ o, s[i]? = some o ∧ subO r o = some o'
  | [], s', e => by cases e; exact ⟨rfl, fun i o' h => by simp at h⟩
  | o :: os, s', e => by
    unfold subS at e
    cases q1 : subO r o with
    | none => rw [q1] at e; cases e
    | some x =>
      cases q2 : subS r os with
      | none => rw [q1, q2] at e; cases e
      | some xs =>
        rw [q1, q2] at e
        cases e
        obtain ⟨h1, h2⟩ := subS_get q2
        refine ⟨congrArg (· + 1) h1, fun i o' h => ?_⟩
        cases i with
        | zero => cases h; exact ⟨o, rfl, q1⟩
        | succ i =>
          obtain ⟨o2, h3, h4⟩ := h2 i o' (by simpa using h)
          exact ⟨o2, by simpa using h3, h4⟩
/-- the places behind the entry's -/
theorem less_look (l : Le ρ H ρ' H') {s : Sto} (rp : Rep K mg ρ' H' s) : ∀ k, Less K mg ρ' ρ H' (look s ρ.pl.length k) := by
  obtain ⟨t, rfl, fr⟩ := l.pre
  have off : ∀ a, (Rr.mk (ρ.pl ++ t) ρ.hid).off a → ρ.off a := fun a h => ⟨fun q => h.1 (List.mem_append_left _ q), h.2⟩
  have low : ∀ (i : Nat) (a : Addr), i < ρ.pl.length → (ρ.pl ++ t)[i]? = some a → ρ.pl[i]? = some a := fun i a hi h => by rwa [List.getElem?_append_left hi] at h
  intro k
  induction k with
  | zero =>
    refine ⟨off, fun i d a h1 h2 => ?_⟩
    unfold look at h1
    by_cases hi : i < ρ.pl.length
    · rw [if_pos hi] at h1
      cases h1
      exact .obj (low i a hi h2)
    · rw [if_neg hi] at h1; cases h1
  | succ k ih =>
    refine ⟨off, fun i d a h1 h2 => ?_⟩
    unfold look at h1
    by_cases hi : i < ρ.pl.length
    · rw [if_pos hi] at h1
      cases h1
      exact .obj (low i a hi h2)
    · rw [if_neg hi] at h1
      have na : ρ.off a := by
        have nd : (ρ.pl ++ t).Nodup := rp.nd
        have h3 : t[i - ρ.pl.length]? = some a := by
          have h2' : (ρ.pl ++ t)[i]? = some a := h2
          rwa [List.getElem?_append_right (by omega)] at h2'
        refine ⟨fun q => ?_, fun q => (rp.hd a q).2 (List.mem_of_getElem? h2)⟩
        exact (List.nodup_append.mp nd).2.2 a q a (List.mem_of_getElem? h3) rfl
      cases q : s[i]? with
      | none => rw [q] at h1; cases h1
      | some o =>
        have ho := rp.at_ i a o h2 q
        rw [q] at h1
        cases o with
        | lst ds =>
          obtain ⟨xs, e1, e2⟩ := ho
          cases q2 : subL (look s ρ.pl.length k) ds with
          | none => simp only [q2] at h1; cases h1
          | some ds' => simp only [q2] at h1; cases h1; exact .fls e1 na (e2.sub ih q2)
        | ins C fs =>
          obtain ⟨ca, dx, gs, e0, e1, e2⟩ := ho
          cases q2 : subF (look s ρ.pl.length k) fs with
          | none => simp only [q2] at h1; cases h1
          | some ds' => simp only [q2] at h1; cases h1; exact .ist e0 e1 na (e2.sub ih q2)
theorem rep_less (l : Le ρ H ρ' H') {s s' : Sto} (rp : Rep K mg ρ' H' s) (hn : ρ.pl.length ≤ s.length) (he : subS (look s ρ.pl.length 8) (s.take ρ.pl.length) = some s') : Le ρ H ρ H' ∧ Rep K mg ρ H' s' := by
  obtain ⟨h1, h2⟩ := subS_get he
  have ls := less_look l rp 8
  have q := l.pre
  obtain ⟨t, e, fr⟩ := q
  refine ⟨⟨⟨[], by rw [List.append_nil], fun _ h => absurd h (by simp)⟩, l.liv, l.frm⟩, ?_, ?_, ?_, ?_⟩
  · rw [h1, List.length_take]; omega
  · have nd := rp.nd
    rw [e] at nd
    exact (List.nodup_append.mp nd).1
  · intro a ha
    have z := rp.hd a (by rw [e]; exact ha)
    rw [e] at z
    exact ⟨z.1, fun q => z.2 (List.mem_append_left _ q)⟩
  · intro i a o' ha ho
    obtain ⟨o, g1, g2⟩ := h2 i o' ho
    have hi : i < ρ.pl.length := (List.getElem?_eq_some_iff.mp ha).1
    rw [List.getElem?_take_of_lt hi] at g1
    exact (rp.at_ i a o (l.get ha) g1).sub ls g2
theorem Post.trim {W : WX} {σ : L2.St} {x : R D} {s0 : Sto} {Q : VK} (r0 : Rep K mg ρ H s0) (h : Post K mg W ρ H σ (trimR s0.length x) (fun ρ' H' d _ => ∀ v, IsV K mg ρ' H' v d → Q v H')) :
    Post K mg W ρ H σ x (fun ρ' H' d _ => ∀ v, IsV K mg ρ' H' v d → Q v H') := by
  rw [← r0.len] at h
  cases x with
  | bad => exact h
  | ok d s =>
    unfold trimR at h
    simp only at h
    by_cases hl : s.length ≤ ρ.pl.length
    · rw [if_pos hl] at h; exact h
    · rw [if_neg hl] at h
      intro ρ' H' l rp v hv
      cases q1 : subD (look s ρ.pl.length 8) d with
      | none => rw [q1] at h; exact h.elim
      | some d' =>
        cases q2 : subS (look s ρ.pl.length 8) (s.take ρ.pl.length) with
        | none => rw [q1, q2] at h; exact h.elim
        | some s' =>
          rw [q1, q2] at h
          obtain ⟨l2, r2⟩ := rep_less l rp (by omega) q2
          exact h ρ H' l2 r2 v (hv.sub (less_look l rp 8) q1)
  | exc C fs s =>
    unfold trimR at h
    simp only at h
    by_cases hl : s.length ≤ ρ.pl.length
    · rw [if_pos hl] at h; exact h
    · rw [if_neg hl] at h
      intro ρ' H' ca dd gs l rp hc hd hg
      cases q1 : subF (look s ρ.pl.length 8) fs with
      | none => rw [q1] at h; exact h.elim
      | some fs' =>
        cases q2 : subS (look s ρ.pl.length 8) (s.take ρ.pl.length) with
        | none => rw [q1, q2] at h; exact h.elim
        | some s' =>
          rw [q1, q2] at h
          obtain ⟨l2, r2⟩ := rep_less l rp (by omega) q2
          exact h ρ H' ca dd gs l2 r2 hc hd (hg.sub (less_look l rp 8) q1)
end
/-! ### a def -/
abbrev Fn := List D → Sto → R D
def RS.fin : RS → R D
  | .nx _ s => .ok .non s
  | .rt d s => .ok d s
  | .exc C fs _ s => .exc C fs s
  | _ => .bad
def startD (N : Nat) (ds : List D) : Env' := ds.map some ++ List.replicate (N - ds.length) none
def fnM (n N : Nat) (m : MS) : Fn := fun ds s => if ds.length = n then trimR s.length (m (startD N ds) s).fin else .bad
def spM (K : PySem.W.Frag) (mg : Str → Option Value) (n : Nat) (F : Fn) : Sp := fun vs H Q E => vs.length = n ∧ ∃ ρ s ds, Rep K mg ρ H s ∧ IsVs K mg ρ H vs ds ∧
  Post K mg (fun c d _ H' => E c d H') ρ H [] (F ds s) (fun ρ' H' d _ => ∀ v, IsV K mg ρ' H' v d → Q v H')
theorem evs_off {K : PySem.W.Frag} {mg : Str → Option Value} {ρ : Rr} {H : Hp} : ∀ k : Nat, Evs K mg ρ H (List.replicate k none) (List.replicate k none)
  | 0 => .nil
  | k + 1 => .off (evs_off k)
theorem evs_start {K : PySem.W.Frag} {mg : Str → Option Value} {ρ : Rr} {H : Hp} (k : Nat) : ∀ {vs : List V} {ds : List D}, IsVs K mg ρ H vs ds → Evs K mg ρ H (vs.map some ++ List.replicate k none) (ds.map some ++ List.replicate k none)
  | _, _, .nil => evs_off k
  | _, _, .cons h t => .on h (evs_start k t)
section
variable {P : Program} {w : World} {K : PySem.W.Frag} {mg : Str → Option Value} {base : Heap} {x qual : Str} {params : Arguments} {body : List Stmt} {scope : Scope} {dvs : List V} {kws : List (Str × V)} {f : Addr} {fd : FuncData} {N ps : List Str} {k : Nat}
/-- THE RULE of a def: its body's reading -/
theorem fn_okM (F : FunD K x qual params body scope dvs kws f fd) (S : FnScope N ps scope) {n m : Nat} {mb : MS} (hn : ps.length = n) (hm : N.length = m)
    (hbody : ∀ (cdv : Value) (A : Around) (outer : List Env) (s : Shared) (H : Hp) (E : XK), Room k (A.deeper (envOfC qual scope s.heap.objs.size f cdv)) →
      PMSs (cxOf (L2.CX P w) P w K mg base N qual scope f cdv A outer s H E) (fun c d _ H' => E c d H') body mb) : FnOk P w K mg base (L2.CX P w) (k + 1) f fd ps (spM K mg n (fnM n m mb)) := by
  refine F.ok S (fun vs H Q E h => by rw [hn]; exact h.1) fun cdv A outer s H vs Q E hr ⟨hl, ρ, st, ds, rp, hv, h⟩ => ⟨_, hbody cdv A outer s H E hr, ρ, startD m ds, st, rp, ?_, ?_⟩
  · unfold startD L2.start
    rw [← hv.length, hm]
    exact evs_start _ hv
  · unfold fnM at h
    rw [if_pos (by rw [← hv.length]; exact hl)] at h
    have h2 := Post.trim rp h
    cases q : mb (startD m ds) st with
    | nx τ s' => rw [q] at h2; exact fun ρ' H' σ' l r e => h2 ρ' H' l r _ .non
    | rt d s' => rw [q] at h2; exact fun ρ' H' v l r hv => h2 ρ' H' l r v hv
    | exc C fs τ s' => rw [q] at h2; exact fun ρ' H' σ' ca dd gs l r e hc hd hg => h2 ρ' H' ca dd gs l r hc hd hg
    | bk τ s' => rw [q] at h2; exact h2.elim
    | ct τ s' => rw [q] at h2; exact h2.elim
    | bad => rw [q] at h2; exact h2.elim
/-- a def that is never run this deep -/
theorem fn_badM {n : Nat} {CX : CXT} (hn : ps.length = n) : FnOk P w K mg base CX k f fd ps (spM K mg n fun _ _ => .bad) :=
  ⟨fun vs H Q E h => by rw [hn]; exact h.1, fun A outer s H args us vs Q E hr e0 hb r ⟨_, _, _, _, _, _, h⟩ => h.elim⟩
end
/-! ### what is called -/
/-- the thing at f, called with values, does F -/
def Does (X : Cx) (W : WX) (f : Addr) (F : Fn) : Prop := ∀ (pins : List (Addr × Obj)) (s : Shared) (σ : L2.St) (H : Hp) (us : List Value) (vs : List V) (Q : VK) (ρ : Rr) (st : Sto) (ds : List D),
  Inv X pins σ H s → Vals vs us → Rep X.K X.mg ρ H st → IsVs X.K X.mg ρ H vs ds → Post X.K X.mg W ρ H σ (F ds st) (fun ρ' H' d _ => ∀ v, IsV X.K X.mg ρ' H' v d → Q v H') →
  wpAny (model X.prog X.w) X.A (call (.ref f) us) (EP X pins σ Q) X.xe s
def moreF (ws : List D) (F : Fn) : Fn := fun ds s => F (ds ++ ws) s
theorem Post.slots {α : Type} {K : PySem.W.Frag} {mg : Str → Option Value} {W : WX} {ρ : Rr} {H : Hp} {σ σ2 : L2.St} {r : R α} {P : Rr → Hp → α → Sto → Prop} (h : Post K mg W ρ H σ r P) : Post K mg (fun c d _ H' => WE W σ c d H') ρ H σ2 r P := by
  cases r with
  | ok a s => exact h
  | exc C fs s => exact h
  | bad => exact h
section
variable {X : Cx} {W : WX} {k n : Nat} {f C : Addr} {fd : FuncData} {ps : List Str} {F : Fn}
theorem does_fn {dvs : List V} {ws : List D} {ds : List Value} (Fo : FnOk X.prog X.w X.K X.mg X.base (L2.CX X.prog X.w) k f fd ps (spM X.K X.mg n F)) (hr : Room k X.A) (tk : Takes X W) (hb : Binds X.K fd ps ds) (hd : Vals dvs ds) (hn : ps.length = n)
    (hw : ∀ ρ H, IsVs X.K X.mg ρ H dvs ws) (hl : ∀ ds s, ds.length ≠ n → F ds s = .bad := by intro ds s h; first | exact if_neg h | rfl) : Does X W f (moreF ws F) := by
  intro pins s σ H us vs Q ρ st xs I r rp hv h
  have hv2 := hv.append (hw ρ H)
  refine run_fnSD (E := fun σ => WE W σ) Fo hr hb hd (passAt tk σ) I r ⟨?_, ρ, st, xs ++ ws, rp, hv2, Post.slots h⟩
  by_cases hq : (xs ++ ws).length = n
  · rw [hv2.length]; exact hq
  · have h' : Post X.K X.mg W ρ H σ (F (xs ++ ws) st) _ := h
    rw [hl _ st hq] at h'
    exact h'.elim
theorem does_fn0 (Fo : FnOk X.prog X.w X.K X.mg X.base (L2.CX X.prog X.w) k f fd ps (spM X.K X.mg n F)) (hr : Room k X.A) (tk : Takes X W) (hb : Binds X.K fd ps []) (hn : ps.length = n)
    (hl : ∀ ds s, ds.length ≠ n → F ds s = .bad := by intro ds s h; first | exact if_neg h | rfl) : Does X W f F := by
  have z := does_fn (W := W) (ws := []) Fo hr tk hb (.nil) hn (fun _ _ => .nil) hl
  have e : moreF [] F = F := by
    funext ds s
    unfold moreF
    rw [List.append_nil]
  rwa [e] at z
/-- C(..): the instance, its __init__, then it stands still -/
def newF (C : Str) (F : Fn) : Fn := fun ds s => trimR s.length ((F (.obj s.length :: ds) (s ++ [.ins C []])).nox.bind fun r s' => match r with
  | .non => .ok (.obj s.length) s'
  | _ => .bad)
theorem le_made {ρ : Rr} {H : Hp} {x dx : Addr} {C : Addr} (hx : H x = none) (hd : H dx = none) (ne : dx ≠ x) : Le ρ H (ρ.push x) (upd (upd H dx (.own x)) x (.ins C dx [])) :=
  (Le.new hd).trans (Le.push (by rw [upd_ne ne.symm]; exact hx))
theorem does_new {dvs : List V} {ws : List D} {ds : List Value} {Cn : Str} (M : Mk X.K C f) (Fo : FnOk X.prog X.w X.K X.mg X.base (L2.CX X.prog X.w) k f fd ps (spM X.K X.mg (n + 1) F)) (hr : Room (k + 1) X.A) (hm : X.mg Cn = some (.ref C)) (hb : Binds X.K fd ps ds) (hd : Vals dvs ds)
    (hn : ps.length = n + 1) (hw : ∀ ρ H, IsVs X.K X.mg ρ H dvs ws) (hl : ∀ ds s, ds.length ≠ n + 1 → F ds s = .bad := by intro ds s h; first | exact if_neg h | rfl) : Does X W C (newF Cn (moreF ws F)) := by
  intro pins s σ H us vs Q ρ st xs I r rp hv h
  have h2 := Post.trim rp h
  refine run_make (E := E0) (Q := Q) M Fo hr hb hd passL I r fun x dx hx hdx ne => ?_
  have l := le_made (ρ := ρ) (C := C) hx hdx ne
  have hx1 : upd H dx (.own x) x = none := by rw [upd_ne ne.symm]; exact hx
  have rp2 : Rep X.K X.mg (ρ.push x) (upd (upd H dx (.own x)) x (.ins C dx [])) (st ++ [.ins Cn []]) := (rp.new hdx).push hx1 ⟨C, dx, [], hm, upd_same, .nil⟩
  have hpl : (ρ.push x).pl[st.length]? = some x := by
    show (ρ.pl ++ [x])[st.length]? = some x
    rw [← rp.len, List.getElem?_append_right (Nat.le_refl _), Nat.sub_self]
    rfl
  have hv2 : IsVs X.K X.mg (ρ.push x) (upd (upd H dx (.own x)) x (.ins C dx [])) (.ref x :: (vs ++ dvs)) (.obj st.length :: (xs ++ ws)) := .cons (.obj hpl) ((hv.mono l).append (hw _ _))
  refine ⟨?_, ρ.push x, _, _, rp2, hv2, ?_⟩
  · by_cases hq : (D.obj st.length :: (xs ++ ws)).length = n + 1
    · rw [hv2.length]; exact hq
    · have e : moreF ws F (.obj st.length :: xs) (st ++ [.ins Cn []]) = .bad := hl _ _ hq
      rw [e] at h2
      exact h2.elim
  · have h3 : Post X.K X.mg W (ρ.push x) (upd (upd H dx (.own x)) x (.ins C dx [])) σ ((F (.obj st.length :: (xs ++ ws)) (st ++ [.ins Cn []])).nox.bind fun r s' => match r with
      | .non => .ok (.obj st.length) s'
      | _ => .bad) (fun ρ' H' d _ => ∀ v, IsV X.K X.mg ρ' H' v d → Q v H') := Post.le l h2
    cases q : F (.obj st.length :: (xs ++ ws)) (st ++ [.ins Cn []]) with
    | bad => rw [q] at h3; exact h3.elim
    | exc Cx fs s' => rw [q] at h3; exact h3.elim
    | ok d s' =>
      rw [q] at h3
      intro ρ' H' l2 r2 v hv
      cases d with
      | non =>
        cases hv
        exact ⟨rfl, h3 ρ' H' l2 r2 _ (.obj (l2.get hpl))⟩
      | _ => exact h3.elim
end
/-! ### calls -/
def callM (F : Fn) (m : MA) : M := fun τ s => (m τ s).bind fun ds s => F ds s
section
variable {X : Cx} {W : WX} {f : Addr} {F : Fn} {x : Str} {p pos : Pos} {e : Expr} {es : List Expr} {m : MA}
theorem pm_callN (hf : Does X W f F) (hg : Gl X x) (hm : X.mg x = some (.ref f)) (hk : PySem.W.keepIn X.K (.ref f) = true) (ha : PMA X W (e :: es) m) (hdb : (x == ("__debug__" : Str)) = false := by decide)
    (he : starEach (e :: es) X.env = (false, eval e X.env) :: starEach es X.env := by rfl) (hpl : (backTo pos (starEach es X.env)).any (·.1) = false := by rfl) : PM X W (.Call (.Name x p) (e :: es) [] pos) (callM F m) := by
  refine ⟨fun pins s σ H Q I ⟨ρ, τ, st, rp, ev, h⟩ => ?_⟩
  refine wpAny_Call_Name_kw (ld_glob I hg hm ?_ hdb)
  refine PySem.W.callWith_K (h₀ := X.base) I.ok.mod.kin hk (thn (ha.run pos pins s σ H (fun vs H1 => ∀ us s1, Inv X pins σ H1 s1 → Vals vs us → wpAny (model X.prog X.w) X.A (call (.ref f) us) (EP X pins σ Q) X.xe s1) I (tMA_go rp ev (Post.bind h) fun ρ1 H1 ds s1 vs l1 r1 e1 hv h1 => ?_)) fun us s1 ⟨vs, H1, I1, r, q⟩ => ⟨I1.kIn, q us s1 I1 r⟩) he hpl
  · exact fun us s1 I1 r => hf pins s1 σ H1 us vs Q ρ1 _ ds I1 r r1 hv h1
theorem pm_callN0 (hf : Does X W f F) (hg : Gl X x) (hm : X.mg x = some (.ref f)) (hk : PySem.W.keepIn X.K (.ref f) = true) (hdb : (x == ("__debug__" : Str)) = false := by decide) : PM X W (.Call (.Name x p) [] [] pos) (callM F nilA) := by
  refine ⟨fun pins s σ H Q I ⟨ρ, τ, st, rp, ev, h⟩ => ?_⟩
  refine wpAny_Call_Name_kw (ld_glob I hg hm ?_ hdb)
  exact PySem.W.callWith_K0 I.kIn hk (hf pins s σ H [] [] Q ρ st [] I .nil rp .nil h)
/-- *e among arguments -/
def starA (m : M) (n : MA) : MA := fun τ s => (m τ s).bind fun d s => match d with
  | .tup ds => (n τ s).bind fun es s => .ok (ds ++ es) s
  | .fls ds => (n τ s).bind fun es s => .ok (ds ++ es) s
  | .wls ds => (n τ s).bind fun es s => .ok (ds ++ es) s
  | _ => .bad
theorem pma_star {m : M} {n : MA} (he : PM X W e m) (hr : PMA X W es n) (hs : starEach (.Starred e p :: es) X.env = (true, eval e X.env) :: starEach es X.env := by rfl) : PMA X W (.Starred e p :: es) (starA m n) :=
  PA.imp (StX.pa_star he hr hs) fun σ H Q ⟨ρ, τ, s, rp, ev, h⟩ => tM_go rp ev (Post.bind h) fun ρ1 H1 d s1 v l1 r1 e1 hv h1 => by
    cases hv with
    | @tup a xs ds ht hs =>
      exact ⟨a, xs, rfl, .inl ht.sq, tMA_go r1 e1 (Post.bind h1) fun ρ2 H2 ys s2 us l2 r2 e2 hu h2 => h2 ρ2 H2 .refl r2 _ ((hs.mono l2).append hu)⟩
    | @fls a xs ds ht n hs =>
      exact ⟨a, xs, rfl, .inr (.of ht), tMA_go r1 e1 (Post.bind h1) fun ρ2 H2 ys s2 us l2 r2 e2 hu h2 => h2 ρ2 H2 .refl r2 _ ((hs.mono l2).append hu)⟩
    | @wls a xs ds ht hs =>
      exact ⟨a, xs, rfl, .inr ht.sq, tMA_go r1 e1 (Post.bind h1) fun ρ2 H2 ys s2 us l2 r2 e2 hu h2 => h2 ρ2 H2 .refl r2 _ ((hs.mono l2).append hu)⟩
    | _ => exact h1.elim
end
end FL

set_option Elab.async false
set_option linter.all false
set_option maxRecDepth 100000
set_option maxHeartbeats 4000000
namespace FL
open PySem PySem.Spec PyProof.Rows L2
theorem evalArgs_more {M : Model} {A : Around} {E : Value → Shared → Prop} {s : Shared} {f : Value} {x y : Bool × Sem Value} {rest : List (Bool × Sem Value)} {Q : Args → Shared → Prop}
    (h : wpAny M A (spliced (x :: y :: rest)) (fun vs s' => Q ⟨vs, []⟩ s') E s) : wpAny M A (evalArgs f true (x :: y :: rest) []) Q E s := by
  obtain ⟨b, x⟩ := x
  unfold evalArgs
  cases b <;>
  · show wpAny M A (spliced (_ :: y :: rest) >>= _) Q E s
    refine wpAny_bind (wpAny_mono h (fun vs s' h' => ?_) fun _ _ x => x)
    refine wpAny_holding ?_
    exact wpAny_bind (wpAny_pure (wpAny_bind (wpAny_pure (wpAny_pure h'))))
section
variable {X : Cx} {W : WX} {f : Addr} {F : Fn} {x : Str} {p pos p1 p2 : Pos} {e : Expr} {es : List Expr} {m : MA} {me : M}
/-- f(*e) -/
theorem pm_callS1 (hf : Does X W f F) (hg : Gl X x) (hm : X.mg x = some (.ref f)) (hk : PySem.W.keepIn X.K (.ref f) = true) (he : PM X W e me) (hdb : (x == ("__debug__" : Str)) = false := by decide)
    (hst : starEach [.Starred e p1] X.env = [(true, eval e X.env)] := by rfl) : PM X W (.Call (.Name x p) [.Starred e p1] [] pos) (callM F (starA me nilA)) := by
  refine ⟨fun pins s σ H Q I ⟨ρ, τ, st, rp, ev, h⟩ => ?_⟩
  refine wpAny_Call_Name_kw (ld_glob I hg hm ?_ hdb)
  have h0 : Post X.K X.mg W ρ H σ ((me τ st).bind fun d s => ((match d with
    | .tup ds => R.ok ds s
    | .fls ds => .ok ds s
    | .wls ds => .ok ds s
    | _ => .bad : R (List D))).bind fun ds s => F ds s) (fun ρ' H' d _ => ∀ v, IsV X.K X.mg ρ' H' v d → Q v H') := by
    have e0 : callM F (starA me nilA) τ st = (me τ st).bind fun d s => ((match d with
    | .tup ds => R.ok ds s
    | .fls ds => .ok ds s
    | .wls ds => .ok ds s
    | _ => .bad : R (List D))).bind fun ds s => F ds s := by
      unfold callM starA
      rw [bind_assoc]
      congr 1
      funext d s
      cases d <;> first | rfl | (show F (_ ++ []) s = F _ s; rw [List.append_nil])
    rw [← e0]; exact h
  refine PySem.W.callWith_S (h₀ := X.base) I.ok.mod.kin hk (thn (he.run pins s σ H (fun v H1 => ∃ ρ1 ds st1, True ∧ Rep X.K X.mg ρ1 H1 st1 ∧ (∃ a xs, v = .ref a ∧ (SqT X.K H1 a xs ∨ SqL X.K H1 a xs) ∧ IsVs X.K X.mg ρ1 H1 xs ds) ∧ Post X.K X.mg W ρ1 H1 σ (F ds st1) (fun ρ' H' d _ => ∀ v, IsV X.K X.mg ρ' H' v d → Q v H')) I (tM_go rp ev (Post.bind h0) fun ρ1 H1 d s1 v l1 r1 e1 hv h1 => ?_)) fun v s1 ⟨y, H1, I1, ry, ρ1, ds, st1, _, r1, ⟨a, xs, ey, hx, hv⟩, q⟩ => ?_) hst
  · cases hv with
    | @tup a xs ds ht hs => exact ⟨ρ1, ds, s1, trivial, r1, ⟨a, xs, rfl, .inl ht.sq, hs⟩, h1⟩
    | @fls a xs ds ht n hs => exact ⟨ρ1, ds, s1, trivial, r1, ⟨a, xs, rfl, .inr (.of ht), hs⟩, h1⟩
    | @wls a xs ds ht hs => exact ⟨ρ1, ds, s1, trivial, r1, ⟨a, xs, rfl, .inr ht.sq, hs⟩, h1⟩
    | _ => exact h1.elim
  · subst ey
    obtain rfl : v = Value.ref a := ry
    exact StX.star_any I1 hx fun us s2 I2 rv => ⟨I2.kIn, hf pins s2 σ H1 us xs Q ρ1 st1 ds I2 rv r1 hv q⟩
/-- f(*e, e2, ..) -/
theorem pm_callS2 (hf : Does X W f F) (hg : Gl X x) (hm : X.mg x = some (.ref f)) (hk : PySem.W.keepIn X.K (.ref f) = true) (ha : PMA X W (.Starred e p1 :: es) m) (hdb : (x == ("__debug__" : Str)) = false := by decide)
    (he : ∃ y ys, backTo pos (starEach (.Starred e p1 :: es) X.env) = (true, do let v ← eval e X.env; standAt pos; pure v) :: y :: ys := by exact ⟨_, _, rfl⟩) : PM X W (.Call (.Name x p) (.Starred e p1 :: es) [] pos) (callM F m) := by
  refine ⟨fun pins s σ H Q I ⟨ρ, τ, st, rp, ev, h⟩ => ?_⟩
  refine wpAny_Call_Name_kw (ld_glob I hg hm ?_ hdb)
  obtain ⟨y, ys, ee⟩ := he
  have z := ha.run pos pins s σ H (fun vs H1 => ∀ us s1, Inv X pins σ H1 s1 → Vals vs us → wpAny (model X.prog X.w) X.A (call (.ref f) us) (EP X pins σ Q) X.xe s1) I (tMA_go rp ev (Post.bind h) fun ρ1 H1 ds s1 vs l1 r1 e1 hv h1 => fun us s1 I1 r => hf pins s1 σ H1 us vs Q ρ1 _ ds I1 r r1 hv h1)
  show wpAny (model X.prog X.w) X.A (callWith pos (.ref f) [] (backTo pos (starEach (.Starred e p1 :: es) X.env)) []) (EP X pins σ Q) X.xe s
  rw [ee] at z ⊢
  refine PySem.W.ks_call (P := X.K.In) rfl (PySem.W.keeps_K hk) (evalArgs_more (thn z fun us s1 ⟨vs, H1, I1, r, q⟩ => ⟨I1.kIn, q us s1 I1 r⟩))
/-! ### o.m(): m by the class of o -/
def methM (m : Str) (tab : Str → Option Fn) (mo : M) : M := fun τ s => (mo τ s).bind fun d s => match d with
  | .ist C fs => if (fs.lookup m).isNone = true then (match tab C with
    | some F => F [.ist C fs] s
    | none => .bad) else .bad
  | _ => .bad
theorem lookF0 {K : PySem.W.Frag} {mg : Str → Option Value} {ρ : Rr} {H : Hp} {m : Str} : ∀ {gs : List (Str × V)} {fs : List (Str × D)}, IsFs K mg ρ H gs fs → fs.lookup m = Option.none → gs.lookup m = Option.none
  | _, _, .nil, _ => rfl
  | _, _, .cons (f := f) h t, e => by
    rw [List.lookup_cons] at e ⊢
    split at e
    · cases e
    · exact lookF0 t e
theorem pm_meth0 {o : Expr} {m : Str} {apos : Pos} {pl : Sem Bool} {tab : Str → Option Fn} {mo : M} (ho : PM X W o mo)
    (T : ∀ (C : Str) (F : Fn) (ca : Addr), tab C = some F → X.mg C = some (.ref ca) → Cls X.K ca ∧ ∃ g, Meth X.K ca m g ∧ Does X W g F)
    (ht : eval (.Call (.Attribute o m apos) [] [] pos) X.env = (do
      let ov ← eval o X.env
      standAt apos.atName
      let (f, first) ← holding [ov] (getMethod ov m pl)
      callWith pos f first (backTo pos (starEach [] X.env)) (backToKw pos (keywordEach [] X.env))) := by rfl) : PM X W (.Call (.Attribute o m apos) [] [] pos) (methM m tab mo) := by
  refine ⟨fun pins s σ H Q I ⟨ρ, τ, st, rp, ev, h⟩ => ?_⟩
  refine PySem.W.methodCall_KW (pl := pl) (thn (ho.run pins s σ H (fun v H1 => ∀ u s1, Inv X pins σ H1 s1 → RelV v u → wpAny (model X.prog X.w) X.A (getMethod u m pl) (fun fx s₂ => wpAny (model X.prog X.w) X.A (callWith pos fx.1 fx.2 (backTo pos (starEach [] X.env)) (backToKw pos (keywordEach [] X.env))) (EP X pins σ Q) X.xe s₂) X.xe s1) I (tM_go rp ev (Post.bind h) fun ρ1 H1 d s1 v l1 r1 e1 hv h1 => ?_)) fun u s1 ⟨x, H1, I1, rx, q⟩ => q u s1 I1 rx) ht
  cases hv with
  | @ist a ca dx C gs fs hc hi n hs =>
    intro u s2 I1 ru
    obtain rfl : u = Value.ref a := ru
    have h1' : Post X.K X.mg W ρ1 H1 σ (if (fs.lookup m).isNone = true then (match tab C with
      | some F => F [.ist C fs] s1
      | none => .bad) else .bad) (fun ρ' H' d _ => ∀ v, IsV X.K X.mg ρ' H' v d → Q v H') := h1
    by_cases hl : (fs.lookup m).isNone = true
    · rw [if_pos hl] at h1'
      cases q : tab C with
      | none => rw [q] at h1'; exact h1'.elim
      | some F =>
        rw [q] at h1'
        obtain ⟨c, g, hm, hd⟩ := T C F ca q hc
        refine getmeth_ok I1 hi c hm (lookF0 hs (by simpa using hl)) ?_
        exact PySem.W.callWith_K0 (first := [.ref a]) I1.kIn hm.kp (hd pins s2 σ H1 [.ref a] [.ref a] Q ρ1 s1 [.ist C fs] I1 (.cons rfl .nil) r1 (.cons (.ist hc hi n hs) .nil) h1')
    · rw [if_neg hl] at h1'; exact h1'.elim
  | _ => exact h1.elim
end
/-! ### isinstance -/
def tyN : D → Option String
  | .non => some "NoneType"
  | .bl _ => some "bool"
  | .int _ => some "int"
  | .str _ => some "str"
  | .tup _ => some "tuple"
  | .fls _ => some "list"
  | _ => none
/-- the answers among built-in types -/
def tyB (a b : String) : Option Bool := if a = "NoneType" ∨ a = "bool" ∨ a = "int" ∨ a = "str" ∨ a = "tuple" ∨ a = "list" then (if b = "bool" ∨ b = "int" ∨ b = "str" ∨ b = "tuple" ∨ b = "list" then some (decide (a = b) || (decide (a = "bool") && decide (b = "int"))) else none) else none
theorem tyB_ok {a b : String} {r : Bool} (h : tyB a b = some r) : kitB a b = some r := by
  unfold tyB at h
  split at h
  · rename_i ha
    split at h
    · rename_i hb
      cases h
      rcases ha with rfl | rfl | rfl | rfl | rfl | rfl <;> rcases hb with rfl | rfl | rfl | rfl | rfl <;> decide +kernel
    · cases h
  · cases h
def isiP (isa : Str → Str → Option Bool) (x : D) : D → Option D
  | .glo C' => (match x with
    | .ist C _ => (isa C C').map .bl
    | _ => none)
  | .ty n => ((tyN x).bind fun t => tyB t n).map .bl
  | _ => none
def isiF (isa : Str → Str → Option Bool) (xs : List D) (s : Sto) : R D := match xs with
  | [x, y] => R.of (isiP isa x y) s
  | _ => .bad
def specialGet (K : PySem.W.Frag) : Prop := PySem.W.specialIn K (.builtin "object.__class__") "__get__" = some (some (.builtin "getset_descriptor.__get__")) ∧ PySem.W.takesIn K (.builtin "object.__class__") = some true
/-- what isinstance asks of the classes -/
structure Isa (K : PySem.W.Frag) (mg : Str → Option Value) (isa : Str → Str → Option Bool) : Prop where
  get : specialGet K
  ok : ∀ (C C' : Str) (b : Bool) (ca : Addr), isa C C' = some b → mg C = some (.ref ca) → Cls K ca ∧ PySem.W.findIn K (.ref ca) "__class__" = some (some (.builtin "object.__class__")) ∧ PySem.W.mroIn K ca (.type "object") = some true ∧
    ∀ ca', mg C' = some (.ref ca') → PySem.W.kitOne K (.ref ca) (.ref ca') = some b
theorem isV_ty {K : PySem.W.Frag} {mg : Str → Option Value} {ρ : Rr} {H : Hp} {v : V} {d : D} {t : String} (h : IsV K mg ρ H v d) (e : tyN d = some t) : TyX K H v (.type t) := by
  cases h with
  | non => cases e; exact .base .non
  | bl => cases e; exact .base (.bl _)
  | int => cases e; exact .base (.int _)
  | str => cases e; exact .base (.str _)
  | tup h hs =>
    cases e
    rcases h with ⟨h | ⟨o, h⟩, n⟩ | ⟨o, its, n, h1, h2, _⟩
    · exact .base (.tup h)
    · exact .fTuple h
    · exact .kTuple h1 h2
  | fls h n hs => cases e; exact .base (.lst h)
  | _ => cases e
theorem cc_isi {K : PySem.W.Frag} {mg : Str → Option Value} {isa : Str → Str → Option Bool} (T : Isa K mg isa) : CallC K mg (isiF isa) (rIsi K) := by
  intro W σ ρ H s vs xs Q rp hv h
  unfold isiF at h
  split at h
  · rename_i x y
    obtain ⟨v, u, ev, h1, h2⟩ := isVs2 hv
    subst ev
    cases y with
    | glo C' =>
      cases x with
      | ist C fs =>
        have h' : Post K mg W ρ H σ (R.of ((isa C C').map D.bl) s) (fun ρ' H' d _ => ∀ v, IsV K mg ρ' H' v d → Q v H') := h
        cases h1 with
        | @ist a ca dx C gs fs hc hi n hs =>
          cases h2 with
          | @glo b x hb =>
            cases q : isa C C' with
            | none => rw [q] at h'; exact h'.elim
            | some r =>
              rw [q] at h'
              obtain ⟨cl, ha, hm, hk⟩ := T.ok C C' r ca q hc
              exact ⟨_, _, _, _, r, rfl, .own b, .base (.ins hi cl ha T.get.1 T.get.2 hm), hk b hb, h' ρ H .refl rp _ .bl⟩
      | _ => exact h.elim
    | ty n =>
      cases h2
      have h' : Post K mg W ρ H σ (R.of (((tyN x).bind fun t => tyB t n).map D.bl) s) (fun ρ' H' d _ => ∀ v, IsV K mg ρ' H' v d → Q v H') := h
      cases q : tyN x with
      | none => rw [q] at h'; exact h'.elim
      | some t =>
        rw [q, Option.bind_some] at h'
        cases q2 : tyB t n with
        | none => rw [q2] at h'; exact h'.elim
        | some r =>
          rw [q2] at h'
          exact ⟨_, _, _, _, r, rfl, .ty n, isV_ty h1 q, kit_ty (tyB_ok q2), h' ρ H .refl rp _ .bl⟩
    | _ => exact h.elim
  · exact h.elim
/-! ### texts -/
def strsOf : List D → Option (List Str)
  | [] => some []
  | .str x :: ds => (strsOf ds).map (x :: ·)
  | _ => none
/-- a text's method of one argument -/
def sm1 (f : Str → D → Option D) (mo me : M) : M := fun τ s => (mo τ s).bind fun x s => match x with
  | .str a => (me τ s).bind fun y s => R.of (f a y) s
  | _ => .bad
def joinP (a : Str) (y : D) : Option D := match y with
  | .fls ds => (strsOf ds).bind fun ys => if (ys.map (·.length)).sum + ys.length * a.length ≤ 16777216 then some (.str (Txt.join a ys)) else none
  | _ => none
def rmpP (a : Str) (y : D) : Option D := match y with
  | .str b => if a.length ≤ sizeLine then some (.str (Txt.removeprefix a b)) else none
  | _ => none
theorem strs_vals {K : PySem.W.Frag} {mg : Str → Option Value} {ρ : Rr} {H : Hp} : ∀ {vs : List V} {ds : List D} {ys : List Str}, IsVs K mg ρ H vs ds → strsOf ds = some ys → vs = ys.map V.str
  | _, _, ys, .nil, e => by cases e; rfl
  | _, _, ys, .cons (d := d) (ds := ds) h t, e => by
    cases d with
    | str x =>
      unfold strsOf at e
      cases q : strsOf ds with
      | none => rw [q] at e; cases e
      | some zs => rw [q] at e; cases e; cases h; rw [strs_vals t q]; rfl
    | _ => cases e
section
variable {X : Cx} {W : WX} {o e : Expr} {mo me : M} {apos pos : Pos}
/-- a text's method, by values -/
def SmC (K : PySem.W.Frag) (mg : Str → Option Value) (f : Str → D → Option D) (r : V → List V → Hp → VK → Prop) : Prop :=
  ∀ (ρ : Rr) (H : Hp) (a : Str) (u : V) (y d : D) (Q : VK), IsV K mg ρ H u y → f a y = some d → (∀ v, IsV K mg ρ H v d → Q v H) → r (.str a) [u] H Q
theorem sm_go {f : Str → D → Option D} {r : V → List V → Hp → VK → Prop} (hc : SmC X.K X.mg f r) {σ : L2.St} {H : Hp} {Q : VK} (h : tM X.K X.mg W (sm1 f mo me) σ H Q) : tM1 r (tM X.K X.mg W mo) (tM X.K X.mg W me) σ H Q := by
  obtain ⟨ρ, τ, s, rp, ev, h⟩ := h
  refine tM_go rp ev (Post.bind h) fun ρ1 H1 x s1 v l1 r1 e1 hv h1 => ?_
  cases x with
  | str a =>
    cases hv
    refine ⟨⟨a, rfl⟩, tM_go r1 e1 (Post.bind h1) fun ρ2 H2 y s2 u l2 r2 e2 hu h2 => ?_⟩
    cases q : f a y with
    | none => rw [q] at h2; exact h2.elim
    | some d => rw [q] at h2; exact hc ρ2 H2 a u y d Q hu q (h2 ρ2 H2 .refl r2)
  | _ => exact h1.elim
theorem pm_join (ho : PM X W o mo) (he : PM X W e me) (hs : starEach [e] X.env = [(false, eval e X.env)] := by rfl) (hbase : attributeBase o "join" X.env (eval o X.env) = eval o X.env := by rfl) (hline : (apos.endLine == pos.line) = true := by rfl) :
    PM X W (.Call (.Attribute o "join" apos) [e] [] pos) (sm1 joinP mo me) :=
  PE.imp (pe_join ho he hs hbase hline) fun σ H Q h => sm_go (fun ρ H a u y d Q hu hf k => by
    cases hu with
    | @fls p xs ds ht n hs =>
      have h2' : ((strsOf ds).bind fun ys => if (ys.map (·.length)).sum + ys.length * a.length ≤ 16777216 then some (D.str (Txt.join a ys)) else none) = some d := hf
      cases q : strsOf ds with
      | none => rw [q] at h2'; cases h2'
      | some ys =>
        rw [q, Option.bind_some] at h2'
        by_cases hz : (ys.map (·.length)).sum + ys.length * a.length ≤ 16777216
        · rw [if_pos hz] at h2'
          cases h2'
          exact ⟨a, p, ys, rfl, rfl, .inl (.of (by rw [← strs_vals hs q]; exact ht)), hz, k _ .str⟩
        · rw [if_neg hz] at h2'; cases h2'
    | _ => cases hf) h
theorem pm_removeprefix (ho : PM X W o mo) (he : PM X W e me) (hs : starEach [e] X.env = [(false, eval e X.env)] := by rfl) (hbase : attributeBase o "removeprefix" X.env (eval o X.env) = eval o X.env := by rfl) (hline : (apos.endLine == pos.line) = true := by rfl) :
    PM X W (.Call (.Attribute o "removeprefix" apos) [e] [] pos) (sm1 rmpP mo me) :=
  PE.imp (pe_m1 F.slot_str_removeprefix F.type_str_removeprefix mt_removeprefix ho he hs hbase hline) fun σ H Q h => sm_go (fun ρ H a u y d Q hu hf k => by
    cases hu with
    | @str b =>
      have h2' : (if a.length ≤ sizeLine then some (D.str (Txt.removeprefix a b)) else none) = some d := hf
      by_cases hz : a.length ≤ sizeLine
      · rw [if_pos hz] at h2'
        cases h2'
        exact ⟨a, b, rfl, rfl, hz, k _ .str⟩
      · rw [if_neg hz] at h2'; cases h2'
    | _ => cases hf) h
end
end FL

set_option Elab.async false
set_option linter.all false
set_option maxRecDepth 100000
set_option maxHeartbeats 4000000
namespace FL
open PySem PySem.Spec PyProof.Rows L2
/-! ### enumerate over a text; zip of a tuple and a list -/
/-- the signs of a text with their places, each in a new pair -/
def ItE (z : Str) : It := ⟨fun i _ => i < z.cps.size, fun i H v H' => ∃ T c, v = .ref T ∧ H T = none ∧ H' = upd H T (.tup [.int (i : Nat), .str ⟨#[c]⟩]) ∧ z.cps[i]? = some c, fun i _ => i = z.cps.size⟩
theorem turn_enumS {P : Program} {w : World} {K : PySem.W.Frag} {elts : List Expr} {kk : Nat} {tpos : Pos} (z : Str) (t : Tok) (e it : Addr) (hne : e ≠ it) :
    Turn P w K (.Tuple elts kk tpos) (ItE z) [e, it] e (fun i h => (∃ old, IsEnum h e it ((i : Nat) : Int) old) ∧ h.IsStrIter it (strIterType z) z t i) where
  mem := by simp
  obj := fun i h st b hb => by
    obtain ⟨⟨old, he⟩, ⟨o, ho, hc, hd⟩⟩ := st
    have e' : b = e ∨ b = it := by simpa using hb
    rcases e' with z | z
    · rw [z]; exact ⟨_, he, fun v q => nomatch q⟩
    · rw [z]; exact ⟨o, ho, fun v q => by rw [hd] at q; cases q⟩
  keep := fun i h h' st k => let ⟨⟨old, he⟩, hi⟩ := st; ⟨⟨old, k e (by simp) _ he⟩, let ⟨o, ho, r⟩ := hi; ⟨o, k it (by simp) o ho, r⟩⟩
  item := by
    intro X hP hw hK hc i pins s σ H E I hf st hg
    subst hP hw hK
    obtain ⟨⟨old, he⟩, hit⟩ := st
    have hh : X.A.in1.handled = none := I.ok.hd hc
    have hel : e < s.heap.objs.size := Heap.lt_size he
    have hil : it < s.heap.objs.size := by obtain ⟨_, q, _⟩ := hit; exact Heap.lt_size q
    refine wpAny_pyNext_enum_itemD (Draws.text hh it z t) he hit hg hne (by simpa using hne) fun x h' tk hx ho hit' hT hsz hk => ?_
    obtain ⟨c, u, hcp, rfl⟩ := hx
    refine ⟨_, rfl, wpAny_letOwnedTupleGo_enum (s := { s with heap := h', toks := tk + 1 }) ho fun h'' he' sb => ?_⟩
    have hT2 : h''.get? s.heap.objs.size = some { cls := .type "tuple", data := .seq #[.int i tk, .str ⟨#[c]⟩ u] } := (sb.2 _ (Nat.ne_of_gt hel)).trans hT
    have new : ObjOk X.prog X.w (upd H s.heap.objs.size (.tup [.int (i : Nat), .str ⟨#[c]⟩])) h'' s.heap.objs.size (.tup [.int (i : Nat), .str ⟨#[c]⟩]) :=
      ⟨by show 2 ≤ sizeLine; decide, [.int i tk, .str ⟨#[c]⟩ u], .cons ⟨_, rfl⟩ (.cons ⟨_, rfl⟩ .nil), ⟨_, hT2, rfl, _, rfl⟩⟩
    have I1 : Inv X pins σ (upd H s.heap.objs.size (.tup [.int (i : Nat), .str ⟨#[c]⟩])) { s with heap := h'', toks := tk + 1 } :=
      I.turnedNew (ch := [e, it]) (fun b ob hb q => (sb.2 b (fun z => hb (by simp [z]))).trans (hk b ob (fun z => hb (by simp [z])) (fun z => hb (by simp [z])) q)) hf (Nat.le_refl _) new
    refine ⟨.ref s.heap.objs.size, _, I1, rfl, ⟨_, c, rfl, I.hok.fresh (Nat.le_refl _), rfl, hcp⟩, ⟨⟨.str ⟨#[c]⟩ u, ?_⟩, ?_⟩, fun b hb => ?_⟩
    · have e1 : ((i + 1 : Nat) : Int) = (i : Int) + 1 := by omega
      rw [e1]; exact he'
    · obtain ⟨o, ho2, r⟩ := hit'
      exact ⟨o, (sb.2 it (Ne.symm hne)).trans ho2, r⟩
    · have hb' : b < s.heap.objs.size := by
        have e' : b = e ∨ b = it := by simpa using hb
        rcases e' with z | z
        · rw [z]; exact hel
        · rw [z]; exact hil
      rw [upd_ne (Nat.ne_of_lt hb')]
      exact (hf b hb).1
  done := by
    intro X hP hw hK hc i pins s σ H E I hf st hg
    subst hP hw hK
    obtain ⟨⟨old, he⟩, hit⟩ := st
    have hi : i = z.cps.size := hg
    subst hi
    have hh : X.A.in1.handled = none := I.ok.hd hc
    obtain ⟨f0, f1, f2, f3, f4, f5⟩ := hf it (by simp)
    exact wpAny_pyNext_enum_endD (Draws.text hh it z t) he hit fun h' eb => ⟨rfl, I.turned (t' := s.toks) (fun b o hb q => eb b o hb q) f0 f1 f3 f4 f5⟩
  self := fun A i s Q E st h => let ⟨⟨_, he⟩, _⟩ := st; wpAny_pyIter_enum he h
def iEnumS (ta : TA) : TI := fun σ H R => ta σ H fun vs H1 => ∃ z, vs = [.str z] ∧ R (ItE z) H1
theorem pi_enumS {X : Cx} {e : Expr} {ta : TA} {p pos tpos : Pos} {elts : List Expr} {kk : Nat} (hg : Gl X "enumerate") (hm : X.mg "enumerate" = none) (ha : PA X [e] ta) (hs : starEach [e] X.env = [(false, eval e X.env)] := by rfl) :
    PI X (.Tuple elts kk tpos) (.Call (.Name "enumerate" p) [e] [] pos) (iEnumS ta) := by
  refine ⟨fun pins s σ H R I h => ?_⟩
  refine Call_ (ld_blt I hg hm boot_enumerate (PyProof.Rows.callWith_type1 (thn (ha.run pos pins s σ H _ I h) fun us s1 ⟨vs, H1, I1, r1, q1⟩ => ?_) hs rfl))
  obtain ⟨z, ex, q⟩ := q1
  subst ex
  cases r1 with
  | cons r rr =>
    cases rr
    obtain ⟨t, rfl⟩ := r
    refine call_enumerate_str fun h' he hit hsz hk => wpAny_pyIter_enum he ?_
    have I2 : Inv X pins σ H1 { s1 with heap := h' } := I1.kept (t' := s1.toks) hk
    refine ⟨s1.heap.objs.size + 1, [s1.heap.objs.size + 1, s1.heap.objs.size], _, _, H1, rfl, I2, turn_enumS z t (s1.heap.objs.size + 1) s1.heap.objs.size (Nat.succ_ne_self _), ⟨⟨.none, he⟩, hit⟩, fun b hb => ?_, q⟩
    have e' : b = s1.heap.objs.size + 1 ∨ b = s1.heap.objs.size := by simpa using hb
    have hle : s1.heap.objs.size ≤ b := by
      rcases e' with z | z
      · rw [z]; exact Nat.le_add_right _ _
      · rw [z]; exact Nat.le_refl _
    exact I1.fpOk hle (I1.hok.fresh hle)
/-- a tuple and a list -/
def ItzTL (K : PySem.W.Frag) (a b : Addr) : It :=
  ⟨fun i H => ∃ (xs ys : List V) (x y : V), SqT K H a xs ∧ SqL K H b ys ∧ xs[i]? = some x ∧ ys[i]? = some y,
    fun i H v H' => ∃ T x y, v = .ref T ∧ H T = none ∧ H' = upd H T (.tup [x, y]) ∧ (∀ xs, SqT K H a xs → xs[i]? = some x) ∧ ∀ ys, SqL K H b ys → ys[i]? = some y,
    fun i H => ∃ xs ys : List V, SqT K H a xs ∧ SqL K H b ys ∧ i ≤ xs.length ∧ i ≤ ys.length ∧ (i = xs.length ∨ i = ys.length)⟩
theorem turn_zipTL {P : Program} {w : World} {K : PySem.W.Frag} {elts : List Expr} {kk : Nat} {tpos : Pos} {a b N : Addr} (ha : a < N) (hb0 : b < N) :
    Turn P w K (.Tuple elts kk tpos) (ItzTL K a b) [N + 4, N + 2, N + 3, N, N + 1] (N + 4) (fun i h => IsZip h (N + 4) (N + 2) (N + 3) .none ∧ IsTupOf2 h (N + 2) (.ref N) (.ref (N + 1)) ∧ (∃ x y, IsTupOf2 h (N + 3) x y) ∧ h.IsTupleIter N a i ∧ h.IsListIter (N + 1) b i) where
  mem := by simp
  obj := fun i h st c hc => by
    obtain ⟨hz, hTI, ⟨x, y, hTO⟩, ⟨o1, e1, _, d1⟩, ⟨o2, e2, _, d2⟩⟩ := st
    have e' : c = N + 4 ∨ c = N + 2 ∨ c = N + 3 ∨ c = N ∨ c = N + 1 := by simpa using hc
    rcases e' with q | q | q | q | q
    · rw [q]; exact ⟨_, hz, fun v q => nomatch q⟩
    · rw [q]; exact ⟨_, hTI, fun v q => nomatch q⟩
    · rw [q]; exact ⟨_, hTO, fun v q => nomatch q⟩
    · rw [q]; exact ⟨o1, e1, fun v q => by rw [d1] at q; cases q⟩
    · rw [q]; exact ⟨o2, e2, fun v q => by rw [d2] at q; cases q⟩
  keep := fun i h h' st k => by
    obtain ⟨hz, hTI, ⟨x, y, hTO⟩, h1, h2⟩ := st
    exact ⟨k _ (by simp) _ hz, k _ (by simp) _ hTI, ⟨x, y, k _ (by simp) _ hTO⟩, h1.at fun o q => k _ (by simp) o q, h2.at fun o q => k _ (by simp) o q⟩
  item := by
    intro X hP hw hK hc i pins s σ H E I hf st hg
    subst hP hw hK
    obtain ⟨hz, hTI, ⟨x0, y0, hTO⟩, h1, h2⟩ := st
    obtain ⟨xs, ys, x, y, hqx, hqy, hx, hy⟩ := hg
    obtain ⟨its, rv, p, _⟩ := I.tuple hqx
    obtain ⟨its2, rv2, p2, _⟩ := I.list hqy
    obtain ⟨u, hu, ru⟩ := rv.get hx
    obtain ⟨u2, hu2, ru2⟩ := rv2.get hy
    have hh : X.A.in1.handled = none := I.ok.hd hc
    have hzl : N + 4 < s.heap.objs.size := Heap.lt_size hz
    have S := zip_sep2 (N := N) (fp1 := [a]) (fp2 := [b]) (fun c hc => by rw [List.mem_singleton.mp hc]; exact ha) (fun c hc => by rw [List.mem_singleton.mp hc]; exact hb0)
    have l1 : i < its.toArray.size := by
      have := (List.getElem?_eq_some_iff.mp hu).1
      simpa using this
    have l2 : i < its2.toArray.size := by
      have := (List.getElem?_eq_some_iff.mp hu2).1
      simpa using this
    refine wpAny_pyNext_zipD2_item S (Draws.tuple hh N a (Nat.ne_of_lt ha) its.toArray) (Draws.list hh (N + 1) b (Nat.ne_of_lt (Nat.lt_succ_of_lt hb0)) its2.toArray) hz hTI hTO ⟨h1, p⟩ ⟨h2, p2.isList⟩ l1 l2 fun x1 x2 h' tk hx1 hx2 z' TO' st1 st2 hT hsz hk => ?_
    have ex1 : x1 = u := by
      have q : its.toArray[i]? = some x1 := hx1
      rw [List.getElem?_toArray, hu] at q
      exact (Option.some.inj q).symm
    have ex2 : x2 = u2 := by
      have q : its2.toArray[i]? = some x2 := hx2
      rw [List.getElem?_toArray, hu2] at q
      exact (Option.some.inj q).symm
    subst ex1 ex2
    refine ⟨_, rfl, wpAny_letOwnedTupleGo_zip (s := { s with heap := h', toks := tk }) z' fun h'' z'' sb => ?_⟩
    have hT2 : h''.get? s.heap.objs.size = some { cls := .type "tuple", data := .seq #[x1, x2] } := (sb.2 _ (Nat.ne_of_gt hzl)).trans hT
    have new : ObjOk X.prog X.w (upd H s.heap.objs.size (.tup [x, y])) h'' s.heap.objs.size (.tup [x, y]) :=
      ⟨by show 2 ≤ sizeLine; decide, [x1, x2], .cons ru (.cons ru2 .nil), ⟨_, hT2, rfl, _, rfl⟩⟩
    have I1 : Inv X pins σ (upd H s.heap.objs.size (.tup [x, y])) { s with heap := h'', toks := tk } :=
      I.turnedNew (ch := [N + 4, N + 2, N + 3, N, N + 1]) (fun c o hb q => (sb.2 c (fun q' => hb (by simp [q']))).trans (hk c o (fun q' => hb (by simp [q'])) (fun q' => hb (by simp [q'])) (fun q' => hb (by simp [q'])) (fun q' => hb (by simp [q'])) q)) hf (Nat.le_refl _) new
    refine ⟨.ref s.heap.objs.size, _, I1, rfl, ⟨_, x, y, rfl, I.hok.fresh (Nat.le_refl _), rfl, fun l hl => by rw [I.tuple_inj hl hqx]; exact hx, fun l hl => by rw [I.list_inj hl hqy]; exact hy⟩, ⟨z'', ?_, ⟨x1, x2, ?_⟩, ?_, ?_⟩, fun c hcm => ?_⟩
    · exact (sb.2 _ S.TIz).trans (hk _ _ S.TIz S.TITO S.TIi1 S.TIi2 hTI)
    · exact (sb.2 _ S.TOz).trans TO'
    · exact st1.1.at fun o q => (sb.2 _ S.zi1.symm).trans q
    · exact st2.1.at fun o q => (sb.2 _ S.zi2.symm).trans q
    · have hlt : c < s.heap.objs.size := by
        have e' : c = N + 4 ∨ c = N + 2 ∨ c = N + 3 ∨ c = N ∨ c = N + 1 := by simpa using hcm
        rcases e' with q | q | q | q | q
        · rw [q]; exact hzl
        · rw [q]; exact Heap.lt_size hTI
        · rw [q]; exact Heap.lt_size hTO
        · rw [q]; obtain ⟨_, e1, _⟩ := h1; exact Heap.lt_size e1
        · rw [q]; obtain ⟨_, e2, _⟩ := h2; exact Heap.lt_size e2
      rw [upd_ne (Nat.ne_of_lt hlt)]
      exact (hf c hcm).1
  done := by
    intro X hP hw hK hc i pins s σ H E I hf st hg
    subst hP hw hK
    obtain ⟨hz, hTI, ⟨x0, y0, hTO⟩, h1, h2⟩ := st
    obtain ⟨xs, ys, hqx, hqy, g1, g2, hend⟩ := hg
    obtain ⟨its, rv, p, _⟩ := I.tuple hqx
    obtain ⟨its2, rv2, p2, _⟩ := I.list hqy
    have hh : X.A.in1.handled = none := I.ok.hd hc
    have S := zip_sep2 (N := N) (fp1 := [a]) (fp2 := [b]) (fun c hc => by rw [List.mem_singleton.mp hc]; exact ha) (fun c hc => by rw [List.mem_singleton.mp hc]; exact hb0)
    have l1 := rv.length
    have l2 := rv2.length
    have s1 : its.toArray.size = its.length := by simp
    have s2 : its2.toArray.size = its2.length := by simp
    refine wpAny_pyNext_zipD2_end S (Draws.tuple hh N a (Nat.ne_of_lt ha) its.toArray) (Draws.list hh (N + 1) b (Nat.ne_of_lt (Nat.lt_succ_of_lt hb0)) its2.toArray) hz hTI hTO ⟨h1, p⟩ ⟨h2, p2.isList⟩ (by omega) (by omega) (by omega) fun h' tk hk => ⟨rfl, I.turnedL (t' := tk) (ch := [N + 4, N + 2, N + 3, N, N + 1]) (fun c o hb q =>
      hk c o (fun q' => hb (by simp [q'])) (fun q' => hb (by simp [q'])) (fun q' => hb (by simp [q'])) (fun q' => hb (by simp [q'])) q) hf⟩
  self := fun A i s Q E st h => wpAny_pyIter_zip st.1 h
def iZipTL (K : PySem.W.Frag) (ta : TA) : TI := fun σ H R => ta σ H fun vs H1 => ∃ a b xs ys, vs = [.ref a, .ref b] ∧ SqT K H1 a xs ∧ SqL K H1 b ys ∧ R (ItzTL K a b) H1
theorem pi_zipTL {X : Cx} {e e2 : Expr} {ta : TA} {p pos tpos : Pos} {elts : List Expr} {kk : Nat} (hg : Gl X "zip") (hm : X.mg "zip" = none) (ha : PA X [e, e2] ta)
    (hs : starEach [e, e2] X.env = (false, eval e X.env) :: starEach [e2] X.env := by rfl) (hpl : (backTo pos (starEach [e2] X.env)).any (·.1) = false := by rfl) :
    PI X (.Tuple elts kk tpos) (.Call (.Name "zip" p) [e, e2] [] pos) (iZipTL X.K ta) := by
  refine ⟨fun pins s σ H R I h => ?_⟩
  refine Call_ (ld_blt I hg hm PyProof.Rows.boot_zip (PyProof.Rows.callWith_type1 (thn (ha.run pos pins s σ H _ I h) fun us s1 ⟨vs, H1, I1, r1, q1⟩ => ?_) hs hpl))
  obtain ⟨a, b, xs, ys, ex, hqx, hqy, q⟩ := q1
  subst ex
  cases r1 with
  | cons r rr =>
    cases rr with
    | cons r' rr =>
      cases rr
      cases r
      cases r'
      have fresh5 : ∀ c, c ∈ [s1.heap.objs.size + 4, s1.heap.objs.size + 2, s1.heap.objs.size + 3, s1.heap.objs.size, s1.heap.objs.size + 1] → FpOk X pins H1 c := fun c hcm => by
        have e' : c = s1.heap.objs.size + 4 ∨ c = s1.heap.objs.size + 2 ∨ c = s1.heap.objs.size + 3 ∨ c = s1.heap.objs.size ∨ c = s1.heap.objs.size + 1 := by simpa using hcm
        have hle : s1.heap.objs.size ≤ c := by
          rcases e' with z | z | z | z | z
          · rw [z]; exact Nat.le_add_right _ _
          · rw [z]; exact Nat.le_add_right _ _
          · rw [z]; exact Nat.le_add_right _ _
          · rw [z]; exact Nat.le_refl _
          · rw [z]; exact Nat.le_add_right _ _
        exact I1.fpOk hle (I1.hok.fresh hle)
      obtain ⟨its, rv, p1, _⟩ := I1.tuple hqx
      obtain ⟨its2, rv2, p2, _⟩ := I1.list hqy
      obtain ⟨o1, ho1, _⟩ := id p1
      refine zip_begins2 (begins_tuple a its.toArray) (begins_list b its2.toArray) p1 p2.isList fun h' hz hTI hTO g1 g2 hsz hk => wpAny_pyIter_zip hz ?_
      have I2 : Inv X pins σ H1 { s1 with heap := h' } := I1.kept (t' := s1.toks) hk
      exact ⟨s1.heap.objs.size + 4, [s1.heap.objs.size + 4, s1.heap.objs.size + 2, s1.heap.objs.size + 3, s1.heap.objs.size, s1.heap.objs.size + 1], _, _, H1, rfl, I2, turn_zipTL (Heap.lt_size ho1) p2.lt, ⟨hz, hTI, ⟨_, _, hTO⟩, ⟨_, g1, rfl, rfl⟩, ⟨_, g2, rfl, rfl⟩⟩, fresh5, q⟩
/-! ### as data -/
def enumL : Nat → List Nat → List D
  | _, [] => []
  | n, c :: cs => .tup [.int (n : Nat), .str ⟨#[c]⟩] :: enumL (n + 1) cs
def enumI (m : M) : MI := fun τ s => (m τ s).bind fun x s => match x with
  | .str z => .ok (enumL 0 z.cps.toList) s
  | _ => .bad
theorem enumL_len : ∀ (n : Nat) (l : List Nat), (enumL n l).length = l.length
  | _, [] => rfl
  | n, _ :: cs => congrArg (· + 1) (enumL_len (n + 1) cs)
theorem enumL_get : ∀ (n : Nat) (l : List Nat) (i : Nat) (d : D), (enumL n l)[i]? = some d → ∃ c, l[i]? = some c ∧ d = .tup [.int ((n + i : Nat) : Int), .str ⟨#[c]⟩]
  | n, [], i, d, h => by simp [enumL] at h
  | n, c :: cs, 0, d, h => by
    unfold enumL at h
    simp at h
    exact ⟨c, rfl, h.symm⟩
  | n, c :: cs, i + 1, d, h => by
    unfold enumL at h
    obtain ⟨c', h1, h2⟩ := enumL_get (n + 1) cs i d (by simpa using h)
    exact ⟨c', by simpa using h1, by rw [h2]; congr 3; omega⟩
def zipL : List D → List D → List D
  | x :: xs, y :: ys => .tup [x, y] :: zipL xs ys
  | _, _ => []
def zipI (m n : M) : MI := fun τ s => (m τ s).bind fun x s => (n τ s).bind fun y s => match x, y with
  | .tup xs, .fls ys => if xs.length = ys.length then .ok (zipL xs ys) s else .bad
  | _, _ => .bad
theorem zipL_len : ∀ (l m : List D), l.length = m.length → (zipL l m).length = l.length
  | [], [], _ => rfl
  | _ :: l, _ :: m, h => congrArg (· + 1) (zipL_len l m (by simpa using h))
  | [], _ :: _, h => by simp at h
  | _ :: _, [], h => by simp at h
theorem zipL_get : ∀ (l m : List D) (i : Nat) (d : D), (zipL l m)[i]? = some d → ∃ x y, l[i]? = some x ∧ m[i]? = some y ∧ d = .tup [x, y]
  | [], m, i, d, h => by simp [zipL] at h
  | _ :: _, [], i, d, h => by simp [zipL] at h
  | x :: l, y :: m, 0, d, h => by
    unfold zipL at h
    simp at h
    exact ⟨x, y, rfl, rfl, h.symm⟩
  | x :: l, y :: m, i + 1, d, h => by
    unfold zipL at h
    obtain ⟨x', y', h1, h2, h3⟩ := zipL_get l m i d (by simpa using h)
    exact ⟨x', y', by simpa using h1, by simpa using h2, h3⟩
section
variable {X : Cx} {W : WX} {pos p tpos : Pos} {elts : List Expr} {kk : Nat} {e e2 : Expr} {m n : M}
theorem strm_enum {K : PySem.W.Frag} {mg : Str → Option Value} {ρ0 : Rr} {H0 : Hp} {z : Str} : Strm K mg (ItE z) ρ0 H0 (enumL 0 z.cps.toList) := by
  intro ρ H s i l rp
  refine ⟨fun d hd => ?_, fun hi => ?_⟩
  · obtain ⟨c, hc, ed⟩ := enumL_get 0 _ _ _ hd
    have hc' : z.cps[i]? = some c := by rw [← Array.getElem?_toList]; exact hc
    refine ⟨(Array.getElem?_eq_some_iff.mp hc').1, fun x H' ⟨T, c2, ex, hT, eH, h2⟩ => ?_⟩
    subst ex eH
    rw [hc'] at h2
    cases h2
    refine ⟨Le.new hT, rp.new hT, ?_⟩
    rw [ed, Nat.zero_add]
    exact .tup (.inl ⟨.of upd_same, rp.fresh hT⟩) (.cons .int (.cons .str .nil))
  · rw [enumL_len, Array.length_toList] at hi
    exact hi
theorem strm_zip {K : PySem.W.Frag} {mg : Str → Option Value} {ρ0 : Rr} {H0 : Hp} {a b : Addr} {xs ys : List V} {ds es : List D} (ha : Rt K ρ0 H0 a xs) (hx : IsVs K mg ρ0 H0 xs ds) (hb : H0 b = some (.lst ys)) (nb : ρ0.off b) (hy : IsVs K mg ρ0 H0 ys es) (hl : ds.length = es.length) :
    Strm K mg (ItzTL K a b) ρ0 H0 (zipL ds es) := by
  intro ρ H s i l rp
  have qa := (l.rt ha).sq
  have qb : SqL K H b ys := .of (l.keep _ _ hb nb).1
  refine ⟨fun d hd => ?_, fun hi => ?_⟩
  · obtain ⟨x, y, h1, h2, ed⟩ := zipL_get _ _ _ _ hd
    obtain ⟨v, e1, v1⟩ := hx.get h1
    obtain ⟨u, e2, u1⟩ := hy.get h2
    refine ⟨⟨xs, ys, v, u, qa, qb, e1, e2⟩, fun x H' ⟨T, v', u', ex, hT, eH, h3, h4⟩ => ?_⟩
    subst ex eH
    have e3 := (h3 xs qa).symm.trans e1
    have e4 := (h4 ys qb).symm.trans e2
    cases e3; cases e4
    refine ⟨Le.new hT, rp.new hT, ?_⟩
    rw [ed]
    have l2 := (Le.new (ρ := ρ) (u := .tup [v, u]) hT).ex
    exact .tup (.inl ⟨.of upd_same, rp.fresh hT⟩) (.cons ((v1.ex l).ex l2) (.cons ((u1.ex l).ex l2) .nil))
  · rw [zipL_len _ _ hl] at hi
    have h1 := hx.length
    have h2 := hy.length
    exact ⟨xs, ys, qa, qb, by omega, by omega, .inl (by omega)⟩
theorem pmi_enum (hg : Gl X "enumerate") (hm : X.mg "enumerate" = none) (ha : PM X W e m) (hs : starEach [e] X.env = [(false, eval e X.env)] := by rfl) : PMI X W (.Tuple elts kk tpos) (.Call (.Name "enumerate" p) [e] [] pos) (enumI m) :=
  PI.imp (pi_enumS hg hm (pma_cons ha pma_nil hs) hs) fun σ H R' ⟨ρ, τ, s, rp, ev, h⟩ => tMA_go rp ev (post_one h) fun ρ1 H1 xs s1 vs l1 r1 e1 hv ⟨x, ex, h1⟩ => by
    subst ex
    obtain ⟨v, ev, hw⟩ := isVs1 hv
    subst ev
    cases x with
    | str z => cases hw; exact ⟨z, rfl, h1 ρ1 H1 .refl r1 _ strm_enum⟩
    | _ => exact h1.elim
theorem pmi_zip (hg : Gl X "zip") (hm : X.mg "zip" = none) (ha : PM X W e m) (hb : PM X W e2 n) (hs : starEach [e, e2] X.env = (false, eval e X.env) :: starEach [e2] X.env := by rfl) (hs2 : starEach [e2] X.env = [(false, eval e2 X.env)] := by rfl) (hpl : (backTo pos (starEach [e2] X.env)).any (·.1) = false := by rfl) :
    PMI X W (.Tuple elts kk tpos) (.Call (.Name "zip" p) [e, e2] [] pos) (zipI m n) :=
  PI.imp (pi_zipTL hg hm (pma_cons ha (pma_cons hb pma_nil hs2) hs) hs hpl) fun σ H R' ⟨ρ, τ, s, rp, ev, h⟩ => tMA_go rp ev (post_two h) fun ρ1 H1 xs s1 vs l1 r1 e1 hv ⟨x, y, ex, h1⟩ => by
    subst ex
    obtain ⟨v, u, ev, hw, hu⟩ := isVs2 hv
    subst ev
    cases x with
    | tup ds =>
      cases y with
      | fls es =>
        have h1' : Post X.K X.mg W ρ1 H1 σ (if ds.length = es.length then R.ok (zipL ds es) s1 else .bad) (fun ρ' H' ds _ => ∀ J, Strm X.K X.mg J ρ' H' ds → R' J H') := h1
        by_cases hl : ds.length = es.length
        · rw [if_pos hl] at h1'
          cases hw with
          | @tup a xs ds ht hs =>
            cases hu with
            | @fls b ys es hb nb hs2 => exact ⟨a, b, xs, ys, rfl, ht.sq, .of hb, h1' ρ1 H1 .refl r1 _ (strm_zip ht hs hb nb hs2 hl)⟩
        · rw [if_neg hl] at h1'; exact h1'.elim
      | _ => exact h1.elim
    | _ => exact h1.elim
end
end FL

set_option Elab.async false
set_option linter.all false
set_option maxRecDepth 100000
set_option maxHeartbeats 4000000
namespace FL
open PySem PySem.Spec PyProof.Rows L2
/-! ### raise C(e): C's __init__ is self.f = x -/
/-- what such an __init__ does -/
def spI (K : PySem.W.Frag) (f : Str) : Sp := fun vs H Q E => ∃ (a C : Addr) (y : V), vs = [.ref a, y] ∧ OexC K C ∧ PySem.W.findIn K (.ref C) f = some none ∧ H a = some (exo a C none) ∧
  ∀ dx, H dx = none → dx ≠ a → Q .non (upd (upd H dx (exd dx [(f, y)])) a (exo a C (some dx)))
theorem fn_okI {P : Program} {w : World} {K : PySem.W.Frag} {mg : Str → Option Value} {base : Heap} {x qual : Str} {params : Arguments} {body : List Stmt} {scope : Scope} {dvs : List V} {kws : List (Str × V)} {f : Addr} {fd : FuncData} {N ps : List Str} {k : Nat} {fl : Str}
    (F : FunD K x qual params body scope dvs kws f fd) (S : FnScope N ps scope) (hn : ps.length = 2)
    (hbody : ∀ (cdv : Value) (A : Around) (outer : List Env) (s : Shared) (H : Hp) (E : XK) (a : Addr) (y : V), PSs (cxOf (L2.CX P w) P w K mg base N qual scope f cdv A outer s H E) body (tOst K fl (fun σ H Q => σ[0]? = some (some (.ref a)) ∧ Q (.ref a) H) (fun σ H Q => σ[1]? = some (some y) ∧ Q y H))) :
    FnOk P w K mg base (L2.CX P w) (k + 1) f fd ps (spI K fl) := by
  refine F.ok S (fun vs H Q E ⟨a, C, y, e, _⟩ => by rw [e, hn]; rfl) fun cdv A outer s H vs Q E hr ⟨a, C, y, e, T, hno, ha, hq⟩ => ⟨_, hbody cdv A outer s H E a y, ?_⟩
  subst e
  exact ⟨rfl, rfl, a, C, rfl, T, hno, .inl ⟨ha, fun dx h1 h2 => hq dx h1 h2⟩⟩
def raiseM (C f : Str) (m : M) : MS := fun τ s => (m τ s).toS τ fun d s => .exc C [(f, d)] τ s
theorem le_exc {K : PySem.W.Frag} {mg : Str → Option Value} {ρ : Rr} {H : Hp} {s : Sto} {a dx : Addr} {C : Addr} {u : HO} {fs : List (Str × V)} (r : Rep K mg ρ H s) (ha : H a = none) (hd : H dx = none) (ne : dx ≠ a) :
    Le ρ H ρ (upd (del (upd (upd (upd H a (exo a C none)) dx u) a (exo a C (some dx))) a) dx (.xd fs)) ∧ Rep K mg ρ (upd (del (upd (upd (upd H a (exo a C none)) dx u) a (exo a C (some dx))) a) dx (.xd fs)) s := by
  have e : upd (del (upd (upd (upd H a (exo a C none)) dx u) a (exo a C (some dx))) a) dx (.xd fs) = upd H dx (.xd fs) := by
    funext b
    by_cases h1 : b = dx
    · rw [h1, upd_same, upd_same]
    · rw [upd_ne h1, upd_ne h1]
      by_cases h2 : b = a
      · rw [h2, del_same, ha]
      · rw [del_ne h2, upd_ne h2, upd_ne h1, upd_ne h2]
  rw [e]
  exact ⟨Le.new hd, r.new hd⟩
section
variable {X : Cx} {W : WX} {e : Expr} {m : M} {x f : Str} {C fI : Addr} {k : Nat} {fd : FuncData} {ps : List Str} {p cpos pos : Pos}
theorem pms_raise (hc : X.calm = true) (tk : Takes X W) (T : OexC X.K C) (iC : PySem.W.findIn X.K (.ref C) "__init__" = some (some (.ref fI))) (tI : PySem.W.typeIn X.K (.ref fI) = some (.type "function")) (hno : PySem.W.findIn X.K (.ref C) f = some none)
    (Fo : FnOk X.prog X.w X.K X.mg X.base (L2.CX X.prog X.w) k fI fd ps (spI X.K f)) (hr : Room (k + 1) X.A) (hb : Binds X.K fd ps []) (hg : Gl X x) (hm : X.mg x = some (.ref C)) (he : PM X W e m)
    (hdb : (x == ("__debug__" : Str)) = false := by decide) (hs : starEach [e] X.env = [(false, eval e X.env)] := by rfl) : PMS X W (.Raise (some (.Call (.Name x p) [e] [] cpos)) none pos) (raiseM x f m) :=
  PS.imp (ps_raise hc tk (pmk_oex (dvs := []) T iC tI Fo hr hb .nil passL hg hm (pma_cons he pma_nil hs) hdb hs)) fun D' σ H ⟨ρ, τ, s, rp, ev, h⟩ =>
    tMA_go (P := fun ρ' H' xs s' => ∃ d, xs = [d] ∧ PostS X.K X.mg W ρ' H' (.exc x [(f, d)] τ s') D') rp ev (by
      have h' := PostS.expr ev h
      unfold consA
      cases q : m τ s with
      | ok d s2 => rw [q] at h'; exact fun ρ' H' l r => ⟨d, rfl, h' ρ' H' l r⟩
      | exc C fs s2 => rw [q] at h'; exact h'
      | bad => rw [q] at h'; exact h') fun ρ1 H1 xs s1 vs l1 r1 e1 hv ⟨d, ed, h1⟩ => by
    subst ed
    obtain ⟨v, evs, hw⟩ := isVs1 hv
    subst evs
    refine ⟨by show 1 ≤ 1000; omega, fun a ha => ⟨a, C, v, rfl, T, hno, upd_same, fun dx hdx ne => ⟨rfl, dx, [(f, v)], upd_same, ?_, ?_, ?_⟩⟩⟩
    · rw [upd_ne ne, upd_same]
    · rw [upd_ne ne] at hdx; exact hdx
    · have hdx0 : H1 dx = none := by rw [upd_ne ne] at hdx; exact hdx
      obtain ⟨l2, r2⟩ := le_exc (C := C) (u := exd dx [(f, v)]) (fs := [(f, v)]) r1 ha hdx0 ne
      exact h1 ρ1 _ σ C dx [(f, v)] l2 r2 (e1.mono l2) hm upd_same (.cons (hw.mono l2) .nil)
end
/-! ### several clauses that name what they catch -/
def wManyA (K : PySem.W.Frag) (Wout : WX) (D : Ends) : List (Value × Nat × (Addr → Value → Option Addr → TS)) → WX
  | [] => Wout
  | (c, i, ts) :: r => fun cls d σ H => ∃ b, PySem.W.exmOne K cls c = some b ∧ (b = true → ∀ a, H a = none → ts a cls d { nx := fun σ' H' => D.nx (σ'.set i none) H', rt := D.rt, bk := fun σ' H' => D.bk (σ'.set i none) H', ct := fun σ' H' => D.ct (σ'.set i none) H' } (σ.set i (some (.ref a))) H) ∧ (b = false → wManyA K Wout D r cls d σ H)
inductive HdsA (X : Cx) : List ExceptHandler → List (Value × Nat × (Addr → Value → Option Addr → TS)) → Prop
  | nil : HdsA X [] []
  | cons {x n : Str} {c : Value} {i : Nat} {ts : Addr → Value → Option Addr → TS} {b₀ : Stmt} {suite : List Stmt} {np pos' : Pos} {hds : List ExceptHandler} {l : List (Value × Nat × (Addr → Value → Option Addr → TS))} (hc : Names X x c)
      (hi : X.N[i]? = some n) (hln : X.env.kindOf n = some .local)
      (hsu : ∀ (a : Addr) (oe : Obj) (cls : Value) (d : Option Addr) (pn : List (Addr × Obj)), Zc cls d oe → (∃ vs, oe.data = .fields vs) → PSs (X.suite a ((a, oe) :: pn)) (b₀ :: suite) (ts a cls d)) (r : HdsA X hds l) :
      HdsA X (.ExceptHandler (some (.Name x np)) (some n) (b₀ :: suite) pos' :: hds) ((c, i, ts) :: l)
section
variable {X : Cx} {body : List Stmt} {h₀ : ExceptHandler} {hds : List ExceptHandler} {l : List (Value × Nat × (Addr → Value → Option Addr → TS))} {pos : Pos} {tb : WX → TS} {Wout : WX}
theorem ps_try_manyA (hs : X.stack = X.env :: X.outer) (hf : X.env.frame = some X.env.locals) (hN : X.N.Nodup) (tk : Takes X Wout)
    (hb : ∀ (W : WX) (pn : List (Addr × Obj)) (xe : Value → Shared → Prop), Takes (X.tr pn xe) W → PassesOwn (model X.prog X.w) X.A X.env xe → PSs (X.tr pn xe) body (tb W))
    (hh : HdsA X (h₀ :: hds) l) : PS X (.Try body (h₀ :: hds) [] [] pos) (fun D σ H => tb (wManyA X.K Wout D l) D σ H) := by
  refine ⟨fun pins s σ H D I h => ?_⟩
  have ok := I.ok
  have hfr : X.A.frames = some (X.env :: X.outer) := by rw [ok.frames, hs]
  refine wpAny_Try_except ?_
  refine wpAny_mono ((hb (wManyA X.K Wout D l) (X.pn ++ pins) (fun e s₁ => wpAny (model X.prog X.w) X.A (noteFrame e X.env) (fun _ s₂ => wpAny (model X.prog X.w) X.A (setFlight e none) (fun _ s₃ =>
    wpAny (model X.prog X.w) X.A (handleBy e X.env (h₀ :: hds)) (SP X pins D) X.xe s₃) X.xe s₂) X.xe s₁) (fun u s' xx => ?_) PassesOwn.looking).run [] s σ H D (I.toTry _) h) (fun f s1 hsp => ?_) (fun e s1 he => he)
  · obtain ⟨a, B, sI, pins', σ', H', cls, d, rfl, J', nb, up, sky, na, os, ag, w⟩ := xx
    have J : Inv X pins σ' H' sI := J'.ofTry ok
    have sky' : Sky B (X.env :: X.outer) a (Zc cls d) X.env.locals s'.heap := by rw [← hs]; exact sky
    show wpAny (model X.prog X.w) X.A (noteFrame (.ref a) X.env) _ _ _
    refine Sky.land Zc.steady hfr hf sky' fun h3 fl3 up3 => ?_
    have J3 : Inv X pins σ' H' { s' with heap := h3 } := J.landed nb fl3.1 (up.trans up3) os ag
    obtain ⟨oe3, vs3, he3, hz3, hd3⟩ := fl3.there
    have notFr : ∀ {h : Heap} {o : Obj} {vs : Array Value}, h.FunFrames B (X.env :: X.outer) → h.get? a = some o → o.data = .fields vs → a ∉ frs (X.env :: X.outer) := fun {h o vs} ff e dd hm => by
      obtain ⟨_, o', e', hnf⟩ := ff.mem hm
      rw [e] at e'; cases e'
      exact hnf _ dd
    have nfr := notFr fl3.2.2.1 he3 hd3
    have nL : a ≠ X.env.locals := fun z => nfr (List.mem_filterMap.mpr ⟨X.env, List.mem_cons_self, by rw [hf, z]⟩)
    have nF : a ∉ X.fs := fun hm => by
      obtain ⟨e, he, q⟩ := List.mem_filterMap.mp hm
      exact nfr (List.mem_filterMap.mpr ⟨e, List.mem_cons_of_mem _ he, q⟩)
    have S3 := J3.suite he3 hd3 na nL nF
    have go : ∀ {hds' : List ExceptHandler} {l' : List (Value × Nat × (Addr → Value → Option Addr → TS))}, HdsA X hds' l' → wManyA X.K Wout D l' cls d σ' H' →
        wpAny (model X.prog X.w) X.A (handleBy (.ref a) X.env hds') (SP X pins D) X.xe { s' with heap := h3 } := by
      intro hds' l' hk
      induction hk with
      | nil =>
        intro w
        refine wpAny_handleBy_nil ?_
        obtain ⟨k1, k2, k3, oe, vs, T, oT, ts', he, hz, hd, h1, hr⟩ := id fl3
        unfold PySem.passOn
        refine wpAny_bind (wpAny_field he hd h1 ?_)
        rw [if_neg (show ¬ ((Value.ref T == Value.none) = true) from by simp)]
        have fin : wpAny (model X.prog X.w) X.A (setFlight (.ref a) X.env.frame) (fun _ s4 => wpAny (model X.prog X.w) X.A (throw (.ref a) : Sem Flow) (SP X pins D) X.xe s4) X.xe { s' with heap := h3 } := by
          rw [hf]
          refine HandSPX.setFlight_upZ fl3 fun h4 hh4 up4 => wpAny_throw (tk _ _ ?_)
          exact ⟨a, B, sI, pins, σ', H', cls, d, rfl, J, nb, (up.trans up3).trans up4, .inr (.inr (by rw [hs]; exact hh4)), na, os, ag, w⟩
        first
          | exact wpAny_bind (wpAny_pure (wpAny_bind fin))
          | exact wpAny_bind fin
      | @cons x n c i ts b₀ suite np pos' hds2 l2 hc hi hln hsu r ih =>
        intro w
        obtain ⟨b, hb1, hyes, hno⟩ := w
        have hloc : Loc X.env.scope n := .inl hln
        refine wpAny_handleBy_cons (codeAny_handlers_test ?_) (by intro q; cases q)
        have LT : PySem.W.Looks (model X.prog X.w) h3 (typeOf (.ref a)) cls := fun A Q E s k q => wpAny_typeOf_ref (k _ _ he3) (by rw [hz3.1]; exact q)
        have LM := PySem.W.exm_one (M := model X.prog X.w) (J3.kIn) LT hb1
        have test : ∀ {Q : Value → Shared → Prop} {E : Value → Shared → Prop}, Q c { s' with heap := h3 } → wpAny (model X.prog X.w) (X.A.mark (some (.ref a))) (eval (.Name x np) X.env) Q E { s' with heap := h3 } := fun {Q E} q => by
          obtain ⟨hg, hdbg, hm | ⟨hm, hv, hnn⟩⟩ := hc
          · exact ld_glob (X := X.suite a ((a, oe3) :: (X.pn ++ pins))) S3 hg hm q hdbg
          · exact ld_blt (X := X.suite a ((a, oe3) :: (X.pn ++ pins))) S3 hg hm hv q hnn hdbg
        refine test (LM.here ?_)
        cases b with
        | true =>
          refine codeAny_handlers_suite_as ?_
          refine HandSPX.lands_againZ fl3 fun h4 fl4 up4 => ?_
          have J4 : Inv X pins σ' H' { s' with heap := h4 } := J.landed nb fl4.1 ((up.trans up3).trans up4) os ag
          obtain ⟨oe4, vs4, he4, hz4, hd4⟩ := fl4.there
          have S4 := J4.suite he4 hd4 na nL nF
          refine store_ok (X := X.suite a ((a, oe4) :: (X.pn ++ pins))) (v := .ref a) S4 hN hi hloc rfl (fun s5 S5 => ?_) (.inr hln)
          refine wpAny_mono ((hsu a oe4 cls d (X.pn ++ pins) hz4 ⟨_, hd4⟩).run [] s5 _ H' _ S5 (hyes rfl a na)) (fun f s6 hsp => ?_) (fun _ _ z => False.elim z)
          have end_ : ∀ {σ6 : L2.St} {H6 : Hp} {Q : Shared → Prop}, Inv (X.suite a ((a, oe4) :: (X.pn ++ pins))) [] σ6 H6 s6 → (∀ s7, Inv X pins (σ6.set i none) H6 s7 → Q s7) →
              wpAny (model X.prog X.w) X.A (do bindName X.env n .none; unbindBehindTheSuite X.env n pos') (fun _ s7 => Q s7) X.xe s6 := fun {σ6 H6 Q} S6 hq => gone_ok (S6.unsuite ok) hN hi hln hq
          cases f with
          | next =>
            obtain ⟨σ6, H6, S6, q6⟩ := hsp
            exact end_ S6 fun s7 J7 => ⟨_, _, J7, q6⟩
          | brk =>
            obtain ⟨σ6, H6, S6, q6⟩ := hsp
            exact end_ S6 fun s7 J7 => ⟨_, _, J7, q6⟩
          | cont =>
            obtain ⟨σ6, H6, S6, q6⟩ := hsp
            exact end_ S6 fun s7 J7 => ⟨_, _, J7, q6⟩
          | ret u =>
            obtain ⟨v6, σ6, H6, S6, r6, q6⟩ := hsp
            exact end_ S6 fun s7 J7 => ⟨_, _, _, J7, r6, q6⟩
        | false =>
          show wpAny _ X.A (handleBy (.ref a) X.env hds2) _ _ _
          exact ih (hno rfl)
    exact go hh w
  · cases f with
    | next =>
      obtain ⟨σ', H', J', q⟩ := hsp
      exact wpAny_execs_nil ⟨σ', H', J'.ofTry ok, q⟩
    | brk =>
      obtain ⟨σ', H', J', q⟩ := hsp
      exact ⟨σ', H', J'.ofTry ok, q⟩
    | cont =>
      obtain ⟨σ', H', J', q⟩ := hsp
      exact ⟨σ', H', J'.ofTry ok, q⟩
    | ret u =>
      obtain ⟨v, σ', H', J', r, q⟩ := hsp
      exact ⟨v, σ', H', J'.ofTry ok, r, q⟩
/-! ### .. whose suites say return (k, e.f) -/
/-- such clauses: the class, k, the slot -/
structure Hd where
  C : Str
  k : Int
  i : Nat
def retHd (n : Nat) (C : Str) (f : Str) (fs : List (Str × D)) (s : Sto) (exm : Str → Str → Option Bool) : List Hd → RS
  | [] => .bad
  | h :: hs => match exm C h.C with
    | some true => if C = h.C ∧ h.i < n then (match fs.lookup f with
      | some d => .rt (.tup [.int h.k, d]) s
      | none => .bad) else .bad
    | some false => retHd n C f fs s exm hs
    | none => .bad
/-- try: body, except C1 as e: return (k1, e.f), .. -/
def tryM (exm : Str → Str → Option Bool) (f : Str) (mb : MS) (hs : List Hd) : MS := fun τ s => match mb τ s with
  | .exc C fs τ' s' => retHd τ'.length C f fs s' exm hs
  | r => r
def tsHd (k : Int) (i : Nat) (ca : Addr) (f : Str) : Addr → Value → Option Addr → TS := fun a cls d D σ H => σ[i]? = some (some (.ref a)) ∧ cls = .ref ca ∧ ∃ (dd : Addr) (fs : List (Str × V)) (v : V), d = some dd ∧ H dd = some (.xd fs) ∧ fs.lookup f = some v ∧ ∀ p, H p = none → D.rt (.ref p) (upd H p (.tup [.int k, v]))
/-- the clauses in FL's words -/
inductive HdsM (X : Cx) (exm : Str → Str → Option Bool) (f : Str) : List ExceptHandler → List Hd → List (Value × Nat × (Addr → Value → Option Addr → TS)) → Prop
  | nil : HdsM X exm f [] [] []
  | cons {h : Hd} {ca : Addr} {eh : ExceptHandler} {hds : List ExceptHandler} {hs : List Hd} {l : List (Value × Nat × (Addr → Value → Option Addr → TS))} (hm : X.mg h.C = some (.ref ca))
      (he : ∀ (C : Str) (b : Bool) (cb : Addr), exm C h.C = some b → X.mg C = some (.ref cb) → PySem.W.exmOne X.K (.ref cb) (.ref ca) = some b)
      (r : HdsM X exm f hds hs l) : HdsM X exm f (eh :: hds) (h :: hs) ((.ref ca, h.i, tsHd h.k h.i ca f) :: l)
theorem IsFs.lk {K : PySem.W.Frag} {mg : Str → Option Value} {ρ : Rr} {H : Hp} {f : Str} : ∀ {gs : List (Str × V)} {fs : List (Str × D)} {d : D}, IsFs K mg ρ H gs fs → fs.lookup f = some d → ∃ v, gs.lookup f = some v ∧ IsV K mg ρ H v d
  | _, _, _, .nil, e => by cases e
  | _, _, d, .cons (f := g) h t, e => by
    rw [List.lookup_cons] at e ⊢
    split at e
    · cases e
      exact ⟨_, rfl, h⟩
    · exact IsFs.lk t e
theorem hd_go {K : PySem.W.Frag} {mg : Str → Option Value} {exm : Str → Str → Option Bool} {f : Str} {D' : Ends} {ρ : Rr} {H : Hp} : ∀ {eh : List ExceptHandler} {hs : List Hd} {l : List (Value × Nat × (Addr → Value → Option Addr → TS))}, HdsM X exm f eh hs l → ∀ {C : Str} {fs : List (Str × D)} {s : Sto} {σ : L2.St} {ca dd : Addr} {gs : List (Str × V)},
    X.K = K → X.mg = mg → PostS K mg Wout ρ H (retHd σ.length C f fs s exm hs) D' → Rep K mg ρ H s → mg C = some (.ref ca) → H dd = some (.xd gs) → IsFs K mg ρ H gs fs → wManyA K Wout D' l (.ref ca) (some dd) σ H
  | _, _, _, .nil, C, fs, s, σ, ca, dd, gs, eK, em, h, rp, hc, hd, hg => h.elim
  | _, _, _, .cons (h := hh) (ca := cb) hm he r, C, fs, s, σ, ca, dd, gs, eK, em, h, rp, hc, hd, hg => by
    subst eK em
    unfold retHd at h
    cases q : exm C hh.C with
    | none => rw [q] at h; exact h.elim
    | some b =>
      have hx := he C b ca q hc
      rw [q] at h
      cases b with
      | false => exact ⟨false, hx, (fun z => nomatch z), fun _ => hd_go r rfl rfl h rp hc hd hg⟩
      | true =>
        simp only at h
        by_cases ec0 : C = hh.C ∧ hh.i < σ.length
        · rw [if_pos ec0] at h
          obtain ⟨ec, hi⟩ := ec0
          have ecc : ca = cb := by
            rw [ec] at hc
            rw [hc] at hm
            exact Value.ref.inj (Option.some.inj hm)
          cases q2 : fs.lookup f with
          | none => rw [q2] at h; exact h.elim
          | some d =>
            rw [q2] at h
            obtain ⟨v, e1, e2⟩ := hg.lk q2
            refine ⟨true, hx, fun _ a na => ⟨?_, by rw [ecc], dd, gs, v, rfl, hd, e1, fun p hp => ?_⟩, fun z => nomatch z⟩
            · rw [List.getElem?_set_self hi]
            · have l := Le.new (ρ := ρ) (u := .tup [.int hh.k, v]) hp
              exact h ρ _ (.ref p) l (rp.new hp) (.tup (.inl ⟨.of upd_same, rp.fresh hp⟩) (.cons .int (.cons (e2.mono l) .nil)))
        · rw [if_neg ec0] at h; exact h.elim
theorem Evs.length {K : PySem.W.Frag} {mg : Str → Option Value} {ρ : Rr} {H : Hp} : ∀ {σ : L2.St} {τ : Env'}, Evs K mg ρ H σ τ → σ.length = τ.length
  | _, _, .nil => rfl
  | _, _, .off t => congrArg (· + 1) (Evs.length t)
  | _, _, .on _ t => congrArg (· + 1) (Evs.length t)
theorem pms_try {exm : Str → Str → Option Bool} {f : Str} {mb : MS} {hs' : List Hd} (hs : X.stack = X.env :: X.outer) (hf : X.env.frame = some X.env.locals) (hN : X.N.Nodup) (tk : Takes X Wout)
    (hb : ∀ (W : WX) (pn : List (Addr × Obj)) (xe : Value → Shared → Prop), Takes (X.tr pn xe) W → PassesOwn (model X.prog X.w) X.A X.env xe → PMSs (X.tr pn xe) W body mb)
    (hh : HdsA X (h₀ :: hds) l) (hm : HdsM X exm f (h₀ :: hds) hs' l) : PMS X Wout (.Try body (h₀ :: hds) [] [] pos) (tryM exm f mb hs') :=
  PS.imp (ps_try_manyA (tb := fun W => tS X.K X.mg W mb) hs hf hN tk hb hh) fun D' σ H ⟨ρ, τ, s, rp, e, h⟩ => by
    refine ⟨ρ, τ, s, rp, e, ?_⟩
    unfold tryM at h
    cases q : mb τ s with
    | exc C fs τ' s' =>
      rw [q] at h
      intro ρ' H' σ' ca dd gs l2 r2 e2 hc hd hg
      have h' : PostS X.K X.mg Wout ρ' H' (retHd σ'.length C f fs s' exm hs') D' := by
        rw [e2.length]
        exact PostS.le l2 h
      exact hd_go hm rfl rfl h' r2 hc hd hg
    | nx τ' s' => rw [q] at h; exact h
    | bk τ' s' => rw [q] at h; exact h
    | ct τ' s' => rw [q] at h; exact h
    | rt d s' => rw [q] at h; exact h
    | bad => rw [q] at h; exact h
end
/-- the suite return (k, e.f) -/
theorem suite_ret {X : Cx} {ca a : Addr} {oe : Obj} {cls : Value} {d : Option Addr} {pn : List (Addr × Obj)} {k : Int} {f n : Str} {i jj kk : Nat} {p1 p2 p3 p4 p5 : Pos}
    (T : XfC X.K ca) (hno : PySem.W.findIn X.K (.ref ca) f = some none) (hz : Zc cls d oe) (hf : ∃ vs, oe.data = .fields vs) (hi : X.N[i]? = some n) (hx : Vis X.env.scope n)
    (hd : (n == ("__debug__" : Str)) = false := by decide) (hcd : (n == ("__classdict__" : Str)) = false := by decide)
    (hb : attributeBase (.Name n p3) f X.env (eval (.Name n p3) X.env) = eval (.Name n p3) X.env := by rfl)
    (hs : starEach [.Constant (.int k) jj p2, .Attribute (.Name n p3) f p4] X.env = (false, eval (.Constant (.int k) jj p2) X.env) :: starEach [.Attribute (.Name n p3) f p4] X.env := by rfl)
    (hs2 : starEach [.Attribute (.Name n p3) f p4] X.env = (false, eval (.Attribute (.Name n p3) f p4) X.env) :: starEach [] X.env := by rfl) :
    PSs (X.suite a ((a, oe) :: pn)) [.Return (some (.Tuple [.Constant (.int k) jj p2, .Attribute (.Name n p3) f p4] kk p5)) p1] (tsHd k i ca f a cls d) := by
  refine PSs.imp (pss_one (ps_ret (pe_tup (pa_cons pe_int (pa_cons (pe_xf T hno hz hf (pe_var (i := i) hi hx hd hcd) hb) pa_nil hs2) hs)))) fun D σ H ⟨h1, h2, dd, fs, v, h3, h4, h5, h6⟩ => ?_
  exact ⟨.ref a, h1, rfl, h2, dd, fs, v, h3, h4, h5, by show 2 ≤ sizeLine; decide, h6⟩
end FL

set_option Elab.async false
set_option linter.all false
set_option maxRecDepth 100000
set_option maxHeartbeats 4000000
namespace FL
open PySem PySem.Spec PyProof.Rows L2
/-! ### a written dict with text keys -/
/-- x not in G -/
def notInG (g : Str) (ks : Str → Option Bool) : D → D → Option D
  | .str z, .glo g' => if g' = g then (ks z).map fun b => .bl (!b) else none
  | _, _ => none
def getG (g : Str) (tab : Str → Option D) : D → D → Option D
  | .glo g', .str z => if g' = g then tab z else none
  | _, _ => none
section
variable {X : Cx} {W : WX} {pos : Pos} {K : PySem.W.Frag} {mg : Str → Option Value} {g : Str} {a : Addr}
theorem oc_notInG {ks : Str → Option Bool} (hm : mg g = some (.ref a)) (hk : ∀ z b, ks z = some b → ∃ r, PySem.W.nsIn K a z = some r ∧ r.isSome = b) :
    OpC K mg (notInG g ks) (fun x y H Q => ∃ (z : Str) (r : Option Value), x = .str z ∧ y = .ref a ∧ PySem.W.nsIn K a z = some r ∧ Q (.bl (!r.isSome)) H) := by
  intro ρ H s v u x y d Q rp hv hu e k
  cases x with
  | str z =>
    cases y with
    | glo g' =>
      have e' : (if g' = g then (ks z).map fun b => D.bl (!b) else none) = some d := e
      by_cases h : g' = g
      · rw [if_pos h] at e'
        cases q : ks z with
        | none => rw [q] at e'; cases e'
        | some b =>
          rw [q] at e'
          cases e'
          obtain ⟨r, h1, h2⟩ := hk z b q
          cases hv
          cases hu with
          | glo hx =>
            rw [h] at hx
            rw [hm] at hx
            cases hx
            exact ⟨z, r, rfl, rfl, h1, k H _ .refl rp (by rw [h2]; exact .bl)⟩
      · rw [if_neg h] at e'; cases e'
    | _ => cases e
  | _ => cases e
theorem oc_getG {tab : Str → Option D} (hm : mg g = some (.ref a)) (hk : ∀ z d, tab z = some d → ∃ u0 v0, PySem.W.nsIn K a z = some (some u0) ∧ RelV v0 u0 ∧ ∀ ρ H, IsV K mg ρ H v0 d) :
    OpC K mg (getG g tab) (fun x y H Q => ∃ (z : Str) (u0 : Value) (v0 : V), x = .ref a ∧ y = .str z ∧ PySem.W.nsIn K a z = some (some u0) ∧ RelV v0 u0 ∧ Q v0 H) := by
  intro ρ H s v u x y d Q rp hv hu e k
  cases x with
  | glo g' =>
    cases y with
    | str z =>
      have e' : (if g' = g then tab z else none) = some d := e
      by_cases h : g' = g
      · rw [if_pos h] at e'
        obtain ⟨u0, v0, h1, h2, h3⟩ := hk z d e'
        cases hu
        cases hv with
        | glo hx =>
          rw [h] at hx
          rw [hm] at hx
          cases hx
          exact ⟨z, u0, v0, rfl, rfl, h1, h2, k H v0 .refl rp (h3 ρ H)⟩
      · rw [if_neg h] at e'; cases e'
    | _ => cases e
  | _ => cases e
theorem ix_kd {es : Array DictEntry} {n : Nat} (D : KDict X.K X.w a es n) : IxR X (fun x y H Q => ∃ (z : Str) (u0 : Value) (v0 : V), x = .ref a ∧ y = .str z ∧ PySem.W.nsIn X.K a z = some (some u0) ∧ RelV v0 u0 ∧ Q v0 H) := by
  intro ea eb pins s σ H x y v u Q I rx ry h hs
  obtain ⟨z, u0, v0, ex, ey, h1⟩ := id h
  subst ex
  obtain rfl : v = Value.ref a := rx
  exact tail_any (kd_type D I) slot_dict_getitem.lookup (op_item_kd D pins s σ H (.ref a) y (.ref a) u Q I rfl ry h) hs
theorem pm_getG {es : Array DictEntry} {n : Nat} {tab : Str → Option D} {ea eb : Expr} {ma mb : M} (D : KDict X.K X.w a es n) (hm : X.mg g = some (.ref a)) (hk : ∀ z d, tab z = some d → ∃ u0 v0, PySem.W.nsIn X.K a z = some (some u0) ∧ RelV v0 u0 ∧ ∀ ρ H, IsV X.K X.mg ρ H v0 d)
    (ha : PM X W ea ma) (hb : PM X W eb mb) (hs : PlainIx eb := by intro _ _; rfl) : PM X W (.Subscript ea eb pos) (op2 (getG g tab) ma mb) :=
  PE.imp (pe_ix (ix_kd D) ha hb hs) fun _ _ _ h => op2_go (oc_getG hm hk) h
/-! ### a written value as a tree -/
theorem tupAt_ok {vs : List V} {u : Value} {us : List Value} (h : tupAt K u = some us) (r : Vals vs us) : ∃ a, u = .ref a ∧ WrT K a vs := by
  unfold tupAt at h
  split at h
  · rename_i a
    split at h
    · rename_i c od its n osl q
      by_cases hc : c = "tuple" ∧ its.size ≤ sizeLine
      · rw [if_pos hc] at h
        cases h
        exact ⟨a, rfl, _, its, n, q, congrArg Value.type hc.1, rfl, hc.2, r⟩
      · rw [if_neg hc] at h; cases h
    · cases h
  · cases h
mutual
theorem isD_ok : ∀ {u : Value} {d : D}, isD K u d = true → ∃ v, RelV v u ∧ ∀ ρ H, IsV K mg ρ H v d
  | u, .tup ds, h => by
    rw [isD] at h
    cases q : tupAt K u with
    | none => rw [q] at h; cases ds <;> simp [isDs] at h
    | some us =>
      rw [q] at h
      obtain ⟨vs, r, hv⟩ := isDs_ok (us := us) h
      obtain ⟨a, ea, hw⟩ := tupAt_ok q r
      exact ⟨.ref a, ea, fun ρ H => .tup (.inr hw) (hv ρ H)⟩
  | u, .str x, h => by
    rw [isD] at h
    unfold strAt at h
    split at h
    · rename_i y t
      exact ⟨.str x, ⟨t, by rw [of_decide_eq_true h]⟩, fun _ _ => .str⟩
    · cases h
  | u, .int x, h => by
    rw [isD] at h
    unfold intAt at h
    split at h
    · rename_i y t
      exact ⟨.int x, ⟨t, by rw [of_decide_eq_true h]⟩, fun _ _ => .int⟩
    · cases h
  | u, .non, h => by
    rw [isD] at h
    unfold nonAt at h
    split at h
    · exact ⟨.non, rfl, fun _ _ => .non⟩
    · cases h
  | u, .bl _, h => by rw [isD] at h; cases h
  | u, .fls _, h => by rw [isD] at h; cases h
  | u, .wls _, h => by rw [isD] at h; cases h
  | u, .ist _ _, h => by rw [isD] at h; cases h
  | u, .obj _, h => by rw [isD] at h; cases h
  | u, .glo _, h => by rw [isD] at h; cases h
  | u, .ty _, h => by rw [isD] at h; cases h
theorem isDs_ok : ∀ {us : List Value} {ds : List D}, isDs K (some us) ds = true → ∃ vs, Vals vs us ∧ ∀ ρ H, IsVs K mg ρ H vs ds
  | us, [], h => by
    cases us with
    | nil => exact ⟨[], .nil, fun _ _ => .nil⟩
    | cons u us => simp [isDs] at h
  | us, d :: ds, h => by
    cases us with
    | nil => simp [isDs] at h
    | cons u us =>
      rw [isDs] at h
      obtain ⟨h1, h2⟩ := Bool.and_eq_true_iff.mp h
      obtain ⟨v, r1, v1⟩ := isD_ok h1
      obtain ⟨vs, r2, v2⟩ := isDs_ok h2
      exact ⟨v :: vs, .cons r1 r2, fun ρ H => .cons (v1 ρ H) (v2 ρ H)⟩
end
end
/-! ### match -/
inductive Pt where
  | val (z : Str)
  | cap (i : Nat)
inductive PtT where
  | seq (ps : List Pt)
  | seqS (ps : List Pt)
  | one (p : Pt)
abbrev Bs := List (Nat × D)
def patM : Pt → D → Option (Option Bs)
  | .val z, .str x => some (if x = z then some [] else none)
  | .val _, _ => none
  | .cap i, d => some (some [(i, d)])
def matchL : List Pt → List D → Option (Option Bs)
  | [], [] => some (some [])
  | p :: ps, d :: ds => match patM p d with
    | some none => some none
    | some (some bs) => (matchL ps ds).map (·.map (bs ++ ·))
    | none => none
  | _, _ => none
def topM : PtT → D → Option (Option Bs)
  | .seq ps, .tup ds => if ds.length ≤ 1000 then (if ds.length = ps.length then matchL ps ds else some none) else none
  | .seqS ps, .tup ds => if ds.length ≤ 1000 then (if ds.length + 1 < ps.length then some none else matchL ps (ds.take (ps.length - 1) ++ [.fls (ds.drop (ps.length - 1))])) else none
  | .one p, d => patM p d
  | _, _ => none
def bindAll : Bs → Env' → Env'
  | [], τ => τ
  | (i, d) :: bs, τ => bindAll bs (τ.set i (some d))
def casesS : List (PtT × MS) → D → MS
  | [], _ => fun τ s => .nx τ s
  | (p, b) :: r, d => fun τ s => match topM p d with
    | none => .bad
    | some none => casesS r d τ s
    | some (some bs) => b (bindAll bs τ) s
def matchS (m : M) (cs : List (PtT × MS)) : MS := fun τ s => (m τ s).toS τ fun d s => casesS cs d τ s
inductive PatOk (X : Cx) : Pattern → Pt → Prop
  | val {z : Str} {j : Nat} {p1 p2 : Pos} : PatOk X (.MatchValue (.Constant (.str z) j p1) p2) (.val z)
  | cap {n : Str} {i : Nat} {p : Pos} (hi : X.N[i]? = some n) (hx : Loc X.env.scope n) (hf : X.fn n = true ∨ X.env.scope.names.lookup n = some .local) : PatOk X (.MatchAs none (some n) p) (.cap i)
  | star {n : Str} {i : Nat} {p : Pos} (hi : X.N[i]? = some n) (hx : Loc X.env.scope n) (hf : X.fn n = true ∨ X.env.scope.names.lookup n = some .local) : PatOk X (.MatchStar (some n) p) (.cap i)
inductive PatsOk (X : Cx) : List Pattern → List Pt → Prop
  | nil : PatsOk X [] []
  | cons {p : Pattern} {q : Pt} {ps : List Pattern} {qs : List Pt} (h : PatOk X p q) (t : PatsOk X ps qs) : PatsOk X (p :: ps) (q :: qs)
inductive TopOk (X : Cx) : Pattern → PtT → Prop
  | one {p : Pattern} {q : Pt} (h : PatOk X p q) (hs : p.isStar = false) : TopOk X p (.one q)
  | seq {ps : List Pattern} {qs : List Pt} {pos : Pos} (h : PatsOk X ps qs) (hstar : ps.findIdx? (·.isStar) = none) (hwild : (ps.all fun p => p.isWildcard || (p.isStar && p.names.isEmpty)) = false) : TopOk X (.MatchSequence ps pos) (.seq qs)
  | seqS {ps : List Pattern} {qs : List Pt} {pos : Pos} {k : Nat} (h : PatsOk X ps qs) (hk : ps.length = k + 2) (hstar : ps.findIdx? (·.isStar) = some (k + 1)) (hwild : (ps.all fun p => p.isWildcard || (p.isStar && p.names.isEmpty)) = false)
      (hname : (ps[k + 1]?.elim [] (·.names)).isEmpty = false) : TopOk X (.MatchSequence ps pos) (.seqS qs)
/-- what was bound -/
inductive BsOk (X : Cx) (K : PySem.W.Frag) (mg : Str → Option Value) (ρ : Rr) (H : Hp) : List (Str × Value) → Bs → Prop
  | nil : BsOk X K mg ρ H [] []
  | cons {n : Str} {u : Value} {i : Nat} {d : D} {v : V} {us : List (Str × Value)} {bs : Bs} (hi : X.N[i]? = some n) (hx : Loc X.env.scope n) (hf : X.fn n = true ∨ X.env.scope.names.lookup n = some .local) (r : RelV v u) (h : IsV K mg ρ H v d) (t : BsOk X K mg ρ H us bs) : BsOk X K mg ρ H ((n, u) :: us) ((i, d) :: bs)
section
variable {X : Cx} {W : WX} {pos : Pos} {K : PySem.W.Frag} {mg : Str → Option Value} {ρ : Rr} {H : Hp}
theorem BsOk.append : ∀ {us ws : List (Str × Value)} {bs cs : Bs}, BsOk X K mg ρ H us bs → BsOk X K mg ρ H ws cs → BsOk X K mg ρ H (us ++ ws) (bs ++ cs)
  | _, _, _, _, .nil, t => t
  | _, _, _, _, .cons a b c d e f, t => .cons a b c d e (BsOk.append f t)
theorem BsOk.mono {ρ' : Rr} {H' : Hp} (l : Le ρ H ρ' H') : ∀ {us : List (Str × Value)} {bs : Bs}, BsOk X K mg ρ H us bs → BsOk X K mg ρ' H' us bs
  | _, _, .nil => .nil
  | _, _, .cons a b c d e f => .cons a b c d (e.mono l) (BsOk.mono l f)
theorem pat_run {p : Pattern} {q : Pt} {pins : List (Addr × Obj)} {s : Shared} {σ : L2.St} {v : V} {u : Value} {d : D} {o : Option Bs} {Q : Option (List (Str × Value)) → Shared → Prop} {E : Value → Shared → Prop} (hp : PatOk X p q) (hs : p.isStar = false) (I : Inv X pins σ H s) (r : RelV v u) (hv : IsV K mg ρ H v d) (he : patM q d = some o)
    (hQ : ∀ us s', Inv X pins σ H s' → (match o with | none => us = none | some bs => ∃ ws, us = some ws ∧ BsOk X K mg ρ H ws bs) → Q us s') : wpAny (model X.prog X.w) X.A (matchPattern p X.env u) Q E s := by
  cases hp with
  | @val z j p1 p2 =>
    cases d with
    | str x =>
      cases hv
      cases he
      obtain ⟨t, rfl⟩ := r
      refine wpAny_matchPattern_Value (Calls.Constant_str ?_)
      refine eq_str ?_
      refine wpAny_truthy_bool ?_
      by_cases hx : x = z
      · have e1 : (x == z) = true := by simp [hx]
        rw [if_pos hx] at hQ
        rw [e1]
        exact hQ (some []) _ (I.tok _) ⟨[], rfl, .nil⟩
      · have e1 : (x == z) = false := by simp [hx]
        rw [if_neg hx] at hQ
        rw [e1]
        exact hQ none _ (I.tok _) rfl
    | _ => cases he
  | @cap n i p hi hx hf =>
    cases he
    exact wpAny_matchPattern_Capture (hQ _ s I ⟨_, rfl, .cons hi hx hf r hv .nil⟩)
  | @star n i p hi hx hf => cases hs
theorem pats_run {E : Value → Shared → Prop} {σ : L2.St} {pins : List (Addr × Obj)} : ∀ {ps : List Pattern} {qs : List Pt} {s : Shared} {vs : List V} {us : List Value} {ds : List D} {o : Option Bs} {Q : Option (List (Str × Value)) → Shared → Prop}, PatsOk X ps qs → Inv X pins σ H s → Vals vs us → IsVs K mg ρ H vs ds → matchL qs ds = some o →
    (∀ us s', Inv X pins σ H s' → (match o with | none => us = none | some bs => ∃ ws, us = some ws ∧ BsOk X K mg ρ H ws bs) → Q us s') → wpAny (model X.prog X.w) X.A (matchEach ps X.env us) Q E s
  | _, _, s, _, _, ds, o, Q, .nil, I, r, hv, he, hQ => by
    cases ds with
    | nil => cases he; exact wpAny_matchEach_nil (hQ _ s I ⟨[], rfl, .nil⟩)
    | cons d ds => cases he
  | _, _, s, vs, us, ds, o, Q, .cons (p := p) (q := q) (ps := ps) (qs := qs) h t, I, r, hv, he, hQ => by
    cases hv with
    | nil => cases he
    | @cons v d vs ds hv1 hv2 =>
      cases r with
      | @cons _ u _ us r1 r2 =>
        unfold matchL at he
        cases q1 : patM q d with
        | none => rw [q1] at he; cases he
        | some o1 =>
          rw [q1] at he
          by_cases hs : p.isStar = false
          · refine wpAny_matchEach_cons (pat_run h hs I r1 hv1 q1 fun ws s1 I1 hw => ?_) hs
            cases o1 with
            | none =>
              cases he
              have hw' : ws = none := hw
              subst hw'
              exact hQ none s1 I1 rfl
            | some bs =>
              obtain ⟨ws', ew, hb⟩ := hw
              subst ew
              cases q2 : matchL qs ds with
              | none => rw [q2] at he; cases he
              | some o2 =>
                rw [q2] at he
                refine pats_run t I1 r2 hv2 q2 fun ws2 s2 I2 hw2 => ?_
                cases o2 with
                | none =>
                  cases he
                  have hw2' : ws2 = none := hw2
                  subst hw2'
                  exact hQ none s2 I2 rfl
                | some bs2 =>
                  cases he
                  obtain ⟨ws3, ew3, hb3⟩ := hw2
                  subst ew3
                  exact hQ _ s2 I2 ⟨_, rfl, hb.append hb3⟩
          · cases h with
            | val => exact absurd rfl hs
            | cap => exact absurd rfl hs
            | @star n i sp hi hx hf =>
              cases q1
              refine PySem.W.kun_each ?_
              cases q2 : matchL qs ds with
              | none => rw [q2] at he; cases he
              | some o2 =>
                rw [q2] at he
                refine pats_run t I r2 hv2 q2 fun ws2 s2 I2 hw2 => ?_
                cases o2 with
                | none =>
                  cases he
                  have hw2' : ws2 = none := hw2
                  subst hw2'
                  exact hQ none s2 I2 rfl
                | some bs2 =>
                  cases he
                  obtain ⟨ws3, ew3, hb3⟩ := hw2
                  subst ew3
                  exact hQ _ s2 I2 ⟨_, rfl, .cons hi hx hf r1 hv1 hb3⟩
end
end FL

set_option Elab.async false
set_option linter.all false
set_option maxRecDepth 100000
set_option maxHeartbeats 2000000
namespace FL
open PySem PySem.Spec PyProof.Rows L2
section
variable {prog : Program} {w : World} {A : Around} {E : Value → Shared → Prop} {s : Shared}
/-- first items, then the rest in a new list -/
theorem unpack_star {l : Addr} {items : Array Value} {n : Nat} {Q : List Value → Shared → Prop} (hl : IsTup s.heap l items) (hh : A.handled = none) (hn : n ≤ items.size) (hz : items.size ≤ 16384)
    (h : ∀ (h' : Heap) (tk : Nat), (∀ b o, s.heap.get? b = some o → h'.get? b = some o) → Q (items.toList.take n ++ [.ref h'.objs.size]) { s with heap := h'.push { cls := .type "list", data := .seq (items.toList.drop n).toArray }, toks := tk }) :
    wpAny (model prog w) A (unpackItems (.ref l) (n + 1) (some n)) Q E s := by
  have hlt : l ≠ s.heap.objs.size := by obtain ⟨o, ho, _⟩ := hl; exact Nat.ne_of_lt (Heap.lt_size ho)
  have hll : l < s.heap.objs.size := by obtain ⟨o, ho, _⟩ := hl; exact Heap.lt_size ho
  unfold unpackItems
  refine wpAny_bind ?_
  unfold notIterableAtAll
  refine wpAny_bind (wpAny_specialOf hl.typeIs slot_tuple_iter.lookup ?_)
  refine wpAny_pure ?_
  simp only [Bool.false_eq_true, if_false]
  refine wpAny_bind (wpAny_holding (iter_tuple hl ?_))
  refine wpAny_bind (wpAny_holding (draw_tuple hlt n 0 _ _ ⟨_, Heap.get?_push_size _ rfl, rfl, rfl⟩ (hl.push _) (by omega) fun h₁ hit₁ hs₁ => ?_))
  have hl₁ : IsTup h₁ l items := (hl.push _).extBut hs₁.extBut hlt
  rw [Nat.zero_add] at hit₁
  have hit₁' := hit₁
  obtain ⟨oi, hoi, _⟩ := hit₁'
  have hl₁' := hl₁
  obtain ⟨ol, hol, _⟩ := hl₁'
  rw [List.drop_zero]
  have hfl : (items.toList.take n).length = n := by rw [List.length_take, Array.length_toList]; omega
  rw [if_neg (show ¬ ((items.toList.take n).length < n) by rw [hfl]; omega)]
  refine wpAny_bind (wpAny_holding (PySem.W.kun_collect (s := { s with heap := h₁ }) (T := "tuple_iterator") (.inr (.inr (.inr rfl))) (Walks.tuple (A := A.in1) hh s.heap.objs.size l hlt items) (fun j u st => st.1.typeIs) (k := n) (by omega) ⟨hit₁, hl₁⟩ (Heap.lt_size hoi) (Heap.lt_size hol) (fun h₂ tk hk => ?_) (by rw [sizeLine_eq]; omega)))
  have hrl : (items.toList.drop n).length = items.size - n := by rw [List.length_drop, Array.length_toList]
  have hmid : (items.toList.drop n).length - (n + 1 - 1 - n) = (items.toList.drop n).length := by omega
  show wpAny _ _ (if (items.toList.drop n).length < n + 1 - 1 - n then _ else _) _ _ _
  rw [if_neg (by omega)]
  show wpAny _ _ (newList ((items.toList.drop n).take ((items.toList.drop n).length - (n + 1 - 1 - n))) >>= fun d => pure (items.toList.take n ++ [d] ++ (items.toList.drop n).drop ((items.toList.drop n).length - (n + 1 - 1 - n)))) _ _ _
  rw [hmid, List.take_length, List.drop_length]
  have he : ∀ b o, s.heap.get? b = some o → h₂.get? b = some o := fun b o e => hk b o (Nat.ne_of_lt (Heap.lt_size e)) (hs₁.extBut b o (Nat.ne_of_lt (Heap.lt_size e)) (Heap.get?_push_of_some _ e))
  refine wpAny_bind (wpAny_newList (wpAny_pure ?_) (by rw [hrl, sizeLine_eq]; omega))
  rw [List.append_nil]
  exact h h₂ tk he
end
section
variable {X : Cx} {W : WX} {pos : Pos} {ρ : Rr} {H : Hp}
theorem matchL_len : ∀ {qs : List Pt} {ds : List D} {bs : Bs}, matchL qs ds = some (some bs) → qs.length = ds.length
  | [], [], _, _ => rfl
  | [], _ :: _, _, h => by cases h
  | _ :: _, [], _, h => by cases h
  | q :: qs, d :: ds, bs, h => by
    unfold matchL at h
    cases q1 : patM q d with
    | none => rw [q1] at h; cases h
    | some o =>
      rw [q1] at h
      cases o with
      | none => cases h
      | some cs =>
        cases q2 : matchL qs ds with
        | none => rw [q2] at h; cases h
        | some o2 =>
          rw [q2] at h
          cases o2 with
          | none => cases h
          | some cs2 => exact congrArg (· + 1) (matchL_len q2)
theorem PatsOk.length : ∀ {ps : List Pattern} {qs : List Pt}, PatsOk X ps qs → ps.length = qs.length
  | _, _, .nil => rfl
  | _, _, .cons _ t => congrArg (· + 1) (PatsOk.length t)
/-- what a pattern leaves -/
def TopP (X : Cx) (pins : List (Addr × Obj)) (σ : L2.St) (ρ : Rr) (H : Hp) (st : Sto) (o : Option Bs) (us : Option (List (Str × Value))) (s' : Shared) : Prop :=
  ∃ H', Inv X pins σ H' s' ∧ Le ρ H ρ H' ∧ Rep X.K X.mg ρ H' st ∧ match o with | none => us = none | some bs => ∃ ws, us = some ws ∧ BsOk X X.K X.mg ρ H' ws bs
theorem top_run {p : Pattern} {q : PtT} {pins : List (Addr × Obj)} {s : Shared} {σ : L2.St} {st : Sto} {v : V} {u : Value} {d : D} {o : Option Bs} {E : Value → Shared → Prop} (hc : X.calm = true) (hp : TopOk X p q) (I : Inv X pins σ H s) (rp : Rep X.K X.mg ρ H st) (r : RelV v u) (hv : IsV X.K X.mg ρ H v d) (he : topM q d = some o) :
    wpAny (model X.prog X.w) X.A (matchPattern p X.env u) (TopP X pins σ ρ H st o) E s := by
  cases hp with
  | one h hs => exact pat_run h hs I r hv he fun us s' I' hw => ⟨H, I', .refl, rp, by cases o <;> exact hw⟩
  | @seq ps qs pos h hstar hwild =>
    cases d with
    | tup ds =>
      cases hv with
      | @tup a xs ds ht hs =>
        obtain rfl : u = Value.ref a := r
        obtain ⟨its, rv, it, _⟩ := I.tuple ht.sq
        have l1 := rv.length
        have l2 := hs.length
        have l3 := h.length
        have s1 : its.toArray.size = its.length := by simp
        have he' : (if ds.length ≤ 1000 then (if ds.length = qs.length then matchL qs ds else some none) else none) = some o := he
        by_cases hz : ds.length ≤ 1000
        · rw [if_pos hz] at he'
          have hfit : (its.toArray.size : Int) < 2 ^ 63 := by rw [s1]; omega
          by_cases hl : ds.length = qs.length
          · rw [if_pos hl] at he'
            refine matchSeq_tuple_hit it hfit (by omega) ?_ hstar hwild
            have e1 : ps.length = its.toArray.size := by omega
            rw [e1]
            have I1 : Inv X pins σ H { s with toks := s.toks + 1 + 1 } := (I.tok _ : Inv X pins σ H { s with toks := s.toks + 1 + 1 })
            refine unpackItems_tuple (s := { s with toks := s.toks + 1 + 1 }) (I.ok.hd hc) it fun h' hx => ?_
            have I2 : Inv X pins σ H { s with heap := h', toks := s.toks + 1 + 1 } := I1.kept (t' := s.toks + 1 + 1) fun b o e => hx b o (Nat.ne_of_lt (Heap.lt_size e)) e
            exact pats_run h I2 (by simpa using rv) hs he' fun us s' I' hw => ⟨H, I', .refl, rp, by cases o <;> exact hw⟩
          · rw [if_neg hl] at he'
            cases he'
            refine matchSeq_tuple_miss it hfit (by omega) ?_ hstar hwild
            exact ⟨H, I.tok _, .refl, rp, rfl⟩
        · rw [if_neg hz] at he'; cases he'
    | _ => cases he
  | @seqS ps qs pos k h hk hstar hwild hname =>
    cases d with
    | tup ds =>
      cases hv with
      | @tup a xs ds ht hs =>
        obtain rfl : u = Value.ref a := r
        obtain ⟨its, rv, it, _⟩ := I.tuple ht.sq
        have l1 := rv.length
        have l2 := hs.length
        have l3 := h.length
        have s1 : its.toArray.size = its.length := by simp
        have he' : (if ds.length ≤ 1000 then (if ds.length + 1 < qs.length then some none else matchL qs (ds.take (qs.length - 1) ++ [.fls (ds.drop (qs.length - 1))])) else none) = some o := he
        by_cases hz : ds.length ≤ 1000
        · rw [if_pos hz] at he'
          have hfit : (its.toArray.size : Int) < 2 ^ 63 := by rw [s1]; omega
          by_cases hl : ds.length + 1 < qs.length
          · rw [if_pos hl] at he'
            cases he'
            exact PySem.W.kun_fewT it hfit hstar (by omega) (by omega) ⟨H, I.tok _, .refl, rp, rfl⟩
          · rw [if_neg hl] at he'
            refine PySem.W.kun_seqT it hfit hstar hwild hname (by omega) (by omega) ?_
            have e1 : ps.length = k + 1 + 1 := by omega
            have e2 : qs.length - 1 = k + 1 := by omega
            rw [e1]
            rw [e2] at he'
            have I1 : Inv X pins σ H { s with toks := s.toks + 1 + 1 } := (I.tok _ : Inv X pins σ H { s with toks := s.toks + 1 + 1 })
            refine unpack_star (s := { s with toks := s.toks + 1 + 1 }) it (I.ok.hd hc) (by omega) (by omega) fun h' tk hx => ?_
            have I2 : Inv X pins σ H { s with heap := h', toks := tk } := I1.kept (t' := tk) hx
            have hn : H h'.objs.size = none := I2.hok.fresh (Nat.le_refl _)
            have hzz : (xs.drop (k + 1)).length ≤ sizeLine := by rw [List.length_drop, sizeLine_eq]; omega
            have I3 : Inv X pins σ (upd H h'.objs.size (.lst (xs.drop (k + 1)))) { s with heap := h'.push { cls := .type "list", data := .seq (its.toArray.toList.drop (k + 1)).toArray }, toks := tk } := by
              refine I2.laid (t' := tk) (fun b o e => Heap.get?_push_of_some _ e) (Nat.le_refl _) ⟨hzz, its.drop (k + 1), 0, rv.drop _, ?_⟩
              have e3 : its.toArray.toList = its := by simp
              rw [e3]
              exact Heap.get?_push_size _ rfl
            have l := Le.new (ρ := ρ) (u := .lst (xs.drop (k + 1))) hn
            have hv2 : IsVs X.K X.mg ρ (upd H h'.objs.size (.lst (xs.drop (k + 1)))) (xs.take (k + 1) ++ [.ref h'.objs.size]) (ds.take (k + 1) ++ [.fls (ds.drop (k + 1))]) :=
              ((hs.take (k + 1)).mono l).append (.cons (.fls upd_same (rp.fresh hn) ((hs.drop (k + 1)).mono l)) .nil)
            have rv2 : Vals (xs.take (k + 1) ++ [V.ref h'.objs.size]) (its.toArray.toList.take (k + 1) ++ [.ref h'.objs.size]) := by
              have e3 : its.toArray.toList = its := by simp
              rw [e3]
              exact (rv.take _).append (.cons rfl .nil)
            exact pats_run h I3 rv2 hv2 he' fun us s' I' hw => ⟨_, I', l, rp.new hn, by cases o <;> exact hw⟩
        · rw [if_neg hz] at he'; cases he'
    | _ => cases he
theorem bind_run {pins : List (Addr × Obj)} {E : Value → Shared → Prop} (hN : X.N.Nodup) : ∀ {us : List (Str × Value)} {bs : Bs} {s : Shared} {σ : L2.St} {τ : Env'} {Q : Unit → Shared → Prop}, Inv X pins σ H s → Evs X.K X.mg ρ H σ τ → BsOk X X.K X.mg ρ H us bs →
    (∀ σ' s', Inv X pins σ' H s' → Evs X.K X.mg ρ H σ' (bindAll bs τ) → Q () s') → wpAny (model X.prog X.w) X.A (assignInOrder (us.map fun (n, _) => bindName X.env n) (us.map (·.2))) Q E s
  | _, _, s, σ, τ, Q, I, e, .nil, k => wpAny_assignInOrder_none (k σ s I e)
  | _, _, s, σ, τ, Q, I, e, .cons hi hx hf r h t, k => by
    refine wpAny_assignInOrder_more (wpAny_bindName (store_ok I hN hi hx r (fun s2 I2 => ?_) hf))
    exact bind_run hN I2 (e.set _ h) t k
/-- the cases of a match, from their readings -/
inductive CasesOk (X : Cx) (W : WX) : List MatchCase → List (PtT × MS) → Prop
  | nil : CasesOk X W [] []
  | cons {p : Pattern} {q : PtT} {body : List Stmt} {m : MS} {cs : List MatchCase} {l : List (PtT × MS)} (h : TopOk X p q) (hb : PMSs X W body m) (t : CasesOk X W cs l) : CasesOk X W (⟨p, none, body⟩ :: cs) ((q, m) :: l)
theorem cases_run {pins : List (Addr × Obj)} (hc : X.calm = true) (hN : X.N.Nodup) {D' : Ends} {v : V} {u : Value} {d : D} (r : RelV v u) : ∀ {cs : List MatchCase} {l : List (PtT × MS)} {s : Shared} {σ : L2.St} {τ : Env'} {ρ : Rr} {H : Hp} {st : Sto} {first : Bool}, CasesOk X W cs l → Inv X pins σ H s → Rep X.K X.mg ρ H st → Evs X.K X.mg ρ H σ τ → IsV X.K X.mg ρ H v d →
    PostS X.K X.mg W ρ H (casesS l d τ st) D' → wpAny (model X.prog X.w) X.A (matchCases cs X.env u first) (SP X pins D') X.xe s
  | _, _, s, σ, τ, ρ, H, st, first, .nil, I, rp, e, hv, h => wpAny_matchCases_nil ⟨σ, H, I, h ρ H σ .refl rp e⟩
  | _, _, s, σ, τ, ρ, H, st, first, .cons (q := q) (m := m) (l := l) ht hb t, I, rp, e, hv, h => by
    refine wpAny_matchCases_cons ?_
    have h' : PostS X.K X.mg W ρ H (match topM q d with
      | none => RS.bad
      | some none => casesS l d τ st
      | some (some bs) => m (bindAll bs τ) st) D' := h
    cases qt : topM q d with
    | none => rw [qt] at h'; exact h'.elim
    | some o =>
      rw [qt] at h'
      refine thn (top_run hc ht I rp r hv qt) fun us s1 ⟨H1, I1, l1, r1, hw⟩ => ?_
      cases o with
      | none =>
        have hw' : us = none := hw
        subst hw'
        exact cases_run hc hN r t I1 r1 (e.mono l1) (hv.mono l1) (PostS.le l1 h')
      | some bs =>
        obtain ⟨ws, ew, hbs⟩ := hw
        subst ew
        refine bind_run hN I1 (e.mono l1) hbs fun σ2 s2 I2 e2 => ?_
        exact hb.run pins s2 σ2 H1 D' I2 ⟨ρ, bindAll bs τ, st, r1, e2, PostS.le l1 h'⟩
theorem pms_match {e : Expr} {m : M} {cs : List MatchCase} {l : List (PtT × MS)} (hc : X.calm = true) (hN : X.N.Nodup) (he : PM X W e m) (h : CasesOk X W cs l) : PMS X W (.Match e cs pos) (matchS m l) := by
  refine ⟨fun pins s σ H D' I ⟨ρ, τ, st, rp, ev, hq⟩ => ?_⟩
  refine wpAny_Match (thn (he.run pins s σ H (fun v H1 => ∃ ρ1 d st1, Rep X.K X.mg ρ1 H1 st1 ∧ Evs X.K X.mg ρ1 H1 σ τ ∧ IsV X.K X.mg ρ1 H1 v d ∧ PostS X.K X.mg W ρ1 H1 (casesS l d τ st1) D') I (tM_go rp ev (PostS.expr ev hq) fun ρ1 H1 d s1 v l1 r1 e1 hv h1 => ⟨ρ1, d, s1, r1, e1, hv, h1⟩)) fun u s1 ⟨v, H1, I1, r, ρ1, d, st1, r1, e1, hv, h1⟩ => ?_)
  exact cases_run hc hN r h I1 r1 e1 hv h1
end
end FL

set_option Elab.async false
set_option linter.all false
set_option maxRecDepth 100000
set_option maxHeartbeats 2000000
namespace FL
open PySem PySem.Spec PyProof.Rows L2
/-! ### truth of a list -/
def truF (x : D) (s : Sto) : Option Bool := match x with
  | .obj i => (match s[i]? with
    | some (.lst ds) => some (!ds.isEmpty)
    | _ => none)
  | _ => none
section
variable {X : Cx} {W : WX} {pos : Pos}
theorem isEmptyL {α β : Type} {xs : List α} {ys : List β} (h : xs.length = ys.length) : xs.isEmpty = ys.isEmpty := by
  cases xs <;> cases ys <;> first | rfl | simp at h
theorem pmb_tru {e : Expr} {m : M} (h : PM X W e m) (he : ∀ whole, isTrue e X.env whole = (do let v ← whole; standAt e.pos; holding [v] (truthy v)) := by intro _; rfl) : PMB X W e (ttM truF m) :=
  PT.imp (pt_truth h he) fun σ H Q ⟨ρ, τ, s, rp, e, hq⟩ => tM_go rp e (Post.bind hq) fun ρ1 H1 x s1 v l1 r1 e1 hv h1 => by
    cases x with
    | obj i =>
      cases hv with
      | @obj a i ha =>
        have h1' : Post X.K X.mg W ρ1 H1 σ (R.of (match s1[i]? with
          | some (.lst ds) => some (!ds.isEmpty)
          | _ => none) s1) (fun _ H' b _ => Q b H') := h1
        cases q : s1[i]? with
        | none => rw [q] at h1'; exact h1'.elim
        | some o =>
          rw [q] at h1'
          cases o with
          | ins C fs => exact h1'.elim
          | lst ds =>
            obtain ⟨ys, e2, e3⟩ := r1.at_ i a _ ha q
            refine ⟨!ds.isEmpty, .inl ⟨ys, .of e2, by rw [isEmptyL e3.length]⟩, h1' ρ1 H1 .refl r1⟩
    | _ => exact h1.elim
/-! ### printed terms -/
theorem qv (i : Nat) {x : Str} {pos : Pos} (hN : X.N[i]? = some x := by rfl) (hv : Vis X.env.scope x := by first | exact Or.inl rfl | exact Or.inr (Or.inl rfl) | exact Or.inr (Or.inr rfl)) (hd : (x == ("__debug__" : Str)) = false := by decide)
    (hcd : (x == ("__classdict__" : Str)) = false := by decide) : PM X W (.Name x pos) (varM i) := pm_var hN hv hd hcd
theorem qset (nd : X.N.Nodup) (i : Nat) {x : Str} {e : Expr} {m : M} {pos' : Pos} (he : PM X W e m) (hi : X.N[i]? = some x := by rfl) (hx : Loc X.env.scope x := by first | exact Or.inl rfl | exact Or.inr rfl) (hs : swapsWith e (some (.Name x pos')) pos.line X.env = pure false := by rfl)
    (hf : X.fn x = true ∨ X.env.scope.names.lookup x = some .local := by first | exact .inl rfl | exact .inr rfl) : PMS X W (.Assign [.Name x pos'] e pos) (setM i m) := pms_set nd hi hx he hs hf
theorem qgn (nd : X.N.Nodup) (i : Nat) {x : Str} {pos : Pos} (hi : X.N[i]? = some x := by rfl) (hx : Loc X.env.scope x := by first | exact Or.inl rfl | exact Or.inr rfl) (hf : X.fn x = true ∨ X.env.scope.names.lookup x = some .local := by first | exact .inl rfl | exact .inr rfl) : PMG X (.Name x pos) (nameG i) := pmg_name nd hi hx hf
section
variable {a b : Expr} {ma mb : M}
theorem qadd (ha : PM X W a ma) (hb : PM X W b mb) : PM X W (.BinOp a .Add b pos) (op2 addP ma mb) := pm_op op_addA oc_add ha hb
theorem qsub (ha : PM X W a ma) (hb : PM X W b mb) : PM X W (.BinOp a .Sub b pos) (op2 subP ma mb) := pm_op op_sub oc_sub ha hb
theorem qmul (ha : PM X W a ma) (hb : PM X W b mb) : PM X W (.BinOp a .Mult b pos) (op2 mulP ma mb) := pm_op op_mulW oc_mul ha hb
theorem qdiv (ha : PM X W a ma) (hb : PM X W b mb) : PM X W (.BinOp a .FloorDiv b pos) (op2 divP ma mb) := pm_op op_fdivW oc_div ha hb
theorem qmod (ha : PM X W a ma) (hb : PM X W b mb) : PM X W (.BinOp a .Mod b pos) (op2 modP ma mb) := pm_op op_mod oc_mod ha hb
theorem qpow (ha : PM X W a ma) (hb : PM X W b mb) : PM X W (.BinOp a .Pow b pos) (op2 powP ma mb) := pm_op op_pow2 oc_pow ha hb
theorem qneg (ha : PM X W a ma) : PM X W (.UnaryOp .USub a pos) (op1 negP ma) := pm_un un_neg (fun ρ H v x d Q hv he k => by
  cases x with
  | int i => cases hv; cases he; exact ⟨i, rfl, k _ .int⟩
  | _ => cases he) ha
variable {k : Nat} (hr : Room k X.A)
include hr
theorem room65 : X.A.units + 65 < cLine := by have := hr.un; omega
theorem qeq (ha : PM X W a ma) (hb : PM X W b mb) : PM X W (.Compare a [.Eq] [b] pos) (op2 eqP ma mb) := pm_cmp (op_eqA hr.units) oc_eq ha hb (nomark _)
theorem qne (ha : PM X W a ma) (hb : PM X W b mb) : PM X W (.Compare a [.NotEq] [b] pos) (op2 neP ma mb) := pm_cmp (op_neA hr.units) oc_ne ha hb (nomark _)
theorem qlt (ha : PM X W a ma) (hb : PM X W b mb) : PM X W (.Compare a [.Lt] [b] pos) (op2 ltP ma mb) := pm_cmp op_lt oc_cmp ha hb (nomark _)
theorem qle (ha : PM X W a ma) (hb : PM X W b mb) : PM X W (.Compare a [.LtE] [b] pos) (op2 leP ma mb) := pm_cmp op_le oc_cmp ha hb (nomark _)
theorem qgt (ha : PM X W a ma) (hb : PM X W b mb) : PM X W (.Compare a [.Gt] [b] pos) (op2 gtP ma mb) := pm_cmp op_gt oc_cmp ha hb (nomark _)
theorem qge (ha : PM X W a ma) (hb : PM X W b mb) : PM X W (.Compare a [.GtE] [b] pos) (op2 geP ma mb) := pm_cmp op_ge oc_cmp ha hb (nomark _)
theorem qin (ha : PM X W a ma) (hb : PM X W b mb) (hm : behindInMarks .In b = false := by with_unfolding_all rfl) : PM X W (.Compare a [.In] [b] pos) (op2 inP ma mb) := pm_cmp (op_inA (room65 hr)) oc_in ha hb hm
theorem qnin (ha : PM X W a ma) (hb : PM X W b mb) (hm : behindInMarks .NotIn b = false := by with_unfolding_all rfl) : PM X W (.Compare a [.NotIn] [b] pos) (op2 notInP ma mb) := pm_cmp (op_notInA (room65 hr)) oc_notIn ha hb hm
theorem qis (ha : PM X W a ma) (hb : PM X W b mb) : PM X W (.Compare a [.Is] [b] pos) (op2 isNP ma mb) := pm_cmp op_isN oc_isN ha hb (nomark _)
theorem qnis (ha : PM X W a ma) (hb : PM X W b mb) : PM X W (.Compare a [.IsNot] [b] pos) (op2 notNP ma mb) := pm_cmp op_notN oc_notN ha hb (nomark _)
theorem teq (ha : PM X W a ma) (hb : PM X W b mb) : PMB X W (.Compare a [.Eq] [b] pos) (valB (op2 eqP ma mb)) := pmb_cmp (op_eqA hr.units) oc_eq ha hb (nomark _)
theorem tne (ha : PM X W a ma) (hb : PM X W b mb) : PMB X W (.Compare a [.NotEq] [b] pos) (valB (op2 neP ma mb)) := pmb_cmp (op_neA hr.units) oc_ne ha hb (nomark _)
theorem tlt (ha : PM X W a ma) (hb : PM X W b mb) : PMB X W (.Compare a [.Lt] [b] pos) (valB (op2 ltP ma mb)) := pmb_cmp op_lt oc_cmp ha hb (nomark _)
theorem tle (ha : PM X W a ma) (hb : PM X W b mb) : PMB X W (.Compare a [.LtE] [b] pos) (valB (op2 leP ma mb)) := pmb_cmp op_le oc_cmp ha hb (nomark _)
theorem tgt (ha : PM X W a ma) (hb : PM X W b mb) : PMB X W (.Compare a [.Gt] [b] pos) (valB (op2 gtP ma mb)) := pmb_cmp op_gt oc_cmp ha hb (nomark _)
theorem tge (ha : PM X W a ma) (hb : PM X W b mb) : PMB X W (.Compare a [.GtE] [b] pos) (valB (op2 geP ma mb)) := pmb_cmp op_ge oc_cmp ha hb (nomark _)
theorem tin (ha : PM X W a ma) (hb : PM X W b mb) (hm : behindInMarks .In b = false := by with_unfolding_all rfl) : PMB X W (.Compare a [.In] [b] pos) (valB (op2 inP ma mb)) := pmb_cmp (op_inA (room65 hr)) oc_in ha hb hm
theorem tnin (ha : PM X W a ma) (hb : PM X W b mb) (hm : behindInMarks .NotIn b = false := by with_unfolding_all rfl) : PMB X W (.Compare a [.NotIn] [b] pos) (valB (op2 notInP ma mb)) := pmb_cmp (op_notInA (room65 hr)) oc_notIn ha hb hm
theorem tis (ha : PM X W a ma) (hb : PM X W b mb) : PMB X W (.Compare a [.Is] [b] pos) (valB (op2 isNP ma mb)) := pmb_cmp op_isN oc_isN ha hb (nomark _)
theorem tnis (ha : PM X W a ma) (hb : PM X W b mb) : PMB X W (.Compare a [.IsNot] [b] pos) (valB (op2 notNP ma mb)) := pmb_cmp op_notN oc_notN ha hb (nomark _)
end
/-! ### comprehensions -/
section
variable {elt iter : Expr} {scope : Scope} {mi : MI} {te : M}
theorem yes_go {K : PySem.W.Frag} {mg : Str → Option Value} : ∀ σ H Q, tMB K mg WN yesB σ H Q → tYes σ H Q := fun σ H Q ⟨ρ, τ, s, rp, e, h⟩ => h ρ H .refl rp
theorem qlc {tg : Expr} (hc : X.calm = true) (nd : X.N.Nodup) (own : List (Str × Nat)) (g : Tgt) (hi : PMI X W tg iter mi)
    (hg : ∀ (s : Shared) (H : Hp) (C : Addr) (cl : List (Str × Addr)) (fp : List Addr), PG (X.blk s H scope (compEnvC scope cl C X.env) fp) tg (tgtG X.K g))
    (he : ∀ (s : Shared) (H : Hp) (C : Addr) (cl : List (Str × Addr)) (fp : List Addr), PM (X.blk s H scope (compEnvC scope cl C X.env) fp) WN elt te)
    (ok : blkC X.N X.env.scope scope own = true := by kernel_rfl) (hs : ∀ i ∈ g.slots, i ∈ own.map (·.2) := by decide) (hf : ∀ x, foldedSetIterable iter X.env x = pure x := by intro _; rfl) :
    PM X W (.ListComp elt [⟨tg, iter, [], 0⟩] scope pos) (lcM mi g yesB te (own.map (·.2))) :=
  pm_lc hi hs yes_go fun h => pe_lc hc nd h (blkOk_by ok) hg (fun _ _ _ _ _ => pts_nil) he hf
theorem qsetLc {tg : Expr} {y : Str} {py spos : Pos} (hc : X.calm = true) (nd : X.N.Nodup) (k : Nat) (own : List (Str × Nat)) (g : Tgt) (hi : PMI X W tg iter mi)
    (hg : ∀ (s : Shared) (H : Hp) (C : Addr) (cl : List (Str × Addr)) (fp : List Addr), PG (X.blk s H scope (compEnvC scope cl C X.env) fp) tg (tgtG X.K g))
    (he : ∀ (s : Shared) (H : Hp) (C : Addr) (cl : List (Str × Addr)) (fp : List Addr), PM (X.blk s H scope (compEnvC scope cl C X.env) fp) WN elt te)
    (hy : X.N[k]? = some y := by rfl) (hyl : X.env.scope.names.lookup y = some .local := by rfl) (hsw : swapsWith (.ListComp elt [⟨tg, iter, [], 0⟩] scope pos) (some (.Name y py)) spos.line X.env = pure true := by exact sw_true rfl rfl rfl rfl)
    (ok : blkC X.N X.env.scope scope own = true := by kernel_rfl) (hs : ∀ i ∈ g.slots, i ∈ own.map (·.2) := by decide) (hf : ∀ x, foldedSetIterable iter X.env x = pure x := by intro _; rfl) :
    PMS X W (.Assign [.Name y py] (.ListComp elt [⟨tg, iter, [], 0⟩] scope pos) spos) (setM k (lcM mi g yesB te (own.map (·.2)))) :=
  pms_setLc hi hs yes_go fun h => ps_setLc hc nd hy hyl hsw h (blkOk_by ok) hg (fun _ _ _ _ _ => pts_nil) he hf
end
end
/-! ### a def's promise, boxed -/
def Okf (P : Program) (w : World) (K : PySem.W.Frag) (mg : Str → Option Value) (base : Heap) (k : Nat) (f : Addr) (n : Nat) (F : Fn) : Prop :=
  ∃ (fd : FuncData) (ps : List Str), FnOk P w K mg base (L2.CX P w) k f fd ps (spM K mg n F) ∧ Binds K fd ps [] ∧ ps.length = n ∧ PySem.W.keepIn K (.ref f) = true
def Ar (n : Nat) (F : Fn) : Prop := ∀ ds s, ds.length ≠ n → F ds s = .bad
theorem ar_fn {n N : Nat} {m : MS} : Ar n (fnM n N m) := fun ds s h => if_neg h
theorem ar_bad {n : Nat} : Ar n (fun _ _ => .bad) := fun _ _ _ => rfl
section
variable {X : Cx} {W : WX} {k j n : Nat} {f : Addr} {F : Fn} {x : Str} {p pos p1 : Pos} {e : Expr} {es : List Expr} {m : MA} {me : M}
theorem Okf.does (o : Okf X.prog X.w X.K X.mg X.base k f n F) (ar : Ar n F) (hr : Room j X.A) (tk : Takes X W) (hk : k ≤ j) : Does X W f F := by
  obtain ⟨fd, ps, h1, h2, h3, h4⟩ := o
  exact does_fn0 h1 (hr.mono hk) tk h2 h3 ar
theorem Okf.kp {P : Program} {w : World} {K : PySem.W.Frag} {mg : Str → Option Value} {base : Heap} (o : Okf P w K mg base k f n F) : PySem.W.keepIn K (.ref f) = true := by
  obtain ⟨fd, ps, h1, h2, h3, h4⟩ := o
  exact h4
theorem qcall (o : Okf X.prog X.w X.K X.mg X.base k f n F) (ar : Ar n F) (hr : Room j X.A) (tk : Takes X W) (hm : X.mg x = some (.ref f)) (ha : PMA X W (e :: es) m) (hk : k ≤ j := by omega) (hg : Gl X x := by rfl) (hdb : (x == ("__debug__" : Str)) = false := by decide)
    (he : starEach (e :: es) X.env = (false, eval e X.env) :: starEach es X.env := by rfl) (hpl : (backTo pos (starEach es X.env)).any (·.1) = false := by rfl) : PM X W (.Call (.Name x p) (e :: es) [] pos) (callM F m) :=
  pm_callN (o.does ar hr tk hk) hg hm o.kp ha hdb he hpl
theorem qcall0 (o : Okf X.prog X.w X.K X.mg X.base k f n F) (ar : Ar n F) (hr : Room j X.A) (tk : Takes X W) (hm : X.mg x = some (.ref f)) (hk : k ≤ j := by omega) (hg : Gl X x := by rfl) (hdb : (x == ("__debug__" : Str)) = false := by decide) : PM X W (.Call (.Name x p) [] [] pos) (callM F nilA) :=
  pm_callN0 (o.does ar hr tk hk) hg hm o.kp hdb
theorem qcallS (o : Okf X.prog X.w X.K X.mg X.base k f n F) (ar : Ar n F) (hr : Room j X.A) (tk : Takes X W) (hm : X.mg x = some (.ref f)) (he : PM X W e me) (hk : k ≤ j := by omega) (hg : Gl X x := by rfl) (hdb : (x == ("__debug__" : Str)) = false := by decide)
    (hst : starEach [.Starred e p1] X.env = [(true, eval e X.env)] := by rfl) : PM X W (.Call (.Name x p) [.Starred e p1] [] pos) (callM F (starA me nilA)) :=
  pm_callS1 (o.does ar hr tk hk) hg hm o.kp he hdb hst
end
/-! ### a class's making, boxed -/
def Okc (P : Program) (w : World) (K : PySem.W.Frag) (mg : Str → Option Value) (base : Heap) (k : Nat) (C : Addr) (n : Nat) (F : Fn) : Prop :=
  ∃ (f : Addr) (fd : FuncData) (ps : List Str), Mk K C f ∧ FnOk P w K mg base (L2.CX P w) k f fd ps (spM K mg (n + 1) F) ∧ Binds K fd ps [] ∧ ps.length = n + 1
section
variable {X : Cx} {W : WX} {k j n : Nat} {C : Addr} {F : Fn} {x : Str} {p pos p1 : Pos} {e : Expr} {es : List Expr} {m : MA} {me : M}
theorem moreF_nil {F : Fn} : moreF [] F = F := by
  funext ds s
  unfold moreF
  rw [List.append_nil]
theorem Okc.does (o : Okc X.prog X.w X.K X.mg X.base k C n F) (ar : Ar (n + 1) F) (hr : Room j X.A) (hm : X.mg x = some (.ref C)) (hk : k + 1 ≤ j) : Does X W C (newF x F) := by
  obtain ⟨f, fd, ps, M, h1, h2, h3⟩ := o
  have z := does_new (W := W) (ws := []) M h1 (hr.mono hk) hm h2 .nil h3 (fun _ _ => .nil) ar
  rwa [moreF_nil] at z
theorem Okc.kp {P : Program} {w : World} {K : PySem.W.Frag} {mg : Str → Option Value} {base : Heap} (o : Okc P w K mg base k C n F) : PySem.W.keepIn K (.ref C) = true := by
  obtain ⟨f, fd, ps, M, h1, h2, h3⟩ := o
  exact M.kp
theorem qnew (o : Okc X.prog X.w X.K X.mg X.base k C n F) (ar : Ar (n + 1) F) (hr : Room j X.A) (hm : X.mg x = some (.ref C)) (ha : PMA X W (e :: es) m) (hk : k + 1 ≤ j := by omega) (hg : Gl X x := by rfl) (hdb : (x == ("__debug__" : Str)) = false := by decide)
    (he : starEach (e :: es) X.env = (false, eval e X.env) :: starEach es X.env := by rfl) (hpl : (backTo pos (starEach es X.env)).any (·.1) = false := by rfl) : PM X W (.Call (.Name x p) (e :: es) [] pos) (callM (newF x F) m) :=
  pm_callN (o.does ar hr hm hk) hg hm o.kp ha hdb he hpl
theorem qnewS (o : Okc X.prog X.w X.K X.mg X.base k C n F) (ar : Ar (n + 1) F) (hr : Room j X.A) (hm : X.mg x = some (.ref C)) (he : PM X W e me) (hk : k + 1 ≤ j := by omega) (hg : Gl X x := by rfl) (hdb : (x == ("__debug__" : Str)) = false := by decide)
    (hst : starEach [.Starred e p1] X.env = [(true, eval e X.env)] := by rfl) : PM X W (.Call (.Name x p) [.Starred e p1] [] pos) (callM (newF x F) (starA me nilA)) :=
  pm_callS1 (o.does ar hr hm hk) hg hm o.kp he hdb hst
theorem qnewS2 (o : Okc X.prog X.w X.K X.mg X.base k C n F) (ar : Ar (n + 1) F) (hr : Room j X.A) (hm : X.mg x = some (.ref C)) (ha : PMA X W (.Starred e p1 :: es) m) (hk : k + 1 ≤ j := by omega) (hg : Gl X x := by rfl) (hdb : (x == ("__debug__" : Str)) = false := by decide)
    (he : ∃ y ys, backTo pos (starEach (.Starred e p1 :: es) X.env) = (true, do let v ← eval e X.env; standAt pos; pure v) :: y :: ys := by exact ⟨_, _, rfl⟩) : PM X W (.Call (.Name x p) (.Starred e p1 :: es) [] pos) (callM (newF x F) m) :=
  pm_callS2 (o.does ar hr hm hk) hg hm o.kp ha hdb he
end
end FL

set_option Elab.async false
set_option linter.all false
set_option maxRecDepth 100000
set_option maxHeartbeats 4000000
/-! FL13: a comprehension whose element raises. -/
namespace FL
open PySem PySem.Spec PyProof.Rows L2
def compPostX (M : Model) (A : Around) (E : Value → Shared → Prop) (Q : Value → Shared → Prop) (acc : Value) (ce : Env) (r : Result) (s' : Shared) : Prop :=
  match r with
  | .ok _ => ∃ m, s'.heap.Ns ce.locals m ∧ ∀ h', Heap.SameBut ce.locals s'.heap h' → Q acc { s' with heap := h' }
  | .error x => ∃ m, s'.heap.Ns ce.locals m ∧ ∀ h', Heap.SameBut ce.locals s'.heap h' → wpAny M A (PySem.passOn "comprehension.variables-let-go" x ce : Sem Value) (fun _ _ => False) E { s' with heap := h' }
section
variable {M : Model} {A : Around} {E : Value → Shared → Prop} {s : Shared} {env : Env}
theorem comprehensionX {e : Expr} {scope : Scope} {pos : Pos} {newAcc first : Sem Value} {g : Comprehension} {gs : List Comprehension} {cl : List (Str × Addr)} {Q : Value → Shared → Prop}
    (hcl : clausesOf e = g :: gs) (hs : ∀ x, foldedSetIterable g.iter env x = pure x) (hclos : closureFor scope env = pure cl)
    (hkind : scope.kind = .function) (hnames : ∀ x ∈ scope.names, x.2 = .local → scope.names.lookup x.1 = some .local)
    (h : wpAny M A first (fun x s₁ => wpAny M A (pyIter x) (fun it s₂ => wpAny M A newAcc (fun acc s₃ =>
      wpAny M A (newFunctionEnv scope env.globals cl [] env.qual none .none (some env)) (fun cenv s₄ =>
        codeAny M A (.compStart e 0 it acc { cenv with scope := relabel scope env }) (compPostX M A E Q acc { cenv with scope := relabel scope env }) s₄) E s₃) E s₂) E s₁) E s) :
    wpAny M A (comprehension e scope env pos newAcc false first none) Q E s := by
  unfold comprehension
  rw [hclos, hcl]
  refine wpAny_bind (wpAny_mono h (fun x s₁ h₁ => wpAny_bind (wpAny_standAt (wpAny_bind (wpAny_of_eq (hs x) (wpAny_bind (wpAny_holding (wpAny_mono h₁ (fun it s₂ h₂ =>
    wpAny_standIf (wpAny_bind (wpAny_mono h₂ (fun acc s₃ h₃ => wpAny_bind (wpAny_pure (wpAny_bind (wpAny_mono h₃ (fun cenv s₄ h₄ => ?_) fun _ _ h' => h')))) fun _ _ h' => h')))
      fun _ _ h' => h'))))))) fun _ _ h' => h')
  dsimp only
  have hv : ∀ x ∈ (scope.names.filter fun x => (x.2 == .local || x.2 == .cell) && x.1 != (".0" : Str)).reverse, x.2 = .local →
      Env.kindOf { cenv with scope := relabel scope env } x.1 = some .local := fun x hx hl => lookup_relabel_local (hnames x (List.mem_filter.mp (List.mem_reverse.mp hx)).1 hl)
  refine wpAny_holding (wpAny_bind (wpAny_attempt (wpAny_holding (wpAny_run (codeAny_mono h₄ fun r s' hr => ?_)))))
  cases r with
  | ok f =>
    obtain ⟨m, hn, hr⟩ := hr
    exact wpAny_bind (wpAny_holding (wpAny_comp_letGo (cenv := { cenv with scope := relabel scope env }) hkind _ s' m hv hn fun h' m' _ hs' => wpAny_pure (hr h' hs')))
  | error x =>
    obtain ⟨m, hn, hr⟩ := hr
    exact wpAny_bind (wpAny_holding (wpAny_comp_letGo (cenv := { cenv with scope := relabel scope env }) hkind _ s' m hv hn fun h' m' _ hs' => wpAny_mono (hr h' hs') (fun _ _ f => f.elim) fun _ _ y => y))
end
theorem funFrames_at {B B' h h' : Heap} : ∀ {l : List Env}, h.FunFrames B l → (∀ L ∈ frs l, h'.get? L = h.get? L) → (∀ L ∈ frs l, B.get? L = none → B'.get? L = none) → h'.FunFrames B' l
  | [], _, _, _ => trivial
  | env :: l, hh, k1, k2 => by
    obtain ⟨hk, ⟨L, o, hf, hb, ho, hd⟩, hr⟩ := hh
    have m : L ∈ frs (env :: l) := List.mem_filterMap.mpr ⟨env, List.mem_cons_self, hf⟩
    exact ⟨hk, ⟨L, o, hf, k2 L m hb, (k1 L m).trans ho, hd⟩, funFrames_at hr (fun M hM => k1 M (by
      obtain ⟨e, he, q⟩ := List.mem_filterMap.mp hM
      exact List.mem_filterMap.mpr ⟨e, List.mem_cons_of_mem _ he, q⟩)) fun M hM => k2 M (by
      obtain ⟨e, he, q⟩ := List.mem_filterMap.mp hM
      exact List.mem_filterMap.mpr ⟨e, List.mem_cons_of_mem _ he, q⟩)⟩
/-- an exception that flies over the frames, out of a call -/
def XF (X : Cx) (E : XK) (u : Value) (s' : Shared) : Prop :=
  ∃ (a : Addr) (B : Heap) (sI : Shared) (pins : List (Addr × Obj)) (σ : L2.St) (H : Hp) (cls : Value) (d : Option Addr),
    u = .ref a ∧ Inv X pins σ H sI ∧ (∀ b o, sI.heap.get? b = some o → b ∉ frs X.stack → B.get? b = some o) ∧ sI.heap.UpToSlots s'.heap ∧
      HandSPX.FlyingZ B X.stack a (Zc cls d) s'.heap ∧ H a = none ∧ s'.os = sI.os ∧ AllBare s'.gens ∧ E cls d H
theorem XF.of_call {X : Cx} {pins : List (Addr × Obj)} {σ : L2.St} {H : Hp} {s s' : Shared} {E : XK} (I : Inv X pins σ H s) {u : Value} (c : CX X.prog X.w X.stack H s E u s') : XF X E u s' := by
  obtain ⟨a, B, H', cls, d, rfl, fl, hok, ub, na, os, ag, hE⟩ := c
  obtain ⟨G, g1, g2⟩ := restrict s'.heap fun b => (B.get? b).isSome || decide (b ∈ frs X.stack)
  have st : B.StaysIn s'.heap := fl.1
  have gB : ∀ b o, B.get? b = some o → G.get? b = some o := fun b o e => by
    rw [g1 b (by simp [e])]
    exact st b o e
  have gF : ∀ b, b ∈ frs X.stack → G.get? b = s'.heap.get? b := fun b hb => g1 b (by simp [hb])
  have og : ∀ b o, G.get? b = some o → s'.heap.get? b = some o ∧ ((B.get? b).isSome = true ∨ b ∈ frs X.stack) := fun b o e => by
    cases q : ((B.get? b).isSome || decide (b ∈ frs X.stack)) with
    | false => rw [g2 b q] at e; cases e
    | true =>
      rw [g1 b q] at e
      exact ⟨e, by simpa [Bool.or_eq_true] using q⟩
  refine ⟨a, B, { s with heap := G, gens := s'.gens, drawn := s'.drawn, toks := s'.toks }, pins, σ, H', cls, d, rfl, ?_, fun b o e hb => ?_, Heap.UpToSlots.of_keeps fun b o e => (og b o e).1, fl, na, os, ag, hE⟩
  · refine I.call (ch := []) ⟨fun b o e n hb _ => gB b o (ub.keep b o e n hb), fun b o e n hb _ => ?_, fun b o e n _ => ub.free b o e n, fun b o e _ => ?_, ub.tups, ub.frzs, ub.tbls⟩ (hok.kept gB) ag (fun _ z => nomatch z)
    · obtain ⟨sl, q⟩ := ub.slot b o e hb
      exact ⟨sl, by rw [gF b hb]; exact q⟩
    · by_cases hb : b ∈ frs X.stack
      · obtain ⟨sl, q⟩ := ub.slot b o e hb
        exact ⟨_, by rw [gF b hb]; exact q⟩
      · obtain ⟨o', q⟩ := ub.there b o e hb
        exact ⟨o', gB b o' q⟩
  · obtain ⟨e', h⟩ := og b o e
    rcases h with h | h
    · obtain ⟨o', q⟩ := Option.isSome_iff_exists.mp h
      have z := st b o' q
      rw [e'] at z; cases z
      exact q
    · exact absurd h hb
abbrev blkX (X : Cx) (s : Shared) (H : Hp) (scope : Scope) (ce : Env) (fp : List Addr) (xe : Value → Shared → Prop) : Cx := { X.blk s H scope ce fp with xe := xe }
section
variable {X : Cx} {W : WX}
theorem okX {xe xe' : Value → Shared → Prop} {s : Shared} {H : Hp} {scope : Scope} {ce : Env} {fp : List Addr} (ok : (blkX X s H scope ce fp xe).Ok) : (blkX X s H scope ce fp xe').Ok :=
  ⟨ok.mod, ok.kind, ok.glob, ok.blt, ok.above, ok.inj, ok.has, ok.cab, ok.hd, ok.frames, ok.stk, ok.exf, ok.bs, ok.bsz, ok.noex, ok.exfs, ok.funs, ok.frf⟩
theorem invX {xe xe' : Value → Shared → Prop} {s s1 : Shared} {H H1 : Hp} {scope : Scope} {ce : Env} {fp : List Addr} {pins : List (Addr × Obj)} {σ : L2.St} (I : Inv (blkX X s H scope ce fp xe) pins σ H1 s1) : Inv (blkX X s H scope ce fp xe') pins σ H1 s1 :=
  ⟨okX I.ok, I.os, I.bare, I.base, I.loc, I.cell, I.free, I.freeC, I.pin, I.hok, I.len⟩
/-- an exception of the element leaves the comprehension -/
theorem comp_out {pins : List (Addr × Obj)} {σ : L2.St} {s3 s' : Shared} {H3 : Hp} {scope : Scope} {ce : Env} {fp : List Addr} {E : XK} {u : Value} {Q : Value → Shared → Prop} {acc : Value} (hs : X.stack = X.env :: X.outer) (hf : X.env.frame = some X.env.locals) (hce : ce.frame = X.env.frame) (cL : ce.locals = s3.heap.objs.size)
    (tk : Takes X W) (I3 : Inv X pins σ H3 s3) (f3 : ∀ b ∈ fp, FpOk X pins H3 b) (hE : ∀ cls d H', E cls d H' → W cls d σ H') {xe : Value → Shared → Prop} (x : XF (blkX X s3 H3 scope ce fp xe) E u s') :
    notedBy (model X.prog X.w) X.A ce (fun e s'' => compPostX (model X.prog X.w) X.A X.xe Q acc ce (.error e) s'') u s' := by
  obtain ⟨a, B, sI, pins', σ', H, cls, d, rfl, I, nb, up, fl, na, os, ag, he⟩ := x
  have hfr : X.A.frames = some (X.env :: X.outer) := by rw [I3.ok.frames, hs]
  have fl' : HandSPX.FlyingZ B (X.env :: X.outer) a (Zc cls d) s'.heap := by rw [← hs]; exact fl
  have nC : H ce.locals = none := I.free
  obtain ⟨m, hn, _⟩ := I.loc
  have hn : sI.heap.Ns ce.locals m := hn
  obtain ⟨oC, esC, epC, hoC, rC⟩ := id hn
  have cF : ce.locals ∉ frs X.stack := fun hm => by
    obtain ⟨_, o', e', _⟩ := I3.stack.mem hm
    rw [cL] at e'
    exact absurd (Heap.lt_size e') (Nat.lt_irrefl _)
  have bC : B.get? ce.locals = some oC := nb _ _ hoC cF
  have aC : a ≠ ce.locals := fun z => by
    have q := fl.2.1
    rw [z, bC] at q
    cases q
  show wpAny (model X.prog X.w) X.A (noteFrame (.ref a) ce) _ _ s'
  have eN : noteFrame (.ref a) ce = noteFrame (.ref a) X.env := by
    unfold noteFrame PySem.frameOf
    rw [hce]
  rw [eN]
  refine HandSPX.looks_onZ Zc.steady hfr hf fl' fun h1 hh up1 => ?_
  have st1 : B.StaysIn h1 := hh.1
  refine ⟨m, ⟨oC, esC, epC, st1 _ _ bC, rC⟩, fun h2 sb => ?_⟩
  -- the ground without the comprehension's own names
  obtain ⟨f1, f2, f3', oe, vs, T, oT, ts, he1, hz, hd, g1, hnT, hTe, hT, hdT, h3'⟩ := hh
  have tC : T ≠ ce.locals := fun z => by rw [z, bC] at hnT; cases hnT
  have gB : ∀ b o, (PySem.W.hideAll B [ce.locals]).get? b = some o → B.get? b = some o ∧ b ≠ ce.locals := fun b o e => by
    refine ⟨PySem.W.of_hideAll _ e, fun z => ?_⟩
    rw [z, PySem.W.hideAll_none _ List.mem_cons_self] at e
    cases e
  have hN : ∀ b, B.get? b = none → (PySem.W.hideAll B [ce.locals]).get? b = none := fun b e => by
    cases q : (PySem.W.hideAll B [ce.locals]).get? b with
    | none => rfl
    | some o => rw [(gB b o q).1] at e; cases e
  have k1 : (PySem.W.hideAll B [ce.locals]).StaysIn h2 := fun b o e => (sb.2 b (gB b o e).2).trans (st1 b o (gB b o e).1)
  have k2 : h2.FunFrames (PySem.W.hideAll B [ce.locals]) (X.env :: X.outer) :=
    funFrames_at f3' (fun L hL => sb.2 L fun z => cF (by rw [hs]; exact z ▸ hL)) fun L _ q => hN L q
  have k3 : HandSPX.TracedZ h2 (PySem.W.hideAll B [ce.locals]) a (Zc cls d) (rawInt X.env.locals) :=
    ⟨oe, vs, T, oT, ts, (sb.2 a aC).trans he1, hz, hd, g1, hN _ hnT, hTe, (sb.2 T tC).trans hT, hdT, h3'⟩
  unfold PySem.passOn
  refine wpAny_bind (wpAny_field ((sb.2 a aC).trans he1) hd g1 ?_)
  rw [if_neg (show ¬ ((Value.ref T == Value.none) = true) from by simp)]
  have fin : wpAny (model X.prog X.w) X.A (setFlight (.ref a) ce.frame) (fun _ s4 => wpAny (model X.prog X.w) X.A (throw (.ref a) : Sem Value) (fun _ _ => False) X.xe s4) X.xe { s' with heap := h2 } := by
    refine HandSPX.setFlight_anyZ (s := { s' with heap := h2 }) k1 k2 k3 fun h4 l1 l2 l3 l4 => wpAny_throw (tk _ _ ?_)
    have I7 : Inv X pins σ H sI := I3.call' (ch := fp) I.os I.base I.hok I.bare fun b hb => ⟨(f3 b hb).2.2.2.1, (f3 b hb).2.1, (f3 b hb).2.2.2.2.1, (f3 b hb).2.2.2.2.2⟩
    have fpC : FpOk X pins H ce.locals := by
      rw [cL] at nC ⊢
      exact I3.fpOk (Nat.le_refl _) nC
    obtain ⟨e0, e1, e2, e3, e4, e5⟩ := fpC
    have I8 : Inv X pins σ H { sI with heap := PySem.W.hideAll sI.heap [ce.locals], toks := sI.toks } := I7.turned (fun b o hb e => PySem.W.hideAll_get _ e (by simpa using hb)) e0 e1 e3 e4 e5
    refine ⟨a, PySem.W.hideAll B [ce.locals], _, pins, σ, H, cls, d, rfl, I8, fun b o e hb => ?_, fun b o e hn => ?_, .inr (.inr ⟨l1, hN _ f2, by rw [hs]; exact l2, ?_⟩), na, os, ag, hE _ _ _ he⟩
    · have z : b ≠ ce.locals := fun z => by
        rw [z] at e
        have q : (PySem.W.hideAll sI.heap [ce.locals]).get? ce.locals = none := PySem.W.hideAll_none _ List.mem_cons_self
        rw [q] at e; cases e
      exact PySem.W.hideAll_get _ (nb b o (PySem.W.of_hideAll _ e) hb) (by simpa using z)
    · have z : b ≠ ce.locals := fun z => by
        rw [z] at e
        have q : (PySem.W.hideAll sI.heap [ce.locals]).get? ce.locals = none := PySem.W.hideAll_none _ List.mem_cons_self
        rw [q] at e; cases e
      obtain ⟨sl, q1⟩ := up b o (PySem.W.of_hideAll _ e) hn
      obtain ⟨sl1, q2⟩ := up1 b _ q1 hn
      obtain ⟨sl2, q3⟩ := l4 b _ ((sb.2 b z).trans q2) hn
      exact ⟨sl2, q3⟩
    · rw [hce, hf] at l3
      exact l3
  first
    | exact wpAny_bind (wpAny_pure (wpAny_bind fin))
    | exact wpAny_bind fin
theorem pe_lcX {elt tg iter : Expr} {scope : Scope} {own : List (Str × Nat)} {pos : Pos} {wi : TI} {g : TG} {te : XK → TE} (hst : X.stack = X.env :: X.outer) (hfr : X.env.frame = some X.env.locals) (tk : Takes X W) (hc : X.calm = true) (hN : X.N.Nodup) (hi : PI X tg iter wi) (ok : BlkOk X.N X.env.scope scope own)
    (hg : ∀ (s : Shared) (H : Hp) (C : Addr) (cl : List (Str × Addr)) (fp : List Addr) (xe : Value → Shared → Prop), PG (blkX X s H scope (compEnvC scope cl C X.env) fp xe) tg g)
    (he : ∀ (E : XK) (s : Shared) (H : Hp) (C : Addr) (cl : List (Str × Addr)) (fp : List Addr) (xe : Value → Shared → Prop), (∀ σ', PassesAt (L2.CX X.prog X.w) (blkX X s H scope (compEnvC scope cl C X.env) fp xe) σ' E) → PE (blkX X s H scope (compEnvC scope cl C X.env) fp xe) elt (te E))
    (hs : ∀ x, foldedSetIterable iter X.env x = pure x := by intro _; rfl) :
    PE X (.ListComp elt [⟨tg, iter, [], 0⟩] scope pos) (fun σ H Q => tLc wi g tYes (te (WE W σ)) (own.map (·.2)) σ H Q) := by
  refine ⟨fun pins s σ H Q I h => ?_⟩
  rw [eval_ListComp]
  have hfree : ∀ y ∈ scope.names, y.2 = .free → ∃ c, X.env.cells.lookup y.1 = some c := fun y hy e => by
    rcases ok.free y hy e with k | k
    · exact I.ok.has _ (.inl k)
    · exact I.ok.has _ (.inr k)
  refine comprehensionX rfl hs (closure_ok hfree) ok.kind (fun y hy e => by rw [ok.uniq y hy, e])
    (thn (hi.run pins s σ H _ I h) fun xv s1 hx => thn hx fun itv s2 h2 => ?_)
  obtain ⟨it, fp, tn, J, H2, e, I2, T, st2, f2, q⟩ := h2
  subst e
  refine wpAny_newObj_type (newEnv_comp ?_) (by show 0 ≤ sizeLine; decide)
  generalize hD : s2.heap.objs.size = D
  have hDn : H2 D = none := I2.hok.fresh (Nat.le_of_eq hD)
  obtain ⟨Wd, ⟨m0, w0⟩, turn⟩ := q D hDn
  generalize hs3 : ({ s2 with heap := s2.heap.push { cls := .type "list", data := .seq ([] : List Value).toArray } } : Shared) = s3
  have I3 : Inv X pins σ (upd H2 D (.lst [])) s3 := by
    rw [← hs3]
    refine I2.laid (t' := s2.toks) (fun b o e => Heap.get?_push_of_some _ e) (Nat.le_of_eq hD) ⟨Nat.zero_le _, [], 0, .nil, ?_⟩
    rw [← hD]
    exact Heap.get?_push_size _ rfl
  have h3 : s3.heap = s2.heap.push { cls := .type "list", data := .seq ([] : List Value).toArray } := by rw [← hs3]
  have sz : ∀ b ∈ fp, b < s2.heap.objs.size := fun b hb => by
    obtain ⟨o, e, _⟩ := T.obj _ _ st2 b hb
    exact Heap.lt_size e
  have f3 : ∀ b ∈ fp, FpOk X pins (upd H2 D (.lst [])) b ∧ b < s3.heap.objs.size := fun b hb => by
    have hlt := sz b hb
    refine ⟨⟨?_, (f2 b hb).2⟩, by rw [h3, Heap.size_push]; exact Nat.lt_succ_of_lt hlt⟩
    rw [upd_ne (by rw [← hD]; exact Nat.ne_of_lt hlt)]
    exact (f2 b hb).1
  have st3 : tn 0 s3.heap := T.keep _ _ _ st2 fun b _ o e => by rw [h3]; exact Heap.get?_push_of_some _ e
  have I4 := block_start I3 ok hN f3
  have pg := hg s3 (upd H2 D (.lst [])) s3.heap.objs.size (cellsFrom (s3.heap.objs.size + 1) scope.names (cloFrom X.env.cells scope.names [])) fp (XF (X.blk s3 (upd H2 D (.lst [])) scope (compEnvC scope (cellsFrom (s3.heap.objs.size + 1) scope.names (cloFrom X.env.cells scope.names [])) s3.heap.objs.size X.env) fp) (WE W σ))
  have pe := he (WE W σ) s3 (upd H2 D (.lst [])) s3.heap.objs.size (cellsFrom (s3.heap.objs.size + 1) scope.names (cloFrom X.env.cells scope.names [])) fp (XF (X.blk s3 (upd H2 D (.lst [])) scope (compEnvC scope (cellsFrom (s3.heap.objs.size + 1) scope.names (cloFrom X.env.cells scope.names [])) s3.heap.objs.size X.env) fp) (WE W σ))
    (fun σ' pins' H' sx e s' Ix c => XF.of_call (X := X.blk s3 (upd H2 D (.lst [])) scope (compEnvC scope (cellsFrom (s3.heap.objs.size + 1) scope.names (cloFrom X.env.cells scope.names [])) s3.heap.objs.size X.env) fp) (invX (xe' := fun _ _ => False) Ix) c)
  have hce : (compEnvC scope (cellsFrom (s3.heap.objs.size + 1) scope.names (cloFrom X.env.cells scope.names [])) s3.heap.objs.size X.env).frame = X.env.frame := rfl
  show codeAny _ _ (.compStart (.ListComp elt [⟨tg, iter, [], 0⟩] scope pos) 0 (.ref it) (.ref D) (compEnvC scope (cellsFrom (s3.heap.objs.size + 1) scope.names (cloFrom X.env.cells scope.names [])) s3.heap.objs.size X.env)) (compPostX (model X.prog X.w) X.A X.xe (EP X pins σ Q) (.ref D) (compEnvC scope (cellsFrom (s3.heap.objs.size + 1) scope.names (cloFrom X.env.cells scope.names [])) s3.heap.objs.size X.env)) { s3 with heap := pushCells (s3.heap.push { cls := .type "dict", data := .dict #[] }) scope.names }
  have nfp : ∀ b ∈ fp, (upd H2 D (.lst [])) b = none := fun b hb => (f3 b hb).1.1
  generalize hcen : compEnvC scope (cellsFrom (s3.heap.objs.size + 1) scope.names (cloFrom X.env.cells scope.names [])) s3.heap.objs.size X.env = ce at I4 pg pe hce ⊢
  have cL : ce.locals = s3.heap.objs.size := by subst hcen; rfl
  generalize hH3 : upd H2 D (.lst []) = H3 at I3 I4 pg pe w0 nfp f3
  generalize hs4 : ({ s3 with heap := pushCells (s3.heap.push { cls := .type "dict", data := .dict #[] }) scope.names } : Shared) = s4 at I4 ⊢
  have st4 : tn 0 s4.heap := T.keep _ _ _ st3 fun b _ o e => by rw [← hs4]; exact pushCells_keeps _ _ _ _ (Heap.get?_push_of_some _ e)
  generalize hxe : XF (X.blk s3 H3 scope ce fp) (WE W σ) = xe at pg pe
  have stat : ∀ {σ' : L2.St} {H' : Hp} {s' : Shared}, Inv (blkX X s3 H3 scope ce fp xe) [] σ' H' s' → (∀ b ∈ fp, H' b = none) → ∀ b ∈ fp, FpOk (blkX X s3 H3 scope ce fp xe) [] H' b := fun {σ' H' s'} I' hn b hb =>
    ⟨hn b hb, (I'.ok.exf b hb).1, I'.ok.exfs b hb, .inl hb, fun x c e => (I'.ok.exf b hb).2 x c e, fun p hp => absurd (show p ∈ ([] : List (Addr × Obj)) ++ [] from hp) (by simp)⟩
  have I4x : Inv (blkX X s3 H3 scope ce fp xe) [] (wipe σ (own.map (·.2))) H3 s4 := invX (xe := fun _ _ => False) I4
  have loop : codeAny (model X.prog X.w) X.A (.compLoop (.ListComp elt [⟨tg, iter, [], 0⟩] scope pos) 0 (.ref it) (.ref D) ce) (compPostX (model X.prog X.w) X.A X.xe (EP X pins σ Q) (.ref D) ce) s4 := by
    have outE : ∀ e s', xe e s' → notedBy (model X.prog X.w) X.A ce (fun e s'' => compPostX (model X.prog X.w) X.A X.xe (EP X pins σ Q) (.ref D) ce (.error e) s'') e s' := fun e s' z => by
      rw [← hxe] at z
      exact comp_out (xe := fun _ _ => False) hst hfr hce cL tk I3 (fun b hb => (f3 b hb).1) (fun _ _ _ h => h) z
    refine compLoop_any (fun n s' => ∃ i H', Inv (blkX X s3 H3 scope ce fp xe) [] (wipe σ (own.map (·.2))) H' s' ∧ tn i s'.heap ∧ (∀ b ∈ fp, H' b = none) ∧ Wd i n H') ?_ m0 ⟨0, H3, I4x, st4, nfp, w0⟩
    rintro n s5 ⟨i, H5, I5, st5, n5, w5⟩
    rcases turn i n H5 w5 with ⟨stop, qq⟩ | ⟨go, Nx, hNx, step⟩
    · have td := T.done (blkX X s3 H3 scope ce fp xe) rfl rfl rfl hc i [] s5 _ H5 (fun _ _ => False) I5 (stat I5 n5) st5 stop
      refine thnF td fun r s6 ⟨hr, I6⟩ => ?_
      subst hr
      have I7 : Inv X pins σ H5 s6 := I3.call' (ch := fp) I6.os I6.base I6.hok I6.bare fun b hb => ⟨(f3 b hb).1.2.2.2.1, (f3 b hb).1.2.1, (f3 b hb).1.2.2.2.2.1, (f3 b hb).1.2.2.2.2.2⟩
      have nC : H5 s3.heap.objs.size = none := by
        have z : H5 ce.locals = none := I6.free
        rw [cL] at z
        exact z
      obtain ⟨m, hn, _⟩ := I6.loc
      have hn : s6.heap.Ns ce.locals m := hn
      obtain ⟨e0, e1, e2, e3, e4, e5⟩ := (I3.fpOk (Nat.le_refl _) nC : FpOk X pins H5 s3.heap.objs.size)
      refine ⟨m, hn, fun h'' sb => ?_⟩
      rw [cL] at sb
      exact ⟨.ref D, H5, I7.turned (t' := s6.toks) (fun b o hb e => (sb.2 b hb).trans e) e0 e1 e3 e4 e5, rfl, qq⟩
    · have ti := T.item (blkX X s3 H3 scope ce fp xe) rfl rfl rfl hc i [] s5 _ H5 (fun _ _ => False) I5 (stat I5 n5) st5 go
      refine thnF ti fun r s6 ⟨u, hr, h6⟩ => ?_
      subst hr
      refine thnF h6 fun _ s7 ⟨x, H7, I7, r7, y7, st7, n7⟩ => ?_
      have I7' := I7.pinned (stat I7 n7) (T.obj _ _ st7)
      refine wpAny_mono (pg.run _ s7 _ H7 x u _ I7' r7 (step x H7 y7)) (fun _ s8 ⟨σ8, H8, I8, hw8, q8⟩ => ?_) outE
      refine wpAny_tests_nil ?_
      have fin : ∀ {s' : Shared} {H' : Hp}, Inv (blkX X s3 H3 scope ce fp xe) ([] ++ pinsAt fp s7.heap) σ8 H' s' → Nx H' → ∃ m, m < n ∧ ∃ i H', Inv (blkX X s3 H3 scope ce fp xe) [] (wipe σ (own.map (·.2))) H' s' ∧ tn i s'.heap ∧ (∀ b ∈ fp, H' b = none) ∧ Wd i m H' := fun {s' H'} I' nx => by
        obtain ⟨m', hm, w'⟩ := hNx H' nx
        have pin' : ∀ b ∈ fp, ∀ o, s7.heap.get? b = some o → s'.heap.get? b = some o ∧ H' b = none := fun b hb o e =>
          let z := I'.pin (b, o) (List.mem_append_right _ (List.mem_append_right _ (mem_pinsAt hb e)))
          ⟨z.1, z.2.1⟩
        have hl : (wipe σ (own.map (·.2))).length = σ8.length := by rw [← hw8, wipe_length]
        refine ⟨m', hm, i + 1, H', (I'.unpinned (pins := [])).weak hl (fun j v e => ?_), T.keep _ _ _ st7 fun b hb o e => (pin' b hb o e).1, fun b hb => ?_, w'⟩
        · rw [← hw8] at e
          exact (wipe_some e).1
        · obtain ⟨o, e, _⟩ := T.obj _ _ st7 b hb
          exact (pin' b hb o e).2
      have q9 : te (WE W σ) σ8 H8 fun y H4 => ∃ acc, H4 D = some (.lst acc) ∧ acc.length < sizeLine ∧ Nx (upd H4 D (.lst (acc ++ [y]))) := by
        have z : (if true = true then te (WE W σ) σ8 H8 fun y H4 => ∃ acc, H4 D = some (.lst acc) ∧ acc.length < sizeLine ∧ Nx (upd H4 D (.lst (acc ++ [y]))) else Nx H8) := q8
        rwa [if_pos rfl] at z
      rw [if_pos rfl]
      refine wpAny_mono (pe.run _ s8 σ8 H8 _ I8 q9) (fun z s10 ⟨yv, H10, I10, r10, acc, hD10, hz10, nx⟩ => ?_) outE
      exact app_ok (X := blkX X s3 H3 scope ce fp xe) I10 hD10 hz10 r10 fun s11 I11 => fin I11 nx
  exact codeAny_compStart_list loop (T.self X.A 0 _ _ _ st4 loop)
end
def compLX (g : Tgt) (te : M) (τ : Env') : Nat → List D → Sto → R (List D)
  | _, [], s => .ok [] s
  | n, d :: ds, s => match g.d d τ with
    | none => .bad
    | some τ1 => (te τ1 s).bind fun x s => if n < sizeLine then (compLX g te τ (n + 1) ds s).bind fun xs s => .ok (x :: xs) s else .bad
def lcXM (mi : MI) (g : Tgt) (te : M) (vs : List Nat) : M := fun τ s => (mi τ s).bind fun ds s => (compLX g te (wipeD τ vs) 0 ds s).bind fun xs s => .ok (.fls xs) s
def CompInvX (K : PySem.W.Frag) (mg : Str → Option Value) (W : WX) (g : Tgt) (te : M) (τw : Env') (σ σw : L2.St) (ρ1 : Rr) (H1 : Hp) (Dl : Addr) (ds : List D) (Q : VK) (i : Nat) (H : Hp) : Prop :=
  ∃ (ρ : Rr) (s : Sto) (acc : List V) (ads : List D), ρ.hid = Dl :: ρ1.hid ∧ Le ρ1 H1 ⟨ρ.pl, ρ1.hid⟩ H ∧ Ex ρ1 H1 ρ H ∧ Rep K mg ρ H s ∧ Evs K mg ρ H σw τw ∧ H Dl = some (.lst acc) ∧ IsVs K mg ρ H acc ads ∧
    Post K mg W ρ1 H1 σ (compEnd ads (compLX g te τw ads.length (ds.drop i) s)) (fun ρ' H' d _ => ∀ v, IsV K mg ρ' H' v d → Q v H')
section
variable {X : Cx} {W : WX} {pos : Pos}
theorem lcX_go {vs : List Nat} {mi : MI} {g : Tgt} {te : M} (hs : ∀ i ∈ g.slots, i ∈ vs) :
    ∀ (σ : L2.St) (H : Hp) (Q : VK), tM X.K X.mg W (lcXM mi g te vs) σ H Q → tLc (tMI X.K X.mg W mi) (tgtG X.K g) tYes (tM X.K X.mg (fun c d _ H' => WE W σ c d H') te) vs σ H Q :=
  fun σ H Q ⟨ρ, τ, s, rp, e, h⟩ => tMI_go rp e (Post.bind h) fun ρ1 H1 ds s1 J l1 r1 e1 hJ h1 Dl hD => by
    refine ⟨fun i m H => m = ds.length - i ∧ i ≤ ds.length ∧ CompInvX X.K X.mg W g te (wipeD τ vs) σ (wipe σ vs) ρ1 H1 Dl ds Q i H,
      ⟨ds.length, rfl, Nat.zero_le _, ρ1.hide Dl, s1, [], [], rfl, Le.new hD, Ex.hide hD, r1.hide hD, (evs_wipe e1 _).ex (Ex.hide hD), upd_same, .nil, h1⟩, ?_⟩
    rintro i m H ⟨rfl, hi, ρ, s, acc, ads, eh, l, x, rp, e, hDl, hacc, h⟩
    obtain ⟨go, stop⟩ := hJ ρ H s i x rp
    have mem : Dl ∈ ρ.hid := by rw [eh]; exact List.mem_cons_self
    have offl : ρ1.off Dl := r1.fresh hD
    by_cases hlt : i < ds.length
    · right
      obtain ⟨g1, g2⟩ := go ds[i] (List.getElem?_eq_getElem hlt)
      rw [List.drop_eq_getElem_cons hlt] at h
      refine ⟨g1, fun H => CompInvX X.K X.mg W g te (wipeD τ vs) σ (wipe σ vs) ρ1 H1 Dl ds Q (i + 1) H, fun H' hN => ⟨ds.length - (i + 1), by omega, rfl, hlt, hN⟩, fun y H' hy => ?_⟩
      obtain ⟨l2, r2, hy2⟩ := g2 y H' hy
      unfold compLX at h
      cases q : g.d ds[i] (wipeD τ vs) with
      | none => rw [q] at h; exact h.elim
      | some τ1 =>
        rw [q] at h
        refine tgt_go (e.mono l2) hy2 q hs fun σ2 hw e2 => ⟨hw, ?_⟩
        have h2 : Post X.K X.mg W ρ1 H1 σ ((te τ1 s).bind fun x s => compEnd ads (if ads.length < sizeLine then (compLX g te (wipeD τ vs) (ads.length + 1) (ds.drop (i + 1)) s).bind fun xs s => .ok (x :: xs) s else .bad)) (fun ρ' H' d _ => ∀ v, IsV X.K X.mg ρ' H' v d → Q v H') := by
          have e3 : compEnd ads ((te τ1 s).bind fun x s => if ads.length < sizeLine then (compLX g te (wipeD τ vs) (ads.length + 1) (ds.drop (i + 1)) s).bind fun xs s => .ok (x :: xs) s else .bad) = _ := bind_assoc _ _ _
          have h3 := h
          rw [e3] at h3
          exact h3
        have back : ∀ {ρ' : Rr} {H2 : Hp}, Le ρ H' ρ' H2 → ρ'.hid = Dl :: ρ1.hid ∧ Le ρ1 H1 ⟨ρ'.pl, ρ1.hid⟩ H2 ∧ Ex ρ1 H1 ρ' H2 ∧ H2 Dl = some (.lst acc) := fun {ρ' H2} m => by
          have m' := l2.trans m
          exact ⟨by rw [m'.hid_eq, eh], l.trans (m'.hid ρ1.hid), x.trans m'.ex, m'.frm _ _ hDl (rp.hd Dl mem).2⟩
        show tM X.K X.mg (fun c d _ H' => WE W σ c d H') te σ2 H' fun y H4 => _
        refine ⟨ρ, τ1, s, r2, e2, ?_⟩
        cases qe : te τ1 s with
        | bad => rw [qe] at h2; exact h2.elim
        | exc C fs s4 =>
          rw [qe] at h2
          intro ρ4 H4 ca dd gs m4 r4 hca hdd hgs
          obtain ⟨b1, b2, b3, b4⟩ := back m4
          exact h2 ⟨ρ4.pl, ρ1.hid⟩ H4 ca dd gs b2 (r4.unhide b1) hca hdd (hgs.ex (Ex.unhide b1))
        | ok z s4 =>
          rw [qe] at h2
          intro ρ4 H4 m4 r4 v hv
          obtain ⟨b1, b2, b3, b4⟩ := back m4
          have h5 : Post X.K X.mg W ρ1 H1 σ (compEnd ads (if ads.length < sizeLine then (compLX g te (wipeD τ vs) (ads.length + 1) (ds.drop (i + 1)) s4).bind fun xs s => .ok (z :: xs) s else .bad)) (fun ρ' H' d _ => ∀ v, IsV X.K X.mg ρ' H' v d → Q v H') := h2
          have hacc4 := (hacc.mono l2).mono m4
          by_cases hz : ads.length < sizeLine
          · rw [if_pos hz] at h5
            have mem4 : Dl ∈ ρ4.hid := by rw [b1]; exact List.mem_cons_self
            have e6 : compEnd ads ((compLX g te (wipeD τ vs) (ads.length + 1) (ds.drop (i + 1)) s4).bind fun xs s => .ok (z :: xs) s) = compEnd (ads ++ [z]) (compLX g te (wipeD τ vs) (ads ++ [z]).length (ds.drop (i + 1)) s4) := by
              have el : (ads ++ [z]).length = ads.length + 1 := by simp
              rw [el]
              unfold compEnd
              rw [bind_assoc]
              congr 1
              funext xs s
              show R.ok (D.fls (ads ++ z :: xs)) s = R.ok (D.fls (ads ++ [z] ++ xs)) s
              rw [List.append_assoc]; rfl
            rw [e6] at h5
            exact ⟨acc, b4, by rw [hacc4.length]; exact hz, ρ4, s4, acc ++ [v], ads ++ [z], b1, b2.mut hD, b3.trans (Ex.hput mem4), r4.hput mem4, ((e.mono l2).mono m4).ex (Ex.hput mem4), upd_same, (hacc4.append (.cons hv .nil)).ex (Ex.hput mem4), h5⟩
          · rw [if_neg hz] at h5; exact h5.elim
    · left
      have ei : ds.drop i = [] := List.drop_eq_nil_of_le (by omega)
      rw [ei] at h
      refine ⟨stop (by omega), h ⟨ρ.pl, ρ1.hid⟩ H l (rp.unhide eh) _ ?_⟩
      rw [List.append_nil]
      exact .fls hDl ⟨(rp.hd Dl mem).2, offl.2⟩ (hacc.ex (Ex.unhide eh))
/-- the thing at f does F, told of a context by what its callees may let out -/
theorem does_at {k n : Nat} {f : Addr} {F : Fn} {E : XK} (o : Okf X.prog X.w X.K X.mg X.base k f n F) (ar : Ar n F) {j : Nat} (hr : Room j X.A) (hk : k ≤ j) (hx : ∀ σ, PassesAt (L2.CX X.prog X.w) X σ E) : Does X (fun c d _ H' => E c d H') f F := by
  obtain ⟨fd, ps, h1, h2, h3, h4⟩ := o
  intro pins s σ H us vs Q ρ st xs I r rp hv h
  refine run_fnSD (dvs := []) (ds := []) (E := fun _ => E) h1 (hr.mono hk) h2 .nil (hx σ) I r ?_
  rw [List.append_nil]
  refine ⟨?_, ρ, st, xs, rp, hv, Post.slots h⟩
  by_cases hq : xs.length = n
  · rw [hv.length]; exact hq
  · rw [ar xs st hq] at h; exact h.elim
theorem qlcX {elt tg iter : Expr} {scope : Scope} {mi : MI} {te : M} (hst : X.stack = X.env :: X.outer) (hfr : X.env.frame = some X.env.locals) (tk : Takes X W) (hc : X.calm = true) (nd : X.N.Nodup) (own : List (Str × Nat)) (g : Tgt) (hi : PMI X W tg iter mi)
    (hg : ∀ (s : Shared) (H : Hp) (C : Addr) (cl : List (Str × Addr)) (fp : List Addr) (xe : Value → Shared → Prop), PG (blkX X s H scope (compEnvC scope cl C X.env) fp xe) tg (tgtG X.K g))
    (he : ∀ (E : XK) (s : Shared) (H : Hp) (C : Addr) (cl : List (Str × Addr)) (fp : List Addr) (xe : Value → Shared → Prop), (∀ σ', PassesAt (L2.CX X.prog X.w) (blkX X s H scope (compEnvC scope cl C X.env) fp xe) σ' E) → PM (blkX X s H scope (compEnvC scope cl C X.env) fp xe) (fun c d _ H' => E c d H') elt te)
    (ok : blkC X.N X.env.scope scope own = true := by kernel_rfl) (hs : ∀ i ∈ g.slots, i ∈ own.map (·.2) := by decide) (hf : ∀ x, foldedSetIterable iter X.env x = pure x := by intro _; rfl) :
    PM X W (.ListComp elt [⟨tg, iter, [], 0⟩] scope pos) (lcXM mi g te (own.map (·.2))) :=
  PE.imp (pe_lcX (te := fun E => tM X.K X.mg (fun c d _ H' => E c d H') te) hst hfr tk hc nd hi (blkOk_by ok) hg he hf) fun σ H Q h => lcX_go hs σ H Q h
theorem qcallX {k j n : Nat} {f : Addr} {F : Fn} {E : XK} {x : Str} {p : Pos} {e : Expr} {es : List Expr} {m : MA} (o : Okf X.prog X.w X.K X.mg X.base k f n F) (ar : Ar n F) (hr : Room j X.A) (hx : ∀ σ, PassesAt (L2.CX X.prog X.w) X σ E) (hm : X.mg x = some (.ref f)) (ha : PMA X (fun c d _ H' => E c d H') (e :: es) m) (hk : k ≤ j := by omega) (hg : Gl X x := by rfl) (hdb : (x == ("__debug__" : Str)) = false := by decide)
    (he : starEach (e :: es) X.env = (false, eval e X.env) :: starEach es X.env := by rfl) (hpl : (backTo pos (starEach es X.env)).any (·.1) = false := by rfl) : PM X (fun c d _ H' => E c d H') (.Call (.Name x p) (e :: es) [] pos) (callM F m) :=
  pm_callN (does_at o ar hr hk hx) hg hm o.kp ha hdb he hpl
end
end FL

set_option Elab.async false
set_option linter.all false
set_option maxRecDepth 100000
set_option maxHeartbeats 4000000
/-! FL14: an __init__ that begins by super().__init__(e). -/
namespace FL
open PySem PySem.Spec PyProof.Rows L2 NdefX
/-- super().__init__(..), the object at slot 0 a new instance of Cn -/
def superM (Cn : Str) (F : Fn) (m : MA) : M := fun τ s => match τ[0]? with
  | some (some (D.obj i)) => (match s[i]? with
    | some (.ins C' _) => if C' = Cn then (m τ s).bind fun ds s => F (.obj i :: ds) s else .bad
    | _ => .bad)
  | _ => .bad
theorem lk1 {x a : Str} {c d : Addr} (h : List.lookup x [(a, c)] = some d) : x = a ∧ c = d := by
  by_cases e : x = a
  · subst e
    rw [List.lookup_cons, beq_self_eq_true] at h
    exact ⟨rfl, Option.some.inj h⟩
  · have q : (x == a) = false := by simp [e]
    rw [List.lookup_cons, q] at h
    cases h
theorem evs_start1 {K : PySem.W.Frag} {mg : Str → Option Value} {ρ : Rr} {H : Hp} {x : Option V} : ∀ {vs : List V} {ds : List D}, IsVs K mg ρ H vs ds → Evs K mg ρ H (vs.map some ++ [x]) (ds.map some ++ [none])
  | _, _, .nil => .off .nil
  | _, _, .cons h t => .on h (evs_start1 t)
theorem does_code {X : Cx} {W : WX} {k j n : Nat} {f : Addr} {F : Fn} (o : Okf X.prog X.w X.K X.mg X.base k f n F) (ar : Ar n F) (hr : Room j X.A) (tk : Takes X W) (hk : k ≤ j) {pins : List (Addr × Obj)} {s : Shared} {σ : L2.St} {H : Hp} {us : List Value} {vs : List V} {Q : VK} {ρ : Rr} {st : Sto} {ds : List D}
    (I : Inv X pins σ H s) (r : Vals vs us) (rp : Rep X.K X.mg ρ H st) (hv : IsVs X.K X.mg ρ H vs ds) (h : Post X.K X.mg W ρ H σ (F ds st) (fun ρ' H' d _ => ∀ v, IsV X.K X.mg ρ' H' v d → Q v H')) :
    codeAny (model X.prog X.w) X.A (.call (.ref f) ⟨us, []⟩) (fun r s' => match r with | .ok (.ret v) => EP X pins σ Q v s' | .ok _ => False | .error e => X.xe e s') s := by
  obtain ⟨fd, ps, h1, h2, h3, h4⟩ := o
  have hsp : spM X.K X.mg n F vs H Q (WE W σ) := by
    refine ⟨?_, ρ, st, ds, rp, hv, Post.slots h⟩
    by_cases hq : ds.length = n
    · rw [hv.length]; exact hq
    · rw [ar ds st hq] at h; exact h.elim
  have hl : us.length = ps.length := by rw [← r.length, h1.len _ _ _ _ hsp]
  have b := h2 s us I.kIn (by rw [List.append_nil]; exact hl)
  rw [List.append_nil] at b
  refine codeAny_mono (h1.run X.A X.stack s H ⟨us, []⟩ us vs Q (WE W σ) (hr.mono hk) I.env0 b r hsp) fun r s' hq => ?_
  cases r with
  | error e => exact passAt tk σ pins H s e s' I hq
  | ok fl =>
    cases fl with
    | ret u => exact I.after hq
    | next => exact False.elim hq
    | brk => exact False.elim hq
    | cont => exact False.elim hq
/-- what the written part says of such a def: f its object, cc its cell, C the class, fV the __init__ above -/
structure SupK (P : Program) (K : PySem.W.Frag) (mg : Str → Option Value) (f cc C fV : Addr) (G : NF) : Prop where
  fn : ∃ oc od doc pm ctv osl, K.lookup f = some ⟨oc, od, .func (G.fd doc pm ctv), osl⟩
  cl : G.cl = [(("__class__" : Str), cc)]
  cd : PySem.W.codeIn K (.ref G.c) G.qual = true
  code : ∃ ccl cdd vs ccs file tf, K.lookup G.c = some ⟨ccl, cdd, .fields vs, ccs⟩ ∧ vs[2]? = some (.str file tf) ∧ ((P.main.file : Str) == file) = true
  cell : ∃ cl cld csl, K.lookup cc = some ⟨cl, cld, .cell (some (.ref C)), csl⟩
  cls : ∃ cd, PySem.W.clsIn K C = some cd
  sub : PySem.W.mroIn K C (.ref C) = some true
  sup : mg "super" = none
  top : (P.main.scope.names.lookup ("super" : Str)).isSome = false
  any : PySem.W.nsIn K cStatics "thirdparty.any" = some none
  meth : PySem.W.ks_superIn K C C "__init__" = some (some (.ref fV))
  typ : PySem.W.typeIn K (.ref fV) = some (.type "function")
  fin : PySem.W.fnIn K fV = true
  kp : PySem.W.keepIn K (.ref f) = true
theorem Post.finS {α : Type} {K : PySem.W.Frag} {mg : Str → Option Value} {W : WX} {ρ : Rr} {H : Hp} {σ : L2.St} {τ : Env'} {r : R α} {k : α → Sto → RS} {P : Rr → Hp → D → Sto → Prop} (h : Post K mg W ρ H σ (r.toS τ k).fin P) :
    Post K mg W ρ H σ r (fun ρ' H' a s' => Post K mg W ρ' H' σ (k a s').fin P) := by
  cases r with
  | ok a s => exact fun ρ' H' m rp => Post.le m h
  | exc C fs s => exact h
  | bad => exact h
theorem PostS.ofFin {K : PySem.W.Frag} {mg : Str → Option Value} {W' : XK} {ρ : Rr} {H : Hp} {σ : L2.St} {r : RS} {Q : VK} (h : Post K mg (fun c d _ H' => W' c d H') ρ H σ r.fin (fun ρ' H' d _ => ∀ v, IsV K mg ρ' H' v d → Q v H')) :
    PostS K mg (fun c d _ H' => W' c d H') ρ H r { nx := fun _ H' => Q .non H', rt := Q } := by
  cases r with
  | nx τ s' => exact fun ρ' H' σ' l r e => h ρ' H' l r _ .non
  | rt d s' => exact fun ρ' H' v l r hv => h ρ' H' l r v hv
  | exc C fs τ s' => exact fun ρ' H' σ' ca dd gs l r e hc hd hg => h ρ' H' ca dd gs l r hc hd hg
  | bk τ s' => exact h.elim
  | ct τ s' => exact h.elim
  | bad => exact h.elim
section
variable {P : Program} {w : World} {K : PySem.W.Frag} {mg : Str → Option Value} {base : Heap} {f cc C fV : Addr} {G : NF} {N ps : List Str} {Cn : Str} {k n : Nat} {F : Fn} {mb : MS} {ma : MA}
theorem fnok_super {ex : Expr} {rest : List Stmt} {p0 p1 p2 p3 p4 : Pos} (T : SupK P K mg f cc C fV G) (S : NScope N ps [("__class__" : Str)] G.scope) (hb : G.body = .Expr (.Call (.Attribute (.Call (.Name "super" p0) [] [] p1) "__init__" p2) [ex] [] p3) p4 :: rest)
    (hC : mg Cn = some (.ref C)) (hn : ps.length = n) (hNl : N.length = n + 1) (hbind : ∀ (doc pm ctv : Value) (us : List Value), us.length = ps.length → bindArgs (G.fd doc pm ctv) ⟨us, []⟩ = pure (ps.zip us)) (hself : ps[0]? = some ("self" : Str)) (hpar : ∃ ar, (G.params.posonlyargs ++ G.params.args).head? = some ar ∧ ar.arg = "self")
    (hks : G.scope.names.lookup ("super" : Str) = some .globalImplicit) (oV : Okf P w K mg base k fV 2 F) (aV : Ar 2 F)
    (hbody : ∀ (A : Around) (outer : List Env) (s : Shared) (H : Hp) (E : XK), Room k (A.deeper (envF G f s.heap.objs.size)) → starEach [ex] (envF G f s.heap.objs.size) = [(false, eval ex (envF G f s.heap.objs.size))] ∧
      (∃ pl, eval (.Call (.Attribute (.Call (.Name "super" p0) [] [] p1) "__init__" p2) [ex] [] p3) (envF G f s.heap.objs.size) = (do
        let ov ← attributeBase (.Call (.Name "super" p0) [] [] p1) "__init__" (envF G f s.heap.objs.size) (eval (.Call (.Name "super" p0) [] [] p1) (envF G f s.heap.objs.size))
        standAt p2.atName
        let (g, first) ← holding [ov] (getMethod ov "__init__" pl)
        callWith p3 g first (backTo p3 (starEach [ex] (envF G f s.heap.objs.size))) [])) ∧
      interactive (envF G f s.heap.objs.size) = false ∧ swapsWith (.Call (.Attribute (.Call (.Name "super" p0) [] [] p1) "__init__" p2) [ex] [] p3) none p4.line (envF G f s.heap.objs.size) = pure false ∧
      PMA (ncx (L2.CX P w) P w K mg base N G f A outer s H E) (fun c d _ H' => E c d H') [ex] ma ∧ PMSs (ncx (L2.CX P w) P w K mg base N G f A outer s H E) (fun c d _ H' => E c d H') rest mb) :
    Okf P w K mg base (k + 1) f n (fnM n N.length (seqS (exprM (superM Cn F ma)) mb)) := by
  obtain ⟨oc, od, doc, pm, ctv, osl, lk⟩ := T.fn
  refine ⟨G.fd doc pm ctv, ps, ⟨fun vs H Q E h => by rw [hn]; exact h.1, fun A outer s H args us vs Q E hr e0 hbd r hsp => ?_⟩, Binds.all (hbind doc pm ctv), hn, T.kp⟩
  have KX : K.In s.heap := e0.mod.kin.keeps fun b o e => (e0.bs b o e).1
  have lim : s.heap.NoLimit := e0.mod.nolimit.keeps fun b o e => (e0.bs b o e).1
  obtain ⟨hl, ρ, st, ds, rp, hv, h⟩ := hsp
  obtain ⟨cl0, cld, csl, hcell⟩ := T.cell
  have bK : ∀ b o, K.lookup b = some o → H b = none := fun b o q => (e0.bs b o (e0.mod.kin b o q)).2
  refine ks_codeAny_call_defAt (fd := G.fd doc pm ctv) hr.depth (KX _ _ lk) rfl lim (PySem.W.codeRec_of KX T.cd) rfl hbd S.nocell (fun y hy => S.par y.1 (List.of_mem_zip hy).1) (fun h₁ hns kp => ?_) S.co S.gen S.kind
  have C0 : CellsAt G.cl [("__class__" : Str)] [some (.ref C)] s.heap H := by
    rw [T.cl]
    refine ⟨rfl, fun y c hc => ?_, fun x y c hx hy => (lk1 hx).1.trans (lk1 hy).1.symm, fun i y hi => ?_⟩
    · obtain ⟨_, rfl⟩ := lk1 hc
      exact ⟨bK _ _ hcell, _, _, KX _ _ hcell, rfl⟩
    · cases i with
      | zero =>
        cases hi
        exact ⟨cc, by rw [List.lookup_cons]; rfl, fun v hv => by cases hv; exact ⟨.ref C, rfl, _, KX _ _ hcell, rfl⟩⟩
      | succ i => simp at hi
  have hlp : vs.length = ps.length := by rw [hn]; exact hl
  have I : Inv (ncx (L2.CX P w) P w K mg base N G f A outer s H E) [] (startF N vs [some (.ref C)]) H { s with heap := h₁, toks := s.toks + (ps.zip us).length } := inv_startN S hr.hd e0 hlp r C0 hns kp
  obtain ⟨hst, ⟨pl, hev⟩, hint, hsw, hma, hmb⟩ := hbody A outer s H E (hr.deeper _)
  show PySem.wpAt (model P w) (A.deeper (envF G f s.heap.objs.size)) (.func G.body (envF G f s.heap.objs.size)) (execs G.body (envF G f s.heap.objs.size)) _ _ _
  rw [hb]
  refine ks_wpAt_execs_cons (ks_wpAt_Expr_any ?_ hint hsw)
  refine ks_wpAt_MethodCall (pl := pl) ?_ hev
  -- the state of the first statement
  have h' : Post K mg (fun c d _ H' => E c d H') ρ H [] (fnM n N.length (seqS (exprM (superM Cn F ma)) mb) ds st) (fun ρ' H' d _ => ∀ v, IsV K mg ρ' H' v d → Q v H') := h
  unfold fnM at h'
  rw [if_pos (by rw [← hv.length]; exact hl)] at h'
  have h2 := Post.trim rp h'
  have ev : Evs K mg ρ H (startF N vs [some (.ref C)]) (startD N.length ds) := by
    have e1 : N.length - vs.length - [some (V.ref C)].length = 0 := by rw [hl, hNl]; simp
    have e2 : N.length - ds.length = 1 := by rw [← hv.length, hl, hNl]; omega
    unfold startF startD
    rw [e1, e2]
    exact evs_start1 hv
  generalize startD N.length ds = τ at h2 ev
  generalize startF N vs [some (.ref C)] = σ at I ev
  have h3 : Post K mg (fun c d _ H' => E c d H') ρ H [] ((((superM Cn F ma) τ st).toS τ fun _ s => mb τ s).fin) (fun ρ' H' d _ => ∀ v, IsV K mg ρ' H' v d → Q v H') := by
    have e : (seqS (exprM (superM Cn F ma)) mb τ st) = ((superM Cn F ma) τ st).toS τ fun _ s => mb τ s := by
      unfold seqS exprM
      cases superM Cn F ma τ st <;> rfl
    rw [e] at h2
    exact h2
  have key : ∃ i fs, τ[0]? = some (some (D.obj i)) ∧ st[i]? = some (O.ins Cn fs) := by
    unfold superM at h3
    cases q0 : τ[0]? with
    | none => rw [q0] at h3; exact h3.elim
    | some o =>
      rw [q0] at h3
      cases o with
      | none => exact h3.elim
      | some d =>
        cases d with
        | obj i =>
          simp only at h3
          cases q1 : st[i]? with
          | none => rw [q1] at h3; exact h3.elim
          | some o =>
            rw [q1] at h3
            cases o with
            | lst ds => exact h3.elim
            | ins C' fs =>
              simp only at h3
              by_cases hc : C' = Cn
              · exact ⟨i, fs, rfl, by rw [← hc]; exact q1⟩
              · rw [if_neg hc] at h3; exact h3.elim
        | _ => exact h3.elim
  obtain ⟨i, fs, q0, q1⟩ := key
  have e3 : superM Cn F ma τ st = (ma τ st).bind fun ds s => F (.obj i :: ds) s := by
    unfold superM
    rw [q0]
    simp only
    rw [q1]
    simp only [if_true]
  rw [e3] at h3
  obtain ⟨v0, s0, hv0⟩ := ev.get q0
  cases hv0 with
  | @obj x i hx =>
  obtain ⟨ca, dx, gs, hca, hins, hgs⟩ := rp.at_ i x _ hx q1
  have eC : ca = C := Value.ref.inj (Option.some.inj (hca.symm.trans hC))
  subst eC
  obtain ⟨m, hn, hloc⟩ := I.loc
  have hN0 : N[0]? = some ("self" : Str) := by
    have h0 : (N.take (ps.length + 1))[0]? = (ps ++ [("__class__" : Str)])[0]? := congrArg (·[0]?) S.pre
    rw [List.getElem?_take_of_lt (Nat.succ_pos _)] at h0
    rw [h0, List.getElem?_append_left (by
      cases ps with
      | nil => simp at hself
      | cons a b => exact Nat.succ_pos _)]
    exact hself
  have hsl : G.scope.names.lookup ("self" : Str) = some .local := S.par _ (List.mem_of_getElem? hself)
  obtain ⟨us0, r0, l0⟩ := hloc 0 "self" (.ref x) hN0 s0 (.inl hsl)
  obtain rfl : us0 = Value.ref x := r0
  have hms : m "self" = some (.ref x) := by
    rcases l0 with ⟨_, hm⟩ | ⟨hk, _⟩
    · exact hm
    · have e : (envF G f s.heap.objs.size).kindOf "self" = some .local := hsl
      rcases hk with hk | hk <;> (rw [show (ncx (L2.CX P w) P w K mg base N G f A outer s H E).env.kindOf "self" = some .local from e] at hk; cases hk)
  obtain ⟨mA, OO, _, _, _, _⟩ := ins_get I.hok hins
  obtain ⟨odx, J, _⟩ := OO.look
  obtain ⟨cdc, hcd⟩ := T.cls
  have kin : K.In h₁ := I.kIn
  obtain ⟨oc1, h1a, h1b⟩ : ∃ o, h₁.get? ca = some o ∧ o.data = .cls cdc := by
    have q := hcd
    unfold PySem.W.clsIn at q
    split at q
    · rename_i ho
      cases q
      exact ⟨_, kin _ _ ho, rfl⟩
    · cases q
  obtain ⟨ccl, cdd, vsx, ccs, file, tf, lc, hvs, hfile⟩ := T.code
  obtain ⟨ar, hp, har⟩ := hpar
  have hxC : x ≠ ca := fun e => by
    subst e
    obtain ⟨o, ho⟩ : ∃ o, K.lookup x = some o := by
      unfold PySem.W.clsIn at hcd
      split at hcd
      · rename_i ho; exact ⟨_, ho⟩
      · cases hcd
    rw [bK _ _ ho] at hins
    cases hins
  have hfu : (ncx (L2.CX P w) P w K mg base N G f A outer s H E).env.func = some f := rfl
  refine ks_wpAt_super_base (env := envF G f s.heap.objs.size) (f := f) (cc := G.c) (ar := ar) (vs := vsx) (file := file) (tf := tf) hks (S.frk _ (List.mem_singleton.mpr rfl)) (by decide) rfl (kin _ _ lk) rfl hp rfl (kin _ _ lc) rfl hvs hfile T.top ?_
  obtain ⟨mb0, b1, b2⟩ := I.mod.blt
  refine PySem.W.ks_loadName_global S.kind hks (Calls.loadGlobal_builtin (I.mod.glob.keeps I.bk) T.sup (b1.keeps I.bk) ((b2 _ (by decide)).trans (show bootBuiltins "super" = some (.type "super") by kernel_rfl)) ⟨rfl, ?_⟩)
  refine wpAny_loadName_free S.kind (S.frk _ (List.mem_singleton.mpr rfl)) (show G.cl.lookup ("__class__" : Str) = some cc by rw [T.cl]; rfl) ⟨_, kin _ _ hcell, rfl⟩ ?_
  rw [har]
  refine wpAny_loadName_local S.kind hsl hn hms ?_
  refine ks_wpAny_isType_cls h1a h1b ⟨rfl, ?_⟩
  refine ks_wpAny_call_super h1a h1b J.at_ J.cls (fun c e => ?_) (PySem.W.looks_mroIn kin T.sub) (fun h' e k => ?_)
  · have := J.no
    unfold PySem.W.notCls at this
    rw [e] at this
    exact Bool.noConfusion this
  have I2 : Inv (ncx (L2.CX P w) P w K mg base N G f A outer s H E) [] σ H { s with heap := h', toks := s.toks + (ps.zip us).length } := I.kept k
  have kin' : K.In h' := I2.kIn
  have hal := T.meth
  unfold PySem.W.ks_superIn at hal
  rw [hcd] at hal
  obtain ⟨of, hof, hofc⟩ : ∃ of, h'.get? fV = some of ∧ of.cls = .type "function" := by
    have ht' : (K.lookup fV).map (·.cls) = some (.type "function") := T.typ
    cases z : K.lookup fV with
    | none => rw [z] at ht'; cases ht'
    | some of => rw [z] at ht'; exact ⟨of, kin' _ _ z, Option.some.inj ht'⟩
  refine ks_wpAny_getMethod_super e (PySem.W.looks_opaque kin' T.any) (l₀ := cdc.mro) (fun A Q E s k q => wpAny_bind ((PySem.W.looks_clsIn kin' hcd) A _ E s k (wpAny_pure q))) rfl kin' hal hof hofc hxC (by decide) ?_
  have hq0 : H h'.objs.size = none := I2.hok.fresh (Nat.le_refl _)
  have I3 : Inv (ncx (L2.CX P w) P w K mg base N G f A outer s H E) [] σ (upd H h'.objs.size (.met fV x)) { s with heap := h'.push (PySem.W.methodObj (.ref fV) (.ref x)), toks := s.toks + (ps.zip us).length + 1 } :=
    I2.laid (t' := s.toks + (ps.zip us).length + 1) (a := h'.objs.size) (o := .met fV x) (fun b u z => Heap.get?_push_of_some _ z) (Nat.le_refl _)
      (show (h'.push (PySem.W.methodObj (.ref fV) (.ref x))).get? h'.objs.size = some (PySem.W.methodObj (.ref fV) (.ref x)) from Heap.get?_push_size h' rfl)
  have l3 : Le ρ H ρ (upd H h'.objs.size (.met fV x)) := Le.new hq0
  have r3 := rp.new (u := .met fV x) hq0
  have ev3 := ev.mono l3
  have h4 := Post.finS (Post.le l3 h3)
  have h5 := Post.bind h4
  have tk : Takes (ncx (L2.CX P w) P w K mg base N G f A outer s H E) (fun c d _ H' => E c d H') := takes_of rfl rfl rfl rfl
  rw [hst]
  refine callwith_met (X := ncx (L2.CX P w) P w K mg base N G f A outer s H E) (g := fV) (a := x) (q := h'.objs.size) rfl T.fin (Calls.evalArgs_plain ?_)
  have hnq : h'.objs.size ∉ ρ.pl := (rp.fresh hq0).1
  have hrun := hma.run p3 [] _ σ (upd H h'.objs.size (.met fV x)) (fun vs H1 => H1 h'.objs.size = some (.met fV x) ∧ ∀ us s1, Inv (ncx (L2.CX P w) P w K mg base N G f A outer s H E) [] σ H1 s1 → Vals vs us →
      wpAny (model P w) (A.deeper (envF G f s.heap.objs.size)) (call (.ref h'.objs.size) us) (EP (ncx (L2.CX P w) P w K mg base N G f A outer s H E) [] σ fun _ H' => ∃ ρ' τ' s', Rep K mg ρ' H' s' ∧ Evs K mg ρ' H' σ τ' ∧ PostS K mg (fun c d _ H' => E c d H') ρ' H' (mb τ' s') { nx := fun _ H' => Q .non H', rt := Q })
        (ncx (L2.CX P w) P w K mg base N G f A outer s H E).xe s1) I3 (tMA_go r3 ev3 h5 fun ρ1 H1 ds s1 vs l1 r1 e1 hv h1 => ⟨l1.frm _ _ upd_same hnq, fun us s2 I1 r => ?_⟩)
  · have hrun' : wpAny (model P w) (A.deeper (envF G f s.heap.objs.size)) (spliced (backTo p3 (starEach [ex] (envF G f s.heap.objs.size)))) _ _ _ := hrun
    rw [hst] at hrun'
    refine thn hrun' fun us s1 ⟨vs, H1, I1, r, hm, q⟩ => ⟨met_P I1 hm, wpAny_mono (q us s1 I1 r) (fun u s2 hu => ?_) fun _ _ z => z⟩
    obtain ⟨v, H2, J2, rv, ρ', τ', s', r', e', hp'⟩ := hu
    have fin : ∀ {σ' : L2.St} {H' : Hp} {v : V} {u : Value} {s' : Shared}, Inv (ncx (L2.CX P w) P w K mg base N G f A outer s H E) [] σ' H' s' → L2.RelV v u → Q v H' → CE outer P w H s Q u s' :=
      fun {σ' H' v u s'} J rv q => ⟨v, H', J.os, J.bare, J.base, J.hok, rv, q⟩
    refine wpAt_of_wpAny (wpAny_mono (hmb.run [] _ σ H2 { nx := fun _ H' => Q .non H', rt := Q } J2 ⟨ρ', τ', s', r', e', hp'⟩) (fun fl s3 hs => ?_) fun _ _ z => z)
    cases fl with
    | ret u =>
      obtain ⟨v, σ', H', J, rv, q⟩ := hs
      exact fin J rv q
    | next =>
      obtain ⟨σ', H', J, q⟩ := hs
      exact fin (v := V.non) (u := Value.none) J rfl q
    | brk =>
      obtain ⟨_, _, _, q⟩ := hs
      exact False.elim q
    | cont =>
      obtain ⟨_, _, _, q⟩ := hs
      exact False.elim q
  · refine wpAny_call (call_met I1 (l1.frm _ _ upd_same hnq) (does_code (W := fun c d _ H' => E c d H') oV aV (hr.deeper _) tk (Nat.le_refl _) I1 (show Vals (V.ref x :: vs) (Value.ref x :: us) from Paired.cons (show RelV (V.ref x) (Value.ref x) from rfl) r) r1 (.cons (.obj (l1.get hx)) hv) (h1.imp fun ρ' H' d s3 l' r' p v hv' => ⟨ρ', τ, s3, r', e1.mono l', PostS.ofFin p⟩)))
end
end FL

set_option Elab.async false
set_option linter.all false
set_option maxRecDepth 100000
set_option maxHeartbeats 4000000

namespace K97
open PySem PySem.Spec PyProof.Rows L2 FL
def okT (C f : Str) : Bool := okL.contains (C, f)
def isaT (C C' : Str) : Option Bool := if testL.contains C' = true then (mroL.lookup C).map fun l => l.contains C' else none
def exmT (C C' : Str) : Option Bool := if C = ("BadCertificate" : Str) then (if C' = ("BadCertificate" : Str) then some true else none) else if C = ("BadNote" : Str) then (if C' = ("BadCertificate" : Str) then some false else if C' = ("BadNote" : Str) then some true else none) else none
def formsT (z : Str) : Option D := formsL.lookup z
def formsK (z : Str) : Option Bool := if (formsL.lookup z).isSome = true then some true else if formsM.contains z = true then some false else none
def b_Blockers_init : MS := (seqS (fldS okT ("template" : Str) (varM 0) (varM 1)) (seqS (fldS okT ("hour" : Str) (varM 0) (varM 2)) (fldS okT ("rows" : Str) (varM 0) (varM 3))))
def F_Blockers_init : Fn := fnM 4 4 b_Blockers_init
theorem ar_Blockers_init : Ar 4 F_Blockers_init := ar_fn
def b_CaseTree_init : MS := (fldS okT ("node" : Str) (varM 0) (varM 1))
def F_CaseTree_init : Fn := fnM 2 2 b_CaseTree_init
theorem ar_CaseTree_init : Ar 2 F_CaseTree_init := ar_fn
def b_Crowded_init : MS := (seqS (fldS okT ("lot" : Str) (varM 0) (varM 1)) (fldS okT ("node" : Str) (varM 0) (varM 2)))
def F_Crowded_init : Fn := fnM 3 3 b_Crowded_init
theorem ar_Crowded_init : Ar 3 F_Crowded_init := ar_fn
def b_FloorPlan_init : MS := (fldS okT ("rows" : Str) (varM 0) (varM 1))
def F_FloorPlan_init : Fn := fnM 2 2 b_FloorPlan_init
theorem ar_FloorPlan_init : Ar 2 F_FloorPlan_init := ar_fn
def b_NoQuote_init : MS := (seqS (fldS okT ("template" : Str) (varM 0) (varM 1)) (fldS okT ("refusals" : Str) (varM 0) (varM 2)))
def F_NoQuote_init : Fn := fnM 3 3 b_NoQuote_init
theorem ar_NoQuote_init : Ar 3 F_NoQuote_init := ar_fn
def b_Packing_init : MS := (fldS okT ("places" : Str) (varM 0) (varM 1))
def F_Packing_init : Fn := fnM 2 2 b_Packing_init
theorem ar_Packing_init : Ar 2 F_Packing_init := ar_fn
def b_Quote_init : MS := (seqS (fldS okT ("template" : Str) (varM 0) (varM 1)) (seqS (fldS okT ("hour" : Str) (varM 0) (varM 2)) (seqS (fldS okT ("places" : Str) (varM 0) (varM 3)) (fldS okT ("refusals" : Str) (varM 0) (varM 4)))))
def F_Quote_init : Fn := fnM 5 5 b_Quote_init
theorem ar_Quote_init : Ar 5 F_Quote_init := ar_fn
def b_Settlement_init : MS := (seqS (fldS okT ("rows" : Str) (varM 0) (varM 1)) (seqS (fldS okT ("deeds" : Str) (varM 0) (varM 2)) (seqS (fldS okT ("hold" : Str) (varM 0) (varM 3)) (fldS okT ("after" : Str) (varM 0) (varM 4)))))
def F_Settlement_init : Fn := fnM 5 5 b_Settlement_init
theorem ar_Settlement_init : Ar 5 F_Settlement_init := ar_fn
def b_Shortage_init : MS := (seqS (fldS okT ("gang" : Str) (varM 0) (varM 1)) (seqS (fldS okT ("start" : Str) (varM 0) (varM 2)) (seqS (fldS okT ("end" : Str) (varM 0) (varM 3)) (fldS okT ("rows" : Str) (varM 0) (varM 4)))))
def F_Shortage_init : Fn := fnM 5 5 b_Shortage_init
theorem ar_Shortage_init : Ar 5 F_Shortage_init := ar_fn
def b_Levels_init : MS := (seqS (fldS okT ("resource" : Str) (varM 0) (varM 1)) (seqS (fldS okT ("amount" : Str) (varM 0) (varM 2)) (seqS (fldS okT ("wanted" : Str) (varM 0) (varM 3)) (seqS (fldS okT ("shares" : Str) (varM 0) (varM 4)) (fldS okT ("rows" : Str) (varM 0) (varM 5))))))
def F_Levels_init : Fn := fnM 6 6 b_Levels_init
theorem ar_Levels_init : Ar 6 F_Levels_init := ar_fn
def b_gcd : MS := (seqS (whileS (fun (τ : Env') (_ : Sto) => match τ[1]? with | some (some (D.int i)) => i.natAbs + 1 | _ => 0) (valB (op2 neP (varM 1) (cM (.int 0)))) (parM 0 1 (consA (varM 1) (consA (op2 modP (varM 0) (varM 1)) nilA)))) (retM (call1 absF (consA (varM 0) nilA))))
def F_gcd : Fn := fnM 2 2 b_gcd
theorem ar_gcd : Ar 2 F_gcd := ar_fn
def b_Share_init : MS := (seqS (ifS (valB (op2 eqP (varM 2) (cM (.int 0)))) (fun _ _ => .bad) nilS) (seqS (setM 3 (callM F_gcd (consA (varM 1) (consA (varM 2) nilA)))) (seqS (ifS (valB (op2 ltP (varM 2) (cM (.int 0)))) (setM 3 (op1 negP (varM 3))) nilS) (seqS (fldS okT ("top" : Str) (varM 0) (op2 divP (varM 1) (varM 3))) (fldS okT ("bottom" : Str) (varM 0) (op2 divP (varM 2) (varM 3)))))))
def F_Share_init : Fn := fnM 3 4 b_Share_init
theorem ar_Share_init : Ar 3 F_Share_init := ar_fn
def b_law_levels : MS := (seqS (setM 1 (callM (newF ("Share" : Str) F_Share_init) (consA (op2 mulP (op2s ixS (op2s ixS (varM 0) (cM (.int 1))) (cM (.int 0))) (cM (.int 6))) (consA (op2 mulP (op2s ixS (op2s ixS (varM 0) (cM (.int 1))) (cM (.int 1))) (cM (.int 6))) nilA)))) (seqS (setM 2 (call1 tupleF (consA (lcM (seqI (op2s ixS (varM 0) (cM (.int 3)))) (.one 6) yesB (callM (newF ("Share" : Str) F_Share_init) (consA (op2 mulP (op2s ixS (varM 6) (cM (.int 0))) (cM (.int 6))) (consA (op2 mulP (op2s ixS (varM 6) (cM (.int 1))) (cM (.int 6))) nilA))) [6]) nilA))) (seqS (setM 3 (lstM nilA)) (seqS (forS (seqI (op2s ixS (varM 0) (cM (.int 4)))) (nameG 4) (seqS (setM 5 (op2s ixS (varM 4) (cM (.int 2)))) (seqS (ifS (valB (op2 notNP (varM 5) (cM .non))) (setM 5 (callM (newF ("Share" : Str) F_Share_init) (consA (op2s ixS (varM 5) (cM (.int 0))) (consA (op2s ixS (varM 5) (cM (.int 1))) nilA)))) nilS) (exprM (lmM appF (varM 3) (consA (tupM (consA (op2s ixS (varM 4) (cM (.int 0))) (consA (op2s ixS (varM 4) (cM (.int 1))) (consA (varM 5) nilA)))) nilA)))))) (retM (callM (newF ("Levels" : Str) F_Levels_init) (consA (op2s ixS (varM 0) (cM (.int 0))) (consA (varM 1) (consA (op2s ixS (varM 0) (cM (.int 2))) (consA (varM 2) (consA (call1 tupleF (consA (varM 3) nilA)) nilA)))))))))))
def F_law_levels : Fn := fnM 1 7 b_law_levels
theorem ar_law_levels : Ar 1 F_law_levels := ar_fn
def b_law_first : MS := (seqS (ifS (valB (op2 eqP (varM 0) (cM (.str ("shortage" : Str))))) (retM (callM (newF ("Shortage" : Str) F_Shortage_init) (consA (op2s ixS (varM 1) (cM (.int 0))) (consA (op2s ixS (varM 1) (cM (.int 1))) (consA (op2s ixS (varM 1) (cM (.int 2))) (consA (op2s ixS (varM 1) (cM (.int 3))) nilA)))))) nilS) (seqS (ifS (valB (op2 eqP (varM 0) (cM (.str ("packing" : Str))))) (retM (callM (newF ("Packing" : Str) F_Packing_init) (consA (op2s ixS (varM 1) (cM (.int 0))) nilA))) nilS) (seqS (ifS (valB (op2 eqP (varM 0) (cM (.str ("tree" : Str))))) (retM (callM (newF ("CaseTree" : Str) F_CaseTree_init) (consA (op2s ixS (varM 1) (cM (.int 0))) nilA))) nilS) (seqS (ifS (valB (op2 eqP (varM 0) (cM (.str ("levels" : Str))))) (retM (callM F_law_levels (consA (varM 1) nilA))) nilS) (seqS (ifS (valB (op2 eqP (varM 0) (cM (.str ("floors" : Str))))) (retM (callM (newF ("FloorPlan" : Str) F_FloorPlan_init) (consA (op2s ixS (varM 1) (cM (.int 0))) nilA))) nilS) (seqS (ifS (valB (op2 eqP (varM 0) (cM (.str ("crowded" : Str))))) (retM (callM (newF ("Crowded" : Str) F_Crowded_init) (consA (op2s ixS (varM 1) (cM (.int 0))) (consA (op2s ixS (varM 1) (cM (.int 1))) nilA)))) nilS) (seqS (ifS (valB (op2 eqP (varM 0) (cM (.str ("settled" : Str))))) (retM (callM (newF ("Settlement" : Str) F_Settlement_init) (consA (op2s ixS (varM 1) (cM (.int 0))) (consA (op2s ixS (varM 1) (cM (.int 1))) (consA (op2s ixS (varM 1) (cM (.int 2))) (consA (cM .non) nilA)))))) nilS) (seqS (ifS (valB (op2 eqP (varM 0) (cM (.str ("quote" : Str))))) (retM (callM (newF ("Quote" : Str) F_Quote_init) (consA (op2s ixS (varM 1) (cM (.int 0))) (consA (op2s ixS (varM 1) (cM (.int 1))) (consA (op2s ixS (varM 1) (cM (.int 2))) (consA (op2s ixS (varM 1) (cM (.int 3))) nilA)))))) nilS) (seqS (ifS (valB (op2 eqP (varM 0) (cM (.str ("no-quote" : Str))))) (retM (callM (newF ("NoQuote" : Str) F_NoQuote_init) (consA (op2s ixS (varM 1) (cM (.int 0))) (consA (op2s ixS (varM 1) (cM (.int 1))) nilA)))) nilS) (retM (callM (newF ("Blockers" : Str) F_Blockers_init) (consA (op2s ixS (varM 1) (cM (.int 0))) (consA (op2s ixS (varM 1) (cM (.int 1))) (consA (op2s ixS (varM 1) (cM (.int 2))) nilA))))))))))))))
def F_law_first : Fn := fnM 2 2 b_law_first
theorem ar_law_first : Ar 2 F_law_first := ar_fn
def b_law_forms : MS := (seqS (setM 0 (tupM (consA (cM (.str ("any" : Str))) (consA (cM (.str ("i" : Str))) nilA)))) (seqS (setM 1 (tupM (consA (cM (.str ("any" : Str))) (consA (tupM (consA (cM (.str ("row" : Str))) (consA (cM (.str ("i" : Str))) (consA (tupM (consA (cM (.str ("or" : Str))) (consA (cM (.str ("i" : Str))) (consA (cM (.str ("w" : Str))) nilA)))) nilA)))) nilA)))) (seqS (setM 2 (tupM (consA (cM (.str ("any" : Str))) (consA (varM 0) nilA)))) (seqS (setM 3 (tupM (consA (cM (.str ("any" : Str))) (consA (tupM (consA (cM (.str ("or" : Str))) (consA (cM (.str ("i" : Str))) (consA (cM (.str ("w" : Str))) nilA)))) nilA)))) (seqS (setM 4 (tupM (consA (cM (.str ("any" : Str))) (consA (varM 3) nilA)))) (seqS (setM 5 (tupM (consA (cM (.str ("any" : Str))) (consA (tupM (consA (cM (.str ("row" : Str))) (consA (cM (.str ("i" : Str))) (consA (cM (.str ("i" : Str))) (consA (varM 1) nilA))))) nilA)))) (seqS (setM 6 (tupM (consA (cM (.str ("any" : Str))) (consA (tupM (consA (cM (.str ("row" : Str))) (consA (varM 0) (consA (varM 2) nilA)))) nilA)))) (seqS (setM 7 (tupM (consA (cM (.str ("row" : Str))) (consA (cM (.str ("i" : Str))) (consA (cM (.str ("w" : Str))) (consA (tupM (consA (cM (.str ("or" : Str))) (consA (cM (.str ("s" : Str))) (consA (cM (.str ("-" : Str))) nilA)))) nilA)))))) (seqS (setM 8 (tupM (consA (cM (.str ("or" : Str))) (consA (tupM (consA (cM (.str ("row" : Str))) (consA (cM (.str ("w" : Str))) (consA (cM (.str ("i" : Str))) (consA (varM 0) nilA))))) (consA (cM (.str ("-" : Str))) nilA))))) (seqS (setM 9 (tupM (consA (cM (.str ("any" : Str))) (consA (tupM (consA (cM (.str ("row" : Str))) (consA (cM (.str ("t" : Str))) (consA (cM (.str ("i" : Str))) (consA (cM (.str ("i" : Str))) nilA))))) nilA)))) (seqS (setM 10 (tupM (consA (cM (.str ("any" : Str))) (consA (tupM (consA (cM (.str ("row" : Str))) (consA (cM (.str ("t" : Str))) (consA (cM (.str ("t" : Str))) (consA (varM 0) (consA (varM 0) (consA (varM 0) nilA))))))) nilA)))) (seqS (setM 11 (lstM (consA (tupM (consA (cM (.str ("shortage" : Str))) (consA (tupM (consA (cM (.str ("row" : Str))) (consA (cM (.str ("i" : Str))) (consA (cM (.str ("i" : Str))) nilA)))) (consA (cM (.str ("i" : Str))) (consA (cM (.str ("i" : Str))) (consA (varM 1) nilA)))))) nilA))) (seqS (exprM (lmM appF (varM 11) (consA (tupM (consA (cM (.str ("packing" : Str))) (consA (varM 2) nilA))) nilA))) (seqS (exprM (lmM appF (varM 11) (consA (tupM (consA (cM (.str ("tree" : Str))) (consA (cM (.str ("t" : Str))) nilA))) nilA))) (seqS (exprM (lmM appF (varM 11) (consA (tupM (consA (cM (.str ("levels" : Str))) (consA (cM (.str ("i" : Str))) (consA (cM (.str ("s" : Str))) (consA (varM 0) (consA (tupM (consA (cM (.str ("any" : Str))) (consA (cM (.str ("s" : Str))) nilA))) (consA (tupM (consA (cM (.str ("any" : Str))) (consA (varM 7) nilA))) nilA))))))) nilA))) (seqS (exprM (lmM appF (varM 11) (consA (tupM (consA (cM (.str ("floors" : Str))) (consA (varM 6) nilA))) nilA))) (seqS (exprM (lmM appF (varM 11) (consA (tupM (consA (cM (.str ("crowded" : Str))) (consA (varM 0) (consA (cM (.str ("t" : Str))) nilA)))) nilA))) (seqS (exprM (lmM appF (varM 11) (consA (tupM (consA (cM (.str ("settled" : Str))) (consA (tupM (consA (cM (.str ("any" : Str))) (consA (cM (.str ("t" : Str))) nilA))) (consA (tupM (consA (cM (.str ("any" : Str))) (consA (cM (.str ("t" : Str))) nilA))) (consA (varM 8) nilA))))) nilA))) (seqS (exprM (lmM appF (varM 11) (consA (tupM (consA (cM (.str ("quote" : Str))) (consA (cM (.str ("i" : Str))) (consA (cM (.str ("i" : Str))) (consA (varM 2) (consA (varM 5) nilA)))))) nilA))) (seqS (exprM (lmM appF (varM 11) (consA (tupM (consA (cM (.str ("no-quote" : Str))) (consA (cM (.str ("i" : Str))) (consA (varM 5) nilA)))) nilA))) (seqS (exprM (lmM appF (varM 11) (consA (tupM (consA (cM (.str ("blockers" : Str))) (consA (cM (.str ("i" : Str))) (consA (cM (.str ("i" : Str))) (consA (tupM (consA (cM (.str ("any" : Str))) (consA (tupM (consA (cM (.str ("row" : Str))) (consA (cM (.str ("w" : Str))) (consA (cM (.str ("i" : Str))) (consA (varM 1) nilA))))) nilA))) nilA))))) nilA))) (seqS (exprM (lmM appF (varM 11) (consA (tupM (consA (cM (.str ("survival" : Str))) (consA (varM 6) nilA))) nilA))) (seqS (exprM (lmM appF (varM 11) (consA (tupM (consA (cM (.str ("frail" : Str))) (consA (varM 0) (consA (cM (.str ("t" : Str))) nilA)))) nilA))) (seqS (exprM (lmM appF (varM 11) (consA (tupM (consA (cM (.str ("moves" : Str))) (consA (cM (.str ("i" : Str))) (consA (tupM (consA (cM (.str ("any" : Str))) (consA (tupM (consA (cM (.str ("row" : Str))) (consA (cM (.str ("w" : Str))) (consA (varM 0) nilA)))) nilA))) nilA)))) nilA))) (seqS (exprM (lmM appF (varM 11) (consA (tupM (consA (cM (.str ("stuck" : Str))) (consA (cM (.str ("i" : Str))) (consA (tupM (consA (cM (.str ("any" : Str))) (consA (varM 2) nilA))) nilA)))) nilA))) (seqS (exprM (lmM appF (varM 11) (consA (tupM (consA (cM (.str ("kept" : Str))) (consA (varM 3) (consA (varM 9) nilA)))) nilA))) (seqS (exprM (lmM appF (varM 11) (consA (tupM (consA (cM (.str ("broken" : Str))) (consA (varM 3) (consA (varM 4) nilA)))) nilA))) (seqS (setM 12 (tupM (consA (cM (.str ("or" : Str))) (consA (cM (.str ("w" : Str))) (consA (cM (.str ("-" : Str))) nilA))))) (seqS (exprM (lmM appF (varM 11) (consA (tupM (consA (cM (.str ("wait" : Str))) (consA (cM (.str ("i" : Str))) (consA (varM 12) (consA (varM 4) (consA (tupM (consA (cM (.str ("any" : Str))) (consA (cM (.str ("t" : Str))) nilA))) (consA (varM 9) nilA))))))) nilA))) (seqS (exprM (lmM appF (varM 11) (consA (tupM (consA (cM (.str ("ring" : Str))) (consA (cM (.str ("w" : Str))) (consA (varM 4) (consA (varM 4) nilA))))) nilA))) (seqS (exprM (lmM appF (varM 11) (consA (tupM (consA (cM (.str ("pairs" : Str))) (consA (cM (.str ("w" : Str))) (consA (varM 10) nilA)))) nilA))) (seqS (exprM (lmM appF (varM 11) (consA (tupM (consA (cM (.str ("parted" : Str))) (consA (cM (.str ("w" : Str))) (consA (varM 4) nilA)))) nilA))) (retM (varM 11))))))))))))))))))))))))))))))))))
def F_law_forms : Fn := fnM 0 13 b_law_forms
theorem ar_law_forms : Ar 0 F_law_forms := ar_fn
def b_law_next : MS := (seqS (setIxS (op2 addP (op2s ixS (varM 1) (cM (.int 0))) (cM (.int 1))) (varM 1) (cM (.int 0))) (retM (op2s ixS (varM 0) (op2 modP (call1 intF (consA (op2s ixS (varM 1) (cM (.int 0))) nilA)) (call1 lenF (consA (varM 0) nilA))))))
def F_law_next : Fn := fnM 2 2 b_law_next
theorem ar_law_next : Ar 2 F_law_next := ar_fn
def b_law_number : MS := (seqS (setM 1 (op2 modP (call1 intF (consA (varM 0) nilA)) (cM (.int 6)))) (seqS (setM 2 (op2 divP (varM 0) (cM (.int 6)))) (seqS (ifS (valB (op2 eqP (varM 1) (cM (.int 0)))) (retM (op1 negP (varM 2))) nilS) (seqS (ifS (valB (op2 eqP (varM 1) (cM (.int 1)))) (retM (op2 powP (op2 addP (varM 2) (cM (.int 1))) (cM (.int 30)))) nilS) (seqS (ifS (valB (op2 eqP (varM 1) (cM (.int 2)))) (retM (op1 negP (op2 powP (op2 addP (varM 2) (cM (.int 7))) (cM (.int 9))))) nilS) (seqS (ifS (andB (valB (op2 eqP (varM 1) (cM (.int 3)))) (valB (op2 eqP (op2 modP (call1 intF (consA (varM 2) nilA)) (cM (.int 8))) (cM (.int 0))))) (retM (op2 mulP (op2 subP (op2 powP (op2 powP (cM (.int 10)) (cM (.int 50))) (cM (.int 4))) (cM (.int 1))) (op2 subP (cM (.int 1)) (op2 mulP (op2 modP (call1 intF (consA (op2 divP (varM 2) (cM (.int 8))) nilA)) (cM (.int 2))) (cM (.int 2)))))) nilS) (retM (varM 2))))))))
def F_law_number : Fn := fnM 1 3 b_law_number
theorem ar_law_number : Ar 1 F_law_number := ar_fn
def b_law_word : MS := (seqS (setM 2 (cM (.str ("abcdefghijklmnopqrstuvwxyz" : Str)))) (seqS (setM 3 (op2 addP (varM 2) (cM (.str ("0123456789-:" : Str))))) (seqS (setM 4 (op2s ixS (flsM (consA (cM (.int 0)) (consA (cM (.int 1)) (consA (cM (.int 2)) (consA (cM (.int 5)) (consA (cM (.int 23)) nilA)))))) (op2 modP (call1 intF (consA (varM 0) nilA)) (cM (.int 5))))) (seqS (setM 5 (op2s ixS (varM 2) (op2 modP (call1 intF (consA (op2 divP (varM 0) (cM (.int 5))) nilA)) (cM (.int 26))))) (seqS (forS (rng1I (varM 4)) (nameG 6) (seqS (setM 7 (op2 addP (op2 addP (varM 1) (op2 mulP (op2 divP (varM 0) (cM (.int 5))) (varM 6))) (op2 mulP (varM 6) (varM 6)))) (setM 5 (op2 addP (varM 5) (op2s ixS (varM 3) (op2 modP (call1 intF (consA (varM 7) nilA)) (cM (.int 38)))))))) (retM (varM 5)))))))
def F_law_word : Fn := fnM 2 8 b_law_word
theorem ar_law_word : Ar 2 F_law_word := ar_fn
def b_law_note (F : Fn) : MS := (seqS (setM 3 (callM F_law_next (consA (varM 0) (consA (varM 1) nilA)))) (seqS (setM 4 (lstM nilA)) (seqS (forS (rng1I (op2 modP (call1 intF (consA (varM 3) nilA)) (cM (.int 4)))) (nameG 5) (seqS (setM 6 (callM F_law_next (consA (varM 0) (consA (varM 1) nilA)))) (seqS (setM 7 (op2 modP (call1 intF (consA (varM 6) nilA)) (cM (.int 5)))) (ifS (andB (valB (op2 eqP (varM 7) (cM (.int 0)))) (valB (op2 gtP (varM 2) (cM (.int 0))))) (exprM (lmM appF (varM 4) (consA (callM F (consA (varM 0) (consA (varM 1) (consA (op2 subP (varM 2) (cM (.int 1))) nilA)))) nilA))) (ifS (valB (op2 eqP (varM 7) (cM (.int 1)))) (exprM (lmM appF (varM 4) (consA (cM .non) nilA))) (ifS (valB (op2 eqP (varM 7) (cM (.int 2)))) (exprM (lmM appF (varM 4) (consA (callM F_law_word (consA (op2 divP (varM 6) (cM (.int 5))) (consA (varM 3) nilA))) nilA))) (exprM (lmM appF (varM 4) (consA (callM F_law_number (consA (op2 divP (varM 6) (cM (.int 5))) nilA)) nilA))))))))) (seqS (setM 8 (call1 tupleF (consA (varM 4) nilA))) (seqS (ifS (andB (valB (op2 eqP (varM 2) (cM (.int 2)))) (valB (op2 eqP (op2 modP (call1 intF (consA (varM 3) nilA)) (cM (.int 16))) (cM (.int 9))))) (forS (rng1I (cM (.int 40))) (nameG 5) (setM 8 (tupM (consA (varM 8) nilA)))) nilS) (retM (varM 8)))))))
def F_law_note : Nat → Fn
  | 0 => fun _ _ => .bad
  | k + 1 => fnM 3 9 (b_law_note (F_law_note k))
theorem ar_law_note : ∀ k, Ar 3 (F_law_note k)
  | 0 => ar_bad
  | k + 1 => ar_fn
def b_law_pair : MS := (seqS (setM 2 (op2 mulP (call1 intF (consA (varM 0) nilA)) (op2 subP (cM (.int 1)) (op2 mulP (op2 modP (call1 intF (consA (varM 1) nilA)) (cM (.int 2))) (cM (.int 2)))))) (seqS (setM 3 (op2 addP (varM 1) (cM (.int 1)))) (seqS (ifS (valB (op2 eqP (op2 modP (call1 intF (consA (varM 0) nilA)) (cM (.int 3))) (cM (.int 0)))) (setM 2 (op2 powP (varM 2) (cM (.int 3)))) nilS) (seqS (setM 4 (call1 absF (consA (varM 2) nilA))) (seqS (setM 5 (varM 3)) (seqS (whileS (fun (τ : Env') (_ : Sto) => match τ[5]? with | some (some (D.int i)) => i.natAbs + 1 | _ => 0) (valB (op2 gtP (varM 5) (cM (.int 0)))) (parM 4 5 (consA (varM 5) (consA (op2 modP (call1 intF (consA (varM 4) nilA)) (varM 5)) nilA)))) (retM (tupM (consA (op2 divP (varM 2) (varM 4)) (consA (op2 divP (varM 3) (varM 4)) nilA))))))))))
def F_law_pair : Fn := fnM 2 6 b_law_pair
theorem ar_law_pair : Ar 2 F_law_pair := ar_fn
def b_law_made (F : Fn) : MS := (seqS (ifS (valB (op2 eqP (varM 2) (cM (.str ("i" : Str))))) (retM (callM F_law_number (consA (callM F_law_next (consA (varM 0) (consA (varM 1) nilA))) nilA))) nilS) (seqS (ifS (valB (op2 eqP (varM 2) (cM (.str ("w" : Str))))) (seqS (setM 3 (callM F_law_next (consA (varM 0) (consA (varM 1) nilA)))) (retM (callM F_law_word (consA (varM 3) (consA (callM F_law_next (consA (varM 0) (consA (varM 1) nilA))) nilA))))) nilS) (seqS (ifS (valB (op2 eqP (varM 2) (cM (.str ("s" : Str))))) (seqS (setM 3 (callM F_law_next (consA (varM 0) (consA (varM 1) nilA)))) (retM (callM F_law_pair (consA (varM 3) (consA (callM F_law_next (consA (varM 0) (consA (varM 1) nilA))) nilA))))) nilS) (seqS (ifS (valB (op2 eqP (varM 2) (cM (.str ("t" : Str))))) (retM (callM (F_law_note 4) (consA (varM 0) (consA (varM 1) (consA (cM (.int 2)) nilA))))) nilS) (seqS (ifS (valB (op2 eqP (varM 2) (cM (.str ("-" : Str))))) (retM (cM .non)) nilS) (seqS (ifS (valB (op2 eqP (op2s ixS (varM 2) (cM (.int 0))) (cM (.str ("or" : Str))))) (seqS (setM 3 (callM F_law_next (consA (varM 0) (consA (varM 1) nilA)))) (retM (callM F (consA (varM 0) (consA (varM 1) (consA (op2s ixS (varM 2) (op2 addP (cM (.int 1)) (op2 modP (call1 intF (consA (varM 3) nilA)) (cM (.int 2))))) nilA)))))) nilS) (seqS (ifS (valB (op2 eqP (op2s ixS (varM 2) (cM (.int 0))) (cM (.str ("any" : Str))))) (seqS (setM 4 (op2 modP (call1 intF (consA (callM F_law_next (consA (varM 0) (consA (varM 1) nilA))) nilA)) (cM (.int 4)))) (retM (call1 tupleF (consA (lcM (rng1I (varM 4)) (.one 6) yesB (callM F (consA (varM 0) (consA (varM 1) (consA (op2s ixS (varM 2) (cM (.int 1))) nilA)))) [6]) nilA)))) nilS) (retM (call1 tupleF (consA (lcM (seqI (slM (varM 2) (someO (cM (.int 1))) noO)) (.one 5) yesB (callM F (consA (varM 0) (consA (varM 1) (consA (varM 5) nilA)))) [5]) nilA))))))))))
def F_law_made : Nat → Fn
  | 0 => fun _ _ => .bad
  | k + 1 => fnM 3 7 (b_law_made (F_law_made k))
theorem ar_law_made : ∀ k, Ar 3 (F_law_made k)
  | 0 => ar_bad
  | k + 1 => ar_fn
def b_law_pick : MS := (retM (op2 modP (call1 intF (consA (op2 divP (op2s ixS (varM 0) (varM 1)) (varM 3)) nilA)) (varM 2)))
def F_law_pick : Fn := fnM 4 4 b_law_pick
theorem ar_law_pick : Ar 4 F_law_pick := ar_fn
def b_law_pool : MS := (seqS (setM 1 (cM (.str ("3141592653589793238462643383279502884197169399375105820974944" : Str)))) (seqS (setM 2 (lstM nilA)) (seqS (forS (rng1I (call1 minF (consA (call1 lenF (consA (varM 0) nilA)) (consA (cM (.int 63)) nilA)))) (nameG 3) (seqS (setM 4 (call1 absF (consA (op2s ixS (varM 0) (varM 3)) nilA))) (ifS (valB (op2 geP (varM 4) (op2 powP (cM (.int 10)) (cM (.int 18))))) (seqS (setM 4 (op2 modP (call1 intF (consA (varM 4) nilA)) (op2 powP (cM (.int 720720)) (cM (.int 60))))) (forS (rng1I (cM (.int 60))) (nameG 5) (ifS (valB (op2 gtP (varM 4) (cM (.int 0)))) (seqS (exprM (lmM appF (varM 2) (consA (op2 modP (call1 intF (consA (varM 4) nilA)) (cM (.int 720720))) nilA))) (setM 4 (op2 divP (varM 4) (cM (.int 720720))))) nilS))) (seqS (setM 4 (op2 addP (op2 addP (op2 mulP (cM (.int 2)) (varM 4)) (call1 intF (consA (op2 ltP (op2s ixS (varM 0) (varM 3)) (cM (.int 0))) nilA))) (op2 mulP (cM (.int 9)) (varM 3)))) (forS (rng1I (cM (.int 3))) (nameG 5) (seqS (setM 6 (op2 powP (op2 addP (op2 addP (op2 mulP (varM 4) (cM (.int 48271))) (op2 mulP (varM 5) (cM (.int 40014)))) (cM (.int 12345))) (cM (.int 2)))) (exprM (lmM appF (varM 2) (consA (op2 divP (op2 modP (call1 intF (consA (varM 6) nilA)) (cM (.int 2147483647))) (cM (.int 97))) nilA))))))))) (seqS (setM 7 (call1 sumF (consA (varM 2) nilA))) (seqS (forS (rng1I (cM (.int 160))) (nameG 3) (seqS (setM 8 (call1 intF (consA (op2s ixS (varM 1) (op2 modP (call1 intF (consA (op2 addP (op2 addP (op2 mulP (varM 3) (cM (.int 7))) (op2 mulP (op2 divP (varM 3) (cM (.int 61))) (cM (.int 5)))) (varM 7)) nilA)) (cM (.int 61)))) nilA))) (exprM (lmM appF (varM 2) (consA (op2 addP (op2 mulP (cM (.int 10)) (varM 8)) (call1 intF (consA (op2s ixS (varM 1) (op2 modP (call1 intF (consA (op2 addP (varM 3) (op2 divP (varM 7) (cM (.int 61)))) nilA)) (cM (.int 61)))) nilA))) nilA))))) (retM (varM 2)))))))
def F_law_pool : Fn := fnM 1 9 b_law_pool
theorem ar_law_pool : Ar 1 F_law_pool := ar_fn
def b_Verdict_init : MS := (fldS okT ("words" : Str) (varM 0) (varM 1))
def F_Verdict_init : Fn := fnM 2 2 b_Verdict_init
theorem ar_Verdict_init : Ar 2 F_Verdict_init := ar_fn
def b_Broken_init : MS := (seqS (exprM (superM ("Broken" : Str) F_Verdict_init (consA (varM 1) nilA))) (fldS okT ("book" : Str) (varM 0) (varM 2)))
def F_Broken_init : Fn := fnM 3 4 b_Broken_init
theorem ar_Broken_init : Ar 3 F_Broken_init := ar_fn
def b_Kept_init : MS := (seqS (exprM (superM ("Kept" : Str) F_Verdict_init (consA (varM 1) nilA))) (fldS okT ("rows" : Str) (varM 0) (varM 2)))
def F_Kept_init : Fn := fnM 3 4 b_Kept_init
theorem ar_Kept_init : Ar 3 F_Kept_init := ar_fn
def b_PairBook_init : MS := (seqS (fldS okT ("relation" : Str) (varM 0) (varM 1)) (fldS okT ("book" : Str) (varM 0) (varM 2)))
def F_PairBook_init : Fn := fnM 3 3 b_PairBook_init
theorem ar_PairBook_init : Ar 3 F_PairBook_init := ar_fn
def b_PairTable_init : MS := (seqS (fldS okT ("relation" : Str) (varM 0) (varM 1)) (fldS okT ("rows" : Str) (varM 0) (varM 2)))
def F_PairTable_init : Fn := fnM 3 3 b_PairTable_init
theorem ar_PairTable_init : Ar 3 F_PairTable_init := ar_fn
def b_WaitBound_init : MS := (seqS (fldS okT ("hours" : Str) (varM 0) (varM 1)) (seqS (fldS okT ("name" : Str) (varM 0) (varM 2)) (seqS (fldS okT ("book" : Str) (varM 0) (varM 3)) (seqS (fldS okT ("shapes" : Str) (varM 0) (varM 4)) (fldS okT ("rows" : Str) (varM 0) (varM 5))))))
def F_WaitBound_init : Fn := fnM 6 6 b_WaitBound_init
theorem ar_WaitBound_init : Ar 6 F_WaitBound_init := ar_fn
def b_WaitRing_init : MS := (seqS (fldS okT ("name" : Str) (varM 0) (varM 1)) (seqS (fldS okT ("book" : Str) (varM 0) (varM 2)) (fldS okT ("ring" : Str) (varM 0) (varM 3))))
def F_WaitRing_init : Fn := fnM 4 4 b_WaitRing_init
theorem ar_WaitRing_init : Ar 4 F_WaitRing_init := ar_fn
def b_certificate_of_books : MS := (matchS (varM 0) [(.one (.val ("kept" : Str)), (retM (callM (newF ("Kept" : Str) F_Kept_init) (starA (varM 1) nilA)))), (.one (.val ("broken" : Str)), (retM (callM (newF ("Broken" : Str) F_Broken_init) (starA (varM 1) nilA)))), (.one (.val ("wait" : Str)), (retM (callM (newF ("WaitBound" : Str) F_WaitBound_init) (starA (varM 1) nilA)))), (.one (.val ("ring" : Str)), (retM (callM (newF ("WaitRing" : Str) F_WaitRing_init) (starA (varM 1) nilA)))), (.one (.val ("pairs" : Str)), (retM (callM (newF ("PairTable" : Str) F_PairTable_init) (starA (varM 1) nilA)))), (.one (.cap 2), (retM (callM (newF ("PairBook" : Str) F_PairBook_init) (starA (varM 1) nilA))))])
def F_certificate_of_books : Fn := fnM 2 3 b_certificate_of_books
theorem ar_certificate_of_books : Ar 2 F_certificate_of_books := ar_fn
def b_Frail_init : MS := (seqS (fldS okT ("machines" : Str) (varM 0) (varM 1)) (fldS okT ("node" : Str) (varM 0) (varM 2)))
def F_Frail_init : Fn := fnM 3 3 b_Frail_init
theorem ar_Frail_init : Ar 3 F_Frail_init := ar_fn
def b_MovePlan_init : MS := (seqS (fldS okT ("machine" : Str) (varM 0) (varM 1)) (fldS okT ("moves" : Str) (varM 0) (varM 2)))
def F_MovePlan_init : Fn := fnM 3 3 b_MovePlan_init
theorem ar_MovePlan_init : Ar 3 F_MovePlan_init := ar_fn
def b_Stuck_init : MS := (seqS (fldS okT ("machine" : Str) (varM 0) (varM 1)) (fldS okT ("places" : Str) (varM 0) (varM 2)))
def F_Stuck_init : Fn := fnM 3 3 b_Stuck_init
theorem ar_Stuck_init : Ar 3 F_Stuck_init := ar_fn
def b_Survival_init : MS := (fldS okT ("rows" : Str) (varM 0) (varM 1))
def F_Survival_init : Fn := fnM 2 2 b_Survival_init
theorem ar_Survival_init : Ar 2 F_Survival_init := ar_fn
def b_read_share : MS := (seqS (asgM (tupG 2 (consG (nameG 1) (consG (nameG 2) nilG))) (varM 0)) (seqS (ifS (valB (op2 ltP (varM 2) (cM (.int 1)))) (raiseM ("BadCertificate" : Str) ("subject" : Str) (cM (.str ("levels" : Str)))) nilS) (seqS (setM 3 (callM (newF ("Share" : Str) F_Share_init) (consA (varM 1) (consA (varM 2) nilA)))) (seqS (ifS (valB (op2 neP (fldM okT ("bottom" : Str) (varM 3)) (varM 2))) (raiseM ("BadCertificate" : Str) ("subject" : Str) (cM (.str ("levels" : Str)))) nilS) (retM (varM 3))))))
def F_read_share : Fn := fnM 1 4 b_read_share
theorem ar_read_share : Ar 1 F_read_share := ar_fn
def b_read_levels : MS := (seqS (setM 5 (lstM nilA)) (seqS (forS (seqI (varM 4)) (tupG 3 (consG (nameG 6) (consG (nameG 7) (consG (nameG 8) nilG)))) (seqS (setM 9 (cM .non)) (seqS (ifS (valB (op2 notNP (varM 8) (cM .non))) (setM 9 (callM F_read_share (consA (varM 8) nilA))) nilS) (exprM (lmM appF (varM 5) (consA (tupM (consA (varM 6) (consA (varM 7) (consA (varM 9) nilA)))) nilA)))))) (seqS (setM 10 (call1 tupleF (consA (lcXM (seqI (varM 3)) (.one 8) (callM F_read_share (consA (varM 8) nilA)) [8]) nilA))) (retM (callM (newF ("Levels" : Str) F_Levels_init) (consA (varM 0) (consA (callM F_read_share (consA (varM 1) nilA)) (consA (varM 2) (consA (varM 10) (consA (call1 tupleF (consA (varM 5) nilA)) nilA))))))))))
def F_read_levels : Fn := fnM 5 11 b_read_levels
theorem ar_read_levels : Ar 5 F_read_levels := ar_fn
def b_certificate_of_states : MS := (matchS (varM 0) [(.one (.val ("shortage" : Str)), (retM (callM (newF ("Shortage" : Str) F_Shortage_init) (starA (varM 1) nilA)))), (.one (.val ("packing" : Str)), (retM (callM (newF ("Packing" : Str) F_Packing_init) (starA (varM 1) nilA)))), (.one (.val ("tree" : Str)), (retM (callM (newF ("CaseTree" : Str) F_CaseTree_init) (starA (varM 1) nilA)))), (.one (.val ("levels" : Str)), (retM (callM F_read_levels (starA (varM 1) nilA)))), (.one (.val ("floors" : Str)), (retM (callM (newF ("FloorPlan" : Str) F_FloorPlan_init) (starA (varM 1) nilA)))), (.one (.val ("crowded" : Str)), (retM (callM (newF ("Crowded" : Str) F_Crowded_init) (starA (varM 1) nilA)))), (.one (.val ("settled" : Str)), (retM (callM (newF ("Settlement" : Str) F_Settlement_init) (starA (varM 1) (consA (cM .non) nilA))))), (.one (.val ("quote" : Str)), (retM (callM (newF ("Quote" : Str) F_Quote_init) (starA (varM 1) nilA)))), (.one (.val ("no-quote" : Str)), (retM (callM (newF ("NoQuote" : Str) F_NoQuote_init) (starA (varM 1) nilA)))), (.one (.val ("blockers" : Str)), (retM (callM (newF ("Blockers" : Str) F_Blockers_init) (starA (varM 1) nilA)))), (.one (.val ("survival" : Str)), (retM (callM (newF ("Survival" : Str) F_Survival_init) (starA (varM 1) nilA)))), (.one (.val ("frail" : Str)), (retM (callM (newF ("Frail" : Str) F_Frail_init) (starA (varM 1) nilA)))), (.one (.val ("moves" : Str)), (retM (callM (newF ("MovePlan" : Str) F_MovePlan_init) (starA (varM 1) nilA)))), (.one (.cap 2), (retM (callM (newF ("Stuck" : Str) F_Stuck_init) (starA (varM 1) nilA))))])
def F_certificate_of_states : Fn := fnM 2 3 b_certificate_of_states
theorem ar_certificate_of_states : Ar 2 F_certificate_of_states := ar_fn
def b_has_form (F : Fn) : MS := (seqS (matchS (varM 1) [(.seq [(.val ("int" : Str))], (retM (call1 (isiF isaT) (consA (varM 0) (consA (cM (.ty "int")) nilA))))), (.seq [(.val ("word" : Str))], (retM (call1 (isiF isaT) (consA (varM 0) (consA (cM (.ty "str")) nilA))))), (.seq [(.val ("none" : Str))], (retM (op2 isNP (varM 0) (cM .non)))), (.seq [(.val ("all" : Str)), (.cap 2)], (retM (andM (call1 (isiF isaT) (consA (varM 0) (consA (cM (.ty "tuple")) nilA))) (call1 allF (consA (lcM (seqI (varM 0)) (.one 5) yesB (callM F (consA (varM 5) (consA (varM 2) nilA))) [5]) nilA))))), (.seqS [(.val ("row" : Str)), (.cap 3)], (seqS (ifS (orB (notB (valB (call1 (isiF isaT) (consA (varM 0) (consA (cM (.ty "tuple")) nilA))))) (valB (op2 neP (call1 lenF (consA (varM 0) nilA)) (call1 lenF (consA (varM 3) nilA))))) (retM (cM (.bl false))) nilS) (retM (call1 allF (consA (lcM (zipI (varM 0) (varM 3)) (.many [5, 6]) yesB (callM F (consA (varM 5) (consA (varM 6) nilA))) [5, 6]) nilA))))), (.seqS [(.val ("or" : Str)), (.cap 4)], (retM (call1 anyF (consA (lcM (seqI (varM 4)) (.one 7) yesB (callM F (consA (varM 0) (consA (varM 7) nilA))) [7]) nilA))))]) (retM (op2 eqP (varM 1) (tupM (consA (cM (.str ("any" : Str))) nilA)))))
def F_has_form : Nat → Fn
  | 0 => fun _ _ => .bad
  | k + 1 => fnM 2 8 (b_has_form (F_has_form k))
theorem ar_has_form : ∀ k, Ar 2 (F_has_form k)
  | 0 => ar_bad
  | k + 1 => ar_fn
def b_close_row : MS := (seqS (setM 1 (popM (varM 0))) (exprM (lmM appF (op2s ixS (varM 0) (op1 negP (cM (.int 1)))) (consA (call1 tupleF (consA (varM 1) nilA)) nilA))))
def F_close_row : Fn := fnM 1 2 b_close_row
theorem ar_close_row : Ar 1 F_close_row := ar_fn
def b_goes_on : MS := (seqS (ifS (valB (op2 inP (op2s ixS (varM 0) (cM (.int 0))) (cM (.str ("abcdefghijklmnopqrstuvwxyz" : Str))))) (retM (andM (op2 inP (varM 1) (cM (.str ("abcdefghijklmnopqrstuvwxyz0123456789-:" : Str)))) (op2 ltP (call1 lenF (consA (varM 0) nilA)) (cM (.int 24))))) nilS) (seqS (ifS (valB (op2 eqP (varM 0) (cM (.str ("-" : Str))))) (retM (andM (op2 inP (varM 1) (cM (.str ("0123456789" : Str)))) (op2 neP (varM 1) (cM (.str ("0" : Str)))))) nilS) (seqS (ifS (valB (op2 eqP (varM 0) (cM (.str ("0" : Str))))) (retM (cM (.bl false))) nilS) (retM (andM (op2 inP (varM 1) (cM (.str ("0123456789" : Str)))) (op2 ltP (call1 lenF (consA (sm1 rmpP (varM 0) (cM (.str ("-" : Str)))) nilA)) (cM (.int 200))))))))
def F_goes_on : Fn := fnM 2 2 b_goes_on
theorem ar_goes_on : Ar 2 F_goes_on := ar_fn
def b_token_note : MS := (seqS (ifS (valB (op2 eqP (varM 0) (cM (.str ("-" : Str))))) (retM (cM .non)) nilS) (seqS (ifS (valB (op2 inP (op2s ixS (varM 0) (cM (.int 0))) (cM (.str ("abcdefghijklmnopqrstuvwxyz" : Str))))) (retM (varM 0)) nilS) (retM (call1 intF (consA (varM 0) nilA)))))
def F_token_note : Fn := fnM 1 1 b_token_note
theorem ar_token_note : Ar 1 F_token_note := ar_fn
def b_read_note : MS := (seqS (setM 1 (lstM (consA (lstM nilA) nilA))) (seqS (setM 2 (cM (.str ("" : Str)))) (seqS (setM 3 (cM (.str ("start" : Str)))) (seqS (forS (enumI (varM 0)) (tupG 2 (consG (nameG 4) (consG (nameG 5) nilG))) (seqS (setM 6 (op2 gtP (call1 lenF (consA (varM 1) nilA)) (cM (.int 1)))) (ifS (andB (valB (op2 eqP (varM 3) (cM (.str ("token" : Str))))) (valB (callM F_goes_on (consA (varM 2) (consA (varM 5) nilA))))) (setM 2 (op2 addP (varM 2) (varM 5))) (ifS (andB (valB (op2 inP (varM 3) (tupM (consA (cM (.str ("token" : Str))) (consA (cM (.str ("item" : Str))) nilA))))) (andB (valB (varM 6)) (valB (op2 inP (varM 5) (cM (.str (" )" : Str))))))) (seqS (ifS (valB (op2 eqP (varM 3) (cM (.str ("token" : Str))))) (exprM (lmM appF (op2s ixS (varM 1) (op1 negP (cM (.int 1)))) (consA (callM F_token_note (consA (varM 2) nilA)) nilA))) nilS) (seqS (setM 3 (cM (.str ("space" : Str)))) (ifS (valB (op2 eqP (varM 5) (cM (.str (")" : Str))))) (seqS (exprM (callM F_close_row (consA (varM 1) nilA))) (setM 3 (cM (.str ("item" : Str))))) nilS))) (ifS (andB (valB (op2 eqP (varM 3) (cM (.str ("bracket" : Str))))) (valB (op2 eqP (varM 5) (cM (.str (")" : Str)))))) (seqS (exprM (callM F_close_row (consA (varM 1) nilA))) (setM 3 (cM (.str ("item" : Str))))) (ifS (andB (valB (op2 inP (varM 3) (tupM (consA (cM (.str ("start" : Str))) (consA (cM (.str ("bracket" : Str))) (consA (cM (.str ("space" : Str))) nilA)))))) (andB (valB (op2 eqP (varM 5) (cM (.str ("(" : Str))))) (valB (op2 leP (call1 lenF (consA (varM 1) nilA)) (cM (.int 100)))))) (seqS (exprM (lmM appF (varM 1) (consA (lstM nilA) nilA))) (setM 3 (cM (.str ("bracket" : Str))))) (ifS (andB (valB (op2 inP (varM 3) (tupM (consA (cM (.str ("start" : Str))) (consA (cM (.str ("bracket" : Str))) (consA (cM (.str ("space" : Str))) nilA)))))) (valB (op2 inP (varM 5) (cM (.str ("abcdefghijklmnopqrstuvwxyz0123456789-" : Str)))))) (seqS (setM 2 (varM 5)) (setM 3 (cM (.str ("token" : Str))))) (raiseM ("BadNote" : Str) ("subject" : Str) (varM 4))))))))) (seqS (ifS (valB (op2 eqP (varM 3) (cM (.str ("token" : Str))))) (exprM (lmM appF (op2s ixS (varM 1) (op1 negP (cM (.int 1)))) (consA (callM F_token_note (consA (varM 2) nilA)) nilA))) nilS) (seqS (ifS (orB (valB (op2 gtP (call1 lenF (consA (varM 1) nilA)) (cM (.int 1)))) (notB (ttM truF (op2s ixS (varM 1) (cM (.int 0)))))) (raiseM ("BadNote" : Str) ("subject" : Str) (call1 lenF (consA (varM 0) nilA))) nilS) (retM (op2s ixS (op2s ixS (varM 1) (cM (.int 0))) (cM (.int 0))))))))))
def F_read_note : Fn := fnM 1 7 b_read_note
theorem ar_read_note : Ar 1 F_read_note := ar_fn
def b_read_certificate : MS := (seqS (setM 1 (callM F_read_note (consA (varM 0) nilA))) (seqS (ifS (orB (notB (valB (call1 (isiF isaT) (consA (varM 1) (consA (cM (.ty "tuple")) nilA))))) (orB (valB (op2 eqP (varM 1) (tupM nilA))) (orB (notB (valB (call1 (isiF isaT) (consA (op2s ixS (varM 1) (cM (.int 0))) (consA (cM (.ty "str")) nilA))))) (valB (op2 (notInG ("FORMS" : Str) formsK) (op2s ixS (varM 1) (cM (.int 0))) (cM (.glo ("FORMS" : Str)))))))) (raiseM ("BadCertificate" : Str) ("subject" : Str) (cM .non)) nilS) (seqS (setM 2 (op2s ixS (varM 1) (cM (.int 0)))) (seqS (setM 3 (slM (varM 1) (someO (cM (.int 1))) noO)) (seqS (ifS (notB (valB (callM (F_has_form 8) (consA (varM 3) (consA (op2 (getG ("FORMS" : Str) formsT) (cM (.glo ("FORMS" : Str))) (varM 2)) nilA))))) (raiseM ("BadCertificate" : Str) ("subject" : Str) (varM 2)) nilS) (seqS (ifS (valB (op2 inP (varM 2) (tupM (consA (cM (.str ("kept" : Str))) (consA (cM (.str ("broken" : Str))) (consA (cM (.str ("wait" : Str))) (consA (cM (.str ("ring" : Str))) (consA (cM (.str ("pairs" : Str))) (consA (cM (.str ("parted" : Str))) nilA))))))))) (retM (callM F_certificate_of_books (consA (varM 2) (consA (varM 3) nilA)))) nilS) (retM (callM F_certificate_of_states (consA (varM 2) (consA (varM 3) nilA))))))))))
def F_read_certificate : Fn := fnM 1 4 b_read_certificate
theorem ar_read_certificate : Ar 1 F_read_certificate := ar_fn
def b_law_read : MS := (tryM exmT ("subject" : Str) (retM (tupM (consA (cM (.int 0)) (consA (callM F_read_certificate (consA (varM 0) nilA)) nilA)))) [⟨("BadCertificate" : Str), 1, 1⟩, ⟨("BadNote" : Str), 2, 1⟩])
def F_law_read : Fn := fnM 1 2 b_law_read
theorem ar_law_read : Ar 1 F_law_read := ar_fn
def b_law_bad : MS := (seqS (ifS (valB (op2 eqP (varM 0) (cM (.str ("i" : Str))))) (retM (cM (.str ("no" : Str)))) nilS) (seqS (ifS (valB (op2 eqP (varM 0) (tupM (consA (cM (.str ("or" : Str))) (consA (cM (.str ("i" : Str))) (consA (cM (.str ("w" : Str))) nilA)))))) (retM (cM .non)) nilS) (retM (cM (.int 7)))))
def F_law_bad : Fn := fnM 1 1 b_law_bad
theorem ar_law_bad : Ar 1 F_law_bad := ar_fn
def b_law_spoilt_pair : MS := (seqS (ifS (valB (op2 eqP (op2 modP (call1 intF (consA (varM 0) nilA)) (cM (.int 5))) (cM (.int 0)))) (retM (tupM (consA (op2 mulP (op2s ixS (varM 1) (cM (.int 0))) (cM (.int 3))) (consA (op2 mulP (op2s ixS (varM 1) (cM (.int 1))) (cM (.int 3))) nilA)))) nilS) (seqS (ifS (valB (op2 eqP (op2 modP (call1 intF (consA (varM 0) nilA)) (cM (.int 5))) (cM (.int 1)))) (retM (tupM (consA (op2s ixS (varM 1) (cM (.int 0))) (consA (cM (.int 0)) nilA)))) nilS) (seqS (ifS (valB (op2 eqP (op2 modP (call1 intF (consA (varM 0) nilA)) (cM (.int 5))) (cM (.int 2)))) (retM (tupM (consA (op1 negP (op2s ixS (varM 1) (cM (.int 0)))) (consA (op1 negP (op2s ixS (varM 1) (cM (.int 1)))) nilA)))) nilS) (seqS (ifS (valB (op2 eqP (op2 modP (call1 intF (consA (varM 0) nilA)) (cM (.int 5))) (cM (.int 3)))) (retM (tupM (consA (op2s ixS (varM 1) (cM (.int 0))) (consA (cM (.str ("no" : Str))) nilA)))) nilS) (retM (slM (varM 1) noO (someO (op1 negP (cM (.int 1))))))))))
def F_law_spoilt_pair : Fn := fnM 2 2 b_law_spoilt_pair
theorem ar_law_spoilt_pair : Ar 2 F_law_spoilt_pair := ar_fn
def b_law_spoilt (F : Fn) : MS := (seqS (setM 3 (op2 divP (varM 0) (cM (.int 4)))) (seqS (ifS (orB (valB (op2 eqP (op2 modP (call1 intF (consA (varM 0) nilA)) (cM (.int 4))) (cM (.int 0)))) (orB (valB (op2 inP (varM 1) (flsM (consA (cM (.str ("i" : Str))) (consA (cM (.str ("w" : Str))) (consA (cM (.str ("t" : Str))) nilA)))))) (valB (op2 isNP (varM 2) (cM .non))))) (retM (callM F_law_bad (consA (varM 1) nilA))) nilS) (seqS (ifS (valB (op2 eqP (varM 1) (cM (.str ("s" : Str))))) (retM (callM F_law_spoilt_pair (consA (varM 3) (consA (varM 2) nilA)))) nilS) (seqS (ifS (valB (op2 eqP (op2s ixS (varM 1) (cM (.int 0))) (cM (.str ("or" : Str))))) (seqS (ifS (notB (valB (call1 (isiF isaT) (consA (varM 2) (consA (cM (.ty "tuple")) nilA))))) (retM (callM F_law_bad (consA (varM 1) nilA))) nilS) (retM (callM F (consA (varM 0) (consA (op2s ixS (varM 1) (cM (.int 1))) (consA (varM 2) nilA)))))) nilS) (seqS (ifS (andB (valB (op2 eqP (op2s ixS (varM 1) (cM (.int 0))) (cM (.str ("any" : Str))))) (orB (valB (op2 eqP (op2 modP (call1 intF (consA (varM 0) nilA)) (cM (.int 4))) (cM (.int 1)))) (valB (op2 eqP (varM 2) (tupM nilA))))) (retM (op2 addP (varM 2) (tupM (consA (callM F_law_bad (consA (op2s ixS (varM 1) (cM (.int 1))) nilA)) nilA)))) nilS) (seqS (ifS (andB (valB (op2 eqP (op2s ixS (varM 1) (cM (.int 0))) (cM (.str ("row" : Str))))) (valB (op2 eqP (op2 modP (call1 intF (consA (varM 0) nilA)) (cM (.int 4))) (cM (.int 1))))) (retM (slM (varM 2) noO (someO (op1 negP (cM (.int 1)))))) nilS) (seqS (setM 4 (op2 modP (call1 intF (consA (varM 3) nilA)) (call1 lenF (consA (varM 2) nilA)))) (seqS (setM 5 (op2s ixS (varM 1) (cM (.int 1)))) (seqS (ifS (valB (op2 eqP (op2s ixS (varM 1) (cM (.int 0))) (cM (.str ("row" : Str))))) (setM 5 (op2s ixS (varM 1) (op2 addP (cM (.int 1)) (varM 4)))) nilS) (seqS (setM 6 (callM F (consA (op2 divP (varM 3) (call1 lenF (consA (varM 2) nilA))) (consA (varM 5) (consA (op2s ixS (varM 2) (varM 4)) nilA))))) (retM (op2 addP (op2 addP (slM (varM 2) noO (someO (varM 4))) (tupM (consA (varM 6) nilA))) (slM (varM 2) (someO (op2 addP (varM 4) (cM (.int 1)))) noO)))))))))))))
def F_law_spoilt : Nat → Fn
  | 0 => fun _ _ => .bad
  | k + 1 => fnM 3 7 (b_law_spoilt (F_law_spoilt k))
theorem ar_law_spoilt : ∀ k, Ar 3 (F_law_spoilt k)
  | 0 => ar_bad
  | k + 1 => ar_fn
def b_law_text (F : Fn) : MS := (seqS (ifS (valB (op2 isNP (varM 0) (cM .non))) (retM (cM (.str ("-" : Str)))) nilS) (seqS (ifS (valB (call1 (isiF isaT) (consA (varM 0) (consA (cM (.ty "tuple")) nilA)))) (retM (op2 addP (op2 addP (cM (.str ("(" : Str))) (sm1 joinP (cM (.str (" " : Str))) (lcM (seqI (varM 0)) (.one 1) yesB (callM F (consA (varM 1) nilA)) [1]))) (cM (.str (")" : Str))))) nilS) (retM (call1 strF (consA (varM 0) nilA)))))
def F_law_text : Nat → Fn
  | 0 => fun _ _ => .bad
  | k + 1 => fnM 1 2 (b_law_text (F_law_text k))
theorem ar_law_text : ∀ k, Ar 1 (F_law_text k)
  | 0 => ar_bad
  | k + 1 => ar_fn
def b_law_refused : MS := (seqS (setM 3 (op2s ixS (varM 2) (cM (.int 0)))) (seqS (setM 4 (op2 addP (cM (.int 1)) (callM (moreF [.int 1] F_law_pick) (consA (varM 0) (consA (cM (.int 1)) (consA (op2 subP (call1 lenF (consA (varM 2) nilA)) (cM (.int 1))) nilA)))))) (seqS (setM 5 (callM (F_law_spoilt 8) (consA (op2s ixS (varM 0) (cM (.int 2))) (consA (op2s ixS (varM 1) (varM 4)) (consA (op2s ixS (varM 2) (varM 4)) nilA))))) (seqS (setM 6 (op2 addP (op2 addP (slM (varM 2) noO (someO (varM 4))) (tupM (consA (varM 5) nilA))) (slM (varM 2) (someO (op2 addP (varM 4) (cM (.int 1)))) noO))) (seqS (forS (seqI (flsM (consA (varM 6) (consA (slM (varM 2) noO (someO (op1 negP (cM (.int 1))))) (consA (op2 addP (varM 2) (tupM (consA (callM (moreF [.int 1] F_law_pick) (consA (varM 0) (consA (cM (.int 3)) (consA (cM (.int 9)) nilA)))) nilA))) nilA))))) (nameG 7) (ifS (valB (op2 neP (callM F_law_read (consA (callM (F_law_text 60) (consA (varM 7) nilA)) nilA)) (tupM (consA (cM (.int 1)) (consA (varM 3) nilA))))) (retM (cM (.bl false))) nilS)) (seqS (setM 8 (lstM (consA (cM (.int 7)) (consA (varM 3) (consA (cM .non) (consA (tupM nilA) (consA (tupM (consA (cM (.int 7)) (consA (varM 3) nilA))) (consA (tupM (consA (cM .non) nilA)) (consA (tupM (consA (varM 2) nilA)) nilA))))))))) (seqS (exprM (lmM appF (varM 8) (consA (tupM (consA (op2 addP (varM 3) (cM (.str ("s" : Str)))) (consA (cM (.int 1)) nilA))) nilA))) (seqS (setM 8 (op2s ixS (varM 8) (callM (moreF [.int 1] F_law_pick) (consA (varM 0) (consA (cM (.int 4)) (consA (cM (.int 8)) nilA)))))) (seqS (ifS (valB (op2 neP (callM F_law_read (consA (callM (F_law_text 60) (consA (varM 8) nilA)) nilA)) (tupM (consA (cM (.int 1)) (consA (cM .non) nilA))))) (retM (cM (.bl false))) nilS) (seqS (setM 9 (callM (F_law_text 60) (consA (varM 2) nilA))) (seqS (ifS (valB (op2 neP (callM F_law_read (consA (slM (varM 9) noO (someO (op1 negP (cM (.int 1))))) nilA)) (tupM (consA (cM (.int 2)) (consA (op2 subP (call1 lenF (consA (varM 9) nilA)) (cM (.int 1))) nilA))))) (retM (cM (.bl false))) nilS) (retM (op2 eqP (callM F_law_read (consA (op2 addP (varM 9) (op2s ixS (cM (.str (") " : Str))) (callM (moreF [.int 1] F_law_pick) (consA (varM 0) (consA (cM (.int 5)) (consA (cM (.int 2)) nilA)))))) nilA)) (tupM (consA (cM (.int 2)) (consA (call1 lenF (consA (varM 9) nilA)) nilA))))))))))))))))
def F_law_refused : Fn := fnM 3 10 b_law_refused
theorem ar_law_refused : Ar 3 F_law_refused := ar_fn
def b_Blockers_note : MS := (retM (tupM (consA (cM (.str ("blockers" : Str))) (consA (fldM okT ("template" : Str) (varM 0)) (consA (fldM okT ("hour" : Str) (varM 0)) (consA (fldM okT ("rows" : Str) (varM 0)) nilA))))))
def F_Blockers_note : Fn := fnM 1 1 b_Blockers_note
theorem ar_Blockers_note : Ar 1 F_Blockers_note := ar_fn
def b_Broken_note : MS := (retM (tupM (consA (cM (.str ("broken" : Str))) (consA (fldM okT ("words" : Str) (varM 0)) (consA (fldM okT ("book" : Str) (varM 0)) nilA)))))
def F_Broken_note : Fn := fnM 1 1 b_Broken_note
theorem ar_Broken_note : Ar 1 F_Broken_note := ar_fn
def b_CaseTree_note : MS := (retM (tupM (consA (cM (.str ("tree" : Str))) (consA (fldM okT ("node" : Str) (varM 0)) nilA))))
def F_CaseTree_note : Fn := fnM 1 1 b_CaseTree_note
theorem ar_CaseTree_note : Ar 1 F_CaseTree_note := ar_fn
def b_Crowded_note : MS := (retM (tupM (consA (cM (.str ("crowded" : Str))) (consA (fldM okT ("lot" : Str) (varM 0)) (consA (fldM okT ("node" : Str) (varM 0)) nilA)))))
def F_Crowded_note : Fn := fnM 1 1 b_Crowded_note
theorem ar_Crowded_note : Ar 1 F_Crowded_note := ar_fn
def b_FloorPlan_note : MS := (retM (tupM (consA (cM (.str ("floors" : Str))) (consA (fldM okT ("rows" : Str) (varM 0)) nilA))))
def F_FloorPlan_note : Fn := fnM 1 1 b_FloorPlan_note
theorem ar_FloorPlan_note : Ar 1 F_FloorPlan_note := ar_fn
def b_Frail_note : MS := (retM (tupM (consA (cM (.str ("frail" : Str))) (consA (fldM okT ("machines" : Str) (varM 0)) (consA (fldM okT ("node" : Str) (varM 0)) nilA)))))
def F_Frail_note : Fn := fnM 1 1 b_Frail_note
theorem ar_Frail_note : Ar 1 F_Frail_note := ar_fn
def b_Kept_note : MS := (retM (tupM (consA (cM (.str ("kept" : Str))) (consA (fldM okT ("words" : Str) (varM 0)) (consA (fldM okT ("rows" : Str) (varM 0)) nilA)))))
def F_Kept_note : Fn := fnM 1 1 b_Kept_note
theorem ar_Kept_note : Ar 1 F_Kept_note := ar_fn
def b_share_note : MS := (seqS (ifS (valB (op2 isNP (varM 0) (cM .non))) (retM (cM .non)) nilS) (retM (tupM (consA (fldM okT ("top" : Str) (varM 0)) (consA (fldM okT ("bottom" : Str) (varM 0)) nilA)))))
def F_share_note : Fn := fnM 1 1 b_share_note
theorem ar_share_note : Ar 1 F_share_note := ar_fn
def b_Levels_note : MS := (seqS (setM 1 (call1 tupleF (consA (lcM (seqI (fldM okT ("shares" : Str) (varM 0))) (.one 3) yesB (callM F_share_note (consA (varM 3) nilA)) [3]) nilA))) (seqS (setM 2 (call1 tupleF (consA (lcM (seqI (fldM okT ("rows" : Str) (varM 0))) (.many [4, 5, 6]) yesB (tupM (consA (varM 4) (consA (varM 5) (consA (callM F_share_note (consA (varM 6) nilA)) nilA)))) [4, 5, 6]) nilA))) (retM (tupM (consA (cM (.str ("levels" : Str))) (consA (fldM okT ("resource" : Str) (varM 0)) (consA (callM F_share_note (consA (fldM okT ("amount" : Str) (varM 0)) nilA)) (consA (fldM okT ("wanted" : Str) (varM 0)) (consA (varM 1) (consA (varM 2) nilA))))))))))
def F_Levels_note : Fn := fnM 1 7 b_Levels_note
theorem ar_Levels_note : Ar 1 F_Levels_note := ar_fn
def b_MovePlan_note : MS := (retM (tupM (consA (cM (.str ("moves" : Str))) (consA (fldM okT ("machine" : Str) (varM 0)) (consA (fldM okT ("moves" : Str) (varM 0)) nilA)))))
def F_MovePlan_note : Fn := fnM 1 1 b_MovePlan_note
theorem ar_MovePlan_note : Ar 1 F_MovePlan_note := ar_fn
def b_No_holds : MS := (retM (cM (.bl false)))
def F_No_holds : Fn := fnM 1 1 b_No_holds
theorem ar_No_holds : Ar 1 F_No_holds := ar_fn
def b_NoQuote_note : MS := (retM (tupM (consA (cM (.str ("no-quote" : Str))) (consA (fldM okT ("template" : Str) (varM 0)) (consA (fldM okT ("refusals" : Str) (varM 0)) nilA)))))
def F_NoQuote_note : Fn := fnM 1 1 b_NoQuote_note
theorem ar_NoQuote_note : Ar 1 F_NoQuote_note := ar_fn
def b_Packing_note : MS := (retM (tupM (consA (cM (.str ("packing" : Str))) (consA (fldM okT ("places" : Str) (varM 0)) nilA))))
def F_Packing_note : Fn := fnM 1 1 b_Packing_note
theorem ar_Packing_note : Ar 1 F_Packing_note := ar_fn
def b_PairBook_note : MS := (retM (tupM (consA (cM (.str ("parted" : Str))) (consA (fldM okT ("relation" : Str) (varM 0)) (consA (fldM okT ("book" : Str) (varM 0)) nilA)))))
def F_PairBook_note : Fn := fnM 1 1 b_PairBook_note
theorem ar_PairBook_note : Ar 1 F_PairBook_note := ar_fn
def b_PairTable_note : MS := (retM (tupM (consA (cM (.str ("pairs" : Str))) (consA (fldM okT ("relation" : Str) (varM 0)) (consA (fldM okT ("rows" : Str) (varM 0)) nilA)))))
def F_PairTable_note : Fn := fnM 1 1 b_PairTable_note
theorem ar_PairTable_note : Ar 1 F_PairTable_note := ar_fn
def b_Quote_note : MS := (retM (tupM (consA (cM (.str ("quote" : Str))) (consA (fldM okT ("template" : Str) (varM 0)) (consA (fldM okT ("hour" : Str) (varM 0)) (consA (fldM okT ("places" : Str) (varM 0)) (consA (fldM okT ("refusals" : Str) (varM 0)) nilA)))))))
def F_Quote_note : Fn := fnM 1 1 b_Quote_note
theorem ar_Quote_note : Ar 1 F_Quote_note := ar_fn
def b_Settlement_note : MS := (retM (tupM (consA (cM (.str ("settled" : Str))) (consA (fldM okT ("rows" : Str) (varM 0)) (consA (fldM okT ("deeds" : Str) (varM 0)) (consA (fldM okT ("hold" : Str) (varM 0)) nilA))))))
def F_Settlement_note : Fn := fnM 1 1 b_Settlement_note
theorem ar_Settlement_note : Ar 1 F_Settlement_note := ar_fn
def b_Shortage_note : MS := (retM (tupM (consA (cM (.str ("shortage" : Str))) (consA (fldM okT ("gang" : Str) (varM 0)) (consA (fldM okT ("start" : Str) (varM 0)) (consA (fldM okT ("end" : Str) (varM 0)) (consA (fldM okT ("rows" : Str) (varM 0)) nilA)))))))
def F_Shortage_note : Fn := fnM 1 1 b_Shortage_note
theorem ar_Shortage_note : Ar 1 F_Shortage_note := ar_fn
def b_Stuck_note : MS := (retM (tupM (consA (cM (.str ("stuck" : Str))) (consA (fldM okT ("machine" : Str) (varM 0)) (consA (fldM okT ("places" : Str) (varM 0)) nilA)))))
def F_Stuck_note : Fn := fnM 1 1 b_Stuck_note
theorem ar_Stuck_note : Ar 1 F_Stuck_note := ar_fn
def b_Survival_note : MS := (retM (tupM (consA (cM (.str ("survival" : Str))) (consA (fldM okT ("rows" : Str) (varM 0)) nilA))))
def F_Survival_note : Fn := fnM 1 1 b_Survival_note
theorem ar_Survival_note : Ar 1 F_Survival_note := ar_fn
def b_WaitBound_note : MS := (retM (tupM (consA (cM (.str ("wait" : Str))) (consA (fldM okT ("hours" : Str) (varM 0)) (consA (fldM okT ("name" : Str) (varM 0)) (consA (fldM okT ("book" : Str) (varM 0)) (consA (fldM okT ("shapes" : Str) (varM 0)) (consA (fldM okT ("rows" : Str) (varM 0)) nilA))))))))
def F_WaitBound_note : Fn := fnM 1 1 b_WaitBound_note
theorem ar_WaitBound_note : Ar 1 F_WaitBound_note := ar_fn
def b_WaitRing_note : MS := (retM (tupM (consA (cM (.str ("ring" : Str))) (consA (fldM okT ("name" : Str) (varM 0)) (consA (fldM okT ("book" : Str) (varM 0)) (consA (fldM okT ("ring" : Str) (varM 0)) nilA))))))
def F_WaitRing_note : Fn := fnM 1 1 b_WaitRing_note
theorem ar_WaitRing_note : Ar 1 F_WaitRing_note := ar_fn
def b_Yes_holds : MS := (retM (cM (.bl true)))
def F_Yes_holds : Fn := fnM 1 1 b_Yes_holds
theorem ar_Yes_holds : Ar 1 F_Yes_holds := ar_fn
def b_law_flags : MS := (seqS (setM 1 (flsM (consA (call1 (isiF isaT) (consA (varM 0) (consA (cM (.glo ("Shortage" : Str))) nilA))) (consA (call1 (isiF isaT) (consA (varM 0) (consA (cM (.glo ("Packing" : Str))) nilA))) nilA)))) (seqS (setM 1 (op2 addP (varM 1) (flsM (consA (call1 (isiF isaT) (consA (varM 0) (consA (cM (.glo ("CaseTree" : Str))) nilA))) (consA (call1 (isiF isaT) (consA (varM 0) (consA (cM (.glo ("Levels" : Str))) nilA))) nilA))))) (seqS (setM 1 (op2 addP (varM 1) (flsM (consA (call1 (isiF isaT) (consA (varM 0) (consA (cM (.glo ("FloorPlan" : Str))) nilA))) (consA (call1 (isiF isaT) (consA (varM 0) (consA (cM (.glo ("Crowded" : Str))) nilA))) nilA))))) (seqS (setM 1 (op2 addP (varM 1) (flsM (consA (call1 (isiF isaT) (consA (varM 0) (consA (cM (.glo ("Settlement" : Str))) nilA))) (consA (call1 (isiF isaT) (consA (varM 0) (consA (cM (.glo ("Quote" : Str))) nilA))) nilA))))) (seqS (setM 1 (op2 addP (varM 1) (flsM (consA (call1 (isiF isaT) (consA (varM 0) (consA (cM (.glo ("NoQuote" : Str))) nilA))) (consA (call1 (isiF isaT) (consA (varM 0) (consA (cM (.glo ("Blockers" : Str))) nilA))) nilA))))) (seqS (setM 1 (op2 addP (varM 1) (flsM (consA (call1 (isiF isaT) (consA (varM 0) (consA (cM (.glo ("Survival" : Str))) nilA))) (consA (call1 (isiF isaT) (consA (varM 0) (consA (cM (.glo ("Frail" : Str))) nilA))) nilA))))) (seqS (setM 1 (op2 addP (varM 1) (flsM (consA (call1 (isiF isaT) (consA (varM 0) (consA (cM (.glo ("MovePlan" : Str))) nilA))) (consA (call1 (isiF isaT) (consA (varM 0) (consA (cM (.glo ("Stuck" : Str))) nilA))) nilA))))) (seqS (setM 1 (op2 addP (varM 1) (flsM (consA (call1 (isiF isaT) (consA (varM 0) (consA (cM (.glo ("Kept" : Str))) nilA))) (consA (call1 (isiF isaT) (consA (varM 0) (consA (cM (.glo ("Broken" : Str))) nilA))) nilA))))) (seqS (setM 1 (op2 addP (varM 1) (flsM (consA (call1 (isiF isaT) (consA (varM 0) (consA (cM (.glo ("WaitBound" : Str))) nilA))) (consA (call1 (isiF isaT) (consA (varM 0) (consA (cM (.glo ("WaitRing" : Str))) nilA))) nilA))))) (retM (op2 addP (varM 1) (flsM (consA (call1 (isiF isaT) (consA (varM 0) (consA (cM (.glo ("PairTable" : Str))) nilA))) (consA (call1 (isiF isaT) (consA (varM 0) (consA (cM (.glo ("PairBook" : Str))) nilA))) nilA))))))))))))))
def F_law_flags : Fn := fnM 1 2 b_law_flags
theorem ar_law_flags : Ar 1 F_law_flags := ar_fn
def b_law_plain (F : Fn) : MS := (seqS (ifS (valB (call1 (isiF isaT) (consA (varM 0) (consA (cM (.ty "tuple")) nilA)))) (retM (call1 allF (consA (lcM (seqI (varM 0)) (.one 1) yesB (callM F (consA (varM 1) nilA)) [1]) nilA))) nilS) (seqS (ifS (orB (valB (op2 isNP (varM 0) (cM .non))) (valB (call1 (isiF isaT) (consA (varM 0) (consA (cM (.ty "str")) nilA))))) (retM (cM (.bl true))) nilS) (retM (andM (call1 (isiF isaT) (consA (varM 0) (consA (cM (.ty "int")) nilA))) (notM (call1 (isiF isaT) (consA (varM 0) (consA (cM (.ty "bool")) nilA))))))))
def F_law_plain : Nat → Fn
  | 0 => fun _ _ => .bad
  | k + 1 => fnM 1 2 (b_law_plain (F_law_plain k))
theorem ar_law_plain : ∀ k, Ar 1 (F_law_plain k)
  | 0 => ar_bad
  | k + 1 => ar_fn
def noteL : List (Str × Fn) := [(("Shortage" : Str), F_Shortage_note), (("Settlement" : Str), F_Settlement_note), (("Packing" : Str), F_Packing_note), (("CaseTree" : Str), F_CaseTree_note), (("Survival" : Str), F_Survival_note), (("Frail" : Str), F_Frail_note), (("Levels" : Str), F_Levels_note), (("FloorPlan" : Str), F_FloorPlan_note), (("Crowded" : Str), F_Crowded_note), (("MovePlan" : Str), F_MovePlan_note), (("Stuck" : Str), F_Stuck_note), (("PairTable" : Str), F_PairTable_note), (("PairBook" : Str), F_PairBook_note), (("Quote" : Str), F_Quote_note), (("NoQuote" : Str), F_NoQuote_note), (("Blockers" : Str), F_Blockers_note), (("Kept" : Str), F_Kept_note), (("Broken" : Str), F_Broken_note), (("WaitBound" : Str), F_WaitBound_note), (("WaitRing" : Str), F_WaitRing_note)]
def noteT (C : Str) : Option Fn := noteL.lookup C
def holdsL : List (Str × Fn) := [(("Shortage" : Str), F_No_holds), (("Settlement" : Str), F_Yes_holds), (("Packing" : Str), F_Yes_holds), (("CaseTree" : Str), F_No_holds), (("Survival" : Str), F_Yes_holds), (("Frail" : Str), F_No_holds), (("Levels" : Str), F_Yes_holds), (("FloorPlan" : Str), F_Yes_holds), (("Crowded" : Str), F_No_holds), (("MovePlan" : Str), F_Yes_holds), (("Stuck" : Str), F_No_holds), (("PairTable" : Str), F_Yes_holds), (("PairBook" : Str), F_No_holds), (("Quote" : Str), F_Yes_holds), (("NoQuote" : Str), F_No_holds), (("Blockers" : Str), F_Yes_holds), (("Kept" : Str), F_Yes_holds), (("Broken" : Str), F_No_holds), (("WaitBound" : Str), F_Yes_holds), (("WaitRing" : Str), F_No_holds)]
def holdsT (C : Str) : Option Fn := holdsL.lookup C
def b_law_same : MS := (seqS (ifS (valB (op2 neP (callM F_law_flags (consA (varM 0) nilA)) (lcM (rng1I (cM (.int 20))) (.one 5) yesB (op2 eqP (varM 5) (varM 1)) [5]))) (retM (cM (.bl false))) nilS) (seqS (setM 3 (op2 inP (varM 1) (flsM (consA (cM (.int 1)) (consA (cM (.int 3)) (consA (cM (.int 4)) (consA (cM (.int 6)) (consA (cM (.int 7)) (consA (cM (.int 9)) (consA (cM (.int 10)) (consA (cM (.int 12)) (consA (cM (.int 14)) (consA (cM (.int 16)) (consA (cM (.int 18)) nilA)))))))))))))) (seqS (ifS (orB (valB (op2 neP (call1 (isiF isaT) (consA (varM 0) (consA (cM (.glo ("Yes" : Str))) nilA))) (varM 3))) (valB (op2 eqP (call1 (isiF isaT) (consA (varM 0) (consA (cM (.glo ("No" : Str))) nilA))) (varM 3)))) (retM (cM (.bl false))) nilS) (seqS (ifS (orB (notB (valB (call1 (isiF isaT) (consA (varM 0) (consA (cM (.glo ("Certificate" : Str))) nilA))))) (valB (op2 neP (methM ("holds" : Str) holdsT (varM 0)) (varM 3)))) (retM (cM (.bl false))) nilS) (seqS (setM 4 (methM ("note" : Str) noteT (varM 0))) (retM (andM (call1 (isiF isaT) (consA (varM 4) (consA (cM (.ty "tuple")) nilA))) (andM (op2 eqP (varM 4) (varM 2)) (callM (F_law_plain 60) (consA (varM 4) nilA))))))))))
def F_law_same : Fn := fnM 3 6 b_law_same
theorem ar_law_same : Ar 3 F_law_same := ar_fn
def b_law_second : MS := (seqS (ifS (valB (op2 eqP (varM 0) (cM (.str ("survival" : Str))))) (retM (callM (newF ("Survival" : Str) F_Survival_init) (consA (op2s ixS (varM 1) (cM (.int 0))) nilA))) nilS) (seqS (ifS (valB (op2 eqP (varM 0) (cM (.str ("frail" : Str))))) (retM (callM (newF ("Frail" : Str) F_Frail_init) (consA (op2s ixS (varM 1) (cM (.int 0))) (consA (op2s ixS (varM 1) (cM (.int 1))) nilA)))) nilS) (seqS (ifS (valB (op2 eqP (varM 0) (cM (.str ("moves" : Str))))) (retM (callM (newF ("MovePlan" : Str) F_MovePlan_init) (consA (op2s ixS (varM 1) (cM (.int 0))) (consA (op2s ixS (varM 1) (cM (.int 1))) nilA)))) nilS) (seqS (ifS (valB (op2 eqP (varM 0) (cM (.str ("stuck" : Str))))) (retM (callM (newF ("Stuck" : Str) F_Stuck_init) (consA (op2s ixS (varM 1) (cM (.int 0))) (consA (op2s ixS (varM 1) (cM (.int 1))) nilA)))) nilS) (seqS (ifS (valB (op2 eqP (varM 0) (cM (.str ("kept" : Str))))) (retM (callM (newF ("Kept" : Str) F_Kept_init) (consA (op2s ixS (varM 1) (cM (.int 0))) (consA (op2s ixS (varM 1) (cM (.int 1))) nilA)))) nilS) (seqS (ifS (valB (op2 eqP (varM 0) (cM (.str ("broken" : Str))))) (retM (callM (newF ("Broken" : Str) F_Broken_init) (consA (op2s ixS (varM 1) (cM (.int 0))) (consA (op2s ixS (varM 1) (cM (.int 1))) nilA)))) nilS) (seqS (ifS (valB (op2 eqP (varM 0) (cM (.str ("wait" : Str))))) (retM (callM (newF ("WaitBound" : Str) F_WaitBound_init) (consA (op2s ixS (varM 1) (cM (.int 0))) (consA (op2s ixS (varM 1) (cM (.int 1))) (consA (op2s ixS (varM 1) (cM (.int 2))) (consA (op2s ixS (varM 1) (cM (.int 3))) (consA (op2s ixS (varM 1) (cM (.int 4))) nilA))))))) nilS) (seqS (ifS (valB (op2 eqP (varM 0) (cM (.str ("ring" : Str))))) (retM (callM (newF ("WaitRing" : Str) F_WaitRing_init) (consA (op2s ixS (varM 1) (cM (.int 0))) (consA (op2s ixS (varM 1) (cM (.int 1))) (consA (op2s ixS (varM 1) (cM (.int 2))) nilA))))) nilS) (seqS (ifS (valB (op2 eqP (varM 0) (cM (.str ("pairs" : Str))))) (retM (callM (newF ("PairTable" : Str) F_PairTable_init) (consA (op2s ixS (varM 1) (cM (.int 0))) (consA (op2s ixS (varM 1) (cM (.int 1))) nilA)))) nilS) (retM (callM (newF ("PairBook" : Str) F_PairBook_init) (consA (op2s ixS (varM 1) (cM (.int 0))) (consA (op2s ixS (varM 1) (cM (.int 1))) nilA)))))))))))))
def F_law_second : Fn := fnM 2 2 b_law_second
theorem ar_law_second : Ar 2 F_law_second := ar_fn
def b_write_note (F : Fn) : MS := (seqS (ifS (valB (op2 isNP (varM 0) (cM .non))) (retM (cM (.str ("-" : Str)))) nilS) (seqS (ifS (valB (call1 (isiF isaT) (consA (varM 0) (consA (cM (.ty "tuple")) nilA)))) (seqS (setM 1 (lcM (seqI (varM 0)) (.one 2) yesB (callM F (consA (varM 2) nilA)) [2])) (retM (op2 addP (op2 addP (cM (.str ("(" : Str))) (sm1 joinP (cM (.str (" " : Str))) (varM 1))) (cM (.str (")" : Str)))))) nilS) (retM (call1 strF (consA (varM 0) nilA)))))
def F_write_note : Nat → Fn
  | 0 => fun _ _ => .bad
  | k + 1 => fnM 1 3 (b_write_note (F_write_note k))
theorem ar_write_note : ∀ k, Ar 1 (F_write_note k)
  | 0 => ar_bad
  | k + 1 => ar_fn
def b_certificate_text : MS := (retM (callM (F_write_note 60) (consA (methM ("note" : Str) noteT (varM 0)) nilA)))
def F_certificate_text : Fn := fnM 1 1 b_certificate_text
theorem ar_certificate_text : Ar 1 F_certificate_text := ar_fn
def b_law : MS := (seqS (setM 1 (callM F_law_pool (consA (varM 0) nilA))) (seqS (setM 2 (callM (moreF [.int 1] F_law_pick) (consA (varM 1) (consA (cM (.int 0)) (consA (cM (.int 20)) nilA))))) (seqS (setM 3 (op2s ixS (callM F_law_forms nilA) (varM 2))) (seqS (setM 4 (lstM (consA (cM (.int 5)) nilA))) (seqS (setM 5 (lcM (seqI (slM (varM 3) (someO (cM (.int 1))) noO)) (.one 10) yesB (callM (F_law_made 8) (consA (varM 1) (consA (varM 4) (consA (varM 10) nilA)))) [10])) (seqS (setM 6 (op2 addP (tupM (consA (op2s ixS (varM 3) (cM (.int 0))) nilA)) (call1 tupleF (consA (varM 5) nilA)))) (seqS (ifS (valB (op2 ltP (varM 2) (cM (.int 10)))) (setM 7 (callM F_law_first (consA (op2s ixS (varM 3) (cM (.int 0))) (consA (varM 5) nilA)))) (setM 7 (callM F_law_second (consA (op2s ixS (varM 3) (cM (.int 0))) (consA (varM 5) nilA))))) (seqS (ifS (notB (valB (callM F_law_same (consA (varM 7) (consA (varM 2) (consA (varM 6) nilA)))))) (retM (cM (.bl false))) nilS) (seqS (setM 8 (callM F_certificate_text (consA (varM 7) nilA))) (seqS (ifS (orB (notB (valB (call1 (isiF isaT) (consA (varM 8) (consA (cM (.ty "str")) nilA))))) (valB (op2 neP (varM 8) (callM (F_law_text 60) (consA (varM 6) nilA))))) (retM (cM (.bl false))) nilS) (seqS (setM 9 (callM F_law_read (consA (varM 8) nilA))) (seqS (ifS (orB (valB (op2 neP (op2s ixS (varM 9) (cM (.int 0))) (cM (.int 0)))) (notB (valB (callM F_law_same (consA (op2s ixS (varM 9) (cM (.int 1))) (consA (varM 2) (consA (varM 6) nilA))))))) (retM (cM (.bl false))) nilS) (seqS (ifS (andB (valB (op2 eqP (varM 2) (cM (.int 6)))) (valB (op2 notNP (fldM okT ("after" : Str) (op2s ixS (varM 9) (cM (.int 1)))) (cM .non)))) (retM (cM (.bl false))) nilS) (seqS (ifS (valB (op2 neP (callM F_certificate_text (consA (op2s ixS (varM 9) (cM (.int 1))) nilA)) (varM 8))) (retM (cM (.bl false))) nilS) (retM (callM F_law_refused (consA (varM 1) (consA (varM 3) (consA (varM 6) nilA)))))))))))))))))))
def F_law : Fn := fnM 1 11 b_law
theorem ar_law : Ar 1 F_law := ar_fn
end K97

set_option Elab.async false
set_option linter.all false
set_option maxRecDepth 100000
set_option maxHeartbeats 4000000

namespace K97
open PySem PySem.Spec PyProof.Rows L2 FL
/-- an __init__ with the cell of its class -/
def nfI (q : Str) (st : Stmt) (cc c : Addr) : NdefX.NF := ⟨"__init__", q, defArgs st, defBody st, defScope st, [("__class__", cc)], c⟩
structure Ctx (P : Program) (w : World) (K : PySem.W.Frag) (mg : Str → Option Value) (base : Heap) : Prop where
  glo_ : ∀ x, gloL.contains x = true → mg x = some (.ref (He.ga K x))
  free_ : ∀ x, freeL.contains x = true → mg x = none
  strs_ : ∀ p, strL.contains p = true → ∃ t, mg p.1 = some (.str p.2 t)
  ints_ : ∀ p, intL.contains p = true → ∃ t, mg p.1 = some (.int p.2 t)
  fn_ : ∀ (i : Nat) (d : He.DefD), fn[i]? = some d → ∃ fd, FunD K d.name d.qual d.params d.body d.scope (d.dvs K) (d.kws K) (He.fAd K d.at_) fd
  mk_ : ∀ x, mkL.contains x = true → Mk K (He.ga K x) (He.ma K (He.ga K x) "__init__")
  meth_ : ∀ p, methL.contains p = true → Cls K (He.ga K p.1) ∧ Meth K (He.ga K p.1) p.2.1 (He.ma K (He.ga K p.2.2) p.2.1)
  ct : Ct K mg okT
  isa : Isa K mg isaT
  kd : ∃ es n, KDict K w (He.ga K "FORMS") es n
  forms : ∀ z d, formsT z = some d → ∃ u0 v0, PySem.W.nsIn K (He.ga K "FORMS") z = some (some u0) ∧ RelV v0 u0 ∧ ∀ ρ H, IsV K mg ρ H v0 d
  formsN : ∀ z b, formsK z = some b → ∃ r, PySem.W.nsIn K (He.ga K "FORMS") z = some r ∧ r.isSome = b
  exc : ∀ x, ([("BadNote" : Str), ("BadCertificate" : Str)]).contains x = true → OexC K (He.ga K x) ∧ PySem.W.findIn K (.ref (He.ga K x)) "__init__" = some (some (.ref (He.fAd K d_exc.at_))) ∧ PySem.W.typeIn K (.ref (He.fAd K d_exc.at_)) = some (.type "function") ∧ PySem.W.findIn K (.ref (He.ga K x)) "subject" = some none ∧ XfC K (He.ga K x)
  exm : ∀ (C C' : Str) (b : Bool) (ca : Addr), exmT C C' = some b → mg C = some (.ref ca) → PySem.W.exmOne K (.ref ca) (.ref (He.ga K C')) = some b
  kept : ∃ cc c, SupK P K mg (He.ma K (He.ga K "Kept") "__init__") cc (He.ga K "Kept") (He.fAd K d_Verdict_init.at_) (nfI "Kept.__init__" stKept cc c)
  broken : ∃ cc c, SupK P K mg (He.ma K (He.ga K "Broken") "__init__") cc (He.ga K "Broken") (He.fAd K d_Verdict_init.at_) (nfI "Broken.__init__" stBroken cc c)
section
variable {P : Program} {w : World} {K : PySem.W.Frag} {mg : Str → Option Value} {base : Heap}
theorem Ctx.glo (C : Ctx P w K mg base) (x : Str) (h : gloL.contains x = true) : mg x = some (.ref (He.ga K x)) := C.glo_ x h
theorem Ctx.free (C : Ctx P w K mg base) (x : Str) (h : freeL.contains x = true) : mg x = none := C.free_ x h
theorem Ctx.strs (C : Ctx P w K mg base) (x z : Str) (h : strL.contains (x, z) = true) : ∃ t, mg x = some (.str z t) := C.strs_ (x, z) h
theorem Ctx.ints (C : Ctx P w K mg base) (x : Str) (z : Int) (h : intL.contains (x, z) = true) : ∃ t, mg x = some (.int z t) := C.ints_ (x, z) h
theorem Ctx.fn (C : Ctx P w K mg base) (i : Nat) {d : He.DefD} (h : fn[i]? = some d := by rfl) : ∃ fd, FunD K d.name d.qual d.params d.body d.scope (d.dvs K) (d.kws K) (He.fAd K d.at_) fd := C.fn_ i d h
theorem okc_of {k n : Nat} {C f : Addr} {F : Fn} (M : Mk K C f) (o : Okf P w K mg base k f (n + 1) F) (h : n = n) : Okc P w K mg base k C n F := by
  obtain ⟨fd, ps, h1, h2, h3, h4⟩ := o
  exact ⟨f, fd, ps, M, h1, h2, h3⟩
theorem lookup_memF {α β : Type} [BEq α] [LawfulBEq α] {x : α} {y : β} : ∀ {l : List (α × β)}, l.lookup x = some y → (x, y) ∈ l
  | [], h => by cases h
  | (a, b) :: l, h => by
    rw [List.lookup_cons] at h
    split at h
    · rename_i q
      cases h
      rw [eq_of_beq q]
      exact List.mem_cons_self
    · exact List.mem_cons_of_mem _ (lookup_memF h)
/-- a def's body, with what its context says of itself -/
theorem fn_okN {x qual : Str} {params : Arguments} {body : List Stmt} {scope : Scope} {dvs : List V} {kws : List (Str × V)} {f : Addr} {fd : FuncData} {N ps : List Str} {k : Nat} (F : FunD K x qual params body scope dvs kws f fd) (S : FnScope N ps scope) {n m : Nat} {mb : MS} (hn : ps.length = n) (hm : N.length = m)
    (hbody : ∀ (cdv : Value) (A : Around) (outer : List Env) (s : Shared) (H : Hp) (E : XK), Room k (A.deeper (envOfC qual scope s.heap.objs.size f cdv)) → (cxOf (L2.CX P w) P w K mg base N qual scope f cdv A outer s H E).calm = true → (cxOf (L2.CX P w) P w K mg base N qual scope f cdv A outer s H E).N.Nodup →
      PassesOwn (model P w) (cxOf (L2.CX P w) P w K mg base N qual scope f cdv A outer s H E).A (cxOf (L2.CX P w) P w K mg base N qual scope f cdv A outer s H E).env (cxOf (L2.CX P w) P w K mg base N qual scope f cdv A outer s H E).xe →
      Takes (cxOf (L2.CX P w) P w K mg base N qual scope f cdv A outer s H E) (fun c d _ H' => E c d H') →
      PMSs (cxOf (L2.CX P w) P w K mg base N qual scope f cdv A outer s H E) (fun c d _ H' => E c d H') body mb) : FnOk P w K mg base (L2.CX P w) (k + 1) f fd ps (spM K mg n (fnM n m mb)) :=
  fn_okM F S hn hm fun cdv A outer s H E hr => hbody cdv A outer s H E hr rfl S.nd PassesOwn.leaving (takes_of rfl rfl rfl rfl)
/-- a def with defaults, called so that they fill up -/
def OkD (P : Program) (w : World) (K : PySem.W.Frag) (mg : Str → Option Value) (base : Heap) (k : Nat) (f : Addr) (n : Nat) (dvs : List V) (ws : List D) (F : Fn) : Prop :=
  ∃ (fd : FuncData) (ps : List Str) (ds : List Value), FnOk P w K mg base (L2.CX P w) k f fd ps (spM K mg n F) ∧ Binds K fd ps ds ∧ Vals dvs ds ∧ ps.length = n ∧ PySem.W.keepIn K (.ref f) = true
end
/-! ### further printed terms -/
section
variable {X : Cx} {W : WX} {x : Str} {pos : Pos}
theorem qgs {z : Str} (h : ∃ t, X.mg x = some (.str z t)) (hg : Gl X x := by rfl) (hd : (x == ("__debug__" : Str)) = false := by decide) : PM X W (.Name x pos) (cM (.str z)) := by
  obtain ⟨t, h⟩ := h
  exact pm_glob hg h (v := .str z) ⟨t, rfl⟩ (fun _ _ => .str) hd
theorem qgi {z : Int} (h : ∃ t, X.mg x = some (.int z t)) (hg : Gl X x := by rfl) (hd : (x == ("__debug__" : Str)) = false := by decide) : PM X W (.Name x pos) (cM (.int z)) := by
  obtain ⟨t, h⟩ := h
  exact pm_glob hg h (v := .int z) ⟨t, rfl⟩ (fun _ _ => .int) hd
theorem qgg {a : Addr} (h : X.mg x = some (.ref a)) (hg : Gl X x := by rfl) (hd : (x == ("__debug__" : Str)) = false := by decide) : PM X W (.Name x pos) (cM (.glo x)) :=
  pm_glob hg h (v := .ref a) rfl (fun _ _ => .glo h) hd
theorem qty {T : String} (hm : X.mg x = none) (hv : bootBuiltins x = some (.type T)) (hg : Gl X x := by rfl) (hn : x ≠ "__name__" := by decide) (hd : (x == ("__debug__" : Str)) = false := by decide) : PM X W (.Name x pos) (cM (.ty T)) :=
  pm_c (v := .ty T) ⟨fun pins s σ H Q I h => ld_blt I hg hm hv ⟨.ty T, H, I, rfl, h⟩ hn hd⟩ fun _ _ => .ty
theorem qps (nd : X.N.Nodup) (i : Nat) {es : List Expr} {is : List Nat} (h : PGs X es (gSlots is)) (hi : X.N[i]? = some x := by rfl) (hx : Loc X.env.scope x := by first | exact Or.inl rfl | exact Or.inr rfl)
    (hf : X.fn x = true ∨ X.env.scope.names.lookup x = some .local := by first | exact .inl rfl | exact .inr rfl) (hs : (assignEach (.Name x pos :: es) X.env).map (·.2) = assign (.Name x pos) X.env :: (assignEach es X.env).map (·.2) := by rfl) : PGs X (.Name x pos :: es) (gSlots (i :: is)) :=
  pgs_slots nd hi hx h hf hs
theorem qcallP {k j n : Nat} {f : Addr} {F : Fn} {p : Pos} {e : Expr} {es : List Expr} {m : MA} {dvs : List V} (o : OkD X.prog X.w X.K X.mg X.base k f n dvs [.int 1] F) (ar : Ar n F) (hr : Room j X.A) (tk : Takes X W) (hm : X.mg x = some (.ref f)) (ha : PMA X W (e :: es) m) (hv : dvs = [.int 1] := by rfl) (hk : k ≤ j := by omega) (hg : Gl X x := by rfl) (hdb : (x == ("__debug__" : Str)) = false := by decide)
    (he : starEach (e :: es) X.env = (false, eval e X.env) :: starEach es X.env := by rfl) (hpl : (backTo pos (starEach es X.env)).any (·.1) = false := by rfl) : PM X W (.Call (.Name x p) (e :: es) [] pos) (callM (moreF [.int 1] F) m) := by
  obtain ⟨fd, ps, ds, h1, h2, h3, h4, h5⟩ := o
  subst hv
  exact pm_callN (does_fn h1 (hr.mono hk) tk h2 h3 h4 (fun _ _ => .cons .int .nil) ar) hg hm h5 ha hdb he hpl
end
/-! ### raise, try -/
theorem sc_exc : FnScope [("self" : Str), ("subject" : Str)] [("self" : Str), ("subject" : Str)] d_exc.scope := ⟨rfl, rfl, rfl, by decide +kernel, rfl, by decide +kernel, by decide +kernel⟩
theorem ok_exc {P : Program} {w : World} {K : PySem.W.Frag} {mg : Str → Option Value} {base : Heap} (C : Ctx P w K mg base) : ∃ fd, FnOk P w K mg base (L2.CX P w) 1 (He.fAd K d_exc.at_) fd [("self" : Str), ("subject" : Str)] (spI K ("subject" : Str)) ∧ Binds K fd [("self" : Str), ("subject" : Str)] [] := by
  obtain ⟨fd, F⟩ := C.fn_ excIx d_exc rfl
  refine ⟨fd, fn_okI F sc_exc rfl fun cdv A outer s H E a y => ?_, F.bindsN (fun _ _ _ _ _ _ us hl => match us, hl with | [_, _], _ => rfl)⟩
  exact pss_one (ps_ost (PE.imp (pe_var (i := 0) rfl (Or.inl rfl)) fun σ H Q h => ⟨_, h.1, h.2⟩) (PE.imp (pe_var (i := 1) rfl (Or.inl rfl)) fun σ H Q h => ⟨_, h.1, h.2⟩))
section
variable {X : Cx} {W : WX} {e : Expr} {m : M} {x : Str} {j : Nat} {p cpos pos : Pos}
theorem qraise (C : Ctx X.prog X.w X.K X.mg X.base) (hr : Room j X.A) (tk : Takes X W) (he : PM X W e m) (hx : ([("BadNote" : Str), ("BadCertificate" : Str)]).contains x = true := by decide) (hm : gloL.contains x = true := by decide) (hk : 2 ≤ j := by omega) (hc : X.calm = true := by rfl) (hg : Gl X x := by rfl)
    (hdb : (x == ("__debug__" : Str)) = false := by decide) (hs : starEach [e] X.env = [(false, eval e X.env)] := by rfl) : PMS X W (.Raise (some (.Call (.Name x p) [e] [] cpos)) none pos) (raiseM x ("subject" : Str) m) := by
  obtain ⟨fd, h1, h2⟩ := ok_exc C
  obtain ⟨g1, g2, g3, g4, g5⟩ := C.exc x hx
  exact pms_raise hc tk g1 g2 g3 g4 h1 (hr.mono hk) h2 hg (C.glo x hm) he hdb hs
end
section
variable {X : Cx} {W : WX} {j : Nat} {C1 C2 n : Str} {i : Nat} {k1 k2 : Int} {j1 j2 z1 z2 : Nat} {np1 np2 a1 a2 a3 a4 a5 a6 b1 b2 b3 b4 b5 b6 pos : Pos} {body : List Stmt} {mb : MS}
theorem qtry (C : Ctx X.prog X.w X.K X.mg X.base) (nd : X.N.Nodup) (hr : Room j X.A) (tk : Takes X W) (hb : ∀ (W : WX) (pn : List (Addr × Obj)) (xe : Value → Shared → Prop), Takes (X.tr pn xe) W → PassesOwn (model X.prog X.w) X.A X.env xe → PMSs (X.tr pn xe) W body mb)
    (hs : X.stack = X.env :: X.outer := by rfl) (hf : X.env.frame = some X.env.locals := by rfl) (h1 : ([("BadNote" : Str), ("BadCertificate" : Str)]).contains C1 = true := by decide) (h2 : ([("BadNote" : Str), ("BadCertificate" : Str)]).contains C2 = true := by decide) (g1 : gloL.contains C1 = true := by decide) (g2 : gloL.contains C2 = true := by decide)
    (hi : X.N[i]? = some n := by rfl) (hx : X.env.kindOf n = some .local := by rfl) (gl1 : Gl X C1 := by rfl) (gl2 : Gl X C2 := by rfl) (hd1 : (C1 == ("__debug__" : Str)) = false := by decide) (hd2 : (C2 == ("__debug__" : Str)) = false := by decide)
    (hn1 : (n == ("__debug__" : Str)) = false := by decide) (hn2 : (n == ("__classdict__" : Str)) = false := by decide)
    (hb1 : attributeBase (.Name n a3) ("subject" : Str) X.env (eval (.Name n a3) X.env) = eval (.Name n a3) X.env := by rfl) (hb2 : attributeBase (.Name n b3) ("subject" : Str) X.env (eval (.Name n b3) X.env) = eval (.Name n b3) X.env := by rfl)
    (s1 : starEach [.Constant (.int k1) j1 a2, .Attribute (.Name n a3) ("subject" : Str) a4] X.env = (false, eval (.Constant (.int k1) j1 a2) X.env) :: starEach [.Attribute (.Name n a3) ("subject" : Str) a4] X.env := by rfl)
    (s2 : starEach [.Attribute (.Name n a3) ("subject" : Str) a4] X.env = (false, eval (.Attribute (.Name n a3) ("subject" : Str) a4) X.env) :: starEach [] X.env := by rfl)
    (s3 : starEach [.Constant (.int k2) j2 b2, .Attribute (.Name n b3) ("subject" : Str) b4] X.env = (false, eval (.Constant (.int k2) j2 b2) X.env) :: starEach [.Attribute (.Name n b3) ("subject" : Str) b4] X.env := by rfl)
    (s4 : starEach [.Attribute (.Name n b3) ("subject" : Str) b4] X.env = (false, eval (.Attribute (.Name n b3) ("subject" : Str) b4) X.env) :: starEach [] X.env := by rfl) :
    PMS X W (.Try body [.ExceptHandler (some (.Name C1 np1)) (some n) [.Return (some (.Tuple [.Constant (.int k1) j1 a2, .Attribute (.Name n a3) ("subject" : Str) a4] z1 a5)) a1] a6, .ExceptHandler (some (.Name C2 np2)) (some n) [.Return (some (.Tuple [.Constant (.int k2) j2 b2, .Attribute (.Name n b3) ("subject" : Str) b4] z2 b5)) b1] b6] [] [] pos)
      (tryM exmT ("subject" : Str) mb [⟨C1, k1, i⟩, ⟨C2, k2, i⟩]) := by
  obtain ⟨e1, e2, e3, e4, e5⟩ := C.exc C1 h1
  obtain ⟨f1, f2, f3, f4, f5⟩ := C.exc C2 h2
  have m1 := C.glo C1 g1
  have m2 := C.glo C2 g2
  refine pms_try hs hf nd tk hb (.cons ⟨gl1, hd1, .inl m1⟩ hi hx (fun a oe cls d pn hz hv => suite_ret e5 e4 hz hv hi (.inl hx) hn1 hn2 hb1 s1 s2) (.cons ⟨gl2, hd2, .inl m2⟩ hi hx (fun a oe cls d pn hz hv => suite_ret f5 f4 hz hv hi (.inl hx) hn1 hn2 hb2 s3 s4) .nil))
    (.cons m1 (fun Cn b cb hq hc => ?_) (.cons m2 (fun Cn b cb hq hc => ?_) .nil))
  · exact C.exm _ _ _ _ hq hc
  · exact C.exm _ _ _ _ hq hc
end
end K97


set_option Elab.async false
set_option linter.all false
set_option maxRecDepth 100000
set_option maxHeartbeats 4000000
/-! K3: what the written heap says, as a Hook; the context from it. -/
namespace K97
open PySem PySem.Spec PyProof.Rows L2 FL
/-! ### tests -/
theorem oexB_ok {K : PySem.W.Frag} {C : Addr} (h : oexB K C = true) : OexC K C := by
  obtain ⟨h1, h⟩ := Bool.and_eq_true_iff.mp h
  obtain ⟨h2, h⟩ := Bool.and_eq_true_iff.mp h
  obtain ⟨h3, h⟩ := Bool.and_eq_true_iff.mp h
  obtain ⟨h4, h5⟩ := Bool.and_eq_true_iff.mp h
  refine ⟨?_, of_decide_eq_true h2, of_decide_eq_true h3, of_decide_eq_true h4, h5⟩
  split at h1
  · rename_i t dd cd sl hl
    split at h1
    · rename_i C' bm k0 k1 k2 k3 n k5 hm hs
      simp only [Bool.and_eq_true, decide_eq_true_eq, Bool.not_eq_true'] at h1
      obtain ⟨e1, e2, e3, e4, e5, e6⟩ := h1
      subst e1 e2 e3
      obtain ⟨nm, bs, mro, N, q, hd, sn, sub, ab, col, del⟩ := cd
      obtain ⟨sll⟩ := sl
      simp only at hm hs e4 e5
      subst hm hs e4 e5
      exact ⟨nm, q, N, bs, bm, sn, sub, ab, col, dd, k0, k1, k2, k3, k5, hl, e6⟩
    · cases h1
  · cases h1
theorem excB_ok {K : PySem.W.Frag} {x : Str} (h : excB K x = true) : OexC K (He.ga K x) ∧ PySem.W.findIn K (.ref (He.ga K x)) "__init__" = some (some (.ref (He.fAd K d_exc.at_))) ∧ PySem.W.typeIn K (.ref (He.fAd K d_exc.at_)) = some (.type "function") ∧ PySem.W.findIn K (.ref (He.ga K x)) "subject" = some none ∧ XfC K (He.ga K x) := by
  obtain ⟨h1, h⟩ := Bool.and_eq_true_iff.mp h
  obtain ⟨h2, h⟩ := Bool.and_eq_true_iff.mp h
  obtain ⟨h3, h⟩ := Bool.and_eq_true_iff.mp h
  obtain ⟨h4, h5⟩ := Bool.and_eq_true_iff.mp h
  exact ⟨oexB_ok h1, of_decide_eq_true h2, of_decide_eq_true h3, of_decide_eq_true h4, xfB_ok h5⟩
theorem supB_ok {P : Program} {K : PySem.W.Frag} {mg : Str → Option Value} {x q : Str} {C fV : Addr} {st : Stmt} (hP : P.main.file = RowO.prog.main.file) (hs : mg "super" = none) (ht : (P.main.scope.names.lookup ("super" : Str)).isSome = false) (e : fnC K (x, some "__init__") = valC q st) (h : supB K x q C fV = true) :
    ∃ cc c, SupK P K mg (He.fAd K (x, some "__init__")) cc C fV (nfI q st cc c) := by
  obtain ⟨h1, h⟩ := Bool.and_eq_true_iff.mp h
  obtain ⟨h2, h⟩ := Bool.and_eq_true_iff.mp h
  obtain ⟨h3, h⟩ := Bool.and_eq_true_iff.mp h
  obtain ⟨h4, h⟩ := Bool.and_eq_true_iff.mp h
  obtain ⟨h5, h⟩ := Bool.and_eq_true_iff.mp h
  obtain ⟨h6, h⟩ := Bool.and_eq_true_iff.mp h
  obtain ⟨h7, h8⟩ := Bool.and_eq_true_iff.mp h
  unfold fnC at e
  split at h1
  · rename_i oc od fd osl hl
    rw [hl] at e
    split at h1
    · rename_i c y cc g1 g2 g3 g4 g5
      obtain ⟨k1, k⟩ := Bool.and_eq_true_iff.mp h1
      obtain ⟨k2, k3⟩ := Bool.and_eq_true_iff.mp k
      refine ⟨cc, c, ?_, ?_, k1, ?_, ?_, Option.isSome_iff_exists.mp h2, of_decide_eq_true h3, hs, ht, of_decide_eq_true h4, of_decide_eq_true h5, of_decide_eq_true h6, h7, h8⟩
      · obtain ⟨n1, n2, n3, n4, n5, n6, n7, n8, n9, n10, n11, n12, n13, n14, n15⟩ := fd
        have e2 : (some (n1, n2, n3, n4, n5, n6, n7.map (·.1), n15) : FnC) = valC q st := e
        unfold valC at e2
        simp only [Option.some.injEq, Prod.mk.injEq] at e2
        obtain ⟨a1, a2, a3, a4, a5, a6, a7, a8⟩ := e2
        simp only at g1 g2 g3 g4 g5
        subst g1 g2 g3 g4 g5
        simp only [List.map_cons, List.map_nil, List.cons.injEq, and_true] at a7
        subst a1 a2 a3 a4 a5 a6 a7 a8
        exact ⟨oc, od, _, _, _, osl, hl⟩
      · rfl
      · split at k2
        · rename_i ccl cdd vs ccs hc
          split at k2
          · rename_i fl tf hv
            exact ⟨ccl, cdd, vs, ccs, fl, tf, hc, hv, by rw [hP]; exact k2⟩
          · cases k2
        · cases k2
      · split at k3
        · rename_i a b C' d hc
          obtain rfl := of_decide_eq_true k3
          exact ⟨_, _, _, hc⟩
        · cases k3
    · cases h1
  · cases h1
end K97

set_option Elab.async false
set_option linter.all false
set_option maxRecDepth 100000
set_option maxHeartbeats 4000000
/-! K4: the Hook; the context of the walk from what it says. -/
namespace K97
open PySem PySem.Spec PyProof.Rows L2 FL
/-! ### the part of the heap that is looked at -/
/-! ### the facts -/
section
variable {a1 a2 a3 a4 a5 a6 a7 a8 a9 a10 a11 a12 : List He.Fa} {f : He.Fa}
theorem in1 (h : f ∈ a1) : f ∈ faO a1 a2 a3 a4 a5 a6 a7 a8 a9 a10 a11 a12 := by unfold faO; simp [h]
theorem in2 (h : f ∈ a2) : f ∈ faO a1 a2 a3 a4 a5 a6 a7 a8 a9 a10 a11 a12 := by unfold faO; simp [h]
theorem in3 (h : f ∈ a3) : f ∈ faO a1 a2 a3 a4 a5 a6 a7 a8 a9 a10 a11 a12 := by unfold faO; simp [h]
theorem in4 (h : f ∈ a4) : f ∈ faO a1 a2 a3 a4 a5 a6 a7 a8 a9 a10 a11 a12 := by unfold faO; simp [h]
theorem in5 (h : f ∈ a5) : f ∈ faO a1 a2 a3 a4 a5 a6 a7 a8 a9 a10 a11 a12 := by unfold faO; simp [h]
theorem in6 (h : f ∈ a6) : f ∈ faO a1 a2 a3 a4 a5 a6 a7 a8 a9 a10 a11 a12 := by unfold faO; simp [h]
theorem in7 (h : f ∈ a7) : f ∈ faO a1 a2 a3 a4 a5 a6 a7 a8 a9 a10 a11 a12 := by unfold faO; simp [h]
theorem in8 (h : f ∈ a8) : f ∈ faO a1 a2 a3 a4 a5 a6 a7 a8 a9 a10 a11 a12 := by unfold faO; simp [h]
theorem in9 (h : f ∈ a9) : f ∈ faO a1 a2 a3 a4 a5 a6 a7 a8 a9 a10 a11 a12 := by unfold faO; simp [h]
theorem in10 (h : f ∈ a10) : f ∈ faO a1 a2 a3 a4 a5 a6 a7 a8 a9 a10 a11 a12 := by unfold faO; simp [h]
theorem in11 (h : f ∈ a11) : f ∈ faO a1 a2 a3 a4 a5 a6 a7 a8 a9 a10 a11 a12 := by unfold faO; simp [h]
theorem in12 (h : f ∈ a12) : f ∈ faO a1 a2 a3 a4 a5 a6 a7 a8 a9 a10 a11 a12 := by unfold faO; simp [h]
end
theorem i_glo {x : Str} (h : x ∈ gloL) : He.Fa.glo x ∈ l1 := List.mem_map.mpr ⟨x, h, rfl⟩
theorem i_test {x : Str} (h : x ∈ testL) : He.Fa.glo x ∈ l2 := List.mem_map.mpr ⟨x, h, rfl⟩
theorem i_free {x : Str} (h : x ∈ freeL) : He.Fa.free x ∈ l3 := List.mem_map.mpr ⟨x, h, rfl⟩
theorem i_str {p : Str × Str} (h : p ∈ strL) : He.Fa.str p.1 p.2 ∈ l4 := List.mem_map.mpr ⟨p, h, rfl⟩
theorem i_int {p : Str × Int} (h : p ∈ intL) : He.Fa.int p.1 p.2 ∈ l5 := List.mem_map.mpr ⟨p, h, rfl⟩
theorem i_mkr {x : Str} (h : x ∈ mkL) : He.Fa.mkr x ∈ l6 := List.mem_map.mpr ⟨x, h, rfl⟩
theorem i_mcls {p : Str × Str × Str} (h : p ∈ methL) : He.Fa.cls p.1 ∈ l7 := List.mem_map.mpr ⟨p, h, rfl⟩
theorem i_meth {p : Str × Str × Str} (h : p ∈ methL) : He.Fa.meth p.1 p.2.1 ∈ l8 := List.mem_map.mpr ⟨p, h, rfl⟩
theorem i_ocls {p : Str × Str} (h : p ∈ okL) : He.Fa.cls p.1 ∈ l9 := List.mem_map.mpr ⟨p, h, rfl⟩
theorem i_noat {p : Str × Str} (h : p ∈ okL) : He.Fa.noat p.1 p.2 ∈ l10 := List.mem_map.mpr ⟨p, h, rfl⟩
theorem i_rcls {p : Str × List Str} (h : p ∈ mroL) : He.Fa.cls p.1 ∈ l11 := List.mem_map.mpr ⟨p, h, rfl⟩
theorem sup_top : (RowO.prog.main.scope.names.lookup ("super" : Str)).isSome = false := by decide +kernel
section
variable {w : World} {K : PySem.W.Frag} {h : Heap} {mg : Str → Option Value}
theorem SaysX.t (c : SaysX w K) : He.SaysT faL fn tabsL w K := congrArg (fun z : AlX => z.1) c
theorem SaysX.ex (c : SaysX w K) : exB K = true := congrArg (fun z : AlX => z.2.1) c
theorem SaysX.fnc (c : SaysX w K) : [fnC K ("Kept", some "__init__"), fnC K ("Broken", some "__init__")] = [valC "Kept.__init__" stKept, valC "Broken.__init__" stBroken] := congrArg (fun z : AlX => z.2.2) c
theorem SaysX.fa (c : SaysX w K) {f : He.Fa} (h : f ∈ faL) : f.ok K = true := by
  have c1 := (He.ba (show ((faL.all fun f => f.ok K) && fn.all fun d => d.ok K) = true from congrArg (fun z : He.AlD => z.1) c.t.d)).1
  exact List.all_eq_true.mp c1 f h
theorem okT_mem {C f : Str} (h : okT C f = true) : (C, f) ∈ okL := List.contains_iff_mem.mp h
theorem con_mem {α : Type} [BEq α] [LawfulBEq α] {x : α} {l : List α} (h : l.contains x = true) : x ∈ l := List.contains_iff_mem.mp h
theorem SaysX.glo (c : SaysX w K) (X : K.In h) (G : h.Ns mainGlobals mg) {x : Str} (h : x ∈ gloL) : mg x = some (.ref (He.ga K x)) := He.glo_ok X G (c.fa (in1 (i_glo h)))
theorem SaysX.test (c : SaysX w K) (X : K.In h) (G : h.Ns mainGlobals mg) {x : Str} (h : x ∈ testL) : mg x = some (.ref (He.ga K x)) := He.glo_ok X G (c.fa (in2 (i_test h)))
theorem SaysX.free (c : SaysX w K) (X : K.In h) (G : h.Ns mainGlobals mg) {x : Str} (h : x ∈ freeL) : mg x = none := He.free_ok X G (c.fa (in3 (i_free h)))
theorem SaysX.str (c : SaysX w K) (X : K.In h) (G : h.Ns mainGlobals mg) {p : Str × Str} (h : p ∈ strL) : ∃ t, mg p.1 = some (.str p.2 t) := He.str_ok X G (c.fa (in4 (i_str h)))
theorem SaysX.int (c : SaysX w K) (X : K.In h) (G : h.Ns mainGlobals mg) {p : Str × Int} (h : p ∈ intL) : ∃ t, mg p.1 = some (.int p.2 t) := He.int_ok X G (c.fa (in5 (i_int h)))
theorem SaysX.mkr (c : SaysX w K) {x : Str} (h : x ∈ mkL) : Mk K (He.ga K x) (He.ma K (He.ga K x) "__init__") := He.mkr_ok (c.fa (in6 (i_mkr h)))
theorem SaysX.mcls (c : SaysX w K) {p : Str × Str × Str} (h : p ∈ methL) : Cls K (He.ga K p.1) := He.cls_ok (c.fa (in7 (i_mcls h)))
theorem SaysX.meth (c : SaysX w K) {p : Str × Str × Str} (h : p ∈ methL) : Meth K (He.ga K p.1) p.2.1 (He.ma K (He.ga K p.1) p.2.1) := He.meth_ok (c.fa (in8 (i_meth h)))
theorem SaysX.ocls (c : SaysX w K) {p : Str × Str} (h : p ∈ okL) : Cls K (He.ga K p.1) := He.cls_ok (c.fa (in9 (i_ocls h)))
theorem SaysX.noat (c : SaysX w K) {p : Str × Str} (h : p ∈ okL) : NoAttr K (He.ga K p.1) p.2 := He.noat_ok (c.fa (in10 (i_noat h)))
theorem SaysX.rcls (c : SaysX w K) {p : Str × List Str} (h : p ∈ mroL) : Cls K (He.ga K p.1) := He.cls_ok (c.fa (in11 (i_rcls h)))
theorem SaysX.exm (c : SaysX w K) {x y : Str} {b : Bool} (h : He.Fa.exm x y b ∈ exmL) : PySem.W.exmOne K (.ref (He.ga K x)) (.ref (He.ga K y)) = some b := He.exm_ok (c.fa (in12 h))
theorem sup_free : ("super" : Str) ∈ freeL := by decide +kernel
theorem okL_glo : ∀ p ∈ okL, p.1 ∈ gloL := by decide +kernel
theorem mroL_glo : ∀ p ∈ mroL, p.1 ∈ gloL := by decide +kernel
theorem ga_of {x : Str} {a : Addr} (h1 : mg x = some (.ref (He.ga K x))) (h2 : mg x = some (.ref a)) : a = He.ga K x := Value.ref.inj (Option.some.inj (h2.symm.trans h1))
theorem isaT_of {C C' : Str} {b : Bool} (h : isaT C C' = some b) : C' ∈ testL ∧ ∃ l, (C, l) ∈ mroL ∧ b = l.contains C' := by
  unfold isaT at h
  by_cases e : testL.contains C' = true
  · rw [if_pos e] at h
    cases q : mroL.lookup C with
    | none => rw [q] at h; cases h
    | some l =>
      rw [q] at h
      exact ⟨con_mem e, l, lookup_memF q, (Option.some.inj h).symm⟩
  · rw [if_neg e] at h; cases h
theorem exmT_of {C C' : Str} {b : Bool} (h : exmT C C' = some b) : (C = "BadCertificate" ∧ C' = "BadCertificate" ∧ b = true) ∨ (C = "BadNote" ∧ C' = "BadCertificate" ∧ b = false) ∨ (C = "BadNote" ∧ C' = "BadNote" ∧ b = true) := by
  unfold exmT at h
  split at h
  · rename_i e
    split at h
    · rename_i e'
      exact .inl ⟨e, e', (Option.some.inj h).symm⟩
    · cases h
  · split at h
    · rename_i e
      split at h
      · rename_i e'
        exact .inr (.inl ⟨e, e', (Option.some.inj h).symm⟩)
      · split at h
        · rename_i e'
          exact .inr (.inr ⟨e, e', (Option.some.inj h).symm⟩)
        · cases h
    · cases h
theorem ctx {P : Program} {base : Heap} (X : K.In h) (G : h.Ns mainGlobals mg) (c : SaysX w K) (hP : P = RowO.prog) : Ctx P w K mg base := by
  subst hP
  have ex := c.ex
  unfold exB at ex
  obtain ⟨x1, ex⟩ := He.ba ex
  obtain ⟨x2, ex⟩ := He.ba ex
  obtain ⟨x3, ex⟩ := He.ba ex
  obtain ⟨x4, ex⟩ := He.ba ex
  obtain ⟨x5, ex⟩ := He.ba ex
  obtain ⟨x6, x7⟩ := He.ba ex
  obtain ⟨y1, y2⟩ : fnC K ("Kept", some "__init__") = valC "Kept.__init__" stKept ∧ fnC K ("Broken", some "__init__") = valC "Broken.__init__" stBroken := by
    have := c.fnc
    simp only [List.cons.injEq, and_true] at this
    exact this
  have exmK : ∀ (C C' : Str) (b : Bool), exmT C C' = some b → PySem.W.exmOne K (.ref (He.ga K C)) (.ref (He.ga K C')) = some b := by
    intro C C' b hb
    rcases exmT_of hb with ⟨rfl, rfl, rfl⟩ | ⟨rfl, rfl, rfl⟩ | ⟨rfl, rfl, rfl⟩
    · exact c.exm ((.head _))
    · exact c.exm ((.tail _ (.head _)))
    · exact c.exm ((.tail _ (.tail _ (.head _))))
  have q1 := supB_ok (P := RowO.prog) (mg := mg) rfl (c.free X G sup_free) sup_top y1 x6
  have q2 := supB_ok (P := RowO.prog) (mg := mg) rfl (c.free X G sup_free) sup_top y2 x7
  refine { glo_ := fun x hx => c.glo X G (con_mem hx), free_ := fun x hx => c.free X G (con_mem hx), strs_ := fun p hp => c.str X G (con_mem hp), ints_ := fun p hp => c.int X G (con_mem hp), fn_ := fun i d hd => c.t.d.def_ i hd, mk_ := fun x hx => c.mkr (con_mem hx), meth_ := fun p hp => ⟨c.mcls (con_mem hp), ?_⟩, ct := ⟨fun C f ca hC hf => ?_⟩, isa := ?_, kd := ?_, forms := fun z d hz => ?_, formsN := fun z b hz => ?_, exc := fun x hx => ?_, exm := fun C C' b ca hb hc => ?_, kept := q1, broken := q2 }
  · have hp' := con_mem hp
    have e := of_decide_eq_true (List.all_eq_true.mp x1 p hp')
    rw [← e]
    exact c.meth hp'
  · have hp' := okT_mem hf
    obtain rfl := ga_of (c.glo X G (okL_glo _ hp')) hC
    exact ⟨c.ocls hp', c.noat hp'⟩
  · obtain ⟨z1, z2⟩ := He.ba x2
    obtain ⟨z2, z3⟩ := He.ba z2
    refine ⟨⟨of_decide_eq_true z1, of_decide_eq_true z2⟩, fun C C' b ca hb hC => ?_⟩
    obtain ⟨h1, l, h2, h3⟩ := isaT_of hb
    obtain rfl := ga_of (c.glo X G (mroL_glo _ h2)) hC
    obtain ⟨u1, u2⟩ := He.ba (List.all_eq_true.mp z3 _ h2)
    obtain ⟨u2, u3⟩ := He.ba u2
    refine ⟨c.rcls h2, of_decide_eq_true u1, of_decide_eq_true u2, fun ca' hC' => ?_⟩
    obtain rfl := ga_of (c.test X G h1) hC'
    rw [h3]
    exact of_decide_eq_true (List.all_eq_true.mp u3 _ h1)
  · exact c.t.tab (t := (fun K => He.ga K "FORMS", formsL.map (·.1))) 0 rfl
  · obtain ⟨z1, z2⟩ := He.ba x3
    have q := List.all_eq_true.mp z1 _ (lookup_memF (show formsL.lookup z = some d from hz))
    simp only at q
    split at q
    · rename_i u hu
      obtain ⟨v, hv, hI⟩ := isD_ok (mg := mg) q
      exact ⟨u, v, hu, hv, hI⟩
    · cases q
  · obtain ⟨z1, z2⟩ := He.ba x3
    unfold formsK at hz
    split at hz
    · rename_i e
      obtain ⟨d, hd⟩ := Option.isSome_iff_exists.mp e
      have q := List.all_eq_true.mp z1 _ (lookup_memF hd)
      simp only at q
      split at q
      · rename_i u hu
        exact ⟨some u, hu, Option.some.inj hz⟩
      · cases q
    · split at hz
      · rename_i e
        exact ⟨none, of_decide_eq_true (List.all_eq_true.mp z2 _ (con_mem e)), Option.some.inj hz⟩
      · cases hz
  · rcases List.mem_cons.mp (con_mem hx) with rfl | hx
    · exact excB_ok x4
    · rcases List.mem_cons.mp hx with rfl | hx
      · exact excB_ok x5
      · cases hx
  · have hC : C ∈ gloL := by
      rcases exmT_of hb with ⟨rfl, _, _⟩ | ⟨rfl, _, _⟩ | ⟨rfl, _, _⟩ <;> decide +kernel
    obtain rfl := ga_of (c.glo X G hC) hc
    exact exmK _ _ _ hb
end
end K97

set_option Elab.async false
set_option linter.all false
set_option maxRecDepth 100000
set_option maxHeartbeats 4000000

namespace K97
open PySem PySem.Spec PyProof.Rows L2 FL
section
variable {P : Program} {w : World} {K : PySem.W.Frag} {mg : Str → Option Value} {base : Heap}
theorem sc_Blockers_init : FnScope [("self" : Str), ("template" : Str), ("hour" : Str), ("rows" : Str)] [("self" : Str), ("template" : Str), ("hour" : Str), ("rows" : Str)] (defScope (meth 54 0)) := ⟨rfl, rfl, rfl, by decide +kernel, rfl, by decide +kernel, by decide +kernel⟩
theorem ok_Blockers_init (C : Ctx P w K mg base) : Okc P w K mg base 1 (He.ga K ("Blockers" : Str)) 3 F_Blockers_init := by
  obtain ⟨fd, F⟩ := C.fn 0 (d := d_Blockers_init)
  refine ⟨_, fd, [("self" : Str), ("template" : Str), ("hour" : Str), ("rows" : Str)], C.mk_ _ (by decide), fn_okN F sc_Blockers_init rfl rfl fun cdv A outer s H E hr hc nd hp tk => ?_, F.bindsN (fun _ _ _ _ _ _ us hl => match us, hl with | [_, _, _, _], _ => rfl), rfl⟩
  exact (pms_cons (pms_fld C.ct (qv 0) (qv 1)) (pms_cons (pms_fld C.ct (qv 0) (qv 2)) (pms_one (pms_fld C.ct (qv 0) (qv 3)))))
theorem sc_CaseTree_init : FnScope [("self" : Str), ("node" : Str)] [("self" : Str), ("node" : Str)] (defScope (meth 35 0)) := ⟨rfl, rfl, rfl, by decide +kernel, rfl, by decide +kernel, by decide +kernel⟩
theorem ok_CaseTree_init (C : Ctx P w K mg base) : Okc P w K mg base 1 (He.ga K ("CaseTree" : Str)) 1 F_CaseTree_init := by
  obtain ⟨fd, F⟩ := C.fn 1 (d := d_CaseTree_init)
  refine ⟨_, fd, [("self" : Str), ("node" : Str)], C.mk_ _ (by decide), fn_okN F sc_CaseTree_init rfl rfl fun cdv A outer s H E hr hc nd hp tk => ?_, F.bindsN (fun _ _ _ _ _ _ us hl => match us, hl with | [_, _], _ => rfl), rfl⟩
  exact (pms_one (pms_fld C.ct (qv 0) (qv 1)))
theorem sc_Crowded_init : FnScope [("self" : Str), ("lot" : Str), ("node" : Str)] [("self" : Str), ("lot" : Str), ("node" : Str)] (defScope (meth 44 0)) := ⟨rfl, rfl, rfl, by decide +kernel, rfl, by decide +kernel, by decide +kernel⟩
theorem ok_Crowded_init (C : Ctx P w K mg base) : Okc P w K mg base 1 (He.ga K ("Crowded" : Str)) 2 F_Crowded_init := by
  obtain ⟨fd, F⟩ := C.fn 2 (d := d_Crowded_init)
  refine ⟨_, fd, [("self" : Str), ("lot" : Str), ("node" : Str)], C.mk_ _ (by decide), fn_okN F sc_Crowded_init rfl rfl fun cdv A outer s H E hr hc nd hp tk => ?_, F.bindsN (fun _ _ _ _ _ _ us hl => match us, hl with | [_, _, _], _ => rfl), rfl⟩
  exact (pms_cons (pms_fld C.ct (qv 0) (qv 1)) (pms_one (pms_fld C.ct (qv 0) (qv 2))))
theorem sc_FloorPlan_init : FnScope [("self" : Str), ("rows" : Str)] [("self" : Str), ("rows" : Str)] (defScope (meth 43 0)) := ⟨rfl, rfl, rfl, by decide +kernel, rfl, by decide +kernel, by decide +kernel⟩
theorem ok_FloorPlan_init (C : Ctx P w K mg base) : Okc P w K mg base 1 (He.ga K ("FloorPlan" : Str)) 1 F_FloorPlan_init := by
  obtain ⟨fd, F⟩ := C.fn 3 (d := d_FloorPlan_init)
  refine ⟨_, fd, [("self" : Str), ("rows" : Str)], C.mk_ _ (by decide), fn_okN F sc_FloorPlan_init rfl rfl fun cdv A outer s H E hr hc nd hp tk => ?_, F.bindsN (fun _ _ _ _ _ _ us hl => match us, hl with | [_, _], _ => rfl), rfl⟩
  exact (pms_one (pms_fld C.ct (qv 0) (qv 1)))
theorem sc_NoQuote_init : FnScope [("self" : Str), ("template" : Str), ("refusals" : Str)] [("self" : Str), ("template" : Str), ("refusals" : Str)] (defScope (meth 53 0)) := ⟨rfl, rfl, rfl, by decide +kernel, rfl, by decide +kernel, by decide +kernel⟩
theorem ok_NoQuote_init (C : Ctx P w K mg base) : Okc P w K mg base 1 (He.ga K ("NoQuote" : Str)) 2 F_NoQuote_init := by
  obtain ⟨fd, F⟩ := C.fn 4 (d := d_NoQuote_init)
  refine ⟨_, fd, [("self" : Str), ("template" : Str), ("refusals" : Str)], C.mk_ _ (by decide), fn_okN F sc_NoQuote_init rfl rfl fun cdv A outer s H E hr hc nd hp tk => ?_, F.bindsN (fun _ _ _ _ _ _ us hl => match us, hl with | [_, _, _], _ => rfl), rfl⟩
  exact (pms_cons (pms_fld C.ct (qv 0) (qv 1)) (pms_one (pms_fld C.ct (qv 0) (qv 2))))
theorem sc_Packing_init : FnScope [("self" : Str), ("places" : Str)] [("self" : Str), ("places" : Str)] (defScope (meth 34 0)) := ⟨rfl, rfl, rfl, by decide +kernel, rfl, by decide +kernel, by decide +kernel⟩
theorem ok_Packing_init (C : Ctx P w K mg base) : Okc P w K mg base 1 (He.ga K ("Packing" : Str)) 1 F_Packing_init := by
  obtain ⟨fd, F⟩ := C.fn 5 (d := d_Packing_init)
  refine ⟨_, fd, [("self" : Str), ("places" : Str)], C.mk_ _ (by decide), fn_okN F sc_Packing_init rfl rfl fun cdv A outer s H E hr hc nd hp tk => ?_, F.bindsN (fun _ _ _ _ _ _ us hl => match us, hl with | [_, _], _ => rfl), rfl⟩
  exact (pms_one (pms_fld C.ct (qv 0) (qv 1)))
theorem sc_Quote_init : FnScope [("self" : Str), ("template" : Str), ("hour" : Str), ("places" : Str), ("refusals" : Str)] [("self" : Str), ("template" : Str), ("hour" : Str), ("places" : Str), ("refusals" : Str)] (defScope (meth 52 0)) := ⟨rfl, rfl, rfl, by decide +kernel, rfl, by decide +kernel, by decide +kernel⟩
theorem ok_Quote_init (C : Ctx P w K mg base) : Okc P w K mg base 1 (He.ga K ("Quote" : Str)) 4 F_Quote_init := by
  obtain ⟨fd, F⟩ := C.fn 6 (d := d_Quote_init)
  refine ⟨_, fd, [("self" : Str), ("template" : Str), ("hour" : Str), ("places" : Str), ("refusals" : Str)], C.mk_ _ (by decide), fn_okN F sc_Quote_init rfl rfl fun cdv A outer s H E hr hc nd hp tk => ?_, F.bindsN (fun _ _ _ _ _ _ us hl => match us, hl with | [_, _, _, _, _], _ => rfl), rfl⟩
  exact (pms_cons (pms_fld C.ct (qv 0) (qv 1)) (pms_cons (pms_fld C.ct (qv 0) (qv 2)) (pms_cons (pms_fld C.ct (qv 0) (qv 3)) (pms_one (pms_fld C.ct (qv 0) (qv 4))))))
theorem sc_Settlement_init : FnScope [("self" : Str), ("rows" : Str), ("deeds" : Str), ("hold" : Str), ("after" : Str)] [("self" : Str), ("rows" : Str), ("deeds" : Str), ("hold" : Str), ("after" : Str)] (defScope (meth 32 0)) := ⟨rfl, rfl, rfl, by decide +kernel, rfl, by decide +kernel, by decide +kernel⟩
theorem ok_Settlement_init (C : Ctx P w K mg base) : Okc P w K mg base 1 (He.ga K ("Settlement" : Str)) 4 F_Settlement_init := by
  obtain ⟨fd, F⟩ := C.fn 7 (d := d_Settlement_init)
  refine ⟨_, fd, [("self" : Str), ("rows" : Str), ("deeds" : Str), ("hold" : Str), ("after" : Str)], C.mk_ _ (by decide), fn_okN F sc_Settlement_init rfl rfl fun cdv A outer s H E hr hc nd hp tk => ?_, F.bindsN (fun _ _ _ _ _ _ us hl => match us, hl with | [_, _, _, _, _], _ => rfl), rfl⟩
  exact (pms_cons (pms_fld C.ct (qv 0) (qv 1)) (pms_cons (pms_fld C.ct (qv 0) (qv 2)) (pms_cons (pms_fld C.ct (qv 0) (qv 3)) (pms_one (pms_fld C.ct (qv 0) (qv 4))))))
theorem sc_Shortage_init : FnScope [("self" : Str), ("gang" : Str), ("start" : Str), ("end" : Str), ("rows" : Str)] [("self" : Str), ("gang" : Str), ("start" : Str), ("end" : Str), ("rows" : Str)] (defScope (meth 25 0)) := ⟨rfl, rfl, rfl, by decide +kernel, rfl, by decide +kernel, by decide +kernel⟩
theorem ok_Shortage_init (C : Ctx P w K mg base) : Okc P w K mg base 1 (He.ga K ("Shortage" : Str)) 4 F_Shortage_init := by
  obtain ⟨fd, F⟩ := C.fn 8 (d := d_Shortage_init)
  refine ⟨_, fd, [("self" : Str), ("gang" : Str), ("start" : Str), ("end" : Str), ("rows" : Str)], C.mk_ _ (by decide), fn_okN F sc_Shortage_init rfl rfl fun cdv A outer s H E hr hc nd hp tk => ?_, F.bindsN (fun _ _ _ _ _ _ us hl => match us, hl with | [_, _, _, _, _], _ => rfl), rfl⟩
  exact (pms_cons (pms_fld C.ct (qv 0) (qv 1)) (pms_cons (pms_fld C.ct (qv 0) (qv 2)) (pms_cons (pms_fld C.ct (qv 0) (qv 3)) (pms_one (pms_fld C.ct (qv 0) (qv 4))))))
theorem sc_Levels_init : FnScope [("self" : Str), ("resource" : Str), ("amount" : Str), ("wanted" : Str), ("shares" : Str), ("rows" : Str)] [("self" : Str), ("resource" : Str), ("amount" : Str), ("wanted" : Str), ("shares" : Str), ("rows" : Str)] (defScope (meth 40 0)) := ⟨rfl, rfl, rfl, by decide +kernel, rfl, by decide +kernel, by decide +kernel⟩
theorem ok_Levels_init (C : Ctx P w K mg base) : Okc P w K mg base 1 (He.ga K ("Levels" : Str)) 5 F_Levels_init := by
  obtain ⟨fd, F⟩ := C.fn 9 (d := d_Levels_init)
  refine ⟨_, fd, [("self" : Str), ("resource" : Str), ("amount" : Str), ("wanted" : Str), ("shares" : Str), ("rows" : Str)], C.mk_ _ (by decide), fn_okN F sc_Levels_init rfl rfl fun cdv A outer s H E hr hc nd hp tk => ?_, F.bindsN (fun _ _ _ _ _ _ us hl => match us, hl with | [_, _, _, _, _, _], _ => rfl), rfl⟩
  exact (pms_cons (pms_fld C.ct (qv 0) (qv 1)) (pms_cons (pms_fld C.ct (qv 0) (qv 2)) (pms_cons (pms_fld C.ct (qv 0) (qv 3)) (pms_cons (pms_fld C.ct (qv 0) (qv 4)) (pms_one (pms_fld C.ct (qv 0) (qv 5)))))))
theorem sc_gcd : FnScope [("one" : Str), ("two" : Str)] [("one" : Str), ("two" : Str)] (defScope (top 28)) := ⟨rfl, rfl, rfl, by decide +kernel, rfl, by decide +kernel, by decide +kernel⟩
theorem ok_gcd (C : Ctx P w K mg base) : Okf P w K mg base 1 (He.fAd K d_gcd.at_) 2 F_gcd := by
  obtain ⟨fd, F⟩ := C.fn 10 (d := d_gcd)
  refine ⟨fd, [("one" : Str), ("two" : Str)], fn_okN F sc_gcd rfl rfl fun cdv A outer s H E hr hc nd hp tk => ?_, F.bindsN (fun _ _ _ _ _ _ us hl => match us, hl with | [_, _], _ => rfl), rfl, F.kp⟩
  exact (pms_cons (pms_while (fun (τ : Env') (_ : Sto) => match τ[1]? with | some (some (D.int i)) => i.natAbs + 1 | _ => 0) hp (tne hr (qv 1) pm_int) (pms_one (pms_par hc nd (i := 0) (j := 1) rfl rfl (by decide) rfl rfl (pma_cons (qv 1) (pma_cons (qmod (qv 0) (qv 1)) pma_nil)) (fun h => ps_par hc nd rfl rfl (by decide) rfl rfl h rfl)))) (pms_one (pms_ret (pm_callB call_abs cc_abs rfl (C.free _ (by decide)) boot_abs (pma_cons (qv 0) pma_nil)))))
theorem sc_Share_init : FnScope [("self" : Str), ("top" : Str), ("bottom" : Str), ("common" : Str)] [("self" : Str), ("top" : Str), ("bottom" : Str)] (defScope (meth 27 0)) := ⟨rfl, rfl, rfl, by decide +kernel, rfl, by decide +kernel, by decide +kernel⟩
theorem ok_Share_init (C : Ctx P w K mg base) : Okc P w K mg base 2 (He.ga K ("Share" : Str)) 2 F_Share_init := by
  obtain ⟨fd, F⟩ := C.fn 11 (d := d_Share_init)
  obtain ⟨ds, h1, h2⟩ := F.binds1 (ps := [("self" : Str), ("top" : Str), ("bottom" : Str)]) 3 1 (List.cons_ne_nil _ _) rfl (fun T kV doc pm an cdv ct us its hl hi => match us, its, hl, hi with | [_, _, _], [_], _, _ => ⟨_, rfl, rfl⟩)
  cases h1
  refine ⟨_, fd, [("self" : Str), ("top" : Str), ("bottom" : Str)], C.mk_ _ (by decide), fn_okN F sc_Share_init rfl rfl fun cdv A outer s H E hr hc nd hp tk => ?_, h2, rfl⟩
  exact (pms_cons (pms_if (teq hr (qv 2) pm_int) (pms_one pms_never) pms_nil) (pms_cons (qset nd 3 (qcall (ok_gcd C) ar_gcd hr tk (C.glo _ (by decide)) (pma_cons (qv 1) (pma_cons (qv 2) pma_nil)))) (pms_cons (pms_if (tlt hr (qv 2) pm_int) (pms_one (qset nd 3 (qneg (qv 3)))) pms_nil) (pms_cons (pms_fld C.ct (qv 0) (qdiv (qv 1) (qv 3))) (pms_one (pms_fld C.ct (qv 0) (qdiv (qv 2) (qv 3))))))))
theorem sc_law_levels : FnScope [("_law_a" : Str), ("_law_amount" : Str), ("_law_shares" : Str), ("_law_rows" : Str), ("_law_row" : Str), ("_law_level" : Str), ("_law_one" : Str)] [("_law_a" : Str)] (defScope (top 102)) := ⟨rfl, rfl, rfl, by decide +kernel, rfl, by decide +kernel, by decide +kernel⟩
theorem ok_law_levels (C : Ctx P w K mg base) : Okf P w K mg base 4 (He.fAd K d_law_levels.at_) 1 F_law_levels := by
  obtain ⟨fd, F⟩ := C.fn 12 (d := d_law_levels)
  refine ⟨fd, [("_law_a" : Str)], fn_okN F sc_law_levels rfl rfl fun cdv A outer s H E hr hc nd hp tk => ?_, F.bindsN (fun _ _ _ _ _ _ us hl => match us, hl with | [_], _ => rfl), rfl, F.kp⟩
  exact (pms_cons (qset nd 1 (qnew (ok_Share_init C) ar_Share_init hr (C.glo _ (by decide)) (pma_cons (qmul (pm_ix (pm_ix (qv 0) pm_int) pm_int) pm_int) (pma_cons (qmul (pm_ix (pm_ix (qv 0) pm_int) pm_int) pm_int) pma_nil)))) (pms_cons (qset nd 2 (pm_callTy call_tuple_of cc_tuple rfl (C.free _ (by decide)) boot_tuple (pma_cons (qlc hc nd [(("_law_one" : Str), 6)] (.one 6) (pmi_seq (pm_ix (qv 0) pm_int)) (fun _ _ _ _ _ => (pg_name nd rfl (by first | exact Or.inl rfl | exact Or.inr rfl))) (fun _ _ _ _ _ => (qnew (ok_Share_init C) ar_Share_init hr (C.glo _ (by decide)) (pma_cons (qmul (pm_ix (qv 6) pm_int) pm_int) (pma_cons (qmul (pm_ix (qv 6) pm_int) pm_int) pma_nil))))) pma_nil))) (pms_cons (qset nd 3 (pm_lst pma_nil)) (pms_cons (pms_for hp hc (pmi_seq (pm_ix (qv 0) pm_int)) (qgn nd 4) (pms_cons (qset nd 5 (pm_ix (qv 4) pm_int)) (pms_cons (pms_if (tnis hr (qv 5) pm_non) (pms_one (qset nd 5 (qnew (ok_Share_init C) ar_Share_init hr (C.glo _ (by decide)) (pma_cons (pm_ix (qv 5) pm_int) (pma_cons (pm_ix (qv 5) pm_int) pma_nil))))) pms_nil) (pms_one (pms_expr (pm_append (qv 3) (pm_tup (pma_cons (pm_ix (qv 4) pm_int) (pma_cons (pm_ix (qv 4) pm_int) (pma_cons (qv 5) pma_nil))))))))) (fun h1 h2 h3 => ps_for hp hc h1 h2 h3)) (pms_one (pms_ret (qnew (ok_Levels_init C) ar_Levels_init hr (C.glo _ (by decide)) (pma_cons (pm_ix (qv 0) pm_int) (pma_cons (qv 1) (pma_cons (pm_ix (qv 0) pm_int) (pma_cons (qv 2) (pma_cons (pm_callTy call_tuple_of cc_tuple rfl (C.free _ (by decide)) boot_tuple (pma_cons (qv 3) pma_nil)) pma_nil))))))))))))
theorem sc_law_first : FnScope [("_law_word_here" : Str), ("_law_a" : Str)] [("_law_word_here" : Str), ("_law_a" : Str)] (defScope (top 103)) := ⟨rfl, rfl, rfl, by decide +kernel, rfl, by decide +kernel, by decide +kernel⟩
theorem ok_law_first (C : Ctx P w K mg base) : Okf P w K mg base 5 (He.fAd K d_law_first.at_) 2 F_law_first := by
  obtain ⟨fd, F⟩ := C.fn 13 (d := d_law_first)
  refine ⟨fd, [("_law_word_here" : Str), ("_law_a" : Str)], fn_okN F sc_law_first rfl rfl fun cdv A outer s H E hr hc nd hp tk => ?_, F.bindsN (fun _ _ _ _ _ _ us hl => match us, hl with | [_, _], _ => rfl), rfl, F.kp⟩
  exact (pms_cons (pms_if (teq hr (qv 0) pm_str) (pms_one (pms_ret (qnew (ok_Shortage_init C) ar_Shortage_init hr (C.glo _ (by decide)) (pma_cons (pm_ix (qv 1) pm_int) (pma_cons (pm_ix (qv 1) pm_int) (pma_cons (pm_ix (qv 1) pm_int) (pma_cons (pm_ix (qv 1) pm_int) pma_nil))))))) pms_nil) (pms_cons (pms_if (teq hr (qv 0) pm_str) (pms_one (pms_ret (qnew (ok_Packing_init C) ar_Packing_init hr (C.glo _ (by decide)) (pma_cons (pm_ix (qv 1) pm_int) pma_nil)))) pms_nil) (pms_cons (pms_if (teq hr (qv 0) pm_str) (pms_one (pms_ret (qnew (ok_CaseTree_init C) ar_CaseTree_init hr (C.glo _ (by decide)) (pma_cons (pm_ix (qv 1) pm_int) pma_nil)))) pms_nil) (pms_cons (pms_if (teq hr (qv 0) pm_str) (pms_one (pms_ret (qcall (ok_law_levels C) ar_law_levels hr tk (C.glo _ (by decide)) (pma_cons (qv 1) pma_nil)))) pms_nil) (pms_cons (pms_if (teq hr (qv 0) pm_str) (pms_one (pms_ret (qnew (ok_FloorPlan_init C) ar_FloorPlan_init hr (C.glo _ (by decide)) (pma_cons (pm_ix (qv 1) pm_int) pma_nil)))) pms_nil) (pms_cons (pms_if (teq hr (qv 0) pm_str) (pms_one (pms_ret (qnew (ok_Crowded_init C) ar_Crowded_init hr (C.glo _ (by decide)) (pma_cons (pm_ix (qv 1) pm_int) (pma_cons (pm_ix (qv 1) pm_int) pma_nil))))) pms_nil) (pms_cons (pms_if (teq hr (qv 0) pm_str) (pms_one (pms_ret (qnew (ok_Settlement_init C) ar_Settlement_init hr (C.glo _ (by decide)) (pma_cons (pm_ix (qv 1) pm_int) (pma_cons (pm_ix (qv 1) pm_int) (pma_cons (pm_ix (qv 1) pm_int) (pma_cons pm_non pma_nil))))))) pms_nil) (pms_cons (pms_if (teq hr (qv 0) pm_str) (pms_one (pms_ret (qnew (ok_Quote_init C) ar_Quote_init hr (C.glo _ (by decide)) (pma_cons (pm_ix (qv 1) pm_int) (pma_cons (pm_ix (qv 1) pm_int) (pma_cons (pm_ix (qv 1) pm_int) (pma_cons (pm_ix (qv 1) pm_int) pma_nil))))))) pms_nil) (pms_cons (pms_if (teq hr (qv 0) pm_str) (pms_one (pms_ret (qnew (ok_NoQuote_init C) ar_NoQuote_init hr (C.glo _ (by decide)) (pma_cons (pm_ix (qv 1) pm_int) (pma_cons (pm_ix (qv 1) pm_int) pma_nil))))) pms_nil) (pms_one (pms_ret (qnew (ok_Blockers_init C) ar_Blockers_init hr (C.glo _ (by decide)) (pma_cons (pm_ix (qv 1) pm_int) (pma_cons (pm_ix (qv 1) pm_int) (pma_cons (pm_ix (qv 1) pm_int) pma_nil)))))))))))))))
theorem sc_law_forms : FnScope [("_law_numbers" : Str), ("_law_rows" : Str), ("_law_lists" : Str), ("_law_event" : Str), ("_law_events" : Str), ("_law_refusals" : Str), ("_law_plans" : Str), ("_law_level" : Str), ("_law_hold" : Str), ("_law_triples" : Str), ("_law_pairs" : Str), ("_law_forms_here" : Str), ("_law_name" : Str)] [] (defScope (top 93)) := ⟨rfl, rfl, rfl, by decide +kernel, rfl, by decide +kernel, by decide +kernel⟩
theorem ok_law_forms (C : Ctx P w K mg base) : Okf P w K mg base 1 (He.fAd K d_law_forms.at_) 0 F_law_forms := by
  obtain ⟨fd, F⟩ := C.fn 14 (d := d_law_forms)
  refine ⟨fd, [], fn_okN F sc_law_forms rfl rfl fun cdv A outer s H E hr hc nd hp tk => ?_, F.bindsN (fun _ _ _ _ _ _ us hl => match us, hl with | [], _ => rfl), rfl, F.kp⟩
  exact (pms_cons (qset nd 0 (pm_tup (pma_cons pm_str (pma_cons pm_str pma_nil)))) (pms_cons (qset nd 1 (pm_tup (pma_cons pm_str (pma_cons (pm_tup (pma_cons pm_str (pma_cons pm_str (pma_cons (pm_tup (pma_cons pm_str (pma_cons pm_str (pma_cons pm_str pma_nil)))) pma_nil)))) pma_nil)))) (pms_cons (qset nd 2 (pm_tup (pma_cons pm_str (pma_cons (qv 0) pma_nil)))) (pms_cons (qset nd 3 (pm_tup (pma_cons pm_str (pma_cons (pm_tup (pma_cons pm_str (pma_cons pm_str (pma_cons pm_str pma_nil)))) pma_nil)))) (pms_cons (qset nd 4 (pm_tup (pma_cons pm_str (pma_cons (qv 3) pma_nil)))) (pms_cons (qset nd 5 (pm_tup (pma_cons pm_str (pma_cons (pm_tup (pma_cons pm_str (pma_cons pm_str (pma_cons pm_str (pma_cons (qv 1) pma_nil))))) pma_nil)))) (pms_cons (qset nd 6 (pm_tup (pma_cons pm_str (pma_cons (pm_tup (pma_cons pm_str (pma_cons (qv 0) (pma_cons (qv 2) pma_nil)))) pma_nil)))) (pms_cons (qset nd 7 (pm_tup (pma_cons pm_str (pma_cons pm_str (pma_cons pm_str (pma_cons (pm_tup (pma_cons pm_str (pma_cons pm_str (pma_cons pm_str pma_nil)))) pma_nil)))))) (pms_cons (qset nd 8 (pm_tup (pma_cons pm_str (pma_cons (pm_tup (pma_cons pm_str (pma_cons pm_str (pma_cons pm_str (pma_cons (qv 0) pma_nil))))) (pma_cons pm_str pma_nil))))) (pms_cons (qset nd 9 (pm_tup (pma_cons pm_str (pma_cons (pm_tup (pma_cons pm_str (pma_cons pm_str (pma_cons pm_str (pma_cons pm_str pma_nil))))) pma_nil)))) (pms_cons (qset nd 10 (pm_tup (pma_cons pm_str (pma_cons (pm_tup (pma_cons pm_str (pma_cons pm_str (pma_cons pm_str (pma_cons (qv 0) (pma_cons (qv 0) (pma_cons (qv 0) pma_nil))))))) pma_nil)))) (pms_cons (qset nd 11 (pm_lst (pma_cons (pm_tup (pma_cons pm_str (pma_cons (pm_tup (pma_cons pm_str (pma_cons pm_str (pma_cons pm_str pma_nil)))) (pma_cons pm_str (pma_cons pm_str (pma_cons (qv 1) pma_nil)))))) pma_nil))) (pms_cons (pms_expr (pm_append (qv 11) (pm_tup (pma_cons pm_str (pma_cons (qv 2) pma_nil))))) (pms_cons (pms_expr (pm_append (qv 11) (pm_tup (pma_cons pm_str (pma_cons pm_str pma_nil))))) (pms_cons (pms_expr (pm_append (qv 11) (pm_tup (pma_cons pm_str (pma_cons pm_str (pma_cons pm_str (pma_cons (qv 0) (pma_cons (pm_tup (pma_cons pm_str (pma_cons pm_str pma_nil))) (pma_cons (pm_tup (pma_cons pm_str (pma_cons (qv 7) pma_nil))) pma_nil))))))))) (pms_cons (pms_expr (pm_append (qv 11) (pm_tup (pma_cons pm_str (pma_cons (qv 6) pma_nil))))) (pms_cons (pms_expr (pm_append (qv 11) (pm_tup (pma_cons pm_str (pma_cons (qv 0) (pma_cons pm_str pma_nil)))))) (pms_cons (pms_expr (pm_append (qv 11) (pm_tup (pma_cons pm_str (pma_cons (pm_tup (pma_cons pm_str (pma_cons pm_str pma_nil))) (pma_cons (pm_tup (pma_cons pm_str (pma_cons pm_str pma_nil))) (pma_cons (qv 8) pma_nil))))))) (pms_cons (pms_expr (pm_append (qv 11) (pm_tup (pma_cons pm_str (pma_cons pm_str (pma_cons pm_str (pma_cons (qv 2) (pma_cons (qv 5) pma_nil)))))))) (pms_cons (pms_expr (pm_append (qv 11) (pm_tup (pma_cons pm_str (pma_cons pm_str (pma_cons (qv 5) pma_nil)))))) (pms_cons (pms_expr (pm_append (qv 11) (pm_tup (pma_cons pm_str (pma_cons pm_str (pma_cons pm_str (pma_cons (pm_tup (pma_cons pm_str (pma_cons (pm_tup (pma_cons pm_str (pma_cons pm_str (pma_cons pm_str (pma_cons (qv 1) pma_nil))))) pma_nil))) pma_nil))))))) (pms_cons (pms_expr (pm_append (qv 11) (pm_tup (pma_cons pm_str (pma_cons (qv 6) pma_nil))))) (pms_cons (pms_expr (pm_append (qv 11) (pm_tup (pma_cons pm_str (pma_cons (qv 0) (pma_cons pm_str pma_nil)))))) (pms_cons (pms_expr (pm_append (qv 11) (pm_tup (pma_cons pm_str (pma_cons pm_str (pma_cons (pm_tup (pma_cons pm_str (pma_cons (pm_tup (pma_cons pm_str (pma_cons pm_str (pma_cons (qv 0) pma_nil)))) pma_nil))) pma_nil)))))) (pms_cons (pms_expr (pm_append (qv 11) (pm_tup (pma_cons pm_str (pma_cons pm_str (pma_cons (pm_tup (pma_cons pm_str (pma_cons (qv 2) pma_nil))) pma_nil)))))) (pms_cons (pms_expr (pm_append (qv 11) (pm_tup (pma_cons pm_str (pma_cons (qv 3) (pma_cons (qv 9) pma_nil)))))) (pms_cons (pms_expr (pm_append (qv 11) (pm_tup (pma_cons pm_str (pma_cons (qv 3) (pma_cons (qv 4) pma_nil)))))) (pms_cons (qset nd 12 (pm_tup (pma_cons pm_str (pma_cons pm_str (pma_cons pm_str pma_nil))))) (pms_cons (pms_expr (pm_append (qv 11) (pm_tup (pma_cons pm_str (pma_cons pm_str (pma_cons (qv 12) (pma_cons (qv 4) (pma_cons (pm_tup (pma_cons pm_str (pma_cons pm_str pma_nil))) (pma_cons (qv 9) pma_nil))))))))) (pms_cons (pms_expr (pm_append (qv 11) (pm_tup (pma_cons pm_str (pma_cons pm_str (pma_cons (qv 4) (pma_cons (qv 4) pma_nil))))))) (pms_cons (pms_expr (pm_append (qv 11) (pm_tup (pma_cons pm_str (pma_cons pm_str (pma_cons (qv 10) pma_nil)))))) (pms_cons (pms_expr (pm_append (qv 11) (pm_tup (pma_cons pm_str (pma_cons pm_str (pma_cons (qv 4) pma_nil)))))) (pms_one (pms_ret (qv 11)))))))))))))))))))))))))))))))))))
theorem sc_law_next : FnScope [("_law_pool_here" : Str), ("_law_spot" : Str)] [("_law_pool_here" : Str), ("_law_spot" : Str)] (defScope (top 94)) := ⟨rfl, rfl, rfl, by decide +kernel, rfl, by decide +kernel, by decide +kernel⟩
theorem ok_law_next (C : Ctx P w K mg base) : Okf P w K mg base 1 (He.fAd K d_law_next.at_) 2 F_law_next := by
  obtain ⟨fd, F⟩ := C.fn 15 (d := d_law_next)
  refine ⟨fd, [("_law_pool_here" : Str), ("_law_spot" : Str)], fn_okN F sc_law_next rfl rfl fun cdv A outer s H E hr hc nd hp tk => ?_, F.bindsN (fun _ _ _ _ _ _ us hl => match us, hl with | [_, _], _ => rfl), rfl, F.kp⟩
  exact (pms_cons (pms_setIx (qadd (pm_ix (qv 1) pm_int) pm_int) (qv 1) pm_int rfl rfl (fun h1 h2 => pg_sub h1 h2 set_list)) (pms_one (pms_ret (pm_ix (qv 0) (qmod (pm_callTy call_int3 cc_int rfl (C.free _ (by decide)) boot_int (pma_cons (pm_ix (qv 1) pm_int) pma_nil)) (pm_callB call_len cc_len rfl (C.free _ (by decide)) boot_len (pma_cons (qv 0) pma_nil)))))))
theorem sc_law_number : FnScope [("_law_draw" : Str), ("_law_kind" : Str), ("_law_size" : Str)] [("_law_draw" : Str)] (defScope (top 95)) := ⟨rfl, rfl, rfl, by decide +kernel, rfl, by decide +kernel, by decide +kernel⟩
theorem ok_law_number (C : Ctx P w K mg base) : Okf P w K mg base 1 (He.fAd K d_law_number.at_) 1 F_law_number := by
  obtain ⟨fd, F⟩ := C.fn 16 (d := d_law_number)
  refine ⟨fd, [("_law_draw" : Str)], fn_okN F sc_law_number rfl rfl fun cdv A outer s H E hr hc nd hp tk => ?_, F.bindsN (fun _ _ _ _ _ _ us hl => match us, hl with | [_], _ => rfl), rfl, F.kp⟩
  exact (pms_cons (qset nd 1 (qmod (pm_callTy call_int3 cc_int rfl (C.free _ (by decide)) boot_int (pma_cons (qv 0) pma_nil)) pm_int)) (pms_cons (qset nd 2 (qdiv (qv 0) pm_int)) (pms_cons (pms_if (teq hr (qv 1) pm_int) (pms_one (pms_ret (qneg (qv 2)))) pms_nil) (pms_cons (pms_if (teq hr (qv 1) pm_int) (pms_one (pms_ret (qpow (qadd (qv 2) pm_int) pm_int))) pms_nil) (pms_cons (pms_if (teq hr (qv 1) pm_int) (pms_one (pms_ret (qneg (qpow (qadd (qv 2) pm_int) pm_int)))) pms_nil) (pms_cons (pms_if (pmb_w (pmw_and (teq hr (qv 1) pm_int) (pmw_and1 (teq hr (qmod (pm_callTy call_int3 cc_int rfl (C.free _ (by decide)) boot_int (pma_cons (qv 2) pma_nil)) pm_int) pm_int)))) (pms_one (pms_ret (qmul (qsub (qpow (qpow pm_int pm_int) pm_int) pm_int) (qsub pm_int (qmul (qmod (pm_callTy call_int3 cc_int rfl (C.free _ (by decide)) boot_int (pma_cons (qdiv (qv 2) pm_int) pma_nil)) pm_int) pm_int))))) pms_nil) (pms_one (pms_ret (qv 2)))))))))
theorem sc_law_word : FnScope [("_law_draw" : Str), ("_law_other" : Str), ("_law_first_here" : Str), ("_law_signs" : Str), ("_law_length" : Str), ("_law_word_here" : Str), ("_law_k" : Str), ("_law_at" : Str)] [("_law_draw" : Str), ("_law_other" : Str)] (defScope (top 96)) := ⟨rfl, rfl, rfl, by decide +kernel, rfl, by decide +kernel, by decide +kernel⟩
theorem ok_law_word (C : Ctx P w K mg base) : Okf P w K mg base 1 (He.fAd K d_law_word.at_) 2 F_law_word := by
  obtain ⟨fd, F⟩ := C.fn 17 (d := d_law_word)
  refine ⟨fd, [("_law_draw" : Str), ("_law_other" : Str)], fn_okN F sc_law_word rfl rfl fun cdv A outer s H E hr hc nd hp tk => ?_, F.bindsN (fun _ _ _ _ _ _ us hl => match us, hl with | [_, _], _ => rfl), rfl, F.kp⟩
  exact (pms_cons (qset nd 2 pm_str) (pms_cons (qset nd 3 (qadd (qv 2) pm_str)) (pms_cons (qset nd 4 (pm_ix (pm_fls (pma_cons pm_int (pma_cons pm_int (pma_cons pm_int (pma_cons pm_int (pma_cons pm_int pma_nil)))))) (qmod (pm_callTy call_int3 cc_int rfl (C.free _ (by decide)) boot_int (pma_cons (qv 0) pma_nil)) pm_int))) (pms_cons (qset nd 5 (pm_ix (qv 2) (qmod (pm_callTy call_int3 cc_int rfl (C.free _ (by decide)) boot_int (pma_cons (qdiv (qv 0) pm_int) pma_nil)) pm_int))) (pms_cons (pms_for hp hc (pmi_range1 rfl (C.free _ (by decide)) (qv 4)) (qgn nd 6) (pms_cons (qset nd 7 (qadd (qadd (qv 1) (qmul (qdiv (qv 0) pm_int) (qv 6))) (qmul (qv 6) (qv 6)))) (pms_one (qset nd 5 (qadd (qv 5) (pm_ix (qv 3) (qmod (pm_callTy call_int3 cc_int rfl (C.free _ (by decide)) boot_int (pma_cons (qv 7) pma_nil)) pm_int)))))) (fun h1 h2 h3 => ps_for hp hc h1 h2 h3)) (pms_one (pms_ret (qv 5))))))))
theorem sc_law_note : FnScope [("_law_pool_here" : Str), ("_law_spot" : Str), ("_law_depth" : Str), ("_law_draw" : Str), ("_law_items" : Str), ("_law_k" : Str), ("_law_other" : Str), ("_law_kind" : Str), ("_law_note_here" : Str)] [("_law_pool_here" : Str), ("_law_spot" : Str), ("_law_depth" : Str)] (defScope (top 98)) := ⟨rfl, rfl, rfl, by decide +kernel, rfl, by decide +kernel, by decide +kernel⟩
theorem ok_law_note (C : Ctx P w K mg base) : ∀ k, Okf P w K mg base (k + 1) (He.fAd K d_law_note.at_) 3 (F_law_note k)
  | 0 => by
    obtain ⟨fd, F⟩ := C.fn 18 (d := d_law_note)
    exact ⟨fd, [("_law_pool_here" : Str), ("_law_spot" : Str), ("_law_depth" : Str)], fn_badM rfl, F.bindsN (fun _ _ _ _ _ _ us hl => match us, hl with | [_, _, _], _ => rfl), rfl, F.kp⟩
  | k + 1 => by
    show Okf P w K mg base ((k + 1) + 1) (He.fAd K d_law_note.at_) 3 (F_law_note (k + 1))
    obtain ⟨fd, F⟩ := C.fn 18 (d := d_law_note)
    have oF := ok_law_note C k
    have aF := ar_law_note k
    refine ⟨fd, [("_law_pool_here" : Str), ("_law_spot" : Str), ("_law_depth" : Str)], fn_okN F sc_law_note rfl rfl fun cdv A outer s H E hr hc nd hp tk => ?_, F.bindsN (fun _ _ _ _ _ _ us hl => match us, hl with | [_, _, _], _ => rfl), rfl, F.kp⟩
    exact (pms_cons (qset nd 3 (qcall (ok_law_next C) ar_law_next hr tk (C.glo _ (by decide)) (pma_cons (qv 0) (pma_cons (qv 1) pma_nil)))) (pms_cons (qset nd 4 (pm_lst pma_nil)) (pms_cons (pms_for hp hc (pmi_range1 rfl (C.free _ (by decide)) (qmod (pm_callTy call_int3 cc_int rfl (C.free _ (by decide)) boot_int (pma_cons (qv 3) pma_nil)) pm_int)) (qgn nd 5) (pms_cons (qset nd 6 (qcall (ok_law_next C) ar_law_next hr tk (C.glo _ (by decide)) (pma_cons (qv 0) (pma_cons (qv 1) pma_nil)))) (pms_cons (qset nd 7 (qmod (pm_callTy call_int3 cc_int rfl (C.free _ (by decide)) boot_int (pma_cons (qv 6) pma_nil)) pm_int)) (pms_one (pms_if (pmb_w (pmw_and (teq hr (qv 7) pm_int) (pmw_and1 (tgt hr (qv 2) pm_int)))) (pms_one (pms_expr (pm_append (qv 4) (qcall oF aF hr tk (C.glo _ (by decide)) (pma_cons (qv 0) (pma_cons (qv 1) (pma_cons (qsub (qv 2) pm_int) pma_nil))))))) (pms_one (pms_if (teq hr (qv 7) pm_int) (pms_one (pms_expr (pm_append (qv 4) pm_non))) (pms_one (pms_if (teq hr (qv 7) pm_int) (pms_one (pms_expr (pm_append (qv 4) (qcall (ok_law_word C) ar_law_word hr tk (C.glo _ (by decide)) (pma_cons (qdiv (qv 6) pm_int) (pma_cons (qv 3) pma_nil)))))) (pms_one (pms_expr (pm_append (qv 4) (qcall (ok_law_number C) ar_law_number hr tk (C.glo _ (by decide)) (pma_cons (qdiv (qv 6) pm_int) pma_nil))))))))))))) (fun h1 h2 h3 => ps_for hp hc h1 h2 h3)) (pms_cons (qset nd 8 (pm_callTy call_tuple_of cc_tuple rfl (C.free _ (by decide)) boot_tuple (pma_cons (qv 4) pma_nil))) (pms_cons (pms_if (pmb_w (pmw_and (teq hr (qv 2) pm_int) (pmw_and1 (teq hr (qmod (pm_callTy call_int3 cc_int rfl (C.free _ (by decide)) boot_int (pma_cons (qv 3) pma_nil)) pm_int) pm_int)))) (pms_one (pms_for hp hc (pmi_range1 rfl (C.free _ (by decide)) pm_int) (qgn nd 5) (pms_one (qset nd 8 (pm_tup (pma_cons (qv 8) pma_nil)))) (fun h1 h2 h3 => ps_for hp hc h1 h2 h3))) pms_nil) (pms_one (pms_ret (qv 8))))))))
theorem sc_law_pair : FnScope [("_law_draw" : Str), ("_law_other" : Str), ("_law_top" : Str), ("_law_bottom" : Str), ("_law_left" : Str), ("_law_right" : Str)] [("_law_draw" : Str), ("_law_other" : Str)] (defScope (top 97)) := ⟨rfl, rfl, rfl, by decide +kernel, rfl, by decide +kernel, by decide +kernel⟩
theorem ok_law_pair (C : Ctx P w K mg base) : Okf P w K mg base 1 (He.fAd K d_law_pair.at_) 2 F_law_pair := by
  obtain ⟨fd, F⟩ := C.fn 19 (d := d_law_pair)
  refine ⟨fd, [("_law_draw" : Str), ("_law_other" : Str)], fn_okN F sc_law_pair rfl rfl fun cdv A outer s H E hr hc nd hp tk => ?_, F.bindsN (fun _ _ _ _ _ _ us hl => match us, hl with | [_, _], _ => rfl), rfl, F.kp⟩
  exact (pms_cons (qset nd 2 (qmul (pm_callTy call_int3 cc_int rfl (C.free _ (by decide)) boot_int (pma_cons (qv 0) pma_nil)) (qsub pm_int (qmul (qmod (pm_callTy call_int3 cc_int rfl (C.free _ (by decide)) boot_int (pma_cons (qv 1) pma_nil)) pm_int) pm_int)))) (pms_cons (qset nd 3 (qadd (qv 1) pm_int)) (pms_cons (pms_if (teq hr (qmod (pm_callTy call_int3 cc_int rfl (C.free _ (by decide)) boot_int (pma_cons (qv 0) pma_nil)) pm_int) pm_int) (pms_one (qset nd 2 (qpow (qv 2) pm_int))) pms_nil) (pms_cons (qset nd 4 (pm_callB call_abs cc_abs rfl (C.free _ (by decide)) boot_abs (pma_cons (qv 2) pma_nil))) (pms_cons (qset nd 5 (qv 3)) (pms_cons (pms_while (fun (τ : Env') (_ : Sto) => match τ[5]? with | some (some (D.int i)) => i.natAbs + 1 | _ => 0) hp (tgt hr (qv 5) pm_int) (pms_one (pms_par hc nd (i := 4) (j := 5) rfl rfl (by decide) rfl rfl (pma_cons (qv 5) (pma_cons (qmod (pm_callTy call_int3 cc_int rfl (C.free _ (by decide)) boot_int (pma_cons (qv 4) pma_nil)) (qv 5)) pma_nil)) (fun h => ps_par hc nd rfl rfl (by decide) rfl rfl h rfl)))) (pms_one (pms_ret (pm_tup (pma_cons (qdiv (qv 2) (qv 4)) (pma_cons (qdiv (qv 3) (qv 4)) pma_nil)))))))))))
theorem sc_law_made : FnScope [("_law_pool_here" : Str), ("_law_spot" : Str), ("_law_form" : Str), ("_law_draw" : Str), ("_law_many" : Str), ("_law_part" : Str), ("_law_k" : Str)] [("_law_pool_here" : Str), ("_law_spot" : Str), ("_law_form" : Str)] (defScope (top 99)) := ⟨rfl, rfl, rfl, by decide +kernel, rfl, by decide +kernel, by decide +kernel⟩
theorem ok_law_made (C : Ctx P w K mg base) : ∀ k, Okf P w K mg base (k + 5) (He.fAd K d_law_made.at_) 3 (F_law_made k)
  | 0 => by
    obtain ⟨fd, F⟩ := C.fn 20 (d := d_law_made)
    exact ⟨fd, [("_law_pool_here" : Str), ("_law_spot" : Str), ("_law_form" : Str)], fn_badM rfl, F.bindsN (fun _ _ _ _ _ _ us hl => match us, hl with | [_, _, _], _ => rfl), rfl, F.kp⟩
  | k + 1 => by
    show Okf P w K mg base ((k + 5) + 1) (He.fAd K d_law_made.at_) 3 (F_law_made (k + 1))
    obtain ⟨fd, F⟩ := C.fn 20 (d := d_law_made)
    have oF := ok_law_made C k
    have aF := ar_law_made k
    refine ⟨fd, [("_law_pool_here" : Str), ("_law_spot" : Str), ("_law_form" : Str)], fn_okN F sc_law_made rfl rfl fun cdv A outer s H E hr hc nd hp tk => ?_, F.bindsN (fun _ _ _ _ _ _ us hl => match us, hl with | [_, _, _], _ => rfl), rfl, F.kp⟩
    exact (pms_cons (pms_if (teq hr (qv 2) pm_str) (pms_one (pms_ret (qcall (ok_law_number C) ar_law_number hr tk (C.glo _ (by decide)) (pma_cons (qcall (ok_law_next C) ar_law_next hr tk (C.glo _ (by decide)) (pma_cons (qv 0) (pma_cons (qv 1) pma_nil))) pma_nil)))) pms_nil) (pms_cons (pms_if (teq hr (qv 2) pm_str) (pms_cons (qset nd 3 (qcall (ok_law_next C) ar_law_next hr tk (C.glo _ (by decide)) (pma_cons (qv 0) (pma_cons (qv 1) pma_nil)))) (pms_one (pms_ret (qcall (ok_law_word C) ar_law_word hr tk (C.glo _ (by decide)) (pma_cons (qv 3) (pma_cons (qcall (ok_law_next C) ar_law_next hr tk (C.glo _ (by decide)) (pma_cons (qv 0) (pma_cons (qv 1) pma_nil))) pma_nil)))))) pms_nil) (pms_cons (pms_if (teq hr (qv 2) pm_str) (pms_cons (qset nd 3 (qcall (ok_law_next C) ar_law_next hr tk (C.glo _ (by decide)) (pma_cons (qv 0) (pma_cons (qv 1) pma_nil)))) (pms_one (pms_ret (qcall (ok_law_pair C) ar_law_pair hr tk (C.glo _ (by decide)) (pma_cons (qv 3) (pma_cons (qcall (ok_law_next C) ar_law_next hr tk (C.glo _ (by decide)) (pma_cons (qv 0) (pma_cons (qv 1) pma_nil))) pma_nil)))))) pms_nil) (pms_cons (pms_if (teq hr (qv 2) pm_str) (pms_one (pms_ret (qcall (ok_law_note C 4) (ar_law_note _) hr tk (C.glo _ (by decide)) (pma_cons (qv 0) (pma_cons (qv 1) (pma_cons pm_int pma_nil)))))) pms_nil) (pms_cons (pms_if (teq hr (qv 2) pm_str) (pms_one (pms_ret pm_non)) pms_nil) (pms_cons (pms_if (teq hr (pm_ix (qv 2) pm_int) pm_str) (pms_cons (qset nd 3 (qcall (ok_law_next C) ar_law_next hr tk (C.glo _ (by decide)) (pma_cons (qv 0) (pma_cons (qv 1) pma_nil)))) (pms_one (pms_ret (qcall oF aF hr tk (C.glo _ (by decide)) (pma_cons (qv 0) (pma_cons (qv 1) (pma_cons (pm_ix (qv 2) (qadd pm_int (qmod (pm_callTy call_int3 cc_int rfl (C.free _ (by decide)) boot_int (pma_cons (qv 3) pma_nil)) pm_int))) pma_nil))))))) pms_nil) (pms_cons (pms_if (teq hr (pm_ix (qv 2) pm_int) pm_str) (pms_cons (qset nd 4 (qmod (pm_callTy call_int3 cc_int rfl (C.free _ (by decide)) boot_int (pma_cons (qcall (ok_law_next C) ar_law_next hr tk (C.glo _ (by decide)) (pma_cons (qv 0) (pma_cons (qv 1) pma_nil))) pma_nil)) pm_int)) (pms_one (pms_ret (pm_callTy call_tuple_of cc_tuple rfl (C.free _ (by decide)) boot_tuple (pma_cons (qlc hc nd [(("_law_k" : Str), 6)] (.one 6) (pmi_range1 rfl (C.free _ (by decide)) (qv 4)) (fun _ _ _ _ _ => (pg_name nd rfl (by first | exact Or.inl rfl | exact Or.inr rfl))) (fun _ _ _ _ _ => (qcall oF aF hr takes0 (C.glo _ (by decide)) (pma_cons (qv 0) (pma_cons (qv 1) (pma_cons (pm_ix (qv 2) pm_int) pma_nil)))))) pma_nil))))) pms_nil) (pms_one (pms_ret (pm_callTy call_tuple_of cc_tuple rfl (C.free _ (by decide)) boot_tuple (pma_cons (qlc hc nd [(("_law_part" : Str), 5)] (.one 5) (pmi_seq (pm_slice (qv 2) (pmo_some pm_int) pmo_none)) (fun _ _ _ _ _ => (pg_name nd rfl (by first | exact Or.inl rfl | exact Or.inr rfl))) (fun _ _ _ _ _ => (qcall oF aF hr takes0 (C.glo _ (by decide)) (pma_cons (qv 0) (pma_cons (qv 1) (pma_cons (qv 5) pma_nil)))))) pma_nil)))))))))))
theorem sc_law_pick : FnScope [("_law_pool_here" : Str), ("_law_at" : Str), ("_law_many" : Str), ("_law_low" : Str)] [("_law_pool_here" : Str), ("_law_at" : Str), ("_law_many" : Str), ("_law_low" : Str)] (defScope (top 92)) := ⟨rfl, rfl, rfl, by decide +kernel, rfl, by decide +kernel, by decide +kernel⟩
theorem okb_law_pick (C : Ctx P w K mg base) : ∃ fd, FnOk P w K mg base (L2.CX P w) 1 (He.fAd K d_law_pick.at_) fd [("_law_pool_here" : Str), ("_law_at" : Str), ("_law_many" : Str), ("_law_low" : Str)] (spM K mg 4 F_law_pick) ∧ FunD K d_law_pick.name d_law_pick.qual d_law_pick.params d_law_pick.body d_law_pick.scope (d_law_pick.dvs K) (d_law_pick.kws K) (He.fAd K d_law_pick.at_) fd := by
  obtain ⟨fd, F⟩ := C.fn 21 (d := d_law_pick)
  refine ⟨fd, fn_okN F sc_law_pick rfl rfl fun cdv A outer s H E hr hc nd hp tk => ?_, F⟩
  exact (pms_one (pms_ret (qmod (pm_callTy call_int3 cc_int rfl (C.free _ (by decide)) boot_int (pma_cons (qdiv (pm_ix (qv 0) (qv 1)) (qv 3)) pma_nil)) (qv 2))))
theorem ok_law_pickD (C : Ctx P w K mg base) : OkD P w K mg base 1 (He.fAd K d_law_pick.at_) 4 [.int 1] [.int 1] F_law_pick := by
  obtain ⟨fd, h, F⟩ := okb_law_pick C
  obtain ⟨ds, h1, h2⟩ := F.binds1 (ps := [("_law_pool_here" : Str), ("_law_at" : Str), ("_law_many" : Str), ("_law_low" : Str)]) 3 0 (List.cons_ne_nil _ _) rfl (fun T kV doc pm an cdv ct us its hl hi => match us, its, hl, hi with | [_, _, _], [_], _, _ => ⟨_, rfl, rfl⟩)
  exact ⟨fd, _, ds, h, h2, h1, rfl, F.kp⟩
theorem sc_law_pool : FnScope [("_law_script" : Str), ("_law_text_here" : Str), ("_law_pool_here" : Str), ("_law_k" : Str), ("_law_size" : Str), ("_law_j" : Str), ("_law_mixed" : Str), ("_law_total" : Str), ("_law_first_here" : Str)] [("_law_script" : Str)] (defScope (top 91)) := ⟨rfl, rfl, rfl, by decide +kernel, rfl, by decide +kernel, by decide +kernel⟩
theorem ok_law_pool (C : Ctx P w K mg base) : Okf P w K mg base 1 (He.fAd K d_law_pool.at_) 1 F_law_pool := by
  obtain ⟨fd, F⟩ := C.fn 22 (d := d_law_pool)
  refine ⟨fd, [("_law_script" : Str)], fn_okN F sc_law_pool rfl rfl fun cdv A outer s H E hr hc nd hp tk => ?_, F.bindsN (fun _ _ _ _ _ _ us hl => match us, hl with | [_], _ => rfl), rfl, F.kp⟩
  exact (pms_cons (qset nd 1 pm_str) (pms_cons (qset nd 2 (pm_lst pma_nil)) (pms_cons (pms_for hp hc (pmi_range1 rfl (C.free _ (by decide)) (pm_callB (call_min2 hc) cc_min rfl (C.free _ (by decide)) boot_min (pma_cons (pm_callB call_len cc_len rfl (C.free _ (by decide)) boot_len (pma_cons (qv 0) pma_nil)) (pma_cons pm_int pma_nil)))) (qgn nd 3) (pms_cons (qset nd 4 (pm_callB call_abs cc_abs rfl (C.free _ (by decide)) boot_abs (pma_cons (pm_ix (qv 0) (qv 3)) pma_nil))) (pms_one (pms_if (tge hr (qv 4) (qpow pm_int pm_int)) (pms_cons (qset nd 4 (qmod (pm_callTy call_int3 cc_int rfl (C.free _ (by decide)) boot_int (pma_cons (qv 4) pma_nil)) (qpow pm_int pm_int))) (pms_one (pms_for hp hc (pmi_range1 rfl (C.free _ (by decide)) pm_int) (qgn nd 5) (pms_one (pms_if (tgt hr (qv 4) pm_int) (pms_cons (pms_expr (pm_append (qv 2) (qmod (pm_callTy call_int3 cc_int rfl (C.free _ (by decide)) boot_int (pma_cons (qv 4) pma_nil)) pm_int))) (pms_one (qset nd 4 (qdiv (qv 4) pm_int)))) pms_nil)) (fun h1 h2 h3 => ps_for hp hc h1 h2 h3)))) (pms_cons (qset nd 4 (qadd (qadd (qmul pm_int (qv 4)) (pm_callTy call_int3 cc_int rfl (C.free _ (by decide)) boot_int (pma_cons (qlt hr (pm_ix (qv 0) (qv 3)) pm_int) pma_nil))) (qmul pm_int (qv 3)))) (pms_one (pms_for hp hc (pmi_range1 rfl (C.free _ (by decide)) pm_int) (qgn nd 5) (pms_cons (qset nd 6 (qpow (qadd (qadd (qmul (qv 4) pm_int) (qmul (qv 5) pm_int)) pm_int) pm_int)) (pms_one (pms_expr (pm_append (qv 2) (qdiv (qmod (pm_callTy call_int3 cc_int rfl (C.free _ (by decide)) boot_int (pma_cons (qv 6) pma_nil)) pm_int) pm_int))))) (fun h1 h2 h3 => ps_for hp hc h1 h2 h3))))))) (fun h1 h2 h3 => ps_for hp hc h1 h2 h3)) (pms_cons (qset nd 7 (pm_callB (cr_sum hc) cc_sum rfl (C.free _ (by decide)) boot_sum (pma_cons (qv 2) pma_nil))) (pms_cons (pms_for hp hc (pmi_range1 rfl (C.free _ (by decide)) pm_int) (qgn nd 3) (pms_cons (qset nd 8 (pm_callTy call_int3 cc_int rfl (C.free _ (by decide)) boot_int (pma_cons (pm_ix (qv 1) (qmod (pm_callTy call_int3 cc_int rfl (C.free _ (by decide)) boot_int (pma_cons (qadd (qadd (qmul (qv 3) pm_int) (qmul (qdiv (qv 3) pm_int) pm_int)) (qv 7)) pma_nil)) pm_int)) pma_nil))) (pms_one (pms_expr (pm_append (qv 2) (qadd (qmul pm_int (qv 8)) (pm_callTy call_int3 cc_int rfl (C.free _ (by decide)) boot_int (pma_cons (pm_ix (qv 1) (qmod (pm_callTy call_int3 cc_int rfl (C.free _ (by decide)) boot_int (pma_cons (qadd (qv 3) (qdiv (qv 7) pm_int)) pma_nil)) pm_int)) pma_nil))))))) (fun h1 h2 h3 => ps_for hp hc h1 h2 h3)) (pms_one (pms_ret (qv 2))))))))
theorem sc_Verdict_init : FnScope [("self" : Str), ("words" : Str)] [("self" : Str), ("words" : Str)] (defScope (meth 56 0)) := ⟨rfl, rfl, rfl, by decide +kernel, rfl, by decide +kernel, by decide +kernel⟩
theorem ok_Verdict_init (C : Ctx P w K mg base) : Okf P w K mg base 1 (He.fAd K d_Verdict_init.at_) 2 F_Verdict_init := by
  obtain ⟨fd, F⟩ := C.fn 23 (d := d_Verdict_init)
  refine ⟨fd, [("self" : Str), ("words" : Str)], fn_okN F sc_Verdict_init rfl rfl fun cdv A outer s H E hr hc nd hp tk => ?_, F.bindsN (fun _ _ _ _ _ _ us hl => match us, hl with | [_, _], _ => rfl), rfl, F.kp⟩
  exact (pms_one (pms_fld C.ct (qv 0) (qv 1)))
theorem sc_Broken_init : NdefX.NScope [("self" : Str), ("words" : Str), ("book" : Str), ("__class__" : Str)] [("self" : Str), ("words" : Str), ("book" : Str)] [("__class__" : Str)] (defScope (meth 58 0)) := NdefX.nscope_by (by decide +kernel)
theorem ok_Broken_init (C : Ctx P w K mg base) : Okc P w K mg base 2 (He.ga K ("Broken" : Str)) 2 F_Broken_init := by
  obtain ⟨cc, c, T⟩ := C.broken
  exact okc_of (C.mk_ _ (by decide)) (fnok_super (N := [("self" : Str), ("words" : Str), ("book" : Str), ("__class__" : Str)]) (ps := [("self" : Str), ("words" : Str), ("book" : Str)]) T sc_Broken_init rfl (C.glo _ (by decide)) rfl rfl (fun _ _ _ us hl => match us, hl with | [_, _, _], _ => rfl) rfl ⟨_, rfl, rfl⟩ rfl (ok_Verdict_init C) ar_Verdict_init fun A outer s H E hr => ⟨rfl, ⟨_, rfl⟩, rfl, rfl, pma_cons (qv 1) pma_nil, pms_one (pms_fld C.ct (qv 0) (qv 2))⟩) rfl
theorem sc_Kept_init : NdefX.NScope [("self" : Str), ("words" : Str), ("rows" : Str), ("__class__" : Str)] [("self" : Str), ("words" : Str), ("rows" : Str)] [("__class__" : Str)] (defScope (meth 57 0)) := NdefX.nscope_by (by decide +kernel)
theorem ok_Kept_init (C : Ctx P w K mg base) : Okc P w K mg base 2 (He.ga K ("Kept" : Str)) 2 F_Kept_init := by
  obtain ⟨cc, c, T⟩ := C.kept
  exact okc_of (C.mk_ _ (by decide)) (fnok_super (N := [("self" : Str), ("words" : Str), ("rows" : Str), ("__class__" : Str)]) (ps := [("self" : Str), ("words" : Str), ("rows" : Str)]) T sc_Kept_init rfl (C.glo _ (by decide)) rfl rfl (fun _ _ _ us hl => match us, hl with | [_, _, _], _ => rfl) rfl ⟨_, rfl, rfl⟩ rfl (ok_Verdict_init C) ar_Verdict_init fun A outer s H E hr => ⟨rfl, ⟨_, rfl⟩, rfl, rfl, pma_cons (qv 1) pma_nil, pms_one (pms_fld C.ct (qv 0) (qv 2))⟩) rfl
theorem sc_PairBook_init : FnScope [("self" : Str), ("relation" : Str), ("book" : Str)] [("self" : Str), ("relation" : Str), ("book" : Str)] (defScope (meth 50 0)) := ⟨rfl, rfl, rfl, by decide +kernel, rfl, by decide +kernel, by decide +kernel⟩
theorem ok_PairBook_init (C : Ctx P w K mg base) : Okc P w K mg base 1 (He.ga K ("PairBook" : Str)) 2 F_PairBook_init := by
  obtain ⟨fd, F⟩ := C.fn 24 (d := d_PairBook_init)
  refine ⟨_, fd, [("self" : Str), ("relation" : Str), ("book" : Str)], C.mk_ _ (by decide), fn_okN F sc_PairBook_init rfl rfl fun cdv A outer s H E hr hc nd hp tk => ?_, F.bindsN (fun _ _ _ _ _ _ us hl => match us, hl with | [_, _, _], _ => rfl), rfl⟩
  exact (pms_cons (pms_fld C.ct (qv 0) (qv 1)) (pms_one (pms_fld C.ct (qv 0) (qv 2))))
theorem sc_PairTable_init : FnScope [("self" : Str), ("relation" : Str), ("rows" : Str)] [("self" : Str), ("relation" : Str), ("rows" : Str)] (defScope (meth 49 0)) := ⟨rfl, rfl, rfl, by decide +kernel, rfl, by decide +kernel, by decide +kernel⟩
theorem ok_PairTable_init (C : Ctx P w K mg base) : Okc P w K mg base 1 (He.ga K ("PairTable" : Str)) 2 F_PairTable_init := by
  obtain ⟨fd, F⟩ := C.fn 25 (d := d_PairTable_init)
  refine ⟨_, fd, [("self" : Str), ("relation" : Str), ("rows" : Str)], C.mk_ _ (by decide), fn_okN F sc_PairTable_init rfl rfl fun cdv A outer s H E hr hc nd hp tk => ?_, F.bindsN (fun _ _ _ _ _ _ us hl => match us, hl with | [_, _, _], _ => rfl), rfl⟩
  exact (pms_cons (pms_fld C.ct (qv 0) (qv 1)) (pms_one (pms_fld C.ct (qv 0) (qv 2))))
theorem sc_WaitBound_init : FnScope [("self" : Str), ("hours" : Str), ("name" : Str), ("book" : Str), ("shapes" : Str), ("rows" : Str)] [("self" : Str), ("hours" : Str), ("name" : Str), ("book" : Str), ("shapes" : Str), ("rows" : Str)] (defScope (meth 60 0)) := ⟨rfl, rfl, rfl, by decide +kernel, rfl, by decide +kernel, by decide +kernel⟩
theorem ok_WaitBound_init (C : Ctx P w K mg base) : Okc P w K mg base 1 (He.ga K ("WaitBound" : Str)) 5 F_WaitBound_init := by
  obtain ⟨fd, F⟩ := C.fn 26 (d := d_WaitBound_init)
  refine ⟨_, fd, [("self" : Str), ("hours" : Str), ("name" : Str), ("book" : Str), ("shapes" : Str), ("rows" : Str)], C.mk_ _ (by decide), fn_okN F sc_WaitBound_init rfl rfl fun cdv A outer s H E hr hc nd hp tk => ?_, F.bindsN (fun _ _ _ _ _ _ us hl => match us, hl with | [_, _, _, _, _, _], _ => rfl), rfl⟩
  exact (pms_cons (pms_fld C.ct (qv 0) (qv 1)) (pms_cons (pms_fld C.ct (qv 0) (qv 2)) (pms_cons (pms_fld C.ct (qv 0) (qv 3)) (pms_cons (pms_fld C.ct (qv 0) (qv 4)) (pms_one (pms_fld C.ct (qv 0) (qv 5)))))))
theorem sc_WaitRing_init : FnScope [("self" : Str), ("name" : Str), ("book" : Str), ("ring" : Str)] [("self" : Str), ("name" : Str), ("book" : Str), ("ring" : Str)] (defScope (meth 61 0)) := ⟨rfl, rfl, rfl, by decide +kernel, rfl, by decide +kernel, by decide +kernel⟩
theorem ok_WaitRing_init (C : Ctx P w K mg base) : Okc P w K mg base 1 (He.ga K ("WaitRing" : Str)) 3 F_WaitRing_init := by
  obtain ⟨fd, F⟩ := C.fn 27 (d := d_WaitRing_init)
  refine ⟨_, fd, [("self" : Str), ("name" : Str), ("book" : Str), ("ring" : Str)], C.mk_ _ (by decide), fn_okN F sc_WaitRing_init rfl rfl fun cdv A outer s H E hr hc nd hp tk => ?_, F.bindsN (fun _ _ _ _ _ _ us hl => match us, hl with | [_, _, _, _], _ => rfl), rfl⟩
  exact (pms_cons (pms_fld C.ct (qv 0) (qv 1)) (pms_cons (pms_fld C.ct (qv 0) (qv 2)) (pms_one (pms_fld C.ct (qv 0) (qv 3)))))
theorem sc_certificate_of_books : FnScope [("word" : Str), ("items" : Str), ("other_word" : Str)] [("word" : Str), ("items" : Str)] (defScope (top 87)) := ⟨rfl, rfl, rfl, by decide +kernel, rfl, by decide +kernel, by decide +kernel⟩
theorem ok_certificate_of_books (C : Ctx P w K mg base) : Okf P w K mg base 5 (He.fAd K d_certificate_of_books.at_) 2 F_certificate_of_books := by
  obtain ⟨fd, F⟩ := C.fn 28 (d := d_certificate_of_books)
  refine ⟨fd, [("word" : Str), ("items" : Str)], fn_okN F sc_certificate_of_books rfl rfl fun cdv A outer s H E hr hc nd hp tk => ?_, F.bindsN (fun _ _ _ _ _ _ us hl => match us, hl with | [_, _], _ => rfl), rfl, F.kp⟩
  exact (pms_one (pms_match hc nd (qv 0) (.cons (.one .val rfl) (pms_one (pms_ret (qnewS (ok_Kept_init C) ar_Kept_init hr (C.glo _ (by decide)) (qv 1)))) (.cons (.one .val rfl) (pms_one (pms_ret (qnewS (ok_Broken_init C) ar_Broken_init hr (C.glo _ (by decide)) (qv 1)))) (.cons (.one .val rfl) (pms_one (pms_ret (qnewS (ok_WaitBound_init C) ar_WaitBound_init hr (C.glo _ (by decide)) (qv 1)))) (.cons (.one .val rfl) (pms_one (pms_ret (qnewS (ok_WaitRing_init C) ar_WaitRing_init hr (C.glo _ (by decide)) (qv 1)))) (.cons (.one .val rfl) (pms_one (pms_ret (qnewS (ok_PairTable_init C) ar_PairTable_init hr (C.glo _ (by decide)) (qv 1)))) (.cons (.one (.cap (i := 2) rfl (by first | exact Or.inl rfl | exact Or.inr rfl) (by first | exact .inl rfl | exact .inr rfl)) rfl) (pms_one (pms_ret (qnewS (ok_PairBook_init C) ar_PairBook_init hr (C.glo _ (by decide)) (qv 1)))) .nil))))))))
theorem sc_Frail_init : FnScope [("self" : Str), ("machines" : Str), ("node" : Str)] [("self" : Str), ("machines" : Str), ("node" : Str)] (defScope (meth 38 0)) := ⟨rfl, rfl, rfl, by decide +kernel, rfl, by decide +kernel, by decide +kernel⟩
theorem ok_Frail_init (C : Ctx P w K mg base) : Okc P w K mg base 1 (He.ga K ("Frail" : Str)) 2 F_Frail_init := by
  obtain ⟨fd, F⟩ := C.fn 29 (d := d_Frail_init)
  refine ⟨_, fd, [("self" : Str), ("machines" : Str), ("node" : Str)], C.mk_ _ (by decide), fn_okN F sc_Frail_init rfl rfl fun cdv A outer s H E hr hc nd hp tk => ?_, F.bindsN (fun _ _ _ _ _ _ us hl => match us, hl with | [_, _, _], _ => rfl), rfl⟩
  exact (pms_cons (pms_fld C.ct (qv 0) (qv 1)) (pms_one (pms_fld C.ct (qv 0) (qv 2))))
theorem sc_MovePlan_init : FnScope [("self" : Str), ("machine" : Str), ("moves" : Str)] [("self" : Str), ("machine" : Str), ("moves" : Str)] (defScope (meth 46 0)) := ⟨rfl, rfl, rfl, by decide +kernel, rfl, by decide +kernel, by decide +kernel⟩
theorem ok_MovePlan_init (C : Ctx P w K mg base) : Okc P w K mg base 1 (He.ga K ("MovePlan" : Str)) 2 F_MovePlan_init := by
  obtain ⟨fd, F⟩ := C.fn 30 (d := d_MovePlan_init)
  refine ⟨_, fd, [("self" : Str), ("machine" : Str), ("moves" : Str)], C.mk_ _ (by decide), fn_okN F sc_MovePlan_init rfl rfl fun cdv A outer s H E hr hc nd hp tk => ?_, F.bindsN (fun _ _ _ _ _ _ us hl => match us, hl with | [_, _, _], _ => rfl), rfl⟩
  exact (pms_cons (pms_fld C.ct (qv 0) (qv 1)) (pms_one (pms_fld C.ct (qv 0) (qv 2))))
theorem sc_Stuck_init : FnScope [("self" : Str), ("machine" : Str), ("places" : Str)] [("self" : Str), ("machine" : Str), ("places" : Str)] (defScope (meth 47 0)) := ⟨rfl, rfl, rfl, by decide +kernel, rfl, by decide +kernel, by decide +kernel⟩
theorem ok_Stuck_init (C : Ctx P w K mg base) : Okc P w K mg base 1 (He.ga K ("Stuck" : Str)) 2 F_Stuck_init := by
  obtain ⟨fd, F⟩ := C.fn 31 (d := d_Stuck_init)
  refine ⟨_, fd, [("self" : Str), ("machine" : Str), ("places" : Str)], C.mk_ _ (by decide), fn_okN F sc_Stuck_init rfl rfl fun cdv A outer s H E hr hc nd hp tk => ?_, F.bindsN (fun _ _ _ _ _ _ us hl => match us, hl with | [_, _, _], _ => rfl), rfl⟩
  exact (pms_cons (pms_fld C.ct (qv 0) (qv 1)) (pms_one (pms_fld C.ct (qv 0) (qv 2))))
theorem sc_Survival_init : FnScope [("self" : Str), ("rows" : Str)] [("self" : Str), ("rows" : Str)] (defScope (meth 37 0)) := ⟨rfl, rfl, rfl, by decide +kernel, rfl, by decide +kernel, by decide +kernel⟩
theorem ok_Survival_init (C : Ctx P w K mg base) : Okc P w K mg base 1 (He.ga K ("Survival" : Str)) 1 F_Survival_init := by
  obtain ⟨fd, F⟩ := C.fn 32 (d := d_Survival_init)
  refine ⟨_, fd, [("self" : Str), ("rows" : Str)], C.mk_ _ (by decide), fn_okN F sc_Survival_init rfl rfl fun cdv A outer s H E hr hc nd hp tk => ?_, F.bindsN (fun _ _ _ _ _ _ us hl => match us, hl with | [_, _], _ => rfl), rfl⟩
  exact (pms_one (pms_fld C.ct (qv 0) (qv 1)))
theorem sc_read_share : FnScope [("pair" : Str), ("top" : Str), ("bottom" : Str), ("share" : Str)] [("pair" : Str)] (defScope (top 89)) := ⟨rfl, rfl, rfl, by decide +kernel, rfl, by decide +kernel, by decide +kernel⟩
theorem ok_read_share (C : Ctx P w K mg base) : Okf P w K mg base 4 (He.fAd K d_read_share.at_) 1 F_read_share := by
  obtain ⟨fd, F⟩ := C.fn 33 (d := d_read_share)
  refine ⟨fd, [("pair" : Str)], fn_okN F sc_read_share rfl rfl fun cdv A outer s H E hr hc nd hp tk => ?_, F.bindsN (fun _ _ _ _ _ _ us hl => match us, hl with | [_], _ => rfl), rfl, F.kp⟩
  exact (pms_cons (pms_asg (qv 0) (pmg_tup hc (pmgs_cons (qgn nd 1) (pmgs_cons (qgn nd 2) pmgs_nil)))) (pms_cons (pms_if (tlt hr (qv 2) pm_int) (pms_one (qraise C hr tk pm_str)) pms_nil) (pms_cons (qset nd 3 (qnew (ok_Share_init C) ar_Share_init hr (C.glo _ (by decide)) (pma_cons (qv 1) (pma_cons (qv 2) pma_nil)))) (pms_cons (pms_if (tne hr (pm_fld C.ct (qv 3)) (qv 2)) (pms_one (qraise C hr tk pm_str)) pms_nil) (pms_one (pms_ret (qv 3)))))))
theorem sc_read_levels : FnScope [("resource" : Str), ("amount" : Str), ("wanted" : Str), ("shares" : Str), ("rows" : Str), ("read_rows" : Str), ("group" : Str), ("mode" : Str), ("pair" : Str), ("level" : Str), ("read_shares" : Str)] [("resource" : Str), ("amount" : Str), ("wanted" : Str), ("shares" : Str), ("rows" : Str)] (defScope (top 88)) := ⟨rfl, rfl, rfl, by decide +kernel, rfl, by decide +kernel, by decide +kernel⟩
theorem ok_read_levels (C : Ctx P w K mg base) : Okf P w K mg base 5 (He.fAd K d_read_levels.at_) 5 F_read_levels := by
  obtain ⟨fd, F⟩ := C.fn 34 (d := d_read_levels)
  refine ⟨fd, [("resource" : Str), ("amount" : Str), ("wanted" : Str), ("shares" : Str), ("rows" : Str)], fn_okN F sc_read_levels rfl rfl fun cdv A outer s H E hr hc nd hp tk => ?_, F.bindsN (fun _ _ _ _ _ _ us hl => match us, hl with | [_, _, _, _, _], _ => rfl), rfl, F.kp⟩
  exact (pms_cons (qset nd 5 (pm_lst pma_nil)) (pms_cons (pms_for hp hc (pmi_seq (qv 4)) (pmg_tup hc (pmgs_cons (qgn nd 6) (pmgs_cons (qgn nd 7) (pmgs_cons (qgn nd 8) pmgs_nil)))) (pms_cons (qset nd 9 pm_non) (pms_cons (pms_if (tnis hr (qv 8) pm_non) (pms_one (qset nd 9 (qcall (ok_read_share C) ar_read_share hr tk (C.glo _ (by decide)) (pma_cons (qv 8) pma_nil)))) pms_nil) (pms_one (pms_expr (pm_append (qv 5) (pm_tup (pma_cons (qv 6) (pma_cons (qv 7) (pma_cons (qv 9) pma_nil))))))))) (fun h1 h2 h3 => ps_for hp hc h1 h2 h3)) (pms_cons (qset nd 10 (pm_callTy call_tuple_of cc_tuple rfl (C.free _ (by decide)) boot_tuple (pma_cons (qlcX rfl rfl tk hc nd [(("pair" : Str), 8)] (.one 8) (pmi_seq (qv 3)) (fun _ _ _ _ _ _ => pg_name (by exact nd) rfl (by first | exact Or.inl rfl | exact Or.inr rfl)) (fun E _ _ _ _ _ _ hx => qcallX (ok_read_share C) ar_read_share hr hx (C.glo _ (by decide)) (pma_cons (qv 8) pma_nil))) pma_nil))) (pms_one (pms_ret (qnew (ok_Levels_init C) ar_Levels_init hr (C.glo _ (by decide)) (pma_cons (qv 0) (pma_cons (qcall (ok_read_share C) ar_read_share hr tk (C.glo _ (by decide)) (pma_cons (qv 1) pma_nil)) (pma_cons (qv 2) (pma_cons (qv 10) (pma_cons (pm_callTy call_tuple_of cc_tuple rfl (C.free _ (by decide)) boot_tuple (pma_cons (qv 5) pma_nil)) pma_nil)))))))))))
theorem sc_certificate_of_states : FnScope [("word" : Str), ("items" : Str), ("other_word" : Str)] [("word" : Str), ("items" : Str)] (defScope (top 86)) := ⟨rfl, rfl, rfl, by decide +kernel, rfl, by decide +kernel, by decide +kernel⟩
theorem ok_certificate_of_states (C : Ctx P w K mg base) : Okf P w K mg base 6 (He.fAd K d_certificate_of_states.at_) 2 F_certificate_of_states := by
  obtain ⟨fd, F⟩ := C.fn 35 (d := d_certificate_of_states)
  refine ⟨fd, [("word" : Str), ("items" : Str)], fn_okN F sc_certificate_of_states rfl rfl fun cdv A outer s H E hr hc nd hp tk => ?_, F.bindsN (fun _ _ _ _ _ _ us hl => match us, hl with | [_, _], _ => rfl), rfl, F.kp⟩
  exact (pms_one (pms_match hc nd (qv 0) (.cons (.one .val rfl) (pms_one (pms_ret (qnewS (ok_Shortage_init C) ar_Shortage_init hr (C.glo _ (by decide)) (qv 1)))) (.cons (.one .val rfl) (pms_one (pms_ret (qnewS (ok_Packing_init C) ar_Packing_init hr (C.glo _ (by decide)) (qv 1)))) (.cons (.one .val rfl) (pms_one (pms_ret (qnewS (ok_CaseTree_init C) ar_CaseTree_init hr (C.glo _ (by decide)) (qv 1)))) (.cons (.one .val rfl) (pms_one (pms_ret (qcallS (ok_read_levels C) ar_read_levels hr tk (C.glo _ (by decide)) (qv 1)))) (.cons (.one .val rfl) (pms_one (pms_ret (qnewS (ok_FloorPlan_init C) ar_FloorPlan_init hr (C.glo _ (by decide)) (qv 1)))) (.cons (.one .val rfl) (pms_one (pms_ret (qnewS (ok_Crowded_init C) ar_Crowded_init hr (C.glo _ (by decide)) (qv 1)))) (.cons (.one .val rfl) (pms_one (pms_ret (qnewS2 (ok_Settlement_init C) ar_Settlement_init hr (C.glo _ (by decide)) (pma_star (qv 1) (pma_cons pm_non pma_nil))))) (.cons (.one .val rfl) (pms_one (pms_ret (qnewS (ok_Quote_init C) ar_Quote_init hr (C.glo _ (by decide)) (qv 1)))) (.cons (.one .val rfl) (pms_one (pms_ret (qnewS (ok_NoQuote_init C) ar_NoQuote_init hr (C.glo _ (by decide)) (qv 1)))) (.cons (.one .val rfl) (pms_one (pms_ret (qnewS (ok_Blockers_init C) ar_Blockers_init hr (C.glo _ (by decide)) (qv 1)))) (.cons (.one .val rfl) (pms_one (pms_ret (qnewS (ok_Survival_init C) ar_Survival_init hr (C.glo _ (by decide)) (qv 1)))) (.cons (.one .val rfl) (pms_one (pms_ret (qnewS (ok_Frail_init C) ar_Frail_init hr (C.glo _ (by decide)) (qv 1)))) (.cons (.one .val rfl) (pms_one (pms_ret (qnewS (ok_MovePlan_init C) ar_MovePlan_init hr (C.glo _ (by decide)) (qv 1)))) (.cons (.one (.cap (i := 2) rfl (by first | exact Or.inl rfl | exact Or.inr rfl) (by first | exact .inl rfl | exact .inr rfl)) rfl) (pms_one (pms_ret (qnewS (ok_Stuck_init C) ar_Stuck_init hr (C.glo _ (by decide)) (qv 1)))) .nil))))))))))))))))
theorem sc_has_form : FnScope [("note" : Str), ("form" : Str), ("each" : Str), ("parts" : Str), ("choices" : Str), ("item" : Str), ("part" : Str), ("choice" : Str)] [("note" : Str), ("form" : Str)] (defScope (top 23)) := ⟨rfl, rfl, rfl, by decide +kernel, rfl, by decide +kernel, by decide +kernel⟩
theorem ok_has_form (C : Ctx P w K mg base) : ∀ k, Okf P w K mg base (k + 0) (He.fAd K d_has_form.at_) 2 (F_has_form k)
  | 0 => by
    obtain ⟨fd, F⟩ := C.fn 36 (d := d_has_form)
    exact ⟨fd, [("note" : Str), ("form" : Str)], fn_badM rfl, F.bindsN (fun _ _ _ _ _ _ us hl => match us, hl with | [_, _], _ => rfl), rfl, F.kp⟩
  | k + 1 => by
    show Okf P w K mg base ((k + 0) + 1) (He.fAd K d_has_form.at_) 2 (F_has_form (k + 1))
    obtain ⟨fd, F⟩ := C.fn 36 (d := d_has_form)
    have oF := ok_has_form C k
    have aF := ar_has_form k
    refine ⟨fd, [("note" : Str), ("form" : Str)], fn_okN F sc_has_form rfl rfl fun cdv A outer s H E hr hc nd hp tk => ?_, F.bindsN (fun _ _ _ _ _ _ us hl => match us, hl with | [_, _], _ => rfl), rfl, F.kp⟩
    exact (pms_cons (pms_match hc nd (qv 1) (.cons (.seq (.cons .val .nil) rfl rfl) (pms_one (pms_ret (pm_callB call_isi (cc_isi C.isa) rfl (C.free _ (by decide)) boot_isinstance (pma_cons (qv 0) (pma_cons (qty (C.free _ (by decide)) boot_int) pma_nil))))) (.cons (.seq (.cons .val .nil) rfl rfl) (pms_one (pms_ret (pm_callB call_isi (cc_isi C.isa) rfl (C.free _ (by decide)) boot_isinstance (pma_cons (qv 0) (pma_cons (qty (C.free _ (by decide)) boot_str) pma_nil))))) (.cons (.seq (.cons .val .nil) rfl rfl) (pms_one (pms_ret (qis hr (qv 0) pm_non))) (.cons (.seq (.cons .val (.cons (.cap (i := 2) rfl (by first | exact Or.inl rfl | exact Or.inr rfl) (by first | exact .inl rfl | exact .inr rfl)) .nil)) rfl rfl) (pms_one (pms_ret (pm_and (pm_callB call_isi (cc_isi C.isa) rfl (C.free _ (by decide)) boot_isinstance (pma_cons (qv 0) (pma_cons (qty (C.free _ (by decide)) boot_tuple) pma_nil))) (pm_one (pm_callB (cr_all hc) cc_all rfl (C.free _ (by decide)) boot_all (pma_cons (qlc hc nd [(("item" : Str), 5)] (.one 5) (pmi_seq (qv 0)) (fun _ _ _ _ _ => (pg_name nd rfl (by first | exact Or.inl rfl | exact Or.inr rfl))) (fun _ _ _ _ _ => (qcall oF aF hr takes0 (C.glo _ (by decide)) (pma_cons (qv 5) (pma_cons (qv 2) pma_nil))))) pma_nil)))))) (.cons (.seqS (k := 0) (.cons .val (.cons (.star (i := 3) rfl (by first | exact Or.inl rfl | exact Or.inr rfl) (by first | exact .inl rfl | exact .inr rfl)) .nil)) rfl rfl rfl rfl) (pms_cons (pms_if (pmb_w (pmw_or (pmb_not (pmb_val (pm_callB call_isi (cc_isi C.isa) rfl (C.free _ (by decide)) boot_isinstance (pma_cons (qv 0) (pma_cons (qty (C.free _ (by decide)) boot_tuple) pma_nil))))) (pmw_or1 (tne hr (pm_callB call_len cc_len rfl (C.free _ (by decide)) boot_len (pma_cons (qv 0) pma_nil)) (pm_callB call_len cc_len rfl (C.free _ (by decide)) boot_len (pma_cons (qv 3) pma_nil)))))) (pms_one (pms_ret pm_bl)) pms_nil) (pms_one (pms_ret (pm_callB (cr_all hc) cc_all rfl (C.free _ (by decide)) boot_all (pma_cons (qlc hc nd [(("item" : Str), 5), (("part" : Str), 6)] (.many [5, 6]) (pmi_zip rfl (C.free _ (by decide)) (qv 0) (qv 3)) (fun _ _ _ _ _ => (pg_tup rfl (qps (by exact nd) 5 (qps (by exact nd) 6 pgs_slots_nil)))) (fun _ _ _ _ _ => (qcall oF aF hr takes0 (C.glo _ (by decide)) (pma_cons (qv 5) (pma_cons (qv 6) pma_nil))))) pma_nil))))) (.cons (.seqS (k := 0) (.cons .val (.cons (.star (i := 4) rfl (by first | exact Or.inl rfl | exact Or.inr rfl) (by first | exact .inl rfl | exact .inr rfl)) .nil)) rfl rfl rfl rfl) (pms_one (pms_ret (pm_callB (cr_any hc) cc_any rfl (C.free _ (by decide)) boot_any (pma_cons (qlc hc nd [(("choice" : Str), 7)] (.one 7) (pmi_seq (qv 4)) (fun _ _ _ _ _ => (pg_name nd rfl (by first | exact Or.inl rfl | exact Or.inr rfl))) (fun _ _ _ _ _ => (qcall oF aF hr takes0 (C.glo _ (by decide)) (pma_cons (qv 0) (pma_cons (qv 7) pma_nil))))) pma_nil)))) .nil))))))) (pms_one (pms_ret (qeq hr (qv 1) (pm_tup (pma_cons pm_str pma_nil))))))
theorem sc_close_row : FnScope [("rows" : Str), ("items" : Str)] [("rows" : Str)] (defScope (top 20)) := ⟨rfl, rfl, rfl, by decide +kernel, rfl, by decide +kernel, by decide +kernel⟩
theorem ok_close_row (C : Ctx P w K mg base) : Okf P w K mg base 1 (He.fAd K d_close_row.at_) 1 F_close_row := by
  obtain ⟨fd, F⟩ := C.fn 37 (d := d_close_row)
  refine ⟨fd, [("rows" : Str)], fn_okN F sc_close_row rfl rfl fun cdv A outer s H E hr hc nd hp tk => ?_, F.bindsN (fun _ _ _ _ _ _ us hl => match us, hl with | [_], _ => rfl), rfl, F.kp⟩
  exact (pms_cons (qset nd 1 (pm_pop (qv 0))) (pms_one (pms_expr (pm_append (pm_ix (qv 0) (qneg pm_int)) (pm_callTy call_tuple_of cc_tuple rfl (C.free _ (by decide)) boot_tuple (pma_cons (qv 1) pma_nil))))))
theorem sc_goes_on : FnScope [("token" : Str), ("char" : Str)] [("token" : Str), ("char" : Str)] (defScope (top 21)) := ⟨rfl, rfl, rfl, by decide +kernel, rfl, by decide +kernel, by decide +kernel⟩
theorem ok_goes_on (C : Ctx P w K mg base) : Okf P w K mg base 1 (He.fAd K d_goes_on.at_) 2 F_goes_on := by
  obtain ⟨fd, F⟩ := C.fn 38 (d := d_goes_on)
  refine ⟨fd, [("token" : Str), ("char" : Str)], fn_okN F sc_goes_on rfl rfl fun cdv A outer s H E hr hc nd hp tk => ?_, F.bindsN (fun _ _ _ _ _ _ us hl => match us, hl with | [_, _], _ => rfl), rfl, F.kp⟩
  exact (pms_cons (pms_if (tin hr (pm_ix (qv 0) pm_int) (qgs (C.strs _ _ (by decide)))) (pms_one (pms_ret (pm_and (qin hr (qv 1) (qgs (C.strs _ _ (by decide)))) (pm_one (qlt hr (pm_callB call_len cc_len rfl (C.free _ (by decide)) boot_len (pma_cons (qv 0) pma_nil)) (qgi (C.ints _ _ (by decide)))))))) pms_nil) (pms_cons (pms_if (teq hr (qv 0) pm_str) (pms_one (pms_ret (pm_and (qin hr (qv 1) (qgs (C.strs _ _ (by decide)))) (pm_one (qne hr (qv 1) pm_str))))) pms_nil) (pms_cons (pms_if (teq hr (qv 0) pm_str) (pms_one (pms_ret pm_bl)) pms_nil) (pms_one (pms_ret (pm_and (qin hr (qv 1) (qgs (C.strs _ _ (by decide)))) (pm_one (qlt hr (pm_callB call_len cc_len rfl (C.free _ (by decide)) boot_len (pma_cons (pm_removeprefix (qv 0) pm_str) pma_nil)) (qgi (C.ints _ _ (by decide)))))))))))
theorem sc_token_note : FnScope [("token" : Str)] [("token" : Str)] (defScope (top 22)) := ⟨rfl, rfl, rfl, by decide +kernel, rfl, by decide +kernel, by decide +kernel⟩
theorem ok_token_note (C : Ctx P w K mg base) : Okf P w K mg base 1 (He.fAd K d_token_note.at_) 1 F_token_note := by
  obtain ⟨fd, F⟩ := C.fn 39 (d := d_token_note)
  refine ⟨fd, [("token" : Str)], fn_okN F sc_token_note rfl rfl fun cdv A outer s H E hr hc nd hp tk => ?_, F.bindsN (fun _ _ _ _ _ _ us hl => match us, hl with | [_], _ => rfl), rfl, F.kp⟩
  exact (pms_cons (pms_if (teq hr (qv 0) pm_str) (pms_one (pms_ret pm_non)) pms_nil) (pms_cons (pms_if (tin hr (pm_ix (qv 0) pm_int) (qgs (C.strs _ _ (by decide)))) (pms_one (pms_ret (qv 0))) pms_nil) (pms_one (pms_ret (pm_callTy call_int3 cc_int rfl (C.free _ (by decide)) boot_int (pma_cons (qv 0) pma_nil))))))
theorem sc_read_note : FnScope [("text" : Str), ("rows" : Str), ("token" : Str), ("last" : Str), ("at" : Str), ("char" : Str), ("inside" : Str)] [("text" : Str)] (defScope (top 19)) := ⟨rfl, rfl, rfl, by decide +kernel, rfl, by decide +kernel, by decide +kernel⟩
theorem ok_read_note (C : Ctx P w K mg base) : Okf P w K mg base 3 (He.fAd K d_read_note.at_) 1 F_read_note := by
  obtain ⟨fd, F⟩ := C.fn 40 (d := d_read_note)
  refine ⟨fd, [("text" : Str)], fn_okN F sc_read_note rfl rfl fun cdv A outer s H E hr hc nd hp tk => ?_, F.bindsN (fun _ _ _ _ _ _ us hl => match us, hl with | [_], _ => rfl), rfl, F.kp⟩
  exact (pms_cons (qset nd 1 (pm_lst (pma_cons (pm_lst pma_nil) pma_nil))) (pms_cons (qset nd 2 pm_str) (pms_cons (qset nd 3 pm_str) (pms_cons (pms_for hp hc (pmi_enum rfl (C.free _ (by decide)) (qv 0)) (pmg_tup hc (pmgs_cons (qgn nd 4) (pmgs_cons (qgn nd 5) pmgs_nil))) (pms_cons (qset nd 6 (qgt hr (pm_callB call_len cc_len rfl (C.free _ (by decide)) boot_len (pma_cons (qv 1) pma_nil)) pm_int)) (pms_one (pms_if (pmb_w (pmw_and (teq hr (qv 3) pm_str) (pmw_and1 (pmb_val (qcall (ok_goes_on C) ar_goes_on hr tk (C.glo _ (by decide)) (pma_cons (qv 2) (pma_cons (qv 5) pma_nil))))))) (pms_one (qset nd 2 (qadd (qv 2) (qv 5)))) (pms_one (pms_if (pmb_w (pmw_and (tin hr (qv 3) (pm_tup (pma_cons pm_str (pma_cons pm_str pma_nil)))) (pmw_and (pmb_val (qv 6)) (pmw_and1 (tin hr (qv 5) pm_str))))) (pms_cons (pms_if (teq hr (qv 3) pm_str) (pms_one (pms_expr (pm_append (pm_ix (qv 1) (qneg pm_int)) (qcall (ok_token_note C) ar_token_note hr tk (C.glo _ (by decide)) (pma_cons (qv 2) pma_nil))))) pms_nil) (pms_cons (qset nd 3 pm_str) (pms_one (pms_if (teq hr (qv 5) pm_str) (pms_cons (pms_expr (qcall (ok_close_row C) ar_close_row hr tk (C.glo _ (by decide)) (pma_cons (qv 1) pma_nil))) (pms_one (qset nd 3 pm_str))) pms_nil)))) (pms_one (pms_if (pmb_w (pmw_and (teq hr (qv 3) pm_str) (pmw_and1 (teq hr (qv 5) pm_str)))) (pms_cons (pms_expr (qcall (ok_close_row C) ar_close_row hr tk (C.glo _ (by decide)) (pma_cons (qv 1) pma_nil))) (pms_one (qset nd 3 pm_str))) (pms_one (pms_if (pmb_w (pmw_and (tin hr (qv 3) (pm_tup (pma_cons pm_str (pma_cons pm_str (pma_cons pm_str pma_nil))))) (pmw_and (teq hr (qv 5) pm_str) (pmw_and1 (tle hr (pm_callB call_len cc_len rfl (C.free _ (by decide)) boot_len (pma_cons (qv 1) pma_nil)) (qgi (C.ints _ _ (by decide)))))))) (pms_cons (pms_expr (pm_append (qv 1) (pm_lst pma_nil))) (pms_one (qset nd 3 pm_str))) (pms_one (pms_if (pmb_w (pmw_and (tin hr (qv 3) (pm_tup (pma_cons pm_str (pma_cons pm_str (pma_cons pm_str pma_nil))))) (pmw_and1 (tin hr (qv 5) (qgs (C.strs _ _ (by decide))))))) (pms_cons (qset nd 2 (qv 5)) (pms_one (qset nd 3 pm_str))) (pms_one (qraise C hr tk (qv 4)))))))))))))) (fun h1 h2 h3 => ps_for hp hc h1 h2 h3)) (pms_cons (pms_if (teq hr (qv 3) pm_str) (pms_one (pms_expr (pm_append (pm_ix (qv 1) (qneg pm_int)) (qcall (ok_token_note C) ar_token_note hr tk (C.glo _ (by decide)) (pma_cons (qv 2) pma_nil))))) pms_nil) (pms_cons (pms_if (pmb_w (pmw_or (tgt hr (pm_callB call_len cc_len rfl (C.free _ (by decide)) boot_len (pma_cons (qv 1) pma_nil)) pm_int) (pmw_or1 (pmb_not (pmb_tru (pm_ix (qv 1) pm_int)))))) (pms_one (qraise C hr tk (pm_callB call_len cc_len rfl (C.free _ (by decide)) boot_len (pma_cons (qv 0) pma_nil)))) pms_nil) (pms_one (pms_ret (pm_ix (pm_ix (qv 1) pm_int) pm_int)))))))))
theorem sc_read_certificate : FnScope [("text" : Str), ("note" : Str), ("word" : Str), ("items" : Str)] [("text" : Str)] (defScope (top 85)) := ⟨rfl, rfl, rfl, by decide +kernel, rfl, by decide +kernel, by decide +kernel⟩
theorem ok_read_certificate (C : Ctx P w K mg base) : Okf P w K mg base 9 (He.fAd K d_read_certificate.at_) 1 F_read_certificate := by
  obtain ⟨fd, F⟩ := C.fn 41 (d := d_read_certificate)
  refine ⟨fd, [("text" : Str)], fn_okN F sc_read_certificate rfl rfl fun cdv A outer s H E hr hc nd hp tk => ?_, F.bindsN (fun _ _ _ _ _ _ us hl => match us, hl with | [_], _ => rfl), rfl, F.kp⟩
  exact (pms_cons (qset nd 1 (qcall (ok_read_note C) ar_read_note hr tk (C.glo _ (by decide)) (pma_cons (qv 0) pma_nil))) (pms_cons (pms_if (pmb_w (pmw_or (pmb_not (pmb_val (pm_callB call_isi (cc_isi C.isa) rfl (C.free _ (by decide)) boot_isinstance (pma_cons (qv 1) (pma_cons (qty (C.free _ (by decide)) boot_tuple) pma_nil))))) (pmw_or (teq hr (qv 1) (pm_tup pma_nil)) (pmw_or (pmb_not (pmb_val (pm_callB call_isi (cc_isi C.isa) rfl (C.free _ (by decide)) boot_isinstance (pma_cons (pm_ix (qv 1) pm_int) (pma_cons (qty (C.free _ (by decide)) boot_str) pma_nil))))) (pmw_or1 (pmb_cmp (op_notIn_kd C.kd.choose_spec.choose_spec) (oc_notInG (C.glo _ (by decide)) C.formsN) (pm_ix (qv 1) pm_int) (qgg (C.glo _ (by decide))) (by with_unfolding_all rfl))))))) (pms_one (qraise C hr tk pm_non)) pms_nil) (pms_cons (qset nd 2 (pm_ix (qv 1) pm_int)) (pms_cons (qset nd 3 (pm_slice (qv 1) (pmo_some pm_int) pmo_none)) (pms_cons (pms_if (pmb_not (pmb_val (qcall (ok_has_form C 8) (ar_has_form _) hr tk (C.glo _ (by decide)) (pma_cons (qv 3) (pma_cons (pm_getG C.kd.choose_spec.choose_spec (C.glo _ (by decide)) C.forms (qgg (C.glo _ (by decide))) (qv 2)) pma_nil))))) (pms_one (qraise C hr tk (qv 2))) pms_nil) (pms_cons (pms_if (tin hr (qv 2) (pm_tup (pma_cons pm_str (pma_cons pm_str (pma_cons pm_str (pma_cons pm_str (pma_cons pm_str (pma_cons pm_str pma_nil)))))))) (pms_one (pms_ret (qcall (ok_certificate_of_books C) ar_certificate_of_books hr tk (C.glo _ (by decide)) (pma_cons (qv 2) (pma_cons (qv 3) pma_nil))))) pms_nil) (pms_one (pms_ret (qcall (ok_certificate_of_states C) ar_certificate_of_states hr tk (C.glo _ (by decide)) (pma_cons (qv 2) (pma_cons (qv 3) pma_nil)))))))))))
theorem sc_law_read : FnScope [("_law_text_here" : Str), ("e" : Str)] [("_law_text_here" : Str)] (defScope (top 107)) := ⟨rfl, rfl, rfl, by decide +kernel, rfl, by decide +kernel, by decide +kernel⟩
theorem ok_law_read (C : Ctx P w K mg base) : Okf P w K mg base 10 (He.fAd K d_law_read.at_) 1 F_law_read := by
  obtain ⟨fd, F⟩ := C.fn 42 (d := d_law_read)
  refine ⟨fd, [("_law_text_here" : Str)], fn_okN F sc_law_read rfl rfl fun cdv A outer s H E hr hc nd hp tk => ?_, F.bindsN (fun _ _ _ _ _ _ us hl => match us, hl with | [_], _ => rfl), rfl, F.kp⟩
  exact (pms_one (qtry C nd hr tk (fun W pn xe tk hp => (pms_one (pms_ret (pm_tup (pma_cons pm_int (pma_cons (qcall (ok_read_certificate C) ar_read_certificate hr tk (C.glo _ (by decide)) (pma_cons (qv 0) pma_nil)) pma_nil))))))))
theorem sc_law_bad : FnScope [("_law_form" : Str)] [("_law_form" : Str)] (defScope (top 108)) := ⟨rfl, rfl, rfl, by decide +kernel, rfl, by decide +kernel, by decide +kernel⟩
theorem ok_law_bad (C : Ctx P w K mg base) : Okf P w K mg base 1 (He.fAd K d_law_bad.at_) 1 F_law_bad := by
  obtain ⟨fd, F⟩ := C.fn 43 (d := d_law_bad)
  refine ⟨fd, [("_law_form" : Str)], fn_okN F sc_law_bad rfl rfl fun cdv A outer s H E hr hc nd hp tk => ?_, F.bindsN (fun _ _ _ _ _ _ us hl => match us, hl with | [_], _ => rfl), rfl, F.kp⟩
  exact (pms_cons (pms_if (teq hr (qv 0) pm_str) (pms_one (pms_ret pm_str)) pms_nil) (pms_cons (pms_if (teq hr (qv 0) (pm_tup (pma_cons pm_str (pma_cons pm_str (pma_cons pm_str pma_nil))))) (pms_one (pms_ret pm_non)) pms_nil) (pms_one (pms_ret pm_int))))
theorem sc_law_spoilt_pair : FnScope [("_law_draw" : Str), ("_law_item" : Str)] [("_law_draw" : Str), ("_law_item" : Str)] (defScope (top 109)) := ⟨rfl, rfl, rfl, by decide +kernel, rfl, by decide +kernel, by decide +kernel⟩
theorem ok_law_spoilt_pair (C : Ctx P w K mg base) : Okf P w K mg base 1 (He.fAd K d_law_spoilt_pair.at_) 2 F_law_spoilt_pair := by
  obtain ⟨fd, F⟩ := C.fn 44 (d := d_law_spoilt_pair)
  refine ⟨fd, [("_law_draw" : Str), ("_law_item" : Str)], fn_okN F sc_law_spoilt_pair rfl rfl fun cdv A outer s H E hr hc nd hp tk => ?_, F.bindsN (fun _ _ _ _ _ _ us hl => match us, hl with | [_, _], _ => rfl), rfl, F.kp⟩
  exact (pms_cons (pms_if (teq hr (qmod (pm_callTy call_int3 cc_int rfl (C.free _ (by decide)) boot_int (pma_cons (qv 0) pma_nil)) pm_int) pm_int) (pms_one (pms_ret (pm_tup (pma_cons (qmul (pm_ix (qv 1) pm_int) pm_int) (pma_cons (qmul (pm_ix (qv 1) pm_int) pm_int) pma_nil))))) pms_nil) (pms_cons (pms_if (teq hr (qmod (pm_callTy call_int3 cc_int rfl (C.free _ (by decide)) boot_int (pma_cons (qv 0) pma_nil)) pm_int) pm_int) (pms_one (pms_ret (pm_tup (pma_cons (pm_ix (qv 1) pm_int) (pma_cons pm_int pma_nil))))) pms_nil) (pms_cons (pms_if (teq hr (qmod (pm_callTy call_int3 cc_int rfl (C.free _ (by decide)) boot_int (pma_cons (qv 0) pma_nil)) pm_int) pm_int) (pms_one (pms_ret (pm_tup (pma_cons (qneg (pm_ix (qv 1) pm_int)) (pma_cons (qneg (pm_ix (qv 1) pm_int)) pma_nil))))) pms_nil) (pms_cons (pms_if (teq hr (qmod (pm_callTy call_int3 cc_int rfl (C.free _ (by decide)) boot_int (pma_cons (qv 0) pma_nil)) pm_int) pm_int) (pms_one (pms_ret (pm_tup (pma_cons (pm_ix (qv 1) pm_int) (pma_cons pm_str pma_nil))))) pms_nil) (pms_one (pms_ret (pm_slice (qv 1) pmo_none (pmo_some (qneg pm_int)))))))))
theorem sc_law_spoilt : FnScope [("_law_draw" : Str), ("_law_form" : Str), ("_law_item" : Str), ("_law_rest" : Str), ("_law_k" : Str), ("_law_part" : Str), ("_law_spoilt_here" : Str)] [("_law_draw" : Str), ("_law_form" : Str), ("_law_item" : Str)] (defScope (top 110)) := ⟨rfl, rfl, rfl, by decide +kernel, rfl, by decide +kernel, by decide +kernel⟩
theorem ok_law_spoilt (C : Ctx P w K mg base) : ∀ k, Okf P w K mg base (k + 1) (He.fAd K d_law_spoilt.at_) 3 (F_law_spoilt k)
  | 0 => by
    obtain ⟨fd, F⟩ := C.fn 45 (d := d_law_spoilt)
    exact ⟨fd, [("_law_draw" : Str), ("_law_form" : Str), ("_law_item" : Str)], fn_badM rfl, F.bindsN (fun _ _ _ _ _ _ us hl => match us, hl with | [_, _, _], _ => rfl), rfl, F.kp⟩
  | k + 1 => by
    show Okf P w K mg base ((k + 1) + 1) (He.fAd K d_law_spoilt.at_) 3 (F_law_spoilt (k + 1))
    obtain ⟨fd, F⟩ := C.fn 45 (d := d_law_spoilt)
    have oF := ok_law_spoilt C k
    have aF := ar_law_spoilt k
    refine ⟨fd, [("_law_draw" : Str), ("_law_form" : Str), ("_law_item" : Str)], fn_okN F sc_law_spoilt rfl rfl fun cdv A outer s H E hr hc nd hp tk => ?_, F.bindsN (fun _ _ _ _ _ _ us hl => match us, hl with | [_, _, _], _ => rfl), rfl, F.kp⟩
    exact (pms_cons (qset nd 3 (qdiv (qv 0) pm_int)) (pms_cons (pms_if (pmb_w (pmw_or (teq hr (qmod (pm_callTy call_int3 cc_int rfl (C.free _ (by decide)) boot_int (pma_cons (qv 0) pma_nil)) pm_int) pm_int) (pmw_or (tin hr (qv 1) (pm_fls (pma_cons pm_str (pma_cons pm_str (pma_cons pm_str pma_nil))))) (pmw_or1 (tis hr (qv 2) pm_non))))) (pms_one (pms_ret (qcall (ok_law_bad C) ar_law_bad hr tk (C.glo _ (by decide)) (pma_cons (qv 1) pma_nil)))) pms_nil) (pms_cons (pms_if (teq hr (qv 1) pm_str) (pms_one (pms_ret (qcall (ok_law_spoilt_pair C) ar_law_spoilt_pair hr tk (C.glo _ (by decide)) (pma_cons (qv 3) (pma_cons (qv 2) pma_nil))))) pms_nil) (pms_cons (pms_if (teq hr (pm_ix (qv 1) pm_int) pm_str) (pms_cons (pms_if (pmb_not (pmb_val (pm_callB call_isi (cc_isi C.isa) rfl (C.free _ (by decide)) boot_isinstance (pma_cons (qv 2) (pma_cons (qty (C.free _ (by decide)) boot_tuple) pma_nil))))) (pms_one (pms_ret (qcall (ok_law_bad C) ar_law_bad hr tk (C.glo _ (by decide)) (pma_cons (qv 1) pma_nil)))) pms_nil) (pms_one (pms_ret (qcall oF aF hr tk (C.glo _ (by decide)) (pma_cons (qv 0) (pma_cons (pm_ix (qv 1) pm_int) (pma_cons (qv 2) pma_nil))))))) pms_nil) (pms_cons (pms_if (pmb_w (pmw_and (teq hr (pm_ix (qv 1) pm_int) pm_str) (pmw_and1 (pmb_w (pmw_or (teq hr (qmod (pm_callTy call_int3 cc_int rfl (C.free _ (by decide)) boot_int (pma_cons (qv 0) pma_nil)) pm_int) pm_int) (pmw_or1 (teq hr (qv 2) (pm_tup pma_nil)))))))) (pms_one (pms_ret (qadd (qv 2) (pm_tup (pma_cons (qcall (ok_law_bad C) ar_law_bad hr tk (C.glo _ (by decide)) (pma_cons (pm_ix (qv 1) pm_int) pma_nil)) pma_nil))))) pms_nil) (pms_cons (pms_if (pmb_w (pmw_and (teq hr (pm_ix (qv 1) pm_int) pm_str) (pmw_and1 (teq hr (qmod (pm_callTy call_int3 cc_int rfl (C.free _ (by decide)) boot_int (pma_cons (qv 0) pma_nil)) pm_int) pm_int)))) (pms_one (pms_ret (pm_slice (qv 2) pmo_none (pmo_some (qneg pm_int))))) pms_nil) (pms_cons (qset nd 4 (qmod (pm_callTy call_int3 cc_int rfl (C.free _ (by decide)) boot_int (pma_cons (qv 3) pma_nil)) (pm_callB call_len cc_len rfl (C.free _ (by decide)) boot_len (pma_cons (qv 2) pma_nil)))) (pms_cons (qset nd 5 (pm_ix (qv 1) pm_int)) (pms_cons (pms_if (teq hr (pm_ix (qv 1) pm_int) pm_str) (pms_one (qset nd 5 (pm_ix (qv 1) (qadd pm_int (qv 4))))) pms_nil) (pms_cons (qset nd 6 (qcall oF aF hr tk (C.glo _ (by decide)) (pma_cons (qdiv (qv 3) (pm_callB call_len cc_len rfl (C.free _ (by decide)) boot_len (pma_cons (qv 2) pma_nil))) (pma_cons (qv 5) (pma_cons (pm_ix (qv 2) (qv 4)) pma_nil))))) (pms_one (pms_ret (qadd (qadd (pm_slice (qv 2) pmo_none (pmo_some (qv 4))) (pm_tup (pma_cons (qv 6) pma_nil))) (pm_slice (qv 2) (pmo_some (qadd (qv 4) pm_int)) pmo_none))))))))))))))
theorem sc_law_text : FnScope [("_law_note_here" : Str), ("_law_one" : Str)] [("_law_note_here" : Str)] (defScope (top 100)) := ⟨rfl, rfl, rfl, by decide +kernel, rfl, by decide +kernel, by decide +kernel⟩
theorem ok_law_text (C : Ctx P w K mg base) : ∀ k, Okf P w K mg base (k + 0) (He.fAd K d_law_text.at_) 1 (F_law_text k)
  | 0 => by
    obtain ⟨fd, F⟩ := C.fn 46 (d := d_law_text)
    exact ⟨fd, [("_law_note_here" : Str)], fn_badM rfl, F.bindsN (fun _ _ _ _ _ _ us hl => match us, hl with | [_], _ => rfl), rfl, F.kp⟩
  | k + 1 => by
    show Okf P w K mg base ((k + 0) + 1) (He.fAd K d_law_text.at_) 1 (F_law_text (k + 1))
    obtain ⟨fd, F⟩ := C.fn 46 (d := d_law_text)
    have oF := ok_law_text C k
    have aF := ar_law_text k
    refine ⟨fd, [("_law_note_here" : Str)], fn_okN F sc_law_text rfl rfl fun cdv A outer s H E hr hc nd hp tk => ?_, F.bindsN (fun _ _ _ _ _ _ us hl => match us, hl with | [_], _ => rfl), rfl, F.kp⟩
    exact (pms_cons (pms_if (tis hr (qv 0) pm_non) (pms_one (pms_ret pm_str)) pms_nil) (pms_cons (pms_if (pmb_val (pm_callB call_isi (cc_isi C.isa) rfl (C.free _ (by decide)) boot_isinstance (pma_cons (qv 0) (pma_cons (qty (C.free _ (by decide)) boot_tuple) pma_nil)))) (pms_one (pms_ret (qadd (qadd pm_str (pm_join pm_str (qlc hc nd [(("_law_one" : Str), 1)] (.one 1) (pmi_seq (qv 0)) (fun _ _ _ _ _ => (pg_name nd rfl (by first | exact Or.inl rfl | exact Or.inr rfl))) (fun _ _ _ _ _ => (qcall oF aF hr takes0 (C.glo _ (by decide)) (pma_cons (qv 1) pma_nil)))))) pm_str))) pms_nil) (pms_one (pms_ret (pm_callTy call_str2 cc_str rfl (C.free _ (by decide)) boot_str (pma_cons (qv 0) pma_nil))))))
theorem sc_law_refused : FnScope [("_law_pool_here" : Str), ("_law_forms_here" : Str), ("_law_note_here" : Str), ("_law_word_here" : Str), ("_law_at" : Str), ("_law_item" : Str), ("_law_bad_here" : Str), ("_law_one" : Str), ("_law_odd" : Str), ("_law_text_here" : Str)] [("_law_pool_here" : Str), ("_law_forms_here" : Str), ("_law_note_here" : Str)] (defScope (top 111)) := ⟨rfl, rfl, rfl, by decide +kernel, rfl, by decide +kernel, by decide +kernel⟩
theorem ok_law_refused (C : Ctx P w K mg base) : Okf P w K mg base 61 (He.fAd K d_law_refused.at_) 3 F_law_refused := by
  obtain ⟨fd, F⟩ := C.fn 47 (d := d_law_refused)
  refine ⟨fd, [("_law_pool_here" : Str), ("_law_forms_here" : Str), ("_law_note_here" : Str)], fn_okN F sc_law_refused rfl rfl fun cdv A outer s H E hr hc nd hp tk => ?_, F.bindsN (fun _ _ _ _ _ _ us hl => match us, hl with | [_, _, _], _ => rfl), rfl, F.kp⟩
  exact (pms_cons (qset nd 3 (pm_ix (qv 2) pm_int)) (pms_cons (qset nd 4 (qadd pm_int (qcallP (ok_law_pickD C) ar_law_pick hr tk (C.glo _ (by decide)) (pma_cons (qv 0) (pma_cons pm_int (pma_cons (qsub (pm_callB call_len cc_len rfl (C.free _ (by decide)) boot_len (pma_cons (qv 2) pma_nil)) pm_int) pma_nil)))))) (pms_cons (qset nd 5 (qcall (ok_law_spoilt C 8) (ar_law_spoilt _) hr tk (C.glo _ (by decide)) (pma_cons (pm_ix (qv 0) pm_int) (pma_cons (pm_ix (qv 1) (qv 4)) (pma_cons (pm_ix (qv 2) (qv 4)) pma_nil))))) (pms_cons (qset nd 6 (qadd (qadd (pm_slice (qv 2) pmo_none (pmo_some (qv 4))) (pm_tup (pma_cons (qv 5) pma_nil))) (pm_slice (qv 2) (pmo_some (qadd (qv 4) pm_int)) pmo_none))) (pms_cons (pms_for hp hc (pmi_seq (pm_fls (pma_cons (qv 6) (pma_cons (pm_slice (qv 2) pmo_none (pmo_some (qneg pm_int))) (pma_cons (qadd (qv 2) (pm_tup (pma_cons (qcallP (ok_law_pickD C) ar_law_pick hr tk (C.glo _ (by decide)) (pma_cons (qv 0) (pma_cons pm_int (pma_cons pm_int pma_nil)))) pma_nil))) pma_nil))))) (qgn nd 7) (pms_one (pms_if (tne hr (qcall (ok_law_read C) ar_law_read hr tk (C.glo _ (by decide)) (pma_cons (qcall (ok_law_text C 60) (ar_law_text _) hr tk (C.glo _ (by decide)) (pma_cons (qv 7) pma_nil)) pma_nil)) (pm_tup (pma_cons pm_int (pma_cons (qv 3) pma_nil)))) (pms_one (pms_ret pm_bl)) pms_nil)) (fun h1 h2 h3 => ps_for hp hc h1 h2 h3)) (pms_cons (qset nd 8 (pm_lst (pma_cons pm_int (pma_cons (qv 3) (pma_cons pm_non (pma_cons (pm_tup pma_nil) (pma_cons (pm_tup (pma_cons pm_int (pma_cons (qv 3) pma_nil))) (pma_cons (pm_tup (pma_cons pm_non pma_nil)) (pma_cons (pm_tup (pma_cons (qv 2) pma_nil)) pma_nil))))))))) (pms_cons (pms_expr (pm_append (qv 8) (pm_tup (pma_cons (qadd (qv 3) pm_str) (pma_cons pm_int pma_nil))))) (pms_cons (qset nd 8 (pm_ix (qv 8) (qcallP (ok_law_pickD C) ar_law_pick hr tk (C.glo _ (by decide)) (pma_cons (qv 0) (pma_cons pm_int (pma_cons pm_int pma_nil)))))) (pms_cons (pms_if (tne hr (qcall (ok_law_read C) ar_law_read hr tk (C.glo _ (by decide)) (pma_cons (qcall (ok_law_text C 60) (ar_law_text _) hr tk (C.glo _ (by decide)) (pma_cons (qv 8) pma_nil)) pma_nil)) (pm_tup (pma_cons pm_int (pma_cons pm_non pma_nil)))) (pms_one (pms_ret pm_bl)) pms_nil) (pms_cons (qset nd 9 (qcall (ok_law_text C 60) (ar_law_text _) hr tk (C.glo _ (by decide)) (pma_cons (qv 2) pma_nil))) (pms_cons (pms_if (tne hr (qcall (ok_law_read C) ar_law_read hr tk (C.glo _ (by decide)) (pma_cons (pm_slice (qv 9) pmo_none (pmo_some (qneg pm_int))) pma_nil)) (pm_tup (pma_cons pm_int (pma_cons (qsub (pm_callB call_len cc_len rfl (C.free _ (by decide)) boot_len (pma_cons (qv 9) pma_nil)) pm_int) pma_nil)))) (pms_one (pms_ret pm_bl)) pms_nil) (pms_one (pms_ret (qeq hr (qcall (ok_law_read C) ar_law_read hr tk (C.glo _ (by decide)) (pma_cons (qadd (qv 9) (pm_ix pm_str (qcallP (ok_law_pickD C) ar_law_pick hr tk (C.glo _ (by decide)) (pma_cons (qv 0) (pma_cons pm_int (pma_cons pm_int pma_nil)))))) pma_nil)) (pm_tup (pma_cons pm_int (pma_cons (pm_callB call_len cc_len rfl (C.free _ (by decide)) boot_len (pma_cons (qv 9) pma_nil)) pma_nil)))))))))))))))))
theorem sc_Blockers_note : FnScope [("self" : Str)] [("self" : Str)] (defScope (meth 54 1)) := ⟨rfl, rfl, rfl, by decide +kernel, rfl, by decide +kernel, by decide +kernel⟩
theorem ok_Blockers_note (C : Ctx P w K mg base) : Okf P w K mg base 1 (He.fAd K d_Blockers_note.at_) 1 F_Blockers_note := by
  obtain ⟨fd, F⟩ := C.fn 48 (d := d_Blockers_note)
  refine ⟨fd, [("self" : Str)], fn_okN F sc_Blockers_note rfl rfl fun cdv A outer s H E hr hc nd hp tk => ?_, F.bindsN (fun _ _ _ _ _ _ us hl => match us, hl with | [_], _ => rfl), rfl, F.kp⟩
  exact (pms_one (pms_ret (pm_tup (pma_cons pm_str (pma_cons (pm_fld C.ct (qv 0)) (pma_cons (pm_fld C.ct (qv 0)) (pma_cons (pm_fld C.ct (qv 0)) pma_nil)))))))
theorem sc_Broken_note : FnScope [("self" : Str)] [("self" : Str)] (defScope (meth 58 1)) := ⟨rfl, rfl, rfl, by decide +kernel, rfl, by decide +kernel, by decide +kernel⟩
theorem ok_Broken_note (C : Ctx P w K mg base) : Okf P w K mg base 1 (He.fAd K d_Broken_note.at_) 1 F_Broken_note := by
  obtain ⟨fd, F⟩ := C.fn 49 (d := d_Broken_note)
  refine ⟨fd, [("self" : Str)], fn_okN F sc_Broken_note rfl rfl fun cdv A outer s H E hr hc nd hp tk => ?_, F.bindsN (fun _ _ _ _ _ _ us hl => match us, hl with | [_], _ => rfl), rfl, F.kp⟩
  exact (pms_one (pms_ret (pm_tup (pma_cons pm_str (pma_cons (pm_fld C.ct (qv 0)) (pma_cons (pm_fld C.ct (qv 0)) pma_nil))))))
theorem sc_CaseTree_note : FnScope [("self" : Str)] [("self" : Str)] (defScope (meth 35 1)) := ⟨rfl, rfl, rfl, by decide +kernel, rfl, by decide +kernel, by decide +kernel⟩
theorem ok_CaseTree_note (C : Ctx P w K mg base) : Okf P w K mg base 1 (He.fAd K d_CaseTree_note.at_) 1 F_CaseTree_note := by
  obtain ⟨fd, F⟩ := C.fn 50 (d := d_CaseTree_note)
  refine ⟨fd, [("self" : Str)], fn_okN F sc_CaseTree_note rfl rfl fun cdv A outer s H E hr hc nd hp tk => ?_, F.bindsN (fun _ _ _ _ _ _ us hl => match us, hl with | [_], _ => rfl), rfl, F.kp⟩
  exact (pms_one (pms_ret (pm_tup (pma_cons pm_str (pma_cons (pm_fld C.ct (qv 0)) pma_nil)))))
theorem sc_Crowded_note : FnScope [("self" : Str)] [("self" : Str)] (defScope (meth 44 1)) := ⟨rfl, rfl, rfl, by decide +kernel, rfl, by decide +kernel, by decide +kernel⟩
theorem ok_Crowded_note (C : Ctx P w K mg base) : Okf P w K mg base 1 (He.fAd K d_Crowded_note.at_) 1 F_Crowded_note := by
  obtain ⟨fd, F⟩ := C.fn 51 (d := d_Crowded_note)
  refine ⟨fd, [("self" : Str)], fn_okN F sc_Crowded_note rfl rfl fun cdv A outer s H E hr hc nd hp tk => ?_, F.bindsN (fun _ _ _ _ _ _ us hl => match us, hl with | [_], _ => rfl), rfl, F.kp⟩
  exact (pms_one (pms_ret (pm_tup (pma_cons pm_str (pma_cons (pm_fld C.ct (qv 0)) (pma_cons (pm_fld C.ct (qv 0)) pma_nil))))))
theorem sc_FloorPlan_note : FnScope [("self" : Str)] [("self" : Str)] (defScope (meth 43 1)) := ⟨rfl, rfl, rfl, by decide +kernel, rfl, by decide +kernel, by decide +kernel⟩
theorem ok_FloorPlan_note (C : Ctx P w K mg base) : Okf P w K mg base 1 (He.fAd K d_FloorPlan_note.at_) 1 F_FloorPlan_note := by
  obtain ⟨fd, F⟩ := C.fn 52 (d := d_FloorPlan_note)
  refine ⟨fd, [("self" : Str)], fn_okN F sc_FloorPlan_note rfl rfl fun cdv A outer s H E hr hc nd hp tk => ?_, F.bindsN (fun _ _ _ _ _ _ us hl => match us, hl with | [_], _ => rfl), rfl, F.kp⟩
  exact (pms_one (pms_ret (pm_tup (pma_cons pm_str (pma_cons (pm_fld C.ct (qv 0)) pma_nil)))))
theorem sc_Frail_note : FnScope [("self" : Str)] [("self" : Str)] (defScope (meth 38 1)) := ⟨rfl, rfl, rfl, by decide +kernel, rfl, by decide +kernel, by decide +kernel⟩
theorem ok_Frail_note (C : Ctx P w K mg base) : Okf P w K mg base 1 (He.fAd K d_Frail_note.at_) 1 F_Frail_note := by
  obtain ⟨fd, F⟩ := C.fn 53 (d := d_Frail_note)
  refine ⟨fd, [("self" : Str)], fn_okN F sc_Frail_note rfl rfl fun cdv A outer s H E hr hc nd hp tk => ?_, F.bindsN (fun _ _ _ _ _ _ us hl => match us, hl with | [_], _ => rfl), rfl, F.kp⟩
  exact (pms_one (pms_ret (pm_tup (pma_cons pm_str (pma_cons (pm_fld C.ct (qv 0)) (pma_cons (pm_fld C.ct (qv 0)) pma_nil))))))
theorem sc_Kept_note : FnScope [("self" : Str)] [("self" : Str)] (defScope (meth 57 1)) := ⟨rfl, rfl, rfl, by decide +kernel, rfl, by decide +kernel, by decide +kernel⟩
theorem ok_Kept_note (C : Ctx P w K mg base) : Okf P w K mg base 1 (He.fAd K d_Kept_note.at_) 1 F_Kept_note := by
  obtain ⟨fd, F⟩ := C.fn 54 (d := d_Kept_note)
  refine ⟨fd, [("self" : Str)], fn_okN F sc_Kept_note rfl rfl fun cdv A outer s H E hr hc nd hp tk => ?_, F.bindsN (fun _ _ _ _ _ _ us hl => match us, hl with | [_], _ => rfl), rfl, F.kp⟩
  exact (pms_one (pms_ret (pm_tup (pma_cons pm_str (pma_cons (pm_fld C.ct (qv 0)) (pma_cons (pm_fld C.ct (qv 0)) pma_nil))))))
theorem sc_share_note : FnScope [("share" : Str)] [("share" : Str)] (defScope (top 41)) := ⟨rfl, rfl, rfl, by decide +kernel, rfl, by decide +kernel, by decide +kernel⟩
theorem ok_share_note (C : Ctx P w K mg base) : Okf P w K mg base 1 (He.fAd K d_share_note.at_) 1 F_share_note := by
  obtain ⟨fd, F⟩ := C.fn 55 (d := d_share_note)
  refine ⟨fd, [("share" : Str)], fn_okN F sc_share_note rfl rfl fun cdv A outer s H E hr hc nd hp tk => ?_, F.bindsN (fun _ _ _ _ _ _ us hl => match us, hl with | [_], _ => rfl), rfl, F.kp⟩
  exact (pms_cons (pms_if (tis hr (qv 0) pm_non) (pms_one (pms_ret pm_non)) pms_nil) (pms_one (pms_ret (pm_tup (pma_cons (pm_fld C.ct (qv 0)) (pma_cons (pm_fld C.ct (qv 0)) pma_nil))))))
theorem sc_Levels_note : FnScope [("self" : Str), ("shares" : Str), ("rows" : Str), ("share" : Str), ("group" : Str), ("mode" : Str), ("level" : Str)] [("self" : Str)] (defScope (meth 40 3)) := ⟨rfl, rfl, rfl, by decide +kernel, rfl, by decide +kernel, by decide +kernel⟩
theorem ok_Levels_note (C : Ctx P w K mg base) : Okf P w K mg base 2 (He.fAd K d_Levels_note.at_) 1 F_Levels_note := by
  obtain ⟨fd, F⟩ := C.fn 56 (d := d_Levels_note)
  refine ⟨fd, [("self" : Str)], fn_okN F sc_Levels_note rfl rfl fun cdv A outer s H E hr hc nd hp tk => ?_, F.bindsN (fun _ _ _ _ _ _ us hl => match us, hl with | [_], _ => rfl), rfl, F.kp⟩
  exact (pms_cons (qset nd 1 (pm_callTy call_tuple_of cc_tuple rfl (C.free _ (by decide)) boot_tuple (pma_cons (qlc hc nd [(("share" : Str), 3)] (.one 3) (pmi_seq (pm_fld C.ct (qv 0))) (fun _ _ _ _ _ => (pg_name nd rfl (by first | exact Or.inl rfl | exact Or.inr rfl))) (fun _ _ _ _ _ => (qcall (ok_share_note C) ar_share_note hr takes0 (C.glo _ (by decide)) (pma_cons (qv 3) pma_nil)))) pma_nil))) (pms_cons (qset nd 2 (pm_callTy call_tuple_of cc_tuple rfl (C.free _ (by decide)) boot_tuple (pma_cons (qlc hc nd [(("group" : Str), 4), (("mode" : Str), 5), (("level" : Str), 6)] (.many [4, 5, 6]) (pmi_seq (pm_fld C.ct (qv 0))) (fun _ _ _ _ _ => (pg_tup rfl (qps (by exact nd) 4 (qps (by exact nd) 5 (qps (by exact nd) 6 pgs_slots_nil))))) (fun _ _ _ _ _ => (pm_tup (pma_cons (qv 4) (pma_cons (qv 5) (pma_cons (qcall (ok_share_note C) ar_share_note hr takes0 (C.glo _ (by decide)) (pma_cons (qv 6) pma_nil)) pma_nil)))))) pma_nil))) (pms_one (pms_ret (pm_tup (pma_cons pm_str (pma_cons (pm_fld C.ct (qv 0)) (pma_cons (qcall (ok_share_note C) ar_share_note hr tk (C.glo _ (by decide)) (pma_cons (pm_fld C.ct (qv 0)) pma_nil)) (pma_cons (pm_fld C.ct (qv 0)) (pma_cons (qv 1) (pma_cons (qv 2) pma_nil)))))))))))
theorem sc_MovePlan_note : FnScope [("self" : Str)] [("self" : Str)] (defScope (meth 46 1)) := ⟨rfl, rfl, rfl, by decide +kernel, rfl, by decide +kernel, by decide +kernel⟩
theorem ok_MovePlan_note (C : Ctx P w K mg base) : Okf P w K mg base 1 (He.fAd K d_MovePlan_note.at_) 1 F_MovePlan_note := by
  obtain ⟨fd, F⟩ := C.fn 57 (d := d_MovePlan_note)
  refine ⟨fd, [("self" : Str)], fn_okN F sc_MovePlan_note rfl rfl fun cdv A outer s H E hr hc nd hp tk => ?_, F.bindsN (fun _ _ _ _ _ _ us hl => match us, hl with | [_], _ => rfl), rfl, F.kp⟩
  exact (pms_one (pms_ret (pm_tup (pma_cons pm_str (pma_cons (pm_fld C.ct (qv 0)) (pma_cons (pm_fld C.ct (qv 0)) pma_nil))))))
theorem sc_No_holds : FnScope [("self" : Str)] [("self" : Str)] (defScope (meth 17 0)) := ⟨rfl, rfl, rfl, by decide +kernel, rfl, by decide +kernel, by decide +kernel⟩
theorem ok_No_holds (C : Ctx P w K mg base) : Okf P w K mg base 1 (He.fAd K d_No_holds.at_) 1 F_No_holds := by
  obtain ⟨fd, F⟩ := C.fn 58 (d := d_No_holds)
  refine ⟨fd, [("self" : Str)], fn_okN F sc_No_holds rfl rfl fun cdv A outer s H E hr hc nd hp tk => ?_, F.bindsN (fun _ _ _ _ _ _ us hl => match us, hl with | [_], _ => rfl), rfl, F.kp⟩
  exact (pms_one (pms_ret pm_bl))
theorem sc_NoQuote_note : FnScope [("self" : Str)] [("self" : Str)] (defScope (meth 53 1)) := ⟨rfl, rfl, rfl, by decide +kernel, rfl, by decide +kernel, by decide +kernel⟩
theorem ok_NoQuote_note (C : Ctx P w K mg base) : Okf P w K mg base 1 (He.fAd K d_NoQuote_note.at_) 1 F_NoQuote_note := by
  obtain ⟨fd, F⟩ := C.fn 59 (d := d_NoQuote_note)
  refine ⟨fd, [("self" : Str)], fn_okN F sc_NoQuote_note rfl rfl fun cdv A outer s H E hr hc nd hp tk => ?_, F.bindsN (fun _ _ _ _ _ _ us hl => match us, hl with | [_], _ => rfl), rfl, F.kp⟩
  exact (pms_one (pms_ret (pm_tup (pma_cons pm_str (pma_cons (pm_fld C.ct (qv 0)) (pma_cons (pm_fld C.ct (qv 0)) pma_nil))))))
theorem sc_Packing_note : FnScope [("self" : Str)] [("self" : Str)] (defScope (meth 34 1)) := ⟨rfl, rfl, rfl, by decide +kernel, rfl, by decide +kernel, by decide +kernel⟩
theorem ok_Packing_note (C : Ctx P w K mg base) : Okf P w K mg base 1 (He.fAd K d_Packing_note.at_) 1 F_Packing_note := by
  obtain ⟨fd, F⟩ := C.fn 60 (d := d_Packing_note)
  refine ⟨fd, [("self" : Str)], fn_okN F sc_Packing_note rfl rfl fun cdv A outer s H E hr hc nd hp tk => ?_, F.bindsN (fun _ _ _ _ _ _ us hl => match us, hl with | [_], _ => rfl), rfl, F.kp⟩
  exact (pms_one (pms_ret (pm_tup (pma_cons pm_str (pma_cons (pm_fld C.ct (qv 0)) pma_nil)))))
theorem sc_PairBook_note : FnScope [("self" : Str)] [("self" : Str)] (defScope (meth 50 1)) := ⟨rfl, rfl, rfl, by decide +kernel, rfl, by decide +kernel, by decide +kernel⟩
theorem ok_PairBook_note (C : Ctx P w K mg base) : Okf P w K mg base 1 (He.fAd K d_PairBook_note.at_) 1 F_PairBook_note := by
  obtain ⟨fd, F⟩ := C.fn 61 (d := d_PairBook_note)
  refine ⟨fd, [("self" : Str)], fn_okN F sc_PairBook_note rfl rfl fun cdv A outer s H E hr hc nd hp tk => ?_, F.bindsN (fun _ _ _ _ _ _ us hl => match us, hl with | [_], _ => rfl), rfl, F.kp⟩
  exact (pms_one (pms_ret (pm_tup (pma_cons pm_str (pma_cons (pm_fld C.ct (qv 0)) (pma_cons (pm_fld C.ct (qv 0)) pma_nil))))))
theorem sc_PairTable_note : FnScope [("self" : Str)] [("self" : Str)] (defScope (meth 49 1)) := ⟨rfl, rfl, rfl, by decide +kernel, rfl, by decide +kernel, by decide +kernel⟩
theorem ok_PairTable_note (C : Ctx P w K mg base) : Okf P w K mg base 1 (He.fAd K d_PairTable_note.at_) 1 F_PairTable_note := by
  obtain ⟨fd, F⟩ := C.fn 62 (d := d_PairTable_note)
  refine ⟨fd, [("self" : Str)], fn_okN F sc_PairTable_note rfl rfl fun cdv A outer s H E hr hc nd hp tk => ?_, F.bindsN (fun _ _ _ _ _ _ us hl => match us, hl with | [_], _ => rfl), rfl, F.kp⟩
  exact (pms_one (pms_ret (pm_tup (pma_cons pm_str (pma_cons (pm_fld C.ct (qv 0)) (pma_cons (pm_fld C.ct (qv 0)) pma_nil))))))
theorem sc_Quote_note : FnScope [("self" : Str)] [("self" : Str)] (defScope (meth 52 1)) := ⟨rfl, rfl, rfl, by decide +kernel, rfl, by decide +kernel, by decide +kernel⟩
theorem ok_Quote_note (C : Ctx P w K mg base) : Okf P w K mg base 1 (He.fAd K d_Quote_note.at_) 1 F_Quote_note := by
  obtain ⟨fd, F⟩ := C.fn 63 (d := d_Quote_note)
  refine ⟨fd, [("self" : Str)], fn_okN F sc_Quote_note rfl rfl fun cdv A outer s H E hr hc nd hp tk => ?_, F.bindsN (fun _ _ _ _ _ _ us hl => match us, hl with | [_], _ => rfl), rfl, F.kp⟩
  exact (pms_one (pms_ret (pm_tup (pma_cons pm_str (pma_cons (pm_fld C.ct (qv 0)) (pma_cons (pm_fld C.ct (qv 0)) (pma_cons (pm_fld C.ct (qv 0)) (pma_cons (pm_fld C.ct (qv 0)) pma_nil))))))))
theorem sc_Settlement_note : FnScope [("self" : Str)] [("self" : Str)] (defScope (meth 32 1)) := ⟨rfl, rfl, rfl, by decide +kernel, rfl, by decide +kernel, by decide +kernel⟩
theorem ok_Settlement_note (C : Ctx P w K mg base) : Okf P w K mg base 1 (He.fAd K d_Settlement_note.at_) 1 F_Settlement_note := by
  obtain ⟨fd, F⟩ := C.fn 64 (d := d_Settlement_note)
  refine ⟨fd, [("self" : Str)], fn_okN F sc_Settlement_note rfl rfl fun cdv A outer s H E hr hc nd hp tk => ?_, F.bindsN (fun _ _ _ _ _ _ us hl => match us, hl with | [_], _ => rfl), rfl, F.kp⟩
  exact (pms_one (pms_ret (pm_tup (pma_cons pm_str (pma_cons (pm_fld C.ct (qv 0)) (pma_cons (pm_fld C.ct (qv 0)) (pma_cons (pm_fld C.ct (qv 0)) pma_nil)))))))
theorem sc_Shortage_note : FnScope [("self" : Str)] [("self" : Str)] (defScope (meth 25 1)) := ⟨rfl, rfl, rfl, by decide +kernel, rfl, by decide +kernel, by decide +kernel⟩
theorem ok_Shortage_note (C : Ctx P w K mg base) : Okf P w K mg base 1 (He.fAd K d_Shortage_note.at_) 1 F_Shortage_note := by
  obtain ⟨fd, F⟩ := C.fn 65 (d := d_Shortage_note)
  refine ⟨fd, [("self" : Str)], fn_okN F sc_Shortage_note rfl rfl fun cdv A outer s H E hr hc nd hp tk => ?_, F.bindsN (fun _ _ _ _ _ _ us hl => match us, hl with | [_], _ => rfl), rfl, F.kp⟩
  exact (pms_one (pms_ret (pm_tup (pma_cons pm_str (pma_cons (pm_fld C.ct (qv 0)) (pma_cons (pm_fld C.ct (qv 0)) (pma_cons (pm_fld C.ct (qv 0)) (pma_cons (pm_fld C.ct (qv 0)) pma_nil))))))))
theorem sc_Stuck_note : FnScope [("self" : Str)] [("self" : Str)] (defScope (meth 47 1)) := ⟨rfl, rfl, rfl, by decide +kernel, rfl, by decide +kernel, by decide +kernel⟩
theorem ok_Stuck_note (C : Ctx P w K mg base) : Okf P w K mg base 1 (He.fAd K d_Stuck_note.at_) 1 F_Stuck_note := by
  obtain ⟨fd, F⟩ := C.fn 66 (d := d_Stuck_note)
  refine ⟨fd, [("self" : Str)], fn_okN F sc_Stuck_note rfl rfl fun cdv A outer s H E hr hc nd hp tk => ?_, F.bindsN (fun _ _ _ _ _ _ us hl => match us, hl with | [_], _ => rfl), rfl, F.kp⟩
  exact (pms_one (pms_ret (pm_tup (pma_cons pm_str (pma_cons (pm_fld C.ct (qv 0)) (pma_cons (pm_fld C.ct (qv 0)) pma_nil))))))
theorem sc_Survival_note : FnScope [("self" : Str)] [("self" : Str)] (defScope (meth 37 1)) := ⟨rfl, rfl, rfl, by decide +kernel, rfl, by decide +kernel, by decide +kernel⟩
theorem ok_Survival_note (C : Ctx P w K mg base) : Okf P w K mg base 1 (He.fAd K d_Survival_note.at_) 1 F_Survival_note := by
  obtain ⟨fd, F⟩ := C.fn 67 (d := d_Survival_note)
  refine ⟨fd, [("self" : Str)], fn_okN F sc_Survival_note rfl rfl fun cdv A outer s H E hr hc nd hp tk => ?_, F.bindsN (fun _ _ _ _ _ _ us hl => match us, hl with | [_], _ => rfl), rfl, F.kp⟩
  exact (pms_one (pms_ret (pm_tup (pma_cons pm_str (pma_cons (pm_fld C.ct (qv 0)) pma_nil)))))
theorem sc_WaitBound_note : FnScope [("self" : Str)] [("self" : Str)] (defScope (meth 60 1)) := ⟨rfl, rfl, rfl, by decide +kernel, rfl, by decide +kernel, by decide +kernel⟩
theorem ok_WaitBound_note (C : Ctx P w K mg base) : Okf P w K mg base 1 (He.fAd K d_WaitBound_note.at_) 1 F_WaitBound_note := by
  obtain ⟨fd, F⟩ := C.fn 68 (d := d_WaitBound_note)
  refine ⟨fd, [("self" : Str)], fn_okN F sc_WaitBound_note rfl rfl fun cdv A outer s H E hr hc nd hp tk => ?_, F.bindsN (fun _ _ _ _ _ _ us hl => match us, hl with | [_], _ => rfl), rfl, F.kp⟩
  exact (pms_one (pms_ret (pm_tup (pma_cons pm_str (pma_cons (pm_fld C.ct (qv 0)) (pma_cons (pm_fld C.ct (qv 0)) (pma_cons (pm_fld C.ct (qv 0)) (pma_cons (pm_fld C.ct (qv 0)) (pma_cons (pm_fld C.ct (qv 0)) pma_nil)))))))))
theorem sc_WaitRing_note : FnScope [("self" : Str)] [("self" : Str)] (defScope (meth 61 1)) := ⟨rfl, rfl, rfl, by decide +kernel, rfl, by decide +kernel, by decide +kernel⟩
theorem ok_WaitRing_note (C : Ctx P w K mg base) : Okf P w K mg base 1 (He.fAd K d_WaitRing_note.at_) 1 F_WaitRing_note := by
  obtain ⟨fd, F⟩ := C.fn 69 (d := d_WaitRing_note)
  refine ⟨fd, [("self" : Str)], fn_okN F sc_WaitRing_note rfl rfl fun cdv A outer s H E hr hc nd hp tk => ?_, F.bindsN (fun _ _ _ _ _ _ us hl => match us, hl with | [_], _ => rfl), rfl, F.kp⟩
  exact (pms_one (pms_ret (pm_tup (pma_cons pm_str (pma_cons (pm_fld C.ct (qv 0)) (pma_cons (pm_fld C.ct (qv 0)) (pma_cons (pm_fld C.ct (qv 0)) pma_nil)))))))
theorem sc_Yes_holds : FnScope [("self" : Str)] [("self" : Str)] (defScope (meth 16 0)) := ⟨rfl, rfl, rfl, by decide +kernel, rfl, by decide +kernel, by decide +kernel⟩
theorem ok_Yes_holds (C : Ctx P w K mg base) : Okf P w K mg base 1 (He.fAd K d_Yes_holds.at_) 1 F_Yes_holds := by
  obtain ⟨fd, F⟩ := C.fn 70 (d := d_Yes_holds)
  refine ⟨fd, [("self" : Str)], fn_okN F sc_Yes_holds rfl rfl fun cdv A outer s H E hr hc nd hp tk => ?_, F.bindsN (fun _ _ _ _ _ _ us hl => match us, hl with | [_], _ => rfl), rfl, F.kp⟩
  exact (pms_one (pms_ret pm_bl))
theorem sc_law_flags : FnScope [("_law_c" : Str), ("_law_flags_here" : Str)] [("_law_c" : Str)] (defScope (top 105)) := ⟨rfl, rfl, rfl, by decide +kernel, rfl, by decide +kernel, by decide +kernel⟩
theorem ok_law_flags (C : Ctx P w K mg base) : Okf P w K mg base 1 (He.fAd K d_law_flags.at_) 1 F_law_flags := by
  obtain ⟨fd, F⟩ := C.fn 71 (d := d_law_flags)
  refine ⟨fd, [("_law_c" : Str)], fn_okN F sc_law_flags rfl rfl fun cdv A outer s H E hr hc nd hp tk => ?_, F.bindsN (fun _ _ _ _ _ _ us hl => match us, hl with | [_], _ => rfl), rfl, F.kp⟩
  exact (pms_cons (qset nd 1 (pm_fls (pma_cons (pm_callB call_isi (cc_isi C.isa) rfl (C.free _ (by decide)) boot_isinstance (pma_cons (qv 0) (pma_cons (qgg (C.glo _ (by decide))) pma_nil))) (pma_cons (pm_callB call_isi (cc_isi C.isa) rfl (C.free _ (by decide)) boot_isinstance (pma_cons (qv 0) (pma_cons (qgg (C.glo _ (by decide))) pma_nil))) pma_nil)))) (pms_cons (qset nd 1 (qadd (qv 1) (pm_fls (pma_cons (pm_callB call_isi (cc_isi C.isa) rfl (C.free _ (by decide)) boot_isinstance (pma_cons (qv 0) (pma_cons (qgg (C.glo _ (by decide))) pma_nil))) (pma_cons (pm_callB call_isi (cc_isi C.isa) rfl (C.free _ (by decide)) boot_isinstance (pma_cons (qv 0) (pma_cons (qgg (C.glo _ (by decide))) pma_nil))) pma_nil))))) (pms_cons (qset nd 1 (qadd (qv 1) (pm_fls (pma_cons (pm_callB call_isi (cc_isi C.isa) rfl (C.free _ (by decide)) boot_isinstance (pma_cons (qv 0) (pma_cons (qgg (C.glo _ (by decide))) pma_nil))) (pma_cons (pm_callB call_isi (cc_isi C.isa) rfl (C.free _ (by decide)) boot_isinstance (pma_cons (qv 0) (pma_cons (qgg (C.glo _ (by decide))) pma_nil))) pma_nil))))) (pms_cons (qset nd 1 (qadd (qv 1) (pm_fls (pma_cons (pm_callB call_isi (cc_isi C.isa) rfl (C.free _ (by decide)) boot_isinstance (pma_cons (qv 0) (pma_cons (qgg (C.glo _ (by decide))) pma_nil))) (pma_cons (pm_callB call_isi (cc_isi C.isa) rfl (C.free _ (by decide)) boot_isinstance (pma_cons (qv 0) (pma_cons (qgg (C.glo _ (by decide))) pma_nil))) pma_nil))))) (pms_cons (qset nd 1 (qadd (qv 1) (pm_fls (pma_cons (pm_callB call_isi (cc_isi C.isa) rfl (C.free _ (by decide)) boot_isinstance (pma_cons (qv 0) (pma_cons (qgg (C.glo _ (by decide))) pma_nil))) (pma_cons (pm_callB call_isi (cc_isi C.isa) rfl (C.free _ (by decide)) boot_isinstance (pma_cons (qv 0) (pma_cons (qgg (C.glo _ (by decide))) pma_nil))) pma_nil))))) (pms_cons (qset nd 1 (qadd (qv 1) (pm_fls (pma_cons (pm_callB call_isi (cc_isi C.isa) rfl (C.free _ (by decide)) boot_isinstance (pma_cons (qv 0) (pma_cons (qgg (C.glo _ (by decide))) pma_nil))) (pma_cons (pm_callB call_isi (cc_isi C.isa) rfl (C.free _ (by decide)) boot_isinstance (pma_cons (qv 0) (pma_cons (qgg (C.glo _ (by decide))) pma_nil))) pma_nil))))) (pms_cons (qset nd 1 (qadd (qv 1) (pm_fls (pma_cons (pm_callB call_isi (cc_isi C.isa) rfl (C.free _ (by decide)) boot_isinstance (pma_cons (qv 0) (pma_cons (qgg (C.glo _ (by decide))) pma_nil))) (pma_cons (pm_callB call_isi (cc_isi C.isa) rfl (C.free _ (by decide)) boot_isinstance (pma_cons (qv 0) (pma_cons (qgg (C.glo _ (by decide))) pma_nil))) pma_nil))))) (pms_cons (qset nd 1 (qadd (qv 1) (pm_fls (pma_cons (pm_callB call_isi (cc_isi C.isa) rfl (C.free _ (by decide)) boot_isinstance (pma_cons (qv 0) (pma_cons (qgg (C.glo _ (by decide))) pma_nil))) (pma_cons (pm_callB call_isi (cc_isi C.isa) rfl (C.free _ (by decide)) boot_isinstance (pma_cons (qv 0) (pma_cons (qgg (C.glo _ (by decide))) pma_nil))) pma_nil))))) (pms_cons (qset nd 1 (qadd (qv 1) (pm_fls (pma_cons (pm_callB call_isi (cc_isi C.isa) rfl (C.free _ (by decide)) boot_isinstance (pma_cons (qv 0) (pma_cons (qgg (C.glo _ (by decide))) pma_nil))) (pma_cons (pm_callB call_isi (cc_isi C.isa) rfl (C.free _ (by decide)) boot_isinstance (pma_cons (qv 0) (pma_cons (qgg (C.glo _ (by decide))) pma_nil))) pma_nil))))) (pms_one (pms_ret (qadd (qv 1) (pm_fls (pma_cons (pm_callB call_isi (cc_isi C.isa) rfl (C.free _ (by decide)) boot_isinstance (pma_cons (qv 0) (pma_cons (qgg (C.glo _ (by decide))) pma_nil))) (pma_cons (pm_callB call_isi (cc_isi C.isa) rfl (C.free _ (by decide)) boot_isinstance (pma_cons (qv 0) (pma_cons (qgg (C.glo _ (by decide))) pma_nil))) pma_nil)))))))))))))))
theorem sc_law_plain : FnScope [("_law_note_here" : Str), ("_law_one" : Str)] [("_law_note_here" : Str)] (defScope (top 101)) := ⟨rfl, rfl, rfl, by decide +kernel, rfl, by decide +kernel, by decide +kernel⟩
theorem ok_law_plain (C : Ctx P w K mg base) : ∀ k, Okf P w K mg base (k + 0) (He.fAd K d_law_plain.at_) 1 (F_law_plain k)
  | 0 => by
    obtain ⟨fd, F⟩ := C.fn 72 (d := d_law_plain)
    exact ⟨fd, [("_law_note_here" : Str)], fn_badM rfl, F.bindsN (fun _ _ _ _ _ _ us hl => match us, hl with | [_], _ => rfl), rfl, F.kp⟩
  | k + 1 => by
    show Okf P w K mg base ((k + 0) + 1) (He.fAd K d_law_plain.at_) 1 (F_law_plain (k + 1))
    obtain ⟨fd, F⟩ := C.fn 72 (d := d_law_plain)
    have oF := ok_law_plain C k
    have aF := ar_law_plain k
    refine ⟨fd, [("_law_note_here" : Str)], fn_okN F sc_law_plain rfl rfl fun cdv A outer s H E hr hc nd hp tk => ?_, F.bindsN (fun _ _ _ _ _ _ us hl => match us, hl with | [_], _ => rfl), rfl, F.kp⟩
    exact (pms_cons (pms_if (pmb_val (pm_callB call_isi (cc_isi C.isa) rfl (C.free _ (by decide)) boot_isinstance (pma_cons (qv 0) (pma_cons (qty (C.free _ (by decide)) boot_tuple) pma_nil)))) (pms_one (pms_ret (pm_callB (cr_all hc) cc_all rfl (C.free _ (by decide)) boot_all (pma_cons (qlc hc nd [(("_law_one" : Str), 1)] (.one 1) (pmi_seq (qv 0)) (fun _ _ _ _ _ => (pg_name nd rfl (by first | exact Or.inl rfl | exact Or.inr rfl))) (fun _ _ _ _ _ => (qcall oF aF hr takes0 (C.glo _ (by decide)) (pma_cons (qv 1) pma_nil)))) pma_nil)))) pms_nil) (pms_cons (pms_if (pmb_w (pmw_or (tis hr (qv 0) pm_non) (pmw_or1 (pmb_val (pm_callB call_isi (cc_isi C.isa) rfl (C.free _ (by decide)) boot_isinstance (pma_cons (qv 0) (pma_cons (qty (C.free _ (by decide)) boot_str) pma_nil))))))) (pms_one (pms_ret pm_bl)) pms_nil) (pms_one (pms_ret (pm_and (pm_callB call_isi (cc_isi C.isa) rfl (C.free _ (by decide)) boot_isinstance (pma_cons (qv 0) (pma_cons (qty (C.free _ (by decide)) boot_int) pma_nil))) (pm_one (pm_not (pm_callB call_isi (cc_isi C.isa) rfl (C.free _ (by decide)) boot_isinstance (pma_cons (qv 0) (pma_cons (qty (C.free _ (by decide)) boot_bool) pma_nil))))))))))
theorem does_note {X : Cx} {W : WX} {j : Nat} (C : Ctx X.prog X.w X.K X.mg X.base) (hr : Room j X.A) (tk : Takes X W) (hk : 2 ≤ j := by omega) : ∀ (Cn : Str) (F : Fn) (ca : Addr), noteT Cn = some F → X.mg Cn = some (.ref ca) → Cls X.K ca ∧ ∃ g, Meth X.K ca ("note" : Str) g ∧ Does X W g F := by
  intro Cn F ca h hm
  have h' := lookup_memF (show noteL.lookup Cn = some F from h)
  unfold noteL at h'
  simp only [List.mem_cons, List.not_mem_nil, or_false, Prod.mk.injEq] at h'
  rcases h' with ⟨rfl, rfl⟩ | ⟨rfl, rfl⟩ | ⟨rfl, rfl⟩ | ⟨rfl, rfl⟩ | ⟨rfl, rfl⟩ | ⟨rfl, rfl⟩ | ⟨rfl, rfl⟩ | ⟨rfl, rfl⟩ | ⟨rfl, rfl⟩ | ⟨rfl, rfl⟩ | ⟨rfl, rfl⟩ | ⟨rfl, rfl⟩ | ⟨rfl, rfl⟩ | ⟨rfl, rfl⟩ | ⟨rfl, rfl⟩ | ⟨rfl, rfl⟩ | ⟨rfl, rfl⟩ | ⟨rfl, rfl⟩ | ⟨rfl, rfl⟩ | ⟨rfl, rfl⟩
  · obtain ⟨h1, h2⟩ := C.meth_ (("Shortage" : Str), ("note" : Str), ("Shortage" : Str)) (by decide)
    have e : He.ga X.K ("Shortage" : Str) = ca := Value.ref.inj (Option.some.inj ((C.glo ("Shortage" : Str) (by decide)).symm.trans hm))
    subst e
    exact ⟨h1, _, h2, (ok_Shortage_note C).does ar_Shortage_note hr tk (by omega)⟩
  · obtain ⟨h1, h2⟩ := C.meth_ (("Settlement" : Str), ("note" : Str), ("Settlement" : Str)) (by decide)
    have e : He.ga X.K ("Settlement" : Str) = ca := Value.ref.inj (Option.some.inj ((C.glo ("Settlement" : Str) (by decide)).symm.trans hm))
    subst e
    exact ⟨h1, _, h2, (ok_Settlement_note C).does ar_Settlement_note hr tk (by omega)⟩
  · obtain ⟨h1, h2⟩ := C.meth_ (("Packing" : Str), ("note" : Str), ("Packing" : Str)) (by decide)
    have e : He.ga X.K ("Packing" : Str) = ca := Value.ref.inj (Option.some.inj ((C.glo ("Packing" : Str) (by decide)).symm.trans hm))
    subst e
    exact ⟨h1, _, h2, (ok_Packing_note C).does ar_Packing_note hr tk (by omega)⟩
  · obtain ⟨h1, h2⟩ := C.meth_ (("CaseTree" : Str), ("note" : Str), ("CaseTree" : Str)) (by decide)
    have e : He.ga X.K ("CaseTree" : Str) = ca := Value.ref.inj (Option.some.inj ((C.glo ("CaseTree" : Str) (by decide)).symm.trans hm))
    subst e
    exact ⟨h1, _, h2, (ok_CaseTree_note C).does ar_CaseTree_note hr tk (by omega)⟩
  · obtain ⟨h1, h2⟩ := C.meth_ (("Survival" : Str), ("note" : Str), ("Survival" : Str)) (by decide)
    have e : He.ga X.K ("Survival" : Str) = ca := Value.ref.inj (Option.some.inj ((C.glo ("Survival" : Str) (by decide)).symm.trans hm))
    subst e
    exact ⟨h1, _, h2, (ok_Survival_note C).does ar_Survival_note hr tk (by omega)⟩
  · obtain ⟨h1, h2⟩ := C.meth_ (("Frail" : Str), ("note" : Str), ("Frail" : Str)) (by decide)
    have e : He.ga X.K ("Frail" : Str) = ca := Value.ref.inj (Option.some.inj ((C.glo ("Frail" : Str) (by decide)).symm.trans hm))
    subst e
    exact ⟨h1, _, h2, (ok_Frail_note C).does ar_Frail_note hr tk (by omega)⟩
  · obtain ⟨h1, h2⟩ := C.meth_ (("Levels" : Str), ("note" : Str), ("Levels" : Str)) (by decide)
    have e : He.ga X.K ("Levels" : Str) = ca := Value.ref.inj (Option.some.inj ((C.glo ("Levels" : Str) (by decide)).symm.trans hm))
    subst e
    exact ⟨h1, _, h2, (ok_Levels_note C).does ar_Levels_note hr tk (by omega)⟩
  · obtain ⟨h1, h2⟩ := C.meth_ (("FloorPlan" : Str), ("note" : Str), ("FloorPlan" : Str)) (by decide)
    have e : He.ga X.K ("FloorPlan" : Str) = ca := Value.ref.inj (Option.some.inj ((C.glo ("FloorPlan" : Str) (by decide)).symm.trans hm))
    subst e
    exact ⟨h1, _, h2, (ok_FloorPlan_note C).does ar_FloorPlan_note hr tk (by omega)⟩
  · obtain ⟨h1, h2⟩ := C.meth_ (("Crowded" : Str), ("note" : Str), ("Crowded" : Str)) (by decide)
    have e : He.ga X.K ("Crowded" : Str) = ca := Value.ref.inj (Option.some.inj ((C.glo ("Crowded" : Str) (by decide)).symm.trans hm))
    subst e
    exact ⟨h1, _, h2, (ok_Crowded_note C).does ar_Crowded_note hr tk (by omega)⟩
  · obtain ⟨h1, h2⟩ := C.meth_ (("MovePlan" : Str), ("note" : Str), ("MovePlan" : Str)) (by decide)
    have e : He.ga X.K ("MovePlan" : Str) = ca := Value.ref.inj (Option.some.inj ((C.glo ("MovePlan" : Str) (by decide)).symm.trans hm))
    subst e
    exact ⟨h1, _, h2, (ok_MovePlan_note C).does ar_MovePlan_note hr tk (by omega)⟩
  · obtain ⟨h1, h2⟩ := C.meth_ (("Stuck" : Str), ("note" : Str), ("Stuck" : Str)) (by decide)
    have e : He.ga X.K ("Stuck" : Str) = ca := Value.ref.inj (Option.some.inj ((C.glo ("Stuck" : Str) (by decide)).symm.trans hm))
    subst e
    exact ⟨h1, _, h2, (ok_Stuck_note C).does ar_Stuck_note hr tk (by omega)⟩
  · obtain ⟨h1, h2⟩ := C.meth_ (("PairTable" : Str), ("note" : Str), ("PairTable" : Str)) (by decide)
    have e : He.ga X.K ("PairTable" : Str) = ca := Value.ref.inj (Option.some.inj ((C.glo ("PairTable" : Str) (by decide)).symm.trans hm))
    subst e
    exact ⟨h1, _, h2, (ok_PairTable_note C).does ar_PairTable_note hr tk (by omega)⟩
  · obtain ⟨h1, h2⟩ := C.meth_ (("PairBook" : Str), ("note" : Str), ("PairBook" : Str)) (by decide)
    have e : He.ga X.K ("PairBook" : Str) = ca := Value.ref.inj (Option.some.inj ((C.glo ("PairBook" : Str) (by decide)).symm.trans hm))
    subst e
    exact ⟨h1, _, h2, (ok_PairBook_note C).does ar_PairBook_note hr tk (by omega)⟩
  · obtain ⟨h1, h2⟩ := C.meth_ (("Quote" : Str), ("note" : Str), ("Quote" : Str)) (by decide)
    have e : He.ga X.K ("Quote" : Str) = ca := Value.ref.inj (Option.some.inj ((C.glo ("Quote" : Str) (by decide)).symm.trans hm))
    subst e
    exact ⟨h1, _, h2, (ok_Quote_note C).does ar_Quote_note hr tk (by omega)⟩
  · obtain ⟨h1, h2⟩ := C.meth_ (("NoQuote" : Str), ("note" : Str), ("NoQuote" : Str)) (by decide)
    have e : He.ga X.K ("NoQuote" : Str) = ca := Value.ref.inj (Option.some.inj ((C.glo ("NoQuote" : Str) (by decide)).symm.trans hm))
    subst e
    exact ⟨h1, _, h2, (ok_NoQuote_note C).does ar_NoQuote_note hr tk (by omega)⟩
  · obtain ⟨h1, h2⟩ := C.meth_ (("Blockers" : Str), ("note" : Str), ("Blockers" : Str)) (by decide)
    have e : He.ga X.K ("Blockers" : Str) = ca := Value.ref.inj (Option.some.inj ((C.glo ("Blockers" : Str) (by decide)).symm.trans hm))
    subst e
    exact ⟨h1, _, h2, (ok_Blockers_note C).does ar_Blockers_note hr tk (by omega)⟩
  · obtain ⟨h1, h2⟩ := C.meth_ (("Kept" : Str), ("note" : Str), ("Kept" : Str)) (by decide)
    have e : He.ga X.K ("Kept" : Str) = ca := Value.ref.inj (Option.some.inj ((C.glo ("Kept" : Str) (by decide)).symm.trans hm))
    subst e
    exact ⟨h1, _, h2, (ok_Kept_note C).does ar_Kept_note hr tk (by omega)⟩
  · obtain ⟨h1, h2⟩ := C.meth_ (("Broken" : Str), ("note" : Str), ("Broken" : Str)) (by decide)
    have e : He.ga X.K ("Broken" : Str) = ca := Value.ref.inj (Option.some.inj ((C.glo ("Broken" : Str) (by decide)).symm.trans hm))
    subst e
    exact ⟨h1, _, h2, (ok_Broken_note C).does ar_Broken_note hr tk (by omega)⟩
  · obtain ⟨h1, h2⟩ := C.meth_ (("WaitBound" : Str), ("note" : Str), ("WaitBound" : Str)) (by decide)
    have e : He.ga X.K ("WaitBound" : Str) = ca := Value.ref.inj (Option.some.inj ((C.glo ("WaitBound" : Str) (by decide)).symm.trans hm))
    subst e
    exact ⟨h1, _, h2, (ok_WaitBound_note C).does ar_WaitBound_note hr tk (by omega)⟩
  · obtain ⟨h1, h2⟩ := C.meth_ (("WaitRing" : Str), ("note" : Str), ("WaitRing" : Str)) (by decide)
    have e : He.ga X.K ("WaitRing" : Str) = ca := Value.ref.inj (Option.some.inj ((C.glo ("WaitRing" : Str) (by decide)).symm.trans hm))
    subst e
    exact ⟨h1, _, h2, (ok_WaitRing_note C).does ar_WaitRing_note hr tk (by omega)⟩
theorem does_holds {X : Cx} {W : WX} {j : Nat} (C : Ctx X.prog X.w X.K X.mg X.base) (hr : Room j X.A) (tk : Takes X W) (hk : 1 ≤ j := by omega) : ∀ (Cn : Str) (F : Fn) (ca : Addr), holdsT Cn = some F → X.mg Cn = some (.ref ca) → Cls X.K ca ∧ ∃ g, Meth X.K ca ("holds" : Str) g ∧ Does X W g F := by
  intro Cn F ca h hm
  have h' := lookup_memF (show holdsL.lookup Cn = some F from h)
  unfold holdsL at h'
  simp only [List.mem_cons, List.not_mem_nil, or_false, Prod.mk.injEq] at h'
  rcases h' with ⟨rfl, rfl⟩ | ⟨rfl, rfl⟩ | ⟨rfl, rfl⟩ | ⟨rfl, rfl⟩ | ⟨rfl, rfl⟩ | ⟨rfl, rfl⟩ | ⟨rfl, rfl⟩ | ⟨rfl, rfl⟩ | ⟨rfl, rfl⟩ | ⟨rfl, rfl⟩ | ⟨rfl, rfl⟩ | ⟨rfl, rfl⟩ | ⟨rfl, rfl⟩ | ⟨rfl, rfl⟩ | ⟨rfl, rfl⟩ | ⟨rfl, rfl⟩ | ⟨rfl, rfl⟩ | ⟨rfl, rfl⟩ | ⟨rfl, rfl⟩ | ⟨rfl, rfl⟩
  · obtain ⟨h1, h2⟩ := C.meth_ (("Shortage" : Str), ("holds" : Str), ("No" : Str)) (by decide)
    have e : He.ga X.K ("Shortage" : Str) = ca := Value.ref.inj (Option.some.inj ((C.glo ("Shortage" : Str) (by decide)).symm.trans hm))
    subst e
    exact ⟨h1, _, h2, (ok_No_holds C).does ar_No_holds hr tk (by omega)⟩
  · obtain ⟨h1, h2⟩ := C.meth_ (("Settlement" : Str), ("holds" : Str), ("Yes" : Str)) (by decide)
    have e : He.ga X.K ("Settlement" : Str) = ca := Value.ref.inj (Option.some.inj ((C.glo ("Settlement" : Str) (by decide)).symm.trans hm))
    subst e
    exact ⟨h1, _, h2, (ok_Yes_holds C).does ar_Yes_holds hr tk (by omega)⟩
  · obtain ⟨h1, h2⟩ := C.meth_ (("Packing" : Str), ("holds" : Str), ("Yes" : Str)) (by decide)
    have e : He.ga X.K ("Packing" : Str) = ca := Value.ref.inj (Option.some.inj ((C.glo ("Packing" : Str) (by decide)).symm.trans hm))
    subst e
    exact ⟨h1, _, h2, (ok_Yes_holds C).does ar_Yes_holds hr tk (by omega)⟩
  · obtain ⟨h1, h2⟩ := C.meth_ (("CaseTree" : Str), ("holds" : Str), ("No" : Str)) (by decide)
    have e : He.ga X.K ("CaseTree" : Str) = ca := Value.ref.inj (Option.some.inj ((C.glo ("CaseTree" : Str) (by decide)).symm.trans hm))
    subst e
    exact ⟨h1, _, h2, (ok_No_holds C).does ar_No_holds hr tk (by omega)⟩
  · obtain ⟨h1, h2⟩ := C.meth_ (("Survival" : Str), ("holds" : Str), ("Yes" : Str)) (by decide)
    have e : He.ga X.K ("Survival" : Str) = ca := Value.ref.inj (Option.some.inj ((C.glo ("Survival" : Str) (by decide)).symm.trans hm))
    subst e
    exact ⟨h1, _, h2, (ok_Yes_holds C).does ar_Yes_holds hr tk (by omega)⟩
  · obtain ⟨h1, h2⟩ := C.meth_ (("Frail" : Str), ("holds" : Str), ("No" : Str)) (by decide)
    have e : He.ga X.K ("Frail" : Str) = ca := Value.ref.inj (Option.some.inj ((C.glo ("Frail" : Str) (by decide)).symm.trans hm))
    subst e
    exact ⟨h1, _, h2, (ok_No_holds C).does ar_No_holds hr tk (by omega)⟩
  · obtain ⟨h1, h2⟩ := C.meth_ (("Levels" : Str), ("holds" : Str), ("Yes" : Str)) (by decide)
    have e : He.ga X.K ("Levels" : Str) = ca := Value.ref.inj (Option.some.inj ((C.glo ("Levels" : Str) (by decide)).symm.trans hm))
    subst e
    exact ⟨h1, _, h2, (ok_Yes_holds C).does ar_Yes_holds hr tk (by omega)⟩
  · obtain ⟨h1, h2⟩ := C.meth_ (("FloorPlan" : Str), ("holds" : Str), ("Yes" : Str)) (by decide)
    have e : He.ga X.K ("FloorPlan" : Str) = ca := Value.ref.inj (Option.some.inj ((C.glo ("FloorPlan" : Str) (by decide)).symm.trans hm))
    subst e
    exact ⟨h1, _, h2, (ok_Yes_holds C).does ar_Yes_holds hr tk (by omega)⟩
  · obtain ⟨h1, h2⟩ := C.meth_ (("Crowded" : Str), ("holds" : Str), ("No" : Str)) (by decide)
    have e : He.ga X.K ("Crowded" : Str) = ca := Value.ref.inj (Option.some.inj ((C.glo ("Crowded" : Str) (by decide)).symm.trans hm))
    subst e
    exact ⟨h1, _, h2, (ok_No_holds C).does ar_No_holds hr tk (by omega)⟩
  · obtain ⟨h1, h2⟩ := C.meth_ (("MovePlan" : Str), ("holds" : Str), ("Yes" : Str)) (by decide)
    have e : He.ga X.K ("MovePlan" : Str) = ca := Value.ref.inj (Option.some.inj ((C.glo ("MovePlan" : Str) (by decide)).symm.trans hm))
    subst e
    exact ⟨h1, _, h2, (ok_Yes_holds C).does ar_Yes_holds hr tk (by omega)⟩
  · obtain ⟨h1, h2⟩ := C.meth_ (("Stuck" : Str), ("holds" : Str), ("No" : Str)) (by decide)
    have e : He.ga X.K ("Stuck" : Str) = ca := Value.ref.inj (Option.some.inj ((C.glo ("Stuck" : Str) (by decide)).symm.trans hm))
    subst e
    exact ⟨h1, _, h2, (ok_No_holds C).does ar_No_holds hr tk (by omega)⟩
  · obtain ⟨h1, h2⟩ := C.meth_ (("PairTable" : Str), ("holds" : Str), ("Yes" : Str)) (by decide)
    have e : He.ga X.K ("PairTable" : Str) = ca := Value.ref.inj (Option.some.inj ((C.glo ("PairTable" : Str) (by decide)).symm.trans hm))
    subst e
    exact ⟨h1, _, h2, (ok_Yes_holds C).does ar_Yes_holds hr tk (by omega)⟩
  · obtain ⟨h1, h2⟩ := C.meth_ (("PairBook" : Str), ("holds" : Str), ("No" : Str)) (by decide)
    have e : He.ga X.K ("PairBook" : Str) = ca := Value.ref.inj (Option.some.inj ((C.glo ("PairBook" : Str) (by decide)).symm.trans hm))
    subst e
    exact ⟨h1, _, h2, (ok_No_holds C).does ar_No_holds hr tk (by omega)⟩
  · obtain ⟨h1, h2⟩ := C.meth_ (("Quote" : Str), ("holds" : Str), ("Yes" : Str)) (by decide)
    have e : He.ga X.K ("Quote" : Str) = ca := Value.ref.inj (Option.some.inj ((C.glo ("Quote" : Str) (by decide)).symm.trans hm))
    subst e
    exact ⟨h1, _, h2, (ok_Yes_holds C).does ar_Yes_holds hr tk (by omega)⟩
  · obtain ⟨h1, h2⟩ := C.meth_ (("NoQuote" : Str), ("holds" : Str), ("No" : Str)) (by decide)
    have e : He.ga X.K ("NoQuote" : Str) = ca := Value.ref.inj (Option.some.inj ((C.glo ("NoQuote" : Str) (by decide)).symm.trans hm))
    subst e
    exact ⟨h1, _, h2, (ok_No_holds C).does ar_No_holds hr tk (by omega)⟩
  · obtain ⟨h1, h2⟩ := C.meth_ (("Blockers" : Str), ("holds" : Str), ("Yes" : Str)) (by decide)
    have e : He.ga X.K ("Blockers" : Str) = ca := Value.ref.inj (Option.some.inj ((C.glo ("Blockers" : Str) (by decide)).symm.trans hm))
    subst e
    exact ⟨h1, _, h2, (ok_Yes_holds C).does ar_Yes_holds hr tk (by omega)⟩
  · obtain ⟨h1, h2⟩ := C.meth_ (("Kept" : Str), ("holds" : Str), ("Yes" : Str)) (by decide)
    have e : He.ga X.K ("Kept" : Str) = ca := Value.ref.inj (Option.some.inj ((C.glo ("Kept" : Str) (by decide)).symm.trans hm))
    subst e
    exact ⟨h1, _, h2, (ok_Yes_holds C).does ar_Yes_holds hr tk (by omega)⟩
  · obtain ⟨h1, h2⟩ := C.meth_ (("Broken" : Str), ("holds" : Str), ("No" : Str)) (by decide)
    have e : He.ga X.K ("Broken" : Str) = ca := Value.ref.inj (Option.some.inj ((C.glo ("Broken" : Str) (by decide)).symm.trans hm))
    subst e
    exact ⟨h1, _, h2, (ok_No_holds C).does ar_No_holds hr tk (by omega)⟩
  · obtain ⟨h1, h2⟩ := C.meth_ (("WaitBound" : Str), ("holds" : Str), ("Yes" : Str)) (by decide)
    have e : He.ga X.K ("WaitBound" : Str) = ca := Value.ref.inj (Option.some.inj ((C.glo ("WaitBound" : Str) (by decide)).symm.trans hm))
    subst e
    exact ⟨h1, _, h2, (ok_Yes_holds C).does ar_Yes_holds hr tk (by omega)⟩
  · obtain ⟨h1, h2⟩ := C.meth_ (("WaitRing" : Str), ("holds" : Str), ("No" : Str)) (by decide)
    have e : He.ga X.K ("WaitRing" : Str) = ca := Value.ref.inj (Option.some.inj ((C.glo ("WaitRing" : Str) (by decide)).symm.trans hm))
    subst e
    exact ⟨h1, _, h2, (ok_No_holds C).does ar_No_holds hr tk (by omega)⟩
theorem sc_law_same : FnScope [("_law_c" : Str), ("_law_index" : Str), ("_law_note_here" : Str), ("_law_yes" : Str), ("_law_told" : Str), ("_law_k" : Str)] [("_law_c" : Str), ("_law_index" : Str), ("_law_note_here" : Str)] (defScope (top 106)) := ⟨rfl, rfl, rfl, by decide +kernel, rfl, by decide +kernel, by decide +kernel⟩
theorem ok_law_same (C : Ctx P w K mg base) : Okf P w K mg base 61 (He.fAd K d_law_same.at_) 3 F_law_same := by
  obtain ⟨fd, F⟩ := C.fn 73 (d := d_law_same)
  refine ⟨fd, [("_law_c" : Str), ("_law_index" : Str), ("_law_note_here" : Str)], fn_okN F sc_law_same rfl rfl fun cdv A outer s H E hr hc nd hp tk => ?_, F.bindsN (fun _ _ _ _ _ _ us hl => match us, hl with | [_, _, _], _ => rfl), rfl, F.kp⟩
  exact (pms_cons (pms_if (tne hr (qcall (ok_law_flags C) ar_law_flags hr tk (C.glo _ (by decide)) (pma_cons (qv 0) pma_nil)) (qlc hc nd [(("_law_k" : Str), 5)] (.one 5) (pmi_range1 rfl (C.free _ (by decide)) pm_int) (fun _ _ _ _ _ => (pg_name nd rfl (by first | exact Or.inl rfl | exact Or.inr rfl))) (fun _ _ _ _ _ => (qeq hr (qv 5) (qv 1))))) (pms_one (pms_ret pm_bl)) pms_nil) (pms_cons (qset nd 3 (qin hr (qv 1) (pm_fls (pma_cons pm_int (pma_cons pm_int (pma_cons pm_int (pma_cons pm_int (pma_cons pm_int (pma_cons pm_int (pma_cons pm_int (pma_cons pm_int (pma_cons pm_int (pma_cons pm_int (pma_cons pm_int pma_nil)))))))))))))) (pms_cons (pms_if (pmb_w (pmw_or (tne hr (pm_callB call_isi (cc_isi C.isa) rfl (C.free _ (by decide)) boot_isinstance (pma_cons (qv 0) (pma_cons (qgg (C.glo _ (by decide))) pma_nil))) (qv 3)) (pmw_or1 (teq hr (pm_callB call_isi (cc_isi C.isa) rfl (C.free _ (by decide)) boot_isinstance (pma_cons (qv 0) (pma_cons (qgg (C.glo _ (by decide))) pma_nil))) (qv 3))))) (pms_one (pms_ret pm_bl)) pms_nil) (pms_cons (pms_if (pmb_w (pmw_or (pmb_not (pmb_val (pm_callB call_isi (cc_isi C.isa) rfl (C.free _ (by decide)) boot_isinstance (pma_cons (qv 0) (pma_cons (qgg (C.glo _ (by decide))) pma_nil))))) (pmw_or1 (tne hr (pm_meth0 (tab := holdsT) (qv 0) (does_holds C hr tk)) (qv 3))))) (pms_one (pms_ret pm_bl)) pms_nil) (pms_cons (qset nd 4 (pm_meth0 (tab := noteT) (qv 0) (does_note C hr tk))) (pms_one (pms_ret (pm_and (pm_callB call_isi (cc_isi C.isa) rfl (C.free _ (by decide)) boot_isinstance (pma_cons (qv 4) (pma_cons (qty (C.free _ (by decide)) boot_tuple) pma_nil))) (pm_and (qeq hr (qv 4) (qv 2)) (pm_one (qcall (ok_law_plain C 60) (ar_law_plain _) hr tk (C.glo _ (by decide)) (pma_cons (qv 4) pma_nil))))))))))))
theorem sc_law_second : FnScope [("_law_word_here" : Str), ("_law_a" : Str)] [("_law_word_here" : Str), ("_law_a" : Str)] (defScope (top 104)) := ⟨rfl, rfl, rfl, by decide +kernel, rfl, by decide +kernel, by decide +kernel⟩
theorem ok_law_second (C : Ctx P w K mg base) : Okf P w K mg base 5 (He.fAd K d_law_second.at_) 2 F_law_second := by
  obtain ⟨fd, F⟩ := C.fn 74 (d := d_law_second)
  refine ⟨fd, [("_law_word_here" : Str), ("_law_a" : Str)], fn_okN F sc_law_second rfl rfl fun cdv A outer s H E hr hc nd hp tk => ?_, F.bindsN (fun _ _ _ _ _ _ us hl => match us, hl with | [_, _], _ => rfl), rfl, F.kp⟩
  exact (pms_cons (pms_if (teq hr (qv 0) pm_str) (pms_one (pms_ret (qnew (ok_Survival_init C) ar_Survival_init hr (C.glo _ (by decide)) (pma_cons (pm_ix (qv 1) pm_int) pma_nil)))) pms_nil) (pms_cons (pms_if (teq hr (qv 0) pm_str) (pms_one (pms_ret (qnew (ok_Frail_init C) ar_Frail_init hr (C.glo _ (by decide)) (pma_cons (pm_ix (qv 1) pm_int) (pma_cons (pm_ix (qv 1) pm_int) pma_nil))))) pms_nil) (pms_cons (pms_if (teq hr (qv 0) pm_str) (pms_one (pms_ret (qnew (ok_MovePlan_init C) ar_MovePlan_init hr (C.glo _ (by decide)) (pma_cons (pm_ix (qv 1) pm_int) (pma_cons (pm_ix (qv 1) pm_int) pma_nil))))) pms_nil) (pms_cons (pms_if (teq hr (qv 0) pm_str) (pms_one (pms_ret (qnew (ok_Stuck_init C) ar_Stuck_init hr (C.glo _ (by decide)) (pma_cons (pm_ix (qv 1) pm_int) (pma_cons (pm_ix (qv 1) pm_int) pma_nil))))) pms_nil) (pms_cons (pms_if (teq hr (qv 0) pm_str) (pms_one (pms_ret (qnew (ok_Kept_init C) ar_Kept_init hr (C.glo _ (by decide)) (pma_cons (pm_ix (qv 1) pm_int) (pma_cons (pm_ix (qv 1) pm_int) pma_nil))))) pms_nil) (pms_cons (pms_if (teq hr (qv 0) pm_str) (pms_one (pms_ret (qnew (ok_Broken_init C) ar_Broken_init hr (C.glo _ (by decide)) (pma_cons (pm_ix (qv 1) pm_int) (pma_cons (pm_ix (qv 1) pm_int) pma_nil))))) pms_nil) (pms_cons (pms_if (teq hr (qv 0) pm_str) (pms_one (pms_ret (qnew (ok_WaitBound_init C) ar_WaitBound_init hr (C.glo _ (by decide)) (pma_cons (pm_ix (qv 1) pm_int) (pma_cons (pm_ix (qv 1) pm_int) (pma_cons (pm_ix (qv 1) pm_int) (pma_cons (pm_ix (qv 1) pm_int) (pma_cons (pm_ix (qv 1) pm_int) pma_nil)))))))) pms_nil) (pms_cons (pms_if (teq hr (qv 0) pm_str) (pms_one (pms_ret (qnew (ok_WaitRing_init C) ar_WaitRing_init hr (C.glo _ (by decide)) (pma_cons (pm_ix (qv 1) pm_int) (pma_cons (pm_ix (qv 1) pm_int) (pma_cons (pm_ix (qv 1) pm_int) pma_nil)))))) pms_nil) (pms_cons (pms_if (teq hr (qv 0) pm_str) (pms_one (pms_ret (qnew (ok_PairTable_init C) ar_PairTable_init hr (C.glo _ (by decide)) (pma_cons (pm_ix (qv 1) pm_int) (pma_cons (pm_ix (qv 1) pm_int) pma_nil))))) pms_nil) (pms_one (pms_ret (qnew (ok_PairBook_init C) ar_PairBook_init hr (C.glo _ (by decide)) (pma_cons (pm_ix (qv 1) pm_int) (pma_cons (pm_ix (qv 1) pm_int) pma_nil))))))))))))))
theorem sc_write_note : FnScope [("note" : Str), ("texts" : Str), ("item" : Str)] [("note" : Str)] (defScope (top 18)) := ⟨rfl, rfl, rfl, by decide +kernel, rfl, by decide +kernel, by decide +kernel⟩
theorem ok_write_note (C : Ctx P w K mg base) : ∀ k, Okf P w K mg base (k + 0) (He.fAd K d_write_note.at_) 1 (F_write_note k)
  | 0 => by
    obtain ⟨fd, F⟩ := C.fn 75 (d := d_write_note)
    exact ⟨fd, [("note" : Str)], fn_badM rfl, F.bindsN (fun _ _ _ _ _ _ us hl => match us, hl with | [_], _ => rfl), rfl, F.kp⟩
  | k + 1 => by
    show Okf P w K mg base ((k + 0) + 1) (He.fAd K d_write_note.at_) 1 (F_write_note (k + 1))
    obtain ⟨fd, F⟩ := C.fn 75 (d := d_write_note)
    have oF := ok_write_note C k
    have aF := ar_write_note k
    refine ⟨fd, [("note" : Str)], fn_okN F sc_write_note rfl rfl fun cdv A outer s H E hr hc nd hp tk => ?_, F.bindsN (fun _ _ _ _ _ _ us hl => match us, hl with | [_], _ => rfl), rfl, F.kp⟩
    exact (pms_cons (pms_if (tis hr (qv 0) pm_non) (pms_one (pms_ret pm_str)) pms_nil) (pms_cons (pms_if (pmb_val (pm_callB call_isi (cc_isi C.isa) rfl (C.free _ (by decide)) boot_isinstance (pma_cons (qv 0) (pma_cons (qty (C.free _ (by decide)) boot_tuple) pma_nil)))) (pms_cons (qsetLc hc nd 1 [(("item" : Str), 2)] (.one 2) (pmi_seq (qv 0)) (fun _ _ _ _ _ => (pg_name nd rfl (by first | exact Or.inl rfl | exact Or.inr rfl))) (fun _ _ _ _ _ => (qcall oF aF hr takes0 (C.glo _ (by decide)) (pma_cons (qv 2) pma_nil)))) (pms_one (pms_ret (qadd (qadd pm_str (pm_join pm_str (qv 1))) pm_str)))) pms_nil) (pms_one (pms_ret (pm_callTy call_str2 cc_str rfl (C.free _ (by decide)) boot_str (pma_cons (qv 0) pma_nil))))))
theorem sc_certificate_text : FnScope [("certificate" : Str)] [("certificate" : Str)] (defScope (top 84)) := ⟨rfl, rfl, rfl, by decide +kernel, rfl, by decide +kernel, by decide +kernel⟩
theorem ok_certificate_text (C : Ctx P w K mg base) : Okf P w K mg base 61 (He.fAd K d_certificate_text.at_) 1 F_certificate_text := by
  obtain ⟨fd, F⟩ := C.fn 76 (d := d_certificate_text)
  refine ⟨fd, [("certificate" : Str)], fn_okN F sc_certificate_text rfl rfl fun cdv A outer s H E hr hc nd hp tk => ?_, F.bindsN (fun _ _ _ _ _ _ us hl => match us, hl with | [_], _ => rfl), rfl, F.kp⟩
  exact (pms_one (pms_ret (qcall (ok_write_note C 60) (ar_write_note _) hr tk (C.glo _ (by decide)) (pma_cons (pm_meth0 (tab := noteT) (qv 0) (does_note C hr tk)) pma_nil))))
theorem sc_law : FnScope [("_law_script" : Str), ("_law_pool_here" : Str), ("_law_index" : Str), ("_law_forms_here" : Str), ("_law_spot" : Str), ("_law_items" : Str), ("_law_note_here" : Str), ("_law_certificate" : Str), ("_law_text_here" : Str), ("_law_again" : Str), ("_law_form" : Str)] [("_law_script" : Str)] (defScope (top 112)) := ⟨rfl, rfl, rfl, by decide +kernel, rfl, by decide +kernel, by decide +kernel⟩
theorem okb_law (C : Ctx P w K mg base) {fd : FuncData} (F : FunD K d_law.name d_law.qual d_law.params d_law.body d_law.scope (d_law.dvs K) (d_law.kws K) (He.fAd K d_law.at_) fd) : FnOk P w K mg base (L2.CX P w) 62 (He.fAd K d_law.at_) fd [("_law_script" : Str)] (spM K mg 1 F_law) := by
  refine fn_okN F sc_law rfl rfl fun cdv A outer s H E hr hc nd hp tk => ?_
  exact (pms_cons (qset nd 1 (qcall (ok_law_pool C) ar_law_pool hr tk (C.glo _ (by decide)) (pma_cons (qv 0) pma_nil))) (pms_cons (qset nd 2 (qcallP (ok_law_pickD C) ar_law_pick hr tk (C.glo _ (by decide)) (pma_cons (qv 1) (pma_cons pm_int (pma_cons pm_int pma_nil))))) (pms_cons (qset nd 3 (pm_ix (qcall0 (ok_law_forms C) ar_law_forms hr tk (C.glo _ (by decide))) (qv 2))) (pms_cons (qset nd 4 (pm_lst (pma_cons pm_int pma_nil))) (pms_cons (qsetLc hc nd 5 [(("_law_form" : Str), 10)] (.one 10) (pmi_seq (pm_slice (qv 3) (pmo_some pm_int) pmo_none)) (fun _ _ _ _ _ => (pg_name nd rfl (by first | exact Or.inl rfl | exact Or.inr rfl))) (fun _ _ _ _ _ => (qcall (ok_law_made C 8) (ar_law_made _) hr takes0 (C.glo _ (by decide)) (pma_cons (qv 1) (pma_cons (qv 4) (pma_cons (qv 10) pma_nil)))))) (pms_cons (qset nd 6 (qadd (pm_tup (pma_cons (pm_ix (qv 3) pm_int) pma_nil)) (pm_callTy call_tuple_of cc_tuple rfl (C.free _ (by decide)) boot_tuple (pma_cons (qv 5) pma_nil)))) (pms_cons (pms_if (tlt hr (qv 2) pm_int) (pms_one (qset nd 7 (qcall (ok_law_first C) ar_law_first hr tk (C.glo _ (by decide)) (pma_cons (pm_ix (qv 3) pm_int) (pma_cons (qv 5) pma_nil))))) (pms_one (qset nd 7 (qcall (ok_law_second C) ar_law_second hr tk (C.glo _ (by decide)) (pma_cons (pm_ix (qv 3) pm_int) (pma_cons (qv 5) pma_nil)))))) (pms_cons (pms_if (pmb_not (pmb_val (qcall (ok_law_same C) ar_law_same hr tk (C.glo _ (by decide)) (pma_cons (qv 7) (pma_cons (qv 2) (pma_cons (qv 6) pma_nil)))))) (pms_one (pms_ret pm_bl)) pms_nil) (pms_cons (qset nd 8 (qcall (ok_certificate_text C) ar_certificate_text hr tk (C.glo _ (by decide)) (pma_cons (qv 7) pma_nil))) (pms_cons (pms_if (pmb_w (pmw_or (pmb_not (pmb_val (pm_callB call_isi (cc_isi C.isa) rfl (C.free _ (by decide)) boot_isinstance (pma_cons (qv 8) (pma_cons (qty (C.free _ (by decide)) boot_str) pma_nil))))) (pmw_or1 (tne hr (qv 8) (qcall (ok_law_text C 60) (ar_law_text _) hr tk (C.glo _ (by decide)) (pma_cons (qv 6) pma_nil)))))) (pms_one (pms_ret pm_bl)) pms_nil) (pms_cons (qset nd 9 (qcall (ok_law_read C) ar_law_read hr tk (C.glo _ (by decide)) (pma_cons (qv 8) pma_nil))) (pms_cons (pms_if (pmb_w (pmw_or (tne hr (pm_ix (qv 9) pm_int) pm_int) (pmw_or1 (pmb_not (pmb_val (qcall (ok_law_same C) ar_law_same hr tk (C.glo _ (by decide)) (pma_cons (pm_ix (qv 9) pm_int) (pma_cons (qv 2) (pma_cons (qv 6) pma_nil))))))))) (pms_one (pms_ret pm_bl)) pms_nil) (pms_cons (pms_if (pmb_w (pmw_and (teq hr (qv 2) pm_int) (pmw_and1 (tnis hr (pm_fld C.ct (pm_ix (qv 9) pm_int)) pm_non)))) (pms_one (pms_ret pm_bl)) pms_nil) (pms_cons (pms_if (tne hr (qcall (ok_certificate_text C) ar_certificate_text hr tk (C.glo _ (by decide)) (pma_cons (pm_ix (qv 9) pm_int) pma_nil)) (qv 8)) (pms_one (pms_ret pm_bl)) pms_nil) (pms_one (pms_ret (qcall (ok_law_refused C) ar_law_refused hr tk (C.glo _ (by decide)) (pma_cons (qv 1) (pma_cons (qv 3) (pma_cons (qv 6) pma_nil))))))))))))))))))))
end
end K97

set_option Elab.async false
set_option linter.all false
set_option maxRecDepth 100000
set_option maxHeartbeats 0
/-! K6: the walk of the law, from the plain law. -/
namespace K97
open PySem PySem.Spec PyProof.Rows L2 FL
theorem cx_false {P : Program} {w : World} {H : Hp} {s : Shared} {e : Value} {s' : Shared} (h : L2.CX P w [] H s (fun _ _ _ => False) e s') : False := by
  obtain ⟨_, _, _, _, _, _, _, _, _, _, _, _, z⟩ := h
  exact z
/-- walk_ofE, the exceptions' promise told of the world -/
theorem walk_ofW {l : PySem.W.OpenLaw} {n k : Nat} {q : Program} {loose : List Str} {XP : (Str → Option Value) → Heap → Prop} {YP : World → Heap → Prop} {d : DefRec} {CX : World → CXT} {x : Str}
    (hn : l.most = some n) (hn2 : n ≤ sizeLine) (hdf : d.params.defaults = []) (hr : Room k callerA)
    (F : ∀ (w : World) (mg : Str → Option Value) (fa : Addr) (h : Heap), YP w h → h.Ns mainGlobals mg → mg d.name = some (.ref fa) →
      ∃ (K : PySem.W.Frag) (fd : FuncData) (sp : Sp), K.In h ∧ (∀ (s : Shared) (u : Value), BindsTo s fd ⟨[u], []⟩ [(x, u)]) ∧
        (∀ (H : Hp) (a : Addr) (ns : List Int), ns.length ≤ n → Only H → SqL K H a (ns.map V.int) → sp [.ref a] H (fun v _ => v = .bl true) fun _ _ _ => False) ∧
        ∀ base : Heap, K.In base → base.Ns mainGlobals mg → FnOk l.prog w K mg base (CX w) k fa fd [x] sp)
    (hCX : ∀ (w : World) (H : Hp) (s : Shared) (e : Value) (s' : Shared), CX w [] H s (fun _ _ _ => False) e s' → False) :
    PySem.W.WalkO q loose XP YP l.row.toRowW d [] (fun f vs => PySem.call f vs) := by
  refine Att.attach_call hn hdf fun w s₀ s₁ mg mb fa o pm cd doc a vs ns G Y ho hd hcd hmg hobj hints hlen hg => ?_
  obtain ⟨K, fd, sp, KX, hb, hsp, hF⟩ := F w mg fa _ Y G.T.g hmg
  exact law_call KX G.T.g G.T.b G.T.builtins G.T.nolimit hg hobj hints (Nat.le_trans hlen hn2) hr hF hb (fun H hO hS => hsp H a ns hlen hO hS) fun H e s' => hCX w H s₁ e s'
/-- the plain law: what is left -/
def Plain : Prop := ∀ ns : List Int, ns.length ≤ 63 → ∃ s, F_law [.wls (ns.map .int)] [] = .ok (.bl true) s
theorem isVs_ints {K : PySem.W.Frag} {mg : Str → Option Value} {ρ : Rr} {H : Hp} : ∀ ns : List Int, IsVs K mg ρ H (ns.map V.int) (ns.map D.int)
  | [] => .nil
  | _ :: ns => .cons .int (isVs_ints ns)
theorem facts {P : Program} {w : World} {K : PySem.W.Frag} {h : Heap} {mg : Str → Option Value} {f : Addr} (hP : P = RowO.prog) (X : K.In h) (G : h.Ns mainGlobals mg) (hfa : mg ("law" : Str) = some (.ref f)) (c : SaysX w K) (pl : Plain) :
    ∃ (fd : FuncData) (sp : Sp), (∀ (s : Shared) (v : Value), BindsTo s fd ⟨[v], []⟩ [("_law_script", v)]) ∧
      (∀ (H : Hp) (a : Addr) (ns : List Int), ns.length ≤ 63 → Only H → SqL K H a (ns.map V.int) → sp [.ref a] H (fun v _ => v = .bl true) fun _ _ _ => False) ∧ ∀ base : Heap, K.In base → base.Ns mainGlobals mg → FnOk P w K mg base (L2.CX P w) 62 f fd ["_law_script"] sp := by
  obtain ⟨fd, F⟩ := c.t.d.def_ 77 (d := d_law) rfl
  have e := hfa.symm.trans (c.glo X G (x := "law") (by decide +kernel))
  cases e
  have b := FunD.bindsA (ps := [("_law_script" : Str)]) F fun _ _ _ _ _ _ us hl => match us, hl with | [_], _ => rfl
  refine ⟨fd, spM K mg 1 F_law, fun s v => b s [v] rfl, fun H a ns hl ho hS => ?_, fun base X2 G2 => okb_law (ctx X G c hP) F⟩
  obtain ⟨s, hs⟩ := pl ns hl
  refine ⟨rfl, ⟨[], []⟩, [], [.wls (ns.map .int)], ⟨rfl, List.nodup_nil, fun _ z => absurd z (by simp), fun _ _ _ z => absurd z (by simp)⟩, .cons (.wls ?_ (isVs_ints ns)) .nil, ?_⟩
  · rcases hS with hS | ⟨o, its, n, z⟩
    · rcases ho a with q | ⟨o, xs, q⟩
      · rcases hS with hS | ⟨o, hS⟩ <;> (rw [q] at hS; cases hS)
      · rcases hS with hS | ⟨o', hS⟩
        · rw [q] at hS; cases hS
        · exact .inl ⟨⟨o', hS⟩, by simp [Rr.off]⟩
    · exact .inr ⟨o, its, n, z⟩
  · rw [hs]
    intro ρ' H' l r v hv
    cases hv
    rfl
end K97

set_option Elab.async false
set_option linter.all false
set_option maxRecDepth 100000
set_option maxHeartbeats 4000000
/-! P1: running the functions by simp. -/
namespace K97
open PySem PySem.Spec PyProof.Rows L2 FL
section
variable {α β : Type} {s s' : Sto} {τ : Env'} {d : D} {a : α}
/-! ### what follows has a name, so that simp looks at what comes first alone -/
@[simp] theorem bind_ok {k : α → Sto → R β} : (R.ok a s).bind k = k a s := (rfl)
@[simp] theorem bind_exc {k : α → Sto → R β} {C : Str} {fs : List (Str × D)} : (R.exc C fs s : R α).bind k = .exc C fs s := (rfl)
@[simp] theorem toS_ok {k : α → Sto → RS} : (R.ok a s).toS τ k = k a s := (rfl)
@[simp] theorem toS_exc {k : α → Sto → RS} {C : Str} {fs : List (Str × D)} : (R.exc C fs s : R α).toS τ k = .exc C fs τ s := (rfl)
@[simp] theorem of_some : R.of (some a) s = .ok a s := (rfl)
@[simp] theorem seq_nx {k : MS} : (RS.nx τ s).seq k = k τ s := (rfl)
@[simp] theorem seq_rt {k : MS} : (RS.rt d s).seq k = .rt d s := (rfl)
@[simp] theorem seq_exc {k : MS} {C : Str} {fs : List (Str × D)} : (RS.exc C fs τ s).seq k = .exc C fs τ s := (rfl)
@[simp] theorem loop_nx {k : MS} : (RS.nx τ s).loop k = k τ s := (rfl)
@[simp] theorem loop_rt {k : MS} : (RS.rt d s).loop k = .rt d s := (rfl)
@[simp] theorem loop_exc {k : MS} {C : Str} {fs : List (Str × D)} : (RS.exc C fs τ s).loop k = .exc C fs τ s := (rfl)
@[simp] theorem fin_rt : (RS.rt d s).fin = .ok d s := (rfl)
@[simp] theorem fin_nx : (RS.nx τ s).fin = .ok .non s := (rfl)
@[simp] theorem fin_exc {C : Str} {fs : List (Str × D)} : (RS.exc C fs τ s).fin = .exc C fs s := (rfl)
@[simp] theorem nox_ok : (R.ok a s).nox = .ok a s := (rfl)
@[simp] theorem x_seq {m n : MS} : seqS m n τ s = (m τ s).seq n := (rfl)
def kSet (i : Nat) (τ : Env') : D → Sto → RS := fun d s => .nx (τ.set i (some d)) s
@[simp] theorem kSet_app {i : Nat} {τ : Env'} {x0 : D} : kSet i τ x0 s = .nx (τ.set i (some x0)) s := (rfl)
@[simp] theorem x_set {i : Nat} {m : M} : setM i m τ s = (m τ s).toS τ (kSet i τ) := (rfl)
def kRet : D → Sto → RS := fun d s => .rt d s
@[simp] theorem kRet_app : kRet d s = .rt d s := (rfl)
@[simp] theorem x_ret {m : M} : retM m τ s = (m τ s).toS τ kRet := (rfl)
def kExp (τ : Env') : D → Sto → RS := fun _ s => .nx τ s
@[simp] theorem kExp_app : kExp τ d s = .nx τ s := (rfl)
@[simp] theorem x_expr {m : M} : exprM m τ s = (m τ s).toS τ (kExp τ) := (rfl)
def kIf (x y : MS) (τ : Env') : Bool → Sto → RS := fun t s => if t = true then x τ s else y τ s
@[simp] theorem kIf_app {x y : MS} {t : Bool} : kIf x y τ t s = if t = true then x τ s else y τ s := (rfl)
@[simp] theorem x_if {c : MB} {x y : MS} : ifS c x y τ s = (c τ s).toS τ (kIf x y τ) := (rfl)
@[simp] theorem x_nil : nilS τ s = .nx τ s := (rfl)
@[simp] theorem x_c : cM d τ s = .ok d s := (rfl)
/-- a slot's value -/
def slot (o : Option (Option D)) (s : Sto) : R D := match o with
  | some (some d) => .ok d s
  | _ => .bad
@[simp] theorem slot_some : slot (some (some d)) s = .ok d s := (rfl)
@[simp] theorem x_var {i : Nat} : varM i τ s = slot τ[i]? s := (rfl)
def kOpb (f : D → D → Option D) (x : D) : D → Sto → R D := fun y s => R.of (f x y) s
@[simp] theorem kOpb_app {f : D → D → Option D} {x y : D} : kOpb f x y s = R.of (f x y) s := (rfl)
def kOp (f : D → D → Option D) (n : M) (τ : Env') : D → Sto → R D := fun x s => (n τ s).bind (kOpb f x)
@[simp] theorem kOp_app {f : D → D → Option D} {n : M} {x : D} : kOp f n τ x s = (n τ s).bind (kOpb f x) := (rfl)
@[simp] theorem x_op2 {f : D → D → Option D} {m n : M} : op2 f m n τ s = (m τ s).bind (kOp f n τ) := (rfl)
def kOsb (f : D → D → Sto → Option D) (x : D) : D → Sto → R D := fun y s => R.of (f x y s) s
@[simp] theorem kOsb_app {f : D → D → Sto → Option D} {x y : D} : kOsb f x y s = R.of (f x y s) s := (rfl)
def kOs (f : D → D → Sto → Option D) (n : M) (τ : Env') : D → Sto → R D := fun x s => (n τ s).bind (kOsb f x)
@[simp] theorem kOs_app {f : D → D → Sto → Option D} {n : M} {x : D} : kOs f n τ x s = (n τ s).bind (kOsb f x) := (rfl)
@[simp] theorem x_op2s {f : D → D → Sto → Option D} {m n : M} : op2s f m n τ s = (m τ s).bind (kOs f n τ) := (rfl)
def kO1 (f : D → Option D) : D → Sto → R D := fun x s => R.of (f x) s
@[simp] theorem kO1_app {f : D → Option D} {x : D} : kO1 f x s = R.of (f x) s := (rfl)
@[simp] theorem x_op1 {f : D → Option D} {m : M} : op1 f m τ s = (m τ s).bind (kO1 f) := (rfl)
@[simp] theorem x_call1 {f : List D → Sto → R D} {m : MA} : call1 f m τ s = (m τ s).bind f := (rfl)
@[simp] theorem x_call {F : Fn} {m : MA} : callM F m τ s = (m τ s).bind F := (rfl)
@[simp] theorem x_nilA : nilA τ s = .ok [] s := (rfl)
def kConb (x : D) : List D → Sto → R (List D) := fun xs s => .ok (x :: xs) s
@[simp] theorem kConb_app {x : D} {xs : List D} : kConb x xs s = .ok (x :: xs) s := (rfl)
def kCon (ms : MA) (τ : Env') : D → Sto → R (List D) := fun x s => (ms τ s).bind (kConb x)
@[simp] theorem kCon_app {ms : MA} {x : D} : kCon ms τ x s = (ms τ s).bind (kConb x) := (rfl)
@[simp] theorem x_consA {m : M} {ms : MA} : consA m ms τ s = (m τ s).bind (kCon ms τ) := (rfl)
/-- a truth value -/
def blO : D → Option Bool
  | .bl b => some b
  | _ => none
@[simp] theorem blO_bl {b : Bool} : blO (.bl b) = some b := (rfl)
def kBl : D → Sto → R Bool := fun x s => R.of (blO x) s
@[simp] theorem kBl_app {x : D} : kBl x s = R.of (blO x) s := (rfl)
@[simp] theorem x_valB {m : M} : valB m τ s = (m τ s).bind kBl := by
  unfold valB ttM kBl blO
  rfl
def kTt (f : D → Sto → Option Bool) : D → Sto → R Bool := fun x s => R.of (f x s) s
@[simp] theorem kTt_app {f : D → Sto → Option Bool} {x : D} : kTt f x s = R.of (f x s) s := (rfl)
@[simp] theorem x_tt {m : M} {f : D → Sto → Option Bool} : ttM f m τ s = (m τ s).bind (kTt f) := (rfl)
def kAnd (n : MB) (τ : Env') : Bool → Sto → R Bool := fun b s => if b = true then n τ s else .ok false s
@[simp] theorem kAnd_app {n : MB} {b : Bool} : kAnd n τ b s = if b = true then n τ s else .ok false s := (rfl)
@[simp] theorem x_and {m n : MB} : andB m n τ s = (m τ s).bind (kAnd n τ) := (rfl)
def kOr (n : MB) (τ : Env') : Bool → Sto → R Bool := fun b s => if b = true then .ok true s else n τ s
@[simp] theorem kOr_app {n : MB} {b : Bool} : kOr n τ b s = if b = true then .ok true s else n τ s := (rfl)
@[simp] theorem x_or {m n : MB} : orB m n τ s = (m τ s).bind (kOr n τ) := (rfl)
def kNot : Bool → Sto → R Bool := fun b s => .ok (!b) s
@[simp] theorem kNot_app {b : Bool} : kNot b s = .ok (!b) s := (rfl)
@[simp] theorem x_not {m : MB} : notB m τ s = (m τ s).bind kNot := (rfl)
def kAndMb (n : M) (τ : Env') : Bool → Sto → R D := fun b s => if b = true then n τ s else .ok (.bl false) s
@[simp] theorem kAndMb_app {n : M} {b : Bool} : kAndMb n τ b s = if b = true then n τ s else .ok (.bl false) s := (rfl)
def kAndM (n : M) (τ : Env') : D → Sto → R D := fun x s => (R.of (blO x) s).bind (kAndMb n τ)
@[simp] theorem kAndM_app {n : M} {x : D} : kAndM n τ x s = (R.of (blO x) s).bind (kAndMb n τ) := (rfl)
@[simp] theorem x_andM {m n : M} : FL.andM m n τ s = (m τ s).bind (kAndM n τ) := by
  unfold FL.andM
  cases m τ s with
  | ok x s' => cases x <;> rfl
  | _ => rfl
def kOrMb (n : M) (τ : Env') : Bool → Sto → R D := fun b s => if b = true then .ok (.bl true) s else n τ s
@[simp] theorem kOrMb_app {n : M} {b : Bool} : kOrMb n τ b s = if b = true then .ok (.bl true) s else n τ s := (rfl)
def kOrM (n : M) (τ : Env') : D → Sto → R D := fun x s => (R.of (blO x) s).bind (kOrMb n τ)
@[simp] theorem kOrM_app {n : M} {x : D} : kOrM n τ x s = (R.of (blO x) s).bind (kOrMb n τ) := (rfl)
@[simp] theorem x_orM {m n : M} : FL.orM m n τ s = (m τ s).bind (kOrM n τ) := by
  unfold FL.orM
  cases m τ s with
  | ok x s' => cases x <;> rfl
  | _ => rfl
def kNotMb : Bool → Sto → R D := fun b s => .ok (.bl !b) s
@[simp] theorem kNotMb_app {b : Bool} : kNotMb b s = .ok (.bl !b) s := (rfl)
def kNotM : D → Sto → R D := fun x s => (R.of (blO x) s).bind kNotMb
@[simp] theorem kNotM_app {x : D} : kNotM x s = (R.of (blO x) s).bind kNotMb := (rfl)
@[simp] theorem x_notM {m : M} : FL.notM m τ s = (m τ s).bind kNotM := by
  unfold FL.notM
  cases m τ s with
  | ok x s' => cases x <;> rfl
  | _ => rfl
@[simp] theorem x_yes : yesB τ s = .ok true s := (rfl)
def kTup : List D → Sto → R D := fun xs s => if xs.length ≤ sizeLine then .ok (.tup xs) s else .bad
@[simp] theorem kTup_app {xs : List D} : kTup xs s = if xs.length ≤ sizeLine then .ok (.tup xs) s else .bad := (rfl)
@[simp] theorem x_tup {ms : MA} : tupM ms τ s = (ms τ s).bind kTup := (rfl)
def kFls : List D → Sto → R D := fun xs s => if xs.length ≤ sizeLine then .ok (.fls xs) s else .bad
@[simp] theorem kFls_app {xs : List D} : kFls xs s = if xs.length ≤ sizeLine then .ok (.fls xs) s else .bad := (rfl)
@[simp] theorem x_fls {ms : MA} : flsM ms τ s = (ms τ s).bind kFls := (rfl)
def kLst : List D → Sto → R D := fun xs s => if xs.length ≤ sizeLine then .ok (.obj s.length) (s ++ [.lst xs]) else .bad
@[simp] theorem kLst_app {xs : List D} : kLst xs s = if xs.length ≤ sizeLine then .ok (.obj s.length) (s ++ [.lst xs]) else .bad := (rfl)
@[simp] theorem x_lst {ms : MA} : lstM ms τ s = (ms τ s).bind kLst := (rfl)
def kFor (g : GM) (b : MS) (τ : Env') : List D → Sto → RS := fun ds s => forL g b ds τ s
@[simp] theorem kFor_app {g : GM} {b : MS} {ds : List D} : kFor g b τ ds s = forL g b ds τ s := (rfl)
@[simp] theorem x_for {mi : MI} {g : GM} {b : MS} : forS mi g b τ s = (mi τ s).toS τ (kFor g b τ) := (rfl)
def kRng : D → Sto → R (List D) := fun x s => R.of (rng1F x) s
@[simp] theorem kRng_app {x : D} : kRng x s = R.of (rng1F x) s := (rfl)
@[simp] theorem x_rng1 {m : M} : rng1I m τ s = (m τ s).bind kRng := (rfl)
def kSeqI : D → Sto → R (List D) := fun x s => R.of (stillItems x) s
@[simp] theorem kSeqI_app {x : D} : kSeqI x s = R.of (stillItems x) s := (rfl)
@[simp] theorem x_seqI {m : M} : seqI m τ s = (m τ s).bind kSeqI := (rfl)
def kLcb : List D → Sto → R D := fun xs s => .ok (.fls xs) s
@[simp] theorem kLcb_app {xs : List D} : kLcb xs s = .ok (.fls xs) s := (rfl)
def kLc (g : Tgt) (tt : MB) (te : M) (τ : Env') : List D → Sto → R D := fun ds s => (compL g tt te τ 0 ds s).bind kLcb
@[simp] theorem kLc_app {g : Tgt} {tt : MB} {te : M} {ds : List D} : kLc g tt te τ ds s = (compL g tt te τ 0 ds s).bind kLcb := (rfl)
@[simp] theorem x_lc {mi : MI} {g : Tgt} {tt : MB} {te : M} {vs : List Nat} : lcM mi g tt te vs τ s = (mi τ s).bind (kLc g tt te (wipeD τ vs)) := (rfl)
@[simp] theorem x_noO : noO τ s = .ok none s := (rfl)
def kSom : D → Sto → R (Option Int) := fun x s => match x with
  | .int i => .ok (some i) s
  | _ => .bad
@[simp] theorem kSom_app {i : Int} : kSom (.int i) s = .ok (some i) s := (rfl)
@[simp] theorem x_someO {m : M} : someO m τ s = (m τ s).bind kSom := (rfl)
def kSl3 (x : D) (l : Option Int) : Option Int → Sto → R D := fun h s => R.of (slP x l h) s
@[simp] theorem kSl3_app {x : D} {l h : Option Int} : kSl3 x l h s = R.of (slP x l h) s := (rfl)
def kSl2 (hi : MO) (τ : Env') (x : D) : Option Int → Sto → R D := fun l s => (hi τ s).bind (kSl3 x l)
@[simp] theorem kSl2_app {hi : MO} {x : D} {l : Option Int} : kSl2 hi τ x l s = (hi τ s).bind (kSl3 x l) := (rfl)
def kSl (lo hi : MO) (τ : Env') : D → Sto → R D := fun x s => (lo τ s).bind (kSl2 hi τ x)
@[simp] theorem kSl_app {lo hi : MO} {x : D} : kSl lo hi τ x s = (lo τ s).bind (kSl2 hi τ x) := (rfl)
@[simp] theorem x_sl {m : M} {lo hi : MO} : slM m lo hi τ s = (m τ s).bind (kSl lo hi τ) := (rfl)
/-- a list's method, behind the look at the list -/
def lmA (f : Nat → List D → List D → Sto → R D) (o : Option (Nat × List D)) (ys : List D) (s : Sto) : R D := match o with
  | some (i, ds) => f i ds ys s
  | none => .bad
@[simp] theorem lmA_some {f : Nat → List D → List D → Sto → R D} {i : Nat} {ds ys : List D} : lmA f (some (i, ds)) ys s = f i ds ys s := (rfl)
def kLmb (f : Nat → List D → List D → Sto → R D) (x : D) : List D → Sto → R D := fun ys s => lmA f (lstAt x s) ys s
@[simp] theorem kLmb_app {f : Nat → List D → List D → Sto → R D} {x : D} {ys : List D} : kLmb f x ys s = lmA f (lstAt x s) ys s := (rfl)
def lmH (o : Option (Nat × List D)) (r : R D) : R D := match o with
  | none => .bad
  | some _ => r
@[simp] theorem lmH_some {p : Nat × List D} {r : R D} : lmH (some p) r = r := (rfl)
def kLm (f : Nat → List D → List D → Sto → R D) (ms : MA) (τ : Env') : D → Sto → R D := fun x s => lmH (lstAt x s) ((ms τ s).bind (kLmb f x))
@[simp] theorem kLm_app {f : Nat → List D → List D → Sto → R D} {ms : MA} {x : D} : kLm f ms τ x s = lmH (lstAt x s) ((ms τ s).bind (kLmb f x)) := (rfl)
@[simp] theorem x_lm {f : Nat → List D → List D → Sto → R D} {mo : M} {ms : MA} : lmM f mo ms τ s = (mo τ s).bind (kLm f ms τ) := by
  unfold lmM kLm lmH kLmb lmA
  rfl
def kPar (i j : Nat) (τ : Env') : List D → Sto → RS := fun ds s => match ds with
  | [x, y] => .nx ((τ.set i (some x)).set j (some y)) s
  | _ => .bad
@[simp] theorem kPar_app {i j : Nat} {x y : D} : kPar i j τ [x, y] s = .nx ((τ.set i (some x)).set j (some y)) s := (rfl)
@[simp] theorem x_par {i j : Nat} {ms : MA} : parM i j ms τ s = (ms τ s).toS τ (kPar i j τ) := (rfl)
/-- a list's item is set -/
def siA (τ : Env') (y k : D) (o : Option (Nat × List D)) (s : Sto) : RS := match k, o with
  | .int n, some (i, ds) => (match ixN ds.length n with
    | some j => .nx τ (s.set i (.lst (ds.set j y)))
    | none => .bad)
  | _, _ => .bad
theorem siA_go {y : D} {n : Int} {i j : Nat} {ds : List D} (h : ixN ds.length n = some j) : siA τ y (.int n) (some (i, ds)) s = .nx τ (s.set i (.lst (ds.set j y))) := by
  simp only [siA, h]
def kSi3 (τ : Env') (y x : D) : D → Sto → RS := fun k s => siA τ y k (lstAt x s) s
@[simp] theorem kSi3_app {y x k : D} : kSi3 τ y x k s = siA τ y k (lstAt x s) s := (rfl)
def kSi2 (mi : M) (τ : Env') (y : D) : D → Sto → RS := fun x s => (mi τ s).toS τ (kSi3 τ y x)
@[simp] theorem kSi2_app {mi : M} {y x : D} : kSi2 mi τ y x s = (mi τ s).toS τ (kSi3 τ y x) := (rfl)
def kSi (mo mi : M) (τ : Env') : D → Sto → RS := fun y s => (mo τ s).toS τ (kSi2 mi τ y)
@[simp] theorem kSi_app {mo mi : M} {y : D} : kSi mo mi τ y s = (mo τ s).toS τ (kSi2 mi τ y) := (rfl)
@[simp] theorem x_setIx {me mo mi : M} : setIxS me mo mi τ s = (me τ s).toS τ (kSi mo mi τ) := by
  unfold setIxS kSi kSi2 kSi3 siA
  rfl
/-! ### values -/
section
variable {i j : Int} {b : Bool} {x y : Str} {xs ys : List D}
@[simp] theorem v_add : addP (.int i) (.int j) = some (.int (i + j)) :=(rfl)
@[simp] theorem v_sub : subP (.int i) (.int j) = some (.int (i - j)) :=(rfl)
@[simp] theorem v_neg : negP (.int i) = some (.int (-i)) :=(rfl)
theorem v_mul (h : CMulW i j) : mulP (.int i) (.int j) = some (.int (i * j)) := if_pos h
theorem v_div (h : CDivW i j) : divP (.int i) (.int j) = some (.int (i / j)) := if_pos h
theorem v_mod (h : 0 < j) : modP (.int i) (.int j) = some (.int (i % j)) := if_pos h
theorem v_pow {i j : Int} (h : CPow2 i j) : powP (.int i) (.int j) = some (.int (i ^ j.toNat)) := if_pos h
@[simp] theorem v_eqi : eqP (.int i) (.int j) = some (.bl (decide (i = j))) :=(rfl)
@[simp] theorem v_eqs : eqP (.str x) (.str y) = some (.bl (decide (x = y))) :=(rfl)
@[simp] theorem v_nei : neP (.int i) (.int j) = some (.bl (!decide (i = j))) :=(rfl)
@[simp] theorem v_nes : neP (.str x) (.str y) = some (.bl (!decide (x = y))) :=(rfl)
@[simp] theorem v_neb {c : Bool} : neP (.bl b) (.bl c) = some (.bl (!decide (b = c))) :=(rfl)
@[simp] theorem v_eqb {c : Bool} : eqP (.bl b) (.bl c) = some (.bl (decide (b = c))) :=(rfl)
@[simp] theorem v_lt : ltP (.int i) (.int j) = some (.bl (decide (i < j))) :=(rfl)
@[simp] theorem v_le : leP (.int i) (.int j) = some (.bl (decide (i ≤ j))) :=(rfl)
@[simp] theorem v_gt : gtP (.int i) (.int j) = some (.bl (decide (j < i))) :=(rfl)
@[simp] theorem v_ge : geP (.int i) (.int j) = some (.bl (decide (j ≤ i))) :=(rfl)
@[simp] theorem v_is0 : isNP .non .non = some (.bl true) :=(rfl)
@[simp] theorem v_is1 : isNP (.int i) .non = some (.bl false) :=(rfl)
@[simp] theorem v_is2 : isNP (.str x) .non = some (.bl false) :=(rfl)
@[simp] theorem v_is3 : isNP (.tup xs) .non = some (.bl false) :=(rfl)
@[simp] theorem v_int : intF [.int i] s = .ok (.int i) s :=(rfl)
@[simp] theorem v_intb : intF [.bl b] s = .ok (.int (if b then 1 else 0)) s :=(rfl)
@[simp] theorem v_abs : absF [.int i] s = .ok (.int (if i < 0 then -i else i)) s :=(rfl)
@[simp] theorem v_min : minF [.int i, .int j] s = .ok (.int (if j < i then j else i)) s :=(rfl)
@[simp] theorem v_lenT : lenF [.tup xs] s = .ok (.int xs.length) s :=(rfl)
@[simp] theorem v_lenF : lenF [.fls xs] s = .ok (.int xs.length) s :=(rfl)
@[simp] theorem v_lenW : lenF [.wls xs] s = .ok (.int xs.length) s :=(rfl)
@[simp] theorem v_ixT : ixS (.tup xs) (.int i) s = atI xs i :=(rfl)
@[simp] theorem v_ixF : ixS (.fls xs) (.int i) s = atI xs i :=(rfl)
@[simp] theorem v_ixW : ixS (.wls xs) (.int i) s = atI xs i :=(rfl)
theorem v_ixO {k : Nat} (h : s[k]? = some (.lst xs)) : ixS (.obj k) (.int i) s = atI xs i := by
  show (itemsS (.obj k) s).bind _ = _
  simp only [itemsS, h, Option.bind_some]
theorem v_at {k : Nat} (h : s[k]? = some (.lst xs)) : lstAt (.obj k) s = some (k, xs) := by
  simp only [lstAt, h]
@[simp] theorem v_tupF : tupleF [.fls xs] s = .ok (.tup xs) s :=(rfl)
@[simp] theorem v_tupT : tupleF [.tup xs] s = .ok (.tup xs) s :=(rfl)
theorem v_tupO {k : Nat} (h : s[k]? = some (.lst xs)) : tupleF [.obj k] s = .ok (.tup xs) s := by
  simp only [tupleF, itemsS, h]
@[simp] theorem v_stT : stillItems (.tup xs) = some xs :=(rfl)
@[simp] theorem v_stF : stillItems (.fls xs) = some xs :=(rfl)
theorem v_app (h : xs.length < sizeLine) {k : Nat} : appF k xs [d] s = .ok .non (s.set k (.lst (xs ++ [d]))) := if_pos h
end
/-! ### a def's end -/
def Still (d : D) : Prop := ∀ r, subD r d = some d
def StillL (ds : List D) : Prop := ∀ r, subL r ds = some ds
def StillF (fs : List (Str × D)) : Prop := ∀ r, subF r fs = some fs
def StillS (s : Sto) : Prop := ∀ r, subS r s = some s
@[simp] theorem still_non : Still .non := fun _ => by simp only [subD]
@[simp] theorem still_bl {b : Bool} : Still (.bl b) := fun _ => by simp only [subD]
@[simp] theorem still_int {i : Int} : Still (.int i) := fun _ => by simp only [subD]
@[simp] theorem still_str {x : Str} : Still (.str x) := fun _ => by simp only [subD]
theorem still_tup {ds : List D} (h : StillL ds) : Still (.tup ds) := fun r => by simp only [subD, h r, Option.map_some]
theorem still_fls {ds : List D} (h : StillL ds) : Still (.fls ds) := fun r => by simp only [subD, h r, Option.map_some]
theorem still_ist {C : Str} {fs : List (Str × D)} (h : StillF fs) : Still (.ist C fs) := fun r => by simp only [subD, h r, Option.map_some]
theorem stillL_nil : StillL [] := fun _ => by simp only [subL]
theorem stillL_cons {d : D} {ds : List D} (h : Still d) (t : StillL ds) : StillL (d :: ds) := fun r => by simp only [subL, h r, t r]
theorem stillL_of : ∀ {ds : List D}, (∀ d ∈ ds, Still d) → StillL ds
  | [], _ => stillL_nil
  | d :: ds, h => stillL_cons (h d (List.mem_cons_self ..)) (stillL_of fun e he => h e (List.mem_cons_of_mem _ he))
theorem stillL_mem : ∀ {ds : List D}, StillL ds → ∀ d ∈ ds, Still d
  | [], _, d, h => absurd h (by simp)
  | e :: ds, h, d, hm => by
    have h1 : Still e := fun r => by
      have := h r
      simp only [subL] at this
      cases q : subD r e with
      | none => rw [q] at this; simp at this
      | some x => cases q2 : subL r ds with
        | none => rw [q, q2] at this; simp at this
        | some y => rw [q, q2] at this; simp at this; rw [this.1]
    have h2 : StillL ds := fun r => by
      have := h r
      simp only [subL] at this
      cases q : subD r e with
      | none => rw [q] at this; simp at this
      | some x => cases q2 : subL r ds with
        | none => rw [q, q2] at this; simp at this
        | some y => rw [q, q2] at this; simp at this; rw [this.2]
    rcases List.mem_cons.mp hm with rfl | hm
    · exact h1
    · exact stillL_mem h2 d hm
theorem stillF_nil : StillF [] := fun _ => by simp only [subF]
theorem stillF_cons {f : Str} {d : D} {ds : List (Str × D)} (h : Still d) (t : StillF ds) : StillF ((f, d) :: ds) := fun r => by simp only [subF, h r, t r]
theorem stillS_nil : StillS [] := fun _ => by simp only [subS]
theorem stillS_lst {ds : List D} {s : Sto} (h : StillL ds) (t : StillS s) : StillS (.lst ds :: s) := fun r => by simp only [subS, subO, h r, t r, Option.map_some]
theorem stillS_app : ∀ {s t : Sto}, StillS s → StillS t → StillS (s ++ t)
  | [], _, _, h => h
  | o :: s, t, h, h2 => fun r => by
    have := h r
    show subS r (o :: (s ++ t)) = _
    simp only [subS] at this ⊢
    cases q : subO r o with
    | none => rw [q] at this; simp at this
    | some x => cases q2 : subS r s with
      | none => rw [q, q2] at this; simp at this
      | some y =>
        rw [q, q2] at this
        simp at this
        have hs : StillS s := fun r' => by
          have := h r'
          simp only [subS] at this
          cases q : subO r' o with
          | none => rw [q] at this; simp at this
          | some x => cases q2 : subS r' s with
            | none => rw [q, q2] at this; simp at this
            | some y => rw [q, q2] at this; simp at this; rw [this.2]
        rw [stillS_app hs h2 r, this.1]
        rfl
theorem trim_le {n : Nat} (h : s.length ≤ n) : trimR n (.ok d s) = .ok d s := if_pos h
theorem trim_exc_le {n : Nat} {C : Str} {fs : List (Str × D)} (h : s.length ≤ n) : trimR n (.exc C fs s) = .exc C fs s := if_pos h
theorem trim_ok {n : Nat} (h : Still d) (hs : StillS (s.take n)) : trimR n (.ok d s) = .ok d (s.take n) := by
  by_cases q : s.length ≤ n
  · simp only [trimR, if_pos q, List.take_of_length_le q]
  · simp only [trimR, if_neg q, h _, hs _]
theorem trim_exc {n : Nat} {C : Str} {fs : List (Str × D)} (h : StillF fs) (hs : StillS (s.take n)) : trimR n (.exc C fs s) = .exc C fs (s.take n) := by
  by_cases q : s.length ≤ n
  · simp only [trimR, if_pos q, List.take_of_length_le q]
  · simp only [trimR, if_neg q, h _, hs _]
/-- a def that leaves no new thing -/
theorem fn_run {n N : Nat} {m : MS} {ds : List D} (h : ds.length = n) (hm : (m (startD N ds) s).fin = .ok d s') (hl : s'.length ≤ s.length) : fnM n N m ds s = .ok d s' := by
  unfold fnM
  rw [if_pos h, hm]
  exact if_pos hl
/-- a def that leaves new things behind the old store, which it does not give -/
theorem fn_runS {n N : Nat} {m : MS} {ds : List D} {t : Sto} (h : ds.length = n) (hm : (m (startD N ds) s).fin = .ok d (s' ++ t)) (hl : s'.length = s.length) (hd : Still d) (hs : StillS s') : fnM n N m ds s = .ok d s' := by
  unfold fnM
  have e : (s' ++ t).take s.length = s' := by rw [← hl]; simp
  rw [if_pos h, hm, trim_ok hd (by rw [e]; exact hs), e]
theorem fn_exc {n N : Nat} {m : MS} {ds : List D} {C : Str} {fs : List (Str × D)} (h : ds.length = n) (hm : (m (startD N ds) s).fin = .exc C fs s') (hl : s'.length ≤ s.length) : fnM n N m ds s = .exc C fs s' := by
  unfold fnM
  rw [if_pos h, hm]
  exact if_pos hl
theorem fn_excS {n N : Nat} {m : MS} {ds : List D} {C : Str} {fs : List (Str × D)} {t : Sto} (h : ds.length = n) (hm : (m (startD N ds) s).fin = .exc C fs (s' ++ t)) (hl : s'.length = s.length) (hd : StillF fs) (hs : StillS s') : fnM n N m ds s = .exc C fs s' := by
  unfold fnM
  have e : (s' ++ t).take s.length = s' := by rw [← hl]; simp
  rw [if_pos h, hm, trim_exc hd (by rw [e]; exact hs), e]
theorem startD_eq {N : Nat} {ds : List D} : startD N ds = ds.map some ++ List.replicate (N - ds.length) none := rfl
end
/-! ### indexes -/
theorem atI_nat {α : Type} {xs : List α} {i : Int} (h0 : 0 ≤ i) : atI xs i = xs[i.toNat]? := by
  unfold atI ixN
  rw [if_pos h0]
  by_cases h : i < xs.length
  · rw [if_pos h]; rfl
  · rw [if_neg h]
    symm
    exact List.getElem?_eq_none (by omega)
@[simp] theorem atI_zero {α : Type} {x : α} {xs : List α} : atI (x :: xs) 0 = some x := by
  rw [atI_nat (by omega)]; rfl
theorem atI_map {α β : Type} {f : α → β} {xs : List α} {i : Int} : atI (xs.map f) i = (atI xs i).map f := by
  unfold atI
  rw [List.length_map]
  cases ixN xs.length i with
  | none => rfl
  | some j => simp
/-- the number that a pool tells -/
def pick (p : List Int) (n : Int) : Int := p.getD (n % p.length).toNat 0
theorem atI_pick {p : List Int} {n : Int} (hp : 0 < p.length) : atI (p.map D.int) (n % p.length) = some (.int (pick p n)) := by
  have h1 : 0 ≤ n % (p.length : Int) := Int.emod_nonneg _ (by omega)
  have h2 : n % (p.length : Int) < p.length := Int.emod_lt_of_pos _ (by omega)
  rw [atI_map, atI_nat h1, List.getElem?_eq_getElem (by omega)]
  unfold pick
  rw [List.getD_eq_getElem?_getD, List.getElem?_eq_getElem (by omega)]
  rfl
theorem f_next {p : List Int} {n : Int} {r : Sto} (hp : 0 < p.length) : F_law_next [.fls (p.map .int), .obj 0] (.lst [.int n] :: r) = .ok (.int (pick p (n + 1))) (.lst [.int (n + 1)] :: r) := by
  refine fn_run rfl ?_ (Nat.le_refl _)
  unfold b_law_next startD
  have e : siA [some (.fls (p.map .int)), some (.obj 0)] (.int (n + 1)) (.int 0) (some (0, [.int n])) (.lst [.int n] :: r) = .nx [some (.fls (p.map .int)), some (.obj 0)] (.lst [.int (n + 1)] :: r) := rfl
  simp [v_ixO, v_at, e, v_mod, hp, atI_pick]
end K97

set_option Elab.async false
set_option linter.all false
set_option maxRecDepth 100000
set_option maxHeartbeats 4000000
set_option exponentiation.threshold 5000
/-! P2: loops; what the law draws. -/
namespace K97
open PySem PySem.Spec PyProof.Rows L2 FL C8
/-! ### loops -/
theorem forL_inv {g : GM} {b : MS} (I : Nat → Env' → Sto → Prop) : ∀ (ds : List D) (k : Nat) (τ : Env') (s : Sto),
    (∀ i d, ds[i]? = some d → ∀ τ s, I (k + i) τ s → ∃ τ1, g d τ = some τ1 ∧ ∃ τ2 s2, (b τ1 s = .nx τ2 s2 ∨ b τ1 s = .ct τ2 s2) ∧ I (k + i + 1) τ2 s2) →
    I k τ s → ∃ τ' s', forL g b ds τ s = .nx τ' s' ∧ I (k + ds.length) τ' s'
  | [], k, τ, s, _, h => ⟨τ, s, rfl, h⟩
  | d :: ds, k, τ, s, st, h => by
    obtain ⟨τ1, e1, τ2, s2, e2, h2⟩ := st 0 d rfl τ s h
    obtain ⟨τ', s', e, h'⟩ := forL_inv I ds (k + 1) τ2 s2 (fun i d hd τ s hI => by
      have z := st (i + 1) d (by simpa using hd) τ s (by rw [show k + (i + 1) = k + 1 + i by omega]; exact hI)
      rw [show k + (i + 1) + 1 = k + 1 + i + 1 by omega] at z
      exact z) h2
    refine ⟨τ', s', ?_, by rw [List.length_cons, show k + (ds.length + 1) = k + 1 + ds.length by omega]; exact h'⟩
    show (match g d τ with
      | none => RS.bad
      | some τ => (b τ s).loop (forL g b ds)) = _
    rw [e1]
    show (b τ1 s).loop (forL g b ds) = _
    rcases e2 with e2 | e2 <;> (rw [e2]; exact e)
/-- over a range -/
theorem forL_rng {i : Nat} {b : MS} (I : Nat → Env' → Sto → Prop) {n : Nat} {τ : Env'} {s : Sto}
    (st : ∀ k, k < n → ∀ τ s, I k τ s → ∃ τ2 s2, (b (τ.set i (some (.int k))) s = .nx τ2 s2 ∨ b (τ.set i (some (.int k))) s = .ct τ2 s2) ∧ I (k + 1) τ2 s2)
    (h : I 0 τ s) : ∃ τ' s', forL (nameG i) b (rngL 0 n) τ s = .nx τ' s' ∧ I n τ' s' := by
  obtain ⟨τ', s', e, h'⟩ := forL_inv (g := nameG i) (b := b) I (rngL 0 n) 0 τ s (fun k d hd τ s hI => by
    unfold rngL at hd
    rw [List.getElem?_map] at hd
    by_cases q : k < n
    · rw [List.getElem?_range q] at hd
      simp at hd
      subst hd
      rw [Nat.zero_add] at hI ⊢
      exact ⟨_, rfl, st k q τ s hI⟩
    · rw [List.getElem?_eq_none (by simpa using Nat.le_of_not_lt q)] at hd
      cases hd) h
  refine ⟨τ', s', e, ?_⟩
  have z : (rngL 0 n).length = n := by simp [rngL]
  rw [z, Nat.zero_add] at h'
  exact h'
theorem whileL_inv {c : MB} {b : MS} (I : Env' → Sto → Prop) (μ : Env' → Sto → Nat)
    (st : ∀ τ s, I τ s → ∃ t, c τ s = .ok t s ∧ (t = true → ∃ τ' s', b τ s = .nx τ' s' ∧ I τ' s' ∧ μ τ' s' < μ τ s)) :
    ∀ (n : Nat) (τ : Env') (s : Sto), I τ s → μ τ s < n → ∃ τ' s', whileL c b n τ s = .nx τ' s' ∧ I τ' s' ∧ c τ' s' = .ok false s'
  | 0, _, _, _, h => absurd h (by omega)
  | n + 1, τ, s, h, hm => by
    obtain ⟨t, e, k⟩ := st τ s h
    unfold whileL
    rw [e]
    cases t with
    | false => exact ⟨τ, s, rfl, h, e⟩
    | true =>
      obtain ⟨τ1, s1, e1, h1, m1⟩ := k rfl
      obtain ⟨τ', s', e2, h2⟩ := whileL_inv I μ st n τ1 s1 h1 (by omega)
      refine ⟨τ', s', ?_, h2⟩
      show (b τ s).loop _ = _
      rw [e1]
      exact e2
theorem whileS_inv {fu : Env' → Sto → Nat} {c : MB} {b : MS} {τ : Env'} {s : Sto} (I : Env' → Sto → Prop)
    (st : ∀ τ s, I τ s → ∃ t, c τ s = .ok t s ∧ (t = true → ∃ τ' s', b τ s = .nx τ' s' ∧ I τ' s' ∧ fu τ' s' < fu τ s)) (h : I τ s) (h0 : 0 < fu τ s) (hp : ∀ τ s, I τ s → 0 < fu τ s) :
    ∃ τ' s', whileS fu c b τ s = .nx τ' s' ∧ I τ' s' ∧ c τ' s' = .ok false s' :=
  whileL_inv I (fun τ s => fu τ s - 1) (fun τ s hI => by
    obtain ⟨t, e, k⟩ := st τ s hI
    refine ⟨t, e, fun z => ?_⟩
    obtain ⟨τ', s', e', h', m⟩ := k z
    have := hp τ' s' h'
    exact ⟨τ', s', e', h', by show fu τ' s' - 1 < fu τ s - 1; omega⟩) _ τ s h (by show fu τ s - 1 < fu τ s; omega)
inductive F2 {α β : Type} (P : α → β → Prop) : List α → List β → Prop where
  | nil : F2 P [] []
  | cons {a : α} {b : β} {l : List α} {m : List β} (h : P a b) (t : F2 P l m) : F2 P (a :: l) (b :: m)
theorem F2.len {α β : Type} {P : α → β → Prop} : ∀ {l : List α} {m : List β}, F2 P l m → l.length = m.length
  | _, _, .nil => rfl
  | _, _, .cons _ t => congrArg (· + 1) t.len
theorem F2.imp {α β : Type} {P Q : α → β → Prop} (k : ∀ a b, P a b → Q a b) : ∀ {l : List α} {m : List β}, F2 P l m → F2 Q l m
  | _, _, .nil => .nil
  | _, _, .cons h t => .cons (k _ _ h) (t.imp k)
theorem compL_ex {te : M} {i : Nat} {τ : Env'} (P : D → D → Prop) (I : Sto → Prop) : ∀ (ds : List D) (n : Nat) (s : Sto),
    (∀ d ∈ ds, ∀ s, I s → ∃ x s', te (τ.set i (some d)) s = .ok x s' ∧ P d x ∧ I s') → I s → n + ds.length ≤ sizeLine →
    ∃ xs s', compL (.one i) yesB te τ n ds s = .ok xs s' ∧ F2 P ds xs ∧ I s'
  | [], n, s, _, h, _ => ⟨[], s, rfl, .nil, h⟩
  | d :: ds, n, s, st, h, hn => by
    obtain ⟨x, s1, e1, p1, h1⟩ := st d (List.mem_cons_self ..) s h
    rw [List.length_cons] at hn
    obtain ⟨xs, s2, e2, p2, h2⟩ := compL_ex P I ds (n + 1) s1 (fun d hd => st d (List.mem_cons_of_mem _ hd)) h1 (by omega)
    refine ⟨x :: xs, s2, ?_, .cons p1 p2, h2⟩
    show ((te (τ.set i (some d)) s).nox.bind fun x s => if n < sizeLine then (compL (.one i) yesB te τ (n + 1) ds s).bind fun xs s => .ok (x :: xs) s else .bad) = _
    rw [e1]
    show (if n < sizeLine then (compL (.one i) yesB te τ (n + 1) ds s1).bind fun xs s => R.ok (x :: xs) s else .bad) = _
    rw [if_pos (by omega), e2]
    rfl
theorem compL_map {te : M} {i : Nat} {τ : Env'} {s : Sto} (f : D → D) : ∀ (ds : List D) (n : Nat),
    (∀ d ∈ ds, te (τ.set i (some d)) s = .ok (f d) s) → n + ds.length ≤ sizeLine → compL (.one i) yesB te τ n ds s = .ok (ds.map f) s
  | [], n, _, _ => rfl
  | d :: ds, n, st, hn => by
    rw [List.length_cons] at hn
    have ih := compL_map f ds (n + 1) (fun d hd => st d (List.mem_cons_of_mem _ hd)) (by omega)
    show ((te (τ.set i (some d)) s).nox.bind fun x s => if n < sizeLine then (compL (.one i) yesB te τ (n + 1) ds s).bind fun xs s => .ok (x :: xs) s else .bad) = _
    rw [st d (List.mem_cons_self ..)]
    show (if n < sizeLine then (compL (.one i) yesB te τ (n + 1) ds s).bind fun xs s => R.ok (f d :: xs) s else .bad) = _
    rw [if_pos (by omega), ih]
    rfl
/-! ### numbers -/
theorem divW {i j : Int} (h : 0 < j) (h2 : j < 2 ^ 64) : CDivW i j := by
  refine ⟨h, ?_⟩
  have : j.natAbs < 2 ^ 64 := by omega
  have := (Nat.log2_lt (n := j.natAbs) (k := 64) (by omega)).mpr this
  omega
theorem log2_le {n k : Nat} (h : n < 2 ^ (k + 1)) : n.log2 ≤ k := by
  by_cases q : n = 0
  · subst q; simp
  · have := (Nat.log2_lt (n := n) (k := k + 1) q).mpr h
    omega
theorem mulW {i j : Int} {a b : Nat} (h : i.natAbs < 2 ^ (a + 1)) (h2 : j.natAbs < 2 ^ (b + 1)) (hab : a + b < 1000000) : CMulW i j := by
  have := log2_le h
  have := log2_le h2
  unfold CMulW
  omega
theorem pow2 {i j : Int} {a : Nat} (h0 : 0 ≤ j) (h : i.natAbs < 2 ^ (a + 1)) (h2 : ((a + 1 : Nat) : Int) * j ≤ 134217728) : CPow2 i j := by
  refine ⟨h0, ?_⟩
  have := log2_le h
  have e : Builtin.Int.intBits i ≤ a + 1 := by
    unfold Builtin.Int.intBits
    split <;> omega
  have : (Builtin.Int.intBits i : Int) * j ≤ ((a + 1 : Nat) : Int) * j := Int.mul_le_mul_of_nonneg_right (by omega) h0
  omega
theorem f_pick {p : List Int} {i m l : Int} {s : Sto} (h0 : 0 ≤ i) (hi : i < p.length) (hm : 0 < m) (hl : 0 < l) (hl2 : l < 2 ^ 64) :
    F_law_pick [.fls (p.map .int), .int i, .int m, .int l] s = .ok (.int (p.getD i.toNat 0 / l % m)) s := by
  refine fn_run rfl ?_ (Nat.le_refl _)
  unfold b_law_pick startD
  have e : atI (p.map D.int) i = some (.int (p.getD i.toNat 0)) := by
    rw [atI_map, atI_nat h0, List.getD_eq_getElem?_getD, List.getElem?_eq_getElem (by omega)]
    rfl
  simp [e, v_div (divW hl hl2), v_mod hm]
def numb (d : Int) : Int := if d % 6 = 0 then -(d / 6) else if d % 6 = 1 then (d / 6 + 1) ^ 30 else if d % 6 = 2 then -(d / 6 + 7) ^ 9 else if d % 6 = 3 ∧ d / 6 % 8 = 0 then ((10 ^ 50) ^ 4 - 1) * (1 - d / 6 / 8 % 2 * 2) else d / 6
/-- what a pool holds -/
def Dr (d : Int) : Prop := 0 ≤ d ∧ d ≤ 22139006
theorem f_number {d : Int} {s : Sto} (h : Dr d) : F_law_number [.int d] s = .ok (.int (numb d)) s := by
  obtain ⟨h0, h1⟩ := h
  refine fn_run rfl ?_ (Nat.le_refl _)
  unfold b_law_number startD
  have z1 : 0 ≤ d / 6 := Int.ediv_nonneg h0 (by decide)
  have z2 : d / 6 ≤ 22139006 / 6 := Int.ediv_le_ediv (by decide) h1
  have e1 : powP (.int (d / 6 + 1)) (.int 30) = some (.int ((d / 6 + 1) ^ 30)) := v_pow (pow2 (a := 23) (by decide) (by omega) (by decide))
  have e2 : powP (.int (d / 6 + 7)) (.int 9) = some (.int ((d / 6 + 7) ^ 9)) := v_pow (pow2 (a := 23) (by decide) (by omega) (by decide))
  have e3 : powP (.int 10) (.int 50) = some (.int (10 ^ 50)) := v_pow (pow2 (a := 3) (by decide) (by decide) (by decide))
  have e4 : powP (.int (10 ^ 50)) (.int 4) = some (.int ((10 ^ 50) ^ 4)) := v_pow (pow2 (a := 166) (by decide) (by decide) (by decide))
  have b1 : 0 ≤ d / 6 / 8 % 2 := Int.emod_nonneg _ (by decide)
  have b2 : d / 6 / 8 % 2 < 2 := Int.emod_lt_of_pos _ (by decide)
  have e5 : mulP (.int (d / 6 / 8 % 2)) (.int 2) = some (.int (d / 6 / 8 % 2 * 2)) := v_mul (mulW (a := 0) (b := 1) (by omega) (by decide) (by decide))
  have e6 : mulP (.int ((10 ^ 50) ^ 4 - 1)) (.int (1 - d / 6 / 8 % 2 * 2)) = some (.int (((10 ^ 50) ^ 4 - 1) * (1 - d / 6 / 8 % 2 * 2))) := v_mul (mulW (a := 664) (b := 0) (by decide) (by omega) (by decide))
  have c1 : CDivW d 6 := divW (by decide) (by decide)
  have c2 : CDivW (d / 6) 8 := divW (by decide) (by decide)
  unfold numb
  by_cases q0 : d % 6 = 0
  · simp [v_div c1, v_mod, q0]
  by_cases q1 : d % 6 = 1
  · simp [v_div c1, v_mod, q1, e1]
  by_cases q2 : d % 6 = 2
  · simp [v_div c1, v_mod, q2, e2]
  by_cases q3 : d % 6 = 3 ∧ d / 6 % 8 = 0
  · simp [-Int.reducePow, v_div c1, v_div c2, v_mod, q3.1, q3.2, e3, e4, e5, e6]
  · by_cases q4 : d % 6 = 3
    · have q5 : ¬ d / 6 % 8 = 0 := fun z => q3 ⟨q4, z⟩
      simp [v_div c1, v_mod, q4, q5]
    · simp [v_div c1, v_mod, q0, q1, q2, q4]
theorem natAbs_pow_lt {x : Int} {b k m : Nat} (h : x.natAbs ≤ b) (h2 : b ^ k < m) : (x ^ k).natAbs < m := by
  rw [Int.natAbs_pow]
  exact Nat.lt_of_le_of_lt (Nat.pow_le_pow_left h k) h2
theorem numb_lt {d : Int} (h : Dr d) : (numb d).natAbs < 10 ^ 200 := by
  obtain ⟨h0, h1⟩ := h
  have z1 : 0 ≤ d / 6 := Int.ediv_nonneg h0 (by decide)
  have z2 : d / 6 ≤ 22139006 / 6 := Int.ediv_le_ediv (by decide) h1
  have big : (3700000 : Nat) < 10 ^ 200 := by decide
  unfold numb
  split
  · omega
  · split
    · exact natAbs_pow_lt (b := 3689835) (by omega) (by decide)
    · split
      · rw [Int.natAbs_neg]
        exact natAbs_pow_lt (b := 3689841) (by omega) (by decide)
      · split
        · have b1 : 0 ≤ d / 6 / 8 % 2 := Int.emod_nonneg _ (by decide)
          have b2 : d / 6 / 8 % 2 < 2 := Int.emod_lt_of_pos _ (by decide)
          rw [Int.natAbs_mul]
          have e : (1 - d / 6 / 8 % 2 * 2).natAbs = 1 := by omega
          rw [e, Nat.mul_one]
          decide
        · omega
end K97

set_option Elab.async false
set_option linter.all false
set_option autoImplicit false
set_option maxRecDepth 100000
set_option maxHeartbeats 4000000
set_option exponentiation.threshold 5000
/-! P3: what the law draws: words, pairs, notes. -/
namespace K97
open PySem PySem.Spec PyProof.Rows L2 FL
open SX
/-! ### ends -/
def OutR {α : Type} (r : R α) (Q : α → Sto → Prop) : Prop := match r with
  | .ok a s => Q a s
  | _ => False
def OutS (r : RS) (N : Env' → Sto → Prop) (T : D → Sto → Prop) : Prop := match r with
  | .nx τ s => N τ s
  | .rt d s => T d s
  | _ => False
section
variable {α β : Type} {s s' : Sto} {τ : Env'} {N : Env' → Sto → Prop} {T Q : D → Sto → Prop}
theorem OutR.ex {r : R α} {Q : α → Sto → Prop} (h : OutR r Q) : ∃ a s', r = .ok a s' ∧ Q a s' := by
  cases r with
  | ok a s => exact ⟨a, s, rfl, h⟩
  | exc => exact h.elim
  | bad => exact h.elim
theorem OutR.of {r : R α} {Q : α → Sto → Prop} {a : α} {s' : Sto} (e : r = .ok a s') (h : Q a s') : OutR r Q := by rw [e]; exact h
theorem OutS.of {r : RS} (e : r = .nx τ s) (h : N τ s) : OutS r N T := by rw [e]; exact h
theorem OutR.imp {r : R α} {Q Q' : α → Sto → Prop} (h : OutR r Q) (k : ∀ a s, Q a s → Q' a s) : OutR r Q' := by
  cases r with
  | ok a s => exact k _ _ h
  | exc => exact h.elim
  | bad => exact h.elim
theorem out_fin {r : RS} (h : OutS r (fun _ s => Q .non s) Q) : OutR r.fin Q := by
  cases r <;> first | exact h | exact h.elim
/-- what is asked of what follows -/
def qS (k : MS) (N : Env' → Sto → Prop) (T : D → Sto → Prop) : Env' → Sto → Prop := fun τ s => OutS (k τ s) N T
@[simp] theorem qS_app {k : MS} : qS k N T τ s = OutS (k τ s) N T := (rfl)
def qT (k : α → Sto → RS) (N : Env' → Sto → Prop) (T : D → Sto → Prop) : α → Sto → Prop := fun a s => OutS (k a s) N T
@[simp] theorem qT_app {k : α → Sto → RS} {a : α} : qT k N T a s = OutS (k a s) N T := (rfl)
def qB (k : α → Sto → R β) (Q : β → Sto → Prop) : α → Sto → Prop := fun a s => OutR (k a s) Q
@[simp] theorem qB_app {k : α → Sto → R β} {Q : β → Sto → Prop} {a : α} : qB k Q a s = OutR (k a s) Q := (rfl)
theorem out_seq {r : RS} {k : MS} (h : OutS r (qS k N T) T) : OutS (r.seq k) N T := by
  cases r <;> first | exact h | exact h.elim
theorem oS {r : RS} {k : MS} : OutS (r.seq k) N T = OutS r (qS k N T) T := by
  cases r <;> rfl
theorem oT {r : R α} {k : α → Sto → RS} : OutS (r.toS τ k) N T = OutR r (qT k N T) := by
  cases r <;> rfl
theorem oB {r : R α} {k : α → Sto → R β} {Q : β → Sto → Prop} : OutR (r.bind k) Q = OutR r (qB k Q) := by
  cases r <;> rfl
/-- a loop over a range, by its invariant -/
theorem out_rng {i : Nat} {b : MS} {n : Nat} (I : Nat → Env' → Sto → Prop)
    (st : ∀ k, k < n → ∀ τ s, I k τ s → OutS (b (τ.set i (some (.int k))) s) (I (k + 1)) fun _ _ => False)
    (h : I 0 τ s) (hN : ∀ τ s, I n τ s → N τ s) : OutS (forL (nameG i) b (rngL 0 n) τ s) N T := by
  obtain ⟨τ', s', e, h'⟩ := forL_rng (i := i) (b := b) I (fun k hk τ s hI => by
    have z := st k hk τ s hI
    cases q : b (τ.set i (some (.int k))) s with
    | nx τ2 s2 => rw [q] at z; exact ⟨τ2, s2, .inl rfl, z⟩
    | _ => rw [q] at z; exact z.elim) h
  exact OutS.of e (hN _ _ h')
theorem out_while {fu : Env' → Sto → Nat} {c : MB} {b : MS} (I : Env' → Sto → Prop) (t : Env' → Sto → Bool)
    (hc : ∀ τ s, I τ s → c τ s = .ok (t τ s) s) (st : ∀ τ s, I τ s → t τ s = true → OutS (b τ s) (fun τ' s' => I τ' s' ∧ fu τ' s' < fu τ s) fun _ _ => False)
    (hp : ∀ τ s, I τ s → 0 < fu τ s) (h : I τ s) (hN : ∀ τ s, I τ s → t τ s = false → N τ s) : OutS (whileS fu c b τ s) N T := by
  obtain ⟨τ', s', e, h', e2⟩ := whileS_inv (fu := fu) (c := c) (b := b) I (fun τ s hI => ⟨t τ s, hc τ s hI, fun z => by
    have z := st τ s hI z
    cases q : b τ s with
    | nx τ2 s2 => rw [q] at z; exact ⟨τ2, s2, rfl, z⟩
    | _ => rw [q] at z; exact z.elim⟩) h (hp _ _ h) hp
  refine OutS.of e (hN _ _ h' ?_)
  rw [hc _ _ h'] at e2
  injection e2
/-- what a def gives, behind what it made -/
def FnEnd (n : Nat) (Q : D → Sto → Prop) (d : D) (s' : Sto) : Prop := ∃ s1 t, s' = s1 ++ t ∧ s1.length = n ∧ Still d ∧ StillS s1 ∧ Q d s1
def FnEnd0 (s : Sto) (Q : D → Sto → Prop) (d : D) (s' : Sto) : Prop := s' = s ∧ Q d s
theorem FnEnd.mk {n : Nat} {d : D} {s1 t : Sto} (hl : s1.length = n) (hd : Still d) (hs : StillS s1) (hq : Q d s1) : FnEnd n Q d (s1 ++ t) := ⟨s1, t, rfl, hl, hd, hs, hq⟩
theorem out_fn {n N : Nat} {m : MS} {ds : List D} (h : ds.length = n) (hm : OutS (m (startD N ds) s) (fun _ _ => False) (FnEnd s.length Q)) : OutR (fnM n N m ds s) Q := by
  cases q : m (startD N ds) s with
  | rt d s' =>
    rw [q] at hm
    obtain ⟨s1, t, e1, e2, hd, hs, hq⟩ := hm
    refine OutR.of (fn_runS h (by rw [q, e1]; rfl) e2 hd hs) hq
  | _ => rw [q] at hm; exact hm.elim
/-- a def that makes nothing -/
theorem out_fn0 {n N : Nat} {m : MS} {ds : List D} (h : ds.length = n) (hm : OutS (m (startD N ds) s) (fun _ _ => False) (FnEnd0 s Q)) : OutR (fnM n N m ds s) Q := by
  cases q : m (startD N ds) s with
  | rt d s' =>
    rw [q] at hm
    obtain ⟨e, hq⟩ := hm
    subst e
    refine OutR.of (fn_run h (by rw [q]; rfl) (Nat.le_refl _)) hq
  | _ => rw [q] at hm; exact hm.elim
@[simp] theorem outR_ok {a : α} {Q : α → Sto → Prop} : OutR (.ok a s) Q = Q a s :=(rfl)
@[simp] theorem outS_nx : OutS (.nx τ s) N T = N τ s :=(rfl)
@[simp] theorem outS_rt {d : D} : OutS (.rt d s) N T = T d s :=(rfl)
end
/-! ### texts -/
section
variable {s : Sto} {a b : List Nat}
theorem v_ixStr {i : Int} (h : a.length ≤ sizeLine) : ixS (.str (S a)) (.int i) s = (atI a i).map fun c => .str (S [c]) := if_pos (by rw [S_len]; exact h)
theorem v_cat (h : a.length + b.length ≤ sizeLine) : addP (.str (S a)) (.str (S b)) = some (.str (S (a ++ b))) := by
  show (if (S a).length + (S b).length ≤ sizeLine then some (D.str (S a ++ S b)) else none) = _
  rw [S_len, S_len, if_pos h, S_cat]
end
theorem rng1_nat {n : Nat} (h : n < 2 ^ 62) : rng1F (.int (n : Int)) = some (rngL 0 n) := by
  have e : rng1F (.int (n : Int)) = if -(2 ^ 62) ≤ (n : Int) ∧ (n : Int) < 2 ^ 62 then some (rngL 0 (n : Int).toNat) else none := by unfold rng1F; rfl
  rw [e, if_pos ⟨by omega, by omega⟩, Int.toNat_natCast]
theorem rng1_int {i : Int} {n : Nat} (e : i = (n : Int)) (h : n < 2 ^ 62) : rng1F (.int i) = some (rngL 0 n) := by rw [e]; exact rng1_nat h
def lettersL : List Nat := [97, 98, 99, 100, 101, 102, 103, 104, 105, 106, 107, 108, 109, 110, 111, 112, 113, 114, 115, 116, 117, 118, 119, 120, 121, 122]
def signsL : List Nat := [48, 49, 50, 51, 52, 53, 54, 55, 56, 57, 45, 58]
theorem letters_S : ("abcdefghijklmnopqrstuvwxyz" : Str) = S lettersL := by decide +kernel
theorem signs_S : ("0123456789-:" : Str) = S signsL := by decide +kernel
/-- a sign of a word behind its first -/
def WC (c : Nat) : Prop := (97 ≤ c ∧ c ≤ 122) ∨ (48 ≤ c ∧ c ≤ 57) ∨ c = 45 ∨ c = 58
/-- a word -/
def Wd (l : List Nat) : Prop := ∃ c r, l = c :: r ∧ (97 ≤ c ∧ c ≤ 122) ∧ (∀ x ∈ r, WC x) ∧ r.length ≤ 23
theorem atI_in {l : List Nat} {i : Int} (h0 : 0 ≤ i) (h1 : i < l.length) : ∃ c, atI l i = some c ∧ c ∈ l := by
  rw [atI_nat h0]
  have h : i.toNat < l.length := by omega
  exact ⟨l[i.toNat], List.getElem?_eq_getElem h, List.getElem_mem h⟩
theorem letters_ok : ∀ c ∈ lettersL, 97 ≤ c ∧ c ≤ 122 := by decide
instance {c : Nat} : Decidable (WC c) := by unfold WC; infer_instance
theorem wsigns_ok : ∀ c ∈ lettersL ++ signsL, WC c := by decide
theorem f_word {a b : Int} {s : Sto} (ha : 0 ≤ a) (ha2 : a < 2 ^ 25) (hb : 0 ≤ b) (hb2 : b < 2 ^ 25) : OutR (F_law_word [.int a, .int b] s) fun d s' => s' = s ∧ ∃ l, d = .str (S l) ∧ Wd l := by
  refine out_fn0 rfl ?_
  unfold b_law_word startD
  rw [letters_S, signs_S]
  have m5 : 0 ≤ a % 5 := Int.emod_nonneg _ (by decide)
  have m5' : a % 5 < 5 := Int.emod_lt_of_pos _ (by decide)
  have m26 : 0 ≤ a / 5 % 26 := Int.emod_nonneg _ (by decide)
  have m26' : a / 5 % 26 < 26 := Int.emod_lt_of_pos _ (by decide)
  have z1 : 0 ≤ a / 5 := Int.ediv_nonneg ha (by decide)
  have z2 : a / 5 < 2 ^ 25 := by omega
  obtain ⟨c, ec, hc⟩ := atI_in (l := lettersL) m26 m26'
  obtain ⟨n, en, hn⟩ : ∃ n : Nat, atI [D.int 0, D.int 1, D.int 2, D.int 5, D.int 23] (a % 5) = some (.int n) ∧ n ≤ 23 := by
    rw [atI_nat m5]
    have : a % 5 = 0 ∨ a % 5 = 1 ∨ a % 5 = 2 ∨ a % 5 = 3 ∨ a % 5 = 4 := by omega
    rcases this with e | e | e | e | e <;> rw [e]
    · exact ⟨0, rfl, by decide⟩
    · exact ⟨1, rfl, by decide⟩
    · exact ⟨2, rfl, by decide⟩
    · exact ⟨5, rfl, by decide⟩
    · exact ⟨23, rfl, by decide⟩
  have hr : rng1F (.int n) = some (rngL 0 n) := rng1_nat (by omega)
  have sz : sizeLine = 16777216 := rfl
  have l1 : addP (.str (S lettersL)) (.str (S signsL)) = some (.str (S (lettersL ++ signsL))) := v_cat (by decide)
  have l2 : ixS (.str (S lettersL)) (.int (a / 5 % 26)) s = some (.str (S [c])) := by rw [v_ixStr (by decide), ec]; rfl
  simp [l1, l2, v_div (divW (i := a) (j := 5) (by decide) (by decide)), v_mod, en, hr, sz]
  refine out_seq (out_rng (I := fun k τ s' => s' = s ∧ ∃ r o1 o2, τ = [some (.int a), some (.int b), some (.str (S lettersL)), some (.str (S (lettersL ++ signsL))), some (.int n), some (.str (S (c :: r))), o1, o2] ∧ (∀ x ∈ r, WC x) ∧ r.length = k) ?_ ?_ ?_)
  · rintro k hk τ s' ⟨rfl, r, o1, o2, rfl, hr, hk2⟩
    have b1 : a / 5 * (k : Int) < 2 ^ 25 * 32 := by
      have : a / 5 * (k : Int) ≤ 2 ^ 25 * (k : Int) := Int.mul_le_mul_of_nonneg_right (by omega) (by omega)
      omega
    have e1 : mulP (.int (a / 5)) (.int k) = some (.int (a / 5 * k)) := v_mul (mulW (a := 25) (b := 5) (by omega) (by omega) (by decide))
    have e2 : mulP (.int k) (.int k) = some (.int ((k : Int) * k)) := v_mul (mulW (a := 5) (b := 5) (by omega) (by omega) (by decide))
    have m38 : 0 ≤ (b + a / 5 * k + k * k) % 38 := Int.emod_nonneg _ (by decide)
    have m38' : (b + a / 5 * k + k * k) % 38 < 38 := Int.emod_lt_of_pos _ (by decide)
    obtain ⟨x, ex, hx⟩ := atI_in (l := lettersL ++ signsL) m38 m38'
    have ex2 : ixS (.str (S (lettersL ++ signsL))) (.int ((b + a / 5 * k + k * k) % 38)) s' = some (.str (S [x])) := by
      rw [v_ixStr (by decide), ex]; rfl
    have e3 : addP (.str (S (c :: r))) (.str (S [x])) = some (.str (S (c :: r ++ [x]))) := v_cat (by simp [sz]; omega)
    simp [v_div (divW (i := a) (j := 5) (by decide) (by decide)), e1, e2, v_mod, ex2, e3]
    exact ⟨fun y hy => hy.elim (hr y) fun e => e ▸ wsigns_ok _ hx, hk2⟩
  · exact ⟨rfl, [], none, none, rfl, by simp, rfl⟩
  · rintro τ s' ⟨rfl, r, o1, o2, rfl, hr, hk2⟩
    simp
    exact ⟨rfl, rfl, _, rfl, c, r, rfl, letters_ok _ hc, hr, by omega⟩
end K97

set_option Elab.async false
set_option linter.all false
set_option autoImplicit false
set_option maxRecDepth 100000
set_option maxHeartbeats 4000000
set_option exponentiation.threshold 5000
/-! P4: pairs, notes and their texts. -/
namespace K97
open PySem PySem.Spec PyProof.Rows L2 FL
open SX
/-- what a pair in lowest terms is -/
def Pr (t m : Int) : Prop := 0 < m ∧ Int.gcd t m = 1 ∧ t.natAbs < 10 ^ 24 ∧ m.natAbs < 10 ^ 24
theorem abs_if (i : Int) : (if i < 0 then -i else i) = ((i.natAbs : Nat) : Int) := by split <;> omega
theorem dvd_le {a b : Nat} (h : 0 < b) : a / b ≤ a := Nat.div_le_self a b
theorem natAbs_div_le {a : Int} {b : Nat} (hd : (b : Int) ∣ a) : (a / (b : Int)).natAbs ≤ a.natAbs := by
  rw [Int.natAbs_ediv_of_dvd hd]
  exact Nat.div_le_self _ _
theorem f_pair {a b : Int} {s : Sto} (ha : 0 ≤ a) (ha2 : a < 2 ^ 25) (hb : 0 ≤ b) (hb2 : b < 2 ^ 25) : OutR (F_law_pair [.int a, .int b] s) fun d s' => s' = s ∧ ∃ t m, d = .tup [.int t, .int m] ∧ Pr t m := by
  refine out_fn0 rfl ?_
  unfold b_law_pair startD
  have m2 : 0 ≤ b % 2 := Int.emod_nonneg _ (by decide)
  have m2' : b % 2 < 2 := Int.emod_lt_of_pos _ (by decide)
  have e1 : mulP (.int (b % 2)) (.int 2) = some (.int (b % 2 * 2)) := v_mul (mulW (a := 0) (b := 1) (by omega) (by decide) (by decide))
  have e2 : mulP (.int a) (.int (1 - b % 2 * 2)) = some (.int (a * (1 - b % 2 * 2))) := v_mul (mulW (a := 24) (b := 0) (by omega) (by omega) (by decide))
  have hT : (a * (1 - b % 2 * 2)).natAbs < 2 ^ 25 := by
    rw [Int.natAbs_mul, show (1 - b % 2 * 2).natAbs = 1 by omega, Nat.mul_one]; omega
  have e3 : powP (.int (a * (1 - b % 2 * 2))) (.int 3) = some (.int ((a * (1 - b % 2 * 2)) ^ 3)) := v_pow (pow2 (a := 24) (by decide) hT (by decide))
  obtain ⟨top, etop, htop⟩ : ∃ top : Int, top = (if a % 3 = 0 then (a * (1 - b % 2 * 2)) ^ 3 else a * (1 - b % 2 * 2)) ∧ top.natAbs < 10 ^ 24 := by
    refine ⟨_, rfl, ?_⟩
    split
    · exact natAbs_pow_lt (b := 2 ^ 25) (by omega) (by decide)
    · have : 2 ^ 25 < 10 ^ 24 := by decide
      omega
  have hfin : OutS ((seqS (setM 4 (call1 absF (consA (varM 2) nilA))) (seqS (setM 5 (varM 3)) (seqS (whileS (fun (τ : Env') (_ : Sto) => match τ[5]? with | some (some (D.int i)) => i.natAbs + 1 | _ => 0) (valB (op2 gtP (varM 5) (cM (.int 0)))) (parM 4 5 (consA (varM 5) (consA (op2 modP (call1 intF (consA (varM 4) nilA)) (varM 5)) nilA)))) (retM (tupM (consA (op2 divP (varM 2) (varM 4)) (consA (op2 divP (varM 3) (varM 4)) nilA)))))))
      [some (.int a), some (.int b), some (.int top), some (.int (b + 1)), none, none] s) (fun _ _ => False) (FnEnd0 s fun d s' => s' = s ∧ ∃ t m, d = .tup [.int t, .int m] ∧ Pr t m) := by
    simp [abs_if]
    refine out_seq (out_while (I := fun τ s' => s' = s ∧ ∃ x y : Nat, τ = [some (.int a), some (.int b), some (.int top), some (.int (b + 1)), some (.int x), some (.int y)] ∧ Nat.gcd x y = Int.gcd top (b + 1))
      (t := fun τ s => match τ[5]? with | some (some (D.int i)) => decide (0 < i) | _ => false) ?_ ?_ ?_ ?_ ?_)
    · rintro τ s' ⟨rfl, x, y, rfl, hg⟩
      simp
    · rintro τ s' ⟨rfl, x, y, rfl, hg⟩ hy
      have hy2 : 0 < y := by simpa using hy
      have hy3 : (0 : Int) < (y : Int) := by omega
      simp [v_mod hy3]
      refine ⟨⟨y, x % y, by simp, ?_⟩, ?_⟩
      · rw [← hg, Nat.gcd_comm x y, Nat.gcd_rec y x, Nat.gcd_comm]
      · have e : (x : Int) % (y : Int) = ((x % y : Nat) : Int) := by simp
        rw [e, Int.natAbs_natCast]
        exact Nat.mod_lt _ hy2
    · rintro τ s' ⟨rfl, x, y, rfl, hg⟩
      simp
    · exact ⟨rfl, top.natAbs, (b + 1).natAbs, by simp; omega, rfl⟩
    · rintro τ s' ⟨rfl, x, y, rfl, hg⟩ hy
      have hy2 : y = 0 := by simpa using hy
      subst hy2
      rw [Nat.gcd_zero_right] at hg
      have hpos : 0 < Int.gcd top (b + 1) := Int.gcd_pos_iff.mpr (.inr (by omega))
      have hx : 0 < (x : Int) := by omega
      have d1 : (x : Int) ∣ top := by rw [hg]; exact Int.gcd_dvd_left ..
      have d2 : (x : Int) ∣ b + 1 := by rw [hg]; exact Int.gcd_dvd_right ..
      have hle : (x : Int) ≤ b + 1 := Int.le_of_dvd (by omega) d2
      have c1 : CDivW top x := divW hx (by omega)
      have c2 : CDivW (b + 1) x := divW hx (by omega)
      have sz : (2 : Nat) ≤ sizeLine := by decide
      simp [v_div c1, v_div c2, sz]
      refine ⟨rfl, rfl, _, _, rfl, ?_, ?_, ?_, ?_⟩
      · exact Int.ediv_pos_of_pos_of_dvd (by omega) (by omega) d2
      · rw [hg]; exact Int.gcd_ediv_gcd_ediv_gcd hpos
      · exact Nat.lt_of_le_of_lt (natAbs_div_le d1) htop
      · refine Nat.lt_of_le_of_lt (natAbs_div_le d2) ?_
        have : 2 ^ 26 < 10 ^ 24 := by decide
        omega
  by_cases q : a % 3 = 0
  · rw [if_pos q] at etop
    subst etop
    simp [e1, e2, e3, v_mod, q] at hfin ⊢
    exact hfin
  · rw [if_neg q] at etop
    subst etop
    simp [e1, e2, v_mod, q] at hfin ⊢
    exact hfin
/-! ### the text of a note -/
/-- the signs of a whole number -/
def numS (i : Int) : List Nat := if i < 0 then 45 :: TL.numL i.natAbs else TL.numL i.natAbs
theorem str_int (i : Int) : Str.ofString (toString i) = S (numS i) := by
  unfold numS
  by_cases h : i < 0
  · rw [if_pos h, toString_neg h]
    have e : (0 : Int) - i = ((i.natAbs : Nat) : Int) := by omega
    rw [e]
    refine TL.ext_tl ?_
    rw [TL.tl_ofString, String.toList_append, List.map_append, ← TL.tl_ofString (toString _), TL.tl_num]
    rfl
  · rw [if_neg h]
    have e : i = ((i.natAbs : Nat) : Int) := by omega
    conv => lhs; rw [e]
    exact num_S _
mutual
def txt : D → List Nat
  | .non => [45]
  | .int i => numS i
  | .str x => TL.tl x
  | .tup ds => 40 :: (TL.joinL [32] (txts ds) ++ [41])
  | _ => []
def txts : List D → List (List Nat)
  | [] => []
  | d :: ds => txt d :: txts ds
end
/-- a note whose tuples stand at most so many deep -/
def Nt : Nat → D → Prop
  | _, .non => True
  | _, .int i => i.natAbs < 10 ^ 200
  | _, .str x => Wd (TL.tl x)
  | k + 1, .tup ds => ∀ d ∈ ds, Nt k d
  | _, _ => False
theorem Nt.up : ∀ {k : Nat} {d : D}, Nt k d → Nt (k + 1) d
  | 0, .non, _ => by simp only [Nt]
  | 0, .int i, h => by simp only [Nt] at h ⊢; exact h
  | 0, .str x, h => by simp only [Nt] at h ⊢; exact h
  | k + 1, .non, _ => by simp only [Nt]
  | k + 1, .int i, h => by simp only [Nt] at h ⊢; exact h
  | k + 1, .str x, h => by simp only [Nt] at h ⊢; exact h
  | k + 1, .tup ds, h => by
    have h' : ∀ d ∈ ds, Nt k d := by simpa only [Nt] using h
    have z : ∀ d ∈ ds, Nt (k + 1) d := fun d hd => Nt.up (h' d hd)
    simpa only [Nt] using z
theorem Nt.le {k m : Nat} {d : D} (h : Nt k d) (l : k ≤ m) : Nt m d := by
  induction l with
  | refl => exact h
  | step _ ih => exact ih.up
theorem nt_non {k : Nat} : Nt k .non := by cases k <;> simp only [Nt]
theorem nt_int {k : Nat} {i : Int} : Nt k (.int i) ↔ i.natAbs < 10 ^ 200 := by cases k <;> simp only [Nt]
theorem nt_str {k : Nat} {x : Str} : Nt k (.str x) ↔ Wd (TL.tl x) := by cases k <;> simp only [Nt]
theorem nt_tup {k : Nat} {ds : List D} : Nt (k + 1) (.tup ds) ↔ ∀ d ∈ ds, Nt k d := by simp only [Nt]
theorem nt_tup0 {ds : List D} : ¬ Nt 0 (.tup ds) := by simp only [Nt]; exact id
/-- the kinds of notes -/
theorem Nt.kinds {k : Nat} {d : D} (h : Nt k d) : d = .non ∨ (∃ i, d = .int i ∧ i.natAbs < 10 ^ 200) ∨ (∃ l, d = .str (S l) ∧ Wd l) ∨ ∃ j ds, k = j + 1 ∧ d = .tup ds ∧ ∀ e ∈ ds, Nt j e := by
  cases d with
  | non => exact .inl rfl
  | int i => exact .inr (.inl ⟨i, rfl, nt_int.mp h⟩)
  | str x => exact .inr (.inr (.inl ⟨TL.tl x, by rw [show S (TL.tl x) = x from TL.mk_tl x], nt_str.mp h⟩))
  | tup ds =>
    cases k with
    | zero => exact (nt_tup0 h).elim
    | succ j => exact .inr (.inr (.inr ⟨j, ds, rfl, rfl, nt_tup.mp h⟩))
  | _ => cases k <;> (simp only [Nt] at h)
theorem Nt.still : ∀ {k : Nat} {d : D}, Nt k d → Still d
  | k, d, h => by
    rcases h.kinds with rfl | ⟨i, rfl, _⟩ | ⟨l, rfl, _⟩ | ⟨j, ds, rfl, rfl, hs⟩
    · exact still_non
    · exact still_int
    · exact still_str
    · exact still_tup (stillL_of fun e he => (hs e he).still)
/-! lengths -/
def sumL : List (List Nat) → Nat
  | [] => 0
  | l :: ls => l.length + 1 + sumL ls
theorem joinL_len : ∀ ls : List (List Nat), (TL.joinL [32] ls).length ≤ sumL ls
  | [] => Nat.le_refl _
  | [p] => by show p.length ≤ p.length + 1 + 0; omega
  | p :: q :: r => by
    have := joinL_len (q :: r)
    show (p ++ ([32] ++ TL.joinL [32] (q :: r))).length ≤ p.length + 1 + sumL (q :: r)
    rw [List.length_append, List.length_append]
    simp only [List.length_cons, List.length_nil]
    omega
theorem joinL_len2 : ∀ ls : List (List Nat), sumL ls ≤ (TL.joinL [32] ls).length + 1
  | [] => Nat.zero_le _
  | [p] => by show p.length + 1 + 0 ≤ p.length + 1; omega
  | p :: q :: r => by
    have := joinL_len2 (q :: r)
    show p.length + 1 + sumL (q :: r) ≤ (p ++ ([32] ++ TL.joinL [32] (q :: r))).length + 1
    rw [List.length_append, List.length_append]
    simp only [List.length_cons, List.length_nil]
    omega
theorem txts_map : ∀ ds : List D, txts ds = ds.map txt
  | [] => by simp only [txts, List.map_nil]
  | d :: ds => by simp only [txts, List.map_cons, txts_map ds]
theorem sumL_mem : ∀ {ls : List (List Nat)} {l : List Nat}, l ∈ ls → l.length + 1 ≤ sumL ls
  | [], _, h => absurd h (by simp)
  | m :: ls, l, h => by
    show l.length + 1 ≤ m.length + 1 + sumL ls
    rcases List.mem_cons.mp h with rfl | h
    · omega
    · have := sumL_mem h; omega
theorem sumL_count : ∀ ls : List (List Nat), ls.length ≤ sumL ls
  | [] => Nat.zero_le _
  | m :: ls => by
    have := sumL_count ls
    show ls.length + 1 ≤ m.length + 1 + sumL ls
    omega
theorem txt_tup (ds : List D) : txt (.tup ds) = 40 :: (TL.joinL [32] (ds.map txt) ++ [41]) := by simp only [txt, txts_map]
theorem len_tup (ds : List D) : (txt (.tup ds)).length = (TL.joinL [32] (ds.map txt)).length + 2 := by
  rw [txt_tup, List.length_cons, List.length_append]; rfl
theorem len_mem {ds : List D} {d : D} (h : d ∈ ds) : (txt d).length + 2 ≤ (txt (.tup ds)).length := by
  rw [len_tup]
  have h1 := sumL_mem (List.mem_map_of_mem (f := txt) h)
  have h2 := joinL_len2 (ds.map txt)
  omega
theorem sumL_le {m : Nat} : ∀ {ls : List (List Nat)}, (∀ l ∈ ls, l.length ≤ m) → sumL ls ≤ ls.length * (m + 1)
  | [], _ => Nat.zero_le _
  | l :: ls, h => by
    have h1 := h l (List.mem_cons_self ..)
    have h2 := sumL_le fun x hx => h x (List.mem_cons_of_mem _ hx)
    show l.length + 1 + sumL ls ≤ (ls.length + 1) * (m + 1)
    rw [Nat.add_mul]
    omega
theorem len_tup_le {ds : List D} {m : Nat} (h : ∀ d ∈ ds, (txt d).length ≤ m) : (txt (.tup ds)).length ≤ ds.length * (m + 1) + 2 := by
  rw [len_tup]
  have h1 := joinL_len (ds.map txt)
  have h2 := sumL_le (ls := ds.map txt) (m := m) fun l hl => by
    obtain ⟨d, hd, rfl⟩ := List.mem_map.mp hl
    exact h d hd
  rw [List.length_map] at h2
  omega
theorem txt_non : txt .non = [45] := by simp only [txt]
theorem txt_int (i : Int) : txt (.int i) = numS i := by simp only [txt]
theorem txt_str (l : List Nat) : txt (.str (S l)) = l := by simp only [txt]
theorem intL_len {i : Int} {k : Nat} (hk : 0 < k) (h : i.natAbs < 10 ^ k) : (numS i).length ≤ k + 1 := by
  have := TL.numL_len hk h
  unfold numS
  split
  · rw [List.length_cons]; omega
  · omega
theorem wd_len {l : List Nat} (h : Wd l) : l.length ≤ 24 := by
  obtain ⟨c, r, rfl, _, _, h⟩ := h
  rw [List.length_cons]; omega
end K97

set_option Elab.async false
set_option linter.all false
set_option autoImplicit false
set_option maxRecDepth 100000
set_option maxHeartbeats 4000000
set_option exponentiation.threshold 5000
/-! P5: drawn notes; what is made for a form. -/
namespace K97
open PySem PySem.Spec PyProof.Rows L2 FL
open SX
section
variable {o x y : O} {r : Sto}
theorem at_last : (o :: (r ++ [x]))[r.length + 1]? = some x := by simp
theorem set_last : (o :: (r ++ [x])).set (r.length + 1) y = o :: (r ++ [y]) := by simp
end
/-- a pool -/
structure Pool (p : List Int) : Prop where
  pos : 0 < p.length
  dr : ∀ x ∈ p, Dr x
theorem Pool.pick {p : List Int} (P : Pool p) (n : Int) : Dr (pick p n) := by
  have h1 : 0 ≤ n % (p.length : Int) := Int.emod_nonneg _ (by have := P.pos; omega)
  have h2 : n % (p.length : Int) < p.length := Int.emod_lt_of_pos _ (by have := P.pos; omega)
  have h3 : (n % (p.length : Int)).toNat < p.length := by omega
  unfold K97.pick
  rw [List.getD_eq_getElem?_getD, List.getElem?_eq_getElem h3]
  exact P.dr _ (List.getElem_mem h3)
/-- how deep, how long a drawn note is -/
def dpt : Nat → Nat
  | 0 => 1
  | 1 => 2
  | _ => 43
def lng : Nat → Nat
  | 0 => 608
  | 1 => 1829
  | _ => 5572
/-- an item of a drawn note -/
def ItD (dp : Nat) (d : D) : Prop := Nt dp d ∧ (txt d).length ≤ (match dp with | 0 => 201 | 1 => 608 | _ => 1829)
theorem itd_base {dp : Nat} {d : D} (h : Nt 0 d) (l : (txt d).length ≤ 201) : ItD dp d := by
  refine ⟨h.le (Nat.zero_le _), ?_⟩
  split <;> omega
theorem itd_non {dp : Nat} : ItD dp .non := itd_base nt_non (by rw [txt_non]; decide)
theorem itd_int {dp : Nat} {i : Int} (h : i.natAbs < 10 ^ 200) : ItD dp (.int i) := itd_base (nt_int.mpr h) (by rw [txt_int]; exact intL_len (by decide) h)
theorem itd_str {dp : Nat} {l : List Nat} (h : Wd l) : ItD dp (.str (S l)) := itd_base (nt_str.mpr h) (by rw [txt_str]; have := wd_len h; omega)
theorem itd_sub {dp : Nat} {d : D} (hdp : dp ≤ 1) (h : Nt (dpt dp) d) (l : (txt d).length ≤ lng dp) : ItD (dp + 1) d := by
  have : dp = 0 ∨ dp = 1 := by omega
  rcases this with rfl | rfl
  · exact ⟨h, l⟩
  · exact ⟨h, l⟩
theorem itd_tup {dp : Nat} {ds : List D} (hdp : dp ≤ 2) (hl : ds.length ≤ 3) (h : ∀ d ∈ ds, ItD dp d) : Nt (dp + 1) (.tup ds) ∧ (txt (.tup ds)).length ≤ (match dp with | 0 => 608 | 1 => 1829 | _ => 5492) := by
  refine ⟨nt_tup.mpr fun d hd => (h d hd).1, ?_⟩
  have : dp = 0 ∨ dp = 1 ∨ dp = 2 := by omega
  rcases this with rfl | rfl | rfl
  · have z := len_tup_le (ds := ds) (m := 201) fun d hd => (h d hd).2
    have : ds.length * (201 + 1) ≤ 3 * (201 + 1) := Nat.mul_le_mul_right _ hl
    show _ ≤ 608
    omega
  · have z := len_tup_le (ds := ds) (m := 608) fun d hd => (h d hd).2
    have : ds.length * (608 + 1) ≤ 3 * (608 + 1) := Nat.mul_le_mul_right _ hl
    show _ ≤ 1829
    omega
  · have z := len_tup_le (ds := ds) (m := 1829) fun d hd => (h d hd).2
    have : ds.length * (1829 + 1) ≤ 3 * (1829 + 1) := Nat.mul_le_mul_right _ hl
    show _ ≤ 5492
    omega
theorem len_one {d : D} : (txt (.tup [d])).length = (txt d).length + 2 := by rw [len_tup]; rfl
/-- the drawing's loop -/
def NoteI (p : List Int) (dp : Nat) (dr : Int) (r : Sto) (k : Nat) (τ : Env') (s : Sto) : Prop :=
  ∃ n' items o1 o2 o3, τ = [some (.fls (p.map .int)), some (.obj 0), some (.int dp), some (.int dr), some (.obj (r.length + 1)), o1, o2, o3, none] ∧
      s = .lst [.int n'] :: (r ++ [.lst items]) ∧ items.length ≤ k ∧ ∀ d ∈ items, ItD dp d
/-- its last loop -/
def WrapI (p : List Int) (dp : Nat) (dr : Int) (s0 : Sto) (a : Nat) (k : Nat) (τ : Env') (s : Sto) : Prop :=
  ∃ ds o1 o2 o3, τ = [some (.fls (p.map .int)), some (.obj 0), some (.int dp), some (.int dr), some (.obj a), o1, o2, o3, some (.tup ds)] ∧ s = s0 ∧ Nt (3 + k) (.tup ds) ∧ (txt (.tup ds)).length ≤ 5492 + 2 * k
def NoteQ (dp : Nat) (r : Sto) (d : D) (s : Sto) : Prop := ∃ n' ds, s = .lst [.int n'] :: r ∧ d = .tup ds ∧ Nt (dpt dp) d ∧ (txt d).length ≤ lng dp
theorem note_step {p : List Int} (P : Pool p) {dp : Nat} (hdp : dp ≤ 2) {F : Fn}
    (hF : 0 < dp → ∀ (n : Int) (r : Sto), StillS r → OutR (F [.fls (p.map .int), .obj 0, .int ((dp : Int) - 1)] (.lst [.int n] :: r)) fun d s' => ∃ n', s' = .lst [.int n'] :: r ∧ ItD dp d)
    (n : Int) (r : Sto) (hr : StillS r) :
    OutR (fnM 3 9 (b_law_note F) [.fls (p.map .int), .obj 0, .int dp] (.lst [.int n] :: r)) (NoteQ dp r) := by
  refine out_fn rfl ?_
  unfold b_law_note startD
  have hd0 := P.pick (n + 1)
  generalize e0 : pick p (n + 1) = dr at hd0
  obtain ⟨m, hm, hm3⟩ : ∃ m : Nat, dr % 4 = (m : Int) ∧ m ≤ 3 := ⟨(dr % 4).toNat, by omega, by omega⟩
  have z0 : 0 ≤ sizeLine := Nat.zero_le _
  simp [f_next P.pos, e0, v_mod, rng1_int hm (by omega), z0]
  refine out_seq (out_rng (I := NoteI p dp dr r) ?_ ?_ ?_)
  · rintro k hk τ s' ⟨n', items, o1, o2, o3, rfl, rfl, hk2, hit⟩
    have hd1 := P.pick (n' + 1)
    generalize e1 : pick p (n' + 1) = ot at hd1
    have b5 : 0 ≤ ot % 5 := Int.emod_nonneg _ (by decide)
    have hsz : items.length < sizeLine := by have : sizeLine = 16777216 := rfl; omega
    have cd : CDivW ot 5 := divW (by decide) (by decide)
    have dd : Dr (ot / 5) := ⟨Int.ediv_nonneg hd1.1 (by decide), by have := hd1.1; have := hd1.2; omega⟩
    have fin : ∀ {n' : Int} {d : D} {o1 o2 o3 : Option D}, ItD dp d → NoteI p dp dr r (k + 1) [some (.fls (p.map .int)), some (.obj 0), some (.int dp), some (.int dr), some (.obj (r.length + 1)), o1, o2, o3, none] (.lst [.int n'] :: (r ++ [.lst (items ++ [d])])) := fun h =>
      ⟨_, items ++ [_], _, _, _, rfl, rfl, by simp; omega, fun x hx => (List.mem_append.mp hx).elim (hit x) fun q => by rw [List.mem_singleton.mp q]; exact h⟩
    by_cases q0 : ot % 5 = 0
    · by_cases q1 : dp = 0
      · have q2 : ¬ 0 < dp := by omega
        simp [f_next P.pos, e1, v_mod, v_div cd, q0, q2, f_number dd, v_at at_last, v_app hsz]
        exact fin (itd_int (numb_lt dd))
      · obtain ⟨d, s1, e, n2, rfl, hd⟩ := (hF (by omega) (n' + 1) (r ++ [.lst items]) (stillS_app hr (stillS_lst (stillL_of fun x hx => (hit x hx).1.still) stillS_nil))).ex
        simp [f_next P.pos, e1, v_mod, v_div cd, q0, e, v_at at_last, v_app hsz, Nat.pos_of_ne_zero q1]
        exact fin hd
    · by_cases q1 : ot % 5 = 1
      · simp [f_next P.pos, e1, v_mod, v_div cd, q0, q1, v_at at_last, v_app hsz]
        exact fin itd_non
      · by_cases q2 : ot % 5 = 2
        · obtain ⟨d, s1, e, rfl, l, rfl, hl⟩ := (f_word (s := .lst [.int (n' + 1)] :: (r ++ [.lst items])) dd.1 (by have := dd.2; omega) hd0.1 (by have := hd0.2; omega)).ex
          simp [f_next P.pos, e1, v_mod, v_div cd, q0, q1, q2, e, v_at at_last, v_app hsz]
          exact fin (itd_str hl)
        · simp [f_next P.pos, e1, v_mod, v_div cd, q0, q1, q2, f_number dd, v_at at_last, v_app hsz]
          exact fin (itd_int (numb_lt dd))
  · exact ⟨n + 1, [], none, none, none, by simp, rfl, by simp, by simp⟩
  · rintro τ s' ⟨n', items, o1, o2, o3, rfl, rfl, hk2, hit⟩
    obtain ⟨t1, t2⟩ := itd_tup hdp (by omega) hit
    have hs : StillS (.lst [.int n'] :: r) := stillS_lst (stillL_cons still_int stillL_nil) hr
    have out : ∀ {ds : List D}, Nt (dpt dp) (.tup ds) → (txt (.tup ds)).length ≤ lng dp → FnEnd (r.length + 1) (NoteQ dp r) (.tup ds) (.lst [.int n'] :: (r ++ [.lst items])) := fun h1 h2 =>
      ⟨.lst [.int n'] :: r, [.lst items], rfl, rfl, h1.still, hs, n', _, rfl, rfl, h1, h2⟩
    by_cases q0 : dp = 2
    · subst q0
      by_cases q1 : dr % 16 = 9
      · obtain ⟨w, hw, r40⟩ : ∃ w : Nat, w = 40 ∧ rng1F (.int 40) = some (rngL 0 w) := ⟨40, rfl, rng1_int rfl (by decide)⟩
        simp [v_tupO at_last, v_mod, q1, r40]
        refine out_seq (out_rng (I := WrapI p 2 dr (.lst [.int n'] :: (r ++ [.lst items])) (r.length + 1)) ?_ ?_ ?_)
        · rintro k hk τ s' ⟨ds, o1, o2, o3, rfl, rfl, h1, h2⟩
          have z1 : 1 ≤ sizeLine := by decide
          simp [z1]
          refine ⟨[.tup ds], _, _, _, rfl, rfl, nt_tup.mpr fun d hd => by rw [List.mem_singleton.mp hd]; exact h1, ?_⟩
          rw [len_one]; omega
        · have t3 : (txt (.tup items)).length ≤ 5492 := t2
          exact ⟨_, _, _, _, rfl, rfl, t1, by omega⟩
        · rintro τ s' ⟨ds, o1, o2, o3, rfl, rfl, h1, h2⟩
          simp
          subst hw
          exact out h1 (by show _ ≤ 5572; omega)
      · simp [v_tupO at_last, v_mod, q1]
        have t3 : (txt (.tup items)).length ≤ 5492 := t2
        exact out (t1.le (by decide)) (by show _ ≤ 5572; omega)
    · have q2 : ¬ (dp : Int) = 2 := by omega
      simp [v_tupO at_last, v_mod, q2]
      have : dp = 0 ∨ dp = 1 := by omega
      rcases this with rfl | rfl
      · exact out t1 t2
      · exact out t1 t2
theorem f_note {p : List Int} (P : Pool p) : ∀ (dp k : Nat), dp ≤ 2 → dp < k → ∀ (n : Int) (r : Sto), StillS r →
    OutR (F_law_note k [.fls (p.map .int), .obj 0, .int dp] (.lst [.int n] :: r)) (NoteQ dp r) := by
  intro dp
  induction dp with
  | zero =>
    rintro k _ hk n r hr
    obtain ⟨k, rfl⟩ : ∃ j, k = j + 1 := ⟨k - 1, by omega⟩
    exact note_step P (by omega) (fun z => absurd z (by omega)) n r hr
  | succ dp ih =>
    rintro k hdp hk n r hr
    obtain ⟨k, rfl⟩ : ∃ j, k = j + 1 := ⟨k - 1, by omega⟩
    refine note_step P hdp (fun _ n r hr => ?_) n r hr
    have e : (((dp + 1 : Nat) : Int) - 1) = (dp : Int) := by omega
    rw [e]
    refine (ih k (by omega) (by omega) n r hr).imp ?_
    rintro d s' ⟨n', ds, e1, e2, h1, h2⟩
    exact ⟨n', e1, itd_sub (by omega) h1 h2⟩
end K97

set_option Elab.async false
set_option linter.all false
set_option autoImplicit false
set_option maxRecDepth 100000
set_option maxHeartbeats 4000000
set_option exponentiation.threshold 5000
/-! P6: == of data; forms; what is made for a form. -/
namespace K97
open PySem PySem.Spec PyProof.Rows L2 FL
open SX
/-! ### data -/
/-- data of at most this depth -/
def Dt (k : Nat) (d : D) : Prop := ∃ p, toP d = some p ∧ p.canLay0 = true ∧ p.depth ≤ k
def Dts (k : Nat) (ds : List D) : Prop := ∃ ps, toPs ds = some ps ∧ PyData.canLayAll0 ps = true ∧ PyData.depthAll ps ≤ k
theorem dts_of {k : Nat} : ∀ {ds : List D}, (∀ d ∈ ds, Dt k d) → Dts k ds
  | [], _ => ⟨[], by simp only [toPs], by simp only [PyData.canLayAll0], by simp only [PyData.depthAll]; omega⟩
  | d :: ds, h => by
    obtain ⟨p, e, c, l⟩ := h d (List.mem_cons_self ..)
    obtain ⟨ps, e2, c2, l2⟩ := dts_of fun x hx => h x (List.mem_cons_of_mem _ hx)
    exact ⟨p :: ps, by simp only [toPs, e, e2], by simp only [PyData.canLayAll0, c, c2, Bool.and_self], by simp only [PyData.depthAll]; omega⟩
theorem dt_non {k : Nat} : Dt k .non := ⟨.none, by simp only [toP], by simp only [PyData.canLay0], by simp only [PyData.depth]; omega⟩
theorem dt_bl {k : Nat} {b : Bool} : Dt k (.bl b) := ⟨.bool b, by simp only [toP], by simp only [PyData.canLay0], by simp only [PyData.depth]; omega⟩
theorem dt_int {k : Nat} {i : Int} : Dt k (.int i) := ⟨.int i, by simp only [toP], by simp only [PyData.canLay0], by simp only [PyData.depth]; omega⟩
theorem dt_str {k : Nat} {l : List Nat} (h : ∀ c ∈ l, c < 0x110000) : Dt k (.str (S l)) := by
  refine ⟨.str (S l), by simp only [toP], ?_, by simp only [PyData.depth]; omega⟩
  simp only [PyData.canLay0]
  show (S l).cps.all (· < 0x110000) = true
  rw [← Array.all_toList, List.all_eq_true]
  intro c hc
  exact decide_eq_true (h c hc)
theorem dt_tup {k : Nat} {ds : List D} (h : ∀ d ∈ ds, Dt k d) : Dt (k + 1) (.tup ds) := by
  obtain ⟨ps, e, c, l⟩ := dts_of h
  exact ⟨.tuple ps, by simp only [toP, e, Option.map_some], by simp only [PyData.canLay0, c], by simp only [PyData.depth]; omega⟩
theorem Dt.le {k m : Nat} {d : D} (h : Dt k d) (l : k ≤ m) : Dt m d := let ⟨p, e, c, q⟩ := h; ⟨p, e, c, Nat.le_trans q l⟩
theorem wc_lt {c : Nat} (h : WC c) : c < 128 := by unfold WC at h; omega
theorem wd_lt {l : List Nat} (h : Wd l) : ∀ c ∈ l, c < 128 := by
  obtain ⟨c, r, rfl, h1, h2, _⟩ := h
  intro x hx
  rcases List.mem_cons.mp hx with rfl | hx
  · omega
  · exact wc_lt (h2 x hx)
theorem Nt.dt : ∀ {k : Nat} {d : D}, Nt k d → Dt k d
  | k, d, h => by
    rcases h.kinds with rfl | ⟨i, rfl, _⟩ | ⟨l, rfl, hl⟩ | ⟨j, ds, rfl, rfl, hs⟩
    · exact dt_non
    · exact dt_int
    · exact dt_str fun c hc => by have := wd_lt hl c hc; omega
    · exact dt_tup fun e he => (hs e he).dt
theorem shaped_of {p : PyData} {k : Nat} (c : p.canLay0 = true) (l : p.depth ≤ k) (hk : k ≤ 64) : SeqAt.shaped p = true := by
  unfold SeqAt.shaped
  rw [c, decide_eq_true (show p.depth ≤ 64 by omega)]
  rfl
/-- a tuple's comparison with what is no tuple, by the kinds -/
theorem eqB_data {k : Nat} {x y : D} {p q : PyData} (hk : k ≤ 64) (hx : toP x = some p) (cx : p.canLay0 = true) (lx : p.depth ≤ k) (hy : toP y = some q) (cy : q.canLay0 = true) (ly : q.depth ≤ k)
    (hn : ∀ ds, x = .tup ds ∨ y = .tup ds → True) (h : (∃ ds, x = .tup ds) ∨ (∃ ds, y = .tup ds) ∨ (∃ ds, x = .fls ds) ∨ ∃ ds, y = .fls ds) : eqB x y = some (PyData.eqv p q) := by
  have sx := shaped_of cx lx hk
  have sy := shaped_of cy ly hk
  unfold eqB
  rcases h with ⟨ds, rfl⟩ | ⟨ds, rfl⟩ | ⟨ds, rfl⟩ | ⟨ds, rfl⟩
  · simp only [hx, hy, sx, sy, and_self, if_true]
  · cases x <;> simp only [hx, hy, sx, sy, and_self, if_true]
  · simp only [hx, hy, sx, sy, and_self, if_true]
  · cases x <;> simp only [hx, hy, sx, sy, and_self, if_true]
/-- a tuple is itself -/
theorem eqB_refl {k : Nat} {ds : List D} (h : Dt k (.tup ds)) (hk : k ≤ 64) : eqB (.tup ds) (.tup ds) = some true := by
  obtain ⟨p, e, c, l⟩ := h
  rw [eqB_data hk e c l e c l (fun _ _ => trivial) (.inl ⟨ds, rfl⟩), SeqAt.eqv_refl p c]
/-- a tuple is no text -/
theorem eqB_ts {k : Nat} {ds : List D} {l : List Nat} (h : Dt k (.tup ds)) (hk : k ≤ 64) (hl : ∀ c ∈ l, c < 0x110000) : eqB (.tup ds) (.str (S l)) = some false := by
  obtain ⟨p, e, c, q⟩ := h
  obtain ⟨p2, e2, c2, q2⟩ := dt_str (k := k) hl
  rw [eqB_data hk e c q e2 c2 q2 (fun _ _ => trivial) (.inl ⟨ds, rfl⟩)]
  simp only [toP] at e e2
  cases e2
  cases z : toPs ds with
  | none => rw [z] at e; cases e
  | some ps =>
    rw [z] at e
    cases e
    simp only [PyData.eqv]
theorem v_eqts {k : Nat} {ds : List D} {l : List Nat} (h : Dt k (.tup ds)) (hk : k ≤ 64) (hl : ∀ c ∈ l, c < 0x110000) : eqP (.tup ds) (.str (S l)) = some (.bl false) := by
  unfold eqP; rw [eqB_ts h hk hl]; rfl
/-! ### texts of the forms -/
theorem s_i : ("i" : Str) = S [105] := by decide +kernel
theorem s_w : ("w" : Str) = S [119] := by decide +kernel
theorem s_s : ("s" : Str) = S [115] := by decide +kernel
theorem s_t : ("t" : Str) = S [116] := by decide +kernel
theorem s_m : ("-" : Str) = S [45] := by decide +kernel
theorem s_or : ("or" : Str) = S [111, 114] := by decide +kernel
theorem s_any : ("any" : Str) = S [97, 110, 121] := by decide +kernel
theorem s_row : ("row" : Str) = S [114, 111, 119] := by decide +kernel
/-- the law's forms -/
inductive LF where
  | i | w | s | t | m
  | or (a b : LF) | any (a : LF) | row (l : List LF)
mutual
def LF.d : LF → D
  | .i => .str (S [105])
  | .w => .str (S [119])
  | .s => .str (S [115])
  | .t => .str (S [116])
  | .m => .str (S [45])
  | .or a b => .tup [.str (S [111, 114]), a.d, b.d]
  | .any a => .tup [.str (S [97, 110, 121]), a.d]
  | .row l => .tup (.str (S [114, 111, 119]) :: LF.ds l)
def LF.ds : List LF → List D
  | [] => []
  | f :: l => f.d :: LF.ds l
end
mutual
def LF.rank : LF → Nat
  | .i => 0
  | .w => 0
  | .s => 0
  | .t => 0
  | .m => 0
  | .or a b => max a.rank b.rank + 1
  | .any a => a.rank + 1
  | .row l => LF.ranks l + 1
def LF.ranks : List LF → Nat
  | [] => 0
  | f :: l => max f.rank (LF.ranks l)
end
/-- rows of at most so many parts -/
def LF.wide (l : List LF) : Prop := l.length ≤ 6
mutual
def LF.ok : LF → Bool
  | .or a b => a.ok && b.ok
  | .any a => a.ok
  | .row l => decide (l.length ≤ 6) && LF.oks l
  | _ => true
def LF.oks : List LF → Bool
  | [] => true
  | f :: l => f.ok && LF.oks l
end
mutual
/-- how long the text of what is made can be -/
def LF.mx : LF → Nat
  | .i => 201
  | .w => 24
  | .s => 60
  | .t => 5572
  | .m => 1
  | .or a b => max a.mx b.mx
  | .any a => 3 * (a.mx + 1) + 2
  | .row l => LF.mxs l + 2
def LF.mxs : List LF → Nat
  | [] => 0
  | f :: l => f.mx + 1 + LF.mxs l
end
theorem LF.ds_map : ∀ l : List LF, LF.ds l = l.map LF.d
  | [] => by simp only [LF.ds, List.map_nil]
  | f :: l => by simp only [LF.ds, List.map_cons, LF.ds_map l]
theorem LF.ranks_mem : ∀ {l : List LF} {f : LF}, f ∈ l → f.rank ≤ LF.ranks l
  | [], _, h => absurd h (by simp)
  | g :: l, f, h => by
    simp only [LF.ranks]
    rcases List.mem_cons.mp h with rfl | h
    · omega
    · have := LF.ranks_mem h; omega
theorem LF.dt : ∀ (k : Nat) (f : LF), f.rank ≤ k → Dt (k + 1) f.d
  | k, .i, _ => by simp only [LF.d]; exact dt_str (by decide)
  | k, .w, _ => by simp only [LF.d]; exact dt_str (by decide)
  | k, .s, _ => by simp only [LF.d]; exact dt_str (by decide)
  | k, .t, _ => by simp only [LF.d]; exact dt_str (by decide)
  | k, .m, _ => by simp only [LF.d]; exact dt_str (by decide)
  | 0, .or a b, h => by simp only [LF.rank] at h; omega
  | 0, .any a, h => by simp only [LF.rank] at h; omega
  | 0, .row l, h => by simp only [LF.rank] at h; omega
  | k + 1, .or a b, h => by
    simp only [LF.rank] at h
    have h1 := LF.dt k a (by omega)
    have h2 := LF.dt k b (by omega)
    simp only [LF.d]
    refine dt_tup fun d hd => ?_
    simp only [List.mem_cons, List.not_mem_nil, or_false] at hd
    rcases hd with rfl | rfl | rfl
    · exact dt_str (by decide)
    · exact h1
    · exact h2
  | k + 1, .any a, h => by
    simp only [LF.rank] at h
    have h1 := LF.dt k a (by omega)
    simp only [LF.d]
    refine dt_tup fun d hd => ?_
    simp only [List.mem_cons, List.not_mem_nil, or_false] at hd
    rcases hd with rfl | rfl
    · exact dt_str (by decide)
    · exact h1
  | k + 1, .row l, h => by
    simp only [LF.rank] at h
    simp only [LF.d, LF.ds_map]
    refine dt_tup fun d hd => ?_
    rcases List.mem_cons.mp hd with rfl | hd
    · exact dt_str (by decide)
    · obtain ⟨f, hf, rfl⟩ := List.mem_map.mp hd
      exact LF.dt k f (by have := LF.ranks_mem hf; omega)
/-! what has a form -/
mutual
inductive Fits : LF → D → Prop where
  | i {n : Int} (h : n.natAbs < 10 ^ 200) : Fits .i (.int n)
  | w {l : List Nat} (h : Wd l) : Fits .w (.str (S l))
  | s {t m : Int} (h : Pr t m) : Fits .s (.tup [.int t, .int m])
  | t {ds : List D} (h : Nt 43 (.tup ds)) (l : (txt (.tup ds)).length ≤ 5572) : Fits .t (.tup ds)
  | m : Fits .m .non
  | or1 {a b : LF} {d : D} (h : Fits a d) : Fits (.or a b) d
  | or2 {a b : LF} {d : D} (h : Fits b d) : Fits (.or a b) d
  | any {a : LF} {ds : List D} (l : ds.length ≤ 3) (h : ∀ d ∈ ds, Fits a d) : Fits (.any a) (.tup ds)
  | row {l : List LF} {ds : List D} (h : FitsL l ds) : Fits (.row l) (.tup ds)
inductive FitsL : List LF → List D → Prop where
  | nil : FitsL [] []
  | cons {f : LF} {d : D} {l : List LF} {ds : List D} (h : Fits f d) (t : FitsL l ds) : FitsL (f :: l) (d :: ds)
end
mutual
theorem Fits.nt : ∀ {f : LF} {d : D}, Fits f d → Nt (43 + f.rank) d
  | _, _, .i h => nt_int.mpr h
  | _, _, .w h => nt_str.mpr h
  | _, _, .s (t := t) (m := m) h => by
    have : 10 ^ 24 < 10 ^ 200 := by decide
    refine (nt_tup (k := 0)).mpr (fun d hd => ?_) |>.le (by omega)
    simp only [List.mem_cons, List.not_mem_nil, or_false] at hd
    rcases hd with rfl | rfl
    · exact nt_int.mpr (by have := h.2.2.1; omega)
    · exact nt_int.mpr (by have := h.2.2.2; omega)
  | _, _, .t h _ => h.le (by omega)
  | _, _, .m => nt_non
  | _, _, .or1 h => (Fits.nt h).le (by simp only [LF.rank]; omega)
  | _, _, .or2 h => (Fits.nt h).le (by simp only [LF.rank]; omega)
  | .any a, .tup ds, .any _ h => by
    have z : ∀ d ∈ ds, Nt (43 + a.rank) d := fun d hd => Fits.nt (h d hd)
    exact (nt_tup.mpr z).le (by simp only [LF.rank]; omega)
  | .row l, .tup ds, .row h => (nt_tup.mpr (FitsL.nt h)).le (by simp only [LF.rank]; omega)
theorem FitsL.nt : ∀ {l : List LF} {ds : List D}, FitsL l ds → ∀ d ∈ ds, Nt (43 + LF.ranks l) d
  | _, _, .nil => fun _ h => absurd h (by simp)
  | .cons f l, .cons d ds, .cons h t => fun x hx => by
    have h1 : Nt (43 + f.rank) d := Fits.nt h
    have h2 := FitsL.nt t
    rcases List.mem_cons.mp hx with rfl | hx
    · exact h1.le (by simp only [LF.ranks]; omega)
    · exact (h2 x hx).le (by simp only [LF.ranks]; omega)
end
mutual
theorem Fits.len : ∀ {f : LF} {d : D}, Fits f d → (txt d).length ≤ f.mx
  | _, _, .i h => by rw [txt_int]; exact intL_len (by decide) h
  | _, _, .w h => by rw [txt_str]; exact wd_len h
  | _, _, .s (t := t) (m := m) h => by
    have z := len_tup_le (ds := [.int t, .int m]) (m := 25) fun d hd => by
      simp only [List.mem_cons, List.not_mem_nil, or_false] at hd
      rcases hd with rfl | rfl
      · rw [txt_int]; exact intL_len (by decide) h.2.2.1
      · rw [txt_int]; exact intL_len (by decide) h.2.2.2
    exact Nat.le_trans z (by simp only [LF.mx, List.length_cons, List.length_nil]; omega)
  | _, _, .t _ l => l
  | _, _, .m => by rw [txt_non]; simp only [LF.mx]; decide
  | _, _, .or1 h => Nat.le_trans (Fits.len h) (by simp only [LF.mx]; omega)
  | _, _, .or2 h => Nat.le_trans (Fits.len h) (by simp only [LF.mx]; omega)
  | .any a, .tup ds, .any l h => by
    have z : ∀ d ∈ ds, (txt d).length ≤ a.mx := fun d hd => Fits.len (h d hd)
    refine Nat.le_trans (len_tup_le z) ?_
    simp only [LF.mx]
    have := Nat.mul_le_mul_right (a.mx + 1) l
    omega
  | .row l, .tup ds, .row h => by
    have z := FitsL.len h
    rw [len_tup]
    have := joinL_len (ds.map txt)
    simp only [LF.mx]
    omega
theorem FitsL.len : ∀ {l : List LF} {ds : List D}, FitsL l ds → sumL (ds.map txt) ≤ LF.mxs l
  | _, _, .nil => Nat.zero_le _
  | .cons f l, .cons d ds, .cons h t => by
    have h1 : (txt d).length ≤ f.mx := Fits.len h
    have h2 := FitsL.len t
    simp only [LF.mxs, List.map_cons]
    show (txt d).length + 1 + sumL (ds.map txt) ≤ _
    omega
end
/-! ### slices -/
theorem cut_tl {α : Type} {x : α} {xs : List α} : cutL (x :: xs) (some 1) none = xs := by
  unfold cutL HT.sIx
  simp
theorem cut_init {α : Type} {xs : List α} : cutL xs none (some (-1)) = xs.take (xs.length - 1) := by
  unfold cutL HT.sIx
  have e : ((-1 : Int) + (xs.length : Int)).toNat = xs.length - 1 := by omega
  simp [e]
theorem cut_to {α : Type} {xs : List α} {k : Nat} (h : k ≤ xs.length) : cutL xs none (some (k : Int)) = xs.take k := by
  unfold cutL HT.sIx
  have e : ¬ ((k : Int) < 0) := by omega
  simp [e, Nat.min_eq_left h]
theorem cut_from {α : Type} {xs : List α} {k : Nat} (h : k ≤ xs.length) : cutL xs (some (k : Int)) none = xs.drop k := by
  unfold cutL HT.sIx
  have e : ¬ ((k : Int) < 0) := by omega
  simp [e, Nat.min_eq_left h]
  exact List.take_of_length_le (by simp)
end K97

set_option Elab.async false
set_option linter.all false
set_option autoImplicit false
set_option maxRecDepth 100000
set_option maxHeartbeats 4000000
set_option exponentiation.threshold 5000
/-! P7: what is made for a form. -/
namespace K97
open PySem PySem.Spec PyProof.Rows L2 FL
open SX
section
variable {α β : Type} {s s' : Sto} {τ : Env'} {N : Env' → Sto → Prop} {T : D → Sto → Prop}
theorem out_comp {te : M} {i n : Nat} {ds : List D} {Q : List D → Sto → Prop} (P : D → D → Prop) (I : Sto → Prop)
    (st : ∀ d ∈ ds, ∀ s, I s → OutR (te (τ.set i (some d)) s) (fun x s => P d x ∧ I s)) (h : I s) (hn : n + ds.length ≤ sizeLine)
    (hQ : ∀ xs s, F2 P ds xs → I s → Q xs s) : OutR (compL (.one i) yesB te τ n ds s) Q := by
  obtain ⟨xs, s', e, hF, hs⟩ := compL_ex (te := te) (i := i) (τ := τ) P I ds n s (fun d hd s hI => by
    obtain ⟨x, s', e, h1, h2⟩ := (st d hd s hI).ex
    exact ⟨x, s', e, h1, h2⟩) h hn
  exact OutR.of e (hQ xs s' hF hs)
end
theorem F2.mem {α β : Type} {P : α → β → Prop} : ∀ {l : List α} {m : List β}, F2 P l m → ∀ b ∈ m, ∃ a ∈ l, P a b
  | _, _, .nil, b, h => absurd h (by simp)
  | a :: _, _, .cons h t, b, hb => by
    rcases List.mem_cons.mp hb with rfl | hb
    · exact ⟨a, List.mem_cons_self .., h⟩
    · obtain ⟨x, hx, hp⟩ := t.mem b hb
      exact ⟨x, List.mem_cons_of_mem _ hx, hp⟩
theorem v_slT {ds : List D} {lo hi : Option Int} : slP (.tup ds) lo hi = some (.tup (cutL ds lo hi)) := (rfl)
/-- what is made -/
def MadeQ (f : LF) (r : Sto) (d : D) (s : Sto) : Prop := (∃ n', s = .lst [.int n'] :: r) ∧ Fits f d
def SpotI (r : Sto) (s : Sto) : Prop := ∃ n', s = .lst [.int n'] :: r
theorem made_end {f : LF} {r : Sto} {n : Int} {d : D} (h : Fits f d) (hr : StillS r) : FnEnd (r.length + 1) (MadeQ f r) d (.lst [.int n] :: r) :=
  ⟨.lst [.int n] :: r, [], by simp, rfl, h.nt.still, stillS_lst (stillL_cons still_int stillL_nil) hr, ⟨n, rfl⟩, h⟩
theorem rng_len {n : Nat} : (rngL 0 n).length = n := by simp [rngL]
theorem fitsL_of {P : D → D → Prop} : ∀ {l : List LF} {xs : List D}, (∀ f ∈ l, ∀ x, P f.d x → Fits f x) → F2 P (l.map LF.d) xs → FitsL l xs
  | [], _, _, .nil => .nil
  | f :: _, _, k, .cons h t => .cons (k f (List.mem_cons_self ..) _ h) (fitsL_of (fun f hf => k f (List.mem_cons_of_mem _ hf)) t)
theorem LF.oks_mem : ∀ {l : List LF}, LF.oks l = true → ∀ f ∈ l, f.ok = true
  | [], _, f, h => absurd h (by simp)
  | g :: l, h, f, hf => by
    simp only [LF.oks, Bool.and_eq_true] at h
    rcases List.mem_cons.mp hf with rfl | hf
    · exact h.1
    · exact LF.oks_mem h.2 f hf
theorem f_made {p : List Int} (P : Pool p) : ∀ (k : Nat) (f : LF), f.rank < k → k ≤ 40 → f.ok = true → ∀ (n : Int) (r : Sto), StillS r →
    OutR (F_law_made k [.fls (p.map .int), .obj 0, f.d] (.lst [.int n] :: r)) (MadeQ f r) := by
  intro k
  induction k with
  | zero => intro f h; exact absurd h (by omega)
  | succ k ih =>
    intro f hk hk40 hok n r hr
    show OutR (fnM 3 7 (b_law_made (F_law_made k)) _ _) _
    refine out_fn rfl ?_
    unfold b_law_made startD
    have hd := LF.dt k f (by omega)
    rw [s_i, s_w, s_s, s_t, s_m, s_or, s_any]
    have h0 := P.pick (n + 1)
    have h1 := P.pick (n + 1 + 1)
    cases f with
    | i =>
      simp [oS, oT, oB, LF.d, f_next P.pos, f_number h0]
      exact made_end (.i (numb_lt h0)) hr
    | w =>
      obtain ⟨d, s', e, rfl, l, rfl, hl⟩ := (f_word (s := .lst [.int (n + 1 + 1)] :: r) h0.1 (by have := h0.2; omega) h1.1 (by have := h1.2; omega)).ex
      simp [oS, oT, oB, LF.d, f_next P.pos, e]
      exact made_end (.w hl) hr
    | s =>
      obtain ⟨d, s', e, rfl, t, m, rfl, hl⟩ := (f_pair (s := .lst [.int (n + 1 + 1)] :: r) h0.1 (by have := h0.2; omega) h1.1 (by have := h1.2; omega)).ex
      simp [oS, oT, oB, LF.d, f_next P.pos, e]
      exact made_end (.s hl) hr
    | t =>
      obtain ⟨d, s', e, n', ds, rfl, rfl, h3, h4⟩ := (f_note P 2 4 (by decide) (by decide) n r hr).ex
      simp only [Int.cast_ofNat_Int] at e
      simp [oS, oT, oB, LF.d, e]
      exact made_end (.t h3 h4) hr
    | m =>
      simp [oS, oT, oB, LF.d]
      exact made_end .m hr
    | or a b =>
      simp only [LF.d, LF.rank] at hd hk
      have q : ∀ c, eqP (.tup [.str (S [111, 114]), a.d, b.d]) (.str (S [c])) = if c < 0x110000 then some (.bl false) else eqP (.tup [.str (S [111, 114]), a.d, b.d]) (.str (S [c])) := fun c => by
        split
        · exact v_eqts hd (by omega) (by simpa)
        · rfl
      generalize e0 : pick p (n + 1) = dr at h0
      have hab : a.ok = true ∧ b.ok = true := by simpa [LF.ok] using hok
      have m2 : dr % 2 = 0 ∨ dr % 2 = 1 := by omega
      rcases m2 with m2 | m2
      · simp [oS, oT, oB, LF.d, q, f_next P.pos, e0, v_mod, m2, atI_nat]
        refine (ih a (by omega) (by omega) hab.1 (n + 1) r hr).imp ?_
        rintro d s' ⟨⟨n', rfl⟩, h⟩
        exact made_end (.or1 h) hr
      · simp [oS, oT, oB, LF.d, q, f_next P.pos, e0, v_mod, m2, atI_nat]
        refine (ih b (by omega) (by omega) hab.2 (n + 1) r hr).imp ?_
        rintro d s' ⟨⟨n', rfl⟩, h⟩
        exact made_end (.or2 h) hr
    | any a =>
      simp only [LF.d, LF.rank] at hd hk
      have q : ∀ c, eqP (.tup [.str (S [97, 110, 121]), a.d]) (.str (S [c])) = if c < 0x110000 then some (.bl false) else eqP (.tup [.str (S [97, 110, 121]), a.d]) (.str (S [c])) := fun c => by
        split
        · exact v_eqts hd (by omega) (by simpa)
        · rfl
      generalize e0 : pick p (n + 1) = dr at h0
      obtain ⟨m, hm, hm3⟩ : ∃ m : Nat, dr % 4 = (m : Int) ∧ m ≤ 3 := ⟨(dr % 4).toNat, by omega, by omega⟩
      simp [oS, oT, oB, LF.d, q, f_next P.pos, e0, v_mod, atI_nat, rng1_int hm (by omega), wipeD]
      have hok2 : a.ok = true := by simpa [LF.ok] using hok
      refine out_comp (fun _ x => Fits a x) (SpotI r) ?_ ⟨_, rfl⟩ ?_ ?_
      · rintro d hd s' ⟨n', rfl⟩
        simp [oS, oT, oB, atI_nat]
        refine (ih a (by omega) (by omega) hok2 n' r hr).imp ?_
        rintro d s' ⟨⟨n', rfl⟩, h⟩
        exact ⟨h, n', rfl⟩
      · rw [rng_len]
        have : sizeLine = 16777216 := rfl
        omega
      · rintro xs s' hF ⟨n', rfl⟩
        refine made_end (.any ?_ ?_) hr
        · rw [← hF.len, rng_len]; omega
        · intro x hx
          obtain ⟨_, _, h⟩ := hF.mem x hx
          exact h
    | row l =>
      simp only [LF.d, LF.rank, LF.ds_map] at hd hk
      have q : ∀ c, eqP (.tup (.str (S [114, 111, 119]) :: l.map LF.d)) (.str (S [c])) = if c < 0x110000 then some (.bl false) else eqP (.tup (.str (S [114, 111, 119]) :: l.map LF.d)) (.str (S [c])) := fun c => by
        split
        · exact v_eqts hd (by omega) (by simpa)
        · rfl
      have hok2 : l.length ≤ 6 ∧ LF.oks l = true := by simpa [LF.ok] using hok
      simp [oS, oT, oB, LF.d, q, v_slT, cut_tl, wipeD, LF.ds_map]
      refine out_comp (fun d x => ∀ f ∈ l, f.d = d → Fits f x) (SpotI r) ?_ ⟨_, rfl⟩ ?_ ?_
      · rintro d hd s' ⟨n', rfl⟩
        obtain ⟨f0, hf0, rfl⟩ := List.mem_map.mp hd
        have go : ∀ f ∈ l, OutR (F_law_made k [.fls (p.map .int), .obj 0, f.d] (.lst [.int n'] :: r)) (MadeQ f r) := fun f hf => by
          have := LF.ranks_mem hf
          exact ih f (by omega) (by omega) (LF.oks_mem hok2.2 f hf) n' r hr
        obtain ⟨x, s1, e, ⟨n2, rfl⟩, _⟩ := (go f0 hf0).ex
        simp [oS, oT, oB, e]
        refine ⟨fun f hf hfd => ?_, n2, rfl⟩
        obtain ⟨x2, s2, e2, _, h2⟩ := (go f hf).ex
        rw [hfd, e] at e2
        cases e2
        exact h2
      · have : sizeLine = 16777216 := rfl
        simp
        omega
      · rintro xs s' hF ⟨n', rfl⟩
        exact made_end (.row (fitsL_of (fun f hf x h => h f hf rfl) hF)) hr
end K97

set_option Elab.async false
set_option linter.all false
set_option autoImplicit false
set_option maxRecDepth 100000
set_option maxHeartbeats 4000000
set_option exponentiation.threshold 5000
/-! P8: the texts of notes. -/
namespace K97
open PySem PySem.Spec PyProof.Rows L2 FL
open SX
section
variable {s : Sto} {ds : List D} {i : Int} {x : Str} {b : Bool}
@[simp] theorem ty_tt : isiF isaT [.tup ds, .ty "tuple"] s = .ok (.bl true) s := by
  show R.of (((some "tuple").bind fun t => tyB t "tuple").map D.bl) s = _
  rw [show ((some "tuple").bind fun t => tyB t "tuple") = some true by decide +kernel]; rfl
@[simp] theorem ty_it : isiF isaT [.int i, .ty "tuple"] s = .ok (.bl false) s := by
  show R.of (((some "int").bind fun t => tyB t "tuple").map D.bl) s = _
  rw [show ((some "int").bind fun t => tyB t "tuple") = some false by decide +kernel]; rfl
@[simp] theorem ty_st : isiF isaT [.str x, .ty "tuple"] s = .ok (.bl false) s := by
  show R.of (((some "str").bind fun t => tyB t "tuple").map D.bl) s = _
  rw [show ((some "str").bind fun t => tyB t "tuple") = some false by decide +kernel]; rfl
@[simp] theorem ty_nt : isiF isaT [.non, .ty "tuple"] s = .ok (.bl false) s := by
  show R.of (((some "NoneType").bind fun t => tyB t "tuple").map D.bl) s = _
  rw [show ((some "NoneType").bind fun t => tyB t "tuple") = some false by decide +kernel]; rfl
@[simp] theorem ty_ts : isiF isaT [.tup ds, .ty "str"] s = .ok (.bl false) s := by
  show R.of (((some "tuple").bind fun t => tyB t "str").map D.bl) s = _
  rw [show ((some "tuple").bind fun t => tyB t "str") = some false by decide +kernel]; rfl
@[simp] theorem ty_is : isiF isaT [.int i, .ty "str"] s = .ok (.bl false) s := by
  show R.of (((some "int").bind fun t => tyB t "str").map D.bl) s = _
  rw [show ((some "int").bind fun t => tyB t "str") = some false by decide +kernel]; rfl
@[simp] theorem ty_ss : isiF isaT [.str x, .ty "str"] s = .ok (.bl true) s := by
  show R.of (((some "str").bind fun t => tyB t "str").map D.bl) s = _
  rw [show ((some "str").bind fun t => tyB t "str") = some true by decide +kernel]; rfl
@[simp] theorem ty_ns : isiF isaT [.non, .ty "str"] s = .ok (.bl false) s := by
  show R.of (((some "NoneType").bind fun t => tyB t "str").map D.bl) s = _
  rw [show ((some "NoneType").bind fun t => tyB t "str") = some false by decide +kernel]; rfl
@[simp] theorem ty_ti : isiF isaT [.tup ds, .ty "int"] s = .ok (.bl false) s := by
  show R.of (((some "tuple").bind fun t => tyB t "int").map D.bl) s = _
  rw [show ((some "tuple").bind fun t => tyB t "int") = some false by decide +kernel]; rfl
@[simp] theorem ty_ii : isiF isaT [.int i, .ty "int"] s = .ok (.bl true) s := by
  show R.of (((some "int").bind fun t => tyB t "int").map D.bl) s = _
  rw [show ((some "int").bind fun t => tyB t "int") = some true by decide +kernel]; rfl
@[simp] theorem ty_si : isiF isaT [.str x, .ty "int"] s = .ok (.bl false) s := by
  show R.of (((some "str").bind fun t => tyB t "int").map D.bl) s = _
  rw [show ((some "str").bind fun t => tyB t "int") = some false by decide +kernel]; rfl
@[simp] theorem ty_ni : isiF isaT [.non, .ty "int"] s = .ok (.bl false) s := by
  show R.of (((some "NoneType").bind fun t => tyB t "int").map D.bl) s = _
  rw [show ((some "NoneType").bind fun t => tyB t "int") = some false by decide +kernel]; rfl
@[simp] theorem ty_ib : isiF isaT [.int i, .ty "bool"] s = .ok (.bl false) s := by
  show R.of (((some "int").bind fun t => tyB t "bool").map D.bl) s = _
  rw [show ((some "int").bind fun t => tyB t "bool") = some false by decide +kernel]; rfl
theorem v_strI (h : i.natAbs < 10 ^ 200) : strF [.int i] s = .ok (.str (S (numS i))) s := by
  have h2 : i.natAbs.log2 < 1920 := by
    by_cases q : i.natAbs = 0
    · rw [q]; decide
    · refine (Nat.log2_lt q).mpr ?_
      have : 10 ^ 200 < 2 ^ 1920 := by decide
      omega
  show (if i.natAbs.log2 < 1920 then R.ok (D.str (Str.ofString (toString i))) s else .bad) = _
  rw [if_pos h2, str_int]
@[simp] theorem v_strS : strF [.str x] s = .ok (.str x) s := (rfl)
def kSmb (f : Str → D → Option D) (a : Str) : D → Sto → R D := fun y s => R.of (f a y) s
@[simp] theorem kSmb_app {f : Str → D → Option D} {a : Str} {y : D} : kSmb f a y s = R.of (f a y) s := (rfl)
def kSm (f : Str → D → Option D) (me : M) (τ : Env') : D → Sto → R D := fun x s => match x with
  | .str a => (me τ s).bind (kSmb f a)
  | _ => .bad
@[simp] theorem kSm_app {f : Str → D → Option D} {me : M} {τ : Env'} {a : Str} : kSm f me τ (.str a) s = (me τ s).bind (kSmb f a) := (rfl)
@[simp] theorem x_sm1 {f : Str → D → Option D} {mo me : M} {τ : Env'} : sm1 f mo me τ s = (mo τ s).bind (kSm f me τ) := (rfl)
theorem strs_map : ∀ ls : List (List Nat), strsOf (ls.map fun l => D.str (S l)) = some (ls.map S)
  | [] => rfl
  | l :: ls => by
    show (strsOf (ls.map fun l => D.str (S l))).map (S l :: ·) = _
    rw [strs_map ls]; rfl
theorem lens_sum : ∀ ls : List (List Nat), ((ls.map S).map (·.length)).sum + (ls.map S).length * (S [32]).length = sumL ls
  | [] => rfl
  | l :: ls => by
    have := lens_sum ls
    have e : (S [32]).length = 1 := rfl
    rw [e] at this ⊢
    simp only [List.map_cons, List.sum_cons, List.length_cons]
    show _ = l.length + 1 + sumL ls
    have e2 : (S l).length = l.length := S_len l
    omega
theorem v_join {ls : List (List Nat)} (h : sumL ls ≤ 16777216) : joinP (S [32]) (.fls (ls.map fun l => D.str (S l))) = some (.str (S (TL.joinL [32] ls))) := by
  have e : joinP (S [32]) (.fls (ls.map fun l => D.str (S l))) = (strsOf (ls.map fun l => D.str (S l))).bind fun ys => if (ys.map (·.length)).sum + ys.length * (S [32]).length ≤ 16777216 then some (.str (Txt.join (S [32]) ys)) else none := by unfold joinP; rfl
  rw [e, strs_map, Option.bind_some, if_pos (by rw [lens_sum]; exact h), join_S]
end
theorem s_sp : (" " : Str) = S [32] := by decide +kernel
theorem s_op : ("(" : Str) = S [40] := by decide +kernel
theorem s_cl : (")" : Str) = S [41] := by decide +kernel
theorem f_text : ∀ (k j : Nat) (d : D), Nt j d → j < k → (txt d).length ≤ 1000000 → ∀ s, F_law_text k [d] s = .ok (.str (S (txt d))) s := by
  intro k
  induction k with
  | zero => intro j d _ h; exact absurd h (by omega)
  | succ k ih =>
    intro j d h hj hl s
    refine fn_run rfl ?_ (Nat.le_refl _)
    unfold b_law_text startD
    rw [s_m, s_op, s_sp, s_cl]
    rcases h.kinds with rfl | ⟨i, rfl, hi⟩ | ⟨l, rfl, hw⟩ | ⟨j, ds, rfl, rfl, hs⟩
    · simp [txt_non]
    · simp [txt_int, v_strI hi]
    · simp [txt_str]
    · have sz : sizeLine = 16777216 := rfl
      have hl2 := len_tup ds
      have hl3 := joinL_len2 (ds.map txt)
      have hl4 := sumL_count (ds.map txt)
      rw [List.length_map] at hl4
      have e := compL_map (te := callM (F_law_text k) (consA (varM 1) nilA)) (i := 1) (τ := [some (.tup ds), none]) (s := s) (fun d => .str (S (txt d))) ds 0 (fun d hd => by
        have := ih j d (hs d hd) (by omega) (by have := len_mem hd; omega) s
        simp [this]) (by omega)
      have e2 : ds.map (fun d => D.str (S (txt d))) = (ds.map txt).map fun l => D.str (S l) := by rw [List.map_map]; rfl
      rw [e2] at e
      rw [txt_tup]
      generalize ds.map txt = ls at *
      have e3 : addP (.str (S [40])) (.str (S (TL.joinL [32] ls))) = some (.str (S (40 :: TL.joinL [32] ls))) := v_cat (by simp [sz]; omega)
      have e4 : addP (.str (S (40 :: TL.joinL [32] ls))) (.str (S [41])) = some (.str (S (40 :: (TL.joinL [32] ls ++ [41])))) := v_cat (by simp [sz]; omega)
      have e5 := v_join (ls := ls) (by omega)
      simp [wipeD, e, e3, e4, e5]
theorem f_write : ∀ (k j : Nat) (d : D), Nt j d → j < k → (txt d).length ≤ 1000000 → ∀ s, F_write_note k [d] s = .ok (.str (S (txt d))) s := by
  intro k
  induction k with
  | zero => intro j d _ h; exact absurd h (by omega)
  | succ k ih =>
    intro j d h hj hl s
    refine fn_run rfl ?_ (Nat.le_refl _)
    unfold b_write_note startD
    rw [s_m, s_op, s_sp, s_cl]
    rcases h.kinds with rfl | ⟨i, rfl, hi⟩ | ⟨l, rfl, hw⟩ | ⟨j, ds, rfl, rfl, hs⟩
    · simp [txt_non]
    · simp [txt_int, v_strI hi]
    · simp [txt_str]
    · have sz : sizeLine = 16777216 := rfl
      have hl2 := len_tup ds
      have hl3 := joinL_len2 (ds.map txt)
      have hl4 := sumL_count (ds.map txt)
      rw [List.length_map] at hl4
      have e := compL_map (te := callM (F_write_note k) (consA (varM 2) nilA)) (i := 2) (τ := [some (.tup ds), none, none]) (s := s) (fun d => .str (S (txt d))) ds 0 (fun d hd => by
        have := ih j d (hs d hd) (by omega) (by have := len_mem hd; omega) s
        simp [this]) (by omega)
      have e2 : ds.map (fun d => D.str (S (txt d))) = (ds.map txt).map fun l => D.str (S l) := by rw [List.map_map]; rfl
      rw [e2] at e
      rw [txt_tup]
      generalize ds.map txt = ls at *
      have e3 : addP (.str (S [40])) (.str (S (TL.joinL [32] ls))) = some (.str (S (40 :: TL.joinL [32] ls))) := v_cat (by simp [sz]; omega)
      have e4 : addP (.str (S (40 :: TL.joinL [32] ls))) (.str (S [41])) = some (.str (S (40 :: (TL.joinL [32] ls ++ [41])))) := v_cat (by simp [sz]; omega)
      have e5 := v_join (ls := ls) (by omega)
      simp [wipeD, e, e3, e4, e5]
end K97

set_option Elab.async false
set_option linter.all false
set_option autoImplicit false
set_option maxRecDepth 100000
set_option maxHeartbeats 4000000
set_option exponentiation.threshold 5000
/-! P9: goes_on, token_note. -/
namespace K97
open PySem PySem.Spec PyProof.Rows L2 FL
open SX
theorem sub_at1 {a : List Nat} {c : Nat} : Builtin.Str.subAt (S a) (S [c]) 0 = (a.head? == some c) := by
  unfold Builtin.Str.subAt
  show ((a.toArray.extract 0 (0 + 1)) == #[c]) = _
  cases a with
  | nil => simp
  | cons x r =>
    simp
theorem rmp_len {a : List Nat} : (Txt.removeprefix (S a) (S [45])).length = if a.head? = some 45 then a.length - 1 else a.length := by
  unfold Txt.removeprefix
  rw [sub_at1]
  by_cases h : a.head? = some 45
  · rw [if_pos h, h]
    cases a with
    | nil => cases h
    | cons x r =>
      show (Txt.affix (S (x :: r)) (some ((S [45]).length, (S (x :: r)).length))).length = _
      unfold Txt.affix
      have e : ¬ (((S (x :: r)).length - (S [45]).length == (S (x :: r)).length) = true) := by
        rw [S_len, S_len, beq_iff_eq]; simp
      simp only [e]
      show (Builtin.Str.strSub (S (x :: r)) (S [45]).length (S (x :: r)).length).length = _
      rw [TL.len_tl, TL.tl_strSub_end]
      rfl
  · have h2 : (a.head? == some 45) = false := by simpa using h
    rw [if_neg h, h2]
    show (S a).length = _
    exact S_len a
def isLet (c : Nat) : Bool := decide (97 ≤ c) && decide (c ≤ 122)
def isDig (c : Nat) : Bool := decide (48 ≤ c) && decide (c ≤ 57)
def isWC (c : Nat) : Bool := isLet c || isDig c || c == 45 || c == 58
def goesOn : List Nat → Nat → Bool
  | [], _ => false
  | t :: r, c => if isLet t = true then isWC c && decide (r.length + 1 < 24) else if t :: r = [45] then isDig c && !decide (c = 48) else if t :: r = [48] then false else isDig c && decide ((if t = 45 then r.length else r.length + 1) < 200)
theorem goesOn_cons {t : Nat} {r : List Nat} {c : Nat} : goesOn (t :: r) c = if isLet t = true then isWC c && decide (r.length + 1 < 24) else if t :: r = [45] then isDig c && !decide (c = 48) else if t :: r = [48] then false else isDig c && decide ((if t = 45 then r.length else r.length + 1) < 200) := rfl
theorem s_letters : ("abcdefghijklmnopqrstuvwxyz" : Str) = S lettersL := letters_S
theorem s_wchars : ("abcdefghijklmnopqrstuvwxyz0123456789-:" : Str) = S (lettersL ++ signsL) := by decide +kernel
theorem s_digits : ("0123456789" : Str) = S [48, 49, 50, 51, 52, 53, 54, 55, 56, 57] := by decide +kernel
theorem s_first : ("abcdefghijklmnopqrstuvwxyz0123456789-" : Str) = S (lettersL ++ [48, 49, 50, 51, 52, 53, 54, 55, 56, 57, 45]) := by decide +kernel
theorem s_0 : ("0" : Str) = S [48] := by decide +kernel
theorem v_in {c : Nat} {l : List Nat} : inP (.str (S [c])) (.str (S l)) = some (.bl (decide (c ∈ l))) := by
  unfold inP inB
  rfl
theorem mem_let {c : Nat} : c ∈ lettersL ↔ isLet c = true := by
  unfold isLet
  constructor
  · intro h
    have := letters_ok c h
    simp [this.1, this.2]
  · intro h
    simp at h
    have : c = 97 ∨ c = 98 ∨ c = 99 ∨ c = 100 ∨ c = 101 ∨ c = 102 ∨ c = 103 ∨ c = 104 ∨ c = 105 ∨ c = 106 ∨ c = 107 ∨ c = 108 ∨ c = 109 ∨ c = 110 ∨ c = 111 ∨ c = 112 ∨ c = 113 ∨ c = 114 ∨ c = 115 ∨ c = 116 ∨ c = 117 ∨ c = 118 ∨ c = 119 ∨ c = 120 ∨ c = 121 ∨ c = 122 := by omega
    simp [lettersL]
    omega
theorem mem_dig {c : Nat} : c ∈ [48, 49, 50, 51, 52, 53, 54, 55, 56, 57] ↔ isDig c = true := by
  unfold isDig
  simp
  omega
theorem mem_wc {c : Nat} : c ∈ lettersL ++ signsL ↔ isWC c = true := by
  unfold isWC
  rw [List.mem_append, mem_let]
  have : c ∈ signsL ↔ (isDig c = true ∨ c = 45 ∨ c = 58) := by
    rw [← mem_dig]
    simp [signsL]
    omega
  rw [this]
  simp
  cases isLet c <;> simp
  cases isDig c <;> simp
theorem v_inL {c : Nat} : inP (.str (S [c])) (.str (S lettersL)) = some (.bl (isLet c)) := by
  rw [v_in]
  congr 2
  rw [Bool.eq_iff_iff, decide_eq_true_iff, mem_let]
theorem v_inW {c : Nat} : inP (.str (S [c])) (.str (S (lettersL ++ signsL))) = some (.bl (isWC c)) := by
  rw [v_in]
  congr 2
  rw [Bool.eq_iff_iff, decide_eq_true_iff, mem_wc]
theorem v_inD {c : Nat} : inP (.str (S [c])) (.str (S [48, 49, 50, 51, 52, 53, 54, 55, 56, 57])) = some (.bl (isDig c)) := by
  rw [v_in]
  congr 2
  rw [Bool.eq_iff_iff, decide_eq_true_iff, mem_dig]
theorem v_lenS {s : Sto} {l : List Nat} (h : l.length ≤ sizeLine) : lenF [.str (S l)] s = .ok (.int l.length) s := by
  show (if (S l).length ≤ sizeLine then R.ok (D.int (S l).length) s else .bad) = _
  rw [S_len, if_pos h]
theorem atI_head {α : Type} {x : α} {l : List α} : atI (x :: l) 0 = some x := atI_zero
theorem f_goes {t : Nat} {r : List Nat} {c : Nat} {s : Sto} (hl : r.length ≤ 1000) : F_goes_on [.str (S (t :: r)), .str (S [c])] s = .ok (.bl (goesOn (t :: r) c)) s := by
  refine fn_run rfl ?_ (Nat.le_refl _)
  unfold b_goes_on startD
  rw [s_letters, s_wchars, s_digits, s_0, s_m]
  have sz : sizeLine = 16777216 := rfl
  have z : (t :: r).length ≤ sizeLine := by rw [List.length_cons]; omega
  have e1 : ixS (.str (S (t :: r))) (.int 0) s = some (.str (S [t])) := by
    rw [v_ixStr z, atI_head]; rfl
  have e2 : rmpP (S (t :: r)) (.str (S [45])) = some (.str (Txt.removeprefix (S (t :: r)) (S [45]))) := by
    show (if (S (t :: r)).length ≤ sizeLine then some (D.str (Txt.removeprefix (S (t :: r)) (S [45]))) else none) = _
    rw [S_len, if_pos z]
  have e3 : lenF [.str (Txt.removeprefix (S (t :: r)) (S [45]))] s = .ok (.int ((if t = 45 then r.length else r.length + 1 : Nat) : Int)) s := by
    show (if (Txt.removeprefix (S (t :: r)) (S [45])).length ≤ sizeLine then R.ok (D.int (Txt.removeprefix (S (t :: r)) (S [45])).length) s else .bad) = _
    have e : (Txt.removeprefix (S (t :: r)) (S [45])).length = (if t = 45 then r.length else r.length + 1) := by
      rw [rmp_len]
      by_cases h : t = 45
      · subst h; simp
      · simp [h]
    rw [e, if_pos]
    split <;> omega
  have e4 := v_lenS (s := s) z
  have go : ∀ x : Str, (S (t :: r) = x) = (t :: r = TL.tl x) := fun x => propext ⟨fun h => by rw [← h], fun h => by rw [h, show S (TL.tl x) = x from TL.mk_tl x]⟩
  generalize hT : S (t :: r) = T at *
  have g1 : (T = S [45]) = (t :: r = [45]) := go _
  have g2 : (T = S [48]) = (t :: r = [48]) := go _
  obtain ⟨w, hw⟩ : ∃ w : Nat, w = if t = 45 then r.length else r.length + 1 := ⟨_, rfl⟩
  rw [goesOn_cons]
  rw [← hw] at e3 ⊢
  cases q1 : isLet t
  · by_cases q3 : t :: r = [45]
    · cases q2 : isDig c <;> simp [-Str.mk.injEq, -List.cons.injEq, g1, e1, v_inL, v_inD, q1, q2, q3]
    · by_cases q4 : t :: r = [48]
      · have n48 : ¬ ([48] : List Nat) = [45] := by decide
        simp [-Str.mk.injEq, -List.cons.injEq, g1, g2, e1, v_inL, v_inD, q1, q3, q4, n48]
      · cases q2 : isDig c
        · simp [-Str.mk.injEq, -List.cons.injEq, g1, g2, e1, v_inL, v_inD, q1, q2, q3, q4]
        · simp [-Str.mk.injEq, -List.cons.injEq, g1, g2, e1, v_inL, v_inD, q1, q2, q3, q4, e2, e3]
          omega
  · cases q2 : isWC c
    · simp [-Str.mk.injEq, e1, v_inL, v_inW, q1, q2]
    · simp [-Str.mk.injEq, e1, v_inL, v_inW, q1, q2, e4]
      omega
/-! ### what a token stands for -/
def tokN : List Nat → D
  | [] => .non
  | t :: r => if t :: r = [45] then .non else if isLet t = true then .str (S (t :: r)) else match intText? (S (t :: r)) with
    | some n => .int n
    | none => .non
theorem tokN_cons {t : Nat} {r : List Nat} : tokN (t :: r) = if t :: r = [45] then .non else if isLet t = true then .str (S (t :: r)) else match intText? (S (t :: r)) with
    | some n => .int n
    | none => .non := rfl
theorem f_tok {t : Nat} {r : List Nat} {s : Sto} (hl : r.length ≤ 600) (hi : t :: r = [45] ∨ isLet t = true ∨ (intText? (S (t :: r))).isSome) : F_token_note [.str (S (t :: r))] s = .ok (tokN (t :: r)) s := by
  refine fn_run rfl ?_ (Nat.le_refl _)
  unfold b_token_note startD
  rw [s_letters, s_m]
  have sz : sizeLine = 16777216 := rfl
  have z : (t :: r).length ≤ sizeLine := by rw [List.length_cons]; omega
  have e1 : ixS (.str (S (t :: r))) (.int 0) s = some (.str (S [t])) := by
    rw [v_ixStr z, atI_head]; rfl
  have go : ∀ x : Str, (S (t :: r) = x) = (t :: r = TL.tl x) := fun x => propext ⟨fun h => by rw [← h], fun h => by rw [h, show S (TL.tl x) = x from TL.mk_tl x]⟩
  have hl2 : (S (t :: r)).length ≤ 640 := by rw [S_len, List.length_cons]; omega
  rw [tokN_cons]
  generalize hT : S (t :: r) = T at *
  have g1 : (T = S [45]) = (t :: r = [45]) := go _
  by_cases q3 : t :: r = [45]
  · simp [-Str.mk.injEq, -List.cons.injEq, g1, q3]
  · cases q1 : isLet t
    · cases q5 : intText? T with
      | none => rw [q5] at hi; simp [q3, q1] at hi
      | some n =>
        have e2 : intF [.str T] s = .ok (.int n) s := by
          show (match intText? T with
            | some n => if T.length ≤ 640 then R.ok (D.int n) s else .bad
            | none => .bad) = _
          rw [q5]
          exact if_pos hl2
        simp [-Str.mk.injEq, -List.cons.injEq, g1, e1, v_inL, q1, q3, e2]
    · simp [-Str.mk.injEq, -List.cons.injEq, g1, e1, v_inL, q1, q3]
/-! ### the tokens of a note -/
theorem let_of {c : Nat} (h : 97 ≤ c ∧ c ≤ 122) : isLet c = true := by unfold isLet; simp [h.1, h.2]
theorem dig_of {c : Nat} (h : 48 ≤ c ∧ c ≤ 57) : isDig c = true := by unfold isDig; simp [h.1, h.2]
theorem let_no {c : Nat} (h : c < 97) : isLet c = false := by unfold isLet; simp; omega
theorem tok_word {l : List Nat} (h : Wd l) : tokN l = .str (S l) := by
  obtain ⟨c, r, rfl, h1, h2, h3⟩ := h
  rw [tokN_cons]
  have e : ¬ (c :: r = [45]) := by simp; omega
  rw [if_neg e, if_pos (let_of h1)]
theorem numL_head (n : Nat) : ∃ c r, TL.numL n = c :: r ∧ (48 ≤ c ∧ c ≤ 57) ∧ (0 < n → c ≠ 48) := by
  induction n using Nat.strongRecOn with
  | _ n ih =>
    by_cases h : n < 10
    · exact ⟨48 + n, [], TL.numL_lt h, by omega, by omega⟩
    · obtain ⟨c, r, e, h1, h2⟩ := ih (n / 10) (by omega)
      refine ⟨c, r ++ [48 + n % 10], ?_, h1, fun _ => h2 (by omega)⟩
      rw [TL.numL_step (by omega), e]; rfl
theorem numL_len200 {n : Nat} (h : n < 10 ^ 200) : (TL.numL n).length ≤ 200 := TL.numL_len (by decide) h
theorem numL_zero : TL.numL 0 = [48] := TL.numL_lt (by decide)
theorem intText_L {i : Int} (h : i.natAbs < 10 ^ 200) : intText? (S (numS i)) = some i := by
  have hl := numL_len200 h
  unfold numS
  by_cases q : i < 0
  · rw [if_pos q]
    have e := intText_neg (x := S (45 :: TL.numL i.natAbs)) rfl (TL.numL_digits _) (TL.numL_ne _) (by rw [S_len, List.length_cons]; omega)
    rw [e, TL.numL_val]
    congr 1
    omega
  · rw [if_neg q]
    have e := intText_digits (x := S (TL.numL i.natAbs)) (TL.numL_digits _) (TL.numL_ne _) (by rw [S_len]; omega)
    rw [e]
    show some (((NumText.digitsVal (TL.numL i.natAbs) : Nat)) : Int) = _
    rw [TL.numL_val]
    congr 1
    omega
theorem intL_head (i : Int) : ∃ c r, numS i = c :: r ∧ (c = 45 ∨ (48 ≤ c ∧ c ≤ 57)) ∧ c :: r ≠ [45] := by
  obtain ⟨c, r, e, h1, h2⟩ := numL_head i.natAbs
  unfold numS
  split
  · exact ⟨45, _, rfl, .inl rfl, by rw [e]; simp⟩
  · exact ⟨c, r, e, .inr h1, by simp; omega⟩
theorem tok_int {i : Int} (h : i.natAbs < 10 ^ 200) : tokN (numS i) = .int i := by
  have e := intText_L h
  obtain ⟨c, r, e1, h1, h2⟩ := intL_head i
  rw [e1] at e ⊢
  rw [tokN_cons]
  rw [e, if_neg h2, if_neg]
  · rw [let_no (by omega)]; simp
end K97

set_option Elab.async false
set_option linter.all false
set_option autoImplicit false
set_option maxRecDepth 100000
set_option maxHeartbeats 4000000
set_option exponentiation.threshold 5000
/-! P10: read_note, sign by sign. -/
namespace K97
open PySem PySem.Spec PyProof.Rows L2 FL
open SX
theorem s_token : ("token" : Str) = S [116, 111, 107, 101, 110] := by decide +kernel
theorem s_item : ("item" : Str) = S [105, 116, 101, 109] := by decide +kernel
theorem s_space : ("space" : Str) = S [115, 112, 97, 99, 101] := by decide +kernel
theorem s_bracket : ("bracket" : Str) = S [98, 114, 97, 99, 107, 101, 116] := by decide +kernel
theorem s_start : ("start" : Str) = S [115, 116, 97, 114, 116] := by decide +kernel
theorem s_spcl : (" )" : Str) = S [32, 41] := by decide +kernel
theorem s_emp : ("" : Str) = S [] := by decide +kernel
/-- where the reading stands -/
inductive La where
  | start | token | item | bracket | space
def La.l : La → List Nat
  | .start => [115, 116, 97, 114, 116]
  | .token => [116, 111, 107, 101, 110]
  | .item => [105, 116, 101, 109]
  | .bracket => [98, 114, 97, 99, 107, 101, 116]
  | .space => [115, 112, 97, 99, 101]
def bodyR : MS := (seqS (setM 6 (op2 gtP (call1 lenF (consA (varM 1) nilA)) (cM (.int 1)))) (ifS (andB (valB (op2 eqP (varM 3) (cM (.str ("token" : Str))))) (valB (callM F_goes_on (consA (varM 2) (consA (varM 5) nilA))))) (setM 2 (op2 addP (varM 2) (varM 5))) (ifS (andB (valB (op2 inP (varM 3) (tupM (consA (cM (.str ("token" : Str))) (consA (cM (.str ("item" : Str))) nilA))))) (andB (valB (varM 6)) (valB (op2 inP (varM 5) (cM (.str (" )" : Str))))))) (seqS (ifS (valB (op2 eqP (varM 3) (cM (.str ("token" : Str))))) (exprM (lmM appF (op2s ixS (varM 1) (op1 negP (cM (.int 1)))) (consA (callM F_token_note (consA (varM 2) nilA)) nilA))) nilS) (seqS (setM 3 (cM (.str ("space" : Str)))) (ifS (valB (op2 eqP (varM 5) (cM (.str (")" : Str))))) (seqS (exprM (callM F_close_row (consA (varM 1) nilA))) (setM 3 (cM (.str ("item" : Str))))) nilS))) (ifS (andB (valB (op2 eqP (varM 3) (cM (.str ("bracket" : Str))))) (valB (op2 eqP (varM 5) (cM (.str (")" : Str)))))) (seqS (exprM (callM F_close_row (consA (varM 1) nilA))) (setM 3 (cM (.str ("item" : Str))))) (ifS (andB (valB (op2 inP (varM 3) (tupM (consA (cM (.str ("start" : Str))) (consA (cM (.str ("bracket" : Str))) (consA (cM (.str ("space" : Str))) nilA)))))) (andB (valB (op2 eqP (varM 5) (cM (.str ("(" : Str))))) (valB (op2 leP (call1 lenF (consA (varM 1) nilA)) (cM (.int 100)))))) (seqS (exprM (lmM appF (varM 1) (consA (lstM nilA) nilA))) (setM 3 (cM (.str ("bracket" : Str))))) (ifS (andB (valB (op2 inP (varM 3) (tupM (consA (cM (.str ("start" : Str))) (consA (cM (.str ("bracket" : Str))) (consA (cM (.str ("space" : Str))) nilA)))))) (valB (op2 inP (varM 5) (cM (.str ("abcdefghijklmnopqrstuvwxyz0123456789-" : Str)))))) (seqS (setM 2 (varM 5)) (setM 3 (cM (.str ("token" : Str))))) (raiseM ("BadNote" : Str) ("subject" : Str) (varM 4))))))))
def gR : GM := (tupG 2 (consG (nameG 4) (consG (nameG 5) nilG)))
def endR : MS := (seqS (ifS (valB (op2 eqP (varM 3) (cM (.str ("token" : Str))))) (exprM (lmM appF (op2s ixS (varM 1) (op1 negP (cM (.int 1)))) (consA (callM F_token_note (consA (varM 2) nilA)) nilA))) nilS) (seqS (ifS (orB (valB (op2 gtP (call1 lenF (consA (varM 1) nilA)) (cM (.int 1)))) (notB (ttM truF (op2s ixS (varM 1) (cM (.int 0)))))) (raiseM ("BadNote" : Str) ("subject" : Str) (call1 lenF (consA (varM 0) nilA))) nilS) (retM (op2s ixS (op2s ixS (varM 1) (cM (.int 0))) (cM (.int 0))))))
theorem read_eq : b_read_note = seqS (setM 1 (lstM (consA (lstM nilA) nilA))) (seqS (setM 2 (cM (.str ("" : Str)))) (seqS (setM 3 (cM (.str ("start" : Str)))) (seqS (forS (enumI (varM 0)) gR bodyR) endR))) := rfl
/-- the state -/
structure PS where
  st : List (List D)
  tok : List Nat
  la : La
/-- the rows in the store -/
structure Hea (b : Sto) (r : Nat) (as : List Nat) (st : List (List D)) (s : Sto) : Prop where
  pre : s.take b.length = b
  rb : b.length ≤ r
  rows : s[r]? = some (.lst (as.reverse.map .obj))
  its : F2 (fun a items => s[a]? = some (.lst items)) as st
  off : ∀ a ∈ as, b.length ≤ a ∧ a ≠ r
  nd : as.Nodup
section
variable {b s : Sto} {r a a2 : Nat} {as : List Nat} {st : List (List D)} {row row2 : List D} {d : D}
theorem take_set {s : Sto} {n i : Nat} {o : O} (h : n ≤ i) : (s.set i o).take n = s.take n := by
  rw [List.take_set_of_le h]
theorem f2_set {s : Sto} {i : Nat} {o : O} : ∀ {as : List Nat} {st : List (List D)}, F2 (fun a items => s[a]? = some (.lst items)) as st → i ∉ as → F2 (fun a items => (s.set i o)[a]? = some (.lst items)) as st
  | _, _, .nil, _ => .nil
  | _, _, .cons h t, n => .cons (by rw [List.getElem?_set_ne (fun e => n (by rw [e]; exact List.mem_cons_self))]; exact h) (f2_set t fun z => n (List.mem_cons_of_mem _ z))
theorem f2_push {s : Sto} {o : O} : ∀ {as : List Nat} {st : List (List D)}, F2 (fun a items => s[a]? = some (.lst items)) as st → F2 (fun a items => (s ++ [o])[a]? = some (.lst items)) as st
  | _, _, .nil => .nil
  | _, _, .cons h t => .cons (by rw [List.getElem?_append_left (List.getElem?_eq_some_iff.mp h).1]; exact h) (f2_push t)
theorem f2_lt {s : Sto} : ∀ {as : List Nat} {st : List (List D)}, F2 (fun a items => s[a]? = some (.lst items)) as st → ∀ a ∈ as, a < s.length
  | _, _, .nil, a, h => absurd h (by simp)
  | _, _, .cons h t, a, hm => by
    rcases List.mem_cons.mp hm with rfl | hm
    · exact (List.getElem?_eq_some_iff.mp h).1
    · exact f2_lt t a hm
theorem Hea.top (h : Hea b r (a :: as) (row :: st) s) : s[a]? = some (.lst row) := by
  cases h.its with
  | cons h t => exact h
theorem Hea.app (h : Hea b r (a :: as) (row :: st) s) : Hea b r (a :: as) ((row ++ [d]) :: st) (s.set a (.lst (row ++ [d]))) := by
  have ha := h.off a (List.mem_cons_self ..)
  have hn := List.nodup_cons.mp h.nd
  have hl := (List.getElem?_eq_some_iff.mp h.top).1
  refine ⟨by rw [take_set ha.1]; exact h.pre, h.rb, by rw [List.getElem?_set_ne ha.2]; exact h.rows, ?_, h.off, h.nd⟩
  cases h.its with
  | cons h1 t => exact .cons (by rw [List.getElem?_set_self hl]) (f2_set t hn.1)
theorem Hea.pop (h : Hea b r (a :: as) (row :: st) s) : Hea b r as st (s.set r (.lst (as.reverse.map .obj))) := by
  have hl := (List.getElem?_eq_some_iff.mp h.rows).1
  refine ⟨by rw [take_set h.rb]; exact h.pre, h.rb, by rw [List.getElem?_set_self hl], ?_, fun x hx => h.off x (List.mem_cons_of_mem _ hx), (List.nodup_cons.mp h.nd).2⟩
  cases h.its with
  | cons h1 t => exact f2_set t fun z => (h.off r (List.mem_cons_of_mem _ z)).2 rfl
theorem Hea.push (h : Hea b r as st s) : Hea b r (s.length :: as) ([] :: st) ((s ++ [O.lst []]).set r (O.lst (as.reverse.map D.obj ++ [D.obj s.length]))) := by
  have hl := (List.getElem?_eq_some_iff.mp h.rows).1
  have hl2 := f2_lt h.its
  have hb : b.length ≤ s.length := by have := h.rb; omega
  refine ⟨?_, h.rb, ?_, ?_, ?_, ?_⟩
  · rw [take_set h.rb, List.take_append_of_le_length hb]; exact h.pre
  · rw [List.getElem?_set_self (by simp; omega)]; simp
  · refine .cons ?_ (f2_set (f2_push h.its) fun z => (h.off r z).2 rfl)
    rw [List.getElem?_set_ne (by omega)]; simp
  · intro x hx
    rcases List.mem_cons.mp hx with rfl | hx
    · exact ⟨hb, by omega⟩
    · exact h.off x hx
  · exact List.nodup_cons.mpr ⟨fun z => absurd (hl2 _ z) (by omega), h.nd⟩
theorem Hea.last (h : Hea b r (a :: as) (row :: st) s) : ixS (.obj r) (.int (-1)) s = some (.obj a) := by
  rw [v_ixO h.rows]
  unfold atI ixN
  have e : (-1 + ((as.length : Int) + 1)).toNat = as.length := by omega
  have e2 : (1 : Int) ≤ (as.length : Int) + 1 := by omega
  simp [e, e2]
theorem Hea.len (h : Hea b r as st s) : lenF [.obj r] s = .ok (.int st.length) s := by
  have e : lenF [.obj r] s = match itemsS (.obj r) s with
    | some ds => .ok (.int ds.length) s
    | none => .bad := by unfold lenF; rfl
  have e2 : itemsS (.obj r) s = some (as.reverse.map .obj) := by simp only [itemsS, h.rows]
  rw [e, e2]
  simp [h.its.len]
end
def popA (o : Option (Nat × List D)) (s : Sto) : R D := match o with
  | some (i, ds) => (match ds[ds.length - 1]? with
    | some y => .ok y (s.set i (.lst ds.dropLast))
    | none => .bad)
  | none => .bad
@[simp] theorem popA_go {i : Nat} {ds : List D} {y : D} {s : Sto} : popA (some (i, ds ++ [y])) s = .ok y (s.set i (.lst ds)) := by
  simp [popA]
theorem popA_go2 {i : Nat} {ds : List D} {x y : D} {s : Sto} : popA (some (i, ds ++ [x, y])) s = .ok y (s.set i (.lst (ds ++ [x]))) := by
  have e : ds ++ [x, y] = (ds ++ [x]) ++ [y] := by simp
  rw [e, popA_go]
def kPop : D → Sto → R D := fun x s => popA (lstAt x s) s
@[simp] theorem kPop_app {x : D} {s : Sto} : kPop x s = popA (lstAt x s) s := (rfl)
@[simp] theorem x_pop {mo : M} {τ : Env'} {s : Sto} : popM mo τ s = (mo τ s).bind kPop := by
  unfold popM kPop popA
  rfl
/-- sizes -/
def Few (st : List (List D)) : Prop := ∀ row ∈ st, row.length < 1000000
theorem f_close {b s : Sto} {r a a2 : Nat} {as : List Nat} {st : List (List D)} {row row2 : List D} (h : Hea b r (a :: a2 :: as) (row :: row2 :: st) s) (hw : row2.length < 1000000) :
    ∃ s', F_close_row [.obj r] s = .ok .non s' ∧ Hea b r (a2 :: as) ((row2 ++ [.tup row]) :: st) s' := by
  have h1 := h.pop
  have ha := h.off a (List.mem_cons_self ..)
  have e1 : (s.set r (.lst ((a2 :: as).reverse.map .obj)))[a]? = some (.lst row) := by rw [List.getElem?_set_ne (fun e => ha.2 e.symm)]; exact h.top
  refine ⟨_, fn_run rfl ?_ ?_, h1.app (d := .tup row)⟩
  · unfold b_close_row startD
    have e2 := v_at h.rows
    have e3 := h1.last
    have e4 := v_at h1.top
    have sz : sizeLine = 16777216 := rfl
    have e5 : row2.length < sizeLine := by omega
    have e6 := v_tupO e1
    simp at e2 e3 e4 e6
    simp [e2, e3, e4, e6, v_app e5, popA_go2]
  · simp
/-! ### one sign -/
theorem v_in2 {x y z : List Nat} : inP (.str (S x)) (.tup [.str (S y), .str (S z)]) = some (.bl (decide (x = y) || decide (x = z))) := by
  have e : inP (.str (S x)) (.tup [.str (S y), .str (S z)]) = some (.bl (inV (.str (S x)) [.str (S y), .str (S z)])) := rfl
  rw [e]
  unfold inV
  simp [eqV, Bool.beq_eq_decide_eq, eq_comm]
theorem v_in3 {x y z w : List Nat} : inP (.str (S x)) (.tup [.str (S y), .str (S z), .str (S w)]) = some (.bl (decide (x = y) || (decide (x = z) || decide (x = w)))) := by
  have e : inP (.str (S x)) (.tup [.str (S y), .str (S z), .str (S w)]) = some (.bl (inV (.str (S x)) [.str (S y), .str (S z), .str (S w)])) := rfl
  rw [e]
  unfold inV
  simp [eqV, Bool.beq_eq_decide_eq, eq_comm]
theorem two_le : 2 ≤ sizeLine := by decide
theorem three_le : 3 ≤ sizeLine := by decide
theorem zero_le : 0 ≤ sizeLine := by decide
theorem v_inSp {c : Nat} : inP (.str (S [c])) (.str (S [32, 41])) = some (.bl (decide (c = 32) || decide (c = 41))) := by
  rw [v_in]
  congr 2
  rw [Bool.eq_iff_iff]
  simp
def isFirst (c : Nat) : Bool := isLet c || isDig c || c == 45
theorem v_inF {c : Nat} : inP (.str (S [c])) (.str (S (lettersL ++ [48, 49, 50, 51, 52, 53, 54, 55, 56, 57, 45]))) = some (.bl (isFirst c)) := by
  rw [v_in]
  congr 2
  rw [Bool.eq_iff_iff, decide_eq_true_iff, List.mem_append, mem_let]
  unfold isFirst
  have : c ∈ [48, 49, 50, 51, 52, 53, 54, 55, 56, 57, 45] ↔ (isDig c = true ∨ c = 45) := by
    rw [← mem_dig]; simp; omega
  rw [this]
  cases isLet c <;> simp
abbrev frame (t : List Nat) (r : Nat) (tok : List Nat) (la : La) (o4 o5 o6 : Option D) : Env' := [some (.str (S t)), some (.obj r), some (.str (S tok)), some (.str (S la.l)), o4, o5, o6]
section
variable {b s : Sto} {r n c t0 : Nat} {as t tk : List Nat} {st : List (List D)} {o6 : Option D}
theorem b_tok (h : Hea b r as st s) (hg : goesOn (t0 :: tk) c = true) (hl : tk.length ≤ 1000) :
    bodyR (frame t r (t0 :: tk) .token (some (.int n)) (some (.str (S [c]))) o6) s = .nx (frame t r (t0 :: tk ++ [c]) .token (some (.int n)) (some (.str (S [c]))) (some (.bl (decide (1 < (st.length : Int)))))) s := by
  unfold bodyR frame
  rw [s_token, s_item, s_space, s_bracket, s_start, s_spcl, s_cl, s_op, s_first]
  have sz : sizeLine = 16777216 := rfl
  have e1 : addP (.str (S (t0 :: tk))) (.str (S [c])) = some (.str (S (t0 :: tk ++ [c]))) := v_cat (by rw [List.length_cons, List.length_singleton]; omega)
  simp [h.len, La.l, f_goes hl, hg, e1]
theorem b_open {tok : List Nat} {la : La} (h : Hea b r as st s) (hla : la = .start ∨ la = .bracket ∨ la = .space) (hst : st.length ≤ 100) :
    bodyR (frame t r tok la (some (.int n)) (some (.str (S [40]))) o6) s = .nx (frame t r tok .bracket (some (.int n)) (some (.str (S [40]))) (some (.bl (decide (1 < (st.length : Int)))))) ((s ++ [O.lst []]).set r (O.lst (as.reverse.map D.obj ++ [D.obj s.length]))) := by
  unfold bodyR frame
  rw [s_token, s_item, s_space, s_bracket, s_start, s_spcl, s_cl, s_op, s_first]
  have sz : sizeLine = 16777216 := rfl
  have e1 := v_at h.rows
  have hl := h.its.len
  have hb := (List.getElem?_eq_some_iff.mp h.rows).1
  have e2 : lstAt (.obj r) (s ++ [O.lst []]) = some (r, as.reverse.map .obj) := v_at (by rw [List.getElem?_append_left hb]; exact h.rows)
  have e3 : (as.reverse.map D.obj).length < sizeLine := by simp; omega
  have e4 : ∀ y, appF r (as.reverse.map D.obj) [y] (s ++ [O.lst []]) = .ok .non ((s ++ [O.lst []]).set r (O.lst (as.reverse.map D.obj ++ [y]))) := fun y => v_app e3
  simp at e1 e2 e4
  have hst2 : (st.length : Int) ≤ 100 := by omega
  rcases hla with rfl | rfl | rfl <;> simp [h.len, La.l, v_in2, v_in3, v_inSp, two_le, three_le, zero_le, e1, e2, e4, hst2]
theorem b_first {tok : List Nat} {la : La} (h : Hea b r as st s) (hla : la = .start ∨ la = .bracket ∨ la = .space) (hc : isFirst c = true) :
    bodyR (frame t r tok la (some (.int n)) (some (.str (S [c]))) o6) s = .nx (frame t r [c] .token (some (.int n)) (some (.str (S [c]))) (some (.bl (decide (1 < (st.length : Int)))))) s := by
  unfold bodyR frame
  rw [s_token, s_item, s_space, s_bracket, s_start, s_spcl, s_cl, s_op, s_first]
  have c1 : ¬ c = 40 := by rintro rfl; revert hc; decide
  have c2 : ¬ c = 41 := by rintro rfl; revert hc; decide
  rcases hla with rfl | rfl | rfl <;> simp [h.len, La.l, v_in2, v_in3, v_inSp, v_inF, two_le, three_le, zero_le, c1, c2, hc]
/-- a token that can end here -/
def TokOk (t0 : Nat) (tk : List Nat) : Prop := tk.length ≤ 600 ∧ (t0 :: tk = [45] ∨ isLet t0 = true ∨ (intText? (S (t0 :: tk))).isSome)
theorem b_sp_tok {a : Nat} {row : List D} (h : Hea b r (a :: as) (row :: st) s) (h2 : 1 ≤ st.length) (hk : TokOk t0 tk) (hg : goesOn (t0 :: tk) 32 = false) (hw : row.length < 1000000) :
    ∃ s' o6', bodyR (frame t r (t0 :: tk) .token (some (.int n)) (some (.str (S [32]))) o6) s = .nx (frame t r (t0 :: tk) .space (some (.int n)) (some (.str (S [32]))) o6') s' ∧ Hea b r (a :: as) ((row ++ [tokN (t0 :: tk)]) :: st) s' := by
  refine ⟨_, some (.bl true), ?_, h.app (d := tokN (t0 :: tk))⟩
  unfold bodyR frame
  rw [s_token, s_item, s_space, s_bracket, s_start, s_spcl, s_cl, s_op, s_first]
  have sz : sizeLine = 16777216 := rfl
  have hw2 : row.length < sizeLine := by omega
  have e0 := h.len
  have hi : decide (1 < (((row :: st).length : Nat) : Int)) = true := decide_eq_true (by rw [List.length_cons]; omega)
  generalize (row :: st).length = m at e0 hi
  have hi2 : (1 : Int) < (m : Int) := of_decide_eq_true hi
  simp [e0, hi2, La.l, f_goes (show tk.length ≤ 1000 by have := hk.1; omega), hg, v_in2, v_inSp, two_le, h.last, v_at h.top, f_tok hk.1 hk.2, v_app hw2]
theorem b_sp_item (h : Hea b r as st s) (h2 : 2 ≤ st.length) {tok : List Nat} :
    ∃ o6', bodyR (frame t r tok .item (some (.int n)) (some (.str (S [32]))) o6) s = .nx (frame t r tok .space (some (.int n)) (some (.str (S [32]))) o6') s := by
  refine ⟨some (.bl true), ?_⟩
  unfold bodyR frame
  rw [s_token, s_item, s_space, s_bracket, s_start, s_spcl, s_cl, s_op, s_first]
  have hi2 : (1 : Int) < (st.length : Int) := by omega
  simp [h.len, hi2, La.l, v_in2, v_inSp, two_le]
theorem b_cl_tok {a a2 : Nat} {row row2 : List D} (h : Hea b r (a :: a2 :: as) (row :: row2 :: st) s) (hk : TokOk t0 tk) (hg : goesOn (t0 :: tk) 41 = false) (hw : row.length < 1000000) (hw2 : row2.length < 1000000) :
    ∃ s' o6', bodyR (frame t r (t0 :: tk) .token (some (.int n)) (some (.str (S [41]))) o6) s = .nx (frame t r (t0 :: tk) .item (some (.int n)) (some (.str (S [41]))) o6') s' ∧ Hea b r (a2 :: as) ((row2 ++ [.tup (row ++ [tokN (t0 :: tk)])]) :: st) s' := by
  obtain ⟨s', e, h'⟩ := f_close (h.app (d := tokN (t0 :: tk))) hw2
  refine ⟨s', some (.bl true), ?_, h'⟩
  unfold bodyR frame
  rw [s_token, s_item, s_space, s_bracket, s_start, s_spcl, s_cl, s_op, s_first]
  have sz : sizeLine = 16777216 := rfl
  have hw2 : row.length < sizeLine := by omega
  have e0 := h.len
  have hi : decide (1 < (((row :: row2 :: st).length : Nat) : Int)) = true := decide_eq_true (by rw [List.length_cons, List.length_cons]; omega)
  generalize (row :: row2 :: st).length = m at e0 hi
  have hi2 : (1 : Int) < (m : Int) := of_decide_eq_true hi
  simp [e0, hi2, La.l, f_goes (show tk.length ≤ 1000 by have := hk.1; omega), hg, v_in2, v_inSp, two_le, h.last, v_at h.top, f_tok hk.1 hk.2, v_app hw2, e]
theorem b_cl_item {a a2 : Nat} {row row2 : List D} (h : Hea b r (a :: a2 :: as) (row :: row2 :: st) s) (hw2 : row2.length < 1000000) {tok : List Nat} :
    ∃ s' o6', bodyR (frame t r tok .item (some (.int n)) (some (.str (S [41]))) o6) s = .nx (frame t r tok .item (some (.int n)) (some (.str (S [41]))) o6') s' ∧ Hea b r (a2 :: as) ((row2 ++ [.tup row]) :: st) s' := by
  obtain ⟨s', e, h'⟩ := f_close h hw2
  refine ⟨s', some (.bl true), ?_, h'⟩
  unfold bodyR frame
  rw [s_token, s_item, s_space, s_bracket, s_start, s_spcl, s_cl, s_op, s_first]
  have e0 := h.len
  have hi : decide (1 < (((row :: row2 :: st).length : Nat) : Int)) = true := decide_eq_true (by rw [List.length_cons, List.length_cons]; omega)
  generalize (row :: row2 :: st).length = m at e0 hi
  have hi2 : (1 : Int) < (m : Int) := of_decide_eq_true hi
  simp [e0, hi2, La.l, v_in2, v_inSp, two_le, e]
theorem b_cl_br {a a2 : Nat} {row row2 : List D} (h : Hea b r (a :: a2 :: as) (row :: row2 :: st) s) (hw2 : row2.length < 1000000) {tok : List Nat} :
    ∃ s' o6', bodyR (frame t r tok .bracket (some (.int n)) (some (.str (S [41]))) o6) s = .nx (frame t r tok .item (some (.int n)) (some (.str (S [41]))) o6') s' ∧ Hea b r (a2 :: as) ((row2 ++ [.tup row]) :: st) s' := by
  obtain ⟨s', e, h'⟩ := f_close h hw2
  refine ⟨s', some (.bl true), ?_, h'⟩
  unfold bodyR frame
  rw [s_token, s_item, s_space, s_bracket, s_start, s_spcl, s_cl, s_op, s_first]
  have e0 := h.len
  have hi : decide (1 < (((row :: row2 :: st).length : Nat) : Int)) = true := decide_eq_true (by rw [List.length_cons, List.length_cons]; omega)
  generalize (row :: row2 :: st).length = m at e0 hi
  have hi2 : (1 : Int) < (m : Int) := of_decide_eq_true hi
  simp [e0, hi2, La.l, v_in2, v_inSp, two_le, e]
def kRai (C f : Str) (τ : Env') : D → Sto → RS := fun d s => .exc C [(f, d)] τ s
@[simp] theorem kRai_app {C f : Str} {τ : Env'} {d : D} {s : Sto} : kRai C f τ d s = .exc C [(f, d)] τ s := (rfl)
@[simp] theorem x_raise {C f : Str} {m : M} {τ : Env'} {s : Sto} : raiseM C f m τ s = (m τ s).toS τ (kRai C f τ) := (rfl)
/-- a sign behind a whole note -/
theorem b_more (h : Hea b r as st s) (h2 : st.length = 1) {tok : List Nat} (hc : c = 41 ∨ c = 32) :
    ∃ o6', bodyR (frame t r tok .item (some (.int n)) (some (.str (S [c]))) o6) s = .exc "BadNote" [("subject", .int n)] (frame t r tok .item (some (.int n)) (some (.str (S [c]))) o6') s := by
  refine ⟨some (.bl false), ?_⟩
  unfold bodyR frame
  rw [s_token, s_item, s_space, s_bracket, s_start, s_spcl, s_cl, s_op, s_first]
  have e0 := h.len
  rw [h2] at e0
  simp [e0, La.l, v_in2, v_in3, v_inSp, two_le, three_le]
end
end K97

set_option Elab.async false
set_option linter.all false
set_option autoImplicit false
set_option maxRecDepth 100000
set_option maxHeartbeats 4000000
set_option exponentiation.threshold 5000
/-! P11: a note's text is read back. -/
namespace K97
open PySem PySem.Spec PyProof.Rows L2 FL
open SX
theorem enumL_app : ∀ (n : Nat) (l1 l2 : List Nat), enumL n (l1 ++ l2) = enumL n l1 ++ enumL (n + l1.length) l2
  | n, [], l2 => rfl
  | n, c :: l1, l2 => by
    show _ :: enumL (n + 1) (l1 ++ l2) = _ :: (enumL (n + 1) l1 ++ enumL (n + (l1.length + 1)) l2)
    rw [enumL_app (n + 1) l1 l2, show n + 1 + l1.length = n + (l1.length + 1) by omega]
/-- the signs cs lead from P to P' -/
def Run (b : Sto) (t : List Nat) (r : Nat) (P : PS) (cs : List Nat) (P' : PS) : Prop := ∀ (as : List Nat) (n : Nat) (o4 o5 o6 : Option D) (s : Sto), Hea b r as P.st s →
  ∃ as' o4' o5' o6' s', Hea b r as' P'.st s' ∧ ∀ l2, forL gR bodyR (enumL n cs ++ l2) (frame t r P.tok P.la o4 o5 o6) s = forL gR bodyR l2 (frame t r P'.tok P'.la o4' o5' o6') s'
section
variable {b : Sto} {t : List Nat} {r : Nat} {P P' P'' : PS} {cs cs' : List Nat} {c : Nat} {st : List (List D)}
theorem Run.nil : Run b t r P [] P := fun as n o4 o5 o6 s h => ⟨as, o4, o5, o6, s, h, fun _ => rfl⟩
theorem Run.app (h1 : Run b t r P cs P') (h2 : Run b t r P' cs' P'') : Run b t r P (cs ++ cs') P'' := fun as n o4 o5 o6 s h => by
  obtain ⟨as1, p4, p5, p6, s1, k1, e1⟩ := h1 as n o4 o5 o6 s h
  obtain ⟨as2, q4, q5, q6, s2, k2, e2⟩ := h2 as1 (n + cs.length) p4 p5 p6 s1 k1
  refine ⟨as2, q4, q5, q6, s2, k2, fun l2 => ?_⟩
  rw [enumL_app, List.append_assoc, e1, e2]
theorem one_go {n : Nat} {tok : List Nat} {la : La} {o4 o5 o6 : Option D} {s s' : Sto} {τ' : Env'} {l2 : List D} (h : bodyR (frame t r tok la (some (.int n)) (some (.str (S [c]))) o6) s = .nx τ' s') :
    forL gR bodyR (enumL n [c] ++ l2) (frame t r tok la o4 o5 o6) s = forL gR bodyR l2 τ' s' := by
  show (bodyR (frame t r tok la (some (.int n)) (some (.str (S [c]))) o6) s).loop (forL gR bodyR l2) = _
  rw [h]
  rfl
theorem one_exc {n : Nat} {tok : List Nat} {la : La} {o4 o5 o6 : Option D} {s s' : Sto} {τ' : Env'} {C : Str} {fs : List (Str × D)} {l2 : List D} (h : bodyR (frame t r tok la (some (.int n)) (some (.str (S [c]))) o6) s = .exc C fs τ' s') :
    forL gR bodyR (enumL n [c] ++ l2) (frame t r tok la o4 o5 o6) s = .exc C fs τ' s' := by
  show (bodyR (frame t r tok la (some (.int n)) (some (.str (S [c]))) o6) s).loop (forL gR bodyR l2) = _
  rw [h]
  rfl
theorem run_tok1 {t0 : Nat} {tk : List Nat} (hg : goesOn (t0 :: tk) c = true) (hl : tk.length ≤ 1000) : Run b t r ⟨st, t0 :: tk, .token⟩ [c] ⟨st, t0 :: tk ++ [c], .token⟩ := fun as n o4 o5 o6 s h =>
  ⟨as, _, _, _, s, h, fun l2 => one_go (b_tok h hg hl)⟩
theorem run_open {tok : List Nat} {la : La} (hla : la = .start ∨ la = .bracket ∨ la = .space) (hst : st.length ≤ 100) : Run b t r ⟨st, tok, la⟩ [40] ⟨[] :: st, tok, .bracket⟩ := fun as n o4 o5 o6 s h =>
  ⟨_, _, _, _, _, h.push, fun l2 => one_go (b_open h hla hst)⟩
theorem run_first {tok : List Nat} {la : La} (hla : la = .start ∨ la = .bracket ∨ la = .space) (hc : isFirst c = true) : Run b t r ⟨st, tok, la⟩ [c] ⟨st, [c], .token⟩ := fun as n o4 o5 o6 s h =>
  ⟨as, _, _, _, s, h, fun l2 => one_go (b_first h hla hc)⟩
theorem hea_cons {as : List Nat} {row : List D} {s : Sto} (h : Hea b r as (row :: st) s) : ∃ a as', as = a :: as' := by
  cases as with
  | nil => cases h.its
  | cons a as' => exact ⟨a, as', rfl⟩
theorem hea_cons2 {as : List Nat} {row row2 : List D} {s : Sto} (h : Hea b r as (row :: row2 :: st) s) : ∃ a a2 as', as = a :: a2 :: as' := by
  have h1 := h.its
  match as, h1 with
  | [], h1 => cases h1
  | [_], h1 => cases h1 with | cons _ t => cases t
  | a :: a2 :: as', _ => exact ⟨a, a2, as', rfl⟩
/-- a token that stands for d -/
structure Tk (l : List Nat) (d : D) : Prop where
  ex : ∃ t0 tk, l = t0 :: tk ∧ isFirst t0 = true ∧ TokOk t0 tk ∧ ∀ l1 x l2, tk = l1 ++ x :: l2 → goesOn (t0 :: l1) x = true
  sp : goesOn l 32 = false
  cl : goesOn l 41 = false
  val : tokN l = d
theorem run_ext {t0 : Nat} : ∀ (l : List Nat) (tk : List Nat), tk.length + l.length ≤ 1000 → (∀ l1 x l2, l = l1 ++ x :: l2 → goesOn (t0 :: (tk ++ l1)) x = true) → Run b t r ⟨st, t0 :: tk, .token⟩ l ⟨st, t0 :: (tk ++ l), .token⟩
  | [], tk, _, _ => by rw [List.append_nil]; exact Run.nil
  | x :: l, tk, hl, h => by
    rw [List.length_cons] at hl
    have h1 : Run b t r ⟨st, t0 :: tk, .token⟩ [x] ⟨st, t0 :: (tk ++ [x]), .token⟩ := run_tok1 (by have := h [] x l rfl; rwa [List.append_nil] at this) (by omega)
    have h2 := run_ext l (tk ++ [x]) (by simp; omega) fun l1 y l2 e => by
      have := h (x :: l1) y l2 (by rw [e]; rfl)
      rw [List.append_assoc]
      exact this
    have h3 := h1.app h2
    rw [List.append_assoc] at h3
    exact h3
theorem run_tk {l : List Nat} {d : D} {tok : List Nat} {la : La} (hla : la = .start ∨ la = .bracket ∨ la = .space) (k : Tk l d) : Run b t r ⟨st, tok, la⟩ l ⟨st, l, .token⟩ := by
  obtain ⟨t0, tk, rfl, h1, h2, h3⟩ := k.ex
  have z := (run_first (b := b) (t := t) (r := r) (st := st) (tok := tok) hla h1).app (run_ext (t0 := t0) tk [] (by have := h2.1; simp; omega) (by simpa using h3))
  exact z
/-- behind an item: its row, with it at its end; a token is still open -/
def EndI (rw : List D) (st : List (List D)) (P : PS) : Prop := (∃ r0 l d, rw = r0 ++ [d] ∧ P = ⟨r0 :: st, l, .token⟩ ∧ Tk l d) ∨ ∃ tok, P = ⟨rw :: st, tok, .item⟩
theorem run_sp {rw : List D} {P : PS} (h : EndI rw st P) (hst : 1 ≤ st.length) (hl : rw.length < 1000000) : ∃ tok, Run b t r P [32] ⟨rw :: st, tok, .space⟩ := by
  rcases h with ⟨r0, l, d, rfl, rfl, k⟩ | ⟨tok, rfl⟩
  · obtain ⟨t0, tk, rfl, h1, h2, h3⟩ := k.ex
    refine ⟨t0 :: tk, fun as n o4 o5 o6 s h => ?_⟩
    obtain ⟨a, as', rfl⟩ := hea_cons h
    have hl2 : r0.length < 1000000 := by rw [List.length_append] at hl; omega
    obtain ⟨s', o6', e, h'⟩ := b_sp_tok (t := t) (n := n) (o6 := o6) h hst h2 k.sp hl2
    rw [k.val] at h'
    exact ⟨_, _, _, _, s', h', fun l2 => one_go e⟩
  · refine ⟨tok, fun as n o4 o5 o6 s h => ?_⟩
    obtain ⟨o6', e⟩ := b_sp_item (t := t) (n := n) (o6 := o6) (tok := tok) h (by simp; omega)
    exact ⟨_, _, _, _, s, h, fun l2 => one_go e⟩
theorem run_cl {rw row2 : List D} {P : PS} (h : EndI rw (row2 :: st) P) (hl : rw.length < 1000000) (hl2 : row2.length < 1000000) : ∃ tok, Run b t r P [41] ⟨(row2 ++ [.tup rw]) :: st, tok, .item⟩ := by
  rcases h with ⟨r0, l, d, rfl, rfl, k⟩ | ⟨tok, rfl⟩
  · obtain ⟨t0, tk, rfl, h1, h2, h3⟩ := k.ex
    refine ⟨t0 :: tk, fun as n o4 o5 o6 s h => ?_⟩
    obtain ⟨a, a2, as', rfl⟩ := hea_cons2 h
    have hl3 : r0.length < 1000000 := by rw [List.length_append] at hl; omega
    obtain ⟨s', o6', e, h'⟩ := b_cl_tok (t := t) (n := n) (o6 := o6) h h2 k.cl hl3 hl2
    rw [k.val] at h'
    exact ⟨_, _, _, _, s', h', fun l2 => one_go e⟩
  · refine ⟨tok, fun as n o4 o5 o6 s h => ?_⟩
    obtain ⟨a, a2, as', rfl⟩ := hea_cons2 h
    obtain ⟨s', o6', e, h'⟩ := b_cl_item (t := t) (n := n) (o6 := o6) (tok := tok) h hl2
    exact ⟨_, _, _, _, s', h', fun l2 => one_go e⟩
theorem run_br {row2 : List D} {tok : List Nat} (hl2 : row2.length < 1000000) : Run b t r ⟨[] :: row2 :: st, tok, .bracket⟩ [41] ⟨(row2 ++ [.tup []]) :: st, tok, .item⟩ := fun as n o4 o5 o6 s h => by
  obtain ⟨a, a2, as', rfl⟩ := hea_cons2 h
  obtain ⟨s', o6', e, h'⟩ := b_cl_br (t := t) (n := n) (o6 := o6) (tok := tok) h hl2
  exact ⟨_, _, _, _, s', h', fun l2 => one_go e⟩
/-! ### a note's text -/
def AtS (la : La) : Prop := la = .start ∨ la = .bracket ∨ la = .space
def ReadsN (b : Sto) (t : List Nat) (r : Nat) (k : Nat) (d : D) : Prop := ∀ (row : List D) (st : List (List D)) (tok : List Nat) (la : La), AtS la → st.length + 1 + k ≤ 101 → (∀ x ∈ row :: st, x.length < 1000000) → (txt d).length < 1000000 →
  ∃ P', Run b t r ⟨row :: st, tok, la⟩ (txt d) P' ∧ EndI (row ++ [d]) st P'
theorem run_join {k : Nat} : ∀ (ds : List D), ds ≠ [] → (∀ d ∈ ds, ReadsN b t r k d) → ∀ (row row2 : List D) (st : List (List D)) (tok : List Nat) (la : La), AtS la → st.length + 2 + k ≤ 101 → (∀ x ∈ row2 :: st, x.length < 1000000) →
    row.length + sumL (ds.map txt) < 1000000 → ∃ P', Run b t r ⟨row :: row2 :: st, tok, la⟩ (TL.joinL [32] (ds.map txt)) P' ∧ EndI (row ++ ds) (row2 :: st) P'
  | [], h, _, _, _, _, _, _, _, _, _, _ => absurd rfl h
  | [d], _, hd, row, row2, st, tok, la, hla, hst, hx, hs => by
    have e : sumL ([d].map txt) = (txt d).length + 1 := rfl
    rw [e] at hs
    exact hd d (List.mem_singleton.mpr rfl) row (row2 :: st) tok la hla (by rw [List.length_cons]; omega) (fun x hm => (List.mem_cons.mp hm).elim (fun q => by rw [q]; omega) (hx x)) (by omega)
  | d :: e :: ds, _, hd, row, row2, st, tok, la, hla, hst, hx, hs => by
    have es : sumL ((d :: e :: ds).map txt) = (txt d).length + 1 + sumL ((e :: ds).map txt) := rfl
    rw [es] at hs
    obtain ⟨P1, r1, n1⟩ := hd d (List.mem_cons_self ..) row (row2 :: st) tok la hla (by rw [List.length_cons]; omega) (fun x hm => (List.mem_cons.mp hm).elim (fun q => by rw [q]; omega) (hx x)) (by omega)
    have z : 1 ≤ sumL ((e :: ds).map txt) := by
      have : sumL ((e :: ds).map txt) = (txt e).length + 1 + sumL (ds.map txt) := rfl
      omega
    obtain ⟨tok1, r2⟩ := run_sp n1 (by rw [List.length_cons]; omega) (by rw [List.length_append, List.length_singleton]; omega)
    obtain ⟨P', r3, n3⟩ := run_join (e :: ds) (by simp) (fun x hm => hd x (List.mem_cons_of_mem _ hm)) (row ++ [d]) row2 st tok1 .space (.inr (.inr rfl)) hst hx (by rw [List.length_append, List.length_singleton]; omega)
    refine ⟨P', ?_, by rw [List.append_assoc] at n3; exact n3⟩
    exact r1.app (r2.app r3)
/-! tokens of notes -/
theorem goes_no {l : List Nat} {c : Nat} (h : isWC c = false) : goesOn l c = false := by
  have h2 : isDig c = false := by unfold isWC at h; simp at h; exact h.1.1.2
  cases l with
  | nil => rfl
  | cons t0 tk =>
    rw [goesOn_cons, h, h2]
    simp
theorem tk_of {t0 : Nat} {tk : List Nat} {d : D} (h1 : isFirst t0 = true) (h2 : TokOk t0 tk) (h3 : ∀ l1 x l2, tk = l1 ++ x :: l2 → goesOn (t0 :: l1) x = true) (h4 : tokN (t0 :: tk) = d) : Tk (t0 :: tk) d :=
  ⟨⟨t0, tk, rfl, h1, h2, h3⟩, goes_no (by decide), goes_no (by decide), h4⟩
theorem tk_non : Tk [45] .non := tk_of (by decide) ⟨by decide, .inl rfl⟩ (fun l1 x l2 h => absurd h (by simp)) rfl
theorem wc_is {c : Nat} (h : WC c) : isWC c = true := by
  unfold isWC isLet isDig
  unfold WC at h
  simp
  omega
theorem tk_word {l : List Nat} (h : Wd l) : Tk l (.str (S l)) := by
  have hv := tok_word h
  obtain ⟨c, r, rfl, h1, h2, h3⟩ := h
  have hl : isLet c = true := let_of h1
  refine tk_of (by unfold isFirst; rw [hl]; rfl) ⟨by omega, .inr (.inl hl)⟩ (fun l1 x l2 e => ?_) hv
  have hx : x ∈ r := by rw [e]; simp
  have hlen : l1.length + 1 ≤ r.length := by rw [e]; simp
  rw [goesOn_cons, if_pos hl, wc_is (h2 x hx)]
  simp
  omega
theorem tk_int {i : Int} (h : i.natAbs < 10 ^ 200) : Tk (numS i) (.int i) := by
  have hv := tok_int h
  have ht := intText_L h
  have hl := numL_len200 h
  obtain ⟨c, r, e, h1, h2⟩ := numL_head i.natAbs
  have hd := TL.numL_digits i.natAbs
  unfold numS at hv ht ⊢
  rw [e] at hl hd hv ht ⊢
  rw [List.length_cons] at hl
  by_cases q : i < 0
  · rw [if_pos q] at hv ht ⊢
    refine tk_of (by decide) ⟨by rw [List.length_cons]; omega, .inr (.inr (by rw [ht]; rfl))⟩ (fun l1 x l2 e1 => ?_) hv
    rw [goesOn_cons, if_neg (by decide)]
    cases l1 with
    | nil =>
      have hx : c = x := by injection e1
      rw [if_pos rfl, ← hx, dig_of h1]
      simp [h2 (by omega)]
    | cons y l1 =>
      have hx : x ∈ c :: r := by rw [e1]; simp
      have hlen : l1.length + 2 ≤ r.length + 1 := by
        have := congrArg List.length e1
        simp at this
        omega
      rw [if_neg (by simp), if_neg (by simp), dig_of (hd x hx)]
      simp
      omega
  · rw [if_neg q] at hv ht ⊢
    have hlc : isLet c = false := let_no (by omega)
    refine tk_of (by unfold isFirst; rw [dig_of h1]; simp) ⟨by omega, .inr (.inr (by rw [ht]; rfl))⟩ (fun l1 x l2 e1 => ?_) hv
    have hx : x ∈ c :: r := by rw [e1]; simp
    have hlen : l1.length + 1 ≤ r.length := by rw [e1]; simp
    have hpos : 0 < i.natAbs := by
      by_cases q0 : i.natAbs = 0
      · rw [q0, numL_zero] at e
        injection e with _ e2
        rw [← e2] at e1
        simp at e1
      · omega
    have hc48 := h2 hpos
    rw [goesOn_cons, hlc, dig_of (hd x hx)]
    have n1 : ¬ (c :: l1 = [45]) := by simp; omega
    have n2 : ¬ (c :: l1 = [48]) := by simp; omega
    have n3 : ¬ c = 45 := by omega
    simp [n1, n2, n3]
    omega
theorem run_note : ∀ (k : Nat) (d : D), Nt k d → ReadsN b t r k d
  | k, d, h => by
    intro row st tok la hla hst hx hlen
    rcases h.kinds with rfl | ⟨i, rfl, hi⟩ | ⟨l, rfl, hw⟩ | ⟨j, ds, rfl, rfl, hs⟩
    · rw [txt_non]
      exact ⟨_, run_tk hla tk_non, .inl ⟨row, [45], .non, rfl, rfl, tk_non⟩⟩
    · rw [txt_int]
      exact ⟨_, run_tk hla (tk_int hi), .inl ⟨row, _, _, rfl, rfl, tk_int hi⟩⟩
    · rw [txt_str]
      exact ⟨_, run_tk hla (tk_word hw), .inl ⟨row, _, _, rfl, rfl, tk_word hw⟩⟩
    · have o := run_open (b := b) (t := t) (r := r) (st := row :: st) (tok := tok) hla (by rw [List.length_cons]; omega)
      have hrow := hx row (List.mem_cons_self ..)
      cases ds with
      | nil =>
        rw [txt_tup]
        exact ⟨_, o.app (run_br hrow), .inr ⟨tok, rfl⟩⟩
      | cons d ds =>
        have hl2 := len_tup (d :: ds)
        have hl3 := joinL_len2 ((d :: ds).map txt)
        obtain ⟨P1, r1, n1⟩ := run_join (b := b) (t := t) (r := r) (k := j) (d :: ds) (by simp) (fun x hm => run_note j x (hs x hm)) [] row st tok .bracket (.inr (.inl rfl)) (by omega) hx (by rw [List.length_nil]; omega)
        have hl4 := sumL_count ((d :: ds).map txt)
        rw [List.length_map] at hl4
        obtain ⟨tok', r2⟩ := run_cl n1 (by rw [List.nil_append]; omega) hrow
        rw [List.nil_append] at r2
        refine ⟨_, ?_, .inr ⟨tok', rfl⟩⟩
        rw [txt_tup]
        exact o.app (r1.app r2)
end
/-! ### read_note -/
theorem hea_start {b : Sto} : Hea b (b.length + 1) [b.length] [[]] (b ++ [.lst []] ++ [.lst [.obj b.length]]) := by
  refine ⟨?_, by omega, ?_, .cons ?_ .nil, ?_, by simp⟩
  · simp
  · simp
  · simp
  · intro a ha
    rw [List.mem_singleton.mp ha]
    omega
end K97

set_option Elab.async false
set_option linter.all false
set_option autoImplicit false
set_option maxRecDepth 100000
set_option maxHeartbeats 4000000
set_option exponentiation.threshold 5000
/-! P12: read_note. -/
namespace K97
open PySem PySem.Spec PyProof.Rows L2 FL
open SX
def kEnum : D → Sto → R (List D) := fun x s => match x with
  | .str z => .ok (enumL 0 z.cps.toList) s
  | _ => .bad
@[simp] theorem kEnum_app {l : List Nat} {s : Sto} : kEnum (.str (S l)) s = .ok (enumL 0 l) s := (rfl)
@[simp] theorem x_enum {m : M} {τ : Env'} {s : Sto} : enumI m τ s = (m τ s).bind kEnum := (rfl)
section
variable {b s : Sto} {t : List Nat} {r : Nat}
/-- how a def starts -/
theorem read_go {t : List Nat} {b : Sto} : b_read_note (startD 7 [.str (S t)]) b = ((forL gR bodyR (enumL 0 t ++ []) (frame t (b.length + 1) [] .start none none none) (b ++ [.lst []] ++ [.lst [.obj b.length]])).seq endR) := by
  rw [read_eq, s_start, s_emp]
  unfold startD
  rw [List.append_nil]
  have z1 : 1 ≤ sizeLine := by decide
  simp [zero_le, z1, La.l]
  rfl
theorem v_tru {k : Nat} {ds : List D} (h : s[k]? = some (.lst ds)) : truF (.obj k) s = some (!ds.isEmpty) := by
  simp only [truF, h]
theorem hea_one {as : List Nat} {row : List D} (h : Hea b r as [row] s) : ∃ a, as = [a] ∧ s[r]? = some (.lst [.obj a]) ∧ s[a]? = some (.lst row) := by
  have h1 := h.its
  match as, h1, h with
  | [], h1, h => cases h1
  | [a], h1, h =>
    cases h1 with
    | cons h2 t => exact ⟨a, rfl, by have := h.rows; simpa using this, h2⟩
  | _ :: _ :: _, h1, h => cases h1 with | cons _ t => cases t
/-- the end, behind a whole note -/
theorem end_ok {as : List Nat} {d : D} {P : PS} {o4 o5 o6 : Option D} (h : Hea b r as P.st s) (e : EndI [d] [] P) : ∃ s', endR (frame t r P.tok P.la o4 o5 o6) s = .rt d s' ∧ s'.take b.length = b := by
  rcases e with ⟨r0, l, d', e0, rfl, k⟩ | ⟨tok, rfl⟩
  · have e1 : r0 = [] ∧ d = d' := by
      cases r0 with
      | nil => simp at e0; exact ⟨rfl, e0⟩
      | cons x r0 => simp at e0
    obtain ⟨rfl, rfl⟩ := e1
    obtain ⟨t0, tk, rfl, h1, h2, h3⟩ := k.ex
    obtain ⟨a, rfl, hr, ha⟩ := hea_one h
    have hap := h.app (d := d)
    refine ⟨_, ?_, hap.pre⟩
    unfold endR frame
    rw [s_token]
    have e3 : lstAt (.obj a) s = some (a, []) := v_at ha
    have hr2 : (s.set a (.lst [d]))[r]? = some (.lst [.obj a]) := by rw [List.getElem?_set_ne (h.off a (by simp)).2]; exact hr
    have ha2 : (s.set a (.lst [d]))[a]? = some (.lst [d]) := hap.top
    have e5 := v_app (s := s) (xs := []) (d := d) (show ([] : List D).length < sizeLine by decide) (k := a)
    have e6 : lenF [.obj r] (s.set a (.lst [d])) = .ok (.int 1) (s.set a (.lst [d])) := hap.len
    have e7 : ixS (.obj r) (.int 0) (s.set a (.lst [d])) = some (.obj a) := by rw [v_ixO hr2]; simp
    have e8 : ixS (.obj a) (.int 0) (s.set a (.lst [d])) = some d := by rw [v_ixO ha2]; simp
    simp [La.l, h.last, e3, f_tok h2.1 h2.2, k.val, e5, e6, e7, e8, v_tru ha2]
  · obtain ⟨a, rfl, hr, ha⟩ := hea_one h
    refine ⟨s, ?_, h.pre⟩
    unfold endR frame
    rw [s_token]
    have e6 : lenF [.obj r] s = .ok (.int 1) s := h.len
    have e7 : ixS (.obj r) (.int 0) s = some (.obj a) := by rw [v_ixO hr]; simp
    have e8 : ixS (.obj a) (.int 0) s = some d := by rw [v_ixO ha]; simp
    simp [La.l, e6, e7, e8, v_tru ha]
/-- the end, where a tuple is still open -/
theorem end_open {as : List Nat} {rw row2 : List D} {P : PS} {o4 o5 o6 : Option D} (h : Hea b r as P.st s) (e : EndI rw [row2] P) (hl : rw.length < 1000000) (ht : t.length < 1000000) :
    ∃ τ' s', endR (frame t r P.tok P.la o4 o5 o6) s = .exc "BadNote" [("subject", .int t.length)] τ' s' ∧ s'.take b.length = b := by
  have sz : sizeLine = 16777216 := rfl
  have e9 : lenF [.str (S t)] s = .ok (.int t.length) s := v_lenS (by omega)
  rcases e with ⟨r0, l, d', e0, rfl, k⟩ | ⟨tok, rfl⟩
  · obtain ⟨t0, tk, rfl, h1, h2, h3⟩ := k.ex
    obtain ⟨a, a2, as', rfl⟩ := hea_cons2 h
    have hap := h.app (d := d')
    have hl3 : r0.length < sizeLine := by rw [e0, List.length_append] at hl; omega
    have e6 : lenF [.obj r] (s.set a (.lst (r0 ++ [d']))) = .ok (.int 2) (s.set a (.lst (r0 ++ [d']))) := hap.len
    have e10 : lenF [.str (S t)] (s.set a (.lst (r0 ++ [d']))) = .ok (.int t.length) (s.set a (.lst (r0 ++ [d']))) := v_lenS (by omega)
    refine ⟨frame t r (t0 :: tk) .token o4 o5 o6, _, ?_, hap.pre⟩
    unfold endR frame
    rw [s_token]
    simp [La.l, h.last, v_at h.top, f_tok h2.1 h2.2, k.val, v_app hl3, e6, e10]
  · have e6 : lenF [.obj r] s = .ok (.int 2) s := h.len
    refine ⟨frame t r tok .item o4 o5 o6, s, ?_, h.pre⟩
    unfold endR frame
    rw [s_token]
    simp [La.l, e6, e9]
end
theorem split_take {b s : Sto} (h : s.take b.length = b) : s = b ++ s.drop b.length := by
  conv => lhs; rw [← List.take_append_drop b.length s, h]
/-- a note's text is read back -/
theorem f_read {k : Nat} {d : D} {b : Sto} (h : Nt k d) (hk : k ≤ 99) (hl : (txt d).length < 1000000) (hb : StillS b) : F_read_note [.str (S (txt d))] b = .ok d b := by
  obtain ⟨P, r1, n1⟩ := run_note (b := b) (t := txt d) (r := b.length + 1) k d h [] [] [] .start (.inl rfl) (by rw [List.length_nil]; omega) (by simp) hl
  obtain ⟨as, o4, o5, o6, s, h1, e1⟩ := r1 _ 0 none none none _ hea_start
  obtain ⟨s', e2, h2⟩ := end_ok (t := txt d) (o4 := o4) (o5 := o5) (o6 := o6) h1 n1
  rw [split_take h2] at e2
  refine fn_runS (t := s'.drop b.length) rfl ?_ rfl h.still hb
  rw [read_go, e1]
  show ((RS.nx _ _).seq endR).fin = _
  rw [seq_nx, e2]
  rfl
/-- a tuple's text without its last sign -/
theorem f_read_cut {k : Nat} {ds : List D} {b : Sto} (h : Nt k (.tup ds)) (hne : ds ≠ []) (hk : k ≤ 99) (hl : (txt (.tup ds)).length < 1000000) (hb : StillS b) :
    F_read_note [.str (S (40 :: TL.joinL [32] (ds.map txt)))] b = .exc "BadNote" [("subject", .int (((40 :: TL.joinL [32] (ds.map txt)).length : Nat) : Int))] b := by
  rcases h.kinds with h0 | ⟨i, h0, hi⟩ | ⟨l, h0, hw⟩ | ⟨j, ds', rfl, h0, hs⟩ <;> cases h0
  have hl2 := len_tup ds
  have hl3 := joinL_len2 (ds.map txt)
  have hl4 := sumL_count (ds.map txt)
  rw [List.length_map] at hl4
  generalize ht : 40 :: TL.joinL [32] (ds.map txt) = t
  have ht2 : t.length < 1000000 := by rw [← ht, List.length_cons]; omega
  have o := run_open (b := b) (t := t) (r := b.length + 1) (st := [[]]) (tok := []) (la := .start) (.inl rfl) (by decide)
  obtain ⟨P, r1, n1⟩ := run_join (b := b) (t := t) (r := b.length + 1) (k := j) ds hne (fun x hm => run_note j x (hs x hm)) [] [] [] [] .bracket (.inr (.inl rfl)) (by rw [List.length_nil]; omega) (by simp) (by rw [List.length_nil]; omega)
  obtain ⟨as, o4, o5, o6, s, h1, e1⟩ := (o.app r1) _ 0 none none none _ hea_start
  rw [List.nil_append] at n1
  obtain ⟨τ', s', e2, h2⟩ := end_open (t := t) (o4 := o4) (o5 := o5) (o6 := o6) h1 n1 (by omega) ht2
  rw [split_take h2] at e2
  refine fn_excS (t := s'.drop b.length) rfl ?_ rfl (stillF_cons still_int stillF_nil) hb
  have e3 : [40] ++ TL.joinL [32] (ds.map txt) = t := ht
  rw [e3] at e1
  rw [read_go, e1]
  show ((RS.nx _ _).seq endR).fin = _
  rw [seq_nx, e2]
  rfl
theorem tokN_tup {l : List Nat} {ds : List D} : tokN l ≠ .tup ds := by
  cases l with
  | nil => intro h; cases h
  | cons t r =>
    rw [tokN_cons]
    split
    · intro h; cases h
    · split
      · intro h; cases h
      · split
        · intro h; cases h
        · intro h; cases h
/-- .. with one more -/
theorem f_read_more {k c : Nat} {ds : List D} {b : Sto} (hc : c = 41 ∨ c = 32) (h : Nt k (.tup ds)) (hk : k ≤ 99) (hl : (txt (.tup ds)).length < 1000000) (hb : StillS b) :
    F_read_note [.str (S (txt (.tup ds) ++ [c]))] b = .exc "BadNote" [("subject", .int (((txt (.tup ds)).length : Nat) : Int))] b := by
  obtain ⟨P, r1, n1⟩ := run_note (b := b) (t := txt (.tup ds) ++ [c]) (r := b.length + 1) k (.tup ds) h [] [] [] .start (.inl rfl) (by rw [List.length_nil]; omega) (by simp) hl
  obtain ⟨as, o4, o5, o6, s, h1, e1⟩ := r1 _ 0 none none none _ hea_start
  rcases n1 with ⟨r0, l, d', e0, rfl, k⟩ | ⟨tok, rfl⟩
  · have : d' = .tup ds := by
      cases r0 with
      | nil => simp at e0; exact e0.symm
      | cons x r0 => simp at e0
    exact absurd (k.val.trans this) tokN_tup
  · obtain ⟨o6', e2⟩ := b_more (t := txt (.tup ds) ++ [c]) (n := (txt (.tup ds)).length) (o6 := o6) (tok := tok) h1 rfl hc
    have h2 := h1.pre
    rw [split_take h2] at e2 e1
    refine fn_excS (t := s.drop b.length) rfl ?_ rfl (stillF_cons still_int stillF_nil) hb
    rw [read_go, enumL_app, List.append_assoc, e1]
    have e3 := one_exc (o4 := o4) (o5 := o5) (l2 := []) e2
    rw [Nat.zero_add]
    rw [e3]
    rfl
end K97

set_option Elab.async false
set_option linter.all false
set_option autoImplicit false
set_option maxRecDepth 100000
set_option maxHeartbeats 4000000
set_option exponentiation.threshold 5000
/-! P13: has_form. -/
namespace K97
open PySem PySem.Spec PyProof.Rows L2 FL
open SX
theorem s_int : ("int" : Str) = S [105, 110, 116] := by decide +kernel
theorem s_word : ("word" : Str) = S [119, 111, 114, 100] := by decide +kernel
theorem s_none : ("none" : Str) = S [110, 111, 110, 101] := by decide +kernel
theorem s_all : ("all" : Str) = S [97, 108, 108] := by decide +kernel
mutual
def LF.hf : LF → D
  | .i => .tup [.str (S [105, 110, 116])]
  | .w => .tup [.str (S [119, 111, 114, 100])]
  | .s => .tup [.str (S [114, 111, 119]), .tup [.str (S [105, 110, 116])], .tup [.str (S [105, 110, 116])]]
  | .t => .tup [.str (S [97, 108, 108]), .tup [.str (S [97, 110, 121])]]
  | .m => .tup [.str (S [110, 111, 110, 101])]
  | .or a b => .tup [.str (S [111, 114]), a.hf, b.hf]
  | .any a => .tup [.str (S [97, 108, 108]), a.hf]
  | .row l => .tup (.str (S [114, 111, 119]) :: LF.hfs l)
def LF.hfs : List LF → List D
  | [] => []
  | f :: l => f.hf :: LF.hfs l
end
theorem LF.hfs_map : ∀ l : List LF, LF.hfs l = l.map LF.hf
  | [] => by simp only [LF.hfs, List.map_nil]
  | f :: l => by simp only [LF.hfs, List.map_cons, LF.hfs_map l]
mutual
def LF.rk : LF → Nat
  | .i => 0
  | .w => 0
  | .s => 1
  | .t => 1
  | .m => 0
  | .or a b => max a.rk b.rk + 1
  | .any a => a.rk + 1
  | .row l => LF.rks l + 1
def LF.rks : List LF → Nat
  | [] => 0
  | f :: l => max f.rk (LF.rks l)
end
theorem LF.rks_mem : ∀ {l : List LF} {f : LF}, f ∈ l → f.rk ≤ LF.rks l
  | [], _, h => absurd h (by simp)
  | g :: l, f, h => by
    simp only [LF.rks]
    rcases List.mem_cons.mp h with rfl | h
    · omega
    · have := LF.rks_mem h; omega
def isI : D → Bool
  | .int _ => true
  | _ => false
def isW : D → Bool
  | .str _ => true
  | _ => false
def isT : D → Bool
  | .tup _ => true
  | _ => false
def isN : D → Bool
  | .non => true
  | _ => false
mutual
def LF.has : LF → D → Bool
  | .i, d => isI d
  | .w, d => isW d
  | .s, d => match d with
    | .tup [x, y] => isI x && isI y
    | _ => false
  | .t, d => isT d
  | .m, d => isN d
  | .or a b, d => a.has d || b.has d
  | .any a, d => match d with
    | .tup ds => ds.all fun x => a.has x
    | _ => false
  | .row l, d => match d with
    | .tup ds => LF.hass l ds
    | _ => false
def LF.hass : List LF → List D → Bool
  | [], [] => true
  | f :: l, d :: ds => f.has d && LF.hass l ds
  | _, _ => false
end
/-! ### a comprehension of answers -/
theorem compL_mapG {g : Tgt} {te : M} {τ : Env'} {s : Sto} (f : D → D) : ∀ (ds : List D) (n : Nat),
    (∀ d ∈ ds, ∃ τ1, g.d d τ = some τ1 ∧ te τ1 s = .ok (f d) s) → n + ds.length ≤ sizeLine → compL g yesB te τ n ds s = .ok (ds.map f) s
  | [], n, _, _ => rfl
  | d :: ds, n, st, hn => by
    rw [List.length_cons] at hn
    have ih := compL_mapG (te := te) (τ := τ) (s := s) f ds (n + 1) (fun d hd => st d (List.mem_cons_of_mem _ hd)) (by omega)
    obtain ⟨τ1, e1, e2⟩ := st d (List.mem_cons_self ..)
    show (match g.d d τ with
      | none => R.bad
      | some τ1 => (yesB τ1 s).nox.bind fun b s => if b = true then (te τ1 s).nox.bind fun x s => if n < sizeLine then (compL g yesB te τ (n + 1) ds s).bind fun xs s => .ok (x :: xs) s else .bad else compL g yesB te τ n ds s) = _
    rw [e1]
    show ((te τ1 s).nox.bind fun x s => if n < sizeLine then (compL g yesB te τ (n + 1) ds s).bind fun xs s => .ok (x :: xs) s else .bad) = _
    rw [e2]
    show (if n < sizeLine then (compL g yesB te τ (n + 1) ds s).bind fun xs s => R.ok (f d :: xs) s else .bad) = _
    rw [if_pos (by omega), ih]
    rfl
theorem asBls_map {α : Type} (f : α → Bool) : ∀ l : List α, asBls (l.map fun x => D.bl (f x)) = some (l.map f)
  | [] => rfl
  | x :: l => by
    show (asBls (l.map fun x => D.bl (f x))).map (f x :: ·) = _
    rw [asBls_map f l]; rfl
theorem v_all {α : Type} {s : Sto} (f : α → Bool) (l : List α) : allF [.fls (l.map fun x => D.bl (f x))] s = .ok (.bl (l.all f)) s := by
  show R.of ((asBls (l.map fun x => D.bl (f x))).map fun ns => D.bl (ns.all id)) s = _
  rw [asBls_map]
  show R.ok (D.bl ((l.map f).all id)) s = _
  rw [List.all_map]; rfl
theorem v_any {α : Type} {s : Sto} (f : α → Bool) (l : List α) : anyF [.fls (l.map fun x => D.bl (f x))] s = .ok (.bl (l.any f)) s := by
  show R.of ((asBls (l.map fun x => D.bl (f x))).map fun ns => D.bl (ns.any id)) s = _
  rw [asBls_map]
  show R.ok (D.bl ((l.map f).any id)) s = _
  rw [List.any_map]; rfl
/-! ### match -/
section
variable {s : Sto} {τ : Env'}
def kMat (cs : List (PtT × MS)) (τ : Env') : D → Sto → RS := fun d s => casesS cs d τ s
@[simp] theorem kMat_app {cs : List (PtT × MS)} {d : D} : kMat cs τ d s = casesS cs d τ s := (rfl)
@[simp] theorem x_match {m : M} {cs : List (PtT × MS)} : matchS m cs τ s = (m τ s).toS τ (kMat cs τ) := (rfl)
/-- one case -/
def caseR (o : Option (Option Bs)) (b : MS) (r : List (PtT × MS)) (d : D) (τ : Env') (s : Sto) : RS := match o with
  | none => .bad
  | some none => casesS r d τ s
  | some (some bs) => b (FL.bindAll bs τ) s
@[simp] theorem caseR_no {b : MS} {r : List (PtT × MS)} {d : D} : caseR (some none) b r d τ s = casesS r d τ s := (rfl)
@[simp] theorem caseR_yes {b : MS} {r : List (PtT × MS)} {d : D} {bs : Bs} : caseR (some (some bs)) b r d τ s = b (FL.bindAll bs τ) s := (rfl)
@[simp] theorem x_cases {p : PtT} {b : MS} {r : List (PtT × MS)} {d : D} : casesS ((p, b) :: r) d τ s = caseR (topM p d) b r d τ s := by
  show (match topM p d with
    | none => RS.bad
    | some none => casesS r d τ s
    | some (some bs) => b (FL.bindAll bs τ) s) = _
  unfold caseR
  rfl
@[simp] theorem cases_nil {d : D} : casesS [] d τ s = .nx τ s := (rfl)
end
/-- a form's first word, its parts -/
theorem top1 {z w : Str} {ds : List D} (hl : ds.length ≤ 100) : topM (.seq [.val z]) (.tup (.str w :: ds)) = some (if ds = [] then (if w = z then some [] else none) else none) := by
  show (if (D.str w :: ds).length ≤ 1000 then (if (D.str w :: ds).length = 1 then matchL [.val z] (.str w :: ds) else some none) else none) = _
  rw [if_pos (by rw [List.length_cons]; omega)]
  cases ds with
  | nil => by_cases h : w = z <;> simp [matchL, patM, h]
  | cons d ds => rw [if_neg (by simp), if_neg (by simp)]
theorem top2 {z w : Str} {i : Nat} {ds : List D} (hl : ds.length ≤ 100) : topM (.seq [.val z, .cap i]) (.tup (.str w :: ds)) = some (if ds.length = 1 then (if w = z then some [(i, ds.headD .non)] else none) else none) := by
  show (if (D.str w :: ds).length ≤ 1000 then (if (D.str w :: ds).length = 2 then matchL [.val z, .cap i] (.str w :: ds) else some none) else none) = _
  rw [if_pos (by rw [List.length_cons]; omega)]
  match ds, hl with
  | [], _ => rw [if_neg (by simp), if_neg (by simp)]
  | [d], _ => by_cases h : w = z <;> simp [matchL, patM, h]
  | _ :: _ :: _, _ => rw [if_neg (by simp), if_neg (by simp)]
theorem topS {z w : Str} {i : Nat} {ds : List D} (hl : ds.length ≤ 100) : topM (.seqS [.val z, .cap i]) (.tup (.str w :: ds)) = some (if w = z then some [(i, .fls ds)] else none) := by
  show (if (D.str w :: ds).length ≤ 1000 then (if (D.str w :: ds).length + 1 < 2 then some none else matchL [.val z, .cap i] ((D.str w :: ds).take 1 ++ [.fls ((D.str w :: ds).drop 1)])) else none) = _
  rw [if_pos (by rw [List.length_cons]; omega), if_neg (by rw [List.length_cons]; omega)]
  show matchL [.val z, .cap i] [.str w, .fls ds] = _
  by_cases h : w = z <;> simp [matchL, patM, h]
def kZipb (x : D) : D → Sto → R (List D) := fun y s => match x, y with
  | .tup xs, .fls ys => if xs.length = ys.length then .ok (zipL xs ys) s else .bad
  | _, _ => .bad
@[simp] theorem kZipb_app {xs ys : List D} {s : Sto} : kZipb (.tup xs) (.fls ys) s = if xs.length = ys.length then .ok (zipL xs ys) s else .bad := (rfl)
def kZip (n : M) (τ : Env') : D → Sto → R (List D) := fun x s => (n τ s).bind (kZipb x)
@[simp] theorem kZip_app {n : M} {τ : Env'} {x : D} {s : Sto} : kZip n τ x s = (n τ s).bind (kZipb x) := (rfl)
@[simp] theorem x_zip {m n : M} {τ : Env'} {s : Sto} : zipI m n τ s = (m τ s).bind (kZip n τ) := (rfl)
theorem isT_ty {k : Nat} {d : D} {s : Sto} (h : Nt k d) : isiF isaT [d, .ty "tuple"] s = .ok (.bl (isT d)) s := by
  rcases h.kinds with rfl | ⟨i, rfl, hi⟩ | ⟨l, rfl, hw⟩ | ⟨j, ds, rfl, rfl, hs⟩ <;> simp [isT]
theorem isI_ty {k : Nat} {d : D} {s : Sto} (h : Nt k d) : isiF isaT [d, .ty "int"] s = .ok (.bl (isI d)) s := by
  rcases h.kinds with rfl | ⟨i, rfl, hi⟩ | ⟨l, rfl, hw⟩ | ⟨j, ds, rfl, rfl, hs⟩ <;> simp [isI]
theorem isW_ty {k : Nat} {d : D} {s : Sto} (h : Nt k d) : isiF isaT [d, .ty "str"] s = .ok (.bl (isW d)) s := by
  rcases h.kinds with rfl | ⟨i, rfl, hi⟩ | ⟨l, rfl, hw⟩ | ⟨j, ds, rfl, rfl, hs⟩ <;> simp [isW]
theorem isN_is {k : Nat} {d : D} (h : Nt k d) : isNP d .non = some (.bl (isN d)) := by
  rcases h.kinds with rfl | ⟨i, rfl, hi⟩ | ⟨l, rfl, hw⟩ | ⟨j, ds, rfl, rfl, hs⟩ <;> rfl
/-- F of any form -/
def HasOk (F : Fn) (hf : D) (p : D → Bool) : Prop := ∀ (k : Nat) (d : D) (s : Sto), Nt k d → (txt d).length < 1000000 → F [d, hf] s = .ok (.bl (p d)) s
section
variable {F : Fn}
theorem h_int : HasOk (fnM 2 8 (b_has_form F)) (.tup [.str (S [105, 110, 116])]) isI := fun k d s h hl => by
  refine fn_run rfl ?_ (Nat.le_refl _)
  unfold b_has_form startD
  rw [s_int, s_word, s_none, s_all, s_row, s_or, s_any]
  simp [top1, top2, topS, isI_ty h, FL.bindAll]
theorem h_word : HasOk (fnM 2 8 (b_has_form F)) (.tup [.str (S [119, 111, 114, 100])]) isW := fun k d s h hl => by
  refine fn_run rfl ?_ (Nat.le_refl _)
  unfold b_has_form startD
  rw [s_int, s_word, s_none, s_all, s_row, s_or, s_any]
  simp [top1, top2, topS, isW_ty h, FL.bindAll]
theorem h_none : HasOk (fnM 2 8 (b_has_form F)) (.tup [.str (S [110, 111, 110, 101])]) isN := fun k d s h hl => by
  refine fn_run rfl ?_ (Nat.le_refl _)
  unfold b_has_form startD
  rw [s_int, s_word, s_none, s_all, s_row, s_or, s_any]
  simp [top1, top2, topS, isN_is h, FL.bindAll]
theorem dt_any : Dt 1 (.tup [.str (S [97, 110, 121])]) := dt_tup fun d hd => by rw [List.mem_singleton.mp hd]; exact dt_str (by decide)
theorem h_any : HasOk (fnM 2 8 (b_has_form F)) (.tup [.str (S [97, 110, 121])]) fun _ => true := fun k d s h hl => by
  refine fn_run rfl ?_ (Nat.le_refl _)
  unfold b_has_form startD
  rw [s_int, s_word, s_none, s_all, s_row, s_or, s_any]
  have e : eqP (.tup [.str (S [97, 110, 121])]) (.tup [.str (S [97, 110, 121])]) = some (.bl true) := by
    unfold eqP; rw [eqB_refl dt_any (by decide)]; rfl
  have z1 : 1 ≤ sizeLine := by decide
  simp [top1, top2, topS, e, z1, FL.bindAll]
/-- a tuple's items -/
def allT (p : D → Bool) : D → Bool
  | .tup ds => ds.all p
  | _ => false
theorem size_txt {ds : List D} (h : (txt (.tup ds)).length < 1000000) : ds.length ≤ sizeLine := by
  have hl2 := len_tup ds
  have hl3 := joinL_len2 (ds.map txt)
  have hl4 := sumL_count (ds.map txt)
  rw [List.length_map] at hl4
  have : sizeLine = 16777216 := rfl
  omega
theorem h_all {hf : D} {p : D → Bool} (hF : HasOk F hf p) : HasOk (fnM 2 8 (b_has_form F)) (.tup [.str (S [97, 108, 108]), hf]) (allT p) := fun k d s h hl => by
  refine fn_run rfl ?_ (Nat.le_refl _)
  unfold b_has_form startD
  rw [s_int, s_word, s_none, s_all, s_row, s_or, s_any]
  have he := isT_ty (s := s) h
  rcases h.kinds with rfl | ⟨i, rfl, hi⟩ | ⟨l, rfl, hw⟩ | ⟨j, ds, rfl, rfl, hs⟩
  · simp [top1, top2, topS, FL.bindAll, allT]
  · simp [top1, top2, topS, FL.bindAll, allT]
  · simp [top1, top2, topS, FL.bindAll, allT]
  · have e := compL_map (te := callM F (consA (varM 5) (consA (varM 2) nilA))) (i := 5) (τ := [some (.tup ds), some (.tup [.str (S [97, 108, 108]), hf]), some hf, none, none, none, none, none]) (s := s) (fun d => .bl (p d)) ds 0 (fun d hd => by
      have := hF j d s (hs d hd) (by have := len_mem hd; omega)
      simp [this]) (by have := size_txt hl; omega)
    simp [top1, top2, topS, FL.bindAll, allT, wipeD, e, v_all]
def anyO (ps : List (D → Bool)) (d : D) : Bool := ps.any fun p => p d
theorem h_or {ha hb : D} {pa pb : D → Bool} (hA : HasOk F ha pa) (hB : HasOk F hb pb) : HasOk (fnM 2 8 (b_has_form F)) (.tup [.str (S [111, 114]), ha, hb]) (fun d => pa d || pb d) := fun k d s h hl => by
  refine fn_run rfl ?_ (Nat.le_refl _)
  unfold b_has_form startD
  rw [s_int, s_word, s_none, s_all, s_row, s_or, s_any]
  have e1 := hA k d s h hl
  have e2 := hB k d s h hl
  have z0 : 0 < sizeLine := by decide
  have z1 : 1 < sizeLine := by decide
  have e : compL (.one 7) yesB (callM F (consA (varM 0) (consA (varM 7) nilA))) [some d, some (.tup [.str (S [111, 114]), ha, hb]), none, none, some (.fls [ha, hb]), none, none, none] 0 [ha, hb] s = .ok [.bl (pa d), .bl (pb d)] s := by
    simp [compL, Tgt.d, e1, e2, z0, z1]
  have e3 := v_any (s := s) id [pa d, pb d]
  simp at e3
  simp [top1, top2, topS, FL.bindAll, wipeD, e, e3]
/-- a row's answers -/
def rowB : List (D → Bool) → List D → List Bool
  | p :: ps, d :: ds => p d :: rowB ps ds
  | _, _ => []
def rowT (ps : List (D → Bool)) : D → Bool
  | .tup ds => decide (ds.length = ps.length) && (rowB ps ds).all id
  | _ => false
theorem compL_row {s : Sto} {x0 x1 x2 x3 x4 x7 : Option D} {k : Nat} : ∀ (hfs : List D) (ps : List (D → Bool)) (ds : List D) (n : Nat), F2 (HasOk F) hfs ps → ds.length = ps.length → (∀ d ∈ ds, Nt k d ∧ (txt d).length < 1000000) → n + ds.length ≤ sizeLine →
    compL (.many [5, 6]) yesB (callM F (consA (varM 5) (consA (varM 6) nilA))) [x0, x1, x2, x3, x4, none, none, x7] n (zipL ds hfs) s = .ok ((rowB ps ds).map D.bl) s
  | [], [], [], n, .nil, _, _, _ => rfl
  | hf :: hfs, p :: ps, d :: ds, n, .cons h t, hl, hd, hn => by
    rw [List.length_cons] at hn
    have ih := compL_row (s := s) (x0 := x0) (x1 := x1) (x2 := x2) (x3 := x3) (x4 := x4) (x7 := x7) hfs ps ds (n + 1) t (by simpa using hl) (fun x hx => hd x (List.mem_cons_of_mem _ hx)) (by omega)
    have hd0 := hd d (List.mem_cons_self ..)
    have e := h k d s hd0.1 hd0.2
    have hn2 : n < sizeLine := by omega
    show compL (.many [5, 6]) yesB (callM F (consA (varM 5) (consA (varM 6) nilA))) [x0, x1, x2, x3, x4, none, none, x7] n (.tup [d, hf] :: zipL ds hfs) s = _
    simp [compL, Tgt.d, setL, e, hn2, ih, rowB]
theorem v_allB {s : Sto} (l : List Bool) : allF [.fls (l.map D.bl)] s = .ok (.bl (l.all id)) s := v_all id l
theorem h_row {hfs : List D} {ps : List (D → Bool)} (hF : F2 (HasOk F) hfs ps) (hw : hfs.length ≤ 100) : HasOk (fnM 2 8 (b_has_form F)) (.tup (.str (S [114, 111, 119]) :: hfs)) (rowT ps) := fun k d s h hl => by
  refine fn_run rfl ?_ (Nat.le_refl _)
  unfold b_has_form startD
  rw [s_int, s_word, s_none, s_all, s_row, s_or, s_any]
  rcases h.kinds with rfl | ⟨i, rfl, hi⟩ | ⟨l, rfl, hw⟩ | ⟨j, ds, rfl, rfl, hs⟩
  · simp [top1, top2, topS, hw, FL.bindAll, rowT]
  · simp [top1, top2, topS, hw, FL.bindAll, rowT]
  · rename_i hww
    simp [top1, top2, topS, hww, FL.bindAll, rowT]
  · by_cases q : ds.length = ps.length
    · have q2 : ds.length = hfs.length := by rw [q, hF.len]
      have e := compL_row (s := s) (x0 := some (.tup ds)) (x1 := some (.tup (.str (S [114, 111, 119]) :: hfs))) (x2 := none) (x3 := some (.fls hfs)) (x4 := none) (x7 := none) hfs ps ds 0 hF q (fun d hd => ⟨hs d hd, by have := len_mem hd; omega⟩) (by have := size_txt hl; omega)
      have e5 : rowT ps (.tup ds) = (rowB ps ds).all id := by simp [rowT, q]
      rw [e5]
      simp [top1, top2, topS, hw, FL.bindAll, wipeD, q2, e, v_allB]
    · have q2 : ¬ ds.length = hfs.length := by rw [hF.len]; exact q
      have q3 : ¬ (ds.length : Int) = (hfs.length : Int) := by omega
      simp [top1, top2, topS, hw, FL.bindAll, rowT, q, q2, q3]
end
theorem HasOk.cg {F : Fn} {hf : D} {p q : D → Bool} (h : HasOk F hf p) (e : ∀ d, p d = q d) : HasOk F hf q := fun k d s hn hl => by rw [h k d s hn hl, e]
theorem hass_eq : ∀ (l : List LF) (ds : List D), LF.hass l ds = (decide (ds.length = (l.map LF.has).length) && (rowB (l.map LF.has) ds).all id)
  | [], [] => rfl
  | [], _ :: _ => by simp [LF.hass]
  | _ :: _, [] => by simp [LF.hass]
  | f :: l, d :: ds => by
    simp only [LF.hass, hass_eq l ds, List.map_cons, rowB, List.all_cons, List.length_cons, id]
    simp
    cases f.has d <;> simp
theorem f_has : ∀ (k : Nat) (f : LF), f.rk < k → f.ok = true → HasOk (F_has_form k) f.hf f.has
  | 0, _, h, _ => absurd h (by omega)
  | k + 1, .i, _, _ => by simp only [LF.hf]; exact (h_int (F := F_has_form k)).cg fun d => by simp only [LF.has]
  | k + 1, .w, _, _ => by simp only [LF.hf]; exact (h_word (F := F_has_form k)).cg fun d => by simp only [LF.has]
  | k + 1, .m, _, _ => by simp only [LF.hf]; exact (h_none (F := F_has_form k)).cg fun d => by simp only [LF.has]
  | 1, .s, h, _ => by simp only [LF.rk] at h; omega
  | k + 2, .s, _, _ => by
    simp only [LF.hf]
    have h0 : HasOk (F_has_form (k + 1)) (.tup [.str (S [105, 110, 116])]) isI := h_int
    refine HasOk.cg (h_row (F := F_has_form (k + 1)) (ps := [isI, isI]) (.cons h0 (.cons h0 .nil)) (by decide)) fun d => ?_
    cases d with
    | tup ds =>
      match ds with
      | [] => simp [rowT, LF.has]
      | [_] => simp [rowT, LF.has]
      | [x, y] => simp [rowT, LF.has, rowB]
      | _ :: _ :: _ :: _ => simp [rowT, LF.has]
    | _ => simp [rowT, LF.has]
  | 1, .t, h, _ => by simp only [LF.rk] at h; omega
  | k + 2, .t, _, _ => by
    simp only [LF.hf]
    have h0 : HasOk (F_has_form (k + 1)) (.tup [.str (S [97, 110, 121])]) fun _ => true := h_any
    refine HasOk.cg (h_all (F := F_has_form (k + 1)) h0) fun d => ?_
    cases d <;> simp [allT, LF.has, isT]
  | k + 1, .or a b, h, ho => by
    simp only [LF.rk] at h
    simp only [LF.ok, Bool.and_eq_true] at ho
    simp only [LF.hf]
    exact (h_or (F := F_has_form k) (f_has k a (by omega) ho.1) (f_has k b (by omega) ho.2)).cg fun d => by simp only [LF.has]
  | k + 1, .any a, h, ho => by
    simp only [LF.rk] at h
    simp only [LF.ok] at ho
    simp only [LF.hf]
    refine (h_all (F := F_has_form k) (f_has k a (by omega) ho)).cg fun d => ?_
    cases d <;> simp [allT, LF.has]
  | k + 1, .row l, h, ho => by
    simp only [LF.rk] at h
    simp only [LF.ok, Bool.and_eq_true, decide_eq_true_eq] at ho
    simp only [LF.hf, LF.hfs_map]
    have hs : ∀ f ∈ l, HasOk (F_has_form k) f.hf f.has := fun f hf => f_has k f (by have := LF.rks_mem hf; omega) (LF.oks_mem ho.2 f hf)
    have h2 : ∀ m : List LF, (∀ f ∈ m, HasOk (F_has_form k) f.hf f.has) → F2 (HasOk (F_has_form k)) (m.map LF.hf) (m.map LF.has) := fun m => by
      induction m with
      | nil => exact fun _ => .nil
      | cons f m ih => exact fun z => .cons (z f (List.mem_cons_self ..)) (ih fun g hg => z g (List.mem_cons_of_mem _ hg))
    refine (h_row (F := F_has_form k) (h2 l hs) (by rw [List.length_map]; omega)).cg fun d => ?_
    cases d <;> simp [rowT, LF.has, hass_eq]
end K97

set_option Elab.async false
set_option linter.all false
set_option autoImplicit false
set_option maxRecDepth 100000
set_option maxHeartbeats 4000000
set_option exponentiation.threshold 5000
/-! P14: spoilt notes. -/
namespace K97
open PySem PySem.Spec PyProof.Rows L2 FL
open SX
/-! ### what is good: has its form, with pairs in lowest terms -/
def prB : D → D → Bool
  | .int t, .int m => decide (0 < m) && decide (Int.gcd t m = 1)
  | _, _ => false
mutual
def LF.good : LF → D → Bool
  | .i, d => isI d
  | .w, d => isW d
  | .s, d => match d with
    | .tup [x, y] => prB x y
    | _ => false
  | .t, d => isT d
  | .m, d => isN d
  | .or a b, d => a.good d || b.good d
  | .any a, d => match d with
    | .tup ds => ds.all fun x => a.good x
    | _ => false
  | .row l, d => match d with
    | .tup ds => LF.goods l ds
    | _ => false
def LF.goods : List LF → List D → Bool
  | [], [] => true
  | f :: l, d :: ds => f.good d && LF.goods l ds
  | _, _ => false
end
mutual
theorem Fits.good : ∀ {f : LF} {d : D}, Fits f d → f.good d = true
  | _, _, .i h => by simp only [LF.good, isI]
  | _, _, .w h => by simp only [LF.good, isW]
  | _, _, .s (t := t) (m := m) h => by simp only [LF.good, prB]; simp [h.1, h.2.1]
  | _, _, .t h l => by simp only [LF.good, isT]
  | _, _, .m => by simp only [LF.good, isN]
  | _, _, .or1 h => by
    have := Fits.good h
    simp only [LF.good, this, Bool.true_or]
  | _, _, .or2 h => by
    have := Fits.good h
    simp only [LF.good, this, Bool.or_true]
  | .any a, .tup ds, .any l h => by
    have z : ∀ d ∈ ds, a.good d = true := fun d hd => Fits.good (h d hd)
    simp only [LF.good, List.all_eq_true]
    exact z
  | .row l, .tup ds, .row h => by
    have := FitsL.good h
    simp only [LF.good, this]
theorem FitsL.good : ∀ {l : List LF} {ds : List D}, FitsL l ds → LF.goods l ds = true
  | _, _, .nil => by simp only [LF.goods]
  | .cons f l, .cons d ds, .cons h t => by
    have h1 := Fits.good h
    have h2 := FitsL.good t
    simp only [LF.goods, h1, h2, Bool.and_self]
end
mutual
theorem LF.has_good : ∀ (f : LF) (d : D), f.good d = true → f.has d = true
  | .i, d, h => by simpa only [LF.good, LF.has] using h
  | .w, d, h => by simpa only [LF.good, LF.has] using h
  | .s, d, h => by
    cases d with
    | tup ds =>
      match ds with
      | [] => simp [LF.good] at h
      | [_] => simp [LF.good] at h
      | [x, y] =>
        simp only [LF.good] at h
        simp only [LF.has]
        cases x <;> cases y <;> simp_all [prB, isI]
      | _ :: _ :: _ :: _ => simp [LF.good] at h
    | _ => simp [LF.good] at h
  | .t, d, h => by simpa only [LF.good, LF.has] using h
  | .m, d, h => by simpa only [LF.good, LF.has] using h
  | .or a b, d, h => by
    simp only [LF.good, Bool.or_eq_true] at h
    simp only [LF.has, Bool.or_eq_true]
    exact h.imp (LF.has_good a d) (LF.has_good b d)
  | .any a, d, h => by
    cases d with
    | tup ds =>
      simp only [LF.good, List.all_eq_true] at h
      simp only [LF.has, List.all_eq_true]
      exact fun x hx => LF.has_good a x (h x hx)
    | _ => simp [LF.good] at h
  | .row l, d, h => by
    cases d with
    | tup ds =>
      simp only [LF.good] at h
      simp only [LF.has]
      exact LF.hass_good l ds h
    | _ => simp [LF.good] at h
theorem LF.hass_good : ∀ (l : List LF) (ds : List D), LF.goods l ds = true → LF.hass l ds = true
  | [], [], _ => by simp only [LF.hass]
  | [], _ :: _, h => by simp only [LF.goods] at h; cases h
  | _ :: _, [], h => by simp only [LF.goods] at h; cases h
  | f :: l, d :: ds, h => by
    simp only [LF.goods, Bool.and_eq_true] at h
    simp only [LF.hass, Bool.and_eq_true]
    exact ⟨LF.has_good f d h.1, LF.hass_good l ds h.2⟩
end
mutual
/-- no pairs in it -/
def LF.noS : LF → Bool
  | .s => false
  | .or a b => a.noS && b.noS
  | .any a => a.noS
  | .row l => LF.noSs l
  | _ => true
def LF.noSs : List LF → Bool
  | [] => true
  | f :: l => f.noS && LF.noSs l
end
mutual
theorem LF.good_noS : ∀ (f : LF) (d : D), f.noS = true → f.good d = f.has d
  | .i, d, h => by simp only [LF.good, LF.has]
  | .w, d, h => by simp only [LF.good, LF.has]
  | .s, d, h => by simp only [LF.noS] at h; cases h
  | .t, d, h => by simp only [LF.good, LF.has]
  | .m, d, h => by simp only [LF.good, LF.has]
  | .or a b, d, h => by
    simp only [LF.noS, Bool.and_eq_true] at h
    simp only [LF.good, LF.has, LF.good_noS a d h.1, LF.good_noS b d h.2]
  | .any a, d, h => by
    simp only [LF.noS] at h
    have z : (fun x => a.good x) = fun x => a.has x := funext fun x => LF.good_noS a x h
    cases d <;> simp only [LF.good, LF.has, z]
  | .row l, d, h => by
    simp only [LF.noS] at h
    cases d with
    | tup ds => simp only [LF.good, LF.has, LF.goods_noS l ds h]
    | _ => simp only [LF.good, LF.has]
theorem LF.goods_noS : ∀ (l : List LF) (ds : List D), LF.noSs l = true → LF.goods l ds = LF.hass l ds
  | [], [], _ => by simp only [LF.goods, LF.hass]
  | [], _ :: _, h => by simp only [LF.goods, LF.hass]
  | _ :: _, [], h => by simp only [LF.goods, LF.hass]
  | f :: l, d :: ds, h => by
    simp only [LF.noSs, Bool.and_eq_true] at h
    simp only [LF.goods, LF.hass, LF.good_noS f d h.1, LF.goods_noS l ds h.2]
end
/-! ### forms that can be spoilt -/
def LF.isA : LF → Bool
  | .w => true
  | .m => true
  | _ => false
def LF.isLi : LF → Bool
  | .i => true
  | _ => false
def LF.isOr : LF → Bool
  | .or _ _ => true
  | _ => false
def LF.isLw : LF → Bool
  | .w => true
  | _ => false
mutual
def LF.ok2 : LF → Bool
  | .or a b => b.isA && (!a.isLi || b.isLw) && !a.isOr && a.ok2 && b.ok2
  | .any a => a.ok2
  | .row l => !l.isEmpty && LF.oks2 l
  | _ => true
def LF.oks2 : List LF → Bool
  | [] => true
  | f :: l => f.ok2 && LF.oks2 l
end
mutual
def LF.mx2 : LF → Nat
  | .i => 201
  | .w => 24
  | .s => 60
  | .t => 5572
  | .m => 4
  | .or a b => max a.mx2 b.mx2
  | .any a => 4 * (a.mx2 + 1) + 2
  | .row l => LF.mxs2 l + 4
def LF.mxs2 : List LF → Nat
  | [] => 0
  | f :: l => f.mx2 + 1 + LF.mxs2 l
end
mutual
theorem LF.mx_le : ∀ f : LF, f.mx ≤ f.mx2
  | .i => by simp only [LF.mx, LF.mx2]; omega
  | .w => by simp only [LF.mx, LF.mx2]; omega
  | .s => by simp only [LF.mx, LF.mx2]; omega
  | .t => by simp only [LF.mx, LF.mx2]; omega
  | .m => by simp only [LF.mx, LF.mx2]; omega
  | .or a b => by
    have := LF.mx_le a
    have := LF.mx_le b
    simp only [LF.mx, LF.mx2]; omega
  | .any a => by
    have := LF.mx_le a
    simp only [LF.mx, LF.mx2]; omega
  | .row l => by
    have := LF.mxs_le l
    simp only [LF.mx, LF.mx2]; omega
theorem LF.mxs_le : ∀ l : List LF, LF.mxs l ≤ LF.mxs2 l
  | [] => by simp only [LF.mxs, LF.mxs2]; omega
  | f :: l => by
    have := LF.mx_le f
    have := LF.mxs_le l
    simp only [LF.mxs, LF.mxs2]; omega
end
theorem LF.mx4 : ∀ f : LF, 4 ≤ f.mx2
  | .i => by simp only [LF.mx2]; omega
  | .w => by simp only [LF.mx2]; omega
  | .s => by simp only [LF.mx2]; omega
  | .t => by simp only [LF.mx2]; omega
  | .m => by simp only [LF.mx2]; omega
  | .or a b => by
    have := LF.mx4 a
    simp only [LF.mx2]; omega
  | .any a => by
    have := LF.mx4 a
    simp only [LF.mx2]; omega
  | .row l => by simp only [LF.mx2]; omega
/-- what is spoilt -/
structure Spo (f : LF) (d : D) : Prop where
  nt : Nt (44 + f.rank) d
  len : (txt d).length ≤ f.mx2
  bad : f.good d = false
/-! ### _law_bad -/
mutual
def LF.p : LF → PyData
  | .i => .str (S [105])
  | .w => .str (S [119])
  | .s => .str (S [115])
  | .t => .str (S [116])
  | .m => .str (S [45])
  | .or a b => .tuple [.str (S [111, 114]), a.p, b.p]
  | .any a => .tuple [.str (S [97, 110, 121]), a.p]
  | .row l => .tuple (.str (S [114, 111, 119]) :: LF.ps l)
def LF.ps : List LF → List PyData
  | [] => []
  | f :: l => f.p :: LF.ps l
end
mutual
theorem LF.toP_d : ∀ f : LF, toP f.d = some f.p
  | .i => by simp only [LF.d, LF.p, toP]
  | .w => by simp only [LF.d, LF.p, toP]
  | .s => by simp only [LF.d, LF.p, toP]
  | .t => by simp only [LF.d, LF.p, toP]
  | .m => by simp only [LF.d, LF.p, toP]
  | .or a b => by
    have h1 := LF.toP_d a
    have h2 := LF.toP_d b
    simp only [LF.d, LF.p, toP, toPs, h1, h2, Option.map_some]
  | .any a => by
    have h1 := LF.toP_d a
    simp only [LF.d, LF.p, toP, toPs, h1, Option.map_some]
  | .row l => by
    have h1 := LF.toPs_ds l
    simp only [LF.d, LF.p, toP, toPs, h1, Option.map_some]
theorem LF.toPs_ds : ∀ l : List LF, toPs (LF.ds l) = some (LF.ps l)
  | [] => by simp only [LF.ds, LF.ps, toPs]
  | f :: l => by
    have h1 := LF.toP_d f
    have h2 := LF.toPs_ds l
    simp only [LF.ds, LF.ps, toPs, h1, h2]
end
theorem LF.shaped {f : LF} (h : f.rank ≤ 40) : SeqAt.shaped f.p = true := by
  obtain ⟨p, e, c, l⟩ := LF.dt f.rank f (Nat.le_refl _)
  rw [LF.toP_d] at e
  cases e
  exact shaped_of c l (by omega)
/-- a form is that of an item's event -/
def LF.isE : LF → Bool
  | .or .i .w => true
  | _ => false
def LF.badV (f : LF) : D := if f.isLi = true then .str (S [110, 111]) else if f.isE = true then .non else .int 7
theorem LF.eqv_i : ∀ f : LF, PyData.eqv f.p (.str (S [105])) = f.isLi
  | .i => by simp [LF.p, PyData.eqv, LF.isLi]
  | .w => by simp [LF.p, PyData.eqv, LF.isLi]
  | .s => by simp [LF.p, PyData.eqv, LF.isLi]
  | .t => by simp [LF.p, PyData.eqv, LF.isLi]
  | .m => by simp [LF.p, PyData.eqv, LF.isLi]
  | .or _ _ => by simp [LF.p, PyData.eqv, LF.isLi]
  | .any _ => by simp [LF.p, PyData.eqv, LF.isLi]
  | .row _ => by simp [LF.p, PyData.eqv, LF.isLi]
theorem LF.eqv_w : ∀ f : LF, PyData.eqv f.p (.str (S [119])) = f.isLw
  | .i => by simp [LF.p, PyData.eqv, LF.isLw]
  | .w => by simp [LF.p, PyData.eqv, LF.isLw]
  | .s => by simp [LF.p, PyData.eqv, LF.isLw]
  | .t => by simp [LF.p, PyData.eqv, LF.isLw]
  | .m => by simp [LF.p, PyData.eqv, LF.isLw]
  | .or _ _ => by simp [LF.p, PyData.eqv, LF.isLw]
  | .any _ => by simp [LF.p, PyData.eqv, LF.isLw]
  | .row _ => by simp [LF.p, PyData.eqv, LF.isLw]
theorem LF.isE_or (a b : LF) : LF.isE (.or a b) = (a.isLi && b.isLw) := by
  cases a <;> cases b <;> rfl
theorem LF.eqv_e : ∀ f : LF, PyData.eqv f.p (.tuple [.str (S [111, 114]), .str (S [105]), .str (S [119])]) = f.isE
  | .i => by simp [LF.p, PyData.eqv, LF.isE]
  | .w => by simp [LF.p, PyData.eqv, LF.isE]
  | .s => by simp [LF.p, PyData.eqv, LF.isE]
  | .t => by simp [LF.p, PyData.eqv, LF.isE]
  | .m => by simp [LF.p, PyData.eqv, LF.isE]
  | .or a b => by
    rw [LF.isE_or]
    simp [LF.p, PyData.eqv, PyData.eqvAll, LF.eqv_i a, LF.eqv_w b]
  | .any a => by simp [LF.p, PyData.eqv, PyData.eqvAll, LF.isE]
  | .row l => by simp [LF.p, PyData.eqv, PyData.eqvAll, LF.isE]
theorem LF.eqP_i {f : LF} (h : f.rank ≤ 40) : eqP f.d (.str (S [105])) = some (.bl f.isLi) := by
  have e1 := LF.toP_d f
  have e2 := LF.shaped h
  have e3 := LF.eqv_i f
  have e4 : SeqAt.shaped (.str (S [105])) = true := LF.shaped (f := .i) (by simp [LF.rank])
  have e6 : toP (.str (S [105])) = some (.str (S [105])) := LF.toP_d .i
  unfold eqP eqB
  cases f with
  | i => simp [LF.d, LF.isLi]
  | w => simp [LF.d, LF.isLi]
  | s => simp [LF.d, LF.isLi]
  | t => simp [LF.d, LF.isLi]
  | m => simp [LF.d, LF.isLi]
  | or a b => simp only [LF.d] at e1 ⊢; simp only [e1, e6, e2, e4, e3, and_self, if_true, Option.map_some]
  | any a => simp only [LF.d] at e1 ⊢; simp only [e1, e6, e2, e4, e3, and_self, if_true, Option.map_some]
  | row l => simp only [LF.d] at e1 ⊢; simp only [e1, e6, e2, e4, e3, and_self, if_true, Option.map_some]
theorem LF.eqP_e {f : LF} (h : f.rank ≤ 40) : eqP f.d (.tup [.str (S [111, 114]), .str (S [105]), .str (S [119])]) = some (.bl f.isE) := by
  have e1 := LF.toP_d f
  have e2 := LF.shaped h
  have e3 := LF.eqv_e f
  have e4 : SeqAt.shaped (.tuple [.str (S [111, 114]), .str (S [105]), .str (S [119])]) = true := LF.shaped (f := .or .i .w) (by simp [LF.rank])
  have e5 : toP (.tup [.str (S [111, 114]), .str (S [105]), .str (S [119])]) = some (.tuple [.str (S [111, 114]), .str (S [105]), .str (S [119])]) := LF.toP_d (.or .i .w)
  unfold eqP eqB
  cases f <;> (simp only [LF.d] at e1 ⊢; simp only [e1, e5, e2, e4, e3, and_self, if_true, Option.map_some])
theorem s_no : ("no" : Str) = S [110, 111] := by decide +kernel
theorem f_bad {f : LF} {s : Sto} (h : f.rank ≤ 40) : F_law_bad [f.d] s = .ok f.badV s := by
  refine fn_run rfl ?_ (Nat.le_refl _)
  unfold b_law_bad startD
  rw [s_i, s_w, s_or, s_no]
  unfold LF.badV
  cases q1 : f.isLi
  · cases q2 : f.isE
    · simp [LF.eqP_i h, LF.eqP_e h, q1, q2, three_le]
    · simp [LF.eqP_i h, LF.eqP_e h, q1, q2, three_le]
  · simp [LF.eqP_i h, q1]
end K97

set_option Elab.async false
set_option linter.all false
set_option autoImplicit false
set_option maxRecDepth 100000
set_option maxHeartbeats 4000000
set_option exponentiation.threshold 5000
/-! P15: _law_spoilt. -/
namespace K97
open PySem PySem.Spec PyProof.Rows L2 FL
open SX
theorem good_seven : ∀ {f : LF}, f.isLi = false → f.isOr = false → f.good (.int 7) = false
  | .i, h, _ => by simp [LF.isLi] at h
  | .w, _, _ => by simp [LF.good, isW]
  | .s, _, _ => by simp [LF.good]
  | .t, _, _ => by simp [LF.good, isT]
  | .m, _, _ => by simp [LF.good, isN]
  | .or _ _, _, h => by simp [LF.isOr] at h
  | .any _, _, _ => by simp [LF.good]
  | .row _, _, _ => by simp [LF.good]
theorem badV_bad {f : LF} (h : f.ok2 = true) : f.good f.badV = false := by
  unfold LF.badV
  by_cases q1 : f.isLi = true
  · rw [if_pos q1]
    cases f <;> simp_all [LF.isLi, LF.good, isI]
  · rw [if_neg q1]
    by_cases q2 : f.isE = true
    · rw [if_pos q2]
      cases f with
      | or a b =>
        rw [LF.isE_or] at q2
        cases a <;> simp_all [LF.isLi]
        cases b <;> simp_all [LF.isLw, LF.good, isI, isW]
      | _ => simp [LF.isE] at q2
    · rw [if_neg q2]
      cases f with
      | or a b =>
        simp only [LF.ok2, Bool.and_eq_true] at h
        obtain ⟨⟨⟨⟨h1, h2⟩, h3⟩, h4⟩, h5⟩ := h
        rw [LF.isE_or] at q2
        have ha : a.isLi = false := by
          cases z : a.isLi
          · rfl
          · rw [z] at h2 q2
            simp at h2 q2
            rw [h2] at q2
            cases q2
        have hb : b.good (.int 7) = false := by
          cases b <;> simp_all [LF.isA, LF.good, isW, isN]
        simp only [LF.good, good_seven ha (by simpa using h3), hb, Bool.or_self]
      | i => simp [LF.isLi] at q1
      | w => exact good_seven rfl rfl
      | s => exact good_seven rfl rfl
      | t => exact good_seven rfl rfl
      | m => exact good_seven rfl rfl
      | any a => exact good_seven rfl rfl
      | row l => exact good_seven rfl rfl
theorem wd_no : Wd [110, 111] := ⟨110, [111], rfl, by decide, by simp; decide, by decide⟩
theorem int_small {i : Int} (h : i.natAbs < 10) : (txt (.int i)).length ≤ 2 := by
  rw [txt_int]
  exact intL_len (k := 1) (by decide) (by omega)
theorem seven_len : (txt (.int 7)).length ≤ 4 := by
  have := int_small (i := 7) (by decide)
  omega
theorem ten200 : (7 : Int).natAbs < 10 ^ 200 := by decide
theorem bad_spo {f : LF} (h : f.ok2 = true) : Spo f f.badV := by
  have h4 := LF.mx4 f
  refine ⟨?_, ?_, badV_bad h⟩
  · unfold LF.badV
    split
    · exact nt_str.mpr wd_no
    · split
      · exact nt_non
      · exact nt_int.mpr ten200
  · unfold LF.badV
    split
    · rw [txt_str]; show 2 ≤ _; omega
    · split
      · rw [txt_non]; show 1 ≤ _; omega
      · have := seven_len; omega
theorem big_lt {t : Int} (h : t.natAbs < 10 ^ 24) : t.natAbs < 10 ^ 200 := Nat.lt_of_lt_of_le h (by decide)
theorem int_len25 {t : Int} (h : t.natAbs < 10 ^ 25) : (txt (.int t)).length ≤ 26 := by rw [txt_int]; exact intL_len (by decide) h
theorem pair_spo {x y : D} (hx : Nt 0 x) (hy : Nt 0 y) (lx : (txt x).length ≤ 26) (ly : (txt y).length ≤ 26) (h : prB x y = false) : Spo .s (.tup [x, y]) := by
  refine ⟨?_, ?_, by simpa [LF.good] using h⟩
  · refine (nt_tup (k := 0)).mpr (fun d hd => ?_) |>.le (by omega)
    simp only [List.mem_cons, List.not_mem_nil, or_false] at hd
    rcases hd with rfl | rfl <;> assumption
  · have z := len_tup_le (ds := [x, y]) (m := 26) fun d hd => by
      simp only [List.mem_cons, List.not_mem_nil, or_false] at hd
      rcases hd with rfl | rfl <;> assumption
    simp only [List.length_cons, List.length_nil] at z
    simp only [LF.mx2]
    omega
theorem f_spair {draw t m : Int} {s : Sto} (h : Pr t m) (hd : 0 ≤ draw) : ∃ d', F_law_spoilt_pair [.int draw, .tup [.int t, .int m]] s = .ok d' s ∧ Spo .s d' ∧ isW d' = false ∧ isN d' = false := by
  obtain ⟨h1, h2, h3, h4⟩ := h
  have p24 : 10 ^ 24 < 2 ^ (100 + 1) := by decide
  have e1 : mulP (.int t) (.int 3) = some (.int (t * 3)) := v_mul (mulW (a := 100) (b := 1) (by omega) (by decide) (by decide))
  have e2 : mulP (.int m) (.int 3) = some (.int (m * 3)) := v_mul (mulW (a := 100) (b := 1) (by omega) (by decide) (by decide))
  have n3 : ∀ x : Int, x.natAbs < 10 ^ 24 → (x * 3).natAbs < 10 ^ 25 := fun x hx => by rw [Int.natAbs_mul]; show x.natAbs * 3 < _; omega
  have b25 : ∀ x : Int, x.natAbs < 10 ^ 25 → Nt 0 (.int x) := fun x hx => nt_int.mpr (Nat.lt_of_lt_of_le hx (by decide))
  have w25 : ∀ x : Int, x.natAbs < 10 ^ 24 → x.natAbs < 10 ^ 25 := fun x hx => Nat.lt_of_lt_of_le hx (by decide)
  have mk : ∀ ds, ((b_law_spoilt_pair (startD 2 [.int draw, .tup [.int t, .int m]]) s).fin = .ok (.tup ds) s) → Spo .s (.tup ds) → ∃ d', F_law_spoilt_pair [.int draw, .tup [.int t, .int m]] s = .ok d' s ∧ Spo .s d' ∧ isW d' = false ∧ isN d' = false := fun ds e q => ⟨.tup ds, fn_run rfl e (Nat.le_refl _), q, rfl, rfl⟩
  have b5 : draw % 5 = 0 ∨ draw % 5 = 1 ∨ draw % 5 = 2 ∨ draw % 5 = 3 ∨ draw % 5 = 4 := by omega
  rcases b5 with q | q | q | q | q
  · refine mk [.int (t * 3), .int (m * 3)] ?_ (pair_spo (b25 _ (n3 t h3)) (b25 _ (n3 m h4)) (int_len25 (n3 t h3)) (int_len25 (n3 m h4)) ?_)
    · unfold b_law_spoilt_pair startD
      simp [v_mod, q, atI_nat, e1, e2, two_le]
    · simp only [prB]
      rw [Int.gcd_mul_right, h2]
      simp
  · refine mk [.int t, .int 0] ?_ (pair_spo (b25 _ (w25 t h3)) (b25 _ (by decide)) (int_len25 (w25 t h3)) (int_len25 (by decide)) ?_)
    · unfold b_law_spoilt_pair startD
      simp [v_mod, q, atI_nat, two_le]
    · simp [prB]
  · refine mk [.int (-t), .int (-m)] ?_ (pair_spo (b25 _ (by rw [Int.natAbs_neg]; exact w25 t h3)) (b25 _ (by rw [Int.natAbs_neg]; exact w25 m h4)) (int_len25 (by rw [Int.natAbs_neg]; exact w25 t h3)) (int_len25 (by rw [Int.natAbs_neg]; exact w25 m h4)) ?_)
    · unfold b_law_spoilt_pair startD
      simp [v_mod, q, atI_nat, two_le]
    · simp [prB]; omega
  · refine mk [.int t, .str (S [110, 111])] ?_ (pair_spo (b25 _ (w25 t h3)) (nt_str.mpr wd_no) (int_len25 (w25 t h3)) (by rw [txt_str]; decide) ?_)
    · unfold b_law_spoilt_pair startD
      rw [s_no]
      simp [v_mod, q, atI_nat, two_le]
    · simp [prB]
  · refine mk [.int t] ?_ ⟨?_, ?_, ?_⟩
    · unfold b_law_spoilt_pair startD
      simp [v_mod, q, v_slT, cut_init]
    · exact ((nt_tup (k := 0)).mpr fun d hd => by rw [List.mem_singleton.mp hd]; exact b25 _ (w25 t h3)).le (by omega)
    · have z := len_tup_le (ds := [.int t]) (m := 26) fun d hd => by rw [List.mem_singleton.mp hd]; exact int_len25 (w25 t h3)
      simp only [List.length_cons, List.length_nil] at z
      simp only [LF.mx2]
      omega
    · simp [LF.good]
end K97

set_option Elab.async false
set_option linter.all false
set_option autoImplicit false
set_option maxRecDepth 100000
set_option maxHeartbeats 4000000
set_option exponentiation.threshold 5000
/-! P16: _law_spoilt. -/
namespace K97
open PySem PySem.Spec PyProof.Rows L2 FL
open SX
def LF.isIWT : LF → Bool
  | .i => true
  | .w => true
  | .t => true
  | _ => false
theorem in_iwt {f : LF} (h : f.rank ≤ 40) : inP f.d (.fls [.str (S [105]), .str (S [119]), .str (S [116])]) = some (.bl f.isIWT) := by
  have e1 := LF.toP_d f
  have e2 := LF.shaped h
  have e4 : SeqAt.shaped (.list [.str (S [105]), .str (S [119]), .str (S [116])]) = true := by decide +kernel
  have e5 : toPs [.str (S [105]), .str (S [119]), .str (S [116])] = some [.str (S [105]), .str (S [119]), .str (S [116])] := by simp only [toPs, toP]
  have e : inB f.d (.fls [.str (S [105]), .str (S [119]), .str (S [116])]) = match toP f.d, toPs [.str (S [105]), .str (S [119]), .str (S [116])] with
    | some d, some es => if SeqAt.shaped d = true ∧ SeqAt.shaped (.list es) = true then some (es.any fun z => PyData.eqv z d) else none
    | _, _ => none := by
    cases f <;> (simp only [LF.d]; unfold inB; rfl)
  unfold inP
  rw [e, e1, e5]
  simp only [e2, e4, and_self, if_true, Option.map_some]
  cases f <;> simp [LF.p, PyData.eqv, LF.isIWT]
theorem v_eqe {k : Nat} {ds : List D} (h : Dt k (.tup ds)) (hk : k ≤ 64) : eqP (.tup ds) (.tup []) = some (.bl ds.isEmpty) := by
  obtain ⟨p, e, c, l⟩ := h
  have e2 : toP (.tup []) = some (.tuple []) := by simp only [toP, toPs, Option.map_some]
  have e3 : SeqAt.shaped (.tuple []) = true := by decide +kernel
  unfold eqP
  rw [eqB_data (k := 64) (Nat.le_refl _) e c (by omega) e2 (by simp only [PyData.canLay0, PyData.canLayAll0]) (by simp only [PyData.depth, PyData.depthAll]; omega) (fun _ _ => trivial) (.inl ⟨ds, rfl⟩)]
  simp only [toP] at e
  cases ds with
  | nil => simp only [toPs, Option.map_some] at e; cases e; simp [PyData.eqv, PyData.eqvAll]
  | cons d ds =>
    cases z : toPs (d :: ds) with
    | none => rw [z] at e; cases e
    | some ps =>
      rw [z] at e
      cases e
      cases ps with
      | nil =>
        simp only [toPs] at z
        cases z1 : toP d <;> cases z2 : toPs ds <;> simp [z1, z2] at z
      | cons p ps => simp [PyData.eqv, PyData.eqvAll]
/-- an item replaced -/
def repl (ds : List D) (k : Nat) (x : D) : List D := ds.take k ++ [x] ++ ds.drop (k + 1)
theorem repl_len {ds : List D} {k : Nat} {x : D} (h : k < ds.length) : (repl ds k x).length = ds.length := by
  unfold repl; simp; omega
theorem repl_mem {ds : List D} {k : Nat} {x y : D} (h : y ∈ repl ds k x) : y = x ∨ y ∈ ds := by
  unfold repl at h
  simp only [List.mem_append, List.mem_singleton] at h
  rcases h with (h | h) | h
  · exact .inr (List.mem_of_mem_take h)
  · exact .inl h
  · exact .inr (List.mem_of_mem_drop h)
theorem repl_has {ds : List D} {k : Nat} {x : D} : x ∈ repl ds k x := by unfold repl; simp
theorem any_spo {a : LF} {ds : List D} (hn : ∀ d ∈ ds, Nt (44 + a.rank) d) (hl : ∀ d ∈ ds, (txt d).length ≤ a.mx2) (hc : ds.length ≤ 4) {x : D} (hx : x ∈ ds) (hb : a.good x = false) : Spo (.any a) (.tup ds) := by
  refine ⟨?_, ?_, ?_⟩
  · have := nt_tup.mpr hn
    simp only [LF.rank]
    exact this.le (by omega)
  · have z := len_tup_le hl
    have := Nat.mul_le_mul_right (a.mx2 + 1) hc
    simp only [LF.mx2]
    omega
  · simp only [LF.good]
    rw [List.all_eq_false]
    exact ⟨x, hx, by rw [hb]; decide⟩
theorem FitsL.lens : ∀ {l : List LF} {ds : List D}, FitsL l ds → l.length = ds.length
  | _, _, .nil => rfl
  | .cons f l, .cons d ds, .cons h t => congrArg (· + 1) (FitsL.lens t)
theorem FitsL.at_ : ∀ {l : List LF} {ds : List D} {k : Nat} {d : D}, FitsL l ds → ds[k]? = some d → ∃ f, l[k]? = some f ∧ Fits f d
  | _, _, k, d, .nil, h => by simp at h
  | .cons f l, .cons d0 ds, 0, d, .cons h t, e => by
    simp at e
    subst e
    exact ⟨f, rfl, h⟩
  | .cons f l, .cons d0 ds, k + 1, d, .cons h t, e => by
    obtain ⟨g, h1, h2⟩ := FitsL.at_ (l := l) (ds := ds) (k := k) t (by simpa using e)
    exact ⟨g, by simpa using h1, h2⟩
theorem goods_repl : ∀ {l : List LF} {ds : List D} {k : Nat} {f : LF} {x : D}, l[k]? = some f → l.length = ds.length → f.good x = false → LF.goods l (repl ds k x) = false
  | [], _, k, _, _, h, _, _ => by simp at h
  | _ :: _, [], _, _, _, _, h, _ => by simp at h
  | g :: l, d :: ds, 0, f, x, h, hl, hb => by
    simp at h
    subst h
    show LF.goods (g :: l) (x :: ds) = false
    simp only [LF.goods, hb, Bool.false_and]
  | g :: l, d :: ds, k + 1, f, x, h, hl, hb => by
    show LF.goods (g :: l) (d :: repl ds k x) = false
    have := goods_repl (l := l) (ds := ds) (k := k) (f := f) (x := x) (by simpa using h) (by simpa using hl) hb
    simp only [LF.goods, this, Bool.and_false]
theorem FitsL.len2 {l : List LF} {ds : List D} (h : FitsL l ds) : sumL (ds.map txt) ≤ LF.mxs2 l := Nat.le_trans h.len (LF.mxs_le l)
theorem sum_repl : ∀ {l : List LF} {ds : List D} {k : Nat} {f : LF} {x : D}, FitsL l ds → l[k]? = some f → (txt x).length ≤ f.mx2 → sumL ((repl ds k x).map txt) ≤ LF.mxs2 l
  | [], _, k, _, _, _, h, _ => by simp at h
  | .cons g l, .cons d ds, 0, f, x, .cons h t, e, hb => by
    simp at e
    subst e
    have := t.len2
    show (txt x).length + 1 + sumL (ds.map txt) ≤ _
    simp only [LF.mxs2]
    omega
  | .cons g l, .cons d ds, k + 1, f, x, .cons h t, e, hb => by
    have := sum_repl (k := k) (f := f) (x := x) t (by simpa using e) hb
    have h1 := Nat.le_trans h.len (LF.mx_le g)
    show (txt d).length + 1 + sumL ((repl ds k x).map txt) ≤ _
    simp only [LF.mxs2]
    omega
theorem goods_short : ∀ {l : List LF} {ds : List D}, ds.length < l.length → LF.goods l ds = false
  | [], _, h => by simp at h
  | _ :: _, [], _ => by simp only [LF.goods]
  | f :: l, d :: ds, h => by
    simp only [LF.goods, goods_short (l := l) (ds := ds) (by simpa using h), Bool.and_false]
theorem sum_take : ∀ (n : Nat) (ds : List D), sumL ((ds.take n).map txt) ≤ sumL (ds.map txt)
  | 0, _ => Nat.zero_le _
  | n + 1, [] => Nat.le_refl _
  | n + 1, d :: ds => by
    have := sum_take n ds
    show (txt d).length + 1 + sumL ((ds.take n).map txt) ≤ (txt d).length + 1 + sumL (ds.map txt)
    omega
theorem row_spo {l : List LF} {ds : List D} (hn : ∀ d ∈ ds, Nt (44 + LF.ranks l) d) (hl : sumL (ds.map txt) ≤ LF.mxs2 l) (hb : LF.goods l ds = false) : Spo (.row l) (.tup ds) := by
  refine ⟨?_, ?_, by simpa only [LF.good] using hb⟩
  · have := nt_tup.mpr hn
    simp only [LF.rank]
    exact this.le (by omega)
  · rw [len_tup]
    have := joinL_len (ds.map txt)
    simp only [LF.mx2]
    omega
/-- the end of the spoiling -/
def SpQ (f : LF) (d : D) (draw : Int) (s : Sto) (r : R D) : Prop := ∃ d', r = .ok d' s ∧ Spo f d' ∧ (isT d = true → draw % 4 ≠ 0 → isW d' = false ∧ isN d' = false)
theorem spq_mk {k : Nat} {f : LF} {d : D} {draw : Int} {s : Sto} {d' : D} (e : (b_law_spoilt (F_law_spoilt k) (startD 7 [.int draw, f.d, d]) s).fin = .ok d' s) (h : Spo f d') (h2 : isT d = true → draw % 4 ≠ 0 → isW d' = false ∧ isN d' = false) :
    SpQ f d draw s (F_law_spoilt (k + 1) [.int draw, f.d, d] s) := ⟨d', fn_run rfl e (Nat.le_refl _), h, h2⟩
theorem bad_nw {f : LF} (h1 : f.isLi = false) (h2 : f.isE = false) : isW f.badV = false ∧ isN f.badV = false := by
  unfold LF.badV
  rw [h1, h2]
  exact ⟨rfl, rfl⟩
/-- draw % 4 = 0: the whole item -/
theorem spo_zero {k : Nat} {f : LF} {d : D} {draw : Int} {s : Sto} (hr : f.rank ≤ 40) (ho : f.ok2 = true) (q : draw % 4 = 0) : SpQ f d draw s (F_law_spoilt (k + 1) [.int draw, f.d, d] s) := by
  refine spq_mk (d' := f.badV) ?_ (bad_spo ho) fun _ z => absurd q z
  unfold b_law_spoilt startD
  have c4 : CDivW draw 4 := divW (by decide) (by decide)
  simp [v_mod, v_div c4, q, f_bad hr]
/-- i, w, t: the whole item -/
theorem spo_iwt {k : Nat} {f : LF} {d : D} {draw : Int} {s : Sto} (hr : f.rank ≤ 40) (ho : f.ok2 = true) (hi : f.isIWT = true) (hnt : isT d = true → f.isLi = false) : SpQ f d draw s (F_law_spoilt (k + 1) [.int draw, f.d, d] s) := by
  refine spq_mk (d' := f.badV) ?_ (bad_spo ho) fun z _ => ?_
  · unfold b_law_spoilt startD
    rw [s_i, s_w, s_t]
    have c4 : CDivW draw 4 := divW (by decide) (by decide)
    simp [v_mod, v_div c4, f_bad hr, three_le, in_iwt hr, hi]
  · exact bad_nw (hnt z) (by cases f <;> simp_all [LF.isIWT, LF.isE])
/-- None: the whole item -/
theorem spo_non {k : Nat} {f : LF} {draw : Int} {s : Sto} (hr : f.rank ≤ 40) (ho : f.ok2 = true) : SpQ f .non draw s (F_law_spoilt (k + 1) [.int draw, f.d, .non] s) := by
  refine spq_mk (d' := f.badV) ?_ (bad_spo ho) fun z _ => absurd z (by decide)
  unfold b_law_spoilt startD
  rw [s_i, s_w, s_t]
  have c4 : CDivW draw 4 := divW (by decide) (by decide)
  simp [v_mod, v_div c4, f_bad hr, three_le, in_iwt hr]
end K97

set_option Elab.async false
set_option linter.all false
set_option autoImplicit false
set_option maxRecDepth 100000
set_option maxHeartbeats 4000000
set_option exponentiation.threshold 5000
/-! P17: _law_spoilt, every form. -/
namespace K97
open PySem PySem.Spec PyProof.Rows L2 FL
open SX
theorem v_addT {xs ys : List D} (h : xs.length + ys.length ≤ sizeLine) : addP (.tup xs) (.tup ys) = some (.tup (xs ++ ys)) := if_pos h
theorem fits_tup_or {a b : LF} {ds : List D} (h : Fits (.or a b) (.tup ds)) (hb : b.isA = true) : Fits a (.tup ds) := by
  cases h with
  | or1 h => exact h
  | or2 h => cases b <;> first | (cases h; done) | (simp [LF.isA] at hb)
theorem fits_kind {f : LF} {d : D} (h : Fits f d) : isT d = false → d = .non ∨ isiF isaT [d, .ty "tuple"] [] = .ok (.bl false) [] := by
  intro z
  rcases h.nt.kinds with rfl | ⟨i, rfl, hi⟩ | ⟨l, rfl, hw⟩ | ⟨j, ds, e, rfl, hs⟩
  · exact .inl rfl
  · exact .inr ty_it
  · exact .inr ty_st
  · simp [isT] at z
theorem LF.oks2_mem : ∀ {l : List LF}, LF.oks2 l = true → ∀ f ∈ l, f.ok2 = true
  | [], _, f, h => absurd h (by simp)
  | g :: l, h, f, hf => by
    simp only [LF.oks2, Bool.and_eq_true] at h
    rcases List.mem_cons.mp hf with rfl | hf
    · exact h.1
    · exact LF.oks2_mem h.2 f hf
theorem f_spoilt : ∀ (k : Nat) (f : LF) (d : D), f.rank < k → k ≤ 20 → f.ok = true → f.ok2 = true → Fits f d → ∀ (draw : Int) (s : Sto), 0 ≤ draw → SpQ f d draw s (F_law_spoilt k [.int draw, f.d, d] s) := by
  intro k
  induction k with
  | zero => intro f d h; exact absurd h (by omega)
  | succ k ih =>
    intro f d hk hk40 hok ho2 hfit draw s hdraw
    have hr : f.rank ≤ 40 := by omega
    by_cases q0 : draw % 4 = 0
    · exact spo_zero hr ho2 q0
    have c4 : CDivW draw 4 := divW (by decide) (by decide)
    have r0 : 0 ≤ draw / 4 := Int.ediv_nonneg hdraw (by decide)
    have hnt := hfit.nt
    have hdt := hnt.dt
    have hfd := LF.dt f.rank f (Nat.le_refl _)
    have hiw := in_iwt hr
    cases f with
    | i => exact spo_iwt hr ho2 rfl (fun z => by cases hfit; simp [isT] at z)
    | w => exact spo_iwt hr ho2 rfl (fun z => rfl)
    | t => exact spo_iwt hr ho2 rfl (fun z => rfl)
    | m =>
      cases hfit
      exact spo_non hr ho2
    | s =>
      cases hfit with
      | s h =>
        rename_i t m
        obtain ⟨d', e, hs, hw, hn⟩ := f_spair (s := s) h r0
        refine spq_mk (d' := d') ?_ hs fun _ _ => ⟨hw, hn⟩
        unfold b_law_spoilt startD
        rw [s_i, s_w, s_t, s_s]
        simp only [LF.d, LF.isIWT] at hiw ⊢
        simp [v_mod, v_div c4, q0, three_le, hiw, e]
    | or a b =>
      simp only [LF.ok, Bool.and_eq_true] at hok
      have ho3 := ho2
      simp only [LF.ok2, Bool.and_eq_true] at ho3
      simp only [LF.rank] at hk hr hfd
      simp only [LF.d, LF.isIWT] at hiw hfd
      have q : ∀ c, eqP (.tup [.str (S [111, 114]), a.d, b.d]) (.str (S [c])) = if c < 0x110000 then some (.bl false) else eqP (.tup [.str (S [111, 114]), a.d, b.d]) (.str (S [c])) := fun c => by
        split
        · exact v_eqts hfd (by omega) (by simpa)
        · rfl
      have hbad := f_bad (f := .or a b) (s := s) (by simpa only [LF.rank] using hr)
      simp only [LF.d] at hbad
      cases hd : isT d
      · have hnn : ∀ hz : isiF isaT [d, .ty "tuple"] s = .ok (.bl false) s, isNP d .non = some (.bl (isN d)) → SpQ (.or a b) d draw s (F_law_spoilt (k + 1) [.int draw, (LF.or a b).d, d] s) := fun hz hn => by
          refine spq_mk (d' := LF.badV (.or a b)) ?_ (bad_spo ho2) fun z _ => by rw [hd] at z; cases z
          unfold b_law_spoilt startD
          rw [s_i, s_w, s_t, s_s, s_or]
          simp only [LF.d]
          cases hN : isN d
          · rw [hN] at hn
            simp [v_mod, v_div c4, q0, three_le, hiw, q, hz, hn, hbad]
          · rw [hN] at hn
            simp [v_mod, v_div c4, q0, three_le, hiw, q, hz, hn, hbad]
        have hz := isT_ty (s := s) hnt
        rw [hd] at hz
        exact hnn hz (isN_is hnt)
      · obtain ⟨ds, rfl⟩ : ∃ ds, d = .tup ds := by cases d <;> simp_all [isT]
        have hfa := fits_tup_or hfit ho3.1.1.1.1
        obtain ⟨d', e, hs, hw⟩ := ih a (.tup ds) (by omega) (by omega) hok.1 ho3.1.2 hfa draw s hdraw
        have hwn := hw rfl q0
        refine spq_mk (d' := d') ?_ ⟨hs.nt.le (by simp only [LF.rank]; omega), Nat.le_trans hs.len (by simp only [LF.mx2]; omega), ?_⟩ fun _ _ => hwn
        · unfold b_law_spoilt startD
          rw [s_i, s_w, s_t, s_s, s_or]
          simp only [LF.d]
          simp [v_mod, v_div c4, q0, three_le, hiw, q, atI_nat, e]
        · have hb : b.good d' = false := by
            have := ho3.1.1.1.1
            cases b <;> simp_all [LF.isA, LF.good]
          simp only [LF.good, hs.bad, hb, Bool.or_self]
    | any a =>
      simp only [LF.ok] at hok
      simp only [LF.ok2] at ho2
      simp only [LF.rank] at hk hr hfd
      simp only [LF.d, LF.isIWT] at hiw hfd
      cases hfit with
      | any hl h =>
        rename_i ds
        have hn1 : ∀ d ∈ ds, Nt (44 + a.rank) d := fun d hd => (h d hd).nt.le (by omega)
        have hl1 : ∀ d ∈ ds, (txt d).length ≤ a.mx2 := fun d hd => Nat.le_trans (h d hd).len (LF.mx_le a)
        have q : ∀ c, eqP (.tup [.str (S [97, 110, 121]), a.d]) (.str (S [c])) = if c < 0x110000 then some (.bl false) else eqP (.tup [.str (S [97, 110, 121]), a.d]) (.str (S [c])) := fun c => by
          split
          · exact v_eqts hfd (by omega) (by simpa)
          · rfl
        have he := v_eqe (hdt.le (m := 64) (by simp only [LF.rank]; omega)) (Nat.le_refl _)
        have sz : sizeLine = 16777216 := rfl
        by_cases q1 : draw % 4 = 1 ∨ ds.isEmpty = true
        · have hb := bad_spo ho2
          refine spq_mk (d' := .tup (ds ++ [a.badV])) ?_ (any_spo (x := a.badV) ?_ ?_ ?_ ?_ hb.bad) fun _ _ => ⟨rfl, rfl⟩
          · unfold b_law_spoilt startD
            rw [s_i, s_w, s_t, s_s, s_or, s_any]
            simp only [LF.d]
            have z1 : 1 ≤ sizeLine := by decide
            have hadd : addP (.tup ds) (.tup [a.badV]) = some (.tup (ds ++ [a.badV])) := v_addT (by rw [List.length_singleton]; omega)
            rcases q1 with q1 | q1
            · simp [v_mod, v_div c4, q0, q1, three_le, z1, hiw, q, atI_nat, hadd, f_bad (f := a) (s := s) (by omega)]
            · rw [q1] at he
              by_cases q2 : draw % 4 = 1
              · simp [v_mod, v_div c4, q0, q2, three_le, z1, hiw, q, atI_nat, hadd, f_bad (f := a) (s := s) (by omega)]
              · simp [v_mod, v_div c4, q0, q2, three_le, zero_le, z1, hiw, q, he, atI_nat, hadd, f_bad (f := a) (s := s) (by omega)]
          · exact fun x hx => (List.mem_append.mp hx).elim (hn1 x) fun z => by rw [List.mem_singleton.mp z]; exact hb.nt
          · exact fun x hx => (List.mem_append.mp hx).elim (hl1 x) fun z => by rw [List.mem_singleton.mp z]; exact hb.len
          · rw [List.length_append, List.length_singleton]; omega
          · simp
        · have q2 : ¬ draw % 4 = 1 := fun z => q1 (.inl z)
          have hne : 0 < ds.length := by
            cases ds with
            | nil => exact absurd (.inr rfl) q1
            | cons => simp
          have he2 : ds.isEmpty = false := by
            cases z : ds.isEmpty
            · rfl
            · exact absurd (.inr z) q1
          rw [he2] at he
          have hlp : (0 : Int) < (ds.length : Int) := by omega
          have m0 : 0 ≤ draw / 4 % (ds.length : Int) := Int.emod_nonneg _ (by omega)
          have m1 : draw / 4 % (ds.length : Int) < ds.length := Int.emod_lt_of_pos _ hlp
          obtain ⟨w, hw⟩ : ∃ w : Nat, draw / 4 % (ds.length : Int) = w := ⟨(draw / 4 % (ds.length : Int)).toNat, by omega⟩
          rw [hw] at m1
          have hwl : w < ds.length := by omega
          have r1 : 0 ≤ draw / 4 / (ds.length : Int) := Int.ediv_nonneg r0 (by omega)
          obtain ⟨x, e, hs, hx⟩ := ih a ds[w] (by omega) (by omega) hok ho2 (h _ (List.getElem_mem hwl)) (draw / 4 / (ds.length : Int)) s r1
          have cl : CDivW (draw / 4) (ds.length : Int) := divW hlp (by omega)
          have hix : atI ds (w : Int) = some ds[w] := by rw [atI_nat (by omega), Int.toNat_natCast, List.getElem?_eq_getElem hwl]
          have hc1 : cutL ds none (some (w : Int)) = ds.take w := cut_to (by omega)
          have hc2 : cutL ds (some ((w : Int) + 1)) none = ds.drop (w + 1) := cut_from (k := w + 1) (by omega)
          have ha1 : addP (.tup (ds.take w)) (.tup [x]) = some (.tup (ds.take w ++ [x])) := v_addT (by simp; omega)
          have ha2 : addP (.tup (ds.take w ++ [x])) (.tup (ds.drop (w + 1))) = some (.tup (repl ds w x)) := v_addT (by simp; omega)
          refine spq_mk (d' := .tup (repl ds w x)) ?_ (any_spo (x := x) ?_ ?_ (by rw [repl_len hwl]; omega) repl_has hs.bad) fun _ _ => ⟨rfl, rfl⟩
          · unfold b_law_spoilt startD
            rw [s_i, s_w, s_t, s_s, s_or, s_any, s_row]
            simp only [LF.d]
            have z1 : 1 ≤ sizeLine := by decide
            simp [v_mod, v_div c4, q0, q2, three_le, zero_le, z1, hiw, q, he, atI_nat, hne, hw, List.getElem?_eq_getElem hwl, v_div cl, e, v_slT, hc1, hc2, ha1, ha2]
          · exact fun y hy => (repl_mem hy).elim (fun z => by rw [z]; exact hs.nt) (hn1 y)
          · exact fun y hy => (repl_mem hy).elim (fun z => by rw [z]; exact hs.len) (hl1 y)
    | row l =>
      simp only [LF.ok, Bool.and_eq_true, decide_eq_true_eq] at hok
      simp only [LF.ok2, Bool.and_eq_true] at ho2
      simp only [LF.rank] at hk hr hfd
      simp only [LF.d, LF.isIWT, LF.ds_map] at hiw hfd
      cases hfit with
      | row h =>
        rename_i ds
        have hlen := h.lens
        have hne : 0 < ds.length := by
          cases l with
          | nil => simp at ho2
          | cons => rw [← hlen]; simp
        have hn1 : ∀ d ∈ ds, Nt (44 + LF.ranks l) d := fun d hd => (h.nt d hd).le (by omega)
        have q : ∀ c, eqP (.tup (.str (S [114, 111, 119]) :: l.map LF.d)) (.str (S [c])) = if c < 0x110000 then some (.bl false) else eqP (.tup (.str (S [114, 111, 119]) :: l.map LF.d)) (.str (S [c])) := fun c => by
          split
          · exact v_eqts hfd (by omega) (by simpa)
          · rfl
        have sz : sizeLine = 16777216 := rfl
        by_cases q2 : draw % 4 = 1
        · refine spq_mk (d' := .tup (ds.take (ds.length - 1))) ?_ (row_spo ?_ (Nat.le_trans (sum_take _ ds) h.len2) (goods_short (by rw [List.length_take]; omega))) fun _ _ => ⟨rfl, rfl⟩
          · unfold b_law_spoilt startD
            rw [s_i, s_w, s_t, s_s, s_or, s_any, s_row]
            simp only [LF.d, LF.ds_map]
            simp [v_mod, v_div c4, q0, q2, three_le, zero_le, hiw, q, v_slT, cut_init]
          · exact fun x hx => hn1 x (List.mem_of_mem_take hx)
        · have hlp : (0 : Int) < (ds.length : Int) := by omega
          have hll : ds.length ≤ 6 := by omega
          have m0 : 0 ≤ draw / 4 % (ds.length : Int) := Int.emod_nonneg _ (by omega)
          have m1 : draw / 4 % (ds.length : Int) < ds.length := Int.emod_lt_of_pos _ hlp
          obtain ⟨w, hw⟩ : ∃ w : Nat, draw / 4 % (ds.length : Int) = w := ⟨(draw / 4 % (ds.length : Int)).toNat, by omega⟩
          rw [hw] at m1
          have hwl : w < ds.length := by omega
          have r1 : 0 ≤ draw / 4 / (ds.length : Int) := Int.ediv_nonneg r0 (by omega)
          obtain ⟨g, hg, hfg⟩ := h.at_ (List.getElem?_eq_getElem hwl)
          have hgm : g ∈ l := List.mem_of_getElem? hg
          have hgr := LF.ranks_mem hgm
          have hgo2 : g.ok2 = true := LF.oks2_mem ho2.2 g hgm
          obtain ⟨x, e, hs, hx⟩ := ih g ds[w] (by omega) (by omega) (LF.oks_mem hok.2 g hgm) hgo2 hfg (draw / 4 / (ds.length : Int)) s r1
          have cl : CDivW (draw / 4) (ds.length : Int) := divW hlp (by omega)
          have hix : atI ds (w : Int) = some ds[w] := by rw [atI_nat (by omega), Int.toNat_natCast, List.getElem?_eq_getElem hwl]
          have hix2 : atI (D.str (S [114, 111, 119]) :: l.map LF.d) (1 + (w : Int)) = some g.d := by
            rw [atI_nat (by omega), show (1 + (w : Int)).toNat = w + 1 by omega, List.getElem?_cons_succ, List.getElem?_map, hg]; rfl
          obtain ⟨y, hy⟩ : ∃ y, atI (D.str (S [114, 111, 119]) :: l.map LF.d) 1 = some y := by
            rw [atI_nat (by omega)]
            cases l with
            | nil => simp at ho2
            | cons f l => exact ⟨f.d, rfl⟩
          have hc1 : cutL ds none (some (w : Int)) = ds.take w := cut_to (by omega)
          have hc2 : cutL ds (some ((w : Int) + 1)) none = ds.drop (w + 1) := cut_from (k := w + 1) (by omega)
          have ha1 : addP (.tup (ds.take w)) (.tup [x]) = some (.tup (ds.take w ++ [x])) := v_addT (by simp; omega)
          have ha2 : addP (.tup (ds.take w ++ [x])) (.tup (ds.drop (w + 1))) = some (.tup (repl ds w x)) := v_addT (by simp; omega)
          refine spq_mk (d' := .tup (repl ds w x)) ?_ (row_spo ?_ (sum_repl h hg hs.len) (goods_repl hg hlen hs.bad)) fun _ _ => ⟨rfl, rfl⟩
          · unfold b_law_spoilt startD
            rw [s_i, s_w, s_t, s_s, s_or, s_any, s_row]
            simp only [LF.d, LF.ds_map]
            have z1 : 1 ≤ sizeLine := by decide
            simp [v_mod, v_div c4, q0, q2, three_le, zero_le, z1, hiw, q, hne, hw, hix, hix2, hy, v_div cl, e, v_slT, hc1, hc2, ha1, ha2]
          · exact fun y hy => (repl_mem hy).elim (fun z => by rw [z]; exact hs.nt.le (by omega)) (hn1 y)
end K97

set_option Elab.async false
set_option linter.all false
set_option autoImplicit false
set_option maxRecDepth 100000
set_option maxHeartbeats 4000000
set_option exponentiation.threshold 5000
/-! P18: _law_pool. -/
namespace K97
open PySem PySem.Spec PyProof.Rows L2 FL
open SX
def digL : List Nat := [51, 49, 52, 49, 53, 57, 50, 54, 53, 51, 53, 56, 57, 55, 57, 51, 50, 51, 56, 52, 54, 50, 54, 52, 51, 51, 56, 51, 50, 55, 57, 53, 48, 50, 56, 56, 52, 49, 57, 55, 49, 54, 57, 51, 57, 57, 51, 55, 53, 49, 48, 53, 56, 50, 48, 57, 55, 52, 57, 52, 52]
theorem s_pi : ("3141592653589793238462643383279502884197169399375105820974944" : Str) = S digL := by decide +kernel
theorem dig_ok : ∀ c ∈ digL, 48 ≤ c ∧ c ≤ 57 := by decide
theorem v_digit {c : Nat} {s : Sto} (h : 48 ≤ c ∧ c ≤ 57) : intF [.str (S [c])] s = .ok (.int ((c : Int) - 48)) s := by
  have e := int_S (a := [c]) (by simp; omega) (by simp) (by rw [List.length_singleton]; omega)
  have e2 : NumText.digitsVal [c] = c - 48 := by simp [NumText.digitsVal]
  rw [e2] at e
  show (match intText? (S [c]) with
    | some n => if (S [c]).length ≤ 640 then R.ok (D.int n) s else .bad
    | none => .bad) = _
  rw [e]
  show (if (S [c]).length ≤ 640 then R.ok (D.int ((c - 48 : Nat) : Int)) s else .bad) = _
  rw [if_pos (by rw [S_len, List.length_singleton]; omega)]
  congr 2
  omega
/-- the pool while it is filled -/
def PoolI (sc : D) (m k : Nat) (τ : Env') (s : Sto) : Prop := ∃ (p : List Int) (o3 o4 o5 o6 : Option D), τ = [some sc, some (.str (S digL)), some (.obj 0), o3, o4, o5, o6, none, none] ∧ s = [.lst (p.map D.int)] ∧ p.length ≤ m * k ∧ ∀ x ∈ p, Dr x
def PoolJ (sc : D) (m : Nat) (o3 : Option D) (k : Nat) (τ : Env') (s : Sto) : Prop := ∃ (p : List Int) (o5 o6 : Option D) (sz : Int), τ = [some sc, some (.str (S digL)), some (.obj 0), o3, some (.int sz), o5, o6, none, none] ∧ s = [.lst (p.map D.int)] ∧ p.length ≤ m + k ∧ (∀ x ∈ p, Dr x) ∧ 0 ≤ sz
def PoolL (sc : D) (m : Nat) (o3 : Option D) (sz : Int) (k : Nat) (τ : Env') (s : Sto) : Prop := ∃ (p : List Int) (o5 o6 : Option D), τ = [some sc, some (.str (S digL)), some (.obj 0), o3, some (.int sz), o5, o6, none, none] ∧ s = [.lst (p.map D.int)] ∧ p.length ≤ m + k ∧ ∀ x ∈ p, Dr x
def PoolK (sc : D) (m : Nat) (t : Int) (k : Nat) (τ : Env') (s : Sto) : Prop := ∃ (p : List Int) (o3 o4 o5 o6 o8 : Option D), τ = [some sc, some (.str (S digL)), some (.obj 0), o3, o4, o5, o6, some (.int t), o8] ∧ s = [.lst (p.map D.int)] ∧ k ≤ p.length ∧ p.length ≤ m + k ∧ ∀ x ∈ p, Dr x
def PoolQ (d : D) (s : Sto) : Prop := ∃ p : List Int, d = .obj 0 ∧ s = [.lst (p.map D.int)] ∧ 160 ≤ p.length ∧ ∀ x ∈ p, Dr x
theorem map_snoc {p : List Int} {x : Int} : p.map D.int ++ [.int x] = (p ++ [x]).map D.int := by simp
theorem asInts_map : ∀ p : List Int, asInts (p.map D.int) = some p
  | [] => rfl
  | x :: p => by
    show (asInts (p.map D.int)).map (x :: ·) = _
    rw [asInts_map p]; rfl
theorem sum_nn : ∀ {p : List Int}, (∀ x ∈ p, Dr x) → 0 ≤ p.sum
  | [], _ => by simp
  | x :: p, h => by
    have := (h x (List.mem_cons_self ..)).1
    have := sum_nn fun y hy => h y (List.mem_cons_of_mem _ hy)
    rw [List.sum_cons]
    omega
theorem mem_snoc {p : List Int} {x : Int} (h : ∀ y ∈ p, Dr y) (hx : Dr x) : ∀ y ∈ p ++ [x], Dr y := fun y hy => (List.mem_append.mp hy).elim (h y) fun z => by rw [List.mem_singleton.mp z]; exact hx
theorem pool_out {ns : List Int} (hn : ns.length ≤ 63) : OutS (b_law_pool (startD 9 [.wls (ns.map .int)]) []) (fun _ _ => False) PoolQ := by
  unfold b_law_pool startD
  rw [s_pi]
  obtain ⟨m, hm, hm63, hmn⟩ : ∃ m : Nat, (if (63 : Int) < (ns.length : Int) then (63 : Int) else (ns.length : Int)) = (m : Int) ∧ m ≤ 63 ∧ m ≤ ns.length := ⟨ns.length, by rw [if_neg (by omega)], hn, Nat.le_refl _⟩
  have hr : rng1F (.int (if (63 : Int) < (ns.length : Int) then (63 : Int) else (ns.length : Int))) = some (rngL 0 m) := by rw [hm]; exact rng1_nat (by omega)
  have sz : sizeLine = 16777216 := rfl
  simp [oS, oT, oB, zero_le, hr]
  refine out_rng (I := PoolI (.wls (ns.map .int)) 60) ?_ ?_ ?_
  · rintro k hk τ s ⟨p, o3, o4, o5, o6, rfl, rfl, hp, hd⟩
    obtain ⟨x, hx⟩ : ∃ x, atI (ns.map D.int) (k : Int) = some (.int x) := by
      rw [atI_map, atI_nat (by omega), Int.toNat_natCast, List.getElem?_eq_getElem (by omega)]
      exact ⟨_, rfl⟩
    have e10 : powP (.int 10) (.int 18) = some (.int 1000000000000000000) := v_pow (pow2 (a := 3) (by decide) (by decide) (by decide))
    obtain ⟨B, hB, eB⟩ : ∃ B : Int, 0 < B ∧ powP (.int 720720) (.int 60) = some (.int B) := ⟨720720 ^ (60 : Int).toNat, by decide, v_pow (pow2 (a := 19) (by decide) (by decide) (by decide))⟩
    obtain ⟨w, hw⟩ : ∃ w : Nat, (if x < 0 then -x else x) = (w : Int) := ⟨x.natAbs, abs_if x⟩
    by_cases q : (1000000000000000000 : Int) ≤ (w : Int)
    · obtain ⟨w60, hw60, r60⟩ : ∃ w : Nat, w = 60 ∧ rng1F (.int 60) = some (rngL 0 w) := ⟨60, rfl, rng1_int rfl (by decide)⟩
      have m0 : 0 ≤ (w : Int) % B := Int.emod_nonneg _ (by omega)
      simp [oS, oT, oB, hx, hw, e10, q, eB, v_mod hB, r60]
      refine out_rng (I := PoolJ (.wls (ns.map .int)) (60 * k) (some (.int k))) ?_ ⟨p, o5, o6, _, rfl, rfl, by omega, hd, m0⟩ ?_
      · rintro j hj τ s ⟨p, o5, o6, z, rfl, rfl, hp, hd, hz⟩
        by_cases q2 : 0 < z
        · have c1 : CDivW z 720720 := divW (by decide) (by decide)
          have hap : ∀ y, appF 0 (p.map D.int) [y] [.lst (p.map D.int)] = .ok .non ([O.lst (p.map D.int)].set 0 (.lst (p.map D.int ++ [y]))) := fun y => v_app (by rw [List.length_map]; omega)
          have hat : lstAt (.obj 0) [.lst (p.map D.int)] = some (0, p.map D.int) := v_at rfl
          simp [oS, oT, oB, q2, v_mod, v_div c1, hat, hap]
          refine ⟨p ++ [z % 720720], _, _, z / 720720, rfl, by rw [map_snoc], by simp; omega, mem_snoc hd ⟨Int.emod_nonneg _ (by decide), ?_⟩, Int.ediv_nonneg hz (by decide)⟩
          have := Int.emod_lt_of_pos z (show (0 : Int) < 720720 by decide)
          omega
        · simp [oS, oT, oB, q2]
          exact ⟨p, _, _, z, rfl, rfl, by omega, hd, hz⟩
      · rintro τ s ⟨p, o5, o6, z, rfl, rfl, hp, hd, hz⟩
        exact ⟨p, _, _, _, _, rfl, rfl, by omega, hd⟩
    · obtain ⟨w3, hw3, r3⟩ : ∃ w : Nat, w = 3 ∧ rng1F (.int 3) = some (rngL 0 w) := ⟨3, rfl, rng1_int rfl (by decide)⟩
      have e2 : mulP (.int 2) (.int w) = some (.int (2 * w)) := v_mul (mulW (a := 1) (b := 61) (by decide) (by omega) (by decide))
      have e9 : mulP (.int 9) (.int k) = some (.int (9 * k)) := v_mul (mulW (a := 3) (b := 6) (by decide) (by omega) (by decide))
      obtain ⟨g, hg, hg2⟩ : ∃ g : Int, g = 2 * (w : Int) + (if x < 0 then 1 else 0) + 9 * (k : Int) ∧ 0 ≤ g ∧ g < 2 ^ 62 := by
        refine ⟨_, rfl, ?_⟩
        split <;> omega
      simp [oS, oT, oB, hx, hw, e10, q, e2, e9, r3]
      rw [← hg]
      refine out_rng (I := PoolL (.wls (ns.map .int)) (60 * k) (some (.int k)) g) ?_ ⟨p, o5, o6, rfl, rfl, by omega, hd⟩ ?_
      · rintro j hj τ s ⟨p, o5, o6, rfl, rfl, hp, hd⟩
        have f1 : mulP (.int g) (.int 48271) = some (.int (g * 48271)) := v_mul (mulW (a := 62) (b := 16) (by omega) (by decide) (by decide))
        have f2 : mulP (.int j) (.int 40014) = some (.int (j * 40014)) := v_mul (mulW (a := 2) (b := 16) (by omega) (by decide) (by decide))
        have f3 : powP (.int (g * 48271 + j * 40014 + 12345)) (.int 2) = some (.int ((g * 48271 + j * 40014 + 12345) ^ 2)) := v_pow (pow2 (a := 80) (by decide) (by omega) (by decide))
        generalize (g * 48271 + j * 40014 + 12345) ^ 2 = y at f3
        have n0 : 0 ≤ y % 2147483647 := Int.emod_nonneg _ (by decide)
        have n1 : y % 2147483647 < 2147483647 := Int.emod_lt_of_pos _ (by decide)
        have c1 : CDivW (y % 2147483647) 97 := divW (by decide) (by decide)
        have hap : ∀ y, appF 0 (p.map D.int) [y] [.lst (p.map D.int)] = .ok .non ([O.lst (p.map D.int)].set 0 (.lst (p.map D.int ++ [y]))) := fun y => v_app (by rw [List.length_map]; omega)
        have hat : lstAt (.obj 0) [.lst (p.map D.int)] = some (0, p.map D.int) := v_at rfl
        simp [oS, oT, oB, f1, f2, f3, v_mod, v_div c1, hat, hap]
        refine ⟨p ++ [y % 2147483647 / 97], _, _, rfl, by rw [map_snoc], by simp; omega, mem_snoc hd ⟨by omega, by omega⟩⟩
      · rintro τ s ⟨p, o5, o6, rfl, rfl, hp, hd⟩
        exact ⟨p, _, _, _, _, rfl, rfl, by omega, hd⟩
  · exact ⟨[], none, none, none, none, rfl, rfl, by simp, by simp⟩
  · rintro τ s ⟨p, o3, o4, o5, o6, rfl, rfl, hp, hd⟩
    obtain ⟨w, hw, r160⟩ : ∃ w : Nat, w = 160 ∧ rng1F (.int 160) = some (rngL 0 w) := ⟨160, rfl, rng1_int rfl (by decide)⟩
    have hsum : sumF [.obj 0] [.lst (p.map D.int)] = .ok (.int p.sum) [.lst (p.map D.int)] := by
      show R.of ((asInts (p.map D.int)).map fun ns => D.int ns.sum) _ = _
      rw [asInts_map]; rfl
    have hs := sum_nn hd
    generalize p.sum = t at hsum hs
    simp [oS, oT, oB, hsum, r160]
    refine out_rng (I := PoolK (.wls (ns.map .int)) 3780 t) ?_ ⟨p, _, _, _, _, none, rfl, rfl, by omega, by omega, hd⟩ ?_
    · rintro k hk τ s ⟨p, o3, o4, o5, o6, o8, rfl, rfl, hp, hp2, hd⟩
      have f1 : mulP (.int k) (.int 7) = some (.int (k * 7)) := v_mul (mulW (a := 8) (b := 2) (by omega) (by decide) (by decide))
      have c1 : CDivW k 61 := divW (by decide) (by decide)
      have c2 : CDivW t 61 := divW (by decide) (by decide)
      have f2 : mulP (.int ((k : Int) / 61)) (.int 5) = some (.int ((k : Int) / 61 * 5)) := v_mul (mulW (a := 8) (b := 2) (by omega) (by decide) (by decide))
      obtain ⟨c, hc, hcm⟩ := atI_in (l := digL) (i := ((k : Int) * 7 + (k : Int) / 61 * 5 + t) % 61) (Int.emod_nonneg _ (by decide)) (Int.emod_lt_of_pos _ (by decide))
      obtain ⟨d, hdd, hdm⟩ := atI_in (l := digL) (i := ((k : Int) + t / 61) % 61) (Int.emod_nonneg _ (by decide)) (Int.emod_lt_of_pos _ (by decide))
      have g1 := dig_ok c hcm
      have g2 := dig_ok d hdm
      have i1 : ixS (.str (S digL)) (.int (((k : Int) * 7 + (k : Int) / 61 * 5 + t) % 61)) [.lst (p.map D.int)] = some (.str (S [c])) := by rw [v_ixStr (by decide), hc]; rfl
      have i2 : ixS (.str (S digL)) (.int (((k : Int) + t / 61) % 61)) [.lst (p.map D.int)] = some (.str (S [d])) := by rw [v_ixStr (by decide), hdd]; rfl
      have f3 : mulP (.int 10) (.int ((c : Int) - 48)) = some (.int (10 * ((c : Int) - 48))) := v_mul (mulW (a := 3) (b := 4) (by decide) (by omega) (by decide))
      have hap : ∀ y, appF 0 (p.map D.int) [y] [.lst (p.map D.int)] = .ok .non ([O.lst (p.map D.int)].set 0 (.lst (p.map D.int ++ [y]))) := fun y => v_app (by rw [List.length_map]; omega)
      have hat : lstAt (.obj 0) [.lst (p.map D.int)] = some (0, p.map D.int) := v_at rfl
      simp [oS, oT, oB, f1, f2, f3, v_mod, v_div c1, v_div c2, i1, i2, v_digit g1, v_digit g2, hat, hap]
      refine ⟨p ++ [10 * ((c : Int) - 48) + ((d : Int) - 48)], _, _, _, _, _, rfl, by rw [map_snoc], by simp; omega, by simp; omega, mem_snoc hd ⟨by omega, by omega⟩⟩
    · rintro τ s ⟨p, o3, o4, o5, o6, o8, rfl, rfl, hp, hp2, hd⟩
      simp [oS, oT, oB]
      exact ⟨p, rfl, rfl, by omega, hd⟩
theorem f_pool {ns : List Int} (hn : ns.length ≤ 63) : ∃ p, F_law_pool [.wls (ns.map .int)] [] = .ok (.fls (p.map D.int)) [] ∧ 160 ≤ p.length ∧ Pool p := by
  have h := pool_out hn
  show ∃ p, fnM 1 9 b_law_pool [.wls (ns.map .int)] [] = _ ∧ _
  cases q : b_law_pool (startD 9 [.wls (ns.map .int)]) [] with
  | rt d s =>
    rw [q] at h
    obtain ⟨p, rfl, rfl, h1, h2⟩ := h
    refine ⟨p, ?_, h1, by omega, h2⟩
    unfold fnM
    rw [if_pos (show [D.wls (ns.map .int)].length = 1 from rfl), q]
    have hl : StillL (p.map D.int) := stillL_of fun d hd => by
      obtain ⟨x, _, rfl⟩ := List.mem_map.mp hd
      exact still_int
    show trimR 0 (.ok (.obj 0) [.lst (p.map D.int)]) = _
    simp only [trimR, List.length_singleton, subD, look, subS, List.take_zero, hl _]
    simp [hl _]
  | _ => rw [q] at h; exact h.elim
end K97

set_option Elab.async false
set_option linter.all false
set_option autoImplicit false
set_option maxRecDepth 100000
set_option maxHeartbeats 4000000
set_option exponentiation.threshold 5000
/-! P19: the twenty kinds; new objects. -/
namespace K97
open PySem PySem.Spec PyProof.Rows L2 FL
open SX
abbrev fNums : LF := .any .i
abbrev fRows : LF := .any (.row [.i, .or .i .w])
abbrev fLists : LF := .any fNums
abbrev fEvent : LF := .any (.or .i .w)
abbrev fEvents : LF := .any fEvent
abbrev fRefs : LF := .any (.row [.i, .i, fRows])
abbrev fPlans : LF := .any (.row [fNums, fLists])
abbrev fLevel : LF := .row [.i, .w, .or .s .m]
abbrev fHold : LF := .or (.row [.w, .i, fNums]) .m
abbrev fTriples : LF := .any (.row [.t, .i, .i])
abbrev fPairs : LF := .any (.row [.t, .t, fNums, fNums, fNums])
abbrev fName : LF := .or .w .m
/-- the kinds: word, forms -/
def kinds : List (Str × List LF) := [("shortage", [.row [.i, .i], .i, .i, fRows]), ("packing", [fLists]), ("tree", [.t]), ("levels", [.i, .s, fNums, .any .s, .any fLevel]), ("floors", [fPlans]), ("crowded", [fNums, .t]),
  ("settled", [.any .t, .any .t, fHold]), ("quote", [.i, .i, fLists, fRefs]), ("no-quote", [.i, fRefs]), ("blockers", [.i, .i, .any (.row [.w, .i, fRows])]), ("survival", [fPlans]), ("frail", [fNums, .t]),
  ("moves", [.i, .any (.row [.w, fNums])]), ("stuck", [.i, .any fLists]), ("kept", [fEvent, fTriples]), ("broken", [fEvent, fEvents]), ("wait", [.i, fName, fEvents, .any .t, fTriples]), ("ring", [.w, fEvents, fEvents]),
  ("pairs", [.w, fPairs]), ("parted", [.w, fEvents])]
theorem f_forms : F_law_forms [] [] = .ok (.fls (kinds.map fun k => .tup (.str k.1 :: k.2.map LF.d))) [] := by
  kernel_rfl
theorem kinds_forms : kinds.map (fun k => formsT k.1) = kinds.map (fun k => some (LF.row k.2).hf) := by kernel_rfl
theorem kinds_keys : kinds.map (fun k => formsK k.1) = kinds.map (fun k => some true) := by kernel_rfl
/-- what holds of every kind -/
def kindB (k : Str × List LF) : Bool := LF.oks k.2 && LF.oks2 k.2 && decide (LF.ranks k.2 ≤ 6) && decide (LF.rks k.2 ≤ 6) && decide (k.2.length ≤ 6) && !k.2.isEmpty && decide (LF.mxs2 k.2 ≤ 500000)
theorem kinds_ok : kinds.all kindB = true := by decide +kernel
/-! ### new objects -/
def initM : List Str → Nat → MS
  | [], _ => nilS
  | [f], i => fldS okT f (varM 0) (varM i)
  | f :: g :: r, i => seqS (fldS okT f (varM 0) (varM i)) (initM (g :: r) (i + 1))
theorem put_new {f : Str} {v : D} : ∀ {fs : List (Str × D)}, f ∉ fs.map (·.1) → putD f v fs = fs ++ [(f, v)]
  | [], _ => rfl
  | (g, x) :: r, h => by
    have h1 : ¬ g = f := fun e => h (by rw [← e]; simp)
    have h2 : f ∉ r.map (·.1) := fun e => h (List.mem_cons_of_mem _ e)
    show (if g = f then (g, v) :: r else (g, x) :: putD f v r) = _
    rw [if_neg h1, put_new h2]; rfl
def fldA (ok : Str → Str → Bool) (f : Str) (τ : Env') (y : D) (i : Nat) (o : Option O) (s : Sto) : RS := match o with
  | some (.ins C fs) => if ok C f = true ∧ fs.length < 1000 then .nx τ (s.set i (.ins C (putD f y fs))) else .bad
  | _ => .bad
@[simp] theorem fldA_ins {ok : Str → Str → Bool} {f C : Str} {τ : Env'} {y : D} {i : Nat} {fs : List (Str × D)} {s : Sto} : fldA ok f τ y i (some (.ins C fs)) s = if ok C f = true ∧ fs.length < 1000 then .nx τ (s.set i (.ins C (putD f y fs))) else .bad := (rfl)
def kFldb (ok : Str → Str → Bool) (f : Str) (τ : Env') (y : D) : D → Sto → RS := fun x s => match x with
  | .obj i => fldA ok f τ y i s[i]? s
  | _ => .bad
@[simp] theorem kFldb_app {ok : Str → Str → Bool} {f : Str} {τ : Env'} {y : D} {i : Nat} {s : Sto} : kFldb ok f τ y (.obj i) s = fldA ok f τ y i s[i]? s := (rfl)
def kFld (ok : Str → Str → Bool) (f : Str) (mo : M) (τ : Env') : D → Sto → RS := fun y s => (mo τ s).toS τ (kFldb ok f τ y)
@[simp] theorem kFld_app {ok : Str → Str → Bool} {f : Str} {mo : M} {τ : Env'} {y : D} {s : Sto} : kFld ok f mo τ y s = (mo τ s).toS τ (kFldb ok f τ y) := (rfl)
@[simp] theorem x_fld {ok : Str → Str → Bool} {f : Str} {mo me : M} {τ : Env'} {s : Sto} : fldS ok f mo me τ s = (me τ s).toS τ (kFld ok f mo τ) := by
  unfold fldS kFld kFldb fldA
  rfl
theorem init_run {C : Str} {a : Nat} {τ : Env'} (h0 : τ[0]? = some (some (.obj a))) : ∀ (fs : List Str) (xs : List D) (i : Nat) (done : List (Str × D)) (s : Sto), fs.length = xs.length → (∀ j x, xs[j]? = some x → τ[i + j]? = some (some x)) →
    s[a]? = some (.ins C done) → (∀ f ∈ fs, okT C f = true) → (done.map (·.1) ++ fs).Nodup → done.length + fs.length < 1000 → initM fs i τ s = .nx τ (s.set a (.ins C (done ++ fs.zip xs)))
  | [], [], i, done, s, _, _, hs, _, _, _ => by
    show RS.nx τ s = _
    congr 1
    rw [List.zip_nil_right, List.append_nil]
    have hl := (List.getElem?_eq_some_iff.mp hs).1
    apply List.ext_getElem?
    intro n
    by_cases q : n = a
    · subst q; rw [List.getElem?_set_self hl, hs]
    · rw [List.getElem?_set_ne (fun e => q e.symm)]
  | [], _ :: _, _, _, _, h, _, _, _, _, _ => by simp at h
  | _ :: _, [], _, _, _, h, _, _, _, _, _ => by simp at h
  | f :: fs, x :: xs, i, done, s, hl, hx, hs, hok, hnd, hlen => by
    have ex : τ[i]? = some (some x) := hx 0 x rfl
    have hsl := (List.getElem?_eq_some_iff.mp hs).1
    have hf : f ∉ done.map (·.1) := by
      have := List.nodup_append.mp hnd
      exact fun z => this.2.2 f z f (List.mem_cons_self ..) rfl
    have hlen2 : done.length + (fs.length + 1) < 1000 := by simpa using hlen
    have step : fldS okT f (varM 0) (varM i) τ s = .nx τ (s.set a (.ins C (done ++ [(f, x)]))) := by
      have hl2 : done.length < 1000 := by omega
      simp [ex, h0, hs, hok f (List.mem_cons_self ..), hl2, put_new hf]
    cases fs with
    | nil =>
      cases xs with
      | nil => exact step
      | cons => simp at hl
    | cons g r =>
      cases xs with
      | nil => simp at hl
      | cons y ys =>
        have ih := init_run (C := C) (a := a) (τ := τ) h0 (g :: r) (y :: ys) (i + 1) (done ++ [(f, x)]) (s.set a (.ins C (done ++ [(f, x)]))) (by simpa using hl)
          (fun j z hz => by rw [show i + 1 + j = i + (j + 1) by omega]; exact hx (j + 1) z (by simpa using hz)) (by rw [List.getElem?_set_self hsl]) (fun z hz => hok z (List.mem_cons_of_mem _ hz)) (by simpa using hnd) (by simp at hlen2 ⊢; omega)
        show seqS (fldS okT f (varM 0) (varM i)) (initM (g :: r) (i + 1)) τ s = _
        rw [x_seq, step, seq_nx, ih, List.set_set, List.append_assoc]
        rfl
theorem stillF_zip : ∀ {fs : List Str} {xs : List D}, StillL xs → StillF (fs.zip xs)
  | [], _, _ => by rw [List.zip_nil_left]; exact stillF_nil
  | _ :: _, [], _ => by rw [List.zip_nil_right]; exact stillF_nil
  | f :: fs, x :: xs, h => by
    rw [List.zip_cons_cons]
    exact stillF_cons (stillL_mem h x (List.mem_cons_self ..)) (stillF_zip (stillL_of fun y hy => stillL_mem h y (List.mem_cons_of_mem _ hy)))
/-- C(x, ..) for a plain __init__ -/
theorem f_new {C : Str} {fs : List Str} {xs : List D} {n N : Nat} {s : Sto} (hn : n = fs.length + 1) (hl : fs.length = xs.length) (hN : N = n) (hok : ∀ f ∈ fs, okT C f = true) (hnd : fs.Nodup) (hlen : fs.length < 1000) (hx : StillL xs) (hs : StillS s) :
    newF C (fnM n N (initM fs 1)) xs s = .ok (.ist C (fs.zip xs)) s := by
  subst hN
  subst hn
  have hst : startD (fs.length + 1) (.obj s.length :: xs) = some (.obj s.length) :: xs.map some := by
    unfold startD
    rw [List.length_cons, ← hl, Nat.sub_self]
    simp
  have run := init_run (C := C) (a := s.length) (τ := some (.obj s.length) :: xs.map some) rfl fs xs 1 [] (s ++ [.ins C []]) hl
    (fun j x hx => by rw [Nat.add_comm, List.getElem?_cons_succ, List.getElem?_map, hx]; rfl) (by simp) hok (by simpa using hnd) (by simpa using hlen)
  have e1 : fnM (fs.length + 1) (fs.length + 1) (initM fs 1) (.obj s.length :: xs) (s ++ [.ins C []]) = .ok .non (s ++ [.ins C (fs.zip xs)]) := by
    refine fn_run (by rw [List.length_cons, hl]) ?_ (by simp)
    rw [hst, run]
    simp
  unfold newF
  rw [e1]
  show trimR s.length (.ok (.obj s.length) (s ++ [.ins C (fs.zip xs)])) = _
  have hf := stillF_zip (fs := fs) hx
  have e2 : look (s ++ [.ins C (fs.zip xs)]) s.length 8 s.length = some (.ist C (fs.zip xs)) := by
    have e3 : (s ++ [O.ins C (fs.zip xs)])[s.length]? = some (.ins C (fs.zip xs)) := by simp
    unfold look
    rw [if_neg (Nat.lt_irrefl _), e3]
    simp only [hf _, Option.map_some]
  simp only [trimR, subD, e2, List.take_left, hs _]
  rw [if_neg (by simp)]
end K97

set_option Elab.async false
set_option linter.all false
set_option autoImplicit false
set_option maxRecDepth 100000
set_option maxHeartbeats 4000000
set_option exponentiation.threshold 5000
/-! P20: what a kind keeps. -/
namespace K97
open PySem PySem.Spec PyProof.Rows L2 FL
open SX
theorem f_plain : ∀ (k j : Nat) (d : D), Nt j d → j < k → (txt d).length < 1000000 → ∀ s, F_law_plain k [d] s = .ok (.bl true) s := by
  intro k
  induction k with
  | zero => intro j d _ h; exact absurd h (by omega)
  | succ k ih =>
    intro j d h hj hl s
    refine fn_run rfl ?_ (Nat.le_refl _)
    unfold b_law_plain startD
    rcases h.kinds with rfl | ⟨i, rfl, hi⟩ | ⟨l, rfl, hw⟩ | ⟨j, ds, rfl, rfl, hs⟩
    · simp
    · simp
    · simp [show isNP (.str (S l)) .non = some (.bl false) from rfl]
    · have e := compL_map (te := callM (F_law_plain k) (consA (varM 1) nilA)) (i := 1) (τ := [some (.tup ds), none]) (s := s) (fun _ => .bl true) ds 0 (fun d hd => by
        have := ih j d (hs d hd) (by omega) (by have := len_mem hd; omega) s
        simp [this]) (by have := size_txt hl; omega)
      have e2 := v_all (s := s) (fun _ : D => true) ds
      simp [wipeD, e, e2]
def tailS : MS := (retM (FL.andM (call1 (isiF isaT) (consA (varM 4) (consA (cM (.ty "tuple")) nilA))) (FL.andM (op2 eqP (varM 4) (varM 2)) (callM (F_law_plain 60) (consA (varM 4) nilA)))))
theorem tail_ok {j : Nat} {ds : List D} {o0 o1 o3 o5 : Option D} {s : Sto} (h : Nt j (.tup ds)) (hj : j < 60) (hl : (txt (.tup ds)).length < 1000000) : (tailS [o0, o1, some (.tup ds), o3, some (.tup ds), o5] s).fin = .ok (.bl true) s := by
  unfold tailS
  have e : eqP (.tup ds) (.tup ds) = some (.bl true) := by unfold eqP; rw [eqB_refl (h.dt.le (show j ≤ 64 by omega)) (Nat.le_refl _)]; rfl
  simp [e, f_plain 60 j _ h hj hl]
/-- what a kind keeps: its word, its forms, the certificate of its items -/
structure KindOk (i : Nat) (w : Str) (l : List LF) (bk : Bool) (cert : List D → D) : Prop where
  made : ∀ xs n, FitsL l xs → (if i < 10 then F_law_first else F_law_second) [.str w, .fls xs] [.lst [.int n]] = .ok (cert xs) [.lst [.int n]]
  book : inB (.str w) (.tup [.str "kept", .str "broken", .str "wait", .str "ring", .str "pairs", .str "parted"]) = some bk
  read : ∀ xs n, FitsL l xs → (if bk = true then F_certificate_of_books else F_certificate_of_states) [.str w, .tup xs] [.lst [.int n]] = .ok (cert xs) [.lst [.int n]]
  bad : ∀ ys n, Nt 50 (.tup ys) → (txt (.tup ys)).length < 900000 → LF.hass l ys = true → LF.goods l ys = false → (if bk = true then F_certificate_of_books else F_certificate_of_states) [.str w, .tup ys] [.lst [.int n]] = .exc "BadCertificate" [("subject", .str w)] [.lst [.int n]]
  same : ∀ xs n, FitsL l xs → Nt 59 (.tup (.str w :: xs)) → (txt (.tup (.str w :: xs))).length < 1000000 → F_law_same [cert xs, .int i, .tup (.str w :: xs)] [.lst [.int n]] = .ok (.bl true) [.lst [.int n]]
  text : ∀ xs n, FitsL l xs → Nt 59 (.tup (.str w :: xs)) → (txt (.tup (.str w :: xs))).length ≤ 1000000 → F_certificate_text [cert xs] [.lst [.int n]] = .ok (.str (S (txt (.tup (.str w :: xs))))) [.lst [.int n]]
  after : i = 6 → ∀ xs s, FitsL l xs → fldF okT "after" (cert xs) s = some .non
  still : ∀ xs, FitsL l xs → Still (cert xs)
theorem FitsL.still {l : List LF} {xs : List D} (h : FitsL l xs) : StillL xs := stillL_of fun d hd => (h.nt d hd).still
theorem spot_still {n : Int} : StillS [.lst [.int n]] := stillS_lst (stillL_cons still_int stillL_nil) stillS_nil
theorem no_bad {l : List LF} {ys : List D} (h : LF.noSs l = true) (h1 : LF.hass l ys = true) (h2 : LF.goods l ys = false) : False := by
  rw [LF.goods_noS l ys h, h1] at h2
  cases h2
theorem len1x {xs : List D} (h : xs.length = 1) : ∃ a, xs = [a] := by
  match xs, h with
  | [a], _ => exact ⟨a, rfl⟩
theorem len2x {xs : List D} (h : xs.length = 2) : ∃ a b, xs = [a, b] := by
  match xs, h with
  | [a, b], _ => exact ⟨a, b, rfl⟩
theorem len3x {xs : List D} (h : xs.length = 3) : ∃ a b c, xs = [a, b, c] := by
  match xs, h with
  | [a, b, c], _ => exact ⟨a, b, c, rfl⟩
theorem len4x {xs : List D} (h : xs.length = 4) : ∃ a b c d, xs = [a, b, c, d] := by
  match xs, h with
  | [a, b, c, d], _ => exact ⟨a, b, c, d, rfl⟩
theorem len5x {xs : List D} (h : xs.length = 5) : ∃ a b c d e, xs = [a, b, c, d, e] := by
  match xs, h with
  | [a, b, c, d, e], _ => exact ⟨a, b, c, d, e, rfl⟩
theorem len6x {xs : List D} (h : xs.length = 6) : ∃ a b c d e f, xs = [a, b, c, d, e, f] := by
  match xs, h with
  | [a, b, c, d, e, f], _ => exact ⟨a, b, c, d, e, f, rfl⟩
end K97

set_option Elab.async false
set_option linter.all false
set_option autoImplicit false
set_option maxRecDepth 100000
set_option maxHeartbeats 4000000
namespace K97
open PySem PySem.Spec PyProof.Rows L2 FL
open SX
def cert_Shortage : List D → D := fun xs => match xs with | [a, b, c, d] => (.ist ("Shortage" : Str) [(("gang" : Str), a), (("start" : Str), b), (("end" : Str), c), (("rows" : Str), d)]) | _ => .non
theorem new_Shortage {a b c d : D} {n : Int} (ha : Still a) (hb : Still b) (hc : Still c) (hd : Still d) : newF ("Shortage" : Str) F_Shortage_init [a, b, c, d] [.lst [.int n]] = .ok (.ist ("Shortage" : Str) [(("gang" : Str), a), (("start" : Str), b), (("end" : Str), c), (("rows" : Str), d)]) [.lst [.int n]] :=
  f_new (C := ("Shortage" : Str)) (fs := [("gang" : Str), ("start" : Str), ("end" : Str), ("rows" : Str)]) (n := 5) (N := 5) rfl rfl rfl (by decide +kernel) (by decide +kernel) (by decide) (stillL_cons ha (stillL_cons hb (stillL_cons hc (stillL_cons hd stillL_nil)))) spot_still
theorem made_Shortage {a b c d : D} {n : Int} (ha : Still a) (hb : Still b) (hc : Still c) (hd : Still d) : F_law_first [.str ("shortage" : Str), .fls [a, b, c, d]] [.lst [.int n]] = .ok (.ist ("Shortage" : Str) [(("gang" : Str), a), (("start" : Str), b), (("end" : Str), c), (("rows" : Str), d)]) [.lst [.int n]] := by
  refine fn_run rfl ?_ (Nat.le_refl _)
  have e0 : eqP (.str ("shortage" : Str)) (.str ("shortage" : Str)) = some (.bl true) := by kernel_rfl
  unfold b_law_first startD
  simp [e0, new_Shortage ha hb hc hd, atI_nat]
theorem read_Shortage {a b c d : D} {n : Int} (ha : Still a) (hb : Still b) (hc : Still c) (hd : Still d) : F_certificate_of_states [.str ("shortage" : Str), .tup [a, b, c, d]] [.lst [.int n]] = .ok (.ist ("Shortage" : Str) [(("gang" : Str), a), (("start" : Str), b), (("end" : Str), c), (("rows" : Str), d)]) [.lst [.int n]] := by
  refine fn_run rfl ?_ (Nat.le_refl _)
  have e : (b_certificate_of_states (startD 3 [.str ("shortage" : Str), .tup [a, b, c, d]]) [.lst [.int n]]).fin = ((newF ("Shortage" : Str) F_Shortage_init [a, b, c, d] [.lst [.int n]]).toS [some (.str ("shortage" : Str)), some (.tup [a, b, c, d]), none] fun d s => .rt d s).fin := by kernel_rfl
  rw [e, new_Shortage ha hb hc hd]; rfl
theorem same_Shortage {a b c d N : D} {n : Int} : (b_law_same (startD 6 [(.ist ("Shortage" : Str) [(("gang" : Str), a), (("start" : Str), b), (("end" : Str), c), (("rows" : Str), d)]), .int 0, N]) [.lst [.int n]]).fin = (tailS [some (.ist ("Shortage" : Str) [(("gang" : Str), a), (("start" : Str), b), (("end" : Str), c), (("rows" : Str), d)]), some (.int 0), some N, some (.bl false), some (.tup (.str ("shortage" : Str) :: [a, b, c, d])), none] [.lst [.int n]]).fin := by kernel_rfl
theorem text_Shortage {a b c d : D} {n : Int} : (b_certificate_text (startD 1 [(.ist ("Shortage" : Str) [(("gang" : Str), a), (("start" : Str), b), (("end" : Str), c), (("rows" : Str), d)])]) [.lst [.int n]]).fin = ((F_write_note 60 [.tup (.str ("shortage" : Str) :: [a, b, c, d])] [.lst [.int n]]).toS [some (.ist ("Shortage" : Str) [(("gang" : Str), a), (("start" : Str), b), (("end" : Str), c), (("rows" : Str), d)])] fun d s => .rt d s).fin := by kernel_rfl
theorem kind_Shortage : KindOk 0 ("shortage" : Str) [.row [.i, .i], .i, .i, fRows] false cert_Shortage where
  made := fun xs n h => by
    obtain ⟨a, b, c, d, rfl⟩ := len4x (h.lens.symm.trans rfl)
    exact made_Shortage (stillL_mem h.still a (by simp)) (stillL_mem h.still b (by simp)) (stillL_mem h.still c (by simp)) (stillL_mem h.still d (by simp))
  book := by kernel_rfl
  read := fun xs n h => by
    obtain ⟨a, b, c, d, rfl⟩ := len4x (h.lens.symm.trans rfl)
    exact read_Shortage (stillL_mem h.still a (by simp)) (stillL_mem h.still b (by simp)) (stillL_mem h.still c (by simp)) (stillL_mem h.still d (by simp))
  bad := fun ys n _ _ h1 h2 => (no_bad (by decide +kernel) h1 h2).elim
  same := fun xs n h hn hl => by
    obtain ⟨a, b, c, d, rfl⟩ := len4x (h.lens.symm.trans rfl)
    refine fn_run rfl ?_ (Nat.le_refl _)
    show (b_law_same (startD 6 [(.ist ("Shortage" : Str) [(("gang" : Str), a), (("start" : Str), b), (("end" : Str), c), (("rows" : Str), d)]), .int 0, _]) _).fin = _
    rw [same_Shortage]
    exact tail_ok hn (by decide) hl
  text := fun xs n h hn hl => by
    obtain ⟨a, b, c, d, rfl⟩ := len4x (h.lens.symm.trans rfl)
    refine fn_run rfl ?_ (Nat.le_refl _)
    show (b_certificate_text (startD 1 [(.ist ("Shortage" : Str) [(("gang" : Str), a), (("start" : Str), b), (("end" : Str), c), (("rows" : Str), d)])]) _).fin = _
    rw [text_Shortage, f_write 60 59 _ hn (by decide) hl]
    rfl
  after := fun e xs s h => by
    exact absurd e (by decide)
  still := fun xs h => by
    obtain ⟨a, b, c, d, rfl⟩ := len4x (h.lens.symm.trans rfl)
    exact still_ist (stillF_cons (stillL_mem h.still a (by simp)) (stillF_cons (stillL_mem h.still b (by simp)) (stillF_cons (stillL_mem h.still c (by simp)) (stillF_cons (stillL_mem h.still d (by simp)) stillF_nil))))
def cert_Packing : List D → D := fun xs => match xs with | [a] => (.ist ("Packing" : Str) [(("places" : Str), a)]) | _ => .non
theorem new_Packing {a : D} {n : Int} (ha : Still a) : newF ("Packing" : Str) F_Packing_init [a] [.lst [.int n]] = .ok (.ist ("Packing" : Str) [(("places" : Str), a)]) [.lst [.int n]] :=
  f_new (C := ("Packing" : Str)) (fs := [("places" : Str)]) (n := 2) (N := 2) rfl rfl rfl (by decide +kernel) (by decide +kernel) (by decide) (stillL_cons ha stillL_nil) spot_still
theorem made_Packing {a : D} {n : Int} (ha : Still a) : F_law_first [.str ("packing" : Str), .fls [a]] [.lst [.int n]] = .ok (.ist ("Packing" : Str) [(("places" : Str), a)]) [.lst [.int n]] := by
  refine fn_run rfl ?_ (Nat.le_refl _)
  have e0 : eqP (.str ("packing" : Str)) (.str ("shortage" : Str)) = some (.bl false) := by kernel_rfl
  have e1 : eqP (.str ("packing" : Str)) (.str ("packing" : Str)) = some (.bl true) := by kernel_rfl
  unfold b_law_first startD
  simp [e0, e1, new_Packing ha, atI_nat]
theorem read_Packing {a : D} {n : Int} (ha : Still a) : F_certificate_of_states [.str ("packing" : Str), .tup [a]] [.lst [.int n]] = .ok (.ist ("Packing" : Str) [(("places" : Str), a)]) [.lst [.int n]] := by
  refine fn_run rfl ?_ (Nat.le_refl _)
  have e : (b_certificate_of_states (startD 3 [.str ("packing" : Str), .tup [a]]) [.lst [.int n]]).fin = ((newF ("Packing" : Str) F_Packing_init [a] [.lst [.int n]]).toS [some (.str ("packing" : Str)), some (.tup [a]), none] fun d s => .rt d s).fin := by kernel_rfl
  rw [e, new_Packing ha]; rfl
theorem same_Packing {a N : D} {n : Int} : (b_law_same (startD 6 [(.ist ("Packing" : Str) [(("places" : Str), a)]), .int 1, N]) [.lst [.int n]]).fin = (tailS [some (.ist ("Packing" : Str) [(("places" : Str), a)]), some (.int 1), some N, some (.bl true), some (.tup (.str ("packing" : Str) :: [a])), none] [.lst [.int n]]).fin := by kernel_rfl
theorem text_Packing {a : D} {n : Int} : (b_certificate_text (startD 1 [(.ist ("Packing" : Str) [(("places" : Str), a)])]) [.lst [.int n]]).fin = ((F_write_note 60 [.tup (.str ("packing" : Str) :: [a])] [.lst [.int n]]).toS [some (.ist ("Packing" : Str) [(("places" : Str), a)])] fun d s => .rt d s).fin := by kernel_rfl
theorem kind_Packing : KindOk 1 ("packing" : Str) [fLists] false cert_Packing where
  made := fun xs n h => by
    obtain ⟨a, rfl⟩ := len1x (h.lens.symm.trans rfl)
    exact made_Packing (stillL_mem h.still a (by simp))
  book := by kernel_rfl
  read := fun xs n h => by
    obtain ⟨a, rfl⟩ := len1x (h.lens.symm.trans rfl)
    exact read_Packing (stillL_mem h.still a (by simp))
  bad := fun ys n _ _ h1 h2 => (no_bad (by decide +kernel) h1 h2).elim
  same := fun xs n h hn hl => by
    obtain ⟨a, rfl⟩ := len1x (h.lens.symm.trans rfl)
    refine fn_run rfl ?_ (Nat.le_refl _)
    show (b_law_same (startD 6 [(.ist ("Packing" : Str) [(("places" : Str), a)]), .int 1, _]) _).fin = _
    rw [same_Packing]
    exact tail_ok hn (by decide) hl
  text := fun xs n h hn hl => by
    obtain ⟨a, rfl⟩ := len1x (h.lens.symm.trans rfl)
    refine fn_run rfl ?_ (Nat.le_refl _)
    show (b_certificate_text (startD 1 [(.ist ("Packing" : Str) [(("places" : Str), a)])]) _).fin = _
    rw [text_Packing, f_write 60 59 _ hn (by decide) hl]
    rfl
  after := fun e xs s h => by
    exact absurd e (by decide)
  still := fun xs h => by
    obtain ⟨a, rfl⟩ := len1x (h.lens.symm.trans rfl)
    exact still_ist (stillF_cons (stillL_mem h.still a (by simp)) stillF_nil)
def cert_CaseTree : List D → D := fun xs => match xs with | [a] => (.ist ("CaseTree" : Str) [(("node" : Str), a)]) | _ => .non
theorem new_CaseTree {a : D} {n : Int} (ha : Still a) : newF ("CaseTree" : Str) F_CaseTree_init [a] [.lst [.int n]] = .ok (.ist ("CaseTree" : Str) [(("node" : Str), a)]) [.lst [.int n]] :=
  f_new (C := ("CaseTree" : Str)) (fs := [("node" : Str)]) (n := 2) (N := 2) rfl rfl rfl (by decide +kernel) (by decide +kernel) (by decide) (stillL_cons ha stillL_nil) spot_still
theorem made_CaseTree {a : D} {n : Int} (ha : Still a) : F_law_first [.str ("tree" : Str), .fls [a]] [.lst [.int n]] = .ok (.ist ("CaseTree" : Str) [(("node" : Str), a)]) [.lst [.int n]] := by
  refine fn_run rfl ?_ (Nat.le_refl _)
  have e0 : eqP (.str ("tree" : Str)) (.str ("shortage" : Str)) = some (.bl false) := by kernel_rfl
  have e1 : eqP (.str ("tree" : Str)) (.str ("packing" : Str)) = some (.bl false) := by kernel_rfl
  have e2 : eqP (.str ("tree" : Str)) (.str ("tree" : Str)) = some (.bl true) := by kernel_rfl
  unfold b_law_first startD
  simp [e0, e1, e2, new_CaseTree ha, atI_nat]
theorem read_CaseTree {a : D} {n : Int} (ha : Still a) : F_certificate_of_states [.str ("tree" : Str), .tup [a]] [.lst [.int n]] = .ok (.ist ("CaseTree" : Str) [(("node" : Str), a)]) [.lst [.int n]] := by
  refine fn_run rfl ?_ (Nat.le_refl _)
  have e : (b_certificate_of_states (startD 3 [.str ("tree" : Str), .tup [a]]) [.lst [.int n]]).fin = ((newF ("CaseTree" : Str) F_CaseTree_init [a] [.lst [.int n]]).toS [some (.str ("tree" : Str)), some (.tup [a]), none] fun d s => .rt d s).fin := by kernel_rfl
  rw [e, new_CaseTree ha]; rfl
theorem same_CaseTree {a N : D} {n : Int} : (b_law_same (startD 6 [(.ist ("CaseTree" : Str) [(("node" : Str), a)]), .int 2, N]) [.lst [.int n]]).fin = (tailS [some (.ist ("CaseTree" : Str) [(("node" : Str), a)]), some (.int 2), some N, some (.bl false), some (.tup (.str ("tree" : Str) :: [a])), none] [.lst [.int n]]).fin := by kernel_rfl
theorem text_CaseTree {a : D} {n : Int} : (b_certificate_text (startD 1 [(.ist ("CaseTree" : Str) [(("node" : Str), a)])]) [.lst [.int n]]).fin = ((F_write_note 60 [.tup (.str ("tree" : Str) :: [a])] [.lst [.int n]]).toS [some (.ist ("CaseTree" : Str) [(("node" : Str), a)])] fun d s => .rt d s).fin := by kernel_rfl
theorem kind_CaseTree : KindOk 2 ("tree" : Str) [.t] false cert_CaseTree where
  made := fun xs n h => by
    obtain ⟨a, rfl⟩ := len1x (h.lens.symm.trans rfl)
    exact made_CaseTree (stillL_mem h.still a (by simp))
  book := by kernel_rfl
  read := fun xs n h => by
    obtain ⟨a, rfl⟩ := len1x (h.lens.symm.trans rfl)
    exact read_CaseTree (stillL_mem h.still a (by simp))
  bad := fun ys n _ _ h1 h2 => (no_bad (by decide +kernel) h1 h2).elim
  same := fun xs n h hn hl => by
    obtain ⟨a, rfl⟩ := len1x (h.lens.symm.trans rfl)
    refine fn_run rfl ?_ (Nat.le_refl _)
    show (b_law_same (startD 6 [(.ist ("CaseTree" : Str) [(("node" : Str), a)]), .int 2, _]) _).fin = _
    rw [same_CaseTree]
    exact tail_ok hn (by decide) hl
  text := fun xs n h hn hl => by
    obtain ⟨a, rfl⟩ := len1x (h.lens.symm.trans rfl)
    refine fn_run rfl ?_ (Nat.le_refl _)
    show (b_certificate_text (startD 1 [(.ist ("CaseTree" : Str) [(("node" : Str), a)])]) _).fin = _
    rw [text_CaseTree, f_write 60 59 _ hn (by decide) hl]
    rfl
  after := fun e xs s h => by
    exact absurd e (by decide)
  still := fun xs h => by
    obtain ⟨a, rfl⟩ := len1x (h.lens.symm.trans rfl)
    exact still_ist (stillF_cons (stillL_mem h.still a (by simp)) stillF_nil)
def cert_FloorPlan : List D → D := fun xs => match xs with | [a] => (.ist ("FloorPlan" : Str) [(("rows" : Str), a)]) | _ => .non
theorem new_FloorPlan {a : D} {n : Int} (ha : Still a) : newF ("FloorPlan" : Str) F_FloorPlan_init [a] [.lst [.int n]] = .ok (.ist ("FloorPlan" : Str) [(("rows" : Str), a)]) [.lst [.int n]] :=
  f_new (C := ("FloorPlan" : Str)) (fs := [("rows" : Str)]) (n := 2) (N := 2) rfl rfl rfl (by decide +kernel) (by decide +kernel) (by decide) (stillL_cons ha stillL_nil) spot_still
theorem made_FloorPlan {a : D} {n : Int} (ha : Still a) : F_law_first [.str ("floors" : Str), .fls [a]] [.lst [.int n]] = .ok (.ist ("FloorPlan" : Str) [(("rows" : Str), a)]) [.lst [.int n]] := by
  refine fn_run rfl ?_ (Nat.le_refl _)
  have e0 : eqP (.str ("floors" : Str)) (.str ("shortage" : Str)) = some (.bl false) := by kernel_rfl
  have e1 : eqP (.str ("floors" : Str)) (.str ("packing" : Str)) = some (.bl false) := by kernel_rfl
  have e2 : eqP (.str ("floors" : Str)) (.str ("tree" : Str)) = some (.bl false) := by kernel_rfl
  have e3 : eqP (.str ("floors" : Str)) (.str ("levels" : Str)) = some (.bl false) := by kernel_rfl
  have e4 : eqP (.str ("floors" : Str)) (.str ("floors" : Str)) = some (.bl true) := by kernel_rfl
  unfold b_law_first startD
  simp [e0, e1, e2, e3, e4, new_FloorPlan ha, atI_nat]
theorem read_FloorPlan {a : D} {n : Int} (ha : Still a) : F_certificate_of_states [.str ("floors" : Str), .tup [a]] [.lst [.int n]] = .ok (.ist ("FloorPlan" : Str) [(("rows" : Str), a)]) [.lst [.int n]] := by
  refine fn_run rfl ?_ (Nat.le_refl _)
  have e : (b_certificate_of_states (startD 3 [.str ("floors" : Str), .tup [a]]) [.lst [.int n]]).fin = ((newF ("FloorPlan" : Str) F_FloorPlan_init [a] [.lst [.int n]]).toS [some (.str ("floors" : Str)), some (.tup [a]), none] fun d s => .rt d s).fin := by kernel_rfl
  rw [e, new_FloorPlan ha]; rfl
theorem same_FloorPlan {a N : D} {n : Int} : (b_law_same (startD 6 [(.ist ("FloorPlan" : Str) [(("rows" : Str), a)]), .int 4, N]) [.lst [.int n]]).fin = (tailS [some (.ist ("FloorPlan" : Str) [(("rows" : Str), a)]), some (.int 4), some N, some (.bl true), some (.tup (.str ("floors" : Str) :: [a])), none] [.lst [.int n]]).fin := by kernel_rfl
theorem text_FloorPlan {a : D} {n : Int} : (b_certificate_text (startD 1 [(.ist ("FloorPlan" : Str) [(("rows" : Str), a)])]) [.lst [.int n]]).fin = ((F_write_note 60 [.tup (.str ("floors" : Str) :: [a])] [.lst [.int n]]).toS [some (.ist ("FloorPlan" : Str) [(("rows" : Str), a)])] fun d s => .rt d s).fin := by kernel_rfl
theorem kind_FloorPlan : KindOk 4 ("floors" : Str) [fPlans] false cert_FloorPlan where
  made := fun xs n h => by
    obtain ⟨a, rfl⟩ := len1x (h.lens.symm.trans rfl)
    exact made_FloorPlan (stillL_mem h.still a (by simp))
  book := by kernel_rfl
  read := fun xs n h => by
    obtain ⟨a, rfl⟩ := len1x (h.lens.symm.trans rfl)
    exact read_FloorPlan (stillL_mem h.still a (by simp))
  bad := fun ys n _ _ h1 h2 => (no_bad (by decide +kernel) h1 h2).elim
  same := fun xs n h hn hl => by
    obtain ⟨a, rfl⟩ := len1x (h.lens.symm.trans rfl)
    refine fn_run rfl ?_ (Nat.le_refl _)
    show (b_law_same (startD 6 [(.ist ("FloorPlan" : Str) [(("rows" : Str), a)]), .int 4, _]) _).fin = _
    rw [same_FloorPlan]
    exact tail_ok hn (by decide) hl
  text := fun xs n h hn hl => by
    obtain ⟨a, rfl⟩ := len1x (h.lens.symm.trans rfl)
    refine fn_run rfl ?_ (Nat.le_refl _)
    show (b_certificate_text (startD 1 [(.ist ("FloorPlan" : Str) [(("rows" : Str), a)])]) _).fin = _
    rw [text_FloorPlan, f_write 60 59 _ hn (by decide) hl]
    rfl
  after := fun e xs s h => by
    exact absurd e (by decide)
  still := fun xs h => by
    obtain ⟨a, rfl⟩ := len1x (h.lens.symm.trans rfl)
    exact still_ist (stillF_cons (stillL_mem h.still a (by simp)) stillF_nil)
def cert_Crowded : List D → D := fun xs => match xs with | [a, b] => (.ist ("Crowded" : Str) [(("lot" : Str), a), (("node" : Str), b)]) | _ => .non
theorem new_Crowded {a b : D} {n : Int} (ha : Still a) (hb : Still b) : newF ("Crowded" : Str) F_Crowded_init [a, b] [.lst [.int n]] = .ok (.ist ("Crowded" : Str) [(("lot" : Str), a), (("node" : Str), b)]) [.lst [.int n]] :=
  f_new (C := ("Crowded" : Str)) (fs := [("lot" : Str), ("node" : Str)]) (n := 3) (N := 3) rfl rfl rfl (by decide +kernel) (by decide +kernel) (by decide) (stillL_cons ha (stillL_cons hb stillL_nil)) spot_still
theorem made_Crowded {a b : D} {n : Int} (ha : Still a) (hb : Still b) : F_law_first [.str ("crowded" : Str), .fls [a, b]] [.lst [.int n]] = .ok (.ist ("Crowded" : Str) [(("lot" : Str), a), (("node" : Str), b)]) [.lst [.int n]] := by
  refine fn_run rfl ?_ (Nat.le_refl _)
  have e0 : eqP (.str ("crowded" : Str)) (.str ("shortage" : Str)) = some (.bl false) := by kernel_rfl
  have e1 : eqP (.str ("crowded" : Str)) (.str ("packing" : Str)) = some (.bl false) := by kernel_rfl
  have e2 : eqP (.str ("crowded" : Str)) (.str ("tree" : Str)) = some (.bl false) := by kernel_rfl
  have e3 : eqP (.str ("crowded" : Str)) (.str ("levels" : Str)) = some (.bl false) := by kernel_rfl
  have e4 : eqP (.str ("crowded" : Str)) (.str ("floors" : Str)) = some (.bl false) := by kernel_rfl
  have e5 : eqP (.str ("crowded" : Str)) (.str ("crowded" : Str)) = some (.bl true) := by kernel_rfl
  unfold b_law_first startD
  simp [e0, e1, e2, e3, e4, e5, new_Crowded ha hb, atI_nat]
theorem read_Crowded {a b : D} {n : Int} (ha : Still a) (hb : Still b) : F_certificate_of_states [.str ("crowded" : Str), .tup [a, b]] [.lst [.int n]] = .ok (.ist ("Crowded" : Str) [(("lot" : Str), a), (("node" : Str), b)]) [.lst [.int n]] := by
  refine fn_run rfl ?_ (Nat.le_refl _)
  have e : (b_certificate_of_states (startD 3 [.str ("crowded" : Str), .tup [a, b]]) [.lst [.int n]]).fin = ((newF ("Crowded" : Str) F_Crowded_init [a, b] [.lst [.int n]]).toS [some (.str ("crowded" : Str)), some (.tup [a, b]), none] fun d s => .rt d s).fin := by kernel_rfl
  rw [e, new_Crowded ha hb]; rfl
theorem same_Crowded {a b N : D} {n : Int} : (b_law_same (startD 6 [(.ist ("Crowded" : Str) [(("lot" : Str), a), (("node" : Str), b)]), .int 5, N]) [.lst [.int n]]).fin = (tailS [some (.ist ("Crowded" : Str) [(("lot" : Str), a), (("node" : Str), b)]), some (.int 5), some N, some (.bl false), some (.tup (.str ("crowded" : Str) :: [a, b])), none] [.lst [.int n]]).fin := by kernel_rfl
theorem text_Crowded {a b : D} {n : Int} : (b_certificate_text (startD 1 [(.ist ("Crowded" : Str) [(("lot" : Str), a), (("node" : Str), b)])]) [.lst [.int n]]).fin = ((F_write_note 60 [.tup (.str ("crowded" : Str) :: [a, b])] [.lst [.int n]]).toS [some (.ist ("Crowded" : Str) [(("lot" : Str), a), (("node" : Str), b)])] fun d s => .rt d s).fin := by kernel_rfl
theorem kind_Crowded : KindOk 5 ("crowded" : Str) [fNums, .t] false cert_Crowded where
  made := fun xs n h => by
    obtain ⟨a, b, rfl⟩ := len2x (h.lens.symm.trans rfl)
    exact made_Crowded (stillL_mem h.still a (by simp)) (stillL_mem h.still b (by simp))
  book := by kernel_rfl
  read := fun xs n h => by
    obtain ⟨a, b, rfl⟩ := len2x (h.lens.symm.trans rfl)
    exact read_Crowded (stillL_mem h.still a (by simp)) (stillL_mem h.still b (by simp))
  bad := fun ys n _ _ h1 h2 => (no_bad (by decide +kernel) h1 h2).elim
  same := fun xs n h hn hl => by
    obtain ⟨a, b, rfl⟩ := len2x (h.lens.symm.trans rfl)
    refine fn_run rfl ?_ (Nat.le_refl _)
    show (b_law_same (startD 6 [(.ist ("Crowded" : Str) [(("lot" : Str), a), (("node" : Str), b)]), .int 5, _]) _).fin = _
    rw [same_Crowded]
    exact tail_ok hn (by decide) hl
  text := fun xs n h hn hl => by
    obtain ⟨a, b, rfl⟩ := len2x (h.lens.symm.trans rfl)
    refine fn_run rfl ?_ (Nat.le_refl _)
    show (b_certificate_text (startD 1 [(.ist ("Crowded" : Str) [(("lot" : Str), a), (("node" : Str), b)])]) _).fin = _
    rw [text_Crowded, f_write 60 59 _ hn (by decide) hl]
    rfl
  after := fun e xs s h => by
    exact absurd e (by decide)
  still := fun xs h => by
    obtain ⟨a, b, rfl⟩ := len2x (h.lens.symm.trans rfl)
    exact still_ist (stillF_cons (stillL_mem h.still a (by simp)) (stillF_cons (stillL_mem h.still b (by simp)) stillF_nil))
def cert_Settlement : List D → D := fun xs => match xs with | [a, b, c] => (.ist ("Settlement" : Str) [(("rows" : Str), a), (("deeds" : Str), b), (("hold" : Str), c), (("after" : Str), D.non)]) | _ => .non
theorem new_Settlement {a b c : D} {n : Int} (ha : Still a) (hb : Still b) (hc : Still c) : newF ("Settlement" : Str) F_Settlement_init [a, b, c, D.non] [.lst [.int n]] = .ok (.ist ("Settlement" : Str) [(("rows" : Str), a), (("deeds" : Str), b), (("hold" : Str), c), (("after" : Str), D.non)]) [.lst [.int n]] :=
  f_new (C := ("Settlement" : Str)) (fs := [("rows" : Str), ("deeds" : Str), ("hold" : Str), ("after" : Str)]) (n := 5) (N := 5) rfl rfl rfl (by decide +kernel) (by decide +kernel) (by decide) (stillL_cons ha (stillL_cons hb (stillL_cons hc (stillL_cons still_non stillL_nil)))) spot_still
theorem made_Settlement {a b c : D} {n : Int} (ha : Still a) (hb : Still b) (hc : Still c) : F_law_first [.str ("settled" : Str), .fls [a, b, c]] [.lst [.int n]] = .ok (.ist ("Settlement" : Str) [(("rows" : Str), a), (("deeds" : Str), b), (("hold" : Str), c), (("after" : Str), D.non)]) [.lst [.int n]] := by
  refine fn_run rfl ?_ (Nat.le_refl _)
  have e0 : eqP (.str ("settled" : Str)) (.str ("shortage" : Str)) = some (.bl false) := by kernel_rfl
  have e1 : eqP (.str ("settled" : Str)) (.str ("packing" : Str)) = some (.bl false) := by kernel_rfl
  have e2 : eqP (.str ("settled" : Str)) (.str ("tree" : Str)) = some (.bl false) := by kernel_rfl
  have e3 : eqP (.str ("settled" : Str)) (.str ("levels" : Str)) = some (.bl false) := by kernel_rfl
  have e4 : eqP (.str ("settled" : Str)) (.str ("floors" : Str)) = some (.bl false) := by kernel_rfl
  have e5 : eqP (.str ("settled" : Str)) (.str ("crowded" : Str)) = some (.bl false) := by kernel_rfl
  have e6 : eqP (.str ("settled" : Str)) (.str ("settled" : Str)) = some (.bl true) := by kernel_rfl
  unfold b_law_first startD
  simp [e0, e1, e2, e3, e4, e5, e6, new_Settlement ha hb hc, atI_nat]
theorem read_Settlement {a b c : D} {n : Int} (ha : Still a) (hb : Still b) (hc : Still c) : F_certificate_of_states [.str ("settled" : Str), .tup [a, b, c]] [.lst [.int n]] = .ok (.ist ("Settlement" : Str) [(("rows" : Str), a), (("deeds" : Str), b), (("hold" : Str), c), (("after" : Str), D.non)]) [.lst [.int n]] := by
  refine fn_run rfl ?_ (Nat.le_refl _)
  have e : (b_certificate_of_states (startD 3 [.str ("settled" : Str), .tup [a, b, c]]) [.lst [.int n]]).fin = ((newF ("Settlement" : Str) F_Settlement_init [a, b, c, D.non] [.lst [.int n]]).toS [some (.str ("settled" : Str)), some (.tup [a, b, c]), none] fun d s => .rt d s).fin := by kernel_rfl
  rw [e, new_Settlement ha hb hc]; rfl
theorem same_Settlement {a b c N : D} {n : Int} : (b_law_same (startD 6 [(.ist ("Settlement" : Str) [(("rows" : Str), a), (("deeds" : Str), b), (("hold" : Str), c), (("after" : Str), D.non)]), .int 6, N]) [.lst [.int n]]).fin = (tailS [some (.ist ("Settlement" : Str) [(("rows" : Str), a), (("deeds" : Str), b), (("hold" : Str), c), (("after" : Str), D.non)]), some (.int 6), some N, some (.bl true), some (.tup (.str ("settled" : Str) :: [a, b, c])), none] [.lst [.int n]]).fin := by kernel_rfl
theorem text_Settlement {a b c : D} {n : Int} : (b_certificate_text (startD 1 [(.ist ("Settlement" : Str) [(("rows" : Str), a), (("deeds" : Str), b), (("hold" : Str), c), (("after" : Str), D.non)])]) [.lst [.int n]]).fin = ((F_write_note 60 [.tup (.str ("settled" : Str) :: [a, b, c])] [.lst [.int n]]).toS [some (.ist ("Settlement" : Str) [(("rows" : Str), a), (("deeds" : Str), b), (("hold" : Str), c), (("after" : Str), D.non)])] fun d s => .rt d s).fin := by kernel_rfl
theorem kind_Settlement : KindOk 6 ("settled" : Str) [.any .t, .any .t, fHold] false cert_Settlement where
  made := fun xs n h => by
    obtain ⟨a, b, c, rfl⟩ := len3x (h.lens.symm.trans rfl)
    exact made_Settlement (stillL_mem h.still a (by simp)) (stillL_mem h.still b (by simp)) (stillL_mem h.still c (by simp))
  book := by kernel_rfl
  read := fun xs n h => by
    obtain ⟨a, b, c, rfl⟩ := len3x (h.lens.symm.trans rfl)
    exact read_Settlement (stillL_mem h.still a (by simp)) (stillL_mem h.still b (by simp)) (stillL_mem h.still c (by simp))
  bad := fun ys n _ _ h1 h2 => (no_bad (by decide +kernel) h1 h2).elim
  same := fun xs n h hn hl => by
    obtain ⟨a, b, c, rfl⟩ := len3x (h.lens.symm.trans rfl)
    refine fn_run rfl ?_ (Nat.le_refl _)
    show (b_law_same (startD 6 [(.ist ("Settlement" : Str) [(("rows" : Str), a), (("deeds" : Str), b), (("hold" : Str), c), (("after" : Str), D.non)]), .int 6, _]) _).fin = _
    rw [same_Settlement]
    exact tail_ok hn (by decide) hl
  text := fun xs n h hn hl => by
    obtain ⟨a, b, c, rfl⟩ := len3x (h.lens.symm.trans rfl)
    refine fn_run rfl ?_ (Nat.le_refl _)
    show (b_certificate_text (startD 1 [(.ist ("Settlement" : Str) [(("rows" : Str), a), (("deeds" : Str), b), (("hold" : Str), c), (("after" : Str), D.non)])]) _).fin = _
    rw [text_Settlement, f_write 60 59 _ hn (by decide) hl]
    rfl
  after := fun e xs s h => by
    obtain ⟨a, b, c, rfl⟩ := len3x (h.lens.symm.trans rfl)
    kernel_rfl
  still := fun xs h => by
    obtain ⟨a, b, c, rfl⟩ := len3x (h.lens.symm.trans rfl)
    exact still_ist (stillF_cons (stillL_mem h.still a (by simp)) (stillF_cons (stillL_mem h.still b (by simp)) (stillF_cons (stillL_mem h.still c (by simp)) (stillF_cons still_non stillF_nil))))
def cert_Quote : List D → D := fun xs => match xs with | [a, b, c, d] => (.ist ("Quote" : Str) [(("template" : Str), a), (("hour" : Str), b), (("places" : Str), c), (("refusals" : Str), d)]) | _ => .non
theorem new_Quote {a b c d : D} {n : Int} (ha : Still a) (hb : Still b) (hc : Still c) (hd : Still d) : newF ("Quote" : Str) F_Quote_init [a, b, c, d] [.lst [.int n]] = .ok (.ist ("Quote" : Str) [(("template" : Str), a), (("hour" : Str), b), (("places" : Str), c), (("refusals" : Str), d)]) [.lst [.int n]] :=
  f_new (C := ("Quote" : Str)) (fs := [("template" : Str), ("hour" : Str), ("places" : Str), ("refusals" : Str)]) (n := 5) (N := 5) rfl rfl rfl (by decide +kernel) (by decide +kernel) (by decide) (stillL_cons ha (stillL_cons hb (stillL_cons hc (stillL_cons hd stillL_nil)))) spot_still
theorem made_Quote {a b c d : D} {n : Int} (ha : Still a) (hb : Still b) (hc : Still c) (hd : Still d) : F_law_first [.str ("quote" : Str), .fls [a, b, c, d]] [.lst [.int n]] = .ok (.ist ("Quote" : Str) [(("template" : Str), a), (("hour" : Str), b), (("places" : Str), c), (("refusals" : Str), d)]) [.lst [.int n]] := by
  refine fn_run rfl ?_ (Nat.le_refl _)
  have e0 : eqP (.str ("quote" : Str)) (.str ("shortage" : Str)) = some (.bl false) := by kernel_rfl
  have e1 : eqP (.str ("quote" : Str)) (.str ("packing" : Str)) = some (.bl false) := by kernel_rfl
  have e2 : eqP (.str ("quote" : Str)) (.str ("tree" : Str)) = some (.bl false) := by kernel_rfl
  have e3 : eqP (.str ("quote" : Str)) (.str ("levels" : Str)) = some (.bl false) := by kernel_rfl
  have e4 : eqP (.str ("quote" : Str)) (.str ("floors" : Str)) = some (.bl false) := by kernel_rfl
  have e5 : eqP (.str ("quote" : Str)) (.str ("crowded" : Str)) = some (.bl false) := by kernel_rfl
  have e6 : eqP (.str ("quote" : Str)) (.str ("settled" : Str)) = some (.bl false) := by kernel_rfl
  have e7 : eqP (.str ("quote" : Str)) (.str ("quote" : Str)) = some (.bl true) := by kernel_rfl
  unfold b_law_first startD
  simp [e0, e1, e2, e3, e4, e5, e6, e7, new_Quote ha hb hc hd, atI_nat]
theorem read_Quote {a b c d : D} {n : Int} (ha : Still a) (hb : Still b) (hc : Still c) (hd : Still d) : F_certificate_of_states [.str ("quote" : Str), .tup [a, b, c, d]] [.lst [.int n]] = .ok (.ist ("Quote" : Str) [(("template" : Str), a), (("hour" : Str), b), (("places" : Str), c), (("refusals" : Str), d)]) [.lst [.int n]] := by
  refine fn_run rfl ?_ (Nat.le_refl _)
  have e : (b_certificate_of_states (startD 3 [.str ("quote" : Str), .tup [a, b, c, d]]) [.lst [.int n]]).fin = ((newF ("Quote" : Str) F_Quote_init [a, b, c, d] [.lst [.int n]]).toS [some (.str ("quote" : Str)), some (.tup [a, b, c, d]), none] fun d s => .rt d s).fin := by kernel_rfl
  rw [e, new_Quote ha hb hc hd]; rfl
theorem same_Quote {a b c d N : D} {n : Int} : (b_law_same (startD 6 [(.ist ("Quote" : Str) [(("template" : Str), a), (("hour" : Str), b), (("places" : Str), c), (("refusals" : Str), d)]), .int 7, N]) [.lst [.int n]]).fin = (tailS [some (.ist ("Quote" : Str) [(("template" : Str), a), (("hour" : Str), b), (("places" : Str), c), (("refusals" : Str), d)]), some (.int 7), some N, some (.bl true), some (.tup (.str ("quote" : Str) :: [a, b, c, d])), none] [.lst [.int n]]).fin := by kernel_rfl
theorem text_Quote {a b c d : D} {n : Int} : (b_certificate_text (startD 1 [(.ist ("Quote" : Str) [(("template" : Str), a), (("hour" : Str), b), (("places" : Str), c), (("refusals" : Str), d)])]) [.lst [.int n]]).fin = ((F_write_note 60 [.tup (.str ("quote" : Str) :: [a, b, c, d])] [.lst [.int n]]).toS [some (.ist ("Quote" : Str) [(("template" : Str), a), (("hour" : Str), b), (("places" : Str), c), (("refusals" : Str), d)])] fun d s => .rt d s).fin := by kernel_rfl
theorem kind_Quote : KindOk 7 ("quote" : Str) [.i, .i, fLists, fRefs] false cert_Quote where
  made := fun xs n h => by
    obtain ⟨a, b, c, d, rfl⟩ := len4x (h.lens.symm.trans rfl)
    exact made_Quote (stillL_mem h.still a (by simp)) (stillL_mem h.still b (by simp)) (stillL_mem h.still c (by simp)) (stillL_mem h.still d (by simp))
  book := by kernel_rfl
  read := fun xs n h => by
    obtain ⟨a, b, c, d, rfl⟩ := len4x (h.lens.symm.trans rfl)
    exact read_Quote (stillL_mem h.still a (by simp)) (stillL_mem h.still b (by simp)) (stillL_mem h.still c (by simp)) (stillL_mem h.still d (by simp))
  bad := fun ys n _ _ h1 h2 => (no_bad (by decide +kernel) h1 h2).elim
  same := fun xs n h hn hl => by
    obtain ⟨a, b, c, d, rfl⟩ := len4x (h.lens.symm.trans rfl)
    refine fn_run rfl ?_ (Nat.le_refl _)
    show (b_law_same (startD 6 [(.ist ("Quote" : Str) [(("template" : Str), a), (("hour" : Str), b), (("places" : Str), c), (("refusals" : Str), d)]), .int 7, _]) _).fin = _
    rw [same_Quote]
    exact tail_ok hn (by decide) hl
  text := fun xs n h hn hl => by
    obtain ⟨a, b, c, d, rfl⟩ := len4x (h.lens.symm.trans rfl)
    refine fn_run rfl ?_ (Nat.le_refl _)
    show (b_certificate_text (startD 1 [(.ist ("Quote" : Str) [(("template" : Str), a), (("hour" : Str), b), (("places" : Str), c), (("refusals" : Str), d)])]) _).fin = _
    rw [text_Quote, f_write 60 59 _ hn (by decide) hl]
    rfl
  after := fun e xs s h => by
    exact absurd e (by decide)
  still := fun xs h => by
    obtain ⟨a, b, c, d, rfl⟩ := len4x (h.lens.symm.trans rfl)
    exact still_ist (stillF_cons (stillL_mem h.still a (by simp)) (stillF_cons (stillL_mem h.still b (by simp)) (stillF_cons (stillL_mem h.still c (by simp)) (stillF_cons (stillL_mem h.still d (by simp)) stillF_nil))))
def cert_NoQuote : List D → D := fun xs => match xs with | [a, b] => (.ist ("NoQuote" : Str) [(("template" : Str), a), (("refusals" : Str), b)]) | _ => .non
theorem new_NoQuote {a b : D} {n : Int} (ha : Still a) (hb : Still b) : newF ("NoQuote" : Str) F_NoQuote_init [a, b] [.lst [.int n]] = .ok (.ist ("NoQuote" : Str) [(("template" : Str), a), (("refusals" : Str), b)]) [.lst [.int n]] :=
  f_new (C := ("NoQuote" : Str)) (fs := [("template" : Str), ("refusals" : Str)]) (n := 3) (N := 3) rfl rfl rfl (by decide +kernel) (by decide +kernel) (by decide) (stillL_cons ha (stillL_cons hb stillL_nil)) spot_still
theorem made_NoQuote {a b : D} {n : Int} (ha : Still a) (hb : Still b) : F_law_first [.str ("no-quote" : Str), .fls [a, b]] [.lst [.int n]] = .ok (.ist ("NoQuote" : Str) [(("template" : Str), a), (("refusals" : Str), b)]) [.lst [.int n]] := by
  refine fn_run rfl ?_ (Nat.le_refl _)
  have e0 : eqP (.str ("no-quote" : Str)) (.str ("shortage" : Str)) = some (.bl false) := by kernel_rfl
  have e1 : eqP (.str ("no-quote" : Str)) (.str ("packing" : Str)) = some (.bl false) := by kernel_rfl
  have e2 : eqP (.str ("no-quote" : Str)) (.str ("tree" : Str)) = some (.bl false) := by kernel_rfl
  have e3 : eqP (.str ("no-quote" : Str)) (.str ("levels" : Str)) = some (.bl false) := by kernel_rfl
  have e4 : eqP (.str ("no-quote" : Str)) (.str ("floors" : Str)) = some (.bl false) := by kernel_rfl
  have e5 : eqP (.str ("no-quote" : Str)) (.str ("crowded" : Str)) = some (.bl false) := by kernel_rfl
  have e6 : eqP (.str ("no-quote" : Str)) (.str ("settled" : Str)) = some (.bl false) := by kernel_rfl
  have e7 : eqP (.str ("no-quote" : Str)) (.str ("quote" : Str)) = some (.bl false) := by kernel_rfl
  have e8 : eqP (.str ("no-quote" : Str)) (.str ("no-quote" : Str)) = some (.bl true) := by kernel_rfl
  unfold b_law_first startD
  simp [e0, e1, e2, e3, e4, e5, e6, e7, e8, new_NoQuote ha hb, atI_nat]
theorem read_NoQuote {a b : D} {n : Int} (ha : Still a) (hb : Still b) : F_certificate_of_states [.str ("no-quote" : Str), .tup [a, b]] [.lst [.int n]] = .ok (.ist ("NoQuote" : Str) [(("template" : Str), a), (("refusals" : Str), b)]) [.lst [.int n]] := by
  refine fn_run rfl ?_ (Nat.le_refl _)
  have e : (b_certificate_of_states (startD 3 [.str ("no-quote" : Str), .tup [a, b]]) [.lst [.int n]]).fin = ((newF ("NoQuote" : Str) F_NoQuote_init [a, b] [.lst [.int n]]).toS [some (.str ("no-quote" : Str)), some (.tup [a, b]), none] fun d s => .rt d s).fin := by kernel_rfl
  rw [e, new_NoQuote ha hb]; rfl
theorem same_NoQuote {a b N : D} {n : Int} : (b_law_same (startD 6 [(.ist ("NoQuote" : Str) [(("template" : Str), a), (("refusals" : Str), b)]), .int 8, N]) [.lst [.int n]]).fin = (tailS [some (.ist ("NoQuote" : Str) [(("template" : Str), a), (("refusals" : Str), b)]), some (.int 8), some N, some (.bl false), some (.tup (.str ("no-quote" : Str) :: [a, b])), none] [.lst [.int n]]).fin := by kernel_rfl
theorem text_NoQuote {a b : D} {n : Int} : (b_certificate_text (startD 1 [(.ist ("NoQuote" : Str) [(("template" : Str), a), (("refusals" : Str), b)])]) [.lst [.int n]]).fin = ((F_write_note 60 [.tup (.str ("no-quote" : Str) :: [a, b])] [.lst [.int n]]).toS [some (.ist ("NoQuote" : Str) [(("template" : Str), a), (("refusals" : Str), b)])] fun d s => .rt d s).fin := by kernel_rfl
theorem kind_NoQuote : KindOk 8 ("no-quote" : Str) [.i, fRefs] false cert_NoQuote where
  made := fun xs n h => by
    obtain ⟨a, b, rfl⟩ := len2x (h.lens.symm.trans rfl)
    exact made_NoQuote (stillL_mem h.still a (by simp)) (stillL_mem h.still b (by simp))
  book := by kernel_rfl
  read := fun xs n h => by
    obtain ⟨a, b, rfl⟩ := len2x (h.lens.symm.trans rfl)
    exact read_NoQuote (stillL_mem h.still a (by simp)) (stillL_mem h.still b (by simp))
  bad := fun ys n _ _ h1 h2 => (no_bad (by decide +kernel) h1 h2).elim
  same := fun xs n h hn hl => by
    obtain ⟨a, b, rfl⟩ := len2x (h.lens.symm.trans rfl)
    refine fn_run rfl ?_ (Nat.le_refl _)
    show (b_law_same (startD 6 [(.ist ("NoQuote" : Str) [(("template" : Str), a), (("refusals" : Str), b)]), .int 8, _]) _).fin = _
    rw [same_NoQuote]
    exact tail_ok hn (by decide) hl
  text := fun xs n h hn hl => by
    obtain ⟨a, b, rfl⟩ := len2x (h.lens.symm.trans rfl)
    refine fn_run rfl ?_ (Nat.le_refl _)
    show (b_certificate_text (startD 1 [(.ist ("NoQuote" : Str) [(("template" : Str), a), (("refusals" : Str), b)])]) _).fin = _
    rw [text_NoQuote, f_write 60 59 _ hn (by decide) hl]
    rfl
  after := fun e xs s h => by
    exact absurd e (by decide)
  still := fun xs h => by
    obtain ⟨a, b, rfl⟩ := len2x (h.lens.symm.trans rfl)
    exact still_ist (stillF_cons (stillL_mem h.still a (by simp)) (stillF_cons (stillL_mem h.still b (by simp)) stillF_nil))
def cert_Blockers : List D → D := fun xs => match xs with | [a, b, c] => (.ist ("Blockers" : Str) [(("template" : Str), a), (("hour" : Str), b), (("rows" : Str), c)]) | _ => .non
theorem new_Blockers {a b c : D} {n : Int} (ha : Still a) (hb : Still b) (hc : Still c) : newF ("Blockers" : Str) F_Blockers_init [a, b, c] [.lst [.int n]] = .ok (.ist ("Blockers" : Str) [(("template" : Str), a), (("hour" : Str), b), (("rows" : Str), c)]) [.lst [.int n]] :=
  f_new (C := ("Blockers" : Str)) (fs := [("template" : Str), ("hour" : Str), ("rows" : Str)]) (n := 4) (N := 4) rfl rfl rfl (by decide +kernel) (by decide +kernel) (by decide) (stillL_cons ha (stillL_cons hb (stillL_cons hc stillL_nil))) spot_still
theorem made_Blockers {a b c : D} {n : Int} (ha : Still a) (hb : Still b) (hc : Still c) : F_law_first [.str ("blockers" : Str), .fls [a, b, c]] [.lst [.int n]] = .ok (.ist ("Blockers" : Str) [(("template" : Str), a), (("hour" : Str), b), (("rows" : Str), c)]) [.lst [.int n]] := by
  refine fn_run rfl ?_ (Nat.le_refl _)
  have e0 : eqP (.str ("blockers" : Str)) (.str ("shortage" : Str)) = some (.bl false) := by kernel_rfl
  have e1 : eqP (.str ("blockers" : Str)) (.str ("packing" : Str)) = some (.bl false) := by kernel_rfl
  have e2 : eqP (.str ("blockers" : Str)) (.str ("tree" : Str)) = some (.bl false) := by kernel_rfl
  have e3 : eqP (.str ("blockers" : Str)) (.str ("levels" : Str)) = some (.bl false) := by kernel_rfl
  have e4 : eqP (.str ("blockers" : Str)) (.str ("floors" : Str)) = some (.bl false) := by kernel_rfl
  have e5 : eqP (.str ("blockers" : Str)) (.str ("crowded" : Str)) = some (.bl false) := by kernel_rfl
  have e6 : eqP (.str ("blockers" : Str)) (.str ("settled" : Str)) = some (.bl false) := by kernel_rfl
  have e7 : eqP (.str ("blockers" : Str)) (.str ("quote" : Str)) = some (.bl false) := by kernel_rfl
  have e8 : eqP (.str ("blockers" : Str)) (.str ("no-quote" : Str)) = some (.bl false) := by kernel_rfl
  have e8 : eqP (.str ("blockers" : Str)) (.str ("no-quote" : Str)) = some (.bl false) := by kernel_rfl
  unfold b_law_first startD
  simp [e0, e1, e2, e3, e4, e5, e6, e7, e8, new_Blockers ha hb hc, atI_nat]
theorem read_Blockers {a b c : D} {n : Int} (ha : Still a) (hb : Still b) (hc : Still c) : F_certificate_of_states [.str ("blockers" : Str), .tup [a, b, c]] [.lst [.int n]] = .ok (.ist ("Blockers" : Str) [(("template" : Str), a), (("hour" : Str), b), (("rows" : Str), c)]) [.lst [.int n]] := by
  refine fn_run rfl ?_ (Nat.le_refl _)
  have e : (b_certificate_of_states (startD 3 [.str ("blockers" : Str), .tup [a, b, c]]) [.lst [.int n]]).fin = ((newF ("Blockers" : Str) F_Blockers_init [a, b, c] [.lst [.int n]]).toS [some (.str ("blockers" : Str)), some (.tup [a, b, c]), none] fun d s => .rt d s).fin := by kernel_rfl
  rw [e, new_Blockers ha hb hc]; rfl
theorem same_Blockers {a b c N : D} {n : Int} : (b_law_same (startD 6 [(.ist ("Blockers" : Str) [(("template" : Str), a), (("hour" : Str), b), (("rows" : Str), c)]), .int 9, N]) [.lst [.int n]]).fin = (tailS [some (.ist ("Blockers" : Str) [(("template" : Str), a), (("hour" : Str), b), (("rows" : Str), c)]), some (.int 9), some N, some (.bl true), some (.tup (.str ("blockers" : Str) :: [a, b, c])), none] [.lst [.int n]]).fin := by kernel_rfl
theorem text_Blockers {a b c : D} {n : Int} : (b_certificate_text (startD 1 [(.ist ("Blockers" : Str) [(("template" : Str), a), (("hour" : Str), b), (("rows" : Str), c)])]) [.lst [.int n]]).fin = ((F_write_note 60 [.tup (.str ("blockers" : Str) :: [a, b, c])] [.lst [.int n]]).toS [some (.ist ("Blockers" : Str) [(("template" : Str), a), (("hour" : Str), b), (("rows" : Str), c)])] fun d s => .rt d s).fin := by kernel_rfl
theorem kind_Blockers : KindOk 9 ("blockers" : Str) [.i, .i, .any (.row [.w, .i, fRows])] false cert_Blockers where
  made := fun xs n h => by
    obtain ⟨a, b, c, rfl⟩ := len3x (h.lens.symm.trans rfl)
    exact made_Blockers (stillL_mem h.still a (by simp)) (stillL_mem h.still b (by simp)) (stillL_mem h.still c (by simp))
  book := by kernel_rfl
  read := fun xs n h => by
    obtain ⟨a, b, c, rfl⟩ := len3x (h.lens.symm.trans rfl)
    exact read_Blockers (stillL_mem h.still a (by simp)) (stillL_mem h.still b (by simp)) (stillL_mem h.still c (by simp))
  bad := fun ys n _ _ h1 h2 => (no_bad (by decide +kernel) h1 h2).elim
  same := fun xs n h hn hl => by
    obtain ⟨a, b, c, rfl⟩ := len3x (h.lens.symm.trans rfl)
    refine fn_run rfl ?_ (Nat.le_refl _)
    show (b_law_same (startD 6 [(.ist ("Blockers" : Str) [(("template" : Str), a), (("hour" : Str), b), (("rows" : Str), c)]), .int 9, _]) _).fin = _
    rw [same_Blockers]
    exact tail_ok hn (by decide) hl
  text := fun xs n h hn hl => by
    obtain ⟨a, b, c, rfl⟩ := len3x (h.lens.symm.trans rfl)
    refine fn_run rfl ?_ (Nat.le_refl _)
    show (b_certificate_text (startD 1 [(.ist ("Blockers" : Str) [(("template" : Str), a), (("hour" : Str), b), (("rows" : Str), c)])]) _).fin = _
    rw [text_Blockers, f_write 60 59 _ hn (by decide) hl]
    rfl
  after := fun e xs s h => by
    exact absurd e (by decide)
  still := fun xs h => by
    obtain ⟨a, b, c, rfl⟩ := len3x (h.lens.symm.trans rfl)
    exact still_ist (stillF_cons (stillL_mem h.still a (by simp)) (stillF_cons (stillL_mem h.still b (by simp)) (stillF_cons (stillL_mem h.still c (by simp)) stillF_nil)))
def cert_Survival : List D → D := fun xs => match xs with | [a] => (.ist ("Survival" : Str) [(("rows" : Str), a)]) | _ => .non
theorem new_Survival {a : D} {n : Int} (ha : Still a) : newF ("Survival" : Str) F_Survival_init [a] [.lst [.int n]] = .ok (.ist ("Survival" : Str) [(("rows" : Str), a)]) [.lst [.int n]] :=
  f_new (C := ("Survival" : Str)) (fs := [("rows" : Str)]) (n := 2) (N := 2) rfl rfl rfl (by decide +kernel) (by decide +kernel) (by decide) (stillL_cons ha stillL_nil) spot_still
theorem made_Survival {a : D} {n : Int} (ha : Still a) : F_law_second [.str ("survival" : Str), .fls [a]] [.lst [.int n]] = .ok (.ist ("Survival" : Str) [(("rows" : Str), a)]) [.lst [.int n]] := by
  refine fn_run rfl ?_ (Nat.le_refl _)
  have e0 : eqP (.str ("survival" : Str)) (.str ("survival" : Str)) = some (.bl true) := by kernel_rfl
  unfold b_law_second startD
  simp [e0, new_Survival ha, atI_nat]
theorem read_Survival {a : D} {n : Int} (ha : Still a) : F_certificate_of_states [.str ("survival" : Str), .tup [a]] [.lst [.int n]] = .ok (.ist ("Survival" : Str) [(("rows" : Str), a)]) [.lst [.int n]] := by
  refine fn_run rfl ?_ (Nat.le_refl _)
  have e : (b_certificate_of_states (startD 3 [.str ("survival" : Str), .tup [a]]) [.lst [.int n]]).fin = ((newF ("Survival" : Str) F_Survival_init [a] [.lst [.int n]]).toS [some (.str ("survival" : Str)), some (.tup [a]), none] fun d s => .rt d s).fin := by kernel_rfl
  rw [e, new_Survival ha]; rfl
theorem same_Survival {a N : D} {n : Int} : (b_law_same (startD 6 [(.ist ("Survival" : Str) [(("rows" : Str), a)]), .int 10, N]) [.lst [.int n]]).fin = (tailS [some (.ist ("Survival" : Str) [(("rows" : Str), a)]), some (.int 10), some N, some (.bl true), some (.tup (.str ("survival" : Str) :: [a])), none] [.lst [.int n]]).fin := by kernel_rfl
theorem text_Survival {a : D} {n : Int} : (b_certificate_text (startD 1 [(.ist ("Survival" : Str) [(("rows" : Str), a)])]) [.lst [.int n]]).fin = ((F_write_note 60 [.tup (.str ("survival" : Str) :: [a])] [.lst [.int n]]).toS [some (.ist ("Survival" : Str) [(("rows" : Str), a)])] fun d s => .rt d s).fin := by kernel_rfl
theorem kind_Survival : KindOk 10 ("survival" : Str) [fPlans] false cert_Survival where
  made := fun xs n h => by
    obtain ⟨a, rfl⟩ := len1x (h.lens.symm.trans rfl)
    exact made_Survival (stillL_mem h.still a (by simp))
  book := by kernel_rfl
  read := fun xs n h => by
    obtain ⟨a, rfl⟩ := len1x (h.lens.symm.trans rfl)
    exact read_Survival (stillL_mem h.still a (by simp))
  bad := fun ys n _ _ h1 h2 => (no_bad (by decide +kernel) h1 h2).elim
  same := fun xs n h hn hl => by
    obtain ⟨a, rfl⟩ := len1x (h.lens.symm.trans rfl)
    refine fn_run rfl ?_ (Nat.le_refl _)
    show (b_law_same (startD 6 [(.ist ("Survival" : Str) [(("rows" : Str), a)]), .int 10, _]) _).fin = _
    rw [same_Survival]
    exact tail_ok hn (by decide) hl
  text := fun xs n h hn hl => by
    obtain ⟨a, rfl⟩ := len1x (h.lens.symm.trans rfl)
    refine fn_run rfl ?_ (Nat.le_refl _)
    show (b_certificate_text (startD 1 [(.ist ("Survival" : Str) [(("rows" : Str), a)])]) _).fin = _
    rw [text_Survival, f_write 60 59 _ hn (by decide) hl]
    rfl
  after := fun e xs s h => by
    exact absurd e (by decide)
  still := fun xs h => by
    obtain ⟨a, rfl⟩ := len1x (h.lens.symm.trans rfl)
    exact still_ist (stillF_cons (stillL_mem h.still a (by simp)) stillF_nil)
def cert_Frail : List D → D := fun xs => match xs with | [a, b] => (.ist ("Frail" : Str) [(("machines" : Str), a), (("node" : Str), b)]) | _ => .non
theorem new_Frail {a b : D} {n : Int} (ha : Still a) (hb : Still b) : newF ("Frail" : Str) F_Frail_init [a, b] [.lst [.int n]] = .ok (.ist ("Frail" : Str) [(("machines" : Str), a), (("node" : Str), b)]) [.lst [.int n]] :=
  f_new (C := ("Frail" : Str)) (fs := [("machines" : Str), ("node" : Str)]) (n := 3) (N := 3) rfl rfl rfl (by decide +kernel) (by decide +kernel) (by decide) (stillL_cons ha (stillL_cons hb stillL_nil)) spot_still
theorem made_Frail {a b : D} {n : Int} (ha : Still a) (hb : Still b) : F_law_second [.str ("frail" : Str), .fls [a, b]] [.lst [.int n]] = .ok (.ist ("Frail" : Str) [(("machines" : Str), a), (("node" : Str), b)]) [.lst [.int n]] := by
  refine fn_run rfl ?_ (Nat.le_refl _)
  have e0 : eqP (.str ("frail" : Str)) (.str ("survival" : Str)) = some (.bl false) := by kernel_rfl
  have e1 : eqP (.str ("frail" : Str)) (.str ("frail" : Str)) = some (.bl true) := by kernel_rfl
  unfold b_law_second startD
  simp [e0, e1, new_Frail ha hb, atI_nat]
theorem read_Frail {a b : D} {n : Int} (ha : Still a) (hb : Still b) : F_certificate_of_states [.str ("frail" : Str), .tup [a, b]] [.lst [.int n]] = .ok (.ist ("Frail" : Str) [(("machines" : Str), a), (("node" : Str), b)]) [.lst [.int n]] := by
  refine fn_run rfl ?_ (Nat.le_refl _)
  have e : (b_certificate_of_states (startD 3 [.str ("frail" : Str), .tup [a, b]]) [.lst [.int n]]).fin = ((newF ("Frail" : Str) F_Frail_init [a, b] [.lst [.int n]]).toS [some (.str ("frail" : Str)), some (.tup [a, b]), none] fun d s => .rt d s).fin := by kernel_rfl
  rw [e, new_Frail ha hb]; rfl
theorem same_Frail {a b N : D} {n : Int} : (b_law_same (startD 6 [(.ist ("Frail" : Str) [(("machines" : Str), a), (("node" : Str), b)]), .int 11, N]) [.lst [.int n]]).fin = (tailS [some (.ist ("Frail" : Str) [(("machines" : Str), a), (("node" : Str), b)]), some (.int 11), some N, some (.bl false), some (.tup (.str ("frail" : Str) :: [a, b])), none] [.lst [.int n]]).fin := by kernel_rfl
theorem text_Frail {a b : D} {n : Int} : (b_certificate_text (startD 1 [(.ist ("Frail" : Str) [(("machines" : Str), a), (("node" : Str), b)])]) [.lst [.int n]]).fin = ((F_write_note 60 [.tup (.str ("frail" : Str) :: [a, b])] [.lst [.int n]]).toS [some (.ist ("Frail" : Str) [(("machines" : Str), a), (("node" : Str), b)])] fun d s => .rt d s).fin := by kernel_rfl
theorem kind_Frail : KindOk 11 ("frail" : Str) [fNums, .t] false cert_Frail where
  made := fun xs n h => by
    obtain ⟨a, b, rfl⟩ := len2x (h.lens.symm.trans rfl)
    exact made_Frail (stillL_mem h.still a (by simp)) (stillL_mem h.still b (by simp))
  book := by kernel_rfl
  read := fun xs n h => by
    obtain ⟨a, b, rfl⟩ := len2x (h.lens.symm.trans rfl)
    exact read_Frail (stillL_mem h.still a (by simp)) (stillL_mem h.still b (by simp))
  bad := fun ys n _ _ h1 h2 => (no_bad (by decide +kernel) h1 h2).elim
  same := fun xs n h hn hl => by
    obtain ⟨a, b, rfl⟩ := len2x (h.lens.symm.trans rfl)
    refine fn_run rfl ?_ (Nat.le_refl _)
    show (b_law_same (startD 6 [(.ist ("Frail" : Str) [(("machines" : Str), a), (("node" : Str), b)]), .int 11, _]) _).fin = _
    rw [same_Frail]
    exact tail_ok hn (by decide) hl
  text := fun xs n h hn hl => by
    obtain ⟨a, b, rfl⟩ := len2x (h.lens.symm.trans rfl)
    refine fn_run rfl ?_ (Nat.le_refl _)
    show (b_certificate_text (startD 1 [(.ist ("Frail" : Str) [(("machines" : Str), a), (("node" : Str), b)])]) _).fin = _
    rw [text_Frail, f_write 60 59 _ hn (by decide) hl]
    rfl
  after := fun e xs s h => by
    exact absurd e (by decide)
  still := fun xs h => by
    obtain ⟨a, b, rfl⟩ := len2x (h.lens.symm.trans rfl)
    exact still_ist (stillF_cons (stillL_mem h.still a (by simp)) (stillF_cons (stillL_mem h.still b (by simp)) stillF_nil))
def cert_MovePlan : List D → D := fun xs => match xs with | [a, b] => (.ist ("MovePlan" : Str) [(("machine" : Str), a), (("moves" : Str), b)]) | _ => .non
theorem new_MovePlan {a b : D} {n : Int} (ha : Still a) (hb : Still b) : newF ("MovePlan" : Str) F_MovePlan_init [a, b] [.lst [.int n]] = .ok (.ist ("MovePlan" : Str) [(("machine" : Str), a), (("moves" : Str), b)]) [.lst [.int n]] :=
  f_new (C := ("MovePlan" : Str)) (fs := [("machine" : Str), ("moves" : Str)]) (n := 3) (N := 3) rfl rfl rfl (by decide +kernel) (by decide +kernel) (by decide) (stillL_cons ha (stillL_cons hb stillL_nil)) spot_still
theorem made_MovePlan {a b : D} {n : Int} (ha : Still a) (hb : Still b) : F_law_second [.str ("moves" : Str), .fls [a, b]] [.lst [.int n]] = .ok (.ist ("MovePlan" : Str) [(("machine" : Str), a), (("moves" : Str), b)]) [.lst [.int n]] := by
  refine fn_run rfl ?_ (Nat.le_refl _)
  have e0 : eqP (.str ("moves" : Str)) (.str ("survival" : Str)) = some (.bl false) := by kernel_rfl
  have e1 : eqP (.str ("moves" : Str)) (.str ("frail" : Str)) = some (.bl false) := by kernel_rfl
  have e2 : eqP (.str ("moves" : Str)) (.str ("moves" : Str)) = some (.bl true) := by kernel_rfl
  unfold b_law_second startD
  simp [e0, e1, e2, new_MovePlan ha hb, atI_nat]
theorem read_MovePlan {a b : D} {n : Int} (ha : Still a) (hb : Still b) : F_certificate_of_states [.str ("moves" : Str), .tup [a, b]] [.lst [.int n]] = .ok (.ist ("MovePlan" : Str) [(("machine" : Str), a), (("moves" : Str), b)]) [.lst [.int n]] := by
  refine fn_run rfl ?_ (Nat.le_refl _)
  have e : (b_certificate_of_states (startD 3 [.str ("moves" : Str), .tup [a, b]]) [.lst [.int n]]).fin = ((newF ("MovePlan" : Str) F_MovePlan_init [a, b] [.lst [.int n]]).toS [some (.str ("moves" : Str)), some (.tup [a, b]), none] fun d s => .rt d s).fin := by kernel_rfl
  rw [e, new_MovePlan ha hb]; rfl
theorem same_MovePlan {a b N : D} {n : Int} : (b_law_same (startD 6 [(.ist ("MovePlan" : Str) [(("machine" : Str), a), (("moves" : Str), b)]), .int 12, N]) [.lst [.int n]]).fin = (tailS [some (.ist ("MovePlan" : Str) [(("machine" : Str), a), (("moves" : Str), b)]), some (.int 12), some N, some (.bl true), some (.tup (.str ("moves" : Str) :: [a, b])), none] [.lst [.int n]]).fin := by kernel_rfl
theorem text_MovePlan {a b : D} {n : Int} : (b_certificate_text (startD 1 [(.ist ("MovePlan" : Str) [(("machine" : Str), a), (("moves" : Str), b)])]) [.lst [.int n]]).fin = ((F_write_note 60 [.tup (.str ("moves" : Str) :: [a, b])] [.lst [.int n]]).toS [some (.ist ("MovePlan" : Str) [(("machine" : Str), a), (("moves" : Str), b)])] fun d s => .rt d s).fin := by kernel_rfl
theorem kind_MovePlan : KindOk 12 ("moves" : Str) [.i, .any (.row [.w, fNums])] false cert_MovePlan where
  made := fun xs n h => by
    obtain ⟨a, b, rfl⟩ := len2x (h.lens.symm.trans rfl)
    exact made_MovePlan (stillL_mem h.still a (by simp)) (stillL_mem h.still b (by simp))
  book := by kernel_rfl
  read := fun xs n h => by
    obtain ⟨a, b, rfl⟩ := len2x (h.lens.symm.trans rfl)
    exact read_MovePlan (stillL_mem h.still a (by simp)) (stillL_mem h.still b (by simp))
  bad := fun ys n _ _ h1 h2 => (no_bad (by decide +kernel) h1 h2).elim
  same := fun xs n h hn hl => by
    obtain ⟨a, b, rfl⟩ := len2x (h.lens.symm.trans rfl)
    refine fn_run rfl ?_ (Nat.le_refl _)
    show (b_law_same (startD 6 [(.ist ("MovePlan" : Str) [(("machine" : Str), a), (("moves" : Str), b)]), .int 12, _]) _).fin = _
    rw [same_MovePlan]
    exact tail_ok hn (by decide) hl
  text := fun xs n h hn hl => by
    obtain ⟨a, b, rfl⟩ := len2x (h.lens.symm.trans rfl)
    refine fn_run rfl ?_ (Nat.le_refl _)
    show (b_certificate_text (startD 1 [(.ist ("MovePlan" : Str) [(("machine" : Str), a), (("moves" : Str), b)])]) _).fin = _
    rw [text_MovePlan, f_write 60 59 _ hn (by decide) hl]
    rfl
  after := fun e xs s h => by
    exact absurd e (by decide)
  still := fun xs h => by
    obtain ⟨a, b, rfl⟩ := len2x (h.lens.symm.trans rfl)
    exact still_ist (stillF_cons (stillL_mem h.still a (by simp)) (stillF_cons (stillL_mem h.still b (by simp)) stillF_nil))
def cert_Stuck : List D → D := fun xs => match xs with | [a, b] => (.ist ("Stuck" : Str) [(("machine" : Str), a), (("places" : Str), b)]) | _ => .non
theorem new_Stuck {a b : D} {n : Int} (ha : Still a) (hb : Still b) : newF ("Stuck" : Str) F_Stuck_init [a, b] [.lst [.int n]] = .ok (.ist ("Stuck" : Str) [(("machine" : Str), a), (("places" : Str), b)]) [.lst [.int n]] :=
  f_new (C := ("Stuck" : Str)) (fs := [("machine" : Str), ("places" : Str)]) (n := 3) (N := 3) rfl rfl rfl (by decide +kernel) (by decide +kernel) (by decide) (stillL_cons ha (stillL_cons hb stillL_nil)) spot_still
theorem made_Stuck {a b : D} {n : Int} (ha : Still a) (hb : Still b) : F_law_second [.str ("stuck" : Str), .fls [a, b]] [.lst [.int n]] = .ok (.ist ("Stuck" : Str) [(("machine" : Str), a), (("places" : Str), b)]) [.lst [.int n]] := by
  refine fn_run rfl ?_ (Nat.le_refl _)
  have e0 : eqP (.str ("stuck" : Str)) (.str ("survival" : Str)) = some (.bl false) := by kernel_rfl
  have e1 : eqP (.str ("stuck" : Str)) (.str ("frail" : Str)) = some (.bl false) := by kernel_rfl
  have e2 : eqP (.str ("stuck" : Str)) (.str ("moves" : Str)) = some (.bl false) := by kernel_rfl
  have e3 : eqP (.str ("stuck" : Str)) (.str ("stuck" : Str)) = some (.bl true) := by kernel_rfl
  unfold b_law_second startD
  simp [e0, e1, e2, e3, new_Stuck ha hb, atI_nat]
theorem read_Stuck {a b : D} {n : Int} (ha : Still a) (hb : Still b) : F_certificate_of_states [.str ("stuck" : Str), .tup [a, b]] [.lst [.int n]] = .ok (.ist ("Stuck" : Str) [(("machine" : Str), a), (("places" : Str), b)]) [.lst [.int n]] := by
  refine fn_run rfl ?_ (Nat.le_refl _)
  have e : (b_certificate_of_states (startD 3 [.str ("stuck" : Str), .tup [a, b]]) [.lst [.int n]]).fin = ((newF ("Stuck" : Str) F_Stuck_init [a, b] [.lst [.int n]]).toS [some (.str ("stuck" : Str)), some (.tup [a, b]), some (.str ("stuck" : Str))] fun d s => .rt d s).fin := by kernel_rfl
  rw [e, new_Stuck ha hb]; rfl
theorem same_Stuck {a b N : D} {n : Int} : (b_law_same (startD 6 [(.ist ("Stuck" : Str) [(("machine" : Str), a), (("places" : Str), b)]), .int 13, N]) [.lst [.int n]]).fin = (tailS [some (.ist ("Stuck" : Str) [(("machine" : Str), a), (("places" : Str), b)]), some (.int 13), some N, some (.bl false), some (.tup (.str ("stuck" : Str) :: [a, b])), none] [.lst [.int n]]).fin := by kernel_rfl
theorem text_Stuck {a b : D} {n : Int} : (b_certificate_text (startD 1 [(.ist ("Stuck" : Str) [(("machine" : Str), a), (("places" : Str), b)])]) [.lst [.int n]]).fin = ((F_write_note 60 [.tup (.str ("stuck" : Str) :: [a, b])] [.lst [.int n]]).toS [some (.ist ("Stuck" : Str) [(("machine" : Str), a), (("places" : Str), b)])] fun d s => .rt d s).fin := by kernel_rfl
theorem kind_Stuck : KindOk 13 ("stuck" : Str) [.i, .any fLists] false cert_Stuck where
  made := fun xs n h => by
    obtain ⟨a, b, rfl⟩ := len2x (h.lens.symm.trans rfl)
    exact made_Stuck (stillL_mem h.still a (by simp)) (stillL_mem h.still b (by simp))
  book := by kernel_rfl
  read := fun xs n h => by
    obtain ⟨a, b, rfl⟩ := len2x (h.lens.symm.trans rfl)
    exact read_Stuck (stillL_mem h.still a (by simp)) (stillL_mem h.still b (by simp))
  bad := fun ys n _ _ h1 h2 => (no_bad (by decide +kernel) h1 h2).elim
  same := fun xs n h hn hl => by
    obtain ⟨a, b, rfl⟩ := len2x (h.lens.symm.trans rfl)
    refine fn_run rfl ?_ (Nat.le_refl _)
    show (b_law_same (startD 6 [(.ist ("Stuck" : Str) [(("machine" : Str), a), (("places" : Str), b)]), .int 13, _]) _).fin = _
    rw [same_Stuck]
    exact tail_ok hn (by decide) hl
  text := fun xs n h hn hl => by
    obtain ⟨a, b, rfl⟩ := len2x (h.lens.symm.trans rfl)
    refine fn_run rfl ?_ (Nat.le_refl _)
    show (b_certificate_text (startD 1 [(.ist ("Stuck" : Str) [(("machine" : Str), a), (("places" : Str), b)])]) _).fin = _
    rw [text_Stuck, f_write 60 59 _ hn (by decide) hl]
    rfl
  after := fun e xs s h => by
    exact absurd e (by decide)
  still := fun xs h => by
    obtain ⟨a, b, rfl⟩ := len2x (h.lens.symm.trans rfl)
    exact still_ist (stillF_cons (stillL_mem h.still a (by simp)) (stillF_cons (stillL_mem h.still b (by simp)) stillF_nil))
def cert_Kept : List D → D := fun xs => match xs with | [a, b] => (.ist ("Kept" : Str) [(("words" : Str), a), (("rows" : Str), b)]) | _ => .non
theorem new_Kept {a b : D} {n : Int} (ha : Still a) (hb : Still b) : newF ("Kept" : Str) F_Kept_init [a, b] [.lst [.int n]] = .ok (.ist ("Kept" : Str) [(("words" : Str), a), (("rows" : Str), b)]) [.lst [.int n]] := by
  have e1 : F_Kept_init [.obj 1, a, b] [.lst [.int n], .ins ("Kept" : Str) []] = .ok .non [.lst [.int n], .ins ("Kept" : Str) [(("words" : Str), a), (("rows" : Str), b)]] := by kernel_rfl
  show trimR 1 ((F_Kept_init [.obj 1, a, b] [.lst [.int n], .ins ("Kept" : Str) []]).nox.bind fun r s' => match r with
    | .non => .ok (.obj 1) s'
    | _ => .bad) = _
  rw [e1]
  show trimR 1 (.ok (.obj 1) [.lst [.int n], .ins ("Kept" : Str) [(("words" : Str), a), (("rows" : Str), b)]]) = _
  have hf : StillF [(("words" : Str), a), (("rows" : Str), b)] := stillF_cons ha (stillF_cons hb stillF_nil)
  have e2 : look [.lst [.int n], .ins ("Kept" : Str) [(("words" : Str), a), (("rows" : Str), b)]] 1 8 1 = some (.ist ("Kept" : Str) [(("words" : Str), a), (("rows" : Str), b)]) := by
    show (subF _ [(("words" : Str), a), (("rows" : Str), b)]).map (D.ist ("Kept" : Str)) = _
    rw [hf _]; rfl
  simp only [trimR, subD, e2, List.take_succ_cons, List.take_zero, spot_still _]
  rfl
theorem made_Kept {a b : D} {n : Int} (ha : Still a) (hb : Still b) : F_law_second [.str ("kept" : Str), .fls [a, b]] [.lst [.int n]] = .ok (.ist ("Kept" : Str) [(("words" : Str), a), (("rows" : Str), b)]) [.lst [.int n]] := by
  refine fn_run rfl ?_ (Nat.le_refl _)
  have e0 : eqP (.str ("kept" : Str)) (.str ("survival" : Str)) = some (.bl false) := by kernel_rfl
  have e1 : eqP (.str ("kept" : Str)) (.str ("frail" : Str)) = some (.bl false) := by kernel_rfl
  have e2 : eqP (.str ("kept" : Str)) (.str ("moves" : Str)) = some (.bl false) := by kernel_rfl
  have e3 : eqP (.str ("kept" : Str)) (.str ("stuck" : Str)) = some (.bl false) := by kernel_rfl
  have e4 : eqP (.str ("kept" : Str)) (.str ("kept" : Str)) = some (.bl true) := by kernel_rfl
  unfold b_law_second startD
  simp [e0, e1, e2, e3, e4, new_Kept ha hb, atI_nat]
theorem read_Kept {a b : D} {n : Int} (ha : Still a) (hb : Still b) : F_certificate_of_books [.str ("kept" : Str), .tup [a, b]] [.lst [.int n]] = .ok (.ist ("Kept" : Str) [(("words" : Str), a), (("rows" : Str), b)]) [.lst [.int n]] := by
  refine fn_run rfl ?_ (Nat.le_refl _)
  have e : (b_certificate_of_books (startD 3 [.str ("kept" : Str), .tup [a, b]]) [.lst [.int n]]).fin = ((newF ("Kept" : Str) F_Kept_init [a, b] [.lst [.int n]]).toS [some (.str ("kept" : Str)), some (.tup [a, b]), none] fun d s => .rt d s).fin := by kernel_rfl
  rw [e, new_Kept ha hb]; rfl
theorem same_Kept {a b N : D} {n : Int} : (b_law_same (startD 6 [(.ist ("Kept" : Str) [(("words" : Str), a), (("rows" : Str), b)]), .int 14, N]) [.lst [.int n]]).fin = (tailS [some (.ist ("Kept" : Str) [(("words" : Str), a), (("rows" : Str), b)]), some (.int 14), some N, some (.bl true), some (.tup (.str ("kept" : Str) :: [a, b])), none] [.lst [.int n]]).fin := by kernel_rfl
theorem text_Kept {a b : D} {n : Int} : (b_certificate_text (startD 1 [(.ist ("Kept" : Str) [(("words" : Str), a), (("rows" : Str), b)])]) [.lst [.int n]]).fin = ((F_write_note 60 [.tup (.str ("kept" : Str) :: [a, b])] [.lst [.int n]]).toS [some (.ist ("Kept" : Str) [(("words" : Str), a), (("rows" : Str), b)])] fun d s => .rt d s).fin := by kernel_rfl
theorem kind_Kept : KindOk 14 ("kept" : Str) [fEvent, fTriples] true cert_Kept where
  made := fun xs n h => by
    obtain ⟨a, b, rfl⟩ := len2x (h.lens.symm.trans rfl)
    exact made_Kept (stillL_mem h.still a (by simp)) (stillL_mem h.still b (by simp))
  book := by kernel_rfl
  read := fun xs n h => by
    obtain ⟨a, b, rfl⟩ := len2x (h.lens.symm.trans rfl)
    exact read_Kept (stillL_mem h.still a (by simp)) (stillL_mem h.still b (by simp))
  bad := fun ys n _ _ h1 h2 => (no_bad (by decide +kernel) h1 h2).elim
  same := fun xs n h hn hl => by
    obtain ⟨a, b, rfl⟩ := len2x (h.lens.symm.trans rfl)
    refine fn_run rfl ?_ (Nat.le_refl _)
    show (b_law_same (startD 6 [(.ist ("Kept" : Str) [(("words" : Str), a), (("rows" : Str), b)]), .int 14, _]) _).fin = _
    rw [same_Kept]
    exact tail_ok hn (by decide) hl
  text := fun xs n h hn hl => by
    obtain ⟨a, b, rfl⟩ := len2x (h.lens.symm.trans rfl)
    refine fn_run rfl ?_ (Nat.le_refl _)
    show (b_certificate_text (startD 1 [(.ist ("Kept" : Str) [(("words" : Str), a), (("rows" : Str), b)])]) _).fin = _
    rw [text_Kept, f_write 60 59 _ hn (by decide) hl]
    rfl
  after := fun e xs s h => by
    exact absurd e (by decide)
  still := fun xs h => by
    obtain ⟨a, b, rfl⟩ := len2x (h.lens.symm.trans rfl)
    exact still_ist (stillF_cons (stillL_mem h.still a (by simp)) (stillF_cons (stillL_mem h.still b (by simp)) stillF_nil))
def cert_Broken : List D → D := fun xs => match xs with | [a, b] => (.ist ("Broken" : Str) [(("words" : Str), a), (("book" : Str), b)]) | _ => .non
theorem new_Broken {a b : D} {n : Int} (ha : Still a) (hb : Still b) : newF ("Broken" : Str) F_Broken_init [a, b] [.lst [.int n]] = .ok (.ist ("Broken" : Str) [(("words" : Str), a), (("book" : Str), b)]) [.lst [.int n]] := by
  have e1 : F_Broken_init [.obj 1, a, b] [.lst [.int n], .ins ("Broken" : Str) []] = .ok .non [.lst [.int n], .ins ("Broken" : Str) [(("words" : Str), a), (("book" : Str), b)]] := by kernel_rfl
  show trimR 1 ((F_Broken_init [.obj 1, a, b] [.lst [.int n], .ins ("Broken" : Str) []]).nox.bind fun r s' => match r with
    | .non => .ok (.obj 1) s'
    | _ => .bad) = _
  rw [e1]
  show trimR 1 (.ok (.obj 1) [.lst [.int n], .ins ("Broken" : Str) [(("words" : Str), a), (("book" : Str), b)]]) = _
  have hf : StillF [(("words" : Str), a), (("book" : Str), b)] := stillF_cons ha (stillF_cons hb stillF_nil)
  have e2 : look [.lst [.int n], .ins ("Broken" : Str) [(("words" : Str), a), (("book" : Str), b)]] 1 8 1 = some (.ist ("Broken" : Str) [(("words" : Str), a), (("book" : Str), b)]) := by
    show (subF _ [(("words" : Str), a), (("book" : Str), b)]).map (D.ist ("Broken" : Str)) = _
    rw [hf _]; rfl
  simp only [trimR, subD, e2, List.take_succ_cons, List.take_zero, spot_still _]
  rfl
theorem made_Broken {a b : D} {n : Int} (ha : Still a) (hb : Still b) : F_law_second [.str ("broken" : Str), .fls [a, b]] [.lst [.int n]] = .ok (.ist ("Broken" : Str) [(("words" : Str), a), (("book" : Str), b)]) [.lst [.int n]] := by
  refine fn_run rfl ?_ (Nat.le_refl _)
  have e0 : eqP (.str ("broken" : Str)) (.str ("survival" : Str)) = some (.bl false) := by kernel_rfl
  have e1 : eqP (.str ("broken" : Str)) (.str ("frail" : Str)) = some (.bl false) := by kernel_rfl
  have e2 : eqP (.str ("broken" : Str)) (.str ("moves" : Str)) = some (.bl false) := by kernel_rfl
  have e3 : eqP (.str ("broken" : Str)) (.str ("stuck" : Str)) = some (.bl false) := by kernel_rfl
  have e4 : eqP (.str ("broken" : Str)) (.str ("kept" : Str)) = some (.bl false) := by kernel_rfl
  have e5 : eqP (.str ("broken" : Str)) (.str ("broken" : Str)) = some (.bl true) := by kernel_rfl
  unfold b_law_second startD
  simp [e0, e1, e2, e3, e4, e5, new_Broken ha hb, atI_nat]
theorem read_Broken {a b : D} {n : Int} (ha : Still a) (hb : Still b) : F_certificate_of_books [.str ("broken" : Str), .tup [a, b]] [.lst [.int n]] = .ok (.ist ("Broken" : Str) [(("words" : Str), a), (("book" : Str), b)]) [.lst [.int n]] := by
  refine fn_run rfl ?_ (Nat.le_refl _)
  have e : (b_certificate_of_books (startD 3 [.str ("broken" : Str), .tup [a, b]]) [.lst [.int n]]).fin = ((newF ("Broken" : Str) F_Broken_init [a, b] [.lst [.int n]]).toS [some (.str ("broken" : Str)), some (.tup [a, b]), none] fun d s => .rt d s).fin := by kernel_rfl
  rw [e, new_Broken ha hb]; rfl
theorem same_Broken {a b N : D} {n : Int} : (b_law_same (startD 6 [(.ist ("Broken" : Str) [(("words" : Str), a), (("book" : Str), b)]), .int 15, N]) [.lst [.int n]]).fin = (tailS [some (.ist ("Broken" : Str) [(("words" : Str), a), (("book" : Str), b)]), some (.int 15), some N, some (.bl false), some (.tup (.str ("broken" : Str) :: [a, b])), none] [.lst [.int n]]).fin := by kernel_rfl
theorem text_Broken {a b : D} {n : Int} : (b_certificate_text (startD 1 [(.ist ("Broken" : Str) [(("words" : Str), a), (("book" : Str), b)])]) [.lst [.int n]]).fin = ((F_write_note 60 [.tup (.str ("broken" : Str) :: [a, b])] [.lst [.int n]]).toS [some (.ist ("Broken" : Str) [(("words" : Str), a), (("book" : Str), b)])] fun d s => .rt d s).fin := by kernel_rfl
theorem kind_Broken : KindOk 15 ("broken" : Str) [fEvent, fEvents] true cert_Broken where
  made := fun xs n h => by
    obtain ⟨a, b, rfl⟩ := len2x (h.lens.symm.trans rfl)
    exact made_Broken (stillL_mem h.still a (by simp)) (stillL_mem h.still b (by simp))
  book := by kernel_rfl
  read := fun xs n h => by
    obtain ⟨a, b, rfl⟩ := len2x (h.lens.symm.trans rfl)
    exact read_Broken (stillL_mem h.still a (by simp)) (stillL_mem h.still b (by simp))
  bad := fun ys n _ _ h1 h2 => (no_bad (by decide +kernel) h1 h2).elim
  same := fun xs n h hn hl => by
    obtain ⟨a, b, rfl⟩ := len2x (h.lens.symm.trans rfl)
    refine fn_run rfl ?_ (Nat.le_refl _)
    show (b_law_same (startD 6 [(.ist ("Broken" : Str) [(("words" : Str), a), (("book" : Str), b)]), .int 15, _]) _).fin = _
    rw [same_Broken]
    exact tail_ok hn (by decide) hl
  text := fun xs n h hn hl => by
    obtain ⟨a, b, rfl⟩ := len2x (h.lens.symm.trans rfl)
    refine fn_run rfl ?_ (Nat.le_refl _)
    show (b_certificate_text (startD 1 [(.ist ("Broken" : Str) [(("words" : Str), a), (("book" : Str), b)])]) _).fin = _
    rw [text_Broken, f_write 60 59 _ hn (by decide) hl]
    rfl
  after := fun e xs s h => by
    exact absurd e (by decide)
  still := fun xs h => by
    obtain ⟨a, b, rfl⟩ := len2x (h.lens.symm.trans rfl)
    exact still_ist (stillF_cons (stillL_mem h.still a (by simp)) (stillF_cons (stillL_mem h.still b (by simp)) stillF_nil))
def cert_WaitBound : List D → D := fun xs => match xs with | [a, b, c, d, e] => (.ist ("WaitBound" : Str) [(("hours" : Str), a), (("name" : Str), b), (("book" : Str), c), (("shapes" : Str), d), (("rows" : Str), e)]) | _ => .non
theorem new_WaitBound {a b c d e : D} {n : Int} (ha : Still a) (hb : Still b) (hc : Still c) (hd : Still d) (he : Still e) : newF ("WaitBound" : Str) F_WaitBound_init [a, b, c, d, e] [.lst [.int n]] = .ok (.ist ("WaitBound" : Str) [(("hours" : Str), a), (("name" : Str), b), (("book" : Str), c), (("shapes" : Str), d), (("rows" : Str), e)]) [.lst [.int n]] :=
  f_new (C := ("WaitBound" : Str)) (fs := [("hours" : Str), ("name" : Str), ("book" : Str), ("shapes" : Str), ("rows" : Str)]) (n := 6) (N := 6) rfl rfl rfl (by decide +kernel) (by decide +kernel) (by decide) (stillL_cons ha (stillL_cons hb (stillL_cons hc (stillL_cons hd (stillL_cons he stillL_nil))))) spot_still
theorem made_WaitBound {a b c d e : D} {n : Int} (ha : Still a) (hb : Still b) (hc : Still c) (hd : Still d) (he : Still e) : F_law_second [.str ("wait" : Str), .fls [a, b, c, d, e]] [.lst [.int n]] = .ok (.ist ("WaitBound" : Str) [(("hours" : Str), a), (("name" : Str), b), (("book" : Str), c), (("shapes" : Str), d), (("rows" : Str), e)]) [.lst [.int n]] := by
  refine fn_run rfl ?_ (Nat.le_refl _)
  have e0 : eqP (.str ("wait" : Str)) (.str ("survival" : Str)) = some (.bl false) := by kernel_rfl
  have e1 : eqP (.str ("wait" : Str)) (.str ("frail" : Str)) = some (.bl false) := by kernel_rfl
  have e2 : eqP (.str ("wait" : Str)) (.str ("moves" : Str)) = some (.bl false) := by kernel_rfl
  have e3 : eqP (.str ("wait" : Str)) (.str ("stuck" : Str)) = some (.bl false) := by kernel_rfl
  have e4 : eqP (.str ("wait" : Str)) (.str ("kept" : Str)) = some (.bl false) := by kernel_rfl
  have e5 : eqP (.str ("wait" : Str)) (.str ("broken" : Str)) = some (.bl false) := by kernel_rfl
  have e6 : eqP (.str ("wait" : Str)) (.str ("wait" : Str)) = some (.bl true) := by kernel_rfl
  unfold b_law_second startD
  simp [e0, e1, e2, e3, e4, e5, e6, new_WaitBound ha hb hc hd he, atI_nat]
theorem read_WaitBound {a b c d e : D} {n : Int} (ha : Still a) (hb : Still b) (hc : Still c) (hd : Still d) (he : Still e) : F_certificate_of_books [.str ("wait" : Str), .tup [a, b, c, d, e]] [.lst [.int n]] = .ok (.ist ("WaitBound" : Str) [(("hours" : Str), a), (("name" : Str), b), (("book" : Str), c), (("shapes" : Str), d), (("rows" : Str), e)]) [.lst [.int n]] := by
  refine fn_run rfl ?_ (Nat.le_refl _)
  have e : (b_certificate_of_books (startD 3 [.str ("wait" : Str), .tup [a, b, c, d, e]]) [.lst [.int n]]).fin = ((newF ("WaitBound" : Str) F_WaitBound_init [a, b, c, d, e] [.lst [.int n]]).toS [some (.str ("wait" : Str)), some (.tup [a, b, c, d, e]), none] fun d s => .rt d s).fin := by kernel_rfl
  rw [e, new_WaitBound ha hb hc hd he]; rfl
theorem same_WaitBound {a b c d e N : D} {n : Int} : (b_law_same (startD 6 [(.ist ("WaitBound" : Str) [(("hours" : Str), a), (("name" : Str), b), (("book" : Str), c), (("shapes" : Str), d), (("rows" : Str), e)]), .int 16, N]) [.lst [.int n]]).fin = (tailS [some (.ist ("WaitBound" : Str) [(("hours" : Str), a), (("name" : Str), b), (("book" : Str), c), (("shapes" : Str), d), (("rows" : Str), e)]), some (.int 16), some N, some (.bl true), some (.tup (.str ("wait" : Str) :: [a, b, c, d, e])), none] [.lst [.int n]]).fin := by kernel_rfl
theorem text_WaitBound {a b c d e : D} {n : Int} : (b_certificate_text (startD 1 [(.ist ("WaitBound" : Str) [(("hours" : Str), a), (("name" : Str), b), (("book" : Str), c), (("shapes" : Str), d), (("rows" : Str), e)])]) [.lst [.int n]]).fin = ((F_write_note 60 [.tup (.str ("wait" : Str) :: [a, b, c, d, e])] [.lst [.int n]]).toS [some (.ist ("WaitBound" : Str) [(("hours" : Str), a), (("name" : Str), b), (("book" : Str), c), (("shapes" : Str), d), (("rows" : Str), e)])] fun d s => .rt d s).fin := by kernel_rfl
theorem kind_WaitBound : KindOk 16 ("wait" : Str) [.i, fName, fEvents, .any .t, fTriples] true cert_WaitBound where
  made := fun xs n h => by
    obtain ⟨a, b, c, d, e, rfl⟩ := len5x (h.lens.symm.trans rfl)
    exact made_WaitBound (stillL_mem h.still a (by simp)) (stillL_mem h.still b (by simp)) (stillL_mem h.still c (by simp)) (stillL_mem h.still d (by simp)) (stillL_mem h.still e (by simp))
  book := by kernel_rfl
  read := fun xs n h => by
    obtain ⟨a, b, c, d, e, rfl⟩ := len5x (h.lens.symm.trans rfl)
    exact read_WaitBound (stillL_mem h.still a (by simp)) (stillL_mem h.still b (by simp)) (stillL_mem h.still c (by simp)) (stillL_mem h.still d (by simp)) (stillL_mem h.still e (by simp))
  bad := fun ys n _ _ h1 h2 => (no_bad (by decide +kernel) h1 h2).elim
  same := fun xs n h hn hl => by
    obtain ⟨a, b, c, d, e, rfl⟩ := len5x (h.lens.symm.trans rfl)
    refine fn_run rfl ?_ (Nat.le_refl _)
    show (b_law_same (startD 6 [(.ist ("WaitBound" : Str) [(("hours" : Str), a), (("name" : Str), b), (("book" : Str), c), (("shapes" : Str), d), (("rows" : Str), e)]), .int 16, _]) _).fin = _
    rw [same_WaitBound]
    exact tail_ok hn (by decide) hl
  text := fun xs n h hn hl => by
    obtain ⟨a, b, c, d, e, rfl⟩ := len5x (h.lens.symm.trans rfl)
    refine fn_run rfl ?_ (Nat.le_refl _)
    show (b_certificate_text (startD 1 [(.ist ("WaitBound" : Str) [(("hours" : Str), a), (("name" : Str), b), (("book" : Str), c), (("shapes" : Str), d), (("rows" : Str), e)])]) _).fin = _
    rw [text_WaitBound, f_write 60 59 _ hn (by decide) hl]
    rfl
  after := fun e xs s h => by
    exact absurd e (by decide)
  still := fun xs h => by
    obtain ⟨a, b, c, d, e, rfl⟩ := len5x (h.lens.symm.trans rfl)
    exact still_ist (stillF_cons (stillL_mem h.still a (by simp)) (stillF_cons (stillL_mem h.still b (by simp)) (stillF_cons (stillL_mem h.still c (by simp)) (stillF_cons (stillL_mem h.still d (by simp)) (stillF_cons (stillL_mem h.still e (by simp)) stillF_nil)))))
def cert_WaitRing : List D → D := fun xs => match xs with | [a, b, c] => (.ist ("WaitRing" : Str) [(("name" : Str), a), (("book" : Str), b), (("ring" : Str), c)]) | _ => .non
theorem new_WaitRing {a b c : D} {n : Int} (ha : Still a) (hb : Still b) (hc : Still c) : newF ("WaitRing" : Str) F_WaitRing_init [a, b, c] [.lst [.int n]] = .ok (.ist ("WaitRing" : Str) [(("name" : Str), a), (("book" : Str), b), (("ring" : Str), c)]) [.lst [.int n]] :=
  f_new (C := ("WaitRing" : Str)) (fs := [("name" : Str), ("book" : Str), ("ring" : Str)]) (n := 4) (N := 4) rfl rfl rfl (by decide +kernel) (by decide +kernel) (by decide) (stillL_cons ha (stillL_cons hb (stillL_cons hc stillL_nil))) spot_still
theorem made_WaitRing {a b c : D} {n : Int} (ha : Still a) (hb : Still b) (hc : Still c) : F_law_second [.str ("ring" : Str), .fls [a, b, c]] [.lst [.int n]] = .ok (.ist ("WaitRing" : Str) [(("name" : Str), a), (("book" : Str), b), (("ring" : Str), c)]) [.lst [.int n]] := by
  refine fn_run rfl ?_ (Nat.le_refl _)
  have e0 : eqP (.str ("ring" : Str)) (.str ("survival" : Str)) = some (.bl false) := by kernel_rfl
  have e1 : eqP (.str ("ring" : Str)) (.str ("frail" : Str)) = some (.bl false) := by kernel_rfl
  have e2 : eqP (.str ("ring" : Str)) (.str ("moves" : Str)) = some (.bl false) := by kernel_rfl
  have e3 : eqP (.str ("ring" : Str)) (.str ("stuck" : Str)) = some (.bl false) := by kernel_rfl
  have e4 : eqP (.str ("ring" : Str)) (.str ("kept" : Str)) = some (.bl false) := by kernel_rfl
  have e5 : eqP (.str ("ring" : Str)) (.str ("broken" : Str)) = some (.bl false) := by kernel_rfl
  have e6 : eqP (.str ("ring" : Str)) (.str ("wait" : Str)) = some (.bl false) := by kernel_rfl
  have e7 : eqP (.str ("ring" : Str)) (.str ("ring" : Str)) = some (.bl true) := by kernel_rfl
  unfold b_law_second startD
  simp [e0, e1, e2, e3, e4, e5, e6, e7, new_WaitRing ha hb hc, atI_nat]
theorem read_WaitRing {a b c : D} {n : Int} (ha : Still a) (hb : Still b) (hc : Still c) : F_certificate_of_books [.str ("ring" : Str), .tup [a, b, c]] [.lst [.int n]] = .ok (.ist ("WaitRing" : Str) [(("name" : Str), a), (("book" : Str), b), (("ring" : Str), c)]) [.lst [.int n]] := by
  refine fn_run rfl ?_ (Nat.le_refl _)
  have e : (b_certificate_of_books (startD 3 [.str ("ring" : Str), .tup [a, b, c]]) [.lst [.int n]]).fin = ((newF ("WaitRing" : Str) F_WaitRing_init [a, b, c] [.lst [.int n]]).toS [some (.str ("ring" : Str)), some (.tup [a, b, c]), none] fun d s => .rt d s).fin := by kernel_rfl
  rw [e, new_WaitRing ha hb hc]; rfl
theorem same_WaitRing {a b c N : D} {n : Int} : (b_law_same (startD 6 [(.ist ("WaitRing" : Str) [(("name" : Str), a), (("book" : Str), b), (("ring" : Str), c)]), .int 17, N]) [.lst [.int n]]).fin = (tailS [some (.ist ("WaitRing" : Str) [(("name" : Str), a), (("book" : Str), b), (("ring" : Str), c)]), some (.int 17), some N, some (.bl false), some (.tup (.str ("ring" : Str) :: [a, b, c])), none] [.lst [.int n]]).fin := by kernel_rfl
theorem text_WaitRing {a b c : D} {n : Int} : (b_certificate_text (startD 1 [(.ist ("WaitRing" : Str) [(("name" : Str), a), (("book" : Str), b), (("ring" : Str), c)])]) [.lst [.int n]]).fin = ((F_write_note 60 [.tup (.str ("ring" : Str) :: [a, b, c])] [.lst [.int n]]).toS [some (.ist ("WaitRing" : Str) [(("name" : Str), a), (("book" : Str), b), (("ring" : Str), c)])] fun d s => .rt d s).fin := by kernel_rfl
theorem kind_WaitRing : KindOk 17 ("ring" : Str) [.w, fEvents, fEvents] true cert_WaitRing where
  made := fun xs n h => by
    obtain ⟨a, b, c, rfl⟩ := len3x (h.lens.symm.trans rfl)
    exact made_WaitRing (stillL_mem h.still a (by simp)) (stillL_mem h.still b (by simp)) (stillL_mem h.still c (by simp))
  book := by kernel_rfl
  read := fun xs n h => by
    obtain ⟨a, b, c, rfl⟩ := len3x (h.lens.symm.trans rfl)
    exact read_WaitRing (stillL_mem h.still a (by simp)) (stillL_mem h.still b (by simp)) (stillL_mem h.still c (by simp))
  bad := fun ys n _ _ h1 h2 => (no_bad (by decide +kernel) h1 h2).elim
  same := fun xs n h hn hl => by
    obtain ⟨a, b, c, rfl⟩ := len3x (h.lens.symm.trans rfl)
    refine fn_run rfl ?_ (Nat.le_refl _)
    show (b_law_same (startD 6 [(.ist ("WaitRing" : Str) [(("name" : Str), a), (("book" : Str), b), (("ring" : Str), c)]), .int 17, _]) _).fin = _
    rw [same_WaitRing]
    exact tail_ok hn (by decide) hl
  text := fun xs n h hn hl => by
    obtain ⟨a, b, c, rfl⟩ := len3x (h.lens.symm.trans rfl)
    refine fn_run rfl ?_ (Nat.le_refl _)
    show (b_certificate_text (startD 1 [(.ist ("WaitRing" : Str) [(("name" : Str), a), (("book" : Str), b), (("ring" : Str), c)])]) _).fin = _
    rw [text_WaitRing, f_write 60 59 _ hn (by decide) hl]
    rfl
  after := fun e xs s h => by
    exact absurd e (by decide)
  still := fun xs h => by
    obtain ⟨a, b, c, rfl⟩ := len3x (h.lens.symm.trans rfl)
    exact still_ist (stillF_cons (stillL_mem h.still a (by simp)) (stillF_cons (stillL_mem h.still b (by simp)) (stillF_cons (stillL_mem h.still c (by simp)) stillF_nil)))
def cert_PairTable : List D → D := fun xs => match xs with | [a, b] => (.ist ("PairTable" : Str) [(("relation" : Str), a), (("rows" : Str), b)]) | _ => .non
theorem new_PairTable {a b : D} {n : Int} (ha : Still a) (hb : Still b) : newF ("PairTable" : Str) F_PairTable_init [a, b] [.lst [.int n]] = .ok (.ist ("PairTable" : Str) [(("relation" : Str), a), (("rows" : Str), b)]) [.lst [.int n]] :=
  f_new (C := ("PairTable" : Str)) (fs := [("relation" : Str), ("rows" : Str)]) (n := 3) (N := 3) rfl rfl rfl (by decide +kernel) (by decide +kernel) (by decide) (stillL_cons ha (stillL_cons hb stillL_nil)) spot_still
theorem made_PairTable {a b : D} {n : Int} (ha : Still a) (hb : Still b) : F_law_second [.str ("pairs" : Str), .fls [a, b]] [.lst [.int n]] = .ok (.ist ("PairTable" : Str) [(("relation" : Str), a), (("rows" : Str), b)]) [.lst [.int n]] := by
  refine fn_run rfl ?_ (Nat.le_refl _)
  have e0 : eqP (.str ("pairs" : Str)) (.str ("survival" : Str)) = some (.bl false) := by kernel_rfl
  have e1 : eqP (.str ("pairs" : Str)) (.str ("frail" : Str)) = some (.bl false) := by kernel_rfl
  have e2 : eqP (.str ("pairs" : Str)) (.str ("moves" : Str)) = some (.bl false) := by kernel_rfl
  have e3 : eqP (.str ("pairs" : Str)) (.str ("stuck" : Str)) = some (.bl false) := by kernel_rfl
  have e4 : eqP (.str ("pairs" : Str)) (.str ("kept" : Str)) = some (.bl false) := by kernel_rfl
  have e5 : eqP (.str ("pairs" : Str)) (.str ("broken" : Str)) = some (.bl false) := by kernel_rfl
  have e6 : eqP (.str ("pairs" : Str)) (.str ("wait" : Str)) = some (.bl false) := by kernel_rfl
  have e7 : eqP (.str ("pairs" : Str)) (.str ("ring" : Str)) = some (.bl false) := by kernel_rfl
  have e8 : eqP (.str ("pairs" : Str)) (.str ("pairs" : Str)) = some (.bl true) := by kernel_rfl
  unfold b_law_second startD
  simp [e0, e1, e2, e3, e4, e5, e6, e7, e8, new_PairTable ha hb, atI_nat]
theorem read_PairTable {a b : D} {n : Int} (ha : Still a) (hb : Still b) : F_certificate_of_books [.str ("pairs" : Str), .tup [a, b]] [.lst [.int n]] = .ok (.ist ("PairTable" : Str) [(("relation" : Str), a), (("rows" : Str), b)]) [.lst [.int n]] := by
  refine fn_run rfl ?_ (Nat.le_refl _)
  have e : (b_certificate_of_books (startD 3 [.str ("pairs" : Str), .tup [a, b]]) [.lst [.int n]]).fin = ((newF ("PairTable" : Str) F_PairTable_init [a, b] [.lst [.int n]]).toS [some (.str ("pairs" : Str)), some (.tup [a, b]), none] fun d s => .rt d s).fin := by kernel_rfl
  rw [e, new_PairTable ha hb]; rfl
theorem same_PairTable {a b N : D} {n : Int} : (b_law_same (startD 6 [(.ist ("PairTable" : Str) [(("relation" : Str), a), (("rows" : Str), b)]), .int 18, N]) [.lst [.int n]]).fin = (tailS [some (.ist ("PairTable" : Str) [(("relation" : Str), a), (("rows" : Str), b)]), some (.int 18), some N, some (.bl true), some (.tup (.str ("pairs" : Str) :: [a, b])), none] [.lst [.int n]]).fin := by kernel_rfl
theorem text_PairTable {a b : D} {n : Int} : (b_certificate_text (startD 1 [(.ist ("PairTable" : Str) [(("relation" : Str), a), (("rows" : Str), b)])]) [.lst [.int n]]).fin = ((F_write_note 60 [.tup (.str ("pairs" : Str) :: [a, b])] [.lst [.int n]]).toS [some (.ist ("PairTable" : Str) [(("relation" : Str), a), (("rows" : Str), b)])] fun d s => .rt d s).fin := by kernel_rfl
theorem kind_PairTable : KindOk 18 ("pairs" : Str) [.w, fPairs] true cert_PairTable where
  made := fun xs n h => by
    obtain ⟨a, b, rfl⟩ := len2x (h.lens.symm.trans rfl)
    exact made_PairTable (stillL_mem h.still a (by simp)) (stillL_mem h.still b (by simp))
  book := by kernel_rfl
  read := fun xs n h => by
    obtain ⟨a, b, rfl⟩ := len2x (h.lens.symm.trans rfl)
    exact read_PairTable (stillL_mem h.still a (by simp)) (stillL_mem h.still b (by simp))
  bad := fun ys n _ _ h1 h2 => (no_bad (by decide +kernel) h1 h2).elim
  same := fun xs n h hn hl => by
    obtain ⟨a, b, rfl⟩ := len2x (h.lens.symm.trans rfl)
    refine fn_run rfl ?_ (Nat.le_refl _)
    show (b_law_same (startD 6 [(.ist ("PairTable" : Str) [(("relation" : Str), a), (("rows" : Str), b)]), .int 18, _]) _).fin = _
    rw [same_PairTable]
    exact tail_ok hn (by decide) hl
  text := fun xs n h hn hl => by
    obtain ⟨a, b, rfl⟩ := len2x (h.lens.symm.trans rfl)
    refine fn_run rfl ?_ (Nat.le_refl _)
    show (b_certificate_text (startD 1 [(.ist ("PairTable" : Str) [(("relation" : Str), a), (("rows" : Str), b)])]) _).fin = _
    rw [text_PairTable, f_write 60 59 _ hn (by decide) hl]
    rfl
  after := fun e xs s h => by
    exact absurd e (by decide)
  still := fun xs h => by
    obtain ⟨a, b, rfl⟩ := len2x (h.lens.symm.trans rfl)
    exact still_ist (stillF_cons (stillL_mem h.still a (by simp)) (stillF_cons (stillL_mem h.still b (by simp)) stillF_nil))
def cert_PairBook : List D → D := fun xs => match xs with | [a, b] => (.ist ("PairBook" : Str) [(("relation" : Str), a), (("book" : Str), b)]) | _ => .non
theorem new_PairBook {a b : D} {n : Int} (ha : Still a) (hb : Still b) : newF ("PairBook" : Str) F_PairBook_init [a, b] [.lst [.int n]] = .ok (.ist ("PairBook" : Str) [(("relation" : Str), a), (("book" : Str), b)]) [.lst [.int n]] :=
  f_new (C := ("PairBook" : Str)) (fs := [("relation" : Str), ("book" : Str)]) (n := 3) (N := 3) rfl rfl rfl (by decide +kernel) (by decide +kernel) (by decide) (stillL_cons ha (stillL_cons hb stillL_nil)) spot_still
theorem made_PairBook {a b : D} {n : Int} (ha : Still a) (hb : Still b) : F_law_second [.str ("parted" : Str), .fls [a, b]] [.lst [.int n]] = .ok (.ist ("PairBook" : Str) [(("relation" : Str), a), (("book" : Str), b)]) [.lst [.int n]] := by
  refine fn_run rfl ?_ (Nat.le_refl _)
  have e0 : eqP (.str ("parted" : Str)) (.str ("survival" : Str)) = some (.bl false) := by kernel_rfl
  have e1 : eqP (.str ("parted" : Str)) (.str ("frail" : Str)) = some (.bl false) := by kernel_rfl
  have e2 : eqP (.str ("parted" : Str)) (.str ("moves" : Str)) = some (.bl false) := by kernel_rfl
  have e3 : eqP (.str ("parted" : Str)) (.str ("stuck" : Str)) = some (.bl false) := by kernel_rfl
  have e4 : eqP (.str ("parted" : Str)) (.str ("kept" : Str)) = some (.bl false) := by kernel_rfl
  have e5 : eqP (.str ("parted" : Str)) (.str ("broken" : Str)) = some (.bl false) := by kernel_rfl
  have e6 : eqP (.str ("parted" : Str)) (.str ("wait" : Str)) = some (.bl false) := by kernel_rfl
  have e7 : eqP (.str ("parted" : Str)) (.str ("ring" : Str)) = some (.bl false) := by kernel_rfl
  have e8 : eqP (.str ("parted" : Str)) (.str ("pairs" : Str)) = some (.bl false) := by kernel_rfl
  have e8 : eqP (.str ("parted" : Str)) (.str ("pairs" : Str)) = some (.bl false) := by kernel_rfl
  unfold b_law_second startD
  simp [e0, e1, e2, e3, e4, e5, e6, e7, e8, new_PairBook ha hb, atI_nat]
theorem read_PairBook {a b : D} {n : Int} (ha : Still a) (hb : Still b) : F_certificate_of_books [.str ("parted" : Str), .tup [a, b]] [.lst [.int n]] = .ok (.ist ("PairBook" : Str) [(("relation" : Str), a), (("book" : Str), b)]) [.lst [.int n]] := by
  refine fn_run rfl ?_ (Nat.le_refl _)
  have e : (b_certificate_of_books (startD 3 [.str ("parted" : Str), .tup [a, b]]) [.lst [.int n]]).fin = ((newF ("PairBook" : Str) F_PairBook_init [a, b] [.lst [.int n]]).toS [some (.str ("parted" : Str)), some (.tup [a, b]), some (.str ("parted" : Str))] fun d s => .rt d s).fin := by kernel_rfl
  rw [e, new_PairBook ha hb]; rfl
theorem same_PairBook {a b N : D} {n : Int} : (b_law_same (startD 6 [(.ist ("PairBook" : Str) [(("relation" : Str), a), (("book" : Str), b)]), .int 19, N]) [.lst [.int n]]).fin = (tailS [some (.ist ("PairBook" : Str) [(("relation" : Str), a), (("book" : Str), b)]), some (.int 19), some N, some (.bl false), some (.tup (.str ("parted" : Str) :: [a, b])), none] [.lst [.int n]]).fin := by kernel_rfl
theorem text_PairBook {a b : D} {n : Int} : (b_certificate_text (startD 1 [(.ist ("PairBook" : Str) [(("relation" : Str), a), (("book" : Str), b)])]) [.lst [.int n]]).fin = ((F_write_note 60 [.tup (.str ("parted" : Str) :: [a, b])] [.lst [.int n]]).toS [some (.ist ("PairBook" : Str) [(("relation" : Str), a), (("book" : Str), b)])] fun d s => .rt d s).fin := by kernel_rfl
theorem kind_PairBook : KindOk 19 ("parted" : Str) [.w, fEvents] true cert_PairBook where
  made := fun xs n h => by
    obtain ⟨a, b, rfl⟩ := len2x (h.lens.symm.trans rfl)
    exact made_PairBook (stillL_mem h.still a (by simp)) (stillL_mem h.still b (by simp))
  book := by kernel_rfl
  read := fun xs n h => by
    obtain ⟨a, b, rfl⟩ := len2x (h.lens.symm.trans rfl)
    exact read_PairBook (stillL_mem h.still a (by simp)) (stillL_mem h.still b (by simp))
  bad := fun ys n _ _ h1 h2 => (no_bad (by decide +kernel) h1 h2).elim
  same := fun xs n h hn hl => by
    obtain ⟨a, b, rfl⟩ := len2x (h.lens.symm.trans rfl)
    refine fn_run rfl ?_ (Nat.le_refl _)
    show (b_law_same (startD 6 [(.ist ("PairBook" : Str) [(("relation" : Str), a), (("book" : Str), b)]), .int 19, _]) _).fin = _
    rw [same_PairBook]
    exact tail_ok hn (by decide) hl
  text := fun xs n h hn hl => by
    obtain ⟨a, b, rfl⟩ := len2x (h.lens.symm.trans rfl)
    refine fn_run rfl ?_ (Nat.le_refl _)
    show (b_certificate_text (startD 1 [(.ist ("PairBook" : Str) [(("relation" : Str), a), (("book" : Str), b)])]) _).fin = _
    rw [text_PairBook, f_write 60 59 _ hn (by decide) hl]
    rfl
  after := fun e xs s h => by
    exact absurd e (by decide)
  still := fun xs h => by
    obtain ⟨a, b, rfl⟩ := len2x (h.lens.symm.trans rfl)
    exact still_ist (stillF_cons (stillL_mem h.still a (by simp)) (stillF_cons (stillL_mem h.still b (by simp)) stillF_nil))
end K97

set_option Elab.async false
set_option linter.all false
set_option autoImplicit false
set_option maxRecDepth 100000
set_option maxHeartbeats 4000000
set_option exponentiation.threshold 10000
/-! P22: shares. -/
namespace K97
open PySem PySem.Spec PyProof.Rows L2 FL
open SX
theorem gcd_step (x y : Int) : Int.gcd y (x % y) = Int.gcd x y := by
  rw [Int.emod_def, Int.gcd_sub_mul_left_right, Int.gcd_comm]
theorem f_gcd {t m : Int} {s : Sto} (hm : 0 ≤ m) : F_gcd [.int t, .int m] s = .ok (.int (Int.gcd t m)) s := by
  have h : OutR (F_gcd [.int t, .int m] s) fun d s' => s' = s ∧ d = .int (Int.gcd t m) := by
    refine out_fn0 rfl ?_
    unfold b_gcd startD
    simp [oS, oT, oB]
    refine out_while (I := fun τ s' => s' = s ∧ ∃ x y : Int, τ = [some (.int x), some (.int y)] ∧ 0 ≤ y ∧ Int.gcd x y = Int.gcd t m)
      (t := fun τ s => match τ[1]? with | some (some (D.int i)) => !decide (i = 0) | _ => false) ?_ ?_ ?_ ?_ ?_
    · rintro τ s' ⟨rfl, x, y, rfl, hy, hg⟩
      simp
    · rintro τ s' ⟨rfl, x, y, rfl, hy, hg⟩ hz
      have hz2 : ¬ y = 0 := by simpa using hz
      have hy2 : 0 < y := by omega
      have n0 : 0 ≤ x % y := Int.emod_nonneg _ (by omega)
      have n1 : x % y < y := Int.emod_lt_of_pos _ hy2
      simp [v_mod hy2]
      refine ⟨⟨y, x % y, ⟨rfl, rfl⟩, n0, by rw [gcd_step]; exact hg⟩, ?_⟩
      omega
    · rintro τ s' ⟨rfl, x, y, rfl, hy, hg⟩
      simp
    · exact ⟨rfl, t, m, rfl, hm, rfl⟩
    · rintro τ s' ⟨rfl, x, y, rfl, hy, hg⟩ hz
      have hz2 : y = 0 := by simpa using hz
      subst hz2
      rw [Int.gcd_zero] at hg
      simp [abs_if, hg]
      exact ⟨rfl, rfl, rfl⟩
  obtain ⟨d, s', e, rfl, rfl⟩ := h.ex
  exact e
theorem divWb {i j : Int} (h : 0 < j) (h2 : j.natAbs < 10 ^ 201) : CDivW i j := by
  refine ⟨h, ?_⟩
  have : j.natAbs < 2 ^ 8999 := Nat.lt_of_lt_of_le h2 (by decide)
  have := (Nat.log2_lt (n := j.natAbs) (k := 8999) (by omega)).mpr this
  omega
/-- a share -/
def shI (t m : Int) : D := .ist "Share" [("top", .int t), ("bottom", .int m)]
theorem shI_still {t m : Int} : Still (shI t m) := still_ist (stillF_cons still_int (stillF_cons still_int stillF_nil))
theorem f_share {t m : Int} {s : Sto} (hm : 0 < m) (hm2 : m.natAbs < 10 ^ 201) (hs : StillS s) : newF "Share" F_Share_init [.int t, .int m] s = .ok (shI (t / (Int.gcd t m : Int)) (m / (Int.gcd t m : Int))) s := by
  have hg : 0 < Int.gcd t m := Int.gcd_pos_iff.mpr (.inr (by omega))
  have hgi : (0 : Int) < (Int.gcd t m : Int) := by omega
  have hle : (Int.gcd t m : Int) ≤ m := Int.le_of_dvd hm (Int.gcd_dvd_right ..)
  have hb : ((Int.gcd t m : Int)).natAbs < 10 ^ 201 := by omega
  have gg : F_gcd [.int t, .int m] (s ++ [.ins "Share" []]) = .ok (.int (Int.gcd t m)) (s ++ [.ins "Share" []]) := f_gcd (by omega)
  generalize (Int.gcd t m : Int) = g at gg hgi hb
  have c1 : CDivW t g := divWb hgi hb
  have c2 : CDivW m g := divWb hgi hb
  have k1 : okT "Share" "top" = true := by decide +kernel
  have k2 : okT "Share" "bottom" = true := by decide +kernel
  have p1 : ∀ v : D, putD ("top" : Str) v ([] : List (Str × D)) = [(("top" : Str), v)] := fun v => rfl
  have p2 : ∀ v w : D, putD ("bottom" : Str) w [(("top" : Str), v)] = [(("top" : Str), v), (("bottom" : Str), w)] := fun v w => by kernel_rfl
  have g1 : (s ++ [O.ins "Share" []])[s.length]? = some (.ins "Share" []) := by simp
  have g2 : ∀ fs, (s ++ [O.ins "Share" fs])[s.length]? = some (.ins "Share" fs) := fun fs => by simp
  have g3 : ∀ fs gs, (s ++ [O.ins "Share" fs]).set s.length (.ins "Share" gs) = s ++ [O.ins "Share" gs] := fun fs gs => by simp
  have n1 : ¬ m < 0 := by omega
  have n2 : ¬ m = 0 := by omega
  have e1 : F_Share_init [.obj s.length, .int t, .int m] (s ++ [.ins "Share" []]) = .ok .non (s ++ [.ins "Share" [("top", .int (t / g)), ("bottom", .int (m / g))]]) := by
    refine fn_run rfl ?_ (by simp)
    unfold b_Share_init startD
    simp [gg, n1, n2, v_div c1, v_div c2, g2, g3, k1, k2, p1, p2]
  unfold newF
  rw [e1]
  show trimR s.length (.ok (.obj s.length) (s ++ [.ins "Share" [("top", .int (t / g)), ("bottom", .int (m / g))]])) = _
  have hf : StillF [("top", .int (t / g)), ("bottom", .int (m / g))] := stillF_cons still_int (stillF_cons still_int stillF_nil)
  have e2 : look (s ++ [.ins "Share" [("top", .int (t / g)), ("bottom", .int (m / g))]]) s.length 8 s.length = some (shI (t / g) (m / g)) := by
    unfold look
    rw [if_neg (Nat.lt_irrefl _), g2]
    simp only [hf _, Option.map_some]
    rfl
  simp only [trimR, subD, e2, List.take_left, hs _]
  rw [if_neg (by simp)]
theorem share_pr {t m : Int} {s : Sto} (h : Int.gcd t m = 1) (hm : 0 < m) (hm2 : m.natAbs < 10 ^ 201) (hs : StillS s) : newF "Share" F_Share_init [.int t, .int m] s = .ok (shI t m) s := by
  rw [f_share hm hm2 hs, h]
  simp
theorem share_six {t m : Int} {s : Sto} (h : Pr t m) (hs : StillS s) : newF "Share" F_Share_init [.int (t * 6), .int (m * 6)] s = .ok (shI t m) s := by
  have hm : 0 < m * 6 := by have := h.1; omega
  have hb : (m * 6).natAbs < 10 ^ 201 := by
    have := h.2.2.2
    have e : (m * 6).natAbs = m.natAbs * 6 := Int.natAbs_mul ..
    have : 10 ^ 24 * 6 < 10 ^ 201 := by decide
    omega
  rw [f_share hm hb hs, Int.gcd_mul_right, h.2.1]
  have e1 : t * 6 / 6 = t := by omega
  have e2 : m * 6 / 6 = m := by omega
  simp [e1, e2]
/-! ### read_share -/
def asgA (o : Option Env') (s : Sto) : RS := match o with
  | some τ' => .nx τ' s
  | none => .bad
@[simp] theorem asgA_some {τ : Env'} {s : Sto} : asgA (some τ) s = .nx τ s := (rfl)
def kAsg (g : GM) (τ : Env') : D → Sto → RS := fun d s => asgA (g d τ) s
@[simp] theorem kAsg_app {g : GM} {τ : Env'} {d : D} {s : Sto} : kAsg g τ d s = asgA (g d τ) s := (rfl)
@[simp] theorem x_asg {g : GM} {m : M} {τ : Env'} {s : Sto} : asgM g m τ s = (m τ s).toS τ (kAsg g τ) := by
  unfold asgM kAsg asgA
  rfl
def kFm (ok : Str → Str → Bool) (f : Str) : D → Sto → R D := fun x s => R.of (fldF ok f x s) s
@[simp] theorem kFm_app {ok : Str → Str → Bool} {f : Str} {x : D} {s : Sto} : kFm ok f x s = R.of (fldF ok f x s) s := (rfl)
@[simp] theorem x_fldM {ok : Str → Str → Bool} {f : Str} {m : M} {τ : Env'} {s : Sto} : fldM ok f m τ s = (m τ s).bind (kFm ok f) := (rfl)
theorem sh_bot {t m : Int} {s : Sto} : fldF okT "bottom" (shI t m) s = some (.int m) := by kernel_rfl
theorem sh_top {t m : Int} {s : Sto} : fldF okT "top" (shI t m) s = some (.int t) := by kernel_rfl
theorem g_pair {t m : Int} {τ : Env'} : (tupG 2 (consG (nameG 1) (consG (nameG 2) nilG))) (.tup [.int t, .int m]) τ = some ((τ.set 1 (some (.int t))).set 2 (some (.int m))) := rfl
theorem f_rshare {t m : Int} {s : Sto} (hm2 : m.natAbs < 10 ^ 201) (hs : StillS s) : F_read_share [.tup [.int t, .int m]] s = if prB (.int t) (.int m) = true then .ok (shI t m) s else .exc "BadCertificate" [("subject", .str "levels")] s := by
  by_cases h1 : m < 1
  · have h2 : ¬ prB (.int t) (.int m) = true := by simp only [prB]; simp; omega
    rw [if_neg h2]
    refine fn_exc rfl ?_ (Nat.le_refl _)
    unfold b_read_share startD
    simp [g_pair, h1]
  · have hm : 0 < m := by omega
    have e := f_share (t := t) hm hm2 hs
    by_cases h2 : Int.gcd t m = 1
    · have h3 : prB (.int t) (.int m) = true := by simp only [prB]; simp [h2, hm]
      rw [if_pos h3]
      rw [h2] at e
      refine fn_run rfl ?_ (Nat.le_refl _)
      unfold b_read_share startD
      simp at e
      simp [g_pair, h1, e, sh_bot]
    · have h3 : ¬ prB (.int t) (.int m) = true := by simp only [prB]; simp [h2]
      rw [if_neg h3]
      have hg : 0 < Int.gcd t m := Int.gcd_pos_iff.mpr (.inr (by omega))
      have h4 : ¬ m / (Int.gcd t m : Int) = m := by
        intro z
        have hd := Int.gcd_dvd_right t m
        have hg2 : (1 : Int) < (Int.gcd t m : Int) := by omega
        generalize (Int.gcd t m : Int) = g at z hd hg2
        have e5 := Int.ediv_mul_cancel hd
        rw [z] at e5
        have q : m * 1 < m * g := Int.mul_lt_mul_of_pos_left hg2 hm
        rw [e5] at q
        omega
      refine fn_exc rfl ?_ (Nat.le_refl _)
      unfold b_read_share startD
      simp [g_pair, h1, e, sh_bot, h4]
end K97

set_option Elab.async false
set_option linter.all false
set_option autoImplicit false
set_option maxRecDepth 100000
set_option maxHeartbeats 4000000
set_option exponentiation.threshold 10000
/-! P23: levels. -/
namespace K97
open PySem PySem.Spec PyProof.Rows L2 FL
open SX
def shD : D → D
  | .tup [.int t, .int m] => shI t m
  | _ => .non
def shO : D → D
  | .non => .non
  | d => shD d
def rowD : D → D
  | .tup [a, b, c] => .tup [a, b, shO c]
  | _ => .non
theorem has_or {a b : LF} {d : D} : (LF.or a b).has d = (a.has d || b.has d) := by simp only [LF.has]
theorem has_s {d : D} (h : LF.s.has d = true) : ∃ t m, d = .tup [.int t, .int m] := by
  cases d with
  | tup ds =>
    match ds with
    | [] => simp [LF.has] at h
    | [_] => simp [LF.has] at h
    | [x, y] =>
      simp only [LF.has, Bool.and_eq_true] at h
      cases x <;> simp [isI] at h
      cases y <;> simp [isI] at h
      exact ⟨_, _, rfl⟩
    | _ :: _ :: _ :: _ => simp [LF.has] at h
  | _ => simp [LF.has] at h
theorem has_row {d : D} (h : fLevel.has d = true) : ∃ i w c, d = .tup [.int i, .str w, c] ∧ (c = .non ∨ ∃ t m, c = .tup [.int t, .int m]) := by
  cases d with
  | tup ds =>
    simp only [fLevel, LF.has] at h
    match ds with
    | [] => simp [LF.hass] at h
    | [_] => simp [LF.hass] at h
    | [_, _] => simp [LF.hass] at h
    | [x, y, c] =>
      simp only [LF.hass, Bool.and_true, Bool.and_eq_true] at h
      obtain ⟨h1, h2, h3⟩ := h
      have h1' : isI x = true := by simpa only [LF.has] using h1
      have h2' : isW y = true := by simpa only [LF.has] using h2
      rw [has_or, Bool.or_eq_true] at h3
      cases x <;> simp [isI] at h1'
      cases y <;> simp [isW] at h2'
      refine ⟨_, _, c, rfl, ?_⟩
      rcases h3 with h3 | h3
      · exact .inr (has_s h3)
      · left
        have h4 : isN c = true := by simpa only [LF.has] using h3
        cases c <;> simp [isN] at h4
        rfl
    | _ :: _ :: _ :: _ :: _ => simp [LF.hass] at h
  | _ => simp [fLevel, LF.has] at h
theorem good_row {i : Int} {w : Str} {c : D} : fLevel.good (.tup [.int i, .str w, c]) = (LF.s.good c || isN c) := by
  simp [fLevel, LF.good, LF.goods, isI, isW]
theorem good_pr {t m : Int} : LF.s.good (.tup [.int t, .int m]) = prB (.int t) (.int m) := by simp only [LF.good]
theorem notN0 {x : D} (h : isN x = false) : notNP x .non = some (.bl true) := by cases x <;> simp_all [isN, notNP]
theorem notN1 : notNP .non .non = some (.bl false) := rfl
/-! ### read_levels -/
def gL : GM := (tupG 3 (consG (nameG 6) (consG (nameG 7) (consG (nameG 8) nilG))))
def bodyL : MS := (seqS (setM 9 (cM .non)) (seqS (ifS (valB (op2 notNP (varM 8) (cM .non))) (setM 9 (callM F_read_share (consA (varM 8) nilA))) nilS) (exprM (lmM appF (varM 5) (consA (tupM (consA (varM 6) (consA (varM 7) (consA (varM 9) nilA)))) nilA)))))
/-- what is short enough -/
def Nums (d : D) : Prop := ∃ k, Nt k d
theorem nums_pair {t m : Int} {k : Nat} (h : Nt k (.tup [.int t, .int m])) : m.natAbs < 10 ^ 201 := by
  cases k with
  | zero => exact (nt_tup0 h).elim
  | succ k =>
    have := nt_int.mp (nt_tup.mp h (.int m) (by simp))
    exact Nat.lt_trans this (by decide)
theorem at_end {b : Sto} {o : O} : (b ++ [o])[b.length]? = some o := by simp
theorem set_end {b : Sto} {o p : O} : (b ++ [o]).set b.length p = b ++ [p] := by simp
theorem stillS_end {b : Sto} {ds : List D} (hb : StillS b) (h : StillL ds) : StillS (b ++ [.lst ds]) := stillS_app hb (stillS_lst h stillS_nil)
theorem shO_still {c : D} (h : c = .non ∨ ∃ t m, c = .tup [.int t, .int m]) : Still (shO c) := by
  rcases h with rfl | ⟨t, m, rfl⟩
  · exact still_non
  · exact shI_still
theorem loopL {b : Sto} {x0 x1 x2 x3 x4 : Option D} (hb : StillS b) : ∀ (rs : List D) (dn : List D) (o6 o7 o8 o9 : Option D), (∀ r ∈ rs, fLevel.has r = true ∧ Nums r) → StillL dn → dn.length + rs.length < 1000000 →
    (rs.all fLevel.good = true → ∃ p6 p7 p8 p9, forL gL bodyL rs [x0, x1, x2, x3, x4, some (.obj b.length), o6, o7, o8, o9, none] (b ++ [.lst dn]) = .nx [x0, x1, x2, x3, x4, some (.obj b.length), p6, p7, p8, p9, none] (b ++ [.lst (dn ++ rs.map rowD)]) ∧ StillL (dn ++ rs.map rowD)) ∧
    (rs.all fLevel.good = false → ∃ τ' dn', forL gL bodyL rs [x0, x1, x2, x3, x4, some (.obj b.length), o6, o7, o8, o9, none] (b ++ [.lst dn]) = .exc "BadCertificate" [("subject", .str "levels")] τ' (b ++ [.lst dn']))
  | [], dn, o6, o7, o8, o9, _, hdn, _ => ⟨fun _ => ⟨o6, o7, o8, o9, by simp [forL], by simpa using hdn⟩, fun h => by simp at h⟩
  | r :: rs, dn, o6, o7, o8, o9, hr, hdn, hl => by
    obtain ⟨⟨i, w, c, rfl, hc⟩, k, hk⟩ := And.intro (has_row (hr r (List.mem_cons_self ..)).1) (hr r (List.mem_cons_self ..)).2
    rw [List.length_cons] at hl
    have sz : sizeLine = 16777216 := rfl
    have hsl : dn.length < sizeLine := by omega
    have hcs : Still (shO c) := shO_still hc
    have hdn2 : StillL (dn ++ [.tup [.int i, .str w, shO c]]) := stillL_of fun x hx => (List.mem_append.mp hx).elim (stillL_mem hdn x) fun z => by
      rw [List.mem_singleton.mp z]
      exact still_tup (stillL_cons still_int (stillL_cons still_str (stillL_cons hcs stillL_nil)))
    have ih := fun p6 p7 p8 p9 => loopL (b := b) (x0 := x0) (x1 := x1) (x2 := x2) (x3 := x3) (x4 := x4) hb rs (dn ++ [.tup [.int i, .str w, shO c]]) p6 p7 p8 p9 (fun x hx => hr x (List.mem_cons_of_mem _ hx)) hdn2 (by rw [List.length_append, List.length_singleton]; omega)
    have step : forL gL bodyL (.tup [.int i, .str w, c] :: rs) [x0, x1, x2, x3, x4, some (.obj b.length), o6, o7, o8, o9, none] (b ++ [.lst dn]) = (bodyL [x0, x1, x2, x3, x4, some (.obj b.length), some (.int i), some (.str w), some c, o9, none] (b ++ [.lst dn])).loop (forL gL bodyL rs) := rfl
    have good_go : (LF.s.good c || isN c) = true → bodyL [x0, x1, x2, x3, x4, some (.obj b.length), some (.int i), some (.str w), some c, o9, none] (b ++ [.lst dn]) = .nx [x0, x1, x2, x3, x4, some (.obj b.length), some (.int i), some (.str w), some c, some (shO c), none] (b ++ [.lst (dn ++ [.tup [.int i, .str w, shO c]])]) := fun hg => by
      unfold bodyL
      rcases hc with rfl | ⟨t, m, rfl⟩
      · simp [notN1, v_at at_end, v_app hsl, three_le, shO]
      · have hp : prB (.int t) (.int m) = true := by rw [good_pr] at hg; simpa [isN] using hg
        have hm := nums_pair (k := k - 1) (t := t) (m := m) (by
          cases k with
          | zero => exact (nt_tup0 hk).elim
          | succ k => exact nt_tup.mp hk _ (by simp))
        have e := f_rshare (t := t) (s := b ++ [.lst dn]) hm (stillS_end hb hdn)
        rw [if_pos hp] at e
        simp [notN0 (x := .tup [.int t, .int m]) rfl, e, v_at at_end, v_app hsl, three_le, shO, shD]
    refine ⟨fun hg => ?_, fun hg => ?_⟩
    · rw [List.all_cons, Bool.and_eq_true, good_row] at hg
      obtain ⟨p6, p7, p8, p9, e2, e3⟩ := (ih (some (.int i)) (some (.str w)) (some c) (some (shO c))).1 hg.2
      have em : dn ++ [.tup [.int i, .str w, shO c]] ++ rs.map rowD = dn ++ (D.tup [.int i, .str w, c] :: rs).map rowD := by simp [rowD]
      rw [em] at e2 e3
      refine ⟨p6, p7, p8, p9, ?_, e3⟩
      rw [step, good_go hg.1]
      exact e2
    · rw [List.all_cons, good_row] at hg
      by_cases h1 : (LF.s.good c || isN c) = true
      · rw [h1, Bool.true_and] at hg
        obtain ⟨τ', dn', e2⟩ := (ih (some (.int i)) (some (.str w)) (some c) (some (shO c))).2 hg
        refine ⟨τ', dn', ?_⟩
        rw [step, good_go h1]
        exact e2
      · rcases hc with rfl | ⟨t, m, rfl⟩
        · exact (h1 (by simp [isN])).elim
        · have hp : ¬ prB (.int t) (.int m) = true := by rw [good_pr] at h1; simpa [isN] using h1
          have hm := nums_pair (k := k - 1) (t := t) (m := m) (by
            cases k with
            | zero => exact (nt_tup0 hk).elim
            | succ k => exact nt_tup.mp hk _ (by simp))
          have e := f_rshare (t := t) (s := b ++ [.lst dn]) hm (stillS_end hb hdn)
          rw [if_neg hp] at e
          refine ⟨[x0, x1, x2, x3, x4, some (.obj b.length), some (.int i), some (.str w), some (.tup [.int t, .int m]), some .non, none], dn, ?_⟩
          rw [step]
          unfold bodyL
          simp [notN0 (x := .tup [.int t, .int m]) rfl, e]
def kLcX (g : Tgt) (te : M) (τ : Env') : List D → Sto → R D := fun ds s => (compLX g te τ 0 ds s).bind kLcb
@[simp] theorem kLcX_app {g : Tgt} {te : M} {τ : Env'} {ds : List D} {s : Sto} : kLcX g te τ ds s = (compLX g te τ 0 ds s).bind kLcb := (rfl)
@[simp] theorem x_lcX {mi : MI} {g : Tgt} {te : M} {vs : List Nat} {τ : Env'} {s : Sto} : lcXM mi g te vs τ s = (mi τ s).bind (kLcX g te (wipeD τ vs)) := (rfl)
theorem compX {s : Sto} {x0 x1 x2 x3 x4 x5 x6 x7 x9 x10 : Option D} (hs : StillS s) : ∀ (ps : List D) (n : Nat), (∀ p ∈ ps, LF.s.has p = true ∧ Nums p) → n + ps.length ≤ sizeLine →
    compLX (.one 8) (callM F_read_share (consA (varM 8) nilA)) [x0, x1, x2, x3, x4, x5, x6, x7, none, x9, x10] n ps s = if ps.all LF.s.good = true then .ok (ps.map shD) s else .exc "BadCertificate" [("subject", .str "levels")] s
  | [], n, _, _ => rfl
  | p :: ps, n, hp, hn => by
    obtain ⟨⟨t, m, rfl⟩, k, hk⟩ := And.intro (has_s (hp p (List.mem_cons_self ..)).1) (hp p (List.mem_cons_self ..)).2
    rw [List.length_cons] at hn
    have ih := compX (x0 := x0) (x1 := x1) (x2 := x2) (x3 := x3) (x4 := x4) (x5 := x5) (x6 := x6) (x7 := x7) (x9 := x9) (x10 := x10) hs ps (n + 1) (fun x hx => hp x (List.mem_cons_of_mem _ hx)) (by omega)
    have e := f_rshare (t := t) (s := s) (nums_pair hk) hs
    have hn2 : n < sizeLine := by omega
    have st : compLX (.one 8) (callM F_read_share (consA (varM 8) nilA)) [x0, x1, x2, x3, x4, x5, x6, x7, none, x9, x10] n (.tup [.int t, .int m] :: ps) s = (F_read_share [.tup [.int t, .int m]] s).bind fun x s => if n < sizeLine then (compLX (.one 8) (callM F_read_share (consA (varM 8) nilA)) [x0, x1, x2, x3, x4, x5, x6, x7, none, x9, x10] (n + 1) ps s).bind fun xs s => .ok (x :: xs) s else .bad := rfl
    rw [st, e, List.all_cons, good_pr]
    by_cases h : prB (.int t) (.int m) = true
    · rw [if_pos h, bind_ok, if_pos hn2, ih, h, Bool.true_and]
      by_cases h2 : ps.all LF.s.good = true
      · rw [if_pos h2, if_pos h2]; rfl
      · rw [if_neg h2, if_neg h2]; rfl
    · have h' : prB (.int t) (.int m) = false := by simpa using h
      rw [if_neg h, h']
      rfl
end K97

set_option Elab.async false
set_option linter.all false
set_option autoImplicit false
set_option maxRecDepth 100000
set_option maxHeartbeats 4000000
set_option exponentiation.threshold 10000
/-! P24: levels: the kind. -/
namespace K97
open PySem PySem.Spec PyProof.Rows L2 FL
open SX
def lvl (r am wa : D) (shs rws : List D) : D := .ist "Levels" [("resource", r), ("amount", shD am), ("wanted", wa), ("shares", .tup (shs.map shD)), ("rows", .tup (rws.map rowD))]
def restL : MS := (seqS (setM 10 (call1 tupleF (consA (lcXM (seqI (varM 3)) (.one 8) (callM F_read_share (consA (varM 8) nilA)) [8]) nilA))) (retM (callM (newF ("Levels" : Str) F_Levels_init) (consA (varM 0) (consA (callM F_read_share (consA (varM 1) nilA)) (consA (varM 2) (consA (varM 10) (consA (call1 tupleF (consA (varM 5) nilA)) nilA))))))))
theorem read_levels_eq : b_read_levels = seqS (setM 5 (lstM nilA)) (seqS (forS (seqI (varM 4)) gL bodyL) restL) := rfl
theorem new_Levels {a b c d e : D} {s : Sto} (ha : Still a) (hb : Still b) (hc : Still c) (hd : Still d) (he : Still e) (hs : StillS s) : newF ("Levels" : Str) F_Levels_init [a, b, c, d, e] s = .ok (.ist "Levels" [("resource", a), ("amount", b), ("wanted", c), ("shares", d), ("rows", e)]) s :=
  f_new (C := ("Levels" : Str)) (fs := [("resource" : Str), ("amount" : Str), ("wanted" : Str), ("shares" : Str), ("rows" : Str)]) (n := 6) (N := 6) rfl rfl rfl (by decide +kernel) (by decide +kernel) (by decide) (stillL_cons ha (stillL_cons hb (stillL_cons hc (stillL_cons hd (stillL_cons he stillL_nil))))) hs
theorem shD_still {d : D} : Still (shD d) := by
  unfold shD
  split
  · exact shI_still
  · exact still_non
theorem shDs_still {ds : List D} : StillL (ds.map shD) := stillL_of fun x hx => by
  obtain ⟨y, _, rfl⟩ := List.mem_map.mp hx
  exact shD_still
theorem f_read_levels {b : Sto} {r am wa : D} {shs rws : List D} (hb : StillS b) (hr : Still r) (hw : Still wa) (ham : LF.s.has am = true ∧ Nums am) (hsh : ∀ p ∈ shs, LF.s.has p = true ∧ Nums p) (hrw : ∀ p ∈ rws, fLevel.has p = true ∧ Nums p)
    (l1 : shs.length < 1000000) (l2 : rws.length < 1000000) : F_read_levels [r, am, wa, .tup shs, .tup rws] b = if (LF.s.good am && shs.all LF.s.good && rws.all fLevel.good) = true then .ok (lvl r am wa shs rws) b else .exc "BadCertificate" [("subject", .str "levels")] b := by
  have sz : sizeLine = 16777216 := rfl
  have L := loopL (b := b) (x0 := some r) (x1 := some am) (x2 := some wa) (x3 := some (.tup shs)) (x4 := some (.tup rws)) hb rws [] none none none none hrw stillL_nil (by rw [List.length_nil]; omega)
  have hexc : StillF [(("subject" : Str), D.str ("levels" : Str))] := stillF_cons still_str stillF_nil
  have start : b_read_levels (startD 11 [r, am, wa, .tup shs, .tup rws]) b = ((forL gL bodyL rws [some r, some am, some wa, some (.tup shs), some (.tup rws), some (.obj b.length), none, none, none, none, none] (b ++ [.lst []])).seq restL) := by
    rw [read_levels_eq]
    unfold startD
    simp [zero_le]
  cases hg : rws.all fLevel.good
  · obtain ⟨τ', dn', e⟩ := L.2 hg
    rw [Bool.and_false, if_neg (by decide)]
    refine fn_excS (t := [.lst dn']) rfl ?_ rfl hexc hb
    rw [start, e]; rfl
  · obtain ⟨p6, p7, p8, p9, e, hst⟩ := L.1 hg
    rw [List.nil_append] at e hst
    have hs2 : StillS (b ++ [.lst (rws.map rowD)]) := stillS_end hb hst
    have ex := compX (s := b ++ [.lst (rws.map rowD)]) (x0 := some r) (x1 := some am) (x2 := some wa) (x3 := some (.tup shs)) (x4 := some (.tup rws)) (x5 := some (.obj b.length)) (x6 := p6) (x7 := p7) (x9 := p9) (x10 := none) hs2 shs 0 hsh (by omega)
    rw [Bool.and_true]
    cases hg2 : shs.all LF.s.good
    · rw [hg2, if_neg (by decide)] at ex
      rw [Bool.and_false, if_neg (by decide)]
      refine fn_excS (t := [.lst (rws.map rowD)]) rfl ?_ rfl hexc hb
      rw [start, e, seq_nx]
      unfold restL
      simp [wipeD, ex]
    · rw [hg2, if_pos rfl] at ex
      rw [Bool.and_true]
      obtain ⟨⟨t, m, rfl⟩, k, hk⟩ := And.intro (has_s ham.1) ham.2
      have ea := f_rshare (t := t) (s := b ++ [.lst (rws.map rowD)]) (nums_pair hk) hs2
      rw [good_pr]
      by_cases hg3 : prB (.int t) (.int m) = true
      · rw [if_pos hg3] at ea ⊢
        have en := new_Levels (s := b ++ [.lst (rws.map rowD)]) hr (shI_still (t := t) (m := m)) hw (still_tup (shDs_still (ds := shs))) (still_tup hst) hs2
        refine fn_runS (t := [.lst (rws.map rowD)]) rfl ?_ rfl ?_ hb
        · rw [start, e, seq_nx]
          unfold restL
          simp [wipeD, ex, ea, v_tupO at_end, en, lvl, shD]
        · exact still_ist (stillF_cons hr (stillF_cons shD_still (stillF_cons hw (stillF_cons (still_tup shDs_still) (stillF_cons (still_tup hst) stillF_nil)))))
      · rw [if_neg hg3] at ea ⊢
        refine fn_excS (t := [.lst (rws.map rowD)]) rfl ?_ rfl hexc hb
        rw [start, e, seq_nx]
        unfold restL
        simp [wipeD, ex, ea]
/-! ### the law's own -/
def bodyW : MS := (seqS (setM 5 (op2s ixS (varM 4) (cM (.int 2)))) (seqS (ifS (valB (op2 notNP (varM 5) (cM .non))) (setM 5 (callM (newF ("Share" : Str) F_Share_init) (consA (op2s ixS (varM 5) (cM (.int 0))) (consA (op2s ixS (varM 5) (cM (.int 1))) nilA)))) nilS) (exprM (lmM appF (varM 3) (consA (tupM (consA (op2s ixS (varM 4) (cM (.int 0))) (consA (op2s ixS (varM 4) (cM (.int 1))) (consA (varM 5) nilA)))) nilA)))))
theorem fits_s {d : D} (h : Fits .s d) : ∃ t m, d = .tup [.int t, .int m] ∧ Pr t m := by
  cases h with
  | s h => exact ⟨_, _, rfl, h⟩
theorem pr_share {t m : Int} {s : Sto} (h : Pr t m) (hs : StillS s) : newF "Share" F_Share_init [.int t, .int m] s = .ok (shI t m) s :=
  share_pr h.2.1 h.1 (Nat.lt_trans h.2.2.2 (by decide)) hs
theorem fits_row {d : D} (h : Fits fLevel d) : ∃ i w c, d = .tup [.int i, .str w, c] ∧ (c = .non ∨ ∃ t m, c = .tup [.int t, .int m] ∧ Pr t m) := by
  cases h with
  | row h =>
    match h with
    | .cons (.i h1) (.cons (.w h2) (.cons h3 .nil)) =>
      refine ⟨_, _, _, rfl, ?_⟩
      cases h3 with
      | or1 h => exact .inr (fits_s h)
      | or2 h => cases h; exact .inl rfl
theorem loopW {b : Sto} {x0 x1 x2 : Option D} (hb : StillS b) : ∀ (rs : List D) (dn : List D) (o4 o5 o6 : Option D), (∀ r ∈ rs, Fits fLevel r) → StillL dn → dn.length + rs.length < 1000000 →
    ∃ p4 p5 p6, forL (nameG 4) bodyW rs [x0, x1, x2, some (.obj b.length), o4, o5, o6] (b ++ [.lst dn]) = .nx [x0, x1, x2, some (.obj b.length), p4, p5, p6] (b ++ [.lst (dn ++ rs.map rowD)]) ∧ StillL (dn ++ rs.map rowD)
  | [], dn, o4, o5, o6, _, hdn, _ => ⟨o4, o5, o6, by simp [forL], by simpa using hdn⟩
  | r :: rs, dn, o4, o5, o6, hr, hdn, hl => by
    obtain ⟨i, w, c, rfl, hc⟩ := fits_row (hr r (List.mem_cons_self ..))
    rw [List.length_cons] at hl
    have sz : sizeLine = 16777216 := rfl
    have hsl : dn.length < sizeLine := by omega
    have hcs : Still (shO c) := shO_still (hc.imp id fun ⟨t, m, e, _⟩ => ⟨t, m, e⟩)
    have hdn2 : StillL (dn ++ [.tup [.int i, .str w, shO c]]) := stillL_of fun x hx => (List.mem_append.mp hx).elim (stillL_mem hdn x) fun z => by
      rw [List.mem_singleton.mp z]
      exact still_tup (stillL_cons still_int (stillL_cons still_str (stillL_cons hcs stillL_nil)))
    have go : bodyW [x0, x1, x2, some (.obj b.length), some (.tup [.int i, .str w, c]), o5, o6] (b ++ [.lst dn]) = .nx [x0, x1, x2, some (.obj b.length), some (.tup [.int i, .str w, c]), some (shO c), o6] (b ++ [.lst (dn ++ [.tup [.int i, .str w, shO c]])]) := by
      unfold bodyW
      rcases hc with rfl | ⟨t, m, rfl, hp⟩
      · simp [notN1, v_at at_end, v_app hsl, three_le, shO, atI_nat]
      · have e := pr_share (s := b ++ [.lst dn]) hp (stillS_end hb hdn)
        simp [notN0 (x := .tup [.int t, .int m]) rfl, e, v_at at_end, v_app hsl, three_le, shO, shD, atI_nat]
    obtain ⟨p4, p5, p6, e2, e3⟩ := loopW (b := b) (x0 := x0) (x1 := x1) (x2 := x2) hb rs (dn ++ [.tup [.int i, .str w, shO c]]) (some (.tup [.int i, .str w, c])) (some (shO c)) o6 (fun x hx => hr x (List.mem_cons_of_mem _ hx)) hdn2 (by rw [List.length_append, List.length_singleton]; omega)
    have em : dn ++ [.tup [.int i, .str w, shO c]] ++ rs.map rowD = dn ++ (D.tup [.int i, .str w, c] :: rs).map rowD := by simp [rowD]
    rw [em] at e2 e3
    refine ⟨p4, p5, p6, ?_, e3⟩
    show (bodyW [x0, x1, x2, some (.obj b.length), some (.tup [.int i, .str w, c]), o5, o6] (b ++ [.lst dn])).loop (forL (nameG 4) bodyW rs) = _
    rw [go]
    exact e2
theorem v_six {t m : Int} (h : Pr t m) : mulP (.int t) (.int 6) = some (.int (t * 6)) ∧ mulP (.int m) (.int 6) = some (.int (m * 6)) := by
  have p24 : 10 ^ 24 < 2 ^ (100 + 1) := by decide
  have := h.2.2.1
  have := h.2.2.2
  exact ⟨v_mul (mulW (a := 100) (b := 2) (by omega) (by decide) (by decide)), v_mul (mulW (a := 100) (b := 2) (by omega) (by decide) (by decide))⟩
theorem law_levels_eq : b_law_levels = (seqS (setM 1 (callM (newF ("Share" : Str) F_Share_init) (consA (op2 mulP (op2s ixS (op2s ixS (varM 0) (cM (.int 1))) (cM (.int 0))) (cM (.int 6))) (consA (op2 mulP (op2s ixS (op2s ixS (varM 0) (cM (.int 1))) (cM (.int 1))) (cM (.int 6))) nilA)))) (seqS (setM 2 (call1 tupleF (consA (lcM (seqI (op2s ixS (varM 0) (cM (.int 3)))) (.one 6) yesB (callM (newF ("Share" : Str) F_Share_init) (consA (op2 mulP (op2s ixS (varM 6) (cM (.int 0))) (cM (.int 6))) (consA (op2 mulP (op2s ixS (varM 6) (cM (.int 1))) (cM (.int 6))) nilA))) [6]) nilA))) (seqS (setM 3 (lstM nilA)) (seqS (forS (seqI (op2s ixS (varM 0) (cM (.int 4)))) (nameG 4) bodyW) (retM (callM (newF ("Levels" : Str) F_Levels_init) (consA (op2s ixS (varM 0) (cM (.int 0))) (consA (varM 1) (consA (op2s ixS (varM 0) (cM (.int 2))) (consA (varM 2) (consA (call1 tupleF (consA (varM 3) nilA)) nilA))))))))))) := rfl
theorem f_law_levels {b : Sto} {r am wa : D} {shs rws : List D} (hb : StillS b) (hr : Still r) (hw : Still wa) (ham : Fits .s am) (hsh : ∀ p ∈ shs, Fits .s p) (hrw : ∀ p ∈ rws, Fits fLevel p)
    (l1 : shs.length < 1000000) (l2 : rws.length < 1000000) : F_law_levels [.fls [r, am, wa, .tup shs, .tup rws]] b = .ok (lvl r am wa shs rws) b := by
  have sz : sizeLine = 16777216 := rfl
  obtain ⟨t, m, rfl, hp⟩ := fits_s ham
  have e1 := share_six (s := b) hp hb
  have e2 := v_six hp
  have ec := compL_map (te := callM (newF ("Share" : Str) F_Share_init) (consA (op2 mulP (op2s ixS (varM 6) (cM (.int 0))) (cM (.int 6))) (consA (op2 mulP (op2s ixS (varM 6) (cM (.int 1))) (cM (.int 6))) nilA))) (i := 6) (τ := [some (.fls [r, .tup [.int t, .int m], wa, .tup shs, .tup rws]), some (shI t m), none, none, none, none, none]) (s := b) shD shs 0 (fun d hd => by
    obtain ⟨t, m, rfl, hp⟩ := fits_s (hsh d hd)
    have e1 := share_six (s := b) hp hb
    have e2 := v_six hp
    simp [e1, e2.1, e2.2, atI_nat, shD]) (by omega)
  obtain ⟨p4, p5, p6, el, hst⟩ := loopW (b := b) (x0 := some (.fls [r, .tup [.int t, .int m], wa, .tup shs, .tup rws])) (x1 := some (shI t m)) (x2 := some (.tup (shs.map shD))) hb rws [] none none none hrw stillL_nil (by rw [List.length_nil]; omega)
  rw [List.nil_append] at el hst
  have hs2 : StillS (b ++ [.lst (rws.map rowD)]) := stillS_end hb hst
  have en := new_Levels (s := b ++ [.lst (rws.map rowD)]) hr (shI_still (t := t) (m := m)) hw (still_tup (shDs_still (ds := shs))) (still_tup hst) hs2
  refine fn_runS (t := [.lst (rws.map rowD)]) rfl ?_ rfl ?_ hb
  · rw [law_levels_eq]
    unfold startD
    simp [e1, e2.1, e2.2, atI_nat, wipeD, ec, zero_le, el, v_tupO at_end, en, lvl, shD]
  · exact still_ist (stillF_cons hr (stillF_cons shD_still (stillF_cons hw (stillF_cons (still_tup shDs_still) (stillF_cons (still_tup hst) stillF_nil)))))
end K97

set_option Elab.async false
set_option linter.all false
set_option autoImplicit false
set_option maxRecDepth 100000
set_option maxHeartbeats 4000000
set_option exponentiation.threshold 10000
/-! P25: levels: the kind. -/
namespace K97
open PySem PySem.Spec PyProof.Rows L2 FL
open SX
theorem f_snote {t m : Int} {s : Sto} : F_share_note [shI t m] s = .ok (.tup [.int t, .int m]) s := by
  refine fn_run rfl ?_ (Nat.le_refl _)
  unfold b_share_note startD
  have e : isNP (shI t m) .non = some (.bl false) := rfl
  simp [e, sh_top, sh_bot, two_le]
theorem f_snote0 {s : Sto} : F_share_note [.non] s = .ok .non s := by
  refine fn_run rfl ?_ (Nat.le_refl _)
  unfold b_share_note startD
  simp
/-- back from a share -/
def unO : D → D
  | .ist _ [(_, t), (_, m)] => .tup [t, m]
  | _ => .non
def unR : D → D
  | .tup [a, b, c] => .tup [a, b, unO c]
  | _ => .non
theorem unO_sh {c : D} (h : c = .non ∨ ∃ t m, c = .tup [.int t, .int m]) : unO (shO c) = c := by
  rcases h with rfl | ⟨t, m, rfl⟩ <;> rfl
theorem f_Lnote {r am wa : D} {shs rws : List D} {s : Sto} (ham : LF.s.has am = true) (hsh : ∀ p ∈ shs, LF.s.has p = true) (hrw : ∀ p ∈ rws, fLevel.has p = true) (l1 : shs.length < 1000000) (l2 : rws.length < 1000000) :
    F_Levels_note [lvl r am wa shs rws] s = .ok (.tup [.str "levels", r, am, wa, .tup shs, .tup rws]) s := by
  have sz : sizeLine = 16777216 := rfl
  obtain ⟨t, m, rfl⟩ := has_s ham
  have f1 : fldF okT "resource" (lvl r (.tup [.int t, .int m]) wa shs rws) s = some r := by kernel_rfl
  have f2 : fldF okT "amount" (lvl r (.tup [.int t, .int m]) wa shs rws) s = some (shI t m) := by kernel_rfl
  have f3 : fldF okT "wanted" (lvl r (.tup [.int t, .int m]) wa shs rws) s = some wa := by kernel_rfl
  have f4 : fldF okT "shares" (lvl r (.tup [.int t, .int m]) wa shs rws) s = some (.tup (shs.map shD)) := by kernel_rfl
  have f5 : fldF okT "rows" (lvl r (.tup [.int t, .int m]) wa shs rws) s = some (.tup (rws.map rowD)) := by kernel_rfl
  have e1 := compL_map (te := callM F_share_note (consA (varM 3) nilA)) (i := 3) (τ := [some (lvl r (.tup [.int t, .int m]) wa shs rws), none, none, none, none, none, none]) (s := s) unO (shs.map shD) 0 (fun d hd => by
    obtain ⟨y, hy, rfl⟩ := List.mem_map.mp hd
    obtain ⟨t, m, rfl⟩ := has_s (hsh y hy)
    simp [shD, f_snote, unO, shI]
    exact f_snote) (by rw [List.length_map]; omega)
  have m1 : (shs.map shD).map unO = shs := by
    rw [List.map_map]
    conv => rhs; rw [← List.map_id shs]
    exact List.map_congr_left fun y hy => by
      obtain ⟨t, m, rfl⟩ := has_s (hsh y hy)
      rfl
  rw [m1] at e1
  have e2 := compL_mapG (g := .many [4, 5, 6]) (te := tupM (consA (varM 4) (consA (varM 5) (consA (callM F_share_note (consA (varM 6) nilA)) nilA)))) (τ := [some (lvl r (.tup [.int t, .int m]) wa shs rws), some (.tup shs), none, none, none, none, none]) (s := s) unR (rws.map rowD) 0 (fun d hd => by
    obtain ⟨y, hy, rfl⟩ := List.mem_map.mp hd
    obtain ⟨i, w, c, rfl, hc⟩ := has_row (hrw y hy)
    refine ⟨_, rfl, ?_⟩
    rcases hc with rfl | ⟨t, m, rfl⟩
    · simp [setL, f_snote0, three_le, rowD, unR, unO, shO]
    · simp [setL, three_le, rowD, unR, unO, shO, shD]
      show R.bind (R.bind (R.bind (R.bind (F_share_note [shI t m] s) _) _) _) _ = _
      rw [f_snote]
      simp [three_le, shI, unO]) (by rw [List.length_map]; omega)
  have m2 : (rws.map rowD).map unR = rws := by
    rw [List.map_map]
    conv => rhs; rw [← List.map_id rws]
    exact List.map_congr_left fun y hy => by
      obtain ⟨i, w, c, rfl, hc⟩ := has_row (hrw y hy)
      show D.tup [.int i, .str w, unO (shO c)] = _
      rw [unO_sh hc]; rfl
  rw [m2] at e2
  have z6 : 6 ≤ sizeLine := by decide
  refine fn_run rfl ?_ (Nat.le_refl _)
  unfold b_Levels_note startD
  simp [f1, f2, f3, f4, f5, wipeD, e1, e2, f_snote, z6]
abbrev lvlF : List LF := [.i, .s, fNums, .any .s, .any fLevel]
def cert_Levels : List D → D := fun xs => match xs with | [r, am, wa, .tup shs, .tup rws] => lvl r am wa shs rws | _ => .non
theorem len_mx {f : LF} {d : D} {ds : List D} (hd : d ∈ ds) (h : (txt (.tup ds)).length < 1000000) : (txt d).length < 1000000 := by
  have := len_mem hd
  omega
theorem len_ds {ds : List D} (h : (txt (.tup ds)).length < 1000000) : ds.length < 1000000 := by
  have hl2 := len_tup ds
  have hl3 := joinL_len2 (ds.map txt)
  have hl4 := sumL_count (ds.map txt)
  rw [List.length_map] at hl4
  omega
theorem lvl_parts {xs : List D} (h : FitsL lvlF xs) : ∃ r am wa shs rws, xs = [r, am, wa, .tup shs, .tup rws] ∧ Fits .i r ∧ Fits .s am ∧ Fits fNums wa ∧ (∀ p ∈ shs, Fits .s p) ∧ (∀ p ∈ rws, Fits fLevel p) ∧ shs.length ≤ 3 ∧ rws.length ≤ 3 := by
  match h with
  | .cons h1 (.cons h2 (.cons h3 (.cons (.any l4 h4) (.cons (.any l5 h5) .nil)))) => exact ⟨_, _, _, _, _, rfl, h1, h2, h3, h4, h5, l4, l5⟩
theorem hass_parts {ys : List D} (h : LF.hass lvlF ys = true) : ∃ r am wa shs rws, ys = [r, am, wa, .tup shs, .tup rws] ∧ LF.i.has r = true ∧ LF.s.has am = true ∧ fNums.has wa = true ∧ (∀ p ∈ shs, LF.s.has p = true) ∧ (∀ p ∈ rws, fLevel.has p = true) := by
  match ys with
  | [] => simp [LF.hass] at h
  | [_] => simp [LF.hass] at h
  | [_, _] => simp [LF.hass] at h
  | [_, _, _] => simp [LF.hass] at h
  | [_, _, _, _] => simp [LF.hass] at h
  | [r, am, wa, sh, rw] =>
    simp only [lvlF, LF.hass, Bool.and_true, Bool.and_eq_true] at h
    obtain ⟨h1, h2, h3, h4, h5⟩ := h
    cases sh with
    | tup shs =>
      cases rw with
      | tup rws =>
        refine ⟨r, am, wa, shs, rws, rfl, h1, h2, h3, ?_, ?_⟩
        · have : (LF.any .s).has (.tup shs) = shs.all fun x => LF.s.has x := by simp only [LF.has]
          rw [this, List.all_eq_true] at h4
          exact h4
        · have : (LF.any fLevel).has (.tup rws) = rws.all fun x => fLevel.has x := by simp only [LF.has]
          rw [this, List.all_eq_true] at h5
          exact h5
      | _ => simp [LF.has] at h5
    | _ => simp [LF.has] at h4
  | _ :: _ :: _ :: _ :: _ :: _ :: _ => simp [LF.hass] at h
theorem goods_lvl {r am wa : D} {shs rws : List D} (h1 : LF.i.has r = true) (h3 : fNums.has wa = true) : LF.goods lvlF [r, am, wa, .tup shs, .tup rws] = (LF.s.good am && shs.all LF.s.good && rws.all fLevel.good) := by
  have g1 : LF.i.good r = true := by rw [LF.good_noS _ _ (by decide +kernel)]; exact h1
  have g3 : fNums.good wa = true := by rw [LF.good_noS _ _ (by decide +kernel)]; exact h3
  have g4 : (LF.any .s).good (.tup shs) = shs.all LF.s.good := by simp only [LF.good]
  have g5 : (LF.any fLevel).good (.tup rws) = rws.all fLevel.good := by
    have e : (LF.any fLevel).good (.tup rws) = rws.all fun x => fLevel.good x := by simp only [LF.good]
    rw [e]
  simp only [lvlF, LF.goods, g1, g3, g4, g5, Bool.and_true, Bool.true_and, Bool.and_assoc]
theorem same_Levels {r am wa N : D} {shs rws : List D} {n : Int} : (b_law_same (startD 6 [lvl r am wa shs rws, .int 3, N]) [.lst [.int n]]).fin = (((F_Levels_note [lvl r am wa shs rws] [.lst [.int n]]).toS [some (lvl r am wa shs rws), some (.int 3), some N, some (.bl true), none, none] fun d s => .nx [some (lvl r am wa shs rws), some (.int 3), some N, some (.bl true), some d, none] s).seq tailS).fin := by kernel_rfl
theorem text_Levels {r am wa : D} {shs rws : List D} {n : Int} : (b_certificate_text (startD 1 [lvl r am wa shs rws]) [.lst [.int n]]).fin = ((((F_Levels_note [lvl r am wa shs rws] [.lst [.int n]]).bind fun x s => (R.ok [] s).bind fun xs s => .ok (x :: xs) s).bind fun ds s => F_write_note 60 ds s).toS [some (lvl r am wa shs rws)] fun d s => .rt d s).fin := by kernel_rfl
theorem made_Levels {r am wa : D} {shs rws : List D} {n : Int} (hr : Still r) (hw : Still wa) (ham : Fits .s am) (hsh : ∀ p ∈ shs, Fits .s p) (hrw : ∀ p ∈ rws, Fits fLevel p) (l1 : shs.length < 1000000) (l2 : rws.length < 1000000) :
    F_law_first [.str ("levels" : Str), .fls [r, am, wa, .tup shs, .tup rws]] [.lst [.int n]] = .ok (lvl r am wa shs rws) [.lst [.int n]] := by
  refine fn_run rfl ?_ (Nat.le_refl _)
  have e0 : eqP (.str ("levels" : Str)) (.str ("shortage" : Str)) = some (.bl false) := by kernel_rfl
  have e1 : eqP (.str ("levels" : Str)) (.str ("packing" : Str)) = some (.bl false) := by kernel_rfl
  have e2 : eqP (.str ("levels" : Str)) (.str ("tree" : Str)) = some (.bl false) := by kernel_rfl
  have e3 : eqP (.str ("levels" : Str)) (.str ("levels" : Str)) = some (.bl true) := by kernel_rfl
  unfold b_law_first startD
  simp [e0, e1, e2, e3, f_law_levels spot_still hr hw ham hsh hrw l1 l2]
theorem read_Levels {r am wa : D} {shs rws : List D} {n : Int} : (b_certificate_of_states (startD 3 [.str ("levels" : Str), .tup [r, am, wa, .tup shs, .tup rws]]) [.lst [.int n]]).fin = ((F_read_levels [r, am, wa, .tup shs, .tup rws] [.lst [.int n]]).toS [some (.str ("levels" : Str)), some (.tup [r, am, wa, .tup shs, .tup rws]), none] fun d s => .rt d s).fin := by kernel_rfl
theorem kind_Levels : KindOk 3 ("levels" : Str) lvlF false cert_Levels where
  made := fun xs n h => by
    obtain ⟨r, am, wa, shs, rws, rfl, h1, h2, h3, h4, h5, l4, l5⟩ := lvl_parts h
    exact made_Levels h1.nt.still h3.nt.still h2 h4 h5 (by omega) (by omega)
  book := by kernel_rfl
  read := fun xs n h => by
    obtain ⟨r, am, wa, shs, rws, rfl, h1, h2, h3, h4, h5, l4, l5⟩ := lvl_parts h
    show F_certificate_of_states [.str ("levels" : Str), .tup [r, am, wa, .tup shs, .tup rws]] [.lst [.int n]] = _
    refine fn_run rfl ?_ (Nat.le_refl _)
    show (b_certificate_of_states (startD 3 [.str ("levels" : Str), .tup [r, am, wa, .tup shs, .tup rws]]) [.lst [.int n]]).fin = _
    rw [read_Levels, f_read_levels spot_still h1.nt.still h3.nt.still ⟨LF.has_good _ _ h2.good, _, h2.nt⟩ (fun p hp => ⟨LF.has_good _ _ (h4 p hp).good, _, (h4 p hp).nt⟩) (fun p hp => ⟨LF.has_good _ _ (h5 p hp).good, _, (h5 p hp).nt⟩) (by omega) (by omega)]
    have g1 : LF.s.good am = true := h2.good
    have g2 : shs.all LF.s.good = true := List.all_eq_true.mpr fun p hp => (h4 p hp).good
    have g3 : rws.all fLevel.good = true := List.all_eq_true.mpr fun p hp => (h5 p hp).good
    rw [g1, g2, g3]
    rfl
  bad := fun ys n hn hl hh hg => by
    obtain ⟨r, am, wa, shs, rws, rfl, h1, h2, h3, h4, h5⟩ := hass_parts hh
    rw [goods_lvl h1 h3] at hg
    have hn2 := nt_tup.mp hn
    have k4 := nt_tup (k := 48) |>.mp (hn2 (.tup shs) (by simp))
    have k5 := nt_tup (k := 48) |>.mp (hn2 (.tup rws) (by simp))
    have hl' : (txt (.tup [r, am, wa, .tup shs, .tup rws])).length < 1000000 := by omega
    have l4 := len_ds (len_mx (f := .i) (d := .tup shs) (by simp) hl')
    have l5 := len_ds (len_mx (f := .i) (d := .tup rws) (by simp) hl')
    show F_certificate_of_states [.str ("levels" : Str), .tup [r, am, wa, .tup shs, .tup rws]] [.lst [.int n]] = _
    refine fn_exc rfl ?_ (Nat.le_refl _)
    show (b_certificate_of_states (startD 3 [.str ("levels" : Str), .tup [r, am, wa, .tup shs, .tup rws]]) [.lst [.int n]]).fin = _
    rw [read_Levels, f_read_levels spot_still (hn2 r (by simp)).still (hn2 wa (by simp)).still ⟨h2, _, hn2 am (by simp)⟩ (fun p hp => ⟨h4 p hp, _, k4 p hp⟩) (fun p hp => ⟨h5 p hp, _, k5 p hp⟩) l4 l5, hg]
    rfl
  same := fun xs n h hn hl => by
    obtain ⟨r, am, wa, shs, rws, rfl, h1, h2, h3, h4, h5, l4, l5⟩ := lvl_parts h
    refine fn_run rfl ?_ (Nat.le_refl _)
    show (b_law_same (startD 6 [lvl r am wa shs rws, .int 3, _]) _).fin = _
    rw [same_Levels, f_Lnote (LF.has_good _ _ h2.good) (fun p hp => LF.has_good _ _ (h4 p hp).good) (fun p hp => LF.has_good _ _ (h5 p hp).good) (by omega) (by omega)]
    exact tail_ok hn (by decide) hl
  text := fun xs n h hn hl => by
    obtain ⟨r, am, wa, shs, rws, rfl, h1, h2, h3, h4, h5, l4, l5⟩ := lvl_parts h
    refine fn_run rfl ?_ (Nat.le_refl _)
    show (b_certificate_text (startD 1 [lvl r am wa shs rws]) _).fin = _
    rw [text_Levels, f_Lnote (LF.has_good _ _ h2.good) (fun p hp => LF.has_good _ _ (h4 p hp).good) (fun p hp => LF.has_good _ _ (h5 p hp).good) (by omega) (by omega)]
    simp only [bind_ok]
    rw [f_write 60 59 _ hn (by decide) hl]
    rfl
  after := fun e xs s h => absurd e (by decide)
  still := fun xs h => by
    obtain ⟨r, am, wa, shs, rws, rfl, h1, h2, h3, h4, h5, l4, l5⟩ := lvl_parts h
    have hst : StillL (rws.map rowD) := stillL_of fun x hx => by
      obtain ⟨y, hy, rfl⟩ := List.mem_map.mp hx
      obtain ⟨i, w, c, rfl, hc⟩ := fits_row (h5 y hy)
      exact still_tup (stillL_cons still_int (stillL_cons still_str (stillL_cons (shO_still (hc.imp id fun ⟨t, m, e, _⟩ => ⟨t, m, e⟩)) stillL_nil)))
    exact still_ist (stillF_cons h1.nt.still (stillF_cons shD_still (stillF_cons h3.nt.still (stillF_cons (still_tup shDs_still) (stillF_cons (still_tup hst) stillF_nil)))))
end K97

set_option Elab.async false
set_option linter.all false
set_option autoImplicit false
set_option maxRecDepth 100000
set_option maxHeartbeats 4000000
set_option exponentiation.threshold 10000
/-! P26: read_certificate, _law_read. -/
namespace K97
open PySem PySem.Spec PyProof.Rows L2 FL
open SX
theorem v_notIn {w : Str} {b : Bool} (h : formsK w = some b) : notInG ("FORMS" : Str) formsK (.str w) (.glo ("FORMS" : Str)) = some (.bl (!b)) := by
  have e : notInG ("FORMS" : Str) formsK (.str w) (.glo ("FORMS" : Str)) = if (("FORMS" : Str) = ("FORMS" : Str)) then (formsK w).map fun b => .bl (!b) else none := by unfold notInG; rfl
  rw [e, if_pos rfl, h]; rfl
theorem v_get {w : Str} {d : D} (h : formsT w = some d) : getG ("FORMS" : Str) formsT (.glo ("FORMS" : Str)) (.str w) = some d := by
  have e : getG ("FORMS" : Str) formsT (.glo ("FORMS" : Str)) (.str w) = if (("FORMS" : Str) = ("FORMS" : Str)) then formsT w else none := by unfold getG; rfl
  rw [e, if_pos rfl, h]
theorem six_le : 6 ≤ sizeLine := by decide
/-- a kind's word and forms -/
structure KW (w : Str) (l : List LF) : Prop where
  frm : formsT w = some (LF.row l).hf
  key : formsK w = some true
  rk : LF.rks l ≤ 6
  ok : LF.oks l = true
  ln : l.length ≤ 6
theorem KW.has {w : Str} {l : List LF} (h : KW w l) : HasOk (F_has_form 8) (LF.row l).hf (LF.row l).has :=
  f_has 8 (.row l) (by simp only [LF.rk]; have := h.rk; omega) (by simp [LF.ok, h.ok, h.ln])
section
variable {w : Str} {l : List LF} {i : Nat} {bk : Bool} {cert : List D → D} {n : Int} {k : Nat}
theorem in_book (h : KindOk i w l bk cert) : inP (.str w) (.tup [.str ("kept" : Str), .str ("broken" : Str), .str ("wait" : Str), .str ("ring" : Str), .str ("pairs" : Str), .str ("parted" : Str)]) = some (.bl bk) := by
  unfold inP; rw [h.book]; rfl
theorem has_tup {ys : List D} : (LF.row l).has (.tup ys) = LF.hass l ys := by simp only [LF.has]
theorem read_good (K : KindOk i w l bk cert) (W : KW w l) {xs : List D} (hf : FitsL l xs) (hn : Nt k (.tup (.str w :: xs))) (hk : k ≤ 60) (hl : (txt (.tup (.str w :: xs))).length < 900000) :
    F_read_certificate [.str (S (txt (.tup (.str w :: xs))))] [.lst [.int n]] = .ok (cert xs) [.lst [.int n]] := by
  have e1 := f_read (b := [.lst [.int n]]) hn (by omega) (by omega) spot_still
  have e2 := v_eqe (hn.dt.le (show k ≤ 64 by omega)) (Nat.le_refl _)
  have hx : Nt k (.tup xs) := by
    cases k with
    | zero => exact (nt_tup0 hn).elim
    | succ k => exact nt_tup.mpr fun d hd => nt_tup.mp hn d (List.mem_cons_of_mem _ hd)
  have hlx : (txt (.tup xs)).length < 1000000 := by
    rw [len_tup] at hl ⊢
    have h1 := joinL_len (xs.map txt)
    have h2 := joinL_len2 ((D.str w :: xs).map txt)
    have h3 : sumL ((D.str w :: xs).map txt) = (txt (.str w)).length + 1 + sumL (xs.map txt) := rfl
    omega
  have e3 := W.has k (.tup xs) [.lst [.int n]] hx hlx
  have e4 : (LF.row l).has (.tup xs) = true := by rw [has_tup]; exact LF.hass_good l xs hf.good
  rw [e4] at e3
  have e5 := K.read xs n hf
  refine fn_run rfl ?_ (Nat.le_refl _)
  unfold b_read_certificate startD
  cases bk
  · simp only [Bool.false_eq_true, if_false] at e5
    simp [e1, zero_le, six_le, e2, v_notIn W.key, v_slT, cut_tl, v_get W.frm, e3, in_book K, e5]
  · simp only [if_true] at e5
    simp [e1, zero_le, six_le, e2, v_notIn W.key, v_slT, cut_tl, v_get W.frm, e3, in_book K, e5]
theorem read_bad (K : KindOk i w l bk cert) (W : KW w l) {ys : List D} (hg : LF.goods l ys = false) (hn : Nt 50 (.tup (.str w :: ys))) (hl : (txt (.tup (.str w :: ys))).length < 900000) :
    F_read_certificate [.str (S (txt (.tup (.str w :: ys))))] [.lst [.int n]] = .exc "BadCertificate" [("subject", .str w)] [.lst [.int n]] := by
  have e1 := f_read (b := [.lst [.int n]]) hn (by omega) (by omega) spot_still
  have e2 := v_eqe (hn.dt.le (show 50 ≤ 64 by omega)) (Nat.le_refl _)
  have hx : Nt 50 (.tup ys) := nt_tup.mpr fun d hd => nt_tup.mp hn d (List.mem_cons_of_mem _ hd)
  have hlx : (txt (.tup ys)).length < 900000 := by
    rw [len_tup] at hl ⊢
    have h1 := joinL_len (ys.map txt)
    have h2 := joinL_len2 ((D.str w :: ys).map txt)
    have h3 : sumL ((D.str w :: ys).map txt) = (txt (.str w)).length + 1 + sumL (ys.map txt) := rfl
    omega
  have e3 := W.has 50 (.tup ys) [.lst [.int n]] hx (by omega)
  rw [has_tup] at e3
  refine fn_exc rfl ?_ (Nat.le_refl _)
  unfold b_read_certificate startD
  cases e4 : LF.hass l ys
  · rw [e4] at e3
    simp [e1, zero_le, six_le, e2, v_notIn W.key, v_slT, cut_tl, v_get W.frm, e3]
  · rw [e4] at e3
    have e5 := K.bad ys n hx hlx e4 hg
    cases bk
    · simp only [Bool.false_eq_true, if_false] at e5
      simp [e1, zero_le, six_le, e2, v_notIn W.key, v_slT, cut_tl, v_get W.frm, e3, in_book K, e5]
    · simp only [if_true] at e5
      simp [e1, zero_le, six_le, e2, v_notIn W.key, v_slT, cut_tl, v_get W.frm, e3, in_book K, e5]
/-- no certificate's note -/
def Odd (d : D) : Prop := isT d = false ∨ d = .tup [] ∨ (∃ x ys, d = .tup (x :: ys) ∧ isW x = false) ∨ ∃ v ys, d = .tup (.str v :: ys) ∧ formsK v = some false
theorem read_odd {d : D} {b : Sto} (hb : StillS b) (h : Odd d) (hn : Nt k d) (hk : k ≤ 60) (hl : (txt d).length < 900000) :
    F_read_certificate [.str (S (txt d))] b = .exc "BadCertificate" [("subject", .non)] b := by
  have e1 := f_read (b := b) hn (by omega) (by omega) hb
  have et := isT_ty (s := b) hn
  refine fn_exc rfl ?_ (Nat.le_refl _)
  unfold b_read_certificate startD
  rcases h with h | rfl | ⟨x, ys, rfl, h⟩ | ⟨v, ys, rfl, h⟩
  · rw [h] at et
    simp [e1, et]
  · have e2 := v_eqe (hn.dt.le (show k ≤ 64 by omega)) (Nat.le_refl _)
    simp [e1, zero_le, e2]
  · have e2 := v_eqe (hn.dt.le (show k ≤ 64 by omega)) (Nat.le_refl _)
    have hx : Nt k x := by
      cases k with
      | zero => exact (nt_tup0 hn).elim
      | succ k => exact (nt_tup.mp hn x (by simp)).up
    have ew := isW_ty (s := b) hx
    rw [h] at ew
    simp [e1, zero_le, e2, ew]
  · have e2 := v_eqe (hn.dt.le (show k ≤ 64 by omega)) (Nat.le_refl _)
    simp [e1, zero_le, e2, v_notIn h]
end
/-! ### _law_read -/
@[simp] theorem x_try {exm : Str → Str → Option Bool} {f : Str} {mb : MS} {hs : List Hd} {τ : Env'} {s : Sto} : tryM exm f mb hs τ s = match mb τ s with
  | .exc C fs τ' s' => retHd τ'.length C f fs s' exm hs
  | r => r := (rfl)
theorem lread_ok {x c : D} {s : Sto} (h : F_read_certificate [x] s = .ok c s) : F_law_read [x] s = .ok (.tup [.int 0, c]) s := by
  refine fn_run rfl ?_ (Nat.le_refl _)
  unfold b_law_read startD
  simp [h, two_le]
theorem lread_bc {x v : D} {s : Sto} (h : F_read_certificate [x] s = .exc "BadCertificate" [("subject", v)] s) : F_law_read [x] s = .ok (.tup [.int 1, v]) s := by
  refine fn_run rfl ?_ (Nat.le_refl _)
  have e : retHd 2 ("BadCertificate" : Str) ("subject" : Str) [("subject", v)] s exmT [⟨("BadCertificate" : Str), 1, 1⟩, ⟨("BadNote" : Str), 2, 1⟩] = .rt (.tup [.int 1, v]) s := by kernel_rfl
  unfold b_law_read startD
  simp [h, e]
theorem lread_bn {x v : D} {s : Sto} (h : F_read_note [x] s = .exc "BadNote" [("subject", v)] s) : F_law_read [x] s = .ok (.tup [.int 2, v]) s := by
  have h2 : F_read_certificate [x] s = .exc "BadNote" [("subject", v)] s := by
    refine fn_exc rfl ?_ (Nat.le_refl _)
    unfold b_read_certificate startD
    simp [h]
  refine fn_run rfl ?_ (Nat.le_refl _)
  have e : retHd 2 ("BadNote" : Str) ("subject" : Str) [("subject", v)] s exmT [⟨("BadCertificate" : Str), 1, 1⟩, ⟨("BadNote" : Str), 2, 1⟩] = .rt (.tup [.int 2, v]) s := by kernel_rfl
  unfold b_law_read startD
  simp [h2, e]
end K97

set_option Elab.async false
set_option linter.all false
set_option autoImplicit false
set_option maxRecDepth 100000
set_option maxHeartbeats 4000000
set_option exponentiation.threshold 10000
/-! P27: _law_refused. -/
namespace K97
open PySem PySem.Spec PyProof.Rows L2 FL
open SX
theorem goods_len : ∀ {l : List LF} {ds : List D}, LF.goods l ds = true → ds.length = l.length
  | [], [], _ => rfl
  | [], _ :: _, h => by simp [LF.goods] at h
  | _ :: _, [], h => by simp [LF.goods] at h
  | f :: l, d :: ds, h => by
    simp only [LF.goods, Bool.and_eq_true] at h
    exact congrArg (· + 1) (goods_len h.2)
theorem goods_ne {l : List LF} {ds : List D} (h : ds.length ≠ l.length) : LF.goods l ds = false := by
  cases q : LF.goods l ds
  · rfl
  · exact absurd (goods_len q) h
theorem v_neT {k : Nat} {ds : List D} (h : Dt k (.tup ds)) (hk : k ≤ 64) : neP (.tup ds) (.tup ds) = some (.bl false) := by
  unfold neP; rw [eqB_refl h hk]; rfl
theorem v_eqT {k : Nat} {ds : List D} (h : Dt k (.tup ds)) (hk : k ≤ 64) : eqP (.tup ds) (.tup ds) = some (.bl true) := by
  unfold eqP; rw [eqB_refl h hk]; rfl
@[simp] theorem x_more {ws ds : List D} {F : Fn} {s : Sto} : moreF ws F ds s = F (ds ++ ws) s := (rfl)
theorem x_forc {i : Nat} {b : MS} {d : D} {ds : List D} {τ : Env'} {s : Sto} : forL (nameG i) b (d :: ds) τ s = (b (τ.set i (some d)) s).loop (forL (nameG i) b ds) := (rfl)
theorem x_forn {g : GM} {b : MS} {τ : Env'} {s : Sto} : forL g b [] τ s = .nx τ s := (rfl)
/-- the notes that are refused: a word with items that are not good -/
theorem bad_read {i : Nat} {w : Str} {l : List LF} {bk : Bool} {cert : List D → D} {n : Int} (K : KindOk i w l bk cert) (W : KW w l) {ys : List D} (hg : LF.goods l ys = false) (hn : Nt 50 (.tup (.str w :: ys))) (hl : (txt (.tup (.str w :: ys))).length < 900000) :
    F_law_text 60 [.tup (.str w :: ys)] [.lst [.int n]] = .ok (.str (S (txt (.tup (.str w :: ys))))) [.lst [.int n]] ∧ F_law_read [.str (S (txt (.tup (.str w :: ys))))] [.lst [.int n]] = .ok (.tup [.int 1, .str w]) [.lst [.int n]] :=
  ⟨f_text 60 50 _ hn (by decide) (by omega) _, lread_bc (read_bad K W hg hn hl)⟩
def oddL (w : List Nat) (N : D) : List D := [.int 7, .str (S w), .non, .tup [], .tup [.int 7, .str (S w)], .tup [.non], .tup [N], .tup [.str (S (w ++ [115])), .int 1]]
theorem one200 : (1 : Int).natAbs < 10 ^ 200 := by decide
theorem odd_all {wl : List Nat} {xs : List D} {m : Nat} (hw : Wd wl) (hw2 : Wd (wl ++ [115])) (hk : formsK (S (wl ++ [115])) = some false) (hn : Nt 51 (.tup xs)) (hl : (txt (.tup xs)).length ≤ m) (hm : m + 100 < 900000) :
    ∀ d ∈ oddL wl (.tup xs), Odd d ∧ Nt 52 d ∧ (txt d).length < 900000 := by
  have l7 : (txt (.int 7)).length ≤ 2 := int_small (by decide)
  have l1 : (txt (.int 1)).length ≤ 2 := int_small (by decide)
  have lw := wd_len hw
  have lw2 := wd_len hw2
  intro d hd
  simp only [oddL, List.mem_cons, List.not_mem_nil, or_false] at hd
  rcases hd with rfl | rfl | rfl | rfl | rfl | rfl | rfl | rfl
  · exact ⟨.inl rfl, nt_int.mpr ten200, by omega⟩
  · exact ⟨.inl rfl, nt_str.mpr hw, by rw [txt_str]; omega⟩
  · exact ⟨.inl rfl, nt_non, by rw [txt_non]; decide⟩
  · exact ⟨.inr (.inl rfl), nt_tup.mpr (fun d hd => absurd hd (by simp)), by rw [txt_tup]; decide⟩
  · refine ⟨.inr (.inr (.inl ⟨_, _, rfl, rfl⟩)), nt_tup.mpr (fun d hd => ?_), ?_⟩
    · simp only [List.mem_cons, List.not_mem_nil, or_false] at hd
      rcases hd with rfl | rfl
      · exact nt_int.mpr ten200
      · exact nt_str.mpr hw
    · have z := len_tup_le (ds := [.int 7, .str (S wl)]) (m := 24) fun d hd => by
        simp only [List.mem_cons, List.not_mem_nil, or_false] at hd
        rcases hd with rfl | rfl
        · omega
        · rw [txt_str]; exact lw
      simp only [List.length_cons, List.length_nil] at z
      omega
  · refine ⟨.inr (.inr (.inl ⟨_, _, rfl, rfl⟩)), nt_tup.mpr (fun d hd => by rw [List.mem_singleton.mp hd]; exact nt_non), ?_⟩
    rw [len_one, txt_non]; decide
  · refine ⟨.inr (.inr (.inl ⟨_, _, rfl, rfl⟩)), nt_tup.mpr (fun d hd => by rw [List.mem_singleton.mp hd]; exact hn), ?_⟩
    rw [len_one]; omega
  · refine ⟨.inr (.inr (.inr ⟨_, _, rfl, hk⟩)), nt_tup.mpr (fun d hd => ?_), ?_⟩
    · simp only [List.mem_cons, List.not_mem_nil, or_false] at hd
      rcases hd with rfl | rfl
      · exact nt_str.mpr hw2
      · exact nt_int.mpr one200
    · have z := len_tup_le (ds := [.str (S (wl ++ [115])), .int 1]) (m := 24) fun d hd => by
        simp only [List.mem_cons, List.not_mem_nil, or_false] at hd
        rcases hd with rfl | rfl
        · rw [txt_str]; exact lw2
        · omega
      simp only [List.length_cons, List.length_nil] at z
      omega
theorem pick_in {p : List Int} (P : Pool p) (hp : 160 ≤ p.length) {i m : Int} {s : Sto} (h0 : 0 ≤ i) (hi : i < 160) (hm : 0 < m) :
    ∃ j : Nat, (j : Int) < m ∧ F_law_pick [.fls (p.map D.int), .int i, .int m, .int 1] s = .ok (.int j) s := by
  have e := f_pick (p := p) (i := i) (m := m) (l := 1) (s := s) h0 (by omega) hm (by decide) (by decide)
  have h0 : 0 ≤ p.getD i.toNat 0 / 1 % m := Int.emod_nonneg _ (by omega)
  have h1 : p.getD i.toNat 0 / 1 % m < m := Int.emod_lt_of_pos _ (by omega)
  refine ⟨(p.getD i.toNat 0 / 1 % m).toNat, by omega, ?_⟩
  rw [e, Int.toNat_of_nonneg h0]
theorem at_pool {p : List Int} (P : Pool p) {i : Int} (h0 : 0 ≤ i) (hi : i < p.length) : ∃ x, atI (p.map D.int) i = some (.int x) ∧ Dr x := by
  rw [atI_map, atI_nat h0, List.getElem?_eq_getElem (by omega)]
  exact ⟨_, rfl, P.dr _ (List.getElem_mem _)⟩
theorem s_clsp : (") " : Str) = S [41, 32] := by decide +kernel
theorem dt_one {k : Int} {w : List Nat} (h : Wd w) : Dt 1 (.tup [.int k, .str (S w)]) := dt_tup fun d hd => by
  simp only [List.mem_cons, List.not_mem_nil, or_false] at hd
  rcases hd with rfl | rfl
  · exact dt_int
  · exact dt_str fun c hc => by have := wd_lt h c hc; omega
theorem dt_two {i j : Int} : Dt 1 (.tup [.int i, .int j]) := dt_tup fun d hd => by
  simp only [List.mem_cons, List.not_mem_nil, or_false] at hd
  rcases hd with rfl | rfl <;> exact dt_int
theorem dt_three {i : Int} : Dt 1 (.tup [.int i, .non]) := dt_tup fun d hd => by
  simp only [List.mem_cons, List.not_mem_nil, or_false] at hd
  rcases hd with rfl | rfl
  · exact dt_int
  · exact dt_non
end K97

set_option Elab.async false
set_option linter.all false
set_option autoImplicit false
set_option maxRecDepth 100000
set_option maxHeartbeats 4000000
set_option exponentiation.threshold 10000
/-! P28: _law_refused. -/
namespace K97
open PySem PySem.Spec PyProof.Rows L2 FL
open SX
theorem len_word {wl : List Nat} {ys : List D} (hw : Wd wl) : (txt (.tup (.str (S wl) :: ys))).length ≤ sumL (ys.map txt) + 30 := by
  rw [len_tup]
  have h1 := joinL_len ((D.str (S wl) :: ys).map txt)
  have h2 : sumL ((D.str (S wl) :: ys).map txt) = (txt (.str (S wl))).length + 1 + sumL (ys.map txt) := rfl
  have h3 := wd_len hw
  rw [txt_str] at h2
  omega
theorem txt_cut {x : D} {xs : List D} : txt (.tup (x :: xs)) = (40 :: TL.joinL [32] ((x :: xs).map txt)) ++ [41] := by rw [txt_tup]; rfl
theorem f_refused {i : Nat} {wl : List Nat} {l : List LF} {bk : Bool} {cert : List D → D} {n : Int} {p : List Int} {xs : List D} (P : Pool p) (hp : 160 ≤ p.length) (K : KindOk i (S wl) l bk cert) (W : KW (S wl) l) (hw : Wd wl) (hw2 : Wd (wl ++ [115])) (hk : formsK (S (wl ++ [115])) = some false)
    (ho2 : LF.oks2 l = true) (hrk : LF.ranks l ≤ 5) (hmx : LF.mxs2 l ≤ 500000) (hne : l ≠ []) (hf : FitsL l xs) :
    F_law_refused [.fls (p.map D.int), .tup (.str (S wl) :: l.map LF.d), .tup (.str (S wl) :: xs)] [.lst [.int n]] = .ok (.bl true) [.lst [.int n]] := by
  have sz : sizeLine = 16777216 := rfl
  have hq := hf.lens
  have hq1 : 0 < xs.length := by
    cases l with
    | nil => exact absurd rfl hne
    | cons => rw [← hq]; simp
  have hq6 : xs.length ≤ 6 := by rw [← hq]; exact W.ln
  have hnx : ∀ d ∈ xs, Nt 49 d := fun d hd => (hf.nt d hd).le (by omega)
  have hnw : ∀ (ys : List D), (∀ d ∈ ys, Nt 49 d) → Nt 50 (.tup (.str (S wl) :: ys)) := fun ys h => nt_tup.mpr fun d hd => by
    rcases List.mem_cons.mp hd with rfl | hd
    · exact nt_str.mpr hw
    · exact h d hd
  have hN := hnw xs hnx
  have hs2 := hf.len2
  have hlN := len_word (ys := xs) hw
  have hN0 : StillL xs := hf.still
  -- the item
  obtain ⟨j, hj, ej⟩ := pick_in (s := [.lst [.int n]]) P hp (i := 1) (m := xs.length) (by decide) (by decide) (by omega)
  have hj : j < xs.length := by omega
  obtain ⟨g, hg, hfg⟩ := hf.at_ (List.getElem?_eq_getElem hj)
  have hgm : g ∈ l := List.mem_of_getElem? hg
  have hgr := LF.ranks_mem hgm
  obtain ⟨dr, hdr, hdr2⟩ := at_pool P (i := 2) (by decide) (by omega)
  obtain ⟨x, ex, hx, _⟩ := f_spoilt 8 g xs[j] (by omega) (by decide) (LF.oks_mem W.ok g hgm) (LF.oks2_mem ho2 g hgm) hfg dr [.lst [.int n]] hdr2.1
  have i1 : atI (D.str (S wl) :: l.map LF.d) (1 + (j : Int)) = some g.d := by
    rw [atI_nat (by omega), show (1 + (j : Int)).toNat = j + 1 by omega, List.getElem?_cons_succ, List.getElem?_map, hg]; rfl
  have i2 : atI (D.str (S wl) :: xs) (1 + (j : Int)) = some xs[j] := by
    rw [atI_nat (by omega), show (1 + (j : Int)).toNat = j + 1 by omega, List.getElem?_cons_succ, List.getElem?_eq_getElem hj]
  have c1 : cutL (D.str (S wl) :: xs) none (some (1 + (j : Int))) = D.str (S wl) :: xs.take j := by
    rw [show (1 + (j : Int)) = ((j + 1 : Nat) : Int) by omega, cut_to (by rw [List.length_cons]; omega)]; rfl
  have c2 : cutL (D.str (S wl) :: xs) (some (1 + (j : Int) + 1)) none = xs.drop (j + 1) := by
    rw [show (1 + (j : Int) + 1) = ((j + 2 : Nat) : Int) by omega, cut_from (by rw [List.length_cons]; omega)]; rfl
  have c3 : cutL (D.str (S wl) :: xs) none (some (-1)) = D.str (S wl) :: xs.take (xs.length - 1) := by
    rw [cut_init, List.length_cons, Nat.add_sub_cancel]
    obtain ⟨m, hm⟩ : ∃ m, xs.length = m + 1 := ⟨xs.length - 1, by omega⟩
    rw [hm]; rfl
  have a1 : addP (.tup (D.str (S wl) :: xs.take j)) (.tup [x]) = some (.tup (D.str (S wl) :: (xs.take j ++ [x]))) := by rw [v_addT (by simp; omega)]; rfl
  have a2 : addP (.tup (D.str (S wl) :: (xs.take j ++ [x]))) (.tup (xs.drop (j + 1))) = some (.tup (D.str (S wl) :: repl xs j x)) := by
    rw [v_addT (by simp; omega)]; simp [repl]
  obtain ⟨v, hv, ev⟩ := pick_in (s := [.lst [.int n]]) P hp (i := 3) (m := 9) (by decide) (by decide) (by decide)
  have hv : v < 9 := by omega
  have a3 : addP (.tup (D.str (S wl) :: xs)) (.tup [.int v]) = some (.tup (D.str (S wl) :: (xs ++ [.int v]))) := by
    rw [v_addT (by simp; omega)]; rfl
  -- the three that are refused
  obtain ⟨t1, r1⟩ := bad_read (n := n) K W (ys := repl xs j x) (goods_repl hg hq hx.bad) (hnw _ fun y hy => (repl_mem hy).elim (fun z => by rw [z]; exact hx.nt.le (by omega)) (hnx y)) (by have := len_word (ys := repl xs j x) hw; have := sum_repl hf hg hx.len; omega)
  obtain ⟨t2, r2⟩ := bad_read (n := n) K W (ys := xs.take (xs.length - 1)) (goods_short (by rw [List.length_take]; omega)) (hnw _ fun y hy => hnx y (List.mem_of_mem_take hy)) (by have := len_word (ys := xs.take (xs.length - 1)) hw; have := sum_take (xs.length - 1) xs; omega)
  have hv200 : ((v : Nat) : Int).natAbs < 10 ^ 200 := by
    rw [Int.natAbs_natCast]
    exact Nat.lt_trans hv (by decide)
  obtain ⟨t3, r3⟩ := bad_read (n := n) K W (ys := xs ++ [.int v]) (goods_ne (by rw [List.length_append, List.length_singleton]; omega)) (hnw _ fun y hy => (List.mem_append.mp hy).elim (hnx y) fun z => by rw [List.mem_singleton.mp z]; exact nt_int.mpr hv200)
    (by
      have h1 := len_word (ys := xs ++ [.int v]) hw
      have h2 : ∀ ys : List D, sumL ((ys ++ [D.int v]).map txt) = sumL (ys.map txt) + ((txt (.int v)).length + 1) := fun ys => by
        induction ys with
        | nil => show (txt (D.int v)).length + 1 + 0 = 0 + _; omega
        | cons y ys ih => show (txt y).length + 1 + sumL ((ys ++ [D.int v]).map txt) = (txt y).length + 1 + sumL (ys.map txt) + _; rw [ih]; omega
      have h3 := int_small (i := ((v : Nat) : Int)) (by rw [Int.natAbs_natCast]; omega)
      rw [h2] at h1
      omega)
  have n1 := v_neT (dt_one (k := 1) hw) (by decide)
  have z1 : 1 ≤ sizeLine := by decide
  have z7 : 7 ≤ sizeLine := by decide
  -- the odd ones
  have hN51 : Nt 51 (.tup (.str (S wl) :: xs)) := hN.up
  have oa := odd_all hw hw2 hk hN51 (Nat.le_refl _) (by omega)
  have ost : StillL (oddL wl (.tup (.str (S wl) :: xs))) := stillL_of fun d hd => (oa d hd).2.1.still
  have hs2s : StillS [.lst [.int n], .lst (oddL wl (.tup (.str (S wl) :: xs)))] := stillS_lst (stillL_cons still_int stillL_nil) (stillS_lst ost stillS_nil)
  obtain ⟨o, ho, eo⟩ := pick_in (s := [.lst [.int n], .lst (oddL wl (.tup (.str (S wl) :: xs)))]) P hp (i := 4) (m := 8) (by decide) (by decide) (by decide)
  obtain ⟨dd, hdd, hdm⟩ : ∃ dd, atI (oddL wl (.tup (.str (S wl) :: xs))) (o : Int) = some dd ∧ dd ∈ oddL wl (.tup (.str (S wl) :: xs)) := by
    have hl8 : o < (oddL wl (.tup (.str (S wl) :: xs))).length := by
      show o < 8
      omega
    rw [atI_nat (by omega), Int.toNat_natCast]
    exact ⟨_, List.getElem?_eq_getElem hl8, List.getElem_mem hl8⟩
  obtain ⟨od, nd, ld⟩ := oa dd hdm
  have hix : ixS (.obj 1) (.int o) [.lst [.int n], .lst (oddL wl (.tup (.str (S wl) :: xs)))] = some dd := by rw [v_ixO rfl, hdd]
  have t4 := f_text 60 52 dd nd (by decide) (by omega) [.lst [.int n], .lst (oddL wl (.tup (.str (S wl) :: xs)))]
  have r4 := lread_bc (read_odd hs2s od nd (by decide) ld)
  have n4 := v_neT (dt_three (i := 1)) (by decide)
  -- the text, cut and with one more
  have t5 := f_text 60 50 _ hN (by decide) (by omega) [.lst [.int n], .lst (oddL wl (.tup (.str (S wl) :: xs)))]
  have r5 := lread_bn (f_read_cut (b := [.lst [.int n], .lst (oddL wl (.tup (.str (S wl) :: xs)))]) hN (by simp) (by decide) (by omega) hs2s)
  have sl : slP (.str (S (txt (.tup (.str (S wl) :: xs))))) none (some (-1)) = some (.str (S (40 :: TL.joinL [32] ((D.str (S wl) :: xs).map txt)))) := by
    have e : slP (.str (S (txt (.tup (.str (S wl) :: xs))))) none (some (-1)) = if (S (txt (.tup (.str (S wl) :: xs)))).length ≤ sizeLine then some (.str (Txt.slice (S (txt (.tup (.str (S wl) :: xs)))) none (some (-1)))) else none := rfl
    rw [e, S_len, if_pos (by omega), txt_cut, butlast_snoc]
  have hlen : ((txt (.tup (.str (S wl) :: xs))).length : Int) - 1 = (((40 :: TL.joinL [32] ((D.str (S wl) :: xs).map txt)).length : Nat) : Int) := by
    rw [txt_cut, List.length_append, List.length_singleton]; omega
  generalize 40 :: TL.joinL [32] ((D.str (S wl) :: xs).map txt) = cut at r5 sl hlen
  have ln5 : lenF [.str (S (txt (.tup (.str (S wl) :: xs))))] [.lst [.int n], .lst (oddL wl (.tup (.str (S wl) :: xs)))] = .ok (.int (txt (.tup (.str (S wl) :: xs))).length) [.lst [.int n], .lst (oddL wl (.tup (.str (S wl) :: xs)))] := v_lenS (by omega)
  have n5 := v_neT (dt_two (i := 2) (j := (cut.length : Int))) (by decide)
  obtain ⟨o2, ho2', eo2⟩ := pick_in (s := [.lst [.int n], .lst (oddL wl (.tup (.str (S wl) :: xs)))]) P hp (i := 5) (m := 2) (by decide) (by decide) (by decide)
  obtain ⟨c, hc, hc2⟩ : ∃ c, ixS (.str (S [41, 32])) (.int o2) [.lst [.int n], .lst (oddL wl (.tup (.str (S wl) :: xs)))] = some (.str (S [c])) ∧ (c = 41 ∨ c = 32) := by
    rw [v_ixStr (by decide), atI_nat (by omega), Int.toNat_natCast]
    have : o2 = 0 ∨ o2 = 1 := by omega
    rcases this with rfl | rfl
    · exact ⟨41, rfl, .inl rfl⟩
    · exact ⟨32, rfl, .inr rfl⟩
  have a6 : addP (.str (S (txt (.tup (.str (S wl) :: xs))))) (.str (S [c])) = some (.str (S (txt (.tup (.str (S wl) :: xs)) ++ [c]))) := v_cat (by rw [List.length_singleton]; omega)
  have r6 := lread_bn (f_read_more (b := [.lst [.int n], .lst (oddL wl (.tup (.str (S wl) :: xs)))]) hc2 hN (by decide) (by omega) hs2s)
  have q6 := v_eqT (dt_two (i := 2) (j := ((txt (.tup (.str (S wl) :: xs))).length : Int))) (by decide)
  have aw : addP (.str (S wl)) (.str (S [115])) = some (.str (S (wl ++ [115]))) := v_cat (by have := wd_len hw; rw [List.length_singleton]; omega)
  have hat : lstAt (.obj 1) [.lst [.int n], .lst [.int 7, .str (S wl), .non, .tup [], .tup [.int 7, .str (S wl)], .tup [.non], .tup [.tup (.str (S wl) :: xs)]]] = some (1, [.int 7, .str (S wl), .non, .tup [], .tup [.int 7, .str (S wl)], .tup [.non], .tup [.tup (.str (S wl) :: xs)]]) := v_at rfl
  have hap : appF 1 [.int 7, .str (S wl), .non, .tup [], .tup [.int 7, .str (S wl)], .tup [.non], .tup [.tup (.str (S wl) :: xs)]] [.tup [.str (S (wl ++ [115])), .int 1]] [.lst [.int n], .lst [.int 7, .str (S wl), .non, .tup [], .tup [.int 7, .str (S wl)], .tup [.non], .tup [.tup (.str (S wl) :: xs)]]] = .ok .non [.lst [.int n], .lst (oddL wl (.tup (.str (S wl) :: xs)))] := v_app (by show 7 < _; omega)
  refine fn_runS (t := [.lst (oddL wl (.tup (.str (S wl) :: xs)))]) rfl ?_ rfl still_bl spot_still
  unfold b_law_refused startD
  rw [s_s, s_clsp]
  generalize hT : txt (.tup (.str (S wl) :: xs)) = T at *
  generalize hOd : oddL wl (.tup (.str (S wl) :: xs)) = Od at *
  simp [ej, hdr, i1, i2, ex, v_slT, c1, c2, c3, a1, a2, a3, ev, z1, z7, two_le, three_le, zero_le, x_forc, x_forn, t1, t2, t3, r1, r2, r3, n1, hat, aw, hap, eo, hix, t4, r4, n4, t5, sl, r5, ln5, hlen, n5, eo2, hc, a6, r6, q6]
end K97

set_option Elab.async false
set_option linter.all false
set_option autoImplicit false
set_option maxRecDepth 100000
set_option maxHeartbeats 4000000
set_option exponentiation.threshold 10000
/-! P29: the plain law. -/
namespace K97
open PySem PySem.Spec PyProof.Rows L2 FL
open SX
def kd (i : Nat) : Str × List LF := kinds.getD i ("", [])
theorem all_kinds : ∀ i, i < 20 → ∃ bk cert, KindOk i (kd i).1 (kd i).2 bk cert
  | 0, _ => ⟨_, _, kind_Shortage⟩
  | 1, _ => ⟨_, _, kind_Packing⟩
  | 2, _ => ⟨_, _, kind_CaseTree⟩
  | 3, _ => ⟨_, _, kind_Levels⟩
  | 4, _ => ⟨_, _, kind_FloorPlan⟩
  | 5, _ => ⟨_, _, kind_Crowded⟩
  | 6, _ => ⟨_, _, kind_Settlement⟩
  | 7, _ => ⟨_, _, kind_Quote⟩
  | 8, _ => ⟨_, _, kind_NoQuote⟩
  | 9, _ => ⟨_, _, kind_Blockers⟩
  | 10, _ => ⟨_, _, kind_Survival⟩
  | 11, _ => ⟨_, _, kind_Frail⟩
  | 12, _ => ⟨_, _, kind_MovePlan⟩
  | 13, _ => ⟨_, _, kind_Stuck⟩
  | 14, _ => ⟨_, _, kind_Kept⟩
  | 15, _ => ⟨_, _, kind_Broken⟩
  | 16, _ => ⟨_, _, kind_WaitBound⟩
  | 17, _ => ⟨_, _, kind_WaitRing⟩
  | 18, _ => ⟨_, _, kind_PairTable⟩
  | 19, _ => ⟨_, _, kind_PairBook⟩
  | n + 20, h => absurd h (by omega)
def wdB : List Nat → Bool
  | [] => false
  | c :: r => isLet c && r.all isWC && decide (r.length ≤ 23)
theorem wd_of {l : List Nat} (h : wdB l = true) : Wd l := by
  cases l with
  | nil => cases h
  | cons c r =>
    simp only [wdB, Bool.and_eq_true, List.all_eq_true, decide_eq_true_eq] at h
    refine ⟨c, r, rfl, ?_, fun x hx => ?_, h.2⟩
    · have := h.1.1; unfold isLet at this; simp at this; exact this
    · have := h.1.2 x hx
      unfold isWC isLet isDig at this
      unfold WC
      simp at this
      omega
def kindC (k : Str × List LF) : Bool := LF.oks k.2 && LF.oks2 k.2 && decide (LF.ranks k.2 ≤ 5) && decide (LF.rks k.2 ≤ 6) && decide (k.2.length ≤ 6) && !k.2.isEmpty && decide (LF.mxs2 k.2 ≤ 500000) && wdB (TL.tl k.1) && wdB (TL.tl k.1 ++ [115])
theorem kinds_okC : kinds.all kindC = true := by decide +kernel
theorem kinds_nk : kinds.map (fun k => formsK (S (TL.tl k.1 ++ [115]))) = kinds.map (fun k => some false) := by kernel_rfl
theorem kd_mem {i : Nat} (h : i < 20) : kd i ∈ kinds := by
  unfold kd
  rw [List.getD_eq_getElem?_getD, List.getElem?_eq_getElem (show i < kinds.length from h)]
  exact List.getElem_mem _
theorem kd_at {i : Nat} (h : i < 20) : atI (kinds.map fun k => D.tup (.str k.1 :: k.2.map LF.d)) (i : Int) = some (.tup (.str (kd i).1 :: (kd i).2.map LF.d)) := by
  have hl : i < kinds.length := h
  rw [atI_nat (by omega), Int.toNat_natCast, List.getElem?_map, List.getElem?_eq_getElem hl]
  unfold kd
  rw [List.getD_eq_getElem?_getD, List.getElem?_eq_getElem hl]
  rfl
theorem law_out {ns : List Int} (hn : ns.length ≤ 63) : OutR (F_law [.wls (ns.map .int)] []) fun d _ => d = .bl true := by
  obtain ⟨p, ep, hp, P⟩ := f_pool hn
  obtain ⟨j, hj', ej⟩ := pick_in (s := []) P hp (i := 0) (m := 20) (by decide) (by decide) (by decide)
  have hj : j < 20 := by omega
  obtain ⟨bk, cert, K⟩ := all_kinds j hj
  have hm := kd_mem hj
  have hC := List.all_eq_true.mp kinds_okC _ hm
  simp only [kindC, Bool.and_eq_true, decide_eq_true_eq] at hC
  obtain ⟨⟨⟨⟨⟨⟨⟨⟨hoks, ho2⟩, hrk⟩, hrks⟩, hlen⟩, hne'⟩, hmx⟩, hw1⟩, hw2⟩ := hC
  have hfr : formsT (kd j).1 = some (LF.row (kd j).2).hf := List.map_inj_left.mp kinds_forms _ hm
  have hky : formsK (kd j).1 = some true := List.map_inj_left.mp kinds_keys _ hm
  have hnk : formsK (S (TL.tl (kd j).1 ++ [115])) = some false := List.map_inj_left.mp kinds_nk _ hm
  have hat := kd_at hj
  generalize kd j = k at *
  obtain ⟨w, l⟩ := k
  obtain ⟨wl, rfl⟩ : ∃ wl, w = S wl := ⟨TL.tl w, (TL.mk_tl w).symm⟩
  dsimp only at K hm hw2 hw1 hmx hne' hlen hrks hrk hoks ho2 hfr hky hnk hat
  have W : KW (S wl) l := ⟨hfr, hky, hrks, hoks, hlen⟩
  have hw : Wd wl := wd_of hw1
  have hw' : Wd (wl ++ [115]) := wd_of hw2
  have hne : l ≠ [] := by rintro rfl; simp at hne'
  have sz : sizeLine = 16777216 := rfl
  have z1 : 1 ≤ sizeLine := by decide
  refine out_fn rfl ?_
  unfold b_law startD
  simp [oS, oT, oB, ep, ej, f_forms, hat, z1, v_slT, cut_tl, wipeD]
  refine out_comp (fun d x => ∀ f ∈ l, f.d = d → Fits f x) (SpotI []) ?_ ⟨5, rfl⟩ ?_ ?_
  · rintro d hd s' ⟨n', rfl⟩
    obtain ⟨f0, hf0, rfl⟩ := List.mem_map.mp hd
    have go : ∀ f ∈ l, OutR (F_law_made 8 [.fls (p.map .int), .obj 0, f.d] (.lst [.int n'] :: [])) (MadeQ f []) := fun f hf => by
      have := LF.ranks_mem hf
      exact f_made P 8 f (by omega) (by omega) (LF.oks_mem hoks f hf) n' [] stillS_nil
    obtain ⟨x, s1, e, ⟨n2, rfl⟩, _⟩ := (go f0 hf0).ex
    simp [oS, oT, oB, e]
    refine ⟨fun f hf hfd => ?_, n2, rfl⟩
    obtain ⟨x2, s2, e2, _, h2⟩ := (go f hf).ex
    rw [hfd, e] at e2
    cases e2
    exact h2
  · simp; omega
  · rintro xs s' hF ⟨n, rfl⟩
    have hf : FitsL l xs := fitsL_of (fun f hf x h => h f hf rfl) hF
    have hq := hf.lens
    have hN : Nt 50 (.tup (.str (S wl) :: xs)) := nt_tup.mpr fun d hd => by
      rcases List.mem_cons.mp hd with rfl | hd
      · exact nt_str.mpr hw
      · exact (hf.nt d hd).le (by omega)
    have hlN := len_word (ys := xs) hw
    have hs2 := hf.len2
    have hadd : addP (.tup [.str (S wl)]) (.tup xs) = some (.tup (.str (S wl) :: xs)) := by
      rw [v_addT (by rw [List.length_singleton]; omega)]; rfl
    have m1 := K.made xs n hf
    have s1 := K.same xs n hf (hN.le (by decide)) (by omega)
    have t1 := K.text xs n hf (hN.le (by decide)) (by omega)
    have t2 := f_text 60 50 _ hN (by decide) (by omega) [.lst [.int n]]
    have r1 := lread_ok (read_good (n := n) K W hf hN (by decide) (by omega))
    have u1 := f_refused (n := n) P hp K W hw hw' hnk ho2 hrk hmx hne hf
    have fin : FnEnd 0 (fun d _ => d = .bl true) (.bl true) [.lst [.int n]] := ⟨[], [.lst [.int n]], rfl, rfl, still_bl, stillS_nil, rfl⟩
    have aft : (j : Int) = 6 → fldF okT "after" (cert xs) [.lst [.int n]] = some .non := fun e => K.after (by omega) xs _ hf
    generalize cert xs = c at m1 s1 t1 r1 aft
    generalize txt (.tup (.str (S wl) :: xs)) = T at t1 t2 r1
    have sw : F_law_text 60 [.tup (.str (S wl) :: xs)] [.lst [.int n]] = .ok (.str (S T)) [.lst [.int n]] := t2
    by_cases q10 : j < 10
    · have q10' : (j : Int) < 10 := by omega
      rw [if_pos q10] at m1
      by_cases q6 : (j : Int) = 6
      · rw [q6] at s1
        simp [-Str.mk.injEq, oS, oT, oB, z1, hadd, q10', m1, s1, t1, t2, r1, two_le, atI_nat, q6, aft q6, notN1, u1, fin]
      · simp [-Str.mk.injEq, oS, oT, oB, z1, hadd, q10', m1, s1, t1, t2, r1, two_le, atI_nat, q6, u1, fin]
    · have q10' : ¬ (j : Int) < 10 := by omega
      have q6 : ¬ (j : Int) = 6 := by omega
      rw [if_neg q10] at m1
      simp [-Str.mk.injEq, oS, oT, oB, z1, hadd, q10', m1, s1, t1, t2, r1, two_le, atI_nat, q6, u1, fin]
theorem plain : ∀ ns : List Int, ns.length ≤ 63 → ∃ s, F_law [.wls (ns.map .int)] [] = .ok (.bl true) s := fun ns hn => by
  obtain ⟨d, s, e, rfl⟩ := (law_out hn).ex
  exact ⟨s, e⟩
end K97

set_option Elab.async false
set_option linter.all false
set_option maxRecDepth 100000
set_option maxHeartbeats 0
namespace K97
open PySem PySem.Spec PyProof.Rows L2 FL
end K97
open PySem PySem.W PySem.Calls PyProof.Rows
theorem k97_of (pl : K97.Plain) (run : ∀ w, HandSHeadRun.RunEq K97.RowO (PySem.W.view K97.RowO.prog [112]) K97.hookX K97.ob 20000 K97.loose w) : PySem.Challenge.rw_gangbooks_k97_certificates_round.Holds := by
  w_on; o_law
  refine HandSHeadRun.head_any (r := OpenLaw.row PySem.Challenge.rw_gangbooks_k97_certificates_round) (q := view (OpenLaw.row PySem.Challenge.rw_gangbooks_k97_certificates_round).prog [112]) (H := K97.hookX) (ob := K97.ob) (M := 20000) (loose := K97.loose) (d := HandSHeadRun.topDef (OpenLaw.row PySem.Challenge.rw_gangbooks_k97_certificates_round).prog 112) (kwd := []) K97.ob_eq
    (by kernel_rfl) (fun s => by kernel_rfl) run (by kernel_rfl) (by kernel_rfl) (by kernel_rfl) (by rfl) (by first | assumption | decide +kernel) (by decide +kernel) ⟨rfl, rfl, rfl, rfl, rfl, by decide +kernel⟩ ?hw ?hc
  case hw => w_witness2
  case hc =>
    refine K97.walk_ofW (l := PySem.Challenge.rw_gangbooks_k97_certificates_round) (n := 63) (k := 62) (CX := fun w => L2.CX PySem.Challenge.rw_gangbooks_k97_certificates_round.prog w) (x := "_law_script") rfl (by decide) (by kernel_rfl) ⟨rfl, by decide, by decide⟩ ?F (fun _ _ _ _ _ z => K97.cx_false z)
    intro w mg fa h Y G hmg0
    obtain ⟨K, KX, c⟩ := Y
    have hmg : mg ("law" : PySem.Str) = some (.ref fa) := by
      have e : (HandSHeadRun.topDef (OpenLaw.row PySem.Challenge.rw_gangbooks_k97_certificates_round).prog 112).name = ("law" : PySem.Str) := by kernel_rfl
      rw [← e]
      exact hmg0
    obtain ⟨fd, sp, hb, hs, hF⟩ := K97.facts (P := (PySem.Challenge.rw_gangbooks_k97_certificates_round).prog) (w := w) rfl KX G hmg c pl
    exact ⟨K, fd, sp, KX, hb, hs, hF⟩

open PySem PySem.W PySem.Calls PyProof.Rows
theorem PySem.Challenge.cw_gangbooks_k97_certificates_round_holds : PySem.Challenge.rw_gangbooks_k97_certificates_round.Holds :=
  k97_of K97.plain K97.run_all
