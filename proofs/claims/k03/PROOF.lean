import PyProof.Rows.All
import Wide.All
import OpenK.AllK
import Wide.FinOn
import HandS.ForMost
import HandS.ForExc
import HandS.Deep
import HandS.TupAny
import HandS.TupMul
import HandS.SortInts
import HandS.IsInst
import HandS.CallSlots
import HandS.List
import HandS.Dict
import HandS.Small
import HandS.Defaults
import HandS.Conv
import HandS.More
import KE.SortData
import HandS.TupLe
import HandS.Style
import HandS.HeadEnd
import HandS.ExcIs
import HandS.HeadHook2
import KE.DataCmp
import KE.DataMinMax
import KE.DatumOrd
import HandS.Words
import Lean
import HandS.Head0
import HandS.Head1
import HandS.Head2
import PySem.Challenge.RW_smallwidth_k03_least_forms
set_option Elab.async false
set_option linter.all false
set_option maxRecDepth 100000
namespace J
open PySem PySem.Spec PyProof.Rows L2

/-- data: what a value is, as a tree (never changed any more) -/
inductive D where
  | non | bl (b : Bool) | int (i : Int) | str (x : Str)
  | tup (xs : List D) | wtp (xs : List D) | lst (xs : List D) | scr (xs : List D)
  | dic (t : Bool) (ks vs : List D) | ins (c : Str) (ns : List Str) (vs : List D)

/-- what a slot, a field owns alone -/
inductive W0 where
  | l (ds : List D) | m (t : Bool) (ks vs : List D) | ll (rows : List (List D))
inductive FV where
  | d (x : D) | o (w : W0)
inductive Own where
  | b (w : W0) | i (c : Str) (ns : List Str) (fs : List FV)
inductive SV where
  | d (x : D) | o (w : Own) | ex (a : Addr) (y : Option (Addr × Str × D))
abbrev Env := List (Option SV)

def W0.toD : W0 → D
  | .l ds => .lst ds
  | .m t ks vs => .dic t ks vs
  | .ll rows => .lst (rows.map .lst)
def FV.toD : FV → D
  | .d x => x
  | .o w => w.toD
def Own.toD : Own → D
  | .b w => w.toD
  | .i c ns fs => .ins c ns (fs.map FV.toD)
def SV.toD : SV → D
  | .d x => x
  | .o w => w.toD
  | .ex _ _ => .non

def keyD : Key → D
  | .inl i => .int i
  | .inr x => .str x
/-- a dict's object: its keys, its values -/
def DicO : Bool → HO → List D → List V → Prop
  | false, o, ks, us => ∃ kvs, o = .dK kvs ∧ ks = kvs.map (fun p => keyD p.1) ∧ us = kvs.map (·.2)
  | true, o, ks, us => ∃ kvs, o = .dT kvs ∧ ks = kvs.map (fun p => D.tup (p.1.map keyD)) ∧ us = kvs.map (·.2)

section
variable (K : PySem.W.Frag) (mg : Str → Option Value)
mutual
def Rep (F : Hp) : D → V → Prop
  | .non, v => v = .non
  | .bl b, v => v = .bl b
  | .int i, v => v = .int i
  | .str x, v => v = .str x
  | .tup ds, v => ∃ a vs, v = .ref a ∧ F a = some (.tup vs) ∧ Reps F ds vs
  | .wtp ds, v => ∃ a vs, v = .ref a ∧ SqT K F a vs ∧ Reps F ds vs
  | .lst ds, v => ∃ a vs, v = .ref a ∧ F a = some (.lst vs) ∧ Reps F ds vs
  | .scr ds, v => ∃ a vs, v = .ref a ∧ SqL K F a vs ∧ Reps F ds vs
  | .dic t ks xs, v => ∃ a o us, v = .ref a ∧ F a = some o ∧ DicO t o ks us ∧ Reps F xs us
  | .ins c ns xs, v => ∃ a C dx fs, v = .ref a ∧ mg c = some (.ref C) ∧ F a = some (.ins C dx fs) ∧ fs.map (·.1) = ns ∧ Reps F xs (fs.map (·.2))
def Reps (F : Hp) : List D → List V → Prop
  | [], vs => vs = []
  | d :: ds, vs => ∃ v r, vs = v :: r ∧ Rep F d v ∧ Reps F ds r
end

def RowsAt (F H : Hp) : List (List D) → List Addr → Prop
  | [], bs => bs = []
  | ds :: r, bs => ∃ b bs', bs = b :: bs' ∧ F b = none ∧ (∃ vs, H b = some (.lst vs) ∧ Reps K mg F ds vs) ∧ RowsAt F H r bs'
/-- w stands at a, its objects at fp -/
def RepW (F H : Hp) : W0 → Addr → List Addr → Prop
  | .l ds, a, fp => fp = [a] ∧ F a = none ∧ ∃ vs, H a = some (.lst vs) ∧ Reps K mg F ds vs
  | .m t ks xs, a, fp => fp = [a] ∧ F a = none ∧ ∃ o us, H a = some o ∧ DicO t o ks us ∧ Reps K mg F xs us
  | .ll rows, a, fp => ∃ bs, fp = a :: bs ∧ F a = none ∧ H a = some (.lst (bs.map V.ref)) ∧ RowsAt K mg F H rows bs
def RepFs (F H : Hp) : List FV → List V → List Addr → Prop
  | [], vs, fp => vs = [] ∧ fp = []
  | .d x :: r, vs, fp => ∃ v vs', vs = v :: vs' ∧ Rep K mg F x v ∧ RepFs F H r vs' fp
  | .o w :: r, vs, fp => ∃ a vs' f1 f2, vs = .ref a :: vs' ∧ fp = f1 ++ f2 ∧ RepW K mg F H w a f1 ∧ RepFs F H r vs' f2
def RepO (F H : Hp) : Own → Addr → List Addr → Prop
  | .b w, a, fp => RepW K mg F H w a fp
  | .i c ns fs, a, fp => ∃ C dx vfs fp', fp = a :: fp' ∧ F a = none ∧ mg c = some (.ref C) ∧ H a = some (.ins C dx vfs) ∧ vfs.map (·.1) = ns ∧ RepFs K mg F H fs (vfs.map (·.2)) fp'
def RepS (F H : Hp) : SV → V → List Addr → Prop
  | .d x, v, fp => Rep K mg F x v ∧ fp = []
  | .o w, v, fp => ∃ a, v = .ref a ∧ RepO K mg F H w a fp ∧ fp.Nodup
  | .ex a y, v, fp => v = .ref a ∧ fp = [] ∧ ∀ b f x, y = some (b, f, x) → ∃ u, F b = some (.xd [(f, u)]) ∧ Rep K mg F x u
end

/-- what F knows stands in H (a dict may be locked) -/
def isDic : HO → Bool
  | .dK _ => true
  | .dT _ => true
  | _ => false
/-- .. and all tuples of H are known -/
structure Sub (F H : Hp) : Prop where
  at_ : ∀ a o, F a = some o → H a = some o ∨ (isDic o = true ∧ ∃ ob, H a = some (.frz ob o))
  tups : ∀ a xs, H a = some (.tup xs) → F a = some (.tup xs)
def Mono (F F' : Hp) : Prop := ∀ a o, F a = some o → F' a = some o
theorem Mono.refl (F : Hp) : Mono F F := fun _ _ h => h
theorem Mono.trans {F F1 F2 : Hp} (a : Mono F F1) (b : Mono F1 F2) : Mono F F2 := fun c o h => b c o (a c o h)
theorem Sub.nd {F H : Hp} (s : Sub F H) {a : Addr} {o : HO} (h : F a = some o) (hd : isDic o = false) : H a = some o := by
  rcases s.at_ a o h with z | ⟨z, _⟩
  · exact z
  · rw [hd] at z; cases z
theorem Sub.lst {F H : Hp} (s : Sub F H) {a : Addr} {xs : List V} (h : F a = some (.lst xs)) : H a = some (.lst xs) := s.nd h rfl
theorem Sub.tup {F H : Hp} (s : Sub F H) {a : Addr} {xs : List V} (h : F a = some (.tup xs)) : H a = some (.tup xs) := s.nd h rfl
theorem Sub.ins {F H : Hp} (s : Sub F H) {a C dx : Addr} {fs} (h : F a = some (.ins C dx fs)) : H a = some (.ins C dx fs) := s.nd h rfl
theorem Sub.frz {F H : Hp} (s : Sub F H) {a : Addr} {ob u} (h : F a = some (.frz ob u)) : H a = some (.frz ob u) := s.nd h rfl

section
variable {K : PySem.W.Frag} {mg : Str → Option Value} {F F' H H' : Hp}
theorem Rd.mono {F F' : Hp} (m : Mono F F') {a : Addr} {u : HO} (h : Rd F a u) : Rd F' a u := by
  rcases h with h | ⟨o, h⟩
  · exact .inl (m _ _ h)
  · exact .inr ⟨o, m _ _ h⟩
theorem sqT_mono (m : Mono F F') {a : Addr} {xs : List V} (h : SqT K F a xs) : SqT K F' a xs := h.imp (Rd.mono m) id
theorem sqL_mono (m : Mono F F') {a : Addr} {xs : List V} (h : SqL K F a xs) : SqL K F' a xs := h.imp (Rd.mono m) id
theorem sqT_sub (s : Sub F H) {a : Addr} {xs : List V} (h : SqT K F a xs) : SqT K H a xs := by
  rcases h with (h | ⟨o, h⟩) | h
  · exact .inl (.inl (s.tup h))
  · exact .inl (.inr ⟨o, s.frz h⟩)
  · exact .inr h
theorem sqL_sub (s : Sub F H) {a : Addr} {xs : List V} (h : SqL K F a xs) : SqL K H a xs := by
  rcases h with (h | ⟨o, h⟩) | h
  · exact .inl (.inl (s.lst h))
  · exact .inl (.inr ⟨o, s.frz h⟩)
  · exact .inr h
mutual
theorem Rep.mono (m : Mono F F') : ∀ (d : D) (v : V), Rep K mg F d v → Rep K mg F' d v
  | .non, _, h => h
  | .bl _, _, h => h
  | .int _, _, h => h
  | .str _, _, h => h
  | .tup ds, v, h => by
    obtain ⟨a, vs, e, h1, h2⟩ := h
    exact ⟨a, vs, e, m _ _ h1, Reps.mono m ds vs h2⟩
  | .wtp ds, v, h => by
    obtain ⟨a, vs, e, h1, h2⟩ := h
    exact ⟨a, vs, e, sqT_mono m h1, Reps.mono m ds vs h2⟩
  | .lst ds, v, h => by
    obtain ⟨a, vs, e, h1, h2⟩ := h
    exact ⟨a, vs, e, m _ _ h1, Reps.mono m ds vs h2⟩
  | .scr ds, v, h => by
    obtain ⟨a, vs, e, h1, h2⟩ := h
    exact ⟨a, vs, e, sqL_mono m h1, Reps.mono m ds vs h2⟩
  | .dic t ks xs, v, h => by
    obtain ⟨a, o, us, e, h1, h2, h3⟩ := h
    exact ⟨a, o, us, e, m _ _ h1, h2, Reps.mono m xs us h3⟩
  | .ins c ns xs, v, h => by
    obtain ⟨a, C, dx, fs, e, h1, h2, h3, h4⟩ := h
    exact ⟨a, C, dx, fs, e, h1, m _ _ h2, h3, Reps.mono m xs _ h4⟩
theorem Reps.mono (m : Mono F F') : ∀ (ds : List D) (vs : List V), Reps K mg F ds vs → Reps K mg F' ds vs
  | [], _, h => h
  | d :: ds, vs, h => by
    obtain ⟨v, r, e, h1, h2⟩ := h
    exact ⟨v, r, e, Rep.mono m d v h1, Reps.mono m ds r h2⟩
end
theorem Reps.length : ∀ {ds : List D} {vs : List V}, Reps K mg F ds vs → ds.length = vs.length
  | [], _, h => by rw [show _ = [] from h]; rfl
  | d :: ds, vs, h => by
    obtain ⟨v, r, rfl, _, h2⟩ := h
    simp [Reps.length h2]
theorem Reps.get : ∀ {ds : List D} {vs : List V} {i : Nat} {d : D}, Reps K mg F ds vs → ds[i]? = some d → ∃ v, vs[i]? = some v ∧ Rep K mg F d v
  | [], _, _, _, _, e => by simp at e
  | d :: ds, vs, 0, _, h, e => by
    obtain ⟨v, r, rfl, h1, h2⟩ := h
    simp at e; subst e
    exact ⟨v, rfl, h1⟩
  | d :: ds, vs, i + 1, _, h, e => by
    obtain ⟨v, r, rfl, h1, h2⟩ := h
    obtain ⟨u, q, r⟩ := Reps.get (i := i) h2 (by simpa using e)
    exact ⟨u, by simpa using q, r⟩
theorem Reps.get' : ∀ {ds : List D} {vs : List V} {i : Nat} {v : V}, Reps K mg F ds vs → vs[i]? = some v → ∃ d, ds[i]? = some d ∧ Rep K mg F d v := by
  intro ds vs i v h e
  have hl := h.length
  have hi : i < ds.length := by rw [hl]; exact (List.getElem?_eq_some_iff.mp e).1
  obtain ⟨u, q, r⟩ := h.get (List.getElem?_eq_getElem hi)
  rw [e] at q; cases q
  exact ⟨_, List.getElem?_eq_getElem hi, r⟩
theorem Reps.append : ∀ {ds es : List D} {vs ws : List V}, Reps K mg F ds vs → Reps K mg F es ws → Reps K mg F (ds ++ es) (vs ++ ws)
  | [], _, _, _, h, h' => by rw [show _ = [] from h]; exact h'
  | d :: ds, es, vs, ws, h, h' => by
    obtain ⟨v, r, rfl, h1, h2⟩ := h
    exact ⟨v, r ++ ws, rfl, h1, Reps.append h2 h'⟩
theorem Reps.nil : Reps K mg F [] [] := rfl
theorem Reps.cons {d ds v vs} (h : Rep K mg F d v) (t : Reps K mg F ds vs) : Reps K mg F (d :: ds) (v :: vs) := ⟨v, vs, rfl, h, t⟩
theorem Reps.one {d v} (h : Rep K mg F d v) : Reps K mg F [d] [v] := .cons h .nil
theorem Reps.take : ∀ {ds : List D} {vs : List V} (n : Nat), Reps K mg F ds vs → Reps K mg F (ds.take n) (vs.take n)
  | _, _, 0, _ => by simp; exact .nil
  | [], _, n + 1, h => by rw [show _ = [] from h]; exact .nil
  | d :: ds, vs, n + 1, h => by
    obtain ⟨v, r, rfl, h1, h2⟩ := h
    exact .cons h1 (Reps.take n h2)
theorem Reps.drop : ∀ {ds : List D} {vs : List V} (n : Nat), Reps K mg F ds vs → Reps K mg F (ds.drop n) (vs.drop n)
  | _, _, 0, h => by simpa using h
  | [], _, n + 1, h => by rw [show _ = [] from h]; exact .nil
  | d :: ds, vs, n + 1, h => by
    obtain ⟨v, r, rfl, h1, h2⟩ := h
    exact Reps.drop n h2
theorem Reps.set {d : D} {v : V} (hd : Rep K mg F d v) : ∀ {ds : List D} {vs : List V} (i : Nat), Reps K mg F ds vs → Reps K mg F (ds.set i d) (vs.set i v)
  | [], _, _, h => by rw [show _ = [] from h]; exact .nil
  | _ :: _, _, 0, h => by
    obtain ⟨v, r, rfl, h1, h2⟩ := h
    exact .cons hd h2
  | _ :: _, _, i + 1, h => by
    obtain ⟨v, r, rfl, h1, h2⟩ := h
    exact .cons h1 (Reps.set hd i h2)
theorem Reps.nil_inv {vs} (h : Reps K mg F [] vs) : vs = [] := h
theorem Reps.cons_inv {d ds vs} (h : Reps K mg F (d :: ds) vs) : ∃ v r, vs = v :: r ∧ Rep K mg F d v ∧ Reps K mg F ds r := h
theorem Reps.reverse : ∀ {ds : List D} {vs : List V}, Reps K mg F ds vs → Reps K mg F ds.reverse vs.reverse
  | [], _, h => by rw [show _ = [] from h]; exact .nil
  | d :: ds, vs, h => by
    obtain ⟨v, r, rfl, h1, h2⟩ := h
    rw [List.reverse_cons, List.reverse_cons]
    exact (Reps.reverse h2).append (.one h1)
theorem Reps.ints : ∀ {ns : List Int} {vs : List V}, Reps K mg F (ns.map D.int) vs → vs = ns.map V.int
  | [], _, h => h
  | n :: ns, vs, h => by
    obtain ⟨v, r, rfl, h1, h2⟩ := h
    have e : v = .int n := h1
    rw [e, Reps.ints h2]; rfl
theorem reps_ints (ns : List Int) : Reps K mg F (ns.map D.int) (ns.map V.int) := by
  induction ns with
  | nil => exact .nil
  | cons n ns ih => exact .cons rfl ih

theorem RowsAt.frame (m : Mono F F') : ∀ {rows : List (List D)} {bs : List Addr}, RowsAt K mg F H rows bs → (∀ x ∈ bs, F' x = none ∧ H' x = H x) → RowsAt K mg F' H' rows bs
  | [], _, h, _ => h
  | ds :: r, bs, h, k => by
    obtain ⟨b, bs', rfl, h1, ⟨vs, h2, h3⟩, h4⟩ := h
    obtain ⟨k1, k2⟩ := k b List.mem_cons_self
    exact ⟨b, bs', rfl, k1, ⟨vs, by rw [k2]; exact h2, h3.mono m⟩, h4.frame m fun x hx => k x (List.mem_cons_of_mem _ hx)⟩
theorem RepW.frame (m : Mono F F') {w : W0} {a : Addr} {fp : List Addr} (h : RepW K mg F H w a fp) (k : ∀ x ∈ fp, F' x = none ∧ H' x = H x) : RepW K mg F' H' w a fp := by
  cases w with
  | l ds =>
    obtain ⟨rfl, h1, vs, h2, h3⟩ := h
    obtain ⟨k1, k2⟩ := k a List.mem_cons_self
    exact ⟨rfl, k1, vs, by rw [k2]; exact h2, h3.mono m⟩
  | m t ks xs =>
    obtain ⟨rfl, h1, o, us, h2, h3, h4⟩ := h
    obtain ⟨k1, k2⟩ := k a List.mem_cons_self
    exact ⟨rfl, k1, o, us, by rw [k2]; exact h2, h3, h4.mono m⟩
  | ll rows =>
    obtain ⟨bs, rfl, h1, h2, h3⟩ := h
    obtain ⟨k1, k2⟩ := k a List.mem_cons_self
    exact ⟨bs, rfl, k1, by rw [k2]; exact h2, h3.frame m fun x hx => k x (List.mem_cons_of_mem _ hx)⟩
theorem RepFs.frame (m : Mono F F') : ∀ {fs : List FV} {vs : List V} {fp : List Addr}, RepFs K mg F H fs vs fp → (∀ x ∈ fp, F' x = none ∧ H' x = H x) → RepFs K mg F' H' fs vs fp
  | [], _, _, h, _ => h
  | .d x :: r, _, _, h, k => by
    obtain ⟨v, vs', rfl, h1, h2⟩ := h
    exact ⟨v, vs', rfl, h1.mono m, h2.frame m k⟩
  | .o w :: r, _, _, h, k => by
    obtain ⟨a, vs', f1, f2, rfl, rfl, h1, h2⟩ := h
    exact ⟨a, vs', f1, f2, rfl, rfl, h1.frame m fun x hx => k x (List.mem_append_left _ hx), h2.frame m fun x hx => k x (List.mem_append_right _ hx)⟩
theorem RepO.frame (m : Mono F F') {w : Own} {a : Addr} {fp : List Addr} (h : RepO K mg F H w a fp) (k : ∀ x ∈ fp, F' x = none ∧ H' x = H x) : RepO K mg F' H' w a fp := by
  cases w with
  | b w => exact RepW.frame m h k
  | i c ns fs =>
    obtain ⟨C, dx, vfs, fp', rfl, h1, h2, h3, h4, h5⟩ := h
    obtain ⟨k1, k2⟩ := k a List.mem_cons_self
    exact ⟨C, dx, vfs, fp', rfl, k1, h2, by rw [k2]; exact h3, h4, h5.frame m fun x hx => k x (List.mem_cons_of_mem _ hx)⟩
theorem RepS.frame (m : Mono F F') {sv : SV} {v : V} {fp : List Addr} (h : RepS K mg F H sv v fp) (k : ∀ x ∈ fp, F' x = none ∧ H' x = H x) : RepS K mg F' H' sv v fp := by
  cases sv with
  | d x => exact ⟨h.1.mono m, h.2⟩
  | ex a y =>
    refine ⟨h.1, h.2.1, fun b f x e => ?_⟩
    obtain ⟨u, q1, q2⟩ := h.2.2 b f x e
    exact ⟨u, m _ _ q1, Rep.mono m _ _ q2⟩
  | o w =>
    obtain ⟨a, e, h1, h2⟩ := h
    exact ⟨a, e, h1.frame m k, h2⟩
theorem RowsAt.out : ∀ {rows : List (List D)} {bs : List Addr}, RowsAt K mg F H rows bs → ∀ x ∈ bs, F x = none ∧ ∃ o, H x = some o
  | [], _, h, x, hx => by rw [show _ = [] from h] at hx; cases hx
  | ds :: r, bs, h, x, hx => by
    obtain ⟨b, bs', rfl, h1, ⟨vs, h2, h3⟩, h4⟩ := h
    rcases List.mem_cons.mp hx with rfl | hx
    · exact ⟨h1, _, h2⟩
    · exact h4.out x hx
theorem RepW.out {w : W0} {a : Addr} {fp : List Addr} (h : RepW K mg F H w a fp) : ∀ x ∈ fp, F x = none ∧ ∃ o, H x = some o := by
  intro x hx
  cases w with
  | l ds =>
    obtain ⟨rfl, h1, vs, h2, h3⟩ := h
    rw [List.mem_singleton.mp hx]; exact ⟨h1, _, h2⟩
  | m t ks xs =>
    obtain ⟨rfl, h1, o, us, h2, h3, h4⟩ := h
    rw [List.mem_singleton.mp hx]; exact ⟨h1, _, h2⟩
  | ll rows =>
    obtain ⟨bs, rfl, h1, h2, h3⟩ := h
    rcases List.mem_cons.mp hx with rfl | hx
    · exact ⟨h1, _, h2⟩
    · exact h3.out x hx
theorem RepFs.out : ∀ {fs : List FV} {vs : List V} {fp : List Addr}, RepFs K mg F H fs vs fp → ∀ x ∈ fp, F x = none ∧ ∃ o, H x = some o
  | [], _, _, h, x, hx => by rw [h.2] at hx; cases hx
  | .d _ :: r, _, _, h, x, hx => by
    obtain ⟨v, vs', rfl, h1, h2⟩ := h
    exact h2.out x hx
  | .o w :: r, _, _, h, x, hx => by
    obtain ⟨a, vs', f1, f2, rfl, rfl, h1, h2⟩ := h
    rcases List.mem_append.mp hx with hx | hx
    · exact h1.out x hx
    · exact h2.out x hx
theorem RepO.out {w : Own} {a : Addr} {fp : List Addr} (h : RepO K mg F H w a fp) : ∀ x ∈ fp, F x = none ∧ ∃ o, H x = some o := by
  cases w with
  | b w => exact RepW.out h
  | i c ns fs =>
    intro x hx
    obtain ⟨C, dx, vfs, fp', rfl, h1, h2, h3, h4, h5⟩ := h
    rcases List.mem_cons.mp hx with rfl | hx
    · exact ⟨h1, _, h3⟩
    · exact h5.out x hx
theorem RepS.out {sv : SV} {v : V} {fp : List Addr} (h : RepS K mg F H sv v fp) : ∀ x ∈ fp, F x = none ∧ ∃ o, H x = some o := by
  cases sv with
  | d x => intro y hy; rw [h.2] at hy; cases hy
  | ex a y => intro z hz; rw [h.2.1] at hz; cases hz
  | o w =>
    obtain ⟨a, e, h1, h2⟩ := h
    exact h1.out

/-- what is owned is no tuple -/
theorem DicO.ntup : ∀ {t : Bool} {o : HO} {ks us}, DicO t o ks us → ∀ xs, o ≠ .tup xs
  | false, _, _, _, ⟨_, e, _⟩, xs, z => by rw [e] at z; cases z
  | true, _, _, _, ⟨_, e, _⟩, xs, z => by rw [e] at z; cases z
theorem RowsAt.nt : ∀ {rows : List (List D)} {bs : List Addr}, RowsAt K mg F H rows bs → ∀ x ∈ bs, ∀ xs, H x ≠ some (.tup xs)
  | [], _, h, x, hx => by rw [show _ = [] from h] at hx; cases hx
  | ds :: r, bs, h, x, hx => by
    obtain ⟨b, bs', rfl, h1, ⟨vs, h2, h3⟩, h4⟩ := h
    rcases List.mem_cons.mp hx with rfl | hx
    · intro xs z; rw [h2] at z; cases z
    · exact h4.nt x hx
theorem RepW.nt {w : W0} {a : Addr} {fp : List Addr} (h : RepW K mg F H w a fp) : ∀ x ∈ fp, ∀ xs, H x ≠ some (.tup xs) := by
  intro x hx
  cases w with
  | l ds =>
    obtain ⟨rfl, h1, vs, h2, h3⟩ := h
    rw [List.mem_singleton.mp hx]; intro xs z; rw [h2] at z; cases z
  | m t ks xs =>
    obtain ⟨rfl, h1, o, us, h2, h3, h4⟩ := h
    rw [List.mem_singleton.mp hx]; intro xs z; rw [h2] at z; cases z; exact h3.ntup _ rfl
  | ll rows =>
    obtain ⟨bs, rfl, h1, h2, h3⟩ := h
    rcases List.mem_cons.mp hx with rfl | hx
    · intro xs z; rw [h2] at z; cases z
    · exact h3.nt x hx
theorem RepFs.nt : ∀ {fs : List FV} {vs : List V} {fp : List Addr}, RepFs K mg F H fs vs fp → ∀ x ∈ fp, ∀ xs, H x ≠ some (.tup xs)
  | [], _, _, h, x, hx => by rw [h.2] at hx; cases hx
  | .d _ :: r, _, _, h, x, hx => by
    obtain ⟨v, vs', rfl, h1, h2⟩ := h
    exact h2.nt x hx
  | .o w :: r, _, _, h, x, hx => by
    obtain ⟨a, vs', f1, f2, rfl, rfl, h1, h2⟩ := h
    rcases List.mem_append.mp hx with hx | hx
    · exact h1.nt x hx
    · exact h2.nt x hx
theorem RepO.nt {w : Own} {a : Addr} {fp : List Addr} (h : RepO K mg F H w a fp) : ∀ x ∈ fp, ∀ xs, H x ≠ some (.tup xs) := by
  cases w with
  | b w => exact RepW.nt h
  | i c ns fs =>
    intro x hx
    obtain ⟨C, dx, vfs, fp', rfl, h1, h2, h3, h4, h5⟩ := h
    rcases List.mem_cons.mp hx with rfl | hx
    · intro xs z; rw [h3] at z; cases z
    · exact h5.nt x hx

/-- F with what stands at fp -/
def frzF (F H : Hp) (fp : List Addr) : Hp := fun x => if x ∈ fp then H x else F x
theorem frzF_mono {fp : List Addr} (h : ∀ x ∈ fp, F x = none) : Mono F (frzF F H fp) := fun a o e => by
  unfold frzF
  split
  · rename_i hx; rw [h a hx] at e; cases e
  · exact e
theorem frzF_in {fp : List Addr} {x : Addr} (h : x ∈ fp) : frzF F H fp x = H x := by unfold frzF; rw [if_pos h]
theorem frzF_out {fp : List Addr} {x : Addr} (h : x ∉ fp) : frzF F H fp x = F x := by unfold frzF; rw [if_neg h]
theorem frzF_sub {fp : List Addr} (s : Sub F H) : Sub (frzF F H fp) H := ⟨fun a o e => by
  unfold frzF at e
  split at e
  · exact .inl e
  · exact s.at_ a o e, fun a xs e => by
  unfold frzF
  split
  · exact e
  · exact s.tups a xs e⟩
theorem RowsAt.frozen (m : Mono F F') : ∀ {rows : List (List D)} {bs : List Addr}, RowsAt K mg F H rows bs → (∀ x ∈ bs, F' x = H x) → Reps K mg F' (rows.map D.lst) (bs.map V.ref)
  | [], _, h, _ => by rw [show _ = [] from h]; exact .nil
  | ds :: r, bs, h, k => by
    obtain ⟨b, bs', rfl, h1, ⟨vs, h2, h3⟩, h4⟩ := h
    exact .cons ⟨b, vs, rfl, by rw [k b List.mem_cons_self]; exact h2, h3.mono m⟩ (h4.frozen m fun x hx => k x (List.mem_cons_of_mem _ hx))
theorem RepW.frozen (m : Mono F F') {w : W0} {a : Addr} {fp : List Addr} (h : RepW K mg F H w a fp) (k : ∀ x ∈ fp, F' x = H x) : Rep K mg F' w.toD (.ref a) := by
  cases w with
  | l ds =>
    obtain ⟨rfl, h1, vs, h2, h3⟩ := h
    exact ⟨a, vs, rfl, by rw [k a List.mem_cons_self]; exact h2, h3.mono m⟩
  | m t ks xs =>
    obtain ⟨rfl, h1, o, us, h2, h3, h4⟩ := h
    exact ⟨a, o, us, rfl, by rw [k a List.mem_cons_self]; exact h2, h3, h4.mono m⟩
  | ll rows =>
    obtain ⟨bs, rfl, h1, h2, h3⟩ := h
    exact ⟨a, bs.map V.ref, rfl, by rw [k a List.mem_cons_self]; exact h2, h3.frozen m fun x hx => k x (List.mem_cons_of_mem _ hx)⟩
theorem RepFs.frozen (m : Mono F F') : ∀ {fs : List FV} {vs : List V} {fp : List Addr}, RepFs K mg F H fs vs fp → (∀ x ∈ fp, F' x = H x) → Reps K mg F' (fs.map FV.toD) vs
  | [], _, _, h, _ => by rw [h.1]; exact .nil
  | .d x :: r, _, _, h, k => by
    obtain ⟨v, vs', rfl, h1, h2⟩ := h
    exact .cons (h1.mono m) (h2.frozen m k)
  | .o w :: r, _, _, h, k => by
    obtain ⟨a, vs', f1, f2, rfl, rfl, h1, h2⟩ := h
    exact .cons (h1.frozen m fun x hx => k x (List.mem_append_left _ hx)) (h2.frozen m fun x hx => k x (List.mem_append_right _ hx))
theorem RepO.frozen (m : Mono F F') {w : Own} {a : Addr} {fp : List Addr} (h : RepO K mg F H w a fp) (k : ∀ x ∈ fp, F' x = H x) : Rep K mg F' w.toD (.ref a) := by
  cases w with
  | b w => exact RepW.frozen m h k
  | i c ns fs =>
    obtain ⟨C, dx, vfs, fp', rfl, h1, h2, h3, h4, h5⟩ := h
    exact ⟨a, C, dx, vfs, rfl, h2, by rw [k a List.mem_cons_self]; exact h3, h4, h5.frozen m fun x hx => k x (List.mem_cons_of_mem _ hx)⟩
end
end J
namespace J
open PySem PySem.Spec PyProof.Rows L2

abbrev Fps := Nat → List Addr
def InF (fps : Fps) (a : Addr) : Prop := ∃ i, a ∈ fps i

structure Ok (K : PySem.W.Frag) (mg : Str → Option Value) (ρ : Env) (σ : L2.St) (F H : Hp) (fps : Fps) : Prop where
  sub : Sub F H
  len : ρ.length = σ.length
  slot : ∀ i sv, ρ[i]? = some (some sv) → ∃ v, σ[i]? = some (some v) ∧ RepS K mg F H sv v (fps i)
  non : ∀ i, (∀ sv, ρ[i]? ≠ some (some sv)) → fps i = []
  sep : ∀ i j a, i ≠ j → a ∈ fps i → a ∉ fps j

/-- asg: the slots that may be stored; kf: the fields that are not stored -/
structure Tp where
  asg : Nat → Bool
  kf : Str → Bool

structure Tr (K : PySem.W.Frag) (mg : Str → Option Value) (T : Tp) (σ : L2.St) (F H : Hp) (fps : Fps) (ρ' : Env) (σ' : L2.St) (F' H' : Hp) (fps' : Fps) : Prop where
  ok : Ok K mg ρ' σ' F' H' fps'
  mono : Mono F F'
  keep : ∀ a o, H a = some o → ¬InF fps a → H' a = some o
  frz : ∀ a o, F' a = some o → F a = some o ∨ InF fps a ∨ H a = none
  own : ∀ a, InF fps' a → InF fps a ∨ H a = none
  sl : ∀ i, T.asg i = false → σ'[i]? = σ[i]?
  fld : ∀ a C dx fs, H a = some (.ins C dx fs) → ∃ dx' fs', H' a = some (.ins C dx' fs') ∧ ∀ f, T.kf f = true → fs'.lookup f = fs.lookup f

section
variable {K : PySem.W.Frag} {mg : Str → Option Value} {T : Tp} {ρ ρ1 ρ2 : Env} {σ σ1 σ2 : L2.St} {F F1 F2 H H1 H2 : Hp} {fps fps1 fps2 : Fps}
theorem Ok.inF (ok : Ok K mg ρ σ F H fps) {a : Addr} (h : InF fps a) : F a = none ∧ ∃ o, H a = some o := by
  obtain ⟨i, hi⟩ := h
  by_cases hs : ∃ sv, ρ[i]? = some (some sv)
  · obtain ⟨sv, hs⟩ := hs
    obtain ⟨v, _, r⟩ := ok.slot i sv hs
    exact r.out a hi
  · rw [ok.non i fun sv e => hs ⟨sv, e⟩] at hi; cases hi
theorem Tr.refl (ok : Ok K mg ρ σ F H fps) : Tr K mg T σ F H fps ρ σ F H fps :=
  ⟨ok, .refl F, fun _ _ h _ => h, fun _ _ h => .inl h, fun _ h => .inl h, fun _ _ => rfl, fun _ _ dx fs h => ⟨dx, fs, h, fun _ _ => rfl⟩⟩
theorem Tr.there (t : Tr K mg T σ F H fps ρ1 σ1 F1 H1 fps1) {a : Addr} (h : H1 a = none) : InF fps a ∨ H a = none := by
  cases e : H a with
  | none => exact .inr rfl
  | some o =>
    by_cases hf : InF fps a
    · exact .inl hf
    · rw [t.keep a o e hf] at h; cases h
theorem Tr.trans (t : Tr K mg T σ F H fps ρ1 σ1 F1 H1 fps1) (u : Tr K mg T σ1 F1 H1 fps1 ρ2 σ2 F2 H2 fps2) : Tr K mg T σ F H fps ρ2 σ2 F2 H2 fps2 := by
  refine ⟨u.ok, t.mono.trans u.mono, fun a o e hn => ?_, fun a o e => ?_, fun a h => ?_, fun i hi => (u.sl i hi).trans (t.sl i hi), fun a C dx fs e => ?_⟩
  · refine u.keep a o (t.keep a o e hn) fun z => ?_
    rcases t.own a z with z | z
    · exact hn z
    · rw [e] at z; cases z
  · rcases u.frz a o e with z | z | z
    · exact t.frz a o z
    · exact .inr (t.own a z)
    · exact .inr (t.there z)
  · rcases u.own a h with z | z
    · exact t.own a z
    · exact t.there z
  · obtain ⟨d1, f1, e1, k1⟩ := t.fld a C dx fs e
    obtain ⟨d2, f2, e2, k2⟩ := u.fld a C d1 f1 e1
    exact ⟨d2, f2, e2, fun f hf => (k2 f hf).trans (k1 f hf)⟩
end

/-- an expression's outcome: data, a thing of its own, what slot j holds, what field f of slot j's instance holds -/
inductive AV where
  | d (x : D) | o (w : Own) | s (j : Nat) | g (j : Nat) (y : Str)
/-- an exception: an own class; without fields, or with one field -/
inductive Exn where
  | plain (c : Str) | fld (c f : Str) (x : D)
inductive Out (α : Type) where
  | ok (a : α) | exc (x : Exn) (ρ : Env) | bad
def Out.bind {α β : Type} : Out α → (α → Out β) → Out β
  | .ok a, k => k a
  | .exc x ρ, _ => .exc x ρ
  | .bad, _ => .bad
@[simp] theorem Out.bind_ok {α β : Type} (a : α) (k : α → Out β) : (Out.ok a).bind k = k a := rfl
@[simp] theorem Out.bind_exc {α β : Type} (x : Exn) (ρ : Env) (k : α → Out β) : (Out.exc x ρ).bind k = .exc x ρ := rfl
@[simp] theorem Out.bind_bad {α β : Type} (k : α → Out β) : (Out.bad : Out α).bind k = .bad := rfl
def Out.of {α : Type} : Option α → Out α
  | some a => .ok a
  | none => .bad
@[simp] theorem Out.of_some {α : Type} (a : α) : Out.of (some a) = .ok a := rfl
@[simp] theorem Out.of_none {α : Type} : Out.of (none : Option α) = .bad := rfl
abbrev ECode := Env → Out (AV × Env)

section
variable (K : PySem.W.Frag) (mg : Str → Option Value)
/-- N: what a thing of its own may be made of -/
def RepA (T : Tp) (N : Addr → Prop) (σ : L2.St) (F H : Hp) (fps : Fps) : AV → V → Prop
  | .d x, v => Rep K mg F x v
  | .o w, v => ∃ a fp, v = .ref a ∧ RepO K mg F H w a fp ∧ fp.Nodup ∧ (∀ x ∈ fp, ¬InF fps x) ∧ ∀ x ∈ fp, N x
  | .s j, v => σ[j]? = some (some v)
  | .g j y, v => T.kf y = true ∧ ∃ a C dx fs, σ[j]? = some (some (.ref a)) ∧ H a = some (.ins C dx fs) ∧ fs.lookup y = some v
def XRep (F H : Hp) : Exn → Value → Option Addr → Prop
  | .plain c, cls, d => mg c = some cls ∧ d = none
  | .fld c f x, cls, d => mg c = some cls ∧ ∃ a v, d = some a ∧ F a = some (.xd [(f, v)]) ∧ Rep K mg F x v
/-- newer than .. -/
def NewTo (fps : Fps) (H : Hp) (a : Addr) : Prop := InF fps a ∨ H a = none
def PX (T : Tp) (W : WX) (σ : L2.St) (F H : Hp) (fps : Fps) (r : Out (AV × Env)) (Q : VK) : Prop := match r with
  | .ok (av, ρ') => ∀ v F' H' fps', Tr K mg T σ F H fps ρ' σ F' H' fps' → RepA K mg T (NewTo fps H) σ F' H' fps' av v → Q v H'
  | .exc x ρ' => ∀ cls d F' H' fps', Tr K mg T σ F H fps ρ' σ F' H' fps' → XRep K mg F' H' x cls d → W cls d σ H'
  | .bad => False
end

section
variable {K : PySem.W.Frag} {mg : Str → Option Value} {T : Tp} {W : WX} {ρ ρ1 ρ2 : Env} {σ σ1 σ2 : L2.St} {F F1 F2 H H1 H2 : Hp} {fps fps1 fps2 : Fps} {N N' : Addr → Prop}
theorem RepA.imp {av : AV} {v : V} (h : RepA K mg T N σ F H fps av v) (k : ∀ a, N a → N' a) : RepA K mg T N' σ F H fps av v := by
  cases av with
  | d x => exact h
  | s j => exact h
  | g j y => exact h
  | o w =>
    obtain ⟨a, fp, e, h1, h2, h3, h4⟩ := h
    exact ⟨a, fp, e, h1, h2, h3, fun x hx => k x (h4 x hx)⟩
theorem NewTo.from (t : Tr K mg T σ F H fps ρ1 σ1 F1 H1 fps1) {a : Addr} (h : NewTo fps1 H1 a) : NewTo fps H a := by
  rcases h with h | h
  · exact t.own a h
  · exact t.there h
theorem PX.from (t : Tr K mg T σ F H fps ρ1 σ F1 H1 fps1) {r : Out (AV × Env)} {Q : VK} (h : PX K mg T W σ F H fps r Q) : PX K mg T W σ F1 H1 fps1 r Q := by
  cases r with
  | ok p =>
    obtain ⟨av, ρ'⟩ := p
    exact fun v F' H' fps' u ra => h v F' H' fps' (t.trans u) (ra.imp fun a => NewTo.from t)
  | exc x ρ' => exact fun cls d F' H' fps' u xr => h cls d F' H' fps' (t.trans u) xr
  | bad => exact h
/-- what was reached stays, while more is reckoned -/
theorem RepA.stay {av : AV} {v : V} (h : RepA K mg T N σ F H fps av v) (t : Tr K mg T σ F H fps ρ1 σ F1 H1 fps1) : RepA K mg T N σ F1 H1 fps1 av v := by
  cases av with
  | d x => exact Rep.mono t.mono x v h
  | s j => exact h
  | g j y =>
    obtain ⟨k, a, C, dx, fs, e, h1, h2⟩ := h
    obtain ⟨d1, f1, e1, k1⟩ := t.fld a C dx fs h1
    exact ⟨k, a, C, d1, f1, e, e1, (k1 y k).trans h2⟩
  | o w =>
    obtain ⟨a, fp, e, h1, h2, h3, h4⟩ := h
    refine ⟨a, fp, e, h1.frame t.mono fun x hx => ?_, h2, fun x hx z => ?_, h4⟩
    · obtain ⟨f0, o, ho⟩ := h1.out x hx
      refine ⟨?_, by rw [t.keep x o ho (h3 x hx), ho]⟩
      cases q : F1 x with
      | none => rfl
      | some o' =>
        rcases t.frz x o' q with z | z | z
        · rw [f0] at z; cases z
        · exact absurd z (h3 x hx)
        · rw [ho] at z; cases z
    · obtain ⟨f0, o, ho⟩ := h1.out x hx
      rcases t.own x z with z | z
      · exact h3 x hx z
      · rw [ho] at z; cases z
end

/-- the weakest reading -/
def WE (X : Cx) (e : Expr) : TE := fun σ H Q => ∀ (pins : List (Addr × Obj)) (s : Shared), Inv X pins σ H s → wpAny (model X.prog X.w) X.A (eval e X.env) (EP X pins σ Q) X.xe s
theorem WE.pe (X : Cx) (e : Expr) : PE X e (WE X e) := ⟨fun pins s _ _ _ I h => h pins s I⟩
theorem WE.of {X : Cx} {e : Expr} {t : TE} (h : PE X e t) {σ : L2.St} {H : Hp} {Q : VK} (q : t σ H Q) : WE X e σ H Q := fun pins s I => h.run pins s σ H Q I q
theorem WE.imp {X : Cx} {e : Expr} {σ : L2.St} {H : Hp} {Q Q' : VK} (h : WE X e σ H Q) (k : ∀ v H', Q v H' → Q' v H') : WE X e σ H Q' := fun pins s I =>
  wpAny_mono (h pins s I) (fun _ _ ⟨v, H', I', r, q⟩ => ⟨v, H', I', r, k _ _ q⟩) fun _ _ z => z
structure JX (X : Cx) (T : Tp) (W : WX) (e : Expr) (f : ECode) : Prop where
  run : ∀ (ρ : Env) (σ : L2.St) (F H : Hp) (fps : Fps) (Q : VK), Ok X.K X.mg ρ σ F H fps → PX X.K X.mg T W σ F H fps (f ρ) Q → WE X e σ H Q

/-- outcomes of other kinds: rep says what stands for a -/
def PY (K : PySem.W.Frag) (mg : Str → Option Value) (T : Tp) (W : WX) (σ : L2.St) (F H : Hp) (fps : Fps) {α β : Type} (rep : Hp → Hp → α → β → Prop) (r : Out (α × Env)) (Q : β → Hp → Prop) : Prop := match r with
  | .ok (a, ρ') => ∀ b F' H' fps', Tr K mg T σ F H fps ρ' σ F' H' fps' → rep F' H' a b → Q b H'
  | .exc x ρ' => ∀ cls d F' H' fps', Tr K mg T σ F H fps ρ' σ F' H' fps' → XRep K mg F' H' x cls d → W cls d σ H'
  | .bad => False
section
variable {K : PySem.W.Frag} {mg : Str → Option Value} {T : Tp} {W : WX} {ρ ρ1 ρ2 : Env} {σ σ1 σ2 : L2.St} {F F1 F2 H H1 H2 : Hp} {fps fps1 fps2 : Fps} {N N' : Addr → Prop}
theorem PY.from {α β : Type} {rep : Hp → Hp → α → β → Prop} (t : Tr K mg T σ F H fps ρ1 σ F1 H1 fps1) {r : Out (α × Env)} {Q : β → Hp → Prop} (h : PY K mg T W σ F H fps rep r Q) : PY K mg T W σ F1 H1 fps1 rep r Q := by
  cases r with
  | ok p =>
    obtain ⟨av, ρ'⟩ := p
    exact fun v F' H' fps' u ra => h v F' H' fps' (t.trans u) ra
  | exc x ρ' => exact fun cls d F' H' fps' u xr => h cls d F' H' fps' (t.trans u) xr
  | bad => exact h
/-- a wish about outcomes that takes what is raised as W says -/
structure FP (K : PySem.W.Frag) (mg : Str → Option Value) (T : Tp) (W : WX) (σ : L2.St) (F H : Hp) (fps : Fps) {γ : Type} (Z : Out γ → Prop) : Prop where
  exc : ∀ x ρ', Z (.exc x ρ') → ∀ cls d F' H' fps', Tr K mg T σ F H fps ρ' σ F' H' fps' → XRep K mg F' H' x cls d → W cls d σ H'
  bad : ¬Z .bad
theorem FP.px {Q : VK} : FP K mg T W σ F H fps (fun r => PX K mg T W σ F H fps r Q) := ⟨fun _ _ h => h, fun h => h⟩
theorem FP.py {α β : Type} {rep : Hp → Hp → α → β → Prop} {Q : β → Hp → Prop} : FP K mg T W σ F H fps (fun r => PY K mg T W σ F H fps rep r Q) := ⟨fun _ _ h => h, fun h => h⟩
end

/-- a test's weakest reading -/
def WT (X : Cx) (e : Expr) : TT := fun σ H Q => ∀ (pins : List (Addr × Obj)) (s : Shared), Inv X pins σ H s → wpAny (model X.prog X.w) X.A (isTrue e X.env (eval e X.env)) (TP X pins σ Q) X.xe s
theorem WT.pt (X : Cx) (e : Expr) : PT X e (WT X e) := ⟨fun pins s _ _ _ I h => h pins s I⟩
theorem WT.of {X : Cx} {e : Expr} {t : TT} (h : PT X e t) {σ : L2.St} {H : Hp} {Q : Bool → Hp → Prop} (q : t σ H Q) : WT X e σ H Q := fun pins s I => h.run pins s σ H Q I q
/-- an argument list's -/
def WA (X : Cx) (es : List Expr) : TA := fun σ H Q => ∀ (pos : Pos) (pins : List (Addr × Obj)) (s : Shared), Inv X pins σ H s → wpAny (model X.prog X.w) X.A (spliced (backTo pos (starEach es X.env))) (AP X pins σ Q) X.xe s
theorem WA.pa (X : Cx) (es : List Expr) : PA X es (WA X es) := ⟨fun pos pins s _ _ _ I h => h pos pins s I⟩
theorem WA.of {X : Cx} {es : List Expr} {t : TA} (h : PA X es t) {σ : L2.St} {H : Hp} {Q : List V → Hp → Prop} (q : t σ H Q) : WA X es σ H Q := fun pos pins s I => h.run pos pins s σ H Q I q

abbrev repB : Hp → Hp → Bool → Bool → Prop := fun _ _ a b => b = a
structure JT (X : Cx) (T : Tp) (W : WX) (e : Expr) (f : Env → Out (Bool × Env)) : Prop where
  run : ∀ (ρ : Env) (σ : L2.St) (F H : Hp) (fps : Fps) (Q : Bool → Hp → Prop), Ok X.K X.mg ρ σ F H fps → PY X.K X.mg T W σ F H fps repB (f ρ) Q → WT X e σ H Q
/-- a value that is kept: data -/
structure JD (X : Cx) (T : Tp) (W : WX) (e : Expr) (f : Env → Out (D × Env)) : Prop where
  run : ∀ (ρ : Env) (σ : L2.St) (F H : Hp) (fps : Fps) (Q : VK), Ok X.K X.mg ρ σ F H fps → PY X.K X.mg T W σ F H fps (fun F' _ => Rep X.K X.mg F') (f ρ) Q → WE X e σ H Q
structure JDs (X : Cx) (T : Tp) (W : WX) (es : List Expr) (f : Env → Out (List D × Env)) : Prop where
  run : ∀ (ρ : Env) (σ : L2.St) (F H : Hp) (fps : Fps) (Q : List V → Hp → Prop), Ok X.K X.mg ρ σ F H fps → PY X.K X.mg T W σ F H fps (fun F' _ => Reps X.K X.mg F') (f ρ) Q → WA X es σ H Q
section
variable {X : Cx} {T : Tp} {W : WX} {e : Expr} {es : List Expr} {ρ : Env} {σ : L2.St} {F H : Hp} {fps : Fps} {γ : Type} {Z : Out γ → Prop}
/-- e, then more -/
theorem JX.next {f : ECode} (j : JX X T W e f) {k : AV × Env → Out γ} {R : VK} (ok : Ok X.K X.mg ρ σ F H fps) (z : FP X.K X.mg T W σ F H fps Z) (h : Z ((f ρ).bind k))
    (hk : ∀ av ρ1 v F1 H1 fps1, Tr X.K X.mg T σ F H fps ρ1 σ F1 H1 fps1 → RepA X.K X.mg T (NewTo fps H) σ F1 H1 fps1 av v → Z (k (av, ρ1)) → R v H1) : WE X e σ H R := by
  refine j.run ρ σ F H fps R ok ?_
  cases q : f ρ with
  | ok p =>
    obtain ⟨av, ρ1⟩ := p
    rw [q] at h
    exact fun v F1 H1 fps1 t ra => hk av ρ1 v F1 H1 fps1 t ra h
  | exc x ρ1 => rw [q] at h; exact z.exc x ρ1 h
  | bad => rw [q] at h; exact z.bad h
theorem JD.next {f : Env → Out (D × Env)} (j : JD X T W e f) {k : D × Env → Out γ} {R : VK} (ok : Ok X.K X.mg ρ σ F H fps) (z : FP X.K X.mg T W σ F H fps Z) (h : Z ((f ρ).bind k))
    (hk : ∀ x ρ1 v F1 H1 fps1, Tr X.K X.mg T σ F H fps ρ1 σ F1 H1 fps1 → Rep X.K X.mg F1 x v → Z (k (x, ρ1)) → R v H1) : WE X e σ H R := by
  refine j.run ρ σ F H fps R ok ?_
  cases q : f ρ with
  | ok p =>
    obtain ⟨av, ρ1⟩ := p
    rw [q] at h
    exact fun v F1 H1 fps1 t ra => hk av ρ1 v F1 H1 fps1 t ra h
  | exc x ρ1 => rw [q] at h; exact z.exc x ρ1 h
  | bad => rw [q] at h; exact z.bad h
theorem JDs.next {f : Env → Out (List D × Env)} (j : JDs X T W es f) {k : List D × Env → Out γ} {R : List V → Hp → Prop} (ok : Ok X.K X.mg ρ σ F H fps) (z : FP X.K X.mg T W σ F H fps Z) (h : Z ((f ρ).bind k))
    (hk : ∀ x ρ1 v F1 H1 fps1, Tr X.K X.mg T σ F H fps ρ1 σ F1 H1 fps1 → Reps X.K X.mg F1 x v → Z (k (x, ρ1)) → R v H1) : WA X es σ H R := by
  refine j.run ρ σ F H fps R ok ?_
  cases q : f ρ with
  | ok p =>
    obtain ⟨av, ρ1⟩ := p
    rw [q] at h
    exact fun v F1 H1 fps1 t ra => hk av ρ1 v F1 H1 fps1 t ra h
  | exc x ρ1 => rw [q] at h; exact z.exc x ρ1 h
  | bad => rw [q] at h; exact z.bad h
theorem JT.next {f : Env → Out (Bool × Env)} (j : JT X T W e f) {k : Bool × Env → Out γ} {R : Bool → Hp → Prop} (ok : Ok X.K X.mg ρ σ F H fps) (z : FP X.K X.mg T W σ F H fps Z) (h : Z ((f ρ).bind k))
    (hk : ∀ b ρ1 F1 H1 fps1, Tr X.K X.mg T σ F H fps ρ1 σ F1 H1 fps1 → Z (k (b, ρ1)) → R b H1) : WT X e σ H R := by
  refine j.run ρ σ F H fps R ok ?_
  cases q : f ρ with
  | ok p =>
    obtain ⟨b, ρ1⟩ := p
    rw [q] at h
    intro b' F1 H1 fps1 t e
    subst e
    exact hk b' ρ1 F1 H1 fps1 t h
  | exc x ρ1 => rw [q] at h; exact z.exc x ρ1 h
  | bad => rw [q] at h; exact z.bad h
/-- the end: the state stands, the outcome is this -/
theorem PX.ret {av : AV} {v : V} {Q : VK} (h : PX X.K X.mg T W σ F H fps (.ok (av, ρ)) Q) (ok : Ok X.K X.mg ρ σ F H fps) (ra : RepA X.K X.mg T (NewTo fps H) σ F H fps av v) : Q v H := h v F H fps (Tr.refl ok) ra
theorem PY.ret {α β : Type} {rep : Hp → Hp → α → β → Prop} {a : α} {b : β} {Q : β → Hp → Prop} (h : PY X.K X.mg T W σ F H fps rep (.ok (a, ρ)) Q) (ok : Ok X.K X.mg ρ σ F H fps) (r : rep F H a b) : Q b H := h b F H fps (Tr.refl ok) r
end
end J
namespace J
open PySem PySem.Spec PyProof.Rows L2

def W0.view : W0 → Option D
  | .l ds => some (.lst ds)
  | .m t ks vs => some (.dic t ks vs)
  | .ll _ => none
def Own.view : Own → Option D
  | .b w => w.view
  | .i _ _ _ => none
def getFV : List Str → List FV → Str → Option FV
  | n :: ns, f :: fs, y => if n = y then some f else getFV ns fs y
  | _, _, _ => none
def getD : List Str → List D → Str → Option D
  | n :: ns, f :: fs, y => if n = y then some f else getD ns fs y
  | _, _, _ => none
def AV.view : AV → Env → Option D
  | .d x, _ => some x
  | .o w, _ => w.view
  | .s j, ρ => match ρ[j]? with
    | some (some (.d x)) => some x
    | some (some (.o w)) => w.view
    | _ => none
  | .g j y, ρ => match ρ[j]? with
    | some (some (.o (.i _ ns fs))) => (match getFV ns fs y with
      | some (.d x) => some x
      | some (.o w) => w.view
      | none => none)
    | _ => none

section
variable (K : PySem.W.Frag) (mg : Str → Option Value)
/-- d as it is seen: the topmost list or dict stands in H, all within in F -/
def RepT (F H : Hp) : D → V → Prop
  | .lst ds, v => ∃ a vs, v = .ref a ∧ H a = some (.lst vs) ∧ Reps K mg F ds vs
  | .dic t ks xs, v => ∃ a o us, v = .ref a ∧ (H a = some o ∨ ∃ ob, H a = some (.frz ob o)) ∧ DicO t o ks us ∧ Reps K mg F xs us
  | d, v => Rep K mg F d v
/-- new things alone -/
structure Grow (F H F' H' : Hp) : Prop where
  mono : Mono F F'
  keep : Mono H H'
  sub : Sub F' H'
  frz : ∀ a o, F' a = some o → F a = some o ∨ H a = none
def RepG (F' H H' : Hp) : AV → V → Prop
  | .d x, v => Rep K mg F' x v
  | .o w, v => ∃ a fp, v = .ref a ∧ RepO K mg F' H' w a fp ∧ fp.Nodup ∧ ∀ x ∈ fp, H x = none
  | _, _ => False
/-- what a rule of values is to give -/
def GP (F H : Hp) (r : Option AV) (Q : VK) : Prop := match r with
  | some av => ∀ v F' H', Grow F H F' H' → RepG K mg F' H H' av v → Q v H'
  | none => False
end
section
variable {K : PySem.W.Frag} {mg : Str → Option Value} {T : Tp} {W : WX} {ρ ρ1 : Env} {σ : L2.St} {F F' H H' : Hp} {fps : Fps} {N : Addr → Prop}
theorem DicO.dic : ∀ {t : Bool} {o : HO} {ks us}, DicO t o ks us → isDic o = true
  | false, _, _, _, ⟨_, e, _⟩ => by rw [e]; rfl
  | true, _, _, _, ⟨_, e, _⟩ => by rw [e]; rfl
theorem Rep.top (s : Sub F H) {d : D} {v : V} (h : Rep K mg F d v) : RepT K mg F H d v := by
  cases d with
  | lst ds =>
    obtain ⟨a, vs, e, h1, h2⟩ := h
    exact ⟨a, vs, e, s.lst h1, h2⟩
  | dic t ks xs =>
    obtain ⟨a, o, us, e, h1, h2, h3⟩ := h
    refine ⟨a, o, us, e, ?_, h2, h3⟩
    rcases s.at_ a o h1 with z | ⟨_, z⟩
    · exact .inl z
    · exact .inr z
  | _ => exact h
theorem RepW.top {w : W0} {a : Addr} {fp : List Addr} {d : D} (h : RepW K mg F H w a fp) (e : w.view = some d) : RepT K mg F H d (.ref a) := by
  cases w with
  | l ds =>
    cases e
    obtain ⟨rfl, h1, vs, h2, h3⟩ := h
    exact ⟨a, vs, rfl, h2, h3⟩
  | m t ks xs =>
    cases e
    obtain ⟨rfl, h1, o, us, h2, h3, h4⟩ := h
    exact ⟨a, o, us, rfl, .inl h2, h3, h4⟩
  | ll rows => cases e
theorem RepO.top {w : Own} {a : Addr} {fp : List Addr} {d : D} (h : RepO K mg F H w a fp) (e : w.view = some d) : RepT K mg F H d (.ref a) := by
  cases w with
  | b w => exact RepW.top h e
  | i c ns fs => cases e
/-- a field's content, by its name -/
theorem RepFs.at {y : Str} {v : V} : ∀ {fs : List FV} {vfs : List (Str × V)} {fp : List Addr}, RepFs K mg F H fs (vfs.map (·.2)) fp → vfs.lookup y = some v → ∃ f, getFV (vfs.map (·.1)) fs y = some f ∧
    (match f with
      | .d x => Rep K mg F x v
      | .o w => ∃ a f1, v = .ref a ∧ RepW K mg F H w a f1 ∧ ∀ z ∈ f1, z ∈ fp)
  | [], vfs, fp, h, e => by
    have : vfs = [] := by simpa using h.1
    rw [this] at e; cases e
  | .d x :: r, vfs, fp, h, e => by
    obtain ⟨u, us, e1, h1, h2⟩ := h
    cases vfs with
    | nil => cases e1
    | cons p vfs =>
      obtain ⟨n, u'⟩ := p
      simp only [List.map_cons, List.cons.injEq] at e1
      obtain ⟨rfl, rfl⟩ := e1
      rw [List.lookup_cons] at e
      cases hb : y == n with
      | true =>
        rw [hb] at e; cases e
        have : y = n := by simpa using hb
        subst this
        exact ⟨.d x, by simp [getFV], h1⟩
      | false =>
        rw [hb] at e
        obtain ⟨f, q1, q2⟩ := RepFs.at h2 e
        have hn : ¬ n = y := by rintro rfl; simp at hb
        exact ⟨f, by simp [getFV, hn, q1], q2⟩
  | .o w :: r, vfs, fp, h, e => by
    obtain ⟨a, us, f1, f2, e1, rfl, h1, h2⟩ := h
    cases vfs with
    | nil => cases e1
    | cons p vfs =>
      obtain ⟨n, u'⟩ := p
      simp only [List.map_cons, List.cons.injEq] at e1
      obtain ⟨rfl, rfl⟩ := e1
      rw [List.lookup_cons] at e
      cases hb : y == n with
      | true =>
        rw [hb] at e; cases e
        have : y = n := by simpa using hb
        subst this
        exact ⟨.o w, by simp [getFV], a, f1, rfl, h1, fun z hz => List.mem_append_left _ hz⟩
      | false =>
        rw [hb] at e
        obtain ⟨f, q1, q2⟩ := RepFs.at h2 e
        have hn : ¬ n = y := by rintro rfl; simp at hb
        refine ⟨f, by simp [getFV, hn, q1], ?_⟩
        cases f with
        | d x => exact q2
        | o w' =>
          obtain ⟨a', f', q3, q4, q5⟩ := q2
          exact ⟨a', f', q3, q4, fun z hz => List.mem_append_right _ (q5 z hz)⟩
theorem AV.view_ok {av : AV} {v : V} {d : D} (ok : Ok K mg ρ σ F H fps) (ra : RepA K mg T N σ F H fps av v) (e : av.view ρ = some d) : RepT K mg F H d v := by
  cases av with
  | d x => cases e; exact Rep.top ok.sub ra
  | o w =>
    obtain ⟨a, fp, rfl, h, _⟩ := ra
    exact h.top e
  | s j =>
    unfold AV.view at e
    dsimp only at e
    split at e
    · rename_i x hx
      cases e
      obtain ⟨u, hu, r⟩ := ok.slot j _ hx
      have : σ[j]? = some (some v) := ra
      rw [this] at hu; cases hu
      exact Rep.top ok.sub r.1
    · rename_i w hx
      obtain ⟨u, hu, r⟩ := ok.slot j _ hx
      have : σ[j]? = some (some v) := ra
      rw [this] at hu; cases hu
      obtain ⟨a, rfl, h, _⟩ := r
      exact h.top e
    · cases e
  | g j y =>
    unfold AV.view at e
    dsimp only at e
    split at e
    · rename_i c ns fs hx
      obtain ⟨u, hu, r⟩ := ok.slot j _ hx
      obtain ⟨_, a, C, dx, vfs, h1, h2, h3⟩ := ra
      rw [h1] at hu; cases hu
      obtain ⟨a', e', h, _⟩ := r
      cases e'
      obtain ⟨C', dx', vfs', fp', _, _, _, h4, h5, h6⟩ := h
      rw [h2] at h4; cases h4
      obtain ⟨f, q1, q2⟩ := h6.at h3
      rw [h5] at q1
      rw [q1] at e
      cases f with
      | d x => cases e; exact Rep.top ok.sub q2
      | o w =>
        obtain ⟨b, f1, rfl, q3, _⟩ := q2
        exact q3.top e
    · cases e
theorem Grow.refl (s : Sub F H) : Grow F H F H := ⟨.refl F, .refl H, s, fun _ _ h => .inl h⟩
theorem Grow.ok (g : Grow F H F' H') (ok : Ok K mg ρ σ F H fps) : Ok K mg ρ σ F' H' fps := by
  refine ⟨g.sub, ok.len, fun i sv h => ?_, ok.non, ok.sep⟩
  obtain ⟨v, e, r⟩ := ok.slot i sv h
  refine ⟨v, e, r.frame g.mono fun x hx => ?_⟩
  obtain ⟨f0, o, ho⟩ := r.out x hx
  refine ⟨?_, by rw [g.keep x o ho, ho]⟩
  cases q : F' x with
  | none => rfl
  | some o' =>
    rcases g.frz x o' q with z | z
    · rw [f0] at z; cases z
    · rw [ho] at z; cases z
theorem Grow.tr (g : Grow F H F' H') (ok : Ok K mg ρ σ F H fps) : Tr K mg T σ F H fps ρ σ F' H' fps :=
  ⟨g.ok ok, g.mono, fun a o h _ => g.keep a o h, fun a o h => (g.frz a o h).imp id .inr, fun _ h => .inl h, fun _ _ => rfl, fun _ _ dx fs h => ⟨dx, fs, g.keep _ _ h, fun _ _ => rfl⟩⟩
theorem RepG.repA {av : AV} {v : V} (ok : Ok K mg ρ σ F H fps) (h : RepG K mg F' H H' av v) : RepA K mg T (NewTo fps H) σ F' H' fps av v := by
  cases av with
  | d x => exact h
  | o w =>
    obtain ⟨a, fp, e, h1, h2, h3⟩ := h
    refine ⟨a, fp, e, h1, h2, fun x hx z => ?_, fun x hx => .inr (h3 x hx)⟩
    obtain ⟨_, o, ho⟩ := ok.inF z
    rw [h3 x hx] at ho; cases ho
  | s j => exact h.elim
  | g j y => exact h.elim
/-- a rule of values within a state -/
theorem GP.of_px (ok : Ok K mg ρ σ F H fps) {r : Option AV} {Q : VK} (h : PX K mg T W σ F H fps ((Out.of r).bind fun z => .ok (z, ρ)) Q) : GP K mg F H r Q := by
  cases r with
  | none => exact h
  | some av => exact fun v F' H' g rg => h v F' H' fps (g.tr ok) (rg.repA ok)
theorem GP.same {x : D} {v : V} {Q : VK} (s : Sub F H) (h : GP K mg F H (some (.d x)) Q) (r : Rep K mg F x v) : Q v H := h v F H (.refl s) r
theorem grow_new {p : Addr} {o : HO} (s : Sub F H) (hp : H p = none) (hd : isDic o = false ∨ True) : Grow F H (upd F p o) (upd H p o) ∧ F p = none := by
  have f0 : F p = none := by
    cases q : F p with
    | none => rfl
    | some u =>
      rcases s.at_ p u q with z | ⟨_, ob, z⟩
      · rw [hp] at z; cases z
      · rw [hp] at z; cases z
  refine ⟨⟨fun a u h => by rw [upd_ne (ne_of_none h f0)]; exact h, fun a u h => by rw [upd_ne (ne_of_none h hp)]; exact h, ⟨fun a u h => ?_, fun a xs h => ?_⟩, fun a u h => ?_⟩, f0⟩
  · by_cases e : a = p
    · subst e; rw [upd_same] at h ⊢; exact .inl h
    · rw [upd_ne e] at h ⊢; exact s.at_ a u h
  · by_cases e : a = p
    · subst e; rw [upd_same] at h ⊢; exact h
    · rw [upd_ne e] at h ⊢; exact s.tups a xs h
  · by_cases e : a = p
    · subst e; exact .inr hp
    · rw [upd_ne e] at h; exact .inl h
theorem grow_own {p : Addr} {o : HO} (s : Sub F H) (hp : H p = none) (ho : ∀ xs, o ≠ .tup xs := by intro _ z; cases z) : Grow F H F (upd H p o) ∧ F p = none := by
  have f0 : F p = none := by
    cases q : F p with
    | none => rfl
    | some u =>
      rcases s.at_ p u q with z | ⟨_, ob, z⟩
      · rw [hp] at z; cases z
      · rw [hp] at z; cases z
  refine ⟨⟨.refl F, fun a u h => by rw [upd_ne (ne_of_none h hp)]; exact h, ⟨fun a u h => ?_, fun a xs h => ?_⟩, fun a u h => .inl h⟩, f0⟩
  · have e : a ≠ p := ne_of_none h f0
    rw [upd_ne e]; exact s.at_ a u h
  · by_cases e : a = p
    · subst e; rw [upd_same] at h; cases h; exact absurd rfl (ho xs)
    · rw [upd_ne e] at h; exact s.tups a xs h
/-- a new tuple -/
theorem GP.tup {ds : List D} {vs : List V} {p : Addr} {Q : VK} (s : Sub F H) (h : GP K mg F H (some (.d (.tup ds))) Q) (r : Reps K mg F ds vs) (hp : H p = none) : Q (.ref p) (upd H p (.tup vs)) := by
  obtain ⟨g, f0⟩ := grow_new (o := .tup vs) s hp (.inr trivial)
  exact h _ _ _ g ⟨p, vs, rfl, upd_same, r.mono g.mono⟩
/-- a new list -/
theorem GP.lst {ds : List D} {vs : List V} {p : Addr} {Q : VK} (s : Sub F H) (h : GP K mg F H (some (.o (.b (.l ds)))) Q) (r : Reps K mg F ds vs) (hp : H p = none) : Q (.ref p) (upd H p (.lst vs)) := by
  obtain ⟨g, f0⟩ := grow_own (o := .lst vs) s hp
  exact h _ _ _ g ⟨p, [p], rfl, ⟨rfl, f0, vs, upd_same, r⟩, by simp, fun x hx => by rw [List.mem_singleton.mp hx]; exact hp⟩
end
end J
namespace J
open PySem PySem.Spec PyProof.Rows L2

mutual
def D.pd : D → PyData
  | .non => .none
  | .bl b => .bool b
  | .int i => .int i
  | .str x => .str x
  | .tup xs => .tuple (pds xs)
  | .wtp xs => .tuple (pds xs)
  | .lst xs => .list (pds xs)
  | .scr xs => .list (pds xs)
  | .dic _ _ _ => .dict []
  | .ins _ _ _ => .dict []
def pds : List D → List PyData
  | [] => []
  | x :: xs => x.pd :: pds xs
end
/- == -/
mutual
def eqD : D → D → Bool
  | .non, .non => true
  | .bl a, .bl b => a == b
  | .bl a, .int j => (if a then 1 else 0) == j
  | .int i, .bl b => i == (if b then 1 else 0)
  | .int i, .int j => i == j
  | .str x, .str y => x == y
  | .tup xs, .tup ys => eqDs xs ys
  | .tup xs, .wtp ys => eqDs xs ys
  | .wtp xs, .tup ys => eqDs xs ys
  | .wtp xs, .wtp ys => eqDs xs ys
  | .lst xs, .lst ys => eqDs xs ys
  | _, _ => false
def eqDs : List D → List D → Bool
  | [], [] => true
  | x :: xs, y :: ys => eqD x y && eqDs xs ys
  | _, _ => false
end
/- data that may be compared, nested at most n deep -/
mutual
def okN : Nat → D → Bool
  | _, .non => true
  | _, .bl _ => true
  | _, .int _ => true
  | _, .str x => PyData.strOk x
  | n + 1, .tup xs => okNs n xs
  | n + 1, .wtp xs => okNs n xs
  | n + 1, .lst xs => okNs n xs
  | _, _ => false
def okNs : Nat → List D → Bool
  | _, [] => true
  | n, x :: xs => okN n x && okNs n xs
end
mutual
theorem okN_lay : ∀ (n : Nat) (d : D), okN n d = true → d.pd.canLay0 = true ∧ d.pd.depth ≤ n
  | n, .non, _ => by simp [D.pd, PyData.canLay0, PyData.depth]
  | n, .bl _, _ => by simp [D.pd, PyData.canLay0, PyData.depth]
  | n, .int _, _ => by simp [D.pd, PyData.canLay0, PyData.depth]
  | n, .str x, h => by
    simp [okN] at h
    simp [D.pd, PyData.canLay0, PyData.depth, h]
  | 0, .tup xs, h => by simp [okN] at h
  | n + 1, .tup xs, h => by
    simp only [okN] at h
    obtain ⟨h1, h2⟩ := okNs_lay n xs h
    simp only [D.pd, PyData.canLay0, PyData.depth]
    exact ⟨h1, by omega⟩
  | 0, .wtp xs, h => by simp [okN] at h
  | n + 1, .wtp xs, h => by
    simp only [okN] at h
    obtain ⟨h1, h2⟩ := okNs_lay n xs h
    simp only [D.pd, PyData.canLay0, PyData.depth]
    exact ⟨h1, by omega⟩
  | 0, .lst xs, h => by simp [okN] at h
  | n + 1, .lst xs, h => by
    simp only [okN] at h
    obtain ⟨h1, h2⟩ := okNs_lay n xs h
    simp only [D.pd, PyData.canLay0, PyData.depth]
    exact ⟨h1, by omega⟩
  | 0, .scr _, h => by simp [okN] at h
  | _ + 1, .scr _, h => by simp [okN] at h
  | 0, .dic _ _ _, h => by simp [okN] at h
  | _ + 1, .dic _ _ _, h => by simp [okN] at h
  | 0, .ins _ _ _, h => by simp [okN] at h
  | _ + 1, .ins _ _ _, h => by simp [okN] at h
theorem okNs_lay : ∀ (n : Nat) (ds : List D), okNs n ds = true → PyData.canLayAll0 (pds ds) = true ∧ PyData.depthAll (pds ds) ≤ n
  | n, [], _ => by simp [pds, PyData.canLayAll0, PyData.depthAll]
  | n, x :: xs, h => by
    simp only [okNs, Bool.and_eq_true] at h
    obtain ⟨h1, h2⟩ := okN_lay n x h.1
    obtain ⟨h3, h4⟩ := okNs_lay n xs h.2
    simp only [pds, PyData.canLayAll0, PyData.depthAll, Bool.and_eq_true]
    exact ⟨⟨h1, h3⟩, by omega⟩
end
theorem okN_shaped {d : D} (h : okN 64 d = true) : SeqAt.shaped d.pd = true := by
  obtain ⟨h1, h2⟩ := okN_lay 64 d h
  unfold SeqAt.shaped
  rw [h1, decide_eq_true h2]; rfl
mutual
theorem eqD_pd : ∀ (x y : D) (n m : Nat), okN n x = true → okN m y = true → PyData.eqv x.pd y.pd = eqD x y
  | .tup xs, y, n, m, hx, hy => by
    cases n with
    | zero => simp [okN] at hx
    | succ n =>
      cases y with
      | tup ys =>
        cases m with
        | zero => simp [okN] at hy
        | succ m =>
          simp only [okN] at hx hy
          simp only [D.pd, PyData.eqv, eqD]
          exact eqDs_pd xs ys n m hx hy
      | wtp ys =>
        cases m with
        | zero => simp [okN] at hy
        | succ m =>
          simp only [okN] at hx hy
          simp only [D.pd, PyData.eqv, eqD]
          exact eqDs_pd xs ys n m hx hy
      | scr _ => cases m <;> simp [okN] at hy
      | dic _ _ _ => cases m <;> simp [okN] at hy
      | ins _ _ _ => cases m <;> simp [okN] at hy
      | _ => simp [D.pd, PyData.eqv, eqD]
  | .wtp xs, y, n, m, hx, hy => by
    cases n with
    | zero => simp [okN] at hx
    | succ n =>
      cases y with
      | tup ys =>
        cases m with
        | zero => simp [okN] at hy
        | succ m =>
          simp only [okN] at hx hy
          simp only [D.pd, PyData.eqv, eqD]
          exact eqDs_pd xs ys n m hx hy
      | wtp ys =>
        cases m with
        | zero => simp [okN] at hy
        | succ m =>
          simp only [okN] at hx hy
          simp only [D.pd, PyData.eqv, eqD]
          exact eqDs_pd xs ys n m hx hy
      | scr _ => cases m <;> simp [okN] at hy
      | dic _ _ _ => cases m <;> simp [okN] at hy
      | ins _ _ _ => cases m <;> simp [okN] at hy
      | _ => simp [D.pd, PyData.eqv, eqD]
  | .lst xs, y, n, m, hx, hy => by
    cases n with
    | zero => simp [okN] at hx
    | succ n =>
      cases y with
      | lst ys =>
        cases m with
        | zero => simp [okN] at hy
        | succ m =>
          simp only [okN] at hx hy
          simp only [D.pd, PyData.eqv, eqD]
          exact eqDs_pd xs ys n m hx hy
      | scr _ => cases m <;> simp [okN] at hy
      | dic _ _ _ => cases m <;> simp [okN] at hy
      | ins _ _ _ => cases m <;> simp [okN] at hy
      | _ => simp [D.pd, PyData.eqv, eqD]
  | .non, y, n, m, hx, hy => by
    cases y with
    | scr _ => cases m <;> simp [okN] at hy
    | dic _ _ _ => cases m <;> simp [okN] at hy
    | ins _ _ _ => cases m <;> simp [okN] at hy
    | _ => simp [D.pd, PyData.eqv, eqD]
  | .bl b, y, n, m, hx, hy => by
    cases y with
    | scr _ => cases m <;> simp [okN] at hy
    | dic _ _ _ => cases m <;> simp [okN] at hy
    | ins _ _ _ => cases m <;> simp [okN] at hy
    | _ => simp [D.pd, PyData.eqv, eqD]
  | .int i, y, n, m, hx, hy => by
    cases y with
    | scr _ => cases m <;> simp [okN] at hy
    | dic _ _ _ => cases m <;> simp [okN] at hy
    | ins _ _ _ => cases m <;> simp [okN] at hy
    | _ => simp [D.pd, PyData.eqv, eqD]
  | .str x, y, n, m, hx, hy => by
    cases y with
    | scr _ => cases m <;> simp [okN] at hy
    | dic _ _ _ => cases m <;> simp [okN] at hy
    | ins _ _ _ => cases m <;> simp [okN] at hy
    | _ => simp [D.pd, PyData.eqv, eqD]
  | .scr _, _, n, _, hx, _ => by cases n <;> simp [okN] at hx
  | .dic _ _ _, _, n, _, hx, _ => by cases n <;> simp [okN] at hx
  | .ins _ _ _, _, n, _, hx, _ => by cases n <;> simp [okN] at hx
theorem eqDs_pd : ∀ (xs ys : List D) (n m : Nat), okNs n xs = true → okNs m ys = true → PyData.eqvAll (pds xs) (pds ys) = eqDs xs ys
  | [], ys, n, m, _, _ => by cases ys <;> simp [pds, PyData.eqvAll, eqDs]
  | x :: xs, [], n, m, _, _ => by simp [pds, PyData.eqvAll, eqDs]
  | x :: xs, y :: ys, n, m, hx, hy => by
    simp only [okNs, Bool.and_eq_true] at hx hy
    simp only [pds, PyData.eqvAll, eqDs]
    rw [eqD_pd x y n m hx.1 hy.1, eqDs_pd xs ys n m hx.2 hy.2]
end
theorem any_pd {y : D} {m : Nat} (hy : okN m y = true) : ∀ (xs : List D) (n : Nat), okNs n xs = true → ((pds xs).any fun z => PyData.eqv z y.pd) = xs.any fun z => eqD z y
  | [], _, _ => rfl
  | x :: xs, n, h => by
    simp only [okNs, Bool.and_eq_true] at h
    simp only [pds, List.any_cons]
    rw [eqD_pd x y n m h.1 hy, any_pd hy xs n h.2]

section
variable {K : PySem.W.Frag} {mg : Str → Option Value} {F H : Hp}
mutual
theorem Rep.dp (s : Sub F H) : ∀ (n : Nat) (d : D) (v : V), okN n d = true → Rep K mg F d v → Dp K H v d.pd
  | _, .non, v, _, h => by rw [show v = .non from h]; exact .non
  | _, .bl b, v, _, h => by rw [show v = .bl b from h]; exact .bl b
  | _, .int i, v, _, h => by rw [show v = .int i from h]; exact .int i
  | _, .str x, v, _, h => by rw [show v = .str x from h]; exact .str x
  | n + 1, .tup ds, v, ho, h => by
    obtain ⟨a, vs, rfl, h1, h2⟩ := h
    simp only [okN] at ho
    exact .tup (.of (s.tup h1)) (Reps.dp s n ds vs ho h2)
  | n + 1, .wtp ds, v, ho, h => by
    obtain ⟨a, vs, rfl, h1, h2⟩ := h
    simp only [okN] at ho
    exact .tup (sqT_sub s h1) (Reps.dp s n ds vs ho h2)
  | n + 1, .lst ds, v, ho, h => by
    obtain ⟨a, vs, rfl, h1, h2⟩ := h
    simp only [okN] at ho
    exact .lst (.of (s.lst h1)) (Reps.dp s n ds vs ho h2)
  | 0, .tup _, _, ho, _ => by simp [okN] at ho
  | 0, .wtp _, _, ho, _ => by simp [okN] at ho
  | 0, .lst _, _, ho, _ => by simp [okN] at ho
  | 0, .scr _, _, ho, _ => by simp [okN] at ho
  | _ + 1, .scr _, _, ho, _ => by simp [okN] at ho
  | 0, .dic _ _ _, _, ho, _ => by simp [okN] at ho
  | _ + 1, .dic _ _ _, _, ho, _ => by simp [okN] at ho
  | 0, .ins _ _ _, _, ho, _ => by simp [okN] at ho
  | _ + 1, .ins _ _ _, _, ho, _ => by simp [okN] at ho
theorem Reps.dp (s : Sub F H) : ∀ (n : Nat) (ds : List D) (vs : List V), okNs n ds = true → Reps K mg F ds vs → DpAll K H vs (pds ds)
  | _, [], vs, _, h => by rw [show vs = [] from h]; exact .nil
  | n, d :: ds, vs, ho, h => by
    obtain ⟨v, r, rfl, h1, h2⟩ := h
    simp only [okNs, Bool.and_eq_true] at ho
    exact .cons (Rep.dp s n d v ho.1 h1) (Reps.dp s n ds r ho.2 h2)
end
theorem RepT.dp (s : Sub F H) {n : Nat} {d : D} {v : V} (ho : okN n d = true) (h : RepT K mg F H d v) : Dp K H v d.pd := by
  cases d with
  | lst ds =>
    obtain ⟨a, vs, rfl, h1, h2⟩ := h
    cases n with
    | zero => simp [okN] at ho
    | succ n =>
      simp only [okN] at ho
      exact .lst (.of h1) (Reps.dp s n ds vs ho h2)
  | dic t ks xs => cases n <;> simp [okN] at ho
  | _ => exact Rep.dp (mg := mg) s n _ v ho h
end

abbrev lim : Nat := 16777216
theorem lim_eq : lim = sizeLine := sizeLine_eq.symm
def addD : D → D → Option AV
  | .int a, .int b => some (.d (.int (a + b)))
  | .int a, .bl k => some (.d (.int (a + b2i k)))
  | .str x, .str y => if x.length + y.length ≤ lim then some (.d (.str (x ++ y))) else none
  | .lst xs, .lst ys => if xs.length + ys.length ≤ lim then some (.o (.b (.l (xs ++ ys)))) else none
  | .tup xs, .tup ys => if xs.length + ys.length ≤ lim then some (.d (.tup (xs ++ ys))) else none
  | .tup xs, .wtp ys => if xs.length + ys.length ≤ lim ∧ ys ≠ [] ∧ xs ≠ [] then some (.d (.tup (xs ++ ys))) else none
  | .wtp xs, .tup ys => if xs.length + ys.length ≤ lim ∧ ys ≠ [] ∧ xs ≠ [] then some (.d (.tup (xs ++ ys))) else none
  | _, _ => none
def tupl : D → Option (List D)
  | .tup xs => some xs
  | .wtp xs => some xs
  | _ => none
def subD : D → D → Option AV
  | .int a, .int b => some (.d (.int (a - b)))
  | _, _ => none
def mulD : D → D → Option AV
  | .int a, .int b => if (-(2 ^ 64) < a ∧ a < 2 ^ 64) ∨ (-(2 ^ 64) < b ∧ b < 2 ^ 64) then some (.d (.int (a * b))) else none
  | .lst xs, .int k => if -(2 ^ 63) ≤ k ∧ k < 2 ^ 63 ∧ xs.length * k.toNat ≤ lim then some (.o (.b (.l (List.replicate k.toNat xs).flatten))) else none
  | .tup xs, .int k => if xs ≠ [] ∧ 2 ≤ k ∧ k ≤ 1000 ∧ xs.length ≤ 1000 then some (.d (.tup (List.replicate k.toNat xs).flatten)) else none
  | _, _ => none
def fdivD : D → D → Option AV
  | .int a, .int b => if 0 < b ∧ b < 1073741824 then some (.d (.int (a / b))) else none
  | _, _ => none
def modD : D → D → Option AV
  | .int a, .int b => if 0 < b then some (.d (.int (a % b))) else none
  | _, _ => none
def powD : D → D → Option AV
  | .int a, .int b => if 0 ≤ b ∧ b ≤ 1000000 ∧ a.natAbs < 2 ^ 64 then some (.d (.int (a ^ b.toNat))) else none
  | _, _ => none
def shlD : D → D → Option AV
  | .int a, .int b => if 0 ≤ b ∧ b ≤ 1000000 ∧ a.natAbs < 2 ^ 64 then some (.d (.int (a * 2 ^ b.toNat))) else none
  | _, _ => none
def shrD : D → D → Option AV
  | .int a, .int b => if 0 ≤ b then some (.d (.int (a / 2 ^ b.toNat))) else none
  | _, _ => none
def andD : D → D → Option AV
  | .int a, .int b => some (.d (.int (Builtin.bitAnd a b)))
  | _, _ => none
def orD : D → D → Option AV
  | .int a, .int b => some (.d (.int (Builtin.bitOr a b)))
  | _, _ => none
def eqV' (x y : D) : Option AV := if okN 64 x && okN 64 y then some (.d (.bl (eqD x y))) else none
def neV' (x y : D) : Option AV := if okN 64 x && okN 64 y then some (.d (.bl (!eqD x y))) else none
def allInt : List D → Option (List Int)
  | [] => some []
  | .int i :: r => (allInt r).map (i :: ·)
  | _ => none
def ltD : D → D → Option AV
  | .int a, .int b => some (.d (.bl (decide (a < b))))
  | .str x, .str y => some (.d (.bl (decide (x.cps.toList < y.cps.toList))))
  | x, y => match (tupl x).bind allInt, (tupl y).bind allInt with
    | some ns, some ms => some (.d (.bl (HT.lexLt ns ms)))
    | _, _ => none
def leD : D → D → Option AV
  | .int a, .int b => some (.d (.bl (decide (a ≤ b))))
  | _, _ => none
def gtD : D → D → Option AV
  | .int a, .int b => some (.d (.bl (decide (b < a))))
  | _, _ => none
def geD : D → D → Option AV
  | .int a, .int b => some (.d (.bl (decide (b ≤ a))))
  | _, _ => none
theorem allInt_some : ∀ {xs : List D} {ns : List Int}, allInt xs = some ns → xs = ns.map D.int
  | [], ns, h => by simp [allInt] at h; subst h; rfl
  | .int i :: r, ns, h => by
    simp only [allInt, Option.map_eq_some_iff] at h
    obtain ⟨ms, h1, rfl⟩ := h
    rw [allInt_some h1]; rfl
  | .non :: _, _, h => by simp [allInt] at h
  | .bl _ :: _, _, h => by simp [allInt] at h
  | .str _ :: _, _, h => by simp [allInt] at h
  | .tup _ :: _, _, h => by simp [allInt] at h
  | .wtp _ :: _, _, h => by simp [allInt] at h
  | .lst _ :: _, _, h => by simp [allInt] at h
  | .scr _ :: _, _, h => by simp [allInt] at h
  | .dic _ _ _ :: _, _, h => by simp [allInt] at h
  | .ins _ _ _ :: _, _, h => by simp [allInt] at h
@[simp] theorem allInt_map : ∀ (ns : List Int), allInt (ns.map D.int) = some ns
  | [] => rfl
  | n :: ns => by simp [allInt, allInt_map ns]

/-- an operation's rule gives what g reckons -/
def Op2 (K : PySem.W.Frag) (mg : Str → Option Value) (r : R2) (g : D → D → Option AV) : Prop :=
  ∀ (F H : Hp) (x y : V) (dx dy : D) (Q : VK), Sub F H → RepT K mg F H dx x → RepT K mg F H dy y → GP K mg F H (g dx dy) Q → r x y H Q
section
variable {K : PySem.W.Frag} {mg : Str → Option Value} {F H : Hp}
theorem GP.none {Q : VK} {P : Prop} (h : GP K mg F H none Q) : P := False.elim h
theorem op2_add : Op2 K mg (fun x y H Q => (rI0 fun i j => .int (i + j)) x y H Q ∨ (∃ i k, x = .int i ∧ y = .bl k ∧ Q (.int (i + b2i k)) H) ∨ (∃ i j, x = .str i ∧ y = .str j ∧ i.length + j.length ≤ sizeLine ∧ Q (.str (i ++ j)) H) ∨ rCatA K x y H Q ∨ rCat x y H Q) addD := by
  intro F H x y dx dy Q s hx hy h
  unfold addD at h
  split at h
  · rename_i a b
    rw [show x = .int a from hx, show y = .int b from hy]
    exact .inl ⟨a, b, rfl, rfl, h.same s rfl⟩
  · rename_i a k
    rw [show x = .int a from hx, show y = .bl k from hy]
    exact .inr (.inl ⟨a, k, rfl, rfl, h.same s rfl⟩)
  · rename_i a b
    rw [show x = .str a from hx, show y = .str b from hy]
    split at h
    · rename_i hl
      rw [lim_eq] at hl
      exact .inr (.inr (.inl ⟨a, b, rfl, rfl, hl, h.same s rfl⟩))
    · exact h.none
  · rename_i xs ys
    obtain ⟨a, vs, rfl, h1, h2⟩ := hx
    obtain ⟨b, ws, rfl, h3, h4⟩ := hy
    split at h
    · rename_i hl
      rw [lim_eq] at hl
      exact .inr (.inr (.inr (.inr ⟨a, b, vs, ws, rfl, rfl, h1, h3, by rw [← h2.length, ← h4.length]; exact hl, fun p hp => h.lst s (h2.append h4) hp⟩)))
    · exact h.none
  · rename_i xs ys
    obtain ⟨a, vs, rfl, h1, h2⟩ := hx
    obtain ⟨b, ws, rfl, h3, h4⟩ := hy
    split at h
    · rename_i hl
      rw [lim_eq] at hl
      have r := h2.append h4
      refine .inr (.inr (.inr (.inl ⟨a, b, vs, ws, rfl, rfl, .of (s.tup h1), .of (s.tup h3), by rw [← h2.length, ← h4.length]; exact hl, fun e => ?_, fun _ e => ?_, fun _ _ p hp => h.tup s r hp⟩)))
      · subst e
        exact h.same s ⟨b, ws, rfl, h3, by simpa using r⟩
      · subst e
        exact h.same s ⟨a, vs, rfl, h1, by simpa using r⟩
    · exact h.none
  · rename_i xs ys
    obtain ⟨a, vs, rfl, h1, h2⟩ := hx
    obtain ⟨b, ws, rfl, h3, h4⟩ := hy
    split at h
    · rename_i hl
      obtain ⟨hl, n1, n2⟩ := hl
      rw [lim_eq] at hl
      have r := h2.append h4
      refine .inr (.inr (.inr (.inl ⟨a, b, vs, ws, rfl, rfl, .of (s.tup h1), sqT_sub s h3, by rw [← h2.length, ← h4.length]; exact hl, fun e => ?_, fun _ e => ?_, fun _ _ p hp => h.tup s r hp⟩)))
      · subst e
        exact absurd (List.length_eq_zero_iff.mp h2.length) n2
      · subst e
        exact absurd (List.length_eq_zero_iff.mp h4.length) n1
    · exact h.none
  · rename_i xs ys
    obtain ⟨a, vs, rfl, h1, h2⟩ := hx
    obtain ⟨b, ws, rfl, h3, h4⟩ := hy
    split at h
    · rename_i hl
      obtain ⟨hl, n1, n2⟩ := hl
      rw [lim_eq] at hl
      have r := h2.append h4
      refine .inr (.inr (.inr (.inl ⟨a, b, vs, ws, rfl, rfl, sqT_sub s h1, .of (s.tup h3), by rw [← h2.length, ← h4.length]; exact hl, fun e => ?_, fun _ e => ?_, fun _ _ p hp => h.tup s r hp⟩)))
      · subst e
        exact absurd (List.length_eq_zero_iff.mp h2.length) n2
      · subst e
        exact absurd (List.length_eq_zero_iff.mp h4.length) n1
    · exact h.none
  · exact h.none
theorem op2_sub : Op2 K mg (rI0 fun i j => .int (i - j)) subD := by
  intro F H x y dx dy Q s hx hy h
  unfold subD at h
  split at h
  · rename_i a b
    rw [show x = .int a from hx, show y = .int b from hy]
    exact ⟨a, b, rfl, rfl, h.same s rfl⟩
  · exact h.none
theorem Reps.flat {ds : List D} {vs : List V} (h : Reps K mg F ds vs) : ∀ n : Nat, Reps K mg F (List.replicate n ds).flatten (List.replicate n vs).flatten
  | 0 => .nil
  | n + 1 => by
    rw [List.replicate_succ, List.replicate_succ, List.flatten_cons, List.flatten_cons]
    exact h.append (Reps.flat h n)
theorem op2_mul : Op2 K mg (fun x y H Q => (rI CMul fun i j => .int (i * j)) x y H Q ∨ rRep x y H Q ∨ rRepT K x y H Q) mulD := by
  intro F H x y dx dy Q s hx hy h
  unfold mulD at h
  split at h
  · rename_i a b
    rw [show x = .int a from hx, show y = .int b from hy]
    split at h
    · rename_i hl
      exact .inl ⟨a, b, rfl, rfl, hl, h.same s rfl⟩
    · exact h.none
  · rename_i xs k
    obtain ⟨a, vs, rfl, h1, h2⟩ := hx
    rw [show y = .int k from hy]
    split at h
    · rename_i hl
      rw [lim_eq] at hl
      exact .inr (.inl ⟨a, k, vs, rfl, rfl, h1, hl.1, hl.2.1, by rw [← h2.length]; exact hl.2.2, fun p hp => h.lst s (h2.flat _) hp⟩)
    · exact h.none
  · rename_i xs k
    obtain ⟨a, vs, rfl, h1, h2⟩ := hx
    rw [show y = .int k from hy]
    split at h
    · rename_i hl
      obtain ⟨l1, l2, l3, l4⟩ := hl
      refine .inr (.inr ⟨a, k, vs, rfl, rfl, .of (s.tup h1), fun e => ?_, l2, l3, by rw [← h2.length]; exact l4, fun p hp => h.tup s (h2.flat _) hp⟩)
      subst e
      exact l1 (List.length_eq_zero_iff.mp h2.length)
    · exact h.none
  · exact h.none
theorem op2_int {C : Int → Int → Prop} [∀ i j, Decidable (C i j)] {f : Int → Int → V} {fd : Int → Int → D} {g : D → D → Option AV} (hg : ∀ dx dy, g dx dy = (match dx, dy with | .int i, .int j => if C i j then some (.d (fd i j)) else none | _, _ => none))
    (hf : ∀ F i j, Rep K mg F (fd i j) (f i j)) : Op2 K mg (rI C f) g := by
  intro F H x y dx dy Q s hx hy h
  rw [hg] at h
  split at h
  · rename_i a b
    rw [show x = .int a from hx, show y = .int b from hy]
    split at h
    · rename_i hl
      exact ⟨a, b, rfl, rfl, hl, h.same s (hf F a b)⟩
    · exact h.none
  · exact h.none
theorem op2_int0 {f : Int → Int → V} {fd : Int → Int → D} {g : D → D → Option AV} (hg : ∀ dx dy, g dx dy = (match dx, dy with | .int i, .int j => some (.d (fd i j)) | _, _ => none))
    (hf : ∀ F i j, Rep K mg F (fd i j) (f i j)) : Op2 K mg (rI0 f) g := by
  intro F H x y dx dy Q s hx hy h
  rw [hg] at h
  split at h
  · rename_i a b
    rw [show x = .int a from hx, show y = .int b from hy]
    exact ⟨a, b, rfl, rfl, h.same s (hf F a b)⟩
  · exact h.none
instance (i j : Int) : Decidable (CDiv i j) := inferInstanceAs (Decidable (_ ∧ _))
instance (i j : Int) : Decidable (CPow i j) := inferInstanceAs (Decidable (_ ∧ _))
theorem op2_fdiv : Op2 K mg (rI CDiv fun i j => .int (i / j)) fdivD := op2_int (fd := fun i j => .int (i / j)) (fun dx dy => by cases dx <;> cases dy <;> rfl) fun _ _ _ => rfl
theorem op2_mod : Op2 K mg (rI (fun _ j => 0 < j) fun i j => .int (i % j)) modD := op2_int (fd := fun i j => .int (i % j)) (fun dx dy => by cases dx <;> cases dy <;> rfl) fun _ _ _ => rfl
theorem op2_pow : Op2 K mg (rI CPow fun i j => .int (i ^ j.toNat)) powD := op2_int (fd := fun i j => .int (i ^ j.toNat)) (fun dx dy => by cases dx <;> cases dy <;> rfl) fun _ _ _ => rfl
theorem op2_shl : Op2 K mg (rI CPow fun i j => .int (i * 2 ^ j.toNat)) shlD := op2_int (fd := fun i j => .int (i * 2 ^ j.toNat)) (fun dx dy => by cases dx <;> cases dy <;> rfl) fun _ _ _ => rfl
theorem op2_shr : Op2 K mg (rI (fun _ j => 0 ≤ j) fun i j => .int (i / 2 ^ j.toNat)) shrD := op2_int (fd := fun i j => .int (i / 2 ^ j.toNat)) (fun dx dy => by cases dx <;> cases dy <;> rfl) fun _ _ _ => rfl
theorem op2_and : Op2 K mg (rI0 fun i j => .int (Builtin.bitAnd i j)) andD := op2_int0 (fd := fun i j => .int (Builtin.bitAnd i j)) (fun dx dy => by cases dx <;> cases dy <;> rfl) fun _ _ _ => rfl
theorem op2_or : Op2 K mg (rI0 fun i j => .int (Builtin.bitOr i j)) orD := op2_int0 (fd := fun i j => .int (Builtin.bitOr i j)) (fun dx dy => by cases dx <;> cases dy <;> rfl) fun _ _ _ => rfl
theorem op2_le : Op2 K mg (rI0 fun i j => .bl (decide (i ≤ j))) leD := op2_int0 (fd := fun i j => .bl (decide (i ≤ j))) (fun dx dy => by cases dx <;> cases dy <;> rfl) fun _ _ _ => rfl
theorem op2_gt : Op2 K mg (rI0 fun i j => .bl (decide (j < i))) gtD := op2_int0 (fd := fun i j => .bl (decide (j < i))) (fun dx dy => by cases dx <;> cases dy <;> rfl) fun _ _ _ => rfl
theorem op2_ge : Op2 K mg (rI0 fun i j => .bl (decide (j ≤ i))) geD := op2_int0 (fd := fun i j => .bl (decide (j ≤ i))) (fun dx dy => by cases dx <;> cases dy <;> rfl) fun _ _ _ => rfl
theorem RepT.tupl (s : Sub F H) {d : D} {v : V} {xs : List D} (h : RepT K mg F H d v) (e : tupl d = some xs) : ∃ a vs, v = .ref a ∧ SqT K H a vs ∧ Reps K mg F xs vs := by
  cases d with
  | tup ys =>
    cases e
    obtain ⟨a, vs, rfl, h1, h2⟩ := h
    exact ⟨a, vs, rfl, .of (s.tup h1), h2⟩
  | wtp ys =>
    cases e
    obtain ⟨a, vs, rfl, h1, h2⟩ := h
    exact ⟨a, vs, rfl, sqT_sub s h1, h2⟩
  | _ => cases e
theorem tup_of (s : Sub F H) {d : D} {v : V} {ns : List Int} (h : RepT K mg F H d v) (e : (tupl d).bind allInt = some ns) : ∃ a vs, v = .ref a ∧ SqT K H a vs ∧ vs = ns.map V.int := by
  cases q : tupl d with
  | none => rw [q] at e; cases e
  | some xs =>
    rw [q] at e
    obtain ⟨a, vs, rfl, h1, h2⟩ := h.tupl s q
    have := allInt_some e
    subst this
    exact ⟨a, vs, rfl, h1, h2.ints⟩
theorem op2_lt : Op2 K mg (fun x y H Q => (rI0 fun i j => .bl (decide (i < j))) x y H Q ∨ (∃ i j, x = .str i ∧ y = .str j ∧ Q (.bl (decide (i.cps.toList < j.cps.toList))) H) ∨ rLtT K x y H Q) ltD := by
  intro F H x y dx dy Q s hx hy h
  unfold ltD at h
  split at h
  · rename_i a b
    rw [show x = .int a from hx, show y = .int b from hy]
    exact .inl ⟨a, b, rfl, rfl, h.same s rfl⟩
  · rename_i a b
    rw [show x = .str a from hx, show y = .str b from hy]
    exact .inr (.inl ⟨a, b, rfl, rfl, h.same s rfl⟩)
  · split at h
    · rename_i ns ms e1 e2
      obtain ⟨a, vs, rfl, h1, h2⟩ := tup_of s hx e1
      obtain ⟨b, ws, rfl, h3, h4⟩ := tup_of s hy e2
      subst h2 h4
      exact .inr (.inr ⟨a, b, ns, ms, rfl, rfl, h1, h3, h.same s rfl⟩)
    · exact h.none
theorem op2_eq : Op2 K mg (rEqD K) eqV' := by
  intro F H x y dx dy Q s hx hy h
  unfold eqV' at h
  split at h
  · rename_i hk
    simp only [Bool.and_eq_true] at hk
    refine ⟨dx.pd, dy.pd, hx.dp s hk.1, hy.dp s hk.2, okN_shaped hk.1, okN_shaped hk.2, ?_⟩
    rw [eqD_pd dx dy 64 64 hk.1 hk.2]
    exact h.same s rfl
  · exact h.none
theorem op2_ne : Op2 K mg (rNeD K) neV' := by
  intro F H x y dx dy Q s hx hy h
  unfold neV' at h
  split at h
  · rename_i hk
    simp only [Bool.and_eq_true] at hk
    refine ⟨dx.pd, dy.pd, hx.dp s hk.1, hy.dp s hk.2, okN_shaped hk.1, okN_shaped hk.2, ?_⟩
    rw [eqD_pd dx dy 64 64 hk.1 hk.2]
    exact h.same s rfl
  · exact h.none
end
end J
namespace J
open PySem PySem.Spec PyProof.Rows L2

section
variable {X : Cx} {T : Tp} {W : WX} {a b c e : Expr} {es : List Expr} {pos : Pos} {fa fb fc : ECode}

def cVar (i : Nat) : ECode := fun ρ => match ρ[i]? with
  | some (some (.d x)) => .ok (.d x, ρ)
  | some (some (.o _)) => .ok (.s i, ρ)
  | _ => .bad
def cC (x : D) : ECode := fun ρ => .ok (.d x, ρ)
theorem jx_var {i : Nat} {x : Str} (hN : X.N[i]? = some x := by rfl) (hv : Vis X.env.scope x := by first | exact Or.inl rfl | exact Or.inr (Or.inl rfl) | exact Or.inr (Or.inr rfl)) (hd : (x == ("__debug__" : Str)) = false := by decide)
    (hcd : (x == ("__classdict__" : Str)) = false := by decide) : JX X T W (.Name x pos) (cVar i) := by
  refine ⟨fun ρ σ F H fps Q ok h => WE.of (pe_var hN hv hd hcd) ?_⟩
  unfold cVar at h
  split at h
  · rename_i y hy
    obtain ⟨v, e, r⟩ := ok.slot i _ hy
    exact ⟨v, e, h.ret ok r.1⟩
  · rename_i w hy
    obtain ⟨v, e, r⟩ := ok.slot i _ hy
    exact ⟨v, e, h.ret ok e⟩
  · exact h.elim
theorem jx_c {x : D} {v : V} (h : PE X e (tC v)) (r : ∀ F, Rep X.K X.mg F x v) : JX X T W e (cC x) :=
  ⟨fun ρ σ F H fps Q ok q => WE.of h (PX.ret q ok (r F))⟩
theorem jx_int {i j} : JX X T W (.Constant (.int i) j pos) (cC (.int i)) := jx_c pe_int fun _ => rfl
theorem jx_bl {b j} : JX X T W (.Constant (.bool b) j pos) (cC (.bl b)) := jx_c pe_bl fun _ => rfl
theorem jx_non {j} : JX X T W (.Constant .none j pos) (cC .non) := jx_c pe_non fun _ => rfl
theorem jx_str {x j} : JX X T W (.Constant (.str x) j pos) (cC (.str x)) := jx_c pe_str fun _ => rfl
/-- a module's constant -/
theorem jx_glob {x : Str} {d : D} {v : V} {u : Value} (hg : Gl X x) (hm : X.mg x = some u) (r : RelV v u) (rd : ∀ F, Rep X.K X.mg F d v) (hd : (x == ("__debug__" : Str)) = false := by decide) : JX X T W (.Name x pos) (cC d) := jx_c (pe_glob hg hm r hd) rd

def fin (r : Option AV) (ρ : Env) : Out (AV × Env) := (Out.of r).bind fun z => .ok (z, ρ)
@[simp] theorem fin_some (z : AV) (ρ : Env) : fin (some z) ρ = .ok (z, ρ) := rfl
@[simp] theorem fin_none (ρ : Env) : fin none ρ = .bad := rfl
def view1 (g : D → Option AV) (p : AV) (ρ : Env) : Option AV := match p.view ρ with
  | some x => g x
  | none => none
def view2 (g : D → D → Option AV) (p q : AV) (ρ : Env) : Option AV := match p.view ρ, q.view ρ with
  | some x, some y => g x y
  | _, _ => none
def cBin (g : D → D → Option AV) (fa fb : ECode) : ECode := fun ρ => (fa ρ).bind fun p => (fb p.2).bind fun q => fin (view2 g p.1 q.1 q.2) q.2
/-- the two sides, then a rule of values -/
theorem bin_reads {r : R2} {g : D → D → Option AV} (hr : Op2 X.K X.mg r g) (ja : JX X T W a fa) (jb : JX X T W b fb) {ρ : Env} {σ : L2.St} {F H : Hp} {fps : Fps} {Q : VK} (ok : Ok X.K X.mg ρ σ F H fps) (h : PX X.K X.mg T W σ F H fps (cBin g fa fb ρ) Q) :
    tOp r (WE X a) (WE X b) σ H Q := by
  refine ja.next ok FP.px h fun av ρ1 v F1 H1 fps1 t1 ra h1 => ?_
  refine jb.next t1.ok FP.px (PX.from t1 h1) fun bv ρ2 u F2 H2 fps2 t2 rb h2 => ?_
  have ra := ra.stay t2
  have h2 := PX.from t2 h2
  dsimp only at h2
  unfold view2 at h2
  split at h2
  · rename_i x y ex ey
    exact hr F2 H2 v u x y Q t2.ok.sub (av.view_ok t2.ok ra ex) (bv.view_ok t2.ok rb ey) (GP.of_px t2.ok h2)
  · exact h2.elim
theorem jx_bin {op : Operator} {r : R2} {g : D → D → Option AV} (ho : OpR X (binaryOp op) r) (hr : Op2 X.K X.mg r g) (ja : JX X T W a fa) (jb : JX X T W b fb) : JX X T W (.BinOp a op b pos) (cBin g fa fb) :=
  ⟨fun ρ σ F H fps Q ok h => WE.of (pe_op ho (WE.pe X a) (WE.pe X b)) (bin_reads hr ja jb ok h)⟩
theorem jx_cmp {op : CmpOp} {r : R2} {g : D → D → Option AV} (ho : OpR X (compareOp op) r) (hr : Op2 X.K X.mg r g) (ja : JX X T W a fa) (jb : JX X T W b fb) (hm : behindInMarks op b = false) : JX X T W (.Compare a [op] [b] pos) (cBin g fa fb) :=
  ⟨fun ρ σ F H fps Q ok h => WE.of (pe_cmpR ho (WE.pe X a) (WE.pe X b) hm) (bin_reads hr ja jb ok h)⟩
/-- a truth value as a test's -/
def boolOf (p : AV × Env) : Out (Bool × Env) := match p.1 with
  | .d (.bl b) => .ok (b, p.2)
  | _ => .bad
def cTest (f : ECode) : Env → Out (Bool × Env) := fun ρ => (f ρ).bind boolOf
/-- the value's reading as a test's -/
theorem test_px {f : ECode} {ρ : Env} {σ : L2.St} {F H : Hp} {fps : Fps} {Q : Bool → Hp → Prop} (h : PY X.K X.mg T W σ F H fps repB (cTest f ρ) Q) : PX X.K X.mg T W σ F H fps (f ρ) (fun v H' => ∃ k, v = .bl k ∧ Q k H') := by
  unfold cTest at h
  cases q : f ρ with
  | ok p =>
    obtain ⟨av, ρ1⟩ := p
    rw [q] at h
    cases av with
    | d x =>
      cases x with
      | bl b => exact fun v F' H' fps' t ra => ⟨b, ra, h b F' H' fps' t rfl⟩
      | _ => exact h.elim
    | _ => exact h.elim
  | exc x ρ1 => rw [q] at h; exact h
  | bad => rw [q] at h; exact h
theorem jt_cmp {op : CmpOp} {r : R2} {g : D → D → Option AV} (ho : OpR X (compareOp op) r) (hr : Op2 X.K X.mg r g) (ja : JX X T W a fa) (jb : JX X T W b fb) (hm : behindInMarks op b = false) : JT X T W (.Compare a [op] [b] pos) (cTest (cBin g fa fb)) :=
  ⟨fun ρ σ F H fps Q ok h => WT.of (pt_cmpR ho (WE.pe X a) (WE.pe X b) hm) (bin_reads hr ja jb ok (test_px h))⟩
/-- any expression whose value is a truth value -/
theorem jt_val (ja : JX X T W a fa) (he : ∀ whole, isTrue a X.env whole = (do let v ← whole; standAt a.pos; holding [v] (truthy v)) := by intro _; rfl) : JT X T W a (cTest fa) :=
  ⟨fun ρ σ F H fps Q ok h => WT.of (pt_val (WE.pe X a) he) (ja.run ρ σ F H fps _ ok (test_px h))⟩
/-- .. by its truth -/
def truD : D → Option Bool
  | .non => some false
  | .bl b => some b
  | .int i => some (i != 0)
  | .str x => if x.length ≤ lim then some ((x.length : Int) != 0) else none
  | .tup xs => some (!xs.isEmpty)
  | .wtp xs => some (!xs.isEmpty)
  | .lst xs => some (!xs.isEmpty)
  | .scr xs => some (!xs.isEmpty)
  | _ => none
def cTruth (f : ECode) : Env → Out (Bool × Env) := fun ρ => (f ρ).bind fun p => (Out.of ((p.1.view p.2).bind truD)).bind fun k => .ok (k, p.2)
theorem isEmpty_reps {K : PySem.W.Frag} {mg : Str → Option Value} {F : Hp} {ds : List D} {vs : List V} (h : Reps K mg F ds vs) : ds.isEmpty = vs.isEmpty := by
  have := h.length
  cases ds <;> cases vs <;> simp at this ⊢
theorem truD_ok {K : PySem.W.Frag} {mg : Str → Option Value} {F H : Hp} {d : D} {v : V} {k : Bool} (s : Sub F H) (h : RepT K mg F H d v) (e : truD d = some k) : TruV K v H k := by
  cases d with
  | non => cases e; rw [show v = .non from h]; exact rfl
  | bl b =>
    have e : b = k := Option.some.inj e
    subst e
    rw [show v = .bl b from h]; exact rfl
  | int i => cases e; rw [show v = .int i from h]; exact rfl
  | str x =>
    rw [show v = .str x from h]
    unfold truD at e
    dsimp only at e
    split at e
    · rename_i hl
      rw [lim_eq] at hl
      cases e
      exact ⟨hl, rfl⟩
    · cases e
  | tup xs =>
    cases e
    obtain ⟨p, vs, rfl, h1, h2⟩ := h
    exact .inr (.inl ⟨vs, .of (s.tup h1), by rw [isEmpty_reps h2]⟩)
  | wtp xs =>
    cases e
    obtain ⟨p, vs, rfl, h1, h2⟩ := h
    exact .inr (.inl ⟨vs, sqT_sub s h1, by rw [isEmpty_reps h2]⟩)
  | lst xs =>
    cases e
    obtain ⟨p, vs, rfl, h1, h2⟩ := h
    exact .inl ⟨vs, .of h1, by rw [isEmpty_reps h2]⟩
  | scr xs =>
    cases e
    obtain ⟨p, vs, rfl, h1, h2⟩ := h
    exact .inl ⟨vs, sqL_sub s h1, by rw [isEmpty_reps h2]⟩
  | dic t ks xs => cases e
  | ins c ns xs => cases e
theorem jt_truth (ja : JX X T W a fa) (he : ∀ whole, isTrue a X.env whole = (do let v ← whole; standAt a.pos; holding [v] (truthy v)) := by intro _; rfl) : JT X T W a (cTruth fa) := by
  refine ⟨fun ρ σ F H fps Q ok h => WT.of (pt_truth (WE.pe X a) he) ?_⟩
  refine ja.next ok FP.py h fun av ρ1 v F1 H1 fps1 t1 ra h1 => ?_
  dsimp only at h1
  cases ex : av.view ρ1 with
  | none => rw [ex] at h1; exact h1.elim
  | some x =>
    rw [ex] at h1
    cases ek : truD x with
    | none => simp only [Option.bind_some, ek] at h1; exact h1.elim
    | some k =>
      simp only [Option.bind_some, ek] at h1
      exact ⟨k, truD_ok t1.ok.sub (av.view_ok t1.ok ra ex) ek, (PY.from t1 h1).ret t1.ok rfl⟩
def cNotT (t : Env → Out (Bool × Env)) : Env → Out (Bool × Env) := fun ρ => (t ρ).bind fun p => .ok (!p.1, p.2)
def cAndT (t u : Env → Out (Bool × Env)) : Env → Out (Bool × Env) := fun ρ => (t ρ).bind fun p => if p.1 then u p.2 else .ok (false, p.2)
def cOrT (t u : Env → Out (Bool × Env)) : Env → Out (Bool × Env) := fun ρ => (t ρ).bind fun p => if p.1 then .ok (true, p.2) else u p.2
variable {ta tb : Env → Out (Bool × Env)} {rest : List Expr}
structure JW (X : Cx) (T : Tp) (W : WX) (e : Expr) (f : Env → Out (Bool × Env)) : Prop where
  run : ∀ (ρ : Env) (σ : L2.St) (F H : Hp) (fps : Fps) (Q : Bool → Hp → Prop), Ok X.K X.mg ρ σ F H fps → PY X.K X.mg T W σ F H fps repB (f ρ) Q →
    ∀ (whole : Sem Value) (pins : List (Addr × Obj)) (s : Shared), Inv X pins σ H s → wpAny (model X.prog X.w) X.A (isTrue e X.env whole) (TP X pins σ Q) X.xe s
def WW (X : Cx) (e : Expr) : TT := fun σ H Q => ∀ (whole : Sem Value) (pins : List (Addr × Obj)) (s : Shared), Inv X pins σ H s → wpAny (model X.prog X.w) X.A (isTrue e X.env whole) (TP X pins σ Q) X.xe s
theorem WW.pw (X : Cx) (e : Expr) : PW X e (WW X e) := ⟨fun wh pins s _ _ _ I h => h wh pins s I⟩
theorem WW.of {X : Cx} {e : Expr} {t : TT} (h : PW X e t) {σ : L2.St} {H : Hp} {Q : Bool → Hp → Prop} (q : t σ H Q) : WW X e σ H Q := fun wh pins s I => h.run wh pins s σ H Q I q
theorem JW.jt (h : JW X T W e ta) : JT X T W e ta := ⟨fun ρ σ F H fps Q ok q => fun pins s I => h.run ρ σ F H fps Q ok q _ pins s I⟩
theorem jt_not (ja : JT X T W a ta) : JT X T W (.UnaryOp .Not a pos) (cNotT ta) := by
  refine ⟨fun ρ σ F H fps Q ok h => WT.of (pt_not (WT.pt X a)) ?_⟩
  refine ja.next ok FP.py h fun b ρ1 F1 H1 fps1 t1 h1 => ?_
  exact (PY.from t1 h1).ret t1.ok rfl
theorem jw_and1 (ja : JT X T W a ta) : JW X T W (.BoolOp .And [a] pos) ta := ⟨fun ρ σ F H fps Q ok h => WW.of (pw_and1 (WT.pt X a)) (ja.run ρ σ F H fps Q ok h)⟩
theorem jw_or1 (ja : JT X T W a ta) : JW X T W (.BoolOp .Or [a] pos) ta := ⟨fun ρ σ F H fps Q ok h => WW.of (pw_or1 (WT.pt X a)) (ja.run ρ σ F H fps Q ok h)⟩
theorem jw_and (ja : JT X T W a ta) (jb : JW X T W (.BoolOp .And (b :: rest) pos) tb) : JW X T W (.BoolOp .And (a :: b :: rest) pos) (cAndT ta tb) := by
  refine ⟨fun ρ σ F H fps Q ok h => WW.of (pw_and (WT.pt X a) (WW.pw X _)) ?_⟩
  refine ja.next ok FP.py h fun k ρ1 F1 H1 fps1 t1 h1 => ?_
  cases k with
  | true => exact jb.run ρ1 σ F1 H1 fps1 Q t1.ok (PY.from t1 h1)
  | false => exact (PY.from t1 h1).ret t1.ok rfl
theorem jw_or (ja : JT X T W a ta) (jb : JW X T W (.BoolOp .Or (b :: rest) pos) tb) : JW X T W (.BoolOp .Or (a :: b :: rest) pos) (cOrT ta tb) := by
  refine ⟨fun ρ σ F H fps Q ok h => WW.of (pw_or (WT.pt X a) (WW.pw X _)) ?_⟩
  refine ja.next ok FP.py h fun k ρ1 F1 H1 fps1 t1 h1 => ?_
  cases k with
  | true => exact (PY.from t1 h1).ret t1.ok rfl
  | false => exact jb.run ρ1 σ F1 H1 fps1 Q t1.ok (PY.from t1 h1)
/-- as values -/
def cNot (f : ECode) : ECode := fun ρ => (cTest f ρ).bind fun p => .ok (.d (.bl (!p.1)), p.2)
def cAnd (f g : ECode) : ECode := fun ρ => (cTest f ρ).bind fun p => if p.1 then g p.2 else .ok (.d (.bl false), p.2)
def cOr (f g : ECode) : ECode := fun ρ => (cTest f ρ).bind fun p => if p.1 then .ok (.d (.bl true), p.2) else g p.2
/-- e as a test within a value -/
theorem JX.test (j : JX X T W a fa) {γ : Type} {Z : Out γ → Prop} {k : Bool × Env → Out γ} {R : Bool → Hp → Prop} {ρ : Env} {σ : L2.St} {F H : Hp} {fps : Fps} (ok : Ok X.K X.mg ρ σ F H fps) (z : FP X.K X.mg T W σ F H fps Z) (h : Z ((cTest fa ρ).bind k))
    (hk : ∀ b ρ1 F1 H1 fps1, Tr X.K X.mg T σ F H fps ρ1 σ F1 H1 fps1 → Z (k (b, ρ1)) → R b H1) : WE X a σ H (fun v H' => ∃ c, v = .bl c ∧ R c H') := by
  refine j.run ρ σ F H fps _ ok (test_px ?_)
  cases q : cTest fa ρ with
  | ok p =>
    obtain ⟨b, ρ1⟩ := p
    rw [q] at h
    intro b' F1 H1 fps1 t e
    subst e
    exact hk b' ρ1 F1 H1 fps1 t h
  | exc x ρ1 => rw [q] at h; exact z.exc x ρ1 h
  | bad => rw [q] at h; exact z.bad h
theorem jx_not (ja : JX X T W a fa) : JX X T W (.UnaryOp .Not a pos) (cNot fa) := by
  refine ⟨fun ρ σ F H fps Q ok h => WE.of (pe_not (WE.pe X a)) ?_⟩
  refine ja.test ok FP.px h fun k ρ1 F1 H1 fps1 t1 h1 => ?_
  exact (PX.from t1 h1).ret t1.ok rfl
theorem jx_one {op} (ja : JX X T W a fa) : JX X T W (.BoolOp op [a] pos) fa := ⟨fun ρ σ F H fps Q ok h => WE.of (pe_one (WE.pe X a)) (ja.run ρ σ F H fps Q ok h)⟩
theorem jx_and (ja : JX X T W a fa) (jb : JX X T W (.BoolOp .And (b :: rest) pos) fb) : JX X T W (.BoolOp .And (a :: b :: rest) pos) (cAnd fa fb) := by
  refine ⟨fun ρ σ F H fps Q ok h => WE.of (pe_and (WE.pe X a) (WE.pe X _)) ?_⟩
  refine ja.test ok FP.px h fun k ρ1 F1 H1 fps1 t1 h1 => ?_
  cases k with
  | true => exact jb.run ρ1 σ F1 H1 fps1 Q t1.ok (PX.from t1 h1)
  | false => exact (PX.from t1 h1).ret t1.ok rfl
theorem jx_or (ja : JX X T W a fa) (jb : JX X T W (.BoolOp .Or (b :: rest) pos) fb) : JX X T W (.BoolOp .Or (a :: b :: rest) pos) (cOr fa fb) := by
  refine ⟨fun ρ σ F H fps Q ok h => WE.of (pe_or (WE.pe X a) (WE.pe X _)) ?_⟩
  refine ja.test ok FP.px h fun k ρ1 F1 H1 fps1 t1 h1 => ?_
  cases k with
  | true => exact (PX.from t1 h1).ret t1.ok rfl
  | false => exact jb.run ρ1 σ F1 H1 fps1 Q t1.ok (PX.from t1 h1)
def cIf (t : Env → Out (Bool × Env)) (fa fb : ECode) : ECode := fun ρ => (t ρ).bind fun p => if p.1 then fa p.2 else fb p.2
theorem jx_if (jc : JT X T W c ta) (ja : JX X T W a fa) (jb : JX X T W b fb) : JX X T W (.IfExp c a b pos) (cIf ta fa fb) := by
  refine ⟨fun ρ σ F H fps Q ok h => WE.of (pe_ifExp (WT.pt X c) (WE.pe X a) (WE.pe X b)) ?_⟩
  refine jc.next ok FP.px h fun k ρ1 F1 H1 fps1 t1 h1 => ?_
  cases k with
  | true => exact ja.run ρ1 σ F1 H1 fps1 Q t1.ok (PX.from t1 h1)
  | false => exact jb.run ρ1 σ F1 H1 fps1 Q t1.ok (PX.from t1 h1)
/-- a op b op' c, all of them looked at alone -/
def cChain (g g' : D → D → Option AV) (fa fb fc : ECode) : ECode := fun ρ => (fa ρ).bind fun p => (fb p.2).bind fun q => (fin (view2 g p.1 q.1 q.2) q.2).bind fun r => (boolOf r).bind fun k =>
  if k.1 then (fc k.2).bind fun z => fin (view2 g' q.1 z.1 z.2) z.2 else .ok (.d (.bl false), k.2)
/-- an outcome that is a truth value, told by a rule of values -/
theorem view2_bool {g : D → D → Option AV} {r : R2} (hr : Op2 X.K X.mg r g) {av bv : AV} {N N' : Addr → Prop} {v u : V} {ρ : Env} {σ : L2.St} {F H : Hp} {fps : Fps} (ok : Ok X.K X.mg ρ σ F H fps) (ra : RepA X.K X.mg T N σ F H fps av v) (rb : RepA X.K X.mg T N' σ F H fps bv u)
    {γ : Type} {Z : Out γ → Prop} {k : Bool × Env → Out γ} (z : FP X.K X.mg T W σ F H fps Z) (h : Z ((fin (view2 g av bv ρ) ρ).bind fun r => (boolOf r).bind k)) {R : VK}
    (hk : ∀ b F' H', Grow F H F' H' → Z (k (b, ρ)) → R (.bl b) H') : r v u H R := by
  unfold view2 at h
  split at h
  · rename_i x y ex ey
    refine hr F H v u x y R ok.sub (av.view_ok ok ra ex) (bv.view_ok ok rb ey) ?_
    cases q : g x y with
    | none => rw [q] at h; exact (z.bad h).elim
    | some w =>
      rw [q] at h
      cases w with
      | d x =>
        cases x with
        | bl b => exact fun v' F' H' gr rg => by rw [show v' = .bl b from rg]; exact hk b F' H' gr h
        | _ => exact (z.bad h).elim
      | _ => exact (z.bad h).elim
  · exact (z.bad h).elim
theorem chain_reads {r r' : R2} {g g' : D → D → Option AV} (hr : Op2 X.K X.mg r g) (hr' : Op2 X.K X.mg r' g') (ja : JX X T W a fa) (jb : JX X T W b fb) (jc : JX X T W c fc)
    {ρ : Env} {σ : L2.St} {F H : Hp} {fps : Fps} {Q : VK} (ok : Ok X.K X.mg ρ σ F H fps) (h : PX X.K X.mg T W σ F H fps (cChain g g' fa fb fc ρ) Q) : tChain r r' (WE X a) (WE X b) (WE X c) σ H Q := by
  refine ja.next ok FP.px h fun av ρ1 v F1 H1 fps1 t1 ra h1 => ?_
  refine jb.next t1.ok FP.px (PX.from t1 h1) fun bv ρ2 u F2 H2 fps2 t2 rb h2 => ?_
  have h2 := PX.from t2 h2
  refine view2_bool hr t2.ok (ra.stay t2) rb FP.px h2 fun k F3 H3 gr h3 => ?_
  have t3 : Tr X.K X.mg T σ F2 H2 fps2 ρ2 σ F3 H3 fps2 := gr.tr t2.ok
  refine ⟨k, rfl, ?_⟩
  cases k with
  | true =>
    refine jc.next t3.ok FP.px (PX.from t3 h3) fun cv ρ4 z F4 H4 fps4 t4 rc h4 => ?_
    have h4 := PX.from t4 h4
    dsimp only at h4
    unfold view2 at h4
    split at h4
    · rename_i x y ex ey
      exact hr' F4 H4 u z x y Q t4.ok.sub (bv.view_ok t4.ok ((rb.stay t3).stay t4) ex) (cv.view_ok t4.ok rc ey) (GP.of_px t4.ok h4)
    · exact h4.elim
  | false => exact (PX.from t3 h3).ret t3.ok rfl
theorem jx_chain {op op' : CmpOp} {r r' : R2} {g g' : D → D → Option AV} (ho : OpR X (compareOp op) r) (ho' : OpR X (compareOp op') r') (hr : Op2 X.K X.mg r g) (hr' : Op2 X.K X.mg r' g') (ja : JX X T W a fa) (jb : JX X T W b fb) (jc : JX X T W c fc)
    (hm : lastMarks [op, op'] [b, c] = false := by with_unfolding_all rfl) : JX X T W (.Compare a [op, op'] [b, c] pos) (cChain g g' fa fb fc) :=
  ⟨fun ρ σ F H fps Q ok h => WE.of (pe_chain ho ho' (WE.pe X a) (WE.pe X b) (WE.pe X c) hm) (chain_reads hr hr' ja jb jc ok h)⟩
theorem jt_chain {op op' : CmpOp} {r r' : R2} {g g' : D → D → Option AV} (ho : OpR X (compareOp op) r) (ho' : OpR X (compareOp op') r') (hr : Op2 X.K X.mg r g) (hr' : Op2 X.K X.mg r' g') (ja : JX X T W a fa) (jb : JX X T W b fb) (jc : JX X T W c fc)
    (hm : lastMarks [op, op'] [b, c] = false := by with_unfolding_all rfl) : JT X T W (.Compare a [op, op'] [b, c] pos) (cTest (cChain g g' fa fb fc)) :=
  ⟨fun ρ σ F H fps Q ok h => WT.of (pt_chain ho ho' (WE.pe X a) (WE.pe X b) (WE.pe X c) hm) (chain_reads hr hr' ja jb jc ok (test_px h))⟩
end
end J
namespace J
open PySem PySem.Spec PyProof.Rows L2

def setFV : List Str → List FV → Str → FV → List FV
  | n :: ns, f :: fs, y, g => if n = y then g :: fs else f :: setFV ns fs y g
  | _, fs, _, _ => fs
def AV.frz : AV → Env → Option (D × Env)
  | .d x, ρ => some (x, ρ)
  | .o w, ρ => some (w.toD, ρ)
  | .s j, ρ => match ρ[j]? with
    | some (some (.d x)) => some (x, ρ)
    | some (some (.o w)) => some (w.toD, ρ.set j (some (.d w.toD)))
    | _ => none
  | .g j y, ρ => match ρ[j]? with
    | some (some (.o (.i c ns fs))) => (match getFV ns fs y with
      | some (.d x) => some (x, ρ)
      | some (.o w) => some (w.toD, ρ.set j (some (.o (.i c ns (setFV ns fs y (.d w.toD))))))
      | none => none)
    | _ => none
section
variable {K : PySem.W.Frag} {mg : Str → Option Value} {T : Tp} {W : WX} {ρ ρ1 : Env} {σ : L2.St} {F F0 F' H H0 H' : Hp} {fps fps0 : Fps} {N : Addr → Prop}
theorem RepFs.freeze {y : Str} {v : V} {w : W0} : ∀ {fs : List FV} {vfs : List (Str × V)} {fp : List Addr}, RepFs K mg F H fs (vfs.map (·.2)) fp → vfs.lookup y = some v → getFV (vfs.map (·.1)) fs y = some (.o w) → fp.Nodup →
    ∃ a f1 f2, v = .ref a ∧ RepW K mg F H w a f1 ∧ (∀ z, z ∈ fp ↔ z ∈ f1 ∨ z ∈ f2) ∧ (∀ z ∈ f1, z ∉ f2) ∧ f2.Nodup ∧
      ∀ F', Mono F F' → (∀ x ∈ f1, F' x = H x) → (∀ x ∈ f2, F' x = none) → RepFs K mg F' H (setFV (vfs.map (·.1)) fs y (.d w.toD)) (vfs.map (·.2)) f2
  | [], vfs, fp, h, e, _, _ => by
    have : vfs = [] := by simpa using h.1
    rw [this] at e; cases e
  | .d x :: r, vfs, fp, h, e, g, nd => by
    obtain ⟨u, us, e1, h1, h2⟩ := h
    cases vfs with
    | nil => cases e1
    | cons p vfs =>
      obtain ⟨n, u'⟩ := p
      simp only [List.map_cons, List.cons.injEq] at e1
      obtain ⟨rfl, rfl⟩ := e1
      rw [List.lookup_cons] at e
      by_cases hn : n = y
      · subst hn
        simp [getFV] at g
      · have hb : (y == n) = false := by simp; exact fun z => hn z.symm
        rw [hb] at e
        simp only [List.map_cons, getFV, if_neg hn] at g
        obtain ⟨a, f1, f2, q1, q2, q3, q4, q5, q6⟩ := RepFs.freeze h2 e g nd
        refine ⟨a, f1, f2, q1, q2, q3, q4, q5, fun F' m k1 k2 => ?_⟩
        simp only [List.map_cons, setFV, if_neg hn]
        exact ⟨u', _, rfl, Rep.mono m x u' h1, q6 F' m k1 k2⟩
  | .o w' :: r, vfs, fp, h, e, g, nd => by
    obtain ⟨a, us, f1, f2, e1, rfl, h1, h2⟩ := h
    obtain ⟨nd1, nd2, nd3⟩ := List.nodup_append.mp nd
    cases vfs with
    | nil => cases e1
    | cons p vfs =>
      obtain ⟨n, u'⟩ := p
      simp only [List.map_cons, List.cons.injEq] at e1
      obtain ⟨rfl, rfl⟩ := e1
      rw [List.lookup_cons] at e
      by_cases hn : n = y
      · subst hn
        simp only [beq_self_eq_true] at e
        cases e
        simp only [List.map_cons, getFV, if_pos, Option.some.injEq, FV.o.injEq] at g
        subst g
        refine ⟨a, f1, f2, rfl, h1, fun z => List.mem_append, fun z hz hz2 => nd3 z hz z hz2 rfl, nd2, fun F' m k1 k2 => ?_⟩
        simp only [List.map_cons, setFV, if_pos]
        exact ⟨.ref a, _, rfl, h1.frozen m k1, h2.frame m fun x hx => ⟨k2 x hx, rfl⟩⟩
      · have hb : (y == n) = false := by simp; exact fun z => hn z.symm
        rw [hb] at e
        simp only [List.map_cons, getFV, if_neg hn] at g
        obtain ⟨b, g1, g2, q1, q2, q3, q4, q5, q6⟩ := RepFs.freeze h2 e g nd2
        refine ⟨b, g1, f1 ++ g2, q1, q2, fun z => ?_, fun z hz hz2 => ?_, ?_, fun F' m k1 k2 => ?_⟩
        · rw [List.mem_append, q3, List.mem_append]
          constructor
          · rintro (z | z | z)
            · exact .inr (.inl z)
            · exact .inl z
            · exact .inr (.inr z)
          · rintro (z | z | z)
            · exact .inr (.inl z)
            · exact .inl z
            · exact .inr (.inr z)
        · rcases List.mem_append.mp hz2 with z2 | z2
          · exact nd3 z z2 z ((q3 z).mpr (.inl hz)) rfl
          · exact q4 z hz z2
        · exact List.nodup_append.mpr ⟨nd1, q5, fun x hx z hz => nd3 x hx z ((q3 z).mpr (.inr hz))⟩
        · simp only [List.map_cons, setFV, if_neg hn]
          exact ⟨a, _, f1, g2, rfl, rfl, h1.frame m fun x hx => ⟨k2 x (List.mem_append_left _ hx), rfl⟩, q6 F' m k1 fun x hx => k2 x (List.mem_append_right _ hx)⟩
/-- what stands at fp is known from now on; the slot j holds sv' -/
theorem Tr.freeze {fp : List Addr} {j : Nat} {sv' : SV} {v : V} {fpj : List Addr} (t : Tr K mg T σ F0 H0 fps0 ρ σ F H fps) (hf : ∀ x ∈ fp, F x = none) (hN : ∀ x ∈ fp, InF fps0 x ∨ H0 x = none) (hd : ∀ i, i ≠ j → ∀ x ∈ fps i, x ∉ fp)
    (hj : j < ρ.length) (hv : σ[j]? = some (some v)) (hs : RepS K mg (frzF F H fp) H sv' v fpj) (hsub : ∀ x ∈ fpj, x ∈ fps j) :
    Tr K mg T σ F0 H0 fps0 (ρ.set j (some sv')) σ (frzF F H fp) H (fun i => if i = j then fpj else fps i) := by
  have m : Mono F (frzF F H fp) := frzF_mono hf
  refine ⟨⟨frzF_sub t.ok.sub, by rw [List.length_set]; exact t.ok.len, fun i sv e => ?_, fun i e => ?_, fun i k a hik h1 h2 => ?_⟩, t.mono.trans m, t.keep, fun a o e => ?_, fun a h => ?_, t.sl, t.fld⟩
  · by_cases hi : i = j
    · subst hi
      rw [List.getElem?_set_self hj] at e
      cases e
      exact ⟨v, hv, by rw [if_pos rfl]; exact hs⟩
    · rw [List.getElem?_set_ne (Ne.symm hi)] at e
      obtain ⟨u, e1, r⟩ := t.ok.slot i sv e
      refine ⟨u, e1, ?_⟩
      rw [if_neg hi]
      exact r.frame m fun x hx => ⟨by rw [frzF_out (hd i hi x hx)]; exact (r.out x hx).1, rfl⟩
  · by_cases hi : i = j
    · subst hi
      exact absurd (List.getElem?_set_self hj) (e sv')
    · rw [if_neg hi]
      refine t.ok.non i fun sv z => e sv ?_
      rw [List.getElem?_set_ne (Ne.symm hi)]; exact z
  · by_cases hi : i = j
    · subst hi
      rw [if_pos rfl] at h1
      rw [if_neg (Ne.symm hik)] at h2
      exact t.ok.sep _ _ a hik (hsub a h1) h2
    · rw [if_neg hi] at h1
      by_cases hk : k = j
      · subst hk
        rw [if_pos rfl] at h2
        exact t.ok.sep _ _ a hik h1 (hsub a h2)
      · rw [if_neg hk] at h2
        exact t.ok.sep _ _ a hik h1 h2
  · unfold frzF at e
    split at e
    · rename_i hx; exact .inr (hN a hx)
    · exact t.frz a o e
  · obtain ⟨i, hi⟩ := h
    dsimp only at hi
    split at hi
    · rename_i e; subst e; exact t.own a ⟨i, hsub a hi⟩
    · exact t.own a ⟨i, hi⟩
theorem frz_ok {av : AV} {v : V} {d : D} {ρ' : Env} (t : Tr K mg T σ F0 H0 fps0 ρ σ F H fps) (ra : RepA K mg T (NewTo fps0 H0) σ F H fps av v) (e : av.frz ρ = some (d, ρ')) :
    ∃ F' fps', Tr K mg T σ F0 H0 fps0 ρ' σ F' H fps' ∧ Rep K mg F' d v ∧ Mono F F' := by
  cases av with
  | d x => cases e; exact ⟨F, fps, t, ra, .refl F⟩
  | o w =>
    cases e
    obtain ⟨a, fp, rfl, h, nd, hdis, hN⟩ := ra
    have hf : ∀ x ∈ fp, F x = none := fun x hx => (h.out x hx).1
    have m : Mono F (frzF F H fp) := frzF_mono hf
    refine ⟨frzF F H fp, fps, ⟨⟨frzF_sub t.ok.sub, t.ok.len, fun i sv e => ?_, t.ok.non, t.ok.sep⟩, t.mono.trans m, t.keep, fun a o e => ?_, t.own, t.sl, t.fld⟩, h.frozen m fun x hx => frzF_in hx, m⟩
    · obtain ⟨u, e1, r⟩ := t.ok.slot i sv e
      exact ⟨u, e1, r.frame m fun x hx => ⟨by rw [frzF_out fun z => hdis x z ⟨i, hx⟩]; exact (r.out x hx).1, rfl⟩⟩
    · unfold frzF at e
      split at e
      · rename_i hx; exact hN a hx |> .inr
      · exact t.frz a o e
  | s j =>
    unfold AV.frz at e
    dsimp only at e
    have hv : σ[j]? = some (some v) := ra
    split at e
    · rename_i x hx
      cases e
      obtain ⟨u, hu, r⟩ := t.ok.slot j _ hx
      rw [hv] at hu; cases hu
      exact ⟨F, fps, t, r.1, .refl F⟩
    · rename_i w hx
      cases e
      obtain ⟨u, hu, r⟩ := t.ok.slot j _ hx
      rw [hv] at hu; cases hu
      obtain ⟨a, rfl, h, nd⟩ := r
      have hf : ∀ x ∈ fps j, F x = none := fun x hx => (h.out x hx).1
      have m : Mono F (frzF F H (fps j)) := frzF_mono hf
      have hr : Rep K mg (frzF F H (fps j)) w.toD (.ref a) := h.frozen m fun x hx => frzF_in hx
      exact ⟨_, _, Tr.freeze (fp := fps j) (fpj := []) t hf (fun x hx => t.own x ⟨j, hx⟩) (fun i hi x hx => t.ok.sep i j x hi hx) (List.getElem?_eq_some_iff.mp hx).1 hv ⟨hr, rfl⟩ (fun x hx => absurd hx (by simp)), hr, m⟩
    · cases e
  | g j y =>
    unfold AV.frz at e
    dsimp only at e
    obtain ⟨kf, a, C, dx, vfs, h1, h2, h3⟩ := ra
    split at e
    · rename_i c ns fs hx
      obtain ⟨u, hu, r⟩ := t.ok.slot j _ hx
      rw [h1] at hu; cases hu
      obtain ⟨a', e', h, nd⟩ := r
      cases e'
      obtain ⟨C', dx', vfs', fp', q0, q1, q2, h4, h5, h6⟩ := h
      rw [h2] at h4; cases h4
      split at e
      · rename_i x hg
        cases e
        obtain ⟨f, p1, p2⟩ := h6.at h3
        rw [h5, hg] at p1; cases p1
        exact ⟨F, fps, t, p2, .refl F⟩
      · rename_i w hg
        cases e
        rw [q0] at nd
        obtain ⟨nda, ndp⟩ := List.nodup_cons.mp nd
        obtain ⟨b, f1, f2, rfl, p1, p2, p3, p4, p5⟩ := h6.freeze h3 (by rw [h5]; exact hg) ndp
        have hin : ∀ x ∈ f1, x ∈ fps j := fun x hx => by rw [q0]; exact List.mem_cons_of_mem _ ((p2 x).mpr (.inl hx))
        have hf : ∀ x ∈ f1, F x = none := fun x hx => (p1.out x hx).1
        have m : Mono F (frzF F H f1) := frzF_mono hf
        have hr : Rep K mg (frzF F H f1) w.toD (.ref b) := p1.frozen m fun x hx => frzF_in hx
        have o2 : ∀ x ∈ f2, frzF F H f1 x = none := fun x hx => by
          rw [frzF_out fun z => p3 x z hx]
          exact (h6.out x ((p2 x).mpr (.inr hx))).1
        have na : a ∉ f1 := fun z => nda ((p2 a).mpr (.inl z))
        refine ⟨_, _, Tr.freeze (fp := f1) (fpj := a :: f2) (v := .ref a) t hf (fun x hx => t.own x ⟨j, hin x hx⟩) (fun i hi x hx hx1 => t.ok.sep i j x hi hx (hin x hx1)) (List.getElem?_eq_some_iff.mp hx).1 h1 ?_ (fun x hx => ?_), hr, m⟩
        · refine ⟨a, rfl, ⟨C, dx, vfs, f2, rfl, by rw [frzF_out na]; exact q1, q2, h2, h5, ?_⟩, List.nodup_cons.mpr ⟨fun z => nda ((p2 a).mpr (.inr z)), p4⟩⟩
          have := p5 (frzF F H f1) m (fun x hx => frzF_in hx) o2
          rw [h5] at this
          exact this
        · rw [q0]
          rcases List.mem_cons.mp hx with rfl | hx
          · exact List.mem_cons_self
          · exact List.mem_cons_of_mem _ ((p2 x).mpr (.inr hx))
      · cases e
    · cases e
end
section
variable {X : Cx} {T : Tp} {W : WX} {a b c e : Expr} {es : List Expr} {pos : Pos} {fa fb fc : ECode}
/-- a value that is kept -/
def cD (f : ECode) : Env → Out (D × Env) := fun ρ => (f ρ).bind fun p => Out.of (p.1.frz p.2)
theorem jd (ja : JX X T W a fa) : JD X T W a (cD fa) := by
  refine ⟨fun ρ σ F H fps Q ok h => ja.run ρ σ F H fps Q ok ?_⟩
  unfold cD at h
  cases q : fa ρ with
  | ok p =>
    obtain ⟨av, ρ1⟩ := p
    rw [q] at h
    intro v F1 H1 fps1 t ra
    dsimp only [Out.bind] at h
    cases ez : av.frz ρ1 with
    | none => rw [ez] at h; exact h.elim
    | some z =>
      obtain ⟨d, ρ'⟩ := z
      rw [ez] at h
      obtain ⟨F', fps', t', r, _⟩ := frz_ok t ra ez
      exact h v F' H1 fps' t' r
  | exc x ρ1 => rw [q] at h; exact h
  | bad => rw [q] at h; exact h
def cNil : Env → Out (List D × Env) := fun ρ => .ok ([], ρ)
def cCons (f : Env → Out (D × Env)) (g : Env → Out (List D × Env)) : Env → Out (List D × Env) := fun ρ => (f ρ).bind fun p => (g p.2).bind fun q => .ok (p.1 :: q.1, q.2)
theorem jds_nil : JDs X T W [] cNil := ⟨fun ρ σ F H fps Q ok h => WA.of pa_nil (PY.ret h ok .nil)⟩
theorem jds_cons {f : Env → Out (D × Env)} {g : Env → Out (List D × Env)} (ja : JD X T W a f) (jb : JDs X T W es g) (hs : starEach (a :: es) X.env = (false, eval a X.env) :: starEach es X.env := by rfl) : JDs X T W (a :: es) (cCons f g) := by
  refine ⟨fun ρ σ F H fps Q ok h => WA.of (pa_cons (WE.pe X a) (WA.pa X es) hs) ?_⟩
  refine ja.next ok FP.py h fun x ρ1 v F1 H1 fps1 t1 r1 h1 => ?_
  refine jb.next t1.ok FP.py (PY.from t1 h1) fun xs ρ2 vs F2 H2 fps2 t2 r2 h2 => ?_
  exact (PY.from t2 h2).ret t2.ok (.cons (Rep.mono t2.mono _ _ r1) r2)
/-- a tuple, a list that are written -/
def cTup (f : Env → Out (List D × Env)) : ECode := fun ρ => (f ρ).bind fun p => fin (if p.1.length ≤ lim then some (.d (.tup p.1)) else none) p.2
def cLst (f : Env → Out (List D × Env)) : ECode := fun ρ => (f ρ).bind fun p => fin (if p.1.length ≤ lim then some (.o (.b (.l p.1))) else none) p.2
theorem jx_tup {f : Env → Out (List D × Env)} {x1} (j : JDs X T W es f) : JX X T W (.Tuple es x1 pos) (cTup f) := by
  refine ⟨fun ρ σ F H fps Q ok h => WE.of (pe_tup (WA.pa X es)) ?_⟩
  refine j.next ok FP.px h fun xs ρ1 vs F1 H1 fps1 t1 r1 h1 => ?_
  have h1 := GP.of_px t1.ok (PX.from t1 h1)
  split at h1
  · rename_i hl
    rw [lim_eq] at hl
    exact ⟨by rw [← r1.length]; exact hl, fun p hp => h1.tup t1.ok.sub r1 hp⟩
  · exact h1.none
theorem jx_lst {f : Env → Out (List D × Env)} (j : JDs X T W es f) : JX X T W (.List es pos) (cLst f) := by
  refine ⟨fun ρ σ F H fps Q ok h => WE.of (pe_lst (WA.pa X es)) ?_⟩
  refine j.next ok FP.px h fun xs ρ1 vs F1 H1 fps1 t1 r1 h1 => ?_
  have h1 := GP.of_px t1.ok (PX.from t1 h1)
  split at h1
  · rename_i hl
    rw [lim_eq] at hl
    exact ⟨by rw [← r1.length]; exact hl, fun p hp => h1.lst t1.ok.sub r1 hp⟩
  · exact h1.none
end
end J
namespace J
open PySem PySem.Spec PyProof.Rows L2
def lookD : List D → List D → D → Option D
  | k :: ks, v :: vs, x => if eqD k x then some v else lookD ks vs x
  | _, _, _ => none
def isKeyD : D → Bool
  | .int _ => true
  | .str _ => true
  | _ => false
def dKey : D → Option Key
  | .int i => some (.inl i)
  | .str x => some (.inr x)
  | _ => none
section
variable {K : PySem.W.Frag} {mg : Str → Option Value} {F H : Hp}
/-- the tuple's items, if they are keys -/
def dKeys : List D → Option (List Key)
  | [] => some []
  | d :: r => match dKey d, dKeys r with
    | some k, some ks => some (k :: ks)
    | _, _ => none
theorem dKey_some {d : D} {k : Key} (h : dKey d = some k) : d = keyD k := by
  cases d with
  | int i => cases h; rfl
  | str x => cases h; rfl
  | _ => cases h
theorem dKeys_some : ∀ {ds : List D} {ks : List Key}, dKeys ds = some ks → ds = ks.map keyD
  | [], ks, h => by cases h; rfl
  | d :: r, ks, h => by
    unfold dKeys at h
    split at h
    · rename_i k ks' h1 h2
      cases h
      rw [dKey_some h1, dKeys_some h2]; rfl
    · cases h
theorem keyD_rep {k : Key} {v : V} (h : Rep K mg F (keyD k) v) : v = kV k := by
  cases k with
  | inl i => exact h
  | inr x => exact h
theorem keys_rep : ∀ {ks : List Key} {vs : List V}, Reps K mg F (ks.map keyD) vs → vs = ks.map kV
  | [], _, h => h
  | k :: ks, vs, h => by
    obtain ⟨v, r, rfl, h1, h2⟩ := h
    rw [keyD_rep h1, keys_rep h2]; rfl
theorem eqD_key (a b : Key) : eqD (keyD a) (keyD b) = decide (a = b) := by
  cases a with
  | inl i =>
    cases b with
    | inl j => simp only [keyD, eqD]; rw [key_ll]
    | inr y => simp only [keyD, eqD]; rw [key_lr]
  | inr x =>
    cases b with
    | inl j => simp only [keyD, eqD]; rw [key_rl]
    | inr y =>
      simp only [keyD, eqD]
      rw [key_rr]
      by_cases e : x = y
      · subst e; simp
      · rw [decide_eq_false e]; simp [e]
theorem eqDs_keys : ∀ (as bs : List Key), eqDs (as.map keyD) (bs.map keyD) = decide (as = bs)
  | [], [] => rfl
  | [], _ :: _ => by simp [eqDs]
  | _ :: _, [] => by simp [eqDs]
  | a :: as, b :: bs => by
    simp only [List.map_cons, eqDs]
    rw [eqD_key, eqDs_keys as bs]
    by_cases h1 : a = b <;> by_cases h2 : as = bs <;> simp [h1, h2]
theorem lookD_pos {k x v : D} {ks vs : List D} (h : eqD k x = true) : lookD (k :: ks) (v :: vs) x = some v := by simp [lookD, h]
theorem lookD_neg {k x v : D} {ks vs : List D} (h : eqD k x = false) : lookD (k :: ks) (v :: vs) x = lookD ks vs x := by simp [lookD, h]
/-- what a dict holds at a key -/
def LookOk (K : PySem.W.Frag) (mg : Str → Option Value) (F : Hp) (r : Option D) (q : Option V) : Prop := match r with
  | some x => ∃ v, q = some v ∧ Rep K mg F x v
  | none => q = none
theorem lookK : ∀ (kvs : List (Key × V)) (xs : List D) (k : Key), Reps K mg F xs (kvs.map (·.2)) → LookOk K mg F (lookD (kvs.map fun p => keyD p.1) xs (keyD k)) (valV kvs k)
  | [], xs, k, h => rfl
  | p :: r, xs, k, h => by
    cases xs with
    | nil =>
      have := h.length
      simp at this
    | cons x xs =>
      obtain ⟨v, vs, e, h1, h2⟩ := h
      simp only [List.map_cons, List.cons.injEq] at e
      obtain ⟨rfl, rfl⟩ := e
      rw [List.map_cons]
      by_cases e : p.1 = k
      · rw [lookD_pos (by rw [eqD_key]; exact decide_eq_true e), valV_pos e]
        exact ⟨p.2, rfl, h1⟩
      · rw [lookD_neg (by rw [eqD_key]; exact decide_eq_false e), valV_neg e]
        exact lookK r xs k h2
theorem lookT : ∀ (kvs : List (List Key × V)) (xs : List D) (k : List Key), Reps K mg F xs (kvs.map (·.2)) → LookOk K mg F (lookD (kvs.map fun p => D.tup (p.1.map keyD)) xs (.tup (k.map keyD))) (valV kvs k)
  | [], xs, k, h => rfl
  | p :: r, xs, k, h => by
    cases xs with
    | nil =>
      have := h.length
      simp at this
    | cons x xs =>
      obtain ⟨v, vs, e, h1, h2⟩ := h
      simp only [List.map_cons, List.cons.injEq] at e
      obtain ⟨rfl, rfl⟩ := e
      rw [List.map_cons]
      by_cases e : p.1 = k
      · rw [lookD_pos (by simp only [eqD]; rw [eqDs_keys]; exact decide_eq_true e), valV_pos e]
        exact ⟨p.2, rfl, h1⟩
      · rw [lookD_neg (by simp only [eqD]; rw [eqDs_keys]; exact decide_eq_false e), valV_neg e]
        exact lookT r xs k h2
/-- is the key of the dict's kind -/
def keyFit : Bool → D → Bool
  | false, .int _ => true
  | false, .str _ => true
  | true, .tup ds => ds.all isKeyD
  | _, _ => false
theorem dKeys_all : ∀ {ds : List D}, ds.all isKeyD = true → ∃ ks : List Key, ds = ks.map keyD
  | [], _ => ⟨[], rfl⟩
  | d :: r, h => by
    simp only [List.all_cons, Bool.and_eq_true] at h
    obtain ⟨ks, e⟩ := dKeys_all h.2
    cases d with
    | int i => exact ⟨.inl i :: ks, by rw [e]; rfl⟩
    | str x => exact ⟨.inr x :: ks, by rw [e]; rfl⟩
    | _ => exact absurd h.1 (by simp [isKeyD])
theorem isKeyD_keyD (k : Key) : isKeyD (keyD k) = true := by cases k <;> rfl
theorem keyFit_false {k : D} (h : keyFit false k = true) : ∃ kk : Key, k = keyD kk := by
  cases k with
  | int i => exact ⟨.inl i, rfl⟩
  | str x => exact ⟨.inr x, rfl⟩
  | _ => cases h
theorem keyFit_true {k : D} (h : keyFit true k = true) : ∃ kk : List Key, k = .tup (kk.map keyD) := by
  cases k with
  | tup ds =>
    obtain ⟨ks, e⟩ := dKeys_all (show ds.all isKeyD = true from h)
    exact ⟨ks, by rw [e]⟩
  | _ => cases h
/-- a key in the abstract heap -/
theorem dget_ok (s : Sub F H) {a : Addr} {t : Bool} {o : HO} {ks xs : List D} {us : List V} {k : D} {y : V} (ho : H a = some o ∨ ∃ ob, H a = some (.frz ob o)) (hd : DicO t o ks us) (hx : Reps K mg F xs us) (hy : Rep K mg F k y)
    (e : keyFit t k = true) : ∃ q, DGet H a y q ∧ LookOk K mg F (lookD ks xs k) q := by
  have rd : Rd H a o := ho
  cases t with
  | false =>
    obtain ⟨kvs, rfl, rfl, rfl⟩ := hd
    obtain ⟨kk, rfl⟩ := keyFit_false e
    exact ⟨_, .inl ⟨kvs, kk, rd, keyD_rep hy, rfl⟩, lookK kvs xs kk hx⟩
  | true =>
    obtain ⟨kvs, rfl, rfl, rfl⟩ := hd
    obtain ⟨kk, rfl⟩ := keyFit_true e
    obtain ⟨b, vs, rfl, h1, h2⟩ := hy
    rw [keys_rep h2] at h1
    exact ⟨_, .inr ⟨kvs, kk, b, rd, rfl, s.tup h1, rfl⟩, lookT kvs xs kk hx⟩
end

section
variable {X : Cx} {T : Tp} {W : WX} {a b c e : Expr} {es : List Expr} {pos : Pos} {fa fb fc : ECode}
def seqD : D → Option (List D)
  | .tup xs => some xs
  | .wtp xs => some xs
  | .lst xs => some xs
  | .scr xs => some xs
  | _ => none
theorem RepT.seq {K : PySem.W.Frag} {mg : Str → Option Value} {F H : Hp} (s : Sub F H) {d : D} {v : V} {xs : List D} (h : RepT K mg F H d v) (e : seqD d = some xs) : ∃ p vs, v = .ref p ∧ (SqL K H p vs ∨ SqT K H p vs) ∧ Reps K mg F xs vs := by
  cases d with
  | tup ys =>
    cases e
    obtain ⟨p, vs, rfl, h1, h2⟩ := h
    exact ⟨p, vs, rfl, .inr (.of (s.tup h1)), h2⟩
  | wtp ys =>
    cases e
    obtain ⟨p, vs, rfl, h1, h2⟩ := h
    exact ⟨p, vs, rfl, .inr (sqT_sub s h1), h2⟩
  | lst ys =>
    cases e
    obtain ⟨p, vs, rfl, h1, h2⟩ := h
    exact ⟨p, vs, rfl, .inl (.of h1), h2⟩
  | scr ys =>
    cases e
    obtain ⟨p, vs, rfl, h1, h2⟩ := h
    exact ⟨p, vs, rfl, .inl (sqL_sub s h1), h2⟩
  | _ => cases e
theorem atI_reps {K : PySem.W.Frag} {mg : Str → Option Value} {F : Hp} {ds : List D} {vs : List V} {i : Int} {d : D} (h : Reps K mg F ds vs) (e : atI ds i = some d) : ∃ v, atI vs i = some v ∧ Rep K mg F d v := by
  unfold atI at e ⊢
  rw [← h.length]
  cases q : ixN ds.length i with
  | none => rw [q] at e; cases e
  | some j =>
    rw [q] at e
    exact h.get e
/-- an item -/
def itemS (z : Str) : D → Option AV
  | .int i => if z.length ≤ lim then (atI z.cps.toList i).map fun c => .d (.str ⟨#[c]⟩) else none
  | _ => none
def itemL (xs : List D) : D → Option AV
  | .int i => (atI xs i).map .d
  | _ => none
def itemD : D → D → Option AV
  | .str z, y => itemS z y
  | .dic t ks vs, y => if keyFit t y then (lookD ks vs y).map .d else none
  | .tup xs, y => itemL xs y
  | .wtp xs, y => itemL xs y
  | .lst xs, y => itemL xs y
  | .scr xs, y => itemL xs y
  | _, _ => none
def cIx (fa fb : ECode) : ECode := cBin itemD fa fb
theorem itemL_ok {F H : Hp} {x y : V} {dx dy : D} {xs : List D} {Q : VK} (s : Sub F H) (hx : RepT X.K X.mg F H dx x) (e : seqD dx = some xs) (hy : RepT X.K X.mg F H dy y) (h : GP X.K X.mg F H (itemL xs dy) Q) : rIx X.K x y H Q := by
  unfold itemL at h
  split at h
  · rename_i i
    rw [show y = .int i from hy]
    obtain ⟨p, vs, rfl, h1, h2⟩ := hx.seq s e
    cases q2 : atI xs i with
    | none => rw [q2] at h; exact h.none
    | some d =>
      rw [q2] at h
      obtain ⟨v, e, r⟩ := atI_reps h2 q2
      rcases h1 with h1 | h1
      · exact .inl ⟨p, vs, i, v, rfl, rfl, h1, e, h.same s r⟩
      · exact .inr (.inl ⟨p, vs, i, v, rfl, rfl, h1, e, h.same s r⟩)
  · exact h.none
theorem op2_item : Op2 X.K X.mg (fun x y H Q => rIx X.K x y H Q ∨ ∃ a v, x = .ref a ∧ DGet H a y (some v) ∧ Q v H) itemD := by
  intro F H x y dx dy Q s hx hy h
  cases dx with
  | str z =>
    rw [show x = .str z from hx]
    replace h : GP X.K X.mg F H (itemS z dy) Q := h
    unfold itemS at h
    split at h
    · rename_i i
      rw [show y = .int i from hy]
      split at h
      · rename_i hl
        rw [lim_eq] at hl
        cases q : atI z.cps.toList i with
        | none => rw [q] at h; exact h.none
        | some cc =>
          rw [q] at h
          exact .inl (.inr (.inr ⟨z, i, cc, rfl, rfl, hl, q, h.same s rfl⟩))
      · exact h.none
    · exact h.none
  | dic t ks vs =>
    obtain ⟨p, o, us, rfl, h1, h2, h3⟩ := hx
    replace h : GP X.K X.mg F H (if keyFit t dy then (lookD ks vs dy).map .d else none) Q := h
    split at h
    · rename_i hk
      have hy' : Rep X.K X.mg F dy y := by
        cases dy with
        | lst _ => cases t <;> cases hk
        | dic _ _ _ => cases t <;> cases hk
        | _ => exact hy
      obtain ⟨q, h4, h5⟩ := dget_ok s h1 h2 h3 hy' hk
      cases e : lookD ks vs dy with
      | none => rw [e] at h; exact h.none
      | some z =>
        rw [e] at h h5
        obtain ⟨v, rfl, r⟩ := h5
        exact .inr ⟨p, v, rfl, h4, h.same s r⟩
    · exact h.none
  | tup xs => exact .inl (itemL_ok s hx rfl hy h)
  | wtp xs => exact .inl (itemL_ok s hx rfl hy h)
  | lst xs => exact .inl (itemL_ok s hx rfl hy h)
  | scr xs => exact .inl (itemL_ok s hx rfl hy h)
  | _ => exact h.none
theorem ix_all (hu : X.A.units + 1 < cLine) : IxR X (fun x y H Q => rIx X.K x y H Q ∨ ∃ a v, x = .ref a ∧ DGet H a y (some v) ∧ Q v H) := by
  refine IxR.or ix_seq ?_
  intro value slice pins s σ H x y v u Q I rx ry h hs
  obtain ⟨a, w, rfl, g, q⟩ := h
  obtain rfl : v = Value.ref a := rx
  have hT := dict_typeIs I g
  unfold subscriptTail
  refine wpAny_bind ?_
  rw [getitemInPython_of_ne hT.not_modules]
  refine wpAny_bind (wpAny_specialOf hT PySem.F.slot_dict_getitem.lookup ?_)
  have fin : wpAny (model X.prog X.w) X.A (subscripted slice false (.ref a) u) (fun r s₃ => wpAny (model X.prog X.w) X.A (letTemporaryGo value (.ref a) r >>= fun _ => pure r) (EP X pins σ Q) X.xe s₃) X.xe s := by
    rw [hs]
    exact wpAny_operating (wpAny_mono (d_getItem hu I g ry fun w' s' I' r => (⟨w, H, I', r, q⟩ : EP X pins σ Q w' s')) (fun r s₃ h₃ => wpAny_bind (wpAny_letTemporaryGo (wpAny_pure h₃))) fun _ _ x => x)
  first
    | exact wpAny_pure (wpAny_bind fin)
    | exact wpAny_bind (wpAny_pure (wpAny_bind fin))
    | exact wpAny_bind fin
theorem jx_ix (hu : X.A.units + 1 < cLine) (ja : JX X T W a fa) (jb : JX X T W b fb) (hs : PlainIx b := by intro _ _; rfl) : JX X T W (.Subscript a b pos) (cIx fa fb) :=
  ⟨fun ρ σ F H fps Q ok h => WE.of (pe_ix (ix_all hu) (WE.pe X a) (WE.pe X b) hs) (bin_reads op2_item ja jb ok h)⟩
end
end J
namespace J
open PySem PySem.Spec PyProof.Rows L2
section
variable {X : Cx} {T : Tp} {W : WX} {a b c e : Expr} {es : List Expr} {pos : Pos} {fa fb fc : ECode}
def memD (x : D) (xs : List D) : Bool := xs.any fun z => eqD z x
def inS (x : D) (z : Str) : Option Bool := match x with
  | .str y => if y.length = 1 then (y.cps[0]?).map fun c => decide (c ∈ z.cps.toList) else some (!(Builtin.Str.occurrences z y 0 z.length 1).isEmpty)
  | _ => none
def inB (x y : D) : Option Bool := match y with
  | .str z => inS x z
  | .dic t ks vs => if keyFit t x then some (lookD ks vs x).isSome else none
  | y => match seqD y with
    | some xs => if okN 64 x && okNs 64 xs then some (memD x xs) else none
    | none => none
def inD (x y : D) : Option AV := (inB x y).map fun k => .d (.bl k)
def notInD (x y : D) : Option AV := (inB x y).map fun k => .d (.bl (!k))
/-- the rule's reading, with the truth turned or not -/
def rInAll (K : PySem.W.Frag) (neg : Bool) : R2 := fun x y H Q =>
  (∃ i j, x = .str i ∧ y = .str j ∧ Q (.bl (xor neg (!(Builtin.Str.occurrences j i 0 j.length 1).isEmpty))) H) ∨
  (∃ (c : Nat) (z : Str), x = .str ⟨#[c]⟩ ∧ y = .str z ∧ Q (.bl (xor neg (decide (c ∈ z.cps.toList)))) H) ∨
  (∃ a o, y = .ref a ∧ DGet H a x o ∧ Q (.bl (xor neg o.isSome)) H) ∨
  (∃ d ds n, Dp K H x d ∧ (Dp K H y (.list ds) ∨ Dp K H y (.tuple ds)) ∧ d.canLay0 = true ∧ PyData.canLayAll0 ds = true ∧ d.depth ≤ n ∧ n ≤ 64 ∧ Q (.bl (xor neg (ds.any fun z => PyData.eqv z d))) H)
theorem op_inAll (hu : X.A.units + 65 < cLine) : OpR X (compareOp .In) (rInAll X.K false) := by
  intro pins s σ H x y v u Q I rx ry h
  rcases h with ⟨i, j, rfl, rfl, q⟩ | ⟨cc, z, rfl, rfl, q⟩ | ⟨a, o, rfl, g, q⟩ | ⟨d, ds, n, hd, he, sd, se, hn, hn2, q⟩
  · exact op_in_str pins s σ H _ _ v u Q I rx ry ⟨i, j, rfl, rfl, by simpa using q⟩
  · exact op_in_sign pins s σ H _ _ v u Q I rx ry ⟨cc, z, rfl, rfl, by simpa using q⟩
  · obtain rfl : u = Value.ref a := ry
    exact d_in (by omega) I g rx fun s' I' => ⟨.bl o.isSome, H, I', rfl, by simpa using q⟩
  · obtain ⟨as, r1⟩ := Dp.reads I d x v hd rx
    have room : X.A.units + 1 + min (PyData.depthAll ds) d.depth < cLine := by omega
    rcases he with he | he
    · obtain ⟨bs, r2⟩ := Dp.reads I (.list ds) y u he ry
      exact SeqAt.in_list_reads r2 r1 se sd room ⟨.bl _, H, I, rfl, by simpa using q⟩
    · obtain ⟨bs, r2⟩ := Dp.reads I (.tuple ds) y u he ry
      exact SeqAt.in_tuple_reads r2 r1 se sd room ⟨.bl _, H, I, rfl, by simpa using q⟩
theorem op_notInAll (hu : X.A.units + 65 < cLine) : OpR X (compareOp .NotIn) (rInAll X.K true) := by
  intro pins s σ H x y v u Q I rx ry h
  rcases h with ⟨i, j, rfl, rfl, q⟩ | ⟨cc, z, rfl, rfl, q⟩ | ⟨a, o, rfl, g, q⟩ | ⟨d, ds, n, hd, he, sd, se, hn, hn2, q⟩
  · exact op_notin_str pins s σ H _ _ v u Q I rx ry ⟨i, j, rfl, rfl, by simpa using q⟩
  · exact op_notIn_sign pins s σ H _ _ v u Q I rx ry ⟨cc, z, rfl, rfl, by simpa using q⟩
  · obtain rfl : u = Value.ref a := ry
    exact d_notIn (by omega) I g rx fun s' I' => ⟨.bl (!o.isSome), H, I', rfl, by simpa using q⟩
  · obtain ⟨as, r1⟩ := Dp.reads I d x v hd rx
    have room : X.A.units + 1 + min (PyData.depthAll ds) d.depth < cLine := by omega
    rcases he with he | he
    · obtain ⟨bs, r2⟩ := Dp.reads I (.list ds) y u he ry
      exact SeqAt.notIn_list_reads r2 r1 se sd room ⟨.bl _, H, I, rfl, by simpa using q⟩
    · obtain ⟨bs, r2⟩ := Dp.reads I (.tuple ds) y u he ry
      exact SeqAt.notIn_tuple_reads r2 r1 se sd room ⟨.bl _, H, I, rfl, by simpa using q⟩
theorem in_core {K : PySem.W.Frag} {mg : Str → Option Value} {neg : Bool} {F H : Hp} {x y : V} {dx dy : D} {Q : VK} {k : Bool} (s : Sub F H) (hx : RepT K mg F H dx x) (hy : RepT K mg F H dy y) (e : inB dx dy = some k) (h : Q (.bl (xor neg k)) H) : rInAll K neg x y H Q := by
  have seq : ∀ xs, seqD dy = some xs → (if okN 64 dx && okNs 64 xs then some (memD dx xs) else none) = some k → rInAll K neg x y H Q := fun xs es e => by
    split at e
    · rename_i hk
      simp only [Bool.and_eq_true] at hk
      cases e
      obtain ⟨l1, l2⟩ := okN_lay 64 dx hk.1
      obtain ⟨l3, l4⟩ := okNs_lay 64 xs hk.2
      obtain ⟨p, vs, rfl, h1, h2⟩ := hy.seq s es
      refine .inr (.inr (.inr ⟨dx.pd, pds xs, 64, hx.dp s hk.1, ?_, l1, l3, l2, Nat.le_refl _, ?_⟩))
      · rcases h1 with h1 | h1
        · exact .inl (.lst h1 (Reps.dp s 64 xs vs hk.2 h2))
        · exact .inr (.tup h1 (Reps.dp s 64 xs vs hk.2 h2))
      · rw [any_pd hk.1 xs 64 hk.2]
        exact h
    · cases e
  cases dy with
  | str z =>
    rw [show y = .str z from hy]
    have e : inS dx z = some k := e
    cases dx with
    | str w =>
      rw [show x = .str w from hx]
      unfold inS at e
      dsimp only at e
      split at e
      · rename_i hl
        cases q : w.cps[0]? with
        | none => rw [q] at e; cases e
        | some cc =>
          rw [q] at e
          cases e
          refine .inr (.inl ⟨cc, z, ?_, rfl, h⟩)
          have : w = ⟨#[cc]⟩ := by
            cases w with
            | mk cps =>
              have hl : cps.size = 1 := hl
              have q : cps[0]? = some cc := q
              congr 1
              apply Array.ext
              · simp [hl]
              · intro i h1 h2
                have : i = 0 := by omega
                subst this
                simp
                have := (Array.getElem?_eq_some_iff.mp q).2
                exact this
          rw [this]
      · cases e
        exact .inl ⟨w, z, rfl, rfl, h⟩
    | _ => cases e
  | dic t ks vs =>
    obtain ⟨p, o, us, rfl, h1, h2, h3⟩ := hy
    have e : (if keyFit t dx then some (lookD ks vs dx).isSome else none) = some k := e
    split at e
    · rename_i hk
      cases e
      have hx' : Rep K mg F dx x := by
        cases dx with
        | lst _ => cases t <;> cases hk
        | dic _ _ _ => cases t <;> cases hk
        | _ => exact hx
      obtain ⟨q, h4, h5⟩ := dget_ok s h1 h2 h3 hx' hk
      refine .inr (.inr (.inl ⟨p, q, rfl, h4, ?_⟩))
      have : q.isSome = (lookD ks vs dx).isSome := by
        unfold LookOk at h5
        split at h5
        · rename_i e1
          obtain ⟨v, e2, _⟩ := h5
          rw [e1, e2] <;> rfl
        · rename_i e1
          rw [e1, h5]; rfl
      rw [this]
      exact h
    · cases e
  | tup xs => exact seq xs rfl e
  | wtp xs => exact seq xs rfl e
  | lst xs => exact seq xs rfl e
  | scr xs => exact seq xs rfl e
  | _ => cases e
theorem op2_in : Op2 X.K X.mg (rInAll X.K false) inD := by
  intro F H x y dx dy Q s hx hy h
  unfold inD at h
  cases q : inB dx dy with
  | none => rw [q] at h; exact h.none
  | some k => rw [q] at h; exact in_core s hx hy q (h.same s (by simp [Rep]))
theorem op2_notIn : Op2 X.K X.mg (rInAll X.K true) notInD := by
  intro F H x y dx dy Q s hx hy h
  unfold notInD at h
  cases q : inB dx dy with
  | none => rw [q] at h; exact h.none
  | some k => rw [q] at h; exact in_core s hx hy q (h.same s (by simp [Rep]))
def isNonD : D → Bool
  | .non => true
  | _ => false
def isND (x y : D) : Option AV := match y with
  | .non => some (.d (.bl (isNonD x)))
  | _ => none
def notND (x y : D) : Option AV := match y with
  | .non => some (.d (.bl (!isNonD x)))
  | _ => none
theorem isN_v {K : PySem.W.Frag} {mg : Str → Option Value} {F H : Hp} {x : V} {dx : D} (hx : RepT K mg F H dx x) : decide (x = .non) = isNonD dx := by
  cases dx with
  | non => rw [show x = .non from hx]; rfl
  | bl b => rw [show x = .bl b from hx]; rfl
  | int i => rw [show x = .int i from hx]; rfl
  | str i => rw [show x = .str i from hx]; rfl
  | tup _ => obtain ⟨a, _, rfl, _⟩ := hx; rfl
  | wtp _ => obtain ⟨a, _, rfl, _⟩ := hx; rfl
  | lst _ => obtain ⟨a, _, rfl, _⟩ := hx; rfl
  | scr _ => obtain ⟨a, _, rfl, _⟩ := hx; rfl
  | dic _ _ _ => obtain ⟨a, _, _, rfl, _⟩ := hx; rfl
  | ins _ _ _ => obtain ⟨a, _, _, _, rfl, _⟩ := hx; rfl
theorem op2_isN : Op2 X.K X.mg (fun x y H Q => y = .non ∧ Q (.bl (decide (x = .non))) H) isND := by
  intro F H x y dx dy Q s hx hy h
  unfold isND at h
  split at h
  · exact ⟨hy, by rw [isN_v hx]; exact h.same s rfl⟩
  · exact h.none
theorem op2_notN : Op2 X.K X.mg (fun x y H Q => y = .non ∧ Q (.bl (!decide (x = .non))) H) notND := by
  intro F H x y dx dy Q s hx hy h
  unfold notND at h
  split at h
  · refine ⟨hy, ?_⟩
    rw [isN_v hx]
    exact h.same s rfl
  · exact h.none
/-- x is True, x is False -/
def isBD (x y : D) : Option AV := match x, y with
  | .bl a, .bl b => some (.d (.bl (decide (a = b))))
  | _, _ => none
def notBD (x y : D) : Option AV := match x, y with
  | .bl a, .bl b => some (.d (.bl (!decide (a = b))))
  | _, _ => none
theorem op2_isB : Op2 X.K X.mg (fun x y H Q => ∃ a b, x = .bl a ∧ y = .bl b ∧ Q (.bl (decide (a = b))) H) isBD := by
  intro F H x y dx dy Q s hx hy h
  unfold isBD at h
  split at h
  · exact ⟨_, _, hx, hy, h.same s rfl⟩
  · exact h.none
theorem op2_notB : Op2 X.K X.mg (fun x y H Q => ∃ a b, x = .bl a ∧ y = .bl b ∧ Q (.bl (!decide (a = b))) H) notBD := by
  intro F H x y dx dy Q s hx hy h
  unfold notBD at h
  split at h
  · exact ⟨_, _, hx, hy, h.same s rfl⟩
  · exact h.none
def cUn (g : D → Option AV) (fa : ECode) : ECode := fun ρ => (fa ρ).bind fun p => fin (view1 g p.1 p.2) p.2
def negD : D → Option AV
  | .int i => some (.d (.int (-i)))
  | _ => none
def invD : D → Option AV
  | .int i => some (.d (.int (Builtin.bitNot i)))
  | _ => none
def Op1 (K : PySem.W.Frag) (mg : Str → Option Value) (r : V → Hp → VK → Prop) (g : D → Option AV) : Prop :=
  ∀ (F H : Hp) (x : V) (dx : D) (Q : VK), Sub F H → RepT K mg F H dx x → GP K mg F H (g dx) Q → r x H Q
theorem un_reads {r : V → Hp → VK → Prop} {g : D → Option AV} (hr : Op1 X.K X.mg r g) (ja : JX X T W a fa) {ρ : Env} {σ : L2.St} {F H : Hp} {fps : Fps} {Q : VK} (ok : Ok X.K X.mg ρ σ F H fps) (h : PX X.K X.mg T W σ F H fps (cUn g fa ρ) Q) :
    tUn r (WE X a) σ H Q := by
  refine ja.next ok FP.px h fun av ρ1 v F1 H1 fps1 t1 ra h1 => ?_
  have h1 := PX.from t1 h1
  dsimp only at h1
  unfold view1 at h1
  split at h1
  · rename_i x ex
    exact hr F1 H1 v x Q t1.ok.sub (av.view_ok t1.ok ra ex) (GP.of_px t1.ok h1)
  · exact h1.elim
theorem jx_un {op : UnaryOp} {r : V → Hp → VK → Prop} {g : D → Option AV} (ho : UnR X (unaryOp op) r) (hr : Op1 X.K X.mg r g) (ja : JX X T W a fa) : JX X T W (.UnaryOp op a pos) (cUn g fa) :=
  ⟨fun ρ σ F H fps Q ok h => WE.of (pe_un ho (WE.pe X a)) (un_reads hr ja ok h)⟩
theorem op1_neg : Op1 X.K X.mg (rU fun i => .int (-i)) negD := by
  intro F H x dx Q s hx h
  unfold negD at h
  split at h
  · exact ⟨_, hx, h.same s rfl⟩
  · exact h.none
theorem op1_inv : Op1 X.K X.mg (rU fun i => .int (Builtin.bitNot i)) invD := by
  intro F H x dx Q s hx h
  unfold invD at h
  split at h
  · exact ⟨_, hx, h.same s rfl⟩
  · exact h.none
def cutD (xs : List D) (lo hi : Option Int) : List D := (xs.drop (HT.sIx xs.length 0 lo)).take (HT.sIx xs.length xs.length hi - HT.sIx xs.length 0 lo)
theorem cut_reps {K : PySem.W.Frag} {mg : Str → Option Value} {F : Hp} {ds : List D} {vs : List V} (h : Reps K mg F ds vs) (lo hi : Option Int) : Reps K mg F (cutD ds lo hi) (cutV vs lo hi) := by
  unfold cutD cutV
  rw [h.length]
  exact (h.drop _).take _
def sliceD (x : D) (lo hi : Option Int) : Option AV := match x with
  | .lst xs => some (.o (.b (.l (cutD xs lo hi))))
  | .tup xs => some (.d (.tup (cutD xs lo hi)))
  | .wtp xs => if HT.sIx xs.length 0 lo = 0 ∧ HT.sIx xs.length xs.length hi = xs.length then some (.d (.wtp xs)) else some (.d (.tup (cutD xs lo hi)))
  | .str z => if z.length ≤ lim then some (.d (.str (cutS z lo hi))) else none
  | _ => none
abbrev repO : Hp → Hp → Option Int → Option Int → Prop := fun _ _ a b => b = a
def WO (X : Cx) (e : Option Expr) : TO := fun σ H Q => ∀ t, PO X e t → t σ H Q
/-- a slice's part -/
structure JO (X : Cx) (T : Tp) (W : WX) (e : Option Expr) (f : Env → Out (Option Int × Env)) : Prop where
  run : ∃ t, PO X e t ∧ ∀ (ρ : Env) (σ : L2.St) (F H : Hp) (fps : Fps) (Q : Option Int → Hp → Prop), Ok X.K X.mg ρ σ F H fps → PY X.K X.mg T W σ F H fps repO (f ρ) Q → t σ H Q
def cNone : Env → Out (Option Int × Env) := fun ρ => .ok (none, ρ)
def cSome (f : ECode) : Env → Out (Option Int × Env) := fun ρ => (f ρ).bind fun p => match p.1 with
  | .d (.int i) => .ok (some i, p.2)
  | _ => .bad
theorem jo_none : JO X T W none cNone := ⟨⟨tNoPart, po_none, fun ρ σ F H fps Q ok h => PY.ret h ok rfl⟩⟩
theorem jo_some (ja : JX X T W a fa) : JO X T W (some a) (cSome fa) := by
  refine ⟨⟨_, po_some (WE.pe X a), fun ρ σ F H fps Q ok h => ?_⟩⟩
  refine ja.next ok FP.py h fun av ρ1 v F1 H1 fps1 t1 ra h1 => ?_
  have h1 := PY.from t1 h1
  cases av with
  | d x =>
    cases x with
    | int i => exact ⟨i, ra, h1.ret t1.ok rfl⟩
    | _ => exact h1.elim
  | _ => exact h1.elim
def cSl (fa : ECode) (fl fh : Env → Out (Option Int × Env)) : ECode := fun ρ => (fa ρ).bind fun p => (fl p.2).bind fun l => (fh l.2).bind fun h => fin (view1 (fun x => sliceD x l.1 h.1) p.1 h.2) h.2
theorem JO.next {f : Env → Out (Option Int × Env)} {t : TO} {γ : Type} {Z : Out γ → Prop} {ρ : Env} {σ : L2.St} {F H : Hp} {fps : Fps} (j : ∀ (ρ : Env) (σ : L2.St) (F H : Hp) (fps : Fps) (Q : Option Int → Hp → Prop), Ok X.K X.mg ρ σ F H fps → PY X.K X.mg T W σ F H fps repO (f ρ) Q → t σ H Q)
    {k : Option Int × Env → Out γ} {R : Option Int → Hp → Prop} (ok : Ok X.K X.mg ρ σ F H fps) (z : FP X.K X.mg T W σ F H fps Z) (h : Z ((f ρ).bind k))
    (hk : ∀ b ρ1 F1 H1 fps1, Tr X.K X.mg T σ F H fps ρ1 σ F1 H1 fps1 → Z (k (b, ρ1)) → R b H1) : t σ H R := by
  refine j ρ σ F H fps R ok ?_
  cases q : f ρ with
  | ok p =>
    obtain ⟨b, ρ1⟩ := p
    rw [q] at h
    intro b' F1 H1 fps1 t e
    subst e
    exact hk b' ρ1 F1 H1 fps1 t h
  | exc x ρ1 => rw [q] at h; exact z.exc x ρ1 h
  | bad => rw [q] at h; exact z.bad h
theorem jx_slice {p2 : Pos} {lo hi : Option Expr} {fl fh : Env → Out (Option Int × Env)} (ja : JX X T W a fa) (jl : JO X T W lo fl) (jh : JO X T W hi fh) : JX X T W (.Subscript a (.Slice lo hi none p2) pos) (cSl fa fl fh) := by
  obtain ⟨tl, pl, rl⟩ := jl.run
  obtain ⟨th, ph, rh⟩ := jh.run
  refine ⟨fun ρ σ F H fps Q ok h => WE.of (pe_slice (sl_list.or (sl_tupA.or sl_str)) (WE.pe X a) pl ph) ?_⟩
  refine ja.next ok FP.px h fun av ρ1 v F1 H1 fps1 t1 ra h1 => ?_
  refine JO.next rl t1.ok FP.px (PX.from t1 h1) fun lo ρ2 F2 H2 fps2 t2 h2 => ?_
  refine JO.next rh t2.ok FP.px (PX.from t2 h2) fun hi ρ3 F3 H3 fps3 t3 h3 => ?_
  have h3 := PX.from t3 h3
  have ra := (ra.stay t2).stay t3
  dsimp only at h3
  unfold view1 at h3
  split at h3
  · rename_i x ex
    have hx := av.view_ok t3.ok ra ex
    replace h3 : GP X.K X.mg F3 H3 (sliceD x lo hi) Q := GP.of_px t3.ok h3
    have s := t3.ok.sub
    unfold sliceD at h3
    split at h3
    · rename_i xs
      obtain ⟨p, vs, rfl, q1, q2⟩ := hx
      exact .inl ⟨p, vs, rfl, .of q1, fun p hp => h3.lst s (cut_reps q2 lo hi) hp⟩
    · rename_i xs
      obtain ⟨p, vs, rfl, q1, q2⟩ := hx
      refine .inr (.inl ⟨p, vs, rfl, .of (s.tup q1), fun ⟨e1, e2⟩ => ?_, fun _ p hp => h3.tup s (cut_reps q2 lo hi) hp⟩)
      refine h3.same s ⟨p, vs, rfl, q1, ?_⟩
      have := cut_reps q2 lo hi
      have e : cutV vs lo hi = vs := by
        unfold cutV
        rw [e1, e2]; simp
      rw [e] at this
      exact this
    · rename_i xs
      obtain ⟨p, vs, rfl, q1, q2⟩ := hx
      have hl := q2.length
      split at h3
      · rename_i e
        rw [hl] at e
        exact .inr (.inl ⟨p, vs, rfl, sqT_sub s q1, fun _ => h3.same s ⟨p, vs, rfl, q1, q2⟩, fun ne => absurd e ne⟩)
      · rename_i e
        rw [hl] at e
        exact .inr (.inl ⟨p, vs, rfl, sqT_sub s q1, fun z => absurd z e, fun _ p hp => h3.tup s (cut_reps q2 lo hi) hp⟩)
    · rename_i z
      rw [show v = .str z from hx]
      split at h3
      · rename_i hl
        rw [lim_eq] at hl
        exact .inr (.inr ⟨z, rfl, hl, h3.same s rfl⟩)
      · exact h3.none
    · exact h3.none
  · exact h3.elim
end
end J
namespace J
open PySem PySem.Spec PyProof.Rows L2
section
variable {X : Cx} {T : Tp} {W : WX} {a b c e : Expr} {es : List Expr} {pos : Pos} {fa fb fc : ECode}
theorem getD_look {K : PySem.W.Frag} {mg : Str → Option Value} {F : Hp} {y : Str} {d : D} : ∀ {xs : List D} {fs : List (Str × V)}, Reps K mg F xs (fs.map (·.2)) → getD (fs.map (·.1)) xs y = some d → ∃ v, fs.lookup y = some v ∧ Rep K mg F d v
  | [], fs, h, e => by
    cases fs <;> cases e
  | x :: xs, [], h, e => by cases e
  | x :: xs, (n, u) :: fs, h, e => by
    obtain ⟨v, r, e1, h1, h2⟩ := h
    simp only [List.map_cons, List.cons.injEq] at e1
    obtain ⟨rfl, rfl⟩ := e1
    rw [List.map_cons] at e
    unfold getD at e
    rw [List.lookup_cons]
    split at e
    · rename_i hn
      cases e
      have hn : n = y := hn
      subst hn
      exact ⟨u, by simp, h1⟩
    · rename_i hn
      have hb : (y == n) = false := by simp; exact fun z => hn z.symm
      rw [hb]
      exact getD_look h2 e
theorem getFV_look {K : PySem.W.Frag} {mg : Str → Option Value} {F H : Hp} {y : Str} {f : FV} : ∀ {xs : List FV} {fs : List (Str × V)} {fp : List Addr}, RepFs K mg F H xs (fs.map (·.2)) fp → getFV (fs.map (·.1)) xs y = some f → ∃ v, fs.lookup y = some v
  | [], fs, fp, h, e => by
    cases fs <;> cases e
  | x :: xs, [], fp, h, e => by cases e
  | x :: xs, (n, u) :: fs, fp, h, e => by
    rw [List.map_cons] at e
    unfold getFV at e
    rw [List.lookup_cons]
    split at e
    · rename_i hn
      have hn : n = y := hn
      subst hn
      exact ⟨u, by simp⟩
    · rename_i hn
      have hb : (y == n) = false := by simp; exact fun z => hn z.symm
      rw [hb]
      cases x with
      | d x =>
        obtain ⟨v, r, e1, h1, h2⟩ := h
        simp only [List.map_cons, List.cons.injEq] at e1
        obtain ⟨rfl, rfl⟩ := e1
        exact getFV_look h2 e
      | o w =>
        obtain ⟨v, r, f1, f2, e1, _, h1, h2⟩ := h
        simp only [List.map_cons, List.cons.injEq] at e1
        obtain ⟨rfl, rfl⟩ := e1
        exact getFV_look h2 e
/-- the field y of an instance of one of the classes cs; k: it is not stored meanwhile -/
def cFld (cs : List Str) (k : Bool) (y : Str) (fa : ECode) : ECode := fun ρ => (fa ρ).bind fun p => match p.1 with
  | .d (.ins c ns vs) => if c ∈ cs then (Out.of (getD ns vs y)).bind fun x => .ok (.d x, p.2) else .bad
  | .s j => (match p.2[j]? with
    | some (some (.o (.i c ns fs))) => if c ∈ cs then (match getFV ns fs y with
      | some (.d x) => .ok (.d x, p.2)
      | some (.o _) => if k then .ok (.g j y, p.2) else .bad
      | none => .bad) else .bad
    | _ => .bad)
  | _ => .bad
theorem jx_fld {cs : List Str} {k : Bool} {y : Str} (hF : ∀ c ∈ cs, ∀ C, X.mg c = some (.ref C) → Cls X.K C ∧ NoAttr X.K C y) (hk : k = true → T.kf y = true) (ja : JX X T W a fa) (hb : attributeBase a y X.env (eval a X.env) = eval a X.env := by rfl) :
    JX X T W (.Attribute a y pos) (cFld cs k y fa) := by
  refine ⟨fun ρ σ F H fps Q ok h => WE.of (pe_fld (WE.pe X a) hb) ?_⟩
  refine ja.next ok FP.px h fun av ρ1 v F1 H1 fps1 t1 ra h1 => ?_
  have h1 := PX.from t1 h1
  cases av with
  | d x =>
    cases x with
    | ins c ns vs =>
      dsimp only at h1
      split at h1
      · rename_i hc
        obtain ⟨p, C, dx, fs, rfl, q1, q2, q3, q4⟩ := ra
        obtain ⟨cl, na⟩ := hF c hc C q1
        cases e : getD ns vs y with
        | none => rw [e] at h1; exact h1.elim
        | some d =>
          rw [e] at h1
          rw [← q3] at e
          obtain ⟨u, e1, r⟩ := getD_look q4 e
          exact ⟨p, C, dx, fs, u, rfl, t1.ok.sub.ins q2, cl, na, e1, h1.ret t1.ok r⟩
      · exact h1.elim
    | _ => exact h1.elim
  | s j =>
    dsimp only at h1
    split at h1
    · rename_i c ns fs hx
      split at h1
      · rename_i hc
        obtain ⟨u, hu, r⟩ := t1.ok.slot j _ hx
        have ra : σ[j]? = some (some v) := ra
        rw [ra] at hu; cases hu
        obtain ⟨p, rfl, hO, nd⟩ := r
        obtain ⟨C, dx, vfs, fp', q0, q1, q2, q3, q4, q5⟩ := hO
        obtain ⟨cl, na⟩ := hF c hc C q2
        split at h1
        · rename_i x hg
          rw [← q4] at hg
          obtain ⟨w, e1⟩ := getFV_look q5 hg
          obtain ⟨f, e2, e3⟩ := q5.at e1
          rw [hg] at e2; cases e2
          exact ⟨p, C, dx, vfs, w, rfl, q3, cl, na, e1, h1.ret t1.ok e3⟩
        · rename_i w0 hg
          split at h1
          · rename_i hk'
            rw [← q4] at hg
            obtain ⟨w, e1⟩ := getFV_look q5 hg
            exact ⟨p, C, dx, vfs, w, rfl, q3, cl, na, e1, h1.ret t1.ok ⟨hk hk', p, C, dx, vfs, ra, q3, e1⟩⟩
          · exact h1.elim
        · exact h1.elim
      · exact h1.elim
    · exact h1.elim
  | o w => exact h1.elim
  | g j y => exact h1.elim
structure JV (X : Cx) (T : Tp) (W : WX) (e : Expr) (f : ECode) : Prop where
  run : JX X T W e f
def cB1 (g : D → Option AV) (fa : ECode) : ECode := cUn g fa
/-- a call of a built-in with one argument, by its rule of values -/
def Call1 (K : PySem.W.Frag) (mg : Str → Option Value) (r : List V → Hp → VK → Prop) (g : D → Option AV) : Prop :=
  ∀ (F H : Hp) (x : V) (dx : D) (Q : VK), Sub F H → RepT K mg F H dx x → GP K mg F H (g dx) Q → r [x] H Q
theorem call1_reads {r : List V → Hp → VK → Prop} {g : D → Option AV} (hr : Call1 X.K X.mg r g) (ja : JX X T W a fa) {ρ : Env} {σ : L2.St} {F H : Hp} {fps : Fps} {Q : VK} (ok : Ok X.K X.mg ρ σ F H fps) (h : PX X.K X.mg T W σ F H fps (cUn g fa ρ) Q) :
    tCB r (tCons (WE X a) tNil) σ H Q := by
  refine ja.next ok FP.px h fun av ρ1 v F1 H1 fps1 t1 ra h1 => ?_
  have h1 := PX.from t1 h1
  dsimp only at h1
  unfold view1 at h1
  split at h1
  · rename_i x ex
    exact hr F1 H1 v x Q t1.ok.sub (av.view_ok t1.ok ra ex) (GP.of_px t1.ok h1)
  · exact h1.elim
theorem pa1 {ta : TE} (ha : PE X a ta) (hs : starEach [a] X.env = [(false, eval a X.env)] := by rfl) : PA X [a] (tCons ta tNil) := pa_cons ha pa_nil hs
theorem jx_b1 {id : String} {x : Str} {p : Pos} {r : List V → Hp → VK → Prop} {g : D → Option AV} (hc : CallR X (.builtin id) r) (hr : Call1 X.K X.mg r g) (hg : Gl X x) (hm : X.mg x = none) (hv : bootBuiltins x = some (.builtin id)) (ja : JX X T W a fa)
    (hs : starEach [a] X.env = [(false, eval a X.env)] := by rfl) (hn : x ≠ "__name__" := by decide) (hdb : (x == ("__debug__" : Str)) = false := by decide) : JX X T W (.Call (.Name x p) [a] [] pos) (cUn g fa) :=
  ⟨fun ρ σ F H fps Q ok h => WE.of (pe_callB hc hg hm hv (pa1 (WE.pe X a) hs) hn hdb hs) (call1_reads hr ja ok h)⟩
theorem jx_t1 {id : String} {x : Str} {p : Pos} {r : List V → Hp → VK → Prop} {g : D → Option AV} (hc : CallR X (.type id) r) (hr : Call1 X.K X.mg r g) (hg : Gl X x) (hm : X.mg x = none) (hv : bootBuiltins x = some (.type id)) (ja : JX X T W a fa)
    (hs : starEach [a] X.env = [(false, eval a X.env)] := by rfl) (hn : x ≠ "__name__" := by decide) (hdb : (x == ("__debug__" : Str)) = false := by decide) : JX X T W (.Call (.Name x p) [a] [] pos) (cUn g fa) :=
  ⟨fun ρ σ F H fps Q ok h => WE.of (pe_callTy hc hg hm hv (pa1 (WE.pe X a) hs) hn hdb hs) (call1_reads hr ja ok h)⟩

def lenD : D → Option AV
  | .str z => if z.length ≤ lim then some (.d (.int z.length)) else none
  | .tup xs => some (.d (.int xs.length))
  | .wtp xs => some (.d (.int xs.length))
  | .lst xs => some (.d (.int xs.length))
  | .scr xs => some (.d (.int xs.length))
  | _ => none
theorem call1_len : Call1 X.K X.mg (fun xs H Q => ∃ x n, xs = [x] ∧ LenV X.K x H n ∧ Q (.int n) H) lenD := by
  intro F H x dx Q s hx h
  have seq : ∀ xs, seqD dx = some xs → GP X.K X.mg F H (some (.d (.int xs.length))) Q → ∃ y n, [x] = [y] ∧ LenV X.K y H n ∧ Q (.int n) H := fun xs e h => by
    obtain ⟨p, vs, rfl, h1, h2⟩ := hx.seq s e
    rw [h2.length] at h
    exact ⟨.ref p, vs.length, rfl, h1.imp (fun z => ⟨vs, z, rfl⟩) (fun z => ⟨vs, z, rfl⟩), h.same s rfl⟩
  cases dx with
  | str z =>
    rw [show x = .str z from hx]
    unfold lenD at h
    dsimp only at h
    split at h
    · rename_i hl
      rw [lim_eq] at hl
      exact ⟨_, z.length, rfl, ⟨hl, rfl⟩, h.same s rfl⟩
    · exact h.none
  | tup xs => exact seq xs rfl h
  | wtp xs => exact seq xs rfl h
  | lst xs => exact seq xs rfl h
  | scr xs => exact seq xs rfl h
  | _ => exact h.none
def absD : D → Option AV
  | .int i => some (.d (.int (if i < 0 then -i else i)))
  | _ => none
theorem call1_abs : Call1 X.K X.mg (fun xs H Q => ∃ i, xs = [.int i] ∧ Q (.int (if i < 0 then -i else i)) H) absD := by
  intro F H x dx Q s hx h
  unfold absD at h
  split at h
  · rename_i i
    rw [show x = .int i from hx]
    exact ⟨i, rfl, h.same s rfl⟩
  · exact h.none
def intD : D → Option AV
  | .int i => some (.d (.int i))
  | .bl k => some (.d (.int (if k then 1 else 0)))
  | _ => none
theorem call1_int : Call1 X.K X.mg (fun xs H Q => (∃ i, xs = [.int i] ∧ Q (.int i) H) ∨ ∃ k, xs = [.bl k] ∧ Q (.int (if k then 1 else 0)) H) intD := by
  intro F H x dx Q s hx h
  unfold intD at h
  split at h
  · rename_i i
    rw [show x = .int i from hx]
    exact .inl ⟨i, rfl, h.same s rfl⟩
  · rename_i i
    rw [show x = .bl i from hx]
    exact .inr ⟨i, rfl, h.same s rfl⟩
  · exact h.none
def strD : D → Option AV
  | .int i => if i.natAbs.log2 < 1920 then some (.d (.str (toString i))) else none
  | _ => none
theorem call1_str : Call1 X.K X.mg (fun xs H Q => ∃ i, xs = [.int i] ∧ i.natAbs.log2 < 1920 ∧ Q (.str (toString i)) H) strD := by
  intro F H x dx Q s hx h
  unfold strD at h
  split at h
  · rename_i i
    rw [show x = .int i from hx]
    split at h
    · rename_i hl; exact ⟨i, rfl, hl, h.same s rfl⟩
    · exact h.none
  · exact h.none
def listD : D → Option AV
  | .tup xs => some (.o (.b (.l xs)))
  | .wtp xs => some (.o (.b (.l xs)))
  | .lst xs => some (.o (.b (.l xs)))
  | .scr xs => some (.o (.b (.l xs)))
  | _ => none
theorem call1_list : Call1 X.K X.mg (fun xs H Q => ∃ p ys, xs = [.ref p] ∧ (SqL X.K H p ys ∨ SqT X.K H p ys) ∧ ∀ l, H l = none → Q (.ref l) (upd H l (.lst ys))) listD := by
  intro F H x dx Q s hx h
  have seq : ∀ xs, seqD dx = some xs → GP X.K X.mg F H (some (.o (.b (.l xs)))) Q → ∃ p' ys, [x] = [.ref p'] ∧ (SqL X.K H p' ys ∨ SqT X.K H p' ys) ∧ ∀ l, H l = none → Q (.ref l) (upd H l (.lst ys)) := fun xs e h => by
    obtain ⟨p, vs, rfl, h1, h2⟩ := hx.seq s e
    exact ⟨p, vs, rfl, h1, fun l hl => h.lst s h2 hl⟩
  cases dx with
  | tup xs => exact seq xs rfl h
  | wtp xs => exact seq xs rfl h
  | lst xs => exact seq xs rfl h
  | scr xs => exact seq xs rfl h
  | _ => exact h.none
def tupD : D → Option AV
  | .tup xs => some (.d (.tup xs))
  | .wtp xs => some (.d (.wtp xs))
  | .lst xs => some (.d (.tup xs))
  | .scr xs => some (.d (.tup xs))
  | _ => none
theorem call1_tup : Call1 X.K X.mg (fun xs H Q => ∃ p ys, xs = [.ref p] ∧ ((SqL X.K H p ys ∧ ∀ l, H l = none → Q (.ref l) (upd H l (.tup ys))) ∨ (SqT X.K H p ys ∧ Q (.ref p) H))) tupD := by
  intro F H x dx Q s hx h
  cases dx with
  | tup xs =>
    obtain ⟨p, vs, rfl, h1, h2⟩ := hx
    exact ⟨p, vs, rfl, .inr ⟨.of (s.tup h1), h.same s ⟨p, vs, rfl, h1, h2⟩⟩⟩
  | wtp xs =>
    obtain ⟨p, vs, rfl, h1, h2⟩ := hx
    exact ⟨p, vs, rfl, .inr ⟨sqT_sub s h1, h.same s ⟨p, vs, rfl, h1, h2⟩⟩⟩
  | lst xs =>
    obtain ⟨p, vs, rfl, h1, h2⟩ := hx
    exact ⟨p, vs, rfl, .inl ⟨.of h1, fun l hl => h.tup s h2 hl⟩⟩
  | scr xs =>
    obtain ⟨p, vs, rfl, h1, h2⟩ := hx
    exact ⟨p, vs, rfl, .inl ⟨sqL_sub s h1, fun l hl => h.tup s h2 hl⟩⟩
  | _ => exact h.none
/-- a list of numbers, as it is seen -/
def intsD (d : D) : Option (List Int) := match d with
  | .lst xs => allInt xs
  | .scr xs => allInt xs
  | _ => none
theorem RepT.ints {K : PySem.W.Frag} {mg : Str → Option Value} {F H : Hp} (s : Sub F H) {d : D} {v : V} {ns : List Int} (h : RepT K mg F H d v) (e : intsD d = some ns) : ∃ a, v = .ref a ∧ SqL K H a (ns.map V.int) := by
  cases d with
  | lst xs =>
    obtain ⟨p, vs, rfl, h1, h2⟩ := h
    have := allInt_some (show allInt xs = some ns from e)
    subst this
    exact ⟨p, rfl, by rw [← h2.ints]; exact .of h1⟩
  | scr xs =>
    obtain ⟨p, vs, rfl, h1, h2⟩ := h
    have := allInt_some (show allInt xs = some ns from e)
    subst this
    exact ⟨p, rfl, by rw [← h2.ints]; exact sqL_sub s h1⟩
  | _ => cases e
def sumD (d : D) : Option AV := (intsD d).map fun ns => .d (.int ns.sum)
theorem call1_sum : Call1 X.K X.mg (rSum X.K) sumD := by
  intro F H x dx Q s hx h
  unfold sumD at h
  cases e : intsD dx with
  | none => rw [e] at h; exact h.none
  | some ns =>
    rw [e] at h
    obtain ⟨a, rfl, h1⟩ := hx.ints s e
    exact ⟨a, ns, rfl, h1, h.same s rfl⟩
def maxI : List Int → Int
  | [] => 0
  | [x] => x
  | x :: xs => max x (maxI xs)
def minI : List Int → Int
  | [] => 0
  | [x] => x
  | x :: xs => min x (minI xs)
theorem maxI_mem : ∀ {ns : List Int}, ns ≠ [] → maxI ns ∈ ns ∧ ∀ y ∈ ns, y ≤ maxI ns
  | [], h => absurd rfl h
  | [x], _ => by simp [maxI]
  | x :: y :: r, _ => by
    obtain ⟨h1, h2⟩ := maxI_mem (ns := y :: r) (by simp)
    have e : maxI (x :: y :: r) = max x (maxI (y :: r)) := rfl
    rw [e]
    refine ⟨?_, fun z hz => ?_⟩
    · rcases Int.le_total x (maxI (y :: r)) with q | q
      · rw [Int.max_eq_right q]; exact List.mem_cons_of_mem _ h1
      · rw [Int.max_eq_left q]; exact List.mem_cons_self
    · rcases List.mem_cons.mp hz with rfl | hz
      · exact Int.le_max_left _ _
      · exact Int.le_trans (h2 z hz) (Int.le_max_right _ _)
theorem minI_mem : ∀ {ns : List Int}, ns ≠ [] → minI ns ∈ ns ∧ ∀ y ∈ ns, minI ns ≤ y
  | [], h => absurd rfl h
  | [x], _ => by simp [minI]
  | x :: y :: r, _ => by
    obtain ⟨h1, h2⟩ := minI_mem (ns := y :: r) (by simp)
    have e : minI (x :: y :: r) = min x (minI (y :: r)) := rfl
    rw [e]
    refine ⟨?_, fun z hz => ?_⟩
    · rcases Int.le_total x (minI (y :: r)) with q | q
      · rw [Int.min_eq_left q]; exact List.mem_cons_self
      · rw [Int.min_eq_right q]; exact List.mem_cons_of_mem _ h1
    · rcases List.mem_cons.mp hz with rfl | hz
      · exact Int.min_le_left _ _
      · exact Int.le_trans (Int.min_le_right _ _) (h2 z hz)
def maxD (d : D) : Option AV := match intsD d with
  | some (n :: ns) => some (.d (.int (maxI (n :: ns))))
  | _ => none
def minD (d : D) : Option AV := match intsD d with
  | some (n :: ns) => some (.d (.int (minI (n :: ns))))
  | _ => none
theorem call1_max : Call1 X.K X.mg (rMax X.K) maxD := by
  intro F H x dx Q s hx h
  unfold maxD at h
  split at h
  · rename_i n ns e
    obtain ⟨a, rfl, h1⟩ := hx.ints s e
    obtain ⟨m1, m2⟩ := maxI_mem (ns := n :: ns) (by simp)
    refine ⟨a, n :: ns, rfl, h1, by simp, fun m k1 k2 => ?_⟩
    have : m = maxI (n :: ns) := Int.le_antisymm (m2 m k1) (k2 _ m1)
    rw [this]
    exact h.same s rfl
  · exact h.none
theorem call1_min : Call1 X.K X.mg (rMin X.K) minD := by
  intro F H x dx Q s hx h
  unfold minD at h
  split at h
  · rename_i n ns e
    obtain ⟨a, rfl, h1⟩ := hx.ints s e
    obtain ⟨m1, m2⟩ := minI_mem (ns := n :: ns) (by simp)
    refine ⟨a, n :: ns, rfl, h1, by simp, fun m k1 k2 => ?_⟩
    have : m = minI (n :: ns) := Int.le_antisymm (k2 _ m1) (m2 m k1)
    rw [this]
    exact h.same s rfl
  · exact h.none
def allBl : List D → Option (List Bool)
  | [] => some []
  | .bl i :: r => (allBl r).map (i :: ·)
  | _ => none
theorem allBl_some : ∀ {xs : List D} {ns : List Bool}, allBl xs = some ns → xs = ns.map D.bl
  | [], ns, h => by simp [allBl] at h; subst h; rfl
  | .bl i :: r, ns, h => by
    simp only [allBl, Option.map_eq_some_iff] at h
    obtain ⟨ms, h1, rfl⟩ := h
    rw [allBl_some h1]; rfl
  | .non :: _, _, h => by simp [allBl] at h
  | .int _ :: _, _, h => by simp [allBl] at h
  | .str _ :: _, _, h => by simp [allBl] at h
  | .tup _ :: _, _, h => by simp [allBl] at h
  | .wtp _ :: _, _, h => by simp [allBl] at h
  | .lst _ :: _, _, h => by simp [allBl] at h
  | .scr _ :: _, _, h => by simp [allBl] at h
  | .dic _ _ _ :: _, _, h => by simp [allBl] at h
  | .ins _ _ _ :: _, _, h => by simp [allBl] at h
@[simp] theorem allBl_map : ∀ (ns : List Bool), allBl (ns.map D.bl) = some ns
  | [] => rfl
  | n :: ns => by simp [allBl, allBl_map ns]
theorem Reps.bls {K : PySem.W.Frag} {mg : Str → Option Value} {F : Hp} : ∀ {ns : List Bool} {vs : List V}, Reps K mg F (ns.map D.bl) vs → vs = ns.map V.bl
  | [], _, h => h
  | n :: ns, vs, h => by
    obtain ⟨v, r, rfl, h1, h2⟩ := h
    have e : v = .bl n := h1
    rw [e, Reps.bls h2]; rfl
def blsD (d : D) : Option (List Bool) := match d with
  | .lst xs => allBl xs
  | _ => none
theorem RepT.bls {K : PySem.W.Frag} {mg : Str → Option Value} {F H : Hp} {d : D} {v : V} {ns : List Bool} (h : RepT K mg F H d v) (e : blsD d = some ns) : ∃ a, v = .ref a ∧ SqL K H a (ns.map V.bl) := by
  cases d with
  | lst xs =>
    obtain ⟨p, vs, rfl, h1, h2⟩ := h
    have := allBl_some (show allBl xs = some ns from e)
    subst this
    exact ⟨p, rfl, by rw [← h2.bls]; exact .of h1⟩
  | _ => cases e
def anyD (d : D) : Option AV := (blsD d).map fun ns => .d (.bl (ns.any id))
def allD (d : D) : Option AV := (blsD d).map fun ns => .d (.bl (ns.all id))
theorem call1_any : Call1 X.K X.mg (rAny X.K) anyD := by
  intro F H x dx Q s hx h
  unfold anyD at h
  cases e : blsD dx with
  | none => rw [e] at h; exact h.none
  | some ns =>
    rw [e] at h
    obtain ⟨a, rfl, h1⟩ := hx.bls e
    exact ⟨a, ns, rfl, h1, h.same s rfl⟩
theorem call1_all : Call1 X.K X.mg (rAll X.K) allD := by
  intro F H x dx Q s hx h
  unfold allD at h
  cases e : blsD dx with
  | none => rw [e] at h; exact h.none
  | some ns =>
    rw [e] at h
    obtain ⟨a, rfl, h1⟩ := hx.bls e
    exact ⟨a, ns, rfl, h1, h.same s rfl⟩
end
end J
namespace J
open PySem PySem.Spec PyProof.Rows L2

/-- a def as a function: the arguments as they come; the result (data, or a thing of its own) and what the parameters hold behind it -/
abbrev Fn := List SV → Out (AV × Env)

def argRep (K : PySem.W.Frag) (mg : Str → Option Value) (σ : L2.St) (F : Hp) : AV → V → Prop
  | .d x, v => Rep K mg F x v
  | .s j, v => σ[j]? = some (some v)
  | _, _ => False
def ArgReps (K : PySem.W.Frag) (mg : Str → Option Value) (σ : L2.St) (F : Hp) : List AV → List V → Prop
  | [], vs => vs = []
  | a :: r, vs => ∃ v vs', vs = v :: vs' ∧ argRep K mg σ F a v ∧ ArgReps K mg σ F r vs'
def argSV : AV → Env → Option SV
  | .d x, _ => some (.d x)
  | .s j, ρ => match ρ[j]? with
    | some (some sv) => some sv
    | _ => none
  | _, _ => none
def argSVs : List AV → Env → Option (List SV)
  | [], _ => some []
  | a :: r, ρ => match argSV a ρ, argSVs r ρ with
    | some x, some xs => some (x :: xs)
    | _, _ => none
def slotsOf : List AV → List Nat
  | [] => []
  | .s j :: r => j :: slotsOf r
  | _ :: r => slotsOf r
def updS : List AV → Env → Env → Env
  | .s j :: avs, p :: ps, ρ => updS avs ps (ρ.set j p)
  | _ :: avs, _ :: ps, ρ => updS avs ps ρ
  | _, _, ρ => ρ
def applyFn (fn : Fn) (avs : List AV) (ρ : Env) : Out (AV × Env) := match argSVs avs ρ with
  | none => .bad
  | some svs => if (slotsOf avs).Nodup then (match fn svs with
    | .ok (.d x, ps) => .ok (.d x, updS avs ps ρ)
    | .ok (.o w, ps) => .ok (.o w, updS avs ps ρ)
    | .ok _ => .bad
    | .exc x ps => .exc x (updS avs ps ρ)
    | .bad => .bad) else .bad

/-- what a def promises: it does what fn reckons -/
def fnSp (K : PySem.W.Frag) (mg : Str → Option Value) (kf : Str → Bool) (n : Nat) (fn : Fn) : Sp := fun vs H Q E => vs.length = n ∧ ∃ F svs fps, Ok K mg (svs.map some) (vs.map some) F H fps ∧
  PX K mg ⟨fun _ => false, kf⟩ (fun c d _ H' => E c d H') (vs.map some) F H fps (fn svs) Q

section
variable {K : PySem.W.Frag} {mg : Str → Option Value} {T : Tp} {W : WX} {ρ : Env} {σ : L2.St} {F F' H H' : Hp} {fps fps' : Fps}
theorem argRep.mono (m : Mono F F') {a : AV} {v : V} (h : argRep K mg σ F a v) : argRep K mg σ F' a v := by
  cases a with
  | d x => exact Rep.mono m x v h
  | s j => exact h
  | _ => exact h.elim
theorem ArgReps.mono (m : Mono F F') : ∀ {as : List AV} {vs : List V}, ArgReps K mg σ F as vs → ArgReps K mg σ F' as vs
  | [], _, h => h
  | a :: r, _, h => by
    obtain ⟨v, vs', rfl, h1, h2⟩ := h
    exact ⟨v, vs', rfl, h1.mono m, h2.mono m⟩
theorem ArgReps.length : ∀ {as : List AV} {vs : List V}, ArgReps K mg σ F as vs → as.length = vs.length
  | [], _, h => by rw [show _ = [] from h]; rfl
  | a :: r, _, h => by
    obtain ⟨v, vs', rfl, h1, h2⟩ := h
    simp [h2.length]
theorem ArgReps.get : ∀ {as : List AV} {vs : List V} {i : Nat} {a : AV}, ArgReps K mg σ F as vs → as[i]? = some a → ∃ v, vs[i]? = some v ∧ argRep K mg σ F a v
  | [], _, _, _, _, e => by simp at e
  | a :: r, _, 0, _, h, e => by
    obtain ⟨v, vs', rfl, h1, h2⟩ := h
    simp at e; subst e
    exact ⟨v, rfl, h1⟩
  | a :: r, _, i + 1, _, h, e => by
    obtain ⟨v, vs', rfl, h1, h2⟩ := h
    obtain ⟨u, q, r⟩ := h2.get (i := i) (by simpa using e)
    exact ⟨u, by simpa using q, r⟩
theorem argSVs_get : ∀ {as : List AV} {svs : List SV}, argSVs as ρ = some svs → as.length = svs.length ∧ ∀ (i : Nat) a, as[i]? = some a → ∃ sv, svs[i]? = some sv ∧ argSV a ρ = some sv
  | [], svs, h => by cases h; exact ⟨rfl, fun i a e => by simp at e⟩
  | a :: r, svs, h => by
    unfold argSVs at h
    split at h
    · rename_i x xs e1 e2
      cases h
      obtain ⟨h1, h2⟩ := argSVs_get e2
      refine ⟨by simp [h1], fun i b e => ?_⟩
      cases i with
      | zero => simp at e; subst e; exact ⟨x, rfl, e1⟩
      | succ i => exact h2 i b (by simpa using e)
    · cases h
theorem mem_slotsOf {j : Nat} : ∀ {as : List AV}, j ∈ slotsOf as ↔ ∃ i : Nat, as[i]? = some (AV.s j)
  | [] => by simp [slotsOf]
  | a :: r => by
    have ih := @mem_slotsOf j r
    have base : (∃ i : Nat, (a :: r)[i]? = some (AV.s j)) ↔ a = .s j ∨ ∃ i : Nat, r[i]? = some (AV.s j) := by
      constructor
      · rintro ⟨i, e⟩
        cases i with
        | zero => simp at e; exact .inl e
        | succ i => exact .inr ⟨i, by simpa using e⟩
      · rintro (e | ⟨i, e⟩)
        · exact ⟨0, by simp [e]⟩
        · exact ⟨i + 1, by simpa using e⟩
    rw [base, ← ih]
    cases a with
    | s k =>
      simp only [slotsOf, List.mem_cons, AV.s.injEq]
      constructor
      · rintro (e | e)
        · exact .inl e.symm
        · exact .inr e
      · rintro (e | e)
        · exact .inl e.symm
        · exact .inr e
    | d x => simp [slotsOf]
    | o w => simp [slotsOf]
    | g k y => simp [slotsOf]
theorem updS_length : ∀ (as : List AV) (ps ρ : Env), (updS as ps ρ).length = ρ.length
  | [], ps, ρ => by cases ps <;> rfl
  | a :: r, [], ρ => by cases a <;> rfl
  | .s j :: r, p :: ps, ρ => by
    show (updS r ps (ρ.set j p)).length = _
    rw [updS_length r ps, List.length_set]
  | .d x :: r, p :: ps, ρ => updS_length r ps ρ
  | .o x :: r, p :: ps, ρ => updS_length r ps ρ
  | .g x y :: r, p :: ps, ρ => updS_length r ps ρ
theorem updS_out {j : Nat} : ∀ (as : List AV) (ps ρ : Env), j ∉ slotsOf as → (updS as ps ρ)[j]? = ρ[j]?
  | [], ps, ρ, _ => by cases ps <;> rfl
  | a :: r, [], ρ, _ => by cases a <;> rfl
  | .s k :: r, p :: ps, ρ, h => by
    simp only [slotsOf, List.mem_cons, not_or] at h
    show (updS r ps (ρ.set k p))[j]? = _
    rw [updS_out r ps _ h.2, List.getElem?_set_ne (Ne.symm h.1)]
  | .d x :: r, p :: ps, ρ, h => updS_out r ps ρ h
  | .o x :: r, p :: ps, ρ, h => updS_out r ps ρ h
  | .g x y :: r, p :: ps, ρ, h => updS_out r ps ρ h
theorem updS_in {j : Nat} : ∀ (as : List AV) (ps ρ : Env) (i : Nat), (slotsOf as).Nodup → as.length = ps.length → as[i]? = some (.s j) → j < ρ.length → (updS as ps ρ)[j]? = ps[i]?
  | [], ps, ρ, i, _, _, e, _ => by simp at e
  | a :: r, [], ρ, i, _, hl, _, _ => by simp at hl
  | .s k :: r, p :: ps, ρ, 0, nd, hl, e, hj => by
    simp at e; subst e
    show (updS r ps (ρ.set k p))[k]? = _
    rw [updS_out r ps _ (List.nodup_cons.mp nd).1, List.getElem?_set_self hj]
    rfl
  | .s k :: r, p :: ps, ρ, i + 1, nd, hl, e, hj => by
    show (updS r ps (ρ.set k p))[j]? = _
    rw [updS_in r ps _ i (List.nodup_cons.mp nd).2 (by simpa using hl) (by simpa using e) (by rw [List.length_set]; exact hj)]
    simp
  | .d x :: r, p :: ps, ρ, 0, _, _, e, _ => by simp at e
  | .o x :: r, p :: ps, ρ, 0, _, _, e, _ => by simp at e
  | .g x y :: r, p :: ps, ρ, 0, _, _, e, _ => by simp at e
  | .d x :: r, p :: ps, ρ, i + 1, nd, hl, e, hj => by
    show (updS r ps ρ)[j]? = _
    rw [updS_in r ps ρ i nd (by simpa using hl) (by simpa using e) hj]; simp
  | .o x :: r, p :: ps, ρ, i + 1, nd, hl, e, hj => by
    show (updS r ps ρ)[j]? = _
    rw [updS_in r ps ρ i nd (by simpa using hl) (by simpa using e) hj]; simp
  | .g x y :: r, p :: ps, ρ, i + 1, nd, hl, e, hj => by
    show (updS r ps ρ)[j]? = _
    rw [updS_in r ps ρ i nd (by simpa using hl) (by simpa using e) hj]; simp
theorem slots_inj {j : Nat} : ∀ {as : List AV} {i k : Nat}, (slotsOf as).Nodup → as[i]? = some (.s j) → as[k]? = some (.s j) → i = k
  | [], _, _, _, e, _ => by simp at e
  | a :: r, 0, 0, _, _, _ => rfl
  | a :: r, 0, k + 1, nd, e, e' => by
    simp at e; subst e
    exact absurd (mem_slotsOf.mpr ⟨k, by simpa using e'⟩) (List.nodup_cons.mp nd).1
  | a :: r, i + 1, 0, nd, e, e' => by
    simp at e'; subst e'
    exact absurd (mem_slotsOf.mpr ⟨i, by simpa using e⟩) (List.nodup_cons.mp nd).1
  | a :: r, i + 1, k + 1, nd, e, e' => by
    have nd' : (slotsOf r).Nodup := by
      cases a with
      | s k => exact (List.nodup_cons.mp nd).2
      | _ => exact nd
    rw [slots_inj (as := r) (i := i) (k := k) (j := j) nd' (by simpa using e) (by simpa using e')]
/-- the footprints of the arguments -/
def fpsC (as : List AV) (fps : Fps) : Fps := fun i => match as[i]? with
  | some (.s j) => fps j
  | _ => []
/-- .. and of the slots behind the call -/
def fpsB (as : List AV) (fps fps' : Fps) : Fps := fun j => match as.findIdx? (fun a => match a with | .s k => k == j | _ => false) with
  | some i => fps' i
  | none => fps j
theorem fpsB_in {as : List AV} {i j : Nat} (nd : (slotsOf as).Nodup) (e : as[i]? = some (.s j)) : fpsB as fps fps' j = fps' i := by
  unfold fpsB
  cases q : as.findIdx? (fun a => match a with | .s k => k == j | _ => false) with
  | none =>
    have := List.findIdx?_eq_none_iff.mp q (.s j) (List.mem_of_getElem? e)
    simp at this
  | some k =>
    obtain ⟨hk, h1, _⟩ := List.findIdx?_eq_some_iff_getElem.mp q
    have : as[k]? = some (.s j) := by
      rw [List.getElem?_eq_getElem hk]
      cases q2 : as[k] with
      | s z => rw [q2] at h1; simp at h1; rw [h1]
      | d z => rw [q2] at h1; simp at h1
      | o z => rw [q2] at h1; simp at h1
      | g z y => rw [q2] at h1; simp at h1
    rw [slots_inj nd e this]
theorem fpsB_out {as : List AV} {j : Nat} (h : j ∉ slotsOf as) : fpsB as fps fps' j = fps j := by
  unfold fpsB
  cases q : as.findIdx? (fun a => match a with | .s k => k == j | _ => false) with
  | none => rfl
  | some k =>
    obtain ⟨hk, h1, _⟩ := List.findIdx?_eq_some_iff_getElem.mp q
    refine absurd (mem_slotsOf.mpr ⟨k, ?_⟩) h
    rw [List.getElem?_eq_getElem hk]
    cases q2 : as[k] with
    | s z => rw [q2] at h1; simp at h1; rw [h1]
    | d z => rw [q2] at h1; simp at h1
    | o z => rw [q2] at h1; simp at h1
    | g z y => rw [q2] at h1; simp at h1
/-- the callee's state -/
theorem Ok.callee {as : List AV} {vs : List V} {svs : List SV} (ok : Ok K mg ρ σ F H fps) (ra : ArgReps K mg σ F as vs) (e : argSVs as ρ = some svs) (nd : (slotsOf as).Nodup) : Ok K mg (svs.map some) (vs.map some) F H (fpsC as fps) := by
  obtain ⟨l1, g1⟩ := argSVs_get e
  have l2 := ra.length
  refine ⟨ok.sub, by simp; omega, fun i sv h => ?_, fun i h => ?_, fun i k a hik h1 h2 => ?_⟩
  · have h : svs[i]? = some sv := by
      rw [List.getElem?_map] at h
      cases q : svs[i]? with
      | none => rw [q] at h; cases h
      | some x => rw [q] at h; cases h; rfl
    have hi : i < as.length := by rw [l1]; exact (List.getElem?_eq_some_iff.mp h).1
    have ha := List.getElem?_eq_getElem hi
    obtain ⟨sv', h1, h2⟩ := g1 i _ ha
    rw [h] at h1; cases h1
    obtain ⟨v, h3, h4⟩ := ra.get ha
    refine ⟨v, by rw [List.getElem?_map, h3]; rfl, ?_⟩
    unfold fpsC
    rw [ha]
    generalize as[i] = a at ha h2 h4 ⊢
    cases a with
    | d x => cases h2; exact ⟨h4, rfl⟩
    | s j =>
      unfold argSV at h2
      dsimp only at h2
      split at h2
      · rename_i sv2 hj
        cases h2
        obtain ⟨u, hu, r⟩ := ok.slot j _ hj
        have h4 : σ[j]? = some (some v) := h4
        rw [h4] at hu; cases hu
        exact r
      · cases h2
    | o w => cases h2
    | g j y => cases h2
  · unfold fpsC
    split
    · rename_i j hj
      have hi : i < svs.length := by rw [← l1]; exact (List.getElem?_eq_some_iff.mp hj).1
      exact absurd (by rw [List.getElem?_map, List.getElem?_eq_getElem hi]; rfl) (h svs[i])
    · rfl
  · unfold fpsC at h1 h2
    split at h1
    · rename_i j hj
      split at h2
      · rename_i j' hj'
        by_cases ej : j = j'
        · subst ej
          exact hik (slots_inj nd hj hj')
        · exact ok.sep j j' a ej h1 h2
      · cases h2
    · cases h1
theorem inF_callee {as : List AV} {a : Addr} (h : InF (fpsC as fps) a) : ∃ j, j ∈ slotsOf as ∧ a ∈ fps j := by
  obtain ⟨i, hi⟩ := h
  unfold fpsC at hi
  split at hi
  · rename_i j hj
    exact ⟨j, mem_slotsOf.mpr ⟨i, hj⟩, hi⟩
  · cases hi
/-- the caller's state behind the call -/
theorem Tr.caller {kf : Str → Bool} {as : List AV} {vs : List V} {svs : List SV} {ps : Env} (ok : Ok K mg ρ σ F H fps) (ra : ArgReps K mg σ F as vs) (e : argSVs as ρ = some svs) (nd : (slotsOf as).Nodup) (hk : ∀ y, T.kf y = true → kf y = true)
    (t : Tr K mg ⟨fun _ => false, kf⟩ (vs.map some) F H (fpsC as fps) ps (vs.map some) F' H' fps') : Tr K mg T σ F H fps (updS as ps ρ) σ F' H' (fpsB as fps fps') := by
  have l2 := ra.length
  have lp : as.length = ps.length := by
    have := t.ok.len
    simp at this; omega
  have inC : ∀ a, InF (fpsC as fps) a → InF fps a := fun a h => by
    obtain ⟨j, _, hj⟩ := inF_callee h
    exact ⟨j, hj⟩
  have outC : ∀ k a, k ∉ slotsOf as → a ∈ fps k → ¬InF (fpsC as fps) a := fun k a hk ha h => by
    obtain ⟨j, hj, hja⟩ := inF_callee h
    have : j ≠ k := by rintro rfl; exact hk hj
    exact ok.sep j k a this hja ha
  refine ⟨⟨t.ok.sub, by rw [updS_length]; exact ok.len, fun j sv h => ?_, fun j h => ?_, fun j k a hjk h1 h2 => ?_⟩, t.mono, fun a o h hn => t.keep a o h fun z => hn (inC a z), fun a o h => ?_, fun a h => ?_, fun _ _ => rfl, fun a C dx fs h => ?_⟩
  · by_cases hj : j ∈ slotsOf as
    · obtain ⟨i, hi⟩ := mem_slotsOf.mp hj
      obtain ⟨v, h3, h4⟩ := ra.get hi
      have h4 : σ[j]? = some (some v) := h4
      have hjl : j < ρ.length := by rw [ok.len]; exact (List.getElem?_eq_some_iff.mp h4).1
      rw [updS_in as ps ρ i nd lp hi hjl] at h
      rw [fpsB_in nd hi]
      obtain ⟨u, hu, r⟩ := t.ok.slot i sv h
      rw [List.getElem?_map, h3] at hu
      cases hu
      exact ⟨v, h4, r⟩
    · rw [updS_out as ps ρ hj] at h
      rw [fpsB_out hj]
      obtain ⟨u, hu, r⟩ := ok.slot j sv h
      refine ⟨u, hu, r.frame t.mono fun x hx => ?_⟩
      obtain ⟨f0, o, ho⟩ := r.out x hx
      refine ⟨?_, by rw [t.keep x o ho (outC j x hj hx), ho]⟩
      cases q : F' x with
      | none => rfl
      | some o' =>
        rcases t.frz x o' q with z | z | z
        · rw [f0] at z; cases z
        · exact absurd z (outC j x hj hx)
        · rw [ho] at z; cases z
  · by_cases hj : j ∈ slotsOf as
    · obtain ⟨i, hi⟩ := mem_slotsOf.mp hj
      rw [fpsB_in nd hi]
      obtain ⟨v, h3, h4⟩ := ra.get hi
      have h4 : σ[j]? = some (some v) := h4
      have hjl : j < ρ.length := by rw [ok.len]; exact (List.getElem?_eq_some_iff.mp h4).1
      refine t.ok.non i fun sv z => h sv ?_
      rw [updS_in as ps ρ i nd lp hi hjl]; exact z
    · rw [fpsB_out hj]
      refine ok.non j fun sv z => h sv ?_
      rw [updS_out as ps ρ hj]; exact z
  · have own : ∀ i a, a ∈ fps' i → ∀ k, k ∉ slotsOf as → a ∉ fps k := fun i a h k hk hk2 => by
      rcases t.own a ⟨i, h⟩ with z | z
      · exact outC k a hk hk2 z
      · obtain ⟨_, o, ho⟩ := ok.inF ⟨k, hk2⟩
        rw [z] at ho; cases ho
    by_cases hj : j ∈ slotsOf as
    · obtain ⟨i, hi⟩ := mem_slotsOf.mp hj
      rw [fpsB_in nd hi] at h1
      by_cases hk : k ∈ slotsOf as
      · obtain ⟨i', hi'⟩ := mem_slotsOf.mp hk
        rw [fpsB_in nd hi'] at h2
        refine t.ok.sep i i' a ?_ h1 h2
        rintro rfl
        rw [hi] at hi'; cases hi'; exact hjk rfl
      · rw [fpsB_out hk] at h2
        exact own i a h1 k hk h2
    · rw [fpsB_out hj] at h1
      by_cases hk : k ∈ slotsOf as
      · obtain ⟨i', hi'⟩ := mem_slotsOf.mp hk
        rw [fpsB_in nd hi'] at h2
        exact own i' a h2 j hj h1
      · rw [fpsB_out hk] at h2
        exact ok.sep j k a hjk h1 h2
  · rcases t.frz a o h with z | z | z
    · exact .inl z
    · exact .inr (.inl (inC a z))
    · exact .inr (.inr z)
  · obtain ⟨j, hj⟩ := h
    by_cases hs : j ∈ slotsOf as
    · obtain ⟨i, hi⟩ := mem_slotsOf.mp hs
      rw [fpsB_in nd hi] at hj
      exact (t.own a ⟨i, hj⟩).imp (inC a) id
    · rw [fpsB_out hs] at hj
      exact .inl ⟨j, hj⟩
  · obtain ⟨d1, f1, e1, k1⟩ := t.fld a C dx fs h
    exact ⟨d1, f1, e1, fun f hf => k1 f (hk f hf)⟩
/-- a call: from the caller's wish the callee's -/
theorem call_core {kf : Str → Bool} {n : Nat} {fn : Fn} {as : List AV} {vs : List V} {Q : VK} (ok : Ok K mg ρ σ F H fps) (ra : ArgReps K mg σ F as vs) (hk : ∀ y, T.kf y = true → kf y = true) (har : ∀ svs : List SV, svs.length ≠ n → fn svs = .bad)
    (h : PX K mg T W σ F H fps (applyFn fn as ρ) Q) : fnSp K mg kf n fn vs H Q (fun c d H' => W c d σ H') := by
  unfold applyFn at h
  split at h
  · exact h.elim
  · rename_i svs e
    split at h
    · rename_i nd
      have hn : as.length = n := by
        rw [(argSVs_get e).1]
        refine Classical.byContradiction fun z => ?_
        rw [har svs z] at h
        exact h
      refine ⟨by rw [← ra.length, hn], F, svs, fpsC as fps, ok.callee ra e nd, ?_⟩
      cases q : fn svs with
      | ok p =>
        obtain ⟨av, ps⟩ := p
        rw [q] at h
        have new : ∀ a, NewTo (fpsC as fps) H a → NewTo fps H a := fun a z => z.imp (fun z => by
          obtain ⟨j, _, hj⟩ := inF_callee z
          exact ⟨j, hj⟩) id
        cases av with
        | d x => exact fun v F' H' fps' t r => h v F' H' _ (Tr.caller ok ra e nd hk t) r
        | o w =>
          intro v F' H' fps' t r
          refine h v F' H' _ (Tr.caller ok ra e nd hk t) ?_
          obtain ⟨a, fp, e1, r1, r2, r3, r4⟩ := r
          refine ⟨a, fp, e1, r1, r2, fun x hx z => ?_, fun x hx => new x (r4 x hx)⟩
          obtain ⟨j, hj⟩ := z
          by_cases hs : j ∈ slotsOf as
          · obtain ⟨i, hi⟩ := mem_slotsOf.mp hs
            rw [fpsB_in nd hi] at hj
            exact r3 x hx ⟨i, hj⟩
          · rw [fpsB_out hs] at hj
            rcases r4 x hx with z | z
            · obtain ⟨k, hk1, hk2⟩ := inF_callee z
              have : k ≠ j := by rintro rfl; exact hs hk1
              exact ok.sep k j x this hk2 hj
            · obtain ⟨_, o, ho⟩ := ok.inF ⟨j, hj⟩
              rw [z] at ho; cases ho
        | s j => exact h.elim
        | g j y => exact h.elim
      | exc x ps =>
        rw [q] at h
        intro cls d F' H' fps' t xr
        exact h cls d F' H' _ (Tr.caller ok ra e nd hk t) xr
      | bad => rw [q] at h; exact h
    · exact h.elim
end
section
variable {X : Cx} {T : Tp} {W : WX} {a b c e : Expr} {es : List Expr} {pos : Pos} {fa fb fc : ECode}
structure JAs (X : Cx) (T : Tp) (W : WX) (es : List Expr) (f : Env → Out (List AV × Env)) : Prop where
  run : ∀ (ρ : Env) (σ : L2.St) (F H : Hp) (fps : Fps) (Q : List V → Hp → Prop), Ok X.K X.mg ρ σ F H fps → PY X.K X.mg T W σ F H fps (fun F' _ => ArgReps X.K X.mg σ F') (f ρ) Q → WA X es σ H Q
theorem JAs.next {f : Env → Out (List AV × Env)} (j : JAs X T W es f) {ρ : Env} {σ : L2.St} {F H : Hp} {fps : Fps} {γ : Type} {Z : Out γ → Prop} {k : List AV × Env → Out γ} {R : List V → Hp → Prop} (ok : Ok X.K X.mg ρ σ F H fps) (z : FP X.K X.mg T W σ F H fps Z) (h : Z ((f ρ).bind k))
    (hk : ∀ x ρ1 v F1 H1 fps1, Tr X.K X.mg T σ F H fps ρ1 σ F1 H1 fps1 → ArgReps X.K X.mg σ F1 x v → Z (k (x, ρ1)) → R v H1) : WA X es σ H R := by
  refine j.run ρ σ F H fps R ok ?_
  cases q : f ρ with
  | ok p =>
    obtain ⟨av, ρ1⟩ := p
    rw [q] at h
    exact fun v F1 H1 fps1 t ra => hk av ρ1 v F1 H1 fps1 t ra h
  | exc x ρ1 => rw [q] at h; exact z.exc x ρ1 h
  | bad => rw [q] at h; exact z.bad h
def aNil : Env → Out (List AV × Env) := fun ρ => .ok ([], ρ)
def aVar (i : Nat) (g : Env → Out (List AV × Env)) : Env → Out (List AV × Env) := fun ρ => match ρ[i]? with
  | some (some (.d x)) => (g ρ).bind fun q => .ok (.d x :: q.1, q.2)
  | some (some (.o _)) => (g ρ).bind fun q => .ok (.s i :: q.1, q.2)
  | _ => .bad
def aD (f : Env → Out (D × Env)) (g : Env → Out (List AV × Env)) : Env → Out (List AV × Env) := fun ρ => (f ρ).bind fun p => (g p.2).bind fun q => .ok (.d p.1 :: q.1, q.2)
variable {g : Env → Out (List AV × Env)}
theorem jas_nil : JAs X T W [] aNil := ⟨fun ρ σ F H fps Q ok h => WA.of pa_nil (PY.ret h ok rfl)⟩
theorem jas_d {f : Env → Out (D × Env)} (ja : JD X T W a f) (jb : JAs X T W es g) (hs : starEach (a :: es) X.env = (false, eval a X.env) :: starEach es X.env := by rfl) : JAs X T W (a :: es) (aD f g) := by
  refine ⟨fun ρ σ F H fps Q ok h => WA.of (pa_cons (WE.pe X a) (WA.pa X es) hs) ?_⟩
  refine ja.next ok FP.py h fun x ρ1 v F1 H1 fps1 t1 r1 h1 => ?_
  refine jb.next t1.ok FP.py (PY.from t1 h1) fun xs ρ2 vs F2 H2 fps2 t2 r2 h2 => ?_
  exact (PY.from t2 h2).ret t2.ok ⟨v, vs, rfl, Rep.mono t2.mono _ _ r1, r2⟩
theorem jas_var {i : Nat} {x : Str} {p : Pos} (jb : JAs X T W es g) (hN : X.N[i]? = some x := by rfl) (hv : Vis X.env.scope x := by first | exact Or.inl rfl | exact Or.inr (Or.inl rfl) | exact Or.inr (Or.inr rfl)) (hd : (x == ("__debug__" : Str)) = false := by decide)
    (hcd : (x == ("__classdict__" : Str)) = false := by decide) (hs : starEach (.Name x p :: es) X.env = (false, eval (.Name x p) X.env) :: starEach es X.env := by rfl) : JAs X T W (.Name x p :: es) (aVar i g) := by
  refine ⟨fun ρ σ F H fps Q ok h => WA.of (pa_cons (pe_var hN hv hd hcd) (WA.pa X es) hs) ?_⟩
  unfold aVar at h
  split at h
  · rename_i y hy
    obtain ⟨v, e, r⟩ := ok.slot i _ hy
    refine ⟨v, e, ?_⟩
    refine jb.next ok FP.py h fun xs ρ2 vs F2 H2 fps2 t2 r2 h2 => ?_
    exact (PY.from t2 h2).ret t2.ok ⟨v, vs, rfl, Rep.mono t2.mono _ _ r.1, r2⟩
  · rename_i w hy
    obtain ⟨v, e, r⟩ := ok.slot i _ hy
    refine ⟨v, e, ?_⟩
    refine jb.next ok FP.py h fun xs ρ2 vs F2 H2 fps2 t2 r2 h2 => ?_
    exact (PY.from t2 h2).ret t2.ok ⟨v, vs, rfl, e, r2⟩
  · exact h.elim
def cCall (fn : Fn) (g : Env → Out (List AV × Env)) : ECode := fun ρ => (g ρ).bind fun p => applyFn fn p.1 p.2
/-- the def at f does what fn reckons, at level k -/
structure FnJ (P : Program) (w : World) (K : PySem.W.Frag) (mg : Str → Option Value) (base : Heap) (kf : Str → Bool) (k : Nat) (f : Addr) (fd : FuncData) (ps : List Str) (fn : Fn) : Prop where
  ok : FnOk P w K mg base (L2.CX P w) k f fd ps (fnSp K mg kf ps.length fn)
  ar : ∀ svs : List SV, svs.length ≠ ps.length → fn svs = .bad
theorem FnJ.mono {P : Program} {w : World} {K : PySem.W.Frag} {mg : Str → Option Value} {base : Heap} {kf : Str → Bool} {j k : Nat} {f : Addr} {fd : FuncData} {ps : List Str} {fn : Fn} (G : FnJ P w K mg base kf j f fd ps fn) (h : j ≤ k) : FnJ P w K mg base kf k f fd ps fn := ⟨G.ok.mono h, G.ar⟩
variable {kf : Str → Bool} {k : Nat} {f C : Addr} {fd : FuncData} {ps : List Str} {fn : Fn} {x m : Str} {p apos : Pos} {o : Expr}
theorem jx_call (G : FnJ X.prog X.w X.K X.mg X.base kf k f fd ps fn) (hr : Room k X.A) (hg : Gl X x) (hm : X.mg x = some (.ref f)) (hk : PySem.W.keepIn X.K (.ref f) = true)
    (hb : Binds X.K fd ps []) (tk : Takes X W) (hkf : ∀ y, T.kf y = true → kf y = true) (ja : JAs X T W (a :: es) g) (hdb : (x == ("__debug__" : Str)) = false := by decide)
    (he : starEach (a :: es) X.env = (false, eval a X.env) :: starEach es X.env := by rfl) (hpl : (backTo pos (starEach es X.env)).any (·.1) = false := by rfl) : JX X T W (.Call (.Name x p) (a :: es) [] pos) (cCall fn g) := by
  refine ⟨fun ρ σ F H fps Q ok h => WE.of (pe_callSD G.ok hr hg hm hk hb .nil (fun σ => passAt tk σ) (WA.pa X _) hdb he hpl) ?_⟩
  refine ja.next ok FP.px h fun as ρ1 vs F1 H1 fps1 t1 ra h1 => ?_
  rw [List.append_nil]
  exact call_core t1.ok ra hkf G.ar (PX.from t1 h1)
theorem jx_call0 (G : FnJ X.prog X.w X.K X.mg X.base kf k f fd [] fn) (hr : Room k X.A) (hg : Gl X x) (hm : X.mg x = some (.ref f)) (hk : PySem.W.keepIn X.K (.ref f) = true)
    (hb : Binds X.K fd [] []) (tk : Takes X W) (hkf : ∀ y, T.kf y = true → kf y = true) (hdb : (x == ("__debug__" : Str)) = false := by decide) : JX X T W (.Call (.Name x p) [] [] pos) (cCall fn aNil) := by
  refine ⟨fun ρ σ F H fps Q ok h => fun pins s I => ?_⟩
  refine wpAny_Call_Name_kw (ld_glob I hg hm ?_ hdb)
  exact PySem.W.callWith_K0 I.kIn hk (run_fnSD (us := []) (vs := []) (E := fun σ c d H' => W c d σ H') G.ok hr hb .nil (passAt tk σ) I .nil (call_core (as := []) (vs := []) ok rfl hkf G.ar h))
/-- the receiver, as an argument -/
def recvArg (p : AV × Env) : Out (AV × Env) := match p.1 with
  | .d (.ins c ns vs) => .ok (.d (.ins c ns vs), p.2)
  | .s j => .ok (.s j, p.2)
  | _ => .bad
/-- the class of the receiver -/
def clsOf (a : AV) (ρ : Env) : Option (Str × List Str) := match a with
  | .d (.ins c ns _) => some (c, ns)
  | .s j => (match ρ[j]? with
    | some (some (.o (.i c ns _))) => some (c, ns)
    | _ => none)
  | _ => none
/-- a method of the class c that is called m -/
def cMeth (c m : Str) (fn : Fn) (fo : ECode) (g : Env → Out (List AV × Env)) : ECode := fun ρ => (fo ρ).bind fun p => match clsOf p.1 p.2 with
  | some (c', ns) => if c' = c ∧ m ∉ ns then (g p.2).bind fun q => applyFn fn (p.1 :: q.1) q.2 else .bad
  | none => .bad
theorem lookup_out {m : Str} : ∀ {fs : List (Str × V)}, m ∉ fs.map (·.1) → fs.lookup m = none
  | [], _ => rfl
  | (n, v) :: fs, h => by
    simp only [List.map_cons, List.mem_cons, not_or] at h
    rw [List.lookup_cons]
    have hb : (m == n) = false := by simp; exact h.1
    rw [hb]
    exact lookup_out h.2
theorem clsOf_ok {av : AV} {v : V} {c : Str} {ns : List Str} {N : Addr → Prop} {ρ : Env} {σ : L2.St} {F H : Hp} {fps : Fps} (ok : Ok X.K X.mg ρ σ F H fps) (ra : RepA X.K X.mg T N σ F H fps av v) (e : clsOf av ρ = some (c, ns)) :
    ∃ a C dx fs, v = .ref a ∧ X.mg c = some (.ref C) ∧ H a = some (.ins C dx fs) ∧ fs.map (·.1) = ns ∧ argRep X.K X.mg σ F av v := by
  cases av with
  | d x =>
    cases x with
    | ins c' ns' vs =>
      cases e
      obtain ⟨a, C, dx, fs, rfl, h1, h2, h3, h4⟩ := id ra
      exact ⟨a, C, dx, fs, rfl, h1, ok.sub.ins h2, h3, ra⟩
    | _ => cases e
  | s j =>
    unfold clsOf at e
    dsimp only at e
    split at e
    · rename_i c' ns' fs hx
      cases e
      obtain ⟨u, hu, r⟩ := ok.slot j _ hx
      have ra : σ[j]? = some (some v) := ra
      rw [ra] at hu; cases hu
      obtain ⟨a, rfl, ⟨C, dx, vfs, fp', q0, q1, q2, q3, q4, q5⟩, nd⟩ := r
      exact ⟨a, C, dx, vfs, rfl, q2, q3, q4, ra⟩
    · cases e
  | _ => cases e
variable {fo : ECode}
theorem jx_meth {pl : Sem Bool} {c : Str} (hC : X.mg c = some (.ref C)) (cl : Cls X.K C) (hm : Meth X.K C m f) (G : FnJ X.prog X.w X.K X.mg X.base kf k f fd ps fn) (hr : Room k X.A) (hb : Binds X.K fd ps []) (tk : Takes X W) (hkf : ∀ y, T.kf y = true → kf y = true)
    (jo : JX X T W o fo) (ja : JAs X T W (a :: es) g) (hst : starEach (a :: es) X.env = (false, eval a X.env) :: starEach es X.env := by rfl) (hpl : (backTo pos (starEach es X.env)).any (·.1) = false := by rfl)
    (ht : eval (.Call (.Attribute o m apos) (a :: es) [] pos) X.env = (do
      let ov ← eval o X.env
      standAt apos.atName
      let (f, first) ← holding [ov] (getMethod ov m pl)
      callWith pos f first (backTo pos (starEach (a :: es) X.env)) (backToKw pos (keywordEach [] X.env))) := by rfl) : JX X T W (.Call (.Attribute o m apos) (a :: es) [] pos) (cMeth c m fn fo g) := by
  refine ⟨fun ρ σ F H fps Q ok h => fun pins s I => ?_⟩
  have key : WE X o σ H (fun v H1 => ∃ a' dx fs, v = .ref a' ∧ H1 a' = some (.ins C dx fs) ∧ fs.lookup m = none ∧ WA X (a :: es) σ H1 fun vs H2 => fnSp X.K X.mg kf ps.length fn (v :: vs) H2 Q (fun c d H' => W c d σ H')) := by
    refine jo.next ok FP.px h fun av ρ1 v F1 H1 fps1 t1 ra h1 => ?_
    dsimp only at h1
    split at h1
    · rename_i c' ns e
      split at h1
      · rename_i hc
        obtain ⟨rfl, hns⟩ := hc
        obtain ⟨a', C', dx, fs, rfl, q1, q2, q3, q4⟩ := clsOf_ok t1.ok ra e
        rw [hC] at q1; cases q1
        refine ⟨a', dx, fs, rfl, q2, lookup_out (by rw [q3]; exact hns), ?_⟩
        refine ja.next t1.ok FP.px (PX.from t1 h1) fun as ρ2 vs F2 H2 fps2 t2 rs h2 => ?_
        exact call_core (as := av :: as) t2.ok ⟨.ref a', vs, rfl, q4.mono t2.mono, rs⟩ hkf G.ar (PX.from t2 h2)
      · exact h1.elim
    · exact h1.elim
  refine PySem.W.methodCall_KW (pl := pl) (thn (key pins s I) fun u s1 ⟨x, H1, I1, rx, a', dx, fs, ex, ea, l, q⟩ => ?_) ht
  subst ex
  obtain rfl : u = Value.ref a' := rx
  refine getmeth_ok I1 ea cl hm l ?_
  refine PySem.W.callWith_K (first := [.ref a']) (h₀ := X.base) I.ok.mod.kin hm.kp (thn (q pos pins s1 I1) fun us s2 ⟨vs, H2, I2, r, q2⟩ => ⟨I2.kIn, ?_⟩) hst hpl
  exact run_fnSD (us := .ref a' :: us) (vs := .ref a' :: vs) (E := fun σ c d H' => W c d σ H') G.ok hr hb .nil (passAt tk σ) I2 (.cons rfl r) (by simpa using q2)
theorem jx_meth0 {pl : Sem Bool} {c : Str} (hC : X.mg c = some (.ref C)) (cl : Cls X.K C) (hm : Meth X.K C m f) (G : FnJ X.prog X.w X.K X.mg X.base kf k f fd ps fn) (hr : Room k X.A) (hb : Binds X.K fd ps []) (tk : Takes X W) (hkf : ∀ y, T.kf y = true → kf y = true)
    (jo : JX X T W o fo)
    (ht : eval (.Call (.Attribute o m apos) [] [] pos) X.env = (do
      let ov ← eval o X.env
      standAt apos.atName
      let (f, first) ← holding [ov] (getMethod ov m pl)
      callWith pos f first (backTo pos (starEach [] X.env)) (backToKw pos (keywordEach [] X.env))) := by rfl) : JX X T W (.Call (.Attribute o m apos) [] [] pos) (cMeth c m fn fo aNil) := by
  refine ⟨fun ρ σ F H fps Q ok h => fun pins s I => ?_⟩
  have key : WE X o σ H (fun v H1 => ∃ a' dx fs, v = .ref a' ∧ H1 a' = some (.ins C dx fs) ∧ fs.lookup m = none ∧ fnSp X.K X.mg kf ps.length fn [v] H1 Q (fun c d H' => W c d σ H')) := by
    refine jo.next ok FP.px h fun av ρ1 v F1 H1 fps1 t1 ra h1 => ?_
    dsimp only at h1
    split at h1
    · rename_i c' ns e
      split at h1
      · rename_i hc
        obtain ⟨rfl, hns⟩ := hc
        obtain ⟨a', C', dx, fs, rfl, q1, q2, q3, q4⟩ := clsOf_ok t1.ok ra e
        rw [hC] at q1; cases q1
        refine ⟨a', dx, fs, rfl, q2, lookup_out (by rw [q3]; exact hns), ?_⟩
        exact call_core (as := [av]) t1.ok ⟨.ref a', [], rfl, q4, rfl⟩ hkf G.ar (PX.from t1 h1)
      · exact h1.elim
    · exact h1.elim
  refine PySem.W.methodCall_KW (pl := pl) (thn (key pins s I) fun u s1 ⟨x, H1, I1, rx, a', dx, fs, ex, ea, l, q⟩ => ?_) ht
  subst ex
  obtain rfl : u = Value.ref a' := rx
  refine getmeth_ok I1 ea cl hm l ?_
  exact PySem.W.callWith_K0 (first := [.ref a']) I1.kIn hm.kp (run_fnSD (us := [.ref a']) (vs := [.ref a']) (E := fun σ c d H' => W c d σ H') G.ok hr hb .nil (passAt tk σ) I1 (.cons rfl .nil) q)
end
end J
namespace J
open PySem PySem.Spec PyProof.Rows L2
section
variable {K : PySem.W.Frag} {mg : Str → Option Value} {T : Tp} {W : WX} {ρ ρ' : Env} {σ : L2.St} {F F' H H0 H' : Hp} {fps fps' : Fps}
def fpsP (n : Nat) (fp : List Addr) (fps : Fps) : Fps := fun i => if i = n then fp else fps i
def fpsR (n : Nat) (fps : Fps) : Fps := fun i => if i < n then fps i else []
/-- one more slot -/
theorem Ok.push (ok : Ok K mg ρ σ F H fps) {sv : SV} {v : V} {fp : List Addr} (r : RepS K mg F H sv v fp) (hd : ∀ x ∈ fp, ¬InF fps x) : Ok K mg (ρ ++ [some sv]) (σ ++ [some v]) F H (fpsP ρ.length fp fps) := by
  refine ⟨ok.sub, by simp [ok.len], fun i sv' h => ?_, fun i h => ?_, fun i j a hij h1 h2 => ?_⟩
  · unfold fpsP
    by_cases hi : i = ρ.length
    · subst hi
      rw [List.getElem?_append_right (Nat.le_refl _)] at h
      simp at h; subst h
      rw [if_pos rfl]
      refine ⟨v, ?_, r⟩
      rw [ok.len, List.getElem?_append_right (Nat.le_refl _)]; simp
    · rw [if_neg hi]
      have hl : i < ρ.length := by
        have := (List.getElem?_eq_some_iff.mp h).1
        simp at this; omega
      rw [List.getElem?_append_left hl] at h
      obtain ⟨u, hu, r'⟩ := ok.slot i _ h
      exact ⟨u, by rw [List.getElem?_append_left (by rw [← ok.len]; exact hl)]; exact hu, r'⟩
  · unfold fpsP
    by_cases hi : i = ρ.length
    · subst hi
      exact absurd (by rw [List.getElem?_append_right (Nat.le_refl _)]; simp) (h sv)
    · rw [if_neg hi]
      refine ok.non i fun sv' z => h sv' ?_
      rw [List.getElem?_append_left (List.getElem?_eq_some_iff.mp z).1]; exact z
  · unfold fpsP at h1 h2
    by_cases hi : i = ρ.length
    · rw [if_pos hi] at h1
      rw [if_neg (by omega)] at h2
      exact hd a h1 ⟨j, h2⟩
    · rw [if_neg hi] at h1
      by_cases hj : j = ρ.length
      · rw [if_pos hj] at h2
        exact hd a h2 ⟨i, h1⟩
      · rw [if_neg hj] at h2
        exact ok.sep i j a hij h1 h2
/-- .. and off again, from an older state -/
theorem Tr.pop {v : V} {fp : List Addr} {p : Option SV} (ok : Ok K mg ρ σ F H0 fps) (hm : ∀ a o, H0 a = some o → H a = some o) (hn : ∀ x ∈ fp, H0 x = none)
    (t : Tr K mg T (σ ++ [some v]) F H (fpsP σ.length fp fps) (ρ' ++ [p]) (σ ++ [some v]) F' H' fps') (hl : ρ'.length = σ.length) :
    Tr K mg T σ F H0 fps ρ' σ F' H' (fpsR σ.length fps') ∧ ∀ w : Own, p = some (SV.o w) → RepA K mg T (NewTo fps H0) σ F' H' (fpsR σ.length fps') (.o w) v := by
  have old : ∀ a, InF (fpsP σ.length fp fps) a → InF fps a ∨ a ∈ fp := fun a ⟨i, hi⟩ => by
    unfold fpsP at hi
    split at hi
    · exact .inr hi
    · exact .inl ⟨i, hi⟩
  have back : ∀ a, InF (fpsP σ.length fp fps) a ∨ H a = none → InF fps a ∨ H0 a = none := fun a h => by
    rcases h with h | h
    · exact (old a h).imp id (hn a)
    · refine .inr ?_
      cases q : H0 a with
      | none => rfl
      | some o => rw [hm a o q] at h; cases h
  refine ⟨⟨⟨t.ok.sub, hl, fun i sv h => ?_, fun i h => ?_, fun i j a hij h1 h2 => ?_⟩, t.mono, fun a o h hnf => ?_, fun a o h => ?_, fun a ⟨i, h⟩ => ?_, fun _ _ => rfl, fun a C dx fs h => t.fld a C dx fs (hm _ _ h)⟩, fun w e => ?_⟩
  · have hi : i < σ.length := by rw [← hl]; exact (List.getElem?_eq_some_iff.mp h).1
    obtain ⟨u, hu, r⟩ := t.ok.slot i sv (by rw [List.getElem?_append_left (by rw [hl]; exact hi)]; exact h)
    rw [List.getElem?_append_left hi] at hu
    exact ⟨u, hu, by unfold fpsR; rw [if_pos hi]; exact r⟩
  · unfold fpsR
    by_cases hi : i < σ.length
    · rw [if_pos hi]
      refine t.ok.non i fun sv z => h sv ?_
      rw [List.getElem?_append_left (by rw [hl]; exact hi)] at z; exact z
    · rw [if_neg hi]
  · unfold fpsR at h1 h2
    split at h1
    · split at h2
      · exact t.ok.sep i j a hij h1 h2
      · cases h2
    · cases h1
  · refine t.keep a o (hm a o h) fun z => ?_
    rcases old a z with z | z
    · exact hnf z
    · rw [hn a z] at h; cases h
  · rcases t.frz a o h with z | z
    · exact .inl z
    · exact .inr (back a z)
  · unfold fpsR at h
    split at h
    · exact back a (t.own a ⟨i, h⟩)
    · cases h
  · subst e
    obtain ⟨u, hu, r⟩ := t.ok.slot σ.length (.o w) (by rw [← hl, List.getElem?_append_right (Nat.le_refl _)]; simp)
    rw [List.getElem?_append_right (Nat.le_refl _)] at hu
    simp at hu; subst hu
    obtain ⟨a, rfl, h1, h2⟩ := r
    refine ⟨a, _, rfl, h1, h2, fun x hx ⟨i, z⟩ => ?_, fun x hx => back x (t.own x ⟨_, hx⟩)⟩
    unfold fpsR at z
    split at z
    · exact t.ok.sep i σ.length x (by omega) z hx
    · cases z
/-- the slots of arguments lie in the environment -/
theorem updS_append {o : Option SV} : ∀ (as : List AV) (ps ρ : Env), (∀ j ∈ slotsOf as, j < ρ.length) → updS as ps (ρ ++ [o]) = updS as ps ρ ++ [o]
  | [], ps, ρ, _ => by cases ps <;> rfl
  | a :: r, [], ρ, _ => by cases a <;> rfl
  | .s j :: r, p :: ps, ρ, h => by
    have hj := h j (by simp [slotsOf])
    show updS r ps ((ρ ++ [o]).set j p) = updS r ps (ρ.set j p) ++ [o]
    rw [List.set_append_left _ _ hj]
    exact updS_append r ps _ fun k hk => by rw [List.length_set]; exact h k (by simp [slotsOf, hk])
  | .d x :: r, p :: ps, ρ, h => updS_append r ps ρ h
  | .o x :: r, p :: ps, ρ, h => updS_append r ps ρ h
  | .g x y :: r, p :: ps, ρ, h => updS_append r ps ρ h
theorem argSV_append {a : AV} {sv : SV} {q : SV} (h : argSV a ρ = some sv) : argSV a (ρ ++ [some q]) = some sv := by
  cases a with
  | d x => exact h
  | s j =>
    unfold argSV at h ⊢
    dsimp only at h ⊢
    split at h
    · rename_i sv' hj
      rw [List.getElem?_append_left (List.getElem?_eq_some_iff.mp hj).1, hj]
      exact h
    · cases h
  | o w => cases h
  | g j y => cases h
theorem argSVs_append {q : SV} : ∀ {as : List AV} {svs : List SV}, argSVs as ρ = some svs → argSVs as (ρ ++ [some q]) = some svs
  | [], _, h => h
  | a :: r, svs, h => by
    unfold argSVs at h ⊢
    split at h
    · rename_i x xs e1 e2
      cases h
      rw [argSV_append e1, argSVs_append e2]
    · cases h
theorem slotsOf_lt {svs : List SV} : ∀ {as : List AV}, argSVs as ρ = some svs → ∀ j ∈ slotsOf as, j < ρ.length := by
  intro as h j hj
  obtain ⟨i, hi⟩ := mem_slotsOf.mp hj
  obtain ⟨sv, _, e⟩ := (argSVs_get h).2 i _ hi
  unfold argSV at e
  dsimp only at e
  split at e
  · rename_i hx
    exact (List.getElem?_eq_some_iff.mp hx).1
  · cases e
theorem argRep.append {a : AV} {v : V} {o : Option V} (h : argRep K mg σ F a v) : argRep K mg (σ ++ [o]) F a v := by
  cases a with
  | d x => exact h
  | s j =>
    have h : σ[j]? = some (some v) := h
    show (σ ++ [o])[j]? = _
    rw [List.getElem?_append_left (List.getElem?_eq_some_iff.mp h).1]; exact h
  | _ => exact h.elim
theorem ArgReps.append {o : Option V} : ∀ {as : List AV} {vs : List V}, ArgReps K mg σ F as vs → ArgReps K mg (σ ++ [o]) F as vs
  | [], _, h => h
  | a :: r, _, h => by
    obtain ⟨v, vs', rfl, h1, h2⟩ := h
    exact ⟨v, vs', rfl, h1.append, h2.append⟩
end
/-- C(..): a new instance of the class c, fn its __init__ -/
def applyMake (c : Str) (fn : Fn) (avs : List AV) (ρ : Env) : Out (AV × Env) := match argSVs avs ρ with
  | none => .bad
  | some svs => if (slotsOf avs).Nodup then (match fn (.o (.i c [] []) :: svs) with
    | .ok (.d .non, some (.o w) :: ps) => .ok (.o w, updS avs ps ρ)
    | .ok _ => .bad
    | .exc x (_ :: ps) => .exc x (updS avs ps ρ)
    | .exc _ _ => .bad
    | .bad => .bad) else .bad
section
variable {K : PySem.W.Frag} {mg : Str → Option Value} {T : Tp} {W : WX} {ρ ρ' : Env} {σ : L2.St} {F F' H H0 H' : Hp} {fps fps' : Fps}
theorem make_core {kf : Str → Bool} {n : Nat} {fn : Fn} {c : Str} {C x dx : Addr} {as : List AV} {vs : List V} {Q : VK} (hC : mg c = some (.ref C)) (ok : Ok K mg ρ σ F H fps) (ra : ArgReps K mg σ F as vs) (hk : ∀ y, T.kf y = true → kf y = true)
    (har : ∀ svs : List SV, svs.length ≠ n → fn svs = .bad) (h : PX K mg T W σ F H fps (applyMake c fn as ρ) Q) (nx : H x = none) (nd : H dx = none) (ne : dx ≠ x) :
    fnSp K mg kf n fn (.ref x :: vs) (upd (upd H dx (.own x)) x (.ins C dx [])) (fun v H2 => v = .non ∧ Q (.ref x) H2) (fun c d H' => W c d σ H') := by
  have fx : F x = none := by
    cases q : F x with
    | none => rfl
    | some u =>
      rcases ok.sub.at_ x u q with z | ⟨_, ob, z⟩
      · rw [nx] at z; cases z
      · rw [nx] at z; cases z
  have fd : F dx = none := by
    cases q : F dx with
    | none => rfl
    | some u =>
      rcases ok.sub.at_ dx u q with z | ⟨_, ob, z⟩
      · rw [nd] at z; cases z
      · rw [nd] at z; cases z
  have hm : ∀ a o, H a = some o → (upd (upd H dx (.own x)) x (.ins C dx [])) a = some o := fun a o e => by
    rw [upd_ne (ne_of_none e nx), upd_ne (ne_of_none e nd)]; exact e
  have gr : Grow F H F (upd (upd H dx (.own x)) x (.ins C dx [])) := by
    refine ⟨.refl F, hm, ⟨fun a o e => ?_, fun a xs e => ?_⟩, fun a o e => .inl e⟩
    · have e1 : a ≠ x := ne_of_none e fx
      have e2 : a ≠ dx := ne_of_none e fd
      rw [upd_ne e1, upd_ne e2]
      exact ok.sub.at_ a o e
    · by_cases e1 : a = x
      · subst e1; rw [upd_same] at e; cases e
      · rw [upd_ne e1] at e
        by_cases e2 : a = dx
        · subst e2; rw [upd_same] at e; cases e
        · rw [upd_ne e2] at e; exact ok.sub.tups a xs e
  have ok1 := gr.ok ok
  have ok2 := ok1.push (sv := .o (.i c [] [])) (v := .ref x) (fp := [x]) ⟨x, rfl, ⟨C, dx, [], [], rfl, fx, hC, upd_same, rfl, rfl, rfl⟩, by simp⟩ fun y hy z => by
    rw [List.mem_singleton.mp hy] at z
    obtain ⟨_, o, ho⟩ := ok.inF z
    rw [nx] at ho; cases ho
  unfold applyMake at h
  split at h
  · exact h.elim
  · rename_i svs e
    split at h
    · rename_i ndS
      have lt := slotsOf_lt e
      have nd2 : (slotsOf (AV.s ρ.length :: as)).Nodup := List.nodup_cons.mpr ⟨fun z => absurd (lt _ z) (Nat.lt_irrefl _), ndS⟩
      have e2 : argSVs (AV.s ρ.length :: as) (ρ ++ [some (SV.o (.i c [] []))]) = some (SV.o (.i c [] []) :: svs) := by
        unfold argSVs
        rw [argSVs_append e]
        have : argSV (AV.s ρ.length) (ρ ++ [some (.o (.i c [] []))]) = some (.o (.i c [] [])) := by
          unfold argSV
          dsimp only
          rw [List.getElem?_append_right (Nat.le_refl _)]
          simp
        rw [this]
      have ra2 : ArgReps K mg (σ ++ [some (.ref x)]) F (AV.s ρ.length :: as) (.ref x :: vs) := ⟨.ref x, vs, rfl, by
        show (σ ++ [some (V.ref x)])[ρ.length]? = _
        rw [ok.len, List.getElem?_append_right (Nat.le_refl _)]; simp, ra.append⟩
      have hn : ((SV.o (.i c [] [])) :: svs : List SV).length = n := by
        refine Classical.byContradiction fun z => ?_
        rw [har _ z] at h
        exact h
      refine ⟨?_, F, _, _, ok2.callee ra2 e2 nd2, ?_⟩
      · rw [← hn, List.length_cons, List.length_cons, ← (argSVs_get e).1, ra.length]
      · have fin : ∀ {F' H' : Hp} {fps' : Fps} {p : Option SV} {ps : Env}, Tr K mg ⟨fun _ => false, kf⟩ ((V.ref x :: vs).map some) F (upd (upd H dx (.own x)) x (.ins C dx [])) (fpsC (AV.s ρ.length :: as) (fpsP ρ.length [x] fps)) (p :: ps) ((V.ref x :: vs).map some) F' H' fps' →
            ∃ fps2 : Fps, Tr K mg T σ F H fps (updS as ps ρ) σ F' H' fps2 ∧ ∀ w : Own, p = some (SV.o w) → RepA K mg T (NewTo fps H) σ F' H' fps2 (AV.o w) (V.ref x) := fun {F' H' fps' p ps} t => by
          have u := Tr.caller ok2 ra2 e2 nd2 hk t
          have eu : updS (AV.s ρ.length :: as) (p :: ps) (ρ ++ [some (SV.o (.i c [] []))]) = updS as ps ρ ++ [p] := by
            show updS as ps ((ρ ++ [some (SV.o (.i c [] []))]).set ρ.length p) = _
            rw [List.set_append_right _ _ (Nat.le_refl _)]
            simp only [Nat.sub_self, List.set_cons_zero]
            exact updS_append as ps ρ lt
          rw [eu, ok.len] at u
          exact ⟨_, Tr.pop ok hm (fun y hy => by rw [List.mem_singleton.mp hy]; exact nx) u (by rw [updS_length]; exact ok.len)⟩
        cases q : fn (.o (.i c [] []) :: svs) with
        | ok z =>
          rw [q] at h
          obtain ⟨av, ps'⟩ := z
          split at h
          · rename_i w ps ez
            simp only [Out.ok.injEq, Prod.mk.injEq] at ez
            obtain ⟨rfl, rfl⟩ := ez
            intro v F' H' fps' t r
            obtain ⟨fps2, t2, r2⟩ := fin t
            exact ⟨r, h (.ref x) F' H' fps2 t2 (r2 w rfl)⟩
          · exact h.elim
          · rename_i ez; cases ez
          · rename_i ez; cases ez
          · rename_i ez; cases ez
        | exc xx ps' =>
          rw [q] at h
          cases ps' with
          | nil => exact h.elim
          | cons p ps =>
            intro cls d F' H' fps' t xr
            obtain ⟨fps2, t2, r2⟩ := fin t
            exact h cls d F' H' fps2 t2 xr
        | bad => rw [q] at h; exact h
    · exact h.elim
end
def cMake (c : Str) (fn : Fn) (g : Env → Out (List AV × Env)) : ECode := fun ρ => (g ρ).bind fun p => applyMake c fn p.1 p.2
section
variable {X : Cx} {T : Tp} {W : WX} {a b e : Expr} {es : List Expr} {pos : Pos} {g : Env → Out (List AV × Env)} {kf : Str → Bool} {k : Nat} {f C : Addr} {fd : FuncData} {ps : List Str} {fn : Fn} {c : Str} {p : Pos}
theorem run_makeSD {pins : List (Addr × Obj)} {σ : L2.St} {H : Hp} {s : Shared} {Q : VK} {us : List Value} {vs : List V} {E : XK} {sp : Sp} (M : Mk X.K C f) (F : FnOk X.prog X.w X.K X.mg X.base (L2.CX X.prog X.w) k f fd ps sp) (hr : Room (k + 1) X.A) (hb : Binds X.K fd ps [])
    (hx : ∀ s : Shared, ∀ H : Hp, ∀ pins, ∀ e s', Inv X pins σ H s → L2.CX X.prog X.w X.stack H s E e s' → X.xe e s') (I : Inv X pins σ H s) (r : Vals vs us)
    (h : ∀ x dx, H x = none → H dx = none → dx ≠ x → sp (.ref x :: vs) (upd (upd H dx (.own x)) x (.ins C dx [])) (fun v H2 => v = .non ∧ Q (.ref x) H2) E) :
    wpAny (model X.prog X.w) X.A (call (.ref C) us) (EP X pins σ Q) X.xe s := by
  have hq := h (s.heap.objs.size + 1) s.heap.objs.size (I.hok.fresh (Nat.le_succ _)) (I.hok.fresh (Nat.le_refl _)) (Nat.ne_of_lt (Nat.lt_succ_self _))
  have I2 := Inv.made (C := C) I
  have r2 : Vals (V.ref (s.heap.objs.size + 1) :: vs) (Value.ref (s.heap.objs.size + 1) :: us) := .cons rfl r
  have hl : (Value.ref (s.heap.objs.size + 1) :: us ++ []).length = ps.length := by
    have e := r2.length
    rw [F.len _ _ _ _ hq] at e
    rw [List.append_nil]
    exact e.symm
  have hb' := hb _ (Value.ref (s.heap.objs.size + 1) :: us) I2.kIn hl
  rw [List.append_nil] at hb'
  refine wpAny_call (make_map (f := f) I.kIn M.makes M.init (beq_iff_eq.mp M.fn) (codeAny_mono (F.run _ X.stack _ _ ⟨Value.ref (s.heap.objs.size + 1) :: us, []⟩ (Value.ref (s.heap.objs.size + 1) :: us) _ _ E (hr.make C us [])
    (I2.env0.make C us []) hb' r2 hq) fun r s' hq' => ?_))
  cases r with
  | error e => exact hx _ _ _ e s' I2 hq'
  | ok fl =>
    cases fl with
    | ret u =>
      obtain ⟨v, H', I3, rv, ev, q3⟩ := I2.after hq'
      subst ev
      exact ⟨rv, ⟨V.ref (s.heap.objs.size + 1), H', I3, rfl, q3⟩⟩
    | next => exact False.elim hq'
    | brk => exact False.elim hq'
    | cont => exact False.elim hq'
theorem jx_make (M : Mk X.K C f) (G : FnJ X.prog X.w X.K X.mg X.base kf k f fd ps fn) (hr : Room (k + 1) X.A) (hg : Gl X c) (hm : X.mg c = some (.ref C)) (hb : Binds X.K fd ps []) (tk : Takes X W) (hkf : ∀ y, T.kf y = true → kf y = true)
    (ja : JAs X T W (a :: es) g) (hdb : (c == ("__debug__" : Str)) = false := by decide) (he : starEach (a :: es) X.env = (false, eval a X.env) :: starEach es X.env := by rfl) (hpl : (backTo pos (starEach es X.env)).any (·.1) = false := by rfl) :
    JX X T W (.Call (.Name c p) (a :: es) [] pos) (cMake c fn g) := by
  refine ⟨fun ρ σ F H fps Q ok h => fun pins s I => ?_⟩
  have key : WA X (a :: es) σ H (fun vs H1 => ∀ x dx, H1 x = none → H1 dx = none → dx ≠ x → fnSp X.K X.mg kf ps.length fn (.ref x :: vs) (upd (upd H1 dx (.own x)) x (.ins C dx [])) (fun v H2 => v = .non ∧ Q (.ref x) H2) (fun c d H' => W c d σ H')) := by
    refine ja.next ok FP.px h fun as ρ1 vs F1 H1 fps1 t1 ra h1 => ?_
    exact fun x dx nx nd ne => make_core hm t1.ok ra hkf G.ar (PX.from t1 h1) nx nd ne
  refine wpAny_Call_Name_kw (ld_glob I hg hm ?_ hdb)
  refine PySem.W.callWith_K (h₀ := X.base) I.ok.mod.kin M.kp (thn (key pos pins s I) fun us s1 ⟨vs, H1, I1, r, q⟩ => ⟨I1.kIn, ?_⟩) he hpl
  exact run_makeSD M G.ok hr hb (fun s H pins e s' I c => passAt tk σ pins H s e s' I c) I1 r q
theorem jx_make0 (M : Mk X.K C f) (G : FnJ X.prog X.w X.K X.mg X.base kf k f fd ps fn) (hr : Room (k + 1) X.A) (hg : Gl X c) (hm : X.mg c = some (.ref C)) (hb : Binds X.K fd ps []) (tk : Takes X W) (hkf : ∀ y, T.kf y = true → kf y = true)
    (hdb : (c == ("__debug__" : Str)) = false := by decide) : JX X T W (.Call (.Name c p) [] [] pos) (cMake c fn aNil) := by
  refine ⟨fun ρ σ F H fps Q ok h => fun pins s I => ?_⟩
  refine wpAny_Call_Name_kw (ld_glob I hg hm ?_ hdb)
  exact PySem.W.callWith_K0 I.kIn M.kp (run_makeSD (us := []) (vs := []) M G.ok hr hb (fun s H pins e s' I c => passAt tk σ pins H s e s' I c) I .nil fun x dx nx nd ne => make_core (as := []) (vs := []) hm ok rfl hkf G.ar h nx nd ne)
end
end J
namespace J
open PySem PySem.Spec PyProof.Rows L2

inductive Flow where
  | nx (ρ : Env) | rt (av : AV) (ρ : Env) | bk (ρ : Env) | ct (ρ : Env)
abbrev SCode := Env → Out Flow
def PSt (K : PySem.W.Frag) (mg : Str → Option Value) (T : Tp) (W : WX) (σ : L2.St) (F H : Hp) (fps : Fps) (r : Out Flow) (D : Ends) : Prop := match r with
  | .ok (.nx ρ') => ∀ σ' F' H' fps', Tr K mg T σ F H fps ρ' σ' F' H' fps' → D.nx σ' H'
  | .ok (.bk ρ') => ∀ σ' F' H' fps', Tr K mg T σ F H fps ρ' σ' F' H' fps' → D.bk σ' H'
  | .ok (.ct ρ') => ∀ σ' F' H' fps', Tr K mg T σ F H fps ρ' σ' F' H' fps' → D.ct σ' H'
  | .ok (.rt av ρ') => ∀ v σ' F' H' fps', Tr K mg T σ F H fps ρ' σ' F' H' fps' → RepA K mg T (NewTo fps H) σ' F' H' fps' av v → D.rt v H'
  | .exc x ρ' => ∀ cls d σ' F' H' fps', Tr K mg T σ F H fps ρ' σ' F' H' fps' → XRep K mg F' H' x cls d → W cls d σ' H'
  | .bad => False
def WS (X : Cx) (st : Stmt) : TS := fun D σ H => ∀ (pins : List (Addr × Obj)) (s : Shared), Inv X pins σ H s → wpAny (model X.prog X.w) X.A (exec st X.env) (SP X pins D) X.xe s
def WSs (X : Cx) (st : List Stmt) : TS := fun D σ H => ∀ (pins : List (Addr × Obj)) (s : Shared), Inv X pins σ H s → wpAny (model X.prog X.w) X.A (execs st X.env) (SP X pins D) X.xe s
theorem WS.ps (X : Cx) (st : Stmt) : PS X st (WS X st) := ⟨fun pins s _ _ _ I h => h pins s I⟩
theorem WSs.pss (X : Cx) (st : List Stmt) : PSs X st (WSs X st) := ⟨fun pins s _ _ _ I h => h pins s I⟩
theorem WS.of {X : Cx} {st : Stmt} {t : TS} (h : PS X st t) {σ : L2.St} {H : Hp} {D : Ends} (q : t D σ H) : WS X st D σ H := fun pins s I => h.run pins s σ H D I q
theorem WSs.of {X : Cx} {st : List Stmt} {t : TS} (h : PSs X st t) {σ : L2.St} {H : Hp} {D : Ends} (q : t D σ H) : WSs X st D σ H := fun pins s I => h.run pins s σ H D I q
structure JS (X : Cx) (T : Tp) (W : WX) (st : Stmt) (f : SCode) : Prop where
  run : ∀ (ρ : Env) (σ : L2.St) (F H : Hp) (fps : Fps) (D : Ends), Ok X.K X.mg ρ σ F H fps → PSt X.K X.mg T W σ F H fps (f ρ) D → WS X st D σ H
structure JSs (X : Cx) (T : Tp) (W : WX) (st : List Stmt) (f : SCode) : Prop where
  run : ∀ (ρ : Env) (σ : L2.St) (F H : Hp) (fps : Fps) (D : Ends), Ok X.K X.mg ρ σ F H fps → PSt X.K X.mg T W σ F H fps (f ρ) D → WSs X st D σ H
section
variable {K : PySem.W.Frag} {mg : Str → Option Value} {T : Tp} {W : WX} {ρ ρ1 ρ' : Env} {σ σ1 : L2.St} {F F0 F1 F' H H0 H1 H' : Hp} {fps fps0 fps1 fps' : Fps} {D : Ends}
theorem PSt.from (t : Tr K mg T σ F H fps ρ1 σ1 F1 H1 fps1) {r : Out Flow} (h : PSt K mg T W σ F H fps r D) : PSt K mg T W σ1 F1 H1 fps1 r D := by
  cases r with
  | ok p =>
    cases p with
    | nx ρ' => exact fun σ' F' H' fps' u => h σ' F' H' fps' (t.trans u)
    | bk ρ' => exact fun σ' F' H' fps' u => h σ' F' H' fps' (t.trans u)
    | ct ρ' => exact fun σ' F' H' fps' u => h σ' F' H' fps' (t.trans u)
    | rt av ρ' => exact fun v σ' F' H' fps' u ra => h v σ' F' H' fps' (t.trans u) (ra.imp fun a => NewTo.from t)
  | exc x ρ' => exact fun cls d σ' F' H' fps' u xr => h cls d σ' F' H' fps' (t.trans u) xr
  | bad => exact h
theorem FP.st : FP K mg T W σ F H fps (fun r => PSt K mg T W σ F H fps r D) := ⟨fun _ _ h cls d F' H' fps' t xr => h cls d σ F' H' fps' t xr, fun h => h⟩
theorem FP.st_from (t : Tr K mg T σ F H fps ρ1 σ1 F1 H1 fps1) : FP K mg T W σ1 F1 H1 fps1 (fun r => PSt K mg T W σ F H fps r D) := ⟨fun _ _ h cls d F' H' fps' u xr => h cls d σ1 F' H' fps' (t.trans u) xr, fun h => h⟩
/-- a slot is stored -/
theorem Tr.store {i : Nat} {sv : SV} {v : V} {fp : List Addr} (t : Tr K mg T σ F0 H0 fps0 ρ σ1 F H fps) (hi : i < ρ.length) (ha : T.asg i = true) (r : RepS K mg F H sv v fp) (hd : ∀ x ∈ fp, ¬InF fps x) (hN : ∀ x ∈ fp, NewTo fps0 H0 x) :
    Tr K mg T σ F0 H0 fps0 (ρ.set i (some sv)) (σ1.set i (some v)) F H (fun k => if k = i then fp else fps k) := by
  refine ⟨⟨t.ok.sub, by simp [t.ok.len], fun k sv' h => ?_, fun k h => ?_, fun k j a hkj h1 h2 => ?_⟩, t.mono, t.keep, t.frz, fun a ⟨k, h⟩ => ?_, fun k hk => ?_, t.fld⟩
  · by_cases hki : k = i
    · subst hki
      rw [List.getElem?_set_self hi] at h
      cases h
      exact ⟨v, List.getElem?_set_self (by rw [← t.ok.len]; exact hi), by rw [if_pos rfl]; exact r⟩
    · rw [List.getElem?_set_ne (Ne.symm hki)] at h
      obtain ⟨u, hu, r'⟩ := t.ok.slot k sv' h
      exact ⟨u, by rw [List.getElem?_set_ne (Ne.symm hki)]; exact hu, by rw [if_neg hki]; exact r'⟩
  · by_cases hki : k = i
    · subst hki
      exact absurd (List.getElem?_set_self hi) (h sv)
    · rw [if_neg hki]
      refine t.ok.non k fun sv' z => h sv' ?_
      rw [List.getElem?_set_ne (Ne.symm hki)]; exact z
  · by_cases hki : k = i
    · rw [if_pos hki] at h1
      rw [if_neg (by rintro rfl; exact hkj hki)] at h2
      exact hd a h1 ⟨j, h2⟩
    · rw [if_neg hki] at h1
      by_cases hji : j = i
      · rw [if_pos hji] at h2
        exact hd a h2 ⟨k, h1⟩
      · rw [if_neg hji] at h2
        exact t.ok.sep k j a hkj h1 h2
  · dsimp only at h
    split at h
    · exact hN a h
    · exact t.own a ⟨k, h⟩
  · have : k ≠ i := by rintro rfl; rw [ha] at hk; cases hk
    rw [List.getElem?_set_ne (Ne.symm this)]
    exact t.sl k hk
end
/-- a value to be kept in a slot: a thing of its own stays so -/
def AV.keep : AV → Env → Option (SV × Env)
  | .o w, ρ => some (.o w, ρ)
  | av, ρ => (av.frz ρ).map fun p => (.d p.1, p.2)
section
variable {K : PySem.W.Frag} {mg : Str → Option Value} {T : Tp} {ρ ρ' : Env} {σ : L2.St} {F F0 H H0 : Hp} {fps fps0 : Fps}
theorem keep_ok {av : AV} {v : V} {sv : SV} (t : Tr K mg T σ F0 H0 fps0 ρ σ F H fps) (ra : RepA K mg T (NewTo fps0 H0) σ F H fps av v) (e : av.keep ρ = some (sv, ρ')) :
    ∃ F' fps' fp, Tr K mg T σ F0 H0 fps0 ρ' σ F' H fps' ∧ RepS K mg F' H sv v fp ∧ (∀ x ∈ fp, ¬InF fps' x) ∧ (∀ x ∈ fp, NewTo fps0 H0 x) := by
  have frz : (av.frz ρ).map (fun p => (SV.d p.1, p.2)) = some (sv, ρ') → ∃ F' fps' fp, Tr K mg T σ F0 H0 fps0 ρ' σ F' H fps' ∧ RepS K mg F' H sv v fp ∧ (∀ x ∈ fp, ¬InF fps' x) ∧ (∀ x ∈ fp, NewTo fps0 H0 x) := fun e => by
    cases q : av.frz ρ with
    | none => rw [q] at e; cases e
    | some p =>
      obtain ⟨d, ρ''⟩ := p
      rw [q] at e
      simp only [Option.map_some, Option.some.injEq, Prod.mk.injEq] at e
      obtain ⟨rfl, rfl⟩ := e
      obtain ⟨F', fps', t', r, m⟩ := frz_ok t ra q
      exact ⟨F', fps', [], t', ⟨r, rfl⟩, fun x hx => absurd hx (by simp), fun x hx => absurd hx (by simp)⟩
  cases av with
  | o w =>
    cases e
    obtain ⟨a, fp, rfl, h1, h2, h3, h4⟩ := ra
    exact ⟨F, fps, fp, t, ⟨a, rfl, h1, h2⟩, h3, h4⟩
  | d x => exact frz e
  | s j => exact frz e
  | g j y => exact frz e
end
section
variable {X : Cx} {T : Tp} {W : WX} {a b c e : Expr} {es : List Expr} {pos : Pos} {fa fb : ECode} {st : Stmt} {sts : List Stmt} {f g : SCode}
def setS (i : Nat) (q : SV × Env) : Out Flow := if i < q.2.length then .ok (.nx (q.2.set i (some q.1))) else .bad
/-- name = value -/
def cSet (i : Nat) (f : ECode) : SCode := fun ρ => (f ρ).bind fun p => (Out.of (p.1.keep p.2)).bind (setS i)
/-- the value is there: it is stored -/
theorem set_end {i : Nat} {av : AV} {v : V} {ρ1 : Env} {σ : L2.St} {F H F1 H1 : Hp} {fps fps1 : Fps} {D : Ends} (ha : T.asg i = true) (t : Tr X.K X.mg T σ F H fps ρ1 σ F1 H1 fps1) (ra : RepA X.K X.mg T (NewTo fps H) σ F1 H1 fps1 av v)
    (h : PSt X.K X.mg T W σ F H fps ((Out.of (av.keep ρ1)).bind (setS i)) D) : D.nx (σ.set i (some v)) H1 := by
  cases q : av.keep ρ1 with
  | none => rw [q] at h; exact h.elim
  | some z =>
    obtain ⟨sv, ρ'⟩ := z
    rw [q] at h
    obtain ⟨F', fps', fp, t', r, hd, hN⟩ := keep_ok t ra q
    dsimp only [Out.of_some, Out.bind_ok] at h
    unfold setS at h
    dsimp only at h
    split at h
    · rename_i hi
      exact h _ _ _ _ (t'.store hi ha r hd hN)
    · exact h.elim
theorem js_set {i : Nat} {x : Str} {pos' : Pos} (hN : X.N.Nodup) (hi : X.N[i]? = some x) (hx : Loc X.env.scope x) (ha : T.asg i = true) (ja : JX X T W a fa) (hs : swapsWith a (some (.Name x pos')) pos.line X.env = pure false := by rfl)
    (hf : X.fn x = true ∨ X.env.scope.names.lookup x = some .local := by first | exact .inl rfl | exact .inr rfl | assumption) : JS X T W (.Assign [.Name x pos'] a pos) (cSet i fa) := by
  refine ⟨fun ρ σ F H fps D ok h => WS.of (ps_set hN hi hx (WE.pe X a) hs hf) ?_⟩
  refine ja.next ok FP.st h fun av ρ1 v F1 H1 fps1 t1 ra h1 => ?_
  exact set_end ha t1 ra h1
def cDrop (f : ECode) : SCode := fun ρ => (f ρ).bind fun p => .ok (.nx p.2)
theorem js_expr (ja : JX X T W a fa) (hs : swapsWith a none pos.line X.env = pure false := by rfl) : JS X T W (.Expr a pos) (cDrop fa) := by
  refine ⟨fun ρ σ F H fps D ok h => WS.of (ps_expr (WE.pe X a) hs) ?_⟩
  refine ja.next ok FP.st h fun av ρ1 v F1 H1 fps1 t1 ra h1 => ?_
  exact h1 σ F1 H1 fps1 t1
def cRet (f : ECode) : SCode := fun ρ => (f ρ).bind fun p => .ok (.rt p.1 p.2)
def cRetN : SCode := fun ρ => .ok (.rt (.d .non) ρ)
theorem js_ret (ja : JX X T W a fa) : JS X T W (.Return (some a) pos) (cRet fa) := by
  refine ⟨fun ρ σ F H fps D ok h => WS.of (ps_ret (WE.pe X a)) ?_⟩
  refine ja.next ok FP.st h fun av ρ1 v F1 H1 fps1 t1 ra h1 => ?_
  exact h1 v σ F1 H1 fps1 t1 ra
theorem js_retN : JS X T W (.Return none pos) cRetN :=
  ⟨fun ρ σ F H fps D ok h => WS.of ps_retN (h .non σ F H fps (Tr.refl ok) rfl)⟩
def cPass : SCode := fun ρ => .ok (.nx ρ)
def cBreak : SCode := fun ρ => .ok (.bk ρ)
def cCont : SCode := fun ρ => .ok (.ct ρ)
theorem js_pass : JS X T W (.Pass pos) cPass := ⟨fun ρ σ F H fps D ok h => WS.of ps_pass (h σ F H fps (Tr.refl ok))⟩
theorem js_break : JS X T W (.Break pos) cBreak := ⟨fun ρ σ F H fps D ok h => WS.of ps_break (h σ F H fps (Tr.refl ok))⟩
theorem js_cont : JS X T W (.Continue pos) cCont := ⟨fun ρ σ F H fps D ok h => WS.of ps_continue (h σ F H fps (Tr.refl ok))⟩
def cSeq (f g : SCode) : SCode := fun ρ => match f ρ with
  | .ok (.nx ρ') => g ρ'
  | r => r
theorem jss_nil : JSs X T W [] cPass := ⟨fun ρ σ F H fps D ok h => WSs.of pss_nil (h σ F H fps (Tr.refl ok))⟩
theorem jss_one (j : JS X T W st f) : JSs X T W [st] f := ⟨fun ρ σ F H fps D ok h => WSs.of (pss_one (WS.ps X st)) (j.run ρ σ F H fps D ok h)⟩
theorem jss_cons (j : JS X T W st f) (js : JSs X T W sts g) : JSs X T W (st :: sts) (cSeq f g) := by
  refine ⟨fun ρ σ F H fps D ok h => WSs.of (pss_cons (WS.ps X st) (WSs.pss X sts)) ?_⟩
  refine j.run ρ σ F H fps { D with nx := WSs X sts D } ok ?_
  unfold cSeq at h
  cases q : f ρ with
  | ok p =>
    rw [q] at h
    cases p with
    | nx ρ' => exact fun σ' F' H' fps' t => js.run ρ' σ' F' H' fps' D t.ok (PSt.from t h)
    | bk ρ' => exact h
    | ct ρ' => exact h
    | rt av ρ' => exact h
  | exc x ρ' => rw [q] at h; exact h
  | bad => rw [q] at h; exact h
def cIfS (t : Env → Out (Bool × Env)) (f g : SCode) : SCode := fun ρ => (t ρ).bind fun p => if p.1 then f p.2 else g p.2
theorem js_if {t : Env → Out (Bool × Env)} {p q : List Stmt} (jt : JT X T W c t) (jp : JSs X T W p f) (jq : JSs X T W q g) : JS X T W (.If c p q pos) (cIfS t f g) := by
  refine ⟨fun ρ σ F H fps D ok h => WS.of (ps_if (WT.pt X c) (WSs.pss X p) (WSs.pss X q)) ?_⟩
  refine jt.next ok FP.st h fun k ρ1 F1 H1 fps1 t1 h1 => ?_
  cases k with
  | true => exact jp.run ρ1 σ F1 H1 fps1 D t1.ok (PSt.from t1 h1)
  | false => exact jq.run ρ1 σ F1 H1 fps1 D t1.ok (PSt.from t1 h1)
def whileF (t : Env → Out (Bool × Env)) (f : SCode) : Nat → Env → Out Flow
  | 0, _ => .bad
  | n + 1, ρ => (t ρ).bind fun p => if p.1 then (match f p.2 with
      | .ok (.nx ρ') => whileF t f n ρ'
      | .ok (.ct ρ') => whileF t f n ρ'
      | .ok (.bk ρ') => .ok (.nx ρ')
      | r => r) else .ok (.nx p.2)
def fuel : Nat := 18446744073709551616
def cWhile (t : Env → Out (Bool × Env)) (f : SCode) : SCode := fun ρ => whileF t f fuel ρ
theorem js_while {t : Env → Out (Bool × Env)} (hp : PassesOwn (model X.prog X.w) X.A X.env X.xe) (jt : JT X T W c t) (jb : JSs X T W sts f) : JS X T W (.While c sts [] pos) (cWhile t f) := by
  refine ⟨fun ρ σ F H fps D ok h => WS.of (ps_while hp (WT.pt X c) (WSs.pss X sts)) ?_⟩
  refine ⟨fun m σ2 H2 => ∃ ρ2 F2 fps2, Tr X.K X.mg T σ F H fps ρ2 σ2 F2 H2 fps2 ∧ PSt X.K X.mg T W σ F H fps (whileF t f m ρ2) D, ⟨fuel, ρ, F, fps, Tr.refl ok, h⟩, ?_⟩
  rintro m σ2 H2 ⟨ρ2, F2, fps2, t2, h2⟩
  cases m with
  | zero => exact h2.elim
  | succ m =>
    refine jt.next t2.ok (FP.st_from t2) h2 fun k ρ3 F3 H3 fps3 t3 h3 => ?_
    have t03 := t2.trans t3
    cases k with
    | true =>
      rw [if_pos rfl]
      refine ⟨fun σ' H' => ∃ ρ' F' fps', Tr X.K X.mg T σ F H fps ρ' σ' F' H' fps' ∧ PSt X.K X.mg T W σ F H fps (whileF t f m ρ') D, fun σ' H' w => ⟨m, Nat.lt_succ_self m, w⟩, ?_⟩
      refine jb.run ρ3 σ2 F3 H3 fps3 _ t3.ok ?_
      have h0 : PSt X.K X.mg T W σ F H fps (match f ρ3 with
        | .ok (.nx ρ') => whileF t f m ρ'
        | .ok (.ct ρ') => whileF t f m ρ'
        | .ok (.bk ρ') => .ok (.nx ρ')
        | r => r) D := h3
      cases q : f ρ3 with
      | ok p =>
        rw [q] at h0
        cases p with
        | nx ρ' => exact fun σ' F' H' fps' u => ⟨ρ', F', fps', t03.trans u, h0⟩
        | ct ρ' => exact fun σ' F' H' fps' u => ⟨ρ', F', fps', t03.trans u, h0⟩
        | bk ρ' => exact fun σ' F' H' fps' u => h0 σ' F' H' fps' (t03.trans u)
        | rt av ρ' => exact fun v σ' F' H' fps' u ra => h0 v σ' F' H' fps' (t03.trans u) (ra.imp fun a => NewTo.from t03)
      | exc x ρ' => rw [q] at h0; exact fun cls d σ' F' H' fps' u xr => h0 cls d σ' F' H' fps' (t03.trans u) xr
      | bad => rw [q] at h0; exact h0
    | false =>
      rw [if_neg Bool.false_ne_true]
      exact h3 σ2 F3 H3 fps3 t03
abbrev TgC := D → Env → Out Env
def WG (X : Cx) (tg : Expr) : TG := fun v σ H Q => ∀ (pins : List (Addr × Obj)) (s : Shared) (u : Value), Inv X pins σ H s → RelV v u → wpAny (model X.prog X.w) X.A (assign tg X.env u) (fun _ s' => ∃ σ' H', Inv X pins σ' H' s' ∧ Q σ' H') X.xe s
theorem WG.pg (X : Cx) (tg : Expr) : PG X tg (WG X tg) := ⟨fun pins s _ _ _ u _ I r h => h pins s u I r⟩
theorem WG.of {X : Cx} {tg : Expr} {t : TG} (h : PG X tg t) {v : V} {σ : L2.St} {H : Hp} {Q : L2.St → Hp → Prop} (q : t v σ H Q) : WG X tg v σ H Q := fun pins s u I r => h.run pins s σ H v u Q I r q
structure JG (X : Cx) (T : Tp) (tg : Expr) (g : TgC) : Prop where
  run : ∀ (ρ ρ' : Env) (σ : L2.St) (F H : Hp) (fps : Fps) (d : D) (v : V) (Q : L2.St → Hp → Prop), Ok X.K X.mg ρ σ F H fps → Rep X.K X.mg F d v → g d ρ = .ok ρ' → (∀ σ' F' H' fps', Tr X.K X.mg T σ F H fps ρ' σ' F' H' fps' → Q σ' H') → WG X tg v σ H Q
def WGs (X : Cx) (ts : List Expr) : TGs := fun vs σ H Q => ∀ (pins : List (Addr × Obj)) (s : Shared) (us : List Value), Inv X pins σ H s → Vals vs us → wpAny (model X.prog X.w) X.A (assignInOrder ((assignEach ts X.env).map (·.2)) us) (fun _ s' => ∃ σ' H', Inv X pins σ' H' s' ∧ Q σ' H') X.xe s
theorem WGs.pgs (X : Cx) (ts : List Expr) : PGs X ts (WGs X ts) := ⟨fun pins s _ _ _ us _ I r h => h pins s us I r⟩
theorem WGs.of {X : Cx} {ts : List Expr} {t : TGs} (h : PGs X ts t) {vs : List V} {σ : L2.St} {H : Hp} {Q : L2.St → Hp → Prop} (q : t vs σ H Q) : WGs X ts vs σ H Q := fun pins s us I r => h.run pins s σ H vs us Q I r q
structure JGs (X : Cx) (T : Tp) (ts : List Expr) (g : List D → Env → Out Env) : Prop where
  run : ∀ (ρ ρ' : Env) (σ : L2.St) (F H : Hp) (fps : Fps) (ds : List D) (vs : List V) (Q : L2.St → Hp → Prop), Ok X.K X.mg ρ σ F H fps → Reps X.K X.mg F ds vs → g ds ρ = .ok ρ' → (∀ σ' F' H' fps', Tr X.K X.mg T σ F H fps ρ' σ' F' H' fps' → Q σ' H') → WGs X ts vs σ H Q
def tName (i : Nat) : TgC := fun d ρ => if i < ρ.length then .ok (ρ.set i (some (.d d))) else .bad
def tsNil : List D → Env → Out Env := fun ds ρ => match ds with
  | [] => .ok ρ
  | _ => .bad
def tsCons (g : TgC) (gs : List D → Env → Out Env) : List D → Env → Out Env := fun ds ρ => match ds with
  | d :: ds => (g d ρ).bind fun ρ' => gs ds ρ'
  | _ => .bad
def tTup (gs : List D → Env → Out Env) : TgC := fun d ρ => match tupl d with
  | some ds => gs ds ρ
  | none => .bad
theorem jg_name {i : Nat} {x : Str} (hN : X.N.Nodup) (hi : X.N[i]? = some x) (hx : Loc X.env.scope x) (ha : T.asg i = true) (hf : X.fn x = true ∨ X.env.scope.names.lookup x = some .local := by first | exact .inl rfl | exact .inr rfl | assumption) : JG X T (.Name x pos) (tName i) := by
  refine ⟨fun ρ ρ' σ F H fps d v Q ok r e h => WG.of (pg_name hN hi hx hf) ?_⟩
  unfold tName at e
  split at e
  · rename_i hl
    cases e
    exact h _ _ _ _ ((Tr.refl ok).store (fp := []) hl ha ⟨r, rfl⟩ (fun x hx => absurd hx (by simp)) (fun x hx => absurd hx (by simp)))
  · cases e
theorem jgs_nil : JGs X T [] tsNil := by
  refine ⟨fun ρ ρ' σ F H fps ds vs Q ok r e h => WGs.of pgs_nil ?_⟩
  unfold tsNil at e
  split at e
  · cases e; exact ⟨r, h σ F H fps (Tr.refl ok)⟩
  · cases e
theorem jgs_cons {g : TgC} {gs : List D → Env → Out Env} (jg : JG X T a g) (jgs : JGs X T es gs) (hs : (assignEach (a :: es) X.env).map (·.2) = assign a X.env :: (assignEach es X.env).map (·.2) := by rfl) : JGs X T (a :: es) (tsCons g gs) := by
  refine ⟨fun ρ ρ' σ F H fps ds vs Q ok r e h => WGs.of (pgs_cons (WG.pg X a) (WGs.pgs X es) hs) ?_⟩
  unfold tsCons at e
  split at e
  · rename_i d ds
    obtain ⟨v, vs', rfl, r1, r2⟩ := r
    refine ⟨v, vs', rfl, ?_⟩
    cases q : g d ρ with
    | ok ρ1 =>
      rw [q] at e
      refine jg.run ρ ρ1 σ F H fps d v _ ok r1 q fun σ' F' H' fps' t => ?_
      exact jgs.run ρ1 ρ' σ' F' H' fps' ds vs' Q t.ok (r2.mono t.mono) e fun σ2 F2 H2 fps2 t2 => h σ2 F2 H2 fps2 (t.trans t2)
    | exc x z => rw [q] at e; cases e
    | bad => rw [q] at e; cases e
  · cases e
theorem jg_tup {k : Nat} {gs : List D → Env → Out Env} (hc : X.calm = true) (jgs : JGs X T es gs) (hl : ∀ ds ρ ρ', gs ds ρ = .ok ρ' → ds.length = es.length) (hn : (assignEach es X.env).length = es.length := by rfl) (hst : (assignEach es X.env).findIdx? (·.1) = none := by rfl) :
    JG X T (.Tuple es k pos) (tTup gs) := by
  refine ⟨fun ρ ρ' σ F H fps d v Q ok r e h => WG.of (pg_tup hc (WGs.pgs X es) hn hst) ?_⟩
  unfold tTup at e
  split at e
  · rename_i ds ed
    obtain ⟨p, vs, rfl, h1, h2⟩ := (Rep.top ok.sub r).tupl ok.sub ed
    exact ⟨p, vs, rfl, h1, by rw [← h2.length]; exact hl ds ρ ρ' e, jgs.run ρ ρ' σ F H fps ds vs Q ok h2 e h⟩
  · cases e
theorem tsNil_len {ds : List D} {ρ ρ' : Env} (h : tsNil ds ρ = .ok ρ') : ds.length = 0 := by
  unfold tsNil at h
  split at h
  · rfl
  · cases h
theorem tsCons_len {g : TgC} {gs : List D → Env → Out Env} {n : Nat} (hg : ∀ ds ρ ρ', gs ds ρ = .ok ρ' → ds.length = n) {ds : List D} {ρ ρ' : Env} (h : tsCons g gs ds ρ = .ok ρ') : ds.length = n + 1 := by
  unfold tsCons at h
  split at h
  · rename_i d ds
    cases q : g d ρ with
    | ok ρ1 => rw [q] at h; simp [hg _ _ _ h]
    | exc x z => rw [q] at h; cases h
    | bad => rw [q] at h; cases h
  · cases h
/-- target = data -/
def cAsg (f : Env → Out (D × Env)) (g : TgC) : SCode := fun ρ => (f ρ).bind fun p => match g p.1 p.2 with
  | .ok ρ' => .ok (.nx ρ')
  | _ => .bad
theorem js_asg {tg : Expr} {f : Env → Out (D × Env)} {g : TgC} (ja : JD X T W a f) (jg : JG X T tg g) (hs : swapsWithSole [tg] a pos.line X.env = pure false := by rfl) (hw : swappedStores [tg] a X.env = pure none := by rfl)
    (h1 : (assignEach [tg] X.env).map (·.2) = [assign tg X.env] := by rfl) : JS X T W (.Assign [tg] a pos) (cAsg f g) := by
  refine ⟨fun ρ σ F H fps D ok h => WS.of (ps_asg (WE.pe X a) (WG.pg X tg) hs hw h1) ?_⟩
  refine ja.next ok FP.st h fun x ρ1 v F1 H1 fps1 t1 r1 h1 => ?_
  dsimp only at h1
  split at h1
  · rename_i ρ' e
    exact jg.run ρ1 ρ' σ F1 H1 fps1 x v D.nx t1.ok r1 e fun σ' F' H' fps' t2 => h1 σ' F' H' fps' (t1.trans t2)
  · exact h1.elim
end
end J
namespace J
open PySem PySem.Spec PyProof.Rows L2
/-- the iterator gives ds, whatever stands besides -/
def Walks (K : PySem.W.Frag) (mg : Str → Option Value) (J : It) (ds : List D) (F : Hp) : Prop :=
  ∀ F2 H2, Mono F F2 → Sub F2 H2 → ∀ i, (∀ d, ds[i]? = some d → J.go i H2 ∧ ∀ x H3, J.yld i H2 x H3 → ∃ F3, Grow F2 H2 F3 H3 ∧ Rep K mg F3 d x) ∧ (ds.length ≤ i → J.stop i H2)
def WI (X : Cx) (tg it : Expr) : TI := fun σ H R => ∀ (pins : List (Addr × Obj)) (s : Shared), Inv X pins σ H s →
  wpAny (model X.prog X.w) X.A (eval it X.env) (fun v s1 => wpAny (model X.prog X.w) X.A (pyIter v) (PIE X pins σ tg R) X.xe s1) X.xe s
theorem WI.pi (X : Cx) (tg it : Expr) : PI X tg it (WI X tg it) := ⟨fun pins s _ _ _ I h => h pins s I⟩
theorem WI.of {X : Cx} {tg it : Expr} {t : TI} (h : PI X tg it t) {σ : L2.St} {H : Hp} {R : It → Hp → Prop} (q : t σ H R) : WI X tg it σ H R := fun pins s I => h.run pins s σ H R I q
abbrev ICode := Env → Out (List D × Env)
def PIt (K : PySem.W.Frag) (mg : Str → Option Value) (T : Tp) (W : WX) (σ : L2.St) (F H : Hp) (fps : Fps) (r : Out (List D × Env)) (R : It → Hp → Prop) : Prop := match r with
  | .ok (ds, ρ') => ∀ J F' H' fps', Tr K mg T σ F H fps ρ' σ F' H' fps' → Walks K mg J ds F' → R J H'
  | .exc x ρ' => ∀ cls d F' H' fps', Tr K mg T σ F H fps ρ' σ F' H' fps' → XRep K mg F' H' x cls d → W cls d σ H'
  | .bad => False
structure JI (X : Cx) (T : Tp) (W : WX) (tg it : Expr) (f : ICode) : Prop where
  run : ∀ (ρ : Env) (σ : L2.St) (F H : Hp) (fps : Fps) (R : It → Hp → Prop), Ok X.K X.mg ρ σ F H fps → PIt X.K X.mg T W σ F H fps (f ρ) R → WI X tg it σ H R
section
variable {X : Cx} {T : Tp} {W : WX} {a b c e tg it : Expr} {es : List Expr} {pos : Pos} {fa fb : ECode} {sts : List Stmt} {f : SCode} {g : TgC}
theorem FP.pit {K : PySem.W.Frag} {mg : Str → Option Value} {σ : L2.St} {F H : Hp} {fps : Fps} {R : It → Hp → Prop} : FP K mg T W σ F H fps (fun r => PIt K mg T W σ F H fps r R) := ⟨fun _ _ h => h, fun h => h⟩
theorem PIt.from {K : PySem.W.Frag} {mg : Str → Option Value} {ρ1 : Env} {σ : L2.St} {F H F1 H1 : Hp} {fps fps1 : Fps} {R : It → Hp → Prop} (t : Tr K mg T σ F H fps ρ1 σ F1 H1 fps1) {r : Out (List D × Env)} (h : PIt K mg T W σ F H fps r R) : PIt K mg T W σ F1 H1 fps1 r R := by
  cases r with
  | ok p => exact fun J F' H' fps' u w => h J F' H' fps' (t.trans u) w
  | exc x ρ' => exact fun cls d F' H' fps' u xr => h cls d F' H' fps' (t.trans u) xr
  | bad => exact h
def cItems (fa : ECode) : ICode := fun ρ => (fa ρ).bind fun p => (Out.of (p.1.frz p.2)).bind fun q => (Out.of (seqD q.1)).bind fun ds => .ok (ds, q.2)
theorem walks_l {K : PySem.W.Frag} {mg : Str → Option Value} {F : Hp} {p : Addr} {vs : List V} {ds : List D} (h : SqL K F p vs) (r : Reps K mg F ds vs) : Walks K mg (Itl K p) ds F := by
  intro F2 H2 m s i
  have h2 := sqL_sub s (sqL_mono m h)
  refine ⟨fun d e => ?_, fun hl => ⟨vs, h2, by rw [← r.length]; exact hl⟩⟩
  obtain ⟨v, e1, r1⟩ := r.get e
  refine ⟨⟨vs, v, h2, e1⟩, fun x H3 ⟨eH, y⟩ => ?_⟩
  subst eH
  have := y vs h2
  rw [e1] at this
  cases this
  exact ⟨F2, .refl s, r1.mono m⟩
theorem walks_t {K : PySem.W.Frag} {mg : Str → Option Value} {F : Hp} {p : Addr} {vs : List V} {ds : List D} (h : SqT K F p vs) (r : Reps K mg F ds vs) : Walks K mg (Itt K p) ds F := by
  intro F2 H2 m s i
  have h2 := sqT_sub s (sqT_mono m h)
  refine ⟨fun d e => ?_, fun hl => ⟨vs, h2, by rw [← r.length]; exact hl⟩⟩
  obtain ⟨v, e1, r1⟩ := r.get e
  refine ⟨⟨vs, v, h2, e1⟩, fun x H3 ⟨eH, y⟩ => ?_⟩
  subst eH
  have := y vs h2
  rw [e1] at this
  cases this
  exact ⟨F2, .refl s, r1.mono m⟩
theorem ji_items (ja : JX X T W it fa) : JI X T W tg it (cItems fa) := by
  refine ⟨fun ρ σ F H fps R ok h => ?_⟩
  -- what it comes to, frozen
  have key : ∀ d ρ' ds, (∀ av ρ1, fa ρ = .ok (av, ρ1) → av.frz ρ1 = some (d, ρ')) → seqD d = some ds → (∃ p, fa ρ = .ok p) → PIt X.K X.mg T W σ F H fps (.ok (ds, ρ')) R →
      WE X it σ H (fun v H' => ∃ F' fps', Tr X.K X.mg T σ F H fps ρ' σ F' H' fps' ∧ Rep X.K X.mg F' d v) := fun d ρ' ds hf _ ⟨p, hp⟩ _ => by
    obtain ⟨av, ρ1⟩ := p
    refine ja.run ρ σ F H fps _ ok ?_
    rw [hp]
    intro v F1 H1 fps1 t ra
    obtain ⟨F', fps', t', r, _⟩ := frz_ok t ra (hf av ρ1 hp)
    exact ⟨F', fps', t', r⟩
  unfold cItems at h
  cases q : fa ρ with
  | ok p =>
    obtain ⟨av, ρ1⟩ := p
    rw [q] at h
    dsimp only [Out.bind] at h
    cases q2 : av.frz ρ1 with
    | none => rw [q2] at h; exact h.elim
    | some z =>
      obtain ⟨d, ρ'⟩ := z
      rw [q2] at h
      dsimp only [Out.of, Out.bind] at h
      cases q3 : seqD d with
      | none => rw [q3] at h; exact h.elim
      | some ds =>
        rw [q3] at h
        have h : PIt X.K X.mg T W σ F H fps (.ok (ds, ρ')) R := h
        have k := key d ρ' ds (fun av' ρ1' e => by rw [q] at e; cases e; exact q2) q3 ⟨_, q⟩ h
        cases d with
        | tup xs =>
          cases q3
          refine WI.of (pi_tup (WE.pe X it)) (k.imp fun v H' ⟨F', fps', t', r⟩ => ?_)
          obtain ⟨p, vs, rfl, r1, r2⟩ := r
          exact ⟨p, rfl, ⟨vs, .of (t'.ok.sub.tup r1)⟩, h _ F' H' fps' t' (walks_t (.of r1) r2)⟩
        | wtp xs =>
          cases q3
          refine WI.of (pi_tup (WE.pe X it)) (k.imp fun v H' ⟨F', fps', t', r⟩ => ?_)
          obtain ⟨p, vs, rfl, r1, r2⟩ := r
          exact ⟨p, rfl, ⟨vs, sqT_sub t'.ok.sub r1⟩, h _ F' H' fps' t' (walks_t r1 r2)⟩
        | lst xs =>
          cases q3
          refine WI.of (pi_list (WE.pe X it)) (k.imp fun v H' ⟨F', fps', t', r⟩ => ?_)
          obtain ⟨p, vs, rfl, r1, r2⟩ := r
          exact ⟨p, rfl, ⟨vs, .of (t'.ok.sub.lst r1)⟩, h _ F' H' fps' t' (walks_l (.of r1) r2)⟩
        | scr xs =>
          cases q3
          refine WI.of (pi_list (WE.pe X it)) (k.imp fun v H' ⟨F', fps', t', r⟩ => ?_)
          obtain ⟨p, vs, rfl, r1, r2⟩ := r
          exact ⟨p, rfl, ⟨vs, sqL_sub t'.ok.sub r1⟩, h _ F' H' fps' t' (walks_l r1 r2)⟩
        | _ => cases q3
  | exc x ρ1 =>
    rw [q] at h
    refine WI.of (pi_list (WE.pe X it)) (ja.run ρ σ F H fps _ ok ?_)
    rw [q]; exact h
  | bad => rw [q] at h; exact h.elim
def rangeD (lo : Int) (n : Nat) : List D := (List.range n).map fun (i : Nat) => D.int (lo + (i : Int))
theorem walks_r {K : PySem.W.Frag} {mg : Str → Option Value} {F : Hp} {lo : Int} {n : Nat} : Walks K mg (Itr lo n) (rangeD lo n) F := by
  intro F2 H2 m s i
  refine ⟨fun d e => ?_, fun hl => (by simpa [rangeD] using hl : n ≤ i)⟩
  unfold rangeD at e
  rw [List.getElem?_map] at e
  cases q : (List.range n)[i]? with
  | none => rw [q] at e; cases e
  | some j =>
    rw [q] at e
    have hi := (List.getElem?_eq_some_iff.mp q).1
    rw [List.length_range] at hi
    rw [List.getElem?_range hi] at q
    cases q; cases e
    exact ⟨hi, fun x H3 ⟨eH, ex⟩ => by subst eH ex; exact ⟨F2, .refl s, rfl⟩⟩
def rg62 (i : Int) : Bool := decide (-(2 ^ 62) ≤ i) && decide (i < 2 ^ 62)
theorem rg62_ok {i : Int} (h : rg62 i = true) : -(2 ^ 62) ≤ i ∧ i < 2 ^ 62 := by
  unfold rg62 at h
  simp only [Bool.and_eq_true, decide_eq_true_eq] at h
  exact h
def rItems1 : List D → Option (List D)
  | [.int j] => if rg62 j then some (rangeD 0 j.toNat) else none
  | _ => none
def rItems2 : List D → Option (List D)
  | [.int i, .int j] => if rg62 i && rg62 j then some (rangeD i (j - i).toNat) else none
  | _ => none
/-- downwards -/
def rangeN (hi : Int) (n : Nat) : List D := (List.range n).map fun (i : Nat) => D.int (hi - (i : Int))
def rItems3 : List D → Option (List D)
  | [.int i, .int j, .int c] => if rg62 i && rg62 j && decide (c = -1) then some (rangeN i (i - j).toNat) else none
  | _ => none
def cRange (f : List D → Option (List D)) (g : Env → Out (List D × Env)) : ICode := fun ρ => (g ρ).bind fun p => (Out.of (f p.1)).bind fun ds => .ok (ds, p.2)
variable {gl : Env → Out (List D × Env)} {p : Pos}
theorem ji_range1 (hg : Gl X "range") (hm : X.mg "range" = none) (ja : JDs X T W [a] gl) (hs : starEach [a] X.env = [(false, eval a X.env)] := by rfl) : JI X T W tg (.Call (.Name "range" p) [a] [] pos) (cRange rItems1 gl) := by
  refine ⟨fun ρ σ F H fps R ok h => WI.of (pi_range1 hg hm (WA.pa X [a]) hs) ?_⟩
  refine ja.next ok FP.pit h fun xs ρ1 vs F1 H1 fps1 t1 r1 h1 => ?_
  replace h1 := PIt.from t1 h1
  cases q : rItems1 xs with
  | none => dsimp only at h1; rw [q] at h1; exact h1.elim
  | some ds =>
    dsimp only at h1; rw [q] at h1
    replace h1 : PIt X.K X.mg T W σ F1 H1 fps1 (.ok (ds, ρ1)) R := h1
    unfold rItems1 at q
    split at q
    · rename_i j
      split at q
      · rename_i hb
        cases q
        obtain ⟨b1, b2⟩ := rg62_ok hb
        obtain ⟨v, r, rfl, e1, e2⟩ := r1
        have e1 : v = .int j := e1
        have e2 : r = [] := e2
        subst e1 e2
        exact ⟨j, rfl, b1, b2, h1 _ F1 H1 fps1 (Tr.refl t1.ok) walks_r⟩
      · cases q
    · cases q
theorem ji_range2 (hg : Gl X "range") (hm : X.mg "range" = none) (ja : JDs X T W [a, b] gl) (hs : starEach [a, b] X.env = [(false, eval a X.env), (false, eval b X.env)] := by rfl) (hs2 : starEach [b] X.env = [(false, eval b X.env)] := by rfl) :
    JI X T W tg (.Call (.Name "range" p) [a, b] [] pos) (cRange rItems2 gl) := by
  refine ⟨fun ρ σ F H fps R ok h => WI.of (pi_range2 hg hm (WA.pa X [a, b]) hs hs2) ?_⟩
  refine ja.next ok FP.pit h fun xs ρ1 vs F1 H1 fps1 t1 r1 h1 => ?_
  replace h1 := PIt.from t1 h1
  cases q : rItems2 xs with
  | none => dsimp only at h1; rw [q] at h1; exact h1.elim
  | some ds =>
    dsimp only at h1; rw [q] at h1
    replace h1 : PIt X.K X.mg T W σ F1 H1 fps1 (.ok (ds, ρ1)) R := h1
    unfold rItems2 at q
    split at q
    · rename_i i j
      split at q
      · rename_i hb
        simp only [Bool.and_eq_true] at hb
        cases q
        obtain ⟨b1, b2⟩ := rg62_ok hb.1
        obtain ⟨b3, b4⟩ := rg62_ok hb.2
        obtain ⟨v, r, rfl, e1, u, r', rfl, e2, e3⟩ := r1
        have e1 : v = .int i := e1
        have e2 : u = .int j := e2
        have e3 : r' = [] := e3
        subst e1 e2 e3
        exact ⟨i, j, rfl, ⟨b1, b2, b3, b4⟩, h1 _ F1 H1 fps1 (Tr.refl t1.ok) walks_r⟩
      · cases q
    · cases q
theorem walks_n {K : PySem.W.Frag} {mg : Str → Option Value} {F : Hp} {hi : Int} {n : Nat} : Walks K mg (Itc hi (-1) n) (rangeN hi n) F := by
  intro F2 H2 m s i
  refine ⟨fun d e => ?_, fun hl => (by simpa [rangeN] using hl : n ≤ i)⟩
  unfold rangeN at e
  rw [List.getElem?_map] at e
  cases q : (List.range n)[i]? with
  | none => rw [q] at e; cases e
  | some j =>
    rw [q] at e
    have hj := (List.getElem?_eq_some_iff.mp q).1
    rw [List.length_range] at hj
    rw [List.getElem?_range hj] at q
    cases q; cases e
    refine ⟨hj, fun x H3 ⟨eH, ex⟩ => ?_⟩
    subst eH ex
    refine ⟨F2, .refl s, ?_⟩
    show V.int _ = V.int _
    congr 1
    omega
theorem ji_range3 (hg : Gl X "range") (hm : X.mg "range" = none) (ja : JDs X T W [a, b, c] gl) (hs : starEach [a, b, c] X.env = (false, eval a X.env) :: starEach [b, c] X.env := by rfl) (hpl : (backTo pos (starEach [b, c] X.env)).any (·.1) = false := by rfl) :
    JI X T W tg (.Call (.Name "range" p) [a, b, c] [] pos) (cRange rItems3 gl) := by
  refine ⟨fun ρ σ F H fps R ok h => WI.of (pi_range3 hg hm (WA.pa X [a, b, c]) hs hpl) ?_⟩
  refine ja.next ok FP.pit h fun xs ρ1 vs F1 H1 fps1 t1 r1 h1 => ?_
  replace h1 := PIt.from t1 h1
  cases q : rItems3 xs with
  | none => dsimp only at h1; rw [q] at h1; exact h1.elim
  | some ds =>
    dsimp only at h1; rw [q] at h1
    replace h1 : PIt X.K X.mg T W σ F1 H1 fps1 (.ok (ds, ρ1)) R := h1
    unfold rItems3 at q
    split at q
    · rename_i i j c
      split at q
      · rename_i hb
        simp only [Bool.and_eq_true, decide_eq_true_eq] at hb
        cases q
        obtain ⟨⟨b1, b2⟩, rfl⟩ := hb
        obtain ⟨b1, b1'⟩ := rg62_ok b1
        obtain ⟨b3, b4⟩ := rg62_ok b2
        obtain ⟨v, r, rfl, e1, u, r', rfl, e2, z, r'', rfl, e3, e4⟩ := r1
        have e1 : v = .int i := e1
        have e2 : u = .int j := e2
        have e3 : z = .int (-1) := e3
        have e4 : r'' = [] := e4
        subst e1 e2 e3 e4
        exact ⟨i, j, -1, _, rfl, RgC.neg b1 b1' b3 b4, h1 _ F1 H1 fps1 (Tr.refl t1.ok) walks_n⟩
      · cases q
    · cases q
def enumD (i : Nat) : List D → List D
  | [] => []
  | d :: ds => .tup [.int i, d] :: enumD (i + 1) ds
theorem enumD_get : ∀ (ds : List D) (k i : Nat), (enumD k ds)[i]? = (ds[i]?).map fun d => .tup [.int ((k + i : Nat) : Int), d]
  | [], k, i => by simp [enumD]
  | d :: ds, k, 0 => by simp [enumD]
  | d :: ds, k, i + 1 => by
    show (enumD (k + 1) ds)[i]? = _
    rw [enumD_get ds (k + 1) i]
    have : k + 1 + i = k + (i + 1) := by omega
    rw [this]; simp
theorem enumD_len : ∀ (ds : List D) (k : Nat), (enumD k ds).length = ds.length
  | [], k => rfl
  | d :: ds, k => by simp [enumD, enumD_len ds (k + 1)]
def lstD : D → Option (List D)
  | .lst xs => some xs
  | .scr xs => some xs
  | _ => none
def cEnum (f : Env → Out (D × Env)) : ICode := fun ρ => (f ρ).bind fun p => (Out.of (lstD p.1)).bind fun ds => .ok (enumD 0 ds, p.2)
theorem walks_e {K : PySem.W.Frag} {mg : Str → Option Value} {F : Hp} {p : Addr} {vs : List V} {ds : List D} (h : SqL K F p vs) (r : Reps K mg F ds vs) : Walks K mg (Ite K p) (enumD 0 ds) F := by
  intro F2 H2 m s i
  have h2 := sqL_sub s (sqL_mono m h)
  refine ⟨fun d e => ?_, fun hl => ⟨vs, h2, by rw [← r.length, ← enumD_len ds 0]; exact hl⟩⟩
  rw [enumD_get] at e
  cases q : ds[i]? with
  | none => rw [q] at e; cases e
  | some d0 =>
    rw [q] at e
    cases e
    obtain ⟨v, e1, r1⟩ := r.get q
    refine ⟨⟨vs, v, h2, e1⟩, fun x H3 ⟨Tt, y, ex, hT, eH, hy⟩ => ?_⟩
    subst ex eH
    have := hy vs h2
    rw [e1] at this
    cases this
    obtain ⟨gr, f0⟩ := grow_new (o := .tup [.int (i : Nat), v]) s hT (.inr trivial)
    refine ⟨_, gr, Tt, _, rfl, upd_same, ?_⟩
    refine .cons ?_ (.one (Rep.mono (m.trans gr.mono) _ _ r1))
    show V.int _ = V.int _
    simp
theorem ji_enum {elts : List Expr} {kk : Nat} {tpos : Pos} {f : Env → Out (D × Env)} (hg : Gl X "enumerate") (hm : X.mg "enumerate" = none) (ja : JD X T W a f) (hs : starEach [a] X.env = [(false, eval a X.env)] := by rfl) :
    JI X T W (.Tuple elts kk tpos) (.Call (.Name "enumerate" p) [a] [] pos) (cEnum f) := by
  refine ⟨fun ρ σ F H fps R ok h => WI.of (pi_enum hg hm (pa_cons (WE.pe X a) pa_nil hs) hs) ?_⟩
  refine ja.next ok FP.pit h fun x ρ1 v F1 H1 fps1 t1 r1 h1 => ?_
  replace h1 := PIt.from t1 h1
  cases q : lstD x with
  | none => dsimp only at h1; rw [q] at h1; exact h1.elim
  | some ds =>
    dsimp only at h1; rw [q] at h1
    replace h1 : PIt X.K X.mg T W σ F1 H1 fps1 (.ok (enumD 0 ds, ρ1)) R := h1
    cases x with
    | lst xs =>
      cases q
      obtain ⟨p, vs, rfl, q1, q2⟩ := r1
      exact ⟨p, vs, rfl, .of (t1.ok.sub.lst q1), h1 _ F1 H1 fps1 (Tr.refl t1.ok) (walks_e (.of q1) q2)⟩
    | scr xs =>
      cases q
      obtain ⟨p, vs, rfl, q1, q2⟩ := r1
      exact ⟨p, vs, rfl, sqL_sub t1.ok.sub q1, h1 _ F1 H1 fps1 (Tr.refl t1.ok) (walks_e q1 q2)⟩
    | _ => cases q
def cRev (f : Env → Out (D × Env)) : ICode := fun ρ => (f ρ).bind fun p => (Out.of (lstD p.1)).bind fun ds => .ok (ds.reverse, p.2)
theorem walks_v {K : PySem.W.Frag} {mg : Str → Option Value} {F : Hp} {p : Addr} {vs : List V} {ds : List D} (h : SqL K F p vs) (r : Reps K mg F ds vs) : Walks K mg (Itv K p vs.length) ds.reverse F := by
  intro F2 H2 m s i
  have h2 := sqL_sub s (sqL_mono m h)
  refine ⟨fun d e => ?_, fun hl => (by rw [← r.length]; simpa using hl : vs.length ≤ i)⟩
  have hi : i < ds.length := by simpa using (List.getElem?_eq_some_iff.mp e).1
  rw [List.getElem?_reverse hi] at e
  obtain ⟨v, e1, r1⟩ := r.get e
  rw [r.length] at e1
  refine ⟨⟨by rw [← r.length]; exact hi, vs, v, h2, e1⟩, fun x H3 ⟨eH, y⟩ => ?_⟩
  subst eH
  have := y vs h2
  rw [e1] at this
  cases this
  exact ⟨F2, .refl s, r1.mono m⟩
theorem ji_rev {f : Env → Out (D × Env)} (hg : Gl X "reversed") (hm : X.mg "reversed" = none) (ja : JD X T W a f) (hs : starEach [a] X.env = [(false, eval a X.env)] := by rfl) :
    JI X T W tg (.Call (.Name "reversed" p) [a] [] pos) (cRev f) := by
  refine ⟨fun ρ σ F H fps R ok h => WI.of (pi_reversed hg hm (pa_cons (WE.pe X a) pa_nil hs) hs) ?_⟩
  refine ja.next ok FP.pit h fun x ρ1 v F1 H1 fps1 t1 r1 h1 => ?_
  replace h1 := PIt.from t1 h1
  cases q : lstD x with
  | none => dsimp only at h1; rw [q] at h1; exact h1.elim
  | some ds =>
    dsimp only at h1; rw [q] at h1
    replace h1 : PIt X.K X.mg T W σ F1 H1 fps1 (.ok (ds.reverse, ρ1)) R := h1
    cases x with
    | lst xs =>
      cases q
      obtain ⟨p, vs, rfl, q1, q2⟩ := r1
      exact ⟨p, vs, rfl, .of (t1.ok.sub.lst q1), h1 _ F1 H1 fps1 (Tr.refl t1.ok) (walks_v (.of q1) q2)⟩
    | scr xs =>
      cases q
      obtain ⟨p, vs, rfl, q1, q2⟩ := r1
      exact ⟨p, vs, rfl, sqL_sub t1.ok.sub q1, h1 _ F1 H1 fps1 (Tr.refl t1.ok) (walks_v q1 q2)⟩
    | _ => cases q
def forF (g : TgC) (f : SCode) : List D → Env → Out Flow
  | [], ρ => .ok (.nx ρ)
  | d :: ds, ρ => match g d ρ with
    | .ok ρ1 => (match f ρ1 with
      | .ok (.nx ρ2) => forF g f ds ρ2
      | .ok (.ct ρ2) => forF g f ds ρ2
      | .ok (.bk ρ2) => .ok (.nx ρ2)
      | r => r)
    | _ => .bad
def cFor (fi : ICode) (g : TgC) (f : SCode) : SCode := fun ρ => (fi ρ).bind fun p => forF g f p.1 p.2
variable {fi : ICode}
theorem js_for (hp : PassesOwn (model X.prog X.w) X.A X.env X.xe) (hc : X.calm = true) (ji : JI X T W tg it fi) (jg : JG X T tg g) (jb : JSs X T W sts f) (hs : ∀ x, foldedSetIterable it X.env x = pure x := by intro _; rfl) :
    JS X T W (.For tg it sts [] pos) (cFor fi g f) := by
  refine ⟨fun ρ σ F H fps D ok h => WS.of (ps_for hp hc (WI.pi X tg it) (WG.pg X tg) (WSs.pss X sts) hs) ?_⟩
  refine ji.run ρ σ F H fps _ ok ?_
  unfold cFor at h
  cases q : fi ρ with
  | exc x ρ1 => rw [q] at h; exact fun cls d F' H' fps' t xr => h cls d σ F' H' fps' t xr
  | bad => rw [q] at h; exact h
  | ok z =>
    obtain ⟨ds, ρ1⟩ := z
    rw [q] at h
    have h : PSt X.K X.mg T W σ F H fps (forF g f ds ρ1) D := h
    intro J F1 H1 fps1 t1 wk
    refine ⟨fun i m σ2 H2 => m = ds.length - i ∧ i ≤ ds.length ∧ ∃ ρ2 F2 fps2, Tr X.K X.mg T σ F H fps ρ2 σ2 F2 H2 fps2 ∧ Mono F1 F2 ∧ PSt X.K X.mg T W σ F H fps (forF g f (ds.drop i) ρ2) D, ⟨ds.length, by simp, Nat.zero_le _, ρ1, F1, fps1, t1, .refl F1, by simpa using h⟩, ?_⟩
    rintro i m σ2 H2 ⟨rfl, hi, ρ2, F2, fps2, t2, m2, h2⟩
    by_cases hlt : i < ds.length
    · refine .inr ?_
      have hd : ds.drop i = ds[i] :: ds.drop (i + 1) := List.drop_eq_getElem_cons hlt
      rw [hd] at h2
      obtain ⟨go, yl⟩ := (wk F2 H2 m2 t2.ok.sub i).1 _ (List.getElem?_eq_getElem hlt)
      refine ⟨go, fun σ' H' => ∃ ρ' F' fps', Tr X.K X.mg T σ F H fps ρ' σ' F' H' fps' ∧ Mono F1 F' ∧ PSt X.K X.mg T W σ F H fps (forF g f (ds.drop (i + 1)) ρ') D, fun σ' H' ⟨ρ', F', fps', w1, w2, w3⟩ => ⟨ds.length - (i + 1), by omega, rfl, hlt, ρ', F', fps', w1, w2, w3⟩, fun x H3 hy => ?_⟩
      obtain ⟨F3, gr, r3⟩ := yl x H3 hy
      have t3 := t2.trans (gr.tr (T := T) t2.ok)
      unfold forF at h2
      cases qg : g ds[i] ρ2 with
      | exc x z => rw [qg] at h2; exact h2.elim
      | bad => rw [qg] at h2; exact h2.elim
      | ok ρ3 =>
        rw [qg] at h2
        refine jg.run ρ2 ρ3 σ2 F3 H3 fps2 ds[i] x _ t3.ok r3 qg fun σ4 F4 H4 fps4 t4 => ?_
        have t04 := t3.trans t4
        have m4 : Mono F1 F4 := (m2.trans gr.mono).trans t4.mono
        refine jb.run ρ3 σ4 F4 H4 fps4 _ t4.ok ?_
        dsimp only at h2
        cases qf : f ρ3 with
        | ok p =>
          rw [qf] at h2
          cases p with
          | nx ρ' => exact fun σ' F' H' fps' u => ⟨ρ', F', fps', t04.trans u, m4.trans u.mono, h2⟩
          | ct ρ' => exact fun σ' F' H' fps' u => ⟨ρ', F', fps', t04.trans u, m4.trans u.mono, h2⟩
          | bk ρ' => exact fun σ' F' H' fps' u => h2 σ' F' H' fps' (t04.trans u)
          | rt av ρ' => exact fun v σ' F' H' fps' u ra => h2 v σ' F' H' fps' (t04.trans u) (ra.imp fun a => NewTo.from t04)
        | exc x ρ' => rw [qf] at h2; exact fun cls d σ' F' H' fps' u xr => h2 cls d σ' F' H' fps' (t04.trans u) xr
        | bad => rw [qf] at h2; exact h2
    · have e : i = ds.length := by omega
      subst e
      refine .inl ⟨(wk F2 H2 m2 t2.ok.sub _).2 (Nat.le_refl _), ?_⟩
      rw [List.drop_length] at h2
      exact h2 σ2 F2 H2 fps2 t2
end
end J
namespace J
open PySem PySem.Spec PyProof.Rows L2
def wipeE : Env → List Nat → Env
  | ρ, [] => ρ
  | ρ, v :: vs => (wipeE ρ vs).set v none
theorem wipeE_length (ρ : Env) : ∀ vs : List Nat, (wipeE ρ vs).length = ρ.length
  | [] => rfl
  | v :: vs => by unfold wipeE; rw [List.length_set, wipeE_length ρ vs]
theorem wipeE_in {ρ : Env} {i : Nat} : ∀ {vs : List Nat}, i ∈ vs → ∀ sv, (wipeE ρ vs)[i]? ≠ some (some sv)
  | v :: vs, h, sv, e => by
    unfold wipeE at e
    by_cases hv : v = i
    · subst hv
      by_cases hl : v < (wipeE ρ vs).length
      · rw [List.getElem?_set_self hl] at e; cases e
      · rw [List.getElem?_eq_none (by simpa using hl)] at e; cases e
    · rw [List.getElem?_set_ne hv] at e
      rcases List.mem_cons.mp h with z | z
      · exact hv z.symm
      · exact wipeE_in z sv e
theorem wipeE_out {ρ : Env} {i : Nat} : ∀ {vs : List Nat}, i ∉ vs → (wipeE ρ vs)[i]? = ρ[i]?
  | [], _ => rfl
  | v :: vs, h => by
    simp only [List.mem_cons, not_or] at h
    unfold wipeE
    rw [List.getElem?_set_ne (Ne.symm h.1), wipeE_out h.2]
/-- the comprehension's names go back to what they held, where that was data -/
def backE (ρ0 : Env) : Env → List Nat → Env
  | ρ, [] => ρ
  | ρ, v :: vs => (backE ρ0 ρ vs).set v (match ρ0[v]? with
    | some (some (.d x)) => some (.d x)
    | _ => none)
theorem backE_length (ρ0 ρ : Env) : ∀ vs : List Nat, (backE ρ0 ρ vs).length = ρ.length
  | [] => rfl
  | v :: vs => by unfold backE; rw [List.length_set, backE_length ρ0 ρ vs]
theorem backE_out {ρ0 ρ : Env} {i : Nat} : ∀ {vs : List Nat}, i ∉ vs → (backE ρ0 ρ vs)[i]? = ρ[i]?
  | [], _ => rfl
  | v :: vs, h => by
    simp only [List.mem_cons, not_or] at h
    unfold backE
    rw [List.getElem?_set_ne (Ne.symm h.1), backE_out h.2]
theorem backE_in {ρ0 ρ : Env} {i : Nat} {sv : SV} : ∀ {vs : List Nat}, i ∈ vs → (backE ρ0 ρ vs)[i]? = some (some sv) → ∃ x, sv = .d x ∧ ρ0[i]? = some (some (.d x))
  | v :: vs, h, e => by
    unfold backE at e
    by_cases hv : v = i
    · subst hv
      by_cases hl : v < (backE ρ0 ρ vs).length
      · rw [List.getElem?_set_self hl] at e
        split at e
        · rename_i x hx
          simp only [Option.some.injEq] at e
          exact ⟨x, e.symm, hx⟩
        · cases e
      · rw [List.getElem?_eq_none (by simpa using hl)] at e; cases e
    · rw [List.getElem?_set_ne hv] at e
      rcases List.mem_cons.mp h with z | z
      · exact absurd z.symm hv
      · exact backE_in z e
def fpsW (vs : List Nat) (fps : Fps) : Fps := fun i => if i ∈ vs then [] else fps i
theorem wipe_out' {σ : L2.St} {i : Nat} : ∀ {vs : List Nat}, i ∉ vs → (wipe σ vs)[i]? = σ[i]?
  | [], _ => rfl
  | v :: vs, h => by
    simp only [List.mem_cons, not_or] at h
    unfold wipe
    rw [List.getElem?_set_ne (Ne.symm h.1), wipe_out' h.2]
section
variable {K : PySem.W.Frag} {mg : Str → Option Value} {T : Tp} {W : WX} {ρ ρ1 : Env} {σ σ2 : L2.St} {F F0 F1 F' H H0 H1 H' : Hp} {fps fps0 fps1 fps' : Fps} {vs : List Nat}
/-- the comprehension's names forgotten -/
theorem Ok.wiped (ok : Ok K mg ρ σ F H fps) (vs : List Nat) : Ok K mg (wipeE ρ vs) (wipe σ vs) F H (fpsW vs fps) := by
  refine ⟨ok.sub, by rw [wipeE_length, wipe_length]; exact ok.len, fun i sv h => ?_, fun i h => ?_, fun i j a hij h1 h2 => ?_⟩
  · by_cases hi : i ∈ vs
    · exact absurd h (wipeE_in hi sv)
    · rw [wipeE_out hi] at h
      obtain ⟨v, e, r⟩ := ok.slot i sv h
      exact ⟨v, by rw [wipe_out' hi]; exact e, by unfold fpsW; rw [if_neg hi]; exact r⟩
  · unfold fpsW
    by_cases hi : i ∈ vs
    · rw [if_pos hi]
    · rw [if_neg hi]
      exact ok.non i fun sv z => h sv (by rw [wipeE_out hi]; exact z)
  · unfold fpsW at h1 h2
    split at h1
    · cases h1
    · split at h2
      · cases h2
      · exact ok.sep i j a hij h1 h2
theorem inF_W {a : Addr} (h : InF (fpsW vs fps) a) : InF fps a := by
  obtain ⟨i, hi⟩ := h
  unfold fpsW at hi
  split at hi
  · cases hi
  · exact ⟨i, hi⟩
/-- .. again, behind a turn -/
theorem Tr.wiped {σ0 : L2.St} (t : Tr K mg T σ0 F0 H0 fps0 ρ σ2 F H fps) (e : wipe σ2 vs = σ0) : Tr K mg T σ0 F0 H0 fps0 (wipeE ρ vs) σ0 F H (fpsW vs fps) := by
  subst e
  exact ⟨t.ok.wiped vs, t.mono, t.keep, t.frz, fun a h => t.own a (inF_W h), fun _ _ => rfl, t.fld⟩
/-- an object that is new to the start, and nobody's, is written -/
theorem Tr.wrote {D : Addr} {o : HO} {σ0 : L2.St} (t : Tr K mg T σ0 F0 H0 fps0 ρ σ F H fps) (h0 : H0 D = none) (hf : ¬InF fps D) (hF : F D = none) (hn : ∀ xs, o ≠ .tup xs := by intro _ z; cases z) : Tr K mg T σ0 F0 H0 fps0 ρ σ F (upd H D o) fps := by
  refine ⟨⟨⟨fun a u h => ?_, fun a xs h => ?_⟩, t.ok.len, fun i sv h => ?_, t.ok.non, t.ok.sep⟩, t.mono, fun a u h hn => ?_, t.frz, t.own, t.sl, fun a C dx fs h => ?_⟩
  · have : a ≠ D := ne_of_none h hF
    rw [upd_ne this]; exact t.ok.sub.at_ a u h
  · by_cases e : a = D
    · subst e; rw [upd_same] at h; cases h; exact absurd rfl (hn xs)
    · rw [upd_ne e] at h; exact t.ok.sub.tups a xs h
  · obtain ⟨v, e, r⟩ := t.ok.slot i sv h
    refine ⟨v, e, r.frame (.refl F) fun x hx => ⟨(r.out x hx).1, ?_⟩⟩
    have : x ≠ D := by rintro rfl; exact hf ⟨i, hx⟩
    rw [upd_ne this]
  · rw [upd_ne (ne_of_none h h0)]; exact t.keep a u h hn
  · rw [upd_ne (ne_of_none h h0)]; exact t.fld a C dx fs h
/-- the end: from the walk's state back to the def's -/
theorem Tr.back {ρn : Env} {Fn Hn : Hp} {fpsn : Fps} (ok : Ok K mg ρ1 σ F1 H1 fps1) (t : Tr K mg T (wipe σ vs) F1 H1 (fpsW vs fps1) ρn (wipe σ vs) Fn Hn fpsn) (hw : ∀ i ∈ vs, ∀ sv, ρn[i]? ≠ some (some sv)) :
    Tr K mg T σ F1 H1 fps1 (backE ρ1 ρn vs) σ Fn Hn fpsn := by
  have hl : ρn.length = σ.length := by rw [t.ok.len, wipe_length]
  refine ⟨⟨t.ok.sub, by rw [backE_length]; exact hl, fun i sv h => ?_, fun i h => ?_, t.ok.sep⟩, t.mono, fun a o h hn => t.keep a o h fun z => hn (inF_W z), fun a o h => ?_, fun a h => (t.own a h).imp inF_W id, fun _ _ => rfl, t.fld⟩
  · by_cases hi : i ∈ vs
    · obtain ⟨x, rfl, e⟩ := backE_in hi h
      obtain ⟨v, e1, r⟩ := ok.slot i _ e
      exact ⟨v, e1, Rep.mono t.mono _ _ r.1, t.ok.non i (hw i hi)⟩
    · rw [backE_out hi] at h
      obtain ⟨v, e1, r⟩ := t.ok.slot i sv h
      rw [wipe_out' hi] at e1
      exact ⟨v, e1, r⟩
  · by_cases hi : i ∈ vs
    · exact t.ok.non i (hw i hi)
    · exact t.ok.non i fun sv z => h sv (by rw [backE_out hi]; exact z)
  · rcases t.frz a o h with z | z | z
    · exact .inl z
    · exact .inr (.inl (inF_W z))
    · exact .inr (.inr z)
end
/-- the turns -/
def lcF (vs : List Nat) (g : TgC) (t : Env → Out (Bool × Env)) (fe : Env → Out (D × Env)) : List D → Env → List D → Out (List D × Env)
  | [], ρ, acc => .ok (acc, wipeE ρ vs)
  | d :: ds, ρ, acc => match g d (wipeE ρ vs) with
    | .ok ρ1 => (match t ρ1 with
      | .ok (true, ρ2) => (match fe ρ2 with
        | .ok (y, ρ3) => if acc.length < lim then lcF vs g t fe ds ρ3 (acc ++ [y]) else .bad
        | _ => .bad)
      | .ok (false, ρ2) => lcF vs g t fe ds ρ2 acc
      | _ => .bad)
    | _ => .bad
def cLc (fi : ICode) (vs : List Nat) (g : TgC) (t : Env → Out (Bool × Env)) (fe : Env → Out (D × Env)) : ECode := fun ρ => (fi ρ).bind fun p => match lcF vs g t fe p.1 p.2 [] with
  | .ok (acc, ρ') => .ok (.o (.b (.l acc)), backE p.2 ρ' vs)
  | _ => .bad
def cYes : Env → Out (Bool × Env) := fun ρ => .ok (true, ρ)
/-- a comprehension's tests -/
structure JTs (X : Cx) (T : Tp) (W : WX) (ifs : List Expr) (f : Env → Out (Bool × Env)) : Prop where
  run : ∃ t, PTs X ifs t ∧ ∀ (ρ : Env) (σ : L2.St) (F H : Hp) (fps : Fps) (Q : Bool → Hp → Prop), Ok X.K X.mg ρ σ F H fps → PY X.K X.mg T W σ F H fps repB (f ρ) Q → t σ H Q
theorem jts_nil {X : Cx} {T : Tp} {W : WX} : JTs X T W [] cYes := ⟨⟨tYes, pts_nil, fun ρ σ F H fps Q ok h => h.ret ok rfl⟩⟩
theorem jts_one {X : Cx} {T : Tp} {W : WX} {c : Expr} {f : Env → Out (Bool × Env)} (j : JT X T W c f) : JTs X T W [c] f := ⟨⟨WT X c, pts_one (WT.pt X c), j.run⟩⟩
abbrev WNo : WX := fun _ _ _ _ => False
theorem takesNo {X : Cx} : Takes X WNo := fun u s' ⟨_, _, _, _, _, _, _, _, _, _, _, _, _, _, _, _, h⟩ => h.elim
section
variable {X : Cx} {T : Tp} {W : WX} {elt tg iter : Expr} {ifs : List Expr} {scope : Scope} {own : List (Str × Nat)} {pos : Pos} {fi : ICode} {g : TgC} {t : Env → Out (Bool × Env)} {fe : Env → Out (D × Env)}
/-- the readings within the block, whatever block it is -/
def WGu (X : Cx) (scope : Scope) (tg : Expr) : TG := fun v σ H Q => ∀ (s : Shared) (H0 : Hp) (C : Addr) (cl : List (Str × Addr)) (fp : List Addr), WG (X.blk s H0 scope (compEnvC scope cl C X.env) fp) tg v σ H Q
def WEu (X : Cx) (scope : Scope) (e : Expr) : TE := fun σ H Q => ∀ (s : Shared) (H0 : Hp) (C : Addr) (cl : List (Str × Addr)) (fp : List Addr), WE (X.blk s H0 scope (compEnvC scope cl C X.env) fp) e σ H Q
def WTu (X : Cx) (scope : Scope) (ifs : List Expr) : TT := fun σ H Q => ∀ (s : Shared) (H0 : Hp) (C : Addr) (cl : List (Str × Addr)) (fp : List Addr) (pins : List (Addr × Obj)) (s2 : Shared), Inv (X.blk s H0 scope (compEnvC scope cl C X.env) fp) pins σ H s2 →
    wpAny (model X.prog X.w) X.A (forIn ifs true fun c r => if r = true then do let ok ← isTrue c (compEnvC scope cl C X.env) (eval c (compEnvC scope cl C X.env)); pure (ForInStep.yield ok) else pure (ForInStep.yield r)) (TP (X.blk s H0 scope (compEnvC scope cl C X.env) fp) pins σ Q) (fun _ _ => False) s2
theorem wipe_get {σ : L2.St} {i : Nat} : ∀ {vs : List Nat}, i ∈ vs → (wipe σ vs)[i]? = if i < σ.length then some none else none
  | v :: vs, h => by
    unfold wipe
    by_cases hv : v = i
    · subst hv
      by_cases hl : v < σ.length
      · rw [List.getElem?_set_self (by rw [wipe_length]; exact hl), if_pos hl]
      · rw [if_neg hl, List.getElem?_eq_none (by rw [List.length_set, wipe_length]; omega)]
    · rw [List.getElem?_set_ne hv]
      rcases List.mem_cons.mp h with z | z
      · exact absurd z.symm hv
      · exact wipe_get z
theorem wipe_eq {σ σ' : L2.St} {vs : List Nat} (hl : σ'.length = σ.length) (h : ∀ i, i ∉ vs → σ'[i]? = σ[i]?) : wipe σ' vs = wipe σ vs := by
  apply List.ext_getElem?
  intro i
  by_cases hi : i ∈ vs
  · rw [wipe_get hi, wipe_get hi, hl]
  · rw [wipe_out' hi, wipe_out' hi, h i hi]
theorem wipe_wipe {σ : L2.St} {vs : List Nat} : wipe (wipe σ vs) vs = wipe σ vs := by
  apply List.ext_getElem?
  intro i
  by_cases hi : i ∈ vs
  · rw [wipe_get hi, wipe_get hi, wipe_length]
  · rw [wipe_out' hi]
abbrev Ta (T : Tp) : Tp := ⟨fun _ => true, T.kf⟩
abbrev Tv (T : Tp) (vs : List Nat) : Tp := ⟨fun i => decide (i ∈ vs), T.kf⟩
theorem Tr.any {K : PySem.W.Frag} {mg : Str → Option Value} {T T' : Tp} {σ σ' : L2.St} {F H F' H' : Hp} {fps fps' : Fps} {ρ' : Env} (t : Tr K mg T' σ F H fps ρ' σ' F' H' fps') (hk : ∀ y, T.kf y = true → T'.kf y = true) : Tr K mg (Ta T) σ F H fps ρ' σ' F' H' fps' :=
  ⟨t.ok, t.mono, t.keep, t.frz, t.own, fun _ h => (Bool.noConfusion h), fun a C dx fs e => by
    obtain ⟨d1, f1, e1, k1⟩ := t.fld a C dx fs e
    exact ⟨d1, f1, e1, fun f hf => k1 f (hk f hf)⟩⟩
theorem Tr.hold {K : PySem.W.Frag} {mg : Str → Option Value} {T : Tp} {σ σ' : L2.St} {F H F' H' : Hp} {fps fps' : Fps} {ρ' : Env} (t : Tr K mg T σ F H fps ρ' σ' F' H' fps') {D : Addr} {o : HO} (h : H D = some o) (hf : ¬InF fps D) (hF : F D = none) : H' D = some o ∧ ¬InF fps' D ∧ F' D = none := by
  refine ⟨t.keep D o h hf, fun z => ?_, ?_⟩
  · rcases t.own D z with z | z
    · exact hf z
    · rw [h] at z; cases z
  · cases q : F' D with
    | none => rfl
    | some u =>
      rcases t.frz D u q with z | z | z
      · rw [hF] at z; cases z
      · exact absurd z hf
      · rw [h] at z; cases z
theorem lc_reads (ji : JI X T W tg iter fi)
    (jg : ∀ (s : Shared) (H : Hp) (C : Addr) (cl : List (Str × Addr)) (fp : List Addr), JG (X.blk s H scope (compEnvC scope cl C X.env) fp) (Tv T (own.map (·.2))) tg g)
    (jt : ∀ (s : Shared) (H : Hp) (C : Addr) (cl : List (Str × Addr)) (fp : List Addr), JTs (X.blk s H scope (compEnvC scope cl C X.env) fp) T WNo ifs t)
    (je : ∀ (s : Shared) (H : Hp) (C : Addr) (cl : List (Str × Addr)) (fp : List Addr), JD (X.blk s H scope (compEnvC scope cl C X.env) fp) T WNo elt fe)
    (hlen : ∀ d ρ ρ1, g d ρ = .ok ρ1 → ρ1.length = ρ.length)
    {ρ : Env} {σ : L2.St} {F H : Hp} {fps : Fps} {Q : VK} (ok : Ok X.K X.mg ρ σ F H fps) (h : PX X.K X.mg T W σ F H fps (cLc fi (own.map (·.2)) g t fe ρ) Q) :
    tLc (WI X tg iter) (WGu X scope tg) (WTu X scope ifs) (WEu X scope elt) (own.map (·.2)) σ H Q := by
  generalize hvs : own.map (·.2) = vs at *
  refine ji.run ρ σ F H fps _ ok ?_
  unfold cLc at h
  cases q : fi ρ with
  | exc x ρ1 => rw [q] at h; exact h
  | bad => rw [q] at h; exact h
  | ok z =>
    obtain ⟨ds, ρ1⟩ := z
    rw [q] at h
    dsimp only [Out.bind] at h
    cases q2 : lcF vs g t fe ds ρ1 [] with
    | exc x z => rw [q2] at h; exact h.elim
    | bad => rw [q2] at h; exact h.elim
    | ok z =>
      obtain ⟨accF, ρF⟩ := z
      rw [q2] at h
      dsimp only at h
      intro J F1 H1 fps1 t1 wk D hD
      have okw := t1.ok.wiped vs
      have fD : F1 D = none := by
        cases e : F1 D with
        | none => rfl
        | some u =>
          rcases t1.ok.sub.at_ D u e with z | ⟨_, ob, z⟩
          · rw [hD] at z; cases z
          · rw [hD] at z; cases z
      have nD : ¬InF (fpsW vs fps1) D := fun z => by
        obtain ⟨_, o, ho⟩ := okw.inF z
        rw [hD] at ho; cases ho
      refine ⟨fun i m Hk => m = ds.length - i ∧ i ≤ ds.length ∧ ∃ ρk Fk fpsk acc accV, Tr X.K X.mg (Ta T) (wipe σ vs) F1 H1 (fpsW vs fps1) (wipeE ρk vs) (wipe σ vs) Fk Hk fpsk ∧ Mono F1 Fk ∧ Hk D = some (.lst accV) ∧ Fk D = none ∧ ¬InF fpsk D ∧
        Reps X.K X.mg Fk acc accV ∧ lcF vs g t fe (ds.drop i) ρk acc = .ok (accF, ρF), ⟨ds.length, by simp, Nat.zero_le _, ρ1, F1, fpsW vs fps1, [], [], (Tr.refl okw).wrote hD nD fD, .refl F1, upd_same, fD, nD, .nil, by simpa using q2⟩, ?_⟩
      rintro i m Hk ⟨rfl, hi, ρk, Fk, fpsk, acc, accV, tk, mk, eD, fk, nk, ra, el⟩
      by_cases hlt : i < ds.length
      · refine .inr ?_
        have hd : ds.drop i = ds[i] :: ds.drop (i + 1) := List.drop_eq_getElem_cons hlt
        rw [hd] at el
        obtain ⟨go, yl⟩ := (wk Fk Hk mk tk.ok.sub i).1 _ (List.getElem?_eq_getElem hlt)
        refine ⟨go, fun H' => ∃ ρ' F' fps' acc' accV', Tr X.K X.mg (Ta T) (wipe σ vs) F1 H1 (fpsW vs fps1) (wipeE ρ' vs) (wipe σ vs) F' H' fps' ∧ Mono F1 F' ∧ H' D = some (.lst accV') ∧ F' D = none ∧ ¬InF fps' D ∧
          Reps X.K X.mg F' acc' accV' ∧ lcF vs g t fe (ds.drop (i + 1)) ρ' acc' = .ok (accF, ρF), fun H' ⟨ρ', F', fps', acc', accV', w1, w2, w3, w4, w5, w6, w7⟩ => ⟨ds.length - (i + 1), by omega, rfl, hlt, ρ', F', fps', acc', accV', w1, w2, w3, w4, w5, w6, w7⟩, fun x H3 hy => ?_⟩
        obtain ⟨F3, gr, r3⟩ := yl x H3 hy
        have g3 : Tr X.K X.mg (Ta T) (wipe σ vs) Fk Hk fpsk (wipeE ρk vs) (wipe σ vs) F3 H3 fpsk := gr.tr tk.ok
        have t3 := tk.trans g3
        obtain ⟨eD3, nk3, fk3⟩ := g3.hold eD nk fk
        unfold lcF at el
        cases qg : g ds[i] (wipeE ρk vs) with
        | exc x z => rw [qg] at el; cases el
        | bad => rw [qg] at el; cases el
        | ok ρ2 =>
          rw [qg] at el
          dsimp only at el
          intro s0 H0 C cl fp
          refine (jg s0 H0 C cl fp).run (wipeE ρk vs) ρ2 (wipe σ vs) F3 H3 fpsk ds[i] x _ t3.ok r3 qg fun σ2 F4 H4 fps4 t4 => ?_
          have ew : wipe σ2 vs = wipe σ vs := by
            rw [← wipe_wipe (σ := σ)]
            refine wipe_eq ?_ fun j hj => t4.sl j (decide_eq_false hj)
            rw [← t4.ok.len, hlen _ _ _ qg, t3.ok.len]
          refine ⟨ew, ?_⟩
          have t4a : Tr X.K X.mg (Ta T) (wipe σ vs) F3 H3 fpsk ρ2 σ2 F4 H4 fps4 := t4.any fun _ z => z
          obtain ⟨eD4, nk4, fk4⟩ := t4a.hold eD3 nk3 fk3
          have t04 := t3.trans t4a
          have m4 : Mono Fk F4 := gr.mono.trans t4.mono
          intro s1 H10 C1 cl1 fp1 pins s2 I2
          obtain ⟨tt, pts, rt⟩ := (jt s1 H10 C1 cl1 fp1).run
          refine pts.run pins s2 σ2 H4 _ I2 (rt ρ2 σ2 F4 H4 fps4 _ t4.ok ?_)
          cases qt : t ρ2 with
          | exc x z => rw [qt] at el; cases el
          | bad => rw [qt] at el; cases el
          | ok z =>
            obtain ⟨b, ρ3⟩ := z
            rw [qt] at el
            intro b' F5 H5 fps5 t5 eb
            subst eb
            have t5a : Tr X.K X.mg (Ta T) σ2 F4 H4 fps4 ρ3 σ2 F5 H5 fps5 := t5.any fun _ z => z
            obtain ⟨eD5, nk5, fk5⟩ := t5a.hold eD4 nk4 fk4
            have t05 := t04.trans t5a
            have m5 := m4.trans t5.mono
            cases b' with
            | false =>
              rw [if_neg Bool.false_ne_true]
              exact ⟨ρ3, F5, _, acc, accV, t05.wiped ew, mk.trans m5, eD5, fk5, fun z => nk5 (inF_W z), ra.mono m5, el⟩
            | true =>
              rw [if_pos rfl]
              intro s3 H30 C3 cl3 fp3
              refine (je s3 H30 C3 cl3 fp3).run ρ3 σ2 F5 H5 fps5 _ t5.ok ?_
              dsimp only at el
              cases qe : fe ρ3 with
              | exc x z => rw [qe] at el; cases el
              | bad => rw [qe] at el; cases el
              | ok z =>
                obtain ⟨y, ρ4⟩ := z
                rw [qe] at el
                dsimp only at el
                split at el
                · rename_i hl
                  rw [lim_eq] at hl
                  intro v F6 H6 fps6 t6 r6
                  have t6a : Tr X.K X.mg (Ta T) σ2 F5 H5 fps5 ρ4 σ2 F6 H6 fps6 := t6.any fun _ z => z
                  obtain ⟨eD6, nk6, fk6⟩ := t6a.hold eD5 nk5 fk5
                  have m6 := m5.trans t6.mono
                  refine ⟨accV, eD6, by rw [← ra.length]; exact hl, ρ4, F6, _, acc ++ [y], accV ++ [v], ((t05.trans t6a).wiped ew).wrote hD (fun z => nk6 (inF_W z)) fk6, mk.trans m6, upd_same, fk6, fun z => nk6 (inF_W z), (ra.mono m6).append (.one r6), el⟩
                · cases el
      · have e : i = ds.length := by omega
        subst e
        refine .inl ⟨(wk Fk Hk mk tk.ok.sub _).2 (Nat.le_refl _), ?_⟩
        rw [List.drop_length] at el
        unfold lcF at el
        simp only [Out.ok.injEq, Prod.mk.injEq] at el
        obtain ⟨rfl, rfl⟩ := el
        have tb := Tr.back t1.ok tk fun j hj sv => wipeE_in hj sv
        have tb : Tr X.K X.mg T σ F1 H1 fps1 (backE ρ1 (wipeE ρk vs) vs) σ Fk Hk fpsk := ⟨tb.ok, tb.mono, tb.keep, tb.frz, tb.own, fun _ _ => rfl, tb.fld⟩
        exact h (.ref D) Fk Hk fpsk (t1.trans tb) ⟨D, [D], rfl, ⟨rfl, fk, accV, eD, ra⟩, by simp, fun x hx => by rw [List.mem_singleton.mp hx]; exact nk, fun x hx => by rw [List.mem_singleton.mp hx]; exact t1.there hD⟩
theorem jx_lc (hc : X.calm = true) (hN : X.N.Nodup) (ji : JI X T W tg iter fi) (ok : BlkOk X.N X.env.scope scope own)
    (jg : ∀ (s : Shared) (H : Hp) (C : Addr) (cl : List (Str × Addr)) (fp : List Addr), JG (X.blk s H scope (compEnvC scope cl C X.env) fp) (Tv T (own.map (·.2))) tg g)
    (jt : ∀ (s : Shared) (H : Hp) (C : Addr) (cl : List (Str × Addr)) (fp : List Addr), JTs (X.blk s H scope (compEnvC scope cl C X.env) fp) T WNo ifs t)
    (je : ∀ (s : Shared) (H : Hp) (C : Addr) (cl : List (Str × Addr)) (fp : List Addr), JD (X.blk s H scope (compEnvC scope cl C X.env) fp) T WNo elt fe)
    (hlen : ∀ d ρ ρ1, g d ρ = .ok ρ1 → ρ1.length = ρ.length) (hs : ∀ x, foldedSetIterable iter X.env x = pure x := by intro _; rfl) : JX X T W (.ListComp elt [⟨tg, iter, ifs, 0⟩] scope pos) (cLc fi (own.map (·.2)) g t fe) :=
  ⟨fun ρ σ F H fps Q ok' h => WE.of (pe_lc hc hN (WI.pi X tg iter) ok (fun s H C cl fp => ⟨fun pins s2 σ H v u Q I r q => q s _ C cl fp pins s2 u I r⟩) (fun s H C cl fp => ⟨fun pins s2 σ H' Q I q => q s H C cl fp pins s2 I⟩) (fun s H C cl fp => ⟨fun pins s2 σ H' Q I q => q s H C cl fp pins s2 I⟩) hs) (lc_reads ji jg jt je hlen ok' h)⟩
end
end J
namespace J
open PySem PySem.Spec PyProof.Rows L2
/-- a thing of its own: a slot's, a field's, a row of one -/
inductive Pl where
  | s (j : Nat) | g (j : Nat) (y : Str) | sr (j i : Nat) | gr (j : Nat) (y : Str) (i : Nat)
def rowW (i : Nat) : W0 → Option W0
  | .ll rows => (rows[i]?).map .l
  | _ => none
def setRow (i : Nat) : W0 → W0 → Option W0
  | .ll rows, .l ds => if i < rows.length then some (.ll (rows.set i ds)) else none
  | _, _ => none
def getB (j : Nat) (ρ : Env) : Option W0 := match ρ[j]? with
  | some (some (.o (.b w))) => some w
  | _ => none
def getG (j : Nat) (y : Str) (ρ : Env) : Option W0 := match ρ[j]? with
  | some (some (.o (.i c ns fs))) => (match getFV ns fs y with
    | some (.o w) => some w
    | _ => none)
  | _ => none
def putG (j : Nat) (y : Str) (w : W0) (ρ : Env) : Env := match ρ[j]? with
  | some (some (.o (.i c ns fs))) => ρ.set j (some (.o (.i c ns (setFV ns fs y (.o w)))))
  | _ => ρ
def putB (j : Nat) (w : W0) (ρ : Env) : Env := ρ.set j (some (.o (.b w)))
def Pl.get : Pl → Env → Option W0
  | .s j, ρ => getB j ρ
  | .g j y, ρ => getG j y ρ
  | .sr j i, ρ => (getB j ρ).bind (rowW i)
  | .gr j y i, ρ => (getG j y ρ).bind (rowW i)
def flat1 : W0 → Bool
  | .ll _ => false
  | _ => true
def Pl.put : Pl → W0 → Env → Option Env
  | .s j, w, ρ => some (putB j w ρ)
  | .g j y, w, ρ => some (putG j y w ρ)
  | .sr j i, w, ρ => (getB j ρ).bind fun v => (setRow i v w).map fun v' => putB j v' ρ
  | .gr j y i, w, ρ => (getG j y ρ).bind fun v => (setRow i v w).map fun v' => putG j y v' ρ
def PlRep (σ : L2.St) (H : Hp) : Pl → V → Prop
  | .s j, v => σ[j]? = some (some v)
  | .g j y, v => ∃ a C dx fs, σ[j]? = some (some (.ref a)) ∧ H a = some (.ins C dx fs) ∧ fs.lookup y = some v
  | .sr j i, v => ∃ a us, σ[j]? = some (some (.ref a)) ∧ H a = some (.lst us) ∧ us[i]? = some v
  | .gr j y i, v => ∃ a C dx fs b us, σ[j]? = some (some (.ref a)) ∧ H a = some (.ins C dx fs) ∧ fs.lookup y = some (.ref b) ∧ H b = some (.lst us) ∧ us[i]? = some v
section
variable (K : PySem.W.Frag) (mg : Str → Option Value)
/-- one object -/
def Obj1 (F : Hp) : W0 → HO → Prop
  | .l ds, o => ∃ vs, o = .lst vs ∧ Reps K mg F ds vs
  | .m t ks xs, o => ∃ us, DicO t o ks us ∧ Reps K mg F xs us
  | .ll _, _ => False
end
section
variable {K : PySem.W.Frag} {mg : Str → Option Value} {T : Tp} {ρ ρ' : Env} {σ : L2.St} {F H H' : Hp} {fps : Fps}
theorem DicO.nins {t : Bool} {o : HO} {ks us} (h : DicO t o ks us) : ∀ C dx fs, o ≠ .ins C dx fs := by
  intro C dx fs e
  cases t with
  | false => obtain ⟨_, e1, _⟩ := h; rw [e1] at e; cases e
  | true => obtain ⟨_, e1, _⟩ := h; rw [e1] at e; cases e
theorem Obj1.nins {w : W0} {o : HO} (h : Obj1 K mg F w o) : ∀ C dx fs, o ≠ .ins C dx fs := by
  intro C dx fs e
  cases w with
  | l ds => obtain ⟨vs, e1, _⟩ := h; rw [e1] at e; cases e
  | m t ks xs => obtain ⟨us, h1, _⟩ := h; exact h1.nins C dx fs e
  | ll r => exact h
/-- the object of a thing, to be written anew -/
theorem RepW.obj {w : W0} {a : Addr} {fp : List Addr} (h : RepW K mg F H w a fp) (hw : flat1 w = true) : a ∈ fp ∧ ∃ o, H a = some o ∧ Obj1 K mg F w o ∧ ∀ w' o', Obj1 K mg F w' o' → RepW K mg F (upd H a o') w' a fp := by
  have new : F a = none → fp = [a] → ∀ w' o', Obj1 K mg F w' o' → RepW K mg F (upd H a o') w' a fp := fun f0 e w' o' h' => by
    subst e
    cases w' with
    | l ds => obtain ⟨vs, rfl, r⟩ := h'; exact ⟨rfl, f0, vs, upd_same, r⟩
    | m t ks xs => obtain ⟨us, d, r⟩ := h'; exact ⟨rfl, f0, o', us, upd_same, d, r⟩
    | ll r => exact h'.elim
  cases w with
  | l ds =>
    obtain ⟨rfl, f0, vs, e, r⟩ := h
    exact ⟨by simp, _, e, ⟨vs, rfl, r⟩, new f0 rfl⟩
  | m t ks xs =>
    obtain ⟨rfl, f0, o, us, e, d, r⟩ := h
    exact ⟨by simp, _, e, ⟨us, d, r⟩, new f0 rfl⟩
  | ll rows => cases hw
theorem RowsAt.obj : ∀ {rows : List (List D)} {bs : List Addr} {i : Nat} {ds : List D}, RowsAt K mg F H rows bs → bs.Nodup → rows[i]? = some ds → ∃ b, bs[i]? = some b ∧ b ∈ bs ∧ ∃ vs, H b = some (.lst vs) ∧ Reps K mg F ds vs ∧
      ∀ ds' vs', Reps K mg F ds' vs' → RowsAt K mg F (upd H b (.lst vs')) (rows.set i ds') bs
  | [], _, _, _, _, _, e => by simp at e
  | d0 :: r, bs, 0, ds, h, nd, e => by
    obtain ⟨b, bs', rfl, f0, ⟨vs, e1, r1⟩, h4⟩ := h
    simp at e; subst e
    refine ⟨b, rfl, by simp, vs, e1, r1, fun ds' vs' r' => ⟨b, bs', rfl, f0, ⟨vs', upd_same, r'⟩, h4.frame (.refl F) fun x hx => ⟨(h4.out x hx).1, ?_⟩⟩⟩
    have : x ≠ b := by rintro rfl; exact (List.nodup_cons.mp nd).1 hx
    rw [upd_ne this]
  | d0 :: r, bs, i + 1, ds, h, nd, e => by
    obtain ⟨b, bs', rfl, f0, ⟨vs, e1, r1⟩, h4⟩ := h
    obtain ⟨nb, nd'⟩ := List.nodup_cons.mp nd
    obtain ⟨c, g1, g2, us, g3, g4, g5⟩ := RowsAt.obj (i := i) h4 nd' (by simpa using e)
    refine ⟨c, by simpa using g1, List.mem_cons_of_mem _ g2, us, g3, g4, fun ds' vs' r' => ?_⟩
    refine ⟨b, bs', rfl, f0, ⟨vs, ?_, r1⟩, g5 ds' vs' r'⟩
    have : b ≠ c := by rintro rfl; exact nb g2
    rw [upd_ne this]; exact e1
theorem RepW.row {rows : List (List D)} {a : Addr} {fp : List Addr} {i : Nat} {ds : List D} (h : RepW K mg F H (.ll rows) a fp) (nd : fp.Nodup) (e : rows[i]? = some ds) : ∃ us b, H a = some (.lst us) ∧ us[i]? = some (.ref b) ∧ b ∈ fp ∧ b ≠ a ∧ ∃ vs, H b = some (.lst vs) ∧ Reps K mg F ds vs ∧
    ∀ ds' vs', Reps K mg F ds' vs' → RepW K mg F (upd H b (.lst vs')) (.ll (rows.set i ds')) a fp := by
  obtain ⟨bs, rfl, f0, e1, h2⟩ := h
  obtain ⟨na, nd'⟩ := List.nodup_cons.mp nd
  obtain ⟨b, g1, g2, vs, g3, g4, g5⟩ := h2.obj nd' e
  have ne : b ≠ a := by rintro rfl; exact na g2
  refine ⟨_, b, e1, by rw [List.getElem?_map, g1]; rfl, List.mem_cons_of_mem _ g2, ne, vs, g3, g4, fun ds' vs' r' => ⟨bs, rfl, f0, ?_, g5 ds' vs' r'⟩⟩
  rw [upd_ne (Ne.symm ne)]; exact e1
/-- a field's thing, to be put anew -/
theorem RepFs.focus {y : Str} {v : V} {w : W0} : ∀ {fs : List FV} {vfs : List (Str × V)} {fp : List Addr}, RepFs K mg F H fs (vfs.map (·.2)) fp → vfs.lookup y = some v → getFV (vfs.map (·.1)) fs y = some (.o w) → fp.Nodup →
    ∃ a f1, v = .ref a ∧ RepW K mg F H w a f1 ∧ (∀ z ∈ f1, z ∈ fp) ∧ f1.Nodup ∧
      ∀ H' w', RepW K mg F H' w' a f1 → (∀ x, x ∉ f1 → H' x = H x) → RepFs K mg F H' (setFV (vfs.map (·.1)) fs y (.o w')) (vfs.map (·.2)) fp
  | [], vfs, fp, h, e, _, _ => by
    have : vfs = [] := by simpa using h.1
    rw [this] at e; cases e
  | .d x :: r, vfs, fp, h, e, g, nd => by
    obtain ⟨u, us, e1, h1, h2⟩ := h
    cases vfs with
    | nil => cases e1
    | cons p vfs =>
      obtain ⟨n, u'⟩ := p
      simp only [List.map_cons, List.cons.injEq] at e1
      obtain ⟨rfl, rfl⟩ := e1
      rw [List.lookup_cons] at e
      by_cases hn : n = y
      · subst hn
        simp [getFV] at g
      · have hb : (y == n) = false := by simp; exact fun z => hn z.symm
        rw [hb] at e
        simp only [List.map_cons, getFV, if_neg hn] at g
        obtain ⟨a, f1, q1, q2, q3, q4, q6⟩ := RepFs.focus h2 e g nd
        refine ⟨a, f1, q1, q2, q3, q4, fun H' w' k1 k2 => ?_⟩
        simp only [List.map_cons, setFV, if_neg hn]
        exact ⟨u', _, rfl, h1, q6 H' w' k1 k2⟩
  | .o w0 :: r, vfs, fp, h, e, g, nd => by
    obtain ⟨a, us, f1, f2, e1, rfl, h1, h2⟩ := h
    obtain ⟨nd1, nd2, nd3⟩ := List.nodup_append.mp nd
    cases vfs with
    | nil => cases e1
    | cons p vfs =>
      obtain ⟨n, u'⟩ := p
      simp only [List.map_cons, List.cons.injEq] at e1
      obtain ⟨rfl, rfl⟩ := e1
      rw [List.lookup_cons] at e
      by_cases hn : n = y
      · subst hn
        simp only [beq_self_eq_true] at e
        cases e
        simp only [List.map_cons, getFV, if_pos, Option.some.injEq, FV.o.injEq] at g
        subst g
        refine ⟨a, f1, rfl, h1, fun z hz => List.mem_append_left _ hz, nd1, fun H' w' k1 k2 => ?_⟩
        simp only [List.map_cons, setFV, if_pos]
        refine ⟨a, _, f1, f2, rfl, rfl, k1, h2.frame (.refl F) fun x hx => ⟨(h2.out x hx).1, k2 x fun z => nd3 x z x hx rfl⟩⟩
      · have hb : (y == n) = false := by simp; exact fun z => hn z.symm
        rw [hb] at e
        simp only [List.map_cons, getFV, if_neg hn] at g
        obtain ⟨b, g1, q1, q2, q3, q4, q6⟩ := RepFs.focus h2 e g nd2
        refine ⟨b, g1, q1, q2, fun z hz => List.mem_append_right _ (q3 z hz), q4, fun H' w' k1 k2 => ?_⟩
        simp only [List.map_cons, setFV, if_neg hn]
        refine ⟨a, _, f1, f2, rfl, rfl, h1.frame (.refl F) fun x hx => ⟨(h1.out x hx).1, k2 x fun z => ?_⟩, q6 H' w' k1 k2⟩
        exact nd3 x hx x (q3 x z) rfl
/-- the slot j, to be put anew -/
theorem Ok.focus {j : Nat} {w : Own} (ok : Ok K mg ρ σ F H fps) (e : ρ[j]? = some (some (.o w))) : ∃ a, σ[j]? = some (some (.ref a)) ∧ RepO K mg F H w a (fps j) ∧ (fps j).Nodup ∧
    ∀ H' w', RepO K mg F H' w' a (fps j) → (∀ x, x ∉ fps j → H' x = H x) → (∀ b C dx fs, H b = some (.ins C dx fs) → ∃ dx' fs', H' b = some (.ins C dx' fs') ∧ ∀ f, T.kf f = true → fs'.lookup f = fs.lookup f) →
      Tr K mg T σ F H fps (ρ.set j (some (.o w'))) σ F H' fps := by
  obtain ⟨v, e1, a, rfl, h1, nd⟩ := ok.slot j _ e
  refine ⟨a, e1, h1, nd, fun H' w' h2 k hi => ?_⟩
  have hj : j < ρ.length := (List.getElem?_eq_some_iff.mp e).1
  refine ⟨⟨⟨fun b o hb => ?_, fun b xs hb => ?_⟩, by rw [List.length_set]; exact ok.len, fun i sv h => ?_, fun i h => ?_, ok.sep⟩, .refl F, fun b o hb hn => ?_, fun b o hb => .inl hb, fun b hb => .inl hb, fun _ _ => rfl, hi⟩
  · have : b ∉ fps j := fun z => by rw [(h1.out b z).1] at hb; cases hb
    rw [k b this]; exact ok.sub.at_ b o hb
  · by_cases z : b ∈ fps j
    · exact absurd hb (h2.nt b z xs)
    · rw [k b z] at hb; exact ok.sub.tups b xs hb
  · by_cases hij : j = i
    · subst hij
      rw [List.getElem?_set_self hj] at h
      cases h
      exact ⟨_, e1, a, rfl, h2, nd⟩
    · rw [List.getElem?_set_ne hij] at h
      obtain ⟨u, e2, r⟩ := ok.slot i sv h
      exact ⟨u, e2, r.frame (.refl F) fun x hx => ⟨(r.out x hx).1, k x fun z => ok.sep j i x hij z hx⟩⟩
  · by_cases hij : j = i
    · subst hij; exact absurd (List.getElem?_set_self hj) (h _)
    · refine ok.non i fun sv z => h sv ?_
      rw [List.getElem?_set_ne hij]; exact z
  · rw [k b fun z => hn ⟨j, z⟩]; exact hb
theorem upd_fld {T : Tp} {a : Addr} {o o' : HO} (e : H a = some o) (hn : ∀ C dx fs, o ≠ .ins C dx fs) : ∀ b C dx fs, H b = some (.ins C dx fs) → ∃ dx' fs', (upd H a o') b = some (.ins C dx' fs') ∧ ∀ f, T.kf f = true → fs'.lookup f = fs.lookup f := fun b C dx fs h => by
  have : b ≠ a := by rintro rfl; rw [e] at h; cases h; exact hn _ _ _ rfl
  exact ⟨dx, fs, by rw [upd_ne this]; exact h, fun _ _ => rfl⟩
/-- what stands at a place, and is put there -/
theorem Pl.obj {p : Pl} {w : W0} {v : V} (ok : Ok K mg ρ σ F H fps) (e : p.get ρ = some w) (hw : flat1 w = true) (r : PlRep σ H p v) : ∃ a o, v = .ref a ∧ F a = none ∧ H a = some o ∧ Obj1 K mg F w o ∧
    ∀ w' o' ρ', Obj1 K mg F w' o' → p.put w' ρ = some ρ' → Tr K mg T σ F H fps ρ' σ F (upd H a o') fps := by
  cases p with
  | s j =>
    unfold Pl.get getB at e
    dsimp only at e
    split at e
    · rename_i w0 hx
      cases e
      obtain ⟨a, e1, h1, nd, k⟩ := ok.focus (T := T) hx
      have r : σ[j]? = some (some v) := r
      rw [e1] at r
      cases r
      obtain ⟨ha, o, e2, h2, k2⟩ := RepW.obj h1 hw
      refine ⟨a, o, rfl, (RepO.out h1 a ha).1, e2, h2, fun w' o' ρ' h' ep => ?_⟩
      cases ep
      exact k _ _ (k2 w' o' h') (fun x hx => by rw [upd_ne (by rintro rfl; exact hx ha)]) (upd_fld e2 h2.nins)
    · cases e
  | g j y =>
    unfold Pl.get getG at e
    dsimp only at e
    split at e
    · rename_i c ns fs hx
      split at e
      · rename_i w0 hg
        cases e
        obtain ⟨a, e1, h1, nd, k⟩ := ok.focus (T := T) hx
        obtain ⟨a', C, dx, vfs, r1, r2, r3⟩ := r
        rw [e1] at r1
        cases r1
        obtain ⟨C', dx', vfs', fp', q0, q1, q2, h4, h5, h6⟩ := h1
        rw [r2] at h4; cases h4
        rw [q0] at nd
        obtain ⟨nda, ndp⟩ := List.nodup_cons.mp nd
        obtain ⟨b, f1, rfl, p1, p2, p3, p4⟩ := h6.focus r3 (by rw [h5]; exact hg) ndp
        obtain ⟨hb, o, e2, h2, k2⟩ := RepW.obj p1 hw
        refine ⟨b, o, rfl, (p1.out b hb).1, e2, h2, fun w' o' ρ' h' ep => ?_⟩
        replace ep : some (putG j y w' ρ) = some ρ' := ep
        unfold putG at ep
        rw [hx] at ep
        cases ep
        have hba : a ≠ b := by rintro rfl; exact nda (p2 _ hb)
        refine k _ _ ?_ (fun x hx => by rw [upd_ne (by rintro rfl; rw [q0] at hx; exact hx (List.mem_cons_of_mem _ (p2 _ hb)))]) (upd_fld e2 h2.nins)
        refine ⟨C, dx, vfs, fp', q0, q1, q2, by rw [upd_ne hba]; exact r2, h5, ?_⟩
        rw [← h5]
        exact p4 _ _ (k2 w' o' h') fun x hx => by rw [upd_ne (by rintro rfl; exact hx hb)]
      · cases e
    · cases e
  | sr j i =>
    unfold Pl.get getB at e
    dsimp only at e
    split at e
    · rename_i w0 hx
      cases w0 with
      | ll rows =>
        replace e : (rows[i]?).map W0.l = some w := e
        cases q : rows[i]? with
        | none => rw [q] at e; cases e
        | some ds =>
          rw [q] at e
          cases e
          obtain ⟨a, e1, h1, nd, k⟩ := ok.focus (T := T) hx
          obtain ⟨a', us, r1, r2, r3⟩ := r
          rw [e1] at r1
          cases r1
          obtain ⟨us', b, g1, g2, g3, g4, vs, g5, g6, g7⟩ := RepW.row h1 nd q
          rw [r2] at g1; cases g1
          rw [r3] at g2; cases g2
          refine ⟨b, _, rfl, (RepO.out h1 b g3).1, g5, ⟨vs, rfl, g6⟩, fun w' o' ρ' h' ep => ?_⟩
          replace ep : ((getB j ρ).bind fun v => (setRow i v w').map fun v' => putB j v' ρ) = some ρ' := ep
          unfold getB at ep
          rw [hx] at ep
          cases w' with
          | l ds' =>
            obtain ⟨vs', rfl, r'⟩ := h'
            have hl : i < rows.length := (List.getElem?_eq_some_iff.mp q).1
            simp only [Option.bind_some, setRow, if_pos hl, Option.map_some, Option.some.injEq] at ep
            subst ep
            exact k _ (.b (.ll (rows.set i ds'))) (g7 ds' vs' r') (fun x hx => by rw [upd_ne (by rintro rfl; exact hx g3)]) (upd_fld g5 fun _ _ _ z => nomatch z)
          | _ => simp [setRow] at ep
      | l ds => cases e
      | m t ks xs => cases e
    · cases e
  | gr j y i =>
    unfold Pl.get getG at e
    dsimp only at e
    split at e
    · rename_i c ns fs hx
      split at e
      · rename_i w0 hg
        cases w0 with
        | ll rows =>
          replace e : (rows[i]?).map W0.l = some w := e
          cases q : rows[i]? with
          | none => rw [q] at e; cases e
          | some ds =>
            rw [q] at e
            cases e
            obtain ⟨a, e1, h1, nd, k⟩ := ok.focus (T := T) hx
            obtain ⟨a', C, dx, vfs, b', us, r1, r2, r3, r4, r5⟩ := r
            rw [e1] at r1
            cases r1
            obtain ⟨C', dx', vfs', fp', q0, q1, q2, h4, h5, h6⟩ := h1
            rw [r2] at h4; cases h4
            rw [q0] at nd
            obtain ⟨nda, ndp⟩ := List.nodup_cons.mp nd
            obtain ⟨b1, f1, eb, p1, p2, p3, p4⟩ := h6.focus r3 (by rw [h5]; exact hg) ndp
            cases eb
            obtain ⟨us', b, g1, g2, g3, g4, vs, g5, g6, g7⟩ := RepW.row p1 p3 q
            rw [r4] at g1; cases g1
            rw [r5] at g2; cases g2
            refine ⟨b, _, rfl, (p1.out b g3).1, g5, ⟨vs, rfl, g6⟩, fun w' o' ρ' h' ep => ?_⟩
            replace ep : ((getG j y ρ).bind fun v => (setRow i v w').map fun v' => putG j y v' ρ) = some ρ' := ep
            unfold getG putG at ep
            simp only [hx, hg] at ep
            cases w' with
            | l ds' =>
              obtain ⟨vs', rfl, r'⟩ := h'
              have hl : i < rows.length := (List.getElem?_eq_some_iff.mp q).1
              simp only [Option.bind_some, setRow, if_pos hl, Option.map_some, Option.some.injEq] at ep
              subst ep
              have hba : a ≠ b := by rintro rfl; exact nda (p2 _ g3)
              refine k _ _ ?_ (fun x hx => by rw [upd_ne (by rintro rfl; rw [q0] at hx; exact hx (List.mem_cons_of_mem _ (p2 _ g3)))]) (upd_fld g5 fun _ _ _ z => nomatch z)
              refine ⟨C, dx, vfs, fp', q0, q1, q2, by rw [upd_ne hba]; exact r2, h5, ?_⟩
              rw [← h5]
              exact p4 _ _ (g7 ds' vs' r') fun x hx => by rw [upd_ne (by rintro rfl; exact hx g3)]
            | _ => simp [setRow] at ep
        | l ds => cases e
        | m t ks xs => cases e
      · cases e
    · cases e
end
end J
namespace J
open PySem PySem.Spec PyProof.Rows L2
theorem Grow.trans {F F1 F2 H H1 H2 : Hp} (a : Grow F H F1 H1) (b : Grow F1 H1 F2 H2) : Grow F H F2 H2 := by
  refine ⟨a.mono.trans b.mono, a.keep.trans b.keep, b.sub, fun x o h => ?_⟩
  rcases b.frz x o h with z | z
  · exact a.frz x o z
  · refine .inr ?_
    cases q : H x with
    | none => rfl
    | some u => rw [a.keep x u q] at z; cases z
abbrev QCode := Env → Option D
structure JQ (X : Cx) (e : Expr) (f : QCode) : Prop where
  run : ∀ (ρ : Env) (σ : L2.St) (F H : Hp) (fps : Fps) (Q : VK) (d : D), Ok X.K X.mg ρ σ F H fps → f ρ = some d → (∀ v F' H', Grow F H F' H' → Rep X.K X.mg F' d v → Q v H') → WE X e σ H Q
structure JQs (X : Cx) (es : List Expr) (f : Env → Option (List D)) : Prop where
  run : ∀ (ρ : Env) (σ : L2.St) (F H : Hp) (fps : Fps) (Q : List V → Hp → Prop) (ds : List D), Ok X.K X.mg ρ σ F H fps → f ρ = some ds → (∀ vs F' H', Grow F H F' H' → Reps X.K X.mg F' ds vs → Q vs H') → WA X es σ H Q
def qVar (i : Nat) : QCode := fun ρ => match ρ[i]? with
  | some (some (.d x)) => some x
  | _ => none
def qC (x : D) : QCode := fun _ => some x
def qBin (g : D → D → Option AV) (fa fb : QCode) : QCode := fun ρ => match fa ρ, fb ρ with
  | some x, some y => (match g x y with
    | some (.d z) => some z
    | _ => none)
  | _, _ => none
def qNil : Env → Option (List D) := fun _ => some []
def qCons (f : QCode) (g : Env → Option (List D)) : Env → Option (List D) := fun ρ => match f ρ, g ρ with
  | some x, some xs => some (x :: xs)
  | _, _ => none
def qTup (f : Env → Option (List D)) : QCode := fun ρ => match f ρ with
  | some xs => if xs.length ≤ lim then some (.tup xs) else none
  | none => none
section
variable {X : Cx} {T : Tp} {W : WX} {a b c e : Expr} {es : List Expr} {pos : Pos} {fa fb : QCode}
theorem jq_var {i : Nat} {x : Str} (hN : X.N[i]? = some x := by rfl) (hv : Vis X.env.scope x := by first | exact Or.inl rfl | exact Or.inr (Or.inl rfl) | exact Or.inr (Or.inr rfl)) (hd : (x == ("__debug__" : Str)) = false := by decide)
    (hcd : (x == ("__classdict__" : Str)) = false := by decide) : JQ X (.Name x pos) (qVar i) := by
  refine ⟨fun ρ σ F H fps Q d ok h q => WE.of (pe_var hN hv hd hcd) ?_⟩
  unfold qVar at h
  split at h
  · rename_i y hy
    cases h
    obtain ⟨v, e, r⟩ := ok.slot i _ hy
    exact ⟨v, e, q v F H (.refl ok.sub) r.1⟩
  · cases h
theorem jq_c {x : D} {v : V} (h : PE X e (tC v)) (r : ∀ F, Rep X.K X.mg F x v) : JQ X e (qC x) :=
  ⟨fun ρ σ F H fps Q d ok h' q => by cases h'; exact WE.of h (q v F H (.refl ok.sub) (r F))⟩
theorem jq_int {i j} : JQ X (.Constant (.int i) j pos) (qC (.int i)) := jq_c pe_int fun _ => rfl
theorem jq_bl {b j} : JQ X (.Constant (.bool b) j pos) (qC (.bl b)) := jq_c pe_bl fun _ => rfl
theorem jq_non {j} : JQ X (.Constant .none j pos) (qC .non) := jq_c pe_non fun _ => rfl
theorem jq_str {x j} : JQ X (.Constant (.str x) j pos) (qC (.str x)) := jq_c pe_str fun _ => rfl
theorem jq_bin {op : Operator} {r : R2} {g : D → D → Option AV} (ho : OpR X (binaryOp op) r) (hr : Op2 X.K X.mg r g) (ja : JQ X a fa) (jb : JQ X b fb) : JQ X (.BinOp a op b pos) (qBin g fa fb) := by
  refine ⟨fun ρ σ F H fps Q d ok h q => WE.of (pe_op ho (WE.pe X a) (WE.pe X b)) ?_⟩
  unfold qBin at h
  split at h
  · rename_i x y ex ey
    split at h
    · rename_i z eg
      cases h
      refine ja.run ρ σ F H fps _ x ok ex fun v F1 H1 g1 r1 => ?_
      refine jb.run ρ σ F1 H1 fps _ y (g1.ok ok) ey fun u F2 H2 g2 r2 => ?_
      refine hr F2 H2 v u x y Q g2.sub (Rep.top g2.sub (Rep.mono g2.mono _ _ r1)) (Rep.top g2.sub r2) ?_
      rw [eg]
      exact fun w F3 H3 g3 r3 => q w F3 H3 ((g1.trans g2).trans g3) r3
    · cases h
  · cases h
theorem jqs_nil : JQs X [] qNil := ⟨fun ρ σ F H fps Q ds ok h q => by cases h; exact WA.of pa_nil (q [] F H (.refl ok.sub) .nil)⟩
theorem jqs_cons {g : Env → Option (List D)} (ja : JQ X a fa) (jb : JQs X es g) (hs : starEach (a :: es) X.env = (false, eval a X.env) :: starEach es X.env := by rfl) : JQs X (a :: es) (qCons fa g) := by
  refine ⟨fun ρ σ F H fps Q ds ok h q => WA.of (pa_cons (WE.pe X a) (WA.pa X es) hs) ?_⟩
  unfold qCons at h
  split at h
  · rename_i x xs ex ey
    cases h
    refine ja.run ρ σ F H fps _ x ok ex fun v F1 H1 g1 r1 => ?_
    refine jb.run ρ σ F1 H1 fps _ xs (g1.ok ok) ey fun vs F2 H2 g2 r2 => ?_
    exact q (v :: vs) F2 H2 (g1.trans g2) (.cons (Rep.mono g2.mono _ _ r1) r2)
  · cases h
theorem jq_tup {f : Env → Option (List D)} {x1} (j : JQs X es f) : JQ X (.Tuple es x1 pos) (qTup f) := by
  refine ⟨fun ρ σ F H fps Q d ok h q => WE.of (pe_tup (WA.pa X es)) ?_⟩
  unfold qTup at h
  split at h
  · rename_i xs ex
    split at h
    · rename_i hl
      rw [lim_eq] at hl
      cases h
      refine j.run ρ σ F H fps _ xs ok ex fun vs F1 H1 g1 r1 => ?_
      refine ⟨by rw [← r1.length]; exact hl, fun p hp => ?_⟩
      obtain ⟨g2, f0⟩ := grow_new (o := .tup vs) g1.sub hp (.inr trivial)
      exact q _ _ _ (g1.trans g2) ⟨p, vs, rfl, upd_same, r1.mono g2.mono⟩
    · cases h
  · cases h
/-- as an expression of any kind -/
def ofQ (f : QCode) : ECode := fun ρ => (Out.of (f ρ)).bind fun d => .ok (.d d, ρ)
theorem JQ.jx (j : JQ X e fa) : JX X T W e (ofQ fa) := by
  refine ⟨fun ρ σ F H fps Q ok h => ?_⟩
  unfold ofQ at h
  cases q : fa ρ with
  | none => rw [q] at h; exact h.elim
  | some d =>
    rw [q] at h
    refine j.run ρ σ F H fps Q d ok q fun v F' H' g r => ?_
    exact h v F' H' fps (g.tr ok) r
end
theorem PlRep.grow {σ : L2.St} {F F' H H' : Hp} {p : Pl} {v : V} (h : PlRep σ H p v) (g : Grow F H F' H') : PlRep σ H' p v := by
  cases p with
  | s j => exact h
  | g j y => obtain ⟨a, C, dx, fs, h1, h2, h3⟩ := h; exact ⟨a, C, dx, fs, h1, g.keep _ _ h2, h3⟩
  | sr j i => obtain ⟨a, us, h1, h2, h3⟩ := h; exact ⟨a, us, h1, g.keep _ _ h2, h3⟩
  | gr j y i => obtain ⟨a, C, dx, fs, b, us, h1, h2, h3, h4, h5⟩ := h; exact ⟨a, C, dx, fs, b, us, h1, g.keep _ _ h2, h3, g.keep _ _ h4, h5⟩
/-- an outcome that is a place -/
def plOf : AV → Option Pl
  | .s j => some (.s j)
  | .g j y => some (.g j y)
  | _ => none
theorem plOf_rep {K : PySem.W.Frag} {mg : Str → Option Value} {T : Tp} {N : Addr → Prop} {σ : L2.St} {F H : Hp} {fps : Fps} {av : AV} {p : Pl} {v : V} (e : plOf av = some p) (r : RepA K mg T N σ F H fps av v) : PlRep σ H p v := by
  cases av with
  | s j => cases e; exact r
  | g j y => cases e; exact r.2
  | d x => cases e
  | o w => cases e
def isL : W0 → Bool
  | .l _ => true
  | _ => false
def isM : W0 → Bool
  | .m _ _ _ => true
  | _ => false
/-- r at a thing of kind k: what it gives, what stands there then -/
def MtD (K : PySem.W.Frag) (mg : Str → Option Value) (r : V → List V → Hp → VK → Prop) (g : W0 → List D → Option (D × W0)) : Prop :=
  ∀ (F H : Hp) (a : Addr) (o : HO) (w : W0) (ds : List D) (vs : List V) (d : D) (w' : W0) (Q : VK), Sub F H → F a = none → H a = some o → Obj1 K mg F w o → Reps K mg F ds vs → g w ds = some (d, w') → (∀ y o', Rep K mg F d y → Obj1 K mg F w' o' → Q y (upd H a o')) → r (.ref a) vs H Q
def mutEnd (g : W0 → List D → Option (D × W0)) (p : Pl) (ds : List D) (ρ : Env) : Out (AV × Env) := match p.get ρ with
  | some w => if flat1 w then (match g w ds with
    | some (d, w') => (match p.put w' ρ with
      | some ρ' => .ok (.d d, ρ')
      | none => .bad)
    | none => .bad) else .bad
  | none => .bad
def kindAt (k : W0 → Bool) (p : Pl) (ρ : Env) : Bool := match p.get ρ with
  | some w => k w
  | none => false
theorem mut_end {K : PySem.W.Frag} {mg : Str → Option Value} {T : Tp} {W : WX} {r : V → List V → Hp → VK → Prop} {g : W0 → List D → Option (D × W0)} (hr : MtD K mg r g) {ρ : Env} {σ : L2.St} {F H : Hp} {fps : Fps} {p : Pl} {v : V} {ds : List D} {vs : List V} {Q : VK}
    (ok : Ok K mg ρ σ F H fps) (hp : PlRep σ H p v) (rs : Reps K mg F ds vs) (h : PX K mg T W σ F H fps (mutEnd g p ds ρ) Q) : r v vs H Q := by
  unfold mutEnd at h
  split at h
  · rename_i w e
    split at h
    · rename_i hw
      split at h
      · rename_i d w' eg
        obtain ⟨a, o, rfl, fa, h1, h2, h3⟩ := Pl.obj (T := T) ok e hw hp
        split at h
        · rename_i ρ' ep
          refine hr F H a o w ds vs d w' Q ok.sub fa h1 h2 rs eg fun y o' ry ho => ?_
          exact h y F _ fps (h3 w' o' ρ' ho ep) ry
        · exact h.elim
      · exact h.elim
    · exact h.elim
  · exact h.elim
/-- o.m(es) on a thing of its own -/
def cMut (k : W0 → Bool) (g : W0 → List D → Option (D × W0)) (fo : ECode) (fa : Env → Out (List D × Env)) : ECode := fun ρ => (fo ρ).bind fun p => match plOf p.1 with
  | some q => if kindAt k q p.2 then (fa p.2).bind fun z => mutEnd g q z.1 z.2 else .bad
  | none => .bad
/-- .. on a row; the arguments are quiet -/
def cMutR (k : W0 → Bool) (g : W0 → List D → Option (D × W0)) (fp : Env → Out (Pl × Env)) (fa : Env → Option (List D)) : ECode := fun ρ => (fp ρ).bind fun p => if kindAt k p.1 p.2 then (match fa p.2 with
  | some ds => mutEnd g p.1 ds p.2
  | none => .bad) else .bad
def KindTy (X : Cx) (k : W0 → Bool) (Tn : String) : Prop := ∀ F H w a o, k w = true → H a = some o → Obj1 X.K X.mg F w o → flat1 w = true ∧ tyV X.K Tn (.ref a) H
theorem kind_l {X : Cx} : KindTy X isL "list" := fun F H w a o hk e h => by
  cases w with
  | l ds => obtain ⟨vs, rfl, r⟩ := h; exact ⟨rfl, .inl ⟨rfl, vs, .of e⟩⟩
  | _ => cases hk
theorem kind_m {X : Cx} : KindTy X isM "dict" := fun F H w a o hk e h => by
  cases w with
  | m t ks xs =>
    obtain ⟨us, d, r⟩ := h
    refine ⟨rfl, .inr (.inr (.inl ⟨rfl, ?_⟩))⟩
    cases t with
    | false => obtain ⟨kvs, rfl, _⟩ := d; exact .inl ⟨kvs, e⟩
    | true => obtain ⟨kvs, rfl, _⟩ := d; exact .inr ⟨kvs, e⟩
  | _ => cases hk
def kflat (k : W0 → Bool) : Prop := ∀ w, k w = true → flat1 w = true
theorem kflat_l : kflat isL := fun w h => by cases w <;> first | rfl | cases h
theorem kflat_m : kflat isM := fun w h => by cases w <;> first | rfl | cases h
section
variable {X : Cx} {T : Tp} {W : WX} {a b c e o : Expr} {es : List Expr} {pos apos cpos : Pos} {fo : ECode} {g : W0 → List D → Option (D × W0)} {k : W0 → Bool} {Tn id : String} {name : Str} {r : V → List V → Hp → VK → Prop}
theorem kind_at {F H : Hp} {ρ : Env} {σ : L2.St} {fps : Fps} {p : Pl} {v : V} (hk : KindTy X k Tn) (kf : kflat k) (ok : Ok X.K X.mg ρ σ F H fps) (hp : PlRep σ H p v) (e : kindAt k p ρ = true) : tyV X.K Tn v H := by
  unfold kindAt at e
  split at e
  · rename_i w ew
    obtain ⟨a, o, rfl, _, h1, h2, _⟩ := Pl.obj (T := ⟨fun _ => true, fun _ => false⟩) ok ew (kf w e) hp
    exact (hk F H w a o e h1 h2).2
  · cases e
theorem jx_mut (pa : PlainAttrs Tn) (slot : Slot Tn name id) (hty : typeOf (.builtin id) = pure (.type "method_descriptor")) (hm : MtR X id r) (hr : MtD X.K X.mg r g) (hk : KindTy X k Tn) (kf : kflat k) {fa : Env → Out (List D × Env)}
    (jo : JX X T W o fo) (ja : JDs X T W (e :: es) fa)
    (hbase : attributeBase o name X.env (eval o X.env) = eval o X.env := by rfl)
    (hfew : ((backTo cpos (starEach (e :: es) X.env)).all (fun x => !x.1) && (backToKw cpos (keywordEach [] X.env)).all (fun x => x.1.isSome)
      && decide ((e :: es).length + ([] : List Keyword).length + (if ([] : List Keyword).isEmpty then 0 else 1) < 30)) = true := by rfl)
    (hline : (apos.endLine == cpos.line) = true := by rfl) (hs : starEach (e :: es) X.env = (false, eval e X.env) :: starEach es X.env := by rfl) (hplain : (backTo cpos (starEach es X.env)).any (·.1) = false := by rfl) :
    JX X T W (.Call (.Attribute o name apos) (e :: es) [] cpos) (cMut k g fo fa) := by
  refine ⟨fun ρ σ F H fps Q ok h => WE.of (pe_bm pa slot hty hm (WE.pe X o) (WA.pa X (e :: es)) hbase hfew hline hs hplain) ?_⟩
  refine jo.next ok FP.px h fun av ρ1 v F1 H1 fps1 t1 ra h1 => ?_
  replace h1 := PX.from t1 h1
  dsimp only at h1
  split at h1
  · rename_i p ep
    split at h1
    · rename_i hkd
      refine ⟨kind_at hk kf t1.ok (plOf_rep ep ra) hkd, ?_⟩
      refine ja.next t1.ok FP.px h1 fun ds ρ2 vs F2 H2 fps2 t2 rs h2 => ?_
      exact mut_end hr t2.ok (plOf_rep ep (ra.stay t2)) rs (PX.from t2 h2)
    · exact h1.elim
  · exact h1.elim
theorem jx_mut0 (pa : PlainAttrs Tn) (slot : Slot Tn name id) (hty : typeOf (.builtin id) = pure (.type "method_descriptor")) (hm : MtR X id r) (hr : MtD X.K X.mg r g) (hk : KindTy X k Tn) (kf : kflat k)
    (jo : JX X T W o fo)
    (hbase : attributeBase o name X.env (eval o X.env) = eval o X.env := by rfl) (hline : (apos.endLine == cpos.line) = true := by rfl) : JX X T W (.Call (.Attribute o name apos) [] [] cpos) (cMut k g fo cNil) := by
  refine ⟨fun ρ σ F H fps Q ok h => WE.of (pe_bm0 pa slot hty hm (WE.pe X o) hbase hline) ?_⟩
  refine jo.next ok FP.px h fun av ρ1 v F1 H1 fps1 t1 ra h1 => ?_
  replace h1 := PX.from t1 h1
  dsimp only at h1
  split at h1
  · rename_i p ep
    split at h1
    · rename_i hkd
      refine ⟨kind_at hk kf t1.ok (plOf_rep ep ra) hkd, ?_⟩
      exact mut_end hr t1.ok (plOf_rep ep ra) .nil h1
    · exact h1.elim
  · exact h1.elim
/-- a place, told -/
structure JPl (X : Cx) (T : Tp) (W : WX) (e : Expr) (f : Env → Out (Pl × Env)) : Prop where
  run : ∀ (ρ : Env) (σ : L2.St) (F H : Hp) (fps : Fps) (Q : VK), Ok X.K X.mg ρ σ F H fps → PY X.K X.mg T W σ F H fps (fun _ H' p v => PlRep σ H' p v) (f ρ) Q → WE X e σ H Q
theorem JPl.next {γ : Type} {Z : Out γ → Prop} {f : Env → Out (Pl × Env)} {ρ : Env} {σ : L2.St} {F H : Hp} {fps : Fps} (j : JPl X T W e f) {kk : Pl × Env → Out γ} {R : VK} (ok : Ok X.K X.mg ρ σ F H fps) (z : FP X.K X.mg T W σ F H fps Z) (h : Z ((f ρ).bind kk))
    (hk : ∀ x ρ1 v F1 H1 fps1, Tr X.K X.mg T σ F H fps ρ1 σ F1 H1 fps1 → PlRep σ H1 x v → Z (kk (x, ρ1)) → R v H1) : WE X e σ H R := by
  refine j.run ρ σ F H fps R ok ?_
  cases q : f ρ with
  | ok p =>
    obtain ⟨av, ρ1⟩ := p
    rw [q] at h
    exact fun v F1 H1 fps1 t ra => hk av ρ1 v F1 H1 fps1 t ra h
  | exc x ρ1 => rw [q] at h; exact z.exc x ρ1 h
  | bad => rw [q] at h; exact z.bad h
def rowOf : AV → Nat → Option Pl
  | .s j, i => some (.sr j i)
  | .g j y, i => some (.gr j y i)
  | _, _ => none
def rowsAt : AV → Env → Option Nat
  | .s j, ρ => match getB j ρ with
    | some (.ll rows) => some rows.length
    | _ => none
  | .g j y, ρ => match getG j y ρ with
    | some (.ll rows) => some rows.length
    | _ => none
  | _, _ => none
def cPl (fo : ECode) : Env → Out (Pl × Env) := fun ρ => (fo ρ).bind fun p => (Out.of (plOf p.1)).bind fun q => .ok (q, p.2)
theorem jp_val (jo : JX X T W o fo) : JPl X T W o (cPl fo) := by
  refine ⟨fun ρ σ F H fps Q ok h => ?_⟩
  refine jo.next ok FP.py h fun av ρ1 v F1 H1 fps1 t1 ra h1 => ?_
  replace h1 := PY.from t1 h1
  dsimp only at h1
  cases q : plOf av with
  | none => rw [q] at h1; exact h1.elim
  | some p =>
    rw [q] at h1
    exact PY.ret h1 t1.ok (plOf_rep q ra)
def cRow (fo : ECode) (fi : QCode) : Env → Out (Pl × Env) := fun ρ => (fo ρ).bind fun p => match rowsAt p.1 p.2, fi p.2 with
  | some n, some (.int i) => (match ixN n i with
    | some k => (Out.of (rowOf p.1 k)).bind fun q => .ok (q, p.2)
    | none => .bad)
  | _, _ => .bad
theorem rows_at {K : PySem.W.Frag} {mg : Str → Option Value} {N : Addr → Prop} {ρ : Env} {σ : L2.St} {F H : Hp} {fps : Fps} {av : AV} {v : V} {n : Nat} (ok : Ok K mg ρ σ F H fps) (ra : RepA K mg T N σ F H fps av v) (e : rowsAt av ρ = some n) :
    ∃ a us, v = .ref a ∧ H a = some (.lst us) ∧ us.length = n ∧ ∀ k q u, rowOf av k = some q → us[k]? = some u → PlRep σ H q u := by
  have len : ∀ {rows : List (List D)} {bs : List Addr}, RowsAt K mg F H rows bs → bs.length = rows.length := fun {rows} => by
    induction rows with
    | nil => intro bs h; rw [show bs = [] from h]; rfl
    | cons d r ih =>
      intro bs h
      obtain ⟨b, bs', rfl, _, _, h4⟩ := h
      simp [ih h4]
  cases av with
  | s j =>
    unfold rowsAt at e
    dsimp only at e
    split at e
    · rename_i rows hg
      cases e
      unfold getB at hg
      split at hg
      · rename_i w hx
        cases hg
        obtain ⟨u, e1, a, rfl, h1, nd⟩ := ok.slot j _ hx
        have ra : σ[j]? = some (some v) := ra
        rw [ra] at e1; cases e1
        obtain ⟨bs, q0, f0, e2, h2⟩ := h1
        refine ⟨a, _, rfl, e2, by rw [List.length_map, len h2], fun k q u eq eu => ?_⟩
        cases eq
        exact ⟨a, _, ra, e2, eu⟩
      · cases hg
    · cases e
  | g j y =>
    unfold rowsAt at e
    dsimp only at e
    split at e
    · rename_i rows hg
      cases e
      unfold getG at hg
      split at hg
      · rename_i c ns fs hx
        split at hg
        · rename_i w hg2
          cases hg
          obtain ⟨u, e1, a, rfl, h1, nd⟩ := ok.slot j _ hx
          obtain ⟨_, a2, C, dx, vfs, p1, p2, p3⟩ := ra
          rw [p1] at e1; cases e1
          obtain ⟨C', dx', vfs', fp', q0, q1, q2, h4, h5, h6⟩ := h1
          rw [p2] at h4; cases h4
          rw [q0] at nd
          obtain ⟨b, f1, rfl, g1, g2, g3, g4⟩ := h6.focus p3 (by rw [h5]; exact hg2) (List.nodup_cons.mp nd).2
          obtain ⟨bs, k0, f0, e2, h2⟩ := g1
          refine ⟨b, _, rfl, e2, by rw [List.length_map, len h2], fun k q u eq eu => ?_⟩
          cases eq
          exact ⟨_, C, dx, vfs, b, _, p1, p2, p3, e2, eu⟩
        · cases hg
      · cases hg
    · cases e
  | d x => cases e
  | o w => cases e
theorem jp_row {fi : QCode} (hu : X.A.units + 1 < cLine) (jo : JX X T W o fo) (ji : JQ X b fi) (hs : PlainIx b := by intro _ _; rfl) : JPl X T W (.Subscript o b pos) (cRow fo fi) := by
  refine ⟨fun ρ σ F H fps Q ok h => WE.of (pe_ix (ix_all hu) (WE.pe X o) (WE.pe X b) hs) ?_⟩
  refine jo.next ok FP.py h fun av ρ1 v F1 H1 fps1 t1 ra h1 => ?_
  replace h1 := PY.from t1 h1
  dsimp only at h1
  split at h1
  · rename_i n i en ei
    split at h1
    · rename_i k ek
      obtain ⟨a, us, rfl, e1, hl, hp⟩ := rows_at t1.ok ra en
      cases q : rowOf av k with
      | none => rw [q] at h1; exact h1.elim
      | some p =>
        rw [q] at h1
        refine ji.run ρ1 σ F1 H1 fps1 _ _ t1.ok ei fun u F2 H2 g2 r2 => ?_
        have r2 : u = .int i := r2
        subst r2
        have hk : k < us.length := by rw [hl]; exact (ixN_seq ek).2.1
        refine .inl (.inl ⟨a, us, i, us[k], rfl, rfl, .of (g2.keep _ _ e1), ?_, ?_⟩)
        · unfold atI
          rw [hl, ek]
          exact List.getElem?_eq_getElem hk
        · exact (PY.from (g2.tr t1.ok) h1).ret (g2.ok t1.ok) ((hp k p _ q (List.getElem?_eq_getElem hk)).grow g2)
    · exact h1.elim
  · exact h1.elim
theorem jx_mutR (pa : PlainAttrs Tn) (slot : Slot Tn name id) (hty : typeOf (.builtin id) = pure (.type "method_descriptor")) (hm : MtR X id r) (hr : MtD X.K X.mg r g) (hk : KindTy X k Tn) (kf : kflat k) {fa : Env → Option (List D)} {fp : Env → Out (Pl × Env)}
    (jo : JPl X T W o fp) (ja : JQs X (e :: es) fa)
    (hbase : attributeBase o name X.env (eval o X.env) = eval o X.env := by rfl)
    (hfew : ((backTo cpos (starEach (e :: es) X.env)).all (fun x => !x.1) && (backToKw cpos (keywordEach [] X.env)).all (fun x => x.1.isSome)
      && decide ((e :: es).length + ([] : List Keyword).length + (if ([] : List Keyword).isEmpty then 0 else 1) < 30)) = true := by rfl)
    (hline : (apos.endLine == cpos.line) = true := by rfl) (hs : starEach (e :: es) X.env = (false, eval e X.env) :: starEach es X.env := by rfl) (hplain : (backTo cpos (starEach es X.env)).any (·.1) = false := by rfl) :
    JX X T W (.Call (.Attribute o name apos) (e :: es) [] cpos) (cMutR k g fp fa) := by
  refine ⟨fun ρ σ F H fps Q ok h => WE.of (pe_bm pa slot hty hm (WE.pe X o) (WA.pa X (e :: es)) hbase hfew hline hs hplain) ?_⟩
  refine jo.next ok FP.px h fun p ρ1 v F1 H1 fps1 t1 ra h1 => ?_
  replace h1 := PX.from t1 h1
  dsimp only at h1
  split at h1
  · rename_i hkd
    refine ⟨kind_at hk kf t1.ok ra hkd, ?_⟩
    split at h1
    · rename_i ds ed
      refine ja.run ρ1 σ F1 H1 fps1 _ ds t1.ok ed fun vs F2 H2 g2 rs => ?_
      exact mut_end hr (g2.ok t1.ok) (ra.grow g2) rs (PX.from (g2.tr t1.ok) h1)
    · exact h1.elim
  · exact h1.elim
def appendD : W0 → List D → Option (D × W0)
  | .l xs, [x] => if xs.length < lim then some (.non, .l (xs ++ [x])) else none
  | _, _ => none
theorem mtd_append : MtD X.K X.mg rAppend appendD := by
  intro F H a o w ds vs d w' Q s fa e h rs eg q
  unfold appendD at eg
  split at eg
  · rename_i xs x
    split at eg
    · rename_i hl
      rw [lim_eq] at hl
      cases eg
      obtain ⟨us, rfl, r⟩ := h
      obtain ⟨v, r', rfl, rv, e2⟩ := rs
      have e2 : r' = [] := e2
      subst e2
      exact ⟨a, us, v, rfl, rfl, e, by rw [← r.length]; exact hl, q .non _ rfl ⟨_, rfl, r.append (.one rv)⟩⟩
    · cases eg
  · cases eg
def extendD : W0 → List D → Option (D × W0)
  | .l xs, [.lst ys] => if xs.length + ys.length ≤ lim then some (.non, .l (xs ++ ys)) else none
  | _, _ => none
theorem mtd_extend : MtD X.K X.mg rExtend extendD := by
  intro F H a o w ds vs d w' Q s fa e h rs eg q
  unfold extendD at eg
  split at eg
  · rename_i xs ys
    split at eg
    · rename_i hl
      rw [lim_eq] at hl
      cases eg
      obtain ⟨us, rfl, r⟩ := h
      obtain ⟨v, r', rfl, rv, e2⟩ := rs
      have e2 : r' = [] := e2
      subst e2
      obtain ⟨b, zs, rfl, h1, h2⟩ := rv
      exact ⟨a, b, us, zs, rfl, rfl, e, s.lst h1, by rw [← r.length, ← h2.length]; exact hl, q .non _ rfl ⟨_, rfl, r.append h2⟩⟩
    · cases eg
  · cases eg
theorem Reps.dropLast {K : PySem.W.Frag} {mg : Str → Option Value} {F : Hp} {ds : List D} {vs : List V} (h : Reps K mg F ds vs) : Reps K mg F ds.dropLast vs.dropLast := by
  rw [List.dropLast_eq_take, List.dropLast_eq_take, h.length]
  exact h.take _
theorem Reps.eraseIdx {K : PySem.W.Frag} {mg : Str → Option Value} {F : Hp} : ∀ {ds : List D} {vs : List V} (i : Nat), Reps K mg F ds vs → Reps K mg F (ds.eraseIdx i) (vs.eraseIdx i)
  | [], _, i, h => by rw [show _ = [] from h]; exact .nil
  | d :: ds, vs, 0, h => by
    obtain ⟨v, r, rfl, h1, h2⟩ := h
    exact h2
  | d :: ds, vs, i + 1, h => by
    obtain ⟨v, r, rfl, h1, h2⟩ := h
    exact .cons h1 (Reps.eraseIdx i h2)
def popD : W0 → List D → Option (D × W0)
  | .l xs, [] => (xs[xs.length - 1]?).map fun d => (d, .l xs.dropLast)
  | .l xs, [.int i] => if rg62 i then (ixN xs.length i).bind fun k => (xs[k]?).map fun d => (d, .l (xs.eraseIdx k)) else none
  | _, _ => none
theorem mtd_pop : MtD X.K X.mg (fun x vs H Q => rPop x vs H Q ∨ rPopAt x vs H Q) popD := by
  intro F H a o w ds vs d w' Q s fa e h rs eg q
  unfold popD at eg
  split at eg
  · rename_i xs
    obtain ⟨us, rfl, r⟩ := h
    have rs : vs = [] := rs
    subst rs
    cases qq : xs[xs.length - 1]? with
    | none => rw [qq] at eg; cases eg
    | some d' =>
      rw [qq] at eg
      cases eg
      obtain ⟨v, e1, r1⟩ := r.get qq
      exact .inl ⟨a, us, v, rfl, rfl, e, by rw [← r.length]; exact e1, q v _ r1 ⟨_, rfl, r.dropLast⟩⟩
  · rename_i xs i
    split at eg
    · rename_i hb
      obtain ⟨b1, b2⟩ := rg62_ok hb
      obtain ⟨us, rfl, r⟩ := h
      obtain ⟨v0, r', rfl, rv, e2⟩ := rs
      have e2 : r' = [] := e2
      have rv : v0 = .int i := rv
      subst e2 rv
      cases qk : ixN xs.length i with
      | none => rw [qk] at eg; cases eg
      | some k =>
        rw [qk] at eg
        replace eg : (xs[k]?).map (fun d => (d, W0.l (xs.eraseIdx k))) = some (d, w') := eg
        cases qq : xs[k]? with
        | none => rw [qq] at eg; cases eg
        | some d' =>
          rw [qq] at eg
          cases eg
          obtain ⟨v, e1, r1⟩ := r.get qq
          exact .inr ⟨a, us, i, k, v, rfl, rfl, e, by omega, by omega, by rw [← r.length]; exact (ixN_seq qk).1, e1, q v _ r1 ⟨_, rfl, r.eraseIdx k⟩⟩
    · cases eg
  · cases eg
theorem mt_popL : MtR X "list.pop" (fun x vs H Q => rPop x vs H Q ∨ rPopAt x vs H Q) := fun pins s σ H x xs v us Q I r rs h => by
  rcases h with h | h
  · exact mt_pop pins s σ H x xs v us Q I r rs h
  · exact mt_popAt pins s σ H x xs v us Q I r rs h
end
end J
namespace J
open PySem PySem.Spec PyProof.Rows L2
def replD : List D → List D → D → D → List D
  | k :: ks, x :: xs, y, v => (if eqD k y then v else x) :: replD ks xs y v
  | _, xs, _, _ => xs
def dputD (ks xs : List D) (y v : D) : List D × List D := if ks.any (fun k => eqD k y) then (ks, replD ks xs y v) else (ks ++ [y], xs ++ [v])
def putD : W0 → D → D → Option W0
  | .l ds, .int k, v => (ixN ds.length k).map fun j => .l (ds.set j v)
  | .m t ks xs, y, v => if keyFit t y && decide (ks.length < lim) then some (.m t (dputD ks xs y v).1 (dputD ks xs y v).2) else none
  | _, _, _ => none
section
variable {K : PySem.W.Frag} {mg : Str → Option Value} {F H : Hp}
theorem replK : ∀ (kvs : List (Key × V)) (xs : List D) (k : Key) {d : D} {v : V}, Reps K mg F xs (kvs.map (·.2)) → Rep K mg F d v →
    Reps K mg F (replD (kvs.map fun p => keyD p.1) xs (keyD k) d) ((kvs.map fun kv => if kv.1 = k then (kv.1, v) else kv).map (·.2))
  | [], xs, k, _, _, h, _ => by rw [show xs = [] from by cases xs with | nil => rfl | cons => obtain ⟨_, _, e, _⟩ := h; cases e]; exact .nil
  | p :: kvs, [], k, _, _, h, _ => by cases h
  | p :: kvs, x :: xs, k, d, v, h, hd => by
    obtain ⟨u, r, e, h1, h2⟩ := h
    simp only [List.map_cons, List.cons.injEq] at e
    obtain ⟨rfl, rfl⟩ := e
    simp only [List.map_cons, replD, eqD_key, decide_eq_true_eq]
    by_cases hk : p.1 = k
    · rw [if_pos hk, if_pos hk]; exact .cons hd (replK kvs xs k h2 hd)
    · rw [if_neg hk, if_neg hk]; exact .cons h1 (replK kvs xs k h2 hd)
theorem replT : ∀ (kvs : List (List Key × V)) (xs : List D) (k : List Key) {d : D} {v : V}, Reps K mg F xs (kvs.map (·.2)) → Rep K mg F d v →
    Reps K mg F (replD (kvs.map fun p => D.tup (p.1.map keyD)) xs (.tup (k.map keyD)) d) ((kvs.map fun kv => if kv.1 = k then (kv.1, v) else kv).map (·.2))
  | [], xs, k, _, _, h, _ => by rw [show xs = [] from by cases xs with | nil => rfl | cons => obtain ⟨_, _, e, _⟩ := h; cases e]; exact .nil
  | p :: kvs, [], k, _, _, h, _ => by cases h
  | p :: kvs, x :: xs, k, d, v, h, hd => by
    obtain ⟨u, r, e, h1, h2⟩ := h
    simp only [List.map_cons, List.cons.injEq] at e
    obtain ⟨rfl, rfl⟩ := e
    simp only [List.map_cons, replD, eqD, eqDs_keys, decide_eq_true_eq]
    by_cases hk : p.1 = k
    · rw [if_pos hk, if_pos hk]; exact .cons hd (replT kvs xs k h2 hd)
    · rw [if_neg hk, if_neg hk]; exact .cons h1 (replT kvs xs k h2 hd)
theorem anyK (kvs : List (Key × V)) (k : Key) : ((kvs.map fun p => keyD p.1).any fun z => eqD z (keyD k)) = kvs.any fun kv => decide (kv.1 = k) := by
  rw [List.any_map]; congr 1; funext p; exact eqD_key p.1 k
theorem anyT (kvs : List (List Key × V)) (k : List Key) : ((kvs.map fun p => D.tup (p.1.map keyD)).any fun z => eqD z (.tup (k.map keyD))) = kvs.any fun kv => decide (kv.1 = k) := by
  rw [List.any_map]; congr 1; funext p; simp only [Function.comp, eqD]; exact eqDs_keys p.1 k
theorem map_repl {κ : Type} [DecidableEq κ] {α : Type} (f : κ → α) (kvs : List (κ × V)) (k : κ) (v : V) : (kvs.map fun kv => if kv.1 = k then (kv.1, v) else kv).map (fun p => f p.1) = kvs.map fun p => f p.1 := by
  rw [List.map_map]; congr 1; funext p; simp only [Function.comp]; split <;> rfl
/-- a key is put -/
theorem put_ok (s : Sub F H) (fa : F a = none) {t : Bool} {o : HO} {ks xs : List D} {us : List V} {y d : D} {yv v : V} (e : H a = some o) (hd : DicO t o ks us) (hx : Reps K mg F xs us) (hy : Rep K mg F y yv) (hv : Rep K mg F d v) (hf : keyFit t y = true) (hl : ks.length < sizeLine) :
    ∃ o', DPut H a yv v (upd H a o') ∧ Obj1 K mg F (.m t (dputD ks xs y d).1 (dputD ks xs y d).2) o' := by
  cases t with
  | false =>
    obtain ⟨kvs, rfl, rfl, rfl⟩ := hd
    obtain ⟨kk, rfl⟩ := keyFit_false hf
    refine ⟨_, .inl ⟨kvs, kk, e, keyD_rep hy, by simpa using hl, rfl⟩, ((putK kvs kk v).map (·.2)), ⟨_, rfl, ?_, rfl⟩, ?_⟩
    · unfold dputD putK
      rw [anyK]
      split
      · exact (map_repl keyD kvs kk v).symm
      · simp
    · unfold dputD putK
      rw [anyK]
      split
      · exact replK kvs xs kk hx hv
      · rw [List.map_append]; exact hx.append (.one hv)
  | true =>
    obtain ⟨kvs, rfl, rfl, rfl⟩ := hd
    obtain ⟨kk, rfl⟩ := keyFit_true hf
    obtain ⟨b, vs, rfl, h1, h2⟩ := hy
    rw [keys_rep h2] at h1
    refine ⟨_, .inr ⟨kvs, kk, b, e, rfl, s.tup h1, by simpa using hl, rfl⟩, ((putK kvs kk v).map (·.2)), ⟨_, rfl, ?_, rfl⟩, ?_⟩
    · unfold dputD putK
      rw [anyT]
      split
      · exact (map_repl (fun k => D.tup (k.map keyD)) kvs kk v).symm
      · simp
    · unfold dputD putK
      rw [anyT]
      split
      · exact replT kvs xs kk hx hv
      · rw [List.map_append]; exact hx.append (.one hv)
end
theorem pset_or {X : Cx} {t u : TSet} (a : PSet X t) (b : PSet X u) : PSet X (fun o i v H Q => t o i v H Q ∨ u o i v H Q) := fun pins s σ H o i v ov iv w Q I r1 r2 r3 h => by
  rcases h with h | h
  · exact a pins s σ H o i v ov iv w Q I r1 r2 r3 h
  · exact b pins s σ H o i v ov iv w Q I r1 r2 r3 h
def rSetA : TSet := fun o i v H Q => rSetL o i v H Q ∨ rSetD o i v H Q
def putEnd (p : Pl) (i d : D) (ρ : Env) : Out Flow := match p.get ρ with
  | some w => (match putD w i d with
    | some w' => (match p.put w' ρ with
      | some ρ' => .ok (.nx ρ')
      | none => .bad)
    | none => .bad)
  | none => .bad
theorem put_end {K : PySem.W.Frag} {mg : Str → Option Value} {T : Tp} {W : WX} {ρ : Env} {σ : L2.St} {F H : Hp} {fps : Fps} {p : Pl} {x i v : V} {di d : D} {D : Ends}
    (ok : Ok K mg ρ σ F H fps) (hp : PlRep σ H p x) (ri : Rep K mg F di i) (rv : Rep K mg F d v) (h : PSt K mg T W σ F H fps (putEnd p di d ρ) D) : rSetA x i v H (fun H3 => D.nx σ H3) := by
  unfold putEnd at h
  split at h
  · rename_i w e
    split at h
    · rename_i w' ew
      cases w with
      | ll rows => cases di <;> cases ew
      | l ds =>
        obtain ⟨a, o, rfl, fa, h1, ⟨vs, rfl, r⟩, h3⟩ := Pl.obj (T := T) ok e rfl hp
        split at h
        · rename_i ρ' ep
          cases di with
          | int k =>
            rw [show i = .int k from ri]
            replace ew : (ixN ds.length k).map (fun j => W0.l (ds.set j d)) = some w' := ew
            cases q : ixN ds.length k with
            | none => rw [q] at ew; cases ew
            | some j =>
              rw [q] at ew
              cases ew
              exact .inl ⟨a, vs, k, j, rfl, rfl, h1, by rw [← r.length]; exact q, h σ F _ fps (h3 (.l (ds.set j d)) _ _ ⟨_, rfl, Reps.set rv j r⟩ ep)⟩
          | _ => cases ew
        · exact h.elim
      | m t ks xs =>
        obtain ⟨a, o, rfl, fa, h1, ⟨us, hd, r⟩, h3⟩ := Pl.obj (T := T) ok e rfl hp
        split at h
        · rename_i ρ' ep
          replace ew : (if keyFit t di && decide (ks.length < lim) then some (W0.m t (dputD ks xs di d).1 (dputD ks xs di d).2) else none) = some w' := by cases di <;> exact ew
          split at ew
          · rename_i hc
            cases ew
            simp only [Bool.and_eq_true, decide_eq_true_eq, lim_eq] at hc
            obtain ⟨o', hP, hO⟩ := put_ok ok.sub fa h1 hd r ri rv hc.1 hc.2
            exact .inr ⟨a, _, rfl, hP, h σ F _ fps (h3 _ _ _ hO ep)⟩
          · cases ew
        · exact h.elim
    · exact h.elim
  · exact h.elim
section
variable {X : Cx} {T : Tp} {W : WX} {a b c e o i : Expr} {es : List Expr} {pos p1 : Pos} {fo fa : ECode}
/-- o[i] = e -/
def cPut (fe : Env → Out (D × Env)) (fo : ECode) (fi : Env → Out (D × Env)) : SCode := fun ρ => (fe ρ).bind fun v => (fo v.2).bind fun p => (Out.of (plOf p.1)).bind fun q => (fi p.2).bind fun k => putEnd q k.1 v.1 k.2
def cPutR (fe : Env → Out (D × Env)) (fp : Env → Out (Pl × Env)) (fi : QCode) : SCode := fun ρ => (fe ρ).bind fun v => (fp v.2).bind fun p => (Out.of (fi p.2)).bind fun k => putEnd p.1 k v.1 p.2
def subA (o i : Expr) (pos : Pos) (X : Cx) : Prop := ∀ v, assign (.Subscript o i pos) X.env v = (do
      let ov ← holding [v] (eval o X.env)
      let iv ← holding [v, ov] (eval i X.env)
      standAt pos
      holding [v, ov, iv] (setItem ov iv v)
      release [v, ov, iv] [])
theorem js_put {fe fi : Env → Out (D × Env)} (hu : X.A.units + 1 < cLine) (je : JD X T W e fe) (jo : JX X T W o fo) (ji : JD X T W i fi) (ha : subA o i p1 X := by intro _; rfl)
    (hs : swapsWithSole [.Subscript o i p1] e pos.line X.env = pure false := by rfl) (hw : swappedStores [.Subscript o i p1] e X.env = pure none := by rfl)
    (h1 : (assignEach [.Subscript o i p1] X.env).map (·.2) = [assign (.Subscript o i p1) X.env] := by rfl) : JS X T W (.Assign [.Subscript o i p1] e pos) (cPut fe fo fi) := by
  refine ⟨fun ρ σ F H fps D ok h => WS.of (ps_asg (WE.pe X e) (pg_sub (WE.pe X o) (WE.pe X i) (pset_or set_list (set_dict hu)) ha) hs hw h1) ?_⟩
  refine je.next ok FP.st h fun d ρ1 v F1 H1 fps1 t1 r1 h1 => ?_
  replace h1 := PSt.from t1 h1
  refine jo.next t1.ok FP.st h1 fun av ρ2 x F2 H2 fps2 t2 ra h2 => ?_
  replace h2 := PSt.from t2 h2
  dsimp only at h2
  cases q : plOf av with
  | none => rw [q] at h2; exact h2.elim
  | some p =>
    rw [q] at h2
    replace h2 : PSt X.K X.mg T W σ F2 H2 fps2 ((fi ρ2).bind fun k => putEnd p k.1 d k.2) D := h2
    refine ji.next t2.ok FP.st h2 fun di ρ3 iv F3 H3 fps3 t3 r3 h3 => ?_
    exact put_end t3.ok (plOf_rep q (ra.stay t3)) r3 (Rep.mono (t2.mono.trans t3.mono) _ _ r1) (PSt.from t3 h3)
theorem js_putR {fe : Env → Out (D × Env)} {fp : Env → Out (Pl × Env)} {fi : QCode} (hu : X.A.units + 1 < cLine) (je : JD X T W e fe) (jo : JPl X T W o fp) (ji : JQ X i fi) (ha : subA o i p1 X := by intro _; rfl)
    (hs : swapsWithSole [.Subscript o i p1] e pos.line X.env = pure false := by rfl) (hw : swappedStores [.Subscript o i p1] e X.env = pure none := by rfl)
    (h1 : (assignEach [.Subscript o i p1] X.env).map (·.2) = [assign (.Subscript o i p1) X.env] := by rfl) : JS X T W (.Assign [.Subscript o i p1] e pos) (cPutR fe fp fi) := by
  refine ⟨fun ρ σ F H fps D ok h => WS.of (ps_asg (WE.pe X e) (pg_sub (WE.pe X o) (WE.pe X i) (pset_or set_list (set_dict hu)) ha) hs hw h1) ?_⟩
  refine je.next ok FP.st h fun d ρ1 v F1 H1 fps1 t1 r1 h1 => ?_
  replace h1 := PSt.from t1 h1
  refine jo.next t1.ok FP.st h1 fun p ρ2 x F2 H2 fps2 t2 ra h2 => ?_
  replace h2 := PSt.from t2 h2
  dsimp only at h2
  cases q : fi ρ2 with
  | none => rw [q] at h2; exact h2.elim
  | some k =>
    rw [q] at h2
    refine ji.run ρ2 σ F2 H2 fps2 _ k t2.ok q fun iv F3 H3 g3 r3 => ?_
    exact put_end (g3.ok t2.ok) (ra.grow g3) r3 (Rep.mono (t2.mono.trans g3.mono) _ _ r1) (PSt.from (g3.tr t2.ok) h2)
def ipD (op : Int → Int → Int) : D → D → Option D
  | .int i, .int j => some (.int (op i j))
  | _, _ => none
def cAug (op : Int → Int → Int) (i : Nat) (f : ECode) : SCode := fun ρ => match ρ[i]? with
  | some (some (.d x)) => (f ρ).bind fun p => (match p.1 with
    | .d y => (Out.of (ipD op x y)).bind fun z => if i < p.2.length then .ok (.nx (p.2.set i (some (.d z)))) else .bad
    | _ => .bad)
  | _ => .bad
theorem js_aug {j : Nat} {x : Str} {pos' : Pos} {op : Operator} {f : Int → Int → Int} (hN : X.N.Nodup) (hi : X.N[j]? = some x) (hx : Loc X.env.scope x) (ha : T.asg j = true) (ho : PIp X op (ipI f)) (ja : JX X T W a fa)
    (hf : X.fn x = true ∨ X.env.scope.names.lookup x = some .local := by first | exact .inl rfl | exact .inr rfl | assumption) : JS X T W (.AugAssign (.Name x pos') op a pos) (cAug f j fa) := by
  refine ⟨fun ρ σ F H fps D ok h => WS.of (ps_aug hN hi hx (WE.pe X a) ho hf) ?_⟩
  unfold cAug at h
  split at h
  · rename_i d hd
    obtain ⟨v, e, r⟩ := ok.slot j _ hd
    refine ⟨v, e, ?_⟩
    refine ja.next ok FP.st h fun av ρ1 y F1 H1 fps1 t1 ra h1 => ?_
    replace h1 := PSt.from t1 h1
    cases av with
    | d dy =>
      dsimp only at h1
      cases d with
      | int i =>
        cases dy with
        | int k =>
          refine ⟨i, k, r.1, ra, ?_⟩
          replace h1 : PSt X.K X.mg T W σ F1 H1 fps1 (if j < ρ1.length then .ok (.nx (ρ1.set j (some (.d (.int (f i k)))))) else .bad) D := h1
          split at h1
          · rename_i hl
            exact h1 _ _ _ _ ((Tr.refl t1.ok).store (fp := []) (v := .int (f i k)) hl ha ⟨rfl, rfl⟩ (fun x hx => absurd hx (by simp)) fun x hx => absurd hx (by simp))
          · exact h1.elim
        | _ => exact h1.elim
      | _ => exact h1.elim
    | _ => exact h1.elim
  · exact h.elim
def cDic (t : Bool) : ECode := fun ρ => .ok (.o (.b (.m t [] [])), ρ)
theorem jx_dicK : JX X T W (.Dict [] [] pos) (cDic false) := by
  refine ⟨fun ρ σ F H fps Q ok h => WE.of pe_dnewK fun p hp => ?_⟩
  obtain ⟨g, f0⟩ := grow_own (o := .dK []) ok.sub hp
  refine h _ _ _ fps (g.tr ok) ⟨p, [p], rfl, ⟨rfl, f0, _, [], upd_same, ⟨[], rfl, rfl, rfl⟩, .nil⟩, by simp, fun x hx z => ?_, fun x hx => .inr (by rw [List.mem_singleton.mp hx]; exact hp)⟩
  rw [List.mem_singleton.mp hx] at z
  obtain ⟨_, o, ho⟩ := ok.inF z
  rw [hp] at ho; cases ho
theorem jx_dicT : JX X T W (.Dict [] [] pos) (cDic true) := by
  refine ⟨fun ρ σ F H fps Q ok h => WE.of pe_dnewT fun p hp => ?_⟩
  obtain ⟨g, f0⟩ := grow_own (o := .dT []) ok.sub hp
  refine h _ _ _ fps (g.tr ok) ⟨p, [p], rfl, ⟨rfl, f0, _, [], upd_same, ⟨[], rfl, rfl, rfl⟩, .nil⟩, by simp, fun x hx z => ?_, fun x hx => .inr (by rw [List.mem_singleton.mp hx]; exact hp)⟩
  rw [List.mem_singleton.mp hx] at z
  obtain ⟨_, o, ho⟩ := ok.inF z
  rw [hp] at ho; cases ho
end
end J
namespace J
open PySem PySem.Spec PyProof.Rows L2
def setN : List Str → Str → List Str
  | [], y => [y]
  | n :: ns, y => if n = y then n :: ns else n :: setN ns y
def putFs : List Str → List FV → Str → FV → List FV
  | n :: ns, f :: fs, y, g => if n = y then g :: fs else f :: putFs ns fs y g
  | _, _, _, g => [g]
/-- a value to be kept in a field -/
def AV.keepF : AV → Env → Option (FV × Env)
  | .o (.b w), ρ => some (.o w, ρ)
  | av, ρ => (av.frz ρ).map fun p => (.d p.1, p.2)
section
variable {K : PySem.W.Frag} {mg : Str → Option Value} {T : Tp} {W : WX} {ρ ρ' : Env} {σ : L2.St} {F F0 H H0 H' : Hp} {fps fps0 : Fps}
def RepF1 (K : PySem.W.Frag) (mg : Str → Option Value) (F H : Hp) : FV → V → List Addr → Prop
  | .d x, v, fp => Rep K mg F x v ∧ fp = []
  | .o w, v, fp => ∃ a, v = .ref a ∧ RepW K mg F H w a fp ∧ fp.Nodup
theorem keepF_ok {av : AV} {v : V} {fv : FV} (t : Tr K mg T σ F0 H0 fps0 ρ σ F H fps) (ra : RepA K mg T (NewTo fps0 H0) σ F H fps av v) (e : av.keepF ρ = some (fv, ρ')) :
    ∃ F' fps' fp, Tr K mg T σ F0 H0 fps0 ρ' σ F' H fps' ∧ RepF1 K mg F' H fv v fp ∧ (∀ x ∈ fp, ¬InF fps' x) ∧ (∀ x ∈ fp, NewTo fps0 H0 x) := by
  have frz : (av.frz ρ).map (fun p => (FV.d p.1, p.2)) = some (fv, ρ') → ∃ F' fps' fp, Tr K mg T σ F0 H0 fps0 ρ' σ F' H fps' ∧ RepF1 K mg F' H fv v fp ∧ (∀ x ∈ fp, ¬InF fps' x) ∧ (∀ x ∈ fp, NewTo fps0 H0 x) := fun e => by
    cases q : av.frz ρ with
    | none => rw [q] at e; cases e
    | some p =>
      obtain ⟨d, ρ''⟩ := p
      rw [q] at e
      simp only [Option.map_some, Option.some.injEq, Prod.mk.injEq] at e
      obtain ⟨rfl, rfl⟩ := e
      obtain ⟨F', fps', t', r, m⟩ := frz_ok t ra q
      exact ⟨F', fps', [], t', ⟨r, rfl⟩, fun x hx => absurd hx (by simp), fun x hx => absurd hx (by simp)⟩
  cases av with
  | o w =>
    cases w with
    | b w =>
      cases e
      obtain ⟨a, fp, rfl, h1, h2, h3, h4⟩ := ra
      exact ⟨F, fps, fp, t, ⟨a, rfl, h1, h2⟩, h3, h4⟩
    | i c ns fs => exact frz e
  | d x => exact frz e
  | s j => exact frz e
  | g j y => exact frz e
theorem RepFs.put {y : Str} {v : V} {fv : FV} {fpv : List Addr} (hv : RepF1 K mg F H fv v fpv) : ∀ {fs : List FV} {vfs : List (Str × V)} {fp : List Addr}, RepFs K mg F H fs (vfs.map (·.2)) fp →
    ∃ fp', RepFs K mg F H (putFs (vfs.map (·.1)) fs y fv) ((putF y v vfs).map (·.2)) fp' ∧ (∀ z ∈ fp', z ∈ fp ∨ z ∈ fpv) ∧ (fp.Nodup → (∀ z ∈ fp, z ∉ fpv) → fp'.Nodup) ∧ (putF y v vfs).map (·.1) = setN (vfs.map (·.1)) y := by
  have one : ∀ {fs : List FV} {vs : List V} {fp : List Addr}, RepFs K mg F H fs vs fp → ∃ fp', RepFs K mg F H (fv :: fs) (v :: vs) fp' ∧ (∀ z ∈ fp', z ∈ fp ∨ z ∈ fpv) ∧ (fp.Nodup → (∀ z ∈ fp, z ∉ fpv) → fp'.Nodup) := fun {fs vs fp} h => by
    cases fv with
    | d x =>
      obtain ⟨r, rfl⟩ := hv
      exact ⟨fp, ⟨v, vs, rfl, r, h⟩, fun z hz => .inl hz, fun nd _ => nd⟩
    | o w =>
      obtain ⟨a, rfl, r, nd'⟩ := hv
      exact ⟨fpv ++ fp, ⟨a, vs, fpv, fp, rfl, rfl, r, h⟩, fun z hz => (List.mem_append.mp hz).symm, fun nd hd => List.nodup_append.mpr ⟨nd', nd, fun x hx z hz e => hd z hz (e ▸ hx)⟩⟩
  intro fs
  induction fs with
  | nil =>
    intro vfs fp h
    have : vfs = [] := by simpa using h.1
    subst this
    obtain ⟨fp', q1, q2, q3⟩ := one (fs := []) (vs := []) (fp := fp) h
    exact ⟨fp', q1, q2, q3, rfl⟩
  | cons f r ih =>
    intro vfs fp h
    cases vfs with
    | nil => cases f with
      | d x => obtain ⟨_, _, e, _⟩ := h; cases e
      | o w => obtain ⟨_, _, _, _, e, _⟩ := h; cases e
    | cons p vfs =>
      obtain ⟨n, u⟩ := p
      by_cases hn : n = y
      · subst hn
        cases f with
        | d x =>
          obtain ⟨u', us, e1, h1, h2⟩ := h
          simp only [List.map_cons, List.cons.injEq] at e1
          obtain ⟨rfl, rfl⟩ := e1
          obtain ⟨fp', q1, q2, q3⟩ := one h2
          exact ⟨fp', by simpa [putFs, putF] using q1, q2, q3, by simp [putF, setN]⟩
        | o w =>
          obtain ⟨a, us, f1, f2, e1, rfl, h1, h2⟩ := h
          simp only [List.map_cons, List.cons.injEq] at e1
          obtain ⟨rfl, rfl⟩ := e1
          obtain ⟨fp', q1, q2, q3⟩ := one h2
          refine ⟨fp', by simpa [putFs, putF] using q1, fun z hz => (q2 z hz).imp (List.mem_append_right _) id, fun nd hd => q3 (List.nodup_append.mp nd).2.1 fun z hz => hd z (List.mem_append_right _ hz), by simp [putF, setN]⟩
      · cases f with
        | d x =>
          obtain ⟨u', us, e1, h1, h2⟩ := h
          simp only [List.map_cons, List.cons.injEq] at e1
          obtain ⟨rfl, rfl⟩ := e1
          obtain ⟨fp', q1, q2, q3, q4⟩ := ih h2
          refine ⟨fp', ?_, q2, q3, by simp [putF, setN, hn, q4]⟩
          simp only [List.map_cons, putFs, putF, if_neg hn]
          exact ⟨_, _, rfl, h1, q1⟩
        | o w =>
          obtain ⟨a, us, f1, f2, e1, rfl, h1, h2⟩ := h
          simp only [List.map_cons, List.cons.injEq] at e1
          obtain ⟨rfl, rfl⟩ := e1
          obtain ⟨fp', q1, q2, q3, q4⟩ := ih h2
          refine ⟨f1 ++ fp', ?_, fun z hz => ?_, fun nd hd => ?_, by simp [putF, setN, hn, q4]⟩
          · simp only [List.map_cons, putFs, putF, if_neg hn]
            exact ⟨a, _, f1, fp', rfl, rfl, h1, q1⟩
          · rcases List.mem_append.mp hz with z1 | z1
            · exact .inl (List.mem_append_left _ z1)
            · exact (q2 z z1).imp (List.mem_append_right _) id
          · obtain ⟨nd1, nd2, nd3⟩ := List.nodup_append.mp nd
            refine List.nodup_append.mpr ⟨nd1, q3 nd2 fun z hz => hd z (List.mem_append_right _ hz), fun x hx z hz e => ?_⟩
            subst e
            rcases q2 x hz with z1 | z1
            · exact nd3 x hx x z1 rfl
            · exact hd x (List.mem_append_left _ hx) z1
/-- the field y of slot j's instance is stored -/
def fldEnd (y : Str) (j : Nat) (q : FV × Env) : Out Flow := match q.2[j]? with
  | some (some (.o (.i c ns fs))) => if ns.length < 1000 then .ok (.nx (q.2.set j (some (.o (.i c (setN ns y) (putFs ns fs y q.1)))))) else .bad
  | _ => .bad
theorem Tr.field {y : Str} {j : Nat} {v : V} {fv : FV} {fpv : List Addr} {c : Str} {ns : List Str} {fs : List FV} (t : Tr K mg T σ F0 H0 fps0 ρ σ F H fps) (hk : T.kf y = false) (hx : ρ[j]? = some (some (.o (.i c ns fs)))) (hv : RepF1 K mg F H fv v fpv)
    (hd : ∀ x ∈ fpv, ¬InF fps x) (hN : ∀ x ∈ fpv, NewTo fps0 H0 x) : ∃ a C dx vfs, σ[j]? = some (some (.ref a)) ∧ mg c = some (.ref C) ∧ H a = some (.ins C dx vfs) ∧ vfs.length = ns.length ∧
      ∃ fps', Tr K mg T σ F0 H0 fps0 (ρ.set j (some (.o (.i c (setN ns y) (putFs ns fs y fv))))) σ F (upd H a (.ins C dx (putF y v vfs))) fps' := by
  obtain ⟨u, e1, a, rfl, hO, nd⟩ := t.ok.slot j _ hx
  obtain ⟨C, dx, vfs, fp', q0, q1, q2, h4, h5, h6⟩ := hO
  obtain ⟨fp2, p1, p2, p3, p4⟩ := h6.put (y := y) hv
  have hj : j < ρ.length := (List.getElem?_eq_some_iff.mp hx).1
  rw [q0] at nd
  obtain ⟨nda, ndp⟩ := List.nodup_cons.mp nd
  have inj : ∀ z ∈ fp', InF fps z := fun z hz => ⟨j, by rw [q0]; exact List.mem_cons_of_mem _ hz⟩
  have ina : InF fps a := ⟨j, by rw [q0]; exact List.mem_cons_self⟩
  have na : a ∉ fp2 := fun z => by
    rcases p2 a z with z | z
    · exact nda z
    · exact hd a z ina
  refine ⟨a, C, dx, vfs, e1, q2, h4, by rw [← h5, List.length_map], fun i => if i = j then a :: fp2 else fps i, ⟨⟨fun b o hb => ?_, fun b xs hb => ?_⟩, by rw [List.length_set]; exact t.ok.len, fun i sv h => ?_, fun i h => ?_, fun i k b hik h1 h2 => ?_⟩, t.mono, fun b o h hn => ?_, t.frz, fun b ⟨i, h⟩ => ?_, fun _ _ => rfl, fun b C' dx' fs' h => ?_⟩
  · have : b ≠ a := ne_of_none hb q1
    rw [upd_ne this]; exact t.ok.sub.at_ b o hb
  · by_cases e : b = a
    · subst e; rw [upd_same] at hb; cases hb
    · rw [upd_ne e] at hb; exact t.ok.sub.tups b xs hb
  · by_cases hij : j = i
    · subst hij
      rw [List.getElem?_set_self hj] at h
      cases h
      refine ⟨_, e1, a, rfl, ⟨C, dx, _, fp2, by rw [if_pos rfl], q1, q2, upd_same, by rw [p4, h5], ?_⟩, ?_⟩
      · rw [h5] at p1
        refine p1.frame (.refl F) fun x hx => ⟨(p1.out x hx).1, ?_⟩
        rw [upd_ne (by rintro rfl; exact na hx)]
      · rw [if_pos rfl]
        exact List.nodup_cons.mpr ⟨na, p3 ndp fun z hz z2 => hd z z2 (inj z hz)⟩
    · rw [List.getElem?_set_ne hij] at h
      obtain ⟨u, e2, r⟩ := t.ok.slot i sv h
      refine ⟨u, e2, ?_⟩
      rw [if_neg (Ne.symm hij)]
      refine r.frame (.refl F) fun x hx => ⟨(r.out x hx).1, ?_⟩
      rw [upd_ne]
      rintro rfl
      exact t.ok.sep i j x (Ne.symm hij) hx (by rw [q0]; exact List.mem_cons_self)
  · by_cases hij : j = i
    · subst hij; exact absurd (List.getElem?_set_self hj) (h _)
    · rw [if_neg (Ne.symm hij)]
      refine t.ok.non i fun sv z => h sv ?_
      rw [List.getElem?_set_ne hij]; exact z
  · have cl : ∀ {k' : Nat} {b : Addr}, k' ≠ j → b ∈ fps k' → b ∉ a :: fp2 := fun {k' b} hk' hb hb2 => by
      rcases List.mem_cons.mp hb2 with z | z
      · subst z; exact t.ok.sep k' j b hk' hb (by rw [q0]; exact List.mem_cons_self)
      · rcases p2 b z with z | z
        · exact t.ok.sep k' j b hk' hb (by rw [q0]; exact List.mem_cons_of_mem _ z)
        · exact hd b z ⟨k', hb⟩
    by_cases hi : i = j
    · rw [if_pos hi] at h1
      have hkj : k ≠ j := fun z => hik (hi.trans z.symm)
      rw [if_neg hkj] at h2
      exact cl hkj h2 h1
    · rw [if_neg hi] at h1
      by_cases hkj : k = j
      · rw [if_pos hkj] at h2; exact cl hi h1 h2
      · rw [if_neg hkj] at h2; exact t.ok.sep i k b hik h1 h2
  · have : b ≠ a := by
      rintro rfl
      rcases t.own b ina with z | z
      · exact hn z
      · rw [h] at z; cases z
    rw [upd_ne this]; exact t.keep b o h hn
  · dsimp only at h
    split at h
    · rcases List.mem_cons.mp h with z | z
      · subst z; exact t.own _ ina
      · rcases p2 b z with z | z
        · exact t.own _ (inj b z)
        · exact hN b z
    · exact t.own b ⟨i, h⟩
  · obtain ⟨d1, f1, e2, k1⟩ := t.fld b C' dx' fs' h
    by_cases hb : b = a
    · subst hb
      rw [h4] at e2
      cases e2
      refine ⟨dx, _, upd_same, fun f hf => ?_⟩
      rw [lookup_putF, if_neg (by rintro rfl; rw [hk] at hf; cases hf)]
      exact k1 f hf
    · exact ⟨d1, f1, by rw [upd_ne hb]; exact e2, k1⟩
end
section
variable {X : Cx} {T T' : Tp} {W : WX} {a b c e o i : Expr} {es : List Expr} {pos p1 : Pos} {fo fe : ECode}
def cFldSet (cs : List Str) (y : Str) (fe fo : ECode) : SCode := fun ρ => (fe ρ).bind fun v => (fo v.2).bind fun p => match p.1 with
  | .s j => (match p.2[j]? with
    | some (some (.o (.i c _ _))) => if c ∈ cs then (Out.of (v.1.keepF p.2)).bind (fldEnd y j) else .bad
    | _ => .bad)
  | _ => .bad
/-- a stored thing stays an instance of its class -/
theorem frz_cls {c : Str} {ns : List Str} {fs : List FV} {c' : Str} {ns' : List Str} {fs' : List FV} {K : PySem.W.Frag} {mg : Str → Option Value} {ρ ρ' : Env} {σ σ' : L2.St} {F F' H H' : Hp} {fps fps' : Fps} {j : Nat} (ok : Ok K mg ρ σ F H fps) (t : Tr K mg T σ F H fps ρ' σ F' H' fps') (h : ρ[j]? = some (some (.o (.i c ns fs)))) (h' : ρ'[j]? = some (some (.o (.i c' ns' fs')))) : mg c = mg c' := by
  obtain ⟨u, e1, a, rfl, hO, nd⟩ := ok.slot j _ h
  obtain ⟨C, dx, vfs, fp', q0, q1, q2, h4, h5, h6⟩ := hO
  obtain ⟨u, e2, a', rfl, hO, nd⟩ := t.ok.slot j _ h'
  obtain ⟨C', dx', vfs', fp', q0', q1', q2', h4', h5', h6'⟩ := hO
  rw [e1] at e2; cases e2
  obtain ⟨d1, f1, e3, _⟩ := t.fld a C dx vfs h4
  rw [h4'] at e3; cases e3
  rw [q2, q2']
theorem js_fldset {cs : List Str} {y : Str} (hF : ∀ c ∈ cs, ∀ C, X.mg c = some (.ref C) → Cls X.K C ∧ NoAttr X.K C y) (hk : T.kf y = false) (je : JX X T W e fe) (jo : JX X T W o fo)
    (hs : swapsWith e (some (.Attribute o y p1)) pos.line X.env = pure false := by rfl) : JS X T W (.Assign [.Attribute o y p1] e pos) (cFldSet cs y fe fo) := by
  refine ⟨fun ρ σ F H fps D ok h => WS.of (ps_fld (WE.pe X o) (WE.pe X e) hs) ?_⟩
  refine je.next ok FP.st h fun av ρ1 v F1 H1 fps1 t1 ra h1 => ?_
  refine jo.next t1.ok (FP.st_from t1) h1 fun ov ρ2 x F2 H2 fps2 t2 rx h2 => ?_
  cases ov with
  | s j =>
    dsimp only at h2
    split at h2
    · rename_i c ns fs hj
      split at h2
      · rename_i hc
        cases q : av.keepF ρ2 with
        | none => rw [q] at h2; exact h2.elim
        | some z =>
          obtain ⟨fv, ρ3⟩ := z
          rw [q] at h2
          replace h2 : PSt X.K X.mg T W σ F H fps (fldEnd y j (fv, ρ3)) D := h2
          have t12 := t1.trans t2
          obtain ⟨F3, fps3, fpv, t3, hv, hd, hN⟩ := keepF_ok t12 (ra.stay t2) q
          unfold fldEnd at h2
          dsimp only at h2
          split at h2
          · rename_i c' ns' fs' hj'
            split at h2
            · rename_i hl
              obtain ⟨a, C, dx, vfs, e1, e2, e3, e4, fps4, t4⟩ := t3.field hk hj' hv hd hN
              have rx : σ[j]? = some (some x) := rx
              rw [rx] at e1; cases e1
              -- the class is the old one
              have e5 : X.mg c = some (.ref C) := by
                obtain ⟨u, e6, a6, rfl, hO, nd⟩ := t2.ok.slot j _ hj
                obtain ⟨C6, dx6, vfs6, fp6, q0, q1, q2, h4, h5, h6⟩ := hO
                rw [rx] at e6; cases e6
                rw [e3] at h4; cases h4
                exact q2
              obtain ⟨cl, na⟩ := hF c hc C e5
              refine ⟨a, C, dx, vfs, rfl, e3, cl, na, by rw [e4]; exact hl, ?_⟩
              exact h2 σ _ _ fps4 t4
            · exact h2.elim
          · exact h2.elim
      · exact h2.elim
    · exact h2.elim
  | _ => exact h2.elim
def cFldAug (cs : List Str) (op : Int → Int → Int) (y : Str) (fo fe : ECode) : SCode := fun ρ => (fo ρ).bind fun p => match p.1 with
  | .s j => (match p.2[j]? with
    | some (some (.o (.i c ns fs))) => if c ∈ cs then (match getFV ns fs y with
      | some (.d (.int i)) => (fe p.2).bind fun v => (match v.1 with
        | .d (.int k) => fldEnd y j (.d (.int (op i k)), v.2)
        | _ => .bad)
      | _ => .bad) else .bad
    | _ => .bad)
  | _ => .bad
theorem js_fldaug {cs : List Str} {y : Str} {op : Operator} {f : Int → Int → Int} (hF : ∀ c ∈ cs, ∀ C, X.mg c = some (.ref C) → Cls X.K C ∧ NoAttr X.K C y) (hk : T.kf y = false) (ho : InOp X op (fun x y H Q => ∃ i j, x = .int i ∧ y = .int j ∧ Q (.int (f i j)) H)) (jo : JX X T W o fo) (je : JX X T W e fe) :
    JS X T W (.AugAssign (.Attribute o y p1) op e pos) (cFldAug cs f y fo fe) := by
  refine ⟨fun ρ σ F H fps D ok h => WS.of (ps_fldaug (WE.pe X o) (WE.pe X e) ho) ?_⟩
  refine jo.next ok FP.st h fun ov ρ1 x F1 H1 fps1 t1 rx h1 => ?_
  cases ov with
  | s j =>
    dsimp only at h1
    split at h1
    · rename_i c ns fs hj
      split at h1
      · rename_i hc
        split at h1
        · rename_i i hg
          have rx : σ[j]? = some (some x) := rx
          obtain ⟨u, e6, a, rfl, hO, nd⟩ := t1.ok.slot j _ hj
          obtain ⟨C, dx, vfs, fp6, q0, q1, q2, h4, h5, h6⟩ := hO
          rw [rx] at e6; cases e6
          obtain ⟨cl, na⟩ := hF c hc C q2
          rw [← h5] at hg
          obtain ⟨w, e1⟩ := getFV_look h6 hg
          obtain ⟨f0, e2, e3⟩ := h6.at e1
          rw [hg] at e2; cases e2
          have e3 : w = .int i := e3
          subst e3
          refine ⟨a, C, dx, vfs, _, rfl, h4, cl, na, e1, ?_⟩
          refine je.next t1.ok (FP.st_from t1) h1 fun ev ρ2 v F2 H2 fps2 t2 rv h2 => ?_
          cases ev with
          | d d =>
            cases d with
            | int k =>
              have rv : v = .int k := rv
              subst rv
              refine ⟨i, k, rfl, rfl, ?_⟩
              dsimp only at h2
              unfold fldEnd at h2
              dsimp only at h2
              split at h2
              · rename_i c' ns' fs' hj'
                split at h2
                · rename_i hl
                  obtain ⟨a', C', dx', vfs', g1, g2, g3, g4, fps4, t4⟩ := (t1.trans t2).field (v := .int (f i k)) (fv := .d (.int (f i k))) (fpv := []) hk hj' ⟨rfl, rfl⟩ (fun x hx => absurd hx (by simp)) (fun x hx => absurd hx (by simp))
                  rw [rx] at g1; cases g1
                  have eC : C' = C := by
                    obtain ⟨d1, f1, e7, _⟩ := t2.fld _ C dx vfs h4
                    rw [g3] at e7; cases e7; rfl
                  subst eC
                  exact ⟨dx', vfs', g3, by rw [g4]; exact hl, h2 σ _ _ fps4 t4⟩
                · exact h2.elim
              · exact h2.elim
            | _ => exact h2.elim
          | _ => exact h2.elim
        · exact h1.elim
      · exact h1.elim
    · exact h1.elim
  | _ => exact h1.elim
theorem set_px {i : Nat} {f : ECode} {ρ : Env} {σ : L2.St} {F H : Hp} {fps : Fps} {D : Ends} (ha : T.asg i = true) (h : PSt X.K X.mg T W σ F H fps (cSet i f ρ) D) : PX X.K X.mg T W σ F H fps (f ρ) (fun v H' => D.nx (σ.set i (some v)) H') := by
  unfold cSet at h
  cases q : f ρ with
  | ok p =>
    obtain ⟨av, ρ1⟩ := p
    rw [q] at h
    exact fun v F' H' fps' t ra => set_end ha t ra h
  | exc x ρ1 => rw [q] at h; exact fun cls d F' H' fps' t xr => h cls d σ F' H' fps' t xr
  | bad => rw [q] at h; exact h
variable {elt tg iter : Expr} {ifs : List Expr} {scope : Scope} {own : List (Str × Nat)} {fi : ICode} {g : TgC} {t : Env → Out (Bool × Env)} {fel : Env → Out (D × Env)} {spos py : Pos} {x : Str} {j : Nat}
theorem js_setLc (hc : X.calm = true) (hN : X.N.Nodup) (hj : X.N[j]? = some x) (hxl : X.env.scope.names.lookup x = some .local) (ha : T.asg j = true)
    (hsw : swapsWith (.ListComp elt [⟨tg, iter, ifs, 0⟩] scope pos) (some (.Name x py)) spos.line X.env = pure true) (ji : JI X T W tg iter fi) (ok : BlkOk X.N X.env.scope scope own)
    (jg : ∀ (s : Shared) (H : Hp) (C : Addr) (cl : List (Str × Addr)) (fp : List Addr), JG (X.blk s H scope (compEnvC scope cl C X.env) fp) (Tv T (own.map (·.2))) tg g)
    (jt : ∀ (s : Shared) (H : Hp) (C : Addr) (cl : List (Str × Addr)) (fp : List Addr), JTs (X.blk s H scope (compEnvC scope cl C X.env) fp) T WNo ifs t)
    (je : ∀ (s : Shared) (H : Hp) (C : Addr) (cl : List (Str × Addr)) (fp : List Addr), JD (X.blk s H scope (compEnvC scope cl C X.env) fp) T WNo elt fel)
    (hlen : ∀ d ρ ρ1, g d ρ = .ok ρ1 → ρ1.length = ρ.length) (hs : ∀ x, foldedSetIterable iter X.env x = pure x := by intro _; rfl) :
    JS X T W (.Assign [.Name x py] (.ListComp elt [⟨tg, iter, ifs, 0⟩] scope pos) spos) (cSet j (cLc fi (own.map (·.2)) g t fel)) := by
  refine ⟨fun ρ σ F H fps D ok' h => WS.of (ps_setLc (g := WGu X scope tg) (tt := WTu X scope ifs) (te := WEu X scope elt) hc hN hj hxl hsw (WI.pi X tg iter) ok (fun s H C cl fp => ⟨fun pins s2 σ H v u Q I r q => q s _ C cl fp pins s2 u I r⟩) (fun s H C cl fp => ⟨fun pins s2 σ H' Q I q => q s H C cl fp pins s2 I⟩) (fun s H C cl fp => ⟨fun pins s2 σ H' Q I q => q s H C cl fp pins s2 I⟩) hs) ?_⟩
  exact lc_reads ji jg jt je hlen ok' (set_px ha h)
theorem tName_len {i : Nat} : ∀ d (ρ ρ1 : Env), tName i d ρ = .ok ρ1 → ρ1.length = ρ.length := fun d ρ ρ1 h => by
  unfold tName at h
  split at h
  · cases h; exact List.length_set
  · cases h
theorem tsNil_lenE : ∀ ds (ρ ρ1 : Env), tsNil ds ρ = .ok ρ1 → ρ1.length = ρ.length := fun ds ρ ρ1 h => by
  unfold tsNil at h
  split at h
  · cases h; rfl
  · cases h
theorem tsCons_lenE {g : TgC} {gs : List D → Env → Out Env} (h1 : ∀ d (ρ ρ1 : Env), g d ρ = .ok ρ1 → ρ1.length = ρ.length) (h2 : ∀ ds (ρ ρ1 : Env), gs ds ρ = .ok ρ1 → ρ1.length = ρ.length) : ∀ ds (ρ ρ1 : Env), tsCons g gs ds ρ = .ok ρ1 → ρ1.length = ρ.length := fun ds ρ ρ1 h => by
  unfold tsCons at h
  split at h
  · rename_i d ds
    cases q : g d ρ with
    | ok ρ2 => rw [q] at h; exact (h2 _ _ _ h).trans (h1 _ _ _ q)
    | exc x z => rw [q] at h; cases h
    | bad => rw [q] at h; cases h
  · cases h
theorem tTup_lenE {gs : List D → Env → Out Env} (h2 : ∀ ds (ρ ρ1 : Env), gs ds ρ = .ok ρ1 → ρ1.length = ρ.length) : ∀ d (ρ ρ1 : Env), tTup gs d ρ = .ok ρ1 → ρ1.length = ρ.length := fun d ρ ρ1 h => by
  unfold tTup at h
  split at h
  · exact h2 _ _ _ h
  · cases h
def cPar (i j : Nat) (fa fb : ECode) : SCode := fun ρ => (fa ρ).bind fun p => (fb p.2).bind fun q => (Out.of (q.1.keep q.2)).bind fun r => (Out.of (p.1.keep r.2)).bind fun s =>
  if i < s.2.length ∧ j < s.2.length then .ok (.nx ((s.2.set i (some s.1)).set j (some r.1))) else .bad
end
end J
namespace J
open PySem PySem.Spec PyProof.Rows L2
section
variable {K : PySem.W.Frag} {mg : Str → Option Value} {T T' : Tp} {W : WX} {ρ ρ' : Env} {σ σ' : L2.St} {F F' H H' : Hp} {fps fps' : Fps}
theorem s_stay {sv : SV} {v : V} {fp : List Addr} (h : RepS K mg F H sv v fp) (hd : ∀ x ∈ fp, ¬InF fps x) (t : Tr K mg T σ F H fps ρ' σ' F' H' fps') : RepS K mg F' H' sv v fp ∧ ∀ x ∈ fp, ¬InF fps' x := by
  have f : ∀ x ∈ fp, F' x = none ∧ H' x = H x ∧ ¬InF fps' x := fun x hx => by
    obtain ⟨f0, o, ho⟩ := h.out x hx
    have k := t.hold ho (hd x hx) f0
    exact ⟨k.2.2, by rw [k.1, ho], k.2.1⟩
  exact ⟨h.frame t.mono fun x hx => ⟨(f x hx).1, (f x hx).2.1⟩, fun x hx => (f x hx).2.2⟩
end
section
variable {X : Cx} {T T' : Tp} {W : WX} {a b c e o : Expr} {es : List Expr} {pos p1 : Pos} {fa fb : ECode}
theorem js_par {i j : Nat} {x y : Str} {px py pt : Pos} {kt k2 pt2} (hc : X.calm = true) (hN : X.N.Nodup) (hi : X.N[i]? = some x) (hj : X.N[j]? = some y) (hij : i ≠ j)
    (hx : X.env.scope.names.lookup x = some .local) (hy : X.env.scope.names.lookup y = some .local) (hai : T.asg i = true) (haj : T.asg j = true) (ja : JX X T W a fa) (jb : JX X T W b fb)
    (hw : swappedStores [.Tuple [.Name x px, .Name y py] kt pt] (.Tuple [a, b] k2 pt2) X.env = pure (some [x, y]))
    (hs : swapsWithSole [.Tuple [.Name x px, .Name y py] kt pt] (.Tuple [a, b] k2 pt2) pos.line X.env = pure false := by rfl)
    (hs1 : starEach [a, b] X.env = (false, eval a X.env) :: starEach [b] X.env := by rfl) (hs2 : starEach [b] X.env = [(false, eval b X.env)] := by rfl) :
    JS X T W (.Assign [.Tuple [.Name x px, .Name y py] kt pt] (.Tuple [a, b] k2 pt2) pos) (cPar i j fa fb) := by
  refine ⟨fun ρ σ F H fps D ok h => WS.of (ps_par hc hN hi hj hij hx hy (pa_cons (WE.pe X a) (pa_cons (WE.pe X b) pa_nil hs2) hs1) hw hs) ?_⟩
  refine ja.next ok FP.st h fun av ρ1 v F1 H1 fps1 t1 ra h1 => ?_
  refine jb.next t1.ok (FP.st_from t1) h1 fun bv ρ2 w F2 H2 fps2 t2 rb h2 => ?_
  refine ⟨v, w, rfl, ?_⟩
  dsimp only at h2
  cases qb : bv.keep ρ2 with
  | none => rw [qb] at h2; exact h2.elim
  | some z =>
    obtain ⟨sb, ρ3⟩ := z
    rw [qb] at h2
    dsimp only [Out.of_some, Out.bind_ok] at h2
    cases qa : av.keep ρ3 with
    | none => rw [qa] at h2; exact h2.elim
    | some z =>
      obtain ⟨sa, ρ4⟩ := z
      rw [qa] at h2
      dsimp only [Out.of_some, Out.bind_ok] at h2
      split at h2
      · rename_i hl
        obtain ⟨F3, fps3, fpb, t3, sB, dB, nB⟩ := keep_ok t2 rb qb
        -- both are there
        have key : ∃ F4 fps4 fpa, Tr X.K X.mg T σ F H fps ρ4 σ F4 H2 fps4 ∧ RepS X.K X.mg F4 H2 sa v fpa ∧ (∀ x ∈ fpa, ¬InF fps4 x) ∧ (∀ x ∈ fpa, NewTo fps H x) ∧ RepS X.K X.mg F4 H2 sb w fpb ∧ (∀ x ∈ fpb, ¬InF fps4 x) ∧ ∀ x ∈ fpa, x ∉ fpb := by
          have oth : ∀ d, av.frz ρ3 = some d → sa = .d d.1 → ρ4 = d.2 → (∀ {N N' : Addr → Prop} {σ F H fps}, RepA X.K X.mg T N σ F H fps av v → RepA X.K X.mg T N' σ F H fps av v) → ∃ F4 fps4 fpa, Tr X.K X.mg T σ F H fps ρ4 σ F4 H2 fps4 ∧ RepS X.K X.mg F4 H2 sa v fpa ∧ (∀ x ∈ fpa, ¬InF fps4 x) ∧ (∀ x ∈ fpa, NewTo fps H x) ∧ RepS X.K X.mg F4 H2 sb w fpb ∧ (∀ x ∈ fpb, ¬InF fps4 x) ∧ ∀ x ∈ fpa, x ∉ fpb := fun d e1 e2 e3 hN => by
            subst e2 e3
            obtain ⟨F4, fps4, t4, r4, m4⟩ := frz_ok (Tr.refl (T := T) t3.ok) (hN (ra.stay t3)) e1
            obtain ⟨sB', dB'⟩ := s_stay sB dB t4
            exact ⟨F4, fps4, [], (t1.trans t3).trans t4, ⟨r4, rfl⟩, fun x hx => absurd hx (by simp), fun x hx => absurd hx (by simp), sB', dB', fun x hx => absurd hx (by simp)⟩
          have oth' : (av.frz ρ3).map (fun p => (SV.d p.1, p.2)) = some (sa, ρ4) → ∃ d, av.frz ρ3 = some d ∧ sa = .d d.1 ∧ ρ4 = d.2 := fun e => by
            cases q : av.frz ρ3 with
            | none => rw [q] at e; cases e
            | some d =>
              rw [q] at e
              simp only [Option.map_some, Option.some.injEq, Prod.mk.injEq] at e
              exact ⟨d, rfl, e.1.symm, e.2.symm⟩
          cases av with
          | o wa =>
            cases qa
            obtain ⟨p, fpa, rfl, h1, nd, dA, nA⟩ := ra
            obtain ⟨sA', dA'⟩ := s_stay (sv := .o wa) ⟨p, rfl, h1, nd⟩ dA t3
            refine ⟨F3, fps3, fpa, t1.trans t3, sA', dA', nA, sB, dB, fun x hx hx2 => ?_⟩
            rcases nB x hx2 with z | z
            · exact dA x hx z
            · obtain ⟨_, o, ho⟩ := h1.out x hx
              rw [ho] at z; cases z
          | d x => obtain ⟨d, e1, e2, e3⟩ := oth' qa; exact oth d e1 e2 e3 fun r => r
          | s k => obtain ⟨d, e1, e2, e3⟩ := oth' qa; exact oth d e1 e2 e3 fun r => r
          | g k y => obtain ⟨d, e1, e2, e3⟩ := oth' qa; exact oth d e1 e2 e3 fun r => r
        obtain ⟨F4, fps4, fpa, t4, sA, dA, nA, sB', dB', dAB⟩ := key
        have t5 := t4.store hl.1 hai sA dA nA
        have t6 := t5.store (i := j) (sv := sb) (v := w) (fp := fpb) (by rw [List.length_set]; exact hl.2) haj sB' (fun x hx ⟨k, hk⟩ => by
          dsimp only at hk
          split at hk
          · exact dAB x hk hx
          · exact dB' x hx ⟨k, hk⟩) (fun x hx => NewTo.from t1 (nB x hx))
        exact h2 _ _ _ _ t6
      · exact h2.elim
def restF (i : Nat) (ds : List D) : Out Flow → Out Flow
  | .ok (.nx ρ) => .ok (.nx (ρ.set i (some (.o (.b (.l ds))))))
  | .ok (.bk ρ) => .ok (.bk (ρ.set i (some (.o (.b (.l ds))))))
  | .ok (.ct ρ) => .ok (.ct (ρ.set i (some (.o (.b (.l ds))))))
  | .ok (.rt av ρ) => .ok (.rt av (ρ.set i (some (.o (.b (.l ds))))))
  | .exc x ρ => .exc x (ρ.set i (some (.o (.b (.l ds)))))
  | .bad => .bad
def cForH (i : Nat) (g : TgC) (f : SCode) : SCode := fun ρ => match ρ[i]? with
  | some (some (.o (.b (.l ds)))) => restF i ds (forF g f ds (ρ.set i none))
  | _ => cFor (cItems (cVar i)) g f ρ
def fpsN (i : Nat) (fps : Fps) : Fps := fun k => if k = i then [] else fps k
theorem inF_N {i : Nat} {fps : Fps} {a : Addr} (h : InF (fpsN i fps) a) : InF fps a := by
  obtain ⟨k, hk⟩ := h
  unfold fpsN at hk
  split at hk
  · cases hk
  · exact ⟨k, hk⟩
theorem Ok.hide {K : PySem.W.Frag} {mg : Str → Option Value} {ρ : Env} {σ : L2.St} {F H : Hp} {fps : Fps} (ok : Ok K mg ρ σ F H fps) (i : Nat) : Ok K mg (ρ.set i none) σ F H (fpsN i fps) := by
  refine ⟨ok.sub, by rw [List.length_set]; exact ok.len, fun k sv h => ?_, fun k h => ?_, fun k j a hkj h1 h2 => ?_⟩
  · by_cases hk : i = k
    · subst hk
      by_cases hl : i < ρ.length
      · rw [List.getElem?_set_self hl] at h; cases h
      · rw [List.getElem?_eq_none (by rw [List.length_set]; omega)] at h; cases h
    · rw [List.getElem?_set_ne hk] at h
      obtain ⟨u, e, r⟩ := ok.slot k sv h
      exact ⟨u, e, by unfold fpsN; rw [if_neg (Ne.symm hk)]; exact r⟩
  · unfold fpsN
    by_cases hk : k = i
    · rw [if_pos hk]
    · rw [if_neg hk]
      exact ok.non k fun sv z => h sv (by rw [List.getElem?_set_ne (Ne.symm hk)]; exact z)
  · unfold fpsN at h1 h2
    split at h1
    · cases h1
    · split at h2
      · cases h2
      · exact ok.sep k j a hkj h1 h2
/-- the slot is shown again -/
theorem Tr.unhide {K : PySem.W.Frag} {mg : Str → Option Value} {ρ ρ' : Env} {σ σ' : L2.St} {F F' H H' : Hp} {fps fps' : Fps} {i : Nat} {ds : List D} {a : Addr} {vs : List V} (ok : Ok K mg ρ σ F H fps) (hi : ρ[i]? = some (some (.o (.b (.l ds))))) (ha : σ[i]? = some (some (.ref a))) (hf : fps i = [a]) (e : H a = some (.lst vs)) (r : Reps K mg F ds vs)
    (h0 : T'.asg i = false) (hk : ∀ y, T.kf y = true → T'.kf y = true) (hs : ∀ k, T.asg k = false → T'.asg k = false) (t : Tr K mg T' σ F H (fpsN i fps) ρ' σ' F' H' fps') : Tr K mg T σ F H fps (ρ'.set i (some (.o (.b (.l ds))))) σ' F' H' (fun k => if k = i then [a] else fps' k) := by
  have nh : ¬InF (fpsN i fps) a := fun ⟨k, z⟩ => by
    unfold fpsN at z
    split at z
    · cases z
    · rename_i hki; exact ok.sep k i a hki z (by rw [hf]; simp)
  have fa : F a = none := (ok.inF ⟨i, by rw [hf]; simp⟩).1
  obtain ⟨e1, n1, f1⟩ := t.hold e nh fa
  have hl : i < ρ'.length := by
    rw [t.ok.len]
    have := t.sl i h0
    rw [ha] at this
    exact (List.getElem?_eq_some_iff.mp this).1
  refine ⟨⟨t.ok.sub, by rw [List.length_set]; exact t.ok.len, fun k sv h => ?_, fun k h => ?_, fun k j b hkj h1 h2 => ?_⟩, t.mono, fun b o h hn => t.keep b o h fun z => hn (inF_N z), fun b o h => ?_, fun b ⟨k, h⟩ => ?_, fun k hk' => t.sl k (hs k hk'), fun b C dx fs h => ?_⟩
  · by_cases hki : i = k
    · subst hki
      rw [List.getElem?_set_self hl] at h
      cases h
      refine ⟨.ref a, (t.sl i h0).trans ha, a, rfl, ?_, ?_⟩
      · rw [if_pos rfl]; exact ⟨rfl, f1, vs, e1, r.mono t.mono⟩
      · rw [if_pos rfl]; simp
    · rw [List.getElem?_set_ne hki] at h
      obtain ⟨u, e2, r2⟩ := t.ok.slot k sv h
      exact ⟨u, e2, by rw [if_neg (Ne.symm hki)]; exact r2⟩
  · by_cases hki : i = k
    · subst hki; exact absurd (List.getElem?_set_self hl) (h _)
    · rw [if_neg (Ne.symm hki)]
      refine t.ok.non k fun sv z => h sv ?_
      rw [List.getElem?_set_ne hki]; exact z
  · by_cases hki : k = i
    · rw [if_pos hki] at h1
      rw [if_neg (fun z => hkj (hki.trans z.symm))] at h2
      rw [List.mem_singleton.mp h1] at h2
      exact n1 ⟨j, h2⟩
    · rw [if_neg hki] at h1
      by_cases hji : j = i
      · rw [if_pos hji] at h2
        rw [List.mem_singleton.mp h2] at h1
        exact n1 ⟨k, h1⟩
      · rw [if_neg hji] at h2
        exact t.ok.sep k j b hkj h1 h2
  · rcases t.frz b o h with z | z | z
    · exact .inl z
    · exact .inr (.inl (inF_N z))
    · exact .inr (.inr z)
  · dsimp only at h
    split at h
    · rw [List.mem_singleton.mp h]; exact .inl ⟨i, by rw [hf]; simp⟩
    · exact (t.own b ⟨k, h⟩).imp inF_N id
  · obtain ⟨d1, f1, e2, k1⟩ := t.fld b C dx fs h
    exact ⟨d1, f1, e2, fun f hf => k1 f (hk f hf)⟩
theorem RepA.weak {K : PySem.W.Frag} {mg : Str → Option Value} {N N' : Addr → Prop} {σ : L2.St} {F H : Hp} {fps fps' : Fps} {av : AV} {v : V} (h : RepA K mg T' N σ F H fps av v) (hk : ∀ y, T'.kf y = true → T.kf y = true) (h1 : ∀ x, N x → N' x) (h2 : ∀ x, N x → ¬InF fps x → ¬InF fps' x) : RepA K mg T N' σ F H fps' av v := by
  cases av with
  | d x => exact h
  | s j => exact h
  | g j y => exact ⟨hk y h.1, h.2⟩
  | o w =>
    obtain ⟨a, fp, e, q1, q2, q3, q4⟩ := h
    exact ⟨a, fp, e, q1, q2, fun x hx => h2 x (q4 x hx) (q3 x hx), fun x hx => h1 x (q4 x hx)⟩
variable {tg : Expr} {sts : List Stmt} {f : SCode} {g : TgC}
/-- the shown state behind a walk in hiding -/
theorem PSt.unhide {ρ : Env} {σ : L2.St} {F H : Hp} {fps : Fps} {i : Nat} {ds : List D} {a : Addr} {vs : List V} {r : Out Flow} {D : Ends} (ok : Ok X.K X.mg ρ σ F H fps) (hi : ρ[i]? = some (some (.o (.b (.l ds))))) (ha : σ[i]? = some (some (.ref a))) (hf : fps i = [a]) (e : H a = some (.lst vs)) (rs : Reps X.K X.mg F ds vs)
    (h0 : T'.asg i = false) (hk : ∀ y, T.kf y = T'.kf y) (hs : ∀ k, T.asg k = false → T'.asg k = false) (h : PSt X.K X.mg T W σ F H fps (restF i ds r) D) : PSt X.K X.mg T' W σ F H (fpsN i fps) r D := by
  have hk1 : ∀ y, T.kf y = true → T'.kf y = true := fun y z => by rw [← hk y]; exact z
  cases r with
  | ok p =>
    cases p with
    | nx ρ' => exact fun σ' F' H' fps' t => h _ _ _ _ (Tr.unhide ok hi ha hf e rs h0 hk1 hs t)
    | bk ρ' => exact fun σ' F' H' fps' t => h _ _ _ _ (Tr.unhide ok hi ha hf e rs h0 hk1 hs t)
    | ct ρ' => exact fun σ' F' H' fps' t => h _ _ _ _ (Tr.unhide ok hi ha hf e rs h0 hk1 hs t)
    | rt av ρ' =>
      intro v σ' F' H' fps' t ra
      refine h v _ _ _ _ (Tr.unhide ok hi ha hf e rs h0 hk1 hs t) (ra.weak (fun y z => by rw [hk y]; exact z) (fun x hx => hx.imp inF_N id) fun x hx hn => ?_)
      rintro ⟨k, z⟩
      dsimp only at z
      split at z
      · rw [List.mem_singleton.mp z] at hx
        rcases hx with ⟨k, q⟩ | q
        · unfold fpsN at q
          split at q
          · cases q
          · rename_i hki; exact ok.sep k i a hki q (by rw [hf]; simp)
        · rw [e] at q; cases q
      · exact hn ⟨k, z⟩
  | exc x ρ' => exact fun cls d σ' F' H' fps' t xr => h cls d _ _ _ _ (Tr.unhide ok hi ha hf e rs h0 hk1 hs t) xr
  | bad => exact h
theorem js_forH {i : Nat} {x : Str} (hp : PassesOwn (model X.prog X.w) X.A X.env X.xe) (hc : X.calm = true) (hN : X.N[i]? = some x) (h0 : T'.asg i = false) (hk : ∀ y, T.kf y = T'.kf y) (hs' : ∀ k, T.asg k = false → T'.asg k = false) (jg : JG X T tg g) (jb : JSs X T W sts f) (jg' : JG X T' tg g) (jb' : JSs X T' W sts f)
    (hv : Vis X.env.scope x := by first | exact Or.inl rfl | exact Or.inr (Or.inl rfl) | exact Or.inr (Or.inr rfl)) (hd : (x == ("__debug__" : Str)) = false := by decide)
    (hcd : (x == ("__classdict__" : Str)) = false := by decide) (hs : ∀ y, foldedSetIterable (.Name x p1) X.env y = pure y := by intro _; rfl) :
    JS X T W (.For tg (.Name x p1) sts [] pos) (cForH i g f) := by
  have plain := js_for (pos := pos) hp hc (ji_items (tg := tg) (jx_var (T := T) (W := W) (pos := p1) hN hv hd hcd)) jg jb hs
  refine ⟨fun ρ σ F H fps D ok h => ?_⟩
  unfold cForH at h
  split at h
  · rename_i ds hx
    obtain ⟨u, e1, a, rfl, hO, nd⟩ := ok.slot i _ hx
    obtain ⟨hf, fa, vs, e, rs⟩ := hO
    have okh := ok.hide i
    have nh : ¬InF (fpsN i fps) a := fun ⟨k, z⟩ => by
      unfold fpsN at z
      split at z
      · cases z
      · rename_i hki; exact ok.sep k i a hki z (by rw [hf]; simp)
    replace h := PSt.unhide (T' := T') ok hx e1 hf e rs h0 hk hs' h
    refine WS.of (ps_for hp hc (pi_list (pe_var hN hv hd hcd)) (WG.pg X tg) (WSs.pss X sts) hs) ?_
    refine ⟨_, e1, a, rfl, ⟨vs, .of e⟩, ?_⟩
    refine ⟨fun n m σ2 H2 => m = ds.length - n ∧ n ≤ ds.length ∧ ∃ ρ2 F2 fps2, Tr X.K X.mg T' σ F H (fpsN i fps) ρ2 σ2 F2 H2 fps2 ∧ PSt X.K X.mg T' W σ F H (fpsN i fps) (forF g f (ds.drop n) ρ2) D, ⟨ds.length, by simp, Nat.zero_le _, _, F, _, Tr.refl okh, by simpa using h⟩, ?_⟩
    rintro n m σ2 H2 ⟨rfl, hi, ρ2, F2, fps2, t2, h2⟩
    have e2 := (t2.hold e nh fa).1
    by_cases hlt : n < ds.length
    · refine .inr ?_
      have hd : ds.drop n = ds[n] :: ds.drop (n + 1) := List.drop_eq_getElem_cons hlt
      rw [hd] at h2
      obtain ⟨v0, q1, q2⟩ := rs.get (List.getElem?_eq_getElem hlt)
      refine ⟨⟨vs, v0, .of e2, q1⟩, fun σ' H' => ∃ ρ' F' fps', Tr X.K X.mg T' σ F H (fpsN i fps) ρ' σ' F' H' fps' ∧ PSt X.K X.mg T' W σ F H (fpsN i fps) (forF g f (ds.drop (n + 1)) ρ') D, fun σ' H' ⟨ρ', F', fps', w1, w3⟩ => ⟨ds.length - (n + 1), by omega, rfl, hlt, ρ', F', fps', w1, w3⟩, fun x H3 ⟨eH, hy⟩ => ?_⟩
      subst eH
      have hy := hy vs (.of e2)
      rw [q1] at hy
      cases hy
      unfold forF at h2
      cases qg : g ds[n] ρ2 with
      | exc x z => rw [qg] at h2; exact h2.elim
      | bad => rw [qg] at h2; exact h2.elim
      | ok ρ3 =>
        rw [qg] at h2
        refine jg'.run ρ2 ρ3 σ2 F2 _ fps2 ds[n] v0 _ t2.ok (Rep.mono t2.mono _ _ q2) qg fun σ4 F4 H4 fps4 t4 => ?_
        have t04 := t2.trans t4
        refine jb'.run ρ3 σ4 F4 H4 fps4 _ t4.ok ?_
        dsimp only at h2
        cases qf : f ρ3 with
        | ok p =>
          rw [qf] at h2
          cases p with
          | nx ρ' => exact fun σ' F' H' fps' u => ⟨ρ', F', fps', t04.trans u, h2⟩
          | ct ρ' => exact fun σ' F' H' fps' u => ⟨ρ', F', fps', t04.trans u, h2⟩
          | bk ρ' => exact fun σ' F' H' fps' u => h2 σ' F' H' fps' (t04.trans u)
          | rt av ρ' => exact fun v σ' F' H' fps' u ra => h2 v σ' F' H' fps' (t04.trans u) (ra.imp fun a => NewTo.from t04)
        | exc x ρ' => rw [qf] at h2; exact fun cls d σ' F' H' fps' u xr => h2 cls d σ' F' H' fps' (t04.trans u) xr
        | bad => rw [qf] at h2; exact h2
    · have en : n = ds.length := by omega
      subst en
      refine .inl ⟨⟨vs, .of e2, by rw [← rs.length]; exact Nat.le_refl _⟩, ?_⟩
      rw [List.drop_length] at h2
      exact h2 σ2 F2 H2 fps2 t2
  · exact plain.run ρ σ F H fps D ok h
end
end J
namespace J
open PySem PySem.Spec PyProof.Rows L2
/-- what the parameters hold behind the call -/
def outsF (asg : Nat → Bool) : Nat → List SV → Env → Env
  | _, [], _ => []
  | i, .d x :: r, ρ => some (.d x) :: outsF asg (i + 1) r ρ
  | i, .o _ :: r, ρ => (if asg i then none else (ρ[i]?).join) :: outsF asg (i + 1) r ρ
  | i, .ex _ _ :: r, ρ => none :: outsF asg (i + 1) r ρ
/-- what is returned -/
def retOf : AV → Env → Option (AV × Env)
  | .d x, ρ => some (.d x, ρ)
  | .o w, ρ => some (.o w, ρ)
  | .s j, ρ => match ρ[j]? with
    | some (some (.d x)) => some (.d x, ρ)
    | some (some (.o w)) => some (.o w, ρ.set j none)
    | _ => none
  | .g j y, ρ => (AV.frz (.g j y) ρ).map fun p => (.d p.1, p.2)
def fnRun (np n : Nat) (asg : Nat → Bool) (body : SCode) : Fn := fun svs => if svs.length = np then
    (match body (svs.map some ++ List.replicate (n - np) none) with
    | .ok (.nx ρ) => .ok (.d .non, outsF asg 0 svs ρ)
    | .ok (.rt av ρ) => (match retOf av ρ with
      | some p => .ok (p.1, outsF asg 0 svs p.2)
      | none => .bad)
    | .exc x ρ => .exc x (outsF asg 0 svs ρ)
    | _ => .bad)
  else .bad
section
variable {K : PySem.W.Frag} {mg : Str → Option Value} {T T' : Tp} {W : WX} {ρ ρ' : Env} {σ σ' : L2.St} {F F' H H' : Hp} {fps fps' : Fps} {asg : Nat → Bool} {kf : Str → Bool} {svs : List SV} {vs : List V}
theorem outsF_len : ∀ (i : Nat) (svs : List SV) (ρ : Env), (outsF asg i svs ρ).length = svs.length
  | _, [], _ => rfl
  | i, .d x :: r, ρ => by simp [outsF, outsF_len (i + 1) r ρ]
  | i, .o _ :: r, ρ => by simp [outsF, outsF_len (i + 1) r ρ]
  | i, .ex _ _ :: r, ρ => by simp [outsF, outsF_len (i + 1) r ρ]
theorem outsF_get : ∀ (i : Nat) (svs : List SV) (ρ : Env) (k : Nat), (outsF asg i svs ρ)[k]? = (svs[k]?).map fun sv => match sv with
    | .d x => some (.d x)
    | .o _ => if asg (i + k) then none else (ρ[i + k]?).join
    | .ex _ _ => none
  | _, [], _, k => by simp [outsF]
  | i, .d x :: r, ρ, 0 => by simp [outsF]
  | i, .o _ :: r, ρ, 0 => by simp [outsF]
  | i, .ex _ _ :: r, ρ, 0 => by simp [outsF]
  | i, .ex _ _ :: r, ρ, k + 1 => by
    have := outsF_get (i + 1) r ρ k
    simp only [outsF, List.getElem?_cons_succ, this]
    rw [show i + 1 + k = i + (k + 1) from by omega]
  | i, .d x :: r, ρ, k + 1 => by
    have := outsF_get (i + 1) r ρ k
    simp only [outsF, List.getElem?_cons_succ, this]
    rw [show i + 1 + k = i + (k + 1) from by omega]
  | i, .o _ :: r, ρ, k + 1 => by
    have := outsF_get (i + 1) r ρ k
    simp only [outsF, List.getElem?_cons_succ, this]
    rw [show i + 1 + k = i + (k + 1) from by omega]
def fpsX (asg : Nat → Bool) (svs : List SV) (fps : Fps) : Fps := fun i => match svs[i]? with
  | some (.o _) => if asg i then [] else fps i
  | _ => []
theorem inF_X {a : Addr} (h : InF (fpsX asg svs fps) a) : InF fps a := by
  obtain ⟨i, hi⟩ := h
  unfold fpsX at hi
  split at hi
  · split at hi
    · cases hi
    · exact ⟨i, hi⟩
  · cases hi
theorem map_some_get {α : Type} {xs : List α} {i : Nat} {x : α} : (xs.map some)[i]? = some (some x) ↔ xs[i]? = some x := by
  rw [List.getElem?_map]
  cases xs[i]? <;> simp
/-- out of the body -/
theorem Tr.exit {z : List (Option V)} (ok : Ok K mg (svs.map some) (vs.map some) F H fps) (t : Tr K mg ⟨asg, kf⟩ (vs.map some ++ z) F H fps ρ' σ' F' H' fps') :
    Tr K mg ⟨fun _ => false, kf⟩ (vs.map some) F H fps (outsF asg 0 svs ρ') (vs.map some) F' H' (fpsX asg svs fps') := by
  have hl : svs.length = vs.length := by have := ok.len; simpa using this
  refine ⟨⟨t.ok.sub, by rw [outsF_len, List.length_map, hl], fun i sv h => ?_, fun i h => ?_, fun i j a hij h1 h2 => ?_⟩, t.mono, t.keep, t.frz, fun a h => t.own a (inF_X h), fun _ _ => rfl, t.fld⟩
  · rw [outsF_get, Nat.zero_add] at h
    cases q : svs[i]? with
    | none => rw [q] at h; cases h
    | some s0 =>
      rw [q] at h
      obtain ⟨v, e1, r1⟩ := ok.slot i s0 (map_some_get.mpr q)
      cases s0 with
      | d x =>
        cases h
        exact ⟨v, e1, Rep.mono t.mono _ _ r1.1, by unfold fpsX; rw [q]⟩
      | ex a y => cases h
      | o w =>
        replace h : (if asg i then none else (ρ'[i]?).join) = some sv := by simpa using h
        split at h
        · cases h
        · rename_i ha
          have h2 : ρ'[i]? = some (some sv) := by
            cases q2 : ρ'[i]? with
            | none => rw [q2] at h; cases h
            | some o => rw [q2] at h; have : o = some sv := h; rw [this]
          obtain ⟨u, e2, r2⟩ := t.ok.slot i sv h2
          have e3 := t.sl i (by simpa using ha)
          have hi : i < vs.length := by rw [← hl]; exact (List.getElem?_eq_some_iff.mp q).1
          rw [List.getElem?_append_left (by simpa using hi)] at e3
          refine ⟨u, by rw [← e3]; exact e2, ?_⟩
          unfold fpsX; rw [q]
          simp only [if_neg ha]
          exact r2
  · unfold fpsX
    split
    · rename_i w q
      split
      · rfl
      · rename_i ha
        refine t.ok.non i fun sv z => h sv ?_
        rw [outsF_get, Nat.zero_add, q]
        simp [ha, z]
    · rfl
  · have h1' : a ∈ fps' i := by
      unfold fpsX at h1
      split at h1
      · split at h1
        · cases h1
        · exact h1
      · cases h1
    have h2' : a ∈ fps' j := by
      unfold fpsX at h2
      split at h2
      · split at h2
        · cases h2
        · exact h2
      · cases h2
    exact t.ok.sep i j a hij h1' h2'
/-- the body's state -/
theorem Ok.enter {n : Nat} (ok : Ok K mg (svs.map some) (vs.map some) F H fps) (n : Nat) : Ok K mg (svs.map some ++ List.replicate n none) (vs.map some ++ List.replicate n none) F H fps := by
  have hl : svs.length = vs.length := by have := ok.len; simpa using this
  refine ⟨ok.sub, by simp [hl], fun i sv h => ?_, fun i h => ?_, ok.sep⟩
  · by_cases hi : i < svs.length
    · rw [List.getElem?_append_left (by simpa using hi)] at h
      obtain ⟨v, e, r⟩ := ok.slot i sv h
      exact ⟨v, by rw [List.getElem?_append_left (by simpa [← hl] using hi)]; exact e, r⟩
    · rw [List.getElem?_append_right (by simpa using hi), List.getElem?_replicate] at h
      split at h <;> cases h
  · refine ok.non i fun sv z => h sv ?_
    rw [List.getElem?_append_left (List.getElem?_eq_some_iff.mp z).1]; exact z
theorem Tr.dropS (t : Tr K mg T σ F H fps ρ' σ' F' H' fps') (j : Nat) : Tr K mg T σ F H fps (ρ'.set j none) σ' F' H' (fpsN j fps') :=
  ⟨t.ok.hide j, t.mono, t.keep, t.frz, fun a h => t.own a (inF_N h), t.sl, t.fld⟩
theorem retOf_ok {av av' : AV} {v : V} {ρ2 : Env} (t : Tr K mg T σ F H fps ρ' σ' F' H' fps') (ra : RepA K mg T (NewTo fps H) σ' F' H' fps' av v) (e : retOf av ρ' = some (av', ρ2)) :
    ∃ F2 fps2, Tr K mg T σ F H fps ρ2 σ' F2 H' fps2 ∧ ((∃ x, av' = .d x ∧ Rep K mg F2 x v) ∨ ∃ w a fp, av' = .o w ∧ v = .ref a ∧ RepO K mg F2 H' w a fp ∧ fp.Nodup ∧ (∀ x ∈ fp, ¬InF fps2 x) ∧ ∀ x ∈ fp, NewTo fps H x) := by
  cases av with
  | d x => cases e; exact ⟨F', fps', t, .inl ⟨x, rfl, ra⟩⟩
  | o w =>
    cases e
    obtain ⟨a, fp, q1, q2, q3, q4, q5⟩ := ra
    exact ⟨F', fps', t, .inr ⟨w, a, fp, rfl, q1, q2, q3, q4, q5⟩⟩
  | s j =>
    unfold retOf at e
    dsimp only at e
    split at e
    · rename_i x hx
      cases e
      obtain ⟨u, e1, r⟩ := t.ok.slot j _ hx
      have ra : σ'[j]? = some (some v) := ra
      rw [ra] at e1; cases e1
      exact ⟨F', fps', t, .inl ⟨x, rfl, r.1⟩⟩
    · rename_i w hx
      cases e
      obtain ⟨u, e1, a, rfl, r, nd⟩ := t.ok.slot j _ hx
      have ra : σ'[j]? = some (some v) := ra
      rw [ra] at e1; cases e1
      refine ⟨F', fpsN j fps', t.dropS j, .inr ⟨w, a, fps' j, rfl, rfl, r, nd, fun x hx z => ?_, fun x hx => t.own x ⟨j, hx⟩⟩⟩
      obtain ⟨k, hk⟩ := z
      unfold fpsN at hk
      split at hk
      · cases hk
      · rename_i hkj; exact t.ok.sep k j x hkj hk hx
    · cases e
  | g j y =>
    replace e : (AV.frz (.g j y) ρ').map (fun p => (AV.d p.1, p.2)) = some (av', ρ2) := e
    cases q : AV.frz (.g j y) ρ' with
    | none => rw [q] at e; cases e
    | some z =>
      obtain ⟨d, ρ3⟩ := z
      rw [q] at e
      cases e
      -- frozen in the body's end
      have ra' : RepA K mg ⟨fun _ => true, T.kf⟩ (NewTo fps' H') σ' F' H' fps' (.g j y) v := ra
      obtain ⟨F2, fps2, t2, r, m⟩ := frz_ok (Tr.refl (T := ⟨fun _ => true, T.kf⟩) t.ok) ra' q
      have t2' : Tr K mg T σ' F' H' fps' ρ3 σ' F2 H' fps2 := ⟨t2.ok, t2.mono, t2.keep, t2.frz, t2.own, fun _ _ => rfl, t2.fld⟩
      exact ⟨F2, fps2, t.trans t2', .inl ⟨d, rfl, r⟩⟩
/-- THE RULE: a def, by its body -/
theorem fnJ_of {P : Program} {w : World} {base : Heap} {x qual : Str} {params : Arguments} {body : List Stmt} {scope : Scope} {dvs : List V} {kws : List (Str × V)} {f : Addr} {fd : FuncData} {N ps : List Str} {k : Nat} {code : SCode}
    (Fd : FunD K x qual params body scope dvs kws f fd) (S : FnScope N ps scope)
    (hb : ∀ (cdv : Value) (A : Around) (outer : List PySem.Env) (s : Shared) (H : Hp) (E : XK), Room k (A.deeper (envOfC qual scope s.heap.objs.size f cdv)) →
      JSs (cxOf (L2.CX P w) P w K mg base N qual scope f cdv A outer s H E) ⟨asg, kf⟩ (fun c d _ H' => E c d H') body code) :
    FnJ P w K mg base kf (k + 1) f fd ps (fnRun ps.length N.length asg code) := by
  have hpl : ps.length ≤ N.length := by have := congrArg List.length S.pre; rw [List.length_take] at this; omega
  refine ⟨Fd.ok S (fun vs H Q E h => h.1) fun cdv A outer s H vs Q E hr h => ⟨_, WSs.pss _ body, ?_⟩, fun svs hl => by unfold fnRun; rw [if_neg hl]⟩
  obtain ⟨hl, F, svs, fps, ok, h⟩ := h
  have hs : svs.length = ps.length := by have := ok.len; simp at this; omega
  unfold fnRun at h
  rw [if_pos hs] at h
  have eS : L2.start N vs = vs.map some ++ List.replicate (N.length - ps.length) none := by unfold L2.start; rw [hl]
  rw [eS]
  refine (hb cdv A outer s H E hr).run (svs.map some ++ List.replicate (N.length - ps.length) none) _ F H fps _ (ok.enter (n := 0) _) ?_
  cases q : code (svs.map some ++ List.replicate (N.length - ps.length) none) with
  | bad => rw [q] at h; exact h
  | exc xx ρ' =>
    rw [q] at h
    exact fun cls d σ' F' H' fps' t xr => h cls d F' H' _ (t.exit ok) xr
  | ok fl =>
    rw [q] at h
    cases fl with
    | nx ρ' => exact fun σ' F' H' fps' t => h .non F' H' _ (t.exit ok) rfl
    | bk ρ' => exact h.elim
    | ct ρ' => exact h.elim
    | rt av ρ' =>
      intro v σ' F' H' fps' t ra
      dsimp only at h
      split at h
      · rename_i p ep
        obtain ⟨av', ρ2⟩ := p
        obtain ⟨F2, fps2, t2, r⟩ := retOf_ok t ra ep
        rcases r with ⟨x, rfl, r⟩ | ⟨w, a, fp, rfl, rfl, q1, q2, q3, q4⟩
        · exact h v F2 H' _ (t2.exit ok) r
        · exact h (.ref a) F2 H' _ (t2.exit ok) ⟨a, fp, rfl, q1, q2, fun x hx z => q3 x hx (inF_X z), q4⟩
      · exact h.elim
/-- anything where nothing is told -/
theorem js_bad {X : Cx} {st : Stmt} : JS X T W st (fun _ => .bad) := ⟨fun ρ σ F H fps D ok h => h.elim⟩
theorem jx_bad {X : Cx} {e : Expr} : JX X T W e (fun _ => .bad) := ⟨fun ρ σ F H fps D ok h => h.elim⟩
theorem jd_bad {X : Cx} {e : Expr} : JD X T W e (fun _ => .bad) := ⟨fun ρ σ F H fps D ok h => h.elim⟩
end
end J
namespace J
open PySem PySem.Spec PyProof.Rows L2
def Call2 (K : PySem.W.Frag) (mg : Str → Option Value) (r : List V → Hp → VK → Prop) (g : D → D → Option AV) : Prop :=
  ∀ (F H : Hp) (x y : V) (dx dy : D) (Q : VK), Sub F H → RepT K mg F H dx x → RepT K mg F H dy y → GP K mg F H (g dx dy) Q → r [x, y] H Q
def max2D : D → D → Option AV
  | .int i, .int j => some (.d (.int (if j > i then j else i)))
  | _, _ => none
def min2D : D → D → Option AV
  | .int i, .int j => some (.d (.int (if j < i then j else i)))
  | _, _ => none
/-- a built-in type, by its name -/
def tyNm : D → Option String
  | .non => some "NoneType"
  | .bl _ => some "bool"
  | .int _ => some "int"
  | .str _ => some "str"
  | .tup _ => some "tuple"
  | .wtp _ => some "tuple"
  | .lst _ => some "list"
  | .scr _ => some "list"
  | .dic false _ _ => some "dict"
  | _ => none
def isiB (T t : String) : Bool := T == t || (T == "int" && t == "bool")
def isiD (T : String) (d : D) : Option AV := match tyNm d with
  | some t => some (.d (.bl (isiB T t)))
  | none => none
def isiOk (T : String) : Prop := ∀ t ∈ ["NoneType", "bool", "int", "str", "tuple", "list", "dict"], kitB t T = some (isiB T t)
theorem isi_int : isiOk "int" := by unfold isiOk; decide +kernel
theorem isi_bool : isiOk "bool" := by unfold isiOk; decide +kernel
theorem isi_str : isiOk "str" := by unfold isiOk; decide +kernel
theorem isi_tuple : isiOk "tuple" := by unfold isiOk; decide +kernel
theorem isi_list : isiOk "list" := by unfold isiOk; decide +kernel
theorem isi_dict : isiOk "dict" := by unfold isiOk; decide +kernel
section
variable {X : Cx} {T : Tp} {W : WX} {a b c e : Expr} {es : List Expr} {pos p p1 p2 : Pos} {fa fb : ECode}
theorem call2_max : Call2 X.K X.mg (fun xs H Q => ∃ i j, xs = [.int i, .int j] ∧ Q (.int (if j > i then j else i)) H) max2D := by
  intro F H x y dx dy Q s hx hy h
  unfold max2D at h
  split at h
  · rename_i i j
    rw [show x = .int i from hx, show y = .int j from hy]
    exact ⟨i, j, rfl, h.same s rfl⟩
  · exact h.elim
theorem call2_min : Call2 X.K X.mg (fun xs H Q => ∃ i j, xs = [.int i, .int j] ∧ Q (.int (if j < i then j else i)) H) min2D := by
  intro F H x y dx dy Q s hx hy h
  unfold min2D at h
  split at h
  · rename_i i j
    rw [show x = .int i from hx, show y = .int j from hy]
    exact ⟨i, j, rfl, h.same s rfl⟩
  · exact h.elim
theorem jx_b2 {id : String} {x : Str} {r : List V → Hp → VK → Prop} {g : D → D → Option AV} (hc : CallR X (.builtin id) r) (hr : Call2 X.K X.mg r g) (hg : Gl X x) (hm : X.mg x = none) (hv : bootBuiltins x = some (.builtin id)) (ja : JX X T W a fa) (jb : JX X T W b fb)
    (hs : starEach [a, b] X.env = (false, eval a X.env) :: starEach [b] X.env := by rfl) (hs2 : starEach [b] X.env = [(false, eval b X.env)] := by rfl) (hpl : (backTo pos (starEach [b] X.env)).any (·.1) = false := by rfl) (hn : x ≠ "__name__" := by decide) (hdb : (x == ("__debug__" : Str)) = false := by decide) :
    JX X T W (.Call (.Name x p) [a, b] [] pos) (cBin g fa fb) := by
  refine ⟨fun ρ σ F H fps Q ok h => WE.of (pe_callB hc hg hm hv (pa_cons (WE.pe X a) (pa_cons (WE.pe X b) pa_nil hs2) hs) hn hdb hs hpl) ?_⟩
  refine ja.next ok FP.px h fun av ρ1 v F1 H1 fps1 t1 ra h1 => ?_
  refine jb.next t1.ok FP.px (PX.from t1 h1) fun bv ρ2 u F2 H2 fps2 t2 rb h2 => ?_
  have ra := ra.stay t2
  replace h2 := PX.from t2 h2
  dsimp only at h2
  unfold view2 at h2
  split at h2
  · rename_i x y ex ey
    exact hr F2 H2 v u x y Q t2.ok.sub (av.view_ok t2.ok ra ex) (bv.view_ok t2.ok rb ey) (GP.of_px t2.ok h2)
  · exact h2.elim
theorem tyX_of {K : PySem.W.Frag} {mg : Str → Option Value} {F H : Hp} {d : D} {v : V} {t : String} (s : Sub F H) (h : RepT K mg F H d v) (e : tyNm d = some t) : TyX K H v (.type t) := by
  have tp : ∀ {a vs}, SqT K H a vs → TyX K H (.ref a) (.type "tuple") := fun {a vs} q => by
    rcases q with (q | ⟨o, q⟩) | ⟨o, _, _, h1, h2, _⟩
    · exact .base (.tup q)
    · exact .fTuple q
    · exact .kTuple h1 h2
  have ls : ∀ {a vs}, SqL K H a vs → TyX K H (.ref a) (.type "list") := fun {a vs} q => by
    rcases q with (q | ⟨o, q⟩) | ⟨o, _, _, h1, h2, _⟩
    · exact .base (.lst q)
    · exact .base (.frz q)
    · exact .kList h1 h2
  cases d with
  | non => cases e; rw [show v = .non from h]; exact .base .non
  | bl b => cases e; rw [show v = .bl b from h]; exact .base (.bl b)
  | int i => cases e; rw [show v = .int i from h]; exact .base (.int i)
  | str x => cases e; rw [show v = .str x from h]; exact .base (.str x)
  | tup xs => cases e; obtain ⟨a, vs, rfl, h1, h2⟩ := h; exact tp (.of (s.tup h1))
  | wtp xs => cases e; obtain ⟨a, vs, rfl, h1, h2⟩ := h; exact tp (sqT_sub s h1)
  | lst xs => cases e; obtain ⟨a, vs, rfl, h1, h2⟩ := h; exact ls (.of h1)
  | scr xs => cases e; obtain ⟨a, vs, rfl, h1, h2⟩ := h; exact ls (sqL_sub s h1)
  | dic tt ks xs =>
    cases tt with
    | false =>
      cases e
      obtain ⟨a, o, us, rfl, h1, h2, h3⟩ := h
      obtain ⟨kvs, rfl, _⟩ := h2
      rcases h1 with h1 | ⟨ob, h1⟩
      · exact .base (.dK h1)
      · exact .fDict h1
    | true => cases e
  | ins c ns vs => cases e
/-- isinstance(a, T) -/
theorem jx_isi {Tn : String} {x : Str} (hT : isiOk Tn) (hg0 : Gl X "isinstance") (hm0 : X.mg "isinstance" = none) (hv0 : bootBuiltins "isinstance" = some (.builtin "isinstance")) (hg : Gl X x) (hm : X.mg x = none) (hv : bootBuiltins x = some (.type Tn)) (ja : JX X T W a fa)
    (hs : starEach [a, .Name x p2] X.env = (false, eval a X.env) :: starEach [.Name x p2] X.env := by rfl) (hs2 : starEach [.Name x p2] X.env = [(false, eval (.Name x p2) X.env)] := by rfl) (hpl : (backTo pos (starEach [.Name x p2] X.env)).any (·.1) = false := by rfl)
    (hn : x ≠ "__name__" := by decide) (hd : (x == ("__debug__" : Str)) = false := by decide) : JX X T W (.Call (.Name "isinstance" p1) [a, .Name x p2] [] pos) (cUn (isiD Tn) fa) := by
  refine ⟨fun ρ σ F H fps Q ok h => WE.of (pe_callB call_isi hg0 hm0 hv0 (pa_cons (WE.pe X a) (pa_cons (pe_bltn (v := .ty Tn) hg hm hv rfl hn hd) pa_nil hs2) hs) (by decide) (by decide) hs hpl) ?_⟩
  refine ja.next ok FP.px h fun av ρ1 v F1 H1 fps1 t1 ra h1 => ?_
  replace h1 := PX.from t1 h1
  dsimp only at h1
  unfold view1 at h1
  split at h1
  · rename_i d ed
    have rd := av.view_ok t1.ok ra ed
    unfold isiD at h1
    split at h1
    · rename_i t et
      have hm : t ∈ ["NoneType", "bool", "int", "str", "tuple", "list", "dict"] := by
        cases d <;> first | (cases et; simp; done) | (cases et; done) | (rename_i tt _ _; cases tt <;> first | (cases et; simp; done) | (cases et; done))
      exact ⟨v, .ty Tn, .type t, .type Tn, isiB Tn t, rfl, .ty Tn, tyX_of t1.ok.sub rd et, kit_ty (hT t hm), h1.ret t1.ok rfl⟩
    · exact h1.elim
  · exact h1.elim
def rgItems : List D → Option (List D)
  | [.int j] => if rg62 j && decide (j ≤ 16777216) then some (rangeD 0 j.toNat) else none
  | [.int i, .int j] => if rg62 i && rg62 j && decide ((j - i).toNat ≤ 16777216) then some (rangeD i (j - i).toNat) else none
  | _ => none
def cLstRg (g : Env → Out (List D × Env)) : ECode := fun ρ => (g ρ).bind fun q => (Out.of (rgItems q.1)).bind fun ds => .ok (.o (.b (.l ds)), q.2)
def cTupRg (g : Env → Out (List D × Env)) : ECode := fun ρ => (g ρ).bind fun q => (Out.of (rgItems q.1)).bind fun ds => .ok (.d (.tup ds), q.2)
theorem reps_rg {K : PySem.W.Frag} {mg : Str → Option Value} {F : Hp} (a b : Int) : Reps K mg F (rangeD a (b - a).toNat) (rgV a b) := by
  unfold rangeD rgV
  induction (List.range (b - a).toNat) with
  | nil => exact .nil
  | cons i r ih => exact .cons rfl ih
theorem rg_end {K : PySem.W.Frag} {mg : Str → Option Value} {F : Hp} {xs ds : List D} {vs : List V} (r : Reps K mg F xs vs) (e : rgItems xs = some ds) : ∃ a b, RgOk a b ∧ Reps K mg F ds (rgV a b) ∧ ((xs.length = 1 ∧ vs = [.int b] ∧ a = 0) ∨ (xs.length = 2 ∧ vs = [.int a, .int b])) := by
  unfold rgItems at e
  split at e
  · rename_i j
    split at e
    · rename_i hc
      simp only [Bool.and_eq_true, decide_eq_true_eq] at hc
      obtain ⟨h1, h2⟩ := hc
      obtain ⟨b1, b2⟩ := rg62_ok h1
      cases e
      obtain ⟨v, r', rfl, e1, e2⟩ := r
      have e1 : v = .int j := e1
      have e2 : r' = [] := e2
      subst e1 e2
      refine ⟨0, j, ⟨by omega, by omega, b1, b2, by omega⟩, ?_, .inl ⟨rfl, rfl, rfl⟩⟩
      have := reps_rg (K := K) (mg := mg) (F := F) 0 j
      simpa using this
    · cases e
  · rename_i i j
    split at e
    · rename_i hc
      simp only [Bool.and_eq_true, decide_eq_true_eq] at hc
      obtain ⟨⟨h1, h2⟩, h3⟩ := hc
      obtain ⟨b1, b2⟩ := rg62_ok h1
      obtain ⟨b3, b4⟩ := rg62_ok h2
      cases e
      obtain ⟨v, r', rfl, e1, u, r'', rfl, e2, e3⟩ := r
      have e1 : v = .int i := e1
      have e2 : u = .int j := e2
      have e3 : r'' = [] := e3
      subst e1 e2 e3
      exact ⟨i, j, ⟨b1, b2, b3, b4, by omega⟩, reps_rg i j, .inr ⟨rfl, rfl⟩⟩
    · cases e
  · cases e
variable {fd gd : Env → Out (D × Env)}
theorem rg1_reads (ja : JD X T W a fd) {ρ : Env} {σ : L2.St} {F H : Hp} {fps : Fps} {Q : VK} {mk : List D → AV} {lay : Addr → List V → Hp → Hp} (ok : Ok X.K X.mg ρ σ F H fps)
    (h : PX X.K X.mg T W σ F H fps ((cCons fd cNil ρ).bind fun q => (Out.of (rgItems q.1)).bind fun ds => .ok (mk ds, q.2)) Q)
    (hl : ∀ F H ds vs (q : Addr) Q, Sub F H → H q = none → Reps X.K X.mg F ds vs → GP X.K X.mg F H (some (mk ds)) Q → Q (.ref q) (lay q vs H)) :
    tRg1 (WE X a) σ H fun a b H1 => RgOk a b ∧ ∀ q, H1 q = none → Q (.ref q) (lay q (rgV a b) H1) := by
  have h0 : PX X.K X.mg T W σ F H fps ((fd ρ).bind fun p => (Out.of (rgItems [p.1])).bind fun ds => .ok (mk ds, p.2)) Q := by
    unfold cCons cNil at h
    cases q : fd ρ with
    | ok p => rw [q] at h; exact h
    | exc x z => rw [q] at h; exact h
    | bad => rw [q] at h; exact h
  refine ja.next ok FP.px h0 fun x ρ1 v F1 H1 fps1 t1 r1 h1 => ?_
  · replace h1 := PX.from t1 h1
    dsimp only at h1
    cases e : rgItems [x] with
    | none => rw [e] at h1; exact h1.elim
    | some ds =>
      rw [e] at h1
      obtain ⟨i, j, ok', r, c⟩ := rg_end (.one r1) e
      rcases c with ⟨_, c, rfl⟩ | ⟨c, _⟩
      · cases c
        exact ⟨j, rfl, ok', fun q hq => hl F1 H1 ds _ q Q t1.ok.sub hq r (GP.of_px t1.ok h1)⟩
      · simp at c
theorem rg2_reads (ja : JD X T W a fd) (jb : JD X T W b gd) {ρ : Env} {σ : L2.St} {F H : Hp} {fps : Fps} {Q : VK} {mk : List D → AV} {lay : Addr → List V → Hp → Hp} (ok : Ok X.K X.mg ρ σ F H fps)
    (h : PX X.K X.mg T W σ F H fps ((cCons fd (cCons gd cNil) ρ).bind fun q => (Out.of (rgItems q.1)).bind fun ds => .ok (mk ds, q.2)) Q)
    (hl : ∀ F H ds vs (q : Addr) Q, Sub F H → H q = none → Reps X.K X.mg F ds vs → GP X.K X.mg F H (some (mk ds)) Q → Q (.ref q) (lay q vs H)) :
    tRg2 (WE X a) (WE X b) σ H fun a b H1 => RgOk a b ∧ ∀ q, H1 q = none → Q (.ref q) (lay q (rgV a b) H1) := by
  have h0 : PX X.K X.mg T W σ F H fps ((fd ρ).bind fun p => (gd p.2).bind fun r => (Out.of (rgItems [p.1, r.1])).bind fun ds => .ok (mk ds, r.2)) Q := by
    unfold cCons cNil at h
    cases q : fd ρ with
    | ok p =>
      rw [q] at h
      cases q2 : gd p.2 with
      | ok p2 => simp only [Out.bind_ok, q2] at h ⊢; exact h
      | exc x z => simp only [Out.bind_ok, q2] at h ⊢; exact h
      | bad => simp only [Out.bind_ok, q2] at h; exact h.elim
    | exc x z => rw [q] at h; exact h
    | bad => rw [q] at h; exact h
  refine ja.next ok FP.px h0 fun x ρ1 v F1 H1 fps1 t1 r1 h1 => ?_
  · refine jb.next t1.ok FP.px (PX.from t1 h1) fun y ρ2 u F2 H2 fps2 t2 r2 h2 => ?_
    replace h2 := PX.from t2 h2
    dsimp only at h2
    cases e : rgItems [x, y] with
    | none => rw [e] at h2; exact h2.elim
    | some ds =>
      rw [e] at h2
      obtain ⟨i, j, ok', r, c⟩ := rg_end (.cons (Rep.mono t2.mono _ _ r1) (.one r2)) e
      rcases c with ⟨c, _⟩ | ⟨_, c⟩
      · simp at c
      · cases c
        exact ⟨i, j, rfl, rfl, ok', fun q hq => hl F2 H2 ds _ q Q t2.ok.sub hq r (GP.of_px t2.ok h2)⟩
theorem lay_l {K : PySem.W.Frag} {mg : Str → Option Value} : ∀ (F H : Hp) (ds : List D) (vs : List V) (q : Addr) (Q : VK), Sub F H → H q = none → Reps K mg F ds vs → GP K mg F H (some ((fun ds => AV.o (.b (.l ds))) ds)) Q → Q (.ref q) ((fun q vs H => upd H q (.lst vs)) q vs H) :=
  fun F H ds vs q Q s hq r h => GP.lst s h r hq
theorem lay_t {K : PySem.W.Frag} {mg : Str → Option Value} : ∀ (F H : Hp) (ds : List D) (vs : List V) (q : Addr) (Q : VK), Sub F H → H q = none → Reps K mg F ds vs → GP K mg F H (some ((fun ds => AV.d (.tup ds)) ds)) Q → Q (.ref q) ((fun q vs H => upd H q (.tup vs)) q vs H) :=
  fun F H ds vs q Q s hq r h => GP.tup s h r hq
theorem jx_lstRg1 (hc : X.calm = true) (hgl : Gl X "list") (hml : X.mg "list" = none) (hg : Gl X "range") (hm : X.mg "range" = none) (ja : JD X T W a fd) (hs : starEach [a] X.env = (false, eval a X.env) :: starEach [] X.env := by rfl)
    (na : starEach [.Call (.Name "range" p) [a] [] p1] X.env = (false, eval (.Call (.Name "range" p) [a] [] p1) X.env) :: starEach [] X.env := by rfl) : JX X T W (.Call (.Name "list" p2) [.Call (.Name "range" p) [a] [] p1] [] pos) (cLstRg (cCons fd cNil)) :=
  ⟨fun ρ σ F H fps Q ok h => WE.of (pe_listRg hc hgl hml (prg_1 hg hm (WE.pe X a) hs) na) (rg1_reads ja ok h lay_l)⟩
theorem jx_tupRg1 (hc : X.calm = true) (hgl : Gl X "tuple") (hml : X.mg "tuple" = none) (hg : Gl X "range") (hm : X.mg "range" = none) (ja : JD X T W a fd) (hs : starEach [a] X.env = (false, eval a X.env) :: starEach [] X.env := by rfl)
    (na : starEach [.Call (.Name "range" p) [a] [] p1] X.env = (false, eval (.Call (.Name "range" p) [a] [] p1) X.env) :: starEach [] X.env := by rfl) : JX X T W (.Call (.Name "tuple" p2) [.Call (.Name "range" p) [a] [] p1] [] pos) (cTupRg (cCons fd cNil)) :=
  ⟨fun ρ σ F H fps Q ok h => WE.of (pe_tupRg hc hgl hml (prg_1 hg hm (WE.pe X a) hs) na) (rg1_reads ja ok h lay_t)⟩
theorem jx_lstRg2 (hc : X.calm = true) (hgl : Gl X "list") (hml : X.mg "list" = none) (hg : Gl X "range") (hm : X.mg "range" = none) (ja : JD X T W a fd) (jb : JD X T W b gd) (hs : starEach [a, b] X.env = (false, eval a X.env) :: starEach [b] X.env := by rfl)
    (hs2 : starEach [b] X.env = (false, eval b X.env) :: starEach [] X.env := by rfl) (hpl : (backTo p1 (starEach [b] X.env)).any (·.1) = false := by rfl)
    (na : starEach [.Call (.Name "range" p) [a, b] [] p1] X.env = (false, eval (.Call (.Name "range" p) [a, b] [] p1) X.env) :: starEach [] X.env := by rfl) : JX X T W (.Call (.Name "list" p2) [.Call (.Name "range" p) [a, b] [] p1] [] pos) (cLstRg (cCons fd (cCons gd cNil))) :=
  ⟨fun ρ σ F H fps Q ok h => WE.of (pe_listRg hc hgl hml (prg_2 hg hm (WE.pe X a) (WE.pe X b) hs hs2 hpl) na) (rg2_reads ja jb ok h lay_l)⟩
theorem jx_tupRg2 (hc : X.calm = true) (hgl : Gl X "tuple") (hml : X.mg "tuple" = none) (hg : Gl X "range") (hm : X.mg "range" = none) (ja : JD X T W a fd) (jb : JD X T W b gd) (hs : starEach [a, b] X.env = (false, eval a X.env) :: starEach [b] X.env := by rfl)
    (hs2 : starEach [b] X.env = (false, eval b X.env) :: starEach [] X.env := by rfl) (hpl : (backTo p1 (starEach [b] X.env)).any (·.1) = false := by rfl)
    (na : starEach [.Call (.Name "range" p) [a, b] [] p1] X.env = (false, eval (.Call (.Name "range" p) [a, b] [] p1) X.env) :: starEach [] X.env := by rfl) : JX X T W (.Call (.Name "tuple" p2) [.Call (.Name "range" p) [a, b] [] p1] [] pos) (cTupRg (cCons fd (cCons gd cNil))) :=
  ⟨fun ρ σ F H fps Q ok h => WE.of (pe_tupRg hc hgl hml (prg_2 hg hm (WE.pe X a) (WE.pe X b) hs hs2 hpl) na) (rg2_reads ja jb ok h lay_t)⟩
end
end J
namespace J
open PySem PySem.Spec PyProof.Rows L2
open PySem.W (AllAlike Sortable dataLe EachIs alike)
mutual
theorem reads_in {h : Heap} : ∀ {v : Value} {d : PyData} {as : List Addr}, Reads h v d as → ∀ x ∈ as, ∃ o, h.get? x = some o
  | _, _, _, .none, x, hx => by cases hx
  | _, _, _, .bool b, x, hx => by cases hx
  | _, _, _, .int i t, x, hx => by cases hx
  | _, _, _, .str z t, x, hx => by cases hx
  | _, _, _, .list h1 h2 h3 h4, x, hx => by
    rcases List.mem_cons.mp hx with e | hx
    · rw [e]; exact ⟨_, h1⟩
    · exact readsAll_in h4 x hx
  | _, _, _, .tuple h1 h2 h3 h4, x, hx => readsAll_in h4 x hx
  | _, _, _, .dict h1 h2 h3 h4 h5, x, hx => by
    rcases List.mem_append.mp hx with hx | hx
    · rcases List.mem_cons.mp hx with e | hx
      · rw [e]; exact ⟨_, h1⟩
      · exact readsAll_in h4 x hx
    · exact readsAll_in h5 x hx
theorem readsAll_in {h : Heap} : ∀ {vs : List Value} {ds : List PyData} {as : List Addr}, ReadsAll h vs ds as → ∀ x ∈ as, ∃ o, h.get? x = some o
  | _, _, _, .nil, x, hx => by cases hx
  | _, _, _, .cons h1 h2, x, hx => by
    rcases List.mem_append.mp hx with hx | hx
    · exact reads_in h1 x hx
    · exact readsAll_in h2 x hx
end
/-- what is wished of the items xs -/
def SortEnd (K : PySem.W.Frag) (H : Hp) (Q : VK) (xs : List V) : Prop := ∃ (β : Type) (val : β → V) (enc : β → PyData) (bs : List β), xs = bs.map val ∧ DpAll K H (bs.map val) (bs.map enc) ∧ AllAlike (bs.map enc) ∧ Sortable (bs.map enc) ∧ (∀ b ∈ bs, (enc b).depth ≤ 60) ∧
  ∀ p, H p = none → Q (.ref p) (upd H p (.lst ((bs.mergeSort (dataLe false enc)).map val)))
def rSortG (K : PySem.W.Frag) : List V → Hp → VK → Prop := fun vs H Q => (∃ a xs, vs = [.ref a] ∧ (SqL K H a xs ∨ SqT K H a xs) ∧ SortEnd K H Q xs) ∨ (∃ a kvs, vs = [.ref a] ∧ Rd H a (.dT kvs) ∧ ∀ cs, IsKeys H kvs cs → SortEnd K H Q (cs.map V.ref)) ∨
  ∃ a kvs, vs = [.ref a] ∧ Rd H a (.dK kvs) ∧ SortEnd K H Q (kvs.map fun kv => kV kv.1)
theorem each_of {R : Value → V → Prop} {β : Type} (val : β → V) : ∀ {bs : List β} {us : List Value}, Vals (bs.map val) us → EachIs (fun v b => RelV (val b) v) us bs
  | [], _, .nil => .nil
  | b :: bs, _, .cons r t => .cons r (each_of (R := R) val t)
theorem vals_each {β : Type} (val : β → V) : ∀ {bs : List β} {us : List Value}, EachIs (fun v b => RelV (val b) v) us bs → Vals (bs.map val) us
  | [], _, .nil => .nil
  | b :: bs, _, .cons r t => .cons r (vals_each val t)
section
variable {X : Cx}
/-- the list that was gathered is sorted -/
theorem sort_tail {pins : List (Addr × Obj)} {σ : L2.St} {H : Hp} {s : Shared} {Q : VK} {xs : List V} {us : List Value} (hu : X.A.units + 100 < cLine) (I : Inv X pins σ H s) (rv : Vals xs us) (hz : xs.length ≤ sizeLine) (h : SortEnd X.K H Q xs) :
    wpAny (model X.prog X.w) X.A.in1 (do let l ← newList us; let _ ← holding [l] (call (.builtin "list.sort") [l] []); ret l) (fun f s' => ∃ v, f = Fin.done (.ret v) ∧ EP X pins σ Q v s') X.xe s := by
  obtain ⟨β, val, enc, bs, rfl, dp, hal, hk, hd, q⟩ := h
  have hz2 : us.length ≤ sizeLine := by rw [← rv.length]; exact hz
  refine wpAny_bind (wpAny_newList ?_ hz2)
  have hoL : (s.heap.push (seqObj "list" us.toArray 0)).get? s.heap.objs.size = some (seqObj "list" us.toArray 0) := Heap.get?_push_size _ rfl
  show wpAny _ _ _ _ _ { s with heap := s.heap.push (seqObj "list" us.toArray 0) }
  have e : EachIs (fun v b => RelV (val b) v) us bs := each_of (R := fun _ _ => True) val rv
  obtain ⟨as, ra⟩ := Dp.readsAll I _ _ _ dp rv
  have er : EachIs (fun v b => ∃ as, Reads (s.heap.push (seqObj "list" us.toArray 0)) v (enc b) as ∧ s.heap.objs.size ∉ as) us bs := (PySem.W.readsAll_each enc ra).mono fun v b ⟨as, r⟩ => ⟨as, PyProof.Rows.Reads.keeps (fun _ _ q => Heap.get?_push_of_some _ q) r, fun z => by
    obtain ⟨o, ho⟩ := reads_in r _ z
    exact absurd (Heap.lt_size ho) (Nat.lt_irrefl _)⟩
  have hL : bs.length ≤ sizeLine := by simpa using hz
  refine wpAny_bind (wpAny_holding (PySem.W.list_sort_data (s := { s with heap := s.heap.push (seqObj "list" us.toArray 0) }) hoL e er hal hk hL (fun b hb => ?_) fun out hlen eo => ?_))
  · have := hd b hb
    show X.A.units + 1 + 1 + (enc b).depth < cLine
    omega
  · obtain ⟨e', he'⟩ := PyProof.Rows.sortedHeap_at (vs := us) (out := out.toArray) hoL
    have rv' := vals_each val eo
    have hz3 : ((bs.mergeSort (dataLe false enc)).map val).length ≤ sizeLine := by rw [List.length_map, List.length_mergeSort]; exact hL
    refine wpAny_pure ⟨_, rfl, .ref s.heap.objs.size, _, I.laid (t' := s.toks) (o := .lst ((bs.mergeSort (dataLe false enc)).map val)) (fun b u e => ?_) (Nat.le_refl _)
      (show ObjOk X.prog X.w _ _ _ (.lst _) from ⟨hz3, out, e', rv', he'⟩), rfl, q _ (I.hok.fresh (Nat.le_refl _))⟩
    have hb : b < s.heap.objs.size := Heap.lt_size e
    rw [PyProof.Rows.sortedHeap_old (Nat.ne_of_lt hb) (by rw [PyProof.Rows.size_push']; exact Nat.lt_succ_of_lt hb)]
    exact Heap.get?_push_of_some _ e
theorem cr_sortG (hcalm : X.calm = true) (hu : X.A.units + 100 < cLine) : CallR X (.builtin "sorted") (rSortG X.K) := by
  intro pins s σ H xs us Q I r h
  rcases h with ⟨a, xs, rfl, hs, h⟩ | ⟨a, kvs, rfl, hd, h⟩ | ⟨a, kvs, rfl, hd, h⟩
  · obtain ⟨u, eu, rx⟩ := vals1 r
    subst eu
    cases rx
    refine Calls.call_function_entry PyProof.Rows.kind_sorted PyProof.Rows.plain_sorted PyProof.Rows.entry_sorted (PyProof.Rows.args_sorted1 _) ?_
    unfold Builtin.«sorted»
    refine wpAny_bind (m := checkCount "sorted" 1 1 _) (wpAny_pure ?_)
    have src : ∃ (T : String) (o : Obj) (its : List Value) (n : Nat), (T = "list" ∨ T = "tuple") ∧ s.heap.get? a = some o ∧ o.cls = .type T ∧ o.data = .seq its.toArray n ∧ Vals xs its ∧ xs.length ≤ sizeLine := by
      rcases hs with hs | hs
      · obtain ⟨its, rv, ⟨o, n, h1, h2, _, h3⟩, hz⟩ := I.list hs
        exact ⟨_, o, its, n, .inl rfl, h1, h2, h3, rv, hz⟩
      · obtain ⟨its, rv, ⟨o, h1, h2, n, h3⟩, hz⟩ := I.tuple hs
        exact ⟨_, o, its, n, .inr rfl, h1, h2, h3, rv, hz⟩
    obtain ⟨T, o, its, n, hT, h1, h2, h3, rv, hz⟩ := src
    refine wpAny_bind (PySem.wpAny_collect_seq a hT h1 h2 h3 (fun h' kp => ?_) (by rw [List.size_toArray, ← rv.length]; exact hz))
    exact sort_tail hu (I.kept (t' := s.toks) kp) (by simpa using rv) hz h
  · obtain ⟨u, eu, rx⟩ := vals1 r
    subst eu
    cases rx
    obtain ⟨z, hs, ks, pr, o, es, ep, ho, hx, hdt, he, hn⟩ := (show ObjOk X.prog X.w H s.heap a (.dT kvs) from hd.ok I.hok)
    have l1 : es.size = ks.length := size_of_entries he
    have l2 : kvs.length = ks.length := Paired.length pr
    refine Calls.call_function_entry PyProof.Rows.kind_sorted PyProof.Rows.plain_sorted PyProof.Rows.entry_sorted (PyProof.Rows.args_sorted1 _) ?_
    unfold Builtin.«sorted»
    refine wpAny_bind (m := checkCount "sorted" 1 1 _) (wpAny_pure ?_)
    refine wpAny_bind (PySem.W.kdu_collect (A := X.A.in1) (kdl_raw hs hx hdt) (I.ok.hd hcalm) ho (by omega) fun h' tk acc kp it => ?_)
    have ea : acc.toList = ks.map fun x => Value.ref x.2.1 := by
      have hl : acc.toList.length = ks.length := by rw [Array.length_toList, it.1]; exact l1
      apply List.ext_getElem?
      intro j
      rw [List.getElem?_map]
      cases hj : acc.toList[j]? with
      | none =>
        have h1 := List.getElem?_eq_none_iff.mp hj
        rw [List.getElem?_eq_none (by omega)]
        all_goals rfl
      | some v =>
        obtain ⟨en, hen, hv⟩ := it.2 j v (by rw [← Array.getElem?_toList]; exact hj)
        have qe := entry_at he j
        rw [hen] at qe
        cases hb : ks[j]? with
        | none =>
          rw [hb] at qe
          exact nomatch (show some en = none from qe)
        | some b =>
          rw [hb] at qe
          have e2 : en = entryOfKey (tupleKind (mixKind X.prog X.w)) b := Option.some.inj qe
          rw [hv, e2]
          all_goals rfl
    have eb : acc.toList = (ks.map fun x => x.2.1).map Value.ref := by rw [ea, List.map_map]; all_goals rfl
    have rv : Vals ((ks.map fun x => x.2.1).map V.ref) acc.toList := by rw [eb]; exact vals_refs _
    exact sort_tail hu (I.kept kp) rv (by rw [List.length_map, List.length_map]; omega) (h _ (isKeys_of pr))
  · obtain ⟨u, eu, rx⟩ := vals1 r
    subst eu
    cases rx
    obtain ⟨z, lo, vs, rel, dd⟩ := dk_rd I.hok hd
    obtain ⟨ep, hat⟩ := dd.dictAt
    have hl : kvs.length = vs.length := rel.length
    refine Calls.call_function_entry PyProof.Rows.kind_sorted PyProof.Rows.plain_sorted PyProof.Rows.entry_sorted (PyProof.Rows.args_sorted1 _) ?_
    unfold Builtin.«sorted»
    refine wpAny_bind (m := checkCount "sorted" 1 1 _) (wpAny_pure ?_)
    refine wpAny_bind (PySem.W.kdu_collect (A := X.A.in1) (PySem.W.kdl_dict (knd := mixKind X.prog X.w) (kvs := vs) (ep := ep) lo) (I.ok.hd hcalm) hat (by omega) fun h' tk acc kp it => ?_)
    have rv : Vals (kvs.map fun kv => kV kv.1) acc.toList := by
      refine vals_of_at (by have := it.1; simp only [List.length_map, Array.length_toList]; omega) fun j x u h1 h2 => ?_
      obtain ⟨k, w, e1, e2⟩ := it.2 j u (by rw [← Array.getElem?_toList]; exact h2)
      rw [List.getElem?_map] at h1
      have e3 : (kvs.map (·.1))[j]? = some k := by rw [rel.keys, List.getElem?_map, e1]; rfl
      rw [List.getElem?_map] at e3
      cases e4 : kvs[j]? with
      | none => rw [e4] at h1; cases h1
      | some p =>
        rw [e4] at h1 e3
        have e5 : p.1 = k := Option.some.inj e3
        have e6 : kV p.1 = x := Option.some.inj h1
        rw [← e6, e5]
        exact keyIs_rel e2
    exact sort_tail hu (I.kept kp) rv (by rw [List.length_map]; exact z) h
def alikeB (ds : List D) : Bool := ds.all fun x => ds.all fun y => alike x.pd y.pd
def tupB1 : D → Bool
  | .tup (_ :: _) => true
  | .wtp (_ :: _) => true
  | _ => false
def plainB : D → Bool
  | .bl _ => true
  | .int _ => true
  | .str _ => true
  | .lst _ => true
  | _ => false
def sortedD (ds : List D) : List D := ds.mergeSort (dataLe false D.pd)
/-- what is sorted -/
def itemsD : D → Option (List D)
  | .dic _ ks _ => some ks
  | d => seqD d
def sortD (x : D) : Option AV := match itemsD x with
  | some ds => if okNs 60 ds && alikeB ds && (ds.all tupB1 || ds.all plainB) then some (.o (.b (.l (sortedD ds)))) else none
  | none => none
theorem pds_map : ∀ ds : List D, pds ds = ds.map D.pd
  | [] => rfl
  | d :: ds => by simp only [pds, List.map_cons, pds_map ds]
theorem depth_le : ∀ {ds : List D} {n : Nat}, okNs n ds = true → ∀ d ∈ ds, d.pd.depth ≤ n
  | [], _, _, d, hd => by cases hd
  | x :: xs, n, h, d, hd => by
    simp only [okNs, Bool.and_eq_true] at h
    rcases List.mem_cons.mp hd with e | hd
    · rw [e]; exact (okN_lay n x h.1).2
    · exact depth_le h.2 d hd
theorem reps_all {K : PySem.W.Frag} {mg : Str → Option Value} {F : Hp} : ∀ {l : List (V × D)}, (∀ p ∈ l, Rep K mg F p.2 p.1) → Reps K mg F (l.map (·.2)) (l.map (·.1))
  | [], _ => .nil
  | p :: l, h => .cons (h p List.mem_cons_self) (reps_all fun q hq => h q (List.mem_cons_of_mem _ hq))
theorem all_reps {K : PySem.W.Frag} {mg : Str → Option Value} {F : Hp} : ∀ {ds : List D} {vs : List V}, Reps K mg F ds vs → ∀ p ∈ vs.zip ds, Rep K mg F p.2 p.1
  | [], _, h, p, hp => by rw [show _ = [] from h] at hp; simp at hp
  | d :: ds, _, h, p, hp => by
    obtain ⟨v, r, rfl, h1, h2⟩ := h
    rcases List.mem_cons.mp (show p ∈ (v, d) :: r.zip ds from hp) with e | hp
    · rw [e]; exact h1
    · exact all_reps h2 p hp
theorem zip_fst {α β : Type} : ∀ {as : List α} {bs : List β}, as.length = bs.length → (as.zip bs).map (·.1) = as
  | [], [], _ => rfl
  | a :: as, b :: bs, h => by simp [zip_fst (as := as) (bs := bs) (by simpa using h)]
  | [], _ :: _, h => by simp at h
  | _ :: _, [], h => by simp at h
theorem zip_snd {α β : Type} : ∀ {as : List α} {bs : List β}, as.length = bs.length → (as.zip bs).map (·.2) = bs
  | [], [], _ => rfl
  | a :: as, b :: bs, h => by simp [zip_snd (as := as) (bs := bs) (by simpa using h)]
  | [], _ :: _, h => by simp at h
  | _ :: _, [], h => by simp at h
theorem sortEnd_ok {K : PySem.W.Frag} {mg : Str → Option Value} {F H : Hp} {ds : List D} {vs : List V} {Q : VK} (s : Sub F H) (r : Reps K mg F ds vs) (h1 : okNs 60 ds = true) (h2 : alikeB ds = true) (h3 : (ds.all tupB1 || ds.all plainB) = true) (h : GP K mg F H (some (.o (.b (.l (sortedD ds))))) Q) : SortEnd K H Q vs := by
  have hl : vs.length = ds.length := r.length.symm
  have e1 := zip_fst hl
  have e2 := zip_snd hl
  have e3 : (vs.zip ds).map (fun p => p.2.pd) = ds.map D.pd := by
    conv => rhs; rw [← e2]
    rw [List.map_map]; rfl
  have mz : ∀ p ∈ vs.zip ds, p.2 ∈ ds := fun p hp => by
    rw [← e2]; exact List.mem_map.mpr ⟨p, hp, rfl⟩
  refine ⟨V × D, (·.1), (fun p => p.2.pd), vs.zip ds, e1.symm, ?_, ?_, ?_, fun b hb => depth_le h1 b.2 (mz b hb), fun p hp => ?_⟩
  · rw [e1, e3, ← pds_map]; exact Reps.dp (mg := mg) s 60 ds vs h1 r
  · rw [e3]
    intro d hd d' hd'
    obtain ⟨x, hx, rfl⟩ := List.mem_map.mp hd
    obtain ⟨y, hy, rfl⟩ := List.mem_map.mp hd'
    exact List.all_eq_true.mp (List.all_eq_true.mp h2 x hx) y hy
  · rw [e3]
    rcases Bool.or_eq_true_iff.mp h3 with h3 | h3
    · refine .inl fun d hd => ?_
      obtain ⟨x, hx, rfl⟩ := List.mem_map.mp hd
      have := List.all_eq_true.mp h3 x hx
      unfold tupB1 at this
      split at this
      · exact ⟨_, _, rfl⟩
      · exact ⟨_, _, rfl⟩
      · cases this
    · refine .inr fun d hd => ?_
      obtain ⟨x, hx, rfl⟩ := List.mem_map.mp hd
      have := List.all_eq_true.mp h3 x hx
      cases x <;> first | (cases this; done) | simp [D.pd]
  · have e4 : ((vs.zip ds).mergeSort (dataLe false fun p => p.2.pd)).map (·.2) = sortedD ds := by
      unfold sortedD
      conv => rhs; rw [← e2]
      exact List.map_mergeSort fun a _ b _ => rfl
    have r' : Reps K mg F (sortedD ds) (((vs.zip ds).mergeSort (dataLe false fun p => p.2.pd)).map (·.1)) := by
      rw [← e4]
      exact reps_all fun q hq => all_reps r q (List.mem_mergeSort.mp hq)
    exact GP.lst s h r' hp
theorem isKeys_reps {K : PySem.W.Frag} {mg : Str → Option Value} {F H : Hp} (s : Sub F H) : ∀ {kvs : List (List Key × V)} {cs : List Addr}, IsKeys H kvs cs → Reps K mg F (kvs.map fun p => D.tup (p.1.map keyD)) (cs.map V.ref) := by
  intro kvs cs h
  unfold IsKeys at h
  induction h with
  | nil => exact .nil
  | @cons p c ps cs h t ih =>
    refine .cons ⟨c, _, rfl, s.tups _ _ h, ?_⟩ ih
    have : ∀ ks : List Key, Reps K mg F (ks.map keyD) (ks.map kV) := fun ks => by
      induction ks with
      | nil => exact .nil
      | cons k ks ih =>
        refine .cons ?_ ih
        cases k with
        | inl i => exact rfl
        | inr x => exact rfl
    exact this p.1
theorem keys_reps {K : PySem.W.Frag} {mg : Str → Option Value} {F : Hp} : ∀ kvs : List (Key × V), Reps K mg F (kvs.map fun p => keyD p.1) (kvs.map fun p => kV p.1)
  | [] => .nil
  | p :: kvs => by
    refine .cons ?_ (keys_reps kvs)
    show Rep K mg F (keyD p.1) (kV p.1)
    generalize p.1 = k
    cases k with
    | inl i => exact rfl
    | inr x => exact rfl
theorem call1_sort : Call1 X.K X.mg (rSortG X.K) sortD := by
  intro F H x dx Q s hx h
  unfold sortD at h
  split at h
  · rename_i ds e
    split at h
    · rename_i hc
      simp only [Bool.and_eq_true] at hc
      obtain ⟨⟨h1, h2⟩, h3⟩ := hc
      have seq : seqD dx = some ds → rSortG X.K [x] H Q := fun e => by
        obtain ⟨p, vs, rfl, hs, r⟩ := hx.seq s e
        exact .inl ⟨p, vs, rfl, hs, sortEnd_ok s r h1 h2 h3 h⟩
      cases dx with
      | dic t ks xs =>
        cases e
        obtain ⟨a, o, us, rfl, ho, hd, hr⟩ := hx
        cases t with
        | false =>
          obtain ⟨kvs, rfl, rfl, rfl⟩ := hd
          exact .inr (.inr ⟨a, kvs, rfl, ho, sortEnd_ok s (keys_reps kvs) h1 h2 h3 h⟩)
        | true =>
          obtain ⟨kvs, rfl, rfl, rfl⟩ := hd
          exact .inr (.inl ⟨a, kvs, rfl, ho, fun cs hk => sortEnd_ok s (isKeys_reps s hk) h1 h2 h3 h⟩)
      | _ => exact seq e
    · exact h.elim
  · exact h.elim
end
end J
namespace J
open PySem PySem.Spec PyProof.Rows L2
def lcR (vs : List Nat) (g : TgC) (t : Env → Out (Bool × Env)) (fe : ECode) : List D → Env → List (List D) → Out (List (List D) × Env)
  | [], ρ, acc => .ok (acc, wipeE ρ vs)
  | d :: ds, ρ, acc => match g d (wipeE ρ vs) with
    | .ok ρ1 => (match t ρ1 with
      | .ok (true, ρ2) => (match fe ρ2 with
        | .ok (.o (.b (.l y)), ρ3) => if acc.length < lim then lcR vs g t fe ds ρ3 (acc ++ [y]) else .bad
        | _ => .bad)
      | .ok (false, ρ2) => lcR vs g t fe ds ρ2 acc
      | _ => .bad)
    | _ => .bad
def cLcR (fi : ICode) (vs : List Nat) (g : TgC) (t : Env → Out (Bool × Env)) (fe : ECode) : ECode := fun ρ => (fi ρ).bind fun p => match lcR vs g t fe p.1 p.2 [] with
  | .ok (acc, ρ') => .ok (.o (.b (.ll acc)), backE p.2 ρ' vs)
  | _ => .bad
theorem RowsAt.snoc {K : PySem.W.Frag} {mg : Str → Option Value} {F H : Hp} {ds : List D} {b : Addr} {vs : List V} (f0 : F b = none) (e : H b = some (.lst vs)) (r : Reps K mg F ds vs) : ∀ {rows : List (List D)} {bs : List Addr}, RowsAt K mg F H rows bs → RowsAt K mg F H (rows ++ [ds]) (bs ++ [b])
  | [], bs, h => by rw [show bs = [] from h]; exact ⟨b, [], rfl, f0, ⟨vs, e, r⟩, rfl⟩
  | d :: rows, bs, h => by
    obtain ⟨c, bs', rfl, h1, h2, h3⟩ := h
    exact ⟨c, bs' ++ [b], rfl, h1, h2, RowsAt.snoc f0 e r h3⟩
theorem RowsAt.len {K : PySem.W.Frag} {mg : Str → Option Value} {F H : Hp} : ∀ {rows : List (List D)} {bs : List Addr}, RowsAt K mg F H rows bs → bs.length = rows.length
  | [], bs, h => by rw [show bs = [] from h]; rfl
  | d :: rows, bs, h => by
    obtain ⟨c, bs', rfl, h1, h2, h3⟩ := h
    simp [h3.len]
section
variable {X : Cx} {T : Tp} {W : WX} {elt tg iter : Expr} {ifs : List Expr} {scope : Scope} {own : List (Str × Nat)} {pos : Pos} {fi : ICode} {g : TgC} {t : Env → Out (Bool × Env)} {fe : ECode}
/-- what stays while more is reckoned: new rows -/
structure RowsUp (K : PySem.W.Frag) (mg : Str → Option Value) (F H : Hp) (fps : Fps) (rows : List (List D)) (bs : List Addr) : Prop where
  at_ : RowsAt K mg F H rows bs
  out : ∀ x ∈ bs, ¬InF fps x
theorem RowsUp.stay {K : PySem.W.Frag} {mg : Str → Option Value} {T : Tp} {σ σ' : L2.St} {F H F' H' : Hp} {fps fps' : Fps} {ρ' : Env} {rows : List (List D)} {bs : List Addr} (r : RowsUp K mg F H fps rows bs) (t : Tr K mg T σ F H fps ρ' σ' F' H' fps') : RowsUp K mg F' H' fps' rows bs := by
  have f : ∀ x ∈ bs, F' x = none ∧ H' x = H x ∧ ¬InF fps' x := fun x hx => by
    obtain ⟨f0, o, ho⟩ := r.at_.out x hx
    have k := t.hold ho (r.out x hx) f0
    exact ⟨k.2.2, by rw [k.1, ho], k.2.1⟩
  exact ⟨r.at_.frame t.mono fun x hx => ⟨(f x hx).1, (f x hx).2.1⟩, fun x hx => (f x hx).2.2⟩
theorem lcR_reads (ji : JI X T W tg iter fi)
    (jg : ∀ (s : Shared) (H : Hp) (C : Addr) (cl : List (Str × Addr)) (fp : List Addr), JG (X.blk s H scope (compEnvC scope cl C X.env) fp) (Tv T (own.map (·.2))) tg g)
    (jt : ∀ (s : Shared) (H : Hp) (C : Addr) (cl : List (Str × Addr)) (fp : List Addr), JTs (X.blk s H scope (compEnvC scope cl C X.env) fp) T WNo ifs t)
    (je : ∀ (s : Shared) (H : Hp) (C : Addr) (cl : List (Str × Addr)) (fp : List Addr), JX (X.blk s H scope (compEnvC scope cl C X.env) fp) T WNo elt fe)
    (hlen : ∀ d ρ ρ1, g d ρ = .ok ρ1 → ρ1.length = ρ.length)
    {ρ : Env} {σ : L2.St} {F H : Hp} {fps : Fps} {Q : VK} (ok : Ok X.K X.mg ρ σ F H fps) (h : PX X.K X.mg T W σ F H fps (cLcR fi (own.map (·.2)) g t fe ρ) Q) :
    tLc (WI X tg iter) (WGu X scope tg) (WTu X scope ifs) (WEu X scope elt) (own.map (·.2)) σ H Q := by
  generalize hvs : own.map (·.2) = vs at *
  refine ji.run ρ σ F H fps _ ok ?_
  unfold cLcR at h
  cases q : fi ρ with
  | exc x ρ1 => rw [q] at h; exact h
  | bad => rw [q] at h; exact h
  | ok z =>
    obtain ⟨ds, ρ1⟩ := z
    rw [q] at h
    dsimp only [Out.bind] at h
    cases q2 : lcR vs g t fe ds ρ1 [] with
    | exc x z => rw [q2] at h; exact h.elim
    | bad => rw [q2] at h; exact h.elim
    | ok z =>
      obtain ⟨accF, ρF⟩ := z
      rw [q2] at h
      dsimp only at h
      intro J F1 H1 fps1 t1 wk D hD
      have okw := t1.ok.wiped vs
      have fD : F1 D = none := by
        cases e : F1 D with
        | none => rfl
        | some u =>
          rcases t1.ok.sub.at_ D u e with z | ⟨_, ob, z⟩
          · rw [hD] at z; cases z
          · rw [hD] at z; cases z
      have nD : ¬InF (fpsW vs fps1) D := fun z => by
        obtain ⟨_, o, ho⟩ := okw.inF z
        rw [hD] at ho; cases ho
      refine ⟨fun i m Hk => m = ds.length - i ∧ i ≤ ds.length ∧ ∃ ρk Fk fpsk acc bs, Tr X.K X.mg (Ta T) (wipe σ vs) F1 H1 (fpsW vs fps1) (wipeE ρk vs) (wipe σ vs) Fk Hk fpsk ∧ Mono F1 Fk ∧ Hk D = some (.lst (bs.map V.ref)) ∧ Fk D = none ∧ ¬InF fpsk D ∧
        RowsUp X.K X.mg Fk Hk fpsk acc bs ∧ (D :: bs).Nodup ∧ (∀ x ∈ bs, NewTo (fpsW vs fps1) H1 x) ∧ lcR vs g t fe (ds.drop i) ρk acc = .ok (accF, ρF), ⟨ds.length, by simp, Nat.zero_le _, ρ1, F1, fpsW vs fps1, [], [], (Tr.refl okw).wrote hD nD fD, .refl F1, upd_same, fD, nD, ⟨rfl, fun x hx => absurd hx (by simp)⟩, by simp, fun x hx => absurd hx (by simp), by simpa using q2⟩, ?_⟩
      rintro i m Hk ⟨rfl, hi, ρk, Fk, fpsk, acc, bs, tk, mk, eD, fk, nk, ra, nd, nw, el⟩
      by_cases hlt : i < ds.length
      · refine .inr ?_
        have hd : ds.drop i = ds[i] :: ds.drop (i + 1) := List.drop_eq_getElem_cons hlt
        rw [hd] at el
        obtain ⟨go, yl⟩ := (wk Fk Hk mk tk.ok.sub i).1 _ (List.getElem?_eq_getElem hlt)
        refine ⟨go, fun H' => ∃ ρ' F' fps' acc' bs', Tr X.K X.mg (Ta T) (wipe σ vs) F1 H1 (fpsW vs fps1) (wipeE ρ' vs) (wipe σ vs) F' H' fps' ∧ Mono F1 F' ∧ H' D = some (.lst (bs'.map V.ref)) ∧ F' D = none ∧ ¬InF fps' D ∧
          RowsUp X.K X.mg F' H' fps' acc' bs' ∧ (D :: bs').Nodup ∧ (∀ x ∈ bs', NewTo (fpsW vs fps1) H1 x) ∧ lcR vs g t fe (ds.drop (i + 1)) ρ' acc' = .ok (accF, ρF), fun H' ⟨ρ', F', fps', acc', bs', w1, w2, w3, w4, w5, w6, w7, w8, w9⟩ => ⟨ds.length - (i + 1), by omega, rfl, hlt, ρ', F', fps', acc', bs', w1, w2, w3, w4, w5, w6, w7, w8, w9⟩, fun x H3 hy => ?_⟩
        obtain ⟨F3, gr, r3⟩ := yl x H3 hy
        have g3 : Tr X.K X.mg (Ta T) (wipe σ vs) Fk Hk fpsk (wipeE ρk vs) (wipe σ vs) F3 H3 fpsk := gr.tr tk.ok
        have t3 := tk.trans g3
        obtain ⟨eD3, nk3, fk3⟩ := g3.hold eD nk fk
        have ra3 := ra.stay g3
        unfold lcR at el
        cases qg : g ds[i] (wipeE ρk vs) with
        | exc x z => rw [qg] at el; cases el
        | bad => rw [qg] at el; cases el
        | ok ρ2 =>
          rw [qg] at el
          dsimp only at el
          intro s0 H0 C cl fp
          refine (jg s0 H0 C cl fp).run (wipeE ρk vs) ρ2 (wipe σ vs) F3 H3 fpsk ds[i] x _ t3.ok r3 qg fun σ2 F4 H4 fps4 t4 => ?_
          have ew : wipe σ2 vs = wipe σ vs := by
            rw [← wipe_wipe (σ := σ)]
            refine wipe_eq ?_ fun j hj => t4.sl j (decide_eq_false hj)
            rw [← t4.ok.len, hlen _ _ _ qg, t3.ok.len]
          refine ⟨ew, ?_⟩
          have t4a : Tr X.K X.mg (Ta T) (wipe σ vs) F3 H3 fpsk ρ2 σ2 F4 H4 fps4 := t4.any fun _ z => z
          obtain ⟨eD4, nk4, fk4⟩ := t4a.hold eD3 nk3 fk3
          have ra4 := ra3.stay t4a
          have t04 := t3.trans t4a
          have m4 : Mono Fk F4 := gr.mono.trans t4.mono
          intro s1 H10 C1 cl1 fp1 pins s2 I2
          obtain ⟨tt, pts, rt⟩ := (jt s1 H10 C1 cl1 fp1).run
          refine pts.run pins s2 σ2 H4 _ I2 (rt ρ2 σ2 F4 H4 fps4 _ t4.ok ?_)
          cases qt : t ρ2 with
          | exc x z => rw [qt] at el; cases el
          | bad => rw [qt] at el; cases el
          | ok z =>
            obtain ⟨b, ρ3⟩ := z
            rw [qt] at el
            intro b' F5 H5 fps5 t5 eb
            subst eb
            have t5a : Tr X.K X.mg (Ta T) σ2 F4 H4 fps4 ρ3 σ2 F5 H5 fps5 := t5.any fun _ z => z
            obtain ⟨eD5, nk5, fk5⟩ := t5a.hold eD4 nk4 fk4
            have ra5 := ra4.stay t5a
            have t05 := t04.trans t5a
            have m5 := m4.trans t5.mono
            cases b' with
            | false =>
              rw [if_neg Bool.false_ne_true]
              exact ⟨ρ3, F5, _, acc, bs, t05.wiped ew, mk.trans m5, eD5, fk5, fun z => nk5 (inF_W z), ⟨ra5.at_, fun x hx z => ra5.out x hx (inF_W z)⟩, nd, nw, el⟩
            | true =>
              rw [if_pos rfl]
              intro s3 H30 C3 cl3 fp3
              refine (je s3 H30 C3 cl3 fp3).run ρ3 σ2 F5 H5 fps5 _ t5.ok ?_
              dsimp only at el
              cases qe : fe ρ3 with
              | exc x z => rw [qe] at el; cases el
              | bad => rw [qe] at el; cases el
              | ok z =>
                obtain ⟨y, ρ4⟩ := z
                rw [qe] at el
                split at el
                · rename_i av yy ρ4' ez
                  simp only [Out.ok.injEq, Prod.mk.injEq] at ez
                  obtain ⟨rfl, rfl⟩ := ez
                  split at el
                  · rename_i hl
                    rw [lim_eq] at hl
                    intro v F6 H6 fps6 t6 r6
                    have t6a : Tr X.K X.mg (Ta T) σ2 F5 H5 fps5 ρ4 σ2 F6 H6 fps6 := t6.any fun _ z => z
                    obtain ⟨eD6, nk6, fk6⟩ := t6a.hold eD5 nk5 fk5
                    have ra6 := ra5.stay t6a
                    have m6 := m5.trans t6.mono
                    obtain ⟨b, fpb, rfl, hb, ndb, ob, nb⟩ := r6
                    obtain ⟨rfl, fb, ws, eb, rb⟩ := hb
                    have ob := ob b (by simp)
                    have nb := nb b (by simp)
                    have neD : b ≠ D := by
                      rintro rfl
                      rcases nb with z | z
                      · exact nk5 z
                      · rw [eD5] at z; cases z
                    have neb : b ∉ bs := fun hb => by
                      rcases nb with z | z
                      · exact ra5.out b hb z
                      · obtain ⟨_, o, ho⟩ := ra5.at_.out b hb
                        rw [ho] at z; cases z
                    have nd' : (D :: (bs ++ [b])).Nodup := by
                      obtain ⟨n1, n2⟩ := List.nodup_cons.mp nd
                      refine List.nodup_cons.mpr ⟨fun z => ?_, List.nodup_append.mpr ⟨n2, by simp, fun x hx z hz e => ?_⟩⟩
                      · rcases List.mem_append.mp z with z | z
                        · exact n1 z
                        · exact neD (List.mem_singleton.mp z).symm
                      · rw [List.mem_singleton.mp hz] at e; subst e; exact neb hx
                    have hD6 : ∀ x ∈ bs ++ [b], x ≠ D := fun x hx e => by
                      subst e; exact (List.nodup_cons.mp nd').1 hx
                    have rows6 := ra6.at_.snoc fb eb rb
                    refine ⟨bs.map V.ref, eD6, by rw [List.length_map, ra.at_.len]; exact hl, ρ4, F6, _, acc ++ [yy], bs ++ [b], ((t05.trans t6a).wiped ew).wrote hD (fun z => nk6 (inF_W z)) fk6, mk.trans m6, by rw [upd_same, List.map_append]; rfl, fk6, fun z => nk6 (inF_W z),
                      ⟨rows6.frame (.refl F6) fun x hx => ⟨(rows6.out x hx).1, upd_ne (hD6 x hx)⟩, fun x hx z => ?_⟩, nd', fun x hx => ?_, el⟩
                    · rcases List.mem_append.mp hx with hx | hx
                      · exact ra6.out x hx (inF_W z)
                      · rw [List.mem_singleton.mp hx] at z; exact ob (inF_W z)
                    · rcases List.mem_append.mp hx with hx | hx
                      · exact nw x hx
                      · rw [List.mem_singleton.mp hx]; exact NewTo.from t05 nb
                  · cases el
                · cases el
      · have e : i = ds.length := by omega
        subst e
        refine .inl ⟨(wk Fk Hk mk tk.ok.sub _).2 (Nat.le_refl _), ?_⟩
        rw [List.drop_length] at el
        unfold lcR at el
        simp only [Out.ok.injEq, Prod.mk.injEq] at el
        obtain ⟨rfl, rfl⟩ := el
        have tb := Tr.back t1.ok tk fun j hj sv => wipeE_in hj sv
        have tb : Tr X.K X.mg T σ F1 H1 fps1 (backE ρ1 (wipeE ρk vs) vs) σ Fk Hk fpsk := ⟨tb.ok, tb.mono, tb.keep, tb.frz, tb.own, fun _ _ => rfl, tb.fld⟩
        refine h (.ref D) Fk Hk fpsk (t1.trans tb) ⟨D, D :: bs, rfl, ⟨bs, rfl, fk, eD, ra.at_⟩, nd, fun x hx => ?_, fun x hx => ?_⟩
        · rcases List.mem_cons.mp hx with e | hx
          · rw [e]; exact nk
          · exact ra.out x hx
        · rcases List.mem_cons.mp hx with e | hx
          · rw [e]; exact t1.there hD
          · exact NewTo.from t1 ((nw x hx).imp inF_W id)
theorem jx_lcR (hc : X.calm = true) (hN : X.N.Nodup) (ji : JI X T W tg iter fi) (ok : BlkOk X.N X.env.scope scope own)
    (jg : ∀ (s : Shared) (H : Hp) (C : Addr) (cl : List (Str × Addr)) (fp : List Addr), JG (X.blk s H scope (compEnvC scope cl C X.env) fp) (Tv T (own.map (·.2))) tg g)
    (jt : ∀ (s : Shared) (H : Hp) (C : Addr) (cl : List (Str × Addr)) (fp : List Addr), JTs (X.blk s H scope (compEnvC scope cl C X.env) fp) T WNo ifs t)
    (je : ∀ (s : Shared) (H : Hp) (C : Addr) (cl : List (Str × Addr)) (fp : List Addr), JX (X.blk s H scope (compEnvC scope cl C X.env) fp) T WNo elt fe)
    (hlen : ∀ d ρ ρ1, g d ρ = .ok ρ1 → ρ1.length = ρ.length) (hs : ∀ x, foldedSetIterable iter X.env x = pure x := by intro _; rfl) : JX X T W (.ListComp elt [⟨tg, iter, ifs, 0⟩] scope pos) (cLcR fi (own.map (·.2)) g t fe) :=
  ⟨fun ρ σ F H fps Q ok' h => WE.of (pe_lc hc hN (WI.pi X tg iter) ok (fun s H C cl fp => ⟨fun pins s2 σ H v u Q I r q => q s _ C cl fp pins s2 u I r⟩) (fun s H C cl fp => ⟨fun pins s2 σ H' Q I q => q s H C cl fp pins s2 I⟩) (fun s H C cl fp => ⟨fun pins s2 σ H' Q I q => q s H C cl fp pins s2 I⟩) hs) (lcR_reads ji jg jt je hlen ok' h)⟩
end
end J
namespace J
open PySem PySem.Spec PyProof.Rows L2
/-- T' keeps what T keeps -/
structure Tle (T T' : Tp) : Prop where
  a : ∀ i, T.asg i = false → T'.asg i = false
  k : ∀ y, T.kf y = true → T'.kf y = true
section
variable {K : PySem.W.Frag} {mg : Str → Option Value} {T T' : Tp} {W : WX} {ρ ρ' : Env} {σ σ' : L2.St} {F F' H H' : Hp} {fps fps' : Fps} {D : Ends}
theorem Tr.weak (l : Tle T T') (t : Tr K mg T' σ F H fps ρ' σ' F' H' fps') : Tr K mg T σ F H fps ρ' σ' F' H' fps' :=
  ⟨t.ok, t.mono, t.keep, t.frz, t.own, fun i hi => t.sl i (l.a i hi), fun a C dx fs e => by
    obtain ⟨d1, f1, e1, k1⟩ := t.fld a C dx fs e
    exact ⟨d1, f1, e1, fun f hf => k1 f (l.k f hf)⟩⟩
theorem FP.st_weak (l : Tle T T') : FP K mg T' W σ F H fps (fun r => PSt K mg T W σ F H fps r D) := ⟨fun _ _ h cls d F' H' fps' t xr => h cls d σ F' H' fps' (t.weak l) xr, fun h => h⟩
theorem FP.st_weak_from {ρ1 : Env} {σ1 : L2.St} {F1 H1 : Hp} {fps1 : Fps} (l : Tle T T') (t : Tr K mg T' σ F H fps ρ1 σ1 F1 H1 fps1) : FP K mg T' W σ1 F1 H1 fps1 (fun r => PSt K mg T W σ F H fps r D) := ⟨fun _ _ h cls d F' H' fps' u xr => h cls d σ1 F' H' fps' ((t.trans u).weak l) xr, fun h => h⟩
end
section
variable {X : Cx} {T T' : Tp} {W : WX} {a b c e o i : Expr} {es : List Expr} {pos p1 pos' : Pos} {fo fe fa : ECode}
theorem js_exprW (l : Tle T T') (ja : JX X T' W a fa) (hs : swapsWith a none pos.line X.env = pure false := by rfl) : JS X T W (.Expr a pos) (cDrop fa) := by
  refine ⟨fun ρ σ F H fps D ok h => WS.of (ps_expr (WE.pe X a) hs) ?_⟩
  refine ja.next ok (FP.st_weak l) h fun av ρ1 v F1 H1 fps1 t1 ra h1 => ?_
  exact h1 σ F1 H1 fps1 (t1.weak l)
theorem js_setW {i : Nat} {x : Str} (l : Tle T T') (hN : X.N.Nodup) (hi : X.N[i]? = some x) (hx : Loc X.env.scope x) (ha : T.asg i = true) (ja : JX X T' W a fa) (hs : swapsWith a (some (.Name x pos')) pos.line X.env = pure false := by rfl)
    (hf : X.fn x = true ∨ X.env.scope.names.lookup x = some .local := by first | exact .inl rfl | exact .inr rfl | assumption) : JS X T W (.Assign [.Name x pos'] a pos) (cSet i fa) := by
  refine ⟨fun ρ σ F H fps D ok h => WS.of (ps_set hN hi hx (WE.pe X a) hs hf) ?_⟩
  refine ja.next ok (FP.st_weak l) h fun av ρ1 v F1 H1 fps1 t1 ra h1 => ?_
  cases q : av.keep ρ1 with
  | none => dsimp only at h1; rw [q] at h1; exact h1.elim
  | some z =>
    obtain ⟨sv, ρ'⟩ := z
    dsimp only at h1
    rw [q] at h1
    obtain ⟨F', fps', fp, t', r, hd, hN⟩ := keep_ok t1 ra q
    dsimp only [Out.of_some, Out.bind_ok] at h1
    unfold setS at h1
    dsimp only at h1
    split at h1
    · rename_i hi
      exact h1 _ _ _ _ ((t'.weak l).store hi ha r hd hN)
    · exact h1.elim
theorem js_fldsetW {cs : List Str} {y : Str} (l : Tle T T') (hF : ∀ c ∈ cs, ∀ C, X.mg c = some (.ref C) → Cls X.K C ∧ NoAttr X.K C y) (hk : T.kf y = false) (je : JX X T' W e fe) (jo : JX X T' W o fo)
    (hs : swapsWith e (some (.Attribute o y p1)) pos.line X.env = pure false := by rfl) : JS X T W (.Assign [.Attribute o y p1] e pos) (cFldSet cs y fe fo) := by
  refine ⟨fun ρ σ F H fps D ok h => WS.of (ps_fld (WE.pe X o) (WE.pe X e) hs) ?_⟩
  refine je.next ok (FP.st_weak l) h fun av ρ1 v F1 H1 fps1 t1 ra h1 => ?_
  refine jo.next t1.ok (FP.st_weak_from l t1) h1 fun ov ρ2 x F2 H2 fps2 t2 rx h2 => ?_
  cases ov with
  | s j =>
    dsimp only at h2
    split at h2
    · rename_i c ns fs hj
      split at h2
      · rename_i hc
        cases q : av.keepF ρ2 with
        | none => rw [q] at h2; exact h2.elim
        | some z =>
          obtain ⟨fv, ρ3⟩ := z
          rw [q] at h2
          replace h2 : PSt X.K X.mg T W σ F H fps (fldEnd y j (fv, ρ3)) D := h2
          have t12 := t1.trans t2
          obtain ⟨F3, fps3, fpv, t3, hv, hd, hN⟩ := keepF_ok t12 (ra.stay t2) q
          unfold fldEnd at h2
          dsimp only at h2
          split at h2
          · rename_i c' ns' fs' hj'
            split at h2
            · rename_i hl
              obtain ⟨a, C, dx, vfs, e1, e2, e3, e4, fps4, t4⟩ := (t3.weak l).field hk hj' hv hd hN
              have rx : σ[j]? = some (some x) := rx
              rw [rx] at e1; cases e1
              have e5 : X.mg c = some (.ref C) := by
                obtain ⟨u, e6, a6, rfl, hO, nd⟩ := t2.ok.slot j _ hj
                obtain ⟨C6, dx6, vfs6, fp6, q0, q1, q2, h4, h5, h6⟩ := hO
                rw [rx] at e6; cases e6
                rw [e3] at h4; cases h4
                exact q2
              obtain ⟨cl, na⟩ := hF c hc C e5
              refine ⟨a, C, dx, vfs, rfl, e3, cl, na, by rw [e4]; exact hl, ?_⟩
              exact h2 σ _ _ fps4 t4
            · exact h2.elim
          · exact h2.elim
      · exact h2.elim
    · exact h2.elim
  | _ => exact h2.elim
end
/-- a def of the text, to be called: where it stands, its parameters, what it reckons -/
structure Cal (P : Program) (w : World) (K : PySem.W.Frag) (mg : Str → Option Value) (base : Heap) (kf : Str → Bool) (k : Nat) (f : Addr) (ps : List Str) (fn : Fn) : Prop where
  ex : ∃ fd, FnJ P w K mg base kf k f fd ps fn ∧ Binds K fd ps []
  kp : PySem.W.keepIn K (.ref f) = true
section
variable {X : Cx} {T : Tp} {W : WX} {a b c e : Expr} {es : List Expr} {pos : Pos} {g : Env → Out (List AV × Env)} {kf : Str → Bool} {k : Nat} {f C : Addr} {ps : List Str} {fn : Fn} {x m : Str} {p apos : Pos} {o : Expr} {fo : ECode}
theorem jx_cal (G : Cal X.prog X.w X.K X.mg X.base kf k f ps fn) (hm : X.mg x = some (.ref f)) (hr : Room k X.A) (hg : Gl X x) (tk : Takes X W) (hkf : ∀ y, T.kf y = true → kf y = true) (ja : JAs X T W (a :: es) g) (hdb : (x == ("__debug__" : Str)) = false := by decide)
    (he : starEach (a :: es) X.env = (false, eval a X.env) :: starEach es X.env := by rfl) (hpl : (backTo pos (starEach es X.env)).any (·.1) = false := by rfl) : JX X T W (.Call (.Name x p) (a :: es) [] pos) (cCall fn g) := by
  obtain ⟨fd, G1, b⟩ := G.ex
  exact jx_call G1 hr hg hm G.kp b tk hkf ja hdb he hpl
theorem jx_mak {c : Str} (M : Mk X.K C f) (G : Cal X.prog X.w X.K X.mg X.base kf k f ps fn) (hm : X.mg c = some (.ref C)) (hr : Room (k + 1) X.A) (hg : Gl X c) (tk : Takes X W) (hkf : ∀ y, T.kf y = true → kf y = true)
    (ja : JAs X T W (a :: es) g) (hdb : (c == ("__debug__" : Str)) = false := by decide) (he : starEach (a :: es) X.env = (false, eval a X.env) :: starEach es X.env := by rfl) (hpl : (backTo pos (starEach es X.env)).any (·.1) = false := by rfl) :
    JX X T W (.Call (.Name c p) (a :: es) [] pos) (cMake c fn g) := by
  obtain ⟨fd, G1, b⟩ := G.ex
  exact jx_make M G1 hr hg hm b tk hkf ja hdb he hpl
theorem jx_mth {pl : Sem Bool} {c : Str} (hC : X.mg c = some (.ref C)) (cl : Cls X.K C) (hm : Meth X.K C m f) (G : Cal X.prog X.w X.K X.mg X.base kf k f ps fn) (hr : Room k X.A) (tk : Takes X W) (hkf : ∀ y, T.kf y = true → kf y = true)
    (jo : JX X T W o fo) (ja : JAs X T W (a :: es) g) (hst : starEach (a :: es) X.env = (false, eval a X.env) :: starEach es X.env := by rfl) (hpl : (backTo pos (starEach es X.env)).any (·.1) = false := by rfl)
    (ht : eval (.Call (.Attribute o m apos) (a :: es) [] pos) X.env = (do
      let ov ← eval o X.env
      standAt apos.atName
      let (f, first) ← holding [ov] (getMethod ov m pl)
      callWith pos f first (backTo pos (starEach (a :: es) X.env)) (backToKw pos (keywordEach [] X.env))) := by rfl) : JX X T W (.Call (.Attribute o m apos) (a :: es) [] pos) (cMeth c m fn fo g) := by
  obtain ⟨fd, G1, b⟩ := G.ex
  exact jx_meth hC cl hm G1 hr b tk hkf jo ja hst hpl ht
theorem jx_mth0 {pl : Sem Bool} {c : Str} (hC : X.mg c = some (.ref C)) (cl : Cls X.K C) (hm : Meth X.K C m f) (G : Cal X.prog X.w X.K X.mg X.base kf k f ps fn) (hr : Room k X.A) (tk : Takes X W) (hkf : ∀ y, T.kf y = true → kf y = true)
    (jo : JX X T W o fo)
    (ht : eval (.Call (.Attribute o m apos) [] [] pos) X.env = (do
      let ov ← eval o X.env
      standAt apos.atName
      let (f, first) ← holding [ov] (getMethod ov m pl)
      callWith pos f first (backTo pos (starEach [] X.env)) (backToKw pos (keywordEach [] X.env))) := by rfl) : JX X T W (.Call (.Attribute o m apos) [] [] pos) (cMeth c m fn fo aNil) := by
  obtain ⟨fd, G1, b⟩ := G.ex
  exact jx_meth0 hC cl hm G1 hr b tk hkf jo ht
end
/-- a def's judgement, as gen.py prints it -/
theorem cal_of {P : Program} {w : World} {K : PySem.W.Frag} {mg : Str → Option Value} {base : Heap} {kf : Str → Bool} {asg : Nat → Bool} {x qual : Str} {params : Arguments} {body : List Stmt} {scope : Scope} {f : Addr} {N ps : List Str} {k : Nat} {code : SCode}
    (Fd : ∃ fd, FunD K x qual params body scope [] [] f fd) (S : FnScope N ps scope)
    (hbd : ∀ (kV doc pm : Value) (an : Option Addr) (cdv ct : Value) (us : List Value), us.length = ps.length → bindArgs (PySem.W.fnOf x qual params body scope .none kV doc pm an cdv ct) ⟨us, []⟩ = pure (ps.zip us))
    (hb : ∀ (cdv : Value) (A : Around) (outer : List PySem.Env) (s : Shared) (H : Hp) (E : XK), Room k (A.deeper (envOfC qual scope s.heap.objs.size f cdv)) →
      JSs (cxOf (L2.CX P w) P w K mg base N qual scope f cdv A outer s H E) ⟨asg, kf⟩ (fun c d _ H' => E c d H') body code) :
    Cal P w K mg base kf (k + 1) f ps (fnRun ps.length N.length asg code) := by
  obtain ⟨fd, F⟩ := Fd
  exact ⟨⟨fd, fnJ_of F S hb, F.bindsN hbd⟩, F.kp⟩
end J
namespace J
open PySem PySem.Spec PyProof.Rows L2
section
variable {X : Cx} {T : Tp} {W : WX} {a b c e : Expr} {pos p : Pos} {fa fb : ECode}
theorem jx_add (ja : JX X T W a fa) (jb : JX X T W b fb) : JX X T W (.BinOp a .Add b pos) (cBin addD fa fb) := jx_bin (op_add.or (op_add_ib.or (op_add_str.or (op_catA.or op_cat)))) op2_add ja jb
theorem jx_sub (ja : JX X T W a fa) (jb : JX X T W b fb) : JX X T W (.BinOp a .Sub b pos) (cBin subD fa fb) := jx_bin op_sub op2_sub ja jb
theorem jx_mul (ja : JX X T W a fa) (jb : JX X T W b fb) : JX X T W (.BinOp a .Mult b pos) (cBin mulD fa fb) := jx_bin (op_mul.or (op_rep.or op_repT)) op2_mul ja jb
theorem jx_fdiv (ja : JX X T W a fa) (jb : JX X T W b fb) : JX X T W (.BinOp a .FloorDiv b pos) (cBin fdivD fa fb) := jx_bin op_fdiv op2_fdiv ja jb
theorem jx_mod (ja : JX X T W a fa) (jb : JX X T W b fb) : JX X T W (.BinOp a .Mod b pos) (cBin modD fa fb) := jx_bin op_mod op2_mod ja jb
theorem jx_pow (ja : JX X T W a fa) (jb : JX X T W b fb) : JX X T W (.BinOp a .Pow b pos) (cBin powD fa fb) := jx_bin op_pow op2_pow ja jb
theorem jx_lt (hu : X.A.units + 100 < cLine) (ja : JX X T W a fa) (jb : JX X T W b fb) (hm : behindInMarks .Lt b = false := by rfl) : JX X T W (.Compare a [.Lt] [b] pos) (cBin ltD fa fb) := jx_cmp (op_lt.or (op_lt_str.or (op_ltT (by omega)))) op2_lt ja jb hm
theorem jx_le (ja : JX X T W a fa) (jb : JX X T W b fb) (hm : behindInMarks .LtE b = false := by rfl) : JX X T W (.Compare a [.LtE] [b] pos) (cBin leD fa fb) := jx_cmp op_le op2_le ja jb hm
theorem jx_gt (ja : JX X T W a fa) (jb : JX X T W b fb) (hm : behindInMarks .Gt b = false := by rfl) : JX X T W (.Compare a [.Gt] [b] pos) (cBin gtD fa fb) := jx_cmp op_gt op2_gt ja jb hm
theorem jx_ge (ja : JX X T W a fa) (jb : JX X T W b fb) (hm : behindInMarks .GtE b = false := by rfl) : JX X T W (.Compare a [.GtE] [b] pos) (cBin geD fa fb) := jx_cmp op_ge op2_ge ja jb hm
theorem jx_eq (hu : X.A.units + 100 < cLine) (ja : JX X T W a fa) (jb : JX X T W b fb) (hm : behindInMarks .Eq b = false := by rfl) : JX X T W (.Compare a [.Eq] [b] pos) (cBin eqV' fa fb) := jx_cmp (op_eqD (by omega)) op2_eq ja jb hm
theorem jx_ne (hu : X.A.units + 100 < cLine) (ja : JX X T W a fa) (jb : JX X T W b fb) (hm : behindInMarks .NotEq b = false := by rfl) : JX X T W (.Compare a [.NotEq] [b] pos) (cBin neV' fa fb) := jx_cmp (op_neD (by omega)) op2_ne ja jb hm
theorem jx_in (hu : X.A.units + 100 < cLine) (ja : JX X T W a fa) (jb : JX X T W b fb) (hm : behindInMarks .In b = false := by rfl) : JX X T W (.Compare a [.In] [b] pos) (cBin inD fa fb) := jx_cmp (op_inAll (by omega)) op2_in ja jb hm
theorem jx_nin (hu : X.A.units + 100 < cLine) (ja : JX X T W a fa) (jb : JX X T W b fb) (hm : behindInMarks .NotIn b = false := by rfl) : JX X T W (.Compare a [.NotIn] [b] pos) (cBin notInD fa fb) := jx_cmp (op_notInAll (by omega)) op2_notIn ja jb hm
theorem jx_isN (ja : JX X T W a fa) (jb : JX X T W b fb) (hm : behindInMarks .Is b = false := by rfl) : JX X T W (.Compare a [.Is] [b] pos) (cBin isND fa fb) := jx_cmp op_isN op2_isN ja jb hm
theorem jx_notN (ja : JX X T W a fa) (jb : JX X T W b fb) (hm : behindInMarks .IsNot b = false := by rfl) : JX X T W (.Compare a [.IsNot] [b] pos) (cBin notND fa fb) := jx_cmp op_notN op2_notN ja jb hm
theorem jx_isB (ja : JX X T W a fa) (jb : JX X T W b fb) (hm : behindInMarks .Is b = false := by rfl) : JX X T W (.Compare a [.Is] [b] pos) (cBin isBD fa fb) := jx_cmp op_is_bl op2_isB ja jb hm
theorem jx_notB (ja : JX X T W a fa) (jb : JX X T W b fb) (hm : behindInMarks .IsNot b = false := by rfl) : JX X T W (.Compare a [.IsNot] [b] pos) (cBin notBD fa fb) := jx_cmp op_isnot_bl op2_notB ja jb hm
theorem jt_lt (hu : X.A.units + 100 < cLine) (ja : JX X T W a fa) (jb : JX X T W b fb) (hm : behindInMarks .Lt b = false := by rfl) : JT X T W (.Compare a [.Lt] [b] pos) (cTest (cBin ltD fa fb)) := jt_cmp (op_lt.or (op_lt_str.or (op_ltT (by omega)))) op2_lt ja jb hm
theorem jt_le (ja : JX X T W a fa) (jb : JX X T W b fb) (hm : behindInMarks .LtE b = false := by rfl) : JT X T W (.Compare a [.LtE] [b] pos) (cTest (cBin leD fa fb)) := jt_cmp op_le op2_le ja jb hm
theorem jt_gt (ja : JX X T W a fa) (jb : JX X T W b fb) (hm : behindInMarks .Gt b = false := by rfl) : JT X T W (.Compare a [.Gt] [b] pos) (cTest (cBin gtD fa fb)) := jt_cmp op_gt op2_gt ja jb hm
theorem jt_ge (ja : JX X T W a fa) (jb : JX X T W b fb) (hm : behindInMarks .GtE b = false := by rfl) : JT X T W (.Compare a [.GtE] [b] pos) (cTest (cBin geD fa fb)) := jt_cmp op_ge op2_ge ja jb hm
theorem jt_eq (hu : X.A.units + 100 < cLine) (ja : JX X T W a fa) (jb : JX X T W b fb) (hm : behindInMarks .Eq b = false := by rfl) : JT X T W (.Compare a [.Eq] [b] pos) (cTest (cBin eqV' fa fb)) := jt_cmp (op_eqD (by omega)) op2_eq ja jb hm
theorem jt_ne (hu : X.A.units + 100 < cLine) (ja : JX X T W a fa) (jb : JX X T W b fb) (hm : behindInMarks .NotEq b = false := by rfl) : JT X T W (.Compare a [.NotEq] [b] pos) (cTest (cBin neV' fa fb)) := jt_cmp (op_neD (by omega)) op2_ne ja jb hm
theorem jt_in (hu : X.A.units + 100 < cLine) (ja : JX X T W a fa) (jb : JX X T W b fb) (hm : behindInMarks .In b = false := by rfl) : JT X T W (.Compare a [.In] [b] pos) (cTest (cBin inD fa fb)) := jt_cmp (op_inAll (by omega)) op2_in ja jb hm
theorem jt_nin (hu : X.A.units + 100 < cLine) (ja : JX X T W a fa) (jb : JX X T W b fb) (hm : behindInMarks .NotIn b = false := by rfl) : JT X T W (.Compare a [.NotIn] [b] pos) (cTest (cBin notInD fa fb)) := jt_cmp (op_notInAll (by omega)) op2_notIn ja jb hm
theorem jt_isN (ja : JX X T W a fa) (jb : JX X T W b fb) (hm : behindInMarks .Is b = false := by rfl) : JT X T W (.Compare a [.Is] [b] pos) (cTest (cBin isND fa fb)) := jt_cmp op_isN op2_isN ja jb hm
theorem jt_notN (ja : JX X T W a fa) (jb : JX X T W b fb) (hm : behindInMarks .IsNot b = false := by rfl) : JT X T W (.Compare a [.IsNot] [b] pos) (cTest (cBin notND fa fb)) := jt_cmp op_notN op2_notN ja jb hm
theorem jt_isB (ja : JX X T W a fa) (jb : JX X T W b fb) (hm : behindInMarks .Is b = false := by rfl) : JT X T W (.Compare a [.Is] [b] pos) (cTest (cBin isBD fa fb)) := jt_cmp op_is_bl op2_isB ja jb hm
theorem jt_notB (ja : JX X T W a fa) (jb : JX X T W b fb) (hm : behindInMarks .IsNot b = false := by rfl) : JT X T W (.Compare a [.IsNot] [b] pos) (cTest (cBin notBD fa fb)) := jt_cmp op_isnot_bl op2_notB ja jb hm
theorem jx_neg (ja : JX X T W a fa) : JX X T W (.UnaryOp .USub a pos) (cUn negD fa) := jx_un un_neg op1_neg ja
theorem bt_len : bootBuiltins "len" = some (.builtin "len") := by decide +kernel
theorem bt_abs : bootBuiltins "abs" = some (.builtin "abs") := by decide +kernel
theorem bt_int : bootBuiltins "int" = some (.type "int") := by decide +kernel
theorem bt_str : bootBuiltins "str" = some (.type "str") := by decide +kernel
theorem bt_bool : bootBuiltins "bool" = some (.type "bool") := by decide +kernel
theorem bt_list : bootBuiltins "list" = some (.type "list") := by decide +kernel
theorem bt_tuple : bootBuiltins "tuple" = some (.type "tuple") := by decide +kernel
theorem bt_dict : bootBuiltins "dict" = some (.type "dict") := by decide +kernel
theorem bt_sum : bootBuiltins "sum" = some (.builtin "sum") := by decide +kernel
theorem bt_max : bootBuiltins "max" = some (.builtin "max") := by decide +kernel
theorem bt_min : bootBuiltins "min" = some (.builtin "min") := by decide +kernel
theorem bt_any : bootBuiltins "any" = some (.builtin "any") := by decide +kernel
theorem bt_all : bootBuiltins "all" = some (.builtin "all") := by decide +kernel
theorem bt_sorted : bootBuiltins "sorted" = some (.builtin "sorted") := by decide +kernel
theorem bt_isinstance : bootBuiltins "isinstance" = some (.builtin "isinstance") := by decide +kernel
theorem jx_len (hg : Gl X "len") (hm : X.mg "len" = none) (ja : JX X T W a fa) (hs : starEach [a] X.env = [(false, eval a X.env)] := by rfl) : JX X T W (.Call (.Name "len" p) [a] [] pos) (cUn lenD fa) := jx_b1 call_len call1_len hg hm bt_len ja hs
theorem jx_abs (hg : Gl X "abs") (hm : X.mg "abs" = none) (ja : JX X T W a fa) (hs : starEach [a] X.env = [(false, eval a X.env)] := by rfl) : JX X T W (.Call (.Name "abs" p) [a] [] pos) (cUn absD fa) := jx_b1 call_abs call1_abs hg hm bt_abs ja hs
theorem jx_intc (hg : Gl X "int") (hm : X.mg "int" = none) (ja : JX X T W a fa) (hs : starEach [a] X.env = [(false, eval a X.env)] := by rfl) : JX X T W (.Call (.Name "int" p) [a] [] pos) (cUn intD fa) := jx_t1 call_int1 call1_int hg hm bt_int ja hs
theorem jx_sum (hc : X.calm = true) (hg : Gl X "sum") (hm : X.mg "sum" = none) (ja : JX X T W a fa) (hs : starEach [a] X.env = [(false, eval a X.env)] := by rfl) : JX X T W (.Call (.Name "sum" p) [a] [] pos) (cUn sumD fa) := jx_b1 (cr_sum hc) call1_sum hg hm bt_sum ja hs
theorem jx_max1 (hc : X.calm = true) (hg : Gl X "max") (hm : X.mg "max" = none) (ja : JX X T W a fa) (hs : starEach [a] X.env = [(false, eval a X.env)] := by rfl) : JX X T W (.Call (.Name "max" p) [a] [] pos) (cUn maxD fa) := jx_b1 (cr_max hc) call1_max hg hm bt_max ja hs
theorem jx_min1 (hc : X.calm = true) (hg : Gl X "min") (hm : X.mg "min" = none) (ja : JX X T W a fa) (hs : starEach [a] X.env = [(false, eval a X.env)] := by rfl) : JX X T W (.Call (.Name "min" p) [a] [] pos) (cUn minD fa) := jx_b1 (cr_min hc) call1_min hg hm bt_min ja hs
theorem jx_any (hc : X.calm = true) (hg : Gl X "any") (hm : X.mg "any" = none) (ja : JX X T W a fa) (hs : starEach [a] X.env = [(false, eval a X.env)] := by rfl) : JX X T W (.Call (.Name "any" p) [a] [] pos) (cUn anyD fa) := jx_b1 (cr_any hc) call1_any hg hm bt_any ja hs
theorem jx_all (hc : X.calm = true) (hg : Gl X "all") (hm : X.mg "all" = none) (ja : JX X T W a fa) (hs : starEach [a] X.env = [(false, eval a X.env)] := by rfl) : JX X T W (.Call (.Name "all" p) [a] [] pos) (cUn allD fa) := jx_b1 (cr_all hc) call1_all hg hm bt_all ja hs
theorem jx_listc (hg : Gl X "list") (hm : X.mg "list" = none) (ja : JX X T W a fa) (hs : starEach [a] X.env = [(false, eval a X.env)] := by rfl) : JX X T W (.Call (.Name "list" p) [a] [] pos) (cUn listD fa) := jx_t1 call_list_of call1_list hg hm bt_list ja hs
theorem jx_tupc (hg : Gl X "tuple") (hm : X.mg "tuple" = none) (ja : JX X T W a fa) (hs : starEach [a] X.env = [(false, eval a X.env)] := by rfl) : JX X T W (.Call (.Name "tuple" p) [a] [] pos) (cUn tupD fa) := jx_t1 call_tuple_of call1_tup hg hm bt_tuple ja hs
theorem jx_strc (hg : Gl X "str") (hm : X.mg "str" = none) (ja : JX X T W a fa) (hs : starEach [a] X.env = [(false, eval a X.env)] := by rfl) : JX X T W (.Call (.Name "str" p) [a] [] pos) (cUn strD fa) := jx_t1 call_str_int call1_str hg hm bt_str ja hs
theorem jx_sorted (hc : X.calm = true) (hu : X.A.units + 100 < cLine) (hg : Gl X "sorted") (hm : X.mg "sorted" = none) (ja : JX X T W a fa) (hs : starEach [a] X.env = [(false, eval a X.env)] := by rfl) : JX X T W (.Call (.Name "sorted" p) [a] [] pos) (cUn sortD fa) := jx_b1 (cr_sortG hc hu) call1_sort hg hm bt_sorted ja hs
theorem jx_max2 (hc : X.calm = true) (hg : Gl X "max") (hm : X.mg "max" = none) (ja : JX X T W a fa) (jb : JX X T W b fb)
    (hs : starEach [a, b] X.env = (false, eval a X.env) :: starEach [b] X.env := by rfl) (hs2 : starEach [b] X.env = [(false, eval b X.env)] := by rfl) (hpl : (backTo pos (starEach [b] X.env)).any (·.1) = false := by rfl) : JX X T W (.Call (.Name "max" p) [a, b] [] pos) (cBin max2D fa fb) := jx_b2 (call_max2 hc) call2_max hg hm bt_max ja jb hs hs2 hpl
theorem jx_min2 (hc : X.calm = true) (hg : Gl X "min") (hm : X.mg "min" = none) (ja : JX X T W a fa) (jb : JX X T W b fb)
    (hs : starEach [a, b] X.env = (false, eval a X.env) :: starEach [b] X.env := by rfl) (hs2 : starEach [b] X.env = [(false, eval b X.env)] := by rfl) (hpl : (backTo pos (starEach [b] X.env)).any (·.1) = false := by rfl) : JX X T W (.Call (.Name "min" p) [a, b] [] pos) (cBin min2D fa fb) := jx_b2 (call_min2 hc) call2_min hg hm bt_min ja jb hs hs2 hpl
theorem js_forH1 {tg : Expr} {sts : List Stmt} {f : SCode} {g : TgC} {i : Nat} {x : Str} {p1 : Pos} (hp : PassesOwn (model X.prog X.w) X.A X.env X.xe) (hc : X.calm = true) (hN : X.N[i]? = some x) (h0 : T.asg i = false) (jg : JG X T tg g) (jb : JSs X T W sts f)
    (hv : Vis X.env.scope x := by first | exact Or.inl rfl | exact Or.inr (Or.inl rfl) | exact Or.inr (Or.inr rfl)) (hd : (x == ("__debug__" : Str)) = false := by decide)
    (hcd : (x == ("__classdict__" : Str)) = false := by decide) (hs : ∀ y, foldedSetIterable (.Name x p1) X.env y = pure y := by intro _; rfl) :
    JS X T W (.For tg (.Name x p1) sts [] pos) (cForH i g f) := js_forH (T' := T) hp hc hN h0 (fun _ => rfl) (fun _ h => h) jg jb jg jb hv hd hcd hs
theorem cal_bad {P : Program} {w : World} {K : PySem.W.Frag} {mg : Str → Option Value} {base : Heap} {kf : Str → Bool} {x qual : Str} {params : Arguments} {body : List Stmt} {scope : Scope} {f : Addr} {ps : List Str} {k : Nat}
    (Fd : ∃ fd, FunD K x qual params body scope [] [] f fd)
    (hbd : ∀ (kV doc pm : Value) (an : Option Addr) (cdv ct : Value) (us : List Value), us.length = ps.length → bindArgs (PySem.W.fnOf x qual params body scope .none kV doc pm an cdv ct) ⟨us, []⟩ = pure (ps.zip us)) :
    Cal P w K mg base kf k f ps (fun _ => .bad) := by
  obtain ⟨fd, F⟩ := Fd
  refine ⟨⟨fd, ⟨⟨fun vs H Q E h => h.1, fun A outer s H args us vs Q E hr e0 hb r h => ?_⟩, fun _ _ => rfl⟩, F.bindsN hbd⟩, F.kp⟩
  obtain ⟨_, _, _, _, _, h⟩ := h
  exact h.elim
end
section
variable {P : Program} {w : World} {K : PySem.W.Frag} {mg : Str → Option Value} {base : Heap} {N : List Str} {qual : Str} {scope : Scope} {f : Addr} {cd : Value} {A : Around} {outer : List PySem.Env} {s : Shared} {H : Hp} {E : XK} {k : Nat} {env : PySem.Env}
theorem tk_of : Takes (cxOf (L2.CX P w) P w K mg base N qual scope f cd A outer s H E) (fun c d _ H' => E c d H') := takes_of rfl rfl rfl rfl
theorem po_of : PassesOwn (model P w) (cxOf (L2.CX P w) P w K mg base N qual scope f cd A outer s H E).A (cxOf (L2.CX P w) P w K mg base N qual scope f cd A outer s H E).env (cxOf (L2.CX P w) P w K mg base N qual scope f cd A outer s H E).xe :=
  passes_of (X := cxOf (L2.CX P w) P w K mg base N qual scope f cd A outer s H E) (K := fun e s'' => L2.CX P w outer H s E e s'') rfl
theorem hu_of (hr : Room k A) : A.units + 100 < cLine := by have := hr.un; omega
theorem hu1_of (hr : Room k A) : A.units + 1 < cLine := by have := hr.un; omega
theorem hu0_of (hr : Room k A) : A.units < cLine := by have := hr.un; omega
end
theorem tle_all {T : Tp} : Tle T ⟨T.asg, fun _ => true⟩ := ⟨fun _ h => h, fun _ _ => rfl⟩
end J
namespace J
open PySem PySem.Spec PyProof.Rows L2
/-- the script as it comes -/
def scrSV (ns : List Int) : List SV := [.d (.scr (ns.map .int))]
def Tells (fn : Fn) (n : Nat) : Prop := ∀ ns : List Int, ns.length ≤ n → ∃ ps, fn (scrSV ns) = .ok (.d (.bl true), ps)
theorem law_sp {K : PySem.W.Frag} {mg : Str → Option Value} {kf : Str → Bool} {fn : Fn} {n : Nat} (h : Tells fn n) (H : Hp) (a : Addr) (ns : List Int) (hl : ns.length ≤ n) (hs : SqL K H a (ns.map V.int)) : fnSp K mg kf 1 fn [.ref a] H (fun v _ => v = .bl true) (fun _ _ _ => False) := by
  obtain ⟨ps, e⟩ := h ns hl
  refine ⟨rfl, H, scrSV ns, fun _ => [], ⟨⟨fun a o h => .inl h, fun a xs h => h⟩, rfl, fun i sv e => ?_, fun _ _ => rfl, fun _ _ _ _ h => by cases h⟩, ?_⟩
  · cases i with
    | zero =>
      cases e
      exact ⟨.ref a, rfl, ⟨a, _, rfl, hs, reps_ints ns⟩, rfl⟩
    | succ i => simp [scrSV] at e
  · rw [e]
    exact fun v F' H' fps' t r => r
theorem law_facts {P : Program} {w : World} {K : PySem.W.Frag} {mg : Str → Option Value} {base : Heap} {kf : Str → Bool} {k : Nat} {f : Addr} {x qual : Str} {params : Arguments} {body : List Stmt} {scope : Scope} {fn : Fn} {arg : Str} {fd : FuncData}
    (Fd : FunD K x qual params body scope [] [] f fd) (hbd : ∀ (kV doc pm : Value) (an : Option Addr) (cdv ct : Value) (us : List Value), us.length = [arg].length → bindArgs (PySem.W.fnOf x qual params body scope .none kV doc pm an cdv ct) ⟨us, []⟩ = pure ([arg].zip us)) :
    ∀ (s : Shared) (u : Value), BindsTo s fd ⟨[u], []⟩ [(arg, u)] := fun s u => Fd.bindsA (ps := [arg]) hbd s [u] rfl
/-- whatever world it is -/
def CXA (P : Program) : CXT := fun outer H s E u s' => ∃ w, L2.CX P w outer H s E u s'
theorem cxa_no {P : Program} {H : Hp} {s : Shared} {e : Value} {s' : Shared} : CXA P [] H s (fun _ _ _ => False) e s' → False := fun ⟨_, _, _, _, _, _, _, _, _, _, _, _, _, h⟩ => h
theorem fnOk_a {P : Program} {w : World} {K : PySem.W.Frag} {mg : Str → Option Value} {base : Heap} {k : Nat} {f : Addr} {fd : FuncData} {ps : List Str} {sp : Sp} (F : FnOk P w K mg base (L2.CX P w) k f fd ps sp) : FnOk P w K mg base (CXA P) k f fd ps sp := by
  refine ⟨F.len, fun A outer s H args us vs Q E hr he hb hv hs => codeAny_mono (F.run A outer s H args us vs Q E hr he hb hv hs) fun r s' h => ?_⟩
  cases r with
  | error e => exact ⟨w, h⟩
  | ok fl => cases fl <;> exact h
end J
namespace J
open PySem PySem.Spec PyProof.Rows L2
def frzS (j : Nat) (ρ : Env) : Env := match ρ[j]? with
  | some (some (.o w)) => ρ.set j (some (.d w.toD))
  | _ => ρ
def fzF (j : Nat) : Out Flow → Out Flow
  | .ok (.nx ρ) => .ok (.nx (frzS j ρ))
  | r => r
/-- the statement f; behind it slot j's thing is data -/
def cFz (j : Nat) (f : SCode) : SCode := fun ρ => fzF j (f ρ)
section
variable {X : Cx} {T : Tp} {W : WX} {st : Stmt} {f : SCode}
theorem js_fz {j : Nat} (h : JS X T W st f) : JS X T W st (cFz j f) := by
  refine ⟨fun ρ σ F H fps D ok p => h.run ρ σ F H fps D ok ?_⟩
  unfold cFz at p
  cases q : f ρ with
  | bad => rw [q] at p; exact p
  | exc x ρ' => rw [q] at p; exact p
  | ok r =>
    rw [q] at p
    cases r with
    | rt av ρ' => exact p
    | bk ρ' => exact p
    | ct ρ' => exact p
    | nx ρ' =>
      intro σ' F' H' fps' t
      replace p : ∀ σ' F' H' fps', Tr X.K X.mg T σ F H fps (frzS j ρ') σ' F' H' fps' → D.nx σ' H' := p
      unfold frzS at p
      split at p
      · rename_i w e
        obtain ⟨u, e1, _⟩ := t.ok.slot j _ e
        have ez : AV.frz (.s j) ρ' = some (w.toD, ρ'.set j (some (.d w.toD))) := by simp only [AV.frz, e]
        obtain ⟨F2, fps2, t2, _, _⟩ := frz_ok (T := T) (av := .s j) (v := u) (Tr.refl t.ok) e1 ez
        exact p σ' F2 H' fps2 (t.trans t2)
      · exact p σ' F' H' fps' t
end
end J
namespace J
open PySem PySem.Spec PyProof.Rows L2
def wipeL : List Nat → Env → Env
  | [], ρ => ρ
  | i :: is, ρ => wipeL is (ρ.set i none)
def wpF (is : List Nat) : Out Flow → Out Flow
  | .ok (.nx ρ) => .ok (.nx (wipeL is ρ))
  | .ok (.bk ρ) => .ok (.bk (wipeL is ρ))
  | .ok (.ct ρ) => .ok (.ct (wipeL is ρ))
  | r => r
/-- f; behind it the slots are forgotten -/
def cWp (is : List Nat) (f : SCode) : SCode := fun ρ => wpF is (f ρ)
/-- the slots are forgotten; then f -/
def cWpB (is : List Nat) (f : SCode) : SCode := fun ρ => f (wipeL is ρ)
section
variable {K : PySem.W.Frag} {mg : Str → Option Value} {T : Tp} {ρ ρ' : Env} {σ σ' : L2.St} {F F' H H' : Hp} {fps fps' : Fps}
theorem Tr.hide (t : Tr K mg T σ F H fps ρ' σ' F' H' fps') (i : Nat) : Tr K mg T σ F H fps (ρ'.set i none) σ' F' H' (fpsN i fps') :=
  ⟨t.ok.hide i, t.mono, t.keep, t.frz, fun a h => t.own a (inF_N h), t.sl, t.fld⟩
theorem Tr.wipe : ∀ (is : List Nat) {ρ' : Env} {fps' : Fps}, Tr K mg T σ F H fps ρ' σ' F' H' fps' → ∃ fps2, Tr K mg T σ F H fps (wipeL is ρ') σ' F' H' fps2
  | [], _, fps', t => ⟨fps', t⟩
  | i :: is, _, _, t => Tr.wipe is (t.hide i)
end
section
variable {X : Cx} {T : Tp} {W : WX} {st : Stmt} {sts : List Stmt} {f : SCode}
theorem PSt.wipe {K : PySem.W.Frag} {mg : Str → Option Value} {σ : L2.St} {F H : Hp} {fps : Fps} {r : Out Flow} {D : Ends} {is : List Nat} (p : PSt K mg T W σ F H fps (wpF is r) D) : PSt K mg T W σ F H fps r D := by
  cases r with
  | bad => exact p
  | exc x ρ' => exact p
  | ok r =>
    cases r with
    | rt av ρ' => exact p
    | nx ρ' =>
      intro σ' F' H' fps' t
      obtain ⟨fps2, t2⟩ := t.wipe is
      exact p σ' F' H' fps2 t2
    | bk ρ' =>
      intro σ' F' H' fps' t
      obtain ⟨fps2, t2⟩ := t.wipe is
      exact p σ' F' H' fps2 t2
    | ct ρ' =>
      intro σ' F' H' fps' t
      obtain ⟨fps2, t2⟩ := t.wipe is
      exact p σ' F' H' fps2 t2
theorem js_wp {is : List Nat} (h : JS X T W st f) : JS X T W st (cWp is f) := ⟨fun ρ σ F H fps D ok p => h.run ρ σ F H fps D ok (PSt.wipe p)⟩
theorem jss_wp {is : List Nat} (h : JSs X T W sts f) : JSs X T W sts (cWp is f) := ⟨fun ρ σ F H fps D ok p => h.run ρ σ F H fps D ok (PSt.wipe p)⟩
theorem js_wpB {is : List Nat} (h : JS X T W st f) : JS X T W st (cWpB is f) := by
  refine ⟨fun ρ σ F H fps D ok p => ?_⟩
  obtain ⟨fps2, t⟩ := (Tr.refl (T := T) ok).wipe is
  exact h.run _ σ F H fps2 D t.ok (PSt.from t p)
end
end J
namespace J
open PySem PySem.Spec PyProof.Rows L2
def cRaise (c : Str) : SCode := fun ρ => .exc (.plain c) ρ
/-- an own exception class without __init__ -/
structure ExcC (K : PySem.W.Frag) (C : Addr) : Prop where
  is : PySem.W.excIn K C [.type "ValueError", .type "Exception", .type "BaseException", .type "object"] "ValueError.__new__" = true
  kp : PySem.W.keepIn K (.ref C) = true
  sb : PySem.W.subIn K (.ref C) (.type "BaseException") = some true
  ty : PySem.W.typeIn K (.ref C) = some (.type "type")
section
variable {X : Cx} {T : Tp} {W : WX} {x m : Str} {C : Addr} {j : Nat} {p p2 pos pos' : Pos}
theorem js_raise (E : ExcC X.K C) (hm : X.mg x = some (.ref C)) (tk : Takes X W) (hc : X.calm = true) (hg : Gl X x) (hdb : (x == ("__debug__" : Str)) = false := by decide) :
    JS X T W (.Raise (some (.Call (.Name x p) [.Constant (.str m) j p2] [] pos)) none pos') (cRaise x) :=
  ⟨fun ρ σ F H fps D ok h => WS.of (ps_raise hc tk (pmk_own PySem.F.excBase_ValueError E.is hm E.kp (raises_own E.sb E.ty) hg hdb)) (h (.ref C) none σ F H fps (Tr.refl ok) ⟨hm, rfl⟩)⟩
end
end J
namespace J
open PySem PySem.Spec PyProof.Rows L2
def Exn.cls : Exn → Str
  | .plain c => c
  | .fld c _ _ => c
def Exn.fo : Exn → Addr → Option (Addr × Str × D)
  | .plain _, _ => none
  | .fld _ f x, b => some (b, f, x)
/-- which class is under which -/
abbrev ExT := List (Str × List (Str × Bool))
def exIs (t : ExT) (c C : Str) : Option Bool := (t.lookup c).bind fun l => l.lookup C
open Classical in
/-- what comes of it wherever the exception stands -/
noncomputable def allA (R : Addr → Addr → Out Flow) : Out Flow := if ∀ a b, R a b = R 0 0 then R 0 0 else .bad
def noX : Out Flow → Out Flow
  | .exc _ _ => .bad
  | r => r
/-- the exception's slot is forgotten, what is returned too -/
def wpX (i : Nat) : Out Flow → Out Flow
  | .ok (.nx ρ) => .ok (.nx (ρ.set i none))
  | .ok (.bk ρ) => .ok (.bk (ρ.set i none))
  | .ok (.ct ρ) => .ok (.ct (ρ.set i none))
  | .ok (.rt av ρ) => .ok (.rt av (ρ.set i none))
  | r => r
noncomputable def cTryAs (t : ExT) (C : Str) (i : Nat) (f : SCode) (h : Exn → Addr → Addr → SCode) : SCode := fun ρ => match f ρ with
  | .exc x ρ' => (match exIs t x.cls C with
    | some true => allA fun a b => wpX i (noX (h x a b (ρ'.set i (some (.ex a (x.fo b))))))
    | some false => .exc x ρ'
    | none => .bad)
  | r => r
/-- .. without a name -/
def cTry (t : ExT) (C : Str) (f h : SCode) : SCode := fun ρ => match f ρ with
  | .exc x ρ' => (match exIs t x.cls C with
    | some true => noX (h ρ')
    | some false => .exc x ρ'
    | none => .bad)
  | r => r
section
variable {X : Cx} {T : Tp} {W : WX} {x n C : Str} {CV : Value} {t : ExT} {i : Nat} {body suite : List Stmt} {b₀ : Stmt} {np pos pos' : Pos} {f : SCode} {h : Exn → Addr → Addr → SCode} {g : SCode}
theorem exOk {K : PySem.W.Frag} {mg : Str → Option Value} {T : Tp} {σ σ' : L2.St} {F H F' H' : Hp} {fps fps' : Fps} {ρ' : Env} {i : Nat} {e : Exn} {a b : Addr} {cls : Value} {d : Option Addr} (tr : Tr K mg T σ F H fps ρ' σ' F' H' fps') (ha : T.asg i = true) (xr : XRep K mg F' H' e cls d) (hb : ∀ c f x, e = .fld c f x → d = some b) :
    ∃ fps2, Tr K mg T σ F H fps (ρ'.set i (some (.ex a (e.fo b)))) (σ'.set i (some (.ref a))) F' H' fps2 := by
  by_cases hi : i < ρ'.length
  · refine ⟨_, tr.store (fp := []) hi ha ⟨rfl, rfl, fun b' f x q => ?_⟩ (fun x hx => absurd hx (by simp)) (fun x hx => absurd hx (by simp))⟩
    cases e with
    | plain c => cases q
    | fld c f' x' =>
      obtain ⟨rfl, rfl, rfl⟩ : b = b' ∧ f' = f ∧ x' = x := by
        have : some (b, f', x') = some (b', f, x) := q
        simp only [Option.some.injEq, Prod.mk.injEq] at this
        exact this
      obtain ⟨h1, d', u, e1, e2, e3⟩ := xr
      rw [hb _ _ _ rfl] at e1
      cases e1
      exact ⟨u, e2, e3⟩
  · rw [List.set_eq_of_length_le (by omega), List.set_eq_of_length_le (by have := tr.ok.len; omega)]
    exact ⟨fps', tr⟩
/-- a slot is forgotten on both sides -/
theorem Tr.lose {K : PySem.W.Frag} {mg : Str → Option Value} {T : Tp} {σ σ' : L2.St} {F H F' H' : Hp} {fps fps' : Fps} {ρ' : Env} {i : Nat} (tr : Tr K mg T σ F H fps ρ' σ' F' H' fps') (ha : T.asg i = true) :
    ∃ fps2, Tr K mg T σ F H fps (ρ'.set i none) (σ'.set i none) F' H' fps2 := by
  have t2 := tr.hide i
  refine ⟨_, ⟨⟨t2.ok.sub, ?_, fun k sv h => ?_, t2.ok.non, t2.ok.sep⟩, t2.mono, t2.keep, t2.frz, t2.own, fun k hk => ?_, t2.fld⟩⟩
  · have := t2.ok.len
    rw [List.length_set] at this ⊢
    rw [List.length_set]
    exact this
  · by_cases hki : i = k
    · subst hki
      by_cases hl : i < ρ'.length
      · rw [List.getElem?_set_self hl] at h; cases h
      · rw [List.getElem?_eq_none (by rw [List.length_set]; omega)] at h; cases h
    · obtain ⟨v, e, r⟩ := t2.ok.slot k sv h
      exact ⟨v, by rw [List.getElem?_set_ne hki]; exact e, r⟩
  · have : i ≠ k := by rintro rfl; rw [ha] at hk; cases hk
    rw [List.getElem?_set_ne this]
    exact t2.sl k hk
theorem PSt.noX {K : PySem.W.Frag} {mg : Str → Option Value} {σ : L2.St} {F H : Hp} {fps : Fps} {r : Out Flow} {D : Ends} (p : PSt K mg T W σ F H fps (J.noX r) D) : PSt K mg T WNo σ F H fps r D := by
  cases r with
  | bad => exact p
  | exc x ρ' => exact p.elim
  | ok q => cases q <;> exact p
theorem PSt.lose {K : PySem.W.Frag} {mg : Str → Option Value} {σ : L2.St} {F H : Hp} {fps : Fps} {r : Out Flow} {D : Ends} {i : Nat} (ha : T.asg i = true) (p : PSt K mg T W σ F H fps (wpX i r) D) :
    PSt K mg T W σ F H fps r { nx := fun σ' H' => D.nx (σ'.set i none) H', rt := D.rt, bk := fun σ' H' => D.bk (σ'.set i none) H', ct := fun σ' H' => D.ct (σ'.set i none) H' } := by
  cases r with
  | bad => exact p
  | exc x ρ' => exact p
  | ok q =>
    cases q with
    | rt av ρ' =>
      intro v σ' F' H' fps' tr ra
      refine p v σ' F' H' _ (tr.hide i) ?_
      cases av with
      | d x => exact ra
      | s j => exact ra
      | g j y => exact ra
      | o w =>
        obtain ⟨a, fp, e, h1, h2, h3, h4⟩ := ra
        exact ⟨a, fp, e, h1, h2, fun x hx z => h3 x hx (inF_N z), h4⟩
    | nx ρ' =>
      intro σ' F' H' fps' tr
      obtain ⟨fps2, t2⟩ := tr.lose ha
      exact p _ F' H' fps2 t2
    | bk ρ' =>
      intro σ' F' H' fps' tr
      obtain ⟨fps2, t2⟩ := tr.lose ha
      exact p _ F' H' fps2 t2
    | ct ρ' =>
      intro σ' F' H' fps' tr
      obtain ⟨fps2, t2⟩ := tr.lose ha
      exact p _ F' H' fps2 t2
theorem js_tryAs (hs : X.stack = X.env :: X.outer) (hf : X.env.frame = some X.env.locals) (hN : X.N.Nodup) (hi : X.N[i]? = some n) (hln : X.env.kindOf n = some .local) (hc : Names X x CV) (tk : Takes X W) (ha : T.asg i = true)
    (hT : ∀ c b, exIs t c x = some b → ∀ cls, X.mg c = some cls → PySem.W.exmOne X.K cls CV = some b)
    (jb : ∀ (W : WX) (pn : List (Addr × Obj)) (xe : Value → Shared → Prop), Takes (X.tr pn xe) W → PassesOwn (model X.prog X.w) X.A X.env xe → JSs (X.tr pn xe) T W body f)
    (jh : ∀ (e : Exn) (a b : Addr) (oe : Obj) (cls : Value) (d : Option Addr) (pn : List (Addr × Obj)), Zc cls d oe → (∃ vs, oe.data = .fields vs) → X.mg e.cls = some cls → (∀ c, e = .plain c → d = none) → (∀ c f x, e = .fld c f x → d = some b) → JSs (X.suite a ((a, oe) :: pn)) T WNo (b₀ :: suite) (h e a b)) :
    JS X T W (.Try body [.ExceptHandler (some (.Name x np)) (some n) (b₀ :: suite) pos'] [] [] pos) (cTryAs t x i f h) := by
  refine ⟨fun ρ σ F H fps D ok p => WS.of (ps_try_as (i := i) (tb := fun W D σ H => ∃ ρ F fps, Ok X.K X.mg ρ σ F H fps ∧ PSt X.K X.mg T W σ F H fps (f ρ) D)
    (ts := fun a cls d D σ H => ∃ (e : Exn) (b : Addr) (ρ : Env) (F : Hp) (fps : Fps), X.mg e.cls = some cls ∧ (∀ c, e = .plain c → d = none) ∧ (∀ c f x, e = .fld c f x → d = some b) ∧ Ok X.K X.mg ρ σ F H fps ∧ PSt X.K X.mg T WNo σ F H fps (h e a b ρ) D)
    hs hf hN hi hln hc tk (fun W pn xe tk' po => ⟨fun pins s σ H D I w => ?_⟩) (fun a oe cls d pn hz hd => ⟨fun pins s σ H D I w => ?_⟩)) ?_⟩
  · obtain ⟨ρ, F, fps, ok, p⟩ := w
    exact (jb W pn xe tk' po).run ρ σ F H fps D ok p pins s I
  · obtain ⟨e, b, ρ, F, fps, h1, h2, h3, ok, p⟩ := w
    exact (jh e a b oe cls d pn hz hd h1 h2 h3).run ρ σ F H fps D ok p pins s I
  · refine ⟨ρ, F, fps, ok, ?_⟩
    unfold cTryAs at p
    cases q : f ρ with
    | bad => rw [q] at p; exact p
    | ok r => rw [q] at p; cases r <;> exact p
    | exc e ρ' =>
      rw [q] at p
      dsimp only at p
      intro cls d σ' F' H' fps' tr xr
      have hcls : X.mg e.cls = some cls := by cases e <;> first | exact xr.1 | exact xr.1
      cases qb : exIs t e.cls x with
      | none => rw [qb] at p; exact p.elim
      | some bb =>
        rw [qb] at p
        refine ⟨bb, hT _ _ qb cls hcls, fun hbt a ha0 => ?_, fun hbf => ?_⟩
        · subst hbt
          dsimp only at p
          obtain ⟨b, hb1, hb2⟩ : ∃ b : Addr, (∀ c, e = .plain c → d = none) ∧ (∀ c f x, e = .fld c f x → d = some b) := by
            cases e with
            | plain c => exact ⟨0, fun _ _ => xr.2, fun _ _ _ z => nomatch z⟩
            | fld c f x =>
              obtain ⟨_, b, u, e1, _⟩ := xr
              exact ⟨b, (fun _ z => nomatch z), fun _ _ _ _ => e1⟩
          obtain ⟨fps2, t2⟩ := exOk (a := a) tr ha xr hb2
          refine ⟨e, b, _, F', fps2, hcls, hb1, hb2, t2.ok, ?_⟩
          have p2 : PSt X.K X.mg T W σ F H fps (wpX i (noX (h e a b (ρ'.set i (some (.ex a (e.fo b))))))) D := by
            unfold allA at p
            split at p
            · rename_i hall
              have e0 := hall a b
              dsimp only at e0
              rw [e0]; exact p
            · exact p.elim
          exact PSt.noX (W := W) (PSt.from t2 (PSt.lose ha p2))
        · subst hbf
          exact p cls d σ' F' H' fps' tr xr
/-- .. except X: -/
theorem js_try (hs : X.stack = X.env :: X.outer) (hf : X.env.frame = some X.env.locals) (hc : Names X x CV) (tk : Takes X W)
    (hT : ∀ c b, exIs t c x = some b → ∀ cls, X.mg c = some cls → PySem.W.exmOne X.K cls CV = some b)
    (jb : ∀ (W : WX) (pn : List (Addr × Obj)) (xe : Value → Shared → Prop), Takes (X.tr pn xe) W → PassesOwn (model X.prog X.w) X.A X.env xe → JSs (X.tr pn xe) T W body f)
    (jh : ∀ (a : Addr) (oe : Obj) (pn : List (Addr × Obj)), JSs (X.suite a ((a, oe) :: pn)) T WNo (b₀ :: suite) g) :
    JS X T W (.Try body [.ExceptHandler (some (.Name x np)) none (b₀ :: suite) pos'] [] [] pos) (cTry t x f g) := by
  refine ⟨fun ρ σ F H fps D ok p => WS.of (ps_try_only (tb := fun W D σ H => ∃ ρ F fps, Ok X.K X.mg ρ σ F H fps ∧ PSt X.K X.mg T W σ F H fps (f ρ) D)
    (ts := fun a cls d D σ H => ∃ (ρ : Env) (F : Hp) (fps : Fps), Ok X.K X.mg ρ σ F H fps ∧ PSt X.K X.mg T WNo σ F H fps (g ρ) D)
    hs hf hc tk (fun W pn xe tk' po => ⟨fun pins s σ H D I w => ?_⟩) (fun a oe cls d pn hz hd => ⟨fun pins s σ H D I w => ?_⟩)) ?_⟩
  · obtain ⟨ρ, F, fps, ok, p⟩ := w
    exact (jb W pn xe tk' po).run ρ σ F H fps D ok p pins s I
  · obtain ⟨ρ, F, fps, ok, p⟩ := w
    exact (jh a oe pn).run ρ σ F H fps D ok p pins s I
  · refine ⟨ρ, F, fps, ok, ?_⟩
    unfold cTry at p
    cases q : f ρ with
    | bad => rw [q] at p; exact p
    | ok r => rw [q] at p; cases r <;> exact p
    | exc e ρ' =>
      rw [q] at p
      dsimp only at p
      intro cls d σ' F' H' fps' tr xr
      have hcls : X.mg e.cls = some cls := by cases e <;> first | exact xr.1 | exact xr.1
      cases qb : exIs t e.cls x with
      | none => rw [qb] at p; exact p.elim
      | some bb =>
        rw [qb] at p
        refine ⟨bb, hT _ _ qb cls hcls, fun hbt a ha0 => ?_, fun hbf => ?_⟩
        · subst hbt
          exact ⟨ρ', F', fps', tr.ok, PSt.noX (PSt.from tr p)⟩
        · subst hbf
          exact p cls d σ' F' H' fps' tr xr
end
def cIsX (t : ExT) (c : Str) (a : Addr) (i : Nat) (C : Str) : ECode := fun ρ => match ρ[i]? with
  | some (some (.ex a' _)) => if a' = a then (match exIs t c C with
    | some b => .ok (.d (.bl b), ρ)
    | none => .bad) else .bad
  | _ => .bad
section
variable {X : Cx} {T : Tp} {W : WX} {n C : Str} {t : ExT} {i : Nat} {p0 p1 p2 pos : Pos}
theorem jx_isX {a A : Addr} {oe : Obj} {pn : List (Addr × Obj)} {c : Str} {cv : V} {CV : Value} (E : L2.ExcC X.K A) (hz : Zc (.ref A) none oe) (hf : ∃ vs, oe.data = .fields vs) (hN : X.N[i]? = some n) (hv : Vis X.env.scope n)
    (hg0 : Gl X "isinstance") (hm0 : X.mg "isinstance" = none) (hv0 : bootBuiltins "isinstance" = some (.builtin "isinstance")) (hC : PE (X.suite a ((a, oe) :: pn)) (.Name C p2) (tC cv)) (hcv : ∀ u, RelV cv u → u = CV)
    (hk : ∀ b, exIs t c C = some b → PySem.W.kitOne X.K (.ref A) CV = some b)
    (hs : starEach [.Name n p0, .Name C p2] X.env = (false, eval (.Name n p0) X.env) :: starEach [.Name C p2] X.env := by rfl) (hs2 : starEach [.Name C p2] X.env = [(false, eval (.Name C p2) X.env)] := by rfl) (hpl : (backTo pos (starEach [.Name C p2] X.env)).any (·.1) = false := by rfl)
    (hd : (n == ("__debug__" : Str)) = false := by decide) (hcd : (n == ("__classdict__" : Str)) = false := by decide) :
    JX (X.suite a ((a, oe) :: pn)) T W (.Call (.Name "isinstance" p1) [.Name n p0, .Name C p2] [] pos) (cIsX t c a i C) := by
  refine ⟨fun ρ σ F H fps Q ok h => WE.of (pe_callB (X := X.suite a ((a, oe) :: pn)) (call_isE E hz hf) hg0 hm0 hv0 (pa_cons (pe_var (i := i) hN hv hd hcd) (pa_cons hC pa_nil hs2) hs) (by decide) (by decide) hs hpl) ?_⟩
  unfold cIsX at h
  split at h
  · rename_i a' y hy
    split at h
    · rename_i haa
      subst haa
      split at h
      · rename_i b hb
        obtain ⟨v, e, r, _, _⟩ := ok.slot i _ hy
        subst r
        exact ⟨_, e, cv, CV, b, rfl, hcv, hk b hb, h _ F H fps (Tr.refl ok) rfl⟩
      · exact h.elim
    · exact h.elim
  · exact h.elim
end
end J
namespace J
open PySem PySem.Spec PyProof.Rows L2 He
inductive Fb where
  | exi (x : Str) | kit (x C : Str) (b : Bool) | kitB (x : Str) (Tn : String) (b : Bool)
def isB (a b : Option Bool) : Bool := decide (a = b)
def Fb.ok (K : PySem.W.Frag) : Fb → Bool
  | .exi x => [eqO (PySem.W.findIn K (.ref (ga K x)) "__getattribute__") (some (some (.builtin "BaseException.__getattribute__"))), eqO (PySem.W.findIn K (.ref (ga K x)) "__getattr__") (some none), isB (PySem.W.subIn K (.ref (ga K x)) (.type "BaseException")) (some true),
      PySem.W.hasDictIn K (ga K x), eqO (PySem.W.findIn K (.ref (ga K x)) "__class__") (some (some (.builtin "object.__class__"))), eqO (PySem.W.specialIn K (.builtin "object.__class__") "__get__") (some (some (.builtin "getset_descriptor.__get__"))),
      isB (PySem.W.takesIn K (.builtin "object.__class__")) (some true), isB (PySem.W.mroIn K (ga K x) (.type "object")) (some true)].all id
  | .kit x C b => isB (PySem.W.kitOne K (.ref (ga K x)) (.ref (ga K C))) (some b)
  | .kitB x Tn b => isB (PySem.W.kitOne K (.ref (ga K x)) (.type Tn)) (some b)
theorem exi_ok {K : PySem.W.Frag} {x : Str} (c : (Fb.exi x).ok K = true) : L2.ExcC K (ga K x) := by
  simp only [Fb.ok, List.all_cons, List.all_nil, Bool.and_true, Bool.and_eq_true, id] at c
  obtain ⟨c1, c2, c3, c4, c5, c6, c7, c8⟩ := c
  exact ⟨eqO_ok c1, eqO_ok c2, of_decide_eq_true c3, c4, eqO_ok c5, eqO_ok c6, of_decide_eq_true c7, of_decide_eq_true c8⟩
theorem kit_ok {K : PySem.W.Frag} {x C : Str} {b : Bool} (c : (Fb.kit x C b).ok K = true) : PySem.W.kitOne K (.ref (ga K x)) (.ref (ga K C)) = some b := of_decide_eq_true c
theorem kitB_ok {K : PySem.W.Frag} {x : Str} {Tn : String} {b : Bool} (c : (Fb.kitB x Tn b).ok K = true) : PySem.W.kitOne K (.ref (ga K x)) (.type Tn) = some b := of_decide_eq_true c
def obsX (fa : List Fa) (fn : List DefD) (fx : List Fb) (K : PySem.W.Frag) : AlD := ((obsD fa fn K).1 && fx.all fun f => f.ok K, (obsD fa fn K).2)
def SaysX (fa : List Fa) (fn : List DefD) (fx : List Fb) (K : PySem.W.Frag) : Prop := SaysD fa fn K ∧ ∀ f ∈ fx, f.ok K = true
theorem saysX_of {fa : List Fa} {fn : List DefD} {fx : List Fb} {K : PySem.W.Frag} (e : obsX fa fn fx K = valD fn) : SaysX fa fn fx K := by
  have e1 : ((obsD fa fn K).1 && fx.all fun f => f.ok K) = true := congrArg (fun z : AlD => z.1) e
  have e2 : (obsX fa fn fx K).2 = (valD fn).2 := congrArg (fun z : AlD => z.2) e
  obtain ⟨h1, h2⟩ := Bool.and_eq_true_iff.mp e1
  exact ⟨Prod.ext h1 e2, List.all_eq_true.mp h2⟩
def obsXG (n : Nat) (fa : List Fa) (fn : List DefD) (fx : List Fb) (g : Addr → Option Obj) : AlD := obsX fa fn fx (frG g (asD g n))
def hookX (n : Nat) (fa : List Fa) (fn : List DefD) (fx : List Fb) : PySem.W.Hook where
  α := AlD
  obs := fun s => obsXG n fa fn fx s.heap.get?
  val := fun _ => valD fn
  says := fun _ h => ∃ K : PySem.W.Frag, K.In h ∧ SaysX fa fn fx K
  of := fun _ _ e => ⟨_, frG_in, saysX_of e⟩
  keeps := fun _ _ _ ⟨K, z, c⟩ k => ⟨K, z.keeps k, c⟩
theorem obsXG_eq {n : Nat} {fa : List Fa} {fn : List DefD} {fx : List Fb} {g : Addr → Option Obj} {s : Shared} (h : ∀ a, g a = s.heap.get? a) : obsXG n fa fn fx g = (hookX n fa fn fx).obs s := by
  have : g = s.heap.get? := funext h
  subst this; rfl
theorem SaysX.more {fa : List Fa} {fn : List DefD} {fx : List Fb} {K : PySem.W.Frag} (c : SaysX fa fn fx K) (i : Nat) {f : Fb} (h : fx[i]? = some f) : f.ok K = true := c.2 f (List.mem_of_getElem? h)
end J
namespace J
open PySem PySem.Spec PyProof.Rows L2
/-- P of all rows of the table that tell of C -/
def exAll (C : Str) (P : Str → Bool → Prop) : ExT → Prop
  | [] => True
  | (c, l) :: r => (match l.lookup C with
    | some b => P c b
    | none => True) ∧ exAll C P r
theorem exAll_ok {C : Str} {P : Str → Bool → Prop} : ∀ {t : ExT}, exAll C P t → ∀ c b, exIs t c C = some b → P c b
  | [], _, c, b, e => by cases e
  | (c', l) :: r, h, c, b, e => by
    obtain ⟨h1, h2⟩ := h
    unfold exIs at e
    rw [List.lookup_cons] at e
    by_cases hc : c = c'
    · subst hc
      rw [beq_self_eq_true] at e
      have e : l.lookup C = some b := e
      rw [e] at h1
      exact h1
    · have : (c == c') = false := by simpa using hc
      rw [this] at e
      exact exAll_ok h2 c b e
theorem exm_row {K : PySem.W.Frag} {mg : Str → Option Value} {c : Str} {v CV : Value} {b : Bool} (g : mg c = some v) (x : PySem.W.exmOne K v CV = some b) : ∀ cls, mg c = some cls → PySem.W.exmOne K cls CV = some b := fun cls h => by
  rw [g] at h; cases h; exact x
def IsRow (K : PySem.W.Frag) (mg : Str → Option Value) (CV : Value) (c : Str) (b : Bool) : Prop := ∀ cls, mg c = some cls → ∃ A, cls = .ref A ∧ L2.ExcC K A ∧ PySem.W.kitOne K (.ref A) CV = some b
theorem is_row {K : PySem.W.Frag} {mg : Str → Option Value} {c : Str} {A : Addr} {CV : Value} {b : Bool} (g : mg c = some (.ref A)) (E : L2.ExcC K A) (k : PySem.W.kitOne K (.ref A) CV = some b) : IsRow K mg CV c b := fun cls h => by
  rw [g] at h; cases h; exact ⟨A, rfl, E, k⟩
/-- isinstance(e, C), e what was caught -/
def cIsE (t : ExT) (e : Exn) (a : Addr) (i : Nat) (C : Str) : ECode := match e with
  | .plain c => cIsX t c a i C
  | .fld _ _ _ => fun _ => .bad
section
variable {X : Cx} {T : Tp} {W : WX} {n C : Str} {t : ExT} {i : Nat} {p0 p1 p2 pos : Pos}
theorem jx_isE {a : Addr} {oe : Obj} {cls : Value} {d : Option Addr} {pn : List (Addr × Obj)} {e : Exn} {cv : V} {CV : Value} (hz : Zc cls d oe) (hf : ∃ vs, oe.data = .fields vs) (h1 : X.mg e.cls = some cls) (h2 : ∀ c, e = .plain c → d = none) (hN : X.N[i]? = some n) (hv : Vis X.env.scope n)
    (hg0 : Gl X "isinstance") (hm0 : X.mg "isinstance" = none) (hv0 : bootBuiltins "isinstance" = some (.builtin "isinstance")) (hC : PE (X.suite a ((a, oe) :: pn)) (.Name C p2) (tC cv)) (hcv : ∀ u, RelV cv u → u = CV)
    (hk : ∀ c b, exIs t c C = some b → IsRow X.K X.mg CV c b)
    (hs : starEach [.Name n p0, .Name C p2] X.env = (false, eval (.Name n p0) X.env) :: starEach [.Name C p2] X.env := by rfl) (hs2 : starEach [.Name C p2] X.env = [(false, eval (.Name C p2) X.env)] := by rfl) (hpl : (backTo pos (starEach [.Name C p2] X.env)).any (·.1) = false := by rfl)
    (hd : (n == ("__debug__" : Str)) = false := by decide) (hcd : (n == ("__classdict__" : Str)) = false := by decide) :
    JX (X.suite a ((a, oe) :: pn)) T W (.Call (.Name "isinstance" p1) [.Name n p0, .Name C p2] [] pos) (cIsE t e a i C) := by
  cases e with
  | fld c f x => exact ⟨fun ρ σ F H fps Q ok h => h.elim⟩
  | plain c =>
    have hd0 := h2 c rfl
    subst hd0
    by_cases q : ∃ b, exIs t c C = some b
    · obtain ⟨b, hb⟩ := q
      obtain ⟨A, rfl, E, k⟩ := hk c b hb cls h1
      exact jx_isX E hz hf hN hv hg0 hm0 hv0 hC hcv (fun b' hb' => by rw [hb] at hb'; cases hb'; exact k) hs hs2 hpl hd hcd
    · refine ⟨fun ρ σ F H fps Q ok h => ?_⟩
      exfalso
      have h' : PX X.K X.mg T W σ F H fps (cIsX t c a i C ρ) Q := h
      unfold cIsX at h'
      split at h'
      · split at h'
        · split at h'
          · rename_i b hb; exact q ⟨b, hb⟩
          · exact h'
        · exact h'
      · exact h'
end
theorem bt_ValueError : bootBuiltins "ValueError" = some (.type "ValueError") := by decide +kernel
/-- e, as data -/
def cFrzE (f : Env → Out (D × Env)) : ECode := fun ρ => (f ρ).bind fun p => .ok (.d p.1, p.2)
theorem jx_frz {X : Cx} {T : Tp} {W : WX} {e : Expr} {f : Env → Out (D × Env)} (j : JD X T W e f) : JX X T W e (cFrzE f) := by
  refine ⟨fun ρ σ F H fps Q ok h => j.run ρ σ F H fps Q ok ?_⟩
  unfold cFrzE at h
  cases q : f ρ with
  | bad => rw [q] at h; exact h
  | exc x ρ' => rw [q] at h; exact h
  | ok p => rw [q] at h; exact h
end J
namespace J
open PySem PySem.Spec PyProof.Rows L2
open PySem.W (alike dataLt)
def notNon : D → Bool
  | .non => false
  | _ => true
/-- data that may be put in order -/
def alk (x y : D) : Bool := okN 60 x && okN 60 y && alike x.pd y.pd && notNon x
def ltX (x y : D) : Option AV := if alk x y then some (.d (.bl (dataLt x.pd y.pd))) else none
def gtX (x y : D) : Option AV := if alk x y then some (.d (.bl (dataLt y.pd x.pd))) else none
def leX (x y : D) : Option AV := if alk x y then some (.d (.bl (!dataLt y.pd x.pd))) else none
def geX (x y : D) : Option AV := if alk x y then some (.d (.bl (!dataLt x.pd y.pd))) else none
def rOrd (K : PySem.W.Frag) (f : PyData → PyData → Bool) : R2 := fun x y H Q => ∃ d e, Dp K H x d ∧ Dp K H y e ∧ alike d e = true ∧ d ≠ .none ∧ d.depth ≤ 60 ∧ Q (.bl (f d e)) H
section
variable {X : Cx}
theorem dep_min {u : Nat} {d e : PyData} (hu : u + 100 < cLine) (h : d.depth ≤ 60) : u + min d.depth e.depth < cLine := by omega
theorem op_ltX (hu : X.A.units + 100 < cLine) : OpR X (compareOp .Lt) (rOrd X.K dataLt) := by
  intro pins s σ H x y v u Q I rx ry ⟨d, e, hd, he, al, nn, dp, q⟩
  obtain ⟨as, r1⟩ := Dp.reads I d x v hd rx
  obtain ⟨bs, r2⟩ := Dp.reads I e y u he ry
  exact PySem.W.lt_data r1 r2 al nn (dep_min hu dp) ⟨.bl _, H, I, rfl, q⟩
theorem op_gtX (hu : X.A.units + 100 < cLine) : OpR X (compareOp .Gt) (rOrd X.K fun d e => dataLt e d) := by
  intro pins s σ H x y v u Q I rx ry ⟨d, e, hd, he, al, nn, dp, q⟩
  obtain ⟨as, r1⟩ := Dp.reads I d x v hd rx
  obtain ⟨bs, r2⟩ := Dp.reads I e y u he ry
  exact PySem.W.gt_data r1 r2 al nn (dep_min hu dp) ⟨.bl _, H, I, rfl, q⟩
theorem op_leX (hu : X.A.units + 100 < cLine) : OpR X (compareOp .LtE) (rOrd X.K fun d e => !dataLt e d) := by
  intro pins s σ H x y v u Q I rx ry ⟨d, e, hd, he, al, nn, dp, q⟩
  obtain ⟨as, r1⟩ := Dp.reads I d x v hd rx
  obtain ⟨bs, r2⟩ := Dp.reads I e y u he ry
  exact PySem.W.le_data r1 r2 al nn (dep_min hu dp) ⟨.bl _, H, I, rfl, q⟩
theorem op_geX (hu : X.A.units + 100 < cLine) : OpR X (compareOp .GtE) (rOrd X.K fun d e => !dataLt d e) := by
  intro pins s σ H x y v u Q I rx ry ⟨d, e, hd, he, al, nn, dp, q⟩
  obtain ⟨as, r1⟩ := Dp.reads I d x v hd rx
  obtain ⟨bs, r2⟩ := Dp.reads I e y u he ry
  exact PySem.W.ge_data r1 r2 al nn (dep_min hu dp) ⟨.bl _, H, I, rfl, q⟩
end
section
variable {K : PySem.W.Frag} {mg : Str → Option Value} {F H : Hp}
theorem notNon_pd {d : D} (h : notNon d = true) : d.pd ≠ .none := by
  cases d <;> first | (cases h; done) | (intro z; cases z)
theorem op2_ord {f : PyData → PyData → Bool} {g : D → D → Option AV} (hg : ∀ x y, g x y = if alk x y then some (.d (.bl (f x.pd y.pd))) else none) : Op2 K mg (rOrd K f) g := by
  intro F H x y dx dy Q s hx hy h
  rw [hg] at h
  split at h
  · rename_i hk
    unfold alk at hk
    simp only [Bool.and_eq_true] at hk
    obtain ⟨⟨⟨k1, k2⟩, k3⟩, k4⟩ := hk
    exact ⟨dx.pd, dy.pd, hx.dp s k1, hy.dp s k2, k3, notNon_pd k4, (okN_lay 60 dx k1).2, h.same s rfl⟩
  · exact h.none
end
section
variable {X : Cx} {T : Tp} {W : WX} {a b : Expr} {pos : Pos} {fa fb : ECode}
theorem jx_ltX (hu : X.A.units + 100 < cLine) (ja : JX X T W a fa) (jb : JX X T W b fb) (hm : behindInMarks .Lt b = false := by rfl) : JX X T W (.Compare a [.Lt] [b] pos) (cBin ltX fa fb) := jx_cmp (op_ltX hu) (op2_ord fun _ _ => rfl) ja jb hm
theorem jx_gtX (hu : X.A.units + 100 < cLine) (ja : JX X T W a fa) (jb : JX X T W b fb) (hm : behindInMarks .Gt b = false := by rfl) : JX X T W (.Compare a [.Gt] [b] pos) (cBin gtX fa fb) := jx_cmp (op_gtX hu) (op2_ord (f := fun d e => dataLt e d) fun _ _ => rfl) ja jb hm
theorem jx_leX (hu : X.A.units + 100 < cLine) (ja : JX X T W a fa) (jb : JX X T W b fb) (hm : behindInMarks .LtE b = false := by rfl) : JX X T W (.Compare a [.LtE] [b] pos) (cBin leX fa fb) := jx_cmp (op_leX hu) (op2_ord (f := fun d e => !dataLt e d) fun _ _ => rfl) ja jb hm
theorem jx_geX (hu : X.A.units + 100 < cLine) (ja : JX X T W a fa) (jb : JX X T W b fb) (hm : behindInMarks .GtE b = false := by rfl) : JX X T W (.Compare a [.GtE] [b] pos) (cBin geX fa fb) := jx_cmp (op_geX hu) (op2_ord (f := fun d e => !dataLt d e) fun _ _ => rfl) ja jb hm
theorem jt_ltX (hu : X.A.units + 100 < cLine) (ja : JX X T W a fa) (jb : JX X T W b fb) (hm : behindInMarks .Lt b = false := by rfl) : JT X T W (.Compare a [.Lt] [b] pos) (cTest (cBin ltX fa fb)) := jt_cmp (op_ltX hu) (op2_ord fun _ _ => rfl) ja jb hm
theorem jt_gtX (hu : X.A.units + 100 < cLine) (ja : JX X T W a fa) (jb : JX X T W b fb) (hm : behindInMarks .Gt b = false := by rfl) : JT X T W (.Compare a [.Gt] [b] pos) (cTest (cBin gtX fa fb)) := jt_cmp (op_gtX hu) (op2_ord (f := fun d e => dataLt e d) fun _ _ => rfl) ja jb hm
theorem jt_leX (hu : X.A.units + 100 < cLine) (ja : JX X T W a fa) (jb : JX X T W b fb) (hm : behindInMarks .LtE b = false := by rfl) : JT X T W (.Compare a [.LtE] [b] pos) (cTest (cBin leX fa fb)) := jt_cmp (op_leX hu) (op2_ord (f := fun d e => !dataLt e d) fun _ _ => rfl) ja jb hm
theorem jt_geX (hu : X.A.units + 100 < cLine) (ja : JX X T W a fa) (jb : JX X T W b fb) (hm : behindInMarks .GtE b = false := by rfl) : JT X T W (.Compare a [.GtE] [b] pos) (cTest (cBin geX fa fb)) := jt_cmp (op_geX hu) (op2_ord (f := fun d e => !dataLt d e) fun _ _ => rfl) ja jb hm
end
section
variable {prog : Program} {w : World} {A : Around} {E : Value → Shared → Prop} {s : Shared}
theorem min2_run {a b : Value} {da db : PyData} {as bs : List Addr} {Q : Value → Shared → Prop} (hh : A.handled = none) (ra : Reads s.heap a da as) (rb : Reads s.heap b db bs) (al : W.AlikeAll [da, db]) (hu : A.units + 1 + PyData.depthAll [da, db] < cLine)
    (h : ∀ h' tk, (∀ c o, s.heap.get? c = some o → h'.get? c = some o) → Q (if dataLt db da then b else a) { s with heap := h', toks := tk }) : wpAny (model prog w) A (call (.builtin "min") [a, b]) Q E s := by
  have nm : (toString "min" ++ toString ".loop" : String) = "min.loop" := by decide
  refine call_function_tree F.kind_min F.plain_min F.entry_min (F.args_min2 a b) ?_
  show wpAny _ A.in1 (Builtin.Builtins.bindParams "min" ["key", "default"] 0 ⟨[], []⟩ >>= _) _ E s
  refine wpAny_bind (wpAny_of_eq (a := [none, none]) rfl ?_)
  show wpAny _ A.in1 (newTuple [a, b] >>= _) _ E s
  refine wpAny_bind (wpAny_newObj_type ?_)
  have hT : (s.heap.push { cls := .type "tuple", data := .seq #[a, b] }).IsTuple s.heap.objs.size #[a, b] := ⟨_, Heap.get?_push_size _ rfl, rfl, 0, rfl⟩
  have kp : ∀ c o, s.heap.get? c = some o → (s.heap.push { cls := .type "tuple", data := .seq #[a, b] }).get? c = some o := fun c o e => Heap.get?_push_of_some _ e
  have rs : ReadsAll (s.heap.push { cls := .type "tuple", data := .seq #[a, b] }) (#[a, b] : Array Value).toList [da, db] _ := .cons (Reads.keeps kp ra) (.cons (Reads.keeps kp rb) .nil)
  refine wpAny_bind (W.iter_tupleW (A := A.in1) (s := { s with heap := s.heap.push { cls := .type "tuple", data := .seq #[a, b] } }) hh hT fun s₂ e W0 st hfp hw hk => ?_)
  refine wpAny_bind (wpAny_newObj_type ?_)
  rw [nm]
  refine wpAny_pure ⟨plainId_quiet F.plain_min_loop _, codeAny_min_loop_firstH W0 _ hw _ (PySem.W.cmpIn_lt (s := { s with heap := s.heap.push { cls := .type "tuple", data := .seq #[a, b] } }) (A := A.in1) rs al (by show A.units + 1 + _ < _; exact hu)) s₂.heap.objs.size (fun hm => Nat.lt_irrefl _ (hfp _ hm)) (fresh_in hk) _ (by simp) (fun b o e => Heap.get?_push_of_some _ (hk b o e))
    (W0.frame 0 s₂ _ s₂.toks st (Nat.le_refl _) fun b _ o e => Heap.get?_push_of_some _ e) (Heap.get?_push_size _ rfl) fun v s' hP hm => ?_⟩
  obtain ⟨h', tk, rfl, hk'⟩ := PySem.W.moved_old e rfl (Moved.drop_new (tk := s₂.toks) hm (Nat.le_refl _))
  have := h h' tk fun c o ec => hk' c o (kp c o ec)
  have ev : v = if dataLt db da then b else a := by
    have e1 : (#[a, b] : Array Value).size - 1 = 1 := rfl
    rw [e1] at hP
    have e2 : argBest (fun i j => dataLt ([da, db].getD i .none) ([da, db].getD j .none)) 1 = if dataLt db da then 1 else 0 := rfl
    rw [e2] at hP
    cases q : dataLt db da with
    | true => rw [q] at hP; simpa using hP.symm
    | false => rw [q] at hP; simpa using hP.symm
  rw [ev]
  exact this
end

def CallF (K : PySem.W.Frag) (mg : Str → Option Value) (r : List V → Hp → VK → Prop) (g : List D → Option AV) : Prop :=
  ∀ (F H : Hp) (xs : List V) (ds : List D) (Q : VK), Sub F H → Reps K mg F ds xs → GP K mg F H (g ds) Q → r xs H Q
def cFn (g : List D → Option AV) (gl : Env → Out (List D × Env)) : ECode := fun ρ => (gl ρ).bind fun p => fin (g p.1) p.2
def rMin2 (K : PySem.W.Frag) : List V → Hp → VK → Prop := fun xs H Q => ∃ x y d e, xs = [x, y] ∧ Dp K H x d ∧ Dp K H y e ∧ alike d e = true ∧ alike e d = true ∧ alike d d = true ∧ alike e e = true ∧ d ≠ .none ∧ e ≠ .none ∧ d.depth ≤ 60 ∧ e.depth ≤ 60 ∧ Q (if dataLt e d then y else x) H
def min2X : List D → Option AV
  | [x, y] => if alk x y && alk y x && alk x x && alk y y then some (.d (if dataLt y.pd x.pd then y else x)) else none
  | _ => none
section
variable {X : Cx} {T : Tp} {W : WX} {a b e : Expr} {es : List Expr} {pos p : Pos} {gl : Env → Out (List D × Env)}
theorem jx_bF {id : String} {x : Str} {r : List V → Hp → VK → Prop} {g : List D → Option AV} (hc : CallR X (.builtin id) r) (hr : CallF X.K X.mg r g) (hg : Gl X x) (hm : X.mg x = none) (hv : bootBuiltins x = some (.builtin id)) (ja : JDs X T W (e :: es) gl)
    (he : starEach (e :: es) X.env = (false, eval e X.env) :: starEach es X.env := by rfl) (hpl : (backTo pos (starEach es X.env)).any (·.1) = false := by rfl) (hn : x ≠ "__name__" := by decide) (hdb : (x == ("__debug__" : Str)) = false := by decide) :
    JX X T W (.Call (.Name x p) (e :: es) [] pos) (cFn g gl) := by
  refine ⟨fun ρ σ F H fps Q ok h => WE.of (pe_callB hc hg hm hv (WA.pa X (e :: es)) hn hdb he hpl) ?_⟩
  refine ja.next ok FP.px h fun xs ρ1 vs F1 H1 fps1 t1 r1 h1 => ?_
  exact hr F1 H1 vs xs Q t1.ok.sub r1 (GP.of_px t1.ok (PX.from t1 h1))
theorem cr_min2 (hc : X.calm = true) (hu : X.A.units + 100 < cLine) : CallR X (.builtin "min") (rMin2 X.K) := by
  intro pins s σ H xs us Q I r h
  obtain ⟨x, y, d, e, rfl, hd, he, a1, a2, a3, a4, n1, n2, p1, p2, q⟩ := h
  obtain ⟨u, w', rfl, rx, ry⟩ := vals2 r
  obtain ⟨as, r1⟩ := Dp.reads I d x u hd rx
  obtain ⟨bs, r2⟩ := Dp.reads I e y w' he ry
  refine min2_run (I.ok.hd hc) r1 r2 ⟨fun i hi j hj => ?_, fun i hi => ?_⟩ ?_ fun h' tk k => ?_
  · simp only [List.mem_cons, List.not_mem_nil, or_false] at hi hj
    rcases hi with rfl | rfl <;> rcases hj with rfl | rfl <;> assumption
  · simp only [List.mem_cons, List.not_mem_nil, or_false] at hi
    rcases hi with rfl | rfl <;> assumption
  · have : PyData.depthAll [d, e] ≤ 60 := by simp only [PyData.depthAll]; omega
    omega
  · refine ⟨if dataLt e d then y else x, H, I.kept k, ?_, q⟩
    split
    · exact ry
    · exact rx
theorem callF_min2 : CallF X.K X.mg (rMin2 X.K) min2X := by
  intro F H xs ds Q s rs h
  unfold min2X at h
  split at h
  · rename_i x y
    obtain ⟨_, _, rfl, rx, rs⟩ := rs
    obtain ⟨_, _, rfl, ry, rs⟩ := rs
    have rs : _ = [] := rs
    subst rs
    · · split at h
        · rename_i hk
          simp only [Bool.and_eq_true] at hk
          obtain ⟨⟨⟨k1, k2⟩, k3⟩, k4⟩ := hk
          unfold alk at k1 k2 k3 k4
          simp only [Bool.and_eq_true] at k1 k2 k3 k4
          refine ⟨_, _, x.pd, y.pd, rfl, (Rep.top s rx).dp s k1.1.1.1, (Rep.top s ry).dp s k1.1.1.2, k1.1.2, k2.1.2, k3.1.2, k4.1.2, notNon_pd k1.2, notNon_pd k2.2, (okN_lay 60 x k1.1.1.1).2, (okN_lay 60 y k1.1.1.2).2, ?_⟩
          split at h
          · rename_i hl; rw [if_pos hl]; exact h.same s ry
          · rename_i hl; rw [if_neg hl]; exact h.same s rx
        · exact h.none
  · exact h.none
theorem jx_min2X (hc : X.calm = true) (hu : X.A.units + 100 < cLine) (hg : Gl X "min") (hm : X.mg "min" = none) (ja : JDs X T W [a, b] gl) (he : starEach [a, b] X.env = (false, eval a X.env) :: starEach [b] X.env := by rfl) (hpl : (backTo pos (starEach [b] X.env)).any (·.1) = false := by rfl) :
    JX X T W (.Call (.Name "min" p) [a, b] [] pos) (cFn min2X gl) := jx_bF (cr_min2 hc hu) callF_min2 hg hm bt_min ja he hpl
end
end J
namespace J
open PySem PySem.Spec PyProof.Rows L2
theorem forF_go {g : TgC} {f : SCode} (I : Nat → Env → Prop) : ∀ (ds : List D) (k : Nat) (ρ : Env), (∀ i d ρ, ds[i]? = some d → I (k + i) ρ → ∃ ρ1 ρ2, g d ρ = .ok ρ1 ∧ f ρ1 = .ok (.nx ρ2) ∧ I (k + i + 1) ρ2) → I k ρ → ∃ ρ', forF g f ds ρ = .ok (.nx ρ') ∧ I (k + ds.length) ρ'
  | [], k, ρ, _, h0 => ⟨ρ, rfl, h0⟩
  | d :: ds, k, ρ, h, h0 => by
    obtain ⟨ρ1, ρ2, e1, e2, h2⟩ := h 0 d ρ rfl h0
    obtain ⟨ρ', e, h3⟩ := forF_go I ds (k + 1) ρ2 (fun i d ρ e hi => by
      obtain ⟨a, b, q1, q2, q3⟩ := h (i + 1) d ρ (by simpa using e) (by rw [show k + (i + 1) = k + 1 + i from by omega]; exact hi)
      exact ⟨a, b, q1, q2, by rw [show k + 1 + i + 1 = k + (i + 1) + 1 from by omega]; exact q3⟩) h2
    refine ⟨ρ', ?_, by rw [List.length_cons, show k + (ds.length + 1) = k + 1 + ds.length from by omega]; exact h3⟩
    simp only [forF, e1, e2]
    exact e
/-- a loop that ends -/
theorem forF_inv {g : TgC} {f : SCode} (I : Nat → Env → Prop) {ds : List D} {ρ : Env} (h : ∀ i d ρ, ds[i]? = some d → I i ρ → ∃ ρ1 ρ2, g d ρ = .ok ρ1 ∧ f ρ1 = .ok (.nx ρ2) ∧ I (i + 1) ρ2) (h0 : I 0 ρ) : ∃ ρ', forF g f ds ρ = .ok (.nx ρ') ∧ I ds.length ρ' := by
  have := forF_go I ds 0 ρ (fun i d ρ e hi => by simpa using h i d ρ e (by simpa using hi)) h0
  simpa using this
/-- .. or is left by a return -/
theorem forF_goR {g : TgC} {f : SCode} (I : Nat → Env → Prop) (R : AV → Env → Prop) : ∀ (ds : List D) (k : Nat) (ρ : Env), (∀ i d ρ, ds[i]? = some d → I (k + i) ρ → ∃ ρ1, g d ρ = .ok ρ1 ∧ ((∃ ρ2, f ρ1 = .ok (.nx ρ2) ∧ I (k + i + 1) ρ2) ∨ ∃ av ρ2, f ρ1 = .ok (.rt av ρ2) ∧ R av ρ2)) → I k ρ →
    (∃ ρ', forF g f ds ρ = .ok (.nx ρ') ∧ I (k + ds.length) ρ') ∨ ∃ av ρ', forF g f ds ρ = .ok (.rt av ρ') ∧ R av ρ'
  | [], k, ρ, _, h0 => .inl ⟨ρ, rfl, h0⟩
  | d :: ds, k, ρ, h, h0 => by
    obtain ⟨ρ1, e1, h2⟩ := h 0 d ρ rfl h0
    rcases h2 with ⟨ρ2, e2, h2⟩ | ⟨av, ρ2, e2, h2⟩
    · have := forF_goR I R ds (k + 1) ρ2 (fun i d ρ e hi => by
        obtain ⟨a, q1, q2⟩ := h (i + 1) d ρ (by simpa using e) (by rw [show k + (i + 1) = k + 1 + i from by omega]; exact hi)
        refine ⟨a, q1, ?_⟩
        rw [show k + 1 + i + 1 = k + (i + 1) + 1 from by omega]; exact q2) h2
      rcases this with ⟨ρ', e, h3⟩ | ⟨av, ρ', e, h3⟩
      · refine .inl ⟨ρ', ?_, by rw [List.length_cons, show k + (ds.length + 1) = k + 1 + ds.length from by omega]; exact h3⟩
        simp only [forF, e1, e2]
        exact e
      · refine .inr ⟨av, ρ', ?_, h3⟩
        simp only [forF, e1, e2]
        exact e
    · refine .inr ⟨av, ρ2, ?_, h2⟩
      simp only [forF, e1, e2]
theorem forF_ret {g : TgC} {f : SCode} (I : Nat → Env → Prop) (R : AV → Env → Prop) {ds : List D} {ρ : Env} (h : ∀ i d ρ, ds[i]? = some d → I i ρ → ∃ ρ1, g d ρ = .ok ρ1 ∧ ((∃ ρ2, f ρ1 = .ok (.nx ρ2) ∧ I (i + 1) ρ2) ∨ ∃ av ρ2, f ρ1 = .ok (.rt av ρ2) ∧ R av ρ2)) (h0 : I 0 ρ) :
    (∃ ρ', forF g f ds ρ = .ok (.nx ρ') ∧ I ds.length ρ') ∨ ∃ av ρ', forF g f ds ρ = .ok (.rt av ρ') ∧ R av ρ' := by
  have := forF_goR I R ds 0 ρ (fun i d ρ e hi => by simpa using h i d ρ e (by simpa using hi)) h0
  simpa using this
theorem rangeD_len {lo : Int} {n : Nat} : (rangeD lo n).length = n := by simp [rangeD]
theorem rangeD_get {lo : Int} {n i : Nat} {d : D} (h : (rangeD lo n)[i]? = some d) : i < n ∧ d = .int (lo + i) := by
  unfold rangeD at h
  rw [List.getElem?_map] at h
  cases q : (List.range n)[i]? with
  | none => rw [q] at h; cases h
  | some j =>
    rw [q] at h
    have hj := (List.getElem?_eq_some_iff.mp q).1
    rw [List.length_range] at hj
    rw [List.getElem?_range hj] at q
    cases q; cases h
    exact ⟨hj, rfl⟩
/-- an own list of numbers -/
abbrev IL (xs : List Int) : SV := .o (.b (.l (xs.map .int)))
/-- a list of numbers, as data -/
abbrev DL (xs : List Int) : SV := .d (.lst (xs.map .int))
/-- a list of one number, of its own -/
abbrev PL (i : Int) : SV := .o (.b (.l [.int i]))
abbrev OI (i : Int) : Option SV := some (.d (.int i))
end J
namespace J
section
variable {fa fb fc : ECode} {t u : Env → Out (Bool × Env)} {f g : SCode} {ρ ρ' : Env} {p q : AV} {x y : D} {w : Own} {i j k : Nat} {b : Bool} {h : D → D → Option AV} {h1 h2 : D → Option AV}
def kVar (i : Nat) (ρ : Env) : Option (Option SV) → Out (AV × Env)
  | some (some (.d x)) => .ok (.d x, ρ)
  | some (some (.o _)) => .ok (.s i, ρ)
  | _ => .bad
theorem v_var : cVar i ρ = kVar i ρ ρ[i]? := by
  unfold cVar
  rcases ρ[i]? with _ | _ | _ | _ <;> rfl
theorem v_var_d : kVar i ρ (some (some (.d x))) = .ok (.d x, ρ) := Eq.trans rfl rfl
theorem v_var_o : kVar i ρ (some (some (.o w))) = .ok (.s i, ρ) := Eq.trans rfl rfl
theorem v_c : cC x ρ = .ok (.d x, ρ) := Eq.trans rfl rfl
theorem v_bind {α β : Type} {a : α} {k : α → Out β} : (Out.ok a).bind k = k a := Eq.trans rfl rfl
theorem v_of {α : Type} {a : α} : Out.of (some a) = .ok a := Eq.trans rfl rfl
theorem v_fin {z : AV} : fin (some z) ρ = .ok (z, ρ) := Eq.trans rfl rfl
def kView : Option (Option SV) → Option D
  | some (some (.d x)) => some x
  | some (some (.o w)) => w.view
  | _ => none
theorem v_vd : AV.view (.d x) ρ = some x := Eq.trans rfl rfl
theorem v_vo : AV.view (.o w) ρ = w.view := Eq.trans rfl rfl
theorem v_vs : AV.view (.s j) ρ = kView ρ[j]? := by
  show (match ρ[j]? with
    | some (some (.d x)) => some x
    | some (some (.o w)) => w.view
    | _ => none) = _
  rcases ρ[j]? with _ | _ | _ | _ <;> rfl
theorem v_vs_d : kView (some (some (.d x))) = some x := Eq.trans rfl rfl
theorem v_vs_o : kView (some (some (.o w))) = w.view := Eq.trans rfl rfl
theorem v_wl {ds : List D} : Own.view (.b (.l ds)) = some (.lst ds) := Eq.trans rfl rfl
theorem v_wm {t : Bool} {ks vs : List D} : Own.view (.b (.m t ks vs)) = some (.dic t ks vs) := Eq.trans rfl rfl
def kV1 (g : D → Option AV) : Option D → Option AV
  | some x => g x
  | none => none
def kV2 (g : D → D → Option AV) : Option D → Option D → Option AV
  | some x, some y => g x y
  | _, _ => none
theorem v_view1 : view1 h1 p ρ = kV1 h1 (p.view ρ) := by
  unfold view1 kV1
  rcases p.view ρ with _ | _ <;> rfl
theorem v_view2 : view2 h p q ρ = kV2 h (p.view ρ) (q.view ρ) := by
  unfold view2 kV2
  rcases p.view ρ with _ | _ <;> rcases q.view ρ with _ | _ <;> rfl
theorem v_kv1 : kV1 h1 (some x) = h1 x := Eq.trans rfl rfl
theorem v_kv2 : kV2 h (some x) (some y) = h x y := Eq.trans rfl rfl
def kBin1 (g : D → D → Option AV) (fb : ECode) (z : AV × Env) : Out (AV × Env) := (fb z.2).bind fun q => fin (view2 g z.1 q.1 q.2) q.2
def kBin2 (g : D → D → Option AV) (p : AV) (z : AV × Env) : Out (AV × Env) := fin (view2 g p z.1 z.2) z.2
theorem v_bin : cBin h fa fb ρ = (fa ρ).bind (kBin1 h fb) := Eq.trans rfl rfl
theorem v_bin1 : kBin1 h fb (p, ρ) = (fb ρ).bind (kBin2 h p) := Eq.trans rfl rfl
theorem v_bin2 : kBin2 h p (q, ρ) = fin (view2 h p q ρ) ρ := Eq.trans rfl rfl
theorem v_ix : cIx fa fb ρ = (fa ρ).bind (kBin1 itemD fb) := Eq.trans rfl rfl
def kUn (g : D → Option AV) (z : AV × Env) : Out (AV × Env) := fin (view1 g z.1 z.2) z.2
theorem v_un : cUn h1 fa ρ = (fa ρ).bind (kUn h1) := Eq.trans rfl rfl
theorem v_un1 : kUn h1 (p, ρ) = fin (view1 h1 p ρ) ρ := Eq.trans rfl rfl
theorem v_test : cTest fa ρ = (fa ρ).bind boolOf := Eq.trans rfl rfl
theorem v_test1 : boolOf (.d (.bl b), ρ) = .ok (b, ρ) := Eq.trans rfl rfl
def kTru (p : AV × Env) : Out (Bool × Env) := (Out.of ((p.1.view p.2).bind truD)).bind fun k => .ok (k, p.2)
def kTru2 (ρ : Env) (k : Bool) : Out (Bool × Env) := .ok (k, ρ)
theorem v_tru : cTruth fa ρ = (fa ρ).bind kTru := Eq.trans rfl rfl
theorem v_tru1 : kTru (p, ρ) = (Out.of ((p.view ρ).bind truD)).bind (kTru2 ρ) := Eq.trans rfl rfl
theorem v_tru2 : kTru2 ρ b = .ok (b, ρ) := Eq.trans rfl rfl
theorem v_obind {α β : Type} {a : α} {k : α → Option β} : (some a).bind k = k a := Eq.trans rfl rfl
def kNotT (p : Bool × Env) : Out (Bool × Env) := .ok (!p.1, p.2)
theorem v_notT : cNotT t ρ = (t ρ).bind kNotT := Eq.trans rfl rfl
theorem v_notT1 : kNotT (b, ρ) = .ok (!b, ρ) := Eq.trans rfl rfl
def kAndT (u : Env → Out (Bool × Env)) (p : Bool × Env) : Out (Bool × Env) := if p.1 then u p.2 else .ok (false, p.2)
theorem v_andT : cAndT t u ρ = (t ρ).bind (kAndT u) := Eq.trans rfl rfl
theorem v_andT1 : kAndT u (true, ρ) = u ρ := Eq.trans rfl rfl
theorem v_andT2 : kAndT u (false, ρ) = .ok (false, ρ) := Eq.trans rfl rfl
def kOrT (u : Env → Out (Bool × Env)) (p : Bool × Env) : Out (Bool × Env) := if p.1 then .ok (true, p.2) else u p.2
theorem v_orT : cOrT t u ρ = (t ρ).bind (kOrT u) := Eq.trans rfl rfl
theorem v_orT1 : kOrT u (true, ρ) = .ok (true, ρ) := Eq.trans rfl rfl
theorem v_orT2 : kOrT u (false, ρ) = u ρ := Eq.trans rfl rfl
def kNot (p : Bool × Env) : Out (AV × Env) := .ok (.d (.bl (!p.1)), p.2)
theorem v_not : cNot fa ρ = (cTest fa ρ).bind kNot := Eq.trans rfl rfl
theorem v_not1 : kNot (b, ρ) = .ok (.d (.bl (!b)), ρ) := Eq.trans rfl rfl
def kAnd (g : ECode) (p : Bool × Env) : Out (AV × Env) := if p.1 then g p.2 else .ok (.d (.bl false), p.2)
theorem v_and : cAnd fa fb ρ = (cTest fa ρ).bind (kAnd fb) := Eq.trans rfl rfl
theorem v_and1 : kAnd fb (true, ρ) = fb ρ := Eq.trans rfl rfl
theorem v_and2 : kAnd fb (false, ρ) = .ok (.d (.bl false), ρ) := Eq.trans rfl rfl
def kOr (g : ECode) (p : Bool × Env) : Out (AV × Env) := if p.1 then .ok (.d (.bl true), p.2) else g p.2
theorem v_or : cOr fa fb ρ = (cTest fa ρ).bind (kOr fb) := Eq.trans rfl rfl
theorem v_or1 : kOr fb (true, ρ) = .ok (.d (.bl true), ρ) := Eq.trans rfl rfl
theorem v_or2 : kOr fb (false, ρ) = fb ρ := Eq.trans rfl rfl
def kIf (fa fb : ECode) (p : Bool × Env) : Out (AV × Env) := if p.1 then fa p.2 else fb p.2
theorem v_if : cIf t fa fb ρ = (t ρ).bind (kIf fa fb) := Eq.trans rfl rfl
theorem v_if1 : kIf fa fb (true, ρ) = fa ρ := Eq.trans rfl rfl
theorem v_if2 : kIf fa fb (false, ρ) = fb ρ := Eq.trans rfl rfl
def kCh1 (g g' : D → D → Option AV) (fb fc : ECode) (p : AV × Env) : Out (AV × Env) := (fb p.2).bind fun q => (fin (view2 g p.1 q.1 q.2) q.2).bind fun r => (boolOf r).bind fun k => if k.1 then (fc k.2).bind fun z => fin (view2 g' q.1 z.1 z.2) z.2 else .ok (.d (.bl false), k.2)
def kCh2 (g g' : D → D → Option AV) (fc : ECode) (p q : AV × Env) : Out (AV × Env) := (fin (view2 g p.1 q.1 q.2) q.2).bind fun r => (boolOf r).bind fun k => if k.1 then (fc k.2).bind fun z => fin (view2 g' q.1 z.1 z.2) z.2 else .ok (.d (.bl false), k.2)
def kCh3 (g' : D → D → Option AV) (fc : ECode) (q : AV) (r : AV × Env) : Out (AV × Env) := (boolOf r).bind fun k => if k.1 then (fc k.2).bind fun z => fin (view2 g' q z.1 z.2) z.2 else .ok (.d (.bl false), k.2)
def kCh4 (g' : D → D → Option AV) (fc : ECode) (q : AV) (k : Bool × Env) : Out (AV × Env) := if k.1 then (fc k.2).bind fun z => fin (view2 g' q z.1 z.2) z.2 else .ok (.d (.bl false), k.2)
variable {h' : D → D → Option AV}
theorem v_ch : cChain h h' fa fb fc ρ = (fa ρ).bind (kCh1 h h' fb fc) := Eq.trans rfl rfl
theorem v_ch1 : kCh1 h h' fb fc (p, ρ) = (fb ρ).bind (kCh2 h h' fc (p, ρ)) := Eq.trans rfl rfl
theorem v_ch2 : kCh2 h h' fc (p, ρ) (q, ρ') = (fin (view2 h p q ρ') ρ').bind (kCh3 h' fc q) := Eq.trans rfl rfl
theorem v_ch3 {r : AV × Env} : kCh3 h' fc q r = (boolOf r).bind (kCh4 h' fc q) := Eq.trans rfl rfl
theorem v_ch4 : kCh4 h' fc q (true, ρ) = (fc ρ).bind (kBin2 h' q) := Eq.trans rfl rfl
theorem v_ch5 : kCh4 h' fc q (false, ρ) = .ok (.d (.bl false), ρ) := Eq.trans rfl rfl
def kFrz (p : AV × Env) : Out (D × Env) := Out.of (p.1.frz p.2)
theorem v_D : cD fa ρ = (fa ρ).bind kFrz := Eq.trans rfl rfl
theorem v_frz_d : kFrz (.d x, ρ) = .ok (x, ρ) := Eq.trans rfl rfl
theorem v_frz_o : kFrz (.o w, ρ) = .ok (w.toD, ρ) := Eq.trans rfl rfl
def kFs (j : Nat) (ρ : Env) : Option (Option SV) → Out (D × Env)
  | some (some (.d x)) => .ok (x, ρ)
  | some (some (.o w)) => .ok (w.toD, ρ.set j (some (.d w.toD)))
  | _ => .bad
theorem v_frz_s : kFrz (.s j, ρ) = kFs j ρ ρ[j]? := by
  show Out.of (match ρ[j]? with
    | some (some (.d x)) => some (x, ρ)
    | some (some (.o w)) => some (w.toD, ρ.set j (some (.d w.toD)))
    | _ => none) = _
  rcases ρ[j]? with _ | _ | _ | _ <;> rfl
theorem v_frz_s1 : kFs j ρ (some (some (.d x))) = .ok (x, ρ) := Eq.trans rfl rfl
theorem v_frz_s2 : kFs j ρ (some (some (.o w))) = .ok (w.toD, ρ.set j (some (.d w.toD))) := Eq.trans rfl rfl
theorem v_toD_l {ds : List D} : Own.toD (.b (.l ds)) = .lst ds := Eq.trans rfl rfl
variable {fd : Env → Out (D × Env)} {fs : Env → Out (List D × Env)} {ds : List D}
def kCons (g : Env → Out (List D × Env)) (p : D × Env) : Out (List D × Env) := (g p.2).bind fun q => .ok (p.1 :: q.1, q.2)
def kCons2 (x : D) (q : List D × Env) : Out (List D × Env) := .ok (x :: q.1, q.2)
theorem v_nil : cNil ρ = .ok ([], ρ) := Eq.trans rfl rfl
theorem v_cons : cCons fd fs ρ = (fd ρ).bind (kCons fs) := Eq.trans rfl rfl
theorem v_cons1 : kCons fs (x, ρ) = (fs ρ).bind (kCons2 x) := Eq.trans rfl rfl
theorem v_cons2 : kCons2 x (ds, ρ) = .ok (x :: ds, ρ) := Eq.trans rfl rfl
def kTup (p : List D × Env) : Out (AV × Env) := fin (if p.1.length ≤ lim then some (.d (.tup p.1)) else none) p.2
def kLst (p : List D × Env) : Out (AV × Env) := fin (if p.1.length ≤ lim then some (.o (.b (.l p.1))) else none) p.2
theorem v_tup : cTup fs ρ = (fs ρ).bind kTup := Eq.trans rfl rfl
theorem v_tup0 : kTup ([], ρ) = .ok (.d (.tup []), ρ) := Eq.trans rfl rfl
theorem v_tup1 : kTup ([x], ρ) = .ok (.d (.tup [x]), ρ) := Eq.trans rfl rfl
theorem v_tup2 : kTup ([x, y], ρ) = .ok (.d (.tup [x, y]), ρ) := Eq.trans rfl rfl
theorem v_tup3 {z : D} : kTup ([x, y, z], ρ) = .ok (.d (.tup [x, y, z]), ρ) := Eq.trans rfl rfl
theorem v_lst : cLst fs ρ = (fs ρ).bind kLst := Eq.trans rfl rfl
theorem v_lst0 : kLst ([], ρ) = .ok (.o (.b (.l [])), ρ) := Eq.trans rfl rfl
theorem v_lst1 : kLst ([x], ρ) = .ok (.o (.b (.l [x])), ρ) := Eq.trans rfl rfl
theorem v_lst2 : kLst ([x, y], ρ) = .ok (.o (.b (.l [x, y])), ρ) := Eq.trans rfl rfl
def kSet (i : Nat) (p : AV × Env) : Out Flow := (Out.of (p.1.keep p.2)).bind (setS i)
theorem v_set : cSet i fa ρ = (fa ρ).bind (kSet i) := Eq.trans rfl rfl
theorem v_set_d : kSet i (.d x, ρ) = setS i (.d x, ρ) := Eq.trans rfl rfl
theorem v_set_o : kSet i (.o w, ρ) = setS i (.o w, ρ) := Eq.trans rfl rfl
def kSetS (i j : Nat) (ρ : Env) : Option (Option SV) → Out Flow
  | some (some (.d x)) => setS i (.d x, ρ)
  | some (some (.o w)) => setS i (.d w.toD, ρ.set j (some (.d w.toD)))
  | _ => .bad
theorem v_set_s : kSet i (.s j, ρ) = kSetS i j ρ ρ[j]? := by
  show (Out.of ((match ρ[j]? with
    | some (some (.d x)) => some (x, ρ)
    | some (some (.o w)) => some (w.toD, ρ.set j (some (.d w.toD)))
    | _ => none : Option (D × Env)).map fun p => (SV.d p.1, p.2))).bind (setS i) = _
  rcases ρ[j]? with _ | _ | _ | _ <;> rfl
theorem v_set_s1 : kSetS i j ρ (some (some (.d x))) = setS i (.d x, ρ) := Eq.trans rfl rfl
theorem v_set_s2 : kSetS i j ρ (some (some (.o w))) = setS i (.d w.toD, ρ.set j (some (.d w.toD))) := Eq.trans rfl rfl
theorem v_setS {sv : SV} (hi : i < ρ.length) : setS i (sv, ρ) = .ok (.nx (ρ.set i (some sv))) := by unfold setS; dsimp only; rw [if_pos hi]
def kDrop (p : AV × Env) : Out Flow := .ok (.nx p.2)
theorem v_drop : cDrop fa ρ = (fa ρ).bind kDrop := Eq.trans rfl rfl
theorem v_drop1 : kDrop (p, ρ) = .ok (.nx ρ) := Eq.trans rfl rfl
def kRet (p : AV × Env) : Out Flow := .ok (.rt p.1 p.2)
theorem v_ret : cRet fa ρ = (fa ρ).bind kRet := Eq.trans rfl rfl
theorem v_ret1 : kRet (p, ρ) = .ok (.rt p ρ) := Eq.trans rfl rfl
theorem v_retN : cRetN ρ = .ok (.rt (.d .non) ρ) := Eq.trans rfl rfl
theorem v_pass : cPass ρ = .ok (.nx ρ) := Eq.trans rfl rfl
def kSeq (g : SCode) : Out Flow → Out Flow
  | .ok (.nx ρ') => g ρ'
  | r => r
theorem v_seq : cSeq f g ρ = kSeq g (f ρ) := by
  unfold cSeq kSeq
  rcases f ρ with (_ | _ | _ | _) | _ | _ <;> rfl
theorem v_seq1 : kSeq g (.ok (.nx ρ)) = g ρ := Eq.trans rfl rfl
theorem v_seq2 : kSeq g (.ok (.rt p ρ)) = .ok (.rt p ρ) := Eq.trans rfl rfl
def kIfS (f g : SCode) (p : Bool × Env) : Out Flow := if p.1 then f p.2 else g p.2
theorem v_ifS : cIfS t f g ρ = (t ρ).bind (kIfS f g) := Eq.trans rfl rfl
theorem v_ifS1 : kIfS f g (true, ρ) = f ρ := Eq.trans rfl rfl
theorem v_ifS2 : kIfS f g (false, ρ) = g ρ := Eq.trans rfl rfl
def kFor (g : TgC) (f : SCode) (p : List D × Env) : Out Flow := forF g f p.1 p.2
variable {fi : ICode} {tg : TgC}
theorem v_for : cFor fi tg f ρ = (fi ρ).bind (kFor tg f) := Eq.trans rfl rfl
theorem v_for1 : kFor tg f (ds, ρ) = forF tg f ds ρ := Eq.trans rfl rfl
def kRange (f : List D → Option (List D)) (p : List D × Env) : Out (List D × Env) := (Out.of (f p.1)).bind fun ds => .ok (ds, p.2)
variable {rf : List D → Option (List D)} {xs : List D}
theorem v_range : cRange rf fs ρ = (fs ρ).bind (kRange rf) := Eq.trans rfl rfl
theorem v_range1 (e : rf xs = some ds) : kRange rf (xs, ρ) = .ok (ds, ρ) := by unfold kRange; dsimp only; rw [e]; rfl
theorem v_r1 {n : Int} (h1 : -4611686018427387904 ≤ n) (h2 : n < 4611686018427387904) : rItems1 [.int n] = some (rangeD 0 n.toNat) := by
  unfold rItems1 rg62
  dsimp only
  rw [if_pos]
  simp only [Bool.and_eq_true, decide_eq_true_eq]
  omega
theorem v_r2 {m n : Int} (h1 : -4611686018427387904 ≤ m) (h2 : m < 4611686018427387904) (h3 : -4611686018427387904 ≤ n) (h4 : n < 4611686018427387904) : rItems2 [.int m, .int n] = some (rangeD m (n - m).toNat) := by
  unfold rItems2 rg62
  dsimp only
  rw [if_pos]
  simp only [Bool.and_eq_true, decide_eq_true_eq]
  omega
variable {kk : W0 → Bool} {gm : W0 → List D → Option (D × W0)}
def kMut (k : W0 → Bool) (g : W0 → List D → Option (D × W0)) (fa : Env → Out (List D × Env)) (p : AV × Env) : Out (AV × Env) := match plOf p.1 with
  | some q => if kindAt k q p.2 then (fa p.2).bind fun z => mutEnd g q z.1 z.2 else .bad
  | none => .bad
def kMutS (k : W0 → Bool) (g : W0 → List D → Option (D × W0)) (fa : Env → Out (List D × Env)) (j : Nat) (ρ : Env) : Bool → Out (AV × Env)
  | true => (fa ρ).bind fun z => mutEnd g (.s j) z.1 z.2
  | false => .bad
def kMut2 (g : W0 → List D → Option (D × W0)) (j : Nat) (z : List D × Env) : Out (AV × Env) := mutEnd g (.s j) z.1 z.2
theorem v_mut : cMut kk gm fa fs ρ = (fa ρ).bind (kMut kk gm fs) := Eq.trans rfl rfl
theorem v_mut_s : kMut kk gm fs (.s j, ρ) = kMutS kk gm fs j ρ (kindAt kk (.s j) ρ) := by
  show (if kindAt kk (.s j) ρ then (fs ρ).bind fun z => mutEnd gm (.s j) z.1 z.2 else .bad) = _
  rcases kindAt kk (.s j) ρ with _ | _ <;> rfl
theorem v_mut_s1 : kMutS kk gm fs j ρ true = (fs ρ).bind (kMut2 gm j) := Eq.trans rfl rfl
def kGetB : Option (Option SV) → Option W0
  | some (some (.o (.b w))) => some w
  | _ => none
theorem v_getB : getB j ρ = kGetB ρ[j]? := by
  unfold getB kGetB
  rcases ρ[j]? with _ | _ | _ | (_ | _) <;> rfl
theorem v_getB1 {w : W0} : kGetB (some (some (.o (.b w)))) = some w := Eq.trans rfl rfl
def kKind (k : W0 → Bool) : Option W0 → Bool
  | some w => k w
  | none => false
theorem v_kind : kindAt kk (.s j) ρ = kKind kk (getB j ρ) := by
  show (match getB j ρ with
    | some w => kk w
    | none => false) = _
  rcases getB j ρ with _ | _ <;> rfl
theorem v_kind1 {w : W0} : kKind kk (some w) = kk w := Eq.trans rfl rfl
theorem v_isL : isL (.l ds) = true := Eq.trans rfl rfl
def kMutE (g : W0 → List D → Option (D × W0)) (j : Nat) (ds : List D) (ρ : Env) : Option W0 → Out (AV × Env)
  | some w => if flat1 w then (match g w ds with
    | some (d, w') => .ok (.d d, putB j w' ρ)
    | none => .bad) else .bad
  | none => .bad
theorem v_mut2 : kMut2 gm j (ds, ρ) = kMutE gm j ds ρ (getB j ρ) := by
  show (match getB j ρ with
    | some w => if flat1 w then (match gm w ds with
      | some (d, w') => .ok (.d d, putB j w' ρ)
      | none => .bad) else .bad
    | none => .bad : Out (AV × Env)) = _
  rcases getB j ρ with _ | w <;> rfl
def kMutR (j : Nat) (ρ : Env) : Option (D × W0) → Out (AV × Env)
  | some (d, w') => .ok (.d d, putB j w' ρ)
  | none => .bad
theorem v_mutE_l {ys : List D} : kMutE gm j ds ρ (some (.l ys)) = kMutR j ρ (gm (.l ys) ds) := by
  show (match gm (.l ys) ds with
    | some (d, w') => .ok (.d d, putB j w' ρ)
    | none => .bad : Out (AV × Env)) = _
  rcases gm (.l ys) ds with _ | ⟨d, w'⟩ <;> rfl
theorem v_mutR {d : D} {w' : W0} : kMutR j ρ (some (d, w')) = .ok (.d d, ρ.set j (some (.o (.b w')))) := Eq.trans rfl rfl
theorem v_append {ys : List D} (hl : ys.length < lim) : appendD (.l ys) [x] = some (.non, .l (ys ++ [x])) := by unfold appendD; dsimp only; rw [if_pos hl]
theorem o_add {a b : Int} : addD (.int a) (.int b) = some (.d (.int (a + b))) := Eq.trans rfl rfl
theorem o_sub {a b : Int} : subD (.int a) (.int b) = some (.d (.int (a - b))) := Eq.trans rfl rfl
theorem o_mul {a b : Int} (h : (-18446744073709551616 < a ∧ a < 18446744073709551616) ∨ (-18446744073709551616 < b ∧ b < 18446744073709551616)) : mulD (.int a) (.int b) = some (.d (.int (a * b))) := by
  unfold mulD
  dsimp only
  rw [if_pos]
  exact h
theorem o_mod {a b : Int} (h : 0 < b) : modD (.int a) (.int b) = some (.d (.int (a % b))) := by unfold modD; dsimp only; rw [if_pos h]
theorem o_fdiv {a b : Int} (h : 0 < b) (h2 : b < 1073741824) : fdivD (.int a) (.int b) = some (.d (.int (a / b))) := by unfold fdivD; dsimp only; rw [if_pos ⟨h, h2⟩]
theorem o_lt {a b : Int} : ltD (.int a) (.int b) = some (.d (.bl (decide (a < b)))) := Eq.trans rfl rfl
theorem o_le {a b : Int} : leD (.int a) (.int b) = some (.d (.bl (decide (a ≤ b)))) := Eq.trans rfl rfl
theorem o_gt {a b : Int} : gtD (.int a) (.int b) = some (.d (.bl (decide (b < a)))) := Eq.trans rfl rfl
theorem o_ge {a b : Int} : geD (.int a) (.int b) = some (.d (.bl (decide (b ≤ a)))) := Eq.trans rfl rfl
theorem o_int {a : Int} : intD (.int a) = some (.d (.int a)) := Eq.trans rfl rfl
theorem o_len_l {xs : List D} : lenD (.lst xs) = some (.d (.int xs.length)) := Eq.trans rfl rfl
theorem o_len_s {xs : List D} : lenD (.scr xs) = some (.d (.int xs.length)) := Eq.trans rfl rfl
theorem o_len_t {xs : List D} : lenD (.tup xs) = some (.d (.int xs.length)) := Eq.trans rfl rfl
theorem o_abs {a : Int} : absD (.int a) = some (.d (.int (if a < 0 then -a else a))) := Eq.trans rfl rfl
theorem o_neg {a : Int} : negD (.int a) = some (.d (.int (-a))) := Eq.trans rfl rfl
def kItem : Option D → Option AV
  | some x => some (.d x)
  | none => none
theorem o_it_l {xs : List D} {a : Int} : itemD (.lst xs) (.int a) = kItem (L2.atI xs a) := by show (L2.atI xs a).map AV.d = _; cases L2.atI xs a <;> rfl
theorem o_it_s {xs : List D} {a : Int} : itemD (.scr xs) (.int a) = kItem (L2.atI xs a) := by show (L2.atI xs a).map AV.d = _; cases L2.atI xs a <;> rfl
theorem o_it_t {xs : List D} {a : Int} : itemD (.tup xs) (.int a) = kItem (L2.atI xs a) := by show (L2.atI xs a).map AV.d = _; cases L2.atI xs a <;> rfl
theorem o_item : kItem (some x) = some (.d x) := Eq.trans rfl rfl
theorem atI_nat {α : Type} {xs : List α} {n : Nat} {x : α} (h : xs[n]? = some x) : L2.atI xs (n : Int) = some x := by
  have hn := (List.getElem?_eq_some_iff.mp h).1
  unfold L2.atI L2.ixN
  rw [if_pos (by omega), if_pos (by omega)]
  exact h
end
end J
namespace J
section
variable {fn : Fn} {ρ ρ' : Env} {g : Env → Out (List AV × Env)} {as : List AV} {a : AV} {x : D} {w : Own} {i : Nat} {fd : Env → Out (D × Env)}
def kCall (fn : Fn) (p : List AV × Env) : Out (AV × Env) := applyFn fn p.1 p.2
theorem v_call : cCall fn g ρ = (g ρ).bind (kCall fn) := Eq.trans rfl rfl
theorem v_call1 : kCall fn (as, ρ) = applyFn fn as ρ := Eq.trans rfl rfl
def kA (a : AV) (q : List AV × Env) : Out (List AV × Env) := .ok (a :: q.1, q.2)
theorem v_A : kA a (as, ρ) = .ok (a :: as, ρ) := Eq.trans rfl rfl
theorem v_aNil : aNil ρ = .ok ([], ρ) := Eq.trans rfl rfl
def kAVar (i : Nat) (g : Env → Out (List AV × Env)) (ρ : Env) : Option (Option SV) → Out (List AV × Env)
  | some (some (.d x)) => (g ρ).bind (kA (.d x))
  | some (some (.o _)) => (g ρ).bind (kA (.s i))
  | _ => .bad
theorem v_aVar : aVar i g ρ = kAVar i g ρ ρ[i]? := by
  unfold aVar
  rcases ρ[i]? with _ | _ | _ | _ <;> rfl
theorem v_aVar1 : kAVar i g ρ (some (some (.d x))) = (g ρ).bind (kA (.d x)) := Eq.trans rfl rfl
theorem v_aVar2 : kAVar i g ρ (some (some (.o w))) = (g ρ).bind (kA (.s i)) := Eq.trans rfl rfl
def kAD (g : Env → Out (List AV × Env)) (p : D × Env) : Out (List AV × Env) := (g p.2).bind (kA (.d p.1))
theorem v_aD : aD fd g ρ = (fd ρ).bind (kAD g) := Eq.trans rfl rfl
theorem v_aD1 : kAD g (x, ρ) = (g ρ).bind (kA (.d x)) := Eq.trans rfl rfl
/-- a call, by what its def reckons -/
theorem ap_d {svs : List SV} {ps : Env} (e1 : argSVs as ρ = some svs) (e3 : fn svs = .ok (.d x, ps)) (e2 : (slotsOf as).Nodup) : applyFn fn as ρ = .ok (.d x, updS as ps ρ) := by
  unfold applyFn
  rw [e1]
  dsimp only
  rw [if_pos e2, e3]
theorem ap_o {svs : List SV} {ps : Env} (e1 : argSVs as ρ = some svs) (e3 : fn svs = .ok (.o w, ps)) (e2 : (slotsOf as).Nodup) : applyFn fn as ρ = .ok (.o w, updS as ps ρ) := by
  unfold applyFn
  rw [e1]
  dsimp only
  rw [if_pos e2, e3]
variable {fa : ECode} {ds : List D} {p : AV}
def kItems (p : AV × Env) : Out (List D × Env) := (Out.of (p.1.frz p.2)).bind fun q => (Out.of (seqD q.1)).bind fun ds => .ok (ds, q.2)
theorem v_items : cItems fa ρ = (fa ρ).bind kItems := Eq.trans rfl rfl
theorem v_items_l : kItems (.o (.b (.l ds)), ρ) = .ok (ds, ρ) := Eq.trans rfl rfl
theorem v_items_dl : kItems (.d (.lst ds), ρ) = .ok (ds, ρ) := Eq.trans rfl rfl
theorem v_items_dt : kItems (.d (.tup ds), ρ) = .ok (ds, ρ) := Eq.trans rfl rfl
theorem v_items_ds : kItems (.d (.scr ds), ρ) = .ok (ds, ρ) := Eq.trans rfl rfl
def kItS (j : Nat) (ρ : Env) : Option (Option SV) → Out (List D × Env)
  | some (some (.d x)) => (Out.of (seqD x)).bind fun ds => .ok (ds, ρ)
  | some (some (.o w)) => (Out.of (seqD w.toD)).bind fun ds => .ok (ds, ρ.set j (some (.d w.toD)))
  | _ => .bad
theorem v_items_s {j : Nat} : kItems (.s j, ρ) = kItS j ρ ρ[j]? := by
  show (Out.of (match ρ[j]? with
    | some (some (.d x)) => some (x, ρ)
    | some (some (.o w)) => some (w.toD, ρ.set j (some (.d w.toD)))
    | _ => none : Option (D × Env))).bind _ = _
  rcases ρ[j]? with _ | _ | _ | _ <;> rfl
theorem v_items_s1 {j : Nat} : kItS j ρ (some (some (.o (.b (.l ds))))) = .ok (ds, ρ.set j (some (.d (.lst ds)))) := Eq.trans rfl rfl
theorem v_items_s2 {j : Nat} : kItS j ρ (some (some (.d (.lst ds)))) = .ok (ds, ρ) := Eq.trans rfl rfl
theorem v_items_s3 {j : Nat} : kItS j ρ (some (some (.d (.tup ds)))) = .ok (ds, ρ) := Eq.trans rfl rfl
def kLstRg (q : List D × Env) : Out (AV × Env) := (Out.of (rgItems q.1)).bind fun ds => .ok (.o (.b (.l ds)), q.2)
theorem v_lstRg {g : Env → Out (List D × Env)} : cLstRg g ρ = (g ρ).bind kLstRg := Eq.trans rfl rfl
theorem w_lstRg {xs : List D} (e : rgItems xs = some ds) : kLstRg (xs, ρ) = .ok (.o (.b (.l ds)), ρ) := by unfold kLstRg; dsimp only; rw [e]; rfl
theorem rg1 {n : Nat} (h : n ≤ 1000000) : rgItems [.int (n : Int)] = some (((List.range n).map fun (i : Nat) => (i : Int)).map D.int) := by
  have q2 : rangeD 0 n = ((List.range n).map fun (i : Nat) => (i : Int)).map D.int := by
    unfold rangeD
    rw [List.map_map]
    refine List.map_congr_left fun i _ => ?_
    simp
  rw [← q2]
  unfold rgItems rg62
  dsimp only
  rw [if_pos]
  · simp
  · simp only [Bool.and_eq_true, decide_eq_true_eq]
    omega
theorem er_map {α β : Type} (f : α → β) : ∀ (xs : List α) (k : Nat), (xs.map f).eraseIdx k = (xs.eraseIdx k).map f
  | [], _ => rfl
  | _ :: _, 0 => rfl
  | x :: xs, k + 1 => by
    show f x :: (xs.map f).eraseIdx k = f x :: (xs.eraseIdx k).map f
    rw [er_map f xs k]
end
end J
namespace J
section
variable {ρ ρ' : Env} {g : TgC} {f : SCode} {i j : Nat} {x k d : D} {w w' : W0} {fe fo fa : ECode} {fd fi : Env → Out (D × Env)} {ds : List D} {av : AV} {cs : List PySem.Str} {y c : PySem.Str} {ns : List PySem.Str} {fs : List FV} {vs : List D} {b : Bool}
theorem v_dic : cDic b ρ = .ok (.o (.b (.m b [] [])), ρ) := Eq.trans rfl rfl
def kForH (i : Nat) (g : TgC) (f : SCode) (ρ : Env) : Option (Option SV) → Out Flow
  | some (some (.o (.b (.l ds)))) => restF i ds (forF g f ds (ρ.set i none))
  | _ => cFor (cItems (cVar i)) g f ρ
theorem v_forH : cForH i g f ρ = kForH i g f ρ ρ[i]? := by
  unfold cForH
  rcases ρ[i]? with _ | _ | _ | ((_ | _ | _) | _) <;> rfl
theorem v_forH1 : kForH i g f ρ (some (some (.o (.b (.l ds))))) = restF i ds (forF g f ds (ρ.set i none)) := Eq.trans rfl rfl
theorem v_forH2 : kForH i g f ρ (some (some (.d x))) = cFor (cItems (cVar i)) g f ρ := Eq.trans rfl rfl
theorem v_restF : restF i ds (.ok (.nx ρ)) = .ok (.nx (ρ.set i (some (.o (.b (.l ds)))))) := Eq.trans rfl rfl
def kPut2 (fi : Env → Out (D × Env)) (d : D) (p : AV × Env) : Out Flow := (Out.of (plOf p.1)).bind fun q => (fi p.2).bind fun k => putEnd q k.1 d k.2
def kPut (fo : ECode) (fi : Env → Out (D × Env)) (v : D × Env) : Out Flow := (fo v.2).bind (kPut2 fi v.1)
def kPut3 (j : Nat) (d : D) (k : D × Env) : Out Flow := putEnd (.s j) k.1 d k.2
theorem v_put : cPut fd fo fi ρ = (fd ρ).bind (kPut fo fi) := Eq.trans rfl rfl
theorem v_put1 : kPut fo fi (x, ρ) = (fo ρ).bind (kPut2 fi x) := Eq.trans rfl rfl
theorem v_put2 : kPut2 fi x (.s j, ρ) = (fi ρ).bind (kPut3 j x) := Eq.trans rfl rfl
def kPutR (j : Nat) (ρ : Env) : Option W0 → Out Flow
  | some w' => .ok (.nx (ρ.set j (some (.o (.b w')))))
  | none => .bad
def kPutE (j : Nat) (k d : D) (ρ : Env) : Option W0 → Out Flow
  | some w => kPutR j ρ (putD w k d)
  | none => .bad
theorem v_put3 : kPut3 j d (k, ρ) = kPutE j k d ρ (getB j ρ) := by
  show (match getB j ρ with
    | some w => (match putD w k d with
      | some w' => .ok (.nx (putB j w' ρ))
      | none => .bad)
    | none => .bad : Out Flow) = _
  rcases getB j ρ with _ | w
  · rfl
  · show (match putD w k d with
      | some w' => .ok (.nx (putB j w' ρ))
      | none => .bad : Out Flow) = kPutR j ρ (putD w k d)
    rcases putD w k d with _ | _ <;> rfl
theorem v_putE : kPutE j k d ρ (some w) = kPutR j ρ (putD w k d) := Eq.trans rfl rfl
theorem v_putR : kPutR j ρ (some w') = .ok (.nx (ρ.set j (some (.o (.b w'))))) := Eq.trans rfl rfl
def kFS2 (cs : List PySem.Str) (y : PySem.Str) (av : AV) (p : AV × Env) : Out Flow := match p.1 with
  | .s j => (match p.2[j]? with
    | some (some (.o (.i c _ _))) => if c ∈ cs then (Out.of (av.keepF p.2)).bind (fldEnd y j) else .bad
    | _ => .bad)
  | _ => .bad
def kFS (cs : List PySem.Str) (y : PySem.Str) (fo : ECode) (v : AV × Env) : Out Flow := (fo v.2).bind (kFS2 cs y v.1)
theorem v_fs : cFldSet cs y fe fo ρ = (fe ρ).bind (kFS cs y fo) := Eq.trans rfl rfl
theorem v_fs1 : kFS cs y fo (av, ρ) = (fo ρ).bind (kFS2 cs y av) := Eq.trans rfl rfl
theorem w_fs_d (h : ρ[j]? = some (some (.o (.i c ns fs)))) (hc : c ∈ cs) (hl : ns.length < 1000) : kFS2 cs y (.d x) (.s j, ρ) = .ok (.nx (ρ.set j (some (.o (.i c (setN ns y) (putFs ns fs y (.d x))))))) := by
  show (match ρ[j]? with
    | some (some (.o (.i c _ _))) => if c ∈ cs then (Out.of (AV.keepF (.d x) ρ)).bind (fldEnd y j) else .bad
    | _ => .bad : Out Flow) = _
  rw [h]
  show (if c ∈ cs then fldEnd y j (.d x, ρ) else .bad) = _
  rw [if_pos hc]
  unfold fldEnd
  dsimp only
  rw [h]
  dsimp only
  rw [if_pos hl]
theorem w_fs_o (h : ρ[j]? = some (some (.o (.i c ns fs)))) (hc : c ∈ cs) (hl : ns.length < 1000) : kFS2 cs y (.o (.b w)) (.s j, ρ) = .ok (.nx (ρ.set j (some (.o (.i c (setN ns y) (putFs ns fs y (.o w))))))) := by
  show (match ρ[j]? with
    | some (some (.o (.i c _ _))) => if c ∈ cs then (Out.of (AV.keepF (.o (.b w)) ρ)).bind (fldEnd y j) else .bad
    | _ => .bad : Out Flow) = _
  rw [h]
  show (if c ∈ cs then fldEnd y j (.o w, ρ) else .bad) = _
  rw [if_pos hc]
  unfold fldEnd
  dsimp only
  rw [h]
  dsimp only
  rw [if_pos hl]
def kFld (cs : List PySem.Str) (k : Bool) (y : PySem.Str) (p : AV × Env) : Out (AV × Env) := match p.1 with
  | .d (.ins c ns vs) => if c ∈ cs then (Out.of (getD ns vs y)).bind fun x => .ok (.d x, p.2) else .bad
  | .s j => (match p.2[j]? with
    | some (some (.o (.i c ns fs))) => if c ∈ cs then (match getFV ns fs y with
      | some (.d x) => .ok (.d x, p.2)
      | some (.o _) => if k then .ok (.g j y, p.2) else .bad
      | none => .bad) else .bad
    | _ => .bad)
  | _ => .bad
theorem v_fld : cFld cs b y fa ρ = (fa ρ).bind (kFld cs b y) := Eq.trans rfl rfl
theorem w_fld_i (hc : c ∈ cs) (h : getD ns vs y = some x) : kFld cs b y (.d (.ins c ns vs), ρ) = .ok (.d x, ρ) := by
  unfold kFld
  dsimp only
  rw [if_pos hc, h]; rfl
theorem w_fld_d (h : ρ[j]? = some (some (.o (.i c ns fs)))) (hc : c ∈ cs) (hf : getFV ns fs y = some (.d x)) : kFld cs b y (.s j, ρ) = .ok (.d x, ρ) := by
  unfold kFld
  dsimp only
  rw [h]
  dsimp only
  rw [if_pos hc, hf]
theorem w_fld_o (h : ρ[j]? = some (some (.o (.i c ns fs)))) (hc : c ∈ cs) (hf : getFV ns fs y = some (.o w)) : kFld cs true y (.s j, ρ) = .ok (.g j y, ρ) := by
  unfold kFld
  dsimp only
  rw [h]
  dsimp only
  rw [if_pos hc, hf]
  rfl
end
end J
namespace J
section
variable {ρ ρ' : Env} {g : TgC} {f : SCode} {i j : Nat} {x y z k d : D} {w w' : W0} {fe fo fa fb : ECode} {fd : Env → Out (D × Env)} {ds xs : List D} {av : AV} {cs : List PySem.Str} {b : Bool} {fi : ICode} {t : Env → Out (Bool × Env)}
def kFz (j : Nat) (ρ : Env) : Option (Option SV) → Out Flow
  | some (some (.o w)) => .ok (.nx (ρ.set j (some (.d w.toD))))
  | _ => .ok (.nx ρ)
def kFzF (j : Nat) : Out Flow → Out Flow
  | .ok (.nx ρ) => kFz j ρ ρ[j]?
  | r => r
theorem v_fz : cFz j f ρ = kFzF j (f ρ) := by
  unfold cFz
  rcases f ρ with (ρ' | _ | _ | _) | _ | _
  · show Out.ok (.nx (frzS j ρ')) = kFz j ρ' ρ'[j]?
    unfold frzS
    rcases ρ'[j]? with _ | _ | _ | _ <;> rfl
  all_goals rfl
theorem v_fz1 : kFzF j (.ok (.nx ρ)) = kFz j ρ ρ[j]? := Eq.trans rfl rfl
theorem v_fz2 {w : Own} : kFz j ρ (some (some (.o w))) = .ok (.nx (ρ.set j (some (.d w.toD)))) := Eq.trans rfl rfl
theorem v_fz3 : kFz j ρ (some (some (.d x))) = .ok (.nx ρ) := Eq.trans rfl rfl
theorem v_toD_i {c : PySem.Str} {ns : List PySem.Str} {fs : List FV} : Own.toD (.i c ns fs) = .ins c ns (fs.map FV.toD) := Eq.trans rfl rfl
theorem v_toD_m {t : Bool} {ks vs : List D} : Own.toD (.b (.m t ks vs)) = .dic t ks vs := Eq.trans rfl rfl
theorem v_toDd : FV.toD (.d x) = x := Eq.trans rfl rfl
theorem v_toDo : FV.toD (.o w) = w.toD := Eq.trans rfl rfl
theorem v_toDwl : W0.toD (.l ds) = .lst ds := Eq.trans rfl rfl
theorem v_toDwr {rows : List (List D)} : W0.toD (.ll rows) = .lst (rows.map .lst) := Eq.trans rfl rfl
theorem lcF_pure {vs : List Nat} {W : Env} {B : D → Bool} {Y : D → D} : ∀ (ds : List D) (ρ : Env) (acc : List D), wipeE ρ vs = W → (∀ d ∈ ds, ∃ ρ1, g d W = .ok ρ1 ∧ t ρ1 = .ok (B d, ρ1) ∧ (B d = true → fd ρ1 = .ok (Y d, ρ1)) ∧ wipeE ρ1 vs = W) → acc.length + ds.length ≤ lim →
    lcF vs g t fd ds ρ acc = .ok (acc ++ (ds.filter B).map Y, W)
  | [], ρ, acc, hw, _, _ => by simp only [lcF, hw, List.filter_nil, List.map_nil, List.append_nil]
  | d :: ds, ρ, acc, hw, h, hl => by
    obtain ⟨ρ1, e1, e2, e3, e4⟩ := h d List.mem_cons_self
    have hl' : acc.length + (ds.length + 1) ≤ lim := hl
    unfold lcF
    rw [hw, e1]
    dsimp only
    rw [e2]
    cases hb : B d with
    | false =>
      dsimp only
      rw [lcF_pure ds ρ1 acc e4 (fun d' hd => h d' (List.mem_cons_of_mem _ hd)) (by omega), List.filter_cons_of_neg (by simp [hb])]
    | true =>
      dsimp only
      rw [e3 hb]
      dsimp only
      rw [if_pos (by omega), lcF_pure ds ρ1 _ e4 (fun d' hd => h d' (List.mem_cons_of_mem _ hd)) (by rw [List.length_append]; simp only [List.length_cons, List.length_nil]; omega), List.filter_cons_of_pos hb, List.map_cons, List.append_assoc]
      rfl
theorem w_lc {vs : List Nat} (B : D → Bool) (Y : D → D) (ei : fi ρ = .ok (ds, ρ')) (h : ∀ d ∈ ds, ∃ ρ1, g d (wipeE ρ' vs) = .ok ρ1 ∧ t ρ1 = .ok (B d, ρ1) ∧ (B d = true → fd ρ1 = .ok (Y d, ρ1)) ∧ wipeE ρ1 vs = wipeE ρ' vs) (hl : ds.length ≤ lim) (hb : backE ρ' (wipeE ρ' vs) vs = ρ') :
    cLc fi vs g t fd ρ = .ok (.o (.b (.l ((ds.filter B).map Y))), ρ') := by
  unfold cLc
  rw [ei]
  show (match lcF vs g t fd ds ρ' [] with
    | .ok (acc, ρ'') => .ok (.o (.b (.l acc)), backE ρ' ρ'' vs)
    | _ => .bad : Out (AV × Env)) = _
  rw [lcF_pure ds ρ' [] rfl h (by simpa using hl)]
  dsimp only
  rw [hb]
  rfl
theorem filter_all {α : Type} : ∀ {l : List α} {p : α → Bool}, (∀ a ∈ l, p a = true) → l.filter p = l := fun h => List.filter_eq_self.mpr h
/-- .. without a test -/
theorem w_lcm {vs : List Nat} (Y : D → D) (ei : fi ρ = .ok (ds, ρ')) (h : ∀ d ∈ ds, ∃ ρ1, g d (wipeE ρ' vs) = .ok ρ1 ∧ fd ρ1 = .ok (Y d, ρ1) ∧ wipeE ρ1 vs = wipeE ρ' vs) (hl : ds.length ≤ lim) (hb : backE ρ' (wipeE ρ' vs) vs = ρ') :
    cLc fi vs g cYes fd ρ = .ok (.o (.b (.l (ds.map Y))), ρ') := by
  rw [w_lc (B := fun _ => true) (Y := Y) ei (fun d hd => by
    obtain ⟨ρ1, e1, e2, e3⟩ := h d hd
    exact ⟨ρ1, e1, rfl, fun _ => e2, e3⟩) hl hb, filter_all fun _ _ => rfl]
theorem v_yes : cYes ρ = .ok (true, ρ) := Eq.trans rfl rfl
theorem lcR_nil {vs : List Nat} {W : Env} : ∀ (ds : List D) (ρ : Env) (acc : List (List D)), wipeE ρ vs = W → (∀ d ∈ ds, ∃ ρ1, g d W = .ok ρ1 ∧ wipeE ρ1 vs = W) → acc.length + ds.length ≤ lim →
    lcR vs g cYes (cLst cNil) ds ρ acc = .ok (acc ++ ds.map fun _ => [], W)
  | [], ρ, acc, hw, _, _ => by simp only [lcR, hw, List.map_nil, List.append_nil]
  | d :: ds, ρ, acc, hw, h, hl => by
    obtain ⟨ρ1, e1, e4⟩ := h d List.mem_cons_self
    have hl' : acc.length + (ds.length + 1) ≤ lim := hl
    unfold lcR
    rw [hw, e1]
    show (if acc.length < lim then lcR vs g cYes (cLst cNil) ds ρ1 (acc ++ [[]]) else .bad) = _
    rw [if_pos (by omega), lcR_nil ds ρ1 _ e4 (fun d' hd => h d' (List.mem_cons_of_mem _ hd)) (by rw [List.length_append]; simp only [List.length_cons, List.length_nil]; omega), List.map_cons, List.append_assoc]
    rfl
theorem w_lcR {vs : List Nat} (ei : fi ρ = .ok (ds, ρ')) (h : ∀ d ∈ ds, ∃ ρ1, g d (wipeE ρ' vs) = .ok ρ1 ∧ wipeE ρ1 vs = wipeE ρ' vs) (hl : ds.length ≤ lim) (hb : backE ρ' (wipeE ρ' vs) vs = ρ') :
    cLcR fi vs g cYes (cLst cNil) ρ = .ok (.o (.b (.ll (ds.map fun _ => []))), ρ') := by
  unfold cLcR
  rw [ei]
  show (match lcR vs g cYes (cLst cNil) ds ρ' [] with
    | .ok (acc, ρ'') => .ok (.o (.b (.ll acc)), backE ρ' ρ'' vs)
    | _ => .bad : Out (AV × Env)) = _
  rw [lcR_nil ds ρ' [] rfl h (by simpa using hl)]
  dsimp only
  rw [hb]
  rfl
theorem w_ix {n k : Nat} (h : k < n) : L2.ixN n (k : Int) = some k := by
  unfold L2.ixN
  rw [if_pos (by omega), if_pos (by omega)]
  rfl
/-- o.y[i].append(x) -/
theorem w_rowapp {fq : QCode} {fl : Env → Option (List D)} {yn c : PySem.Str} {ns : List PySem.Str} {fs : List FV} {rows : List (List D)} {k : Nat} {row : List D} (e1 : fo ρ = .ok (.g j yn, ρ)) (e2 : ρ[j]? = some (some (.o (.i c ns fs)))) (e3 : getFV ns fs yn = some (.o (.ll rows)))
    (e4 : fq ρ = some (.int (k : Int))) (e5 : rows[k]? = some row) (e6 : fl ρ = some [x]) (hl : row.length < lim) :
    cMutR isL appendD (cRow fo fq) fl ρ = .ok (.d .non, ρ.set j (some (.o (.i c ns (setFV ns fs yn (.o (.ll (rows.set k (row ++ [x]))))))))) := by
  have hk : k < rows.length := (List.getElem?_eq_some_iff.mp e5).1
  have g1 : getG j yn ρ = some (.ll rows) := by unfold getG; rw [e2]; dsimp only; rw [e3]
  have r1 : cRow fo fq ρ = .ok (.gr j yn k, ρ) := by
    unfold cRow
    rw [e1]
    show (match rowsAt (.g j yn) ρ, fq ρ with
      | some n, some (.int i) => (match L2.ixN n i with
        | some k => (Out.of (rowOf (.g j yn) k)).bind fun q => .ok (q, ρ)
        | none => .bad)
      | _, _ => .bad : Out (Pl × Env)) = _
    have r2 : rowsAt (.g j yn) ρ = some rows.length := by unfold rowsAt; dsimp only; rw [g1]
    rw [r2, e4]
    dsimp only
    rw [w_ix hk]
    rfl
  have p1 : (Pl.gr j yn k).get ρ = some (.l row) := by
    unfold Pl.get
    dsimp only
    rw [g1]
    show (rows[k]?).map W0.l = _
    rw [e5]; rfl
  unfold cMutR
  rw [r1]
  show (if kindAt isL (.gr j yn k) ρ then (match fl ρ with
    | some ds => mutEnd appendD (.gr j yn k) ds ρ
    | none => .bad) else .bad : Out (AV × Env)) = _
  have k1 : kindAt isL (.gr j yn k) ρ = true := by unfold kindAt; rw [p1]; rfl
  rw [if_pos k1, e6]
  dsimp only
  unfold mutEnd
  rw [p1]
  dsimp only
  rw [if_pos (by rfl), v_append hl]
  dsimp only
  have q1 : (Pl.gr j yn k).put (.l (row ++ [x])) ρ = some (ρ.set j (some (.o (.i c ns (setFV ns fs yn (.o (.ll (rows.set k (row ++ [x]))))))))) := by
    unfold Pl.put
    dsimp only
    rw [g1]
    show ((if k < rows.length then some (W0.ll (rows.set k (row ++ [x]))) else none).map fun v' => putG j yn v' ρ) = _
    rw [if_pos hk]
    show some (putG j yn _ ρ) = _
    unfold putG
    rw [e2]
  rw [q1]
variable {fn : Fn} {ga : Env → Out (List AV × Env)} {as : List AV} {c m : PySem.Str} {ns : List PySem.Str} {vs : List D}
def kMake (c : PySem.Str) (fn : Fn) (p : List AV × Env) : Out (AV × Env) := applyMake c fn p.1 p.2
theorem v_make : cMake c fn ga ρ = (ga ρ).bind (kMake c fn) := Eq.trans rfl rfl
theorem v_make1 : kMake c fn (as, ρ) = applyMake c fn as ρ := Eq.trans rfl rfl
theorem ap_m {svs : List SV} {ps : Env} {w : Own} (e1 : argSVs as ρ = some svs) (e3 : fn (.o (.i c [] []) :: svs) = .ok (.d .non, some (.o w) :: ps)) (e2 : (slotsOf as).Nodup) : applyMake c fn as ρ = .ok (.o w, updS as ps ρ) := by
  unfold applyMake
  rw [e1]
  dsimp only
  rw [if_pos e2, e3]
def kMeth (c m : PySem.Str) (fn : Fn) (g : Env → Out (List AV × Env)) (p : AV × Env) : Out (AV × Env) := match clsOf p.1 p.2 with
  | some (c', ns) => if c' = c ∧ m ∉ ns then (g p.2).bind fun q => applyFn fn (p.1 :: q.1) q.2 else .bad
  | none => .bad
def kMeth2 (fn : Fn) (a : AV) (q : List AV × Env) : Out (AV × Env) := applyFn fn (a :: q.1) q.2
theorem v_meth : cMeth c m fn fo ga ρ = (fo ρ).bind (kMeth c m fn ga) := Eq.trans rfl rfl
theorem w_meth (h : m ∉ ns) : kMeth c m fn ga (.d (.ins c ns vs), ρ) = (ga ρ).bind (kMeth2 fn (.d (.ins c ns vs))) := by
  show (if c = c ∧ m ∉ ns then (ga ρ).bind (kMeth2 fn (.d (.ins c ns vs))) else .bad) = _
  rw [if_pos ⟨rfl, h⟩]
theorem v_meth2 : kMeth2 fn av (as, ρ) = applyFn fn (av :: as) ρ := Eq.trans rfl rfl
def kSl (fl fh : Env → Out (Option Int × Env)) (p : AV × Env) : Out (AV × Env) := (fl p.2).bind fun l => (fh l.2).bind fun h => fin (view1 (fun x => sliceD x l.1 h.1) p.1 h.2) h.2
def kSl2 (p : AV) (fh : Env → Out (Option Int × Env)) (l : Option Int × Env) : Out (AV × Env) := (fh l.2).bind fun h => fin (view1 (fun x => sliceD x l.1 h.1) p h.2) h.2
def kSl3 (p : AV) (l : Option Int) (h : Option Int × Env) : Out (AV × Env) := fin (view1 (fun x => sliceD x l h.1) p h.2) h.2
variable {fl fh : Env → Out (Option Int × Env)} {lo hi : Option Int} {a : Int}
theorem v_sl : cSl fa fl fh ρ = (fa ρ).bind (kSl fl fh) := Eq.trans rfl rfl
theorem v_sl1 : kSl fl fh (av, ρ) = (fl ρ).bind (kSl2 av fh) := Eq.trans rfl rfl
theorem v_sl2 : kSl2 av fh (lo, ρ) = (fh ρ).bind (kSl3 av lo) := Eq.trans rfl rfl
theorem v_sl3 : kSl3 av lo (hi, ρ) = fin (view1 (fun x => sliceD x lo hi) av ρ) ρ := Eq.trans rfl rfl
theorem v_none : cNone ρ = .ok (none, ρ) := Eq.trans rfl rfl
def kSome (p : AV × Env) : Out (Option Int × Env) := match p.1 with
  | .d (.int i) => .ok (some i, p.2)
  | _ => .bad
theorem v_some : cSome fa ρ = (fa ρ).bind kSome := Eq.trans rfl rfl
theorem v_some1 : kSome (.d (.int a), ρ) = .ok (some a, ρ) := Eq.trans rfl rfl
theorem o_slice_l {xs : List D} : sliceD (.lst xs) lo hi = some (.o (.b (.l (cutD xs lo hi)))) := Eq.trans rfl rfl
theorem o_list_l {xs : List D} : listD (.lst xs) = some (.o (.b (.l xs))) := Eq.trans rfl rfl
theorem o_list_t {xs : List D} : listD (.tup xs) = some (.o (.b (.l xs))) := Eq.trans rfl rfl
theorem o_tup_l {xs : List D} : tupD (.lst xs) = some (.d (.tup xs)) := Eq.trans rfl rfl
theorem o_tup_t {xs : List D} : tupD (.tup xs) = some (.d (.tup xs)) := Eq.trans rfl rfl
theorem o_min2 {a b : Int} : min2D (.int a) (.int b) = some (.d (.int (min a b))) := by
  unfold min2D
  dsimp only
  congr 3
  rw [Int.min_def]
  split <;> split <;> omega
theorem o_max2 {a b : Int} : max2D (.int a) (.int b) = some (.d (.int (max a b))) := by
  unfold max2D
  dsimp only
  congr 3
  rw [Int.max_def]
  split <;> split <;> omega
theorem eqD_int {a b : Int} : eqD (.int a) (.int b) = decide (a = b) := by show (a == b) = decide (a = b); by_cases h : a = b <;> simp [h]
theorem o_eq_i {a b : Int} : eqV' (.int a) (.int b) = some (.d (.bl (decide (a = b)))) := by unfold eqV'; rw [if_pos (by rfl), eqD_int]
theorem o_ne_i {a b : Int} : neV' (.int a) (.int b) = some (.d (.bl (!decide (a = b)))) := by unfold neV'; rw [if_pos (by rfl), eqD_int]
theorem o_bl_eq {a b : Bool} : eqV' (.bl a) (.bl b) = some (.d (.bl (decide (a = b)))) := by unfold eqV'; rw [if_pos (by rfl)]; cases a <;> cases b <;> rfl
theorem o_bl_ne {a b : Bool} : neV' (.bl a) (.bl b) = some (.d (.bl (!decide (a = b)))) := by unfold neV'; rw [if_pos (by rfl)]; cases a <;> cases b <;> rfl
theorem o_tru {b : Bool} : truD (.bl b) = some b := Eq.trans rfl rfl
theorem o_isB {a b : Bool} : isBD (.bl a) (.bl b) = some (.d (.bl (decide (a = b)))) := Eq.trans rfl rfl
theorem o_notB {a b : Bool} : notBD (.bl a) (.bl b) = some (.d (.bl (!decide (a = b)))) := Eq.trans rfl rfl
theorem o_add_l {xs ys : List D} (h : xs.length + ys.length ≤ lim) : addD (.lst xs) (.lst ys) = some (.o (.b (.l (xs ++ ys)))) := by
  unfold addD
  dsimp only
  rw [if_pos h]
end
end J
namespace J
open PySem.W (alike alikeAll dataLe dataLe_int dataLe_ii)
/-- a pair of numbers, as data -/
def pD (p : Int × Int) : D := .tup [.int p.1, .int p.2]
theorem eqD_p {p q : Int × Int} : eqD (pD p) (pD q) = decide (p = q) := by
  obtain ⟨a, b⟩ := p
  obtain ⟨c, d⟩ := q
  simp only [pD, eqD, eqDs, Prod.mk.injEq, Bool.and_true]
  by_cases h1 : a = c <;> by_cases h2 : b = d <;> simp [h1, h2]
theorem eqDs_map {α : Type} [DecidableEq α] {f : α → D} (h : ∀ a b, eqD (f a) (f b) = decide (a = b)) : ∀ xs ys : List α, eqDs (xs.map f) (ys.map f) = decide (xs = ys)
  | [], [] => by simp [eqDs]
  | [], y :: ys => by simp [eqDs]
  | x :: xs, [] => by simp [eqDs]
  | x :: xs, y :: ys => by
    simp only [List.map_cons, eqDs, h, eqDs_map h xs ys, List.cons.injEq]
    by_cases h1 : x = y <;> by_cases h2 : xs = ys <;> simp [h1, h2]
theorem memD_map {α : Type} [DecidableEq α] {f : α → D} (h : ∀ a b, eqD (f a) (f b) = decide (a = b)) (x : α) (xs : List α) : memD (f x) (xs.map f) = decide (x ∈ xs) := by
  unfold memD
  rw [List.any_map]
  by_cases hx : x ∈ xs
  · rw [decide_eq_true hx, List.any_eq_true]
    exact ⟨x, hx, by simp [h]⟩
  · rw [decide_eq_false hx, List.any_eq_false]
    intro y hy
    simp only [Function.comp, h, decide_eq_true_eq]
    rintro rfl
    exact hx hy
theorem memD_p (a : Int × Int) (xs : List (Int × Int)) : memD (pD a) (xs.map pD) = decide (a ∈ xs) := (memD_map (fun _ _ => eqD_p) a xs).trans (decide_eq_decide.mpr Iff.rfl)
theorem okNs_map {α : Type} {f : α → D} {n : Nat} (h : ∀ a, okN n (f a) = true) : ∀ xs : List α, okNs n (xs.map f) = true
  | [] => by simp [okNs]
  | x :: xs => by simp [okNs, h, okNs_map h xs]
theorem okN_p {n : Nat} (p : Int × Int) : okN (n + 1) (pD p) = true := by simp [pD, okN, okNs]
theorem okN_i {n : Nat} (i : Int) : okN n (.int i) = true := by cases n <;> rfl
theorem eqD_i (a b : Int) : eqD (.int a) (.int b) = decide (a = b) := eqD_int
theorem inB_l {x : D} {xs : List D} (h1 : okN 64 x = true) (h2 : okNs 64 xs = true) : inB x (.lst xs) = some (memD x xs) := by
  show (if okN 64 x && okNs 64 xs then some (memD x xs) else none) = _
  rw [h1, h2]; rfl
theorem inB_t {x : D} {xs : List D} (h1 : okN 64 x = true) (h2 : okNs 64 xs = true) : inB x (.tup xs) = some (memD x xs) := by
  show (if okN 64 x && okNs 64 xs then some (memD x xs) else none) = _
  rw [h1, h2]; rfl
theorem o_in_il {a : Int} {xs : List Int} : inD (.int a) (.lst (xs.map .int)) = some (.d (.bl (decide (a ∈ xs)))) := by
  unfold inD
  rw [inB_l (okN_i a) (okNs_map okN_i xs), memD_map eqD_i]; rfl
theorem o_nin_il {a : Int} {xs : List Int} : notInD (.int a) (.lst (xs.map .int)) = some (.d (.bl (!decide (a ∈ xs)))) := by
  unfold notInD
  rw [inB_l (okN_i a) (okNs_map okN_i xs), memD_map eqD_i]; rfl
theorem o_in_it {a : Int} {xs : List Int} : inD (.int a) (.tup (xs.map .int)) = some (.d (.bl (decide (a ∈ xs)))) := by
  unfold inD
  rw [inB_t (okN_i a) (okNs_map okN_i xs), memD_map eqD_i]; rfl
theorem o_in_pl {a : Int × Int} {xs : List (Int × Int)} : inD (pD a) (.lst (xs.map pD)) = some (.d (.bl (decide (a ∈ xs)))) := by
  unfold inD
  rw [inB_l (okN_p a) (okNs_map (fun p => okN_p p) xs), memD_p]; rfl
theorem o_in_pt {a : Int × Int} {xs : List (Int × Int)} : inD (pD a) (.tup (xs.map pD)) = some (.d (.bl (decide (a ∈ xs)))) := by
  unfold inD
  rw [inB_t (okN_p a) (okNs_map (fun p => okN_p p) xs), memD_p]; rfl
theorem o_nin_pt {a : Int × Int} {xs : List (Int × Int)} : notInD (pD a) (.tup (xs.map pD)) = some (.d (.bl (!decide (a ∈ xs)))) := by
  unfold notInD
  rw [inB_t (okN_p a) (okNs_map (fun p => okN_p p) xs), memD_p]; rfl
theorem o_eq_il {xs ys : List Int} : eqV' (.lst (xs.map .int)) (.lst (ys.map .int)) = some (.d (.bl (decide (xs = ys)))) := by
  unfold eqV'
  rw [if_pos (by simp [okN, okNs_map okN_i])]
  simp only [eqD, eqDs_map eqD_i]
theorem o_ne_il {xs ys : List Int} : neV' (.lst (xs.map .int)) (.lst (ys.map .int)) = some (.d (.bl (!decide (xs = ys)))) := by
  unfold neV'
  rw [if_pos (by simp [okN, okNs_map okN_i])]
  simp only [eqD, eqDs_map eqD_i]
theorem o_eq_pt {xs ys : List (Int × Int)} : eqV' (.tup (xs.map pD)) (.tup (ys.map pD)) = some (.d (.bl (decide (xs = ys)))) := by
  unfold eqV'
  rw [if_pos (by simp [okN, okNs_map (fun p => okN_p p)])]
  simp only [eqD, eqDs_map (fun _ _ => eqD_p)]
theorem o_eq_pl {xs ys : List (Int × Int)} : eqV' (.lst (xs.map pD)) (.lst (ys.map pD)) = some (.d (.bl (decide (xs = ys)))) := by
  unfold eqV'
  rw [if_pos (by simp [okN, okNs_map (fun p => okN_p p)])]
  simp only [eqD, eqDs_map (fun _ _ => eqD_p)]
theorem o_ne_p {p q : Int × Int} : neV' (pD p) (pD q) = some (.d (.bl (!decide (p = q)))) := by
  unfold neV'
  rw [if_pos (by simp [okN_p]), eqD_p]
theorem o_eq_p {p q : Int × Int} : eqV' (pD p) (pD q) = some (.d (.bl (decide (p = q)))) := by
  unfold eqV'
  rw [if_pos (by simp [okN_p]), eqD_p]
def leP (p q : Int × Int) : Bool := decide (p.1 < q.1 ∨ (p.1 = q.1 ∧ p.2 ≤ q.2))
def leI (a b : Int) : Bool := decide (a ≤ b)
def srtP (es : List (Int × Int)) : List (Int × Int) := es.mergeSort leP
def srtI (xs : List Int) : List Int := xs.mergeSort leI
theorem sorted_p (es : List (Int × Int)) : sortedD (es.map pD) = (srtP es).map pD := by
  unfold sortedD srtP
  rw [List.map_mergeSort (r := leP) (s := dataLe false D.pd)]
  intro a _ b _
  have := congrFun (congrFun (dataLe_ii (fun p : Int × Int => p.1) (fun p => p.2)) a) b
  exact this.symm
theorem sorted_i (xs : List Int) : sortedD (xs.map .int) = (srtI xs).map .int := by
  unfold sortedD srtI
  rw [List.map_mergeSort (r := leI) (s := dataLe false D.pd)]
  intro a _ b _
  have := congrFun (congrFun (dataLe_int (fun p : Int => p)) a) b
  exact this.symm
theorem alike_p (p q : Int × Int) : alike (pD p).pd (pD q).pd = true := by simp [pD, D.pd, pds, alike, alikeAll]
theorem alikeB_map {α : Type} {f : α → D} (h : ∀ a b, alike (f a).pd (f b).pd = true) (xs : List α) : alikeB (xs.map f) = true := by
  unfold alikeB
  simp only [List.all_eq_true, List.mem_map]
  rintro _ ⟨a, _, rfl⟩ _ ⟨b, _, rfl⟩
  exact h a b
theorem tupB_p (es : List (Int × Int)) : (es.map pD).all tupB1 = true := by
  simp only [List.all_eq_true, List.mem_map]
  rintro _ ⟨a, _, rfl⟩
  rfl
theorem plain_i (xs : List Int) : (xs.map D.int).all plainB = true := by
  simp only [List.all_eq_true, List.mem_map]
  rintro _ ⟨a, _, rfl⟩
  rfl
theorem sortD_of {x : D} {ds : List D} (e : itemsD x = some ds) (h1 : okNs 60 ds = true) (h2 : alikeB ds = true) (h3 : (ds.all tupB1 || ds.all plainB) = true) : sortD x = some (.o (.b (.l (sortedD ds)))) := by
  unfold sortD
  rw [e]
  dsimp only
  rw [h1, h2, h3]; rfl
theorem o_sort_pl {es : List (Int × Int)} : sortD (.lst (es.map pD)) = some (.o (.b (.l ((srtP es).map pD)))) := by
  rw [sortD_of (ds := es.map pD) rfl (okNs_map (fun p => okN_p p) es) (alikeB_map alike_p es) (by rw [tupB_p]; rfl), sorted_p]
theorem o_sort_pm {es : List (Int × Int)} {vs : List D} : sortD (.dic true (es.map pD) vs) = some (.o (.b (.l ((srtP es).map pD)))) := by
  rw [sortD_of (ds := es.map pD) rfl (okNs_map (fun p => okN_p p) es) (alikeB_map alike_p es) (by rw [tupB_p]; rfl), sorted_p]
theorem o_sort_il {xs : List Int} : sortD (.lst (xs.map .int)) = some (.o (.b (.l ((srtI xs).map .int)))) := by
  rw [sortD_of (ds := xs.map .int) rfl (okNs_map okN_i xs) (alikeB_map (fun _ _ => rfl) xs) (by rw [plain_i, Bool.or_true]), sorted_i]
theorem perm_eq {α : Type} {r : α → α → Prop} (anti : ∀ a b, r a b → r b a → a = b) : ∀ {xs ys : List α}, xs.Perm ys → xs.Pairwise r → ys.Pairwise r → xs = ys
  | [], ys, h, _, _ => h.nil_eq
  | x :: xs, [], h, _, _ => absurd h.length_eq (by simp)
  | x :: xs, y :: ys, h, h1, h2 => by
    have hx := (List.pairwise_cons.mp h1).1
    have hy := (List.pairwise_cons.mp h2).1
    have e : x = y := by
      by_cases q : x = y
      · exact q
      · have m1 : x ∈ ys := by
          have := h.mem_iff.mp (List.mem_cons_self (a := x) (l := xs))
          rcases List.mem_cons.mp this with z | z
          · exact absurd z q
          · exact z
        have m2 : y ∈ xs := by
          have := h.mem_iff.mpr (List.mem_cons_self (a := y) (l := ys))
          rcases List.mem_cons.mp this with z | z
          · exact absurd z.symm q
          · exact z
        exact anti x y (hx y m2) (hy x m1)
    subst e
    rw [perm_eq anti (h.cons_inv) (List.pairwise_cons.mp h1).2 (List.pairwise_cons.mp h2).2]
theorem leP_trans (a b c : Int × Int) (h1 : leP a b = true) (h2 : leP b c = true) : leP a c = true := by simp only [leP, decide_eq_true_eq] at *; omega
theorem leP_total (a b : Int × Int) : (leP a b || leP b a) = true := by simp only [leP, Bool.or_eq_true, decide_eq_true_eq]; omega
theorem leP_anti (a b : Int × Int) (h1 : leP a b = true) (h2 : leP b a = true) : a = b := by
  simp only [leP, decide_eq_true_eq] at *
  exact Prod.ext (by omega) (by omega)
theorem leI_trans (a b c : Int) (h1 : leI a b = true) (h2 : leI b c = true) : leI a c = true := by simp only [leI, decide_eq_true_eq] at *; omega
theorem leI_total (a b : Int) : (leI a b || leI b a) = true := by simp only [leI, Bool.or_eq_true, decide_eq_true_eq]; omega
theorem leI_anti (a b : Int) (h1 : leI a b = true) (h2 : leI b a = true) : a = b := by simp only [leI, decide_eq_true_eq] at *; omega
theorem srtP_perm (es : List (Int × Int)) : (srtP es).Perm es := List.mergeSort_perm es leP
theorem srtI_perm (xs : List Int) : (srtI xs).Perm xs := List.mergeSort_perm xs leI
theorem srtP_sorted (es : List (Int × Int)) : (srtP es).Pairwise (fun a b => leP a b = true) := List.pairwise_mergeSort leP_trans leP_total es
theorem srtI_sorted (xs : List Int) : (srtI xs).Pairwise (fun a b => leI a b = true) := List.pairwise_mergeSort leI_trans leI_total xs
theorem srtP_eq {es fs : List (Int × Int)} (h : es.Perm fs) (hs : fs.Pairwise (fun a b => leP a b = true)) : srtP es = fs := perm_eq leP_anti ((srtP_perm es).trans h) (srtP_sorted es) hs
theorem srtI_eq {es fs : List Int} (h : es.Perm fs) (hs : fs.Pairwise (fun a b => leI a b = true)) : srtI es = fs := perm_eq leI_anti ((srtI_perm es).trans h) (srtI_sorted es) hs
theorem srtP_congr {es fs : List (Int × Int)} (h : es.Perm fs) : srtP es = srtP fs := srtP_eq (h.trans (srtP_perm fs).symm) (srtP_sorted fs)
theorem srtI_congr {es fs : List Int} (h : es.Perm fs) : srtI es = srtI fs := srtI_eq (h.trans (srtI_perm fs).symm) (srtI_sorted fs)
end J
namespace J
section
variable {ρ ρ' : Env} {f : SCode} {is : List Nat} {i j : Nat} {av : AV} {x : D} {w : Own} {fn : Fn} {as : List AV} {ps : Env} {svs : List SV} {sv : SV} {ex : Exn} {b : Bool} {p : Option SV}
theorem v_wipe0 : wipeL [] ρ = ρ := Eq.trans rfl rfl
theorem v_wipe1 : wipeL (i :: is) ρ = wipeL is (ρ.set i none) := Eq.trans rfl rfl
theorem v_wp : cWp is f ρ = wpF is (f ρ) := Eq.trans rfl rfl
theorem v_wpB : cWpB is f ρ = f (wipeL is ρ) := Eq.trans rfl rfl
theorem v_wp1 : wpF is (.ok (.nx ρ)) = .ok (.nx (wipeL is ρ)) := Eq.trans rfl rfl
theorem v_wp2 : wpF is (.ok (.rt av ρ)) = .ok (.rt av ρ) := Eq.trans rfl rfl
theorem v_wp3 : wpF is (.ok (.ct ρ)) = .ok (.ct (wipeL is ρ)) := Eq.trans rfl rfl
theorem v_wp4 : wpF is (.ok (.bk ρ)) = .ok (.bk (wipeL is ρ)) := Eq.trans rfl rfl
theorem v_wp5 : wpF is (.exc ex ρ) = .exc ex ρ := Eq.trans rfl rfl
def noDup : List Nat → Bool
  | [] => true
  | i :: is => !is.contains i && noDup is
theorem noDup_ok : ∀ {is : List Nat}, noDup is = true → is.Nodup
  | [], _ => List.nodup_nil
  | i :: is, h => by
    simp only [noDup, Bool.and_eq_true, Bool.not_eq_true', List.contains_eq_mem, decide_eq_false_iff_not] at h
    exact List.nodup_cons.mpr ⟨h.1, noDup_ok h.2⟩
theorem noDup_no : ∀ {is : List Nat}, noDup is = false → ¬is.Nodup
  | [], h => by cases h
  | i :: is, h => by
    intro hn
    obtain ⟨h1, h2⟩ := List.nodup_cons.mp hn
    simp only [noDup, Bool.and_eq_false_iff, Bool.not_eq_false', List.contains_eq_mem, decide_eq_true_eq] at h
    rcases h with h | h
    · exact h1 h
    · exact noDup_no h h2
theorem v_nd0 : noDup [] = true := Eq.trans rfl rfl
theorem v_nd1 : noDup [i] = true := Eq.trans rfl rfl
theorem v_nd2 : noDup [i, j] = !(i == j) := by simp only [noDup, List.contains_cons, List.contains_nil, Bool.or_false, Bool.not_false, Bool.and_true]
def kAp2 (as : List AV) (ρ : Env) : Bool → Out (AV × Env) → Out (AV × Env)
  | true, .ok (.d x, ps) => .ok (.d x, updS as ps ρ)
  | true, .ok (.o w, ps) => .ok (.o w, updS as ps ρ)
  | true, .exc x ps => .exc x (updS as ps ρ)
  | _, _ => .bad
def kAp (fn : Fn) (as : List AV) (ρ : Env) : Option (List SV) → Out (AV × Env)
  | some svs => kAp2 as ρ (noDup (slotsOf as)) (fn svs)
  | none => .bad
theorem v_ap : applyFn fn as ρ = kAp fn as ρ (argSVs as ρ) := by
  unfold applyFn kAp
  rcases argSVs as ρ with _ | svs
  · rfl
  · dsimp only
    cases h : noDup (slotsOf as) with
    | true =>
      rw [if_pos (noDup_ok h)]
      rcases fn svs with ⟨_ | _ | _ | _, _⟩ | _ | _ <;> rfl
    | false =>
      rw [if_neg (noDup_no h)]
      rcases fn svs with ⟨_ | _ | _ | _, _⟩ | _ | _ <;> rfl
theorem v_ap1 : kAp fn as ρ (some svs) = kAp2 as ρ (noDup (slotsOf as)) (fn svs) := Eq.trans rfl rfl
theorem v_ap2 : kAp2 as ρ true (.ok (.d x, ps)) = .ok (.d x, updS as ps ρ) := Eq.trans rfl rfl
theorem v_ap3 : kAp2 as ρ true (.ok (.o w, ps)) = .ok (.o w, updS as ps ρ) := Eq.trans rfl rfl
theorem v_ap4 : kAp2 as ρ true (.exc ex ps) = .exc ex (updS as ps ρ) := Eq.trans rfl rfl
theorem v_slots0 : slotsOf [] = [] := Eq.trans rfl rfl
theorem v_slots1 : slotsOf (.d x :: as) = slotsOf as := Eq.trans rfl rfl
theorem v_slots2 : slotsOf (.s j :: as) = j :: slotsOf as := Eq.trans rfl rfl
def kArg (sv : SV) : Option (List SV) → Option (List SV)
  | some svs => some (sv :: svs)
  | none => none
def kArgS (r : Option (List SV)) : Option (Option SV) → Option (List SV)
  | some (some sv) => kArg sv r
  | _ => none
theorem v_args0 : argSVs [] ρ = some [] := Eq.trans rfl rfl
theorem v_args1 : argSVs (.d x :: as) ρ = kArg (.d x) (argSVs as ρ) := by
  show (match argSV (.d x) ρ, argSVs as ρ with
    | some x, some xs => some (x :: xs)
    | _, _ => none) = _
  rcases argSVs as ρ with _ | _ <;> rfl
theorem v_args2 : argSVs (.s j :: as) ρ = kArgS (argSVs as ρ) ρ[j]? := by
  show (match (match ρ[j]? with
    | some (some sv) => some sv
    | _ => none : Option SV), argSVs as ρ with
    | some x, some xs => some (x :: xs)
    | _, _ => none) = _
  rcases ρ[j]? with _ | _ | _ <;> rcases argSVs as ρ with _ | _ <;> rfl
theorem v_args3 : kArgS (some svs) (some (some sv)) = some (sv :: svs) := Eq.trans rfl rfl
theorem v_args4 : kArg sv (some svs) = some (sv :: svs) := Eq.trans rfl rfl
theorem v_upd0 : updS [] ps ρ = ρ := by cases ps <;> rfl
theorem v_upd1 : updS (.d x :: as) (p :: ps) ρ = updS as ps ρ := Eq.trans rfl rfl
theorem v_upd2 : updS (.s j :: as) (p :: ps) ρ = updS as ps (ρ.set j p) := Eq.trans rfl rfl
def kMk (as : List AV) (ρ : Env) : Bool → Out (AV × Env) → Out (AV × Env)
  | true, .ok (.d .non, some (.o w) :: ps) => .ok (.o w, updS as ps ρ)
  | true, .exc x (_ :: ps) => .exc x (updS as ps ρ)
  | _, _ => .bad
def kMkA (c : PySem.Str) (fn : Fn) (as : List AV) (ρ : Env) : Option (List SV) → Out (AV × Env)
  | some svs => kMk as ρ (noDup (slotsOf as)) (fn (.o (.i c [] []) :: svs))
  | none => .bad
theorem v_mk {c : PySem.Str} : applyMake c fn as ρ = kMkA c fn as ρ (argSVs as ρ) := by
  unfold applyMake kMkA
  rcases argSVs as ρ with _ | svs
  · rfl
  · dsimp only
    generalize fn (.o (.i c [] []) :: svs) = r
    cases h : noDup (slotsOf as) with
    | true =>
      rw [if_pos (noDup_ok h)]
      rcases r with ⟨av, l⟩ | ⟨x, l⟩ | _
      · cases av with
        | d x => cases x <;> (rcases l with _ | ⟨(_ | (_ | _)), _⟩ <;> rfl)
        | o w => rfl
        | s j => rfl
        | g j y => rfl
      · cases l <;> rfl
      · rfl
    | false =>
      rw [if_neg (noDup_no h)]
      rcases r with ⟨av, l⟩ | ⟨x, l⟩ | _
      · cases av with
        | d x => cases x <;> (rcases l with _ | ⟨(_ | (_ | _)), _⟩ <;> rfl)
        | o w => rfl
        | s j => rfl
        | g j y => rfl
      · cases l <;> rfl
      · rfl
theorem v_mk1 {c : PySem.Str} : kMkA c fn as ρ (some svs) = kMk as ρ (noDup (slotsOf as)) (fn (.o (.i c [] []) :: svs)) := Eq.trans rfl rfl
theorem v_mk2 : kMk as ρ true (.ok (.d .non, some (.o w) :: ps)) = .ok (.o w, updS as ps ρ) := Eq.trans rfl rfl
theorem v_mk3 : kMk as ρ true (.exc ex (p :: ps)) = .exc ex (updS as ps ρ) := Eq.trans rfl rfl
/-- a def's flow, made its result -/
def fnEnd (asg : Nat → Bool) (svs : List SV) : Out Flow → Out (AV × Env)
  | .ok (.nx ρ) => .ok (.d .non, outsF asg 0 svs ρ)
  | .ok (.rt av ρ) => (match retOf av ρ with
    | some p => .ok (p.1, outsF asg 0 svs p.2)
    | none => .bad)
  | .exc x ρ => .exc x (outsF asg 0 svs ρ)
  | _ => .bad
theorem fnRun_eq {np n : Nat} {asg : Nat → Bool} {body : SCode} (h : svs.length = np) : fnRun np n asg body svs = fnEnd asg svs (body (svs.map some ++ List.replicate (n - np) none)) := by
  unfold fnRun
  rw [if_pos h]
  unfold fnEnd
  rfl
theorem v_run {np n : Nat} {asg : Nat → Bool} {body : SCode} (h : svs.length = np) : fnRun np n asg body svs = fnEnd asg svs (body (svs.map some ++ List.replicate (n - np) none)) := fnRun_eq h
section
variable {asg : Nat → Bool}
theorem v_end1 : fnEnd asg svs (.ok (.nx ρ)) = .ok (.d .non, outsF asg 0 svs ρ) := Eq.trans rfl rfl
theorem v_end2 : fnEnd asg svs (.ok (.rt (.d x) ρ)) = .ok (.d x, outsF asg 0 svs ρ) := Eq.trans rfl rfl
theorem v_end3 : fnEnd asg svs (.ok (.rt (.o w) ρ)) = .ok (.o w, outsF asg 0 svs ρ) := Eq.trans rfl rfl
def kEndS (asg : Nat → Bool) (svs : List SV) (j : Nat) (ρ : Env) : Option (Option SV) → Out (AV × Env)
  | some (some (.d x)) => .ok (.d x, outsF asg 0 svs ρ)
  | some (some (.o w)) => .ok (.o w, outsF asg 0 svs (ρ.set j none))
  | _ => .bad
theorem v_end4 : fnEnd asg svs (.ok (.rt (.s j) ρ)) = kEndS asg svs j ρ ρ[j]? := by
  show (match (match ρ[j]? with
    | some (some (.d x)) => some (.d x, ρ)
    | some (some (.o w)) => some (.o w, ρ.set j none)
    | _ => none : Option (AV × Env)) with
    | some p => .ok (p.1, outsF asg 0 svs p.2)
    | none => .bad : Out (AV × Env)) = _
  rcases ρ[j]? with _ | _ | _ | _ <;> rfl
theorem v_end6 : kEndS asg svs j ρ (some (some (.d x))) = .ok (.d x, outsF asg 0 svs ρ) := Eq.trans rfl rfl
theorem v_end7 : kEndS asg svs j ρ (some (some (.o w))) = .ok (.o w, outsF asg 0 svs (ρ.set j none)) := Eq.trans rfl rfl
theorem v_end5 : fnEnd asg svs (.exc ex ρ) = .exc ex (outsF asg 0 svs ρ) := Eq.trans rfl rfl
theorem v_outs0 : outsF asg i [] ρ = [] := Eq.trans rfl rfl
theorem v_outs1 : outsF asg i (.d x :: svs) ρ = some (.d x) :: outsF asg (i + 1) svs ρ := Eq.trans rfl rfl
def kOut : Bool → Option (Option SV) → Option SV
  | true, _ => none
  | false, some o => o
  | false, none => none
theorem v_outs2 : outsF asg i (.o w :: svs) ρ = kOut (asg i) ρ[i]? :: outsF asg (i + 1) svs ρ := by
  show (if asg i then none else (ρ[i]?).join) :: outsF asg (i + 1) svs ρ = _
  cases asg i <;> rcases ρ[i]? with _ | _ <;> rfl
variable {o : Option SV} {oo : Option (Option SV)}
theorem v_outs3 : kOut true oo = none := Eq.trans rfl rfl
theorem v_outs4 : kOut false (some o) = o := Eq.trans rfl rfl
end
theorem v_raise {c : PySem.Str} : cRaise c ρ = .exc (.plain c) ρ := Eq.trans rfl rfl
theorem v_bindx {α β : Type} {k : α → Out β} : (Out.exc ex ρ : Out α).bind k = .exc ex ρ := Eq.trans rfl rfl
theorem v_seq3 {g : SCode} : kSeq g (.exc ex ρ) = .exc ex ρ := Eq.trans rfl rfl
theorem v_seq4 {g : SCode} : kSeq g (.ok (.bk ρ)) = .ok (.bk ρ) := Eq.trans rfl rfl
theorem v_seq5 {g : SCode} : kSeq g (.ok (.ct ρ)) = .ok (.ct ρ) := Eq.trans rfl rfl
def nxF : Out Flow → Out Flow
  | .ok (.ct ρ) => .ok (.nx ρ)
  | r => r
/-- one turn -/
def iter1 (g : TgC) (f : SCode) (d : D) (ρ : Env) : Out Flow := match g d ρ with
  | .ok ρ1 => nxF (f ρ1)
  | _ => .bad
variable {g : TgC}
theorem v_nx1 : nxF (.ok (.nx ρ)) = .ok (.nx ρ) := Eq.trans rfl rfl
theorem v_nx2 : nxF (.ok (.ct ρ)) = .ok (.nx ρ) := Eq.trans rfl rfl
theorem v_nx3 : nxF (.ok (.rt av ρ)) = .ok (.rt av ρ) := Eq.trans rfl rfl
theorem v_nx4 : nxF (.ok (.bk ρ)) = .ok (.bk ρ) := Eq.trans rfl rfl
theorem v_nx5 : nxF (.exc ex ρ) = .exc ex ρ := Eq.trans rfl rfl
def kIt (f : SCode) : Out Env → Out Flow
  | .ok ρ1 => nxF (f ρ1)
  | _ => .bad
theorem v_iter : iter1 g f x ρ = kIt f (g x ρ) := Eq.trans rfl rfl
theorem v_iter1 : kIt f (.ok ρ) = nxF (f ρ) := Eq.trans rfl rfl
theorem v_tname (h : i < ρ.length) : tName i x ρ = .ok (ρ.set i (some (.d x))) := by unfold tName; rw [if_pos h]
def kTs (gs : List D → Env → Out Env) (ds : List D) : Out Env → Out Env
  | .ok ρ' => gs ds ρ'
  | .exc x ρ => .exc x ρ
  | .bad => .bad
variable {gs : List D → Env → Out Env} {ds : List D}
theorem v_ts0 : tsNil [] ρ = .ok ρ := Eq.trans rfl rfl
theorem v_ts1 : tsCons g gs (x :: ds) ρ = kTs gs ds (g x ρ) := by
  show (g x ρ).bind _ = _
  rcases g x ρ with _ | _ | _ <;> rfl
theorem v_ts2 : kTs gs ds (.ok ρ) = gs ds ρ := Eq.trans rfl rfl
theorem v_ttup : tTup gs (.tup ds) ρ = gs ds ρ := Eq.trans rfl rfl
theorem forF_cons {d : D} : forF g f (d :: ds) ρ = (match iter1 g f d ρ with
    | .ok (.nx ρ2) => forF g f ds ρ2
    | .ok (.bk ρ2) => .ok (.nx ρ2)
    | r => r) := by
  show (match g d ρ with
    | .ok ρ1 => (match f ρ1 with
      | .ok (.nx ρ2) => forF g f ds ρ2
      | .ok (.ct ρ2) => forF g f ds ρ2
      | .ok (.bk ρ2) => .ok (.nx ρ2)
      | r => r)
    | _ => .bad) = _
  unfold iter1
  rcases g d ρ with ρ1 | _ | _
  · dsimp only
    rcases f ρ1 with (_ | _ | _ | _) | _ | _ <;> rfl
  · rfl
  · rfl
theorem v_for0 : forF g f [] ρ = .ok (.nx ρ) := Eq.trans rfl rfl
section
variable {α σ : Type} {enc : α → D}
theorem forF_pre_go (E : List α → Env) : ∀ (xs pre : List α), (∀ p a post, pre ++ xs = p ++ a :: post → iter1 g f (enc a) (E p) = .ok (.nx (E (p ++ [a])))) → forF g f (xs.map enc) (E pre) = .ok (.nx (E (pre ++ xs)))
  | [], pre, _ => by rw [List.append_nil]; rfl
  | x :: xs, pre, h => by
    rw [List.map_cons, forF_cons, h pre x xs rfl]
    dsimp only
    rw [forF_pre_go E xs (pre ++ [x]) fun p a post e => h p a post (by rw [← e]; simp)]
    simp
/-- a loop, by what holds behind each part -/
theorem forF_pre (E : List α → Env) {xs : List α} (h : ∀ p a post, xs = p ++ a :: post → iter1 g f (enc a) (E p) = .ok (.nx (E (p ++ [a])))) : forF g f (xs.map enc) (E []) = .ok (.nx (E xs)) := by
  have := forF_pre_go (g := g) (f := f) (enc := enc) E xs [] h
  simpa using this
theorem forF_st_go {st : σ → Env} (I : List α → σ → Prop) : ∀ (xs pre : List α) (s : σ), (∀ p a post s, pre ++ xs = p ++ a :: post → I p s → ∃ s', iter1 g f (enc a) (st s) = .ok (.nx (st s')) ∧ I (p ++ [a]) s') → I pre s → ∃ s', forF g f (xs.map enc) (st s) = .ok (.nx (st s')) ∧ I (pre ++ xs) s'
  | [], pre, s, _, h0 => ⟨s, rfl, by rw [List.append_nil]; exact h0⟩
  | x :: xs, pre, s, h, h0 => by
    obtain ⟨s1, e1, h1⟩ := h pre x xs s rfl h0
    obtain ⟨s2, e2, h2⟩ := forF_st_go I xs (pre ++ [x]) s1 (fun p a post s e => h p a post s (by rw [← e]; simp)) h1
    refine ⟨s2, ?_, by rw [List.append_assoc] at h2; exact h2⟩
    rw [List.map_cons, forF_cons, e1]
    exact e2
/-- .. with a state -/
theorem forF_st {st : σ → Env} (I : List α → σ → Prop) {xs : List α} {s : σ} (h : ∀ p a post s, xs = p ++ a :: post → I p s → ∃ s', iter1 g f (enc a) (st s) = .ok (.nx (st s')) ∧ I (p ++ [a]) s') (h0 : I [] s) : ∃ s', forF g f (xs.map enc) (st s) = .ok (.nx (st s')) ∧ I xs s' := by
  have := forF_st_go (g := g) (f := f) (enc := enc) I xs [] s h h0
  simpa using this
theorem forF_rng_go (E : Nat → Env) {lo : Int} {n : Nat} (h : ∀ i, i < n → iter1 g f (.int (lo + (i : Int))) (E i) = .ok (.nx (E (i + 1)))) : ∀ k m, m + k = n → forF g f ((List.range' m k).map fun (i : Nat) => D.int (lo + (i : Int))) (E m) = .ok (.nx (E n))
  | 0, m, e => by
    have : m = n := by omega
    subst this; rfl
  | k + 1, m, e => by
    rw [List.range'_succ, List.map_cons, forF_cons, h m (by omega)]
    dsimp only
    exact forF_rng_go E h k (m + 1) (by omega)
/-- .. over a range -/
theorem forF_rng (E : Nat → Env) {lo : Int} {n : Nat} (h : ∀ i, i < n → iter1 g f (.int (lo + (i : Int))) (E i) = .ok (.nx (E (i + 1)))) : forF g f (rangeD lo n) (E 0) = .ok (.nx (E n)) := by
  unfold rangeD
  rw [List.range_eq_range']
  exact forF_rng_go E h n 0 (by omega)
theorem forF_rngs_go {st : σ → Env} (I : Nat → σ → Prop) {lo : Int} {n : Nat} (h : ∀ i s, i < n → I i s → ∃ s', iter1 g f (.int (lo + (i : Int))) (st s) = .ok (.nx (st s')) ∧ I (i + 1) s') : ∀ k m s, m + k = n → I m s → ∃ s', forF g f ((List.range' m k).map fun (i : Nat) => D.int (lo + (i : Int))) (st s) = .ok (.nx (st s')) ∧ I n s'
  | 0, m, s, e, h0 => by
    have : m = n := by omega
    subst this; exact ⟨s, rfl, h0⟩
  | k + 1, m, s, e, h0 => by
    obtain ⟨s1, e1, h1⟩ := h m s (by omega) h0
    obtain ⟨s2, e2, h2⟩ := forF_rngs_go I h k (m + 1) s1 (by omega) h1
    refine ⟨s2, ?_, h2⟩
    rw [List.range'_succ, List.map_cons, forF_cons, e1]
    exact e2
/-- .. with a state -/
theorem forF_rngs {st : σ → Env} (I : Nat → σ → Prop) {lo : Int} {n : Nat} {s : σ} (h : ∀ i s, i < n → I i s → ∃ s', iter1 g f (.int (lo + (i : Int))) (st s) = .ok (.nx (st s')) ∧ I (i + 1) s') (h0 : I 0 s) : ∃ s', forF g f (rangeD lo n) (st s) = .ok (.nx (st s')) ∧ I n s' := by
  unfold rangeD
  rw [List.range_eq_range']
  exact forF_rngs_go I h n 0 s (by omega) h0
/-- .. that changes nothing -/
theorem forF_same {xs : List α} (h : ∀ a ∈ xs, iter1 g f (enc a) ρ = .ok (.nx ρ)) : forF g f (xs.map enc) ρ = .ok (.nx ρ) := by
  have := forF_pre (g := g) (f := f) (enc := enc) (fun _ => ρ) (xs := xs) fun p a post e => h a (by rw [e]; simp)
  exact this
end
theorem forF_sameD {ds : List D} (h : ∀ a ∈ ds, iter1 g f a ρ = .ok (.nx ρ)) : forF g f ds ρ = .ok (.nx ρ) := by
  have := forF_same (g := g) (f := f) (enc := fun d : D => d) (ρ := ρ) (xs := ds) h
  simpa using this
variable {t : Env → Out (Bool × Env)}
def kWh (t : Env → Out (Bool × Env)) (f : SCode) (n : Nat) : Out Flow → Out Flow
  | .ok (.nx ρ') => whileF t f n ρ'
  | .ok (.ct ρ') => whileF t f n ρ'
  | .ok (.bk ρ') => .ok (.nx ρ')
  | r => r
theorem whileF_more {n : Nat} {ρ1 ρ2 : Env} (e1 : t ρ = .ok (true, ρ1)) (e2 : nxF (f ρ1) = .ok (.nx ρ2)) : whileF t f (n + 1) ρ = whileF t f n ρ2 := by
  show (t ρ).bind _ = _
  rw [e1]
  show (match f ρ1 with
      | .ok (.nx ρ') => whileF t f n ρ'
      | .ok (.ct ρ') => whileF t f n ρ'
      | .ok (.bk ρ') => .ok (.nx ρ')
      | r => r) = _
  rcases h : f ρ1 with (_ | _ | _ | _) | _ | _ <;> rw [h] at e2 <;> cases e2 <;> rfl
theorem whileF_end {n : Nat} {ρ1 : Env} (e1 : t ρ = .ok (false, ρ1)) : whileF t f (n + 1) ρ = .ok (.nx ρ1) := by
  show (t ρ).bind _ = _
  rw [e1]; rfl
theorem while_go {σ : Type} {st : σ → Env} (I : σ → Prop) (m : σ → Nat) (R : σ → Prop) (h : ∀ s, I s → (t (st s) = .ok (false, st s) ∧ R s) ∨ (∃ s', t (st s) = .ok (true, st s) ∧ nxF (f (st s)) = .ok (.nx (st s')) ∧ I s' ∧ m s' < m s)) :
    ∀ n s, I s → m s < n → ∃ s', whileF t f n (st s) = .ok (.nx (st s')) ∧ R s' ∧ I s'
  | 0, s, _, hn => by omega
  | n + 1, s, hI, hn => by
    rcases h s hI with ⟨e, r⟩ | ⟨s1, e1, e2, h1, h2⟩
    · exact ⟨s, whileF_end e, r, hI⟩
    · obtain ⟨s2, e3, r, i2⟩ := while_go I m R h n s1 h1 (by omega)
      exact ⟨s2, (whileF_more e1 e2).trans e3, r, i2⟩
/-- a while loop, by an invariant and a measure -/
theorem while_st {σ : Type} {st : σ → Env} (I : σ → Prop) (m : σ → Nat) (R : σ → Prop) {s : σ} (h : ∀ s, I s → (t (st s) = .ok (false, st s) ∧ R s) ∨ (∃ s', t (st s) = .ok (true, st s) ∧ nxF (f (st s)) = .ok (.nx (st s')) ∧ I s' ∧ m s' < m s)) (h0 : I s) (hm : m s < 18446744073709551616) :
    ∃ s', cWhile t f (st s) = .ok (.nx (st s')) ∧ R s' ∧ I s' := while_go I m R h fuel s h0 hm
end
end J
namespace J
section
variable {a b : Int} {x y : D} {xs ys vs : List D} {es : List (Int × Int)} {p q : Int × Int} {z : PySem.Str} {bb : Bool}
theorem o_i_ii : isiD "int" (.int a) = some (.d (.bl true)) := by simp [isiD, tyNm, isiB]
theorem o_i_ib : isiD "int" (.bl bb) = some (.d (.bl true)) := by simp [isiD, tyNm, isiB]
theorem o_i_in : isiD "int" .non = some (.d (.bl false)) := by simp [isiD, tyNm, isiB]
theorem o_i_it : isiD "int" (.tup xs) = some (.d (.bl false)) := by simp [isiD, tyNm, isiB]
theorem o_i_is : isiD "int" (.str z) = some (.d (.bl false)) := by simp [isiD, tyNm, isiB]
theorem o_i_il : isiD "int" (.lst xs) = some (.d (.bl false)) := by simp [isiD, tyNm, isiB]
theorem o_i_bi : isiD "bool" (.int a) = some (.d (.bl false)) := by simp [isiD, tyNm, isiB]
theorem o_i_bb : isiD "bool" (.bl bb) = some (.d (.bl true)) := by simp [isiD, tyNm, isiB]
theorem o_i_tt : isiD "tuple" (.tup xs) = some (.d (.bl true)) := by simp [isiD, tyNm, isiB]
theorem o_i_ti : isiD "tuple" (.int a) = some (.d (.bl false)) := by simp [isiD, tyNm, isiB]
theorem o_i_tl : isiD "tuple" (.lst xs) = some (.d (.bl false)) := by simp [isiD, tyNm, isiB]
theorem o_i_tn : isiD "tuple" .non = some (.d (.bl false)) := by simp [isiD, tyNm, isiB]
theorem o_i_ts : isiD "tuple" (.str z) = some (.d (.bl false)) := by simp [isiD, tyNm, isiB]
theorem o_i_tb : isiD "tuple" (.bl bb) = some (.d (.bl false)) := by simp [isiD, tyNm, isiB]
theorem o_i_si : isiD "str" (.int a) = some (.d (.bl false)) := by simp [isiD, tyNm, isiB]
theorem o_i_ss : isiD "str" (.str z) = some (.d (.bl true)) := by simp [isiD, tyNm, isiB]
theorem o_i_st : isiD "str" (.tup xs) = some (.d (.bl false)) := by simp [isiD, tyNm, isiB]
theorem o_i_tp : isiD "tuple" (pD p) = some (.d (.bl true)) := by simp [isiD, tyNm, isiB, pD]
theorem o_isN1 : isND .non .non = some (.d (.bl true)) := Eq.trans rfl rfl
theorem o_isN2 : isND (.int a) .non = some (.d (.bl false)) := Eq.trans rfl rfl
theorem o_isN3 : isND (.tup xs) .non = some (.d (.bl false)) := Eq.trans rfl rfl
theorem o_isN4 : isND (.str z) .non = some (.d (.bl false)) := Eq.trans rfl rfl
theorem o_nin1 : notND .non .non = some (.d (.bl false)) := Eq.trans rfl rfl
theorem o_nin2 : notND (.int a) .non = some (.d (.bl true)) := Eq.trans rfl rfl
theorem o_nin3 : notND (.tup xs) .non = some (.d (.bl true)) := Eq.trans rfl rfl
theorem o_nin4 : notND (.str z) .non = some (.d (.bl true)) := Eq.trans rfl rfl
theorem o_len_p : lenD (pD p) = some (.d (.int 2)) := Eq.trans rfl rfl
theorem o_it_p0 : itemD (pD p) (.int 0) = some (.d (.int p.1)) := Eq.trans rfl rfl
theorem o_it_p1 : itemD (pD p) (.int 1) = some (.d (.int p.2)) := Eq.trans rfl rfl
theorem v_at0 {a b : D} : L2.atI [a, b] 0 = some a := Eq.trans rfl rfl
theorem v_at1 {a b : D} : L2.atI [a, b] 1 = some b := Eq.trans rfl rfl
theorem v_ttp {gs : List D → Env → Out Env} {ρ : Env} : tTup gs (pD p) ρ = gs [.int p.1, .int p.2] ρ := Eq.trans rfl rfl
theorem v_tup0i {ρ : Env} : kTup ([.int a, .int b], ρ) = .ok (.d (pD (a, b)), ρ) := Eq.trans rfl rfl
theorem lookD_p : ∀ (es : List (Int × Int)) (vs : List D), vs.length = es.length → (lookD (es.map pD) vs (pD p)).isSome = decide (p ∈ es)
  | [], [], _ => by simp [lookD]
  | e :: es, v :: vs, h => by
    simp only [List.map_cons, lookD, eqD_p]
    by_cases h1 : e = p
    · subst h1; simp
    · rw [if_neg (by simpa using h1), lookD_p es vs (by simpa using h)]
      simp [Ne.symm h1]
theorem w_in_pm (h : vs.length = es.length) : inD (pD p) (.dic true (es.map pD) vs) = some (.d (.bl (decide (p ∈ es)))) := by
  show ((if keyFit true (pD p) then some (lookD (es.map pD) vs (pD p)).isSome else none).map fun k => AV.d (.bl k)) = _
  rw [if_pos (by rfl), lookD_p es vs h]; rfl
theorem w_put_pm (h : p ∉ es) (hl : es.length < lim) : putD (.m true (es.map pD) vs) (pD p) x = some (.m true ((es ++ [p]).map pD) (vs ++ [x])) := by
  show (if keyFit true (pD p) && decide ((es.map pD).length < lim) then some (W0.m true (dputD (es.map pD) vs (pD p) x).1 (dputD (es.map pD) vs (pD p) x).2) else none) = _
  rw [if_pos (by simp [keyFit, pD, isKeyD, hl])]
  have e : dputD (es.map pD) vs (pD p) x = (es.map pD ++ [pD p], vs ++ [x]) := by
    unfold dputD
    rw [if_neg]
    simp only [List.any_map, Function.comp, eqD_p, List.any_eq_true, decide_eq_true_eq, not_exists, not_and]
    rintro q hq rfl
    exact h hq
  rw [e]
  simp
theorem lookD_i : ∀ (ks : List Int) (vs : List D), vs.length = ks.length → (lookD (ks.map D.int) vs (.int a)).isSome = decide (a ∈ ks)
  | [], [], _ => by simp [lookD]
  | e :: es, v :: vs, h => by
    simp only [List.map_cons, lookD, eqD_int]
    by_cases h1 : e = a
    · subst h1; simp
    · rw [if_neg (by simpa using h1), lookD_i es vs (by simpa using h)]
      simp [Ne.symm h1]
theorem w_in_im {ks : List Int} (h : vs.length = ks.length) : inD (.int a) (.dic false (ks.map .int) vs) = some (.d (.bl (decide (a ∈ ks)))) := by
  show ((if keyFit false (.int a) then some (lookD (ks.map .int) vs (.int a)).isSome else none).map fun k => AV.d (.bl k)) = _
  rw [if_pos (by rfl), lookD_i ks vs h]; rfl
theorem w_nin_im {ks : List Int} (h : vs.length = ks.length) : notInD (.int a) (.dic false (ks.map .int) vs) = some (.d (.bl (!decide (a ∈ ks)))) := by
  show ((if keyFit false (.int a) then some (lookD (ks.map .int) vs (.int a)).isSome else none).map fun k => AV.d (.bl (!k))) = _
  rw [if_pos (by rfl), lookD_i ks vs h]; rfl
theorem w_put_im {ks : List Int} (h : a ∉ ks) (hl : ks.length < lim) : putD (.m false (ks.map .int) vs) (.int a) x = some (.m false ((ks ++ [a]).map .int) (vs ++ [x])) := by
  show (if keyFit false (.int a) && decide ((ks.map D.int).length < lim) then some (W0.m false (dputD (ks.map .int) vs (.int a) x).1 (dputD (ks.map .int) vs (.int a) x).2) else none) = _
  rw [if_pos (by simp [keyFit, hl])]
  have e : dputD (ks.map .int) vs (.int a) x = (ks.map .int ++ [.int a], vs ++ [x]) := by
    unfold dputD
    rw [if_neg]
    simp only [List.any_map, Function.comp, eqD_int, List.any_eq_true, decide_eq_true_eq, not_exists, not_and]
    rintro q hq rfl
    exact h hq
  rw [e]
  simp
theorem lookD_at : ∀ (ks : List Int) (us : List D) (i : Nat) (h : i < ks.length), ks.Nodup → us.length = ks.length → lookD (ks.map D.int) us (.int ks[i]) = us[i]?
  | k :: ks, v :: vs, 0, _, _, _ => by simp [lookD, eqD_int]
  | k :: ks, v :: vs, i + 1, h, nd, hl => by
    obtain ⟨h1, h2⟩ := List.nodup_cons.mp nd
    have hi : i < ks.length := by simpa using h
    simp only [List.map_cons, lookD, eqD_int, List.getElem_cons_succ, List.getElem?_cons_succ]
    rw [if_neg (by simp only [decide_eq_true_eq]; intro e; exact h1 (e ▸ List.getElem_mem hi)), lookD_at ks vs i hi h2 (by simpa using hl)]
theorem w_it_im {ks : List Int} : itemD (.dic false (ks.map .int) vs) (.int a) = (lookD (ks.map .int) vs (.int a)).map .d := by
  show (if keyFit false (.int a) then (lookD (ks.map .int) vs (.int a)).map AV.d else none) = _
  rw [if_pos (by rfl)]
end
end J
namespace J
section
variable {ρ ρ' : Env} {g : TgC} {f : SCode} {t : Env → Out (Bool × Env)} {fd : Env → Out (D × Env)} {fi : ICode} {vs : List Nat} {α β : Type} {enc : α → D} {enc' : β → D}
theorem lcF_T {W : Env} {B : α → Bool} {Y : α → β} : ∀ (as : List α) (ρ : Env) (acc : List D), wipeE ρ vs = W → (∀ a ∈ as, ∃ ρ1, g (enc a) W = .ok ρ1 ∧ t ρ1 = .ok (B a, ρ1) ∧ (B a = true → fd ρ1 = .ok (enc' (Y a), ρ1)) ∧ wipeE ρ1 vs = W) → acc.length + as.length ≤ lim →
    lcF vs g t fd (as.map enc) ρ acc = .ok (acc ++ ((as.filter B).map Y).map enc', W)
  | [], ρ, acc, hw, _, _ => by simp only [lcF, hw, List.filter_nil, List.map_nil, List.append_nil]
  | d :: ds, ρ, acc, hw, h, hl => by
    obtain ⟨ρ1, e1, e2, e3, e4⟩ := h d List.mem_cons_self
    have hl' : acc.length + (ds.length + 1) ≤ lim := hl
    rw [List.map_cons]
    unfold lcF
    rw [hw, e1]
    dsimp only
    rw [e2]
    cases hb : B d with
    | false =>
      dsimp only
      rw [lcF_T ds ρ1 acc e4 (fun d' hd => h d' (List.mem_cons_of_mem _ hd)) (by omega), List.filter_cons_of_neg (by simp [hb])]
    | true =>
      dsimp only
      rw [e3 hb]
      dsimp only
      rw [if_pos (by omega), lcF_T ds ρ1 _ e4 (fun d' hd => h d' (List.mem_cons_of_mem _ hd)) (by rw [List.length_append]; simp only [List.length_cons, List.length_nil]; omega), List.filter_cons_of_pos hb, List.map_cons, List.map_cons, List.append_assoc]
      rfl
/-- [e for x in .. if ..] over what is encoded -/
theorem w_lcT {as : List α} (B : α → Bool) (Y : α → β) (ei : fi ρ = .ok (as.map enc, ρ')) (h : ∀ a ∈ as, ∃ ρ1, g (enc a) (wipeE ρ' vs) = .ok ρ1 ∧ t ρ1 = .ok (B a, ρ1) ∧ (B a = true → fd ρ1 = .ok (enc' (Y a), ρ1)) ∧ wipeE ρ1 vs = wipeE ρ' vs) (hl : as.length ≤ lim) (hb : backE ρ' (wipeE ρ' vs) vs = ρ') :
    cLc fi vs g t fd ρ = .ok (.o (.b (.l (((as.filter B).map Y).map enc'))), ρ') := by
  unfold cLc
  rw [ei]
  show (match lcF vs g t fd (as.map enc) ρ' [] with
    | .ok (acc, ρ'') => .ok (.o (.b (.l acc)), backE ρ' ρ'' vs)
    | _ => .bad : Out (AV × Env)) = _
  rw [lcF_T as ρ' [] rfl h (by simpa using hl)]
  dsimp only
  rw [hb]
  rfl
/-- .. without a test -/
theorem w_lcTm {as : List α} (Y : α → β) (ei : fi ρ = .ok (as.map enc, ρ')) (h : ∀ a ∈ as, ∃ ρ1, g (enc a) (wipeE ρ' vs) = .ok ρ1 ∧ fd ρ1 = .ok (enc' (Y a), ρ1) ∧ wipeE ρ1 vs = wipeE ρ' vs) (hl : as.length ≤ lim) (hb : backE ρ' (wipeE ρ' vs) vs = ρ') :
    cLc fi vs g cYes fd ρ = .ok (.o (.b (.l ((as.map Y).map enc'))), ρ') := by
  rw [w_lcT (B := fun _ => true) Y ei (fun d hd => by
    obtain ⟨ρ1, e1, e2, e3⟩ := h d hd
    exact ⟨ρ1, e1, rfl, fun _ => e2, e3⟩) hl hb, filter_all fun _ _ => rfl]
/-- .. the items themselves -/
theorem w_lcTf {as : List α} (B : α → Bool) (ei : fi ρ = .ok (as.map enc, ρ')) (h : ∀ a ∈ as, ∃ ρ1, g (enc a) (wipeE ρ' vs) = .ok ρ1 ∧ t ρ1 = .ok (B a, ρ1) ∧ (B a = true → fd ρ1 = .ok (enc a, ρ1)) ∧ wipeE ρ1 vs = wipeE ρ' vs) (hl : as.length ≤ lim) (hb : backE ρ' (wipeE ρ' vs) vs = ρ') :
    cLc fi vs g t fd ρ = .ok (.o (.b (.l ((as.filter B).map enc))), ρ') := by
  have := w_lcT (enc := enc) (enc' := enc) B (fun a => a) ei h hl hb
  simpa using this
theorem enumD_go (E : List α → Env) : ∀ (xs pre : List α), (∀ p a post, pre ++ xs = p ++ a :: post → iter1 g f (.tup [.int (p.length : Nat), enc a]) (E p) = .ok (.nx (E (p ++ [a])))) → forF g f (enumD pre.length (xs.map enc)) (E pre) = .ok (.nx (E (pre ++ xs)))
  | [], pre, _ => by rw [List.append_nil]; rfl
  | x :: xs, pre, h => by
    show forF g f (.tup [.int (pre.length : Nat), enc x] :: enumD (pre.length + 1) (xs.map enc)) (E pre) = _
    rw [forF_cons, h pre x xs rfl]
    dsimp only
    have := enumD_go E xs (pre ++ [x]) fun p a post e => h p a post (by rw [← e]; simp)
    rw [List.length_append] at this
    rw [show pre.length + 1 = pre.length + [x].length from rfl, this]
    simp
/-- for i, x in enumerate(..) -/
theorem forF_enum (E : List α → Env) {xs : List α} (h : ∀ p a post, xs = p ++ a :: post → iter1 g f (.tup [.int (p.length : Nat), enc a]) (E p) = .ok (.nx (E (p ++ [a])))) : forF g f (enumD 0 (xs.map enc)) (E []) = .ok (.nx (E xs)) := by
  have := enumD_go (g := g) (f := f) (enc := enc) E xs [] h
  simpa using this
def kEnum (p : D × Env) : Out (List D × Env) := (Out.of (lstD p.1)).bind fun ds => .ok (enumD 0 ds, p.2)
theorem v_enum {fx : Env → Out (D × Env)} : cEnum fx ρ = (fx ρ).bind kEnum := Eq.trans rfl rfl
theorem v_enum1 {ds : List D} : kEnum (.lst ds, ρ) = .ok (enumD 0 ds, ρ) := Eq.trans rfl rfl
theorem v_wipeE0 : wipeE ρ [] = ρ := Eq.trans rfl rfl
end
end J
namespace J
section
variable {ρ ρ' : Env} {op : Int → Int → Int} {i : Nat} {fa : ECode} {a b : Int} {x y : D}
def kAug1 (op : Int → Int → Int) (i : Nat) (x : D) (p : AV × Env) : Out Flow := match p.1 with
  | .d y => (Out.of (ipD op x y)).bind fun z => if i < p.2.length then .ok (.nx (p.2.set i (some (.d z)))) else .bad
  | _ => .bad
def kAug (op : Int → Int → Int) (i : Nat) (fa : ECode) (ρ : Env) : Option (Option SV) → Out Flow
  | some (some (.d x)) => (fa ρ).bind (kAug1 op i x)
  | _ => .bad
theorem v_aug : cAug op i fa ρ = kAug op i fa ρ ρ[i]? := by
  unfold cAug kAug
  rcases ρ[i]? with _ | _ | _ | _ <;> rfl
theorem v_aug1 : kAug op i fa ρ (some (some (.d x))) = (fa ρ).bind (kAug1 op i x) := Eq.trans rfl rfl
theorem v_aug2 (h : i < ρ.length) : kAug1 op i (.int a) (.d (.int b), ρ) = .ok (.nx (ρ.set i (some (.d (.int (op a b)))))) := by
  show (if i < ρ.length then .ok (.nx (ρ.set i (some (.d (.int (op a b)))))) else .bad : Out Flow) = _
  rw [if_pos h]
theorem w_put_l {xs : List D} {k : Nat} (h : k < xs.length) : putD (.l xs) (.int (k : Int)) x = some (.l (xs.set k x)) := by
  show (L2.ixN xs.length (k : Int)).map (fun j => W0.l (xs.set j x)) = _
  rw [w_ix h]; rfl
theorem w_mul_l {xs : List D} {k : Nat} (h1 : k ≤ 1000000) (h2 : xs.length * k ≤ lim) : mulD (.lst xs) (.int (k : Int)) = some (.o (.b (.l (List.replicate k xs).flatten))) := by
  unfold mulD
  dsimp only
  rw [if_pos ⟨by omega, by omega, by simpa using h2⟩]
  simp
end
end J
namespace J
section
variable {ρ ρ' : Env} {t : ExT} {C c : PySem.Str} {i : Nat} {f g : SCode} {h : Exn → PySem.Addr → PySem.Addr → SCode} {r : Flow} {o : Out Flow} {b : Bool} {av : AV} {e : Exn} {a : PySem.Addr} {y : Option (PySem.Addr × PySem.Str × D)} {p : D}
theorem v_lstN {ds : List D} (h : ds.length ≤ 1000) : kLst (ds, ρ) = .ok (.o (.b (.l ds)), ρ) := by
  show fin (if ds.length ≤ lim then some (AV.o (.b (.l ds))) else none) ρ = _
  rw [if_pos (Nat.le_trans h (by decide))]; rfl
theorem v_tupN {ds : List D} (h : ds.length ≤ 1000) : kTup (ds, ρ) = .ok (.d (.tup ds), ρ) := by
  show fin (if ds.length ≤ lim then some (AV.d (.tup ds)) else none) ρ = _
  rw [if_pos (Nat.le_trans h (by decide))]; rfl
def kTryB : Option Bool → Out Flow → Out Flow → Out Flow
  | some true, x, _ => x
  | some false, _, y => y
  | none, _, _ => .bad
noncomputable def kTryA (t : ExT) (C : PySem.Str) (i : Nat) (h : Exn → PySem.Addr → PySem.Addr → SCode) : Out Flow → Out Flow
  | .exc x ρ' => kTryB (exIs t x.cls C) (allA fun a b => wpX i (noX (h x a b (ρ'.set i (some (.ex a (x.fo b))))))) (.exc x ρ')
  | r => r
theorem v_tryAs : cTryAs t C i f h ρ = kTryA t C i h (f ρ) := by
  unfold cTryAs kTryA
  rcases f ρ with _ | ⟨x, ρ'⟩ | _
  · rfl
  · dsimp only
    rcases exIs t x.cls C with _ | _ | _ <;> rfl
  · rfl
theorem v_tryA1 : kTryA t C i h (.ok r) = .ok r := Eq.trans rfl rfl
theorem v_tryA2 : kTryA t C i h (.exc (.plain c) ρ') = kTryB (exIs t c C) (allA fun a b => wpX i (noX (h (.plain c) a b (ρ'.set i (some (.ex a none)))))) (.exc (.plain c) ρ') := Eq.trans rfl rfl
theorem v_tryB1 {x z : Out Flow} : kTryB (some true) x z = x := Eq.trans rfl rfl
theorem v_tryB2 {x z : Out Flow} : kTryB (some false) x z = z := Eq.trans rfl rfl
theorem v_allA : (allA fun _ _ => o) = o := by
  unfold allA
  rw [if_pos fun _ _ => rfl]
theorem v_wpX1 : wpX i (.ok (.nx ρ)) = .ok (.nx (ρ.set i none)) := Eq.trans rfl rfl
theorem v_wpX2 : wpX i (.ok (.rt av ρ)) = .ok (.rt av (ρ.set i none)) := Eq.trans rfl rfl
theorem v_noX1 : noX (.ok r) = .ok r := Eq.trans rfl rfl
def kTry (t : ExT) (C : PySem.Str) (h : SCode) : Out Flow → Out Flow
  | .exc x ρ' => kTryB (exIs t x.cls C) (noX (h ρ')) (.exc x ρ')
  | r => r
theorem v_try : cTry t C f g ρ = kTry t C g (f ρ) := by
  unfold cTry kTry
  rcases f ρ with _ | ⟨x, ρ'⟩ | _
  · rfl
  · dsimp only
    rcases exIs t x.cls C with _ | _ | _ <;> rfl
  · rfl
theorem v_try1 : kTry t C g (.ok r) = .ok r := Eq.trans rfl rfl
theorem v_try2 : kTry t C g (.exc (.plain c) ρ') = kTryB (exIs t c C) (noX (g ρ')) (.exc (.plain c) ρ') := Eq.trans rfl rfl
def kIs : Option Bool → PySem.Addr → Env → Option (Option SV) → Out (AV × Env)
  | some b, a, ρ, some (some (.ex a' _)) => if a' = a then .ok (.d (.bl b), ρ) else .bad
  | _, _, _, _ => .bad
theorem v_isE : cIsE t (.plain c) a i C ρ = kIs (exIs t c C) a ρ ρ[i]? := by
  show cIsX t c a i C ρ = _
  unfold cIsX kIs
  rcases ρ[i]? with _ | _ | _ | _ | _ <;> rcases exIs t c C with _ | _ <;> first | rfl | (dsimp only; split <;> rfl)
theorem v_isE1 : kIs (some b) a ρ (some (some (.ex a y))) = .ok (.d (.bl b), ρ) := by
  show (if a = a then .ok (.d (.bl b), ρ) else .bad : Out (AV × Env)) = _
  rw [if_pos rfl]
def kFrzE (p : D × Env) : Out (AV × Env) := .ok (.d p.1, p.2)
theorem v_frzE {fd : Env → Out (D × Env)} : cFrzE fd ρ = (fd ρ).bind kFrzE := Eq.trans rfl rfl
theorem v_frzE1 : kFrzE (p, ρ) = .ok (.d p, ρ) := Eq.trans rfl rfl
end
/-- a loop over two parts, the first of which goes through by its parts -/
theorem forF_pre_then {α : Type} {g : TgC} {f : SCode} {enc : α → D} (E : List α → Env) {ys : List D} : ∀ (xs pre : List α), (∀ p a post, pre ++ xs = p ++ a :: post → iter1 g f (enc a) (E p) = .ok (.nx (E (p ++ [a])))) → forF g f (xs.map enc ++ ys) (E pre) = forF g f ys (E (pre ++ xs))
  | [], pre, _ => by rw [List.append_nil]; rfl
  | x :: xs, pre, h => by
    rw [List.map_cons, List.cons_append, forF_cons, h pre x xs rfl]
    dsimp only
    rw [forF_pre_then E xs (pre ++ [x]) fun p a post e => h p a post (by rw [← e]; simp)]
    simp
theorem forF_then {α : Type} {g : TgC} {f : SCode} {enc : α → D} (E : List α → Env) {ys : List D} {xs : List α} (h : ∀ p a post, xs = p ++ a :: post → iter1 g f (enc a) (E p) = .ok (.nx (E (p ++ [a])))) : forF g f (xs.map enc ++ ys) (E []) = forF g f ys (E xs) := by
  have := forF_pre_then (g := g) (f := f) (enc := enc) E (ys := ys) xs [] h
  simpa using this
theorem forF_exc {g : TgC} {f : SCode} {d : D} {ds : List D} {ρ ρ' : Env} {x : Exn} (e : iter1 g f d ρ = .exc x ρ') : forF g f (d :: ds) ρ = .exc x ρ' := by rw [forF_cons, e]
theorem forF_rt {g : TgC} {f : SCode} {d : D} {ds : List D} {ρ ρ' : Env} {av : AV} (e : iter1 g f d ρ = .ok (.rt av ρ')) : forF g f (d :: ds) ρ = .ok (.rt av ρ') := by rw [forF_cons, e]
theorem r1N {n : Nat} (h : n ≤ 1000000) : rItems1 [.int (n : Int)] = some (rangeD 0 n) := by
  have := v_r1 (n := (n : Int)) (by omega) (by omega)
  simpa using this
theorem r2N {m n : Nat} (h : n ≤ 2000000) (h2 : m ≤ 2000000) : rItems2 [.int (m : Int), .int (n : Int)] = some (rangeD m (n - m)) := by
  have := v_r2 (m := (m : Int)) (n := (n : Int)) (by omega) (by omega) (by omega) (by omega)
  rwa [show ((n : Int) - (m : Int)).toNat = n - m from by omega] at this
theorem r2S {m n : Nat} (h : n ≤ 1000000) (h2 : m ≤ 1000000) : rItems2 [.int ((m : Int) + 1), .int (n : Int)] = some (rangeD ((m : Int) + 1) (n - (m + 1))) := by
  have := r2N (m := m + 1) (n := n) (by omega) (by omega)
  simpa using this
def upto (n : Nat) : List Int := (List.range n).map fun (i : Nat) => (i : Int)
theorem mem_upto {n : Nat} {x : Int} : x ∈ upto n ↔ 0 ≤ x ∧ x < n := by
  unfold upto
  simp only [List.mem_map, List.mem_range]
  constructor
  · rintro ⟨i, hi, rfl⟩; omega
  · rintro ⟨h1, h2⟩; exact ⟨x.toNat, by omega, by omega⟩
theorem upto_len {n : Nat} : (upto n).length = n := by simp [upto]
theorem upto_nodup (n : Nat) : (upto n).Nodup := by
  unfold upto List.Nodup
  rw [List.pairwise_map]
  exact List.nodup_range.imp fun h => by omega
theorem upto_lt (n : Nat) : (upto n).Pairwise (· < ·) := by
  unfold upto
  rw [List.pairwise_map]
  exact List.pairwise_lt_range.imp fun h => by omega
theorem upto_succ (n : Nat) : upto (n + 1) = upto n ++ [(n : Int)] := by unfold upto; rw [List.range_succ, List.map_append]; rfl
theorem rangeD_upto {n : Nat} : rangeD 0 n = (upto n).map .int := by
  unfold rangeD upto
  rw [List.map_map]
  refine List.map_congr_left fun i _ => ?_
  simp
theorem rg_upto {n : Nat} (h : n ≤ 1000000) : rgItems [.int (n : Int)] = some ((upto n).map D.int) := rg1 h
theorem at_nat {vs : List Int} {i : Nat} (h : i < vs.length) : L2.atI (vs.map D.int) (i : Int) = some (.int vs[i]) := atI_nat (by simp [h])
theorem at_get {xs : List D} {i : Nat} (h : i < xs.length) : L2.atI xs (i : Int) = some xs[i] := atI_nat (by simp [h])
theorem getD_at {vs : List Int} {i : Nat} (h : i < vs.length) : vs.getD i 0 = vs[i] := by rw [List.getD_eq_getElem?_getD, List.getElem?_eq_getElem h]; rfl
theorem nd_inj {α : Type} {vs : List α} (nd : vs.Nodup) {i j : Nat} {hi : i < vs.length} {hj : j < vs.length} (e : vs[i] = vs[j]) : i = j := by
  have := List.pairwise_iff_getElem.mp nd
  rcases Nat.lt_trichotomy i j with h | h | h
  · exact absurd e (this i j hi hj h)
  · exact h
  · exact absurd e.symm (this j i hj hi h)
theorem nodup_le {α : Type} [DecidableEq α] : ∀ {p q : List α}, p.Nodup → (∀ x ∈ p, x ∈ q) → p.length ≤ q.length
  | [], _, _, _ => by simp
  | x :: p, q, nd, h => by
    obtain ⟨n1, n2⟩ := List.nodup_cons.mp nd
    have hx := h x List.mem_cons_self
    have ih := nodup_le (q := q.erase x) n2 fun y hy => (List.mem_erase_of_ne (by rintro rfl; exact n1 hy)).mpr (h y (List.mem_cons_of_mem _ hy))
    rw [List.length_erase_of_mem hx] at ih
    have : 0 < q.length := List.length_pos_of_mem hx
    rw [List.length_cons]; omega
theorem take_snoc {α : Type} {xs : List α} {i : Nat} {x : α} (h : xs[i]? = some x) : xs.take (i + 1) = xs.take i ++ [x] := by
  rw [List.take_succ, h]; rfl
theorem popAt {xs : List D} {k : Nat} {x : D} (h : xs[k]? = some x) (hk : k < 1000000) : popD (.l xs) [.int (k : Int)] = some (x, .l (xs.eraseIdx k)) := by
  have hl := (List.getElem?_eq_some_iff.mp h).1
  have e : L2.ixN xs.length (k : Int) = some k := w_ix hl
  have r : rg62 (k : Int) = true := by
    unfold rg62
    simp only [Bool.and_eq_true, decide_eq_true_eq]
    omega
  show (if rg62 (k : Int) then (L2.ixN xs.length (k : Int)).bind fun k => (xs[k]?).map fun d => (d, W0.l (xs.eraseIdx k)) else none) = _
  rw [if_pos r, e]
  show (xs[k]?).map (fun d => (d, W0.l (xs.eraseIdx k))) = _
  rw [h]; rfl
theorem perm_erase {α : Type} : ∀ {xs : List α} {k : Nat} {x : α}, xs[k]? = some x → (x :: xs.eraseIdx k).Perm xs
  | y :: ys, 0, x, h => by simp at h; subst h; exact List.Perm.refl _
  | y :: ys, k + 1, x, h => by
    have ih := perm_erase (xs := ys) (k := k) (x := x) (by simpa using h)
    exact (List.Perm.swap y x _).trans (ih.cons y)
  | [], k, x, h => by simp at h
theorem cutD_map {α : Type} {f : α → D} {xs : List α} {lo hi : Option Int} : cutD (xs.map f) lo hi = ((xs.drop (HT.sIx xs.length 0 lo)).take (HT.sIx xs.length xs.length hi - HT.sIx xs.length 0 lo)).map f := by
  unfold cutD
  rw [List.length_map, ← List.map_drop, ← List.map_take]
theorem cut_take {α : Type} {f : α → D} {xs : List α} {k : Nat} (h : k ≤ xs.length) : cutD (xs.map f) none (some (k : Int)) = (xs.take k).map f := by
  rw [cutD_map]
  have e1 : HT.sIx xs.length 0 none = 0 := rfl
  have e2 : HT.sIx xs.length xs.length (some (k : Int)) = k := by
    rw [HT.sIx_nat]; omega
  rw [e1, e2, List.drop_zero, Nat.sub_zero]
theorem cut_drop {α : Type} {f : α → D} {xs : List α} {k : Nat} (h : k ≤ xs.length) : cutD (xs.map f) (some (k : Int)) none = (xs.drop k).map f := by
  rw [cutD_map]
  have e1 : HT.sIx xs.length xs.length none = xs.length := rfl
  have e2 : HT.sIx xs.length 0 (some (k : Int)) = k := by
    rw [HT.sIx_nat]; omega
  rw [e1, e2, List.take_of_length_le (by rw [List.length_drop]; omega)]
end J
namespace J
open PySem.W (alike dataLt Datum DatumOrd)
section
variable {α : Type} [DecidableEq α] [DatumOrd α] {f : α → D}
theorem alk_of (h : ∀ a, (f a).pd = Datum.toD a) (k : ∀ a, okN 60 (f a) = true) (n : ∀ a, notNon (f a) = true) (a b : α) : alk (f a) (f b) = true := by
  unfold alk
  rw [k, k, n, h, h, DatumOrd.alike]; rfl
theorem ltX_of (h : ∀ a, (f a).pd = Datum.toD a) (k : ∀ a, okN 60 (f a) = true) (n : ∀ a, notNon (f a) = true) (a b : α) : ltX (f a) (f b) = some (.d (.bl (DatumOrd.lt a b))) := by
  unfold ltX
  rw [if_pos (alk_of h k n a b), h, h, DatumOrd.lt_eq]
theorem gtX_of (h : ∀ a, (f a).pd = Datum.toD a) (k : ∀ a, okN 60 (f a) = true) (n : ∀ a, notNon (f a) = true) (a b : α) : gtX (f a) (f b) = some (.d (.bl (DatumOrd.lt b a))) := by
  unfold gtX
  rw [if_pos (alk_of h k n a b), h, h, DatumOrd.lt_eq]
theorem leX_of (h : ∀ a, (f a).pd = Datum.toD a) (k : ∀ a, okN 60 (f a) = true) (n : ∀ a, notNon (f a) = true) (a b : α) : leX (f a) (f b) = some (.d (.bl (!DatumOrd.lt b a))) := by
  unfold leX
  rw [if_pos (alk_of h k n a b), h, h, DatumOrd.lt_eq]
theorem geX_of (h : ∀ a, (f a).pd = Datum.toD a) (k : ∀ a, okN 60 (f a) = true) (n : ∀ a, notNon (f a) = true) (a b : α) : geX (f a) (f b) = some (.d (.bl (!DatumOrd.lt a b))) := by
  unfold geX
  rw [if_pos (alk_of h k n a b), h, h, DatumOrd.lt_eq]
theorem min2X_of (h : ∀ a, (f a).pd = Datum.toD a) (k : ∀ a, okN 60 (f a) = true) (n : ∀ a, notNon (f a) = true) (a b : α) : min2X [f a, f b] = some (.d (f (if DatumOrd.lt b a = true then b else a))) := by
  simp only [min2X, alk_of h k n, Bool.and_self, if_true, h, DatumOrd.lt_eq]
  split <;> rfl
end
theorem pd_pl (xs : List (Int × Int)) : (D.lst (xs.map pD)).pd = Datum.toD xs := by
  rw [D.pd, pds_map]
  show PySem.PyData.list _ = PySem.PyData.list _
  rw [List.map_map]; rfl
theorem okN_pl (xs : List (Int × Int)) : okN 60 (.lst (xs.map pD)) = true := by
  simp only [okN]
  exact okNs_map (fun p => okN_p p) xs
/-- rows of pairs in order -/
def ltPb (p q : Int × Int) : Bool := decide (p.1 < q.1 ∨ (p.1 = q.1 ∧ p.2 < q.2))
def ltR : List (Int × Int) → List (Int × Int) → Bool
  | [], [] => false
  | [], _ :: _ => true
  | _ :: _, [] => false
  | x :: xs, y :: ys => if x = y then ltR xs ys else ltPb x y
theorem lt_pair (p q : Int × Int) : DatumOrd.lt p q = ltPb p q := by
  show (if p.1 = q.1 then decide (p.2 < q.2) else decide (p.1 < q.1)) = _
  unfold ltPb
  split
  · rename_i h; rw [decide_eq_decide]; omega
  · rename_i h; rw [decide_eq_decide]; omega
theorem lt_row : ∀ xs ys : List (Int × Int), DatumOrd.lt xs ys = ltR xs ys
  | [], [] => rfl
  | [], _ :: _ => rfl
  | _ :: _, [] => rfl
  | x :: xs, y :: ys => by
    show (if x = y then DatumOrd.lt xs ys else DatumOrd.lt x y) = _
    rw [lt_row xs ys, lt_pair]; rfl
theorem o_ltX_pl {xs ys : List (Int × Int)} : ltX (.lst (xs.map pD)) (.lst (ys.map pD)) = some (.d (.bl (ltR xs ys))) := by
  have h := ltX_of (f := fun xs : List (Int × Int) => D.lst (xs.map pD)) pd_pl okN_pl (fun _ => rfl) xs ys
  rw [lt_row] at h
  exact h
theorem o_min2X_pl {xs ys : List (Int × Int)} : min2X [.lst (xs.map pD), .lst (ys.map pD)] = some (.d (.lst ((if ltR ys xs = true then ys else xs).map pD))) := by
  have h := min2X_of (f := fun xs : List (Int × Int) => D.lst (xs.map pD)) pd_pl okN_pl (fun _ => rfl) xs ys
  rw [lt_row] at h
  exact h
theorem ltR_irr : ∀ xs : List (Int × Int), ltR xs xs = false
  | [] => rfl
  | x :: xs => by rw [ltR, if_pos rfl]; exact ltR_irr xs
theorem ltR_tri : ∀ {xs ys : List (Int × Int)}, ltR xs ys = false → ltR ys xs = false → xs = ys
  | [], [], _, _ => rfl
  | [], _ :: _, h, _ => by cases h
  | _ :: _, [], _, h => by cases h
  | x :: xs, y :: ys, h, k => by
    rw [ltR] at h k
    by_cases e : x = y
    · subst e
      rw [if_pos rfl] at h k
      rw [ltR_tri h k]
    · rw [if_neg e] at h
      rw [if_neg (Ne.symm e)] at k
      exfalso
      apply e
      simp only [ltPb, decide_eq_false_iff_not] at h k
      ext <;> omega
theorem ltR_trans : ∀ {xs ys zs : List (Int × Int)}, ltR xs ys = true → ltR ys zs = true → ltR xs zs = true
  | _, [], [], _, k => by cases k
  | [], [], _ :: _, h, _ => by cases h
  | _ :: _, [], _, h, _ => by cases h
  | _, _ :: _, [], _, k => by cases k
  | [], _ :: _, _ :: _, _, _ => rfl
  | x :: xs, y :: ys, z :: zs, h, k => by
    rw [ltR] at h k ⊢
    by_cases e : x = y
    · subst e
      rw [if_pos rfl] at h
      by_cases e2 : x = z
      · subst e2
        rw [if_pos rfl] at k ⊢
        exact ltR_trans h k
      · rw [if_neg e2] at k ⊢; exact k
    · rw [if_neg e] at h
      by_cases e2 : y = z
      · subst e2
        rw [if_neg e]; exact h
      · rw [if_neg e2] at k
        simp only [ltPb, decide_eq_true_eq] at h k
        have e3 : x ≠ z := by rintro rfl; apply e; ext <;> omega
        rw [if_neg e3]
        simp only [ltPb, decide_eq_true_eq]; omega
section
variable {ρ ρ' : Env} {g : List D → Option AV} {gl : Env → Out (List D × Env)} {ds : List D}
def kFn (g : List D → Option AV) (p : List D × Env) : Out (AV × Env) := fin (g p.1) p.2
theorem v_fn : cFn g gl ρ = (gl ρ).bind (kFn g) := Eq.trans rfl rfl
theorem v_fn1 : kFn g (ds, ρ) = fin (g ds) ρ := Eq.trans rfl rfl
theorem o_isN5 {xs : List D} : isND (.lst xs) .non = some (.d (.bl false)) := Eq.trans rfl rfl
theorem o_slice_t {xs : List D} {lo hi : Option Int} : sliceD (.tup xs) lo hi = some (.d (.tup (cutD xs lo hi))) := Eq.trans rfl rfl
theorem w_add_t {xs ys : List D} (h : xs.length + ys.length ≤ lim) : addD (.tup xs) (.tup ys) = some (.d (.tup (xs ++ ys))) := by
  unfold addD
  dsimp only
  rw [if_pos h]
theorem at_getD {xs : List Int} {u : Int} (h : 0 ≤ u ∧ u < xs.length) : L2.atI (xs.map D.int) u = some (D.int (xs.getD u.toNat 0)) := by
  obtain ⟨k, rfl⟩ : ∃ k : Nat, u = k := ⟨u.toNat, by omega⟩
  refine atI_nat ?_
  rw [List.getElem?_map, Int.toNat_natCast, List.getD_eq_getElem?_getD, List.getElem?_eq_getElem (by omega)]
  rfl
theorem o_ne_pt {xs ys : List (Int × Int)} : neV' (.tup (xs.map pD)) (.tup (ys.map pD)) = some (.d (.bl (!decide (xs = ys)))) := by
  unfold neV'
  rw [if_pos (by simp [okN, okNs_map (fun p => okN_p p)])]
  simp only [eqD, eqDs_map (fun _ _ => eqD_p)]
theorem o_ne_pl {xs ys : List (Int × Int)} : neV' (.lst (xs.map pD)) (.lst (ys.map pD)) = some (.d (.bl (!decide (xs = ys)))) := by
  unfold neV'
  rw [if_pos (by simp [okN, okNs_map (fun p => okN_p p)])]
  simp only [eqD, eqDs_map (fun _ _ => eqD_p)]
end
end J
namespace K03
open PySem PySem.Spec PyProof.Rows L2 J
noncomputable section
def top (i : Nat) : Stmt := PySem.Challenge.pw_smallwidth_k03_least_forms.main.body.getD i (.Pass ⟨0, 0, 0, 0⟩)
def inCls (st : Stmt) (j : Nat) : Stmt := match st with
  | .ClassDef _ _ _ b _ _ _ _ _ _ _ => b.getD j (.Pass ⟨0, 0, 0, 0⟩)
  | _ => .Pass ⟨0, 0, 0, 0⟩
def KS : Str → Bool := fun y => !(["_near", "edges", "size"] : List Str).contains y
def exT : ExT := [("BadGraph", [("TooLarge", false)]), ("TooLarge", [("TooLarge", true)])]
def st__law_numbers : Stmt := top 16
abbrev N__law_numbers : List Str := ["_law_script", "_law_many", "_law_numbers_here", "_law_k", "_law_cell", "_law_j", "_law_mixed"]
def b1__law_numbers : SCode :=
  (cWp [5] (cIfS (cAndT (cTest (cBin gtD (cVar 4) (cC (.int 0)))) (cTest (cBin ltD (cUn lenD (cVar 2)) (cVar 1)))) (cSeq (cDrop (cMut isL appendD (cVar 2) (cCons (cD (cBin modD (cVar 4) (cC (.int 1000)))) cNil)))
  (cSet 4 (cBin fdivD (cVar 4) (cC (.int 1000))))) cPass))
def b2__law_numbers : SCode :=
  (cWp [5, 6] (cSeq (cSet 6 (cBin modD (cUn intD (cBin addD (cBin addD (cBin addD (cBin mulD (cVar 4) (cC (.int 48271))) (cBin mulD (cVar 3) (cC (.int 69621)))) (cBin mulD (cVar 5) (cC (.int 16807)))) (cC (.int 11)))) (cC (.int 2147483647))))
  (cSeq (cSet 6 (cBin modD (cUn intD (cBin addD (cBin mulD (cVar 6) (cVar 6)) (cVar 5))) (cC (.int 2147483629))))
  (cDrop (cMut isL appendD (cVar 2) (cCons (cD (cBin modD (cBin fdivD (cVar 6) (cC (.int 7))) (cC (.int 1000)))) cNil))))))
def b3__law_numbers : SCode :=
  (cWp [3, 4, 5, 6] (cSeq (cSet 4 (cUn absD (cIx (cVar 0) (cVar 3))))
  (cIfS (cTest (cBin geD (cVar 4) (cBin powD (cC (.int 10)) (cC (.int 18))))) (cWpB [3, 5, 6] (cWp [4] (cFor (cRange rItems1 (cCons (cD (cC (.int 60))) cNil)) (tName 5) b1__law_numbers))) (cWpB [5, 6] (cWp [3, 4] (cFor (cRange rItems1 (cCons (cD (cC (.int 5))) cNil)) (tName 5) b2__law_numbers))))))
def code__law_numbers : SCode :=
  (cSeq (cSet 2 (cLst cNil))
  (cSeq (cFor (cRange rItems1 (cCons (cD (cUn lenD (cVar 0))) cNil)) (tName 3) b3__law_numbers)
  (cRet (cSl (cVar 2) cNone (cSome (cVar 1))))))
def fn__law_numbers : Fn := fnRun 2 7 (fun i => [2, 3, 4, 5, 6].contains i) code__law_numbers
def st__law_take : Stmt := top 17
abbrev N__law_take : List Str := ["_law_numbers_here", "_law_place"]
def code__law_take : SCode :=
  (cSeq (cIfS (cTest (cBin ltD (cIx (cVar 1) (cC (.int 0))) (cUn lenD (cVar 0)))) (cSeq (cPut (cD (cBin addD (cIx (cVar 1) (cC (.int 0))) (cC (.int 1)))) (cVar 1) (cD (cC (.int 0))))
  (cRet (cIx (cVar 0) (cBin subD (cIx (cVar 1) (cC (.int 0))) (cC (.int 1)))))) cPass)
  (cRet (cC (.int 0))))
def fn__law_take : Fn := fnRun 2 2 (fun _ => false) code__law_take
def st__law_pairs : Stmt := top 18
abbrev N__law_pairs : List Str := ["_law_size", "_law_pairs_here", "_law_u", "_law_v"]
def b1__law_pairs : SCode :=
  (cWp [3] (cDrop (cMut isL appendD (cVar 1) (cCons (cD (cTup (cCons (cD (cVar 2)) (cCons (cD (cVar 3)) cNil)))) cNil))))
def b2__law_pairs : SCode :=
  (cWp [2, 3] (cWpB [3] (cWp [2] (cFor (cRange rItems2 (cCons (cD (cBin addD (cVar 2) (cC (.int 1)))) (cCons (cD (cVar 0)) cNil))) (tName 3) b1__law_pairs))))
def code__law_pairs : SCode :=
  (cSeq (cSet 1 (cLst cNil))
  (cSeq (cFor (cRange rItems1 (cCons (cD (cVar 0)) cNil)) (tName 2) b2__law_pairs)
  (cRet (cVar 1))))
def fn__law_pairs : Fn := fnRun 1 4 (fun i => [1, 2, 3].contains i) code__law_pairs
def st__law_graph : Stmt := top 19
abbrev N__law_graph : List Str := ["_law_numbers_here", "_law_place", "_law_most", "_law_size", "_law_dense", "_law_edges", "_law_pair"]
def b1__law_graph : SCode :=
  (cWp [6] (cIfS (cTest (cBin ltD (cBin modD (cCall fn__law_take (aVar 0 (aVar 1 aNil))) (cC (.int 6))) (cVar 4))) (cDrop (cMut isL appendD (cVar 5) (cCons (cD (cVar 6)) cNil))) cPass))
def code__law_graph : SCode :=
  (cSeq (cSet 3 (cBin modD (cCall fn__law_take (aVar 0 (aVar 1 aNil))) (cBin addD (cVar 2) (cC (.int 1)))))
  (cSeq (cSet 4 (cBin addD (cC (.int 1)) (cBin modD (cCall fn__law_take (aVar 0 (aVar 1 aNil))) (cC (.int 5)))))
  (cSeq (cSet 5 (cLst cNil))
  (cSeq (cWp [4] (cFor (cItems (cCall fn__law_pairs (aVar 3 aNil))) (tName 6) b1__law_graph))
  (cRet (cTup (cCons (cD (cVar 3)) (cCons (cD (cVar 5)) cNil))))))))
def fn__law_graph : Fn := fnRun 3 7 (fun i => [3, 4, 5, 6].contains i) code__law_graph
def st_is_integer : Stmt := top 7
abbrev N_is_integer : List Str := ["value", "least", "most"]
def code_is_integer : SCode :=
  (cRet (cAnd (cUn (isiD "int") (cVar 0)) (cAnd (cNot (cUn (isiD "bool") (cVar 0))) (cChain leD leD (cVar 1) (cVar 0) (cVar 2)))))
def fn_is_integer : Fn := fnRun 3 3 (fun _ => false) code_is_integer
def st__is_edge : Stmt := top 9
abbrev N__is_edge : List Str := ["edge", "size"]
def code__is_edge : SCode :=
  (cSeq (cIfS (cOrT (cNotT (cTruth (cUn (isiD "tuple") (cVar 0)))) (cTest (cBin neV' (cUn lenD (cVar 0)) (cC (.int 2))))) (cRet (cC (.bl false))) cPass)
  (cRet (cAnd (cCall fn_is_integer (aD (cD (cIx (cVar 0) (cC (.int 0)))) (aD (cD (cC (.int 0))) (aD (cD (cBin subD (cVar 1) (cC (.int 1)))) aNil)))) (cAnd (cCall fn_is_integer (aD (cD (cIx (cVar 0) (cC (.int 1)))) (aD (cD (cC (.int 0))) (aD (cD (cBin subD (cVar 1) (cC (.int 1)))) aNil)))) (cBin ltD (cIx (cVar 0) (cC (.int 0))) (cIx (cVar 0) (cC (.int 1))))))))
def fn__is_edge : Fn := fnRun 2 2 (fun _ => false) code__is_edge
def st_Graph_init : Stmt := inCls (top 8) 0
abbrev N_Graph_init : List Str := ["self", "size", "edges", "seen", "edge", "u", "v", "_", "row"]
def b1_Graph_init : SCode :=
  (cWp [4] (cSeq (cIfS (cOrT (cNotT (cTruth (cCall fn__is_edge (aVar 4 (aVar 1 aNil))))) (cTest (cBin inD (cVar 4) (cVar 3)))) (cRaise "BadGraph") cPass)
  (cPut (cD (cC (.bl true))) (cVar 3) (cD (cVar 4)))))
def b2_Graph_init : SCode :=
  (cWp [5, 6] (cSeq (cDrop (cMutR isL appendD (cRow (cFld ["Graph"] true "_near" (cVar 0)) (qVar 5)) (qCons (qVar 6) qNil)))
  (cDrop (cMutR isL appendD (cRow (cFld ["Graph"] true "_near" (cVar 0)) (qVar 6)) (qCons (qVar 5) qNil)))))
def code_Graph_init : SCode :=
  (cSeq (cIfS (cNotT (cTruth (cCall fn_is_integer (aVar 1 (aD (cD (cC (.int 0))) (aD (cD (cC (.int 60))) aNil)))))) (cRaise "BadGraph") cPass)
  (cSeq (cSet 3 (cDic true))
  (cSeq (cForH 2 (tName 4) b1_Graph_init)
  (cSeq (cFldSet ["Graph"] "size" (cVar 1) (cVar 0))
  (cSeq (cFldSet ["Graph"] "edges" (cUn tupD (cUn sortD (cVar 3))) (cVar 0))
  (cSeq (cFldSet ["Graph"] "_near" (cLcR (cRange rItems1 (cCons (cD (cVar 1)) cNil)) [7] (tName 7) cYes (cLst cNil)) (cVar 0))
  (cSeq (cWpB [3, 4] (cFor (cItems (cFld ["Graph"] false "edges" (cVar 0))) (tTup (tsCons (tName 5) (tsCons (tName 6) tsNil))) b2_Graph_init))
  (cFldSet ["Graph"] "_near" (cLc (cItems (cFld ["Graph"] true "_near" (cVar 0))) [8] (tName 8) cYes (cD (cUn sortD (cVar 8)))) (cVar 0)))))))))
def fn_Graph_init : Fn := fnRun 3 9 (fun i => [3, 4, 5, 6].contains i) code_Graph_init
def st__law_orders : Stmt := top 22
abbrev N__law_orders : List Str := ["_law_size", "_law_orders_here", "_law_k", "_law_longer", "_law_order_here", "_law_j"]
def b1__law_orders : SCode :=
  (cWp [5] (cIfS (cTest (cBin notInD (cVar 5) (cVar 4))) (cDrop (cMut isL appendD (cVar 3) (cCons (cD (cBin addD (cVar 4) (cLst (cCons (cD (cVar 5)) cNil)))) cNil))) cPass))
def b2__law_orders : SCode :=
  (cWp [4, 5] (cWpB [5] (cWp [4] (cFor (cRange rItems1 (cCons (cD (cVar 0)) cNil)) (tName 5) b1__law_orders))))
def b3__law_orders : SCode :=
  (cWp [2, 3, 4, 5] (cSeq (cSet 3 (cLst cNil))
  (cSeq (cWpB [2, 4, 5] (cWp [1] (cFor (cItems (cVar 1)) (tName 4) b2__law_orders)))
  (cSet 1 (cVar 3)))))
def code__law_orders : SCode :=
  (cSeq (cFz 1 (cSet 1 (cLst (cCons (cD (cLst cNil)) cNil))))
  (cSeq (cFor (cRange rItems1 (cCons (cD (cVar 0)) cNil)) (tName 2) b3__law_orders)
  (cRet (cVar 1))))
def fn__law_orders : Fn := fnRun 1 6 (fun i => [1, 2, 3, 4, 5].contains i) code__law_orders
def st__law_least : Stmt := top 23
abbrev N__law_least : List Str := ["_law_size", "_law_edges", "_law_best", "_law_order_here", "_law_row", "_law_edge"]
def b1__law_least : SCode :=
  (cWp [5] (cDrop (cMut isL appendD (cVar 4) (cCons (cD (cTup (cCons (cD (cBin min2D (cIx (cVar 3) (cIx (cVar 5) (cC (.int 0)))) (cIx (cVar 3) (cIx (cVar 5) (cC (.int 1)))))) (cCons (cD (cBin max2D (cIx (cVar 3) (cIx (cVar 5) (cC (.int 0)))) (cIx (cVar 3) (cIx (cVar 5) (cC (.int 1)))))) cNil)))) cNil))))
def b2__law_least : SCode :=
  (cWp [3, 4, 5] (cSeq (cSet 4 (cLst cNil))
  (cSeq (cWpB [5] (cWp [3] (cForH 1 (tName 5) b1__law_least)))
  (cSet 2 (cFn min2X (cCons (cD (cVar 2)) (cCons (cD (cUn sortD (cVar 4))) cNil)))))))
def code__law_least : SCode :=
  (cSeq (cFz 2 (cSet 2 (cUn sortD (cVar 1))))
  (cSeq (cFor (cItems (cCall fn__law_orders (aVar 0 aNil))) (tName 3) b2__law_least)
  (cRet (cVar 2))))
def fn__law_least : Fn := fnRun 2 6 (fun i => [2, 3, 4, 5].contains i) code__law_least
def st__orders : Stmt := top 12
abbrev N__orders : List Str := ["size", "found", "thing", "longer", "order", "at"]
def b1__orders : SCode :=
  (cWp [5] (cDrop (cMut isL appendD (cVar 3) (cCons (cD (cBin addD (cBin addD (cSl (cVar 4) cNone (cSome (cVar 5))) (cTup (cCons (cD (cVar 2)) cNil))) (cSl (cVar 4) (cSome (cVar 5)) cNone))) cNil))))
def b2__orders : SCode :=
  (cWp [4, 5] (cWpB [5] (cWp [4] (cFor (cRange rItems1 (cCons (cD (cBin addD (cUn lenD (cVar 4)) (cC (.int 1)))) cNil)) (tName 5) b1__orders))))
def b3__orders : SCode :=
  (cWp [2, 3, 4, 5] (cSeq (cSet 3 (cLst cNil))
  (cSeq (cWpB [4, 5] (cWp [1, 2] (cFor (cItems (cVar 1)) (tName 4) b2__orders)))
  (cSet 1 (cVar 3)))))
def code__orders : SCode :=
  (cSeq (cFz 1 (cSet 1 (cLst (cCons (cD (cTup cNil)) cNil))))
  (cSeq (cFor (cRange rItems1 (cCons (cD (cVar 0)) cNil)) (tName 2) b3__orders)
  (cRet (cVar 1))))
def fn__orders : Fn := fnRun 1 6 (fun i => [1, 2, 3, 4, 5].contains i) code__orders
def st__least_edges : Stmt := top 13
abbrev N__least_edges : List Str := ["size", "edges", "best", "order", "row", "u", "v"]
def b1__least_edges : SCode :=
  (cWp [3, 4] (cSeq (cFz 4 (cSet 4 (cUn sortD (cLc (cItems (cVar 1)) [5, 6] (tTup (tsCons (tName 5) (tsCons (tName 6) tsNil))) cYes (cD (cTup (cCons (cD (cBin min2D (cIx (cVar 3) (cVar 5)) (cIx (cVar 3) (cVar 6)))) (cCons (cD (cBin max2D (cIx (cVar 3) (cVar 5)) (cIx (cVar 3) (cVar 6)))) cNil))))))))
  (cIfS (cOrT (cTest (cBin isND (cVar 2) (cC .non))) (cTest (cBin ltX (cVar 4) (cVar 2)))) (cSet 2 (cVar 4)) cPass)))
def code__least_edges : SCode :=
  (cSeq (cSet 2 (cC .non))
  (cSeq (cFor (cItems (cCall fn__orders (aVar 0 aNil))) (tName 3) b1__least_edges)
  (cRet (cUn tupD (cVar 2)))))
def fn__least_edges : Fn := fnRun 2 7 (fun i => [2, 3, 4].contains i) code__least_edges
def st_least_form : Stmt := top 14
abbrev N_least_form : List Str := ["graph"]
def code_least_form : SCode :=
  (cSeq (cIfS (cTest (cBin gtD (cFld ["Graph"] false "size" (cVar 0)) (cC (.int 7)))) (cRaise "TooLarge") cPass)
  (cRet (cMake "Graph" fn_Graph_init (aD (cD (cFld ["Graph"] false "size" (cVar 0))) (aD (cD (cUn listD (cCall fn__least_edges (aD (cD (cFld ["Graph"] false "size" (cVar 0))) (aD (cD (cFld ["Graph"] false "edges" (cVar 0))) aNil))))) aNil)))))
def fn_least_form : Fn := fnRun 1 1 (fun _ => false) code_least_form
def st__law_order : Stmt := top 20
abbrev N__law_order : List Str := ["_law_numbers_here", "_law_place", "_law_size", "_law_order_here", "_law_left", "_law_k"]
def b1__law_order : SCode :=
  (cWp [5] (cDrop (cMut isL appendD (cVar 3) (cCons (cD (cMut isL popD (cVar 4) (cCons (cD (cBin modD (cCall fn__law_take (aVar 0 (aVar 1 aNil))) (cUn lenD (cVar 4)))) cNil))) cNil))))
def code__law_order : SCode :=
  (cSeq (cSet 3 (cLst cNil))
  (cSeq (cSet 4 (cLstRg (cCons (cD (cVar 2)) cNil)))
  (cSeq (cWp [4] (cFor (cRange rItems1 (cCons (cD (cVar 2)) cNil)) (tName 5) b1__law_order))
  (cRet (cVar 3)))))
def fn__law_order : Fn := fnRun 3 6 (fun i => [3, 4, 5].contains i) code__law_order
def st__law_part : Stmt := top 21
abbrev N__law_part : List Str := ["_law_edges", "_law_vertices", "_law_found", "_law_k", "_law_j", "_law_pair"]
def b1__law_part : SCode :=
  (cWp [4, 5] (cSeq (cSet 5 (cTup (cCons (cD (cBin min2D (cIx (cVar 1) (cVar 3)) (cIx (cVar 1) (cVar 4)))) (cCons (cD (cBin max2D (cIx (cVar 1) (cVar 3)) (cIx (cVar 1) (cVar 4)))) cNil))))
  (cIfS (cTest (cBin inD (cVar 5) (cVar 0))) (cDrop (cMut isL appendD (cVar 2) (cCons (cD (cTup (cCons (cD (cVar 3)) (cCons (cD (cVar 4)) cNil)))) cNil))) cPass)))
def b2__law_part : SCode :=
  (cWp [3, 4, 5] (cWpB [4, 5] (cWp [3] (cFor (cRange rItems2 (cCons (cD (cBin addD (cVar 3) (cC (.int 1)))) (cCons (cD (cUn lenD (cVar 1))) cNil))) (tName 4) b1__law_part))))
def code__law_part : SCode :=
  (cSeq (cSet 2 (cLst cNil))
  (cSeq (cFor (cRange rItems1 (cCons (cD (cUn lenD (cVar 1))) cNil)) (tName 3) b2__law_part)
  (cRet (cVar 2))))
def fn__law_part : Fn := fnRun 2 6 (fun i => [2, 3, 4, 5].contains i) code__law_part
def st_law : Stmt := top 24
abbrev N_law : List Str := ["_law_script", "_law_numbers_here", "_law_place", "_law_great", "_law_drawn", "_law_graph_here", "_law_expected", "_law_actual", "_law_order_here", "_law_pairs_here", "_law_pair", "_law_changed", "_law_one"]
def b1_law : SCode :=
  (cDrop (cCall fn_least_form (aD (cD (cMake "Graph" fn_Graph_init (aD (cD (cC (.int 8))) (aD (cD (cLst cNil)) aNil)))) aNil)))
def code_law : SCode :=
  (cSeq (cFz 1 (cSet 1 (cCall fn__law_numbers (aVar 0 (aD (cD (cC (.int 40))) aNil)))))
  (cSeq (cSet 2 (cLst (cCons (cD (cC (.int 0))) cNil)))
  (cSeq (cFz 3 (cSet 3 (cCall fn__law_take (aVar 1 (aVar 2 aNil)))))
  (cSeq (cFz 4 (cSet 4 (cCall fn__law_graph (aVar 1 (aVar 2 (aD (cD (cBin addD (cC (.int 5)) (cUn intD (cBin eqV' (cBin modD (cVar 3) (cC (.int 12))) (cC (.int 11)))))) aNil))))))
  (cSeq (cFz 5 (cSet 5 (cMake "Graph" fn_Graph_init (aD (cD (cIx (cVar 4) (cC (.int 0)))) (aD (cD (cIx (cVar 4) (cC (.int 1)))) aNil)))))
  (cSeq (cFz 6 (cSet 6 (cCall fn__law_least (aD (cD (cIx (cVar 4) (cC (.int 0)))) (aD (cD (cIx (cVar 4) (cC (.int 1)))) aNil)))))
  (cSeq (cFz 7 (cSet 7 (cCall fn_least_form (aVar 5 aNil))))
  (cSeq (cIfS (cOrT (cTest (cBin neV' (cFld ["Graph"] false "size" (cVar 7)) (cIx (cVar 4) (cC (.int 0))))) (cOrT (cTest (cBin neV' (cUn listD (cFld ["Graph"] false "edges" (cVar 7))) (cVar 6))) (cTest (cBin neV' (cUn listD (cFld ["Graph"] false "edges" (cVar 5))) (cIx (cVar 4) (cC (.int 1))))))) (cRet (cC (.bl false))) cPass)
  (cSeq (cFz 8 (cSet 8 (cCall fn__law_order (aVar 1 (aVar 2 (aD (cD (cIx (cVar 4) (cC (.int 0)))) aNil))))))
  (cSeq (cIfS (cTest (cBin neV' (cFld ["Graph"] false "edges" (cFrzE (cD (cCall fn_least_form (aD (cD (cMake "Graph" fn_Graph_init (aD (cD (cIx (cVar 4) (cC (.int 0)))) (aD (cD (cCall fn__law_part (aD (cD (cIx (cVar 4) (cC (.int 1)))) (aVar 8 aNil)))) aNil)))) aNil))))) (cFld ["Graph"] false "edges" (cVar 7)))) (cRet (cC (.bl false))) cPass)
  (cSeq (cFz 9 (cSet 9 (cCall fn__law_pairs (aD (cD (cIx (cVar 4) (cC (.int 0)))) aNil))))
  (cSeq (cWp [10, 11] (cIfS (cTest (cBin gtD (cUn lenD (cVar 9)) (cC (.int 0)))) (cSeq (cSet 10 (cIx (cVar 9) (cBin modD (cCall fn__law_take (aVar 1 (aVar 2 aNil))) (cUn lenD (cVar 9)))))
  (cSeq (cSet 11 (cLc (cItems (cIx (cVar 4) (cC (.int 1)))) [12] (tName 12) (cTest (cBin neV' (cVar 12) (cVar 10))) (cD (cVar 12))))
  (cSeq (cIfS (cTest (cBin eqV' (cUn lenD (cVar 11)) (cUn lenD (cIx (cVar 4) (cC (.int 1)))))) (cDrop (cMut isL appendD (cVar 11) (cCons (cD (cVar 10)) cNil))) cPass)
  (cIfS (cTest (cBin neV' (cUn listD (cFld ["Graph"] false "edges" (cFrzE (cD (cCall fn_least_form (aD (cD (cMake "Graph" fn_Graph_init (aD (cD (cIx (cVar 4) (cC (.int 0)))) (aVar 11 aNil)))) aNil)))))) (cCall fn__law_least (aD (cD (cIx (cVar 4) (cC (.int 0)))) (aVar 11 aNil))))) (cRet (cC (.bl false))) cPass)))) cPass))
  (cSeq (cTry exT "TooLarge" b1_law (cRet (cC (.bl true))))
  (cRet (cC (.bl false))))))))))))))))
def fn_law : Fn := fnRun 1 13 (fun i => [1, 2, 3, 4, 5, 6, 7, 8, 9, 10, 11].contains i) code_law
structure Fx (K : PySem.W.Frag) (mg : Str → Option Value) : Prop where
  g_BadGraph : mg "BadGraph" = some (.ref (He.ga K "BadGraph"))
  g_Graph : mg "Graph" = some (.ref (He.ga K "Graph"))
  g_TooLarge : mg "TooLarge" = some (.ref (He.ga K "TooLarge"))
  g__is_edge : mg "_is_edge" = some (.ref (He.ga K "_is_edge"))
  g__law_graph : mg "_law_graph" = some (.ref (He.ga K "_law_graph"))
  g__law_least : mg "_law_least" = some (.ref (He.ga K "_law_least"))
  g__law_numbers : mg "_law_numbers" = some (.ref (He.ga K "_law_numbers"))
  g__law_order : mg "_law_order" = some (.ref (He.ga K "_law_order"))
  g__law_orders : mg "_law_orders" = some (.ref (He.ga K "_law_orders"))
  g__law_pairs : mg "_law_pairs" = some (.ref (He.ga K "_law_pairs"))
  g__law_part : mg "_law_part" = some (.ref (He.ga K "_law_part"))
  g__law_take : mg "_law_take" = some (.ref (He.ga K "_law_take"))
  g__least_edges : mg "_least_edges" = some (.ref (He.ga K "_least_edges"))
  g__orders : mg "_orders" = some (.ref (He.ga K "_orders"))
  g_is_integer : mg "is_integer" = some (.ref (He.ga K "is_integer"))
  g_law : mg "law" = some (.ref (He.ga K "law"))
  g_least_form : mg "least_form" = some (.ref (He.ga K "least_form"))
  n_abs : mg "abs" = none
  n_bool : mg "bool" = none
  n_int : mg "int" = none
  n_isinstance : mg "isinstance" = none
  n_len : mg "len" = none
  n_list : mg "list" = none
  n_max : mg "max" = none
  n_min : mg "min" = none
  n_range : mg "range" = none
  n_sorted : mg "sorted" = none
  n_tuple : mg "tuple" = none
  i_MOST : ∃ t, mg "MOST" = some (.int 7 t)
  i_MOST_VERTICES : ∃ t, mg "MOST_VERTICES" = some (.int 60 t)
  c_Graph : Cls K (He.ga K "Graph")
  a_Graph__near : NoAttr K (He.ga K "Graph") "_near"
  a_Graph_edges : NoAttr K (He.ga K "Graph") "edges"
  a_Graph_size : NoAttr K (He.ga K "Graph") "size"
  k_Graph : Mk K (He.ga K "Graph") (He.ma K (He.ga K "Graph") "__init__")
  e_BadGraph : J.ExcC K (He.ga K "BadGraph")
  e_TooLarge : J.ExcC K (He.ga K "TooLarge")
  m2_BadGraph_TooLarge : PySem.W.exmOne K (.ref (He.ga K "BadGraph")) (.ref (He.ga K "TooLarge")) = some false
  m2_TooLarge_TooLarge : PySem.W.exmOne K (.ref (He.ga K "TooLarge")) (.ref (He.ga K "TooLarge")) = some true
  d__law_numbers : ∃ fd, FunD K "_law_numbers" "_law_numbers" (defArgs st__law_numbers) (defBody st__law_numbers) (defScope st__law_numbers) [] [] (He.ga K "_law_numbers") fd
  d__law_take : ∃ fd, FunD K "_law_take" "_law_take" (defArgs st__law_take) (defBody st__law_take) (defScope st__law_take) [] [] (He.ga K "_law_take") fd
  d__law_pairs : ∃ fd, FunD K "_law_pairs" "_law_pairs" (defArgs st__law_pairs) (defBody st__law_pairs) (defScope st__law_pairs) [] [] (He.ga K "_law_pairs") fd
  d__law_graph : ∃ fd, FunD K "_law_graph" "_law_graph" (defArgs st__law_graph) (defBody st__law_graph) (defScope st__law_graph) [] [] (He.ga K "_law_graph") fd
  d_is_integer : ∃ fd, FunD K "is_integer" "is_integer" (defArgs st_is_integer) (defBody st_is_integer) (defScope st_is_integer) [] [] (He.ga K "is_integer") fd
  d__is_edge : ∃ fd, FunD K "_is_edge" "_is_edge" (defArgs st__is_edge) (defBody st__is_edge) (defScope st__is_edge) [] [] (He.ga K "_is_edge") fd
  d_Graph_init : ∃ fd, FunD K "__init__" "Graph.__init__" (defArgs st_Graph_init) (defBody st_Graph_init) (defScope st_Graph_init) [] [] (He.ma K (He.ga K "Graph") "__init__") fd
  d__law_orders : ∃ fd, FunD K "_law_orders" "_law_orders" (defArgs st__law_orders) (defBody st__law_orders) (defScope st__law_orders) [] [] (He.ga K "_law_orders") fd
  d__law_least : ∃ fd, FunD K "_law_least" "_law_least" (defArgs st__law_least) (defBody st__law_least) (defScope st__law_least) [] [] (He.ga K "_law_least") fd
  d__orders : ∃ fd, FunD K "_orders" "_orders" (defArgs st__orders) (defBody st__orders) (defScope st__orders) [] [] (He.ga K "_orders") fd
  d__least_edges : ∃ fd, FunD K "_least_edges" "_least_edges" (defArgs st__least_edges) (defBody st__least_edges) (defScope st__least_edges) [] [] (He.ga K "_least_edges") fd
  d_least_form : ∃ fd, FunD K "least_form" "least_form" (defArgs st_least_form) (defBody st_least_form) (defScope st_least_form) [] [] (He.ga K "least_form") fd
  d__law_order : ∃ fd, FunD K "_law_order" "_law_order" (defArgs st__law_order) (defBody st__law_order) (defScope st__law_order) [] [] (He.ga K "_law_order") fd
  d__law_part : ∃ fd, FunD K "_law_part" "_law_part" (defArgs st__law_part) (defBody st__law_part) (defScope st__law_part) [] [] (He.ga K "_law_part") fd
  d_law : ∃ fd, FunD K "law" "law" (defArgs st_law) (defBody st_law) (defScope st_law) [] [] (He.ga K "law") fd
section
variable {P : Program} {w : World} {K : PySem.W.Frag} {mg : Str → Option Value} {base : Heap}
theorem Fx.f__near (F : Fx K mg) : ∀ c ∈ (["Graph"] : List Str), ∀ C, mg c = some (.ref C) → Cls K C ∧ NoAttr K C "_near" := by
  intro c hc C hC
  have e := List.mem_singleton.mp hc
  subst e
  rw [F.g_Graph] at hC
  cases hC
  exact ⟨F.c_Graph, F.a_Graph__near⟩
theorem Fx.f_edges (F : Fx K mg) : ∀ c ∈ (["Graph"] : List Str), ∀ C, mg c = some (.ref C) → Cls K C ∧ NoAttr K C "edges" := by
  intro c hc C hC
  have e := List.mem_singleton.mp hc
  subst e
  rw [F.g_Graph] at hC
  cases hC
  exact ⟨F.c_Graph, F.a_Graph_edges⟩
theorem Fx.f_size (F : Fx K mg) : ∀ c ∈ (["Graph"] : List Str), ∀ C, mg c = some (.ref C) → Cls K C ∧ NoAttr K C "size" := by
  intro c hc C hC
  have e := List.mem_singleton.mp hc
  subst e
  rw [F.g_Graph] at hC
  cases hC
  exact ⟨F.c_Graph, F.a_Graph_size⟩
theorem c__law_numbers (F : Fx K mg) : Cal P w K mg base (fun _ => true) 1 (He.ga K "_law_numbers") ["_law_script", "_law_many"] fn__law_numbers := by
  have sc : FnScope N__law_numbers ["_law_script", "_law_many"] (defScope st__law_numbers) := ⟨rfl, rfl, rfl, by decide +kernel, rfl, by decide +kernel, by decide +kernel⟩
  refine cal_of (N := N__law_numbers) (asg := (fun i => [2, 3, 4, 5, 6].contains i)) F.d__law_numbers sc (fun _ _ _ _ _ _ us hl => match us, hl with | [_, _], _ => rfl) fun cdv A outer s H E hr => ?_
  have hu := J.hu_of hr
  have hu1 := J.hu1_of hr
  have hu0 := J.hu0_of hr
  refine jss_cons ?_ ?_
  · exact js_set (i := 2) sc.nd rfl (Or.inl rfl) rfl (jx_lst jds_nil)
  refine jss_cons ?_ ?_
  · refine js_for po_of rfl (ji_range1 rfl F.n_range (jds_cons (jd (jx_len rfl F.n_len (jx_var (i := 0)))) jds_nil)) (jg_name (i := 3) sc.nd rfl (Or.inl rfl) rfl) ?_
    refine jss_wp ?_
    refine jss_cons ?_ ?_
    · exact js_set (i := 4) sc.nd rfl (Or.inl rfl) rfl (jx_abs rfl F.n_abs (jx_ix hu1 (jx_var (i := 0)) (jx_var (i := 3))))
    refine jss_one ?_
    refine js_if (jt_ge (jx_var (i := 4)) (jx_pow jx_int jx_int)) ?_ ?_
    · refine jss_one ?_
      refine js_wpB ?_
      refine js_wp ?_
      refine js_for po_of rfl (ji_range1 rfl F.n_range (jds_cons (jd jx_int) jds_nil)) (jg_name (i := 5) sc.nd rfl (Or.inl rfl) rfl) ?_
      refine jss_wp ?_
      refine jss_one ?_
      refine js_if (JW.jt (jw_and (jt_gt (jx_var (i := 4)) jx_int) (jw_and1 (jt_lt hu (jx_len rfl F.n_len (jx_var (i := 2))) (jx_var (i := 1)))))) ?_ ?_
      · refine jss_cons ?_ ?_
        · exact js_expr (jx_mut PySem.F.plainAttrs_list PySem.F.slot_list_append PySem.F.type_list_append mt_append mtd_append kind_l kflat_l (jx_var (i := 2)) (jds_cons (jd (jx_mod (jx_var (i := 4)) jx_int)) jds_nil))
        refine jss_one ?_
        exact js_set (i := 4) sc.nd rfl (Or.inl rfl) rfl (jx_fdiv (jx_var (i := 4)) jx_int)
      · exact jss_nil
    · refine jss_one ?_
      refine js_wpB ?_
      refine js_wp ?_
      refine js_for po_of rfl (ji_range1 rfl F.n_range (jds_cons (jd jx_int) jds_nil)) (jg_name (i := 5) sc.nd rfl (Or.inl rfl) rfl) ?_
      refine jss_wp ?_
      refine jss_cons ?_ ?_
      · exact js_set (i := 6) sc.nd rfl (Or.inl rfl) rfl (jx_mod (jx_intc rfl F.n_int (jx_add (jx_add (jx_add (jx_mul (jx_var (i := 4)) jx_int) (jx_mul (jx_var (i := 3)) jx_int)) (jx_mul (jx_var (i := 5)) jx_int)) jx_int)) jx_int)
      refine jss_cons ?_ ?_
      · exact js_set (i := 6) sc.nd rfl (Or.inl rfl) rfl (jx_mod (jx_intc rfl F.n_int (jx_add (jx_mul (jx_var (i := 6)) (jx_var (i := 6))) (jx_var (i := 5)))) jx_int)
      refine jss_one ?_
      exact js_expr (jx_mut PySem.F.plainAttrs_list PySem.F.slot_list_append PySem.F.type_list_append mt_append mtd_append kind_l kflat_l (jx_var (i := 2)) (jds_cons (jd (jx_mod (jx_fdiv (jx_var (i := 6)) jx_int) jx_int)) jds_nil))
  refine jss_one ?_
  exact js_ret (jx_slice (jx_var (i := 2)) jo_none (jo_some (jx_var (i := 1))))
theorem c__law_take (F : Fx K mg) : Cal P w K mg base (fun _ => true) 1 (He.ga K "_law_take") ["_law_numbers_here", "_law_place"] fn__law_take := by
  have sc : FnScope N__law_take ["_law_numbers_here", "_law_place"] (defScope st__law_take) := ⟨rfl, rfl, rfl, by decide +kernel, rfl, by decide +kernel, by decide +kernel⟩
  refine cal_of (N := N__law_take) (asg := (fun _ => false)) F.d__law_take sc (fun _ _ _ _ _ _ us hl => match us, hl with | [_, _], _ => rfl) fun cdv A outer s H E hr => ?_
  have hu := J.hu_of hr
  have hu1 := J.hu1_of hr
  have hu0 := J.hu0_of hr
  refine jss_cons ?_ ?_
  · refine js_if (jt_lt hu (jx_ix hu1 (jx_var (i := 1)) jx_int) (jx_len rfl F.n_len (jx_var (i := 0)))) ?_ ?_
    · refine jss_cons ?_ ?_
      · exact js_put hu1 (jd (jx_add (jx_ix hu1 (jx_var (i := 1)) jx_int) jx_int)) (jx_var (i := 1)) (jd jx_int)
      refine jss_one ?_
      exact js_ret (jx_ix hu1 (jx_var (i := 0)) (jx_sub (jx_ix hu1 (jx_var (i := 1)) jx_int) jx_int))
    · exact jss_nil
  refine jss_one ?_
  exact js_ret jx_int
theorem c__law_pairs (F : Fx K mg) : Cal P w K mg base (fun _ => true) 1 (He.ga K "_law_pairs") ["_law_size"] fn__law_pairs := by
  have sc : FnScope N__law_pairs ["_law_size"] (defScope st__law_pairs) := ⟨rfl, rfl, rfl, by decide +kernel, rfl, by decide +kernel, by decide +kernel⟩
  refine cal_of (N := N__law_pairs) (asg := (fun i => [1, 2, 3].contains i)) F.d__law_pairs sc (fun _ _ _ _ _ _ us hl => match us, hl with | [_], _ => rfl) fun cdv A outer s H E hr => ?_
  have hu := J.hu_of hr
  have hu1 := J.hu1_of hr
  have hu0 := J.hu0_of hr
  refine jss_cons ?_ ?_
  · exact js_set (i := 1) sc.nd rfl (Or.inl rfl) rfl (jx_lst jds_nil)
  refine jss_cons ?_ ?_
  · refine js_for po_of rfl (ji_range1 rfl F.n_range (jds_cons (jd (jx_var (i := 0))) jds_nil)) (jg_name (i := 2) sc.nd rfl (Or.inl rfl) rfl) ?_
    refine jss_wp ?_
    refine jss_one ?_
    refine js_wpB ?_
    refine js_wp ?_
    refine js_for po_of rfl (ji_range2 rfl F.n_range (jds_cons (jd (jx_add (jx_var (i := 2)) jx_int)) (jds_cons (jd (jx_var (i := 0))) jds_nil))) (jg_name (i := 3) sc.nd rfl (Or.inl rfl) rfl) ?_
    refine jss_wp ?_
    refine jss_one ?_
    exact js_expr (jx_mut PySem.F.plainAttrs_list PySem.F.slot_list_append PySem.F.type_list_append mt_append mtd_append kind_l kflat_l (jx_var (i := 1)) (jds_cons (jd (jx_tup (jds_cons (jd (jx_var (i := 2))) (jds_cons (jd (jx_var (i := 3))) jds_nil)))) jds_nil))
  refine jss_one ?_
  exact js_ret (jx_var (i := 1))
theorem c__law_graph (F : Fx K mg) : Cal P w K mg base (fun _ => true) 2 (He.ga K "_law_graph") ["_law_numbers_here", "_law_place", "_law_most"] fn__law_graph := by
  have sc : FnScope N__law_graph ["_law_numbers_here", "_law_place", "_law_most"] (defScope st__law_graph) := ⟨rfl, rfl, rfl, by decide +kernel, rfl, by decide +kernel, by decide +kernel⟩
  refine cal_of (N := N__law_graph) (asg := (fun i => [3, 4, 5, 6].contains i)) F.d__law_graph sc (fun _ _ _ _ _ _ us hl => match us, hl with | [_, _, _], _ => rfl) fun cdv A outer s H E hr => ?_
  have hu := J.hu_of hr
  have hu1 := J.hu1_of hr
  have hu0 := J.hu0_of hr
  have c__law_pairs := c__law_pairs (P := P) (w := w) (base := base) F
  have c__law_take := c__law_take (P := P) (w := w) (base := base) F
  refine jss_cons ?_ ?_
  · exact js_set (i := 3) sc.nd rfl (Or.inl rfl) rfl (jx_mod (jx_cal c__law_take F.g__law_take (hr.mono (by decide)) rfl tk_of (fun _ _ => rfl) (jas_var (i := 0) (jas_var (i := 1) jas_nil))) (jx_add (jx_var (i := 2)) jx_int))
  refine jss_cons ?_ ?_
  · exact js_set (i := 4) sc.nd rfl (Or.inl rfl) rfl (jx_add jx_int (jx_mod (jx_cal c__law_take F.g__law_take (hr.mono (by decide)) rfl tk_of (fun _ _ => rfl) (jas_var (i := 0) (jas_var (i := 1) jas_nil))) jx_int))
  refine jss_cons ?_ ?_
  · exact js_set (i := 5) sc.nd rfl (Or.inl rfl) rfl (jx_lst jds_nil)
  refine jss_cons ?_ ?_
  · refine js_wp ?_
    refine js_for po_of rfl (ji_items (jx_cal c__law_pairs F.g__law_pairs (hr.mono (by decide)) rfl tk_of (fun _ _ => rfl) (jas_var (i := 3) jas_nil))) (jg_name (i := 6) sc.nd rfl (Or.inl rfl) rfl) ?_
    refine jss_wp ?_
    refine jss_one ?_
    refine js_if (jt_lt hu (jx_mod (jx_cal c__law_take F.g__law_take (hr.mono (by decide)) rfl tk_of (fun _ _ => rfl) (jas_var (i := 0) (jas_var (i := 1) jas_nil))) jx_int) (jx_var (i := 4))) ?_ ?_
    · refine jss_one ?_
      exact js_expr (jx_mut PySem.F.plainAttrs_list PySem.F.slot_list_append PySem.F.type_list_append mt_append mtd_append kind_l kflat_l (jx_var (i := 5)) (jds_cons (jd (jx_var (i := 6))) jds_nil))
    · exact jss_nil
  refine jss_one ?_
  exact js_ret (jx_tup (jds_cons (jd (jx_var (i := 3))) (jds_cons (jd (jx_var (i := 5))) jds_nil)))
theorem c_is_integer (F : Fx K mg) : Cal P w K mg base (fun _ => true) 1 (He.ga K "is_integer") ["value", "least", "most"] fn_is_integer := by
  have sc : FnScope N_is_integer ["value", "least", "most"] (defScope st_is_integer) := ⟨rfl, rfl, rfl, by decide +kernel, rfl, by decide +kernel, by decide +kernel⟩
  refine cal_of (N := N_is_integer) (asg := (fun _ => false)) F.d_is_integer sc (fun _ _ _ _ _ _ us hl => match us, hl with | [_, _, _], _ => rfl) fun cdv A outer s H E hr => ?_
  have hu := J.hu_of hr
  have hu1 := J.hu1_of hr
  have hu0 := J.hu0_of hr
  refine jss_one ?_
  exact js_ret (jx_and (jx_isi isi_int rfl F.n_isinstance bt_isinstance rfl F.n_int bt_int (jx_var (i := 0))) (jx_and (jx_not (jx_isi isi_bool rfl F.n_isinstance bt_isinstance rfl F.n_bool bt_bool (jx_var (i := 0)))) (jx_one (jx_chain op_le op_le op2_le op2_le (jx_var (i := 1)) (jx_var (i := 0)) (jx_var (i := 2))))))
theorem c__is_edge (F : Fx K mg) : Cal P w K mg base (fun _ => true) 2 (He.ga K "_is_edge") ["edge", "size"] fn__is_edge := by
  have sc : FnScope N__is_edge ["edge", "size"] (defScope st__is_edge) := ⟨rfl, rfl, rfl, by decide +kernel, rfl, by decide +kernel, by decide +kernel⟩
  refine cal_of (N := N__is_edge) (asg := (fun _ => false)) F.d__is_edge sc (fun _ _ _ _ _ _ us hl => match us, hl with | [_, _], _ => rfl) fun cdv A outer s H E hr => ?_
  have hu := J.hu_of hr
  have hu1 := J.hu1_of hr
  have hu0 := J.hu0_of hr
  have c_is_integer := c_is_integer (P := P) (w := w) (base := base) F
  refine jss_cons ?_ ?_
  · refine js_if (JW.jt (jw_or (jt_not (jt_truth (jx_isi isi_tuple rfl F.n_isinstance bt_isinstance rfl F.n_tuple bt_tuple (jx_var (i := 0))))) (jw_or1 (jt_ne hu (jx_len rfl F.n_len (jx_var (i := 0))) jx_int)))) ?_ ?_
    · refine jss_one ?_
      exact js_ret jx_bl
    · exact jss_nil
  refine jss_one ?_
  exact js_ret (jx_and (jx_cal c_is_integer F.g_is_integer (hr.mono (by decide)) rfl tk_of (fun _ _ => rfl) (jas_d (jd (jx_ix hu1 (jx_var (i := 0)) jx_int)) (jas_d (jd jx_int) (jas_d (jd (jx_sub (jx_var (i := 1)) jx_int)) jas_nil)))) (jx_and (jx_cal c_is_integer F.g_is_integer (hr.mono (by decide)) rfl tk_of (fun _ _ => rfl) (jas_d (jd (jx_ix hu1 (jx_var (i := 0)) jx_int)) (jas_d (jd jx_int) (jas_d (jd (jx_sub (jx_var (i := 1)) jx_int)) jas_nil)))) (jx_one (jx_lt hu (jx_ix hu1 (jx_var (i := 0)) jx_int) (jx_ix hu1 (jx_var (i := 0)) jx_int)))))
theorem c_Graph_init (F : Fx K mg) : Cal P w K mg base KS 3 (He.ma K (He.ga K "Graph") "__init__") ["self", "size", "edges"] fn_Graph_init := by
  have sc : FnScope N_Graph_init ["self", "size", "edges"] (defScope st_Graph_init) := ⟨rfl, rfl, rfl, by decide +kernel, rfl, by decide +kernel, by decide +kernel⟩
  refine cal_of (N := N_Graph_init) (asg := (fun i => [3, 4, 5, 6].contains i)) F.d_Graph_init sc (fun _ _ _ _ _ _ us hl => match us, hl with | [_, _, _], _ => rfl) fun cdv A outer s H E hr => ?_
  have hu := J.hu_of hr
  have hu1 := J.hu1_of hr
  have hu0 := J.hu0_of hr
  obtain ⟨t_MOST_VERTICES, h_MOST_VERTICES⟩ := F.i_MOST_VERTICES
  have c_is_integer := c_is_integer (P := P) (w := w) (base := base) F
  have c__is_edge := c__is_edge (P := P) (w := w) (base := base) F
  refine jss_cons ?_ ?_
  · refine js_if (jt_not (jt_truth (jx_cal c_is_integer F.g_is_integer (hr.mono (by decide)) rfl tk_of (fun _ _ => rfl) (jas_var (i := 1) (jas_d (jd jx_int) (jas_d (jd (jx_glob rfl h_MOST_VERTICES (show RelV (.int 60) (.int 60 t_MOST_VERTICES) from ⟨t_MOST_VERTICES, rfl⟩) (fun _ => rfl))) jas_nil)))))) ?_ ?_
    · refine jss_one ?_
      exact js_raise F.e_BadGraph F.g_BadGraph tk_of rfl rfl
    · exact jss_nil
  refine jss_cons ?_ ?_
  · exact js_set (i := 3) sc.nd rfl (Or.inl rfl) rfl jx_dicT
  refine jss_cons ?_ ?_
  · refine js_forH1 (i := 2) po_of rfl rfl rfl (jg_name (i := 4) sc.nd rfl (Or.inl rfl) rfl) ?_
    refine jss_wp ?_
    refine jss_cons ?_ ?_
    · refine js_if (JW.jt (jw_or (jt_not (jt_truth (jx_cal c__is_edge F.g__is_edge (hr.mono (by decide)) rfl tk_of (fun _ _ => rfl) (jas_var (i := 4) (jas_var (i := 1) jas_nil))))) (jw_or1 (jt_in hu (jx_var (i := 4)) (jx_var (i := 3)))))) ?_ ?_
      · refine jss_one ?_
        exact js_raise F.e_BadGraph F.g_BadGraph tk_of rfl rfl
      · exact jss_nil
    refine jss_one ?_
    exact js_put hu1 (jd jx_bl) (jx_var (i := 3)) (jd (jx_var (i := 4)))
  refine jss_cons ?_ ?_
  · exact js_fldsetW (cs := ["Graph"]) tle_all F.f_size (by decide +kernel) (jx_var (i := 1)) (jx_var (i := 0))
  refine jss_cons ?_ ?_
  · exact js_fldsetW (cs := ["Graph"]) tle_all F.f_edges (by decide +kernel) (jx_tupc rfl F.n_tuple (jx_sorted rfl hu rfl F.n_sorted (jx_var (i := 3)))) (jx_var (i := 0))
  refine jss_cons ?_ ?_
  · exact js_fldsetW (cs := ["Graph"]) tle_all F.f__near (by decide +kernel) (jx_lcR (own := [("_", 7)]) rfl sc.nd (ji_range1 rfl F.n_range (jds_cons (jd (jx_var (i := 1))) jds_nil)) (blkOk_by (N := N_Graph_init) (sc := defScope st_Graph_init) (own := [("_", 7)]) (by decide +kernel)) (fun _ _ _ _ _ => (jg_name (i := 7) sc.nd rfl (Or.inl rfl) rfl)) (fun _ _ _ _ _ => jts_nil) (fun _ _ _ _ _ => (jx_lst jds_nil)) tName_len) (jx_var (i := 0))
  refine jss_cons ?_ ?_
  · refine js_wpB ?_
    refine js_for po_of rfl (ji_items (jx_fld (cs := ["Graph"]) (k := false) F.f_edges (fun z => nomatch z) (jx_var (i := 0)))) (jg_tup rfl (jgs_cons (jg_name (i := 5) sc.nd rfl (Or.inl rfl) rfl) (jgs_cons (jg_name (i := 6) sc.nd rfl (Or.inl rfl) rfl) jgs_nil)) (fun _ _ _ => (tsCons_len (fun _ _ _ => (tsCons_len (fun _ _ _ => tsNil_len)))))) ?_
    refine jss_wp ?_
    refine jss_cons ?_ ?_
    · exact js_exprW tle_all (jx_mutR PySem.F.plainAttrs_list PySem.F.slot_list_append PySem.F.type_list_append mt_append mtd_append kind_l kflat_l (jp_row hu1 (jx_fld (cs := ["Graph"]) (k := true) F.f__near (fun _ => rfl) (jx_var (i := 0))) (jq_var (i := 5))) (jqs_cons (jq_var (i := 6)) jqs_nil))
    refine jss_one ?_
    exact js_exprW tle_all (jx_mutR PySem.F.plainAttrs_list PySem.F.slot_list_append PySem.F.type_list_append mt_append mtd_append kind_l kflat_l (jp_row hu1 (jx_fld (cs := ["Graph"]) (k := true) F.f__near (fun _ => rfl) (jx_var (i := 0))) (jq_var (i := 6))) (jqs_cons (jq_var (i := 5)) jqs_nil))
  refine jss_one ?_
  exact js_fldsetW (cs := ["Graph"]) tle_all F.f__near (by decide +kernel) (jx_lc (own := [("row", 8)]) rfl sc.nd (ji_items (jx_fld (cs := ["Graph"]) (k := true) F.f__near (fun _ => rfl) (jx_var (i := 0)))) (blkOk_by (N := N_Graph_init) (sc := defScope st_Graph_init) (own := [("row", 8)]) (by decide +kernel)) (fun _ _ _ _ _ => (jg_name (i := 8) sc.nd rfl (Or.inl rfl) rfl)) (fun _ _ _ _ _ => jts_nil) (fun _ _ _ _ _ => (jd (jx_sorted rfl hu rfl F.n_sorted (jx_var (i := 8))))) tName_len) (jx_var (i := 0))
theorem c__law_orders (F : Fx K mg) : Cal P w K mg base (fun _ => true) 1 (He.ga K "_law_orders") ["_law_size"] fn__law_orders := by
  have sc : FnScope N__law_orders ["_law_size"] (defScope st__law_orders) := ⟨rfl, rfl, rfl, by decide +kernel, rfl, by decide +kernel, by decide +kernel⟩
  refine cal_of (N := N__law_orders) (asg := (fun i => [1, 2, 3, 4, 5].contains i)) F.d__law_orders sc (fun _ _ _ _ _ _ us hl => match us, hl with | [_], _ => rfl) fun cdv A outer s H E hr => ?_
  have hu := J.hu_of hr
  have hu1 := J.hu1_of hr
  have hu0 := J.hu0_of hr
  refine jss_cons ?_ ?_
  · exact js_fz (j := 1) (js_set (i := 1) sc.nd rfl (Or.inl rfl) rfl (jx_lst (jds_cons (jd (jx_lst jds_nil)) jds_nil)))
  refine jss_cons ?_ ?_
  · refine js_for po_of rfl (ji_range1 rfl F.n_range (jds_cons (jd (jx_var (i := 0))) jds_nil)) (jg_name (i := 2) sc.nd rfl (Or.inl rfl) rfl) ?_
    refine jss_wp ?_
    refine jss_cons ?_ ?_
    · exact js_set (i := 3) sc.nd rfl (Or.inl rfl) rfl (jx_lst jds_nil)
    refine jss_cons ?_ ?_
    · refine js_wpB ?_
      refine js_wp ?_
      refine js_for po_of rfl (ji_items (jx_var (i := 1))) (jg_name (i := 4) sc.nd rfl (Or.inl rfl) rfl) ?_
      refine jss_wp ?_
      refine jss_one ?_
      refine js_wpB ?_
      refine js_wp ?_
      refine js_for po_of rfl (ji_range1 rfl F.n_range (jds_cons (jd (jx_var (i := 0))) jds_nil)) (jg_name (i := 5) sc.nd rfl (Or.inl rfl) rfl) ?_
      refine jss_wp ?_
      refine jss_one ?_
      refine js_if (jt_nin hu (jx_var (i := 5)) (jx_var (i := 4))) ?_ ?_
      · refine jss_one ?_
        exact js_expr (jx_mut PySem.F.plainAttrs_list PySem.F.slot_list_append PySem.F.type_list_append mt_append mtd_append kind_l kflat_l (jx_var (i := 3)) (jds_cons (jd (jx_add (jx_var (i := 4)) (jx_lst (jds_cons (jd (jx_var (i := 5))) jds_nil)))) jds_nil))
      · exact jss_nil
    refine jss_one ?_
    exact js_set (i := 1) sc.nd rfl (Or.inl rfl) rfl (jx_var (i := 3))
  refine jss_one ?_
  exact js_ret (jx_var (i := 1))
theorem c__law_least (F : Fx K mg) : Cal P w K mg base (fun _ => true) 2 (He.ga K "_law_least") ["_law_size", "_law_edges"] fn__law_least := by
  have sc : FnScope N__law_least ["_law_size", "_law_edges"] (defScope st__law_least) := ⟨rfl, rfl, rfl, by decide +kernel, rfl, by decide +kernel, by decide +kernel⟩
  refine cal_of (N := N__law_least) (asg := (fun i => [2, 3, 4, 5].contains i)) F.d__law_least sc (fun _ _ _ _ _ _ us hl => match us, hl with | [_, _], _ => rfl) fun cdv A outer s H E hr => ?_
  have hu := J.hu_of hr
  have hu1 := J.hu1_of hr
  have hu0 := J.hu0_of hr
  have c__law_orders := c__law_orders (P := P) (w := w) (base := base) F
  refine jss_cons ?_ ?_
  · exact js_fz (j := 2) (js_set (i := 2) sc.nd rfl (Or.inl rfl) rfl (jx_sorted rfl hu rfl F.n_sorted (jx_var (i := 1))))
  refine jss_cons ?_ ?_
  · refine js_for po_of rfl (ji_items (jx_cal c__law_orders F.g__law_orders (hr.mono (by decide)) rfl tk_of (fun _ _ => rfl) (jas_var (i := 0) jas_nil))) (jg_name (i := 3) sc.nd rfl (Or.inl rfl) rfl) ?_
    refine jss_wp ?_
    refine jss_cons ?_ ?_
    · exact js_set (i := 4) sc.nd rfl (Or.inl rfl) rfl (jx_lst jds_nil)
    refine jss_cons ?_ ?_
    · refine js_wpB ?_
      refine js_wp ?_
      refine js_forH1 (i := 1) po_of rfl rfl rfl (jg_name (i := 5) sc.nd rfl (Or.inl rfl) rfl) ?_
      refine jss_wp ?_
      refine jss_one ?_
      exact js_expr (jx_mut PySem.F.plainAttrs_list PySem.F.slot_list_append PySem.F.type_list_append mt_append mtd_append kind_l kflat_l (jx_var (i := 4)) (jds_cons (jd (jx_tup (jds_cons (jd (jx_min2 rfl rfl F.n_min (jx_ix hu1 (jx_var (i := 3)) (jx_ix hu1 (jx_var (i := 5)) jx_int)) (jx_ix hu1 (jx_var (i := 3)) (jx_ix hu1 (jx_var (i := 5)) jx_int)))) (jds_cons (jd (jx_max2 rfl rfl F.n_max (jx_ix hu1 (jx_var (i := 3)) (jx_ix hu1 (jx_var (i := 5)) jx_int)) (jx_ix hu1 (jx_var (i := 3)) (jx_ix hu1 (jx_var (i := 5)) jx_int)))) jds_nil)))) jds_nil))
    refine jss_one ?_
    exact js_set (i := 2) sc.nd rfl (Or.inl rfl) rfl (jx_min2X rfl hu rfl F.n_min (jds_cons (jd (jx_var (i := 2))) (jds_cons (jd (jx_sorted rfl hu rfl F.n_sorted (jx_var (i := 4)))) jds_nil)))
  refine jss_one ?_
  exact js_ret (jx_var (i := 2))
theorem c__orders (F : Fx K mg) : Cal P w K mg base (fun _ => true) 1 (He.ga K "_orders") ["size"] fn__orders := by
  have sc : FnScope N__orders ["size"] (defScope st__orders) := ⟨rfl, rfl, rfl, by decide +kernel, rfl, by decide +kernel, by decide +kernel⟩
  refine cal_of (N := N__orders) (asg := (fun i => [1, 2, 3, 4, 5].contains i)) F.d__orders sc (fun _ _ _ _ _ _ us hl => match us, hl with | [_], _ => rfl) fun cdv A outer s H E hr => ?_
  have hu := J.hu_of hr
  have hu1 := J.hu1_of hr
  have hu0 := J.hu0_of hr
  refine jss_cons ?_ ?_
  · exact js_fz (j := 1) (js_set (i := 1) sc.nd rfl (Or.inl rfl) rfl (jx_lst (jds_cons (jd (jx_tup jds_nil)) jds_nil)))
  refine jss_cons ?_ ?_
  · refine js_for po_of rfl (ji_range1 rfl F.n_range (jds_cons (jd (jx_var (i := 0))) jds_nil)) (jg_name (i := 2) sc.nd rfl (Or.inl rfl) rfl) ?_
    refine jss_wp ?_
    refine jss_cons ?_ ?_
    · exact js_set (i := 3) sc.nd rfl (Or.inl rfl) rfl (jx_lst jds_nil)
    refine jss_cons ?_ ?_
    · refine js_wpB ?_
      refine js_wp ?_
      refine js_for po_of rfl (ji_items (jx_var (i := 1))) (jg_name (i := 4) sc.nd rfl (Or.inl rfl) rfl) ?_
      refine jss_wp ?_
      refine jss_one ?_
      refine js_wpB ?_
      refine js_wp ?_
      refine js_for po_of rfl (ji_range1 rfl F.n_range (jds_cons (jd (jx_add (jx_len rfl F.n_len (jx_var (i := 4))) jx_int)) jds_nil)) (jg_name (i := 5) sc.nd rfl (Or.inl rfl) rfl) ?_
      refine jss_wp ?_
      refine jss_one ?_
      exact js_expr (jx_mut PySem.F.plainAttrs_list PySem.F.slot_list_append PySem.F.type_list_append mt_append mtd_append kind_l kflat_l (jx_var (i := 3)) (jds_cons (jd (jx_add (jx_add (jx_slice (jx_var (i := 4)) jo_none (jo_some (jx_var (i := 5)))) (jx_tup (jds_cons (jd (jx_var (i := 2))) jds_nil))) (jx_slice (jx_var (i := 4)) (jo_some (jx_var (i := 5))) jo_none))) jds_nil))
    refine jss_one ?_
    exact js_set (i := 1) sc.nd rfl (Or.inl rfl) rfl (jx_var (i := 3))
  refine jss_one ?_
  exact js_ret (jx_var (i := 1))
theorem c__least_edges (F : Fx K mg) : Cal P w K mg base (fun _ => true) 2 (He.ga K "_least_edges") ["size", "edges"] fn__least_edges := by
  have sc : FnScope N__least_edges ["size", "edges"] (defScope st__least_edges) := ⟨rfl, rfl, rfl, by decide +kernel, rfl, by decide +kernel, by decide +kernel⟩
  refine cal_of (N := N__least_edges) (asg := (fun i => [2, 3, 4].contains i)) F.d__least_edges sc (fun _ _ _ _ _ _ us hl => match us, hl with | [_, _], _ => rfl) fun cdv A outer s H E hr => ?_
  have hu := J.hu_of hr
  have hu1 := J.hu1_of hr
  have hu0 := J.hu0_of hr
  have c__orders := c__orders (P := P) (w := w) (base := base) F
  refine jss_cons ?_ ?_
  · exact js_set (i := 2) sc.nd rfl (Or.inl rfl) rfl jx_non
  refine jss_cons ?_ ?_
  · refine js_for po_of rfl (ji_items (jx_cal c__orders F.g__orders (hr.mono (by decide)) rfl tk_of (fun _ _ => rfl) (jas_var (i := 0) jas_nil))) (jg_name (i := 3) sc.nd rfl (Or.inr rfl) rfl) ?_
    refine jss_wp ?_
    refine jss_cons ?_ ?_
    · exact js_fz (j := 4) (js_set (i := 4) sc.nd rfl (Or.inl rfl) rfl (jx_sorted rfl hu rfl F.n_sorted (jx_lc (own := [("u", 5), ("v", 6)]) rfl sc.nd (ji_items (jx_var (i := 1))) (blkOk_by (N := N__least_edges) (sc := defScope st__least_edges) (own := [("u", 5), ("v", 6)]) (by decide +kernel)) (fun _ _ _ _ _ => (jg_tup rfl (jgs_cons (jg_name (i := 5) sc.nd rfl (Or.inl rfl) rfl) (jgs_cons (jg_name (i := 6) sc.nd rfl (Or.inl rfl) rfl) jgs_nil)) (fun _ _ _ => (tsCons_len (fun _ _ _ => (tsCons_len (fun _ _ _ => tsNil_len))))))) (fun _ _ _ _ _ => jts_nil) (fun _ _ _ _ _ => (jd (jx_tup (jds_cons (jd (jx_min2 rfl rfl F.n_min (jx_ix hu1 (jx_var (i := 3)) (jx_var (i := 5))) (jx_ix hu1 (jx_var (i := 3)) (jx_var (i := 6))))) (jds_cons (jd (jx_max2 rfl rfl F.n_max (jx_ix hu1 (jx_var (i := 3)) (jx_var (i := 5))) (jx_ix hu1 (jx_var (i := 3)) (jx_var (i := 6))))) jds_nil))))) (tTup_lenE (tsCons_lenE tName_len (tsCons_lenE tName_len tsNil_lenE))))))
    refine jss_one ?_
    refine js_if (JW.jt (jw_or (jt_isN (jx_var (i := 2)) jx_non) (jw_or1 (jt_ltX hu (jx_var (i := 4)) (jx_var (i := 2)))))) ?_ ?_
    · refine jss_one ?_
      exact js_set (i := 2) sc.nd rfl (Or.inl rfl) rfl (jx_var (i := 4))
    · exact jss_nil
  refine jss_one ?_
  exact js_ret (jx_tupc rfl F.n_tuple (jx_var (i := 2)))
theorem c_least_form (F : Fx K mg) : Cal P w K mg base KS 5 (He.ga K "least_form") ["graph"] fn_least_form := by
  have sc : FnScope N_least_form ["graph"] (defScope st_least_form) := ⟨rfl, rfl, rfl, by decide +kernel, rfl, by decide +kernel, by decide +kernel⟩
  refine cal_of (N := N_least_form) (asg := (fun _ => false)) F.d_least_form sc (fun _ _ _ _ _ _ us hl => match us, hl with | [_], _ => rfl) fun cdv A outer s H E hr => ?_
  have hu := J.hu_of hr
  have hu1 := J.hu1_of hr
  have hu0 := J.hu0_of hr
  obtain ⟨t_MOST, h_MOST⟩ := F.i_MOST
  have c_Graph_init := c_Graph_init (P := P) (w := w) (base := base) F
  have c__least_edges := c__least_edges (P := P) (w := w) (base := base) F
  refine jss_cons ?_ ?_
  · refine js_if (jt_gt (jx_fld (cs := ["Graph"]) (k := false) F.f_size (fun z => nomatch z) (jx_var (i := 0))) (jx_glob rfl h_MOST (show RelV (.int 7) (.int 7 t_MOST) from ⟨t_MOST, rfl⟩) (fun _ => rfl))) ?_ ?_
    · refine jss_one ?_
      exact js_raise F.e_TooLarge F.g_TooLarge tk_of rfl rfl
    · exact jss_nil
  refine jss_one ?_
  exact js_ret (jx_mak F.k_Graph c_Graph_init F.g_Graph (hr.mono (by decide)) rfl tk_of (fun _ h => h) (jas_d (jd (jx_fld (cs := ["Graph"]) (k := false) F.f_size (fun z => nomatch z) (jx_var (i := 0)))) (jas_d (jd (jx_listc rfl F.n_list (jx_cal c__least_edges F.g__least_edges (hr.mono (by decide)) rfl tk_of (fun _ _ => rfl) (jas_d (jd (jx_fld (cs := ["Graph"]) (k := false) F.f_size (fun z => nomatch z) (jx_var (i := 0)))) (jas_d (jd (jx_fld (cs := ["Graph"]) (k := false) F.f_edges (fun z => nomatch z) (jx_var (i := 0)))) jas_nil))))) jas_nil)))
theorem c__law_order (F : Fx K mg) : Cal P w K mg base (fun _ => true) 2 (He.ga K "_law_order") ["_law_numbers_here", "_law_place", "_law_size"] fn__law_order := by
  have sc : FnScope N__law_order ["_law_numbers_here", "_law_place", "_law_size"] (defScope st__law_order) := ⟨rfl, rfl, rfl, by decide +kernel, rfl, by decide +kernel, by decide +kernel⟩
  refine cal_of (N := N__law_order) (asg := (fun i => [3, 4, 5].contains i)) F.d__law_order sc (fun _ _ _ _ _ _ us hl => match us, hl with | [_, _, _], _ => rfl) fun cdv A outer s H E hr => ?_
  have hu := J.hu_of hr
  have hu1 := J.hu1_of hr
  have hu0 := J.hu0_of hr
  have c__law_take := c__law_take (P := P) (w := w) (base := base) F
  refine jss_cons ?_ ?_
  · exact js_set (i := 3) sc.nd rfl (Or.inl rfl) rfl (jx_lst jds_nil)
  refine jss_cons ?_ ?_
  · exact js_set (i := 4) sc.nd rfl (Or.inl rfl) rfl (jx_lstRg1 rfl rfl F.n_list rfl F.n_range (jd (jx_var (i := 2))))
  refine jss_cons ?_ ?_
  · refine js_wp ?_
    refine js_for po_of rfl (ji_range1 rfl F.n_range (jds_cons (jd (jx_var (i := 2))) jds_nil)) (jg_name (i := 5) sc.nd rfl (Or.inl rfl) rfl) ?_
    refine jss_wp ?_
    refine jss_one ?_
    exact js_expr (jx_mut PySem.F.plainAttrs_list PySem.F.slot_list_append PySem.F.type_list_append mt_append mtd_append kind_l kflat_l (jx_var (i := 3)) (jds_cons (jd (jx_mut PySem.F.plainAttrs_list PySem.F.slot_list_pop PySem.F.type_list_pop mt_popL mtd_pop kind_l kflat_l (jx_var (i := 4)) (jds_cons (jd (jx_mod (jx_cal c__law_take F.g__law_take (hr.mono (by decide)) rfl tk_of (fun _ _ => rfl) (jas_var (i := 0) (jas_var (i := 1) jas_nil))) (jx_len rfl F.n_len (jx_var (i := 4))))) jds_nil))) jds_nil))
  refine jss_one ?_
  exact js_ret (jx_var (i := 3))
theorem c__law_part (F : Fx K mg) : Cal P w K mg base (fun _ => true) 1 (He.ga K "_law_part") ["_law_edges", "_law_vertices"] fn__law_part := by
  have sc : FnScope N__law_part ["_law_edges", "_law_vertices"] (defScope st__law_part) := ⟨rfl, rfl, rfl, by decide +kernel, rfl, by decide +kernel, by decide +kernel⟩
  refine cal_of (N := N__law_part) (asg := (fun i => [2, 3, 4, 5].contains i)) F.d__law_part sc (fun _ _ _ _ _ _ us hl => match us, hl with | [_, _], _ => rfl) fun cdv A outer s H E hr => ?_
  have hu := J.hu_of hr
  have hu1 := J.hu1_of hr
  have hu0 := J.hu0_of hr
  refine jss_cons ?_ ?_
  · exact js_set (i := 2) sc.nd rfl (Or.inl rfl) rfl (jx_lst jds_nil)
  refine jss_cons ?_ ?_
  · refine js_for po_of rfl (ji_range1 rfl F.n_range (jds_cons (jd (jx_len rfl F.n_len (jx_var (i := 1)))) jds_nil)) (jg_name (i := 3) sc.nd rfl (Or.inl rfl) rfl) ?_
    refine jss_wp ?_
    refine jss_one ?_
    refine js_wpB ?_
    refine js_wp ?_
    refine js_for po_of rfl (ji_range2 rfl F.n_range (jds_cons (jd (jx_add (jx_var (i := 3)) jx_int)) (jds_cons (jd (jx_len rfl F.n_len (jx_var (i := 1)))) jds_nil))) (jg_name (i := 4) sc.nd rfl (Or.inl rfl) rfl) ?_
    refine jss_wp ?_
    refine jss_cons ?_ ?_
    · exact js_set (i := 5) sc.nd rfl (Or.inl rfl) rfl (jx_tup (jds_cons (jd (jx_min2 rfl rfl F.n_min (jx_ix hu1 (jx_var (i := 1)) (jx_var (i := 3))) (jx_ix hu1 (jx_var (i := 1)) (jx_var (i := 4))))) (jds_cons (jd (jx_max2 rfl rfl F.n_max (jx_ix hu1 (jx_var (i := 1)) (jx_var (i := 3))) (jx_ix hu1 (jx_var (i := 1)) (jx_var (i := 4))))) jds_nil)))
    refine jss_one ?_
    refine js_if (jt_in hu (jx_var (i := 5)) (jx_var (i := 0))) ?_ ?_
    · refine jss_one ?_
      exact js_expr (jx_mut PySem.F.plainAttrs_list PySem.F.slot_list_append PySem.F.type_list_append mt_append mtd_append kind_l kflat_l (jx_var (i := 2)) (jds_cons (jd (jx_tup (jds_cons (jd (jx_var (i := 3))) (jds_cons (jd (jx_var (i := 4))) jds_nil)))) jds_nil))
    · exact jss_nil
  refine jss_one ?_
  exact js_ret (jx_var (i := 2))
theorem j_law (F : Fx K mg) {fd : FuncData} (Fd : FunD K "law" "law" (defArgs st_law) (defBody st_law) (defScope st_law) [] [] (He.ga K "law") fd) : FnJ P w K mg base KS 6 (He.ga K "law") fd ["_law_script"] fn_law := by
  have sc : FnScope N_law ["_law_script"] (defScope st_law) := ⟨rfl, rfl, rfl, by decide +kernel, rfl, by decide +kernel, by decide +kernel⟩
  refine fnJ_of (N := N_law) (asg := (fun i => [1, 2, 3, 4, 5, 6, 7, 8, 9, 10, 11].contains i)) Fd sc fun cdv A outer s H E hr => ?_
  have hu := J.hu_of hr
  have hu1 := J.hu1_of hr
  have hu0 := J.hu0_of hr
  have c__law_numbers := c__law_numbers (P := P) (w := w) (base := base) F
  have c__law_take := c__law_take (P := P) (w := w) (base := base) F
  have c__law_graph := c__law_graph (P := P) (w := w) (base := base) F
  have c_Graph_init := c_Graph_init (P := P) (w := w) (base := base) F
  have c__law_least := c__law_least (P := P) (w := w) (base := base) F
  have c_least_form := c_least_form (P := P) (w := w) (base := base) F
  have c__law_order := c__law_order (P := P) (w := w) (base := base) F
  have c__law_pairs := c__law_pairs (P := P) (w := w) (base := base) F
  have c__law_part := c__law_part (P := P) (w := w) (base := base) F
  refine jss_cons ?_ ?_
  · exact js_fz (j := 1) (js_set (i := 1) sc.nd rfl (Or.inl rfl) rfl (jx_cal c__law_numbers F.g__law_numbers (hr.mono (by decide)) rfl tk_of (fun _ _ => rfl) (jas_var (i := 0) (jas_d (jd jx_int) jas_nil))))
  refine jss_cons ?_ ?_
  · exact js_set (i := 2) sc.nd rfl (Or.inl rfl) rfl (jx_lst (jds_cons (jd jx_int) jds_nil))
  refine jss_cons ?_ ?_
  · exact js_fz (j := 3) (js_set (i := 3) sc.nd rfl (Or.inl rfl) rfl (jx_cal c__law_take F.g__law_take (hr.mono (by decide)) rfl tk_of (fun _ _ => rfl) (jas_var (i := 1) (jas_var (i := 2) jas_nil))))
  refine jss_cons ?_ ?_
  · exact js_fz (j := 4) (js_set (i := 4) sc.nd rfl (Or.inl rfl) rfl (jx_cal c__law_graph F.g__law_graph (hr.mono (by decide)) rfl tk_of (fun _ _ => rfl) (jas_var (i := 1) (jas_var (i := 2) (jas_d (jd (jx_add jx_int (jx_intc rfl F.n_int (jx_eq hu (jx_mod (jx_var (i := 3)) jx_int) jx_int)))) jas_nil)))))
  refine jss_cons ?_ ?_
  · exact js_fz (j := 5) (js_set (i := 5) sc.nd rfl (Or.inl rfl) rfl (jx_mak F.k_Graph c_Graph_init F.g_Graph (hr.mono (by decide)) rfl tk_of (fun _ h => h) (jas_d (jd (jx_ix hu1 (jx_var (i := 4)) jx_int)) (jas_d (jd (jx_ix hu1 (jx_var (i := 4)) jx_int)) jas_nil))))
  refine jss_cons ?_ ?_
  · exact js_fz (j := 6) (js_set (i := 6) sc.nd rfl (Or.inl rfl) rfl (jx_cal c__law_least F.g__law_least (hr.mono (by decide)) rfl tk_of (fun _ _ => rfl) (jas_d (jd (jx_ix hu1 (jx_var (i := 4)) jx_int)) (jas_d (jd (jx_ix hu1 (jx_var (i := 4)) jx_int)) jas_nil))))
  refine jss_cons ?_ ?_
  · exact js_fz (j := 7) (js_set (i := 7) sc.nd rfl (Or.inl rfl) rfl (jx_cal c_least_form F.g_least_form (hr.mono (by decide)) rfl tk_of (fun _ h => h) (jas_var (i := 5) jas_nil)))
  refine jss_cons ?_ ?_
  · refine js_if (JW.jt (jw_or (jt_ne hu (jx_fld (cs := ["Graph"]) (k := false) F.f_size (fun z => nomatch z) (jx_var (i := 7))) (jx_ix hu1 (jx_var (i := 4)) jx_int)) (jw_or (jt_ne hu (jx_listc rfl F.n_list (jx_fld (cs := ["Graph"]) (k := false) F.f_edges (fun z => nomatch z) (jx_var (i := 7)))) (jx_var (i := 6))) (jw_or1 (jt_ne hu (jx_listc rfl F.n_list (jx_fld (cs := ["Graph"]) (k := false) F.f_edges (fun z => nomatch z) (jx_var (i := 5)))) (jx_ix hu1 (jx_var (i := 4)) jx_int)))))) ?_ ?_
    · refine jss_one ?_
      exact js_ret jx_bl
    · exact jss_nil
  refine jss_cons ?_ ?_
  · exact js_fz (j := 8) (js_set (i := 8) sc.nd rfl (Or.inl rfl) rfl (jx_cal c__law_order F.g__law_order (hr.mono (by decide)) rfl tk_of (fun _ _ => rfl) (jas_var (i := 1) (jas_var (i := 2) (jas_d (jd (jx_ix hu1 (jx_var (i := 4)) jx_int)) jas_nil)))))
  refine jss_cons ?_ ?_
  · refine js_if (jt_ne hu (jx_fld (cs := ["Graph"]) (k := false) F.f_edges (fun z => nomatch z) (jx_frz (jd (jx_cal c_least_form F.g_least_form (hr.mono (by decide)) rfl tk_of (fun _ h => h) (jas_d (jd (jx_mak F.k_Graph c_Graph_init F.g_Graph (hr.mono (by decide)) rfl tk_of (fun _ h => h) (jas_d (jd (jx_ix hu1 (jx_var (i := 4)) jx_int)) (jas_d (jd (jx_cal c__law_part F.g__law_part (hr.mono (by decide)) rfl tk_of (fun _ _ => rfl) (jas_d (jd (jx_ix hu1 (jx_var (i := 4)) jx_int)) (jas_var (i := 8) jas_nil)))) jas_nil)))) jas_nil))))) (jx_fld (cs := ["Graph"]) (k := false) F.f_edges (fun z => nomatch z) (jx_var (i := 7)))) ?_ ?_
    · refine jss_one ?_
      exact js_ret jx_bl
    · exact jss_nil
  refine jss_cons ?_ ?_
  · exact js_fz (j := 9) (js_set (i := 9) sc.nd rfl (Or.inl rfl) rfl (jx_cal c__law_pairs F.g__law_pairs (hr.mono (by decide)) rfl tk_of (fun _ _ => rfl) (jas_d (jd (jx_ix hu1 (jx_var (i := 4)) jx_int)) jas_nil)))
  refine jss_cons ?_ ?_
  · refine js_wp ?_
    refine js_if (jt_gt (jx_len rfl F.n_len (jx_var (i := 9))) jx_int) ?_ ?_
    · refine jss_cons ?_ ?_
      · exact js_set (i := 10) sc.nd rfl (Or.inr rfl) rfl (jx_ix hu1 (jx_var (i := 9)) (jx_mod (jx_cal c__law_take F.g__law_take (hr.mono (by decide)) rfl tk_of (fun _ _ => rfl) (jas_var (i := 1) (jas_var (i := 2) jas_nil))) (jx_len rfl F.n_len (jx_var (i := 9)))))
      refine jss_cons ?_ ?_
      · exact js_setLc (j := 11) (own := [("_law_one", 12)]) rfl sc.nd rfl rfl rfl (sw_true rfl rfl rfl rfl) (ji_items (jx_ix hu1 (jx_var (i := 4)) jx_int)) (blkOk_by (N := N_law) (sc := defScope st_law) (own := [("_law_one", 12)]) (by decide +kernel)) (fun _ _ _ _ _ => (jg_name (i := 12) sc.nd rfl (Or.inl rfl) rfl)) (fun _ _ _ _ _ => (jts_one (jt_ne hu (jx_var (i := 12)) (jx_var (i := 10))))) (fun _ _ _ _ _ => (jd (jx_var (i := 12)))) tName_len
      refine jss_cons ?_ ?_
      · refine js_if (jt_eq hu (jx_len rfl F.n_len (jx_var (i := 11))) (jx_len rfl F.n_len (jx_ix hu1 (jx_var (i := 4)) jx_int))) ?_ ?_
        · refine jss_one ?_
          exact js_expr (jx_mut PySem.F.plainAttrs_list PySem.F.slot_list_append PySem.F.type_list_append mt_append mtd_append kind_l kflat_l (jx_var (i := 11)) (jds_cons (jd (jx_var (i := 10))) jds_nil))
        · exact jss_nil
      refine jss_one ?_
      refine js_if (jt_ne hu (jx_listc rfl F.n_list (jx_fld (cs := ["Graph"]) (k := false) F.f_edges (fun z => nomatch z) (jx_frz (jd (jx_cal c_least_form F.g_least_form (hr.mono (by decide)) rfl tk_of (fun _ h => h) (jas_d (jd (jx_mak F.k_Graph c_Graph_init F.g_Graph (hr.mono (by decide)) rfl tk_of (fun _ h => h) (jas_d (jd (jx_ix hu1 (jx_var (i := 4)) jx_int)) (jas_var (i := 11) jas_nil)))) jas_nil)))))) (jx_cal c__law_least F.g__law_least (hr.mono (by decide)) rfl tk_of (fun _ _ => rfl) (jas_d (jd (jx_ix hu1 (jx_var (i := 4)) jx_int)) (jas_var (i := 11) jas_nil)))) ?_ ?_
      · refine jss_one ?_
        exact js_ret jx_bl
      · exact jss_nil
    · exact jss_nil
  refine jss_cons ?_ ?_
  · refine js_try rfl rfl ⟨rfl, by decide, .inl F.g_TooLarge⟩ tk_of (exAll_ok (And.intro (exm_row F.g_BadGraph F.m2_BadGraph_TooLarge) (And.intro (exm_row F.g_TooLarge F.m2_TooLarge_TooLarge) True.intro))) (fun W1 pn xe tk1 po1 => ?_) (fun a oe pn => ?_)
    · refine jss_one ?_
      exact js_expr (jx_cal c_least_form F.g_least_form (hr.mono (by decide)) rfl tk1 (fun _ h => h) (jas_d (jd (jx_mak F.k_Graph c_Graph_init F.g_Graph (hr.mono (by decide)) rfl tk1 (fun _ h => h) (jas_d (jd jx_int) (jas_d (jd (jx_lst jds_nil)) jas_nil)))) jas_nil))
    · refine jss_one ?_
      exact js_ret jx_bl
  refine jss_one ?_
  exact js_ret jx_bl
end
def dd__law_numbers : He.DefD := ⟨("_law_numbers", none), "_law_numbers", "_law_numbers", defArgs st__law_numbers, defBody st__law_numbers, defScope st__law_numbers, [], []⟩
def dd__law_take : He.DefD := ⟨("_law_take", none), "_law_take", "_law_take", defArgs st__law_take, defBody st__law_take, defScope st__law_take, [], []⟩
def dd__law_pairs : He.DefD := ⟨("_law_pairs", none), "_law_pairs", "_law_pairs", defArgs st__law_pairs, defBody st__law_pairs, defScope st__law_pairs, [], []⟩
def dd__law_graph : He.DefD := ⟨("_law_graph", none), "_law_graph", "_law_graph", defArgs st__law_graph, defBody st__law_graph, defScope st__law_graph, [], []⟩
def dd_is_integer : He.DefD := ⟨("is_integer", none), "is_integer", "is_integer", defArgs st_is_integer, defBody st_is_integer, defScope st_is_integer, [], []⟩
def dd__is_edge : He.DefD := ⟨("_is_edge", none), "_is_edge", "_is_edge", defArgs st__is_edge, defBody st__is_edge, defScope st__is_edge, [], []⟩
def dd_Graph_init : He.DefD := ⟨("Graph", some "__init__"), "__init__", "Graph.__init__", defArgs st_Graph_init, defBody st_Graph_init, defScope st_Graph_init, [], []⟩
def dd__law_orders : He.DefD := ⟨("_law_orders", none), "_law_orders", "_law_orders", defArgs st__law_orders, defBody st__law_orders, defScope st__law_orders, [], []⟩
def dd__law_least : He.DefD := ⟨("_law_least", none), "_law_least", "_law_least", defArgs st__law_least, defBody st__law_least, defScope st__law_least, [], []⟩
def dd__orders : He.DefD := ⟨("_orders", none), "_orders", "_orders", defArgs st__orders, defBody st__orders, defScope st__orders, [], []⟩
def dd__least_edges : He.DefD := ⟨("_least_edges", none), "_least_edges", "_least_edges", defArgs st__least_edges, defBody st__least_edges, defScope st__least_edges, [], []⟩
def dd_least_form : He.DefD := ⟨("least_form", none), "least_form", "least_form", defArgs st_least_form, defBody st_least_form, defScope st_least_form, [], []⟩
def dd__law_order : He.DefD := ⟨("_law_order", none), "_law_order", "_law_order", defArgs st__law_order, defBody st__law_order, defScope st__law_order, [], []⟩
def dd__law_part : He.DefD := ⟨("_law_part", none), "_law_part", "_law_part", defArgs st__law_part, defBody st__law_part, defScope st__law_part, [], []⟩
def dd_law : He.DefD := ⟨("law", none), "law", "law", defArgs st_law, defBody st_law, defScope st_law, [], []⟩
def fnL : List He.DefD := [dd__law_numbers, dd__law_take, dd__law_pairs, dd__law_graph, dd_is_integer, dd__is_edge, dd_Graph_init, dd__law_orders, dd__law_least, dd__orders, dd__least_edges, dd_least_form, dd__law_order, dd__law_part, dd_law]
def fxL : List Fb := []
def faL : List He.Fa := [.glo "BadGraph", .glo "Graph", .glo "TooLarge", .glo "_is_edge", .glo "_law_graph", .glo "_law_least", .glo "_law_numbers", .glo "_law_order", .glo "_law_orders", .glo "_law_pairs", .glo "_law_part", .glo "_law_take", .glo "_least_edges", .glo "_orders", .glo "is_integer", .glo "law", .glo "least_form", .free "abs", .free "bool", .free "int", .free "isinstance", .free "len", .free "list", .free "max", .free "min", .free "range", .free "sorted", .free "tuple", .int "MOST" 7, .int "MOST_VERTICES" 60, .cls "Graph", .noat "Graph" "_near", .noat "Graph" "edges", .noat "Graph" "size", .mkr "Graph", .exc "BadGraph", .exc "TooLarge", .exm "BadGraph" "TooLarge" false, .exm "TooLarge" "TooLarge" true]
abbrev kfLaw : Str → Bool := KS
abbrev lvLaw : Nat := 6
theorem fx_of {K : PySem.W.Frag} {h : Heap} {mg : Str → Option Value} (X : K.In h) (G : h.Ns mainGlobals mg) (c : He.SaysD faL fnL K) (cx : SaysX faL fnL fxL K) : Fx K mg where
  g_BadGraph := He.glo_ok X G (c.fact 0 (f := .glo "BadGraph") rfl)
  g_Graph := He.glo_ok X G (c.fact 1 (f := .glo "Graph") rfl)
  g_TooLarge := He.glo_ok X G (c.fact 2 (f := .glo "TooLarge") rfl)
  g__is_edge := He.glo_ok X G (c.fact 3 (f := .glo "_is_edge") rfl)
  g__law_graph := He.glo_ok X G (c.fact 4 (f := .glo "_law_graph") rfl)
  g__law_least := He.glo_ok X G (c.fact 5 (f := .glo "_law_least") rfl)
  g__law_numbers := He.glo_ok X G (c.fact 6 (f := .glo "_law_numbers") rfl)
  g__law_order := He.glo_ok X G (c.fact 7 (f := .glo "_law_order") rfl)
  g__law_orders := He.glo_ok X G (c.fact 8 (f := .glo "_law_orders") rfl)
  g__law_pairs := He.glo_ok X G (c.fact 9 (f := .glo "_law_pairs") rfl)
  g__law_part := He.glo_ok X G (c.fact 10 (f := .glo "_law_part") rfl)
  g__law_take := He.glo_ok X G (c.fact 11 (f := .glo "_law_take") rfl)
  g__least_edges := He.glo_ok X G (c.fact 12 (f := .glo "_least_edges") rfl)
  g__orders := He.glo_ok X G (c.fact 13 (f := .glo "_orders") rfl)
  g_is_integer := He.glo_ok X G (c.fact 14 (f := .glo "is_integer") rfl)
  g_law := He.glo_ok X G (c.fact 15 (f := .glo "law") rfl)
  g_least_form := He.glo_ok X G (c.fact 16 (f := .glo "least_form") rfl)
  n_abs := He.free_ok X G (c.fact 17 (f := .free "abs") rfl)
  n_bool := He.free_ok X G (c.fact 18 (f := .free "bool") rfl)
  n_int := He.free_ok X G (c.fact 19 (f := .free "int") rfl)
  n_isinstance := He.free_ok X G (c.fact 20 (f := .free "isinstance") rfl)
  n_len := He.free_ok X G (c.fact 21 (f := .free "len") rfl)
  n_list := He.free_ok X G (c.fact 22 (f := .free "list") rfl)
  n_max := He.free_ok X G (c.fact 23 (f := .free "max") rfl)
  n_min := He.free_ok X G (c.fact 24 (f := .free "min") rfl)
  n_range := He.free_ok X G (c.fact 25 (f := .free "range") rfl)
  n_sorted := He.free_ok X G (c.fact 26 (f := .free "sorted") rfl)
  n_tuple := He.free_ok X G (c.fact 27 (f := .free "tuple") rfl)
  i_MOST := He.int_ok X G (c.fact 28 (f := .int "MOST" 7) rfl)
  i_MOST_VERTICES := He.int_ok X G (c.fact 29 (f := .int "MOST_VERTICES" 60) rfl)
  c_Graph := He.cls_ok (c.fact 30 (f := .cls "Graph") rfl)
  a_Graph__near := He.noat_ok (c.fact 31 (f := .noat "Graph" "_near") rfl)
  a_Graph_edges := He.noat_ok (c.fact 32 (f := .noat "Graph" "edges") rfl)
  a_Graph_size := He.noat_ok (c.fact 33 (f := .noat "Graph" "size") rfl)
  k_Graph := He.mkr_ok (c.fact 34 (f := .mkr "Graph") rfl)
  e_BadGraph := let z := He.exc_ok (c.fact 35 (f := .exc "BadGraph") rfl); ⟨z.1, z.2.1, z.2.2.1, z.2.2.2⟩
  e_TooLarge := let z := He.exc_ok (c.fact 36 (f := .exc "TooLarge") rfl); ⟨z.1, z.2.1, z.2.2.1, z.2.2.2⟩
  m2_BadGraph_TooLarge := He.exm_ok (c.fact 37 (f := .exm "BadGraph" "TooLarge" false) rfl)
  m2_TooLarge_TooLarge := He.exm_ok (c.fact 38 (f := .exm "TooLarge" "TooLarge" true) rfl)
  d__law_numbers := c.def_ 0 (d := dd__law_numbers) rfl
  d__law_take := c.def_ 1 (d := dd__law_take) rfl
  d__law_pairs := c.def_ 2 (d := dd__law_pairs) rfl
  d__law_graph := c.def_ 3 (d := dd__law_graph) rfl
  d_is_integer := c.def_ 4 (d := dd_is_integer) rfl
  d__is_edge := c.def_ 5 (d := dd__is_edge) rfl
  d_Graph_init := c.def_ 6 (d := dd_Graph_init) rfl
  d__law_orders := c.def_ 7 (d := dd__law_orders) rfl
  d__law_least := c.def_ 8 (d := dd__law_least) rfl
  d__orders := c.def_ 9 (d := dd__orders) rfl
  d__least_edges := c.def_ 10 (d := dd__least_edges) rfl
  d_least_form := c.def_ 11 (d := dd_least_form) rfl
  d__law_order := c.def_ 12 (d := dd__law_order) rfl
  d__law_part := c.def_ 13 (d := dd__law_part) rfl
  d_law := c.def_ 14 (d := dd_law) rfl
end
end K03
namespace K03
open J
def tkV (xs : List Int) (p : Nat) : Int := xs.getD p 0
def tkP (xs : List Int) (p : Nat) : Nat := if p < xs.length then p + 1 else p
theorem at0 {a : D} : L2.atI [a] 0 = some a := rfl
theorem put0 {a b : D} : putD (.l [a]) (.int 0) b = some (.l [b]) := rfl
theorem o_take (xs : List Int) (p : Nat) : fn__law_take [DL xs, PL p] = .ok (.d (.int (tkV xs p)), [some (DL xs), some (PL (tkP xs p))]) := by
  by_cases h : p < xs.length
  · have h1 : (p : Int) < (xs.length : Int) := by omega
    have e1 : ((p : Int) + 1 - 1) = p := by omega
    have e2 : L2.atI (xs.map D.int) (p : Int) = some (.int xs[p]) := atI_nat (by simp [h])
    have e3 : tkV xs p = xs[p] := by simp [tkV, h]
    have e5 : (tkP xs p : Int) = (p : Int) + 1 := by simp [tkP, h]
    simp only [fn__law_take, code__law_take, v_var, v_var_d, v_var_o, v_c, v_bind, v_of, v_fin, v_vd, v_vo, v_vs, v_vs_d, v_vs_o, v_wl, v_wm, v_view1, v_view2, v_kv1, v_kv2, v_bin, v_bin1, v_bin2, v_ix, v_un, v_un1, v_test, v_test1, v_tru, v_tru1, v_tru2, v_obind, v_notT, v_notT1, v_andT, v_andT1, v_andT2, v_orT, v_orT1, v_orT2, v_not, v_not1, v_and, v_and1, v_and2, v_or, v_or1, v_or2, v_if, v_if1, v_if2, v_ch, v_ch1, v_ch2, v_ch3, v_ch4, v_ch5, v_D, v_frz_d, v_frz_o, v_frz_s, v_frz_s1, v_frz_s2, v_toD_l, v_nil, v_cons, v_cons1, v_cons2, v_tup, v_tup0, v_tup1, v_tup2, v_tup3, v_lst, v_lst0, v_lst1, v_lst2, v_set, v_set_d, v_set_o, v_set_s, v_set_s1, v_set_s2, v_setS, v_drop, v_drop1, v_ret, v_ret1, v_retN, v_pass, v_seq, v_seq1, v_seq2, v_ifS, v_ifS1, v_ifS2, v_for, v_for1, v_range, v_range1, v_r1, v_r2, v_mut, v_mut_s, v_mut_s1, v_getB, v_getB1, v_kind, v_kind1, v_isL, v_mut2, v_mutE_l, v_mutR, v_append, o_add, o_sub, o_mul, o_mod, o_fdiv, o_lt, o_le, o_gt, o_ge, o_int, o_len_l, o_len_s, o_len_t, o_abs, o_neg, o_it_l, o_it_s, o_it_t, o_item, v_lstN, v_tupN, v_tryAs, v_tryA1, v_tryA2, v_tryB1, v_tryB2, v_allA, v_wpX1, v_wpX2, v_noX1, v_try, v_try1, v_try2, v_isE, v_isE1, v_frzE, v_frzE1, o_ltX_pl, o_min2X_pl, v_fn, v_fn1, o_isN5, v_call, v_call1, v_A, v_aNil, v_aVar, v_aVar1, v_aVar2, v_aD, v_aD1, v_items, v_items_l, v_items_dl, v_items_dt, v_items_ds, v_items_s, v_items_s1, v_items_s2, v_items_s3, v_lstRg, v_dic, v_forH, v_forH1, v_forH2, v_restF, v_put, v_put1, v_put2, v_put3, v_putE, v_putR, v_fs, v_fs1, v_fld, v_fz, v_fz1, v_fz2, v_fz3, v_toD_i, v_toD_m, v_toDd, v_toDo, v_toDwl, v_toDwr, v_yes, v_make, v_make1, v_meth, v_meth2, v_sl, v_sl1, v_sl2, v_sl3, v_none, v_some, v_some1, o_slice_l, o_list_l, o_list_t, o_tup_l, o_tup_t, o_min2, o_max2, o_eq_i, o_ne_i, o_bl_eq, o_bl_ne, o_tru, o_isB, o_notB, o_add_l, o_in_il, o_nin_il, o_in_it, o_in_pl, o_in_pt, o_nin_pt, o_eq_il, o_ne_il, o_eq_pt, o_eq_pl, o_ne_p, o_eq_p, o_sort_pl, o_sort_pm, o_sort_il, v_wipe0, v_wipe1, v_wp, v_wpB, v_wp1, v_wp2, v_wp3, v_wp4, v_wp5, v_nd0, v_nd1, v_nd2, v_ap, v_ap1, v_ap2, v_ap3, v_ap4, v_slots0, v_slots1, v_slots2, v_args0, v_args1, v_args2, v_args3, v_args4, v_upd0, v_upd1, v_upd2, v_mk, v_mk1, v_mk2, v_mk3, v_run, v_end1, v_end2, v_end3, v_end4, v_end6, v_end7, v_end5, v_outs0, v_outs1, v_outs2, v_outs3, v_outs4, v_raise, v_bindx, v_seq3, v_seq4, v_seq5, v_nx1, v_nx2, v_nx3, v_nx4, v_nx5, v_iter, v_iter1, v_tname, v_ts0, v_ts1, v_ts2, v_ttup, v_for0, o_i_ii, o_i_ib, o_i_in, o_i_it, o_i_is, o_i_il, o_i_bi, o_i_bb, o_i_tt, o_i_ti, o_i_tl, o_i_tn, o_i_ts, o_i_tb, o_i_si, o_i_ss, o_i_st, o_i_tp, o_isN1, o_isN2, o_isN3, o_isN4, o_nin1, o_nin2, o_nin3, o_nin4, o_len_p, o_it_p0, o_it_p1, v_at0, v_at1, v_ttp, v_tup0i, v_enum, v_enum1, v_wipeE0, v_aug, v_aug1, v_aug2, List.getElem?_cons_succ, List.getElem?_cons_zero, List.set_cons_succ, List.set_cons_zero, List.length_cons, List.length_nil, Nat.reduceAdd, Nat.reduceLT, List.length_map, decide_true, decide_false, List.map_cons, List.map_nil, List.cons_append, List.nil_append, List.reduceReplicate, Nat.reduceSub, Nat.reduceLeDiff, Nat.reduceBEq, List.contains_cons, List.contains_nil, Bool.or_false, Bool.false_or, Bool.or_true, Bool.true_or, Bool.not_true, Bool.not_false, List.length_set, Nat.zero_add, List.getElem?_nil, h1, e1, e2, e3, e5, at0, put0]
  · have h1 : ¬ (p : Int) < (xs.length : Int) := by omega
    have e3 : tkV xs p = 0 := by simp [tkV, h]
    have e5 : tkP xs p = p := by simp [tkP, h]
    simp only [fn__law_take, code__law_take, v_var, v_var_d, v_var_o, v_c, v_bind, v_of, v_fin, v_vd, v_vo, v_vs, v_vs_d, v_vs_o, v_wl, v_wm, v_view1, v_view2, v_kv1, v_kv2, v_bin, v_bin1, v_bin2, v_ix, v_un, v_un1, v_test, v_test1, v_tru, v_tru1, v_tru2, v_obind, v_notT, v_notT1, v_andT, v_andT1, v_andT2, v_orT, v_orT1, v_orT2, v_not, v_not1, v_and, v_and1, v_and2, v_or, v_or1, v_or2, v_if, v_if1, v_if2, v_ch, v_ch1, v_ch2, v_ch3, v_ch4, v_ch5, v_D, v_frz_d, v_frz_o, v_frz_s, v_frz_s1, v_frz_s2, v_toD_l, v_nil, v_cons, v_cons1, v_cons2, v_tup, v_tup0, v_tup1, v_tup2, v_tup3, v_lst, v_lst0, v_lst1, v_lst2, v_set, v_set_d, v_set_o, v_set_s, v_set_s1, v_set_s2, v_setS, v_drop, v_drop1, v_ret, v_ret1, v_retN, v_pass, v_seq, v_seq1, v_seq2, v_ifS, v_ifS1, v_ifS2, v_for, v_for1, v_range, v_range1, v_r1, v_r2, v_mut, v_mut_s, v_mut_s1, v_getB, v_getB1, v_kind, v_kind1, v_isL, v_mut2, v_mutE_l, v_mutR, v_append, o_add, o_sub, o_mul, o_mod, o_fdiv, o_lt, o_le, o_gt, o_ge, o_int, o_len_l, o_len_s, o_len_t, o_abs, o_neg, o_it_l, o_it_s, o_it_t, o_item, v_lstN, v_tupN, v_tryAs, v_tryA1, v_tryA2, v_tryB1, v_tryB2, v_allA, v_wpX1, v_wpX2, v_noX1, v_try, v_try1, v_try2, v_isE, v_isE1, v_frzE, v_frzE1, o_ltX_pl, o_min2X_pl, v_fn, v_fn1, o_isN5, v_call, v_call1, v_A, v_aNil, v_aVar, v_aVar1, v_aVar2, v_aD, v_aD1, v_items, v_items_l, v_items_dl, v_items_dt, v_items_ds, v_items_s, v_items_s1, v_items_s2, v_items_s3, v_lstRg, v_dic, v_forH, v_forH1, v_forH2, v_restF, v_put, v_put1, v_put2, v_put3, v_putE, v_putR, v_fs, v_fs1, v_fld, v_fz, v_fz1, v_fz2, v_fz3, v_toD_i, v_toD_m, v_toDd, v_toDo, v_toDwl, v_toDwr, v_yes, v_make, v_make1, v_meth, v_meth2, v_sl, v_sl1, v_sl2, v_sl3, v_none, v_some, v_some1, o_slice_l, o_list_l, o_list_t, o_tup_l, o_tup_t, o_min2, o_max2, o_eq_i, o_ne_i, o_bl_eq, o_bl_ne, o_tru, o_isB, o_notB, o_add_l, o_in_il, o_nin_il, o_in_it, o_in_pl, o_in_pt, o_nin_pt, o_eq_il, o_ne_il, o_eq_pt, o_eq_pl, o_ne_p, o_eq_p, o_sort_pl, o_sort_pm, o_sort_il, v_wipe0, v_wipe1, v_wp, v_wpB, v_wp1, v_wp2, v_wp3, v_wp4, v_wp5, v_nd0, v_nd1, v_nd2, v_ap, v_ap1, v_ap2, v_ap3, v_ap4, v_slots0, v_slots1, v_slots2, v_args0, v_args1, v_args2, v_args3, v_args4, v_upd0, v_upd1, v_upd2, v_mk, v_mk1, v_mk2, v_mk3, v_run, v_end1, v_end2, v_end3, v_end4, v_end6, v_end7, v_end5, v_outs0, v_outs1, v_outs2, v_outs3, v_outs4, v_raise, v_bindx, v_seq3, v_seq4, v_seq5, v_nx1, v_nx2, v_nx3, v_nx4, v_nx5, v_iter, v_iter1, v_tname, v_ts0, v_ts1, v_ts2, v_ttup, v_for0, o_i_ii, o_i_ib, o_i_in, o_i_it, o_i_is, o_i_il, o_i_bi, o_i_bb, o_i_tt, o_i_ti, o_i_tl, o_i_tn, o_i_ts, o_i_tb, o_i_si, o_i_ss, o_i_st, o_i_tp, o_isN1, o_isN2, o_isN3, o_isN4, o_nin1, o_nin2, o_nin3, o_nin4, o_len_p, o_it_p0, o_it_p1, v_at0, v_at1, v_ttp, v_tup0i, v_enum, v_enum1, v_wipeE0, v_aug, v_aug1, v_aug2, List.getElem?_cons_succ, List.getElem?_cons_zero, List.set_cons_succ, List.set_cons_zero, List.length_cons, List.length_nil, Nat.reduceAdd, Nat.reduceLT, List.length_map, decide_true, decide_false, List.map_cons, List.map_nil, List.cons_append, List.nil_append, List.reduceReplicate, Nat.reduceSub, Nat.reduceLeDiff, Nat.reduceBEq, List.contains_cons, List.contains_nil, Bool.or_false, Bool.false_or, Bool.or_true, Bool.true_or, Bool.not_true, Bool.not_false, List.length_set, Nat.zero_add, List.getElem?_nil, h1, e3, e5, at0, put0]
/-- all from 0 to 999 -/
def Nums (xs : List Int) : Prop := ∀ x ∈ xs, 0 ≤ x ∧ x < 1000
theorem Nums.snoc {xs : List Int} (h : Nums xs) (y : Int) : Nums (xs ++ [y % 1000]) := fun x hx => by
  rcases List.mem_append.mp hx with z | z
  · exact h x z
  · rw [List.mem_singleton] at z; subst z; omega
theorem Nums.tk {xs : List Int} (h : Nums xs) (p : Nat) : 0 ≤ tkV xs p ∧ tkV xs p < 1000 := by
  unfold tkV
  rw [List.getD_eq_getElem?_getD]
  by_cases hp : p < xs.length
  · rw [List.getElem?_eq_getElem hp]
    exact h _ (List.getElem_mem hp)
  · rw [List.getElem?_eq_none (by omega)]
    simp
theorem pow18 : powD (.int 10) (.int 18) = some (.d (.int 1000000000000000000)) := by rfl
theorem nb1_ok {s : SV} {many : Int} {acc : List Int} {c : Int} {j : Int} (h : acc.length < 1000000) : ∃ acc' c', iter1 (tName 5) b1__law_numbers (.int j) [some s, OI many, some (IL acc), none, OI c, none, none] = .ok (.nx [some s, OI many, some (IL acc'), none, OI c', none, none]) ∧ acc'.length ≤ acc.length + 1 ∧ (Nums acc → Nums acc') := by
  have hl : acc.length < lim := by simp only [lim]; omega
  by_cases h1 : 0 < c
  · by_cases h2 : (acc.length : Int) < many
    · refine ⟨acc ++ [c % 1000], c / 1000, ?_, by simp, fun h => h.snoc _⟩
      simp [b1__law_numbers, v_var, v_var_d, v_var_o, v_c, v_bind, v_of, v_fin, v_vd, v_vo, v_vs, v_vs_d, v_vs_o, v_wl, v_wm, v_view1, v_view2, v_kv1, v_kv2, v_bin, v_bin1, v_bin2, v_ix, v_un, v_un1, v_test, v_test1, v_tru, v_tru1, v_tru2, v_obind, v_notT, v_notT1, v_andT, v_andT1, v_andT2, v_orT, v_orT1, v_orT2, v_not, v_not1, v_and, v_and1, v_and2, v_or, v_or1, v_or2, v_if, v_if1, v_if2, v_ch, v_ch1, v_ch2, v_ch3, v_ch4, v_ch5, v_D, v_frz_d, v_frz_o, v_frz_s, v_frz_s1, v_frz_s2, v_toD_l, v_nil, v_cons, v_cons1, v_cons2, v_tup, v_tup0, v_tup1, v_tup2, v_tup3, v_lst, v_lst0, v_lst1, v_lst2, v_set, v_set_d, v_set_o, v_set_s, v_set_s1, v_set_s2, v_setS, v_drop, v_drop1, v_ret, v_ret1, v_retN, v_pass, v_seq, v_seq1, v_seq2, v_ifS, v_ifS1, v_ifS2, v_for, v_for1, v_range, v_range1, v_r1, v_r2, v_mut, v_mut_s, v_mut_s1, v_getB, v_getB1, v_kind, v_kind1, v_isL, v_mut2, v_mutE_l, v_mutR, v_append, o_add, o_sub, o_mul, o_mod, o_fdiv, o_lt, o_le, o_gt, o_ge, o_int, o_len_l, o_len_s, o_len_t, o_abs, o_neg, o_it_l, o_it_s, o_it_t, o_item, v_lstN, v_tupN, v_tryAs, v_tryA1, v_tryA2, v_tryB1, v_tryB2, v_allA, v_wpX1, v_wpX2, v_noX1, v_try, v_try1, v_try2, v_isE, v_isE1, v_frzE, v_frzE1, o_ltX_pl, o_min2X_pl, v_fn, v_fn1, o_isN5, v_call, v_call1, v_A, v_aNil, v_aVar, v_aVar1, v_aVar2, v_aD, v_aD1, v_items, v_items_l, v_items_dl, v_items_dt, v_items_ds, v_items_s, v_items_s1, v_items_s2, v_items_s3, v_lstRg, v_dic, v_forH, v_forH1, v_forH2, v_restF, v_put, v_put1, v_put2, v_put3, v_putE, v_putR, v_fs, v_fs1, v_fld, v_fz, v_fz1, v_fz2, v_fz3, v_toD_i, v_toD_m, v_toDd, v_toDo, v_toDwl, v_toDwr, v_yes, v_make, v_make1, v_meth, v_meth2, v_sl, v_sl1, v_sl2, v_sl3, v_none, v_some, v_some1, o_slice_l, o_list_l, o_list_t, o_tup_l, o_tup_t, o_min2, o_max2, o_eq_i, o_ne_i, o_bl_eq, o_bl_ne, o_tru, o_isB, o_notB, o_add_l, o_in_il, o_nin_il, o_in_it, o_in_pl, o_in_pt, o_nin_pt, o_eq_il, o_ne_il, o_eq_pt, o_eq_pl, o_ne_p, o_eq_p, o_sort_pl, o_sort_pm, o_sort_il, v_wipe0, v_wipe1, v_wp, v_wpB, v_wp1, v_wp2, v_wp3, v_wp4, v_wp5, v_nd0, v_nd1, v_nd2, v_ap, v_ap1, v_ap2, v_ap3, v_ap4, v_slots0, v_slots1, v_slots2, v_args0, v_args1, v_args2, v_args3, v_args4, v_upd0, v_upd1, v_upd2, v_mk, v_mk1, v_mk2, v_mk3, v_run, v_end1, v_end2, v_end3, v_end4, v_end6, v_end7, v_end5, v_outs0, v_outs1, v_outs2, v_outs3, v_outs4, v_raise, v_bindx, v_seq3, v_seq4, v_seq5, v_nx1, v_nx2, v_nx3, v_nx4, v_nx5, v_iter, v_iter1, v_tname, v_ts0, v_ts1, v_ts2, v_ttup, v_for0, o_i_ii, o_i_ib, o_i_in, o_i_it, o_i_is, o_i_il, o_i_bi, o_i_bb, o_i_tt, o_i_ti, o_i_tl, o_i_tn, o_i_ts, o_i_tb, o_i_si, o_i_ss, o_i_st, o_i_tp, o_isN1, o_isN2, o_isN3, o_isN4, o_nin1, o_nin2, o_nin3, o_nin4, o_len_p, o_it_p0, o_it_p1, v_at0, v_at1, v_ttp, v_tup0i, v_enum, v_enum1, v_wipeE0, v_aug, v_aug1, v_aug2, h1, h2, hl]
    · refine ⟨acc, c, ?_, by omega, id⟩
      simp [b1__law_numbers, v_var, v_var_d, v_var_o, v_c, v_bind, v_of, v_fin, v_vd, v_vo, v_vs, v_vs_d, v_vs_o, v_wl, v_wm, v_view1, v_view2, v_kv1, v_kv2, v_bin, v_bin1, v_bin2, v_ix, v_un, v_un1, v_test, v_test1, v_tru, v_tru1, v_tru2, v_obind, v_notT, v_notT1, v_andT, v_andT1, v_andT2, v_orT, v_orT1, v_orT2, v_not, v_not1, v_and, v_and1, v_and2, v_or, v_or1, v_or2, v_if, v_if1, v_if2, v_ch, v_ch1, v_ch2, v_ch3, v_ch4, v_ch5, v_D, v_frz_d, v_frz_o, v_frz_s, v_frz_s1, v_frz_s2, v_toD_l, v_nil, v_cons, v_cons1, v_cons2, v_tup, v_tup0, v_tup1, v_tup2, v_tup3, v_lst, v_lst0, v_lst1, v_lst2, v_set, v_set_d, v_set_o, v_set_s, v_set_s1, v_set_s2, v_setS, v_drop, v_drop1, v_ret, v_ret1, v_retN, v_pass, v_seq, v_seq1, v_seq2, v_ifS, v_ifS1, v_ifS2, v_for, v_for1, v_range, v_range1, v_r1, v_r2, v_mut, v_mut_s, v_mut_s1, v_getB, v_getB1, v_kind, v_kind1, v_isL, v_mut2, v_mutE_l, v_mutR, v_append, o_add, o_sub, o_mul, o_mod, o_fdiv, o_lt, o_le, o_gt, o_ge, o_int, o_len_l, o_len_s, o_len_t, o_abs, o_neg, o_it_l, o_it_s, o_it_t, o_item, v_lstN, v_tupN, v_tryAs, v_tryA1, v_tryA2, v_tryB1, v_tryB2, v_allA, v_wpX1, v_wpX2, v_noX1, v_try, v_try1, v_try2, v_isE, v_isE1, v_frzE, v_frzE1, o_ltX_pl, o_min2X_pl, v_fn, v_fn1, o_isN5, v_call, v_call1, v_A, v_aNil, v_aVar, v_aVar1, v_aVar2, v_aD, v_aD1, v_items, v_items_l, v_items_dl, v_items_dt, v_items_ds, v_items_s, v_items_s1, v_items_s2, v_items_s3, v_lstRg, v_dic, v_forH, v_forH1, v_forH2, v_restF, v_put, v_put1, v_put2, v_put3, v_putE, v_putR, v_fs, v_fs1, v_fld, v_fz, v_fz1, v_fz2, v_fz3, v_toD_i, v_toD_m, v_toDd, v_toDo, v_toDwl, v_toDwr, v_yes, v_make, v_make1, v_meth, v_meth2, v_sl, v_sl1, v_sl2, v_sl3, v_none, v_some, v_some1, o_slice_l, o_list_l, o_list_t, o_tup_l, o_tup_t, o_min2, o_max2, o_eq_i, o_ne_i, o_bl_eq, o_bl_ne, o_tru, o_isB, o_notB, o_add_l, o_in_il, o_nin_il, o_in_it, o_in_pl, o_in_pt, o_nin_pt, o_eq_il, o_ne_il, o_eq_pt, o_eq_pl, o_ne_p, o_eq_p, o_sort_pl, o_sort_pm, o_sort_il, v_wipe0, v_wipe1, v_wp, v_wpB, v_wp1, v_wp2, v_wp3, v_wp4, v_wp5, v_nd0, v_nd1, v_nd2, v_ap, v_ap1, v_ap2, v_ap3, v_ap4, v_slots0, v_slots1, v_slots2, v_args0, v_args1, v_args2, v_args3, v_args4, v_upd0, v_upd1, v_upd2, v_mk, v_mk1, v_mk2, v_mk3, v_run, v_end1, v_end2, v_end3, v_end4, v_end6, v_end7, v_end5, v_outs0, v_outs1, v_outs2, v_outs3, v_outs4, v_raise, v_bindx, v_seq3, v_seq4, v_seq5, v_nx1, v_nx2, v_nx3, v_nx4, v_nx5, v_iter, v_iter1, v_tname, v_ts0, v_ts1, v_ts2, v_ttup, v_for0, o_i_ii, o_i_ib, o_i_in, o_i_it, o_i_is, o_i_il, o_i_bi, o_i_bb, o_i_tt, o_i_ti, o_i_tl, o_i_tn, o_i_ts, o_i_tb, o_i_si, o_i_ss, o_i_st, o_i_tp, o_isN1, o_isN2, o_isN3, o_isN4, o_nin1, o_nin2, o_nin3, o_nin4, o_len_p, o_it_p0, o_it_p1, v_at0, v_at1, v_ttp, v_tup0i, v_enum, v_enum1, v_wipeE0, v_aug, v_aug1, v_aug2, h1, h2, hl]
  · refine ⟨acc, c, ?_, by omega, id⟩
    simp [b1__law_numbers, v_var, v_var_d, v_var_o, v_c, v_bind, v_of, v_fin, v_vd, v_vo, v_vs, v_vs_d, v_vs_o, v_wl, v_wm, v_view1, v_view2, v_kv1, v_kv2, v_bin, v_bin1, v_bin2, v_ix, v_un, v_un1, v_test, v_test1, v_tru, v_tru1, v_tru2, v_obind, v_notT, v_notT1, v_andT, v_andT1, v_andT2, v_orT, v_orT1, v_orT2, v_not, v_not1, v_and, v_and1, v_and2, v_or, v_or1, v_or2, v_if, v_if1, v_if2, v_ch, v_ch1, v_ch2, v_ch3, v_ch4, v_ch5, v_D, v_frz_d, v_frz_o, v_frz_s, v_frz_s1, v_frz_s2, v_toD_l, v_nil, v_cons, v_cons1, v_cons2, v_tup, v_tup0, v_tup1, v_tup2, v_tup3, v_lst, v_lst0, v_lst1, v_lst2, v_set, v_set_d, v_set_o, v_set_s, v_set_s1, v_set_s2, v_setS, v_drop, v_drop1, v_ret, v_ret1, v_retN, v_pass, v_seq, v_seq1, v_seq2, v_ifS, v_ifS1, v_ifS2, v_for, v_for1, v_range, v_range1, v_r1, v_r2, v_mut, v_mut_s, v_mut_s1, v_getB, v_getB1, v_kind, v_kind1, v_isL, v_mut2, v_mutE_l, v_mutR, v_append, o_add, o_sub, o_mul, o_mod, o_fdiv, o_lt, o_le, o_gt, o_ge, o_int, o_len_l, o_len_s, o_len_t, o_abs, o_neg, o_it_l, o_it_s, o_it_t, o_item, v_lstN, v_tupN, v_tryAs, v_tryA1, v_tryA2, v_tryB1, v_tryB2, v_allA, v_wpX1, v_wpX2, v_noX1, v_try, v_try1, v_try2, v_isE, v_isE1, v_frzE, v_frzE1, o_ltX_pl, o_min2X_pl, v_fn, v_fn1, o_isN5, v_call, v_call1, v_A, v_aNil, v_aVar, v_aVar1, v_aVar2, v_aD, v_aD1, v_items, v_items_l, v_items_dl, v_items_dt, v_items_ds, v_items_s, v_items_s1, v_items_s2, v_items_s3, v_lstRg, v_dic, v_forH, v_forH1, v_forH2, v_restF, v_put, v_put1, v_put2, v_put3, v_putE, v_putR, v_fs, v_fs1, v_fld, v_fz, v_fz1, v_fz2, v_fz3, v_toD_i, v_toD_m, v_toDd, v_toDo, v_toDwl, v_toDwr, v_yes, v_make, v_make1, v_meth, v_meth2, v_sl, v_sl1, v_sl2, v_sl3, v_none, v_some, v_some1, o_slice_l, o_list_l, o_list_t, o_tup_l, o_tup_t, o_min2, o_max2, o_eq_i, o_ne_i, o_bl_eq, o_bl_ne, o_tru, o_isB, o_notB, o_add_l, o_in_il, o_nin_il, o_in_it, o_in_pl, o_in_pt, o_nin_pt, o_eq_il, o_ne_il, o_eq_pt, o_eq_pl, o_ne_p, o_eq_p, o_sort_pl, o_sort_pm, o_sort_il, v_wipe0, v_wipe1, v_wp, v_wpB, v_wp1, v_wp2, v_wp3, v_wp4, v_wp5, v_nd0, v_nd1, v_nd2, v_ap, v_ap1, v_ap2, v_ap3, v_ap4, v_slots0, v_slots1, v_slots2, v_args0, v_args1, v_args2, v_args3, v_args4, v_upd0, v_upd1, v_upd2, v_mk, v_mk1, v_mk2, v_mk3, v_run, v_end1, v_end2, v_end3, v_end4, v_end6, v_end7, v_end5, v_outs0, v_outs1, v_outs2, v_outs3, v_outs4, v_raise, v_bindx, v_seq3, v_seq4, v_seq5, v_nx1, v_nx2, v_nx3, v_nx4, v_nx5, v_iter, v_iter1, v_tname, v_ts0, v_ts1, v_ts2, v_ttup, v_for0, o_i_ii, o_i_ib, o_i_in, o_i_it, o_i_is, o_i_il, o_i_bi, o_i_bb, o_i_tt, o_i_ti, o_i_tl, o_i_tn, o_i_ts, o_i_tb, o_i_si, o_i_ss, o_i_st, o_i_tp, o_isN1, o_isN2, o_isN3, o_isN4, o_nin1, o_nin2, o_nin3, o_nin4, o_len_p, o_it_p0, o_it_p1, v_at0, v_at1, v_ttp, v_tup0i, v_enum, v_enum1, v_wipeE0, v_aug, v_aug1, v_aug2, h1, hl]
theorem nb2_ok {s : SV} {many : Int} {acc : List Int} {k c j : Int} (h : acc.length < 1000000) : ∃ acc', iter1 (tName 5) b2__law_numbers (.int j) [some s, OI many, some (IL acc), OI k, OI c, none, none] = .ok (.nx [some s, OI many, some (IL acc'), OI k, OI c, none, none]) ∧ acc'.length ≤ acc.length + 1 ∧ (Nums acc → Nums acc') := by
  have hl : acc.length < lim := by simp only [lim]; omega
  generalize hm : (c * 48271 + k * 69621 + j * 16807 + 11) % 2147483647 = m
  have m1 : -18446744073709551616 < m := by omega
  have m2 : m < 18446744073709551616 := by omega
  refine ⟨acc ++ [(m * m + j) % 2147483629 / 7 % 1000], ?_, by simp, fun h => h.snoc _⟩
  simp [b2__law_numbers, v_var, v_var_d, v_var_o, v_c, v_bind, v_of, v_fin, v_vd, v_vo, v_vs, v_vs_d, v_vs_o, v_wl, v_wm, v_view1, v_view2, v_kv1, v_kv2, v_bin, v_bin1, v_bin2, v_ix, v_un, v_un1, v_test, v_test1, v_tru, v_tru1, v_tru2, v_obind, v_notT, v_notT1, v_andT, v_andT1, v_andT2, v_orT, v_orT1, v_orT2, v_not, v_not1, v_and, v_and1, v_and2, v_or, v_or1, v_or2, v_if, v_if1, v_if2, v_ch, v_ch1, v_ch2, v_ch3, v_ch4, v_ch5, v_D, v_frz_d, v_frz_o, v_frz_s, v_frz_s1, v_frz_s2, v_toD_l, v_nil, v_cons, v_cons1, v_cons2, v_tup, v_tup0, v_tup1, v_tup2, v_tup3, v_lst, v_lst0, v_lst1, v_lst2, v_set, v_set_d, v_set_o, v_set_s, v_set_s1, v_set_s2, v_setS, v_drop, v_drop1, v_ret, v_ret1, v_retN, v_pass, v_seq, v_seq1, v_seq2, v_ifS, v_ifS1, v_ifS2, v_for, v_for1, v_range, v_range1, v_r1, v_r2, v_mut, v_mut_s, v_mut_s1, v_getB, v_getB1, v_kind, v_kind1, v_isL, v_mut2, v_mutE_l, v_mutR, v_append, o_add, o_sub, o_mul, o_mod, o_fdiv, o_lt, o_le, o_gt, o_ge, o_int, o_len_l, o_len_s, o_len_t, o_abs, o_neg, o_it_l, o_it_s, o_it_t, o_item, v_lstN, v_tupN, v_tryAs, v_tryA1, v_tryA2, v_tryB1, v_tryB2, v_allA, v_wpX1, v_wpX2, v_noX1, v_try, v_try1, v_try2, v_isE, v_isE1, v_frzE, v_frzE1, o_ltX_pl, o_min2X_pl, v_fn, v_fn1, o_isN5, v_call, v_call1, v_A, v_aNil, v_aVar, v_aVar1, v_aVar2, v_aD, v_aD1, v_items, v_items_l, v_items_dl, v_items_dt, v_items_ds, v_items_s, v_items_s1, v_items_s2, v_items_s3, v_lstRg, v_dic, v_forH, v_forH1, v_forH2, v_restF, v_put, v_put1, v_put2, v_put3, v_putE, v_putR, v_fs, v_fs1, v_fld, v_fz, v_fz1, v_fz2, v_fz3, v_toD_i, v_toD_m, v_toDd, v_toDo, v_toDwl, v_toDwr, v_yes, v_make, v_make1, v_meth, v_meth2, v_sl, v_sl1, v_sl2, v_sl3, v_none, v_some, v_some1, o_slice_l, o_list_l, o_list_t, o_tup_l, o_tup_t, o_min2, o_max2, o_eq_i, o_ne_i, o_bl_eq, o_bl_ne, o_tru, o_isB, o_notB, o_add_l, o_in_il, o_nin_il, o_in_it, o_in_pl, o_in_pt, o_nin_pt, o_eq_il, o_ne_il, o_eq_pt, o_eq_pl, o_ne_p, o_eq_p, o_sort_pl, o_sort_pm, o_sort_il, v_wipe0, v_wipe1, v_wp, v_wpB, v_wp1, v_wp2, v_wp3, v_wp4, v_wp5, v_nd0, v_nd1, v_nd2, v_ap, v_ap1, v_ap2, v_ap3, v_ap4, v_slots0, v_slots1, v_slots2, v_args0, v_args1, v_args2, v_args3, v_args4, v_upd0, v_upd1, v_upd2, v_mk, v_mk1, v_mk2, v_mk3, v_run, v_end1, v_end2, v_end3, v_end4, v_end6, v_end7, v_end5, v_outs0, v_outs1, v_outs2, v_outs3, v_outs4, v_raise, v_bindx, v_seq3, v_seq4, v_seq5, v_nx1, v_nx2, v_nx3, v_nx4, v_nx5, v_iter, v_iter1, v_tname, v_ts0, v_ts1, v_ts2, v_ttup, v_for0, o_i_ii, o_i_ib, o_i_in, o_i_it, o_i_is, o_i_il, o_i_bi, o_i_bb, o_i_tt, o_i_ti, o_i_tl, o_i_tn, o_i_ts, o_i_tb, o_i_si, o_i_ss, o_i_st, o_i_tp, o_isN1, o_isN2, o_isN3, o_isN4, o_nin1, o_nin2, o_nin3, o_nin4, o_len_p, o_it_p0, o_it_p1, v_at0, v_at1, v_ttp, v_tup0i, v_enum, v_enum1, v_wipeE0, v_aug, v_aug1, v_aug2, hl, hm, m1, m2]
theorem nbo_ok {ns : List Int} {many : Int} {acc : List Int} {k : Nat} (hk : k < ns.length) (h : acc.length + 60 < 1000000) :
    ∃ acc', iter1 (tName 3) b3__law_numbers (.int (0 + (k : Int))) [some (.d (.scr (ns.map .int))), OI many, some (IL acc), none, none, none, none] = .ok (.nx [some (.d (.scr (ns.map .int))), OI many, some (IL acc'), none, none, none, none]) ∧ acc'.length ≤ acc.length + 60 ∧ (Nums acc → Nums acc') := by
  have e0 : L2.atI (ns.map D.int) (k : Int) = some (.int ns[k]) := atI_nat (by simp [hk])
  have r60 : rItems1 [.int 60] = some (rangeD 0 60) := v_r1 (n := 60) (by decide) (by decide)
  have r5 : rItems1 [.int 5] = some (rangeD 0 5) := v_r1 (n := 5) (by decide) (by decide)
  generalize hc : (if ns[k] < 0 then -ns[k] else ns[k]) = c
  by_cases h1 : (1000000000000000000 : Int) ≤ c
  · obtain ⟨⟨acc', c'⟩, e, hl⟩ := forF_rngs (g := tName 5) (f := b1__law_numbers) (lo := 0) (n := 60) (st := fun z : List Int × Int => [some (.d (.scr (ns.map .int))), OI many, some (IL z.1), none, OI z.2, none, none]) (fun i z => z.1.length ≤ acc.length + i ∧ (Nums acc → Nums z.1)) (s := (acc, c)) (fun i z hi hz => by
      obtain ⟨a, b, e, l, q⟩ := nb1_ok (s := .d (.scr (ns.map .int))) (many := many) (acc := z.1) (c := z.2) (j := 0 + (i : Int)) (by omega)
      exact ⟨(a, b), e, by dsimp only at *; omega, fun h => q (hz.2 h)⟩) ⟨by simp, id⟩
    refine ⟨acc', ?_, hl⟩
    simp only [b3__law_numbers, v_var, v_var_d, v_var_o, v_c, v_bind, v_of, v_fin, v_vd, v_vo, v_vs, v_vs_d, v_vs_o, v_wl, v_wm, v_view1, v_view2, v_kv1, v_kv2, v_bin, v_bin1, v_bin2, v_ix, v_un, v_un1, v_test, v_test1, v_tru, v_tru1, v_tru2, v_obind, v_notT, v_notT1, v_andT, v_andT1, v_andT2, v_orT, v_orT1, v_orT2, v_not, v_not1, v_and, v_and1, v_and2, v_or, v_or1, v_or2, v_if, v_if1, v_if2, v_ch, v_ch1, v_ch2, v_ch3, v_ch4, v_ch5, v_D, v_frz_d, v_frz_o, v_frz_s, v_frz_s1, v_frz_s2, v_toD_l, v_nil, v_cons, v_cons1, v_cons2, v_tup, v_tup0, v_tup1, v_tup2, v_tup3, v_lst, v_lst0, v_lst1, v_lst2, v_set, v_set_d, v_set_o, v_set_s, v_set_s1, v_set_s2, v_setS, v_drop, v_drop1, v_ret, v_ret1, v_retN, v_pass, v_seq, v_seq1, v_seq2, v_ifS, v_ifS1, v_ifS2, v_for, v_for1, v_range, v_range1, v_r1, v_r2, v_mut, v_mut_s, v_mut_s1, v_getB, v_getB1, v_kind, v_kind1, v_isL, v_mut2, v_mutE_l, v_mutR, v_append, o_add, o_sub, o_mul, o_mod, o_fdiv, o_lt, o_le, o_gt, o_ge, o_int, o_len_l, o_len_s, o_len_t, o_abs, o_neg, o_it_l, o_it_s, o_it_t, o_item, v_lstN, v_tupN, v_tryAs, v_tryA1, v_tryA2, v_tryB1, v_tryB2, v_allA, v_wpX1, v_wpX2, v_noX1, v_try, v_try1, v_try2, v_isE, v_isE1, v_frzE, v_frzE1, o_ltX_pl, o_min2X_pl, v_fn, v_fn1, o_isN5, v_call, v_call1, v_A, v_aNil, v_aVar, v_aVar1, v_aVar2, v_aD, v_aD1, v_items, v_items_l, v_items_dl, v_items_dt, v_items_ds, v_items_s, v_items_s1, v_items_s2, v_items_s3, v_lstRg, v_dic, v_forH, v_forH1, v_forH2, v_restF, v_put, v_put1, v_put2, v_put3, v_putE, v_putR, v_fs, v_fs1, v_fld, v_fz, v_fz1, v_fz2, v_fz3, v_toD_i, v_toD_m, v_toDd, v_toDo, v_toDwl, v_toDwr, v_yes, v_make, v_make1, v_meth, v_meth2, v_sl, v_sl1, v_sl2, v_sl3, v_none, v_some, v_some1, o_slice_l, o_list_l, o_list_t, o_tup_l, o_tup_t, o_min2, o_max2, o_eq_i, o_ne_i, o_bl_eq, o_bl_ne, o_tru, o_isB, o_notB, o_add_l, o_in_il, o_nin_il, o_in_it, o_in_pl, o_in_pt, o_nin_pt, o_eq_il, o_ne_il, o_eq_pt, o_eq_pl, o_ne_p, o_eq_p, o_sort_pl, o_sort_pm, o_sort_il, v_wipe0, v_wipe1, v_wp, v_wpB, v_wp1, v_wp2, v_wp3, v_wp4, v_wp5, v_nd0, v_nd1, v_nd2, v_ap, v_ap1, v_ap2, v_ap3, v_ap4, v_slots0, v_slots1, v_slots2, v_args0, v_args1, v_args2, v_args3, v_args4, v_upd0, v_upd1, v_upd2, v_mk, v_mk1, v_mk2, v_mk3, v_run, v_end1, v_end2, v_end3, v_end4, v_end6, v_end7, v_end5, v_outs0, v_outs1, v_outs2, v_outs3, v_outs4, v_raise, v_bindx, v_seq3, v_seq4, v_seq5, v_nx1, v_nx2, v_nx3, v_nx4, v_nx5, v_iter, v_iter1, v_tname, v_ts0, v_ts1, v_ts2, v_ttup, v_for0, o_i_ii, o_i_ib, o_i_in, o_i_it, o_i_is, o_i_il, o_i_bi, o_i_bb, o_i_tt, o_i_ti, o_i_tl, o_i_tn, o_i_ts, o_i_tb, o_i_si, o_i_ss, o_i_st, o_i_tp, o_isN1, o_isN2, o_isN3, o_isN4, o_nin1, o_nin2, o_nin3, o_nin4, o_len_p, o_it_p0, o_it_p1, v_at0, v_at1, v_ttp, v_tup0i, v_enum, v_enum1, v_wipeE0, v_aug, v_aug1, v_aug2, List.getElem?_cons_succ, List.getElem?_cons_zero, List.set_cons_succ, List.set_cons_zero, List.length_cons, List.length_nil, Nat.reduceAdd, Nat.reduceLT, List.length_map, decide_true, decide_false, List.map_cons, List.map_nil, List.cons_append, List.nil_append, List.reduceReplicate, Nat.reduceSub, Nat.reduceLeDiff, Nat.reduceBEq, List.contains_cons, List.contains_nil, Bool.or_false, Bool.false_or, Bool.or_true, Bool.true_or, Bool.not_true, Bool.not_false, List.length_set, Nat.zero_add, List.getElem?_nil, e0, hc, pow18, h1, v_range1 r60, e, Int.zero_add]
  · obtain ⟨acc', e, hl⟩ := forF_rngs (g := tName 5) (f := b2__law_numbers) (lo := 0) (n := 5) (st := fun z : List Int => [some (.d (.scr (ns.map .int))), OI many, some (IL z), OI k, OI c, none, none]) (fun i z => z.length ≤ acc.length + i ∧ (Nums acc → Nums z)) (s := acc) (fun i z hi hz => by
      obtain ⟨a, e, l, q⟩ := nb2_ok (s := .d (.scr (ns.map .int))) (many := many) (acc := z) (k := k) (c := c) (j := 0 + (i : Int)) (by omega)
      exact ⟨a, e, by omega, fun h => q (hz.2 h)⟩) ⟨by simp, id⟩
    refine ⟨acc', ?_, by omega, hl.2⟩
    simp only [b3__law_numbers, v_var, v_var_d, v_var_o, v_c, v_bind, v_of, v_fin, v_vd, v_vo, v_vs, v_vs_d, v_vs_o, v_wl, v_wm, v_view1, v_view2, v_kv1, v_kv2, v_bin, v_bin1, v_bin2, v_ix, v_un, v_un1, v_test, v_test1, v_tru, v_tru1, v_tru2, v_obind, v_notT, v_notT1, v_andT, v_andT1, v_andT2, v_orT, v_orT1, v_orT2, v_not, v_not1, v_and, v_and1, v_and2, v_or, v_or1, v_or2, v_if, v_if1, v_if2, v_ch, v_ch1, v_ch2, v_ch3, v_ch4, v_ch5, v_D, v_frz_d, v_frz_o, v_frz_s, v_frz_s1, v_frz_s2, v_toD_l, v_nil, v_cons, v_cons1, v_cons2, v_tup, v_tup0, v_tup1, v_tup2, v_tup3, v_lst, v_lst0, v_lst1, v_lst2, v_set, v_set_d, v_set_o, v_set_s, v_set_s1, v_set_s2, v_setS, v_drop, v_drop1, v_ret, v_ret1, v_retN, v_pass, v_seq, v_seq1, v_seq2, v_ifS, v_ifS1, v_ifS2, v_for, v_for1, v_range, v_range1, v_r1, v_r2, v_mut, v_mut_s, v_mut_s1, v_getB, v_getB1, v_kind, v_kind1, v_isL, v_mut2, v_mutE_l, v_mutR, v_append, o_add, o_sub, o_mul, o_mod, o_fdiv, o_lt, o_le, o_gt, o_ge, o_int, o_len_l, o_len_s, o_len_t, o_abs, o_neg, o_it_l, o_it_s, o_it_t, o_item, v_lstN, v_tupN, v_tryAs, v_tryA1, v_tryA2, v_tryB1, v_tryB2, v_allA, v_wpX1, v_wpX2, v_noX1, v_try, v_try1, v_try2, v_isE, v_isE1, v_frzE, v_frzE1, o_ltX_pl, o_min2X_pl, v_fn, v_fn1, o_isN5, v_call, v_call1, v_A, v_aNil, v_aVar, v_aVar1, v_aVar2, v_aD, v_aD1, v_items, v_items_l, v_items_dl, v_items_dt, v_items_ds, v_items_s, v_items_s1, v_items_s2, v_items_s3, v_lstRg, v_dic, v_forH, v_forH1, v_forH2, v_restF, v_put, v_put1, v_put2, v_put3, v_putE, v_putR, v_fs, v_fs1, v_fld, v_fz, v_fz1, v_fz2, v_fz3, v_toD_i, v_toD_m, v_toDd, v_toDo, v_toDwl, v_toDwr, v_yes, v_make, v_make1, v_meth, v_meth2, v_sl, v_sl1, v_sl2, v_sl3, v_none, v_some, v_some1, o_slice_l, o_list_l, o_list_t, o_tup_l, o_tup_t, o_min2, o_max2, o_eq_i, o_ne_i, o_bl_eq, o_bl_ne, o_tru, o_isB, o_notB, o_add_l, o_in_il, o_nin_il, o_in_it, o_in_pl, o_in_pt, o_nin_pt, o_eq_il, o_ne_il, o_eq_pt, o_eq_pl, o_ne_p, o_eq_p, o_sort_pl, o_sort_pm, o_sort_il, v_wipe0, v_wipe1, v_wp, v_wpB, v_wp1, v_wp2, v_wp3, v_wp4, v_wp5, v_nd0, v_nd1, v_nd2, v_ap, v_ap1, v_ap2, v_ap3, v_ap4, v_slots0, v_slots1, v_slots2, v_args0, v_args1, v_args2, v_args3, v_args4, v_upd0, v_upd1, v_upd2, v_mk, v_mk1, v_mk2, v_mk3, v_run, v_end1, v_end2, v_end3, v_end4, v_end6, v_end7, v_end5, v_outs0, v_outs1, v_outs2, v_outs3, v_outs4, v_raise, v_bindx, v_seq3, v_seq4, v_seq5, v_nx1, v_nx2, v_nx3, v_nx4, v_nx5, v_iter, v_iter1, v_tname, v_ts0, v_ts1, v_ts2, v_ttup, v_for0, o_i_ii, o_i_ib, o_i_in, o_i_it, o_i_is, o_i_il, o_i_bi, o_i_bb, o_i_tt, o_i_ti, o_i_tl, o_i_tn, o_i_ts, o_i_tb, o_i_si, o_i_ss, o_i_st, o_i_tp, o_isN1, o_isN2, o_isN3, o_isN4, o_nin1, o_nin2, o_nin3, o_nin4, o_len_p, o_it_p0, o_it_p1, v_at0, v_at1, v_ttp, v_tup0i, v_enum, v_enum1, v_wipeE0, v_aug, v_aug1, v_aug2, List.getElem?_cons_succ, List.getElem?_cons_zero, List.set_cons_succ, List.set_cons_zero, List.length_cons, List.length_nil, Nat.reduceAdd, Nat.reduceLT, List.length_map, decide_true, decide_false, List.map_cons, List.map_nil, List.cons_append, List.nil_append, List.reduceReplicate, Nat.reduceSub, Nat.reduceLeDiff, Nat.reduceBEq, List.contains_cons, List.contains_nil, Bool.or_false, Bool.false_or, Bool.or_true, Bool.true_or, Bool.not_true, Bool.not_false, List.length_set, Nat.zero_add, List.getElem?_nil, e0, hc, pow18, h1, v_range1 r5, e, Int.zero_add]
theorem numbers_spec (ns : List Int) (h63 : ns.length ≤ 63) (many : Int) : ∃ xs : List Int, Nums xs ∧ fn__law_numbers [.d (.scr (ns.map .int)), .d (.int many)] = .ok (.o (.b (.l (xs.map .int))), [some (.d (.scr (ns.map .int))), OI many]) := by
  obtain ⟨acc, e, hl⟩ := forF_rngs (g := tName 3) (f := b3__law_numbers) (lo := 0) (n := ns.length) (st := fun z : List Int => [some (.d (.scr (ns.map .int))), OI many, some (IL z), none, none, none, none]) (fun i z => z.length ≤ 60 * i ∧ Nums z) (s := []) (fun i z hi hz => by
      obtain ⟨a, e, l, q⟩ := nbo_ok (ns := ns) (many := many) (acc := z) (k := i) hi (by omega)
      exact ⟨a, e, by omega, q hz.2⟩) ⟨by simp, fun x hx => by cases hx⟩
  refine ⟨(acc.drop (HT.sIx acc.length 0 none)).take (HT.sIx acc.length acc.length (some many) - HT.sIx acc.length 0 none), fun x hx => hl.2 x (List.mem_of_mem_drop (List.mem_of_mem_take hx)), ?_⟩
  have r0 : rItems1 [.int (ns.length : Int)] = some (rangeD 0 ns.length) := by
    have := v_r1 (n := (ns.length : Int)) (by omega) (by omega)
    simpa using this
  have e5 : cutD (acc.map .int) none (some many) = ((acc.drop (HT.sIx acc.length 0 none)).take (HT.sIx acc.length acc.length (some many) - HT.sIx acc.length 0 none)).map D.int := by
    unfold cutD
    rw [List.length_map, ← List.map_drop, ← List.map_take]
  simp only [IL, List.map_nil] at e
  simp only [fn__law_numbers, code__law_numbers, v_var, v_var_d, v_var_o, v_c, v_bind, v_of, v_fin, v_vd, v_vo, v_vs, v_vs_d, v_vs_o, v_wl, v_wm, v_view1, v_view2, v_kv1, v_kv2, v_bin, v_bin1, v_bin2, v_ix, v_un, v_un1, v_test, v_test1, v_tru, v_tru1, v_tru2, v_obind, v_notT, v_notT1, v_andT, v_andT1, v_andT2, v_orT, v_orT1, v_orT2, v_not, v_not1, v_and, v_and1, v_and2, v_or, v_or1, v_or2, v_if, v_if1, v_if2, v_ch, v_ch1, v_ch2, v_ch3, v_ch4, v_ch5, v_D, v_frz_d, v_frz_o, v_frz_s, v_frz_s1, v_frz_s2, v_toD_l, v_nil, v_cons, v_cons1, v_cons2, v_tup, v_tup0, v_tup1, v_tup2, v_tup3, v_lst, v_lst0, v_lst1, v_lst2, v_set, v_set_d, v_set_o, v_set_s, v_set_s1, v_set_s2, v_setS, v_drop, v_drop1, v_ret, v_ret1, v_retN, v_pass, v_seq, v_seq1, v_seq2, v_ifS, v_ifS1, v_ifS2, v_for, v_for1, v_range, v_range1, v_r1, v_r2, v_mut, v_mut_s, v_mut_s1, v_getB, v_getB1, v_kind, v_kind1, v_isL, v_mut2, v_mutE_l, v_mutR, v_append, o_add, o_sub, o_mul, o_mod, o_fdiv, o_lt, o_le, o_gt, o_ge, o_int, o_len_l, o_len_s, o_len_t, o_abs, o_neg, o_it_l, o_it_s, o_it_t, o_item, v_lstN, v_tupN, v_tryAs, v_tryA1, v_tryA2, v_tryB1, v_tryB2, v_allA, v_wpX1, v_wpX2, v_noX1, v_try, v_try1, v_try2, v_isE, v_isE1, v_frzE, v_frzE1, o_ltX_pl, o_min2X_pl, v_fn, v_fn1, o_isN5, v_call, v_call1, v_A, v_aNil, v_aVar, v_aVar1, v_aVar2, v_aD, v_aD1, v_items, v_items_l, v_items_dl, v_items_dt, v_items_ds, v_items_s, v_items_s1, v_items_s2, v_items_s3, v_lstRg, v_dic, v_forH, v_forH1, v_forH2, v_restF, v_put, v_put1, v_put2, v_put3, v_putE, v_putR, v_fs, v_fs1, v_fld, v_fz, v_fz1, v_fz2, v_fz3, v_toD_i, v_toD_m, v_toDd, v_toDo, v_toDwl, v_toDwr, v_yes, v_make, v_make1, v_meth, v_meth2, v_sl, v_sl1, v_sl2, v_sl3, v_none, v_some, v_some1, o_slice_l, o_list_l, o_list_t, o_tup_l, o_tup_t, o_min2, o_max2, o_eq_i, o_ne_i, o_bl_eq, o_bl_ne, o_tru, o_isB, o_notB, o_add_l, o_in_il, o_nin_il, o_in_it, o_in_pl, o_in_pt, o_nin_pt, o_eq_il, o_ne_il, o_eq_pt, o_eq_pl, o_ne_p, o_eq_p, o_sort_pl, o_sort_pm, o_sort_il, v_wipe0, v_wipe1, v_wp, v_wpB, v_wp1, v_wp2, v_wp3, v_wp4, v_wp5, v_nd0, v_nd1, v_nd2, v_ap, v_ap1, v_ap2, v_ap3, v_ap4, v_slots0, v_slots1, v_slots2, v_args0, v_args1, v_args2, v_args3, v_args4, v_upd0, v_upd1, v_upd2, v_mk, v_mk1, v_mk2, v_mk3, v_run, v_end1, v_end2, v_end3, v_end4, v_end6, v_end7, v_end5, v_outs0, v_outs1, v_outs2, v_outs3, v_outs4, v_raise, v_bindx, v_seq3, v_seq4, v_seq5, v_nx1, v_nx2, v_nx3, v_nx4, v_nx5, v_iter, v_iter1, v_tname, v_ts0, v_ts1, v_ts2, v_ttup, v_for0, o_i_ii, o_i_ib, o_i_in, o_i_it, o_i_is, o_i_il, o_i_bi, o_i_bb, o_i_tt, o_i_ti, o_i_tl, o_i_tn, o_i_ts, o_i_tb, o_i_si, o_i_ss, o_i_st, o_i_tp, o_isN1, o_isN2, o_isN3, o_isN4, o_nin1, o_nin2, o_nin3, o_nin4, o_len_p, o_it_p0, o_it_p1, v_at0, v_at1, v_ttp, v_tup0i, v_enum, v_enum1, v_wipeE0, v_aug, v_aug1, v_aug2, List.getElem?_cons_succ, List.getElem?_cons_zero, List.set_cons_succ, List.set_cons_zero, List.length_cons, List.length_nil, Nat.reduceAdd, Nat.reduceLT, List.length_map, decide_true, decide_false, List.map_cons, List.map_nil, List.cons_append, List.nil_append, List.reduceReplicate, Nat.reduceSub, Nat.reduceLeDiff, Nat.reduceBEq, List.contains_cons, List.contains_nil, Bool.or_false, Bool.false_or, Bool.or_true, Bool.true_or, Bool.not_true, Bool.not_false, List.length_set, Nat.zero_add, List.getElem?_nil, v_range1 r0, e, e5]
end K03
namespace K03
open J
abbrev PLs (es : List (Int × Int)) : SV := .o (.b (.l (es.map pD)))
abbrev PDs (es : List (Int × Int)) : SV := .d (.lst (es.map pD))
/-- u's pairs -/
def prow (n u : Nat) : List (Int × Int) := (List.range (n - (u + 1))).map fun (i : Nat) => ((u : Int), (u : Int) + 1 + (i : Int))
def prs (n : Nat) : List (Int × Int) := (List.range n).flatMap (prow n)
theorem prs_succ {n i : Nat} : ((List.range (i + 1)).flatMap (prow n)) = (List.range i).flatMap (prow n) ++ prow n i := by
  rw [List.range_succ, List.flatMap_append]
  simp
theorem prow_len {n u : Nat} : (prow n u).length ≤ n := by simp [prow]
theorem flat_len {n : Nat} : ∀ i : Nat, ((List.range i).flatMap (prow n)).length ≤ i * n
  | 0 => by simp
  | i + 1 => by
    rw [prs_succ, List.length_append, Nat.succ_mul]
    have := flat_len (n := n) i
    have := prow_len (n := n) (u := i)
    omega
theorem prs_len {n : Nat} (hn : n ≤ 1000) : (prs n).length ≤ 1000000 := by
  have h1 := flat_len (n := n) n
  have h2 : n * n ≤ 1000 * 1000 := Nat.mul_le_mul hn hn
  show ((List.range n).flatMap (prow n)).length ≤ _
  omega
theorem pb1_ok {n u v : Int} {acc : List D} (h : acc.length < lim) : iter1 (tName 3) b1__law_pairs (.int v) [OI n, some (.o (.b (.l acc))), OI u, none] = .ok (.nx [OI n, some (.o (.b (.l (acc ++ [pD (u, v)])))), OI u, none]) := by
  simp only [b1__law_pairs, pD, v_var, v_var_d, v_var_o, v_c, v_bind, v_of, v_fin, v_vd, v_vo, v_vs, v_vs_d, v_vs_o, v_wl, v_wm, v_view1, v_view2, v_kv1, v_kv2, v_bin, v_bin1, v_bin2, v_ix, v_un, v_un1, v_test, v_test1, v_tru, v_tru1, v_tru2, v_obind, v_notT, v_notT1, v_andT, v_andT1, v_andT2, v_orT, v_orT1, v_orT2, v_not, v_not1, v_and, v_and1, v_and2, v_or, v_or1, v_or2, v_if, v_if1, v_if2, v_ch, v_ch1, v_ch2, v_ch3, v_ch4, v_ch5, v_D, v_frz_d, v_frz_o, v_frz_s, v_frz_s1, v_frz_s2, v_toD_l, v_nil, v_cons, v_cons1, v_cons2, v_tup, v_tup0, v_tup1, v_tup2, v_tup3, v_lst, v_lst0, v_lst1, v_lst2, v_set, v_set_d, v_set_o, v_set_s, v_set_s1, v_set_s2, v_setS, v_drop, v_drop1, v_ret, v_ret1, v_retN, v_pass, v_seq, v_seq1, v_seq2, v_ifS, v_ifS1, v_ifS2, v_for, v_for1, v_range, v_range1, v_r1, v_r2, v_mut, v_mut_s, v_mut_s1, v_getB, v_getB1, v_kind, v_kind1, v_isL, v_mut2, v_mutE_l, v_mutR, v_append, o_add, o_sub, o_mul, o_mod, o_fdiv, o_lt, o_le, o_gt, o_ge, o_int, o_len_l, o_len_s, o_len_t, o_abs, o_neg, o_it_l, o_it_s, o_it_t, o_item, v_lstN, v_tupN, v_tryAs, v_tryA1, v_tryA2, v_tryB1, v_tryB2, v_allA, v_wpX1, v_wpX2, v_noX1, v_try, v_try1, v_try2, v_isE, v_isE1, v_frzE, v_frzE1, o_ltX_pl, o_min2X_pl, v_fn, v_fn1, o_isN5, v_call, v_call1, v_A, v_aNil, v_aVar, v_aVar1, v_aVar2, v_aD, v_aD1, v_items, v_items_l, v_items_dl, v_items_dt, v_items_ds, v_items_s, v_items_s1, v_items_s2, v_items_s3, v_lstRg, v_dic, v_forH, v_forH1, v_forH2, v_restF, v_put, v_put1, v_put2, v_put3, v_putE, v_putR, v_fs, v_fs1, v_fld, v_fz, v_fz1, v_fz2, v_fz3, v_toD_i, v_toD_m, v_toDd, v_toDo, v_toDwl, v_toDwr, v_yes, v_make, v_make1, v_meth, v_meth2, v_sl, v_sl1, v_sl2, v_sl3, v_none, v_some, v_some1, o_slice_l, o_list_l, o_list_t, o_tup_l, o_tup_t, o_min2, o_max2, o_eq_i, o_ne_i, o_bl_eq, o_bl_ne, o_tru, o_isB, o_notB, o_add_l, o_in_il, o_nin_il, o_in_it, o_in_pl, o_in_pt, o_nin_pt, o_eq_il, o_ne_il, o_eq_pt, o_eq_pl, o_ne_p, o_eq_p, o_sort_pl, o_sort_pm, o_sort_il, v_wipe0, v_wipe1, v_wp, v_wpB, v_wp1, v_wp2, v_wp3, v_wp4, v_wp5, v_nd0, v_nd1, v_nd2, v_ap, v_ap1, v_ap2, v_ap3, v_ap4, v_slots0, v_slots1, v_slots2, v_args0, v_args1, v_args2, v_args3, v_args4, v_upd0, v_upd1, v_upd2, v_mk, v_mk1, v_mk2, v_mk3, v_run, v_end1, v_end2, v_end3, v_end4, v_end6, v_end7, v_end5, v_outs0, v_outs1, v_outs2, v_outs3, v_outs4, v_raise, v_bindx, v_seq3, v_seq4, v_seq5, v_nx1, v_nx2, v_nx3, v_nx4, v_nx5, v_iter, v_iter1, v_tname, v_ts0, v_ts1, v_ts2, v_ttup, v_for0, o_i_ii, o_i_ib, o_i_in, o_i_it, o_i_is, o_i_il, o_i_bi, o_i_bb, o_i_tt, o_i_ti, o_i_tl, o_i_tn, o_i_ts, o_i_tb, o_i_si, o_i_ss, o_i_st, o_i_tp, o_isN1, o_isN2, o_isN3, o_isN4, o_nin1, o_nin2, o_nin3, o_nin4, o_len_p, o_it_p0, o_it_p1, v_at0, v_at1, v_ttp, v_tup0i, v_enum, v_enum1, v_wipeE0, v_aug, v_aug1, v_aug2, List.getElem?_cons_succ, List.getElem?_cons_zero, List.set_cons_succ, List.set_cons_zero, List.length_cons, List.length_nil, Nat.reduceAdd, Nat.reduceLT, List.length_map, decide_true, decide_false, List.map_cons, List.map_nil, List.cons_append, List.nil_append, List.reduceReplicate, Nat.reduceSub, Nat.reduceLeDiff, Nat.reduceBEq, List.contains_cons, List.contains_nil, Bool.or_false, Bool.false_or, Bool.or_true, Bool.true_or, Bool.not_true, Bool.not_false, List.length_set, Nat.zero_add, List.getElem?_nil, v_append h]
theorem pb2_ok {n u : Nat} {acc : List (Int × Int)} (hn : n ≤ 1000) (hu : u < n) (h : acc.length + n < lim) : iter1 (tName 2) b2__law_pairs (.int (0 + (u : Int))) [OI n, some (PLs acc), none, none] = .ok (.nx [OI n, some (PLs (acc ++ prow n u)), none, none]) := by
  have e := forF_rng (g := tName 3) (f := b1__law_pairs) (lo := (u : Int) + 1) (n := n - (u + 1)) (fun i => [OI n, some (PLs (acc ++ (List.range i).map fun (i : Nat) => ((u : Int), (u : Int) + 1 + (i : Int)))), OI u, none]) fun i hi => by
    rw [pb1_ok (by simp only [List.length_map, List.length_append, List.length_range]; omega), List.range_succ]
    simp [PLs]
  simp only [List.range_zero, List.map_nil, List.append_nil] at e
  simp only [b2__law_pairs, v_var, v_var_d, v_var_o, v_c, v_bind, v_of, v_fin, v_vd, v_vo, v_vs, v_vs_d, v_vs_o, v_wl, v_wm, v_view1, v_view2, v_kv1, v_kv2, v_bin, v_bin1, v_bin2, v_ix, v_un, v_un1, v_test, v_test1, v_tru, v_tru1, v_tru2, v_obind, v_notT, v_notT1, v_andT, v_andT1, v_andT2, v_orT, v_orT1, v_orT2, v_not, v_not1, v_and, v_and1, v_and2, v_or, v_or1, v_or2, v_if, v_if1, v_if2, v_ch, v_ch1, v_ch2, v_ch3, v_ch4, v_ch5, v_D, v_frz_d, v_frz_o, v_frz_s, v_frz_s1, v_frz_s2, v_toD_l, v_nil, v_cons, v_cons1, v_cons2, v_tup, v_tup0, v_tup1, v_tup2, v_tup3, v_lst, v_lst0, v_lst1, v_lst2, v_set, v_set_d, v_set_o, v_set_s, v_set_s1, v_set_s2, v_setS, v_drop, v_drop1, v_ret, v_ret1, v_retN, v_pass, v_seq, v_seq1, v_seq2, v_ifS, v_ifS1, v_ifS2, v_for, v_for1, v_range, v_range1, v_r1, v_r2, v_mut, v_mut_s, v_mut_s1, v_getB, v_getB1, v_kind, v_kind1, v_isL, v_mut2, v_mutE_l, v_mutR, v_append, o_add, o_sub, o_mul, o_mod, o_fdiv, o_lt, o_le, o_gt, o_ge, o_int, o_len_l, o_len_s, o_len_t, o_abs, o_neg, o_it_l, o_it_s, o_it_t, o_item, v_lstN, v_tupN, v_tryAs, v_tryA1, v_tryA2, v_tryB1, v_tryB2, v_allA, v_wpX1, v_wpX2, v_noX1, v_try, v_try1, v_try2, v_isE, v_isE1, v_frzE, v_frzE1, o_ltX_pl, o_min2X_pl, v_fn, v_fn1, o_isN5, v_call, v_call1, v_A, v_aNil, v_aVar, v_aVar1, v_aVar2, v_aD, v_aD1, v_items, v_items_l, v_items_dl, v_items_dt, v_items_ds, v_items_s, v_items_s1, v_items_s2, v_items_s3, v_lstRg, v_dic, v_forH, v_forH1, v_forH2, v_restF, v_put, v_put1, v_put2, v_put3, v_putE, v_putR, v_fs, v_fs1, v_fld, v_fz, v_fz1, v_fz2, v_fz3, v_toD_i, v_toD_m, v_toDd, v_toDo, v_toDwl, v_toDwr, v_yes, v_make, v_make1, v_meth, v_meth2, v_sl, v_sl1, v_sl2, v_sl3, v_none, v_some, v_some1, o_slice_l, o_list_l, o_list_t, o_tup_l, o_tup_t, o_min2, o_max2, o_eq_i, o_ne_i, o_bl_eq, o_bl_ne, o_tru, o_isB, o_notB, o_add_l, o_in_il, o_nin_il, o_in_it, o_in_pl, o_in_pt, o_nin_pt, o_eq_il, o_ne_il, o_eq_pt, o_eq_pl, o_ne_p, o_eq_p, o_sort_pl, o_sort_pm, o_sort_il, v_wipe0, v_wipe1, v_wp, v_wpB, v_wp1, v_wp2, v_wp3, v_wp4, v_wp5, v_nd0, v_nd1, v_nd2, v_ap, v_ap1, v_ap2, v_ap3, v_ap4, v_slots0, v_slots1, v_slots2, v_args0, v_args1, v_args2, v_args3, v_args4, v_upd0, v_upd1, v_upd2, v_mk, v_mk1, v_mk2, v_mk3, v_run, v_end1, v_end2, v_end3, v_end4, v_end6, v_end7, v_end5, v_outs0, v_outs1, v_outs2, v_outs3, v_outs4, v_raise, v_bindx, v_seq3, v_seq4, v_seq5, v_nx1, v_nx2, v_nx3, v_nx4, v_nx5, v_iter, v_iter1, v_tname, v_ts0, v_ts1, v_ts2, v_ttup, v_for0, o_i_ii, o_i_ib, o_i_in, o_i_it, o_i_is, o_i_il, o_i_bi, o_i_bb, o_i_tt, o_i_ti, o_i_tl, o_i_tn, o_i_ts, o_i_tb, o_i_si, o_i_ss, o_i_st, o_i_tp, o_isN1, o_isN2, o_isN3, o_isN4, o_nin1, o_nin2, o_nin3, o_nin4, o_len_p, o_it_p0, o_it_p1, v_at0, v_at1, v_ttp, v_tup0i, v_enum, v_enum1, v_wipeE0, v_aug, v_aug1, v_aug2, List.getElem?_cons_succ, List.getElem?_cons_zero, List.set_cons_succ, List.set_cons_zero, List.length_cons, List.length_nil, Nat.reduceAdd, Nat.reduceLT, List.length_map, decide_true, decide_false, List.map_cons, List.map_nil, List.cons_append, List.nil_append, List.reduceReplicate, Nat.reduceSub, Nat.reduceLeDiff, Nat.reduceBEq, List.contains_cons, List.contains_nil, Bool.or_false, Bool.false_or, Bool.or_true, Bool.true_or, Bool.not_true, Bool.not_false, List.length_set, Nat.zero_add, List.getElem?_nil, Int.zero_add, v_range1 (r2S (m := u) (n := n) (by omega) (by omega)), e]
  rfl
theorem o_pairs (n : Nat) (hn : n ≤ 1000) : fn__law_pairs [.d (.int n)] = .ok (.o (.b (.l ((prs n).map pD))), [OI n]) := by
  have e := forF_rng (g := tName 2) (f := b2__law_pairs) (lo := 0) (n := n) (fun i => [OI n, some (PLs ((List.range i).flatMap (prow n))), none, none]) fun i hi => by
    rw [pb2_ok hn hi, prs_succ]
    have := flat_len (n := n) i
    have h2 : i * n ≤ 1000 * 1000 := Nat.mul_le_mul (by omega) hn
    simp only [lim]
    omega
  simp only [PLs, List.range_zero, List.flatMap_nil, List.map_nil] at e
  simp only [fn__law_pairs, code__law_pairs, v_var, v_var_d, v_var_o, v_c, v_bind, v_of, v_fin, v_vd, v_vo, v_vs, v_vs_d, v_vs_o, v_wl, v_wm, v_view1, v_view2, v_kv1, v_kv2, v_bin, v_bin1, v_bin2, v_ix, v_un, v_un1, v_test, v_test1, v_tru, v_tru1, v_tru2, v_obind, v_notT, v_notT1, v_andT, v_andT1, v_andT2, v_orT, v_orT1, v_orT2, v_not, v_not1, v_and, v_and1, v_and2, v_or, v_or1, v_or2, v_if, v_if1, v_if2, v_ch, v_ch1, v_ch2, v_ch3, v_ch4, v_ch5, v_D, v_frz_d, v_frz_o, v_frz_s, v_frz_s1, v_frz_s2, v_toD_l, v_nil, v_cons, v_cons1, v_cons2, v_tup, v_tup0, v_tup1, v_tup2, v_tup3, v_lst, v_lst0, v_lst1, v_lst2, v_set, v_set_d, v_set_o, v_set_s, v_set_s1, v_set_s2, v_setS, v_drop, v_drop1, v_ret, v_ret1, v_retN, v_pass, v_seq, v_seq1, v_seq2, v_ifS, v_ifS1, v_ifS2, v_for, v_for1, v_range, v_range1, v_r1, v_r2, v_mut, v_mut_s, v_mut_s1, v_getB, v_getB1, v_kind, v_kind1, v_isL, v_mut2, v_mutE_l, v_mutR, v_append, o_add, o_sub, o_mul, o_mod, o_fdiv, o_lt, o_le, o_gt, o_ge, o_int, o_len_l, o_len_s, o_len_t, o_abs, o_neg, o_it_l, o_it_s, o_it_t, o_item, v_lstN, v_tupN, v_tryAs, v_tryA1, v_tryA2, v_tryB1, v_tryB2, v_allA, v_wpX1, v_wpX2, v_noX1, v_try, v_try1, v_try2, v_isE, v_isE1, v_frzE, v_frzE1, o_ltX_pl, o_min2X_pl, v_fn, v_fn1, o_isN5, v_call, v_call1, v_A, v_aNil, v_aVar, v_aVar1, v_aVar2, v_aD, v_aD1, v_items, v_items_l, v_items_dl, v_items_dt, v_items_ds, v_items_s, v_items_s1, v_items_s2, v_items_s3, v_lstRg, v_dic, v_forH, v_forH1, v_forH2, v_restF, v_put, v_put1, v_put2, v_put3, v_putE, v_putR, v_fs, v_fs1, v_fld, v_fz, v_fz1, v_fz2, v_fz3, v_toD_i, v_toD_m, v_toDd, v_toDo, v_toDwl, v_toDwr, v_yes, v_make, v_make1, v_meth, v_meth2, v_sl, v_sl1, v_sl2, v_sl3, v_none, v_some, v_some1, o_slice_l, o_list_l, o_list_t, o_tup_l, o_tup_t, o_min2, o_max2, o_eq_i, o_ne_i, o_bl_eq, o_bl_ne, o_tru, o_isB, o_notB, o_add_l, o_in_il, o_nin_il, o_in_it, o_in_pl, o_in_pt, o_nin_pt, o_eq_il, o_ne_il, o_eq_pt, o_eq_pl, o_ne_p, o_eq_p, o_sort_pl, o_sort_pm, o_sort_il, v_wipe0, v_wipe1, v_wp, v_wpB, v_wp1, v_wp2, v_wp3, v_wp4, v_wp5, v_nd0, v_nd1, v_nd2, v_ap, v_ap1, v_ap2, v_ap3, v_ap4, v_slots0, v_slots1, v_slots2, v_args0, v_args1, v_args2, v_args3, v_args4, v_upd0, v_upd1, v_upd2, v_mk, v_mk1, v_mk2, v_mk3, v_run, v_end1, v_end2, v_end3, v_end4, v_end6, v_end7, v_end5, v_outs0, v_outs1, v_outs2, v_outs3, v_outs4, v_raise, v_bindx, v_seq3, v_seq4, v_seq5, v_nx1, v_nx2, v_nx3, v_nx4, v_nx5, v_iter, v_iter1, v_tname, v_ts0, v_ts1, v_ts2, v_ttup, v_for0, o_i_ii, o_i_ib, o_i_in, o_i_it, o_i_is, o_i_il, o_i_bi, o_i_bb, o_i_tt, o_i_ti, o_i_tl, o_i_tn, o_i_ts, o_i_tb, o_i_si, o_i_ss, o_i_st, o_i_tp, o_isN1, o_isN2, o_isN3, o_isN4, o_nin1, o_nin2, o_nin3, o_nin4, o_len_p, o_it_p0, o_it_p1, v_at0, v_at1, v_ttp, v_tup0i, v_enum, v_enum1, v_wipeE0, v_aug, v_aug1, v_aug2, List.getElem?_cons_succ, List.getElem?_cons_zero, List.set_cons_succ, List.set_cons_zero, List.length_cons, List.length_nil, Nat.reduceAdd, Nat.reduceLT, List.length_map, decide_true, decide_false, List.map_cons, List.map_nil, List.cons_append, List.nil_append, List.reduceReplicate, Nat.reduceSub, Nat.reduceLeDiff, Nat.reduceBEq, List.contains_cons, List.contains_nil, Bool.or_false, Bool.false_or, Bool.or_true, Bool.true_or, Bool.not_true, Bool.not_false, List.length_set, Nat.zero_add, List.getElem?_nil, v_range1 (r1N (n := n) (by omega)), e]
  rfl
theorem gb_ok {xs : List Int} {p : Nat} {most n dense : Int} {es : List (Int × Int)} {q : Int × Int} (h : es.length < lim) : ∃ (b : Bool), iter1 (tName 6) b1__law_graph (pD q) [some (DL xs), some (PL p), OI most, OI n, OI dense, some (PLs es), none] =
    .ok (.nx [some (DL xs), some (PL (tkP xs p)), OI most, OI n, OI dense, some (PLs (if b then es ++ [q] else es)), none]) := by
  have hl : (es.map pD).length < lim := by simpa using h
  by_cases h1 : tkV xs p % 6 < dense
  · refine ⟨true, ?_⟩
    simp only [b1__law_graph, o_take, v_var, v_var_d, v_var_o, v_c, v_bind, v_of, v_fin, v_vd, v_vo, v_vs, v_vs_d, v_vs_o, v_wl, v_wm, v_view1, v_view2, v_kv1, v_kv2, v_bin, v_bin1, v_bin2, v_ix, v_un, v_un1, v_test, v_test1, v_tru, v_tru1, v_tru2, v_obind, v_notT, v_notT1, v_andT, v_andT1, v_andT2, v_orT, v_orT1, v_orT2, v_not, v_not1, v_and, v_and1, v_and2, v_or, v_or1, v_or2, v_if, v_if1, v_if2, v_ch, v_ch1, v_ch2, v_ch3, v_ch4, v_ch5, v_D, v_frz_d, v_frz_o, v_frz_s, v_frz_s1, v_frz_s2, v_toD_l, v_nil, v_cons, v_cons1, v_cons2, v_tup, v_tup0, v_tup1, v_tup2, v_tup3, v_lst, v_lst0, v_lst1, v_lst2, v_set, v_set_d, v_set_o, v_set_s, v_set_s1, v_set_s2, v_setS, v_drop, v_drop1, v_ret, v_ret1, v_retN, v_pass, v_seq, v_seq1, v_seq2, v_ifS, v_ifS1, v_ifS2, v_for, v_for1, v_range, v_range1, v_r1, v_r2, v_mut, v_mut_s, v_mut_s1, v_getB, v_getB1, v_kind, v_kind1, v_isL, v_mut2, v_mutE_l, v_mutR, v_append, o_add, o_sub, o_mul, o_mod, o_fdiv, o_lt, o_le, o_gt, o_ge, o_int, o_len_l, o_len_s, o_len_t, o_abs, o_neg, o_it_l, o_it_s, o_it_t, o_item, v_lstN, v_tupN, v_tryAs, v_tryA1, v_tryA2, v_tryB1, v_tryB2, v_allA, v_wpX1, v_wpX2, v_noX1, v_try, v_try1, v_try2, v_isE, v_isE1, v_frzE, v_frzE1, o_ltX_pl, o_min2X_pl, v_fn, v_fn1, o_isN5, v_call, v_call1, v_A, v_aNil, v_aVar, v_aVar1, v_aVar2, v_aD, v_aD1, v_items, v_items_l, v_items_dl, v_items_dt, v_items_ds, v_items_s, v_items_s1, v_items_s2, v_items_s3, v_lstRg, v_dic, v_forH, v_forH1, v_forH2, v_restF, v_put, v_put1, v_put2, v_put3, v_putE, v_putR, v_fs, v_fs1, v_fld, v_fz, v_fz1, v_fz2, v_fz3, v_toD_i, v_toD_m, v_toDd, v_toDo, v_toDwl, v_toDwr, v_yes, v_make, v_make1, v_meth, v_meth2, v_sl, v_sl1, v_sl2, v_sl3, v_none, v_some, v_some1, o_slice_l, o_list_l, o_list_t, o_tup_l, o_tup_t, o_min2, o_max2, o_eq_i, o_ne_i, o_bl_eq, o_bl_ne, o_tru, o_isB, o_notB, o_add_l, o_in_il, o_nin_il, o_in_it, o_in_pl, o_in_pt, o_nin_pt, o_eq_il, o_ne_il, o_eq_pt, o_eq_pl, o_ne_p, o_eq_p, o_sort_pl, o_sort_pm, o_sort_il, v_wipe0, v_wipe1, v_wp, v_wpB, v_wp1, v_wp2, v_wp3, v_wp4, v_wp5, v_nd0, v_nd1, v_nd2, v_ap, v_ap1, v_ap2, v_ap3, v_ap4, v_slots0, v_slots1, v_slots2, v_args0, v_args1, v_args2, v_args3, v_args4, v_upd0, v_upd1, v_upd2, v_mk, v_mk1, v_mk2, v_mk3, v_run, v_end1, v_end2, v_end3, v_end4, v_end6, v_end7, v_end5, v_outs0, v_outs1, v_outs2, v_outs3, v_outs4, v_raise, v_bindx, v_seq3, v_seq4, v_seq5, v_nx1, v_nx2, v_nx3, v_nx4, v_nx5, v_iter, v_iter1, v_tname, v_ts0, v_ts1, v_ts2, v_ttup, v_for0, o_i_ii, o_i_ib, o_i_in, o_i_it, o_i_is, o_i_il, o_i_bi, o_i_bb, o_i_tt, o_i_ti, o_i_tl, o_i_tn, o_i_ts, o_i_tb, o_i_si, o_i_ss, o_i_st, o_i_tp, o_isN1, o_isN2, o_isN3, o_isN4, o_nin1, o_nin2, o_nin3, o_nin4, o_len_p, o_it_p0, o_it_p1, v_at0, v_at1, v_ttp, v_tup0i, v_enum, v_enum1, v_wipeE0, v_aug, v_aug1, v_aug2, List.getElem?_cons_succ, List.getElem?_cons_zero, List.set_cons_succ, List.set_cons_zero, List.length_cons, List.length_nil, Nat.reduceAdd, Nat.reduceLT, List.length_map, decide_true, decide_false, List.map_cons, List.map_nil, List.cons_append, List.nil_append, List.reduceReplicate, Nat.reduceSub, Nat.reduceLeDiff, Nat.reduceBEq, List.contains_cons, List.contains_nil, Bool.or_false, Bool.false_or, Bool.or_true, Bool.true_or, Bool.not_true, Bool.not_false, List.length_set, Nat.zero_add, List.getElem?_nil, o_mod (show (0 : Int) < 6 by decide), h1, v_append hl, if_true, List.map_append, PLs]
  · refine ⟨false, ?_⟩
    simp only [b1__law_graph, o_take, v_var, v_var_d, v_var_o, v_c, v_bind, v_of, v_fin, v_vd, v_vo, v_vs, v_vs_d, v_vs_o, v_wl, v_wm, v_view1, v_view2, v_kv1, v_kv2, v_bin, v_bin1, v_bin2, v_ix, v_un, v_un1, v_test, v_test1, v_tru, v_tru1, v_tru2, v_obind, v_notT, v_notT1, v_andT, v_andT1, v_andT2, v_orT, v_orT1, v_orT2, v_not, v_not1, v_and, v_and1, v_and2, v_or, v_or1, v_or2, v_if, v_if1, v_if2, v_ch, v_ch1, v_ch2, v_ch3, v_ch4, v_ch5, v_D, v_frz_d, v_frz_o, v_frz_s, v_frz_s1, v_frz_s2, v_toD_l, v_nil, v_cons, v_cons1, v_cons2, v_tup, v_tup0, v_tup1, v_tup2, v_tup3, v_lst, v_lst0, v_lst1, v_lst2, v_set, v_set_d, v_set_o, v_set_s, v_set_s1, v_set_s2, v_setS, v_drop, v_drop1, v_ret, v_ret1, v_retN, v_pass, v_seq, v_seq1, v_seq2, v_ifS, v_ifS1, v_ifS2, v_for, v_for1, v_range, v_range1, v_r1, v_r2, v_mut, v_mut_s, v_mut_s1, v_getB, v_getB1, v_kind, v_kind1, v_isL, v_mut2, v_mutE_l, v_mutR, v_append, o_add, o_sub, o_mul, o_mod, o_fdiv, o_lt, o_le, o_gt, o_ge, o_int, o_len_l, o_len_s, o_len_t, o_abs, o_neg, o_it_l, o_it_s, o_it_t, o_item, v_lstN, v_tupN, v_tryAs, v_tryA1, v_tryA2, v_tryB1, v_tryB2, v_allA, v_wpX1, v_wpX2, v_noX1, v_try, v_try1, v_try2, v_isE, v_isE1, v_frzE, v_frzE1, o_ltX_pl, o_min2X_pl, v_fn, v_fn1, o_isN5, v_call, v_call1, v_A, v_aNil, v_aVar, v_aVar1, v_aVar2, v_aD, v_aD1, v_items, v_items_l, v_items_dl, v_items_dt, v_items_ds, v_items_s, v_items_s1, v_items_s2, v_items_s3, v_lstRg, v_dic, v_forH, v_forH1, v_forH2, v_restF, v_put, v_put1, v_put2, v_put3, v_putE, v_putR, v_fs, v_fs1, v_fld, v_fz, v_fz1, v_fz2, v_fz3, v_toD_i, v_toD_m, v_toDd, v_toDo, v_toDwl, v_toDwr, v_yes, v_make, v_make1, v_meth, v_meth2, v_sl, v_sl1, v_sl2, v_sl3, v_none, v_some, v_some1, o_slice_l, o_list_l, o_list_t, o_tup_l, o_tup_t, o_min2, o_max2, o_eq_i, o_ne_i, o_bl_eq, o_bl_ne, o_tru, o_isB, o_notB, o_add_l, o_in_il, o_nin_il, o_in_it, o_in_pl, o_in_pt, o_nin_pt, o_eq_il, o_ne_il, o_eq_pt, o_eq_pl, o_ne_p, o_eq_p, o_sort_pl, o_sort_pm, o_sort_il, v_wipe0, v_wipe1, v_wp, v_wpB, v_wp1, v_wp2, v_wp3, v_wp4, v_wp5, v_nd0, v_nd1, v_nd2, v_ap, v_ap1, v_ap2, v_ap3, v_ap4, v_slots0, v_slots1, v_slots2, v_args0, v_args1, v_args2, v_args3, v_args4, v_upd0, v_upd1, v_upd2, v_mk, v_mk1, v_mk2, v_mk3, v_run, v_end1, v_end2, v_end3, v_end4, v_end6, v_end7, v_end5, v_outs0, v_outs1, v_outs2, v_outs3, v_outs4, v_raise, v_bindx, v_seq3, v_seq4, v_seq5, v_nx1, v_nx2, v_nx3, v_nx4, v_nx5, v_iter, v_iter1, v_tname, v_ts0, v_ts1, v_ts2, v_ttup, v_for0, o_i_ii, o_i_ib, o_i_in, o_i_it, o_i_is, o_i_il, o_i_bi, o_i_bb, o_i_tt, o_i_ti, o_i_tl, o_i_tn, o_i_ts, o_i_tb, o_i_si, o_i_ss, o_i_st, o_i_tp, o_isN1, o_isN2, o_isN3, o_isN4, o_nin1, o_nin2, o_nin3, o_nin4, o_len_p, o_it_p0, o_it_p1, v_at0, v_at1, v_ttp, v_tup0i, v_enum, v_enum1, v_wipeE0, v_aug, v_aug1, v_aug2, List.getElem?_cons_succ, List.getElem?_cons_zero, List.set_cons_succ, List.set_cons_zero, List.length_cons, List.length_nil, Nat.reduceAdd, Nat.reduceLT, List.length_map, decide_true, decide_false, List.map_cons, List.map_nil, List.cons_append, List.nil_append, List.reduceReplicate, Nat.reduceSub, Nat.reduceLeDiff, Nat.reduceBEq, List.contains_cons, List.contains_nil, Bool.or_false, Bool.false_or, Bool.or_true, Bool.true_or, Bool.not_true, Bool.not_false, List.length_set, Nat.zero_add, List.getElem?_nil, o_mod (show (0 : Int) < 6 by decide), h1, Bool.false_eq_true, if_false]
theorem graph_spec (xs : List Int) (p : Nat) (most : Nat) (hm : most ≤ 100) : ∃ (n p' : Nat) (es : List (Int × Int)), n ≤ most ∧ es.Sublist (prs n) ∧
    fn__law_graph [DL xs, PL p, .d (.int most)] = .ok (.d (.tup [.int n, .lst (es.map pD)]), [some (DL xs), some (PL p'), OI most]) := by
  obtain ⟨n, hn⟩ : ∃ n : Nat, tkV xs p % ((most : Int) + 1) = n := ⟨(tkV xs p % ((most : Int) + 1)).toNat, by have := Int.emod_nonneg (tkV xs p) (show (most : Int) + 1 ≠ 0 by omega); omega⟩
  have hnm : n ≤ most := by have := Int.emod_lt_of_pos (tkV xs p) (show (0 : Int) < (most : Int) + 1 by omega); omega
  have hn1 : n ≤ 1000 := by omega
  generalize hd : 1 + tkV xs (tkP xs p) % 5 = dense
  obtain ⟨⟨p3, es⟩, e, hs⟩ := forF_st (g := tName 6) (f := b1__law_graph) (enc := pD) (xs := prs n) (st := fun z : Nat × List (Int × Int) => [some (DL xs), some (PL z.1), OI most, OI n, OI dense, some (PLs z.2), none]) (fun pre z => z.2.Sublist pre) (s := (tkP xs (tkP xs p), [])) (fun pre q post z hq hz => by
    have hl : z.2.length < lim := by
      have h1 := hz.length_le
      have h2 := prs_len hn1
      rw [hq, List.length_append] at h2
      simp only [lim]
      omega
    obtain ⟨b, e⟩ := gb_ok (xs := xs) (p := z.1) (most := most) (n := n) (dense := dense) (es := z.2) (q := q) hl
    refine ⟨(tkP xs z.1, if b then z.2 ++ [q] else z.2), e, ?_⟩
    cases b with
    | true => exact hz.append (List.Sublist.refl _)
    | false => exact hz.trans (List.sublist_append_left _ _)) (List.Sublist.refl _)
  refine ⟨n, p3, es, hnm, hs, ?_⟩
  simp only [PLs, List.map_nil] at e
  simp only [fn__law_graph, code__law_graph, v_var, v_var_d, v_var_o, v_c, v_bind, v_of, v_fin, v_vd, v_vo, v_vs, v_vs_d, v_vs_o, v_wl, v_wm, v_view1, v_view2, v_kv1, v_kv2, v_bin, v_bin1, v_bin2, v_ix, v_un, v_un1, v_test, v_test1, v_tru, v_tru1, v_tru2, v_obind, v_notT, v_notT1, v_andT, v_andT1, v_andT2, v_orT, v_orT1, v_orT2, v_not, v_not1, v_and, v_and1, v_and2, v_or, v_or1, v_or2, v_if, v_if1, v_if2, v_ch, v_ch1, v_ch2, v_ch3, v_ch4, v_ch5, v_D, v_frz_d, v_frz_o, v_frz_s, v_frz_s1, v_frz_s2, v_toD_l, v_nil, v_cons, v_cons1, v_cons2, v_tup, v_tup0, v_tup1, v_tup2, v_tup3, v_lst, v_lst0, v_lst1, v_lst2, v_set, v_set_d, v_set_o, v_set_s, v_set_s1, v_set_s2, v_setS, v_drop, v_drop1, v_ret, v_ret1, v_retN, v_pass, v_seq, v_seq1, v_seq2, v_ifS, v_ifS1, v_ifS2, v_for, v_for1, v_range, v_range1, v_r1, v_r2, v_mut, v_mut_s, v_mut_s1, v_getB, v_getB1, v_kind, v_kind1, v_isL, v_mut2, v_mutE_l, v_mutR, v_append, o_add, o_sub, o_mul, o_mod, o_fdiv, o_lt, o_le, o_gt, o_ge, o_int, o_len_l, o_len_s, o_len_t, o_abs, o_neg, o_it_l, o_it_s, o_it_t, o_item, v_lstN, v_tupN, v_tryAs, v_tryA1, v_tryA2, v_tryB1, v_tryB2, v_allA, v_wpX1, v_wpX2, v_noX1, v_try, v_try1, v_try2, v_isE, v_isE1, v_frzE, v_frzE1, o_ltX_pl, o_min2X_pl, v_fn, v_fn1, o_isN5, v_call, v_call1, v_A, v_aNil, v_aVar, v_aVar1, v_aVar2, v_aD, v_aD1, v_items, v_items_l, v_items_dl, v_items_dt, v_items_ds, v_items_s, v_items_s1, v_items_s2, v_items_s3, v_lstRg, v_dic, v_forH, v_forH1, v_forH2, v_restF, v_put, v_put1, v_put2, v_put3, v_putE, v_putR, v_fs, v_fs1, v_fld, v_fz, v_fz1, v_fz2, v_fz3, v_toD_i, v_toD_m, v_toDd, v_toDo, v_toDwl, v_toDwr, v_yes, v_make, v_make1, v_meth, v_meth2, v_sl, v_sl1, v_sl2, v_sl3, v_none, v_some, v_some1, o_slice_l, o_list_l, o_list_t, o_tup_l, o_tup_t, o_min2, o_max2, o_eq_i, o_ne_i, o_bl_eq, o_bl_ne, o_tru, o_isB, o_notB, o_add_l, o_in_il, o_nin_il, o_in_it, o_in_pl, o_in_pt, o_nin_pt, o_eq_il, o_ne_il, o_eq_pt, o_eq_pl, o_ne_p, o_eq_p, o_sort_pl, o_sort_pm, o_sort_il, v_wipe0, v_wipe1, v_wp, v_wpB, v_wp1, v_wp2, v_wp3, v_wp4, v_wp5, v_nd0, v_nd1, v_nd2, v_ap, v_ap1, v_ap2, v_ap3, v_ap4, v_slots0, v_slots1, v_slots2, v_args0, v_args1, v_args2, v_args3, v_args4, v_upd0, v_upd1, v_upd2, v_mk, v_mk1, v_mk2, v_mk3, v_run, v_end1, v_end2, v_end3, v_end4, v_end6, v_end7, v_end5, v_outs0, v_outs1, v_outs2, v_outs3, v_outs4, v_raise, v_bindx, v_seq3, v_seq4, v_seq5, v_nx1, v_nx2, v_nx3, v_nx4, v_nx5, v_iter, v_iter1, v_tname, v_ts0, v_ts1, v_ts2, v_ttup, v_for0, o_i_ii, o_i_ib, o_i_in, o_i_it, o_i_is, o_i_il, o_i_bi, o_i_bb, o_i_tt, o_i_ti, o_i_tl, o_i_tn, o_i_ts, o_i_tb, o_i_si, o_i_ss, o_i_st, o_i_tp, o_isN1, o_isN2, o_isN3, o_isN4, o_nin1, o_nin2, o_nin3, o_nin4, o_len_p, o_it_p0, o_it_p1, v_at0, v_at1, v_ttp, v_tup0i, v_enum, v_enum1, v_wipeE0, v_aug, v_aug1, v_aug2, List.getElem?_cons_succ, List.getElem?_cons_zero, List.set_cons_succ, List.set_cons_zero, List.length_cons, List.length_nil, Nat.reduceAdd, Nat.reduceLT, List.length_map, decide_true, decide_false, List.map_cons, List.map_nil, List.cons_append, List.nil_append, List.reduceReplicate, Nat.reduceSub, Nat.reduceLeDiff, Nat.reduceBEq, List.contains_cons, List.contains_nil, Bool.or_false, Bool.false_or, Bool.or_true, Bool.true_or, Bool.not_true, Bool.not_false, List.length_set, Nat.zero_add, List.getElem?_nil, o_take, o_pairs n hn1, o_mod (show (0 : Int) < (most : Int) + 1 by omega), o_mod (show (0 : Int) < 5 by decide), hn, hd, e]
theorem mem_prow {n u : Nat} {p : Int × Int} : p ∈ prow n u ↔ p.1 = u ∧ (u : Int) < p.2 ∧ p.2 < n := by
  unfold prow
  simp only [List.mem_map, List.mem_range]
  constructor
  · rintro ⟨i, hi, rfl⟩
    exact ⟨rfl, by dsimp only; omega, by dsimp only; omega⟩
  · rintro ⟨h1, h2, h3⟩
    exact ⟨(p.2 - u - 1).toNat, by omega, Prod.ext h1.symm (by dsimp only; omega)⟩
theorem mem_prs {n : Nat} {p : Int × Int} : p ∈ prs n ↔ 0 ≤ p.1 ∧ p.1 < p.2 ∧ p.2 < n := by
  unfold prs
  simp only [List.mem_flatMap, List.mem_range, mem_prow]
  constructor
  · rintro ⟨u, hu, h1, h2, h3⟩; omega
  · rintro ⟨h1, h2, h3⟩; exact ⟨p.1.toNat, by omega, by omega, by omega, h3⟩
/-- strictly in order -/
def ltP (p q : Int × Int) : Prop := p.1 < q.1 ∨ (p.1 = q.1 ∧ p.2 < q.2)
theorem prow_sorted (n u : Nat) : (prow n u).Pairwise ltP := by
  unfold prow
  rw [List.pairwise_map]
  refine List.pairwise_lt_range.imp fun h => .inr ⟨rfl, ?_⟩
  dsimp only; omega
theorem prs_sorted (n : Nat) : (prs n).Pairwise ltP := by
  have go : ∀ i : Nat, ((List.range i).flatMap (prow n)).Pairwise ltP := by
    intro i
    induction i with
    | zero => simp
    | succ i ih =>
      rw [prs_succ, List.pairwise_append]
      refine ⟨ih, prow_sorted n i, fun a ha b hb => ?_⟩
      simp only [List.mem_flatMap, List.mem_range] at ha
      obtain ⟨j, hj, ha⟩ := ha
      exact .inl (by have := (mem_prow.mp ha).1; have := (mem_prow.mp hb).1; omega)
  exact go n
theorem ltP_ne {p q : Int × Int} (h : ltP p q) : p ≠ q := by
  rintro rfl
  rcases h with h | h <;> omega
theorem ltP_le {p q : Int × Int} (h : ltP p q) : leP p q = true := by
  simp only [leP, decide_eq_true_eq]
  rcases h with h | h <;> omega
/-- the edges of a graph of n vertices -/
structure Good (n : Int) (es : List (Int × Int)) : Prop where
  mem : ∀ p ∈ es, 0 ≤ p.1 ∧ p.1 < p.2 ∧ p.2 < n
  nd : es.Nodup
theorem sub_sorted {n : Nat} {es : List (Int × Int)} (h : es.Sublist (prs n)) : es.Pairwise ltP := (prs_sorted n).sublist h
theorem sub_good {n : Nat} {es : List (Int × Int)} (h : es.Sublist (prs n)) : Good n es :=
  ⟨fun p hp => mem_prs.mp (h.subset hp), (sub_sorted h).imp ltP_ne⟩
theorem sub_srt {n : Nat} {es : List (Int × Int)} (h : es.Sublist (prs n)) : srtP es = es := srtP_eq (List.Perm.refl _) ((sub_sorted h).imp ltP_le)
theorem Good.perm {n : Int} {es fs : List (Int × Int)} (h : Good n es) (p : fs.Perm es) : Good n fs := ⟨fun q hq => h.mem q (p.mem_iff.mp hq), p.symm.nodup h.nd⟩
end K03
namespace K03
open J
/-- the neighbours of u, in order -/
def nbr (n : Nat) (es : List (Int × Int)) (u : Int) : List Int := (upto n).filter fun v => decide ((min u v, max u v) ∈ es)
def rowsD (n : Nat) (es : List (Int × Int)) : List D := (upto n).map fun u => .lst ((nbr n es u).map .int)
/-- a graph, as data -/
def GD (n : Nat) (es : List (Int × Int)) : D := .ins "Graph" ["size", "edges", "_near"] [.int n, .tup ((srtP es).map pD), .lst (rowsD n es)]
/-- .. as it is made -/
def GO (n : Nat) (es : List (Int × Int)) : Own := .i "Graph" ["size", "edges", "_near"] [.d (.int n), .d (.tup ((srtP es).map pD)), .o (.l (rowsD n es))]
theorem v_GO_toD {n : Nat} {es : List (Int × Int)} : (GO n es).toD = GD n es := rfl
theorem nbr_congr {n : Nat} {es fs : List (Int × Int)} (h : es.Perm fs) (u : Int) : nbr n es u = nbr n fs u := by
  unfold nbr
  refine List.filter_congr fun v _ => ?_
  simp only [decide_eq_decide]
  exact h.mem_iff
theorem GD_congr {n : Nat} {es fs : List (Int × Int)} (h : es.Perm fs) : GD n es = GD n fs := by
  unfold GD rowsD
  rw [srtP_congr h]
  simp only [nbr_congr h]
theorem o_isint (v a b : Int) : fn_is_integer [.d (.int v), .d (.int a), .d (.int b)] = .ok (.d (.bl (decide (a ≤ v) && decide (v ≤ b))), [OI v, OI a, OI b]) := by
  by_cases h : a ≤ v <;> simp only [fn_is_integer, code_is_integer, v_var, v_var_d, v_var_o, v_c, v_bind, v_of, v_fin, v_vd, v_vo, v_vs, v_vs_d, v_vs_o, v_wl, v_wm, v_view1, v_view2, v_kv1, v_kv2, v_bin, v_bin1, v_bin2, v_ix, v_un, v_un1, v_test, v_test1, v_tru, v_tru1, v_tru2, v_obind, v_notT, v_notT1, v_andT, v_andT1, v_andT2, v_orT, v_orT1, v_orT2, v_not, v_not1, v_and, v_and1, v_and2, v_or, v_or1, v_or2, v_if, v_if1, v_if2, v_ch, v_ch1, v_ch2, v_ch3, v_ch4, v_ch5, v_D, v_frz_d, v_frz_o, v_frz_s, v_frz_s1, v_frz_s2, v_toD_l, v_nil, v_cons, v_cons1, v_cons2, v_tup, v_tup0, v_tup1, v_tup2, v_tup3, v_lst, v_lst0, v_lst1, v_lst2, v_set, v_set_d, v_set_o, v_set_s, v_set_s1, v_set_s2, v_setS, v_drop, v_drop1, v_ret, v_ret1, v_retN, v_pass, v_seq, v_seq1, v_seq2, v_ifS, v_ifS1, v_ifS2, v_for, v_for1, v_range, v_range1, v_r1, v_r2, v_mut, v_mut_s, v_mut_s1, v_getB, v_getB1, v_kind, v_kind1, v_isL, v_mut2, v_mutE_l, v_mutR, v_append, o_add, o_sub, o_mul, o_mod, o_fdiv, o_lt, o_le, o_gt, o_ge, o_int, o_len_l, o_len_s, o_len_t, o_abs, o_neg, o_it_l, o_it_s, o_it_t, o_item, v_lstN, v_tupN, v_tryAs, v_tryA1, v_tryA2, v_tryB1, v_tryB2, v_allA, v_wpX1, v_wpX2, v_noX1, v_try, v_try1, v_try2, v_isE, v_isE1, v_frzE, v_frzE1, o_ltX_pl, o_min2X_pl, v_fn, v_fn1, o_isN5, v_call, v_call1, v_A, v_aNil, v_aVar, v_aVar1, v_aVar2, v_aD, v_aD1, v_items, v_items_l, v_items_dl, v_items_dt, v_items_ds, v_items_s, v_items_s1, v_items_s2, v_items_s3, v_lstRg, v_dic, v_forH, v_forH1, v_forH2, v_restF, v_put, v_put1, v_put2, v_put3, v_putE, v_putR, v_fs, v_fs1, v_fld, v_fz, v_fz1, v_fz2, v_fz3, v_toD_i, v_toD_m, v_toDd, v_toDo, v_toDwl, v_toDwr, v_yes, v_make, v_make1, v_meth, v_meth2, v_sl, v_sl1, v_sl2, v_sl3, v_none, v_some, v_some1, o_slice_l, o_list_l, o_list_t, o_tup_l, o_tup_t, o_min2, o_max2, o_eq_i, o_ne_i, o_bl_eq, o_bl_ne, o_tru, o_isB, o_notB, o_add_l, o_in_il, o_nin_il, o_in_it, o_in_pl, o_in_pt, o_nin_pt, o_eq_il, o_ne_il, o_eq_pt, o_eq_pl, o_ne_p, o_eq_p, o_sort_pl, o_sort_pm, o_sort_il, v_wipe0, v_wipe1, v_wp, v_wpB, v_wp1, v_wp2, v_wp3, v_wp4, v_wp5, v_nd0, v_nd1, v_nd2, v_ap, v_ap1, v_ap2, v_ap3, v_ap4, v_slots0, v_slots1, v_slots2, v_args0, v_args1, v_args2, v_args3, v_args4, v_upd0, v_upd1, v_upd2, v_mk, v_mk1, v_mk2, v_mk3, v_run, v_end1, v_end2, v_end3, v_end4, v_end6, v_end7, v_end5, v_outs0, v_outs1, v_outs2, v_outs3, v_outs4, v_raise, v_bindx, v_seq3, v_seq4, v_seq5, v_nx1, v_nx2, v_nx3, v_nx4, v_nx5, v_iter, v_iter1, v_tname, v_ts0, v_ts1, v_ts2, v_ttup, v_for0, o_i_ii, o_i_ib, o_i_in, o_i_it, o_i_is, o_i_il, o_i_bi, o_i_bb, o_i_tt, o_i_ti, o_i_tl, o_i_tn, o_i_ts, o_i_tb, o_i_si, o_i_ss, o_i_st, o_i_tp, o_isN1, o_isN2, o_isN3, o_isN4, o_nin1, o_nin2, o_nin3, o_nin4, o_len_p, o_it_p0, o_it_p1, v_at0, v_at1, v_ttp, v_tup0i, v_enum, v_enum1, v_wipeE0, v_aug, v_aug1, v_aug2, List.getElem?_cons_succ, List.getElem?_cons_zero, List.set_cons_succ, List.set_cons_zero, List.length_cons, List.length_nil, Nat.reduceAdd, Nat.reduceLT, List.length_map, decide_true, decide_false, List.map_cons, List.map_nil, List.cons_append, List.nil_append, List.reduceReplicate, Nat.reduceSub, Nat.reduceLeDiff, Nat.reduceBEq, List.contains_cons, List.contains_nil, Bool.or_false, Bool.false_or, Bool.or_true, Bool.true_or, Bool.not_true, Bool.not_false, List.length_set, Nat.zero_add, List.getElem?_nil, h, Bool.true_and, Bool.false_and]
theorem o_isintN (a b : Int) : fn_is_integer [.d .non, .d (.int a), .d (.int b)] = .ok (.d (.bl false), [some (.d .non), OI a, OI b]) := by
  simp only [fn_is_integer, code_is_integer, v_var, v_var_d, v_var_o, v_c, v_bind, v_of, v_fin, v_vd, v_vo, v_vs, v_vs_d, v_vs_o, v_wl, v_wm, v_view1, v_view2, v_kv1, v_kv2, v_bin, v_bin1, v_bin2, v_ix, v_un, v_un1, v_test, v_test1, v_tru, v_tru1, v_tru2, v_obind, v_notT, v_notT1, v_andT, v_andT1, v_andT2, v_orT, v_orT1, v_orT2, v_not, v_not1, v_and, v_and1, v_and2, v_or, v_or1, v_or2, v_if, v_if1, v_if2, v_ch, v_ch1, v_ch2, v_ch3, v_ch4, v_ch5, v_D, v_frz_d, v_frz_o, v_frz_s, v_frz_s1, v_frz_s2, v_toD_l, v_nil, v_cons, v_cons1, v_cons2, v_tup, v_tup0, v_tup1, v_tup2, v_tup3, v_lst, v_lst0, v_lst1, v_lst2, v_set, v_set_d, v_set_o, v_set_s, v_set_s1, v_set_s2, v_setS, v_drop, v_drop1, v_ret, v_ret1, v_retN, v_pass, v_seq, v_seq1, v_seq2, v_ifS, v_ifS1, v_ifS2, v_for, v_for1, v_range, v_range1, v_r1, v_r2, v_mut, v_mut_s, v_mut_s1, v_getB, v_getB1, v_kind, v_kind1, v_isL, v_mut2, v_mutE_l, v_mutR, v_append, o_add, o_sub, o_mul, o_mod, o_fdiv, o_lt, o_le, o_gt, o_ge, o_int, o_len_l, o_len_s, o_len_t, o_abs, o_neg, o_it_l, o_it_s, o_it_t, o_item, v_lstN, v_tupN, v_tryAs, v_tryA1, v_tryA2, v_tryB1, v_tryB2, v_allA, v_wpX1, v_wpX2, v_noX1, v_try, v_try1, v_try2, v_isE, v_isE1, v_frzE, v_frzE1, o_ltX_pl, o_min2X_pl, v_fn, v_fn1, o_isN5, v_call, v_call1, v_A, v_aNil, v_aVar, v_aVar1, v_aVar2, v_aD, v_aD1, v_items, v_items_l, v_items_dl, v_items_dt, v_items_ds, v_items_s, v_items_s1, v_items_s2, v_items_s3, v_lstRg, v_dic, v_forH, v_forH1, v_forH2, v_restF, v_put, v_put1, v_put2, v_put3, v_putE, v_putR, v_fs, v_fs1, v_fld, v_fz, v_fz1, v_fz2, v_fz3, v_toD_i, v_toD_m, v_toDd, v_toDo, v_toDwl, v_toDwr, v_yes, v_make, v_make1, v_meth, v_meth2, v_sl, v_sl1, v_sl2, v_sl3, v_none, v_some, v_some1, o_slice_l, o_list_l, o_list_t, o_tup_l, o_tup_t, o_min2, o_max2, o_eq_i, o_ne_i, o_bl_eq, o_bl_ne, o_tru, o_isB, o_notB, o_add_l, o_in_il, o_nin_il, o_in_it, o_in_pl, o_in_pt, o_nin_pt, o_eq_il, o_ne_il, o_eq_pt, o_eq_pl, o_ne_p, o_eq_p, o_sort_pl, o_sort_pm, o_sort_il, v_wipe0, v_wipe1, v_wp, v_wpB, v_wp1, v_wp2, v_wp3, v_wp4, v_wp5, v_nd0, v_nd1, v_nd2, v_ap, v_ap1, v_ap2, v_ap3, v_ap4, v_slots0, v_slots1, v_slots2, v_args0, v_args1, v_args2, v_args3, v_args4, v_upd0, v_upd1, v_upd2, v_mk, v_mk1, v_mk2, v_mk3, v_run, v_end1, v_end2, v_end3, v_end4, v_end6, v_end7, v_end5, v_outs0, v_outs1, v_outs2, v_outs3, v_outs4, v_raise, v_bindx, v_seq3, v_seq4, v_seq5, v_nx1, v_nx2, v_nx3, v_nx4, v_nx5, v_iter, v_iter1, v_tname, v_ts0, v_ts1, v_ts2, v_ttup, v_for0, o_i_ii, o_i_ib, o_i_in, o_i_it, o_i_is, o_i_il, o_i_bi, o_i_bb, o_i_tt, o_i_ti, o_i_tl, o_i_tn, o_i_ts, o_i_tb, o_i_si, o_i_ss, o_i_st, o_i_tp, o_isN1, o_isN2, o_isN3, o_isN4, o_nin1, o_nin2, o_nin3, o_nin4, o_len_p, o_it_p0, o_it_p1, v_at0, v_at1, v_ttp, v_tup0i, v_enum, v_enum1, v_wipeE0, v_aug, v_aug1, v_aug2, List.getElem?_cons_succ, List.getElem?_cons_zero, List.set_cons_succ, List.set_cons_zero, List.length_cons, List.length_nil, Nat.reduceAdd, Nat.reduceLT, List.length_map, decide_true, decide_false, List.map_cons, List.map_nil, List.cons_append, List.nil_append, List.reduceReplicate, Nat.reduceSub, Nat.reduceLeDiff, Nat.reduceBEq, List.contains_cons, List.contains_nil, Bool.or_false, Bool.false_or, Bool.or_true, Bool.true_or, Bool.not_true, Bool.not_false, List.length_set, Nat.zero_add, List.getElem?_nil]
theorem o_isintB (c : Bool) (a b : Int) : fn_is_integer [.d (.bl c), .d (.int a), .d (.int b)] = .ok (.d (.bl false), [some (.d (.bl c)), OI a, OI b]) := by
  simp only [fn_is_integer, code_is_integer, v_var, v_var_d, v_var_o, v_c, v_bind, v_of, v_fin, v_vd, v_vo, v_vs, v_vs_d, v_vs_o, v_wl, v_wm, v_view1, v_view2, v_kv1, v_kv2, v_bin, v_bin1, v_bin2, v_ix, v_un, v_un1, v_test, v_test1, v_tru, v_tru1, v_tru2, v_obind, v_notT, v_notT1, v_andT, v_andT1, v_andT2, v_orT, v_orT1, v_orT2, v_not, v_not1, v_and, v_and1, v_and2, v_or, v_or1, v_or2, v_if, v_if1, v_if2, v_ch, v_ch1, v_ch2, v_ch3, v_ch4, v_ch5, v_D, v_frz_d, v_frz_o, v_frz_s, v_frz_s1, v_frz_s2, v_toD_l, v_nil, v_cons, v_cons1, v_cons2, v_tup, v_tup0, v_tup1, v_tup2, v_tup3, v_lst, v_lst0, v_lst1, v_lst2, v_set, v_set_d, v_set_o, v_set_s, v_set_s1, v_set_s2, v_setS, v_drop, v_drop1, v_ret, v_ret1, v_retN, v_pass, v_seq, v_seq1, v_seq2, v_ifS, v_ifS1, v_ifS2, v_for, v_for1, v_range, v_range1, v_r1, v_r2, v_mut, v_mut_s, v_mut_s1, v_getB, v_getB1, v_kind, v_kind1, v_isL, v_mut2, v_mutE_l, v_mutR, v_append, o_add, o_sub, o_mul, o_mod, o_fdiv, o_lt, o_le, o_gt, o_ge, o_int, o_len_l, o_len_s, o_len_t, o_abs, o_neg, o_it_l, o_it_s, o_it_t, o_item, v_lstN, v_tupN, v_tryAs, v_tryA1, v_tryA2, v_tryB1, v_tryB2, v_allA, v_wpX1, v_wpX2, v_noX1, v_try, v_try1, v_try2, v_isE, v_isE1, v_frzE, v_frzE1, o_ltX_pl, o_min2X_pl, v_fn, v_fn1, o_isN5, v_call, v_call1, v_A, v_aNil, v_aVar, v_aVar1, v_aVar2, v_aD, v_aD1, v_items, v_items_l, v_items_dl, v_items_dt, v_items_ds, v_items_s, v_items_s1, v_items_s2, v_items_s3, v_lstRg, v_dic, v_forH, v_forH1, v_forH2, v_restF, v_put, v_put1, v_put2, v_put3, v_putE, v_putR, v_fs, v_fs1, v_fld, v_fz, v_fz1, v_fz2, v_fz3, v_toD_i, v_toD_m, v_toDd, v_toDo, v_toDwl, v_toDwr, v_yes, v_make, v_make1, v_meth, v_meth2, v_sl, v_sl1, v_sl2, v_sl3, v_none, v_some, v_some1, o_slice_l, o_list_l, o_list_t, o_tup_l, o_tup_t, o_min2, o_max2, o_eq_i, o_ne_i, o_bl_eq, o_bl_ne, o_tru, o_isB, o_notB, o_add_l, o_in_il, o_nin_il, o_in_it, o_in_pl, o_in_pt, o_nin_pt, o_eq_il, o_ne_il, o_eq_pt, o_eq_pl, o_ne_p, o_eq_p, o_sort_pl, o_sort_pm, o_sort_il, v_wipe0, v_wipe1, v_wp, v_wpB, v_wp1, v_wp2, v_wp3, v_wp4, v_wp5, v_nd0, v_nd1, v_nd2, v_ap, v_ap1, v_ap2, v_ap3, v_ap4, v_slots0, v_slots1, v_slots2, v_args0, v_args1, v_args2, v_args3, v_args4, v_upd0, v_upd1, v_upd2, v_mk, v_mk1, v_mk2, v_mk3, v_run, v_end1, v_end2, v_end3, v_end4, v_end6, v_end7, v_end5, v_outs0, v_outs1, v_outs2, v_outs3, v_outs4, v_raise, v_bindx, v_seq3, v_seq4, v_seq5, v_nx1, v_nx2, v_nx3, v_nx4, v_nx5, v_iter, v_iter1, v_tname, v_ts0, v_ts1, v_ts2, v_ttup, v_for0, o_i_ii, o_i_ib, o_i_in, o_i_it, o_i_is, o_i_il, o_i_bi, o_i_bb, o_i_tt, o_i_ti, o_i_tl, o_i_tn, o_i_ts, o_i_tb, o_i_si, o_i_ss, o_i_st, o_i_tp, o_isN1, o_isN2, o_isN3, o_isN4, o_nin1, o_nin2, o_nin3, o_nin4, o_len_p, o_it_p0, o_it_p1, v_at0, v_at1, v_ttp, v_tup0i, v_enum, v_enum1, v_wipeE0, v_aug, v_aug1, v_aug2, List.getElem?_cons_succ, List.getElem?_cons_zero, List.set_cons_succ, List.set_cons_zero, List.length_cons, List.length_nil, Nat.reduceAdd, Nat.reduceLT, List.length_map, decide_true, decide_false, List.map_cons, List.map_nil, List.cons_append, List.nil_append, List.reduceReplicate, Nat.reduceSub, Nat.reduceLeDiff, Nat.reduceBEq, List.contains_cons, List.contains_nil, Bool.or_false, Bool.false_or, Bool.or_true, Bool.true_or, Bool.not_true, Bool.not_false, List.length_set, Nat.zero_add, List.getElem?_nil]
theorem o_isedge (p : Int × Int) (n : Int) : fn__is_edge [.d (pD p), .d (.int n)] = .ok (.d (.bl (decide (0 ≤ p.1 ∧ p.1 ≤ n - 1 ∧ 0 ≤ p.2 ∧ p.2 ≤ n - 1 ∧ p.1 < p.2))), [some (.d (pD p)), OI n]) := by
  have e : ∀ c : Bool, c = decide (0 ≤ p.1 ∧ p.1 ≤ n - 1 ∧ 0 ≤ p.2 ∧ p.2 ≤ n - 1 ∧ p.1 < p.2) → (Out.ok (AV.d (D.bl c), [some (SV.d (pD p)), OI n]) : Out (AV × Env)) = Out.ok (AV.d (D.bl (decide (0 ≤ p.1 ∧ p.1 ≤ n - 1 ∧ 0 ≤ p.2 ∧ p.2 ≤ n - 1 ∧ p.1 < p.2))), [some (SV.d (pD p)), OI n]) := by rintro c rfl; rfl
  by_cases h1 : (decide (0 ≤ p.1) && decide (p.1 ≤ n - 1)) = true
  · by_cases h2 : (decide (0 ≤ p.2) && decide (p.2 ≤ n - 1)) = true
    · simp only [fn__is_edge, code__is_edge, v_var, v_var_d, v_var_o, v_c, v_bind, v_of, v_fin, v_vd, v_vo, v_vs, v_vs_d, v_vs_o, v_wl, v_wm, v_view1, v_view2, v_kv1, v_kv2, v_bin, v_bin1, v_bin2, v_ix, v_un, v_un1, v_test, v_test1, v_tru, v_tru1, v_tru2, v_obind, v_notT, v_notT1, v_andT, v_andT1, v_andT2, v_orT, v_orT1, v_orT2, v_not, v_not1, v_and, v_and1, v_and2, v_or, v_or1, v_or2, v_if, v_if1, v_if2, v_ch, v_ch1, v_ch2, v_ch3, v_ch4, v_ch5, v_D, v_frz_d, v_frz_o, v_frz_s, v_frz_s1, v_frz_s2, v_toD_l, v_nil, v_cons, v_cons1, v_cons2, v_tup, v_tup0, v_tup1, v_tup2, v_tup3, v_lst, v_lst0, v_lst1, v_lst2, v_set, v_set_d, v_set_o, v_set_s, v_set_s1, v_set_s2, v_setS, v_drop, v_drop1, v_ret, v_ret1, v_retN, v_pass, v_seq, v_seq1, v_seq2, v_ifS, v_ifS1, v_ifS2, v_for, v_for1, v_range, v_range1, v_r1, v_r2, v_mut, v_mut_s, v_mut_s1, v_getB, v_getB1, v_kind, v_kind1, v_isL, v_mut2, v_mutE_l, v_mutR, v_append, o_add, o_sub, o_mul, o_mod, o_fdiv, o_lt, o_le, o_gt, o_ge, o_int, o_len_l, o_len_s, o_len_t, o_abs, o_neg, o_it_l, o_it_s, o_it_t, o_item, v_lstN, v_tupN, v_tryAs, v_tryA1, v_tryA2, v_tryB1, v_tryB2, v_allA, v_wpX1, v_wpX2, v_noX1, v_try, v_try1, v_try2, v_isE, v_isE1, v_frzE, v_frzE1, o_ltX_pl, o_min2X_pl, v_fn, v_fn1, o_isN5, v_call, v_call1, v_A, v_aNil, v_aVar, v_aVar1, v_aVar2, v_aD, v_aD1, v_items, v_items_l, v_items_dl, v_items_dt, v_items_ds, v_items_s, v_items_s1, v_items_s2, v_items_s3, v_lstRg, v_dic, v_forH, v_forH1, v_forH2, v_restF, v_put, v_put1, v_put2, v_put3, v_putE, v_putR, v_fs, v_fs1, v_fld, v_fz, v_fz1, v_fz2, v_fz3, v_toD_i, v_toD_m, v_toDd, v_toDo, v_toDwl, v_toDwr, v_yes, v_make, v_make1, v_meth, v_meth2, v_sl, v_sl1, v_sl2, v_sl3, v_none, v_some, v_some1, o_slice_l, o_list_l, o_list_t, o_tup_l, o_tup_t, o_min2, o_max2, o_eq_i, o_ne_i, o_bl_eq, o_bl_ne, o_tru, o_isB, o_notB, o_add_l, o_in_il, o_nin_il, o_in_it, o_in_pl, o_in_pt, o_nin_pt, o_eq_il, o_ne_il, o_eq_pt, o_eq_pl, o_ne_p, o_eq_p, o_sort_pl, o_sort_pm, o_sort_il, v_wipe0, v_wipe1, v_wp, v_wpB, v_wp1, v_wp2, v_wp3, v_wp4, v_wp5, v_nd0, v_nd1, v_nd2, v_ap, v_ap1, v_ap2, v_ap3, v_ap4, v_slots0, v_slots1, v_slots2, v_args0, v_args1, v_args2, v_args3, v_args4, v_upd0, v_upd1, v_upd2, v_mk, v_mk1, v_mk2, v_mk3, v_run, v_end1, v_end2, v_end3, v_end4, v_end6, v_end7, v_end5, v_outs0, v_outs1, v_outs2, v_outs3, v_outs4, v_raise, v_bindx, v_seq3, v_seq4, v_seq5, v_nx1, v_nx2, v_nx3, v_nx4, v_nx5, v_iter, v_iter1, v_tname, v_ts0, v_ts1, v_ts2, v_ttup, v_for0, o_i_ii, o_i_ib, o_i_in, o_i_it, o_i_is, o_i_il, o_i_bi, o_i_bb, o_i_tt, o_i_ti, o_i_tl, o_i_tn, o_i_ts, o_i_tb, o_i_si, o_i_ss, o_i_st, o_i_tp, o_isN1, o_isN2, o_isN3, o_isN4, o_nin1, o_nin2, o_nin3, o_nin4, o_len_p, o_it_p0, o_it_p1, v_at0, v_at1, v_ttp, v_tup0i, v_enum, v_enum1, v_wipeE0, v_aug, v_aug1, v_aug2, List.getElem?_cons_succ, List.getElem?_cons_zero, List.set_cons_succ, List.set_cons_zero, List.length_cons, List.length_nil, Nat.reduceAdd, Nat.reduceLT, List.length_map, decide_true, decide_false, List.map_cons, List.map_nil, List.cons_append, List.nil_append, List.reduceReplicate, Nat.reduceSub, Nat.reduceLeDiff, Nat.reduceBEq, List.contains_cons, List.contains_nil, Bool.or_false, Bool.false_or, Bool.or_true, Bool.true_or, Bool.not_true, Bool.not_false, List.length_set, Nat.zero_add, List.getElem?_nil, o_isint, h1, h2, decide_eq_true_eq, reduceCtorEq]
      refine e _ ?_
      simp only [Bool.and_eq_true, decide_eq_true_eq] at h1 h2
      simp [h1.1, h1.2, h2.1, h2.2]
    · simp only [Bool.not_eq_true] at h2
      simp only [fn__is_edge, code__is_edge, v_var, v_var_d, v_var_o, v_c, v_bind, v_of, v_fin, v_vd, v_vo, v_vs, v_vs_d, v_vs_o, v_wl, v_wm, v_view1, v_view2, v_kv1, v_kv2, v_bin, v_bin1, v_bin2, v_ix, v_un, v_un1, v_test, v_test1, v_tru, v_tru1, v_tru2, v_obind, v_notT, v_notT1, v_andT, v_andT1, v_andT2, v_orT, v_orT1, v_orT2, v_not, v_not1, v_and, v_and1, v_and2, v_or, v_or1, v_or2, v_if, v_if1, v_if2, v_ch, v_ch1, v_ch2, v_ch3, v_ch4, v_ch5, v_D, v_frz_d, v_frz_o, v_frz_s, v_frz_s1, v_frz_s2, v_toD_l, v_nil, v_cons, v_cons1, v_cons2, v_tup, v_tup0, v_tup1, v_tup2, v_tup3, v_lst, v_lst0, v_lst1, v_lst2, v_set, v_set_d, v_set_o, v_set_s, v_set_s1, v_set_s2, v_setS, v_drop, v_drop1, v_ret, v_ret1, v_retN, v_pass, v_seq, v_seq1, v_seq2, v_ifS, v_ifS1, v_ifS2, v_for, v_for1, v_range, v_range1, v_r1, v_r2, v_mut, v_mut_s, v_mut_s1, v_getB, v_getB1, v_kind, v_kind1, v_isL, v_mut2, v_mutE_l, v_mutR, v_append, o_add, o_sub, o_mul, o_mod, o_fdiv, o_lt, o_le, o_gt, o_ge, o_int, o_len_l, o_len_s, o_len_t, o_abs, o_neg, o_it_l, o_it_s, o_it_t, o_item, v_lstN, v_tupN, v_tryAs, v_tryA1, v_tryA2, v_tryB1, v_tryB2, v_allA, v_wpX1, v_wpX2, v_noX1, v_try, v_try1, v_try2, v_isE, v_isE1, v_frzE, v_frzE1, o_ltX_pl, o_min2X_pl, v_fn, v_fn1, o_isN5, v_call, v_call1, v_A, v_aNil, v_aVar, v_aVar1, v_aVar2, v_aD, v_aD1, v_items, v_items_l, v_items_dl, v_items_dt, v_items_ds, v_items_s, v_items_s1, v_items_s2, v_items_s3, v_lstRg, v_dic, v_forH, v_forH1, v_forH2, v_restF, v_put, v_put1, v_put2, v_put3, v_putE, v_putR, v_fs, v_fs1, v_fld, v_fz, v_fz1, v_fz2, v_fz3, v_toD_i, v_toD_m, v_toDd, v_toDo, v_toDwl, v_toDwr, v_yes, v_make, v_make1, v_meth, v_meth2, v_sl, v_sl1, v_sl2, v_sl3, v_none, v_some, v_some1, o_slice_l, o_list_l, o_list_t, o_tup_l, o_tup_t, o_min2, o_max2, o_eq_i, o_ne_i, o_bl_eq, o_bl_ne, o_tru, o_isB, o_notB, o_add_l, o_in_il, o_nin_il, o_in_it, o_in_pl, o_in_pt, o_nin_pt, o_eq_il, o_ne_il, o_eq_pt, o_eq_pl, o_ne_p, o_eq_p, o_sort_pl, o_sort_pm, o_sort_il, v_wipe0, v_wipe1, v_wp, v_wpB, v_wp1, v_wp2, v_wp3, v_wp4, v_wp5, v_nd0, v_nd1, v_nd2, v_ap, v_ap1, v_ap2, v_ap3, v_ap4, v_slots0, v_slots1, v_slots2, v_args0, v_args1, v_args2, v_args3, v_args4, v_upd0, v_upd1, v_upd2, v_mk, v_mk1, v_mk2, v_mk3, v_run, v_end1, v_end2, v_end3, v_end4, v_end6, v_end7, v_end5, v_outs0, v_outs1, v_outs2, v_outs3, v_outs4, v_raise, v_bindx, v_seq3, v_seq4, v_seq5, v_nx1, v_nx2, v_nx3, v_nx4, v_nx5, v_iter, v_iter1, v_tname, v_ts0, v_ts1, v_ts2, v_ttup, v_for0, o_i_ii, o_i_ib, o_i_in, o_i_it, o_i_is, o_i_il, o_i_bi, o_i_bb, o_i_tt, o_i_ti, o_i_tl, o_i_tn, o_i_ts, o_i_tb, o_i_si, o_i_ss, o_i_st, o_i_tp, o_isN1, o_isN2, o_isN3, o_isN4, o_nin1, o_nin2, o_nin3, o_nin4, o_len_p, o_it_p0, o_it_p1, v_at0, v_at1, v_ttp, v_tup0i, v_enum, v_enum1, v_wipeE0, v_aug, v_aug1, v_aug2, List.getElem?_cons_succ, List.getElem?_cons_zero, List.set_cons_succ, List.set_cons_zero, List.length_cons, List.length_nil, Nat.reduceAdd, Nat.reduceLT, List.length_map, decide_true, decide_false, List.map_cons, List.map_nil, List.cons_append, List.nil_append, List.reduceReplicate, Nat.reduceSub, Nat.reduceLeDiff, Nat.reduceBEq, List.contains_cons, List.contains_nil, Bool.or_false, Bool.false_or, Bool.or_true, Bool.true_or, Bool.not_true, Bool.not_false, List.length_set, Nat.zero_add, List.getElem?_nil, o_isint, h1, h2]
      refine e _ ?_
      simp only [Bool.and_eq_true, decide_eq_true_eq, Bool.and_eq_false_iff, decide_eq_false_iff_not] at h1 h2
      simp only [Bool.false_eq, decide_eq_false_iff_not]
      omega
  · simp only [Bool.not_eq_true] at h1
    simp only [fn__is_edge, code__is_edge, v_var, v_var_d, v_var_o, v_c, v_bind, v_of, v_fin, v_vd, v_vo, v_vs, v_vs_d, v_vs_o, v_wl, v_wm, v_view1, v_view2, v_kv1, v_kv2, v_bin, v_bin1, v_bin2, v_ix, v_un, v_un1, v_test, v_test1, v_tru, v_tru1, v_tru2, v_obind, v_notT, v_notT1, v_andT, v_andT1, v_andT2, v_orT, v_orT1, v_orT2, v_not, v_not1, v_and, v_and1, v_and2, v_or, v_or1, v_or2, v_if, v_if1, v_if2, v_ch, v_ch1, v_ch2, v_ch3, v_ch4, v_ch5, v_D, v_frz_d, v_frz_o, v_frz_s, v_frz_s1, v_frz_s2, v_toD_l, v_nil, v_cons, v_cons1, v_cons2, v_tup, v_tup0, v_tup1, v_tup2, v_tup3, v_lst, v_lst0, v_lst1, v_lst2, v_set, v_set_d, v_set_o, v_set_s, v_set_s1, v_set_s2, v_setS, v_drop, v_drop1, v_ret, v_ret1, v_retN, v_pass, v_seq, v_seq1, v_seq2, v_ifS, v_ifS1, v_ifS2, v_for, v_for1, v_range, v_range1, v_r1, v_r2, v_mut, v_mut_s, v_mut_s1, v_getB, v_getB1, v_kind, v_kind1, v_isL, v_mut2, v_mutE_l, v_mutR, v_append, o_add, o_sub, o_mul, o_mod, o_fdiv, o_lt, o_le, o_gt, o_ge, o_int, o_len_l, o_len_s, o_len_t, o_abs, o_neg, o_it_l, o_it_s, o_it_t, o_item, v_lstN, v_tupN, v_tryAs, v_tryA1, v_tryA2, v_tryB1, v_tryB2, v_allA, v_wpX1, v_wpX2, v_noX1, v_try, v_try1, v_try2, v_isE, v_isE1, v_frzE, v_frzE1, o_ltX_pl, o_min2X_pl, v_fn, v_fn1, o_isN5, v_call, v_call1, v_A, v_aNil, v_aVar, v_aVar1, v_aVar2, v_aD, v_aD1, v_items, v_items_l, v_items_dl, v_items_dt, v_items_ds, v_items_s, v_items_s1, v_items_s2, v_items_s3, v_lstRg, v_dic, v_forH, v_forH1, v_forH2, v_restF, v_put, v_put1, v_put2, v_put3, v_putE, v_putR, v_fs, v_fs1, v_fld, v_fz, v_fz1, v_fz2, v_fz3, v_toD_i, v_toD_m, v_toDd, v_toDo, v_toDwl, v_toDwr, v_yes, v_make, v_make1, v_meth, v_meth2, v_sl, v_sl1, v_sl2, v_sl3, v_none, v_some, v_some1, o_slice_l, o_list_l, o_list_t, o_tup_l, o_tup_t, o_min2, o_max2, o_eq_i, o_ne_i, o_bl_eq, o_bl_ne, o_tru, o_isB, o_notB, o_add_l, o_in_il, o_nin_il, o_in_it, o_in_pl, o_in_pt, o_nin_pt, o_eq_il, o_ne_il, o_eq_pt, o_eq_pl, o_ne_p, o_eq_p, o_sort_pl, o_sort_pm, o_sort_il, v_wipe0, v_wipe1, v_wp, v_wpB, v_wp1, v_wp2, v_wp3, v_wp4, v_wp5, v_nd0, v_nd1, v_nd2, v_ap, v_ap1, v_ap2, v_ap3, v_ap4, v_slots0, v_slots1, v_slots2, v_args0, v_args1, v_args2, v_args3, v_args4, v_upd0, v_upd1, v_upd2, v_mk, v_mk1, v_mk2, v_mk3, v_run, v_end1, v_end2, v_end3, v_end4, v_end6, v_end7, v_end5, v_outs0, v_outs1, v_outs2, v_outs3, v_outs4, v_raise, v_bindx, v_seq3, v_seq4, v_seq5, v_nx1, v_nx2, v_nx3, v_nx4, v_nx5, v_iter, v_iter1, v_tname, v_ts0, v_ts1, v_ts2, v_ttup, v_for0, o_i_ii, o_i_ib, o_i_in, o_i_it, o_i_is, o_i_il, o_i_bi, o_i_bb, o_i_tt, o_i_ti, o_i_tl, o_i_tn, o_i_ts, o_i_tb, o_i_si, o_i_ss, o_i_st, o_i_tp, o_isN1, o_isN2, o_isN3, o_isN4, o_nin1, o_nin2, o_nin3, o_nin4, o_len_p, o_it_p0, o_it_p1, v_at0, v_at1, v_ttp, v_tup0i, v_enum, v_enum1, v_wipeE0, v_aug, v_aug1, v_aug2, List.getElem?_cons_succ, List.getElem?_cons_zero, List.set_cons_succ, List.set_cons_zero, List.length_cons, List.length_nil, Nat.reduceAdd, Nat.reduceLT, List.length_map, decide_true, decide_false, List.map_cons, List.map_nil, List.cons_append, List.nil_append, List.reduceReplicate, Nat.reduceSub, Nat.reduceLeDiff, Nat.reduceBEq, List.contains_cons, List.contains_nil, Bool.or_false, Bool.false_or, Bool.or_true, Bool.true_or, Bool.not_true, Bool.not_false, List.length_set, Nat.zero_add, List.getElem?_nil, o_isint, h1]
    refine e _ ?_
    simp only [Bool.and_eq_true, decide_eq_true_eq, Bool.and_eq_false_iff, decide_eq_false_iff_not] at h1
    simp only [Bool.false_eq, decide_eq_false_iff_not]
    omega
end K03
namespace K03
open J
def seenW (es : List (Int × Int)) : W0 := .m true (es.map pD) (es.map fun _ => .bl true)
theorem v_seen_view {es : List (Int × Int)} : Own.view (.b (seenW es)) = some (.dic true (es.map pD) (es.map fun _ => .bl true)) := rfl
theorem o_seen_in {p : Int × Int} {es : List (Int × Int)} : inD (pD p) (.dic true (es.map pD) (es.map fun _ => .bl true)) = some (.d (.bl (decide (p ∈ es)))) := w_in_pm (by simp)
theorem v_seen_put {p : Int × Int} {es : List (Int × Int)} (h : p ∉ es) (hl : es.length < lim) : putD (seenW es) (pD p) (.bl true) = some (seenW (es ++ [p])) := by
  rw [show seenW es = .m true (es.map pD) (es.map fun _ => .bl true) from rfl, w_put_pm h hl]
  simp [seenW]
/-- an empty instance -/
abbrev G0 : SV := .o (.i "Graph" [] [])
/-- the state of the first loop -/
def E1 (n : Int) (o2 : Option SV) (es : List (Int × Int)) : Env := [some G0, OI n, o2, some (.o (.b (seenW es))), none, none, none, none, none]
theorem init_b1 {n : Int} {o2 : Option SV} {es : List (Int × Int)} {p : Int × Int} (h : 0 ≤ p.1 ∧ p.1 < p.2 ∧ p.2 < n) (hp : p ∉ es) (hl : es.length < lim) : iter1 (tName 4) b1_Graph_init (pD p) (E1 n o2 es) = .ok (.nx (E1 n o2 (es ++ [p]))) := by
  have a1 : (0 ≤ p.1 ∧ p.1 ≤ n - 1 ∧ 0 ≤ p.2 ∧ p.2 ≤ n - 1 ∧ p.1 < p.2) := by omega
  simp only [b1_Graph_init, E1, v_var, v_var_d, v_var_o, v_c, v_bind, v_of, v_fin, v_vd, v_vo, v_vs, v_vs_d, v_vs_o, v_wl, v_wm, v_view1, v_view2, v_kv1, v_kv2, v_bin, v_bin1, v_bin2, v_ix, v_un, v_un1, v_test, v_test1, v_tru, v_tru1, v_tru2, v_obind, v_notT, v_notT1, v_andT, v_andT1, v_andT2, v_orT, v_orT1, v_orT2, v_not, v_not1, v_and, v_and1, v_and2, v_or, v_or1, v_or2, v_if, v_if1, v_if2, v_ch, v_ch1, v_ch2, v_ch3, v_ch4, v_ch5, v_D, v_frz_d, v_frz_o, v_frz_s, v_frz_s1, v_frz_s2, v_toD_l, v_nil, v_cons, v_cons1, v_cons2, v_tup, v_tup0, v_tup1, v_tup2, v_tup3, v_lst, v_lst0, v_lst1, v_lst2, v_set, v_set_d, v_set_o, v_set_s, v_set_s1, v_set_s2, v_setS, v_drop, v_drop1, v_ret, v_ret1, v_retN, v_pass, v_seq, v_seq1, v_seq2, v_ifS, v_ifS1, v_ifS2, v_for, v_for1, v_range, v_range1, v_r1, v_r2, v_mut, v_mut_s, v_mut_s1, v_getB, v_getB1, v_kind, v_kind1, v_isL, v_mut2, v_mutE_l, v_mutR, v_append, o_add, o_sub, o_mul, o_mod, o_fdiv, o_lt, o_le, o_gt, o_ge, o_int, o_len_l, o_len_s, o_len_t, o_abs, o_neg, o_it_l, o_it_s, o_it_t, o_item, v_lstN, v_tupN, v_tryAs, v_tryA1, v_tryA2, v_tryB1, v_tryB2, v_allA, v_wpX1, v_wpX2, v_noX1, v_try, v_try1, v_try2, v_isE, v_isE1, v_frzE, v_frzE1, o_ltX_pl, o_min2X_pl, v_fn, v_fn1, o_isN5, v_call, v_call1, v_A, v_aNil, v_aVar, v_aVar1, v_aVar2, v_aD, v_aD1, v_items, v_items_l, v_items_dl, v_items_dt, v_items_ds, v_items_s, v_items_s1, v_items_s2, v_items_s3, v_lstRg, v_dic, v_forH, v_forH1, v_forH2, v_restF, v_put, v_put1, v_put2, v_put3, v_putE, v_putR, v_fs, v_fs1, v_fld, v_fz, v_fz1, v_fz2, v_fz3, v_toD_i, v_toD_m, v_toDd, v_toDo, v_toDwl, v_toDwr, v_yes, v_make, v_make1, v_meth, v_meth2, v_sl, v_sl1, v_sl2, v_sl3, v_none, v_some, v_some1, o_slice_l, o_list_l, o_list_t, o_tup_l, o_tup_t, o_min2, o_max2, o_eq_i, o_ne_i, o_bl_eq, o_bl_ne, o_tru, o_isB, o_notB, o_add_l, o_in_il, o_nin_il, o_in_it, o_in_pl, o_in_pt, o_nin_pt, o_eq_il, o_ne_il, o_eq_pt, o_eq_pl, o_ne_p, o_eq_p, o_sort_pl, o_sort_pm, o_sort_il, v_wipe0, v_wipe1, v_wp, v_wpB, v_wp1, v_wp2, v_wp3, v_wp4, v_wp5, v_nd0, v_nd1, v_nd2, v_ap, v_ap1, v_ap2, v_ap3, v_ap4, v_slots0, v_slots1, v_slots2, v_args0, v_args1, v_args2, v_args3, v_args4, v_upd0, v_upd1, v_upd2, v_mk, v_mk1, v_mk2, v_mk3, v_run, v_end1, v_end2, v_end3, v_end4, v_end6, v_end7, v_end5, v_outs0, v_outs1, v_outs2, v_outs3, v_outs4, v_raise, v_bindx, v_seq3, v_seq4, v_seq5, v_nx1, v_nx2, v_nx3, v_nx4, v_nx5, v_iter, v_iter1, v_tname, v_ts0, v_ts1, v_ts2, v_ttup, v_for0, o_i_ii, o_i_ib, o_i_in, o_i_it, o_i_is, o_i_il, o_i_bi, o_i_bb, o_i_tt, o_i_ti, o_i_tl, o_i_tn, o_i_ts, o_i_tb, o_i_si, o_i_ss, o_i_st, o_i_tp, o_isN1, o_isN2, o_isN3, o_isN4, o_nin1, o_nin2, o_nin3, o_nin4, o_len_p, o_it_p0, o_it_p1, v_at0, v_at1, v_ttp, v_tup0i, v_enum, v_enum1, v_wipeE0, v_aug, v_aug1, v_aug2, List.getElem?_cons_succ, List.getElem?_cons_zero, List.set_cons_succ, List.set_cons_zero, List.length_cons, List.length_nil, Nat.reduceAdd, Nat.reduceLT, List.length_map, decide_true, decide_false, List.map_cons, List.map_nil, List.cons_append, List.nil_append, List.reduceReplicate, Nat.reduceSub, Nat.reduceLeDiff, Nat.reduceBEq, List.contains_cons, List.contains_nil, Bool.or_false, Bool.false_or, Bool.or_true, Bool.true_or, Bool.not_true, Bool.not_false, List.length_set, Nat.zero_add, List.getElem?_nil, o_isedge, a1, and_self, v_seen_view, o_seen_in, hp, v_seen_put hp hl]
theorem init_l1 {n : Int} {o2 : Option SV} {es : List (Int × Int)} (g : Good n es) (hl : es.length < lim) : forF (tName 4) b1_Graph_init (es.map pD) (E1 n o2 []) = .ok (.nx (E1 n o2 es)) := by
  refine forF_pre (E1 n o2) fun pre p post e => ?_
  have nd := g.nd
  rw [e] at nd
  refine init_b1 (g.mem p (by rw [e]; simp)) (fun h => ?_) (by rw [e] at hl; simp at hl; omega)
  exact (List.nodup_append.mp nd).2.2 p h p (by simp) rfl
/-- what stands in w's row behind some edges -/
def adj (es : List (Int × Int)) (w : Int) : List Int := es.flatMap fun p => if p.1 = w then [p.2] else if p.2 = w then [p.1] else []
theorem adj_snoc {es : List (Int × Int)} {p : Int × Int} {w : Int} : adj (es ++ [p]) w = adj es w ++ (if p.1 = w then [p.2] else if p.2 = w then [p.1] else []) := by
  simp [adj, List.flatMap_append]
theorem mem_adj {es : List (Int × Int)} {w v : Int} : v ∈ adj es w ↔ (w, v) ∈ es ∨ ((v, w) ∈ es ∧ v ≠ w) := by
  unfold adj
  rw [List.mem_flatMap]
  constructor
  · rintro ⟨⟨a, b⟩, h, hv⟩
    dsimp only at hv
    split at hv
    · rename_i e; subst e; rw [List.mem_singleton] at hv; subst hv; exact .inl h
    · rename_i ne
      split at hv
      · rename_i e; subst e; rw [List.mem_singleton] at hv; subst hv; exact .inr ⟨h, ne⟩
      · cases hv
  · rintro (h | ⟨h, ne⟩)
    · exact ⟨_, h, by simp⟩
    · exact ⟨_, h, by simp [ne]⟩
theorem adj_nodup {es : List (Int × Int)} {w : Int} (h1 : es.Nodup) (h2 : ∀ p ∈ es, p.1 < p.2) : (adj es w).Nodup := by
  induction es with
  | nil => simp [adj]
  | cons p es ih =>
    obtain ⟨nd1, nd2⟩ := List.nodup_cons.mp h1
    have ih' := ih nd2 fun q hq => h2 q (List.mem_cons_of_mem _ hq)
    have hp := h2 p List.mem_cons_self
    show ((if p.1 = w then [p.2] else if p.2 = w then [p.1] else []) ++ adj es w).Nodup
    split
    · rename_i e
      rw [List.singleton_append, List.nodup_cons]
      refine ⟨fun h => ?_, ih'⟩
      rcases mem_adj.mp h with h | ⟨h, _⟩
      · exact nd1 (by rw [← e] at h; exact h)
      · have := h2 _ (List.mem_cons_of_mem _ h); dsimp only at this; omega
    · split
      · rename_i ne e
        rw [List.singleton_append, List.nodup_cons]
        refine ⟨fun h => ?_, ih'⟩
        rcases mem_adj.mp h with h | ⟨h, _⟩
        · have := h2 _ (List.mem_cons_of_mem _ h); dsimp only at this; omega
        · exact nd1 (by rw [← e] at h; exact h)
      · simpa using ih'
theorem nbr_sorted (n : Nat) (es : List (Int × Int)) (u : Int) : (nbr n es u).Pairwise fun a b => leI a b = true := by
  unfold nbr upto
  refine List.Pairwise.filter _ ?_
  rw [List.pairwise_map]
  refine List.pairwise_lt_range.imp fun h => ?_
  simp only [leI, decide_eq_true_eq]; omega
theorem nbr_nodup (n : Nat) (es : List (Int × Int)) (u : Int) : (nbr n es u).Nodup := (upto_nodup n).sublist List.filter_sublist
theorem mem_nbr {n : Nat} {es : List (Int × Int)} {u v : Int} : v ∈ nbr n es u ↔ (0 ≤ v ∧ v < n) ∧ (min u v, max u v) ∈ es := by
  unfold nbr
  rw [List.mem_filter, mem_upto]
  simp
theorem srt_adj {n : Nat} {es : List (Int × Int)} (g : Good n es) (u : Int) : srtI (adj es u) = nbr n es u := by
  refine srtI_eq ?_ (nbr_sorted n es u)
  refine (List.perm_ext_iff_of_nodup (adj_nodup g.nd fun p hp => (g.mem p hp).2.1) (nbr_nodup n es u)).mpr fun v => ?_
  rw [mem_adj, mem_nbr]
  constructor
  · rintro (h | ⟨h, _⟩)
    · have := g.mem _ h; dsimp only at this
      rw [Int.min_eq_left (by omega), Int.max_eq_right (by omega)]
      exact ⟨by omega, h⟩
    · have := g.mem _ h; dsimp only at this
      rw [Int.min_eq_right (by omega), Int.max_eq_left (by omega)]
      exact ⟨by omega, h⟩
  · rintro ⟨h1, h⟩
    have := g.mem _ h; dsimp only at this
    rcases Int.le_total u v with q | q
    · rw [Int.min_eq_left q, Int.max_eq_right q] at h; exact .inl h
    · rw [Int.min_eq_right q, Int.max_eq_left q] at h this; exact .inr ⟨h, by omega⟩
def rowsL (n : Nat) (es : List (Int × Int)) : List (List D) := (upto n).map fun w => (adj es w).map .int
theorem rowsL_get {n : Nat} {es : List (Int × Int)} {k : Nat} (h : k < n) : (rowsL n es)[k]? = some ((adj es k).map .int) := by
  simp [rowsL, upto, h]
theorem rowsL_set {n : Nat} {es : List (Int × Int)} {u v : Nat} (hu : u < v) (hv : v < n) :
    ((rowsL n es).set u ((adj es u).map D.int ++ [.int v])).set v ((adj es v).map D.int ++ [.int u]) = rowsL n (es ++ [((u : Int), (v : Int))]) := by
  refine List.ext_getElem? fun k => ?_
  by_cases hk : k < n
  · rw [rowsL_get hk, adj_snoc]
    have hl : (rowsL n es).length = n := by simp [rowsL, upto]
    by_cases h1 : v = k
    · subst h1
      rw [List.getElem?_set_self (by simp [hl, hk])]
      have : ¬ ((u : Int) = (v : Int)) := by omega
      simp [this]
    · rw [List.getElem?_set_ne h1]
      by_cases h2 : u = k
      · subst h2
        rw [List.getElem?_set_self (by simp [hl, hk])]
        simp
      · rw [List.getElem?_set_ne h2, rowsL_get hk]
        have a1 : ¬ ((u : Int) = (k : Int)) := by omega
        have a2 : ¬ ((v : Int) = (k : Int)) := by omega
        simp [a1, a2]
  · rw [List.getElem?_eq_none (by simp [rowsL, upto]; omega), List.getElem?_eq_none (by simp [rowsL, upto]; omega)]
theorem set_near {a b c d : FV} : setFV ["size", "edges", "_near"] [a, b, c] "_near" d = [a, b, d] := rfl
/-- the state of the second loop -/
def E2 (n : Nat) (t : D) (o2 : Option SV) (es : List (Int × Int)) : Env := [some (.o (.i "Graph" ["size", "edges", "_near"] [.d (.int n), .d t, .o (.ll (rowsL n es))])), OI n, o2, none, none, none, none, none, none]
theorem adj_len {es : List (Int × Int)} {w : Int} : (adj es w).length ≤ es.length := by
  induction es with
  | nil => simp [adj]
  | cons p es ih =>
    show ((if p.1 = w then [p.2] else if p.2 = w then [p.1] else []) ++ adj es w).length ≤ _
    rw [List.length_append, List.length_cons]
    split
    · simp; omega
    · split <;> simp <;> omega
theorem init_b2 {n : Nat} {t : D} {o2 : Option SV} {es : List (Int × Int)} {p : Int × Int} (h : 0 ≤ p.1 ∧ p.1 < p.2 ∧ p.2 < n) (hl : es.length + 1 < lim) : iter1 (tTup (tsCons (tName 5) (tsCons (tName 6) tsNil))) b2_Graph_init (pD p) (E2 n t o2 es) = .ok (.nx (E2 n t o2 (es ++ [p]))) := by
  obtain ⟨u, v⟩ := p
  obtain ⟨u, rfl⟩ : ∃ k : Nat, u = k := ⟨u.toNat, by dsimp only at h; omega⟩
  obtain ⟨v, rfl⟩ : ∃ k : Nat, v = k := ⟨v.toNat, by dsimp only at h; omega⟩
  have hu : u < v := by dsimp only at h; omega
  have hv : v < n := by dsimp only at h; omega
  have l1 : ∀ w : Int, (adj es w).length < lim := fun w => by have := adj_len (es := es) (w := w); omega
  have r1 := w_rowapp (ρ := [some (.o (.i "Graph" ["size", "edges", "_near"] [.d (.int n), .d t, .o (.ll (rowsL n es))])), OI n, o2, none, none, OI u, OI v, none, none]) (fo := cFld ["Graph"] true "_near" (cVar 0)) (fq := qVar 5) (fl := qCons (qVar 6) qNil) (j := 0) (k := u) (x := .int v) rfl rfl rfl rfl (rowsL_get (es := es) (show u < n by omega)) rfl (by simpa using l1 u)
  have r2 := w_rowapp (ρ := [some (.o (.i "Graph" ["size", "edges", "_near"] [.d (.int n), .d t, .o (.ll ((rowsL n es).set u ((adj es u).map D.int ++ [.int v])))])), OI n, o2, none, none, OI u, OI v, none, none]) (fo := cFld ["Graph"] true "_near" (cVar 0)) (fq := qVar 6) (fl := qCons (qVar 5) qNil) (j := 0) (k := v) (x := .int u) rfl rfl rfl rfl (by rw [List.getElem?_set_ne (by omega)]; exact rowsL_get (es := es) hv) rfl (by simpa using l1 v)
  simp only [set_near, List.set_cons_zero] at r1
  simp only [set_near, rowsL_set hu hv, List.set_cons_zero] at r2
  simp only [b2_Graph_init, E2, v_var, v_var_d, v_var_o, v_c, v_bind, v_of, v_fin, v_vd, v_vo, v_vs, v_vs_d, v_vs_o, v_wl, v_wm, v_view1, v_view2, v_kv1, v_kv2, v_bin, v_bin1, v_bin2, v_ix, v_un, v_un1, v_test, v_test1, v_tru, v_tru1, v_tru2, v_obind, v_notT, v_notT1, v_andT, v_andT1, v_andT2, v_orT, v_orT1, v_orT2, v_not, v_not1, v_and, v_and1, v_and2, v_or, v_or1, v_or2, v_if, v_if1, v_if2, v_ch, v_ch1, v_ch2, v_ch3, v_ch4, v_ch5, v_D, v_frz_d, v_frz_o, v_frz_s, v_frz_s1, v_frz_s2, v_toD_l, v_nil, v_cons, v_cons1, v_cons2, v_tup, v_tup0, v_tup1, v_tup2, v_tup3, v_lst, v_lst0, v_lst1, v_lst2, v_set, v_set_d, v_set_o, v_set_s, v_set_s1, v_set_s2, v_setS, v_drop, v_drop1, v_ret, v_ret1, v_retN, v_pass, v_seq, v_seq1, v_seq2, v_ifS, v_ifS1, v_ifS2, v_for, v_for1, v_range, v_range1, v_r1, v_r2, v_mut, v_mut_s, v_mut_s1, v_getB, v_getB1, v_kind, v_kind1, v_isL, v_mut2, v_mutE_l, v_mutR, v_append, o_add, o_sub, o_mul, o_mod, o_fdiv, o_lt, o_le, o_gt, o_ge, o_int, o_len_l, o_len_s, o_len_t, o_abs, o_neg, o_it_l, o_it_s, o_it_t, o_item, v_lstN, v_tupN, v_tryAs, v_tryA1, v_tryA2, v_tryB1, v_tryB2, v_allA, v_wpX1, v_wpX2, v_noX1, v_try, v_try1, v_try2, v_isE, v_isE1, v_frzE, v_frzE1, o_ltX_pl, o_min2X_pl, v_fn, v_fn1, o_isN5, v_call, v_call1, v_A, v_aNil, v_aVar, v_aVar1, v_aVar2, v_aD, v_aD1, v_items, v_items_l, v_items_dl, v_items_dt, v_items_ds, v_items_s, v_items_s1, v_items_s2, v_items_s3, v_lstRg, v_dic, v_forH, v_forH1, v_forH2, v_restF, v_put, v_put1, v_put2, v_put3, v_putE, v_putR, v_fs, v_fs1, v_fld, v_fz, v_fz1, v_fz2, v_fz3, v_toD_i, v_toD_m, v_toDd, v_toDo, v_toDwl, v_toDwr, v_yes, v_make, v_make1, v_meth, v_meth2, v_sl, v_sl1, v_sl2, v_sl3, v_none, v_some, v_some1, o_slice_l, o_list_l, o_list_t, o_tup_l, o_tup_t, o_min2, o_max2, o_eq_i, o_ne_i, o_bl_eq, o_bl_ne, o_tru, o_isB, o_notB, o_add_l, o_in_il, o_nin_il, o_in_it, o_in_pl, o_in_pt, o_nin_pt, o_eq_il, o_ne_il, o_eq_pt, o_eq_pl, o_ne_p, o_eq_p, o_sort_pl, o_sort_pm, o_sort_il, v_wipe0, v_wipe1, v_wp, v_wpB, v_wp1, v_wp2, v_wp3, v_wp4, v_wp5, v_nd0, v_nd1, v_nd2, v_ap, v_ap1, v_ap2, v_ap3, v_ap4, v_slots0, v_slots1, v_slots2, v_args0, v_args1, v_args2, v_args3, v_args4, v_upd0, v_upd1, v_upd2, v_mk, v_mk1, v_mk2, v_mk3, v_run, v_end1, v_end2, v_end3, v_end4, v_end6, v_end7, v_end5, v_outs0, v_outs1, v_outs2, v_outs3, v_outs4, v_raise, v_bindx, v_seq3, v_seq4, v_seq5, v_nx1, v_nx2, v_nx3, v_nx4, v_nx5, v_iter, v_iter1, v_tname, v_ts0, v_ts1, v_ts2, v_ttup, v_for0, o_i_ii, o_i_ib, o_i_in, o_i_it, o_i_is, o_i_il, o_i_bi, o_i_bb, o_i_tt, o_i_ti, o_i_tl, o_i_tn, o_i_ts, o_i_tb, o_i_si, o_i_ss, o_i_st, o_i_tp, o_isN1, o_isN2, o_isN3, o_isN4, o_nin1, o_nin2, o_nin3, o_nin4, o_len_p, o_it_p0, o_it_p1, v_at0, v_at1, v_ttp, v_tup0i, v_enum, v_enum1, v_wipeE0, v_aug, v_aug1, v_aug2, List.getElem?_cons_succ, List.getElem?_cons_zero, List.set_cons_succ, List.set_cons_zero, List.length_cons, List.length_nil, Nat.reduceAdd, Nat.reduceLT, List.length_map, decide_true, decide_false, List.map_cons, List.map_nil, List.cons_append, List.nil_append, List.reduceReplicate, Nat.reduceSub, Nat.reduceLeDiff, Nat.reduceBEq, List.contains_cons, List.contains_nil, Bool.or_false, Bool.false_or, Bool.or_true, Bool.true_or, Bool.not_true, Bool.not_false, List.length_set, Nat.zero_add, List.getElem?_nil, r1, r2]
theorem init_l2 {n : Nat} {t : D} {o2 : Option SV} {es : List (Int × Int)} (g : ∀ p ∈ es, 0 ≤ p.1 ∧ p.1 < p.2 ∧ p.2 < n) (hl : es.length + 1 < lim) : forF (tTup (tsCons (tName 5) (tsCons (tName 6) tsNil))) b2_Graph_init (es.map pD) (E2 n t o2 []) = .ok (.nx (E2 n t o2 es)) := by
  refine forF_pre (E2 n t o2) fun pre p post e => ?_
  refine init_b2 (g p (by rw [e]; simp)) (by rw [e] at hl; simp at hl; omega)
end K03
namespace K03
open J
section
variable {x y z : D} {w : W0} {ρ : Env} {a b c : FV} {k : Bool}
theorem v_fs_size : kFS2 ["Graph"] "size" (.d x) (.s 0, some (.o (.i "Graph" [] [])) :: ρ) = .ok (.nx (some (.o (.i "Graph" ["size"] [.d x])) :: ρ)) := w_fs_d (ns := []) (fs := []) rfl (by decide) (by decide)
theorem v_fs_edges : kFS2 ["Graph"] "edges" (.d y) (.s 0, some (.o (.i "Graph" ["size"] [a])) :: ρ) = .ok (.nx (some (.o (.i "Graph" ["size", "edges"] [a, .d y])) :: ρ)) := w_fs_d (ns := ["size"]) (fs := [a]) rfl (by decide) (by decide)
theorem v_fs_near : kFS2 ["Graph"] "_near" (.o (.b w)) (.s 0, some (.o (.i "Graph" ["size", "edges"] [a, b])) :: ρ) = .ok (.nx (some (.o (.i "Graph" ["size", "edges", "_near"] [a, b, .o w])) :: ρ)) := w_fs_o (ns := ["size", "edges"]) (fs := [a, b]) rfl (by decide) (by decide)
theorem v_fs_near2 : kFS2 ["Graph"] "_near" (.o (.b w)) (.s 0, some (.o (.i "Graph" ["size", "edges", "_near"] [a, b, c])) :: ρ) = .ok (.nx (some (.o (.i "Graph" ["size", "edges", "_near"] [a, b, .o w])) :: ρ)) := w_fs_o (ns := ["size", "edges", "_near"]) (fs := [a, b, c]) rfl (by decide) (by decide)
theorem v_fld_edges : kFld ["Graph"] k "edges" (.s 0, some (.o (.i "Graph" ["size", "edges", "_near"] [a, .d y, c])) :: ρ) = .ok (.d y, some (.o (.i "Graph" ["size", "edges", "_near"] [a, .d y, c])) :: ρ) := w_fld_d (ns := ["size", "edges", "_near"]) (fs := [a, .d y, c]) rfl (by decide) rfl
end
theorem near_rows {n : Nat} {o1 o2 : Option SV} {a b : FV} (hn : n ≤ 60) : cLcR (cRange rItems1 (cCons (cD (cVar 1)) cNil)) [7] (tName 7) cYes (cLst cNil) [some (.o (.i "Graph" ["size", "edges"] [a, b])), OI n, o1, o2, none, none, none, none, none] = .ok (.o (.b (.ll (rowsL n []))), [some (.o (.i "Graph" ["size", "edges"] [a, b])), OI n, o1, o2, none, none, none, none, none]) := by
  have q : (rangeD 0 n).map (fun _ => ([] : List D)) = rowsL n [] := by
    unfold rowsL rangeD upto
    rw [List.map_map, List.map_map]
    rfl
  rw [← q]
  exact w_lcR (g := tName 7) (vs := [7]) (ds := rangeD 0 n) (ρ' := [some (.o (.i "Graph" ["size", "edges"] [a, b])), OI n, o1, o2, none, none, none, none, none]) (by simp only [v_var, v_var_d, v_var_o, v_c, v_bind, v_of, v_fin, v_vd, v_vo, v_vs, v_vs_d, v_vs_o, v_wl, v_wm, v_view1, v_view2, v_kv1, v_kv2, v_bin, v_bin1, v_bin2, v_ix, v_un, v_un1, v_test, v_test1, v_tru, v_tru1, v_tru2, v_obind, v_notT, v_notT1, v_andT, v_andT1, v_andT2, v_orT, v_orT1, v_orT2, v_not, v_not1, v_and, v_and1, v_and2, v_or, v_or1, v_or2, v_if, v_if1, v_if2, v_ch, v_ch1, v_ch2, v_ch3, v_ch4, v_ch5, v_D, v_frz_d, v_frz_o, v_frz_s, v_frz_s1, v_frz_s2, v_toD_l, v_nil, v_cons, v_cons1, v_cons2, v_tup, v_tup0, v_tup1, v_tup2, v_tup3, v_lst, v_lst0, v_lst1, v_lst2, v_set, v_set_d, v_set_o, v_set_s, v_set_s1, v_set_s2, v_setS, v_drop, v_drop1, v_ret, v_ret1, v_retN, v_pass, v_seq, v_seq1, v_seq2, v_ifS, v_ifS1, v_ifS2, v_for, v_for1, v_range, v_range1, v_r1, v_r2, v_mut, v_mut_s, v_mut_s1, v_getB, v_getB1, v_kind, v_kind1, v_isL, v_mut2, v_mutE_l, v_mutR, v_append, o_add, o_sub, o_mul, o_mod, o_fdiv, o_lt, o_le, o_gt, o_ge, o_int, o_len_l, o_len_s, o_len_t, o_abs, o_neg, o_it_l, o_it_s, o_it_t, o_item, v_lstN, v_tupN, v_tryAs, v_tryA1, v_tryA2, v_tryB1, v_tryB2, v_allA, v_wpX1, v_wpX2, v_noX1, v_try, v_try1, v_try2, v_isE, v_isE1, v_frzE, v_frzE1, o_ltX_pl, o_min2X_pl, v_fn, v_fn1, o_isN5, v_call, v_call1, v_A, v_aNil, v_aVar, v_aVar1, v_aVar2, v_aD, v_aD1, v_items, v_items_l, v_items_dl, v_items_dt, v_items_ds, v_items_s, v_items_s1, v_items_s2, v_items_s3, v_lstRg, v_dic, v_forH, v_forH1, v_forH2, v_restF, v_put, v_put1, v_put2, v_put3, v_putE, v_putR, v_fs, v_fs1, v_fld, v_fz, v_fz1, v_fz2, v_fz3, v_toD_i, v_toD_m, v_toDd, v_toDo, v_toDwl, v_toDwr, v_yes, v_make, v_make1, v_meth, v_meth2, v_sl, v_sl1, v_sl2, v_sl3, v_none, v_some, v_some1, o_slice_l, o_list_l, o_list_t, o_tup_l, o_tup_t, o_min2, o_max2, o_eq_i, o_ne_i, o_bl_eq, o_bl_ne, o_tru, o_isB, o_notB, o_add_l, o_in_il, o_nin_il, o_in_it, o_in_pl, o_in_pt, o_nin_pt, o_eq_il, o_ne_il, o_eq_pt, o_eq_pl, o_ne_p, o_eq_p, o_sort_pl, o_sort_pm, o_sort_il, v_wipe0, v_wipe1, v_wp, v_wpB, v_wp1, v_wp2, v_wp3, v_wp4, v_wp5, v_nd0, v_nd1, v_nd2, v_ap, v_ap1, v_ap2, v_ap3, v_ap4, v_slots0, v_slots1, v_slots2, v_args0, v_args1, v_args2, v_args3, v_args4, v_upd0, v_upd1, v_upd2, v_mk, v_mk1, v_mk2, v_mk3, v_run, v_end1, v_end2, v_end3, v_end4, v_end6, v_end7, v_end5, v_outs0, v_outs1, v_outs2, v_outs3, v_outs4, v_raise, v_bindx, v_seq3, v_seq4, v_seq5, v_nx1, v_nx2, v_nx3, v_nx4, v_nx5, v_iter, v_iter1, v_tname, v_ts0, v_ts1, v_ts2, v_ttup, v_for0, o_i_ii, o_i_ib, o_i_in, o_i_it, o_i_is, o_i_il, o_i_bi, o_i_bb, o_i_tt, o_i_ti, o_i_tl, o_i_tn, o_i_ts, o_i_tb, o_i_si, o_i_ss, o_i_st, o_i_tp, o_isN1, o_isN2, o_isN3, o_isN4, o_nin1, o_nin2, o_nin3, o_nin4, o_len_p, o_it_p0, o_it_p1, v_at0, v_at1, v_ttp, v_tup0i, v_enum, v_enum1, v_wipeE0, v_aug, v_aug1, v_aug2, List.getElem?_cons_succ, List.getElem?_cons_zero, List.set_cons_succ, List.set_cons_zero, List.length_cons, List.length_nil, Nat.reduceAdd, Nat.reduceLT, List.length_map, decide_true, decide_false, List.map_cons, List.map_nil, List.cons_append, List.nil_append, List.reduceReplicate, Nat.reduceSub, Nat.reduceLeDiff, Nat.reduceBEq, List.contains_cons, List.contains_nil, Bool.or_false, Bool.false_or, Bool.or_true, Bool.true_or, Bool.not_true, Bool.not_false, List.length_set, Nat.zero_add, List.getElem?_nil, v_range1 (r1N (n := n) (by omega))]) (fun d _ => ⟨_, rfl, rfl⟩) (by rw [rangeD_len]; simp only [lim]; omega) rfl
def srtY (d : D) : D := match sortD d with
  | some (.o w) => w.toD
  | _ => .non
theorem near_sorted {n : Nat} {o2 : Option SV} {a b : FV} {es : List (Int × Int)} (hn : n ≤ 60) (g : Good n es) : cLc (cItems (cFld ["Graph"] true "_near" (cVar 0))) [8] (tName 8) cYes (cD (cUn sortD (cVar 8))) [some (.o (.i "Graph" ["size", "edges", "_near"] [a, b, .o (.ll (rowsL n es))])), OI n, o2, none, none, none, none, none, none]
    = .ok (.o (.b (.l (rowsD n es))), [some (.o (.i "Graph" ["size", "edges", "_near"] [a, b, .d (.lst ((rowsL n es).map .lst))])), OI n, o2, none, none, none, none, none, none]) := by
  have q : ((rowsL n es).map D.lst).map srtY = rowsD n es := by
    unfold rowsL rowsD
    rw [List.map_map, List.map_map]
    refine List.map_congr_left fun u _ => ?_
    show srtY (.lst ((adj es u).map .int)) = _
    unfold srtY
    rw [o_sort_il, srt_adj g]
    rfl
  rw [← q]
  refine w_lcm (g := tName 8) (vs := [8]) srtY (ds := (rowsL n es).map .lst) (ρ' := [some (.o (.i "Graph" ["size", "edges", "_near"] [a, b, .d (.lst ((rowsL n es).map .lst))])), OI n, o2, none, none, none, none, none, none]) rfl (fun d hd => ?_) (by simp [rowsL, upto, lim]; omega) rfl
  · unfold rowsL at hd
    rw [List.map_map] at hd
    obtain ⟨u, _, rfl⟩ := List.mem_map.mp hd
    refine ⟨[some (.o (.i "Graph" ["size", "edges", "_near"] [a, b, .d (.lst ((rowsL n es).map .lst))])), OI n, o2, none, none, none, none, none, some (.d (.lst ((adj es u).map .int)))], rfl, ?_, rfl⟩
    show cD (cUn sortD (cVar 8)) _ = .ok (srtY (.lst ((adj es u).map .int)), _)
    unfold srtY
    simp only [v_var, v_var_d, v_var_o, v_c, v_bind, v_of, v_fin, v_vd, v_vo, v_vs, v_vs_d, v_vs_o, v_wl, v_wm, v_view1, v_view2, v_kv1, v_kv2, v_bin, v_bin1, v_bin2, v_ix, v_un, v_un1, v_test, v_test1, v_tru, v_tru1, v_tru2, v_obind, v_notT, v_notT1, v_andT, v_andT1, v_andT2, v_orT, v_orT1, v_orT2, v_not, v_not1, v_and, v_and1, v_and2, v_or, v_or1, v_or2, v_if, v_if1, v_if2, v_ch, v_ch1, v_ch2, v_ch3, v_ch4, v_ch5, v_D, v_frz_d, v_frz_o, v_frz_s, v_frz_s1, v_frz_s2, v_toD_l, v_nil, v_cons, v_cons1, v_cons2, v_tup, v_tup0, v_tup1, v_tup2, v_tup3, v_lst, v_lst0, v_lst1, v_lst2, v_set, v_set_d, v_set_o, v_set_s, v_set_s1, v_set_s2, v_setS, v_drop, v_drop1, v_ret, v_ret1, v_retN, v_pass, v_seq, v_seq1, v_seq2, v_ifS, v_ifS1, v_ifS2, v_for, v_for1, v_range, v_range1, v_r1, v_r2, v_mut, v_mut_s, v_mut_s1, v_getB, v_getB1, v_kind, v_kind1, v_isL, v_mut2, v_mutE_l, v_mutR, v_append, o_add, o_sub, o_mul, o_mod, o_fdiv, o_lt, o_le, o_gt, o_ge, o_int, o_len_l, o_len_s, o_len_t, o_abs, o_neg, o_it_l, o_it_s, o_it_t, o_item, v_lstN, v_tupN, v_tryAs, v_tryA1, v_tryA2, v_tryB1, v_tryB2, v_allA, v_wpX1, v_wpX2, v_noX1, v_try, v_try1, v_try2, v_isE, v_isE1, v_frzE, v_frzE1, o_ltX_pl, o_min2X_pl, v_fn, v_fn1, o_isN5, v_call, v_call1, v_A, v_aNil, v_aVar, v_aVar1, v_aVar2, v_aD, v_aD1, v_items, v_items_l, v_items_dl, v_items_dt, v_items_ds, v_items_s, v_items_s1, v_items_s2, v_items_s3, v_lstRg, v_dic, v_forH, v_forH1, v_forH2, v_restF, v_put, v_put1, v_put2, v_put3, v_putE, v_putR, v_fs, v_fs1, v_fld, v_fz, v_fz1, v_fz2, v_fz3, v_toD_i, v_toD_m, v_toDd, v_toDo, v_toDwl, v_toDwr, v_yes, v_make, v_make1, v_meth, v_meth2, v_sl, v_sl1, v_sl2, v_sl3, v_none, v_some, v_some1, o_slice_l, o_list_l, o_list_t, o_tup_l, o_tup_t, o_min2, o_max2, o_eq_i, o_ne_i, o_bl_eq, o_bl_ne, o_tru, o_isB, o_notB, o_add_l, o_in_il, o_nin_il, o_in_it, o_in_pl, o_in_pt, o_nin_pt, o_eq_il, o_ne_il, o_eq_pt, o_eq_pl, o_ne_p, o_eq_p, o_sort_pl, o_sort_pm, o_sort_il, v_wipe0, v_wipe1, v_wp, v_wpB, v_wp1, v_wp2, v_wp3, v_wp4, v_wp5, v_nd0, v_nd1, v_nd2, v_ap, v_ap1, v_ap2, v_ap3, v_ap4, v_slots0, v_slots1, v_slots2, v_args0, v_args1, v_args2, v_args3, v_args4, v_upd0, v_upd1, v_upd2, v_mk, v_mk1, v_mk2, v_mk3, v_run, v_end1, v_end2, v_end3, v_end4, v_end6, v_end7, v_end5, v_outs0, v_outs1, v_outs2, v_outs3, v_outs4, v_raise, v_bindx, v_seq3, v_seq4, v_seq5, v_nx1, v_nx2, v_nx3, v_nx4, v_nx5, v_iter, v_iter1, v_tname, v_ts0, v_ts1, v_ts2, v_ttup, v_for0, o_i_ii, o_i_ib, o_i_in, o_i_it, o_i_is, o_i_il, o_i_bi, o_i_bb, o_i_tt, o_i_ti, o_i_tl, o_i_tn, o_i_ts, o_i_tb, o_i_si, o_i_ss, o_i_st, o_i_tp, o_isN1, o_isN2, o_isN3, o_isN4, o_nin1, o_nin2, o_nin3, o_nin4, o_len_p, o_it_p0, o_it_p1, v_at0, v_at1, v_ttp, v_tup0i, v_enum, v_enum1, v_wipeE0, v_aug, v_aug1, v_aug2, List.getElem?_cons_succ, List.getElem?_cons_zero, List.set_cons_succ, List.set_cons_zero, List.length_cons, List.length_nil, Nat.reduceAdd, Nat.reduceLT, List.length_map, decide_true, decide_false, List.map_cons, List.map_nil, List.cons_append, List.nil_append, List.reduceReplicate, Nat.reduceSub, Nat.reduceLeDiff, Nat.reduceBEq, List.contains_cons, List.contains_nil, Bool.or_false, Bool.false_or, Bool.or_true, Bool.true_or, Bool.not_true, Bool.not_false, List.length_set, Nat.zero_add, List.getElem?_nil, o_sort_il]
theorem init_ok {n : Nat} {es : List (Int × Int)} {X : SV} (hX : X = PLs es ∨ X = PDs es) (hn : n ≤ 60) (g : Good n es) (hl : es.length + 1 < lim) : fn_Graph_init [G0, .d (.int n), X] = .ok (.d .non, [some (.o (GO n es)), OI n, some X]) := by
  have i1 : (decide ((0 : Int) ≤ (n : Int)) && decide ((n : Int) ≤ 60)) = true := by simp; omega
  have g2 : ∀ p ∈ srtP es, 0 ≤ p.1 ∧ p.1 < p.2 ∧ p.2 < n := fun p hp => g.mem p ((srtP_perm es).mem_iff.mp hp)
  have hl2 : (srtP es).length + 1 < lim := by rw [(srtP_perm es).length_eq]; exact hl
  have g3 := g.perm (srtP_perm es)
  have c1 : rowsD n (srtP es) = rowsD n es := by unfold rowsD; simp only [nbr_congr (srtP_perm es)]
  rcases hX with rfl | rfl
  · have l1 := init_l1 (o2 := none) g (by omega)
    have l2 := init_l2 (n := n) (t := .tup ((srtP es).map pD)) (o2 := some (PLs es)) g2 hl2
    have s1 := near_sorted (n := n) (o2 := some (PLs es)) (a := .d (.int n)) (b := .d (.tup ((srtP es).map pD))) (es := srtP es) hn g3
    simp only [E1, List.map_nil, show seenW [] = W0.m true [] [] from rfl] at l1
    simp only [E2, PLs] at l2
    simp only [PLs] at s1
    simp only [fn_Graph_init, code_Graph_init, v_var, v_var_d, v_var_o, v_c, v_bind, v_of, v_fin, v_vd, v_vo, v_vs, v_vs_d, v_vs_o, v_wl, v_wm, v_view1, v_view2, v_kv1, v_kv2, v_bin, v_bin1, v_bin2, v_ix, v_un, v_un1, v_test, v_test1, v_tru, v_tru1, v_tru2, v_obind, v_notT, v_notT1, v_andT, v_andT1, v_andT2, v_orT, v_orT1, v_orT2, v_not, v_not1, v_and, v_and1, v_and2, v_or, v_or1, v_or2, v_if, v_if1, v_if2, v_ch, v_ch1, v_ch2, v_ch3, v_ch4, v_ch5, v_D, v_frz_d, v_frz_o, v_frz_s, v_frz_s1, v_frz_s2, v_toD_l, v_nil, v_cons, v_cons1, v_cons2, v_tup, v_tup0, v_tup1, v_tup2, v_tup3, v_lst, v_lst0, v_lst1, v_lst2, v_set, v_set_d, v_set_o, v_set_s, v_set_s1, v_set_s2, v_setS, v_drop, v_drop1, v_ret, v_ret1, v_retN, v_pass, v_seq, v_seq1, v_seq2, v_ifS, v_ifS1, v_ifS2, v_for, v_for1, v_range, v_range1, v_r1, v_r2, v_mut, v_mut_s, v_mut_s1, v_getB, v_getB1, v_kind, v_kind1, v_isL, v_mut2, v_mutE_l, v_mutR, v_append, o_add, o_sub, o_mul, o_mod, o_fdiv, o_lt, o_le, o_gt, o_ge, o_int, o_len_l, o_len_s, o_len_t, o_abs, o_neg, o_it_l, o_it_s, o_it_t, o_item, v_lstN, v_tupN, v_tryAs, v_tryA1, v_tryA2, v_tryB1, v_tryB2, v_allA, v_wpX1, v_wpX2, v_noX1, v_try, v_try1, v_try2, v_isE, v_isE1, v_frzE, v_frzE1, o_ltX_pl, o_min2X_pl, v_fn, v_fn1, o_isN5, v_call, v_call1, v_A, v_aNil, v_aVar, v_aVar1, v_aVar2, v_aD, v_aD1, v_items, v_items_l, v_items_dl, v_items_dt, v_items_ds, v_items_s, v_items_s1, v_items_s2, v_items_s3, v_lstRg, v_dic, v_forH, v_forH1, v_forH2, v_restF, v_put, v_put1, v_put2, v_put3, v_putE, v_putR, v_fs, v_fs1, v_fld, v_fz, v_fz1, v_fz2, v_fz3, v_toD_i, v_toD_m, v_toDd, v_toDo, v_toDwl, v_toDwr, v_yes, v_make, v_make1, v_meth, v_meth2, v_sl, v_sl1, v_sl2, v_sl3, v_none, v_some, v_some1, o_slice_l, o_list_l, o_list_t, o_tup_l, o_tup_t, o_min2, o_max2, o_eq_i, o_ne_i, o_bl_eq, o_bl_ne, o_tru, o_isB, o_notB, o_add_l, o_in_il, o_nin_il, o_in_it, o_in_pl, o_in_pt, o_nin_pt, o_eq_il, o_ne_il, o_eq_pt, o_eq_pl, o_ne_p, o_eq_p, o_sort_pl, o_sort_pm, o_sort_il, v_wipe0, v_wipe1, v_wp, v_wpB, v_wp1, v_wp2, v_wp3, v_wp4, v_wp5, v_nd0, v_nd1, v_nd2, v_ap, v_ap1, v_ap2, v_ap3, v_ap4, v_slots0, v_slots1, v_slots2, v_args0, v_args1, v_args2, v_args3, v_args4, v_upd0, v_upd1, v_upd2, v_mk, v_mk1, v_mk2, v_mk3, v_run, v_end1, v_end2, v_end3, v_end4, v_end6, v_end7, v_end5, v_outs0, v_outs1, v_outs2, v_outs3, v_outs4, v_raise, v_bindx, v_seq3, v_seq4, v_seq5, v_nx1, v_nx2, v_nx3, v_nx4, v_nx5, v_iter, v_iter1, v_tname, v_ts0, v_ts1, v_ts2, v_ttup, v_for0, o_i_ii, o_i_ib, o_i_in, o_i_it, o_i_is, o_i_il, o_i_bi, o_i_bb, o_i_tt, o_i_ti, o_i_tl, o_i_tn, o_i_ts, o_i_tb, o_i_si, o_i_ss, o_i_st, o_i_tp, o_isN1, o_isN2, o_isN3, o_isN4, o_nin1, o_nin2, o_nin3, o_nin4, o_len_p, o_it_p0, o_it_p1, v_at0, v_at1, v_ttp, v_tup0i, v_enum, v_enum1, v_wipeE0, v_aug, v_aug1, v_aug2, List.getElem?_cons_succ, List.getElem?_cons_zero, List.set_cons_succ, List.set_cons_zero, List.length_cons, List.length_nil, Nat.reduceAdd, Nat.reduceLT, List.length_map, decide_true, decide_false, List.map_cons, List.map_nil, List.cons_append, List.nil_append, List.reduceReplicate, Nat.reduceSub, Nat.reduceLeDiff, Nat.reduceBEq, List.contains_cons, List.contains_nil, Bool.or_false, Bool.false_or, Bool.or_true, Bool.true_or, Bool.not_true, Bool.not_false, List.length_set, Nat.zero_add, List.getElem?_nil, o_isint, i1, l1, v_seen_view, o_sort_pm, v_fs_size, v_fs_edges, near_rows hn, v_fs_near, v_fld_edges, l2, s1, v_fs_near2, c1]
    rfl
  · have l1 := init_l1 (o2 := some (PDs es)) g (by omega)
    have l2 := init_l2 (n := n) (t := .tup ((srtP es).map pD)) (o2 := some (PDs es)) g2 hl2
    have s1 := near_sorted (n := n) (o2 := some (PDs es)) (a := .d (.int n)) (b := .d (.tup ((srtP es).map pD))) (es := srtP es) hn g3
    simp only [E1, PDs, List.map_nil, show seenW [] = W0.m true [] [] from rfl] at l1
    simp only [E2, PDs] at l2
    simp only [PDs] at s1
    simp only [fn_Graph_init, code_Graph_init, v_var, v_var_d, v_var_o, v_c, v_bind, v_of, v_fin, v_vd, v_vo, v_vs, v_vs_d, v_vs_o, v_wl, v_wm, v_view1, v_view2, v_kv1, v_kv2, v_bin, v_bin1, v_bin2, v_ix, v_un, v_un1, v_test, v_test1, v_tru, v_tru1, v_tru2, v_obind, v_notT, v_notT1, v_andT, v_andT1, v_andT2, v_orT, v_orT1, v_orT2, v_not, v_not1, v_and, v_and1, v_and2, v_or, v_or1, v_or2, v_if, v_if1, v_if2, v_ch, v_ch1, v_ch2, v_ch3, v_ch4, v_ch5, v_D, v_frz_d, v_frz_o, v_frz_s, v_frz_s1, v_frz_s2, v_toD_l, v_nil, v_cons, v_cons1, v_cons2, v_tup, v_tup0, v_tup1, v_tup2, v_tup3, v_lst, v_lst0, v_lst1, v_lst2, v_set, v_set_d, v_set_o, v_set_s, v_set_s1, v_set_s2, v_setS, v_drop, v_drop1, v_ret, v_ret1, v_retN, v_pass, v_seq, v_seq1, v_seq2, v_ifS, v_ifS1, v_ifS2, v_for, v_for1, v_range, v_range1, v_r1, v_r2, v_mut, v_mut_s, v_mut_s1, v_getB, v_getB1, v_kind, v_kind1, v_isL, v_mut2, v_mutE_l, v_mutR, v_append, o_add, o_sub, o_mul, o_mod, o_fdiv, o_lt, o_le, o_gt, o_ge, o_int, o_len_l, o_len_s, o_len_t, o_abs, o_neg, o_it_l, o_it_s, o_it_t, o_item, v_lstN, v_tupN, v_tryAs, v_tryA1, v_tryA2, v_tryB1, v_tryB2, v_allA, v_wpX1, v_wpX2, v_noX1, v_try, v_try1, v_try2, v_isE, v_isE1, v_frzE, v_frzE1, o_ltX_pl, o_min2X_pl, v_fn, v_fn1, o_isN5, v_call, v_call1, v_A, v_aNil, v_aVar, v_aVar1, v_aVar2, v_aD, v_aD1, v_items, v_items_l, v_items_dl, v_items_dt, v_items_ds, v_items_s, v_items_s1, v_items_s2, v_items_s3, v_lstRg, v_dic, v_forH, v_forH1, v_forH2, v_restF, v_put, v_put1, v_put2, v_put3, v_putE, v_putR, v_fs, v_fs1, v_fld, v_fz, v_fz1, v_fz2, v_fz3, v_toD_i, v_toD_m, v_toDd, v_toDo, v_toDwl, v_toDwr, v_yes, v_make, v_make1, v_meth, v_meth2, v_sl, v_sl1, v_sl2, v_sl3, v_none, v_some, v_some1, o_slice_l, o_list_l, o_list_t, o_tup_l, o_tup_t, o_min2, o_max2, o_eq_i, o_ne_i, o_bl_eq, o_bl_ne, o_tru, o_isB, o_notB, o_add_l, o_in_il, o_nin_il, o_in_it, o_in_pl, o_in_pt, o_nin_pt, o_eq_il, o_ne_il, o_eq_pt, o_eq_pl, o_ne_p, o_eq_p, o_sort_pl, o_sort_pm, o_sort_il, v_wipe0, v_wipe1, v_wp, v_wpB, v_wp1, v_wp2, v_wp3, v_wp4, v_wp5, v_nd0, v_nd1, v_nd2, v_ap, v_ap1, v_ap2, v_ap3, v_ap4, v_slots0, v_slots1, v_slots2, v_args0, v_args1, v_args2, v_args3, v_args4, v_upd0, v_upd1, v_upd2, v_mk, v_mk1, v_mk2, v_mk3, v_run, v_end1, v_end2, v_end3, v_end4, v_end6, v_end7, v_end5, v_outs0, v_outs1, v_outs2, v_outs3, v_outs4, v_raise, v_bindx, v_seq3, v_seq4, v_seq5, v_nx1, v_nx2, v_nx3, v_nx4, v_nx5, v_iter, v_iter1, v_tname, v_ts0, v_ts1, v_ts2, v_ttup, v_for0, o_i_ii, o_i_ib, o_i_in, o_i_it, o_i_is, o_i_il, o_i_bi, o_i_bb, o_i_tt, o_i_ti, o_i_tl, o_i_tn, o_i_ts, o_i_tb, o_i_si, o_i_ss, o_i_st, o_i_tp, o_isN1, o_isN2, o_isN3, o_isN4, o_nin1, o_nin2, o_nin3, o_nin4, o_len_p, o_it_p0, o_it_p1, v_at0, v_at1, v_ttp, v_tup0i, v_enum, v_enum1, v_wipeE0, v_aug, v_aug1, v_aug2, List.getElem?_cons_succ, List.getElem?_cons_zero, List.set_cons_succ, List.set_cons_zero, List.length_cons, List.length_nil, Nat.reduceAdd, Nat.reduceLT, List.length_map, decide_true, decide_false, List.map_cons, List.map_nil, List.cons_append, List.nil_append, List.reduceReplicate, Nat.reduceSub, Nat.reduceLeDiff, Nat.reduceBEq, List.contains_cons, List.contains_nil, Bool.or_false, Bool.false_or, Bool.or_true, Bool.true_or, Bool.not_true, Bool.not_false, List.length_set, Nat.zero_add, List.getElem?_nil, o_isint, i1, l1, v_seen_view, o_sort_pm, v_fs_size, v_fs_edges, near_rows hn, v_fs_near, v_fld_edges, l2, s1, v_fs_near2, c1]
    rfl
end K03
namespace K03
open J
section
variable {n : Nat} {es : List (Int × Int)} {ρ : Env} {k : Bool}
theorem o_fsize : kFld ["Graph"] k "size" (.d (GD n es), ρ) = .ok (.d (.int n), ρ) := w_fld_i (by decide) rfl
theorem o_fedges : kFld ["Graph"] k "edges" (.d (GD n es), ρ) = .ok (.d (.tup ((srtP es).map pD)), ρ) := w_fld_i (by decide) rfl
theorem o_fnear : kFld ["Graph"] k "_near" (.d (GD n es), ρ) = .ok (.d (.lst (rowsD n es)), ρ) := w_fld_i (by decide) rfl
theorem o_gnear {fn : Fn} {ga : Env → Out (List AV × Env)} : kMeth "Graph" "near" fn ga (.d (GD n es), ρ) = (ga ρ).bind (kMeth2 fn (.d (GD n es))) := w_meth (by decide)
theorem o_ghas {fn : Fn} {ga : Env → Out (List AV × Env)} : kMeth "Graph" "has" fn ga (.d (GD n es), ρ) = (ga ρ).bind (kMeth2 fn (.d (GD n es))) := w_meth (by decide)
end
theorem rows_at {n : Nat} {es : List (Int × Int)} {u : Int} (h : 0 ≤ u ∧ u < n) : L2.atI (rowsD n es) u = some (.lst ((nbr n es u).map .int)) := by
  obtain ⟨u, rfl⟩ : ∃ k : Nat, u = k := ⟨u.toNat, by omega⟩
  refine atI_nat ?_
  simp only [rowsD, upto, List.map_map, List.getElem?_map]
  rw [List.getElem?_range (by omega)]
  rfl
end K03
namespace K03
open J
theorem GO_congr {n : Nat} {es fs : List (Int × Int)} (h : es.Perm fs) : GO n es = GO n fs := by
  unfold GO rowsD
  rw [srtP_congr h]
  simp only [nbr_congr h]
/-- is the pair of the vertices at these two places an edge -/
def partB (es : List (Int × Int)) (vs : List Int) (p : Int × Int) : Bool := decide ((min (vs.getD p.1.toNat 0) (vs.getD p.2.toNat 0), max (vs.getD p.1.toNat 0) (vs.getD p.2.toNat 0)) ∈ es)
/-- the edges of the part -/
def partP (es : List (Int × Int)) (vs : List Int) : List (Int × Int) := (prs vs.length).filter (partB es vs)
theorem partP_sub {es : List (Int × Int)} {vs : List Int} : (partP es vs).Sublist (prs vs.length) := List.filter_sublist
/-- the place of a vertex -/
def plc (vs : List Int) (u : Int) : Int := (vs.idxOf u : Nat)
theorem plc_lt {vs : List Int} {u : Int} (h : u ∈ vs) : 0 ≤ plc vs u ∧ plc vs u < vs.length := by
  unfold plc
  have := List.idxOf_lt_length_of_mem h
  omega
theorem plc_at {vs : List Int} {u : Int} (h : u ∈ vs) : vs.getD (plc vs u).toNat 0 = u := by
  unfold plc
  have h1 := List.idxOf_lt_length_of_mem h
  rw [show ((vs.idxOf u : Nat) : Int).toNat = vs.idxOf u from by omega, List.getD_eq_getElem?_getD, List.getElem?_eq_getElem h1, List.getElem_idxOf h1]
  rfl
/-- what an edge becomes -/
def partS (vs : List Int) (p : Int × Int) : Int × Int := (min (plc vs p.1) (plc vs p.2), max (plc vs p.1) (plc vs p.2))
def partM (es : List (Int × Int)) (vs : List Int) : List (Int × Int) := (es.filter fun p => decide (p.1 ∈ vs ∧ p.2 ∈ vs)).map (partS vs)
theorem plc_inj {vs : List Int} {u v : Int} (hu : u ∈ vs) (hv : v ∈ vs) (h : plc vs u = plc vs v) : u = v := by rw [← plc_at hu, ← plc_at hv, h]
theorem at_plc {vs : List Int} (nd : vs.Nodup) {i : Nat} (h : i < vs.length) : plc vs vs[i] = i := by
  unfold plc
  have h1 := List.idxOf_lt_length_of_mem (List.getElem_mem h)
  have := List.getElem_idxOf h1
  have := nd_inj nd this
  omega
theorem partM_perm {n : Int} {es : List (Int × Int)} {vs : List Int} (g : Good n es) (nd : vs.Nodup) : (partM es vs).Perm (partP es vs) := by
  have nd1 : (partM es vs).Nodup := by
    unfold partM List.Nodup
    rw [List.pairwise_map]
    have := (g.nd.sublist (List.filter_sublist (p := fun p => decide (p.1 ∈ vs ∧ p.2 ∈ vs))))
    refine List.Pairwise.imp_of_mem ?_ this
    intro p q hp hq hne he
    refine hne ?_
    simp only [List.mem_filter, decide_eq_true_eq] at hp hq
    have gp := (g.mem p hp.1).2.1
    have gq := (g.mem q hq.1).2.1
    unfold partS at he
    simp only [Prod.mk.injEq] at he
    obtain ⟨e1, e2⟩ := he
    have : (plc vs p.1 = plc vs q.1 ∧ plc vs p.2 = plc vs q.2) ∨ (plc vs p.1 = plc vs q.2 ∧ plc vs p.2 = plc vs q.1) := by omega
    rcases this with ⟨z1, z2⟩ | ⟨z1, z2⟩
    · exact Prod.ext (plc_inj hp.2.1 hq.2.1 z1) (plc_inj hp.2.2 hq.2.2 z2)
    · have y1 := plc_inj hp.2.1 hq.2.2 z1
      have y2 := plc_inj hp.2.2 hq.2.1 z2
      omega
  refine (List.perm_ext_iff_of_nodup nd1 ((sub_sorted partP_sub).imp ltP_ne)).mpr fun q => ?_
  unfold partM partP
  rw [List.mem_map, List.mem_filter, mem_prs]
  constructor
  · rintro ⟨p, hp, rfl⟩
    simp only [List.mem_filter, decide_eq_true_eq] at hp
    have gp := (g.mem p hp.1).2.1
    have b1 := plc_lt hp.2.1
    have b2 := plc_lt hp.2.2
    have ne : plc vs p.1 ≠ plc vs p.2 := fun z => by have := plc_inj hp.2.1 hp.2.2 z; omega
    refine ⟨by unfold partS; dsimp only; omega, ?_⟩
    unfold partB partS
    simp only [decide_eq_true_eq]
    rcases Int.le_total (plc vs p.1) (plc vs p.2) with z | z
    · rw [Int.min_eq_left z, Int.max_eq_right z, plc_at hp.2.1, plc_at hp.2.2, Int.min_eq_left (by omega), Int.max_eq_right (by omega)]; exact hp.1
    · rw [Int.min_eq_right z, Int.max_eq_left z, plc_at hp.2.1, plc_at hp.2.2, Int.min_eq_right (by omega), Int.max_eq_left (by omega)]; exact hp.1
  · rintro ⟨⟨h1, h2, h3⟩, h4⟩
    obtain ⟨a, b⟩ := q
    dsimp only at h1 h2 h3
    obtain ⟨i, rfl⟩ : ∃ i : Nat, a = i := ⟨a.toNat, by omega⟩
    obtain ⟨j, rfl⟩ : ∃ j : Nat, b = j := ⟨b.toNat, by omega⟩
    have hi : i < vs.length := by omega
    have hj : j < vs.length := by omega
    unfold partB at h4
    simp only [decide_eq_true_eq, Int.toNat_natCast, getD_at hi, getD_at hj] at h4
    have mi := List.getElem_mem hi
    have mj := List.getElem_mem hj
    refine ⟨_, List.mem_filter.mpr ⟨h4, ?_⟩, ?_⟩
    · simp only [decide_eq_true_eq]
      rcases Int.le_total vs[i] vs[j] with z | z
      · rw [Int.min_eq_left z, Int.max_eq_right z]; exact ⟨mi, mj⟩
      · rw [Int.min_eq_right z, Int.max_eq_left z]; exact ⟨mj, mi⟩
    · unfold partS
      rcases Int.le_total vs[i] vs[j] with z | z
      · rw [Int.min_eq_left z, Int.max_eq_right z]
        simp only [at_plc nd hi, at_plc nd hj]
        exact Prod.ext (by dsimp only; omega) (by dsimp only; omega)
      · rw [Int.min_eq_right z, Int.max_eq_left z]
        simp only [at_plc nd hi, at_plc nd hj]
        exact Prod.ext (by dsimp only; omega) (by dsimp only; omega)
def plcW (vs : List Int) : W0 := .m false (vs.map .int) ((List.range vs.length).map fun (i : Nat) => D.int (i : Int))
theorem v_plc_view {vs : List Int} : Own.view (.b (plcW vs)) = some (.dic false (vs.map .int) ((List.range vs.length).map fun (i : Nat) => D.int (i : Int))) := rfl
theorem o_plc_in {vs : List Int} {u : Int} : inD (.int u) (.dic false (vs.map .int) ((List.range vs.length).map fun (i : Nat) => D.int (i : Int))) = some (.d (.bl (decide (u ∈ vs)))) := w_in_im (by simp)
theorem v_plc_put {vs : List Int} {u : Int} (h : u ∉ vs) (hl : vs.length < lim) : putD (plcW vs) (.int u) (.int (vs.length : Nat)) = some (plcW (vs ++ [u])) := by
  rw [show plcW vs = .m false (vs.map .int) ((List.range vs.length).map fun (i : Nat) => D.int (i : Int)) from rfl, w_put_im h hl]
  simp [plcW, List.range_succ]
theorem v_plc_it {vs : List Int} {u : Int} (nd : vs.Nodup) (h : u ∈ vs) : itemD (.dic false (vs.map .int) ((List.range vs.length).map fun (i : Nat) => D.int (i : Int))) (.int u) = some (.d (.int (plc vs u))) := by
  obtain ⟨i, hi, rfl⟩ := List.getElem_of_mem h
  rw [w_it_im, lookD_at vs _ i hi nd (by simp), at_plc nd hi]
  simp [hi]
def E3 (n : Nat) (es : List (Int × Int)) (all vs : List Int) : Env := [some (.d (GD n es)), some (DL all), some (.o (.b (plcW vs))), none, none, none, none, none]
def E4 (n : Nat) (es : List (Int × Int)) (vs : List Int) (fs : List (Int × Int)) : Env := [some (.d (GD n es)), some (DL vs), some (.o (.b (plcW vs))), none, none, some (PLs fs), none, none]
theorem partM_snoc {es : List (Int × Int)} {vs : List Int} {p : Int × Int} : partM (es ++ [p]) vs = partM es vs ++ partM [p] vs := by simp [partM]
theorem partM_len {es : List (Int × Int)} {vs : List Int} : (partM es vs).length ≤ es.length := by
  unfold partM
  rw [List.length_map]
  exact List.length_filter_le _ _
/-- the edges of the second graph, raised -/
def rais (n : Int) (fs : List (Int × Int)) : List (Int × Int) := fs.map fun p => (p.1 + n, p.2 + n)
theorem tog_good {n m : Nat} {es fs : List (Int × Int)} (g : Good n es) (h : Good m fs) : Good ((n + m : Nat) : Int) (es ++ rais n fs) := by
  refine ⟨fun p hp => ?_, ?_⟩
  · rcases List.mem_append.mp hp with z | z
    · have := g.mem p z; omega
    · unfold rais at z
      obtain ⟨q, hq, rfl⟩ := List.mem_map.mp z
      have := h.mem q hq
      dsimp only; omega
  · rw [List.nodup_append]
    refine ⟨g.nd, ?_, fun a ha b hb => ?_⟩
    · unfold rais List.Nodup
      rw [List.pairwise_map]
      exact h.nd.imp fun {p q} hne e => hne (by simp only [Prod.mk.injEq] at e; exact Prod.ext (by omega) (by omega))
    · have h1 := g.mem a ha
      unfold rais at hb
      obtain ⟨q, hq, rfl⟩ := List.mem_map.mp hb
      have := h.mem q hq
      rintro rfl
      dsimp only at h1; omega
end K03
namespace K03
open J
theorem lp_b1 {es acc : List (Int × Int)} {vs : List Int} {k j : Nat} (hk : k < vs.length) (hj : j < vs.length) (hl : acc.length < lim) : iter1 (tName 4) b1__law_part (.int (j : Int)) [some (PDs es), some (DL vs), some (PLs acc), OI k, none, none] = .ok (.nx [some (PDs es), some (DL vs), some (PLs (acc ++ [((k : Int), (j : Int))].filter (partB es vs))), OI k, none, none]) := by
  have hl' : (acc.map pD).length < lim := by simpa using hl
  have e : partB es vs ((k : Int), (j : Int)) = decide ((min vs[k] vs[j], max vs[k] vs[j]) ∈ es) := by
    unfold partB
    simp only [Int.toNat_natCast, getD_at hk, getD_at hj]
  have e2 : inD (.tup [.int (min vs[k] vs[j]), .int (max vs[k] vs[j])]) (.lst (es.map pD)) = some (.d (.bl (decide ((min vs[k] vs[j], max vs[k] vs[j]) ∈ es)))) := o_in_pl (a := (min vs[k] vs[j], max vs[k] vs[j]))
  by_cases h : (min vs[k] vs[j], max vs[k] vs[j]) ∈ es
  · have f : [((k : Int), (j : Int))].filter (partB es vs) = [((k : Int), (j : Int))] := by simp [e, h]
    simp only [b1__law_part, v_var, v_var_d, v_var_o, v_c, v_bind, v_of, v_fin, v_vd, v_vo, v_vs, v_vs_d, v_vs_o, v_wl, v_wm, v_view1, v_view2, v_kv1, v_kv2, v_bin, v_bin1, v_bin2, v_ix, v_un, v_un1, v_test, v_test1, v_tru, v_tru1, v_tru2, v_obind, v_notT, v_notT1, v_andT, v_andT1, v_andT2, v_orT, v_orT1, v_orT2, v_not, v_not1, v_and, v_and1, v_and2, v_or, v_or1, v_or2, v_if, v_if1, v_if2, v_ch, v_ch1, v_ch2, v_ch3, v_ch4, v_ch5, v_D, v_frz_d, v_frz_o, v_frz_s, v_frz_s1, v_frz_s2, v_toD_l, v_nil, v_cons, v_cons1, v_cons2, v_tup, v_tup0, v_tup1, v_tup2, v_tup3, v_lst, v_lst0, v_lst1, v_lst2, v_set, v_set_d, v_set_o, v_set_s, v_set_s1, v_set_s2, v_setS, v_drop, v_drop1, v_ret, v_ret1, v_retN, v_pass, v_seq, v_seq1, v_seq2, v_ifS, v_ifS1, v_ifS2, v_for, v_for1, v_range, v_range1, v_r1, v_r2, v_mut, v_mut_s, v_mut_s1, v_getB, v_getB1, v_kind, v_kind1, v_isL, v_mut2, v_mutE_l, v_mutR, v_append, o_add, o_sub, o_mul, o_mod, o_fdiv, o_lt, o_le, o_gt, o_ge, o_int, o_len_l, o_len_s, o_len_t, o_abs, o_neg, o_it_l, o_it_s, o_it_t, o_item, v_lstN, v_tupN, v_tryAs, v_tryA1, v_tryA2, v_tryB1, v_tryB2, v_allA, v_wpX1, v_wpX2, v_noX1, v_try, v_try1, v_try2, v_isE, v_isE1, v_frzE, v_frzE1, o_ltX_pl, o_min2X_pl, v_fn, v_fn1, o_isN5, v_call, v_call1, v_A, v_aNil, v_aVar, v_aVar1, v_aVar2, v_aD, v_aD1, v_items, v_items_l, v_items_dl, v_items_dt, v_items_ds, v_items_s, v_items_s1, v_items_s2, v_items_s3, v_lstRg, v_dic, v_forH, v_forH1, v_forH2, v_restF, v_put, v_put1, v_put2, v_put3, v_putE, v_putR, v_fs, v_fs1, v_fld, v_fz, v_fz1, v_fz2, v_fz3, v_toD_i, v_toD_m, v_toDd, v_toDo, v_toDwl, v_toDwr, v_yes, v_make, v_make1, v_meth, v_meth2, v_sl, v_sl1, v_sl2, v_sl3, v_none, v_some, v_some1, o_slice_l, o_list_l, o_list_t, o_tup_l, o_tup_t, o_min2, o_max2, o_eq_i, o_ne_i, o_bl_eq, o_bl_ne, o_tru, o_isB, o_notB, o_add_l, o_in_il, o_nin_il, o_in_it, o_in_pl, o_in_pt, o_nin_pt, o_eq_il, o_ne_il, o_eq_pt, o_eq_pl, o_ne_p, o_eq_p, o_sort_pl, o_sort_pm, o_sort_il, v_wipe0, v_wipe1, v_wp, v_wpB, v_wp1, v_wp2, v_wp3, v_wp4, v_wp5, v_nd0, v_nd1, v_nd2, v_ap, v_ap1, v_ap2, v_ap3, v_ap4, v_slots0, v_slots1, v_slots2, v_args0, v_args1, v_args2, v_args3, v_args4, v_upd0, v_upd1, v_upd2, v_mk, v_mk1, v_mk2, v_mk3, v_run, v_end1, v_end2, v_end3, v_end4, v_end6, v_end7, v_end5, v_outs0, v_outs1, v_outs2, v_outs3, v_outs4, v_raise, v_bindx, v_seq3, v_seq4, v_seq5, v_nx1, v_nx2, v_nx3, v_nx4, v_nx5, v_iter, v_iter1, v_tname, v_ts0, v_ts1, v_ts2, v_ttup, v_for0, o_i_ii, o_i_ib, o_i_in, o_i_it, o_i_is, o_i_il, o_i_bi, o_i_bb, o_i_tt, o_i_ti, o_i_tl, o_i_tn, o_i_ts, o_i_tb, o_i_si, o_i_ss, o_i_st, o_i_tp, o_isN1, o_isN2, o_isN3, o_isN4, o_nin1, o_nin2, o_nin3, o_nin4, o_len_p, o_it_p0, o_it_p1, v_at0, v_at1, v_ttp, v_tup0i, v_enum, v_enum1, v_wipeE0, v_aug, v_aug1, v_aug2, List.getElem?_cons_succ, List.getElem?_cons_zero, List.set_cons_succ, List.set_cons_zero, List.length_cons, List.length_nil, Nat.reduceAdd, Nat.reduceLT, List.length_map, decide_true, decide_false, List.map_cons, List.map_nil, List.cons_append, List.nil_append, List.reduceReplicate, Nat.reduceSub, Nat.reduceLeDiff, Nat.reduceBEq, List.contains_cons, List.contains_nil, Bool.or_false, Bool.false_or, Bool.or_true, Bool.true_or, Bool.not_true, Bool.not_false, List.length_set, Nat.zero_add, List.getElem?_nil, at_nat hk, at_nat hj, e2, h, v_append hl', f, PLs, List.map_append, pD]
  · have f : [((k : Int), (j : Int))].filter (partB es vs) = [] := by simp [e, h]
    simp only [b1__law_part, v_var, v_var_d, v_var_o, v_c, v_bind, v_of, v_fin, v_vd, v_vo, v_vs, v_vs_d, v_vs_o, v_wl, v_wm, v_view1, v_view2, v_kv1, v_kv2, v_bin, v_bin1, v_bin2, v_ix, v_un, v_un1, v_test, v_test1, v_tru, v_tru1, v_tru2, v_obind, v_notT, v_notT1, v_andT, v_andT1, v_andT2, v_orT, v_orT1, v_orT2, v_not, v_not1, v_and, v_and1, v_and2, v_or, v_or1, v_or2, v_if, v_if1, v_if2, v_ch, v_ch1, v_ch2, v_ch3, v_ch4, v_ch5, v_D, v_frz_d, v_frz_o, v_frz_s, v_frz_s1, v_frz_s2, v_toD_l, v_nil, v_cons, v_cons1, v_cons2, v_tup, v_tup0, v_tup1, v_tup2, v_tup3, v_lst, v_lst0, v_lst1, v_lst2, v_set, v_set_d, v_set_o, v_set_s, v_set_s1, v_set_s2, v_setS, v_drop, v_drop1, v_ret, v_ret1, v_retN, v_pass, v_seq, v_seq1, v_seq2, v_ifS, v_ifS1, v_ifS2, v_for, v_for1, v_range, v_range1, v_r1, v_r2, v_mut, v_mut_s, v_mut_s1, v_getB, v_getB1, v_kind, v_kind1, v_isL, v_mut2, v_mutE_l, v_mutR, v_append, o_add, o_sub, o_mul, o_mod, o_fdiv, o_lt, o_le, o_gt, o_ge, o_int, o_len_l, o_len_s, o_len_t, o_abs, o_neg, o_it_l, o_it_s, o_it_t, o_item, v_lstN, v_tupN, v_tryAs, v_tryA1, v_tryA2, v_tryB1, v_tryB2, v_allA, v_wpX1, v_wpX2, v_noX1, v_try, v_try1, v_try2, v_isE, v_isE1, v_frzE, v_frzE1, o_ltX_pl, o_min2X_pl, v_fn, v_fn1, o_isN5, v_call, v_call1, v_A, v_aNil, v_aVar, v_aVar1, v_aVar2, v_aD, v_aD1, v_items, v_items_l, v_items_dl, v_items_dt, v_items_ds, v_items_s, v_items_s1, v_items_s2, v_items_s3, v_lstRg, v_dic, v_forH, v_forH1, v_forH2, v_restF, v_put, v_put1, v_put2, v_put3, v_putE, v_putR, v_fs, v_fs1, v_fld, v_fz, v_fz1, v_fz2, v_fz3, v_toD_i, v_toD_m, v_toDd, v_toDo, v_toDwl, v_toDwr, v_yes, v_make, v_make1, v_meth, v_meth2, v_sl, v_sl1, v_sl2, v_sl3, v_none, v_some, v_some1, o_slice_l, o_list_l, o_list_t, o_tup_l, o_tup_t, o_min2, o_max2, o_eq_i, o_ne_i, o_bl_eq, o_bl_ne, o_tru, o_isB, o_notB, o_add_l, o_in_il, o_nin_il, o_in_it, o_in_pl, o_in_pt, o_nin_pt, o_eq_il, o_ne_il, o_eq_pt, o_eq_pl, o_ne_p, o_eq_p, o_sort_pl, o_sort_pm, o_sort_il, v_wipe0, v_wipe1, v_wp, v_wpB, v_wp1, v_wp2, v_wp3, v_wp4, v_wp5, v_nd0, v_nd1, v_nd2, v_ap, v_ap1, v_ap2, v_ap3, v_ap4, v_slots0, v_slots1, v_slots2, v_args0, v_args1, v_args2, v_args3, v_args4, v_upd0, v_upd1, v_upd2, v_mk, v_mk1, v_mk2, v_mk3, v_run, v_end1, v_end2, v_end3, v_end4, v_end6, v_end7, v_end5, v_outs0, v_outs1, v_outs2, v_outs3, v_outs4, v_raise, v_bindx, v_seq3, v_seq4, v_seq5, v_nx1, v_nx2, v_nx3, v_nx4, v_nx5, v_iter, v_iter1, v_tname, v_ts0, v_ts1, v_ts2, v_ttup, v_for0, o_i_ii, o_i_ib, o_i_in, o_i_it, o_i_is, o_i_il, o_i_bi, o_i_bb, o_i_tt, o_i_ti, o_i_tl, o_i_tn, o_i_ts, o_i_tb, o_i_si, o_i_ss, o_i_st, o_i_tp, o_isN1, o_isN2, o_isN3, o_isN4, o_nin1, o_nin2, o_nin3, o_nin4, o_len_p, o_it_p0, o_it_p1, v_at0, v_at1, v_ttp, v_tup0i, v_enum, v_enum1, v_wipeE0, v_aug, v_aug1, v_aug2, List.getElem?_cons_succ, List.getElem?_cons_zero, List.set_cons_succ, List.set_cons_zero, List.length_cons, List.length_nil, Nat.reduceAdd, Nat.reduceLT, List.length_map, decide_true, decide_false, List.map_cons, List.map_nil, List.cons_append, List.nil_append, List.reduceReplicate, Nat.reduceSub, Nat.reduceLeDiff, Nat.reduceBEq, List.contains_cons, List.contains_nil, Bool.or_false, Bool.false_or, Bool.or_true, Bool.true_or, Bool.not_true, Bool.not_false, List.length_set, Nat.zero_add, List.getElem?_nil, at_nat hk, at_nat hj, e2, h, f, PLs, List.append_nil]
theorem lp_b2 {es acc : List (Int × Int)} {vs : List Int} {k : Nat} (hn : vs.length ≤ 1000) (hk : k < vs.length) (hl : acc.length + vs.length < lim) : iter1 (tName 3) b2__law_part (.int (0 + (k : Int))) [some (PDs es), some (DL vs), some (PLs acc), none, none, none] = .ok (.nx [some (PDs es), some (DL vs), some (PLs (acc ++ (prow vs.length k).filter (partB es vs))), none, none, none]) := by
  have e := forF_rng (g := tName 4) (f := b1__law_part) (lo := (k : Int) + 1) (n := vs.length - (k + 1)) (fun i => [some (PDs es), some (DL vs), some (PLs (acc ++ ((List.range i).map fun (i : Nat) => ((k : Int), (k : Int) + 1 + (i : Int))).filter (partB es vs))), OI k, none, none]) fun i hi => by
    rw [show (k : Int) + 1 + (i : Int) = ((k + 1 + i : Nat) : Int) from by omega]
    rw [lp_b1 hk (by omega) (by have := List.length_filter_le (partB es vs) ((List.range i).map fun (i : Nat) => ((k : Int), (k : Int) + 1 + (i : Int))); simp only [List.length_map, List.length_range] at this; rw [List.length_append]; omega)]
    rw [List.range_succ, List.map_append, List.filter_append, List.append_assoc, List.map_cons, List.map_nil, show (k : Int) + 1 + (i : Int) = ((k + 1 + i : Nat) : Int) from by omega]
  simp only [PLs, List.range_zero, List.map_nil, List.filter_nil, List.append_nil] at e
  simp only [b2__law_part, v_var, v_var_d, v_var_o, v_c, v_bind, v_of, v_fin, v_vd, v_vo, v_vs, v_vs_d, v_vs_o, v_wl, v_wm, v_view1, v_view2, v_kv1, v_kv2, v_bin, v_bin1, v_bin2, v_ix, v_un, v_un1, v_test, v_test1, v_tru, v_tru1, v_tru2, v_obind, v_notT, v_notT1, v_andT, v_andT1, v_andT2, v_orT, v_orT1, v_orT2, v_not, v_not1, v_and, v_and1, v_and2, v_or, v_or1, v_or2, v_if, v_if1, v_if2, v_ch, v_ch1, v_ch2, v_ch3, v_ch4, v_ch5, v_D, v_frz_d, v_frz_o, v_frz_s, v_frz_s1, v_frz_s2, v_toD_l, v_nil, v_cons, v_cons1, v_cons2, v_tup, v_tup0, v_tup1, v_tup2, v_tup3, v_lst, v_lst0, v_lst1, v_lst2, v_set, v_set_d, v_set_o, v_set_s, v_set_s1, v_set_s2, v_setS, v_drop, v_drop1, v_ret, v_ret1, v_retN, v_pass, v_seq, v_seq1, v_seq2, v_ifS, v_ifS1, v_ifS2, v_for, v_for1, v_range, v_range1, v_r1, v_r2, v_mut, v_mut_s, v_mut_s1, v_getB, v_getB1, v_kind, v_kind1, v_isL, v_mut2, v_mutE_l, v_mutR, v_append, o_add, o_sub, o_mul, o_mod, o_fdiv, o_lt, o_le, o_gt, o_ge, o_int, o_len_l, o_len_s, o_len_t, o_abs, o_neg, o_it_l, o_it_s, o_it_t, o_item, v_lstN, v_tupN, v_tryAs, v_tryA1, v_tryA2, v_tryB1, v_tryB2, v_allA, v_wpX1, v_wpX2, v_noX1, v_try, v_try1, v_try2, v_isE, v_isE1, v_frzE, v_frzE1, o_ltX_pl, o_min2X_pl, v_fn, v_fn1, o_isN5, v_call, v_call1, v_A, v_aNil, v_aVar, v_aVar1, v_aVar2, v_aD, v_aD1, v_items, v_items_l, v_items_dl, v_items_dt, v_items_ds, v_items_s, v_items_s1, v_items_s2, v_items_s3, v_lstRg, v_dic, v_forH, v_forH1, v_forH2, v_restF, v_put, v_put1, v_put2, v_put3, v_putE, v_putR, v_fs, v_fs1, v_fld, v_fz, v_fz1, v_fz2, v_fz3, v_toD_i, v_toD_m, v_toDd, v_toDo, v_toDwl, v_toDwr, v_yes, v_make, v_make1, v_meth, v_meth2, v_sl, v_sl1, v_sl2, v_sl3, v_none, v_some, v_some1, o_slice_l, o_list_l, o_list_t, o_tup_l, o_tup_t, o_min2, o_max2, o_eq_i, o_ne_i, o_bl_eq, o_bl_ne, o_tru, o_isB, o_notB, o_add_l, o_in_il, o_nin_il, o_in_it, o_in_pl, o_in_pt, o_nin_pt, o_eq_il, o_ne_il, o_eq_pt, o_eq_pl, o_ne_p, o_eq_p, o_sort_pl, o_sort_pm, o_sort_il, v_wipe0, v_wipe1, v_wp, v_wpB, v_wp1, v_wp2, v_wp3, v_wp4, v_wp5, v_nd0, v_nd1, v_nd2, v_ap, v_ap1, v_ap2, v_ap3, v_ap4, v_slots0, v_slots1, v_slots2, v_args0, v_args1, v_args2, v_args3, v_args4, v_upd0, v_upd1, v_upd2, v_mk, v_mk1, v_mk2, v_mk3, v_run, v_end1, v_end2, v_end3, v_end4, v_end6, v_end7, v_end5, v_outs0, v_outs1, v_outs2, v_outs3, v_outs4, v_raise, v_bindx, v_seq3, v_seq4, v_seq5, v_nx1, v_nx2, v_nx3, v_nx4, v_nx5, v_iter, v_iter1, v_tname, v_ts0, v_ts1, v_ts2, v_ttup, v_for0, o_i_ii, o_i_ib, o_i_in, o_i_it, o_i_is, o_i_il, o_i_bi, o_i_bb, o_i_tt, o_i_ti, o_i_tl, o_i_tn, o_i_ts, o_i_tb, o_i_si, o_i_ss, o_i_st, o_i_tp, o_isN1, o_isN2, o_isN3, o_isN4, o_nin1, o_nin2, o_nin3, o_nin4, o_len_p, o_it_p0, o_it_p1, v_at0, v_at1, v_ttp, v_tup0i, v_enum, v_enum1, v_wipeE0, v_aug, v_aug1, v_aug2, List.getElem?_cons_succ, List.getElem?_cons_zero, List.set_cons_succ, List.set_cons_zero, List.length_cons, List.length_nil, Nat.reduceAdd, Nat.reduceLT, List.length_map, decide_true, decide_false, List.map_cons, List.map_nil, List.cons_append, List.nil_append, List.reduceReplicate, Nat.reduceSub, Nat.reduceLeDiff, Nat.reduceBEq, List.contains_cons, List.contains_nil, Bool.or_false, Bool.false_or, Bool.or_true, Bool.true_or, Bool.not_true, Bool.not_false, List.length_set, Nat.zero_add, List.getElem?_nil, PLs, Int.zero_add, v_range1 (r2S (m := k) (n := vs.length) (by omega) (by omega)), e]
  rfl
theorem o_lpart {es : List (Int × Int)} {vs : List Int} (hn : vs.length ≤ 1000) : fn__law_part [PDs es, DL vs] = .ok (.o (.b (.l ((partP es vs).map pD))), [some (PDs es), some (DL vs)]) := by
  have e := forF_rng (g := tName 3) (f := b2__law_part) (lo := 0) (n := vs.length) (fun i => [some (PDs es), some (DL vs), some (PLs (((List.range i).flatMap (prow vs.length)).filter (partB es vs))), none, none, none]) fun i hi => by
    rw [lp_b2 hn hi, prs_succ, List.filter_append]
    have := flat_len (n := vs.length) i
    have h2 : i * vs.length ≤ 1000 * 1000 := Nat.mul_le_mul (by omega) hn
    have := List.length_filter_le (partB es vs) ((List.range i).flatMap (prow vs.length))
    simp only [lim]
    omega
  simp only [PLs, List.range_zero, List.flatMap_nil, List.map_nil, List.filter_nil] at e
  simp only [fn__law_part, code__law_part, v_var, v_var_d, v_var_o, v_c, v_bind, v_of, v_fin, v_vd, v_vo, v_vs, v_vs_d, v_vs_o, v_wl, v_wm, v_view1, v_view2, v_kv1, v_kv2, v_bin, v_bin1, v_bin2, v_ix, v_un, v_un1, v_test, v_test1, v_tru, v_tru1, v_tru2, v_obind, v_notT, v_notT1, v_andT, v_andT1, v_andT2, v_orT, v_orT1, v_orT2, v_not, v_not1, v_and, v_and1, v_and2, v_or, v_or1, v_or2, v_if, v_if1, v_if2, v_ch, v_ch1, v_ch2, v_ch3, v_ch4, v_ch5, v_D, v_frz_d, v_frz_o, v_frz_s, v_frz_s1, v_frz_s2, v_toD_l, v_nil, v_cons, v_cons1, v_cons2, v_tup, v_tup0, v_tup1, v_tup2, v_tup3, v_lst, v_lst0, v_lst1, v_lst2, v_set, v_set_d, v_set_o, v_set_s, v_set_s1, v_set_s2, v_setS, v_drop, v_drop1, v_ret, v_ret1, v_retN, v_pass, v_seq, v_seq1, v_seq2, v_ifS, v_ifS1, v_ifS2, v_for, v_for1, v_range, v_range1, v_r1, v_r2, v_mut, v_mut_s, v_mut_s1, v_getB, v_getB1, v_kind, v_kind1, v_isL, v_mut2, v_mutE_l, v_mutR, v_append, o_add, o_sub, o_mul, o_mod, o_fdiv, o_lt, o_le, o_gt, o_ge, o_int, o_len_l, o_len_s, o_len_t, o_abs, o_neg, o_it_l, o_it_s, o_it_t, o_item, v_lstN, v_tupN, v_tryAs, v_tryA1, v_tryA2, v_tryB1, v_tryB2, v_allA, v_wpX1, v_wpX2, v_noX1, v_try, v_try1, v_try2, v_isE, v_isE1, v_frzE, v_frzE1, o_ltX_pl, o_min2X_pl, v_fn, v_fn1, o_isN5, v_call, v_call1, v_A, v_aNil, v_aVar, v_aVar1, v_aVar2, v_aD, v_aD1, v_items, v_items_l, v_items_dl, v_items_dt, v_items_ds, v_items_s, v_items_s1, v_items_s2, v_items_s3, v_lstRg, v_dic, v_forH, v_forH1, v_forH2, v_restF, v_put, v_put1, v_put2, v_put3, v_putE, v_putR, v_fs, v_fs1, v_fld, v_fz, v_fz1, v_fz2, v_fz3, v_toD_i, v_toD_m, v_toDd, v_toDo, v_toDwl, v_toDwr, v_yes, v_make, v_make1, v_meth, v_meth2, v_sl, v_sl1, v_sl2, v_sl3, v_none, v_some, v_some1, o_slice_l, o_list_l, o_list_t, o_tup_l, o_tup_t, o_min2, o_max2, o_eq_i, o_ne_i, o_bl_eq, o_bl_ne, o_tru, o_isB, o_notB, o_add_l, o_in_il, o_nin_il, o_in_it, o_in_pl, o_in_pt, o_nin_pt, o_eq_il, o_ne_il, o_eq_pt, o_eq_pl, o_ne_p, o_eq_p, o_sort_pl, o_sort_pm, o_sort_il, v_wipe0, v_wipe1, v_wp, v_wpB, v_wp1, v_wp2, v_wp3, v_wp4, v_wp5, v_nd0, v_nd1, v_nd2, v_ap, v_ap1, v_ap2, v_ap3, v_ap4, v_slots0, v_slots1, v_slots2, v_args0, v_args1, v_args2, v_args3, v_args4, v_upd0, v_upd1, v_upd2, v_mk, v_mk1, v_mk2, v_mk3, v_run, v_end1, v_end2, v_end3, v_end4, v_end6, v_end7, v_end5, v_outs0, v_outs1, v_outs2, v_outs3, v_outs4, v_raise, v_bindx, v_seq3, v_seq4, v_seq5, v_nx1, v_nx2, v_nx3, v_nx4, v_nx5, v_iter, v_iter1, v_tname, v_ts0, v_ts1, v_ts2, v_ttup, v_for0, o_i_ii, o_i_ib, o_i_in, o_i_it, o_i_is, o_i_il, o_i_bi, o_i_bb, o_i_tt, o_i_ti, o_i_tl, o_i_tn, o_i_ts, o_i_tb, o_i_si, o_i_ss, o_i_st, o_i_tp, o_isN1, o_isN2, o_isN3, o_isN4, o_nin1, o_nin2, o_nin3, o_nin4, o_len_p, o_it_p0, o_it_p1, v_at0, v_at1, v_ttp, v_tup0i, v_enum, v_enum1, v_wipeE0, v_aug, v_aug1, v_aug2, List.getElem?_cons_succ, List.getElem?_cons_zero, List.set_cons_succ, List.set_cons_zero, List.length_cons, List.length_nil, Nat.reduceAdd, Nat.reduceLT, List.length_map, decide_true, decide_false, List.map_cons, List.map_nil, List.cons_append, List.nil_append, List.reduceReplicate, Nat.reduceSub, Nat.reduceLeDiff, Nat.reduceBEq, List.contains_cons, List.contains_nil, Bool.or_false, Bool.false_or, Bool.or_true, Bool.true_or, Bool.not_true, Bool.not_false, List.length_set, Nat.zero_add, List.getElem?_nil, v_range1 (r1N (n := vs.length) (by omega)), e]
  rfl
end K03
namespace K03
open J
theorem ob_ok {xs : List Int} {p : Nat} {n j : Int} {os ls : List Int} (h : os.length < lim) (h1 : 0 < ls.length) (h2 : ls.length < 1000000) : ∃ (x : Int) (ls' : List Int), (x :: ls').Perm ls ∧ iter1 (tName 5) b1__law_order (.int j) [some (DL xs), some (PL p), OI n, some (IL os), some (IL ls), none] =
    .ok (.nx [some (DL xs), some (PL (tkP xs p)), OI n, some (IL (os ++ [x])), some (IL ls'), none]) := by
  have hl : (os.map D.int).length < lim := by simpa using h
  have hp : (0 : Int) < (ls.length : Int) := by omega
  obtain ⟨k, hk⟩ : ∃ k : Nat, tkV xs p % (ls.length : Int) = k := ⟨(tkV xs p % (ls.length : Int)).toNat, by have := Int.emod_nonneg (tkV xs p) (show (ls.length : Int) ≠ 0 by omega); omega⟩
  have hkl : k < ls.length := by have := Int.emod_lt_of_pos (tkV xs p) hp; omega
  have hx : (ls.map D.int)[k]? = some (.int ls[k]) := by simp [hkl]
  refine ⟨ls[k], ls.eraseIdx k, perm_erase (List.getElem?_eq_getElem hkl), ?_⟩
  have ee : (ls.map D.int).eraseIdx k = (ls.eraseIdx k).map D.int := er_map _ _ _
  have m := o_mod (a := tkV xs p) (b := (ls.length : Int)) hp
  simp only [b1__law_order, o_take, v_var, v_var_d, v_var_o, v_c, v_bind, v_of, v_fin, v_vd, v_vo, v_vs, v_vs_d, v_vs_o, v_wl, v_wm, v_view1, v_view2, v_kv1, v_kv2, v_bin, v_bin1, v_bin2, v_ix, v_un, v_un1, v_test, v_test1, v_tru, v_tru1, v_tru2, v_obind, v_notT, v_notT1, v_andT, v_andT1, v_andT2, v_orT, v_orT1, v_orT2, v_not, v_not1, v_and, v_and1, v_and2, v_or, v_or1, v_or2, v_if, v_if1, v_if2, v_ch, v_ch1, v_ch2, v_ch3, v_ch4, v_ch5, v_D, v_frz_d, v_frz_o, v_frz_s, v_frz_s1, v_frz_s2, v_toD_l, v_nil, v_cons, v_cons1, v_cons2, v_tup, v_tup0, v_tup1, v_tup2, v_tup3, v_lst, v_lst0, v_lst1, v_lst2, v_set, v_set_d, v_set_o, v_set_s, v_set_s1, v_set_s2, v_setS, v_drop, v_drop1, v_ret, v_ret1, v_retN, v_pass, v_seq, v_seq1, v_seq2, v_ifS, v_ifS1, v_ifS2, v_for, v_for1, v_range, v_range1, v_r1, v_r2, v_mut, v_mut_s, v_mut_s1, v_getB, v_getB1, v_kind, v_kind1, v_isL, v_mut2, v_mutE_l, v_mutR, v_append, o_add, o_sub, o_mul, o_mod, o_fdiv, o_lt, o_le, o_gt, o_ge, o_int, o_len_l, o_len_s, o_len_t, o_abs, o_neg, o_it_l, o_it_s, o_it_t, o_item, v_lstN, v_tupN, v_tryAs, v_tryA1, v_tryA2, v_tryB1, v_tryB2, v_allA, v_wpX1, v_wpX2, v_noX1, v_try, v_try1, v_try2, v_isE, v_isE1, v_frzE, v_frzE1, o_ltX_pl, o_min2X_pl, v_fn, v_fn1, o_isN5, v_call, v_call1, v_A, v_aNil, v_aVar, v_aVar1, v_aVar2, v_aD, v_aD1, v_items, v_items_l, v_items_dl, v_items_dt, v_items_ds, v_items_s, v_items_s1, v_items_s2, v_items_s3, v_lstRg, v_dic, v_forH, v_forH1, v_forH2, v_restF, v_put, v_put1, v_put2, v_put3, v_putE, v_putR, v_fs, v_fs1, v_fld, v_fz, v_fz1, v_fz2, v_fz3, v_toD_i, v_toD_m, v_toDd, v_toDo, v_toDwl, v_toDwr, v_yes, v_make, v_make1, v_meth, v_meth2, v_sl, v_sl1, v_sl2, v_sl3, v_none, v_some, v_some1, o_slice_l, o_list_l, o_list_t, o_tup_l, o_tup_t, o_min2, o_max2, o_eq_i, o_ne_i, o_bl_eq, o_bl_ne, o_tru, o_isB, o_notB, o_add_l, o_in_il, o_nin_il, o_in_it, o_in_pl, o_in_pt, o_nin_pt, o_eq_il, o_ne_il, o_eq_pt, o_eq_pl, o_ne_p, o_eq_p, o_sort_pl, o_sort_pm, o_sort_il, v_wipe0, v_wipe1, v_wp, v_wpB, v_wp1, v_wp2, v_wp3, v_wp4, v_wp5, v_nd0, v_nd1, v_nd2, v_ap, v_ap1, v_ap2, v_ap3, v_ap4, v_slots0, v_slots1, v_slots2, v_args0, v_args1, v_args2, v_args3, v_args4, v_upd0, v_upd1, v_upd2, v_mk, v_mk1, v_mk2, v_mk3, v_run, v_end1, v_end2, v_end3, v_end4, v_end6, v_end7, v_end5, v_outs0, v_outs1, v_outs2, v_outs3, v_outs4, v_raise, v_bindx, v_seq3, v_seq4, v_seq5, v_nx1, v_nx2, v_nx3, v_nx4, v_nx5, v_iter, v_iter1, v_tname, v_ts0, v_ts1, v_ts2, v_ttup, v_for0, o_i_ii, o_i_ib, o_i_in, o_i_it, o_i_is, o_i_il, o_i_bi, o_i_bb, o_i_tt, o_i_ti, o_i_tl, o_i_tn, o_i_ts, o_i_tb, o_i_si, o_i_ss, o_i_st, o_i_tp, o_isN1, o_isN2, o_isN3, o_isN4, o_nin1, o_nin2, o_nin3, o_nin4, o_len_p, o_it_p0, o_it_p1, v_at0, v_at1, v_ttp, v_tup0i, v_enum, v_enum1, v_wipeE0, v_aug, v_aug1, v_aug2, List.getElem?_cons_succ, List.getElem?_cons_zero, List.set_cons_succ, List.set_cons_zero, List.length_cons, List.length_nil, Nat.reduceAdd, Nat.reduceLT, List.length_map, decide_true, decide_false, List.map_cons, List.map_nil, List.cons_append, List.nil_append, List.reduceReplicate, Nat.reduceSub, Nat.reduceLeDiff, Nat.reduceBEq, List.contains_cons, List.contains_nil, Bool.or_false, Bool.false_or, Bool.or_true, Bool.true_or, Bool.not_true, Bool.not_false, List.length_set, Nat.zero_add, List.getElem?_nil, m, hk, popAt hx (by omega), v_append hl, ee, IL, List.map_append]
theorem order_spec (xs : List Int) (p n : Nat) (hn : n ≤ 1000) : ∃ (p' : Nat) (os : List Int), os.Perm (upto n) ∧ fn__law_order [DL xs, PL p, .d (.int n)] = .ok (.o (.b (.l (os.map .int))), [some (DL xs), some (PL p'), OI n]) := by
  obtain ⟨⟨p', os, ls⟩, e, hp, hl⟩ := forF_rngs (g := tName 5) (f := b1__law_order) (lo := 0) (n := n) (st := fun z : Nat × List Int × List Int => [some (DL xs), some (PL z.1), OI n, some (IL z.2.1), some (IL z.2.2), none]) (fun i z => (z.2.1 ++ z.2.2).Perm (upto n) ∧ z.2.1.length = i)
    (s := (p, [], upto n)) (fun i z hi hz => by
      obtain ⟨p', os, ls⟩ := z
      obtain ⟨hp, hl⟩ := hz
      dsimp only at hp hl
      have hlen := hp.length_eq
      rw [List.length_append, upto_len] at hlen
      obtain ⟨x, ls', hp2, e⟩ := ob_ok (xs := xs) (p := p') (n := n) (os := os) (ls := ls) (j := 0 + i) (by simp only [lim]; omega) (by omega) (by omega)
      refine ⟨(tkP xs p', os ++ [x], ls'), e, ?_, by simp [hl]⟩
      dsimp only
      rw [List.append_assoc]
      exact (hp2.append_left os).trans hp) ⟨List.Perm.refl _, rfl⟩
  dsimp only at hp hl
  have hlen := hp.length_eq
  rw [List.length_append, upto_len] at hlen
  have hls : ls = [] := List.length_eq_zero_iff.mp (by omega)
  subst hls
  rw [List.append_nil] at hp
  refine ⟨p', os, hp, ?_⟩
  simp only [IL, List.map_nil] at e
  simp only [fn__law_order, code__law_order, v_var, v_var_d, v_var_o, v_c, v_bind, v_of, v_fin, v_vd, v_vo, v_vs, v_vs_d, v_vs_o, v_wl, v_wm, v_view1, v_view2, v_kv1, v_kv2, v_bin, v_bin1, v_bin2, v_ix, v_un, v_un1, v_test, v_test1, v_tru, v_tru1, v_tru2, v_obind, v_notT, v_notT1, v_andT, v_andT1, v_andT2, v_orT, v_orT1, v_orT2, v_not, v_not1, v_and, v_and1, v_and2, v_or, v_or1, v_or2, v_if, v_if1, v_if2, v_ch, v_ch1, v_ch2, v_ch3, v_ch4, v_ch5, v_D, v_frz_d, v_frz_o, v_frz_s, v_frz_s1, v_frz_s2, v_toD_l, v_nil, v_cons, v_cons1, v_cons2, v_tup, v_tup0, v_tup1, v_tup2, v_tup3, v_lst, v_lst0, v_lst1, v_lst2, v_set, v_set_d, v_set_o, v_set_s, v_set_s1, v_set_s2, v_setS, v_drop, v_drop1, v_ret, v_ret1, v_retN, v_pass, v_seq, v_seq1, v_seq2, v_ifS, v_ifS1, v_ifS2, v_for, v_for1, v_range, v_range1, v_r1, v_r2, v_mut, v_mut_s, v_mut_s1, v_getB, v_getB1, v_kind, v_kind1, v_isL, v_mut2, v_mutE_l, v_mutR, v_append, o_add, o_sub, o_mul, o_mod, o_fdiv, o_lt, o_le, o_gt, o_ge, o_int, o_len_l, o_len_s, o_len_t, o_abs, o_neg, o_it_l, o_it_s, o_it_t, o_item, v_lstN, v_tupN, v_tryAs, v_tryA1, v_tryA2, v_tryB1, v_tryB2, v_allA, v_wpX1, v_wpX2, v_noX1, v_try, v_try1, v_try2, v_isE, v_isE1, v_frzE, v_frzE1, o_ltX_pl, o_min2X_pl, v_fn, v_fn1, o_isN5, v_call, v_call1, v_A, v_aNil, v_aVar, v_aVar1, v_aVar2, v_aD, v_aD1, v_items, v_items_l, v_items_dl, v_items_dt, v_items_ds, v_items_s, v_items_s1, v_items_s2, v_items_s3, v_lstRg, v_dic, v_forH, v_forH1, v_forH2, v_restF, v_put, v_put1, v_put2, v_put3, v_putE, v_putR, v_fs, v_fs1, v_fld, v_fz, v_fz1, v_fz2, v_fz3, v_toD_i, v_toD_m, v_toDd, v_toDo, v_toDwl, v_toDwr, v_yes, v_make, v_make1, v_meth, v_meth2, v_sl, v_sl1, v_sl2, v_sl3, v_none, v_some, v_some1, o_slice_l, o_list_l, o_list_t, o_tup_l, o_tup_t, o_min2, o_max2, o_eq_i, o_ne_i, o_bl_eq, o_bl_ne, o_tru, o_isB, o_notB, o_add_l, o_in_il, o_nin_il, o_in_it, o_in_pl, o_in_pt, o_nin_pt, o_eq_il, o_ne_il, o_eq_pt, o_eq_pl, o_ne_p, o_eq_p, o_sort_pl, o_sort_pm, o_sort_il, v_wipe0, v_wipe1, v_wp, v_wpB, v_wp1, v_wp2, v_wp3, v_wp4, v_wp5, v_nd0, v_nd1, v_nd2, v_ap, v_ap1, v_ap2, v_ap3, v_ap4, v_slots0, v_slots1, v_slots2, v_args0, v_args1, v_args2, v_args3, v_args4, v_upd0, v_upd1, v_upd2, v_mk, v_mk1, v_mk2, v_mk3, v_run, v_end1, v_end2, v_end3, v_end4, v_end6, v_end7, v_end5, v_outs0, v_outs1, v_outs2, v_outs3, v_outs4, v_raise, v_bindx, v_seq3, v_seq4, v_seq5, v_nx1, v_nx2, v_nx3, v_nx4, v_nx5, v_iter, v_iter1, v_tname, v_ts0, v_ts1, v_ts2, v_ttup, v_for0, o_i_ii, o_i_ib, o_i_in, o_i_it, o_i_is, o_i_il, o_i_bi, o_i_bb, o_i_tt, o_i_ti, o_i_tl, o_i_tn, o_i_ts, o_i_tb, o_i_si, o_i_ss, o_i_st, o_i_tp, o_isN1, o_isN2, o_isN3, o_isN4, o_nin1, o_nin2, o_nin3, o_nin4, o_len_p, o_it_p0, o_it_p1, v_at0, v_at1, v_ttp, v_tup0i, v_enum, v_enum1, v_wipeE0, v_aug, v_aug1, v_aug2, List.getElem?_cons_succ, List.getElem?_cons_zero, List.set_cons_succ, List.set_cons_zero, List.length_cons, List.length_nil, Nat.reduceAdd, Nat.reduceLT, List.length_map, decide_true, decide_false, List.map_cons, List.map_nil, List.cons_append, List.nil_append, List.reduceReplicate, Nat.reduceSub, Nat.reduceLeDiff, Nat.reduceBEq, List.contains_cons, List.contains_nil, Bool.or_false, Bool.false_or, Bool.or_true, Bool.true_or, Bool.not_true, Bool.not_false, List.length_set, Nat.zero_add, List.getElem?_nil, w_lstRg (rg1 (n := n) (by omega)), v_range1 (r1N (n := n) (by omega))]
  rw [show (List.map D.int (List.map (fun (i : Nat) => (i : Int)) (List.range n))) = (upto n).map D.int from rfl]
  simp only [e, v_var, v_var_d, v_var_o, v_c, v_bind, v_of, v_fin, v_vd, v_vo, v_vs, v_vs_d, v_vs_o, v_wl, v_wm, v_view1, v_view2, v_kv1, v_kv2, v_bin, v_bin1, v_bin2, v_ix, v_un, v_un1, v_test, v_test1, v_tru, v_tru1, v_tru2, v_obind, v_notT, v_notT1, v_andT, v_andT1, v_andT2, v_orT, v_orT1, v_orT2, v_not, v_not1, v_and, v_and1, v_and2, v_or, v_or1, v_or2, v_if, v_if1, v_if2, v_ch, v_ch1, v_ch2, v_ch3, v_ch4, v_ch5, v_D, v_frz_d, v_frz_o, v_frz_s, v_frz_s1, v_frz_s2, v_toD_l, v_nil, v_cons, v_cons1, v_cons2, v_tup, v_tup0, v_tup1, v_tup2, v_tup3, v_lst, v_lst0, v_lst1, v_lst2, v_set, v_set_d, v_set_o, v_set_s, v_set_s1, v_set_s2, v_setS, v_drop, v_drop1, v_ret, v_ret1, v_retN, v_pass, v_seq, v_seq1, v_seq2, v_ifS, v_ifS1, v_ifS2, v_for, v_for1, v_range, v_range1, v_r1, v_r2, v_mut, v_mut_s, v_mut_s1, v_getB, v_getB1, v_kind, v_kind1, v_isL, v_mut2, v_mutE_l, v_mutR, v_append, o_add, o_sub, o_mul, o_mod, o_fdiv, o_lt, o_le, o_gt, o_ge, o_int, o_len_l, o_len_s, o_len_t, o_abs, o_neg, o_it_l, o_it_s, o_it_t, o_item, v_lstN, v_tupN, v_tryAs, v_tryA1, v_tryA2, v_tryB1, v_tryB2, v_allA, v_wpX1, v_wpX2, v_noX1, v_try, v_try1, v_try2, v_isE, v_isE1, v_frzE, v_frzE1, o_ltX_pl, o_min2X_pl, v_fn, v_fn1, o_isN5, v_call, v_call1, v_A, v_aNil, v_aVar, v_aVar1, v_aVar2, v_aD, v_aD1, v_items, v_items_l, v_items_dl, v_items_dt, v_items_ds, v_items_s, v_items_s1, v_items_s2, v_items_s3, v_lstRg, v_dic, v_forH, v_forH1, v_forH2, v_restF, v_put, v_put1, v_put2, v_put3, v_putE, v_putR, v_fs, v_fs1, v_fld, v_fz, v_fz1, v_fz2, v_fz3, v_toD_i, v_toD_m, v_toDd, v_toDo, v_toDwl, v_toDwr, v_yes, v_make, v_make1, v_meth, v_meth2, v_sl, v_sl1, v_sl2, v_sl3, v_none, v_some, v_some1, o_slice_l, o_list_l, o_list_t, o_tup_l, o_tup_t, o_min2, o_max2, o_eq_i, o_ne_i, o_bl_eq, o_bl_ne, o_tru, o_isB, o_notB, o_add_l, o_in_il, o_nin_il, o_in_it, o_in_pl, o_in_pt, o_nin_pt, o_eq_il, o_ne_il, o_eq_pt, o_eq_pl, o_ne_p, o_eq_p, o_sort_pl, o_sort_pm, o_sort_il, v_wipe0, v_wipe1, v_wp, v_wpB, v_wp1, v_wp2, v_wp3, v_wp4, v_wp5, v_nd0, v_nd1, v_nd2, v_ap, v_ap1, v_ap2, v_ap3, v_ap4, v_slots0, v_slots1, v_slots2, v_args0, v_args1, v_args2, v_args3, v_args4, v_upd0, v_upd1, v_upd2, v_mk, v_mk1, v_mk2, v_mk3, v_run, v_end1, v_end2, v_end3, v_end4, v_end6, v_end7, v_end5, v_outs0, v_outs1, v_outs2, v_outs3, v_outs4, v_raise, v_bindx, v_seq3, v_seq4, v_seq5, v_nx1, v_nx2, v_nx3, v_nx4, v_nx5, v_iter, v_iter1, v_tname, v_ts0, v_ts1, v_ts2, v_ttup, v_for0, o_i_ii, o_i_ib, o_i_in, o_i_it, o_i_is, o_i_il, o_i_bi, o_i_bb, o_i_tt, o_i_ti, o_i_tl, o_i_tn, o_i_ts, o_i_tb, o_i_si, o_i_ss, o_i_st, o_i_tp, o_isN1, o_isN2, o_isN3, o_isN4, o_nin1, o_nin2, o_nin3, o_nin4, o_len_p, o_it_p0, o_it_p1, v_at0, v_at1, v_ttp, v_tup0i, v_enum, v_enum1, v_wipeE0, v_aug, v_aug1, v_aug2, List.getElem?_cons_succ, List.getElem?_cons_zero, List.set_cons_succ, List.set_cons_zero, List.length_cons, List.length_nil, Nat.reduceAdd, Nat.reduceLT, List.length_map, decide_true, decide_false, List.map_cons, List.map_nil, List.cons_append, List.nil_append, List.reduceReplicate, Nat.reduceSub, Nat.reduceLeDiff, Nat.reduceBEq, List.contains_cons, List.contains_nil, Bool.or_false, Bool.false_or, Bool.or_true, Bool.true_or, Bool.not_true, Bool.not_false, List.length_set, Nat.zero_add, List.getElem?_nil]
end K03
namespace K03
open J
/-- an edge, all edges, carried over by an order -/
def mpP (o : List Int) (p : Int × Int) : Int × Int := (min (o.getD p.1.toNat 0) (o.getD p.2.toNat 0), max (o.getD p.1.toNat 0) (o.getD p.2.toNat 0))
def rowE (es : List (Int × Int)) (o : List Int) : List (Int × Int) := srtP (es.map (mpP o))
structure Least (n : Nat) (es m : List (Int × Int)) : Prop where
  ex : ∃ o : List Int, o.Perm (upto n) ∧ m = rowE es o
  le : ∀ o : List Int, o.Perm (upto n) → ltR (rowE es o) m = false
theorem Least.eq {n : Nat} {es m k : List (Int × Int)} (a : Least n es m) (b : Least n es k) : m = k := by
  obtain ⟨o, h, e⟩ := a.ex
  obtain ⟨o', h', e'⟩ := b.ex
  have h1 := b.le o h
  have h2 := a.le o' h'
  rw [← e] at h1
  rw [← e'] at h2
  exact ltR_tri h1 h2
def mnR (b r : List (Int × Int)) : List (Int × Int) := if ltR r b = true then r else b
theorem mnR_fold (f : List Int → List (Int × Int)) : ∀ (L : List (List Int)) (b : List (Int × Int)), (L.foldl (fun b o => mnR b (f o)) b = b ∨ ∃ o ∈ L, L.foldl (fun b o => mnR b (f o)) b = f o) ∧ ltR b (L.foldl (fun b o => mnR b (f o)) b) = false ∧ ∀ o ∈ L, ltR (f o) (L.foldl (fun b o => mnR b (f o)) b) = false
  | [], b => ⟨.inl rfl, ltR_irr b, fun _ h => by cases h⟩
  | x :: L, b => by
    rw [List.foldl_cons]
    obtain ⟨h1, h2, h3⟩ := mnR_fold f L (mnR b (f x))
    have hb : ltR b (L.foldl (fun b o => mnR b (f o)) (mnR b (f x))) = false := by
      by_cases c : ltR (f x) b = true
      · have e : mnR b (f x) = f x := by unfold mnR; rw [if_pos c]
        rw [e] at h2 ⊢
        cases q : ltR b (L.foldl (fun b o => mnR b (f o)) (f x)) with
        | false => rfl
        | true => rw [ltR_trans c q] at h2; cases h2
      · have e : mnR b (f x) = b := by unfold mnR; rw [if_neg c]
        rw [e] at h2 ⊢
        exact h2
    have hx : ltR (f x) (L.foldl (fun b o => mnR b (f o)) (mnR b (f x))) = false := by
      by_cases c : ltR (f x) b = true
      · have e : mnR b (f x) = f x := by unfold mnR; rw [if_pos c]
        rw [e] at h2 ⊢
        exact h2
      · have e : mnR b (f x) = b := by unfold mnR; rw [if_neg c]
        rw [e] at h2 ⊢
        cases q : ltR (f x) (L.foldl (fun b o => mnR b (f o)) b) with
        | false => rfl
        | true =>
          cases q2 : ltR b (f x) with
          | true => rw [ltR_trans q2 q] at h2; cases h2
          | false =>
            have : f x = b := ltR_tri (by simpa using c) q2
            rw [this, h2] at q; cases q
    refine ⟨?_, hb, fun o ho => ?_⟩
    · rcases h1 with h1 | ⟨o, ho, h1⟩
      · by_cases c : ltR (f x) b = true
        · have e : mnR b (f x) = f x := by unfold mnR; rw [if_pos c]
          exact .inr ⟨x, List.mem_cons_self, by rw [h1, e]⟩
        · have e : mnR b (f x) = b := by unfold mnR; rw [if_neg c]
          exact .inl (by rw [h1, e])
      · exact .inr ⟨o, List.mem_cons_of_mem _ ho, h1⟩
    · rcases List.mem_cons.mp ho with rfl | ho
      · exact hx
      · exact h3 o ho
theorem least_fold {n : Nat} {es : List (Int × Int)} {L : List (List Int)} {o0 : List Int} (h0 : o0.Perm (upto n)) (h : ∀ o, (o ∈ L ∨ o = o0) ↔ o.Perm (upto n)) : Least n es (L.foldl (fun b o => mnR b (rowE es o)) (rowE es o0)) := by
  obtain ⟨h1, h2, h3⟩ := mnR_fold (rowE es) L (rowE es o0)
  refine ⟨?_, fun o ho => ?_⟩
  · rcases h1 with h1 | ⟨o, ho, h1⟩
    · exact ⟨o0, h0, h1⟩
    · exact ⟨o, (h o).mp (.inl ho), h1⟩
  · rcases (h o).mpr ho with ho | rfl
    · exact h3 o ho
    · exact h2
def insA (k : Int) (o : List Int) (i : Nat) : List Int := o.take i ++ [k] ++ o.drop i
def insL (k : Int) (o : List Int) : List (List Int) := (List.range (o.length + 1)).map (insA k o)
def ords : Nat → List (List Int)
  | 0 => [[]]
  | k + 1 => (ords k).flatMap (insL k)
theorem upto_succ (k : Nat) : upto (k + 1) = upto k ++ [(k : Int)] := by
  unfold upto; rw [List.range_succ, List.map_append]; rfl
theorem insA_perm {k : Int} {o : List Int} {i : Nat} : (insA k o i).Perm (o ++ [k]) := by
  unfold insA
  have h : (o.take i ++ [k] ++ o.drop i).Perm (o.take i ++ o.drop i ++ [k]) := by
    rw [List.append_assoc, List.append_assoc]
    exact (List.perm_append_comm).append_left _
  rw [List.take_append_drop] at h
  exact h
theorem mem_ords : ∀ {k : Nat} {o : List Int}, o ∈ ords k ↔ o.Perm (upto k)
  | 0, o => by
    show o ∈ [[]] ↔ o.Perm []
    rw [List.mem_singleton, List.perm_nil]
  | k + 1, o => by
    show o ∈ (ords k).flatMap (insL k) ↔ _
    rw [List.mem_flatMap, upto_succ]
    constructor
    · rintro ⟨o', h, m⟩
      obtain ⟨i, _, rfl⟩ := List.mem_map.mp m
      exact insA_perm.trans ((mem_ords.mp h).append_right _)
    · intro h
      have hk : (k : Int) ∈ o := h.mem_iff.mpr (by simp)
      obtain ⟨a, b, rfl⟩ := List.append_of_mem hk
      refine ⟨a ++ b, mem_ords.mpr ?_, List.mem_map.mpr ⟨a.length, List.mem_range.mpr (by simp; omega), ?_⟩⟩
      · have h1 : (a ++ (k : Int) :: b).Perm (a ++ b ++ [(k : Int)]) := by
          rw [List.append_assoc]
          refine List.Perm.append_left _ ?_
          exact (List.perm_append_comm (l₁ := b) (l₂ := [(k : Int)])).symm
        exact (List.perm_append_right_iff _).mp (h1.symm.trans h)
      · unfold insA
        rw [List.take_left, List.drop_left, List.append_assoc]; rfl
theorem ords_len : ∀ {k n : Nat}, k ≤ n → (ords k).length ≤ (n + 1) ^ k
  | 0, _, _ => Nat.le_refl _
  | k + 1, n, h => by
    have ih := ords_len (k := k) (n := n) (by omega)
    show ((ords k).flatMap (insL k)).length ≤ _
    rw [List.length_flatMap]
    have h2 : ((ords k).map fun o => (insL k o).length) = (ords k).map fun _ => k + 1 := List.map_congr_left fun o ho => by
      unfold insL
      rw [List.length_map, List.length_range, (mem_ords.mp ho).length_eq, upto_len]
    rw [h2, List.map_const', List.sum_replicate_nat, Nat.pow_succ]
    exact Nat.mul_le_mul ih (by omega)
def lext (n : Nat) (o : List Int) : List (List Int) := ((upto n).filter fun j => !decide (j ∈ o)).map fun j => o ++ [j]
def lords (n : Nat) : Nat → List (List Int)
  | 0 => [[]]
  | k + 1 => (lords n k).flatMap (lext n)
theorem mem_lords {n : Nat} : ∀ {k : Nat} {o : List Int}, o ∈ lords n k ↔ o.length = k ∧ o.Nodup ∧ ∀ x ∈ o, 0 ≤ x ∧ x < n
  | 0, o => by
    show o ∈ [[]] ↔ _
    rw [List.mem_singleton]
    constructor
    · rintro rfl; simp
    · rintro ⟨h, _⟩; exact List.length_eq_zero_iff.mp h
  | k + 1, o => by
    show o ∈ (lords n k).flatMap (lext n) ↔ _
    rw [List.mem_flatMap]
    constructor
    · rintro ⟨o', h, m⟩
      obtain ⟨j, hj, rfl⟩ := List.mem_map.mp m
      obtain ⟨h1, h2, h3⟩ := mem_lords.mp h
      rw [List.mem_filter, mem_upto] at hj
      obtain ⟨hj1, hj2⟩ := hj
      simp only [Bool.not_eq_true', decide_eq_false_iff_not] at hj2
      refine ⟨by simp [h1], ?_, fun x hx => ?_⟩
      · rw [List.nodup_append]
        refine ⟨h2, by simp, fun a ha b hb => ?_⟩
        rw [List.mem_singleton] at hb
        subst hb
        rintro rfl
        exact hj2 ha
      · rcases List.mem_append.mp hx with hx | hx
        · exact h3 x hx
        · rw [List.mem_singleton] at hx; subst hx; exact hj1
    · rintro ⟨h1, h2, h3⟩
      have hne : o ≠ [] := by rintro rfl; simp at h1
      have e := List.dropLast_concat_getLast hne
      rw [← e] at h2
      rw [List.nodup_append] at h2
      obtain ⟨d1, _, d2⟩ := h2
      refine ⟨o.dropLast, mem_lords.mpr ⟨by simp [h1], d1, fun x hx => h3 x (List.dropLast_subset o hx)⟩, List.mem_map.mpr ⟨o.getLast hne, ?_, e⟩⟩
      rw [List.mem_filter, mem_upto]
      refine ⟨h3 _ (List.getLast_mem hne), ?_⟩
      simp only [Bool.not_eq_true', decide_eq_false_iff_not]
      intro hm
      exact d2 _ hm _ (by simp) rfl
theorem perm_of {n : Nat} {o : List Int} (h1 : o.length = n) (h2 : o.Nodup) (h3 : ∀ x ∈ o, 0 ≤ x ∧ x < n) : o.Perm (upto n) := by
  rw [List.perm_ext_iff_of_nodup h2 (upto_nodup n)]
  intro a
  refine ⟨fun ha => mem_upto.mpr (h3 a ha), fun ha => ?_⟩
  refine Decidable.byContradiction fun hn => ?_
  have := nodup_le (p := a :: o) (q := upto n) (List.nodup_cons.mpr ⟨hn, h2⟩) fun x hx => by
    rcases List.mem_cons.mp hx with rfl | hx
    · exact ha
    · exact mem_upto.mpr (h3 x hx)
  rw [upto_len, List.length_cons] at this
  omega
theorem mem_lords_n {n : Nat} {o : List Int} : o ∈ lords n n ↔ o.Perm (upto n) := by
  rw [mem_lords]
  constructor
  · rintro ⟨h1, h2, h3⟩; exact perm_of h1 h2 h3
  · intro h
    exact ⟨by rw [h.length_eq, upto_len], h.symm.nodup (upto_nodup n), fun x hx => mem_upto.mp (h.mem_iff.mp hx)⟩
theorem lext_len {n : Nat} {o : List Int} : (lext n o).length ≤ n := by
  unfold lext
  rw [List.length_map]
  have := List.length_filter_le (fun j => !decide (j ∈ o)) (upto n)
  rw [upto_len] at this
  exact this
theorem flatMap_len {α β : Type} {f : α → List β} {c : Nat} (h : ∀ a, (f a).length ≤ c) : ∀ xs : List α, (xs.flatMap f).length ≤ xs.length * c
  | [] => Nat.zero_le _
  | x :: xs => by
    rw [List.flatMap_cons, List.length_append, List.length_cons, Nat.succ_mul]
    have := h x
    have := flatMap_len h xs
    omega
theorem lords_len {n : Nat} : ∀ {k : Nat}, (lords n k).length ≤ n ^ k
  | 0 => Nat.le_refl _
  | k + 1 => by
    have h := flatMap_len (f := lext n) (c := n) (fun _ => lext_len) (lords n k)
    have ih := lords_len (n := n) (k := k)
    show ((lords n k).flatMap (lext n)).length ≤ _
    rw [Nat.pow_succ]
    exact Nat.le_trans h (Nat.mul_le_mul_right n ih)
theorem upto_at {n : Nat} {i : Nat} (h : i < n) : (upto n).getD i 0 = i := by
  unfold upto
  rw [List.getD_eq_getElem?_getD, List.getElem?_map, List.getElem?_range h]; rfl
theorem rowE_id {n : Nat} {es : List (Int × Int)} (g : Good n es) : rowE es (upto n) = srtP es := by
  unfold rowE
  congr 1
  refine (List.map_congr_left fun p hp => ?_).trans (List.map_id _)
  have h := g.mem p hp
  unfold mpP
  rw [upto_at (by omega), upto_at (by omega)]
  ext
  · show min ((p.1.toNat : Nat) : Int) (p.2.toNat : Nat) = p.1
    omega
  · show max ((p.1.toNat : Nat) : Int) (p.2.toNat : Nat) = p.2
    omega
theorem at_inj {o : List Int} {i j : Nat} (nd : o.Nodup) (hi : i < o.length) (hj : j < o.length) (e : o.getD i 0 = o.getD j 0) : i = j := by
  rw [List.getD_eq_getElem?_getD, List.getD_eq_getElem?_getD, List.getElem?_eq_getElem hi, List.getElem?_eq_getElem hj] at e
  exact (List.getElem_inj nd).mp e
theorem at_mem {o : List Int} {i : Nat} (hi : i < o.length) : o.getD i 0 ∈ o := by
  rw [List.getD_eq_getElem?_getD, List.getElem?_eq_getElem hi]
  exact List.getElem_mem hi
theorem rowE_good {n : Nat} {es : List (Int × Int)} {o : List Int} (g : Good n es) (h : o.Perm (upto n)) : Good n (rowE es o) := by
  have hl : o.length = n := by rw [h.length_eq, upto_len]
  have nd : o.Nodup := h.symm.nodup (upto_nodup n)
  refine Good.perm ⟨fun q hq => ?_, ?_⟩ (List.mergeSort_perm _ _)
  · obtain ⟨p, hp, rfl⟩ := List.mem_map.mp hq
    have hp := g.mem p hp
    have m1 := mem_upto.mp (h.mem_iff.mp (at_mem (o := o) (i := p.1.toNat) (by omega)))
    have m2 := mem_upto.mp (h.mem_iff.mp (at_mem (o := o) (i := p.2.toNat) (by omega)))
    have ne : o.getD p.1.toNat 0 ≠ o.getD p.2.toNat 0 := fun e => by
      have := at_inj nd (by omega) (by omega) e
      omega
    unfold mpP
    dsimp only
    omega
  · refine List.pairwise_map.mpr (List.Pairwise.imp_of_mem (fun {p q} hp hq hne e => hne ?_) g.nd)
    have hp := g.mem p hp
    have hq := g.mem q hq
    have i1 := fun a b (x : a < n) (y : b < n) => at_inj (o := o) (i := a) (j := b) nd (by omega) (by omega)
    unfold mpP at e
    rw [Prod.mk.injEq] at e
    obtain ⟨e1, e2⟩ := e
    have h1 := i1 p.1.toNat q.1.toNat (by omega) (by omega)
    have h2 := i1 p.2.toNat q.2.toNat (by omega) (by omega)
    have h3 := i1 p.1.toNat q.2.toNat (by omega) (by omega)
    have h4 := i1 p.2.toNat q.1.toNat (by omega) (by omega)
    have : (o.getD p.1.toNat 0 = o.getD q.1.toNat 0 ∧ o.getD p.2.toNat 0 = o.getD q.2.toNat 0) ∨ (o.getD p.1.toNat 0 = o.getD q.2.toNat 0 ∧ o.getD p.2.toNat 0 = o.getD q.1.toNat 0) := by omega
    rcases this with ⟨a, b⟩ | ⟨a, b⟩
    · have := h1 a; have := h2 b
      ext <;> omega
    · have := h3 a; have := h4 b
      omega
theorem rowE_srt {es : List (Int × Int)} {o : List Int} : srtP (rowE es o) = rowE es o := srtP_eq (List.Perm.refl _) (srtP_sorted _)
theorem rowE_congr {es fs : List (Int × Int)} {o : List Int} (h : es.Perm fs) : rowE es o = rowE fs o := srtP_congr (h.map _)
end K03
namespace K03
open J
theorem mpP_comm {o : List Int} {a b : Int} : mpP o (min a b, max a b) = mpP o (a, b) := by
  unfold mpP
  dsimp only
  by_cases h : a ≤ b
  · rw [Int.min_eq_left h, Int.max_eq_right h]
  · have h' : b ≤ a := by omega
    rw [Int.min_eq_right h', Int.max_eq_left h', Int.min_comm (o.getD b.toNat 0), Int.max_comm (o.getD b.toNat 0)]
theorem rowE_part {n : Nat} {es : List (Int × Int)} {os o o' : List Int} (g : Good n es) (hos : os.Perm (upto n)) (h : ∀ u : Int, 0 ≤ u ∧ u < n → o'.getD u.toNat 0 = o.getD (plc os u).toNat 0) : rowE (partP es os) o = rowE es o' := by
  have nd : os.Nodup := hos.symm.nodup (upto_nodup n)
  rw [← rowE_congr (partM_perm g nd)]
  unfold rowE
  congr 1
  have hf : es.filter (fun p => decide (p.1 ∈ os ∧ p.2 ∈ os)) = es := by
    rw [List.filter_eq_self]
    intro p hp
    have := g.mem p hp
    rw [decide_eq_true_eq]
    exact ⟨hos.mem_iff.mpr (mem_upto.mpr (by omega)), hos.mem_iff.mpr (mem_upto.mpr (by omega))⟩
  unfold partM
  rw [hf, List.map_map]
  refine List.map_congr_left fun p hp => ?_
  have hp := g.mem p hp
  show mpP o (partS os p) = _
  unfold partS
  rw [mpP_comm]
  unfold mpP
  dsimp only
  rw [h p.1 (by omega), h p.2 (by omega)]
theorem back_perm {n : Nat} {os o : List Int} (hos : os.Perm (upto n)) (h : o.Perm (upto n)) : ((upto n).map fun u => o.getD (plc os u).toNat 0).Perm (upto n) := by
  have lo : o.length = n := by rw [h.length_eq, upto_len]
  have los : os.length = n := by rw [hos.length_eq, upto_len]
  have nd : o.Nodup := h.symm.nodup (upto_nodup n)
  refine perm_of (by rw [List.length_map, upto_len]) ?_ fun x hx => ?_
  · refine List.pairwise_map.mpr (List.Pairwise.imp_of_mem (fun {p q} hp hq hne e => hne ?_) (upto_nodup n))
    have p1 := plc_lt (hos.mem_iff.mpr hp)
    have q1 := plc_lt (hos.mem_iff.mpr hq)
    have := at_inj nd (by omega) (by omega) e
    exact plc_inj (hos.mem_iff.mpr hp) (hos.mem_iff.mpr hq) (by omega)
  · obtain ⟨u, hu, rfl⟩ := List.mem_map.mp hx
    have p1 := plc_lt (hos.mem_iff.mpr hu)
    exact mem_upto.mp (h.mem_iff.mp (at_mem (by omega)))
theorem forth_perm {n : Nat} {os o : List Int} (hos : os.Perm (upto n)) (h : o.Perm (upto n)) : (os.map fun u => o.getD u.toNat 0).Perm (upto n) := by
  have lo : o.length = n := by rw [h.length_eq, upto_len]
  have los : os.length = n := by rw [hos.length_eq, upto_len]
  have nd : o.Nodup := h.symm.nodup (upto_nodup n)
  have ndo : os.Nodup := hos.symm.nodup (upto_nodup n)
  refine perm_of (by rw [List.length_map, los]) ?_ fun x hx => ?_
  · refine List.pairwise_map.mpr (List.Pairwise.imp_of_mem (fun {p q} hp hq hne e => hne ?_) ndo)
    have p1 := mem_upto.mp (hos.mem_iff.mp hp)
    have q1 := mem_upto.mp (hos.mem_iff.mp hq)
    have := at_inj nd (by omega) (by omega) e
    omega
  · obtain ⟨u, hu, rfl⟩ := List.mem_map.mp hx
    have p1 := mem_upto.mp (hos.mem_iff.mp hu)
    exact mem_upto.mp (h.mem_iff.mp (at_mem (by omega)))
theorem part_good {n : Nat} {es : List (Int × Int)} {os : List Int} (hos : os.Perm (upto n)) : Good n (partP es os) := by
  have := sub_good (partP_sub (es := es) (vs := os))
  rwa [hos.length_eq, upto_len] at this
theorem least_part {n : Nat} {es m : List (Int × Int)} {os : List Int} (g : Good n es) (hos : os.Perm (upto n)) (l : Least n es m) : Least n (partP es os) m := by
  have los : os.length = n := by rw [hos.length_eq, upto_len]
  obtain ⟨⟨o, h, e⟩, hl⟩ := l
  refine ⟨⟨os.map fun u => o.getD u.toNat 0, forth_perm hos h, ?_⟩, fun o' h' => ?_⟩
  · rw [rowE_part (o' := o) g hos fun u hu => ?_, e]
    have m := hos.mem_iff.mpr (mem_upto.mpr hu)
    have p1 := plc_lt m
    have p2 := plc_at m
    rw [List.getD_eq_getElem?_getD (l := os.map _), List.getElem?_map]
    have h3 : os[(plc os u).toNat]? = some u := by
      rw [List.getD_eq_getElem?_getD, List.getElem?_eq_getElem (by omega)] at p2
      rw [List.getElem?_eq_getElem (by omega)]
      exact congrArg some p2
    rw [h3]; rfl
  · rw [rowE_part (o' := (upto n).map fun u => o'.getD (plc os u).toNat 0) g hos fun u hu => ?_]
    · exact hl _ (back_perm hos h')
    · rw [List.getD_eq_getElem?_getD, List.getElem?_map]
      unfold upto
      rw [List.getElem?_map, List.getElem?_range (by omega)]
      show o'.getD (plc os ((u.toNat : Nat) : Int)).toNat 0 = _
      rw [show ((u.toNat : Nat) : Int) = u from by omega]
end K03
namespace K03
open J
abbrev tpD (o : List Int) : D := .tup (o.map .int)
abbrev lsD (o : List Int) : D := .lst (o.map .int)
theorem pow_lim {n k : Nat} (hn : n ≤ 7) (hk : k ≤ 6) : (n + 1) ^ k ≤ 300000 := by
  have h1 : (n + 1) ^ k ≤ 8 ^ k := Nat.pow_le_pow_left (by omega) k
  have h2 : 8 ^ k ≤ 8 ^ 6 := Nat.pow_le_pow_right (by omega) hk
  have : 8 ^ 6 = 262144 := by decide
  omega
theorem or_b1 {a0 a1 : Option SV} {k : Int} {o : List Int} {acc : List (List Int)} {i : Nat} (hi : i ≤ o.length) (ho : o.length ≤ 1000) (hl : acc.length < lim) : iter1 (tName 5) b1__orders (.int (i : Int)) [a0, a1, OI k, some (.o (.b (.l (acc.map tpD)))), some (.d (tpD o)), none] = .ok (.nx [a0, a1, OI k, some (.o (.b (.l ((acc ++ [insA k o i]).map tpD)))), some (.d (tpD o)), none]) := by
  have hl' : (acc.map tpD).length < lim := by simpa using hl
  have t1 : (o.take i).length ≤ 1000 := by rw [List.length_take]; omega
  have t2 : (o.drop i).length ≤ 1000 := by rw [List.length_drop]; omega
  have e1 := w_add_t (xs := (o.take i).map D.int) (ys := [.int k]) (by simp only [List.length_map, List.length_cons, List.length_nil, lim]; omega)
  have e2 := w_add_t (xs := (o.take i).map D.int ++ [.int k]) (ys := (o.drop i).map D.int) (by simp only [List.length_append, List.length_map, List.length_cons, List.length_nil, lim]; omega)
  simp only [b1__orders, tpD, v_var, v_var_d, v_var_o, v_c, v_bind, v_of, v_fin, v_vd, v_vo, v_vs, v_vs_d, v_vs_o, v_wl, v_wm, v_view1, v_view2, v_kv1, v_kv2, v_bin, v_bin1, v_bin2, v_ix, v_un, v_un1, v_test, v_test1, v_tru, v_tru1, v_tru2, v_obind, v_notT, v_notT1, v_andT, v_andT1, v_andT2, v_orT, v_orT1, v_orT2, v_not, v_not1, v_and, v_and1, v_and2, v_or, v_or1, v_or2, v_if, v_if1, v_if2, v_ch, v_ch1, v_ch2, v_ch3, v_ch4, v_ch5, v_D, v_frz_d, v_frz_o, v_frz_s, v_frz_s1, v_frz_s2, v_toD_l, v_nil, v_cons, v_cons1, v_cons2, v_tup, v_tup0, v_tup1, v_tup2, v_tup3, v_lst, v_lst0, v_lst1, v_lst2, v_set, v_set_d, v_set_o, v_set_s, v_set_s1, v_set_s2, v_setS, v_drop, v_drop1, v_ret, v_ret1, v_retN, v_pass, v_seq, v_seq1, v_seq2, v_ifS, v_ifS1, v_ifS2, v_for, v_for1, v_range, v_range1, v_r1, v_r2, v_mut, v_mut_s, v_mut_s1, v_getB, v_getB1, v_kind, v_kind1, v_isL, v_mut2, v_mutE_l, v_mutR, v_append, o_add, o_sub, o_mul, o_mod, o_fdiv, o_lt, o_le, o_gt, o_ge, o_int, o_len_l, o_len_s, o_len_t, o_abs, o_neg, o_it_l, o_it_s, o_it_t, o_item, v_lstN, v_tupN, v_tryAs, v_tryA1, v_tryA2, v_tryB1, v_tryB2, v_allA, v_wpX1, v_wpX2, v_noX1, v_try, v_try1, v_try2, v_isE, v_isE1, v_frzE, v_frzE1, o_ltX_pl, o_min2X_pl, v_fn, v_fn1, o_isN5, o_slice_t, v_call, v_call1, v_A, v_aNil, v_aVar, v_aVar1, v_aVar2, v_aD, v_aD1, v_items, v_items_l, v_items_dl, v_items_dt, v_items_ds, v_items_s, v_items_s1, v_items_s2, v_items_s3, v_lstRg, v_dic, v_forH, v_forH1, v_forH2, v_restF, v_put, v_put1, v_put2, v_put3, v_putE, v_putR, v_fs, v_fs1, v_fld, v_fz, v_fz1, v_fz2, v_fz3, v_toD_i, v_toD_m, v_toDd, v_toDo, v_toDwl, v_toDwr, v_yes, v_make, v_make1, v_meth, v_meth2, v_sl, v_sl1, v_sl2, v_sl3, v_none, v_some, v_some1, o_slice_l, o_list_l, o_list_t, o_tup_l, o_tup_t, o_min2, o_max2, o_eq_i, o_ne_i, o_bl_eq, o_bl_ne, o_tru, o_isB, o_notB, o_add_l, o_in_il, o_nin_il, o_in_it, o_in_pl, o_in_pt, o_nin_pt, o_eq_il, o_ne_il, o_eq_pt, o_eq_pl, o_ne_p, o_eq_p, o_sort_pl, o_sort_pm, o_sort_il, v_wipe0, v_wipe1, v_wp, v_wpB, v_wp1, v_wp2, v_wp3, v_wp4, v_wp5, v_nd0, v_nd1, v_nd2, v_ap, v_ap1, v_ap2, v_ap3, v_ap4, v_slots0, v_slots1, v_slots2, v_args0, v_args1, v_args2, v_args3, v_args4, v_upd0, v_upd1, v_upd2, v_mk, v_mk1, v_mk2, v_mk3, v_run, v_end1, v_end2, v_end3, v_end4, v_end6, v_end7, v_end5, v_outs0, v_outs1, v_outs2, v_outs3, v_outs4, v_raise, v_bindx, v_seq3, v_seq4, v_seq5, v_nx1, v_nx2, v_nx3, v_nx4, v_nx5, v_iter, v_iter1, v_tname, v_ts0, v_ts1, v_ts2, v_ttup, v_for0, o_i_ii, o_i_ib, o_i_in, o_i_it, o_i_is, o_i_il, o_i_bi, o_i_bb, o_i_tt, o_i_ti, o_i_tl, o_i_tn, o_i_ts, o_i_tb, o_i_si, o_i_ss, o_i_st, o_i_tp, o_isN1, o_isN2, o_isN3, o_isN4, o_nin1, o_nin2, o_nin3, o_nin4, o_len_p, o_it_p0, o_it_p1, v_at0, v_at1, v_ttp, v_tup0i, v_enum, v_enum1, v_wipeE0, v_aug, v_aug1, v_aug2, List.getElem?_cons_succ, List.getElem?_cons_zero, List.set_cons_succ, List.set_cons_zero, List.length_cons, List.length_nil, Nat.reduceAdd, Nat.reduceLT, List.length_map, decide_true, decide_false, List.map_cons, List.map_nil, List.cons_append, List.nil_append, List.reduceReplicate, Nat.reduceSub, Nat.reduceLeDiff, Nat.reduceBEq, List.contains_cons, List.contains_nil, Bool.or_false, Bool.false_or, Bool.or_true, Bool.true_or, Bool.not_true, Bool.not_false, List.length_set, Nat.zero_add, List.getElem?_nil, cut_take hi, cut_drop hi, e1, e2, v_append hl', insA, List.map_append]
theorem or_b2 {a0 : Option SV} {k : Int} {o : List Int} {acc : List (List Int)} {a1 : Option SV} (ho : o.length ≤ 1000) (hl : acc.length + o.length + 1 < lim) : iter1 (tName 4) b2__orders (tpD o) [a0, a1, OI k, some (.o (.b (.l (acc.map tpD)))), none, none] = .ok (.nx [a0, a1, OI k, some (.o (.b (.l ((acc ++ insL k o).map tpD)))), none, none]) := by
  have e := forF_rng (g := tName 5) (f := b1__orders) (lo := 0) (n := o.length + 1) (fun i => [a0, a1, OI k, some (.o (.b (.l ((acc ++ (List.range i).map (insA k o)).map tpD)))), some (.d (tpD o)), none]) fun i hi => by
    rw [Int.zero_add, or_b1 (by omega) ho (by simp only [List.length_append, List.length_map, List.length_range]; omega), List.range_succ]
    simp only [List.map_append, List.append_assoc, List.map_cons, List.map_nil]
  simp only [List.range_zero, List.map_nil, List.append_nil] at e
  have hr := r1N (n := o.length + 1) (by omega)
  rw [show ((o.length + 1 : Nat) : Int) = (o.length : Int) + 1 from by omega] at hr
  simp only [tpD] at e
  simp only [b2__orders, tpD, v_var, v_var_d, v_var_o, v_c, v_bind, v_of, v_fin, v_vd, v_vo, v_vs, v_vs_d, v_vs_o, v_wl, v_wm, v_view1, v_view2, v_kv1, v_kv2, v_bin, v_bin1, v_bin2, v_ix, v_un, v_un1, v_test, v_test1, v_tru, v_tru1, v_tru2, v_obind, v_notT, v_notT1, v_andT, v_andT1, v_andT2, v_orT, v_orT1, v_orT2, v_not, v_not1, v_and, v_and1, v_and2, v_or, v_or1, v_or2, v_if, v_if1, v_if2, v_ch, v_ch1, v_ch2, v_ch3, v_ch4, v_ch5, v_D, v_frz_d, v_frz_o, v_frz_s, v_frz_s1, v_frz_s2, v_toD_l, v_nil, v_cons, v_cons1, v_cons2, v_tup, v_tup0, v_tup1, v_tup2, v_tup3, v_lst, v_lst0, v_lst1, v_lst2, v_set, v_set_d, v_set_o, v_set_s, v_set_s1, v_set_s2, v_setS, v_drop, v_drop1, v_ret, v_ret1, v_retN, v_pass, v_seq, v_seq1, v_seq2, v_ifS, v_ifS1, v_ifS2, v_for, v_for1, v_range, v_range1, v_r1, v_r2, v_mut, v_mut_s, v_mut_s1, v_getB, v_getB1, v_kind, v_kind1, v_isL, v_mut2, v_mutE_l, v_mutR, v_append, o_add, o_sub, o_mul, o_mod, o_fdiv, o_lt, o_le, o_gt, o_ge, o_int, o_len_l, o_len_s, o_len_t, o_abs, o_neg, o_it_l, o_it_s, o_it_t, o_item, v_lstN, v_tupN, v_tryAs, v_tryA1, v_tryA2, v_tryB1, v_tryB2, v_allA, v_wpX1, v_wpX2, v_noX1, v_try, v_try1, v_try2, v_isE, v_isE1, v_frzE, v_frzE1, o_ltX_pl, o_min2X_pl, v_fn, v_fn1, o_isN5, o_slice_t, v_call, v_call1, v_A, v_aNil, v_aVar, v_aVar1, v_aVar2, v_aD, v_aD1, v_items, v_items_l, v_items_dl, v_items_dt, v_items_ds, v_items_s, v_items_s1, v_items_s2, v_items_s3, v_lstRg, v_dic, v_forH, v_forH1, v_forH2, v_restF, v_put, v_put1, v_put2, v_put3, v_putE, v_putR, v_fs, v_fs1, v_fld, v_fz, v_fz1, v_fz2, v_fz3, v_toD_i, v_toD_m, v_toDd, v_toDo, v_toDwl, v_toDwr, v_yes, v_make, v_make1, v_meth, v_meth2, v_sl, v_sl1, v_sl2, v_sl3, v_none, v_some, v_some1, o_slice_l, o_list_l, o_list_t, o_tup_l, o_tup_t, o_min2, o_max2, o_eq_i, o_ne_i, o_bl_eq, o_bl_ne, o_tru, o_isB, o_notB, o_add_l, o_in_il, o_nin_il, o_in_it, o_in_pl, o_in_pt, o_nin_pt, o_eq_il, o_ne_il, o_eq_pt, o_eq_pl, o_ne_p, o_eq_p, o_sort_pl, o_sort_pm, o_sort_il, v_wipe0, v_wipe1, v_wp, v_wpB, v_wp1, v_wp2, v_wp3, v_wp4, v_wp5, v_nd0, v_nd1, v_nd2, v_ap, v_ap1, v_ap2, v_ap3, v_ap4, v_slots0, v_slots1, v_slots2, v_args0, v_args1, v_args2, v_args3, v_args4, v_upd0, v_upd1, v_upd2, v_mk, v_mk1, v_mk2, v_mk3, v_run, v_end1, v_end2, v_end3, v_end4, v_end6, v_end7, v_end5, v_outs0, v_outs1, v_outs2, v_outs3, v_outs4, v_raise, v_bindx, v_seq3, v_seq4, v_seq5, v_nx1, v_nx2, v_nx3, v_nx4, v_nx5, v_iter, v_iter1, v_tname, v_ts0, v_ts1, v_ts2, v_ttup, v_for0, o_i_ii, o_i_ib, o_i_in, o_i_it, o_i_is, o_i_il, o_i_bi, o_i_bb, o_i_tt, o_i_ti, o_i_tl, o_i_tn, o_i_ts, o_i_tb, o_i_si, o_i_ss, o_i_st, o_i_tp, o_isN1, o_isN2, o_isN3, o_isN4, o_nin1, o_nin2, o_nin3, o_nin4, o_len_p, o_it_p0, o_it_p1, v_at0, v_at1, v_ttp, v_tup0i, v_enum, v_enum1, v_wipeE0, v_aug, v_aug1, v_aug2, List.getElem?_cons_succ, List.getElem?_cons_zero, List.set_cons_succ, List.set_cons_zero, List.length_cons, List.length_nil, Nat.reduceAdd, Nat.reduceLT, List.length_map, decide_true, decide_false, List.map_cons, List.map_nil, List.cons_append, List.nil_append, List.reduceReplicate, Nat.reduceSub, Nat.reduceLeDiff, Nat.reduceBEq, List.contains_cons, List.contains_nil, Bool.or_false, Bool.false_or, Bool.or_true, Bool.true_or, Bool.not_true, Bool.not_false, List.length_set, Nat.zero_add, List.getElem?_nil, v_range1 hr, e]
  rfl
theorem or_b3 {n k : Nat} (hn : n ≤ 6) (hk : k < n) : iter1 (tName 2) b3__orders (.int (0 + (k : Int))) [OI n, some (.d (.lst ((ords k).map tpD))), none, none, none, none] = .ok (.nx [OI n, some (.d (.lst ((ords (k + 1)).map tpD))), none, none, none, none]) := by
  have bl := ords_len (k := k) (n := n) (by omega)
  have pl := pow_lim (n := n) (k := k) (by omega) (by omega)
  have e := forF_pre (g := tName 4) (f := b2__orders) (enc := tpD) (xs := ords k) (fun pre => [OI n, some (.d (.lst ((ords k).map tpD))), OI k, some (.o (.b (.l ((pre.flatMap (insL k)).map tpD)))), none, none]) fun p a post hq => by
    have ha : a ∈ ords k := by rw [hq]; simp
    have la : a.length = k := by rw [(mem_ords.mp ha).length_eq, upto_len]
    have hp : (p.flatMap (insL (k : Int))).length ≤ p.length * (k + 1) := by
      rw [List.length_flatMap]
      have h2 : (p.map fun o => (insL (k : Int) o).length) = p.map fun _ => k + 1 := List.map_congr_left fun o ho => by
        have ho : o ∈ ords k := by rw [hq]; simp [ho]
        unfold insL
        rw [List.length_map, List.length_range, (mem_ords.mp ho).length_eq, upto_len]
      rw [h2, List.map_const', List.sum_replicate_nat]
      exact Nat.le_refl _
    have hlen : p.length ≤ (ords k).length := by rw [hq]; simp
    have : p.length * (k + 1) ≤ 300000 * 6 := Nat.mul_le_mul (by omega) (by omega)
    rw [or_b2 (by omega) (by simp only [lim]; omega), List.flatMap_append, List.flatMap_cons, List.flatMap_nil, List.append_nil]
  simp only [List.flatMap_nil, List.map_nil] at e
  simp only [b3__orders, v_var, v_var_d, v_var_o, v_c, v_bind, v_of, v_fin, v_vd, v_vo, v_vs, v_vs_d, v_vs_o, v_wl, v_wm, v_view1, v_view2, v_kv1, v_kv2, v_bin, v_bin1, v_bin2, v_ix, v_un, v_un1, v_test, v_test1, v_tru, v_tru1, v_tru2, v_obind, v_notT, v_notT1, v_andT, v_andT1, v_andT2, v_orT, v_orT1, v_orT2, v_not, v_not1, v_and, v_and1, v_and2, v_or, v_or1, v_or2, v_if, v_if1, v_if2, v_ch, v_ch1, v_ch2, v_ch3, v_ch4, v_ch5, v_D, v_frz_d, v_frz_o, v_frz_s, v_frz_s1, v_frz_s2, v_toD_l, v_nil, v_cons, v_cons1, v_cons2, v_tup, v_tup0, v_tup1, v_tup2, v_tup3, v_lst, v_lst0, v_lst1, v_lst2, v_set, v_set_d, v_set_o, v_set_s, v_set_s1, v_set_s2, v_setS, v_drop, v_drop1, v_ret, v_ret1, v_retN, v_pass, v_seq, v_seq1, v_seq2, v_ifS, v_ifS1, v_ifS2, v_for, v_for1, v_range, v_range1, v_r1, v_r2, v_mut, v_mut_s, v_mut_s1, v_getB, v_getB1, v_kind, v_kind1, v_isL, v_mut2, v_mutE_l, v_mutR, v_append, o_add, o_sub, o_mul, o_mod, o_fdiv, o_lt, o_le, o_gt, o_ge, o_int, o_len_l, o_len_s, o_len_t, o_abs, o_neg, o_it_l, o_it_s, o_it_t, o_item, v_lstN, v_tupN, v_tryAs, v_tryA1, v_tryA2, v_tryB1, v_tryB2, v_allA, v_wpX1, v_wpX2, v_noX1, v_try, v_try1, v_try2, v_isE, v_isE1, v_frzE, v_frzE1, o_ltX_pl, o_min2X_pl, v_fn, v_fn1, o_isN5, o_slice_t, v_call, v_call1, v_A, v_aNil, v_aVar, v_aVar1, v_aVar2, v_aD, v_aD1, v_items, v_items_l, v_items_dl, v_items_dt, v_items_ds, v_items_s, v_items_s1, v_items_s2, v_items_s3, v_lstRg, v_dic, v_forH, v_forH1, v_forH2, v_restF, v_put, v_put1, v_put2, v_put3, v_putE, v_putR, v_fs, v_fs1, v_fld, v_fz, v_fz1, v_fz2, v_fz3, v_toD_i, v_toD_m, v_toDd, v_toDo, v_toDwl, v_toDwr, v_yes, v_make, v_make1, v_meth, v_meth2, v_sl, v_sl1, v_sl2, v_sl3, v_none, v_some, v_some1, o_slice_l, o_list_l, o_list_t, o_tup_l, o_tup_t, o_min2, o_max2, o_eq_i, o_ne_i, o_bl_eq, o_bl_ne, o_tru, o_isB, o_notB, o_add_l, o_in_il, o_nin_il, o_in_it, o_in_pl, o_in_pt, o_nin_pt, o_eq_il, o_ne_il, o_eq_pt, o_eq_pl, o_ne_p, o_eq_p, o_sort_pl, o_sort_pm, o_sort_il, v_wipe0, v_wipe1, v_wp, v_wpB, v_wp1, v_wp2, v_wp3, v_wp4, v_wp5, v_nd0, v_nd1, v_nd2, v_ap, v_ap1, v_ap2, v_ap3, v_ap4, v_slots0, v_slots1, v_slots2, v_args0, v_args1, v_args2, v_args3, v_args4, v_upd0, v_upd1, v_upd2, v_mk, v_mk1, v_mk2, v_mk3, v_run, v_end1, v_end2, v_end3, v_end4, v_end6, v_end7, v_end5, v_outs0, v_outs1, v_outs2, v_outs3, v_outs4, v_raise, v_bindx, v_seq3, v_seq4, v_seq5, v_nx1, v_nx2, v_nx3, v_nx4, v_nx5, v_iter, v_iter1, v_tname, v_ts0, v_ts1, v_ts2, v_ttup, v_for0, o_i_ii, o_i_ib, o_i_in, o_i_it, o_i_is, o_i_il, o_i_bi, o_i_bb, o_i_tt, o_i_ti, o_i_tl, o_i_tn, o_i_ts, o_i_tb, o_i_si, o_i_ss, o_i_st, o_i_tp, o_isN1, o_isN2, o_isN3, o_isN4, o_nin1, o_nin2, o_nin3, o_nin4, o_len_p, o_it_p0, o_it_p1, v_at0, v_at1, v_ttp, v_tup0i, v_enum, v_enum1, v_wipeE0, v_aug, v_aug1, v_aug2, List.getElem?_cons_succ, List.getElem?_cons_zero, List.set_cons_succ, List.set_cons_zero, List.length_cons, List.length_nil, Nat.reduceAdd, Nat.reduceLT, List.length_map, decide_true, decide_false, List.map_cons, List.map_nil, List.cons_append, List.nil_append, List.reduceReplicate, Nat.reduceSub, Nat.reduceLeDiff, Nat.reduceBEq, List.contains_cons, List.contains_nil, Bool.or_false, Bool.false_or, Bool.or_true, Bool.true_or, Bool.not_true, Bool.not_false, List.length_set, Nat.zero_add, List.getElem?_nil, Int.zero_add, e]
  rfl
theorem o_orders {n : Nat} (hn : n ≤ 6) : fn__orders [.d (.int n)] = .ok (.d (.lst ((ords n).map tpD)), [OI n]) := by
  have e := forF_rng (g := tName 2) (f := b3__orders) (lo := 0) (n := n) (fun i => [OI n, some (.d (.lst ((ords i).map tpD))), none, none, none, none]) fun i hi => or_b3 hn hi
  simp only [ords, List.map_cons, List.map_nil, tpD] at e
  simp only [fn__orders, code__orders, v_var, v_var_d, v_var_o, v_c, v_bind, v_of, v_fin, v_vd, v_vo, v_vs, v_vs_d, v_vs_o, v_wl, v_wm, v_view1, v_view2, v_kv1, v_kv2, v_bin, v_bin1, v_bin2, v_ix, v_un, v_un1, v_test, v_test1, v_tru, v_tru1, v_tru2, v_obind, v_notT, v_notT1, v_andT, v_andT1, v_andT2, v_orT, v_orT1, v_orT2, v_not, v_not1, v_and, v_and1, v_and2, v_or, v_or1, v_or2, v_if, v_if1, v_if2, v_ch, v_ch1, v_ch2, v_ch3, v_ch4, v_ch5, v_D, v_frz_d, v_frz_o, v_frz_s, v_frz_s1, v_frz_s2, v_toD_l, v_nil, v_cons, v_cons1, v_cons2, v_tup, v_tup0, v_tup1, v_tup2, v_tup3, v_lst, v_lst0, v_lst1, v_lst2, v_set, v_set_d, v_set_o, v_set_s, v_set_s1, v_set_s2, v_setS, v_drop, v_drop1, v_ret, v_ret1, v_retN, v_pass, v_seq, v_seq1, v_seq2, v_ifS, v_ifS1, v_ifS2, v_for, v_for1, v_range, v_range1, v_r1, v_r2, v_mut, v_mut_s, v_mut_s1, v_getB, v_getB1, v_kind, v_kind1, v_isL, v_mut2, v_mutE_l, v_mutR, v_append, o_add, o_sub, o_mul, o_mod, o_fdiv, o_lt, o_le, o_gt, o_ge, o_int, o_len_l, o_len_s, o_len_t, o_abs, o_neg, o_it_l, o_it_s, o_it_t, o_item, v_lstN, v_tupN, v_tryAs, v_tryA1, v_tryA2, v_tryB1, v_tryB2, v_allA, v_wpX1, v_wpX2, v_noX1, v_try, v_try1, v_try2, v_isE, v_isE1, v_frzE, v_frzE1, o_ltX_pl, o_min2X_pl, v_fn, v_fn1, o_isN5, o_slice_t, v_call, v_call1, v_A, v_aNil, v_aVar, v_aVar1, v_aVar2, v_aD, v_aD1, v_items, v_items_l, v_items_dl, v_items_dt, v_items_ds, v_items_s, v_items_s1, v_items_s2, v_items_s3, v_lstRg, v_dic, v_forH, v_forH1, v_forH2, v_restF, v_put, v_put1, v_put2, v_put3, v_putE, v_putR, v_fs, v_fs1, v_fld, v_fz, v_fz1, v_fz2, v_fz3, v_toD_i, v_toD_m, v_toDd, v_toDo, v_toDwl, v_toDwr, v_yes, v_make, v_make1, v_meth, v_meth2, v_sl, v_sl1, v_sl2, v_sl3, v_none, v_some, v_some1, o_slice_l, o_list_l, o_list_t, o_tup_l, o_tup_t, o_min2, o_max2, o_eq_i, o_ne_i, o_bl_eq, o_bl_ne, o_tru, o_isB, o_notB, o_add_l, o_in_il, o_nin_il, o_in_it, o_in_pl, o_in_pt, o_nin_pt, o_eq_il, o_ne_il, o_eq_pt, o_eq_pl, o_ne_p, o_eq_p, o_sort_pl, o_sort_pm, o_sort_il, v_wipe0, v_wipe1, v_wp, v_wpB, v_wp1, v_wp2, v_wp3, v_wp4, v_wp5, v_nd0, v_nd1, v_nd2, v_ap, v_ap1, v_ap2, v_ap3, v_ap4, v_slots0, v_slots1, v_slots2, v_args0, v_args1, v_args2, v_args3, v_args4, v_upd0, v_upd1, v_upd2, v_mk, v_mk1, v_mk2, v_mk3, v_run, v_end1, v_end2, v_end3, v_end4, v_end6, v_end7, v_end5, v_outs0, v_outs1, v_outs2, v_outs3, v_outs4, v_raise, v_bindx, v_seq3, v_seq4, v_seq5, v_nx1, v_nx2, v_nx3, v_nx4, v_nx5, v_iter, v_iter1, v_tname, v_ts0, v_ts1, v_ts2, v_ttup, v_for0, o_i_ii, o_i_ib, o_i_in, o_i_it, o_i_is, o_i_il, o_i_bi, o_i_bb, o_i_tt, o_i_ti, o_i_tl, o_i_tn, o_i_ts, o_i_tb, o_i_si, o_i_ss, o_i_st, o_i_tp, o_isN1, o_isN2, o_isN3, o_isN4, o_nin1, o_nin2, o_nin3, o_nin4, o_len_p, o_it_p0, o_it_p1, v_at0, v_at1, v_ttp, v_tup0i, v_enum, v_enum1, v_wipeE0, v_aug, v_aug1, v_aug2, List.getElem?_cons_succ, List.getElem?_cons_zero, List.set_cons_succ, List.set_cons_zero, List.length_cons, List.length_nil, Nat.reduceAdd, Nat.reduceLT, List.length_map, decide_true, decide_false, List.map_cons, List.map_nil, List.cons_append, List.nil_append, List.reduceReplicate, Nat.reduceSub, Nat.reduceLeDiff, Nat.reduceBEq, List.contains_cons, List.contains_nil, Bool.or_false, Bool.false_or, Bool.or_true, Bool.true_or, Bool.not_true, Bool.not_false, List.length_set, Nat.zero_add, List.getElem?_nil, v_range1 (r1N (n := n) (by omega)), e]
theorem lo_b1 {a1 a2 : Option SV} {n : Nat} {o : List Int} {acc : List (List Int)} {j : Nat} (ho : o.length ≤ 1000) (hl : acc.length < lim) : iter1 (tName 5) b1__law_orders (.int (j : Int)) [OI n, a1, a2, some (.o (.b (.l (acc.map lsD)))), some (.d (lsD o)), none] = .ok (.nx [OI n, a1, a2, some (.o (.b (.l ((acc ++ ([(j : Int)].filter fun j => !decide (j ∈ o)).map fun j => o ++ [j]).map lsD)))), some (.d (lsD o)), none]) := by
  have hl' : (acc.map lsD).length < lim := by simpa using hl
  have e1 := o_add_l (xs := o.map D.int) (ys := [.int (j : Int)]) (by simp only [List.length_map, List.length_cons, List.length_nil, lim]; omega)
  by_cases h : (j : Int) ∈ o
  · have f : ([(j : Int)].filter fun j => !decide (j ∈ o)) = [] := by simp [h]
    simp only [b1__law_orders, lsD, v_var, v_var_d, v_var_o, v_c, v_bind, v_of, v_fin, v_vd, v_vo, v_vs, v_vs_d, v_vs_o, v_wl, v_wm, v_view1, v_view2, v_kv1, v_kv2, v_bin, v_bin1, v_bin2, v_ix, v_un, v_un1, v_test, v_test1, v_tru, v_tru1, v_tru2, v_obind, v_notT, v_notT1, v_andT, v_andT1, v_andT2, v_orT, v_orT1, v_orT2, v_not, v_not1, v_and, v_and1, v_and2, v_or, v_or1, v_or2, v_if, v_if1, v_if2, v_ch, v_ch1, v_ch2, v_ch3, v_ch4, v_ch5, v_D, v_frz_d, v_frz_o, v_frz_s, v_frz_s1, v_frz_s2, v_toD_l, v_nil, v_cons, v_cons1, v_cons2, v_tup, v_tup0, v_tup1, v_tup2, v_tup3, v_lst, v_lst0, v_lst1, v_lst2, v_set, v_set_d, v_set_o, v_set_s, v_set_s1, v_set_s2, v_setS, v_drop, v_drop1, v_ret, v_ret1, v_retN, v_pass, v_seq, v_seq1, v_seq2, v_ifS, v_ifS1, v_ifS2, v_for, v_for1, v_range, v_range1, v_r1, v_r2, v_mut, v_mut_s, v_mut_s1, v_getB, v_getB1, v_kind, v_kind1, v_isL, v_mut2, v_mutE_l, v_mutR, v_append, o_add, o_sub, o_mul, o_mod, o_fdiv, o_lt, o_le, o_gt, o_ge, o_int, o_len_l, o_len_s, o_len_t, o_abs, o_neg, o_it_l, o_it_s, o_it_t, o_item, v_lstN, v_tupN, v_tryAs, v_tryA1, v_tryA2, v_tryB1, v_tryB2, v_allA, v_wpX1, v_wpX2, v_noX1, v_try, v_try1, v_try2, v_isE, v_isE1, v_frzE, v_frzE1, o_ltX_pl, o_min2X_pl, v_fn, v_fn1, o_isN5, o_slice_t, v_call, v_call1, v_A, v_aNil, v_aVar, v_aVar1, v_aVar2, v_aD, v_aD1, v_items, v_items_l, v_items_dl, v_items_dt, v_items_ds, v_items_s, v_items_s1, v_items_s2, v_items_s3, v_lstRg, v_dic, v_forH, v_forH1, v_forH2, v_restF, v_put, v_put1, v_put2, v_put3, v_putE, v_putR, v_fs, v_fs1, v_fld, v_fz, v_fz1, v_fz2, v_fz3, v_toD_i, v_toD_m, v_toDd, v_toDo, v_toDwl, v_toDwr, v_yes, v_make, v_make1, v_meth, v_meth2, v_sl, v_sl1, v_sl2, v_sl3, v_none, v_some, v_some1, o_slice_l, o_list_l, o_list_t, o_tup_l, o_tup_t, o_min2, o_max2, o_eq_i, o_ne_i, o_bl_eq, o_bl_ne, o_tru, o_isB, o_notB, o_add_l, o_in_il, o_nin_il, o_in_it, o_in_pl, o_in_pt, o_nin_pt, o_eq_il, o_ne_il, o_eq_pt, o_eq_pl, o_ne_p, o_eq_p, o_sort_pl, o_sort_pm, o_sort_il, v_wipe0, v_wipe1, v_wp, v_wpB, v_wp1, v_wp2, v_wp3, v_wp4, v_wp5, v_nd0, v_nd1, v_nd2, v_ap, v_ap1, v_ap2, v_ap3, v_ap4, v_slots0, v_slots1, v_slots2, v_args0, v_args1, v_args2, v_args3, v_args4, v_upd0, v_upd1, v_upd2, v_mk, v_mk1, v_mk2, v_mk3, v_run, v_end1, v_end2, v_end3, v_end4, v_end6, v_end7, v_end5, v_outs0, v_outs1, v_outs2, v_outs3, v_outs4, v_raise, v_bindx, v_seq3, v_seq4, v_seq5, v_nx1, v_nx2, v_nx3, v_nx4, v_nx5, v_iter, v_iter1, v_tname, v_ts0, v_ts1, v_ts2, v_ttup, v_for0, o_i_ii, o_i_ib, o_i_in, o_i_it, o_i_is, o_i_il, o_i_bi, o_i_bb, o_i_tt, o_i_ti, o_i_tl, o_i_tn, o_i_ts, o_i_tb, o_i_si, o_i_ss, o_i_st, o_i_tp, o_isN1, o_isN2, o_isN3, o_isN4, o_nin1, o_nin2, o_nin3, o_nin4, o_len_p, o_it_p0, o_it_p1, v_at0, v_at1, v_ttp, v_tup0i, v_enum, v_enum1, v_wipeE0, v_aug, v_aug1, v_aug2, List.getElem?_cons_succ, List.getElem?_cons_zero, List.set_cons_succ, List.set_cons_zero, List.length_cons, List.length_nil, Nat.reduceAdd, Nat.reduceLT, List.length_map, decide_true, decide_false, List.map_cons, List.map_nil, List.cons_append, List.nil_append, List.reduceReplicate, Nat.reduceSub, Nat.reduceLeDiff, Nat.reduceBEq, List.contains_cons, List.contains_nil, Bool.or_false, Bool.false_or, Bool.or_true, Bool.true_or, Bool.not_true, Bool.not_false, List.length_set, Nat.zero_add, List.getElem?_nil, h, f, List.append_nil]
  · have f : ([(j : Int)].filter fun j => !decide (j ∈ o)) = [(j : Int)] := by simp [h]
    simp only [b1__law_orders, lsD, v_var, v_var_d, v_var_o, v_c, v_bind, v_of, v_fin, v_vd, v_vo, v_vs, v_vs_d, v_vs_o, v_wl, v_wm, v_view1, v_view2, v_kv1, v_kv2, v_bin, v_bin1, v_bin2, v_ix, v_un, v_un1, v_test, v_test1, v_tru, v_tru1, v_tru2, v_obind, v_notT, v_notT1, v_andT, v_andT1, v_andT2, v_orT, v_orT1, v_orT2, v_not, v_not1, v_and, v_and1, v_and2, v_or, v_or1, v_or2, v_if, v_if1, v_if2, v_ch, v_ch1, v_ch2, v_ch3, v_ch4, v_ch5, v_D, v_frz_d, v_frz_o, v_frz_s, v_frz_s1, v_frz_s2, v_toD_l, v_nil, v_cons, v_cons1, v_cons2, v_tup, v_tup0, v_tup1, v_tup2, v_tup3, v_lst, v_lst0, v_lst1, v_lst2, v_set, v_set_d, v_set_o, v_set_s, v_set_s1, v_set_s2, v_setS, v_drop, v_drop1, v_ret, v_ret1, v_retN, v_pass, v_seq, v_seq1, v_seq2, v_ifS, v_ifS1, v_ifS2, v_for, v_for1, v_range, v_range1, v_r1, v_r2, v_mut, v_mut_s, v_mut_s1, v_getB, v_getB1, v_kind, v_kind1, v_isL, v_mut2, v_mutE_l, v_mutR, v_append, o_add, o_sub, o_mul, o_mod, o_fdiv, o_lt, o_le, o_gt, o_ge, o_int, o_len_l, o_len_s, o_len_t, o_abs, o_neg, o_it_l, o_it_s, o_it_t, o_item, v_lstN, v_tupN, v_tryAs, v_tryA1, v_tryA2, v_tryB1, v_tryB2, v_allA, v_wpX1, v_wpX2, v_noX1, v_try, v_try1, v_try2, v_isE, v_isE1, v_frzE, v_frzE1, o_ltX_pl, o_min2X_pl, v_fn, v_fn1, o_isN5, o_slice_t, v_call, v_call1, v_A, v_aNil, v_aVar, v_aVar1, v_aVar2, v_aD, v_aD1, v_items, v_items_l, v_items_dl, v_items_dt, v_items_ds, v_items_s, v_items_s1, v_items_s2, v_items_s3, v_lstRg, v_dic, v_forH, v_forH1, v_forH2, v_restF, v_put, v_put1, v_put2, v_put3, v_putE, v_putR, v_fs, v_fs1, v_fld, v_fz, v_fz1, v_fz2, v_fz3, v_toD_i, v_toD_m, v_toDd, v_toDo, v_toDwl, v_toDwr, v_yes, v_make, v_make1, v_meth, v_meth2, v_sl, v_sl1, v_sl2, v_sl3, v_none, v_some, v_some1, o_slice_l, o_list_l, o_list_t, o_tup_l, o_tup_t, o_min2, o_max2, o_eq_i, o_ne_i, o_bl_eq, o_bl_ne, o_tru, o_isB, o_notB, o_add_l, o_in_il, o_nin_il, o_in_it, o_in_pl, o_in_pt, o_nin_pt, o_eq_il, o_ne_il, o_eq_pt, o_eq_pl, o_ne_p, o_eq_p, o_sort_pl, o_sort_pm, o_sort_il, v_wipe0, v_wipe1, v_wp, v_wpB, v_wp1, v_wp2, v_wp3, v_wp4, v_wp5, v_nd0, v_nd1, v_nd2, v_ap, v_ap1, v_ap2, v_ap3, v_ap4, v_slots0, v_slots1, v_slots2, v_args0, v_args1, v_args2, v_args3, v_args4, v_upd0, v_upd1, v_upd2, v_mk, v_mk1, v_mk2, v_mk3, v_run, v_end1, v_end2, v_end3, v_end4, v_end6, v_end7, v_end5, v_outs0, v_outs1, v_outs2, v_outs3, v_outs4, v_raise, v_bindx, v_seq3, v_seq4, v_seq5, v_nx1, v_nx2, v_nx3, v_nx4, v_nx5, v_iter, v_iter1, v_tname, v_ts0, v_ts1, v_ts2, v_ttup, v_for0, o_i_ii, o_i_ib, o_i_in, o_i_it, o_i_is, o_i_il, o_i_bi, o_i_bb, o_i_tt, o_i_ti, o_i_tl, o_i_tn, o_i_ts, o_i_tb, o_i_si, o_i_ss, o_i_st, o_i_tp, o_isN1, o_isN2, o_isN3, o_isN4, o_nin1, o_nin2, o_nin3, o_nin4, o_len_p, o_it_p0, o_it_p1, v_at0, v_at1, v_ttp, v_tup0i, v_enum, v_enum1, v_wipeE0, v_aug, v_aug1, v_aug2, List.getElem?_cons_succ, List.getElem?_cons_zero, List.set_cons_succ, List.set_cons_zero, List.length_cons, List.length_nil, Nat.reduceAdd, Nat.reduceLT, List.length_map, decide_true, decide_false, List.map_cons, List.map_nil, List.cons_append, List.nil_append, List.reduceReplicate, Nat.reduceSub, Nat.reduceLeDiff, Nat.reduceBEq, List.contains_cons, List.contains_nil, Bool.or_false, Bool.false_or, Bool.or_true, Bool.true_or, Bool.not_true, Bool.not_false, List.length_set, Nat.zero_add, List.getElem?_nil, h, f, e1, v_append hl', List.map_append]
theorem lo_b2 {a1 a2 : Option SV} {n : Nat} {o : List Int} {acc : List (List Int)} (hn : n ≤ 1000) (ho : o.length ≤ 1000) (hl : acc.length + n < lim) : iter1 (tName 4) b2__law_orders (lsD o) [OI n, a1, a2, some (.o (.b (.l (acc.map lsD)))), none, none] = .ok (.nx [OI n, a1, a2, some (.o (.b (.l ((acc ++ lext n o).map lsD)))), none, none]) := by
  have e := forF_rng (g := tName 5) (f := b1__law_orders) (lo := 0) (n := n) (fun i => [OI n, a1, a2, some (.o (.b (.l ((acc ++ ((upto i).filter fun j => !decide (j ∈ o)).map fun j => o ++ [j]).map lsD)))), some (.d (lsD o)), none]) fun i hi => by
    have := List.length_filter_le (fun j => !decide (j ∈ o)) (upto i)
    rw [upto_len] at this
    rw [Int.zero_add, lo_b1 ho (by rw [List.length_append, List.length_map]; omega), upto_succ, List.filter_append, List.map_append (l₂ := List.filter _ [(i : Int)]), List.append_assoc]
  have u0 : upto 0 = [] := rfl
  simp only [u0, List.filter_nil, List.map_nil, List.append_nil] at e
  simp only [lsD] at e
  simp only [b2__law_orders, lsD, v_var, v_var_d, v_var_o, v_c, v_bind, v_of, v_fin, v_vd, v_vo, v_vs, v_vs_d, v_vs_o, v_wl, v_wm, v_view1, v_view2, v_kv1, v_kv2, v_bin, v_bin1, v_bin2, v_ix, v_un, v_un1, v_test, v_test1, v_tru, v_tru1, v_tru2, v_obind, v_notT, v_notT1, v_andT, v_andT1, v_andT2, v_orT, v_orT1, v_orT2, v_not, v_not1, v_and, v_and1, v_and2, v_or, v_or1, v_or2, v_if, v_if1, v_if2, v_ch, v_ch1, v_ch2, v_ch3, v_ch4, v_ch5, v_D, v_frz_d, v_frz_o, v_frz_s, v_frz_s1, v_frz_s2, v_toD_l, v_nil, v_cons, v_cons1, v_cons2, v_tup, v_tup0, v_tup1, v_tup2, v_tup3, v_lst, v_lst0, v_lst1, v_lst2, v_set, v_set_d, v_set_o, v_set_s, v_set_s1, v_set_s2, v_setS, v_drop, v_drop1, v_ret, v_ret1, v_retN, v_pass, v_seq, v_seq1, v_seq2, v_ifS, v_ifS1, v_ifS2, v_for, v_for1, v_range, v_range1, v_r1, v_r2, v_mut, v_mut_s, v_mut_s1, v_getB, v_getB1, v_kind, v_kind1, v_isL, v_mut2, v_mutE_l, v_mutR, v_append, o_add, o_sub, o_mul, o_mod, o_fdiv, o_lt, o_le, o_gt, o_ge, o_int, o_len_l, o_len_s, o_len_t, o_abs, o_neg, o_it_l, o_it_s, o_it_t, o_item, v_lstN, v_tupN, v_tryAs, v_tryA1, v_tryA2, v_tryB1, v_tryB2, v_allA, v_wpX1, v_wpX2, v_noX1, v_try, v_try1, v_try2, v_isE, v_isE1, v_frzE, v_frzE1, o_ltX_pl, o_min2X_pl, v_fn, v_fn1, o_isN5, o_slice_t, v_call, v_call1, v_A, v_aNil, v_aVar, v_aVar1, v_aVar2, v_aD, v_aD1, v_items, v_items_l, v_items_dl, v_items_dt, v_items_ds, v_items_s, v_items_s1, v_items_s2, v_items_s3, v_lstRg, v_dic, v_forH, v_forH1, v_forH2, v_restF, v_put, v_put1, v_put2, v_put3, v_putE, v_putR, v_fs, v_fs1, v_fld, v_fz, v_fz1, v_fz2, v_fz3, v_toD_i, v_toD_m, v_toDd, v_toDo, v_toDwl, v_toDwr, v_yes, v_make, v_make1, v_meth, v_meth2, v_sl, v_sl1, v_sl2, v_sl3, v_none, v_some, v_some1, o_slice_l, o_list_l, o_list_t, o_tup_l, o_tup_t, o_min2, o_max2, o_eq_i, o_ne_i, o_bl_eq, o_bl_ne, o_tru, o_isB, o_notB, o_add_l, o_in_il, o_nin_il, o_in_it, o_in_pl, o_in_pt, o_nin_pt, o_eq_il, o_ne_il, o_eq_pt, o_eq_pl, o_ne_p, o_eq_p, o_sort_pl, o_sort_pm, o_sort_il, v_wipe0, v_wipe1, v_wp, v_wpB, v_wp1, v_wp2, v_wp3, v_wp4, v_wp5, v_nd0, v_nd1, v_nd2, v_ap, v_ap1, v_ap2, v_ap3, v_ap4, v_slots0, v_slots1, v_slots2, v_args0, v_args1, v_args2, v_args3, v_args4, v_upd0, v_upd1, v_upd2, v_mk, v_mk1, v_mk2, v_mk3, v_run, v_end1, v_end2, v_end3, v_end4, v_end6, v_end7, v_end5, v_outs0, v_outs1, v_outs2, v_outs3, v_outs4, v_raise, v_bindx, v_seq3, v_seq4, v_seq5, v_nx1, v_nx2, v_nx3, v_nx4, v_nx5, v_iter, v_iter1, v_tname, v_ts0, v_ts1, v_ts2, v_ttup, v_for0, o_i_ii, o_i_ib, o_i_in, o_i_it, o_i_is, o_i_il, o_i_bi, o_i_bb, o_i_tt, o_i_ti, o_i_tl, o_i_tn, o_i_ts, o_i_tb, o_i_si, o_i_ss, o_i_st, o_i_tp, o_isN1, o_isN2, o_isN3, o_isN4, o_nin1, o_nin2, o_nin3, o_nin4, o_len_p, o_it_p0, o_it_p1, v_at0, v_at1, v_ttp, v_tup0i, v_enum, v_enum1, v_wipeE0, v_aug, v_aug1, v_aug2, List.getElem?_cons_succ, List.getElem?_cons_zero, List.set_cons_succ, List.set_cons_zero, List.length_cons, List.length_nil, Nat.reduceAdd, Nat.reduceLT, List.length_map, decide_true, decide_false, List.map_cons, List.map_nil, List.cons_append, List.nil_append, List.reduceReplicate, Nat.reduceSub, Nat.reduceLeDiff, Nat.reduceBEq, List.contains_cons, List.contains_nil, Bool.or_false, Bool.false_or, Bool.or_true, Bool.true_or, Bool.not_true, Bool.not_false, List.length_set, Nat.zero_add, List.getElem?_nil, v_range1 (r1N (n := n) (by omega)), e]
  rfl
theorem lo_b3 {n k : Nat} (hn : n ≤ 6) (hk : k < n) : iter1 (tName 2) b3__law_orders (.int (0 + (k : Int))) [OI n, some (.d (.lst ((lords n k).map lsD))), none, none, none, none] = .ok (.nx [OI n, some (.d (.lst ((lords n (k + 1)).map lsD))), none, none, none, none]) := by
  have bl := lords_len (n := n) (k := k)
  have pl := pow_lim (n := n) (k := k) (by omega) (by omega)
  have pm : n ^ k ≤ (n + 1) ^ k := Nat.pow_le_pow_left (by omega) k
  have e := forF_pre (g := tName 4) (f := b2__law_orders) (enc := lsD) (xs := lords n k) (fun pre => [OI n, some (.d (.lst ((lords n k).map lsD))), none, some (.o (.b (.l ((pre.flatMap (lext n)).map lsD)))), none, none]) fun p a post hq => by
    have ha : a ∈ lords n k := by rw [hq]; simp
    have la : a.length = k := (mem_lords.mp ha).1
    have hp := flatMap_len (f := lext n) (c := n) (fun _ => lext_len) p
    have hlen : p.length ≤ (lords n k).length := by rw [hq]; simp
    have : p.length * n ≤ 300000 * 6 := Nat.mul_le_mul (by omega) (by omega)
    rw [lo_b2 (by omega) (by omega) (by simp only [lim]; omega), List.flatMap_append, List.flatMap_cons, List.flatMap_nil, List.append_nil]
  simp only [List.flatMap_nil, List.map_nil] at e
  simp only [b3__law_orders, v_var, v_var_d, v_var_o, v_c, v_bind, v_of, v_fin, v_vd, v_vo, v_vs, v_vs_d, v_vs_o, v_wl, v_wm, v_view1, v_view2, v_kv1, v_kv2, v_bin, v_bin1, v_bin2, v_ix, v_un, v_un1, v_test, v_test1, v_tru, v_tru1, v_tru2, v_obind, v_notT, v_notT1, v_andT, v_andT1, v_andT2, v_orT, v_orT1, v_orT2, v_not, v_not1, v_and, v_and1, v_and2, v_or, v_or1, v_or2, v_if, v_if1, v_if2, v_ch, v_ch1, v_ch2, v_ch3, v_ch4, v_ch5, v_D, v_frz_d, v_frz_o, v_frz_s, v_frz_s1, v_frz_s2, v_toD_l, v_nil, v_cons, v_cons1, v_cons2, v_tup, v_tup0, v_tup1, v_tup2, v_tup3, v_lst, v_lst0, v_lst1, v_lst2, v_set, v_set_d, v_set_o, v_set_s, v_set_s1, v_set_s2, v_setS, v_drop, v_drop1, v_ret, v_ret1, v_retN, v_pass, v_seq, v_seq1, v_seq2, v_ifS, v_ifS1, v_ifS2, v_for, v_for1, v_range, v_range1, v_r1, v_r2, v_mut, v_mut_s, v_mut_s1, v_getB, v_getB1, v_kind, v_kind1, v_isL, v_mut2, v_mutE_l, v_mutR, v_append, o_add, o_sub, o_mul, o_mod, o_fdiv, o_lt, o_le, o_gt, o_ge, o_int, o_len_l, o_len_s, o_len_t, o_abs, o_neg, o_it_l, o_it_s, o_it_t, o_item, v_lstN, v_tupN, v_tryAs, v_tryA1, v_tryA2, v_tryB1, v_tryB2, v_allA, v_wpX1, v_wpX2, v_noX1, v_try, v_try1, v_try2, v_isE, v_isE1, v_frzE, v_frzE1, o_ltX_pl, o_min2X_pl, v_fn, v_fn1, o_isN5, o_slice_t, v_call, v_call1, v_A, v_aNil, v_aVar, v_aVar1, v_aVar2, v_aD, v_aD1, v_items, v_items_l, v_items_dl, v_items_dt, v_items_ds, v_items_s, v_items_s1, v_items_s2, v_items_s3, v_lstRg, v_dic, v_forH, v_forH1, v_forH2, v_restF, v_put, v_put1, v_put2, v_put3, v_putE, v_putR, v_fs, v_fs1, v_fld, v_fz, v_fz1, v_fz2, v_fz3, v_toD_i, v_toD_m, v_toDd, v_toDo, v_toDwl, v_toDwr, v_yes, v_make, v_make1, v_meth, v_meth2, v_sl, v_sl1, v_sl2, v_sl3, v_none, v_some, v_some1, o_slice_l, o_list_l, o_list_t, o_tup_l, o_tup_t, o_min2, o_max2, o_eq_i, o_ne_i, o_bl_eq, o_bl_ne, o_tru, o_isB, o_notB, o_add_l, o_in_il, o_nin_il, o_in_it, o_in_pl, o_in_pt, o_nin_pt, o_eq_il, o_ne_il, o_eq_pt, o_eq_pl, o_ne_p, o_eq_p, o_sort_pl, o_sort_pm, o_sort_il, v_wipe0, v_wipe1, v_wp, v_wpB, v_wp1, v_wp2, v_wp3, v_wp4, v_wp5, v_nd0, v_nd1, v_nd2, v_ap, v_ap1, v_ap2, v_ap3, v_ap4, v_slots0, v_slots1, v_slots2, v_args0, v_args1, v_args2, v_args3, v_args4, v_upd0, v_upd1, v_upd2, v_mk, v_mk1, v_mk2, v_mk3, v_run, v_end1, v_end2, v_end3, v_end4, v_end6, v_end7, v_end5, v_outs0, v_outs1, v_outs2, v_outs3, v_outs4, v_raise, v_bindx, v_seq3, v_seq4, v_seq5, v_nx1, v_nx2, v_nx3, v_nx4, v_nx5, v_iter, v_iter1, v_tname, v_ts0, v_ts1, v_ts2, v_ttup, v_for0, o_i_ii, o_i_ib, o_i_in, o_i_it, o_i_is, o_i_il, o_i_bi, o_i_bb, o_i_tt, o_i_ti, o_i_tl, o_i_tn, o_i_ts, o_i_tb, o_i_si, o_i_ss, o_i_st, o_i_tp, o_isN1, o_isN2, o_isN3, o_isN4, o_nin1, o_nin2, o_nin3, o_nin4, o_len_p, o_it_p0, o_it_p1, v_at0, v_at1, v_ttp, v_tup0i, v_enum, v_enum1, v_wipeE0, v_aug, v_aug1, v_aug2, List.getElem?_cons_succ, List.getElem?_cons_zero, List.set_cons_succ, List.set_cons_zero, List.length_cons, List.length_nil, Nat.reduceAdd, Nat.reduceLT, List.length_map, decide_true, decide_false, List.map_cons, List.map_nil, List.cons_append, List.nil_append, List.reduceReplicate, Nat.reduceSub, Nat.reduceLeDiff, Nat.reduceBEq, List.contains_cons, List.contains_nil, Bool.or_false, Bool.false_or, Bool.or_true, Bool.true_or, Bool.not_true, Bool.not_false, List.length_set, Nat.zero_add, List.getElem?_nil, Int.zero_add, e]
  rfl
theorem o_lorders {n : Nat} (hn : n ≤ 6) : fn__law_orders [.d (.int n)] = .ok (.d (.lst ((lords n n).map lsD)), [OI n]) := by
  have e := forF_rng (g := tName 2) (f := b3__law_orders) (lo := 0) (n := n) (fun i => [OI n, some (.d (.lst ((lords n i).map lsD))), none, none, none, none]) fun i hi => lo_b3 hn hi
  simp only [lords, List.map_cons, List.map_nil, lsD] at e
  simp only [fn__law_orders, code__law_orders, v_var, v_var_d, v_var_o, v_c, v_bind, v_of, v_fin, v_vd, v_vo, v_vs, v_vs_d, v_vs_o, v_wl, v_wm, v_view1, v_view2, v_kv1, v_kv2, v_bin, v_bin1, v_bin2, v_ix, v_un, v_un1, v_test, v_test1, v_tru, v_tru1, v_tru2, v_obind, v_notT, v_notT1, v_andT, v_andT1, v_andT2, v_orT, v_orT1, v_orT2, v_not, v_not1, v_and, v_and1, v_and2, v_or, v_or1, v_or2, v_if, v_if1, v_if2, v_ch, v_ch1, v_ch2, v_ch3, v_ch4, v_ch5, v_D, v_frz_d, v_frz_o, v_frz_s, v_frz_s1, v_frz_s2, v_toD_l, v_nil, v_cons, v_cons1, v_cons2, v_tup, v_tup0, v_tup1, v_tup2, v_tup3, v_lst, v_lst0, v_lst1, v_lst2, v_set, v_set_d, v_set_o, v_set_s, v_set_s1, v_set_s2, v_setS, v_drop, v_drop1, v_ret, v_ret1, v_retN, v_pass, v_seq, v_seq1, v_seq2, v_ifS, v_ifS1, v_ifS2, v_for, v_for1, v_range, v_range1, v_r1, v_r2, v_mut, v_mut_s, v_mut_s1, v_getB, v_getB1, v_kind, v_kind1, v_isL, v_mut2, v_mutE_l, v_mutR, v_append, o_add, o_sub, o_mul, o_mod, o_fdiv, o_lt, o_le, o_gt, o_ge, o_int, o_len_l, o_len_s, o_len_t, o_abs, o_neg, o_it_l, o_it_s, o_it_t, o_item, v_lstN, v_tupN, v_tryAs, v_tryA1, v_tryA2, v_tryB1, v_tryB2, v_allA, v_wpX1, v_wpX2, v_noX1, v_try, v_try1, v_try2, v_isE, v_isE1, v_frzE, v_frzE1, o_ltX_pl, o_min2X_pl, v_fn, v_fn1, o_isN5, o_slice_t, v_call, v_call1, v_A, v_aNil, v_aVar, v_aVar1, v_aVar2, v_aD, v_aD1, v_items, v_items_l, v_items_dl, v_items_dt, v_items_ds, v_items_s, v_items_s1, v_items_s2, v_items_s3, v_lstRg, v_dic, v_forH, v_forH1, v_forH2, v_restF, v_put, v_put1, v_put2, v_put3, v_putE, v_putR, v_fs, v_fs1, v_fld, v_fz, v_fz1, v_fz2, v_fz3, v_toD_i, v_toD_m, v_toDd, v_toDo, v_toDwl, v_toDwr, v_yes, v_make, v_make1, v_meth, v_meth2, v_sl, v_sl1, v_sl2, v_sl3, v_none, v_some, v_some1, o_slice_l, o_list_l, o_list_t, o_tup_l, o_tup_t, o_min2, o_max2, o_eq_i, o_ne_i, o_bl_eq, o_bl_ne, o_tru, o_isB, o_notB, o_add_l, o_in_il, o_nin_il, o_in_it, o_in_pl, o_in_pt, o_nin_pt, o_eq_il, o_ne_il, o_eq_pt, o_eq_pl, o_ne_p, o_eq_p, o_sort_pl, o_sort_pm, o_sort_il, v_wipe0, v_wipe1, v_wp, v_wpB, v_wp1, v_wp2, v_wp3, v_wp4, v_wp5, v_nd0, v_nd1, v_nd2, v_ap, v_ap1, v_ap2, v_ap3, v_ap4, v_slots0, v_slots1, v_slots2, v_args0, v_args1, v_args2, v_args3, v_args4, v_upd0, v_upd1, v_upd2, v_mk, v_mk1, v_mk2, v_mk3, v_run, v_end1, v_end2, v_end3, v_end4, v_end6, v_end7, v_end5, v_outs0, v_outs1, v_outs2, v_outs3, v_outs4, v_raise, v_bindx, v_seq3, v_seq4, v_seq5, v_nx1, v_nx2, v_nx3, v_nx4, v_nx5, v_iter, v_iter1, v_tname, v_ts0, v_ts1, v_ts2, v_ttup, v_for0, o_i_ii, o_i_ib, o_i_in, o_i_it, o_i_is, o_i_il, o_i_bi, o_i_bb, o_i_tt, o_i_ti, o_i_tl, o_i_tn, o_i_ts, o_i_tb, o_i_si, o_i_ss, o_i_st, o_i_tp, o_isN1, o_isN2, o_isN3, o_isN4, o_nin1, o_nin2, o_nin3, o_nin4, o_len_p, o_it_p0, o_it_p1, v_at0, v_at1, v_ttp, v_tup0i, v_enum, v_enum1, v_wipeE0, v_aug, v_aug1, v_aug2, List.getElem?_cons_succ, List.getElem?_cons_zero, List.set_cons_succ, List.set_cons_zero, List.length_cons, List.length_nil, Nat.reduceAdd, Nat.reduceLT, List.length_map, decide_true, decide_false, List.map_cons, List.map_nil, List.cons_append, List.nil_append, List.reduceReplicate, Nat.reduceSub, Nat.reduceLeDiff, Nat.reduceBEq, List.contains_cons, List.contains_nil, Bool.or_false, Bool.false_or, Bool.or_true, Bool.true_or, Bool.not_true, Bool.not_false, List.length_set, Nat.zero_add, List.getElem?_nil, v_range1 (r1N (n := n) (by omega)), e]
end K03
namespace K03
open J
theorem perm_at {n : Nat} {o : List Int} (h : o.Perm (upto n)) {u : Int} (hu : 0 ≤ u ∧ u < n) : L2.atI (o.map D.int) u = some (.int (o.getD u.toNat 0)) := at_getD (by rw [h.length_eq, upto_len]; exact hu)
theorem le_lc {n : Nat} {es : List (Int × Int)} {o : List Int} {a0 a2 a4 : Option SV} (g : Good n es) (hl : es.length ≤ 1000) (h : o.Perm (upto n)) :
    cLc (cItems (cVar 1)) [5, 6] (tTup (tsCons (tName 5) (tsCons (tName 6) tsNil))) cYes (cD (cTup (cCons (cD (cBin min2D (cIx (cVar 3) (cVar 5)) (cIx (cVar 3) (cVar 6)))) (cCons (cD (cBin max2D (cIx (cVar 3) (cVar 5)) (cIx (cVar 3) (cVar 6)))) cNil)))) [a0, some (.d (.tup (es.map pD))), a2, some (.d (tpD o)), a4, none, none]
    = .ok (.o (.b (.l ((es.map (mpP o)).map pD))), [a0, some (.d (.tup (es.map pD))), a2, some (.d (tpD o)), a4, none, none]) := by
  refine w_lcTm (g := tTup (tsCons (tName 5) (tsCons (tName 6) tsNil))) (vs := [5, 6]) (enc := pD) (mpP o) (by simp only [v_var, v_var_d, v_var_o, v_c, v_bind, v_of, v_fin, v_vd, v_vo, v_vs, v_vs_d, v_vs_o, v_wl, v_wm, v_view1, v_view2, v_kv1, v_kv2, v_bin, v_bin1, v_bin2, v_ix, v_un, v_un1, v_test, v_test1, v_tru, v_tru1, v_tru2, v_obind, v_notT, v_notT1, v_andT, v_andT1, v_andT2, v_orT, v_orT1, v_orT2, v_not, v_not1, v_and, v_and1, v_and2, v_or, v_or1, v_or2, v_if, v_if1, v_if2, v_ch, v_ch1, v_ch2, v_ch3, v_ch4, v_ch5, v_D, v_frz_d, v_frz_o, v_frz_s, v_frz_s1, v_frz_s2, v_toD_l, v_nil, v_cons, v_cons1, v_cons2, v_tup, v_tup0, v_tup1, v_tup2, v_tup3, v_lst, v_lst0, v_lst1, v_lst2, v_set, v_set_d, v_set_o, v_set_s, v_set_s1, v_set_s2, v_setS, v_drop, v_drop1, v_ret, v_ret1, v_retN, v_pass, v_seq, v_seq1, v_seq2, v_ifS, v_ifS1, v_ifS2, v_for, v_for1, v_range, v_range1, v_r1, v_r2, v_mut, v_mut_s, v_mut_s1, v_getB, v_getB1, v_kind, v_kind1, v_isL, v_mut2, v_mutE_l, v_mutR, v_append, o_add, o_sub, o_mul, o_mod, o_fdiv, o_lt, o_le, o_gt, o_ge, o_int, o_len_l, o_len_s, o_len_t, o_abs, o_neg, o_it_l, o_it_s, o_it_t, o_item, v_lstN, v_tupN, v_tryAs, v_tryA1, v_tryA2, v_tryB1, v_tryB2, v_allA, v_wpX1, v_wpX2, v_noX1, v_try, v_try1, v_try2, v_isE, v_isE1, v_frzE, v_frzE1, o_ltX_pl, o_min2X_pl, v_fn, v_fn1, o_isN5, o_slice_t, o_ne_pt, o_ne_pl, v_call, v_call1, v_A, v_aNil, v_aVar, v_aVar1, v_aVar2, v_aD, v_aD1, v_items, v_items_l, v_items_dl, v_items_dt, v_items_ds, v_items_s, v_items_s1, v_items_s2, v_items_s3, v_lstRg, v_dic, v_forH, v_forH1, v_forH2, v_restF, v_put, v_put1, v_put2, v_put3, v_putE, v_putR, v_fs, v_fs1, v_fld, v_fz, v_fz1, v_fz2, v_fz3, v_toD_i, v_toD_m, v_toDd, v_toDo, v_toDwl, v_toDwr, v_yes, v_make, v_make1, v_meth, v_meth2, v_sl, v_sl1, v_sl2, v_sl3, v_none, v_some, v_some1, o_slice_l, o_list_l, o_list_t, o_tup_l, o_tup_t, o_min2, o_max2, o_eq_i, o_ne_i, o_bl_eq, o_bl_ne, o_tru, o_isB, o_notB, o_add_l, o_in_il, o_nin_il, o_in_it, o_in_pl, o_in_pt, o_nin_pt, o_eq_il, o_ne_il, o_eq_pt, o_eq_pl, o_ne_p, o_eq_p, o_sort_pl, o_sort_pm, o_sort_il, v_wipe0, v_wipe1, v_wp, v_wpB, v_wp1, v_wp2, v_wp3, v_wp4, v_wp5, v_nd0, v_nd1, v_nd2, v_ap, v_ap1, v_ap2, v_ap3, v_ap4, v_slots0, v_slots1, v_slots2, v_args0, v_args1, v_args2, v_args3, v_args4, v_upd0, v_upd1, v_upd2, v_mk, v_mk1, v_mk2, v_mk3, v_run, v_end1, v_end2, v_end3, v_end4, v_end6, v_end7, v_end5, v_outs0, v_outs1, v_outs2, v_outs3, v_outs4, v_raise, v_bindx, v_seq3, v_seq4, v_seq5, v_nx1, v_nx2, v_nx3, v_nx4, v_nx5, v_iter, v_iter1, v_tname, v_ts0, v_ts1, v_ts2, v_ttup, v_for0, o_i_ii, o_i_ib, o_i_in, o_i_it, o_i_is, o_i_il, o_i_bi, o_i_bb, o_i_tt, o_i_ti, o_i_tl, o_i_tn, o_i_ts, o_i_tb, o_i_si, o_i_ss, o_i_st, o_i_tp, o_isN1, o_isN2, o_isN3, o_isN4, o_nin1, o_nin2, o_nin3, o_nin4, o_len_p, o_it_p0, o_it_p1, v_at0, v_at1, v_ttp, v_tup0i, v_enum, v_enum1, v_wipeE0, v_aug, v_aug1, v_aug2, List.getElem?_cons_succ, List.getElem?_cons_zero, List.set_cons_succ, List.set_cons_zero, List.length_cons, List.length_nil, Nat.reduceAdd, Nat.reduceLT, List.length_map, decide_true, decide_false, List.map_cons, List.map_nil, List.cons_append, List.nil_append, List.reduceReplicate, Nat.reduceSub, Nat.reduceLeDiff, Nat.reduceBEq, List.contains_cons, List.contains_nil, Bool.or_false, Bool.false_or, Bool.or_true, Bool.true_or, Bool.not_true, Bool.not_false, List.length_set, Nat.zero_add, List.getElem?_nil]) (fun p hp => ⟨[a0, some (.d (.tup (es.map pD))), a2, some (.d (tpD o)), a4, OI p.1, OI p.2], by simp only [v_var, v_var_d, v_var_o, v_c, v_bind, v_of, v_fin, v_vd, v_vo, v_vs, v_vs_d, v_vs_o, v_wl, v_wm, v_view1, v_view2, v_kv1, v_kv2, v_bin, v_bin1, v_bin2, v_ix, v_un, v_un1, v_test, v_test1, v_tru, v_tru1, v_tru2, v_obind, v_notT, v_notT1, v_andT, v_andT1, v_andT2, v_orT, v_orT1, v_orT2, v_not, v_not1, v_and, v_and1, v_and2, v_or, v_or1, v_or2, v_if, v_if1, v_if2, v_ch, v_ch1, v_ch2, v_ch3, v_ch4, v_ch5, v_D, v_frz_d, v_frz_o, v_frz_s, v_frz_s1, v_frz_s2, v_toD_l, v_nil, v_cons, v_cons1, v_cons2, v_tup, v_tup0, v_tup1, v_tup2, v_tup3, v_lst, v_lst0, v_lst1, v_lst2, v_set, v_set_d, v_set_o, v_set_s, v_set_s1, v_set_s2, v_setS, v_drop, v_drop1, v_ret, v_ret1, v_retN, v_pass, v_seq, v_seq1, v_seq2, v_ifS, v_ifS1, v_ifS2, v_for, v_for1, v_range, v_range1, v_r1, v_r2, v_mut, v_mut_s, v_mut_s1, v_getB, v_getB1, v_kind, v_kind1, v_isL, v_mut2, v_mutE_l, v_mutR, v_append, o_add, o_sub, o_mul, o_mod, o_fdiv, o_lt, o_le, o_gt, o_ge, o_int, o_len_l, o_len_s, o_len_t, o_abs, o_neg, o_it_l, o_it_s, o_it_t, o_item, v_lstN, v_tupN, v_tryAs, v_tryA1, v_tryA2, v_tryB1, v_tryB2, v_allA, v_wpX1, v_wpX2, v_noX1, v_try, v_try1, v_try2, v_isE, v_isE1, v_frzE, v_frzE1, o_ltX_pl, o_min2X_pl, v_fn, v_fn1, o_isN5, o_slice_t, o_ne_pt, o_ne_pl, v_call, v_call1, v_A, v_aNil, v_aVar, v_aVar1, v_aVar2, v_aD, v_aD1, v_items, v_items_l, v_items_dl, v_items_dt, v_items_ds, v_items_s, v_items_s1, v_items_s2, v_items_s3, v_lstRg, v_dic, v_forH, v_forH1, v_forH2, v_restF, v_put, v_put1, v_put2, v_put3, v_putE, v_putR, v_fs, v_fs1, v_fld, v_fz, v_fz1, v_fz2, v_fz3, v_toD_i, v_toD_m, v_toDd, v_toDo, v_toDwl, v_toDwr, v_yes, v_make, v_make1, v_meth, v_meth2, v_sl, v_sl1, v_sl2, v_sl3, v_none, v_some, v_some1, o_slice_l, o_list_l, o_list_t, o_tup_l, o_tup_t, o_min2, o_max2, o_eq_i, o_ne_i, o_bl_eq, o_bl_ne, o_tru, o_isB, o_notB, o_add_l, o_in_il, o_nin_il, o_in_it, o_in_pl, o_in_pt, o_nin_pt, o_eq_il, o_ne_il, o_eq_pt, o_eq_pl, o_ne_p, o_eq_p, o_sort_pl, o_sort_pm, o_sort_il, v_wipe0, v_wipe1, v_wp, v_wpB, v_wp1, v_wp2, v_wp3, v_wp4, v_wp5, v_nd0, v_nd1, v_nd2, v_ap, v_ap1, v_ap2, v_ap3, v_ap4, v_slots0, v_slots1, v_slots2, v_args0, v_args1, v_args2, v_args3, v_args4, v_upd0, v_upd1, v_upd2, v_mk, v_mk1, v_mk2, v_mk3, v_run, v_end1, v_end2, v_end3, v_end4, v_end6, v_end7, v_end5, v_outs0, v_outs1, v_outs2, v_outs3, v_outs4, v_raise, v_bindx, v_seq3, v_seq4, v_seq5, v_nx1, v_nx2, v_nx3, v_nx4, v_nx5, v_iter, v_iter1, v_tname, v_ts0, v_ts1, v_ts2, v_ttup, v_for0, o_i_ii, o_i_ib, o_i_in, o_i_it, o_i_is, o_i_il, o_i_bi, o_i_bb, o_i_tt, o_i_ti, o_i_tl, o_i_tn, o_i_ts, o_i_tb, o_i_si, o_i_ss, o_i_st, o_i_tp, o_isN1, o_isN2, o_isN3, o_isN4, o_nin1, o_nin2, o_nin3, o_nin4, o_len_p, o_it_p0, o_it_p1, v_at0, v_at1, v_ttp, v_tup0i, v_enum, v_enum1, v_wipeE0, v_aug, v_aug1, v_aug2, List.getElem?_cons_succ, List.getElem?_cons_zero, List.set_cons_succ, List.set_cons_zero, List.length_cons, List.length_nil, Nat.reduceAdd, Nat.reduceLT, List.length_map, decide_true, decide_false, List.map_cons, List.map_nil, List.cons_append, List.nil_append, List.reduceReplicate, Nat.reduceSub, Nat.reduceLeDiff, Nat.reduceBEq, List.contains_cons, List.contains_nil, Bool.or_false, Bool.false_or, Bool.or_true, Bool.true_or, Bool.not_true, Bool.not_false, List.length_set, Nat.zero_add, List.getElem?_nil, wipeE], ?_, rfl⟩) (by simp only [lim]; omega) rfl
  have hp := g.mem p hp
  have e1 := perm_at h (u := p.1) (by omega)
  have e2 := perm_at h (u := p.2) (by omega)
  simp only [tpD, v_var, v_var_d, v_var_o, v_c, v_bind, v_of, v_fin, v_vd, v_vo, v_vs, v_vs_d, v_vs_o, v_wl, v_wm, v_view1, v_view2, v_kv1, v_kv2, v_bin, v_bin1, v_bin2, v_ix, v_un, v_un1, v_test, v_test1, v_tru, v_tru1, v_tru2, v_obind, v_notT, v_notT1, v_andT, v_andT1, v_andT2, v_orT, v_orT1, v_orT2, v_not, v_not1, v_and, v_and1, v_and2, v_or, v_or1, v_or2, v_if, v_if1, v_if2, v_ch, v_ch1, v_ch2, v_ch3, v_ch4, v_ch5, v_D, v_frz_d, v_frz_o, v_frz_s, v_frz_s1, v_frz_s2, v_toD_l, v_nil, v_cons, v_cons1, v_cons2, v_tup, v_tup0, v_tup1, v_tup2, v_tup3, v_lst, v_lst0, v_lst1, v_lst2, v_set, v_set_d, v_set_o, v_set_s, v_set_s1, v_set_s2, v_setS, v_drop, v_drop1, v_ret, v_ret1, v_retN, v_pass, v_seq, v_seq1, v_seq2, v_ifS, v_ifS1, v_ifS2, v_for, v_for1, v_range, v_range1, v_r1, v_r2, v_mut, v_mut_s, v_mut_s1, v_getB, v_getB1, v_kind, v_kind1, v_isL, v_mut2, v_mutE_l, v_mutR, v_append, o_add, o_sub, o_mul, o_mod, o_fdiv, o_lt, o_le, o_gt, o_ge, o_int, o_len_l, o_len_s, o_len_t, o_abs, o_neg, o_it_l, o_it_s, o_it_t, o_item, v_lstN, v_tupN, v_tryAs, v_tryA1, v_tryA2, v_tryB1, v_tryB2, v_allA, v_wpX1, v_wpX2, v_noX1, v_try, v_try1, v_try2, v_isE, v_isE1, v_frzE, v_frzE1, o_ltX_pl, o_min2X_pl, v_fn, v_fn1, o_isN5, o_slice_t, o_ne_pt, o_ne_pl, v_call, v_call1, v_A, v_aNil, v_aVar, v_aVar1, v_aVar2, v_aD, v_aD1, v_items, v_items_l, v_items_dl, v_items_dt, v_items_ds, v_items_s, v_items_s1, v_items_s2, v_items_s3, v_lstRg, v_dic, v_forH, v_forH1, v_forH2, v_restF, v_put, v_put1, v_put2, v_put3, v_putE, v_putR, v_fs, v_fs1, v_fld, v_fz, v_fz1, v_fz2, v_fz3, v_toD_i, v_toD_m, v_toDd, v_toDo, v_toDwl, v_toDwr, v_yes, v_make, v_make1, v_meth, v_meth2, v_sl, v_sl1, v_sl2, v_sl3, v_none, v_some, v_some1, o_slice_l, o_list_l, o_list_t, o_tup_l, o_tup_t, o_min2, o_max2, o_eq_i, o_ne_i, o_bl_eq, o_bl_ne, o_tru, o_isB, o_notB, o_add_l, o_in_il, o_nin_il, o_in_it, o_in_pl, o_in_pt, o_nin_pt, o_eq_il, o_ne_il, o_eq_pt, o_eq_pl, o_ne_p, o_eq_p, o_sort_pl, o_sort_pm, o_sort_il, v_wipe0, v_wipe1, v_wp, v_wpB, v_wp1, v_wp2, v_wp3, v_wp4, v_wp5, v_nd0, v_nd1, v_nd2, v_ap, v_ap1, v_ap2, v_ap3, v_ap4, v_slots0, v_slots1, v_slots2, v_args0, v_args1, v_args2, v_args3, v_args4, v_upd0, v_upd1, v_upd2, v_mk, v_mk1, v_mk2, v_mk3, v_run, v_end1, v_end2, v_end3, v_end4, v_end6, v_end7, v_end5, v_outs0, v_outs1, v_outs2, v_outs3, v_outs4, v_raise, v_bindx, v_seq3, v_seq4, v_seq5, v_nx1, v_nx2, v_nx3, v_nx4, v_nx5, v_iter, v_iter1, v_tname, v_ts0, v_ts1, v_ts2, v_ttup, v_for0, o_i_ii, o_i_ib, o_i_in, o_i_it, o_i_is, o_i_il, o_i_bi, o_i_bb, o_i_tt, o_i_ti, o_i_tl, o_i_tn, o_i_ts, o_i_tb, o_i_si, o_i_ss, o_i_st, o_i_tp, o_isN1, o_isN2, o_isN3, o_isN4, o_nin1, o_nin2, o_nin3, o_nin4, o_len_p, o_it_p0, o_it_p1, v_at0, v_at1, v_ttp, v_tup0i, v_enum, v_enum1, v_wipeE0, v_aug, v_aug1, v_aug2, List.getElem?_cons_succ, List.getElem?_cons_zero, List.set_cons_succ, List.set_cons_zero, List.length_cons, List.length_nil, Nat.reduceAdd, Nat.reduceLT, List.length_map, decide_true, decide_false, List.map_cons, List.map_nil, List.cons_append, List.nil_append, List.reduceReplicate, Nat.reduceSub, Nat.reduceLeDiff, Nat.reduceBEq, List.contains_cons, List.contains_nil, Bool.or_false, Bool.false_or, Bool.or_true, Bool.true_or, Bool.not_true, Bool.not_false, List.length_set, Nat.zero_add, List.getElem?_nil, e1, e2]
  rfl
def bestD (es : List (Int × Int)) : List (List Int) → D
  | [] => .non
  | o :: os => .lst ((os.foldl (fun b o => mnR b (rowE es o)) (rowE es o)).map pD)
theorem le_b1 {n : Nat} {es : List (Int × Int)} {o : List Int} {pre : List (List Int)} (g : Good n es) (hl : es.length ≤ 1000) (h : o.Perm (upto n)) :
    iter1 (tName 3) b1__least_edges (tpD o) [OI n, some (.d (.tup (es.map pD))), some (.d (bestD es pre)), none, none, none, none] = .ok (.nx [OI n, some (.d (.tup (es.map pD))), some (.d (bestD es (pre ++ [o]))), none, none, none, none]) := by
  have e1 := le_lc (a0 := OI n) (a2 := some (.d (bestD es pre))) (a4 := none) g hl h
  cases pre with
  | nil =>
    simp only [bestD] at e1
    simp only [b1__least_edges, bestD, tpD, v_var, v_var_d, v_var_o, v_c, v_bind, v_of, v_fin, v_vd, v_vo, v_vs, v_vs_d, v_vs_o, v_wl, v_wm, v_view1, v_view2, v_kv1, v_kv2, v_bin, v_bin1, v_bin2, v_ix, v_un, v_un1, v_test, v_test1, v_tru, v_tru1, v_tru2, v_obind, v_notT, v_notT1, v_andT, v_andT1, v_andT2, v_orT, v_orT1, v_orT2, v_not, v_not1, v_and, v_and1, v_and2, v_or, v_or1, v_or2, v_if, v_if1, v_if2, v_ch, v_ch1, v_ch2, v_ch3, v_ch4, v_ch5, v_D, v_frz_d, v_frz_o, v_frz_s, v_frz_s1, v_frz_s2, v_toD_l, v_nil, v_cons, v_cons1, v_cons2, v_tup, v_tup0, v_tup1, v_tup2, v_tup3, v_lst, v_lst0, v_lst1, v_lst2, v_set, v_set_d, v_set_o, v_set_s, v_set_s1, v_set_s2, v_setS, v_drop, v_drop1, v_ret, v_ret1, v_retN, v_pass, v_seq, v_seq1, v_seq2, v_ifS, v_ifS1, v_ifS2, v_for, v_for1, v_range, v_range1, v_r1, v_r2, v_mut, v_mut_s, v_mut_s1, v_getB, v_getB1, v_kind, v_kind1, v_isL, v_mut2, v_mutE_l, v_mutR, v_append, o_add, o_sub, o_mul, o_mod, o_fdiv, o_lt, o_le, o_gt, o_ge, o_int, o_len_l, o_len_s, o_len_t, o_abs, o_neg, o_it_l, o_it_s, o_it_t, o_item, v_lstN, v_tupN, v_tryAs, v_tryA1, v_tryA2, v_tryB1, v_tryB2, v_allA, v_wpX1, v_wpX2, v_noX1, v_try, v_try1, v_try2, v_isE, v_isE1, v_frzE, v_frzE1, o_ltX_pl, o_min2X_pl, v_fn, v_fn1, o_isN5, o_slice_t, o_ne_pt, o_ne_pl, v_call, v_call1, v_A, v_aNil, v_aVar, v_aVar1, v_aVar2, v_aD, v_aD1, v_items, v_items_l, v_items_dl, v_items_dt, v_items_ds, v_items_s, v_items_s1, v_items_s2, v_items_s3, v_lstRg, v_dic, v_forH, v_forH1, v_forH2, v_restF, v_put, v_put1, v_put2, v_put3, v_putE, v_putR, v_fs, v_fs1, v_fld, v_fz, v_fz1, v_fz2, v_fz3, v_toD_i, v_toD_m, v_toDd, v_toDo, v_toDwl, v_toDwr, v_yes, v_make, v_make1, v_meth, v_meth2, v_sl, v_sl1, v_sl2, v_sl3, v_none, v_some, v_some1, o_slice_l, o_list_l, o_list_t, o_tup_l, o_tup_t, o_min2, o_max2, o_eq_i, o_ne_i, o_bl_eq, o_bl_ne, o_tru, o_isB, o_notB, o_add_l, o_in_il, o_nin_il, o_in_it, o_in_pl, o_in_pt, o_nin_pt, o_eq_il, o_ne_il, o_eq_pt, o_eq_pl, o_ne_p, o_eq_p, o_sort_pl, o_sort_pm, o_sort_il, v_wipe0, v_wipe1, v_wp, v_wpB, v_wp1, v_wp2, v_wp3, v_wp4, v_wp5, v_nd0, v_nd1, v_nd2, v_ap, v_ap1, v_ap2, v_ap3, v_ap4, v_slots0, v_slots1, v_slots2, v_args0, v_args1, v_args2, v_args3, v_args4, v_upd0, v_upd1, v_upd2, v_mk, v_mk1, v_mk2, v_mk3, v_run, v_end1, v_end2, v_end3, v_end4, v_end6, v_end7, v_end5, v_outs0, v_outs1, v_outs2, v_outs3, v_outs4, v_raise, v_bindx, v_seq3, v_seq4, v_seq5, v_nx1, v_nx2, v_nx3, v_nx4, v_nx5, v_iter, v_iter1, v_tname, v_ts0, v_ts1, v_ts2, v_ttup, v_for0, o_i_ii, o_i_ib, o_i_in, o_i_it, o_i_is, o_i_il, o_i_bi, o_i_bb, o_i_tt, o_i_ti, o_i_tl, o_i_tn, o_i_ts, o_i_tb, o_i_si, o_i_ss, o_i_st, o_i_tp, o_isN1, o_isN2, o_isN3, o_isN4, o_nin1, o_nin2, o_nin3, o_nin4, o_len_p, o_it_p0, o_it_p1, v_at0, v_at1, v_ttp, v_tup0i, v_enum, v_enum1, v_wipeE0, v_aug, v_aug1, v_aug2, List.getElem?_cons_succ, List.getElem?_cons_zero, List.set_cons_succ, List.set_cons_zero, List.length_cons, List.length_nil, Nat.reduceAdd, Nat.reduceLT, List.length_map, decide_true, decide_false, List.map_cons, List.map_nil, List.cons_append, List.nil_append, List.reduceReplicate, Nat.reduceSub, Nat.reduceLeDiff, Nat.reduceBEq, List.contains_cons, List.contains_nil, Bool.or_false, Bool.false_or, Bool.or_true, Bool.true_or, Bool.not_true, Bool.not_false, List.length_set, Nat.zero_add, List.getElem?_nil] at e1 ⊢
    simp only [e1, v_var, v_var_d, v_var_o, v_c, v_bind, v_of, v_fin, v_vd, v_vo, v_vs, v_vs_d, v_vs_o, v_wl, v_wm, v_view1, v_view2, v_kv1, v_kv2, v_bin, v_bin1, v_bin2, v_ix, v_un, v_un1, v_test, v_test1, v_tru, v_tru1, v_tru2, v_obind, v_notT, v_notT1, v_andT, v_andT1, v_andT2, v_orT, v_orT1, v_orT2, v_not, v_not1, v_and, v_and1, v_and2, v_or, v_or1, v_or2, v_if, v_if1, v_if2, v_ch, v_ch1, v_ch2, v_ch3, v_ch4, v_ch5, v_D, v_frz_d, v_frz_o, v_frz_s, v_frz_s1, v_frz_s2, v_toD_l, v_nil, v_cons, v_cons1, v_cons2, v_tup, v_tup0, v_tup1, v_tup2, v_tup3, v_lst, v_lst0, v_lst1, v_lst2, v_set, v_set_d, v_set_o, v_set_s, v_set_s1, v_set_s2, v_setS, v_drop, v_drop1, v_ret, v_ret1, v_retN, v_pass, v_seq, v_seq1, v_seq2, v_ifS, v_ifS1, v_ifS2, v_for, v_for1, v_range, v_range1, v_r1, v_r2, v_mut, v_mut_s, v_mut_s1, v_getB, v_getB1, v_kind, v_kind1, v_isL, v_mut2, v_mutE_l, v_mutR, v_append, o_add, o_sub, o_mul, o_mod, o_fdiv, o_lt, o_le, o_gt, o_ge, o_int, o_len_l, o_len_s, o_len_t, o_abs, o_neg, o_it_l, o_it_s, o_it_t, o_item, v_lstN, v_tupN, v_tryAs, v_tryA1, v_tryA2, v_tryB1, v_tryB2, v_allA, v_wpX1, v_wpX2, v_noX1, v_try, v_try1, v_try2, v_isE, v_isE1, v_frzE, v_frzE1, o_ltX_pl, o_min2X_pl, v_fn, v_fn1, o_isN5, o_slice_t, o_ne_pt, o_ne_pl, v_call, v_call1, v_A, v_aNil, v_aVar, v_aVar1, v_aVar2, v_aD, v_aD1, v_items, v_items_l, v_items_dl, v_items_dt, v_items_ds, v_items_s, v_items_s1, v_items_s2, v_items_s3, v_lstRg, v_dic, v_forH, v_forH1, v_forH2, v_restF, v_put, v_put1, v_put2, v_put3, v_putE, v_putR, v_fs, v_fs1, v_fld, v_fz, v_fz1, v_fz2, v_fz3, v_toD_i, v_toD_m, v_toDd, v_toDo, v_toDwl, v_toDwr, v_yes, v_make, v_make1, v_meth, v_meth2, v_sl, v_sl1, v_sl2, v_sl3, v_none, v_some, v_some1, o_slice_l, o_list_l, o_list_t, o_tup_l, o_tup_t, o_min2, o_max2, o_eq_i, o_ne_i, o_bl_eq, o_bl_ne, o_tru, o_isB, o_notB, o_add_l, o_in_il, o_nin_il, o_in_it, o_in_pl, o_in_pt, o_nin_pt, o_eq_il, o_ne_il, o_eq_pt, o_eq_pl, o_ne_p, o_eq_p, o_sort_pl, o_sort_pm, o_sort_il, v_wipe0, v_wipe1, v_wp, v_wpB, v_wp1, v_wp2, v_wp3, v_wp4, v_wp5, v_nd0, v_nd1, v_nd2, v_ap, v_ap1, v_ap2, v_ap3, v_ap4, v_slots0, v_slots1, v_slots2, v_args0, v_args1, v_args2, v_args3, v_args4, v_upd0, v_upd1, v_upd2, v_mk, v_mk1, v_mk2, v_mk3, v_run, v_end1, v_end2, v_end3, v_end4, v_end6, v_end7, v_end5, v_outs0, v_outs1, v_outs2, v_outs3, v_outs4, v_raise, v_bindx, v_seq3, v_seq4, v_seq5, v_nx1, v_nx2, v_nx3, v_nx4, v_nx5, v_iter, v_iter1, v_tname, v_ts0, v_ts1, v_ts2, v_ttup, v_for0, o_i_ii, o_i_ib, o_i_in, o_i_it, o_i_is, o_i_il, o_i_bi, o_i_bb, o_i_tt, o_i_ti, o_i_tl, o_i_tn, o_i_ts, o_i_tb, o_i_si, o_i_ss, o_i_st, o_i_tp, o_isN1, o_isN2, o_isN3, o_isN4, o_nin1, o_nin2, o_nin3, o_nin4, o_len_p, o_it_p0, o_it_p1, v_at0, v_at1, v_ttp, v_tup0i, v_enum, v_enum1, v_wipeE0, v_aug, v_aug1, v_aug2, List.getElem?_cons_succ, List.getElem?_cons_zero, List.set_cons_succ, List.set_cons_zero, List.length_cons, List.length_nil, Nat.reduceAdd, Nat.reduceLT, List.length_map, decide_true, decide_false, List.map_cons, List.map_nil, List.cons_append, List.nil_append, List.reduceReplicate, Nat.reduceSub, Nat.reduceLeDiff, Nat.reduceBEq, List.contains_cons, List.contains_nil, Bool.or_false, Bool.false_or, Bool.or_true, Bool.true_or, Bool.not_true, Bool.not_false, List.length_set, Nat.zero_add, List.getElem?_nil, rowE, bestD]
    rfl
  | cons o0 os =>
    simp only [bestD] at e1
    simp only [List.cons_append, bestD, List.foldl_append, List.foldl_cons, List.foldl_nil]
    generalize os.foldl (fun b o => mnR b (rowE es o)) (rowE es o0) = b at e1 ⊢
    by_cases c : ltR (rowE es o) b = true
    · have c' : ltR (srtP (es.map (mpP o))) b = true := c
      simp only [b1__least_edges, tpD, v_var, v_var_d, v_var_o, v_c, v_bind, v_of, v_fin, v_vd, v_vo, v_vs, v_vs_d, v_vs_o, v_wl, v_wm, v_view1, v_view2, v_kv1, v_kv2, v_bin, v_bin1, v_bin2, v_ix, v_un, v_un1, v_test, v_test1, v_tru, v_tru1, v_tru2, v_obind, v_notT, v_notT1, v_andT, v_andT1, v_andT2, v_orT, v_orT1, v_orT2, v_not, v_not1, v_and, v_and1, v_and2, v_or, v_or1, v_or2, v_if, v_if1, v_if2, v_ch, v_ch1, v_ch2, v_ch3, v_ch4, v_ch5, v_D, v_frz_d, v_frz_o, v_frz_s, v_frz_s1, v_frz_s2, v_toD_l, v_nil, v_cons, v_cons1, v_cons2, v_tup, v_tup0, v_tup1, v_tup2, v_tup3, v_lst, v_lst0, v_lst1, v_lst2, v_set, v_set_d, v_set_o, v_set_s, v_set_s1, v_set_s2, v_setS, v_drop, v_drop1, v_ret, v_ret1, v_retN, v_pass, v_seq, v_seq1, v_seq2, v_ifS, v_ifS1, v_ifS2, v_for, v_for1, v_range, v_range1, v_r1, v_r2, v_mut, v_mut_s, v_mut_s1, v_getB, v_getB1, v_kind, v_kind1, v_isL, v_mut2, v_mutE_l, v_mutR, v_append, o_add, o_sub, o_mul, o_mod, o_fdiv, o_lt, o_le, o_gt, o_ge, o_int, o_len_l, o_len_s, o_len_t, o_abs, o_neg, o_it_l, o_it_s, o_it_t, o_item, v_lstN, v_tupN, v_tryAs, v_tryA1, v_tryA2, v_tryB1, v_tryB2, v_allA, v_wpX1, v_wpX2, v_noX1, v_try, v_try1, v_try2, v_isE, v_isE1, v_frzE, v_frzE1, o_ltX_pl, o_min2X_pl, v_fn, v_fn1, o_isN5, o_slice_t, o_ne_pt, o_ne_pl, v_call, v_call1, v_A, v_aNil, v_aVar, v_aVar1, v_aVar2, v_aD, v_aD1, v_items, v_items_l, v_items_dl, v_items_dt, v_items_ds, v_items_s, v_items_s1, v_items_s2, v_items_s3, v_lstRg, v_dic, v_forH, v_forH1, v_forH2, v_restF, v_put, v_put1, v_put2, v_put3, v_putE, v_putR, v_fs, v_fs1, v_fld, v_fz, v_fz1, v_fz2, v_fz3, v_toD_i, v_toD_m, v_toDd, v_toDo, v_toDwl, v_toDwr, v_yes, v_make, v_make1, v_meth, v_meth2, v_sl, v_sl1, v_sl2, v_sl3, v_none, v_some, v_some1, o_slice_l, o_list_l, o_list_t, o_tup_l, o_tup_t, o_min2, o_max2, o_eq_i, o_ne_i, o_bl_eq, o_bl_ne, o_tru, o_isB, o_notB, o_add_l, o_in_il, o_nin_il, o_in_it, o_in_pl, o_in_pt, o_nin_pt, o_eq_il, o_ne_il, o_eq_pt, o_eq_pl, o_ne_p, o_eq_p, o_sort_pl, o_sort_pm, o_sort_il, v_wipe0, v_wipe1, v_wp, v_wpB, v_wp1, v_wp2, v_wp3, v_wp4, v_wp5, v_nd0, v_nd1, v_nd2, v_ap, v_ap1, v_ap2, v_ap3, v_ap4, v_slots0, v_slots1, v_slots2, v_args0, v_args1, v_args2, v_args3, v_args4, v_upd0, v_upd1, v_upd2, v_mk, v_mk1, v_mk2, v_mk3, v_run, v_end1, v_end2, v_end3, v_end4, v_end6, v_end7, v_end5, v_outs0, v_outs1, v_outs2, v_outs3, v_outs4, v_raise, v_bindx, v_seq3, v_seq4, v_seq5, v_nx1, v_nx2, v_nx3, v_nx4, v_nx5, v_iter, v_iter1, v_tname, v_ts0, v_ts1, v_ts2, v_ttup, v_for0, o_i_ii, o_i_ib, o_i_in, o_i_it, o_i_is, o_i_il, o_i_bi, o_i_bb, o_i_tt, o_i_ti, o_i_tl, o_i_tn, o_i_ts, o_i_tb, o_i_si, o_i_ss, o_i_st, o_i_tp, o_isN1, o_isN2, o_isN3, o_isN4, o_nin1, o_nin2, o_nin3, o_nin4, o_len_p, o_it_p0, o_it_p1, v_at0, v_at1, v_ttp, v_tup0i, v_enum, v_enum1, v_wipeE0, v_aug, v_aug1, v_aug2, List.getElem?_cons_succ, List.getElem?_cons_zero, List.set_cons_succ, List.set_cons_zero, List.length_cons, List.length_nil, Nat.reduceAdd, Nat.reduceLT, List.length_map, decide_true, decide_false, List.map_cons, List.map_nil, List.cons_append, List.nil_append, List.reduceReplicate, Nat.reduceSub, Nat.reduceLeDiff, Nat.reduceBEq, List.contains_cons, List.contains_nil, Bool.or_false, Bool.false_or, Bool.or_true, Bool.true_or, Bool.not_true, Bool.not_false, List.length_set, Nat.zero_add, List.getElem?_nil] at e1 ⊢
      simp only [e1, v_var, v_var_d, v_var_o, v_c, v_bind, v_of, v_fin, v_vd, v_vo, v_vs, v_vs_d, v_vs_o, v_wl, v_wm, v_view1, v_view2, v_kv1, v_kv2, v_bin, v_bin1, v_bin2, v_ix, v_un, v_un1, v_test, v_test1, v_tru, v_tru1, v_tru2, v_obind, v_notT, v_notT1, v_andT, v_andT1, v_andT2, v_orT, v_orT1, v_orT2, v_not, v_not1, v_and, v_and1, v_and2, v_or, v_or1, v_or2, v_if, v_if1, v_if2, v_ch, v_ch1, v_ch2, v_ch3, v_ch4, v_ch5, v_D, v_frz_d, v_frz_o, v_frz_s, v_frz_s1, v_frz_s2, v_toD_l, v_nil, v_cons, v_cons1, v_cons2, v_tup, v_tup0, v_tup1, v_tup2, v_tup3, v_lst, v_lst0, v_lst1, v_lst2, v_set, v_set_d, v_set_o, v_set_s, v_set_s1, v_set_s2, v_setS, v_drop, v_drop1, v_ret, v_ret1, v_retN, v_pass, v_seq, v_seq1, v_seq2, v_ifS, v_ifS1, v_ifS2, v_for, v_for1, v_range, v_range1, v_r1, v_r2, v_mut, v_mut_s, v_mut_s1, v_getB, v_getB1, v_kind, v_kind1, v_isL, v_mut2, v_mutE_l, v_mutR, v_append, o_add, o_sub, o_mul, o_mod, o_fdiv, o_lt, o_le, o_gt, o_ge, o_int, o_len_l, o_len_s, o_len_t, o_abs, o_neg, o_it_l, o_it_s, o_it_t, o_item, v_lstN, v_tupN, v_tryAs, v_tryA1, v_tryA2, v_tryB1, v_tryB2, v_allA, v_wpX1, v_wpX2, v_noX1, v_try, v_try1, v_try2, v_isE, v_isE1, v_frzE, v_frzE1, o_ltX_pl, o_min2X_pl, v_fn, v_fn1, o_isN5, o_slice_t, o_ne_pt, o_ne_pl, v_call, v_call1, v_A, v_aNil, v_aVar, v_aVar1, v_aVar2, v_aD, v_aD1, v_items, v_items_l, v_items_dl, v_items_dt, v_items_ds, v_items_s, v_items_s1, v_items_s2, v_items_s3, v_lstRg, v_dic, v_forH, v_forH1, v_forH2, v_restF, v_put, v_put1, v_put2, v_put3, v_putE, v_putR, v_fs, v_fs1, v_fld, v_fz, v_fz1, v_fz2, v_fz3, v_toD_i, v_toD_m, v_toDd, v_toDo, v_toDwl, v_toDwr, v_yes, v_make, v_make1, v_meth, v_meth2, v_sl, v_sl1, v_sl2, v_sl3, v_none, v_some, v_some1, o_slice_l, o_list_l, o_list_t, o_tup_l, o_tup_t, o_min2, o_max2, o_eq_i, o_ne_i, o_bl_eq, o_bl_ne, o_tru, o_isB, o_notB, o_add_l, o_in_il, o_nin_il, o_in_it, o_in_pl, o_in_pt, o_nin_pt, o_eq_il, o_ne_il, o_eq_pt, o_eq_pl, o_ne_p, o_eq_p, o_sort_pl, o_sort_pm, o_sort_il, v_wipe0, v_wipe1, v_wp, v_wpB, v_wp1, v_wp2, v_wp3, v_wp4, v_wp5, v_nd0, v_nd1, v_nd2, v_ap, v_ap1, v_ap2, v_ap3, v_ap4, v_slots0, v_slots1, v_slots2, v_args0, v_args1, v_args2, v_args3, v_args4, v_upd0, v_upd1, v_upd2, v_mk, v_mk1, v_mk2, v_mk3, v_run, v_end1, v_end2, v_end3, v_end4, v_end6, v_end7, v_end5, v_outs0, v_outs1, v_outs2, v_outs3, v_outs4, v_raise, v_bindx, v_seq3, v_seq4, v_seq5, v_nx1, v_nx2, v_nx3, v_nx4, v_nx5, v_iter, v_iter1, v_tname, v_ts0, v_ts1, v_ts2, v_ttup, v_for0, o_i_ii, o_i_ib, o_i_in, o_i_it, o_i_is, o_i_il, o_i_bi, o_i_bb, o_i_tt, o_i_ti, o_i_tl, o_i_tn, o_i_ts, o_i_tb, o_i_si, o_i_ss, o_i_st, o_i_tp, o_isN1, o_isN2, o_isN3, o_isN4, o_nin1, o_nin2, o_nin3, o_nin4, o_len_p, o_it_p0, o_it_p1, v_at0, v_at1, v_ttp, v_tup0i, v_enum, v_enum1, v_wipeE0, v_aug, v_aug1, v_aug2, List.getElem?_cons_succ, List.getElem?_cons_zero, List.set_cons_succ, List.set_cons_zero, List.length_cons, List.length_nil, Nat.reduceAdd, Nat.reduceLT, List.length_map, decide_true, decide_false, List.map_cons, List.map_nil, List.cons_append, List.nil_append, List.reduceReplicate, Nat.reduceSub, Nat.reduceLeDiff, Nat.reduceBEq, List.contains_cons, List.contains_nil, Bool.or_false, Bool.false_or, Bool.or_true, Bool.true_or, Bool.not_true, Bool.not_false, List.length_set, Nat.zero_add, List.getElem?_nil, c', mnR, c, if_true, rowE]
    · have c' : ltR (srtP (es.map (mpP o))) b = false := by simpa [rowE] using c
      simp only [b1__least_edges, tpD, v_var, v_var_d, v_var_o, v_c, v_bind, v_of, v_fin, v_vd, v_vo, v_vs, v_vs_d, v_vs_o, v_wl, v_wm, v_view1, v_view2, v_kv1, v_kv2, v_bin, v_bin1, v_bin2, v_ix, v_un, v_un1, v_test, v_test1, v_tru, v_tru1, v_tru2, v_obind, v_notT, v_notT1, v_andT, v_andT1, v_andT2, v_orT, v_orT1, v_orT2, v_not, v_not1, v_and, v_and1, v_and2, v_or, v_or1, v_or2, v_if, v_if1, v_if2, v_ch, v_ch1, v_ch2, v_ch3, v_ch4, v_ch5, v_D, v_frz_d, v_frz_o, v_frz_s, v_frz_s1, v_frz_s2, v_toD_l, v_nil, v_cons, v_cons1, v_cons2, v_tup, v_tup0, v_tup1, v_tup2, v_tup3, v_lst, v_lst0, v_lst1, v_lst2, v_set, v_set_d, v_set_o, v_set_s, v_set_s1, v_set_s2, v_setS, v_drop, v_drop1, v_ret, v_ret1, v_retN, v_pass, v_seq, v_seq1, v_seq2, v_ifS, v_ifS1, v_ifS2, v_for, v_for1, v_range, v_range1, v_r1, v_r2, v_mut, v_mut_s, v_mut_s1, v_getB, v_getB1, v_kind, v_kind1, v_isL, v_mut2, v_mutE_l, v_mutR, v_append, o_add, o_sub, o_mul, o_mod, o_fdiv, o_lt, o_le, o_gt, o_ge, o_int, o_len_l, o_len_s, o_len_t, o_abs, o_neg, o_it_l, o_it_s, o_it_t, o_item, v_lstN, v_tupN, v_tryAs, v_tryA1, v_tryA2, v_tryB1, v_tryB2, v_allA, v_wpX1, v_wpX2, v_noX1, v_try, v_try1, v_try2, v_isE, v_isE1, v_frzE, v_frzE1, o_ltX_pl, o_min2X_pl, v_fn, v_fn1, o_isN5, o_slice_t, o_ne_pt, o_ne_pl, v_call, v_call1, v_A, v_aNil, v_aVar, v_aVar1, v_aVar2, v_aD, v_aD1, v_items, v_items_l, v_items_dl, v_items_dt, v_items_ds, v_items_s, v_items_s1, v_items_s2, v_items_s3, v_lstRg, v_dic, v_forH, v_forH1, v_forH2, v_restF, v_put, v_put1, v_put2, v_put3, v_putE, v_putR, v_fs, v_fs1, v_fld, v_fz, v_fz1, v_fz2, v_fz3, v_toD_i, v_toD_m, v_toDd, v_toDo, v_toDwl, v_toDwr, v_yes, v_make, v_make1, v_meth, v_meth2, v_sl, v_sl1, v_sl2, v_sl3, v_none, v_some, v_some1, o_slice_l, o_list_l, o_list_t, o_tup_l, o_tup_t, o_min2, o_max2, o_eq_i, o_ne_i, o_bl_eq, o_bl_ne, o_tru, o_isB, o_notB, o_add_l, o_in_il, o_nin_il, o_in_it, o_in_pl, o_in_pt, o_nin_pt, o_eq_il, o_ne_il, o_eq_pt, o_eq_pl, o_ne_p, o_eq_p, o_sort_pl, o_sort_pm, o_sort_il, v_wipe0, v_wipe1, v_wp, v_wpB, v_wp1, v_wp2, v_wp3, v_wp4, v_wp5, v_nd0, v_nd1, v_nd2, v_ap, v_ap1, v_ap2, v_ap3, v_ap4, v_slots0, v_slots1, v_slots2, v_args0, v_args1, v_args2, v_args3, v_args4, v_upd0, v_upd1, v_upd2, v_mk, v_mk1, v_mk2, v_mk3, v_run, v_end1, v_end2, v_end3, v_end4, v_end6, v_end7, v_end5, v_outs0, v_outs1, v_outs2, v_outs3, v_outs4, v_raise, v_bindx, v_seq3, v_seq4, v_seq5, v_nx1, v_nx2, v_nx3, v_nx4, v_nx5, v_iter, v_iter1, v_tname, v_ts0, v_ts1, v_ts2, v_ttup, v_for0, o_i_ii, o_i_ib, o_i_in, o_i_it, o_i_is, o_i_il, o_i_bi, o_i_bb, o_i_tt, o_i_ti, o_i_tl, o_i_tn, o_i_ts, o_i_tb, o_i_si, o_i_ss, o_i_st, o_i_tp, o_isN1, o_isN2, o_isN3, o_isN4, o_nin1, o_nin2, o_nin3, o_nin4, o_len_p, o_it_p0, o_it_p1, v_at0, v_at1, v_ttp, v_tup0i, v_enum, v_enum1, v_wipeE0, v_aug, v_aug1, v_aug2, List.getElem?_cons_succ, List.getElem?_cons_zero, List.set_cons_succ, List.set_cons_zero, List.length_cons, List.length_nil, Nat.reduceAdd, Nat.reduceLT, List.length_map, decide_true, decide_false, List.map_cons, List.map_nil, List.cons_append, List.nil_append, List.reduceReplicate, Nat.reduceSub, Nat.reduceLeDiff, Nat.reduceBEq, List.contains_cons, List.contains_nil, Bool.or_false, Bool.false_or, Bool.or_true, Bool.true_or, Bool.not_true, Bool.not_false, List.length_set, Nat.zero_add, List.getElem?_nil] at e1 ⊢
      simp only [e1, v_var, v_var_d, v_var_o, v_c, v_bind, v_of, v_fin, v_vd, v_vo, v_vs, v_vs_d, v_vs_o, v_wl, v_wm, v_view1, v_view2, v_kv1, v_kv2, v_bin, v_bin1, v_bin2, v_ix, v_un, v_un1, v_test, v_test1, v_tru, v_tru1, v_tru2, v_obind, v_notT, v_notT1, v_andT, v_andT1, v_andT2, v_orT, v_orT1, v_orT2, v_not, v_not1, v_and, v_and1, v_and2, v_or, v_or1, v_or2, v_if, v_if1, v_if2, v_ch, v_ch1, v_ch2, v_ch3, v_ch4, v_ch5, v_D, v_frz_d, v_frz_o, v_frz_s, v_frz_s1, v_frz_s2, v_toD_l, v_nil, v_cons, v_cons1, v_cons2, v_tup, v_tup0, v_tup1, v_tup2, v_tup3, v_lst, v_lst0, v_lst1, v_lst2, v_set, v_set_d, v_set_o, v_set_s, v_set_s1, v_set_s2, v_setS, v_drop, v_drop1, v_ret, v_ret1, v_retN, v_pass, v_seq, v_seq1, v_seq2, v_ifS, v_ifS1, v_ifS2, v_for, v_for1, v_range, v_range1, v_r1, v_r2, v_mut, v_mut_s, v_mut_s1, v_getB, v_getB1, v_kind, v_kind1, v_isL, v_mut2, v_mutE_l, v_mutR, v_append, o_add, o_sub, o_mul, o_mod, o_fdiv, o_lt, o_le, o_gt, o_ge, o_int, o_len_l, o_len_s, o_len_t, o_abs, o_neg, o_it_l, o_it_s, o_it_t, o_item, v_lstN, v_tupN, v_tryAs, v_tryA1, v_tryA2, v_tryB1, v_tryB2, v_allA, v_wpX1, v_wpX2, v_noX1, v_try, v_try1, v_try2, v_isE, v_isE1, v_frzE, v_frzE1, o_ltX_pl, o_min2X_pl, v_fn, v_fn1, o_isN5, o_slice_t, o_ne_pt, o_ne_pl, v_call, v_call1, v_A, v_aNil, v_aVar, v_aVar1, v_aVar2, v_aD, v_aD1, v_items, v_items_l, v_items_dl, v_items_dt, v_items_ds, v_items_s, v_items_s1, v_items_s2, v_items_s3, v_lstRg, v_dic, v_forH, v_forH1, v_forH2, v_restF, v_put, v_put1, v_put2, v_put3, v_putE, v_putR, v_fs, v_fs1, v_fld, v_fz, v_fz1, v_fz2, v_fz3, v_toD_i, v_toD_m, v_toDd, v_toDo, v_toDwl, v_toDwr, v_yes, v_make, v_make1, v_meth, v_meth2, v_sl, v_sl1, v_sl2, v_sl3, v_none, v_some, v_some1, o_slice_l, o_list_l, o_list_t, o_tup_l, o_tup_t, o_min2, o_max2, o_eq_i, o_ne_i, o_bl_eq, o_bl_ne, o_tru, o_isB, o_notB, o_add_l, o_in_il, o_nin_il, o_in_it, o_in_pl, o_in_pt, o_nin_pt, o_eq_il, o_ne_il, o_eq_pt, o_eq_pl, o_ne_p, o_eq_p, o_sort_pl, o_sort_pm, o_sort_il, v_wipe0, v_wipe1, v_wp, v_wpB, v_wp1, v_wp2, v_wp3, v_wp4, v_wp5, v_nd0, v_nd1, v_nd2, v_ap, v_ap1, v_ap2, v_ap3, v_ap4, v_slots0, v_slots1, v_slots2, v_args0, v_args1, v_args2, v_args3, v_args4, v_upd0, v_upd1, v_upd2, v_mk, v_mk1, v_mk2, v_mk3, v_run, v_end1, v_end2, v_end3, v_end4, v_end6, v_end7, v_end5, v_outs0, v_outs1, v_outs2, v_outs3, v_outs4, v_raise, v_bindx, v_seq3, v_seq4, v_seq5, v_nx1, v_nx2, v_nx3, v_nx4, v_nx5, v_iter, v_iter1, v_tname, v_ts0, v_ts1, v_ts2, v_ttup, v_for0, o_i_ii, o_i_ib, o_i_in, o_i_it, o_i_is, o_i_il, o_i_bi, o_i_bb, o_i_tt, o_i_ti, o_i_tl, o_i_tn, o_i_ts, o_i_tb, o_i_si, o_i_ss, o_i_st, o_i_tp, o_isN1, o_isN2, o_isN3, o_isN4, o_nin1, o_nin2, o_nin3, o_nin4, o_len_p, o_it_p0, o_it_p1, v_at0, v_at1, v_ttp, v_tup0i, v_enum, v_enum1, v_wipeE0, v_aug, v_aug1, v_aug2, List.getElem?_cons_succ, List.getElem?_cons_zero, List.set_cons_succ, List.set_cons_zero, List.length_cons, List.length_nil, Nat.reduceAdd, Nat.reduceLT, List.length_map, decide_true, decide_false, List.map_cons, List.map_nil, List.cons_append, List.nil_append, List.reduceReplicate, Nat.reduceSub, Nat.reduceLeDiff, Nat.reduceBEq, List.contains_cons, List.contains_nil, Bool.or_false, Bool.false_or, Bool.or_true, Bool.true_or, Bool.not_true, Bool.not_false, List.length_set, Nat.zero_add, List.getElem?_nil, c', mnR, c, if_false, rowE]
      rfl
theorem o_least_edges {n : Nat} {es : List (Int × Int)} (hn : n ≤ 6) (g : Good n es) (hl : es.length ≤ 1000) : ∃ m, Least n es m ∧ fn__least_edges [.d (.int n), .d (.tup (es.map pD))] = .ok (.d (.tup (m.map pD)), [OI n, some (.d (.tup (es.map pD)))]) := by
  have e := forF_pre (g := tName 3) (f := b1__least_edges) (enc := tpD) (xs := ords n) (fun pre => [OI n, some (.d (.tup (es.map pD))), some (.d (bestD es pre)), none, none, none, none]) fun p a post hq => le_b1 g hl (mem_ords.mp (by rw [hq]; simp))
  have hne : upto n ∈ ords n := mem_ords.mpr (List.Perm.refl _)
  have hm : ∀ o, o ∈ ords n ↔ o.Perm (upto n) := fun o => mem_ords
  cases ho : ords n with
  | nil => rw [ho] at hne; cases hne
  | cons o0 os =>
    rw [ho] at hm
    refine ⟨_, least_fold (L := os) (o0 := o0) ((hm o0).mp (by simp)) fun o => ?_, ?_⟩
    · rw [← hm o, List.mem_cons]; exact Or.comm
    · rw [ho] at e
      simp only [bestD] at e
      have eo := o_orders hn
      rw [ho] at eo
      simp only [fn__least_edges, code__least_edges, v_var, v_var_d, v_var_o, v_c, v_bind, v_of, v_fin, v_vd, v_vo, v_vs, v_vs_d, v_vs_o, v_wl, v_wm, v_view1, v_view2, v_kv1, v_kv2, v_bin, v_bin1, v_bin2, v_ix, v_un, v_un1, v_test, v_test1, v_tru, v_tru1, v_tru2, v_obind, v_notT, v_notT1, v_andT, v_andT1, v_andT2, v_orT, v_orT1, v_orT2, v_not, v_not1, v_and, v_and1, v_and2, v_or, v_or1, v_or2, v_if, v_if1, v_if2, v_ch, v_ch1, v_ch2, v_ch3, v_ch4, v_ch5, v_D, v_frz_d, v_frz_o, v_frz_s, v_frz_s1, v_frz_s2, v_toD_l, v_nil, v_cons, v_cons1, v_cons2, v_tup, v_tup0, v_tup1, v_tup2, v_tup3, v_lst, v_lst0, v_lst1, v_lst2, v_set, v_set_d, v_set_o, v_set_s, v_set_s1, v_set_s2, v_setS, v_drop, v_drop1, v_ret, v_ret1, v_retN, v_pass, v_seq, v_seq1, v_seq2, v_ifS, v_ifS1, v_ifS2, v_for, v_for1, v_range, v_range1, v_r1, v_r2, v_mut, v_mut_s, v_mut_s1, v_getB, v_getB1, v_kind, v_kind1, v_isL, v_mut2, v_mutE_l, v_mutR, v_append, o_add, o_sub, o_mul, o_mod, o_fdiv, o_lt, o_le, o_gt, o_ge, o_int, o_len_l, o_len_s, o_len_t, o_abs, o_neg, o_it_l, o_it_s, o_it_t, o_item, v_lstN, v_tupN, v_tryAs, v_tryA1, v_tryA2, v_tryB1, v_tryB2, v_allA, v_wpX1, v_wpX2, v_noX1, v_try, v_try1, v_try2, v_isE, v_isE1, v_frzE, v_frzE1, o_ltX_pl, o_min2X_pl, v_fn, v_fn1, o_isN5, o_slice_t, o_ne_pt, o_ne_pl, v_call, v_call1, v_A, v_aNil, v_aVar, v_aVar1, v_aVar2, v_aD, v_aD1, v_items, v_items_l, v_items_dl, v_items_dt, v_items_ds, v_items_s, v_items_s1, v_items_s2, v_items_s3, v_lstRg, v_dic, v_forH, v_forH1, v_forH2, v_restF, v_put, v_put1, v_put2, v_put3, v_putE, v_putR, v_fs, v_fs1, v_fld, v_fz, v_fz1, v_fz2, v_fz3, v_toD_i, v_toD_m, v_toDd, v_toDo, v_toDwl, v_toDwr, v_yes, v_make, v_make1, v_meth, v_meth2, v_sl, v_sl1, v_sl2, v_sl3, v_none, v_some, v_some1, o_slice_l, o_list_l, o_list_t, o_tup_l, o_tup_t, o_min2, o_max2, o_eq_i, o_ne_i, o_bl_eq, o_bl_ne, o_tru, o_isB, o_notB, o_add_l, o_in_il, o_nin_il, o_in_it, o_in_pl, o_in_pt, o_nin_pt, o_eq_il, o_ne_il, o_eq_pt, o_eq_pl, o_ne_p, o_eq_p, o_sort_pl, o_sort_pm, o_sort_il, v_wipe0, v_wipe1, v_wp, v_wpB, v_wp1, v_wp2, v_wp3, v_wp4, v_wp5, v_nd0, v_nd1, v_nd2, v_ap, v_ap1, v_ap2, v_ap3, v_ap4, v_slots0, v_slots1, v_slots2, v_args0, v_args1, v_args2, v_args3, v_args4, v_upd0, v_upd1, v_upd2, v_mk, v_mk1, v_mk2, v_mk3, v_run, v_end1, v_end2, v_end3, v_end4, v_end6, v_end7, v_end5, v_outs0, v_outs1, v_outs2, v_outs3, v_outs4, v_raise, v_bindx, v_seq3, v_seq4, v_seq5, v_nx1, v_nx2, v_nx3, v_nx4, v_nx5, v_iter, v_iter1, v_tname, v_ts0, v_ts1, v_ts2, v_ttup, v_for0, o_i_ii, o_i_ib, o_i_in, o_i_it, o_i_is, o_i_il, o_i_bi, o_i_bb, o_i_tt, o_i_ti, o_i_tl, o_i_tn, o_i_ts, o_i_tb, o_i_si, o_i_ss, o_i_st, o_i_tp, o_isN1, o_isN2, o_isN3, o_isN4, o_nin1, o_nin2, o_nin3, o_nin4, o_len_p, o_it_p0, o_it_p1, v_at0, v_at1, v_ttp, v_tup0i, v_enum, v_enum1, v_wipeE0, v_aug, v_aug1, v_aug2, List.getElem?_cons_succ, List.getElem?_cons_zero, List.set_cons_succ, List.set_cons_zero, List.length_cons, List.length_nil, Nat.reduceAdd, Nat.reduceLT, List.length_map, decide_true, decide_false, List.map_cons, List.map_nil, List.cons_append, List.nil_append, List.reduceReplicate, Nat.reduceSub, Nat.reduceLeDiff, Nat.reduceBEq, List.contains_cons, List.contains_nil, Bool.or_false, Bool.false_or, Bool.or_true, Bool.true_or, Bool.not_true, Bool.not_false, List.length_set, Nat.zero_add, List.getElem?_nil, eo] at e ⊢
      simp only [e, v_var, v_var_d, v_var_o, v_c, v_bind, v_of, v_fin, v_vd, v_vo, v_vs, v_vs_d, v_vs_o, v_wl, v_wm, v_view1, v_view2, v_kv1, v_kv2, v_bin, v_bin1, v_bin2, v_ix, v_un, v_un1, v_test, v_test1, v_tru, v_tru1, v_tru2, v_obind, v_notT, v_notT1, v_andT, v_andT1, v_andT2, v_orT, v_orT1, v_orT2, v_not, v_not1, v_and, v_and1, v_and2, v_or, v_or1, v_or2, v_if, v_if1, v_if2, v_ch, v_ch1, v_ch2, v_ch3, v_ch4, v_ch5, v_D, v_frz_d, v_frz_o, v_frz_s, v_frz_s1, v_frz_s2, v_toD_l, v_nil, v_cons, v_cons1, v_cons2, v_tup, v_tup0, v_tup1, v_tup2, v_tup3, v_lst, v_lst0, v_lst1, v_lst2, v_set, v_set_d, v_set_o, v_set_s, v_set_s1, v_set_s2, v_setS, v_drop, v_drop1, v_ret, v_ret1, v_retN, v_pass, v_seq, v_seq1, v_seq2, v_ifS, v_ifS1, v_ifS2, v_for, v_for1, v_range, v_range1, v_r1, v_r2, v_mut, v_mut_s, v_mut_s1, v_getB, v_getB1, v_kind, v_kind1, v_isL, v_mut2, v_mutE_l, v_mutR, v_append, o_add, o_sub, o_mul, o_mod, o_fdiv, o_lt, o_le, o_gt, o_ge, o_int, o_len_l, o_len_s, o_len_t, o_abs, o_neg, o_it_l, o_it_s, o_it_t, o_item, v_lstN, v_tupN, v_tryAs, v_tryA1, v_tryA2, v_tryB1, v_tryB2, v_allA, v_wpX1, v_wpX2, v_noX1, v_try, v_try1, v_try2, v_isE, v_isE1, v_frzE, v_frzE1, o_ltX_pl, o_min2X_pl, v_fn, v_fn1, o_isN5, o_slice_t, o_ne_pt, o_ne_pl, v_call, v_call1, v_A, v_aNil, v_aVar, v_aVar1, v_aVar2, v_aD, v_aD1, v_items, v_items_l, v_items_dl, v_items_dt, v_items_ds, v_items_s, v_items_s1, v_items_s2, v_items_s3, v_lstRg, v_dic, v_forH, v_forH1, v_forH2, v_restF, v_put, v_put1, v_put2, v_put3, v_putE, v_putR, v_fs, v_fs1, v_fld, v_fz, v_fz1, v_fz2, v_fz3, v_toD_i, v_toD_m, v_toDd, v_toDo, v_toDwl, v_toDwr, v_yes, v_make, v_make1, v_meth, v_meth2, v_sl, v_sl1, v_sl2, v_sl3, v_none, v_some, v_some1, o_slice_l, o_list_l, o_list_t, o_tup_l, o_tup_t, o_min2, o_max2, o_eq_i, o_ne_i, o_bl_eq, o_bl_ne, o_tru, o_isB, o_notB, o_add_l, o_in_il, o_nin_il, o_in_it, o_in_pl, o_in_pt, o_nin_pt, o_eq_il, o_ne_il, o_eq_pt, o_eq_pl, o_ne_p, o_eq_p, o_sort_pl, o_sort_pm, o_sort_il, v_wipe0, v_wipe1, v_wp, v_wpB, v_wp1, v_wp2, v_wp3, v_wp4, v_wp5, v_nd0, v_nd1, v_nd2, v_ap, v_ap1, v_ap2, v_ap3, v_ap4, v_slots0, v_slots1, v_slots2, v_args0, v_args1, v_args2, v_args3, v_args4, v_upd0, v_upd1, v_upd2, v_mk, v_mk1, v_mk2, v_mk3, v_run, v_end1, v_end2, v_end3, v_end4, v_end6, v_end7, v_end5, v_outs0, v_outs1, v_outs2, v_outs3, v_outs4, v_raise, v_bindx, v_seq3, v_seq4, v_seq5, v_nx1, v_nx2, v_nx3, v_nx4, v_nx5, v_iter, v_iter1, v_tname, v_ts0, v_ts1, v_ts2, v_ttup, v_for0, o_i_ii, o_i_ib, o_i_in, o_i_it, o_i_is, o_i_il, o_i_bi, o_i_bb, o_i_tt, o_i_ti, o_i_tl, o_i_tn, o_i_ts, o_i_tb, o_i_si, o_i_ss, o_i_st, o_i_tp, o_isN1, o_isN2, o_isN3, o_isN4, o_nin1, o_nin2, o_nin3, o_nin4, o_len_p, o_it_p0, o_it_p1, v_at0, v_at1, v_ttp, v_tup0i, v_enum, v_enum1, v_wipeE0, v_aug, v_aug1, v_aug2, List.getElem?_cons_succ, List.getElem?_cons_zero, List.set_cons_succ, List.set_cons_zero, List.length_cons, List.length_nil, Nat.reduceAdd, Nat.reduceLT, List.length_map, decide_true, decide_false, List.map_cons, List.map_nil, List.cons_append, List.nil_append, List.reduceReplicate, Nat.reduceSub, Nat.reduceLeDiff, Nat.reduceBEq, List.contains_cons, List.contains_nil, Bool.or_false, Bool.false_or, Bool.or_true, Bool.true_or, Bool.not_true, Bool.not_false, List.length_set, Nat.zero_add, List.getElem?_nil]
theorem ll_b1 {n : Nat} {es acc : List (Int × Int)} {o : List Int} {p : Int × Int} {a0 a1 a2 : Option SV} (hp : 0 ≤ p.1 ∧ p.1 < p.2 ∧ p.2 < n) (h : o.Perm (upto n)) (hl : acc.length < lim) : iter1 (tName 5) b1__law_least (pD p) [a0, a1, a2, some (.d (lsD o)), some (PLs acc), none] = .ok (.nx [a0, a1, a2, some (.d (lsD o)), some (PLs (acc ++ [mpP o p])), none]) := by
  have hl' : (acc.map pD).length < lim := by simpa using hl
  have e1 := perm_at h (u := p.1) (by omega)
  have e2 := perm_at h (u := p.2) (by omega)
  simp only [b1__law_least, PLs, lsD, v_var, v_var_d, v_var_o, v_c, v_bind, v_of, v_fin, v_vd, v_vo, v_vs, v_vs_d, v_vs_o, v_wl, v_wm, v_view1, v_view2, v_kv1, v_kv2, v_bin, v_bin1, v_bin2, v_ix, v_un, v_un1, v_test, v_test1, v_tru, v_tru1, v_tru2, v_obind, v_notT, v_notT1, v_andT, v_andT1, v_andT2, v_orT, v_orT1, v_orT2, v_not, v_not1, v_and, v_and1, v_and2, v_or, v_or1, v_or2, v_if, v_if1, v_if2, v_ch, v_ch1, v_ch2, v_ch3, v_ch4, v_ch5, v_D, v_frz_d, v_frz_o, v_frz_s, v_frz_s1, v_frz_s2, v_toD_l, v_nil, v_cons, v_cons1, v_cons2, v_tup, v_tup0, v_tup1, v_tup2, v_tup3, v_lst, v_lst0, v_lst1, v_lst2, v_set, v_set_d, v_set_o, v_set_s, v_set_s1, v_set_s2, v_setS, v_drop, v_drop1, v_ret, v_ret1, v_retN, v_pass, v_seq, v_seq1, v_seq2, v_ifS, v_ifS1, v_ifS2, v_for, v_for1, v_range, v_range1, v_r1, v_r2, v_mut, v_mut_s, v_mut_s1, v_getB, v_getB1, v_kind, v_kind1, v_isL, v_mut2, v_mutE_l, v_mutR, v_append, o_add, o_sub, o_mul, o_mod, o_fdiv, o_lt, o_le, o_gt, o_ge, o_int, o_len_l, o_len_s, o_len_t, o_abs, o_neg, o_it_l, o_it_s, o_it_t, o_item, v_lstN, v_tupN, v_tryAs, v_tryA1, v_tryA2, v_tryB1, v_tryB2, v_allA, v_wpX1, v_wpX2, v_noX1, v_try, v_try1, v_try2, v_isE, v_isE1, v_frzE, v_frzE1, o_ltX_pl, o_min2X_pl, v_fn, v_fn1, o_isN5, o_slice_t, o_ne_pt, o_ne_pl, v_call, v_call1, v_A, v_aNil, v_aVar, v_aVar1, v_aVar2, v_aD, v_aD1, v_items, v_items_l, v_items_dl, v_items_dt, v_items_ds, v_items_s, v_items_s1, v_items_s2, v_items_s3, v_lstRg, v_dic, v_forH, v_forH1, v_forH2, v_restF, v_put, v_put1, v_put2, v_put3, v_putE, v_putR, v_fs, v_fs1, v_fld, v_fz, v_fz1, v_fz2, v_fz3, v_toD_i, v_toD_m, v_toDd, v_toDo, v_toDwl, v_toDwr, v_yes, v_make, v_make1, v_meth, v_meth2, v_sl, v_sl1, v_sl2, v_sl3, v_none, v_some, v_some1, o_slice_l, o_list_l, o_list_t, o_tup_l, o_tup_t, o_min2, o_max2, o_eq_i, o_ne_i, o_bl_eq, o_bl_ne, o_tru, o_isB, o_notB, o_add_l, o_in_il, o_nin_il, o_in_it, o_in_pl, o_in_pt, o_nin_pt, o_eq_il, o_ne_il, o_eq_pt, o_eq_pl, o_ne_p, o_eq_p, o_sort_pl, o_sort_pm, o_sort_il, v_wipe0, v_wipe1, v_wp, v_wpB, v_wp1, v_wp2, v_wp3, v_wp4, v_wp5, v_nd0, v_nd1, v_nd2, v_ap, v_ap1, v_ap2, v_ap3, v_ap4, v_slots0, v_slots1, v_slots2, v_args0, v_args1, v_args2, v_args3, v_args4, v_upd0, v_upd1, v_upd2, v_mk, v_mk1, v_mk2, v_mk3, v_run, v_end1, v_end2, v_end3, v_end4, v_end6, v_end7, v_end5, v_outs0, v_outs1, v_outs2, v_outs3, v_outs4, v_raise, v_bindx, v_seq3, v_seq4, v_seq5, v_nx1, v_nx2, v_nx3, v_nx4, v_nx5, v_iter, v_iter1, v_tname, v_ts0, v_ts1, v_ts2, v_ttup, v_for0, o_i_ii, o_i_ib, o_i_in, o_i_it, o_i_is, o_i_il, o_i_bi, o_i_bb, o_i_tt, o_i_ti, o_i_tl, o_i_tn, o_i_ts, o_i_tb, o_i_si, o_i_ss, o_i_st, o_i_tp, o_isN1, o_isN2, o_isN3, o_isN4, o_nin1, o_nin2, o_nin3, o_nin4, o_len_p, o_it_p0, o_it_p1, v_at0, v_at1, v_ttp, v_tup0i, v_enum, v_enum1, v_wipeE0, v_aug, v_aug1, v_aug2, List.getElem?_cons_succ, List.getElem?_cons_zero, List.set_cons_succ, List.set_cons_zero, List.length_cons, List.length_nil, Nat.reduceAdd, Nat.reduceLT, List.length_map, decide_true, decide_false, List.map_cons, List.map_nil, List.cons_append, List.nil_append, List.reduceReplicate, Nat.reduceSub, Nat.reduceLeDiff, Nat.reduceBEq, List.contains_cons, List.contains_nil, Bool.or_false, Bool.false_or, Bool.or_true, Bool.true_or, Bool.not_true, Bool.not_false, List.length_set, Nat.zero_add, List.getElem?_nil, e1, e2, v_append hl', List.map_append]
  rfl
theorem ll_b2 {n : Nat} {es b : List (Int × Int)} {o : List Int} {X : SV} (hX : X = PLs es ∨ X = PDs es) (g : Good n es) (hl : es.length ≤ 1000) (h : o.Perm (upto n)) : iter1 (tName 3) b2__law_least (lsD o) [OI n, some X, some (.d (.lst (b.map pD))), none, none, none] = .ok (.nx [OI n, some X, some (.d (.lst ((mnR b (rowE es o)).map pD))), none, none, none]) := by
  have e := fun {a0 a1 a2 : Option SV} => forF_pre (g := tName 5) (f := b1__law_least) (enc := pD) (xs := es) (fun pre => [a0, a1, a2, some (.d (lsD o)), some (PLs (pre.map (mpP o))), none]) fun p a post hq => by
    have ha : a ∈ es := by rw [hq]; simp
    have hlen : p.length ≤ es.length := by rw [hq]; simp
    rw [ll_b1 (es := es) (g.mem a ha) h (by rw [List.length_map]; simp only [lim]; omega), List.map_append]
    rfl
  simp only [PLs, lsD, List.map_nil] at e
  rcases hX with rfl | rfl
  · simp only [b2__law_least, PLs, lsD, v_var, v_var_d, v_var_o, v_c, v_bind, v_of, v_fin, v_vd, v_vo, v_vs, v_vs_d, v_vs_o, v_wl, v_wm, v_view1, v_view2, v_kv1, v_kv2, v_bin, v_bin1, v_bin2, v_ix, v_un, v_un1, v_test, v_test1, v_tru, v_tru1, v_tru2, v_obind, v_notT, v_notT1, v_andT, v_andT1, v_andT2, v_orT, v_orT1, v_orT2, v_not, v_not1, v_and, v_and1, v_and2, v_or, v_or1, v_or2, v_if, v_if1, v_if2, v_ch, v_ch1, v_ch2, v_ch3, v_ch4, v_ch5, v_D, v_frz_d, v_frz_o, v_frz_s, v_frz_s1, v_frz_s2, v_toD_l, v_nil, v_cons, v_cons1, v_cons2, v_tup, v_tup0, v_tup1, v_tup2, v_tup3, v_lst, v_lst0, v_lst1, v_lst2, v_set, v_set_d, v_set_o, v_set_s, v_set_s1, v_set_s2, v_setS, v_drop, v_drop1, v_ret, v_ret1, v_retN, v_pass, v_seq, v_seq1, v_seq2, v_ifS, v_ifS1, v_ifS2, v_for, v_for1, v_range, v_range1, v_r1, v_r2, v_mut, v_mut_s, v_mut_s1, v_getB, v_getB1, v_kind, v_kind1, v_isL, v_mut2, v_mutE_l, v_mutR, v_append, o_add, o_sub, o_mul, o_mod, o_fdiv, o_lt, o_le, o_gt, o_ge, o_int, o_len_l, o_len_s, o_len_t, o_abs, o_neg, o_it_l, o_it_s, o_it_t, o_item, v_lstN, v_tupN, v_tryAs, v_tryA1, v_tryA2, v_tryB1, v_tryB2, v_allA, v_wpX1, v_wpX2, v_noX1, v_try, v_try1, v_try2, v_isE, v_isE1, v_frzE, v_frzE1, o_ltX_pl, o_min2X_pl, v_fn, v_fn1, o_isN5, o_slice_t, o_ne_pt, o_ne_pl, v_call, v_call1, v_A, v_aNil, v_aVar, v_aVar1, v_aVar2, v_aD, v_aD1, v_items, v_items_l, v_items_dl, v_items_dt, v_items_ds, v_items_s, v_items_s1, v_items_s2, v_items_s3, v_lstRg, v_dic, v_forH, v_forH1, v_forH2, v_restF, v_put, v_put1, v_put2, v_put3, v_putE, v_putR, v_fs, v_fs1, v_fld, v_fz, v_fz1, v_fz2, v_fz3, v_toD_i, v_toD_m, v_toDd, v_toDo, v_toDwl, v_toDwr, v_yes, v_make, v_make1, v_meth, v_meth2, v_sl, v_sl1, v_sl2, v_sl3, v_none, v_some, v_some1, o_slice_l, o_list_l, o_list_t, o_tup_l, o_tup_t, o_min2, o_max2, o_eq_i, o_ne_i, o_bl_eq, o_bl_ne, o_tru, o_isB, o_notB, o_add_l, o_in_il, o_nin_il, o_in_it, o_in_pl, o_in_pt, o_nin_pt, o_eq_il, o_ne_il, o_eq_pt, o_eq_pl, o_ne_p, o_eq_p, o_sort_pl, o_sort_pm, o_sort_il, v_wipe0, v_wipe1, v_wp, v_wpB, v_wp1, v_wp2, v_wp3, v_wp4, v_wp5, v_nd0, v_nd1, v_nd2, v_ap, v_ap1, v_ap2, v_ap3, v_ap4, v_slots0, v_slots1, v_slots2, v_args0, v_args1, v_args2, v_args3, v_args4, v_upd0, v_upd1, v_upd2, v_mk, v_mk1, v_mk2, v_mk3, v_run, v_end1, v_end2, v_end3, v_end4, v_end6, v_end7, v_end5, v_outs0, v_outs1, v_outs2, v_outs3, v_outs4, v_raise, v_bindx, v_seq3, v_seq4, v_seq5, v_nx1, v_nx2, v_nx3, v_nx4, v_nx5, v_iter, v_iter1, v_tname, v_ts0, v_ts1, v_ts2, v_ttup, v_for0, o_i_ii, o_i_ib, o_i_in, o_i_it, o_i_is, o_i_il, o_i_bi, o_i_bb, o_i_tt, o_i_ti, o_i_tl, o_i_tn, o_i_ts, o_i_tb, o_i_si, o_i_ss, o_i_st, o_i_tp, o_isN1, o_isN2, o_isN3, o_isN4, o_nin1, o_nin2, o_nin3, o_nin4, o_len_p, o_it_p0, o_it_p1, v_at0, v_at1, v_ttp, v_tup0i, v_enum, v_enum1, v_wipeE0, v_aug, v_aug1, v_aug2, List.getElem?_cons_succ, List.getElem?_cons_zero, List.set_cons_succ, List.set_cons_zero, List.length_cons, List.length_nil, Nat.reduceAdd, Nat.reduceLT, List.length_map, decide_true, decide_false, List.map_cons, List.map_nil, List.cons_append, List.nil_append, List.reduceReplicate, Nat.reduceSub, Nat.reduceLeDiff, Nat.reduceBEq, List.contains_cons, List.contains_nil, Bool.or_false, Bool.false_or, Bool.or_true, Bool.true_or, Bool.not_true, Bool.not_false, List.length_set, Nat.zero_add, List.getElem?_nil, e, mnR, rowE]
    rfl
  · simp only [b2__law_least, PDs, lsD, v_var, v_var_d, v_var_o, v_c, v_bind, v_of, v_fin, v_vd, v_vo, v_vs, v_vs_d, v_vs_o, v_wl, v_wm, v_view1, v_view2, v_kv1, v_kv2, v_bin, v_bin1, v_bin2, v_ix, v_un, v_un1, v_test, v_test1, v_tru, v_tru1, v_tru2, v_obind, v_notT, v_notT1, v_andT, v_andT1, v_andT2, v_orT, v_orT1, v_orT2, v_not, v_not1, v_and, v_and1, v_and2, v_or, v_or1, v_or2, v_if, v_if1, v_if2, v_ch, v_ch1, v_ch2, v_ch3, v_ch4, v_ch5, v_D, v_frz_d, v_frz_o, v_frz_s, v_frz_s1, v_frz_s2, v_toD_l, v_nil, v_cons, v_cons1, v_cons2, v_tup, v_tup0, v_tup1, v_tup2, v_tup3, v_lst, v_lst0, v_lst1, v_lst2, v_set, v_set_d, v_set_o, v_set_s, v_set_s1, v_set_s2, v_setS, v_drop, v_drop1, v_ret, v_ret1, v_retN, v_pass, v_seq, v_seq1, v_seq2, v_ifS, v_ifS1, v_ifS2, v_for, v_for1, v_range, v_range1, v_r1, v_r2, v_mut, v_mut_s, v_mut_s1, v_getB, v_getB1, v_kind, v_kind1, v_isL, v_mut2, v_mutE_l, v_mutR, v_append, o_add, o_sub, o_mul, o_mod, o_fdiv, o_lt, o_le, o_gt, o_ge, o_int, o_len_l, o_len_s, o_len_t, o_abs, o_neg, o_it_l, o_it_s, o_it_t, o_item, v_lstN, v_tupN, v_tryAs, v_tryA1, v_tryA2, v_tryB1, v_tryB2, v_allA, v_wpX1, v_wpX2, v_noX1, v_try, v_try1, v_try2, v_isE, v_isE1, v_frzE, v_frzE1, o_ltX_pl, o_min2X_pl, v_fn, v_fn1, o_isN5, o_slice_t, o_ne_pt, o_ne_pl, v_call, v_call1, v_A, v_aNil, v_aVar, v_aVar1, v_aVar2, v_aD, v_aD1, v_items, v_items_l, v_items_dl, v_items_dt, v_items_ds, v_items_s, v_items_s1, v_items_s2, v_items_s3, v_lstRg, v_dic, v_forH, v_forH1, v_forH2, v_restF, v_put, v_put1, v_put2, v_put3, v_putE, v_putR, v_fs, v_fs1, v_fld, v_fz, v_fz1, v_fz2, v_fz3, v_toD_i, v_toD_m, v_toDd, v_toDo, v_toDwl, v_toDwr, v_yes, v_make, v_make1, v_meth, v_meth2, v_sl, v_sl1, v_sl2, v_sl3, v_none, v_some, v_some1, o_slice_l, o_list_l, o_list_t, o_tup_l, o_tup_t, o_min2, o_max2, o_eq_i, o_ne_i, o_bl_eq, o_bl_ne, o_tru, o_isB, o_notB, o_add_l, o_in_il, o_nin_il, o_in_it, o_in_pl, o_in_pt, o_nin_pt, o_eq_il, o_ne_il, o_eq_pt, o_eq_pl, o_ne_p, o_eq_p, o_sort_pl, o_sort_pm, o_sort_il, v_wipe0, v_wipe1, v_wp, v_wpB, v_wp1, v_wp2, v_wp3, v_wp4, v_wp5, v_nd0, v_nd1, v_nd2, v_ap, v_ap1, v_ap2, v_ap3, v_ap4, v_slots0, v_slots1, v_slots2, v_args0, v_args1, v_args2, v_args3, v_args4, v_upd0, v_upd1, v_upd2, v_mk, v_mk1, v_mk2, v_mk3, v_run, v_end1, v_end2, v_end3, v_end4, v_end6, v_end7, v_end5, v_outs0, v_outs1, v_outs2, v_outs3, v_outs4, v_raise, v_bindx, v_seq3, v_seq4, v_seq5, v_nx1, v_nx2, v_nx3, v_nx4, v_nx5, v_iter, v_iter1, v_tname, v_ts0, v_ts1, v_ts2, v_ttup, v_for0, o_i_ii, o_i_ib, o_i_in, o_i_it, o_i_is, o_i_il, o_i_bi, o_i_bb, o_i_tt, o_i_ti, o_i_tl, o_i_tn, o_i_ts, o_i_tb, o_i_si, o_i_ss, o_i_st, o_i_tp, o_isN1, o_isN2, o_isN3, o_isN4, o_nin1, o_nin2, o_nin3, o_nin4, o_len_p, o_it_p0, o_it_p1, v_at0, v_at1, v_ttp, v_tup0i, v_enum, v_enum1, v_wipeE0, v_aug, v_aug1, v_aug2, List.getElem?_cons_succ, List.getElem?_cons_zero, List.set_cons_succ, List.set_cons_zero, List.length_cons, List.length_nil, Nat.reduceAdd, Nat.reduceLT, List.length_map, decide_true, decide_false, List.map_cons, List.map_nil, List.cons_append, List.nil_append, List.reduceReplicate, Nat.reduceSub, Nat.reduceLeDiff, Nat.reduceBEq, List.contains_cons, List.contains_nil, Bool.or_false, Bool.false_or, Bool.or_true, Bool.true_or, Bool.not_true, Bool.not_false, List.length_set, Nat.zero_add, List.getElem?_nil, e, mnR, rowE]
    rfl
theorem o_lleast {n : Nat} {es : List (Int × Int)} {X : SV} (hX : X = PLs es ∨ X = PDs es) (hn : n ≤ 6) (g : Good n es) (hl : es.length ≤ 1000) : ∃ m, Least n es m ∧ fn__law_least [.d (.int n), X] = .ok (.d (.lst (m.map pD)), [OI n, some X]) := by
  have e := forF_pre (g := tName 3) (f := b2__law_least) (enc := lsD) (xs := lords n n) (fun pre => [OI n, some X, some (.d (.lst ((pre.foldl (fun b o => mnR b (rowE es o)) (srtP es)).map pD))), none, none, none]) fun p a post hq => by
    rw [ll_b2 hX g hl (mem_lords_n.mp (by rw [hq]; simp)), List.foldl_append]
    rfl
  refine ⟨_, least_fold (L := lords n n) (o0 := upto n) (List.Perm.refl _) fun o => ?_, ?_⟩
  · rw [mem_lords_n]
    constructor
    · rintro (h | rfl)
      · exact h
      · exact List.Perm.refl _
    · exact .inl
  · rw [rowE_id g]
    simp only [List.foldl_nil] at e
    rcases hX with rfl | rfl
    · simp only [PLs] at e
      simp only [fn__law_least, code__law_least, PLs, v_var, v_var_d, v_var_o, v_c, v_bind, v_of, v_fin, v_vd, v_vo, v_vs, v_vs_d, v_vs_o, v_wl, v_wm, v_view1, v_view2, v_kv1, v_kv2, v_bin, v_bin1, v_bin2, v_ix, v_un, v_un1, v_test, v_test1, v_tru, v_tru1, v_tru2, v_obind, v_notT, v_notT1, v_andT, v_andT1, v_andT2, v_orT, v_orT1, v_orT2, v_not, v_not1, v_and, v_and1, v_and2, v_or, v_or1, v_or2, v_if, v_if1, v_if2, v_ch, v_ch1, v_ch2, v_ch3, v_ch4, v_ch5, v_D, v_frz_d, v_frz_o, v_frz_s, v_frz_s1, v_frz_s2, v_toD_l, v_nil, v_cons, v_cons1, v_cons2, v_tup, v_tup0, v_tup1, v_tup2, v_tup3, v_lst, v_lst0, v_lst1, v_lst2, v_set, v_set_d, v_set_o, v_set_s, v_set_s1, v_set_s2, v_setS, v_drop, v_drop1, v_ret, v_ret1, v_retN, v_pass, v_seq, v_seq1, v_seq2, v_ifS, v_ifS1, v_ifS2, v_for, v_for1, v_range, v_range1, v_r1, v_r2, v_mut, v_mut_s, v_mut_s1, v_getB, v_getB1, v_kind, v_kind1, v_isL, v_mut2, v_mutE_l, v_mutR, v_append, o_add, o_sub, o_mul, o_mod, o_fdiv, o_lt, o_le, o_gt, o_ge, o_int, o_len_l, o_len_s, o_len_t, o_abs, o_neg, o_it_l, o_it_s, o_it_t, o_item, v_lstN, v_tupN, v_tryAs, v_tryA1, v_tryA2, v_tryB1, v_tryB2, v_allA, v_wpX1, v_wpX2, v_noX1, v_try, v_try1, v_try2, v_isE, v_isE1, v_frzE, v_frzE1, o_ltX_pl, o_min2X_pl, v_fn, v_fn1, o_isN5, o_slice_t, o_ne_pt, o_ne_pl, v_call, v_call1, v_A, v_aNil, v_aVar, v_aVar1, v_aVar2, v_aD, v_aD1, v_items, v_items_l, v_items_dl, v_items_dt, v_items_ds, v_items_s, v_items_s1, v_items_s2, v_items_s3, v_lstRg, v_dic, v_forH, v_forH1, v_forH2, v_restF, v_put, v_put1, v_put2, v_put3, v_putE, v_putR, v_fs, v_fs1, v_fld, v_fz, v_fz1, v_fz2, v_fz3, v_toD_i, v_toD_m, v_toDd, v_toDo, v_toDwl, v_toDwr, v_yes, v_make, v_make1, v_meth, v_meth2, v_sl, v_sl1, v_sl2, v_sl3, v_none, v_some, v_some1, o_slice_l, o_list_l, o_list_t, o_tup_l, o_tup_t, o_min2, o_max2, o_eq_i, o_ne_i, o_bl_eq, o_bl_ne, o_tru, o_isB, o_notB, o_add_l, o_in_il, o_nin_il, o_in_it, o_in_pl, o_in_pt, o_nin_pt, o_eq_il, o_ne_il, o_eq_pt, o_eq_pl, o_ne_p, o_eq_p, o_sort_pl, o_sort_pm, o_sort_il, v_wipe0, v_wipe1, v_wp, v_wpB, v_wp1, v_wp2, v_wp3, v_wp4, v_wp5, v_nd0, v_nd1, v_nd2, v_ap, v_ap1, v_ap2, v_ap3, v_ap4, v_slots0, v_slots1, v_slots2, v_args0, v_args1, v_args2, v_args3, v_args4, v_upd0, v_upd1, v_upd2, v_mk, v_mk1, v_mk2, v_mk3, v_run, v_end1, v_end2, v_end3, v_end4, v_end6, v_end7, v_end5, v_outs0, v_outs1, v_outs2, v_outs3, v_outs4, v_raise, v_bindx, v_seq3, v_seq4, v_seq5, v_nx1, v_nx2, v_nx3, v_nx4, v_nx5, v_iter, v_iter1, v_tname, v_ts0, v_ts1, v_ts2, v_ttup, v_for0, o_i_ii, o_i_ib, o_i_in, o_i_it, o_i_is, o_i_il, o_i_bi, o_i_bb, o_i_tt, o_i_ti, o_i_tl, o_i_tn, o_i_ts, o_i_tb, o_i_si, o_i_ss, o_i_st, o_i_tp, o_isN1, o_isN2, o_isN3, o_isN4, o_nin1, o_nin2, o_nin3, o_nin4, o_len_p, o_it_p0, o_it_p1, v_at0, v_at1, v_ttp, v_tup0i, v_enum, v_enum1, v_wipeE0, v_aug, v_aug1, v_aug2, List.getElem?_cons_succ, List.getElem?_cons_zero, List.set_cons_succ, List.set_cons_zero, List.length_cons, List.length_nil, Nat.reduceAdd, Nat.reduceLT, List.length_map, decide_true, decide_false, List.map_cons, List.map_nil, List.cons_append, List.nil_append, List.reduceReplicate, Nat.reduceSub, Nat.reduceLeDiff, Nat.reduceBEq, List.contains_cons, List.contains_nil, Bool.or_false, Bool.false_or, Bool.or_true, Bool.true_or, Bool.not_true, Bool.not_false, List.length_set, Nat.zero_add, List.getElem?_nil, o_lorders hn, e]
    · simp only [PDs] at e
      simp only [fn__law_least, code__law_least, PDs, v_var, v_var_d, v_var_o, v_c, v_bind, v_of, v_fin, v_vd, v_vo, v_vs, v_vs_d, v_vs_o, v_wl, v_wm, v_view1, v_view2, v_kv1, v_kv2, v_bin, v_bin1, v_bin2, v_ix, v_un, v_un1, v_test, v_test1, v_tru, v_tru1, v_tru2, v_obind, v_notT, v_notT1, v_andT, v_andT1, v_andT2, v_orT, v_orT1, v_orT2, v_not, v_not1, v_and, v_and1, v_and2, v_or, v_or1, v_or2, v_if, v_if1, v_if2, v_ch, v_ch1, v_ch2, v_ch3, v_ch4, v_ch5, v_D, v_frz_d, v_frz_o, v_frz_s, v_frz_s1, v_frz_s2, v_toD_l, v_nil, v_cons, v_cons1, v_cons2, v_tup, v_tup0, v_tup1, v_tup2, v_tup3, v_lst, v_lst0, v_lst1, v_lst2, v_set, v_set_d, v_set_o, v_set_s, v_set_s1, v_set_s2, v_setS, v_drop, v_drop1, v_ret, v_ret1, v_retN, v_pass, v_seq, v_seq1, v_seq2, v_ifS, v_ifS1, v_ifS2, v_for, v_for1, v_range, v_range1, v_r1, v_r2, v_mut, v_mut_s, v_mut_s1, v_getB, v_getB1, v_kind, v_kind1, v_isL, v_mut2, v_mutE_l, v_mutR, v_append, o_add, o_sub, o_mul, o_mod, o_fdiv, o_lt, o_le, o_gt, o_ge, o_int, o_len_l, o_len_s, o_len_t, o_abs, o_neg, o_it_l, o_it_s, o_it_t, o_item, v_lstN, v_tupN, v_tryAs, v_tryA1, v_tryA2, v_tryB1, v_tryB2, v_allA, v_wpX1, v_wpX2, v_noX1, v_try, v_try1, v_try2, v_isE, v_isE1, v_frzE, v_frzE1, o_ltX_pl, o_min2X_pl, v_fn, v_fn1, o_isN5, o_slice_t, o_ne_pt, o_ne_pl, v_call, v_call1, v_A, v_aNil, v_aVar, v_aVar1, v_aVar2, v_aD, v_aD1, v_items, v_items_l, v_items_dl, v_items_dt, v_items_ds, v_items_s, v_items_s1, v_items_s2, v_items_s3, v_lstRg, v_dic, v_forH, v_forH1, v_forH2, v_restF, v_put, v_put1, v_put2, v_put3, v_putE, v_putR, v_fs, v_fs1, v_fld, v_fz, v_fz1, v_fz2, v_fz3, v_toD_i, v_toD_m, v_toDd, v_toDo, v_toDwl, v_toDwr, v_yes, v_make, v_make1, v_meth, v_meth2, v_sl, v_sl1, v_sl2, v_sl3, v_none, v_some, v_some1, o_slice_l, o_list_l, o_list_t, o_tup_l, o_tup_t, o_min2, o_max2, o_eq_i, o_ne_i, o_bl_eq, o_bl_ne, o_tru, o_isB, o_notB, o_add_l, o_in_il, o_nin_il, o_in_it, o_in_pl, o_in_pt, o_nin_pt, o_eq_il, o_ne_il, o_eq_pt, o_eq_pl, o_ne_p, o_eq_p, o_sort_pl, o_sort_pm, o_sort_il, v_wipe0, v_wipe1, v_wp, v_wpB, v_wp1, v_wp2, v_wp3, v_wp4, v_wp5, v_nd0, v_nd1, v_nd2, v_ap, v_ap1, v_ap2, v_ap3, v_ap4, v_slots0, v_slots1, v_slots2, v_args0, v_args1, v_args2, v_args3, v_args4, v_upd0, v_upd1, v_upd2, v_mk, v_mk1, v_mk2, v_mk3, v_run, v_end1, v_end2, v_end3, v_end4, v_end6, v_end7, v_end5, v_outs0, v_outs1, v_outs2, v_outs3, v_outs4, v_raise, v_bindx, v_seq3, v_seq4, v_seq5, v_nx1, v_nx2, v_nx3, v_nx4, v_nx5, v_iter, v_iter1, v_tname, v_ts0, v_ts1, v_ts2, v_ttup, v_for0, o_i_ii, o_i_ib, o_i_in, o_i_it, o_i_is, o_i_il, o_i_bi, o_i_bb, o_i_tt, o_i_ti, o_i_tl, o_i_tn, o_i_ts, o_i_tb, o_i_si, o_i_ss, o_i_st, o_i_tp, o_isN1, o_isN2, o_isN3, o_isN4, o_nin1, o_nin2, o_nin3, o_nin4, o_len_p, o_it_p0, o_it_p1, v_at0, v_at1, v_ttp, v_tup0i, v_enum, v_enum1, v_wipeE0, v_aug, v_aug1, v_aug2, List.getElem?_cons_succ, List.getElem?_cons_zero, List.set_cons_succ, List.set_cons_zero, List.length_cons, List.length_nil, Nat.reduceAdd, Nat.reduceLT, List.length_map, decide_true, decide_false, List.map_cons, List.map_nil, List.cons_append, List.nil_append, List.reduceReplicate, Nat.reduceSub, Nat.reduceLeDiff, Nat.reduceBEq, List.contains_cons, List.contains_nil, Bool.or_false, Bool.false_or, Bool.or_true, Bool.true_or, Bool.not_true, Bool.not_false, List.length_set, Nat.zero_add, List.getElem?_nil, o_lorders hn, e]
theorem o_least_form {n : Nat} {es : List (Int × Int)} (hn : n ≤ 6) (g : Good n es) (hl : es.length ≤ 1000) : ∃ m, Least n es m ∧ fn_least_form [.d (GD n es)] = .ok (.o (GO n m), [some (.d (GD n es))]) := by
  have gs := g.perm (srtP_perm es)
  obtain ⟨m, l, e⟩ := o_least_edges hn gs (by rw [(srtP_perm es).length_eq]; exact hl)
  have lm : Least n es m := by
    obtain ⟨⟨o, h1, h2⟩, h3⟩ := l
    exact ⟨⟨o, h1, h2.trans (rowE_congr (srtP_perm es))⟩, fun o ho => by rw [← rowE_congr (srtP_perm es)]; exact h3 o ho⟩
  have gm : Good n m := by
    obtain ⟨o, h1, h2⟩ := lm.ex
    rw [h2]
    exact rowE_good g h1
  have ml : m.length = es.length := by
    obtain ⟨o, h1, h2⟩ := lm.ex
    rw [h2]
    unfold rowE
    rw [(srtP_perm _).length_eq, List.length_map]
  refine ⟨m, lm, ?_⟩
  have mk := init_ok (X := PDs m) (.inr rfl) (show n ≤ 60 by omega) gm (by simp only [lim]; omega)
  have hn' : ¬ (7 : Int) < n := by omega
  simp only [G0, PDs] at mk
  simp only [fn_least_form, code_least_form, v_var, v_var_d, v_var_o, v_c, v_bind, v_of, v_fin, v_vd, v_vo, v_vs, v_vs_d, v_vs_o, v_wl, v_wm, v_view1, v_view2, v_kv1, v_kv2, v_bin, v_bin1, v_bin2, v_ix, v_un, v_un1, v_test, v_test1, v_tru, v_tru1, v_tru2, v_obind, v_notT, v_notT1, v_andT, v_andT1, v_andT2, v_orT, v_orT1, v_orT2, v_not, v_not1, v_and, v_and1, v_and2, v_or, v_or1, v_or2, v_if, v_if1, v_if2, v_ch, v_ch1, v_ch2, v_ch3, v_ch4, v_ch5, v_D, v_frz_d, v_frz_o, v_frz_s, v_frz_s1, v_frz_s2, v_toD_l, v_nil, v_cons, v_cons1, v_cons2, v_tup, v_tup0, v_tup1, v_tup2, v_tup3, v_lst, v_lst0, v_lst1, v_lst2, v_set, v_set_d, v_set_o, v_set_s, v_set_s1, v_set_s2, v_setS, v_drop, v_drop1, v_ret, v_ret1, v_retN, v_pass, v_seq, v_seq1, v_seq2, v_ifS, v_ifS1, v_ifS2, v_for, v_for1, v_range, v_range1, v_r1, v_r2, v_mut, v_mut_s, v_mut_s1, v_getB, v_getB1, v_kind, v_kind1, v_isL, v_mut2, v_mutE_l, v_mutR, v_append, o_add, o_sub, o_mul, o_mod, o_fdiv, o_lt, o_le, o_gt, o_ge, o_int, o_len_l, o_len_s, o_len_t, o_abs, o_neg, o_it_l, o_it_s, o_it_t, o_item, v_lstN, v_tupN, v_tryAs, v_tryA1, v_tryA2, v_tryB1, v_tryB2, v_allA, v_wpX1, v_wpX2, v_noX1, v_try, v_try1, v_try2, v_isE, v_isE1, v_frzE, v_frzE1, o_ltX_pl, o_min2X_pl, v_fn, v_fn1, o_isN5, o_slice_t, o_ne_pt, o_ne_pl, v_call, v_call1, v_A, v_aNil, v_aVar, v_aVar1, v_aVar2, v_aD, v_aD1, v_items, v_items_l, v_items_dl, v_items_dt, v_items_ds, v_items_s, v_items_s1, v_items_s2, v_items_s3, v_lstRg, v_dic, v_forH, v_forH1, v_forH2, v_restF, v_put, v_put1, v_put2, v_put3, v_putE, v_putR, v_fs, v_fs1, v_fld, v_fz, v_fz1, v_fz2, v_fz3, v_toD_i, v_toD_m, v_toDd, v_toDo, v_toDwl, v_toDwr, v_yes, v_make, v_make1, v_meth, v_meth2, v_sl, v_sl1, v_sl2, v_sl3, v_none, v_some, v_some1, o_slice_l, o_list_l, o_list_t, o_tup_l, o_tup_t, o_min2, o_max2, o_eq_i, o_ne_i, o_bl_eq, o_bl_ne, o_tru, o_isB, o_notB, o_add_l, o_in_il, o_nin_il, o_in_it, o_in_pl, o_in_pt, o_nin_pt, o_eq_il, o_ne_il, o_eq_pt, o_eq_pl, o_ne_p, o_eq_p, o_sort_pl, o_sort_pm, o_sort_il, v_wipe0, v_wipe1, v_wp, v_wpB, v_wp1, v_wp2, v_wp3, v_wp4, v_wp5, v_nd0, v_nd1, v_nd2, v_ap, v_ap1, v_ap2, v_ap3, v_ap4, v_slots0, v_slots1, v_slots2, v_args0, v_args1, v_args2, v_args3, v_args4, v_upd0, v_upd1, v_upd2, v_mk, v_mk1, v_mk2, v_mk3, v_run, v_end1, v_end2, v_end3, v_end4, v_end6, v_end7, v_end5, v_outs0, v_outs1, v_outs2, v_outs3, v_outs4, v_raise, v_bindx, v_seq3, v_seq4, v_seq5, v_nx1, v_nx2, v_nx3, v_nx4, v_nx5, v_iter, v_iter1, v_tname, v_ts0, v_ts1, v_ts2, v_ttup, v_for0, o_i_ii, o_i_ib, o_i_in, o_i_it, o_i_is, o_i_il, o_i_bi, o_i_bb, o_i_tt, o_i_ti, o_i_tl, o_i_tn, o_i_ts, o_i_tb, o_i_si, o_i_ss, o_i_st, o_i_tp, o_isN1, o_isN2, o_isN3, o_isN4, o_nin1, o_nin2, o_nin3, o_nin4, o_len_p, o_it_p0, o_it_p1, v_at0, v_at1, v_ttp, v_tup0i, v_enum, v_enum1, v_wipeE0, v_aug, v_aug1, v_aug2, List.getElem?_cons_succ, List.getElem?_cons_zero, List.set_cons_succ, List.set_cons_zero, List.length_cons, List.length_nil, Nat.reduceAdd, Nat.reduceLT, List.length_map, decide_true, decide_false, List.map_cons, List.map_nil, List.cons_append, List.nil_append, List.reduceReplicate, Nat.reduceSub, Nat.reduceLeDiff, Nat.reduceBEq, List.contains_cons, List.contains_nil, Bool.or_false, Bool.false_or, Bool.or_true, Bool.true_or, Bool.not_true, Bool.not_false, List.length_set, Nat.zero_add, List.getElem?_nil, o_fsize, o_fedges, e, mk, hn']
theorem least_srt {n : Nat} {es m : List (Int × Int)} (l : Least n es m) : srtP m = m := by
  obtain ⟨o, h1, h2⟩ := l.ex
  rw [h2]; exact rowE_srt
end K03
namespace K03
open J
theorem lc_one {p : Int × Int} {es : List (Int × Int)} {n : Int} {a0 a1 a2 a3 a5 a6 a7 a8 a9 a11 : Option SV} (hl : es.length ≤ 1000) :
    cLc (cItems (cIx (cVar 4) (cC (.int 1)))) [12] (tName 12) (cTest (cBin neV' (cVar 12) (cVar 10))) (cD (cVar 12)) [a0, a1, a2, a3, some (.d (.tup [.int n, .lst (es.map pD)])), a5, a6, a7, a8, a9, some (.d (pD p)), a11, none]
    = .ok (.o (.b (.l ((es.filter fun q => !decide (q = p)).map pD))), [a0, a1, a2, a3, some (.d (.tup [.int n, .lst (es.map pD)])), a5, a6, a7, a8, a9, some (.d (pD p)), a11, none]) := by
  refine w_lcTf (g := tName 12) (vs := [12]) (enc := pD) (fun q => !decide (q = p)) (by simp only [v_var, v_var_d, v_var_o, v_c, v_bind, v_of, v_fin, v_vd, v_vo, v_vs, v_vs_d, v_vs_o, v_wl, v_wm, v_view1, v_view2, v_kv1, v_kv2, v_bin, v_bin1, v_bin2, v_ix, v_un, v_un1, v_test, v_test1, v_tru, v_tru1, v_tru2, v_obind, v_notT, v_notT1, v_andT, v_andT1, v_andT2, v_orT, v_orT1, v_orT2, v_not, v_not1, v_and, v_and1, v_and2, v_or, v_or1, v_or2, v_if, v_if1, v_if2, v_ch, v_ch1, v_ch2, v_ch3, v_ch4, v_ch5, v_D, v_frz_d, v_frz_o, v_frz_s, v_frz_s1, v_frz_s2, v_toD_l, v_nil, v_cons, v_cons1, v_cons2, v_tup, v_tup0, v_tup1, v_tup2, v_tup3, v_lst, v_lst0, v_lst1, v_lst2, v_set, v_set_d, v_set_o, v_set_s, v_set_s1, v_set_s2, v_setS, v_drop, v_drop1, v_ret, v_ret1, v_retN, v_pass, v_seq, v_seq1, v_seq2, v_ifS, v_ifS1, v_ifS2, v_for, v_for1, v_range, v_range1, v_r1, v_r2, v_mut, v_mut_s, v_mut_s1, v_getB, v_getB1, v_kind, v_kind1, v_isL, v_mut2, v_mutE_l, v_mutR, v_append, o_add, o_sub, o_mul, o_mod, o_fdiv, o_lt, o_le, o_gt, o_ge, o_int, o_len_l, o_len_s, o_len_t, o_abs, o_neg, o_it_l, o_it_s, o_it_t, o_item, v_lstN, v_tupN, v_tryAs, v_tryA1, v_tryA2, v_tryB1, v_tryB2, v_allA, v_wpX1, v_wpX2, v_noX1, v_try, v_try1, v_try2, v_isE, v_isE1, v_frzE, v_frzE1, o_ltX_pl, o_min2X_pl, v_fn, v_fn1, o_isN5, o_slice_t, o_ne_pt, o_ne_pl, v_call, v_call1, v_A, v_aNil, v_aVar, v_aVar1, v_aVar2, v_aD, v_aD1, v_items, v_items_l, v_items_dl, v_items_dt, v_items_ds, v_items_s, v_items_s1, v_items_s2, v_items_s3, v_lstRg, v_dic, v_forH, v_forH1, v_forH2, v_restF, v_put, v_put1, v_put2, v_put3, v_putE, v_putR, v_fs, v_fs1, v_fld, v_fz, v_fz1, v_fz2, v_fz3, v_toD_i, v_toD_m, v_toDd, v_toDo, v_toDwl, v_toDwr, v_yes, v_make, v_make1, v_meth, v_meth2, v_sl, v_sl1, v_sl2, v_sl3, v_none, v_some, v_some1, o_slice_l, o_list_l, o_list_t, o_tup_l, o_tup_t, o_min2, o_max2, o_eq_i, o_ne_i, o_bl_eq, o_bl_ne, o_tru, o_isB, o_notB, o_add_l, o_in_il, o_nin_il, o_in_it, o_in_pl, o_in_pt, o_nin_pt, o_eq_il, o_ne_il, o_eq_pt, o_eq_pl, o_ne_p, o_eq_p, o_sort_pl, o_sort_pm, o_sort_il, v_wipe0, v_wipe1, v_wp, v_wpB, v_wp1, v_wp2, v_wp3, v_wp4, v_wp5, v_nd0, v_nd1, v_nd2, v_ap, v_ap1, v_ap2, v_ap3, v_ap4, v_slots0, v_slots1, v_slots2, v_args0, v_args1, v_args2, v_args3, v_args4, v_upd0, v_upd1, v_upd2, v_mk, v_mk1, v_mk2, v_mk3, v_run, v_end1, v_end2, v_end3, v_end4, v_end6, v_end7, v_end5, v_outs0, v_outs1, v_outs2, v_outs3, v_outs4, v_raise, v_bindx, v_seq3, v_seq4, v_seq5, v_nx1, v_nx2, v_nx3, v_nx4, v_nx5, v_iter, v_iter1, v_tname, v_ts0, v_ts1, v_ts2, v_ttup, v_for0, o_i_ii, o_i_ib, o_i_in, o_i_it, o_i_is, o_i_il, o_i_bi, o_i_bb, o_i_tt, o_i_ti, o_i_tl, o_i_tn, o_i_ts, o_i_tb, o_i_si, o_i_ss, o_i_st, o_i_tp, o_isN1, o_isN2, o_isN3, o_isN4, o_nin1, o_nin2, o_nin3, o_nin4, o_len_p, o_it_p0, o_it_p1, v_at0, v_at1, v_ttp, v_tup0i, v_enum, v_enum1, v_wipeE0, v_aug, v_aug1, v_aug2, List.getElem?_cons_succ, List.getElem?_cons_zero, List.set_cons_succ, List.set_cons_zero, List.length_cons, List.length_nil, Nat.reduceAdd, Nat.reduceLT, List.length_map, decide_true, decide_false, List.map_cons, List.map_nil, List.cons_append, List.nil_append, List.reduceReplicate, Nat.reduceSub, Nat.reduceLeDiff, Nat.reduceBEq, List.contains_cons, List.contains_nil, Bool.or_false, Bool.false_or, Bool.or_true, Bool.true_or, Bool.not_true, Bool.not_false, List.length_set, Nat.zero_add, List.getElem?_nil]) (fun k hk => ⟨_, rfl, ?_, fun _ => ?_, rfl⟩) (by simp only [lim]; omega) rfl
  · simp only [v_var, v_var_d, v_var_o, v_c, v_bind, v_of, v_fin, v_vd, v_vo, v_vs, v_vs_d, v_vs_o, v_wl, v_wm, v_view1, v_view2, v_kv1, v_kv2, v_bin, v_bin1, v_bin2, v_ix, v_un, v_un1, v_test, v_test1, v_tru, v_tru1, v_tru2, v_obind, v_notT, v_notT1, v_andT, v_andT1, v_andT2, v_orT, v_orT1, v_orT2, v_not, v_not1, v_and, v_and1, v_and2, v_or, v_or1, v_or2, v_if, v_if1, v_if2, v_ch, v_ch1, v_ch2, v_ch3, v_ch4, v_ch5, v_D, v_frz_d, v_frz_o, v_frz_s, v_frz_s1, v_frz_s2, v_toD_l, v_nil, v_cons, v_cons1, v_cons2, v_tup, v_tup0, v_tup1, v_tup2, v_tup3, v_lst, v_lst0, v_lst1, v_lst2, v_set, v_set_d, v_set_o, v_set_s, v_set_s1, v_set_s2, v_setS, v_drop, v_drop1, v_ret, v_ret1, v_retN, v_pass, v_seq, v_seq1, v_seq2, v_ifS, v_ifS1, v_ifS2, v_for, v_for1, v_range, v_range1, v_r1, v_r2, v_mut, v_mut_s, v_mut_s1, v_getB, v_getB1, v_kind, v_kind1, v_isL, v_mut2, v_mutE_l, v_mutR, v_append, o_add, o_sub, o_mul, o_mod, o_fdiv, o_lt, o_le, o_gt, o_ge, o_int, o_len_l, o_len_s, o_len_t, o_abs, o_neg, o_it_l, o_it_s, o_it_t, o_item, v_lstN, v_tupN, v_tryAs, v_tryA1, v_tryA2, v_tryB1, v_tryB2, v_allA, v_wpX1, v_wpX2, v_noX1, v_try, v_try1, v_try2, v_isE, v_isE1, v_frzE, v_frzE1, o_ltX_pl, o_min2X_pl, v_fn, v_fn1, o_isN5, o_slice_t, o_ne_pt, o_ne_pl, v_call, v_call1, v_A, v_aNil, v_aVar, v_aVar1, v_aVar2, v_aD, v_aD1, v_items, v_items_l, v_items_dl, v_items_dt, v_items_ds, v_items_s, v_items_s1, v_items_s2, v_items_s3, v_lstRg, v_dic, v_forH, v_forH1, v_forH2, v_restF, v_put, v_put1, v_put2, v_put3, v_putE, v_putR, v_fs, v_fs1, v_fld, v_fz, v_fz1, v_fz2, v_fz3, v_toD_i, v_toD_m, v_toDd, v_toDo, v_toDwl, v_toDwr, v_yes, v_make, v_make1, v_meth, v_meth2, v_sl, v_sl1, v_sl2, v_sl3, v_none, v_some, v_some1, o_slice_l, o_list_l, o_list_t, o_tup_l, o_tup_t, o_min2, o_max2, o_eq_i, o_ne_i, o_bl_eq, o_bl_ne, o_tru, o_isB, o_notB, o_add_l, o_in_il, o_nin_il, o_in_it, o_in_pl, o_in_pt, o_nin_pt, o_eq_il, o_ne_il, o_eq_pt, o_eq_pl, o_ne_p, o_eq_p, o_sort_pl, o_sort_pm, o_sort_il, v_wipe0, v_wipe1, v_wp, v_wpB, v_wp1, v_wp2, v_wp3, v_wp4, v_wp5, v_nd0, v_nd1, v_nd2, v_ap, v_ap1, v_ap2, v_ap3, v_ap4, v_slots0, v_slots1, v_slots2, v_args0, v_args1, v_args2, v_args3, v_args4, v_upd0, v_upd1, v_upd2, v_mk, v_mk1, v_mk2, v_mk3, v_run, v_end1, v_end2, v_end3, v_end4, v_end6, v_end7, v_end5, v_outs0, v_outs1, v_outs2, v_outs3, v_outs4, v_raise, v_bindx, v_seq3, v_seq4, v_seq5, v_nx1, v_nx2, v_nx3, v_nx4, v_nx5, v_iter, v_iter1, v_tname, v_ts0, v_ts1, v_ts2, v_ttup, v_for0, o_i_ii, o_i_ib, o_i_in, o_i_it, o_i_is, o_i_il, o_i_bi, o_i_bb, o_i_tt, o_i_ti, o_i_tl, o_i_tn, o_i_ts, o_i_tb, o_i_si, o_i_ss, o_i_st, o_i_tp, o_isN1, o_isN2, o_isN3, o_isN4, o_nin1, o_nin2, o_nin3, o_nin4, o_len_p, o_it_p0, o_it_p1, v_at0, v_at1, v_ttp, v_tup0i, v_enum, v_enum1, v_wipeE0, v_aug, v_aug1, v_aug2, List.getElem?_cons_succ, List.getElem?_cons_zero, List.set_cons_succ, List.set_cons_zero, List.length_cons, List.length_nil, Nat.reduceAdd, Nat.reduceLT, List.length_map, decide_true, decide_false, List.map_cons, List.map_nil, List.cons_append, List.nil_append, List.reduceReplicate, Nat.reduceSub, Nat.reduceLeDiff, Nat.reduceBEq, List.contains_cons, List.contains_nil, Bool.or_false, Bool.false_or, Bool.or_true, Bool.true_or, Bool.not_true, Bool.not_false, List.length_set, Nat.zero_add, List.getElem?_nil, wipeE]
  · simp only [v_var, v_var_d, v_var_o, v_c, v_bind, v_of, v_fin, v_vd, v_vo, v_vs, v_vs_d, v_vs_o, v_wl, v_wm, v_view1, v_view2, v_kv1, v_kv2, v_bin, v_bin1, v_bin2, v_ix, v_un, v_un1, v_test, v_test1, v_tru, v_tru1, v_tru2, v_obind, v_notT, v_notT1, v_andT, v_andT1, v_andT2, v_orT, v_orT1, v_orT2, v_not, v_not1, v_and, v_and1, v_and2, v_or, v_or1, v_or2, v_if, v_if1, v_if2, v_ch, v_ch1, v_ch2, v_ch3, v_ch4, v_ch5, v_D, v_frz_d, v_frz_o, v_frz_s, v_frz_s1, v_frz_s2, v_toD_l, v_nil, v_cons, v_cons1, v_cons2, v_tup, v_tup0, v_tup1, v_tup2, v_tup3, v_lst, v_lst0, v_lst1, v_lst2, v_set, v_set_d, v_set_o, v_set_s, v_set_s1, v_set_s2, v_setS, v_drop, v_drop1, v_ret, v_ret1, v_retN, v_pass, v_seq, v_seq1, v_seq2, v_ifS, v_ifS1, v_ifS2, v_for, v_for1, v_range, v_range1, v_r1, v_r2, v_mut, v_mut_s, v_mut_s1, v_getB, v_getB1, v_kind, v_kind1, v_isL, v_mut2, v_mutE_l, v_mutR, v_append, o_add, o_sub, o_mul, o_mod, o_fdiv, o_lt, o_le, o_gt, o_ge, o_int, o_len_l, o_len_s, o_len_t, o_abs, o_neg, o_it_l, o_it_s, o_it_t, o_item, v_lstN, v_tupN, v_tryAs, v_tryA1, v_tryA2, v_tryB1, v_tryB2, v_allA, v_wpX1, v_wpX2, v_noX1, v_try, v_try1, v_try2, v_isE, v_isE1, v_frzE, v_frzE1, o_ltX_pl, o_min2X_pl, v_fn, v_fn1, o_isN5, o_slice_t, o_ne_pt, o_ne_pl, v_call, v_call1, v_A, v_aNil, v_aVar, v_aVar1, v_aVar2, v_aD, v_aD1, v_items, v_items_l, v_items_dl, v_items_dt, v_items_ds, v_items_s, v_items_s1, v_items_s2, v_items_s3, v_lstRg, v_dic, v_forH, v_forH1, v_forH2, v_restF, v_put, v_put1, v_put2, v_put3, v_putE, v_putR, v_fs, v_fs1, v_fld, v_fz, v_fz1, v_fz2, v_fz3, v_toD_i, v_toD_m, v_toDd, v_toDo, v_toDwl, v_toDwr, v_yes, v_make, v_make1, v_meth, v_meth2, v_sl, v_sl1, v_sl2, v_sl3, v_none, v_some, v_some1, o_slice_l, o_list_l, o_list_t, o_tup_l, o_tup_t, o_min2, o_max2, o_eq_i, o_ne_i, o_bl_eq, o_bl_ne, o_tru, o_isB, o_notB, o_add_l, o_in_il, o_nin_il, o_in_it, o_in_pl, o_in_pt, o_nin_pt, o_eq_il, o_ne_il, o_eq_pt, o_eq_pl, o_ne_p, o_eq_p, o_sort_pl, o_sort_pm, o_sort_il, v_wipe0, v_wipe1, v_wp, v_wpB, v_wp1, v_wp2, v_wp3, v_wp4, v_wp5, v_nd0, v_nd1, v_nd2, v_ap, v_ap1, v_ap2, v_ap3, v_ap4, v_slots0, v_slots1, v_slots2, v_args0, v_args1, v_args2, v_args3, v_args4, v_upd0, v_upd1, v_upd2, v_mk, v_mk1, v_mk2, v_mk3, v_run, v_end1, v_end2, v_end3, v_end4, v_end6, v_end7, v_end5, v_outs0, v_outs1, v_outs2, v_outs3, v_outs4, v_raise, v_bindx, v_seq3, v_seq4, v_seq5, v_nx1, v_nx2, v_nx3, v_nx4, v_nx5, v_iter, v_iter1, v_tname, v_ts0, v_ts1, v_ts2, v_ttup, v_for0, o_i_ii, o_i_ib, o_i_in, o_i_it, o_i_is, o_i_il, o_i_bi, o_i_bb, o_i_tt, o_i_ti, o_i_tl, o_i_tn, o_i_ts, o_i_tb, o_i_si, o_i_ss, o_i_st, o_i_tp, o_isN1, o_isN2, o_isN3, o_isN4, o_nin1, o_nin2, o_nin3, o_nin4, o_len_p, o_it_p0, o_it_p1, v_at0, v_at1, v_ttp, v_tup0i, v_enum, v_enum1, v_wipeE0, v_aug, v_aug1, v_aug2, List.getElem?_cons_succ, List.getElem?_cons_zero, List.set_cons_succ, List.set_cons_zero, List.length_cons, List.length_nil, Nat.reduceAdd, Nat.reduceLT, List.length_map, decide_true, decide_false, List.map_cons, List.map_nil, List.cons_append, List.nil_append, List.reduceReplicate, Nat.reduceSub, Nat.reduceLeDiff, Nat.reduceBEq, List.contains_cons, List.contains_nil, Bool.or_false, Bool.false_or, Bool.or_true, Bool.true_or, Bool.not_true, Bool.not_false, List.length_set, Nat.zero_add, List.getElem?_nil, wipeE]
theorem o_tooLarge : fn_least_form [.d (GD 8 [])] = .exc (.plain "TooLarge") [some (.d (GD 8 []))] := by
  simp only [fn_least_form, code_least_form, v_var, v_var_d, v_var_o, v_c, v_bind, v_of, v_fin, v_vd, v_vo, v_vs, v_vs_d, v_vs_o, v_wl, v_wm, v_view1, v_view2, v_kv1, v_kv2, v_bin, v_bin1, v_bin2, v_ix, v_un, v_un1, v_test, v_test1, v_tru, v_tru1, v_tru2, v_obind, v_notT, v_notT1, v_andT, v_andT1, v_andT2, v_orT, v_orT1, v_orT2, v_not, v_not1, v_and, v_and1, v_and2, v_or, v_or1, v_or2, v_if, v_if1, v_if2, v_ch, v_ch1, v_ch2, v_ch3, v_ch4, v_ch5, v_D, v_frz_d, v_frz_o, v_frz_s, v_frz_s1, v_frz_s2, v_toD_l, v_nil, v_cons, v_cons1, v_cons2, v_tup, v_tup0, v_tup1, v_tup2, v_tup3, v_lst, v_lst0, v_lst1, v_lst2, v_set, v_set_d, v_set_o, v_set_s, v_set_s1, v_set_s2, v_setS, v_drop, v_drop1, v_ret, v_ret1, v_retN, v_pass, v_seq, v_seq1, v_seq2, v_ifS, v_ifS1, v_ifS2, v_for, v_for1, v_range, v_range1, v_r1, v_r2, v_mut, v_mut_s, v_mut_s1, v_getB, v_getB1, v_kind, v_kind1, v_isL, v_mut2, v_mutE_l, v_mutR, v_append, o_add, o_sub, o_mul, o_mod, o_fdiv, o_lt, o_le, o_gt, o_ge, o_int, o_len_l, o_len_s, o_len_t, o_abs, o_neg, o_it_l, o_it_s, o_it_t, o_item, v_lstN, v_tupN, v_tryAs, v_tryA1, v_tryA2, v_tryB1, v_tryB2, v_allA, v_wpX1, v_wpX2, v_noX1, v_try, v_try1, v_try2, v_isE, v_isE1, v_frzE, v_frzE1, o_ltX_pl, o_min2X_pl, v_fn, v_fn1, o_isN5, o_slice_t, o_ne_pt, o_ne_pl, v_call, v_call1, v_A, v_aNil, v_aVar, v_aVar1, v_aVar2, v_aD, v_aD1, v_items, v_items_l, v_items_dl, v_items_dt, v_items_ds, v_items_s, v_items_s1, v_items_s2, v_items_s3, v_lstRg, v_dic, v_forH, v_forH1, v_forH2, v_restF, v_put, v_put1, v_put2, v_put3, v_putE, v_putR, v_fs, v_fs1, v_fld, v_fz, v_fz1, v_fz2, v_fz3, v_toD_i, v_toD_m, v_toDd, v_toDo, v_toDwl, v_toDwr, v_yes, v_make, v_make1, v_meth, v_meth2, v_sl, v_sl1, v_sl2, v_sl3, v_none, v_some, v_some1, o_slice_l, o_list_l, o_list_t, o_tup_l, o_tup_t, o_min2, o_max2, o_eq_i, o_ne_i, o_bl_eq, o_bl_ne, o_tru, o_isB, o_notB, o_add_l, o_in_il, o_nin_il, o_in_it, o_in_pl, o_in_pt, o_nin_pt, o_eq_il, o_ne_il, o_eq_pt, o_eq_pl, o_ne_p, o_eq_p, o_sort_pl, o_sort_pm, o_sort_il, v_wipe0, v_wipe1, v_wp, v_wpB, v_wp1, v_wp2, v_wp3, v_wp4, v_wp5, v_nd0, v_nd1, v_nd2, v_ap, v_ap1, v_ap2, v_ap3, v_ap4, v_slots0, v_slots1, v_slots2, v_args0, v_args1, v_args2, v_args3, v_args4, v_upd0, v_upd1, v_upd2, v_mk, v_mk1, v_mk2, v_mk3, v_run, v_end1, v_end2, v_end3, v_end4, v_end6, v_end7, v_end5, v_outs0, v_outs1, v_outs2, v_outs3, v_outs4, v_raise, v_bindx, v_seq3, v_seq4, v_seq5, v_nx1, v_nx2, v_nx3, v_nx4, v_nx5, v_iter, v_iter1, v_tname, v_ts0, v_ts1, v_ts2, v_ttup, v_for0, o_i_ii, o_i_ib, o_i_in, o_i_it, o_i_is, o_i_il, o_i_bi, o_i_bb, o_i_tt, o_i_ti, o_i_tl, o_i_tn, o_i_ts, o_i_tb, o_i_si, o_i_ss, o_i_st, o_i_tp, o_isN1, o_isN2, o_isN3, o_isN4, o_nin1, o_nin2, o_nin3, o_nin4, o_len_p, o_it_p0, o_it_p1, v_at0, v_at1, v_ttp, v_tup0i, v_enum, v_enum1, v_wipeE0, v_aug, v_aug1, v_aug2, List.getElem?_cons_succ, List.getElem?_cons_zero, List.set_cons_succ, List.set_cons_zero, List.length_cons, List.length_nil, Nat.reduceAdd, Nat.reduceLT, List.length_map, decide_true, decide_false, List.map_cons, List.map_nil, List.cons_append, List.nil_append, List.reduceReplicate, Nat.reduceSub, Nat.reduceLeDiff, Nat.reduceBEq, List.contains_cons, List.contains_nil, Bool.or_false, Bool.false_or, Bool.or_true, Bool.true_or, Bool.not_true, Bool.not_false, List.length_set, Nat.zero_add, List.getElem?_nil, o_fsize]
  rfl
theorem ex_tl : exIs exT "TooLarge" "TooLarge" = some true := by decide +kernel
theorem int_bl {b : Bool} : intD (.bl b) = some (.d (.int (if b = true then 1 else 0))) := by cases b <;> rfl
theorem law_tells : J.Tells fn_law 63 := by
  intro ns h63
  obtain ⟨xs, _, e1⟩ := numbers_spec ns h63 40
  obtain ⟨most, hm, em⟩ : ∃ m : Nat, m ≤ 6 ∧ (5 : Int) + (if decide (tkV xs 0 % 12 = 11) = true then 1 else 0) = m := by
    cases decide (tkV xs 0 % 12 = 11)
    · exact ⟨5, by omega, rfl⟩
    · exact ⟨6, by omega, rfl⟩
  obtain ⟨n, p1, es, hn1, hs, e2⟩ := graph_spec xs (tkP xs 0) most (by omega)
  have hn : n ≤ 6 := by omega
  have hl : es.length ≤ 100 := by
    have h1 := hs.length_le
    have h2 : (prs n).length ≤ n * n := flat_len (n := n) n
    have h3 : n * n ≤ 6 * 6 := Nat.mul_le_mul hn hn
    omega
  have g := sub_good hs
  have mk := init_ok (X := PDs es) (.inr rfl) (show n ≤ 60 by omega) g (by simp only [lim]; omega)
  obtain ⟨m, lm, e3⟩ := o_lleast (X := PDs es) (.inr rfl) hn g (by omega)
  obtain ⟨m', lm', e4⟩ := o_least_form hn g (by omega)
  have := lm'.eq lm
  subst this
  have sm := least_srt lm
  have ss := sub_srt hs
  obtain ⟨p2, os, ho, e5⟩ := order_spec xs p1 n (by omega)
  have los : os.length = n := by rw [ho.length_eq, upto_len]
  have e6 := o_lpart (es := es) (vs := os) (by omega)
  have gp := part_good (es := es) ho
  have lp : (partP es os).length ≤ 100 := by
    have h1 := (partP_sub (es := es) (vs := os)).length_le
    rw [los] at h1
    have h2 : (prs n).length ≤ n * n := flat_len (n := n) n
    have h3 : n * n ≤ 6 * 6 := Nat.mul_le_mul hn hn
    omega
  have mk2 := init_ok (X := PDs (partP es os)) (.inr rfl) (show n ≤ 60 by omega) gp (by simp only [lim]; omega)
  obtain ⟨k, lk, e7⟩ := o_least_form hn gp (by omega)
  have := lk.eq (least_part g ho lm)
  subst this
  have e8 := o_pairs n (by omega)
  have mk3 := init_ok (n := 8) (es := []) (X := PDs []) (.inr rfl) (by omega) ⟨(fun p h => nomatch h), List.nodup_nil⟩ (by decide)
  have m12 := o_mod (a := tkV xs 0) (b := 12) (by omega)
  simp only [PDs, PLs, G0, DL, PL] at mk mk2 mk3 e3 e6 e8
  replace mk3 : fn_Graph_init [.o (.i "Graph" [] []), .d (.int 8), .d (.lst [])] = .ok (.d .non, [some (.o (GO 8 [])), OI 8, some (.d (.lst []))]) := mk3
  have t0 : fn__law_take [DL xs, PL 0] = .ok (.d (.int (tkV xs 0)), [some (DL xs), some (PL (tkP xs 0))]) := o_take xs 0
  have fin : ∀ ch : List (Int × Int), Good n ch → ch.length ≤ 200 → ∃ m2, fn_Graph_init [.o (.i "Graph" [] []), .d (.int n), .o (.b (.l (ch.map pD)))] = .ok (.d .non, [some (.o (GO n ch)), OI n, some (.o (.b (.l (ch.map pD))))]) ∧ fn_least_form [.d (GD n ch)] = .ok (.o (GO n m2), [some (.d (GD n ch))]) ∧ fn__law_least [.d (.int n), .o (.b (.l (ch.map pD)))] = .ok (.d (.lst (m2.map pD)), [OI n, some (.o (.b (.l (ch.map pD))))]) ∧ srtP m2 = m2 := by
    intro ch gc lc
    have mkc := init_ok (X := PLs ch) (.inl rfl) (show n ≤ 60 by omega) gc (by simp only [lim]; omega)
    obtain ⟨m2, l2, c1⟩ := o_lleast (X := PLs ch) (.inl rfl) hn gc (by omega)
    obtain ⟨m3, l3, c2⟩ := o_least_form hn gc (by omega)
    have := l3.eq l2
    subst this
    exact ⟨m3, mkc, c2, c1, least_srt l2⟩
  have sml : ∀ x : Int, decide (x = x) = true := fun x => decide_eq_true rfl
  have lc1 := fun {p : Int × Int} {a0 a1 a2 a3 a5 a6 a7 a8 a9 a11 : Option SV} => lc_one (p := p) (n := n) (es := es) (a0 := a0) (a1 := a1) (a2 := a2) (a3 := a3) (a5 := a5) (a6 := a6) (a7 := a7) (a8 := a8) (a9 := a9) (a11 := a11) (by omega)
  by_cases hz : 0 < (prs n).length
  · have hz' : (0 : Int) < ((prs n).length : Int) := by omega
    obtain ⟨j, hj⟩ : ∃ j : Nat, tkV xs p2 % ((prs n).length : Int) = j := ⟨(tkV xs p2 % ((prs n).length : Int)).toNat, by have := Int.emod_nonneg (tkV xs p2) (show ((prs n).length : Int) ≠ 0 by omega); omega⟩
    have hj1 : j < (prs n).length := by have := Int.emod_lt_of_pos (tkV xs p2) hz'; omega
    have m2 := o_mod (a := tkV xs p2) (b := ((prs n).length : Int)) hz'
    have at1 : L2.atI ((prs n).map pD) (j : Int) = some (pD (prs n)[j]) := atI_nat (by simp [hj1])
    have hpm : (prs n)[j] ∈ prs n := List.getElem_mem hj1
    generalize (prs n)[j] = p at at1 hpm
    by_cases hp : p ∈ es
    · have lt : (es.filter fun q => !decide (q = p)).length < es.length := by
        rw [List.length_filter_lt_length_iff_exists]
        exact ⟨p, hp, by simp⟩
      have nl : ¬ (((es.filter fun q => !decide (q = p)).length : Nat) : Int) = (es.length : Int) := by omega
      obtain ⟨m2', c1, c2, c3, c4⟩ := fin (es.filter fun q => !decide (q = p)) (sub_good (List.filter_sublist.trans hs)) (by omega)
      simp only [scrSV, fn_law, code_law, b1_law, v_var, v_var_d, v_var_o, v_c, v_bind, v_of, v_fin, v_vd, v_vo, v_vs, v_vs_d, v_vs_o, v_wl, v_wm, v_view1, v_view2, v_kv1, v_kv2, v_bin, v_bin1, v_bin2, v_ix, v_un, v_un1, v_test, v_test1, v_tru, v_tru1, v_tru2, v_obind, v_notT, v_notT1, v_andT, v_andT1, v_andT2, v_orT, v_orT1, v_orT2, v_not, v_not1, v_and, v_and1, v_and2, v_or, v_or1, v_or2, v_if, v_if1, v_if2, v_ch, v_ch1, v_ch2, v_ch3, v_ch4, v_ch5, v_D, v_frz_d, v_frz_o, v_frz_s, v_frz_s1, v_frz_s2, v_toD_l, v_nil, v_cons, v_cons1, v_cons2, v_tup, v_tup0, v_tup1, v_tup2, v_tup3, v_lst, v_lst0, v_lst1, v_lst2, v_set, v_set_d, v_set_o, v_set_s, v_set_s1, v_set_s2, v_setS, v_drop, v_drop1, v_ret, v_ret1, v_retN, v_pass, v_seq, v_seq1, v_seq2, v_ifS, v_ifS1, v_ifS2, v_for, v_for1, v_range, v_range1, v_r1, v_r2, v_mut, v_mut_s, v_mut_s1, v_getB, v_getB1, v_kind, v_kind1, v_isL, v_mut2, v_mutE_l, v_mutR, v_append, o_add, o_sub, o_mul, o_mod, o_fdiv, o_lt, o_le, o_gt, o_ge, o_int, o_len_l, o_len_s, o_len_t, o_abs, o_neg, o_it_l, o_it_s, o_it_t, o_item, v_lstN, v_tupN, v_tryAs, v_tryA1, v_tryA2, v_tryB1, v_tryB2, v_allA, v_wpX1, v_wpX2, v_noX1, v_try, v_try1, v_try2, v_isE, v_isE1, v_frzE, v_frzE1, o_ltX_pl, o_min2X_pl, v_fn, v_fn1, o_isN5, o_slice_t, o_ne_pt, o_ne_pl, v_call, v_call1, v_A, v_aNil, v_aVar, v_aVar1, v_aVar2, v_aD, v_aD1, v_items, v_items_l, v_items_dl, v_items_dt, v_items_ds, v_items_s, v_items_s1, v_items_s2, v_items_s3, v_lstRg, v_dic, v_forH, v_forH1, v_forH2, v_restF, v_put, v_put1, v_put2, v_put3, v_putE, v_putR, v_fs, v_fs1, v_fld, v_fz, v_fz1, v_fz2, v_fz3, v_toD_i, v_toD_m, v_toDd, v_toDo, v_toDwl, v_toDwr, v_yes, v_make, v_make1, v_meth, v_meth2, v_sl, v_sl1, v_sl2, v_sl3, v_none, v_some, v_some1, o_slice_l, o_list_l, o_list_t, o_tup_l, o_tup_t, o_min2, o_max2, o_eq_i, o_ne_i, o_bl_eq, o_bl_ne, o_tru, o_isB, o_notB, o_add_l, o_in_il, o_nin_il, o_in_it, o_in_pl, o_in_pt, o_nin_pt, o_eq_il, o_ne_il, o_eq_pt, o_eq_pl, o_ne_p, o_eq_p, o_sort_pl, o_sort_pm, o_sort_il, v_wipe0, v_wipe1, v_wp, v_wpB, v_wp1, v_wp2, v_wp3, v_wp4, v_wp5, v_nd0, v_nd1, v_nd2, v_ap, v_ap1, v_ap2, v_ap3, v_ap4, v_slots0, v_slots1, v_slots2, v_args0, v_args1, v_args2, v_args3, v_args4, v_upd0, v_upd1, v_upd2, v_mk, v_mk1, v_mk2, v_mk3, v_run, v_end1, v_end2, v_end3, v_end4, v_end6, v_end7, v_end5, v_outs0, v_outs1, v_outs2, v_outs3, v_outs4, v_raise, v_bindx, v_seq3, v_seq4, v_seq5, v_nx1, v_nx2, v_nx3, v_nx4, v_nx5, v_iter, v_iter1, v_tname, v_ts0, v_ts1, v_ts2, v_ttup, v_for0, o_i_ii, o_i_ib, o_i_in, o_i_it, o_i_is, o_i_il, o_i_bi, o_i_bb, o_i_tt, o_i_ti, o_i_tl, o_i_tn, o_i_ts, o_i_tb, o_i_si, o_i_ss, o_i_st, o_i_tp, o_isN1, o_isN2, o_isN3, o_isN4, o_nin1, o_nin2, o_nin3, o_nin4, o_len_p, o_it_p0, o_it_p1, v_at0, v_at1, v_ttp, v_tup0i, v_enum, v_enum1, v_wipeE0, v_aug, v_aug1, v_aug2, List.getElem?_cons_succ, List.getElem?_cons_zero, List.set_cons_succ, List.set_cons_zero, List.length_cons, List.length_nil, Nat.reduceAdd, Nat.reduceLT, List.length_map, decide_true, decide_false, List.map_cons, List.map_nil, List.cons_append, List.nil_append, List.reduceReplicate, Nat.reduceSub, Nat.reduceLeDiff, Nat.reduceBEq, List.contains_cons, List.contains_nil, Bool.or_false, Bool.false_or, Bool.or_true, Bool.true_or, Bool.not_true, Bool.not_false, List.length_set, Nat.zero_add, List.getElem?_nil, e1, t0, o_take, m12, int_bl, em, e2, mk, v_GO_toD, e3, e4, o_fsize, o_fedges, sm, ss, eq_self, e5, e6, mk2, e7, e8, hz', m2, hj, at1, lc1, nl, c1, c2, c3, c4, mk3, o_tooLarge, ex_tl]
      exact ⟨_, rfl⟩
    · have fe : (es.filter fun q => !decide (q = p)) = es := by
        rw [List.filter_eq_self]
        intro q hq
        simp only [Bool.not_eq_true', decide_eq_false_iff_not]
        rintro rfl
        exact hp hq
      have gc : Good n (es ++ [p]) := by
        refine ⟨fun q hq => ?_, ?_⟩
        · rcases List.mem_append.mp hq with hq | hq
          · exact g.mem q hq
          · rw [List.mem_singleton] at hq; subst hq; exact mem_prs.mp hpm
        · rw [List.nodup_append]
          refine ⟨g.nd, by simp, fun a ha b hb => ?_⟩
          rw [List.mem_singleton] at hb
          subst hb
          rintro rfl
          exact hp ha
      obtain ⟨m2', c1, c2, c3, c4⟩ := fin (es ++ [p]) gc (by rw [List.length_append, List.length_cons, List.length_nil]; omega)
      simp only [List.map_append, List.map_cons, List.map_nil] at c1 c3
      have hl' : (es.map pD).length < lim := by rw [List.length_map]; simp only [lim]; omega
      simp only [scrSV, fn_law, code_law, b1_law, v_var, v_var_d, v_var_o, v_c, v_bind, v_of, v_fin, v_vd, v_vo, v_vs, v_vs_d, v_vs_o, v_wl, v_wm, v_view1, v_view2, v_kv1, v_kv2, v_bin, v_bin1, v_bin2, v_ix, v_un, v_un1, v_test, v_test1, v_tru, v_tru1, v_tru2, v_obind, v_notT, v_notT1, v_andT, v_andT1, v_andT2, v_orT, v_orT1, v_orT2, v_not, v_not1, v_and, v_and1, v_and2, v_or, v_or1, v_or2, v_if, v_if1, v_if2, v_ch, v_ch1, v_ch2, v_ch3, v_ch4, v_ch5, v_D, v_frz_d, v_frz_o, v_frz_s, v_frz_s1, v_frz_s2, v_toD_l, v_nil, v_cons, v_cons1, v_cons2, v_tup, v_tup0, v_tup1, v_tup2, v_tup3, v_lst, v_lst0, v_lst1, v_lst2, v_set, v_set_d, v_set_o, v_set_s, v_set_s1, v_set_s2, v_setS, v_drop, v_drop1, v_ret, v_ret1, v_retN, v_pass, v_seq, v_seq1, v_seq2, v_ifS, v_ifS1, v_ifS2, v_for, v_for1, v_range, v_range1, v_r1, v_r2, v_mut, v_mut_s, v_mut_s1, v_getB, v_getB1, v_kind, v_kind1, v_isL, v_mut2, v_mutE_l, v_mutR, v_append, o_add, o_sub, o_mul, o_mod, o_fdiv, o_lt, o_le, o_gt, o_ge, o_int, o_len_l, o_len_s, o_len_t, o_abs, o_neg, o_it_l, o_it_s, o_it_t, o_item, v_lstN, v_tupN, v_tryAs, v_tryA1, v_tryA2, v_tryB1, v_tryB2, v_allA, v_wpX1, v_wpX2, v_noX1, v_try, v_try1, v_try2, v_isE, v_isE1, v_frzE, v_frzE1, o_ltX_pl, o_min2X_pl, v_fn, v_fn1, o_isN5, o_slice_t, o_ne_pt, o_ne_pl, v_call, v_call1, v_A, v_aNil, v_aVar, v_aVar1, v_aVar2, v_aD, v_aD1, v_items, v_items_l, v_items_dl, v_items_dt, v_items_ds, v_items_s, v_items_s1, v_items_s2, v_items_s3, v_lstRg, v_dic, v_forH, v_forH1, v_forH2, v_restF, v_put, v_put1, v_put2, v_put3, v_putE, v_putR, v_fs, v_fs1, v_fld, v_fz, v_fz1, v_fz2, v_fz3, v_toD_i, v_toD_m, v_toDd, v_toDo, v_toDwl, v_toDwr, v_yes, v_make, v_make1, v_meth, v_meth2, v_sl, v_sl1, v_sl2, v_sl3, v_none, v_some, v_some1, o_slice_l, o_list_l, o_list_t, o_tup_l, o_tup_t, o_min2, o_max2, o_eq_i, o_ne_i, o_bl_eq, o_bl_ne, o_tru, o_isB, o_notB, o_add_l, o_in_il, o_nin_il, o_in_it, o_in_pl, o_in_pt, o_nin_pt, o_eq_il, o_ne_il, o_eq_pt, o_eq_pl, o_ne_p, o_eq_p, o_sort_pl, o_sort_pm, o_sort_il, v_wipe0, v_wipe1, v_wp, v_wpB, v_wp1, v_wp2, v_wp3, v_wp4, v_wp5, v_nd0, v_nd1, v_nd2, v_ap, v_ap1, v_ap2, v_ap3, v_ap4, v_slots0, v_slots1, v_slots2, v_args0, v_args1, v_args2, v_args3, v_args4, v_upd0, v_upd1, v_upd2, v_mk, v_mk1, v_mk2, v_mk3, v_run, v_end1, v_end2, v_end3, v_end4, v_end6, v_end7, v_end5, v_outs0, v_outs1, v_outs2, v_outs3, v_outs4, v_raise, v_bindx, v_seq3, v_seq4, v_seq5, v_nx1, v_nx2, v_nx3, v_nx4, v_nx5, v_iter, v_iter1, v_tname, v_ts0, v_ts1, v_ts2, v_ttup, v_for0, o_i_ii, o_i_ib, o_i_in, o_i_it, o_i_is, o_i_il, o_i_bi, o_i_bb, o_i_tt, o_i_ti, o_i_tl, o_i_tn, o_i_ts, o_i_tb, o_i_si, o_i_ss, o_i_st, o_i_tp, o_isN1, o_isN2, o_isN3, o_isN4, o_nin1, o_nin2, o_nin3, o_nin4, o_len_p, o_it_p0, o_it_p1, v_at0, v_at1, v_ttp, v_tup0i, v_enum, v_enum1, v_wipeE0, v_aug, v_aug1, v_aug2, List.getElem?_cons_succ, List.getElem?_cons_zero, List.set_cons_succ, List.set_cons_zero, List.length_cons, List.length_nil, Nat.reduceAdd, Nat.reduceLT, List.length_map, decide_true, decide_false, List.map_cons, List.map_nil, List.cons_append, List.nil_append, List.reduceReplicate, Nat.reduceSub, Nat.reduceLeDiff, Nat.reduceBEq, List.contains_cons, List.contains_nil, Bool.or_false, Bool.false_or, Bool.or_true, Bool.true_or, Bool.not_true, Bool.not_false, List.length_set, Nat.zero_add, List.getElem?_nil, e1, t0, o_take, m12, int_bl, em, e2, mk, v_GO_toD, e3, e4, o_fsize, o_fedges, sm, ss, eq_self, e5, e6, mk2, e7, e8, hz', m2, hj, at1, lc1, fe, v_append hl', c1, c2, c3, c4, mk3, o_tooLarge, ex_tl]
      exact ⟨_, rfl⟩
  · have hz' : ¬ (0 : Int) < ((prs n).length : Int) := by omega
    simp only [scrSV, fn_law, code_law, b1_law, v_var, v_var_d, v_var_o, v_c, v_bind, v_of, v_fin, v_vd, v_vo, v_vs, v_vs_d, v_vs_o, v_wl, v_wm, v_view1, v_view2, v_kv1, v_kv2, v_bin, v_bin1, v_bin2, v_ix, v_un, v_un1, v_test, v_test1, v_tru, v_tru1, v_tru2, v_obind, v_notT, v_notT1, v_andT, v_andT1, v_andT2, v_orT, v_orT1, v_orT2, v_not, v_not1, v_and, v_and1, v_and2, v_or, v_or1, v_or2, v_if, v_if1, v_if2, v_ch, v_ch1, v_ch2, v_ch3, v_ch4, v_ch5, v_D, v_frz_d, v_frz_o, v_frz_s, v_frz_s1, v_frz_s2, v_toD_l, v_nil, v_cons, v_cons1, v_cons2, v_tup, v_tup0, v_tup1, v_tup2, v_tup3, v_lst, v_lst0, v_lst1, v_lst2, v_set, v_set_d, v_set_o, v_set_s, v_set_s1, v_set_s2, v_setS, v_drop, v_drop1, v_ret, v_ret1, v_retN, v_pass, v_seq, v_seq1, v_seq2, v_ifS, v_ifS1, v_ifS2, v_for, v_for1, v_range, v_range1, v_r1, v_r2, v_mut, v_mut_s, v_mut_s1, v_getB, v_getB1, v_kind, v_kind1, v_isL, v_mut2, v_mutE_l, v_mutR, v_append, o_add, o_sub, o_mul, o_mod, o_fdiv, o_lt, o_le, o_gt, o_ge, o_int, o_len_l, o_len_s, o_len_t, o_abs, o_neg, o_it_l, o_it_s, o_it_t, o_item, v_lstN, v_tupN, v_tryAs, v_tryA1, v_tryA2, v_tryB1, v_tryB2, v_allA, v_wpX1, v_wpX2, v_noX1, v_try, v_try1, v_try2, v_isE, v_isE1, v_frzE, v_frzE1, o_ltX_pl, o_min2X_pl, v_fn, v_fn1, o_isN5, o_slice_t, o_ne_pt, o_ne_pl, v_call, v_call1, v_A, v_aNil, v_aVar, v_aVar1, v_aVar2, v_aD, v_aD1, v_items, v_items_l, v_items_dl, v_items_dt, v_items_ds, v_items_s, v_items_s1, v_items_s2, v_items_s3, v_lstRg, v_dic, v_forH, v_forH1, v_forH2, v_restF, v_put, v_put1, v_put2, v_put3, v_putE, v_putR, v_fs, v_fs1, v_fld, v_fz, v_fz1, v_fz2, v_fz3, v_toD_i, v_toD_m, v_toDd, v_toDo, v_toDwl, v_toDwr, v_yes, v_make, v_make1, v_meth, v_meth2, v_sl, v_sl1, v_sl2, v_sl3, v_none, v_some, v_some1, o_slice_l, o_list_l, o_list_t, o_tup_l, o_tup_t, o_min2, o_max2, o_eq_i, o_ne_i, o_bl_eq, o_bl_ne, o_tru, o_isB, o_notB, o_add_l, o_in_il, o_nin_il, o_in_it, o_in_pl, o_in_pt, o_nin_pt, o_eq_il, o_ne_il, o_eq_pt, o_eq_pl, o_ne_p, o_eq_p, o_sort_pl, o_sort_pm, o_sort_il, v_wipe0, v_wipe1, v_wp, v_wpB, v_wp1, v_wp2, v_wp3, v_wp4, v_wp5, v_nd0, v_nd1, v_nd2, v_ap, v_ap1, v_ap2, v_ap3, v_ap4, v_slots0, v_slots1, v_slots2, v_args0, v_args1, v_args2, v_args3, v_args4, v_upd0, v_upd1, v_upd2, v_mk, v_mk1, v_mk2, v_mk3, v_run, v_end1, v_end2, v_end3, v_end4, v_end6, v_end7, v_end5, v_outs0, v_outs1, v_outs2, v_outs3, v_outs4, v_raise, v_bindx, v_seq3, v_seq4, v_seq5, v_nx1, v_nx2, v_nx3, v_nx4, v_nx5, v_iter, v_iter1, v_tname, v_ts0, v_ts1, v_ts2, v_ttup, v_for0, o_i_ii, o_i_ib, o_i_in, o_i_it, o_i_is, o_i_il, o_i_bi, o_i_bb, o_i_tt, o_i_ti, o_i_tl, o_i_tn, o_i_ts, o_i_tb, o_i_si, o_i_ss, o_i_st, o_i_tp, o_isN1, o_isN2, o_isN3, o_isN4, o_nin1, o_nin2, o_nin3, o_nin4, o_len_p, o_it_p0, o_it_p1, v_at0, v_at1, v_ttp, v_tup0i, v_enum, v_enum1, v_wipeE0, v_aug, v_aug1, v_aug2, List.getElem?_cons_succ, List.getElem?_cons_zero, List.set_cons_succ, List.set_cons_zero, List.length_cons, List.length_nil, Nat.reduceAdd, Nat.reduceLT, List.length_map, decide_true, decide_false, List.map_cons, List.map_nil, List.cons_append, List.nil_append, List.reduceReplicate, Nat.reduceSub, Nat.reduceLeDiff, Nat.reduceBEq, List.contains_cons, List.contains_nil, Bool.or_false, Bool.false_or, Bool.or_true, Bool.true_or, Bool.not_true, Bool.not_false, List.length_set, Nat.zero_add, List.getElem?_nil, e1, t0, o_take, m12, int_bl, em, e2, mk, v_GO_toD, e3, e4, o_fsize, o_fedges, sm, ss, eq_self, e5, e6, mk2, e7, e8, hz', mk3, o_tooLarge, ex_tl]
    exact ⟨_, rfl⟩
end K03
set_option maxHeartbeats 0
namespace K03
open PySem PySem.Spec PyProof.Rows L2 J
def ln0 : List PySem.Str := ["_wall", "WidthError", "BadGraph", "TooLarge", "MOST_VERTICES", "is_integer", "Graph", "_is_edge", "MOST", "_orders", "_least_edges", "least_form", "_law_numbers", "_law_take", "_law_pairs", "_law_graph", "_law_order", "_law_part", "_law_orders", "_law_least"]
abbrev loose : List PySem.Str := ln0
abbrev R : PySem.W.OpenRow := PySem.W.OpenLaw.row PySem.Challenge.rw_smallwidth_k03_least_forms
abbrev hk : PySem.W.Hook := J.hookX 6 faL fnL fxL
def ob (s : PySem.W.SharedT) : He.AlD := J.obsXG 6 faL fnL fxL (HandSHeadRun.getT s)
theorem ob_eq (s : PySem.W.SharedT) : ob s = hk.obs s.abs := J.obsXG_eq (HandSHeadRun.getT_eq s)
theorem run (w : World) : HandSHeadRun.RunEq R (PySem.W.view R.prog [24]) hk ob 3000 loose w := by
  intro os
  kernel_rfl
end K03
open PySem PySem.W PySem.Calls PyProof.Rows
theorem head_K03 (h : J.Tells K03.fn_law 63) : PySem.Challenge.rw_smallwidth_k03_least_forms.Holds := by
  w_on; o_law
  refine HandSHeadRun.head_any (r := OpenLaw.row PySem.Challenge.rw_smallwidth_k03_least_forms) (q := view (OpenLaw.row PySem.Challenge.rw_smallwidth_k03_least_forms).prog [24]) (H := K03.hk) (ob := K03.ob) (M := 3000) (loose := K03.loose) (d := HandSHeadRun.topDef (OpenLaw.row PySem.Challenge.rw_smallwidth_k03_least_forms).prog 24) (kwd := []) K03.ob_eq
    (by kernel_rfl) (fun s => by kernel_rfl) K03.run (by kernel_rfl) (by kernel_rfl) (by kernel_rfl) (by rfl) (by first | assumption | decide +kernel) (by decide +kernel) ⟨rfl, rfl, rfl, rfl, rfl, by decide +kernel⟩ ?hw ?hc
  case hw => w_witness2
  case hc =>
    refine L2.walk_ofE (l := PySem.Challenge.rw_smallwidth_k03_least_forms) (n := 63) (k := 6) (x := "_law_script") (CX := J.CXA (PySem.Challenge.rw_smallwidth_k03_least_forms).prog) rfl (by decide) (by kernel_rfl) ⟨rfl, by decide, by decide⟩ ?F (fun _ _ _ _ z => J.cxa_no z)
    intro w mg fa hh Y G hmg0
    obtain ⟨K, KX, c⟩ := Y
    have cx := c
    replace c := cx.1
    have hmg : mg ("law" : PySem.Str) = some (.ref fa) := by
      have e : (HandSHeadRun.topDef (OpenLaw.row PySem.Challenge.rw_smallwidth_k03_least_forms).prog 24).name = ("law" : PySem.Str) := by kernel_rfl
      rw [← e]
      exact hmg0
    have F := K03.fx_of KX G c cx
    cases hmg.symm.trans F.g_law
    obtain ⟨fd, F1⟩ := F.d_law
    have b : ∀ (kV doc pm : Value) (an : Option Addr) (cdv ct : Value) (us : List Value), us.length = (["_law_script"] : List PySem.Str).length → bindArgs (PySem.W.fnOf "law" "law" (L2.defArgs K03.st_law) (L2.defBody K03.st_law) (L2.defScope K03.st_law) .none kV doc pm an cdv ct) ⟨us, []⟩ = pure ((["_law_script"] : List PySem.Str).zip us) := fun _ _ _ _ _ _ us hl => match us, hl with | [_], _ => rfl
    refine ⟨K, fd, J.fnSp K mg K03.kfLaw 1 K03.fn_law, KX, fun s v => F1.bindsA (ps := ["_law_script"]) b s [v] rfl, fun H a ns hl _ hS => J.law_sp h H a ns hl hS, fun base _ _ => ?_⟩
    exact J.fnOk_a (K03.j_law F F1).ok
theorem PySem.Challenge.cw_smallwidth_k03_least_forms_holds : PySem.Challenge.rw_smallwidth_k03_least_forms.Holds := by
  exact head_K03 K03.law_tells
#print axioms PySem.Challenge.cw_smallwidth_k03_least_forms_holds
