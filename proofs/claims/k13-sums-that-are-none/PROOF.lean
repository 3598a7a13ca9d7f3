import PyProof.Rows.All
import HandS.ForMost
import HandS.Wide
import HandS.TupAny
import HandS.TupMul
import HandS.Conv
import HandS.IsInst
import HandS.Style
import KE.KEqDict
import KE.SortData
import KE.KDictSum
import HandS.WideBits
import HandS.TupLen
import PySem.Challenge.RW_neverhalves_k13_sums_that_are_none
set_option Elab.async false
set_option autoImplicit true
set_option linter.all false
set_option maxRecDepth 100000
set_option maxHeartbeats 4000000
/-! VL: the value level. D: values with tuples by content; Sto: what stands at mutable objects; readings over these. -/
namespace VL
open PySem PySem.Spec PyProof.Rows L2
/-- a value: tuples by their content, mutable things by their address -/
inductive D where
  | non | bl (b : Bool) | int (i : Int) | str (s : Str) | tup (xs : List D) | ref (a : Addr) | oth (v : V) | scr (ns : List Int)
/-- what stands at an address: a list, a list that is only read, a dict whose keys are tuples of ints, one with plain keys, anything else -/
inductive MO where
  | lst (xs : List D) | rol (xs : List D) | dI (kvs : List (List Int × D)) | dK (kvs : List (Key × D)) | raw (o : HO)
abbrev Sto := Addr → Option MO
def put (S : Sto) (a : Addr) (o : MO) : Sto := fun b => if b = a then some o else S b
theorem put_same {S : Sto} {a : Addr} {o : MO} : put S a o a = some o := by unfold put; rw [if_pos rfl]
theorem put_ne {S : Sto} {a b : Addr} {o : MO} (h : b ≠ a) : put S a o b = S b := by unfold put; rw [if_neg h]
theorem put_put {S : Sto} {a : Addr} {o u : MO} : put (put S a o) a u = put S a u := by
  funext b; unfold put; split <;> rfl
theorem sne {S : Sto} {a b : Addr} {o : MO} (h : S a = some o) (h' : S b = none) : a ≠ b := by
  intro e; subst e; rw [h] at h'; cases h'
/-- fewer facts -/
def Le (S T : Sto) : Prop := ∀ a o, S a = some o → T a = some o
theorem Le.refl (S : Sto) : Le S S := fun _ _ h => h
theorem Le.trans {S T U : Sto} (a : Le S T) (b : Le T U) : Le S U := fun x o h => b x o (a x o h)
theorem Le.new {S T : Sto} {p : Addr} {o : MO} (e : Le S T) (h : S p = none) : Le S (put T p o) := fun a u q => by
  rw [put_ne (sne q h)]; exact e a u q
theorem Le.put {S T : Sto} {p : Addr} {o : MO} (e : Le S T) : Le (put S p o) (put T p o) := fun a u q => by
  unfold VL.put at q ⊢
  split at q
  · rename_i h; rw [if_pos h]; exact q
  · rename_i h; rw [if_neg h]; exact e a u q
theorem Le.nope {S T : Sto} (e : Le S T) {p : Addr} (h : T p = none) : S p = none := by
  cases q : S p with
  | none => rfl
  | some o => rw [e p o q] at h; cases h
/-! ### what is told of what -/
/-- the script: a list of ints that never changes -/
def ScrAt (K : PySem.W.Frag) (H : Hp) (a : Addr) (xs : List V) : Prop :=
  (∃ o, H a = some (.frz o (.lst xs))) ∨
    ∃ (o : Obj) (its : Array Value) (n : Nat), K.lookup a = some o ∧ o.cls = .type "list" ∧ o.dict = none ∧ o.data = .seq its n ∧ its.size ≤ sizeLine ∧ Vals xs its.toList
theorem ScrAt.sq {K : PySem.W.Frag} {H : Hp} {a : Addr} {xs : List V} (h : ScrAt K H a xs) : SqL K H a xs := by
  rcases h with ⟨o, h⟩ | h
  · exact .inl (.inr ⟨o, h⟩)
  · exact .inr h
mutual
def Rp (K : PySem.W.Frag) (H : Hp) : D → V → Prop
  | .non, v => v = .non
  | .bl b, v => v = .bl b
  | .int i, v => v = .int i
  | .str s, v => v = .str s
  | .ref a, v => v = .ref a
  | .oth u, v => v = u
  | .scr ns, v => ∃ a, v = .ref a ∧ ScrAt K H a (ns.map V.int) ∧ ns.length ≤ sizeLine
  | .tup xs, v => ∃ a vs, v = .ref a ∧ H a = some (.tup vs) ∧ vs.length ≤ sizeLine ∧ Rps K H xs vs
def Rps (K : PySem.W.Frag) (H : Hp) : List D → List V → Prop
  | [], vs => vs = []
  | x :: xs, vs => ∃ v r, vs = v :: r ∧ Rp K H x v ∧ Rps K H xs r
end
/-- what never changes stays -/
def TL (H H' : Hp) : Prop := (∀ a xs, H a = some (.tup xs) → H' a = some (.tup xs)) ∧ ∀ a o u, H a = some (.frz o u) → H' a = some (.frz o u)
theorem TL.tup {H H1 : Hp} (t : TL H H1) {a : Addr} {xs : List V} (h : H a = some (.tup xs)) : H1 a = some (.tup xs) := t.1 a xs h
theorem TL.frz {H H1 : Hp} (t : TL H H1) {a : Addr} {o : Obj} {u : HO} (h : H a = some (.frz o u)) : H1 a = some (.frz o u) := t.2 a o u h
theorem TL.refl (H : Hp) : TL H H := ⟨fun _ _ h => h, fun _ _ _ h => h⟩
theorem TL.trans {H H1 H2 : Hp} (a : TL H H1) (b : TL H1 H2) : TL H H2 := ⟨fun x o h => b.1 x o (a.1 x o h), fun x o u h => b.2 x o u (a.2 x o u h)⟩
theorem TL.new {H : Hp} {p : Addr} {o : HO} (h : H p = none) : TL H (upd H p o) :=
  ⟨fun a xs e => by rw [upd_ne (ne_of_none e h)]; exact e, fun a u xs e => by rw [upd_ne (ne_of_none e h)]; exact e⟩
def IsMut : HO → Prop
  | .tup _ => False
  | .frz _ _ => False
  | _ => True
theorem TL.mut {H : Hp} {p : Addr} {o u : HO} (h : H p = some u) (m : IsMut u) : TL H (upd H p o) :=
  ⟨fun a xs e => by
    have : a ≠ p := by rintro rfl; rw [h] at e; cases e; exact m
    rw [upd_ne this]; exact e, fun a ob xs e => by
    have : a ≠ p := by rintro rfl; rw [h] at e; cases e; exact m
    rw [upd_ne this]; exact e⟩
section
variable {K : PySem.W.Frag} {H H' : Hp}
theorem TL.sqT (t : TL H H') {a : Addr} {xs : List V} (h : SqT K H a xs) : SqT K H' a xs := by
  rcases h with (h | ⟨o, h⟩) | h
  · exact .inl (.inl (t.1 _ _ h))
  · exact .inl (.inr ⟨o, t.2 _ _ _ h⟩)
  · exact .inr h
mutual
theorem Rp.mono (t : TL H H') : ∀ (d : D) (v : V), Rp K H d v → Rp K H' d v
  | .non, _, h => h
  | .bl _, _, h => h
  | .int _, _, h => h
  | .str _, _, h => h
  | .ref _, _, h => h
  | .oth _, _, h => h
  | .scr _, _, h => by
    simp only [Rp] at h ⊢
    obtain ⟨a, e, q, z⟩ := h
    rcases q with ⟨o, q⟩ | q
    · exact ⟨a, e, .inl ⟨o, TL.frz t q⟩, z⟩
    · exact ⟨a, e, .inr q, z⟩
  | .tup xs, _, h => by
    simp only [Rp] at h ⊢
    obtain ⟨a, vs, e, q, z, r⟩ := h
    exact ⟨a, vs, e, TL.tup t q, z, Rps.mono t xs vs r⟩
theorem Rps.mono (t : TL H H') : ∀ (ds : List D) (vs : List V), Rps K H ds vs → Rps K H' ds vs
  | [], _, h => h
  | x :: xs, _, h => by
    simp only [Rps] at h ⊢
    obtain ⟨v, r, e, q, s⟩ := h
    exact ⟨v, r, e, Rp.mono t x v q, Rps.mono t xs r s⟩
end
theorem Rps.length : ∀ {ds : List D} {vs : List V}, Rps K H ds vs → ds.length = vs.length
  | [], _, h => by simp only [Rps] at h; subst h; rfl
  | x :: xs, _, h => by
    simp only [Rps] at h
    obtain ⟨v, r, rfl, _, s⟩ := h
    rw [List.length_cons, List.length_cons, Rps.length s]
theorem Rps.get : ∀ {ds : List D} {vs : List V} {i : Nat} {d : D}, Rps K H ds vs → ds[i]? = some d → ∃ v, vs[i]? = some v ∧ Rp K H d v
  | [], _, _, _, _, e => by simp at e
  | x :: xs, _, 0, d, h, e => by
    simp only [Rps] at h
    obtain ⟨v, r, rfl, q, _⟩ := h
    simp at e; subst e
    exact ⟨v, rfl, q⟩
  | x :: xs, _, i + 1, d, h, e => by
    simp only [Rps] at h
    obtain ⟨v, r, rfl, _, s⟩ := h
    simp at e
    obtain ⟨u, h1, h2⟩ := Rps.get s e
    exact ⟨u, by simpa using h1, h2⟩
theorem Rps.get' : ∀ {ds : List D} {vs : List V} {i : Nat} {v : V}, Rps K H ds vs → vs[i]? = some v → ∃ d, ds[i]? = some d ∧ Rp K H d v := by
  intro ds vs i v h e
  have hl := h.length
  have hi : i < vs.length := (List.getElem?_eq_some_iff.mp e).1
  have hi' : i < ds.length := by omega
  obtain ⟨u, h1, h2⟩ := h.get (List.getElem?_eq_getElem hi')
  rw [e] at h1; cases h1
  exact ⟨_, List.getElem?_eq_getElem hi', h2⟩
theorem Rps.append : ∀ {ds es : List D} {vs ws : List V}, Rps K H ds vs → Rps K H es ws → Rps K H (ds ++ es) (vs ++ ws)
  | [], _, _, _, h, g => by simp only [Rps] at h; subst h; exact g
  | x :: xs, es, _, ws, h, g => by
    simp only [Rps] at h
    obtain ⟨v, r, rfl, q, s⟩ := h
    show Rps K H (x :: (xs ++ es)) (v :: (r ++ ws))
    simp only [Rps]
    exact ⟨v, _, rfl, q, Rps.append s g⟩
theorem Rps.one {d : D} {v : V} (h : Rp K H d v) : Rps K H [d] [v] := by
  simp only [Rps]
  exact ⟨v, [], rfl, h, rfl⟩
theorem Rps.cons {d : D} {v : V} {ds : List D} {vs : List V} (h : Rp K H d v) (t : Rps K H ds vs) : Rps K H (d :: ds) (v :: vs) := by
  simp only [Rps]
  exact ⟨v, vs, rfl, h, t⟩
theorem Rps.nil : Rps K H [] [] := by simp only [Rps]
theorem Rps.take : ∀ {ds : List D} {vs : List V} (n : Nat), Rps K H ds vs → Rps K H (ds.take n) (vs.take n)
  | _, _, 0, _ => by simp only [List.take_zero, Rps]
  | [], _, n + 1, h => by simp only [Rps] at h; subst h; simp only [List.take_nil, Rps]
  | x :: xs, _, n + 1, h => by
    simp only [Rps] at h
    obtain ⟨v, r, rfl, q, s⟩ := h
    exact Rps.cons q (Rps.take n s)
theorem Rps.drop : ∀ {ds : List D} {vs : List V} (n : Nat), Rps K H ds vs → Rps K H (ds.drop n) (vs.drop n)
  | _, _, 0, h => h
  | [], _, n + 1, h => by simp only [Rps] at h; subst h; simp only [List.drop_nil, Rps]
  | x :: xs, _, n + 1, h => by
    simp only [Rps] at h
    obtain ⟨v, r, rfl, q, s⟩ := h
    exact Rps.drop n s
theorem Rps.set {d : D} {v : V} (q : Rp K H d v) : ∀ {ds : List D} {vs : List V} (i : Nat), Rps K H ds vs → Rps K H (ds.set i d) (vs.set i v)
  | [], _, _, h => by simp only [Rps] at h; subst h; simp only [List.set_nil, Rps]
  | x :: xs, _, 0, h => by
    simp only [Rps] at h
    obtain ⟨u, r, rfl, _, s⟩ := h
    exact Rps.cons q s
  | x :: xs, _, i + 1, h => by
    simp only [Rps] at h
    obtain ⟨u, r, rfl, p, s⟩ := h
    exact Rps.cons p (Rps.set q i s)
theorem Rps.reverse : ∀ {ds : List D} {vs : List V}, Rps K H ds vs → Rps K H ds.reverse vs.reverse
  | [], _, h => by simp only [Rps] at h; subst h; exact Rps.nil
  | x :: xs, _, h => by
    simp only [Rps] at h
    obtain ⟨v, r, rfl, q, s⟩ := h
    rw [List.reverse_cons, List.reverse_cons]
    exact (Rps.reverse s).append (Rps.one q)
theorem Rps.ints : ∀ {ns : List Int} {vs : List V}, Rps K H (ns.map D.int) vs → vs = ns.map V.int
  | [], _, h => by simp only [List.map_nil, Rps] at h; exact h
  | x :: xs, _, h => by
    simp only [List.map_cons, Rps] at h
    obtain ⟨v, r, rfl, q, s⟩ := h
    simp only [Rp] at q
    rw [q, Rps.ints s]; rfl
theorem Rps.of_ints : ∀ (ns : List Int), Rps K H (ns.map D.int) (ns.map V.int)
  | [] => Rps.nil
  | x :: xs => Rps.cons (by simp only [Rp]) (Rps.of_ints xs)
end
/-! ### the store -/
section
variable (K : PySem.W.Frag) (H : Hp)
/-- pairs of keys and values: q.1 tells p's key -/
def Kv {κ μ : Type} (f : κ → μ) : List (κ × D) → List (μ × V) → Prop := Paired fun (p : κ × D) (q : μ × V) => q.1 = f p.1 ∧ Rp K H p.2 q.2
def MR : MO → HO → Prop
  | .lst xs, u => ∃ vs, u = .lst vs ∧ vs.length ≤ sizeLine ∧ Rps K H xs vs
  | .rol xs, u => ∃ o vs, u = .frz o (.lst vs) ∧ vs.length ≤ sizeLine ∧ Rps K H xs vs
  | .dI kvs, u => ∃ ws, u = .dT ws ∧ ws.length ≤ sizeLine ∧ Kv K H (fun k : List Int => k.map (Sum.inl : Int → Key)) kvs ws
  | .dK kvs, u => ∃ ws, u = .dK ws ∧ ws.length ≤ sizeLine ∧ Kv K H (fun k : Key => k) kvs ws
  | .raw o, u => u = o ∧ IsMut o
def SO (S : Sto) : Prop := ∀ a o, S a = some o → ∃ u, H a = some u ∧ MR K H o u
/-- slots -/
abbrev VS := List (Option D)
def SR (τ : VS) (σ : L2.St) : Prop := τ.length = σ.length ∧ ∀ (i : Nat) d, τ[i]? = some (some d) → ∃ v, σ[i]? = some (some v) ∧ Rp K H d v
end
section
variable {K : PySem.W.Frag} {H H' : Hp}
theorem Kv.mono {κ μ : Type} {f : κ → μ} (t : TL H H') {a : List (κ × D)} {b : List (μ × V)} (h : Kv K H f a b) : Kv K H' f a b :=
  Paired.mapP h fun p q z => ⟨z.1, Rp.mono t _ _ z.2⟩
theorem MR.mono (t : TL H H') {o : MO} {u : HO} (h : MR K H o u) : MR K H' o u := by
  cases o with
  | lst xs => obtain ⟨vs, e, z, q⟩ := h; exact ⟨vs, e, z, Rps.mono t _ _ q⟩
  | rol xs => obtain ⟨ob, vs, e, z, q⟩ := h; exact ⟨ob, vs, e, z, Rps.mono t _ _ q⟩
  | dI kvs => obtain ⟨ws, e, z, q⟩ := h; exact ⟨ws, e, z, q.mono t⟩
  | dK kvs => obtain ⟨ws, e, z, q⟩ := h; exact ⟨ws, e, z, q.mono t⟩
  | raw ob => exact h
theorem SO.le {S T : Sto} (h : SO K H T) (l : Le S T) : SO K H S := fun a o e => h a o (l a o e)
theorem SO.nope {S : Sto} (h : SO K H S) {a : Addr} (e : H a = none) : S a = none := by
  cases q : S a with
  | none => rfl
  | some o => obtain ⟨u, z, _⟩ := h a o q; rw [e] at z; cases z
/-- a new object; o is told of it or not -/
theorem SO.new {S : Sto} (h : SO K H S) {p : Addr} {u : HO} {o : MO} (e : H p = none) (m : MR K (upd H p u) o u) : SO K (upd H p u) (put S p o) := fun a o' q => by
  by_cases ha : a = p
  · subst ha; rw [put_same] at q; cases q; exact ⟨u, upd_same, m⟩
  · rw [put_ne ha] at q
    obtain ⟨w, z, r⟩ := h a o' q
    exact ⟨w, by rw [upd_ne ha]; exact z, r.mono (TL.new e)⟩
theorem SO.new' {S : Sto} (h : SO K H S) {p : Addr} {u : HO} (e : H p = none) : SO K (upd H p u) S := fun a o' q => by
  have ha : a ≠ p := by rintro rfl; rw [h.nope e] at q; cases q
  obtain ⟨w, z, r⟩ := h a o' q
  exact ⟨w, by rw [upd_ne ha]; exact z, r.mono (TL.new e)⟩
/-- an object written -/
theorem SO.set {S : Sto} (h : SO K H S) {p : Addr} {u w : HO} {o : MO} (e : H p = some w) (hm : IsMut w) (m : MR K (upd H p u) o u) : SO K (upd H p u) (put S p o) := fun a o' q => by
  by_cases ha : a = p
  · subst ha; rw [put_same] at q; cases q; exact ⟨u, upd_same, m⟩
  · rw [put_ne ha] at q
    obtain ⟨w', z, r⟩ := h a o' q
    exact ⟨w', by rw [upd_ne ha]; exact z, r.mono (TL.mut e hm)⟩
theorem SR.mono (t : TL H H') {τ : VS} {σ : L2.St} (h : SR K H τ σ) : SR K H' τ σ :=
  ⟨h.1, fun i d e => by obtain ⟨v, a, b⟩ := h.2 i d e; exact ⟨v, a, Rp.mono t _ _ b⟩⟩
theorem SR.set {τ : VS} {σ : L2.St} (h : SR K H τ σ) {d : D} {v : V} (r : Rp K H d v) (i : Nat) : SR K H (τ.set i (some d)) (σ.set i (some v)) := by
  refine ⟨by simpa using h.1, fun j e q => ?_⟩
  by_cases hj : i = j
  · subst hj
    rw [List.getElem?_set] at q
    rw [if_pos rfl] at q
    split at q
    · rename_i hl
      injection q with q
      injection q with q
      subst q
      refine ⟨v, ?_, r⟩
      rw [List.getElem?_set_self]
      rw [← h.1]; exact hl
    · cases q
  · rw [List.getElem?_set_ne hj] at q
    obtain ⟨v', a, b⟩ := h.2 j e q
    exact ⟨v', by rw [List.getElem?_set_ne hj]; exact a, b⟩
/-- fewer slots told -/
theorem SR.less {τ τ' : VS} {σ : L2.St} (h : SR K H τ σ) (hl : τ'.length = τ.length) (w : ∀ (i : Nat) d, τ'[i]? = some (some d) → τ[i]? = some (some d)) : SR K H τ' σ :=
  ⟨hl.trans h.1, fun i d e => h.2 i d (w i d e)⟩
/-- fewer slots told, slot by slot -/
def VLe : VS → VS → Prop
  | [], [] => True
  | none :: r, _ :: s => VLe r s
  | some a :: r, x :: s => x = some a ∧ VLe r s
  | _, _ => False
theorem VLe.refl : ∀ τ : VS, VLe τ τ
  | [] => trivial
  | none :: r => VLe.refl r
  | some _ :: r => ⟨rfl, VLe.refl r⟩
theorem VLe.len : ∀ {a b : VS}, VLe a b → a.length = b.length
  | [], [], _ => rfl
  | none :: r, _ :: s, h => by rw [List.length_cons, List.length_cons, VLe.len (a := r) (b := s) h]
  | some _ :: r, _ :: s, h => by rw [List.length_cons, List.length_cons, VLe.len (a := r) (b := s) h.2]
  | [], _ :: _, h => h.elim
  | none :: _, [], h => h.elim
  | some _ :: _, [], h => h.elim
theorem VLe.at : ∀ {a b : VS} {i : Nat} {d : D}, VLe a b → a[i]? = some (some d) → b[i]? = some (some d)
  | [], [], _, _, _, e => by simp at e
  | none :: r, _ :: s, 0, _, _, e => by simp at e
  | none :: r, _ :: s, i + 1, d, h, e => by simpa using VLe.at (a := r) (b := s) (i := i) h (by simpa using e)
  | some _ :: r, _ :: s, 0, _, h, e => by simp at e; subst e; rw [h.1]; rfl
  | some _ :: r, _ :: s, i + 1, d, h, e => by simpa using VLe.at (a := r) (b := s) (i := i) h.2 (by simpa using e)
  | [], _ :: _, _, _, h, _ => h.elim
  | none :: _, [], _, _, h, _ => h.elim
  | some _ :: _, [], _, _, h, _ => h.elim
theorem SR.vle {τ τ' : VS} {σ : L2.St} (h : SR K H τ σ) (l : VLe τ' τ) : SR K H τ' σ := h.less l.len fun _ _ e => l.at e
/-- the whole state -/
structure St2 (K : PySem.W.Frag) (H : Hp) (τ : VS) (S : Sto) (σ : L2.St) : Prop where
  sl : SR K H τ σ
  so : SO K H S
end
end VL
/-! VL2: readings at the value level: expressions, tests, arguments, operators. -/
namespace VL
open PySem PySem.Spec PyProof.Rows L2
/-- from (S, H) to (S', H'): what never changes stays, and so does all that S does not tell of -/
structure Go (S : Sto) (H : Hp) (S' : Sto) (H' : Hp) : Prop where
  tl : TL H H'
  fr : ∀ a o, H a = some o → S a = none → S' a = none ∧ H' a = some o
section
variable {K : PySem.W.Frag} {S S1 S2 T : Sto} {H H1 H2 : Hp}
theorem Go.refl (S : Sto) (H : Hp) : Go S H S H := ⟨TL.refl H, fun _ _ h n => ⟨n, h⟩⟩
theorem Go.trans (a : Go S H S1 H1) (b : Go S1 H1 S2 H2) : Go S H S2 H2 :=
  ⟨a.tl.trans b.tl, fun x o h n => let ⟨n1, h1⟩ := a.fr x o h n; b.fr x o h1 n1⟩
/-- fewer facts behind -/
theorem Go.le (a : Go S H S1 H1) (l : Le T S1) : Go S H T H1 := ⟨a.tl, fun x o h n => let ⟨n1, h1⟩ := a.fr x o h n; ⟨l.nope n1, h1⟩⟩
/-- fewer facts ahead -/
theorem Go.le0 (a : Go T H S1 H1) (l : Le T S) : Go S H S1 H1 := ⟨a.tl, fun x o h n => a.fr x o h (l.nope n)⟩
theorem Go.new {p : Addr} {o : MO} {u : HO} (e : H p = none) : Go S H (put S p o) (upd H p u) :=
  ⟨TL.new e, fun x ob h n => by have hx := ne_of_none h e; rw [put_ne hx, upd_ne hx]; exact ⟨n, h⟩⟩
theorem Go.new' {p : Addr} {u : HO} (e : H p = none) : Go S H S (upd H p u) :=
  ⟨TL.new e, fun x ob h n => by have hx := ne_of_none h e; rw [upd_ne hx]; exact ⟨n, h⟩⟩
theorem Go.mut {p : Addr} {o w : MO} {u hu : HO} (hs : S p = some w) (e : H p = some hu) (m : IsMut hu) : Go S H (put S p o) (upd H p u) :=
  ⟨TL.mut e m, fun x ob h n => by
    have hx : x ≠ p := by rintro rfl; rw [n] at hs; cases hs
    rw [put_ne hx, upd_ne hx]; exact ⟨n, h⟩⟩
end
/-- where a def (or a try's body) began -/
structure Ent where
  S : Sto
  H : Hp
/-- the store as told of the heap, reached from the entry -/
structure SQ (K : PySem.W.Frag) (en : Ent) (H : Hp) (S : Sto) : Prop where
  so : SO K H S
  en : Go en.S en.H S H
section
variable {K : PySem.W.Frag} {en : Ent} {H H' : Hp} {S S' T : Sto}
theorem SQ.go (q : SQ K en H S) (g : Go S H S' H') (o : SO K H' S') : SQ K en H' S' := ⟨o, q.en.trans g⟩
theorem SQ.le (q : SQ K en H S) (l : Le T S) : SQ K en H T := ⟨q.so.le l, q.en.le l⟩
theorem SQ.nope (q : SQ K en H S) {a : Addr} (e : H a = none) : S a = none := q.so.nope e
end
abbrev KE := D → Sto → Prop
abbrev RE := VS → Sto → KE → Prop
abbrev RT := VS → Sto → (Bool → Sto → Prop) → Prop
abbrev RA := VS → Sto → (List D → Sto → Prop) → Prop
/-- an exception: its class, its value, the store -/
abbrev XC := Value → D → Sto → Prop
/-- slots -/
def sl : VS → Nat → Option D
  | [], _ => none
  | x :: _, 0 => x
  | _ :: r, i + 1 => sl r i
theorem sl_get : ∀ {τ : VS} {i : Nat} {d : D}, sl τ i = some d → τ[i]? = some (some d)
  | [], _, _, h => by simp [sl] at h
  | x :: _, 0, _, h => by simp only [sl] at h; subst h; rfl
  | _ :: r, i + 1, d, h => by simp only [sl] at h; simpa using sl_get h
/-- what follows at the heap's level, from what follows at the value level -/
def lowE (K : PySem.W.Frag) (en : Ent) (t : RE) : TE := fun σ H Q => ∃ τ S Q0, SR K H τ σ ∧ SQ K en H S ∧ t τ S Q0 ∧ ∀ d S' v H', Q0 d S' → Go S H S' H' → Rp K H' d v → SQ K en H' S' → Q v H'
def lowT (K : PySem.W.Frag) (en : Ent) (t : RT) : TT := fun σ H Q => ∃ τ S Q0, SR K H τ σ ∧ SQ K en H S ∧ t τ S Q0 ∧ ∀ b S' H', Q0 b S' → Go S H S' H' → SQ K en H' S' → Q b H'
def tAs (ts : List TE) : TA := match ts with
  | [] => tNil
  | t :: r => tCons t (tAs r)
def VE (X : Cx) (en : Ent) (e : Expr) (t : RE) : Prop := PE X e (lowE X.K en t)
def VT (X : Cx) (en : Ent) (e : Expr) (t : RT) : Prop := PT X e (lowT X.K en t)
def VW (X : Cx) (en : Ent) (e : Expr) (t : RT) : Prop := PW X e (lowT X.K en t)
def VA (X : Cx) (en : Ent) (es : List Expr) (ts : List RE) : Prop := PA X es (tAs (ts.map (lowE X.K en))) ∧ ts.length = es.length
section
variable {X : Cx} {en : Ent}
theorem PE.imp {e : Expr} {t1 t2 : TE} (p : PE X e t1) (h : ∀ σ H Q, t2 σ H Q → t1 σ H Q) : PE X e t2 := ⟨fun pins s σ H Q I q => p.run pins s σ H Q I (h σ H Q q)⟩
theorem PT.imp {e : Expr} {t1 t2 : TT} (p : PT X e t1) (h : ∀ σ H Q, t2 σ H Q → t1 σ H Q) : PT X e t2 := ⟨fun pins s σ H Q I q => p.run pins s σ H Q I (h σ H Q q)⟩
theorem PW.imp {e : Expr} {t1 t2 : TT} (p : PW X e t1) (h : ∀ σ H Q, t2 σ H Q → t1 σ H Q) : PW X e t2 := ⟨fun wh pins s σ H Q I q => p.run wh pins s σ H Q I (h σ H Q q)⟩
theorem PS.imp {st : Stmt} {t1 t2 : TS} (p : PS X st t1) (h : ∀ D σ H, t2 D σ H → t1 D σ H) : PS X st t2 := ⟨fun pins s σ H D I q => p.run pins s σ H D I (h D σ H q)⟩
theorem PSs.imp {st : List Stmt} {t1 t2 : TS} (p : PSs X st t1) (h : ∀ D σ H, t2 D σ H → t1 D σ H) : PSs X st t2 := ⟨fun pins s σ H D I q => p.run pins s σ H D I (h D σ H q)⟩
/-! ### names, constants -/
def eVar (i : Nat) : RE := fun τ S Q => match sl τ i with
  | some d => Q d S
  | none => False
def eC (d : D) : RE := fun _ S Q => Q d S
theorem low_var {i : Nat} {σ : L2.St} {H : Hp} {Q : VK} (h : lowE X.K en (eVar i) σ H Q) : tVar i σ H Q := by
  obtain ⟨τ, S, Q0, hs, ho, h, k⟩ := h
  unfold eVar at h
  cases e : sl τ i with
  | none => rw [e] at h; exact h.elim
  | some d =>
    rw [e] at h
    obtain ⟨v, a, b⟩ := hs.2 i d (sl_get e)
    exact ⟨v, a, k d S v H h (Go.refl S H) b ho⟩
theorem ve_var (i : Nat) {x : Str} {pos : Pos} (hN : X.N[i]? = some x := by rfl) (hv : Vis X.env.scope x := by first | exact Or.inl rfl | exact Or.inr (Or.inl rfl) | exact Or.inr (Or.inr rfl)) (hd : (x == ("__debug__" : Str)) = false := by decide)
    (hcd : (x == ("__classdict__" : Str)) = false := by decide) : VE X en (.Name x pos) (eVar i) := PE.imp (pe_var hN hv hd hcd) fun _ _ _ h => low_var h
theorem low_c {d : D} {v : V} (r : ∀ K H, Rp K H d v) {σ : L2.St} {H : Hp} {Q : VK} (h : lowE X.K en (eC d) σ H Q) : tC v σ H Q := by
  obtain ⟨τ, S, Q0, hs, ho, h, k⟩ := h
  exact k d S v H h (Go.refl S H) (r _ _) ho
theorem ve_int {i j pos} : VE X en (.Constant (.int i) j pos) (eC (.int i)) := PE.imp pe_int fun _ _ _ h => low_c (fun _ _ => by simp only [Rp]) h
theorem ve_bl {b j pos} : VE X en (.Constant (.bool b) j pos) (eC (.bl b)) := PE.imp pe_bl fun _ _ _ h => low_c (fun _ _ => by simp only [Rp]) h
theorem ve_non {j pos} : VE X en (.Constant .none j pos) (eC .non) := PE.imp pe_non fun _ _ _ h => low_c (fun _ _ => by simp only [Rp]) h
theorem ve_str {x j pos} : VE X en (.Constant (.str x) j pos) (eC (.str x)) := PE.imp pe_str fun _ _ _ h => low_c (fun _ _ => by simp only [Rp]) h
theorem ve_globR {x : Str} {a : Addr} {pos : Pos} (hg : Gl X x) (hm : X.mg x = some (.ref a)) (hd : (x == ("__debug__" : Str)) = false := by decide) : VE X en (.Name x pos) (eC (.ref a)) :=
  PE.imp (pe_glob hg hm (v := .ref a) rfl hd) fun _ _ _ h => low_c (fun _ _ => by simp only [Rp]) h
theorem ve_bltn {x : Str} {v : V} {u : Value} {pos : Pos} (hg : Gl X x) (hm : X.mg x = none) (hv : bootBuiltins x = some u) (r : RelV v u) (hn : x ≠ "__name__" := by decide) (hd : (x == ("__debug__" : Str)) = false := by decide) : VE X en (.Name x pos) (eC (.oth v)) :=
  PE.imp (pe_bltn hg hm hv r hn hd) fun _ _ _ h => low_c (fun _ _ => by simp only [Rp]) h
/-! ### operators by values -/
/-- r, told at the value level by f -/
def OpV (K : PySem.W.Frag) (f : D → D → Sto → KE → Prop) (r : R2) : Prop := ∀ (H : Hp) (S : Sto) (x y : D) (u v : V) (Q : KE) (R : VK), SO K H S → Rp K H x u → Rp K H y v → f x y S Q →
  (∀ d S' z H', Q d S' → Go S H S' H' → Rp K H' d z → SO K H' S' → R z H') → r u v H R
def UnV (K : PySem.W.Frag) (f : D → Sto → KE → Prop) (r : V → Hp → VK → Prop) : Prop := ∀ (H : Hp) (S : Sto) (x : D) (u : V) (Q : KE) (R : VK), SO K H S → Rp K H x u → f x S Q →
  (∀ d S' z H', Q d S' → Go S H S' H' → Rp K H' d z → SO K H' S' → R z H') → r u H R
def eBin (f : D → D → Sto → KE → Prop) (a b : RE) : RE := fun τ S Q => a τ S fun x S1 => b τ S1 fun y S2 => f x y S2 Q
def eUn (f : D → Sto → KE → Prop) (a : RE) : RE := fun τ S Q => a τ S fun x S1 => f x S1 Q
theorem low_bin {f : D → D → Sto → KE → Prop} {r : R2} (hf : OpV X.K f r) {a b : RE} {σ : L2.St} {H : Hp} {Q : VK} (h : lowE X.K en (eBin f a b) σ H Q) : tOp r (lowE X.K en a) (lowE X.K en b) σ H Q := by
  obtain ⟨τ, S, Q0, hs, ho, h, k⟩ := h
  refine ⟨τ, S, _, hs, ho, h, fun x S1 u H1 h1 g1 r1 o1 => ?_⟩
  refine ⟨τ, S1, _, hs.mono g1.tl, o1, h1, fun y S2 v H2 h2 g2 r2 o2 => ?_⟩
  exact hf H2 S2 x y u v Q0 Q o2.so (Rp.mono g2.tl _ _ r1) r2 h2 fun d S' z H' q g r o => k d S' z H' q ((g1.trans g2).trans g) r (o2.go g o)
theorem ve_op {op : Operator} {f : D → D → Sto → KE → Prop} {r : R2} {a b : Expr} {ta tb : RE} {pos : Pos} (ho : OpR X (binaryOp op) r) (hf : OpV X.K f r) (ha : VE X en a ta) (hb : VE X en b tb) : VE X en (.BinOp a op b pos) (eBin f ta tb) :=
  PE.imp (pe_op ho ha hb) fun _ _ _ h => low_bin hf h
theorem ve_cmp {op : CmpOp} {f : D → D → Sto → KE → Prop} {r : R2} {a b : Expr} {ta tb : RE} {pos : Pos} (ho : OpR X (compareOp op) r) (hf : OpV X.K f r) (ha : VE X en a ta) (hb : VE X en b tb) (hm : behindInMarks op b = false := by first | exact nomark _ | rfl) : VE X en (.Compare a [op] [b] pos) (eBin f ta tb) :=
  PE.imp (pe_cmpR ho ha hb hm) fun _ _ _ h => low_bin hf h
theorem ve_un {op : UnaryOp} {f : D → Sto → KE → Prop} {r : V → Hp → VK → Prop} {a : Expr} {ta : RE} {pos : Pos} (ho : UnR X (unaryOp op) r) (hf : UnV X.K f r) (ha : VE X en a ta) : VE X en (.UnaryOp op a pos) (eUn f ta) :=
  PE.imp (pe_un ho ha) fun σ H Q h => by
    obtain ⟨τ, S, Q0, hs, ho, h, k⟩ := h
    refine ⟨τ, S, _, hs, ho, h, fun x S1 u H1 h1 g1 r1 o1 => ?_⟩
    exact hf H1 S1 x u Q0 Q o1.so r1 h1 fun d S' z H' q g r o => k d S' z H' q (g1.trans g) r (o1.go g o)
/-! ### arguments, displays -/
def eArgs : List RE → RA
  | [], _, S, Q => Q [] S
  | t :: r, τ, S, Q => t τ S fun x S1 => eArgs r τ S1 fun xs S2 => Q (x :: xs) S2
theorem args_ok {K : PySem.W.Frag} {en : Ent} {τ : VS} {σ : L2.St} : ∀ {ts : List RE} {S : Sto} {H : Hp} {Q : List D → Sto → Prop} {R : List V → Hp → Prop}, SR K H τ σ → SQ K en H S → eArgs ts τ S Q →
    (∀ ds S' vs H', Q ds S' → Go S H S' H' → Rps K H' ds vs → vs.length = ts.length → SQ K en H' S' → R vs H') → tAs (ts.map (lowE K en)) σ H R
  | [], S, H, Q, R, hs, ho, h, k => k [] S [] H h (Go.refl S H) Rps.nil rfl ho
  | t :: r, S, H, Q, R, hs, ho, h, k => by
    refine ⟨τ, S, _, hs, ho, h, fun x S1 u H1 h1 g1 r1 o1 => ?_⟩
    refine args_ok (hs.mono g1.tl) o1 h1 fun ds S' vs H' q g r hl o => ?_
    exact k (x :: ds) S' (u :: vs) H' q (g1.trans g) (Rps.cons (Rp.mono g.tl _ _ r1) r) (by rw [List.length_cons, hl, List.length_cons]) o
theorem va_nil : VA X en [] [] := ⟨pa_nil, rfl⟩
theorem va_cons {e : Expr} {es : List Expr} {t : RE} {ts : List RE} (he : VE X en e t) (hr : VA X en es ts) (hs : starEach (e :: es) X.env = (false, eval e X.env) :: starEach es X.env := by rfl) : VA X en (e :: es) (t :: ts) :=
  ⟨pa_cons he hr.1 hs, by rw [List.length_cons, hr.2, List.length_cons]⟩
def eTup (ts : List RE) : RE := fun τ S Q => eArgs ts τ S fun xs S1 => Q (.tup xs) S1
def eLst (ts : List RE) : RE := fun τ S Q => eArgs ts τ S fun xs S1 => ∀ p, S1 p = none → Q (.ref p) (put S1 p (.lst xs))
theorem ve_tup {es : List Expr} {ts : List RE} {k : Nat} {pos : Pos} (h : VA X en es ts) (hl : es.length ≤ 100000 := by decide) : VE X en (.Tuple es k pos) (eTup ts) :=
  PE.imp (pe_tup h.1) fun σ H Q q => by
    obtain ⟨τ, S, Q0, hs, ho, q, k⟩ := q
    refine args_ok hs ho q fun ds S' vs H' q g r hz o => ?_
    have hz' : vs.length ≤ sizeLine := Nat.le_trans (by rw [hz, h.2]; exact hl) (by decide)
    refine ⟨hz', fun p hp => ?_⟩
    exact k _ _ _ _ q (g.trans (Go.new' hp)) (by simp only [Rp]; exact ⟨p, vs, rfl, upd_same, hz', Rps.mono (TL.new hp) _ _ r⟩) (o.go (Go.new' hp) (o.so.new' hp))
theorem ve_lst {es : List Expr} {ts : List RE} {pos : Pos} (h : VA X en es ts) (hl : es.length ≤ 100000 := by decide) : VE X en (.List es pos) (eLst ts) :=
  PE.imp (pe_lst h.1) fun σ H Q q => by
    obtain ⟨τ, S, Q0, hs, ho, q, k⟩ := q
    refine args_ok hs ho q fun ds S' vs H' q g r hz o => ?_
    have hz' : vs.length ≤ sizeLine := Nat.le_trans (by rw [hz, h.2]; exact hl) (by decide)
    refine ⟨hz', fun p hp => ?_⟩
    exact k _ _ _ _ (q p (o.nope hp)) (g.trans (Go.new hp)) (by simp only [Rp]) (o.go (Go.new hp) (o.so.new hp ⟨vs, rfl, hz', Rps.mono (TL.new hp) _ _ r⟩))
/-! ### calls of built-ins by values -/
def CaV (K : PySem.W.Frag) (f : List D → Sto → KE → Prop) (r : List V → Hp → VK → Prop) : Prop := ∀ (H : Hp) (S : Sto) (xs : List D) (us : List V) (Q : KE) (R : VK), SO K H S → Rps K H xs us → f xs S Q →
  (∀ d S' z H', Q d S' → Go S H S' H' → Rp K H' d z → SO K H' S' → R z H') → r us H R
def eCB (f : List D → Sto → KE → Prop) (ts : List RE) : RE := fun τ S Q => eArgs ts τ S fun xs S1 => f xs S1 Q
theorem low_cb {f : List D → Sto → KE → Prop} {r : List V → Hp → VK → Prop} (hf : CaV X.K f r) {ts : List RE} {σ : L2.St} {H : Hp} {Q : VK} (h : lowE X.K en (eCB f ts) σ H Q) : tCB r (tAs (ts.map (lowE X.K en))) σ H Q := by
  obtain ⟨τ, S, Q0, hs, ho, h, k⟩ := h
  refine args_ok hs ho h fun ds S' vs H' q g r hz o => ?_
  exact hf H' S' ds vs Q0 Q o.so r q fun d S2 z H2 q2 g2 r2 o2 => k d S2 z H2 q2 (g.trans g2) r2 (o.go g2 o2)
theorem ve_callB {x : Str} {id : String} {f : List D → Sto → KE → Prop} {r : List V → Hp → VK → Prop} {e : Expr} {es : List Expr} {ts : List RE} {p pos : Pos} (hc : CallR X (.builtin id) r) (hf : CaV X.K f r) (hg : Gl X x) (hm : X.mg x = none) (hv : bootBuiltins x = some (.builtin id)) (ha : VA X en (e :: es) ts) (hn : x ≠ "__name__" := by decide) (hdb : (x == ("__debug__" : Str)) = false := by decide)
    (he : starEach (e :: es) X.env = (false, eval e X.env) :: starEach es X.env := by rfl) (hpl : (backTo pos (starEach es X.env)).any (·.1) = false := by rfl) :
    VE X en (.Call (.Name x p) (e :: es) [] pos) (eCB f ts) := PE.imp (pe_callB hc hg hm hv ha.1 hn hdb he hpl) fun _ _ _ h => low_cb hf h
theorem ve_callTy {x : Str} {T : String} {f : List D → Sto → KE → Prop} {r : List V → Hp → VK → Prop} {e : Expr} {es : List Expr} {ts : List RE} {p pos : Pos} (hc : CallR X (.type T) r) (hf : CaV X.K f r) (hg : Gl X x) (hm : X.mg x = none) (hv : bootBuiltins x = some (.type T)) (ha : VA X en (e :: es) ts) (hn : x ≠ "__name__" := by decide) (hdb : (x == ("__debug__" : Str)) = false := by decide)
    (he : starEach (e :: es) X.env = (false, eval e X.env) :: starEach es X.env := by rfl) (hpl : (backTo pos (starEach es X.env)).any (·.1) = false := by rfl) :
    VE X en (.Call (.Name x p) (e :: es) [] pos) (eCB f ts) := PE.imp (pe_callTy hc hg hm hv ha.1 hn hdb he hpl) fun _ _ _ h => low_cb hf h
/-! ### tests -/
def tVal (e : RE) : RT := fun τ S Q => e τ S fun d S1 => match d with
  | .bl b => Q b S1
  | _ => False
def tNot (t : RT) : RT := fun τ S Q => t τ S fun b S1 => Q (!b) S1
def tAnd (t u : RT) : RT := fun τ S Q => t τ S fun b S1 => if b = true then u τ S1 Q else Q false S1
def tOr (t u : RT) : RT := fun τ S Q => t τ S fun b S1 => if b = true then Q true S1 else u τ S1 Q
theorem vt_val {e : Expr} {t : RE} (h : VE X en e t) (he : ∀ whole, isTrue e X.env whole = (do let v ← whole; standAt e.pos; holding [v] (truthy v)) := by intro _; rfl) : VT X en e (tVal t) :=
  PT.imp (pt_val h he) fun σ H Q q => by
    obtain ⟨τ, S, Q0, hs, ho, q, k⟩ := q
    refine ⟨τ, S, _, hs, ho, q, fun d S' v H' q' g r o => ?_⟩
    cases d with
    | bl b =>
      simp only [Rp] at r
      exact ⟨b, r, k b S' H' q' g o⟩
    | _ => exact q'.elim
theorem vt_cmp {op : CmpOp} {f : D → D → Sto → KE → Prop} {r : R2} {a b : Expr} {ta tb : RE} {pos : Pos} (ho : OpR X (compareOp op) r) (hf : OpV X.K f r) (ha : VE X en a ta) (hb : VE X en b tb) (hm : behindInMarks op b = false := by first | exact nomark _ | rfl) : VT X en (.Compare a [op] [b] pos) (tVal (eBin f ta tb)) :=
  PT.imp (pt_cmpR ho ha hb hm) fun σ H Q q => by
    obtain ⟨τ, S, Q0, hs, ho, q, k⟩ := q
    refine low_bin hf ⟨τ, S, _, hs, ho, q, fun d S' v H' q' g r o => ?_⟩
    cases d with
    | bl b =>
      simp only [Rp] at r
      exact ⟨b, r, k b S' H' q' g o⟩
    | _ => exact q'.elim
theorem vt_not {e : Expr} {t : RT} {pos : Pos} (h : VT X en e t) : VT X en (.UnaryOp .Not e pos) (tNot t) :=
  PT.imp (pt_not h) fun σ H Q q => by
    obtain ⟨τ, S, Q0, hs, ho, q, k⟩ := q
    exact ⟨τ, S, _, hs, ho, q, fun b S' H' q' g o => k _ _ _ q' g o⟩
theorem vw_and1 {a : Expr} {t : RT} {pos : Pos} (h : VT X en a t) : VW X en (.BoolOp .And [a] pos) t := pw_and1 h
theorem vw_or1 {a : Expr} {t : RT} {pos : Pos} (h : VT X en a t) : VW X en (.BoolOp .Or [a] pos) t := pw_or1 h
theorem vw_and {a b : Expr} {rest : List Expr} {t u : RT} {pos : Pos} (h : VT X en a t) (h2 : VW X en (.BoolOp .And (b :: rest) pos) u) : VW X en (.BoolOp .And (a :: b :: rest) pos) (tAnd t u) :=
  PW.imp (pw_and h h2) fun σ H Q q => by
    obtain ⟨τ, S, Q0, hs, ho, q, k⟩ := q
    refine ⟨τ, S, _, hs, ho, q, fun b S' H' q' g o => ?_⟩
    cases b with
    | true =>
      rw [if_pos rfl] at q' ⊢
      exact ⟨τ, S', Q0, hs.mono g.tl, o, q', fun b S2 H2 q2 g2 o2 => k b S2 H2 q2 (g.trans g2) o2⟩
    | false =>
      rw [if_neg Bool.false_ne_true] at q' ⊢
      exact k _ _ _ q' g o
theorem vw_or {a b : Expr} {rest : List Expr} {t u : RT} {pos : Pos} (h : VT X en a t) (h2 : VW X en (.BoolOp .Or (b :: rest) pos) u) : VW X en (.BoolOp .Or (a :: b :: rest) pos) (tOr t u) :=
  PW.imp (pw_or h h2) fun σ H Q q => by
    obtain ⟨τ, S, Q0, hs, ho, q, k⟩ := q
    refine ⟨τ, S, _, hs, ho, q, fun b S' H' q' g o => ?_⟩
    cases b with
    | true =>
      rw [if_pos rfl] at q' ⊢
      exact k _ _ _ q' g o
    | false =>
      rw [if_neg Bool.false_ne_true] at q' ⊢
      exact ⟨τ, S', Q0, hs.mono g.tl, o, q', fun b S2 H2 q2 g2 o2 => k b S2 H2 q2 (g.trans g2) o2⟩
theorem vt_bool {e : Expr} {t : RT} (h : VW X en e t) : VT X en e t := PW.pt h
/-- and, or, not as values (bools) -/
def eAnd (a b : RE) : RE := fun τ S Q => a τ S fun d S1 => match d with
  | .bl c => if c = true then b τ S1 Q else Q (.bl false) S1
  | _ => False
def eOr (a b : RE) : RE := fun τ S Q => a τ S fun d S1 => match d with
  | .bl c => if c = true then Q (.bl true) S1 else b τ S1 Q
  | _ => False
def eNot (a : RE) : RE := fun τ S Q => a τ S fun d S1 => match d with
  | .bl c => Q (.bl (!c)) S1
  | _ => False
theorem ve_one {op} {a : Expr} {t : RE} {pos : Pos} (h : VE X en a t) : VE X en (.BoolOp op [a] pos) t := pe_one h
theorem ve_and {a b : Expr} {rest : List Expr} {ta tb : RE} {pos : Pos} (ha : VE X en a ta) (hb : VE X en (.BoolOp .And (b :: rest) pos) tb) : VE X en (.BoolOp .And (a :: b :: rest) pos) (eAnd ta tb) :=
  PE.imp (pe_and ha hb) fun σ H Q q => by
    obtain ⟨τ, S, Q0, hs, ho, q, k⟩ := q
    refine ⟨τ, S, _, hs, ho, q, fun d S' v H' q' g r o => ?_⟩
    cases d with
    | bl b =>
      simp only [Rp] at r
      refine ⟨b, r, ?_⟩
      cases b with
      | true =>
        simp only [if_true] at q' ⊢
        exact ⟨τ, S', Q0, hs.mono g.tl, o, q', fun d S2 v2 H2 q2 g2 r2 o2 => k d S2 v2 H2 q2 (g.trans g2) r2 o2⟩
      | false =>
        simp only [Bool.false_eq_true, if_false] at q' ⊢
        exact k _ _ _ _ q' g (by simp only [Rp]) o
    | _ => exact q'.elim
theorem ve_or {a b : Expr} {rest : List Expr} {ta tb : RE} {pos : Pos} (ha : VE X en a ta) (hb : VE X en (.BoolOp .Or (b :: rest) pos) tb) : VE X en (.BoolOp .Or (a :: b :: rest) pos) (eOr ta tb) :=
  PE.imp (pe_or ha hb) fun σ H Q q => by
    obtain ⟨τ, S, Q0, hs, ho, q, k⟩ := q
    refine ⟨τ, S, _, hs, ho, q, fun d S' v H' q' g r o => ?_⟩
    cases d with
    | bl b =>
      simp only [Rp] at r
      refine ⟨b, r, ?_⟩
      cases b with
      | true =>
        simp only [if_true] at q' ⊢
        exact k _ _ _ _ q' g (by simp only [Rp]) o
      | false =>
        simp only [Bool.false_eq_true, if_false] at q' ⊢
        exact ⟨τ, S', Q0, hs.mono g.tl, o, q', fun d S2 v2 H2 q2 g2 r2 o2 => k d S2 v2 H2 q2 (g.trans g2) r2 o2⟩
    | _ => exact q'.elim
theorem ve_not {a : Expr} {t : RE} {pos : Pos} (h : VE X en a t) : VE X en (.UnaryOp .Not a pos) (eNot t) :=
  PE.imp (pe_not h) fun σ H Q q => by
    obtain ⟨τ, S, Q0, hs, ho, q, k⟩ := q
    refine ⟨τ, S, _, hs, ho, q, fun d S' v H' q' g r o => ?_⟩
    cases d with
    | bl b =>
      simp only [Rp] at r
      exact ⟨b, r, k _ _ _ _ q' g (by simp only [Rp]) o⟩
    | _ => exact q'.elim
def eIf (t : RT) (a b : RE) : RE := fun τ S Q => t τ S fun c S1 => if c = true then a τ S1 Q else b τ S1 Q
theorem ve_if {c a b : Expr} {t : RT} {ta tb : RE} {pos : Pos} (hc : VT X en c t) (ha : VE X en a ta) (hb : VE X en b tb) : VE X en (.IfExp c a b pos) (eIf t ta tb) :=
  PE.imp (pe_ifExp hc ha hb) fun σ H Q q => by
    obtain ⟨τ, S, Q0, hs, ho, q, k⟩ := q
    refine ⟨τ, S, _, hs, ho, q, fun b S' H' q' g o => ?_⟩
    cases b with
    | true =>
      simp only [if_true] at q' ⊢
      exact ⟨τ, S', Q0, hs.mono g.tl, o, q', fun d S2 v2 H2 q2 g2 r2 o2 => k d S2 v2 H2 q2 (g.trans g2) r2 o2⟩
    | false =>
      simp only [Bool.false_eq_true, if_false] at q' ⊢
      exact ⟨τ, S', Q0, hs.mono g.tl, o, q', fun d S2 v2 H2 q2 g2 r2 o2 => k d S2 v2 H2 q2 (g.trans g2) r2 o2⟩
end
end VL
/-! VL3: statements, targets, loops, comprehensions, calls of defs, the rule for a def. -/
namespace VL
open PySem PySem.Spec PyProof.Rows L2
structure En where
  nx : VS → Sto → Prop
  rt : D → Sto → Prop
  bk : VS → Sto → Prop := fun _ _ => False
  ct : VS → Sto → Prop := fun _ _ => False
abbrev RS := En → VS → Sto → Prop
structure EnI (K : PySem.W.Frag) (en : Ent) (S : Sto) (H : Hp) (D0 : En) (D : Ends) : Prop where
  nx : ∀ τ S' σ H', D0.nx τ S' → Go S H S' H' → SR K H' τ σ → SQ K en H' S' → D.nx σ H'
  rt : ∀ d S' v H', D0.rt d S' → Go S H S' H' → Rp K H' d v → SQ K en H' S' → D.rt v H'
  bk : ∀ τ S' σ H', D0.bk τ S' → Go S H S' H' → SR K H' τ σ → SQ K en H' S' → D.bk σ H'
  ct : ∀ τ S' σ H', D0.ct τ S' → Go S H S' H' → SR K H' τ σ → SQ K en H' S' → D.ct σ H'
section
variable {K : PySem.W.Frag} {en : Ent} {S S1 : Sto} {H H1 : Hp} {D0 : En} {D : Ends}
theorem EnI.go (e : EnI K en S H D0 D) (g : Go S H S1 H1) : EnI K en S1 H1 D0 D :=
  ⟨fun τ S' σ H' q g' r o => e.nx τ S' σ H' q (g.trans g') r o, fun d S' v H' q g' r o => e.rt d S' v H' q (g.trans g') r o,
   fun τ S' σ H' q g' r o => e.bk τ S' σ H' q (g.trans g') r o, fun τ S' σ H' q g' r o => e.ct τ S' σ H' q (g.trans g') r o⟩
end
def lowS (K : PySem.W.Frag) (en : Ent) (t : RS) : TS := fun D σ H => ∃ τ S D0, SR K H τ σ ∧ SQ K en H S ∧ t D0 τ S ∧ EnI K en S H D0 D
def VSt (X : Cx) (en : Ent) (st : Stmt) (t : RS) : Prop := PS X st (lowS X.K en t)
def VSs (X : Cx) (en : Ent) (st : List Stmt) (t : RS) : Prop := PSs X st (lowS X.K en t)
/-! ### targets -/
abbrev RG := D → VS → Sto → (VS → Sto → Prop) → Prop
def lowG (K : PySem.W.Frag) (en : Ent) (t : RG) : TG := fun v σ H Q => ∃ d τ S Q0, Rp K H d v ∧ SR K H τ σ ∧ SQ K en H S ∧ t d τ S Q0 ∧ ∀ τ' S' σ' H', Q0 τ' S' → Go S H S' H' → SR K H' τ' σ' → SQ K en H' S' → Q σ' H'
def VG (X : Cx) (en : Ent) (tg : Expr) (t : RG) : Prop := PG X tg (lowG X.K en t)
def tGs (K : PySem.W.Frag) (en : Ent) (gs : List RG) : TGs := match gs with
  | [] => gNil
  | g :: r => gCons (lowG K en g) (tGs K en r)
def VGs (X : Cx) (en : Ent) (ts : List Expr) (gs : List RG) : Prop := PGs X ts (tGs X.K en gs) ∧ gs.length = ts.length
section
variable {X : Cx} {en : Ent}
theorem PG.imp {e : Expr} {t1 t2 : TG} (p : PG X e t1) (h : ∀ v σ H Q, t2 v σ H Q → t1 v σ H Q) : PG X e t2 := ⟨fun pins s σ H v u Q I r q => p.run pins s σ H v u Q I r (h v σ H Q q)⟩
def gName (i : Nat) : RG := fun d τ S Q => Q (τ.set i (some d)) S
theorem vg_name {i : Nat} {x : Str} {pos : Pos} (hN : X.N.Nodup) (hi : X.N[i]? = some x) (hx : Loc X.env.scope x) (hf : X.fn x = true ∨ X.env.scope.names.lookup x = some .local := by first | exact .inl rfl | exact .inr rfl | assumption) : VG X en (.Name x pos) (gName i) :=
  PG.imp (pg_name hN hi hx hf) fun v σ H Q h => by
    obtain ⟨d, τ, S, Q0, r, hs, ho, q, k⟩ := h
    exact k _ _ _ _ q (Go.refl S H) (hs.set r i) ho
def gAll : List RG → List D → VS → Sto → (VS → Sto → Prop) → Prop
  | [], [], τ, S, Q => Q τ S
  | g :: gs, x :: xs, τ, S, Q => g x τ S fun τ1 S1 => gAll gs xs τ1 S1 Q
  | _, _, _, _, _ => False
def gTup (gs : List RG) : RG := fun d τ S Q => match d with
  | .tup xs => gAll gs xs τ S Q
  | .ref a => ∃ xs, (S a = some (.lst xs) ∨ S a = some (.rol xs)) ∧ gAll gs xs τ S Q
  | _ => False
theorem vgs_nil : VGs X en [] [] := ⟨pgs_nil, rfl⟩
theorem vgs_cons {e : Expr} {es : List Expr} {g : RG} {gs : List RG} (h1 : VG X en e g) (h2 : VGs X en es gs) (hs : (assignEach (e :: es) X.env).map (·.2) = assign e X.env :: (assignEach es X.env).map (·.2) := by rfl) : VGs X en (e :: es) (g :: gs) := ⟨pgs_cons h1 h2.1 hs, by rw [List.length_cons, List.length_cons, h2.2]⟩
theorem gs_ok {K : PySem.W.Frag} {en : Ent} : ∀ {gs : List RG} {xs : List D} {vs : List V} {τ : VS} {S : Sto} {σ : L2.St} {H : Hp} {Q : VS → Sto → Prop} {R : L2.St → Hp → Prop}, Rps K H xs vs → SR K H τ σ → SQ K en H S → gAll gs xs τ S Q →
    (∀ τ' S' σ' H', Q τ' S' → Go S H S' H' → SR K H' τ' σ' → SQ K en H' S' → R σ' H') → tGs K en gs vs σ H R
  | [], [], vs, τ, S, σ, H, Q, R, r, hs, ho, h, k => by
    simp only [Rps] at r
    exact ⟨r, k _ _ _ _ h (Go.refl S H) hs ho⟩
  | g :: gs, x :: xs, vs, τ, S, σ, H, Q, R, r, hs, ho, h, k => by
    simp only [Rps] at r
    obtain ⟨v, w, rfl, r1, r2⟩ := r
    refine ⟨v, w, rfl, x, τ, S, _, r1, hs, ho, h, fun τ1 S1 σ1 H1 h1 g1 s1 o1 => ?_⟩
    exact gs_ok (Rps.mono g1.tl _ _ r2) s1 o1 h1 fun τ' S' σ' H' q g' s' o' => k _ _ _ _ q (g1.trans g') s' o'
  | [], _ :: _, _, _, _, _, _, _, _, _, _, _, h, _ => h.elim
  | _ :: _, [], _, _, _, _, _, _, _, _, _, _, h, _ => h.elim
/-- (a, b, ..) = a tuple -/
def gTupN (n : Nat) (gs : List RG) : RG := fun d τ S Q => match d with
  | .tup xs => xs.length = n ∧ gAll gs xs τ S Q
  | _ => False
theorem vg_tup {es : List Expr} {k : Nat} {pos : Pos} {gs : List RG} {n : Nat} (hc : X.calm = true) (h : VGs X en es gs) (hn : (assignEach es X.env).length = n := by rfl) (hst : (assignEach es X.env).findIdx? (·.1) = none := by rfl) : VG X en (.Tuple es k pos) (gTupN n gs) :=
  PG.imp (pg_tup (n := n) hc h.1 hn hst) fun v σ H Q h => by
    obtain ⟨d, τ, S, Q0, r, hs, ho, q, k⟩ := h
    cases d with
    | tup xs =>
      simp only [Rp] at r
      obtain ⟨a, vs, rfl, hq, hz, rs⟩ := r
      exact ⟨a, vs, rfl, SqT.of hq, by rw [← rs.length]; exact q.1, gs_ok rs hs ho q.2 k⟩
    | _ => exact q.elim
end
/-! ### plain statements -/
section
variable {X : Cx} {en : Ent}
def sNext : RS := fun D τ S => D.nx τ S
def sSeq (t u : RS) : RS := fun D τ S => t { D with nx := u D } τ S
theorem vss_nil : VSs X en [] sNext := PSs.imp pss_nil fun D σ H h => by
  obtain ⟨τ, S, D0, hs, ho, q, e⟩ := h
  exact e.nx _ _ _ _ q (Go.refl S H) hs ho
theorem vss_cons {st : Stmt} {rest : List Stmt} {t u : RS} (h1 : VSt X en st t) (h2 : VSs X en rest u) : VSs X en (st :: rest) (sSeq t u) := PSs.imp (pss_cons h1 h2) fun D σ H h => by
  obtain ⟨τ, S, D0, hs, ho, q, e⟩ := h
  refine ⟨τ, S, _, hs, ho, q, ⟨fun τ1 S1 σ1 H1 q1 g1 s1 o1 => ⟨τ1, S1, D0, s1, o1, q1, e.go g1⟩, e.rt, e.bk, e.ct⟩⟩
theorem vss_one {st : Stmt} {t : RS} (h1 : VSt X en st t) : VSs X en [st] t := pss_one h1
def sBreak : RS := fun D τ S => D.bk τ S
def sCont : RS := fun D τ S => D.ct τ S
theorem vs_pass {pos : Pos} : VSt X en (.Pass pos) sNext := PS.imp ps_pass fun D σ H h => by
  obtain ⟨τ, S, D0, hs, ho, q, e⟩ := h
  exact e.nx _ _ _ _ q (Go.refl S H) hs ho
theorem vs_break {pos : Pos} : VSt X en (.Break pos) sBreak := PS.imp ps_break fun D σ H h => by
  obtain ⟨τ, S, D0, hs, ho, q, e⟩ := h
  exact e.bk _ _ _ _ q (Go.refl S H) hs ho
theorem vs_continue {pos : Pos} : VSt X en (.Continue pos) sCont := PS.imp ps_continue fun D σ H h => by
  obtain ⟨τ, S, D0, hs, ho, q, e⟩ := h
  exact e.ct _ _ _ _ q (Go.refl S H) hs ho
def sDrop (te : RE) : RS := fun D τ S => te τ S fun _ S1 => D.nx τ S1
theorem vs_expr {e : Expr} {te : RE} {pos : Pos} (he : VE X en e te) (hs : swapsWith e none pos.line X.env = pure false := by rfl) : VSt X en (.Expr e pos) (sDrop te) := PS.imp (ps_expr he hs) fun D σ H h => by
  obtain ⟨τ, S, D0, hs, ho, q, e⟩ := h
  exact ⟨τ, S, _, hs, ho, q, fun d S' v H' q' g r o => e.nx _ _ _ _ q' g (hs.mono g.tl) o⟩
def sRet (te : RE) : RS := fun D τ S => te τ S D.rt
theorem vs_ret {e : Expr} {te : RE} {pos : Pos} (he : VE X en e te) : VSt X en (.Return (some e) pos) (sRet te) := PS.imp (ps_ret he) fun D σ H h => by
  obtain ⟨τ, S, D0, hs, ho, q, e⟩ := h
  exact ⟨τ, S, _, hs, ho, q, fun d S' v H' q' g r o => e.rt _ _ _ _ q' g r o⟩
def sRetN : RS := fun D τ S => D.rt .non S
theorem vs_retN {pos : Pos} : VSt X en (.Return none pos) sRetN := PS.imp ps_retN fun D σ H h => by
  obtain ⟨τ, S, D0, hs, ho, q, e⟩ := h
  exact e.rt _ _ _ _ q (Go.refl S H) (by simp only [Rp]) ho
def sIf (c : RT) (t u : RS) : RS := fun D τ S => c τ S fun b S1 => if b = true then t D τ S1 else u D τ S1
theorem vs_if {c : Expr} {a b : List Stmt} {tc : RT} {t u : RS} {pos : Pos} (hc : VT X en c tc) (ha : VSs X en a t) (hb : VSs X en b u) : VSt X en (.If c a b pos) (sIf tc t u) := PS.imp (ps_if hc ha hb) fun D σ H h => by
  obtain ⟨τ, S, D0, hs, ho, q, e⟩ := h
  refine ⟨τ, S, _, hs, ho, q, fun b S' H' q' g o => ?_⟩
  cases b with
  | true => simp only [if_true] at q' ⊢; exact ⟨τ, S', D0, hs.mono g.tl, o, q', e.go g⟩
  | false => simp only [Bool.false_eq_true, if_false] at q' ⊢; exact ⟨τ, S', D0, hs.mono g.tl, o, q', e.go g⟩
def sNever : RS := fun _ _ _ => False
theorem vs_never {st : Stmt} : VSt X en st sNever := PS.imp ps_never fun D σ H h => by
  obtain ⟨τ, S, D0, hs, ho, q, e⟩ := h
  exact q
theorem vss_never {st : List Stmt} : VSs X en st sNever := PSs.imp pss_never fun D σ H h => by
  obtain ⟨τ, S, D0, hs, ho, q, e⟩ := h
  exact q
/-- x = e -/
def sAsg (te : RE) (g : RG) : RS := fun D τ S => te τ S fun d S1 => g d τ S1 D.nx
theorem low_asg {te : RE} {g : RG} {D : Ends} {σ : L2.St} {H : Hp} (h : lowS X.K en (sAsg te g) D σ H) : tAsg (lowE X.K en te) (lowG X.K en g) D σ H := by
  obtain ⟨τ, S, D0, hs, ho, q, e⟩ := h
  exact ⟨τ, S, _, hs, ho, q, fun d S' v H' q' g r o => ⟨d, τ, S', _, r, hs.mono g.tl, o, q', fun τ2 S2 σ2 H2 q2 g2 s2 o2 => e.nx _ _ _ _ q2 (g.trans g2) s2 o2⟩⟩
theorem vs_asg {tg e : Expr} {te : RE} {g : RG} {pos : Pos} (he : VE X en e te) (hg : VG X en tg g) (hs : swapsWithSole [tg] e pos.line X.env = pure false := by rfl) (hw : swappedStores [tg] e X.env = pure none := by rfl) (h1 : (assignEach [tg] X.env).map (·.2) = [assign tg X.env] := by rfl) : VSt X en (.Assign [tg] e pos) (sAsg te g) :=
  PS.imp (ps_asg he hg hs hw h1) fun _ _ _ h => low_asg h
theorem vs_set {i : Nat} {x : Str} {e : Expr} {te : RE} {pos pos' : Pos} (hN : X.N.Nodup) (hi : X.N[i]? = some x) (hx : Loc X.env.scope x) (he : VE X en e te) (hs : swapsWith e (some (.Name x pos')) pos.line X.env = pure false := by rfl) (hf : X.fn x = true ∨ X.env.scope.names.lookup x = some .local := by first | exact .inl rfl | exact .inr rfl | assumption) :
    VSt X en (.Assign [.Name x pos'] e pos) (sAsg te (gName i)) := PS.imp (ps_set hN hi hx he hs hf) fun D σ H h => by
  obtain ⟨τ, S, D0, hs, ho, q, e⟩ := h
  exact ⟨τ, S, _, hs, ho, q, fun d S' v H' q' g r o => e.nx _ _ _ _ q' g ((hs.mono g.tl).set r i) o⟩
/-- a, b = x, y with plain local names -/
def sPar (i j : Nat) (ta tb : RE) : RS := fun D τ S => ta τ S fun x S1 => tb τ S1 fun y S2 => D.nx ((τ.set i (some x)).set j (some y)) S2
theorem vs_par {i j : Nat} {x y : Str} {a b : Expr} {ta tb : RE} {px py pt pos : Pos} {kt k2 : Nat} {pt2 : Pos} (hc : X.calm = true) (hN : X.N.Nodup) (hi : X.N[i]? = some x) (hj : X.N[j]? = some y) (hij : i ≠ j)
    (hx : X.env.scope.names.lookup x = some .local) (hy : X.env.scope.names.lookup y = some .local) (ha : VE X en a ta) (hb : VE X en b tb)
    (hw : swappedStores [.Tuple [.Name x px, .Name y py] kt pt] (.Tuple [a, b] k2 pt2) X.env = pure (some [x, y]))
    (hs : swapsWithSole [.Tuple [.Name x px, .Name y py] kt pt] (.Tuple [a, b] k2 pt2) pos.line X.env = pure false := by rfl)
    (hst : starEach [a, b] X.env = (false, eval a X.env) :: starEach [b] X.env := by rfl) (hst2 : starEach [b] X.env = (false, eval b X.env) :: starEach [] X.env := by rfl) :
    VSt X en (.Assign [.Tuple [.Name x px, .Name y py] kt pt] (.Tuple [a, b] k2 pt2) pos) (sPar i j ta tb) :=
  PS.imp (ps_par hc hN hi hj hij hx hy (va_cons ha (va_cons hb va_nil hst2) hst).1 hw hs) fun D σ H h => by
    obtain ⟨τ, S, D0, hs, ho, q, e⟩ := h
    refine ⟨τ, S, _, hs, ho, q, fun d S1 v H1 q1 g1 r1 o1 => ?_⟩
    refine ⟨τ, S1, _, hs.mono g1.tl, o1, q1, fun d2 S2 v2 H2 q2 g2 r2 o2 => ?_⟩
    exact ⟨v, v2, rfl, e.nx _ _ _ _ q2 (g1.trans g2) (((hs.mono (g1.trans g2).tl).set (Rp.mono g2.tl _ _ r1) i).set r2 j) o2⟩
/-- x op= e -/
def sAug (i : Nat) (te : RE) (f : D → D → Sto → KE → Prop) : RS := fun D τ S => match sl τ i with
  | some x => te τ S fun y S1 => f x y S1 fun z S2 => D.nx (τ.set i (some z)) S2
  | none => False
theorem vs_aug {i : Nat} {x : Str} {e : Expr} {te : RE} {op : Operator} {f : D → D → Sto → KE → Prop} {ti : TIp} {pos pos' : Pos} (hN : X.N.Nodup) (hi : X.N[i]? = some x) (hx : Loc X.env.scope x) (he : VE X en e te) (ho : PIp X op ti) (hf : OpV X.K f ti) (hfn : X.fn x = true ∨ X.env.scope.names.lookup x = some .local := by first | exact .inl rfl | exact .inr rfl | assumption) :
    VSt X en (.AugAssign (.Name x pos') op e pos) (sAug i te f) := PS.imp (ps_aug hN hi hx he ho hfn) fun D σ H h => by
  obtain ⟨τ, S, D0, hs, ho, q, e⟩ := h
  unfold sAug at q
  cases ex : sl τ i with
  | none => rw [ex] at q; exact q.elim
  | some d =>
    rw [ex] at q
    obtain ⟨v, a, b⟩ := hs.2 i d (sl_get ex)
    refine ⟨v, a, τ, S, _, hs, ho, q, fun y S1 u H1 q1 g1 r1 o1 => ?_⟩
    exact hf H1 S1 d y v u _ _ o1.so (Rp.mono g1.tl _ _ b) r1 q1 fun z S2 w H2 q2 g2 r2 o2 => e.nx _ _ _ _ q2 (g1.trans g2) ((hs.mono (g1.trans g2).tl).set r2 i) (o1.go g2 o2)
end
/-! ### what is walked -/
structure Wk where
  items : List D
  ok : Sto → Prop
abbrev RI := VS → Sto → (Wk → Sto → Prop) → Prop
structure WkJ (K : PySem.W.Frag) (wk : Wk) (J : It) (H0 : Hp) : Prop where
  len : wk.items.length ≤ sizeLine
  go : ∀ i H S, TL H0 H → SO K H S → wk.ok S → i < wk.items.length → J.go i H
  yld : ∀ i H S x H' d, TL H0 H → SO K H S → wk.ok S → wk.items[i]? = some d → J.yld i H x H' → Go S H S H' ∧ SO K H' S ∧ Rp K H' d x
  stop : ∀ i H S, TL H0 H → SO K H S → wk.ok S → wk.items.length ≤ i → J.stop i H
def lowI (K : PySem.W.Frag) (en : Ent) (t : RI) : TI := fun σ H R => ∃ τ S R0, SR K H τ σ ∧ SQ K en H S ∧ t τ S R0 ∧ ∀ wk S' J H', R0 wk S' → Go S H S' H' → SQ K en H' S' → WkJ K wk J H' → R J H'
def VI (X : Cx) (en : Ent) (tg iter : Expr) (t : RI) : Prop := PI X tg iter (lowI X.K en t)
section
variable {X : Cx} {en : Ent}
theorem PI.imp {tg e : Expr} {t1 t2 : TI} (p : PI X tg e t1) (h : ∀ σ H R, t2 σ H R → t1 σ H R) : PI X tg e t2 := ⟨fun pins s σ H R I q => p.run pins s σ H R I (h σ H R q)⟩
/-- the list at an address, to be read -/
def rdL (S : Sto) (a : Addr) (xs : List D) : Prop := S a = some (.lst xs) ∨ S a = some (.rol xs)
theorem rdL.sq {K : PySem.W.Frag} {H : Hp} {S : Sto} {a : Addr} {xs : List D} (h : rdL S a xs) (o : SO K H S) : ∃ vs, SqL K H a vs ∧ vs.length ≤ sizeLine ∧ Rps K H xs vs := by
  rcases h with h | h
  · obtain ⟨u, e, vs, rfl, z, r⟩ := o a _ h
    exact ⟨vs, SqL.of e, z, r⟩
  · obtain ⟨u, e, ob, vs, rfl, z, r⟩ := o a _ h
    exact ⟨vs, .inl (.inr ⟨ob, e⟩), z, r⟩
theorem rdL.le {S T : Sto} {a : Addr} {xs : List D} (h : rdL S a xs) (l : Le S T) : rdL T a xs := h.imp (l a _) (l a _)
/-- a tuple -/
def iTup (te : RE) : RI := fun τ S R => te τ S fun d S1 => match d with
  | .tup xs => R ⟨xs, fun _ => True⟩ S1
  | _ => False
theorem wk_tup {K : PySem.W.Frag} {H : Hp} {a : Addr} {vs : List V} {xs : List D} (h : SqT K H a vs) (z : vs.length ≤ sizeLine) (r : Rps K H xs vs) : WkJ K ⟨xs, fun _ => True⟩ (Itt K a) H :=
  ⟨by show xs.length ≤ _; rw [r.length]; exact z, fun i H' S t o _ hi => by
      obtain ⟨v, e, _⟩ := r.get (List.getElem?_eq_getElem hi)
      exact ⟨vs, v, t.sqT h, e⟩,
    fun i H' S x H2 d t o _ e y => by
      obtain ⟨rfl, y⟩ := y
      obtain ⟨v, e2, q⟩ := r.get e
      have := y vs (t.sqT h)
      rw [e2] at this; cases this
      exact ⟨Go.refl S H2, o, Rp.mono t _ _ q⟩,
    fun i H' S t o _ hi => ⟨vs, t.sqT h, by rw [← r.length]; exact hi⟩⟩
theorem vi_tup {tg l : Expr} {te : RE} (hl : VE X en l te) : VI X en tg l (iTup te) := PI.imp (pi_tup hl) fun σ H R h => by
  obtain ⟨τ, S, R0, hs, ho, q, k⟩ := h
  refine ⟨τ, S, _, hs, ho, q, fun d S' v H' q' g r o => ?_⟩
  cases d with
  | tup xs =>
    simp only [Rp] at r
    obtain ⟨a, vs, rfl, hq, hz, rs⟩ := r
    exact ⟨a, rfl, ⟨vs, SqT.of hq⟩, k _ _ _ _ q' g o (wk_tup (SqT.of hq) hz rs)⟩
  | _ => exact q'.elim
/-- a list that stays as it is -/
def iLst (te : RE) : RI := fun τ S R => te τ S fun d S1 => match d with
  | .ref a => ∃ xs, rdL S1 a xs ∧ R ⟨xs, fun S => rdL S a xs⟩ S1
  | _ => False
theorem sqL_inj {K : PySem.W.Frag} {H : Hp} {a : Addr} {vs ws : List V} (h : Rd H a (.lst vs)) (x : Rd H a (.lst ws)) : vs = ws := by
  rcases h with h | ⟨o, h⟩ <;> rcases x with x | ⟨o', x⟩ <;> (rw [h] at x; cases x) <;> rfl
theorem rdL.sq' {K : PySem.W.Frag} {H : Hp} {S : Sto} {a : Addr} {xs : List D} (h : rdL S a xs) (o : SO K H S) : ∃ vs, Rd H a (.lst vs) ∧ vs.length ≤ sizeLine ∧ Rps K H xs vs := by
  rcases h with h | h
  · obtain ⟨u, e, vs, rfl, z, r⟩ := o a _ h
    exact ⟨vs, .inl e, z, r⟩
  · obtain ⟨u, e, ob, vs, rfl, z, r⟩ := o a _ h
    exact ⟨vs, .inr ⟨ob, e⟩, z, r⟩
theorem wk_lst {K : PySem.W.Frag} {H : Hp} {S0 : Sto} {a : Addr} {xs : List D} (h : rdL S0 a xs) (o0 : SO K H S0) : WkJ K ⟨xs, fun S => rdL S a xs⟩ (Itl K a) H :=
  ⟨by obtain ⟨vs, _, z, r⟩ := h.sq o0; show xs.length ≤ _; rw [r.length]; exact z, fun i H' S t o ok hi => by
      obtain ⟨vs, hq, _, r⟩ := rdL.sq ok o
      obtain ⟨v, e, _⟩ := r.get (List.getElem?_eq_getElem hi)
      exact ⟨vs, v, hq, e⟩,
    fun i H' S x H2 d t o ok e y => by
      obtain ⟨rfl, y⟩ := y
      obtain ⟨vs, hq, _, r⟩ := rdL.sq ok o
      obtain ⟨v, e2, q⟩ := r.get e
      have := y vs hq
      rw [e2] at this; cases this
      exact ⟨Go.refl S H2, o, q⟩,
    fun i H' S t o ok hi => by
      obtain ⟨vs, hq, _, r⟩ := rdL.sq ok o
      exact ⟨vs, hq, by rw [← r.length]; exact hi⟩⟩
theorem vi_lst {tg l : Expr} {te : RE} (hl : VE X en l te) : VI X en tg l (iLst te) := PI.imp (pi_list hl) fun σ H R h => by
  obtain ⟨τ, S, R0, hs, ho, q, k⟩ := h
  refine ⟨τ, S, _, hs, ho, q, fun d S' v H' q' g r o => ?_⟩
  cases d with
  | ref a =>
    simp only [Rp] at r
    subst r
    obtain ⟨xs, hr, q'⟩ := q'
    obtain ⟨vs, hq, _, _⟩ := hr.sq o.so
    exact ⟨a, rfl, ⟨vs, hq⟩, k _ _ _ _ q' g o (wk_lst hr o.so)⟩
  | _ => exact q'.elim
/-- the script -/
def iScr (te : RE) : RI := fun τ S R => te τ S fun d S1 => match d with
  | .scr ns => R ⟨ns.map .int, fun _ => True⟩ S1
  | _ => False
theorem wk_scr {K : PySem.W.Frag} {H : Hp} {a : Addr} {ns : List Int} (h : ScrAt K H a (ns.map V.int)) (z : ns.length ≤ sizeLine) : WkJ K ⟨ns.map .int, fun _ => True⟩ (Itl K a) H := by
  have up : ∀ H', TL H H' → SqL K H' a (ns.map V.int) := fun H' t => by
    rcases h with ⟨o, h⟩ | h
    · exact .inl (.inr ⟨o, t.2 _ _ _ h⟩)
    · exact .inr h
  refine ⟨by show (ns.map D.int).length ≤ _; rw [List.length_map]; exact z, fun i H' S t o _ hi => ?_, fun i H' S x H2 d t o _ e y => ?_, fun i H' S t o _ hi => ?_⟩
  · have hi : i < ns.length := by simpa using hi
    exact ⟨_, .int ns[i], up H' t, by rw [List.getElem?_map, List.getElem?_eq_getElem hi]; rfl⟩
  · obtain ⟨rfl, y⟩ := y
    have e1 : (ns.map D.int)[i]? = some d := e
    rw [List.getElem?_map] at e1
    cases q : ns[i]? with
    | none => rw [q] at e1; cases e1
    | some n =>
      rw [q] at e1
      have e2 : D.int n = d := Option.some.inj e1
      subst e2
      have := y _ (up _ t)
      rw [List.getElem?_map, q] at this
      have e3 : V.int n = x := Option.some.inj this
      subst e3
      exact ⟨Go.refl S H2, o, by simp only [Rp]⟩
  · exact ⟨_, up H' t, by rw [List.length_map]; simpa using hi⟩
theorem vi_scr {tg l : Expr} {te : RE} (hl : VE X en l te) : VI X en tg l (iScr te) := PI.imp (pi_list hl) fun σ H R h => by
  obtain ⟨τ, S, R0, hs, ho, q, k⟩ := h
  refine ⟨τ, S, _, hs, ho, q, fun d S' v H' q' g r o => ?_⟩
  cases d with
  | scr ns =>
    simp only [Rp] at r
    obtain ⟨a, rfl, hq, hz⟩ := r
    exact ⟨a, rfl, ⟨_, hq.sq⟩, k _ _ _ _ q' g o (wk_scr hq hz)⟩
  | _ => exact q'.elim
/-- range(n), range(a, b) -/
def intsD (lo : Int) (n : Nat) : List D := (List.range n).map fun (i : Nat) => D.int (lo + (i : Int))
theorem intsD_len (lo : Int) (n : Nat) : (intsD lo n).length = n := by unfold intsD; rw [List.length_map, List.length_range]
theorem intsD_get {lo : Int} {n i : Nat} {d : D} (h : (intsD lo n)[i]? = some d) : i < n ∧ d = .int (lo + (i : Int)) := by
  have hi : i < n := by have := (List.getElem?_eq_some_iff.mp h).1; rw [intsD_len] at this; exact this
  unfold intsD at h
  rw [List.getElem?_map, List.getElem?_range hi] at h
  exact ⟨hi, (Option.some.inj h).symm⟩
theorem wk_rng {K : PySem.W.Frag} {H : Hp} {lo : Int} {n : Nat} (z : n ≤ sizeLine) : WkJ K ⟨intsD lo n, fun _ => True⟩ (Itr lo n) H :=
  ⟨by show (intsD lo n).length ≤ _; rw [intsD_len]; exact z, fun i H' S t o _ hi => by rw [intsD_len] at hi; exact hi,
    fun i H' S x H2 d t o _ e y => by
      obtain ⟨rfl, rfl⟩ := y
      obtain ⟨_, rfl⟩ := intsD_get e
      exact ⟨Go.refl S H2, o, by simp only [Rp]⟩,
    fun i H' S t o _ hi => by rw [intsD_len] at hi; exact hi⟩
def iRng1 (ts : List RE) : RI := fun τ S R => eArgs ts τ S fun ds S1 => match ds with
  | [.int n] => (-1000000000000000000 ≤ n ∧ n ≤ 10000000) ∧ R ⟨intsD 0 n.toNat, fun _ => True⟩ S1
  | _ => False
def iRng2 (ts : List RE) : RI := fun τ S R => eArgs ts τ S fun ds S1 => match ds with
  | [.int lo, .int n] => (-1000000000000000000 ≤ lo ∧ lo ≤ 1000000000000000000 ∧ -1000000000000000000 ≤ n ∧ n ≤ 1000000000000000000 ∧ n - lo ≤ 10000000) ∧ R ⟨intsD lo (n - lo).toNat, fun _ => True⟩ S1
  | _ => False
theorem line_ge : 10000000 ≤ sizeLine := by decide
theorem vi_rng1 {tg a : Expr} {ts : List RE} {p pos : Pos} (hg : Gl X "range") (hm : X.mg "range" = none) (ha : VA X en [a] ts) (hs : starEach [a] X.env = [(false, eval a X.env)] := by rfl) : VI X en tg (.Call (.Name "range" p) [a] [] pos) (iRng1 ts) := PI.imp (pi_range1 hg hm ha.1 hs) fun σ H R h => by
  obtain ⟨τ, S, R0, hs, ho, q, k⟩ := h
  refine args_ok hs ho q fun ds S' vs H' q' g r hz o => ?_
  split at q'
  · rename_i n
    simp only [Rps, Rp] at r
    obtain ⟨v, r', rfl, rfl, rfl⟩ := r
    exact ⟨n, rfl, by omega, by omega, k _ _ _ _ q'.2 g o (wk_rng (Nat.le_trans (by omega) line_ge))⟩
  · exact q'.elim
theorem vi_rng2 {tg a b : Expr} {ts : List RE} {p pos : Pos} (hg : Gl X "range") (hm : X.mg "range" = none) (ha : VA X en [a, b] ts) (hs : starEach [a, b] X.env = [(false, eval a X.env), (false, eval b X.env)] := by rfl) (hs2 : starEach [b] X.env = [(false, eval b X.env)] := by rfl) : VI X en tg (.Call (.Name "range" p) [a, b] [] pos) (iRng2 ts) := PI.imp (pi_range2 hg hm ha.1 hs hs2) fun σ H R h => by
  obtain ⟨τ, S, R0, hs, ho, q, k⟩ := h
  refine args_ok hs ho q fun ds S' vs H' q' g r hz o => ?_
  split at q'
  · rename_i lo n
    simp only [Rps, Rp] at r
    obtain ⟨v, r', rfl, rfl, v2, r2, rfl, rfl, rfl⟩ := r
    exact ⟨lo, n, rfl, ⟨by omega, by omega, by omega, by omega⟩, k _ _ _ _ q'.2 g o (wk_rng (Nat.le_trans (by omega) line_ge))⟩
  · exact q'.elim
/-! ### for -/
def forR (ok : Sto → Prop) (g : RG) (b : RS) (D0 : En) : List D → VS → Sto → Prop
  | [], τ, S => ok S ∧ D0.nx τ S
  | x :: r, τ, S => ok S ∧ g x τ S fun τ1 S1 => b { D0 with nx := fun τ2 S2 => ∃ τ3 S3, VLe τ3 τ2 ∧ Le S3 S2 ∧ forR ok g b D0 r τ3 S3, ct := fun τ2 S2 => ∃ τ3 S3, VLe τ3 τ2 ∧ Le S3 S2 ∧ forR ok g b D0 r τ3 S3, bk := D0.nx } τ1 S1
def sFor (w : RI) (g : RG) (b : RS) : RS := fun D0 τ S => w τ S fun wk S1 => forR wk.ok g b D0 wk.items τ S1
theorem low_for {w : RI} {g : RG} {b : RS} {D : Ends} {σ : L2.St} {H : Hp} (h : lowS X.K en (sFor w g b) D σ H) : tFor (lowI X.K en w) (lowG X.K en g) (lowS X.K en b) D σ H := by
  obtain ⟨τ, S, D0, hs, ho, q, e⟩ := h
  refine ⟨τ, S, _, hs, ho, q, fun wk S1 J H1 q1 g1 o1 wj => ?_⟩
  refine ⟨fun i m σ' H' => ∃ τ' S', m = wk.items.length - i ∧ i ≤ wk.items.length ∧ SR X.K H' τ' σ' ∧ SQ X.K en H' S' ∧ Go S H S' H' ∧ TL H1 H' ∧ forR wk.ok g b D0 (wk.items.drop i) τ' S', ⟨wk.items.length, τ, S1, by simp, Nat.zero_le _, hs.mono g1.tl, o1, g1, TL.refl H1, q1⟩, ?_⟩
  rintro i m σ' H' ⟨τ', S', rfl, hi, hs', ho', g', t', hf⟩
  by_cases hlt : i < wk.items.length
  · rw [List.drop_eq_getElem_cons hlt] at hf
    unfold forR at hf
    obtain ⟨okS, hf⟩ := hf
    refine .inr ⟨wj.go i H' S' t' ho'.so okS hlt, fun σ2 H2 => ∃ τ2 S2, (∃ τ3 S3, VLe τ3 τ2 ∧ Le S3 S2 ∧ forR wk.ok g b D0 (wk.items.drop (i + 1)) τ3 S3) ∧ Go S' H' S2 H2 ∧ SR X.K H2 τ2 σ2 ∧ SQ X.K en H2 S2, fun σ2 H2 n2 => ?_, fun x H2 y => ?_⟩
    · obtain ⟨τ2, S2, ⟨τ3, S3, l1, l2, f2⟩, g2, s2, o2⟩ := n2
      exact ⟨wk.items.length - (i + 1), by omega, τ3, S3, rfl, hlt, s2.vle l1, o2.le l2, g'.trans (g2.le l2), t'.trans g2.tl, f2⟩
    · obtain ⟨gg, oo, rr⟩ := wj.yld i H' S' x H2 _ t' ho'.so okS (List.getElem?_eq_getElem hlt) y
      refine ⟨_, τ', S', _, rr, hs'.mono gg.tl, ho'.go gg oo, hf, fun τ2 S2 σ2 H3 q2 g2 s2 o2 => ?_⟩
      have gg2 := gg.trans g2
      refine ⟨τ2, S2, _, s2, o2, q2, ⟨fun τ3 S3 σ3 H4 q3 g3 s3 o3 => ?_, fun d S3 v H4 q3 g3 r3 o3 => ?_, fun τ3 S3 σ3 H4 q3 g3 s3 o3 => ?_, fun τ3 S3 σ3 H4 q3 g3 s3 o3 => ?_⟩⟩
      · exact ⟨τ3, S3, q3, gg2.trans g3, s3, o3⟩
      · exact e.rt _ _ _ _ q3 (g'.trans (gg2.trans g3)) r3 o3
      · exact e.nx _ _ _ _ q3 (g'.trans (gg2.trans g3)) s3 o3
      · exact ⟨τ3, S3, q3, gg2.trans g3, s3, o3⟩
  · have ei : i = wk.items.length := by omega
    subst ei
    rw [List.drop_length] at hf
    unfold forR at hf
    exact .inl ⟨wj.stop _ H' S' t' ho'.so hf.1 (Nat.le_refl _), e.nx _ _ _ _ hf.2 g' hs' ho'⟩
theorem vs_for {tg iter : Expr} {body : List Stmt} {w : RI} {g : RG} {b : RS} {pos : Pos} (hp : PassesOwn (model X.prog X.w) X.A X.env X.xe) (hc : X.calm = true) (hi : VI X en tg iter w) (hg : VG X en tg g) (hb : VSs X en body b) (hs : ∀ x, foldedSetIterable iter X.env x = pure x := by intro _; rfl) : VSt X en (.For tg iter body [] pos) (sFor w g b) :=
  PS.imp (ps_for hp hc hi hg hb hs) fun _ _ _ h => low_for h
/-! ### while -/
def sWhile (c : RT) (b : RS) : RS := fun D0 τ S => ∃ W : Nat → VS → Sto → Prop, (∃ m, W m τ S) ∧ ∀ m τ S, W m τ S → c τ S fun k S1 => if k = true then
  b { D0 with nx := fun τ2 S2 => ∃ m' τ3 S3, m' < m ∧ VLe τ3 τ2 ∧ Le S3 S2 ∧ W m' τ3 S3, ct := fun τ2 S2 => ∃ m' τ3 S3, m' < m ∧ VLe τ3 τ2 ∧ Le S3 S2 ∧ W m' τ3 S3, bk := D0.nx } τ S1 else D0.nx τ S1
theorem vs_while {c : Expr} {body : List Stmt} {tc : RT} {b : RS} {pos : Pos} (hp : PassesOwn (model X.prog X.w) X.A X.env X.xe) (hc : VT X en c tc) (hb : VSs X en body b) : VSt X en (.While c body [] pos) (sWhile tc b) :=
  PS.imp (ps_while hp hc hb) fun D σ H h => by
    obtain ⟨τ, S, D0, hs, ho, ⟨W, ⟨m0, w0⟩, turn⟩, e⟩ := h
    refine ⟨fun m σ' H' => ∃ τ' S', SR X.K H' τ' σ' ∧ SQ X.K en H' S' ∧ Go S H S' H' ∧ W m τ' S', ⟨m0, τ, S, hs, ho, Go.refl S H, w0⟩, ?_⟩
    rintro m σ' H' ⟨τ', S', hs', ho', g', w'⟩
    refine ⟨τ', S', _, hs', ho', turn m τ' S' w', fun k S1 H1 q1 g1 o1 => ?_⟩
    cases k with
    | true =>
      simp only [if_true] at q1 ⊢
      refine ⟨fun σ2 H2 => ∃ τ2 S2, (∃ m' τ3 S3, m' < m ∧ VLe τ3 τ2 ∧ Le S3 S2 ∧ W m' τ3 S3) ∧ Go S H S2 H2 ∧ SR X.K H2 τ2 σ2 ∧ SQ X.K en H2 S2, fun σ2 H2 n2 => ?_, ?_⟩
      · obtain ⟨τ2, S2, ⟨m', τ3, S3, hm, l1, l2, w3⟩, g2, s2, o2⟩ := n2
        exact ⟨m', hm, τ3, S3, s2.vle l1, o2.le l2, g2.le l2, w3⟩
      · refine ⟨τ', S1, _, hs'.mono g1.tl, o1, q1, ⟨fun τ3 S3 σ3 H4 q3 g3 s3 o3 => ?_, fun d S3 v H4 q3 g3 r3 o3 => ?_, fun τ3 S3 σ3 H4 q3 g3 s3 o3 => ?_, fun τ3 S3 σ3 H4 q3 g3 s3 o3 => ?_⟩⟩
        · exact ⟨τ3, S3, q3, g'.trans (g1.trans g3), s3, o3⟩
        · exact e.rt _ _ _ _ q3 (g'.trans (g1.trans g3)) r3 o3
        · exact e.nx _ _ _ _ q3 (g'.trans (g1.trans g3)) s3 o3
        · exact ⟨τ3, S3, q3, g'.trans (g1.trans g3), s3, o3⟩
    | false =>
      simp only [Bool.false_eq_true, if_false] at q1 ⊢
      exact e.nx _ _ _ _ q1 (g'.trans g1) (hs'.mono g1.tl) o1
/-! ### list comprehensions -/
def wipeV (τ : VS) : List Nat → VS
  | [] => τ
  | v :: vs => (wipeV τ vs).set v none
theorem SR.setNone {K : PySem.W.Frag} {H : Hp} {τ : VS} {σ : L2.St} (h : SR K H τ σ) (i : Nat) : SR K H (τ.set i none) (σ.set i none) := by
  refine ⟨by simpa using h.1, fun j e q => ?_⟩
  by_cases hj : i = j
  · subst hj
    rw [List.getElem?_set, if_pos rfl] at q
    split at q
    · cases q
    · cases q
  · rw [List.getElem?_set_ne hj] at q
    obtain ⟨v', a, b⟩ := h.2 j e q
    exact ⟨v', by rw [List.getElem?_set_ne hj]; exact a, b⟩
theorem SR.wipe {K : PySem.W.Frag} {H : Hp} {τ : VS} {σ : L2.St} (h : SR K H τ σ) : ∀ vs : List Nat, SR K H (wipeV τ vs) (wipe σ vs)
  | [] => h
  | v :: vs => (SR.wipe h vs).setNone v
def lcR (ok : Sto → Prop) (g : RG) (tt : RT) (te : RE) (τw : VS) : List D → Sto → (List D → Sto → Prop) → Prop
  | [], S, Q => ok S ∧ Q [] S
  | x :: r, S, Q => ok S ∧ g x τw S fun τ2 S2 => tt τ2 S2 fun b S3 => if b = true then te τ2 S3 fun y S4 => ∃ S5, Le S5 S4 ∧ lcR ok g tt te τw r S5 fun ys S6 => Q (y :: ys) S6 else lcR ok g tt te τw r S3 Q
def eLc (w : RI) (g : RG) (tt : RT) (te : RE) (vs : List Nat) : RE := fun τ S Q => w τ S fun wk S1 => lcR wk.ok g tt te (wipeV τ vs) wk.items S1 fun ds S2 => ∀ p, S2 p = none → Q (.ref p) (put S2 p (.lst ds))
end
end VL
/-! VL4: comprehensions, calls of defs, the rule for a def. -/
namespace VL
open PySem PySem.Spec PyProof.Rows L2
theorem SO.other {K : PySem.W.Frag} {H : Hp} {S : Sto} (h : SO K H S) {p : Addr} {w u : HO} (e : H p = some w) (m : IsMut w) (n : S p = none) : SO K (upd H p u) S := fun a o q => by
  have ha : a ≠ p := by rintro rfl; rw [n] at q; cases q
  obtain ⟨v, z, r⟩ := h a o q
  exact ⟨v, by rw [upd_ne ha]; exact z, r.mono (TL.mut e m)⟩
/-! ### the targets of comprehensions: a name, a tuple of names -/
inductive Tg where
  | nm (i : Nat) | tp (is : List Nat)
def Tg.is : Tg → List Nat
  | .nm i => [i]
  | .tp is => is
def Tg.R : Tg → RG
  | .nm i => gName i
  | .tp is => gTupN is.length (is.map gName)
def gsL : List Nat → TGs
  | [] => L2.gNil
  | i :: r => L2.gCons (L2.gName i) (gsL r)
def Tg.L (K : PySem.W.Frag) : Tg → TG
  | .nm i => L2.gName i
  | .tp is => L2.gTup K is.length (gsL is)
theorem wipe_get (σ : L2.St) : ∀ (vs : List Nat) (j : Nat), (wipe σ vs)[j]? = if j ∈ vs then (σ[j]?).map (fun _ => none) else σ[j]?
  | [], j => by simp [wipe]
  | v :: vs, j => by
    unfold wipe
    rw [List.getElem?_set]
    by_cases h : v = j
    · subst h
      rw [if_pos rfl, if_pos (List.mem_cons_self), wipe_length]
      by_cases hl : v < σ.length
      · rw [if_pos hl, List.getElem?_eq_getElem hl]; rfl
      · rw [if_neg hl, List.getElem?_eq_none (by omega)]; rfl
    · rw [if_neg h, wipe_get σ vs j]
      by_cases hj : j ∈ vs
      · rw [if_pos hj, if_pos (List.mem_cons_of_mem _ hj)]
      · rw [if_neg hj, if_neg (by intro z; rcases List.mem_cons.mp z with z | z; exact h z.symm; exact hj z)]
theorem wipe_set {σ : L2.St} {vs : List Nat} {i : Nat} {x : Option V} (h : i ∈ vs) : wipe (σ.set i x) vs = wipe σ vs := by
  apply List.ext_getElem?
  intro j
  rw [wipe_get, wipe_get]
  by_cases hj : j ∈ vs
  · rw [if_pos hj, if_pos hj, List.getElem?_set]
    by_cases e : i = j
    · subst e
      rw [if_pos rfl]
      by_cases hl : i < σ.length
      · rw [if_pos hl, List.getElem?_eq_getElem hl] <;> rfl
      · rw [if_neg hl, List.getElem?_eq_none (by omega)] <;> rfl
    · rw [if_neg e]
  · rw [if_neg hj, if_neg hj, List.getElem?_set_ne (by rintro rfl; exact hj h)]
theorem wipe_wipe {σ : L2.St} {vs : List Nat} : wipe (wipe σ vs) vs = wipe σ vs := by
  apply List.ext_getElem?
  intro j
  rw [wipe_get, wipe_get]
  by_cases hj : j ∈ vs
  · rw [if_pos hj, if_pos hj]; cases σ[j]? <;> rfl
  · rw [if_neg hj, if_neg hj]
theorem gsL_ok {K : PySem.W.Frag} {H : Hp} {S : Sto} {Q0 : VS → Sto → Prop} {R : L2.St → Hp → Prop} {ws : List Nat} : ∀ {is : List Nat} {xs : List D} {vs : List V} {τ : VS} {σ : L2.St}, (∀ i ∈ is, i ∈ ws) → Rps K H xs vs → SR K H τ σ → gAll (is.map gName) xs τ S Q0 →
    (∀ τ2 σ2, Q0 τ2 S → SR K H τ2 σ2 → wipe σ2 ws = wipe σ ws → R σ2 H) → gsL is vs σ H R
  | [], [], vs, τ, σ, _, r, hs, h, k => by
    simp only [Rps] at r
    exact ⟨r, k _ _ h hs rfl⟩
  | i :: is, x :: xs, vs, τ, σ, hw, r, hs, h, k => by
    simp only [Rps] at r
    obtain ⟨v, w, rfl, r1, r2⟩ := r
    refine ⟨v, w, rfl, ?_⟩
    refine gsL_ok (σ := σ.set i (some v)) (fun j hj => hw j (List.mem_cons_of_mem _ hj)) r2 (hs.set r1 i) h fun τ2 σ2 q s2 e2 => k _ _ q s2 (e2.trans (wipe_set (hw i List.mem_cons_self)))
  | [], _ :: _, _, _, _, _, _, _, h, _ => h.elim
  | _ :: _, [], _, _, _, _, _, _, h, _ => h.elim
theorem Tg.ok {K : PySem.W.Frag} {H : Hp} {S : Sto} {Q0 : VS → Sto → Prop} {R : L2.St → Hp → Prop} {ws : List Nat} {t : Tg} {d : D} {v : V} {τ : VS} {σ : L2.St} (hw : ∀ i ∈ t.is, i ∈ ws) (r : Rp K H d v) (hs : SR K H τ σ) (h : t.R d τ S Q0)
    (k : ∀ τ2 σ2, Q0 τ2 S → SR K H τ2 σ2 → wipe σ2 ws = wipe σ ws → R σ2 H) : t.L K v σ H R := by
  cases t with
  | nm i => exact k _ _ h (hs.set r i) (wipe_set (hw i List.mem_cons_self))
  | tp is =>
    cases d with
    | tup xs =>
      simp only [Rp] at r
      obtain ⟨a, vs, rfl, hq, hz, rs⟩ := r
      exact ⟨a, vs, rfl, SqT.of hq, by rw [← rs.length]; exact h.1, gsL_ok hw rs hs h.2 k⟩
    | _ => exact h.elim
section
variable {X : Cx} {en : Ent}
theorem low_lc {w : RI} {t : Tg} {tt : RT} {te : RE} {vs : List Nat} {τ : VS} {S : Sto} {σ : L2.St} {H : Hp} {K1 : List D → Sto → Prop} {R : VK} (hs : SR X.K H τ σ) (ho : SQ X.K en H S) (hm : ∀ i ∈ t.is, i ∈ vs)
    (q : w τ S fun wk S1 => lcR wk.ok t.R tt te (wipeV τ vs) wk.items S1 K1)
    (k : ∀ ds S2 p ws H', K1 ds S2 → S2 p = none → H' p = some (.lst ws) → ws.length ≤ sizeLine → Rps X.K H' ds ws → Go S H S2 H' → (∀ o, Go S H (put S2 p o) H') → SQ X.K en H' S2 → R (.ref p) H') :
    tLc (lowI X.K en w) (t.L X.K) (lowT X.K en tt) (lowE X.K en te) vs σ H R := by
  refine ⟨τ, S, _, hs, ho, q, fun wk S1 J H1 q1 g1 o1 wj => ?_⟩
  intro L hL
  have hLS : ∀ o, H L = some o → S L = none → False := fun o e n => by
    have := (g1.fr L o e n).2
    rw [hL] at this; cases this
  have s1L : S1 L = none := o1.nope hL
  refine ⟨fun i m H' => ∃ S' acc ws K2, m = wk.items.length - i ∧ i ≤ wk.items.length ∧ SQ X.K en H' S' ∧ S' L = none ∧ Go S H S' H' ∧ TL H1 H' ∧ H' L = some (.lst ws) ∧ ws.length ≤ i ∧ Rps X.K H' acc ws ∧
    lcR wk.ok t.R tt te (wipeV τ vs) (wk.items.drop i) S' K2 ∧ ∀ ys S6, K2 ys S6 → K1 (acc ++ ys) S6, ⟨wk.items.length, S1, [], [], K1, by simp, Nat.zero_le _, ?_, s1L, g1.trans (Go.new' hL), TL.new hL, upd_same, Nat.le_refl _, Rps.nil, q1, fun ys S6 z => z⟩, ?_⟩
  · exact o1.go (Go.new' hL) (o1.so.new' hL)
  rintro i m H' ⟨S', acc, ws, K2, rfl, hi, o', sL, g', t', eL, zL, rL, hf, hk⟩
  by_cases hlt : i < wk.items.length
  · rw [List.drop_eq_getElem_cons hlt] at hf
    unfold lcR at hf
    obtain ⟨okS, hf⟩ := hf
    refine .inr ⟨wj.go i H' S' t' o'.so okS hlt, fun H2 => ∃ S2 acc2 ws2 K3, SQ X.K en H2 S2 ∧ S2 L = none ∧ Go S H S2 H2 ∧ TL H1 H2 ∧ H2 L = some (.lst ws2) ∧ ws2.length ≤ i + 1 ∧ Rps X.K H2 acc2 ws2 ∧
      lcR wk.ok t.R tt te (wipeV τ vs) (wk.items.drop (i + 1)) S2 K3 ∧ ∀ ys S6, K3 ys S6 → K1 (acc2 ++ ys) S6, fun H2 n2 => ?_, fun x H2 y => ?_⟩
    · obtain ⟨S2, acc2, ws2, K3, r⟩ := n2
      exact ⟨wk.items.length - (i + 1), by omega, S2, acc2, ws2, K3, rfl, hlt, r⟩
    · obtain ⟨gg, oo, rr⟩ := wj.yld i H' S' x H2 _ t' o'.so okS (List.getElem?_eq_getElem hlt) y
      have o2 : SQ X.K en H2 S' := o'.go gg oo
      have hsw : SR X.K H2 (wipeV τ vs) (wipe σ vs) := (hs.wipe vs).mono ((g'.trans gg).tl)
      refine Tg.ok hm rr hsw hf fun τ2 σ2 q2 s2 e2 => ⟨e2.trans wipe_wipe, ?_⟩
      refine ⟨τ2, S', _, s2, o2, q2, fun b S3 H3 q3 g3 o3 => ?_⟩
      have g03 := gg.trans g3
      have f3 := g03.fr L _ eL sL
      cases b with
      | true =>
        simp only [if_true] at q3 ⊢
        refine ⟨τ2, S3, _, s2.mono g3.tl, o3, q3, fun d S4 v H4 q4 g4 r4 o4 => ?_⟩
        obtain ⟨S5, l5, q5⟩ := q4
        have f4 := g4.fr L _ f3.2 f3.1
        have gall : Go S' H' S4 H4 := g03.trans g4
        have tl4 : TL H4 (upd H4 L (.lst (ws ++ [v]))) := TL.mut f4.2 trivial
        have go4 : Go S H S5 (upd H4 L (.lst (ws ++ [v]))) := ⟨((g'.trans gall).tl).trans tl4, fun a o ha n => by
          have z := (g'.trans gall).fr a o ha n
          have : a ≠ L := by rintro rfl; exact hLS o ha n
          exact ⟨l5.nope z.1, by rw [upd_ne this]; exact z.2⟩⟩
        refine ⟨ws, f4.2, Nat.lt_of_le_of_lt zL (Nat.lt_of_lt_of_le hlt wj.len), S5, acc ++ [d], ws ++ [v], _, ⟨(o4.so.other f4.2 trivial f4.1).le l5, ?_⟩, l5.nope f4.1, go4, (t'.trans gall.tl).trans tl4, upd_same, ?_, ?_, q5, fun ys S6 z => ?_⟩
        · have z : Go en.S en.H S H := ho.en
          exact z.trans go4
        · rw [List.length_append, List.length_singleton]; omega
        · exact (Rps.mono (gall.tl.trans tl4) _ _ rL).append (Rps.one (Rp.mono tl4 _ _ r4))
        · have := hk (d :: ys) S6 z
          rw [List.append_assoc]; exact this
      | false =>
        simp only [Bool.false_eq_true, if_false] at q3 ⊢
        exact ⟨S3, acc, ws, K2, o3, f3.1, g'.trans g03, t'.trans g03.tl, f3.2, Nat.le_succ_of_le zL, Rps.mono g03.tl _ _ rL, q3, hk⟩
  · have ei : i = wk.items.length := by omega
    subst ei
    rw [List.drop_length] at hf
    unfold lcR at hf
    refine .inl ⟨wj.stop _ H' S' t' o'.so hf.1 (Nat.le_refl _), ?_⟩
    have hq := hk [] S' hf.2
    rw [List.append_nil] at hq
    refine k acc S' L ws H' hq sL eL (Nat.le_trans zL wj.len) rL g' (fun o => ⟨g'.tl, fun a ob ha n => ?_⟩) o'
    have z := g'.fr a ob ha n
    have : a ≠ L := by rintro rfl; exact hLS ob ha n
    exact ⟨by rw [put_ne this]; exact z.1, z.2⟩
/-- the tests of a clause -/
def VTs (X : Cx) (en : Ent) (ifs : List Expr) (t : RT) : Prop := PTs X ifs (lowT X.K en t)
def tYes : RT := fun _ S Q => Q true S
theorem PTs.imp {ifs : List Expr} {t1 t2 : TT} (p : PTs X ifs t1) (h : ∀ σ H Q, t2 σ H Q → t1 σ H Q) : PTs X ifs t2 := ⟨fun pins s σ H Q I q => p.run pins s σ H Q I (h σ H Q q)⟩
theorem vts_nil : VTs X en [] tYes := PTs.imp pts_nil fun σ H Q h => by
  obtain ⟨τ, S, Q0, hs, ho, q, k⟩ := h
  exact k _ _ _ q (Go.refl S H) ho
theorem vts_one {c : Expr} {t : RT} (h : VT X en c t) : VTs X en [c] t := pts_one h
structure LcOk (X : Cx) (en : Ent) (elt tg : Expr) (ifs : List Expr) (scope : Scope) (t : Tg) (tt : RT) (te : RE) : Prop where
  g : ∀ (s : Shared) (H : Hp) (C : Addr) (cl : List (Str × Addr)) (fp : List Addr), PG (X.blk s H scope (compEnvC scope cl C X.env) fp) tg (t.L X.K)
  t : ∀ (s : Shared) (H : Hp) (C : Addr) (cl : List (Str × Addr)) (fp : List Addr), PTs (X.blk s H scope (compEnvC scope cl C X.env) fp) ifs (lowT X.K en tt)
  e : ∀ (s : Shared) (H : Hp) (C : Addr) (cl : List (Str × Addr)) (fp : List Addr), PE (X.blk s H scope (compEnvC scope cl C X.env) fp) elt (lowE X.K en te)
theorem ve_lc {elt tg iter : Expr} {ifs : List Expr} {scope : Scope} {own : List (Str × Nat)} {pos : Pos} {w : RI} {t : Tg} {tt : RT} {te : RE} (hc : X.calm = true) (hN : X.N.Nodup) (hi : VI X en tg iter w) (ok : BlkOk X.N X.env.scope scope own)
    (lk : LcOk X en elt tg ifs scope t tt te) (hm : ∀ i ∈ t.is, i ∈ own.map (·.2)) (hs : ∀ x, foldedSetIterable iter X.env x = pure x := by intro _; rfl) :
    VE X en (.ListComp elt [⟨tg, iter, ifs, 0⟩] scope pos) (eLc w t.R tt te (own.map (·.2))) :=
  PE.imp (pe_lc hc hN hi ok lk.g lk.t lk.e hs) fun σ H Q h => by
    obtain ⟨τ, S, Q0, hs, ho, q, k⟩ := h
    exact low_lc hs ho hm q fun ds S2 p ws H' z n e zl r g gp o => k _ _ _ _ (z p n) (gp _) (by simp only [Rp]) ⟨fun a o' ha => by
      by_cases h : a = p
      · subst h; rw [put_same] at ha; cases ha; exact ⟨_, e, ws, rfl, zl, r⟩
      · rw [put_ne h] at ha; exact o.so a o' ha, by
          have := ho.en
          exact this.trans (gp _)⟩
/-- x = [..] on one line, x a local -/
theorem vs_setLc {i : Nat} {y : Str} {py : Pos} {elt tg iter : Expr} {ifs : List Expr} {scope : Scope} {own : List (Str × Nat)} {pos spos : Pos} {w : RI} {t : Tg} {tt : RT} {te : RE} (hc : X.calm = true) (hN : X.N.Nodup) (hy : X.N[i]? = some y) (hyl : X.env.scope.names.lookup y = some .local)
    (hsw : swapsWith (.ListComp elt [⟨tg, iter, ifs, 0⟩] scope pos) (some (.Name y py)) spos.line X.env = pure true) (hi : VI X en tg iter w) (ok : BlkOk X.N X.env.scope scope own)
    (lk : LcOk X en elt tg ifs scope t tt te) (hm : ∀ i ∈ t.is, i ∈ own.map (·.2)) (hs : ∀ x, foldedSetIterable iter X.env x = pure x := by intro _; rfl) :
    VSt X en (.Assign [.Name y py] (.ListComp elt [⟨tg, iter, ifs, 0⟩] scope pos) spos) (sAsg (eLc w t.R tt te (own.map (·.2))) (gName i)) :=
  PS.imp (ps_setLc hc hN hy hyl hsw hi ok lk.g lk.t lk.e hs) fun D σ H h => by
    obtain ⟨τ, S, D0, hs, ho, q, e⟩ := h
    refine low_lc hs ho hm q fun ds S2 p ws H' z n e' zl r g gp o => e.nx _ _ _ _ (z p n) (gp _) ((hs.mono g.tl).set (by simp only [Rp]) i) ⟨fun a o' ha => by
      by_cases h : a = p
      · subst h; rw [put_same] at ha; cases ha; exact ⟨_, e', ws, rfl, zl, r⟩
      · rw [put_ne h] at ha; exact o.so a o' ha, ho.en.trans (gp _)⟩
/-- a built-in called with one new list -/
def CaL (K : PySem.W.Frag) (f : List D → Sto → KE → Prop) (r : List V → Hp → VK → Prop) : Prop := ∀ (H : Hp) (S : Sto) (p : Addr) (xs : List D) (us : List V) (Q : KE) (R : VK), SO K H S → H p = some (.lst us) → us.length ≤ sizeLine → Rps K H xs us → f xs S Q →
  (∀ d S' z H', Q d S' → Go S H S' H' → Rp K H' d z → SO K H' S' → R z H') → r [.ref p] H R
def eLcF (f : List D → Sto → KE → Prop) (w : RI) (t : Tg) (tt : RT) (te : RE) (vs : List Nat) : RE := fun τ S Q => w τ S fun wk S1 => lcR wk.ok t.R tt te (wipeV τ vs) wk.items S1 fun ds S2 => f ds S2 Q
theorem low_lcF {f : List D → Sto → KE → Prop} {r : List V → Hp → VK → Prop} {w : RI} {t : Tg} {tt : RT} {te : RE} {vs : List Nat} {σ : L2.St} {H : Hp} {Q : VK} (hf : CaL X.K f r) (hm : ∀ i ∈ t.is, i ∈ vs) (h : lowE X.K en (eLcF f w t tt te vs) σ H Q) :
    tCB r (tCons (tLc (lowI X.K en w) (t.L X.K) (lowT X.K en tt) (lowE X.K en te) vs) tNil) σ H Q := by
  obtain ⟨τ, S, Q0, hs, ho, q, k⟩ := h
  show tLc (lowI X.K en w) (t.L X.K) (lowT X.K en tt) (lowE X.K en te) vs σ H fun x H1 => r [x] H1 Q
  refine low_lc hs ho hm q fun ds S2 p ws H' z n e zl r g gp o => ?_
  exact hf H' S2 p ds ws Q0 Q o.so e zl r z fun d S' x H2 q2 g2 r2 o2 => k d S' x H2 q2 (g.trans g2) r2 (o.go g2 o2)
theorem ve_callTyL {x : Str} {T : String} {f : List D → Sto → KE → Prop} {r : List V → Hp → VK → Prop} {elt tg iter : Expr} {ifs : List Expr} {scope : Scope} {own : List (Str × Nat)} {p pos cpos : Pos} {w : RI} {t : Tg} {tt : RT} {te : RE} (hcr : CallR X (.type T) r) (hf : CaL X.K f r) (hg : Gl X x) (hmx : X.mg x = none) (hv : bootBuiltins x = some (.type T))
    (hc : X.calm = true) (hN : X.N.Nodup) (hi : VI X en tg iter w) (ok : BlkOk X.N X.env.scope scope own) (lk : LcOk X en elt tg ifs scope t tt te) (hm : ∀ i ∈ t.is, i ∈ own.map (·.2)) (hs : ∀ x, foldedSetIterable iter X.env x = pure x := by intro _; rfl) (hn : x ≠ "__name__" := by decide) (hdb : (x == ("__debug__" : Str)) = false := by decide) :
    VE X en (.Call (.Name x p) [.ListComp elt [⟨tg, iter, ifs, 0⟩] scope cpos] [] pos) (eLcF f w t tt te (own.map (·.2))) :=
  PE.imp (pe_callTy hcr hg hmx hv (pa_cons (pe_lc hc hN hi ok lk.g lk.t lk.e hs) pa_nil) hn hdb) fun σ H Q h => low_lcF hf hm h
theorem ve_callBL {x : Str} {id : String} {f : List D → Sto → KE → Prop} {r : List V → Hp → VK → Prop} {elt tg iter : Expr} {ifs : List Expr} {scope : Scope} {own : List (Str × Nat)} {p pos cpos : Pos} {w : RI} {t : Tg} {tt : RT} {te : RE} (hcr : CallR X (.builtin id) r) (hf : CaL X.K f r) (hg : Gl X x) (hmx : X.mg x = none) (hv : bootBuiltins x = some (.builtin id))
    (hc : X.calm = true) (hN : X.N.Nodup) (hi : VI X en tg iter w) (ok : BlkOk X.N X.env.scope scope own) (lk : LcOk X en elt tg ifs scope t tt te) (hm : ∀ i ∈ t.is, i ∈ own.map (·.2)) (hs : ∀ x, foldedSetIterable iter X.env x = pure x := by intro _; rfl) (hn : x ≠ "__name__" := by decide) (hdb : (x == ("__debug__" : Str)) = false := by decide) :
    VE X en (.Call (.Name x p) [.ListComp elt [⟨tg, iter, ifs, 0⟩] scope cpos] [] pos) (eLcF f w t tt te (own.map (·.2))) :=
  PE.imp (pe_callB hcr hg hmx hv (pa_cons (pe_lc hc hN hi ok lk.g lk.t lk.e hs) pa_nil) hn hdb) fun σ H Q h => low_lcF hf hm h
/-! ### calls of defs -/
abbrev SpV := List D → Sto → KE → XC → Prop
/-- what is wanted of an exception, at both levels -/
def XI (K : PySem.W.Frag) (S : Sto) (H : Hp) (E0 : XC) (E : XK) : Prop := ∀ c d S' dd v H', E0 c d S' → Go S H S' H' → H' dd = some (.xd [("value", v)]) → Rp K H' d v → SO K H' S' → E c (some dd) H'
def lowSp (K : PySem.W.Frag) (sp : SpV) : Sp := fun vs H Q E => ∃ ds S Q0 E0, Rps K H ds vs ∧ SO K H S ∧ sp ds S Q0 E0 ∧ (∀ d S' v H', Q0 d S' → Go S H S' H' → Rp K H' d v → SO K H' S' → Q v H') ∧ XI K S H E0 E
def eCall (sp : SpV) (E0 : XC) (ts : List RE) : RE := fun τ S Q => eArgs ts τ S fun ds S1 => sp ds S1 Q E0
abbrev E0n : XC := fun _ _ _ => False
/-- from the entry on: E0 tells what E wants -/
def XE0 (K : PySem.W.Frag) (en : Ent) (E0 : XC) (E : XK) : Prop := XI K en.S en.H E0 E
theorem XE0.at {K : PySem.W.Frag} {en : Ent} {E0 : XC} {E : XK} {S : Sto} {H : Hp} (x : XE0 K en E0 E) (q : SQ K en H S) : XI K S H E0 E := fun c d S' dd v H' e g h r o => x c d S' dd v H' e (q.en.trans g) h r o
theorem XE0.no {K : PySem.W.Frag} {en : Ent} {E : XK} : XE0 K en E0n E := fun _ _ _ _ _ _ h => h.elim
theorem low_call {sp : SpV} {E0 : XC} {E : XK} {ts : List RE} {σ : L2.St} {H : Hp} {Q : VK} (hx : XE0 X.K en E0 E) (h : lowE X.K en (eCall sp E0 ts) σ H Q) : tCall (lowSp X.K sp) [] E (tAs (ts.map (lowE X.K en))) σ H Q := by
  obtain ⟨τ, S, Q0, hs, ho, q, k⟩ := h
  refine args_ok hs ho q fun ds S' vs H' q g r hz o => ?_
  rw [List.append_nil]
  exact ⟨ds, S', Q0, E0, r, o.so, q, fun d S2 v H2 q2 g2 r2 o2 => k d S2 v H2 q2 (g.trans g2) r2 (o.go g2 o2), hx.at o⟩
theorem ve_call {CX : CXT} {k : Nat} {f : Addr} {fd : FuncData} {ps : List Str} {sp : SpV} {E0 : XC} {E : XK} {x : Str} {e : Expr} {es : List Expr} {ts : List RE} {p pos : Pos} (F : FnOk X.prog X.w X.K X.mg X.base CX k f fd ps (lowSp X.K sp)) (hr : Room k X.A) (hg : Gl X x) (hm : X.mg x = some (.ref f)) (hk : PySem.W.keepIn X.K (.ref f) = true) (hb : Binds X.K fd ps []) (hx : Passes CX X E) (h0 : XE0 X.K en E0 E)
    (ha : VA X en (e :: es) ts) (hdb : (x == ("__debug__" : Str)) = false := by decide) (he : starEach (e :: es) X.env = (false, eval e X.env) :: starEach es X.env := by rfl) (hpl : (backTo pos (starEach es X.env)).any (·.1) = false := by rfl) :
    VE X en (.Call (.Name x p) (e :: es) [] pos) (eCall sp E0 ts) := PE.imp (pe_call F hr hg hm hk hb .nil hx ha.1 hdb he hpl) fun σ H Q h => low_call h0 h
/-- by keywords: gV puts the values in the parameters' order -/
def eCallK (sp : SpV) (gD : List D → List D → List D) (E0 : XC) (ts tks : List RE) : RE := fun τ S Q => eArgs ts τ S fun ds S1 => eArgs tks τ S1 fun es S2 => sp (gD ds es) S2 Q E0
def VK' (X : Cx) (en : Ent) (kws : List Keyword) (ts : List RE) : Prop := PK X kws (tAs (ts.map (lowE X.K en)))
theorem vk_nil : VK' X en [] [] := pk_nil
theorem vk_cons {e : Expr} {nm : Option Str} {kpos : Pos} {kws : List Keyword} {t : RE} {ts : List RE} (he : VE X en e t) (hr : VK' X en kws ts) : VK' X en (⟨nm, e, kpos⟩ :: kws) (t :: ts) := pk_cons he hr
theorem ve_callK {CX : CXT} {k : Nat} {f : Addr} {fd : FuncData} {ps ks : List Str} {g : List Value → List Value → List Value} {gV : List V → List V → List V} {gD : List D → List D → List D} {sp : SpV} {E0 : XC} {E : XK} {x : Str} {e : Expr} {es : List Expr} {kws : List Keyword} {ts tks : List RE} {p pos : Pos} (F : FnOk X.prog X.w X.K X.mg X.base CX k f fd ps (lowSp X.K sp)) (hr : Room k X.A) (hg : Gl X x) (hm : X.mg x = some (.ref f)) (hk : PySem.W.keepIn X.K (.ref f) = true) (hb : KBinds X.K fd ps ks g gV) (hx : Passes CX X E) (h0 : XE0 X.K en E0 E)
    (hgD : ∀ (H : Hp) ds es us ws, Rps X.K H ds us → Rps X.K H es ws → Rps X.K H (gD ds es) (gV us ws))
    (ha : VA X en (e :: es) ts) (hkw : VK' X en kws tks) (hall : (backToKw pos (keywordEach kws X.env)).all (·.1.isSome) = true := by rfl) (hks : (backToKw pos (keywordEach kws X.env)).filterMap (·.1) = ks := by rfl)
    (hdb : (x == ("__debug__" : Str)) = false := by decide) (he : starEach (e :: es) X.env = (false, eval e X.env) :: starEach es X.env := by rfl)
    (hpl : ((backTo pos (starEach (e :: es) X.env)).any (·.1) || (backToKw pos (keywordEach kws X.env)).any (·.1.isNone)) = false := by rfl) :
    VE X en (.Call (.Name x p) (e :: es) kws pos) (eCallK sp gD E0 ts tks) := PE.imp (pe_callK F hr hg hm hk hb hx ha.1 hkw hall hks hdb he hpl) fun σ H Q h => by
  obtain ⟨τ, S, Q0, hs, ho, q, k⟩ := h
  refine args_ok hs ho q fun ds S1 vs H1 q1 g1 r1 hz1 o1 => ?_
  refine args_ok (hs.mono g1.tl) o1 q1 fun es S2 ws H2 q2 g2 r2 hz2 o2 => ?_
  exact ⟨gD ds es, S2, Q0, E0, hgD H2 _ _ _ _ (Rps.mono g2.tl _ _ r1) r2, o2.so, q2, fun d S3 v H3 q3 g3 r3 o3 => k d S3 v H3 q3 ((g1.trans g2).trans g3) r3 (o2.go g3 o3), h0.at o2⟩
end
/-! ### the rule for a def -/
def startV (N : List Str) (ds : List D) : VS := ds.map some ++ List.replicate (N.length - ds.length) none
theorem sr_start {K : PySem.W.Frag} {H : Hp} {N : List Str} {ds : List D} {vs : List V} (r : Rps K H ds vs) : SR K H (startV N ds) (L2.start N vs) := by
  have hl := r.length
  refine ⟨by simp [startV, L2.start, hl], fun i d e => ?_⟩
  unfold startV at e
  by_cases hi : i < ds.length
  · rw [List.getElem?_append_left (by simpa using hi), List.getElem?_map] at e
    cases q : ds[i]? with
    | none => rw [q] at e; cases e
    | some d' =>
      rw [q] at e
      have : d' = d := Option.some.inj (Option.some.inj e)
      subst this
      obtain ⟨v, h1, h2⟩ := r.get q
      refine ⟨v, ?_, h2⟩
      unfold L2.start
      rw [List.getElem?_append_left (by rw [List.length_map, ← hl]; exact hi), List.getElem?_map, h1]; rfl
  · rw [List.getElem?_append_right (by rw [List.length_map]; omega), List.getElem?_replicate] at e
    split at e <;> cases e
section
variable {P : Program} {w : World} {K : PySem.W.Frag} {mg : Str → Option Value} {base : Heap}
/-- what is wanted of a body whose def promises sp -/
def BodyV (N : List Str) (ds : List D) (S : Sto) (Q : KE) (t : RS) : Prop := t { nx := fun _ S' => ∃ S'', Le S'' S' ∧ Q .non S'', rt := fun d S' => ∃ S'', Le S'' S' ∧ Q d S'' } (startV N ds) S
theorem fnV {x qual : Str} {st : Stmt} {f : Addr} {fd : FuncData} {N ps : List Str} {k : Nat} {sp : SpV} (F : Fun K x qual st f fd) (Sc : FnScope N ps (defScope st)) (len : ∀ ds S Q E, sp ds S Q E → ds.length = ps.length)
    (hbody : ∀ (cdv : Value) (A : Around) (outer : List Env) (s : Shared) (H : Hp) (E : XK) (en : Ent) (E0 : XC), Room k (A.deeper (envOfC qual (defScope st) s.heap.objs.size f cdv)) → XE0 K en E0 E →
      ∃ t : RS, VSs (cxOf CX0 P w K mg base N qual (defScope st) f cdv A outer s H E).nox en (defBody st) t ∧ ∀ ds S Q, sp ds S Q E0 → BodyV N ds S Q t) : FnOk P w K mg base CX0 (k + 1) f fd ps (lowSp K sp) := by
  refine F.ok Sc (fun vs H Q E h => ?_) (fun cdv A outer s H vs Q E hr h => ?_)
  · obtain ⟨ds, S, Q0, E0, r, o, h, _⟩ := h
    rw [← r.length]; exact len _ _ _ _ h
  · obtain ⟨ds, S, Q0, E0, r, o, h, k, hx⟩ := h
    obtain ⟨t, hd, ht⟩ := hbody cdv A outer s H E ⟨S, H⟩ E0 hr hx
    refine ⟨_, hd, startV N ds, S, _, sr_start r, ⟨o, Go.refl S H⟩, ht ds S Q0 h, ⟨fun τ S' σ H' q g r o => ?_, fun d S' v H' q g r o => ?_, fun _ _ _ _ q => q.elim, fun _ _ _ _ q => q.elim⟩⟩
    · obtain ⟨S2, l, q⟩ := q
      exact k _ _ _ _ q (g.le l) (by simp only [Rp]) (o.so.le l)
    · obtain ⟨S2, l, q⟩ := q
      exact k _ _ _ _ q (g.le l) r (o.so.le l)
end
end VL
/-! VL0: a tuple 0 times, once. -/
namespace VL
open PySem PySem.Spec PyProof.Rows L2
theorem once_w {l : Addr} {its : Array Value} {n : Nat} {dd : Option Addr} {sl : Array (Option Value)} {u : Tok} :
    Meets (Builtin.«tuple.__mul__» ⟨[.ref l, .int 1 u], []⟩) (fun _ R s =>
      s.heap.get? l = some ⟨.type "tuple", dd, .seq its n, sl⟩ ∧ R (.ok (.ret (.ref l))) s) :=
  .of_wp fun pr wd A R s h => by
    obtain ⟨hp, g, d, tk, os⟩ := s
    have hl := h.1
    replace h := h.2
    have f1 := AutoSeq1.idx_int
    have f2 : (its.isEmpty || (1 : Int) == 1) = true := by rw [Bool.or_comm]; rfl
    wp_walk using PySem.AutoSeq1.wpAny_loadPart' hl
    exact ⟨_, rfl, h⟩
theorem nought_w {l : Addr} {its : Array Value} {n : Nat} {dd : Option Addr} {sl : Array (Option Value)} {x : Int} {u : Tok} (k0 : (decide (x < -(2 ^ 63)) || decide (x ≥ 2 ^ 63)) = false) (k1 : (its.isEmpty || x == 1) = false) (k2 : (decide (x ≤ 0) || its.isEmpty) = true) :
    Meets (Builtin.«tuple.__mul__» ⟨[.ref l, .int x u], []⟩) (fun _ R s =>
      s.heap.get? l = some ⟨.type "tuple", dd, .seq its n, sl⟩ ∧ R (.ok (.ret (.ref s.heap.objs.size))) { s with heap := s.heap.push ⟨.type "tuple", none, .seq #[] 0, #[]⟩ }) :=
  .of_wp fun pr wd A R s h => by
    obtain ⟨hp, g, d, tk, os⟩ := s
    have hl := h.1
    replace h := h.2
    have f1 := AutoSeq1.idx_int
    wp_walk using PySem.AutoSeq1.wpAny_loadPart' hl
    all_goals repeat (first
      | (refine wpAny_ite_false (decide_eq_false (by rw [k0]; decide)) ?_; wp_walk using PySem.AutoSeq1.wpAny_loadPart' hl)
      | (refine wpAny_ite_false (decide_eq_false (by rw [k1]; decide)) ?_; wp_walk using PySem.AutoSeq1.wpAny_loadPart' hl)
      | (refine wpAny_ite_true (decide_eq_true k2) ?_; wp_walk using PySem.AutoSeq1.wpAny_loadPart' hl))
    all_goals exact ⟨_, rfl, h⟩
/-- a tuple of one at least, up to a thousand times, 0 times and once too -/
def rRepA (K : PySem.W.Frag) : R2 := fun x y H Q => ∃ l k xs, x = .ref l ∧ y = .int k ∧ SqT K H l xs ∧ xs ≠ [] ∧ (-1000 ≤ k ∧ k ≤ 1000 ∧ xs.length ≤ 1000) ∧ (k = 1 → Q (.ref l) H) ∧ (k ≠ 1 → ∀ p, H p = none → Q (.ref p) (upd H p (.tup (List.replicate k.toNat xs).flatten)))
theorem op_repA {X : Cx} : OpR X (binaryOp .Mult) (rRepA X.K) := by
  intro pins s σ H x y v u Q I rx ry h
  obtain ⟨l, k, xs, rfl, rfl, hT, hne, hb, h1, h2⟩ := h
  by_cases hk : 2 ≤ k
  · exact op_repT pins s σ H _ _ v u Q I rx ry ⟨l, k, xs, rfl, rfl, hT, hne, hk, hb.2.1, hb.2.2, h2 (by omega)⟩
  cases rx
  obtain ⟨t, rfl⟩ := ry
  obtain ⟨its, r, ⟨⟨cls, dd, data, sl⟩, ho, hc, n, hd⟩, hs⟩ := I.tuple hT
  simp only at hc hd
  subst hc hd
  have hi : its.toArray.isEmpty = false := by
    cases its with
    | nil => exact absurd (List.eq_nil_of_length_eq_zero r.length) hne
    | cons _ _ => rfl
  by_cases e1 : k = 1
  · subst e1
    refine wpAny_binaryOp_repeat_ref (T := "tuple") (U := "int") (by decide) ⟨_, ho, rfl⟩ (fun s' => typeIs_int s' 1 t) noFill_tuple_mul F.fills_int_mul F.slot_int_rmul repeat_tuple F.slot_int_index.lookup
      (call_meets F.slot_int_rmul (typeIs_int s 1 t) F.entry_int_rmul (F.args_int_rmul_2 _ _) (int_rmul_tuple 1 t l its.toArray n dd sl)
        ⟨ho, rfl, ⟨_, ho, rfl⟩, call_meets F.slot_tuple_mul ⟨_, ho, rfl⟩ F.entry_tuple_mul (F.args_tuple_mul_2 _ _) once_w ⟨ho, ?_⟩⟩)
    exact ⟨.ref l, H, I, rfl, h1 rfl⟩
  · have z : k.toNat = 0 := by omega
    have c0 : (decide (k < -(2 ^ 63)) || decide (k ≥ 2 ^ 63)) = false := by
      rw [decide_eq_false (by omega), decide_eq_false (by omega)] <;> rfl
    have c1 : (its.toArray.isEmpty || k == 1) = false := by
      rw [hi, Bool.false_or]; exact beq_eq_false_iff_ne.mpr e1
    have c2 : (decide (k ≤ 0) || its.toArray.isEmpty) = true := by
      rw [hi, Bool.or_false]; exact decide_eq_true (by omega)
    have q := h2 e1
    rw [z] at q
    refine wpAny_binaryOp_repeat_ref (T := "tuple") (U := "int") (by decide) ⟨_, ho, rfl⟩ (fun s' => typeIs_int s' k t) noFill_tuple_mul F.fills_int_mul F.slot_int_rmul repeat_tuple F.slot_int_index.lookup
      (call_meets F.slot_int_rmul (typeIs_int s k t) F.entry_int_rmul (F.args_int_rmul_2 _ _) (int_rmul_tuple k t l its.toArray n dd sl)
        ⟨ho, rfl, ⟨_, ho, rfl⟩, call_meets F.slot_tuple_mul ⟨_, ho, rfl⟩ F.entry_tuple_mul (F.args_tuple_mul_2 _ _) (nought_w c0 c1 c2) ⟨ho, ?_⟩⟩)
    refine ⟨.ref s.heap.objs.size, _, I.laid (t' := s.toks) (o := .tup []) (fun b ob q => Heap.get?_push_of_some _ q) (Nat.le_refl _) ?_, rfl, q _ (I.hok.fresh (Nat.le_refl _))⟩
    exact ⟨Nat.zero_le _, _, .nil, IsTup.new _ _⟩
end VL
/-! VL5: operators, comparisons, subscripts, built-ins, methods, stores at the value level. -/
namespace VL
open PySem PySem.Spec PyProof.Rows L2
/-! ### small helpers -/
theorem line10 {n : Nat} (h : n ≤ 10000000) : n ≤ sizeLine := Nat.le_trans h line_ge
theorem line10' {n : Nat} (h : n < 10000000) : n < sizeLine := Nat.lt_of_lt_of_le h line_ge
section
variable {K : PySem.W.Frag} {H : Hp} {S : Sto}
theorem ixN_same {α β : Type} {xs : List α} {ys : List β} (h : xs.length = ys.length) (i : Int) : ixN xs.length i = ixN ys.length i := by rw [h]
theorem Rps.atI {ds : List D} {vs : List V} {i : Int} {d : D} (r : Rps K H ds vs) (h : L2.atI ds i = some d) : ∃ v, L2.atI vs i = some v ∧ Rp K H d v := by
  unfold L2.atI at h ⊢
  rw [← r.length]
  cases q : ixN ds.length i with
  | none => rw [q] at h; cases h
  | some j =>
    rw [q] at h
    exact r.get h
theorem SO.lst (o : SO K H S) {a : Addr} {xs : List D} (h : S a = some (.lst xs)) : ∃ vs, H a = some (.lst vs) ∧ vs.length ≤ sizeLine ∧ Rps K H xs vs := by
  obtain ⟨u, e, vs, rfl, z, r⟩ := o a _ h
  exact ⟨vs, e, z, r⟩
theorem SO.dI (o : SO K H S) {a : Addr} {kvs : List (List Int × D)} (h : S a = some (.dI kvs)) : ∃ ws, H a = some (.dT ws) ∧ ws.length ≤ sizeLine ∧ Kv K H (fun k : List Int => k.map (Sum.inl : Int → Key)) kvs ws := by
  obtain ⟨u, e, vs, rfl, z, r⟩ := o a _ h
  exact ⟨vs, e, z, r⟩
theorem key_map (ns : List Int) : (ns.map (Sum.inl : Int → Key)).map kV = ns.map V.int := by
  rw [List.map_map]; rfl
end
/-! ### two-place operators -/
def vAdd : D → D → Sto → KE → Prop
  | .int i, .int j, S, Q => Q (.int (i + j)) S
  | .int i, .bl b, S, Q => Q (.int (i + b2i b)) S
  | .str a, .str b, S, Q => a.length + b.length ≤ 10000000 ∧ Q (.str (a ++ b)) S
  | .tup xs, .tup ys, S, Q => xs.length + ys.length ≤ 10000000 ∧ Q (.tup (xs ++ ys)) S
  | .ref a, .ref b, S, Q => ∃ xs ys, S a = some (.lst xs) ∧ S b = some (.lst ys) ∧ xs.length + ys.length ≤ 10000000 ∧ ∀ p, S p = none → Q (.ref p) (put S p (.lst (xs ++ ys)))
  | _, _, _, _ => False
def rAddAny (K : PySem.W.Frag) : R2 := fun x y H Q => ((rI0 fun i j => .int (i + j)) x y H Q) ∨ ((∃ i k, x = .int i ∧ y = .bl k ∧ Q (.int (i + b2i k)) H) ∨ ((∃ i j, x = .str i ∧ y = .str j ∧ i.length + j.length ≤ sizeLine ∧ Q (.str (i ++ j)) H) ∨ (rCatA K x y H Q ∨ rCat x y H Q)))
theorem op_addAny {X : Cx} : OpR X (binaryOp .Add) (rAddAny X.K) := op_add.or (op_add_ib.or (op_add_str.or (op_catA.or op_cat)))
theorem ov_add {K : PySem.W.Frag} : OpV K vAdd (rAddAny K) := by
  intro H S x y u v Q R o rx ry h k
  unfold vAdd at h
  split at h
  · simp only [Rp] at rx ry; subst rx ry
    exact .inl ⟨_, _, rfl, rfl, k _ _ _ _ h (Go.refl S H) (by simp only [Rp]) o⟩
  · simp only [Rp] at rx ry; subst rx ry
    exact .inr (.inl ⟨_, _, rfl, rfl, k _ _ _ _ h (Go.refl S H) (by simp only [Rp]) o⟩)
  · simp only [Rp] at rx ry; subst rx ry
    exact .inr (.inr (.inl ⟨_, _, rfl, rfl, line10 h.1, k _ _ _ _ h.2 (Go.refl S H) (by simp only [Rp]) o⟩))
  · rename_i xs ys
    simp only [Rp] at rx ry
    obtain ⟨a, vs, rfl, ha, hz, r⟩ := rx
    obtain ⟨b, ws, rfl, hb, hz2, r2⟩ := ry
    have hl1 := r.length
    have hl2 := r2.length
    have hz3 : (vs ++ ws).length ≤ sizeLine := by rw [List.length_append]; exact line10 (by omega)
    have fin : ∀ p H', Go S H S H' → SO K H' S → H' p = some (.tup (vs ++ ws)) → TL H H' → R (.ref p) H' := fun p H' g o' e t =>
      k _ _ _ _ h.2 g (by simp only [Rp]; exact ⟨p, _, rfl, e, hz3, (Rps.mono t _ _ r).append (Rps.mono t _ _ r2)⟩) o'
    refine .inr (.inr (.inr (.inl ⟨a, b, vs, ws, rfl, rfl, SqT.of ha, SqT.of hb, line10 (by omega), ?_⟩)))
    refine ⟨fun e => ?_, fun _ e => ?_, fun _ _ p hp => ?_⟩
    · subst e; exact fin b H (Go.refl S H) o hb (TL.refl H)
    · subst e; exact fin a H (Go.refl S H) o (by rw [List.append_nil]; exact ha) (TL.refl H)
    · exact fin p _ (Go.new' hp) (o.new' hp) upd_same (TL.new hp)
  · rename_i a b
    simp only [Rp] at rx ry; subst rx ry
    obtain ⟨xs, ys, ha, hb, hl, h⟩ := h
    obtain ⟨vs, ea, za, ra⟩ := o.lst ha
    obtain ⟨ws, eb, zb, rb⟩ := o.lst hb
    have hl1 := ra.length
    have hl2 := rb.length
    refine .inr (.inr (.inr (.inr ⟨a, b, vs, ws, rfl, rfl, ea, eb, line10 (by omega), fun p hp => ?_⟩)))
    exact k _ _ _ _ (h p (o.nope hp)) (Go.new hp) (by simp only [Rp]) (o.new hp ⟨_, rfl, by rw [List.length_append]; exact line10 (by omega), (Rps.mono (TL.new hp) _ _ ra).append (Rps.mono (TL.new hp) _ _ rb)⟩)
  · exact h.elim
def vInt (f : Int → Int → Int) (C : Int → Int → Prop) : D → D → Sto → KE → Prop
  | .int i, .int j, S, Q => C i j ∧ Q (.int (f i j)) S
  | _, _, _, _ => False
def vInt0 (f : Int → Int → Int) : D → D → Sto → KE → Prop
  | .int i, .int j, S, Q => Q (.int (f i j)) S
  | _, _, _, _ => False
theorem ov_int {K : PySem.W.Frag} {f : Int → Int → Int} {C : Int → Int → Prop} : OpV K (vInt f C) (rI C fun i j => .int (f i j)) := by
  intro H S x y u v Q R o rx ry h k
  unfold vInt at h
  split at h
  · simp only [Rp] at rx ry; subst rx ry
    exact ⟨_, _, rfl, rfl, h.1, k _ _ _ _ h.2 (Go.refl S H) (by simp only [Rp]) o⟩
  · exact h.elim
theorem ov_int0 {K : PySem.W.Frag} {f : Int → Int → Int} : OpV K (vInt0 f) (rI0 fun i j => .int (f i j)) := by
  intro H S x y u v Q R o rx ry h k
  unfold vInt0 at h
  split at h
  · simp only [Rp] at rx ry; subst rx ry
    exact ⟨_, _, rfl, rfl, k _ _ _ _ h (Go.refl S H) (by simp only [Rp]) o⟩
  · exact h.elim
abbrev vSub := vInt0 fun i j => i - j
/-- % by a number that is not 0; // by one of less than 9000 bits -/
abbrev vMod := vInt (fun i j => i.fmod j) fun _ j => j ≠ 0
def CFd (_ j : Int) : Prop := j ≠ 0 ∧ j.natAbs.log2 < 9000
abbrev vFdiv := vInt (fun i j => i.fdiv j) CFd
theorem op_fdivX {X : Cx} : OpR X (binaryOp .FloorDiv) (rI CFd fun i j => .int (i.fdiv j)) := opI fun _ _ _ _ _ _ _ hc q => floordiv_int hc.1 q (.inl (PyProof.noPylong_of_log2 hc.2))
abbrev vPow := vInt (fun i j => i ^ j.toNat) CPow
/-- * : ints together of at most 2 ^ 27 bits; a list, a tuple some times -/
def vMul : D → D → Sto → KE → Prop
  | .int i, .int j, S, Q => IntMulOk i j ∧ Q (.int (i * j)) S
  | .ref a, .int k, S, Q => ∃ xs, S a = some (.lst xs) ∧ (-1000000 ≤ k ∧ k ≤ 1000000 ∧ xs.length * k.toNat ≤ 10000000) ∧ ∀ p, S p = none → Q (.ref p) (put S p (.lst (List.replicate k.toNat xs).flatten))
  | .tup xs, .int k, S, Q => (xs ≠ [] ∧ -1000 ≤ k ∧ k ≤ 1000 ∧ xs.length ≤ 1000) ∧ Q (.tup (List.replicate k.toNat xs).flatten) S
  | _, _, _, _ => False
theorem op_mulI {X : Cx} : OpR X (binaryOp .Mult) (rI IntMulOk fun i j => .int (i * j)) := opI fun _ _ _ _ _ _ _ hc q => mul_int q hc
def rMulAny (K : PySem.W.Frag) : R2 := fun x y H Q => (rI IntMulOk fun i j => .int (i * j)) x y H Q ∨ (rRep x y H Q ∨ rRepA K x y H Q)
theorem op_mulAny {X : Cx} : OpR X (binaryOp .Mult) (rMulAny X.K) := op_mulI.or (op_rep.or op_repA)
theorem Rps.flat {K : PySem.W.Frag} {H : Hp} {xs : List D} {vs : List V} (r : Rps K H xs vs) : ∀ n : Nat, Rps K H (List.replicate n xs).flatten (List.replicate n vs).flatten
  | 0 => Rps.nil
  | n + 1 => by
    rw [List.replicate_succ, List.replicate_succ, List.flatten_cons, List.flatten_cons]
    exact r.append (Rps.flat r n)
theorem flat_len {α : Type} (xs : List α) : ∀ n : Nat, (List.replicate n xs).flatten.length = n * xs.length
  | 0 => by simp
  | n + 1 => by rw [List.replicate_succ, List.flatten_cons, List.length_append, flat_len xs n, Nat.succ_mul, Nat.add_comm]
theorem ov_mul {K : PySem.W.Frag} : OpV K vMul (rMulAny K) := by
  intro H S x y u v Q R o rx ry h k
  unfold vMul at h
  split at h
  · simp only [Rp] at rx ry; subst rx ry
    exact .inl ⟨_, _, rfl, rfl, h.1, k _ _ _ _ h.2 (Go.refl S H) (by simp only [Rp]) o⟩
  · rename_i a n
    simp only [Rp] at rx ry; subst rx ry
    obtain ⟨xs, ha, hk, h⟩ := h
    obtain ⟨vs, ea, za, ra⟩ := o.lst ha
    have hl := ra.length
    refine .inr (.inl ⟨a, n, vs, rfl, rfl, ea, by omega, by omega, by rw [← hl]; exact line10 hk.2.2, fun p hp => ?_⟩)
    refine k _ _ _ _ (h p (o.nope hp)) (Go.new hp) (by simp only [Rp]) (o.new hp ⟨_, rfl, ?_, (Rps.mono (TL.new hp) _ _ ra).flat _⟩)
    rw [flat_len, Nat.mul_comm, ← hl]; exact line10 hk.2.2
  · rename_i xs n
    simp only [Rp] at rx ry; subst ry
    obtain ⟨a, vs, rfl, ha, hz, r⟩ := rx
    obtain ⟨⟨h0, h1, h2, h3⟩, h⟩ := h
    have hl := r.length
    refine .inr (.inr ⟨a, n, vs, rfl, rfl, SqT.of ha, ?_, ⟨h1, h2, by omega⟩, fun e => ?_, fun _ p hp => ?_⟩)
    · intro e; subst e; apply h0; cases xs with
      | nil => rfl
      | cons _ _ => rw [List.length_cons] at hl; cases hl
    · subst e
      have e2 : (List.replicate (Int.toNat 1) xs).flatten = xs := by show (List.replicate 1 xs).flatten = xs; simp
      rw [e2] at h
      exact k _ _ _ _ h (Go.refl S H) (by simp only [Rp]; exact ⟨a, vs, rfl, ha, hz, r⟩) o
    · have z : (List.replicate n.toNat vs).flatten.length ≤ sizeLine := by
        rw [flat_len, ← hl]
        have e1 : n.toNat ≤ 1000 := by omega
        exact line10 (Nat.le_trans (Nat.mul_le_mul e1 h3) (by decide))
      exact k _ _ _ _ h (Go.new' hp) (by simp only [Rp]; exact ⟨p, _, rfl, upd_same, z, (Rps.mono (TL.new hp) _ _ r).flat _⟩) (o.new' hp)
  · exact h.elim
/-! ### one-place -/
def vNeg : D → Sto → KE → Prop
  | .int i, S, Q => Q (.int (-i)) S
  | _, _, _ => False
theorem uv_neg {K : PySem.W.Frag} : UnV K vNeg (rU fun i => .int (-i)) := by
  intro H S x u Q R o rx h k
  unfold vNeg at h
  split at h
  · simp only [Rp] at rx; subst rx
    exact ⟨_, rfl, k _ _ _ _ h (Go.refl S H) (by simp only [Rp]) o⟩
  · exact h.elim
/-! ### comparisons -/
def vCmp (f : Int → Int → Bool) : D → D → Sto → KE → Prop
  | .int i, .int j, S, Q => Q (.bl (f i j)) S
  | _, _, _, _ => False
theorem ov_cmp {K : PySem.W.Frag} {f : Int → Int → Bool} : OpV K (vCmp f) (rI0 fun i j => .bl (f i j)) := by
  intro H S x y u v Q R o rx ry h k
  unfold vCmp at h
  split at h
  · simp only [Rp] at rx ry; subst rx ry
    exact ⟨_, _, rfl, rfl, k _ _ _ _ h (Go.refl S H) (by simp only [Rp]) o⟩
  · exact h.elim
abbrev vLe := vCmp fun i j => decide (i ≤ j)
abbrev vGt := vCmp fun i j => decide (j < i)
abbrev vGe := vCmp fun i j => decide (j ≤ i)
/-- < of ints, of tuples of ints -/
def vLt : D → D → Sto → KE → Prop
  | .int i, .int j, S, Q => Q (.bl (decide (i < j))) S
  | .tup xs, .tup ys, S, Q => ∃ ns ms : List Int, xs = ns.map .int ∧ ys = ms.map .int ∧ Q (.bl (HT.lexLt ns ms)) S
  | _, _, _, _ => False
theorem op_ltAny {X : Cx} (hu : X.A.units < cLine) : OpR X (compareOp .Lt) (fun x y H Q => (rI0 fun i j => .bl (decide (i < j))) x y H Q ∨ rLtT X.K x y H Q) := op_lt.or (op_ltT hu)
theorem ov_lt {K : PySem.W.Frag} : OpV K vLt (fun x y H Q => (rI0 fun i j => .bl (decide (i < j))) x y H Q ∨ rLtT K x y H Q) := by
  intro H S x y u v Q R o rx ry h k
  unfold vLt at h
  split at h
  · simp only [Rp] at rx ry; subst rx ry
    exact .inl ⟨_, _, rfl, rfl, k _ _ _ _ h (Go.refl S H) (by simp only [Rp]) o⟩
  · simp only [Rp] at rx ry
    obtain ⟨a, vs, rfl, ha, hz, r⟩ := rx
    obtain ⟨b, ws, rfl, hb, hz2, r2⟩ := ry
    obtain ⟨ns, ms, rfl, rfl, h⟩ := h
    rw [r.ints] at ha
    rw [r2.ints] at hb
    exact .inr ⟨a, b, ns, ms, rfl, rfl, SqT.of ha, SqT.of hb, k _ _ _ _ h (Go.refl S H) (by simp only [Rp]) o⟩
  · exact h.elim
/-- data: what a value is, lists by their content -/
inductive Pd (S : Sto) : D → PyData → Prop where
  | non : Pd S .non .none
  | bl (b : Bool) : Pd S (.bl b) (.bool b)
  | int (i : Int) : Pd S (.int i) (.int i)
  | str (x : Str) : Pd S (.str x) (.str x)
  | tup {xs : List D} {ds : List PyData} : List.length xs = ds.length → (∀ (i : Nat) x d, xs[i]? = some x → ds[i]? = some d → Pd S x d) → Pd S (.tup xs) (.tuple ds)
  | lst {a : Addr} {xs : List D} {ds : List PyData} : rdL S a xs → List.length xs = ds.length → (∀ (i : Nat) x d, xs[i]? = some x → ds[i]? = some d → Pd S x d) → Pd S (.ref a) (.list ds)
theorem dpAll_of {K : PySem.W.Frag} {H : Hp} : ∀ {vs : List V} {ds : List PyData}, vs.length = ds.length → (∀ (i : Nat) v d, vs[i]? = some v → ds[i]? = some d → Dp K H v d) → DpAll K H vs ds
  | [], [], _, _ => .nil
  | v :: vs, d :: ds, hl, h => .cons (h 0 v d rfl rfl) (dpAll_of (by simpa using hl) fun i v' d' e1 e2 => h (i + 1) v' d' (by simpa using e1) (by simpa using e2))
  | [], _ :: _, hl, _ => by cases hl
  | _ :: _, [], hl, _ => by cases hl
theorem Pd.dp {K : PySem.W.Frag} {H : Hp} {S : Sto} (o : SO K H S) {x : D} {d : PyData} (h : Pd S x d) : ∀ {v : V}, Rp K H x v → Dp K H v d := by
  induction h with
  | non => intro v r; simp only [Rp] at r; subst r; exact .non
  | bl b => intro v r; simp only [Rp] at r; subst r; exact .bl b
  | int b => intro v r; simp only [Rp] at r; subst r; exact .int b
  | str b => intro v r; simp only [Rp] at r; subst r; exact .str b
  | tup hl hd ih =>
    intro v r
    simp only [Rp] at r
    obtain ⟨a, vs, rfl, ha, hz, r⟩ := r
    refine .tup (SqT.of ha) (dpAll_of (by rw [← r.length]; exact hl) fun i v d e1 e2 => ?_)
    obtain ⟨x, hx, rx⟩ := r.get' e1
    exact ih i x d hx e2 rx
  | lst hr hl hd ih =>
    intro v r
    simp only [Rp] at r
    subst r
    obtain ⟨vs, hq, hz, r⟩ := hr.sq o
    refine .lst hq (dpAll_of (by rw [← r.length]; exact hl) fun i v d e1 e2 => ?_)
    obtain ⟨x, hx, rx⟩ := r.get' e1
    exact ih i x d hx e2 rx
def vEq : D → D → Sto → KE → Prop
  | .int i, .int j, S, Q => Q (.bl (decide (i = j))) S
  | .bl i, .bl j, S, Q => Q (.bl (decide (i = j))) S
  | .str i, .str j, S, Q => Q (.bl (decide (i = j))) S
  | x, y, S, Q => ∃ d e, Pd S x d ∧ Pd S y e ∧ SeqAt.shaped d = true ∧ SeqAt.shaped e = true ∧ Q (.bl (PyData.eqv d e)) S
def vNe : D → D → Sto → KE → Prop
  | .int i, .int j, S, Q => Q (.bl (!decide (i = j))) S
  | .bl i, .bl j, S, Q => Q (.bl (!decide (i = j))) S
  | .str i, .str j, S, Q => Q (.bl (!decide (i = j))) S
  | x, y, S, Q => ∃ d e, Pd S x d ∧ Pd S y e ∧ SeqAt.shaped d = true ∧ SeqAt.shaped e = true ∧ Q (.bl (!PyData.eqv d e)) S
theorem op_eqAny {X : Cx} (hu : X.A.units + 64 < cLine) : OpR X (compareOp .Eq) (fun x y H Q => rEq x y H Q ∨ rEqD X.K x y H Q) := op_eq.or (op_eqD hu)
theorem op_neAny {X : Cx} (hu : X.A.units + 64 < cLine) : OpR X (compareOp .NotEq) (fun x y H Q => rNe x y H Q ∨ rNeD X.K x y H Q) := op_ne.or (op_neD hu)
theorem dec_vint {i j : Int} : decide (V.int i = V.int j) = decide (i = j) := by rw [dec_int]; exact Bool.beq_eq_decide_eq i j
theorem dec_vbl {i j : Bool} : decide (V.bl i = V.bl j) = decide (i = j) := by rw [dec_bl]; cases i <;> cases j <;> rfl
theorem dec_vstr {i j : Str} : decide (V.str i = V.str j) = decide (i = j) := by rw [dec_str]; (rw [Bool.eq_iff_iff]; simp)
theorem ov_eq {K : PySem.W.Frag} : OpV K vEq (fun x y H Q => rEq x y H Q ∨ rEqD K x y H Q) := by
  intro H S x y u v Q R o rx ry h k
  unfold vEq at h
  split at h
  · simp only [Rp] at rx ry; subst rx ry
    exact .inl ⟨rfl, by rw [dec_vint]; exact k _ _ _ _ h (Go.refl S H) (by simp only [Rp]) o⟩
  · simp only [Rp] at rx ry; subst rx ry
    exact .inl ⟨rfl, by rw [dec_vbl]; exact k _ _ _ _ h (Go.refl S H) (by simp only [Rp]) o⟩
  · simp only [Rp] at rx ry; subst rx ry
    exact .inl ⟨rfl, by rw [dec_vstr]; exact k _ _ _ _ h (Go.refl S H) (by simp only [Rp]) o⟩
  · obtain ⟨d, e, p1, p2, s1, s2, h⟩ := h
    exact .inr ⟨d, e, p1.dp o rx, p2.dp o ry, s1, s2, k _ _ _ _ h (Go.refl S H) (by simp only [Rp]) o⟩
theorem ov_ne {K : PySem.W.Frag} : OpV K vNe (fun x y H Q => rNe x y H Q ∨ rNeD K x y H Q) := by
  intro H S x y u v Q R o rx ry h k
  unfold vNe at h
  split at h
  · simp only [Rp] at rx ry; subst rx ry
    exact .inl ⟨rfl, by rw [dec_vint]; exact k _ _ _ _ h (Go.refl S H) (by simp only [Rp]) o⟩
  · simp only [Rp] at rx ry; subst rx ry
    exact .inl ⟨rfl, by rw [dec_vbl]; exact k _ _ _ _ h (Go.refl S H) (by simp only [Rp]) o⟩
  · simp only [Rp] at rx ry; subst rx ry
    exact .inl ⟨rfl, by rw [dec_vstr]; exact k _ _ _ _ h (Go.refl S H) (by simp only [Rp]) o⟩
  · obtain ⟨d, e, p1, p2, s1, s2, h⟩ := h
    exact .inr ⟨d, e, p1.dp o rx, p2.dp o ry, s1, s2, k _ _ _ _ h (Go.refl S H) (by simp only [Rp]) o⟩
/-- is None -/
def isNonD : D → Bool
  | .non => true
  | _ => false
def vIsN : D → D → Sto → KE → Prop
  | .oth _, .non, _, _ => False
  | x, .non, S, Q => Q (.bl (isNonD x)) S
  | _, _, _, _ => False
def vNotN : D → D → Sto → KE → Prop
  | .oth _, .non, _, _ => False
  | x, .non, S, Q => Q (.bl (!isNonD x)) S
  | _, _, _, _ => False
theorem rp_non {K : PySem.W.Frag} {H : Hp} {x : D} {u : V} (r : Rp K H x u) (n : ∀ v, x ≠ .oth v) : decide (u = .non) = isNonD x := by
  cases x with
  | non => simp only [Rp] at r; subst r; rfl
  | bl _ => simp only [Rp] at r; subst r; rfl
  | int _ => simp only [Rp] at r; subst r; rfl
  | str _ => simp only [Rp] at r; subst r; rfl
  | ref _ => simp only [Rp] at r; subst r; rfl
  | oth v => exact absurd rfl (n v)
  | tup _ => simp only [Rp] at r; obtain ⟨a, vs, rfl, _⟩ := r; rfl
  | scr _ => simp only [Rp] at r; obtain ⟨a, rfl, _⟩ := r; rfl
theorem ov_isN {K : PySem.W.Frag} : OpV K vIsN (fun x y H Q => y = .non ∧ Q (.bl (decide (x = .non))) H) := by
  intro H S x y u v Q R o rx ry h k
  unfold vIsN at h
  split at h
  · exact h.elim
  · rename_i n
    simp only [Rp] at ry; subst ry
    exact ⟨rfl, by rw [rp_non rx (fun v e => n v e)]; exact k _ _ _ _ h (Go.refl S H) (by simp only [Rp]) o⟩
  · exact h.elim
theorem ov_notN {K : PySem.W.Frag} : OpV K vNotN (fun x y H Q => y = .non ∧ Q (.bl (!decide (x = .non))) H) := by
  intro H S x y u v Q R o rx ry h k
  unfold vNotN at h
  split at h
  · exact h.elim
  · rename_i n
    simp only [Rp] at ry; subst ry
    exact ⟨rfl, by rw [rp_non rx (fun v e => n v e)]; exact k _ _ _ _ h (Go.refl S H) (by simp only [Rp]) o⟩
  · exact h.elim
/-! ### subscripts -/
def vIx : D → D → Sto → KE → Prop
  | .tup xs, .int i, S, Q => ∃ d, L2.atI xs i = some d ∧ Q d S
  | .ref a, .int i, S, Q => ∃ xs d, rdL S a xs ∧ L2.atI xs i = some d ∧ Q d S
  | .scr ns, .int i, S, Q => ∃ n, L2.atI ns i = some n ∧ Q (.int n) S
  | .str z, .int i, S, Q => ∃ c, z.length ≤ 10000000 ∧ L2.atI z.cps.toList i = some c ∧ Q (.str ⟨#[c]⟩) S
  | _, _, _, _ => False
theorem ov_ix {K : PySem.W.Frag} : OpV K vIx (rIx K) := by
  intro H S x y u v Q R o rx ry h k
  unfold vIx at h
  split at h
  · simp only [Rp] at rx ry; subst ry
    obtain ⟨a, vs, rfl, ha, hz, r⟩ := rx
    obtain ⟨d, hd, h⟩ := h
    obtain ⟨w, hw, rw'⟩ := r.atI hd
    exact .inr (.inl ⟨a, vs, _, w, rfl, rfl, SqT.of ha, hw, k _ _ _ _ h (Go.refl S H) rw' o⟩)
  · simp only [Rp] at rx ry; subst rx ry
    obtain ⟨xs, d, hr, hd, h⟩ := h
    obtain ⟨vs, hq, hz, r⟩ := hr.sq o
    obtain ⟨w, hw, rw'⟩ := r.atI hd
    exact .inl ⟨_, vs, _, w, rfl, rfl, hq, hw, k _ _ _ _ h (Go.refl S H) rw' o⟩
  · rename_i nns ii
    simp only [Rp] at rx ry; subst ry
    obtain ⟨a, rfl, hq, hz⟩ := rx
    obtain ⟨n, hn, h⟩ := h
    have hv : L2.atI (nns.map V.int) ii = some (.int n) := by
      unfold L2.atI at hn ⊢
      rw [List.length_map]
      cases q : ixN nns.length ii with
      | none => rw [q] at hn; cases hn
      | some j =>
        rw [q] at hn
        show (nns.map V.int)[j]? = _
        have hn : nns[j]? = some n := hn
        rw [List.getElem?_map, hn]; rfl
    exact .inl ⟨a, _, _, _, rfl, rfl, hq.sq, hv, k _ _ _ _ h (Go.refl S H) (by simp only [Rp]) o⟩
  · simp only [Rp] at rx ry; subst rx ry
    obtain ⟨c, hz, hc, h⟩ := h
    exact .inr (.inr ⟨_, _, c, rfl, rfl, line10 hz, hc, k _ _ _ _ h (Go.refl S H) (by simp only [Rp]) o⟩)
  · exact h.elim
section
variable {X : Cx} {en : Ent}
theorem ve_ix {f : D → D → Sto → KE → Prop} {r : R2} {a b : Expr} {ta tb : RE} {pos : Pos} (hr : IxR X r) (hf : OpV X.K f r) (ha : VE X en a ta) (hb : VE X en b tb) (hs : PlainIx b := by exact fun _ _ => rfl) : VE X en (.Subscript a b pos) (eBin f ta tb) :=
  PE.imp (pe_ix hr ha hb hs) fun _ _ _ h => low_bin hf h
end
end VL
/-! VL6: dicts, built-ins, methods, stores, slices, isinstance at the value level. -/
namespace VL
open PySem PySem.Spec PyProof.Rows L2
/-! ### dicts -/
section
variable {κ : Type} [DecidableEq κ]
def lkD (kvs : List (κ × D)) (k : κ) : Option D := (kvs.find? fun kv => decide (kv.1 = k)).map (·.2)
def puD (kvs : List (κ × D)) (k : κ) (v : D) : List (κ × D) :=
  if (kvs.any fun kv => decide (kv.1 = k)) = true then kvs.map (fun kv => if kv.1 = k then (kv.1, v) else kv) else kvs ++ [(k, v)]
def drD (kvs : List (κ × D)) (k : κ) : List (κ × D) := kvs.filter fun kv => decide (kv.1 ≠ k)
end
section
variable {K : PySem.W.Frag} {H : Hp} {S : Sto} {κ μ : Type} [DecidableEq κ] [DecidableEq μ] {f : κ → μ}
theorem Kv.length {a : List (κ × D)} {b : List (μ × V)} (h : Kv K H f a b) : a.length = b.length := Paired.length h
theorem Kv.lk (inj : ∀ x y, f x = f y → x = y) {k : κ} : ∀ {a : List (κ × D)} {b : List (μ × V)}, Kv K H f a b → (∀ d, lkD a k = some d → ∃ v, valV b (f k) = some v ∧ Rp K H d v) ∧ (lkD a k = none → valV b (f k) = none)
  | [], [], .nil => ⟨fun _ h => by simp [lkD] at h, fun _ => rfl⟩
  | (x, d) :: a, (y, v) :: b, .cons h t => by
    obtain ⟨e, r⟩ := h
    have e : y = f x := e
    subst e
    have ih := Kv.lk inj (k := k) (a := a) (b := b) t
    by_cases hx : x = k
    · subst hx
      refine ⟨fun d' q => ⟨v, valV_pos rfl, ?_⟩, fun q => ?_⟩
      · simp [lkD] at q; subst q; exact r
      · simp [lkD] at q
    · have hf : ¬ f x = f k := fun z => hx (inj _ _ z)
      rw [valV_neg hf]
      have el : lkD ((x, d) :: a) k = lkD a k := by simp [lkD, List.find?_cons, hx]
      rw [el]
      exact ih
theorem Kv.any (inj : ∀ x y, f x = f y → x = y) {k : κ} : ∀ {a : List (κ × D)} {b : List (μ × V)}, Kv K H f a b → (a.any fun kv => decide (kv.1 = k)) = (b.any fun kv => decide (kv.1 = f k))
  | [], [], .nil => rfl
  | (x, d) :: a, (y, v) :: b, .cons h t => by
    have e : y = f x := h.1
    subst e
    rw [List.any_cons, List.any_cons, Kv.any inj t]
    have : decide (x = k) = decide (f x = f k) := by
      by_cases hx : x = k
      · subst hx; simp
      · rw [decide_eq_false hx, decide_eq_false fun z => hx (inj _ _ z)]
    show (decide (x = k) || _) = (decide (f x = f k) || _)
    rw [this]
theorem Kv.appendOne {k : κ} {d : D} {v : V} (r : Rp K H d v) : ∀ {a : List (κ × D)} {b : List (μ × V)}, Kv K H f a b → Kv K H f (a ++ [(k, d)]) (b ++ [(f k, v)])
  | [], [], .nil => .cons ⟨rfl, r⟩ .nil
  | _ :: _, _ :: _, .cons h t => .cons h (Kv.appendOne r t)
theorem Kv.upd (inj : ∀ x y, f x = f y → x = y) {k : κ} {d : D} {v : V} (r : Rp K H d v) : ∀ {a : List (κ × D)} {b : List (μ × V)}, Kv K H f a b → Kv K H f (a.map fun kv => if kv.1 = k then (kv.1, d) else kv) (b.map fun kv => if kv.1 = f k then (kv.1, v) else kv)
  | [], [], .nil => .nil
  | p :: _, q :: _, .cons h t => by
    refine .cons ?_ (Kv.upd inj r t)
    have e : q.1 = f p.1 := h.1
    by_cases hx : p.1 = k
    · show (if q.1 = f k then (q.1, v) else q).1 = f (if p.1 = k then (p.1, d) else p).1 ∧ Rp K H (if p.1 = k then (p.1, d) else p).2 (if q.1 = f k then (q.1, v) else q).2
      rw [if_pos hx, if_pos (by rw [e, hx])]
      exact ⟨e, r⟩
    · have hf : ¬ q.1 = f k := fun z => hx (inj _ _ (e.symm.trans z))
      show (if q.1 = f k then (q.1, v) else q).1 = f (if p.1 = k then (p.1, d) else p).1 ∧ Rp K H (if p.1 = k then (p.1, d) else p).2 (if q.1 = f k then (q.1, v) else q).2
      rw [if_neg hx, if_neg hf]
      exact h
theorem Kv.pu (inj : ∀ x y, f x = f y → x = y) {k : κ} {d : D} {v : V} (r : Rp K H d v) {a : List (κ × D)} {b : List (μ × V)} (h : Kv K H f a b) : Kv K H f (puD a k d) (putK b (f k) v) := by
  unfold puD putK
  rw [Kv.any inj h]
  split
  · exact Kv.upd inj r h
  · exact Kv.appendOne r h
theorem inlMap_inj : ∀ x y : List Int, x.map (Sum.inl : Int → Key) = y.map (Sum.inl : Int → Key) → x = y
  | [], [], _ => rfl
  | a :: x, b :: y, h => by
    injection h with h1 h2
    injection h1 with h1
    rw [h1, inlMap_inj x y h2]
  | [], _ :: _, h => by cases h
  | _ :: _, [], h => by cases h
theorem puD_length (kvs : List (κ × D)) (k : κ) (v : D) : (puD kvs k v).length ≤ kvs.length + 1 := by
  unfold puD
  split
  · rw [List.length_map]; omega
  · rw [List.length_append, List.length_singleton]; omega
theorem putK_length (kvs : List (μ × V)) (k : μ) (v : V) : (putK kvs k v).length ≤ kvs.length + 1 := by
  unfold putK
  split
  · rw [List.length_map]; omega
  · rw [List.length_append, List.length_singleton]; omega
end
section
variable {X : Cx} {en : Ent}
/-- a value that is a key: a tuple of ints -/
def kyI (d : D) (ns : List Int) : Prop := d = .tup (ns.map .int)
theorem key_tup {K : PySem.W.Frag} {H : Hp} {ns : List Int} {v : V} (r : Rp K H (.tup (ns.map .int)) v) : ∃ b, v = .ref b ∧ H b = some (.tup ((ns.map (Sum.inl : Int → Key)).map kV)) := by
  simp only [Rp] at r
  obtain ⟨b, vs, rfl, hb, _, r⟩ := r
  rw [r.ints] at hb
  exact ⟨b, rfl, by rw [key_map]; exact hb⟩
/-- d[k] -/
def vDGet : D → D → Sto → KE → Prop
  | .ref a, .tup ks, S, Q => ∃ kvs ns d, S a = some (.dI kvs) ∧ ks = ns.map .int ∧ lkD kvs ns = some d ∧ Q d S
  | _, _, _, _ => False
theorem vDGet.inv {x y : D} {S : Sto} {Q : KE} (h : vDGet x y S Q) : ∃ a kvs ns d, x = .ref a ∧ y = .tup (ns.map .int) ∧ S a = some (.dI kvs) ∧ lkD kvs ns = some d ∧ Q d S := by
  unfold vDGet at h
  split at h
  · obtain ⟨kvs, ns, d, ha, rfl, h⟩ := h; exact ⟨_, kvs, ns, d, rfl, rfl, ha, h⟩
  · exact h.elim
theorem ve_dget {o i : Expr} {td ty : RE} {pos : Pos} (hu : X.A.units + 1 < cLine) (ho : VE X en o td) (hi : VE X en i ty) (hs : NoSl i := by exact fun _ _ => rfl) : VE X en (.Subscript o i pos) (eBin vDGet td ty) :=
  PE.imp (pe_dget hu ho hi hs) fun σ H Q h => by
    obtain ⟨τ, S, Q0, hs, ho, h, k⟩ := h
    refine ⟨τ, S, _, hs, ho, h, fun x S1 u H1 h1 g1 r1 o1 => ?_⟩
    refine ⟨τ, S1, _, hs.mono g1.tl, o1, h1, fun y S2 v H2 h2 g2 r2 o2 => ?_⟩
    have r1 := Rp.mono g2.tl _ _ r1
    obtain ⟨a, kvs, ns, d, rfl, rfl, ha, hl, h2⟩ := h2.inv
    simp only [Rp] at r1; subst r1
    obtain ⟨b, rfl, hb⟩ := key_tup r2
    obtain ⟨ws, ea, _, kv⟩ := o2.so.dI ha
    obtain ⟨w, hw, rw'⟩ := (kv.lk inlMap_inj (k := ns)).1 d hl
    exact ⟨a, w, rfl, .inr ⟨ws, _, b, .inl ea, rfl, hb, hw.symm⟩, k _ _ _ _ h2 (g1.trans g2) rw' o2⟩
/-- d.get(k, x) -/
def vDGet2 (x y z : D) (S : Sto) (Q : KE) : Prop := match x, y with
  | .ref a, .tup ks => ∃ kvs ns, S a = some (.dI kvs) ∧ ks = ns.map .int ∧ Q ((lkD kvs ns).getD z) S
  | _, _ => False
theorem vDGet2.inv {x y z : D} {S : Sto} {Q : KE} (h : vDGet2 x y z S Q) : ∃ a kvs ns, x = .ref a ∧ y = .tup (ns.map .int) ∧ S a = some (.dI kvs) ∧ Q ((lkD kvs ns).getD z) S := by
  unfold vDGet2 at h
  split at h
  · obtain ⟨kvs, ns, ha, rfl, h⟩ := h; exact ⟨_, kvs, ns, rfl, rfl, ha, h⟩
  · exact h.elim
def eDGet2 (td ty tz : RE) : RE := fun τ S Q => td τ S fun x S1 => (∃ a, x = .ref a ∧ ∃ kvs, S1 a = some (.dI kvs)) ∧ ty τ S1 fun y S2 => tz τ S2 fun z S3 => vDGet2 x y z S3 Q
theorem ve_dget2 {o e f : Expr} {td ty tz : RE} {apos cpos : Pos} (hu : X.A.units + 1 < cLine) (ho : VE X en o td) (he : VE X en e ty) (hf : VE X en f tz) (m : M2 X o "get" apos e f cpos) : VE X en (.Call (.Attribute o "get" apos) [e, f] [] cpos) (eDGet2 td ty tz) :=
  PE.imp (pe_dget2 hu ho he hf m) fun σ H Q h => by
    obtain ⟨τ, S, Q0, hs, ho, h, k⟩ := h
    refine ⟨τ, S, _, hs, ho, h, fun x S1 u H1 h1 g1 r1 o1 => ?_⟩
    obtain ⟨⟨a, rfl, kvs0, ha0⟩, h1⟩ := h1
    simp only [Rp] at r1; subst r1
    obtain ⟨ws0, ea0, _, _⟩ := o1.so.dI ha0
    refine ⟨a, rfl, .inr ⟨ws0, .inl ea0⟩, ?_⟩
    refine ⟨τ, S1, _, hs.mono g1.tl, o1, h1, fun y S2 v H2 h2 g2 r2 o2 => ?_⟩
    refine ⟨τ, S2, _, hs.mono (g1.trans g2).tl, o2, h2, fun z S3 w H3 h3 g3 r3 o3 => ?_⟩
    obtain ⟨a', kvs, ns, ex, rfl, ha, h3⟩ := h3.inv
    cases ex
    obtain ⟨b, rfl, hb⟩ := key_tup (Rp.mono g3.tl _ _ r2)
    obtain ⟨ws, ea, _, kv⟩ := o3.so.dI ha
    have lk := kv.lk inlMap_inj (k := ns)
    cases q : lkD kvs ns with
    | none =>
      rw [q] at h3
      exact ⟨none, .inr ⟨ws, _, b, .inl ea, rfl, hb, (lk.2 q).symm⟩, k _ _ _ _ h3 ((g1.trans g2).trans g3) r3 o3⟩
    | some d =>
      rw [q] at h3
      obtain ⟨w', hw, rw'⟩ := lk.1 d q
      exact ⟨some w', .inr ⟨ws, _, b, .inl ea, rfl, hb, hw.symm⟩, k _ _ _ _ h3 ((g1.trans g2).trans g3) rw' o3⟩
/-- k in d, k not in d -/
def vDIn (neg : Bool) : D → D → Sto → KE → Prop
  | .tup ks, .ref a, S, Q => ∃ kvs ns, S a = some (.dI kvs) ∧ ks = ns.map .int ∧ Q (.bl (neg != (lkD kvs ns).isSome)) S
  | _, _, _, _ => False
theorem vDIn.inv {neg : Bool} {x y : D} {S : Sto} {Q : KE} (h : vDIn neg x y S Q) : ∃ a kvs ns, y = .ref a ∧ x = .tup (ns.map .int) ∧ S a = some (.dI kvs) ∧ Q (.bl (neg != (lkD kvs ns).isSome)) S := by
  unfold vDIn at h
  split at h
  · obtain ⟨kvs, ns, ha, rfl, h⟩ := h; exact ⟨_, kvs, ns, rfl, rfl, ha, h⟩
  · exact h.elim
theorem din_core {σ : L2.St} {H : Hp} {Q : VK} {ty td : RE} {neg : Bool} (h : lowE X.K en (eBin (vDIn neg) ty td) σ H Q) : (lowE X.K en ty) σ H fun y H1 => (lowE X.K en td) σ H1 fun x H2 => ∃ a o, x = .ref a ∧ DGet H2 a y o ∧ Q (.bl (neg != o.isSome)) H2 := by
  obtain ⟨τ, S, Q0, hs, ho, h, k⟩ := h
  refine ⟨τ, S, _, hs, ho, h, fun x S1 u H1 h1 g1 r1 o1 => ?_⟩
  refine ⟨τ, S1, _, hs.mono g1.tl, o1, h1, fun y S2 v H2 h2 g2 r2 o2 => ?_⟩
  obtain ⟨a, kvs, ns, rfl, rfl, ha, h2⟩ := h2.inv
  simp only [Rp] at r2; subst r2
  obtain ⟨b, rfl, hb⟩ := key_tup (Rp.mono g2.tl _ _ r1)
  obtain ⟨ws, ea, _, kv⟩ := o2.so.dI ha
  have lk := kv.lk inlMap_inj (k := ns)
  cases q : lkD kvs ns with
  | none =>
    rw [q] at h2
    exact ⟨a, none, rfl, .inr ⟨ws, _, b, .inl ea, rfl, hb, (lk.2 q).symm⟩, k _ _ _ _ h2 (g1.trans g2) (by simp only [Rp, Option.isSome]) o2⟩
  | some d =>
    rw [q] at h2
    obtain ⟨w', hw, rw'⟩ := lk.1 d q
    exact ⟨a, some w', rfl, .inr ⟨ws, _, b, .inl ea, rfl, hb, hw.symm⟩, k _ _ _ _ h2 (g1.trans g2) (by simp only [Rp, Option.isSome]) o2⟩
/-- d[k] = v -/
def vDPut (x y v : D) (S : Sto) (k : Sto → Prop) : Prop := match x, y with
  | .ref a, .tup ks => ∃ kvs ns, S a = some (.dI kvs) ∧ ks = ns.map .int ∧ kvs.length < 10000000 ∧ k (put S a (.dI (puD kvs ns v)))
  | _, _ => False
theorem vDPut.inv {x y v : D} {S : Sto} {k : Sto → Prop} (h : vDPut x y v S k) : ∃ a kvs ns, x = .ref a ∧ y = .tup (ns.map .int) ∧ S a = some (.dI kvs) ∧ kvs.length < 10000000 ∧ k (put S a (.dI (puD kvs ns v))) := by
  unfold vDPut at h
  split at h
  · obtain ⟨kvs, ns, ha, rfl, h⟩ := h; exact ⟨_, kvs, ns, rfl, rfl, ha, h⟩
  · exact h.elim
def sDPut (td ty tv : RE) : RS := fun D0 τ S => tv τ S fun v S1 => td τ S1 fun x S2 => ty τ S2 fun y S3 => vDPut x y v S3 (D0.nx τ)
theorem vs_dput {o i value : Expr} {td ty tv : RE} {pos pos' : Pos} (hu : X.A.units + 1 < cLine) (ho : VE X en o td) (hi : VE X en i ty) (hv : VE X en value tv) (hs : swapsWith value (some (.Subscript o i pos')) pos.line X.env = pure false := by rfl) :
    VSt X en (.Assign [.Subscript o i pos'] value pos) (sDPut td ty tv) := PS.imp (ps_dput hu ho hi hv hs) fun D0 σ H h => by
  obtain ⟨τ, S, E0, hs, ho, h, e⟩ := h
  refine ⟨τ, S, _, hs, ho, h, fun v S1 u H1 h1 g1 r1 o1 => ?_⟩
  refine ⟨τ, S1, _, hs.mono g1.tl, o1, h1, fun x S2 ux H2 h2 g2 r2 o2 => ?_⟩
  refine ⟨τ, S2, _, hs.mono (g1.trans g2).tl, o2, h2, fun y S3 uy H3 h3 g3 r3 o3 => ?_⟩
  have r1 := Rp.mono (g2.trans g3).tl _ _ r1
  obtain ⟨a, kvs, ns, rfl, rfl, ha, hz, h3⟩ := h3.inv
  have r2 := Rp.mono g3.tl _ _ r2
  simp only [Rp] at r2; subst r2
  obtain ⟨b, rfl, hb⟩ := key_tup r3
  obtain ⟨ws, ea, zw, kv⟩ := o3.so.dI ha
  have hl := kv.length
  have t : TL H3 (upd H3 a (.dT (putK ws (ns.map Sum.inl) u))) := TL.mut ea trivial
  refine ⟨a, _, rfl, DPut.t ea hb (by rw [← hl]; exact line10' hz), ?_⟩
  have gm : Go S3 H3 (put S3 a (.dI (puD kvs ns v))) (upd H3 a (.dT (putK ws (ns.map Sum.inl) u))) := Go.mut ha ea trivial
  refine e.nx _ _ _ _ h3 (((g1.trans g2).trans g3).trans gm) ((hs.mono ((g1.trans g2).trans g3).tl).mono t) (o3.go gm (o3.so.set ea trivial ⟨_, rfl, ?_, (kv.pu inlMap_inj r1).mono t⟩))
  exact Nat.le_trans (putK_length _ _ _) (by rw [← hl]; exact line10 hz)
/-- {} -/
def eDNew : RE := fun _ S Q => ∀ p, S p = none → Q (.ref p) (put S p (.dI []))
theorem ve_dnew {pos : Pos} : VE X en (.Dict [] [] pos) eDNew := PE.imp pe_dnewT fun σ H Q h => by
  obtain ⟨τ, S, Q0, hs, ho, h, k⟩ := h
  exact fun p hp => k _ _ _ _ (h p (ho.nope hp)) (Go.new hp) (by simp only [Rp]) (ho.go (Go.new hp) (ho.so.new hp ⟨[], rfl, Nat.zero_le _, .nil⟩))
/-! ### a list's item stored -/
def vLSet (x y v : D) (S : Sto) (k : Sto → Prop) : Prop := match x, y with
  | .ref a, .int i => ∃ xs j, S a = some (.lst xs) ∧ ixN xs.length i = some j ∧ k (put S a (.lst (xs.set j v)))
  | _, _ => False
theorem vLSet.inv {x y v : D} {S : Sto} {k : Sto → Prop} (h : vLSet x y v S k) : ∃ a i xs j, x = .ref a ∧ y = .int i ∧ S a = some (.lst xs) ∧ ixN xs.length i = some j ∧ k (put S a (.lst (xs.set j v))) := by
  unfold vLSet at h
  split at h
  · obtain ⟨xs, j, h⟩ := h; exact ⟨_, _, xs, j, rfl, rfl, h⟩
  · exact h.elim
def gSub (to ti : RE) : RG := fun v τ S Q => to τ S fun x S1 => ti τ S1 fun y S2 => vLSet x y v S2 (Q τ)
theorem vg_sub {o i : Expr} {to ti : RE} {pos : Pos} (ho : VE X en o to) (hi : VE X en i ti)
    (ha : ∀ v, assign (.Subscript o i pos) X.env v = (do
      let ov ← holding [v] (eval o X.env)
      let iv ← holding [v, ov] (eval i X.env)
      standAt pos
      holding [v, ov, iv] (setItem ov iv v)
      release [v, ov, iv] []) := by intro _; rfl) : VG X en (.Subscript o i pos) (gSub to ti) := PG.imp (pg_sub ho hi set_list ha) fun v σ H Q h => by
  obtain ⟨d, τ, S, Q0, r, hs, ho, h, k⟩ := h
  refine ⟨τ, S, _, hs, ho, h, fun x S1 ux H1 h1 g1 r1 o1 => ?_⟩
  refine ⟨τ, S1, _, hs.mono g1.tl, o1, h1, fun y S2 uy H2 h2 g2 r2 o2 => ?_⟩
  have r1 := Rp.mono g2.tl _ _ r1
  have r := Rp.mono (g1.trans g2).tl _ _ r
  obtain ⟨a, i, xs, j, rfl, rfl, ha, hj, h2⟩ := h2.inv
  simp only [Rp] at r1 r2; subst r1 r2
  obtain ⟨vs, ea, zv, rv⟩ := o2.so.lst ha
  have t : TL H2 (upd H2 a (.lst (vs.set j v))) := TL.mut ea trivial
  have gm : Go S2 H2 (put S2 a (.lst (xs.set j d))) (upd H2 a (.lst (vs.set j v))) := Go.mut ha ea trivial
  refine ⟨a, vs, i, j, rfl, rfl, ea, by rw [← rv.length]; exact hj, ?_⟩
  exact k _ _ _ _ h2 ((g1.trans g2).trans gm) ((hs.mono (g1.trans g2).tl).mono t) (o2.go gm (o2.so.set ea trivial ⟨_, rfl, by rw [List.length_set]; exact zv, (Rps.mono t _ _ rv).set (Rp.mono t _ _ r) j⟩))
/-! ### methods -/
def MeV (K : PySem.W.Frag) (T : String) (f : D → List D → Sto → KE → Prop) (r : V → List V → Hp → VK → Prop) : Prop := ∀ (H : Hp) (S : Sto) (x : D) (xs : List D) (u : V) (us : List V) (Q : KE) (R : VK), SO K H S → Rp K H x u → Rps K H xs us → f x xs S Q →
  (∀ d S' z H', Q d S' → Go S H S' H' → Rp K H' d z → SO K H' S' → R z H') → r u us H R
/-- the receiver is of the type -/
def isT (T : String) (x : D) (S : Sto) : Prop := match x with
  | .str _ => T = "str"
  | .ref a => (T = "list" ∧ ∃ xs, rdL S a xs) ∨ (T = "dict" ∧ ∃ kvs, S a = some (.dI kvs))
  | _ => False
theorem isT.ty {K : PySem.W.Frag} {H : Hp} {S : Sto} {T : String} {x : D} {u : V} (h : isT T x S) (o : SO K H S) (r : Rp K H x u) : tyV K T u H := by
  cases x with
  | str s => simp only [Rp] at r; subst r; exact h
  | ref a =>
    simp only [Rp] at r; subst r
    rcases h with ⟨e, xs, h⟩ | ⟨e, kvs, h⟩
    · obtain ⟨vs, hq, _, _⟩ := h.sq o
      exact .inl ⟨e, vs, hq⟩
    · obtain ⟨ws, ea, _, _⟩ := o.dI h
      exact .inr (.inr (.inl ⟨e, .inr ⟨ws, ea⟩⟩))
  | _ => exact h.elim
def eM0 (T : String) (f : D → List D → Sto → KE → Prop) (to : RE) : RE := fun τ S Q => to τ S fun x S1 => isT T x S1 ∧ f x [] S1 Q
def eM (T : String) (f : D → List D → Sto → KE → Prop) (to : RE) (ts : List RE) : RE := fun τ S Q => to τ S fun x S1 => isT T x S1 ∧ eArgs ts τ S1 fun xs S2 => f x xs S2 Q
theorem ve_bm0 {f : D → List D → Sto → KE → Prop} {o : Expr} {to : RE} {name : Str} {apos cpos : Pos} {T id : String} {r : V → List V → Hp → VK → Prop} (pa : PlainAttrs T) (slot : Slot T name id) (hty : typeOf (.builtin id) = pure (.type "method_descriptor")) (hm : MtR X id r) (hf : MeV X.K T f r) (ho : VE X en o to)
    (hbase : attributeBase o name X.env (eval o X.env) = eval o X.env := by rfl) (hline : (apos.endLine == cpos.line) = true := by rfl) : VE X en (.Call (.Attribute o name apos) [] [] cpos) (eM0 T f to) :=
  PE.imp (pe_bm0 pa slot hty hm ho hbase hline) fun σ H Q h => by
    obtain ⟨τ, S, Q0, hs, ho, h, k⟩ := h
    refine ⟨τ, S, _, hs, ho, h, fun x S1 u H1 h1 g1 r1 o1 => ⟨h1.1.ty o1.so r1, ?_⟩⟩
    exact hf H1 S1 x [] u [] Q0 Q o1.so r1 Rps.nil h1.2 fun d S' z H' q g r o => k _ _ _ _ q (g1.trans g) r (o1.go g o)
theorem ve_bm {f : D → List D → Sto → KE → Prop} {o e : Expr} {es : List Expr} {to : RE} {ts : List RE} {name : Str} {apos cpos : Pos} {T id : String} {r : V → List V → Hp → VK → Prop} (pa : PlainAttrs T) (slot : Slot T name id) (hty : typeOf (.builtin id) = pure (.type "method_descriptor")) (hm : MtR X id r) (hf : MeV X.K T f r) (ho : VE X en o to) (ha : VA X en (e :: es) ts)
    (hbase : attributeBase o name X.env (eval o X.env) = eval o X.env := by rfl)
    (hfew : ((backTo cpos (starEach (e :: es) X.env)).all (fun x => !x.1) && (backToKw cpos (keywordEach [] X.env)).all (fun x => x.1.isSome)
      && decide ((e :: es).length + ([] : List Keyword).length + (if ([] : List Keyword).isEmpty then 0 else 1) < 30)) = true := by rfl)
    (hline : (apos.endLine == cpos.line) = true := by rfl) (hs : starEach (e :: es) X.env = (false, eval e X.env) :: starEach es X.env := by rfl) (hplain : (backTo cpos (starEach es X.env)).any (·.1) = false := by rfl) :
    VE X en (.Call (.Attribute o name apos) (e :: es) [] cpos) (eM T f to ts) :=
  PE.imp (pe_bm pa slot hty hm ho ha.1 hbase hfew hline hs hplain) fun σ H Q h => by
    obtain ⟨τ, S, Q0, hs, ho, h, k⟩ := h
    refine ⟨τ, S, _, hs, ho, h, fun x S1 u H1 h1 g1 r1 o1 => ⟨h1.1.ty o1.so r1, ?_⟩⟩
    refine args_ok (hs.mono g1.tl) o1 h1.2 fun ds S2 vs H2 q2 g2 r2 hz o2 => ?_
    exact hf H2 S2 x ds u vs Q0 Q o2.so (Rp.mono g2.tl _ _ r1) r2 q2 fun d S' z H' q g r o => k _ _ _ _ q ((g1.trans g2).trans g) r (o2.go g o)
def mAppend : D → List D → Sto → KE → Prop := fun x vs S Q => match x, vs with
  | .ref a, [y] => ∃ xs, S a = some (.lst xs) ∧ xs.length < 10000000 ∧ Q .non (put S a (.lst (xs ++ [y])))
  | _, _ => False
theorem me_append {K : PySem.W.Frag} : MeV K "list" mAppend rAppend := by
  intro H S x xs u us Q R o rx rs h k
  unfold mAppend at h
  split at h
  · rename_i a y
    obtain ⟨zs, ha, hz, h⟩ := h
    simp only [Rp] at rx; subst rx
    simp only [Rps] at rs
    obtain ⟨v, w, rfl, ry, rfl⟩ := rs
    obtain ⟨vs, ea, zv, rv⟩ := o.lst ha
    have hl := rv.length
    have t : TL H (upd H a (.lst (vs ++ [v]))) := TL.mut ea trivial
    refine ⟨a, vs, v, rfl, rfl, ea, by rw [← hl]; exact line10' hz, k _ _ _ _ h (Go.mut ha ea trivial) (by simp only [Rp]) (o.set ea trivial ⟨_, rfl, ?_, (Rps.mono t _ _ rv).append (Rps.one (Rp.mono t _ _ ry))⟩)⟩
    rw [List.length_append, List.length_singleton, ← hl]; exact line10 hz
  · exact h.elim
def mPop : D → List D → Sto → KE → Prop := fun x vs S Q => match x, vs with
  | .ref a, [] => ∃ xs y, S a = some (.lst xs) ∧ xs[xs.length - 1]? = some y ∧ Q y (put S a (.lst xs.dropLast))
  | _, _ => False
theorem me_pop {K : PySem.W.Frag} : MeV K "list" mPop rPop := by
  intro H S x xs u us Q R o rx rs h k
  unfold mPop at h
  split at h
  · rename_i a
    obtain ⟨zs, y, ha, hy, h⟩ := h
    simp only [Rp] at rx; subst rx
    simp only [Rps] at rs; subst rs
    obtain ⟨vs, ea, zv, rv⟩ := o.lst ha
    have hl := rv.length
    obtain ⟨v, hv, ry⟩ := rv.get hy
    have t : TL H (upd H a (.lst vs.dropLast)) := TL.mut ea trivial
    refine ⟨a, vs, v, rfl, rfl, ea, by rw [← hl]; exact hv, k _ _ _ _ h (Go.mut ha ea trivial) (Rp.mono t _ _ ry) (o.set ea trivial ⟨_, rfl, by rw [List.length_dropLast]; omega, ?_⟩)⟩
    have q : ∀ n, n = zs.length - 1 → Rps K (upd H a (.lst vs.dropLast)) (zs.take n) (vs.take n) := fun n _ => (Rps.mono t _ _ rv).take n
    have e1 : zs.dropLast = zs.take (zs.length - 1) := List.dropLast_eq_take
    have e2 : vs.dropLast = vs.take (zs.length - 1) := by rw [hl]; exact List.dropLast_eq_take
    have q1 := q _ rfl
    rw [← e1, ← e2] at q1
    exact q1
  · exact h.elim
/-! ### built-ins -/
def cLen : List D → Sto → KE → Prop := fun vs S Q => match vs with
  | [.tup xs] => Q (.int xs.length) S
  | [.scr ns] => Q (.int ns.length) S
  | [.str z] => z.length ≤ 10000000 ∧ Q (.int z.length) S
  | [.ref a] => (∃ xs, rdL S a xs ∧ Q (.int xs.length) S)
  | _ => False
def rLenAny (K : PySem.W.Frag) : List V → Hp → VK → Prop := fun xs H Q => ∃ x n, xs = [x] ∧ LenV K x H n ∧ Q (.int n) H
theorem ca_len {K : PySem.W.Frag} : CaV K cLen (rLenAny K) := by
  intro H S xs us Q R o r h k
  unfold cLen at h
  split at h
  · simp only [Rps] at r; obtain ⟨v, w, rfl, r, rfl⟩ := r
    simp only [Rp] at r
    obtain ⟨a, vs, rfl, ha, hz, r⟩ := r
    exact ⟨_, vs.length, rfl, .inr ⟨vs, SqT.of ha, rfl⟩, by rw [← r.length]; exact k _ _ _ _ h (Go.refl S H) (by simp only [Rp]) o⟩
  · simp only [Rps] at r; obtain ⟨v, w, rfl, r, rfl⟩ := r
    simp only [Rp] at r
    obtain ⟨a, rfl, hq, hz⟩ := r
    exact ⟨_, _, rfl, .inl ⟨_, hq.sq, rfl⟩, by rw [List.length_map]; exact k _ _ _ _ h (Go.refl S H) (by simp only [Rp]) o⟩
  · simp only [Rps, Rp] at r; obtain ⟨v, w, rfl, rfl, rfl⟩ := r
    exact ⟨_, _, rfl, ⟨line10 h.1, rfl⟩, k _ _ _ _ h.2 (Go.refl S H) (by simp only [Rp]) o⟩
  · simp only [Rps, Rp] at r; obtain ⟨v, w, rfl, rfl, rfl⟩ := r
    obtain ⟨xs, hr, h⟩ := h
    obtain ⟨vs, hq, hz, r⟩ := hr.sq o
    exact ⟨_, vs.length, rfl, .inl ⟨vs, hq, rfl⟩, by rw [← r.length]; exact k _ _ _ _ h (Go.refl S H) (by simp only [Rp]) o⟩
  · exact h.elim
def cInt : List D → Sto → KE → Prop := fun vs S Q => match vs with
  | [.int i] => Q (.int i) S
  | [.bl k] => Q (.int (if k then 1 else 0)) S
  | _ => False
theorem ca_int {K : PySem.W.Frag} : CaV K cInt (fun xs H Q => (∃ i, xs = [.int i] ∧ Q (.int i) H) ∨ ∃ k, xs = [.bl k] ∧ Q (.int (if k then 1 else 0)) H) := by
  intro H S xs us Q R o r h k
  unfold cInt at h
  split at h
  · simp only [Rps, Rp] at r; obtain ⟨v, w, rfl, rfl, rfl⟩ := r
    exact .inl ⟨_, rfl, k _ _ _ _ h (Go.refl S H) (by simp only [Rp]) o⟩
  · simp only [Rps, Rp] at r; obtain ⟨v, w, rfl, rfl, rfl⟩ := r
    exact .inr ⟨_, rfl, k _ _ _ _ h (Go.refl S H) (by simp only [Rp]) o⟩
  · exact h.elim
def cAbs : List D → Sto → KE → Prop := fun vs S Q => match vs with
  | [.int i] => Q (.int (if i < 0 then -i else i)) S
  | _ => False
theorem ca_abs {K : PySem.W.Frag} : CaV K cAbs (fun xs H Q => ∃ i, xs = [.int i] ∧ Q (.int (if i < 0 then -i else i)) H) := by
  intro H S xs us Q R o r h k
  unfold cAbs at h
  split at h
  · simp only [Rps, Rp] at r; obtain ⟨v, w, rfl, rfl, rfl⟩ := r
    exact ⟨_, rfl, k _ _ _ _ h (Go.refl S H) (by simp only [Rp]) o⟩
  · exact h.elim
def cMax2 : List D → Sto → KE → Prop := fun vs S Q => match vs with
  | [.int i, .int j] => Q (.int (if j > i then j else i)) S
  | _ => False
theorem ca_max2 {K : PySem.W.Frag} : CaV K cMax2 (fun xs H Q => ∃ i j, xs = [.int i, .int j] ∧ Q (.int (if j > i then j else i)) H) := by
  intro H S xs us Q R o r h k
  unfold cMax2 at h
  split at h
  · simp only [Rps, Rp] at r; obtain ⟨v, w, rfl, rfl, v2, w2, rfl, rfl, rfl⟩ := r
    exact ⟨_, _, rfl, k _ _ _ _ h (Go.refl S H) (by simp only [Rp]) o⟩
  · exact h.elim
def cMin2 : List D → Sto → KE → Prop := fun vs S Q => match vs with
  | [.int i, .int j] => Q (.int (if j < i then j else i)) S
  | _ => False
theorem ca_min2 {K : PySem.W.Frag} : CaV K cMin2 (fun xs H Q => ∃ i j, xs = [.int i, .int j] ∧ Q (.int (if j < i then j else i)) H) := by
  intro H S xs us Q R o r h k
  unfold cMin2 at h
  split at h
  · simp only [Rps, Rp] at r; obtain ⟨v, w, rfl, rfl, v2, w2, rfl, rfl, rfl⟩ := r
    exact ⟨_, _, rfl, k _ _ _ _ h (Go.refl S H) (by simp only [Rp]) o⟩
  · exact h.elim
/-- tuple(xs), tuple(t) -/
def cTuple : List D → Sto → KE → Prop := fun vs S Q => match vs with
  | [.tup xs] => Q (.tup xs) S
  | [.ref a] => ∃ xs, rdL S a xs ∧ Q (.tup xs) S
  | _ => False
def rTupleOf (K : PySem.W.Frag) : List V → Hp → VK → Prop := fun xs H Q => ∃ p ys, xs = [.ref p] ∧ ((SqL K H p ys ∧ ∀ l, H l = none → Q (.ref l) (upd H l (.tup ys))) ∨ (SqT K H p ys ∧ Q (.ref p) H))
theorem ca_tuple {K : PySem.W.Frag} : CaV K cTuple (rTupleOf K) := by
  intro H S xs us Q R o r h k
  unfold cTuple at h
  split at h
  · simp only [Rps] at r; obtain ⟨v, w, rfl, r, rfl⟩ := r
    have r' := r
    simp only [Rp] at r
    obtain ⟨a, vs, rfl, ha, hz, r⟩ := r
    exact ⟨a, vs, rfl, .inr ⟨SqT.of ha, k _ _ _ _ h (Go.refl S H) r' o⟩⟩
  · simp only [Rps, Rp] at r; obtain ⟨v, w, rfl, rfl, rfl⟩ := r
    obtain ⟨xs, hr, h⟩ := h
    obtain ⟨vs, hq, hz, r⟩ := hr.sq o
    exact ⟨_, vs, rfl, .inl ⟨hq, fun p hp => k _ _ _ _ h (Go.new' hp) (by simp only [Rp]; exact ⟨p, vs, rfl, upd_same, hz, Rps.mono (TL.new hp) _ _ r⟩) (o.new' hp)⟩⟩
  · exact h.elim
/-- tuple([..]) -/
theorem cl_tuple {K : PySem.W.Frag} : CaL K (fun xs S Q => Q (.tup xs) S) (rTupleOf K) := by
  intro H S p xs us Q R o e z r h k
  exact ⟨p, us, rfl, .inl ⟨SqL.of e, fun q hq => k _ _ _ _ h (Go.new' hq) (by simp only [Rp]; exact ⟨q, us, rfl, upd_same, z, Rps.mono (TL.new hq) _ _ r⟩) (o.new' hq)⟩⟩
/-- list(xs), list(t) -/
def cList : List D → Sto → KE → Prop := fun vs S Q => match vs with
  | [.tup xs] => ∀ p, S p = none → Q (.ref p) (put S p (.lst xs))
  | [.ref a] => ∃ xs, rdL S a xs ∧ ∀ p, S p = none → Q (.ref p) (put S p (.lst xs))
  | _ => False
def rListOf (K : PySem.W.Frag) : List V → Hp → VK → Prop := fun xs H Q => ∃ p ys, xs = [.ref p] ∧ (SqL K H p ys ∨ SqT K H p ys) ∧ ∀ l, H l = none → Q (.ref l) (upd H l (.lst ys))
theorem ca_list {K : PySem.W.Frag} : CaV K cList (rListOf K) := by
  intro H S xs us Q R o r h k
  unfold cList at h
  split at h
  · simp only [Rps] at r; obtain ⟨v, w, rfl, r, rfl⟩ := r
    simp only [Rp] at r
    obtain ⟨a, vs, rfl, ha, hz, r⟩ := r
    exact ⟨a, vs, rfl, .inr (SqT.of ha), fun p hp => k _ _ _ _ (h p (o.nope hp)) (Go.new hp) (by simp only [Rp]) (o.new hp ⟨_, rfl, hz, Rps.mono (TL.new hp) _ _ r⟩)⟩
  · simp only [Rps, Rp] at r; obtain ⟨v, w, rfl, rfl, rfl⟩ := r
    obtain ⟨xs, hr, h⟩ := h
    obtain ⟨vs, hq, hz, r⟩ := hr.sq o
    exact ⟨_, vs, rfl, .inl hq, fun p hp => k _ _ _ _ (h p (o.nope hp)) (Go.new hp) (by simp only [Rp]) (o.new hp ⟨_, rfl, hz, Rps.mono (TL.new hp) _ _ r⟩)⟩
  · exact h.elim
end
end VL
/-! VL7: a dict against the empty one; slices; isinstance; sorted. -/
namespace VL
open PySem PySem.Spec PyProof.Rows L2
section
variable {prog : Program} {w : World} {A : Around} {E : Value → Shared → Prop} {s : Shared}
theorem samePairs_nil {nm : String} {a b : Addr} {oa ob : Obj} {es : Array DictEntry} {ep ep' : Nat} {Q : Bool → Shared → Prop} (ha : (a == sysModules) = false) (hb : (b == sysModules) = false)
    (hoa : s.heap.get? a = some oa) (hda : oa.data = .dict es ep) (hob : s.heap.get? b = some ob) (hdb : ob.data = .dict #[] ep') (h : Q (es.size == 0) s) :
    wpAny (model prog w) A (Builtin.Dict.samePairs nm a b) Q E s := by
  unfold Builtin.Dict.samePairs Builtin.Dict.showsAll
  rw [if_neg (show ¬ (a == sysModules) = true by rw [ha]; exact Bool.false_ne_true), if_neg (show ¬ (b == sysModules) = true by rw [hb]; exact Bool.false_ne_true)]
  refine wpAny_bind (wpAny_pure (wpAny_bind (wpAny_pure ?_)))
  refine wpAny_bind (wpAny_dictEntries hoa hda ?_)
  dsimp only
  refine wpAny_bind (wpAny_dictEntries hob hdb ?_)
  by_cases hsz : es.size = 0
  case neg =>
    rw [if_pos (by simpa using hsz)]
    have hbf : (es.size == 0) = false := by simpa using hsz
    rw [hbf] at h
    exact wpAny_bind (wpAny_rule (wpAny_pure h))
  case pos =>
    have h' : Q true s := by simpa [hsz] using h
    rw [if_neg (by rw [hsz]; simp)]
    refine wpAny_bind (wpAny_dictEpoch hoa hda ?_)
    refine wpAny_bind ?_
    rw [Std.Legacy.Range.forIn_eq_forIn_range']
    simp only [Std.Legacy.Range.size, Nat.sub_zero, Nat.add_sub_cancel, Nat.div_one]
    rw [hsz]
    exact wpAny_pure (wpAny_pure h')
theorem ne_nilT {a b : Addr} {oa ob : Obj} {es : Array DictEntry} {ep ep' : Nat} {Q : Value → Shared → Prop} (ha : (a == sysModules) = false) (hb : (b == sysModules) = false)
    (hoa : s.heap.get? a = some oa) (ea : oa.ExactDict) (hda : oa.data = .dict es ep) (hob : s.heap.get? b = some ob) (eb : ob.ExactDict) (hdb : ob.data = .dict #[] ep') (hu : A.units < cLine) (h : Q (.bool (!(es.size == 0))) s) :
    wpAny (model prog w) A (compareOp .NotEq (.ref a) (.ref b)) Q E s := by
  have ta : s.TypeIs (.ref a) "dict" := ⟨oa, hoa, ea.1⟩
  have tb : s.TypeIs (.ref b) "dict" := ⟨ob, hob, eb.1⟩
  refine wpAny_richCompare_same_room (op := .NotEq) ta tb PySem.F.slot_dict_ne (wpAny_call_entry PySem.F.slot_dict_ne ta PySem.F.entry_dict_ne ?_ (PySem.F.args_dict_ne_2 _ _)) hu
  show wpAny _ _ (Builtin.Dict.dictSlotArgs "__ne__" ⟨[.ref a, .ref b], []⟩ >>= _) _ _ s
  refine wpAny_bind ?_
  unfold Builtin.Dict.dictSlotArgs
  refine wpAny_bind (wpAny_notOrdered_dict ta ?_)
  show wpAny _ _ (pure (Value.ref a, Value.ref b)) _ _ s
  refine wpAny_pure ?_
  refine wpAny_bind (wpAny_isInstance (T := "dict") tb PySem.F.sub_dict_dict ?_)
  simp only [Bool.not_true, Bool.false_eq_true, if_false]
  refine wpAny_bind (wpAny_pure (wpAny_bind (wpAny_pure ?_)))
  refine wpAny_bind (samePairs_nil ha hb hoa hda hob hdb ?_)
  refine wpAny_pure ⟨_, rfl, ?_, ?_⟩
  · exact fun x => nomatch x
  · simpa using h
end
section
variable {X : Cx} {en : Ent}
/-- d != {} -/
def rNeNil : R2 := fun x y H Q => ∃ a b ws, x = .ref a ∧ y = .ref b ∧ H a = some (.dT ws) ∧ H b = some (.dT []) ∧ Q (.bl (!(ws.length == 0))) H
theorem op_neNil (hu : X.A.units < cLine) : OpR X (compareOp .NotEq) rNeNil := by
  intro pins s σ H x y v u Q I rx ry h
  obtain ⟨a, b, ws, rfl, rfl, ea, eb, q⟩ := h
  obtain rfl : v = Value.ref a := rx
  obtain rfl : u = Value.ref b := ry
  obtain ⟨_, na, xs, pr, oa, es, ep, ha, xa, da, le, _⟩ := (show ObjOk X.prog X.w H s.heap a (.dT ws) from I.hok a _ ea)
  obtain ⟨_, nb, ys, pr2, ob, es2, ep2, hb, xb, db, le2, _⟩ := (show ObjOk X.prog X.w H s.heap b (.dT []) from I.hok b _ eb)
  cases pr2
  have e0 : es2 = #[] := by
    have : es2.toList = [] := le2
    exact Array.toList_eq_nil_iff.mp this
  subst e0
  have l1 : es.size = ws.length := by
    have h1 : es.toList.length = xs.length := by rw [le, List.length_map]
    rw [Array.length_toList] at h1
    rw [h1, ← Paired.length pr]
  refine ne_nilT na nb ha xa da hb xb db hu ⟨.bl _, H, I, rfl, ?_⟩
  rw [l1]; exact q
def vNeNil : D → D → Sto → KE → Prop
  | .ref a, .ref b, S, Q => ∃ kvs, S a = some (.dI kvs) ∧ S b = some (.dI []) ∧ Q (.bl (!(kvs.length == 0))) S
  | _, _, _, _ => False
theorem ov_neNil {K : PySem.W.Frag} : OpV K vNeNil rNeNil := by
  intro H S x y u v Q R o rx ry h k
  unfold vNeNil at h
  split at h
  · obtain ⟨kvs, ha, hb, h⟩ := h
    simp only [Rp] at rx ry; subst rx ry
    obtain ⟨ws, ea, _, kv⟩ := o.dI ha
    obtain ⟨w2, eb, _, kv2⟩ := o.dI hb
    cases kv2
    exact ⟨_, _, ws, rfl, rfl, ea, eb, by rw [← kv.length]; exact k _ _ _ _ h (Go.refl S H) (by simp only [Rp]) o⟩
  · exact h.elim
end
/-! ### slices -/
def cutD (xs : List D) (lo hi : Option Int) : List D := (xs.drop (HT.sIx xs.length 0 lo)).take (HT.sIx xs.length xs.length hi - HT.sIx xs.length 0 lo)
def vSl : D → Option Int → Option Int → Sto → KE → Prop
  | .tup xs, lo, hi, S, Q => Q (.tup (cutD xs lo hi)) S
  | .ref a, lo, hi, S, Q => ∃ xs, rdL S a xs ∧ ∀ p, S p = none → Q (.ref p) (put S p (.lst (cutD xs lo hi)))
  | _, _, _, _, _ => False
theorem vSl.inv {x : D} {l m : Option Int} {S : Sto} {Q : KE} (h : vSl x l m S Q) : (∃ xs, x = .tup xs ∧ Q (.tup (cutD xs l m)) S) ∨ ∃ a xs, x = .ref a ∧ rdL S a xs ∧ ∀ p, S p = none → Q (.ref p) (put S p (.lst (cutD xs l m))) := by
  unfold vSl at h
  split at h
  · exact .inl ⟨_, rfl, h⟩
  · obtain ⟨xs, h⟩ := h; exact .inr ⟨_, xs, rfl, h⟩
  · exact h.elim
abbrev RO := VS → Sto → (Option Int → Sto → Prop) → Prop
def lowO (K : PySem.W.Frag) (en : Ent) (t : RO) : TO := fun σ H Q => ∃ τ S Q0, SR K H τ σ ∧ SQ K en H S ∧ t τ S Q0 ∧ ∀ o S' H', Q0 o S' → Go S H S' H' → SQ K en H' S' → Q o H'
def VO (X : Cx) (en : Ent) (e : Option Expr) (t : RO) : Prop := PO X e (lowO X.K en t)
def oNone : RO := fun _ S Q => Q none S
def oSome (te : RE) : RO := fun τ S Q => te τ S fun d S1 => match d with
  | .int i => Q (some i) S1
  | _ => False
def eSl (te : RE) (tl th : RO) : RE := fun τ S Q => te τ S fun x S1 => tl τ S1 fun l S2 => th τ S2 fun u S3 => vSl x l u S3 Q
section
variable {X : Cx} {en : Ent}
theorem PO.imp {e : Option Expr} {t1 t2 : TO} (p : PO X e t1) (h : ∀ σ H Q, t2 σ H Q → t1 σ H Q) : PO X e t2 := ⟨fun pins s σ H Q I q => p.run pins s σ H Q I (h σ H Q q)⟩
theorem vo_none : VO X en none oNone := PO.imp po_none fun σ H Q h => by
  obtain ⟨τ, S, Q0, hs, ho, q, k⟩ := h
  exact k _ _ _ q (Go.refl S H) ho
theorem vo_some {e : Expr} {te : RE} (h : VE X en e te) : VO X en (some e) (oSome te) := PO.imp (po_some h) fun σ H Q h => by
  obtain ⟨τ, S, Q0, hs, ho, q, k⟩ := h
  refine ⟨τ, S, _, hs, ho, q, fun d S' v H' q g r o => ?_⟩
  cases d with
  | int i => simp only [Rp] at r; exact ⟨i, r, k _ _ _ q g o⟩
  | _ => exact q.elim
def rSlAny (K : PySem.W.Frag) : V → Option Int → Option Int → Hp → VK → Prop := fun x lo hi H Q => rSlL K x lo hi H Q ∨ rSlA K x lo hi H Q
theorem ve_slice {e : Expr} {lo hi : Option Expr} {te : RE} {tl th : RO} {pos p2 : Pos} (he : VE X en e te) (hl : VO X en lo tl) (hu : VO X en hi th) : VE X en (.Subscript e (.Slice lo hi none p2) pos) (eSl te tl th) :=
  PE.imp (pe_slice (sl_list.or sl_tupA) he hl hu) fun σ H Q h => by
    obtain ⟨τ, S, Q0, hs, ho, h, k⟩ := h
    refine ⟨τ, S, _, hs, ho, h, fun x S1 u H1 h1 g1 r1 o1 => ?_⟩
    refine ⟨τ, S1, _, hs.mono g1.tl, o1, h1, fun l S2 H2 h2 g2 o2 => ?_⟩
    refine ⟨τ, S2, _, hs.mono (g1.trans g2).tl, o2, h2, fun m S3 H3 h3 g3 o3 => ?_⟩
    have r1 := Rp.mono (g2.trans g3).tl _ _ r1
    have gg := (g1.trans g2).trans g3
    rcases h3.inv with ⟨xs, rfl, h3⟩ | ⟨a0, xs, rfl, hr, h3⟩
    · simp only [Rp] at r1
      obtain ⟨a, vs, rfl, ha, hz, r⟩ := r1
      have cut : Rps X.K H3 (cutD xs l m) (cutV vs l m) := by
        unfold cutD cutV
        rw [r.length]
        exact (r.drop _).take _
      refine .inr ⟨a, vs, rfl, SqT.of ha, fun hw => ?_, fun _ p hp => ?_⟩
      · have e : cutV vs l m = vs := by
          unfold cutV
          rw [hw.1, hw.2, List.drop_zero, Nat.sub_zero, List.take_length]
        rw [e] at cut
        exact k _ _ _ _ h3 gg (by simp only [Rp]; exact ⟨a, vs, rfl, ha, hz, cut⟩) o3
      · exact k _ _ _ _ h3 (gg.trans (Go.new' hp)) (by simp only [Rp]; exact ⟨p, _, rfl, upd_same, Nat.le_trans (cutV_length _ _ _) hz, Rps.mono (TL.new hp) _ _ cut⟩) (o3.go (Go.new' hp) (o3.so.new' hp))
    · simp only [Rp] at r1; subst r1
      obtain ⟨vs, hq, hz, r⟩ := hr.sq o3.so
      have cut : Rps X.K H3 (cutD xs l m) (cutV vs l m) := by
        unfold cutD cutV
        rw [r.length]
        exact (r.drop _).take _
      exact .inl ⟨_, vs, rfl, hq, fun p hp => k _ _ _ _ (h3 p (o3.nope hp)) (gg.trans (Go.new hp)) (by simp only [Rp]) (o3.go (Go.new hp) (o3.so.new hp ⟨_, rfl, Nat.le_trans (cutV_length _ _ _) hz, Rps.mono (TL.new hp) _ _ cut⟩))⟩
/-- xs[::-1] -/
def eRev (te : RE) : RE := fun τ S Q => te τ S fun x S1 => match x with
  | .ref a => ∃ xs, rdL S1 a xs ∧ ∀ p, S1 p = none → Q (.ref p) (put S1 p (.lst xs.reverse))
  | _ => False
theorem ve_rev {e : Expr} {te : RE} {k : Nat} {p1 p2 p3 pos : Pos} (he : VE X en e te) : VE X en (.Subscript e (.Slice none none (some (.UnaryOp .USub (.Constant (.int 1) k p1) p2)) p3) pos) (eRev te) :=
  PE.imp (pe_revL he) fun σ H Q h => by
    obtain ⟨τ, S, Q0, hs, ho, h, k⟩ := h
    refine ⟨τ, S, _, hs, ho, h, fun x S1 u H1 h1 g1 r1 o1 => ?_⟩
    split at h1
    · simp only [Rp] at r1; subst r1
      obtain ⟨xs, hr, h1⟩ := h1
      obtain ⟨vs, hq, hz, r⟩ := hr.sq o1.so
      exact ⟨_, vs, rfl, hq, fun p hp => k _ _ _ _ (h1 p (o1.nope hp)) (g1.trans (Go.new hp)) (by simp only [Rp]) (o1.go (Go.new hp) (o1.so.new hp ⟨_, rfl, by rw [List.length_reverse]; exact hz, Rps.mono (TL.new hp) _ _ r.reverse⟩))⟩
    · exact h1.elim
/-! ### isinstance -/
/-- the name of a value's type -/
def tyN (S : Sto) : D → String → Prop
  | .non, n => n = "NoneType"
  | .bl _, n => n = "bool"
  | .int _, n => n = "int"
  | .str _, n => n = "str"
  | .tup _, n => n = "tuple"
  | .ref a, n => ((∃ xs, rdL S a xs) ∧ n = "list") ∨ ((∃ kvs, S a = some (.dI kvs)) ∧ n = "dict")
  | _, _ => False
theorem tyN.x {K : PySem.W.Frag} {H : Hp} {S : Sto} (o : SO K H S) {d : D} {n : String} {v : V} (h : tyN S d n) (r : Rp K H d v) : TyX K H v (.type n) := by
  cases d with
  | non => simp only [Rp] at r; subst r; cases (show n = _ from h); exact .base .non
  | bl b => simp only [Rp] at r; subst r; cases (show n = _ from h); exact .base (.bl b)
  | int b => simp only [Rp] at r; subst r; cases (show n = _ from h); exact .base (.int b)
  | str b => simp only [Rp] at r; subst r; cases (show n = _ from h); exact .base (.str b)
  | tup xs => simp only [Rp] at r; obtain ⟨a, vs, rfl, ha, _⟩ := r; cases (show n = _ from h); exact .base (.tup ha)
  | ref a =>
    simp only [Rp] at r; subst r
    rcases h with ⟨⟨xs, h⟩, rfl⟩ | ⟨⟨kvs, h⟩, rfl⟩
    · rcases h with h | h
      · obtain ⟨vs, e, _⟩ := o.lst h; exact .base (.lst e)
      · obtain ⟨u, e, ob, vs, rfl, _⟩ := o a _ h; exact .base (.frz e)
    · obtain ⟨ws, e, _⟩ := o.dI h; exact .base (.dT e)
  | oth _ => exact h.elim
  | scr _ => exact h.elim
def isTy (t n : String) : Bool := t == n || (t == "bool" && n == "int")
def tys : List String := ["NoneType", "bool", "int", "str", "tuple", "list", "dict"]
theorem kit_all : ∀ t ∈ tys, ∀ n ∈ ["bool", "int", "str", "tuple", "list", "dict"], kitB t n = some (isTy t n) := by decide +kernel
theorem tyN.mem {S : Sto} {d : D} {n : String} (h : tyN S d n) : n ∈ tys := by
  cases d with
  | ref a => rcases h with ⟨_, rfl⟩ | ⟨_, rfl⟩ <;> decide
  | oth _ => exact h.elim
  | scr _ => exact h.elim
  | _ => cases (show n = _ from h); decide
/-- isinstance(x, T), T written -/
def cIsi : List D → Sto → KE → Prop := fun vs S Q => match vs with
  | [x, .oth (.ty n)] => ∃ t, tyN S x t ∧ n ∈ ["bool", "int", "str", "tuple", "list", "dict"] ∧ Q (.bl (isTy t n)) S
  | _ => False
theorem ca_isi {K : PySem.W.Frag} : CaV K cIsi (rIsi K) := by
  intro H S xs us Q R o r h k
  unfold cIsi at h
  split at h
  · simp only [Rps] at r
    obtain ⟨v, w, rfl, r1, v2, w2, rfl, r2, rfl⟩ := r
    simp only [Rp] at r2; subst r2
    obtain ⟨t, ht, hn, h⟩ := h
    exact ⟨v, _, _, _, _, rfl, .ty _, ht.x o r1, kit_ty (kit_all t ht.mem _ hn), k _ _ _ _ h (Go.refl S H) (by simp only [Rp]) o⟩
  · exact h.elim
end
end VL
/-! VL8: sorted(d) of a dict whose keys are tuples of ints, sorted(xs) of a list of such tuples. -/
namespace VL
open PySem PySem.Spec PyProof.Rows L2 PySem.W
/-- tuples of ints in order -/
def srt (nss : List (List Int)) : List (List Int) := nss.mergeSort fun p q => decide (p ≤ q)
theorem dataLe_tups {β : Type} (x : β → List Int) : dataLe false (fun b => .tuple ((x b).map .int)) = fun p q => decide (x p ≤ x q) := by
  funext p q
  show (!dataLt (.tuple ((x q).map .int)) (.tuple ((x p).map .int))) = _
  rw [dataLt_tuple]
  show (!rowLt ((x q).map .int) ((x p).map .int)) = _
  rw [dataLt_ints]
  by_cases h : x q < x p
  · have h' : ¬ x p ≤ x q := fun r => List.not_lt.mpr r h
    simp [h, h']
  · have h' : x p ≤ x q := List.not_lt.mp h
    simp [h, h']
theorem lexLt_eq : ∀ xs ys : List Int, HT.lexLt xs ys = decide (xs < ys)
  | [], [] => by simp [HT.lexLt]
  | [], _ :: _ => by simp [HT.lexLt]
  | _ :: _, [] => by simp [HT.lexLt]
  | x :: xs, y :: ys => by
    rw [HT.lexLt_cons, lexLt_eq xs ys]
    by_cases h : x = y
    · subst h; simp [List.cons_lt_cons_iff]
    · simp [h, List.cons_lt_cons_iff]
/-- v is a tuple of the ints ns -/
def IsTI (H : Hp) (v : Value) (ns : List Int) : Prop := ∃ b, v = .ref b ∧ H b = some (.tup (ns.map V.int))
def encT (ns : List Int) : PyData := .tuple (ns.map .int)
theorem reads_ti {X : Cx} {pins : List (Addr × Obj)} {σ : L2.St} {H : Hp} {s : Shared} (I : Inv X pins σ H s) {v : Value} {ns : List Int} (h : IsTI H v ns) : ∃ as, Reads s.heap v (encT ns) as := by
  obtain ⟨b, rfl, hb⟩ := h
  have dp : Dp X.K H (.ref b) (encT ns) := .tup (SqT.of hb) (by
    clear hb
    induction ns with
    | nil => exact .nil
    | cons n r ih => exact .cons (.int n) ih)
  exact Dp.reads I _ _ _ dp rfl
theorem isTI_refs {H : Hp} : ∀ {vs : List Value} {nss : List (List Int)}, EachIs (IsTI H) vs nss → ∃ bs : List Addr, vs = bs.map Value.ref ∧ EachIs (fun b ns => H b = some (.tup (ns.map V.int))) bs nss
  | _, _, .nil => ⟨[], rfl, .nil⟩
  | _, _, .cons ⟨b, e, hb⟩ t => by
    obtain ⟨bs, e2, t2⟩ := isTI_refs t
    subst e e2
    exact ⟨b :: bs, rfl, .cons hb t2⟩
theorem vals_refs' : ∀ bs : List Addr, Vals (bs.map V.ref) (bs.map Value.ref)
  | [] => .nil
  | _ :: r => .cons rfl (vals_refs' r)
section
variable {X : Cx}
/-- what is sorted: a dict's keys, a list's items -/
def SrcT (K : PySem.W.Frag) (H : Hp) (a : Addr) (nss : List (List Int)) : Prop :=
  (∃ kvs : List (List Key × V), H a = some (.dT kvs) ∧ kvs.map (·.1) = nss.map fun ns => ns.map (Sum.inl : Int → Key)) ∨
    ∃ cs : List Addr, SqL K H a (cs.map V.ref) ∧ EachIs (fun b ns => H b = some (.tup (ns.map V.int))) cs nss
def rSortT (K : PySem.W.Frag) : List V → Hp → VK → Prop := fun xs H Q => ∃ (a : Addr) (nss : List (List Int)), xs = [.ref a] ∧ SrcT K H a nss ∧ (∀ ns ∈ nss, ns ≠ []) ∧ nss.length ≤ sizeLine ∧
  ∀ bs p, EachIs (fun b ns => H b = some (.tup (ns.map V.int))) bs (srt nss) → H p = none → Q (.ref p) (upd H p (.lst (bs.map V.ref)))
theorem depth_encT (ns : List Int) : (encT ns).depth ≤ 1 := by
  unfold encT
  rw [PyData.depth, depth_ints]
  exact Nat.le_refl _
theorem srt_len (nss : List (List Int)) : (srt nss).length = nss.length := by unfold srt; exact List.length_mergeSort _
theorem call_sortedT (hcalm : X.calm = true) (hu : X.A.units + 64 < cLine) : CallR X (.builtin "sorted") (rSortT X.K) := by
  intro pins s σ H xs us Q I r q
  obtain ⟨a, nss, ex, src, hne, hz, q⟩ := q
  subst ex
  obtain ⟨u, eu, rx⟩ := vals1 r
  subst eu
  cases rx
  have hal : AllAlike (nss.map encT) := AllAlike.of fun b b' => by simp [encT, alike, alike_ints]
  have hk : Sortable (nss.map encT) := .inl fun d hd => by
    obtain ⟨ns, hn, rfl⟩ := List.mem_map.mp hd
    cases ns with
    | nil => exact absurd rfl (hne _ hn)
    | cons x r => exact ⟨_, _, rfl⟩
  have esrt : nss.mergeSort (dataLe false encT) = srt nss := by
    have := dataLe_tups (fun ns : List Int => ns)
    unfold srt
    rw [← this]; rfl
  rcases src with ⟨kvs, hd, hks⟩ | ⟨cs, hq, hcs⟩
  · obtain ⟨z, lo, xs, pr, o, es, ep, ho, hx, hdt, he, hn⟩ := (show ObjOk X.prog X.w H s.heap a (.dT kvs) from I.hok a _ hd)
    have l1 : es.size = xs.length := size_of_entries he
    have l2 : kvs.length = xs.length := Paired.length pr
    have l3 : kvs.length = nss.length := by
      have e := congrArg List.length hks
      rw [List.length_map, List.length_map] at e
      exact e
    refine Calls.call_function_entry PyProof.Rows.kind_sorted PyProof.Rows.plain_sorted PyProof.Rows.entry_sorted (PyProof.Rows.args_sorted1 _) ?_
    unfold Builtin.«sorted»
    refine wpAny_bind (m := checkCount "sorted" 1 1 _) (wpAny_pure ?_)
    refine wpAny_bind (PySem.W.kdu_collect (A := X.A.in1) (kdl_raw lo hx hdt) (I.ok.hd hcalm) ho (by omega) fun h' tk acc hk' hacc => ?_)
    have hl0 : acc.toList.length = nss.length := by rw [Array.length_toList, hacc.1]; omega
    have ea : acc.toList = xs.map fun x => Value.ref x.2.1 := by
      have hl : acc.toList.length = xs.length := by rw [Array.length_toList, hacc.1]; exact l1
      apply List.ext_getElem?
      intro j
      rw [List.getElem?_map]
      cases hj : acc.toList[j]? with
      | none =>
        have h1 := List.getElem?_eq_none_iff.mp hj
        rw [List.getElem?_eq_none (by omega)]
        all_goals rfl
      | some v =>
        obtain ⟨en, hen, hv⟩ := hacc.2 j v (by rw [← Array.getElem?_toList]; exact hj)
        have qe := entry_at he j
        rw [hen] at qe
        cases hb : xs[j]? with
        | none =>
          rw [hb] at qe
          exact nomatch (show some en = none from qe)
        | some b =>
          rw [hb] at qe
          have e2 : en = entryOfKey (tupleKind (mixKind X.prog X.w)) b := Option.some.inj qe
          rw [hv, e2]
          all_goals rfl
    have each : ∀ (kvs : List (List Key × V)) (xs : List (List Key × Addr × Value)) (nss : List (List Int)), Paired (fun (p : List Key × V) (q : List Key × Addr × Value) => p.1 = q.1 ∧ H q.2.1 = some (.tup (p.1.map kV)) ∧ RelV p.2 q.2.2) kvs xs →
        kvs.map (·.1) = nss.map (fun ns => ns.map (Sum.inl : Int → Key)) → EachIs (IsTI H) (xs.map fun x => Value.ref x.2.1) nss := by
      intro kvs xs nss pr
      induction pr generalizing nss with
      | nil => intro e; cases nss with
        | nil => exact .nil
        | cons _ _ => cases e
      | cons h t ih => intro e; cases nss with
        | nil => cases e
        | cons n ns =>
          injection e with e1 e2
          refine .cons ⟨_, rfl, ?_⟩ (ih _ e2)
          have e1' := e1
          dsimp only at e1'
          rw [h.2.1, e1', key_map]
    have hS : EachIs (IsTI H) acc.toList nss := by rw [ea]; exact each kvs xs nss pr hks
    have I1 : Inv X pins σ H { s with heap := h', toks := tk } := I.kept hk'
    refine wpAny_bind (wpAny_newList ?_ (by rw [hl0]; exact hz))
    have hoL : (h'.push (seqObj "list" acc.toList.toArray 0)).get? h'.objs.size = some (seqObj "list" acc.toList.toArray 0) := Heap.get?_push_size _ rfl
    show wpAny _ _ _ _ _ { s with heap := h'.push (seqObj "list" acc.toList.toArray 0), toks := tk }
    have hr0 : EachIs (fun v b => ∃ as, Reads (sortingHeap (h'.push (seqObj "list" acc.toList.toArray 0)) h'.objs.size acc.toList) v (encT b) as) acc.toList nss := hS.mono fun v ns t => by
      obtain ⟨as, rd⟩ := reads_ti I1 t
      exact ⟨as, PyProof.Rows.Reads.keeps (fun b o e => by
        have hb : b < h'.objs.size := Heap.lt_size e
        exact sortingHeap_old (Nat.ne_of_lt hb) (Heap.get?_push_of_some _ e)) rd⟩
    refine wpAny_bind (wpAny_holding (wpAny_call_entry PyProof.Rows.slot_list_sort ⟨_, hoL, rfl⟩ PyProof.Rows.entry_list_sort
      (list_sort_vals (κ := dataKind (sortingHeap (h'.push (seqObj "list" acc.toList.toArray 0)) h'.objs.size acc.toList) (nss.map encT)) (s := { s with heap := h'.push (seqObj "list" acc.toList.toArray 0), toks := tk }) hoL
        (SortsAt.data (s := { s with heap := sortingHeap (h'.push (seqObj "list" acc.toList.toArray 0)) h'.objs.size acc.toList, toks := tk }) (each_map (R := fun v d => ∃ as, Reads (sortingHeap (h'.push (seqObj "list" acc.toList.toArray 0)) h'.objs.size acc.toList) v d as) encT hr0) hal hk (fun d hd => by
          obtain ⟨ns, _, rfl⟩ := List.mem_map.mp hd
          have := depth_encT ns
          show X.A.units + 1 + 1 + (encT ns).depth < cLine
          omega)) (by rw [hl0]; exact hz) ⟨_, rfl, ?_⟩)
      (PyProof.Rows.args_list_sort _)))
    have out := sortVals_data (h' := sortingHeap (h'.push (seqObj "list" acc.toList.toArray 0)) h'.objs.size acc.toList) (R := IsTI H) false hS hr0 hal
    rw [esrt] at out
    obtain ⟨bs, eb, hbs⟩ := isTI_refs out
    rw [eb]
    obtain ⟨e', he'⟩ := PyProof.Rows.sortedHeap_at (vs := acc.toList) (out := (bs.map Value.ref).toArray) hoL
    have hlen : (bs.map V.ref).length ≤ sizeLine := by
      rw [List.length_map, hbs.length, srt_len]; exact hz
    refine wpAny_pure ⟨_, rfl, .ref h'.objs.size, upd H h'.objs.size (.lst (bs.map V.ref)), I1.laid (t' := tk) (fun b u e => ?_) (Nat.le_refl _)
      (show ObjOk X.prog X.w _ _ _ (.lst (bs.map V.ref)) from ⟨hlen, bs.map Value.ref, e', vals_refs' bs, he'⟩), rfl, q bs _ hbs (I1.hok.fresh (Nat.le_refl _))⟩
    have hb : b < h'.objs.size := Heap.lt_size e
    rw [PyProof.Rows.sortedHeap_old (Nat.ne_of_lt hb) (by rw [size_push']; exact Nat.lt_succ_of_lt hb)]
    exact Heap.get?_push_of_some _ e
  · obtain ⟨its, rv, pl, hz2⟩ := I.list hq
    have each : ∀ (cs : List Addr) (its : List Value) (nss : List (List Int)), Vals (cs.map V.ref) its → EachIs (fun b ns => H b = some (.tup (ns.map V.int))) cs nss → EachIs (IsTI H) its nss := by
      intro cs
      induction cs with
      | nil => intro its nss rv h; cases rv; cases h; exact .nil
      | cons c cs ih => intro its nss rv h; cases rv with
        | cons r1 r2 => cases h with
          | cons h1 h2 => exact .cons ⟨c, r1, h1⟩ (ih _ _ r2 h2)
    have hS : EachIs (IsTI H) its nss := each cs its nss rv hcs
    refine sorted_data (R := IsTI H) (enc := encT) pl.isList hS (hS.mono fun v ns t => reads_ti I t) hal hk hz (fun ns _ => by
      have := depth_encT ns
      omega) fun out hlo hout => ?_
    rw [esrt] at hout
    obtain ⟨bs, eb, hbs⟩ := isTI_refs hout
    subst eb
    obtain ⟨e', he'⟩ := PyProof.Rows.sortedAll_at s.heap its (bs.map Value.ref).toArray
    have hlen : (bs.map V.ref).length ≤ sizeLine := by
      rw [List.length_map, hbs.length, srt_len]; exact hz
    exact ⟨.ref (s.heap.objs.size + 1), upd H (s.heap.objs.size + 1) (.lst (bs.map V.ref)), I.laid (t' := s.toks) (fun b u e => PyProof.Rows.sortedAll_old e) (Nat.le_succ _)
      (show ObjOk X.prog X.w _ _ _ (.lst (bs.map V.ref)) from ⟨hlen, bs.map Value.ref, e', vals_refs' bs, he'⟩), rfl, q bs _ hbs (I.hok.fresh (Nat.le_succ _))⟩
/-- a tuple of ints as a value -/
def tI (ns : List Int) : D := .tup (ns.map .int)
theorem rps_tI {K : PySem.W.Frag} {H : Hp} : ∀ {bs : List Addr} {nss : List (List Int)}, EachIs (fun b ns => H b = some (.tup (ns.map V.int))) bs nss → (∀ ns ∈ nss, ns.length ≤ sizeLine) → Rps K H (nss.map tI) (bs.map V.ref)
  | _, _, .nil, _ => Rps.nil
  | _, _, .cons (b := ns) h t, hl => Rps.cons (by unfold tI; simp only [Rp]; exact ⟨_, _, rfl, h, by rw [List.length_map]; exact hl _ List.mem_cons_self, Rps.of_ints ns⟩) (rps_tI t fun n hn => hl n (List.mem_cons_of_mem _ hn))
theorem each_of_rps {K : PySem.W.Frag} {H : Hp} : ∀ {nss : List (List Int)} {vs : List V}, Rps K H (nss.map tI) vs → (∃ cs : List Addr, vs = cs.map V.ref ∧ EachIs (fun b ns => H b = some (.tup (ns.map V.int))) cs nss) ∧ ∀ ns ∈ nss, ns.length ≤ sizeLine
  | [], _, h => by simp only [List.map_nil, Rps] at h; subst h; exact ⟨⟨[], rfl, .nil⟩, fun _ h => by cases h⟩
  | n :: r, _, h => by
    simp only [List.map_cons, Rps] at h
    obtain ⟨v, w, rfl, h1, h2⟩ := h
    obtain ⟨⟨cs, rfl, e⟩, hl⟩ := each_of_rps h2
    unfold tI at h1
    simp only [Rp] at h1
    obtain ⟨a, vs, rfl, ha, hz, rr⟩ := h1
    have ev := rr.ints
    subst ev
    refine ⟨⟨a :: cs, rfl, .cons ha e⟩, fun ns hn => ?_⟩
    rcases List.mem_cons.mp hn with rfl | hn
    · rw [List.length_map] at hz; exact hz
    · exact hl ns hn
/-- sorted(d), sorted(xs) -/
def cSort : List D → Sto → KE → Prop := fun vs S Q => match vs with
  | [.ref a] => ∃ nss, ((∃ kvs, S a = some (.dI kvs) ∧ nss = kvs.map (·.1) ∧ (∀ ns ∈ nss, ns.length ≤ 10000000)) ∨ rdL S a (nss.map tI)) ∧ (∀ ns ∈ nss, ns ≠ []) ∧ nss.length ≤ 10000000 ∧ ∀ p, S p = none → Q (.ref p) (put S p (.lst ((srt nss).map tI)))
  | _ => False
theorem ca_sort {K : PySem.W.Frag} : CaV K cSort (rSortT K) := by
  intro H S xs us Q R o r h k
  unfold cSort at h
  split at h
  · rename_i a
    obtain ⟨nss, src, hne, hz, h⟩ := h
    simp only [Rps, Rp] at r; obtain ⟨v, w, rfl, rfl, rfl⟩ := r
    have fin : (∀ ns ∈ nss, ns.length ≤ sizeLine) → ∀ bs p, EachIs (fun b ns => H b = some (.tup (ns.map V.int))) bs (srt nss) → H p = none → R (.ref p) (upd H p (.lst (bs.map V.ref))) := fun hl bs p he hp => by
      have hl2 : ∀ ns ∈ srt nss, ns.length ≤ sizeLine := fun ns hn => hl ns (List.mem_mergeSort.mp hn)
      refine k _ _ _ _ (h p (o.nope hp)) (Go.new hp) (by simp only [Rp]) (o.new hp ⟨_, rfl, ?_, Rps.mono (TL.new hp) _ _ (rps_tI he hl2)⟩)
      rw [List.length_map, he.length, srt_len]; exact line10 hz
    rcases src with ⟨kvs, ha, rfl, hl⟩ | hr
    · obtain ⟨ws, ea, zw, kv⟩ := o.dI ha
      refine ⟨a, _, rfl, .inl ⟨ws, ea, ?_⟩, hne, line10 hz, fin fun ns hn => line10 (hl ns hn)⟩
      rw [List.map_map]
      clear hl fin h hz hne ha ea zw
      induction kv with
      | nil => rfl
      | cons h t ih => rw [List.map_cons, List.map_cons, ih, h.1]; rfl
    · obtain ⟨vs, hq, zv, rr⟩ := hr.sq o
      obtain ⟨⟨cs, rfl, e⟩, hl⟩ := each_of_rps rr
      exact ⟨a, nss, rfl, .inr ⟨cs, hq, e⟩, hne, line10 hz, fin hl⟩
  · exact h.elim
end
end VL
/-! VL9: calls by keywords alone; how keywords bind; a law's own promise. -/
namespace VL
open PySem PySem.Spec PyProof.Rows L2
section
variable {X : Cx} {en : Ent} {CX : CXT} {k : Nat} {f : Addr} {fd : FuncData} {ps ks : List Str}
theorem pe_callK0 {sp : Sp} {E : XK} {x : Str} {p pos : Pos} {kws : List Keyword} {tk : TA} {g : List Value → List Value → List Value} {gV : List V → List V → List V} (F : FnOk X.prog X.w X.K X.mg X.base CX k f fd ps sp) (hr : Room k X.A) (hg : Gl X x) (hm : X.mg x = some (.ref f)) (hk : PySem.W.keepIn X.K (.ref f) = true) (hb : KBinds X.K fd ps ks g gV) (hx : Passes CX X E)
    (hkw : PK X kws tk) (hall : (backToKw pos (keywordEach kws X.env)).all (·.1.isSome) = true := by rfl) (hks : (backToKw pos (keywordEach kws X.env)).filterMap (·.1) = ks := by rfl)
    (hdb : (x == ("__debug__" : Str)) = false := by decide)
    (hpl : ((backTo pos (starEach [] X.env)).any (·.1) || (backToKw pos (keywordEach kws X.env)).any (·.1.isNone)) = false := by rfl) :
    PE X (.Call (.Name x p) [] kws pos) (tCallK sp gV E tNil tk) := by
  refine ⟨fun pins s σ H Q I h => ?_⟩
  refine wpAny_Call_Name_kw (ld_glob I hg hm ?_ hdb)
  refine PySem.W.callWith_KW0 (h₀ := X.base) I.ok.mod.kin hk hall (thn (hkw.run pos pins s σ H _ I h) fun ws s2 ⟨zs, H2, I2, rz, q2⟩ => ⟨I2.kIn, ?_⟩) hpl
  rw [hks]
  exact run_fnk F hr hb hx I2 .nil rz q2
/-- how keywords bind, by one function on lists of any kind -/
structure KwOk (K : PySem.W.Frag) (fd : FuncData) (ps ks : List Str) (g : {α : Type} → List α → List α → List α) : Prop where
  to : ∀ (s : Shared) (us ws : List Value), K.In s.heap → (g us ws).length = ps.length → BindsTo s fd ⟨us, ks.zip ws⟩ (ps.zip (g us ws))
  rel : ∀ {vs : List V} {us : List Value} {zs : List V} {ws : List Value}, Vals vs us → Vals zs ws → Vals (g vs zs) (g us ws)
  rps : ∀ (H : Hp) ds es us ws, Rps K H ds us → Rps K H es ws → Rps K H (g ds es) (g us ws)
/-- the positional values and the keywords' values, put in order -/
def kwg (n m : Nat) (ix : List Nat) {α : Type} (us ws : List α) : List α := if us.length = n ∧ ws.length = m then ix.filterMap fun i => (us ++ ws)[i]? else []
theorem pairedF {α β : Type} {R : α → β → Prop} {vs : List α} {us : List β} (h : ∀ i : Nat, (vs[i]? = none ∧ us[i]? = none) ∨ ∃ v u, vs[i]? = some v ∧ us[i]? = some u ∧ R v u) : ∀ ix : List Nat, Paired R (ix.filterMap fun i => vs[i]?) (ix.filterMap fun i => us[i]?)
  | [] => .nil
  | i :: ix => by
    rcases h i with ⟨a, b⟩ | ⟨v, u, a, b, r⟩
    · rw [List.filterMap_cons, List.filterMap_cons, a, b]; exact pairedF h ix
    · rw [List.filterMap_cons, List.filterMap_cons, a, b]; exact .cons r (pairedF h ix)
theorem rps_paired {K : PySem.W.Frag} {H : Hp} : ∀ {ds : List D} {vs : List V}, Rps K H ds vs → Paired (Rp K H) ds vs
  | [], _, h => by simp only [Rps] at h; subst h; exact .nil
  | x :: xs, _, h => by
    simp only [Rps] at h
    obtain ⟨v, r, rfl, q, s⟩ := h
    exact .cons q (rps_paired s)
theorem paired_rps {K : PySem.W.Frag} {H : Hp} : ∀ {ds : List D} {vs : List V}, Paired (Rp K H) ds vs → Rps K H ds vs
  | _, _, .nil => Rps.nil
  | _, _, .cons h t => Rps.cons h (paired_rps t)
theorem paired_at {α β : Type} {R : α → β → Prop} : ∀ {vs : List α} {us : List β}, Paired R vs us → ∀ i : Nat, (vs[i]? = none ∧ us[i]? = none) ∨ ∃ v u, vs[i]? = some v ∧ us[i]? = some u ∧ R v u
  | _, _, .nil, i => .inl ⟨by simp, by simp⟩
  | _, _, .cons h t, 0 => .inr ⟨_, _, rfl, rfl, h⟩
  | _, _, .cons h t, i + 1 => by simpa using paired_at t i
theorem paired_app {α β : Type} {R : α → β → Prop} : ∀ {a c : List α} {b d : List β}, Paired R a b → Paired R c d → Paired R (a ++ c) (b ++ d)
  | _, _, _, _, .nil, s => s
  | _, _, _, _, .cons h t, s => .cons h (paired_app t s)
theorem kwg_paired {α β : Type} {R : α → β → Prop} {n m : Nat} {ix : List Nat} {vs zs : List α} {us ws : List β} (r : Paired R vs us) (q : Paired R zs ws) : Paired R (kwg n m ix vs zs) (kwg n m ix us ws) := by
  unfold kwg
  rw [Paired.length r, Paired.length q]
  split
  · exact pairedF (paired_at (paired_app r q)) ix
  · exact .nil
theorem kwok {K : PySem.W.Frag} {n m : Nat} {ix : List Nat} (hps : 0 < ps.length) (to : ∀ (s : Shared) (us ws : List Value), us.length = n → ws.length = m → BindsTo s fd ⟨us, ks.zip ws⟩ (ps.zip (kwg n m ix us ws))) : KwOk K fd ps ks (kwg n m ix) where
  to := fun s us ws _ hl => by
    by_cases h : us.length = n ∧ ws.length = m
    · exact to s us ws h.1 h.2
    · unfold kwg at hl
      rw [if_neg h] at hl
      simp at hl
      omega
  rel := fun r q => kwg_paired r q
  rps := fun H ds es us ws r q => paired_rps (kwg_paired (rps_paired r) (rps_paired q))
theorem ve_callKw {g : {α : Type} → List α → List α → List α} {sp : SpV} {E0 : XC} {E : XK} {x : Str} {e : Expr} {es : List Expr} {kws : List Keyword} {ts tks : List RE} {p pos : Pos} (F : FnOk X.prog X.w X.K X.mg X.base CX k f fd ps (lowSp X.K sp)) (hr : Room k X.A) (hg : Gl X x) (hm : X.mg x = some (.ref f)) (hk : PySem.W.keepIn X.K (.ref f) = true) (hb : KwOk X.K fd ps ks g) (hx : Passes CX X E) (h0 : XE0 X.K en E0 E)
    (ha : VA X en (e :: es) ts) (hkw : VK' X en kws tks) (hall : (backToKw pos (keywordEach kws X.env)).all (·.1.isSome) = true := by rfl) (hks : (backToKw pos (keywordEach kws X.env)).filterMap (·.1) = ks := by rfl)
    (hdb : (x == ("__debug__" : Str)) = false := by decide) (he : starEach (e :: es) X.env = (false, eval e X.env) :: starEach es X.env := by rfl)
    (hpl : ((backTo pos (starEach (e :: es) X.env)).any (·.1) || (backToKw pos (keywordEach kws X.env)).any (·.1.isNone)) = false := by rfl) :
    VE X en (.Call (.Name x p) (e :: es) kws pos) (eCallK sp g E0 ts tks) :=
  ve_callK F hr hg hm hk ⟨hb.to, hb.rel⟩ hx h0 hb.rps ha hkw hall hks hdb he hpl
theorem ve_callKw0 {g : {α : Type} → List α → List α → List α} {sp : SpV} {E0 : XC} {E : XK} {x : Str} {kws : List Keyword} {tks : List RE} {p pos : Pos} (F : FnOk X.prog X.w X.K X.mg X.base CX k f fd ps (lowSp X.K sp)) (hr : Room k X.A) (hg : Gl X x) (hm : X.mg x = some (.ref f)) (hk : PySem.W.keepIn X.K (.ref f) = true) (hb : KwOk X.K fd ps ks g) (hx : Passes CX X E) (h0 : XE0 X.K en E0 E)
    (hkw : VK' X en kws tks) (hall : (backToKw pos (keywordEach kws X.env)).all (·.1.isSome) = true := by rfl) (hks : (backToKw pos (keywordEach kws X.env)).filterMap (·.1) = ks := by rfl)
    (hdb : (x == ("__debug__" : Str)) = false := by decide)
    (hpl : ((backTo pos (starEach [] X.env)).any (·.1) || (backToKw pos (keywordEach kws X.env)).any (·.1.isNone)) = false := by rfl) :
    VE X en (.Call (.Name x p) [] kws pos) (eCallK sp g E0 [] tks) := PE.imp (pe_callK0 F hr hg hm hk ⟨hb.to, hb.rel⟩ hx hkw hall hks hdb hpl) fun σ H Q h => by
  obtain ⟨τ, S, Q0, hs, ho, q, k⟩ := h
  refine args_ok hs ho q fun es S2 ws H2 q2 g2 r2 hz2 o2 => ?_
  exact ⟨g [] es, S2, Q0, E0, hb.rps H2 _ _ _ _ Rps.nil r2, o2.so, q2, fun d S3 v H3 q3 g3 r3 o3 => k d S3 v H3 q3 (g2.trans g3) r3 (o2.go g3 o3), h0.at o2⟩
end
/-- what the law promises, over its script -/
def spLawV : SpV := fun ds S Q _ => ∃ ns : List Int, ds = [.scr ns] ∧ ns.length ≤ 63 ∧ ∀ S', Q (.bl true) S'
def empS : Sto := fun _ => none
/-- the law's promise as the end wants it -/
theorem law_low {K : PySem.W.Frag} {H : Hp} {a : Addr} {ns : List Int} (hl : ns.length ≤ 63) (hO : Only H) (hS : SqL K H a (ns.map V.int)) :
    lowSp K spLawV [.ref a] H (fun v _ => v = .bl true) fun _ _ _ => False := by
  refine ⟨[.scr ns], empS, fun d _ => d = .bl true, fun _ _ _ => False, Rps.one ?_, (fun _ _ h => by cases h), ⟨ns, rfl, hl, fun _ => rfl⟩, fun d S' v H' q g r o => ?_, fun _ _ _ _ _ _ h => h.elim⟩
  · simp only [Rp]
    refine ⟨a, rfl, ?_, Nat.le_trans hl (by decide)⟩
    rcases hS with (h | ⟨o, h⟩) | h
    · rcases hO a with n | ⟨o, xs, e⟩
      · rw [n] at h; cases h
      · rw [e] at h; cases h
    · exact .inl ⟨o, h⟩
    · exact .inr h
  · subst q
    simp only [Rp] at r
    exact r
end VL
/-! VL10: readings in plain words, for simp. -/
namespace VL
open PySem PySem.Spec PyProof.Rows L2
theorem int_map_inj : ∀ {a b : List Int}, a.map D.int = b.map D.int → a = b
  | [], [], _ => rfl
  | x :: a, y :: b, h => by
    injection h with h1 h2
    injection h1 with h1
    rw [h1, int_map_inj h2]
  | [], _ :: _, h => by cases h
  | _ :: _, [], h => by cases h
theorem tI_inj {a b : List Int} (h : tI a = tI b) : a = b := by
  unfold tI at h
  injection h with h
  exact int_map_inj h
theorem vLt_tI {a b : List Int} {S : Sto} {Q : KE} : vLt (tI a) (tI b) S Q = Q (.bl (HT.lexLt a b)) S := by
  unfold tI
  simp only [vLt]
  refine propext ⟨fun ⟨ns, ms, h1, h2, h⟩ => ?_, fun h => ⟨a, b, rfl, rfl, h⟩⟩
  rw [int_map_inj h1, int_map_inj h2]; exact h
theorem cLen_tI {a : List Int} {S : Sto} {Q : KE} : cLen [tI a] S Q = Q (.int a.length) S := by
  unfold tI
  simp only [cLen, List.length_map]
theorem vDGet_tI {a : Addr} {k : List Int} {S : Sto} {Q : KE} : vDGet (.ref a) (tI k) S Q = ∃ kvs d, S a = some (.dI kvs) ∧ lkD kvs k = some d ∧ Q d S := by
  unfold tI
  simp only [vDGet]
  refine propext ⟨fun ⟨kvs, ns, d, h0, h1, h⟩ => ?_, fun ⟨kvs, d, h⟩ => ⟨kvs, k, d, h.1, rfl, h.2⟩⟩
  rw [int_map_inj h1]; exact ⟨kvs, d, h0, h⟩
theorem vDPut_tI {a : Addr} {k : List Int} {v : D} {S : Sto} {Q : Sto → Prop} : vDPut (.ref a) (tI k) v S Q = ∃ kvs, S a = some (.dI kvs) ∧ kvs.length < 10000000 ∧ Q (put S a (.dI (puD kvs k v))) := by
  unfold tI
  simp only [vDPut]
  refine propext ⟨fun ⟨kvs, ns, h0, h1, h⟩ => ?_, fun ⟨kvs, h⟩ => ⟨kvs, k, h.1, rfl, h.2⟩⟩
  rw [int_map_inj h1]; exact ⟨kvs, h0, h⟩
theorem vDGet2_tI {a : Addr} {k : List Int} {z : D} {S : Sto} {Q : KE} : vDGet2 (.ref a) (tI k) z S Q = ∃ kvs, S a = some (.dI kvs) ∧ Q ((lkD kvs k).getD z) S := by
  unfold tI
  simp only [vDGet2]
  refine propext ⟨fun ⟨kvs, ns, h0, h1, h⟩ => ?_, fun ⟨kvs, h⟩ => ⟨kvs, k, h.1, rfl, h.2⟩⟩
  rw [int_map_inj h1]; exact ⟨kvs, h0, h⟩
theorem cList_tI {a : List Int} {S : Sto} {Q : KE} : cList [tI a] S Q = ∀ p, S p = none → Q (.ref p) (put S p (.lst (a.map .int))) := rfl
theorem rdL_lst {S : Sto} {a : Addr} {xs ys : List D} (h : S a = some (.lst ys)) : rdL S a xs = (ys = xs) := by
  unfold rdL
  rw [h]
  refine propext ⟨fun z => ?_, fun z => .inl (by rw [z])⟩
  rcases z with z | z
  · injection z with z; injection z
  · cases z
/-- a place of a written list -/
theorem atI_0 {α : Type} {x : α} {r : List α} : L2.atI (x :: r) 0 = some x := by unfold L2.atI ixN; rw [if_pos (by omega), if_pos (by rw [List.length_cons]; omega)]; rfl
theorem atI_get {α : Type} {xs : List α} {i : Int} (h0 : 0 ≤ i) (h1 : i < xs.length) : L2.atI xs i = xs[i.toNat]? := by
  unfold L2.atI ixN
  rw [if_pos h0, if_pos h1]; rfl
/-- products that fit -/
theorem mul_fits {i j : Int} {a b : Nat} (ha : i.natAbs < 2 ^ a) (hb : j.natAbs < 2 ^ b) (h : a + b ≤ 134217728 := by decide) : IntMulOk i j := (mulx_ok ha hb h).ok
theorem natAbs_lt {i : Int} {n : Nat} (h1 : -(n : Int) < i) (h2 : i < n) : i.natAbs < n := by omega
theorem log2_fits {j : Int} {a : Nat} (h0 : 0 < a) (h : j.natAbs < 2 ^ a) (ha : a ≤ 9000 := by decide) : j.natAbs.log2 < 9000 := Nat.lt_of_lt_of_le (PySem.Flt.log2_lt_of h0 h) ha
theorem fmod_range {i j : Int} (h : 0 < j) : 0 ≤ i.fmod j ∧ i.fmod j < j := by
  rw [Int.fmod_eq_emod_of_nonneg i (by omega)]
  exact ⟨Int.emod_nonneg i (by omega), Int.emod_lt_of_pos i h⟩
theorem fdiv_nonneg {i j : Int} (h0 : 0 ≤ i) (h : 0 < j) : 0 ≤ i.fdiv j := by
  rw [Int.fdiv_eq_ediv_of_nonneg i (by omega)]
  exact Int.ediv_nonneg h0 (by omega)
/-! ### the stock of draws -/
structure Wd where
  cells : List Int
  op : Int
  x : Int
  k : Int
/-- the stock at a, its list of cells at c, over all else -/
def stk (F : Sto) (a c : Addr) (w : Wd) : Sto := put (put F c (.lst (w.cells.map .int))) a (.lst [.ref c, .int w.op, .int w.x, .int w.k])
structure Wok (w : Wd) (n : Int) : Prop where
  cells : ∀ z ∈ w.cells, 0 ≤ z
  op : 0 ≤ w.op
  x0 : 0 ≤ w.x
  x1 : w.x ≤ 10000000000000066
  k0 : 0 ≤ w.k
  k1 : w.k ≤ n
theorem Wok.mono {w : Wd} {n m : Int} (h : Wok w n) (l : n ≤ m) : Wok w m := ⟨h.cells, h.op, h.x0, h.x1, h.k0, Int.le_trans h.k1 l⟩
/-- where the stock may stand -/
structure Ap (F : Sto) (a c : Addr) : Prop where
  ne : a ≠ c
  a : F a = none
  c : F c = none
section
variable {F : Sto} {a c : Addr} {w : Wd}
theorem stk_a : stk F a c w a = some (.lst [.ref c, .int w.op, .int w.x, .int w.k]) := put_same
theorem stk_c (h : Ap F a c) : stk F a c w c = some (.lst (w.cells.map .int)) := by unfold stk; rw [put_ne h.ne.symm, put_same]
theorem stk_le (h : Ap F a c) : Le F (stk F a c w) := fun b o e => by
  unfold stk
  rw [put_ne (sne e h.a), put_ne (sne e h.c)]; exact e
theorem stk_none (h : Ap F a c) {p : Addr} (e : stk F a c w p = none) : F p = none ∧ p ≠ a ∧ p ≠ c := by
  have h1 : p ≠ a := by rintro rfl; rw [stk_a] at e; cases e
  have h2 : p ≠ c := by rintro rfl; rw [stk_c h] at e; cases e
  refine ⟨?_, h1, h2⟩
  unfold stk at e
  rw [put_ne h1, put_ne h2] at e; exact e
theorem put_stk_a {o x k : Int} : put (stk F a c w) a (.lst [.ref c, .int o, .int x, .int k]) = stk F a c ⟨w.cells, o, x, k⟩ := by unfold stk; rw [put_put]
theorem put_comm {S : Sto} {p q : Addr} {o u : MO} (h : p ≠ q) : put (put S p o) q u = put (put S q u) p o := by
  funext b; unfold put
  by_cases h1 : b = q
  · subst h1; rw [if_pos rfl, if_neg h.symm, if_pos rfl]
  · rw [if_neg h1, if_neg h1]
theorem put_stk_c (h : Ap F a c) {cs : List Int} : put (stk F a c w) c (.lst (cs.map .int)) = stk F a c ⟨cs, w.op, w.x, w.k⟩ := by
  unfold stk
  rw [put_comm h.ne, put_put]
/-- another object beside the stock -/
theorem put_stk (h : Ap F a c) {p : Addr} {o : MO} (hp : p ≠ a) (hc : p ≠ c) : put (stk F a c w) p o = stk (put F p o) a c w := by
  unfold stk
  rw [put_comm hp.symm, put_comm hc.symm]
theorem Ap.nw (h : Ap F a c) {p : Addr} {o : MO} (hp : p ≠ a) (hc : p ≠ c) : Ap (put F p o) a c := ⟨h.ne, by rw [put_ne hp.symm]; exact h.a, by rw [put_ne hc.symm]; exact h.c⟩
end
section
variable {F F' : Sto} {a c : Addr} {w : Wd} {Q : KE}
theorem stk_mono (l : Le F F') : Le (stk F a c w) (stk F' a c w) := (l.put).put
theorem vIx_stk0 : vIx (.ref a) (.int 0) (stk F a c w) Q = Q (.ref c) (stk F a c w) := by
  simp only [vIx, rdL_lst stk_a]
  exact propext ⟨fun ⟨xs, d, e, h1, h⟩ => by subst e; rw [atI_get (by decide) (by simp)] at h1; cases h1; exact h, fun h => ⟨_, _, rfl, by rw [atI_get (by decide) (by simp)]; rfl, h⟩⟩
theorem vIx_stk1 : vIx (.ref a) (.int 1) (stk F a c w) Q = Q (.int w.op) (stk F a c w) := by
  simp only [vIx, rdL_lst stk_a]
  exact propext ⟨fun ⟨xs, d, e, h1, h⟩ => by subst e; rw [atI_get (by decide) (by simp)] at h1; cases h1; exact h, fun h => ⟨_, _, rfl, by rw [atI_get (by decide) (by simp)]; rfl, h⟩⟩
theorem vIx_stk2 : vIx (.ref a) (.int 2) (stk F a c w) Q = Q (.int w.x) (stk F a c w) := by
  simp only [vIx, rdL_lst stk_a]
  exact propext ⟨fun ⟨xs, d, e, h1, h⟩ => by subst e; rw [atI_get (by decide) (by simp)] at h1; cases h1; exact h, fun h => ⟨_, _, rfl, by rw [atI_get (by decide) (by simp)]; rfl, h⟩⟩
theorem vIx_stk3 : vIx (.ref a) (.int 3) (stk F a c w) Q = Q (.int w.k) (stk F a c w) := by
  simp only [vIx, rdL_lst stk_a]
  exact propext ⟨fun ⟨xs, d, e, h1, h⟩ => by subst e; rw [atI_get (by decide) (by simp)] at h1; cases h1; exact h, fun h => ⟨_, _, rfl, by rw [atI_get (by decide) (by simp)]; rfl, h⟩⟩
theorem vLSet_stk1 {i : Int} {k : Sto → Prop} : vLSet (.ref a) (.int 1) (.int i) (stk F a c w) k = k (stk F a c ⟨w.cells, i, w.x, w.k⟩) := by
  simp only [vLSet, stk_a]
  refine propext ⟨fun ⟨xs, j, e, h1, h⟩ => ?_, fun h => ⟨_, 1, rfl, rfl, ?_⟩⟩
  · cases e
    have : j = 1 := by have h2 : some 1 = some j := h1; exact (Option.some.inj h2).symm
    subst this
    have q : put (stk F a c w) a (.lst ([D.ref c, .int w.op, .int w.x, .int w.k].set 1 (.int i))) = _ := put_stk_a (F := F) (c := c) (w := w) (o := i) (x := w.x) (k := w.k)
    rw [q] at h; exact h
  · have q : put (stk F a c w) a (.lst ([D.ref c, .int w.op, .int w.x, .int w.k].set 1 (.int i))) = _ := put_stk_a (F := F) (c := c) (w := w) (o := i) (x := w.x) (k := w.k)
    rw [q]; exact h
theorem vLSet_stk2 {i : Int} {k : Sto → Prop} : vLSet (.ref a) (.int 2) (.int i) (stk F a c w) k = k (stk F a c ⟨w.cells, w.op, i, w.k⟩) := by
  simp only [vLSet, stk_a]
  refine propext ⟨fun ⟨xs, j, e, h1, h⟩ => ?_, fun h => ⟨_, 2, rfl, rfl, ?_⟩⟩
  · cases e
    have : j = 2 := by have h2 : some 2 = some j := h1; exact (Option.some.inj h2).symm
    subst this
    have q : put (stk F a c w) a (.lst ([D.ref c, .int w.op, .int w.x, .int w.k].set 2 (.int i))) = _ := put_stk_a (F := F) (c := c) (w := w) (o := w.op) (x := i) (k := w.k)
    rw [q] at h; exact h
  · have q : put (stk F a c w) a (.lst ([D.ref c, .int w.op, .int w.x, .int w.k].set 2 (.int i))) = _ := put_stk_a (F := F) (c := c) (w := w) (o := w.op) (x := i) (k := w.k)
    rw [q]; exact h
theorem vLSet_stk3 {i : Int} {k : Sto → Prop} : vLSet (.ref a) (.int 3) (.int i) (stk F a c w) k = k (stk F a c ⟨w.cells, w.op, w.x, i⟩) := by
  simp only [vLSet, stk_a]
  refine propext ⟨fun ⟨xs, j, e, h1, h⟩ => ?_, fun h => ⟨_, 3, rfl, rfl, ?_⟩⟩
  · cases e
    have : j = 3 := by have h2 : some 3 = some j := h1; exact (Option.some.inj h2).symm
    subst this
    have q : put (stk F a c w) a (.lst ([D.ref c, .int w.op, .int w.x, .int w.k].set 3 (.int i))) = _ := put_stk_a (F := F) (c := c) (w := w) (o := w.op) (x := w.x) (k := i)
    rw [q] at h; exact h
  · have q : put (stk F a c w) a (.lst ([D.ref c, .int w.op, .int w.x, .int w.k].set 3 (.int i))) = _ := put_stk_a (F := F) (c := c) (w := w) (o := w.op) (x := w.x) (k := i)
    rw [q]; exact h
end
section
variable {S : Sto} {Q : KE}
theorem vAdd_int {i j : Int} : vAdd (.int i) (.int j) S Q = Q (.int (i + j)) S := rfl
theorem vAdd_ib {i : Int} {b : Bool} : vAdd (.int i) (.bl b) S Q = Q (.int (i + b2i b)) S := rfl
theorem vAdd_str {a b : Str} : vAdd (.str a) (.str b) S Q = (a.length + b.length ≤ 10000000 ∧ Q (.str (a ++ b)) S) := rfl
theorem vAdd_tup {a b : List D} : vAdd (.tup a) (.tup b) S Q = (a.length + b.length ≤ 10000000 ∧ Q (.tup (a ++ b)) S) := rfl
theorem vAdd_tI {a b : List Int} : vAdd (tI a) (tI b) S Q = (a.length + b.length ≤ 10000000 ∧ Q (tI (a ++ b)) S) := by
  unfold tI; simp only [vAdd, List.length_map, List.map_append]
theorem vAdd_ref {a b : Addr} : vAdd (.ref a) (.ref b) S Q = ∃ xs ys, S a = some (.lst xs) ∧ S b = some (.lst ys) ∧ xs.length + ys.length ≤ 10000000 ∧ ∀ p, S p = none → Q (.ref p) (put S p (.lst (xs ++ ys))) := rfl
theorem vMul_int {i j : Int} : vMul (.int i) (.int j) S Q = (IntMulOk i j ∧ Q (.int (i * j)) S) := rfl
theorem vMul_ref {a : Addr} {k : Int} : vMul (.ref a) (.int k) S Q = ∃ xs, S a = some (.lst xs) ∧ (-1000000 ≤ k ∧ k ≤ 1000000 ∧ xs.length * k.toNat ≤ 10000000) ∧ ∀ p, S p = none → Q (.ref p) (put S p (.lst (List.replicate k.toNat xs).flatten)) := rfl
theorem vMul_tup {xs : List D} {k : Int} : vMul (.tup xs) (.int k) S Q = ((xs ≠ [] ∧ -1000 ≤ k ∧ k ≤ 1000 ∧ xs.length ≤ 1000) ∧ Q (.tup (List.replicate k.toNat xs).flatten) S) := rfl
theorem vIsN_non  : vIsN .non .non S Q = Q (.bl true) S := rfl
theorem vNotN_non  : vNotN .non .non S Q = Q (.bl false) S := rfl
theorem vIsN_int {i : Int} : vIsN (.int i) .non S Q = Q (.bl false) S := rfl
theorem vNotN_int {i : Int} : vNotN (.int i) .non S Q = Q (.bl true) S := rfl
theorem vIsN_bl {b : Bool} : vIsN (.bl b) .non S Q = Q (.bl false) S := rfl
theorem vNotN_bl {b : Bool} : vNotN (.bl b) .non S Q = Q (.bl true) S := rfl
theorem vIsN_str {z : Str} : vIsN (.str z) .non S Q = Q (.bl false) S := rfl
theorem vNotN_str {z : Str} : vNotN (.str z) .non S Q = Q (.bl true) S := rfl
theorem vIsN_ref {a : Addr} : vIsN (.ref a) .non S Q = Q (.bl false) S := rfl
theorem vNotN_ref {a : Addr} : vNotN (.ref a) .non S Q = Q (.bl true) S := rfl
theorem vIsN_tup {xs : List D} : vIsN (.tup xs) .non S Q = Q (.bl false) S := rfl
theorem vNotN_tup {xs : List D} : vNotN (.tup xs) .non S Q = Q (.bl true) S := rfl
theorem vIsN_tI {l : List Int} : vIsN (tI l) .non S Q = Q (.bl false) S := rfl
theorem vNotN_tI {l : List Int} : vNotN (tI l) .non S Q = Q (.bl true) S := rfl
theorem vLt_int {i j : Int} : vLt (.int i) (.int j) S Q = Q (.bl (decide (i < j))) S := rfl
theorem cLen_tup {xs : List D} : cLen [.tup xs] S Q = Q (.int xs.length) S := rfl
theorem cLen_scr {xs : List Int} : cLen [.scr xs] S Q = Q (.int xs.length) S := rfl
theorem cLen_str {z : Str} : cLen [.str z] S Q = (z.length ≤ 10000000 ∧ Q (.int z.length) S) := rfl
theorem cLen_ref {a : Addr} : cLen [.ref a] S Q = ∃ xs, rdL S a xs ∧ Q (.int xs.length) S := rfl
theorem vEq_int {i j : Int} : vEq (.int i) (.int j) S Q = Q (.bl (decide (i = j))) S := rfl
theorem vEq_bl {i j : Bool} : vEq (.bl i) (.bl j) S Q = Q (.bl (decide (i = j))) S := rfl
theorem vEq_str {i j : Str} : vEq (.str i) (.str j) S Q = Q (.bl (decide (i = j))) S := rfl
theorem vNe_int {i j : Int} : vNe (.int i) (.int j) S Q = Q (.bl (!decide (i = j))) S := rfl
theorem vNe_bl {i j : Bool} : vNe (.bl i) (.bl j) S Q = Q (.bl (!decide (i = j))) S := rfl
theorem vNe_str {i j : Str} : vNe (.str i) (.str j) S Q = Q (.bl (!decide (i = j))) S := rfl
end
/-- lists of ints as data -/
theorem pd_ints {S : Sto} {b : Addr} {ns : List Int} (h : rdL S b (ns.map .int)) : Pd S (.ref b) (.list (ns.map .int)) :=
  .lst h (by rw [List.length_map, List.length_map]) fun i x d e1 e2 => by
    rw [List.getElem?_map] at e1 e2
    cases q : ns[i]? with
    | none => rw [q] at e1; cases e1
    | some n => rw [q] at e1 e2; cases e1; cases e2; exact .int n
theorem shaped_li (ns : List Int) : SeqAt.shaped (.list (ns.map .int)) = true := PySem.W.shaped_ints ns
theorem eqvAll_ints : ∀ ns ms : List Int, PyData.eqvAll (ns.map .int) (ms.map .int) = decide (ns = ms)
  | [], [] => rfl
  | [], _ :: _ => by simp [PyData.eqvAll]
  | _ :: _, [] => by simp [PyData.eqvAll]
  | x :: xs, y :: ys => by
    show PyData.eqvAll (.int x :: xs.map .int) (.int y :: ys.map .int) = _
    rw [PyData.eqvAll, eqvAll_ints xs ys]
    by_cases h : x = y <;> simp [PyData.eqv, h]
theorem vNe_ints {S : Sto} {a b : Addr} {ns ms : List Int} {Q : KE} (ha : rdL S a (ns.map .int)) (hb : rdL S b (ms.map .int)) (h : Q (.bl (!decide (ns = ms))) S) : vNe (.ref a) (.ref b) S Q := by
  refine ⟨_, _, pd_ints ha, pd_ints hb, shaped_li _, shaped_li _, ?_⟩
  have e : PyData.eqv (.list (ns.map .int)) (.list (ms.map .int)) = decide (ns = ms) := by rw [PyData.eqv]; exact eqvAll_ints ns ms
  rw [e]; exact h
theorem vEq_ints {S : Sto} {a b : Addr} {ns ms : List Int} {Q : KE} (ha : rdL S a (ns.map .int)) (hb : rdL S b (ms.map .int)) (h : Q (.bl (decide (ns = ms))) S) : vEq (.ref a) (.ref b) S Q := by
  refine ⟨_, _, pd_ints ha, pd_ints hb, shaped_li _, shaped_li _, ?_⟩
  have e : PyData.eqv (.list (ns.map .int)) (.list (ms.map .int)) = decide (ns = ms) := by rw [PyData.eqv]; exact eqvAll_ints ns ms
  rw [e]; exact h
/-- a draw below a limit -/
def sp_pick : SpV := fun ds S Q _ => ∃ F a c w n limit, ds = [.ref a, .int limit] ∧ S = stk F a c w ∧ Ap F a c ∧ Wok w n ∧ n < 10000000 ∧ 1 ≤ limit ∧ limit < 2 ^ 250 ∧ ∀ r w', 0 ≤ r → r < limit → Wok w' (n + 1) → Q (.int r) (stk F a c w')
theorem pick_to {F : Sto} {a c : Addr} {w : Wd} {n limit : Int} {Q : KE} {E : XC} (ap : Ap F a c) (wk : Wok w n) (hn : n < 10000000) (h1 : 1 ≤ limit) (h2 : limit < 2 ^ 250) (h : ∀ r w', 0 ≤ r → r < limit → Wok w' (n + 1) → Q (.int r) (stk F a c w')) :
    sp_pick [.ref a, .int limit] (stk F a c w) Q E := ⟨F, a, c, w, n, limit, rfl, rfl, ap, wk, hn, h1, h2, h⟩
/-- a new object beside the stock -/
theorem all_new {F : Sto} {a c : Addr} {w : Wd} {o : MO} (ap : Ap F a c) {J : Addr → Sto → Prop} (h : ∀ p, F p = none → p ≠ a → p ≠ c → Ap (put F p o) a c → J p (stk (put F p o) a c w)) : ∀ p, stk F a c w p = none → J p (put (stk F a c w) p o) := fun p hp => by
  obtain ⟨hF, hpa, hpc⟩ := stk_none ap hp
  rw [put_stk ap hpa hpc]
  exact h p hF hpa hpc (ap.nw hpa hpc)
/-- the stock made of the script -/
def sp_stock : SpV := fun ds S Q _ => ∃ ns, ds = [.scr ns] ∧ ns.length ≤ 63 ∧ ∀ a c w, Ap S a c → Wok w 0 → Q (.ref a) (stk S a c w)
end VL
/-! VL11: loops and comprehensions by an invariant. -/
namespace VL
open PySem PySem.Spec PyProof.Rows L2
/-- a for by an invariant over the turn's number; the turn is shown for any D1 that goes on from the invariant -/
theorem for_inv {ok : Sto → Prop} {g : RG} {b : RS} {D0 : En} {items : List D} {τ : VS} {S : Sto} (I : Nat → VS → Sto → Prop) (h0 : I 0 τ S) (hok : ∀ i τ S, I i τ S → ok S)
    (hs : ∀ i x τ S (D1 : En), items[i]? = some x → I i τ S → D1.rt = D0.rt → D1.bk = D0.nx → (∀ τ2 S2 τ3 S3, I (i + 1) τ3 S3 → VLe τ3 τ2 → Le S3 S2 → D1.nx τ2 S2) → (∀ τ2 S2 τ3 S3, I (i + 1) τ3 S3 → VLe τ3 τ2 → Le S3 S2 → D1.ct τ2 S2) → g x τ S fun τ1 S1 => b D1 τ1 S1)
    (hd : ∀ τ S, I items.length τ S → D0.nx τ S) : forR ok g b D0 items τ S := by
  have main : ∀ (rest : List D) (i : Nat) (τ : VS) (S : Sto), items.drop i = rest → i ≤ items.length → I i τ S → forR ok g b D0 rest τ S := by
    intro rest
    induction rest with
    | nil =>
      intro i τ S e hi h
      have : i = items.length := by
        have := congrArg List.length e
        rw [List.length_drop, List.length_nil] at this
        omega
      subst this
      exact ⟨hok _ _ _ h, hd _ _ h⟩
    | cons x r ih =>
      intro i τ S e hi h
      have hx : items[i]? = some x := by
        have := congrArg (fun l => l[0]?) e
        simp only [List.getElem?_drop, Nat.add_zero, List.getElem?_cons_zero] at this
        exact this
      have hlt : i < items.length := (List.getElem?_eq_some_iff.mp hx).1
      have er : items.drop (i + 1) = r := by
        have := congrArg List.tail e
        rw [List.tail_drop] at this
        exact this
      refine ⟨hok _ _ _ h, hs i x τ S _ hx h rfl rfl (fun τ2 S2 τ3 S3 h3 l1 l2 => ⟨τ3, S3, l1, l2, ih (i + 1) τ3 S3 er hlt h3⟩) fun τ2 S2 τ3 S3 h3 l1 l2 => ⟨τ3, S3, l1, l2, ih (i + 1) τ3 S3 er hlt h3⟩⟩
  exact main items 0 τ S rfl (Nat.zero_le _) h0
/-- a comprehension without a test, by an invariant over the turn's number and what is made so far -/
theorem lc_inv {ok : Sto → Prop} {g : RG} {te : RE} {τw : VS} {items : List D} {S : Sto} {Q : List D → Sto → Prop} (I : Nat → List D → Sto → Prop) (h0 : I 0 [] S) (hok : ∀ i acc S, I i acc S → ok S)
    (hs : ∀ i x acc S (K' : KE), items[i]? = some x → I i acc S → (∀ y S2 S3, Le S3 S2 → I (i + 1) (acc ++ [y]) S3 → K' y S2) → g x τw S fun τ2 S2 => te τ2 S2 K')
    (hd : ∀ acc S, I items.length acc S → Q acc S) : lcR ok g VL.tYes te τw items S Q := by
  have main : ∀ (rest : List D) (i : Nat) (acc : List D) (S : Sto) (Q' : List D → Sto → Prop), items.drop i = rest → i ≤ items.length → I i acc S → (∀ ys S, Q (acc ++ ys) S → Q' ys S) → lcR ok g VL.tYes te τw rest S Q' := by
    intro rest
    induction rest with
    | nil =>
      intro i acc S Q' e hi h hq
      have : i = items.length := by
        have := congrArg List.length e
        rw [List.length_drop, List.length_nil] at this
        omega
      subst this
      refine ⟨hok _ _ _ h, hq [] S ?_⟩
      rw [List.append_nil]; exact hd _ _ h
    | cons x r ih =>
      intro i acc S Q' e hi h hq
      have hx : items[i]? = some x := by
        have := congrArg (fun l => l[0]?) e
        simp only [List.getElem?_drop, Nat.add_zero, List.getElem?_cons_zero] at this
        exact this
      have hlt : i < items.length := (List.getElem?_eq_some_iff.mp hx).1
      have er : items.drop (i + 1) = r := by
        have := congrArg List.tail e
        rw [List.tail_drop] at this
        exact this
      refine ⟨hok _ _ _ h, hs i x acc S _ hx h fun y S2 S3 l h3 => ⟨S3, l, ih (i + 1) (acc ++ [y]) S3 _ er hlt h3 fun ys S q => hq _ _ ?_⟩⟩
      rw [List.append_assoc] at q; exact q
  exact main items 0 [] S Q rfl (Nat.zero_le _) h0 fun ys S q => q
/-- a comprehension whose element is a function of the item and leaves the store -/
theorem lc_map {ok : Sto → Prop} {g : RG} {te : RE} {τw : VS} {items : List D} {S : Sto} {Q : List D → Sto → Prop} (f : D → D) (hok : ok S)
    (hs : ∀ x ∈ items, ∀ K' : KE, K' (f x) S → g x τw S fun τ2 S2 => te τ2 S2 K') (hd : Q (items.map f) S) : lcR ok g VL.tYes te τw items S Q := by
  refine lc_inv (fun i acc S' => S' = S ∧ acc = (items.take i).map f) ⟨rfl, by simp⟩ (fun i acc S' h => by rw [h.1]; exact hok) (fun i x acc S' K' hx h hk => ?_) (fun acc S' h => ?_)
  · obtain ⟨rfl, rfl⟩ := h
    refine hs x (List.mem_of_getElem? hx) K' (hk _ _ _ (Le.refl _) ⟨rfl, ?_⟩)
    rw [List.take_add_one, hx, List.map_append]; rfl
  · obtain ⟨rfl, rfl⟩ := h
    rw [List.take_length]; exact hd
/-- .. with a test -/
theorem lc_filter {ok : Sto → Prop} {g : RG} {tt : RT} {te : RE} {τw : VS} {S : Sto} (f : D → D) (p : D → Bool) (hok : ok S) : ∀ {items : List D} {Q : List D → Sto → Prop},
    (∀ x ∈ items, ∀ K' : KE, ∀ J : Sto → Prop, (p x = true → K' (f x) S) → (p x = false → J S) → g x τw S fun τ2 S2 => tt τ2 S2 fun b S3 => if b = true then te τ2 S3 K' else J S3) → Q ((items.filter p).map f) S → lcR ok g tt te τw items S Q
  | [], Q, _, hd => ⟨hok, hd⟩
  | x :: r, Q, hs, hd => by
    refine ⟨hok, hs x List.mem_cons_self _ _ (fun hp => ⟨S, Le.refl S, lc_filter f p hok (fun y hy => hs y (List.mem_cons_of_mem _ hy)) ?_⟩) fun hp => lc_filter f p hok (fun y hy => hs y (List.mem_cons_of_mem _ hy)) ?_⟩
    · rw [List.filter_cons, if_pos hp] at hd; exact hd
    · rw [List.filter_cons, if_neg (by rw [hp]; decide)] at hd; exact hd
theorem intsD_at {lo : Int} {n i : Nat} {x : D} (h : (intsD lo n)[i]? = some x) : i < n ∧ x = .int (lo + (i : Int)) := intsD_get h
end VL
namespace VL
open PySem PySem.Spec PyProof.Rows L2
/-! ### facts of small things -/
theorem vIx_ref {S : Sto} {a : Addr} {xs : List D} {i : Int} {d : D} {Q : KE} (h : S a = some (.lst xs)) (h0 : 0 ≤ i) (h1 : xs[i.toNat]? = some d) (q : Q d S) : vIx (.ref a) (.int i) S Q :=
  ⟨xs, d, .inl h, by rw [atI_get h0 (by have := (List.getElem?_eq_some_iff.mp h1).1; omega)]; exact h1, q⟩
theorem vIx_tup {S : Sto} {xs : List D} {i : Int} {d : D} {Q : KE} (h0 : 0 ≤ i) (h1 : xs[i.toNat]? = some d) (q : Q d S) : vIx (.tup xs) (.int i) S Q :=
  ⟨d, by rw [atI_get h0 (by have := (List.getElem?_eq_some_iff.mp h1).1; omega)]; exact h1, q⟩
theorem vLSet_ref {S : Sto} {a : Addr} {xs : List D} {i : Int} {v : D} {k : Sto → Prop} (h : S a = some (.lst xs)) (h0 : 0 ≤ i) (h1 : i < xs.length) (q : k (put S a (.lst (xs.set i.toNat v)))) : vLSet (.ref a) (.int i) v S k :=
  ⟨xs, i.toNat, h, by unfold ixN; rw [if_pos h0, if_pos h1], q⟩
/-- another object beside the stock, read and written -/
theorem stk_at {F : Sto} {a c p : Addr} {w : Wd} {o : MO} (ap : Ap F a c) (h : F p = some o) : stk F a c w p = some o := stk_le ap _ _ h
theorem stk_put {F : Sto} {a c p : Addr} {w : Wd} {o u : MO} (ap : Ap F a c) (h : F p = some o) : put (stk F a c w) p u = stk (put F p u) a c w := put_stk ap (sne h ap.a) (sne h ap.c)
theorem Ap.upd {F : Sto} {a c p : Addr} {o u : MO} (ap : Ap F a c) (h : F p = some o) : Ap (put F p u) a c := ap.nw (sne h ap.a) (sne h ap.c)
theorem stk_put_le {F G : Sto} {a c p : Addr} {w : Wd} {o : MO} (l : Le (put F p o) G) : Le (stk (put F p o) a c w) (stk G a c w) := stk_mono l
theorem none_put {S : Sto} {p q : Addr} {o : MO} (h : put S q o p = none) : p ≠ q ∧ S p = none := by
  have e : p ≠ q := by rintro rfl; rw [put_same] at h; cases h
  exact ⟨e, by rw [put_ne e] at h; exact h⟩
/-- the keys of a dict behind a store -/
theorem puD_keys {κ : Type} [DecidableEq κ] {kvs : List (κ × D)} {k : κ} {v : D} {P : κ → Prop} (h : ∀ q ∈ kvs, P q.1) (hk : P k) : ∀ q ∈ puD kvs k v, P q.1 := fun q hq => by
  unfold puD at hq
  split at hq
  · obtain ⟨r, hr, rfl⟩ := List.mem_map.mp hq
    split
    · exact h r hr
    · exact h r hr
  · rcases List.mem_append.mp hq with hq | hq
    · exact h q hq
    · rw [List.mem_singleton.mp hq]; exact hk
theorem puD_vals {κ : Type} [DecidableEq κ] {kvs : List (κ × D)} {k : κ} {v : D} {P : D → Prop} (h : ∀ q ∈ kvs, P q.2) (hk : P v) : ∀ q ∈ puD kvs k v, P q.2 := fun q hq => by
  unfold puD at hq
  split at hq
  · obtain ⟨r, hr, rfl⟩ := List.mem_map.mp hq
    split
    · exact hk
    · exact h r hr
  · rcases List.mem_append.mp hq with hq | hq
    · exact h q hq
    · rw [List.mem_singleton.mp hq]; exact hk
theorem lkD_mem {κ : Type} [DecidableEq κ] {k : κ} : ∀ {kvs : List (κ × D)}, k ∈ kvs.map (·.1) → ∃ v, lkD kvs k = some v ∧ (k, v) ∈ kvs
  | (x, d) :: r, h => by
    by_cases e : x = k
    · subst e; exact ⟨d, by simp [lkD], List.mem_cons_self⟩
    · rcases List.mem_cons.mp h with z | z
      · exact absurd z.symm e
      · obtain ⟨v, h1, h2⟩ := lkD_mem z
        exact ⟨v, by simpa [lkD, List.find?_cons, e] using h1, List.mem_cons_of_mem _ h2⟩
theorem srt_mem {nss : List (List Int)} {ns : List Int} : ns ∈ srt nss ↔ ns ∈ nss := List.mem_mergeSort
/-- sorted(d) -/
theorem cSort_dict {S : Sto} {a : Addr} {kvs : List (List Int × D)} {Q : KE} (h : S a = some (.dI kvs)) (hl : kvs.length ≤ 10000000) (hk : ∀ q ∈ kvs, q.1 ≠ [] ∧ q.1.length ≤ 10000000) (q : ∀ p, S p = none → Q (.ref p) (put S p (.lst ((srt (kvs.map (·.1))).map tI)))) : cSort [.ref a] S Q := by
  refine ⟨kvs.map (·.1), .inl ⟨kvs, h, rfl, fun ns hn => ?_⟩, fun ns hn => ?_, by rw [List.length_map]; exact hl, q⟩
  · obtain ⟨r, hr, rfl⟩ := List.mem_map.mp hn; exact (hk r hr).2
  · obtain ⟨r, hr, rfl⟩ := List.mem_map.mp hn; exact (hk r hr).1
end VL
/-! VL12: more built-ins at the value level. -/
namespace VL
open PySem PySem.Spec PyProof.Rows L2
/-- len(d) -/
def cLenD : List D → Sto → KE → Prop := fun vs S Q => match vs with
  | [.ref a] => ∃ kvs, S a = some (.dI kvs) ∧ Q (.int kvs.length) S
  | _ => False
theorem ca_lenD {K : PySem.W.Frag} : CaV K cLenD rLenT := by
  intro H S xs us Q R o r h k
  unfold cLenD at h
  split at h
  · simp only [Rps, Rp] at r; obtain ⟨v, w, rfl, rfl, rfl⟩ := r
    obtain ⟨kvs, ha, h⟩ := h
    obtain ⟨ws, ea, _, kv⟩ := o.dI ha
    exact ⟨_, _, rfl, ea, by rw [← kv.length]; exact k _ _ _ _ h (Go.refl S H) (by simp only [Rp]) o⟩
  · exact h.elim
theorem cLenD_ref {a : Addr} {S : Sto} {Q : KE} : cLenD [.ref a] S Q = ∃ kvs, S a = some (.dI kvs) ∧ Q (.int kvs.length) S := rfl
/-- a new object beside the stock, by what is known of the store behind it -/
theorem nwo {F : Sto} {a c p : Addr} {w : Wd} (ap : Ap F a c) (hp : stk F a c w p = none) (o : MO) : ∃ G, put (stk F a c w) p o = stk G a c w ∧ Ap G a c ∧ Le F G ∧ G p = some o ∧ F p = none ∧ (p ≠ a ∧ p ≠ c) ∧ G = put F p o := by
  obtain ⟨h1, h2, h3⟩ := stk_none ap hp
  exact ⟨_, put_stk ap h2 h3, ap.nw h2 h3, (Le.refl F).new h1, put_same, h1, ⟨h2, h3⟩, rfl⟩
/-- an object beside the stock changed -/
theorem upo {F : Sto} {a c p : Addr} {w : Wd} {o0 : MO} (ap : Ap F a c) (hp : F p = some o0) (o : MO) : ∃ G, put (stk F a c w) p o = stk G a c w ∧ Ap G a c ∧ G p = some o ∧ (∀ q, q ≠ p → G q = F q) ∧ (∀ F0 : Sto, F0 p = none → Le F0 F → Le F0 G) := by
  refine ⟨_, stk_put ap hp, ap.upd hp, put_same, fun q h => put_ne h, fun F0 h l b u e => ?_⟩
  have : b ≠ p := sne e h
  rw [put_ne this]; exact l b u e
theorem srt_length (l : List (List Int)) : (srt l).length = l.length := List.length_mergeSort _
/-- a comprehension over the images of things by the images of the same things -/
theorem lc_map2 {α : Type} {ok : Sto → Prop} {g : RG} {te : RE} {τw : VS} {xs : List α} {h f : α → D} {S : Sto} {Q : List D → Sto → Prop} (hok : ok S)
    (hs : ∀ x ∈ xs, ∀ K' : KE, K' (f x) S → g (h x) τw S fun τ2 S2 => te τ2 S2 K') (hd : Q (xs.map f) S) : lcR ok g VL.tYes te τw (xs.map h) S Q := by
  refine lc_inv (fun i acc S' => S' = S ∧ acc = (xs.take i).map f) ⟨rfl, by simp⟩ (fun i acc S' h => by rw [h.1]; exact hok) (fun i x acc S' K' hx hI hk => ?_) (fun acc S' hI => ?_)
  · obtain ⟨rfl, rfl⟩ := hI
    rw [List.getElem?_map] at hx
    cases q : xs[i]? with
    | none => rw [q] at hx; cases hx
    | some y =>
      rw [q] at hx
      have e : x = h y := (Option.some.inj hx).symm
      subst e
      refine hs y (List.mem_of_getElem? q) K' (hk _ _ _ (Le.refl _) ⟨rfl, ?_⟩)
      rw [List.take_add_one, q, List.map_append]; rfl
  · obtain ⟨rfl, rfl⟩ := hI
    rw [List.length_map, List.take_length]; exact hd
/-- slices between places of a list -/
theorem cutD_take {xs : List D} {i : Int} (h0 : 0 ≤ i) (h1 : i ≤ xs.length) : cutD xs none (some i) = xs.take i.toNat := by
  have e : HT.sIx xs.length xs.length (some i) = i.toNat := by unfold HT.sIx; simp only; rw [if_neg (by omega)]; omega
  have e0 : HT.sIx xs.length 0 none = 0 := rfl
  unfold cutD
  rw [e, e0, List.drop_zero, Nat.sub_zero]
theorem cutD_drop {xs : List D} {i : Int} (h0 : 0 ≤ i) (h1 : i ≤ xs.length) : cutD xs (some i) none = xs.drop i.toNat := by
  have e : HT.sIx xs.length 0 (some i) = i.toNat := by unfold HT.sIx; simp only; rw [if_neg (by omega)]; omega
  have e0 : HT.sIx xs.length xs.length none = xs.length := rfl
  unfold cutD
  rw [e, e0]
  exact List.take_of_length_le (by rw [List.length_drop]; exact Nat.le_refl _)
section
variable {F G : Sto} {a c p q : Addr} {w : Wd} {xs ys : List D} {Q : KE}
theorem cut_left {i : Int} (ap : Ap F a c) (hp : F p = some (.lst xs)) (h0 : 0 ≤ i) (h1 : i ≤ xs.length) (h : ∀ q G, Ap G a c → Le F G → G q = some (.lst (xs.take i.toNat)) → Q (.ref q) (stk G a c w)) : vSl (.ref p) none (some i) (stk F a c w) Q := by
  refine ⟨xs, .inl (stk_at ap hp), fun q hq => ?_⟩
  obtain ⟨G, e, ap2, l, h2, _⟩ := nwo ap hq (.lst (xs.take i.toNat))
  rw [cutD_take h0 h1, e]; exact h q G ap2 l h2
theorem cut_right {i : Int} (ap : Ap F a c) (hp : F p = some (.lst xs)) (h0 : 0 ≤ i) (h1 : i ≤ xs.length) (h : ∀ q G, Ap G a c → Le F G → G q = some (.lst (xs.drop i.toNat)) → Q (.ref q) (stk G a c w)) : vSl (.ref p) (some i) none (stk F a c w) Q := by
  refine ⟨xs, .inl (stk_at ap hp), fun q hq => ?_⟩
  obtain ⟨G, e, ap2, l, h2, _⟩ := nwo ap hq (.lst (xs.drop i.toNat))
  rw [cutD_drop h0 h1, e]; exact h q G ap2 l h2
theorem add_refs (ap : Ap F a c) (hp : F p = some (.lst xs)) (hq : F q = some (.lst ys)) (hl : xs.length + ys.length ≤ 10000000) (h : ∀ r G, Ap G a c → Le F G → G r = some (.lst (xs ++ ys)) → Q (.ref r) (stk G a c w)) : vAdd (.ref p) (.ref q) (stk F a c w) Q := by
  refine ⟨xs, ys, stk_at ap hp, stk_at ap hq, hl, fun r hr => ?_⟩
  obtain ⟨G, e, ap2, l, h2, _⟩ := nwo ap hr (.lst (xs ++ ys))
  rw [e]; exact h r G ap2 l h2
theorem add_last (ap : Ap G a c) (hp : G p = some (.lst xs)) (hq : G q = some (.lst ys)) (hl : xs.length + ys.length ≤ 10000000) (l : Le F G) (h : ∀ r, F r = none → r ≠ a → r ≠ c → Q (.ref r) (stk (put F r (.lst (xs ++ ys))) a c w)) : vAdd (.ref p) (.ref q) (stk G a c w) fun d S => ∃ S'', Le S'' S ∧ Q d S'' := by
  refine ⟨xs, ys, stk_at ap hp, stk_at ap hq, hl, fun r hr => ?_⟩
  obtain ⟨h1, h2, h3⟩ := stk_none ap hr
  refine ⟨_, ?_, h r (l.nope h1) h2 h3⟩
  rw [put_stk ap h2 h3]
  exact stk_mono l.put
end
theorem le_put {F G : Sto} {y : Addr} {o : MO} (l : Le F G) (h : G y = some o) : Le (put F y o) G := fun b u hb => by
  by_cases e : b = y
  · subst e; rw [put_same] at hb; rw [h, ← hb]
  · rw [put_ne e] at hb; exact l _ _ hb
theorem vIx_p0 {x y : D} {S : Sto} {Q : KE} : vIx (.tup [x, y]) (.int 0) S Q = Q x S := propext ⟨fun ⟨d, h1, h2⟩ => by cases h1; exact h2, fun h => ⟨x, rfl, h⟩⟩
theorem vIx_p1 {x y : D} {S : Sto} {Q : KE} : vIx (.tup [x, y]) (.int 1) S Q = Q y S := propext ⟨fun ⟨d, h1, h2⟩ => by cases h1; exact h2, fun h => ⟨y, rfl, h⟩⟩
theorem cInt_int {i : Int} {S : Sto} {Q : KE} : cInt [.int i] S Q = Q (.int i) S := rfl
theorem cInt_bl {b : Bool} {S : Sto} {Q : KE} : cInt [.bl b] S Q = Q (.int (if b then 1 else 0)) S := rfl
/-- slices of a tuple of ints -/
def cutI (xs : List Int) (lo hi : Option Int) : List Int := (xs.drop (HT.sIx xs.length 0 lo)).take (HT.sIx xs.length xs.length hi - HT.sIx xs.length 0 lo)
theorem cutI_length (xs : List Int) (lo hi : Option Int) : (cutI xs lo hi).length ≤ xs.length := by
  unfold cutI
  rw [List.length_take, List.length_drop]
  omega
theorem vSl_tI {xs : List Int} {lo hi : Option Int} {S : Sto} {Q : KE} : vSl (tI xs) lo hi S Q = Q (tI (cutI xs lo hi)) S := by
  unfold tI
  show Q (.tup (cutD _ lo hi)) S = _
  unfold cutD cutI
  rw [List.length_map, List.map_take, List.map_drop]
theorem cutI_tail {xs : List Int} (h : 0 < xs.length) : (cutI xs (some 1) none).length + 1 = xs.length := by
  have e : HT.sIx xs.length 0 (some 1) = 1 := by unfold HT.sIx; simp only; rw [if_neg (by decide)]; show min 1 _ = 1; omega
  have e0 : HT.sIx xs.length xs.length none = xs.length := rfl
  unfold cutI
  rw [e, e0, List.length_take, List.length_drop]
  omega
theorem stk_ret {F G : Sto} {a c y : Addr} {w : Wd} {o : MO} (ap : Ap G a c) (l : Le F G) (hy : stk G a c w y = none) : Le (stk (put F y o) a c w) (put (stk G a c w) y o) := by
  obtain ⟨h1, h2, h3⟩ := stk_none ap hy
  rw [put_stk ap h2 h3]
  exact stk_mono l.put
end VL
/-! VL13: data: tuples of ints, terms, sums, lists of them; their equality. -/
namespace VL
open PySem PySem.Spec PyProof.Rows L2
/-- shaped, with the depth told -/
def Shp (n : Nat) (d : PyData) : Prop := PyData.canLay0 d = true ∧ PyData.depth d ≤ n
theorem Shp.ok {n : Nat} {d : PyData} (h : Shp n d) (hn : n ≤ 64 := by decide) : SeqAt.shaped d = true := by
  show (PyData.canLay0 d && decide (PyData.depth d ≤ 64)) = true
  rw [Bool.and_eq_true]; exact ⟨h.1, decide_eq_true (Nat.le_trans h.2 hn)⟩
theorem shp_all {n : Nat} : ∀ {ds : List PyData}, (∀ d ∈ ds, Shp n d) → PyData.canLayAll0 ds = true ∧ PyData.depthAll ds ≤ n
  | [], _ => ⟨by simp [PyData.canLayAll0], by simp [PyData.depthAll]⟩
  | d :: r, h => by
    have h1 := h d List.mem_cons_self
    have h2 := shp_all fun e he => h e (List.mem_cons_of_mem _ he)
    refine ⟨by simp [PyData.canLayAll0, h1.1, h2.1], ?_⟩
    simp only [PyData.depthAll]
    have := h1.2
    have := h2.2
    omega
theorem shp_int {i : Int} : Shp 1 (.int i) := ⟨by simp [PyData.canLay0], by simp [PyData.depth]⟩
theorem shp_tup {n : Nat} {ds : List PyData} (h : ∀ d ∈ ds, Shp n d) : Shp (n + 1) (.tuple ds) := by
  have q := shp_all h
  have := q.2
  exact ⟨by simp only [PyData.canLay0]; exact q.1, by simp only [PyData.depth]; omega⟩
theorem shp_lst {n : Nat} {ds : List PyData} (h : ∀ d ∈ ds, Shp n d) : Shp (n + 1) (.list ds) := by
  have q := shp_all h
  have := q.2
  exact ⟨by simp only [PyData.canLay0]; exact q.1, by simp only [PyData.depth]; omega⟩
/-- things as values and as data -/
structure Rep (α : Type) where
  d : α → D
  p : α → PyData
  pd : ∀ (S : Sto) (x : α), Pd S (d x) (p x)
  n : Nat
  shp : ∀ x, Shp n (p x)
  eqv : ∀ x y : α, PyData.eqv (p x) (p y) = true ↔ x = y
theorem Rep.eqvAll {α : Type} (R : Rep α) : ∀ xs ys : List α, PyData.eqvAll (xs.map R.p) (ys.map R.p) = true ↔ xs = ys
  | [], [] => by simp [PyData.eqvAll]
  | [], _ :: _ => by simp [PyData.eqvAll]
  | _ :: _, [] => by simp [PyData.eqvAll]
  | x :: xs, y :: ys => by
    have h1 := R.eqv x y
    have h2 := Rep.eqvAll R xs ys
    simp only [List.map_cons, PyData.eqvAll, Bool.and_eq_true, List.cons.injEq, h1, h2]
theorem Rep.at {α : Type} (R : Rep α) {S : Sto} {xs : List α} : ∀ (i : Nat) x d, (xs.map R.d)[i]? = some x → (xs.map R.p)[i]? = some d → Pd S x d := fun i x d e1 e2 => by
  rw [List.getElem?_map] at e1 e2
  cases q : xs[i]? with
  | none => rw [q] at e1; cases e1
  | some n => rw [q] at e1 e2; cases e1; cases e2; exact R.pd S n
def rInt : Rep Int := ⟨.int, .int, fun _ i => .int i, 1, fun _ => shp_int, fun x y => by simp [PyData.eqv]⟩
/-- tuples of things -/
def rTup {α : Type} (R : Rep α) : Rep (List α) where
  d xs := .tup (xs.map R.d)
  p xs := .tuple (xs.map R.p)
  pd S xs := .tup (by rw [List.length_map, List.length_map]) R.at
  n := R.n + 1
  shp xs := shp_tup fun d hd => by obtain ⟨x, _, rfl⟩ := List.mem_map.mp hd; exact R.shp x
  eqv xs ys := by rw [PyData.eqv]; exact R.eqvAll xs ys
/-- pairs of things -/
def rPair {α β : Type} (R : Rep α) (T : Rep β) : Rep (α × β) where
  d t := .tup [R.d t.1, T.d t.2]
  p t := .tuple [R.p t.1, T.p t.2]
  pd S t := .tup rfl fun i x d e1 e2 => by
    match i, e1, e2 with
    | 0, e1, e2 => cases e1; cases e2; exact R.pd S t.1
    | 1, e1, e2 => cases e1; cases e2; exact T.pd S t.2
  n := R.n + T.n + 1
  shp t := shp_tup fun d hd => by
    simp only [List.mem_cons, List.not_mem_nil, or_false] at hd
    rcases hd with rfl | rfl
    · exact ⟨(R.shp t.1).1, Nat.le_trans (R.shp t.1).2 (Nat.le_add_right _ _)⟩
    · exact ⟨(T.shp t.2).1, Nat.le_trans (T.shp t.2).2 (Nat.le_add_left _ _)⟩
  eqv t u := by
    have h1 := R.eqv t.1 u.1
    have h2 := T.eqv t.2 u.2
    simp only [PyData.eqv, PyData.eqvAll, Bool.and_eq_true, h1, h2, and_true, Prod.ext_iff]
section
variable {α : Type} (R : Rep α) {S : Sto} {Q : KE}
theorem pd_list {b : Addr} {xs : List α} (h : rdL S b (xs.map R.d)) : Pd S (.ref b) (.list (xs.map R.p)) := .lst h (by rw [List.length_map, List.length_map]) R.at
theorem shp_list {xs : List α} : Shp (R.n + 1) (.list (xs.map R.p)) := shp_lst fun d hd => by obtain ⟨x, _, rfl⟩ := List.mem_map.mp hd; exact R.shp x
theorem eqv_list [DecidableEq α] {xs ys : List α} : PyData.eqv (.list (xs.map R.p)) (.list (ys.map R.p)) = decide (xs = ys) := by
  have h := R.eqvAll xs ys
  have e : PyData.eqv (.list (xs.map R.p)) (.list (ys.map R.p)) = PyData.eqvAll (xs.map R.p) (ys.map R.p) := by rw [PyData.eqv]
  rw [e]
  by_cases q : xs = ys
  · rw [decide_eq_true q]; exact h.mpr q
  · rw [decide_eq_false q]; exact Bool.eq_false_iff.mpr fun z => q (h.mp z)
/-- lists of things compared -/
theorem vNe_refs [DecidableEq α] {a b : Addr} {xs ys : List α} (ha : rdL S a (xs.map R.d)) (hb : rdL S b (ys.map R.d)) (hn : R.n ≤ 60) (h : Q (.bl (!decide (xs = ys))) S) : vNe (.ref a) (.ref b) S Q :=
  ⟨_, _, pd_list R ha, pd_list R hb, (shp_list R).ok (by omega), (shp_list R).ok (by omega), by rw [eqv_list]; exact h⟩
theorem vEq_refs [DecidableEq α] {a b : Addr} {xs ys : List α} (ha : rdL S a (xs.map R.d)) (hb : rdL S b (ys.map R.d)) (hn : R.n ≤ 60) (h : Q (.bl (decide (xs = ys))) S) : vEq (.ref a) (.ref b) S Q :=
  ⟨_, _, pd_list R ha, pd_list R hb, (shp_list R).ok (by omega), (shp_list R).ok (by omega), by rw [eqv_list]; exact h⟩
theorem eqv_tup [DecidableEq α] {xs ys : List α} : PyData.eqv (.tuple (xs.map R.p)) (.tuple (ys.map R.p)) = decide (xs = ys) := by
  have h := (rTup R).eqv xs ys
  by_cases q : xs = ys
  · rw [decide_eq_true q]; exact h.mpr q
  · rw [decide_eq_false q]; exact Bool.eq_false_iff.mpr fun z => q (h.mp z)
/-- tuples of things compared -/
theorem vNe_tups [DecidableEq α] {xs ys : List α} (hn : R.n ≤ 60) (h : Q (.bl (!decide (xs = ys))) S) : vNe (.tup (xs.map R.d)) (.tup (ys.map R.d)) S Q :=
  ⟨_, _, (rTup R).pd S xs, (rTup R).pd S ys, ((rTup R).shp xs).ok (by show R.n + 1 ≤ 64; omega), ((rTup R).shp ys).ok (by show R.n + 1 ≤ 64; omega), by
    show Q (.bl (!PyData.eqv (.tuple (xs.map R.p)) (.tuple (ys.map R.p)))) S
    rw [eqv_tup]; exact h⟩
theorem vEq_tups [DecidableEq α] {xs ys : List α} (hn : R.n ≤ 60) (h : Q (.bl (decide (xs = ys))) S) : vEq (.tup (xs.map R.d)) (.tup (ys.map R.d)) S Q :=
  ⟨_, _, (rTup R).pd S xs, (rTup R).pd S ys, ((rTup R).shp xs).ok (by show R.n + 1 ≤ 64; omega), ((rTup R).shp ys).ok (by show R.n + 1 ≤ 64; omega), by
    show Q (.bl (PyData.eqv (.tuple (xs.map R.p)) (.tuple (ys.map R.p)))) S
    rw [eqv_tup]; exact h⟩
end
/-- a term, a sum -/
def rTerm : Rep (List Int × Int) := rPair (rTup rInt) rInt
def rSum : Rep (List (List Int × Int)) := rTup rTerm
def terD (t : List Int × Int) : D := .tup [tI t.1, .int t.2]
def sumD (ts : List (List Int × Int)) : D := .tup (ts.map terD)
theorem terD_eq : terD = rTerm.d := rfl
theorem sumD_eq : sumD = rSum.d := rfl
end VL
/-! the law k13: is_sum -/
namespace LW
open PySem PySem.Spec PyProof.Rows L2 VL
def topS (i : Nat) : Stmt := PySem.Challenge.pw_neverhalves_k13_sums_that_are_none.main.body.getD i (.Pass ⟨0, 0, 0, 0⟩)
abbrev s_looks_right : Stmt := topS 1
abbrev N_looks_right : List Str := ["told", "many", "last", "powers", "coefficient"]
theorem sc_looks_right : FnScope ["told", "many", "last", "powers", "coefficient"] ["told", "many"] (defScope s_looks_right) := ⟨rfl, rfl, rfl, by decide +kernel, rfl, by decide +kernel, by decide +kernel⟩
abbrev s_is_sum : Stmt := topS 3
abbrev N_is_sum : List Str := ["told", "many"]
theorem sc_is_sum : FnScope ["told", "many"] ["told", "many"] (defScope s_is_sum) := ⟨rfl, rfl, rfl, by decide +kernel, rfl, by decide +kernel, by decide +kernel⟩
abbrev s_l_stock : Stmt := topS 5
abbrev N_l_stock : List Str := ["_law_script", "_law_stock_here", "_law_cell"]
theorem sc_l_stock : FnScope ["_law_script", "_law_stock_here", "_law_cell"] ["_law_script"] (defScope s_l_stock) := ⟨rfl, rfl, rfl, by decide +kernel, rfl, by decide +kernel, by decide +kernel⟩
abbrev s_l_pick : Stmt := topS 6
abbrev N_l_pick : List Str := ["_law_stock_here", "_law_limit", "_law_turn", "_law_found"]
theorem sc_l_pick : FnScope ["_law_stock_here", "_law_limit", "_law_turn", "_law_found"] ["_law_stock_here", "_law_limit"] (defScope s_l_pick) := ⟨rfl, rfl, rfl, by decide +kernel, rfl, by decide +kernel, by decide +kernel⟩
abbrev s_l_wide : Stmt := topS 7
abbrev N_l_wide : List Str := ["_law_stock_here", "_law_limit", "_law_total", "_law_k"]
theorem sc_l_wide : FnScope ["_law_stock_here", "_law_limit", "_law_total", "_law_k"] ["_law_stock_here", "_law_limit"] (defScope s_l_wide) := ⟨rfl, rfl, rfl, by decide +kernel, rfl, by decide +kernel, by decide +kernel⟩
abbrev s_l_rows : Stmt := topS 8
abbrev N_l_rows : List Str := ["_law_stock_here", "_law_many", "_law_k", "_law_terms", "_law_span", "_law_powers", "_law_number", "_law_place", "_law_j"]
theorem sc_l_rows : FnScope ["_law_stock_here", "_law_many", "_law_k", "_law_terms", "_law_span", "_law_powers", "_law_number", "_law_place", "_law_j"] ["_law_stock_here", "_law_many"] (defScope s_l_rows) := ⟨rfl, rfl, rfl, by decide +kernel, rfl, by decide +kernel, by decide +kernel⟩
abbrev s_l_spoilt : Stmt := topS 9
abbrev N_l_spoilt : List Str := ["_law_stock_here", "_law_rows_here", "_law_way", "_law_at", "_law_powers", "_law_factor", "_law_other", "_law_result", "_law_row"]
theorem sc_l_spoilt : FnScope ["_law_stock_here", "_law_rows_here", "_law_way", "_law_at", "_law_powers", "_law_factor", "_law_other", "_law_result", "_law_row"] ["_law_stock_here", "_law_rows_here"] (defScope s_l_spoilt) := ⟨rfl, rfl, rfl, by decide +kernel, rfl, by decide +kernel, by decide +kernel⟩
abbrev s_l_wild : Stmt := topS 10
abbrev N_l_wild : List Str := ["_law_stock_here", "_law_rows_here", "_law_k", "_law_powers", "_law_j"]
theorem sc_l_wild : FnScope ["_law_stock_here", "_law_rows_here", "_law_k", "_law_powers", "_law_j"] ["_law_stock_here"] (defScope s_l_wild) := ⟨rfl, rfl, rfl, by decide +kernel, rfl, by decide +kernel, by decide +kernel⟩
abbrev s_l_is_right : Stmt := topS 11
abbrev N_l_is_right : List Str := ["_law_rows_here", "_law_many", "_law_k"]
theorem sc_l_is_right : FnScope ["_law_rows_here", "_law_many", "_law_k"] ["_law_rows_here", "_law_many"] (defScope s_l_is_right) := ⟨rfl, rfl, rfl, by decide +kernel, rfl, by decide +kernel, by decide +kernel⟩
abbrev s_l_is_told : Stmt := topS 12
abbrev N_l_is_told : List Str := ["_law_rows_here", "_law_many", "_law_due", "_law_told"]
theorem sc_l_is_told : FnScope ["_law_rows_here", "_law_many", "_law_due", "_law_told"] ["_law_rows_here", "_law_many"] (defScope s_l_is_told) := ⟨rfl, rfl, rfl, by decide +kernel, rfl, by decide +kernel, by decide +kernel⟩
abbrev s_law : Stmt := topS 13
abbrev N_law : List Str := ["_law_script", "_law_stock_here", "_law_turn", "_law_far", "_law_place", "_law_rows_here", "_law_k", "_law_many", "_law_way"]
theorem sc_law : FnScope ["_law_script", "_law_stock_here", "_law_turn", "_law_far", "_law_place", "_law_rows_here", "_law_k", "_law_many", "_law_way"] ["_law_script"] (defScope s_law) := ⟨rfl, rfl, rfl, by decide +kernel, rfl, by decide +kernel, by decide +kernel⟩
/-- what the top leaves -/
structure Tp (K : PySem.W.Frag) (mg : Str → Option Value) where
  a_looks_right : Addr
  d_looks_right : FuncData
  F_looks_right : Fun K "looks_right" "looks_right" s_looks_right a_looks_right d_looks_right
  g_looks_right : mg "looks_right" = some (.ref a_looks_right)
  a_is_sum : Addr
  d_is_sum : FuncData
  F_is_sum : Fun K "is_sum" "is_sum" s_is_sum a_is_sum d_is_sum
  g_is_sum : mg "is_sum" = some (.ref a_is_sum)
  a_l_stock : Addr
  d_l_stock : FuncData
  F_l_stock : Fun K "_law_stock" "_law_stock" s_l_stock a_l_stock d_l_stock
  g_l_stock : mg "_law_stock" = some (.ref a_l_stock)
  a_l_pick : Addr
  d_l_pick : FuncData
  F_l_pick : Fun K "_law_pick" "_law_pick" s_l_pick a_l_pick d_l_pick
  g_l_pick : mg "_law_pick" = some (.ref a_l_pick)
  a_l_wide : Addr
  d_l_wide : FuncData
  F_l_wide : Fun K "_law_wide" "_law_wide" s_l_wide a_l_wide d_l_wide
  g_l_wide : mg "_law_wide" = some (.ref a_l_wide)
  a_l_rows : Addr
  d_l_rows : FuncData
  F_l_rows : Fun K "_law_rows" "_law_rows" s_l_rows a_l_rows d_l_rows
  g_l_rows : mg "_law_rows" = some (.ref a_l_rows)
  a_l_spoilt : Addr
  d_l_spoilt : FuncData
  F_l_spoilt : Fun K "_law_spoilt" "_law_spoilt" s_l_spoilt a_l_spoilt d_l_spoilt
  g_l_spoilt : mg "_law_spoilt" = some (.ref a_l_spoilt)
  a_l_wild : Addr
  d_l_wild : FuncData
  F_l_wild : Fun K "_law_wild" "_law_wild" s_l_wild a_l_wild d_l_wild
  g_l_wild : mg "_law_wild" = some (.ref a_l_wild)
  a_l_is_right : Addr
  d_l_is_right : FuncData
  F_l_is_right : Fun K "_law_is_right" "_law_is_right" s_l_is_right a_l_is_right d_l_is_right
  g_l_is_right : mg "_law_is_right" = some (.ref a_l_is_right)
  a_l_is_told : Addr
  d_l_is_told : FuncData
  F_l_is_told : Fun K "_law_is_told" "_law_is_told" s_l_is_told a_l_is_told d_l_is_told
  g_l_is_told : mg "_law_is_told" = some (.ref a_l_is_told)
  a_law : Addr
  d_law : FuncData
  F_law : Fun K "law" "law" s_law a_law d_law
  g_law : mg "law" = some (.ref a_law)
  z_bool : mg "bool" = none
  z_int : mg "int" = none
  z_isinstance : mg "isinstance" = none
  z_len : mg "len" = none
  z_list : mg "list" = none
  z_max : mg "max" = none
  z_range : mg "range" = none
  z_sorted : mg "sorted" = none
  z_tuple : mg "tuple" = none
theorem bi_looks_right {K : PySem.W.Frag} {mg : Str → Option Value} (T : Tp K mg) : Binds K T.d_looks_right ["told", "many"] [] := T.F_looks_right.binds (ps := ["told", "many"]) fun _ _ _ _ _ _ us hl => match us, hl with | [_, _], _ => rfl
theorem bi_is_sum {K : PySem.W.Frag} {mg : Str → Option Value} (T : Tp K mg) : Binds K T.d_is_sum ["told", "many"] [] := T.F_is_sum.binds (ps := ["told", "many"]) fun _ _ _ _ _ _ us hl => match us, hl with | [_, _], _ => rfl
theorem bi_l_stock {K : PySem.W.Frag} {mg : Str → Option Value} (T : Tp K mg) : Binds K T.d_l_stock ["_law_script"] [] := T.F_l_stock.binds (ps := ["_law_script"]) fun _ _ _ _ _ _ us hl => match us, hl with | [_], _ => rfl
theorem bi_l_pick {K : PySem.W.Frag} {mg : Str → Option Value} (T : Tp K mg) : Binds K T.d_l_pick ["_law_stock_here", "_law_limit"] [] := T.F_l_pick.binds (ps := ["_law_stock_here", "_law_limit"]) fun _ _ _ _ _ _ us hl => match us, hl with | [_, _], _ => rfl
theorem bi_l_wide {K : PySem.W.Frag} {mg : Str → Option Value} (T : Tp K mg) : Binds K T.d_l_wide ["_law_stock_here", "_law_limit"] [] := T.F_l_wide.binds (ps := ["_law_stock_here", "_law_limit"]) fun _ _ _ _ _ _ us hl => match us, hl with | [_, _], _ => rfl
theorem bi_l_rows {K : PySem.W.Frag} {mg : Str → Option Value} (T : Tp K mg) : Binds K T.d_l_rows ["_law_stock_here", "_law_many"] [] := T.F_l_rows.binds (ps := ["_law_stock_here", "_law_many"]) fun _ _ _ _ _ _ us hl => match us, hl with | [_, _], _ => rfl
theorem bi_l_spoilt {K : PySem.W.Frag} {mg : Str → Option Value} (T : Tp K mg) : Binds K T.d_l_spoilt ["_law_stock_here", "_law_rows_here"] [] := T.F_l_spoilt.binds (ps := ["_law_stock_here", "_law_rows_here"]) fun _ _ _ _ _ _ us hl => match us, hl with | [_, _], _ => rfl
theorem bi_l_wild {K : PySem.W.Frag} {mg : Str → Option Value} (T : Tp K mg) : Binds K T.d_l_wild ["_law_stock_here"] [] := T.F_l_wild.binds (ps := ["_law_stock_here"]) fun _ _ _ _ _ _ us hl => match us, hl with | [_], _ => rfl
theorem bi_l_is_right {K : PySem.W.Frag} {mg : Str → Option Value} (T : Tp K mg) : Binds K T.d_l_is_right ["_law_rows_here", "_law_many"] [] := T.F_l_is_right.binds (ps := ["_law_rows_here", "_law_many"]) fun _ _ _ _ _ _ us hl => match us, hl with | [_, _], _ => rfl
theorem bi_l_is_told {K : PySem.W.Frag} {mg : Str → Option Value} (T : Tp K mg) : Binds K T.d_l_is_told ["_law_rows_here", "_law_many"] [] := T.F_l_is_told.binds (ps := ["_law_rows_here", "_law_many"]) fun _ _ _ _ _ _ us hl => match us, hl with | [_, _], _ => rfl
theorem bi_law {K : PySem.W.Frag} {mg : Str → Option Value} (T : Tp K mg) : Binds K T.d_law ["_law_script"] [] := T.F_law.binds (ps := ["_law_script"]) fun _ _ _ _ _ _ us hl => match us, hl with | [_], _ => rfl
end LW
namespace LW
open PySem PySem.Spec PyProof.Rows L2 VL
local macro_rules | `(tactic| walk_at "v") => `(tactic| simp only [sSeq, sAsg, sFor, sRet, sRetN, sIf, sNext, sDrop, sPar, sAug, VL.sDPut, eVar, eC, eBin, eUn, eCB, eCall, eCallK, eArgs, eTup, eLst, eIf, eNot, eAnd, eOr, eDNew, eDGet2, eSl, oNone, oSome, eRev, eM0, eM, eLc, eLcF, Tg.R, tVal, VL.tNot, VL.tAnd, VL.tOr, VL.tYes, sl, wipeV, VL.gName, VL.gTupN, VL.gSub, gAll, VL.iTup, iLst, iScr, VL.iRng1, VL.iRng2, vAdd_int, vAdd_ib, vAdd_str, vAdd_tup, vAdd_tI, vAdd_ref, VL.vInt, VL.vInt0, vMul_int, vMul_ref, vMul_tup, vNeg, vCmp, vEq_int, vEq_bl, vEq_str, vNe_int, vNe_bl, vNe_str, vLt_int, vIsN_non, vNotN_non, vIsN_int, vNotN_int, vIsN_bl, vNotN_bl, vIsN_str, vNotN_str, vIsN_ref, vNotN_ref, vIsN_tup, vNotN_tup, vIsN_tI, vNotN_tI, vLt_tI, cLen_tI, vDGet_tI, vDPut_tI, vDGet2_tI, cLen_tup, cLen_scr, cLen_str, cLen_ref, cLenD_ref, cList_tI, cInt_int, cInt_bl, cAbs, cMax2, cMin2, isT, mPop, mAppend, vIx_p0, vIx_p1, vSl_tI, vIx_stk0, vIx_stk1, vIx_stk2, vIx_stk3, vLSet_stk1, vLSet_stk2, vLSet_stk3, stk_a, List.set, startV, List.map_cons, List.map_nil, List.replicate, List.append_eq, List.nil_append, List.cons_append, List.length_cons, List.length_nil, List.length_map, if_true, Bool.false_eq_true, if_false, reduceIte, Bool.not_true, Bool.not_false, true_and, and_true, false_or, or_false, Bool.not_eq_eq_eq_not, decide_eq_true_eq, decide_eq_false_iff_not, reduceCtorEq])
/-! ### the stock and its draws -/
abbrev sp_l_pick := sp_pick
abbrev sp_l_stock := sp_stock
theorem len_l_pick {ds S Q E} (h : sp_l_pick ds S Q E) : ds.length = 2 := by
  obtain ⟨F, a, c, w, n, limit, rfl, _⟩ := h; rfl
theorem len_l_stock {ds S Q E} (h : sp_l_stock ds S Q E) : ds.length = 1 := by
  obtain ⟨_, rfl, _⟩ := h; rfl
def rd_l_pick_k1 : RS := sSeq (sAsg (eBin vAdd (eBin vIx (eVar 0) (eC (.int 3))) (eC (.int 1))) (gSub (eVar 0) (eC (.int 3)))) (sSeq (sAsg (eBin vMod (eCB cInt [eBin vPow (eBin vAdd (eBin vIx (eVar 0) (eC (.int 2))) (eBin vMul (eBin vMul (eC (.int 104729)) (eBin vIx (eVar 0) (eC (.int 3)))) (eBin vIx (eVar 0) (eC (.int 3))))) (eC (.int 2))]) (eC (.int 1000000000000000000117))) (gName 2)) (sRet (eBin vMod (eBin vFdiv (eBin vMod (eCB cInt [eBin vMul (eVar 2) (eBin vAdd (eBin vAdd (eVar 2) (eBin vMul (eC (.int 2)) (eBin vIx (eVar 0) (eC (.int 3))))) (eC (.int 1)))]) (eC (.int 1000000000000000000000007))) (eC (.int 65537))) (eVar 1))))
theorem rd_l_pick_k1_eq (D0 : En) (τ : VS) (S : Sto) : rd_l_pick_k1 D0 τ S = (sSeq (sAsg (eBin vAdd (eBin vIx (eVar 0) (eC (.int 3))) (eC (.int 1))) (gSub (eVar 0) (eC (.int 3)))) (sSeq (sAsg (eBin vMod (eCB cInt [eBin vPow (eBin vAdd (eBin vIx (eVar 0) (eC (.int 2))) (eBin vMul (eBin vMul (eC (.int 104729)) (eBin vIx (eVar 0) (eC (.int 3)))) (eBin vIx (eVar 0) (eC (.int 3))))) (eC (.int 2))]) (eC (.int 1000000000000000000117))) (gName 2)) (sRet (eBin vMod (eBin vFdiv (eBin vMod (eCB cInt [eBin vMul (eVar 2) (eBin vAdd (eBin vAdd (eVar 2) (eBin vMul (eC (.int 2)) (eBin vIx (eVar 0) (eC (.int 3))))) (eC (.int 1)))]) (eC (.int 1000000000000000000000007))) (eC (.int 65537))) (eVar 1)))) : RS) D0 τ S := rfl
def rd_l_pick_k2 : RS := sSeq (sIf (tVal (eBin vGt (eBin vIx (eVar 0) (eC (.int 1))) (eC (.int 0)))) (sSeq (sAsg (eBin vMod (eCB cInt [eBin vIx (eVar 0) (eC (.int 1))]) (eVar 1)) (gName 3)) (sSeq (sAsg (eBin vFdiv (eBin vIx (eVar 0) (eC (.int 1))) (eVar 1)) (gSub (eVar 0) (eC (.int 1)))) (sRet (eVar 3)))) sNext) rd_l_pick_k1
theorem rd_l_pick_k2_eq (D0 : En) (τ : VS) (S : Sto) : rd_l_pick_k2 D0 τ S = (sSeq (sIf (tVal (eBin vGt (eBin vIx (eVar 0) (eC (.int 1))) (eC (.int 0)))) (sSeq (sAsg (eBin vMod (eCB cInt [eBin vIx (eVar 0) (eC (.int 1))]) (eVar 1)) (gName 3)) (sSeq (sAsg (eBin vFdiv (eBin vIx (eVar 0) (eC (.int 1))) (eVar 1)) (gSub (eVar 0) (eC (.int 1)))) (sRet (eVar 3)))) sNext) rd_l_pick_k1 : RS) D0 τ S := rfl
def rd_l_pick : RS := sSeq (sIf (tAnd (tVal (eBin vEq (eBin vIx (eVar 0) (eC (.int 1))) (eC (.int 0)))) (tVal (eBin vNe (eBin vIx (eVar 0) (eC (.int 0))) (eLst [])))) (sAsg (eM0 "list" mPop (eBin vIx (eVar 0) (eC (.int 0)))) (gSub (eVar 0) (eC (.int 1)))) sNext) rd_l_pick_k2
theorem rd_l_pick_eq (D0 : En) (τ : VS) (S : Sto) : rd_l_pick D0 τ S = (sSeq (sIf (tAnd (tVal (eBin vEq (eBin vIx (eVar 0) (eC (.int 1))) (eC (.int 0)))) (tVal (eBin vNe (eBin vIx (eVar 0) (eC (.int 0))) (eLst [])))) (sAsg (eM0 "list" mPop (eBin vIx (eVar 0) (eC (.int 0)))) (gSub (eVar 0) (eC (.int 1)))) sNext) rd_l_pick_k2 : RS) D0 τ S := rfl
theorem vc_l_pick {ds S Q E} (h : sp_l_pick ds S Q E) : BodyV N_l_pick ds S Q rd_l_pick := by
  obtain ⟨F, a, c, w, n, limit, rfl, rfl, ap, wk, hn, h1, h2, h⟩ := h
  have fin : ∀ F' w' r, Le F F' → 0 ≤ r → r < limit → Wok w' (n + 1) → ∃ S'', Le S'' (stk F' a c w') ∧ Q (.int r) S'' := fun F' w' r l r0 r1 wk' => ⟨_, stk_mono l, h r w' r0 r1 wk'⟩
  have hl : 0 < limit := by omega
  have hln : limit ≠ 0 := by omega
  have hlog : limit.natAbs.log2 < 9000 := log2_fits (a := 250) (by decide) (by omega)
  rw [BodyV, rd_l_pick_eq]
  have rest : ∀ D0 : En, (∀ F' w' r, Le F F' → 0 ≤ r → r < limit → Wok w' (n + 1) → D0.rt (.int r) (stk F' a c w')) → ∀ F' w' x2 x3, Ap F' a c → Le F F' → Wok w' n → rd_l_pick_k2 D0 [some (.ref a), some (.int limit), x2, x3] (stk F' a c w') := fun D0 hD F' w' x2 x3 ap' l wk' => by
    simp only [rd_l_pick_k2_eq]
    walk_at "v"
    by_cases hop : 0 < w'.op
    · rw [if_pos hop]
      refine ⟨hln, ⟨hln, hlog⟩, ?_⟩
      exact hD _ _ _ l (fmod_range hl).1 (fmod_range hl).2 ⟨wk'.cells, fdiv_nonneg wk'.op hl, wk'.x0, wk'.x1, wk'.k0, Int.le_trans wk'.k1 (by omega)⟩
    · rw [if_neg hop]
      simp only [rd_l_pick_k1_eq]
      walk_at "v"
      have k0 := wk'.k0
      have k1 := wk'.k1
      have x0 := wk'.x0
      have x1 := wk'.x1
      generalize w'.k = k at k0 k1
      have hk : 104729 * (k + 1) ≤ 1047290000000 := by omega
      have hk0 : 0 ≤ 104729 * (k + 1) := by omega
      have e2 : 0 ≤ 104729 * (k + 1) * (k + 1) := Int.mul_nonneg hk0 (by omega)
      have e3 : 104729 * (k + 1) * (k + 1) ≤ 1047290000000 * 10000000 := Int.mul_le_mul hk (by omega) (by omega) (by omega)
      refine ⟨mul_fits (a := 20) (b := 60) (by decide) (by omega), mul_fits (a := 60) (b := 60) (by omega) (by omega), ⟨by decide, by decide, ?_⟩, by decide, mul_fits (a := 4) (b := 60) (by decide) (by omega), ?_⟩
      · generalize 104729 * (k + 1) * (k + 1) = m at e2 e3
        omega
      generalize (w'.x + 104729 * (k + 1) * (k + 1)) ^ (2 : Int).toNat = m
      have tm : 0 ≤ m.fmod 1000000000000000000117 ∧ m.fmod 1000000000000000000117 < 1000000000000000000117 := fmod_range (by decide)
      generalize m.fmod 1000000000000000000117 = t at tm
      refine ⟨mul_fits (a := 100) (b := 100) (by omega) (by omega), by decide, ⟨by decide, by decide⟩, hln, ?_⟩
      exact hD _ _ _ l (fmod_range hl).1 (fmod_range hl).2 ⟨wk'.cells, wk'.op, wk'.x0, wk'.x1, by show 0 ≤ k + 1; omega, by show k + 1 ≤ n + 1; omega⟩
  walk_at "v"
  by_cases hop : w.op = 0
  · rw [if_pos hop]
    intro p hp
    obtain ⟨hF, hpa, hpc⟩ := stk_none ap hp
    rw [put_stk ap hpa hpc]
    have ap' : Ap (put F p (.lst [])) a c := ap.nw hpa hpc
    have lF : Le F (put F p (.lst [])) := (Le.refl F).new hF
    refine vNe_ints (ns := w.cells) (ms := []) (.inl (stk_c ap')) (.inl (stk_le ap' _ _ put_same)) ?_
    by_cases hc : w.cells = []
    · simp only [hc, decide_true, Bool.not_true, if_true]
      exact rest _ fin _ _ _ _ ap' lF wk
    · simp only [hc, decide_false, Bool.not_false, Bool.true_eq_false, if_false]
      rw [vIx_stk0]
      refine ⟨.inl ⟨_, .inl (stk_c ap')⟩, w.cells.map .int, .int (w.cells.getLast hc), stk_c ap', ?_, ?_⟩
      · rw [List.length_map, List.getElem?_map, ← List.getLast?_eq_getElem?, List.getLast?_eq_getLast hc]; rfl
      · have e : (w.cells.map D.int).dropLast = w.cells.dropLast.map D.int := by rw [List.map_dropLast]
        rw [e, put_stk_c ap', vLSet_stk1]
        exact rest _ fin _ _ _ _ ap' lF ⟨fun z hz => wk.cells z (List.dropLast_subset _ hz), wk.cells _ (List.getLast_mem hc), wk.x0, wk.x1, wk.k0, wk.k1⟩
  · rw [if_neg hop]
    exact rest _ fin _ _ _ _ ap (Le.refl F) wk
theorem ok_l_pick {P : Program} {w : World} {K : PySem.W.Frag} {mg : Str → Option Value} {base : Heap} (T : Tp K mg) : FnOk P w K mg base CX0 1 T.a_l_pick T.d_l_pick ["_law_stock_here", "_law_limit"] (lowSp K sp_l_pick) :=
  fnV T.F_l_pick sc_l_pick (fun ds S Q E h => len_l_pick h) fun cdv A outer s H E en E0 hr hx =>
    ⟨rd_l_pick, vss_cons (vs_if (vt_bool (vw_and (vt_cmp (op_eqAny hr.units) ov_eq (ve_ix ix_seq ov_ix (ve_var 0) ve_int) ve_int) (vw_and1 (vt_cmp (op_neAny hr.units) ov_ne (ve_ix ix_seq ov_ix (ve_var 0) ve_int) (ve_lst va_nil))))) (vss_one (vs_asg (ve_bm0 PySem.F.plainAttrs_list PySem.F.slot_list_pop PySem.F.type_list_pop mt_pop me_pop (ve_ix ix_seq ov_ix (ve_var 0) ve_int)) (vg_sub (ve_var 0) ve_int))) vss_nil) (vss_cons (vs_if (vt_cmp op_gt ov_cmp (ve_ix ix_seq ov_ix (ve_var 0) ve_int) ve_int) (vss_cons (vs_set (i := 3) sc_l_pick.nd rfl (.inl rfl) (ve_op op_modN ov_int (ve_callTy call_int1 ca_int (by rfl) T.z_int (by decide +kernel) (va_cons (ve_ix ix_seq ov_ix (ve_var 0) ve_int) va_nil)) (ve_var 1))) (vss_cons (vs_asg (ve_op op_fdivX ov_int (ve_ix ix_seq ov_ix (ve_var 0) ve_int) (ve_var 1)) (vg_sub (ve_var 0) ve_int)) (vss_one (vs_ret (ve_var 3))))) vss_nil) (vss_cons (vs_asg (ve_op op_addAny ov_add (ve_ix ix_seq ov_ix (ve_var 0) ve_int) ve_int) (vg_sub (ve_var 0) ve_int)) (vss_cons (vs_set (i := 2) sc_l_pick.nd rfl (.inl rfl) (ve_op op_modN ov_int (ve_callTy call_int1 ca_int (by rfl) T.z_int (by decide +kernel) (va_cons (ve_op op_pow ov_int (ve_op op_addAny ov_add (ve_ix ix_seq ov_ix (ve_var 0) ve_int) (ve_op op_mulAny ov_mul (ve_op op_mulAny ov_mul ve_int (ve_ix ix_seq ov_ix (ve_var 0) ve_int)) (ve_ix ix_seq ov_ix (ve_var 0) ve_int))) ve_int) va_nil)) ve_int)) (vss_one (vs_ret (ve_op op_modN ov_int (ve_op op_fdivX ov_int (ve_op op_modN ov_int (ve_callTy call_int1 ca_int (by rfl) T.z_int (by decide +kernel) (va_cons (ve_op op_mulAny ov_mul (ve_var 2) (ve_op op_addAny ov_add (ve_op op_addAny ov_add (ve_var 2) (ve_op op_mulAny ov_mul ve_int (ve_ix ix_seq ov_ix (ve_var 0) ve_int))) ve_int)) va_nil)) ve_int) ve_int) (ve_var 1))))))), fun ds S Q h => vc_l_pick h⟩
def rd_l_stock_b1 : RS := sIf (tVal (eBin vLt (eVar 2) (eBin vPow (eC (.int 10)) (eC (.int 18))))) (sAsg (eBin vAdd (eBin vMod (eCB cInt [eBin vPow (eBin vAdd (eBin vIx (eVar 1) (eC (.int 2))) (eBin vMod (eCB cInt [eVar 2]) (eC (.int 999999999989)))) (eC (.int 3))]) (eC (.int 10000000000000061))) (eC (.int 5))) (gSub (eVar 1) (eC (.int 2)))) (sAsg (eBin vAdd (eLst [eBin vSub (eVar 2) (eBin vPow (eC (.int 10)) (eC (.int 18)))]) (eBin vIx (eVar 1) (eC (.int 0)))) (gSub (eVar 1) (eC (.int 0))))
theorem rd_l_stock_b1_eq (D0 : En) (τ : VS) (S : Sto) : rd_l_stock_b1 D0 τ S = (sIf (tVal (eBin vLt (eVar 2) (eBin vPow (eC (.int 10)) (eC (.int 18))))) (sAsg (eBin vAdd (eBin vMod (eCB cInt [eBin vPow (eBin vAdd (eBin vIx (eVar 1) (eC (.int 2))) (eBin vMod (eCB cInt [eVar 2]) (eC (.int 999999999989)))) (eC (.int 3))]) (eC (.int 10000000000000061))) (eC (.int 5))) (gSub (eVar 1) (eC (.int 2)))) (sAsg (eBin vAdd (eLst [eBin vSub (eVar 2) (eBin vPow (eC (.int 10)) (eC (.int 18)))]) (eBin vIx (eVar 1) (eC (.int 0)))) (gSub (eVar 1) (eC (.int 0)))) : RS) D0 τ S := rfl
def rd_l_stock_k1 : RS := sRet (eVar 1)
theorem rd_l_stock_k1_eq (D0 : En) (τ : VS) (S : Sto) : rd_l_stock_k1 D0 τ S = (sRet (eVar 1) : RS) D0 τ S := rfl
def rd_l_stock : RS := sSeq (sAsg (eLst [eLst [], eC (.int 0), eC (.int 77029), eC (.int 0)]) (gName 1)) (sSeq (sFor (iScr (eVar 0)) (gName 2) rd_l_stock_b1) rd_l_stock_k1)
theorem rd_l_stock_eq (D0 : En) (τ : VS) (S : Sto) : rd_l_stock D0 τ S = (sSeq (sAsg (eLst [eLst [], eC (.int 0), eC (.int 77029), eC (.int 0)]) (gName 1)) (sSeq (sFor (iScr (eVar 0)) (gName 2) rd_l_stock_b1) rd_l_stock_k1) : RS) D0 τ S := rfl
theorem vc_l_stock {ds S Q E} (h : sp_l_stock ds S Q E) : BodyV N_l_stock ds S Q rd_l_stock := by
  obtain ⟨ns, rfl, hns, h⟩ := h
  rw [BodyV, rd_l_stock_eq]
  walk_at "v"
  intro c hc a ha
  have hac : a ≠ c := by rintro rfl; rw [put_same] at ha; cases ha
  have haS : S a = none := by rw [put_ne hac] at ha; exact ha
  have e0 : put (put S c (.lst [])) a (.lst [.ref c, .int 0, .int 77029, .int 0]) = stk S a c ⟨[], 0, 77029, 0⟩ := rfl
  rw [e0]
  refine for_inv (fun i τ S' => ∃ a c w x, τ = [some (.scr ns), some (.ref a), x] ∧ S' = stk S a c w ∧ Ap S a c ∧ Wok w 0 ∧ w.cells.length ≤ i)
    ⟨a, c, _, none, rfl, rfl, ⟨hac, haS, hc⟩, ⟨(fun _ h => by cases h), by decide, by decide, by decide, by decide, by decide⟩, Nat.le_refl _⟩ (fun _ _ _ _ => trivial) ?_ ?_
  · rintro i x τ S' D1 hx ⟨a, c, w, y, rfl, rfl, ap, wk, hlen⟩ hrt hbk hnx hct
    have hi63 : i < ns.length := by have := (List.getElem?_eq_some_iff.mp hx).1; rw [List.length_map] at this; exact this
    rw [List.getElem?_map] at hx
    cases hz : ns[i]? with
    | none => rw [hz] at hx; cases hx
    | some z =>
      rw [hz] at hx
      have ex : x = .int z := (Option.some.inj hx).symm
      subst ex
      simp only [rd_l_stock_b1_eq]
      walk_at "v"
      have x0 := wk.x0
      have x1 := wk.x1
      refine ⟨⟨by decide, by decide, by decide⟩, ?_⟩
      by_cases hz : z < 10 ^ (18 : Int).toNat
      · rw [if_pos hz]
        have r1 : 0 ≤ z.fmod 999999999989 ∧ z.fmod 999999999989 < 999999999989 := fmod_range (by decide)
        refine ⟨by decide, ⟨by decide, by decide, by omega⟩, by decide, ?_⟩
        generalize (w.x + z.fmod 999999999989) ^ (3 : Int).toNat = m
        have r2 : 0 ≤ m.fmod 10000000000000061 ∧ m.fmod 10000000000000061 < 10000000000000061 := fmod_range (by decide)
        exact hnx _ _ _ _ ⟨a, c, _, _, rfl, rfl, ap, (⟨wk.cells, wk.op, by show 0 ≤ m.fmod 10000000000000061 + 5; omega, by show m.fmod 10000000000000061 + 5 ≤ 10000000000000066; omega, wk.k0, wk.k1⟩ : Wok ⟨w.cells, w.op, m.fmod 10000000000000061 + 5, w.k⟩ 0), Nat.le_succ_of_le hlen⟩ (VLe.refl _) (Le.refl _)
      · rw [if_neg hz]
        refine ⟨⟨by decide, by decide, by decide⟩, fun p hp => ?_⟩
        obtain ⟨hF, hpa, hpc⟩ := stk_none ap hp
        rw [put_stk ap hpa hpc]
        have ap' := ap.nw (o := .lst [D.int (z - 10 ^ (18 : Int).toNat)]) hpa hpc
        rw [vIx_stk0]
        refine ⟨_, _, stk_le ap' _ _ put_same, stk_c ap', ?_, fun q hq => ?_⟩
        · rw [List.length_map]; simp only [List.length_cons, List.length_nil]; omega
        · obtain ⟨hF2, hqa, hqc⟩ := stk_none ap' hq
          have hqS : S q = none := by
            have := hF2
            rw [put_ne (by rintro rfl; rw [put_same] at hF2; cases hF2)] at this; exact this
          refine ⟨[.ref c, .int w.op, .int w.x, .int w.k], 0, by rw [put_ne hqa.symm]; exact stk_a, rfl, ?_⟩
          refine hnx _ _ _ _ ⟨a, q, ⟨(z - 10 ^ (18 : Int).toNat) :: w.cells, w.op, w.x, w.k⟩, _, rfl, rfl, ⟨hqa.symm, ap.a, hqS⟩, ⟨?_, wk.op, wk.x0, wk.x1, wk.k0, wk.k1⟩, Nat.succ_le_succ hlen⟩ (VLe.refl _) (Le.put (Le.put ?_))
          · intro y hy
            rcases List.mem_cons.mp hy with rfl | hy
            · omega
            · exact wk.cells y hy
          · exact ((Le.refl S).new hF).trans (stk_le ap')
  · rintro τ S' ⟨a, c, w, x, rfl, rfl, ap, wk, _⟩
    simp only [rd_l_stock_k1_eq]
    walk_at "v"
    exact ⟨_, Le.refl _, h a c w ap wk⟩
theorem ok_l_stock {P : Program} {w : World} {K : PySem.W.Frag} {mg : Str → Option Value} {base : Heap} (T : Tp K mg) : FnOk P w K mg base CX0 1 T.a_l_stock T.d_l_stock ["_law_script"] (lowSp K sp_l_stock) :=
  fnV T.F_l_stock sc_l_stock (fun ds S Q E h => len_l_stock h) fun cdv A outer s H E en E0 hr hx =>
    ⟨rd_l_stock, vss_cons (vs_set (i := 1) sc_l_stock.nd rfl (.inl rfl) (ve_lst (va_cons (ve_lst va_nil) (va_cons ve_int (va_cons ve_int (va_cons ve_int va_nil)))))) (vss_cons (vs_for PassesOwn.never rfl (vi_scr (ve_var 0)) (vg_name (i := 2) sc_l_stock.nd rfl (.inl rfl)) (vss_one (vs_if (vt_cmp (op_ltAny hr.units0) ov_lt (ve_var 2) (ve_op op_pow ov_int ve_int ve_int)) (vss_one (vs_asg (ve_op op_addAny ov_add (ve_op op_modN ov_int (ve_callTy call_int1 ca_int (by rfl) T.z_int (by decide +kernel) (va_cons (ve_op op_pow ov_int (ve_op op_addAny ov_add (ve_ix ix_seq ov_ix (ve_var 1) ve_int) (ve_op op_modN ov_int (ve_callTy call_int1 ca_int (by rfl) T.z_int (by decide +kernel) (va_cons (ve_var 2) va_nil)) ve_int)) ve_int) va_nil)) ve_int) ve_int) (vg_sub (ve_var 1) ve_int))) (vss_one (vs_asg (ve_op op_addAny ov_add (ve_lst (va_cons (ve_op op_sub ov_int0 (ve_var 2) (ve_op op_pow ov_int ve_int ve_int)) va_nil)) (ve_ix ix_seq ov_ix (ve_var 1) ve_int)) (vg_sub (ve_var 1) ve_int)))))) (vss_one (vs_ret (ve_var 1)))), fun ds S Q h => vc_l_stock h⟩
def pw9 : Nat → Int
  | 0 => 1
  | i + 1 => pw9 i * 1000000000
def sp_l_wide : SpV := fun ds S Q _ => ∃ F a c w n limit, ds = [.ref a, .int limit] ∧ S = stk F a c w ∧ Ap F a c ∧ Wok w n ∧ n < 9999990 ∧ 1 ≤ limit ∧ ∀ r w', 0 ≤ r → r < limit → Wok w' (n + 4) → Q (.int r) (stk F a c w')
theorem wide_to {F : Sto} {a c : Addr} {w : Wd} {n limit : Int} {Q : KE} {E : XC} (ap : Ap F a c) (wk : Wok w n) (hn : n < 9999990) (h1 : 1 ≤ limit) (h : ∀ r w', 0 ≤ r → r < limit → Wok w' (n + 4) → Q (.int r) (stk F a c w')) :
    sp_l_wide [.ref a, .int limit] (stk F a c w) Q E := ⟨F, a, c, w, n, limit, rfl, rfl, ap, wk, hn, h1, h⟩
theorem len_l_wide {ds S Q E} (h : sp_l_wide ds S Q E) : ds.length = 2 := by
  obtain ⟨F, a, c, w, n, limit, rfl, _⟩ := h; rfl
def rd_l_wide_b1 : RS := sAsg (eBin vAdd (eBin vMul (eVar 2) (eBin vPow (eC (.int 10)) (eC (.int 9)))) (eCall sp_l_pick E0n [eVar 0, eBin vPow (eC (.int 10)) (eC (.int 9))])) (gName 2)
theorem rd_l_wide_b1_eq (D0 : En) (τ : VS) (S : Sto) : rd_l_wide_b1 D0 τ S = (sAsg (eBin vAdd (eBin vMul (eVar 2) (eBin vPow (eC (.int 10)) (eC (.int 9)))) (eCall sp_l_pick E0n [eVar 0, eBin vPow (eC (.int 10)) (eC (.int 9))])) (gName 2) : RS) D0 τ S := rfl
def rd_l_wide_k1 : RS := sRet (eBin vMod (eCB cInt [eVar 2]) (eVar 1))
theorem rd_l_wide_k1_eq (D0 : En) (τ : VS) (S : Sto) : rd_l_wide_k1 D0 τ S = (sRet (eBin vMod (eCB cInt [eVar 2]) (eVar 1)) : RS) D0 τ S := rfl
def rd_l_wide : RS := sSeq (sAsg (eC (.int 0)) (gName 2)) (sSeq (sFor (iRng1 [eC (.int 4)]) (gName 3) rd_l_wide_b1) rd_l_wide_k1)
theorem rd_l_wide_eq (D0 : En) (τ : VS) (S : Sto) : rd_l_wide D0 τ S = (sSeq (sAsg (eC (.int 0)) (gName 2)) (sSeq (sFor (iRng1 [eC (.int 4)]) (gName 3) rd_l_wide_b1) rd_l_wide_k1) : RS) D0 τ S := rfl
theorem vc_l_wide {ds S Q E} (h : sp_l_wide ds S Q E) : BodyV N_l_wide ds S Q rd_l_wide := by
  obtain ⟨F, a, c, w, n, limit, rfl, rfl, ap, wk, hn, h1, h⟩ := h
  rw [BodyV, rd_l_wide_eq]
  walk_at "v"
  refine ⟨by decide, ?_⟩
  refine for_inv (fun i τ S' => ∃ w t x, τ = [some (.ref a), some (.int limit), some (.int t), x] ∧ S' = stk F a c w ∧ Wok w (n + i) ∧ 0 ≤ t ∧ t < pw9 i ∧ i ≤ 4)
    ⟨w, 0, none, rfl, rfl, by simpa using wk, by decide, by decide, by decide⟩ (fun _ _ _ _ => trivial) ?_ ?_
  · rintro i x τ S' D1 hx ⟨w, t, y, rfl, rfl, wk, t0, t1, hi⟩ hrt hbk hnx hct
    obtain ⟨hi4, rfl⟩ := intsD_at hx
    have hi4 : i < 4 := hi4
    simp only [rd_l_wide_b1_eq]
    walk_at "v"
    refine ⟨⟨by decide, by decide, by decide⟩, ?_, ⟨by decide, by decide, by decide⟩, F, a, c, w, n + i, 10 ^ (9 : Int).toNat, rfl, rfl, ap, wk, by omega, by decide, by decide, fun r w' r0 r1 wk' => ?_⟩
    · refine mul_fits (a := 200) (b := 40) ?_ (by decide)
      have : pw9 i ≤ 10 ^ 27 := by
        rcases (by omega : i = 0 ∨ i = 1 ∨ i = 2 ∨ i = 3) with rfl | rfl | rfl | rfl <;> decide
      omega
    · refine hnx _ _ _ _ ⟨w', t * 10 ^ (9 : Int).toNat + r, _, rfl, rfl, by have := wk'.mono (m := n + ((i + 1 : Nat) : Int)) (by omega); exact this, ?_, ?_, by omega⟩ (VLe.refl _) (Le.refl _)
      · have e : (10 : Int) ^ (9 : Int).toNat = 1000000000 := by decide
        rw [e]; omega
      · have e : (10 : Int) ^ (9 : Int).toNat = 1000000000 := by decide
        rw [e] at r1 ⊢
        show t * 1000000000 + r < pw9 i * 1000000000
        omega
  · rintro τ S' ⟨w', t, x, rfl, rfl, wk', t0, t1, hi⟩
    simp only [rd_l_wide_k1_eq]
    walk_at "v"
    refine ⟨by omega, _, Le.refl _, h _ _ (fmod_range (by omega)).1 (fmod_range (by omega)).2 wk'⟩
theorem ok_l_wide {P : Program} {w : World} {K : PySem.W.Frag} {mg : Str → Option Value} {base : Heap} (T : Tp K mg) : FnOk P w K mg base CX0 2 T.a_l_wide T.d_l_wide ["_law_stock_here", "_law_limit"] (lowSp K sp_l_wide) :=
  fnV T.F_l_wide sc_l_wide (fun ds S Q E h => len_l_wide h) fun cdv A outer s H E en E0 hr hx =>
    ⟨rd_l_wide, vss_cons (vs_set (i := 2) sc_l_wide.nd rfl (.inl rfl) ve_int) (vss_cons (vs_for PassesOwn.never rfl (vi_rng1 (by rfl) T.z_range (va_cons ve_int va_nil)) (vg_name (i := 3) sc_l_wide.nd rfl (.inl rfl)) (vss_one (vs_set (i := 2) sc_l_wide.nd rfl (.inl rfl) (ve_op op_addAny ov_add (ve_op op_mulAny ov_mul (ve_var 2) (ve_op op_pow ov_int ve_int ve_int)) (ve_call (ok_l_pick T) (hr.mono (by decide)) (by rfl) T.g_l_pick T.F_l_pick.kp (bi_l_pick T) (pass0 (X := _)) XE0.no (va_cons (ve_var 0) (va_cons (ve_op op_pow ov_int ve_int ve_int) va_nil))))))) (vss_one (vs_ret (ve_op op_modN ov_int (ve_callTy call_int1 ca_int (by rfl) T.z_int (by decide +kernel) (va_cons (ve_var 2) va_nil)) (ve_var 1))))), fun ds S Q h => vc_l_wide h⟩
end LW
namespace LW
open PySem PySem.Spec PyProof.Rows L2 VL
local macro_rules | `(tactic| walk_at "v") => `(tactic| simp only [sSeq, sAsg, sFor, sRet, sRetN, sIf, sNext, sDrop, sPar, sAug, VL.sDPut, eVar, eC, eBin, eUn, eCB, eCall, eCallK, eArgs, eTup, eLst, eIf, eNot, eAnd, eOr, eDNew, eDGet2, eSl, oNone, oSome, eRev, eM0, eM, eLc, eLcF, Tg.R, tVal, VL.tNot, VL.tAnd, VL.tOr, VL.tYes, sl, wipeV, VL.gName, VL.gTupN, VL.gSub, gAll, VL.iTup, iLst, iScr, VL.iRng1, VL.iRng2, vAdd_int, vAdd_ib, vAdd_str, vAdd_tup, vAdd_tI, vAdd_ref, VL.vInt, VL.vInt0, vMul_int, vMul_ref, vMul_tup, vNeg, vCmp, vEq_int, vEq_bl, vEq_str, vNe_int, vNe_bl, vNe_str, vLt_int, vIsN_non, vNotN_non, vIsN_int, vNotN_int, vIsN_bl, vNotN_bl, vIsN_str, vNotN_str, vIsN_ref, vNotN_ref, vIsN_tup, vNotN_tup, vIsN_tI, vNotN_tI, vLt_tI, cLen_tI, vDGet_tI, vDPut_tI, vDGet2_tI, cLen_tup, cLen_scr, cLen_str, cLen_ref, cLenD_ref, cList_tI, cInt_int, cInt_bl, cAbs, cMax2, cMin2, isT, mPop, mAppend, vIx_p0, vIx_p1, vSl_tI, vIx_stk0, vIx_stk1, vIx_stk2, vIx_stk3, vLSet_stk1, vLSet_stk2, vLSet_stk3, stk_a, List.set, startV, List.map_cons, List.map_nil, List.replicate, List.append_eq, List.nil_append, List.cons_append, List.length_cons, List.length_nil, List.length_map, if_true, Bool.false_eq_true, if_false, reduceIte, Bool.not_true, Bool.not_false, true_and, and_true, false_or, or_false, Bool.not_eq_eq_eq_not, decide_eq_true_eq, decide_eq_false_iff_not, reduceCtorEq])
/-! ### looks_right -/
def looksA (many : Int) : Option (List Int) → List (List Int × Int) → Bool
  | _, [] => true
  | none, (p, c) :: r => if (p.length : Int) ≠ many ∨ c = 0 then false else looksA many (some p) r
  | some l, (p, c) :: r => if (p.length : Int) ≠ many ∨ c = 0 then false else if HT.lexLt l p then looksA many (some p) r else false
def sp_looks_right : SpV := fun ds S Q _ => ∃ ts many, ds = [sumD ts, .int many] ∧ Q (.bl (looksA many none ts)) S
theorem len_looks_right {ds S Q E} (h : sp_looks_right ds S Q E) : ds.length = 2 := by
  obtain ⟨_, _, rfl, _⟩ := h; rfl
def rd_looks_right_k1 : RS := sAsg (eVar 3) (gName 2)
theorem rd_looks_right_k1_eq (D0 : En) (τ : VS) (S : Sto) : rd_looks_right_k1 D0 τ S = (sAsg (eVar 3) (gName 2) : RS) D0 τ S := rfl
def rd_looks_right_k2 : RS := sSeq (sIf (tAnd (tVal (eBin vNotN (eVar 2) (eC .non))) (tNot (tVal (eBin vLt (eVar 2) (eVar 3))))) (sRet (eC (.bl false))) sNext) rd_looks_right_k1
theorem rd_looks_right_k2_eq (D0 : En) (τ : VS) (S : Sto) : rd_looks_right_k2 D0 τ S = (sSeq (sIf (tAnd (tVal (eBin vNotN (eVar 2) (eC .non))) (tNot (tVal (eBin vLt (eVar 2) (eVar 3))))) (sRet (eC (.bl false))) sNext) rd_looks_right_k1 : RS) D0 τ S := rfl
def rd_looks_right_b1 : RS := sSeq (sIf (tOr (tVal (eBin vNe (eCB cLen [eVar 3]) (eVar 1))) (tVal (eBin vEq (eVar 4) (eC (.int 0))))) (sRet (eC (.bl false))) sNext) rd_looks_right_k2
theorem rd_looks_right_b1_eq (D0 : En) (τ : VS) (S : Sto) : rd_looks_right_b1 D0 τ S = (sSeq (sIf (tOr (tVal (eBin vNe (eCB cLen [eVar 3]) (eVar 1))) (tVal (eBin vEq (eVar 4) (eC (.int 0))))) (sRet (eC (.bl false))) sNext) rd_looks_right_k2 : RS) D0 τ S := rfl
def rd_looks_right : RS := sSeq (sAsg (eC .non) (gName 2)) (sSeq (sFor (iTup (eVar 0)) (gTupN 2 [(gName 3), (gName 4)]) rd_looks_right_b1) (sRet (eC (.bl true))))
theorem rd_looks_right_eq (D0 : En) (τ : VS) (S : Sto) : rd_looks_right D0 τ S = (sSeq (sAsg (eC .non) (gName 2)) (sSeq (sFor (iTup (eVar 0)) (gTupN 2 [(gName 3), (gName 4)]) rd_looks_right_b1) (sRet (eC (.bl true)))) : RS) D0 τ S := rfl
def optD : Option (List Int) → D
  | none => .non
  | some l => tI l
theorem loop_looks {D0 : En} {S : Sto} {told : D} {many : Int} : ∀ (ts : List (List Int × Int)) (last : Option (List Int)) (x y : Option D), (∀ τ, D0.rt (.bl true) S → D0.nx τ S) → D0.rt (.bl (looksA many last ts)) S →
    forR (fun _ => True) (gTupN 2 [(gName 3), (gName 4)]) rd_looks_right_b1 D0 (ts.map terD) [some told, some (.int many), some (optD last), x, y] S
  | [], last, x, y, hn, h => by
    refine ⟨trivial, hn _ ?_⟩
    cases last <;> exact h
  | (p, c) :: r, last, x, y, hn, h => by
    have ih := fun l a b (q : D0.rt (.bl (looksA many l r)) S) => loop_looks (D0 := D0) (S := S) (told := told) r l a b hn q
    refine ⟨trivial, ?_⟩
    simp only [rd_looks_right_b1_eq]
    have fin : D0.rt (.bl (if (p.length : Int) ≠ many ∨ c = 0 then false else looksA many (some p) r)) S → (p.length : Int) = many → ¬ c = 0 → ∃ τ3 S3, VLe τ3 [some told, some (.int many), some (tI p), some (tI p), some (.int c)] ∧ Le S3 S ∧ forR (fun _ => True) (gTupN 2 [(gName 3), (gName 4)]) rd_looks_right_b1 D0 (r.map terD) τ3 S3 := fun h h1 h2 => by
      rw [if_neg (by rintro (z | z); exact z h1; exact h2 z)] at h
      exact ⟨_, S, VLe.refl _, Le.refl S, ih (some p) _ _ h⟩
    cases last with
    | none =>
      unfold looksA at h
      simp only [optD, terD]
      walk_at "v"
      simp only [rd_looks_right_k2_eq]
      walk_at "v"
      simp only [rd_looks_right_k1_eq]
      walk_at "v"
      by_cases h1 : (p.length : Int) = many
      · rw [if_neg (by rw [h1]; exact fun z => z rfl)]
        by_cases h2 : c = 0
        · rw [if_pos h2]
          rw [if_pos (.inr h2)] at h; exact h
        · rw [if_neg h2]
          exact fin h h1 h2
      · rw [if_pos h1]
        rw [if_pos (.inl h1)] at h; exact h
    | some l =>
      unfold looksA at h
      simp only [optD, terD]
      walk_at "v"
      simp only [rd_looks_right_k2_eq]
      walk_at "v"
      simp only [rd_looks_right_k1_eq]
      walk_at "v"
      by_cases h1 : (p.length : Int) = many
      · rw [if_neg (by rw [h1]; exact fun z => z rfl)]
        by_cases h2 : c = 0
        · rw [if_pos h2]
          rw [if_pos (.inr h2)] at h; exact h
        · rw [if_neg h2]
          rw [if_neg (by rintro (z | z); exact z h1; exact h2 z)] at h
          cases h3 : HT.lexLt l p with
          | true =>
            rw [h3, if_pos rfl] at h
            rw [if_neg (by decide)]
            exact ⟨_, S, VLe.refl _, Le.refl S, ih (some p) _ _ h⟩
          | false =>
            rw [h3, if_neg (by decide)] at h
            rw [if_pos rfl]
            exact h
      · rw [if_pos h1]
        rw [if_pos (.inl h1)] at h; exact h
theorem vc_looks_right {ds S Q E} (h : sp_looks_right ds S Q E) : BodyV N_looks_right ds S Q rd_looks_right := by
  obtain ⟨ts, many, rfl, h⟩ := h
  rw [BodyV, rd_looks_right_eq]
  simp only [sumD]
  walk_at "v"
  exact loop_looks ts none _ _ (fun _ h => h) ⟨S, Le.refl S, h⟩
theorem ok_looks_right {P : Program} {w : World} {K : PySem.W.Frag} {mg : Str → Option Value} {base : Heap} (T : Tp K mg) : FnOk P w K mg base CX0 1 T.a_looks_right T.d_looks_right ["told", "many"] (lowSp K sp_looks_right) :=
  fnV T.F_looks_right sc_looks_right (fun ds S Q E h => len_looks_right h) fun cdv A outer s H E en E0 hr hx =>
    ⟨rd_looks_right, vss_cons (vs_set (i := 2) sc_looks_right.nd rfl (.inl rfl) ve_non) (vss_cons (vs_for PassesOwn.never rfl (vi_tup (ve_var 0)) (vg_tup rfl (vgs_cons (vg_name (i := 3) sc_looks_right.nd rfl (.inl rfl)) (vgs_cons (vg_name (i := 4) sc_looks_right.nd rfl (.inl rfl)) (vgs_nil)))) (vss_cons (vs_if (vt_bool (vw_or (vt_cmp (op_neAny hr.units) ov_ne (ve_callB call_len ca_len (by rfl) T.z_len (by decide +kernel) (va_cons (ve_var 3) va_nil)) (ve_var 1)) (vw_or1 (vt_cmp (op_eqAny hr.units) ov_eq (ve_var 4) ve_int)))) (vss_one (vs_ret ve_bl)) vss_nil) (vss_cons (vs_if (vt_bool (vw_and (vt_cmp op_notN ov_notN (ve_var 2) ve_non) (vw_and1 (vt_not (vt_cmp (op_ltAny hr.units0) ov_lt (ve_var 2) (ve_var 3)))))) (vss_one (vs_ret ve_bl)) vss_nil) (vss_one (vs_set (i := 2) sc_looks_right.nd rfl (.inl rfl) (ve_var 3)))))) (vss_one (vs_ret ve_bl))), fun ds S Q h => vc_looks_right h⟩
def sp_is_sum : SpV := fun ds S Q _ => ∃ ts many, ds = [sumD ts, .int many] ∧ Q (.bl (looksA many none ts)) S
theorem len_is_sum {ds S Q E} (h : sp_is_sum ds S Q E) : ds.length = 2 := by
  obtain ⟨_, _, rfl, _⟩ := h; rfl
def rd_is_sum : RS := sRet (eCall sp_looks_right E0n [eVar 0, eVar 1])
theorem rd_is_sum_eq (D0 : En) (τ : VS) (S : Sto) : rd_is_sum D0 τ S = (sRet (eCall sp_looks_right E0n [eVar 0, eVar 1]) : RS) D0 τ S := rfl
theorem vc_is_sum {ds S Q E} (h : sp_is_sum ds S Q E) : BodyV N_is_sum ds S Q rd_is_sum := by
  obtain ⟨ts, many, rfl, h⟩ := h
  rw [BodyV, rd_is_sum_eq]
  walk_at "v"
  exact ⟨ts, many, rfl, S, Le.refl S, h⟩
theorem ok_is_sum {P : Program} {w : World} {K : PySem.W.Frag} {mg : Str → Option Value} {base : Heap} (T : Tp K mg) : FnOk P w K mg base CX0 2 T.a_is_sum T.d_is_sum ["told", "many"] (lowSp K sp_is_sum) :=
  fnV T.F_is_sum sc_is_sum (fun ds S Q E h => len_is_sum h) fun cdv A outer s H E en E0 hr hx =>
    ⟨rd_is_sum, vss_one (vs_ret (ve_call (ok_looks_right T) (hr.mono (by decide)) (by rfl) T.g_looks_right T.F_looks_right.kp (bi_looks_right T) (pass0 (X := _)) XE0.no (va_cons (ve_var 0) (va_cons (ve_var 1) va_nil)))), fun ds S Q h => vc_is_sum h⟩
theorem kw_is_sum_0_many_told {K : PySem.W.Frag} {mg : Str → Option Value} (T : Tp K mg) : KwOk K T.d_is_sum ["told", "many"] ["many", "told"] (kwg 0 2 [1, 0]) := kwok (by decide) fun s us ws h1 h2 => by
  obtain ⟨oc, od, kV, doc, pm, an, cdv, ct, osl, e, lk, hcd⟩ := T.F_is_sum.ex
  rw [e]
  match us, ws, h1, h2 with
  | [], [w0, w1], _, _ => exact .of_eq rfl
end LW
namespace LW
open PySem PySem.Spec PyProof.Rows L2 VL
local macro_rules | `(tactic| walk_at "v") => `(tactic| simp only [sSeq, sAsg, sFor, sRet, sRetN, sIf, sNext, sDrop, sPar, sAug, VL.sDPut, eVar, eC, eBin, eUn, eCB, eCall, eCallK, eArgs, eTup, eLst, eIf, eNot, eAnd, eOr, eDNew, eDGet2, eSl, oNone, oSome, eRev, eM0, eM, eLc, eLcF, Tg.R, tVal, VL.tNot, VL.tAnd, VL.tOr, VL.tYes, sl, wipeV, VL.gName, VL.gTupN, VL.gSub, gAll, VL.iTup, iLst, iScr, VL.iRng1, VL.iRng2, vAdd_int, vAdd_ib, vAdd_str, vAdd_tup, vAdd_tI, vAdd_ref, VL.vInt, VL.vInt0, vMul_int, vMul_ref, vMul_tup, vNeg, vCmp, vEq_int, vEq_bl, vEq_str, vNe_int, vNe_bl, vNe_str, vLt_int, vIsN_non, vNotN_non, vIsN_int, vNotN_int, vIsN_bl, vNotN_bl, vIsN_str, vNotN_str, vIsN_ref, vNotN_ref, vIsN_tup, vNotN_tup, vIsN_tI, vNotN_tI, vLt_tI, cLen_tI, vDGet_tI, vDPut_tI, vDGet2_tI, cLen_tup, cLen_scr, cLen_str, cLen_ref, cLenD_ref, cList_tI, cInt_int, cInt_bl, cAbs, cMax2, cMin2, isT, mPop, mAppend, vIx_p0, vIx_p1, vSl_tI, vIx_stk0, vIx_stk1, vIx_stk2, vIx_stk3, vLSet_stk1, vLSet_stk2, vLSet_stk3, stk_a, List.set, startV, List.map_cons, List.map_nil, List.replicate, List.append_eq, List.nil_append, List.cons_append, List.length_cons, List.length_nil, List.length_map, if_true, Bool.false_eq_true, if_false, reduceIte, Bool.not_true, Bool.not_false, true_and, and_true, false_or, or_false, Bool.not_eq_eq_eq_not, decide_eq_true_eq, decide_eq_false_iff_not, reduceCtorEq])
/-! ### the terms of a right sum -/
def sp_l_rows : SpV := fun ds S Q _ => ∃ F a c w n many, ds = [.ref a, .int many] ∧ S = stk F a c w ∧ Ap F a c ∧ Wok w n ∧ n < 9000000 ∧ 1 ≤ many ∧ many ≤ 12 ∧
  ∀ p w' ts, F p = none → p ≠ a → p ≠ c → List.length ts ≤ 9 → Wok w' (n + 1000) → (∀ t ∈ ts, t.1.length = many.toNat) → Q (.ref p) (stk (put F p (.lst (List.map terD ts))) a c w')
theorem len_l_rows {ds S Q E} (h : sp_l_rows ds S Q E) : ds.length = 2 := by
  obtain ⟨F, a, c, w, n, many, rfl, _⟩ := h; rfl
def rd_l_rows_k1 : RS := sSeq (sAsg (eBin vAdd (eC (.int 1)) (eCall sp_l_wide E0n [eVar 0, eBin vIx (eLst [eC (.int 2), eBin vSub (eBin vPow (eC (.int 10)) (eC (.int 30))) (eC (.int 1))]) (eCall sp_l_pick E0n [eVar 0, eC (.int 2)])])) (gName 6)) (sDPut (eVar 3) (eCB cTuple [eVar 5]) (eBin vMul (eVar 6) (eBin vSub (eC (.int 1)) (eBin vMul (eC (.int 2)) (eCall sp_l_pick E0n [eVar 0, eC (.int 2)])))))
theorem rd_l_rows_k1_eq (D0 : En) (τ : VS) (S : Sto) : rd_l_rows_k1 D0 τ S = (sSeq (sAsg (eBin vAdd (eC (.int 1)) (eCall sp_l_wide E0n [eVar 0, eBin vIx (eLst [eC (.int 2), eBin vSub (eBin vPow (eC (.int 10)) (eC (.int 30))) (eC (.int 1))]) (eCall sp_l_pick E0n [eVar 0, eC (.int 2)])])) (gName 6)) (sDPut (eVar 3) (eCB cTuple [eVar 5]) (eBin vMul (eVar 6) (eBin vSub (eC (.int 1)) (eBin vMul (eC (.int 2)) (eCall sp_l_pick E0n [eVar 0, eC (.int 2)]))))) : RS) D0 τ S := rfl
def rd_l_rows_b1 : RS := sSeq (sAsg (eLc (iRng1 [eVar 1]) (Tg.R (.nm 8)) tYes (eBin vSub (eCall sp_l_pick E0n [eVar 0, eBin vAdd (eBin vMul (eC (.int 2)) (eVar 4)) (eC (.int 1))]) (eVar 4)) [8]) (gName 5)) (sSeq (sIf (tAnd (tVal (eBin vEq (eCall sp_l_pick E0n [eVar 0, eC (.int 2)]) (eC (.int 1)))) (tVal (eBin vNeNil (eVar 3) eDNew))) (sSeq (sPar 5 7 (eCB cList [eBin vIx (eCB cSort [eVar 3]) (eCall sp_l_pick E0n [eVar 0, eCB cLenD [eVar 3]])]) (eCall sp_l_pick E0n [eVar 0, eVar 1])) (sAsg (eBin vSub (eCall sp_l_pick E0n [eVar 0, eC (.int 5)]) (eC (.int 2))) (gSub (eVar 5) (eVar 7)))) sNext) rd_l_rows_k1)
theorem rd_l_rows_b1_eq (D0 : En) (τ : VS) (S : Sto) : rd_l_rows_b1 D0 τ S = (sSeq (sAsg (eLc (iRng1 [eVar 1]) (Tg.R (.nm 8)) tYes (eBin vSub (eCall sp_l_pick E0n [eVar 0, eBin vAdd (eBin vMul (eC (.int 2)) (eVar 4)) (eC (.int 1))]) (eVar 4)) [8]) (gName 5)) (sSeq (sIf (tAnd (tVal (eBin vEq (eCall sp_l_pick E0n [eVar 0, eC (.int 2)]) (eC (.int 1)))) (tVal (eBin vNeNil (eVar 3) eDNew))) (sSeq (sPar 5 7 (eCB cList [eBin vIx (eCB cSort [eVar 3]) (eCall sp_l_pick E0n [eVar 0, eCB cLenD [eVar 3]])]) (eCall sp_l_pick E0n [eVar 0, eVar 1])) (sAsg (eBin vSub (eCall sp_l_pick E0n [eVar 0, eC (.int 5)]) (eC (.int 2))) (gSub (eVar 5) (eVar 7)))) sNext) rd_l_rows_k1) : RS) D0 τ S := rfl
def rd_l_rows_k2 : RS := sRet (eLc (iLst (eCB cSort [eVar 3])) (Tg.R (.nm 5)) tYes (eTup [eVar 5, eBin vDGet (eVar 3) (eVar 5)]) [5])
theorem rd_l_rows_k2_eq (D0 : En) (τ : VS) (S : Sto) : rd_l_rows_k2 D0 τ S = (sRet (eLc (iLst (eCB cSort [eVar 3])) (Tg.R (.nm 5)) tYes (eTup [eVar 5, eBin vDGet (eVar 3) (eVar 5)]) [5]) : RS) D0 τ S := rfl
def rd_l_rows : RS := sSeq (sAsg (eTup [eDNew, eBin vIx (eLst [eC (.int 1), eC (.int 12), eC (.int 4)]) (eCall sp_l_pick E0n [eVar 0, eC (.int 3)])]) (gTupN 2 [(gName 3), (gName 4)])) (sSeq (sFor (iRng1 [eCall sp_l_pick E0n [eVar 0, eC (.int 9)]]) (gName 2) rd_l_rows_b1) rd_l_rows_k2)
theorem rd_l_rows_eq (D0 : En) (τ : VS) (S : Sto) : rd_l_rows D0 τ S = (sSeq (sAsg (eTup [eDNew, eBin vIx (eLst [eC (.int 1), eC (.int 12), eC (.int 4)]) (eCall sp_l_pick E0n [eVar 0, eC (.int 3)])]) (gTupN 2 [(gName 3), (gName 4)])) (sSeq (sFor (iRng1 [eCall sp_l_pick E0n [eVar 0, eC (.int 9)]]) (gName 2) rd_l_rows_b1) rd_l_rows_k2) : RS) D0 τ S := rfl
theorem vc_l_rows {ds S Q E} (h : sp_l_rows ds S Q E) : BodyV N_l_rows ds S Q rd_l_rows := by
  obtain ⟨F, a, c, w, n, many, rfl, rfl, ap, wk, hn, hm1, hm2, h⟩ := h
  rw [BodyV, rd_l_rows_eq]
  walk_at "v"
  intro q hq
  obtain ⟨hqF, hqa, hqc⟩ := stk_none ap hq
  simp only [put_stk ap hqa hqc]
  have ap1 := ap.nw (o := .dI []) hqa hqc
  intro u hu
  obtain ⟨huF, hua, huc⟩ := stk_none ap1 hu
  simp only [put_stk ap1 hua huc]
  have ap2 := ap1.nw (o := .lst [D.int 1, D.int 12, D.int 4]) hua huc
  refine pick_to ap2 wk (by omega) (by omega) (by omega) fun r w1 r0 r1 wk1 => ?_
  have hu : stk (put (put F q (.dI [])) u (.lst [D.int 1, D.int 12, D.int 4])) a c w1 u = some (.lst [D.int 1, D.int 12, D.int 4]) := stk_at ap2 put_same
  obtain ⟨sp, hs1, hs2, hs3⟩ : ∃ sp : Int, [D.int 1, D.int 12, D.int 4][r.toNat]? = some (.int sp) ∧ 1 ≤ sp ∧ sp ≤ 12 := by
    rcases (by omega : r = 0 ∨ r = 1 ∨ r = 2) with rfl | rfl | rfl
    · exact ⟨1, rfl, by decide, by decide⟩
    · exact ⟨12, rfl, by decide, by decide⟩
    · exact ⟨4, rfl, by decide, by decide⟩
  refine vIx_ref hu r0 hs1 ?_
  refine pick_to ap2 wk1 (by omega) (by omega) (by omega) fun r2 w2 r20 r21 wk2 => ?_
  walk_at "v"
  refine ⟨by omega, ?_⟩
  have huq : u ≠ q := (none_put huF).1
  have hq0 : Le (put F q (.dI [])) (put (put F q (.dI [])) u (.lst [D.int 1, D.int 12, D.int 4])) := (Le.refl _).new huF
  have apq : ∀ kvs, Ap (put F q (.dI kvs)) a c := fun kvs => ap.nw hqa hqc
  refine for_inv (fun i τ S' => ∃ w kvs G x2 x5 x6 x7 x8, τ = [some (.ref a), some (.int many), x2, some (.ref q), some (.int sp), x5, x6, x7, x8] ∧ S' = stk G a c w ∧ Ap G a c ∧ G q = some (.dI kvs) ∧ Le F G ∧ Wok w (n + 2 + 100 * i) ∧ kvs.length ≤ i ∧ (∀ e ∈ kvs, e.1.length = many.toNat) ∧ (∀ e ∈ kvs, ∃ z, e.2 = D.int z))
    ⟨w2, [], _, none, none, none, none, none, rfl, rfl, ap2, hq0 _ _ put_same, ((Le.refl F).new hqF).trans hq0, wk2.mono (by omega), Nat.le_refl _, (fun _ h => by cases h), (fun _ h => by cases h)⟩ (fun _ _ _ _ => trivial) ?_ ?_
  · rintro i x τ S' D1 hx ⟨w, kvs, G, x2, x5, x6, x7, x8, rfl, rfl, apG, hGq, hFG, wk, hlen, hkey, hval⟩ hrt hbk hnx hct
    obtain ⟨hi, rfl⟩ := intsD_at hx
    have hi9 : i < 9 := by omega
    simp only [rd_l_rows_b1_eq]
    walk_at "v"
    refine ⟨by omega, lc_inv (fun j acc S' => ∃ w ns, S' = stk G a c w ∧ Wok w (n + 2 + 100 * i + j) ∧ acc = ns.map .int ∧ ns.length = j) ⟨w, [], rfl, wk.mono (by omega), rfl, rfl⟩ (fun _ _ _ _ => trivial) ?_ ?_⟩
    · rintro j x acc S' K' hx ⟨w', ns, rfl, wk', rfl, hj⟩ hk
      obtain ⟨hj2, rfl⟩ := intsD_at hx
      walk_at "v"
      refine ⟨mul_fits (a := 20) (b := 20) (by decide) (by omega), pick_to apG wk' (by omega) (by omega) (by omega) fun r w2 _ _ wk2 => ?_⟩
      exact hk _ _ _ (Le.refl _) ⟨w2, ns ++ [r - sp], rfl, by have := wk2.mono (m := n + 2 + 100 * i + ((j + 1 : Nat) : Int)) (by omega); exact this, by rw [List.map_append]; rfl, by rw [List.length_append, hj]; rfl⟩
    · rintro acc S' ⟨w', ns, rfl, wk', rfl, hns⟩
      have hns : ns.length = many.toNat := by rw [intsD_len] at hns; exact hns
      have hlen12 : (intsD 0 many.toNat).length ≤ 12 := by rw [intsD_len]; omega
      have wk' := wk'.mono (m := n + 2 + 100 * i + 12) (by omega)
      clear wk
      intro p hp
      obtain ⟨G1, e1, ap1, l1, h1, n1, _, _⟩ := nwo apG hp (.lst (ns.map .int))
      simp only [e1]
      refine pick_to ap1 wk' (by omega) (by omega) (by omega) fun r w3 _ _ wk3 => ?_
      walk_at "v"
      have tail : ∀ (G2 : Sto) (p : Addr) (ms : List Int) w4 (y6 y7 y8 : Option D), Ap G2 a c → Le F G2 → G2 q = some (.dI kvs) → G2 p = some (.lst (ms.map .int)) → ms.length = many.toNat → Wok w4 (n + 2 + 100 * i + 20) →
          rd_l_rows_k1 D1 [some (.ref a), some (.int many), some (.int (0 + (i : Int))), some (.ref q), some (.int sp), some (.ref p), y6, y7, y8] (stk G2 a c w4) := by
        intro G2 p ms w4 y6 y7 y8 ap2 l2 hq2 hp2 hms wk4
        simp only [rd_l_rows_k1_eq]
        walk_at "v"
        refine ⟨⟨by decide, by decide, by decide⟩, fun u hu => ?_⟩
        obtain ⟨G3, e3, ap3, l3, h3, _, _, eG3⟩ := nwo ap2 hu (.lst [.int 2, .int (10 ^ Int.toNat 30 - 1)])
        simp only [e3]
        refine pick_to ap3 wk4 (by omega) (by omega) (by omega) fun r w5 r50 r51 wk5 => ?_
        obtain ⟨lim, hl1, hl2, hl3⟩ : ∃ lim : Int, [D.int 2, D.int (10 ^ Int.toNat 30 - 1)][r.toNat]? = some (.int lim) ∧ 1 ≤ lim ∧ lim < 2 ^ 100 := by
          rcases (by omega : r = 0 ∨ r = 1) with rfl | rfl
          · exact ⟨2, rfl, by decide, by decide⟩
          · exact ⟨_, rfl, by decide, by decide⟩
        refine vIx_ref (stk_at ap3 h3) r50 hl1 ?_
        refine wide_to ap3 wk5 (by omega) hl2 fun r6 w6 r60 r61 wk6 => ?_
        walk_at "v"
        refine pick_to ap3 wk6 (by omega) (by omega) (by omega) fun r7 w7 r70 r71 wk7 => ?_
        walk_at "v"
        refine ⟨mul_fits (a := 20) (b := 20) (by decide) (by omega), mul_fits (a := 110) (b := 20) (by omega) (by omega), ?_⟩
        refine ⟨ms.map .int, .inl (stk_at ap3 (l3 _ _ hp2)), ?_⟩
        show vDPut (.ref q) (tI ms) _ _ _
        rw [vDPut_tI]
        refine ⟨kvs, stk_at ap3 (l3 _ _ hq2), by omega, ?_⟩
        obtain ⟨G4, e4, ap4, h4, _, l4⟩ := upo (w := w7) ap3 (l3 _ _ hq2) (.dI (puD kvs ms (.int ((1 + r6) * (1 - 2 * r7)))))
        rw [e4]
        exact hnx _ _ _ _ ⟨w7, _, G4, _, _, _, _, _, rfl, rfl, ap4, h4, l4 F hqF (l2.trans l3), wk7.mono (by omega), Nat.le_trans (puD_length _ _ _) (by omega), puD_keys (P := fun k : List Int => k.length = many.toNat) hkey hms, puD_vals (P := fun d => ∃ z, d = D.int z) hval ⟨_, rfl⟩⟩ (VLe.refl _) (Le.refl _)
      by_cases hr1 : r = 1
      · rw [if_pos hr1]
        intro v hv
        obtain ⟨G2, e2, ap2, l2, h2, _, _, _⟩ := nwo ap1 hv (.dI [])
        simp only [e2]
        refine ⟨kvs, stk_at ap2 (l2 _ _ (l1 _ _ hGq)), stk_at ap2 h2, ?_⟩
        cases kvs with
        | nil => exact tail G2 p ns w3 _ _ _ ap2 (hFG.trans (l1.trans l2)) (l2 _ _ (l1 _ _ hGq)) (l2 _ _ h1) hns (wk3.mono (by omega))
        | cons kv kvr =>
          generalize hkv : kv :: kvr = kvs at *
          have hk0 : 0 < kvs.length := by rw [← hkv]; exact Nat.succ_pos _
          rw [show (kvs.length == 0) = false from by rw [← hkv]; rfl]
          walk_at "v"
          have hdic : stk G2 a c w3 q = some (.dI kvs) := stk_at ap2 (l2 _ _ (l1 _ _ hGq))
          refine cSort_dict hdic (by omega) (fun e he => ⟨fun z => ?_, ?_⟩) fun x hx => ?_
          · have := hkey e he; rw [z] at this; simp only [List.length_nil] at this; omega
          · rw [hkey e he]; omega
          obtain ⟨G4, e4, ap4, l4, h4, _, _, _⟩ := nwo ap2 hx (.lst ((srt (kvs.map (·.1))).map tI))
          simp only [e4]
          refine ⟨kvs, stk_at ap4 (l4 _ _ (l2 _ _ (l1 _ _ hGq))), ?_⟩
          refine pick_to ap4 wk3 (by omega) (by omega) (by omega) fun r4 w4 r40 r41 wk4 => ?_
          have hsl : (srt (kvs.map (·.1))).length = kvs.length := by rw [srt_length, List.length_map]
          obtain ⟨ks, hks⟩ : ∃ ks, (srt (kvs.map (·.1)))[r4.toNat]? = some ks := ⟨_, List.getElem?_eq_getElem (by omega)⟩
          have hkl : ks.length = many.toNat := by
            have := srt_mem.mp (List.mem_of_getElem? hks)
            obtain ⟨e, he, rfl⟩ := List.mem_map.mp this
            exact hkey e he
          refine vIx_ref (stk_at ap4 h4) r40 (d := tI ks) (by rw [List.getElem?_map, hks]; rfl) ?_
          rw [cList_tI]
          intro y hy
          obtain ⟨G5, e5, ap5, l5, h5, n5, _, _⟩ := nwo ap4 hy (.lst (ks.map .int))
          simp only [e5]
          refine pick_to ap5 wk4 (by omega) (by omega) (by omega) fun r6 w6 r60 r61 wk6 => ?_
          refine pick_to ap5 wk6 (by omega) (by omega) (by omega) fun r7 w7 r70 r71 wk7 => ?_
          walk_at "v"
          refine vLSet_ref (stk_at ap5 h5) r60 (by rw [List.length_map, hkl]; omega) ?_
          obtain ⟨G6, e6, ap6, h6, n6, l6⟩ := upo (w := w7) ap5 h5 (.lst ((ks.map .int).set r6.toNat (.int (r7 - 2))))
          rw [e6]
          have lG : Le F G4 := hFG.trans (l1.trans (l2.trans l4))
          have hq4 : G4 q = some (.dI kvs) := l4 _ _ (l2 _ _ (l1 _ _ hGq))
          refine tail G6 y (ks.set r6.toNat (r7 - 2)) w7 _ _ _ ap6 (l6 F (lG.nope n5) (lG.trans l5)) ?_ ?_ (by rw [List.length_set, hkl]) (wk7.mono (by omega))
          · rw [n6 q (fun z => by rw [z, n5] at hq4; cases hq4)]; exact l5 _ _ hq4
          · rw [h6, List.map_set]
      · rw [if_neg hr1]
        exact tail G1 p ns w3 _ _ _ ap1 (hFG.trans l1) (l1 _ _ hGq) h1 hns (wk3.mono (by omega))
  · rintro τ S' ⟨w, kvs, G, x2, x5, x6, x7, x8, rfl, rfl, apG, hGq, hFG, wk, hlen, hkey, hval⟩
    simp only [rd_l_rows_k2_eq]
    walk_at "v"
    have hm : (intsD 0 r2.toNat).length ≤ 8 := by rw [intsD_len]; omega
    have hlen9 : kvs.length ≤ 8 := by omega
    refine cSort_dict (stk_at apG hGq) (by omega) (fun e he => ⟨fun z => ?_, ?_⟩) fun x hx => ?_
    · have := hkey e he; rw [z] at this; simp only [List.length_nil] at this; omega
    · rw [hkey e he]; omega
    obtain ⟨G4, e4, ap4, l4, h4, _, _, _⟩ := nwo apG hx (.lst ((srt (kvs.map (·.1))).map tI))
    simp only [e4]
    refine ⟨_, .inl (stk_at ap4 h4), ?_⟩
    refine lc_map2 (f := fun k => terD (k, match lkD kvs k with | some (.int z) => z | _ => 0)) (.inl (stk_at ap4 h4)) (fun k hk K' hK => ?_) fun y hy => ?_
    · have hk := srt_mem.mp hk
      obtain ⟨v, hv, hmv⟩ := lkD_mem hk
      obtain ⟨z, hz⟩ := hval _ hmv
      simp only at hz
      subst hz
      walk_at "v"
      refine ⟨kvs, _, stk_at ap4 (l4 _ _ hGq), hv, ?_⟩
      rw [hv] at hK
      exact hK
    · obtain ⟨G5, e5, ap5, l5, h5, n5, hy2, _⟩ := nwo ap4 hy (.lst (((srt (kvs.map (·.1))).map fun k => (k, match lkD kvs k with | some (.int z) => z | _ => 0)).map terD))
      have lF : Le F G4 := hFG.trans l4
      rw [List.map_map] at e5 h5
      refine ⟨stk (put F y (.lst (((srt (kvs.map (·.1))).map fun k => (k, match lkD kvs k with | some (.int z) => z | _ => 0)).map terD))) a c w, ?_, h y w _ (lF.nope n5) hy2.1 hy2.2 ?_ (wk.mono (by omega)) ?_⟩
      · rw [show ((srt (kvs.map (·.1))).map fun k => terD (k, match lkD kvs k with | some (.int z) => z | _ => 0)) = _ from rfl]
        rw [show (put (stk G4 a c w) y (.lst ((srt (kvs.map (·.1))).map fun k => terD (k, match lkD kvs k with | some (.int z) => z | _ => 0)))) = stk G5 a c w from e5]
        refine stk_mono fun b o hb => ?_
        by_cases hby : b = y
        · subst hby; rw [put_same] at hb; rw [h5, ← hb, List.map_map]
        · rw [put_ne hby] at hb; exact l5 _ _ (lF _ _ hb)
      · rw [List.length_map, srt_length, List.length_map]; omega
      · intro t ht
        obtain ⟨k, hk, rfl⟩ := List.mem_map.mp ht
        obtain ⟨e, he, rfl⟩ := List.mem_map.mp (srt_mem.mp hk)
        exact hkey e he
theorem ok_l_rows {P : Program} {w : World} {K : PySem.W.Frag} {mg : Str → Option Value} {base : Heap} (T : Tp K mg) : FnOk P w K mg base CX0 3 T.a_l_rows T.d_l_rows ["_law_stock_here", "_law_many"] (lowSp K sp_l_rows) :=
  fnV T.F_l_rows sc_l_rows (fun ds S Q E h => len_l_rows h) fun cdv A outer s H E en E0 hr hx =>
    ⟨rd_l_rows, vss_cons (vs_asg (ve_tup (va_cons ve_dnew (va_cons (ve_ix ix_seq ov_ix (ve_lst (va_cons ve_int (va_cons ve_int (va_cons ve_int va_nil)))) (ve_call (ok_l_pick T) (hr.mono (by decide)) (by rfl) T.g_l_pick T.F_l_pick.kp (bi_l_pick T) (pass0 (X := _)) XE0.no (va_cons (ve_var 0) (va_cons ve_int va_nil)))) va_nil))) (vg_tup rfl (vgs_cons (vg_name (i := 3) sc_l_rows.nd rfl (.inr rfl)) (vgs_cons (vg_name (i := 4) sc_l_rows.nd rfl (.inr rfl)) (vgs_nil))))) (vss_cons (vs_for PassesOwn.never rfl (vi_rng1 (by rfl) T.z_range (va_cons (ve_call (ok_l_pick T) (hr.mono (by decide)) (by rfl) T.g_l_pick T.F_l_pick.kp (bi_l_pick T) (pass0 (X := _)) XE0.no (va_cons (ve_var 0) (va_cons ve_int va_nil))) va_nil)) (vg_name (i := 2) sc_l_rows.nd rfl (.inl rfl)) (vss_cons (vs_setLc (i := 5) (own := [("_law_j", 8)]) (t := (.nm 8)) rfl sc_l_rows.nd rfl rfl (sw_true rfl rfl rfl (by decide +kernel)) (vi_rng1 (by rfl) T.z_range (va_cons (ve_var 1) va_nil)) (blkOk_by (N := ["_law_stock_here", "_law_many", "_law_k", "_law_terms", "_law_span", "_law_powers", "_law_number", "_law_place", "_law_j"]) (sc := defScope s_l_rows) (by decide +kernel)) ⟨fun _ _ _ _ _ => pg_name (i := 8) sc_l_rows.nd rfl (Or.inl rfl), fun _ _ _ _ _ => vts_nil, fun _ _ _ _ _ => ve_op op_sub ov_int0 (ve_call (ok_l_pick T) (hr.mono (by decide)) (by rfl) T.g_l_pick T.F_l_pick.kp (bi_l_pick T) (pass0 (X := _)) XE0.no (va_cons (ve_var 0) (va_cons (ve_op op_addAny ov_add (ve_op op_mulAny ov_mul ve_int (ve_var 4)) ve_int) va_nil))) (ve_var 4)⟩ (by decide)) (vss_cons (vs_if (vt_bool (vw_and (vt_cmp (op_eqAny hr.units) ov_eq (ve_call (ok_l_pick T) (hr.mono (by decide)) (by rfl) T.g_l_pick T.F_l_pick.kp (bi_l_pick T) (pass0 (X := _)) XE0.no (va_cons (ve_var 0) (va_cons ve_int va_nil))) ve_int) (vw_and1 (vt_cmp (op_neNil hr.units0) ov_neNil (ve_var 3) ve_dnew)))) (vss_cons (vs_par (i := 5) (j := 7) rfl sc_l_rows.nd rfl rfl (by decide) rfl rfl (ve_callTy call_list_of ca_list (by rfl) T.z_list (by decide +kernel) (va_cons (ve_ix ix_seq ov_ix (ve_callB (call_sortedT rfl hr.units) ca_sort (by rfl) T.z_sorted (by decide +kernel) (va_cons (ve_var 3) va_nil)) (ve_call (ok_l_pick T) (hr.mono (by decide)) (by rfl) T.g_l_pick T.F_l_pick.kp (bi_l_pick T) (pass0 (X := _)) XE0.no (va_cons (ve_var 0) (va_cons (ve_callB call_len_dT ca_lenD (by rfl) T.z_len (by decide +kernel) (va_cons (ve_var 3) va_nil)) va_nil)))) va_nil)) (ve_call (ok_l_pick T) (hr.mono (by decide)) (by rfl) T.g_l_pick T.F_l_pick.kp (bi_l_pick T) (pass0 (X := _)) XE0.no (va_cons (ve_var 0) (va_cons (ve_var 1) va_nil))) (by rfl)) (vss_one (vs_asg (ve_op op_sub ov_int0 (ve_call (ok_l_pick T) (hr.mono (by decide)) (by rfl) T.g_l_pick T.F_l_pick.kp (bi_l_pick T) (pass0 (X := _)) XE0.no (va_cons (ve_var 0) (va_cons ve_int va_nil))) ve_int) (vg_sub (ve_var 5) (ve_var 7))))) vss_nil) (vss_cons (vs_set (i := 6) sc_l_rows.nd rfl (.inl rfl) (ve_op op_addAny ov_add ve_int (ve_call (ok_l_wide T) (hr.mono (by decide)) (by rfl) T.g_l_wide T.F_l_wide.kp (bi_l_wide T) (pass0 (X := _)) XE0.no (va_cons (ve_var 0) (va_cons (ve_ix ix_seq ov_ix (ve_lst (va_cons ve_int (va_cons (ve_op op_sub ov_int0 (ve_op op_pow ov_int ve_int ve_int) ve_int) va_nil))) (ve_call (ok_l_pick T) (hr.mono (by decide)) (by rfl) T.g_l_pick T.F_l_pick.kp (bi_l_pick T) (pass0 (X := _)) XE0.no (va_cons (ve_var 0) (va_cons ve_int va_nil)))) va_nil))))) (vss_one (vs_dput (hu_of hr) (ve_var 3) (ve_callTy call_tuple_of ca_tuple (by rfl) T.z_tuple (by decide +kernel) (va_cons (ve_var 5) va_nil)) (ve_op op_mulAny ov_mul (ve_var 6) (ve_op op_sub ov_int0 ve_int (ve_op op_mulAny ov_mul ve_int (ve_call (ok_l_pick T) (hr.mono (by decide)) (by rfl) T.g_l_pick T.F_l_pick.kp (bi_l_pick T) (pass0 (X := _)) XE0.no (va_cons (ve_var 0) (va_cons ve_int va_nil)))))))))))) (vss_one (vs_ret (ve_lc (own := [("_law_powers", 5)]) (t := (.nm 5)) rfl sc_l_rows.nd (vi_lst (ve_callB (call_sortedT rfl hr.units) ca_sort (by rfl) T.z_sorted (by decide +kernel) (va_cons (ve_var 3) va_nil))) (blkOk_by (N := ["_law_stock_here", "_law_many", "_law_k", "_law_terms", "_law_span", "_law_powers", "_law_number", "_law_place", "_law_j"]) (sc := defScope s_l_rows) (by decide +kernel)) ⟨fun _ _ _ _ _ => pg_name (i := 5) sc_l_rows.nd rfl (Or.inl rfl), fun _ _ _ _ _ => vts_nil, fun _ _ _ _ _ => ve_tup (va_cons (ve_var 5) (va_cons (ve_dget (hu_of hr) (ve_var 3) (ve_var 5)) va_nil))⟩ (by decide))))), fun ds S Q h => vc_l_rows h⟩
end LW
namespace LW
open PySem PySem.Spec PyProof.Rows L2 VL
local macro_rules | `(tactic| walk_at "v") => `(tactic| simp only [sSeq, sAsg, sFor, sRet, sRetN, sIf, sNext, sDrop, sPar, sAug, VL.sDPut, eVar, eC, eBin, eUn, eCB, eCall, eCallK, eArgs, eTup, eLst, eIf, eNot, eAnd, eOr, eDNew, eDGet2, eSl, oNone, oSome, eRev, eM0, eM, eLc, eLcF, Tg.R, tVal, VL.tNot, VL.tAnd, VL.tOr, VL.tYes, sl, wipeV, VL.gName, VL.gTupN, VL.gSub, gAll, VL.iTup, iLst, iScr, VL.iRng1, VL.iRng2, vAdd_int, vAdd_ib, vAdd_str, vAdd_tup, vAdd_tI, vAdd_ref, VL.vInt, VL.vInt0, vMul_int, vMul_ref, vMul_tup, vNeg, vCmp, vEq_int, vEq_bl, vEq_str, vNe_int, vNe_bl, vNe_str, vLt_int, vIsN_non, vNotN_non, vIsN_int, vNotN_int, vIsN_bl, vNotN_bl, vIsN_str, vNotN_str, vIsN_ref, vNotN_ref, vIsN_tup, vNotN_tup, vIsN_tI, vNotN_tI, vLt_tI, cLen_tI, vDGet_tI, vDPut_tI, vDGet2_tI, cLen_tup, cLen_scr, cLen_str, cLen_ref, cLenD_ref, cList_tI, cInt_int, cInt_bl, cAbs, cMax2, cMin2, isT, mPop, mAppend, vIx_p0, vIx_p1, vSl_tI, vIx_stk0, vIx_stk1, vIx_stk2, vIx_stk3, vLSet_stk1, vLSet_stk2, vLSet_stk3, stk_a, List.set, startV, List.map_cons, List.map_nil, List.replicate, List.append_eq, List.nil_append, List.cons_append, List.length_cons, List.length_nil, List.length_map, if_true, Bool.false_eq_true, if_false, reduceIte, Bool.not_true, Bool.not_false, true_and, and_true, false_or, or_false, Bool.not_eq_eq_eq_not, decide_eq_true_eq, decide_eq_false_iff_not, reduceCtorEq])
/-! ### the spoilt ones -/
def sp_l_spoilt : SpV := fun ds S Q _ => ∃ F a c w n p ts, ds = [.ref a, .ref p] ∧ S = stk F a c w ∧ Ap F a c ∧ Wok w n ∧ n < 9000000 ∧ F p = some (.lst (List.map terD ts)) ∧ 1 ≤ List.length ts ∧ List.length ts ≤ 1000 ∧ (∀ t ∈ ts, List.length t.1 ≤ 12) ∧
  ∀ r w' us, F r = none → r ≠ a → r ≠ c → List.length us ≤ List.length ts + 1 → Wok w' (n + 4) → (∀ t ∈ us, List.length t.1 ≤ 12) → Q (.ref r) (stk (put F r (.lst (List.map terD us))) a c w')
theorem len_l_spoilt {ds S Q E} (h : sp_l_spoilt ds S Q E) : ds.length = 2 := by
  obtain ⟨F, a, c, w, n, p, ts, rfl, _⟩ := h; rfl
def rd_l_spoilt_k1 : RS := sRet (eRev (eVar 1))
theorem rd_l_spoilt_k1_eq (D0 : En) (τ : VS) (S : Sto) : rd_l_spoilt_k1 D0 τ S = (sRet (eRev (eVar 1)) : RS) D0 τ S := rfl
def rd_l_spoilt_k2 : RS := sSeq (sIf (tAnd (tVal (eBin vEq (eVar 2) (eC (.int 6)))) (tVal (eBin vLt (eCB cLen [eVar 4]) (eC (.int 12))))) (sRet (eLc (iLst (eVar 1)) (Tg.R (.nm 8)) tYes (eTup [eBin vAdd (eBin vIx (eVar 8) (eC (.int 0))) (eBin vMul (eTup [eC (.int 0)]) (eCB cInt [eBin vLt (eCB cLen [eBin vIx (eVar 8) (eC (.int 0))]) (eC (.int 12))])), eBin vIx (eVar 8) (eC (.int 1))]) [8])) sNext) rd_l_spoilt_k1
theorem rd_l_spoilt_k2_eq (D0 : En) (τ : VS) (S : Sto) : rd_l_spoilt_k2 D0 τ S = (sSeq (sIf (tAnd (tVal (eBin vEq (eVar 2) (eC (.int 6)))) (tVal (eBin vLt (eCB cLen [eVar 4]) (eC (.int 12))))) (sRet (eLc (iLst (eVar 1)) (Tg.R (.nm 8)) tYes (eTup [eBin vAdd (eBin vIx (eVar 8) (eC (.int 0))) (eBin vMul (eTup [eC (.int 0)]) (eCB cInt [eBin vLt (eCB cLen [eBin vIx (eVar 8) (eC (.int 0))]) (eC (.int 12))])), eBin vIx (eVar 8) (eC (.int 1))]) [8])) sNext) rd_l_spoilt_k1 : RS) D0 τ S := rfl
def rd_l_spoilt_k3 : RS := sSeq (sIf (tAnd (tVal (eBin vEq (eVar 2) (eC (.int 5)))) (tVal (eBin vGt (eCB cLen [eVar 4]) (eC (.int 0))))) (sRet (eBin vAdd (eBin vAdd (eSl (eVar 1) oNone (oSome (eVar 3))) (eLst [eTup [eBin vAdd (eTup [eC (.int 0)]) (eSl (eVar 4) (oSome (eC (.int 1))) oNone), eVar 5]])) (eSl (eVar 1) (oSome (eBin vAdd (eVar 3) (eC (.int 1)))) oNone))) sNext) rd_l_spoilt_k2
theorem rd_l_spoilt_k3_eq (D0 : En) (τ : VS) (S : Sto) : rd_l_spoilt_k3 D0 τ S = (sSeq (sIf (tAnd (tVal (eBin vEq (eVar 2) (eC (.int 5)))) (tVal (eBin vGt (eCB cLen [eVar 4]) (eC (.int 0))))) (sRet (eBin vAdd (eBin vAdd (eSl (eVar 1) oNone (oSome (eVar 3))) (eLst [eTup [eBin vAdd (eTup [eC (.int 0)]) (eSl (eVar 4) (oSome (eC (.int 1))) oNone), eVar 5]])) (eSl (eVar 1) (oSome (eBin vAdd (eVar 3) (eC (.int 1)))) oNone))) sNext) rd_l_spoilt_k2 : RS) D0 τ S := rfl
def rd_l_spoilt_k4 : RS := sSeq (sIf (tVal (eBin vEq (eVar 2) (eC (.int 4)))) (sRet (eBin vAdd (eBin vAdd (eSl (eVar 1) oNone (oSome (eVar 3))) (eLst [eTup [eSl (eVar 4) oNone (oSome (eUn vNeg (eC (.int 1)))), eVar 5]])) (eSl (eVar 1) (oSome (eBin vAdd (eVar 3) (eC (.int 1)))) oNone))) sNext) rd_l_spoilt_k3
theorem rd_l_spoilt_k4_eq (D0 : En) (τ : VS) (S : Sto) : rd_l_spoilt_k4 D0 τ S = (sSeq (sIf (tVal (eBin vEq (eVar 2) (eC (.int 4)))) (sRet (eBin vAdd (eBin vAdd (eSl (eVar 1) oNone (oSome (eVar 3))) (eLst [eTup [eSl (eVar 4) oNone (oSome (eUn vNeg (eC (.int 1)))), eVar 5]])) (eSl (eVar 1) (oSome (eBin vAdd (eVar 3) (eC (.int 1)))) oNone))) sNext) rd_l_spoilt_k3 : RS) D0 τ S := rfl
def rd_l_spoilt_k5 : RS := sSeq (sIf (tAnd (tVal (eBin vEq (eVar 2) (eC (.int 3)))) (tVal (eBin vLt (eCB cLen [eVar 4]) (eC (.int 12))))) (sRet (eBin vAdd (eBin vAdd (eSl (eVar 1) oNone (oSome (eVar 3))) (eLst [eTup [eBin vAdd (eVar 4) (eTup [eBin vSub (eCall sp_l_pick E0n [eVar 0, eC (.int 3)]) (eC (.int 1))]), eVar 5]])) (eSl (eVar 1) (oSome (eBin vAdd (eVar 3) (eC (.int 1)))) oNone))) sNext) rd_l_spoilt_k4
theorem rd_l_spoilt_k5_eq (D0 : En) (τ : VS) (S : Sto) : rd_l_spoilt_k5 D0 τ S = (sSeq (sIf (tAnd (tVal (eBin vEq (eVar 2) (eC (.int 3)))) (tVal (eBin vLt (eCB cLen [eVar 4]) (eC (.int 12))))) (sRet (eBin vAdd (eBin vAdd (eSl (eVar 1) oNone (oSome (eVar 3))) (eLst [eTup [eBin vAdd (eVar 4) (eTup [eBin vSub (eCall sp_l_pick E0n [eVar 0, eC (.int 3)]) (eC (.int 1))]), eVar 5]])) (eSl (eVar 1) (oSome (eBin vAdd (eVar 3) (eC (.int 1)))) oNone))) sNext) rd_l_spoilt_k4 : RS) D0 τ S := rfl
def rd_l_spoilt_k6 : RS := sSeq (sIf (tVal (eBin vEq (eVar 2) (eC (.int 2)))) (sSeq (sAsg (eBin vMod (eCB cInt [eBin vAdd (eBin vAdd (eVar 3) (eC (.int 1))) (eCall sp_l_pick E0n [eVar 0, eCB cMax2 [eC (.int 1), eBin vSub (eCB cLen [eVar 1]) (eC (.int 1))]])]) (eCB cLen [eVar 1])) (gName 6)) (sSeq (sAsg (eCB cList [eVar 1]) (gName 7)) (sSeq (sAsg (eTup [eBin vIx (eVar 1) (eVar 6), eBin vIx (eVar 1) (eVar 3)]) (gTupN 2 [(gSub (eVar 7) (eVar 3)), (gSub (eVar 7) (eVar 6))])) (sRet (eVar 7))))) sNext) rd_l_spoilt_k5
theorem rd_l_spoilt_k6_eq (D0 : En) (τ : VS) (S : Sto) : rd_l_spoilt_k6 D0 τ S = (sSeq (sIf (tVal (eBin vEq (eVar 2) (eC (.int 2)))) (sSeq (sAsg (eBin vMod (eCB cInt [eBin vAdd (eBin vAdd (eVar 3) (eC (.int 1))) (eCall sp_l_pick E0n [eVar 0, eCB cMax2 [eC (.int 1), eBin vSub (eCB cLen [eVar 1]) (eC (.int 1))]])]) (eCB cLen [eVar 1])) (gName 6)) (sSeq (sAsg (eCB cList [eVar 1]) (gName 7)) (sSeq (sAsg (eTup [eBin vIx (eVar 1) (eVar 6), eBin vIx (eVar 1) (eVar 3)]) (gTupN 2 [(gSub (eVar 7) (eVar 3)), (gSub (eVar 7) (eVar 6))])) (sRet (eVar 7))))) sNext) rd_l_spoilt_k5 : RS) D0 τ S := rfl
def rd_l_spoilt_k7 : RS := sSeq (sIf (tVal (eBin vEq (eVar 2) (eC (.int 1)))) (sRet (eBin vAdd (eBin vAdd (eSl (eVar 1) oNone (oSome (eVar 3))) (eLst [eTup [eVar 4, eVar 5], eTup [eVar 4, eBin vSub (eC (.int 0)) (eVar 5)]])) (eSl (eVar 1) (oSome (eBin vAdd (eVar 3) (eC (.int 1)))) oNone))) sNext) rd_l_spoilt_k6
theorem rd_l_spoilt_k7_eq (D0 : En) (τ : VS) (S : Sto) : rd_l_spoilt_k7 D0 τ S = (sSeq (sIf (tVal (eBin vEq (eVar 2) (eC (.int 1)))) (sRet (eBin vAdd (eBin vAdd (eSl (eVar 1) oNone (oSome (eVar 3))) (eLst [eTup [eVar 4, eVar 5], eTup [eVar 4, eBin vSub (eC (.int 0)) (eVar 5)]])) (eSl (eVar 1) (oSome (eBin vAdd (eVar 3) (eC (.int 1)))) oNone))) sNext) rd_l_spoilt_k6 : RS) D0 τ S := rfl
def rd_l_spoilt : RS := sSeq (sPar 2 3 (eCall sp_l_pick E0n [eVar 0, eC (.int 8)]) (eCall sp_l_pick E0n [eVar 0, eCB cLen [eVar 1]])) (sSeq (sAsg (eBin vIx (eVar 1) (eVar 3)) (gTupN 2 [(gName 4), (gName 5)])) (sSeq (sIf (tVal (eBin vEq (eVar 2) (eC (.int 0)))) (sRet (eBin vAdd (eBin vAdd (eSl (eVar 1) oNone (oSome (eVar 3))) (eLst [eTup [eVar 4, eC (.int 0)]])) (eSl (eVar 1) (oSome (eBin vAdd (eVar 3) (eC (.int 1)))) oNone))) sNext) rd_l_spoilt_k7))
theorem rd_l_spoilt_eq (D0 : En) (τ : VS) (S : Sto) : rd_l_spoilt D0 τ S = (sSeq (sPar 2 3 (eCall sp_l_pick E0n [eVar 0, eC (.int 8)]) (eCall sp_l_pick E0n [eVar 0, eCB cLen [eVar 1]])) (sSeq (sAsg (eBin vIx (eVar 1) (eVar 3)) (gTupN 2 [(gName 4), (gName 5)])) (sSeq (sIf (tVal (eBin vEq (eVar 2) (eC (.int 0)))) (sRet (eBin vAdd (eBin vAdd (eSl (eVar 1) oNone (oSome (eVar 3))) (eLst [eTup [eVar 4, eC (.int 0)]])) (eSl (eVar 1) (oSome (eBin vAdd (eVar 3) (eC (.int 1)))) oNone))) sNext) rd_l_spoilt_k7)) : RS) D0 τ S := rfl
theorem vc_l_spoilt {ds S Q E} (h : sp_l_spoilt ds S Q E) : BodyV N_l_spoilt ds S Q rd_l_spoilt := by
  obtain ⟨F, a, c, w, n, p, ts, rfl, rfl, ap, wk, hn, hp, ht1, ht2, hts, h⟩ := h
  rw [BodyV, rd_l_spoilt_eq]
  walk_at "v"
  refine pick_to ap wk (by omega) (by omega) (by omega) fun r w1 r0 r1 wk1 => ?_
  refine ⟨_, .inl (stk_at ap hp), ?_⟩
  rw [List.length_map]
  refine pick_to ap wk1 (by omega) (by omega) (by omega) fun i w2 i0 i1 wk2 => ?_
  obtain ⟨⟨ps, z⟩, hi⟩ : ∃ t, ts[i.toNat]? = some t := ⟨_, List.getElem?_eq_getElem (by omega)⟩
  have hps : ps.length ≤ 12 := hts _ (List.mem_of_getElem? hi)
  refine vIx_ref (stk_at ap hp) i0 (d := terD (ps, z)) (by rw [List.getElem?_map, hi]; rfl) ?_
  simp only [terD]
  have fin : ∀ (us : List (List Int × Int)) (G : Sto) (q x : Addr) (w' : Wd), Ap G a c → Le F G → Wok w' (n + 4) → us.length ≤ 2 → (∀ t ∈ us, t.1.length ≤ 12) → G q = some (.lst (((ts.map terD)).take i.toNat)) → stk G a c w' x = none →
      vAdd (.ref q) (.ref x) (put (stk G a c w') x (.lst (us.map terD))) fun u S1 => vSl (.ref p) (some (i + 1)) none S1 fun v S2 => vAdd u v S2 fun d S => ∃ S'', Le S'' S ∧ Q d S'' := by
    intro us G q x w' apG l wk' hu1 hu2 hq hx
    obtain ⟨G2, e2, ap2, l2, h2, _⟩ := nwo apG hx (.lst (us.map terD))
    rw [e2]
    have tl : (List.take i.toNat (ts.map terD)).length ≤ ts.length := by rw [List.length_take, List.length_map]; omega
    have dl : (List.drop (i + 1).toNat (ts.map terD)).length = ts.length - (i + 1).toNat := by rw [List.length_drop, List.length_map]
    refine add_refs ap2 (l2 _ _ hq) h2 (by rw [List.length_map]; omega) fun u G3 ap3 l3 h3 => ?_
    have lF := l.trans (l2.trans l3)
    refine cut_right ap3 (lF _ _ hp) (by omega) (by rw [List.length_map]; omega) fun v G4 ap4 l4 h4 => ?_
    refine add_last ap4 (l4 _ _ h3) h4 (by rw [List.length_append, List.length_map]; omega) (lF.trans l4) fun y hy1 hy2 hy3 => ?_
    have e : List.take i.toNat (ts.map terD) ++ us.map terD ++ List.drop (i + 1).toNat (ts.map terD) = (ts.take i.toNat ++ us ++ ts.drop (i + 1).toNat).map terD := by
      rw [List.map_append, List.map_append, List.map_take, List.map_drop]
    rw [e]
    refine h y w' _ hy1 hy2 hy3 ?_ wk' ?_
    · rw [List.length_append, List.length_append, List.length_take, List.length_drop]; omega
    · intro t ht
      rcases List.mem_append.mp ht with ht | ht
      · rcases List.mem_append.mp ht with ht | ht
        · exact hts t (List.mem_of_mem_take ht)
        · exact hu2 t ht
      · exact hts t (List.mem_of_mem_drop ht)
  have left : ∀ {F' : Sto} {w' : Wd} {Q' : KE}, Ap F' a c → Le F F' → (∀ q G, Ap G a c → Le F G → G q = some (.lst (((ts.map terD)).take i.toNat)) → Q' (.ref q) (stk G a c w')) → vSl (.ref p) none (some i) (stk F' a c w') Q' := fun ap' l' hh =>
    cut_left ap' (l' _ _ hp) i0 (by rw [List.length_map]; omega) fun q G ap2 l2 h2 => hh q G ap2 (l'.trans l2) h2
  walk_at "v"
  by_cases e0 : r = 0
  · rw [if_pos e0]
    refine left ap (Le.refl F) fun q G apG l hq => ?_
    intro x hx
    exact fin [(ps, 0)] G q x w2 apG l (wk2.mono (by omega)) (by simp) (by intro t ht; rw [List.mem_singleton.mp ht]; exact hps) hq hx
  rw [if_neg e0]
  simp only [rd_l_spoilt_k7_eq]
  walk_at "v"
  by_cases e1 : r = 1
  · rw [if_pos e1]
    refine left ap (Le.refl F) fun q G apG l hq => ?_
    intro x hx
    exact fin [(ps, z), (ps, 0 - z)] G q x w2 apG l (wk2.mono (by omega)) (by simp) (by intro t ht; simp only [List.mem_cons, List.not_mem_nil, or_false] at ht; rcases ht with rfl | rfl <;> exact hps) hq hx
  rw [if_neg e1]
  simp only [rd_l_spoilt_k6_eq]
  walk_at "v"
  by_cases e2 : r = 2
  · rw [if_pos e2]
    have bnd : 1 ≤ (if (ts.length : Int) - 1 > 1 then (ts.length : Int) - 1 else 1) ∧ (if (ts.length : Int) - 1 > 1 then (ts.length : Int) - 1 else 1) ≤ 1000 := by split <;> omega
    refine ⟨_, .inl (stk_at ap hp), ?_⟩
    rw [List.length_map]
    refine pick_to ap wk2 (by omega) bnd.1 (by omega) fun j w3 j0 j1 wk3 => ?_
    walk_at "v"
    refine ⟨_, .inl (stk_at ap hp), ?_, ?_⟩
    · rw [List.length_map]; omega
    rw [List.length_map]
    have jm : 0 ≤ (i + 1 + j).fmod ts.length ∧ (i + 1 + j).fmod ts.length < ts.length := fmod_range (by omega)
    generalize (i + 1 + j).fmod ts.length = o at jm
    refine ⟨_, .inl (stk_at ap hp), fun y hy => ?_⟩
    obtain ⟨G, eG, apG, l, hG, yF, hy2, _⟩ := nwo ap hy (.lst (ts.map terD))
    simp only [eG]
    obtain ⟨t2, ht2⟩ : ∃ t, ts[o.toNat]? = some t := ⟨_, List.getElem?_eq_getElem (by omega)⟩
    refine vIx_ref (stk_at apG (l _ _ hp)) jm.1 (d := terD t2) (by rw [List.getElem?_map, ht2]; rfl) ?_
    refine vIx_ref (stk_at apG (l _ _ hp)) i0 (d := terD (ps, z)) (by rw [List.getElem?_map, hi]; rfl) ?_
    refine vLSet_ref (stk_at apG hG) i0 (by rw [List.length_map]; omega) ?_
    obtain ⟨G2, e2, ap2, h2, _, l2⟩ := upo (w := w3) apG hG (.lst ((ts.map terD).set i.toNat (terD t2)))
    rw [e2]
    refine vLSet_ref (stk_at ap2 h2) jm.1 (by rw [List.length_set, List.length_map]; omega) ?_
    obtain ⟨G3, e3, ap3, h3, _, l3⟩ := upo (w := w3) ap2 h2 (.lst (((ts.map terD).set i.toNat (terD t2)).set o.toNat (terD (ps, z))))
    rw [e3]
    have er : ((ts.map terD).set i.toNat (terD t2)).set o.toNat (terD (ps, z)) = ((ts.set i.toNat t2).set o.toNat (ps, z)).map terD := by rw [List.map_set, List.map_set]
    rw [er] at h3
    refine ⟨_, stk_mono (le_put (l3 F yF (l2 F yF l)) h3), h y w3 _ yF hy2.1 hy2.2 ?_ (wk3.mono (by omega)) fun t ht => ?_⟩
    · rw [List.length_set, List.length_set]; omega
    · rcases List.mem_or_eq_of_mem_set ht with ht | rfl
      · rcases List.mem_or_eq_of_mem_set ht with ht | rfl
        · exact hts t ht
        · exact hts _ (List.mem_of_getElem? ht2)
      · exact hps
  rw [if_neg e2]
  simp only [rd_l_spoilt_k5_eq]
  walk_at "v"
  have k1 : ∀ D0 : En, D0.rt = (fun d S' => ∃ S'', Le S'' S' ∧ Q d S'') → ∀ x6 x7 x8, rd_l_spoilt_k1 D0 [some (.ref a), some (.ref p), some (.int r), some (.int i), some (tI ps), some (.int z), x6, x7, x8] (stk F a c w2) := by
    intro D0 hD x6 x7 x8
    simp only [rd_l_spoilt_k1_eq]
    walk_at "v"
    simp only [hD]
    refine ⟨_, .inl (stk_at ap hp), fun y hy => ?_⟩
    obtain ⟨yF, y2, y3⟩ := stk_none ap hy
    refine ⟨_, stk_ret ap (Le.refl F) hy, ?_⟩
    rw [← List.map_reverse]
    exact h y w2 _ yF y2 y3 (by rw [List.length_reverse]; omega) (wk2.mono (by omega)) fun t ht => hts t (List.mem_reverse.mp ht)
  have k2 : ∀ D0 : En, D0.rt = (fun d S' => ∃ S'', Le S'' S' ∧ Q d S'') → ∀ x6 x7 x8, rd_l_spoilt_k2 D0 [some (.ref a), some (.ref p), some (.int r), some (.int i), some (tI ps), some (.int z), x6, x7, x8] (stk F a c w2) := by
    intro D0 hD x6 x7 x8
    simp only [rd_l_spoilt_k2_eq]
    walk_at "v"
    by_cases e6 : r = 6
    · rw [if_pos e6]
      by_cases e7 : (ps.length : Int) < 12
      · rw [if_pos e7]
        simp only [hD]
        refine ⟨_, .inl (stk_at ap hp), ?_⟩
        refine lc_map2 (f := fun t => terD (if t.1.length < 12 then t.1 ++ [0] else t.1, t.2)) (.inl (stk_at ap hp)) (fun t ht K' hK => ?_) fun y hy => ?_
        · simp only [terD]
          walk_at "v"
          by_cases h12 : t.1.length < 12
          · rw [if_pos h12] at hK
            rw [if_pos (by omega)]
            refine ⟨⟨by simp, by decide, by decide, by decide⟩, ?_⟩
            show vAdd (tI t.1) (tI [0]) _ _
            rw [vAdd_tI]
            exact ⟨by simp; omega, hK⟩
          · rw [if_neg h12] at hK
            rw [if_neg (by omega)]
            refine ⟨⟨by simp, by decide, by decide, by decide⟩, ?_⟩
            show vAdd (tI t.1) (tI []) _ _
            rw [vAdd_tI, List.append_nil]
            exact ⟨by have := hts t ht; simp; omega, hK⟩
        · obtain ⟨yF, y2, y3⟩ := stk_none ap hy
          refine ⟨_, stk_ret ap (Le.refl F) hy, ?_⟩
          rw [show (ts.map fun t => terD (if t.1.length < 12 then t.1 ++ [0] else t.1, t.2)) = (ts.map fun t => (if t.1.length < 12 then t.1 ++ [0] else t.1, t.2)).map terD from by rw [List.map_map]; rfl]
          refine h y w2 _ yF y2 y3 (by rw [List.length_map]; omega) (wk2.mono (by omega)) fun t ht => ?_
          obtain ⟨t', ht', rfl⟩ := List.mem_map.mp ht
          show (if t'.1.length < 12 then t'.1 ++ [0] else t'.1).length ≤ 12
          split
          · rw [List.length_append]; simp; omega
          · exact hts _ ht'
      · rw [if_neg e7]; exact k1 D0 hD _ _ _
    · rw [if_neg e6]; exact k1 D0 hD _ _ _
  have k3 : ∀ D0 : En, D0.rt = (fun d S' => ∃ S'', Le S'' S' ∧ Q d S'') → ∀ x6 x7 x8, rd_l_spoilt_k3 D0 [some (.ref a), some (.ref p), some (.int r), some (.int i), some (tI ps), some (.int z), x6, x7, x8] (stk F a c w2) := by
    intro D0 hD x6 x7 x8
    simp only [rd_l_spoilt_k3_eq]
    walk_at "v"
    by_cases e5 : r = 5
    · rw [if_pos e5]
      by_cases e7 : (ps.length : Int) > 0
      · rw [if_pos e7]
        simp only [hD]
        refine left ap (Le.refl F) fun q G apG l hq => ?_
        show vAdd (tI [0]) (tI _) _ _
        rw [vAdd_tI]
        have := cutI_tail (xs := ps) (by omega)
        refine ⟨by simp; omega, fun x hx => ?_⟩
        refine fin [([0] ++ cutI ps (some 1) none, z)] G q x w2 apG l (wk2.mono (by omega)) (by simp) (by intro t ht; rw [List.mem_singleton.mp ht]; simp; omega) hq hx
      · rw [if_neg e7]; exact k2 D0 hD _ _ _
    · rw [if_neg e5]; exact k2 D0 hD _ _ _
  have k4 : ∀ D0 : En, D0.rt = (fun d S' => ∃ S'', Le S'' S' ∧ Q d S'') → ∀ x6 x7 x8, rd_l_spoilt_k4 D0 [some (.ref a), some (.ref p), some (.int r), some (.int i), some (tI ps), some (.int z), x6, x7, x8] (stk F a c w2) := by
    intro D0 hD x6 x7 x8
    simp only [rd_l_spoilt_k4_eq]
    walk_at "v"
    by_cases e4 : r = 4
    · rw [if_pos e4]
      simp only [hD]
      refine left ap (Le.refl F) fun q G apG l hq => ?_
      intro x hx
      refine fin [(cutI ps none (some (-1)), z)] G q x w2 apG l (wk2.mono (by omega)) (by simp) (by intro t ht; rw [List.mem_singleton.mp ht]; exact Nat.le_trans (cutI_length _ _ _) hps) hq hx
    · rw [if_neg e4]; exact k3 D0 hD _ _ _
  by_cases e3 : r = 3
  · rw [if_pos e3]
    by_cases e7 : (ps.length : Int) < 12
    · rw [if_pos e7]
      refine left ap (Le.refl F) fun q G apG l hq => ?_
      refine pick_to apG wk2 (by omega) (by omega) (by omega) fun r3 w3 r30 r31 wk3 => ?_
      walk_at "v"
      show vAdd (tI ps) (tI [r3 - 1]) _ _
      rw [vAdd_tI]
      refine ⟨by simp; omega, fun x hx => ?_⟩
      exact fin [(ps ++ [r3 - 1], z)] G q x w3 apG l (wk3.mono (by omega)) (by simp) (by intro t ht; rw [List.mem_singleton.mp ht]; simp; omega) hq hx
    · rw [if_neg e7]; exact k4 _ rfl _ _ _
  · rw [if_neg e3]; exact k4 _ rfl _ _ _
theorem ok_l_spoilt {P : Program} {w : World} {K : PySem.W.Frag} {mg : Str → Option Value} {base : Heap} (T : Tp K mg) : FnOk P w K mg base CX0 2 T.a_l_spoilt T.d_l_spoilt ["_law_stock_here", "_law_rows_here"] (lowSp K sp_l_spoilt) :=
  fnV T.F_l_spoilt sc_l_spoilt (fun ds S Q E h => len_l_spoilt h) fun cdv A outer s H E en E0 hr hx =>
    ⟨rd_l_spoilt, vss_cons (vs_par (i := 2) (j := 3) rfl sc_l_spoilt.nd rfl rfl (by decide) rfl rfl (ve_call (ok_l_pick T) (hr.mono (by decide)) (by rfl) T.g_l_pick T.F_l_pick.kp (bi_l_pick T) (pass0 (X := _)) XE0.no (va_cons (ve_var 0) (va_cons ve_int va_nil))) (ve_call (ok_l_pick T) (hr.mono (by decide)) (by rfl) T.g_l_pick T.F_l_pick.kp (bi_l_pick T) (pass0 (X := _)) XE0.no (va_cons (ve_var 0) (va_cons (ve_callB call_len ca_len (by rfl) T.z_len (by decide +kernel) (va_cons (ve_var 1) va_nil)) va_nil))) (by rfl)) (vss_cons (vs_asg (ve_ix ix_seq ov_ix (ve_var 1) (ve_var 3)) (vg_tup rfl (vgs_cons (vg_name (i := 4) sc_l_spoilt.nd rfl (.inl rfl)) (vgs_cons (vg_name (i := 5) sc_l_spoilt.nd rfl (.inl rfl)) (vgs_nil))))) (vss_cons (vs_if (vt_cmp (op_eqAny hr.units) ov_eq (ve_var 2) ve_int) (vss_one (vs_ret (ve_op op_addAny ov_add (ve_op op_addAny ov_add (ve_slice (ve_var 1) vo_none (vo_some (ve_var 3))) (ve_lst (va_cons (ve_tup (va_cons (ve_var 4) (va_cons ve_int va_nil))) va_nil))) (ve_slice (ve_var 1) (vo_some (ve_op op_addAny ov_add (ve_var 3) ve_int)) vo_none)))) vss_nil) (vss_cons (vs_if (vt_cmp (op_eqAny hr.units) ov_eq (ve_var 2) ve_int) (vss_one (vs_ret (ve_op op_addAny ov_add (ve_op op_addAny ov_add (ve_slice (ve_var 1) vo_none (vo_some (ve_var 3))) (ve_lst (va_cons (ve_tup (va_cons (ve_var 4) (va_cons (ve_var 5) va_nil))) (va_cons (ve_tup (va_cons (ve_var 4) (va_cons (ve_op op_sub ov_int0 ve_int (ve_var 5)) va_nil))) va_nil)))) (ve_slice (ve_var 1) (vo_some (ve_op op_addAny ov_add (ve_var 3) ve_int)) vo_none)))) vss_nil) (vss_cons (vs_if (vt_cmp (op_eqAny hr.units) ov_eq (ve_var 2) ve_int) (vss_cons (vs_set (i := 6) sc_l_spoilt.nd rfl (.inl rfl) (ve_op op_modN ov_int (ve_callTy call_int1 ca_int (by rfl) T.z_int (by decide +kernel) (va_cons (ve_op op_addAny ov_add (ve_op op_addAny ov_add (ve_var 3) ve_int) (ve_call (ok_l_pick T) (hr.mono (by decide)) (by rfl) T.g_l_pick T.F_l_pick.kp (bi_l_pick T) (pass0 (X := _)) XE0.no (va_cons (ve_var 0) (va_cons (ve_callB (call_max2 rfl) ca_max2 (by rfl) T.z_max (by decide +kernel) (va_cons ve_int (va_cons (ve_op op_sub ov_int0 (ve_callB call_len ca_len (by rfl) T.z_len (by decide +kernel) (va_cons (ve_var 1) va_nil)) ve_int) va_nil))) va_nil)))) va_nil)) (ve_callB call_len ca_len (by rfl) T.z_len (by decide +kernel) (va_cons (ve_var 1) va_nil)))) (vss_cons (vs_set (i := 7) sc_l_spoilt.nd rfl (.inl rfl) (ve_callTy call_list_of ca_list (by rfl) T.z_list (by decide +kernel) (va_cons (ve_var 1) va_nil))) (vss_cons (vs_asg (ve_tup (va_cons (ve_ix ix_seq ov_ix (ve_var 1) (ve_var 6)) (va_cons (ve_ix ix_seq ov_ix (ve_var 1) (ve_var 3)) va_nil))) (vg_tup rfl (vgs_cons (vg_sub (ve_var 7) (ve_var 3)) (vgs_cons (vg_sub (ve_var 7) (ve_var 6)) (vgs_nil))))) (vss_one (vs_ret (ve_var 7)))))) vss_nil) (vss_cons (vs_if (vt_bool (vw_and (vt_cmp (op_eqAny hr.units) ov_eq (ve_var 2) ve_int) (vw_and1 (vt_cmp (op_ltAny hr.units0) ov_lt (ve_callB call_len ca_len (by rfl) T.z_len (by decide +kernel) (va_cons (ve_var 4) va_nil)) ve_int)))) (vss_one (vs_ret (ve_op op_addAny ov_add (ve_op op_addAny ov_add (ve_slice (ve_var 1) vo_none (vo_some (ve_var 3))) (ve_lst (va_cons (ve_tup (va_cons (ve_op op_addAny ov_add (ve_var 4) (ve_tup (va_cons (ve_op op_sub ov_int0 (ve_call (ok_l_pick T) (hr.mono (by decide)) (by rfl) T.g_l_pick T.F_l_pick.kp (bi_l_pick T) (pass0 (X := _)) XE0.no (va_cons (ve_var 0) (va_cons ve_int va_nil))) ve_int) va_nil))) (va_cons (ve_var 5) va_nil))) va_nil))) (ve_slice (ve_var 1) (vo_some (ve_op op_addAny ov_add (ve_var 3) ve_int)) vo_none)))) vss_nil) (vss_cons (vs_if (vt_cmp (op_eqAny hr.units) ov_eq (ve_var 2) ve_int) (vss_one (vs_ret (ve_op op_addAny ov_add (ve_op op_addAny ov_add (ve_slice (ve_var 1) vo_none (vo_some (ve_var 3))) (ve_lst (va_cons (ve_tup (va_cons (ve_slice (ve_var 4) vo_none (vo_some (ve_un un_neg uv_neg ve_int))) (va_cons (ve_var 5) va_nil))) va_nil))) (ve_slice (ve_var 1) (vo_some (ve_op op_addAny ov_add (ve_var 3) ve_int)) vo_none)))) vss_nil) (vss_cons (vs_if (vt_bool (vw_and (vt_cmp (op_eqAny hr.units) ov_eq (ve_var 2) ve_int) (vw_and1 (vt_cmp op_gt ov_cmp (ve_callB call_len ca_len (by rfl) T.z_len (by decide +kernel) (va_cons (ve_var 4) va_nil)) ve_int)))) (vss_one (vs_ret (ve_op op_addAny ov_add (ve_op op_addAny ov_add (ve_slice (ve_var 1) vo_none (vo_some (ve_var 3))) (ve_lst (va_cons (ve_tup (va_cons (ve_op op_addAny ov_add (ve_tup (va_cons ve_int va_nil)) (ve_slice (ve_var 4) (vo_some ve_int) vo_none)) (va_cons (ve_var 5) va_nil))) va_nil))) (ve_slice (ve_var 1) (vo_some (ve_op op_addAny ov_add (ve_var 3) ve_int)) vo_none)))) vss_nil) (vss_cons (vs_if (vt_bool (vw_and (vt_cmp (op_eqAny hr.units) ov_eq (ve_var 2) ve_int) (vw_and1 (vt_cmp (op_ltAny hr.units0) ov_lt (ve_callB call_len ca_len (by rfl) T.z_len (by decide +kernel) (va_cons (ve_var 4) va_nil)) ve_int)))) (vss_one (vs_ret (ve_lc (own := [("_law_row", 8)]) (t := (.nm 8)) rfl sc_l_spoilt.nd (vi_lst (ve_var 1)) (blkOk_by (N := ["_law_stock_here", "_law_rows_here", "_law_way", "_law_at", "_law_powers", "_law_factor", "_law_other", "_law_result", "_law_row"]) (sc := defScope s_l_spoilt) (by decide +kernel)) ⟨fun _ _ _ _ _ => pg_name (i := 8) sc_l_spoilt.nd rfl (Or.inl rfl), fun _ _ _ _ _ => vts_nil, fun _ _ _ _ _ => ve_tup (va_cons (ve_op op_addAny ov_add (ve_ix ix_seq ov_ix (ve_var 8) ve_int) (ve_op op_mulAny ov_mul (ve_tup (va_cons ve_int va_nil)) (ve_callTy call_int1 ca_int (by rfl) T.z_int (by decide +kernel) (va_cons (ve_cmp (op_ltAny hr.units0) ov_lt (ve_callB call_len ca_len (by rfl) T.z_len (by decide +kernel) (va_cons (ve_ix ix_seq ov_ix (ve_var 8) ve_int) va_nil)) ve_int) va_nil)))) (va_cons (ve_ix ix_seq ov_ix (ve_var 8) ve_int) va_nil))⟩ (by decide)))) vss_nil) (vss_one (vs_ret (ve_rev (ve_var 1)))))))))))), fun ds S Q h => vc_l_spoilt h⟩
end LW
namespace LW
open PySem PySem.Spec PyProof.Rows L2 VL
local macro_rules | `(tactic| walk_at "v") => `(tactic| simp only [sSeq, sAsg, sFor, sRet, sRetN, sIf, sNext, sDrop, sPar, sAug, VL.sDPut, eVar, eC, eBin, eUn, eCB, eCall, eCallK, eArgs, eTup, eLst, eIf, eNot, eAnd, eOr, eDNew, eDGet2, eSl, oNone, oSome, eRev, eM0, eM, eLc, eLcF, Tg.R, tVal, VL.tNot, VL.tAnd, VL.tOr, VL.tYes, sl, wipeV, VL.gName, VL.gTupN, VL.gSub, gAll, VL.iTup, iLst, iScr, VL.iRng1, VL.iRng2, vAdd_int, vAdd_ib, vAdd_str, vAdd_tup, vAdd_tI, vAdd_ref, VL.vInt, VL.vInt0, vMul_int, vMul_ref, vMul_tup, vNeg, vCmp, vEq_int, vEq_bl, vEq_str, vNe_int, vNe_bl, vNe_str, vLt_int, vIsN_non, vNotN_non, vIsN_int, vNotN_int, vIsN_bl, vNotN_bl, vIsN_str, vNotN_str, vIsN_ref, vNotN_ref, vIsN_tup, vNotN_tup, vIsN_tI, vNotN_tI, vLt_tI, cLen_tI, vDGet_tI, vDPut_tI, vDGet2_tI, cLen_tup, cLen_scr, cLen_str, cLen_ref, cLenD_ref, cList_tI, cInt_int, cInt_bl, cAbs, cMax2, cMin2, isT, mPop, mAppend, vIx_p0, vIx_p1, vSl_tI, vIx_stk0, vIx_stk1, vIx_stk2, vIx_stk3, vLSet_stk1, vLSet_stk2, vLSet_stk3, stk_a, List.set, startV, List.map_cons, List.map_nil, List.replicate, List.append_eq, List.nil_append, List.cons_append, List.length_cons, List.length_nil, List.length_map, if_true, Bool.false_eq_true, if_false, reduceIte, Bool.not_true, Bool.not_false, true_and, and_true, false_or, or_false, Bool.not_eq_eq_eq_not, decide_eq_true_eq, decide_eq_false_iff_not, reduceCtorEq])
/-! ### wild ones -/
def sp_l_wild : SpV := fun ds S Q _ => ∃ F a c w n, ds = [.ref a] ∧ S = stk F a c w ∧ Ap F a c ∧ Wok w n ∧ n < 9000000 ∧
  ∀ r w' us, F r = none → r ≠ a → r ≠ c → List.length us ≤ 9 → Wok w' (n + 100) → (∀ t ∈ us, List.length t.1 ≤ 12) → Q (.ref r) (stk (put F r (.lst (List.map terD us))) a c w')
theorem len_l_wild {ds S Q E} (h : sp_l_wild ds S Q E) : ds.length = 1 := by
  obtain ⟨F, a, c, w, n, rfl, _⟩ := h; rfl
def rd_l_wild_b1 : RS := sSeq (sAsg (eLcF (fun xs S Q => Q (.tup xs) S) (iRng1 [eBin vAdd (eC (.int 1)) (eCall sp_l_pick E0n [eVar 0, eC (.int 3)])]) (.nm 4) tYes (eBin vSub (eCall sp_l_pick E0n [eVar 0, eC (.int 3)]) (eC (.int 1))) [4]) (gName 3)) (sDrop (eM "list" mAppend (eVar 1) [eTup [eVar 3, eBin vSub (eCall sp_l_pick E0n [eVar 0, eC (.int 5)]) (eC (.int 1))]]))
theorem rd_l_wild_b1_eq (D0 : En) (τ : VS) (S : Sto) : rd_l_wild_b1 D0 τ S = (sSeq (sAsg (eLcF (fun xs S Q => Q (.tup xs) S) (iRng1 [eBin vAdd (eC (.int 1)) (eCall sp_l_pick E0n [eVar 0, eC (.int 3)])]) (.nm 4) tYes (eBin vSub (eCall sp_l_pick E0n [eVar 0, eC (.int 3)]) (eC (.int 1))) [4]) (gName 3)) (sDrop (eM "list" mAppend (eVar 1) [eTup [eVar 3, eBin vSub (eCall sp_l_pick E0n [eVar 0, eC (.int 5)]) (eC (.int 1))]])) : RS) D0 τ S := rfl
def rd_l_wild_k1 : RS := sRet (eVar 1)
theorem rd_l_wild_k1_eq (D0 : En) (τ : VS) (S : Sto) : rd_l_wild_k1 D0 τ S = (sRet (eVar 1) : RS) D0 τ S := rfl
def rd_l_wild : RS := sSeq (sAsg (eLst []) (gName 1)) (sSeq (sFor (iRng1 [eCall sp_l_pick E0n [eVar 0, eC (.int 4)]]) (gName 2) rd_l_wild_b1) rd_l_wild_k1)
theorem rd_l_wild_eq (D0 : En) (τ : VS) (S : Sto) : rd_l_wild D0 τ S = (sSeq (sAsg (eLst []) (gName 1)) (sSeq (sFor (iRng1 [eCall sp_l_pick E0n [eVar 0, eC (.int 4)]]) (gName 2) rd_l_wild_b1) rd_l_wild_k1) : RS) D0 τ S := rfl
theorem vc_l_wild {ds S Q E} (h : sp_l_wild ds S Q E) : BodyV N_l_wild ds S Q rd_l_wild := by
  obtain ⟨F, a, c, w, n, rfl, rfl, ap, wk, hn, h⟩ := h
  rw [BodyV, rd_l_wild_eq]
  walk_at "v"
  intro p hp
  obtain ⟨G, eG, apG, l, hG, pF, pa, _⟩ := nwo ap hp (.lst [])
  simp only [eG]
  refine pick_to apG wk (by omega) (by omega) (by omega) fun r w1 r0 r1 wk1 => ?_
  refine ⟨by omega, ?_⟩
  refine for_inv (fun i τ S' => ∃ w us G x2 x3 x4, τ = [some (.ref a), some (.ref p), x2, x3, x4] ∧ S' = stk G a c w ∧ Ap G a c ∧ Le F G ∧ G p = some (.lst (List.map terD us)) ∧ Wok w (n + 1 + 10 * i) ∧ us.length ≤ i ∧ (∀ t ∈ us, t.1.length ≤ 12))
    ⟨w1, [], G, none, none, none, rfl, rfl, apG, l, hG, wk1.mono (by omega), Nat.le_refl _, (fun _ h => by cases h)⟩ (fun _ _ _ _ => trivial) ?_ ?_
  · rintro i x τ S' D1 hx ⟨w, us, G, x2, x3, x4, rfl, rfl, apG, l, hG, wk, hul, hus⟩ hrt hbk hnx hct
    obtain ⟨hi, rfl⟩ := intsD_at hx
    have hi4 : i < 4 := by omega
    simp only [rd_l_wild_b1_eq]
    walk_at "v"
    refine pick_to apG wk (by omega) (by omega) (by omega) fun r3 w3 r30 r31 wk3 => ?_
    walk_at "v"
    refine ⟨by omega, lc_inv (fun j acc S' => ∃ w ns, S' = stk G a c w ∧ Wok w (n + 1 + 10 * i + 1 + j) ∧ acc = ns.map .int ∧ ns.length = j) ⟨w3, [], rfl, wk3.mono (by omega), rfl, rfl⟩ (fun _ _ _ _ => trivial) ?_ ?_⟩
    · rintro j x acc S' K' hx ⟨w', ns, rfl, wk', rfl, hj⟩ hk
      obtain ⟨hj2, rfl⟩ := intsD_at hx
      walk_at "v"
      refine pick_to apG wk' (by omega) (by omega) (by omega) fun r w2 _ _ wk2 => ?_
      exact hk _ _ _ (Le.refl _) ⟨w2, ns ++ [r - 1], rfl, by have := wk2.mono (m := n + 1 + 10 * i + 1 + ((j + 1 : Nat) : Int)) (by omega); exact this, by rw [List.map_append]; rfl, by rw [List.length_append, hj]; rfl⟩
    · rintro acc S' ⟨w', ns, rfl, wk', rfl, hns⟩
      rw [intsD_len] at hns wk'
      refine ⟨.inl ⟨_, .inl (stk_at apG hG)⟩, ?_⟩
      refine pick_to apG wk' (by omega) (by omega) (by omega) fun r5 w5 _ _ wk5 => ?_
      walk_at "v"
      refine ⟨_, stk_at apG hG, by rw [List.length_map]; omega, ?_⟩
      obtain ⟨G2, e2, ap2, h2, _, l2⟩ := upo (w := w5) apG hG (.lst (us.map terD ++ [D.tup [tI ns, .int (r5 - 1)]]))
      have e2' : put (stk G a c w5) p (.lst (us.map terD ++ [D.tup [D.tup (ns.map .int), .int (r5 - 1)]])) = stk G2 a c w5 := e2
      rw [e2']
      refine hnx _ _ _ _ ⟨w5, us ++ [(ns, r5 - 1)], G2, _, _, _, rfl, rfl, ap2, l2 F pF l, by rw [h2, List.map_append]; rfl, wk5.mono (by omega), by simp; omega, fun t ht => ?_⟩ (VLe.refl _) (Le.refl _)
      rcases List.mem_append.mp ht with ht | ht
      · exact hus t ht
      · rw [List.mem_singleton.mp ht]; show ns.length ≤ 12; omega
  · rintro τ S' ⟨w', us, G, x2, x3, x4, rfl, rfl, apG, l, hG, wk', hul, hus⟩
    simp only [rd_l_wild_k1_eq]
    walk_at "v"
    have hl : (intsD 0 r.toNat).length = r.toNat := intsD_len _ _
    exact ⟨_, stk_mono (le_put l hG), h p w' us pF pa.1 pa.2 (by omega) (wk'.mono (by omega)) hus⟩
theorem ok_l_wild {P : Program} {w : World} {K : PySem.W.Frag} {mg : Str → Option Value} {base : Heap} (T : Tp K mg) : FnOk P w K mg base CX0 2 T.a_l_wild T.d_l_wild ["_law_stock_here"] (lowSp K sp_l_wild) :=
  fnV T.F_l_wild sc_l_wild (fun ds S Q E h => len_l_wild h) fun cdv A outer s H E en E0 hr hx =>
    ⟨rd_l_wild, vss_cons (vs_set (i := 1) sc_l_wild.nd rfl (.inl rfl) (ve_lst va_nil)) (vss_cons (vs_for PassesOwn.never rfl (vi_rng1 (by rfl) T.z_range (va_cons (ve_call (ok_l_pick T) (hr.mono (by decide)) (by rfl) T.g_l_pick T.F_l_pick.kp (bi_l_pick T) (pass0 (X := _)) XE0.no (va_cons (ve_var 0) (va_cons ve_int va_nil))) va_nil)) (vg_name (i := 2) sc_l_wild.nd rfl (.inl rfl)) (vss_cons (vs_set (i := 3) sc_l_wild.nd rfl (.inl rfl) (ve_callTyL call_tuple_of cl_tuple (by rfl) T.z_tuple (by decide +kernel) (own := [("_law_j", 4)]) (t := (.nm 4)) rfl sc_l_wild.nd (vi_rng1 (by rfl) T.z_range (va_cons (ve_op op_addAny ov_add ve_int (ve_call (ok_l_pick T) (hr.mono (by decide)) (by rfl) T.g_l_pick T.F_l_pick.kp (bi_l_pick T) (pass0 (X := _)) XE0.no (va_cons (ve_var 0) (va_cons ve_int va_nil)))) va_nil)) (blkOk_by (N := ["_law_stock_here", "_law_rows_here", "_law_k", "_law_powers", "_law_j"]) (sc := defScope s_l_wild) (by decide +kernel)) ⟨fun _ _ _ _ _ => pg_name (i := 4) sc_l_wild.nd rfl (Or.inl rfl), fun _ _ _ _ _ => vts_nil, fun _ _ _ _ _ => ve_op op_sub ov_int0 (ve_call (ok_l_pick T) (hr.mono (by decide)) (by rfl) T.g_l_pick T.F_l_pick.kp (bi_l_pick T) (pass0 (X := _)) XE0.no (va_cons (ve_var 0) (va_cons ve_int va_nil))) ve_int⟩ (by decide))) (vss_one (vs_expr (ve_bm PySem.F.plainAttrs_list PySem.F.slot_list_append PySem.F.type_list_append mt_append me_append (ve_var 1) (va_cons (ve_tup (va_cons (ve_var 3) (va_cons (ve_op op_sub ov_int0 (ve_call (ok_l_pick T) (hr.mono (by decide)) (by rfl) T.g_l_pick T.F_l_pick.kp (bi_l_pick T) (pass0 (X := _)) XE0.no (va_cons (ve_var 0) (va_cons ve_int va_nil))) ve_int) va_nil))) va_nil)))))) (vss_one (vs_ret (ve_var 1)))), fun ds S Q h => vc_l_wild h⟩
/-! ### the law's own look -/
def lastAt (ts : List (List Int × Int)) : Nat → Option (List Int)
  | 0 => none
  | i + 1 => ts[i]?.map (·.1)
def sp_l_is_right : SpV := fun ds S Q _ => ∃ p ts many, ds = [.ref p, .int many] ∧ S p = some (.lst (List.map terD ts)) ∧ List.length ts ≤ 1000 ∧ Q (.bl (looksA many none ts)) S
theorem len_l_is_right {ds S Q E} (h : sp_l_is_right ds S Q E) : ds.length = 2 := by
  obtain ⟨p, ts, many, rfl, _⟩ := h; rfl
def rd_l_is_right_k1 : RS := sIf (tAnd (tVal (eBin vGt (eVar 2) (eC (.int 0)))) (tNot (tVal (eBin vLt (eBin vIx (eBin vIx (eVar 0) (eBin vSub (eVar 2) (eC (.int 1)))) (eC (.int 0))) (eBin vIx (eBin vIx (eVar 0) (eVar 2)) (eC (.int 0))))))) (sRet (eC (.bl false))) sNext
theorem rd_l_is_right_k1_eq (D0 : En) (τ : VS) (S : Sto) : rd_l_is_right_k1 D0 τ S = (sIf (tAnd (tVal (eBin vGt (eVar 2) (eC (.int 0)))) (tNot (tVal (eBin vLt (eBin vIx (eBin vIx (eVar 0) (eBin vSub (eVar 2) (eC (.int 1)))) (eC (.int 0))) (eBin vIx (eBin vIx (eVar 0) (eVar 2)) (eC (.int 0))))))) (sRet (eC (.bl false))) sNext : RS) D0 τ S := rfl
def rd_l_is_right_b1 : RS := sSeq (sIf (tOr (tVal (eBin vNe (eCB cLen [eBin vIx (eBin vIx (eVar 0) (eVar 2)) (eC (.int 0))]) (eVar 1))) (tVal (eBin vEq (eBin vIx (eBin vIx (eVar 0) (eVar 2)) (eC (.int 1))) (eC (.int 0))))) (sRet (eC (.bl false))) sNext) rd_l_is_right_k1
theorem rd_l_is_right_b1_eq (D0 : En) (τ : VS) (S : Sto) : rd_l_is_right_b1 D0 τ S = (sSeq (sIf (tOr (tVal (eBin vNe (eCB cLen [eBin vIx (eBin vIx (eVar 0) (eVar 2)) (eC (.int 0))]) (eVar 1))) (tVal (eBin vEq (eBin vIx (eBin vIx (eVar 0) (eVar 2)) (eC (.int 1))) (eC (.int 0))))) (sRet (eC (.bl false))) sNext) rd_l_is_right_k1 : RS) D0 τ S := rfl
def rd_l_is_right : RS := sSeq (sFor (iRng1 [eCB cLen [eVar 0]]) (gName 2) rd_l_is_right_b1) (sRet (eC (.bl true)))
theorem rd_l_is_right_eq (D0 : En) (τ : VS) (S : Sto) : rd_l_is_right D0 τ S = (sSeq (sFor (iRng1 [eCB cLen [eVar 0]]) (gName 2) rd_l_is_right_b1) (sRet (eC (.bl true))) : RS) D0 τ S := rfl
theorem vc_l_is_right {ds S Q E} (h : sp_l_is_right ds S Q E) : BodyV N_l_is_right ds S Q rd_l_is_right := by
  obtain ⟨p, ts, many, rfl, hp, hl, h⟩ := h
  rw [BodyV, rd_l_is_right_eq]
  walk_at "v"
  refine ⟨_, .inl hp, by rw [List.length_map]; omega, ?_⟩
  rw [List.length_map]
  refine for_inv (fun i τ S' => ∃ x2, τ = [some (.ref p), some (.int many), x2] ∧ S' = S ∧ looksA many none ts = looksA many (lastAt ts i) (ts.drop i)) ⟨none, rfl, rfl, rfl⟩ (fun _ _ _ _ => trivial) ?_ ?_
  · rintro i x τ S' D1 hx ⟨x2, rfl, rfl, hI⟩ hrt hbk hnx hct
    obtain ⟨hi, rfl⟩ := intsD_at hx
    have hi : i < ts.length := by omega
    obtain ⟨⟨ps, z⟩, ht⟩ : ∃ t, ts[i]? = some t := ⟨_, List.getElem?_eq_getElem hi⟩
    have hdr : ts.drop i = (ps, z) :: ts.drop (i + 1) := by
      rw [List.drop_eq_getElem_cons hi]
      rw [List.getElem?_eq_getElem hi] at ht
      rw [Option.some.inj ht]
    rw [hdr] at hI
    simp only [rd_l_is_right_b1_eq]
    walk_at "v"
    rw [Int.zero_add]
    have g1 : ∀ {Q' : KE}, Q' (.tup [tI ps, .int z]) S' → vIx (.ref p) (.int (i : Int)) S' Q' := fun hQ => vIx_ref hp (by omega) (d := terD (ps, z)) (by rw [List.getElem?_map, Int.toNat_natCast, ht]; rfl) hQ
    refine g1 ?_
    walk_at "v"
    have nxt : looksA many none ts = looksA many (some ps) (ts.drop (i + 1)) → D1.nx [some (.ref p), some (.int many), some (.int (i : Int))] S' := fun e =>
      hnx _ _ _ _ ⟨_, rfl, rfl, by rw [e]; show _ = looksA many (ts[i]?.map (·.1)) _; rw [ht]; rfl⟩ (VLe.refl _) (Le.refl _)
    have no : looksA many none ts = false → D1.rt (.bl false) S' := fun e => by rw [hrt]; rw [e] at h; exact ⟨_, Le.refl _, h⟩
    by_cases c1 : (ps.length : Int) = many
    · rw [if_neg (by rw [c1]; exact fun z => z rfl)]
      refine g1 ?_
      walk_at "v"
      by_cases c2 : z = 0
      · rw [if_pos c2]
        refine no ?_
        rw [hI]
        cases lastAt ts i <;> (unfold looksA; rw [if_pos (.inr c2)])
      · rw [if_neg c2]
        have c12 : ¬ ((ps.length : Int) ≠ many ∨ z = 0) := by rintro (q | q); exact q c1; exact c2 q
        simp only [rd_l_is_right_k1_eq]
        walk_at "v"
        cases i with
        | zero =>
          rw [show lastAt ts 0 = none from rfl] at hI
          rw [if_neg (by decide)]
          exact nxt (hI.trans (by rw [looksA, if_neg c12]))
        | succ j =>
          have hj : j < ts.length := by omega
          obtain ⟨⟨qs, y⟩, hq⟩ : ∃ t, ts[j]? = some t := ⟨_, List.getElem?_eq_getElem hj⟩
          rw [show lastAt ts (j + 1) = some qs from by show ts[j]?.map (·.1) = _; rw [hq]; rfl] at hI
          have hI' : looksA many none ts = if HT.lexLt qs ps then looksA many (some ps) (ts.drop (j + 1 + 1)) else false := by
            rw [hI, looksA, if_neg c12]
          rw [if_pos (by omega)]
          refine vIx_ref hp (by omega) (d := terD (qs, y)) (by rw [List.getElem?_map, show (((j + 1 : Nat) : Int) - 1).toNat = j from by omega, hq]; rfl) ?_
          simp only [terD]
          walk_at "v"
          refine g1 ?_
          walk_at "v"
          cases c3 : HT.lexLt qs ps with
          | true => rw [c3, if_pos rfl] at hI'; exact nxt hI'
          | false => rw [c3, if_neg (by decide)] at hI'; exact no hI'
    · rw [if_pos c1]
      refine no ?_
      rw [hI]
      cases lastAt ts i <;> (unfold looksA; rw [if_pos (.inl c1)])
  · rintro τ S' ⟨x2, rfl, rfl, hI⟩
    walk_at "v"
    have e : (intsD 0 ((ts.length : Nat) : Int).toNat).length = ts.length := by rw [intsD_len, Int.toNat_natCast]
    rw [e, List.drop_length] at hI
    have : looksA many none ts = true := by
      rw [hI]; cases lastAt ts ts.length <;> rfl
    rw [this] at h
    exact ⟨_, Le.refl _, h⟩
theorem ok_l_is_right {P : Program} {w : World} {K : PySem.W.Frag} {mg : Str → Option Value} {base : Heap} (T : Tp K mg) : FnOk P w K mg base CX0 1 T.a_l_is_right T.d_l_is_right ["_law_rows_here", "_law_many"] (lowSp K sp_l_is_right) :=
  fnV T.F_l_is_right sc_l_is_right (fun ds S Q E h => len_l_is_right h) fun cdv A outer s H E en E0 hr hx =>
    ⟨rd_l_is_right, vss_cons (vs_for PassesOwn.never rfl (vi_rng1 (by rfl) T.z_range (va_cons (ve_callB call_len ca_len (by rfl) T.z_len (by decide +kernel) (va_cons (ve_var 0) va_nil)) va_nil)) (vg_name (i := 2) sc_l_is_right.nd rfl (.inl rfl)) (vss_cons (vs_if (vt_bool (vw_or (vt_cmp (op_neAny hr.units) ov_ne (ve_callB call_len ca_len (by rfl) T.z_len (by decide +kernel) (va_cons (ve_ix ix_seq ov_ix (ve_ix ix_seq ov_ix (ve_var 0) (ve_var 2)) ve_int) va_nil)) (ve_var 1)) (vw_or1 (vt_cmp (op_eqAny hr.units) ov_eq (ve_ix ix_seq ov_ix (ve_ix ix_seq ov_ix (ve_var 0) (ve_var 2)) ve_int) ve_int)))) (vss_one (vs_ret ve_bl)) vss_nil) (vss_one (vs_if (vt_bool (vw_and (vt_cmp op_gt ov_cmp (ve_var 2) ve_int) (vw_and1 (vt_not (vt_cmp (op_ltAny hr.units0) ov_lt (ve_ix ix_seq ov_ix (ve_ix ix_seq ov_ix (ve_var 0) (ve_op op_sub ov_int0 (ve_var 2) ve_int)) ve_int) (ve_ix ix_seq ov_ix (ve_ix ix_seq ov_ix (ve_var 0) (ve_var 2)) ve_int)))))) (vss_one (vs_ret ve_bl)) vss_nil)))) (vss_one (vs_ret ve_bl)), fun ds S Q h => vc_l_is_right h⟩
end LW
namespace LW
open PySem PySem.Spec PyProof.Rows L2 VL
local macro_rules | `(tactic| walk_at "v") => `(tactic| simp only [sSeq, sAsg, sFor, sRet, sRetN, sIf, sNext, sDrop, sPar, sAug, VL.sDPut, eVar, eC, eBin, eUn, eCB, eCall, eCallK, eArgs, eTup, eLst, eIf, eNot, eAnd, eOr, eDNew, eDGet2, eSl, oNone, oSome, eRev, eM0, eM, eLc, eLcF, Tg.R, tVal, VL.tNot, VL.tAnd, VL.tOr, VL.tYes, sl, wipeV, VL.gName, VL.gTupN, VL.gSub, gAll, VL.iTup, iLst, iScr, VL.iRng1, VL.iRng2, vAdd_int, vAdd_ib, vAdd_str, vAdd_tup, vAdd_tI, vAdd_ref, VL.vInt, VL.vInt0, vMul_int, vMul_ref, vMul_tup, vNeg, vCmp, vEq_int, vEq_bl, vEq_str, vNe_int, vNe_bl, vNe_str, vLt_int, vIsN_non, vNotN_non, vIsN_int, vNotN_int, vIsN_bl, vNotN_bl, vIsN_str, vNotN_str, vIsN_ref, vNotN_ref, vIsN_tup, vNotN_tup, vIsN_tI, vNotN_tI, vLt_tI, cLen_tI, vDGet_tI, vDPut_tI, vDGet2_tI, cLen_tup, cLen_scr, cLen_str, cLen_ref, cLenD_ref, cList_tI, cInt_int, cInt_bl, cAbs, cMax2, cMin2, isT, mPop, mAppend, vIx_p0, vIx_p1, vSl_tI, vIx_stk0, vIx_stk1, vIx_stk2, vIx_stk3, vLSet_stk1, vLSet_stk2, vLSet_stk3, stk_a, List.set, startV, List.map_cons, List.map_nil, List.replicate, List.append_eq, List.nil_append, List.cons_append, List.length_cons, List.length_nil, List.length_map, if_true, Bool.false_eq_true, if_false, reduceIte, Bool.not_true, Bool.not_false, true_and, and_true, false_or, or_false, Bool.not_eq_eq_eq_not, decide_eq_true_eq, decide_eq_false_iff_not, reduceCtorEq])
/-! ### the program asked -/
def sp_l_is_told : SpV := fun ds S Q _ => ∃ p ts many, ds = [.ref p, .int many] ∧ S p = some (.lst (List.map terD ts)) ∧ List.length ts ≤ 1000 ∧ Q (.bl true) S
theorem len_l_is_told {ds S Q E} (h : sp_l_is_told ds S Q E) : ds.length = 2 := by
  obtain ⟨p, ts, many, rfl, _⟩ := h; rfl
def rd_l_is_told_b1 : RS := sIf (tOr (tNot (tVal (eCB cIsi [eVar 3, (eC (.oth (.ty "bool")))]))) (tVal (eBin vNe (eVar 3) (eVar 2)))) (sRet (eC (.bl false))) sNext
theorem rd_l_is_told_b1_eq (D0 : En) (τ : VS) (S : Sto) : rd_l_is_told_b1 D0 τ S = (sIf (tOr (tNot (tVal (eCB cIsi [eVar 3, (eC (.oth (.ty "bool")))]))) (tVal (eBin vNe (eVar 3) (eVar 2)))) (sRet (eC (.bl false))) sNext : RS) D0 τ S := rfl
def rd_l_is_told : RS := sSeq (sAsg (eCall sp_l_is_right E0n [eVar 0, eVar 1]) (gName 2)) (sSeq (sFor (iLst (eLst [eCall sp_is_sum E0n [eCB cTuple [eVar 0], eVar 1], eCallK sp_is_sum (kwg 0 2 [1, 0]) E0n [] [eVar 1, eCB cTuple [eVar 0]]])) (gName 3) rd_l_is_told_b1) (sRet (eC (.bl true))))
theorem rd_l_is_told_eq (D0 : En) (τ : VS) (S : Sto) : rd_l_is_told D0 τ S = (sSeq (sAsg (eCall sp_l_is_right E0n [eVar 0, eVar 1]) (gName 2)) (sSeq (sFor (iLst (eLst [eCall sp_is_sum E0n [eCB cTuple [eVar 0], eVar 1], eCallK sp_is_sum (kwg 0 2 [1, 0]) E0n [] [eVar 1, eCB cTuple [eVar 0]]])) (gName 3) rd_l_is_told_b1) (sRet (eC (.bl true)))) : RS) D0 τ S := rfl
theorem vc_l_is_told {ds S Q E} (h : sp_l_is_told ds S Q E) : BodyV N_l_is_told ds S Q rd_l_is_told := by
  obtain ⟨p, ts, many, rfl, hp, hl, h⟩ := h
  rw [BodyV, rd_l_is_told_eq]
  walk_at "v"
  refine ⟨p, ts, many, rfl, hp, hl, ?_⟩
  generalize hb : looksA many none ts = b
  refine ⟨_, .inl hp, ts, many, rfl, ?_⟩
  rw [hb]
  refine ⟨_, .inl hp, ts, many, rfl, ?_⟩
  rw [hb]
  intro q hq
  refine ⟨_, .inl put_same, ?_⟩
  refine for_inv (fun i τ S' => ∃ x3, τ = [some (.ref p), some (.int many), some (.bl b), x3] ∧ S' = put S q (.lst [.bl b, .bl b])) ⟨none, rfl, rfl⟩ (fun i τ S' h => by obtain ⟨_, _, rfl⟩ := h; exact .inl put_same) ?_ ?_
  · rintro i x τ S' D1 hx ⟨x3, rfl, rfl⟩ hrt hbk hnx hct
    have hx : x = .bl b := by
      have := List.mem_of_getElem? hx
      simp only [List.mem_cons, List.not_mem_nil, or_false, or_self] at this
      exact this
    subst hx
    simp only [rd_l_is_told_b1_eq]
    walk_at "v"
    refine ⟨"bool", rfl, by decide, ?_⟩
    rw [show isTy "bool" "bool" = true from rfl]
    walk_at "v"
    rw [if_neg (by simp)]
    exact hnx _ _ _ _ ⟨_, rfl, rfl⟩ (VLe.refl _) (Le.refl _)
  · rintro τ S' ⟨x3, rfl, rfl⟩
    walk_at "v"
    exact ⟨S, (Le.refl S).new hq, h⟩
theorem ok_l_is_told {P : Program} {w : World} {K : PySem.W.Frag} {mg : Str → Option Value} {base : Heap} (T : Tp K mg) : FnOk P w K mg base CX0 3 T.a_l_is_told T.d_l_is_told ["_law_rows_here", "_law_many"] (lowSp K sp_l_is_told) :=
  fnV T.F_l_is_told sc_l_is_told (fun ds S Q E h => len_l_is_told h) fun cdv A outer s H E en E0 hr hx =>
    ⟨rd_l_is_told, vss_cons (vs_set (i := 2) sc_l_is_told.nd rfl (.inl rfl) (ve_call (ok_l_is_right T) (hr.mono (by decide)) (by rfl) T.g_l_is_right T.F_l_is_right.kp (bi_l_is_right T) (pass0 (X := _)) XE0.no (va_cons (ve_var 0) (va_cons (ve_var 1) va_nil)))) (vss_cons (vs_for PassesOwn.never rfl (vi_lst (ve_lst (va_cons (ve_call (ok_is_sum T) (hr.mono (by decide)) (by rfl) T.g_is_sum T.F_is_sum.kp (bi_is_sum T) (pass0 (X := _)) XE0.no (va_cons (ve_callTy call_tuple_of ca_tuple (by rfl) T.z_tuple (by decide +kernel) (va_cons (ve_var 0) va_nil)) (va_cons (ve_var 1) va_nil))) (va_cons (ve_callKw0 (g := (kwg 0 2 [1, 0])) (ok_is_sum T) (hr.mono (by decide)) (by rfl) T.g_is_sum T.F_is_sum.kp (kw_is_sum_0_many_told T) (pass0 (X := _)) XE0.no (vk_cons (ve_var 1) (vk_cons (ve_callTy call_tuple_of ca_tuple (by rfl) T.z_tuple (by decide +kernel) (va_cons (ve_var 0) va_nil)) vk_nil))) va_nil)))) (vg_name (i := 3) sc_l_is_told.nd rfl (.inl rfl)) (vss_one (vs_if (vt_bool (vw_or (vt_not (vt_val (ve_callB call_isi ca_isi (by rfl) T.z_isinstance (by decide +kernel) (va_cons (ve_var 3) (va_cons (ve_bltn (v := .ty "bool") (by rfl) T.z_bool (by decide +kernel) rfl) va_nil))))) (vw_or1 (vt_cmp (op_neAny hr.units) ov_ne (ve_var 3) (ve_var 2))))) (vss_one (vs_ret ve_bl)) vss_nil))) (vss_one (vs_ret ve_bl))), fun ds S Q h => vc_l_is_told h⟩
theorem told_to {F : Sto} {a c p : Addr} {w : Wd} {ts : List (List Int × Int)} {many : Int} {Q : KE} {E : XC} (ap : Ap F a c) (h : F p = some (.lst (ts.map terD))) (hl : ts.length ≤ 1000) (hq : Q (.bl true) (stk F a c w)) : sp_l_is_told [.ref p, .int many] (stk F a c w) Q E := ⟨p, ts, many, rfl, stk_at ap h, hl, hq⟩
abbrev sp_law := spLawV
def rd_law_k1 : RS := sIf (tOr (tNot (tVal (eCall sp_l_is_told E0n [eVar 5, eVar 7]))) (tNot (tVal (eCall sp_l_is_told E0n [eVar 5, eBin vAdd (eVar 7) (eC (.int 1))])))) (sRet (eC (.bl false))) sNext
theorem rd_law_k1_eq (D0 : En) (τ : VS) (S : Sto) : rd_law_k1 D0 τ S = (sIf (tOr (tNot (tVal (eCall sp_l_is_told E0n [eVar 5, eVar 7]))) (tNot (tVal (eCall sp_l_is_told E0n [eVar 5, eBin vAdd (eVar 7) (eC (.int 1))])))) (sRet (eC (.bl false))) sNext : RS) D0 τ S := rfl
def rd_law_b1 : RS := sSeq (sIf (tVal (eBin vNe (eVar 5) (eLst []))) (sAsg (eCall sp_l_spoilt E0n [eVar 1, eVar 5]) (gName 5)) sNext) rd_law_k1
theorem rd_law_b1_eq (D0 : En) (τ : VS) (S : Sto) : rd_law_b1 D0 τ S = (sSeq (sIf (tVal (eBin vNe (eVar 5) (eLst []))) (sAsg (eCall sp_l_spoilt E0n [eVar 1, eVar 5]) (gName 5)) sNext) rd_law_k1 : RS) D0 τ S := rfl
def rd_law_k2 : RS := sFor (iRng1 [eBin vIx (eLst [eC (.int 0), eC (.int 1), eC (.int 1), eC (.int 2), eC (.int 3), eC (.int 1)]) (eVar 8)]) (gName 6) rd_law_b1
theorem rd_law_k2_eq (D0 : En) (τ : VS) (S : Sto) : rd_law_k2 D0 τ S = (sFor (iRng1 [eBin vIx (eLst [eC (.int 0), eC (.int 1), eC (.int 1), eC (.int 2), eC (.int 3), eC (.int 1)]) (eVar 8)]) (gName 6) rd_law_b1 : RS) D0 τ S := rfl
def rd_law_k3 : RS := sSeq (sIf (tOr (tNot (tVal (eCall sp_l_is_told E0n [eVar 5, eVar 7]))) (tNot (tVal (eCall sp_l_is_told E0n [eVar 5, eBin vAdd (eC (.int 1)) (eCall sp_l_pick E0n [eVar 1, eC (.int 13)])])))) (sRet (eC (.bl false))) sNext) rd_law_k2
theorem rd_law_k3_eq (D0 : En) (τ : VS) (S : Sto) : rd_law_k3 D0 τ S = (sSeq (sIf (tOr (tNot (tVal (eCall sp_l_is_told E0n [eVar 5, eVar 7]))) (tNot (tVal (eCall sp_l_is_told E0n [eVar 5, eBin vAdd (eC (.int 1)) (eCall sp_l_pick E0n [eVar 1, eC (.int 13)])])))) (sRet (eC (.bl false))) sNext) rd_law_k2 : RS) D0 τ S := rfl
def rd_law_k4 : RS := sSeq (sAsg (eCall sp_l_rows E0n [eVar 1, eVar 7]) (gName 5)) (sSeq (sIf (tVal (eBin vEq (eVar 8) (eC (.int 0)))) (sAsg (eCall sp_l_wild E0n [eVar 1]) (gName 5)) sNext) rd_law_k3)
theorem rd_law_k4_eq (D0 : En) (τ : VS) (S : Sto) : rd_law_k4 D0 τ S = (sSeq (sAsg (eCall sp_l_rows E0n [eVar 1, eVar 7]) (gName 5)) (sSeq (sIf (tVal (eBin vEq (eVar 8) (eC (.int 0)))) (sAsg (eCall sp_l_wild E0n [eVar 1]) (gName 5)) sNext) rd_law_k3) : RS) D0 τ S := rfl
def rd_law_b2 : RS := sSeq (sPar 7 8 (eBin vAdd (eC (.int 1)) (eCall sp_l_pick E0n [eVar 1, eC (.int 12)])) (eCall sp_l_pick E0n [eVar 1, eC (.int 6)])) (sSeq (sIf (tVal (eBin vGt (eCall sp_l_pick E0n [eVar 1, eC (.int 3)]) (eC (.int 0)))) (sAsg (eBin vAdd (eC (.int 1)) (eBin vMod (eCB cInt [eVar 7]) (eC (.int 3)))) (gName 7)) sNext) rd_law_k4)
theorem rd_law_b2_eq (D0 : En) (τ : VS) (S : Sto) : rd_law_b2 D0 τ S = (sSeq (sPar 7 8 (eBin vAdd (eC (.int 1)) (eCall sp_l_pick E0n [eVar 1, eC (.int 12)])) (eCall sp_l_pick E0n [eVar 1, eC (.int 6)])) (sSeq (sIf (tVal (eBin vGt (eCall sp_l_pick E0n [eVar 1, eC (.int 3)]) (eC (.int 0)))) (sAsg (eBin vAdd (eC (.int 1)) (eBin vMod (eCB cInt [eVar 7]) (eC (.int 3)))) (gName 7)) sNext) rd_law_k4) : RS) D0 τ S := rfl
def rd_law_k5 : RS := sSeq (sAsg (eBin vIx (eLst [eC (.int 0), eC (.int 298), eCall sp_l_pick E0n [eVar 1, eC (.int 299)]]) (eCall sp_l_pick E0n [eVar 1, eC (.int 3)])) (gName 4)) (sRet (eCall sp_l_is_told E0n [eBin vAdd (eBin vAdd (eSl (eVar 3) oNone (oSome (eVar 4))) (eLst [eBin vIx (eVar 3) (eBin vAdd (eVar 4) (eC (.int 1))), eBin vIx (eVar 3) (eVar 4)])) (eSl (eVar 3) (oSome (eBin vAdd (eVar 4) (eC (.int 2)))) oNone), eC (.int 2)]))
theorem rd_law_k5_eq (D0 : En) (τ : VS) (S : Sto) : rd_law_k5 D0 τ S = (sSeq (sAsg (eBin vIx (eLst [eC (.int 0), eC (.int 298), eCall sp_l_pick E0n [eVar 1, eC (.int 299)]]) (eCall sp_l_pick E0n [eVar 1, eC (.int 3)])) (gName 4)) (sRet (eCall sp_l_is_told E0n [eBin vAdd (eBin vAdd (eSl (eVar 3) oNone (oSome (eVar 4))) (eLst [eBin vIx (eVar 3) (eBin vAdd (eVar 4) (eC (.int 1))), eBin vIx (eVar 3) (eVar 4)])) (eSl (eVar 3) (oSome (eBin vAdd (eVar 4) (eC (.int 2)))) oNone), eC (.int 2)])) : RS) D0 τ S := rfl
def rd_law_k6 : RS := sSeq (sAsg (eLc (iRng1 [eC (.int 300)]) (Tg.R (.nm 6)) tYes (eTup [eTup [eBin vSub (eBin vFdiv (eVar 6) (eC (.int 17))) (eC (.int 9)), eBin vSub (eBin vMod (eCB cInt [eVar 6]) (eC (.int 17))) (eC (.int 8))], eBin vAdd (eC (.int 1)) (eVar 6)]) [6]) (gName 3)) (sSeq (sIf (tOr (tNot (tVal (eCall sp_l_is_told E0n [eVar 3, eC (.int 2)]))) (tNot (tVal (eCall sp_l_is_told E0n [eVar 3, eC (.int 1)])))) (sRet (eC (.bl false))) sNext) rd_law_k5)
theorem rd_law_k6_eq (D0 : En) (τ : VS) (S : Sto) : rd_law_k6 D0 τ S = (sSeq (sAsg (eLc (iRng1 [eC (.int 300)]) (Tg.R (.nm 6)) tYes (eTup [eTup [eBin vSub (eBin vFdiv (eVar 6) (eC (.int 17))) (eC (.int 9)), eBin vSub (eBin vMod (eCB cInt [eVar 6]) (eC (.int 17))) (eC (.int 8))], eBin vAdd (eC (.int 1)) (eVar 6)]) [6]) (gName 3)) (sSeq (sIf (tOr (tNot (tVal (eCall sp_l_is_told E0n [eVar 3, eC (.int 2)]))) (tNot (tVal (eCall sp_l_is_told E0n [eVar 3, eC (.int 1)])))) (sRet (eC (.bl false))) sNext) rd_law_k5) : RS) D0 τ S := rfl
def rd_law : RS := sSeq (sAsg (eCall sp_l_stock E0n [eVar 0]) (gName 1)) (sSeq (sFor (iRng1 [eC (.int 12)]) (gName 2) rd_law_b2) rd_law_k6)
theorem rd_law_eq (D0 : En) (τ : VS) (S : Sto) : rd_law D0 τ S = (sSeq (sAsg (eCall sp_l_stock E0n [eVar 0]) (gName 1)) (sSeq (sFor (iRng1 [eC (.int 12)]) (gName 2) rd_law_b2) rd_law_k6) : RS) D0 τ S := rfl
theorem vc_law {ds S Q E} (h : spLawV ds S Q E) : BodyV N_law ds S Q rd_law := by
  obtain ⟨ns, rfl, hns, h⟩ := h
  rw [BodyV, rd_law_eq]
  walk_at "v"
  refine ⟨ns, rfl, hns, fun a c w ap wk => ⟨by decide, ?_⟩⟩
  have fin : ∀ S', ∃ S'', Le S'' S' ∧ Q (.bl true) S'' := fun S' => ⟨S', Le.refl _, h S'⟩
  refine for_inv (fun i τ S' => ∃ w F x2 x3 x4 x5 x6 x7 x8, τ = [some (.scr ns), some (.ref a), x2, x3, x4, x5, x6, x7, x8] ∧ S' = stk F a c w ∧ Ap F a c ∧ Wok w (5000 * i)) ⟨w, S, none, none, none, none, none, none, none, rfl, rfl, ap, wk.mono (by decide)⟩ (fun _ _ _ _ => trivial) ?_ ?_
  · rintro i x τ S' D1 hx ⟨w, F, x2, x3, x4, x5, x6, x7, x8, rfl, rfl, ap, wk⟩ hrt hbk hnx hct
    obtain ⟨hi, rfl⟩ := intsD_at hx
    have hi12 : i < 12 := hi
    simp only [rd_law_b2_eq]
    walk_at "v"
    refine pick_to ap wk (by omega) (by omega) (by omega) fun r w1 r0 r1 wk1 => ?_
    walk_at "v"
    refine pick_to ap wk1 (by omega) (by omega) (by omega) fun way w2 y0 y1 wk2 => ?_
    refine pick_to ap wk2 (by omega) (by omega) (by omega) fun r3 w3 _ _ wk3 => ?_
    walk_at "v"
    have k3 : ∀ (G : Sto) (p : Addr) (ts : List (List Int × Int)) (w : Wd) (many : Int) (x6 : Option D), Ap G a c → G p = some (.lst (ts.map terD)) → ts.length ≤ 9 → (∀ t ∈ ts, t.1.length ≤ 12) → Wok w (5000 * i + 1500) →
        rd_law_k3 D1 [some (.scr ns), some (.ref a), some (.int (0 + (i : Int))), x3, x4, some (.ref p), x6, some (.int many), some (.int way)] (stk G a c w) := by
      intro G p ts w many x6 apG hG hl12 hts wk
      simp only [rd_law_k3_eq]
      walk_at "v"
      refine told_to apG hG (by omega) ?_
      walk_at "v"
      refine pick_to apG wk (by omega) (by omega) (by omega) fun r4 w4 _ _ wk4 => ?_
      walk_at "v"
      refine told_to apG hG (by omega) ?_
      walk_at "v"
      simp only [rd_law_k2_eq]
      walk_at "v"
      intro q hq
      obtain ⟨G2, e2, ap2, l2, h2, _⟩ := nwo apG hq (.lst [.int 0, .int 1, .int 1, .int 2, .int 3, .int 1])
      simp only [e2]
      obtain ⟨m, hm, hm0, hm3⟩ : ∃ m : Int, [D.int 0, .int 1, .int 1, .int 2, .int 3, .int 1][way.toNat]? = some (.int m) ∧ 0 ≤ m ∧ m ≤ 3 := by
        rcases (by omega : way = 0 ∨ way = 1 ∨ way = 2 ∨ way = 3 ∨ way = 4 ∨ way = 5) with rfl | rfl | rfl | rfl | rfl | rfl
        · exact ⟨0, rfl, by decide, by decide⟩
        · exact ⟨1, rfl, by decide, by decide⟩
        · exact ⟨1, rfl, by decide, by decide⟩
        · exact ⟨2, rfl, by decide, by decide⟩
        · exact ⟨3, rfl, by decide, by decide⟩
        · exact ⟨1, rfl, by decide, by decide⟩
      refine vIx_ref (stk_at ap2 h2) y0 hm ?_
      refine ⟨by omega, ?_⟩
      refine for_inv (fun j τ S' => ∃ G p ts w x6, τ = [some (.scr ns), some (.ref a), some (.int (0 + (i : Int))), x3, x4, some (.ref p), x6, some (.int many), some (.int way)] ∧ S' = stk G a c w ∧ Ap G a c ∧ G p = some (.lst (ts.map terD)) ∧ ts.length ≤ 9 + j ∧ (∀ t ∈ ts, t.1.length ≤ 12) ∧ Wok w (5000 * i + 1501 + 10 * j))
        ⟨G2, p, ts, w4, x6, rfl, rfl, ap2, l2 _ _ hG, hl12, hts, wk4.mono (by omega)⟩ (fun _ _ _ _ => trivial) ?_ ?_
      · rintro j x τ S' D2 hx ⟨G, p, ts, w, x6, rfl, rfl, apG, hG, htl, hts, wk⟩ hrt2 hbk2 hnx2 hct2
        obtain ⟨hj, rfl⟩ := intsD_at hx
        have hj3 : j < 3 := by omega
        simp only [rd_law_b1_eq]
        walk_at "v"
        intro q hq
        obtain ⟨G2, e2, ap2, l2, h2, _⟩ := nwo apG hq (.lst [])
        simp only [e2]
        have k1 : ∀ (G : Sto) (p : Addr) (ts : List (List Int × Int)) (w : Wd), Ap G a c → G p = some (.lst (ts.map terD)) → ts.length ≤ 9 + (j + 1) → (∀ t ∈ ts, t.1.length ≤ 12) → Wok w (5000 * i + 1501 + 10 * (j + 1)) →
            rd_law_k1 D2 [some (.scr ns), some (.ref a), some (.int (0 + (i : Int))), x3, x4, some (.ref p), some (.int (0 + (j : Int))), some (.int many), some (.int way)] (stk G a c w) := by
          intro G p ts w apG hG htl hts wk
          simp only [rd_law_k1_eq]
          walk_at "v"
          refine told_to apG hG (by omega) ?_
          walk_at "v"
          refine told_to apG hG (by omega) ?_
          walk_at "v"
          exact hnx2 _ _ _ _ ⟨G, p, ts, w, _, rfl, rfl, apG, hG, htl, hts, wk.mono (by omega)⟩ (VLe.refl _) (Le.refl _)
        refine vNe_refs rTerm (xs := ts) (ys := []) (.inl (stk_at ap2 (l2 _ _ hG))) (.inl (stk_at ap2 h2)) (by decide) ?_
        cases ts with
        | nil => exact k1 G2 p [] w ap2 (l2 _ _ hG) (by simp) hts (wk.mono (by omega))
        | cons t tr =>
          have ne : decide (t :: tr = []) = false := rfl
          rw [ne]
          walk_at "v"
          refine ⟨G2, a, c, w, _, p, t :: tr, rfl, rfl, ap2, wk, by omega, l2 _ _ hG, by simp, by simp at htl ⊢; omega, hts, fun u w' us uF ua uc ul wk' hus => ?_⟩
          exact k1 _ u us w' (ap2.nw ua uc) put_same (by omega) hus (wk'.mono (by omega))
      · rintro τ S' ⟨G, p, ts, w, x6, rfl, rfl, apG, hG, htl, hts, wk⟩
        have hm4 : (intsD 0 m.toNat).length ≤ 3 := by rw [intsD_len]; omega
        exact hnx _ _ _ _ ⟨w, G, _, _, _, _, _, _, _, rfl, rfl, apG, wk.mono (by omega)⟩ (VLe.refl _) (Le.refl _)
    have k4 : ∀ (many : Int), 1 ≤ many → many ≤ 12 → rd_law_k4 D1 [some (.scr ns), some (.ref a), some (.int (0 + (i : Int))), x3, x4, x5, x6, some (.int many), some (.int way)] (stk F a c w3) := by
      intro many hm1 hm2
      simp only [rd_law_k4_eq]
      walk_at "v"
      refine ⟨F, a, c, w3, _, many, rfl, rfl, ap, wk3, by omega, hm1, hm2, fun p w' ts pF pa pc tl wk' tlen => ?_⟩
      have apG := ap.nw (o := .lst (ts.map terD)) pa pc
      by_cases hw : way = 0
      · simp only [if_pos hw]
        refine ⟨_, a, c, w', _, rfl, rfl, apG, wk', by omega, fun u w'' us uF ua uc ul wk'' hus => ?_⟩
        exact k3 _ u us w'' many x6 (apG.nw ua uc) put_same ul hus (wk''.mono (by omega))
      · simp only [if_neg hw]
        exact k3 _ p ts w' many x6 apG put_same tl (fun t ht => by rw [tlen t ht]; omega) (wk'.mono (by omega))
    by_cases h3 : r3 > 0
    · rw [if_pos h3]
      have fm : 0 ≤ (1 + r).fmod 3 ∧ (1 + r).fmod 3 < 3 := fmod_range (by decide)
      exact ⟨by decide, k4 _ (by omega) (by omega)⟩
    · rw [if_neg h3]
      exact k4 _ (by omega) (by omega)
  · rintro τ S' ⟨w, F, x2, x3, x4, x5, x6, x7, x8, rfl, rfl, ap, wk⟩
    have wk : Wok w 60000 := wk
    simp only [rd_law_k6_eq]
    walk_at "v"
    refine ⟨by decide, lc_inv (fun j acc S' => S' = stk F a c w ∧ ∃ ts : List (List Int × Int), acc = ts.map terD ∧ ts.length = j) ⟨rfl, [], rfl, rfl⟩ (fun _ _ _ _ => trivial) ?_ ?_⟩
    · rintro j x acc S' K' hx ⟨rfl, ts, rfl, hj⟩ hk
      obtain ⟨hj2, rfl⟩ := intsD_at hx
      walk_at "v"
      refine ⟨⟨by decide, log2_fits (a := 5) (by decide) (by decide)⟩, by decide, ?_⟩
      exact hk _ _ _ (Le.refl _) ⟨rfl, ts ++ [([(0 + (j : Int)).fdiv 17 - 9, (0 + (j : Int)).fmod 17 - 8], 1 + (0 + (j : Int)))], by rw [List.map_append]; rfl, by rw [List.length_append, hj]; rfl⟩
    · rintro acc S' ⟨rfl, ts, rfl, hts⟩
      have hts : ts.length = 300 := hts
      intro p hp
      obtain ⟨G, eG, apG, l, hG, _⟩ := nwo ap hp (.lst (ts.map terD))
      simp only [eG]
      refine told_to apG hG (by omega) ?_
      walk_at "v"
      refine told_to apG hG (by omega) ?_
      walk_at "v"
      simp only [rd_law_k5_eq]
      walk_at "v"
      refine pick_to apG wk (by decide) (by decide) (by decide) fun r w1 r0 r1 wk1 => ?_
      intro q hq
      obtain ⟨G2, e2, ap2, l2, h2, _⟩ := nwo apG hq (.lst [.int 0, .int 298, .int r])
      simp only [e2]
      refine pick_to ap2 wk1 (by decide) (by decide) (by decide) fun r2 w2 r20 r21 wk2 => ?_
      obtain ⟨m, hm, hm0, hm3⟩ : ∃ m : Int, [D.int 0, .int 298, .int r][r2.toNat]? = some (.int m) ∧ 0 ≤ m ∧ m ≤ 298 := by
        rcases (by omega : r2 = 0 ∨ r2 = 1 ∨ r2 = 2) with rfl | rfl | rfl
        · exact ⟨0, rfl, by decide, by decide⟩
        · exact ⟨298, rfl, by decide, by decide⟩
        · exact ⟨r, rfl, by omega, by omega⟩
      refine vIx_ref (stk_at ap2 h2) r20 hm ?_
      have hp2 := l2 _ _ hG
      walk_at "v"
      refine cut_left ap2 hp2 hm0 (by rw [List.length_map]; omega) fun u G3 ap3 l3 h3 => ?_
      obtain ⟨t1, ht1⟩ : ∃ t, ts[(m + 1).toNat]? = some t := ⟨_, List.getElem?_eq_getElem (by omega)⟩
      obtain ⟨t2, ht2⟩ : ∃ t, ts[m.toNat]? = some t := ⟨_, List.getElem?_eq_getElem (by omega)⟩
      refine vIx_ref (stk_at ap3 (l3 _ _ hp2)) (by omega) (d := terD t1) (by rw [List.getElem?_map, ht1]; rfl) ?_
      refine vIx_ref (stk_at ap3 (l3 _ _ hp2)) (by omega) (d := terD t2) (by rw [List.getElem?_map, ht2]; rfl) ?_
      intro v hv
      obtain ⟨G4, e4, ap4, l4, h4, _⟩ := nwo ap3 hv (.lst [terD t1, terD t2])
      simp only [e4]
      refine add_refs ap4 (l4 _ _ h3) h4 (by rw [List.length_take, List.length_map]; simp; omega) fun z G5 ap5 l5 h5 => ?_
      refine cut_right ap5 (l5 _ _ (l4 _ _ (l3 _ _ hp2))) (by omega) (by rw [List.length_map]; omega) fun y G6 ap6 l6 h6 => ?_
      refine add_refs ap6 (l6 _ _ h5) h6 (by rw [List.length_append, List.length_take, List.length_drop, List.length_map]; simp; omega) fun x G7 ap7 l7 h7 => ?_
      have e : List.take m.toNat (ts.map terD) ++ [terD t1, terD t2] ++ List.drop (m + 2).toNat (ts.map terD) = (ts.take m.toNat ++ [t1, t2] ++ ts.drop (m + 2).toNat).map terD := by
        rw [List.map_append, List.map_append, List.map_take, List.map_drop]; rfl
      rw [e] at h7
      exact told_to ap7 h7 (by simp; omega) (fin _)
theorem len_law {ds S Q E} (h : spLawV ds S Q E) : ds.length = 1 := by
  obtain ⟨_, rfl, _⟩ := h; rfl
theorem ok_law {P : Program} {w : World} {K : PySem.W.Frag} {mg : Str → Option Value} {base : Heap} (T : Tp K mg) : FnOk P w K mg base CX0 4 T.a_law T.d_law ["_law_script"] (lowSp K sp_law) :=
  fnV T.F_law sc_law (fun ds S Q E h => len_law h) fun cdv A outer s H E en E0 hr hx =>
    ⟨rd_law, vss_cons (vs_set (i := 1) sc_law.nd rfl (.inl rfl) (ve_call (ok_l_stock T) (hr.mono (by decide)) (by rfl) T.g_l_stock T.F_l_stock.kp (bi_l_stock T) (pass0 (X := _)) XE0.no (va_cons (ve_var 0) va_nil))) (vss_cons (vs_for PassesOwn.never rfl (vi_rng1 (by rfl) T.z_range (va_cons ve_int va_nil)) (vg_name (i := 2) sc_law.nd rfl (.inl rfl)) (vss_cons (vs_par (i := 7) (j := 8) rfl sc_law.nd rfl rfl (by decide) rfl rfl (ve_op op_addAny ov_add ve_int (ve_call (ok_l_pick T) (hr.mono (by decide)) (by rfl) T.g_l_pick T.F_l_pick.kp (bi_l_pick T) (pass0 (X := _)) XE0.no (va_cons (ve_var 1) (va_cons ve_int va_nil)))) (ve_call (ok_l_pick T) (hr.mono (by decide)) (by rfl) T.g_l_pick T.F_l_pick.kp (bi_l_pick T) (pass0 (X := _)) XE0.no (va_cons (ve_var 1) (va_cons ve_int va_nil))) (by rfl)) (vss_cons (vs_if (vt_cmp op_gt ov_cmp (ve_call (ok_l_pick T) (hr.mono (by decide)) (by rfl) T.g_l_pick T.F_l_pick.kp (bi_l_pick T) (pass0 (X := _)) XE0.no (va_cons (ve_var 1) (va_cons ve_int va_nil))) ve_int) (vss_one (vs_set (i := 7) sc_law.nd rfl (.inl rfl) (ve_op op_addAny ov_add ve_int (ve_op op_modN ov_int (ve_callTy call_int1 ca_int (by rfl) T.z_int (by decide +kernel) (va_cons (ve_var 7) va_nil)) ve_int)))) vss_nil) (vss_cons (vs_set (i := 5) sc_law.nd rfl (.inl rfl) (ve_call (ok_l_rows T) (hr.mono (by decide)) (by rfl) T.g_l_rows T.F_l_rows.kp (bi_l_rows T) (pass0 (X := _)) XE0.no (va_cons (ve_var 1) (va_cons (ve_var 7) va_nil)))) (vss_cons (vs_if (vt_cmp (op_eqAny hr.units) ov_eq (ve_var 8) ve_int) (vss_one (vs_set (i := 5) sc_law.nd rfl (.inl rfl) (ve_call (ok_l_wild T) (hr.mono (by decide)) (by rfl) T.g_l_wild T.F_l_wild.kp (bi_l_wild T) (pass0 (X := _)) XE0.no (va_cons (ve_var 1) va_nil)))) vss_nil) (vss_cons (vs_if (vt_bool (vw_or (vt_not (vt_val (ve_call (ok_l_is_told T) (hr.mono (by decide)) (by rfl) T.g_l_is_told T.F_l_is_told.kp (bi_l_is_told T) (pass0 (X := _)) XE0.no (va_cons (ve_var 5) (va_cons (ve_var 7) va_nil))))) (vw_or1 (vt_not (vt_val (ve_call (ok_l_is_told T) (hr.mono (by decide)) (by rfl) T.g_l_is_told T.F_l_is_told.kp (bi_l_is_told T) (pass0 (X := _)) XE0.no (va_cons (ve_var 5) (va_cons (ve_op op_addAny ov_add ve_int (ve_call (ok_l_pick T) (hr.mono (by decide)) (by rfl) T.g_l_pick T.F_l_pick.kp (bi_l_pick T) (pass0 (X := _)) XE0.no (va_cons (ve_var 1) (va_cons ve_int va_nil)))) va_nil)))))))) (vss_one (vs_ret ve_bl)) vss_nil) (vss_one (vs_for PassesOwn.never rfl (vi_rng1 (by rfl) T.z_range (va_cons (ve_ix ix_seq ov_ix (ve_lst (va_cons ve_int (va_cons ve_int (va_cons ve_int (va_cons ve_int (va_cons ve_int (va_cons ve_int va_nil))))))) (ve_var 8)) va_nil)) (vg_name (i := 6) sc_law.nd rfl (.inl rfl)) (vss_cons (vs_if (vt_cmp (op_neAny hr.units) ov_ne (ve_var 5) (ve_lst va_nil)) (vss_one (vs_set (i := 5) sc_law.nd rfl (.inl rfl) (ve_call (ok_l_spoilt T) (hr.mono (by decide)) (by rfl) T.g_l_spoilt T.F_l_spoilt.kp (bi_l_spoilt T) (pass0 (X := _)) XE0.no (va_cons (ve_var 1) (va_cons (ve_var 5) va_nil))))) vss_nil) (vss_one (vs_if (vt_bool (vw_or (vt_not (vt_val (ve_call (ok_l_is_told T) (hr.mono (by decide)) (by rfl) T.g_l_is_told T.F_l_is_told.kp (bi_l_is_told T) (pass0 (X := _)) XE0.no (va_cons (ve_var 5) (va_cons (ve_var 7) va_nil))))) (vw_or1 (vt_not (vt_val (ve_call (ok_l_is_told T) (hr.mono (by decide)) (by rfl) T.g_l_is_told T.F_l_is_told.kp (bi_l_is_told T) (pass0 (X := _)) XE0.no (va_cons (ve_var 5) (va_cons (ve_op op_addAny ov_add (ve_var 7) ve_int) va_nil)))))))) (vss_one (vs_ret ve_bl)) vss_nil))))))))))) (vss_cons (vs_setLc (i := 3) (own := [("_law_k", 6)]) (t := (.nm 6)) rfl sc_law.nd rfl rfl (sw_true rfl rfl rfl (by decide +kernel)) (vi_rng1 (by rfl) T.z_range (va_cons ve_int va_nil)) (blkOk_by (N := ["_law_script", "_law_stock_here", "_law_turn", "_law_far", "_law_place", "_law_rows_here", "_law_k", "_law_many", "_law_way"]) (sc := defScope s_law) (by decide +kernel)) ⟨fun _ _ _ _ _ => pg_name (i := 6) sc_law.nd rfl (Or.inl rfl), fun _ _ _ _ _ => vts_nil, fun _ _ _ _ _ => ve_tup (va_cons (ve_tup (va_cons (ve_op op_sub ov_int0 (ve_op op_fdivX ov_int (ve_var 6) ve_int) ve_int) (va_cons (ve_op op_sub ov_int0 (ve_op op_modN ov_int (ve_callTy call_int1 ca_int (by rfl) T.z_int (by decide +kernel) (va_cons (ve_var 6) va_nil)) ve_int) ve_int) va_nil))) (va_cons (ve_op op_addAny ov_add ve_int (ve_var 6)) va_nil))⟩ (by decide)) (vss_cons (vs_if (vt_bool (vw_or (vt_not (vt_val (ve_call (ok_l_is_told T) (hr.mono (by decide)) (by rfl) T.g_l_is_told T.F_l_is_told.kp (bi_l_is_told T) (pass0 (X := _)) XE0.no (va_cons (ve_var 3) (va_cons ve_int va_nil))))) (vw_or1 (vt_not (vt_val (ve_call (ok_l_is_told T) (hr.mono (by decide)) (by rfl) T.g_l_is_told T.F_l_is_told.kp (bi_l_is_told T) (pass0 (X := _)) XE0.no (va_cons (ve_var 3) (va_cons ve_int va_nil)))))))) (vss_one (vs_ret ve_bl)) vss_nil) (vss_cons (vs_set (i := 4) sc_law.nd rfl (.inl rfl) (ve_ix ix_seq ov_ix (ve_lst (va_cons ve_int (va_cons ve_int (va_cons (ve_call (ok_l_pick T) (hr.mono (by decide)) (by rfl) T.g_l_pick T.F_l_pick.kp (bi_l_pick T) (pass0 (X := _)) XE0.no (va_cons (ve_var 1) (va_cons ve_int va_nil))) va_nil)))) (ve_call (ok_l_pick T) (hr.mono (by decide)) (by rfl) T.g_l_pick T.F_l_pick.kp (bi_l_pick T) (pass0 (X := _)) XE0.no (va_cons (ve_var 1) (va_cons ve_int va_nil))))) (vss_one (vs_ret (ve_call (ok_l_is_told T) (hr.mono (by decide)) (by rfl) T.g_l_is_told T.F_l_is_told.kp (bi_l_is_told T) (pass0 (X := _)) XE0.no (va_cons (ve_op op_addAny ov_add (ve_op op_addAny ov_add (ve_slice (ve_var 3) vo_none (vo_some (ve_var 4))) (ve_lst (va_cons (ve_ix ix_seq ov_ix (ve_var 3) (ve_op op_addAny ov_add (ve_var 4) ve_int)) (va_cons (ve_ix ix_seq ov_ix (ve_var 3) (ve_var 4)) va_nil)))) (ve_slice (ve_var 3) (vo_some (ve_op op_addAny ov_add (ve_var 4) ve_int)) vo_none)) (va_cons ve_int va_nil))))))))), fun ds S Q h => vc_law h⟩
end LW
namespace LW
open PySem PySem.Spec PyProof.Rows L2 VL
theorem all_mk {l : PySem.W.OpenLaw} {w : World} {K : PySem.W.Frag} {h : Heap} {mg : Str → Option Value} {fa : Addr} (X : K.In h) (G : h.Ns mainGlobals mg) (hfa : mg "law" = some (.ref fa))
    {f0 : Addr} {od0 an0 : Option Addr} {sl0 : Array (Option Value)} {oc0 kV0 dc0 pm0 cd0 ct0 : Value}
    {f1 : Addr} {od1 an1 : Option Addr} {sl1 : Array (Option Value)} {oc1 kV1 dc1 pm1 cd1 ct1 : Value}
    {f2 : Addr} {od2 an2 : Option Addr} {sl2 : Array (Option Value)} {oc2 kV2 dc2 pm2 cd2 ct2 : Value}
    {f3 : Addr} {od3 an3 : Option Addr} {sl3 : Array (Option Value)} {oc3 kV3 dc3 pm3 cd3 ct3 : Value}
    {f4 : Addr} {od4 an4 : Option Addr} {sl4 : Array (Option Value)} {oc4 kV4 dc4 pm4 cd4 ct4 : Value}
    {f5 : Addr} {od5 an5 : Option Addr} {sl5 : Array (Option Value)} {oc5 kV5 dc5 pm5 cd5 ct5 : Value}
    {f6 : Addr} {od6 an6 : Option Addr} {sl6 : Array (Option Value)} {oc6 kV6 dc6 pm6 cd6 ct6 : Value}
    {f7 : Addr} {od7 an7 : Option Addr} {sl7 : Array (Option Value)} {oc7 kV7 dc7 pm7 cd7 ct7 : Value}
    {f8 : Addr} {od8 an8 : Option Addr} {sl8 : Array (Option Value)} {oc8 kV8 dc8 pm8 cd8 ct8 : Value}
    {f9 : Addr} {od9 an9 : Option Addr} {sl9 : Array (Option Value)} {oc9 kV9 dc9 pm9 cd9 ct9 : Value}
    {f10 : Addr} {od10 an10 : Option Addr} {sl10 : Array (Option Value)} {oc10 kV10 dc10 pm10 cd10 ct10 : Value}
    (a0 : PySem.W.nsIn K mainGlobals "looks_right" = some (some (.ref f0))) (l0 : K.lookup f0 = some ⟨oc0, od0, .func (PySem.W.fnOf "looks_right" "looks_right" (defArgs s_looks_right) (defBody s_looks_right) (defScope s_looks_right) .none kV0 dc0 pm0 an0 cd0 ct0), sl0⟩) (c0 : PySem.W.codeIn K cd0 "looks_right" = true) (k0 : PySem.W.keepIn K (.ref f0) = true)
    (a1 : PySem.W.nsIn K mainGlobals "is_sum" = some (some (.ref f1))) (l1 : K.lookup f1 = some ⟨oc1, od1, .func (PySem.W.fnOf "is_sum" "is_sum" (defArgs s_is_sum) (defBody s_is_sum) (defScope s_is_sum) .none kV1 dc1 pm1 an1 cd1 ct1), sl1⟩) (c1 : PySem.W.codeIn K cd1 "is_sum" = true) (k1 : PySem.W.keepIn K (.ref f1) = true)
    (a2 : PySem.W.nsIn K mainGlobals "_law_stock" = some (some (.ref f2))) (l2 : K.lookup f2 = some ⟨oc2, od2, .func (PySem.W.fnOf "_law_stock" "_law_stock" (defArgs s_l_stock) (defBody s_l_stock) (defScope s_l_stock) .none kV2 dc2 pm2 an2 cd2 ct2), sl2⟩) (c2 : PySem.W.codeIn K cd2 "_law_stock" = true) (k2 : PySem.W.keepIn K (.ref f2) = true)
    (a3 : PySem.W.nsIn K mainGlobals "_law_pick" = some (some (.ref f3))) (l3 : K.lookup f3 = some ⟨oc3, od3, .func (PySem.W.fnOf "_law_pick" "_law_pick" (defArgs s_l_pick) (defBody s_l_pick) (defScope s_l_pick) .none kV3 dc3 pm3 an3 cd3 ct3), sl3⟩) (c3 : PySem.W.codeIn K cd3 "_law_pick" = true) (k3 : PySem.W.keepIn K (.ref f3) = true)
    (a4 : PySem.W.nsIn K mainGlobals "_law_wide" = some (some (.ref f4))) (l4 : K.lookup f4 = some ⟨oc4, od4, .func (PySem.W.fnOf "_law_wide" "_law_wide" (defArgs s_l_wide) (defBody s_l_wide) (defScope s_l_wide) .none kV4 dc4 pm4 an4 cd4 ct4), sl4⟩) (c4 : PySem.W.codeIn K cd4 "_law_wide" = true) (k4 : PySem.W.keepIn K (.ref f4) = true)
    (a5 : PySem.W.nsIn K mainGlobals "_law_rows" = some (some (.ref f5))) (l5 : K.lookup f5 = some ⟨oc5, od5, .func (PySem.W.fnOf "_law_rows" "_law_rows" (defArgs s_l_rows) (defBody s_l_rows) (defScope s_l_rows) .none kV5 dc5 pm5 an5 cd5 ct5), sl5⟩) (c5 : PySem.W.codeIn K cd5 "_law_rows" = true) (k5 : PySem.W.keepIn K (.ref f5) = true)
    (a6 : PySem.W.nsIn K mainGlobals "_law_spoilt" = some (some (.ref f6))) (l6 : K.lookup f6 = some ⟨oc6, od6, .func (PySem.W.fnOf "_law_spoilt" "_law_spoilt" (defArgs s_l_spoilt) (defBody s_l_spoilt) (defScope s_l_spoilt) .none kV6 dc6 pm6 an6 cd6 ct6), sl6⟩) (c6 : PySem.W.codeIn K cd6 "_law_spoilt" = true) (k6 : PySem.W.keepIn K (.ref f6) = true)
    (a7 : PySem.W.nsIn K mainGlobals "_law_wild" = some (some (.ref f7))) (l7 : K.lookup f7 = some ⟨oc7, od7, .func (PySem.W.fnOf "_law_wild" "_law_wild" (defArgs s_l_wild) (defBody s_l_wild) (defScope s_l_wild) .none kV7 dc7 pm7 an7 cd7 ct7), sl7⟩) (c7 : PySem.W.codeIn K cd7 "_law_wild" = true) (k7 : PySem.W.keepIn K (.ref f7) = true)
    (a8 : PySem.W.nsIn K mainGlobals "_law_is_right" = some (some (.ref f8))) (l8 : K.lookup f8 = some ⟨oc8, od8, .func (PySem.W.fnOf "_law_is_right" "_law_is_right" (defArgs s_l_is_right) (defBody s_l_is_right) (defScope s_l_is_right) .none kV8 dc8 pm8 an8 cd8 ct8), sl8⟩) (c8 : PySem.W.codeIn K cd8 "_law_is_right" = true) (k8 : PySem.W.keepIn K (.ref f8) = true)
    (a9 : PySem.W.nsIn K mainGlobals "_law_is_told" = some (some (.ref f9))) (l9 : K.lookup f9 = some ⟨oc9, od9, .func (PySem.W.fnOf "_law_is_told" "_law_is_told" (defArgs s_l_is_told) (defBody s_l_is_told) (defScope s_l_is_told) .none kV9 dc9 pm9 an9 cd9 ct9), sl9⟩) (c9 : PySem.W.codeIn K cd9 "_law_is_told" = true) (k9 : PySem.W.keepIn K (.ref f9) = true)
    (a10 : PySem.W.nsIn K mainGlobals "law" = some (some (.ref f10))) (l10 : K.lookup f10 = some ⟨oc10, od10, .func (PySem.W.fnOf "law" "law" (defArgs s_law) (defBody s_law) (defScope s_law) .none kV10 dc10 pm10 an10 cd10 ct10), sl10⟩) (c10 : PySem.W.codeIn K cd10 "law" = true) (k10 : PySem.W.keepIn K (.ref f10) = true)
    (z_bool : PySem.W.nsIn K mainGlobals "bool" = some none)
    (z_int : PySem.W.nsIn K mainGlobals "int" = some none)
    (z_isinstance : PySem.W.nsIn K mainGlobals "isinstance" = some none)
    (z_len : PySem.W.nsIn K mainGlobals "len" = some none)
    (z_list : PySem.W.nsIn K mainGlobals "list" = some none)
    (z_max : PySem.W.nsIn K mainGlobals "max" = some none)
    (z_range : PySem.W.nsIn K mainGlobals "range" = some none)
    (z_sorted : PySem.W.nsIn K mainGlobals "sorted" = some none)
    (z_tuple : PySem.W.nsIn K mainGlobals "tuple" = some none) :
    ∃ fd : FuncData, (∀ (s : Shared) (v : Value), BindsTo s fd ⟨[v], []⟩ [("_law_script", v)]) ∧ ∀ base : Heap, K.In base → base.Ns mainGlobals mg → FnOk l.prog w K mg base CX0 4 fa fd ["_law_script"] (lowSp K spLawV) := by
  have e := hfa.symm.trans (PySem.W.mg_of X G a10)
  cases e
  exact ⟨PySem.W.fnOf "law" "law" (defArgs s_law) (defBody s_law) (defScope s_law) .none kV10 dc10 pm10 an10 cd10 ct10, fun s v => .of_eq rfl, fun base _ _ => ok_law { a_looks_right := f0, d_looks_right := _, F_looks_right := fun_mk (st := s_looks_right) l0 c0 k0, g_looks_right := PySem.W.mg_of X G a0, a_is_sum := f1, d_is_sum := _, F_is_sum := fun_mk (st := s_is_sum) l1 c1 k1, g_is_sum := PySem.W.mg_of X G a1, a_l_stock := f2, d_l_stock := _, F_l_stock := fun_mk (st := s_l_stock) l2 c2 k2, g_l_stock := PySem.W.mg_of X G a2, a_l_pick := f3, d_l_pick := _, F_l_pick := fun_mk (st := s_l_pick) l3 c3 k3, g_l_pick := PySem.W.mg_of X G a3, a_l_wide := f4, d_l_wide := _, F_l_wide := fun_mk (st := s_l_wide) l4 c4 k4, g_l_wide := PySem.W.mg_of X G a4, a_l_rows := f5, d_l_rows := _, F_l_rows := fun_mk (st := s_l_rows) l5 c5 k5, g_l_rows := PySem.W.mg_of X G a5, a_l_spoilt := f6, d_l_spoilt := _, F_l_spoilt := fun_mk (st := s_l_spoilt) l6 c6 k6, g_l_spoilt := PySem.W.mg_of X G a6, a_l_wild := f7, d_l_wild := _, F_l_wild := fun_mk (st := s_l_wild) l7 c7 k7, g_l_wild := PySem.W.mg_of X G a7, a_l_is_right := f8, d_l_is_right := _, F_l_is_right := fun_mk (st := s_l_is_right) l8 c8 k8, g_l_is_right := PySem.W.mg_of X G a8, a_l_is_told := f9, d_l_is_told := _, F_l_is_told := fun_mk (st := s_l_is_told) l9 c9 k9, g_l_is_told := PySem.W.mg_of X G a9, a_law := fa, d_law := _, F_law := fun_mk (st := s_law) l10 c10 k10, g_law := hfa, z_bool := PySem.W.mg_none_of X G z_bool, z_int := PySem.W.mg_none_of X G z_int, z_isinstance := PySem.W.mg_none_of X G z_isinstance, z_len := PySem.W.mg_none_of X G z_len, z_list := PySem.W.mg_none_of X G z_list, z_max := PySem.W.mg_none_of X G z_max, z_range := PySem.W.mg_none_of X G z_range, z_sorted := PySem.W.mg_none_of X G z_sorted, z_tuple := PySem.W.mg_none_of X G z_tuple }⟩
end LW
open PySem PySem.W PyProof.Rows
set_option maxHeartbeats 0 in
theorem PySem.Challenge.cw_neverhalves_k13_sums_that_are_none_holds : PySem.Challenge.rw_neverhalves_k13_sums_that_are_none.Holds := by
  w_on; o_law; k_head; (case hw => w_witness2)
  k_fill
  refine L2.walk_of (l := PySem.Challenge.rw_neverhalves_k13_sums_that_are_none) (n := 63) (k := 4) (x := "_law_script") (CX := fun _ => L2.CX0) (sp := fun w => VL.lowSp _ VL.spLawV) rfl (by decide) rfl ⟨rfl, by decide, by decide⟩ (fun w h Y => PySem.W.kIn_of Y) ?F (fun _ _ a ns hl hO hS => VL.law_low hl hO hS) (fun _ _ _ _ _ h => h)
  case F =>
    intro w mg fa h KX G hmg
    refine' LW.all_mk KX G hmg ?a0 ?l0 ?c0 ?k0 ?a1 ?l1 ?c1 ?k1 ?a2 ?l2 ?c2 ?k2 ?a3 ?l3 ?c3 ?k3 ?a4 ?l4 ?c4 ?k4 ?a5 ?l5 ?c5 ?k5 ?a6 ?l6 ?c6 ?k6 ?a7 ?l7 ?c7 ?k7 ?a8 ?l8 ?c8 ?k8 ?a9 ?l9 ?c9 ?k9 ?a10 ?l10 ?c10 ?k10 ?z_bool ?z_int ?z_isinstance ?z_len ?z_list ?z_max ?z_range ?z_sorted ?z_tuple
    (case a0 => k_is); (case l0 => k_is); (case c0 => k_is); (case k0 => k_is)
    (case a1 => k_is); (case l1 => k_is); (case c1 => k_is); (case k1 => k_is)
    (case a2 => k_is); (case l2 => k_is); (case c2 => k_is); (case k2 => k_is)
    (case a3 => k_is); (case l3 => k_is); (case c3 => k_is); (case k3 => k_is)
    (case a4 => k_is); (case l4 => k_is); (case c4 => k_is); (case k4 => k_is)
    (case a5 => k_is); (case l5 => k_is); (case c5 => k_is); (case k5 => k_is)
    (case a6 => k_is); (case l6 => k_is); (case c6 => k_is); (case k6 => k_is)
    (case a7 => k_is); (case l7 => k_is); (case c7 => k_is); (case k7 => k_is)
    (case a8 => k_is); (case l8 => k_is); (case c8 => k_is); (case k8 => k_is)
    (case a9 => k_is); (case l9 => k_is); (case c9 => k_is); (case k9 => k_is)
    (case a10 => k_is); (case l10 => k_is); (case c10 => k_is); (case k10 => k_is)
    (case z_bool => k_is)
    (case z_int => k_is)
    (case z_isinstance => k_is)
    (case z_len => k_is)
    (case z_list => k_is)
    (case z_max => k_is)
    (case z_range => k_is)
    (case z_sorted => k_is)
    (case z_tuple => k_is)
