import PyProof.Rows.All
import HandS.ForMost
import HandS.Wide
import HandS.TupAny
import HandS.TupMul
import HandS.Conv
import HandS.IsInst
import HandS.Style
import KE.KEqDict
import KE.SortData
import KE.KDictSum
import HandS.WideBits
import HandS.TupLen
import HandS.Zip
import HandS.Star
import KE.KDictZip
import HandS.Iter
import HandS.DictTup
import HandS.DictComp
import HandS.Gcd
import KE.KDictWalk
import KE.KDictDisplayH
import PySem.Challenge.RW_neverhalves_k03_whole_values_as_fraction
set_option Elab.async false
set_option autoImplicit true
set_option linter.all false
set_option maxRecDepth 100000
set_option maxHeartbeats 4000000
/-! VL: the value level. D: values with tuples by content; Sto: what stands at mutable objects; readings over these. -/
namespace VL
open PySem PySem.Spec PyProof.Rows L2
/-- a value: tuples by their content, mutable things by their address -/
inductive D where
  | non | bl (b : Bool) | int (i : Int) | str (s : Str) | tup (xs : List D) | ref (a : Addr) | oth (v : V) | scr (ns : List Int)
/-- what stands at an address: a list, a list that is only read, a dict whose keys are tuples of ints, one with plain keys, anything else -/
inductive MO where
  | lst (xs : List D) | rol (xs : List D) | dI (kvs : List (List Int × D)) | fD (kvs : List (List Int × D)) (l : HO) | dK (kvs : List (Key × D)) | raw (o : HO)
abbrev Sto := Addr → Option MO
def put (S : Sto) (a : Addr) (o : MO) : Sto := fun b => if b = a then some o else S b
theorem put_same {S : Sto} {a : Addr} {o : MO} : put S a o a = some o := by unfold put; rw [if_pos rfl]
theorem put_ne {S : Sto} {a b : Addr} {o : MO} (h : b ≠ a) : put S a o b = S b := by unfold put; rw [if_neg h]
theorem put_put {S : Sto} {a : Addr} {o u : MO} : put (put S a o) a u = put S a u := by
  funext b; unfold put; split <;> rfl
theorem sne {S : Sto} {a b : Addr} {o : MO} (h : S a = some o) (h' : S b = none) : a ≠ b := by
  intro e; subst e; rw [h] at h'; cases h'
/-- fewer facts -/
def Le (S T : Sto) : Prop := ∀ a o, S a = some o → T a = some o
theorem Le.refl (S : Sto) : Le S S := fun _ _ h => h
theorem Le.trans {S T U : Sto} (a : Le S T) (b : Le T U) : Le S U := fun x o h => b x o (a x o h)
theorem Le.new {S T : Sto} {p : Addr} {o : MO} (e : Le S T) (h : S p = none) : Le S (put T p o) := fun a u q => by
  rw [put_ne (sne q h)]; exact e a u q
theorem Le.put {S T : Sto} {p : Addr} {o : MO} (e : Le S T) : Le (put S p o) (put T p o) := fun a u q => by
  unfold VL.put at q ⊢
  split at q
  · rename_i h; rw [if_pos h]; exact q
  · rename_i h; rw [if_neg h]; exact e a u q
theorem Le.nope {S T : Sto} (e : Le S T) {p : Addr} (h : T p = none) : S p = none := by
  cases q : S p with
  | none => rfl
  | some o => rw [e p o q] at h; cases h
/-! ### what is told of what -/
/-- the script: a list of ints that never changes -/
def ScrAt (K : PySem.W.Frag) (H : Hp) (a : Addr) (xs : List V) : Prop :=
  (∃ o, H a = some (.frz o (.lst xs))) ∨
    ∃ (o : Obj) (its : Array Value) (n : Nat), K.lookup a = some o ∧ o.cls = .type "list" ∧ o.dict = none ∧ o.data = .seq its n ∧ its.size ≤ sizeLine ∧ Vals xs its.toList
theorem ScrAt.sq {K : PySem.W.Frag} {H : Hp} {a : Addr} {xs : List V} (h : ScrAt K H a xs) : SqL K H a xs := by
  rcases h with ⟨o, h⟩ | h
  · exact .inl (.inr ⟨o, h⟩)
  · exact .inr h
mutual
def Rp (K : PySem.W.Frag) (H : Hp) : D → V → Prop
  | .non, v => v = .non
  | .bl b, v => v = .bl b
  | .int i, v => v = .int i
  | .str s, v => v = .str s
  | .ref a, v => v = .ref a
  | .oth u, v => v = u
  | .scr ns, v => ∃ a, v = .ref a ∧ ScrAt K H a (ns.map V.int) ∧ ns.length ≤ sizeLine
  | .tup xs, v => ∃ a vs, v = .ref a ∧ H a = some (.tup vs) ∧ vs.length ≤ sizeLine ∧ Rps K H xs vs
def Rps (K : PySem.W.Frag) (H : Hp) : List D → List V → Prop
  | [], vs => vs = []
  | x :: xs, vs => ∃ v r, vs = v :: r ∧ Rp K H x v ∧ Rps K H xs r
end
/-- what never changes stays -/
def IsHard : HO → Prop
  | .lst _ => True
  | .tup _ => True
  | _ => False
def TL (H H' : Hp) : Prop := (∀ a xs, H a = some (.tup xs) → H' a = some (.tup xs)) ∧ ∀ a o u, IsHard u → H a = some (.frz o u) → H' a = some (.frz o u)
theorem TL.tup {H H1 : Hp} (t : TL H H1) {a : Addr} {xs : List V} (h : H a = some (.tup xs)) : H1 a = some (.tup xs) := t.1 a xs h
theorem TL.frz {H H1 : Hp} (t : TL H H1) {a : Addr} {o : Obj} {u : HO} (h : H a = some (.frz o u)) (k : IsHard u := by trivial) : H1 a = some (.frz o u) := t.2 a o u k h
theorem TL.refl (H : Hp) : TL H H := ⟨fun _ _ h => h, fun _ _ _ _ h => h⟩
theorem TL.trans {H H1 H2 : Hp} (a : TL H H1) (b : TL H1 H2) : TL H H2 := ⟨fun x o h => b.1 x o (a.1 x o h), fun x o u k h => b.2 x o u k (a.2 x o u k h)⟩
theorem TL.new {H : Hp} {p : Addr} {o : HO} (h : H p = none) : TL H (upd H p o) :=
  ⟨fun a xs e => by rw [upd_ne (ne_of_none e h)]; exact e, fun a u xs _ e => by rw [upd_ne (ne_of_none e h)]; exact e⟩
def IsMut : HO → Prop
  | .tup _ => False
  | .frz _ (.lst _) => False
  | .frz _ (.tup _) => False
  | _ => True
theorem TL.mut {H : Hp} {p : Addr} {o u : HO} (h : H p = some u) (m : IsMut u) : TL H (upd H p o) :=
  ⟨fun a xs e => by
    have : a ≠ p := by rintro rfl; rw [h] at e; cases e; exact m
    rw [upd_ne this]; exact e, fun a ob xs k e => by
    have : a ≠ p := by
      rintro rfl; rw [h] at e; cases e
      cases xs <;> first | exact m | exact k
    rw [upd_ne this]; exact e⟩
section
variable {K : PySem.W.Frag} {H H' : Hp}
theorem TL.sqT (t : TL H H') {a : Addr} {xs : List V} (h : SqT K H a xs) : SqT K H' a xs := by
  rcases h with (h | ⟨o, h⟩) | h
  · exact .inl (.inl (t.1 _ _ h))
  · exact .inl (.inr ⟨o, t.2 _ _ _ trivial h⟩)
  · exact .inr h
mutual
theorem Rp.mono (t : TL H H') : ∀ (d : D) (v : V), Rp K H d v → Rp K H' d v
  | .non, _, h => h
  | .bl _, _, h => h
  | .int _, _, h => h
  | .str _, _, h => h
  | .ref _, _, h => h
  | .oth _, _, h => h
  | .scr _, _, h => by
    simp only [Rp] at h ⊢
    obtain ⟨a, e, q, z⟩ := h
    rcases q with ⟨o, q⟩ | q
    · exact ⟨a, e, .inl ⟨o, TL.frz t q⟩, z⟩
    · exact ⟨a, e, .inr q, z⟩
  | .tup xs, _, h => by
    simp only [Rp] at h ⊢
    obtain ⟨a, vs, e, q, z, r⟩ := h
    exact ⟨a, vs, e, TL.tup t q, z, Rps.mono t xs vs r⟩
theorem Rps.mono (t : TL H H') : ∀ (ds : List D) (vs : List V), Rps K H ds vs → Rps K H' ds vs
  | [], _, h => h
  | x :: xs, _, h => by
    simp only [Rps] at h ⊢
    obtain ⟨v, r, e, q, s⟩ := h
    exact ⟨v, r, e, Rp.mono t x v q, Rps.mono t xs r s⟩
end
theorem Rps.length : ∀ {ds : List D} {vs : List V}, Rps K H ds vs → ds.length = vs.length
  | [], _, h => by simp only [Rps] at h; subst h; rfl
  | x :: xs, _, h => by
    simp only [Rps] at h
    obtain ⟨v, r, rfl, _, s⟩ := h
    rw [List.length_cons, List.length_cons, Rps.length s]
theorem Rps.get : ∀ {ds : List D} {vs : List V} {i : Nat} {d : D}, Rps K H ds vs → ds[i]? = some d → ∃ v, vs[i]? = some v ∧ Rp K H d v
  | [], _, _, _, _, e => by simp at e
  | x :: xs, _, 0, d, h, e => by
    simp only [Rps] at h
    obtain ⟨v, r, rfl, q, _⟩ := h
    simp at e; subst e
    exact ⟨v, rfl, q⟩
  | x :: xs, _, i + 1, d, h, e => by
    simp only [Rps] at h
    obtain ⟨v, r, rfl, _, s⟩ := h
    simp at e
    obtain ⟨u, h1, h2⟩ := Rps.get s e
    exact ⟨u, by simpa using h1, h2⟩
theorem Rps.get' : ∀ {ds : List D} {vs : List V} {i : Nat} {v : V}, Rps K H ds vs → vs[i]? = some v → ∃ d, ds[i]? = some d ∧ Rp K H d v := by
  intro ds vs i v h e
  have hl := h.length
  have hi : i < vs.length := (List.getElem?_eq_some_iff.mp e).1
  have hi' : i < ds.length := by omega
  obtain ⟨u, h1, h2⟩ := h.get (List.getElem?_eq_getElem hi')
  rw [e] at h1; cases h1
  exact ⟨_, List.getElem?_eq_getElem hi', h2⟩
theorem Rps.append : ∀ {ds es : List D} {vs ws : List V}, Rps K H ds vs → Rps K H es ws → Rps K H (ds ++ es) (vs ++ ws)
  | [], _, _, _, h, g => by simp only [Rps] at h; subst h; exact g
  | x :: xs, es, _, ws, h, g => by
    simp only [Rps] at h
    obtain ⟨v, r, rfl, q, s⟩ := h
    show Rps K H (x :: (xs ++ es)) (v :: (r ++ ws))
    simp only [Rps]
    exact ⟨v, _, rfl, q, Rps.append s g⟩
theorem Rps.one {d : D} {v : V} (h : Rp K H d v) : Rps K H [d] [v] := by
  simp only [Rps]
  exact ⟨v, [], rfl, h, rfl⟩
theorem Rps.cons {d : D} {v : V} {ds : List D} {vs : List V} (h : Rp K H d v) (t : Rps K H ds vs) : Rps K H (d :: ds) (v :: vs) := by
  simp only [Rps]
  exact ⟨v, vs, rfl, h, t⟩
theorem Rps.nil : Rps K H [] [] := by simp only [Rps]
theorem Rps.take : ∀ {ds : List D} {vs : List V} (n : Nat), Rps K H ds vs → Rps K H (ds.take n) (vs.take n)
  | _, _, 0, _ => by simp only [List.take_zero, Rps]
  | [], _, n + 1, h => by simp only [Rps] at h; subst h; simp only [List.take_nil, Rps]
  | x :: xs, _, n + 1, h => by
    simp only [Rps] at h
    obtain ⟨v, r, rfl, q, s⟩ := h
    exact Rps.cons q (Rps.take n s)
theorem Rps.drop : ∀ {ds : List D} {vs : List V} (n : Nat), Rps K H ds vs → Rps K H (ds.drop n) (vs.drop n)
  | _, _, 0, h => h
  | [], _, n + 1, h => by simp only [Rps] at h; subst h; simp only [List.drop_nil, Rps]
  | x :: xs, _, n + 1, h => by
    simp only [Rps] at h
    obtain ⟨v, r, rfl, q, s⟩ := h
    exact Rps.drop n s
theorem Rps.set {d : D} {v : V} (q : Rp K H d v) : ∀ {ds : List D} {vs : List V} (i : Nat), Rps K H ds vs → Rps K H (ds.set i d) (vs.set i v)
  | [], _, _, h => by simp only [Rps] at h; subst h; simp only [List.set_nil, Rps]
  | x :: xs, _, 0, h => by
    simp only [Rps] at h
    obtain ⟨u, r, rfl, _, s⟩ := h
    exact Rps.cons q s
  | x :: xs, _, i + 1, h => by
    simp only [Rps] at h
    obtain ⟨u, r, rfl, p, s⟩ := h
    exact Rps.cons p (Rps.set q i s)
theorem Rps.reverse : ∀ {ds : List D} {vs : List V}, Rps K H ds vs → Rps K H ds.reverse vs.reverse
  | [], _, h => by simp only [Rps] at h; subst h; exact Rps.nil
  | x :: xs, _, h => by
    simp only [Rps] at h
    obtain ⟨v, r, rfl, q, s⟩ := h
    rw [List.reverse_cons, List.reverse_cons]
    exact (Rps.reverse s).append (Rps.one q)
theorem Rps.ints : ∀ {ns : List Int} {vs : List V}, Rps K H (ns.map D.int) vs → vs = ns.map V.int
  | [], _, h => by simp only [List.map_nil, Rps] at h; exact h
  | x :: xs, _, h => by
    simp only [List.map_cons, Rps] at h
    obtain ⟨v, r, rfl, q, s⟩ := h
    simp only [Rp] at q
    rw [q, Rps.ints s]; rfl
theorem Rps.of_ints : ∀ (ns : List Int), Rps K H (ns.map D.int) (ns.map V.int)
  | [] => Rps.nil
  | x :: xs => Rps.cons (by simp only [Rp]) (Rps.of_ints xs)
end
/-! ### the store -/
section
variable (K : PySem.W.Frag) (H : Hp)
/-- pairs of keys and values: q.1 tells p's key -/
def Kv {κ μ : Type} (f : κ → μ) : List (κ × D) → List (μ × V) → Prop := Paired fun (p : κ × D) (q : μ × V) => q.1 = f p.1 ∧ Rp K H p.2 q.2
def MR : MO → HO → Prop
  | .lst xs, u => ∃ vs, u = .lst vs ∧ vs.length ≤ sizeLine ∧ Rps K H xs vs
  | .rol xs, u => ∃ o vs, u = .frz o (.lst vs) ∧ vs.length ≤ sizeLine ∧ Rps K H xs vs
  | .dI kvs, u => ∃ ws, u = .dT ws ∧ ws.length ≤ sizeLine ∧ Kv K H (fun k : List Int => k.map (Sum.inl : Int → Key)) kvs ws
  | .dK kvs, u => ∃ ws, u = .dK ws ∧ ws.length ≤ sizeLine ∧ Kv K H (fun k : Key => k) kvs ws
  | .fD kvs l, u => u = l ∧ ∃ o ws, l = .frz o (.dT ws) ∧ ws.length ≤ sizeLine ∧ Kv K H (fun k : List Int => k.map (Sum.inl : Int → Key)) kvs ws
  | .raw o, u => u = o ∧ IsMut o
def SO (S : Sto) : Prop := ∀ a o, S a = some o → ∃ u, H a = some u ∧ MR K H o u
/-- slots -/
abbrev VS := List (Option D)
def SR (τ : VS) (σ : L2.St) : Prop := τ.length = σ.length ∧ ∀ (i : Nat) d, τ[i]? = some (some d) → ∃ v, σ[i]? = some (some v) ∧ Rp K H d v
end
section
variable {K : PySem.W.Frag} {H H' : Hp}
theorem Kv.mono {κ μ : Type} {f : κ → μ} (t : TL H H') {a : List (κ × D)} {b : List (μ × V)} (h : Kv K H f a b) : Kv K H' f a b :=
  Paired.mapP h fun p q z => ⟨z.1, Rp.mono t _ _ z.2⟩
theorem MR.mono (t : TL H H') {o : MO} {u : HO} (h : MR K H o u) : MR K H' o u := by
  cases o with
  | lst xs => obtain ⟨vs, e, z, q⟩ := h; exact ⟨vs, e, z, Rps.mono t _ _ q⟩
  | rol xs => obtain ⟨ob, vs, e, z, q⟩ := h; exact ⟨ob, vs, e, z, Rps.mono t _ _ q⟩
  | dI kvs => obtain ⟨ws, e, z, q⟩ := h; exact ⟨ws, e, z, q.mono t⟩
  | dK kvs => obtain ⟨ws, e, z, q⟩ := h; exact ⟨ws, e, z, q.mono t⟩
  | fD kvs l => obtain ⟨e0, ob, ws, e, z, q⟩ := h; exact ⟨e0, ob, ws, e, z, q.mono t⟩
  | raw ob => exact h
theorem SO.le {S T : Sto} (h : SO K H T) (l : Le S T) : SO K H S := fun a o e => h a o (l a o e)
theorem SO.nope {S : Sto} (h : SO K H S) {a : Addr} (e : H a = none) : S a = none := by
  cases q : S a with
  | none => rfl
  | some o => obtain ⟨u, z, _⟩ := h a o q; rw [e] at z; cases z
/-- a new object; o is told of it or not -/
theorem SO.new {S : Sto} (h : SO K H S) {p : Addr} {u : HO} {o : MO} (e : H p = none) (m : MR K (upd H p u) o u) : SO K (upd H p u) (put S p o) := fun a o' q => by
  by_cases ha : a = p
  · subst ha; rw [put_same] at q; cases q; exact ⟨u, upd_same, m⟩
  · rw [put_ne ha] at q
    obtain ⟨w, z, r⟩ := h a o' q
    exact ⟨w, by rw [upd_ne ha]; exact z, r.mono (TL.new e)⟩
theorem SO.new' {S : Sto} (h : SO K H S) {p : Addr} {u : HO} (e : H p = none) : SO K (upd H p u) S := fun a o' q => by
  have ha : a ≠ p := by rintro rfl; rw [h.nope e] at q; cases q
  obtain ⟨w, z, r⟩ := h a o' q
  exact ⟨w, by rw [upd_ne ha]; exact z, r.mono (TL.new e)⟩
/-- an object written -/
theorem SO.set {S : Sto} (h : SO K H S) {p : Addr} {u w : HO} {o : MO} (e : H p = some w) (hm : IsMut w) (m : MR K (upd H p u) o u) : SO K (upd H p u) (put S p o) := fun a o' q => by
  by_cases ha : a = p
  · subst ha; rw [put_same] at q; cases q; exact ⟨u, upd_same, m⟩
  · rw [put_ne ha] at q
    obtain ⟨w', z, r⟩ := h a o' q
    exact ⟨w', by rw [upd_ne ha]; exact z, r.mono (TL.mut e hm)⟩
theorem SR.mono (t : TL H H') {τ : VS} {σ : L2.St} (h : SR K H τ σ) : SR K H' τ σ :=
  ⟨h.1, fun i d e => by obtain ⟨v, a, b⟩ := h.2 i d e; exact ⟨v, a, Rp.mono t _ _ b⟩⟩
theorem SR.set {τ : VS} {σ : L2.St} (h : SR K H τ σ) {d : D} {v : V} (r : Rp K H d v) (i : Nat) : SR K H (τ.set i (some d)) (σ.set i (some v)) := by
  refine ⟨by simpa using h.1, fun j e q => ?_⟩
  by_cases hj : i = j
  · subst hj
    rw [List.getElem?_set] at q
    rw [if_pos rfl] at q
    split at q
    · rename_i hl
      injection q with q
      injection q with q
      subst q
      refine ⟨v, ?_, r⟩
      rw [List.getElem?_set_self]
      rw [← h.1]; exact hl
    · cases q
  · rw [List.getElem?_set_ne hj] at q
    obtain ⟨v', a, b⟩ := h.2 j e q
    exact ⟨v', by rw [List.getElem?_set_ne hj]; exact a, b⟩
/-- fewer slots told -/
theorem SR.less {τ τ' : VS} {σ : L2.St} (h : SR K H τ σ) (hl : τ'.length = τ.length) (w : ∀ (i : Nat) d, τ'[i]? = some (some d) → τ[i]? = some (some d)) : SR K H τ' σ :=
  ⟨hl.trans h.1, fun i d e => h.2 i d (w i d e)⟩
/-- fewer slots told, slot by slot -/
def VLe : VS → VS → Prop
  | [], [] => True
  | none :: r, _ :: s => VLe r s
  | some a :: r, x :: s => x = some a ∧ VLe r s
  | _, _ => False
theorem VLe.refl : ∀ τ : VS, VLe τ τ
  | [] => trivial
  | none :: r => VLe.refl r
  | some _ :: r => ⟨rfl, VLe.refl r⟩
theorem VLe.len : ∀ {a b : VS}, VLe a b → a.length = b.length
  | [], [], _ => rfl
  | none :: r, _ :: s, h => by rw [List.length_cons, List.length_cons, VLe.len (a := r) (b := s) h]
  | some _ :: r, _ :: s, h => by rw [List.length_cons, List.length_cons, VLe.len (a := r) (b := s) h.2]
  | [], _ :: _, h => h.elim
  | none :: _, [], h => h.elim
  | some _ :: _, [], h => h.elim
theorem VLe.at : ∀ {a b : VS} {i : Nat} {d : D}, VLe a b → a[i]? = some (some d) → b[i]? = some (some d)
  | [], [], _, _, _, e => by simp at e
  | none :: r, _ :: s, 0, _, _, e => by simp at e
  | none :: r, _ :: s, i + 1, d, h, e => by simpa using VLe.at (a := r) (b := s) (i := i) h (by simpa using e)
  | some _ :: r, _ :: s, 0, _, h, e => by simp at e; subst e; rw [h.1]; rfl
  | some _ :: r, _ :: s, i + 1, d, h, e => by simpa using VLe.at (a := r) (b := s) (i := i) h.2 (by simpa using e)
  | [], _ :: _, _, _, h, _ => h.elim
  | none :: _, [], _, _, h, _ => h.elim
  | some _ :: _, [], _, _, h, _ => h.elim
theorem SR.vle {τ τ' : VS} {σ : L2.St} (h : SR K H τ σ) (l : VLe τ' τ) : SR K H τ' σ := h.less l.len fun _ _ e => l.at e
/-- the whole state -/
structure St2 (K : PySem.W.Frag) (H : Hp) (τ : VS) (S : Sto) (σ : L2.St) : Prop where
  sl : SR K H τ σ
  so : SO K H S
end
end VL
/-! VL2: readings at the value level: expressions, tests, arguments, operators. -/
namespace VL
open PySem PySem.Spec PyProof.Rows L2
/-- from (S, H) to (S', H'): what never changes stays, and so does all that S does not tell of -/
structure Go (S : Sto) (H : Hp) (S' : Sto) (H' : Hp) : Prop where
  tl : TL H H'
  fr : ∀ a o, H a = some o → S a = none → S' a = none ∧ H' a = some o
section
variable {K : PySem.W.Frag} {S S1 S2 T : Sto} {H H1 H2 : Hp}
theorem Go.refl (S : Sto) (H : Hp) : Go S H S H := ⟨TL.refl H, fun _ _ h n => ⟨n, h⟩⟩
theorem Go.trans (a : Go S H S1 H1) (b : Go S1 H1 S2 H2) : Go S H S2 H2 :=
  ⟨a.tl.trans b.tl, fun x o h n => let ⟨n1, h1⟩ := a.fr x o h n; b.fr x o h1 n1⟩
/-- fewer facts behind -/
theorem Go.le (a : Go S H S1 H1) (l : Le T S1) : Go S H T H1 := ⟨a.tl, fun x o h n => let ⟨n1, h1⟩ := a.fr x o h n; ⟨l.nope n1, h1⟩⟩
/-- fewer facts ahead -/
theorem Go.le0 (a : Go T H S1 H1) (l : Le T S) : Go S H S1 H1 := ⟨a.tl, fun x o h n => a.fr x o h (l.nope n)⟩
theorem Go.new {p : Addr} {o : MO} {u : HO} (e : H p = none) : Go S H (put S p o) (upd H p u) :=
  ⟨TL.new e, fun x ob h n => by have hx := ne_of_none h e; rw [put_ne hx, upd_ne hx]; exact ⟨n, h⟩⟩
theorem Go.new' {p : Addr} {u : HO} (e : H p = none) : Go S H S (upd H p u) :=
  ⟨TL.new e, fun x ob h n => by have hx := ne_of_none h e; rw [upd_ne hx]; exact ⟨n, h⟩⟩
theorem Go.mut {p : Addr} {o w : MO} {u hu : HO} (hs : S p = some w) (e : H p = some hu) (m : IsMut hu) : Go S H (put S p o) (upd H p u) :=
  ⟨TL.mut e m, fun x ob h n => by
    have hx : x ≠ p := by rintro rfl; rw [n] at hs; cases hs
    rw [put_ne hx, upd_ne hx]; exact ⟨n, h⟩⟩
end
/-- where a def (or a try's body) began -/
structure Ent where
  S : Sto
  H : Hp
/-- the store as told of the heap, reached from the entry -/
structure SQ (K : PySem.W.Frag) (en : Ent) (H : Hp) (S : Sto) : Prop where
  so : SO K H S
  en : Go en.S en.H S H
section
variable {K : PySem.W.Frag} {en : Ent} {H H' : Hp} {S S' T : Sto}
theorem SQ.go (q : SQ K en H S) (g : Go S H S' H') (o : SO K H' S') : SQ K en H' S' := ⟨o, q.en.trans g⟩
theorem SQ.le (q : SQ K en H S) (l : Le T S) : SQ K en H T := ⟨q.so.le l, q.en.le l⟩
theorem SQ.nope (q : SQ K en H S) {a : Addr} (e : H a = none) : S a = none := q.so.nope e
end
abbrev KE := D → Sto → Prop
abbrev RE := VS → Sto → KE → Prop
abbrev RT := VS → Sto → (Bool → Sto → Prop) → Prop
abbrev RA := VS → Sto → (List D → Sto → Prop) → Prop
/-- an exception: its class, its value, the store -/
abbrev XC := Value → D → Sto → Prop
/-- slots -/
def sl : VS → Nat → Option D
  | [], _ => none
  | x :: _, 0 => x
  | _ :: r, i + 1 => sl r i
theorem sl_get : ∀ {τ : VS} {i : Nat} {d : D}, sl τ i = some d → τ[i]? = some (some d)
  | [], _, _, h => by simp [sl] at h
  | x :: _, 0, _, h => by simp only [sl] at h; subst h; rfl
  | _ :: r, i + 1, d, h => by simp only [sl] at h; simpa using sl_get h
/-- what follows at the heap's level, from what follows at the value level -/
def lowE (K : PySem.W.Frag) (en : Ent) (t : RE) : TE := fun σ H Q => ∃ τ S Q0, SR K H τ σ ∧ SQ K en H S ∧ t τ S Q0 ∧ ∀ d S' v H', Q0 d S' → Go S H S' H' → Rp K H' d v → SQ K en H' S' → Q v H'
def lowT (K : PySem.W.Frag) (en : Ent) (t : RT) : TT := fun σ H Q => ∃ τ S Q0, SR K H τ σ ∧ SQ K en H S ∧ t τ S Q0 ∧ ∀ b S' H', Q0 b S' → Go S H S' H' → SQ K en H' S' → Q b H'
def tAs (ts : List TE) : TA := match ts with
  | [] => tNil
  | t :: r => tCons t (tAs r)
def VE (X : Cx) (en : Ent) (e : Expr) (t : RE) : Prop := PE X e (lowE X.K en t)
def VT (X : Cx) (en : Ent) (e : Expr) (t : RT) : Prop := PT X e (lowT X.K en t)
def VW (X : Cx) (en : Ent) (e : Expr) (t : RT) : Prop := PW X e (lowT X.K en t)
def VA (X : Cx) (en : Ent) (es : List Expr) (ts : List RE) : Prop := PA X es (tAs (ts.map (lowE X.K en))) ∧ ts.length = es.length
section
variable {X : Cx} {en : Ent}
theorem PE.imp {e : Expr} {t1 t2 : TE} (p : PE X e t1) (h : ∀ σ H Q, t2 σ H Q → t1 σ H Q) : PE X e t2 := ⟨fun pins s σ H Q I q => p.run pins s σ H Q I (h σ H Q q)⟩
theorem PT.imp {e : Expr} {t1 t2 : TT} (p : PT X e t1) (h : ∀ σ H Q, t2 σ H Q → t1 σ H Q) : PT X e t2 := ⟨fun pins s σ H Q I q => p.run pins s σ H Q I (h σ H Q q)⟩
theorem PW.imp {e : Expr} {t1 t2 : TT} (p : PW X e t1) (h : ∀ σ H Q, t2 σ H Q → t1 σ H Q) : PW X e t2 := ⟨fun wh pins s σ H Q I q => p.run wh pins s σ H Q I (h σ H Q q)⟩
theorem PS.imp {st : Stmt} {t1 t2 : TS} (p : PS X st t1) (h : ∀ D σ H, t2 D σ H → t1 D σ H) : PS X st t2 := ⟨fun pins s σ H D I q => p.run pins s σ H D I (h D σ H q)⟩
theorem PSs.imp {st : List Stmt} {t1 t2 : TS} (p : PSs X st t1) (h : ∀ D σ H, t2 D σ H → t1 D σ H) : PSs X st t2 := ⟨fun pins s σ H D I q => p.run pins s σ H D I (h D σ H q)⟩
/-! ### names, constants -/
def eVar (i : Nat) : RE := fun τ S Q => match sl τ i with
  | some d => Q d S
  | none => False
def eC (d : D) : RE := fun _ S Q => Q d S
theorem low_var {i : Nat} {σ : L2.St} {H : Hp} {Q : VK} (h : lowE X.K en (eVar i) σ H Q) : tVar i σ H Q := by
  obtain ⟨τ, S, Q0, hs, ho, h, k⟩ := h
  unfold eVar at h
  cases e : sl τ i with
  | none => rw [e] at h; exact h.elim
  | some d =>
    rw [e] at h
    obtain ⟨v, a, b⟩ := hs.2 i d (sl_get e)
    exact ⟨v, a, k d S v H h (Go.refl S H) b ho⟩
theorem ve_var (i : Nat) {x : Str} {pos : Pos} (hN : X.N[i]? = some x := by rfl) (hv : Vis X.env.scope x := by first | exact Or.inl rfl | exact Or.inr (Or.inl rfl) | exact Or.inr (Or.inr rfl)) (hd : (x == ("__debug__" : Str)) = false := by decide)
    (hcd : (x == ("__classdict__" : Str)) = false := by decide) : VE X en (.Name x pos) (eVar i) := PE.imp (pe_var hN hv hd hcd) fun _ _ _ h => low_var h
theorem low_c {d : D} {v : V} (r : ∀ K H, Rp K H d v) {σ : L2.St} {H : Hp} {Q : VK} (h : lowE X.K en (eC d) σ H Q) : tC v σ H Q := by
  obtain ⟨τ, S, Q0, hs, ho, h, k⟩ := h
  exact k d S v H h (Go.refl S H) (r _ _) ho
theorem ve_int {i j pos} : VE X en (.Constant (.int i) j pos) (eC (.int i)) := PE.imp pe_int fun _ _ _ h => low_c (fun _ _ => by simp only [Rp]) h
theorem ve_bl {b j pos} : VE X en (.Constant (.bool b) j pos) (eC (.bl b)) := PE.imp pe_bl fun _ _ _ h => low_c (fun _ _ => by simp only [Rp]) h
theorem ve_non {j pos} : VE X en (.Constant .none j pos) (eC .non) := PE.imp pe_non fun _ _ _ h => low_c (fun _ _ => by simp only [Rp]) h
theorem ve_str {x j pos} : VE X en (.Constant (.str x) j pos) (eC (.str x)) := PE.imp pe_str fun _ _ _ h => low_c (fun _ _ => by simp only [Rp]) h
theorem ve_globR {x : Str} {a : Addr} {pos : Pos} (hg : Gl X x) (hm : X.mg x = some (.ref a)) (hd : (x == ("__debug__" : Str)) = false := by decide) : VE X en (.Name x pos) (eC (.ref a)) :=
  PE.imp (pe_glob hg hm (v := .ref a) rfl hd) fun _ _ _ h => low_c (fun _ _ => by simp only [Rp]) h
theorem ve_bltn {x : Str} {v : V} {u : Value} {pos : Pos} (hg : Gl X x) (hm : X.mg x = none) (hv : bootBuiltins x = some u) (r : RelV v u) (hn : x ≠ "__name__" := by decide) (hd : (x == ("__debug__" : Str)) = false := by decide) : VE X en (.Name x pos) (eC (.oth v)) :=
  PE.imp (pe_bltn hg hm hv r hn hd) fun _ _ _ h => low_c (fun _ _ => by simp only [Rp]) h
/-! ### operators by values -/
/-- r, told at the value level by f -/
def OpV (K : PySem.W.Frag) (f : D → D → Sto → KE → Prop) (r : R2) : Prop := ∀ (H : Hp) (S : Sto) (x y : D) (u v : V) (Q : KE) (R : VK), SO K H S → Rp K H x u → Rp K H y v → f x y S Q →
  (∀ d S' z H', Q d S' → Go S H S' H' → Rp K H' d z → SO K H' S' → R z H') → r u v H R
def UnV (K : PySem.W.Frag) (f : D → Sto → KE → Prop) (r : V → Hp → VK → Prop) : Prop := ∀ (H : Hp) (S : Sto) (x : D) (u : V) (Q : KE) (R : VK), SO K H S → Rp K H x u → f x S Q →
  (∀ d S' z H', Q d S' → Go S H S' H' → Rp K H' d z → SO K H' S' → R z H') → r u H R
def eBin (f : D → D → Sto → KE → Prop) (a b : RE) : RE := fun τ S Q => a τ S fun x S1 => b τ S1 fun y S2 => f x y S2 Q
def eUn (f : D → Sto → KE → Prop) (a : RE) : RE := fun τ S Q => a τ S fun x S1 => f x S1 Q
theorem low_bin {f : D → D → Sto → KE → Prop} {r : R2} (hf : OpV X.K f r) {a b : RE} {σ : L2.St} {H : Hp} {Q : VK} (h : lowE X.K en (eBin f a b) σ H Q) : tOp r (lowE X.K en a) (lowE X.K en b) σ H Q := by
  obtain ⟨τ, S, Q0, hs, ho, h, k⟩ := h
  refine ⟨τ, S, _, hs, ho, h, fun x S1 u H1 h1 g1 r1 o1 => ?_⟩
  refine ⟨τ, S1, _, hs.mono g1.tl, o1, h1, fun y S2 v H2 h2 g2 r2 o2 => ?_⟩
  exact hf H2 S2 x y u v Q0 Q o2.so (Rp.mono g2.tl _ _ r1) r2 h2 fun d S' z H' q g r o => k d S' z H' q ((g1.trans g2).trans g) r (o2.go g o)
theorem ve_op {op : Operator} {f : D → D → Sto → KE → Prop} {r : R2} {a b : Expr} {ta tb : RE} {pos : Pos} (ho : OpR X (binaryOp op) r) (hf : OpV X.K f r) (ha : VE X en a ta) (hb : VE X en b tb) : VE X en (.BinOp a op b pos) (eBin f ta tb) :=
  PE.imp (pe_op ho ha hb) fun _ _ _ h => low_bin hf h
theorem ve_cmp {op : CmpOp} {f : D → D → Sto → KE → Prop} {r : R2} {a b : Expr} {ta tb : RE} {pos : Pos} (ho : OpR X (compareOp op) r) (hf : OpV X.K f r) (ha : VE X en a ta) (hb : VE X en b tb) (hm : behindInMarks op b = false := by first | exact nomark _ | rfl) : VE X en (.Compare a [op] [b] pos) (eBin f ta tb) :=
  PE.imp (pe_cmpR ho ha hb hm) fun _ _ _ h => low_bin hf h
theorem ve_un {op : UnaryOp} {f : D → Sto → KE → Prop} {r : V → Hp → VK → Prop} {a : Expr} {ta : RE} {pos : Pos} (ho : UnR X (unaryOp op) r) (hf : UnV X.K f r) (ha : VE X en a ta) : VE X en (.UnaryOp op a pos) (eUn f ta) :=
  PE.imp (pe_un ho ha) fun σ H Q h => by
    obtain ⟨τ, S, Q0, hs, ho, h, k⟩ := h
    refine ⟨τ, S, _, hs, ho, h, fun x S1 u H1 h1 g1 r1 o1 => ?_⟩
    exact hf H1 S1 x u Q0 Q o1.so r1 h1 fun d S' z H' q g r o => k d S' z H' q (g1.trans g) r (o1.go g o)
/-! ### arguments, displays -/
def eArgs : List RE → RA
  | [], _, S, Q => Q [] S
  | t :: r, τ, S, Q => t τ S fun x S1 => eArgs r τ S1 fun xs S2 => Q (x :: xs) S2
theorem args_ok {K : PySem.W.Frag} {en : Ent} {τ : VS} {σ : L2.St} : ∀ {ts : List RE} {S : Sto} {H : Hp} {Q : List D → Sto → Prop} {R : List V → Hp → Prop}, SR K H τ σ → SQ K en H S → eArgs ts τ S Q →
    (∀ ds S' vs H', Q ds S' → Go S H S' H' → Rps K H' ds vs → vs.length = ts.length → SQ K en H' S' → R vs H') → tAs (ts.map (lowE K en)) σ H R
  | [], S, H, Q, R, hs, ho, h, k => k [] S [] H h (Go.refl S H) Rps.nil rfl ho
  | t :: r, S, H, Q, R, hs, ho, h, k => by
    refine ⟨τ, S, _, hs, ho, h, fun x S1 u H1 h1 g1 r1 o1 => ?_⟩
    refine args_ok (hs.mono g1.tl) o1 h1 fun ds S' vs H' q g r hl o => ?_
    exact k (x :: ds) S' (u :: vs) H' q (g1.trans g) (Rps.cons (Rp.mono g.tl _ _ r1) r) (by rw [List.length_cons, hl, List.length_cons]) o
theorem va_nil : VA X en [] [] := ⟨pa_nil, rfl⟩
theorem va_cons {e : Expr} {es : List Expr} {t : RE} {ts : List RE} (he : VE X en e t) (hr : VA X en es ts) (hs : starEach (e :: es) X.env = (false, eval e X.env) :: starEach es X.env := by rfl) : VA X en (e :: es) (t :: ts) :=
  ⟨pa_cons he hr.1 hs, by rw [List.length_cons, hr.2, List.length_cons]⟩
def eTup (ts : List RE) : RE := fun τ S Q => eArgs ts τ S fun xs S1 => Q (.tup xs) S1
def eLst (ts : List RE) : RE := fun τ S Q => eArgs ts τ S fun xs S1 => ∀ p, S1 p = none → Q (.ref p) (put S1 p (.lst xs))
theorem ve_tup {es : List Expr} {ts : List RE} {k : Nat} {pos : Pos} (h : VA X en es ts) (hl : es.length ≤ 100000 := by decide) : VE X en (.Tuple es k pos) (eTup ts) :=
  PE.imp (pe_tup h.1) fun σ H Q q => by
    obtain ⟨τ, S, Q0, hs, ho, q, k⟩ := q
    refine args_ok hs ho q fun ds S' vs H' q g r hz o => ?_
    have hz' : vs.length ≤ sizeLine := Nat.le_trans (by rw [hz, h.2]; exact hl) (by decide)
    refine ⟨hz', fun p hp => ?_⟩
    exact k _ _ _ _ q (g.trans (Go.new' hp)) (by simp only [Rp]; exact ⟨p, vs, rfl, upd_same, hz', Rps.mono (TL.new hp) _ _ r⟩) (o.go (Go.new' hp) (o.so.new' hp))
theorem ve_lst {es : List Expr} {ts : List RE} {pos : Pos} (h : VA X en es ts) (hl : es.length ≤ 100000 := by decide) : VE X en (.List es pos) (eLst ts) :=
  PE.imp (pe_lst h.1) fun σ H Q q => by
    obtain ⟨τ, S, Q0, hs, ho, q, k⟩ := q
    refine args_ok hs ho q fun ds S' vs H' q g r hz o => ?_
    have hz' : vs.length ≤ sizeLine := Nat.le_trans (by rw [hz, h.2]; exact hl) (by decide)
    refine ⟨hz', fun p hp => ?_⟩
    exact k _ _ _ _ (q p (o.nope hp)) (g.trans (Go.new hp)) (by simp only [Rp]) (o.go (Go.new hp) (o.so.new hp ⟨vs, rfl, hz', Rps.mono (TL.new hp) _ _ r⟩))
/-! ### calls of built-ins by values -/
def CaV (K : PySem.W.Frag) (f : List D → Sto → KE → Prop) (r : List V → Hp → VK → Prop) : Prop := ∀ (H : Hp) (S : Sto) (xs : List D) (us : List V) (Q : KE) (R : VK), SO K H S → Rps K H xs us → f xs S Q →
  (∀ d S' z H', Q d S' → Go S H S' H' → Rp K H' d z → SO K H' S' → R z H') → r us H R
def eCB (f : List D → Sto → KE → Prop) (ts : List RE) : RE := fun τ S Q => eArgs ts τ S fun xs S1 => f xs S1 Q
theorem low_cb {f : List D → Sto → KE → Prop} {r : List V → Hp → VK → Prop} (hf : CaV X.K f r) {ts : List RE} {σ : L2.St} {H : Hp} {Q : VK} (h : lowE X.K en (eCB f ts) σ H Q) : tCB r (tAs (ts.map (lowE X.K en))) σ H Q := by
  obtain ⟨τ, S, Q0, hs, ho, h, k⟩ := h
  refine args_ok hs ho h fun ds S' vs H' q g r hz o => ?_
  exact hf H' S' ds vs Q0 Q o.so r q fun d S2 z H2 q2 g2 r2 o2 => k d S2 z H2 q2 (g.trans g2) r2 (o.go g2 o2)
theorem ve_callB {x : Str} {id : String} {f : List D → Sto → KE → Prop} {r : List V → Hp → VK → Prop} {e : Expr} {es : List Expr} {ts : List RE} {p pos : Pos} (hc : CallR X (.builtin id) r) (hf : CaV X.K f r) (hg : Gl X x) (hm : X.mg x = none) (hv : bootBuiltins x = some (.builtin id)) (ha : VA X en (e :: es) ts) (hn : x ≠ "__name__" := by decide) (hdb : (x == ("__debug__" : Str)) = false := by decide)
    (he : starEach (e :: es) X.env = (false, eval e X.env) :: starEach es X.env := by rfl) (hpl : (backTo pos (starEach es X.env)).any (·.1) = false := by rfl) :
    VE X en (.Call (.Name x p) (e :: es) [] pos) (eCB f ts) := PE.imp (pe_callB hc hg hm hv ha.1 hn hdb he hpl) fun _ _ _ h => low_cb hf h
theorem ve_callTy {x : Str} {T : String} {f : List D → Sto → KE → Prop} {r : List V → Hp → VK → Prop} {e : Expr} {es : List Expr} {ts : List RE} {p pos : Pos} (hc : CallR X (.type T) r) (hf : CaV X.K f r) (hg : Gl X x) (hm : X.mg x = none) (hv : bootBuiltins x = some (.type T)) (ha : VA X en (e :: es) ts) (hn : x ≠ "__name__" := by decide) (hdb : (x == ("__debug__" : Str)) = false := by decide)
    (he : starEach (e :: es) X.env = (false, eval e X.env) :: starEach es X.env := by rfl) (hpl : (backTo pos (starEach es X.env)).any (·.1) = false := by rfl) :
    VE X en (.Call (.Name x p) (e :: es) [] pos) (eCB f ts) := PE.imp (pe_callTy hc hg hm hv ha.1 hn hdb he hpl) fun _ _ _ h => low_cb hf h
/-! ### tests -/
def tVal (e : RE) : RT := fun τ S Q => e τ S fun d S1 => match d with
  | .bl b => Q b S1
  | _ => False
def tNot (t : RT) : RT := fun τ S Q => t τ S fun b S1 => Q (!b) S1
def tAnd (t u : RT) : RT := fun τ S Q => t τ S fun b S1 => if b = true then u τ S1 Q else Q false S1
def tOr (t u : RT) : RT := fun τ S Q => t τ S fun b S1 => if b = true then Q true S1 else u τ S1 Q
theorem vt_val {e : Expr} {t : RE} (h : VE X en e t) (he : ∀ whole, isTrue e X.env whole = (do let v ← whole; standAt e.pos; holding [v] (truthy v)) := by intro _; rfl) : VT X en e (tVal t) :=
  PT.imp (pt_val h he) fun σ H Q q => by
    obtain ⟨τ, S, Q0, hs, ho, q, k⟩ := q
    refine ⟨τ, S, _, hs, ho, q, fun d S' v H' q' g r o => ?_⟩
    cases d with
    | bl b =>
      simp only [Rp] at r
      exact ⟨b, r, k b S' H' q' g o⟩
    | _ => exact q'.elim
theorem vt_cmp {op : CmpOp} {f : D → D → Sto → KE → Prop} {r : R2} {a b : Expr} {ta tb : RE} {pos : Pos} (ho : OpR X (compareOp op) r) (hf : OpV X.K f r) (ha : VE X en a ta) (hb : VE X en b tb) (hm : behindInMarks op b = false := by first | exact nomark _ | rfl) : VT X en (.Compare a [op] [b] pos) (tVal (eBin f ta tb)) :=
  PT.imp (pt_cmpR ho ha hb hm) fun σ H Q q => by
    obtain ⟨τ, S, Q0, hs, ho, q, k⟩ := q
    refine low_bin hf ⟨τ, S, _, hs, ho, q, fun d S' v H' q' g r o => ?_⟩
    cases d with
    | bl b =>
      simp only [Rp] at r
      exact ⟨b, r, k b S' H' q' g o⟩
    | _ => exact q'.elim
theorem vt_not {e : Expr} {t : RT} {pos : Pos} (h : VT X en e t) : VT X en (.UnaryOp .Not e pos) (tNot t) :=
  PT.imp (pt_not h) fun σ H Q q => by
    obtain ⟨τ, S, Q0, hs, ho, q, k⟩ := q
    exact ⟨τ, S, _, hs, ho, q, fun b S' H' q' g o => k _ _ _ q' g o⟩
theorem vw_and1 {a : Expr} {t : RT} {pos : Pos} (h : VT X en a t) : VW X en (.BoolOp .And [a] pos) t := pw_and1 h
theorem vw_or1 {a : Expr} {t : RT} {pos : Pos} (h : VT X en a t) : VW X en (.BoolOp .Or [a] pos) t := pw_or1 h
theorem vw_and {a b : Expr} {rest : List Expr} {t u : RT} {pos : Pos} (h : VT X en a t) (h2 : VW X en (.BoolOp .And (b :: rest) pos) u) : VW X en (.BoolOp .And (a :: b :: rest) pos) (tAnd t u) :=
  PW.imp (pw_and h h2) fun σ H Q q => by
    obtain ⟨τ, S, Q0, hs, ho, q, k⟩ := q
    refine ⟨τ, S, _, hs, ho, q, fun b S' H' q' g o => ?_⟩
    cases b with
    | true =>
      rw [if_pos rfl] at q' ⊢
      exact ⟨τ, S', Q0, hs.mono g.tl, o, q', fun b S2 H2 q2 g2 o2 => k b S2 H2 q2 (g.trans g2) o2⟩
    | false =>
      rw [if_neg Bool.false_ne_true] at q' ⊢
      exact k _ _ _ q' g o
theorem vw_or {a b : Expr} {rest : List Expr} {t u : RT} {pos : Pos} (h : VT X en a t) (h2 : VW X en (.BoolOp .Or (b :: rest) pos) u) : VW X en (.BoolOp .Or (a :: b :: rest) pos) (tOr t u) :=
  PW.imp (pw_or h h2) fun σ H Q q => by
    obtain ⟨τ, S, Q0, hs, ho, q, k⟩ := q
    refine ⟨τ, S, _, hs, ho, q, fun b S' H' q' g o => ?_⟩
    cases b with
    | true =>
      rw [if_pos rfl] at q' ⊢
      exact k _ _ _ q' g o
    | false =>
      rw [if_neg Bool.false_ne_true] at q' ⊢
      exact ⟨τ, S', Q0, hs.mono g.tl, o, q', fun b S2 H2 q2 g2 o2 => k b S2 H2 q2 (g.trans g2) o2⟩
theorem vt_bool {e : Expr} {t : RT} (h : VW X en e t) : VT X en e t := PW.pt h
/-- and, or, not as values (bools) -/
def eAnd (a b : RE) : RE := fun τ S Q => a τ S fun d S1 => match d with
  | .bl c => if c = true then b τ S1 Q else Q (.bl false) S1
  | _ => False
def eOr (a b : RE) : RE := fun τ S Q => a τ S fun d S1 => match d with
  | .bl c => if c = true then Q (.bl true) S1 else b τ S1 Q
  | _ => False
def eNot (a : RE) : RE := fun τ S Q => a τ S fun d S1 => match d with
  | .bl c => Q (.bl (!c)) S1
  | _ => False
theorem ve_one {op} {a : Expr} {t : RE} {pos : Pos} (h : VE X en a t) : VE X en (.BoolOp op [a] pos) t := pe_one h
theorem ve_and {a b : Expr} {rest : List Expr} {ta tb : RE} {pos : Pos} (ha : VE X en a ta) (hb : VE X en (.BoolOp .And (b :: rest) pos) tb) : VE X en (.BoolOp .And (a :: b :: rest) pos) (eAnd ta tb) :=
  PE.imp (pe_and ha hb) fun σ H Q q => by
    obtain ⟨τ, S, Q0, hs, ho, q, k⟩ := q
    refine ⟨τ, S, _, hs, ho, q, fun d S' v H' q' g r o => ?_⟩
    cases d with
    | bl b =>
      simp only [Rp] at r
      refine ⟨b, r, ?_⟩
      cases b with
      | true =>
        simp only [if_true] at q' ⊢
        exact ⟨τ, S', Q0, hs.mono g.tl, o, q', fun d S2 v2 H2 q2 g2 r2 o2 => k d S2 v2 H2 q2 (g.trans g2) r2 o2⟩
      | false =>
        simp only [Bool.false_eq_true, if_false] at q' ⊢
        exact k _ _ _ _ q' g (by simp only [Rp]) o
    | _ => exact q'.elim
theorem ve_or {a b : Expr} {rest : List Expr} {ta tb : RE} {pos : Pos} (ha : VE X en a ta) (hb : VE X en (.BoolOp .Or (b :: rest) pos) tb) : VE X en (.BoolOp .Or (a :: b :: rest) pos) (eOr ta tb) :=
  PE.imp (pe_or ha hb) fun σ H Q q => by
    obtain ⟨τ, S, Q0, hs, ho, q, k⟩ := q
    refine ⟨τ, S, _, hs, ho, q, fun d S' v H' q' g r o => ?_⟩
    cases d with
    | bl b =>
      simp only [Rp] at r
      refine ⟨b, r, ?_⟩
      cases b with
      | true =>
        simp only [if_true] at q' ⊢
        exact k _ _ _ _ q' g (by simp only [Rp]) o
      | false =>
        simp only [Bool.false_eq_true, if_false] at q' ⊢
        exact ⟨τ, S', Q0, hs.mono g.tl, o, q', fun d S2 v2 H2 q2 g2 r2 o2 => k d S2 v2 H2 q2 (g.trans g2) r2 o2⟩
    | _ => exact q'.elim
theorem ve_not {a : Expr} {t : RE} {pos : Pos} (h : VE X en a t) : VE X en (.UnaryOp .Not a pos) (eNot t) :=
  PE.imp (pe_not h) fun σ H Q q => by
    obtain ⟨τ, S, Q0, hs, ho, q, k⟩ := q
    refine ⟨τ, S, _, hs, ho, q, fun d S' v H' q' g r o => ?_⟩
    cases d with
    | bl b =>
      simp only [Rp] at r
      exact ⟨b, r, k _ _ _ _ q' g (by simp only [Rp]) o⟩
    | _ => exact q'.elim
def eIf (t : RT) (a b : RE) : RE := fun τ S Q => t τ S fun c S1 => if c = true then a τ S1 Q else b τ S1 Q
theorem ve_if {c a b : Expr} {t : RT} {ta tb : RE} {pos : Pos} (hc : VT X en c t) (ha : VE X en a ta) (hb : VE X en b tb) : VE X en (.IfExp c a b pos) (eIf t ta tb) :=
  PE.imp (pe_ifExp hc ha hb) fun σ H Q q => by
    obtain ⟨τ, S, Q0, hs, ho, q, k⟩ := q
    refine ⟨τ, S, _, hs, ho, q, fun b S' H' q' g o => ?_⟩
    cases b with
    | true =>
      simp only [if_true] at q' ⊢
      exact ⟨τ, S', Q0, hs.mono g.tl, o, q', fun d S2 v2 H2 q2 g2 r2 o2 => k d S2 v2 H2 q2 (g.trans g2) r2 o2⟩
    | false =>
      simp only [Bool.false_eq_true, if_false] at q' ⊢
      exact ⟨τ, S', Q0, hs.mono g.tl, o, q', fun d S2 v2 H2 q2 g2 r2 o2 => k d S2 v2 H2 q2 (g.trans g2) r2 o2⟩
end
end VL
/-! VL3: statements, targets, loops, comprehensions, calls of defs, the rule for a def. -/
namespace VL
open PySem PySem.Spec PyProof.Rows L2
structure En where
  nx : VS → Sto → Prop
  rt : D → Sto → Prop
  bk : VS → Sto → Prop := fun _ _ => False
  ct : VS → Sto → Prop := fun _ _ => False
abbrev RS := En → VS → Sto → Prop
structure EnI (K : PySem.W.Frag) (en : Ent) (S : Sto) (H : Hp) (D0 : En) (D : Ends) : Prop where
  nx : ∀ τ S' σ H', D0.nx τ S' → Go S H S' H' → SR K H' τ σ → SQ K en H' S' → D.nx σ H'
  rt : ∀ d S' v H', D0.rt d S' → Go S H S' H' → Rp K H' d v → SQ K en H' S' → D.rt v H'
  bk : ∀ τ S' σ H', D0.bk τ S' → Go S H S' H' → SR K H' τ σ → SQ K en H' S' → D.bk σ H'
  ct : ∀ τ S' σ H', D0.ct τ S' → Go S H S' H' → SR K H' τ σ → SQ K en H' S' → D.ct σ H'
section
variable {K : PySem.W.Frag} {en : Ent} {S S1 : Sto} {H H1 : Hp} {D0 : En} {D : Ends}
theorem EnI.go (e : EnI K en S H D0 D) (g : Go S H S1 H1) : EnI K en S1 H1 D0 D :=
  ⟨fun τ S' σ H' q g' r o => e.nx τ S' σ H' q (g.trans g') r o, fun d S' v H' q g' r o => e.rt d S' v H' q (g.trans g') r o,
   fun τ S' σ H' q g' r o => e.bk τ S' σ H' q (g.trans g') r o, fun τ S' σ H' q g' r o => e.ct τ S' σ H' q (g.trans g') r o⟩
end
def lowS (K : PySem.W.Frag) (en : Ent) (t : RS) : TS := fun D σ H => ∃ τ S D0, SR K H τ σ ∧ SQ K en H S ∧ t D0 τ S ∧ EnI K en S H D0 D
def VSt (X : Cx) (en : Ent) (st : Stmt) (t : RS) : Prop := PS X st (lowS X.K en t)
def VSs (X : Cx) (en : Ent) (st : List Stmt) (t : RS) : Prop := PSs X st (lowS X.K en t)
/-! ### targets -/
abbrev RG := D → VS → Sto → (VS → Sto → Prop) → Prop
def lowG (K : PySem.W.Frag) (en : Ent) (t : RG) : TG := fun v σ H Q => ∃ d τ S Q0, Rp K H d v ∧ SR K H τ σ ∧ SQ K en H S ∧ t d τ S Q0 ∧ ∀ τ' S' σ' H', Q0 τ' S' → Go S H S' H' → SR K H' τ' σ' → SQ K en H' S' → Q σ' H'
def VG (X : Cx) (en : Ent) (tg : Expr) (t : RG) : Prop := PG X tg (lowG X.K en t)
def tGs (K : PySem.W.Frag) (en : Ent) (gs : List RG) : TGs := match gs with
  | [] => gNil
  | g :: r => gCons (lowG K en g) (tGs K en r)
def VGs (X : Cx) (en : Ent) (ts : List Expr) (gs : List RG) : Prop := PGs X ts (tGs X.K en gs) ∧ gs.length = ts.length
section
variable {X : Cx} {en : Ent}
theorem PG.imp {e : Expr} {t1 t2 : TG} (p : PG X e t1) (h : ∀ v σ H Q, t2 v σ H Q → t1 v σ H Q) : PG X e t2 := ⟨fun pins s σ H v u Q I r q => p.run pins s σ H v u Q I r (h v σ H Q q)⟩
def gName (i : Nat) : RG := fun d τ S Q => Q (τ.set i (some d)) S
theorem vg_name {i : Nat} {x : Str} {pos : Pos} (hN : X.N.Nodup) (hi : X.N[i]? = some x) (hx : Loc X.env.scope x) (hf : X.fn x = true ∨ X.env.scope.names.lookup x = some .local := by first | exact .inl rfl | exact .inr rfl | assumption) : VG X en (.Name x pos) (gName i) :=
  PG.imp (pg_name hN hi hx hf) fun v σ H Q h => by
    obtain ⟨d, τ, S, Q0, r, hs, ho, q, k⟩ := h
    exact k _ _ _ _ q (Go.refl S H) (hs.set r i) ho
def gAll : List RG → List D → VS → Sto → (VS → Sto → Prop) → Prop
  | [], [], τ, S, Q => Q τ S
  | g :: gs, x :: xs, τ, S, Q => g x τ S fun τ1 S1 => gAll gs xs τ1 S1 Q
  | _, _, _, _, _ => False
def gTup (gs : List RG) : RG := fun d τ S Q => match d with
  | .tup xs => gAll gs xs τ S Q
  | .ref a => ∃ xs, (S a = some (.lst xs) ∨ S a = some (.rol xs)) ∧ gAll gs xs τ S Q
  | _ => False
theorem vgs_nil : VGs X en [] [] := ⟨pgs_nil, rfl⟩
theorem vgs_cons {e : Expr} {es : List Expr} {g : RG} {gs : List RG} (h1 : VG X en e g) (h2 : VGs X en es gs) (hs : (assignEach (e :: es) X.env).map (·.2) = assign e X.env :: (assignEach es X.env).map (·.2) := by rfl) : VGs X en (e :: es) (g :: gs) := ⟨pgs_cons h1 h2.1 hs, by rw [List.length_cons, List.length_cons, h2.2]⟩
theorem gs_ok {K : PySem.W.Frag} {en : Ent} : ∀ {gs : List RG} {xs : List D} {vs : List V} {τ : VS} {S : Sto} {σ : L2.St} {H : Hp} {Q : VS → Sto → Prop} {R : L2.St → Hp → Prop}, Rps K H xs vs → SR K H τ σ → SQ K en H S → gAll gs xs τ S Q →
    (∀ τ' S' σ' H', Q τ' S' → Go S H S' H' → SR K H' τ' σ' → SQ K en H' S' → R σ' H') → tGs K en gs vs σ H R
  | [], [], vs, τ, S, σ, H, Q, R, r, hs, ho, h, k => by
    simp only [Rps] at r
    exact ⟨r, k _ _ _ _ h (Go.refl S H) hs ho⟩
  | g :: gs, x :: xs, vs, τ, S, σ, H, Q, R, r, hs, ho, h, k => by
    simp only [Rps] at r
    obtain ⟨v, w, rfl, r1, r2⟩ := r
    refine ⟨v, w, rfl, x, τ, S, _, r1, hs, ho, h, fun τ1 S1 σ1 H1 h1 g1 s1 o1 => ?_⟩
    exact gs_ok (Rps.mono g1.tl _ _ r2) s1 o1 h1 fun τ' S' σ' H' q g' s' o' => k _ _ _ _ q (g1.trans g') s' o'
  | [], _ :: _, _, _, _, _, _, _, _, _, _, _, h, _ => h.elim
  | _ :: _, [], _, _, _, _, _, _, _, _, _, _, h, _ => h.elim
/-- (a, b, ..) = a tuple -/
def gTupN (n : Nat) (gs : List RG) : RG := fun d τ S Q => match d with
  | .tup xs => xs.length = n ∧ gAll gs xs τ S Q
  | _ => False
theorem vg_tup {es : List Expr} {k : Nat} {pos : Pos} {gs : List RG} {n : Nat} (hc : X.calm = true) (h : VGs X en es gs) (hn : (assignEach es X.env).length = n := by rfl) (hst : (assignEach es X.env).findIdx? (·.1) = none := by rfl) : VG X en (.Tuple es k pos) (gTupN n gs) :=
  PG.imp (pg_tup (n := n) hc h.1 hn hst) fun v σ H Q h => by
    obtain ⟨d, τ, S, Q0, r, hs, ho, q, k⟩ := h
    cases d with
    | tup xs =>
      simp only [Rp] at r
      obtain ⟨a, vs, rfl, hq, hz, rs⟩ := r
      exact ⟨a, vs, rfl, SqT.of hq, by rw [← rs.length]; exact q.1, gs_ok rs hs ho q.2 k⟩
    | _ => exact q.elim
end
/-! ### plain statements -/
section
variable {X : Cx} {en : Ent}
def sNext : RS := fun D τ S => D.nx τ S
def sSeq (t u : RS) : RS := fun D τ S => t { D with nx := u D } τ S
theorem vss_nil : VSs X en [] sNext := PSs.imp pss_nil fun D σ H h => by
  obtain ⟨τ, S, D0, hs, ho, q, e⟩ := h
  exact e.nx _ _ _ _ q (Go.refl S H) hs ho
theorem vss_cons {st : Stmt} {rest : List Stmt} {t u : RS} (h1 : VSt X en st t) (h2 : VSs X en rest u) : VSs X en (st :: rest) (sSeq t u) := PSs.imp (pss_cons h1 h2) fun D σ H h => by
  obtain ⟨τ, S, D0, hs, ho, q, e⟩ := h
  refine ⟨τ, S, _, hs, ho, q, ⟨fun τ1 S1 σ1 H1 q1 g1 s1 o1 => ⟨τ1, S1, D0, s1, o1, q1, e.go g1⟩, e.rt, e.bk, e.ct⟩⟩
theorem vss_one {st : Stmt} {t : RS} (h1 : VSt X en st t) : VSs X en [st] t := pss_one h1
def sBreak : RS := fun D τ S => D.bk τ S
def sCont : RS := fun D τ S => D.ct τ S
theorem vs_pass {pos : Pos} : VSt X en (.Pass pos) sNext := PS.imp ps_pass fun D σ H h => by
  obtain ⟨τ, S, D0, hs, ho, q, e⟩ := h
  exact e.nx _ _ _ _ q (Go.refl S H) hs ho
theorem vs_break {pos : Pos} : VSt X en (.Break pos) sBreak := PS.imp ps_break fun D σ H h => by
  obtain ⟨τ, S, D0, hs, ho, q, e⟩ := h
  exact e.bk _ _ _ _ q (Go.refl S H) hs ho
theorem vs_continue {pos : Pos} : VSt X en (.Continue pos) sCont := PS.imp ps_continue fun D σ H h => by
  obtain ⟨τ, S, D0, hs, ho, q, e⟩ := h
  exact e.ct _ _ _ _ q (Go.refl S H) hs ho
def sDrop (te : RE) : RS := fun D τ S => te τ S fun _ S1 => D.nx τ S1
theorem vs_expr {e : Expr} {te : RE} {pos : Pos} (he : VE X en e te) (hs : swapsWith e none pos.line X.env = pure false := by rfl) : VSt X en (.Expr e pos) (sDrop te) := PS.imp (ps_expr he hs) fun D σ H h => by
  obtain ⟨τ, S, D0, hs, ho, q, e⟩ := h
  exact ⟨τ, S, _, hs, ho, q, fun d S' v H' q' g r o => e.nx _ _ _ _ q' g (hs.mono g.tl) o⟩
def sRet (te : RE) : RS := fun D τ S => te τ S D.rt
theorem vs_ret {e : Expr} {te : RE} {pos : Pos} (he : VE X en e te) : VSt X en (.Return (some e) pos) (sRet te) := PS.imp (ps_ret he) fun D σ H h => by
  obtain ⟨τ, S, D0, hs, ho, q, e⟩ := h
  exact ⟨τ, S, _, hs, ho, q, fun d S' v H' q' g r o => e.rt _ _ _ _ q' g r o⟩
def sRetN : RS := fun D τ S => D.rt .non S
theorem vs_retN {pos : Pos} : VSt X en (.Return none pos) sRetN := PS.imp ps_retN fun D σ H h => by
  obtain ⟨τ, S, D0, hs, ho, q, e⟩ := h
  exact e.rt _ _ _ _ q (Go.refl S H) (by simp only [Rp]) ho
def sIf (c : RT) (t u : RS) : RS := fun D τ S => c τ S fun b S1 => if b = true then t D τ S1 else u D τ S1
theorem vs_if {c : Expr} {a b : List Stmt} {tc : RT} {t u : RS} {pos : Pos} (hc : VT X en c tc) (ha : VSs X en a t) (hb : VSs X en b u) : VSt X en (.If c a b pos) (sIf tc t u) := PS.imp (ps_if hc ha hb) fun D σ H h => by
  obtain ⟨τ, S, D0, hs, ho, q, e⟩ := h
  refine ⟨τ, S, _, hs, ho, q, fun b S' H' q' g o => ?_⟩
  cases b with
  | true => simp only [if_true] at q' ⊢; exact ⟨τ, S', D0, hs.mono g.tl, o, q', e.go g⟩
  | false => simp only [Bool.false_eq_true, if_false] at q' ⊢; exact ⟨τ, S', D0, hs.mono g.tl, o, q', e.go g⟩
def sNever : RS := fun _ _ _ => False
theorem vs_never {st : Stmt} : VSt X en st sNever := PS.imp ps_never fun D σ H h => by
  obtain ⟨τ, S, D0, hs, ho, q, e⟩ := h
  exact q
theorem vss_never {st : List Stmt} : VSs X en st sNever := PSs.imp pss_never fun D σ H h => by
  obtain ⟨τ, S, D0, hs, ho, q, e⟩ := h
  exact q
/-- x = e -/
def sAsg (te : RE) (g : RG) : RS := fun D τ S => te τ S fun d S1 => g d τ S1 D.nx
theorem low_asg {te : RE} {g : RG} {D : Ends} {σ : L2.St} {H : Hp} (h : lowS X.K en (sAsg te g) D σ H) : tAsg (lowE X.K en te) (lowG X.K en g) D σ H := by
  obtain ⟨τ, S, D0, hs, ho, q, e⟩ := h
  exact ⟨τ, S, _, hs, ho, q, fun d S' v H' q' g r o => ⟨d, τ, S', _, r, hs.mono g.tl, o, q', fun τ2 S2 σ2 H2 q2 g2 s2 o2 => e.nx _ _ _ _ q2 (g.trans g2) s2 o2⟩⟩
theorem vs_asg {tg e : Expr} {te : RE} {g : RG} {pos : Pos} (he : VE X en e te) (hg : VG X en tg g) (hs : swapsWithSole [tg] e pos.line X.env = pure false := by rfl) (hw : swappedStores [tg] e X.env = pure none := by rfl) (h1 : (assignEach [tg] X.env).map (·.2) = [assign tg X.env] := by rfl) : VSt X en (.Assign [tg] e pos) (sAsg te g) :=
  PS.imp (ps_asg he hg hs hw h1) fun _ _ _ h => low_asg h
theorem vs_set {i : Nat} {x : Str} {e : Expr} {te : RE} {pos pos' : Pos} (hN : X.N.Nodup) (hi : X.N[i]? = some x) (hx : Loc X.env.scope x) (he : VE X en e te) (hs : swapsWith e (some (.Name x pos')) pos.line X.env = pure false := by rfl) (hf : X.fn x = true ∨ X.env.scope.names.lookup x = some .local := by first | exact .inl rfl | exact .inr rfl | assumption) :
    VSt X en (.Assign [.Name x pos'] e pos) (sAsg te (gName i)) := PS.imp (ps_set hN hi hx he hs hf) fun D σ H h => by
  obtain ⟨τ, S, D0, hs, ho, q, e⟩ := h
  exact ⟨τ, S, _, hs, ho, q, fun d S' v H' q' g r o => e.nx _ _ _ _ q' g ((hs.mono g.tl).set r i) o⟩
/-- a, b = x, y with plain local names -/
def sPar (i j : Nat) (ta tb : RE) : RS := fun D τ S => ta τ S fun x S1 => tb τ S1 fun y S2 => D.nx ((τ.set i (some x)).set j (some y)) S2
theorem vs_par {i j : Nat} {x y : Str} {a b : Expr} {ta tb : RE} {px py pt pos : Pos} {kt k2 : Nat} {pt2 : Pos} (hc : X.calm = true) (hN : X.N.Nodup) (hi : X.N[i]? = some x) (hj : X.N[j]? = some y) (hij : i ≠ j)
    (hx : X.env.scope.names.lookup x = some .local) (hy : X.env.scope.names.lookup y = some .local) (ha : VE X en a ta) (hb : VE X en b tb)
    (hw : swappedStores [.Tuple [.Name x px, .Name y py] kt pt] (.Tuple [a, b] k2 pt2) X.env = pure (some [x, y]))
    (hs : swapsWithSole [.Tuple [.Name x px, .Name y py] kt pt] (.Tuple [a, b] k2 pt2) pos.line X.env = pure false := by rfl)
    (hst : starEach [a, b] X.env = (false, eval a X.env) :: starEach [b] X.env := by rfl) (hst2 : starEach [b] X.env = (false, eval b X.env) :: starEach [] X.env := by rfl) :
    VSt X en (.Assign [.Tuple [.Name x px, .Name y py] kt pt] (.Tuple [a, b] k2 pt2) pos) (sPar i j ta tb) :=
  PS.imp (ps_par hc hN hi hj hij hx hy (va_cons ha (va_cons hb va_nil hst2) hst).1 hw hs) fun D σ H h => by
    obtain ⟨τ, S, D0, hs, ho, q, e⟩ := h
    refine ⟨τ, S, _, hs, ho, q, fun d S1 v H1 q1 g1 r1 o1 => ?_⟩
    refine ⟨τ, S1, _, hs.mono g1.tl, o1, q1, fun d2 S2 v2 H2 q2 g2 r2 o2 => ?_⟩
    exact ⟨v, v2, rfl, e.nx _ _ _ _ q2 (g1.trans g2) (((hs.mono (g1.trans g2).tl).set (Rp.mono g2.tl _ _ r1) i).set r2 j) o2⟩
/-- x op= e -/
def sAug (i : Nat) (te : RE) (f : D → D → Sto → KE → Prop) : RS := fun D τ S => match sl τ i with
  | some x => te τ S fun y S1 => f x y S1 fun z S2 => D.nx (τ.set i (some z)) S2
  | none => False
theorem vs_aug {i : Nat} {x : Str} {e : Expr} {te : RE} {op : Operator} {f : D → D → Sto → KE → Prop} {ti : TIp} {pos pos' : Pos} (hN : X.N.Nodup) (hi : X.N[i]? = some x) (hx : Loc X.env.scope x) (he : VE X en e te) (ho : PIp X op ti) (hf : OpV X.K f ti) (hfn : X.fn x = true ∨ X.env.scope.names.lookup x = some .local := by first | exact .inl rfl | exact .inr rfl | assumption) :
    VSt X en (.AugAssign (.Name x pos') op e pos) (sAug i te f) := PS.imp (ps_aug hN hi hx he ho hfn) fun D σ H h => by
  obtain ⟨τ, S, D0, hs, ho, q, e⟩ := h
  unfold sAug at q
  cases ex : sl τ i with
  | none => rw [ex] at q; exact q.elim
  | some d =>
    rw [ex] at q
    obtain ⟨v, a, b⟩ := hs.2 i d (sl_get ex)
    refine ⟨v, a, τ, S, _, hs, ho, q, fun y S1 u H1 q1 g1 r1 o1 => ?_⟩
    exact hf H1 S1 d y v u _ _ o1.so (Rp.mono g1.tl _ _ b) r1 q1 fun z S2 w H2 q2 g2 r2 o2 => e.nx _ _ _ _ q2 (g1.trans g2) ((hs.mono (g1.trans g2).tl).set r2 i) (o1.go g2 o2)
end
/-! ### what is walked -/
structure Wk where
  items : List D
  ok : Sto → Prop
abbrev RI := VS → Sto → (Wk → Sto → Prop) → Prop
structure WkJ (K : PySem.W.Frag) (wk : Wk) (J : It) (H0 : Hp) : Prop where
  len : wk.items.length ≤ sizeLine
  go : ∀ i H S, TL H0 H → SO K H S → wk.ok S → i < wk.items.length → J.go i H
  yld : ∀ i H S x H' d, TL H0 H → SO K H S → wk.ok S → wk.items[i]? = some d → J.yld i H x H' → Go S H S H' ∧ SO K H' S ∧ Rp K H' d x
  stop : ∀ i H S, TL H0 H → SO K H S → wk.ok S → wk.items.length ≤ i → J.stop i H
def lowI (K : PySem.W.Frag) (en : Ent) (t : RI) : TI := fun σ H R => ∃ τ S R0, SR K H τ σ ∧ SQ K en H S ∧ t τ S R0 ∧ ∀ wk S' J H', R0 wk S' → Go S H S' H' → SQ K en H' S' → WkJ K wk J H' → R J H'
def VI (X : Cx) (en : Ent) (tg iter : Expr) (t : RI) : Prop := PI X tg iter (lowI X.K en t)
section
variable {X : Cx} {en : Ent}
theorem PI.imp {tg e : Expr} {t1 t2 : TI} (p : PI X tg e t1) (h : ∀ σ H R, t2 σ H R → t1 σ H R) : PI X tg e t2 := ⟨fun pins s σ H R I q => p.run pins s σ H R I (h σ H R q)⟩
/-- the list at an address, to be read -/
def rdL (S : Sto) (a : Addr) (xs : List D) : Prop := S a = some (.lst xs) ∨ S a = some (.rol xs)
theorem rdL.sq {K : PySem.W.Frag} {H : Hp} {S : Sto} {a : Addr} {xs : List D} (h : rdL S a xs) (o : SO K H S) : ∃ vs, SqL K H a vs ∧ vs.length ≤ sizeLine ∧ Rps K H xs vs := by
  rcases h with h | h
  · obtain ⟨u, e, vs, rfl, z, r⟩ := o a _ h
    exact ⟨vs, SqL.of e, z, r⟩
  · obtain ⟨u, e, ob, vs, rfl, z, r⟩ := o a _ h
    exact ⟨vs, .inl (.inr ⟨ob, e⟩), z, r⟩
theorem rdL.le {S T : Sto} {a : Addr} {xs : List D} (h : rdL S a xs) (l : Le S T) : rdL T a xs := h.imp (l a _) (l a _)
/-- a tuple -/
def iTup (te : RE) : RI := fun τ S R => te τ S fun d S1 => match d with
  | .tup xs => R ⟨xs, fun _ => True⟩ S1
  | _ => False
theorem wk_tup {K : PySem.W.Frag} {H : Hp} {a : Addr} {vs : List V} {xs : List D} (h : SqT K H a vs) (z : vs.length ≤ sizeLine) (r : Rps K H xs vs) : WkJ K ⟨xs, fun _ => True⟩ (Itt K a) H :=
  ⟨by show xs.length ≤ _; rw [r.length]; exact z, fun i H' S t o _ hi => by
      obtain ⟨v, e, _⟩ := r.get (List.getElem?_eq_getElem hi)
      exact ⟨vs, v, t.sqT h, e⟩,
    fun i H' S x H2 d t o _ e y => by
      obtain ⟨rfl, y⟩ := y
      obtain ⟨v, e2, q⟩ := r.get e
      have := y vs (t.sqT h)
      rw [e2] at this; cases this
      exact ⟨Go.refl S H2, o, Rp.mono t _ _ q⟩,
    fun i H' S t o _ hi => ⟨vs, t.sqT h, by rw [← r.length]; exact hi⟩⟩
theorem vi_tup {tg l : Expr} {te : RE} (hl : VE X en l te) : VI X en tg l (iTup te) := PI.imp (pi_tup hl) fun σ H R h => by
  obtain ⟨τ, S, R0, hs, ho, q, k⟩ := h
  refine ⟨τ, S, _, hs, ho, q, fun d S' v H' q' g r o => ?_⟩
  cases d with
  | tup xs =>
    simp only [Rp] at r
    obtain ⟨a, vs, rfl, hq, hz, rs⟩ := r
    exact ⟨a, rfl, ⟨vs, SqT.of hq⟩, k _ _ _ _ q' g o (wk_tup (SqT.of hq) hz rs)⟩
  | _ => exact q'.elim
/-- a list that stays as it is -/
def iLst (te : RE) : RI := fun τ S R => te τ S fun d S1 => match d with
  | .ref a => ∃ xs, rdL S1 a xs ∧ R ⟨xs, fun S => rdL S a xs⟩ S1
  | _ => False
theorem sqL_inj {K : PySem.W.Frag} {H : Hp} {a : Addr} {vs ws : List V} (h : Rd H a (.lst vs)) (x : Rd H a (.lst ws)) : vs = ws := by
  rcases h with h | ⟨o, h⟩ <;> rcases x with x | ⟨o', x⟩ <;> (rw [h] at x; cases x) <;> rfl
theorem rdL.sq' {K : PySem.W.Frag} {H : Hp} {S : Sto} {a : Addr} {xs : List D} (h : rdL S a xs) (o : SO K H S) : ∃ vs, Rd H a (.lst vs) ∧ vs.length ≤ sizeLine ∧ Rps K H xs vs := by
  rcases h with h | h
  · obtain ⟨u, e, vs, rfl, z, r⟩ := o a _ h
    exact ⟨vs, .inl e, z, r⟩
  · obtain ⟨u, e, ob, vs, rfl, z, r⟩ := o a _ h
    exact ⟨vs, .inr ⟨ob, e⟩, z, r⟩
theorem wk_lst {K : PySem.W.Frag} {H : Hp} {S0 : Sto} {a : Addr} {xs : List D} (h : rdL S0 a xs) (o0 : SO K H S0) : WkJ K ⟨xs, fun S => rdL S a xs⟩ (Itl K a) H :=
  ⟨by obtain ⟨vs, _, z, r⟩ := h.sq o0; show xs.length ≤ _; rw [r.length]; exact z, fun i H' S t o ok hi => by
      obtain ⟨vs, hq, _, r⟩ := rdL.sq ok o
      obtain ⟨v, e, _⟩ := r.get (List.getElem?_eq_getElem hi)
      exact ⟨vs, v, hq, e⟩,
    fun i H' S x H2 d t o ok e y => by
      obtain ⟨rfl, y⟩ := y
      obtain ⟨vs, hq, _, r⟩ := rdL.sq ok o
      obtain ⟨v, e2, q⟩ := r.get e
      have := y vs hq
      rw [e2] at this; cases this
      exact ⟨Go.refl S H2, o, q⟩,
    fun i H' S t o ok hi => by
      obtain ⟨vs, hq, _, r⟩ := rdL.sq ok o
      exact ⟨vs, hq, by rw [← r.length]; exact hi⟩⟩
theorem vi_lst {tg l : Expr} {te : RE} (hl : VE X en l te) : VI X en tg l (iLst te) := PI.imp (pi_list hl) fun σ H R h => by
  obtain ⟨τ, S, R0, hs, ho, q, k⟩ := h
  refine ⟨τ, S, _, hs, ho, q, fun d S' v H' q' g r o => ?_⟩
  cases d with
  | ref a =>
    simp only [Rp] at r
    subst r
    obtain ⟨xs, hr, q'⟩ := q'
    obtain ⟨vs, hq, _, _⟩ := hr.sq o.so
    exact ⟨a, rfl, ⟨vs, hq⟩, k _ _ _ _ q' g o (wk_lst hr o.so)⟩
  | _ => exact q'.elim
/-- the script -/
def iScr (te : RE) : RI := fun τ S R => te τ S fun d S1 => match d with
  | .scr ns => R ⟨ns.map .int, fun _ => True⟩ S1
  | _ => False
theorem wk_scr {K : PySem.W.Frag} {H : Hp} {a : Addr} {ns : List Int} (h : ScrAt K H a (ns.map V.int)) (z : ns.length ≤ sizeLine) : WkJ K ⟨ns.map .int, fun _ => True⟩ (Itl K a) H := by
  have up : ∀ H', TL H H' → SqL K H' a (ns.map V.int) := fun H' t => by
    rcases h with ⟨o, h⟩ | h
    · exact .inl (.inr ⟨o, t.2 _ _ _ trivial h⟩)
    · exact .inr h
  refine ⟨by show (ns.map D.int).length ≤ _; rw [List.length_map]; exact z, fun i H' S t o _ hi => ?_, fun i H' S x H2 d t o _ e y => ?_, fun i H' S t o _ hi => ?_⟩
  · have hi : i < ns.length := by simpa using hi
    exact ⟨_, .int ns[i], up H' t, by rw [List.getElem?_map, List.getElem?_eq_getElem hi]; rfl⟩
  · obtain ⟨rfl, y⟩ := y
    have e1 : (ns.map D.int)[i]? = some d := e
    rw [List.getElem?_map] at e1
    cases q : ns[i]? with
    | none => rw [q] at e1; cases e1
    | some n =>
      rw [q] at e1
      have e2 : D.int n = d := Option.some.inj e1
      subst e2
      have := y _ (up _ t)
      rw [List.getElem?_map, q] at this
      have e3 : V.int n = x := Option.some.inj this
      subst e3
      exact ⟨Go.refl S H2, o, by simp only [Rp]⟩
  · exact ⟨_, up H' t, by rw [List.length_map]; simpa using hi⟩
theorem vi_scr {tg l : Expr} {te : RE} (hl : VE X en l te) : VI X en tg l (iScr te) := PI.imp (pi_list hl) fun σ H R h => by
  obtain ⟨τ, S, R0, hs, ho, q, k⟩ := h
  refine ⟨τ, S, _, hs, ho, q, fun d S' v H' q' g r o => ?_⟩
  cases d with
  | scr ns =>
    simp only [Rp] at r
    obtain ⟨a, rfl, hq, hz⟩ := r
    exact ⟨a, rfl, ⟨_, hq.sq⟩, k _ _ _ _ q' g o (wk_scr hq hz)⟩
  | _ => exact q'.elim
/-- range(n), range(a, b) -/
def intsD (lo : Int) (n : Nat) : List D := (List.range n).map fun (i : Nat) => D.int (lo + (i : Int))
theorem intsD_len (lo : Int) (n : Nat) : (intsD lo n).length = n := by unfold intsD; rw [List.length_map, List.length_range]
theorem intsD_get {lo : Int} {n i : Nat} {d : D} (h : (intsD lo n)[i]? = some d) : i < n ∧ d = .int (lo + (i : Int)) := by
  have hi : i < n := by have := (List.getElem?_eq_some_iff.mp h).1; rw [intsD_len] at this; exact this
  unfold intsD at h
  rw [List.getElem?_map, List.getElem?_range hi] at h
  exact ⟨hi, (Option.some.inj h).symm⟩
theorem wk_rng {K : PySem.W.Frag} {H : Hp} {lo : Int} {n : Nat} (z : n ≤ sizeLine) : WkJ K ⟨intsD lo n, fun _ => True⟩ (Itr lo n) H :=
  ⟨by show (intsD lo n).length ≤ _; rw [intsD_len]; exact z, fun i H' S t o _ hi => by rw [intsD_len] at hi; exact hi,
    fun i H' S x H2 d t o _ e y => by
      obtain ⟨rfl, rfl⟩ := y
      obtain ⟨_, rfl⟩ := intsD_get e
      exact ⟨Go.refl S H2, o, by simp only [Rp]⟩,
    fun i H' S t o _ hi => by rw [intsD_len] at hi; exact hi⟩
def iRng1 (ts : List RE) : RI := fun τ S R => eArgs ts τ S fun ds S1 => match ds with
  | [.int n] => (-1000000000000000000 ≤ n ∧ n ≤ 10000000) ∧ R ⟨intsD 0 n.toNat, fun _ => True⟩ S1
  | _ => False
def iRng2 (ts : List RE) : RI := fun τ S R => eArgs ts τ S fun ds S1 => match ds with
  | [.int lo, .int n] => (-1000000000000000000 ≤ lo ∧ lo ≤ 1000000000000000000 ∧ -1000000000000000000 ≤ n ∧ n ≤ 1000000000000000000 ∧ n - lo ≤ 10000000) ∧ R ⟨intsD lo (n - lo).toNat, fun _ => True⟩ S1
  | _ => False
theorem line_ge : 10000000 ≤ sizeLine := by decide
theorem vi_rng1 {tg a : Expr} {ts : List RE} {p pos : Pos} (hg : Gl X "range") (hm : X.mg "range" = none) (ha : VA X en [a] ts) (hs : starEach [a] X.env = [(false, eval a X.env)] := by rfl) : VI X en tg (.Call (.Name "range" p) [a] [] pos) (iRng1 ts) := PI.imp (pi_range1 hg hm ha.1 hs) fun σ H R h => by
  obtain ⟨τ, S, R0, hs, ho, q, k⟩ := h
  refine args_ok hs ho q fun ds S' vs H' q' g r hz o => ?_
  split at q'
  · rename_i n
    simp only [Rps, Rp] at r
    obtain ⟨v, r', rfl, rfl, rfl⟩ := r
    exact ⟨n, rfl, by omega, by omega, k _ _ _ _ q'.2 g o (wk_rng (Nat.le_trans (by omega) line_ge))⟩
  · exact q'.elim
theorem vi_rng2 {tg a b : Expr} {ts : List RE} {p pos : Pos} (hg : Gl X "range") (hm : X.mg "range" = none) (ha : VA X en [a, b] ts) (hs : starEach [a, b] X.env = [(false, eval a X.env), (false, eval b X.env)] := by rfl) (hs2 : starEach [b] X.env = [(false, eval b X.env)] := by rfl) : VI X en tg (.Call (.Name "range" p) [a, b] [] pos) (iRng2 ts) := PI.imp (pi_range2 hg hm ha.1 hs hs2) fun σ H R h => by
  obtain ⟨τ, S, R0, hs, ho, q, k⟩ := h
  refine args_ok hs ho q fun ds S' vs H' q' g r hz o => ?_
  split at q'
  · rename_i lo n
    simp only [Rps, Rp] at r
    obtain ⟨v, r', rfl, rfl, v2, r2, rfl, rfl, rfl⟩ := r
    exact ⟨lo, n, rfl, ⟨by omega, by omega, by omega, by omega⟩, k _ _ _ _ q'.2 g o (wk_rng (Nat.le_trans (by omega) line_ge))⟩
  · exact q'.elim
/-! ### for -/
def forR (ok : Sto → Prop) (g : RG) (b : RS) (D0 : En) : List D → VS → Sto → Prop
  | [], τ, S => ok S ∧ D0.nx τ S
  | x :: r, τ, S => ok S ∧ g x τ S fun τ1 S1 => b { D0 with nx := fun τ2 S2 => ∃ τ3 S3, VLe τ3 τ2 ∧ Le S3 S2 ∧ forR ok g b D0 r τ3 S3, ct := fun τ2 S2 => ∃ τ3 S3, VLe τ3 τ2 ∧ Le S3 S2 ∧ forR ok g b D0 r τ3 S3, bk := D0.nx } τ1 S1
def sFor (w : RI) (g : RG) (b : RS) : RS := fun D0 τ S => w τ S fun wk S1 => forR wk.ok g b D0 wk.items τ S1
theorem low_for {w : RI} {g : RG} {b : RS} {D : Ends} {σ : L2.St} {H : Hp} (h : lowS X.K en (sFor w g b) D σ H) : tFor (lowI X.K en w) (lowG X.K en g) (lowS X.K en b) D σ H := by
  obtain ⟨τ, S, D0, hs, ho, q, e⟩ := h
  refine ⟨τ, S, _, hs, ho, q, fun wk S1 J H1 q1 g1 o1 wj => ?_⟩
  refine ⟨fun i m σ' H' => ∃ τ' S', m = wk.items.length - i ∧ i ≤ wk.items.length ∧ SR X.K H' τ' σ' ∧ SQ X.K en H' S' ∧ Go S H S' H' ∧ TL H1 H' ∧ forR wk.ok g b D0 (wk.items.drop i) τ' S', ⟨wk.items.length, τ, S1, by simp, Nat.zero_le _, hs.mono g1.tl, o1, g1, TL.refl H1, q1⟩, ?_⟩
  rintro i m σ' H' ⟨τ', S', rfl, hi, hs', ho', g', t', hf⟩
  by_cases hlt : i < wk.items.length
  · rw [List.drop_eq_getElem_cons hlt] at hf
    unfold forR at hf
    obtain ⟨okS, hf⟩ := hf
    refine .inr ⟨wj.go i H' S' t' ho'.so okS hlt, fun σ2 H2 => ∃ τ2 S2, (∃ τ3 S3, VLe τ3 τ2 ∧ Le S3 S2 ∧ forR wk.ok g b D0 (wk.items.drop (i + 1)) τ3 S3) ∧ Go S' H' S2 H2 ∧ SR X.K H2 τ2 σ2 ∧ SQ X.K en H2 S2, fun σ2 H2 n2 => ?_, fun x H2 y => ?_⟩
    · obtain ⟨τ2, S2, ⟨τ3, S3, l1, l2, f2⟩, g2, s2, o2⟩ := n2
      exact ⟨wk.items.length - (i + 1), by omega, τ3, S3, rfl, hlt, s2.vle l1, o2.le l2, g'.trans (g2.le l2), t'.trans g2.tl, f2⟩
    · obtain ⟨gg, oo, rr⟩ := wj.yld i H' S' x H2 _ t' ho'.so okS (List.getElem?_eq_getElem hlt) y
      refine ⟨_, τ', S', _, rr, hs'.mono gg.tl, ho'.go gg oo, hf, fun τ2 S2 σ2 H3 q2 g2 s2 o2 => ?_⟩
      have gg2 := gg.trans g2
      refine ⟨τ2, S2, _, s2, o2, q2, ⟨fun τ3 S3 σ3 H4 q3 g3 s3 o3 => ?_, fun d S3 v H4 q3 g3 r3 o3 => ?_, fun τ3 S3 σ3 H4 q3 g3 s3 o3 => ?_, fun τ3 S3 σ3 H4 q3 g3 s3 o3 => ?_⟩⟩
      · exact ⟨τ3, S3, q3, gg2.trans g3, s3, o3⟩
      · exact e.rt _ _ _ _ q3 (g'.trans (gg2.trans g3)) r3 o3
      · exact e.nx _ _ _ _ q3 (g'.trans (gg2.trans g3)) s3 o3
      · exact ⟨τ3, S3, q3, gg2.trans g3, s3, o3⟩
  · have ei : i = wk.items.length := by omega
    subst ei
    rw [List.drop_length] at hf
    unfold forR at hf
    exact .inl ⟨wj.stop _ H' S' t' ho'.so hf.1 (Nat.le_refl _), e.nx _ _ _ _ hf.2 g' hs' ho'⟩
theorem vs_for {tg iter : Expr} {body : List Stmt} {w : RI} {g : RG} {b : RS} {pos : Pos} (hp : PassesOwn (model X.prog X.w) X.A X.env X.xe) (hc : X.calm = true) (hi : VI X en tg iter w) (hg : VG X en tg g) (hb : VSs X en body b) (hs : ∀ x, foldedSetIterable iter X.env x = pure x := by intro _; rfl) : VSt X en (.For tg iter body [] pos) (sFor w g b) :=
  PS.imp (ps_for hp hc hi hg hb hs) fun _ _ _ h => low_for h
/-! ### while -/
def sWhile (c : RT) (b : RS) : RS := fun D0 τ S => ∃ W : Nat → VS → Sto → Prop, (∃ m, W m τ S) ∧ ∀ m τ S, W m τ S → c τ S fun k S1 => if k = true then
  b { D0 with nx := fun τ2 S2 => ∃ m' τ3 S3, m' < m ∧ VLe τ3 τ2 ∧ Le S3 S2 ∧ W m' τ3 S3, ct := fun τ2 S2 => ∃ m' τ3 S3, m' < m ∧ VLe τ3 τ2 ∧ Le S3 S2 ∧ W m' τ3 S3, bk := D0.nx } τ S1 else D0.nx τ S1
theorem vs_while {c : Expr} {body : List Stmt} {tc : RT} {b : RS} {pos : Pos} (hp : PassesOwn (model X.prog X.w) X.A X.env X.xe) (hc : VT X en c tc) (hb : VSs X en body b) : VSt X en (.While c body [] pos) (sWhile tc b) :=
  PS.imp (ps_while hp hc hb) fun D σ H h => by
    obtain ⟨τ, S, D0, hs, ho, ⟨W, ⟨m0, w0⟩, turn⟩, e⟩ := h
    refine ⟨fun m σ' H' => ∃ τ' S', SR X.K H' τ' σ' ∧ SQ X.K en H' S' ∧ Go S H S' H' ∧ W m τ' S', ⟨m0, τ, S, hs, ho, Go.refl S H, w0⟩, ?_⟩
    rintro m σ' H' ⟨τ', S', hs', ho', g', w'⟩
    refine ⟨τ', S', _, hs', ho', turn m τ' S' w', fun k S1 H1 q1 g1 o1 => ?_⟩
    cases k with
    | true =>
      simp only [if_true] at q1 ⊢
      refine ⟨fun σ2 H2 => ∃ τ2 S2, (∃ m' τ3 S3, m' < m ∧ VLe τ3 τ2 ∧ Le S3 S2 ∧ W m' τ3 S3) ∧ Go S H S2 H2 ∧ SR X.K H2 τ2 σ2 ∧ SQ X.K en H2 S2, fun σ2 H2 n2 => ?_, ?_⟩
      · obtain ⟨τ2, S2, ⟨m', τ3, S3, hm, l1, l2, w3⟩, g2, s2, o2⟩ := n2
        exact ⟨m', hm, τ3, S3, s2.vle l1, o2.le l2, g2.le l2, w3⟩
      · refine ⟨τ', S1, _, hs'.mono g1.tl, o1, q1, ⟨fun τ3 S3 σ3 H4 q3 g3 s3 o3 => ?_, fun d S3 v H4 q3 g3 r3 o3 => ?_, fun τ3 S3 σ3 H4 q3 g3 s3 o3 => ?_, fun τ3 S3 σ3 H4 q3 g3 s3 o3 => ?_⟩⟩
        · exact ⟨τ3, S3, q3, g'.trans (g1.trans g3), s3, o3⟩
        · exact e.rt _ _ _ _ q3 (g'.trans (g1.trans g3)) r3 o3
        · exact e.nx _ _ _ _ q3 (g'.trans (g1.trans g3)) s3 o3
        · exact ⟨τ3, S3, q3, g'.trans (g1.trans g3), s3, o3⟩
    | false =>
      simp only [Bool.false_eq_true, if_false] at q1 ⊢
      exact e.nx _ _ _ _ q1 (g'.trans g1) (hs'.mono g1.tl) o1
/-! ### list comprehensions -/
def wipeV (τ : VS) : List Nat → VS
  | [] => τ
  | v :: vs => (wipeV τ vs).set v none
theorem SR.setNone {K : PySem.W.Frag} {H : Hp} {τ : VS} {σ : L2.St} (h : SR K H τ σ) (i : Nat) : SR K H (τ.set i none) (σ.set i none) := by
  refine ⟨by simpa using h.1, fun j e q => ?_⟩
  by_cases hj : i = j
  · subst hj
    rw [List.getElem?_set, if_pos rfl] at q
    split at q
    · cases q
    · cases q
  · rw [List.getElem?_set_ne hj] at q
    obtain ⟨v', a, b⟩ := h.2 j e q
    exact ⟨v', by rw [List.getElem?_set_ne hj]; exact a, b⟩
theorem SR.wipe {K : PySem.W.Frag} {H : Hp} {τ : VS} {σ : L2.St} (h : SR K H τ σ) : ∀ vs : List Nat, SR K H (wipeV τ vs) (wipe σ vs)
  | [] => h
  | v :: vs => (SR.wipe h vs).setNone v
def lcR (ok : Sto → Prop) (g : RG) (tt : RT) (te : RE) (τw : VS) : List D → Sto → (List D → Sto → Prop) → Prop
  | [], S, Q => ok S ∧ Q [] S
  | x :: r, S, Q => ok S ∧ g x τw S fun τ2 S2 => tt τ2 S2 fun b S3 => if b = true then te τ2 S3 fun y S4 => ∃ S5, Le S5 S4 ∧ lcR ok g tt te τw r S5 fun ys S6 => Q (y :: ys) S6 else lcR ok g tt te τw r S3 Q
def eLc (w : RI) (g : RG) (tt : RT) (te : RE) (vs : List Nat) : RE := fun τ S Q => w τ S fun wk S1 => lcR wk.ok g tt te (wipeV τ vs) wk.items S1 fun ds S2 => ∀ p, S2 p = none → Q (.ref p) (put S2 p (.lst ds))
end
end VL
/-! VL4: comprehensions, calls of defs, the rule for a def. -/
namespace VL
open PySem PySem.Spec PyProof.Rows L2
theorem SO.other {K : PySem.W.Frag} {H : Hp} {S : Sto} (h : SO K H S) {p : Addr} {w u : HO} (e : H p = some w) (m : IsMut w) (n : S p = none) : SO K (upd H p u) S := fun a o q => by
  have ha : a ≠ p := by rintro rfl; rw [n] at q; cases q
  obtain ⟨v, z, r⟩ := h a o q
  exact ⟨v, by rw [upd_ne ha]; exact z, r.mono (TL.mut e m)⟩
/-! ### the targets of comprehensions: a name, a tuple of names -/
inductive Tg where
  | nm (i : Nat) | tp (is : List Nat)
def Tg.is : Tg → List Nat
  | .nm i => [i]
  | .tp is => is
def Tg.R : Tg → RG
  | .nm i => gName i
  | .tp is => gTupN is.length (is.map gName)
def gsL : List Nat → TGs
  | [] => L2.gNil
  | i :: r => L2.gCons (L2.gName i) (gsL r)
def Tg.L (K : PySem.W.Frag) : Tg → TG
  | .nm i => L2.gName i
  | .tp is => L2.gTup K is.length (gsL is)
theorem wipe_get (σ : L2.St) : ∀ (vs : List Nat) (j : Nat), (wipe σ vs)[j]? = if j ∈ vs then (σ[j]?).map (fun _ => none) else σ[j]?
  | [], j => by simp [wipe]
  | v :: vs, j => by
    unfold wipe
    rw [List.getElem?_set]
    by_cases h : v = j
    · subst h
      rw [if_pos rfl, if_pos (List.mem_cons_self), wipe_length]
      by_cases hl : v < σ.length
      · rw [if_pos hl, List.getElem?_eq_getElem hl]; rfl
      · rw [if_neg hl, List.getElem?_eq_none (by omega)]; rfl
    · rw [if_neg h, wipe_get σ vs j]
      by_cases hj : j ∈ vs
      · rw [if_pos hj, if_pos (List.mem_cons_of_mem _ hj)]
      · rw [if_neg hj, if_neg (by intro z; rcases List.mem_cons.mp z with z | z; exact h z.symm; exact hj z)]
theorem wipe_set {σ : L2.St} {vs : List Nat} {i : Nat} {x : Option V} (h : i ∈ vs) : wipe (σ.set i x) vs = wipe σ vs := by
  apply List.ext_getElem?
  intro j
  rw [wipe_get, wipe_get]
  by_cases hj : j ∈ vs
  · rw [if_pos hj, if_pos hj, List.getElem?_set]
    by_cases e : i = j
    · subst e
      rw [if_pos rfl]
      by_cases hl : i < σ.length
      · rw [if_pos hl, List.getElem?_eq_getElem hl] <;> rfl
      · rw [if_neg hl, List.getElem?_eq_none (by omega)] <;> rfl
    · rw [if_neg e]
  · rw [if_neg hj, if_neg hj, List.getElem?_set_ne (by rintro rfl; exact hj h)]
theorem wipe_wipe {σ : L2.St} {vs : List Nat} : wipe (wipe σ vs) vs = wipe σ vs := by
  apply List.ext_getElem?
  intro j
  rw [wipe_get, wipe_get]
  by_cases hj : j ∈ vs
  · rw [if_pos hj, if_pos hj]; cases σ[j]? <;> rfl
  · rw [if_neg hj, if_neg hj]
theorem gsL_ok {K : PySem.W.Frag} {H : Hp} {S : Sto} {Q0 : VS → Sto → Prop} {R : L2.St → Hp → Prop} {ws : List Nat} : ∀ {is : List Nat} {xs : List D} {vs : List V} {τ : VS} {σ : L2.St}, (∀ i ∈ is, i ∈ ws) → Rps K H xs vs → SR K H τ σ → gAll (is.map gName) xs τ S Q0 →
    (∀ τ2 σ2, Q0 τ2 S → SR K H τ2 σ2 → wipe σ2 ws = wipe σ ws → R σ2 H) → gsL is vs σ H R
  | [], [], vs, τ, σ, _, r, hs, h, k => by
    simp only [Rps] at r
    exact ⟨r, k _ _ h hs rfl⟩
  | i :: is, x :: xs, vs, τ, σ, hw, r, hs, h, k => by
    simp only [Rps] at r
    obtain ⟨v, w, rfl, r1, r2⟩ := r
    refine ⟨v, w, rfl, ?_⟩
    refine gsL_ok (σ := σ.set i (some v)) (fun j hj => hw j (List.mem_cons_of_mem _ hj)) r2 (hs.set r1 i) h fun τ2 σ2 q s2 e2 => k _ _ q s2 (e2.trans (wipe_set (hw i List.mem_cons_self)))
  | [], _ :: _, _, _, _, _, _, _, h, _ => h.elim
  | _ :: _, [], _, _, _, _, _, _, h, _ => h.elim
theorem Tg.ok {K : PySem.W.Frag} {H : Hp} {S : Sto} {Q0 : VS → Sto → Prop} {R : L2.St → Hp → Prop} {ws : List Nat} {t : Tg} {d : D} {v : V} {τ : VS} {σ : L2.St} (hw : ∀ i ∈ t.is, i ∈ ws) (r : Rp K H d v) (hs : SR K H τ σ) (h : t.R d τ S Q0)
    (k : ∀ τ2 σ2, Q0 τ2 S → SR K H τ2 σ2 → wipe σ2 ws = wipe σ ws → R σ2 H) : t.L K v σ H R := by
  cases t with
  | nm i => exact k _ _ h (hs.set r i) (wipe_set (hw i List.mem_cons_self))
  | tp is =>
    cases d with
    | tup xs =>
      simp only [Rp] at r
      obtain ⟨a, vs, rfl, hq, hz, rs⟩ := r
      exact ⟨a, vs, rfl, SqT.of hq, by rw [← rs.length]; exact h.1, gsL_ok hw rs hs h.2 k⟩
    | _ => exact h.elim
section
variable {X : Cx} {en : Ent}
theorem low_lc {w : RI} {t : Tg} {tt : RT} {te : RE} {vs : List Nat} {τ : VS} {S : Sto} {σ : L2.St} {H : Hp} {K1 : List D → Sto → Prop} {R : VK} (hs : SR X.K H τ σ) (ho : SQ X.K en H S) (hm : ∀ i ∈ t.is, i ∈ vs)
    (q : w τ S fun wk S1 => lcR wk.ok t.R tt te (wipeV τ vs) wk.items S1 K1)
    (k : ∀ ds S2 p ws H', K1 ds S2 → S2 p = none → H' p = some (.lst ws) → ws.length ≤ sizeLine → Rps X.K H' ds ws → Go S H S2 H' → (∀ o, Go S H (put S2 p o) H') → SQ X.K en H' S2 → R (.ref p) H') :
    tLc (lowI X.K en w) (t.L X.K) (lowT X.K en tt) (lowE X.K en te) vs σ H R := by
  refine ⟨τ, S, _, hs, ho, q, fun wk S1 J H1 q1 g1 o1 wj => ?_⟩
  intro L hL
  have hLS : ∀ o, H L = some o → S L = none → False := fun o e n => by
    have := (g1.fr L o e n).2
    rw [hL] at this; cases this
  have s1L : S1 L = none := o1.nope hL
  refine ⟨fun i m H' => ∃ S' acc ws K2, m = wk.items.length - i ∧ i ≤ wk.items.length ∧ SQ X.K en H' S' ∧ S' L = none ∧ Go S H S' H' ∧ TL H1 H' ∧ H' L = some (.lst ws) ∧ ws.length ≤ i ∧ Rps X.K H' acc ws ∧
    lcR wk.ok t.R tt te (wipeV τ vs) (wk.items.drop i) S' K2 ∧ ∀ ys S6, K2 ys S6 → K1 (acc ++ ys) S6, ⟨wk.items.length, S1, [], [], K1, by simp, Nat.zero_le _, ?_, s1L, g1.trans (Go.new' hL), TL.new hL, upd_same, Nat.le_refl _, Rps.nil, q1, fun ys S6 z => z⟩, ?_⟩
  · exact o1.go (Go.new' hL) (o1.so.new' hL)
  rintro i m H' ⟨S', acc, ws, K2, rfl, hi, o', sL, g', t', eL, zL, rL, hf, hk⟩
  by_cases hlt : i < wk.items.length
  · rw [List.drop_eq_getElem_cons hlt] at hf
    unfold lcR at hf
    obtain ⟨okS, hf⟩ := hf
    refine .inr ⟨wj.go i H' S' t' o'.so okS hlt, fun H2 => ∃ S2 acc2 ws2 K3, SQ X.K en H2 S2 ∧ S2 L = none ∧ Go S H S2 H2 ∧ TL H1 H2 ∧ H2 L = some (.lst ws2) ∧ ws2.length ≤ i + 1 ∧ Rps X.K H2 acc2 ws2 ∧
      lcR wk.ok t.R tt te (wipeV τ vs) (wk.items.drop (i + 1)) S2 K3 ∧ ∀ ys S6, K3 ys S6 → K1 (acc2 ++ ys) S6, fun H2 n2 => ?_, fun x H2 y => ?_⟩
    · obtain ⟨S2, acc2, ws2, K3, r⟩ := n2
      exact ⟨wk.items.length - (i + 1), by omega, S2, acc2, ws2, K3, rfl, hlt, r⟩
    · obtain ⟨gg, oo, rr⟩ := wj.yld i H' S' x H2 _ t' o'.so okS (List.getElem?_eq_getElem hlt) y
      have o2 : SQ X.K en H2 S' := o'.go gg oo
      have hsw : SR X.K H2 (wipeV τ vs) (wipe σ vs) := (hs.wipe vs).mono ((g'.trans gg).tl)
      refine Tg.ok hm rr hsw hf fun τ2 σ2 q2 s2 e2 => ⟨e2.trans wipe_wipe, ?_⟩
      refine ⟨τ2, S', _, s2, o2, q2, fun b S3 H3 q3 g3 o3 => ?_⟩
      have g03 := gg.trans g3
      have f3 := g03.fr L _ eL sL
      cases b with
      | true =>
        simp only [if_true] at q3 ⊢
        refine ⟨τ2, S3, _, s2.mono g3.tl, o3, q3, fun d S4 v H4 q4 g4 r4 o4 => ?_⟩
        obtain ⟨S5, l5, q5⟩ := q4
        have f4 := g4.fr L _ f3.2 f3.1
        have gall : Go S' H' S4 H4 := g03.trans g4
        have tl4 : TL H4 (upd H4 L (.lst (ws ++ [v]))) := TL.mut f4.2 trivial
        have go4 : Go S H S5 (upd H4 L (.lst (ws ++ [v]))) := ⟨((g'.trans gall).tl).trans tl4, fun a o ha n => by
          have z := (g'.trans gall).fr a o ha n
          have : a ≠ L := by rintro rfl; exact hLS o ha n
          exact ⟨l5.nope z.1, by rw [upd_ne this]; exact z.2⟩⟩
        refine ⟨ws, f4.2, Nat.lt_of_le_of_lt zL (Nat.lt_of_lt_of_le hlt wj.len), S5, acc ++ [d], ws ++ [v], _, ⟨(o4.so.other f4.2 trivial f4.1).le l5, ?_⟩, l5.nope f4.1, go4, (t'.trans gall.tl).trans tl4, upd_same, ?_, ?_, q5, fun ys S6 z => ?_⟩
        · have z : Go en.S en.H S H := ho.en
          exact z.trans go4
        · rw [List.length_append, List.length_singleton]; omega
        · exact (Rps.mono (gall.tl.trans tl4) _ _ rL).append (Rps.one (Rp.mono tl4 _ _ r4))
        · have := hk (d :: ys) S6 z
          rw [List.append_assoc]; exact this
      | false =>
        simp only [Bool.false_eq_true, if_false] at q3 ⊢
        exact ⟨S3, acc, ws, K2, o3, f3.1, g'.trans g03, t'.trans g03.tl, f3.2, Nat.le_succ_of_le zL, Rps.mono g03.tl _ _ rL, q3, hk⟩
  · have ei : i = wk.items.length := by omega
    subst ei
    rw [List.drop_length] at hf
    unfold lcR at hf
    refine .inl ⟨wj.stop _ H' S' t' o'.so hf.1 (Nat.le_refl _), ?_⟩
    have hq := hk [] S' hf.2
    rw [List.append_nil] at hq
    refine k acc S' L ws H' hq sL eL (Nat.le_trans zL wj.len) rL g' (fun o => ⟨g'.tl, fun a ob ha n => ?_⟩) o'
    have z := g'.fr a ob ha n
    have : a ≠ L := by rintro rfl; exact hLS ob ha n
    exact ⟨by rw [put_ne this]; exact z.1, z.2⟩
/-- the tests of a clause -/
def VTs (X : Cx) (en : Ent) (ifs : List Expr) (t : RT) : Prop := PTs X ifs (lowT X.K en t)
def tYes : RT := fun _ S Q => Q true S
theorem PTs.imp {ifs : List Expr} {t1 t2 : TT} (p : PTs X ifs t1) (h : ∀ σ H Q, t2 σ H Q → t1 σ H Q) : PTs X ifs t2 := ⟨fun pins s σ H Q I q => p.run pins s σ H Q I (h σ H Q q)⟩
theorem vts_nil : VTs X en [] tYes := PTs.imp pts_nil fun σ H Q h => by
  obtain ⟨τ, S, Q0, hs, ho, q, k⟩ := h
  exact k _ _ _ q (Go.refl S H) ho
theorem vts_one {c : Expr} {t : RT} (h : VT X en c t) : VTs X en [c] t := pts_one h
structure LcOk (X : Cx) (en : Ent) (elt tg : Expr) (ifs : List Expr) (scope : Scope) (t : Tg) (tt : RT) (te : RE) : Prop where
  g : ∀ (s : Shared) (H : Hp) (C : Addr) (cl : List (Str × Addr)) (fp : List Addr), PG (X.blk s H scope (compEnvC scope cl C X.env) fp) tg (t.L X.K)
  t : ∀ (s : Shared) (H : Hp) (C : Addr) (cl : List (Str × Addr)) (fp : List Addr), PTs (X.blk s H scope (compEnvC scope cl C X.env) fp) ifs (lowT X.K en tt)
  e : ∀ (s : Shared) (H : Hp) (C : Addr) (cl : List (Str × Addr)) (fp : List Addr), PE (X.blk s H scope (compEnvC scope cl C X.env) fp) elt (lowE X.K en te)
theorem ve_lc {elt tg iter : Expr} {ifs : List Expr} {scope : Scope} {own : List (Str × Nat)} {pos : Pos} {w : RI} {t : Tg} {tt : RT} {te : RE} (hc : X.calm = true) (hN : X.N.Nodup) (hi : VI X en tg iter w) (ok : BlkOk X.N X.env.scope scope own)
    (lk : LcOk X en elt tg ifs scope t tt te) (hm : ∀ i ∈ t.is, i ∈ own.map (·.2)) (hs : ∀ x, foldedSetIterable iter X.env x = pure x := by intro _; rfl) :
    VE X en (.ListComp elt [⟨tg, iter, ifs, 0⟩] scope pos) (eLc w t.R tt te (own.map (·.2))) :=
  PE.imp (pe_lc hc hN hi ok lk.g lk.t lk.e hs) fun σ H Q h => by
    obtain ⟨τ, S, Q0, hs, ho, q, k⟩ := h
    exact low_lc hs ho hm q fun ds S2 p ws H' z n e zl r g gp o => k _ _ _ _ (z p n) (gp _) (by simp only [Rp]) ⟨fun a o' ha => by
      by_cases h : a = p
      · subst h; rw [put_same] at ha; cases ha; exact ⟨_, e, ws, rfl, zl, r⟩
      · rw [put_ne h] at ha; exact o.so a o' ha, by
          have := ho.en
          exact this.trans (gp _)⟩
/-- x = [..] on one line, x a local -/
theorem vs_setLc {i : Nat} {y : Str} {py : Pos} {elt tg iter : Expr} {ifs : List Expr} {scope : Scope} {own : List (Str × Nat)} {pos spos : Pos} {w : RI} {t : Tg} {tt : RT} {te : RE} (hc : X.calm = true) (hN : X.N.Nodup) (hy : X.N[i]? = some y) (hyl : X.env.scope.names.lookup y = some .local)
    (hsw : swapsWith (.ListComp elt [⟨tg, iter, ifs, 0⟩] scope pos) (some (.Name y py)) spos.line X.env = pure true) (hi : VI X en tg iter w) (ok : BlkOk X.N X.env.scope scope own)
    (lk : LcOk X en elt tg ifs scope t tt te) (hm : ∀ i ∈ t.is, i ∈ own.map (·.2)) (hs : ∀ x, foldedSetIterable iter X.env x = pure x := by intro _; rfl) :
    VSt X en (.Assign [.Name y py] (.ListComp elt [⟨tg, iter, ifs, 0⟩] scope pos) spos) (sAsg (eLc w t.R tt te (own.map (·.2))) (gName i)) :=
  PS.imp (ps_setLc hc hN hy hyl hsw hi ok lk.g lk.t lk.e hs) fun D σ H h => by
    obtain ⟨τ, S, D0, hs, ho, q, e⟩ := h
    refine low_lc hs ho hm q fun ds S2 p ws H' z n e' zl r g gp o => e.nx _ _ _ _ (z p n) (gp _) ((hs.mono g.tl).set (by simp only [Rp]) i) ⟨fun a o' ha => by
      by_cases h : a = p
      · subst h; rw [put_same] at ha; cases ha; exact ⟨_, e', ws, rfl, zl, r⟩
      · rw [put_ne h] at ha; exact o.so a o' ha, ho.en.trans (gp _)⟩
/-- a built-in called with one new list -/
def CaL (K : PySem.W.Frag) (f : List D → Sto → KE → Prop) (r : List V → Hp → VK → Prop) : Prop := ∀ (H : Hp) (S : Sto) (p : Addr) (xs : List D) (us : List V) (Q : KE) (R : VK), SO K H S → H p = some (.lst us) → us.length ≤ sizeLine → Rps K H xs us → f xs S Q →
  (∀ d S' z H', Q d S' → Go S H S' H' → Rp K H' d z → SO K H' S' → R z H') → r [.ref p] H R
def eLcF (f : List D → Sto → KE → Prop) (w : RI) (t : Tg) (tt : RT) (te : RE) (vs : List Nat) : RE := fun τ S Q => w τ S fun wk S1 => lcR wk.ok t.R tt te (wipeV τ vs) wk.items S1 fun ds S2 => f ds S2 Q
theorem low_lcF {f : List D → Sto → KE → Prop} {r : List V → Hp → VK → Prop} {w : RI} {t : Tg} {tt : RT} {te : RE} {vs : List Nat} {σ : L2.St} {H : Hp} {Q : VK} (hf : CaL X.K f r) (hm : ∀ i ∈ t.is, i ∈ vs) (h : lowE X.K en (eLcF f w t tt te vs) σ H Q) :
    tCB r (tCons (tLc (lowI X.K en w) (t.L X.K) (lowT X.K en tt) (lowE X.K en te) vs) tNil) σ H Q := by
  obtain ⟨τ, S, Q0, hs, ho, q, k⟩ := h
  show tLc (lowI X.K en w) (t.L X.K) (lowT X.K en tt) (lowE X.K en te) vs σ H fun x H1 => r [x] H1 Q
  refine low_lc hs ho hm q fun ds S2 p ws H' z n e zl r g gp o => ?_
  exact hf H' S2 p ds ws Q0 Q o.so e zl r z fun d S' x H2 q2 g2 r2 o2 => k d S' x H2 q2 (g.trans g2) r2 (o.go g2 o2)
theorem ve_callTyL {x : Str} {T : String} {f : List D → Sto → KE → Prop} {r : List V → Hp → VK → Prop} {elt tg iter : Expr} {ifs : List Expr} {scope : Scope} {own : List (Str × Nat)} {p pos cpos : Pos} {w : RI} {t : Tg} {tt : RT} {te : RE} (hcr : CallR X (.type T) r) (hf : CaL X.K f r) (hg : Gl X x) (hmx : X.mg x = none) (hv : bootBuiltins x = some (.type T))
    (hc : X.calm = true) (hN : X.N.Nodup) (hi : VI X en tg iter w) (ok : BlkOk X.N X.env.scope scope own) (lk : LcOk X en elt tg ifs scope t tt te) (hm : ∀ i ∈ t.is, i ∈ own.map (·.2)) (hs : ∀ x, foldedSetIterable iter X.env x = pure x := by intro _; rfl) (hn : x ≠ "__name__" := by decide) (hdb : (x == ("__debug__" : Str)) = false := by decide) :
    VE X en (.Call (.Name x p) [.ListComp elt [⟨tg, iter, ifs, 0⟩] scope cpos] [] pos) (eLcF f w t tt te (own.map (·.2))) :=
  PE.imp (pe_callTy hcr hg hmx hv (pa_cons (pe_lc hc hN hi ok lk.g lk.t lk.e hs) pa_nil) hn hdb) fun σ H Q h => low_lcF hf hm h
theorem ve_callBL {x : Str} {id : String} {f : List D → Sto → KE → Prop} {r : List V → Hp → VK → Prop} {elt tg iter : Expr} {ifs : List Expr} {scope : Scope} {own : List (Str × Nat)} {p pos cpos : Pos} {w : RI} {t : Tg} {tt : RT} {te : RE} (hcr : CallR X (.builtin id) r) (hf : CaL X.K f r) (hg : Gl X x) (hmx : X.mg x = none) (hv : bootBuiltins x = some (.builtin id))
    (hc : X.calm = true) (hN : X.N.Nodup) (hi : VI X en tg iter w) (ok : BlkOk X.N X.env.scope scope own) (lk : LcOk X en elt tg ifs scope t tt te) (hm : ∀ i ∈ t.is, i ∈ own.map (·.2)) (hs : ∀ x, foldedSetIterable iter X.env x = pure x := by intro _; rfl) (hn : x ≠ "__name__" := by decide) (hdb : (x == ("__debug__" : Str)) = false := by decide) :
    VE X en (.Call (.Name x p) [.ListComp elt [⟨tg, iter, ifs, 0⟩] scope cpos] [] pos) (eLcF f w t tt te (own.map (·.2))) :=
  PE.imp (pe_callB hcr hg hmx hv (pa_cons (pe_lc hc hN hi ok lk.g lk.t lk.e hs) pa_nil) hn hdb) fun σ H Q h => low_lcF hf hm h
/-! ### calls of defs -/
abbrev SpV := List D → Sto → KE → XC → Prop
/-- what is wanted of an exception, at both levels -/
def XI (K : PySem.W.Frag) (S : Sto) (H : Hp) (E0 : XC) (E : XK) : Prop := ∀ c d S' dd v H', E0 c d S' → Go S H S' H' → H' dd = some (.xd [("value", v)]) → Rp K H' d v → SO K H' S' → E c (some dd) H'
def lowSp (K : PySem.W.Frag) (sp : SpV) : Sp := fun vs H Q E => ∃ ds S Q0 E0, Rps K H ds vs ∧ SO K H S ∧ sp ds S Q0 E0 ∧ (∀ d S' v H', Q0 d S' → Go S H S' H' → Rp K H' d v → SO K H' S' → Q v H') ∧ XI K S H E0 E
def eCall (sp : SpV) (E0 : XC) (ts : List RE) : RE := fun τ S Q => eArgs ts τ S fun ds S1 => sp ds S1 Q E0
abbrev E0n : XC := fun _ _ _ => False
/-- from the entry on: E0 tells what E wants -/
def XE0 (K : PySem.W.Frag) (en : Ent) (E0 : XC) (E : XK) : Prop := XI K en.S en.H E0 E
theorem XE0.at {K : PySem.W.Frag} {en : Ent} {E0 : XC} {E : XK} {S : Sto} {H : Hp} (x : XE0 K en E0 E) (q : SQ K en H S) : XI K S H E0 E := fun c d S' dd v H' e g h r o => x c d S' dd v H' e (q.en.trans g) h r o
theorem XE0.no {K : PySem.W.Frag} {en : Ent} {E : XK} : XE0 K en E0n E := fun _ _ _ _ _ _ h => h.elim
theorem low_call {sp : SpV} {E0 : XC} {E : XK} {ts : List RE} {σ : L2.St} {H : Hp} {Q : VK} (hx : XE0 X.K en E0 E) (h : lowE X.K en (eCall sp E0 ts) σ H Q) : tCall (lowSp X.K sp) [] E (tAs (ts.map (lowE X.K en))) σ H Q := by
  obtain ⟨τ, S, Q0, hs, ho, q, k⟩ := h
  refine args_ok hs ho q fun ds S' vs H' q g r hz o => ?_
  rw [List.append_nil]
  exact ⟨ds, S', Q0, E0, r, o.so, q, fun d S2 v H2 q2 g2 r2 o2 => k d S2 v H2 q2 (g.trans g2) r2 (o.go g2 o2), hx.at o⟩
theorem ve_call {CX : CXT} {k : Nat} {f : Addr} {fd : FuncData} {ps : List Str} {sp : SpV} {E0 : XC} {E : XK} {x : Str} {e : Expr} {es : List Expr} {ts : List RE} {p pos : Pos} (F : FnOk X.prog X.w X.K X.mg X.base CX k f fd ps (lowSp X.K sp)) (hr : Room k X.A) (hg : Gl X x) (hm : X.mg x = some (.ref f)) (hk : PySem.W.keepIn X.K (.ref f) = true) (hb : Binds X.K fd ps []) (hx : Passes CX X E) (h0 : XE0 X.K en E0 E)
    (ha : VA X en (e :: es) ts) (hdb : (x == ("__debug__" : Str)) = false := by decide) (he : starEach (e :: es) X.env = (false, eval e X.env) :: starEach es X.env := by rfl) (hpl : (backTo pos (starEach es X.env)).any (·.1) = false := by rfl) :
    VE X en (.Call (.Name x p) (e :: es) [] pos) (eCall sp E0 ts) := PE.imp (pe_call F hr hg hm hk hb .nil hx ha.1 hdb he hpl) fun σ H Q h => low_call h0 h
/-- by keywords: gV puts the values in the parameters' order -/
def eCallK (sp : SpV) (gD : List D → List D → List D) (E0 : XC) (ts tks : List RE) : RE := fun τ S Q => eArgs ts τ S fun ds S1 => eArgs tks τ S1 fun es S2 => sp (gD ds es) S2 Q E0
def VK' (X : Cx) (en : Ent) (kws : List Keyword) (ts : List RE) : Prop := PK X kws (tAs (ts.map (lowE X.K en)))
theorem vk_nil : VK' X en [] [] := pk_nil
theorem vk_cons {e : Expr} {nm : Option Str} {kpos : Pos} {kws : List Keyword} {t : RE} {ts : List RE} (he : VE X en e t) (hr : VK' X en kws ts) : VK' X en (⟨nm, e, kpos⟩ :: kws) (t :: ts) := pk_cons he hr
theorem ve_callK {CX : CXT} {k : Nat} {f : Addr} {fd : FuncData} {ps ks : List Str} {g : List Value → List Value → List Value} {gV : List V → List V → List V} {gD : List D → List D → List D} {sp : SpV} {E0 : XC} {E : XK} {x : Str} {e : Expr} {es : List Expr} {kws : List Keyword} {ts tks : List RE} {p pos : Pos} (F : FnOk X.prog X.w X.K X.mg X.base CX k f fd ps (lowSp X.K sp)) (hr : Room k X.A) (hg : Gl X x) (hm : X.mg x = some (.ref f)) (hk : PySem.W.keepIn X.K (.ref f) = true) (hb : KBinds X.K fd ps ks g gV) (hx : Passes CX X E) (h0 : XE0 X.K en E0 E)
    (hgD : ∀ (H : Hp) ds es us ws, Rps X.K H ds us → Rps X.K H es ws → Rps X.K H (gD ds es) (gV us ws))
    (ha : VA X en (e :: es) ts) (hkw : VK' X en kws tks) (hall : (backToKw pos (keywordEach kws X.env)).all (·.1.isSome) = true := by rfl) (hks : (backToKw pos (keywordEach kws X.env)).filterMap (·.1) = ks := by rfl)
    (hdb : (x == ("__debug__" : Str)) = false := by decide) (he : starEach (e :: es) X.env = (false, eval e X.env) :: starEach es X.env := by rfl)
    (hpl : ((backTo pos (starEach (e :: es) X.env)).any (·.1) || (backToKw pos (keywordEach kws X.env)).any (·.1.isNone)) = false := by rfl) :
    VE X en (.Call (.Name x p) (e :: es) kws pos) (eCallK sp gD E0 ts tks) := PE.imp (pe_callK F hr hg hm hk hb hx ha.1 hkw hall hks hdb he hpl) fun σ H Q h => by
  obtain ⟨τ, S, Q0, hs, ho, q, k⟩ := h
  refine args_ok hs ho q fun ds S1 vs H1 q1 g1 r1 hz1 o1 => ?_
  refine args_ok (hs.mono g1.tl) o1 q1 fun es S2 ws H2 q2 g2 r2 hz2 o2 => ?_
  exact ⟨gD ds es, S2, Q0, E0, hgD H2 _ _ _ _ (Rps.mono g2.tl _ _ r1) r2, o2.so, q2, fun d S3 v H3 q3 g3 r3 o3 => k d S3 v H3 q3 ((g1.trans g2).trans g3) r3 (o2.go g3 o3), h0.at o2⟩
end
/-! ### the rule for a def -/
def startV (N : List Str) (ds : List D) : VS := ds.map some ++ List.replicate (N.length - ds.length) none
theorem sr_start {K : PySem.W.Frag} {H : Hp} {N : List Str} {ds : List D} {vs : List V} (r : Rps K H ds vs) : SR K H (startV N ds) (L2.start N vs) := by
  have hl := r.length
  refine ⟨by simp [startV, L2.start, hl], fun i d e => ?_⟩
  unfold startV at e
  by_cases hi : i < ds.length
  · rw [List.getElem?_append_left (by simpa using hi), List.getElem?_map] at e
    cases q : ds[i]? with
    | none => rw [q] at e; cases e
    | some d' =>
      rw [q] at e
      have : d' = d := Option.some.inj (Option.some.inj e)
      subst this
      obtain ⟨v, h1, h2⟩ := r.get q
      refine ⟨v, ?_, h2⟩
      unfold L2.start
      rw [List.getElem?_append_left (by rw [List.length_map, ← hl]; exact hi), List.getElem?_map, h1]; rfl
  · rw [List.getElem?_append_right (by rw [List.length_map]; omega), List.getElem?_replicate] at e
    split at e <;> cases e
section
variable {P : Program} {w : World} {K : PySem.W.Frag} {mg : Str → Option Value} {base : Heap}
/-- what is wanted of a body whose def promises sp -/
def BodyV (N : List Str) (ds : List D) (S : Sto) (Q : KE) (t : RS) : Prop := t { nx := fun _ S' => ∃ S'', Le S'' S' ∧ Q .non S'', rt := fun d S' => ∃ S'', Le S'' S' ∧ Q d S'' } (startV N ds) S
theorem fnV {x qual : Str} {st : Stmt} {f : Addr} {fd : FuncData} {N ps : List Str} {k : Nat} {sp : SpV} (F : Fun K x qual st f fd) (Sc : FnScope N ps (defScope st)) (len : ∀ ds S Q E, sp ds S Q E → ds.length = ps.length)
    (hbody : ∀ (cdv : Value) (A : Around) (outer : List Env) (s : Shared) (H : Hp) (E : XK) (en : Ent) (E0 : XC), Room k (A.deeper (envOfC qual (defScope st) s.heap.objs.size f cdv)) → XE0 K en E0 E →
      ∃ t : RS, VSs (cxOf CX0 P w K mg base N qual (defScope st) f cdv A outer s H E).nox en (defBody st) t ∧ ∀ ds S Q, sp ds S Q E0 → BodyV N ds S Q t) : FnOk P w K mg base CX0 (k + 1) f fd ps (lowSp K sp) := by
  refine F.ok Sc (fun vs H Q E h => ?_) (fun cdv A outer s H vs Q E hr h => ?_)
  · obtain ⟨ds, S, Q0, E0, r, o, h, _⟩ := h
    rw [← r.length]; exact len _ _ _ _ h
  · obtain ⟨ds, S, Q0, E0, r, o, h, k, hx⟩ := h
    obtain ⟨t, hd, ht⟩ := hbody cdv A outer s H E ⟨S, H⟩ E0 hr hx
    refine ⟨_, hd, startV N ds, S, _, sr_start r, ⟨o, Go.refl S H⟩, ht ds S Q0 h, ⟨fun τ S' σ H' q g r o => ?_, fun d S' v H' q g r o => ?_, fun _ _ _ _ q => q.elim, fun _ _ _ _ q => q.elim⟩⟩
    · obtain ⟨S2, l, q⟩ := q
      exact k _ _ _ _ q (g.le l) (by simp only [Rp]) (o.so.le l)
    · obtain ⟨S2, l, q⟩ := q
      exact k _ _ _ _ q (g.le l) r (o.so.le l)
end
end VL
/-! VL0: a tuple 0 times, once. -/
namespace VL
open PySem PySem.Spec PyProof.Rows L2
theorem once_w {l : Addr} {its : Array Value} {n : Nat} {dd : Option Addr} {sl : Array (Option Value)} {u : Tok} :
    Meets (Builtin.«tuple.__mul__» ⟨[.ref l, .int 1 u], []⟩) (fun _ R s =>
      s.heap.get? l = some ⟨.type "tuple", dd, .seq its n, sl⟩ ∧ R (.ok (.ret (.ref l))) s) :=
  .of_wp fun pr wd A R s h => by
    obtain ⟨hp, g, d, tk, os⟩ := s
    have hl := h.1
    replace h := h.2
    have f1 := AutoSeq1.idx_int
    have f2 : (its.isEmpty || (1 : Int) == 1) = true := by rw [Bool.or_comm]; rfl
    wp_walk using PySem.AutoSeq1.wpAny_loadPart' hl
    exact ⟨_, rfl, h⟩
theorem nought_w {l : Addr} {its : Array Value} {n : Nat} {dd : Option Addr} {sl : Array (Option Value)} {x : Int} {u : Tok} (k0 : (decide (x < -(2 ^ 63)) || decide (x ≥ 2 ^ 63)) = false) (k1 : (its.isEmpty || x == 1) = false) (k2 : (decide (x ≤ 0) || its.isEmpty) = true) :
    Meets (Builtin.«tuple.__mul__» ⟨[.ref l, .int x u], []⟩) (fun _ R s =>
      s.heap.get? l = some ⟨.type "tuple", dd, .seq its n, sl⟩ ∧ R (.ok (.ret (.ref s.heap.objs.size))) { s with heap := s.heap.push ⟨.type "tuple", none, .seq #[] 0, #[]⟩ }) :=
  .of_wp fun pr wd A R s h => by
    obtain ⟨hp, g, d, tk, os⟩ := s
    have hl := h.1
    replace h := h.2
    have f1 := AutoSeq1.idx_int
    wp_walk using PySem.AutoSeq1.wpAny_loadPart' hl
    all_goals repeat (first
      | (refine wpAny_ite_false (decide_eq_false (by rw [k0]; decide)) ?_; wp_walk using PySem.AutoSeq1.wpAny_loadPart' hl)
      | (refine wpAny_ite_false (decide_eq_false (by rw [k1]; decide)) ?_; wp_walk using PySem.AutoSeq1.wpAny_loadPart' hl)
      | (refine wpAny_ite_true (decide_eq_true k2) ?_; wp_walk using PySem.AutoSeq1.wpAny_loadPart' hl))
    all_goals exact ⟨_, rfl, h⟩
/-- a tuple of one at least, up to a thousand times, 0 times and once too -/
def rRepA (K : PySem.W.Frag) : R2 := fun x y H Q => ∃ l k xs, x = .ref l ∧ y = .int k ∧ SqT K H l xs ∧ xs ≠ [] ∧ (-1000 ≤ k ∧ k ≤ 1000 ∧ xs.length ≤ 1000) ∧ (k = 1 → Q (.ref l) H) ∧ (k ≠ 1 → ∀ p, H p = none → Q (.ref p) (upd H p (.tup (List.replicate k.toNat xs).flatten)))
theorem op_repA {X : Cx} : OpR X (binaryOp .Mult) (rRepA X.K) := by
  intro pins s σ H x y v u Q I rx ry h
  obtain ⟨l, k, xs, rfl, rfl, hT, hne, hb, h1, h2⟩ := h
  by_cases hk : 2 ≤ k
  · exact op_repT pins s σ H _ _ v u Q I rx ry ⟨l, k, xs, rfl, rfl, hT, hne, hk, hb.2.1, hb.2.2, h2 (by omega)⟩
  cases rx
  obtain ⟨t, rfl⟩ := ry
  obtain ⟨its, r, ⟨⟨cls, dd, data, sl⟩, ho, hc, n, hd⟩, hs⟩ := I.tuple hT
  simp only at hc hd
  subst hc hd
  have hi : its.toArray.isEmpty = false := by
    cases its with
    | nil => exact absurd (List.eq_nil_of_length_eq_zero r.length) hne
    | cons _ _ => rfl
  by_cases e1 : k = 1
  · subst e1
    refine wpAny_binaryOp_repeat_ref (T := "tuple") (U := "int") (by decide) ⟨_, ho, rfl⟩ (fun s' => typeIs_int s' 1 t) noFill_tuple_mul F.fills_int_mul F.slot_int_rmul repeat_tuple F.slot_int_index.lookup
      (call_meets F.slot_int_rmul (typeIs_int s 1 t) F.entry_int_rmul (F.args_int_rmul_2 _ _) (int_rmul_tuple 1 t l its.toArray n dd sl)
        ⟨ho, rfl, ⟨_, ho, rfl⟩, call_meets F.slot_tuple_mul ⟨_, ho, rfl⟩ F.entry_tuple_mul (F.args_tuple_mul_2 _ _) once_w ⟨ho, ?_⟩⟩)
    exact ⟨.ref l, H, I, rfl, h1 rfl⟩
  · have z : k.toNat = 0 := by omega
    have c0 : (decide (k < -(2 ^ 63)) || decide (k ≥ 2 ^ 63)) = false := by
      rw [decide_eq_false (by omega), decide_eq_false (by omega)] <;> rfl
    have c1 : (its.toArray.isEmpty || k == 1) = false := by
      rw [hi, Bool.false_or]; exact beq_eq_false_iff_ne.mpr e1
    have c2 : (decide (k ≤ 0) || its.toArray.isEmpty) = true := by
      rw [hi, Bool.or_false]; exact decide_eq_true (by omega)
    have q := h2 e1
    rw [z] at q
    refine wpAny_binaryOp_repeat_ref (T := "tuple") (U := "int") (by decide) ⟨_, ho, rfl⟩ (fun s' => typeIs_int s' k t) noFill_tuple_mul F.fills_int_mul F.slot_int_rmul repeat_tuple F.slot_int_index.lookup
      (call_meets F.slot_int_rmul (typeIs_int s k t) F.entry_int_rmul (F.args_int_rmul_2 _ _) (int_rmul_tuple k t l its.toArray n dd sl)
        ⟨ho, rfl, ⟨_, ho, rfl⟩, call_meets F.slot_tuple_mul ⟨_, ho, rfl⟩ F.entry_tuple_mul (F.args_tuple_mul_2 _ _) (nought_w c0 c1 c2) ⟨ho, ?_⟩⟩)
    refine ⟨.ref s.heap.objs.size, _, I.laid (t' := s.toks) (o := .tup []) (fun b ob q => Heap.get?_push_of_some _ q) (Nat.le_refl _) ?_, rfl, q _ (I.hok.fresh (Nat.le_refl _))⟩
    exact ⟨Nat.zero_le _, _, .nil, IsTup.new _ _⟩
end VL
/-! VL5: operators, comparisons, subscripts, built-ins, methods, stores at the value level. -/
namespace VL
open PySem PySem.Spec PyProof.Rows L2
/-! ### small helpers -/
theorem line10 {n : Nat} (h : n ≤ 10000000) : n ≤ sizeLine := Nat.le_trans h line_ge
theorem line10' {n : Nat} (h : n < 10000000) : n < sizeLine := Nat.lt_of_lt_of_le h line_ge
section
variable {K : PySem.W.Frag} {H : Hp} {S : Sto}
theorem ixN_same {α β : Type} {xs : List α} {ys : List β} (h : xs.length = ys.length) (i : Int) : ixN xs.length i = ixN ys.length i := by rw [h]
theorem Rps.atI {ds : List D} {vs : List V} {i : Int} {d : D} (r : Rps K H ds vs) (h : L2.atI ds i = some d) : ∃ v, L2.atI vs i = some v ∧ Rp K H d v := by
  unfold L2.atI at h ⊢
  rw [← r.length]
  cases q : ixN ds.length i with
  | none => rw [q] at h; cases h
  | some j =>
    rw [q] at h
    exact r.get h
theorem SO.lst (o : SO K H S) {a : Addr} {xs : List D} (h : S a = some (.lst xs)) : ∃ vs, H a = some (.lst vs) ∧ vs.length ≤ sizeLine ∧ Rps K H xs vs := by
  obtain ⟨u, e, vs, rfl, z, r⟩ := o a _ h
  exact ⟨vs, e, z, r⟩
theorem SO.dI (o : SO K H S) {a : Addr} {kvs : List (List Int × D)} (h : S a = some (.dI kvs)) : ∃ ws, H a = some (.dT ws) ∧ ws.length ≤ sizeLine ∧ Kv K H (fun k : List Int => k.map (Sum.inl : Int → Key)) kvs ws := by
  obtain ⟨u, e, vs, rfl, z, r⟩ := o a _ h
  exact ⟨vs, e, z, r⟩
/-- a dict to be read: its own, or locked -/
def rdD (S : Sto) (a : Addr) (kvs : List (List Int × D)) : Prop := S a = some (.dI kvs) ∨ ∃ l, S a = some (.fD kvs l)
theorem rdD.dT {a : Addr} {kvs : List (List Int × D)} (h : rdD S a kvs) (o : SO K H S) : ∃ ws, Rd H a (.dT ws) ∧ ws.length ≤ sizeLine ∧ Kv K H (fun k : List Int => k.map (Sum.inl : Int → Key)) kvs ws := by
  rcases h with h | h
  · obtain ⟨ws, e, z, r⟩ := o.dI h
    exact ⟨ws, .inl e, z, r⟩
  · obtain ⟨l, h⟩ := h
    obtain ⟨u, e, rfl, ob, ws, rfl, z, r⟩ := o a _ h
    exact ⟨ws, .inr ⟨ob, e⟩, z, r⟩
theorem key_map (ns : List Int) : (ns.map (Sum.inl : Int → Key)).map kV = ns.map V.int := by
  rw [List.map_map]; rfl
end
/-! ### two-place operators -/
def vAdd : D → D → Sto → KE → Prop
  | .int i, .int j, S, Q => Q (.int (i + j)) S
  | .int i, .bl b, S, Q => Q (.int (i + b2i b)) S
  | .str a, .str b, S, Q => a.length + b.length ≤ 10000000 ∧ Q (.str (a ++ b)) S
  | .tup xs, .tup ys, S, Q => xs.length + ys.length ≤ 10000000 ∧ Q (.tup (xs ++ ys)) S
  | .ref a, .ref b, S, Q => ∃ xs ys, S a = some (.lst xs) ∧ S b = some (.lst ys) ∧ xs.length + ys.length ≤ 10000000 ∧ ∀ p, S p = none → Q (.ref p) (put S p (.lst (xs ++ ys)))
  | _, _, _, _ => False
def rAddAny (K : PySem.W.Frag) : R2 := fun x y H Q => ((rI0 fun i j => .int (i + j)) x y H Q) ∨ ((∃ i k, x = .int i ∧ y = .bl k ∧ Q (.int (i + b2i k)) H) ∨ ((∃ i j, x = .str i ∧ y = .str j ∧ i.length + j.length ≤ sizeLine ∧ Q (.str (i ++ j)) H) ∨ (rCatA K x y H Q ∨ rCat x y H Q)))
theorem op_addAny {X : Cx} : OpR X (binaryOp .Add) (rAddAny X.K) := op_add.or (op_add_ib.or (op_add_str.or (op_catA.or op_cat)))
theorem ov_add {K : PySem.W.Frag} : OpV K vAdd (rAddAny K) := by
  intro H S x y u v Q R o rx ry h k
  unfold vAdd at h
  split at h
  · simp only [Rp] at rx ry; subst rx ry
    exact .inl ⟨_, _, rfl, rfl, k _ _ _ _ h (Go.refl S H) (by simp only [Rp]) o⟩
  · simp only [Rp] at rx ry; subst rx ry
    exact .inr (.inl ⟨_, _, rfl, rfl, k _ _ _ _ h (Go.refl S H) (by simp only [Rp]) o⟩)
  · simp only [Rp] at rx ry; subst rx ry
    exact .inr (.inr (.inl ⟨_, _, rfl, rfl, line10 h.1, k _ _ _ _ h.2 (Go.refl S H) (by simp only [Rp]) o⟩))
  · rename_i xs ys
    simp only [Rp] at rx ry
    obtain ⟨a, vs, rfl, ha, hz, r⟩ := rx
    obtain ⟨b, ws, rfl, hb, hz2, r2⟩ := ry
    have hl1 := r.length
    have hl2 := r2.length
    have hz3 : (vs ++ ws).length ≤ sizeLine := by rw [List.length_append]; exact line10 (by omega)
    have fin : ∀ p H', Go S H S H' → SO K H' S → H' p = some (.tup (vs ++ ws)) → TL H H' → R (.ref p) H' := fun p H' g o' e t =>
      k _ _ _ _ h.2 g (by simp only [Rp]; exact ⟨p, _, rfl, e, hz3, (Rps.mono t _ _ r).append (Rps.mono t _ _ r2)⟩) o'
    refine .inr (.inr (.inr (.inl ⟨a, b, vs, ws, rfl, rfl, SqT.of ha, SqT.of hb, line10 (by omega), ?_⟩)))
    refine ⟨fun e => ?_, fun _ e => ?_, fun _ _ p hp => ?_⟩
    · subst e; exact fin b H (Go.refl S H) o hb (TL.refl H)
    · subst e; exact fin a H (Go.refl S H) o (by rw [List.append_nil]; exact ha) (TL.refl H)
    · exact fin p _ (Go.new' hp) (o.new' hp) upd_same (TL.new hp)
  · rename_i a b
    simp only [Rp] at rx ry; subst rx ry
    obtain ⟨xs, ys, ha, hb, hl, h⟩ := h
    obtain ⟨vs, ea, za, ra⟩ := o.lst ha
    obtain ⟨ws, eb, zb, rb⟩ := o.lst hb
    have hl1 := ra.length
    have hl2 := rb.length
    refine .inr (.inr (.inr (.inr ⟨a, b, vs, ws, rfl, rfl, ea, eb, line10 (by omega), fun p hp => ?_⟩)))
    exact k _ _ _ _ (h p (o.nope hp)) (Go.new hp) (by simp only [Rp]) (o.new hp ⟨_, rfl, by rw [List.length_append]; exact line10 (by omega), (Rps.mono (TL.new hp) _ _ ra).append (Rps.mono (TL.new hp) _ _ rb)⟩)
  · exact h.elim
def vInt (f : Int → Int → Int) (C : Int → Int → Prop) : D → D → Sto → KE → Prop
  | .int i, .int j, S, Q => C i j ∧ Q (.int (f i j)) S
  | _, _, _, _ => False
def vInt0 (f : Int → Int → Int) : D → D → Sto → KE → Prop
  | .int i, .int j, S, Q => Q (.int (f i j)) S
  | _, _, _, _ => False
theorem ov_int {K : PySem.W.Frag} {f : Int → Int → Int} {C : Int → Int → Prop} : OpV K (vInt f C) (rI C fun i j => .int (f i j)) := by
  intro H S x y u v Q R o rx ry h k
  unfold vInt at h
  split at h
  · simp only [Rp] at rx ry; subst rx ry
    exact ⟨_, _, rfl, rfl, h.1, k _ _ _ _ h.2 (Go.refl S H) (by simp only [Rp]) o⟩
  · exact h.elim
theorem ov_int0 {K : PySem.W.Frag} {f : Int → Int → Int} : OpV K (vInt0 f) (rI0 fun i j => .int (f i j)) := by
  intro H S x y u v Q R o rx ry h k
  unfold vInt0 at h
  split at h
  · simp only [Rp] at rx ry; subst rx ry
    exact ⟨_, _, rfl, rfl, k _ _ _ _ h (Go.refl S H) (by simp only [Rp]) o⟩
  · exact h.elim
abbrev vSub := vInt0 fun i j => i - j
/-- % by a number that is not 0; // by one of less than 9000 bits -/
abbrev vMod := vInt (fun i j => i.fmod j) fun _ j => j ≠ 0
def CFd (_ j : Int) : Prop := j ≠ 0 ∧ j.natAbs.log2 < 9000
abbrev vFdiv := vInt (fun i j => i.fdiv j) CFd
theorem op_fdivX {X : Cx} : OpR X (binaryOp .FloorDiv) (rI CFd fun i j => .int (i.fdiv j)) := opI fun _ _ _ _ _ _ _ hc q => floordiv_int hc.1 q (.inl (PyProof.noPylong_of_log2 hc.2))
abbrev vPow := vInt (fun i j => i ^ j.toNat) CPow
/-- * : ints together of at most 2 ^ 27 bits; a list, a tuple some times -/
def vMul : D → D → Sto → KE → Prop
  | .int i, .int j, S, Q => IntMulOk i j ∧ Q (.int (i * j)) S
  | .ref a, .int k, S, Q => ∃ xs, S a = some (.lst xs) ∧ (-1000000 ≤ k ∧ k ≤ 1000000 ∧ xs.length * k.toNat ≤ 10000000) ∧ ∀ p, S p = none → Q (.ref p) (put S p (.lst (List.replicate k.toNat xs).flatten))
  | .tup xs, .int k, S, Q => (xs ≠ [] ∧ -1000 ≤ k ∧ k ≤ 1000 ∧ xs.length ≤ 1000) ∧ Q (.tup (List.replicate k.toNat xs).flatten) S
  | _, _, _, _ => False
theorem op_mulI {X : Cx} : OpR X (binaryOp .Mult) (rI IntMulOk fun i j => .int (i * j)) := opI fun _ _ _ _ _ _ _ hc q => mul_int q hc
def rMulAny (K : PySem.W.Frag) : R2 := fun x y H Q => (rI IntMulOk fun i j => .int (i * j)) x y H Q ∨ (rRep x y H Q ∨ rRepA K x y H Q)
theorem op_mulAny {X : Cx} : OpR X (binaryOp .Mult) (rMulAny X.K) := op_mulI.or (op_rep.or op_repA)
theorem Rps.flat {K : PySem.W.Frag} {H : Hp} {xs : List D} {vs : List V} (r : Rps K H xs vs) : ∀ n : Nat, Rps K H (List.replicate n xs).flatten (List.replicate n vs).flatten
  | 0 => Rps.nil
  | n + 1 => by
    rw [List.replicate_succ, List.replicate_succ, List.flatten_cons, List.flatten_cons]
    exact r.append (Rps.flat r n)
theorem flat_len {α : Type} (xs : List α) : ∀ n : Nat, (List.replicate n xs).flatten.length = n * xs.length
  | 0 => by simp
  | n + 1 => by rw [List.replicate_succ, List.flatten_cons, List.length_append, flat_len xs n, Nat.succ_mul, Nat.add_comm]
theorem ov_mul {K : PySem.W.Frag} : OpV K vMul (rMulAny K) := by
  intro H S x y u v Q R o rx ry h k
  unfold vMul at h
  split at h
  · simp only [Rp] at rx ry; subst rx ry
    exact .inl ⟨_, _, rfl, rfl, h.1, k _ _ _ _ h.2 (Go.refl S H) (by simp only [Rp]) o⟩
  · rename_i a n
    simp only [Rp] at rx ry; subst rx ry
    obtain ⟨xs, ha, hk, h⟩ := h
    obtain ⟨vs, ea, za, ra⟩ := o.lst ha
    have hl := ra.length
    refine .inr (.inl ⟨a, n, vs, rfl, rfl, ea, by omega, by omega, by rw [← hl]; exact line10 hk.2.2, fun p hp => ?_⟩)
    refine k _ _ _ _ (h p (o.nope hp)) (Go.new hp) (by simp only [Rp]) (o.new hp ⟨_, rfl, ?_, (Rps.mono (TL.new hp) _ _ ra).flat _⟩)
    rw [flat_len, Nat.mul_comm, ← hl]; exact line10 hk.2.2
  · rename_i xs n
    simp only [Rp] at rx ry; subst ry
    obtain ⟨a, vs, rfl, ha, hz, r⟩ := rx
    obtain ⟨⟨h0, h1, h2, h3⟩, h⟩ := h
    have hl := r.length
    refine .inr (.inr ⟨a, n, vs, rfl, rfl, SqT.of ha, ?_, ⟨h1, h2, by omega⟩, fun e => ?_, fun _ p hp => ?_⟩)
    · intro e; subst e; apply h0; cases xs with
      | nil => rfl
      | cons _ _ => rw [List.length_cons] at hl; cases hl
    · subst e
      have e2 : (List.replicate (Int.toNat 1) xs).flatten = xs := by show (List.replicate 1 xs).flatten = xs; simp
      rw [e2] at h
      exact k _ _ _ _ h (Go.refl S H) (by simp only [Rp]; exact ⟨a, vs, rfl, ha, hz, r⟩) o
    · have z : (List.replicate n.toNat vs).flatten.length ≤ sizeLine := by
        rw [flat_len, ← hl]
        have e1 : n.toNat ≤ 1000 := by omega
        exact line10 (Nat.le_trans (Nat.mul_le_mul e1 h3) (by decide))
      exact k _ _ _ _ h (Go.new' hp) (by simp only [Rp]; exact ⟨p, _, rfl, upd_same, z, (Rps.mono (TL.new hp) _ _ r).flat _⟩) (o.new' hp)
  · exact h.elim
/-! ### one-place -/
def vNeg : D → Sto → KE → Prop
  | .int i, S, Q => Q (.int (-i)) S
  | _, _, _ => False
theorem uv_neg {K : PySem.W.Frag} : UnV K vNeg (rU fun i => .int (-i)) := by
  intro H S x u Q R o rx h k
  unfold vNeg at h
  split at h
  · simp only [Rp] at rx; subst rx
    exact ⟨_, rfl, k _ _ _ _ h (Go.refl S H) (by simp only [Rp]) o⟩
  · exact h.elim
/-! ### comparisons -/
def vCmp (f : Int → Int → Bool) : D → D → Sto → KE → Prop
  | .int i, .int j, S, Q => Q (.bl (f i j)) S
  | _, _, _, _ => False
theorem ov_cmp {K : PySem.W.Frag} {f : Int → Int → Bool} : OpV K (vCmp f) (rI0 fun i j => .bl (f i j)) := by
  intro H S x y u v Q R o rx ry h k
  unfold vCmp at h
  split at h
  · simp only [Rp] at rx ry; subst rx ry
    exact ⟨_, _, rfl, rfl, k _ _ _ _ h (Go.refl S H) (by simp only [Rp]) o⟩
  · exact h.elim
abbrev vLe := vCmp fun i j => decide (i ≤ j)
abbrev vGt := vCmp fun i j => decide (j < i)
abbrev vGe := vCmp fun i j => decide (j ≤ i)
/-- < of ints, of tuples of ints -/
def vLt : D → D → Sto → KE → Prop
  | .int i, .int j, S, Q => Q (.bl (decide (i < j))) S
  | .tup xs, .tup ys, S, Q => ∃ ns ms : List Int, xs = ns.map .int ∧ ys = ms.map .int ∧ Q (.bl (HT.lexLt ns ms)) S
  | _, _, _, _ => False
theorem op_ltAny {X : Cx} (hu : X.A.units < cLine) : OpR X (compareOp .Lt) (fun x y H Q => (rI0 fun i j => .bl (decide (i < j))) x y H Q ∨ rLtT X.K x y H Q) := op_lt.or (op_ltT hu)
theorem ov_lt {K : PySem.W.Frag} : OpV K vLt (fun x y H Q => (rI0 fun i j => .bl (decide (i < j))) x y H Q ∨ rLtT K x y H Q) := by
  intro H S x y u v Q R o rx ry h k
  unfold vLt at h
  split at h
  · simp only [Rp] at rx ry; subst rx ry
    exact .inl ⟨_, _, rfl, rfl, k _ _ _ _ h (Go.refl S H) (by simp only [Rp]) o⟩
  · simp only [Rp] at rx ry
    obtain ⟨a, vs, rfl, ha, hz, r⟩ := rx
    obtain ⟨b, ws, rfl, hb, hz2, r2⟩ := ry
    obtain ⟨ns, ms, rfl, rfl, h⟩ := h
    rw [r.ints] at ha
    rw [r2.ints] at hb
    exact .inr ⟨a, b, ns, ms, rfl, rfl, SqT.of ha, SqT.of hb, k _ _ _ _ h (Go.refl S H) (by simp only [Rp]) o⟩
  · exact h.elim
/-- data: what a value is, lists by their content -/
inductive Pd (S : Sto) : D → PyData → Prop where
  | non : Pd S .non .none
  | bl (b : Bool) : Pd S (.bl b) (.bool b)
  | int (i : Int) : Pd S (.int i) (.int i)
  | str (x : Str) : Pd S (.str x) (.str x)
  | tup {xs : List D} {ds : List PyData} : List.length xs = ds.length → (∀ (i : Nat) x d, xs[i]? = some x → ds[i]? = some d → Pd S x d) → Pd S (.tup xs) (.tuple ds)
  | lst {a : Addr} {xs : List D} {ds : List PyData} : rdL S a xs → List.length xs = ds.length → (∀ (i : Nat) x d, xs[i]? = some x → ds[i]? = some d → Pd S x d) → Pd S (.ref a) (.list ds)
theorem dpAll_of {K : PySem.W.Frag} {H : Hp} : ∀ {vs : List V} {ds : List PyData}, vs.length = ds.length → (∀ (i : Nat) v d, vs[i]? = some v → ds[i]? = some d → Dp K H v d) → DpAll K H vs ds
  | [], [], _, _ => .nil
  | v :: vs, d :: ds, hl, h => .cons (h 0 v d rfl rfl) (dpAll_of (by simpa using hl) fun i v' d' e1 e2 => h (i + 1) v' d' (by simpa using e1) (by simpa using e2))
  | [], _ :: _, hl, _ => by cases hl
  | _ :: _, [], hl, _ => by cases hl
theorem Pd.dp {K : PySem.W.Frag} {H : Hp} {S : Sto} (o : SO K H S) {x : D} {d : PyData} (h : Pd S x d) : ∀ {v : V}, Rp K H x v → Dp K H v d := by
  induction h with
  | non => intro v r; simp only [Rp] at r; subst r; exact .non
  | bl b => intro v r; simp only [Rp] at r; subst r; exact .bl b
  | int b => intro v r; simp only [Rp] at r; subst r; exact .int b
  | str b => intro v r; simp only [Rp] at r; subst r; exact .str b
  | tup hl hd ih =>
    intro v r
    simp only [Rp] at r
    obtain ⟨a, vs, rfl, ha, hz, r⟩ := r
    refine .tup (SqT.of ha) (dpAll_of (by rw [← r.length]; exact hl) fun i v d e1 e2 => ?_)
    obtain ⟨x, hx, rx⟩ := r.get' e1
    exact ih i x d hx e2 rx
  | lst hr hl hd ih =>
    intro v r
    simp only [Rp] at r
    subst r
    obtain ⟨vs, hq, hz, r⟩ := hr.sq o
    refine .lst hq (dpAll_of (by rw [← r.length]; exact hl) fun i v d e1 e2 => ?_)
    obtain ⟨x, hx, rx⟩ := r.get' e1
    exact ih i x d hx e2 rx
def vEq : D → D → Sto → KE → Prop
  | .int i, .int j, S, Q => Q (.bl (decide (i = j))) S
  | .bl i, .bl j, S, Q => Q (.bl (decide (i = j))) S
  | .str i, .str j, S, Q => Q (.bl (decide (i = j))) S
  | x, y, S, Q => ∃ d e, Pd S x d ∧ Pd S y e ∧ SeqAt.shaped d = true ∧ SeqAt.shaped e = true ∧ Q (.bl (PyData.eqv d e)) S
def vNe : D → D → Sto → KE → Prop
  | .int i, .int j, S, Q => Q (.bl (!decide (i = j))) S
  | .bl i, .bl j, S, Q => Q (.bl (!decide (i = j))) S
  | .str i, .str j, S, Q => Q (.bl (!decide (i = j))) S
  | x, y, S, Q => ∃ d e, Pd S x d ∧ Pd S y e ∧ SeqAt.shaped d = true ∧ SeqAt.shaped e = true ∧ Q (.bl (!PyData.eqv d e)) S
theorem op_eqAny {X : Cx} (hu : X.A.units + 64 < cLine) : OpR X (compareOp .Eq) (fun x y H Q => rEq x y H Q ∨ rEqD X.K x y H Q) := op_eq.or (op_eqD hu)
theorem op_neAny {X : Cx} (hu : X.A.units + 64 < cLine) : OpR X (compareOp .NotEq) (fun x y H Q => rNe x y H Q ∨ rNeD X.K x y H Q) := op_ne.or (op_neD hu)
theorem dec_vint {i j : Int} : decide (V.int i = V.int j) = decide (i = j) := by rw [dec_int]; exact Bool.beq_eq_decide_eq i j
theorem dec_vbl {i j : Bool} : decide (V.bl i = V.bl j) = decide (i = j) := by rw [dec_bl]; cases i <;> cases j <;> rfl
theorem dec_vstr {i j : Str} : decide (V.str i = V.str j) = decide (i = j) := by rw [dec_str]; (rw [Bool.eq_iff_iff]; simp)
theorem ov_eq {K : PySem.W.Frag} : OpV K vEq (fun x y H Q => rEq x y H Q ∨ rEqD K x y H Q) := by
  intro H S x y u v Q R o rx ry h k
  unfold vEq at h
  split at h
  · simp only [Rp] at rx ry; subst rx ry
    exact .inl ⟨rfl, by rw [dec_vint]; exact k _ _ _ _ h (Go.refl S H) (by simp only [Rp]) o⟩
  · simp only [Rp] at rx ry; subst rx ry
    exact .inl ⟨rfl, by rw [dec_vbl]; exact k _ _ _ _ h (Go.refl S H) (by simp only [Rp]) o⟩
  · simp only [Rp] at rx ry; subst rx ry
    exact .inl ⟨rfl, by rw [dec_vstr]; exact k _ _ _ _ h (Go.refl S H) (by simp only [Rp]) o⟩
  · obtain ⟨d, e, p1, p2, s1, s2, h⟩ := h
    exact .inr ⟨d, e, p1.dp o rx, p2.dp o ry, s1, s2, k _ _ _ _ h (Go.refl S H) (by simp only [Rp]) o⟩
theorem ov_ne {K : PySem.W.Frag} : OpV K vNe (fun x y H Q => rNe x y H Q ∨ rNeD K x y H Q) := by
  intro H S x y u v Q R o rx ry h k
  unfold vNe at h
  split at h
  · simp only [Rp] at rx ry; subst rx ry
    exact .inl ⟨rfl, by rw [dec_vint]; exact k _ _ _ _ h (Go.refl S H) (by simp only [Rp]) o⟩
  · simp only [Rp] at rx ry; subst rx ry
    exact .inl ⟨rfl, by rw [dec_vbl]; exact k _ _ _ _ h (Go.refl S H) (by simp only [Rp]) o⟩
  · simp only [Rp] at rx ry; subst rx ry
    exact .inl ⟨rfl, by rw [dec_vstr]; exact k _ _ _ _ h (Go.refl S H) (by simp only [Rp]) o⟩
  · obtain ⟨d, e, p1, p2, s1, s2, h⟩ := h
    exact .inr ⟨d, e, p1.dp o rx, p2.dp o ry, s1, s2, k _ _ _ _ h (Go.refl S H) (by simp only [Rp]) o⟩
/-- is None -/
def isNonD : D → Bool
  | .non => true
  | _ => false
def vIsN : D → D → Sto → KE → Prop
  | .oth _, .non, _, _ => False
  | x, .non, S, Q => Q (.bl (isNonD x)) S
  | _, _, _, _ => False
def vNotN : D → D → Sto → KE → Prop
  | .oth _, .non, _, _ => False
  | x, .non, S, Q => Q (.bl (!isNonD x)) S
  | _, _, _, _ => False
theorem rp_non {K : PySem.W.Frag} {H : Hp} {x : D} {u : V} (r : Rp K H x u) (n : ∀ v, x ≠ .oth v) : decide (u = .non) = isNonD x := by
  cases x with
  | non => simp only [Rp] at r; subst r; rfl
  | bl _ => simp only [Rp] at r; subst r; rfl
  | int _ => simp only [Rp] at r; subst r; rfl
  | str _ => simp only [Rp] at r; subst r; rfl
  | ref _ => simp only [Rp] at r; subst r; rfl
  | oth v => exact absurd rfl (n v)
  | tup _ => simp only [Rp] at r; obtain ⟨a, vs, rfl, _⟩ := r; rfl
  | scr _ => simp only [Rp] at r; obtain ⟨a, rfl, _⟩ := r; rfl
theorem ov_isN {K : PySem.W.Frag} : OpV K vIsN (fun x y H Q => y = .non ∧ Q (.bl (decide (x = .non))) H) := by
  intro H S x y u v Q R o rx ry h k
  unfold vIsN at h
  split at h
  · exact h.elim
  · rename_i n
    simp only [Rp] at ry; subst ry
    exact ⟨rfl, by rw [rp_non rx (fun v e => n v e)]; exact k _ _ _ _ h (Go.refl S H) (by simp only [Rp]) o⟩
  · exact h.elim
theorem ov_notN {K : PySem.W.Frag} : OpV K vNotN (fun x y H Q => y = .non ∧ Q (.bl (!decide (x = .non))) H) := by
  intro H S x y u v Q R o rx ry h k
  unfold vNotN at h
  split at h
  · exact h.elim
  · rename_i n
    simp only [Rp] at ry; subst ry
    exact ⟨rfl, by rw [rp_non rx (fun v e => n v e)]; exact k _ _ _ _ h (Go.refl S H) (by simp only [Rp]) o⟩
  · exact h.elim
/-! ### subscripts -/
def vIx : D → D → Sto → KE → Prop
  | .tup xs, .int i, S, Q => ∃ d, L2.atI xs i = some d ∧ Q d S
  | .ref a, .int i, S, Q => ∃ xs d, rdL S a xs ∧ L2.atI xs i = some d ∧ Q d S
  | .scr ns, .int i, S, Q => ∃ n, L2.atI ns i = some n ∧ Q (.int n) S
  | .str z, .int i, S, Q => ∃ c, z.length ≤ 10000000 ∧ L2.atI z.cps.toList i = some c ∧ Q (.str ⟨#[c]⟩) S
  | _, _, _, _ => False
theorem ov_ix {K : PySem.W.Frag} : OpV K vIx (rIx K) := by
  intro H S x y u v Q R o rx ry h k
  unfold vIx at h
  split at h
  · simp only [Rp] at rx ry; subst ry
    obtain ⟨a, vs, rfl, ha, hz, r⟩ := rx
    obtain ⟨d, hd, h⟩ := h
    obtain ⟨w, hw, rw'⟩ := r.atI hd
    exact .inr (.inl ⟨a, vs, _, w, rfl, rfl, SqT.of ha, hw, k _ _ _ _ h (Go.refl S H) rw' o⟩)
  · simp only [Rp] at rx ry; subst rx ry
    obtain ⟨xs, d, hr, hd, h⟩ := h
    obtain ⟨vs, hq, hz, r⟩ := hr.sq o
    obtain ⟨w, hw, rw'⟩ := r.atI hd
    exact .inl ⟨_, vs, _, w, rfl, rfl, hq, hw, k _ _ _ _ h (Go.refl S H) rw' o⟩
  · rename_i nns ii
    simp only [Rp] at rx ry; subst ry
    obtain ⟨a, rfl, hq, hz⟩ := rx
    obtain ⟨n, hn, h⟩ := h
    have hv : L2.atI (nns.map V.int) ii = some (.int n) := by
      unfold L2.atI at hn ⊢
      rw [List.length_map]
      cases q : ixN nns.length ii with
      | none => rw [q] at hn; cases hn
      | some j =>
        rw [q] at hn
        show (nns.map V.int)[j]? = _
        have hn : nns[j]? = some n := hn
        rw [List.getElem?_map, hn]; rfl
    exact .inl ⟨a, _, _, _, rfl, rfl, hq.sq, hv, k _ _ _ _ h (Go.refl S H) (by simp only [Rp]) o⟩
  · simp only [Rp] at rx ry; subst rx ry
    obtain ⟨c, hz, hc, h⟩ := h
    exact .inr (.inr ⟨_, _, c, rfl, rfl, line10 hz, hc, k _ _ _ _ h (Go.refl S H) (by simp only [Rp]) o⟩)
  · exact h.elim
section
variable {X : Cx} {en : Ent}
theorem ve_ix {f : D → D → Sto → KE → Prop} {r : R2} {a b : Expr} {ta tb : RE} {pos : Pos} (hr : IxR X r) (hf : OpV X.K f r) (ha : VE X en a ta) (hb : VE X en b tb) (hs : PlainIx b := by exact fun _ _ => rfl) : VE X en (.Subscript a b pos) (eBin f ta tb) :=
  PE.imp (pe_ix hr ha hb hs) fun _ _ _ h => low_bin hf h
end
end VL
/-! VL6: dicts, built-ins, methods, stores, slices, isinstance at the value level. -/
namespace VL
open PySem PySem.Spec PyProof.Rows L2
/-! ### dicts -/
section
variable {κ : Type} [DecidableEq κ]
def lkD (kvs : List (κ × D)) (k : κ) : Option D := (kvs.find? fun kv => decide (kv.1 = k)).map (·.2)
def puD (kvs : List (κ × D)) (k : κ) (v : D) : List (κ × D) :=
  if (kvs.any fun kv => decide (kv.1 = k)) = true then kvs.map (fun kv => if kv.1 = k then (kv.1, v) else kv) else kvs ++ [(k, v)]
def drD (kvs : List (κ × D)) (k : κ) : List (κ × D) := kvs.filter fun kv => decide (kv.1 ≠ k)
end
section
variable {K : PySem.W.Frag} {H : Hp} {S : Sto} {κ μ : Type} [DecidableEq κ] [DecidableEq μ] {f : κ → μ}
theorem Kv.length {a : List (κ × D)} {b : List (μ × V)} (h : Kv K H f a b) : a.length = b.length := Paired.length h
theorem Kv.lk (inj : ∀ x y, f x = f y → x = y) {k : κ} : ∀ {a : List (κ × D)} {b : List (μ × V)}, Kv K H f a b → (∀ d, lkD a k = some d → ∃ v, valV b (f k) = some v ∧ Rp K H d v) ∧ (lkD a k = none → valV b (f k) = none)
  | [], [], .nil => ⟨fun _ h => by simp [lkD] at h, fun _ => rfl⟩
  | (x, d) :: a, (y, v) :: b, .cons h t => by
    obtain ⟨e, r⟩ := h
    have e : y = f x := e
    subst e
    have ih := Kv.lk inj (k := k) (a := a) (b := b) t
    by_cases hx : x = k
    · subst hx
      refine ⟨fun d' q => ⟨v, valV_pos rfl, ?_⟩, fun q => ?_⟩
      · simp [lkD] at q; subst q; exact r
      · simp [lkD] at q
    · have hf : ¬ f x = f k := fun z => hx (inj _ _ z)
      rw [valV_neg hf]
      have el : lkD ((x, d) :: a) k = lkD a k := by simp [lkD, List.find?_cons, hx]
      rw [el]
      exact ih
theorem Kv.any (inj : ∀ x y, f x = f y → x = y) {k : κ} : ∀ {a : List (κ × D)} {b : List (μ × V)}, Kv K H f a b → (a.any fun kv => decide (kv.1 = k)) = (b.any fun kv => decide (kv.1 = f k))
  | [], [], .nil => rfl
  | (x, d) :: a, (y, v) :: b, .cons h t => by
    have e : y = f x := h.1
    subst e
    rw [List.any_cons, List.any_cons, Kv.any inj t]
    have : decide (x = k) = decide (f x = f k) := by
      by_cases hx : x = k
      · subst hx; simp
      · rw [decide_eq_false hx, decide_eq_false fun z => hx (inj _ _ z)]
    show (decide (x = k) || _) = (decide (f x = f k) || _)
    rw [this]
theorem Kv.appendOne {k : κ} {d : D} {v : V} (r : Rp K H d v) : ∀ {a : List (κ × D)} {b : List (μ × V)}, Kv K H f a b → Kv K H f (a ++ [(k, d)]) (b ++ [(f k, v)])
  | [], [], .nil => .cons ⟨rfl, r⟩ .nil
  | _ :: _, _ :: _, .cons h t => .cons h (Kv.appendOne r t)
theorem Kv.upd (inj : ∀ x y, f x = f y → x = y) {k : κ} {d : D} {v : V} (r : Rp K H d v) : ∀ {a : List (κ × D)} {b : List (μ × V)}, Kv K H f a b → Kv K H f (a.map fun kv => if kv.1 = k then (kv.1, d) else kv) (b.map fun kv => if kv.1 = f k then (kv.1, v) else kv)
  | [], [], .nil => .nil
  | p :: _, q :: _, .cons h t => by
    refine .cons ?_ (Kv.upd inj r t)
    have e : q.1 = f p.1 := h.1
    by_cases hx : p.1 = k
    · show (if q.1 = f k then (q.1, v) else q).1 = f (if p.1 = k then (p.1, d) else p).1 ∧ Rp K H (if p.1 = k then (p.1, d) else p).2 (if q.1 = f k then (q.1, v) else q).2
      rw [if_pos hx, if_pos (by rw [e, hx])]
      exact ⟨e, r⟩
    · have hf : ¬ q.1 = f k := fun z => hx (inj _ _ (e.symm.trans z))
      show (if q.1 = f k then (q.1, v) else q).1 = f (if p.1 = k then (p.1, d) else p).1 ∧ Rp K H (if p.1 = k then (p.1, d) else p).2 (if q.1 = f k then (q.1, v) else q).2
      rw [if_neg hx, if_neg hf]
      exact h
theorem Kv.pu (inj : ∀ x y, f x = f y → x = y) {k : κ} {d : D} {v : V} (r : Rp K H d v) {a : List (κ × D)} {b : List (μ × V)} (h : Kv K H f a b) : Kv K H f (puD a k d) (putK b (f k) v) := by
  unfold puD putK
  rw [Kv.any inj h]
  split
  · exact Kv.upd inj r h
  · exact Kv.appendOne r h
theorem inlMap_inj : ∀ x y : List Int, x.map (Sum.inl : Int → Key) = y.map (Sum.inl : Int → Key) → x = y
  | [], [], _ => rfl
  | a :: x, b :: y, h => by
    injection h with h1 h2
    injection h1 with h1
    rw [h1, inlMap_inj x y h2]
  | [], _ :: _, h => by cases h
  | _ :: _, [], h => by cases h
theorem puD_length (kvs : List (κ × D)) (k : κ) (v : D) : (puD kvs k v).length ≤ kvs.length + 1 := by
  unfold puD
  split
  · rw [List.length_map]; omega
  · rw [List.length_append, List.length_singleton]; omega
theorem putK_length (kvs : List (μ × V)) (k : μ) (v : V) : (putK kvs k v).length ≤ kvs.length + 1 := by
  unfold putK
  split
  · rw [List.length_map]; omega
  · rw [List.length_append, List.length_singleton]; omega
end
section
variable {X : Cx} {en : Ent}
/-- a value that is a key: a tuple of ints -/
def kyI (d : D) (ns : List Int) : Prop := d = .tup (ns.map .int)
theorem key_tup {K : PySem.W.Frag} {H : Hp} {ns : List Int} {v : V} (r : Rp K H (.tup (ns.map .int)) v) : ∃ b, v = .ref b ∧ H b = some (.tup ((ns.map (Sum.inl : Int → Key)).map kV)) := by
  simp only [Rp] at r
  obtain ⟨b, vs, rfl, hb, _, r⟩ := r
  rw [r.ints] at hb
  exact ⟨b, rfl, by rw [key_map]; exact hb⟩
/-- d[k] -/
def vDGet : D → D → Sto → KE → Prop
  | .ref a, .tup ks, S, Q => ∃ kvs ns d, rdD S a kvs ∧ ks = ns.map .int ∧ lkD kvs ns = some d ∧ Q d S
  | _, _, _, _ => False
theorem vDGet.inv {x y : D} {S : Sto} {Q : KE} (h : vDGet x y S Q) : ∃ a kvs ns d, x = .ref a ∧ y = .tup (ns.map .int) ∧ rdD S a kvs ∧ lkD kvs ns = some d ∧ Q d S := by
  unfold vDGet at h
  split at h
  · obtain ⟨kvs, ns, d, ha, rfl, h⟩ := h; exact ⟨_, kvs, ns, d, rfl, rfl, ha, h⟩
  · exact h.elim
theorem ve_dget {o i : Expr} {td ty : RE} {pos : Pos} (hu : X.A.units + 1 < cLine) (ho : VE X en o td) (hi : VE X en i ty) (hs : NoSl i := by exact fun _ _ => rfl) : VE X en (.Subscript o i pos) (eBin vDGet td ty) :=
  PE.imp (pe_dget hu ho hi hs) fun σ H Q h => by
    obtain ⟨τ, S, Q0, hs, ho, h, k⟩ := h
    refine ⟨τ, S, _, hs, ho, h, fun x S1 u H1 h1 g1 r1 o1 => ?_⟩
    refine ⟨τ, S1, _, hs.mono g1.tl, o1, h1, fun y S2 v H2 h2 g2 r2 o2 => ?_⟩
    have r1 := Rp.mono g2.tl _ _ r1
    obtain ⟨a, kvs, ns, d, rfl, rfl, ha, hl, h2⟩ := h2.inv
    simp only [Rp] at r1; subst r1
    obtain ⟨b, rfl, hb⟩ := key_tup r2
    obtain ⟨ws, ea, _, kv⟩ := ha.dT o2.so
    obtain ⟨w, hw, rw'⟩ := (kv.lk inlMap_inj (k := ns)).1 d hl
    exact ⟨a, w, rfl, .inr ⟨ws, _, b, ea, rfl, hb, hw.symm⟩, k _ _ _ _ h2 (g1.trans g2) rw' o2⟩
/-- d.get(k, x) -/
def vDGet2 (x y z : D) (S : Sto) (Q : KE) : Prop := match x, y with
  | .ref a, .tup ks => ∃ kvs ns, rdD S a kvs ∧ ks = ns.map .int ∧ Q ((lkD kvs ns).getD z) S
  | _, _ => False
theorem vDGet2.inv {x y z : D} {S : Sto} {Q : KE} (h : vDGet2 x y z S Q) : ∃ a kvs ns, x = .ref a ∧ y = .tup (ns.map .int) ∧ rdD S a kvs ∧ Q ((lkD kvs ns).getD z) S := by
  unfold vDGet2 at h
  split at h
  · obtain ⟨kvs, ns, ha, rfl, h⟩ := h; exact ⟨_, kvs, ns, rfl, rfl, ha, h⟩
  · exact h.elim
def eDGet2 (td ty tz : RE) : RE := fun τ S Q => td τ S fun x S1 => (∃ a, x = .ref a ∧ ∃ kvs, rdD S1 a kvs) ∧ ty τ S1 fun y S2 => tz τ S2 fun z S3 => vDGet2 x y z S3 Q
theorem ve_dget2 {o e f : Expr} {td ty tz : RE} {apos cpos : Pos} (hu : X.A.units + 1 < cLine) (ho : VE X en o td) (he : VE X en e ty) (hf : VE X en f tz) (m : M2 X o "get" apos e f cpos) : VE X en (.Call (.Attribute o "get" apos) [e, f] [] cpos) (eDGet2 td ty tz) :=
  PE.imp (pe_dget2 hu ho he hf m) fun σ H Q h => by
    obtain ⟨τ, S, Q0, hs, ho, h, k⟩ := h
    refine ⟨τ, S, _, hs, ho, h, fun x S1 u H1 h1 g1 r1 o1 => ?_⟩
    obtain ⟨⟨a, rfl, kvs0, ha0⟩, h1⟩ := h1
    simp only [Rp] at r1; subst r1
    obtain ⟨ws0, ea0, _, _⟩ := ha0.dT o1.so
    refine ⟨a, rfl, .inr ⟨ws0, ea0⟩, ?_⟩
    refine ⟨τ, S1, _, hs.mono g1.tl, o1, h1, fun y S2 v H2 h2 g2 r2 o2 => ?_⟩
    refine ⟨τ, S2, _, hs.mono (g1.trans g2).tl, o2, h2, fun z S3 w H3 h3 g3 r3 o3 => ?_⟩
    obtain ⟨a', kvs, ns, ex, rfl, ha, h3⟩ := h3.inv
    cases ex
    obtain ⟨b, rfl, hb⟩ := key_tup (Rp.mono g3.tl _ _ r2)
    obtain ⟨ws, ea, _, kv⟩ := ha.dT o3.so
    have lk := kv.lk inlMap_inj (k := ns)
    cases q : lkD kvs ns with
    | none =>
      rw [q] at h3
      exact ⟨none, .inr ⟨ws, _, b, ea, rfl, hb, (lk.2 q).symm⟩, k _ _ _ _ h3 ((g1.trans g2).trans g3) r3 o3⟩
    | some d =>
      rw [q] at h3
      obtain ⟨w', hw, rw'⟩ := lk.1 d q
      exact ⟨some w', .inr ⟨ws, _, b, ea, rfl, hb, hw.symm⟩, k _ _ _ _ h3 ((g1.trans g2).trans g3) rw' o3⟩
/-- k in d, k not in d -/
def vDIn (neg : Bool) : D → D → Sto → KE → Prop
  | .tup ks, .ref a, S, Q => ∃ kvs ns, rdD S a kvs ∧ ks = ns.map .int ∧ Q (.bl (neg != (lkD kvs ns).isSome)) S
  | _, _, _, _ => False
theorem vDIn.inv {neg : Bool} {x y : D} {S : Sto} {Q : KE} (h : vDIn neg x y S Q) : ∃ a kvs ns, y = .ref a ∧ x = .tup (ns.map .int) ∧ rdD S a kvs ∧ Q (.bl (neg != (lkD kvs ns).isSome)) S := by
  unfold vDIn at h
  split at h
  · obtain ⟨kvs, ns, ha, rfl, h⟩ := h; exact ⟨_, kvs, ns, rfl, rfl, ha, h⟩
  · exact h.elim
theorem din_core {σ : L2.St} {H : Hp} {Q : VK} {ty td : RE} {neg : Bool} (h : lowE X.K en (eBin (vDIn neg) ty td) σ H Q) : (lowE X.K en ty) σ H fun y H1 => (lowE X.K en td) σ H1 fun x H2 => ∃ a o, x = .ref a ∧ DGet H2 a y o ∧ Q (.bl (neg != o.isSome)) H2 := by
  obtain ⟨τ, S, Q0, hs, ho, h, k⟩ := h
  refine ⟨τ, S, _, hs, ho, h, fun x S1 u H1 h1 g1 r1 o1 => ?_⟩
  refine ⟨τ, S1, _, hs.mono g1.tl, o1, h1, fun y S2 v H2 h2 g2 r2 o2 => ?_⟩
  obtain ⟨a, kvs, ns, rfl, rfl, ha, h2⟩ := h2.inv
  simp only [Rp] at r2; subst r2
  obtain ⟨b, rfl, hb⟩ := key_tup (Rp.mono g2.tl _ _ r1)
  obtain ⟨ws, ea, _, kv⟩ := ha.dT o2.so
  have lk := kv.lk inlMap_inj (k := ns)
  cases q : lkD kvs ns with
  | none =>
    rw [q] at h2
    exact ⟨a, none, rfl, .inr ⟨ws, _, b, ea, rfl, hb, (lk.2 q).symm⟩, k _ _ _ _ h2 (g1.trans g2) (by simp only [Rp, Option.isSome]) o2⟩
  | some d =>
    rw [q] at h2
    obtain ⟨w', hw, rw'⟩ := lk.1 d q
    exact ⟨a, some w', rfl, .inr ⟨ws, _, b, ea, rfl, hb, hw.symm⟩, k _ _ _ _ h2 (g1.trans g2) (by simp only [Rp, Option.isSome]) o2⟩
/-- d[k] = v -/
def vDPut (x y v : D) (S : Sto) (k : Sto → Prop) : Prop := match x, y with
  | .ref a, .tup ks => ∃ kvs ns, S a = some (.dI kvs) ∧ ks = ns.map .int ∧ kvs.length < 10000000 ∧ k (put S a (.dI (puD kvs ns v)))
  | _, _ => False
theorem vDPut.inv {x y v : D} {S : Sto} {k : Sto → Prop} (h : vDPut x y v S k) : ∃ a kvs ns, x = .ref a ∧ y = .tup (ns.map .int) ∧ S a = some (.dI kvs) ∧ kvs.length < 10000000 ∧ k (put S a (.dI (puD kvs ns v))) := by
  unfold vDPut at h
  split at h
  · obtain ⟨kvs, ns, ha, rfl, h⟩ := h; exact ⟨_, kvs, ns, rfl, rfl, ha, h⟩
  · exact h.elim
def sDPut (td ty tv : RE) : RS := fun D0 τ S => tv τ S fun v S1 => td τ S1 fun x S2 => ty τ S2 fun y S3 => vDPut x y v S3 (D0.nx τ)
theorem vs_dput {o i value : Expr} {td ty tv : RE} {pos pos' : Pos} (hu : X.A.units + 1 < cLine) (ho : VE X en o td) (hi : VE X en i ty) (hv : VE X en value tv) (hs : swapsWith value (some (.Subscript o i pos')) pos.line X.env = pure false := by rfl) :
    VSt X en (.Assign [.Subscript o i pos'] value pos) (sDPut td ty tv) := PS.imp (ps_dput hu ho hi hv hs) fun D0 σ H h => by
  obtain ⟨τ, S, E0, hs, ho, h, e⟩ := h
  refine ⟨τ, S, _, hs, ho, h, fun v S1 u H1 h1 g1 r1 o1 => ?_⟩
  refine ⟨τ, S1, _, hs.mono g1.tl, o1, h1, fun x S2 ux H2 h2 g2 r2 o2 => ?_⟩
  refine ⟨τ, S2, _, hs.mono (g1.trans g2).tl, o2, h2, fun y S3 uy H3 h3 g3 r3 o3 => ?_⟩
  have r1 := Rp.mono (g2.trans g3).tl _ _ r1
  obtain ⟨a, kvs, ns, rfl, rfl, ha, hz, h3⟩ := h3.inv
  have r2 := Rp.mono g3.tl _ _ r2
  simp only [Rp] at r2; subst r2
  obtain ⟨b, rfl, hb⟩ := key_tup r3
  obtain ⟨ws, ea, zw, kv⟩ := o3.so.dI ha
  have hl := kv.length
  have t : TL H3 (upd H3 a (.dT (putK ws (ns.map Sum.inl) u))) := TL.mut ea trivial
  refine ⟨a, _, rfl, DPut.t ea hb (by rw [← hl]; exact line10' hz), ?_⟩
  have gm : Go S3 H3 (put S3 a (.dI (puD kvs ns v))) (upd H3 a (.dT (putK ws (ns.map Sum.inl) u))) := Go.mut ha ea trivial
  refine e.nx _ _ _ _ h3 (((g1.trans g2).trans g3).trans gm) ((hs.mono ((g1.trans g2).trans g3).tl).mono t) (o3.go gm (o3.so.set ea trivial ⟨_, rfl, ?_, (kv.pu inlMap_inj r1).mono t⟩))
  exact Nat.le_trans (putK_length _ _ _) (by rw [← hl]; exact line10 hz)
/-- {} -/
def eDNew : RE := fun _ S Q => ∀ p, S p = none → Q (.ref p) (put S p (.dI []))
theorem ve_dnew {pos : Pos} : VE X en (.Dict [] [] pos) eDNew := PE.imp pe_dnewT fun σ H Q h => by
  obtain ⟨τ, S, Q0, hs, ho, h, k⟩ := h
  exact fun p hp => k _ _ _ _ (h p (ho.nope hp)) (Go.new hp) (by simp only [Rp]) (ho.go (Go.new hp) (ho.so.new hp ⟨[], rfl, Nat.zero_le _, .nil⟩))
/-! ### a list's item stored -/
def vLSet (x y v : D) (S : Sto) (k : Sto → Prop) : Prop := match x, y with
  | .ref a, .int i => ∃ xs j, S a = some (.lst xs) ∧ ixN xs.length i = some j ∧ k (put S a (.lst (xs.set j v)))
  | _, _ => False
theorem vLSet.inv {x y v : D} {S : Sto} {k : Sto → Prop} (h : vLSet x y v S k) : ∃ a i xs j, x = .ref a ∧ y = .int i ∧ S a = some (.lst xs) ∧ ixN xs.length i = some j ∧ k (put S a (.lst (xs.set j v))) := by
  unfold vLSet at h
  split at h
  · obtain ⟨xs, j, h⟩ := h; exact ⟨_, _, xs, j, rfl, rfl, h⟩
  · exact h.elim
def gSub (to ti : RE) : RG := fun v τ S Q => to τ S fun x S1 => ti τ S1 fun y S2 => vLSet x y v S2 (Q τ)
theorem vg_sub {o i : Expr} {to ti : RE} {pos : Pos} (ho : VE X en o to) (hi : VE X en i ti)
    (ha : ∀ v, assign (.Subscript o i pos) X.env v = (do
      let ov ← holding [v] (eval o X.env)
      let iv ← holding [v, ov] (eval i X.env)
      standAt pos
      holding [v, ov, iv] (setItem ov iv v)
      release [v, ov, iv] []) := by intro _; rfl) : VG X en (.Subscript o i pos) (gSub to ti) := PG.imp (pg_sub ho hi set_list ha) fun v σ H Q h => by
  obtain ⟨d, τ, S, Q0, r, hs, ho, h, k⟩ := h
  refine ⟨τ, S, _, hs, ho, h, fun x S1 ux H1 h1 g1 r1 o1 => ?_⟩
  refine ⟨τ, S1, _, hs.mono g1.tl, o1, h1, fun y S2 uy H2 h2 g2 r2 o2 => ?_⟩
  have r1 := Rp.mono g2.tl _ _ r1
  have r := Rp.mono (g1.trans g2).tl _ _ r
  obtain ⟨a, i, xs, j, rfl, rfl, ha, hj, h2⟩ := h2.inv
  simp only [Rp] at r1 r2; subst r1 r2
  obtain ⟨vs, ea, zv, rv⟩ := o2.so.lst ha
  have t : TL H2 (upd H2 a (.lst (vs.set j v))) := TL.mut ea trivial
  have gm : Go S2 H2 (put S2 a (.lst (xs.set j d))) (upd H2 a (.lst (vs.set j v))) := Go.mut ha ea trivial
  refine ⟨a, vs, i, j, rfl, rfl, ea, by rw [← rv.length]; exact hj, ?_⟩
  exact k _ _ _ _ h2 ((g1.trans g2).trans gm) ((hs.mono (g1.trans g2).tl).mono t) (o2.go gm (o2.so.set ea trivial ⟨_, rfl, by rw [List.length_set]; exact zv, (Rps.mono t _ _ rv).set (Rp.mono t _ _ r) j⟩))
/-! ### methods -/
def MeV (K : PySem.W.Frag) (T : String) (f : D → List D → Sto → KE → Prop) (r : V → List V → Hp → VK → Prop) : Prop := ∀ (H : Hp) (S : Sto) (x : D) (xs : List D) (u : V) (us : List V) (Q : KE) (R : VK), SO K H S → Rp K H x u → Rps K H xs us → f x xs S Q →
  (∀ d S' z H', Q d S' → Go S H S' H' → Rp K H' d z → SO K H' S' → R z H') → r u us H R
/-- the receiver is of the type -/
def isT (T : String) (x : D) (S : Sto) : Prop := match x with
  | .str _ => T = "str"
  | .ref a => (T = "list" ∧ ∃ xs, rdL S a xs) ∨ (T = "dict" ∧ ∃ kvs, S a = some (.dI kvs))
  | _ => False
theorem isT.ty {K : PySem.W.Frag} {H : Hp} {S : Sto} {T : String} {x : D} {u : V} (h : isT T x S) (o : SO K H S) (r : Rp K H x u) : tyV K T u H := by
  cases x with
  | str s => simp only [Rp] at r; subst r; exact h
  | ref a =>
    simp only [Rp] at r; subst r
    rcases h with ⟨e, xs, h⟩ | ⟨e, kvs, h⟩
    · obtain ⟨vs, hq, _, _⟩ := h.sq o
      exact .inl ⟨e, vs, hq⟩
    · obtain ⟨ws, ea, _, _⟩ := o.dI h
      exact .inr (.inr (.inl ⟨e, .inr ⟨ws, ea⟩⟩))
  | _ => exact h.elim
def eM0 (T : String) (f : D → List D → Sto → KE → Prop) (to : RE) : RE := fun τ S Q => to τ S fun x S1 => isT T x S1 ∧ f x [] S1 Q
def eM (T : String) (f : D → List D → Sto → KE → Prop) (to : RE) (ts : List RE) : RE := fun τ S Q => to τ S fun x S1 => isT T x S1 ∧ eArgs ts τ S1 fun xs S2 => f x xs S2 Q
theorem ve_bm0 {f : D → List D → Sto → KE → Prop} {o : Expr} {to : RE} {name : Str} {apos cpos : Pos} {T id : String} {r : V → List V → Hp → VK → Prop} (pa : PlainAttrs T) (slot : Slot T name id) (hty : typeOf (.builtin id) = pure (.type "method_descriptor")) (hm : MtR X id r) (hf : MeV X.K T f r) (ho : VE X en o to)
    (hbase : attributeBase o name X.env (eval o X.env) = eval o X.env := by rfl) (hline : (apos.endLine == cpos.line) = true := by rfl) : VE X en (.Call (.Attribute o name apos) [] [] cpos) (eM0 T f to) :=
  PE.imp (pe_bm0 pa slot hty hm ho hbase hline) fun σ H Q h => by
    obtain ⟨τ, S, Q0, hs, ho, h, k⟩ := h
    refine ⟨τ, S, _, hs, ho, h, fun x S1 u H1 h1 g1 r1 o1 => ⟨h1.1.ty o1.so r1, ?_⟩⟩
    exact hf H1 S1 x [] u [] Q0 Q o1.so r1 Rps.nil h1.2 fun d S' z H' q g r o => k _ _ _ _ q (g1.trans g) r (o1.go g o)
theorem ve_bm {f : D → List D → Sto → KE → Prop} {o e : Expr} {es : List Expr} {to : RE} {ts : List RE} {name : Str} {apos cpos : Pos} {T id : String} {r : V → List V → Hp → VK → Prop} (pa : PlainAttrs T) (slot : Slot T name id) (hty : typeOf (.builtin id) = pure (.type "method_descriptor")) (hm : MtR X id r) (hf : MeV X.K T f r) (ho : VE X en o to) (ha : VA X en (e :: es) ts)
    (hbase : attributeBase o name X.env (eval o X.env) = eval o X.env := by rfl)
    (hfew : ((backTo cpos (starEach (e :: es) X.env)).all (fun x => !x.1) && (backToKw cpos (keywordEach [] X.env)).all (fun x => x.1.isSome)
      && decide ((e :: es).length + ([] : List Keyword).length + (if ([] : List Keyword).isEmpty then 0 else 1) < 30)) = true := by rfl)
    (hline : (apos.endLine == cpos.line) = true := by rfl) (hs : starEach (e :: es) X.env = (false, eval e X.env) :: starEach es X.env := by rfl) (hplain : (backTo cpos (starEach es X.env)).any (·.1) = false := by rfl) :
    VE X en (.Call (.Attribute o name apos) (e :: es) [] cpos) (eM T f to ts) :=
  PE.imp (pe_bm pa slot hty hm ho ha.1 hbase hfew hline hs hplain) fun σ H Q h => by
    obtain ⟨τ, S, Q0, hs, ho, h, k⟩ := h
    refine ⟨τ, S, _, hs, ho, h, fun x S1 u H1 h1 g1 r1 o1 => ⟨h1.1.ty o1.so r1, ?_⟩⟩
    refine args_ok (hs.mono g1.tl) o1 h1.2 fun ds S2 vs H2 q2 g2 r2 hz o2 => ?_
    exact hf H2 S2 x ds u vs Q0 Q o2.so (Rp.mono g2.tl _ _ r1) r2 q2 fun d S' z H' q g r o => k _ _ _ _ q ((g1.trans g2).trans g) r (o2.go g o)
def mAppend : D → List D → Sto → KE → Prop := fun x vs S Q => match x, vs with
  | .ref a, [y] => ∃ xs, S a = some (.lst xs) ∧ xs.length < 10000000 ∧ Q .non (put S a (.lst (xs ++ [y])))
  | _, _ => False
theorem me_append {K : PySem.W.Frag} : MeV K "list" mAppend rAppend := by
  intro H S x xs u us Q R o rx rs h k
  unfold mAppend at h
  split at h
  · rename_i a y
    obtain ⟨zs, ha, hz, h⟩ := h
    simp only [Rp] at rx; subst rx
    simp only [Rps] at rs
    obtain ⟨v, w, rfl, ry, rfl⟩ := rs
    obtain ⟨vs, ea, zv, rv⟩ := o.lst ha
    have hl := rv.length
    have t : TL H (upd H a (.lst (vs ++ [v]))) := TL.mut ea trivial
    refine ⟨a, vs, v, rfl, rfl, ea, by rw [← hl]; exact line10' hz, k _ _ _ _ h (Go.mut ha ea trivial) (by simp only [Rp]) (o.set ea trivial ⟨_, rfl, ?_, (Rps.mono t _ _ rv).append (Rps.one (Rp.mono t _ _ ry))⟩)⟩
    rw [List.length_append, List.length_singleton, ← hl]; exact line10 hz
  · exact h.elim
def mPop : D → List D → Sto → KE → Prop := fun x vs S Q => match x, vs with
  | .ref a, [] => ∃ xs y, S a = some (.lst xs) ∧ xs[xs.length - 1]? = some y ∧ Q y (put S a (.lst xs.dropLast))
  | _, _ => False
theorem me_pop {K : PySem.W.Frag} : MeV K "list" mPop rPop := by
  intro H S x xs u us Q R o rx rs h k
  unfold mPop at h
  split at h
  · rename_i a
    obtain ⟨zs, y, ha, hy, h⟩ := h
    simp only [Rp] at rx; subst rx
    simp only [Rps] at rs; subst rs
    obtain ⟨vs, ea, zv, rv⟩ := o.lst ha
    have hl := rv.length
    obtain ⟨v, hv, ry⟩ := rv.get hy
    have t : TL H (upd H a (.lst vs.dropLast)) := TL.mut ea trivial
    refine ⟨a, vs, v, rfl, rfl, ea, by rw [← hl]; exact hv, k _ _ _ _ h (Go.mut ha ea trivial) (Rp.mono t _ _ ry) (o.set ea trivial ⟨_, rfl, by rw [List.length_dropLast]; omega, ?_⟩)⟩
    have q : ∀ n, n = zs.length - 1 → Rps K (upd H a (.lst vs.dropLast)) (zs.take n) (vs.take n) := fun n _ => (Rps.mono t _ _ rv).take n
    have e1 : zs.dropLast = zs.take (zs.length - 1) := List.dropLast_eq_take
    have e2 : vs.dropLast = vs.take (zs.length - 1) := by rw [hl]; exact List.dropLast_eq_take
    have q1 := q _ rfl
    rw [← e1, ← e2] at q1
    exact q1
  · exact h.elim
/-! ### built-ins -/
def cLen : List D → Sto → KE → Prop := fun vs S Q => match vs with
  | [.tup xs] => Q (.int xs.length) S
  | [.scr ns] => Q (.int ns.length) S
  | [.str z] => z.length ≤ 10000000 ∧ Q (.int z.length) S
  | [.ref a] => (∃ xs, rdL S a xs ∧ Q (.int xs.length) S)
  | _ => False
def rLenAny (K : PySem.W.Frag) : List V → Hp → VK → Prop := fun xs H Q => ∃ x n, xs = [x] ∧ LenV K x H n ∧ Q (.int n) H
theorem ca_len {K : PySem.W.Frag} : CaV K cLen (rLenAny K) := by
  intro H S xs us Q R o r h k
  unfold cLen at h
  split at h
  · simp only [Rps] at r; obtain ⟨v, w, rfl, r, rfl⟩ := r
    simp only [Rp] at r
    obtain ⟨a, vs, rfl, ha, hz, r⟩ := r
    exact ⟨_, vs.length, rfl, .inr ⟨vs, SqT.of ha, rfl⟩, by rw [← r.length]; exact k _ _ _ _ h (Go.refl S H) (by simp only [Rp]) o⟩
  · simp only [Rps] at r; obtain ⟨v, w, rfl, r, rfl⟩ := r
    simp only [Rp] at r
    obtain ⟨a, rfl, hq, hz⟩ := r
    exact ⟨_, _, rfl, .inl ⟨_, hq.sq, rfl⟩, by rw [List.length_map]; exact k _ _ _ _ h (Go.refl S H) (by simp only [Rp]) o⟩
  · simp only [Rps, Rp] at r; obtain ⟨v, w, rfl, rfl, rfl⟩ := r
    exact ⟨_, _, rfl, ⟨line10 h.1, rfl⟩, k _ _ _ _ h.2 (Go.refl S H) (by simp only [Rp]) o⟩
  · simp only [Rps, Rp] at r; obtain ⟨v, w, rfl, rfl, rfl⟩ := r
    obtain ⟨xs, hr, h⟩ := h
    obtain ⟨vs, hq, hz, r⟩ := hr.sq o
    exact ⟨_, vs.length, rfl, .inl ⟨vs, hq, rfl⟩, by rw [← r.length]; exact k _ _ _ _ h (Go.refl S H) (by simp only [Rp]) o⟩
  · exact h.elim
def cInt : List D → Sto → KE → Prop := fun vs S Q => match vs with
  | [.int i] => Q (.int i) S
  | [.bl k] => Q (.int (if k then 1 else 0)) S
  | _ => False
theorem ca_int {K : PySem.W.Frag} : CaV K cInt (fun xs H Q => (∃ i, xs = [.int i] ∧ Q (.int i) H) ∨ ∃ k, xs = [.bl k] ∧ Q (.int (if k then 1 else 0)) H) := by
  intro H S xs us Q R o r h k
  unfold cInt at h
  split at h
  · simp only [Rps, Rp] at r; obtain ⟨v, w, rfl, rfl, rfl⟩ := r
    exact .inl ⟨_, rfl, k _ _ _ _ h (Go.refl S H) (by simp only [Rp]) o⟩
  · simp only [Rps, Rp] at r; obtain ⟨v, w, rfl, rfl, rfl⟩ := r
    exact .inr ⟨_, rfl, k _ _ _ _ h (Go.refl S H) (by simp only [Rp]) o⟩
  · exact h.elim
def cAbs : List D → Sto → KE → Prop := fun vs S Q => match vs with
  | [.int i] => Q (.int (if i < 0 then -i else i)) S
  | _ => False
theorem ca_abs {K : PySem.W.Frag} : CaV K cAbs (fun xs H Q => ∃ i, xs = [.int i] ∧ Q (.int (if i < 0 then -i else i)) H) := by
  intro H S xs us Q R o r h k
  unfold cAbs at h
  split at h
  · simp only [Rps, Rp] at r; obtain ⟨v, w, rfl, rfl, rfl⟩ := r
    exact ⟨_, rfl, k _ _ _ _ h (Go.refl S H) (by simp only [Rp]) o⟩
  · exact h.elim
def cMax2 : List D → Sto → KE → Prop := fun vs S Q => match vs with
  | [.int i, .int j] => Q (.int (if j > i then j else i)) S
  | _ => False
theorem ca_max2 {K : PySem.W.Frag} : CaV K cMax2 (fun xs H Q => ∃ i j, xs = [.int i, .int j] ∧ Q (.int (if j > i then j else i)) H) := by
  intro H S xs us Q R o r h k
  unfold cMax2 at h
  split at h
  · simp only [Rps, Rp] at r; obtain ⟨v, w, rfl, rfl, v2, w2, rfl, rfl, rfl⟩ := r
    exact ⟨_, _, rfl, k _ _ _ _ h (Go.refl S H) (by simp only [Rp]) o⟩
  · exact h.elim
def cMin2 : List D → Sto → KE → Prop := fun vs S Q => match vs with
  | [.int i, .int j] => Q (.int (if j < i then j else i)) S
  | _ => False
theorem ca_min2 {K : PySem.W.Frag} : CaV K cMin2 (fun xs H Q => ∃ i j, xs = [.int i, .int j] ∧ Q (.int (if j < i then j else i)) H) := by
  intro H S xs us Q R o r h k
  unfold cMin2 at h
  split at h
  · simp only [Rps, Rp] at r; obtain ⟨v, w, rfl, rfl, v2, w2, rfl, rfl, rfl⟩ := r
    exact ⟨_, _, rfl, k _ _ _ _ h (Go.refl S H) (by simp only [Rp]) o⟩
  · exact h.elim
/-- tuple(xs), tuple(t) -/
def cTuple : List D → Sto → KE → Prop := fun vs S Q => match vs with
  | [.tup xs] => Q (.tup xs) S
  | [.ref a] => ∃ xs, rdL S a xs ∧ Q (.tup xs) S
  | _ => False
def rTupleOf (K : PySem.W.Frag) : List V → Hp → VK → Prop := fun xs H Q => ∃ p ys, xs = [.ref p] ∧ ((SqL K H p ys ∧ ∀ l, H l = none → Q (.ref l) (upd H l (.tup ys))) ∨ (SqT K H p ys ∧ Q (.ref p) H))
theorem ca_tuple {K : PySem.W.Frag} : CaV K cTuple (rTupleOf K) := by
  intro H S xs us Q R o r h k
  unfold cTuple at h
  split at h
  · simp only [Rps] at r; obtain ⟨v, w, rfl, r, rfl⟩ := r
    have r' := r
    simp only [Rp] at r
    obtain ⟨a, vs, rfl, ha, hz, r⟩ := r
    exact ⟨a, vs, rfl, .inr ⟨SqT.of ha, k _ _ _ _ h (Go.refl S H) r' o⟩⟩
  · simp only [Rps, Rp] at r; obtain ⟨v, w, rfl, rfl, rfl⟩ := r
    obtain ⟨xs, hr, h⟩ := h
    obtain ⟨vs, hq, hz, r⟩ := hr.sq o
    exact ⟨_, vs, rfl, .inl ⟨hq, fun p hp => k _ _ _ _ h (Go.new' hp) (by simp only [Rp]; exact ⟨p, vs, rfl, upd_same, hz, Rps.mono (TL.new hp) _ _ r⟩) (o.new' hp)⟩⟩
  · exact h.elim
/-- tuple([..]) -/
theorem cl_tuple {K : PySem.W.Frag} : CaL K (fun xs S Q => Q (.tup xs) S) (rTupleOf K) := by
  intro H S p xs us Q R o e z r h k
  exact ⟨p, us, rfl, .inl ⟨SqL.of e, fun q hq => k _ _ _ _ h (Go.new' hq) (by simp only [Rp]; exact ⟨q, us, rfl, upd_same, z, Rps.mono (TL.new hq) _ _ r⟩) (o.new' hq)⟩⟩
/-- list(xs), list(t) -/
def cList : List D → Sto → KE → Prop := fun vs S Q => match vs with
  | [.tup xs] => ∀ p, S p = none → Q (.ref p) (put S p (.lst xs))
  | [.ref a] => ∃ xs, rdL S a xs ∧ ∀ p, S p = none → Q (.ref p) (put S p (.lst xs))
  | _ => False
def rListOf (K : PySem.W.Frag) : List V → Hp → VK → Prop := fun xs H Q => ∃ p ys, xs = [.ref p] ∧ (SqL K H p ys ∨ SqT K H p ys) ∧ ∀ l, H l = none → Q (.ref l) (upd H l (.lst ys))
theorem ca_list {K : PySem.W.Frag} : CaV K cList (rListOf K) := by
  intro H S xs us Q R o r h k
  unfold cList at h
  split at h
  · simp only [Rps] at r; obtain ⟨v, w, rfl, r, rfl⟩ := r
    simp only [Rp] at r
    obtain ⟨a, vs, rfl, ha, hz, r⟩ := r
    exact ⟨a, vs, rfl, .inr (SqT.of ha), fun p hp => k _ _ _ _ (h p (o.nope hp)) (Go.new hp) (by simp only [Rp]) (o.new hp ⟨_, rfl, hz, Rps.mono (TL.new hp) _ _ r⟩)⟩
  · simp only [Rps, Rp] at r; obtain ⟨v, w, rfl, rfl, rfl⟩ := r
    obtain ⟨xs, hr, h⟩ := h
    obtain ⟨vs, hq, hz, r⟩ := hr.sq o
    exact ⟨_, vs, rfl, .inl hq, fun p hp => k _ _ _ _ (h p (o.nope hp)) (Go.new hp) (by simp only [Rp]) (o.new hp ⟨_, rfl, hz, Rps.mono (TL.new hp) _ _ r⟩)⟩
  · exact h.elim
end
end VL
/-! VL7: a dict against the empty one; slices; isinstance; sorted. -/
namespace VL
open PySem PySem.Spec PyProof.Rows L2
section
variable {prog : Program} {w : World} {A : Around} {E : Value → Shared → Prop} {s : Shared}
theorem samePairs_nil {nm : String} {a b : Addr} {oa ob : Obj} {es : Array DictEntry} {ep ep' : Nat} {Q : Bool → Shared → Prop} (ha : (a == sysModules) = false) (hb : (b == sysModules) = false)
    (hoa : s.heap.get? a = some oa) (hda : oa.data = .dict es ep) (hob : s.heap.get? b = some ob) (hdb : ob.data = .dict #[] ep') (h : Q (es.size == 0) s) :
    wpAny (model prog w) A (Builtin.Dict.samePairs nm a b) Q E s := by
  unfold Builtin.Dict.samePairs Builtin.Dict.showsAll
  rw [if_neg (show ¬ (a == sysModules) = true by rw [ha]; exact Bool.false_ne_true), if_neg (show ¬ (b == sysModules) = true by rw [hb]; exact Bool.false_ne_true)]
  refine wpAny_bind (wpAny_pure (wpAny_bind (wpAny_pure ?_)))
  refine wpAny_bind (wpAny_dictEntries hoa hda ?_)
  dsimp only
  refine wpAny_bind (wpAny_dictEntries hob hdb ?_)
  by_cases hsz : es.size = 0
  case neg =>
    rw [if_pos (by simpa using hsz)]
    have hbf : (es.size == 0) = false := by simpa using hsz
    rw [hbf] at h
    exact wpAny_bind (wpAny_rule (wpAny_pure h))
  case pos =>
    have h' : Q true s := by simpa [hsz] using h
    rw [if_neg (by rw [hsz]; simp)]
    refine wpAny_bind (wpAny_dictEpoch hoa hda ?_)
    refine wpAny_bind ?_
    rw [Std.Legacy.Range.forIn_eq_forIn_range']
    simp only [Std.Legacy.Range.size, Nat.sub_zero, Nat.add_sub_cancel, Nat.div_one]
    rw [hsz]
    exact wpAny_pure (wpAny_pure h')
theorem ne_nilT {a b : Addr} {oa ob : Obj} {es : Array DictEntry} {ep ep' : Nat} {Q : Value → Shared → Prop} (ha : (a == sysModules) = false) (hb : (b == sysModules) = false)
    (hoa : s.heap.get? a = some oa) (ea : oa.ExactDict) (hda : oa.data = .dict es ep) (hob : s.heap.get? b = some ob) (eb : ob.ExactDict) (hdb : ob.data = .dict #[] ep') (hu : A.units < cLine) (h : Q (.bool (!(es.size == 0))) s) :
    wpAny (model prog w) A (compareOp .NotEq (.ref a) (.ref b)) Q E s := by
  have ta : s.TypeIs (.ref a) "dict" := ⟨oa, hoa, ea.1⟩
  have tb : s.TypeIs (.ref b) "dict" := ⟨ob, hob, eb.1⟩
  refine wpAny_richCompare_same_room (op := .NotEq) ta tb PySem.F.slot_dict_ne (wpAny_call_entry PySem.F.slot_dict_ne ta PySem.F.entry_dict_ne ?_ (PySem.F.args_dict_ne_2 _ _)) hu
  show wpAny _ _ (Builtin.Dict.dictSlotArgs "__ne__" ⟨[.ref a, .ref b], []⟩ >>= _) _ _ s
  refine wpAny_bind ?_
  unfold Builtin.Dict.dictSlotArgs
  refine wpAny_bind (wpAny_notOrdered_dict ta ?_)
  show wpAny _ _ (pure (Value.ref a, Value.ref b)) _ _ s
  refine wpAny_pure ?_
  refine wpAny_bind (wpAny_isInstance (T := "dict") tb PySem.F.sub_dict_dict ?_)
  simp only [Bool.not_true, Bool.false_eq_true, if_false]
  refine wpAny_bind (wpAny_pure (wpAny_bind (wpAny_pure ?_)))
  refine wpAny_bind (samePairs_nil ha hb hoa hda hob hdb ?_)
  refine wpAny_pure ⟨_, rfl, ?_, ?_⟩
  · exact fun x => nomatch x
  · simpa using h
end
section
variable {X : Cx} {en : Ent}
/-- d != {} -/
def rNeNil : R2 := fun x y H Q => ∃ a b ws, x = .ref a ∧ y = .ref b ∧ H a = some (.dT ws) ∧ H b = some (.dT []) ∧ Q (.bl (!(ws.length == 0))) H
theorem op_neNil (hu : X.A.units < cLine) : OpR X (compareOp .NotEq) rNeNil := by
  intro pins s σ H x y v u Q I rx ry h
  obtain ⟨a, b, ws, rfl, rfl, ea, eb, q⟩ := h
  obtain rfl : v = Value.ref a := rx
  obtain rfl : u = Value.ref b := ry
  obtain ⟨_, na, xs, pr, oa, es, ep, ha, xa, da, le, _⟩ := (show ObjOk X.prog X.w H s.heap a (.dT ws) from I.hok a _ ea)
  obtain ⟨_, nb, ys, pr2, ob, es2, ep2, hb, xb, db, le2, _⟩ := (show ObjOk X.prog X.w H s.heap b (.dT []) from I.hok b _ eb)
  cases pr2
  have e0 : es2 = #[] := by
    have : es2.toList = [] := le2
    exact Array.toList_eq_nil_iff.mp this
  subst e0
  have l1 : es.size = ws.length := by
    have h1 : es.toList.length = xs.length := by rw [le, List.length_map]
    rw [Array.length_toList] at h1
    rw [h1, ← Paired.length pr]
  refine ne_nilT na nb ha xa da hb xb db hu ⟨.bl _, H, I, rfl, ?_⟩
  rw [l1]; exact q
def vNeNil : D → D → Sto → KE → Prop
  | .ref a, .ref b, S, Q => ∃ kvs, S a = some (.dI kvs) ∧ S b = some (.dI []) ∧ Q (.bl (!(kvs.length == 0))) S
  | _, _, _, _ => False
theorem ov_neNil {K : PySem.W.Frag} : OpV K vNeNil rNeNil := by
  intro H S x y u v Q R o rx ry h k
  unfold vNeNil at h
  split at h
  · obtain ⟨kvs, ha, hb, h⟩ := h
    simp only [Rp] at rx ry; subst rx ry
    obtain ⟨ws, ea, _, kv⟩ := o.dI ha
    obtain ⟨w2, eb, _, kv2⟩ := o.dI hb
    cases kv2
    exact ⟨_, _, ws, rfl, rfl, ea, eb, by rw [← kv.length]; exact k _ _ _ _ h (Go.refl S H) (by simp only [Rp]) o⟩
  · exact h.elim
end
/-! ### slices -/
def cutD (xs : List D) (lo hi : Option Int) : List D := (xs.drop (HT.sIx xs.length 0 lo)).take (HT.sIx xs.length xs.length hi - HT.sIx xs.length 0 lo)
def vSl : D → Option Int → Option Int → Sto → KE → Prop
  | .tup xs, lo, hi, S, Q => Q (.tup (cutD xs lo hi)) S
  | .ref a, lo, hi, S, Q => ∃ xs, rdL S a xs ∧ ∀ p, S p = none → Q (.ref p) (put S p (.lst (cutD xs lo hi)))
  | _, _, _, _, _ => False
theorem vSl.inv {x : D} {l m : Option Int} {S : Sto} {Q : KE} (h : vSl x l m S Q) : (∃ xs, x = .tup xs ∧ Q (.tup (cutD xs l m)) S) ∨ ∃ a xs, x = .ref a ∧ rdL S a xs ∧ ∀ p, S p = none → Q (.ref p) (put S p (.lst (cutD xs l m))) := by
  unfold vSl at h
  split at h
  · exact .inl ⟨_, rfl, h⟩
  · obtain ⟨xs, h⟩ := h; exact .inr ⟨_, xs, rfl, h⟩
  · exact h.elim
abbrev RO := VS → Sto → (Option Int → Sto → Prop) → Prop
def lowO (K : PySem.W.Frag) (en : Ent) (t : RO) : TO := fun σ H Q => ∃ τ S Q0, SR K H τ σ ∧ SQ K en H S ∧ t τ S Q0 ∧ ∀ o S' H', Q0 o S' → Go S H S' H' → SQ K en H' S' → Q o H'
def VO (X : Cx) (en : Ent) (e : Option Expr) (t : RO) : Prop := PO X e (lowO X.K en t)
def oNone : RO := fun _ S Q => Q none S
def oSome (te : RE) : RO := fun τ S Q => te τ S fun d S1 => match d with
  | .int i => Q (some i) S1
  | _ => False
def eSl (te : RE) (tl th : RO) : RE := fun τ S Q => te τ S fun x S1 => tl τ S1 fun l S2 => th τ S2 fun u S3 => vSl x l u S3 Q
section
variable {X : Cx} {en : Ent}
theorem PO.imp {e : Option Expr} {t1 t2 : TO} (p : PO X e t1) (h : ∀ σ H Q, t2 σ H Q → t1 σ H Q) : PO X e t2 := ⟨fun pins s σ H Q I q => p.run pins s σ H Q I (h σ H Q q)⟩
theorem vo_none : VO X en none oNone := PO.imp po_none fun σ H Q h => by
  obtain ⟨τ, S, Q0, hs, ho, q, k⟩ := h
  exact k _ _ _ q (Go.refl S H) ho
theorem vo_some {e : Expr} {te : RE} (h : VE X en e te) : VO X en (some e) (oSome te) := PO.imp (po_some h) fun σ H Q h => by
  obtain ⟨τ, S, Q0, hs, ho, q, k⟩ := h
  refine ⟨τ, S, _, hs, ho, q, fun d S' v H' q g r o => ?_⟩
  cases d with
  | int i => simp only [Rp] at r; exact ⟨i, r, k _ _ _ q g o⟩
  | _ => exact q.elim
def rSlAny (K : PySem.W.Frag) : V → Option Int → Option Int → Hp → VK → Prop := fun x lo hi H Q => rSlL K x lo hi H Q ∨ rSlA K x lo hi H Q
theorem ve_slice {e : Expr} {lo hi : Option Expr} {te : RE} {tl th : RO} {pos p2 : Pos} (he : VE X en e te) (hl : VO X en lo tl) (hu : VO X en hi th) : VE X en (.Subscript e (.Slice lo hi none p2) pos) (eSl te tl th) :=
  PE.imp (pe_slice (sl_list.or sl_tupA) he hl hu) fun σ H Q h => by
    obtain ⟨τ, S, Q0, hs, ho, h, k⟩ := h
    refine ⟨τ, S, _, hs, ho, h, fun x S1 u H1 h1 g1 r1 o1 => ?_⟩
    refine ⟨τ, S1, _, hs.mono g1.tl, o1, h1, fun l S2 H2 h2 g2 o2 => ?_⟩
    refine ⟨τ, S2, _, hs.mono (g1.trans g2).tl, o2, h2, fun m S3 H3 h3 g3 o3 => ?_⟩
    have r1 := Rp.mono (g2.trans g3).tl _ _ r1
    have gg := (g1.trans g2).trans g3
    rcases h3.inv with ⟨xs, rfl, h3⟩ | ⟨a0, xs, rfl, hr, h3⟩
    · simp only [Rp] at r1
      obtain ⟨a, vs, rfl, ha, hz, r⟩ := r1
      have cut : Rps X.K H3 (cutD xs l m) (cutV vs l m) := by
        unfold cutD cutV
        rw [r.length]
        exact (r.drop _).take _
      refine .inr ⟨a, vs, rfl, SqT.of ha, fun hw => ?_, fun _ p hp => ?_⟩
      · have e : cutV vs l m = vs := by
          unfold cutV
          rw [hw.1, hw.2, List.drop_zero, Nat.sub_zero, List.take_length]
        rw [e] at cut
        exact k _ _ _ _ h3 gg (by simp only [Rp]; exact ⟨a, vs, rfl, ha, hz, cut⟩) o3
      · exact k _ _ _ _ h3 (gg.trans (Go.new' hp)) (by simp only [Rp]; exact ⟨p, _, rfl, upd_same, Nat.le_trans (cutV_length _ _ _) hz, Rps.mono (TL.new hp) _ _ cut⟩) (o3.go (Go.new' hp) (o3.so.new' hp))
    · simp only [Rp] at r1; subst r1
      obtain ⟨vs, hq, hz, r⟩ := hr.sq o3.so
      have cut : Rps X.K H3 (cutD xs l m) (cutV vs l m) := by
        unfold cutD cutV
        rw [r.length]
        exact (r.drop _).take _
      exact .inl ⟨_, vs, rfl, hq, fun p hp => k _ _ _ _ (h3 p (o3.nope hp)) (gg.trans (Go.new hp)) (by simp only [Rp]) (o3.go (Go.new hp) (o3.so.new hp ⟨_, rfl, Nat.le_trans (cutV_length _ _ _) hz, Rps.mono (TL.new hp) _ _ cut⟩))⟩
/-- xs[::-1] -/
def eRev (te : RE) : RE := fun τ S Q => te τ S fun x S1 => match x with
  | .ref a => ∃ xs, rdL S1 a xs ∧ ∀ p, S1 p = none → Q (.ref p) (put S1 p (.lst xs.reverse))
  | _ => False
theorem ve_rev {e : Expr} {te : RE} {k : Nat} {p1 p2 p3 pos : Pos} (he : VE X en e te) : VE X en (.Subscript e (.Slice none none (some (.UnaryOp .USub (.Constant (.int 1) k p1) p2)) p3) pos) (eRev te) :=
  PE.imp (pe_revL he) fun σ H Q h => by
    obtain ⟨τ, S, Q0, hs, ho, h, k⟩ := h
    refine ⟨τ, S, _, hs, ho, h, fun x S1 u H1 h1 g1 r1 o1 => ?_⟩
    split at h1
    · simp only [Rp] at r1; subst r1
      obtain ⟨xs, hr, h1⟩ := h1
      obtain ⟨vs, hq, hz, r⟩ := hr.sq o1.so
      exact ⟨_, vs, rfl, hq, fun p hp => k _ _ _ _ (h1 p (o1.nope hp)) (g1.trans (Go.new hp)) (by simp only [Rp]) (o1.go (Go.new hp) (o1.so.new hp ⟨_, rfl, by rw [List.length_reverse]; exact hz, Rps.mono (TL.new hp) _ _ r.reverse⟩))⟩
    · exact h1.elim
/-! ### isinstance -/
/-- the name of a value's type -/
def tyN (S : Sto) : D → String → Prop
  | .non, n => n = "NoneType"
  | .bl _, n => n = "bool"
  | .int _, n => n = "int"
  | .str _, n => n = "str"
  | .tup _, n => n = "tuple"
  | .ref a, n => ((∃ xs, rdL S a xs) ∧ n = "list") ∨ ((∃ kvs, S a = some (.dI kvs)) ∧ n = "dict")
  | _, _ => False
theorem tyN.x {K : PySem.W.Frag} {H : Hp} {S : Sto} (o : SO K H S) {d : D} {n : String} {v : V} (h : tyN S d n) (r : Rp K H d v) : TyX K H v (.type n) := by
  cases d with
  | non => simp only [Rp] at r; subst r; cases (show n = _ from h); exact .base .non
  | bl b => simp only [Rp] at r; subst r; cases (show n = _ from h); exact .base (.bl b)
  | int b => simp only [Rp] at r; subst r; cases (show n = _ from h); exact .base (.int b)
  | str b => simp only [Rp] at r; subst r; cases (show n = _ from h); exact .base (.str b)
  | tup xs => simp only [Rp] at r; obtain ⟨a, vs, rfl, ha, _⟩ := r; cases (show n = _ from h); exact .base (.tup ha)
  | ref a =>
    simp only [Rp] at r; subst r
    rcases h with ⟨⟨xs, h⟩, rfl⟩ | ⟨⟨kvs, h⟩, rfl⟩
    · rcases h with h | h
      · obtain ⟨vs, e, _⟩ := o.lst h; exact .base (.lst e)
      · obtain ⟨u, e, ob, vs, rfl, _⟩ := o a _ h; exact .base (.frz e)
    · obtain ⟨ws, e, _⟩ := o.dI h; exact .base (.dT e)
  | oth _ => exact h.elim
  | scr _ => exact h.elim
def isTy (t n : String) : Bool := t == n || (t == "bool" && n == "int")
def tys : List String := ["NoneType", "bool", "int", "str", "tuple", "list", "dict"]
theorem kit_all : ∀ t ∈ tys, ∀ n ∈ ["bool", "int", "str", "tuple", "list", "dict"], kitB t n = some (isTy t n) := by decide +kernel
theorem tyN.mem {S : Sto} {d : D} {n : String} (h : tyN S d n) : n ∈ tys := by
  cases d with
  | ref a => rcases h with ⟨_, rfl⟩ | ⟨_, rfl⟩ <;> decide
  | oth _ => exact h.elim
  | scr _ => exact h.elim
  | _ => cases (show n = _ from h); decide
/-- isinstance(x, T), T written -/
def cIsi : List D → Sto → KE → Prop := fun vs S Q => match vs with
  | [x, .oth (.ty n)] => ∃ t, tyN S x t ∧ n ∈ ["bool", "int", "str", "tuple", "list", "dict"] ∧ Q (.bl (isTy t n)) S
  | _ => False
theorem ca_isi {K : PySem.W.Frag} : CaV K cIsi (rIsi K) := by
  intro H S xs us Q R o r h k
  unfold cIsi at h
  split at h
  · simp only [Rps] at r
    obtain ⟨v, w, rfl, r1, v2, w2, rfl, r2, rfl⟩ := r
    simp only [Rp] at r2; subst r2
    obtain ⟨t, ht, hn, h⟩ := h
    exact ⟨v, _, _, _, _, rfl, .ty _, ht.x o r1, kit_ty (kit_all t ht.mem _ hn), k _ _ _ _ h (Go.refl S H) (by simp only [Rp]) o⟩
  · exact h.elim
end
end VL
/-! VL8: sorted(d) of a dict whose keys are tuples of ints, sorted(xs) of a list of such tuples. -/
namespace VL
open PySem PySem.Spec PyProof.Rows L2 PySem.W
/-- tuples of ints in order -/
def srt (nss : List (List Int)) : List (List Int) := nss.mergeSort fun p q => decide (p ≤ q)
theorem dataLe_tups {β : Type} (x : β → List Int) : dataLe false (fun b => .tuple ((x b).map .int)) = fun p q => decide (x p ≤ x q) := by
  funext p q
  show (!dataLt (.tuple ((x q).map .int)) (.tuple ((x p).map .int))) = _
  rw [dataLt_tuple]
  show (!rowLt ((x q).map .int) ((x p).map .int)) = _
  rw [dataLt_ints]
  by_cases h : x q < x p
  · have h' : ¬ x p ≤ x q := fun r => List.not_lt.mpr r h
    simp [h, h']
  · have h' : x p ≤ x q := List.not_lt.mp h
    simp [h, h']
theorem lexLt_eq : ∀ xs ys : List Int, HT.lexLt xs ys = decide (xs < ys)
  | [], [] => by simp [HT.lexLt]
  | [], _ :: _ => by simp [HT.lexLt]
  | _ :: _, [] => by simp [HT.lexLt]
  | x :: xs, y :: ys => by
    rw [HT.lexLt_cons, lexLt_eq xs ys]
    by_cases h : x = y
    · subst h; simp [List.cons_lt_cons_iff]
    · simp [h, List.cons_lt_cons_iff]
/-- v is a tuple of the ints ns -/
def IsTI (H : Hp) (v : Value) (ns : List Int) : Prop := ∃ b, v = .ref b ∧ H b = some (.tup (ns.map V.int))
def encT (ns : List Int) : PyData := .tuple (ns.map .int)
theorem reads_ti {X : Cx} {pins : List (Addr × Obj)} {σ : L2.St} {H : Hp} {s : Shared} (I : Inv X pins σ H s) {v : Value} {ns : List Int} (h : IsTI H v ns) : ∃ as, Reads s.heap v (encT ns) as := by
  obtain ⟨b, rfl, hb⟩ := h
  have dp : Dp X.K H (.ref b) (encT ns) := .tup (SqT.of hb) (by
    clear hb
    induction ns with
    | nil => exact .nil
    | cons n r ih => exact .cons (.int n) ih)
  exact Dp.reads I _ _ _ dp rfl
theorem isTI_refs {H : Hp} : ∀ {vs : List Value} {nss : List (List Int)}, EachIs (IsTI H) vs nss → ∃ bs : List Addr, vs = bs.map Value.ref ∧ EachIs (fun b ns => H b = some (.tup (ns.map V.int))) bs nss
  | _, _, .nil => ⟨[], rfl, .nil⟩
  | _, _, .cons ⟨b, e, hb⟩ t => by
    obtain ⟨bs, e2, t2⟩ := isTI_refs t
    subst e e2
    exact ⟨b :: bs, rfl, .cons hb t2⟩
theorem vals_refs' : ∀ bs : List Addr, Vals (bs.map V.ref) (bs.map Value.ref)
  | [] => .nil
  | _ :: r => .cons rfl (vals_refs' r)
section
variable {X : Cx}
/-- what is sorted: a dict's keys, a list's items -/
def SrcT (K : PySem.W.Frag) (H : Hp) (a : Addr) (nss : List (List Int)) : Prop :=
  (∃ kvs : List (List Key × V), H a = some (.dT kvs) ∧ kvs.map (·.1) = nss.map fun ns => ns.map (Sum.inl : Int → Key)) ∨
    ∃ cs : List Addr, SqL K H a (cs.map V.ref) ∧ EachIs (fun b ns => H b = some (.tup (ns.map V.int))) cs nss
def rSortT (K : PySem.W.Frag) : List V → Hp → VK → Prop := fun xs H Q => ∃ (a : Addr) (nss : List (List Int)), xs = [.ref a] ∧ SrcT K H a nss ∧ (∀ ns ∈ nss, ns ≠ []) ∧ nss.length ≤ sizeLine ∧
  ∀ bs p, EachIs (fun b ns => H b = some (.tup (ns.map V.int))) bs (srt nss) → H p = none → Q (.ref p) (upd H p (.lst (bs.map V.ref)))
theorem depth_encT (ns : List Int) : (encT ns).depth ≤ 1 := by
  unfold encT
  rw [PyData.depth, depth_ints]
  exact Nat.le_refl _
theorem srt_len (nss : List (List Int)) : (srt nss).length = nss.length := by unfold srt; exact List.length_mergeSort _
theorem call_sortedT (hcalm : X.calm = true) (hu : X.A.units + 64 < cLine) : CallR X (.builtin "sorted") (rSortT X.K) := by
  intro pins s σ H xs us Q I r q
  obtain ⟨a, nss, ex, src, hne, hz, q⟩ := q
  subst ex
  obtain ⟨u, eu, rx⟩ := vals1 r
  subst eu
  cases rx
  have hal : AllAlike (nss.map encT) := AllAlike.of fun b b' => by simp [encT, alike, alike_ints]
  have hk : Sortable (nss.map encT) := .inl fun d hd => by
    obtain ⟨ns, hn, rfl⟩ := List.mem_map.mp hd
    cases ns with
    | nil => exact absurd rfl (hne _ hn)
    | cons x r => exact ⟨_, _, rfl⟩
  have esrt : nss.mergeSort (dataLe false encT) = srt nss := by
    have := dataLe_tups (fun ns : List Int => ns)
    unfold srt
    rw [← this]; rfl
  rcases src with ⟨kvs, hd, hks⟩ | ⟨cs, hq, hcs⟩
  · obtain ⟨z, lo, xs, pr, o, es, ep, ho, hx, hdt, he, hn⟩ := (show ObjOk X.prog X.w H s.heap a (.dT kvs) from I.hok a _ hd)
    have l1 : es.size = xs.length := size_of_entries he
    have l2 : kvs.length = xs.length := Paired.length pr
    have l3 : kvs.length = nss.length := by
      have e := congrArg List.length hks
      rw [List.length_map, List.length_map] at e
      exact e
    refine Calls.call_function_entry PyProof.Rows.kind_sorted PyProof.Rows.plain_sorted PyProof.Rows.entry_sorted (PyProof.Rows.args_sorted1 _) ?_
    unfold Builtin.«sorted»
    refine wpAny_bind (m := checkCount "sorted" 1 1 _) (wpAny_pure ?_)
    refine wpAny_bind (PySem.W.kdu_collect (A := X.A.in1) (kdl_raw lo hx hdt) (I.ok.hd hcalm) ho (by omega) fun h' tk acc hk' hacc => ?_)
    have hl0 : acc.toList.length = nss.length := by rw [Array.length_toList, hacc.1]; omega
    have ea : acc.toList = xs.map fun x => Value.ref x.2.1 := by
      have hl : acc.toList.length = xs.length := by rw [Array.length_toList, hacc.1]; exact l1
      apply List.ext_getElem?
      intro j
      rw [List.getElem?_map]
      cases hj : acc.toList[j]? with
      | none =>
        have h1 := List.getElem?_eq_none_iff.mp hj
        rw [List.getElem?_eq_none (by omega)]
        all_goals rfl
      | some v =>
        obtain ⟨en, hen, hv⟩ := hacc.2 j v (by rw [← Array.getElem?_toList]; exact hj)
        have qe := entry_at he j
        rw [hen] at qe
        cases hb : xs[j]? with
        | none =>
          rw [hb] at qe
          exact nomatch (show some en = none from qe)
        | some b =>
          rw [hb] at qe
          have e2 : en = entryOfKey (tupleKind (mixKind X.prog X.w)) b := Option.some.inj qe
          rw [hv, e2]
          all_goals rfl
    have each : ∀ (kvs : List (List Key × V)) (xs : List (List Key × Addr × Value)) (nss : List (List Int)), Paired (fun (p : List Key × V) (q : List Key × Addr × Value) => p.1 = q.1 ∧ H q.2.1 = some (.tup (p.1.map kV)) ∧ RelV p.2 q.2.2) kvs xs →
        kvs.map (·.1) = nss.map (fun ns => ns.map (Sum.inl : Int → Key)) → EachIs (IsTI H) (xs.map fun x => Value.ref x.2.1) nss := by
      intro kvs xs nss pr
      induction pr generalizing nss with
      | nil => intro e; cases nss with
        | nil => exact .nil
        | cons _ _ => cases e
      | cons h t ih => intro e; cases nss with
        | nil => cases e
        | cons n ns =>
          injection e with e1 e2
          refine .cons ⟨_, rfl, ?_⟩ (ih _ e2)
          have e1' := e1
          dsimp only at e1'
          rw [h.2.1, e1', key_map]
    have hS : EachIs (IsTI H) acc.toList nss := by rw [ea]; exact each kvs xs nss pr hks
    have I1 : Inv X pins σ H { s with heap := h', toks := tk } := I.kept hk'
    refine wpAny_bind (wpAny_newList ?_ (by rw [hl0]; exact hz))
    have hoL : (h'.push (seqObj "list" acc.toList.toArray 0)).get? h'.objs.size = some (seqObj "list" acc.toList.toArray 0) := Heap.get?_push_size _ rfl
    show wpAny _ _ _ _ _ { s with heap := h'.push (seqObj "list" acc.toList.toArray 0), toks := tk }
    have hr0 : EachIs (fun v b => ∃ as, Reads (sortingHeap (h'.push (seqObj "list" acc.toList.toArray 0)) h'.objs.size acc.toList) v (encT b) as) acc.toList nss := hS.mono fun v ns t => by
      obtain ⟨as, rd⟩ := reads_ti I1 t
      exact ⟨as, PyProof.Rows.Reads.keeps (fun b o e => by
        have hb : b < h'.objs.size := Heap.lt_size e
        exact sortingHeap_old (Nat.ne_of_lt hb) (Heap.get?_push_of_some _ e)) rd⟩
    refine wpAny_bind (wpAny_holding (wpAny_call_entry PyProof.Rows.slot_list_sort ⟨_, hoL, rfl⟩ PyProof.Rows.entry_list_sort
      (list_sort_vals (κ := dataKind (sortingHeap (h'.push (seqObj "list" acc.toList.toArray 0)) h'.objs.size acc.toList) (nss.map encT)) (s := { s with heap := h'.push (seqObj "list" acc.toList.toArray 0), toks := tk }) hoL
        (SortsAt.data (s := { s with heap := sortingHeap (h'.push (seqObj "list" acc.toList.toArray 0)) h'.objs.size acc.toList, toks := tk }) (each_map (R := fun v d => ∃ as, Reads (sortingHeap (h'.push (seqObj "list" acc.toList.toArray 0)) h'.objs.size acc.toList) v d as) encT hr0) hal hk (fun d hd => by
          obtain ⟨ns, _, rfl⟩ := List.mem_map.mp hd
          have := depth_encT ns
          show X.A.units + 1 + 1 + (encT ns).depth < cLine
          omega)) (by rw [hl0]; exact hz) ⟨_, rfl, ?_⟩)
      (PyProof.Rows.args_list_sort _)))
    have out := sortVals_data (h' := sortingHeap (h'.push (seqObj "list" acc.toList.toArray 0)) h'.objs.size acc.toList) (R := IsTI H) false hS hr0 hal
    rw [esrt] at out
    obtain ⟨bs, eb, hbs⟩ := isTI_refs out
    rw [eb]
    obtain ⟨e', he'⟩ := PyProof.Rows.sortedHeap_at (vs := acc.toList) (out := (bs.map Value.ref).toArray) hoL
    have hlen : (bs.map V.ref).length ≤ sizeLine := by
      rw [List.length_map, hbs.length, srt_len]; exact hz
    refine wpAny_pure ⟨_, rfl, .ref h'.objs.size, upd H h'.objs.size (.lst (bs.map V.ref)), I1.laid (t' := tk) (fun b u e => ?_) (Nat.le_refl _)
      (show ObjOk X.prog X.w _ _ _ (.lst (bs.map V.ref)) from ⟨hlen, bs.map Value.ref, e', vals_refs' bs, he'⟩), rfl, q bs _ hbs (I1.hok.fresh (Nat.le_refl _))⟩
    have hb : b < h'.objs.size := Heap.lt_size e
    rw [PyProof.Rows.sortedHeap_old (Nat.ne_of_lt hb) (by rw [size_push']; exact Nat.lt_succ_of_lt hb)]
    exact Heap.get?_push_of_some _ e
  · obtain ⟨its, rv, pl, hz2⟩ := I.list hq
    have each : ∀ (cs : List Addr) (its : List Value) (nss : List (List Int)), Vals (cs.map V.ref) its → EachIs (fun b ns => H b = some (.tup (ns.map V.int))) cs nss → EachIs (IsTI H) its nss := by
      intro cs
      induction cs with
      | nil => intro its nss rv h; cases rv; cases h; exact .nil
      | cons c cs ih => intro its nss rv h; cases rv with
        | cons r1 r2 => cases h with
          | cons h1 h2 => exact .cons ⟨c, r1, h1⟩ (ih _ _ r2 h2)
    have hS : EachIs (IsTI H) its nss := each cs its nss rv hcs
    refine sorted_data (R := IsTI H) (enc := encT) pl.isList hS (hS.mono fun v ns t => reads_ti I t) hal hk hz (fun ns _ => by
      have := depth_encT ns
      omega) fun out hlo hout => ?_
    rw [esrt] at hout
    obtain ⟨bs, eb, hbs⟩ := isTI_refs hout
    subst eb
    obtain ⟨e', he'⟩ := PyProof.Rows.sortedAll_at s.heap its (bs.map Value.ref).toArray
    have hlen : (bs.map V.ref).length ≤ sizeLine := by
      rw [List.length_map, hbs.length, srt_len]; exact hz
    exact ⟨.ref (s.heap.objs.size + 1), upd H (s.heap.objs.size + 1) (.lst (bs.map V.ref)), I.laid (t' := s.toks) (fun b u e => PyProof.Rows.sortedAll_old e) (Nat.le_succ _)
      (show ObjOk X.prog X.w _ _ _ (.lst (bs.map V.ref)) from ⟨hlen, bs.map Value.ref, e', vals_refs' bs, he'⟩), rfl, q bs _ hbs (I.hok.fresh (Nat.le_succ _))⟩
/-- a tuple of ints as a value -/
def tI (ns : List Int) : D := .tup (ns.map .int)
theorem rps_tI {K : PySem.W.Frag} {H : Hp} : ∀ {bs : List Addr} {nss : List (List Int)}, EachIs (fun b ns => H b = some (.tup (ns.map V.int))) bs nss → (∀ ns ∈ nss, ns.length ≤ sizeLine) → Rps K H (nss.map tI) (bs.map V.ref)
  | _, _, .nil, _ => Rps.nil
  | _, _, .cons (b := ns) h t, hl => Rps.cons (by unfold tI; simp only [Rp]; exact ⟨_, _, rfl, h, by rw [List.length_map]; exact hl _ List.mem_cons_self, Rps.of_ints ns⟩) (rps_tI t fun n hn => hl n (List.mem_cons_of_mem _ hn))
theorem each_of_rps {K : PySem.W.Frag} {H : Hp} : ∀ {nss : List (List Int)} {vs : List V}, Rps K H (nss.map tI) vs → (∃ cs : List Addr, vs = cs.map V.ref ∧ EachIs (fun b ns => H b = some (.tup (ns.map V.int))) cs nss) ∧ ∀ ns ∈ nss, ns.length ≤ sizeLine
  | [], _, h => by simp only [List.map_nil, Rps] at h; subst h; exact ⟨⟨[], rfl, .nil⟩, fun _ h => by cases h⟩
  | n :: r, _, h => by
    simp only [List.map_cons, Rps] at h
    obtain ⟨v, w, rfl, h1, h2⟩ := h
    obtain ⟨⟨cs, rfl, e⟩, hl⟩ := each_of_rps h2
    unfold tI at h1
    simp only [Rp] at h1
    obtain ⟨a, vs, rfl, ha, hz, rr⟩ := h1
    have ev := rr.ints
    subst ev
    refine ⟨⟨a :: cs, rfl, .cons ha e⟩, fun ns hn => ?_⟩
    rcases List.mem_cons.mp hn with rfl | hn
    · rw [List.length_map] at hz; exact hz
    · exact hl ns hn
/-- sorted(d), sorted(xs) -/
def cSort : List D → Sto → KE → Prop := fun vs S Q => match vs with
  | [.ref a] => ∃ nss, ((∃ kvs, S a = some (.dI kvs) ∧ nss = kvs.map (·.1) ∧ (∀ ns ∈ nss, ns.length ≤ 10000000)) ∨ rdL S a (nss.map tI)) ∧ (∀ ns ∈ nss, ns ≠ []) ∧ nss.length ≤ 10000000 ∧ ∀ p, S p = none → Q (.ref p) (put S p (.lst ((srt nss).map tI)))
  | _ => False
theorem ca_sort {K : PySem.W.Frag} : CaV K cSort (rSortT K) := by
  intro H S xs us Q R o r h k
  unfold cSort at h
  split at h
  · rename_i a
    obtain ⟨nss, src, hne, hz, h⟩ := h
    simp only [Rps, Rp] at r; obtain ⟨v, w, rfl, rfl, rfl⟩ := r
    have fin : (∀ ns ∈ nss, ns.length ≤ sizeLine) → ∀ bs p, EachIs (fun b ns => H b = some (.tup (ns.map V.int))) bs (srt nss) → H p = none → R (.ref p) (upd H p (.lst (bs.map V.ref))) := fun hl bs p he hp => by
      have hl2 : ∀ ns ∈ srt nss, ns.length ≤ sizeLine := fun ns hn => hl ns (List.mem_mergeSort.mp hn)
      refine k _ _ _ _ (h p (o.nope hp)) (Go.new hp) (by simp only [Rp]) (o.new hp ⟨_, rfl, ?_, Rps.mono (TL.new hp) _ _ (rps_tI he hl2)⟩)
      rw [List.length_map, he.length, srt_len]; exact line10 hz
    rcases src with ⟨kvs, ha, rfl, hl⟩ | hr
    · obtain ⟨ws, ea, zw, kv⟩ := o.dI ha
      refine ⟨a, _, rfl, .inl ⟨ws, ea, ?_⟩, hne, line10 hz, fin fun ns hn => line10 (hl ns hn)⟩
      rw [List.map_map]
      clear hl fin h hz hne ha ea zw
      induction kv with
      | nil => rfl
      | cons h t ih => rw [List.map_cons, List.map_cons, ih, h.1]; rfl
    · obtain ⟨vs, hq, zv, rr⟩ := hr.sq o
      obtain ⟨⟨cs, rfl, e⟩, hl⟩ := each_of_rps rr
      exact ⟨a, nss, rfl, .inr ⟨cs, hq, e⟩, hne, line10 hz, fin hl⟩
  · exact h.elim
end
end VL
/-! VL9: calls by keywords alone; how keywords bind; a law's own promise. -/
namespace VL
open PySem PySem.Spec PyProof.Rows L2
section
variable {X : Cx} {en : Ent} {CX : CXT} {k : Nat} {f : Addr} {fd : FuncData} {ps ks : List Str}
theorem pe_callK0 {sp : Sp} {E : XK} {x : Str} {p pos : Pos} {kws : List Keyword} {tk : TA} {g : List Value → List Value → List Value} {gV : List V → List V → List V} (F : FnOk X.prog X.w X.K X.mg X.base CX k f fd ps sp) (hr : Room k X.A) (hg : Gl X x) (hm : X.mg x = some (.ref f)) (hk : PySem.W.keepIn X.K (.ref f) = true) (hb : KBinds X.K fd ps ks g gV) (hx : Passes CX X E)
    (hkw : PK X kws tk) (hall : (backToKw pos (keywordEach kws X.env)).all (·.1.isSome) = true := by rfl) (hks : (backToKw pos (keywordEach kws X.env)).filterMap (·.1) = ks := by rfl)
    (hdb : (x == ("__debug__" : Str)) = false := by decide)
    (hpl : ((backTo pos (starEach [] X.env)).any (·.1) || (backToKw pos (keywordEach kws X.env)).any (·.1.isNone)) = false := by rfl) :
    PE X (.Call (.Name x p) [] kws pos) (tCallK sp gV E tNil tk) := by
  refine ⟨fun pins s σ H Q I h => ?_⟩
  refine wpAny_Call_Name_kw (ld_glob I hg hm ?_ hdb)
  refine PySem.W.callWith_KW0 (h₀ := X.base) I.ok.mod.kin hk hall (thn (hkw.run pos pins s σ H _ I h) fun ws s2 ⟨zs, H2, I2, rz, q2⟩ => ⟨I2.kIn, ?_⟩) hpl
  rw [hks]
  exact run_fnk F hr hb hx I2 .nil rz q2
/-- how keywords bind, by one function on lists of any kind -/
structure KwOk (K : PySem.W.Frag) (fd : FuncData) (ps ks : List Str) (g : {α : Type} → List α → List α → List α) : Prop where
  to : ∀ (s : Shared) (us ws : List Value), K.In s.heap → (g us ws).length = ps.length → BindsTo s fd ⟨us, ks.zip ws⟩ (ps.zip (g us ws))
  rel : ∀ {vs : List V} {us : List Value} {zs : List V} {ws : List Value}, Vals vs us → Vals zs ws → Vals (g vs zs) (g us ws)
  rps : ∀ (H : Hp) ds es us ws, Rps K H ds us → Rps K H es ws → Rps K H (g ds es) (g us ws)
/-- the positional values and the keywords' values, put in order -/
def kwg (n m : Nat) (ix : List Nat) {α : Type} (us ws : List α) : List α := if us.length = n ∧ ws.length = m then ix.filterMap fun i => (us ++ ws)[i]? else []
theorem pairedF {α β : Type} {R : α → β → Prop} {vs : List α} {us : List β} (h : ∀ i : Nat, (vs[i]? = none ∧ us[i]? = none) ∨ ∃ v u, vs[i]? = some v ∧ us[i]? = some u ∧ R v u) : ∀ ix : List Nat, Paired R (ix.filterMap fun i => vs[i]?) (ix.filterMap fun i => us[i]?)
  | [] => .nil
  | i :: ix => by
    rcases h i with ⟨a, b⟩ | ⟨v, u, a, b, r⟩
    · rw [List.filterMap_cons, List.filterMap_cons, a, b]; exact pairedF h ix
    · rw [List.filterMap_cons, List.filterMap_cons, a, b]; exact .cons r (pairedF h ix)
theorem rps_paired {K : PySem.W.Frag} {H : Hp} : ∀ {ds : List D} {vs : List V}, Rps K H ds vs → Paired (Rp K H) ds vs
  | [], _, h => by simp only [Rps] at h; subst h; exact .nil
  | x :: xs, _, h => by
    simp only [Rps] at h
    obtain ⟨v, r, rfl, q, s⟩ := h
    exact .cons q (rps_paired s)
theorem paired_rps {K : PySem.W.Frag} {H : Hp} : ∀ {ds : List D} {vs : List V}, Paired (Rp K H) ds vs → Rps K H ds vs
  | _, _, .nil => Rps.nil
  | _, _, .cons h t => Rps.cons h (paired_rps t)
theorem paired_at {α β : Type} {R : α → β → Prop} : ∀ {vs : List α} {us : List β}, Paired R vs us → ∀ i : Nat, (vs[i]? = none ∧ us[i]? = none) ∨ ∃ v u, vs[i]? = some v ∧ us[i]? = some u ∧ R v u
  | _, _, .nil, i => .inl ⟨by simp, by simp⟩
  | _, _, .cons h t, 0 => .inr ⟨_, _, rfl, rfl, h⟩
  | _, _, .cons h t, i + 1 => by simpa using paired_at t i
theorem paired_app {α β : Type} {R : α → β → Prop} : ∀ {a c : List α} {b d : List β}, Paired R a b → Paired R c d → Paired R (a ++ c) (b ++ d)
  | _, _, _, _, .nil, s => s
  | _, _, _, _, .cons h t, s => .cons h (paired_app t s)
theorem kwg_paired {α β : Type} {R : α → β → Prop} {n m : Nat} {ix : List Nat} {vs zs : List α} {us ws : List β} (r : Paired R vs us) (q : Paired R zs ws) : Paired R (kwg n m ix vs zs) (kwg n m ix us ws) := by
  unfold kwg
  rw [Paired.length r, Paired.length q]
  split
  · exact pairedF (paired_at (paired_app r q)) ix
  · exact .nil
theorem kwok {K : PySem.W.Frag} {n m : Nat} {ix : List Nat} (hps : 0 < ps.length) (to : ∀ (s : Shared) (us ws : List Value), us.length = n → ws.length = m → BindsTo s fd ⟨us, ks.zip ws⟩ (ps.zip (kwg n m ix us ws))) : KwOk K fd ps ks (kwg n m ix) where
  to := fun s us ws _ hl => by
    by_cases h : us.length = n ∧ ws.length = m
    · exact to s us ws h.1 h.2
    · unfold kwg at hl
      rw [if_neg h] at hl
      simp at hl
      omega
  rel := fun r q => kwg_paired r q
  rps := fun H ds es us ws r q => paired_rps (kwg_paired (rps_paired r) (rps_paired q))
theorem ve_callKw {g : {α : Type} → List α → List α → List α} {sp : SpV} {E0 : XC} {E : XK} {x : Str} {e : Expr} {es : List Expr} {kws : List Keyword} {ts tks : List RE} {p pos : Pos} (F : FnOk X.prog X.w X.K X.mg X.base CX k f fd ps (lowSp X.K sp)) (hr : Room k X.A) (hg : Gl X x) (hm : X.mg x = some (.ref f)) (hk : PySem.W.keepIn X.K (.ref f) = true) (hb : KwOk X.K fd ps ks g) (hx : Passes CX X E) (h0 : XE0 X.K en E0 E)
    (ha : VA X en (e :: es) ts) (hkw : VK' X en kws tks) (hall : (backToKw pos (keywordEach kws X.env)).all (·.1.isSome) = true := by rfl) (hks : (backToKw pos (keywordEach kws X.env)).filterMap (·.1) = ks := by rfl)
    (hdb : (x == ("__debug__" : Str)) = false := by decide) (he : starEach (e :: es) X.env = (false, eval e X.env) :: starEach es X.env := by rfl)
    (hpl : ((backTo pos (starEach (e :: es) X.env)).any (·.1) || (backToKw pos (keywordEach kws X.env)).any (·.1.isNone)) = false := by rfl) :
    VE X en (.Call (.Name x p) (e :: es) kws pos) (eCallK sp g E0 ts tks) :=
  ve_callK F hr hg hm hk ⟨hb.to, hb.rel⟩ hx h0 hb.rps ha hkw hall hks hdb he hpl
theorem ve_callKw0 {g : {α : Type} → List α → List α → List α} {sp : SpV} {E0 : XC} {E : XK} {x : Str} {kws : List Keyword} {tks : List RE} {p pos : Pos} (F : FnOk X.prog X.w X.K X.mg X.base CX k f fd ps (lowSp X.K sp)) (hr : Room k X.A) (hg : Gl X x) (hm : X.mg x = some (.ref f)) (hk : PySem.W.keepIn X.K (.ref f) = true) (hb : KwOk X.K fd ps ks g) (hx : Passes CX X E) (h0 : XE0 X.K en E0 E)
    (hkw : VK' X en kws tks) (hall : (backToKw pos (keywordEach kws X.env)).all (·.1.isSome) = true := by rfl) (hks : (backToKw pos (keywordEach kws X.env)).filterMap (·.1) = ks := by rfl)
    (hdb : (x == ("__debug__" : Str)) = false := by decide)
    (hpl : ((backTo pos (starEach [] X.env)).any (·.1) || (backToKw pos (keywordEach kws X.env)).any (·.1.isNone)) = false := by rfl) :
    VE X en (.Call (.Name x p) [] kws pos) (eCallK sp g E0 [] tks) := PE.imp (pe_callK0 F hr hg hm hk ⟨hb.to, hb.rel⟩ hx hkw hall hks hdb hpl) fun σ H Q h => by
  obtain ⟨τ, S, Q0, hs, ho, q, k⟩ := h
  refine args_ok hs ho q fun es S2 ws H2 q2 g2 r2 hz2 o2 => ?_
  exact ⟨g [] es, S2, Q0, E0, hb.rps H2 _ _ _ _ Rps.nil r2, o2.so, q2, fun d S3 v H3 q3 g3 r3 o3 => k d S3 v H3 q3 (g2.trans g3) r3 (o2.go g3 o3), h0.at o2⟩
end
/-- what the law promises, over its script -/
def spLawV : SpV := fun ds S Q _ => ∃ ns : List Int, ds = [.scr ns] ∧ ns.length ≤ 63 ∧ ∀ S', Q (.bl true) S'
def empS : Sto := fun _ => none
/-- the law's promise as the end wants it -/
theorem law_low {K : PySem.W.Frag} {H : Hp} {a : Addr} {ns : List Int} (hl : ns.length ≤ 63) (hO : Only H) (hS : SqL K H a (ns.map V.int)) :
    lowSp K spLawV [.ref a] H (fun v _ => v = .bl true) fun _ _ _ => False := by
  refine ⟨[.scr ns], empS, fun d _ => d = .bl true, fun _ _ _ => False, Rps.one ?_, (fun _ _ h => by cases h), ⟨ns, rfl, hl, fun _ => rfl⟩, fun d S' v H' q g r o => ?_, fun _ _ _ _ _ _ h => h.elim⟩
  · simp only [Rp]
    refine ⟨a, rfl, ?_, Nat.le_trans hl (by decide)⟩
    rcases hS with (h | ⟨o, h⟩) | h
    · rcases hO a with n | ⟨o, xs, e⟩
      · rw [n] at h; cases h
      · rw [e] at h; cases h
    · exact .inl ⟨o, h⟩
    · exact .inr h
  · subst q
    simp only [Rp] at r
    exact r
end VL
/-! VL10: readings in plain words, for simp. -/
namespace VL
open PySem PySem.Spec PyProof.Rows L2
theorem int_map_inj : ∀ {a b : List Int}, a.map D.int = b.map D.int → a = b
  | [], [], _ => rfl
  | x :: a, y :: b, h => by
    injection h with h1 h2
    injection h1 with h1
    rw [h1, int_map_inj h2]
  | [], _ :: _, h => by cases h
  | _ :: _, [], h => by cases h
theorem tI_inj {a b : List Int} (h : tI a = tI b) : a = b := by
  unfold tI at h
  injection h with h
  exact int_map_inj h
theorem vLt_tI {a b : List Int} {S : Sto} {Q : KE} : vLt (tI a) (tI b) S Q = Q (.bl (HT.lexLt a b)) S := by
  unfold tI
  simp only [vLt]
  refine propext ⟨fun ⟨ns, ms, h1, h2, h⟩ => ?_, fun h => ⟨a, b, rfl, rfl, h⟩⟩
  rw [int_map_inj h1, int_map_inj h2]; exact h
theorem cLen_tI {a : List Int} {S : Sto} {Q : KE} : cLen [tI a] S Q = Q (.int a.length) S := by
  unfold tI
  simp only [cLen, List.length_map]
theorem vDGet_tI {a : Addr} {k : List Int} {S : Sto} {Q : KE} : vDGet (.ref a) (tI k) S Q = ∃ kvs d, rdD S a kvs ∧ lkD kvs k = some d ∧ Q d S := by
  unfold tI
  simp only [vDGet]
  refine propext ⟨fun ⟨kvs, ns, d, h0, h1, h⟩ => ?_, fun ⟨kvs, d, h⟩ => ⟨kvs, k, d, h.1, rfl, h.2⟩⟩
  rw [int_map_inj h1]; exact ⟨kvs, d, h0, h⟩
theorem vDPut_tI {a : Addr} {k : List Int} {v : D} {S : Sto} {Q : Sto → Prop} : vDPut (.ref a) (tI k) v S Q = ∃ kvs, S a = some (.dI kvs) ∧ kvs.length < 10000000 ∧ Q (put S a (.dI (puD kvs k v))) := by
  unfold tI
  simp only [vDPut]
  refine propext ⟨fun ⟨kvs, ns, h0, h1, h⟩ => ?_, fun ⟨kvs, h⟩ => ⟨kvs, k, h.1, rfl, h.2⟩⟩
  rw [int_map_inj h1]; exact ⟨kvs, h0, h⟩
theorem vDGet2_tI {a : Addr} {k : List Int} {z : D} {S : Sto} {Q : KE} : vDGet2 (.ref a) (tI k) z S Q = ∃ kvs, rdD S a kvs ∧ Q ((lkD kvs k).getD z) S := by
  unfold tI
  simp only [vDGet2]
  refine propext ⟨fun ⟨kvs, ns, h0, h1, h⟩ => ?_, fun ⟨kvs, h⟩ => ⟨kvs, k, h.1, rfl, h.2⟩⟩
  rw [int_map_inj h1]; exact ⟨kvs, h0, h⟩
theorem cList_tI {a : List Int} {S : Sto} {Q : KE} : cList [tI a] S Q = ∀ p, S p = none → Q (.ref p) (put S p (.lst (a.map .int))) := rfl
theorem rdL_lst {S : Sto} {a : Addr} {xs ys : List D} (h : S a = some (.lst ys)) : rdL S a xs = (ys = xs) := by
  unfold rdL
  rw [h]
  refine propext ⟨fun z => ?_, fun z => .inl (by rw [z])⟩
  rcases z with z | z
  · injection z with z; injection z
  · cases z
/-- a place of a written list -/
theorem atI_0 {α : Type} {x : α} {r : List α} : L2.atI (x :: r) 0 = some x := by unfold L2.atI ixN; rw [if_pos (by omega), if_pos (by rw [List.length_cons]; omega)]; rfl
theorem atI_get {α : Type} {xs : List α} {i : Int} (h0 : 0 ≤ i) (h1 : i < xs.length) : L2.atI xs i = xs[i.toNat]? := by
  unfold L2.atI ixN
  rw [if_pos h0, if_pos h1]; rfl
/-- products that fit -/
theorem mul_fits {i j : Int} {a b : Nat} (ha : i.natAbs < 2 ^ a) (hb : j.natAbs < 2 ^ b) (h : a + b ≤ 134217728 := by decide) : IntMulOk i j := (mulx_ok ha hb h).ok
theorem natAbs_lt {i : Int} {n : Nat} (h1 : -(n : Int) < i) (h2 : i < n) : i.natAbs < n := by omega
theorem log2_fits {j : Int} {a : Nat} (h0 : 0 < a) (h : j.natAbs < 2 ^ a) (ha : a ≤ 9000 := by decide) : j.natAbs.log2 < 9000 := Nat.lt_of_lt_of_le (PySem.Flt.log2_lt_of h0 h) ha
theorem fmod_range {i j : Int} (h : 0 < j) : 0 ≤ i.fmod j ∧ i.fmod j < j := by
  rw [Int.fmod_eq_emod_of_nonneg i (by omega)]
  exact ⟨Int.emod_nonneg i (by omega), Int.emod_lt_of_pos i h⟩
theorem fdiv_nonneg {i j : Int} (h0 : 0 ≤ i) (h : 0 < j) : 0 ≤ i.fdiv j := by
  rw [Int.fdiv_eq_ediv_of_nonneg i (by omega)]
  exact Int.ediv_nonneg h0 (by omega)
/-! ### the stock of draws -/
structure Wd where
  cells : List Int
  op : Int
  x : Int
  k : Int
/-- the stock at a, its list of cells at c, over all else -/
def stk (F : Sto) (a c : Addr) (w : Wd) : Sto := put (put F c (.lst (w.cells.map .int))) a (.lst [.ref c, .int w.op, .int w.x, .int w.k])
structure Wok (w : Wd) (n : Int) : Prop where
  cells : ∀ z ∈ w.cells, 0 ≤ z
  op : 0 ≤ w.op
  x0 : 0 ≤ w.x
  x1 : w.x ≤ 10000000000000066
  k0 : 0 ≤ w.k
  k1 : w.k ≤ n
theorem Wok.mono {w : Wd} {n m : Int} (h : Wok w n) (l : n ≤ m) : Wok w m := ⟨h.cells, h.op, h.x0, h.x1, h.k0, Int.le_trans h.k1 l⟩
/-- where the stock may stand -/
structure Ap (F : Sto) (a c : Addr) : Prop where
  ne : a ≠ c
  a : F a = none
  c : F c = none
section
variable {F : Sto} {a c : Addr} {w : Wd}
theorem stk_a : stk F a c w a = some (.lst [.ref c, .int w.op, .int w.x, .int w.k]) := put_same
theorem stk_c (h : Ap F a c) : stk F a c w c = some (.lst (w.cells.map .int)) := by unfold stk; rw [put_ne h.ne.symm, put_same]
theorem stk_le (h : Ap F a c) : Le F (stk F a c w) := fun b o e => by
  unfold stk
  rw [put_ne (sne e h.a), put_ne (sne e h.c)]; exact e
theorem stk_none (h : Ap F a c) {p : Addr} (e : stk F a c w p = none) : F p = none ∧ p ≠ a ∧ p ≠ c := by
  have h1 : p ≠ a := by rintro rfl; rw [stk_a] at e; cases e
  have h2 : p ≠ c := by rintro rfl; rw [stk_c h] at e; cases e
  refine ⟨?_, h1, h2⟩
  unfold stk at e
  rw [put_ne h1, put_ne h2] at e; exact e
theorem put_stk_a {o x k : Int} : put (stk F a c w) a (.lst [.ref c, .int o, .int x, .int k]) = stk F a c ⟨w.cells, o, x, k⟩ := by unfold stk; rw [put_put]
theorem put_comm {S : Sto} {p q : Addr} {o u : MO} (h : p ≠ q) : put (put S p o) q u = put (put S q u) p o := by
  funext b; unfold put
  by_cases h1 : b = q
  · subst h1; rw [if_pos rfl, if_neg h.symm, if_pos rfl]
  · rw [if_neg h1, if_neg h1]
theorem put_stk_c (h : Ap F a c) {cs : List Int} : put (stk F a c w) c (.lst (cs.map .int)) = stk F a c ⟨cs, w.op, w.x, w.k⟩ := by
  unfold stk
  rw [put_comm h.ne, put_put]
/-- another object beside the stock -/
theorem put_stk (h : Ap F a c) {p : Addr} {o : MO} (hp : p ≠ a) (hc : p ≠ c) : put (stk F a c w) p o = stk (put F p o) a c w := by
  unfold stk
  rw [put_comm hp.symm, put_comm hc.symm]
theorem Ap.nw (h : Ap F a c) {p : Addr} {o : MO} (hp : p ≠ a) (hc : p ≠ c) : Ap (put F p o) a c := ⟨h.ne, by rw [put_ne hp.symm]; exact h.a, by rw [put_ne hc.symm]; exact h.c⟩
end
section
variable {F F' : Sto} {a c : Addr} {w : Wd} {Q : KE}
theorem stk_mono (l : Le F F') : Le (stk F a c w) (stk F' a c w) := (l.put).put
theorem vIx_stk0 : vIx (.ref a) (.int 0) (stk F a c w) Q = Q (.ref c) (stk F a c w) := by
  simp only [vIx, rdL_lst stk_a]
  exact propext ⟨fun ⟨xs, d, e, h1, h⟩ => by subst e; rw [atI_get (by decide) (by simp)] at h1; cases h1; exact h, fun h => ⟨_, _, rfl, by rw [atI_get (by decide) (by simp)]; rfl, h⟩⟩
theorem vIx_stk1 : vIx (.ref a) (.int 1) (stk F a c w) Q = Q (.int w.op) (stk F a c w) := by
  simp only [vIx, rdL_lst stk_a]
  exact propext ⟨fun ⟨xs, d, e, h1, h⟩ => by subst e; rw [atI_get (by decide) (by simp)] at h1; cases h1; exact h, fun h => ⟨_, _, rfl, by rw [atI_get (by decide) (by simp)]; rfl, h⟩⟩
theorem vIx_stk2 : vIx (.ref a) (.int 2) (stk F a c w) Q = Q (.int w.x) (stk F a c w) := by
  simp only [vIx, rdL_lst stk_a]
  exact propext ⟨fun ⟨xs, d, e, h1, h⟩ => by subst e; rw [atI_get (by decide) (by simp)] at h1; cases h1; exact h, fun h => ⟨_, _, rfl, by rw [atI_get (by decide) (by simp)]; rfl, h⟩⟩
theorem vIx_stk3 : vIx (.ref a) (.int 3) (stk F a c w) Q = Q (.int w.k) (stk F a c w) := by
  simp only [vIx, rdL_lst stk_a]
  exact propext ⟨fun ⟨xs, d, e, h1, h⟩ => by subst e; rw [atI_get (by decide) (by simp)] at h1; cases h1; exact h, fun h => ⟨_, _, rfl, by rw [atI_get (by decide) (by simp)]; rfl, h⟩⟩
theorem vLSet_stk1 {i : Int} {k : Sto → Prop} : vLSet (.ref a) (.int 1) (.int i) (stk F a c w) k = k (stk F a c ⟨w.cells, i, w.x, w.k⟩) := by
  simp only [vLSet, stk_a]
  refine propext ⟨fun ⟨xs, j, e, h1, h⟩ => ?_, fun h => ⟨_, 1, rfl, rfl, ?_⟩⟩
  · cases e
    have : j = 1 := by have h2 : some 1 = some j := h1; exact (Option.some.inj h2).symm
    subst this
    have q : put (stk F a c w) a (.lst ([D.ref c, .int w.op, .int w.x, .int w.k].set 1 (.int i))) = _ := put_stk_a (F := F) (c := c) (w := w) (o := i) (x := w.x) (k := w.k)
    rw [q] at h; exact h
  · have q : put (stk F a c w) a (.lst ([D.ref c, .int w.op, .int w.x, .int w.k].set 1 (.int i))) = _ := put_stk_a (F := F) (c := c) (w := w) (o := i) (x := w.x) (k := w.k)
    rw [q]; exact h
theorem vLSet_stk2 {i : Int} {k : Sto → Prop} : vLSet (.ref a) (.int 2) (.int i) (stk F a c w) k = k (stk F a c ⟨w.cells, w.op, i, w.k⟩) := by
  simp only [vLSet, stk_a]
  refine propext ⟨fun ⟨xs, j, e, h1, h⟩ => ?_, fun h => ⟨_, 2, rfl, rfl, ?_⟩⟩
  · cases e
    have : j = 2 := by have h2 : some 2 = some j := h1; exact (Option.some.inj h2).symm
    subst this
    have q : put (stk F a c w) a (.lst ([D.ref c, .int w.op, .int w.x, .int w.k].set 2 (.int i))) = _ := put_stk_a (F := F) (c := c) (w := w) (o := w.op) (x := i) (k := w.k)
    rw [q] at h; exact h
  · have q : put (stk F a c w) a (.lst ([D.ref c, .int w.op, .int w.x, .int w.k].set 2 (.int i))) = _ := put_stk_a (F := F) (c := c) (w := w) (o := w.op) (x := i) (k := w.k)
    rw [q]; exact h
theorem vLSet_stk3 {i : Int} {k : Sto → Prop} : vLSet (.ref a) (.int 3) (.int i) (stk F a c w) k = k (stk F a c ⟨w.cells, w.op, w.x, i⟩) := by
  simp only [vLSet, stk_a]
  refine propext ⟨fun ⟨xs, j, e, h1, h⟩ => ?_, fun h => ⟨_, 3, rfl, rfl, ?_⟩⟩
  · cases e
    have : j = 3 := by have h2 : some 3 = some j := h1; exact (Option.some.inj h2).symm
    subst this
    have q : put (stk F a c w) a (.lst ([D.ref c, .int w.op, .int w.x, .int w.k].set 3 (.int i))) = _ := put_stk_a (F := F) (c := c) (w := w) (o := w.op) (x := w.x) (k := i)
    rw [q] at h; exact h
  · have q : put (stk F a c w) a (.lst ([D.ref c, .int w.op, .int w.x, .int w.k].set 3 (.int i))) = _ := put_stk_a (F := F) (c := c) (w := w) (o := w.op) (x := w.x) (k := i)
    rw [q]; exact h
end
section
variable {S : Sto} {Q : KE}
theorem vAdd_int {i j : Int} : vAdd (.int i) (.int j) S Q = Q (.int (i + j)) S := rfl
theorem vAdd_ib {i : Int} {b : Bool} : vAdd (.int i) (.bl b) S Q = Q (.int (i + b2i b)) S := rfl
theorem vAdd_str {a b : Str} : vAdd (.str a) (.str b) S Q = (a.length + b.length ≤ 10000000 ∧ Q (.str (a ++ b)) S) := rfl
theorem vAdd_tup {a b : List D} : vAdd (.tup a) (.tup b) S Q = (a.length + b.length ≤ 10000000 ∧ Q (.tup (a ++ b)) S) := rfl
theorem vAdd_tI {a b : List Int} : vAdd (tI a) (tI b) S Q = (a.length + b.length ≤ 10000000 ∧ Q (tI (a ++ b)) S) := by
  unfold tI; simp only [vAdd, List.length_map, List.map_append]
theorem vAdd_ref {a b : Addr} : vAdd (.ref a) (.ref b) S Q = ∃ xs ys, S a = some (.lst xs) ∧ S b = some (.lst ys) ∧ xs.length + ys.length ≤ 10000000 ∧ ∀ p, S p = none → Q (.ref p) (put S p (.lst (xs ++ ys))) := rfl
theorem vMul_int {i j : Int} : vMul (.int i) (.int j) S Q = (IntMulOk i j ∧ Q (.int (i * j)) S) := rfl
theorem vMul_ref {a : Addr} {k : Int} : vMul (.ref a) (.int k) S Q = ∃ xs, S a = some (.lst xs) ∧ (-1000000 ≤ k ∧ k ≤ 1000000 ∧ xs.length * k.toNat ≤ 10000000) ∧ ∀ p, S p = none → Q (.ref p) (put S p (.lst (List.replicate k.toNat xs).flatten)) := rfl
theorem vMul_tup {xs : List D} {k : Int} : vMul (.tup xs) (.int k) S Q = ((xs ≠ [] ∧ -1000 ≤ k ∧ k ≤ 1000 ∧ xs.length ≤ 1000) ∧ Q (.tup (List.replicate k.toNat xs).flatten) S) := rfl
theorem vIsN_non  : vIsN .non .non S Q = Q (.bl true) S := rfl
theorem vNotN_non  : vNotN .non .non S Q = Q (.bl false) S := rfl
theorem vIsN_int {i : Int} : vIsN (.int i) .non S Q = Q (.bl false) S := rfl
theorem vNotN_int {i : Int} : vNotN (.int i) .non S Q = Q (.bl true) S := rfl
theorem vIsN_bl {b : Bool} : vIsN (.bl b) .non S Q = Q (.bl false) S := rfl
theorem vNotN_bl {b : Bool} : vNotN (.bl b) .non S Q = Q (.bl true) S := rfl
theorem vIsN_str {z : Str} : vIsN (.str z) .non S Q = Q (.bl false) S := rfl
theorem vNotN_str {z : Str} : vNotN (.str z) .non S Q = Q (.bl true) S := rfl
theorem vIsN_ref {a : Addr} : vIsN (.ref a) .non S Q = Q (.bl false) S := rfl
theorem vNotN_ref {a : Addr} : vNotN (.ref a) .non S Q = Q (.bl true) S := rfl
theorem vIsN_tup {xs : List D} : vIsN (.tup xs) .non S Q = Q (.bl false) S := rfl
theorem vNotN_tup {xs : List D} : vNotN (.tup xs) .non S Q = Q (.bl true) S := rfl
theorem vIsN_tI {l : List Int} : vIsN (tI l) .non S Q = Q (.bl false) S := rfl
theorem vNotN_tI {l : List Int} : vNotN (tI l) .non S Q = Q (.bl true) S := rfl
theorem vLt_int {i j : Int} : vLt (.int i) (.int j) S Q = Q (.bl (decide (i < j))) S := rfl
theorem cLen_tup {xs : List D} : cLen [.tup xs] S Q = Q (.int xs.length) S := rfl
theorem cLen_scr {xs : List Int} : cLen [.scr xs] S Q = Q (.int xs.length) S := rfl
theorem cLen_str {z : Str} : cLen [.str z] S Q = (z.length ≤ 10000000 ∧ Q (.int z.length) S) := rfl
theorem cLen_ref {a : Addr} : cLen [.ref a] S Q = ∃ xs, rdL S a xs ∧ Q (.int xs.length) S := rfl
theorem vEq_int {i j : Int} : vEq (.int i) (.int j) S Q = Q (.bl (decide (i = j))) S := rfl
theorem vEq_bl {i j : Bool} : vEq (.bl i) (.bl j) S Q = Q (.bl (decide (i = j))) S := rfl
theorem vEq_str {i j : Str} : vEq (.str i) (.str j) S Q = Q (.bl (decide (i = j))) S := rfl
theorem vNe_int {i j : Int} : vNe (.int i) (.int j) S Q = Q (.bl (!decide (i = j))) S := rfl
theorem vNe_bl {i j : Bool} : vNe (.bl i) (.bl j) S Q = Q (.bl (!decide (i = j))) S := rfl
theorem vNe_str {i j : Str} : vNe (.str i) (.str j) S Q = Q (.bl (!decide (i = j))) S := rfl
end
/-- lists of ints as data -/
theorem pd_ints {S : Sto} {b : Addr} {ns : List Int} (h : rdL S b (ns.map .int)) : Pd S (.ref b) (.list (ns.map .int)) :=
  .lst h (by rw [List.length_map, List.length_map]) fun i x d e1 e2 => by
    rw [List.getElem?_map] at e1 e2
    cases q : ns[i]? with
    | none => rw [q] at e1; cases e1
    | some n => rw [q] at e1 e2; cases e1; cases e2; exact .int n
theorem shaped_li (ns : List Int) : SeqAt.shaped (.list (ns.map .int)) = true := PySem.W.shaped_ints ns
theorem eqvAll_ints : ∀ ns ms : List Int, PyData.eqvAll (ns.map .int) (ms.map .int) = decide (ns = ms)
  | [], [] => rfl
  | [], _ :: _ => by simp [PyData.eqvAll]
  | _ :: _, [] => by simp [PyData.eqvAll]
  | x :: xs, y :: ys => by
    show PyData.eqvAll (.int x :: xs.map .int) (.int y :: ys.map .int) = _
    rw [PyData.eqvAll, eqvAll_ints xs ys]
    by_cases h : x = y <;> simp [PyData.eqv, h]
theorem vNe_ints {S : Sto} {a b : Addr} {ns ms : List Int} {Q : KE} (ha : rdL S a (ns.map .int)) (hb : rdL S b (ms.map .int)) (h : Q (.bl (!decide (ns = ms))) S) : vNe (.ref a) (.ref b) S Q := by
  refine ⟨_, _, pd_ints ha, pd_ints hb, shaped_li _, shaped_li _, ?_⟩
  have e : PyData.eqv (.list (ns.map .int)) (.list (ms.map .int)) = decide (ns = ms) := by rw [PyData.eqv]; exact eqvAll_ints ns ms
  rw [e]; exact h
theorem vEq_ints {S : Sto} {a b : Addr} {ns ms : List Int} {Q : KE} (ha : rdL S a (ns.map .int)) (hb : rdL S b (ms.map .int)) (h : Q (.bl (decide (ns = ms))) S) : vEq (.ref a) (.ref b) S Q := by
  refine ⟨_, _, pd_ints ha, pd_ints hb, shaped_li _, shaped_li _, ?_⟩
  have e : PyData.eqv (.list (ns.map .int)) (.list (ms.map .int)) = decide (ns = ms) := by rw [PyData.eqv]; exact eqvAll_ints ns ms
  rw [e]; exact h
/-- a draw below a limit -/
def sp_pick : SpV := fun ds S Q _ => ∃ F a c w n limit, ds = [.ref a, .int limit] ∧ S = stk F a c w ∧ Ap F a c ∧ Wok w n ∧ n < 10000000 ∧ 1 ≤ limit ∧ limit < 2 ^ 250 ∧ ∀ r w', 0 ≤ r → r < limit → Wok w' (n + 1) → Q (.int r) (stk F a c w')
theorem pick_to {F : Sto} {a c : Addr} {w : Wd} {n limit : Int} {Q : KE} {E : XC} (ap : Ap F a c) (wk : Wok w n) (hn : n < 10000000) (h1 : 1 ≤ limit) (h2 : limit < 2 ^ 250) (h : ∀ r w', 0 ≤ r → r < limit → Wok w' (n + 1) → Q (.int r) (stk F a c w')) :
    sp_pick [.ref a, .int limit] (stk F a c w) Q E := ⟨F, a, c, w, n, limit, rfl, rfl, ap, wk, hn, h1, h2, h⟩
/-- a new object beside the stock -/
theorem all_new {F : Sto} {a c : Addr} {w : Wd} {o : MO} (ap : Ap F a c) {J : Addr → Sto → Prop} (h : ∀ p, F p = none → p ≠ a → p ≠ c → Ap (put F p o) a c → J p (stk (put F p o) a c w)) : ∀ p, stk F a c w p = none → J p (put (stk F a c w) p o) := fun p hp => by
  obtain ⟨hF, hpa, hpc⟩ := stk_none ap hp
  rw [put_stk ap hpa hpc]
  exact h p hF hpa hpc (ap.nw hpa hpc)
/-- the stock made of the script -/
def sp_stock : SpV := fun ds S Q _ => ∃ ns, ds = [.scr ns] ∧ ns.length ≤ 63 ∧ ∀ a c w, Ap S a c → Wok w 0 → Q (.ref a) (stk S a c w)
end VL
/-! VL11: loops and comprehensions by an invariant. -/
namespace VL
open PySem PySem.Spec PyProof.Rows L2
/-- a for by an invariant over the turn's number; the turn is shown for any D1 that goes on from the invariant -/
theorem for_inv {ok : Sto → Prop} {g : RG} {b : RS} {D0 : En} {items : List D} {τ : VS} {S : Sto} (I : Nat → VS → Sto → Prop) (h0 : I 0 τ S) (hok : ∀ i τ S, I i τ S → ok S)
    (hs : ∀ i x τ S (D1 : En), items[i]? = some x → I i τ S → D1.rt = D0.rt → D1.bk = D0.nx → (∀ τ2 S2 τ3 S3, I (i + 1) τ3 S3 → VLe τ3 τ2 → Le S3 S2 → D1.nx τ2 S2) → (∀ τ2 S2 τ3 S3, I (i + 1) τ3 S3 → VLe τ3 τ2 → Le S3 S2 → D1.ct τ2 S2) → g x τ S fun τ1 S1 => b D1 τ1 S1)
    (hd : ∀ τ S, I items.length τ S → D0.nx τ S) : forR ok g b D0 items τ S := by
  have main : ∀ (rest : List D) (i : Nat) (τ : VS) (S : Sto), items.drop i = rest → i ≤ items.length → I i τ S → forR ok g b D0 rest τ S := by
    intro rest
    induction rest with
    | nil =>
      intro i τ S e hi h
      have : i = items.length := by
        have := congrArg List.length e
        rw [List.length_drop, List.length_nil] at this
        omega
      subst this
      exact ⟨hok _ _ _ h, hd _ _ h⟩
    | cons x r ih =>
      intro i τ S e hi h
      have hx : items[i]? = some x := by
        have := congrArg (fun l => l[0]?) e
        simp only [List.getElem?_drop, Nat.add_zero, List.getElem?_cons_zero] at this
        exact this
      have hlt : i < items.length := (List.getElem?_eq_some_iff.mp hx).1
      have er : items.drop (i + 1) = r := by
        have := congrArg List.tail e
        rw [List.tail_drop] at this
        exact this
      refine ⟨hok _ _ _ h, hs i x τ S _ hx h rfl rfl (fun τ2 S2 τ3 S3 h3 l1 l2 => ⟨τ3, S3, l1, l2, ih (i + 1) τ3 S3 er hlt h3⟩) fun τ2 S2 τ3 S3 h3 l1 l2 => ⟨τ3, S3, l1, l2, ih (i + 1) τ3 S3 er hlt h3⟩⟩
  exact main items 0 τ S rfl (Nat.zero_le _) h0
/-- a comprehension without a test, by an invariant over the turn's number and what is made so far -/
theorem lc_inv {ok : Sto → Prop} {g : RG} {te : RE} {τw : VS} {items : List D} {S : Sto} {Q : List D → Sto → Prop} (I : Nat → List D → Sto → Prop) (h0 : I 0 [] S) (hok : ∀ i acc S, I i acc S → ok S)
    (hs : ∀ i x acc S (K' : KE), items[i]? = some x → I i acc S → (∀ y S2 S3, Le S3 S2 → I (i + 1) (acc ++ [y]) S3 → K' y S2) → g x τw S fun τ2 S2 => te τ2 S2 K')
    (hd : ∀ acc S, I items.length acc S → Q acc S) : lcR ok g VL.tYes te τw items S Q := by
  have main : ∀ (rest : List D) (i : Nat) (acc : List D) (S : Sto) (Q' : List D → Sto → Prop), items.drop i = rest → i ≤ items.length → I i acc S → (∀ ys S, Q (acc ++ ys) S → Q' ys S) → lcR ok g VL.tYes te τw rest S Q' := by
    intro rest
    induction rest with
    | nil =>
      intro i acc S Q' e hi h hq
      have : i = items.length := by
        have := congrArg List.length e
        rw [List.length_drop, List.length_nil] at this
        omega
      subst this
      refine ⟨hok _ _ _ h, hq [] S ?_⟩
      rw [List.append_nil]; exact hd _ _ h
    | cons x r ih =>
      intro i acc S Q' e hi h hq
      have hx : items[i]? = some x := by
        have := congrArg (fun l => l[0]?) e
        simp only [List.getElem?_drop, Nat.add_zero, List.getElem?_cons_zero] at this
        exact this
      have hlt : i < items.length := (List.getElem?_eq_some_iff.mp hx).1
      have er : items.drop (i + 1) = r := by
        have := congrArg List.tail e
        rw [List.tail_drop] at this
        exact this
      refine ⟨hok _ _ _ h, hs i x acc S _ hx h fun y S2 S3 l h3 => ⟨S3, l, ih (i + 1) (acc ++ [y]) S3 _ er hlt h3 fun ys S q => hq _ _ ?_⟩⟩
      rw [List.append_assoc] at q; exact q
  exact main items 0 [] S Q rfl (Nat.zero_le _) h0 fun ys S q => q
/-- a comprehension whose element is a function of the item and leaves the store -/
theorem lc_map {ok : Sto → Prop} {g : RG} {te : RE} {τw : VS} {items : List D} {S : Sto} {Q : List D → Sto → Prop} (f : D → D) (hok : ok S)
    (hs : ∀ x ∈ items, ∀ K' : KE, K' (f x) S → g x τw S fun τ2 S2 => te τ2 S2 K') (hd : Q (items.map f) S) : lcR ok g VL.tYes te τw items S Q := by
  refine lc_inv (fun i acc S' => S' = S ∧ acc = (items.take i).map f) ⟨rfl, by simp⟩ (fun i acc S' h => by rw [h.1]; exact hok) (fun i x acc S' K' hx h hk => ?_) (fun acc S' h => ?_)
  · obtain ⟨rfl, rfl⟩ := h
    refine hs x (List.mem_of_getElem? hx) K' (hk _ _ _ (Le.refl _) ⟨rfl, ?_⟩)
    rw [List.take_add_one, hx, List.map_append]; rfl
  · obtain ⟨rfl, rfl⟩ := h
    rw [List.take_length]; exact hd
/-- .. with a test -/
theorem lc_filter {ok : Sto → Prop} {g : RG} {tt : RT} {te : RE} {τw : VS} {S : Sto} (f : D → D) (p : D → Bool) (hok : ok S) : ∀ {items : List D} {Q : List D → Sto → Prop},
    (∀ x ∈ items, ∀ K' : KE, ∀ J : Sto → Prop, (p x = true → K' (f x) S) → (p x = false → J S) → g x τw S fun τ2 S2 => tt τ2 S2 fun b S3 => if b = true then te τ2 S3 K' else J S3) → Q ((items.filter p).map f) S → lcR ok g tt te τw items S Q
  | [], Q, _, hd => ⟨hok, hd⟩
  | x :: r, Q, hs, hd => by
    refine ⟨hok, hs x List.mem_cons_self _ _ (fun hp => ⟨S, Le.refl S, lc_filter f p hok (fun y hy => hs y (List.mem_cons_of_mem _ hy)) ?_⟩) fun hp => lc_filter f p hok (fun y hy => hs y (List.mem_cons_of_mem _ hy)) ?_⟩
    · rw [List.filter_cons, if_pos hp] at hd; exact hd
    · rw [List.filter_cons, if_neg (by rw [hp]; decide)] at hd; exact hd
theorem intsD_at {lo : Int} {n i : Nat} {x : D} (h : (intsD lo n)[i]? = some x) : i < n ∧ x = .int (lo + (i : Int)) := intsD_get h
end VL
namespace VL
open PySem PySem.Spec PyProof.Rows L2
/-! ### facts of small things -/
theorem vIx_ref {S : Sto} {a : Addr} {xs : List D} {i : Int} {d : D} {Q : KE} (h : S a = some (.lst xs)) (h0 : 0 ≤ i) (h1 : xs[i.toNat]? = some d) (q : Q d S) : vIx (.ref a) (.int i) S Q :=
  ⟨xs, d, .inl h, by rw [atI_get h0 (by have := (List.getElem?_eq_some_iff.mp h1).1; omega)]; exact h1, q⟩
theorem vIx_tup {S : Sto} {xs : List D} {i : Int} {d : D} {Q : KE} (h0 : 0 ≤ i) (h1 : xs[i.toNat]? = some d) (q : Q d S) : vIx (.tup xs) (.int i) S Q :=
  ⟨d, by rw [atI_get h0 (by have := (List.getElem?_eq_some_iff.mp h1).1; omega)]; exact h1, q⟩
theorem vLSet_ref {S : Sto} {a : Addr} {xs : List D} {i : Int} {v : D} {k : Sto → Prop} (h : S a = some (.lst xs)) (h0 : 0 ≤ i) (h1 : i < xs.length) (q : k (put S a (.lst (xs.set i.toNat v)))) : vLSet (.ref a) (.int i) v S k :=
  ⟨xs, i.toNat, h, by unfold ixN; rw [if_pos h0, if_pos h1], q⟩
/-- another object beside the stock, read and written -/
theorem stk_at {F : Sto} {a c p : Addr} {w : Wd} {o : MO} (ap : Ap F a c) (h : F p = some o) : stk F a c w p = some o := stk_le ap _ _ h
theorem stk_put {F : Sto} {a c p : Addr} {w : Wd} {o u : MO} (ap : Ap F a c) (h : F p = some o) : put (stk F a c w) p u = stk (put F p u) a c w := put_stk ap (sne h ap.a) (sne h ap.c)
theorem Ap.upd {F : Sto} {a c p : Addr} {o u : MO} (ap : Ap F a c) (h : F p = some o) : Ap (put F p u) a c := ap.nw (sne h ap.a) (sne h ap.c)
theorem stk_put_le {F G : Sto} {a c p : Addr} {w : Wd} {o : MO} (l : Le (put F p o) G) : Le (stk (put F p o) a c w) (stk G a c w) := stk_mono l
theorem none_put {S : Sto} {p q : Addr} {o : MO} (h : put S q o p = none) : p ≠ q ∧ S p = none := by
  have e : p ≠ q := by rintro rfl; rw [put_same] at h; cases h
  exact ⟨e, by rw [put_ne e] at h; exact h⟩
/-- the keys of a dict behind a store -/
theorem puD_keys {κ : Type} [DecidableEq κ] {kvs : List (κ × D)} {k : κ} {v : D} {P : κ → Prop} (h : ∀ q ∈ kvs, P q.1) (hk : P k) : ∀ q ∈ puD kvs k v, P q.1 := fun q hq => by
  unfold puD at hq
  split at hq
  · obtain ⟨r, hr, rfl⟩ := List.mem_map.mp hq
    split
    · exact h r hr
    · exact h r hr
  · rcases List.mem_append.mp hq with hq | hq
    · exact h q hq
    · rw [List.mem_singleton.mp hq]; exact hk
theorem puD_vals {κ : Type} [DecidableEq κ] {kvs : List (κ × D)} {k : κ} {v : D} {P : D → Prop} (h : ∀ q ∈ kvs, P q.2) (hk : P v) : ∀ q ∈ puD kvs k v, P q.2 := fun q hq => by
  unfold puD at hq
  split at hq
  · obtain ⟨r, hr, rfl⟩ := List.mem_map.mp hq
    split
    · exact hk
    · exact h r hr
  · rcases List.mem_append.mp hq with hq | hq
    · exact h q hq
    · rw [List.mem_singleton.mp hq]; exact hk
theorem lkD_mem {κ : Type} [DecidableEq κ] {k : κ} : ∀ {kvs : List (κ × D)}, k ∈ kvs.map (·.1) → ∃ v, lkD kvs k = some v ∧ (k, v) ∈ kvs
  | (x, d) :: r, h => by
    by_cases e : x = k
    · subst e; exact ⟨d, by simp [lkD], List.mem_cons_self⟩
    · rcases List.mem_cons.mp h with z | z
      · exact absurd z.symm e
      · obtain ⟨v, h1, h2⟩ := lkD_mem z
        exact ⟨v, by simpa [lkD, List.find?_cons, e] using h1, List.mem_cons_of_mem _ h2⟩
theorem srt_mem {nss : List (List Int)} {ns : List Int} : ns ∈ srt nss ↔ ns ∈ nss := List.mem_mergeSort
/-- sorted(d) -/
theorem cSort_dict {S : Sto} {a : Addr} {kvs : List (List Int × D)} {Q : KE} (h : S a = some (.dI kvs)) (hl : kvs.length ≤ 10000000) (hk : ∀ q ∈ kvs, q.1 ≠ [] ∧ q.1.length ≤ 10000000) (q : ∀ p, S p = none → Q (.ref p) (put S p (.lst ((srt (kvs.map (·.1))).map tI)))) : cSort [.ref a] S Q := by
  refine ⟨kvs.map (·.1), .inl ⟨kvs, h, rfl, fun ns hn => ?_⟩, fun ns hn => ?_, by rw [List.length_map]; exact hl, q⟩
  · obtain ⟨r, hr, rfl⟩ := List.mem_map.mp hn; exact (hk r hr).2
  · obtain ⟨r, hr, rfl⟩ := List.mem_map.mp hn; exact (hk r hr).1
end VL
/-! VL12: more built-ins at the value level. -/
namespace VL
open PySem PySem.Spec PyProof.Rows L2
/-- len(d) -/
def cLenD : List D → Sto → KE → Prop := fun vs S Q => match vs with
  | [.ref a] => ∃ kvs, S a = some (.dI kvs) ∧ Q (.int kvs.length) S
  | _ => False
theorem ca_lenD {K : PySem.W.Frag} : CaV K cLenD rLenT := by
  intro H S xs us Q R o r h k
  unfold cLenD at h
  split at h
  · simp only [Rps, Rp] at r; obtain ⟨v, w, rfl, rfl, rfl⟩ := r
    obtain ⟨kvs, ha, h⟩ := h
    obtain ⟨ws, ea, _, kv⟩ := o.dI ha
    exact ⟨_, _, rfl, ea, by rw [← kv.length]; exact k _ _ _ _ h (Go.refl S H) (by simp only [Rp]) o⟩
  · exact h.elim
theorem cLenD_ref {a : Addr} {S : Sto} {Q : KE} : cLenD [.ref a] S Q = ∃ kvs, S a = some (.dI kvs) ∧ Q (.int kvs.length) S := rfl
/-- a new object beside the stock, by what is known of the store behind it -/
theorem nwo {F : Sto} {a c p : Addr} {w : Wd} (ap : Ap F a c) (hp : stk F a c w p = none) (o : MO) : ∃ G, put (stk F a c w) p o = stk G a c w ∧ Ap G a c ∧ Le F G ∧ G p = some o ∧ F p = none ∧ (p ≠ a ∧ p ≠ c) ∧ G = put F p o := by
  obtain ⟨h1, h2, h3⟩ := stk_none ap hp
  exact ⟨_, put_stk ap h2 h3, ap.nw h2 h3, (Le.refl F).new h1, put_same, h1, ⟨h2, h3⟩, rfl⟩
/-- an object beside the stock changed -/
theorem upo {F : Sto} {a c p : Addr} {w : Wd} {o0 : MO} (ap : Ap F a c) (hp : F p = some o0) (o : MO) : ∃ G, put (stk F a c w) p o = stk G a c w ∧ Ap G a c ∧ G p = some o ∧ (∀ q, q ≠ p → G q = F q) ∧ (∀ F0 : Sto, F0 p = none → Le F0 F → Le F0 G) := by
  refine ⟨_, stk_put ap hp, ap.upd hp, put_same, fun q h => put_ne h, fun F0 h l b u e => ?_⟩
  have : b ≠ p := sne e h
  rw [put_ne this]; exact l b u e
theorem srt_length (l : List (List Int)) : (srt l).length = l.length := List.length_mergeSort _
/-- a comprehension over the images of things by the images of the same things -/
theorem lc_map2 {α : Type} {ok : Sto → Prop} {g : RG} {te : RE} {τw : VS} {xs : List α} {h f : α → D} {S : Sto} {Q : List D → Sto → Prop} (hok : ok S)
    (hs : ∀ x ∈ xs, ∀ K' : KE, K' (f x) S → g (h x) τw S fun τ2 S2 => te τ2 S2 K') (hd : Q (xs.map f) S) : lcR ok g VL.tYes te τw (xs.map h) S Q := by
  refine lc_inv (fun i acc S' => S' = S ∧ acc = (xs.take i).map f) ⟨rfl, by simp⟩ (fun i acc S' h => by rw [h.1]; exact hok) (fun i x acc S' K' hx hI hk => ?_) (fun acc S' hI => ?_)
  · obtain ⟨rfl, rfl⟩ := hI
    rw [List.getElem?_map] at hx
    cases q : xs[i]? with
    | none => rw [q] at hx; cases hx
    | some y =>
      rw [q] at hx
      have e : x = h y := (Option.some.inj hx).symm
      subst e
      refine hs y (List.mem_of_getElem? q) K' (hk _ _ _ (Le.refl _) ⟨rfl, ?_⟩)
      rw [List.take_add_one, q, List.map_append]; rfl
  · obtain ⟨rfl, rfl⟩ := hI
    rw [List.length_map, List.take_length]; exact hd
/-- slices between places of a list -/
theorem cutD_take {xs : List D} {i : Int} (h0 : 0 ≤ i) (h1 : i ≤ xs.length) : cutD xs none (some i) = xs.take i.toNat := by
  have e : HT.sIx xs.length xs.length (some i) = i.toNat := by unfold HT.sIx; simp only; rw [if_neg (by omega)]; omega
  have e0 : HT.sIx xs.length 0 none = 0 := rfl
  unfold cutD
  rw [e, e0, List.drop_zero, Nat.sub_zero]
theorem cutD_drop {xs : List D} {i : Int} (h0 : 0 ≤ i) (h1 : i ≤ xs.length) : cutD xs (some i) none = xs.drop i.toNat := by
  have e : HT.sIx xs.length 0 (some i) = i.toNat := by unfold HT.sIx; simp only; rw [if_neg (by omega)]; omega
  have e0 : HT.sIx xs.length xs.length none = xs.length := rfl
  unfold cutD
  rw [e, e0]
  exact List.take_of_length_le (by rw [List.length_drop]; exact Nat.le_refl _)
section
variable {F G : Sto} {a c p q : Addr} {w : Wd} {xs ys : List D} {Q : KE}
theorem cut_left {i : Int} (ap : Ap F a c) (hp : F p = some (.lst xs)) (h0 : 0 ≤ i) (h1 : i ≤ xs.length) (h : ∀ q G, Ap G a c → Le F G → G q = some (.lst (xs.take i.toNat)) → Q (.ref q) (stk G a c w)) : vSl (.ref p) none (some i) (stk F a c w) Q := by
  refine ⟨xs, .inl (stk_at ap hp), fun q hq => ?_⟩
  obtain ⟨G, e, ap2, l, h2, _⟩ := nwo ap hq (.lst (xs.take i.toNat))
  rw [cutD_take h0 h1, e]; exact h q G ap2 l h2
theorem cut_right {i : Int} (ap : Ap F a c) (hp : F p = some (.lst xs)) (h0 : 0 ≤ i) (h1 : i ≤ xs.length) (h : ∀ q G, Ap G a c → Le F G → G q = some (.lst (xs.drop i.toNat)) → Q (.ref q) (stk G a c w)) : vSl (.ref p) (some i) none (stk F a c w) Q := by
  refine ⟨xs, .inl (stk_at ap hp), fun q hq => ?_⟩
  obtain ⟨G, e, ap2, l, h2, _⟩ := nwo ap hq (.lst (xs.drop i.toNat))
  rw [cutD_drop h0 h1, e]; exact h q G ap2 l h2
theorem add_refs (ap : Ap F a c) (hp : F p = some (.lst xs)) (hq : F q = some (.lst ys)) (hl : xs.length + ys.length ≤ 10000000) (h : ∀ r G, Ap G a c → Le F G → G r = some (.lst (xs ++ ys)) → Q (.ref r) (stk G a c w)) : vAdd (.ref p) (.ref q) (stk F a c w) Q := by
  refine ⟨xs, ys, stk_at ap hp, stk_at ap hq, hl, fun r hr => ?_⟩
  obtain ⟨G, e, ap2, l, h2, _⟩ := nwo ap hr (.lst (xs ++ ys))
  rw [e]; exact h r G ap2 l h2
theorem add_last (ap : Ap G a c) (hp : G p = some (.lst xs)) (hq : G q = some (.lst ys)) (hl : xs.length + ys.length ≤ 10000000) (l : Le F G) (h : ∀ r, F r = none → r ≠ a → r ≠ c → Q (.ref r) (stk (put F r (.lst (xs ++ ys))) a c w)) : vAdd (.ref p) (.ref q) (stk G a c w) fun d S => ∃ S'', Le S'' S ∧ Q d S'' := by
  refine ⟨xs, ys, stk_at ap hp, stk_at ap hq, hl, fun r hr => ?_⟩
  obtain ⟨h1, h2, h3⟩ := stk_none ap hr
  refine ⟨_, ?_, h r (l.nope h1) h2 h3⟩
  rw [put_stk ap h2 h3]
  exact stk_mono l.put
end
theorem le_put {F G : Sto} {y : Addr} {o : MO} (l : Le F G) (h : G y = some o) : Le (put F y o) G := fun b u hb => by
  by_cases e : b = y
  · subst e; rw [put_same] at hb; rw [h, ← hb]
  · rw [put_ne e] at hb; exact l _ _ hb
theorem vIx_p0 {x y : D} {S : Sto} {Q : KE} : vIx (.tup [x, y]) (.int 0) S Q = Q x S := propext ⟨fun ⟨d, h1, h2⟩ => by cases h1; exact h2, fun h => ⟨x, rfl, h⟩⟩
theorem vIx_p1 {x y : D} {S : Sto} {Q : KE} : vIx (.tup [x, y]) (.int 1) S Q = Q y S := propext ⟨fun ⟨d, h1, h2⟩ => by cases h1; exact h2, fun h => ⟨y, rfl, h⟩⟩
theorem cInt_int {i : Int} {S : Sto} {Q : KE} : cInt [.int i] S Q = Q (.int i) S := rfl
theorem cInt_bl {b : Bool} {S : Sto} {Q : KE} : cInt [.bl b] S Q = Q (.int (if b then 1 else 0)) S := rfl
/-- slices of a tuple of ints -/
def cutI (xs : List Int) (lo hi : Option Int) : List Int := (xs.drop (HT.sIx xs.length 0 lo)).take (HT.sIx xs.length xs.length hi - HT.sIx xs.length 0 lo)
theorem cutI_length (xs : List Int) (lo hi : Option Int) : (cutI xs lo hi).length ≤ xs.length := by
  unfold cutI
  rw [List.length_take, List.length_drop]
  omega
theorem vSl_tI {xs : List Int} {lo hi : Option Int} {S : Sto} {Q : KE} : vSl (tI xs) lo hi S Q = Q (tI (cutI xs lo hi)) S := by
  unfold tI
  show Q (.tup (cutD _ lo hi)) S = _
  unfold cutD cutI
  rw [List.length_map, List.map_take, List.map_drop]
theorem cutI_tail {xs : List Int} (h : 0 < xs.length) : (cutI xs (some 1) none).length + 1 = xs.length := by
  have e : HT.sIx xs.length 0 (some 1) = 1 := by unfold HT.sIx; simp only; rw [if_neg (by decide)]; show min 1 _ = 1; omega
  have e0 : HT.sIx xs.length xs.length none = xs.length := rfl
  unfold cutI
  rw [e, e0, List.length_take, List.length_drop]
  omega
theorem stk_ret {F G : Sto} {a c y : Addr} {w : Wd} {o : MO} (ap : Ap G a c) (l : Le F G) (hy : stk G a c w y = none) : Le (stk (put F y o) a c w) (put (stk G a c w) y o) := by
  obtain ⟨h1, h2, h3⟩ := stk_none ap hy
  rw [put_stk ap h2 h3]
  exact stk_mono l.put
end VL
/-! VL13: data: tuples of ints, terms, sums, lists of them; their equality. -/
namespace VL
open PySem PySem.Spec PyProof.Rows L2
/-- shaped, with the depth told -/
def Shp (n : Nat) (d : PyData) : Prop := PyData.canLay0 d = true ∧ PyData.depth d ≤ n
theorem Shp.ok {n : Nat} {d : PyData} (h : Shp n d) (hn : n ≤ 64 := by decide) : SeqAt.shaped d = true := by
  show (PyData.canLay0 d && decide (PyData.depth d ≤ 64)) = true
  rw [Bool.and_eq_true]; exact ⟨h.1, decide_eq_true (Nat.le_trans h.2 hn)⟩
theorem shp_all {n : Nat} : ∀ {ds : List PyData}, (∀ d ∈ ds, Shp n d) → PyData.canLayAll0 ds = true ∧ PyData.depthAll ds ≤ n
  | [], _ => ⟨by simp [PyData.canLayAll0], by simp [PyData.depthAll]⟩
  | d :: r, h => by
    have h1 := h d List.mem_cons_self
    have h2 := shp_all fun e he => h e (List.mem_cons_of_mem _ he)
    refine ⟨by simp [PyData.canLayAll0, h1.1, h2.1], ?_⟩
    simp only [PyData.depthAll]
    have := h1.2
    have := h2.2
    omega
theorem shp_int {i : Int} : Shp 1 (.int i) := ⟨by simp [PyData.canLay0], by simp [PyData.depth]⟩
theorem shp_tup {n : Nat} {ds : List PyData} (h : ∀ d ∈ ds, Shp n d) : Shp (n + 1) (.tuple ds) := by
  have q := shp_all h
  have := q.2
  exact ⟨by simp only [PyData.canLay0]; exact q.1, by simp only [PyData.depth]; omega⟩
theorem shp_lst {n : Nat} {ds : List PyData} (h : ∀ d ∈ ds, Shp n d) : Shp (n + 1) (.list ds) := by
  have q := shp_all h
  have := q.2
  exact ⟨by simp only [PyData.canLay0]; exact q.1, by simp only [PyData.depth]; omega⟩
/-- things as values and as data -/
structure Rep (α : Type) where
  d : α → D
  p : α → PyData
  pd : ∀ (S : Sto) (x : α), Pd S (d x) (p x)
  n : Nat
  shp : ∀ x, Shp n (p x)
  eqv : ∀ x y : α, PyData.eqv (p x) (p y) = true ↔ x = y
theorem Rep.eqvAll {α : Type} (R : Rep α) : ∀ xs ys : List α, PyData.eqvAll (xs.map R.p) (ys.map R.p) = true ↔ xs = ys
  | [], [] => by simp [PyData.eqvAll]
  | [], _ :: _ => by simp [PyData.eqvAll]
  | _ :: _, [] => by simp [PyData.eqvAll]
  | x :: xs, y :: ys => by
    have h1 := R.eqv x y
    have h2 := Rep.eqvAll R xs ys
    simp only [List.map_cons, PyData.eqvAll, Bool.and_eq_true, List.cons.injEq, h1, h2]
theorem Rep.at {α : Type} (R : Rep α) {S : Sto} {xs : List α} : ∀ (i : Nat) x d, (xs.map R.d)[i]? = some x → (xs.map R.p)[i]? = some d → Pd S x d := fun i x d e1 e2 => by
  rw [List.getElem?_map] at e1 e2
  cases q : xs[i]? with
  | none => rw [q] at e1; cases e1
  | some n => rw [q] at e1 e2; cases e1; cases e2; exact R.pd S n
def repInt : Rep Int := ⟨.int, .int, fun _ i => .int i, 1, fun _ => shp_int, fun x y => by simp [PyData.eqv]⟩
/-- tuples of things -/
def repTup {α : Type} (R : Rep α) : Rep (List α) where
  d xs := .tup (xs.map R.d)
  p xs := .tuple (xs.map R.p)
  pd S xs := .tup (by rw [List.length_map, List.length_map]) R.at
  n := R.n + 1
  shp xs := shp_tup fun d hd => by obtain ⟨x, _, rfl⟩ := List.mem_map.mp hd; exact R.shp x
  eqv xs ys := by rw [PyData.eqv]; exact R.eqvAll xs ys
/-- pairs of things -/
def repPair {α β : Type} (R : Rep α) (T : Rep β) : Rep (α × β) where
  d t := .tup [R.d t.1, T.d t.2]
  p t := .tuple [R.p t.1, T.p t.2]
  pd S t := .tup rfl fun i x d e1 e2 => by
    match i, e1, e2 with
    | 0, e1, e2 => cases e1; cases e2; exact R.pd S t.1
    | 1, e1, e2 => cases e1; cases e2; exact T.pd S t.2
  n := R.n + T.n + 1
  shp t := shp_tup fun d hd => by
    simp only [List.mem_cons, List.not_mem_nil, or_false] at hd
    rcases hd with rfl | rfl
    · exact ⟨(R.shp t.1).1, Nat.le_trans (R.shp t.1).2 (Nat.le_add_right _ _)⟩
    · exact ⟨(T.shp t.2).1, Nat.le_trans (T.shp t.2).2 (Nat.le_add_left _ _)⟩
  eqv t u := by
    have h1 := R.eqv t.1 u.1
    have h2 := T.eqv t.2 u.2
    simp only [PyData.eqv, PyData.eqvAll, Bool.and_eq_true, h1, h2, and_true, Prod.ext_iff]
section
variable {α : Type} (R : Rep α) {S : Sto} {Q : KE}
theorem pd_list {b : Addr} {xs : List α} (h : rdL S b (xs.map R.d)) : Pd S (.ref b) (.list (xs.map R.p)) := .lst h (by rw [List.length_map, List.length_map]) R.at
theorem shp_list {xs : List α} : Shp (R.n + 1) (.list (xs.map R.p)) := shp_lst fun d hd => by obtain ⟨x, _, rfl⟩ := List.mem_map.mp hd; exact R.shp x
theorem eqv_list [DecidableEq α] {xs ys : List α} : PyData.eqv (.list (xs.map R.p)) (.list (ys.map R.p)) = decide (xs = ys) := by
  have h := R.eqvAll xs ys
  have e : PyData.eqv (.list (xs.map R.p)) (.list (ys.map R.p)) = PyData.eqvAll (xs.map R.p) (ys.map R.p) := by rw [PyData.eqv]
  rw [e]
  by_cases q : xs = ys
  · rw [decide_eq_true q]; exact h.mpr q
  · rw [decide_eq_false q]; exact Bool.eq_false_iff.mpr fun z => q (h.mp z)
/-- lists of things compared -/
theorem vNe_refs [DecidableEq α] {a b : Addr} {xs ys : List α} (ha : rdL S a (xs.map R.d)) (hb : rdL S b (ys.map R.d)) (hn : R.n ≤ 60) (h : Q (.bl (!decide (xs = ys))) S) : vNe (.ref a) (.ref b) S Q :=
  ⟨_, _, pd_list R ha, pd_list R hb, (shp_list R).ok (by omega), (shp_list R).ok (by omega), by rw [eqv_list]; exact h⟩
theorem vEq_refs [DecidableEq α] {a b : Addr} {xs ys : List α} (ha : rdL S a (xs.map R.d)) (hb : rdL S b (ys.map R.d)) (hn : R.n ≤ 60) (h : Q (.bl (decide (xs = ys))) S) : vEq (.ref a) (.ref b) S Q :=
  ⟨_, _, pd_list R ha, pd_list R hb, (shp_list R).ok (by omega), (shp_list R).ok (by omega), by rw [eqv_list]; exact h⟩
theorem eqv_tup [DecidableEq α] {xs ys : List α} : PyData.eqv (.tuple (xs.map R.p)) (.tuple (ys.map R.p)) = decide (xs = ys) := by
  have h := (repTup R).eqv xs ys
  by_cases q : xs = ys
  · rw [decide_eq_true q]; exact h.mpr q
  · rw [decide_eq_false q]; exact Bool.eq_false_iff.mpr fun z => q (h.mp z)
/-- tuples of things compared -/
theorem vNe_tups [DecidableEq α] {xs ys : List α} (hn : R.n ≤ 60) (h : Q (.bl (!decide (xs = ys))) S) : vNe (.tup (xs.map R.d)) (.tup (ys.map R.d)) S Q :=
  ⟨_, _, (repTup R).pd S xs, (repTup R).pd S ys, ((repTup R).shp xs).ok (by show R.n + 1 ≤ 64; omega), ((repTup R).shp ys).ok (by show R.n + 1 ≤ 64; omega), by
    show Q (.bl (!PyData.eqv (.tuple (xs.map R.p)) (.tuple (ys.map R.p)))) S
    rw [eqv_tup]; exact h⟩
theorem vEq_tups [DecidableEq α] {xs ys : List α} (hn : R.n ≤ 60) (h : Q (.bl (decide (xs = ys))) S) : vEq (.tup (xs.map R.d)) (.tup (ys.map R.d)) S Q :=
  ⟨_, _, (repTup R).pd S xs, (repTup R).pd S ys, ((repTup R).shp xs).ok (by show R.n + 1 ≤ 64; omega), ((repTup R).shp ys).ok (by show R.n + 1 ≤ 64; omega), by
    show Q (.bl (PyData.eqv (.tuple (xs.map R.p)) (.tuple (ys.map R.p)))) S
    rw [eqv_tup]; exact h⟩
end
/-- a term, a sum -/
def repTerm : Rep (List Int × Int) := repPair (repTup repInt) repInt
def repSum : Rep (List (List Int × Int)) := repTup repTerm
def terD (t : List Int × Int) : D := .tup [tI t.1, .int t.2]
def sumD (ts : List (List Int × Int)) : D := .tup (ts.map terD)
theorem terD_eq : terD = repTerm.d := rfl
theorem sumD_eq : sumD = repSum.d := rfl
end VL
/-! VZ1: zip of any number of lists and tuples of one length, at the level of the library. -/
namespace VZ
open PySem PySem.Spec PyProof.Rows
open PySem.Sem (wp)
/-- a list or a tuple: where, its items -/
structure Sq where
  tp : Bool
  l : Addr
  xs : Array Value
def Sq.At (q : Sq) (h : Heap) : Prop := match q.tp with
  | true => h.IsTuple q.l q.xs
  | false => h.IsList q.l q.xs
def Sq.It (q : Sq) (h : Heap) (c : Addr) (i : Nat) : Prop := match q.tp with
  | true => h.IsTupleIter c q.l i
  | false => h.IsListIter c q.l i
def Sq.nm (q : Sq) : String := match q.tp with
  | true => "tuple_iterator"
  | false => "list_iterator"
def Sq.obj (q : Sq) : Obj := { cls := .type q.nm, data := .fields #[.ref q.l, .int 0 0] }
section
variable {prog : Program} {w : World} {A : Around} {E : Value → Shared → Prop} {s : Shared}
theorem Sq.at_of {q : Sq} {h h' : Heap} (a : q.At h) (k : ∀ o, h.get? q.l = some o → h'.get? q.l = some o) : q.At h' := by
  obtain ⟨tp, l, xs⟩ := q
  cases tp with
  | true => obtain ⟨o, e, r⟩ := a; exact ⟨o, k o e, r⟩
  | false => obtain ⟨o, e, r⟩ := a; exact ⟨o, k o e, r⟩
theorem Sq.it_of {q : Sq} {h h' : Heap} {c : Addr} {i : Nat} (a : q.It h c i) (k : ∀ o, h.get? c = some o → h'.get? c = some o) : q.It h' c i := by
  obtain ⟨tp, l, xs⟩ := q
  cases tp with
  | true => obtain ⟨o, e, r⟩ := a; exact ⟨o, k o e, r⟩
  | false => obtain ⟨o, e, r⟩ := a; exact ⟨o, k o e, r⟩
theorem Sq.it_new {q : Sq} {h : Heap} {c : Addr} (e : h.get? c = some q.obj) : q.It h c 0 := by
  obtain ⟨tp, l, xs⟩ := q
  cases tp with
  | true => exact ⟨_, e, rfl, rfl⟩
  | false => exact ⟨_, e, rfl, rfl⟩
theorem Sq.it_lt {q : Sq} {h : Heap} {c : Addr} {i : Nat} (a : q.It h c i) : ∃ o, h.get? c = some o ∧ ∃ vs, o.data = .fields vs := by
  obtain ⟨tp, l, xs⟩ := q
  cases tp with
  | true => obtain ⟨o, e, _, d⟩ := a; exact ⟨o, e, _, d⟩
  | false => obtain ⟨o, e, _, d⟩ := a; exact ⟨o, e, _, d⟩
theorem Sq.at_lt {q : Sq} {h : Heap} (a : q.At h) : ∃ o, h.get? q.l = some o ∧ ∃ xs n, o.data = .seq xs n := by
  obtain ⟨tp, l, xs⟩ := q
  cases tp with
  | true => obtain ⟨o, e, _, n, d⟩ := a; exact ⟨o, e, _, n, d⟩
  | false => obtain ⟨o, e, _, n, d⟩ := a; exact ⟨o, e, _, n, d⟩
theorem draw_item {q : Sq} {c : Addr} {i : Nat} {x : Value} {Q : Value → Shared → Prop} (hi : q.It s.heap c i) (hl : q.At s.heap) (hx : q.xs[i]? = some x)
    (hQ : ∀ h', q.It h' c (i + 1) → Heap.SameBut c s.heap h' → Q x { s with heap := h' }) : wpAny (model prog w) A (Builtin.SmallTypes.nextOf (.ref c)) Q E s := by
  obtain ⟨tp, l, xs⟩ := q
  cases tp with
  | true => exact RZ.nextOf_tuple_item hi hl hx hQ
  | false => exact wpAny_nextOf_list_item hi hl hx hQ
theorem draw_end {q : Sq} {c : Addr} {i : Nat} {Q : Value → Shared → Prop} (hh : A.handled = none) (hi : q.It s.heap c i) (hl : q.At s.heap) (hx : q.xs[i]? = none)
    (hE : ∀ h' e, Heap.ExtBut c s.heap h' → (∃ o, h'.get? e = some o ∧ o.cls = .type "StopIteration") → E (.ref e) { s with heap := h' }) : wpAny (model prog w) A (Builtin.SmallTypes.nextOf (.ref c)) Q E s := by
  obtain ⟨tp, l, xs⟩ := q
  cases tp with
  | true => exact RZ.nextOf_tuple_end hh hi hl hx hE
  | false => exact wpAny_nextOf_list_end hh hi hl hx hE
theorem iter_sq {q : Sq} {Q : Value → Shared → Prop} (hl : q.At s.heap) (hQ : Q (.ref s.heap.objs.size) { s with heap := s.heap.push q.obj }) : wpAny (model prog w) A (pyIter (.ref q.l)) Q E s := by
  obtain ⟨tp, l, xs⟩ := q
  cases tp with
  | true => exact wpAny_pyIter_tuple hl hQ
  | false => exact wpAny_pyIter_list hl hQ
/-- the iterators of all -/
def its (n0 k : Nat) : List Value := (List.range k).map fun j => Value.ref (n0 + j)
theorem its_succ (n0 k : Nat) : its n0 (k + 1) = its n0 k ++ [Value.ref (n0 + k)] := by
  unfold its; rw [List.range_succ, List.map_append]; rfl
theorem its_len (n0 k : Nat) : (its n0 k).length = k := by unfold its; rw [List.length_map, List.length_range]
theorem iterLoop_sq {qs : List Sq} {Q : Array Value → Shared → Prop} (hl : ∀ q ∈ qs, q.At s.heap)
    (hQ : ∀ b h', b.toList = its s.heap.objs.size qs.length → h'.objs.size = s.heap.objs.size + qs.length → (∀ c o, s.heap.get? c = some o → h'.get? c = some o) → (∀ (j : Nat) q, qs[j]? = some q → h'.get? (s.heap.objs.size + j) = some q.obj) → Q b { s with heap := h' }) :
    wpAny (model prog w) A (forIn (m := Sem) (qs.map fun q => Value.ref q.l) (#[] : Array Value) fun x b => do
      let v ← holding b.toList (pyIter x)
      pure (ForInStep.yield (b.push v))) Q E s := by
  refine wpAny_forIn_list _ (fun rest b s' => ∃ k h', k ≤ qs.length ∧ s' = { s with heap := h' } ∧ rest = (qs.drop k).map (fun q => Value.ref q.l) ∧ b.toList = its s.heap.objs.size k ∧ h'.objs.size = s.heap.objs.size + k ∧
    (∀ c o, s.heap.get? c = some o → h'.get? c = some o) ∧ ∀ (j : Nat) q, qs[j]? = some q → j < k → h'.get? (s.heap.objs.size + j) = some q.obj) _ ?_ ?_ _ _ ⟨0, s.heap, Nat.zero_le _, rfl, rfl, rfl, rfl, fun _ _ e => e, fun _ _ _ h => absurd h (Nat.not_lt_zero _)⟩
  · rintro x rest b s' ⟨k, h', hk, rfl, e, eb, hz, hkp, hob⟩
    cases hd : qs.drop k with
    | nil => rw [hd] at e; cases e
    | cons q r =>
      rw [hd] at e
      injection e with e1 e2
      subst e1
      have hlt : k < qs.length := by
        rcases Nat.lt_or_ge k qs.length with z | z
        · exact z
        · rw [List.drop_of_length_le z] at hd; cases hd
      have hq : qs[k]? = some q := by
        have := congrArg (fun l => l[0]?) hd
        simp only [List.getElem?_drop, Nat.add_zero, List.getElem?_cons_zero] at this
        exact this
      have ht : qs.drop (k + 1) = r := by
        have := congrArg List.tail hd
        rw [List.tail_drop] at this; exact this
      refine wpAny_bind (wpAny_holding ?_)
      refine iter_sq (s := { s with heap := h' }) (Sq.at_of (hl q (List.mem_of_getElem? hq)) fun o e => hkp _ o e) ?_
      refine wpAny_pure ⟨k + 1, _, hlt, rfl, ?_, ?_, ?_, fun c o e => Heap.get?_push_of_some _ (hkp c o e), fun j q' hj hjk => ?_⟩
      · rw [ht]; exact e2
      · rw [Array.toList_push, eb, its_succ]
        show _ ++ [Value.ref h'.objs.size] = _
        rw [hz]
      · rw [Heap.size_push, hz]; rfl
      · rcases Nat.lt_or_eq_of_le (Nat.le_of_lt_succ hjk) with z | z
        · exact Heap.get?_push_of_some _ (hob j q' hj z)
        · subst z
          rw [hq] at hj; cases hj
          rw [← hz]
          exact Heap.get?_push_size _ rfl
  · rintro b s' ⟨k, h', hk, rfl, e, eb, hz, hkp, hob⟩
    have hk2 : k = qs.length := by
      have := congrArg List.length e
      rw [List.length_map, List.length_drop] at this
      simp only [List.length_nil] at this
      omega
    subst hk2
    exact (hQ b h' eb hz hkp fun j q hj => hob j q hj (List.getElem?_eq_some_iff.mp hj).1)
/-- the zip, a tuple of its own -/
def ZR (h : Heap) (z TI TO : Addr) (f0 f1 : Value) : Prop := h.get? z = some { cls := .type "zip", dict := none, data := .fields #[f0, f1, .bool false, .ref TI, .ref TO], slots := #[] }
def TR (h : Heap) (T : Addr) (vs : List Value) : Prop := h.get? T = some { cls := .type "tuple", data := .seq vs.toArray }
/-- what zip leaves -/
structure Made (qs : List Sq) (s : Shared) (h : Heap) : Prop where
  size : h.objs.size = s.heap.objs.size + qs.length + 3
  keep : ∀ c o, s.heap.get? c = some o → h.get? c = some o
  it : ∀ (j : Nat) q, qs[j]? = some q → h.get? (s.heap.objs.size + j) = some q.obj
  TI : TR h (s.heap.objs.size + qs.length) (its s.heap.objs.size qs.length)
  TO : TR h (s.heap.objs.size + qs.length + 1) ((its s.heap.objs.size qs.length).map fun _ => Value.none)
  z : ZR h (s.heap.objs.size + qs.length + 2) (s.heap.objs.size + qs.length) (s.heap.objs.size + qs.length + 1) .none (.bool false)
theorem zip_new (qs : List Sq) (hz : qs.length ≤ sizeLine) : Meets (Builtin.«zip.__new__» ⟨.type "zip" :: qs.map fun q => .ref q.l, []⟩) (fun _ R s => (∀ q ∈ qs, q.At s.heap) ∧
    ∀ h', Made qs s h' → R (.ok (.ret (.ref (s.heap.objs.size + qs.length + 2)))) { s with heap := h' }) :=
  .of_wp fun prog w A R s h => by
    obtain ⟨hl, h⟩ := h
    have hsub := sub_zip
    wp_walk
    refine iterLoop_sq (A := A.in1) hl fun b h' eb hz2 hk hi => ?_
    refine wpAny_pure ?_
    rw [eb]
    refine wpAny_bind (wpAny_newTuple ?_ (by rw [its_len]; exact hz))
    refine wpAny_bind (wpAny_newTuple ?_ (by rw [List.length_map, its_len]; exact hz))
    wp_walk
    have hT1 : TR ((h'.push { cls := .type "tuple", data := .seq (its s.heap.objs.size qs.length).toArray })) (s.heap.objs.size + qs.length) (its s.heap.objs.size qs.length) := by rw [← hz2]; exact Heap.get?_push_size _ rfl
    have z1 : (h'.push { cls := .type "tuple", data := .seq (its s.heap.objs.size qs.length).toArray }).objs.size = s.heap.objs.size + qs.length + 1 := by rw [Heap.size_push, hz2]
    generalize hh1 : h'.push { cls := .type "tuple", data := .seq (its s.heap.objs.size qs.length).toArray } = h1 at hT1 z1 ⊢
    have k1 : ∀ c o, h'.get? c = some o → h1.get? c = some o := fun c o e => by rw [← hh1]; exact Heap.get?_push_of_some _ e
    have hT2 : TR ((h1.push { cls := .type "tuple", data := .seq ((its s.heap.objs.size qs.length).map fun _ => Value.none).toArray })) (s.heap.objs.size + qs.length + 1) ((its s.heap.objs.size qs.length).map fun _ => Value.none) := by rw [← z1]; exact Heap.get?_push_size _ rfl
    have z2 : (h1.push { cls := .type "tuple", data := .seq ((its s.heap.objs.size qs.length).map fun _ => Value.none).toArray }).objs.size = s.heap.objs.size + qs.length + 2 := by rw [Heap.size_push, z1]
    generalize hh2 : h1.push { cls := .type "tuple", data := .seq ((its s.heap.objs.size qs.length).map fun _ => Value.none).toArray } = h2 at hT2 z2 ⊢
    have k2 : ∀ c o, h1.get? c = some o → h2.get? c = some o := fun c o e => by rw [← hh2]; exact Heap.get?_push_of_some _ e
    refine ⟨_, rfl, ?_⟩
    have fin := h (h2.push { cls := .type "zip", data := .fields #[.none, .bool false, .bool false, .ref (s.heap.objs.size + qs.length), .ref (s.heap.objs.size + qs.length + 1)] })
      ⟨by rw [Heap.size_push, z2], fun c o e => Heap.get?_push_of_some _ (k2 _ _ (k1 _ _ (hk c o e))), fun j q e => Heap.get?_push_of_some _ (k2 _ _ (k1 _ _ (hi j q e))), Heap.get?_push_of_some _ (k2 _ _ hT1), Heap.get?_push_of_some _ hT2, by show Heap.get? _ _ = _; rw [← z2]; exact Heap.get?_push_size _ rfl⟩
    have e1 : h'.objs.size = s.heap.objs.size + qs.length := hz2
    simp only [e1, z1, z2]
    exact fin
/-- is the tuple free: any answer will do -/
theorem is_free {z TI TO : Addr} {f0 f1 : Value} {prog : Program} {w : World} {A : Around} {E : Value → Shared → Prop} {s : Shared} {Q : Bool → Shared → Prop} (hz : ZR s.heap z TI TO f0 f1) (h0 : f0 = .none ∨ ∃ T : Addr, f0 = rawInt T)
    (h : ∀ b h' f1', ZR h' z TI TO f0 f1' → Heap.SameBut z s.heap h' → Q b { s with heap := h' }) : wpAny (model prog w) A (Builtin.SmallTypes.ownedTupleIsFree (.ref z)) Q E s := by
  unfold Builtin.SmallTypes.ownedTupleIsFree
  rcases h0 with rfl | ⟨T, rfl⟩
  · exact wpAny_bind (wpAny_field hz rfl (x := .none) rfl (wpAny_pure (h true s.heap f1 hz (Heap.SameBut.refl _ _))))
  · refine wpAny_bind (wpAny_field hz rfl (x := rawInt T) rfl ?_)
    show wpAny _ _ (loadIfAlive ((T : Int).toNat) >>= _) _ _ _
    have al : ∀ {Q : Option Obj → Shared → Prop}, Q (s.heap.get? ((T : Int).toNat)) s → wpAny (model prog w) A (loadIfAlive ((T : Int).toNat)) Q E s := fun hq => fun _ _ _ => hq
    refine wpAny_bind (al ?_)
    cases hT : s.heap.get? ((T : Int).toNat) with
    | none =>
      simp only [Option.isNone_none, if_true]
      exact wpAny_pure (h true s.heap f1 hz (Heap.SameBut.refl _ _))
    | some o =>
      simp only [Option.isNone_some, Bool.false_eq_true, if_false]
      refine wpAny_bind (wpAny_field hz rfl (x := f1) rfl ?_)
      by_cases hf : (f1 != Value.bool true) = true
      · rw [if_pos hf]
        exact wpAny_bind (wpAny_setField_rec hz (by simp) fun h₁ hz₁ hs₁ => wpAny_pure (h false h₁ _ hz₁ hs₁))
      · rw [if_neg hf]
        exact wpAny_pure (h false s.heap f1 hz (Heap.SameBut.refl _ _))
end
end VZ
/-! VZ2: the next of a zip. -/
namespace VZ
open PySem PySem.Spec PyProof.Rows
open PySem.Sem (wp)
/-- the zip at turn i -/
structure Zs (qs : List Sq) (n0 : Nat) (h : Heap) (i : Nat) : Prop where
  z : ∃ f0 f1, ZR h (n0 + qs.length + 2) (n0 + qs.length) (n0 + qs.length + 1) f0 f1 ∧ (f0 = .none ∨ ∃ T : Addr, f0 = rawInt T)
  TI : TR h (n0 + qs.length) (its n0 qs.length)
  TO : ∃ vs, vs.length = qs.length ∧ TR h (n0 + qs.length + 1) vs
  it : ∀ (j : Nat) q, qs[j]? = some q → q.It h (n0 + j) i
/-- the sequences stand, ahead of the zip -/
def Qs (qs : List Sq) (n0 : Nat) (h : Heap) : Prop := ∀ q ∈ qs, q.At h ∧ q.l < n0
/-- what the next changes -/
def Kp (n0 n : Nat) (h h' : Heap) : Prop := ∀ c o, (c < n0 ∨ n0 + n + 2 < c ∨ c = n0 + n) → h.get? c = some o → h'.get? c = some o
theorem zipIdx_at {α : Type} (l : List α) (k : Nat) : l.zipIdx.drop k = (l.drop k).zipIdx k := by
  have := List.zipIdx_eq_zip_range' (l := l) (i := 0)
  apply List.ext_getElem?
  intro i
  rw [List.getElem?_drop, List.getElem?_zipIdx, List.getElem?_zipIdx, List.getElem?_drop]
  cases l[k + i]? with
  | none => rfl
  | some x => simp
theorem nn {a b : Nat} (h : a < b ∨ b < a) : a ≠ b := by omega
section
variable {prog : Program} {w : World} {A : Around} {E : Value → Shared → Prop} {s : Shared}
theorem upd_TR {T : Addr} {vs : List Value} {k : Nat} {x : Value} {Q : Unit → Shared → Prop} (hT : TR s.heap T vs) (hz : vs.length ≤ sizeLine)
    (h : ∀ h', TR h' T (vs.set k x) → Heap.SameBut T s.heap h' → Q () { s with heap := h' }) : wpAny (model prog w) A (updateSeq T (·.setIfInBounds k x)) Q E s := by
  refine wpAny_updateSeq hT rfl (h _ ?_ (Heap.SameBut.update ..)) (by rw [List.size_toArray]; exact hz) (by rw [Array.size_setIfInBounds, List.size_toArray]; omega)
  show Heap.get? _ _ = _
  rw [Heap.get?_update_self _ hT rfl]
  simp [Obj.mapSeq]
theorem its_at {n0 n k : Nat} {v : Value} (h : (its n0 n)[k]? = some v) : k < n ∧ v = .ref (n0 + k) := by
  unfold its at h
  rw [List.getElem?_map] at h
  cases q : (List.range n)[k]? with
  | none => rw [q] at h; cases h
  | some j =>
    rw [q] at h
    have h1 := List.getElem?_eq_some_iff.mp q
    obtain ⟨h2, h3⟩ := h1
    rw [List.getElem_range] at h3
    rw [List.length_range] at h2
    subst h3
    exact ⟨h2, (Option.some.inj h).symm⟩
theorem drop_cons {α : Type} {l r : List α} {x : α} {k : Nat} (h : l.drop k = x :: r) : l[k]? = some x ∧ l.drop (k + 1) = r ∧ k < l.length := by
  have h1 : l[k]? = some x := by
    have := congrArg (fun l => l[0]?) h
    simp only [List.getElem?_drop, Nat.add_zero, List.getElem?_cons_zero] at this
    exact this
  refine ⟨h1, ?_, (List.getElem?_eq_some_iff.mp h1).1⟩
  have := congrArg List.tail h
  rw [List.tail_drop] at this; exact this
theorem next_item {qs : List Sq} {n0 i : Nat} {xs : List Value} {Q : Value → Shared → Prop} (hn : qs ≠ []) (hz : qs.length ≤ sizeLine) (hb : n0 + qs.length + 2 < s.heap.objs.size) (hq : Qs qs n0 s.heap) (st : Zs qs n0 s.heap i) (hx : xs.length = qs.length) (hxs : ∀ (j : Nat) q x, qs[j]? = some q → xs[j]? = some x → q.xs[i]? = some x)
    (hQ : ∀ h', Zs qs n0 h' (i + 1) → TR h' s.heap.objs.size xs → Kp n0 qs.length s.heap h' → Q (.ref s.heap.objs.size) { s with heap := h' }) :
    wpAny (model prog w) A (Builtin.«zip.__next__» ⟨[.ref (n0 + qs.length + 2)], []⟩) (fun fin s' => ∃ v, fin = .done (.ret v) ∧ Q v s') E s := by
  obtain ⟨⟨f0, f1, hzz, h0⟩, hTI, ⟨vs, hv, hTO⟩, hit⟩ := st
  show wpAny _ _ (field (.ref (n0 + qs.length + 2)) 2 >>= _) _ _ _
  refine wpAny_bind (wpAny_field hzz rfl (x := .bool false) rfl ?_)
  show wpAny _ _ (field (.ref (n0 + qs.length + 2)) 3 >>= _) _ _ _
  refine wpAny_bind (wpAny_field hzz rfl (x := .ref (n0 + qs.length)) rfl ?_)
  refine wpAny_bind (wpAny_seqItems hTI rfl ?_)
  have hne : (its n0 qs.length).toArray.isEmpty = false := by
    have := its_len n0 qs.length
    cases h : its n0 qs.length with
    | nil => rw [h] at this; exact absurd (List.eq_nil_of_length_eq_zero this.symm) hn
    | cons a r => rfl
  simp only [hne, Bool.false_eq_true, if_false]
  refine wpAny_bind (is_free hzz h0 fun b h₁ f1' hz₁ hs₁ => ?_)
  have kp₁ : Kp n0 qs.length s.heap h₁ := fun c o hc e => (hs₁.2 c (nn (by omega))).trans e
  have hTO₁ : TR h₁ (n0 + qs.length + 1) vs := (hs₁.2 _ (nn (by omega))).trans hTO
  have hit₁ : ∀ (j : Nat) q, qs[j]? = some q → q.It h₁ (n0 + j) i := fun j q e => Sq.it_of (hit j q e) fun o e2 => by
    have := (List.getElem?_eq_some_iff.mp e).1
    exact (hs₁.2 _ (nn (by omega))).trans e2
  have sz₁ : h₁.objs.size = s.heap.objs.size := hs₁.1
  cases b with
  | true =>
    simp only [if_true]
    refine wpAny_bind (wpAny_rule ?_)
    refine wpAny_bind (wpAny_field (s := { s with heap := h₁ }) hz₁ rfl (x := .ref (n0 + qs.length + 1)) rfl ?_)
    refine wpAny_bind (wpAny_setField_rec (s := { s with heap := h₁ }) hz₁ (by simp) fun h₂ hz₂ hs₂ => ?_)
    replace hz₂ : ZR h₂ (n0 + qs.length + 2) (n0 + qs.length) (n0 + qs.length + 1) .ellipsis f1' := hz₂
    refine wpAny_bind (wpAny_forIn_list _ (fun rest b s' => ∃ k h', k ≤ qs.length ∧ s' = { s with heap := h' } ∧ rest = (its n0 qs.length).zipIdx.drop k ∧ b = (none, ()) ∧ h'.objs.size = s.heap.objs.size ∧ ZR h' (n0 + qs.length + 2) (n0 + qs.length) (n0 + qs.length + 1) .ellipsis f1' ∧
      TR h' (n0 + qs.length + 1) (xs.take k ++ vs.drop k) ∧ (∀ (j : Nat) q, qs[j]? = some q → q.It h' (n0 + j) (if j < k then i + 1 else i)) ∧ Kp n0 qs.length s.heap h') _ ?_ ?_ _ _
      ⟨0, h₂, Nat.zero_le _, rfl, rfl, rfl, hs₂.1.trans sz₁, hz₂, (hs₂.2 _ (nn (by omega))).trans hTO₁, fun j q e => Sq.it_of (hit₁ j q e) fun o e2 => by
        have := (List.getElem?_eq_some_iff.mp e).1
        exact (hs₂.2 _ (nn (by omega))).trans e2, fun c o hc e => (hs₂.2 c (nn (by omega))).trans (kp₁ c o hc e)⟩)
    · rintro ⟨x, k'⟩ rest b s' ⟨k, h', hk, rfl, e, rfl, hsz, hzr, hTO', hit', kp'⟩
      obtain ⟨e1, e2, e3⟩ := drop_cons e.symm
      rw [List.getElem?_zipIdx] at e1
      cases q0 : (its n0 qs.length)[k]? with
      | none => rw [q0] at e1; cases e1
      | some v =>
        rw [q0] at e1
        obtain ⟨hk2, rfl⟩ := its_at q0
        have e1 := Option.some.inj e1
        injection e1 with ex ek
        subst ex
        have ek : k' = k := by omega
        subst ek
        obtain ⟨q, hqk⟩ : ∃ q, qs[k']? = some q := ⟨_, List.getElem?_eq_getElem hk2⟩
        obtain ⟨x, hxk⟩ : ∃ x, xs[k']? = some x := ⟨_, List.getElem?_eq_getElem (by omega)⟩
        obtain ⟨ha, hl⟩ := hq q (List.mem_of_getElem? hqk)
        have hik := hit' k' q hqk
        rw [if_neg (Nat.lt_irrefl _)] at hik
        refine wpAny_bind (wpAny_onRaise ?_)
        show wpAny _ _ (Builtin.SmallTypes.nextOf (.ref (n0 + k')) >>= _) _ _ _
        refine wpAny_bind (draw_item (s := { s with heap := h' }) hik (Sq.at_of ha fun o e => kp' _ o (.inl hl) e) (hxs k' q x hqk hxk) fun h₃ it₃ hs₃ => wpAny_pure ?_)
        have hTO₃ : TR h₃ (n0 + qs.length + 1) (xs.take k' ++ vs.drop k') := (hs₃.2 _ (nn (by omega))).trans hTO'
        refine wpAny_bind (wpAny_seqItems (s := { s with heap := h₃ }) hTO₃ rfl ?_)
        refine wpAny_bind (upd_TR (s := { s with heap := h₃ }) (k := k') (x := x) hTO₃ (by rw [List.length_append, List.length_take, List.length_drop]; omega) fun h₄ hTO₄ hs₄ => ?_)
        refine wpAny_bind (wpAny_letGo (wpAny_pure ?_))
        refine ⟨k' + 1, h₄, hk2, rfl, e2.symm, rfl, hs₄.1.trans (hs₃.1.trans hsz), (hs₄.2 _ (nn (by omega))).trans ((hs₃.2 _ (nn (by omega))).trans hzr), ?_, fun j q' hj => ?_, fun c o hc e => ?_⟩
        · have e : (xs.take k' ++ vs.drop k').set k' x = xs.take (k' + 1) ++ vs.drop (k' + 1) := by
            rw [List.set_append_right _ _ (by rw [List.length_take]; omega), List.length_take, Nat.min_eq_left (by omega), Nat.sub_self, List.take_add_one, hxk, List.append_assoc]
            rw [List.drop_eq_getElem_cons (l := vs) (i := k') (by omega)]
            rfl
          rw [← e]; exact hTO₄
        · by_cases hjk : j = k'
          · subst hjk
            rw [hqk] at hj; cases hj
            rw [if_pos (Nat.lt_succ_self _)]
            exact Sq.it_of it₃ fun o e => (hs₄.2 _ (nn (by omega))).trans e
          · have hj' := hit' j q' hj
            have hjl := (List.getElem?_eq_some_iff.mp hj).1
            have e : (if j < k' + 1 then i + 1 else i) = if j < k' then i + 1 else i := by
              by_cases z : j < k'
              · rw [if_pos z, if_pos (by omega)]
              · rw [if_neg z, if_neg (by omega)]
            rw [e]
            exact Sq.it_of hj' fun o e => (hs₄.2 _ (nn (by omega))).trans ((hs₃.2 _ (nn (by omega))).trans e)
        · exact (hs₄.2 _ (nn (by omega))).trans ((hs₃.2 _ (nn (by omega))).trans (kp' c o hc e))
    · rintro b s' ⟨k, h', hk, rfl, e, rfl, hsz, hzr, hTO', hit', kp'⟩
      have hk2 : k = qs.length := by
        have := congrArg List.length e
        rw [List.length_drop, List.length_zipIdx, its_len] at this
        simp only [List.length_nil] at this
        omega
      subst hk2
      rw [← hv, List.drop_length, List.append_nil, hv, ← hx, List.take_length, hx] at hTO'
      refine wpAny_bind (wpAny_seqItems (s := { s with heap := h' }) hTO' rfl ?_)
      refine wpAny_bind (wpAny_newTuple (s := { s with heap := h' }) ?_ (by simp; omega))
      have hz5 : ZR (h'.push { cls := .type "tuple", data := .seq xs.toArray.toList.toArray }) (n0 + qs.length + 2) (n0 + qs.length) (n0 + qs.length + 1) .ellipsis f1' := Heap.get?_push_of_some _ hzr
      refine wpAny_bind ?_
      unfold Builtin.SmallTypes.ownedTupleHandOut
      refine wpAny_bind (wpAny_setField_rec (s := { s with heap := h'.push { cls := .type "tuple", data := .seq xs.toArray.toList.toArray } }) hz5 (by simp) fun h₇ hz₇ hs₇ => ?_)
      replace hz₇ : ZR h₇ (n0 + qs.length + 2) (n0 + qs.length) (n0 + qs.length + 1) (rawInt h'.objs.size) f1' := hz₇
      refine wpAny_setField_rec (s := { s with heap := h₇ }) hz₇ (by simp) fun h₈ hz₈ hs₈ => ?_
      replace hz₈ : ZR h₈ (n0 + qs.length + 2) (n0 + qs.length) (n0 + qs.length + 1) (rawInt h'.objs.size) (.bool false) := hz₈
      refine wpAny_pure ⟨_, rfl, ?_⟩
      show Q (.ref h'.objs.size) _
      have up : ∀ c o, c ≠ n0 + qs.length + 2 → h'.get? c = some o → h₈.get? c = some o := fun c o hc e => (hs₈.2 c hc).trans ((hs₇.2 c hc).trans (Heap.get?_push_of_some _ e))
      have hT : TR h₈ h'.objs.size xs := (hs₈.2 _ (nn (by omega))).trans ((hs₇.2 _ (nn (by omega))).trans (by
        have e : xs.toArray.toList.toArray = xs.toArray := by simp
        rw [e]
        exact Heap.get?_push_size _ rfl))
      have hT : TR h₈ s.heap.objs.size xs := by rw [← hsz]; exact hT
      have hkp : Kp n0 qs.length s.heap h₈ := fun c o hc e => up c o (nn (by omega)) (kp' c o hc e)
      have hfin := hQ h₈ ⟨⟨_, _, hz₈, .inr ⟨_, rfl⟩⟩, hkp _ _ (.inr (.inr rfl)) hTI, ⟨xs, hx, up _ _ (nn (by omega)) hTO'⟩, fun j q hj => by
        have hjl := (List.getElem?_eq_some_iff.mp hj).1
        have := hit' j q hj
        rw [if_pos hjl] at this
        exact Sq.it_of this fun o e => up _ o (nn (by omega)) e⟩ hT hkp
      have e8 : (h'.objs.size : Addr) = s.heap.objs.size := hsz
      rw [e8]
      exact hfin
  | false =>
    simp only [Bool.false_eq_true, if_false]
    refine wpAny_bind ?_
    rw [← Array.forIn_toList]
    refine wpAny_forIn_list _ (fun rest b s' => ∃ k h', k ≤ qs.length ∧ s' = { s with heap := h' } ∧ rest = (its n0 qs.length).drop k ∧ (∃ arr : Array Value, b = (none, arr) ∧ arr.toList = xs.take k) ∧ h'.objs.size = s.heap.objs.size ∧ ZR h' (n0 + qs.length + 2) (n0 + qs.length) (n0 + qs.length + 1) f0 f1' ∧
      TR h' (n0 + qs.length + 1) vs ∧ (∀ (j : Nat) q, qs[j]? = some q → q.It h' (n0 + j) (if j < k then i + 1 else i)) ∧ Kp n0 qs.length s.heap h') _ ?_ ?_ _ _
      ⟨0, h₁, Nat.zero_le _, rfl, by simp, ⟨#[], rfl, rfl⟩, sz₁, hz₁, hTO₁, hit₁, kp₁⟩
    · rintro v rest b s' ⟨k', h', hk, rfl, e, ⟨arr, rfl, harr⟩, hsz, hzr, hTO', hit', kp'⟩
      obtain ⟨e1, e2, e3⟩ := drop_cons e.symm
      obtain ⟨hk2, rfl⟩ := its_at e1
      obtain ⟨q, hqk⟩ : ∃ q, qs[k']? = some q := ⟨_, List.getElem?_eq_getElem hk2⟩
      obtain ⟨x, hxk⟩ : ∃ x, xs[k']? = some x := ⟨_, List.getElem?_eq_getElem (by omega)⟩
      obtain ⟨ha, hl⟩ := hq q (List.mem_of_getElem? hqk)
      have hik := hit' k' q hqk
      rw [if_neg (Nat.lt_irrefl _)] at hik
      refine wpAny_bind (wpAny_holding ?_)
      show wpAny _ _ (Builtin.SmallTypes.nextOf (.ref (n0 + k')) >>= _) _ _ _
      refine wpAny_bind (draw_item (s := { s with heap := h' }) hik (Sq.at_of ha fun o e => kp' _ o (.inl hl) e) (hxs k' q x hqk hxk) fun h₃ it₃ hs₃ => wpAny_pure ?_)
      refine wpAny_pure ?_
      refine ⟨k' + 1, h₃, hk2, rfl, e2.symm, ⟨_, rfl, by rw [Array.toList_push, harr, List.take_add_one, hxk]; rfl⟩, hs₃.1.trans hsz, (hs₃.2 _ (nn (by omega))).trans hzr, (hs₃.2 _ (nn (by omega))).trans hTO', fun j q' hj => ?_, fun c o hc e => ?_⟩
      · by_cases hjk : j = k'
        · subst hjk
          rw [hqk] at hj; cases hj
          rw [if_pos (Nat.lt_succ_self _)]
          exact it₃
        · have hj' := hit' j q' hj
          have hjl := (List.getElem?_eq_some_iff.mp hj).1
          have e : (if j < k' + 1 then i + 1 else i) = if j < k' then i + 1 else i := by
            by_cases z : j < k'
            · rw [if_pos z, if_pos (by omega)]
            · rw [if_neg z, if_neg (by omega)]
          rw [e]
          exact Sq.it_of hj' fun o e => (hs₃.2 _ (nn (by omega))).trans e
      · exact (hs₃.2 _ (nn (by omega))).trans (kp' c o hc e)
    · rintro b s' ⟨k, h', hk, rfl, e, ⟨arr, rfl, harr⟩, hsz, hzr, hTO', hit', kp'⟩
      have hk2 : k = qs.length := by
        have := congrArg List.length e
        rw [List.length_drop, its_len] at this
        simp only [List.length_nil] at this
        omega
      subst hk2
      rw [← hx, List.take_length] at harr
      show wpAny _ _ (newTuple arr.toList >>= _) _ _ _
      rw [harr]
      refine wpAny_bind (wpAny_newTuple (s := { s with heap := h' }) ?_ (by omega))
      refine wpAny_pure ⟨_, rfl, ?_⟩
      have up : ∀ c o, h'.get? c = some o → (h'.push { cls := .type "tuple", data := .seq xs.toArray }).get? c = some o := fun c o e => Heap.get?_push_of_some _ e
      have hT : TR (h'.push { cls := .type "tuple", data := .seq xs.toArray }) s.heap.objs.size xs := by rw [← hsz]; exact Heap.get?_push_size _ rfl
      have hkp : Kp n0 qs.length s.heap (h'.push { cls := .type "tuple", data := .seq xs.toArray }) := fun c o hc e => up c o (kp' c o hc e)
      have hfin := hQ _ ⟨⟨_, _, up _ _ hzr, h0⟩, hkp _ _ (.inr (.inr rfl)) hTI, ⟨vs, hv, up _ _ hTO'⟩, fun j q hj => by
        have hjl := (List.getElem?_eq_some_iff.mp hj).1
        have := hit' j q hj
        rw [if_pos hjl] at this
        exact Sq.it_of this fun o e => up _ o e⟩ hT hkp
      have e8 : (h'.objs.size : Addr) = s.heap.objs.size := hsz
      show Q (.ref h'.objs.size) _
      rw [e8]
      exact hfin
end
end VZ
/-! VZ3: the end of a zip; zip called; the turn. -/
namespace VZ
open PySem PySem.Spec PyProof.Rows
open PySem.Sem (wp)
section
variable {prog : Program} {w : World} {A : Around} {E : Value → Shared → Prop} {s : Shared}
/-- what stays where the end has come -/
def Kp2 (n0 n : Nat) (h h' : Heap) : Prop := ∀ c o, (c < n0 ∨ n0 + n + 2 < c ∨ c = n0 + n) → h.get? c = some o → h'.get? c = some o
theorem stop_w {α : Type} {Q : α → Shared → Prop} (hh : A.handled = none)
    (hE : ∀ h' e, (∀ c o, s.heap.get? c = some o → h'.get? c = some o) → (∃ o, h'.get? e = some o ∧ o.cls = .type "StopIteration") → E (.ref e) { s with heap := h' }) :
    wpAny (model prog w) A (Builtin.SmallTypes.stopIteration : Sem α) Q E s := by
  unfold Builtin.SmallTypes.stopIteration
  show wpAny _ _ (newExc (.type "StopIteration") [] >>= _) _ _ _
  refine wpAny_bind ?_
  simp only [newExc, newTuple]
  refine wpAny_bind (wpAny_newObj_type ?_ (by size_fits))
  refine wpAny_bind (m := firstArgMember _ _) (wpAny_of_eq (a := Value.none) (by first | rfl | (simp only [firstArgMember]; rfl)) ?_)
  refine wpAny_newObj_type ?_ (by size_fits)
  simp only [raiseNew]
  refine wpAny_bind (wpAny_handled ?_)
  first | rw [show A.in1.handled = none from hh] | rw [hh]
  refine wpAny_bind (wpAny_pure (wpAny_throw ?_))
  exact hE _ _ (fun c o e => Heap.get?_push_of_some _ (Heap.get?_push_of_some _ e)) ⟨_, Heap.get?_push_size _ rfl, rfl⟩
theorem next_end {qs : List Sq} {n0 i : Nat} {Q : Fin → Shared → Prop} (hh : A.handled = none) (hq : Qs qs n0 s.heap) (st : Zs qs n0 s.heap i) (hxs : ∀ q ∈ qs, q.xs[i]? = none)
    (hE : ∀ h' e, Kp2 n0 qs.length s.heap h' → (∃ o, h'.get? e = some o ∧ o.cls = .type "StopIteration") → E (.ref e) { s with heap := h' }) :
    wpAny (model prog w) A (Builtin.«zip.__next__» ⟨[.ref (n0 + qs.length + 2)], []⟩) Q E s := by
  obtain ⟨⟨f0, f1, hzz, h0⟩, hTI, ⟨vs, hv, hTO⟩, hit⟩ := st
  show wpAny _ _ (field (.ref (n0 + qs.length + 2)) 2 >>= _) _ _ _
  refine wpAny_bind (wpAny_field hzz rfl (x := .bool false) rfl ?_)
  show wpAny _ _ (field (.ref (n0 + qs.length + 2)) 3 >>= _) _ _ _
  refine wpAny_bind (wpAny_field hzz rfl (x := .ref (n0 + qs.length)) rfl ?_)
  refine wpAny_bind (wpAny_seqItems hTI rfl ?_)
  cases qs with
  | nil =>
    have hne : (its n0 ([] : List Sq).length).toArray.isEmpty = true := rfl
    simp only [hne, if_true]
    refine wpAny_bind (wpAny_rule ?_)
    refine wpAny_bind (stop_w hh fun h' e k he => hE h' e (fun c o _ e => k c o e) he)
  | cons q r =>
    have hne : (its n0 (q :: r).length).toArray.isEmpty = false := by
      have := its_len n0 (q :: r).length
      cases h : its n0 (q :: r).length with
      | nil => rw [h] at this; cases this
      | cons a r => rfl
    simp only [hne, Bool.false_eq_true, if_false]
    refine wpAny_bind (is_free hzz h0 fun b h₁ f1' hz₁ hs₁ => ?_)
    have e0 : ∃ tl, its n0 (q :: r).length = .ref n0 :: tl := ⟨_, by unfold its; rw [List.length_cons, List.range_succ_eq_map]; rfl⟩
    obtain ⟨tl, e0⟩ := e0
    obtain ⟨ha, hl⟩ := hq q List.mem_cons_self
    have hl : @LT.lt Nat _ q.l n0 := hl
    have hik := hit 0 q rfl
    have hx := hxs q List.mem_cons_self
    cases b with
    | true =>
      simp only [if_true]
      refine wpAny_bind (wpAny_rule ?_)
      refine wpAny_bind (wpAny_field (s := { s with heap := h₁ }) hz₁ rfl (x := .ref (n0 + (q :: r).length + 1)) rfl ?_)
      refine wpAny_bind (wpAny_setField_rec (s := { s with heap := h₁ }) hz₁ (by simp) fun h₂ hz₂ hs₂ => ?_)
      replace hz₂ : ZR h₂ (n0 + (q :: r).length + 2) (n0 + (q :: r).length) (n0 + (q :: r).length + 1) .ellipsis f1' := hz₂
      refine wpAny_bind ?_
      rw [e0]
      simp only [List.zipIdx_cons, List.forIn_cons]
      refine wpAny_bind (wpAny_bind (wpAny_onRaise ?_))
      show wpAny _ _ (Builtin.SmallTypes.nextOf (.ref n0) >>= _) _ _ _
      refine wpAny_bind (draw_end (s := { s with heap := h₂ }) hh (Sq.it_of hik fun o e => (hs₂.2 _ (nn (by omega))).trans ((hs₁.2 _ (nn (by omega))).trans e)) (Sq.at_of ha fun o e => (hs₂.2 _ (nn (by omega))).trans ((hs₁.2 _ (nn (by omega))).trans e)) hx fun h₃ e hs₃ he => ?_)
      obtain ⟨oe, hoe, hce⟩ := he
      have hz₃ : ZR h₃ (n0 + (q :: r).length + 2) (n0 + (q :: r).length) (n0 + (q :: r).length + 1) .ellipsis f1' := hs₃ _ _ (nn (by omega)) hz₂
      have hez : e ≠ n0 + (q :: r).length + 2 := fun x => by subst x; rw [hz₃] at hoe; cases hoe; simp at hce
      refine wpAny_setField_rec (s := { s with heap := h₃ }) hz₃ (by simp) fun h₄ _ hs₄ => hE h₄ e (fun c o hc e => ?_) ⟨oe, (hs₄.2 _ hez).trans hoe, hce⟩
      exact (hs₄.2 _ (nn (by simp at hc ⊢; omega))).trans (hs₃ _ _ (nn (by simp at hc ⊢; omega)) ((hs₂.2 _ (nn (by simp at hc ⊢; omega))).trans ((hs₁.2 _ (nn (by simp at hc ⊢; omega))).trans e)))
    | false =>
      simp only [Bool.false_eq_true, if_false]
      refine wpAny_bind ?_
      rw [← Array.forIn_toList, e0]
      simp only [List.forIn_cons]
      refine wpAny_bind (wpAny_bind (wpAny_holding ?_))
      show wpAny _ _ (Builtin.SmallTypes.nextOf (.ref n0) >>= _) _ _ _
      refine wpAny_bind (draw_end (s := { s with heap := h₁ }) hh (Sq.it_of hik fun o e => ((hs₁.2 _ (nn (by omega))).trans e)) (Sq.at_of ha fun o e => ((hs₁.2 _ (nn (by omega))).trans e)) hx fun h₃ e hs₃ he => ?_)
      refine hE h₃ e (fun c o hc e => ?_) he
      exact hs₃ _ _ (nn (by simp at hc ⊢; omega)) ((hs₁.2 _ (nn (by simp at hc ⊢; omega))).trans e)
end
end VZ
/-! VZ4: zip called with any arguments; the turn over it. -/
namespace VZ
open PySem PySem.Spec PyProof.Rows
open PySem.Sem (wp)
theorem typeCall_zip (vs : List Value) : checkTypeCall "zip" ⟨vs, []⟩ = pure () := by kernel_rfl
theorem newCall_zip : ∀ (vs : List Value), checkBuiltinCall "zip.__new__" ⟨.type "zip" :: vs, []⟩ = pure ()
  | [] => by kernel_rfl
  | a :: r => by kernel_rfl
theorem args_init (a : Value) (vs : List Value) : argsOk "object.__init__" ⟨a :: vs, []⟩ := by
  unfold argsOk; rw [signature?_of (id := "object.__init__") (n := ['_', '_', 't', 'i', 'n', 'i', '_', '_']) (o := ['t', 'c', 'e', 'j', 'b', 'o']) (by kernel_rfl) F.owner_object]; kernel_rfl
section
variable {prog : Program} {w : World} {A : Around} {E : Value → Shared → Prop} {s : Shared}
theorem call_zip {qs : List Sq} {Q : Value → Shared → Prop} (hz : qs.length ≤ sizeLine) (hl : ∀ q ∈ qs, q.At s.heap) (h : ∀ h', Made qs s h' → Q (.ref (s.heap.objs.size + qs.length + 2)) { s with heap := h' }) :
    wpAny (model prog w) A (call (.type "zip") (qs.map fun q => .ref q.l)) Q E s :=
  callType_new F.called_zip (by decide) (typeCall_zip _) (newCall_zip _) (fun obj => args_init obj _) F.entry_zip_new (zip_new qs hz) ⟨hl, fun h' m => ⟨⟨_, m.z, rfl⟩, h h' m⟩⟩
theorem Made.zs {qs : List Sq} {h : Heap} (m : Made qs s h) : Zs qs s.heap.objs.size h 0 :=
  ⟨⟨_, _, m.z, .inl rfl⟩, m.TI, ⟨_, by rw [List.length_map, its_len], m.TO⟩, fun j q e => Sq.it_new (m.it j q e)⟩
theorem Made.qs {qs : List Sq} {h : Heap} (m : Made qs s h) (hl : ∀ q ∈ qs, q.At s.heap) : Qs qs s.heap.objs.size h := fun q hq => by
  obtain ⟨o, e, _⟩ := Sq.at_lt (hl q hq)
  exact ⟨Sq.at_of (hl q hq) fun o e => m.keep _ o e, Heap.lt_size e⟩
/-- the sequences told anew -/
theorem Zs.congr {qs ps : List Sq} {n0 i : Nat} {h : Heap} (hl : ps.length = qs.length) (e : ∀ (j : Nat) p, ps[j]? = some p → ∃ q, qs[j]? = some q ∧ q.tp = p.tp ∧ q.l = p.l) (st : Zs qs n0 h i) : Zs ps n0 h i := by
  obtain ⟨a, b, c, d⟩ := st
  rw [← hl] at a b c
  refine ⟨a, b, c, fun j p hp => ?_⟩
  obtain ⟨q, hq, e1, e2⟩ := e j p hp
  have := d j q hq
  unfold Sq.It at this ⊢
  rw [← e1, ← e2]; exact this
theorem pyNext_item {qs : List Sq} {n0 i : Nat} {xs : List Value} {Q : Option Value → Shared → Prop} (hn : qs ≠ []) (hz : qs.length ≤ sizeLine) (hb : n0 + qs.length + 2 < s.heap.objs.size) (hq : Qs qs n0 s.heap) (st : Zs qs n0 s.heap i) (hx : xs.length = qs.length) (hxs : ∀ (j : Nat) q x, qs[j]? = some q → xs[j]? = some x → q.xs[i]? = some x)
    (hQ : ∀ h', Zs qs n0 h' (i + 1) → TR h' s.heap.objs.size xs → Kp n0 qs.length s.heap h' → Q (some (.ref s.heap.objs.size)) { s with heap := h' }) :
    wpAny (model prog w) A (pyNext (.ref (n0 + qs.length + 2))) Q E s := by
  obtain ⟨f0, f1, hzz, _⟩ := st.z
  have hT : s.TypeIs (.ref (n0 + qs.length + 2)) "zip" := ⟨_, hzz, rfl⟩
  unfold pyNext
  exact wpAny_bind (wpAny_attempt (wpAny_callSpecial?_slot (name := Str.ofString "__next__") hT F.slot_zip_next
    (wpAny_call_entry F.slot_zip_next hT F.entry_zip_next (next_item hn hz hb hq st hx hxs fun h' a1 a2 a3 => wpAny_pure (hQ h' a1 a2 a3)) (F.args_zip_next_1 _))))
theorem pyNext_end {qs : List Sq} {n0 i : Nat} {Q : Option Value → Shared → Prop} (hh : A.handled = none) (hq : Qs qs n0 s.heap) (st : Zs qs n0 s.heap i) (hxs : ∀ q ∈ qs, q.xs[i]? = none)
    (hQ : ∀ h', Kp n0 qs.length s.heap h' → Q none { s with heap := h' }) : wpAny (model prog w) A (pyNext (.ref (n0 + qs.length + 2))) Q E s := by
  obtain ⟨f0, f1, hzz, _⟩ := st.z
  have hT : s.TypeIs (.ref (n0 + qs.length + 2)) "zip" := ⟨_, hzz, rfl⟩
  unfold pyNext
  refine wpAny_bind (wpAny_attempt (wpAny_callSpecial?_slot (name := Str.ofString "__next__") hT F.slot_zip_next
    (wpAny_call_entry F.slot_zip_next hT F.entry_zip_next (next_end hh hq st hxs fun h' e hk he => ?_) (F.args_zip_next_1 _))))
  obtain ⟨o, ho, hc⟩ := he
  refine wpAny_bind (wpAny_isInstance (T := "StopIteration") (b := true) ⟨o, ho, hc⟩ isSubtype_stop ?_)
  exact wpAny_pure (hQ _ hk)
theorem let_go {tg : Expr} {z TI TO T : Addr} {f0 f1 : Value} {Q : Unit → Shared → Prop} (hz : ZR s.heap z TI TO f0 f1) (h0 : f0 = .none ∨ ∃ T : Addr, f0 = rawInt T)
    (hQ : ∀ h' f0', ZR h' z TI TO f0' f1 → (f0' = .none ∨ ∃ T : Addr, f0' = rawInt T) → Heap.SameBut z s.heap h' → Q () { s with heap := h' }) : wpAny (model prog w) A (letOwnedTupleGo tg (.ref z) (.ref T)) Q E s := by
  have same : Q () s := hQ s.heap f0 hz h0 (Heap.SameBut.refl _ _)
  unfold letOwnedTupleGo
  cases tg <;> first
    | exact wpAny_pure same
    | (refine wpAny_bind (wpAny_load hz ?_)
       show wpAny _ _ (if (_ : Bool) = true then _ else _) Q E s
       split
       · refine wpAny_bind (wpAny_rule ?_)
         show wpAny _ _ (setField (.ref z) 0 .none) Q E s
         exact wpAny_setField_rec hz (by simp) fun h' hz' hs' => hQ h' _ hz' (.inl rfl) hs'
       · exact wpAny_pure same)
theorem iter_self {qs : List Sq} {n0 i : Nat} {Q : Value → Shared → Prop} (st : Zs qs n0 s.heap i) (h : Q (.ref (n0 + qs.length + 2)) s) : wpAny (model prog w) A (pyIter (.ref (n0 + qs.length + 2))) Q E s := by
  obtain ⟨f0, f1, hzz, _⟩ := st.z
  have hT : s.TypeIs (.ref (n0 + qs.length + 2)) "zip" := ⟨_, hzz, rfl⟩
  refine wpAny_pyIter_slot hT F.slot_zip_iter (wpAny_call_entry F.slot_zip_iter hT F.entry_zip_iter ?_ (F.args_zip_iter_1 _))
  show wpAny _ _ (ret (.ref (n0 + qs.length + 2))) _ _ s
  exact wpAny_pure ⟨_, rfl, "zip", _, hT, F.slot_zip_next.lookup, h⟩
end
end VZ
/-! VZ5: the turn over a zip at the level of the hand layer. -/
namespace VZ
open PySem PySem.Spec PyProof.Rows L2
/-- a tuple (true) or a list (false) -/
def SqB (K : PySem.W.Frag) (H : Hp) (p : Bool × Addr) (xs : List V) : Prop := match p.1 with
  | true => SqT K H p.2 xs
  | false => SqL K H p.2 xs
def ItN (K : PySem.W.Frag) (ls : List (Bool × Addr)) : It :=
  ⟨fun i H => ls ≠ [] ∧ ∃ vss : List (List V), Paired (SqB K H) ls vss ∧ ∀ vs ∈ vss, i < vs.length,
    fun i H v H' => ∃ T xs, v = .ref T ∧ H T = none ∧ H' = upd H T (.tup xs) ∧ ∀ vss : List (List V), Paired (SqB K H) ls vss → xs.length = vss.length ∧ ∀ (j : Nat) vs, vss[j]? = some vs → vs[i]? = xs[j]?,
    fun i H => ∃ vss : List (List V), Paired (SqB K H) ls vss ∧ ∀ vs ∈ vss, vs.length ≤ i⟩
section
variable {X : Cx} {pins : List (Addr × Obj)} {σ : L2.St} {H : Hp} {s : Shared}
theorem one_sq (I : Inv X pins σ H s) {p : Bool × Addr} {vs : List V} (h : SqB X.K H p vs) : ∃ its : List Value, Vals vs its ∧ Sq.At ⟨p.1, p.2, its.toArray⟩ s.heap := by
  obtain ⟨b, a⟩ := p
  cases b with
  | true => obtain ⟨its, r, p, _⟩ := I.tuple h; exact ⟨its, r, p⟩
  | false => obtain ⟨its, r, p, _⟩ := I.list h; exact ⟨its, r, p.isList⟩
theorem sq_inj (I : Inv X pins σ H s) {p : Bool × Addr} {vs ws : List V} (h : SqB X.K H p vs) (g : SqB X.K H p ws) : vs = ws := by
  obtain ⟨b, a⟩ := p
  cases b with
  | true => exact I.tuple_inj h g
  | false => exact I.list_inj h g
theorem sqs_inj (I : Inv X pins σ H s) : ∀ {ls : List (Bool × Addr)} {vss wss : List (List V)}, Paired (SqB X.K H) ls vss → Paired (SqB X.K H) ls wss → vss = wss
  | _, _, _, .nil, .nil => rfl
  | _, _, _, .cons h t, .cons g u => by rw [sq_inj I h g, sqs_inj I t u]
def tl (q : Sq) : Bool × Addr := (q.tp, q.l)
theorem build (I : Inv X pins σ H s) (i : Nat) : ∀ {ls : List (Bool × Addr)} {vss : List (List V)}, Paired (SqB X.K H) ls vss → ∃ qs : List Sq, qs.map tl = ls ∧ (∀ q ∈ qs, q.At s.heap) ∧ ((∀ vs ∈ vss, vs.length ≤ i) → ∀ q ∈ qs, q.xs[i]? = none) ∧
    ((∀ vs ∈ vss, i < vs.length) → ∃ (xs : List Value) (ws : List V), xs.length = qs.length ∧ (∀ (j : Nat) q x, qs[j]? = some q → xs[j]? = some x → q.xs[i]? = some x) ∧ Vals ws xs ∧ ws.length = vss.length ∧ ∀ (j : Nat) vs, vss[j]? = some vs → vs[i]? = ws[j]?)
  | _, _, .nil => ⟨[], rfl, (fun _ h => by cases h), (fun _ _ h => by cases h), fun _ => ⟨[], [], rfl, (fun j q x e => by simp at e), .nil, rfl, fun j vs e => by simp at e⟩⟩
  | p :: ls, vs :: vss, .cons h t => by
    obtain ⟨its, r, ha⟩ := one_sq I h
    obtain ⟨qs, e, ha2, hn, hs⟩ := build I i t
    refine ⟨⟨p.1, p.2, its.toArray⟩ :: qs, by rw [List.map_cons, e]; rfl, fun q hq => ?_, fun hl q hq => ?_, fun hl => ?_⟩
    · rcases List.mem_cons.mp hq with rfl | hq
      · exact ha
      · exact ha2 q hq
    · rcases List.mem_cons.mp hq with rfl | hq
      · have h1 := hl vs List.mem_cons_self
        have h2 := r.length
        show its.toArray[i]? = none
        rw [List.getElem?_toArray]
        exact List.getElem?_eq_none (by omega)
      · exact hn (fun v hv => hl v (List.mem_cons_of_mem _ hv)) q hq
    · obtain ⟨xs, ws, e1, e2, e3, e4, e5⟩ := hs fun v hv => hl v (List.mem_cons_of_mem _ hv)
      have h1 := hl vs List.mem_cons_self
      obtain ⟨u, hu, ru⟩ := r.get (List.getElem?_eq_getElem h1)
      refine ⟨u :: xs, vs[i] :: ws, by rw [List.length_cons, List.length_cons, e1], fun j q x hq hx => ?_, .cons ru e3, by rw [List.length_cons, List.length_cons, e4], fun j v hv => ?_⟩
      · cases j with
        | zero =>
          simp only [List.getElem?_cons_zero, Option.some.injEq] at hq hx
          subst hq hx
          show its.toArray[i]? = _
          rw [List.getElem?_toArray]; exact hu
        | succ j =>
          simp only [List.getElem?_cons_succ] at hq hx
          exact e2 j q x hq hx
      · cases j with
        | zero =>
          simp only [List.getElem?_cons_zero, Option.some.injEq] at hv
          subst hv
          rw [List.getElem?_cons_zero]; exact List.getElem?_eq_getElem h1
        | succ j =>
          simp only [List.getElem?_cons_succ] at hv ⊢
          exact e5 j v hv
end
def sq0 (ls : List (Bool × Addr)) : List Sq := ls.map fun p => ⟨p.1, p.2, #[]⟩
theorem sq0_len (ls : List (Bool × Addr)) : (sq0 ls).length = ls.length := List.length_map _
theorem zs_to {ls : List (Bool × Addr)} {qs : List Sq} {n0 i : Nat} {h : Heap} (e : qs.map tl = ls) (st : Zs (sq0 ls) n0 h i) : Zs qs n0 h i :=
  st.congr (by rw [sq0_len, ← e, List.length_map]) fun j p hp => ⟨⟨p.tp, p.l, #[]⟩, by
    unfold sq0
    rw [← e, List.getElem?_map, List.getElem?_map, hp]; rfl, rfl, rfl⟩
theorem zs_of {ls : List (Bool × Addr)} {qs : List Sq} {n0 i : Nat} {h : Heap} (e : qs.map tl = ls) (st : Zs qs n0 h i) : Zs (sq0 ls) n0 h i :=
  st.congr (by rw [sq0_len, ← e, List.length_map]) fun j p hp => by
    unfold sq0 at hp
    rw [← e, List.getElem?_map, List.getElem?_map] at hp
    cases q : qs[j]? with
    | none => rw [q] at hp; cases hp
    | some x => rw [q] at hp; cases hp; exact ⟨x, rfl, rfl, rfl⟩
def fpN (n0 n : Nat) : List Addr := (List.range (n + 3)).map fun j => n0 + j
theorem fp_mem {n0 n : Nat} {b : Addr} : b ∈ fpN n0 n ↔ ∃ j : Nat, j < n + 3 ∧ b = n0 + j := by
  unfold fpN
  rw [List.mem_map]
  constructor
  · rintro ⟨j, hj, rfl⟩; exact ⟨j, List.mem_range.mp hj, rfl⟩
  · rintro ⟨j, hj, rfl⟩; exact ⟨j, List.mem_range.mpr hj, rfl⟩
theorem off {n0 n c : Nat} (h : ∀ j : Nat, j < n + 3 → c ≠ n0 + j) : c < n0 ∨ n0 + n + 2 < c ∨ c = n0 + n := by
  rcases Nat.lt_or_ge c n0 with z | z
  · exact .inl z
  · rcases Nat.lt_or_ge (n0 + n + 2) c with y | y
    · exact .inr (.inl y)
    · exact absurd (by omega : c = n0 + (c - n0)) (h (c - n0) (by omega))
theorem turn_zipN {P : Program} {w : World} {K : PySem.W.Frag} {tg : Expr} {ls : List (Bool × Addr)} {n0 : Nat} (hz : ls.length ≤ sizeLine) (hlt : ∀ p ∈ ls, p.2 < n0) :
    Turn P w K tg (ItN K ls) (fpN n0 ls.length) (n0 + ls.length + 2) (fun i h => Zs (sq0 ls) n0 h i) where
  mem := fp_mem.mpr ⟨ls.length + 2, by omega, rfl⟩
  obj := fun i h st b hb => by
    obtain ⟨j, hj, rfl⟩ := fp_mem.mp hb
    obtain ⟨⟨f0, f1, hzz, _⟩, hTI, ⟨vs, hv, hTO⟩, hit⟩ := st
    rw [sq0_len] at hzz hTI hTO
    rcases (by omega : j < ls.length ∨ j = ls.length ∨ j = ls.length + 1 ∨ j = ls.length + 2) with q | q | q | q
    · obtain ⟨o, e, vs, d⟩ := Sq.it_lt (hit j _ (List.getElem?_eq_getElem (by rw [sq0_len]; exact q)))
      exact ⟨o, e, fun v z => by rw [d] at z; cases z⟩
    · subst q; exact ⟨_, hTI, fun v z => nomatch z⟩
    · subst q; exact ⟨_, hTO, fun v z => nomatch z⟩
    · subst q; exact ⟨_, hzz, fun v z => nomatch z⟩
  keep := fun i h h' st k => by
    obtain ⟨⟨f0, f1, hzz, h0⟩, hTI, ⟨vs, hv, hTO⟩, hit⟩ := st
    rw [sq0_len] at hzz hTI hTO
    have hl := sq0_len ls
    refine ⟨⟨f0, f1, ?_, h0⟩, ?_, ⟨vs, hv, ?_⟩, fun j q hq => Sq.it_of (hit j q hq) fun o e => k _ (fp_mem.mpr ⟨j, ?_, rfl⟩) o e⟩
    · rw [sq0_len]; exact k _ (fp_mem.mpr ⟨ls.length + 2, by omega, rfl⟩) _ hzz
    · rw [sq0_len]; exact k _ (fp_mem.mpr ⟨ls.length, by omega, rfl⟩) _ hTI
    · rw [sq0_len]; exact k _ (fp_mem.mpr ⟨ls.length + 1, by omega, rfl⟩) _ hTO
    · have := (List.getElem?_eq_some_iff.mp hq).1; omega
  item := by
    intro X hP hw hK hc i pins s σ H E I hf st hg
    subst hP hw hK
    obtain ⟨hne, vss, hvs, hi⟩ := hg
    obtain ⟨qs, e, ha, _, hs⟩ := build I i hvs
    obtain ⟨xs, ws, e1, e2, e3, e4, e5⟩ := hs hi
    have hql : qs.length = ls.length := by rw [← e, List.length_map]
    have st' := zs_to e st
    obtain ⟨f0, f1, hzz, _⟩ := st'.z
    have hzl : n0 + qs.length + 2 < s.heap.objs.size := Heap.lt_size hzz
    rw [← hql]
    refine pyNext_item (fun z => hne (by rw [← e, z]; rfl)) (by omega) hzl (fun q hq => ⟨ha q hq, hlt (tl q) (by rw [← e]; exact List.mem_map_of_mem hq)⟩) st' e1 e2 fun h' st2 hT hk => ?_
    obtain ⟨g0, g1, hz2, hg0⟩ := st2.z
    refine ⟨_, rfl, let_go (s := { s with heap := h' }) hz2 hg0 fun h'' f0' hz3 hf0 sb => ?_⟩
    have hT2 : h''.get? s.heap.objs.size = some { cls := .type "tuple", data := .seq xs.toArray } := (sb.2 _ (Nat.ne_of_gt hzl)).trans hT
    have hlv := e3.length
    have new : ObjOk X.prog X.w (upd H s.heap.objs.size (.tup ws)) h'' s.heap.objs.size (.tup ws) := ⟨by omega, xs, e3, ⟨_, hT2, rfl, _, rfl⟩⟩
    have I1 : Inv X pins σ (upd H s.heap.objs.size (.tup ws)) { s with heap := h'' } := I.turnedNew (t' := s.toks) (ch := fpN n0 qs.length) (fun c o hb q => by
      have hc : ∀ j : Nat, j < qs.length + 3 → c ≠ n0 + j := fun j hj z => hb (fp_mem.mpr ⟨j, hj, z⟩)
      have c2 := hc (qs.length + 2) (by omega)
      exact (sb.2 c c2).trans (hk c o (off hc) q)) (by rw [hql]; exact hf) (Nat.le_refl _) new
    refine ⟨.ref s.heap.objs.size, _, I1, rfl, ⟨_, ws, rfl, I.hok.fresh (Nat.le_refl _), rfl, fun vss' h' => ?_⟩, ?_, fun c hcm => ?_⟩
    · rw [sqs_inj I h' hvs]; exact ⟨e4, e5⟩
    · refine zs_of e ⟨⟨f0', g1, hz3, hf0⟩, (sb.2 _ (nn (by omega))).trans st2.TI, ?_, fun j q hq => Sq.it_of (st2.it j q hq) fun o e => ?_⟩
      · obtain ⟨vs, hv, hTO⟩ := st2.TO
        exact ⟨vs, hv, (sb.2 _ (nn (by omega))).trans hTO⟩
      · have := (List.getElem?_eq_some_iff.mp hq).1
        exact (sb.2 _ (nn (by omega))).trans e
    · obtain ⟨j, hj, rfl⟩ := fp_mem.mp hcm
      rw [upd_ne (nn (by omega))]
      exact (hf _ (by rw [← hql]; exact hcm)).1
  done := by
    intro X hP hw hK hc i pins s σ H E I hf st hg
    subst hP hw hK
    obtain ⟨vss, hvs, hi⟩ := hg
    obtain ⟨qs, e, ha, hn, _⟩ := build I i hvs
    have hql : qs.length = ls.length := by rw [← e, List.length_map]
    have st' := zs_to e st
    rw [← hql]
    refine pyNext_end (I.ok.hd hc) (fun q hq => ⟨ha q hq, hlt (tl q) (by rw [← e]; exact List.mem_map_of_mem hq)⟩) st' (hn hi) fun h' hk => ⟨rfl, I.turnedL (t' := s.toks) (ch := fpN n0 qs.length) (fun c o hb q => ?_) (by rw [hql]; exact hf)⟩
    have hc : ∀ j : Nat, j < qs.length + 3 → c ≠ n0 + j := fun j hj z => hb (fp_mem.mpr ⟨j, hj, z⟩)
    exact hk c o (off hc) q
  self := fun A i s Q E st h => by
    have := sq0_len ls
    rw [← this] at h ⊢
    exact iter_self st h
end VZ
/-! VZ6: loops over zip(a, b, ..) and zip(*d). -/
namespace VZ
open PySem PySem.Spec PyProof.Rows L2
def iZipN (K : PySem.W.Frag) (ta : TA) : TI := fun σ H R => ta σ H fun vs H1 => ∃ (ls : List (Bool × Addr)) (vss : List (List V)), vs = ls.map (fun p => V.ref p.2) ∧ ls.length ≤ sizeLine ∧ Paired (SqB K H1) ls vss ∧ R (ItN K ls) H1
section
variable {X : Cx} {pins : List (Addr × Obj)} {σ : L2.St} {H : Hp} {s : Shared}
theorem refs_of : ∀ {qs : List Sq} {us : List Value}, Vals ((qs.map tl).map fun p => V.ref p.2) us → us = qs.map fun q => Value.ref q.l
  | [], _, .nil => rfl
  | q :: qs, _, .cons r t => by
    cases r
    rw [refs_of t]; rfl
/-- the zip made, its iterator come -/
theorem made_it {tg : Expr} {R : It → Hp → Prop} {ls : List (Bool × Addr)} {vss : List (List V)} {us : List Value} (I : Inv X pins σ H s) (hz : ls.length ≤ sizeLine) (hv : Paired (SqB X.K H) ls vss) (hu : Vals (ls.map fun p => V.ref p.2) us) (hR : R (ItN X.K ls) H) :
    wpAny (model X.prog X.w) X.A (call (.type "zip") us) (fun v s1 => wpAny (model X.prog X.w) X.A (pyIter v) (PIE X pins σ tg R) X.xe s1) X.xe s := by
  obtain ⟨qs, e, ha, _, _⟩ := build I 0 hv
  subst e
  rw [refs_of hu]
  rw [List.length_map] at hz
  refine call_zip hz ha fun h' m => ?_
  have I2 : Inv X pins σ H { s with heap := h' } := I.kept (t' := s.toks) m.keep
  have z0 := m.zs
  refine iter_self (s := { s with heap := h' }) z0 ?_
  have hl : (qs.map tl).length = qs.length := List.length_map _
  have t := turn_zipN (P := X.prog) (w := X.w) (K := X.K) (tg := tg) (ls := qs.map tl) (n0 := s.heap.objs.size) (by rw [hl]; exact hz) fun p hp => by
    obtain ⟨q, hq, rfl⟩ := List.mem_map.mp hp
    obtain ⟨o, e, _⟩ := Sq.at_lt (ha q hq)
    exact Heap.lt_size e
  rw [hl] at t
  refine ⟨_, _, _, _, H, rfl, I2, t, zs_of rfl z0, fun b hb => ?_, hR⟩
  obtain ⟨j, hj, rfl⟩ := fp_mem.mp hb
  have hle : s.heap.objs.size ≤ s.heap.objs.size + j := Nat.le_add_right _ _
  have f := I.fpOk hle (I.hok.fresh hle)
  exact f
theorem pi_zipN {tg e : Expr} {es : List Expr} {ta : TA} {p pos : Pos} (hg : Gl X "zip") (hm : X.mg "zip" = none) (ha : PA X (e :: es) ta)
    (hs : starEach (e :: es) X.env = (false, eval e X.env) :: starEach es X.env := by rfl) (hpl : (backTo pos (starEach es X.env)).any (·.1) = false := by rfl) :
    PI X tg (.Call (.Name "zip" p) (e :: es) [] pos) (iZipN X.K ta) := by
  refine ⟨fun pins s σ H R I h => ?_⟩
  refine Call_ (ld_blt I hg hm PyProof.Rows.boot_zip (PyProof.Rows.callWith_type1 (thn (ha.run pos pins s σ H _ I h) fun us s1 ⟨vs, H1, I1, r1, q1⟩ => ?_) hs hpl))
  obtain ⟨ls, vss, rfl, hz, hv, q⟩ := q1
  exact made_it I1 hz hv r1 q
end
section
variable {M : Model} {A : Around} {E : Value → Shared → Prop} {s : Shared}
theorem callWith_typeS {pos : Pos} {T : String} {first : List Value} {args : List (Bool × Sem Value)} {Q : Value → Shared → Prop} (hst : args.any (·.1) = true)
    (h : wpAny M A (evalArgs (.type T) true args []) (fun a s₁ => wpAny M A (call (.type T) (first ++ a.pos) a.kw) Q E s₁) E s) : wpAny M A (callWith pos (.type T) first args []) Q E s := by
  unfold callWith
  refine wpAny_bind (wpAny_holding (wpAny_mono h (fun a s₁ h₁ => wpAny_bind (wpAny_standAt ?_)) fun _ _ x => x))
  simp only [hst, Bool.true_or]
  refine wpAny_bind (wpAny_pure ?_)
  exact wpAny_bind (wpAny_mono (wpAny_operating h₁) (fun r s₂ hr => wpAny_bind (wpAny_holding (wpAny_point (wpAny_pure hr)))) fun _ _ x => x)
end
def iZipS (K : PySem.W.Frag) (te : TE) : TI := fun σ H R => te σ H fun x H1 => ∃ (d : Addr) (kvs : List (List L2.Key × V)), x = .ref d ∧ Rd H1 d (.dT kvs) ∧ ∀ bs, IsKeys H1 kvs bs → R (ItN K (bs.map fun b => (true, b))) H1
section
variable {X : Cx} {pins : List (Addr × Obj)} {σ : L2.St} {H : Hp} {s : Shared}
theorem keys_sq {K : PySem.W.Frag} {kvs : List (List L2.Key × V)} {bs : List Addr} (h : IsKeys H kvs bs) : Paired (SqB K H) (bs.map fun b => (true, b)) (kvs.map fun p => p.1.map kV) := by
  unfold IsKeys at h
  induction h with
  | nil => exact .nil
  | cons h t ih => exact .cons (SqT.of h) ih
theorem star_dT {d : Addr} {kvs : List (List L2.Key × V)} {E : Value → Shared → Prop} {Q : List Value → Shared → Prop} (I : Inv X pins σ H s) (hd : Rd H d (.dT kvs)) (hQ : ∀ bs s', Inv X pins σ H s' → IsKeys H kvs bs → bs.length ≤ sizeLine → Q (bs.map Value.ref) s') (hc : X.calm = true) : PySem.W.StarOf (model X.prog X.w) X.A E (.ref d) Q s := by
  obtain ⟨z, hs, ks, pr, o, es, ep, ho, hx, hdt, he, hn⟩ := (show ObjOk X.prog X.w H s.heap d (.dT kvs) from hd.ok I.hok)
  have l1 : es.size = ks.length := size_of_entries he
  have l2 : kvs.length = ks.length := Paired.length pr
  have zz : wpAny (model X.prog X.w) X.A (collect (.ref d)) Q E s := by
    refine PySem.W.kdu_collect (kdl_raw hs hx hdt) (I.ok.hd hc) ho (by omega) fun h' tk acc' kp it => ?_
    have ea : acc'.toList = (ks.map fun x => x.2.1).map Value.ref := by
      have hl : acc'.toList.length = ks.length := by rw [Array.length_toList, it.1]; exact l1
      apply List.ext_getElem?
      intro j
      rw [List.map_map, List.getElem?_map]
      cases hj : acc'.toList[j]? with
      | none =>
        have h1 := List.getElem?_eq_none_iff.mp hj
        rw [List.getElem?_eq_none (by omega)]
        all_goals rfl
      | some v =>
        obtain ⟨en, hen, hv⟩ := it.2 j v (by rw [← Array.getElem?_toList]; exact hj)
        have qe := entry_at he j
        rw [hen] at qe
        cases hb : ks[j]? with
        | none =>
          rw [hb] at qe
          exact nomatch (show some en = none from qe)
        | some b =>
          rw [hb] at qe
          have e2 : en = entryOfKey (tupleKind (mixKind X.prog X.w)) b := Option.some.inj qe
          rw [hv, e2]
          all_goals rfl
    rw [ea]
    exact hQ _ _ (I.kept (t' := tk) kp) (isKeys_of pr) (by rw [List.length_map]; omega)
  unfold PySem.W.StarOf notIterableAtAll
  exact wpAny_bind (wpAny_specialOf ⟨o, ho, hx.1⟩ PySem.F.slot_dict_iter.lookup (wpAny_pure ⟨rfl, zz⟩))
theorem pi_zipS {tg e : Expr} {te : TE} {p pos sp : Pos} (hc : X.calm = true) (hg : Gl X "zip") (hm : X.mg "zip" = none) (he : PE X e te)
    (hs : starEach [.Starred e sp] X.env = [(true, eval e X.env)] := by rfl) :
    PI X tg (.Call (.Name "zip" p) [.Starred e sp] [] pos) (iZipS X.K te) := by
  refine ⟨fun pins s σ H R I h => ?_⟩
  refine Call_ (ld_blt I hg hm PyProof.Rows.boot_zip ?_)
  rw [hs]
  refine callWith_typeS rfl (PySem.W.ks_lone (thn (he.run pins s σ H _ I h) fun u s1 ⟨x, H1, I1, rx, q1⟩ => ?_))
  obtain ⟨d, kvs, rfl, hd, q⟩ := q1
  obtain rfl : u = Value.ref d := rx
  refine star_dT I1 hd (fun bs s2 I2 hk hz => ?_) hc
  refine made_it I2 (by rw [List.length_map]; exact hz) (keys_sq hk) ?_ (q bs hk)
  rw [List.map_map]
  exact vals_refs bs
end
end VZ
/-! VL14: loops over zip(a, b, ..) and zip(*d) at the value level. -/
namespace VL
open PySem PySem.Spec PyProof.Rows L2 VZ
/-- the items of a value -/
def itemsD (S : Sto) : D → List D → Prop
  | .tup ys, xs => ys = xs
  | .ref a, xs => rdL S a xs
  | .scr ns, xs => xs = ns.map .int
  | _, _ => False
def zipD (xss : List (List D)) (n : Nat) : List D := if xss.isEmpty then [] else (List.range n).map fun i => .tup (xss.map fun xs => xs.getD i .non)
theorem zipD_len {xss : List (List D)} {n : Nat} (h : xss ≠ []) : (zipD xss n).length = n := by
  unfold zipD
  cases xss with
  | nil => exact absurd rfl h
  | cons a r => simp
theorem zipD_at {xss : List (List D)} {n i : Nat} {d : D} (h : (zipD xss n)[i]? = some d) : xss ≠ [] ∧ i < n ∧ d = .tup (xss.map fun xs => xs.getD i .non) := by
  unfold zipD at h
  cases xss with
  | nil => simp at h
  | cons a r =>
    simp only [List.isEmpty_cons, Bool.false_eq_true, if_false] at h
    rw [List.getElem?_map] at h
    have hi : i < n := by
      rcases Nat.lt_or_ge i n with z | z
      · exact z
      · rw [List.getElem?_eq_none (by rw [List.length_range]; exact z)] at h; cases h
    rw [List.getElem?_range hi] at h
    exact ⟨List.cons_ne_nil a r, hi, (Option.some.inj h).symm⟩
section
variable {K : PySem.W.Frag} {H : Hp} {S : Sto}
theorem one_low {d : D} {v : V} {xs : List D} (r : Rp K H d v) (o : SO K H S) (h : itemsD S d xs) : ∃ p : Bool × Addr, v = .ref p.2 ∧ xs.length ≤ sizeLine ∧ ∀ H' S', TL H H' → SO K H' S' → itemsD S' d xs → ∃ vs, SqB K H' p vs ∧ Rps K H' xs vs := by
  cases d with
  | tup ys =>
    have h : ys = xs := h
    subst h
    simp only [Rp] at r
    obtain ⟨a, vs, rfl, ha, hz, q⟩ := r
    exact ⟨(true, a), rfl, by rw [q.length]; exact hz, fun H' S' t _ _ => ⟨vs, SqT.of (TL.tup t ha), Rps.mono t _ _ q⟩⟩
  | ref a =>
    simp only [Rp] at r
    subst r
    have h : rdL S a xs := h
    obtain ⟨vs, _, hz, q⟩ := h.sq o
    refine ⟨(false, a), rfl, by rw [q.length]; exact hz, fun H' S' t o' h' => ?_⟩
    have h' : rdL S' a xs := h'
    obtain ⟨vs', e, _, q'⟩ := h'.sq o'
    exact ⟨vs', e, q'⟩
  | scr ns =>
    have h : xs = ns.map .int := h
    subst h
    simp only [Rp] at r
    obtain ⟨a, rfl, q, z⟩ := r
    refine ⟨(false, a), rfl, by rw [List.length_map]; exact z, fun H' S' t _ _ => ⟨ns.map V.int, ?_, Rps.of_ints ns⟩⟩
    rcases q with ⟨o, q⟩ | q
    · exact .inl (.inr ⟨o, t.2 _ _ _ trivial q⟩)
    · exact .inr q
  | _ => exact h.elim
theorem all_low (o : SO K H S) : ∀ {ds : List D} {vs : List V} {xss : List (List D)}, Rps K H ds vs → Paired (itemsD S) ds xss → ∃ ls : List (Bool × Addr), vs = ls.map (fun p => V.ref p.2) ∧ ls.length = ds.length ∧ (∀ xs ∈ xss, xs.length ≤ sizeLine) ∧
    ∀ H' S', TL H H' → SO K H' S' → Paired (itemsD S') ds xss → ∃ vss, Paired (SqB K H') ls vss ∧ Paired (Rps K H') xss vss
  | _, vs, _, r, .nil => by
    simp only [Rps] at r; subst r
    exact ⟨[], rfl, rfl, (fun _ h => by cases h), fun _ _ _ _ _ => ⟨[], .nil, .nil⟩⟩
  | d :: ds, vs, xs :: xss, r, .cons h t => by
    simp only [Rps] at r
    obtain ⟨v, vr, rfl, r1, r2⟩ := r
    obtain ⟨p, rfl, hz, f⟩ := one_low r1 o h
    obtain ⟨ls, rfl, hl, hz2, g⟩ := all_low o r2 t
    refine ⟨p :: ls, rfl, by rw [List.length_cons, List.length_cons, hl], fun ys hy => ?_, fun H' S' tl o' h' => ?_⟩
    · rcases List.mem_cons.mp hy with rfl | hy
      · exact hz
      · exact hz2 ys hy
    · cases h' with
      | cons h1 h2 =>
        obtain ⟨vs1, a1, b1⟩ := f H' S' tl o' h1
        obtain ⟨vss, a2, b2⟩ := g H' S' tl o' h2
        exact ⟨vs1 :: vss, .cons a1 a2, .cons b1 b2⟩
theorem rps_col {i : Nat} : ∀ {xss : List (List D)} {vss : List (List V)} {ws : List V}, Paired (Rps K H) xss vss → (∀ xs ∈ xss, i < xs.length) → ws.length = vss.length → (∀ (j : Nat) vs, vss[j]? = some vs → vs[i]? = ws[j]?) → Rps K H (xss.map fun xs => xs.getD i .non) ws
  | _, _, ws, .nil, _, hl, _ => by
    have : ws = [] := List.eq_nil_of_length_eq_zero hl
    subst this; exact Rps.nil
  | xs :: xss, vs :: vss, ws, .cons r t, hi, hl, hw => by
    cases ws with
    | nil => cases hl
    | cons w ws =>
      have h0 := hi xs List.mem_cons_self
      have e0 : xs[i]? = some xs[i] := List.getElem?_eq_getElem h0
      obtain ⟨v, hv, rv⟩ := r.get e0
      have e1 := hw 0 vs rfl
      rw [hv] at e1
      have e1 : some v = some w := e1
      cases e1
      have e2 : xs.getD i .non = xs[i] := by rw [List.getD_eq_getElem?_getD, e0]; rfl
      rw [List.map_cons, e2]
      exact Rps.cons rv (rps_col t (fun x hx => hi x (List.mem_cons_of_mem _ hx)) (by simpa using hl) fun j v hv => by simpa using hw (j + 1) v (by simpa using hv))
theorem paired_mem {α β : Type} {P : α → β → Prop} : ∀ {as : List α} {bs : List β}, Paired P as bs → ∀ b ∈ bs, ∃ a ∈ as, P a b
  | _, _, .nil, b, h => by cases h
  | a :: as, b :: bs, .cons h t, c, hc => by
    rcases List.mem_cons.mp hc with rfl | hc
    · exact ⟨a, List.mem_cons_self, h⟩
    · obtain ⟨x, hx, p⟩ := paired_mem t c hc
      exact ⟨x, List.mem_cons_of_mem _ hx, p⟩
theorem wk_zip {ls : List (Bool × Addr)} {xss : List (List D)} {n : Nat} {ok : Sto → Prop} (hn : ls.length = xss.length) (hx : ∀ xs ∈ xss, xs.length = n) (hz : ∀ xs ∈ xss, xs.length ≤ sizeLine)
    (f : ∀ H' S', TL H H' → SO K H' S' → ok S' → ∃ vss, Paired (SqB K H') ls vss ∧ Paired (Rps K H') xss vss) (hl : xss.length ≤ sizeLine) : WkJ K ⟨zipD xss n, ok⟩ (ItN K ls) H where
  len := by
    cases xss with
    | nil => exact Nat.zero_le _
    | cons a r =>
      show (zipD (a :: r) n).length ≤ _
      rw [zipD_len (List.cons_ne_nil a r), ← hx a List.mem_cons_self]
      exact hz a List.mem_cons_self
  go := fun i H' S t o k hi => by
    have hne : xss ≠ [] := fun z => by subst z; exact absurd hi (Nat.not_lt_zero _)
    obtain ⟨vss, p1, p2⟩ := f H' S t o k
    refine ⟨fun z => hne (List.eq_nil_of_length_eq_zero (by rw [← hn, z]; rfl)), vss, p1, fun vs hv => ?_⟩
    have hi : i < (zipD xss n).length := hi
    rw [zipD_len hne] at hi
    obtain ⟨xs, hxs, r⟩ := paired_mem p2 vs hv
    rw [← r.length, hx xs hxs]; exact hi
  yld := fun i H' S x H2 d t o k e y => by
    obtain ⟨T, ws, rfl, hT, rfl, hw⟩ := y
    obtain ⟨hne, hi, rfl⟩ := zipD_at e
    obtain ⟨vss, p1, p2⟩ := f H' S t o k
    obtain ⟨hwl, hw⟩ := hw vss p1
    have hxv : xss.length = vss.length := Paired.length p2
    refine ⟨Go.new' hT, o.new' hT, ?_⟩
    simp only [Rp]
    exact ⟨T, ws, rfl, upd_same, by omega, Rps.mono (TL.new hT) _ _ (rps_col p2 (fun xs hxs => by rw [hx xs hxs]; exact hi) hwl hw)⟩
  stop := fun i H' S t o k hi => by
    obtain ⟨vss, p1, p2⟩ := f H' S t o k
    refine ⟨vss, p1, fun vs hv => ?_⟩
    obtain ⟨xs, hxs, r⟩ := paired_mem p2 vs hv
    have hne : xss ≠ [] := fun z => by subst z; cases hxs
    have hi : (zipD xss n).length ≤ i := hi
    rw [zipD_len hne] at hi
    rw [← r.length, hx xs hxs]; exact hi
end
def iZip (ts : List RE) : RI := fun τ S R => eArgs ts τ S fun ds S1 => ∃ xss n, Paired (itemsD S1) ds xss ∧ (∀ xs ∈ xss, List.length xs = n) ∧ R ⟨zipD xss n, fun S => Paired (itemsD S) ds xss⟩ S1
/-- zip(*d), d a dict with keys of one length -/
def iZipD (te : RE) : RI := fun τ S R => te τ S fun d S1 => match d with
  | .ref a => ∃ (kvs : List (List Int × D)) (n : Nat), rdD S1 a kvs ∧ (∀ kv ∈ kvs, kv.1.length = n) ∧ n ≤ 10000000 ∧ R ⟨zipD (kvs.map fun kv => kv.1.map .int) n, fun _ => True⟩ S1
  | _ => False
section
variable {X : Cx} {en : Ent}
theorem vi_zip {tg e : Expr} {es : List Expr} {ts : List RE} {p pos : Pos} (hg : Gl X "zip") (hm : X.mg "zip" = none) (ha : VA X en (e :: es) ts) (hlen : ts.length ≤ 100 := by decide)
    (hs : starEach (e :: es) X.env = (false, eval e X.env) :: starEach es X.env := by rfl) (hpl : (backTo pos (starEach es X.env)).any (·.1) = false := by rfl) : VI X en tg (.Call (.Name "zip" p) (e :: es) [] pos) (iZip ts) :=
  PI.imp (pi_zipN hg hm ha.1 hs hpl) fun σ H R h => by
    obtain ⟨τ, S, R0, hs, ho, q, k⟩ := h
    refine args_ok hs ho q fun ds S' vs H' q' g r hz o => ?_
    obtain ⟨xss, n, hp, hx, q'⟩ := q'
    obtain ⟨ls, rfl, hl, hz2, f⟩ := all_low o.so r hp
    obtain ⟨vss, p1, p2⟩ := f H' S' (TL.refl _) o.so hp
    have hdx : ds.length = xss.length := Paired.length hp
    rw [List.length_map] at hz
    exact ⟨ls, vss, rfl, line10 (by omega), p1, k _ _ _ _ q' g o (wk_zip (by omega) hx hz2 f (line10 (by omega)))⟩
theorem vi_zipD {tg e : Expr} {te : RE} {p pos sp : Pos} (hc : X.calm = true) (hg : Gl X "zip") (hm : X.mg "zip" = none) (he : VE X en e te)
    (hs : starEach [.Starred e sp] X.env = [(true, eval e X.env)] := by rfl) : VI X en tg (.Call (.Name "zip" p) [.Starred e sp] [] pos) (iZipD te) := PI.imp (pi_zipS hc hg hm he hs) fun σ H R h => by
  obtain ⟨τ, S, R0, hs, ho, q, k⟩ := h
  refine ⟨τ, S, _, hs, ho, q, fun d S' v H' q' g r o => ?_⟩
  cases d with
  | ref a =>
    simp only [Rp] at r
    subst r
    obtain ⟨kvs, n, ha, hk, hn, q'⟩ := q'
    obtain ⟨ws, ea, hz, kv⟩ := ha.dT o.so
    have hl : kvs.length = ws.length := kv.length
    refine ⟨a, ws, rfl, ea, fun bs hb => ?_⟩
    have hbl : ws.length = bs.length := Paired.length hb
    have tup : ∀ {kvs : List (List Int × D)} {ws : List (List L2.Key × V)} {bs : List Addr}, Kv X.K H' (fun k : List Int => k.map (Sum.inl : Int → Key)) kvs ws → IsKeys H' ws bs → ∀ H2, TL H' H2 → Paired (SqB X.K H2) (bs.map fun b => (true, b)) (kvs.map fun kv => kv.1.map V.int) := by
      intro kvs ws bs kv
      induction kv generalizing bs with
      | nil => intro hb H2 t; cases hb; exact .nil
      | cons h tl ih =>
        intro hb H2 t
        cases hb with
        | cons h1 h2 =>
          refine .cons ?_ (ih h2 H2 t)
          have e := TL.tup t h1
          rw [h.1] at e
          have e : H2 _ = some (.tup ((List.map (Sum.inl : Int → Key) _).map kV)) := e
          rw [key_map] at e
          exact SqT.of e
    have intsP : ∀ (kvs : List (List Int × D)) (H2 : Hp), Paired (Rps X.K H2) (kvs.map fun kv => kv.1.map D.int) (kvs.map fun kv => kv.1.map V.int) := by
      intro kvs H2
      induction kvs with
      | nil => exact .nil
      | cons h t ih => exact .cons (Rps.of_ints _) ih
    refine k _ _ _ _ q' g o (wk_zip ?_ (fun xs hx => ?_) (fun xs hx => ?_) (fun H2 S2 t o2 _ => ⟨_, tup kv hb H2 t, intsP kvs H2⟩) ?_)
    · rw [List.length_map, List.length_map]; omega
    · obtain ⟨e, he, rfl⟩ := List.mem_map.mp hx
      rw [List.length_map]; exact hk e he
    · obtain ⟨e, he, rfl⟩ := List.mem_map.mp hx
      rw [List.length_map, hk e he]; exact line10 hn
    · rw [List.length_map]; omega
  | _ => exact q'.elim
end
end VL
/-! VL15: loops over a dict, which is locked by then. -/
namespace VL
open PySem PySem.Spec PyProof.Rows L2
def unE (D0 : En) (a : Addr) (kvs : List (List Int × D)) (l : HO) : En :=
  ⟨fun τ S => S a = some (.fD kvs l) ∧ D0.nx τ (put S a (.dI kvs)), fun d S => S a = some (.fD kvs l) ∧ D0.rt d (put S a (.dI kvs)), fun τ S => S a = some (.fD kvs l) ∧ D0.bk τ (put S a (.dI kvs)), fun τ S => S a = some (.fD kvs l) ∧ D0.ct τ (put S a (.dI kvs))⟩
/-- the dict is locked while the statement runs -/
def sLock (t : RS) : RS := fun D0 τ S => ∃ a kvs, S a = some (.dI kvs) ∧ ∀ l, t (unE D0 a kvs l) τ (put S a (.fD kvs l))
def eLock (t : RE) : RE := fun τ S Q => ∃ a kvs, S a = some (.dI kvs) ∧ ∀ l, t τ (put S a (.fD kvs l)) fun d S' => S' a = some (.fD kvs l) ∧ Q d (put S' a (.dI kvs))
section
variable {X : Cx} {en : Ent}
theorem unlock_go {K : PySem.W.Frag} {S' : Sto} {H' : Hp} {a : Addr} {kvs : List (List Int × D)} {o : Obj} {ws : List (List L2.Key × V)} (h : S' a = some (.fD kvs (.frz o (.dT ws)))) (so : SO K H' S') :
    H' a = some (.frz o (.dT ws)) ∧ TL H' (upd H' a (.dT ws)) ∧ Go S' H' (put S' a (.dI kvs)) (upd H' a (.dT ws)) ∧ SO K (upd H' a (.dT ws)) (put S' a (.dI kvs)) := by
  obtain ⟨u, e, rfl, ob, ws', e2, z, r⟩ := so a _ h
  cases e2
  have t : TL H' (upd H' a (.dT ws)) := TL.mut e trivial
  exact ⟨e, t, Go.mut h e trivial, so.set e trivial ⟨ws, rfl, z, r.mono t⟩⟩
theorem vs_lock {st : Stmt} {t : RS} (h : VSt X en st t) : VSt X en st (sLock t) := PS.imp (ps_lock h) fun D σ H h => by
  obtain ⟨τ, S, D0, hs, ho, ⟨a, kvs, ha, q⟩, e⟩ := h
  obtain ⟨ws, ea, hz, kv⟩ := ho.so.dI ha
  refine ⟨a, .dT ws, ea, trivial, fun od => ?_⟩
  have t1 : TL H (upd H a (.frz od (.dT ws))) := TL.mut ea trivial
  have g1 : Go S H (put S a (.fD kvs (.frz od (.dT ws)))) (upd H a (.frz od (.dT ws))) := Go.mut ha ea trivial
  refine ⟨τ, _, _, hs.mono t1, ho.go g1 (ho.so.set ea trivial ⟨rfl, od, ws, rfl, hz, kv.mono t1⟩), q (.frz od (.dT ws)), ⟨fun τ' S' σ' H' q' g r o => ?_, fun d S' v H' q' g r o => ?_, fun τ' S' σ' H' q' g r o => ?_, fun τ' S' σ' H' q' g r o => ?_⟩⟩
  · obtain ⟨x1, x2, x3, x4⟩ := unlock_go q'.1 o.so
    exact ⟨x1, e.nx _ _ _ _ q'.2 ((g1.trans g).trans x3) (r.mono x2) (o.go x3 x4)⟩
  · obtain ⟨x1, x2, x3, x4⟩ := unlock_go q'.1 o.so
    exact ⟨x1, e.rt _ _ _ _ q'.2 ((g1.trans g).trans x3) (Rp.mono x2 _ _ r) (o.go x3 x4)⟩
  · obtain ⟨x1, x2, x3, x4⟩ := unlock_go q'.1 o.so
    exact ⟨x1, e.bk _ _ _ _ q'.2 ((g1.trans g).trans x3) (r.mono x2) (o.go x3 x4)⟩
  · obtain ⟨x1, x2, x3, x4⟩ := unlock_go q'.1 o.so
    exact ⟨x1, e.ct _ _ _ _ q'.2 ((g1.trans g).trans x3) (r.mono x2) (o.go x3 x4)⟩
theorem ve_lock {ex : Expr} {t : RE} (h : VE X en ex t) : VE X en ex (eLock t) := PE.imp (pe_lock h) fun σ H Q h => by
  obtain ⟨τ, S, Q0, hs, ho, ⟨a, kvs, ha, q⟩, e⟩ := h
  obtain ⟨ws, ea, hz, kv⟩ := ho.so.dI ha
  refine ⟨a, .dT ws, ea, trivial, fun od => ?_⟩
  have t1 : TL H (upd H a (.frz od (.dT ws))) := TL.mut ea trivial
  have g1 : Go S H (put S a (.fD kvs (.frz od (.dT ws)))) (upd H a (.frz od (.dT ws))) := Go.mut ha ea trivial
  refine ⟨τ, _, _, hs.mono t1, ho.go g1 (ho.so.set ea trivial ⟨rfl, od, ws, rfl, hz, kv.mono t1⟩), q (.frz od (.dT ws)), fun d S' v H' q' g r o => ?_⟩
  obtain ⟨x1, x2, x3, x4⟩ := unlock_go q'.1 o.so
  exact ⟨x1, e _ _ _ _ q'.2 ((g1.trans g).trans x3) (Rp.mono x2 _ _ r) (o.go x3 x4)⟩
/-- the keys of a locked dict -/
def iKeyT (te : RE) : RI := fun τ S R => te τ S fun d S1 => match d with
  | .ref a => ∃ kvs l, S1 a = some (.fD kvs l) ∧ (∀ kv ∈ kvs, List.length kv.1 ≤ 10000000) ∧ R ⟨kvs.map fun kv => tI kv.1, fun S => S a = some (.fD kvs l)⟩ S1
  | _ => False
theorem vi_keyT {tg e : Expr} {te : RE} (he : VE X en e te) : VI X en tg e (iKeyT te) := PI.imp (pi_keys he) fun σ H R h => by
  obtain ⟨τ, S, R0, hs, ho, q, k⟩ := h
  refine ⟨τ, S, _, hs, ho, q, fun d S' v H' q' g r o => ?_⟩
  cases d with
  | ref a =>
    simp only [Rp] at r
    subst r
    obtain ⟨kvs, l, ha, hk, q'⟩ := q'
    obtain ⟨u, e, rfl, ob, ws, rfl, z, kv⟩ := o.so a _ ha
    have hl : kvs.length = ws.length := kv.length
    refine ⟨a, ob, rfl, .inr ⟨ws, e, k _ _ _ _ q' g o ⟨?_, fun i H2 S2 t o2 ok hi => ?_, fun i H2 S2 x H3 d t o2 ok e2 y => ?_, fun i H2 S2 t o2 ok hi => ?_⟩⟩⟩
    · show (kvs.map fun kv => tI kv.1).length ≤ _
      rw [List.length_map, hl]; exact z
    · obtain ⟨u2, e2, hu, _⟩ := o2 a _ ok
      subst hu
      have hi : i < (kvs.map fun kv => tI kv.1).length := hi
      rw [List.length_map] at hi
      exact ⟨e2, by omega⟩
    · obtain ⟨rfl, k', v', b, hw, rfl, hb⟩ := y
      have e2 : (kvs.map fun kv => tI kv.1)[i]? = some d := e2
      rw [List.getElem?_map] at e2
      cases hq : kvs[i]? with
      | none => rw [hq] at e2; cases e2
      | some p =>
        rw [hq] at e2
        have e2 : tI p.1 = d := Option.some.inj e2
        subst e2
        obtain ⟨p2, h2, h3⟩ := paired_get kv hq
        rw [hw] at h2
        cases h2
        have h4 : k' = p.1.map (Sum.inl : Int → Key) := h3.1
        rw [h4, key_map] at hb
        refine ⟨Go.refl S2 H3, o2, ?_⟩
        unfold tI
        simp only [Rp]
        exact ⟨b, _, rfl, hb, by rw [List.length_map]; exact line10 (hk p (List.mem_of_getElem? hq)), Rps.of_ints _⟩
    · obtain ⟨u2, e2, hu, _⟩ := o2 a _ ok
      subst hu
      have hi : (kvs.map fun kv => tI kv.1).length ≤ i := hi
      rw [List.length_map] at hi
      exact ⟨e2, by omega⟩
  | _ => exact q'.elim
end
end VL
/-! VL16: min and max of a tuple or list of ints; in a list or tuple of ints. -/
namespace VL
open PySem PySem.Spec PyProof.Rows L2
section
variable {prog : Program} {w : World} {A : Around} {E : Value → Shared → Prop} {s : Shared} {l : Addr} {ns : List Int} {us : List Value} {Q : Value → Shared → Prop}
theorem tup_iter {Q : Value → Shared → Prop} {xs : Array Value} (hl : s.heap.IsTuple l xs)
    (h : ∀ s2 : Shared, s2 = { s with heap := s.heap.push { cls := .type "tuple_iterator", data := .fields #[.ref l, .int 0 0] } } → (s2.heap.IsTupleIter s.heap.objs.size l 0 ∧ s2.heap.IsTuple l xs) → (∀ b ∈ [s.heap.objs.size, l], b < s2.heap.objs.size) → l ≠ s.heap.objs.size → Q (.ref s.heap.objs.size) s2) :
    wpAny (model prog w) A (pyIter (.ref l)) Q E s := by
  have hlt : l < s.heap.objs.size := by obtain ⟨_, e, _⟩ := hl; exact Heap.lt_size e
  refine wpAny_pyIter_tuple hl (h _ rfl ⟨⟨_, Heap.get?_push_size _ rfl, rfl, rfl⟩, Heap.IsTuple.push hl _⟩ (fun b hb => ?_) (Nat.ne_of_lt hlt))
  show b < (s.heap.push _).objs.size
  rw [Heap.size_push]
  simp only [List.mem_cons, List.not_mem_nil, or_false] at hb
  rcases hb with rfl | rfl
  · exact Nat.lt_succ_self _
  · exact Nat.lt_succ_of_lt hlt
theorem kept_by {h' : Heap} {o0 : Obj} (hk : ∀ b o, b ∉ [s.heap.objs.size] → (s.heap.push o0).get? b = some o → h'.get? b = some o) : ∀ b o, s.heap.get? b = some o → h'.get? b = some o := fun b o e => by
  refine hk b o (fun hm => ?_) (Heap.get?_push_of_some _ e)
  rw [List.mem_singleton] at hm
  subst hm
  exact absurd (Heap.lt_size e) (Nat.lt_irrefl _)
theorem min_tup (hh : A.handled = none) (hl : s.heap.IsTuple l us.toArray) (hi : IntsAre us ns) (hne : 0 < ns.length)
    (h : ∀ h' tk M t', (∀ b o, s.heap.get? b = some o → h'.get? b = some o) → M ∈ ns → (∀ a, a ∈ ns → M ≤ a) → Q (.int M t') { s with heap := h', toks := tk }) : wpAny (model prog w) A (call (.builtin "min") [.ref l]) Q E s := by
  obtain ⟨xs, e⟩ := hi.allInts.items
  have hn : numsOf (intItems xs).toList = ns := by rw [← e]; exact hi.numsOf
  rw [nums_intItems] at hn
  subst hn
  rw [e] at hl
  have hsz : 0 < xs.size := by simpa using hne
  refine call_min_walk (tup_iter hl fun s2 e2 st hfp hlI => ?_)
  subst e2
  refine ⟨_, _, _, _, _, _, _, rfl, Walks.tuple (A := A.in1) hh _ l hlI (intItems xs), st, hfp, by simpa [intItems] using hsz, CmpOf.ints_lt (numAt xs) (fun _ _ => intItems_at), fun v h' tk hv hk => ?_⟩
  have hv : (intItems xs)[argBest (fun i j => decide (numAt xs i < numAt xs j)) (xs.size - 1)]? = some v := by simpa [intItems] using hv
  obtain ⟨t, rfl⟩ := intItems_at hv
  obtain ⟨h1, h2⟩ := argBest_lt (numAt xs) (xs.size - 1)
  refine h h' tk _ t (kept_by hk) ?_ fun a ha => ?_
  · rw [numAt_eq]; exact PySem.getD_mem (by rw [List.length_map, Array.length_toList]; omega)
  · obtain ⟨j, hj, rfl⟩ := mem_getD ha
    rw [List.length_map, Array.length_toList] at hj
    rw [← numAt_eq]; exact h2 j (by omega)
theorem max_tup (hh : A.handled = none) (hl : s.heap.IsTuple l us.toArray) (hi : IntsAre us ns) (hne : 0 < ns.length)
    (h : ∀ h' tk M t', (∀ b o, s.heap.get? b = some o → h'.get? b = some o) → M ∈ ns → (∀ a, a ∈ ns → a ≤ M) → Q (.int M t') { s with heap := h', toks := tk }) : wpAny (model prog w) A (call (.builtin "max") [.ref l]) Q E s := by
  obtain ⟨xs, e⟩ := hi.allInts.items
  have hn : numsOf (intItems xs).toList = ns := by rw [← e]; exact hi.numsOf
  rw [nums_intItems] at hn
  subst hn
  rw [e] at hl
  have hsz : 0 < xs.size := by simpa using hne
  refine call_max_walk (tup_iter hl fun s2 e2 st hfp hlI => ?_)
  subst e2
  refine ⟨_, _, _, _, _, _, _, rfl, Walks.tuple (A := A.in1) hh _ l hlI (intItems xs), st, hfp, by simpa [intItems] using hsz, CmpOf.ints_gt (numAt xs) (fun _ _ => intItems_at), fun v h' tk hv hk => ?_⟩
  have hv : (intItems xs)[argBest (fun i j => decide (numAt xs i > numAt xs j)) (xs.size - 1)]? = some v := by simpa [intItems] using hv
  obtain ⟨t, rfl⟩ := intItems_at hv
  obtain ⟨h1, h2⟩ := argBest_gt (numAt xs) (xs.size - 1)
  refine h h' tk _ t (kept_by hk) ?_ fun a ha => ?_
  · rw [numAt_eq]; exact PySem.getD_mem (by rw [List.length_map, Array.length_toList]; omega)
  · obtain ⟨j, hj, rfl⟩ := mem_getD ha
    rw [List.length_map, Array.length_toList] at hj
    rw [← numAt_eq]; exact h2 j (by omega)
end
def rMinT (K : PySem.W.Frag) : List V → Hp → VK → Prop := fun vs H Q => ∃ (a : Addr) (ns : List Int), vs = [V.ref a] ∧ SqT K H a (ns.map V.int) ∧ 0 < ns.length ∧ ∀ m, m ∈ ns → (∀ y, y ∈ ns → m ≤ y) → Q (.int m) H
def rMaxT (K : PySem.W.Frag) : List V → Hp → VK → Prop := fun vs H Q => ∃ (a : Addr) (ns : List Int), vs = [V.ref a] ∧ SqT K H a (ns.map V.int) ∧ 0 < ns.length ∧ ∀ m, m ∈ ns → (∀ y, y ∈ ns → y ≤ m) → Q (.int m) H
section
variable {X : Cx}
theorem cr_minT (hc : X.calm = true) : CallR X (.builtin "min") (fun vs H Q => rMinT X.K vs H Q ∨ rMin X.K vs H Q) := by
  intro pins s σ H vs us Q I r h
  rcases h with h | h
  · obtain ⟨a, ns, rfl, hs, hne, q⟩ := h
    obtain ⟨its, rv, hl, _⟩ := I.tuple hs
    rw [Vals.ref1 r]
    exact min_tup (I.ok.hd hc) hl rv.ints hne fun h' tk m t' hk h1 h2 => ⟨.int _, H, I.kept hk, ⟨_, rfl⟩, q m h1 h2⟩
  · exact cr_min hc pins s σ H vs us Q I r h
theorem cr_maxT (hc : X.calm = true) : CallR X (.builtin "max") (fun vs H Q => rMaxT X.K vs H Q ∨ rMax X.K vs H Q) := by
  intro pins s σ H vs us Q I r h
  rcases h with h | h
  · obtain ⟨a, ns, rfl, hs, hne, q⟩ := h
    obtain ⟨its, rv, hl, _⟩ := I.tuple hs
    rw [Vals.ref1 r]
    exact max_tup (I.ok.hd hc) hl rv.ints hne fun h' tk m t' hk h1 h2 => ⟨.int _, H, I.kept hk, ⟨_, rfl⟩, q m h1 h2⟩
  · exact cr_max hc pins s σ H vs us Q I r h
end
/-- min(xs), max(xs) of a tuple or a list of ints -/
def cMin1 : List D → Sto → KE → Prop := fun vs S Q => match vs with
  | [d] => ∃ ns : List Int, itemsD S d (ns.map .int) ∧ 0 < ns.length ∧ ∀ m, m ∈ ns → (∀ y, y ∈ ns → m ≤ y) → Q (.int m) S
  | _ => False
def cMax1 : List D → Sto → KE → Prop := fun vs S Q => match vs with
  | [d] => ∃ ns : List Int, itemsD S d (ns.map .int) ∧ 0 < ns.length ∧ ∀ m, m ∈ ns → (∀ y, y ∈ ns → y ≤ m) → Q (.int m) S
  | _ => False
theorem ints_sq {K : PySem.W.Frag} {H : Hp} {S : Sto} {d : D} {ns : List Int} {v : V} (o : SO K H S) (r : Rp K H d v) (h : itemsD S d (ns.map .int)) : ∃ a, v = .ref a ∧ (SqT K H a (ns.map V.int) ∨ SqL K H a (ns.map V.int)) := by
  obtain ⟨p, rfl, _, f⟩ := one_low r o h
  obtain ⟨vs, hs, q⟩ := f H S (TL.refl H) o h
  rw [q.ints] at hs
  obtain ⟨b, a⟩ := p
  cases b with
  | true => exact ⟨a, rfl, .inl hs⟩
  | false => exact ⟨a, rfl, .inr hs⟩
theorem ca_min1 {K : PySem.W.Frag} : CaV K cMin1 (fun vs H Q => rMinT K vs H Q ∨ rMin K vs H Q) := by
  intro H S xs us Q R o r h k
  unfold cMin1 at h
  split at h
  · simp only [Rps] at r; obtain ⟨v, w, rfl, r, rfl⟩ := r
    obtain ⟨ns, hi, hne, h⟩ := h
    obtain ⟨a, rfl, hs | hs⟩ := ints_sq o r hi
    · exact .inl ⟨a, ns, rfl, hs, hne, fun m h1 h2 => k _ _ _ _ (h m h1 h2) (Go.refl S H) (by simp only [Rp]) o⟩
    · exact .inr ⟨a, ns, rfl, hs, hne, fun m h1 h2 => k _ _ _ _ (h m h1 h2) (Go.refl S H) (by simp only [Rp]) o⟩
  · exact h.elim
theorem ca_max1 {K : PySem.W.Frag} : CaV K cMax1 (fun vs H Q => rMaxT K vs H Q ∨ rMax K vs H Q) := by
  intro H S xs us Q R o r h k
  unfold cMax1 at h
  split at h
  · simp only [Rps] at r; obtain ⟨v, w, rfl, r, rfl⟩ := r
    obtain ⟨ns, hi, hne, h⟩ := h
    obtain ⟨a, rfl, hs | hs⟩ := ints_sq o r hi
    · exact .inl ⟨a, ns, rfl, hs, hne, fun m h1 h2 => k _ _ _ _ (h m h1 h2) (Go.refl S H) (by simp only [Rp]) o⟩
    · exact .inr ⟨a, ns, rfl, hs, hne, fun m h1 h2 => k _ _ _ _ (h m h1 h2) (Go.refl S H) (by simp only [Rp]) o⟩
  · exact h.elim
end VL
/-! VL17: in, not in; isinstance with two classes; del of a tuple key. -/
namespace VL
open PySem PySem.Spec PyProof.Rows L2
section
variable {X : Cx}
def rDIn (neg : Bool) : R2 := fun x y H Q => ∃ a o, y = .ref a ∧ DGet H a x o ∧ Q (.bl (if neg then !o.isSome else o.isSome)) H
theorem op_dIn (hu : X.A.units + 1 < cLine) : OpR X (compareOp .In) (rDIn false) := by
  intro pins s σ H x y v u Q I rx ry h
  obtain ⟨a, o, rfl, g, q⟩ := h
  cases ry
  exact d_in hu I g rx fun s3 I3 => ⟨.bl o.isSome, H, I3, rfl, q⟩
theorem op_dNotIn (hu : X.A.units + 1 < cLine) : OpR X (compareOp .NotIn) (rDIn true) := by
  intro pins s σ H x y v u Q I rx ry h
  obtain ⟨a, o, rfl, g, q⟩ := h
  cases ry
  exact d_notIn hu I g rx fun s3 I3 => ⟨.bl (!o.isSome), H, I3, rfl, q⟩
def rInE (K : PySem.W.Frag) (neg : Bool) : R2 := fun x y H Q => rDIn neg x y H Q ∨ rIn K neg x y H Q
theorem op_inE (hu : X.A.units + 1 < cLine) : OpR X (compareOp .In) (rInE X.K false) := (op_dIn hu).or op_in_seq
theorem op_notInE (hu : X.A.units + 1 < cLine) : OpR X (compareOp .NotIn) (rInE X.K true) := (op_dNotIn hu).or op_notIn_seq
end
/-- in: a tuple of ints in a dict; an int in a list or tuple of ints -/
def vIn (neg : Bool) : D → D → Sto → KE → Prop
  | .tup ks, .ref a, S, Q => ∃ kvs ns, rdD S a kvs ∧ ks = ns.map .int ∧ Q (.bl (if neg then !(lkD kvs ns).isSome else (lkD kvs ns).isSome)) S
  | .int i, d, S, Q => ∃ ns : List Int, itemsD S d (ns.map .int) ∧ Q (.bl (if neg then !decide (i ∈ ns) else decide (i ∈ ns))) S
  | _, _, _, _ => False
theorem inV_ints (i : Int) : ∀ ns : List Int, inV (.int i) (ns.map V.int) = decide (i ∈ ns)
  | [] => rfl
  | n :: r => by
    have ih := inV_ints i r
    unfold inV at ih ⊢
    rw [List.map_cons, List.any_cons, ih]
    have e : eqV (.int n) (.int i) = decide (n = i) := by
      show (n == i) = _
      by_cases h : n = i <;> simp [h]
    rw [e]
    by_cases h : n = i
    · subst h; simp
    · have : ¬ i = n := fun z => h z.symm
      simp [h, this]
theorem flat_ints : ∀ ns : List Int, (ns.map V.int).all flatV = true
  | [] => rfl
  | n :: r => by rw [List.map_cons, List.all_cons, flat_ints r]; rfl
theorem ov_in {K : PySem.W.Frag} {neg : Bool} : OpV K (vIn neg) (rInE K neg) := by
  intro H S x y u v Q R o rx ry h k
  unfold vIn at h
  split at h
  · obtain ⟨kvs, ns, ha, rfl, h⟩ := h
    simp only [Rp] at ry; subst ry
    obtain ⟨b, rfl, hb⟩ := key_tup rx
    obtain ⟨ws, ea, _, kv⟩ := ha.dT o
    have lk := kv.lk inlMap_inj (k := ns)
    cases q : lkD kvs ns with
    | none =>
      rw [q] at h
      exact .inl ⟨_, none, rfl, .inr ⟨ws, _, b, ea, rfl, hb, (lk.2 q).symm⟩, k _ _ _ _ h (Go.refl S H) (by simp only [Rp, Option.isSome]) o⟩
    | some d =>
      rw [q] at h
      obtain ⟨w', hw, rw'⟩ := lk.1 d q
      exact .inl ⟨_, some w', rfl, .inr ⟨ws, _, b, ea, rfl, hb, hw.symm⟩, k _ _ _ _ h (Go.refl S H) (by simp only [Rp, Option.isSome]) o⟩
  · obtain ⟨ns, hi, h⟩ := h
    simp only [Rp] at rx; subst rx
    obtain ⟨a, rfl, hs⟩ := ints_sq o ry hi
    refine .inr ⟨a, ns.map V.int, rfl, hs.symm, rfl, flat_ints ns, ?_⟩
    rw [inV_ints]
    exact k _ _ _ _ h (Go.refl S H) (by simp only [Rp]) o
  · exact h.elim
theorem vIn_tI {neg : Bool} {k : List Int} {a : Addr} {S : Sto} {Q : KE} : vIn neg (tI k) (.ref a) S Q = ∃ kvs, rdD S a kvs ∧ Q (.bl (if neg then !(lkD kvs k).isSome else (lkD kvs k).isSome)) S := by
  unfold tI
  simp only [vIn]
  refine propext ⟨fun ⟨kvs, ns, h0, h1, h⟩ => ?_, fun ⟨kvs, h⟩ => ⟨kvs, k, h.1, rfl, h.2⟩⟩
  rw [int_map_inj h1]; exact ⟨kvs, h0, h⟩
theorem vIn_int {neg : Bool} {i : Int} {d : D} {S : Sto} {Q : KE} : vIn neg (.int i) d S Q = ∃ ns : List Int, itemsD S d (ns.map .int) ∧ Q (.bl (if neg then !decide (i ∈ ns) else decide (i ∈ ns))) S := by
  cases d <;> rfl
/-! ### del -/
section
variable {X : Cx} {en : Ent}
theorem d_delT {pins : List (Addr × Obj)} {σ : L2.St} {H : Hp} {s : Shared} {a b : Addr} {kvs : List (List L2.Key × V)} {k : List L2.Key} {A : Around} {E : Value → Shared → Prop} {Q : Unit → Shared → Prop} (hu : A.units + 1 < cLine) (I : Inv X pins σ H s) (e : H a = some (.dT kvs)) (eb : H b = some (.tup (k.map kV))) (l : (valV kvs k).isSome = true)
    (h : ∀ s', Inv X pins σ (upd H a (.dT (dropK kvs k))) s' → Q () s') : wpAny (model X.prog X.w) A (delItem (.ref a) (.ref b)) Q E s := by
  obtain ⟨z, hd, xs, rel, dd⟩ := dt_of I.hok e
  have hz : xs.length ≤ sizeLine := by rw [← Paired.length rel]; exact z
  obtain ⟨v0, ev⟩ := Option.isSome_iff_exists.mp l
  have r := rel.val k
  rw [ev] at r
  obtain ⟨w', hw, _⟩ := RelO.some_of (v := v0) (o := (atKey xs k).map (·.2)) r
  obtain ⟨p, hp, _⟩ := Option.map_eq_some_iff.mp hw
  refine wpAny_delItem_heap (tupleKind_room_in1 hu) (key_of I.hok eb) hd dd hp (fun h' dd' hs => h _ ?_) hz
  obtain ⟨o, es, ep, hq, h2, h3, h4, _, h5⟩ := dd'
  refine d_write I (by rw [e]; exact True.intro) hs ⟨o, hq⟩ ⟨Nat.le_trans (dropK_le kvs k) z, hd, _, (L2.DX.KT_drop k rel).keeps fun c ys ec => ?_, o, es, ep, hq, h2, h3, h4, h5⟩
  rw [upd_ne (ne_of ec e (fun z => nomatch z))]; exact ec
def tDelT (td ty : TE) : TS := fun D σ H => td σ H fun x H1 => ty σ H1 fun y H2 => ∃ a b kvs k, x = .ref a ∧ y = .ref b ∧ H2 a = some (.dT kvs) ∧ H2 b = some (.tup (k.map kV)) ∧ (valV kvs k).isSome = true ∧ D.nx σ (upd H2 a (.dT (dropK kvs k)))
theorem ps_delT {o i : Expr} {td ty : TE} {tpos pos : Pos} (hu : X.A.units + 1 < cLine) (ho : PE X o td) (hi : PE X i ty) : PS X (.Delete [.Subscript o i tpos] pos) (tDelT td ty) := by
  refine ⟨fun pins s σ H D I h => ?_⟩
  refine wpAny_Delete (wpAny_deleteEach_cons (wpAny_delete_Subscript (thn (ho.run pins s σ H _ I h) fun u s1 ⟨x, H1, I1, rx, q1⟩ => thn (hi.run pins s1 σ H1 _ I1 q1) fun iv s2 ⟨y, H2, I2, ry, a, b, kvs, k, ex, ey, e, eb, l, q2⟩ => ?_)))
  subst ex ey
  obtain rfl : u = Value.ref a := rx
  obtain rfl : iv = Value.ref b := ry
  exact d_delT hu I2 e eb l fun s3 I3 => wpAny_deleteEach_nil ⟨σ, _, I3, q2⟩
/-- del d[k] -/
def vDDel (x y : D) (S : Sto) (k : Sto → Prop) : Prop := match x, y with
  | .ref a, .tup ks => ∃ kvs ns, S a = some (.dI kvs) ∧ ks = ns.map .int ∧ (lkD kvs ns).isSome = true ∧ k (put S a (.dI (drD kvs ns)))
  | _, _ => False
theorem vDDel.inv {x y : D} {S : Sto} {k : Sto → Prop} (h : vDDel x y S k) : ∃ a kvs ns, x = .ref a ∧ y = .tup (ns.map .int) ∧ S a = some (.dI kvs) ∧ (lkD kvs ns).isSome = true ∧ k (put S a (.dI (drD kvs ns))) := by
  unfold vDDel at h
  split at h
  · obtain ⟨kvs, ns, ha, rfl, h⟩ := h; exact ⟨_, kvs, ns, rfl, rfl, ha, h⟩
  · exact h.elim
theorem vDDel_tI {k : List Int} {a : Addr} {S : Sto} {Q : Sto → Prop} : vDDel (.ref a) (tI k) S Q = ∃ kvs, S a = some (.dI kvs) ∧ (lkD kvs k).isSome = true ∧ Q (put S a (.dI (drD kvs k))) := by
  unfold tI
  simp only [vDDel]
  refine propext ⟨fun ⟨kvs, ns, h0, h1, h⟩ => ?_, fun ⟨kvs, h⟩ => ⟨kvs, k, h.1, rfl, h.2⟩⟩
  rw [int_map_inj h1]; exact ⟨kvs, h0, h⟩
theorem Kv.dr {K : PySem.W.Frag} {H : Hp} {κ μ : Type} [DecidableEq κ] [DecidableEq μ] {f : κ → μ} (inj : ∀ x y, f x = f y → x = y) {k : κ} : ∀ {a : List (κ × D)} {b : List (μ × V)}, Kv K H f a b → Kv K H f (drD a k) (dropK b (f k))
  | [], [], .nil => .nil
  | (x, d) :: a, (y, v) :: b, .cons h t => by
    have e : y = f x := h.1
    subst e
    have ih := Kv.dr inj (k := k) (a := a) (b := b) t
    unfold drD dropK at ih ⊢
    by_cases hx : x = k
    · subst hx
      simpa using ih
    · have hf : ¬ f x = f k := fun z => hx (inj _ _ z)
      simp only [List.filter_cons, hx, hf, ne_eq, not_false_eq_true, decide_true, if_true]
      exact .cons h ih
theorem drD_length {κ : Type} [DecidableEq κ] (kvs : List (κ × D)) (k : κ) : (drD kvs k).length ≤ kvs.length := List.length_filter_le _ _
def sDDelT (td ty : RE) : RS := fun D0 τ S => td τ S fun x S1 => ty τ S1 fun y S2 => vDDel x y S2 (D0.nx τ)
theorem vs_ddel {o i : Expr} {td ty : RE} {pos pos' : Pos} (hu : X.A.units + 1 < cLine) (ho : VE X en o td) (hi : VE X en i ty) : VSt X en (.Delete [.Subscript o i pos'] pos) (sDDelT td ty) := PS.imp (ps_delT hu ho hi) fun D0 σ H h => by
  obtain ⟨τ, S, E0, hs, ho, h, e⟩ := h
  refine ⟨τ, S, _, hs, ho, h, fun x S2 ux H2 h2 g2 r2 o2 => ?_⟩
  refine ⟨τ, S2, _, hs.mono g2.tl, o2, h2, fun y S3 uy H3 h3 g3 r3 o3 => ?_⟩
  obtain ⟨a, kvs, ns, rfl, rfl, ha, hk, h3⟩ := h3.inv
  have r2 := Rp.mono g3.tl _ _ r2
  simp only [Rp] at r2; subst r2
  obtain ⟨b, rfl, hb⟩ := key_tup r3
  obtain ⟨ws, ea, zw, kv⟩ := o3.so.dI ha
  have lk := kv.lk inlMap_inj (k := ns)
  obtain ⟨d, hd⟩ := Option.isSome_iff_exists.mp hk
  obtain ⟨w', hw, _⟩ := lk.1 d hd
  have t : TL H3 (upd H3 a (.dT (dropK ws (ns.map Sum.inl)))) := TL.mut ea trivial
  have gm : Go S3 H3 (put S3 a (.dI (drD kvs ns))) (upd H3 a (.dT (dropK ws (ns.map Sum.inl)))) := Go.mut ha ea trivial
  refine ⟨a, b, ws, _, rfl, rfl, ea, hb, by rw [hw]; rfl, ?_⟩
  exact e.nx _ _ _ _ h3 ((g2.trans g3).trans gm) ((hs.mono (g2.trans g3).tl).mono t) (o3.go gm (o3.so.set ea trivial ⟨_, rfl, Nat.le_trans (dropK_le _ _) zw, (kv.dr inlMap_inj).mono t⟩))
end
/-! ### isinstance with two classes -/
def cIsi2 : List D → Sto → KE → Prop := fun vs S Q => match vs with
  | [x, .tup [.oth (.ty n), .oth (.ty m)]] => ∃ t, tyN S x t ∧ n ∈ ["bool", "int", "str", "tuple", "list", "dict"] ∧ m ∈ ["bool", "int", "str", "tuple", "list", "dict"] ∧ Q (.bl (isTy t n || isTy t m)) S
  | _ => False
theorem ca_isi2 {K : PySem.W.Frag} : CaV K cIsi2 (rIsiT K) := by
  intro H S xs us Q R o r h k
  unfold cIsi2 at h
  split at h
  · rename_i x n m
    simp only [Rps, Rp] at r
    obtain ⟨v, w, rfl, r1, v2, w2, rfl, ⟨a, vs, rfl, ha, _, u1, w3, rfl, rfl, u2, w4, rfl, rfl, rfl⟩, rfl⟩ := r
    obtain ⟨t, ht, hn, hm, h⟩ := h
    refine ⟨v, a, _, _, [.type n, .type m], isTy t n || isTy t m, rfl, ha, .cons (.ty n) (.cons (.ty m) .nil), ht.x o r1, ?_, k _ _ _ _ h (Go.refl S H) (by simp only [Rp]) o⟩
    have k1 := kit_ty (K := K) (kit_all t ht.mem _ hn)
    have k2 := kit_ty (K := K) (kit_all t ht.mem _ hm)
    refine kitAny_cons k1 (fun e => ?_) (fun e => by rw [e]; rfl)
    refine kitAny_cons k2 (fun e2 => ?_) (fun e2 => by rw [e2, Bool.or_true])
    rw [e, e2]; rfl
  · exact h.elim
end VL
/-! VL18: dict comprehensions whose keys are tuples. -/
namespace VL
open PySem PySem.Spec PyProof.Rows L2
/-- d[k] = v of a comprehension, k a tuple -/
theorem d_setT {X : Cx} {pn : List (Addr × Obj)} {st : L2.St} {hp : Hp} {s : Shared} {E : Value → Shared → Prop} {A : Around} {D b : Addr} {kvs : List (List L2.Key × V)} {k : List L2.Key} {v : V} {r : Value} {Q : Unit → Shared → Prop} (hu : A.units < cLine) (J : Inv X pn st hp s) (hD : hp D = some (.dT kvs)) (hb : hp b = some (.tup (k.map kV)))
    (hz : kvs.length < sizeLine) (rv : RelV v r) (h : ∀ s', Inv X pn st (upd hp D (.dT (putK kvs k v))) s' → Q () s') : wpAny (model X.prog X.w) A (dictSet D (.ref b) r) Q E s := by
  obtain ⟨z, hd, xs, rel, dd⟩ := dt_of J.hok hD
  have hx : xs.length ≤ sizeLine := by rw [← Paired.length rel]; exact z
  have hl : (putK kvs k v).length ≤ sizeLine := by have := length_putK kvs k v; omega
  refine wpAny_dictSet_heap (hsz := hx) (knd := tupleKind (mixKind X.prog X.w)) hu (key_of J.hok hb) dd fun h' dd' sb => h _ ?_
  obtain ⟨o, es, ep, e1, e2, e3, e4, _, e5⟩ := dd'
  refine d_write J (by rw [hD]; trivial) sb ⟨o, e1⟩ ⟨hl, hd, _, (rel.put k hb rv).keeps fun c ys ec => ?_, o, es, ep, e1, e2, e3, e4, e5⟩
  rw [upd_ne (ne_of ec hD (fun z => nomatch z))]; exact ec
section
variable {X : Cx}
/-- {k: v for target in iter if ..}, the keys tuples: D the new dict -/
def tDcT (wi : TI) (g : TG) (tt : TT) (tk tv : TE) (vs : List Nat) : TE := fun st hp Q => wi st hp fun J hp1 => ∀ D, hp1 D = none → ∃ W : Nat → Nat → Hp → Prop, (∃ m, W 0 m (upd hp1 D (.dT []))) ∧
  ∀ i m h, W i m h → (J.stop i h ∧ Q (.ref D) h) ∨ (J.go i h ∧ ∃ N : Hp → Prop, (∀ h', N h' → ∃ m', m' < m ∧ W (i + 1) m' h') ∧ ∀ x h', J.yld i h x h' → g x (wipe st vs) h' fun st2 h2 => wipe st2 vs = wipe st vs ∧
    tt st2 h2 fun b h3 => if b = true then tk st2 h3 fun y h4 => tv st2 h4 fun z h5 => ∃ kvs k a, y = .ref a ∧ h5 a = some (.tup (k.map kV)) ∧ h5 D = some (.dT kvs) ∧ kvs.length < sizeLine ∧ N (upd h5 D (.dT (putK kvs k z))) else N h3)
variable {pn : List (Addr × Obj)} {s : Shared} {st : L2.St} {hp : Hp} {Q : VK} {kx vx tg it : Expr} {ifs : List Expr} {sc : Scope} {own : List (Str × Nat)} {pos pos' : Pos} {wi : TI} {g : TG} {tt : TT} {tk tv : TE}
/-- what the parts of a comprehension are proved to do, in any block -/
structure DcParts (X : Cx) (sc : Scope) (tg kx vx : Expr) (ifs : List Expr) (g : TG) (tt : TT) (tk tv : TE) : Prop where
  g : ∀ (s : Shared) (h : Hp) (C : Addr) (cl : List (Str × Addr)) (fp : List Addr), PG (X.blk s h sc (compEnvC sc cl C X.env) fp) tg g
  t : ∀ (s : Shared) (h : Hp) (C : Addr) (cl : List (Str × Addr)) (fp : List Addr), PTs (X.blk s h sc (compEnvC sc cl C X.env) fp) ifs tt
  k : ∀ (s : Shared) (h : Hp) (C : Addr) (cl : List (Str × Addr)) (fp : List Addr), PE (X.blk s h sc (compEnvC sc cl C X.env) fp) kx tk
  v : ∀ (s : Shared) (h : Hp) (C : Addr) (cl : List (Str × Addr)) (fp : List Addr), PE (X.blk s h sc (compEnvC sc cl C X.env) fp) vx tv
theorem dcT_core {use : Option (Value → Sem Unit)} {Qf : Value → Shared → Prop} (hc : X.calm = true) (hu : X.A.units < cLine) (hN : X.N.Nodup) (J : Inv X pn st hp s) (hi : PI X tg it wi) (ok : BlkOk X.N X.env.scope sc own) (P : DcParts X sc tg kx vx ifs g tt tk tv) (hs : ∀ x, foldedSetIterable it X.env x = pure x)
    (h : tDcT wi g tt tk tv (own.map (·.2)) st hp Q)
    (fin : ∀ D C s' m h', Inv X pn st h' s' → Q (.ref D) h' → s'.heap.Ns C m → FpOk X pn h' C → compPost (model X.prog X.w) X.A X.xe use Qf (.ref D) C (.ok .next) s') :
    wpAny (model X.prog X.w) X.A (comprehension (.DictComp kx vx [⟨tg, it, ifs, 0⟩] sc pos) sc X.env pos' newDict false (eval it X.env) use) Qf X.xe s := by
  have free : ∀ y ∈ sc.names, y.2 = .free → ∃ c, X.env.cells.lookup y.1 = some c := fun y hy e => (ok.free y hy e).elim (fun q => J.ok.has _ (.inl q)) fun q => J.ok.has _ (.inr q)
  refine wpAny_comprehension_free (use := use) rfl hs (closure_ok free) ok.kind (fun y hy e => by rw [ok.uniq y hy, e]) (thn (hi.run pn s st hp _ J h) fun _ s1 q1 => thn q1 fun _ s2 q2 => ?_)
  obtain ⟨ia, fp, tn, W0, hp2, rfl, J2, T, at0, fp2, q⟩ := q2
  refine wpAny_newObj_type (newEnv_comp ?_)
  have freshD : hp2 s2.heap.objs.size = none := J2.hok.fresh (Nat.le_refl _)
  obtain ⟨W, ⟨m0, w0⟩, turn⟩ := q _ freshD
  let s3 : Shared := { s2 with heap := s2.heap.push { cls := .type "dict", data := .dict #[] } }
  have J3 : Inv X pn st (upd hp2 s2.heap.objs.size (.dT [])) s3 := J2.laid (t' := s2.toks) (fun b o e => Heap.get?_push_of_some _ e) (Nat.le_refl _) (dt_empty s2.heap J2.big)
  have small : ∀ b ∈ fp, b < s2.heap.objs.size := fun b hb => (T.obj _ _ at0 b hb).elim fun _ e => Heap.lt_size e.1
  have grown : s3.heap.objs.size = s2.heap.objs.size + 1 := Heap.size_push ..
  have fp3 : ∀ b ∈ fp, FpOk X pn (upd hp2 s2.heap.objs.size (.dT [])) b ∧ b < s3.heap.objs.size := fun b hb => by
    have l := small b hb
    exact ⟨⟨(upd_ne (Nat.ne_of_lt l)).trans (fp2 b hb).1, (fp2 b hb).2⟩, by rw [grown]; exact Nat.lt_succ_of_lt l⟩
  have at3 : tn 0 s3.heap := T.keep _ _ _ at0 fun b _ o e => Heap.get?_push_of_some _ e
  have J4 := block_start J3 ok hN fp3
  let cl := cellsFrom (s3.heap.objs.size + 1) sc.names (cloFrom X.env.cells sc.names [])
  have pg := P.g s3 (upd hp2 s2.heap.objs.size (.dT [])) s3.heap.objs.size cl fp
  have pt := P.t s3 (upd hp2 s2.heap.objs.size (.dT [])) s3.heap.objs.size cl fp
  have pk := P.k s3 (upd hp2 s2.heap.objs.size (.dT [])) s3.heap.objs.size cl fp
  have pv := P.v s3 (upd hp2 s2.heap.objs.size (.dT [])) s3.heap.objs.size cl fp
  show codeAny _ _ (.compStart (.DictComp kx vx [⟨tg, it, ifs, 0⟩] sc pos) 0 (.ref ia) (.ref s2.heap.objs.size) (compEnvC sc cl s3.heap.objs.size X.env)) (compPost (model X.prog X.w) X.A X.xe use Qf (.ref s2.heap.objs.size) s3.heap.objs.size) { s3 with heap := pushCells (s3.heap.push { cls := .type "dict", data := .dict #[] }) sc.names }
  have nil3 : ∀ b ∈ fp, (upd hp2 s2.heap.objs.size (.dT [])) b = none := fun b hb => (fp3 b hb).1.1
  have J4 : Inv (X.blk s3 (upd hp2 s2.heap.objs.size (.dT [])) sc (compEnvC sc cl s3.heap.objs.size X.env) fp) [] (wipe st (own.map (·.2))) (upd hp2 s2.heap.objs.size (.dT [])) { s3 with heap := pushCells (s3.heap.push { cls := .type "dict", data := .dict #[] }) sc.names } := J4
  generalize hE : compEnvC sc cl s3.heap.objs.size X.env = ce at J4 pg pt pk pv ⊢
  have loc : ce.locals = s3.heap.objs.size := by subst hE; rfl
  generalize hH : upd hp2 s2.heap.objs.size (.dT []) = h3 at J3 J4 pg pt pk pv w0 nil3 fp3
  generalize hS : ({ s3 with heap := pushCells (s3.heap.push { cls := .type "dict", data := .dict #[] }) sc.names } : Shared) = s4 at J4 ⊢
  have at4 : tn 0 s4.heap := T.keep _ _ _ at3 fun b _ o e => by rw [← hS]; exact pushCells_keeps _ _ _ _ (Heap.get?_push_of_some _ e)
  generalize hB : X.blk s3 h3 sc ce fp = B at J4 pg pt pk pv
  have hB1 : B.prog = X.prog := by subst hB; rfl
  have foot : ∀ {st' : L2.St} {h' : Hp} {s' : Shared}, Inv B [] st' h' s' → (∀ b ∈ fp, h' b = none) → ∀ b ∈ fp, FpOk B [] h' b := fun {st' h' s'} I' n b hb => by
    subst hB
    exact ⟨n b hb, (I'.ok.exf b hb).1, I'.ok.exfs b hb, .inl hb, fun x c e => (I'.ok.exf b hb).2 x c e, fun p hp => by cases hp⟩
  have loop : codeAny (model X.prog X.w) X.A (.compLoop (.DictComp kx vx [⟨tg, it, ifs, 0⟩] sc pos) 0 (.ref ia) (.ref s2.heap.objs.size) ce) (compPost (model X.prog X.w) X.A X.xe use Qf (.ref s2.heap.objs.size) s3.heap.objs.size) s4 := by
    refine compLoop_anyD (fun n s' => ∃ i h', Inv B [] (wipe st (own.map (·.2))) h' s' ∧ tn i s'.heap ∧ (∀ b ∈ fp, h' b = none) ∧ W i n h') (fun n s5 => ?_) m0 ⟨0, h3, J4, at4, nil3, w0⟩
    rintro ⟨i, h5, J5, at5, n5, w5⟩
    rcases turn i n h5 w5 with ⟨stop, qend⟩ | ⟨go, N, hN', step⟩
    · subst hB
      refine thnF (T.done (X.blk s3 h3 sc ce fp) rfl rfl rfl hc i [] s5 _ h5 (fun _ _ => False) J5 (foot J5 n5) at5 stop) fun r s6 ⟨er, J6⟩ => ?_
      subst er
      have J7 : Inv X pn st h5 s6 := J3.call' (ch := fp) J6.os J6.base J6.hok J6.bare fun b hb => ⟨(fp3 b hb).1.2.2.2.1, (fp3 b hb).1.2.1, (fp3 b hb).1.2.2.2.2.1, (fp3 b hb).1.2.2.2.2.2⟩
      have nC : h5 ce.locals = none := J6.free
      obtain ⟨m, hn, _⟩ := J6.loc
      have hn : s6.heap.Ns ce.locals m := hn
      rw [loc] at hn nC
      exact fin _ _ s6 m h5 J7 qend hn (J3.fpOk (Nat.le_refl _) nC)
    · subst hB
      refine thnF (T.item (X.blk s3 h3 sc ce fp) rfl rfl rfl hc i [] s5 _ h5 (fun _ _ => False) J5 (foot J5 n5) at5 go) fun r s6 ⟨u, er, q6⟩ => ?_
      subst er
      refine thnF q6 fun _ s7 ⟨x, h7, J7, r7, y7, at7, n7⟩ => ?_
      refine thnF (pg.run _ s7 _ h7 x u _ (J7.pinned (foot J7 n7) (T.obj _ _ at7)) r7 (step x h7 y7)) fun _ s8 ⟨st8, h8, J8, w8, q8⟩ => ?_
      refine thnF (pt.run _ s8 st8 h8 _ J8 q8) fun b s9 ⟨h9, J9, q9⟩ => ?_
      have turned : ∀ {s' : Shared} {h' : Hp}, Inv (X.blk s3 h3 sc ce fp) ([] ++ pinsAt fp s7.heap) st8 h' s' → N h' → ∃ m, m < n ∧ ∃ i h', Inv (X.blk s3 h3 sc ce fp) [] (wipe st (own.map (·.2))) h' s' ∧ tn i s'.heap ∧ (∀ b ∈ fp, h' b = none) ∧ W i m h' := fun {s' h'} I' nx => by
        obtain ⟨m', lt, w'⟩ := hN' h' nx
        have pinned : ∀ b ∈ fp, ∀ o, s7.heap.get? b = some o → s'.heap.get? b = some o ∧ h' b = none := fun b hb o e =>
          (I'.pin (b, o) (List.mem_append_right _ (List.mem_append_right _ (mem_pinsAt hb e)))).elim fun z1 z2 => ⟨z1, z2.1⟩
        refine ⟨m', lt, i + 1, h', (I'.unpinned (pins := [])).weak (by rw [← w8, wipe_length]) (fun j v e => ?_), T.keep _ _ _ at7 fun b hb o e => (pinned b hb o e).1, fun b hb => ?_, w'⟩
        · rw [← w8] at e; exact (wipe_some e).1
        · obtain ⟨o, e, _⟩ := T.obj _ _ at7 b hb
          exact (pinned b hb o e).2
      cases b with
      | false =>
        simp only [Bool.false_eq_true, if_false] at q9 ⊢
        exact turned J9 q9
      | true =>
        simp only [if_true] at q9 ⊢
        refine thnF (pk.run _ s9 st8 h9 _ J9 q9) fun z s10 ⟨yk, h10, J10, r10, q10⟩ => ?_
        refine thnF (pv.run _ s10 st8 h10 _ J10 q10) fun z2 s11 ⟨yv, h11, J11, r11, kvs, k, a, ek, ea, hD, hz, nx⟩ => ?_
        subst ek
        cases (show z = Value.ref a from r10)
        exact d_setT (X := X.blk s3 h3 sc ce fp) hu J11 hD ea hz r11 fun s12 J12 => turned J12 nx
  exact codeAny_compStart_dict loop (T.self X.A 0 _ _ _ at4 loop)
theorem pe_dcT (hc : X.calm = true) (hu : X.A.units < cLine) (hN : X.N.Nodup) (hi : PI X tg it wi) (ok : BlkOk X.N X.env.scope sc own) (P : DcParts X sc tg kx vx ifs g tt tk tv) (hs : ∀ x, foldedSetIterable it X.env x = pure x := by intro _; rfl) :
    PE X (.DictComp kx vx [⟨tg, it, ifs, 0⟩] sc pos) (tDcT wi g tt tk tv (own.map (·.2))) := by
  refine ⟨fun pn s st hp Q J h => ?_⟩
  rw [arm_eval_DictComp]
  refine dcT_core hc hu hN J hi ok P hs h fun D C s' m h' J' q hn f => ⟨m, hn, fun h'' sb => ?_⟩
  exact ⟨.ref D, h', J'.turned (t' := s'.toks) (fun b o hb e => (sb.2 b hb).trans e) f.1 f.2.1 f.2.2.2.1 f.2.2.2.2.1 f.2.2.2.2.2, rfl, q⟩
end
def dcR (ok : Sto → Prop) (g : RG) (tt : RT) (tk tv : RE) (τw : VS) : List D → List (List Int × D) → Sto → (List (List Int × D) → Sto → Prop) → Prop
  | [], acc, S, Q => ok S ∧ Q acc S
  | x :: r, acc, S, Q => ok S ∧ g x τw S fun τ2 S2 => tt τ2 S2 fun b S3 => if b = true then tk τ2 S3 fun y S4 => tv τ2 S4 fun z S5 => ∃ (ns : List Int) (S6 : Sto), y = tI ns ∧ Le S6 S5 ∧ dcR ok g tt tk tv τw r (puD acc ns z) S6 Q else dcR ok g tt tk tv τw r acc S3 Q
def eDc (w : RI) (g : RG) (tt : RT) (tk tv : RE) (vs : List Nat) : RE := fun τ S Q => w τ S fun wk S1 => dcR wk.ok g tt tk tv (wipeV τ vs) wk.items [] S1 fun kvs S2 => ∀ p, S2 p = none → Q (.ref p) (put S2 p (.dI kvs))
section
variable {X : Cx} {en : Ent}
theorem low_dc {w : RI} {t : Tg} {tt : RT} {tk tv : RE} {vs : List Nat} {τ : VS} {S : Sto} {σ : L2.St} {H : Hp} {K1 : List (List Int × D) → Sto → Prop} {R : VK} (hs : SR X.K H τ σ) (ho : SQ X.K en H S) (hm : ∀ i ∈ t.is, i ∈ vs)
    (q : w τ S fun wk S1 => dcR wk.ok t.R tt tk tv (wipeV τ vs) wk.items [] S1 K1)
    (k : ∀ kvs S2 p ws H', K1 kvs S2 → S2 p = none → H' p = some (.dT ws) → ws.length ≤ sizeLine → Kv X.K H' (fun k : List Int => k.map (Sum.inl : Int → Key)) kvs ws → Go S H S2 H' → (∀ o, Go S H (put S2 p o) H') → SQ X.K en H' S2 → R (.ref p) H') :
    tDcT (lowI X.K en w) (t.L X.K) (lowT X.K en tt) (lowE X.K en tk) (lowE X.K en tv) vs σ H R := by
  refine ⟨τ, S, _, hs, ho, q, fun wk S1 J H1 q1 g1 o1 wj => ?_⟩
  intro L hL
  have hLS : ∀ o, H L = some o → S L = none → False := fun o e n => by
    have := (g1.fr L o e n).2
    rw [hL] at this; cases this
  have s1L : S1 L = none := o1.nope hL
  refine ⟨fun i m H' => ∃ S' acc ws, m = wk.items.length - i ∧ i ≤ wk.items.length ∧ SQ X.K en H' S' ∧ S' L = none ∧ Go S H S' H' ∧ TL H1 H' ∧ H' L = some (.dT ws) ∧ ws.length ≤ i ∧ Kv X.K H' (fun k : List Int => k.map (Sum.inl : Int → Key)) acc ws ∧
    dcR wk.ok t.R tt tk tv (wipeV τ vs) (wk.items.drop i) acc S' K1, ⟨wk.items.length, S1, [], [], by simp, Nat.zero_le _, ?_, s1L, g1.trans (Go.new' hL), TL.new hL, upd_same, Nat.le_refl _, .nil, q1⟩, ?_⟩
  · exact o1.go (Go.new' hL) (o1.so.new' hL)
  rintro i m H' ⟨S', acc, ws, rfl, hi, o', sL, g', t', eL, zL, rL, hf⟩
  by_cases hlt : i < wk.items.length
  · rw [List.drop_eq_getElem_cons hlt] at hf
    unfold dcR at hf
    obtain ⟨okS, hf⟩ := hf
    refine .inr ⟨wj.go i H' S' t' o'.so okS hlt, fun H2 => ∃ S2 acc2 ws2, SQ X.K en H2 S2 ∧ S2 L = none ∧ Go S H S2 H2 ∧ TL H1 H2 ∧ H2 L = some (.dT ws2) ∧ ws2.length ≤ i + 1 ∧ Kv X.K H2 (fun k : List Int => k.map (Sum.inl : Int → Key)) acc2 ws2 ∧
      dcR wk.ok t.R tt tk tv (wipeV τ vs) (wk.items.drop (i + 1)) acc2 S2 K1, fun H2 n2 => ?_, fun x H2 y => ?_⟩
    · obtain ⟨S2, acc2, ws2, r⟩ := n2
      exact ⟨wk.items.length - (i + 1), by omega, S2, acc2, ws2, rfl, hlt, r⟩
    · obtain ⟨gg, oo, rr⟩ := wj.yld i H' S' x H2 _ t' o'.so okS (List.getElem?_eq_getElem hlt) y
      have o2 : SQ X.K en H2 S' := o'.go gg oo
      have hsw : SR X.K H2 (wipeV τ vs) (wipe σ vs) := (hs.wipe vs).mono ((g'.trans gg).tl)
      refine Tg.ok hm rr hsw hf fun τ2 σ2 q2 s2 e2 => ⟨e2.trans wipe_wipe, ?_⟩
      refine ⟨τ2, S', _, s2, o2, q2, fun b S3 H3 q3 g3 o3 => ?_⟩
      have g03 := gg.trans g3
      have f3 := g03.fr L _ eL sL
      cases b with
      | true =>
        simp only [if_true] at q3 ⊢
        refine ⟨τ2, S3, _, s2.mono g3.tl, o3, q3, fun dk S4 vk H4 q4 g4 r4 o4 => ?_⟩
        refine ⟨τ2, S4, _, s2.mono (g3.trans g4).tl, o4, q4, fun dv S5 vv H5 q5 g5 r5 o5 => ?_⟩
        obtain ⟨ns, S6, rfl, l6, q6⟩ := q5
        have f5 := (g4.trans g5).fr L _ f3.2 f3.1
        have gall : Go S' H' S5 H5 := g03.trans (g4.trans g5)
        obtain ⟨b, rfl, hb⟩ := key_tup (Rp.mono g5.tl _ _ r4)
        have tl5 : TL H5 (upd H5 L (.dT (putK ws (ns.map Sum.inl) vv))) := TL.mut f5.2 trivial
        have go5 : Go S H S6 (upd H5 L (.dT (putK ws (ns.map Sum.inl) vv))) := ⟨((g'.trans gall).tl).trans tl5, fun a o ha n => by
          have z := (g'.trans gall).fr a o ha n
          have : a ≠ L := by rintro rfl; exact hLS o ha n
          exact ⟨l6.nope z.1, by rw [upd_ne this]; exact z.2⟩⟩
        refine ⟨ws, _, b, rfl, hb, f5.2, Nat.lt_of_le_of_lt zL (Nat.lt_of_lt_of_le hlt wj.len), S6, puD acc ns dv, _, ⟨(o5.so.other f5.2 trivial f5.1).le l6, ?_⟩, l6.nope f5.1, go5, (t'.trans gall.tl).trans tl5, upd_same, ?_, ?_, q6⟩
        · have z : Go en.S en.H S H := ho.en
          exact z.trans go5
        · exact Nat.le_trans (putK_length _ _ _) (by omega)
        · exact ((rL.mono gall.tl).pu inlMap_inj r5).mono tl5
      | false =>
        simp only [Bool.false_eq_true, if_false] at q3 ⊢
        exact ⟨S3, acc, ws, o3, f3.1, g'.trans g03, t'.trans g03.tl, f3.2, Nat.le_succ_of_le zL, rL.mono g03.tl, q3⟩
  · have ei : i = wk.items.length := by omega
    subst ei
    rw [List.drop_length] at hf
    unfold dcR at hf
    refine .inl ⟨wj.stop _ H' S' t' o'.so hf.1 (Nat.le_refl _), ?_⟩
    refine k acc S' L ws H' hf.2 sL eL (Nat.le_trans zL wj.len) rL g' (fun o => ⟨g'.tl, fun a ob ha n => ?_⟩) o'
    have z := g'.fr a ob ha n
    have : a ≠ L := by rintro rfl; exact hLS ob ha n
    exact ⟨by rw [put_ne this]; exact z.1, z.2⟩
structure DcOk (X : Cx) (en : Ent) (kx vx tg : Expr) (ifs : List Expr) (scope : Scope) (t : Tg) (tt : RT) (tk tv : RE) : Prop where
  g : ∀ (s : Shared) (H : Hp) (C : Addr) (cl : List (Str × Addr)) (fp : List Addr), PG (X.blk s H scope (compEnvC scope cl C X.env) fp) tg (t.L X.K)
  t : ∀ (s : Shared) (H : Hp) (C : Addr) (cl : List (Str × Addr)) (fp : List Addr), PTs (X.blk s H scope (compEnvC scope cl C X.env) fp) ifs (lowT X.K en tt)
  k : ∀ (s : Shared) (H : Hp) (C : Addr) (cl : List (Str × Addr)) (fp : List Addr), PE (X.blk s H scope (compEnvC scope cl C X.env) fp) kx (lowE X.K en tk)
  v : ∀ (s : Shared) (H : Hp) (C : Addr) (cl : List (Str × Addr)) (fp : List Addr), PE (X.blk s H scope (compEnvC scope cl C X.env) fp) vx (lowE X.K en tv)
theorem ve_dc {kx vx tg iter : Expr} {ifs : List Expr} {scope : Scope} {own : List (Str × Nat)} {pos : Pos} {w : RI} {t : Tg} {tt : RT} {tk tv : RE} (hc : X.calm = true) (hu : X.A.units < cLine) (hN : X.N.Nodup) (hi : VI X en tg iter w) (ok : BlkOk X.N X.env.scope scope own)
    (lk : DcOk X en kx vx tg ifs scope t tt tk tv) (hm : ∀ i ∈ t.is, i ∈ own.map (·.2)) (hs : ∀ x, foldedSetIterable iter X.env x = pure x := by intro _; rfl) :
    VE X en (.DictComp kx vx [⟨tg, iter, ifs, 0⟩] scope pos) (eDc w t.R tt tk tv (own.map (·.2))) :=
  PE.imp (pe_dcT hc hu hN hi ok ⟨lk.g, lk.t, lk.k, lk.v⟩ hs) fun σ H Q h => by
    obtain ⟨τ, S, Q0, hs, ho, q, k⟩ := h
    exact low_dc hs ho hm q fun kvs S2 p ws H' z n e zl r g gp o => k _ _ _ _ (z p n) (gp _) (by simp only [Rp]) ⟨fun a o' ha => by
      by_cases h : a = p
      · subst h; rw [put_same] at ha; cases ha; exact ⟨_, e, ws, rfl, zl, r⟩
      · rw [put_ne h] at ha; exact o.so a o' ha, by
          have := ho.en
          exact this.trans (gp _)⟩
/-- by an invariant over the turn's number and what is made so far -/
theorem dc_inv {ok : Sto → Prop} {g : RG} {tk tv : RE} {τw : VS} {items : List D} {S : Sto} {Q : List (List Int × D) → Sto → Prop} (I : Nat → List (List Int × D) → Sto → Prop) (h0 : I 0 [] S) (hok : ∀ i acc S, I i acc S → ok S)
    (hs : ∀ i x acc S (K' : D → D → Sto → Prop), items[i]? = some x → I i acc S → (∀ ns z S5 S6, Le S6 S5 → I (i + 1) (puD acc ns z) S6 → K' (tI ns) z S5) → g x τw S fun τ2 S2 => tk τ2 S2 fun y S3 => tv τ2 S3 fun z S4 => K' y z S4)
    (hd : ∀ acc S, I items.length acc S → Q acc S) : dcR ok g tYes tk tv τw items [] S Q := by
  have main : ∀ (rest : List D) (i : Nat) (acc : List (List Int × D)) (S : Sto), items.drop i = rest → i ≤ items.length → I i acc S → dcR ok g tYes tk tv τw rest acc S Q := by
    intro rest
    induction rest with
    | nil =>
      intro i acc S e hi h
      have : i = items.length := by
        have := congrArg List.length e
        rw [List.length_drop, List.length_nil] at this
        omega
      subst this
      exact ⟨hok _ _ _ h, hd _ _ h⟩
    | cons x r ih =>
      intro i acc S e hi h
      obtain ⟨hx, er, hlt⟩ := VZ.drop_cons e
      exact ⟨hok _ _ _ h, hs i x acc S (fun y z S5 => ∃ (ns : List Int) (S6 : Sto), y = tI ns ∧ Le S6 S5 ∧ dcR ok g tYes tk tv τw r (puD acc ns z) S6 Q) hx h fun ns z S5 S6 l h6 => ⟨ns, S6, rfl, l, ih (i + 1) _ S6 er hlt h6⟩⟩
  exact main items 0 [] S rfl (Nat.zero_le _) h0
end
end VL
/-! VZ7: enumerate of a list or a tuple. -/
namespace VZ
open PySem PySem.Spec PyProof.Rows L2
open PySem.AutoSeq1 (wpAny_loadPart')
theorem enum_new (q : Sq) : Meets (Builtin.«enumerate.__new__» ⟨[.type "enumerate", .ref q.l], []⟩) (fun _ R s => q.At s.heap ∧
      R (.ok (.ret (.ref (s.heap.push q.obj).objs.size))) { s with heap := (s.heap.push q.obj).push { cls := .type "enumerate", data := .fields #[.none, .bool false, .ref s.heap.objs.size, rawInt 0, .none, .none] } }) :=
  .of_wp fun prog w A R s h => by
    obtain ⟨hl, h⟩ := h
    have hsub := sub_enumerate
    have it : ∀ {A : Around} {Q : Value → Shared → Prop} {E : Value → Shared → Prop}, Q (.ref s.heap.objs.size) { s with heap := s.heap.push q.obj } → wpAny (model prog w) A (pyIter (.ref q.l)) Q E s := fun hq => iter_sq hl hq
    wp_walk
    refine wpAny_stack_any fun st => wpAny_pure ?_
    split
    · rename_i c _ _ _ _ _
      cases (c == Value.type "enumerate")
      · wp_walk using it
        exact ⟨_, rfl, h⟩
      · wp_walk using it
        exact ⟨_, rfl, h⟩
    · wp_walk using it
      exact ⟨_, rfl, h⟩
section
variable {prog : Program} {w : World} {A : Around} {E : Value → Shared → Prop} {s : Shared}
theorem call_enum {q : Sq} {Q : Value → Shared → Prop} (hl : q.At s.heap)
    (h : ∀ h', IsEnum h' (s.heap.objs.size + 1) s.heap.objs.size 0 .none → q.It h' s.heap.objs.size 0 → (∀ b o, s.heap.get? b = some o → h'.get? b = some o) → Q (.ref (s.heap.objs.size + 1)) { s with heap := h' }) :
    wpAny (model prog w) A (call (.type "enumerate") [.ref q.l]) Q E s := by
  refine callType_new F.called_enumerate (by decide) (F.typeCall_enumerate_1 _) (F.newCall_enumerate_1 _) (fun obj => F.args_object_init_2 obj _) F.entry_enumerate_new (enum_new q) ⟨hl, ?_⟩
  have hz : (s.heap.push q.obj).objs.size = s.heap.objs.size + 1 := Heap.size_push ..
  have he : IsEnum ((s.heap.push q.obj).push { cls := .type "enumerate", data := .fields #[.none, .bool false, .ref s.heap.objs.size, rawInt 0, .none, .none] }) (s.heap.objs.size + 1) s.heap.objs.size 0 .none := by
    show Heap.get? _ _ = _
    rw [← hz]; exact Heap.get?_push_size _ rfl
  show _ ∧ _
  rw [hz]
  exact ⟨⟨_, he, rfl⟩, h _ he (Sq.it_new (Heap.get?_push_of_some _ (Heap.get?_push_size _ rfl))) fun b o x => Heap.get?_push_of_some _ (Heap.get?_push_of_some _ x)⟩
theorem enum_next {q : Sq} {e it : Addr} {i : Nat} {x old : Value} {Q : Value → Shared → Prop} (he : IsEnum s.heap e it i old) (hit : q.It s.heap it i) (hl : q.At s.heap) (hx : q.xs[i]? = some x) (hne : e ≠ it)
    (hQ : ∀ h', IsEnumOut h' e it ((i : Int) + 1) x s.heap.objs.size → q.It h' it (i + 1) → h'.get? s.heap.objs.size = some { cls := .type "tuple", data := .seq #[.int i s.toks, x] } →
      (∀ b o, b ≠ e → b ≠ it → s.heap.get? b = some o → h'.get? b = some o) → Q (.ref s.heap.objs.size) { s with heap := h', toks := s.toks + 1 }) :
    wpAny (model prog w) A (Builtin.«enumerate.__next__» ⟨[.ref e], []⟩) (fun fin s' => ∃ v, fin = .done (.ret v) ∧ Q v s') E s := by
  have hel : e < s.heap.objs.size := Heap.lt_size he
  have hil : it < s.heap.objs.size := by obtain ⟨_, e, _⟩ := Sq.it_lt hit; exact Heap.lt_size e
  show wpAny _ _ (field (.ref e) 2 >>= _) _ _ _
  refine wpAny_bind (wpAny_field he rfl (x := .ref it) rfl ?_)
  refine wpAny_bind (draw_item hit hl hx fun h₁ it₁ s₁ => ?_)
  have e₁ : IsEnum h₁ e it i old := (s₁.2 e hne).trans he
  show wpAny _ _ (field (.ref e) 3 >>= _) _ _ { s with heap := h₁ }
  refine wpAny_bind (wpAny_field e₁ rfl (x := rawInt i) rfl ?_)
  show wpAny _ _ (field (.ref e) 4 >>= _) _ _ { s with heap := h₁ }
  refine wpAny_bind (wpAny_field e₁ rfl (x := .none) rfl ?_)
  show wpAny _ _ (mkInt i >>= _) _ _ { s with heap := h₁ }
  refine wpAny_bind (wpAny_mkInt ?_)
  show wpAny _ _ (setField (.ref e) 3 (rawInt ((i : Int) + 1)) >>= _) _ _ { s with heap := h₁, toks := s.toks + 1 }
  refine wpAny_bind (wpAny_setField_rec e₁ (by simp) fun h₂ e₂ s₂ => ?_)
  replace e₂ : IsEnum h₂ e it ((i : Int) + 1) old := e₂
  replace s₂ : Heap.SameBut e h₁ h₂ := s₂
  show wpAny _ _ (setField (.ref e) 4 .none >>= _) _ _ { s with heap := h₂, toks := s.toks + 1 }
  refine wpAny_bind (wpAny_setField_rec e₂ (by simp) fun h₃ e₃ s₃ => ?_)
  replace e₃ : IsEnum h₃ e it ((i : Int) + 1) old := e₃
  replace s₃ : Heap.SameBut e h₂ h₃ := s₃
  show wpAny _ _ (newTuple [.int i s.toks, x] >>= _) _ _ { s with heap := h₃, toks := s.toks + 1 }
  refine wpAny_bind (wpAny_newTuple ?_)
  have hsz : h₃.objs.size = s.heap.objs.size := by rw [s₃.1, s₂.1, s₁.1]
  have e₄ : IsEnum (h₃.push { cls := .type "tuple", data := .seq #[.int i s.toks, x] }) e it ((i : Int) + 1) old := Heap.get?_push_of_some _ e₃
  have t₄ : (h₃.push { cls := .type "tuple", data := .seq #[.int i s.toks, x] }).get? s.heap.objs.size = some { cls := .type "tuple", data := .seq #[.int i s.toks, x] } := by rw [← hsz]; exact Heap.get?_push_size _ rfl
  have k₄ : ∀ b o, b ≠ e → b ≠ it → s.heap.get? b = some o → (h₃.push { cls := .type "tuple", data := .seq #[.int i s.toks, x] }).get? b = some o := fun b o hb hi x => Heap.get?_push_of_some _ ((s₃.2 b hb).trans ((s₂.2 b hb).trans ((s₁.2 b hi).trans x)))
  have i₄ : q.It (h₃.push { cls := .type "tuple", data := .seq #[.int i s.toks, x] }) it (i + 1) := Sq.it_of it₁ fun o x => Heap.get?_push_of_some _ ((s₃.2 it (Ne.symm hne)).trans ((s₂.2 it (Ne.symm hne)).trans x))
  generalize h₃.push { cls := .type "tuple", data := .seq #[.int i s.toks, x] } = h₄ at e₄ t₄ k₄ i₄ ⊢
  show wpAny _ _ (Builtin.SmallTypes.ownedTupleIsFree (.ref e) >>= _) _ _ { s with heap := h₄, toks := s.toks + 1 }
  rw [show h₃.objs.size = s.heap.objs.size from hsz]
  refine wpAny_bind ?_
  unfold Builtin.SmallTypes.ownedTupleIsFree
  refine wpAny_bind (wpAny_field e₄ rfl (x := .none) rfl (wpAny_pure ?_))
  simp only [if_true]
  refine wpAny_bind (wpAny_rule ?_)
  refine wpAny_bind (wpAny_field e₄ rfl (x := old) rfl ?_)
  refine wpAny_bind (wpAny_setField_rec e₄ (by simp) fun h₅ e₅ s₅ => ?_)
  replace e₅ : IsEnum h₅ e it ((i : Int) + 1) x := e₅
  replace s₅ : Heap.SameBut e h₄ h₅ := s₅
  show wpAny _ _ (Builtin.SmallTypes.ownedTupleHandOut (.ref e) (.ref s.heap.objs.size) >>= _) _ _ { s with heap := h₅, toks := s.toks + 1 }
  refine wpAny_bind ?_
  unfold Builtin.SmallTypes.ownedTupleHandOut
  refine wpAny_bind (wpAny_setField_rec e₅ (by simp) fun h₆ e₆ s₆ => ?_)
  replace e₆ : IsEnumOut h₆ e it ((i : Int) + 1) x s.heap.objs.size := e₆
  replace s₆ : Heap.SameBut e h₅ h₆ := s₆
  refine wpAny_setField_rec e₆ (by simp) fun h₇ e₇ s₇ => ?_
  replace e₇ : IsEnumOut h₇ e it ((i : Int) + 1) x s.heap.objs.size := e₇
  replace s₇ : Heap.SameBut e h₆ h₇ := s₇
  have up : ∀ b o, b ≠ e → h₄.get? b = some o → h₇.get? b = some o := fun b o hb x => (s₇.2 b hb).trans ((s₆.2 b hb).trans ((s₅.2 b hb).trans x))
  exact wpAny_bind (wpAny_letGo (wpAny_pure ⟨_, rfl, hQ h₇ e₇ (Sq.it_of i₄ fun o x => up _ o (Ne.symm hne) x) (up _ _ (Nat.ne_of_gt hel) t₄) fun b o hb hi x => up b o hb (k₄ b o hb hi x)⟩))
theorem enum_item {q : Sq} {e it : Addr} {i : Nat} {x old : Value} {Q : Option Value → Shared → Prop} (he : IsEnum s.heap e it i old) (hit : q.It s.heap it i) (hl : q.At s.heap) (hx : q.xs[i]? = some x) (hne : e ≠ it)
    (hQ : ∀ h', IsEnumOut h' e it ((i : Int) + 1) x s.heap.objs.size → q.It h' it (i + 1) → h'.get? s.heap.objs.size = some { cls := .type "tuple", data := .seq #[.int i s.toks, x] } →
      (∀ b o, b ≠ e → b ≠ it → s.heap.get? b = some o → h'.get? b = some o) → Q (some (.ref s.heap.objs.size)) { s with heap := h', toks := s.toks + 1 }) :
    wpAny (model prog w) A (pyNext (.ref e)) Q E s := by
  have hT : s.TypeIs (.ref e) "enumerate" := ⟨_, he, rfl⟩
  unfold pyNext
  exact wpAny_bind (wpAny_attempt (wpAny_callSpecial?_slot (name := Str.ofString "__next__") hT F.slot_enumerate_next
    (wpAny_call_entry F.slot_enumerate_next hT F.entry_enumerate_next (enum_next he hit hl hx hne fun h' a b c k => wpAny_pure (hQ h' a b c k)) (F.args_enumerate_next_1 _))))
theorem enum_end {q : Sq} {e it : Addr} {i : Nat} {old : Value} {Q : Option Value → Shared → Prop} (hh : A.handled = none) (he : IsEnum s.heap e it i old) (hit : q.It s.heap it i) (hl : q.At s.heap) (hx : q.xs[i]? = none)
    (hQ : ∀ h', Heap.ExtBut it s.heap h' → Q none { s with heap := h' }) : wpAny (model prog w) A (pyNext (.ref e)) Q E s := by
  have hT : s.TypeIs (.ref e) "enumerate" := ⟨_, he, rfl⟩
  unfold pyNext
  refine wpAny_bind (wpAny_attempt (wpAny_callSpecial?_slot (name := Str.ofString "__next__") hT F.slot_enumerate_next (wpAny_call_entry F.slot_enumerate_next hT F.entry_enumerate_next ?_ (F.args_enumerate_next_1 _))))
  show wpAny _ _ (field (.ref e) 2 >>= _) _ _ _
  refine wpAny_bind (wpAny_field he rfl (x := .ref it) rfl (wpAny_bind (draw_end hh hit hl hx fun h' x k ⟨o, ho, hc⟩ => ?_)))
  exact wpAny_bind (wpAny_isInstance (T := "StopIteration") (b := true) ⟨o, ho, hc⟩ isSubtype_stop (wpAny_pure (hQ _ k)))
end
def ItE (K : PySem.W.Frag) (p : Bool × Addr) : It :=
  ⟨fun i H => ∃ vs, SqB K H p vs ∧ i < vs.length, fun i H v H' => ∃ T x, v = .ref T ∧ H T = none ∧ H' = upd H T (.tup [.int (i : Nat), x]) ∧ ∀ vs, SqB K H p vs → vs[i]? = some x, fun i H => ∃ vs, SqB K H p vs ∧ vs.length ≤ i⟩
theorem turn_enumE {P : Program} {w : World} {K : PySem.W.Frag} {elts : List Expr} {kk : Nat} {tpos : Pos} (p : Bool × Addr) (e it : Addr) :
    Turn P w K (.Tuple elts kk tpos) (ItE K p) [e, it] e (fun i h => (∃ old, IsEnum h e it ((i : Nat) : Int) old) ∧ Sq.It ⟨p.1, p.2, #[]⟩ h it i ∧ e ≠ it) where
  mem := List.mem_cons_self
  obj := fun i h ⟨⟨old, he⟩, hi, _⟩ b hb => by
    simp only [List.mem_cons, List.not_mem_nil, or_false] at hb
    rcases hb with rfl | rfl
    · exact ⟨_, he, fun v q => nomatch q⟩
    · obtain ⟨o, e, vs, d⟩ := Sq.it_lt hi
      exact ⟨o, e, fun v q => by rw [d] at q; cases q⟩
  keep := fun i h h' ⟨⟨old, he⟩, hi, hne⟩ k => ⟨⟨old, k e List.mem_cons_self _ he⟩, Sq.it_of hi fun o q => k it (List.mem_cons_of_mem _ List.mem_cons_self) o q, hne⟩
  item := by
    intro X hP hw hK hc i pins s σ H E I hf st hg
    subst hP hw hK
    obtain ⟨⟨old, he⟩, hit, hne⟩ := st
    obtain ⟨vs, hv, hi⟩ := hg
    obtain ⟨its, rv, ha⟩ := one_sq I hv
    obtain ⟨u, hu, ru⟩ := rv.get (List.getElem?_eq_getElem hi)
    have hel : e < s.heap.objs.size := Heap.lt_size he
    have hil : it < s.heap.objs.size := by obtain ⟨_, q, _⟩ := Sq.it_lt hit; exact Heap.lt_size q
    refine enum_item (q := ⟨p.1, p.2, its.toArray⟩) he hit ha (x := u) (by simpa using hu) hne fun h' ho hit' hT hk => ?_
    refine ⟨_, rfl, wpAny_letOwnedTupleGo_enum (s := { s with heap := h', toks := s.toks + 1 }) ho fun h'' he' sb => ?_⟩
    have hT2 : h''.get? s.heap.objs.size = some { cls := .type "tuple", data := .seq #[.int i s.toks, u] } := (sb.2 _ (Nat.ne_of_gt hel)).trans hT
    have new : ObjOk X.prog X.w (upd H s.heap.objs.size (.tup [.int (i : Nat), vs[i]])) h'' s.heap.objs.size (.tup [.int (i : Nat), vs[i]]) := ⟨by show 2 ≤ sizeLine; decide, [.int i s.toks, u], .cons ⟨_, rfl⟩ (.cons ru .nil), ⟨_, hT2, rfl, _, rfl⟩⟩
    have I1 : Inv X pins σ (upd H s.heap.objs.size (.tup [.int (i : Nat), vs[i]])) { s with heap := h'', toks := s.toks + 1 } :=
      I.turnedNew (ch := [e, it]) (fun b ob hb q => (sb.2 b (fun z => hb (by simp [z]))).trans (hk b ob (fun z => hb (by simp [z])) (fun z => hb (by simp [z])) q)) hf (Nat.le_refl _) new
    refine ⟨.ref s.heap.objs.size, _, I1, rfl, ⟨_, vs[i], rfl, I.hok.fresh (Nat.le_refl _), rfl, fun ys hy => by rw [sq_inj I hy hv]; exact List.getElem?_eq_getElem hi⟩, ⟨⟨u, ?_⟩, Sq.it_of hit' fun o q => (sb.2 it (Ne.symm hne)).trans q, hne⟩, fun b hb => ?_⟩
    · rw [show ((i + 1 : Nat) : Int) = (i : Int) + 1 from by omega]; exact he'
    · have hb' : b < s.heap.objs.size := by
        simp only [List.mem_cons, List.not_mem_nil, or_false] at hb
        rcases hb with rfl | rfl
        · exact hel
        · exact hil
      rw [upd_ne (Nat.ne_of_lt hb')]
      exact (hf b hb).1
  done := by
    intro X hP hw hK hc i pins s σ H E I hf st hg
    subst hP hw hK
    obtain ⟨⟨old, he⟩, hit, hne⟩ := st
    obtain ⟨vs, hv, hi⟩ := hg
    obtain ⟨its, rv, ha⟩ := one_sq I hv
    have hl := rv.length
    refine enum_end (q := ⟨p.1, p.2, its.toArray⟩) (I.ok.hd hc) he hit ha (by simp; omega) fun h' eb => ⟨rfl, I.turnedL (t' := s.toks) (ch := [e, it]) (fun b o hb q => eb b o (fun z => hb (by simp [z])) q) hf⟩
  self := fun A i s Q E st h => let ⟨⟨_, he⟩, _⟩ := st; wpAny_pyIter_enum he h
def iEnumE (K : PySem.W.Frag) (ta : TA) : TI := fun σ H R => ta σ H fun vs H1 => ∃ p xs, vs = [.ref p.2] ∧ SqB K H1 p xs ∧ R (ItE K p) H1
theorem pi_enumE {X : Cx} {e : Expr} {ta : TA} {p pos tpos : Pos} {elts : List Expr} {kk : Nat} (hg : Gl X "enumerate") (hm : X.mg "enumerate" = none) (ha : PA X [e] ta) (hs : starEach [e] X.env = [(false, eval e X.env)] := by rfl) :
    PI X (.Tuple elts kk tpos) (.Call (.Name "enumerate" p) [e] [] pos) (iEnumE X.K ta) := by
  refine ⟨fun pins s σ H R I h => ?_⟩
  refine Call_ (ld_blt I hg hm boot_enumerate (PyProof.Rows.callWith_type1 (thn (ha.run pos pins s σ H _ I h) fun us s1 ⟨vs, H1, I1, r1, q1⟩ => ?_) hs rfl))
  obtain ⟨p, xs, rfl, hq, q⟩ := q1
  cases r1 with
  | cons r rr =>
    cases rr
    cases r
    obtain ⟨its, rv, ha2⟩ := one_sq I1 hq
    refine call_enum (q := ⟨p.1, p.2, its.toArray⟩) ha2 fun h' he hit hk => wpAny_pyIter_enum he ?_
    have I2 : Inv X pins σ H1 { s1 with heap := h' } := I1.kept (t' := s1.toks) hk
    refine ⟨s1.heap.objs.size + 1, [s1.heap.objs.size + 1, s1.heap.objs.size], _, _, H1, rfl, I2, turn_enumE p (s1.heap.objs.size + 1) s1.heap.objs.size, ⟨⟨.none, he⟩, hit, Nat.succ_ne_self _⟩, fun b hb => ?_, q⟩
    have hle : s1.heap.objs.size ≤ b := by
      simp only [List.mem_cons, List.not_mem_nil, or_false] at hb
      rcases hb with rfl | rfl
      · exact Nat.le_succ _
      · exact Nat.le_refl _
    exact I1.fpOk hle (I1.hok.fresh hle)
end VZ
/-! VL19: enumerate at the value level; a def that calls itself. -/
namespace VL
open PySem PySem.Spec PyProof.Rows L2 VZ
def enumD (xs : List D) : List D := (List.range xs.length).map fun (i : Nat) => D.tup [.int i, xs.getD i .non]
theorem enumD_len (xs : List D) : (enumD xs).length = xs.length := by unfold enumD; rw [List.length_map, List.length_range]
theorem enumD_at {xs : List D} {i : Nat} {d : D} (h : (enumD xs)[i]? = some d) : ∃ x, xs[i]? = some x ∧ d = .tup [.int i, x] := by
  have hi : i < xs.length := by have := (List.getElem?_eq_some_iff.mp h).1; rw [enumD_len] at this; exact this
  unfold enumD at h
  rw [List.getElem?_map, List.getElem?_range hi] at h
  refine ⟨xs[i], List.getElem?_eq_getElem hi, ?_⟩
  have e : d = D.tup [.int (i : Int), xs.getD i .non] := (Option.some.inj h).symm
  rw [e, List.getD_eq_getElem?_getD, List.getElem?_eq_getElem hi]; rfl
def iEnum (ts : List RE) : RI := fun τ S R => eArgs ts τ S fun ds S1 => match ds with
  | [d] => ∃ xs, itemsD S1 d xs ∧ R ⟨enumD xs, fun S => itemsD S d xs⟩ S1
  | _ => False
section
variable {X : Cx} {en : Ent}
theorem vi_enum {e : Expr} {ts : List RE} {p pos tpos : Pos} {elts : List Expr} {kk : Nat} (hg : Gl X "enumerate") (hm : X.mg "enumerate" = none) (ha : VA X en [e] ts) (hs : starEach [e] X.env = [(false, eval e X.env)] := by rfl) :
    VI X en (.Tuple elts kk tpos) (.Call (.Name "enumerate" p) [e] [] pos) (iEnum ts) := PI.imp (pi_enumE hg hm ha.1 hs) fun σ H R h => by
  obtain ⟨τ, S, R0, hs, ho, q, k⟩ := h
  refine args_ok hs ho q fun ds S' vs H' q' g r hz o => ?_
  split at q'
  · rename_i d
    obtain ⟨xs, hi, q'⟩ := q'
    simp only [Rps] at r
    obtain ⟨v, w, rfl, r1, rfl⟩ := r
    obtain ⟨p, rfl, hz2, f⟩ := one_low r1 o.so hi
    obtain ⟨vs, hv, _⟩ := f H' S' (TL.refl _) o.so hi
    refine ⟨p, vs, rfl, hv, k _ _ _ _ q' g o ⟨?_, fun i H2 S2 t o2 ok hi => ?_, fun i H2 S2 x H3 d' t o2 ok e2 y => ?_, fun i H2 S2 t o2 ok hi => ?_⟩⟩
    · show (enumD xs).length ≤ _
      rw [enumD_len]; exact hz2
    · obtain ⟨vs2, hv2, r2⟩ := f H2 S2 t o2 ok
      have hi : i < (enumD xs).length := hi
      rw [enumD_len] at hi
      exact ⟨vs2, hv2, by rw [← r2.length]; exact hi⟩
    · obtain ⟨T, u, rfl, hT, rfl, hy⟩ := y
      obtain ⟨x, hx, rfl⟩ := enumD_at e2
      obtain ⟨vs2, hv2, r2⟩ := f H2 S2 t o2 ok
      obtain ⟨v', h1, h2⟩ := r2.get hx
      rw [hy vs2 hv2] at h1
      cases h1
      refine ⟨Go.new' hT, o2.new' hT, ?_⟩
      simp only [Rp]
      exact ⟨T, _, rfl, upd_same, by show 2 ≤ sizeLine; decide, Rps.mono (TL.new hT) _ _ (Rps.cons (by simp only [Rp]) (Rps.one h2))⟩
    · obtain ⟨vs2, hv2, r2⟩ := f H2 S2 t o2 ok
      have hi : (enumD xs).length ≤ i := hi
      rw [enumD_len] at hi
      exact ⟨vs2, hv2, by rw [← r2.length]; exact hi⟩
  · exact q'.elim
/-- a promise that nothing asks -/
theorem fnFalse {P : Program} {w : World} {K : PySem.W.Frag} {mg : Str → Option Value} {base : Heap} {k : Nat} {f : Addr} {fd : FuncData} {ps : List Str} {sp : SpV} (no : ∀ ds S Q E, ¬ sp ds S Q E) : FnOk P w K mg base CX0 k f fd ps (lowSp K sp) :=
  ⟨fun vs H Q E h => by obtain ⟨ds, S, Q0, E0, _, _, h, _⟩ := h; exact (no _ _ _ _ h).elim, fun A outer s H args us vs Q E _ _ _ _ h => by obtain ⟨ds, S, Q0, E0, _, _, h, _⟩ := h; exact (no _ _ _ _ h).elim⟩
end
end VL
/-! VL20: isinstance of a known value; two values of one shape and content. -/
namespace VL
open PySem PySem.Spec PyProof.Rows L2
section
variable {S : Sto} {Q : KE}
theorem ci_non_bool : cIsi [.non, .oth (.ty "bool")] S Q = Q (.bl false) S := propext ⟨fun ⟨t, h1, _, h⟩ => by cases (show t = "NoneType" from h1); exact h, fun h => ⟨"NoneType", rfl, by decide, h⟩⟩
theorem ci_non_int : cIsi [.non, .oth (.ty "int")] S Q = Q (.bl false) S := propext ⟨fun ⟨t, h1, _, h⟩ => by cases (show t = "NoneType" from h1); exact h, fun h => ⟨"NoneType", rfl, by decide, h⟩⟩
theorem ci_non_str : cIsi [.non, .oth (.ty "str")] S Q = Q (.bl false) S := propext ⟨fun ⟨t, h1, _, h⟩ => by cases (show t = "NoneType" from h1); exact h, fun h => ⟨"NoneType", rfl, by decide, h⟩⟩
theorem ci_non_list : cIsi [.non, .oth (.ty "list")] S Q = Q (.bl false) S := propext ⟨fun ⟨t, h1, _, h⟩ => by cases (show t = "NoneType" from h1); exact h, fun h => ⟨"NoneType", rfl, by decide, h⟩⟩
theorem ci_non_tuple : cIsi [.non, .oth (.ty "tuple")] S Q = Q (.bl false) S := propext ⟨fun ⟨t, h1, _, h⟩ => by cases (show t = "NoneType" from h1); exact h, fun h => ⟨"NoneType", rfl, by decide, h⟩⟩
theorem ci_non_dict : cIsi [.non, .oth (.ty "dict")] S Q = Q (.bl false) S := propext ⟨fun ⟨t, h1, _, h⟩ => by cases (show t = "NoneType" from h1); exact h, fun h => ⟨"NoneType", rfl, by decide, h⟩⟩
theorem ci_bl_bool {b : Bool} : cIsi [.bl b, .oth (.ty "bool")] S Q = Q (.bl true) S := propext ⟨fun ⟨t, h1, _, h⟩ => by cases (show t = "bool" from h1); exact h, fun h => ⟨"bool", rfl, by decide, h⟩⟩
theorem ci_bl_int {b : Bool} : cIsi [.bl b, .oth (.ty "int")] S Q = Q (.bl true) S := propext ⟨fun ⟨t, h1, _, h⟩ => by cases (show t = "bool" from h1); exact h, fun h => ⟨"bool", rfl, by decide, h⟩⟩
theorem ci_bl_str {b : Bool} : cIsi [.bl b, .oth (.ty "str")] S Q = Q (.bl false) S := propext ⟨fun ⟨t, h1, _, h⟩ => by cases (show t = "bool" from h1); exact h, fun h => ⟨"bool", rfl, by decide, h⟩⟩
theorem ci_bl_list {b : Bool} : cIsi [.bl b, .oth (.ty "list")] S Q = Q (.bl false) S := propext ⟨fun ⟨t, h1, _, h⟩ => by cases (show t = "bool" from h1); exact h, fun h => ⟨"bool", rfl, by decide, h⟩⟩
theorem ci_bl_tuple {b : Bool} : cIsi [.bl b, .oth (.ty "tuple")] S Q = Q (.bl false) S := propext ⟨fun ⟨t, h1, _, h⟩ => by cases (show t = "bool" from h1); exact h, fun h => ⟨"bool", rfl, by decide, h⟩⟩
theorem ci_bl_dict {b : Bool} : cIsi [.bl b, .oth (.ty "dict")] S Q = Q (.bl false) S := propext ⟨fun ⟨t, h1, _, h⟩ => by cases (show t = "bool" from h1); exact h, fun h => ⟨"bool", rfl, by decide, h⟩⟩
theorem ci_int_bool {i : Int} : cIsi [.int i, .oth (.ty "bool")] S Q = Q (.bl false) S := propext ⟨fun ⟨t, h1, _, h⟩ => by cases (show t = "int" from h1); exact h, fun h => ⟨"int", rfl, by decide, h⟩⟩
theorem ci_int_int {i : Int} : cIsi [.int i, .oth (.ty "int")] S Q = Q (.bl true) S := propext ⟨fun ⟨t, h1, _, h⟩ => by cases (show t = "int" from h1); exact h, fun h => ⟨"int", rfl, by decide, h⟩⟩
theorem ci_int_str {i : Int} : cIsi [.int i, .oth (.ty "str")] S Q = Q (.bl false) S := propext ⟨fun ⟨t, h1, _, h⟩ => by cases (show t = "int" from h1); exact h, fun h => ⟨"int", rfl, by decide, h⟩⟩
theorem ci_int_list {i : Int} : cIsi [.int i, .oth (.ty "list")] S Q = Q (.bl false) S := propext ⟨fun ⟨t, h1, _, h⟩ => by cases (show t = "int" from h1); exact h, fun h => ⟨"int", rfl, by decide, h⟩⟩
theorem ci_int_tuple {i : Int} : cIsi [.int i, .oth (.ty "tuple")] S Q = Q (.bl false) S := propext ⟨fun ⟨t, h1, _, h⟩ => by cases (show t = "int" from h1); exact h, fun h => ⟨"int", rfl, by decide, h⟩⟩
theorem ci_int_dict {i : Int} : cIsi [.int i, .oth (.ty "dict")] S Q = Q (.bl false) S := propext ⟨fun ⟨t, h1, _, h⟩ => by cases (show t = "int" from h1); exact h, fun h => ⟨"int", rfl, by decide, h⟩⟩
theorem ci_str_bool {z : Str} : cIsi [.str z, .oth (.ty "bool")] S Q = Q (.bl false) S := propext ⟨fun ⟨t, h1, _, h⟩ => by cases (show t = "str" from h1); exact h, fun h => ⟨"str", rfl, by decide, h⟩⟩
theorem ci_str_int {z : Str} : cIsi [.str z, .oth (.ty "int")] S Q = Q (.bl false) S := propext ⟨fun ⟨t, h1, _, h⟩ => by cases (show t = "str" from h1); exact h, fun h => ⟨"str", rfl, by decide, h⟩⟩
theorem ci_str_str {z : Str} : cIsi [.str z, .oth (.ty "str")] S Q = Q (.bl true) S := propext ⟨fun ⟨t, h1, _, h⟩ => by cases (show t = "str" from h1); exact h, fun h => ⟨"str", rfl, by decide, h⟩⟩
theorem ci_str_list {z : Str} : cIsi [.str z, .oth (.ty "list")] S Q = Q (.bl false) S := propext ⟨fun ⟨t, h1, _, h⟩ => by cases (show t = "str" from h1); exact h, fun h => ⟨"str", rfl, by decide, h⟩⟩
theorem ci_str_tuple {z : Str} : cIsi [.str z, .oth (.ty "tuple")] S Q = Q (.bl false) S := propext ⟨fun ⟨t, h1, _, h⟩ => by cases (show t = "str" from h1); exact h, fun h => ⟨"str", rfl, by decide, h⟩⟩
theorem ci_str_dict {z : Str} : cIsi [.str z, .oth (.ty "dict")] S Q = Q (.bl false) S := propext ⟨fun ⟨t, h1, _, h⟩ => by cases (show t = "str" from h1); exact h, fun h => ⟨"str", rfl, by decide, h⟩⟩
theorem ci_tup_bool {xs : List D} : cIsi [.tup xs, .oth (.ty "bool")] S Q = Q (.bl false) S := propext ⟨fun ⟨t, h1, _, h⟩ => by cases (show t = "tuple" from h1); exact h, fun h => ⟨"tuple", rfl, by decide, h⟩⟩
theorem ci_tup_int {xs : List D} : cIsi [.tup xs, .oth (.ty "int")] S Q = Q (.bl false) S := propext ⟨fun ⟨t, h1, _, h⟩ => by cases (show t = "tuple" from h1); exact h, fun h => ⟨"tuple", rfl, by decide, h⟩⟩
theorem ci_tup_str {xs : List D} : cIsi [.tup xs, .oth (.ty "str")] S Q = Q (.bl false) S := propext ⟨fun ⟨t, h1, _, h⟩ => by cases (show t = "tuple" from h1); exact h, fun h => ⟨"tuple", rfl, by decide, h⟩⟩
theorem ci_tup_list {xs : List D} : cIsi [.tup xs, .oth (.ty "list")] S Q = Q (.bl false) S := propext ⟨fun ⟨t, h1, _, h⟩ => by cases (show t = "tuple" from h1); exact h, fun h => ⟨"tuple", rfl, by decide, h⟩⟩
theorem ci_tup_tuple {xs : List D} : cIsi [.tup xs, .oth (.ty "tuple")] S Q = Q (.bl true) S := propext ⟨fun ⟨t, h1, _, h⟩ => by cases (show t = "tuple" from h1); exact h, fun h => ⟨"tuple", rfl, by decide, h⟩⟩
theorem ci_tup_dict {xs : List D} : cIsi [.tup xs, .oth (.ty "dict")] S Q = Q (.bl false) S := propext ⟨fun ⟨t, h1, _, h⟩ => by cases (show t = "tuple" from h1); exact h, fun h => ⟨"tuple", rfl, by decide, h⟩⟩
theorem ci_ref {a : Addr} {xs : List D} {n : String} (h : rdL S a xs) (hn : n ∈ ["bool", "int", "str", "tuple", "list", "dict"]) (q : Q (.bl (isTy "list" n)) S) : cIsi [.ref a, .oth (.ty n)] S Q := ⟨"list", .inl ⟨⟨xs, h⟩, rfl⟩, hn, q⟩
theorem ci2_tup {xs : List D} (q : Q (.bl true) S) : cIsi2 [.tup xs, .tup [.oth (.ty "list"), .oth (.ty "tuple")]] S Q := ⟨"tuple", rfl, by decide, by decide, q⟩
theorem ci2_ref {a : Addr} {xs : List D} (h : rdL S a xs) (q : Q (.bl true) S) : cIsi2 [.ref a, .tup [.oth (.ty "list"), .oth (.ty "tuple")]] S Q := ⟨"list", .inl ⟨⟨xs, h⟩, rfl⟩, by decide, by decide, q⟩
end
/-- of one shape and content, n deep -/
inductive Sm (S : Sto) : Nat → D → D → Prop where
  | non {n : Nat} : Sm S (n + 1) .non .non
  | bl {n : Nat} (b : Bool) : Sm S (n + 1) (.bl b) (.bl b)
  | int {n : Nat} (i : Int) : Sm S (n + 1) (.int i) (.int i)
  | str {n : Nat} (z : Str) : Sm S (n + 1) (.str z) (.str z)
  | tup {n : Nat} {xs ys : List D} : List.length xs = List.length ys → (∀ (i : Nat) x y, xs[i]? = some x → ys[i]? = some y → Sm S n x y) → Sm S (n + 1) (.tup xs) (.tup ys)
  | lst {n : Nat} {a b : Addr} {xs ys : List D} : rdL S a xs → rdL S b ys → List.length xs = List.length ys → (∀ (i : Nat) x y, xs[i]? = some x → ys[i]? = some y → Sm S n x y) → Sm S (n + 1) (.ref a) (.ref b)
theorem Sm.mono {S : Sto} : ∀ {n m : Nat} {x y : D}, Sm S n x y → n ≤ m → Sm S m x y := by
  intro n m x y h
  induction h generalizing m with
  | non => intro hm; cases m with | zero => omega | succ m => exact .non
  | bl b => intro hm; cases m with | zero => omega | succ m => exact .bl b
  | int b => intro hm; cases m with | zero => omega | succ m => exact .int b
  | str b => intro hm; cases m with | zero => omega | succ m => exact .str b
  | tup hl _ ih => intro hm; cases m with | zero => omega | succ m => exact .tup hl fun i x y h1 h2 => ih i x y h1 h2 (by omega)
  | lst ha hb hl _ ih => intro hm; cases m with | zero => omega | succ m => exact .lst ha hb hl fun i x y h1 h2 => ih i x y h1 h2 (by omega)
/-- values that hold no list: a thing in itself -/
structure Flat (n : Nat) (d : D) : Prop where
  sm : ∀ S, Sm S n d d
theorem flat_int {i : Int} : Flat 1 (.int i) := ⟨fun S => .int i⟩
theorem flat_tup {n : Nat} {xs : List D} (h : ∀ x ∈ xs, Flat n x) : Flat (n + 1) (.tup xs) := ⟨fun S => .tup rfl fun i x y h1 h2 => by rw [h1] at h2; cases h2; exact (h x (List.mem_of_getElem? h1)).sm S⟩
theorem Flat.mono {n m : Nat} {d : D} (h : Flat n d) (l : n ≤ m) : Flat m d := ⟨fun S => (h.sm S).mono l⟩
theorem flat_tI (ns : List Int) : Flat 2 (tI ns) := flat_tup fun x hx => by obtain ⟨i, _, rfl⟩ := List.mem_map.mp hx; exact flat_int
theorem flat_ter (t : List Int × Int) : Flat 3 (terD t) := flat_tup fun x hx => by
  simp only [List.mem_cons, List.not_mem_nil, or_false] at hx
  rcases hx with rfl | rfl
  · exact flat_tI _
  · exact flat_int.mono (by decide)
theorem flat_sum (ts : List (List Int × Int)) : Flat 4 (sumD ts) := flat_tup fun x hx => by obtain ⟨t, _, rfl⟩ := List.mem_map.mp hx; exact flat_ter t
/-- two lists of flat values that are alike -/
theorem sm_lists {S : Sto} {a b : Addr} {xs : List D} {n : Nat} (ha : rdL S a xs) (hb : rdL S b xs) (h : ∀ x ∈ xs, Flat n x) : Sm S (n + 1) (.ref a) (.ref b) := .lst ha hb rfl fun i x y h1 h2 => by rw [h1] at h2; cases h2; exact (h x (List.mem_of_getElem? h1)).sm S
end VL
/-! VL21: dicts from tuples of ints to ints, as lists of terms; sorted keys. -/
namespace VL
open PySem PySem.Spec PyProof.Rows L2
abbrev Tr := List Int × Int
def dD (L : List Tr) : List (List Int × D) := L.map fun t => (t.1, D.int t.2)
def lkL (L : List Tr) (k : List Int) : Option Int := (L.find? fun t => decide (t.1 = k)).map (·.2)
def vaL (L : List Tr) (k : List Int) : Int := (lkL L k).getD 0
def puL (L : List Tr) (k : List Int) (v : Int) : List Tr := if (L.any fun t => decide (t.1 = k)) = true then L.map (fun t => if t.1 = k then (t.1, v) else t) else L ++ [(k, v)]
def drL (L : List Tr) (k : List Int) : List Tr := L.filter fun t => decide (t.1 ≠ k)
def keys (L : List Tr) : List (List Int) := L.map (·.1)
theorem dD_length (L : List Tr) : (dD L).length = L.length := List.length_map _
theorem dD_keys (L : List Tr) : (dD L).map (·.1) = keys L := by unfold dD keys; rw [List.map_map]; rfl
theorem lkD_dD (k : List Int) : ∀ L : List Tr, lkD (dD L) k = (lkL L k).map .int
  | [] => rfl
  | (x, v) :: r => by
    have ih := lkD_dD k r
    unfold lkD lkL dD at ih ⊢
    by_cases h : x = k
    · simp [h]
    · simpa [h] using ih
theorem any_dD (k : List Int) (L : List Tr) : ((dD L).any fun kv => decide (kv.1 = k)) = (L.any fun t => decide (t.1 = k)) := by unfold dD; rw [List.any_map]; rfl
theorem puD_dD (L : List Tr) (k : List Int) (v : Int) : puD (dD L) k (.int v) = dD (puL L k v) := by
  unfold puD puL
  rw [any_dD]
  split
  · unfold dD
    rw [List.map_map, List.map_map]
    refine List.map_congr_left fun t _ => ?_
    show (if t.1 = k then (t.1, D.int v) else (t.1, D.int t.2)) = _
    by_cases h : t.1 = k
    · simp [h]
    · simp [h]
  · unfold dD; rw [List.map_append]; rfl
theorem drD_dD (L : List Tr) (k : List Int) : drD (dD L) k = dD (drL L k) := by
  unfold drD drL dD
  rw [List.filter_map]; rfl
/-! what a list of terms tells of a key -/
theorem lkL_mem {k : List Int} : ∀ {L : List Tr}, k ∈ keys L ↔ (lkL L k).isSome = true
  | [] => by simp [keys, lkL]
  | (x, v) :: r => by
    have ih := lkL_mem (k := k) (L := r)
    unfold keys lkL at ih ⊢
    by_cases h : x = k
    · simp [h]
    · simp only [List.map_cons, List.mem_cons, List.find?_cons, h, decide_false]
      rw [← ih]
      constructor
      · rintro (z | z)
        · exact absurd z.symm h
        · exact z
      · exact fun z => .inr z
theorem lkL_none {k : List Int} {L : List Tr} (h : k ∉ keys L) : lkL L k = none := by
  cases q : lkL L k with
  | none => rfl
  | some v => exact absurd (lkL_mem.mpr (by rw [q]; rfl)) h
theorem lkL_puL (k j : List Int) (v : Int) : ∀ L : List Tr, lkL (puL L k v) j = if k = j then some v else lkL L j := by
  have up : ∀ L : List Tr, (L.any fun t => decide (t.1 = k)) = true → lkL (L.map fun t => if t.1 = k then (t.1, v) else t) j = if k = j then some v else lkL L j := by
    intro L
    induction L with
    | nil => intro h; cases h
    | cons t r ih =>
      intro h
      unfold lkL at ih ⊢
      rw [List.map_cons]
      by_cases hk : t.1 = k
      · rw [if_pos hk]
        by_cases hj : k = j
        · subst hj; simp [hk]
        · have hne : ¬ t.1 = j := fun z => hj (hk.symm.trans z)
          rw [List.find?_cons, List.find?_cons]
          simp only [hne, decide_false]
          rw [if_neg hj]
          by_cases hr : (r.any fun t => decide (t.1 = k)) = true
          · have := ih hr
            rw [if_neg hj] at this; exact this
          · have hm : (r.map fun t => if t.1 = k then (t.1, v) else t) = r := by
              rw [List.map_congr_left (g := id) fun t ht => ?_, List.map_id]
              have : ¬ t.1 = k := fun z => hr (List.any_eq_true.mpr ⟨t, ht, by simp [z]⟩)
              rw [if_neg this]; rfl
            rw [hm]
      · rw [if_neg hk]
        have hr : (r.any fun t => decide (t.1 = k)) = true := by simpa [hk] using h
        by_cases hj : t.1 = j
        · have : ¬ k = j := fun z => hk (hj.trans z.symm)
          rw [if_neg this]; simp [hj]
        · rw [List.find?_cons, List.find?_cons]
          simp only [hj, decide_false]
          exact ih hr
  intro L
  unfold puL
  split
  · rename_i h; exact up L h
  · rename_i h
    unfold lkL
    rw [List.find?_append]
    by_cases hj : k = j
    · subst hj
      have : L.find? (fun t => decide (t.1 = k)) = none := by
        rw [List.find?_eq_none]
        intro t ht z
        exact h (List.any_eq_true.mpr ⟨t, ht, z⟩)
      rw [this]; simp
    · rw [if_neg hj]
      cases q : L.find? fun t => decide (t.1 = j) with
      | none => simp [hj]
      | some t => simp
theorem keys_puL (L : List Tr) (k : List Int) (v : Int) : ∀ j, j ∈ keys (puL L k v) ↔ j = k ∨ j ∈ keys L := fun j => by
  rw [lkL_mem, lkL_mem, lkL_puL]
  by_cases h : k = j
  · simp [h]
  · have : ¬ j = k := fun z => h z.symm
    simp [h, this]
theorem lkL_drL (k j : List Int) : ∀ L : List Tr, lkL (drL L k) j = if k = j then none else lkL L j
  | [] => by simp [drL, lkL]
  | t :: r => by
    have ih := lkL_drL k j r
    unfold drL lkL at ih ⊢
    by_cases hk : t.1 = k
    · rw [List.filter_cons_of_neg (by simp [hk]), ih]
      by_cases hj : k = j
      · simp [hj]
      · have : ¬ t.1 = j := fun z => hj (hk.symm.trans z)
        simp [hj, this]
    · rw [List.filter_cons_of_pos (by simp [hk]), List.find?_cons, List.find?_cons]
      by_cases hj : t.1 = j
      · have : ¬ k = j := fun z => hk (hj.trans z.symm)
        simp [hj, this]
      · simp only [hj, decide_false]; exact ih
/-- each key once -/
def Nd (L : List Tr) : Prop := (keys L).Nodup
theorem Nd.puL {L : List Tr} (h : Nd L) (k : List Int) (v : Int) : Nd (puL L k v) := by
  unfold Nd VL.puL keys at *
  split
  · rw [List.map_map]
    have : ((fun t : Tr => t.1) ∘ fun t : Tr => if t.1 = k then (t.1, v) else t) = fun t => t.1 := by
      funext t
      show (if t.1 = k then (t.1, v) else t).1 = t.1
      split <;> rfl
    rw [this]; exact h
  · rename_i hn
    rw [List.map_append, List.nodup_append]
    refine ⟨h, by simp, fun a ha b hb => ?_⟩
    simp only [List.map_cons, List.map_nil, List.mem_singleton] at hb
    subst hb
    obtain ⟨t, ht, rfl⟩ := List.mem_map.mp ha
    intro e
    exact hn (List.any_eq_true.mpr ⟨t, ht, by simp [e]⟩)
theorem Nd.drL {L : List Tr} (h : Nd L) (k : List Int) : Nd (drL L k) := by
  unfold Nd VL.drL keys at *
  exact List.Nodup.sublist (List.Sublist.map _ List.filter_sublist) h
theorem puL_length (L : List Tr) (k : List Int) (v : Int) : (puL L k v).length ≤ L.length + 1 := by
  unfold puL
  split
  · rw [List.length_map]; omega
  · rw [List.length_append]; simp
theorem lkL_of_mem {L : List Tr} (h : Nd L) {t : Tr} (ht : t ∈ L) : lkL L t.1 = some t.2 := by
  induction L with
  | nil => cases ht
  | cons s r ih =>
    unfold Nd keys at h
    rw [List.map_cons, List.nodup_cons] at h
    unfold lkL
    rcases List.mem_cons.mp ht with rfl | ht
    · simp
    · have : ¬ s.1 = t.1 := fun z => h.1 (by rw [z]; exact List.mem_map_of_mem ht)
      rw [List.find?_cons]
      simp only [this, decide_false]
      exact ih h.2 ht
end VL
/-! VL22: the order of powers, ascending lists. -/
namespace VL
open PySem PySem.Spec PyProof.Rows L2
theorem lx_lt : ∀ a b : List Int, HT.lexLt a b = true ↔ a < b
  | [], [] => by simp [HT.lexLt]
  | [], _ :: _ => by simp [HT.lexLt]
  | _ :: _, [] => by simp [HT.lexLt]
  | x :: xs, y :: ys => by
    rw [HT.lexLt_cons, List.cons_lt_cons_iff]
    by_cases h : x = y
    · subst h
      rw [if_pos rfl, lx_lt xs ys]
      simp
    · rw [if_neg h]
      simp [h]
def Asc (l : List (List Int)) : Prop := l.Pairwise (· < ·)
theorem lt_asymm' {a b : List Int} (h : a < b) (g : b < a) : False := List.lt_irrefl a (List.lt_trans h g)
theorem le_cases (a b : List Int) : a ≤ b → a < b ∨ a = b := fun h => by
  rcases Classical.em (a < b) with e | e
  · exact .inl e
  · exact .inr (List.le_antisymm h (List.not_lt.mp e))
theorem srt_asc {l : List (List Int)} (h : l.Nodup) : Asc (srt l) := by
  have hs : (srt l).Pairwise fun a b => decide (a ≤ b) = true := List.pairwise_mergeSort (fun a b c h1 h2 => by
    simp only [decide_eq_true_eq] at h1 h2 ⊢; exact List.le_trans h1 h2) (fun a b => by
    simp only [Bool.or_eq_true, decide_eq_true_eq]; exact List.le_total a b) l
  have hn : (srt l).Nodup := (List.mergeSort_perm l _).nodup_iff.mpr h
  exact (hs.and hn).imp fun {a b} q => by
    have h1 := q.1
    simp only [decide_eq_true_eq] at h1
    rcases le_cases a b h1 with z | z
    · exact z
    · exact absurd z q.2
theorem asc_unique : ∀ {l m : List (List Int)}, Asc l → Asc m → (∀ x, x ∈ l ↔ x ∈ m) → l = m
  | [], [], _, _, _ => rfl
  | [], b :: m, _, _, h => absurd ((h b).mpr List.mem_cons_self) (by simp)
  | a :: l, [], _, _, h => absurd ((h a).mp List.mem_cons_self) (by simp)
  | a :: l, b :: m, hl, hm, h => by
    unfold Asc at hl hm
    rw [List.pairwise_cons] at hl hm
    have e : a = b := by
      rcases List.mem_cons.mp ((h a).mp List.mem_cons_self) with e | e
      · exact e
      · rcases List.mem_cons.mp ((h b).mpr List.mem_cons_self) with f | f
        · exact f.symm
        · exact (lt_asymm' (hm.1 a e) (hl.1 b f)).elim
    subst e
    rw [asc_unique hl.2 hm.2 fun x => ?_]
    constructor
    · intro hx
      rcases List.mem_cons.mp ((h x).mp (List.mem_cons_of_mem _ hx)) with e | e
      · subst e; exact absurd (hl.1 x hx) (List.lt_irrefl x)
      · exact e
    · intro hx
      rcases List.mem_cons.mp ((h x).mpr (List.mem_cons_of_mem _ hx)) with e | e
      · subst e; exact absurd (hm.1 x hx) (List.lt_irrefl x)
      · exact e
theorem asc_filter {l : List (List Int)} (h : Asc l) (p : List Int → Bool) : Asc (l.filter p) := List.Pairwise.sublist List.filter_sublist h
theorem asc_nodup {l : List (List Int)} (h : Asc l) : l.Nodup := h.imp fun {a b} q => by rintro rfl; exact List.lt_irrefl _ q
/-- the form of a sum -/
structure Fm (many : Nat) (ts : List Tr) : Prop where
  asc : Asc (keys ts)
  len : ∀ t ∈ ts, t.1.length = many
  nz : ∀ t ∈ ts, t.2 ≠ 0
/-- the form, as the program asks it -/
def okA (many : Int) : Option (List Int) → List Tr → Prop
  | _, [] => True
  | none, (p, c) :: r => (p.length : Int) = many ∧ c ≠ 0 ∧ okA many (some p) r
  | some l, (p, c) :: r => (p.length : Int) = many ∧ c ≠ 0 ∧ l < p ∧ okA many (some p) r
theorem fm_ok {many : Nat} : ∀ {ts : List Tr} {o : Option (List Int)}, Fm many ts → (∀ l, o = some l → ∀ t ∈ ts, l < t.1) → okA many o ts
  | [], o, _, _ => by cases o <;> trivial
  | (p, c) :: r, o, f, ho => by
    have ha := f.asc
    unfold Asc keys at ha
    rw [List.map_cons, List.pairwise_cons] at ha
    have fr : Fm many r := ⟨ha.2, fun t ht => f.len t (List.mem_cons_of_mem _ ht), fun t ht => f.nz t (List.mem_cons_of_mem _ ht)⟩
    have ih : okA many (some p) r := fm_ok fr fun l e t ht => by cases e; exact ha.1 t.1 (List.mem_map_of_mem ht)
    have h1 : ((p.length : Nat) : Int) = many := by have := f.len _ List.mem_cons_self; simp only at this; omega
    have h2 : c ≠ 0 := f.nz _ List.mem_cons_self
    cases o with
    | none => exact ⟨h1, h2, ih⟩
    | some l => exact ⟨h1, h2, ho l rfl _ List.mem_cons_self, ih⟩
def looksA (many : Int) : Option (List Int) → List Tr → Bool
  | _, [] => true
  | none, (p, c) :: r => if (p.length : Int) ≠ many ∨ c = 0 then false else looksA many (some p) r
  | some l, (p, c) :: r => if (p.length : Int) ≠ many ∨ c = 0 then false else if HT.lexLt l p then looksA many (some p) r else false
theorem looks_ok {many : Int} : ∀ {ts : List Tr} {o : Option (List Int)}, okA many o ts → looksA many o ts = true
  | [], o, _ => by cases o <;> rfl
  | (p, c) :: r, none, h => by
    have h : (p.length : Int) = many ∧ c ≠ 0 ∧ okA many (some p) r := h
    unfold looksA
    rw [if_neg (by rintro (z | z); exact z h.1; exact h.2.1 z)]
    exact looks_ok h.2.2
  | (p, c) :: r, some l, h => by
    have h : (p.length : Int) = many ∧ c ≠ 0 ∧ l < p ∧ okA many (some p) r := h
    unfold looksA
    rw [if_neg (by rintro (z | z); exact z h.1; exact h.2.1 z), if_pos ((lx_lt l p).mpr h.2.2.1)]
    exact looks_ok h.2.2.2
theorem Fm.looks {many : Nat} {ts : List Tr} (h : Fm many ts) : looksA many none ts = true := looks_ok (fm_ok h fun _ e => by cases e)
/-- what a dict of terms tells as a sum -/
def wrL (L : List Tr) : List Tr := ((srt (keys L)).filter fun k => decide (vaL L k ≠ 0)).map fun k => (k, vaL L k)
theorem wrL_keys (L : List Tr) : keys (wrL L) = (srt (keys L)).filter fun k => decide (vaL L k ≠ 0) := by
  unfold wrL keys
  rw [List.map_map]
  exact List.map_id _
theorem wrL_fm {L : List Tr} {many : Nat} (hn : Nd L) (hl : ∀ t ∈ L, t.1.length = many) : Fm many (wrL L) := by
  refine ⟨by rw [wrL_keys]; exact asc_filter (srt_asc hn) _, fun t ht => ?_, fun t ht => ?_⟩
  · obtain ⟨k, hk, rfl⟩ := List.mem_map.mp ht
    have := srt_mem.mp (List.mem_filter.mp hk).1
    obtain ⟨e, he, rfl⟩ := List.mem_map.mp this
    exact hl e he
  · obtain ⟨k, hk, rfl⟩ := List.mem_map.mp ht
    simpa using (List.mem_filter.mp hk).2
/-- two dicts that tell the same of each key are written alike -/
theorem wrL_congr {L M : List Tr} (hL : Nd L) (hM : Nd M) (h : ∀ k, vaL L k = vaL M k) : wrL L = wrL M := by
  have hv : vaL L = vaL M := funext h
  have e : keys (wrL L) = keys (wrL M) := by
    rw [wrL_keys, wrL_keys]
    refine asc_unique (asc_filter (srt_asc hL) _) (asc_filter (srt_asc hM) _) fun x => ?_
    rw [List.mem_filter, List.mem_filter, srt_mem, srt_mem, lkL_mem, lkL_mem, hv]
    have key : ∀ N : List Tr, vaL N x ≠ 0 → (lkL N x).isSome = true := fun N hx => by
      unfold vaL at hx
      cases q : lkL N x with
      | none => rw [q] at hx; exact absurd rfl hx
      | some v => rfl
    constructor
    · rintro ⟨h1, h2⟩
      have h3 : vaL M x ≠ 0 := by simpa using h2
      exact ⟨key M h3, h2⟩
    · rintro ⟨h1, h2⟩
      have h3 : vaL M x ≠ 0 := by simpa using h2
      exact ⟨key L (by rw [h x]; exact h3), h2⟩
  rw [wrL_keys, wrL_keys] at e
  unfold wrL
  rw [e, hv]
theorem vaL_puL (L : List Tr) (k j : List Int) (v : Int) : vaL (puL L k v) j = if k = j then v else vaL L j := by
  unfold vaL
  rw [lkL_puL]
  split <;> rfl
theorem vaL_drL (L : List Tr) (k j : List Int) : vaL (drL L k) j = if k = j then 0 else vaL L j := by
  unfold vaL
  rw [lkL_drL]
  split <;> rfl
theorem puL_new {L : List Tr} {k : List Int} {v : Int} (h : k ∉ keys L) : puL L k v = L ++ [(k, v)] := by
  unfold puL
  rw [if_neg]
  intro z
  obtain ⟨t, ht, e⟩ := List.any_eq_true.mp z
  simp only [decide_eq_true_eq] at e
  exact h (by rw [← e]; exact List.mem_map_of_mem ht)
theorem Nd.take {L : List Tr} (h : Nd L) (i : Nat) : Nd (L.take i) := by
  unfold Nd keys at *
  rw [List.map_take]; exact h.sublist (List.take_sublist _ _)
theorem nd_take_new {L : List Tr} (h : Nd L) {i : Nat} {t : Tr} (ht : L[i]? = some t) : t.1 ∉ keys (L.take i) := fun z => by
  unfold Nd keys at h
  unfold keys at z
  have hi : i < L.length := (List.getElem?_eq_some_iff.mp ht).1
  have e : L = L.take i ++ t :: L.drop (i + 1) := by
    have h1 := List.take_append_drop i L
    rw [List.drop_eq_getElem_cons hi] at h1
    rw [List.getElem?_eq_getElem hi] at ht
    rw [Option.some.inj ht] at h1
    exact h1.symm
  rw [e, List.map_append, List.map_cons] at h
  have := (List.nodup_append.mp h).2.2 _ z _ List.mem_cons_self
  exact this rfl
theorem cMax2_int {i j : Int} {S : Sto} {Q : KE} : cMax2 [.int i, .int j] S Q = Q (.int (if j > i then j else i)) S := rfl
theorem cMin2_int {i j : Int} {S : Sto} {Q : KE} : cMin2 [.int i, .int j] S Q = Q (.int (if j < i then j else i)) S := rfl
theorem zipD_ints {xs ys : List Int} {n : Nat} (hx : xs.length = n) (hy : ys.length = n) : zipD [xs.map .int, ys.map .int] n = (xs.zip ys).map fun p => .tup [.int p.1, .int p.2] := by
  apply List.ext_getElem?
  intro i
  rw [List.getElem?_map]
  rcases Nat.lt_or_ge i n with h | h
  · have e : (zipD [xs.map D.int, ys.map D.int] n)[i]? = some _ := List.getElem?_eq_getElem (by rw [zipD_len (List.cons_ne_nil _ _)]; exact h)
    obtain ⟨_, _, e2⟩ := zipD_at e
    rw [e, e2]
    have h1 : xs[i]? = some (xs[i]'(by omega)) := List.getElem?_eq_getElem (by omega)
    have h2 : ys[i]? = some (ys[i]'(by omega)) := List.getElem?_eq_getElem (by omega)
    have h3 : (xs.zip ys)[i]? = some (xs[i]'(by omega), ys[i]'(by omega)) := List.getElem?_zip_eq_some.mpr ⟨h1, h2⟩
    rw [h3]
    simp [h1, h2]
  · rw [List.getElem?_eq_none (by rw [zipD_len (List.cons_ne_nil _ _)]; exact h), List.getElem?_eq_none (by rw [List.length_zip]; omega)]
    rfl
/-- one less the other, power by power -/
def subL (a b : List Int) : List Int := (a.zip b).map fun p => p.1 - p.2
def addL (a b : List Int) : List Int := (a.zip b).map fun p => p.1 + p.2
theorem subL_length {a b : List Int} (h : a.length = b.length) : (subL a b).length = a.length := by unfold subL; rw [List.length_map, List.length_zip, ← h, Nat.min_self]
def shL (ts : List Tr) (m : List Int) : List Tr := ts.map fun t => (subL t.1 m, t.2)
theorem Fm.nd {many : Nat} {ts : List Tr} (h : Fm many ts) : Nd ts := asc_nodup h.asc
end VL
/-! VL23: list(range(..)). -/
namespace VL
open PySem PySem.Spec PyProof.Rows L2
section
variable {X : Cx} {en : Ent}
theorem rps_rgV {K : PySem.W.Frag} {H : Hp} (a b : Int) : Rps K H (intsD a (b - a).toNat) (rgV a b) := by
  unfold intsD rgV
  generalize (b - a).toNat = n
  induction List.range n with
  | nil => simp only [List.map_nil, Rps]
  | cons x r ih =>
    simp only [List.map_cons, Rps]
    exact ⟨_, _, rfl, by simp only [Rp], ih⟩
/-- list(range(n)) -/
def eLRg1 (t : RE) : RE := fun τ S Q => t τ S fun d S1 => match d with
  | .int n => (-1000000000000000000 ≤ n ∧ n ≤ 10000000) ∧ ∀ p, S1 p = none → Q (.ref p) (put S1 p (.lst (intsD 0 n.toNat)))
  | _ => False
theorem ve_listRg1 {a : Expr} {t : RE} {p p2 pos pos2 : Pos} (hc : X.calm = true) (hg : Gl X "list") (hm : X.mg "list" = none) (hg2 : Gl X "range") (hm2 : X.mg "range" = none) (he : VE X en a t) (hs : starEach [a] X.env = (false, eval a X.env) :: starEach [] X.env := by rfl)
    (hs2 : starEach [.Call (.Name "range" p2) [a] [] pos2] X.env = (false, eval (.Call (.Name "range" p2) [a] [] pos2) X.env) :: starEach [] X.env := by rfl) :
    VE X en (.Call (.Name "list" p) [.Call (.Name "range" p2) [a] [] pos2] [] pos) (eLRg1 t) :=
  PE.imp (pe_listRg hc hg hm (prg_1 hg2 hm2 he hs) hs2) fun σ H Q h => by
    obtain ⟨τ, S, Q0, hs, ho, h, k⟩ := h
    refine ⟨τ, S, _, hs, ho, h, fun d S1 v H1 h1 g1 r1 o1 => ?_⟩
    split at h1
    · rename_i n
      obtain ⟨⟨b1, b2⟩, q⟩ := h1
      simp only [Rp] at r1
      subst r1
      refine ⟨n, rfl, ⟨by omega, by omega, by omega, by omega, by omega⟩, fun p hp => ?_⟩
      refine k _ _ _ _ (q p (o1.nope hp)) (g1.trans (Go.new hp)) (by simp only [Rp]) (o1.go (Go.new hp) (o1.so.new hp ⟨_, rfl, ?_, ?_⟩))
      · rw [rgV_length, sizeLine_eq]; omega
      · have := rps_rgV (K := X.K) (H := upd H1 p (.lst (rgV 0 n))) 0 n
        rw [Int.sub_zero] at this; exact this
    · exact h1.elim
end
end VL
/-! VL24: d.items() of a locked dict with tuple keys; math.gcd. -/
namespace VL
open PySem PySem.Spec PyProof.Rows L2
/-- the pairs of a locked dict whose keys are tuples -/
def Itit (d : Addr) (o : Obj) (kvs : List (List L2.Key × V)) : It :=
  ⟨fun i H => H d = some (.frz o (.dT kvs)) ∧ i < kvs.length, fun i H x H' => ∃ (T : Addr) (k : List L2.Key) (v : V) (q : Addr), kvs[i]? = some (k, v) ∧ x = .ref T ∧ H T = none ∧ H q = some (.tup (k.map kV)) ∧ H' = upd H T (.tup [.ref q, v]), fun i H => H d = some (.frz o (.dT kvs)) ∧ kvs.length ≤ i⟩
section
variable {X : Cx} {pins : List (Addr × Obj)} {σ : L2.St} {H : Hp} {s : Shared} {d : Addr} {o : Obj}
theorem frzT2 {kvs : List (List L2.Key × V)} (I : Inv X pins σ H s) (h : H d = some (.frz o (.dT kvs))) :
    (d == sysModules) = false ∧ s.heap.get? d = some o ∧ o.ExactDict ∧ ∃ (es : Array DictEntry) (ep : Nat), o.data = .dict es ep ∧ es.size = kvs.length ∧
      ∀ (i : Nat) (k : List L2.Key) (v : V), kvs[i]? = some (k, v) → ∃ (hi : i < es.size) (q : Addr), es[i].key = .ref q ∧ H q = some (.tup (k.map kV)) ∧ RelV v es[i].val := by
  obtain ⟨hd, z, hs, xs, pr, o', es, ep, ho, hx, hdt, he, _⟩ := I.hok d _ h
  rw [hd] at ho
  cases ho
  have l1 : es.size = xs.length := size_of_entries he
  have l2 : kvs.length = xs.length := Paired.length pr
  refine ⟨hs, hd, hx, es, ep, hdt, by omega, fun i k v e => ?_⟩
  obtain ⟨b, hb, e1, e2, e3⟩ := paired_get pr e
  have q := entry_at he i
  rw [hb] at q
  have hi : i < es.size := by
    have := (List.getElem?_eq_some_iff.mp e).1
    omega
  have q2 : es[i]? = some es[i] := Array.getElem?_eq_getElem hi
  rw [q2] at q
  have q := Option.some.inj q
  refine ⟨hi, b.2.1, ?_, e2, ?_⟩
  · rw [q]; rfl
  · rw [q]; exact e3
end
section
variable {P : Program} {w : World} {K : PySem.W.Frag} {d : Addr} {o : Obj} {es : Array DictEntry} {ep : Nat}
theorem turn_itemsT {kvs : List (List L2.Key × V)} {elts : List Expr} {kk : Nat} {tpos : Pos} (it : Addr) (hod : o.data = .dict es ep) :
    Turn P w K (.Tuple elts kk tpos) (Itit d o kvs) [it] it (fun i h => ∃ ok ov, IsItemIter h it d i kvs.length ep ok ov) where
  mem := by simp
  obj := fun i h st b hb => by
    have e : b = it := by simpa using hb
    subst e
    obtain ⟨ok, ov, e⟩ := st
    exact ⟨_, e, fun v z => nomatch z⟩
  keep := fun i h h' st k => let ⟨ok, ov, e⟩ := st; ⟨ok, ov, k it (by simp) _ e⟩
  item := by
    intro X hP hw hK hc i pins s σ H E I hf st hg
    subst hP hw hK
    obtain ⟨hd, hi⟩ := hg
    obtain ⟨hs, hgd, hx, es', ep', hdt, hsz, ent⟩ := frzT2 I hd
    obtain ⟨rfl, rfl⟩ := dict_ep hod hdt
    obtain ⟨⟨k, v⟩, hkv⟩ : ∃ p, kvs[i]? = some p := ⟨kvs[i], List.getElem?_eq_getElem hi⟩
    obtain ⟨hi2, q, hkey, hq, ru⟩ := ent i k v hkv
    obtain ⟨ok, ov, he⟩ := st
    rw [← hsz] at he
    have hlt : it < s.heap.objs.size := Heap.lt_size he
    refine wpAny_pyNext_items_item_raw he ⟨_, hgd, hx, hod⟩ hi2 fun h' ho hT hz hk => ?_
    refine ⟨_, rfl, wpAny_letOwnedTupleGo_items (s := { s with heap := h' }) ho fun h'' he' sb => ?_⟩
    rw [hkey] at hT
    have hT2 : h''.get? s.heap.objs.size = some { cls := .type "tuple", data := .seq #[.ref q, es'[i].val] } := (sb.2 _ (Nat.ne_of_gt hlt)).trans hT
    have new : ObjOk X.prog X.w (upd H s.heap.objs.size (.tup [.ref q, v])) h'' s.heap.objs.size (.tup [.ref q, v]) :=
      ⟨by show 2 ≤ sizeLine; decide, [.ref q, es'[i].val], .cons rfl (.cons ru .nil), ⟨_, hT2, rfl, _, rfl⟩⟩
    have I1 : Inv X pins σ (upd H s.heap.objs.size (.tup [.ref q, v])) { s with heap := h'' } :=
      I.turnedNew (t' := s.toks) (ch := [it]) (fun b ob hb e => (sb.2 b (by simpa using hb)).trans (hk b ob (by simpa using hb) e)) hf (Nat.le_refl _) new
    refine ⟨.ref s.heap.objs.size, _, I1, rfl, ⟨_, k, v, q, hkv, rfl, I.hok.fresh (Nat.le_refl _), hq, rfl⟩, ⟨es'[i].key, es'[i].val, ?_⟩, fun b hb => ?_⟩
    · rw [← hsz]; exact he'
    · have e : b = it := by simpa using hb
      rw [e, upd_ne (Nat.ne_of_lt hlt)]
      exact (hf it (by simp)).1
  done := by
    intro X hP hw hK hc i pins s σ H E I hf st hg
    subst hP hw hK
    obtain ⟨hd, hi⟩ := hg
    obtain ⟨f0, f1, f2, f3, f4, f5⟩ := hf it (by simp)
    obtain ⟨hs, hgd, hx, es', ep', hdt, hsz, ent⟩ := frzT2 I hd
    obtain ⟨rfl, rfl⟩ := dict_ep hod hdt
    obtain ⟨ok, ov, he⟩ := st
    rw [← hsz] at he
    exact wpAny_pyNext_items_end_raw (I.ok.hd hc) he ⟨_, hgd, hx, hod⟩ (by omega) fun h' eb => ⟨rfl, I.turned (t' := s.toks) (fun b ob hb e => eb b ob hb e) f0 f1 f3 f4 f5⟩
  self := fun A i s Q E st h => let ⟨_, _, e⟩ := st; PySem.W.kcp_self e h
end
def iItemsTh (td : TE) : TI := fun σ H R => td σ H fun x H1 => ∃ d o kvs, x = .ref d ∧ H1 d = some (.frz o (.dT kvs)) ∧ R (Itit d o kvs) H1
section
variable {X : Cx} {e : Expr} {td : TE} {apos cpos : Pos}
theorem pi_itemsT {elts : List Expr} {kk : Nat} {tpos : Pos} (he : PE X e td) (hbase : attributeBase e "items" X.env (eval e X.env) = eval e X.env := by rfl) (hline : (apos.endLine == cpos.line) = true := by rfl) :
    PI X (.Tuple elts kk tpos) (.Call (.Attribute e "items" apos) [] [] cpos) (iItemsTh td) := by
  refine ⟨fun pins s σ H R I h => ?_⟩
  refine wpAny_Call_method (T := "dict") (id := "dict.items") hbase rfl hline F.plainAttrs_dict F.slot_dict_items F.type_dict_items (thn (he.run pins s σ H _ I h) fun u s1 ⟨x, H1, I1, rx, d, o, kvs, ex, hd, q⟩ => ?_)
  subst ex
  obtain rfl : u = Value.ref d := rx
  obtain ⟨hs, hgd, hx, es, ep, hdt, hsz, ent⟩ := frzT2 I1 hd
  have hr : s1.heap.DictRaw d es ep := ⟨_, hgd, hx, hdt⟩
  refine ⟨hr.typeIs, fun a e => ?_, ?_⟩
  · cases e; exact ⟨_, hgd, hx.2.1⟩
  have I2 : Inv X pins σ H1 { s1 with heap := s1.heap.push { cls := .type "dict_items", data := .fields #[.ref d] } } := I1.kept (t' := s1.toks) fun b ob q => Heap.get?_push_of_some _ q
  have fin : wpAny (model X.prog X.w) X.A (pyIter (.ref s1.heap.objs.size)) (PIE X pins σ (.Tuple elts kk tpos) R) X.xe { s1 with heap := s1.heap.push { cls := .type "dict_items", data := .fields #[.ref d] } } := by
    refine wpAny_pyIter_items_raw (d := d) ⟨_, Heap.get?_push_size _ rfl, rfl, rfl⟩ ⟨o, Heap.get?_push_of_some _ hgd, hx, hdt⟩ (pi_one (tk := s1.toks) I2 _ (turn_itemsT _ hdt) ⟨.none, .none, ?_⟩ q)
    rw [← hsz]
    exact Heap.get?_push_size _ rfl
  show wpAny _ _ (callWith cpos (.builtin "dict.items") [.ref d] [] []) _ X.xe s1
  exact method_meetsIn F.slot_dict_items F.entry_dict_items rfl (PySem.evalArgs_none ⟨rfl, hr.typeIs, F.args_dict_items_1 _, _, meets_dict_items_raw d hs, ⟨⟨es, ep, hr⟩, fin⟩⟩)
end
/-! at the value level -/
section
variable {X : Cx} {en : Ent}
def iItemsT (te : RE) : RI := fun τ S R => te τ S fun d S1 => match d with
  | .ref a => ∃ kvs l, S1 a = some (.fD kvs l) ∧ (∀ kv ∈ kvs, List.length kv.1 ≤ 10000000) ∧ R ⟨kvs.map fun kv => .tup [tI kv.1, kv.2], fun S => S a = some (.fD kvs l)⟩ S1
  | _ => False
theorem vi_itemsT {elts : List Expr} {kk : Nat} {tpos : Pos} {e : Expr} {te : RE} {apos cpos : Pos} (he : VE X en e te) (hbase : attributeBase e "items" X.env (eval e X.env) = eval e X.env := by rfl) (hline : (apos.endLine == cpos.line) = true := by rfl) :
    VI X en (.Tuple elts kk tpos) (.Call (.Attribute e "items" apos) [] [] cpos) (iItemsT te) := PI.imp (pi_itemsT he hbase hline) fun σ H R h => by
  obtain ⟨τ, S, R0, hs, ho, q, k⟩ := h
  refine ⟨τ, S, _, hs, ho, q, fun d S' v H' q' g r o => ?_⟩
  cases d with
  | ref a =>
    simp only [Rp] at r
    subst r
    obtain ⟨kvs, l, ha, hk, q'⟩ := q'
    obtain ⟨u, e, rfl, ob, ws, rfl, z, kv⟩ := o.so a _ ha
    have hl : kvs.length = ws.length := kv.length
    refine ⟨a, ob, ws, rfl, e, k _ _ _ _ q' g o ⟨?_, fun i H2 S2 t o2 ok hi => ?_, fun i H2 S2 x H3 d t o2 ok e2 y => ?_, fun i H2 S2 t o2 ok hi => ?_⟩⟩
    · show (kvs.map fun kv => (D.tup [tI kv.1, kv.2])).length ≤ _
      rw [List.length_map, hl]; exact z
    · obtain ⟨u2, e2, hu, _⟩ := o2 a _ ok
      subst hu
      have hi : i < (kvs.map fun kv => (D.tup [tI kv.1, kv.2])).length := hi
      rw [List.length_map] at hi
      exact ⟨e2, by omega⟩
    · obtain ⟨T, k', v', b, hw, rfl, hT, hb, rfl⟩ := y
      have e2 : (kvs.map fun kv => (D.tup [tI kv.1, kv.2]))[i]? = some d := e2
      rw [List.getElem?_map] at e2
      cases hq : kvs[i]? with
      | none => rw [hq] at e2; cases e2
      | some p =>
        rw [hq] at e2
        have e2 : (D.tup [tI p.1, p.2]) = d := Option.some.inj e2
        subst e2
        obtain ⟨u2, e3, hu, ob2, ws2, e4, z2, kv2⟩ := o2 a _ ok
        cases e4
        obtain ⟨p2, h2, h3⟩ := paired_get kv2 hq
        rw [hw] at h2
        cases h2
        have h4 : k' = p.1.map (Sum.inl : Int → Key) := h3.1
        rw [h4, key_map] at hb
        have tl : TL H2 (upd H2 T (.tup [.ref b, v'])) := TL.new hT
        refine ⟨Go.new' hT, o2.new' hT, ?_⟩
        simp only [Rp]
        refine ⟨T, _, rfl, upd_same, by show 2 ≤ sizeLine; decide, ?_⟩
        refine Rps.cons ?_ (Rps.one (Rp.mono tl _ _ h3.2))
        unfold tI
        simp only [Rp]
        exact ⟨b, _, rfl, by rw [upd_ne (ne_of_none hb hT)]; exact hb, by rw [List.length_map]; exact line10 (hk p (List.mem_of_getElem? hq)), Rps.of_ints _⟩
    · obtain ⟨u2, e2, hu, _⟩ := o2 a _ ok
      subst hu
      have hi : (kvs.map fun kv => (D.tup [tI kv.1, kv.2])).length ≤ i := hi
      rw [List.length_map] at hi
      exact ⟨e2, by omega⟩
  | _ => exact q'.elim
/-- math.gcd -/
def cGcd : List D → Sto → KE → Prop := fun vs S Q => match vs with
  | [.int a, .int b] => Q (.int ((Nat.gcd a.natAbs b.natAbs : Nat) : Int)) S
  | _ => False
theorem ca_gcd {K : PySem.W.Frag} : CaV K cGcd rGcd := by
  intro H S xs us Q R o r h k
  unfold cGcd at h
  split at h
  · simp only [Rps, Rp] at r
    obtain ⟨v, w, rfl, rfl, v2, w2, rfl, rfl, rfl⟩ := r
    exact ⟨_, _, rfl, k _ _ _ _ h (Go.refl S H) (by simp only [Rp]) o⟩
  · exact h.elim
theorem ve_callG {x : Str} {id : String} {f : List D → Sto → KE → Prop} {r : List V → Hp → VK → Prop} {e : Expr} {es : List Expr} {ts : List RE} {p pos : Pos} (hc : CallR X (.builtin id) r) (hf : CaV X.K f r) (hg : Gl X x) (hm : X.mg x = some (.builtin id)) (ha : VA X en (e :: es) ts) (hdb : (x == ("__debug__" : Str)) = false := by decide)
    (he : starEach (e :: es) X.env = (false, eval e X.env) :: starEach es X.env := by rfl) (hpl : (backTo pos (starEach es X.env)).any (·.1) = false := by rfl) :
    VE X en (.Call (.Name x p) (e :: es) [] pos) (eCB f ts) := PE.imp (pe_callBfun hc hg hm ha.1 hdb he hpl) fun _ _ _ h => low_cb hf h
end
end VL
/-! VL25: {k: v}, k a tuple of ints. -/
namespace VL
open PySem PySem.Spec PyProof.Rows L2
section
variable {X : Cx}
def tD1 (tk tv : TE) : TE := fun st hp Q => ∀ p, hp p = none → tk st (upd hp p (.dT [])) fun x h1 => tv st h1 fun y h2 => ∃ (k : List L2.Key) (a : Addr), x = .ref a ∧ h2 a = some (.tup (k.map kV)) ∧ h2 p = some (.dT []) ∧ Q (.ref p) (upd h2 p (.dT [(k, y)]))
theorem pe_d1 {pos : Pos} {k v : Expr} {tk tv : TE} (hu : X.A.units < cLine) (hk : PE X k tk) (hv : PE X v tv) : PE X (.Dict [some k] [v] pos) (tD1 tk tv) := by
  refine ⟨fun pn s st hp Q I q => ?_⟩
  have hn := I.hok.fresh (Nat.le_refl s.heap.objs.size)
  have I1 := I.laid (a := s.heap.objs.size) (o := .dT []) (h' := s.heap.push { cls := .type "dict", data := .dict #[] }) (t' := s.toks) (fun _ _ q => Heap.get?_push_of_some _ q) (Nat.le_refl _) (dt_empty s.heap I.big)
  have hn' := pairTrees_length [some k] [v] X.env pos rfl rfl
  rw [arm_eval_Dict, zip_pairTrees [some k] [v] X.env pos rfl rfl, dictDisplay_pairs _ (by intro z; rw [z] at hn'; exact absurd hn' (by simp)) (by rw [hn']; simp)]
  refine wpAny_bind (wpAny_standAt (wpAny_bind (wpAny_subDictH (knd := tupleKind (mixKind X.prog X.w)) (Q := fun d s' => wpAny (model X.prog X.w) X.A (pure (Value.ref d)) _ _ s') hu (by rw [hn']; simp) ?_)))
  refine pairTrees_cons_walk (thn (hk.run pn _ st _ _ I1 (q _ hn)) fun u s1 ⟨x, H1, I2, rx, q1⟩ => thn (hv.run pn s1 st H1 _ I2 q1) fun w2 s2 ⟨y, H2, I3, ry, kk, a, ex, ha, hp, q2⟩ => pairTrees_nil_walk ?_)
  subst ex
  cases (show u = Value.ref a from rx)
  obtain ⟨z, hd, xs, rel, dd⟩ := dt_of I3.hok hp
  have ex : xs = [] := by
    have := Paired.length rel
    exact List.eq_nil_of_length_eq_zero this.symm
  subst ex
  refine ⟨[(kk, a, w2)], ⟨rfl, rfl, key_of I3.hok ha, True.intro⟩, dd, fun h' tk' dd' sb => wpAny_pure ?_⟩
  obtain ⟨o, es, ep, e1, e2, e3, e4, _, e5⟩ := dd'
  have ne : a ≠ s.heap.objs.size := ne_of ha hp (fun z => nomatch z)
  refine ⟨.ref _, upd H2 s.heap.objs.size (.dT [(kk, y)]), ?_, rfl, q2⟩
  refine d_write I3 (by rw [hp]; trivial) sb ⟨o, e1⟩ ⟨by show 1 ≤ sizeLine; decide, hd, _, Paired.cons ⟨rfl, ?_, ry⟩ .nil, o, es, ep, e1, e2, e3, e4, e5⟩
  show (upd H2 s.heap.objs.size _) a = _
  rw [upd_ne ne]; exact ha
end
section
variable {X : Cx} {en : Ent}
def eD1 (tk tv : RE) : RE := fun τ S Q => tk τ S fun x S1 => tv τ S1 fun y S2 => ∃ ns : List Int, x = tI ns ∧ ∀ p, S2 p = none → Q (.ref p) (put S2 p (.dI [(ns, y)]))
theorem ve_d1 {pos : Pos} {k v : Expr} {tk tv : RE} (hu : X.A.units < cLine) (hk : VE X en k tk) (hv : VE X en v tv) : VE X en (.Dict [some k] [v] pos) (eD1 tk tv) :=
  PE.imp (pe_d1 hu hk hv) fun σ H Q h => by
    obtain ⟨τ, S, Q0, hs, ho, q, k⟩ := h
    intro p hp
    have o1 : SQ X.K en (upd H p (.dT [])) S := ho.go (Go.new' hp) (ho.so.new' hp)
    refine ⟨τ, S, _, hs.mono (TL.new hp), o1, q, fun dk S1 vk H1 q1 g1 r1 o1' => ?_⟩
    refine ⟨τ, S1, _, (hs.mono (TL.new hp)).mono g1.tl, o1', q1, fun dv S2 vv H2 q2 g2 r2 o2 => ?_⟩
    obtain ⟨ns, rfl, q3⟩ := q2
    have f2 := (g1.trans g2).fr p _ upd_same (ho.nope hp)
    obtain ⟨b, rfl, hb⟩ := key_tup (Rp.mono g2.tl _ _ r1)
    refine ⟨_, b, rfl, hb, f2.2, ?_⟩
    have tl : TL H2 (upd H2 p (.dT [((ns.map Sum.inl : List L2.Key), vv)])) := TL.mut f2.2 trivial
    have gg : Go S H (put S2 p (.dI [(ns, dv)])) (upd H2 p (.dT [((ns.map Sum.inl : List L2.Key), vv)])) := by
      refine ⟨((TL.new hp).trans (g1.trans g2).tl).trans tl, fun a o ha n => ?_⟩
      have hx : a ≠ p := ne_of_none ha hp
      have z := (Go.new' (S := S) (u := .dT []) hp |>.trans (g1.trans g2)).fr a o ha n
      rw [put_ne hx, upd_ne hx]; exact z
    refine k _ _ _ _ (q3 p f2.1) gg (by simp only [Rp]) ⟨fun a o' ha => ?_, ho.en.trans gg⟩
    by_cases h : a = p
    · subst h
      rw [put_same] at ha; cases ha
      exact ⟨_, upd_same, _, rfl, by show 1 ≤ sizeLine; decide, Paired.cons ⟨rfl, Rp.mono tl _ _ r2⟩ .nil⟩
    · rw [put_ne h] at ha
      exact (o2.so.other f2.2 trivial f2.1) a o' ha
end
end VL
/-! VL26: worths of sums: plain arithmetic. -/
namespace VL
open PySem PySem.Spec PyProof.Rows L2
theorem abs_mul_le {a b : Int} {m n : Nat} (ha : a.natAbs ≤ 2 ^ m) (hb : b.natAbs ≤ 2 ^ n) : (a * b).natAbs ≤ 2 ^ (m + n) := by
  rw [Int.natAbs_mul, Nat.pow_add]; exact Nat.mul_le_mul ha hb
theorem lt_two {a : Int} {m : Nat} (h : a.natAbs ≤ 2 ^ m) : a.natAbs < 2 ^ (m + 1) := Nat.lt_of_le_of_lt h (Nat.pow_lt_pow_right (by decide) (Nat.lt_succ_self m))
theorem fits_le {a b : Int} {m n : Nat} (ha : a.natAbs ≤ 2 ^ m) (hb : b.natAbs ≤ 2 ^ n) (h : m + n + 2 ≤ 134217728) : IntMulOk a b := mul_fits (lt_two ha) (lt_two hb) (by omega)
theorem abs_pow_le {a : Int} {m : Nat} (h : a.natAbs ≤ 2 ^ m) (k : Nat) : (a ^ k).natAbs ≤ 2 ^ (m * k) := by
  rw [Int.natAbs_pow, Nat.pow_mul]; exact Nat.pow_le_pow_left h k
theorem abs_up {a : Int} {m n : Nat} (h : a.natAbs ≤ 2 ^ m) (l : m ≤ n) : a.natAbs ≤ 2 ^ n := Nat.le_trans h (Nat.pow_le_pow_right (by decide) l)
/-- a number's powers from 0 to m -/
def pwL (n : Int) (m : Nat) : List Int := (List.range (m + 1)).map fun k => n ^ k
theorem pwL_length (n : Int) (m : Nat) : (pwL n m).length = m + 1 := by unfold pwL; rw [List.length_map, List.length_range]
theorem pwL_get {n : Int} {m k : Nat} (h : k ≤ m) : (pwL n m)[k]? = some (n ^ k) := by
  unfold pwL
  rw [List.getElem?_map, List.getElem?_range (by omega)]; rfl
theorem pwL_zero (n : Int) : pwL n 0 = [1] := by simp [pwL]
theorem pwL_succ (n : Int) (m : Nat) : pwL n (m + 1) = pwL n m ++ [n ^ m * n] := by
  unfold pwL
  rw [List.range_succ, List.map_append, ← Int.pow_succ]; rfl
/-- the worth of powers, counted from those of low on -/
def wt : List Int → List Int → List Int → Int
  | n :: ns, l :: ls, p :: ps => n ^ (p - l).toNat * wt ns ls ps
  | _, _, _ => 1
def wsum (ns low : List Int) (ts : List Tr) : Int := (ts.map fun t => t.2 * wt ns low t.1).sum
theorem wt_snoc : ∀ {ns ls ps : List Int} {n l p : Int}, ns.length = ls.length → ns.length = ps.length → wt (ns ++ [n]) (ls ++ [l]) (ps ++ [p]) = wt ns ls ps * n ^ (p - l).toNat
  | [], [], [], n, l, p, _, _ => by simp [wt]
  | a :: ns, b :: ls, c :: ps, n, l, p, h1, h2 => by
    show a ^ (c - b).toNat * wt (ns ++ [n]) (ls ++ [l]) (ps ++ [p]) = _
    rw [wt_snoc (by simpa using h1) (by simpa using h2), ← Int.mul_assoc]; rfl
  | [], _ :: _, _, _, _, _, h, _ => by cases h
  | [], [], _ :: _, _, _, _, _, h => by cases h
  | _ :: _, [], _, _, _, _, h, _ => by cases h
  | _ :: _, _ :: _, [], _, _, _, _, h => by cases h
theorem wt_bound {e d : Nat} : ∀ {ns ls ps : List Int}, (∀ n ∈ ns, n.natAbs ≤ 2 ^ e) → (∀ i : Nat, ps.getD i 0 - ls.getD i 0 ≤ d) → (wt ns ls ps).natAbs ≤ 2 ^ (e * d * ns.length)
  | [], _, _, _, _ => by simp [wt]
  | n :: ns, [], _, _, _ => by show (1 : Int).natAbs ≤ _; exact Nat.one_le_two_pow
  | n :: ns, _ :: _, [], _, _ => by show (1 : Int).natAbs ≤ _; exact Nat.one_le_two_pow
  | n :: ns, l :: ls, p :: ps, h1, h2 => by
    have ih := wt_bound (ns := ns) (ls := ls) (ps := ps) (fun x hx => h1 x (List.mem_cons_of_mem _ hx)) fun i => by simpa using h2 (i + 1)
    have h0 : p - l ≤ d := by simpa using h2 0
    have hp : (p - l).toNat ≤ d := by omega
    have a := abs_up (abs_pow_le (h1 n List.mem_cons_self) (p - l).toNat) (Nat.mul_le_mul_left e hp)
    have := abs_mul_le a ih
    rw [List.length_cons, Nat.mul_add, Nat.mul_one, Nat.add_comm (e * d * ns.length)]
    exact this
theorem wt_nz : ∀ {ns ls ps : List Int}, (∀ n ∈ ns, n ≠ 0) → wt ns ls ps ≠ 0
  | [], _, _, _ => by simp [wt]
  | n :: ns, [], _, _ => by simp [wt]
  | n :: ns, _ :: _, [], _ => by simp [wt]
  | n :: ns, l :: ls, p :: ps, h => Int.mul_ne_zero (Int.pow_ne_zero (h n List.mem_cons_self)) (wt_nz fun x hx => h x (List.mem_cons_of_mem _ hx))
/-- counted from lesser powers on -/
theorem wt_shift : ∀ {ns l2 l1 ps : List Int}, l2.length = l1.length → l1.length = ps.length → (∀ i : Nat, l2.getD i 0 ≤ l1.getD i 0 ∧ l1.getD i 0 ≤ ps.getD i 0) → wt ns l2 ps = wt ns l1 ps * wt ns l2 l1
  | [], _, _, _, _, _, _ => by simp [wt]
  | n :: ns, [], [], [], _, _, _ => by simp [wt]
  | n :: ns, a :: l2, b :: l1, p :: ps, h1, h2, h => by
    have ih := wt_shift (ns := ns) (l2 := l2) (l1 := l1) (ps := ps) (by simpa using h1) (by simpa using h2) fun i => by simpa using h (i + 1)
    have h0 : a ≤ b ∧ b ≤ p := by simpa using h 0
    show n ^ (p - a).toNat * wt ns l2 ps = (n ^ (p - b).toNat * wt ns l1 ps) * (n ^ (b - a).toNat * wt ns l2 l1)
    rw [ih, show (p - a).toNat = (p - b).toNat + (b - a).toNat from by omega, Int.pow_add]
    rw [Int.mul_assoc, Int.mul_assoc, Int.mul_left_comm (n ^ (b - a).toNat)]
  | _ :: _, [], _ :: _, _, h, _, _ => by cases h
  | _ :: _, _ :: _, [], _, h, _, _ => by cases h
  | _ :: _, [], [], _ :: _, _, h, _ => by cases h
  | _ :: _, _ :: _, _ :: _, [], _, h, _ => by cases h
theorem wsum_shift {ns l2 l1 : List Int} {ts : List Tr} (hl : l2.length = l1.length) (ht : ∀ t ∈ ts, l1.length = t.1.length ∧ ∀ i : Nat, l2.getD i 0 ≤ l1.getD i 0 ∧ l1.getD i 0 ≤ t.1.getD i 0) : wsum ns l2 ts = wsum ns l1 ts * wt ns l2 l1 := by
  unfold wsum
  induction ts with
  | nil => simp
  | cons t r ih =>
    rw [List.map_cons, List.map_cons, List.sum_cons, List.sum_cons, ih fun u hu => ht u (List.mem_cons_of_mem _ hu), Int.add_mul]
    obtain ⟨h1, h2⟩ := ht t List.mem_cons_self
    rw [wt_shift hl h1 h2, Int.mul_assoc]
/-- lowest terms, the second one from 1 on -/
def sgD (a b : Int) : Int := if b < 0 then -(Int.gcd a b : Int) else (Int.gcd a b : Int)
def lowF (a b : Int) : Int × Int := (a.fdiv (sgD a b), b.fdiv (sgD a b))
theorem sgD_nz {a b : Int} (hb : b ≠ 0) : sgD a b ≠ 0 := by
  have : Int.gcd a b ≠ 0 := fun z => hb (Int.eq_zero_of_gcd_eq_zero_right z)
  unfold sgD
  split <;> omega
theorem sgD_abs (a b : Int) : (sgD a b).natAbs = Int.gcd a b := by
  unfold sgD
  split <;> omega
theorem sgD_le {a b : Int} (hb : b ≠ 0) : (sgD a b).natAbs ≤ b.natAbs := by
  rw [sgD_abs]
  exact Nat.le_of_dvd (by omega) (Nat.gcd_dvd_right _ _)
theorem sgD_dvd_l (a b : Int) : sgD a b ∣ a := by
  have h := Int.gcd_dvd_left a b
  unfold sgD
  split
  · exact Int.neg_dvd.mpr h
  · exact h
theorem sgD_dvd_r (a b : Int) : sgD a b ∣ b := by
  have h := Int.gcd_dvd_right a b
  unfold sgD
  split
  · exact Int.neg_dvd.mpr h
  · exact h
theorem sgD_mul {a b k : Int} (hk : k ≠ 0) (hb : b ≠ 0) : sgD (a * k) (b * k) = sgD a b * k := by
  have hg : Int.gcd (a * k) (b * k) = Int.gcd a b * k.natAbs := Int.gcd_mul_right a k b
  unfold sgD
  rw [hg]
  rcases Int.lt_or_lt_of_ne hk with h | h
  · have e : ((Int.gcd a b * k.natAbs : Nat) : Int) = -((Int.gcd a b : Int) * k) := by
      rw [Int.natCast_mul, show ((k.natAbs : Nat) : Int) = -k from by omega, Int.mul_neg]
    rw [e]
    rcases Int.lt_or_lt_of_ne hb with g | g
    · have : 0 < b * k := Int.mul_pos_of_neg_of_neg g h
      rw [if_neg (by omega), if_pos g, Int.neg_mul]
    · have : b * k < 0 := Int.mul_neg_of_pos_of_neg g h
      rw [if_pos this, if_neg (by omega), Int.neg_neg]
  · have e : ((Int.gcd a b * k.natAbs : Nat) : Int) = (Int.gcd a b : Int) * k := by
      rw [Int.natCast_mul, show ((k.natAbs : Nat) : Int) = k from by omega]
    rw [e]
    rcases Int.lt_or_lt_of_ne hb with g | g
    · have : b * k < 0 := Int.mul_neg_of_neg_of_pos g h
      rw [if_pos this, if_pos g, Int.neg_mul]
    · have : 0 < b * k := Int.mul_pos g h
      rw [if_neg (by omega), if_neg (by omega)]
theorem fdiv_mul_cancel {s q : Int} (h : s ≠ 0) : (s * q).fdiv s = q := Int.mul_fdiv_cancel_left q h
theorem lowF_mul {a b k : Int} (hk : k ≠ 0) (hb : b ≠ 0) : lowF (a * k) (b * k) = lowF a b := by
  have hs := sgD_nz (a := a) hb
  obtain ⟨x, hx⟩ := sgD_dvd_l a b
  obtain ⟨y, hy⟩ := sgD_dvd_r a b
  have h1 : a.fdiv (sgD a b) = x := by
    have := fdiv_mul_cancel (q := x) hs
    rw [← hx] at this; exact this
  have h2 : b.fdiv (sgD a b) = y := by
    have := fdiv_mul_cancel (q := y) hs
    rw [← hy] at this; exact this
  have hsk : sgD a b * k ≠ 0 := Int.mul_ne_zero hs hk
  have h3 : (a * k).fdiv (sgD a b * k) = x := by
    have := fdiv_mul_cancel (q := x) hsk
    rw [show sgD a b * k * x = a * k from by rw [Int.mul_assoc, Int.mul_comm k x, ← Int.mul_assoc, ← hx]] at this; exact this
  have h4 : (b * k).fdiv (sgD a b * k) = y := by
    have := fdiv_mul_cancel (q := y) hsk
    rw [show sgD a b * k * y = b * k from by rw [Int.mul_assoc, Int.mul_comm k y, ← Int.mul_assoc, ← hy]] at this; exact this
  unfold lowF
  rw [sgD_mul hk hb, h1, h2, h3, h4]
theorem lowF_one (a : Int) : lowF a 1 = (a, 1) := by
  have : sgD a 1 = 1 := by unfold sgD; rw [if_neg (by decide), Int.gcd_one]; rfl
  unfold lowF
  rw [this, Int.fdiv_one, Int.fdiv_one]
theorem lowF_snd {a b : Int} (hb : b ≠ 0) : (lowF a b).2 ≠ 0 ∧ (lowF a b).2.natAbs ≤ b.natAbs := by
  obtain ⟨y, hy⟩ := sgD_dvd_r a b
  have hs := sgD_nz (a := a) hb
  have h2 : (lowF a b).2 = y := by
    have := fdiv_mul_cancel (q := y) hs
    rw [← hy] at this; exact this
  rw [h2]
  have hy0 : y ≠ 0 := fun z => hb (by rw [hy, z, Int.mul_zero])
  refine ⟨hy0, ?_⟩
  have e : b.natAbs = (sgD a b).natAbs * y.natAbs := by rw [← Int.natAbs_mul, ← hy]
  have : 1 ≤ (sgD a b).natAbs := by omega
  rw [e]
  exact Nat.le_mul_of_pos_left _ this
theorem lowF_fst {a b : Int} (hb : b ≠ 0) : (lowF a b).1.natAbs ≤ a.natAbs := by
  obtain ⟨y, hy⟩ := sgD_dvd_l a b
  have hs := sgD_nz (a := a) hb
  have h2 : (lowF a b).1 = y := by
    have := fdiv_mul_cancel (q := y) hs
    rw [← hy] at this; exact this
  rw [h2]
  have e : a.natAbs = (sgD a b).natAbs * y.natAbs := by rw [← Int.natAbs_mul, ← hy]
  have : 1 ≤ (sgD a b).natAbs := by omega
  rw [e]
  exact Nat.le_mul_of_pos_left _ this
theorem sum_bound {m : Nat} : ∀ {xs : List Int}, (∀ x ∈ xs, x.natAbs ≤ 2 ^ m) → xs.sum.natAbs ≤ xs.length * 2 ^ m
  | [], _ => by simp
  | x :: r, h => by
    have ih := sum_bound (xs := r) fun y hy => h y (List.mem_cons_of_mem _ hy)
    have h0 := h x List.mem_cons_self
    rw [List.sum_cons, List.length_cons, Nat.add_mul, Nat.one_mul]
    have := Int.natAbs_add_le x r.sum
    omega
theorem wsum_bound {ns low : List Int} {ts : List Tr} {c e d k : Nat} (hn : ∀ n ∈ ns, n.natAbs ≤ 2 ^ e) (ht : ∀ t ∈ ts, t.2.natAbs ≤ 2 ^ c ∧ ∀ i : Nat, t.1.getD i 0 - low.getD i 0 ≤ d) (hk : ts.length ≤ 2 ^ k) : (wsum ns low ts).natAbs ≤ 2 ^ (k + (c + e * d * ns.length)) := by
  have h := sum_bound (m := c + e * d * ns.length) (xs := ts.map fun t => t.2 * wt ns low t.1) fun x hx => by
    obtain ⟨t, htm, rfl⟩ := List.mem_map.mp hx
    exact abs_mul_le (ht t htm).1 (wt_bound hn (ht t htm).2)
  rw [List.length_map] at h
  refine Nat.le_trans h ?_
  rw [show 2 ^ (k + (c + e * d * ns.length)) = 2 ^ k * 2 ^ (c + e * d * ns.length) from Nat.pow_add _ _ _]
  exact Nat.mul_le_mul_right _ hk
theorem sum_perm {l m : List Int} (h : l.Perm m) : l.sum = m.sum := by
  induction h with
  | nil => rfl
  | cons x _ ih => rw [List.sum_cons, List.sum_cons, ih]
  | swap x y l => simp only [List.sum_cons]; omega
  | trans _ _ h1 h2 => exact h1.trans h2
theorem sum_filter (p : List Int → Bool) (f : List Int → Int) (h : ∀ k, p k = false → f k = 0) : ∀ l : List (List Int), ((l.filter p).map f).sum = (l.map f).sum
  | [] => rfl
  | k :: r => by
    have ih := sum_filter p f h r
    cases e : p k with
    | true => rw [List.filter_cons, if_pos e, List.map_cons, List.map_cons, List.sum_cons, List.sum_cons, ih]
    | false => rw [List.filter_cons, if_neg (by rw [e]; decide), List.map_cons, List.sum_cons, ih, h k e, Int.zero_add]
/-- a sum over a dict is that over what is written of it -/
theorem sum_wr {L : List Tr} (nd : Nd L) (f : List Int → Int) : ((wrL L).map fun t => t.2 * f t.1).sum = (L.map fun t => t.2 * f t.1).sum := by
  unfold wrL
  rw [List.map_map]
  show (((srt (keys L)).filter fun k => decide (vaL L k ≠ 0)).map fun k => vaL L k * f k).sum = _
  rw [sum_filter _ (fun k => vaL L k * f k) fun k hk => by
    have : vaL L k = 0 := by simpa using hk
    show vaL L k * f k = 0
    rw [this, Int.zero_mul]]
  have hp : (srt (keys L)).Perm (keys L) := List.mergeSort_perm _ _
  rw [sum_perm (hp.map _)]
  unfold keys
  rw [List.map_map]
  congr 1
  refine List.map_congr_left fun t ht => ?_
  show vaL L t.1 * f t.1 = t.2 * f t.1
  have : vaL L t.1 = t.2 := by unfold vaL; rw [lkL_of_mem nd ht]; rfl
  rw [this]
theorem wsum_wr {L : List Tr} (nd : Nd L) (ns low : List Int) : wsum ns low (wrL L) = wsum ns low L := sum_wr nd fun p => wt ns low p
end VL
/-! VL27: bits for the laws of sums. -/
namespace VL
open PySem PySem.Spec PyProof.Rows L2
theorem nwS {S : Sto} {p : Addr} (hp : S p = none) (o : MO) : ∃ G, put S p o = G ∧ Le S G ∧ G p = some o := ⟨_, rfl, (Le.refl S).new hp, put_same⟩
theorem put_self {S : Sto} {p : Addr} {o : MO} (h : S p = some o) : put S p o = S := by
  funext b; unfold put
  by_cases e : b = p
  · rw [if_pos e, e, h]
  · rw [if_neg e]
/-- an object of S changed: what S tells of others stays -/
theorem upS {S : Sto} {p : Addr} {o0 : MO} (hp : S p = some o0) (o : MO) : ∃ G, put S p o = G ∧ G p = some o ∧ (∀ q, q ≠ p → G q = S q) ∧ ∀ F : Sto, F p = none → Le F S → Le F G :=
  ⟨_, rfl, put_same, fun q h => put_ne h, fun F h l b u e => by rw [put_ne (sne e h)]; exact l b u e⟩
theorem puL_mem {L : List Tr} {k : List Int} {v : Int} {t : Tr} (h : t ∈ puL L k v) : t = (k, v) ∨ t ∈ L := by
  unfold puL at h
  split at h
  · obtain ⟨u, hu, rfl⟩ := List.mem_map.mp h
    by_cases e : u.1 = k
    · rw [if_pos e]; exact .inl (by rw [← e])
    · rw [if_neg e]; exact .inr hu
  · rcases List.mem_append.mp h with h | h
    · exact .inr h
    · exact .inl (List.mem_singleton.mp h)
theorem wr_perm {L : List Tr} (nd : Nd L) (nz : ∀ t ∈ L, t.2 ≠ 0) : (wrL L).Perm L := by
  have hv : ∀ t ∈ L, vaL L t.1 = t.2 := fun t ht => by unfold vaL; rw [lkL_of_mem nd ht]; rfl
  have e1 : (srt (keys L)).filter (fun k => decide (vaL L k ≠ 0)) = srt (keys L) := List.filter_eq_self.mpr fun k hk => by
    obtain ⟨t, ht, rfl⟩ := List.mem_map.mp (srt_mem.mp hk)
    rw [hv t ht]; simpa using nz t ht
  have e2 : (keys L).map (fun k => (k, vaL L k)) = L := by
    unfold keys
    rw [List.map_map]
    have : ∀ t ∈ L, ((fun k => (k, vaL L k)) ∘ fun t : Tr => t.1) t = id t := fun t ht => by
      show (t.1, vaL L t.1) = t
      rw [hv t ht]
    rw [List.map_congr_left this, List.map_id]
  unfold wrL
  rw [e1]
  refine List.Perm.trans ((List.mergeSort_perm _ _).map _) ?_
  rw [e2]
theorem wr_length (L : List Tr) : (wrL L).length ≤ L.length := by
  unfold wrL
  rw [List.length_map]
  refine Nat.le_trans (List.length_filter_le _ _) ?_
  rw [srt_length]; unfold keys; rw [List.length_map]; exact Nat.le_refl _
theorem wr_at {L : List Tr} (nd : Nd L) {t : Tr} (h : t ∈ wrL L) : t ∈ L ∧ t.2 ≠ 0 := by
  unfold wrL at h
  obtain ⟨k, hk, rfl⟩ := List.mem_map.mp h
  obtain ⟨h1, h2⟩ := List.mem_filter.mp hk
  obtain ⟨u, hu, rfl⟩ := List.mem_map.mp (srt_mem.mp h1)
  have e : vaL L u.1 = u.2 := by unfold vaL; rw [lkL_of_mem nd hu]; rfl
  refine ⟨by rw [e]; exact hu, by simpa using h2⟩
theorem lc_ints {n : Nat} {lo : Int} {ok : Sto → Prop} {g : RG} {te : RE} {τw : VS} {S : Sto} {Q : List D → Sto → Prop} (f : Nat → D) (hok : ok S)
    (hs : ∀ i, i < n → ∀ K' : KE, K' (f i) S → g (.int (lo + (i : Int))) τw S fun τ2 S2 => te τ2 S2 K') (hd : Q ((List.range n).map f) S) : lcR ok g VL.tYes te τw (intsD lo n) S Q := by
  unfold intsD
  exact lc_map2 (f := f) hok (fun i hi => hs i (List.mem_range.mp hi)) hd
theorem atI_last {α : Type} {xs : List α} (h : xs ≠ []) : L2.atI xs (-1) = xs[xs.length - 1]? := by
  unfold L2.atI ixN
  have : 0 < xs.length := List.length_pos_iff.mpr h
  rw [if_neg (by decide), if_pos (by omega)]
  show xs[((-1 : Int) + (xs.length : Int)).toNat]? = _
  rw [show ((-1 : Int) + (xs.length : Int)).toNat = xs.length - 1 from by omega]
theorem ints_pl (n : Nat) : intsD 0 n = List.map D.int ((List.range n).map fun i : Nat => (0 : Int) + (i : Int)) := by
  unfold intsD; rw [List.map_map]; rfl
theorem dD_items (L : List Tr) : (dD L).map (fun kv => (D.tup [tI kv.1, kv.2])) = L.map terD := by unfold dD; rw [List.map_map]; rfl
theorem dD_tI (L : List Tr) : (dD L).map (fun kv => tI kv.1) = L.map fun t => tI t.1 := by unfold dD; rw [List.map_map]; rfl
/-- the place i of a list's images -/
theorem map_at {α β : Type} {f : α → β} {xs : List α} {i : Nat} {y : β} (h : (xs.map f)[i]? = some y) : ∃ x, xs[i]? = some x ∧ y = f x := by
  rw [List.getElem?_map] at h
  cases q : xs[i]? with
  | none => rw [q] at h; cases h
  | some x => rw [q] at h; exact ⟨x, rfl, (Option.some.inj h).symm⟩
theorem take_snoc {α : Type} {xs : List α} {i : Nat} {x : α} (h : xs[i]? = some x) : xs.take (i + 1) = xs.take i ++ [x] := by rw [List.take_add_one, h]; rfl
theorem getD_of {xs : List Int} {i : Nat} {x : Int} (h : xs[i]? = some x) : xs.getD i 0 = x := by rw [List.getD_eq_getElem?_getD, h]; rfl
/-- the items of a zip of lists of one length -/
theorem zip3_at {xs ys zs : List D} {n i : Nat} {x : D} (h : (zipD [xs, ys, zs] n)[i]? = some x) : i < n ∧ x = .tup [xs.getD i .non, ys.getD i .non, zs.getD i .non] := by
  obtain ⟨_, hi, e⟩ := zipD_at h
  exact ⟨hi, e⟩
theorem zip2_at {xs ys : List D} {n i : Nat} {x : D} (h : (zipD [xs, ys] n)[i]? = some x) : i < n ∧ x = .tup [xs.getD i .non, ys.getD i .non] := by
  obtain ⟨_, hi, e⟩ := zipD_at h
  exact ⟨hi, e⟩
theorem mapD_at {ns : List Int} {i : Nat} (h : i < ns.length) : (ns.map D.int).getD i .non = .int (ns.getD i 0) := by
  rw [List.getD_eq_getElem?_getD, List.getD_eq_getElem?_getD, List.getElem?_map, List.getElem?_eq_getElem h]; rfl
end VL
/-! VL28: more bits for the laws of sums. -/
namespace VL
open PySem PySem.Spec PyProof.Rows L2
theorem getD_dD (L : List Tr) (k : List Int) : (lkD (dD L) k).getD (.int 0) = .int (vaL L k) := by
  rw [lkD_dD]; unfold vaL
  cases lkL L k <;> rfl
/-- eBin unfolded by a rewriting (the kernel must never compare two readings eBin f .. and eBin g .. as they stand) -/
theorem eBin_ap {f : D → D → Sto → KE → Prop} {a b : RE} {τ : VS} {S : Sto} {Q : KE} : eBin f a b τ S Q = a τ S fun x S1 => b τ S1 fun y S2 => f x y S2 Q := propext ⟨fun h => h, fun h => h⟩
theorem cInt_b2 {b : Bool} {S : Sto} {Q : KE} : cInt [.bl b] S Q = Q (.int (b2i b)) S := rfl
end VL
/-! the law k03: value -/
namespace LW
open PySem PySem.Spec PyProof.Rows L2 VL
def topS (i : Nat) : Stmt := PySem.Challenge.pw_neverhalves_k03_whole_values_as_fraction.main.body.getD i (.Pass ⟨0, 0, 0, 0⟩)
abbrev s_counted : Stmt := topS 8
abbrev N_counted : List Str := ["told", "powers", "coefficient"]
theorem sc_counted : FnScope ["told", "powers", "coefficient"] ["told"] (defScope s_counted) := ⟨rfl, rfl, rfl, by decide +kernel, rfl, by decide +kernel, by decide +kernel⟩
abbrev s_looks_right : Stmt := topS 9
abbrev N_looks_right : List Str := ["told", "many", "last", "powers", "coefficient"]
theorem sc_looks_right : FnScope ["told", "many", "last", "powers", "coefficient"] ["told", "many"] (defScope s_looks_right) := ⟨rfl, rfl, rfl, by decide +kernel, rfl, by decide +kernel, by decide +kernel⟩
abbrev s_checked_sum : Stmt := topS 10
abbrev N_checked_sum : List Str := ["told", "many"]
theorem sc_checked_sum : FnScope ["told", "many"] ["told", "many"] (defScope s_checked_sum) := ⟨rfl, rfl, rfl, by decide +kernel, rfl, by decide +kernel, by decide +kernel⟩
abbrev s_checked_sums : Stmt := topS 11
abbrev N_checked_sums : List Str := ["sums", "many", "told"]
theorem sc_checked_sums : FnScope ["sums", "many", "told"] ["sums"] (defScope s_checked_sums) := ⟨rfl, rfl, rfl, by decide +kernel, rfl, by decide +kernel, by decide +kernel⟩
abbrev s_least_of : Stmt := topS 12
abbrev N_least_of : List Str := ["one", "column"]
theorem sc_least_of : FnScope ["one", "column"] ["one"] (defScope s_least_of) := ⟨rfl, rfl, rfl, by decide +kernel, rfl, by decide +kernel, by decide +kernel⟩
abbrev s_greatest_of : Stmt := topS 13
abbrev N_greatest_of : List Str := ["one", "column"]
theorem sc_greatest_of : FnScope ["one", "column"] ["one"] (defScope s_greatest_of) := ⟨rfl, rfl, rfl, by decide +kernel, rfl, by decide +kernel, by decide +kernel⟩
abbrev s_worth_above : Stmt := topS 14
abbrev N_worth_above : List Str := ["one", "numbers", "low", "rows", "total", "number", "top", "bottom", "row", "_", "powers", "coefficient", "part", "power"]
theorem sc_worth_above : FnScope ["one", "numbers", "low", "rows", "total", "number", "top", "bottom", "row", "_", "powers", "coefficient", "part", "power"] ["one", "numbers", "low"] (defScope s_worth_above) := ⟨rfl, rfl, rfl, by decide +kernel, rfl, by decide +kernel, by decide +kernel⟩
abbrev s_value : Stmt := topS 16
abbrev N_value : List Str := ["one", "numbers", "many", "terms", "low", "top", "bottom", "shared", "number", "least", "_"]
theorem sc_value : FnScope ["one", "numbers", "many", "terms", "low", "top", "bottom", "shared", "number", "least", "_"] ["one", "numbers"] (defScope s_value) := ⟨rfl, rfl, rfl, by decide +kernel, rfl, by decide +kernel, by decide +kernel⟩
abbrev s_l_stock : Stmt := topS 18
abbrev N_l_stock : List Str := ["_law_script", "_law_stock_here", "_law_cell"]
theorem sc_l_stock : FnScope ["_law_script", "_law_stock_here", "_law_cell"] ["_law_script"] (defScope s_l_stock) := ⟨rfl, rfl, rfl, by decide +kernel, rfl, by decide +kernel, by decide +kernel⟩
abbrev s_l_pick : Stmt := topS 19
abbrev N_l_pick : List Str := ["_law_stock_here", "_law_limit", "_law_turn", "_law_found"]
theorem sc_l_pick : FnScope ["_law_stock_here", "_law_limit", "_law_turn", "_law_found"] ["_law_stock_here", "_law_limit"] (defScope s_l_pick) := ⟨rfl, rfl, rfl, by decide +kernel, rfl, by decide +kernel, by decide +kernel⟩
abbrev s_l_wide : Stmt := topS 20
abbrev N_l_wide : List Str := ["_law_stock_here", "_law_limit", "_law_total", "_law_k"]
theorem sc_l_wide : FnScope ["_law_stock_here", "_law_limit", "_law_total", "_law_k"] ["_law_stock_here", "_law_limit"] (defScope s_l_wide) := ⟨rfl, rfl, rfl, by decide +kernel, rfl, by decide +kernel, by decide +kernel⟩
abbrev s_l_same : Stmt := topS 21
abbrev N_l_same : List Str := ["_law_told", "_law_due", "_law_one", "_law_other"]
theorem sc_l_same : FnScope ["_law_told", "_law_due", "_law_one", "_law_other"] ["_law_told", "_law_due"] (defScope s_l_same) := ⟨rfl, rfl, rfl, by decide +kernel, rfl, by decide +kernel, by decide +kernel⟩
abbrev s_l_written : Stmt := topS 22
abbrev N_l_written : List Str := ["_law_terms_here", "_law_powers"]
theorem sc_l_written : FnScope ["_law_terms_here", "_law_powers"] ["_law_terms_here"] (defScope s_l_written) := ⟨rfl, rfl, rfl, by decide +kernel, rfl, by decide +kernel, by decide +kernel⟩
abbrev s_l_plus : Stmt := topS 23
abbrev N_l_plus : List Str := ["_law_one", "_law_other", "_law_result", "_law_terms_here", "_law_powers"]
theorem sc_l_plus : FnScope ["_law_one", "_law_other", "_law_result", "_law_terms_here", "_law_powers"] ["_law_one", "_law_other"] (defScope s_l_plus) := ⟨rfl, rfl, rfl, by decide +kernel, rfl, by decide +kernel, by decide +kernel⟩
abbrev s_l_terms : Stmt := topS 25
abbrev N_l_terms : List Str := ["_law_stock_here", "_law_many", "_law_most", "_law_span", "_law_great", "_law_terms_here", "_law_k", "_law_powers", "_law_j"]
theorem sc_l_terms : FnScope ["_law_stock_here", "_law_many", "_law_most", "_law_span", "_law_great", "_law_terms_here", "_law_k", "_law_powers", "_law_j"] ["_law_stock_here", "_law_many", "_law_most", "_law_span", "_law_great"] (defScope s_l_terms) := ⟨rfl, rfl, rfl, by decide +kernel, rfl, by decide +kernel, by decide +kernel⟩
abbrev s_l_gcd : Stmt := topS 26
abbrev N_l_gcd : List Str := ["_law_one", "_law_other"]
theorem sc_l_gcd : FnScope ["_law_one", "_law_other"] ["_law_one", "_law_other"] (defScope s_l_gcd) := ⟨rfl, rfl, rfl, by decide +kernel, rfl, by decide +kernel, by decide +kernel⟩
abbrev s_l_lowest : Stmt := topS 27
abbrev N_l_lowest : List Str := ["_law_top", "_law_bottom", "_law_shared"]
theorem sc_l_lowest : FnScope ["_law_top", "_law_bottom", "_law_shared"] ["_law_top", "_law_bottom"] (defScope s_l_lowest) := ⟨rfl, rfl, rfl, by decide +kernel, rfl, by decide +kernel, by decide +kernel⟩
abbrev s_l_worth : Stmt := topS 28
abbrev N_l_worth : List Str := ["_law_terms_here", "_law_numbers_here", "_law_rows", "_law_number", "_law_row", "_law_powers", "_law_k", "_law_top", "_law_bottom", "_law_part", "_law_power"]
theorem sc_l_worth : FnScope ["_law_terms_here", "_law_numbers_here", "_law_rows", "_law_number", "_law_row", "_law_powers", "_law_k", "_law_top", "_law_bottom", "_law_part", "_law_power"] ["_law_terms_here", "_law_numbers_here"] (defScope s_l_worth) := ⟨rfl, rfl, rfl, by decide +kernel, rfl, by decide +kernel, by decide +kernel⟩
abbrev s_l_numbers : Stmt := topS 29
abbrev N_l_numbers : List Str := ["_law_stock_here", "_law_many", "_law_numbers_here", "_law_j", "_law_number"]
theorem sc_l_numbers : FnScope ["_law_stock_here", "_law_many", "_law_numbers_here", "_law_j", "_law_number"] ["_law_stock_here", "_law_many"] (defScope s_l_numbers) := ⟨rfl, rfl, rfl, by decide +kernel, rfl, by decide +kernel, by decide +kernel⟩
abbrev s_l_balanced : Stmt := topS 30
abbrev N_l_balanced : List Str := ["_law_stock_here", "_law_many", "_law_more", "_law_terms_here", "_law_numbers_here", "_law_result", "_law_powers", "_law_top", "_law_bottom", "_law_j"]
theorem sc_l_balanced : FnScope ["_law_stock_here", "_law_many", "_law_more", "_law_terms_here", "_law_numbers_here", "_law_result", "_law_powers", "_law_top", "_law_bottom", "_law_j"] ["_law_stock_here", "_law_many", "_law_more"] (defScope s_l_balanced) := ⟨rfl, rfl, rfl, by decide +kernel, rfl, by decide +kernel, by decide +kernel⟩
abbrev s_l_long : Stmt := topS 31
abbrev N_l_long : List Str := ["_law_stock_here", "_law_many", "_law_steps", "_law_k", "_law_terms_here", "_law_great", "_law_powers", "_law_j", "_law_a", "_law_b", "_law_c"]
theorem sc_l_long : FnScope ["_law_stock_here", "_law_many", "_law_steps", "_law_k", "_law_terms_here", "_law_great", "_law_powers", "_law_j", "_law_a", "_law_b", "_law_c"] ["_law_stock_here", "_law_many"] (defScope s_l_long) := ⟨rfl, rfl, rfl, by decide +kernel, rfl, by decide +kernel, by decide +kernel⟩
abbrev s_l_is_told : Stmt := topS 32
abbrev N_l_is_told : List Str := ["_law_terms_here", "_law_numbers_here", "_law_due", "_law_one", "_law_given"]
theorem sc_l_is_told : FnScope ["_law_terms_here", "_law_numbers_here", "_law_due", "_law_one", "_law_given"] ["_law_terms_here", "_law_numbers_here"] (defScope s_l_is_told) := ⟨rfl, rfl, rfl, by decide +kernel, rfl, by decide +kernel, by decide +kernel⟩
abbrev s_law : Stmt := topS 33
abbrev N_law : List Str := ["_law_script", "_law_stock_here", "_law_turn", "_law_many", "_law_given", "_law_way", "_law_span", "_law_great", "_law_terms_here", "_law_numbers_here", "_law_j", "_law_number"]
theorem sc_law : FnScope ["_law_script", "_law_stock_here", "_law_turn", "_law_many", "_law_given", "_law_way", "_law_span", "_law_great", "_law_terms_here", "_law_numbers_here", "_law_j", "_law_number"] ["_law_script"] (defScope s_law) := ⟨rfl, rfl, rfl, by decide +kernel, rfl, by decide +kernel, by decide +kernel⟩
/-- what the top leaves -/
structure Tp (K : PySem.W.Frag) (mg : Str → Option Value) where
  a_counted : Addr
  d_counted : FuncData
  F_counted : Fun K "counted" "counted" s_counted a_counted d_counted
  g_counted : mg "counted" = some (.ref a_counted)
  a_looks_right : Addr
  d_looks_right : FuncData
  F_looks_right : Fun K "looks_right" "looks_right" s_looks_right a_looks_right d_looks_right
  g_looks_right : mg "looks_right" = some (.ref a_looks_right)
  a_checked_sum : Addr
  d_checked_sum : FuncData
  F_checked_sum : Fun K "checked_sum" "checked_sum" s_checked_sum a_checked_sum d_checked_sum
  g_checked_sum : mg "checked_sum" = some (.ref a_checked_sum)
  a_checked_sums : Addr
  d_checked_sums : FuncData
  F_checked_sums : Fun K "checked_sums" "checked_sums" s_checked_sums a_checked_sums d_checked_sums
  g_checked_sums : mg "checked_sums" = some (.ref a_checked_sums)
  a_least_of : Addr
  d_least_of : FuncData
  F_least_of : Fun K "least_of" "least_of" s_least_of a_least_of d_least_of
  g_least_of : mg "least_of" = some (.ref a_least_of)
  a_greatest_of : Addr
  d_greatest_of : FuncData
  F_greatest_of : Fun K "greatest_of" "greatest_of" s_greatest_of a_greatest_of d_greatest_of
  g_greatest_of : mg "greatest_of" = some (.ref a_greatest_of)
  a_worth_above : Addr
  d_worth_above : FuncData
  F_worth_above : Fun K "worth_above" "worth_above" s_worth_above a_worth_above d_worth_above
  g_worth_above : mg "worth_above" = some (.ref a_worth_above)
  a_value : Addr
  d_value : FuncData
  F_value : Fun K "value" "value" s_value a_value d_value
  g_value : mg "value" = some (.ref a_value)
  a_l_stock : Addr
  d_l_stock : FuncData
  F_l_stock : Fun K "_law_stock" "_law_stock" s_l_stock a_l_stock d_l_stock
  g_l_stock : mg "_law_stock" = some (.ref a_l_stock)
  a_l_pick : Addr
  d_l_pick : FuncData
  F_l_pick : Fun K "_law_pick" "_law_pick" s_l_pick a_l_pick d_l_pick
  g_l_pick : mg "_law_pick" = some (.ref a_l_pick)
  a_l_wide : Addr
  d_l_wide : FuncData
  F_l_wide : Fun K "_law_wide" "_law_wide" s_l_wide a_l_wide d_l_wide
  g_l_wide : mg "_law_wide" = some (.ref a_l_wide)
  a_l_same : Addr
  d_l_same : FuncData
  F_l_same : Fun K "_law_same" "_law_same" s_l_same a_l_same d_l_same
  g_l_same : mg "_law_same" = some (.ref a_l_same)
  a_l_written : Addr
  d_l_written : FuncData
  F_l_written : Fun K "_law_written" "_law_written" s_l_written a_l_written d_l_written
  g_l_written : mg "_law_written" = some (.ref a_l_written)
  a_l_plus : Addr
  d_l_plus : FuncData
  F_l_plus : Fun K "_law_plus" "_law_plus" s_l_plus a_l_plus d_l_plus
  g_l_plus : mg "_law_plus" = some (.ref a_l_plus)
  a_l_terms : Addr
  d_l_terms : FuncData
  F_l_terms : Fun K "_law_terms" "_law_terms" s_l_terms a_l_terms d_l_terms
  g_l_terms : mg "_law_terms" = some (.ref a_l_terms)
  a_l_gcd : Addr
  d_l_gcd : FuncData
  F_l_gcd : Fun K "_law_gcd" "_law_gcd" s_l_gcd a_l_gcd d_l_gcd
  g_l_gcd : mg "_law_gcd" = some (.ref a_l_gcd)
  a_l_lowest : Addr
  d_l_lowest : FuncData
  F_l_lowest : Fun K "_law_lowest" "_law_lowest" s_l_lowest a_l_lowest d_l_lowest
  g_l_lowest : mg "_law_lowest" = some (.ref a_l_lowest)
  a_l_worth : Addr
  d_l_worth : FuncData
  F_l_worth : Fun K "_law_worth" "_law_worth" s_l_worth a_l_worth d_l_worth
  g_l_worth : mg "_law_worth" = some (.ref a_l_worth)
  a_l_numbers : Addr
  d_l_numbers : FuncData
  F_l_numbers : Fun K "_law_numbers" "_law_numbers" s_l_numbers a_l_numbers d_l_numbers
  g_l_numbers : mg "_law_numbers" = some (.ref a_l_numbers)
  a_l_balanced : Addr
  d_l_balanced : FuncData
  F_l_balanced : Fun K "_law_balanced" "_law_balanced" s_l_balanced a_l_balanced d_l_balanced
  g_l_balanced : mg "_law_balanced" = some (.ref a_l_balanced)
  a_l_long : Addr
  d_l_long : FuncData
  F_l_long : Fun K "_law_long" "_law_long" s_l_long a_l_long d_l_long
  g_l_long : mg "_law_long" = some (.ref a_l_long)
  a_l_is_told : Addr
  d_l_is_told : FuncData
  F_l_is_told : Fun K "_law_is_told" "_law_is_told" s_l_is_told a_l_is_told d_l_is_told
  g_l_is_told : mg "_law_is_told" = some (.ref a_l_is_told)
  a_law : Addr
  d_law : FuncData
  F_law : Fun K "law" "law" s_law a_law d_law
  g_law : mg "law" = some (.ref a_law)
  z_abs : mg "abs" = none
  z_bool : mg "bool" = none
  z_gcd : mg "gcd" = some (.builtin "math.gcd")
  z_int : mg "int" = none
  z_isinstance : mg "isinstance" = none
  z_len : mg "len" = none
  z_list : mg "list" = none
  z_max : mg "max" = none
  z_min : mg "min" = none
  z_range : mg "range" = none
  z_sorted : mg "sorted" = none
  z_str : mg "str" = none
  z_tuple : mg "tuple" = none
  z_zip : mg "zip" = none
theorem bi_counted {K : PySem.W.Frag} {mg : Str → Option Value} (T : Tp K mg) : Binds K T.d_counted ["told"] [] := T.F_counted.binds (ps := ["told"]) fun _ _ _ _ _ _ us hl => match us, hl with | [_], _ => rfl
theorem bi_looks_right {K : PySem.W.Frag} {mg : Str → Option Value} (T : Tp K mg) : Binds K T.d_looks_right ["told", "many"] [] := T.F_looks_right.binds (ps := ["told", "many"]) fun _ _ _ _ _ _ us hl => match us, hl with | [_, _], _ => rfl
theorem bi_checked_sum {K : PySem.W.Frag} {mg : Str → Option Value} (T : Tp K mg) : Binds K T.d_checked_sum ["told", "many"] [] := T.F_checked_sum.binds (ps := ["told", "many"]) fun _ _ _ _ _ _ us hl => match us, hl with | [_, _], _ => rfl
theorem bi_checked_sums {K : PySem.W.Frag} {mg : Str → Option Value} (T : Tp K mg) : Binds K T.d_checked_sums ["sums"] [] := T.F_checked_sums.binds (ps := ["sums"]) fun _ _ _ _ _ _ us hl => match us, hl with | [_], _ => rfl
theorem bi_least_of {K : PySem.W.Frag} {mg : Str → Option Value} (T : Tp K mg) : Binds K T.d_least_of ["one"] [] := T.F_least_of.binds (ps := ["one"]) fun _ _ _ _ _ _ us hl => match us, hl with | [_], _ => rfl
theorem bi_greatest_of {K : PySem.W.Frag} {mg : Str → Option Value} (T : Tp K mg) : Binds K T.d_greatest_of ["one"] [] := T.F_greatest_of.binds (ps := ["one"]) fun _ _ _ _ _ _ us hl => match us, hl with | [_], _ => rfl
theorem bi_worth_above {K : PySem.W.Frag} {mg : Str → Option Value} (T : Tp K mg) : Binds K T.d_worth_above ["one", "numbers", "low"] [] := T.F_worth_above.binds (ps := ["one", "numbers", "low"]) fun _ _ _ _ _ _ us hl => match us, hl with | [_, _, _], _ => rfl
theorem bi_value {K : PySem.W.Frag} {mg : Str → Option Value} (T : Tp K mg) : Binds K T.d_value ["one", "numbers"] [] := T.F_value.binds (ps := ["one", "numbers"]) fun _ _ _ _ _ _ us hl => match us, hl with | [_, _], _ => rfl
theorem bi_l_stock {K : PySem.W.Frag} {mg : Str → Option Value} (T : Tp K mg) : Binds K T.d_l_stock ["_law_script"] [] := T.F_l_stock.binds (ps := ["_law_script"]) fun _ _ _ _ _ _ us hl => match us, hl with | [_], _ => rfl
theorem bi_l_pick {K : PySem.W.Frag} {mg : Str → Option Value} (T : Tp K mg) : Binds K T.d_l_pick ["_law_stock_here", "_law_limit"] [] := T.F_l_pick.binds (ps := ["_law_stock_here", "_law_limit"]) fun _ _ _ _ _ _ us hl => match us, hl with | [_, _], _ => rfl
theorem bi_l_wide {K : PySem.W.Frag} {mg : Str → Option Value} (T : Tp K mg) : Binds K T.d_l_wide ["_law_stock_here", "_law_limit"] [] := T.F_l_wide.binds (ps := ["_law_stock_here", "_law_limit"]) fun _ _ _ _ _ _ us hl => match us, hl with | [_, _], _ => rfl
theorem bi_l_same {K : PySem.W.Frag} {mg : Str → Option Value} (T : Tp K mg) : Binds K T.d_l_same ["_law_told", "_law_due"] [] := T.F_l_same.binds (ps := ["_law_told", "_law_due"]) fun _ _ _ _ _ _ us hl => match us, hl with | [_, _], _ => rfl
theorem bi_l_written {K : PySem.W.Frag} {mg : Str → Option Value} (T : Tp K mg) : Binds K T.d_l_written ["_law_terms_here"] [] := T.F_l_written.binds (ps := ["_law_terms_here"]) fun _ _ _ _ _ _ us hl => match us, hl with | [_], _ => rfl
theorem bi_l_plus {K : PySem.W.Frag} {mg : Str → Option Value} (T : Tp K mg) : Binds K T.d_l_plus ["_law_one", "_law_other"] [] := T.F_l_plus.binds (ps := ["_law_one", "_law_other"]) fun _ _ _ _ _ _ us hl => match us, hl with | [_, _], _ => rfl
theorem bi_l_terms {K : PySem.W.Frag} {mg : Str → Option Value} (T : Tp K mg) : Binds K T.d_l_terms ["_law_stock_here", "_law_many", "_law_most", "_law_span", "_law_great"] [] := T.F_l_terms.binds (ps := ["_law_stock_here", "_law_many", "_law_most", "_law_span", "_law_great"]) fun _ _ _ _ _ _ us hl => match us, hl with | [_, _, _, _, _], _ => rfl
theorem bi_l_gcd {K : PySem.W.Frag} {mg : Str → Option Value} (T : Tp K mg) : Binds K T.d_l_gcd ["_law_one", "_law_other"] [] := T.F_l_gcd.binds (ps := ["_law_one", "_law_other"]) fun _ _ _ _ _ _ us hl => match us, hl with | [_, _], _ => rfl
theorem bi_l_lowest {K : PySem.W.Frag} {mg : Str → Option Value} (T : Tp K mg) : Binds K T.d_l_lowest ["_law_top", "_law_bottom"] [] := T.F_l_lowest.binds (ps := ["_law_top", "_law_bottom"]) fun _ _ _ _ _ _ us hl => match us, hl with | [_, _], _ => rfl
theorem bi_l_worth {K : PySem.W.Frag} {mg : Str → Option Value} (T : Tp K mg) : Binds K T.d_l_worth ["_law_terms_here", "_law_numbers_here"] [] := T.F_l_worth.binds (ps := ["_law_terms_here", "_law_numbers_here"]) fun _ _ _ _ _ _ us hl => match us, hl with | [_, _], _ => rfl
theorem bi_l_numbers {K : PySem.W.Frag} {mg : Str → Option Value} (T : Tp K mg) : Binds K T.d_l_numbers ["_law_stock_here", "_law_many"] [] := T.F_l_numbers.binds (ps := ["_law_stock_here", "_law_many"]) fun _ _ _ _ _ _ us hl => match us, hl with | [_, _], _ => rfl
theorem bi_l_balanced {K : PySem.W.Frag} {mg : Str → Option Value} (T : Tp K mg) : Binds K T.d_l_balanced ["_law_stock_here", "_law_many", "_law_more"] [] := T.F_l_balanced.binds (ps := ["_law_stock_here", "_law_many", "_law_more"]) fun _ _ _ _ _ _ us hl => match us, hl with | [_, _, _], _ => rfl
theorem bi_l_long {K : PySem.W.Frag} {mg : Str → Option Value} (T : Tp K mg) : Binds K T.d_l_long ["_law_stock_here", "_law_many"] [] := T.F_l_long.binds (ps := ["_law_stock_here", "_law_many"]) fun _ _ _ _ _ _ us hl => match us, hl with | [_, _], _ => rfl
theorem bi_l_is_told {K : PySem.W.Frag} {mg : Str → Option Value} (T : Tp K mg) : Binds K T.d_l_is_told ["_law_terms_here", "_law_numbers_here"] [] := T.F_l_is_told.binds (ps := ["_law_terms_here", "_law_numbers_here"]) fun _ _ _ _ _ _ us hl => match us, hl with | [_, _], _ => rfl
theorem bi_law {K : PySem.W.Frag} {mg : Str → Option Value} (T : Tp K mg) : Binds K T.d_law ["_law_script"] [] := T.F_law.binds (ps := ["_law_script"]) fun _ _ _ _ _ _ us hl => match us, hl with | [_], _ => rfl
end LW
namespace LW
open PySem PySem.Spec PyProof.Rows L2 VL
local macro_rules | `(tactic| walk_at "v") => `(tactic| simp only [sSeq, sAsg, sFor, sRet, sRetN, sIf, sNext, sDrop, sPar, sAug, VL.sDPut, eVar, eC, eBin, eUn, eCB, eCall, eCallK, eArgs, eTup, eLst, eIf, eNot, eAnd, eOr, eDNew, eDGet2, eSl, oNone, oSome, eRev, eM0, eM, eLc, eLcF, Tg.R, tVal, VL.tNot, VL.tAnd, VL.tOr, VL.tYes, sl, wipeV, VL.gName, VL.gTupN, VL.gSub, gAll, VL.iTup, iLst, iScr, VL.iRng1, VL.iRng2, vAdd_int, vAdd_ib, vAdd_str, vAdd_tup, vAdd_tI, vAdd_ref, VL.vInt, VL.vInt0, vMul_int, vMul_ref, vMul_tup, vNeg, vCmp, vEq_int, vEq_bl, vEq_str, vNe_int, vNe_bl, vNe_str, vLt_int, vIsN_non, vNotN_non, vIsN_int, vNotN_int, vIsN_bl, vNotN_bl, vIsN_str, vNotN_str, vIsN_ref, vNotN_ref, vIsN_tup, vNotN_tup, vIsN_tI, vNotN_tI, vLt_tI, cLen_tI, vDGet_tI, vDPut_tI, vDGet2_tI, cLen_tup, cLen_scr, cLen_str, cLen_ref, cLenD_ref, ci_non_bool, ci_non_int, ci_non_str, ci_non_list, ci_non_tuple, ci_non_dict, ci_bl_bool, ci_bl_int, ci_bl_str, ci_bl_list, ci_bl_tuple, ci_bl_dict, ci_int_bool, ci_int_int, ci_int_str, ci_int_list, ci_int_tuple, ci_int_dict, ci_str_bool, ci_str_int, ci_str_str, ci_str_list, ci_str_tuple, ci_str_dict, ci_tup_bool, ci_tup_int, ci_tup_str, ci_tup_list, ci_tup_tuple, ci_tup_dict, vIn_tI, vIn_int, vDDel_tI, VL.sDDelT, VL.eDc, VL.sLock, VL.eLock, VL.unE, VL.iZip, VL.iZipD, VL.iEnum, VL.iKeyT, VL.eLRg1, VL.eD1, VL.iItemsT, VL.cGcd, eArgs, cList_tI, cInt_int, cInt_bl, cAbs, cMax2_int, cMin2_int, isT, mPop, mAppend, vIx_p0, vIx_p1, vSl_tI, vIx_stk0, vIx_stk1, vIx_stk2, vIx_stk3, vLSet_stk1, vLSet_stk2, vLSet_stk3, stk_a, List.set, startV, List.map_cons, List.map_nil, List.replicate, List.append_eq, List.nil_append, List.cons_append, List.length_cons, List.length_nil, List.length_map, if_true, Bool.false_eq_true, if_false, reduceIte, Bool.not_true, Bool.not_false, true_and, and_true, false_or, or_false, Bool.not_eq_eq_eq_not, decide_eq_true_eq, decide_eq_false_iff_not, reduceCtorEq])
/-! ### the stock and its draws -/
abbrev sp_l_pick := sp_pick
abbrev sp_l_stock := sp_stock
theorem len_l_pick {ds S Q E} (h : sp_l_pick ds S Q E) : ds.length = 2 := by
  obtain ⟨F, a, c, w, n, limit, rfl, _⟩ := h; rfl
theorem len_l_stock {ds S Q E} (h : sp_l_stock ds S Q E) : ds.length = 1 := by
  obtain ⟨_, rfl, _⟩ := h; rfl
def rd_l_pick_k1 : RS := sSeq (sAsg (eBin vAdd (eBin vIx (eVar 0) (eC (.int 3))) (eC (.int 1))) (gSub (eVar 0) (eC (.int 3)))) (sSeq (sAsg (eBin vMod (eCB cInt [eBin vPow (eBin vAdd (eBin vIx (eVar 0) (eC (.int 2))) (eBin vMul (eBin vMul (eC (.int 104729)) (eBin vIx (eVar 0) (eC (.int 3)))) (eBin vIx (eVar 0) (eC (.int 3))))) (eC (.int 2))]) (eC (.int 1000000000000000000117))) (gName 2)) (sRet (eBin vMod (eBin vFdiv (eBin vMod (eCB cInt [eBin vMul (eVar 2) (eBin vAdd (eBin vAdd (eVar 2) (eBin vMul (eC (.int 2)) (eBin vIx (eVar 0) (eC (.int 3))))) (eC (.int 1)))]) (eC (.int 1000000000000000000000007))) (eC (.int 65537))) (eVar 1))))
theorem rd_l_pick_k1_eq (D0 : En) (τ : VS) (S : Sto) : rd_l_pick_k1 D0 τ S = (sSeq (sAsg (eBin vAdd (eBin vIx (eVar 0) (eC (.int 3))) (eC (.int 1))) (gSub (eVar 0) (eC (.int 3)))) (sSeq (sAsg (eBin vMod (eCB cInt [eBin vPow (eBin vAdd (eBin vIx (eVar 0) (eC (.int 2))) (eBin vMul (eBin vMul (eC (.int 104729)) (eBin vIx (eVar 0) (eC (.int 3)))) (eBin vIx (eVar 0) (eC (.int 3))))) (eC (.int 2))]) (eC (.int 1000000000000000000117))) (gName 2)) (sRet (eBin vMod (eBin vFdiv (eBin vMod (eCB cInt [eBin vMul (eVar 2) (eBin vAdd (eBin vAdd (eVar 2) (eBin vMul (eC (.int 2)) (eBin vIx (eVar 0) (eC (.int 3))))) (eC (.int 1)))]) (eC (.int 1000000000000000000000007))) (eC (.int 65537))) (eVar 1)))) : RS) D0 τ S := rfl
def rd_l_pick_k2 : RS := sSeq (sIf (tVal (eBin vGt (eBin vIx (eVar 0) (eC (.int 1))) (eC (.int 0)))) (sSeq (sAsg (eBin vMod (eCB cInt [eBin vIx (eVar 0) (eC (.int 1))]) (eVar 1)) (gName 3)) (sSeq (sAsg (eBin vFdiv (eBin vIx (eVar 0) (eC (.int 1))) (eVar 1)) (gSub (eVar 0) (eC (.int 1)))) (sRet (eVar 3)))) sNext) rd_l_pick_k1
theorem rd_l_pick_k2_eq (D0 : En) (τ : VS) (S : Sto) : rd_l_pick_k2 D0 τ S = (sSeq (sIf (tVal (eBin vGt (eBin vIx (eVar 0) (eC (.int 1))) (eC (.int 0)))) (sSeq (sAsg (eBin vMod (eCB cInt [eBin vIx (eVar 0) (eC (.int 1))]) (eVar 1)) (gName 3)) (sSeq (sAsg (eBin vFdiv (eBin vIx (eVar 0) (eC (.int 1))) (eVar 1)) (gSub (eVar 0) (eC (.int 1)))) (sRet (eVar 3)))) sNext) rd_l_pick_k1 : RS) D0 τ S := rfl
def rd_l_pick : RS := sSeq (sIf (tAnd (tVal (eBin vEq (eBin vIx (eVar 0) (eC (.int 1))) (eC (.int 0)))) (tVal (eBin vNe (eBin vIx (eVar 0) (eC (.int 0))) (eLst [])))) (sAsg (eM0 "list" mPop (eBin vIx (eVar 0) (eC (.int 0)))) (gSub (eVar 0) (eC (.int 1)))) sNext) rd_l_pick_k2
theorem rd_l_pick_eq (D0 : En) (τ : VS) (S : Sto) : rd_l_pick D0 τ S = (sSeq (sIf (tAnd (tVal (eBin vEq (eBin vIx (eVar 0) (eC (.int 1))) (eC (.int 0)))) (tVal (eBin vNe (eBin vIx (eVar 0) (eC (.int 0))) (eLst [])))) (sAsg (eM0 "list" mPop (eBin vIx (eVar 0) (eC (.int 0)))) (gSub (eVar 0) (eC (.int 1)))) sNext) rd_l_pick_k2 : RS) D0 τ S := rfl
theorem vc_l_pick {ds S Q E} (h : sp_l_pick ds S Q E) : BodyV N_l_pick ds S Q rd_l_pick := by
  obtain ⟨F, a, c, w, n, limit, rfl, rfl, ap, wk, hn, h1, h2, h⟩ := h
  have fin : ∀ F' w' r, Le F F' → 0 ≤ r → r < limit → Wok w' (n + 1) → ∃ S'', Le S'' (stk F' a c w') ∧ Q (.int r) S'' := fun F' w' r l r0 r1 wk' => ⟨_, stk_mono l, h r w' r0 r1 wk'⟩
  have hl : 0 < limit := by omega
  have hln : limit ≠ 0 := by omega
  have hlog : limit.natAbs.log2 < 9000 := log2_fits (a := 250) (by decide) (by omega)
  rw [BodyV, rd_l_pick_eq]
  have rest : ∀ D0 : En, (∀ F' w' r, Le F F' → 0 ≤ r → r < limit → Wok w' (n + 1) → D0.rt (.int r) (stk F' a c w')) → ∀ F' w' x2 x3, Ap F' a c → Le F F' → Wok w' n → rd_l_pick_k2 D0 [some (.ref a), some (.int limit), x2, x3] (stk F' a c w') := fun D0 hD F' w' x2 x3 ap' l wk' => by
    simp only [rd_l_pick_k2_eq]
    walk_at "v"
    by_cases hop : 0 < w'.op
    · rw [if_pos hop]
      refine ⟨hln, ⟨hln, hlog⟩, ?_⟩
      exact hD _ _ _ l (fmod_range hl).1 (fmod_range hl).2 ⟨wk'.cells, fdiv_nonneg wk'.op hl, wk'.x0, wk'.x1, wk'.k0, Int.le_trans wk'.k1 (by omega)⟩
    · rw [if_neg hop]
      simp only [rd_l_pick_k1_eq]
      walk_at "v"
      have k0 := wk'.k0
      have k1 := wk'.k1
      have x0 := wk'.x0
      have x1 := wk'.x1
      generalize w'.k = k at k0 k1
      have hk : 104729 * (k + 1) ≤ 1047290000000 := by omega
      have hk0 : 0 ≤ 104729 * (k + 1) := by omega
      have e2 : 0 ≤ 104729 * (k + 1) * (k + 1) := Int.mul_nonneg hk0 (by omega)
      have e3 : 104729 * (k + 1) * (k + 1) ≤ 1047290000000 * 10000000 := Int.mul_le_mul hk (by omega) (by omega) (by omega)
      refine ⟨mul_fits (a := 20) (b := 60) (by decide) (by omega), mul_fits (a := 60) (b := 60) (by omega) (by omega), ⟨by decide, by decide, ?_⟩, by decide, mul_fits (a := 4) (b := 60) (by decide) (by omega), ?_⟩
      · generalize 104729 * (k + 1) * (k + 1) = m at e2 e3
        omega
      generalize (w'.x + 104729 * (k + 1) * (k + 1)) ^ (2 : Int).toNat = m
      have tm : 0 ≤ m.fmod 1000000000000000000117 ∧ m.fmod 1000000000000000000117 < 1000000000000000000117 := fmod_range (by decide)
      generalize m.fmod 1000000000000000000117 = t at tm
      refine ⟨mul_fits (a := 100) (b := 100) (by omega) (by omega), by decide, ⟨by decide, by decide⟩, hln, ?_⟩
      exact hD _ _ _ l (fmod_range hl).1 (fmod_range hl).2 ⟨wk'.cells, wk'.op, wk'.x0, wk'.x1, by show 0 ≤ k + 1; omega, by show k + 1 ≤ n + 1; omega⟩
  walk_at "v"
  by_cases hop : w.op = 0
  · rw [if_pos hop]
    intro p hp
    obtain ⟨hF, hpa, hpc⟩ := stk_none ap hp
    rw [put_stk ap hpa hpc]
    have ap' : Ap (put F p (.lst [])) a c := ap.nw hpa hpc
    have lF : Le F (put F p (.lst [])) := (Le.refl F).new hF
    refine vNe_ints (ns := w.cells) (ms := []) (.inl (stk_c ap')) (.inl (stk_le ap' _ _ put_same)) ?_
    by_cases hc : w.cells = []
    · simp only [hc, decide_true, Bool.not_true, if_true]
      exact rest _ fin _ _ _ _ ap' lF wk
    · simp only [hc, decide_false, Bool.not_false, Bool.true_eq_false, if_false]
      rw [vIx_stk0]
      refine ⟨.inl ⟨_, .inl (stk_c ap')⟩, w.cells.map .int, .int (w.cells.getLast hc), stk_c ap', ?_, ?_⟩
      · rw [List.length_map, List.getElem?_map, ← List.getLast?_eq_getElem?, List.getLast?_eq_getLast hc]; rfl
      · have e : (w.cells.map D.int).dropLast = w.cells.dropLast.map D.int := by rw [List.map_dropLast]
        rw [e, put_stk_c ap', vLSet_stk1]
        exact rest _ fin _ _ _ _ ap' lF ⟨fun z hz => wk.cells z (List.dropLast_subset _ hz), wk.cells _ (List.getLast_mem hc), wk.x0, wk.x1, wk.k0, wk.k1⟩
  · rw [if_neg hop]
    exact rest _ fin _ _ _ _ ap (Le.refl F) wk
theorem ok_l_pick {P : Program} {w : World} {K : PySem.W.Frag} {mg : Str → Option Value} {base : Heap} (T : Tp K mg) : FnOk P w K mg base CX0 1 T.a_l_pick T.d_l_pick ["_law_stock_here", "_law_limit"] (lowSp K sp_l_pick) :=
  fnV T.F_l_pick sc_l_pick (fun ds S Q E h => len_l_pick h) fun cdv A outer s H E en E0 hr hx =>
    ⟨rd_l_pick, vss_cons (vs_if (vt_bool (vw_and (vt_cmp (op_eqAny hr.units) ov_eq (ve_ix ix_seq ov_ix (ve_var 0) ve_int) ve_int) (vw_and1 (vt_cmp (op_neAny hr.units) ov_ne (ve_ix ix_seq ov_ix (ve_var 0) ve_int) (ve_lst va_nil))))) (vss_one (vs_asg (ve_bm0 PySem.F.plainAttrs_list PySem.F.slot_list_pop PySem.F.type_list_pop mt_pop me_pop (ve_ix ix_seq ov_ix (ve_var 0) ve_int)) (vg_sub (ve_var 0) ve_int))) vss_nil) (vss_cons (vs_if (vt_cmp op_gt ov_cmp (ve_ix ix_seq ov_ix (ve_var 0) ve_int) ve_int) (vss_cons (vs_set (i := 3) sc_l_pick.nd rfl (.inl rfl) (ve_op op_modN ov_int (ve_callTy call_int1 ca_int (by rfl) T.z_int (by decide +kernel) (va_cons (ve_ix ix_seq ov_ix (ve_var 0) ve_int) va_nil)) (ve_var 1))) (vss_cons (vs_asg (ve_op op_fdivX ov_int (ve_ix ix_seq ov_ix (ve_var 0) ve_int) (ve_var 1)) (vg_sub (ve_var 0) ve_int)) (vss_one (vs_ret (ve_var 3))))) vss_nil) (vss_cons (vs_asg (ve_op op_addAny ov_add (ve_ix ix_seq ov_ix (ve_var 0) ve_int) ve_int) (vg_sub (ve_var 0) ve_int)) (vss_cons (vs_set (i := 2) sc_l_pick.nd rfl (.inl rfl) (ve_op op_modN ov_int (ve_callTy call_int1 ca_int (by rfl) T.z_int (by decide +kernel) (va_cons (ve_op op_pow ov_int (ve_op op_addAny ov_add (ve_ix ix_seq ov_ix (ve_var 0) ve_int) (ve_op op_mulAny ov_mul (ve_op op_mulAny ov_mul ve_int (ve_ix ix_seq ov_ix (ve_var 0) ve_int)) (ve_ix ix_seq ov_ix (ve_var 0) ve_int))) ve_int) va_nil)) ve_int)) (vss_one (vs_ret (ve_op op_modN ov_int (ve_op op_fdivX ov_int (ve_op op_modN ov_int (ve_callTy call_int1 ca_int (by rfl) T.z_int (by decide +kernel) (va_cons (ve_op op_mulAny ov_mul (ve_var 2) (ve_op op_addAny ov_add (ve_op op_addAny ov_add (ve_var 2) (ve_op op_mulAny ov_mul ve_int (ve_ix ix_seq ov_ix (ve_var 0) ve_int))) ve_int)) va_nil)) ve_int) ve_int) (ve_var 1))))))), fun ds S Q h => vc_l_pick h⟩
def rd_l_stock_b1 : RS := sIf (tVal (eBin vLt (eVar 2) (eBin vPow (eC (.int 10)) (eC (.int 18))))) (sAsg (eBin vAdd (eBin vMod (eCB cInt [eBin vPow (eBin vAdd (eBin vIx (eVar 1) (eC (.int 2))) (eBin vMod (eCB cInt [eVar 2]) (eC (.int 999999999989)))) (eC (.int 3))]) (eC (.int 10000000000000061))) (eC (.int 5))) (gSub (eVar 1) (eC (.int 2)))) (sAsg (eBin vAdd (eLst [eBin vSub (eVar 2) (eBin vPow (eC (.int 10)) (eC (.int 18)))]) (eBin vIx (eVar 1) (eC (.int 0)))) (gSub (eVar 1) (eC (.int 0))))
theorem rd_l_stock_b1_eq (D0 : En) (τ : VS) (S : Sto) : rd_l_stock_b1 D0 τ S = (sIf (tVal (eBin vLt (eVar 2) (eBin vPow (eC (.int 10)) (eC (.int 18))))) (sAsg (eBin vAdd (eBin vMod (eCB cInt [eBin vPow (eBin vAdd (eBin vIx (eVar 1) (eC (.int 2))) (eBin vMod (eCB cInt [eVar 2]) (eC (.int 999999999989)))) (eC (.int 3))]) (eC (.int 10000000000000061))) (eC (.int 5))) (gSub (eVar 1) (eC (.int 2)))) (sAsg (eBin vAdd (eLst [eBin vSub (eVar 2) (eBin vPow (eC (.int 10)) (eC (.int 18)))]) (eBin vIx (eVar 1) (eC (.int 0)))) (gSub (eVar 1) (eC (.int 0)))) : RS) D0 τ S := rfl
def rd_l_stock_k1 : RS := sRet (eVar 1)
theorem rd_l_stock_k1_eq (D0 : En) (τ : VS) (S : Sto) : rd_l_stock_k1 D0 τ S = (sRet (eVar 1) : RS) D0 τ S := rfl
def rd_l_stock : RS := sSeq (sAsg (eLst [eLst [], eC (.int 0), eC (.int 77029), eC (.int 0)]) (gName 1)) (sSeq (sFor (iScr (eVar 0)) (gName 2) rd_l_stock_b1) rd_l_stock_k1)
theorem rd_l_stock_eq (D0 : En) (τ : VS) (S : Sto) : rd_l_stock D0 τ S = (sSeq (sAsg (eLst [eLst [], eC (.int 0), eC (.int 77029), eC (.int 0)]) (gName 1)) (sSeq (sFor (iScr (eVar 0)) (gName 2) rd_l_stock_b1) rd_l_stock_k1) : RS) D0 τ S := rfl
theorem vc_l_stock {ds S Q E} (h : sp_l_stock ds S Q E) : BodyV N_l_stock ds S Q rd_l_stock := by
  obtain ⟨ns, rfl, hns, h⟩ := h
  rw [BodyV, rd_l_stock_eq]
  walk_at "v"
  intro c hc a ha
  have hac : a ≠ c := by rintro rfl; rw [put_same] at ha; cases ha
  have haS : S a = none := by rw [put_ne hac] at ha; exact ha
  have e0 : put (put S c (.lst [])) a (.lst [.ref c, .int 0, .int 77029, .int 0]) = stk S a c ⟨[], 0, 77029, 0⟩ := rfl
  rw [e0]
  refine for_inv (fun i τ S' => ∃ a c w x, τ = [some (.scr ns), some (.ref a), x] ∧ S' = stk S a c w ∧ Ap S a c ∧ Wok w 0 ∧ w.cells.length ≤ i)
    ⟨a, c, _, none, rfl, rfl, ⟨hac, haS, hc⟩, ⟨(fun _ h => by cases h), by decide, by decide, by decide, by decide, by decide⟩, Nat.le_refl _⟩ (fun _ _ _ _ => trivial) ?_ ?_
  · rintro i x τ S' D1 hx ⟨a, c, w, y, rfl, rfl, ap, wk, hlen⟩ hrt hbk hnx hct
    have hi63 : i < ns.length := by have := (List.getElem?_eq_some_iff.mp hx).1; rw [List.length_map] at this; exact this
    rw [List.getElem?_map] at hx
    cases hz : ns[i]? with
    | none => rw [hz] at hx; cases hx
    | some z =>
      rw [hz] at hx
      have ex : x = .int z := (Option.some.inj hx).symm
      subst ex
      simp only [rd_l_stock_b1_eq]
      walk_at "v"
      have x0 := wk.x0
      have x1 := wk.x1
      refine ⟨⟨by decide, by decide, by decide⟩, ?_⟩
      by_cases hz : z < 10 ^ (18 : Int).toNat
      · rw [if_pos hz]
        have r1 : 0 ≤ z.fmod 999999999989 ∧ z.fmod 999999999989 < 999999999989 := fmod_range (by decide)
        refine ⟨by decide, ⟨by decide, by decide, by omega⟩, by decide, ?_⟩
        generalize (w.x + z.fmod 999999999989) ^ (3 : Int).toNat = m
        have r2 : 0 ≤ m.fmod 10000000000000061 ∧ m.fmod 10000000000000061 < 10000000000000061 := fmod_range (by decide)
        exact hnx _ _ _ _ ⟨a, c, _, _, rfl, rfl, ap, (⟨wk.cells, wk.op, by show 0 ≤ m.fmod 10000000000000061 + 5; omega, by show m.fmod 10000000000000061 + 5 ≤ 10000000000000066; omega, wk.k0, wk.k1⟩ : Wok ⟨w.cells, w.op, m.fmod 10000000000000061 + 5, w.k⟩ 0), Nat.le_succ_of_le hlen⟩ (VLe.refl _) (Le.refl _)
      · rw [if_neg hz]
        refine ⟨⟨by decide, by decide, by decide⟩, fun p hp => ?_⟩
        obtain ⟨hF, hpa, hpc⟩ := stk_none ap hp
        rw [put_stk ap hpa hpc]
        have ap' := ap.nw (o := .lst [D.int (z - 10 ^ (18 : Int).toNat)]) hpa hpc
        rw [vIx_stk0]
        refine ⟨_, _, stk_le ap' _ _ put_same, stk_c ap', ?_, fun q hq => ?_⟩
        · rw [List.length_map]; simp only [List.length_cons, List.length_nil]; omega
        · obtain ⟨hF2, hqa, hqc⟩ := stk_none ap' hq
          have hqS : S q = none := by
            have := hF2
            rw [put_ne (by rintro rfl; rw [put_same] at hF2; cases hF2)] at this; exact this
          refine ⟨[.ref c, .int w.op, .int w.x, .int w.k], 0, by rw [put_ne hqa.symm]; exact stk_a, rfl, ?_⟩
          refine hnx _ _ _ _ ⟨a, q, ⟨(z - 10 ^ (18 : Int).toNat) :: w.cells, w.op, w.x, w.k⟩, _, rfl, rfl, ⟨hqa.symm, ap.a, hqS⟩, ⟨?_, wk.op, wk.x0, wk.x1, wk.k0, wk.k1⟩, Nat.succ_le_succ hlen⟩ (VLe.refl _) (Le.put (Le.put ?_))
          · intro y hy
            rcases List.mem_cons.mp hy with rfl | hy
            · omega
            · exact wk.cells y hy
          · exact ((Le.refl S).new hF).trans (stk_le ap')
  · rintro τ S' ⟨a, c, w, x, rfl, rfl, ap, wk, _⟩
    simp only [rd_l_stock_k1_eq]
    walk_at "v"
    exact ⟨_, Le.refl _, h a c w ap wk⟩
theorem ok_l_stock {P : Program} {w : World} {K : PySem.W.Frag} {mg : Str → Option Value} {base : Heap} (T : Tp K mg) : FnOk P w K mg base CX0 1 T.a_l_stock T.d_l_stock ["_law_script"] (lowSp K sp_l_stock) :=
  fnV T.F_l_stock sc_l_stock (fun ds S Q E h => len_l_stock h) fun cdv A outer s H E en E0 hr hx =>
    ⟨rd_l_stock, vss_cons (vs_set (i := 1) sc_l_stock.nd rfl (.inl rfl) (ve_lst (va_cons (ve_lst va_nil) (va_cons ve_int (va_cons ve_int (va_cons ve_int va_nil)))))) (vss_cons (vs_for PassesOwn.never rfl (vi_scr (ve_var 0)) (vg_name (i := 2) sc_l_stock.nd rfl (.inl rfl)) (vss_one (vs_if (vt_cmp (op_ltAny hr.units0) ov_lt (ve_var 2) (ve_op op_pow ov_int ve_int ve_int)) (vss_one (vs_asg (ve_op op_addAny ov_add (ve_op op_modN ov_int (ve_callTy call_int1 ca_int (by rfl) T.z_int (by decide +kernel) (va_cons (ve_op op_pow ov_int (ve_op op_addAny ov_add (ve_ix ix_seq ov_ix (ve_var 1) ve_int) (ve_op op_modN ov_int (ve_callTy call_int1 ca_int (by rfl) T.z_int (by decide +kernel) (va_cons (ve_var 2) va_nil)) ve_int)) ve_int) va_nil)) ve_int) ve_int) (vg_sub (ve_var 1) ve_int))) (vss_one (vs_asg (ve_op op_addAny ov_add (ve_lst (va_cons (ve_op op_sub ov_int0 (ve_var 2) (ve_op op_pow ov_int ve_int ve_int)) va_nil)) (ve_ix ix_seq ov_ix (ve_var 1) ve_int)) (vg_sub (ve_var 1) ve_int)))))) (vss_one (vs_ret (ve_var 1)))), fun ds S Q h => vc_l_stock h⟩
def pw9 : Nat → Int
  | 0 => 1
  | i + 1 => pw9 i * 1000000000
def sp_l_wide : SpV := fun ds S Q _ => ∃ F a c w n limit, ds = [.ref a, .int limit] ∧ S = stk F a c w ∧ Ap F a c ∧ Wok w n ∧ n < 9999990 ∧ 1 ≤ limit ∧ ∀ r w', 0 ≤ r → r < limit → Wok w' (n + 4) → Q (.int r) (stk F a c w')
theorem wide_to {F : Sto} {a c : Addr} {w : Wd} {n limit : Int} {Q : KE} {E : XC} (ap : Ap F a c) (wk : Wok w n) (hn : n < 9999990) (h1 : 1 ≤ limit) (h : ∀ r w', 0 ≤ r → r < limit → Wok w' (n + 4) → Q (.int r) (stk F a c w')) :
    sp_l_wide [.ref a, .int limit] (stk F a c w) Q E := ⟨F, a, c, w, n, limit, rfl, rfl, ap, wk, hn, h1, h⟩
theorem len_l_wide {ds S Q E} (h : sp_l_wide ds S Q E) : ds.length = 2 := by
  obtain ⟨F, a, c, w, n, limit, rfl, _⟩ := h; rfl
def rd_l_wide_b1 : RS := sAsg (eBin vAdd (eBin vMul (eVar 2) (eBin vPow (eC (.int 10)) (eC (.int 9)))) (eCall sp_l_pick E0n [eVar 0, eBin vPow (eC (.int 10)) (eC (.int 9))])) (gName 2)
theorem rd_l_wide_b1_eq (D0 : En) (τ : VS) (S : Sto) : rd_l_wide_b1 D0 τ S = (sAsg (eBin vAdd (eBin vMul (eVar 2) (eBin vPow (eC (.int 10)) (eC (.int 9)))) (eCall sp_l_pick E0n [eVar 0, eBin vPow (eC (.int 10)) (eC (.int 9))])) (gName 2) : RS) D0 τ S := rfl
def rd_l_wide_k1 : RS := sRet (eBin vMod (eCB cInt [eVar 2]) (eVar 1))
theorem rd_l_wide_k1_eq (D0 : En) (τ : VS) (S : Sto) : rd_l_wide_k1 D0 τ S = (sRet (eBin vMod (eCB cInt [eVar 2]) (eVar 1)) : RS) D0 τ S := rfl
def rd_l_wide : RS := sSeq (sAsg (eC (.int 0)) (gName 2)) (sSeq (sFor (iRng1 [eC (.int 4)]) (gName 3) rd_l_wide_b1) rd_l_wide_k1)
theorem rd_l_wide_eq (D0 : En) (τ : VS) (S : Sto) : rd_l_wide D0 τ S = (sSeq (sAsg (eC (.int 0)) (gName 2)) (sSeq (sFor (iRng1 [eC (.int 4)]) (gName 3) rd_l_wide_b1) rd_l_wide_k1) : RS) D0 τ S := rfl
theorem vc_l_wide {ds S Q E} (h : sp_l_wide ds S Q E) : BodyV N_l_wide ds S Q rd_l_wide := by
  obtain ⟨F, a, c, w, n, limit, rfl, rfl, ap, wk, hn, h1, h⟩ := h
  rw [BodyV, rd_l_wide_eq]
  walk_at "v"
  refine ⟨by decide, ?_⟩
  refine for_inv (fun i τ S' => ∃ w t x, τ = [some (.ref a), some (.int limit), some (.int t), x] ∧ S' = stk F a c w ∧ Wok w (n + i) ∧ 0 ≤ t ∧ t < pw9 i ∧ i ≤ 4)
    ⟨w, 0, none, rfl, rfl, by simpa using wk, by decide, by decide, by decide⟩ (fun _ _ _ _ => trivial) ?_ ?_
  · rintro i x τ S' D1 hx ⟨w, t, y, rfl, rfl, wk, t0, t1, hi⟩ hrt hbk hnx hct
    obtain ⟨hi4, rfl⟩ := intsD_at hx
    have hi4 : i < 4 := hi4
    simp only [rd_l_wide_b1_eq]
    walk_at "v"
    refine ⟨⟨by decide, by decide, by decide⟩, ?_, ⟨by decide, by decide, by decide⟩, F, a, c, w, n + i, 10 ^ (9 : Int).toNat, rfl, rfl, ap, wk, by omega, by decide, by decide, fun r w' r0 r1 wk' => ?_⟩
    · refine mul_fits (a := 200) (b := 40) ?_ (by decide)
      have : pw9 i ≤ 10 ^ 27 := by
        rcases (by omega : i = 0 ∨ i = 1 ∨ i = 2 ∨ i = 3) with rfl | rfl | rfl | rfl <;> decide
      omega
    · refine hnx _ _ _ _ ⟨w', t * 10 ^ (9 : Int).toNat + r, _, rfl, rfl, by have := wk'.mono (m := n + ((i + 1 : Nat) : Int)) (by omega); exact this, ?_, ?_, by omega⟩ (VLe.refl _) (Le.refl _)
      · have e : (10 : Int) ^ (9 : Int).toNat = 1000000000 := by decide
        rw [e]; omega
      · have e : (10 : Int) ^ (9 : Int).toNat = 1000000000 := by decide
        rw [e] at r1 ⊢
        show t * 1000000000 + r < pw9 i * 1000000000
        omega
  · rintro τ S' ⟨w', t, x, rfl, rfl, wk', t0, t1, hi⟩
    simp only [rd_l_wide_k1_eq]
    walk_at "v"
    refine ⟨by omega, _, Le.refl _, h _ _ (fmod_range (by omega)).1 (fmod_range (by omega)).2 wk'⟩
theorem ok_l_wide {P : Program} {w : World} {K : PySem.W.Frag} {mg : Str → Option Value} {base : Heap} (T : Tp K mg) : FnOk P w K mg base CX0 2 T.a_l_wide T.d_l_wide ["_law_stock_here", "_law_limit"] (lowSp K sp_l_wide) :=
  fnV T.F_l_wide sc_l_wide (fun ds S Q E h => len_l_wide h) fun cdv A outer s H E en E0 hr hx =>
    ⟨rd_l_wide, vss_cons (vs_set (i := 2) sc_l_wide.nd rfl (.inl rfl) ve_int) (vss_cons (vs_for PassesOwn.never rfl (vi_rng1 (by rfl) T.z_range (va_cons ve_int va_nil)) (vg_name (i := 3) sc_l_wide.nd rfl (.inl rfl)) (vss_one (vs_set (i := 2) sc_l_wide.nd rfl (.inl rfl) (ve_op op_addAny ov_add (ve_op op_mulAny ov_mul (ve_var 2) (ve_op op_pow ov_int ve_int ve_int)) (ve_call (ok_l_pick T) (hr.mono (by decide)) (by rfl) T.g_l_pick T.F_l_pick.kp (bi_l_pick T) (pass0 (X := _)) XE0.no (va_cons (ve_var 0) (va_cons (ve_op op_pow ov_int ve_int ve_int) va_nil))))))) (vss_one (vs_ret (ve_op op_modN ov_int (ve_callTy call_int1 ca_int (by rfl) T.z_int (by decide +kernel) (va_cons (ve_var 2) va_nil)) (ve_var 1))))), fun ds S Q h => vc_l_wide h⟩
end LW
namespace LW
open PySem PySem.Spec PyProof.Rows L2 VL
local macro_rules | `(tactic| walk_at "v") => `(tactic| simp only [sSeq, sAsg, sFor, sRet, sRetN, sIf, sNext, sDrop, sPar, sAug, VL.sDPut, eVar, eC, eBin, eUn, eCB, eCall, eCallK, eArgs, eTup, eLst, eIf, eNot, eAnd, eOr, eDNew, eDGet2, eSl, oNone, oSome, eRev, eM0, eM, eLc, eLcF, Tg.R, tVal, VL.tNot, VL.tAnd, VL.tOr, VL.tYes, sl, wipeV, VL.gName, VL.gTupN, VL.gSub, gAll, VL.iTup, iLst, iScr, VL.iRng1, VL.iRng2, vAdd_int, vAdd_ib, vAdd_str, vAdd_tup, vAdd_tI, vAdd_ref, VL.vInt, VL.vInt0, vMul_int, vMul_ref, vMul_tup, vNeg, vCmp, vEq_int, vEq_bl, vEq_str, vNe_int, vNe_bl, vNe_str, vLt_int, vIsN_non, vNotN_non, vIsN_int, vNotN_int, vIsN_bl, vNotN_bl, vIsN_str, vNotN_str, vIsN_ref, vNotN_ref, vIsN_tup, vNotN_tup, vIsN_tI, vNotN_tI, vLt_tI, cLen_tI, vDGet_tI, vDPut_tI, vDGet2_tI, cLen_tup, cLen_scr, cLen_str, cLen_ref, cLenD_ref, ci_non_bool, ci_non_int, ci_non_str, ci_non_list, ci_non_tuple, ci_non_dict, ci_bl_bool, ci_bl_int, ci_bl_str, ci_bl_list, ci_bl_tuple, ci_bl_dict, ci_int_bool, ci_int_int, ci_int_str, ci_int_list, ci_int_tuple, ci_int_dict, ci_str_bool, ci_str_int, ci_str_str, ci_str_list, ci_str_tuple, ci_str_dict, ci_tup_bool, ci_tup_int, ci_tup_str, ci_tup_list, ci_tup_tuple, ci_tup_dict, vIn_tI, vIn_int, vDDel_tI, VL.sDDelT, VL.eDc, VL.sLock, VL.eLock, VL.unE, VL.iZip, VL.iZipD, VL.iEnum, VL.iKeyT, VL.eLRg1, VL.eD1, VL.iItemsT, VL.cGcd, eArgs, cList_tI, cInt_int, cInt_bl, cAbs, cMax2_int, cMin2_int, isT, mPop, mAppend, vIx_p0, vIx_p1, vSl_tI, vIx_stk0, vIx_stk1, vIx_stk2, vIx_stk3, vLSet_stk1, vLSet_stk2, vLSet_stk3, stk_a, List.set, startV, List.map_cons, List.map_nil, List.replicate, List.append_eq, List.nil_append, List.cons_append, List.length_cons, List.length_nil, List.length_map, if_true, Bool.false_eq_true, if_false, reduceIte, Bool.not_true, Bool.not_false, true_and, and_true, false_or, or_false, Bool.not_eq_eq_eq_not, decide_eq_true_eq, decide_eq_false_iff_not, reduceCtorEq])
/-! ### two values compared by kinds -/
def sp_l_same : Nat → SpV
  | 0 => fun _ _ _ _ => False
  | n + 1 => fun ds S Q _ => ∃ x y, ds = [x, y] ∧ Sm S (n + 1) x y ∧ Q (.bl true) S
theorem len_l_same {n : Nat} {ds S Q E} (h : sp_l_same (n + 1) ds S Q E) : ds.length = 2 := by
  obtain ⟨x, y, rfl, _⟩ := h; rfl
def rd_l_same_b1 (P : SpV) : RS := sIf (tNot (tVal (eCall P E0n [eVar 2, eVar 3]))) (sRet (eC (.bl false))) sNext
theorem rd_l_same_b1_eq (P : SpV) (D0 : En) (τ : VS) (S : Sto) : rd_l_same_b1 P D0 τ S = (sIf (tNot (tVal (eCall P E0n [eVar 2, eVar 3]))) (sRet (eC (.bl false))) sNext : RS) D0 τ S := rfl
def rd_l_same_k1 (P : SpV) : RS := sSeq (sFor (iZip [eVar 0, eVar 1]) (gTupN 2 [(gName 2), (gName 3)]) (rd_l_same_b1 P)) (sRet (eC (.bl true)))
theorem rd_l_same_k1_eq (P : SpV) (D0 : En) (τ : VS) (S : Sto) : rd_l_same_k1 P D0 τ S = (sSeq (sFor (iZip [eVar 0, eVar 1]) (gTupN 2 [(gName 2), (gName 3)]) (rd_l_same_b1 P)) (sRet (eC (.bl true))) : RS) D0 τ S := rfl
def rd_l_same_k2 (P : SpV) : RS := sSeq (sIf (tOr (tNot (tVal (eCB cIsi2 [eVar 0, eTup [(eC (.oth (.ty "list"))), (eC (.oth (.ty "tuple")))]]))) (tVal (eBin vNe (eCB cLen [eVar 0]) (eCB cLen [eVar 1])))) (sRet (eC (.bl false))) sNext) (rd_l_same_k1 P)
theorem rd_l_same_k2_eq (P : SpV) (D0 : En) (τ : VS) (S : Sto) : rd_l_same_k2 P D0 τ S = (sSeq (sIf (tOr (tNot (tVal (eCB cIsi2 [eVar 0, eTup [(eC (.oth (.ty "list"))), (eC (.oth (.ty "tuple")))]]))) (tVal (eBin vNe (eCB cLen [eVar 0]) (eCB cLen [eVar 1])))) (sRet (eC (.bl false))) sNext) (rd_l_same_k1 P) : RS) D0 τ S := rfl
def rd_l_same_k3 (P : SpV) : RS := sSeq (sIf (tOr (tVal (eBin vNe (eCB cIsi [eVar 1, (eC (.oth (.ty "list")))]) (eCB cIsi [eVar 0, (eC (.oth (.ty "list")))]))) (tVal (eBin vNe (eCB cIsi [eVar 1, (eC (.oth (.ty "tuple")))]) (eCB cIsi [eVar 0, (eC (.oth (.ty "tuple")))])))) (sRet (eC (.bl false))) sNext) (rd_l_same_k2 P)
theorem rd_l_same_k3_eq (P : SpV) (D0 : En) (τ : VS) (S : Sto) : rd_l_same_k3 P D0 τ S = (sSeq (sIf (tOr (tVal (eBin vNe (eCB cIsi [eVar 1, (eC (.oth (.ty "list")))]) (eCB cIsi [eVar 0, (eC (.oth (.ty "list")))]))) (tVal (eBin vNe (eCB cIsi [eVar 1, (eC (.oth (.ty "tuple")))]) (eCB cIsi [eVar 0, (eC (.oth (.ty "tuple")))])))) (sRet (eC (.bl false))) sNext) (rd_l_same_k2 P) : RS) D0 τ S := rfl
def rd_l_same_k4 (P : SpV) : RS := sSeq (sIf (tVal (eCB cIsi [eVar 1, (eC (.oth (.ty "str")))])) (sRet (eAnd (eCB cIsi [eVar 0, (eC (.oth (.ty "str")))]) (eBin vEq (eVar 0) (eVar 1)))) sNext) (rd_l_same_k3 P)
theorem rd_l_same_k4_eq (P : SpV) (D0 : En) (τ : VS) (S : Sto) : rd_l_same_k4 P D0 τ S = (sSeq (sIf (tVal (eCB cIsi [eVar 1, (eC (.oth (.ty "str")))])) (sRet (eAnd (eCB cIsi [eVar 0, (eC (.oth (.ty "str")))]) (eBin vEq (eVar 0) (eVar 1)))) sNext) (rd_l_same_k3 P) : RS) D0 τ S := rfl
def rd_l_same_k5 (P : SpV) : RS := sSeq (sIf (tVal (eCB cIsi [eVar 1, (eC (.oth (.ty "int")))])) (sRet (eAnd (eCB cIsi [eVar 0, (eC (.oth (.ty "int")))]) (eAnd (eNot (eCB cIsi [eVar 0, (eC (.oth (.ty "bool")))])) (eBin vEq (eVar 0) (eVar 1))))) sNext) (rd_l_same_k4 P)
theorem rd_l_same_k5_eq (P : SpV) (D0 : En) (τ : VS) (S : Sto) : rd_l_same_k5 P D0 τ S = (sSeq (sIf (tVal (eCB cIsi [eVar 1, (eC (.oth (.ty "int")))])) (sRet (eAnd (eCB cIsi [eVar 0, (eC (.oth (.ty "int")))]) (eAnd (eNot (eCB cIsi [eVar 0, (eC (.oth (.ty "bool")))])) (eBin vEq (eVar 0) (eVar 1))))) sNext) (rd_l_same_k4 P) : RS) D0 τ S := rfl
def rd_l_same_k6 (P : SpV) : RS := sSeq (sIf (tVal (eCB cIsi [eVar 1, (eC (.oth (.ty "bool")))])) (sRet (eAnd (eCB cIsi [eVar 0, (eC (.oth (.ty "bool")))]) (eBin vEq (eVar 0) (eVar 1)))) sNext) (rd_l_same_k5 P)
theorem rd_l_same_k6_eq (P : SpV) (D0 : En) (τ : VS) (S : Sto) : rd_l_same_k6 P D0 τ S = (sSeq (sIf (tVal (eCB cIsi [eVar 1, (eC (.oth (.ty "bool")))])) (sRet (eAnd (eCB cIsi [eVar 0, (eC (.oth (.ty "bool")))]) (eBin vEq (eVar 0) (eVar 1)))) sNext) (rd_l_same_k5 P) : RS) D0 τ S := rfl
def rd_l_same (P : SpV) : RS := sSeq (sIf (tVal (eBin vIsN (eVar 1) (eC .non))) (sRet (eBin vIsN (eVar 0) (eC .non))) sNext) (rd_l_same_k6 P)
theorem rd_l_same_eq (P : SpV) (D0 : En) (τ : VS) (S : Sto) : rd_l_same P D0 τ S = (sSeq (sIf (tVal (eBin vIsN (eVar 1) (eC .non))) (sRet (eBin vIsN (eVar 0) (eC .non))) sNext) (rd_l_same_k6 P) : RS) D0 τ S := rfl
theorem loop_same {n : Nat} {S : Sto} {ok : Sto → Prop} {x0 y0 : D} {x2 x3 : Option D} {xs ys : List D} {D0 : En} (hok : ok S) (hl : xs.length = ys.length) (hs : ∀ (i : Nat) x y, xs[i]? = some x → ys[i]? = some y → Sm S n x y) (hn : ∀ τ, D0.nx τ S) :
    forR ok (gTupN 2 [(gName 2), (gName 3)]) (rd_l_same_b1 (sp_l_same n)) D0 (zipD [xs, ys] xs.length) [some x0, some y0, x2, x3] S := by
  refine for_inv (fun i τ S' => ∃ x2 x3, τ = [some x0, some y0, x2, x3] ∧ S' = S) ⟨x2, x3, rfl, rfl⟩ (fun i τ S' h => by obtain ⟨_, _, _, rfl⟩ := h; exact hok) ?_ ?_
  · rintro i x τ S' D1 hx ⟨x2, x3, rfl, rfl⟩ hrt hbk hnx hct
    obtain ⟨_, hi, rfl⟩ := zipD_at hx
    have e1 : xs[i]? = some xs[i] := List.getElem?_eq_getElem hi
    have e2 : ys[i]? = some (ys[i]'(by omega)) := List.getElem?_eq_getElem (by omega)
    have d1 : xs.getD i .non = xs[i] := by rw [List.getD_eq_getElem?_getD, e1]; rfl
    have d2 : ys.getD i .non = ys[i]'(by omega) := by rw [List.getD_eq_getElem?_getD, e2]; rfl
    simp only [rd_l_same_b1_eq]
    walk_at "v"
    rw [d1, d2]
    have sm := hs i _ _ e1 e2
    cases n with
    | zero => nomatch sm
    | succ m =>
      refine ⟨_, _, rfl, sm, ?_⟩
      walk_at "v"
      exact hnx _ _ _ _ ⟨_, _, rfl, rfl⟩ (VLe.refl _) (Le.refl _)
  · rintro τ S' ⟨x2, x3, rfl, rfl⟩
    exact hn _
theorem vc_l_same {n : Nat} {ds S Q E} (h : sp_l_same (n + 1) ds S Q E) : BodyV N_l_same ds S Q (rd_l_same (sp_l_same n)) := by
  obtain ⟨x, y, rfl, sm, h⟩ := h
  rw [BodyV, rd_l_same_eq]
  have fin : ∃ S'', Le S'' S ∧ Q (.bl true) S'' := ⟨S, Le.refl S, h⟩
  cases sm with
  | non =>
    walk_at "v"
    exact fin
  | bl b =>
    walk_at "v"
    simp only [rd_l_same_k6_eq]
    walk_at "v"
    simpa using fin
  | int i =>
    walk_at "v"
    simp only [rd_l_same_k6_eq]
    walk_at "v"
    simp only [rd_l_same_k5_eq]
    walk_at "v"
    simpa using fin
  | str z =>
    walk_at "v"
    simp only [rd_l_same_k6_eq]
    walk_at "v"
    simp only [rd_l_same_k5_eq]
    walk_at "v"
    simp only [rd_l_same_k4_eq]
    walk_at "v"
    simpa using fin
  | @tup _ xs ys hl hs =>
    walk_at "v"
    simp only [rd_l_same_k6_eq]
    walk_at "v"
    simp only [rd_l_same_k5_eq]
    walk_at "v"
    simp only [rd_l_same_k4_eq]
    walk_at "v"
    simp only [rd_l_same_k3_eq]
    walk_at "v"
    simp only [rd_l_same_k2_eq]
    walk_at "v"
    rw [if_neg (by simp), if_neg (by simp)]
    refine ci2_tup ?_
    walk_at "v"
    rw [if_neg (by rw [hl]; exact fun z => z rfl)]
    simp only [rd_l_same_k1_eq]
    walk_at "v"
    exact ⟨[xs, ys], xs.length, .cons rfl (.cons rfl .nil), by simp [hl], loop_same (.cons rfl (.cons rfl .nil)) hl hs fun τ => fin⟩
  | @lst _ a b xs ys ha hb hl hs =>
    have c1 : ∀ {n : String} {Q : KE}, n ∈ ["bool", "int", "str", "tuple", "list", "dict"] → Q (.bl (isTy "list" n)) S → cIsi [.ref a, .oth (.ty n)] S Q := fun h q => ci_ref ha h q
    have c2 : ∀ {n : String} {Q : KE}, n ∈ ["bool", "int", "str", "tuple", "list", "dict"] → Q (.bl (isTy "list" n)) S → cIsi [.ref b, .oth (.ty n)] S Q := fun h q => ci_ref hb h q
    walk_at "v"
    simp only [rd_l_same_k6_eq]
    walk_at "v"
    refine c2 (by decide) ?_
    simp only [show isTy "list" "bool" = false from rfl]
    walk_at "v"
    simp only [rd_l_same_k5_eq]
    walk_at "v"
    refine c2 (by decide) ?_
    simp only [show isTy "list" "int" = false from rfl]
    walk_at "v"
    simp only [rd_l_same_k4_eq]
    walk_at "v"
    refine c2 (by decide) ?_
    simp only [show isTy "list" "str" = false from rfl]
    walk_at "v"
    simp only [rd_l_same_k3_eq]
    walk_at "v"
    refine c2 (by decide) (c1 (by decide) ?_)
    walk_at "v"
    rw [if_neg (by simp)]
    refine c2 (by decide) (c1 (by decide) ?_)
    walk_at "v"
    rw [if_neg (by simp)]
    simp only [rd_l_same_k2_eq]
    walk_at "v"
    refine ci2_ref ha ?_
    walk_at "v"
    refine ⟨xs, ha, ys, hb, ?_⟩
    rw [if_neg (by rw [hl]; exact fun z => z rfl)]
    simp only [rd_l_same_k1_eq]
    walk_at "v"
    exact ⟨[xs, ys], xs.length, .cons ha (.cons hb .nil), by simp [hl], loop_same (.cons ha (.cons hb .nil)) hl hs fun τ => fin⟩
theorem ok_l_same_0 {P : Program} {w : World} {K : PySem.W.Frag} {mg : Str → Option Value} {base : Heap} (T : Tp K mg) : FnOk P w K mg base CX0 1 T.a_l_same T.d_l_same ["_law_told", "_law_due"] (lowSp K (sp_l_same 0)) := fnFalse fun _ _ _ _ h => h
theorem okS_l_same {P : Program} {w : World} {K : PySem.W.Frag} {mg : Str → Option Value} {base : Heap} (T : Tp K mg) {n k : Nat} (hk : 1 ≤ k) (ih : FnOk P w K mg base CX0 k T.a_l_same T.d_l_same ["_law_told", "_law_due"] (lowSp K (sp_l_same n))) : FnOk P w K mg base CX0 (k + 1) T.a_l_same T.d_l_same ["_law_told", "_law_due"] (lowSp K (sp_l_same (n + 1))) :=
  fnV T.F_l_same sc_l_same (fun ds S Q E h => len_l_same h) fun cdv A outer s H E en E0 hr hx =>
    ⟨rd_l_same (sp_l_same n), vss_cons (vs_if (vt_cmp op_isN ov_isN (ve_var 1) ve_non) (vss_one (vs_ret (ve_cmp op_isN ov_isN (ve_var 0) ve_non))) vss_nil) (vss_cons (vs_if (vt_val (ve_callB call_isi ca_isi (by rfl) T.z_isinstance (by decide +kernel) (va_cons (ve_var 1) (va_cons (ve_bltn (v := .ty "bool") (by rfl) T.z_bool (by decide +kernel) rfl) va_nil)))) (vss_one (vs_ret (ve_and (ve_callB call_isi ca_isi (by rfl) T.z_isinstance (by decide +kernel) (va_cons (ve_var 0) (va_cons (ve_bltn (v := .ty "bool") (by rfl) T.z_bool (by decide +kernel) rfl) va_nil))) (ve_one (ve_cmp (op_eqAny hr.units) ov_eq (ve_var 0) (ve_var 1)))))) vss_nil) (vss_cons (vs_if (vt_val (ve_callB call_isi ca_isi (by rfl) T.z_isinstance (by decide +kernel) (va_cons (ve_var 1) (va_cons (ve_bltn (v := .ty "int") (by rfl) T.z_int (by decide +kernel) rfl) va_nil)))) (vss_one (vs_ret (ve_and (ve_callB call_isi ca_isi (by rfl) T.z_isinstance (by decide +kernel) (va_cons (ve_var 0) (va_cons (ve_bltn (v := .ty "int") (by rfl) T.z_int (by decide +kernel) rfl) va_nil))) (ve_and (ve_not (ve_callB call_isi ca_isi (by rfl) T.z_isinstance (by decide +kernel) (va_cons (ve_var 0) (va_cons (ve_bltn (v := .ty "bool") (by rfl) T.z_bool (by decide +kernel) rfl) va_nil)))) (ve_one (ve_cmp (op_eqAny hr.units) ov_eq (ve_var 0) (ve_var 1))))))) vss_nil) (vss_cons (vs_if (vt_val (ve_callB call_isi ca_isi (by rfl) T.z_isinstance (by decide +kernel) (va_cons (ve_var 1) (va_cons (ve_bltn (v := .ty "str") (by rfl) T.z_str (by decide +kernel) rfl) va_nil)))) (vss_one (vs_ret (ve_and (ve_callB call_isi ca_isi (by rfl) T.z_isinstance (by decide +kernel) (va_cons (ve_var 0) (va_cons (ve_bltn (v := .ty "str") (by rfl) T.z_str (by decide +kernel) rfl) va_nil))) (ve_one (ve_cmp (op_eqAny hr.units) ov_eq (ve_var 0) (ve_var 1)))))) vss_nil) (vss_cons (vs_if (vt_bool (vw_or (vt_cmp (op_neAny hr.units) ov_ne (ve_callB call_isi ca_isi (by rfl) T.z_isinstance (by decide +kernel) (va_cons (ve_var 1) (va_cons (ve_bltn (v := .ty "list") (by rfl) T.z_list (by decide +kernel) rfl) va_nil))) (ve_callB call_isi ca_isi (by rfl) T.z_isinstance (by decide +kernel) (va_cons (ve_var 0) (va_cons (ve_bltn (v := .ty "list") (by rfl) T.z_list (by decide +kernel) rfl) va_nil)))) (vw_or1 (vt_cmp (op_neAny hr.units) ov_ne (ve_callB call_isi ca_isi (by rfl) T.z_isinstance (by decide +kernel) (va_cons (ve_var 1) (va_cons (ve_bltn (v := .ty "tuple") (by rfl) T.z_tuple (by decide +kernel) rfl) va_nil))) (ve_callB call_isi ca_isi (by rfl) T.z_isinstance (by decide +kernel) (va_cons (ve_var 0) (va_cons (ve_bltn (v := .ty "tuple") (by rfl) T.z_tuple (by decide +kernel) rfl) va_nil))))))) (vss_one (vs_ret ve_bl)) vss_nil) (vss_cons (vs_if (vt_bool (vw_or (vt_not (vt_val (ve_callB call_isiT ca_isi2 (by rfl) T.z_isinstance (by decide +kernel) (va_cons (ve_var 0) (va_cons (ve_tup (va_cons (ve_bltn (v := .ty "list") (by rfl) T.z_list (by decide +kernel) rfl) (va_cons (ve_bltn (v := .ty "tuple") (by rfl) T.z_tuple (by decide +kernel) rfl) va_nil))) va_nil))))) (vw_or1 (vt_cmp (op_neAny hr.units) ov_ne (ve_callB call_len ca_len (by rfl) T.z_len (by decide +kernel) (va_cons (ve_var 0) va_nil)) (ve_callB call_len ca_len (by rfl) T.z_len (by decide +kernel) (va_cons (ve_var 1) va_nil)))))) (vss_one (vs_ret ve_bl)) vss_nil) (vss_cons (vs_for PassesOwn.never rfl (vi_zip (by rfl) T.z_zip (va_cons (ve_var 0) (va_cons (ve_var 1) va_nil))) (vg_tup rfl (vgs_cons (vg_name (i := 2) sc_l_same.nd rfl (.inl rfl)) (vgs_cons (vg_name (i := 3) sc_l_same.nd rfl (.inl rfl)) (vgs_nil)))) (vss_one (vs_if (vt_not (vt_val (ve_call ih (hr.mono (Nat.le_refl _)) (by rfl) T.g_l_same T.F_l_same.kp (bi_l_same T) (pass0 (X := _)) XE0.no (va_cons (ve_var 2) (va_cons (ve_var 3) va_nil))))) (vss_one (vs_ret ve_bl)) vss_nil))) (vss_one (vs_ret ve_bl)))))))), fun ds S Q h => vc_l_same h⟩
theorem ok_l_same_1 {P : Program} {w : World} {K : PySem.W.Frag} {mg : Str → Option Value} {base : Heap} (T : Tp K mg) : FnOk P w K mg base CX0 2 T.a_l_same T.d_l_same ["_law_told", "_law_due"] (lowSp K (sp_l_same 1)) := okS_l_same T (by decide) (ok_l_same_0 T)
theorem ok_l_same_2 {P : Program} {w : World} {K : PySem.W.Frag} {mg : Str → Option Value} {base : Heap} (T : Tp K mg) : FnOk P w K mg base CX0 3 T.a_l_same T.d_l_same ["_law_told", "_law_due"] (lowSp K (sp_l_same 2)) := okS_l_same T (by decide) (ok_l_same_1 T)
theorem ok_l_same_3 {P : Program} {w : World} {K : PySem.W.Frag} {mg : Str → Option Value} {base : Heap} (T : Tp K mg) : FnOk P w K mg base CX0 4 T.a_l_same T.d_l_same ["_law_told", "_law_due"] (lowSp K (sp_l_same 3)) := okS_l_same T (by decide) (ok_l_same_2 T)
theorem ok_l_same_4 {P : Program} {w : World} {K : PySem.W.Frag} {mg : Str → Option Value} {base : Heap} (T : Tp K mg) : FnOk P w K mg base CX0 5 T.a_l_same T.d_l_same ["_law_told", "_law_due"] (lowSp K (sp_l_same 4)) := okS_l_same T (by decide) (ok_l_same_3 T)
theorem ok_l_same_5 {P : Program} {w : World} {K : PySem.W.Frag} {mg : Str → Option Value} {base : Heap} (T : Tp K mg) : FnOk P w K mg base CX0 6 T.a_l_same T.d_l_same ["_law_told", "_law_due"] (lowSp K (sp_l_same 5)) := okS_l_same T (by decide) (ok_l_same_4 T)
end LW
namespace LW
open PySem PySem.Spec PyProof.Rows L2 VL
local macro_rules | `(tactic| walk_at "v") => `(tactic| simp only [sSeq, sAsg, sFor, sRet, sRetN, sIf, sNext, sDrop, sPar, sAug, VL.sDPut, eVar, eC, eBin, eUn, eCB, eCall, eCallK, eArgs, eTup, eLst, eIf, eNot, eAnd, eOr, eDNew, eDGet2, eSl, oNone, oSome, eRev, eM0, eM, eLc, eLcF, Tg.R, tVal, VL.tNot, VL.tAnd, VL.tOr, VL.tYes, sl, wipeV, VL.gName, VL.gTupN, VL.gSub, gAll, VL.iTup, iLst, iScr, VL.iRng1, VL.iRng2, vAdd_int, vAdd_ib, vAdd_str, vAdd_tup, vAdd_tI, vAdd_ref, VL.vInt, VL.vInt0, vMul_int, vMul_ref, vMul_tup, vNeg, vCmp, vEq_int, vEq_bl, vEq_str, vNe_int, vNe_bl, vNe_str, vLt_int, vIsN_non, vNotN_non, vIsN_int, vNotN_int, vIsN_bl, vNotN_bl, vIsN_str, vNotN_str, vIsN_ref, vNotN_ref, vIsN_tup, vNotN_tup, vIsN_tI, vNotN_tI, vLt_tI, cLen_tI, vDGet_tI, vDPut_tI, vDGet2_tI, cLen_tup, cLen_scr, cLen_str, cLen_ref, cLenD_ref, ci_non_bool, ci_non_int, ci_non_str, ci_non_list, ci_non_tuple, ci_non_dict, ci_bl_bool, ci_bl_int, ci_bl_str, ci_bl_list, ci_bl_tuple, ci_bl_dict, ci_int_bool, ci_int_int, ci_int_str, ci_int_list, ci_int_tuple, ci_int_dict, ci_str_bool, ci_str_int, ci_str_str, ci_str_list, ci_str_tuple, ci_str_dict, ci_tup_bool, ci_tup_int, ci_tup_str, ci_tup_list, ci_tup_tuple, ci_tup_dict, vIn_tI, vIn_int, vDDel_tI, VL.sDDelT, VL.eDc, VL.sLock, VL.eLock, VL.unE, VL.iZip, VL.iZipD, VL.iEnum, VL.iKeyT, VL.eLRg1, VL.eD1, VL.iItemsT, VL.cGcd, eArgs, cList_tI, cInt_int, cInt_bl, cAbs, cMax2_int, cMin2_int, isT, mPop, mAppend, vIx_p0, vIx_p1, vSl_tI, vIx_stk0, vIx_stk1, vIx_stk2, vIx_stk3, vLSet_stk1, vLSet_stk2, vLSet_stk3, stk_a, List.set, startV, List.map_cons, List.map_nil, List.replicate, List.append_eq, List.nil_append, List.cons_append, List.length_cons, List.length_nil, List.length_map, if_true, Bool.false_eq_true, if_false, reduceIte, Bool.not_true, Bool.not_false, true_and, and_true, false_or, or_false, Bool.not_eq_eq_eq_not, decide_eq_true_eq, decide_eq_false_iff_not, reduceCtorEq])
/-! ### looks_right -/
def sp_looks_right : SpV := fun ds S Q _ => ∃ ts many, ds = [sumD ts, .int many] ∧ Q (.bl (looksA many none ts)) S
theorem len_looks_right {ds S Q E} (h : sp_looks_right ds S Q E) : ds.length = 2 := by
  obtain ⟨_, _, rfl, _⟩ := h; rfl
def rd_looks_right_k1 : RS := sAsg (eVar 3) (gName 2)
theorem rd_looks_right_k1_eq (D0 : En) (τ : VS) (S : Sto) : rd_looks_right_k1 D0 τ S = (sAsg (eVar 3) (gName 2) : RS) D0 τ S := rfl
def rd_looks_right_k2 : RS := sSeq (sIf (tAnd (tVal (eBin vNotN (eVar 2) (eC .non))) (tNot (tVal (eBin vLt (eVar 2) (eVar 3))))) (sRet (eC (.bl false))) sNext) rd_looks_right_k1
theorem rd_looks_right_k2_eq (D0 : En) (τ : VS) (S : Sto) : rd_looks_right_k2 D0 τ S = (sSeq (sIf (tAnd (tVal (eBin vNotN (eVar 2) (eC .non))) (tNot (tVal (eBin vLt (eVar 2) (eVar 3))))) (sRet (eC (.bl false))) sNext) rd_looks_right_k1 : RS) D0 τ S := rfl
def rd_looks_right_b1 : RS := sSeq (sIf (tOr (tVal (eBin vNe (eCB cLen [eVar 3]) (eVar 1))) (tVal (eBin vEq (eVar 4) (eC (.int 0))))) (sRet (eC (.bl false))) sNext) rd_looks_right_k2
theorem rd_looks_right_b1_eq (D0 : En) (τ : VS) (S : Sto) : rd_looks_right_b1 D0 τ S = (sSeq (sIf (tOr (tVal (eBin vNe (eCB cLen [eVar 3]) (eVar 1))) (tVal (eBin vEq (eVar 4) (eC (.int 0))))) (sRet (eC (.bl false))) sNext) rd_looks_right_k2 : RS) D0 τ S := rfl
def rd_looks_right : RS := sSeq (sAsg (eC .non) (gName 2)) (sSeq (sFor (iTup (eVar 0)) (gTupN 2 [(gName 3), (gName 4)]) rd_looks_right_b1) (sRet (eC (.bl true))))
theorem rd_looks_right_eq (D0 : En) (τ : VS) (S : Sto) : rd_looks_right D0 τ S = (sSeq (sAsg (eC .non) (gName 2)) (sSeq (sFor (iTup (eVar 0)) (gTupN 2 [(gName 3), (gName 4)]) rd_looks_right_b1) (sRet (eC (.bl true)))) : RS) D0 τ S := rfl
def optD : Option (List Int) → D
  | none => .non
  | some l => tI l
theorem loop_looks {D0 : En} {S : Sto} {told : D} {many : Int} : ∀ (ts : List (List Int × Int)) (last : Option (List Int)) (x y : Option D), (∀ τ, D0.rt (.bl true) S → D0.nx τ S) → D0.rt (.bl (looksA many last ts)) S →
    forR (fun _ => True) (gTupN 2 [(gName 3), (gName 4)]) rd_looks_right_b1 D0 (ts.map terD) [some told, some (.int many), some (optD last), x, y] S
  | [], last, x, y, hn, h => by
    refine ⟨trivial, hn _ ?_⟩
    cases last <;> exact h
  | (p, c) :: r, last, x, y, hn, h => by
    have ih := fun l a b (q : D0.rt (.bl (looksA many l r)) S) => loop_looks (D0 := D0) (S := S) (told := told) r l a b hn q
    refine ⟨trivial, ?_⟩
    simp only [rd_looks_right_b1_eq]
    have fin : D0.rt (.bl (if (p.length : Int) ≠ many ∨ c = 0 then false else looksA many (some p) r)) S → (p.length : Int) = many → ¬ c = 0 → ∃ τ3 S3, VLe τ3 [some told, some (.int many), some (tI p), some (tI p), some (.int c)] ∧ Le S3 S ∧ forR (fun _ => True) (gTupN 2 [(gName 3), (gName 4)]) rd_looks_right_b1 D0 (r.map terD) τ3 S3 := fun h h1 h2 => by
      rw [if_neg (by rintro (z | z); exact z h1; exact h2 z)] at h
      exact ⟨_, S, VLe.refl _, Le.refl S, ih (some p) _ _ h⟩
    cases last with
    | none =>
      unfold looksA at h
      simp only [optD, terD]
      walk_at "v"
      simp only [rd_looks_right_k2_eq]
      walk_at "v"
      simp only [rd_looks_right_k1_eq]
      walk_at "v"
      by_cases h1 : (p.length : Int) = many
      · rw [if_neg (by rw [h1]; exact fun z => z rfl)]
        by_cases h2 : c = 0
        · rw [if_pos h2]
          rw [if_pos (.inr h2)] at h; exact h
        · rw [if_neg h2]
          exact fin h h1 h2
      · rw [if_pos h1]
        rw [if_pos (.inl h1)] at h; exact h
    | some l =>
      unfold looksA at h
      simp only [optD, terD]
      walk_at "v"
      simp only [rd_looks_right_k2_eq]
      walk_at "v"
      simp only [rd_looks_right_k1_eq]
      walk_at "v"
      by_cases h1 : (p.length : Int) = many
      · rw [if_neg (by rw [h1]; exact fun z => z rfl)]
        by_cases h2 : c = 0
        · rw [if_pos h2]
          rw [if_pos (.inr h2)] at h; exact h
        · rw [if_neg h2]
          rw [if_neg (by rintro (z | z); exact z h1; exact h2 z)] at h
          cases h3 : HT.lexLt l p with
          | true =>
            rw [h3, if_pos rfl] at h
            rw [if_neg (by decide)]
            exact ⟨_, S, VLe.refl _, Le.refl S, ih (some p) _ _ h⟩
          | false =>
            rw [h3, if_neg (by decide)] at h
            rw [if_pos rfl]
            exact h
      · rw [if_pos h1]
        rw [if_pos (.inl h1)] at h; exact h
theorem vc_looks_right {ds S Q E} (h : sp_looks_right ds S Q E) : BodyV N_looks_right ds S Q rd_looks_right := by
  obtain ⟨ts, many, rfl, h⟩ := h
  rw [BodyV, rd_looks_right_eq]
  simp only [sumD]
  walk_at "v"
  exact loop_looks ts none _ _ (fun _ h => h) ⟨S, Le.refl S, h⟩
theorem ok_looks_right {P : Program} {w : World} {K : PySem.W.Frag} {mg : Str → Option Value} {base : Heap} (T : Tp K mg) : FnOk P w K mg base CX0 1 T.a_looks_right T.d_looks_right ["told", "many"] (lowSp K sp_looks_right) :=
  fnV T.F_looks_right sc_looks_right (fun ds S Q E h => len_looks_right h) fun cdv A outer s H E en E0 hr hx =>
    ⟨rd_looks_right, vss_cons (vs_set (i := 2) sc_looks_right.nd rfl (.inl rfl) ve_non) (vss_cons (vs_for PassesOwn.never rfl (vi_tup (ve_var 0)) (vg_tup rfl (vgs_cons (vg_name (i := 3) sc_looks_right.nd rfl (.inl rfl)) (vgs_cons (vg_name (i := 4) sc_looks_right.nd rfl (.inl rfl)) (vgs_nil)))) (vss_cons (vs_if (vt_bool (vw_or (vt_cmp (op_neAny hr.units) ov_ne (ve_callB call_len ca_len (by rfl) T.z_len (by decide +kernel) (va_cons (ve_var 3) va_nil)) (ve_var 1)) (vw_or1 (vt_cmp (op_eqAny hr.units) ov_eq (ve_var 4) ve_int)))) (vss_one (vs_ret ve_bl)) vss_nil) (vss_cons (vs_if (vt_bool (vw_and (vt_cmp op_notN ov_notN (ve_var 2) ve_non) (vw_and1 (vt_not (vt_cmp (op_ltAny hr.units0) ov_lt (ve_var 2) (ve_var 3)))))) (vss_one (vs_ret ve_bl)) vss_nil) (vss_one (vs_set (i := 2) sc_looks_right.nd rfl (.inl rfl) (ve_var 3)))))) (vss_one (vs_ret ve_bl))), fun ds S Q h => vc_looks_right h⟩
/-! ### the program's sums -/
def sp_checked_sum : SpV := fun ds S Q _ => ∃ ts many, ds = [sumD ts, .int many] ∧ looksA many none ts = true ∧ Q (sumD ts) S
theorem len_checked_sum {ds S Q E} (h : sp_checked_sum ds S Q E) : ds.length = 2 := by
  obtain ⟨_, _, rfl, _⟩ := h; rfl
def rd_checked_sum_k1 : RS := sRet (eVar 0)
theorem rd_checked_sum_k1_eq (D0 : En) (τ : VS) (S : Sto) : rd_checked_sum_k1 D0 τ S = (sRet (eVar 0) : RS) D0 τ S := rfl
def rd_checked_sum : RS := sSeq (sIf (tNot (tVal (eCall sp_looks_right E0n [eVar 0, eVar 1]))) sNever sNext) rd_checked_sum_k1
theorem rd_checked_sum_eq (D0 : En) (τ : VS) (S : Sto) : rd_checked_sum D0 τ S = (sSeq (sIf (tNot (tVal (eCall sp_looks_right E0n [eVar 0, eVar 1]))) sNever sNext) rd_checked_sum_k1 : RS) D0 τ S := rfl
theorem vc_checked_sum {ds S Q E} (h : sp_checked_sum ds S Q E) : BodyV N_checked_sum ds S Q rd_checked_sum := by
  obtain ⟨ts, many, rfl, hl, h⟩ := h
  rw [BodyV, rd_checked_sum_eq]
  walk_at "v"
  refine ⟨ts, many, rfl, ?_⟩
  rw [hl]
  walk_at "v"
  exact ⟨S, Le.refl S, h⟩
theorem ok_checked_sum {P : Program} {w : World} {K : PySem.W.Frag} {mg : Str → Option Value} {base : Heap} (T : Tp K mg) : FnOk P w K mg base CX0 2 T.a_checked_sum T.d_checked_sum ["told", "many"] (lowSp K sp_checked_sum) :=
  fnV T.F_checked_sum sc_checked_sum (fun ds S Q E h => len_checked_sum h) fun cdv A outer s H E en E0 hr hx =>
    ⟨rd_checked_sum, vss_cons (vs_if (vt_not (vt_val (ve_call (ok_looks_right T) (hr.mono (by decide)) (by rfl) T.g_looks_right T.F_looks_right.kp (bi_looks_right T) (pass0 (X := _)) XE0.no (va_cons (ve_var 0) (va_cons (ve_var 1) va_nil))))) (vss_one vs_never) vss_nil) (vss_one (vs_ret (ve_var 0))), fun ds S Q h => vc_checked_sum h⟩
def sp_counted : SpV := fun ds S Q _ => ∃ ts, ds = [sumD ts] ∧ Nd ts ∧ ∀ p, S p = none → Q (.ref p) (put S p (.dI (dD ts)))
theorem len_counted {ds S Q E} (h : sp_counted ds S Q E) : ds.length = 1 := by
  obtain ⟨_, rfl, _⟩ := h; rfl
def rd_counted : RS := sRet (eDc (iTup (eVar 0)) (Tg.R (.tp [1, 2])) tYes (eVar 1) (eVar 2) [1, 2])
theorem rd_counted_eq (D0 : En) (τ : VS) (S : Sto) : rd_counted D0 τ S = (sRet (eDc (iTup (eVar 0)) (Tg.R (.tp [1, 2])) tYes (eVar 1) (eVar 2) [1, 2]) : RS) D0 τ S := rfl
theorem vc_counted {ds S Q E} (h : sp_counted ds S Q E) : BodyV N_counted ds S Q rd_counted := by
  obtain ⟨ts, rfl, hn, h⟩ := h
  rw [BodyV, rd_counted_eq]
  simp only [sumD]
  walk_at "v"
  refine dc_inv (fun i acc S' => S' = S ∧ acc = dD (ts.take i)) ⟨rfl, rfl⟩ (fun _ _ _ _ => trivial) ?_ ?_
  · rintro i x acc S' K' hx ⟨rfl, rfl⟩ hk
    rw [List.getElem?_map] at hx
    cases q : ts[i]? with
    | none => rw [q] at hx; cases hx
    | some t =>
      rw [q] at hx
      have hx := (Option.some.inj hx).symm
      subst hx
      simp only [terD]
      walk_at "v"
      refine hk _ _ _ _ (Le.refl _) ⟨rfl, ?_⟩
      rw [puD_dD, puL_new (nd_take_new hn q), List.take_add_one, q]; rfl
  · rintro acc S' ⟨rfl, rfl⟩ p hp
    rw [List.length_map, List.take_length]
    exact ⟨_, Le.refl _, h p hp⟩
theorem ok_counted {P : Program} {w : World} {K : PySem.W.Frag} {mg : Str → Option Value} {base : Heap} (T : Tp K mg) : FnOk P w K mg base CX0 1 T.a_counted T.d_counted ["told"] (lowSp K sp_counted) :=
  fnV T.F_counted sc_counted (fun ds S Q E h => len_counted h) fun cdv A outer s H E en E0 hr hx =>
    ⟨rd_counted, vss_one (vs_ret (ve_dc (own := [("powers", 1), ("coefficient", 2)]) (t := (.tp [1, 2])) rfl hr.units0 sc_counted.nd (vi_tup (ve_var 0)) (blkOk_by (N := ["told", "powers", "coefficient"]) (sc := defScope s_counted) (by decide +kernel)) ⟨fun _ _ _ _ _ => pg_tup rfl (pgs_cons (pg_name (i := 1) sc_counted.nd rfl (Or.inl rfl)) (pgs_cons (pg_name (i := 2) sc_counted.nd rfl (Or.inl rfl)) (pgs_nil))), fun _ _ _ _ _ => vts_nil, fun _ _ _ _ _ => ve_var 1, fun _ _ _ _ _ => ve_var 2⟩ (by decide))), fun ds S Q h => vc_counted h⟩
def manyOf (many : Nat) (tss : List (List Tr)) : Int := if tss.all (fun ts => ts.isEmpty) then 0 else (many : Int)
def sp_checked_sums : SpV := fun ds S Q _ => ∃ p tss many, ds = [.ref p] ∧ rdL S p (List.map sumD tss) ∧ 1 ≤ many ∧ (∀ ts ∈ tss, Fm many ts) ∧ Q (.int (manyOf many tss)) S
theorem len_checked_sums {ds S Q E} (h : sp_checked_sums ds S Q E) : ds.length = 1 := by
  obtain ⟨_, _, _, rfl, _⟩ := h; rfl
/-- the least of each column -/
structure Lst (many : Nat) (ts : List Tr) (m : List Int) : Prop where
  len : m.length = if ts.isEmpty then 0 else many
  at' : ∀ j : Nat, j < m.length → ∃ t ∈ ts, t.1.getD j 0 = m.getD j 0
  le : ∀ j : Nat, j < m.length → ∀ t ∈ ts, m.getD j 0 ≤ t.1.getD j 0
def sp_least_of : SpV := fun ds S Q _ => ∃ p ts many, ds = [.ref p] ∧ S p = some (.dI (dD ts)) ∧ many ≤ 100000 ∧ (∀ t ∈ ts, List.length t.1 = many) ∧ ∀ m, Lst many ts m → Q (tI m) S
theorem len_least_of {ds S Q E} (h : sp_least_of ds S Q E) : ds.length = 1 := by
  obtain ⟨_, _, _, rfl, _⟩ := h; rfl
def rd_checked_sums_k1 : RS := sDrop (eCall sp_checked_sum E0n [eVar 2, eVar 1])
theorem rd_checked_sums_k1_eq (D0 : En) (τ : VS) (S : Sto) : rd_checked_sums_k1 D0 τ S = (sDrop (eCall sp_checked_sum E0n [eVar 2, eVar 1]) : RS) D0 τ S := rfl
def rd_checked_sums_b1 : RS := sSeq (sIf (tAnd (tVal (eBin vEq (eVar 1) (eC (.int 0)))) (tVal (eBin vNe (eVar 2) (eTup [])))) (sAsg (eCB cMax2 [eC (.int 1), eCB cLen [eBin vIx (eBin vIx (eVar 2) (eC (.int 0))) (eC (.int 0))]]) (gName 1)) sNext) rd_checked_sums_k1
theorem rd_checked_sums_b1_eq (D0 : En) (τ : VS) (S : Sto) : rd_checked_sums_b1 D0 τ S = (sSeq (sIf (tAnd (tVal (eBin vEq (eVar 1) (eC (.int 0)))) (tVal (eBin vNe (eVar 2) (eTup [])))) (sAsg (eCB cMax2 [eC (.int 1), eCB cLen [eBin vIx (eBin vIx (eVar 2) (eC (.int 0))) (eC (.int 0))]]) (gName 1)) sNext) rd_checked_sums_k1 : RS) D0 τ S := rfl
def rd_checked_sums_k2 : RS := sRet (eVar 1)
theorem rd_checked_sums_k2_eq (D0 : En) (τ : VS) (S : Sto) : rd_checked_sums_k2 D0 τ S = (sRet (eVar 1) : RS) D0 τ S := rfl
def rd_checked_sums : RS := sSeq (sAsg (eC (.int 0)) (gName 1)) (sSeq (sFor (iLst (eVar 0)) (gName 2) rd_checked_sums_b1) rd_checked_sums_k2)
theorem rd_checked_sums_eq (D0 : En) (τ : VS) (S : Sto) : rd_checked_sums D0 τ S = (sSeq (sAsg (eC (.int 0)) (gName 1)) (sSeq (sFor (iLst (eVar 0)) (gName 2) rd_checked_sums_b1) rd_checked_sums_k2) : RS) D0 τ S := rfl
theorem manyOf_step (many : Nat) (tss : List (List Tr)) (i : Nat) (ts : List Tr) (h : tss[i]? = some ts) : manyOf many (tss.take (i + 1)) = if ts = [] then manyOf many (tss.take i) else (many : Int) := by
  unfold manyOf
  rw [List.take_add_one, h]
  show (if ((tss.take i) ++ [ts]).all _ = true then (0 : Int) else _) = _
  rw [List.all_append]
  cases ts with
  | nil => simp
  | cons a r => simp
theorem vc_checked_sums {ds S Q E} (h : sp_checked_sums ds S Q E) : BodyV N_checked_sums ds S Q rd_checked_sums := by
  obtain ⟨p, tss, many, rfl, hp, hm, hf, h⟩ := h
  rw [BodyV, rd_checked_sums_eq]
  walk_at "v"
  refine ⟨_, hp, ?_⟩
  refine for_inv (fun i τ S' => ∃ x2, τ = [some (.ref p), some (.int (manyOf many (tss.take i))), x2] ∧ S' = S) ⟨none, rfl, rfl⟩ (fun i τ S' h => by obtain ⟨_, _, rfl⟩ := h; exact hp) ?_ ?_
  · rintro i x τ S' D1 hx ⟨x2, rfl, rfl⟩ hrt hbk hnx hct
    rw [List.getElem?_map] at hx
    cases q : tss[i]? with
    | none => rw [q] at hx; cases hx
    | some ts =>
      rw [q] at hx
      have hx := (Option.some.inj hx).symm
      subst hx
      have hfm := hf ts (List.mem_of_getElem? q)
      simp only [rd_checked_sums_b1_eq]
      walk_at "v"
      have k1 : ∀ m : Int, (ts ≠ [] → m = many) → m = manyOf many (tss.take (i + 1)) → rd_checked_sums_k1 D1 [some (.ref p), some (.int m), some (sumD ts)] S' := fun m h1 h2 => by
        simp only [rd_checked_sums_k1_eq]
        walk_at "v"
        refine ⟨ts, m, rfl, ?_, hnx _ _ _ _ ⟨_, by rw [← h2], rfl⟩ (VLe.refl _) (Le.refl _)⟩
        cases ts with
        | nil => rfl
        | cons t r => rw [h1 (List.cons_ne_nil t r)]; exact hfm.looks
      have step := manyOf_step many tss i ts q
      by_cases h0 : manyOf many (tss.take i) = 0
      · rw [if_pos h0]
        refine vNe_tups repTerm (xs := ts) (ys := []) (by decide) ?_
        cases ts with
        | nil =>
          walk_at "v"
          rw [if_neg (by simp)]
          exact k1 _ (fun z => absurd rfl z) (by rw [step, if_pos rfl])
        | cons t r =>
          rw [show decide (t :: r = []) = false from rfl]
          walk_at "v"
          refine vIx_tup (xs := (t :: r).map terD) (d := terD t) (by decide) rfl ?_
          simp only [terD]
          walk_at "v"
          have hl : t.1.length = many := hfm.len t List.mem_cons_self
          refine k1 _ (fun _ => ?_) ?_
          · rw [hl]; split <;> omega
          · rw [step, if_neg (List.cons_ne_nil t r), hl]; split <;> omega
      · rw [if_neg h0]
        have hM : manyOf many (tss.take i) = many := by
          unfold manyOf at h0 ⊢
          split
          · rename_i z; rw [if_pos z] at h0; exact absurd rfl h0
          · rfl
        refine k1 _ (fun _ => hM) ?_
        rw [step]
        split
        · rfl
        · exact hM
  · rintro τ S' ⟨x2, rfl, rfl⟩
    simp only [rd_checked_sums_k2_eq, List.length_map, List.take_length]
    walk_at "v"
    exact ⟨S', Le.refl _, h⟩
theorem ok_checked_sums {P : Program} {w : World} {K : PySem.W.Frag} {mg : Str → Option Value} {base : Heap} (T : Tp K mg) : FnOk P w K mg base CX0 3 T.a_checked_sums T.d_checked_sums ["sums"] (lowSp K sp_checked_sums) :=
  fnV T.F_checked_sums sc_checked_sums (fun ds S Q E h => len_checked_sums h) fun cdv A outer s H E en E0 hr hx =>
    ⟨rd_checked_sums, vss_cons (vs_set (i := 1) sc_checked_sums.nd rfl (.inl rfl) ve_int) (vss_cons (vs_for PassesOwn.never rfl (vi_lst (ve_var 0)) (vg_name (i := 2) sc_checked_sums.nd rfl (.inl rfl)) (vss_cons (vs_if (vt_bool (vw_and (vt_cmp (op_eqAny hr.units) ov_eq (ve_var 1) ve_int) (vw_and1 (vt_cmp (op_neAny hr.units) ov_ne (ve_var 2) (ve_tup va_nil))))) (vss_one (vs_set (i := 1) sc_checked_sums.nd rfl (.inl rfl) (ve_callB (call_max2 rfl) ca_max2 (by rfl) T.z_max (by decide +kernel) (va_cons ve_int (va_cons (ve_callB call_len ca_len (by rfl) T.z_len (by decide +kernel) (va_cons (ve_ix ix_seq ov_ix (ve_ix ix_seq ov_ix (ve_var 2) ve_int) ve_int) va_nil)) va_nil))))) vss_nil) (vss_one (vs_expr (ve_call (ok_checked_sum T) (hr.mono (by decide)) (by rfl) T.g_checked_sum T.F_checked_sum.kp (bi_checked_sum T) (pass0 (X := _)) XE0.no (va_cons (ve_var 2) (va_cons (ve_var 1) va_nil))))))) (vss_one (vs_ret (ve_var 1)))), fun ds S Q h => vc_checked_sums h⟩
def rd_least_of : RS := sRet (eLcF (fun xs S Q => Q (.tup xs) S) (iZipD (eVar 0)) (.nm 1) tYes (eCB cMin1 [eVar 1]) [1])
theorem rd_least_of_eq (D0 : En) (τ : VS) (S : Sto) : rd_least_of D0 τ S = (sRet (eLcF (fun xs S Q => Q (.tup xs) S) (iZipD (eVar 0)) (.nm 1) tYes (eCB cMin1 [eVar 1]) [1]) : RS) D0 τ S := rfl
theorem col_at (ts : List Tr) (i : Nat) (hi : ∀ t ∈ ts, i < t.1.length) : ((dD ts).map fun kv => kv.1.map D.int).map (fun xs => xs.getD i .non) = (ts.map fun t => t.1.getD i 0).map .int := by
  unfold dD
  rw [List.map_map, List.map_map, List.map_map]
  refine List.map_congr_left fun t ht => ?_
  show (t.1.map D.int).getD i .non = D.int (t.1.getD i 0)
  have h := hi t ht
  rw [List.getD_eq_getElem?_getD, List.getD_eq_getElem?_getD, List.getElem?_map, List.getElem?_eq_getElem h]; rfl
theorem vc_least_of {ds S Q E} (h : sp_least_of ds S Q E) : BodyV N_least_of ds S Q rd_least_of := by
  obtain ⟨p, ts, many, rfl, hp, hm, hlen, h⟩ := h
  rw [BodyV, rd_least_of_eq]
  walk_at "v"
  refine ⟨dD ts, many, .inl hp, fun kv hkv => ?_, by omega, ?_⟩
  · obtain ⟨t, ht, rfl⟩ := List.mem_map.mp hkv
    exact hlen t ht
  refine lc_inv (fun i acc S' => S' = S ∧ ∃ m : List Int, acc = m.map .int ∧ m.length = i ∧ (∀ j : Nat, j < i → ∃ t ∈ ts, t.1.getD j 0 = m.getD j 0) ∧ ∀ j : Nat, j < i → ∀ t ∈ ts, m.getD j 0 ≤ t.1.getD j 0)
    ⟨rfl, [], rfl, rfl, fun j hj => absurd hj (Nat.not_lt_zero _), fun j hj => absurd hj (Nat.not_lt_zero _)⟩ (fun _ _ _ _ => trivial) ?_ ?_
  · rintro i x acc S' K' hx ⟨rfl, m, rfl, hml, h1, h2⟩ hk
    obtain ⟨hne, hi, rfl⟩ := zipD_at hx
    have hts : ts ≠ [] := fun z => hne (by rw [z]; rfl)
    walk_at "v"
    rw [col_at ts i fun t ht => by rw [hlen t ht]; exact hi]
    refine ⟨ts.map fun t : Tr => t.1.getD i 0, (rfl : List.map D.int _ = _), ?_, fun M hM1 hM2 => ?_⟩
    · rw [List.length_map]; exact List.length_pos_iff.mpr hts
    · have at1 : ∀ j : Nat, j < i → (m ++ [M]).getD j 0 = m.getD j 0 := fun j hj => by
        rw [List.getD_eq_getElem?_getD, List.getD_eq_getElem?_getD, List.getElem?_append_left (by omega)]
      have at2 : (m ++ [M]).getD i 0 = M := by
        rw [List.getD_eq_getElem?_getD, List.getElem?_append_right (by omega), hml, Nat.sub_self]; rfl
      refine hk _ _ _ (Le.refl _) ⟨rfl, m ++ [M], by rw [List.map_append]; rfl, by rw [List.length_append, hml]; rfl, fun j hj => ?_, fun j hj t ht => ?_⟩
      · rcases Nat.lt_or_eq_of_le (Nat.le_of_lt_succ hj) with z | z
        · obtain ⟨t, ht, e⟩ := h1 j z
          exact ⟨t, ht, by rw [at1 j z]; exact e⟩
        · subst z
          obtain ⟨t, ht, e⟩ := List.mem_map.mp hM1
          exact ⟨t, ht, by rw [at2]; exact e⟩
      · rcases Nat.lt_or_eq_of_le (Nat.le_of_lt_succ hj) with z | z
        · rw [at1 j z]; exact h2 j z t ht
        · subst z
          rw [at2]; exact hM2 _ (List.mem_map_of_mem ht)
  · rintro acc S' ⟨rfl, m, rfl, hml, h1, h2⟩
    refine ⟨S', Le.refl _, h m ⟨?_, fun j hj => h1 j (by rw [← hml]; exact hj), fun j hj => h2 j (by rw [← hml]; exact hj)⟩⟩
    rw [hml]
    cases ts with
    | nil => rfl
    | cons t r => rw [zipD_len (by unfold dD; simp)]; rfl
theorem ok_least_of {P : Program} {w : World} {K : PySem.W.Frag} {mg : Str → Option Value} {base : Heap} (T : Tp K mg) : FnOk P w K mg base CX0 1 T.a_least_of T.d_least_of ["one"] (lowSp K sp_least_of) :=
  fnV T.F_least_of sc_least_of (fun ds S Q E h => len_least_of h) fun cdv A outer s H E en E0 hr hx =>
    ⟨rd_least_of, vss_one (vs_ret (ve_callTyL call_tuple_of cl_tuple (by rfl) T.z_tuple (by decide +kernel) (own := [("column", 1)]) (t := (.nm 1)) rfl sc_least_of.nd (vi_zipD rfl (by rfl) T.z_zip (ve_var 0)) (blkOk_by (N := ["one", "column"]) (sc := defScope s_least_of) (by decide +kernel)) ⟨fun _ _ _ _ _ => pg_name (i := 1) sc_least_of.nd rfl (Or.inl rfl), fun _ _ _ _ _ => vts_nil, fun _ _ _ _ _ => ve_callB (cr_minT rfl) ca_min1 (by rfl) T.z_min (by decide +kernel) (va_cons (ve_var 1) va_nil)⟩ (by decide))), fun ds S Q h => vc_least_of h⟩
/-! ### worths -/
structure Gst (many : Nat) (ts : List Tr) (m : List Int) : Prop where
  len : m.length = if ts.isEmpty then 0 else many
  at' : ∀ j : Nat, j < m.length → ∃ t ∈ ts, t.1.getD j 0 = m.getD j 0
  ge : ∀ j : Nat, j < m.length → ∀ t ∈ ts, t.1.getD j 0 ≤ m.getD j 0
def sp_greatest_of : SpV := fun ds S Q _ => ∃ p ts many, ds = [.ref p] ∧ S p = some (.dI (dD ts)) ∧ many ≤ 100000 ∧ (∀ t ∈ ts, List.length t.1 = many) ∧ ∀ m, Gst many ts m → Q (tI m) S
theorem len_greatest_of {ds S Q E} (h : sp_greatest_of ds S Q E) : ds.length = 1 := by
  obtain ⟨_, _, _, rfl, _⟩ := h; rfl
def rd_greatest_of : RS := sRet (eLcF (fun xs S Q => Q (.tup xs) S) (iZipD (eVar 0)) (.nm 1) tYes (eCB cMax1 [eVar 1]) [1])
theorem rd_greatest_of_eq (D0 : En) (τ : VS) (S : Sto) : rd_greatest_of D0 τ S = (sRet (eLcF (fun xs S Q => Q (.tup xs) S) (iZipD (eVar 0)) (.nm 1) tYes (eCB cMax1 [eVar 1]) [1]) : RS) D0 τ S := rfl
theorem vc_greatest_of {ds S Q E} (h : sp_greatest_of ds S Q E) : BodyV N_greatest_of ds S Q rd_greatest_of := by
  obtain ⟨p, ts, many, rfl, hp, hm, hlen, h⟩ := h
  rw [BodyV, rd_greatest_of_eq]
  walk_at "v"
  refine ⟨dD ts, many, .inl hp, fun kv hkv => ?_, by omega, ?_⟩
  · obtain ⟨t, ht, rfl⟩ := List.mem_map.mp hkv
    exact hlen t ht
  refine lc_inv (fun i acc S' => S' = S ∧ ∃ m : List Int, acc = m.map .int ∧ m.length = i ∧ (∀ j : Nat, j < i → ∃ t ∈ ts, t.1.getD j 0 = m.getD j 0) ∧ ∀ j : Nat, j < i → ∀ t ∈ ts, t.1.getD j 0 ≤ m.getD j 0)
    ⟨rfl, [], rfl, rfl, fun j hj => absurd hj (Nat.not_lt_zero _), fun j hj => absurd hj (Nat.not_lt_zero _)⟩ (fun _ _ _ _ => trivial) ?_ ?_
  · rintro i x acc S' K' hx ⟨rfl, m, rfl, hml, h1, h2⟩ hk
    obtain ⟨hne, hi, rfl⟩ := zipD_at hx
    have hts : ts ≠ [] := fun z => hne (by rw [z]; rfl)
    walk_at "v"
    rw [col_at ts i fun t ht => by rw [hlen t ht]; exact hi]
    refine ⟨ts.map fun t : Tr => t.1.getD i 0, (rfl : List.map D.int _ = _), ?_, fun M hM1 hM2 => ?_⟩
    · rw [List.length_map]; exact List.length_pos_iff.mpr hts
    · have at1 : ∀ j : Nat, j < i → (m ++ [M]).getD j 0 = m.getD j 0 := fun j hj => by
        rw [List.getD_eq_getElem?_getD, List.getD_eq_getElem?_getD, List.getElem?_append_left (by omega)]
      have at2 : (m ++ [M]).getD i 0 = M := by
        rw [List.getD_eq_getElem?_getD, List.getElem?_append_right (by omega), hml, Nat.sub_self]; rfl
      refine hk _ _ _ (Le.refl _) ⟨rfl, m ++ [M], by rw [List.map_append]; rfl, by rw [List.length_append, hml]; rfl, fun j hj => ?_, fun j hj t ht => ?_⟩
      · rcases Nat.lt_or_eq_of_le (Nat.le_of_lt_succ hj) with z | z
        · obtain ⟨t, ht, e⟩ := h1 j z
          exact ⟨t, ht, by rw [at1 j z]; exact e⟩
        · subst z
          obtain ⟨t, ht, e⟩ := List.mem_map.mp hM1
          exact ⟨t, ht, by rw [at2]; exact e⟩
      · rcases Nat.lt_or_eq_of_le (Nat.le_of_lt_succ hj) with z | z
        · rw [at1 j z]; exact h2 j z t ht
        · subst z
          rw [at2]; exact hM2 _ (List.mem_map_of_mem ht)
  · rintro acc S' ⟨rfl, m, rfl, hml, h1, h2⟩
    refine ⟨S', Le.refl _, h m ⟨?_, fun j hj => h1 j (by rw [← hml]; exact hj), fun j hj => h2 j (by rw [← hml]; exact hj)⟩⟩
    rw [hml]
    cases ts with
    | nil => rfl
    | cons t r => rw [zipD_len (by unfold dD; simp)]; rfl
theorem ok_greatest_of {P : Program} {w : World} {K : PySem.W.Frag} {mg : Str → Option Value} {base : Heap} (T : Tp K mg) : FnOk P w K mg base CX0 1 T.a_greatest_of T.d_greatest_of ["one"] (lowSp K sp_greatest_of) :=
  fnV T.F_greatest_of sc_greatest_of (fun ds S Q E h => len_greatest_of h) fun cdv A outer s H E en E0 hr hx =>
    ⟨rd_greatest_of, vss_one (vs_ret (ve_callTyL call_tuple_of cl_tuple (by rfl) T.z_tuple (by decide +kernel) (own := [("column", 1)]) (t := (.nm 1)) rfl sc_greatest_of.nd (vi_zipD rfl (by rfl) T.z_zip (ve_var 0)) (blkOk_by (N := ["one", "column"]) (sc := defScope s_greatest_of) (by decide +kernel)) ⟨fun _ _ _ _ _ => pg_name (i := 1) sc_greatest_of.nd rfl (Or.inl rfl), fun _ _ _ _ _ => vts_nil, fun _ _ _ _ _ => ve_callB (cr_maxT rfl) ca_max1 (by rfl) T.z_max (by decide +kernel) (va_cons (ve_var 1) va_nil)⟩ (by decide))), fun ds S Q h => vc_greatest_of h⟩
/-- a list of lists of numbers -/
structure Rw (G : Sto) (r : Addr) (as : List Addr) (fs : List (List Int)) : Prop where
  rr : G r = some (.lst (as.map .ref))
  len : as.length = fs.length
  at' : ∀ (j : Nat) a, as[j]? = some a → a ≠ r ∧ ∃ f, fs[j]? = some f ∧ G a = some (.lst (f.map .int))
theorem Rw.push {G : Sto} {r w : Addr} {as : List Addr} {fs : List (List Int)} (h : Rw G r as fs) (hw : G w = none) (f : List Int) : Rw (put (put G w (.lst (f.map .int))) r (.lst (as.map .ref ++ [.ref w]))) r (as ++ [w]) (fs ++ [f]) := by
  have hwr : w ≠ r := fun z => by rw [z, h.rr] at hw; cases hw
  refine ⟨by rw [put_same, List.map_append]; rfl, by rw [List.length_append, List.length_append, h.len]; rfl, fun j a ha => ?_⟩
  rcases Nat.lt_or_ge j as.length with hj | hj
  · rw [List.getElem?_append_left hj] at ha
    obtain ⟨h1, f', h2, h3⟩ := h.at' j a ha
    refine ⟨h1, f', by rw [List.getElem?_append_left (by rw [← h.len]; exact hj)]; exact h2, ?_⟩
    rw [put_ne h1, put_ne (sne h3 hw)]; exact h3
  · rw [List.getElem?_append_right hj] at ha
    have e : j - as.length = 0 := by
      have := (List.getElem?_eq_some_iff.mp ha).1
      simp only [List.length_cons, List.length_nil] at this; omega
    rw [e] at ha
    have ha : w = a := Option.some.inj ha
    subst ha
    refine ⟨hwr, f, ?_, by rw [put_ne hwr, put_same]⟩
    rw [List.getElem?_append_right (by rw [← h.len]; exact hj), ← h.len, e]; rfl
theorem Rw.put {G : Sto} {r p : Addr} {as : List Addr} {fs : List (List Int)} (h : Rw G r as fs) {o u : MO} (hp : G p = some o) (ho : ∀ xs, o ≠ .lst xs) : Rw (put G p u) r as fs := by
  have hpr : r ≠ p := fun z => by rw [← z, h.rr] at hp; cases hp; exact ho _ rfl
  refine ⟨by rw [put_ne hpr]; exact h.rr, h.len, fun j a ha => ?_⟩
  obtain ⟨h1, f, h2, h3⟩ := h.at' j a ha
  refine ⟨h1, f, h2, ?_⟩
  rw [put_ne (fun z => by rw [← z, h3] at hp; cases hp; exact ho _ rfl)]; exact h3
def rowsF (ns : List Int) (ms : List Nat) : List (List Int) := (ns.zip ms).map fun p => pwL p.1 p.2
theorem rowsF_at {ns : List Int} {ms : List Nat} {i : Nat} (h1 : i < ns.length) (h2 : i < ms.length) : (rowsF ns ms)[i]? = some (pwL (ns.getD i 0) (ms.getD i 0)) := by
  unfold rowsF
  have e1 : ns[i]? = some ns[i] := List.getElem?_eq_getElem h1
  have e2 : ms[i]? = some ms[i] := List.getElem?_eq_getElem h2
  have e3 : (ns.zip ms)[i]? = some (ns[i], ms[i]) := List.getElem?_zip_eq_some.mpr ⟨e1, e2⟩
  rw [List.getElem?_map, e3, List.getD_eq_getElem?_getD, List.getD_eq_getElem?_getD, e1, e2]; rfl
theorem rowsF_length {ns : List Int} {ms : List Nat} (h : ns.length = ms.length) : (rowsF ns ms).length = ns.length := by unfold rowsF; rw [List.length_map, List.length_zip, ← h, Nat.min_self]
theorem itemsD_le {S G : Sto} {x : D} {xs : List D} (h : itemsD S x xs) (l : Le S G) : itemsD G x xs := by
  cases x with
  | ref a => exact rdL.le h l
  | _ => exact h
theorem take_of {xs : List Int} {i : Nat} (h : i < xs.length) : xs.take (i + 1) = xs.take i ++ [xs.getD i 0] := by
  have e : xs[i]? = some xs[i] := List.getElem?_eq_getElem h
  rw [take_snoc e, getD_of e]
theorem pw_last {S : Sto} {w : Addr} {n : Int} {j : Nat} {Q : KE} (h : S w = some (.lst ((pwL n j).map .int))) (q : Q (.int (n ^ j)) S) : vIx (.ref w) (.int (-1)) S Q := by
  refine ⟨_, _, .inl h, ?_, q⟩
  rw [atI_last (fun z => by have := congrArg List.length z; rw [List.length_map, pwL_length] at this; simp at this), List.length_map, pwL_length, List.getElem?_map, Nat.add_sub_cancel, pwL_get (Nat.le_refl _)]; rfl
theorem pw_at {S : Sto} {w : Addr} {n i : Int} {m : Nat} {Q : KE} (h : S w = some (.lst ((pwL n m).map .int))) (h0 : 0 ≤ i) (h1 : i.toNat ≤ m) (q : Q (.int (n ^ i.toNat)) S) : vIx (.ref w) (.int i) S Q := by
  refine vIx_ref h h0 ?_ q
  rw [List.getElem?_map, pwL_get h1]; rfl
def sp_worth_above : SpV := fun ds S Q _ => ∃ d ts x y ns low, ∃ e dd c : Nat, ds = [.ref d, x, y] ∧ S d = some (.dI (dD ts)) ∧ itemsD S x (List.map .int ns) ∧ itemsD S y (List.map .int low) ∧ ts ≠ [] ∧ List.length ts ≤ 100000 ∧ 1 ≤ List.length ns ∧ List.length ns ≤ 1000 ∧ List.length low = List.length ns ∧
  (∀ t ∈ ts, List.length t.1 = List.length ns ∧ t.2.natAbs ≤ 2 ^ c ∧ ∀ i : Nat, i < List.length ns → low.getD i 0 ≤ t.1.getD i 0 ∧ t.1.getD i 0 - low.getD i 0 ≤ (dd : Int)) ∧ (∀ n ∈ ns, n.natAbs ≤ 2 ^ e) ∧ dd ≤ 100000 ∧ e * dd * List.length ns + e + c ≤ 60000000 ∧ Q (.int (wsum ns low ts)) S
theorem len_worth_above {ds S Q E} (h : sp_worth_above ds S Q E) : ds.length = 3 := by
  obtain ⟨_, _, _, _, _, _, _, _, _, rfl, _⟩ := h; rfl
def rd_worth_above_b1 : RS := sDrop (eM "list" mAppend (eVar 8) [eBin vMul (eBin vIx (eVar 8) (eUn vNeg (eC (.int 1)))) (eVar 5)])
theorem rd_worth_above_b1_eq (D0 : En) (τ : VS) (S : Sto) : rd_worth_above_b1 D0 τ S = (sDrop (eM "list" mAppend (eVar 8) [eBin vMul (eBin vIx (eVar 8) (eUn vNeg (eC (.int 1)))) (eVar 5)]) : RS) D0 τ S := rfl
def rd_worth_above_k1 : RS := sDrop (eM "list" mAppend (eVar 3) [eVar 8])
theorem rd_worth_above_k1_eq (D0 : En) (τ : VS) (S : Sto) : rd_worth_above_k1 D0 τ S = (sDrop (eM "list" mAppend (eVar 3) [eVar 8]) : RS) D0 τ S := rfl
def rd_worth_above_b2 : RS := sSeq (sAsg (eLst [eC (.int 1)]) (gName 8)) (sSeq (sFor (iRng1 [eBin vSub (eVar 6) (eVar 7)]) (gName 9) rd_worth_above_b1) rd_worth_above_k1)
theorem rd_worth_above_b2_eq (D0 : En) (τ : VS) (S : Sto) : rd_worth_above_b2 D0 τ S = (sSeq (sAsg (eLst [eC (.int 1)]) (gName 8)) (sSeq (sFor (iRng1 [eBin vSub (eVar 6) (eVar 7)]) (gName 9) rd_worth_above_b1) rd_worth_above_k1) : RS) D0 τ S := rfl
def rd_worth_above_b3 : RS := sAsg (eBin vMul (eVar 12) (eBin vIx (eVar 8) (eBin vSub (eVar 13) (eVar 7)))) (gName 12)
theorem rd_worth_above_b3_eq (D0 : En) (τ : VS) (S : Sto) : rd_worth_above_b3 D0 τ S = (sAsg (eBin vMul (eVar 12) (eBin vIx (eVar 8) (eBin vSub (eVar 13) (eVar 7)))) (gName 12) : RS) D0 τ S := rfl
def rd_worth_above_k2 : RS := sAsg (eBin vAdd (eVar 4) (eVar 12)) (gName 4)
theorem rd_worth_above_k2_eq (D0 : En) (τ : VS) (S : Sto) : rd_worth_above_k2 D0 τ S = (sAsg (eBin vAdd (eVar 4) (eVar 12)) (gName 4) : RS) D0 τ S := rfl
def rd_worth_above_b4 : RS := sSeq (sAsg (eVar 11) (gName 12)) (sSeq (sFor (iZip [eVar 3, eVar 10, eVar 2]) (gTupN 3 [(gName 8), (gName 13), (gName 7)]) rd_worth_above_b3) rd_worth_above_k2)
theorem rd_worth_above_b4_eq (D0 : En) (τ : VS) (S : Sto) : rd_worth_above_b4 D0 τ S = (sSeq (sAsg (eVar 11) (gName 12)) (sSeq (sFor (iZip [eVar 3, eVar 10, eVar 2]) (gTupN 3 [(gName 8), (gName 13), (gName 7)]) rd_worth_above_b3) rd_worth_above_k2) : RS) D0 τ S := rfl
def rd_worth_above_k3 : RS := sRet (eVar 4)
theorem rd_worth_above_k3_eq (D0 : En) (τ : VS) (S : Sto) : rd_worth_above_k3 D0 τ S = (sRet (eVar 4) : RS) D0 τ S := rfl
def rd_worth_above_k4 : RS := sSeq (sAsg (eC (.int 0)) (gName 4)) (sSeq (sLock (sFor (iItemsT (eVar 0)) (gTupN 2 [(gName 10), (gName 11)]) rd_worth_above_b4)) rd_worth_above_k3)
theorem rd_worth_above_k4_eq (D0 : En) (τ : VS) (S : Sto) : rd_worth_above_k4 D0 τ S = (sSeq (sAsg (eC (.int 0)) (gName 4)) (sSeq (sLock (sFor (iItemsT (eVar 0)) (gTupN 2 [(gName 10), (gName 11)]) rd_worth_above_b4)) rd_worth_above_k3) : RS) D0 τ S := rfl
def rd_worth_above : RS := sSeq (sAsg (eLst []) (gName 3)) (sSeq (sFor (iZip [eVar 1, eCall sp_greatest_of E0n [eVar 0], eVar 2]) (gTupN 3 [(gName 5), (gName 6), (gName 7)]) rd_worth_above_b2) rd_worth_above_k4)
theorem rd_worth_above_eq (D0 : En) (τ : VS) (S : Sto) : rd_worth_above D0 τ S = (sSeq (sAsg (eLst []) (gName 3)) (sSeq (sFor (iZip [eVar 1, eCall sp_greatest_of E0n [eVar 0], eVar 2]) (gTupN 3 [(gName 5), (gName 6), (gName 7)]) rd_worth_above_b2) rd_worth_above_k4) : RS) D0 τ S := rfl
theorem vc_worth_above {ds S Q E} (h : sp_worth_above ds S Q E) : BodyV N_worth_above ds S Q rd_worth_above := by
  obtain ⟨d, ts, x, y, ns, low, e, dd, c, rfl, hd, hx, hy, hne, htl, hn1, hn2, hlow, ht, hn, hdd, hE, h⟩ := h
  have hE1 : e * dd ≤ e * dd * ns.length := Nat.le_mul_of_pos_right _ hn1
  rw [BodyV, rd_worth_above_eq]
  walk_at "v"
  intro r hr
  have hdr : d ≠ r := sne hd hr
  obtain ⟨B, eB, lB, hB⟩ := nwS hr (.lst [])
  simp only [eB]
  refine ⟨d, ts, ns.length, rfl, lB _ _ hd, by omega, fun t h => (ht t h).1, fun m hm => ?_⟩
  have hml : m.length = ns.length := by
    rw [hm.len]
    cases ts with
    | nil => exact absurd rfl hne
    | cons _ _ => rfl
  obtain ⟨ms, hms⟩ : ∃ ms : List Nat, ms = (m.zip low).map fun q => (q.1 - q.2).toNat := ⟨_, rfl⟩
  have hmsl : ms.length = ns.length := by rw [hms, List.length_map, List.length_zip, hml, hlow, Nat.min_self]
  have hmsi : ∀ i : Nat, i < ns.length → ms.getD i 0 = (m.getD i 0 - low.getD i 0).toNat := fun i hi => by
    have e1 : m[i]? = some (m[i]'(by omega)) := List.getElem?_eq_getElem (by omega)
    have e2 : low[i]? = some (low[i]'(by omega)) := List.getElem?_eq_getElem (by omega)
    have e3 : (m.zip low)[i]? = some (m[i]'(by omega), low[i]'(by omega)) := List.getElem?_zip_eq_some.mpr ⟨e1, e2⟩
    rw [hms, List.getD_eq_getElem?_getD, List.getElem?_map, e3, getD_of e1, getD_of e2]; rfl
  have hmi : ∀ i : Nat, i < ns.length → 0 ≤ m.getD i 0 - low.getD i 0 ∧ m.getD i 0 - low.getD i 0 ≤ (dd : Int) := fun i hi => by
    obtain ⟨t, htm, q⟩ := hm.at' i (by omega)
    have := (ht t htm).2.2 i hi
    omega
  have hnb : ∀ i : Nat, i < ns.length → (ns.getD i 0).natAbs ≤ 2 ^ e := fun i hi => by
    have e1 : ns[i]? = some ns[i] := List.getElem?_eq_getElem hi
    rw [getD_of e1]; exact hn _ (List.getElem_mem _)
  have okz : ∀ G, Le S G → Paired (itemsD G) [x, tI m, y] [ns.map .int, m.map .int, low.map .int] := fun G l => .cons (itemsD_le hx l) (.cons rfl (.cons (itemsD_le hy l) .nil))
  refine ⟨[ns.map .int, m.map .int, low.map .int], ns.length, okz B lB, by simp [hml, hlow], ?_⟩
  refine for_inv (fun i τ S' => ∃ as x5 x6 x7 x8 x9, τ = [some (.ref d), some x, some y, some (.ref r), none, x5, x6, x7, x8, x9, none, none, none, none] ∧ Le S S' ∧ Rw S' r as ((rowsF ns ms).take i))
    ⟨[], none, none, none, none, none, rfl, lB, ⟨hB, rfl, fun j a z => by cases z⟩⟩ (fun i τ S' h => by obtain ⟨_, _, _, _, _, _, _, l, _⟩ := h; exact okz _ l) ?_ ?_
  · rintro i z τ S' D1 hz ⟨as, x5, x6, x7, x8, x9, rfl, lS, hrw⟩ hrt hbk hnx hct
    obtain ⟨hi, rfl⟩ := zip3_at hz
    rw [mapD_at hi, mapD_at (by omega), mapD_at (by omega)]
    have hmi' := hmi i hi
    have hnb' := hnb i hi
    have hmsi' := hmsi i hi
    have hrow := rowsF_at (ms := ms) hi (by omega)
    rw [hmsi'] at hrow
    generalize ns.getD i 0 = n at *
    generalize m.getD i 0 = tp at *
    generalize low.getD i 0 = bt at *
    simp only [rd_worth_above_b2_eq]
    walk_at "v"
    intro w hw
    refine ⟨by omega, ?_⟩
    refine for_inv (fun j τ S2 => ∃ x9, τ = [some (.ref d), some x, some y, some (.ref r), none, some (.int n), some (.int tp), some (.int bt), some (.ref w), x9, none, none, none, none] ∧ S2 = put S' w (.lst ((pwL n j).map .int)))
      ⟨x9, rfl, by rw [pwL_zero]; rfl⟩ (fun _ _ _ _ => trivial) ?_ ?_
    · rintro j z τ S2 D2 hz2 ⟨x9, rfl, rfl⟩ hrt2 hbk2 hnx2 hct2
      obtain ⟨hj, rfl⟩ := intsD_at hz2
      simp only [rd_worth_above_b1_eq]
      walk_at "v"
      refine ⟨.inl ⟨_, .inl put_same⟩, ?_⟩
      refine pw_last put_same ?_
      have hb : (n ^ j).natAbs ≤ 2 ^ (e * dd) := abs_up (abs_pow_le hnb' j) (Nat.mul_le_mul_left e (by omega))
      walk_at "v"
      refine ⟨fits_le hb hnb' (by omega), ?_⟩
      refine ⟨_, put_same, by rw [List.length_map, pwL_length]; omega, ?_⟩
      rw [put_put]
      refine hnx2 _ _ _ _ ⟨_, rfl, ?_⟩ (VLe.refl _) (Le.refl _)
      rw [pwL_succ, List.map_append]; rfl
    · rintro τ S2 ⟨x9, rfl, rfl⟩
      rw [intsD_len]
      simp only [rd_worth_above_k1_eq]
      walk_at "v"
      have hwr : w ≠ r := fun z => by rw [z, hrw.rr] at hw; cases hw
      have hr2 : put S' w (.lst ((pwL n (tp - bt).toNat).map .int)) r = some (.lst (as.map .ref)) := by rw [put_ne hwr.symm]; exact hrw.rr
      have hal : as.length ≤ 1000 := by rw [hrw.len, List.length_take]; omega
      refine ⟨.inl ⟨_, .inl hr2⟩, _, hr2, by rw [List.length_map]; omega, ?_⟩
      refine hnx _ _ _ _ ⟨as ++ [w], _, _, _, _, _, rfl, ?_, ?_⟩ (VLe.refl _) (Le.refl _)
      · exact (upS hr2 _).choose_spec.1 ▸ (upS hr2 _).choose_spec.2.2.2 S hr ((Le.refl S').new hw |> lS.trans)
      · rw [take_snoc hrow]; exact hrw.push hw _
  · rintro τ S' ⟨as, x5, x6, x7, x8, x9, rfl, lS, hrw⟩
    rw [zipD_len (List.cons_ne_nil _ _), List.take_of_length_le (by rw [rowsF_length hmsl.symm]; exact Nat.le_refl _)] at hrw
    simp only [rd_worth_above_k4_eq]
    walk_at "v"
    have hd' := lS _ _ hd
    refine ⟨d, dD ts, hd', fun l => ?_⟩
    refine ⟨dD ts, l, put_same, fun kv hkv => ?_, ?_⟩
    · obtain ⟨t, htm, rfl⟩ := List.mem_map.mp hkv
      have := (ht t htm).1
      show t.1.length ≤ _
      omega
    rw [dD_items]
    have hrwB : Rw (put S' d (.fD (dD ts) l)) r as (rowsF ns ms) := hrw.put hd' fun _ z => by cases z
    have hyB : itemsD (put S' d (.fD (dD ts) l)) y (low.map .int) := by
      cases y with
      | ref b =>
        have hy0 : rdL S b (low.map .int) := hy
        rcases hy0 with z | z
        · exact .inl (by rw [put_ne (fun q => by rw [q, hd] at z; cases z)]; exact lS _ _ z)
        · exact .inr (by rw [put_ne (fun q => by rw [q, hd] at z; cases z)]; exact lS _ _ z)
      | _ => exact hy
    obtain ⟨BB, hBB⟩ : ∃ BB, put S' d (.fD (dD ts) l) = BB := ⟨_, rfl⟩
    rw [hBB] at hrwB hyB ⊢
    have hBBd : BB d = some (.fD (dD ts) l) := by rw [← hBB]; exact put_same
    refine for_inv (fun i τ S2 => ∃ x5 x6 x7 x8 x9 x10 x11 x12 x13, τ = [some (.ref d), some x, some y, some (.ref r), some (.int (wsum ns low (ts.take i))), x5, x6, x7, x8, x9, x10, x11, x12, x13] ∧ S2 = BB)
      ⟨x5, x6, x7, x8, x9, none, none, none, none, rfl, rfl⟩ (fun i τ S2 h => by obtain ⟨_, _, _, _, _, _, _, _, _, _, rfl⟩ := h; exact hBBd) ?_ ?_
    · rintro i z τ S2 D1 hz ⟨x5, x6, x7, x8, x9, x10, x11, x12, x13, rfl, rfl⟩ hrt hbk hnx hct
      obtain ⟨t, htt, rfl⟩ := map_at hz
      obtain ⟨ht1, ht2, ht3⟩ := ht t (List.mem_of_getElem? htt)
      simp only [terD, rd_worth_above_b4_eq]
      walk_at "v"
      have okz2 : Paired (itemsD S2) [.ref r, tI t.1, y] [as.map .ref, t.1.map .int, low.map .int] := .cons (.inl hrwB.rr) (.cons rfl (.cons hyB .nil))
      refine ⟨[as.map .ref, t.1.map .int, low.map .int], ns.length, okz2, ?_, ?_⟩
      · simp [hrwB.len, rowsF_length hmsl.symm, ht1, hlow]
      refine for_inv (fun j τ S3 => ∃ x7 x8 x13, τ = [some (.ref d), some x, some y, some (.ref r), some (.int (wsum ns low (ts.take i))), x5, x6, x7, x8, x9, some (tI t.1), some (.int t.2), some (.int (t.2 * wt (ns.take j) (low.take j) (t.1.take j))), x13] ∧ S3 = S2)
        ⟨x7, x8, x13, by simp [wt], rfl⟩ (fun i τ S2 h => by obtain ⟨_, _, _, _, rfl⟩ := h; exact okz2) ?_ ?_
      · rintro j z τ S3 D2 hz2 ⟨x7, x8, x13, rfl, rfl⟩ hrt2 hbk2 hnx2 hct2
        obtain ⟨hj, rfl⟩ := zip3_at hz2
        have hja : j < as.length := by rw [hrwB.len, rowsF_length hmsl.symm]; exact hj
        have ea : as[j]? = some as[j] := List.getElem?_eq_getElem hja
        have ea2 : (as.map D.ref).getD j .non = .ref as[j] := by rw [List.getD_eq_getElem?_getD, List.getElem?_map, ea]; rfl
        rw [ea2, mapD_at (by omega), mapD_at (by omega)]
        obtain ⟨_, f, hf1, hf2⟩ := hrwB.at' j _ ea
        rw [rowsF_at hj (by omega), hmsi j hj] at hf1
        have hf1 := Option.some.inj hf1
        subst hf1
        simp only [rd_worth_above_b3_eq]
        walk_at "v"
        have hq := ht3 j hj
        have hg := hm.ge j (by omega) t (List.mem_of_getElem? htt)
        refine pw_at hf2 (by omega) (by omega) ?_
        walk_at "v"
        have hwb : (wt (ns.take j) (low.take j) (t.1.take j)).natAbs ≤ 2 ^ (e * dd * ns.length) := by
          refine abs_up (wt_bound (e := e) (d := dd) (fun n hn' => hn n (List.mem_of_mem_take hn')) fun i => ?_) (Nat.mul_le_mul_left _ (by rw [List.length_take]; omega))
          rw [List.getD_eq_getElem?_getD, List.getD_eq_getElem?_getD, List.getElem?_take, List.getElem?_take]
          split
          · rw [← List.getD_eq_getElem?_getD, ← List.getD_eq_getElem?_getD]
            exact (ht3 i (by omega)).2
          · simp
        have hpb : (ns.getD j 0 ^ (t.1.getD j 0 - low.getD j 0).toNat).natAbs ≤ 2 ^ (e * dd) := abs_up (abs_pow_le (hnb j hj) _) (Nat.mul_le_mul_left e (by omega))
        refine ⟨fits_le (abs_mul_le ht2 hwb) hpb (by omega), ?_⟩
        have e9 : t.2 * wt (ns.take (j + 1)) (low.take (j + 1)) (t.1.take (j + 1)) = t.2 * wt (ns.take j) (low.take j) (t.1.take j) * ns.getD j 0 ^ (t.1.getD j 0 - low.getD j 0).toNat := by
          rw [take_of hj, take_of (xs := low) (by omega), take_of (xs := t.1) (by omega), wt_snoc (by rw [List.length_take, List.length_take]; omega) (by rw [List.length_take, List.length_take]; omega), Int.mul_assoc]
        rw [← e9]
        exact hnx2 _ _ _ _ ⟨_, _, _, rfl, rfl⟩ (VLe.refl _) (Le.refl _)
      · rintro τ S3 ⟨x7, x8, x13, rfl, rfl⟩
        rw [zipD_len (List.cons_ne_nil _ _), List.take_length, List.take_of_length_le (l := low) (by omega), List.take_of_length_le (l := t.1) (by omega)]
        simp only [rd_worth_above_k2_eq]
        walk_at "v"
        have e9 : wsum ns low (ts.take (i + 1)) = wsum ns low (ts.take i) + t.2 * wt ns low t.1 := by
          rw [take_snoc htt]
          unfold wsum
          rw [List.map_append, List.sum_append]; simp
        rw [← e9]
        exact hnx _ _ _ _ ⟨_, _, _, _, _, _, _, _, _, rfl, rfl⟩ (VLe.refl _) (Le.refl _)
    · rintro τ S2 ⟨x5, x6, x7, x8, x9, x10, x11, x12, x13, rfl, rfl⟩
      rw [List.length_map, List.take_length]
      refine ⟨hBBd, ?_⟩
      rw [← hBB, put_put, put_self hd']
      simp only [rd_worth_above_k3_eq]
      walk_at "v"
      exact ⟨S, lS, h⟩
theorem ok_worth_above {P : Program} {w : World} {K : PySem.W.Frag} {mg : Str → Option Value} {base : Heap} (T : Tp K mg) : FnOk P w K mg base CX0 2 T.a_worth_above T.d_worth_above ["one", "numbers", "low"] (lowSp K sp_worth_above) :=
  fnV T.F_worth_above sc_worth_above (fun ds S Q E h => len_worth_above h) fun cdv A outer s H E en E0 hr hx =>
    ⟨rd_worth_above, vss_cons (vs_set (i := 3) sc_worth_above.nd rfl (.inl rfl) (ve_lst va_nil)) (vss_cons (vs_for PassesOwn.never rfl (vi_zip (by rfl) T.z_zip (va_cons (ve_var 1) (va_cons (ve_call (ok_greatest_of T) (hr.mono (by decide)) (by rfl) T.g_greatest_of T.F_greatest_of.kp (bi_greatest_of T) (pass0 (X := _)) XE0.no (va_cons (ve_var 0) va_nil)) (va_cons (ve_var 2) va_nil)))) (vg_tup rfl (vgs_cons (vg_name (i := 5) sc_worth_above.nd rfl (.inl rfl)) (vgs_cons (vg_name (i := 6) sc_worth_above.nd rfl (.inl rfl)) (vgs_cons (vg_name (i := 7) sc_worth_above.nd rfl (.inl rfl)) (vgs_nil))))) (vss_cons (vs_set (i := 8) sc_worth_above.nd rfl (.inl rfl) (ve_lst (va_cons ve_int va_nil))) (vss_cons (vs_for PassesOwn.never rfl (vi_rng1 (by rfl) T.z_range (va_cons (ve_op op_sub ov_int0 (ve_var 6) (ve_var 7)) va_nil)) (vg_name (i := 9) sc_worth_above.nd rfl (.inl rfl)) (vss_one (vs_expr (ve_bm PySem.F.plainAttrs_list PySem.F.slot_list_append PySem.F.type_list_append mt_append me_append (ve_var 8) (va_cons (ve_op op_mulAny ov_mul (ve_ix ix_seq ov_ix (ve_var 8) (ve_un un_neg uv_neg ve_int)) (ve_var 5)) va_nil))))) (vss_one (vs_expr (ve_bm PySem.F.plainAttrs_list PySem.F.slot_list_append PySem.F.type_list_append mt_append me_append (ve_var 3) (va_cons (ve_var 8) va_nil))))))) (vss_cons (vs_set (i := 4) sc_worth_above.nd rfl (.inl rfl) ve_int) (vss_cons (vs_lock (vs_for PassesOwn.never rfl (vi_itemsT (ve_var 0)) (vg_tup rfl (vgs_cons (vg_name (i := 10) sc_worth_above.nd rfl (.inl rfl)) (vgs_cons (vg_name (i := 11) sc_worth_above.nd rfl (.inl rfl)) (vgs_nil)))) (vss_cons (vs_set (i := 12) sc_worth_above.nd rfl (.inl rfl) (ve_var 11)) (vss_cons (vs_for PassesOwn.never rfl (vi_zip (by rfl) T.z_zip (va_cons (ve_var 3) (va_cons (ve_var 10) (va_cons (ve_var 2) va_nil)))) (vg_tup rfl (vgs_cons (vg_name (i := 8) sc_worth_above.nd rfl (.inl rfl)) (vgs_cons (vg_name (i := 13) sc_worth_above.nd rfl (.inl rfl)) (vgs_cons (vg_name (i := 7) sc_worth_above.nd rfl (.inl rfl)) (vgs_nil))))) (vss_one (vs_set (i := 12) sc_worth_above.nd rfl (.inl rfl) (ve_op op_mulAny ov_mul (ve_var 12) (ve_ix ix_seq ov_ix (ve_var 8) (ve_op op_sub ov_int0 (ve_var 13) (ve_var 7))))))) (vss_one (vs_set (i := 4) sc_worth_above.nd rfl (.inl rfl) (ve_op op_addAny ov_add (ve_var 4) (ve_var 12)))))))) (vss_one (vs_ret (ve_var 4)))))), fun ds S Q h => vc_worth_above h⟩
end LW
namespace LW
open PySem PySem.Spec PyProof.Rows L2 VL
local macro_rules | `(tactic| walk_at "v") => `(tactic| simp only [sSeq, sAsg, sFor, sRet, sRetN, sIf, sNext, sDrop, sPar, sAug, VL.sDPut, eVar, eC, eBin, eUn, eCB, eCall, eCallK, eArgs, eTup, eLst, eIf, eNot, eAnd, eOr, eDNew, eDGet2, eSl, oNone, oSome, eRev, eM0, eM, eLc, eLcF, Tg.R, tVal, VL.tNot, VL.tAnd, VL.tOr, VL.tYes, sl, wipeV, VL.gName, VL.gTupN, VL.gSub, gAll, VL.iTup, iLst, iScr, VL.iRng1, VL.iRng2, vAdd_int, vAdd_ib, vAdd_str, vAdd_tup, vAdd_tI, vAdd_ref, VL.vInt, VL.vInt0, vMul_int, vMul_ref, vMul_tup, vNeg, vCmp, vEq_int, vEq_bl, vEq_str, vNe_int, vNe_bl, vNe_str, vLt_int, vIsN_non, vNotN_non, vIsN_int, vNotN_int, vIsN_bl, vNotN_bl, vIsN_str, vNotN_str, vIsN_ref, vNotN_ref, vIsN_tup, vNotN_tup, vIsN_tI, vNotN_tI, vLt_tI, cLen_tI, vDGet_tI, vDPut_tI, vDGet2_tI, cLen_tup, cLen_scr, cLen_str, cLen_ref, cLenD_ref, ci_non_bool, ci_non_int, ci_non_str, ci_non_list, ci_non_tuple, ci_non_dict, ci_bl_bool, ci_bl_int, ci_bl_str, ci_bl_list, ci_bl_tuple, ci_bl_dict, ci_int_bool, ci_int_int, ci_int_str, ci_int_list, ci_int_tuple, ci_int_dict, ci_str_bool, ci_str_int, ci_str_str, ci_str_list, ci_str_tuple, ci_str_dict, ci_tup_bool, ci_tup_int, ci_tup_str, ci_tup_list, ci_tup_tuple, ci_tup_dict, vIn_tI, vIn_int, vDDel_tI, VL.sDDelT, VL.eDc, VL.sLock, VL.eLock, VL.unE, VL.iZip, VL.iZipD, VL.iEnum, VL.iKeyT, VL.eLRg1, VL.eD1, VL.iItemsT, VL.cGcd, eArgs, cList_tI, cInt_int, cInt_bl, cAbs, cMax2_int, cMin2_int, isT, mPop, mAppend, vIx_p0, vIx_p1, vSl_tI, vIx_stk0, vIx_stk1, vIx_stk2, vIx_stk3, vLSet_stk1, vLSet_stk2, vLSet_stk3, stk_a, List.set, startV, List.map_cons, List.map_nil, List.replicate, List.append_eq, List.nil_append, List.cons_append, List.length_cons, List.length_nil, List.length_map, if_true, Bool.false_eq_true, if_false, reduceIte, Bool.not_true, Bool.not_false, true_and, and_true, false_or, or_false, Bool.not_eq_eq_eq_not, decide_eq_true_eq, decide_eq_false_iff_not, reduceCtorEq])
/-! ### value -/
def lo12 (n : Nat) : List Int := List.replicate n (-12)
def zrs (n : Nat) : List Int := List.replicate n 0
def valR (ns : List Int) (ts : List Tr) : Int × Int := if ts = [] then (0, 1) else lowF (wsum ns (lo12 ns.length) ts) (wt ns (lo12 ns.length) (zrs ns.length))
theorem rep_at {n i : Nat} {z : Int} (h : i < n) : (List.replicate n z).getD i 0 = z := by
  rw [List.getD_eq_getElem?_getD, List.getElem?_replicate, if_pos h]; rfl
theorem rep_off {n i : Nat} {z : Int} (h : n ≤ i) : (List.replicate n z).getD i 0 = 0 := by
  rw [List.getD_eq_getElem?_getD, List.getElem?_replicate, if_neg (by omega)]; rfl
theorem off_getD {xs : List Int} {i : Nat} (h : xs.length ≤ i) : xs.getD i 0 = 0 := by
  rw [List.getD_eq_getElem?_getD, List.getElem?_eq_none h]; rfl
theorem log2_fits' {j : Int} (h0 : j ≠ 0) (h : j.natAbs ≤ 2 ^ 8900) : j.natAbs.log2 < 9000 := by
  have h1 : j.natAbs.log2 ≤ 8900 := by
    have := (Nat.log2_lt (n := j.natAbs) (k := 8901) (by omega)).mpr (Nat.lt_of_le_of_lt h (Nat.pow_lt_pow_right (by decide) (by decide)))
    omega
  omega
def sp_value : SpV := fun ds S Q _ => ∃ ts a ns, ∃ e c : Nat, ds = [sumD ts, .ref a] ∧ rdL S a (List.map .int ns) ∧ 1 ≤ List.length ns ∧ List.length ns ≤ 12 ∧ Fm (List.length ns) ts ∧ List.length ts ≤ 100000 ∧ (∀ n ∈ ns, n ≠ 0 ∧ n.natAbs ≤ 2 ^ e) ∧ e * 12 * List.length ns ≤ 8900 ∧ c ≤ 10000000 ∧
  (∀ t ∈ ts, t.2.natAbs ≤ 2 ^ c ∧ ∀ z ∈ t.1, -12 ≤ z ∧ z ≤ 12) ∧ Q (.tup [.int (valR ns ts).1, .int (valR ns ts).2]) S
theorem len_value {ds S Q E} (h : sp_value ds S Q E) : ds.length = 2 := by
  obtain ⟨_, _, _, _, _, rfl, _⟩ := h; rfl
def rd_value_b1 : RS := sAsg (eBin vMul (eVar 6) (eVar 8)) (gName 6)
theorem rd_value_b1_eq (D0 : En) (τ : VS) (S : Sto) : rd_value_b1 D0 τ S = (sAsg (eBin vMul (eVar 6) (eVar 8)) (gName 6) : RS) D0 τ S := rfl
def rd_value_b2 : RS := sFor (iRng1 [eUn vNeg (eVar 9)]) (gName 10) rd_value_b1
theorem rd_value_b2_eq (D0 : En) (τ : VS) (S : Sto) : rd_value_b2 D0 τ S = (sFor (iRng1 [eUn vNeg (eVar 9)]) (gName 10) rd_value_b1 : RS) D0 τ S := rfl
def rd_value_k1 : RS := sRet (eTup [eBin vFdiv (eVar 5) (eVar 7), eBin vFdiv (eVar 6) (eVar 7)])
theorem rd_value_k1_eq (D0 : En) (τ : VS) (S : Sto) : rd_value_k1 D0 τ S = (sRet (eTup [eBin vFdiv (eVar 5) (eVar 7), eBin vFdiv (eVar 6) (eVar 7)]) : RS) D0 τ S := rfl
def rd_value_k2 : RS := sSeq (sAsg (eCB cGcd [eVar 5, eVar 6]) (gName 7)) (sSeq (sIf (tVal (eBin vLt (eVar 6) (eC (.int 0)))) (sAsg (eUn vNeg (eVar 7)) (gName 7)) sNext) rd_value_k1)
theorem rd_value_k2_eq (D0 : En) (τ : VS) (S : Sto) : rd_value_k2 D0 τ S = (sSeq (sAsg (eCB cGcd [eVar 5, eVar 6]) (gName 7)) (sSeq (sIf (tVal (eBin vLt (eVar 6) (eC (.int 0)))) (sAsg (eUn vNeg (eVar 7)) (gName 7)) sNext) rd_value_k1) : RS) D0 τ S := rfl
def rd_value_k3 : RS := sSeq (sAsg (eCall sp_counted E0n [eVar 0]) (gName 3)) (sSeq (sAsg (eLc (iTup (eCall sp_least_of E0n [eVar 3])) (Tg.R (.nm 9)) tYes (eCB cMin2 [eC (.int 0), eVar 9]) [9]) (gName 4)) (sSeq (sAsg (eCall sp_worth_above E0n [eVar 3, eVar 1, eVar 4]) (gName 5)) (sSeq (sAsg (eC (.int 1)) (gName 6)) (sSeq (sFor (iZip [eVar 1, eVar 4]) (gTupN 2 [(gName 8), (gName 9)]) rd_value_b2) rd_value_k2))))
theorem rd_value_k3_eq (D0 : En) (τ : VS) (S : Sto) : rd_value_k3 D0 τ S = (sSeq (sAsg (eCall sp_counted E0n [eVar 0]) (gName 3)) (sSeq (sAsg (eLc (iTup (eCall sp_least_of E0n [eVar 3])) (Tg.R (.nm 9)) tYes (eCB cMin2 [eC (.int 0), eVar 9]) [9]) (gName 4)) (sSeq (sAsg (eCall sp_worth_above E0n [eVar 3, eVar 1, eVar 4]) (gName 5)) (sSeq (sAsg (eC (.int 1)) (gName 6)) (sSeq (sFor (iZip [eVar 1, eVar 4]) (gTupN 2 [(gName 8), (gName 9)]) rd_value_b2) rd_value_k2)))) : RS) D0 τ S := rfl
def rd_value_k4 : RS := sSeq (sIf (tOr (tVal (eBin vNe (eCB cLen [eVar 1]) (eVar 2))) (tVal (eBin (vIn false) (eC (.int 0)) (eVar 1)))) sNever sNext) rd_value_k3
theorem rd_value_k4_eq (D0 : En) (τ : VS) (S : Sto) : rd_value_k4 D0 τ S = (sSeq (sIf (tOr (tVal (eBin vNe (eCB cLen [eVar 1]) (eVar 2))) (tVal (eBin (vIn false) (eC (.int 0)) (eVar 1)))) sNever sNext) rd_value_k3 : RS) D0 τ S := rfl
def rd_value : RS := sSeq (sAsg (eCall sp_checked_sums E0n [eLst [eVar 0]]) (gName 2)) (sSeq (sIf (tVal (eBin vEq (eVar 0) (eTup []))) (sRet (eTup [eC (.int 0), eC (.int 1)])) sNext) rd_value_k4)
theorem rd_value_eq (D0 : En) (τ : VS) (S : Sto) : rd_value D0 τ S = (sSeq (sAsg (eCall sp_checked_sums E0n [eLst [eVar 0]]) (gName 2)) (sSeq (sIf (tVal (eBin vEq (eVar 0) (eTup []))) (sRet (eTup [eC (.int 0), eC (.int 1)])) sNext) rd_value_k4) : RS) D0 τ S := rfl
theorem vc_value {ds S Q E} (h : sp_value ds S Q E) : BodyV N_value ds S Q rd_value := by
  obtain ⟨ts, a, ns, e, c, rfl, ha, hn1, hn2, hf, htl, hn, he, hc, ht, h⟩ := h
  rw [BodyV, rd_value_eq]
  walk_at "v"
  intro p hp
  obtain ⟨G1, e1, l1, h1⟩ := nwS hp (.lst [sumD ts])
  simp only [e1]
  refine ⟨p, [ts], ns.length, rfl, .inl h1, hn1, fun us hu => by rw [List.mem_singleton.mp hu]; exact hf, ?_⟩
  refine vEq_tups repTerm (xs := ts) (ys := []) (by decide) ?_
  by_cases e0 : ts = []
  · rw [decide_eq_true e0]
    walk_at "v"
    refine ⟨S, l1, ?_⟩
    have : valR ns ts = (0, 1) := by unfold valR; rw [if_pos e0]
    rw [this] at h
    exact h
  rw [decide_eq_false e0]
  have hmo : manyOf ns.length [ts] = ns.length := by
    unfold manyOf
    cases ts with
    | nil => exact absurd rfl e0
    | cons _ _ => rfl
  rw [hmo]
  simp only [rd_value_k4_eq]
  walk_at "v"
  refine ⟨_, ha.le l1, ?_⟩
  rw [List.length_map]
  simp only [ne_eq, not_true_eq_false, decide_true, Bool.not_true, Bool.false_eq_true, if_false, decide_false]
  refine ⟨ns, ha.le l1, ?_⟩
  rw [if_neg (fun z => (hn 0 z).1 rfl)]
  simp only [rd_value_k3_eq]
  walk_at "v"
  refine ⟨ts, rfl, hf.nd, fun q hq => ?_⟩
  obtain ⟨G2, e2, l2, h2⟩ := nwS hq (.dI (dD ts))
  simp only [e2]
  refine ⟨q, ts, ns.length, rfl, h2, by omega, hf.len, fun m hm => ?_⟩
  have hml : m.length = ns.length := by
    rw [hm.len]
    cases ts with
    | nil => exact absurd rfl e0
    | cons _ _ => rfl
  have hpw : ∀ t ∈ ts, ∀ i : Nat, i < ns.length → -12 ≤ t.1.getD i 0 ∧ t.1.getD i 0 ≤ 12 := fun t htm i hi => by
    have e1 : t.1[i]? = some (t.1[i]'(by rw [hf.len t htm]; exact hi)) := List.getElem?_eq_getElem _
    rw [getD_of e1]; exact (ht t htm).2 _ (List.getElem_mem _)
  refine lc_map2 (f := fun l : Int => D.int (if l < 0 then l else 0)) trivial (fun l hl K' hK => ?_) ?_
  · walk_at "v"
    exact hK
  have elow : (m.map fun l : Int => D.int (if l < 0 then l else 0)) = List.map .int (m.map fun l : Int => if l < 0 then l else 0) := by rw [List.map_map]; rfl
  rw [elow]
  obtain ⟨low, hlow⟩ : ∃ low, low = m.map fun l : Int => if l < 0 then l else 0 := ⟨_, rfl⟩
  rw [← hlow]
  have hll : low.length = ns.length := by rw [hlow, List.length_map, hml]
  have hlo : ∀ i : Nat, i < ns.length → -12 ≤ low.getD i 0 ∧ low.getD i 0 ≤ 0 ∧ ∀ t ∈ ts, low.getD i 0 ≤ t.1.getD i 0 := fun i hi => by
    have e1 : m[i]? = some (m[i]'(by omega)) := List.getElem?_eq_getElem _
    have e2 : low.getD i 0 = if m.getD i 0 < 0 then m.getD i 0 else 0 := by
      rw [hlow, List.getD_eq_getElem?_getD, List.getElem?_map, e1, getD_of e1]; rfl
    rw [e2]
    obtain ⟨t, htm, q⟩ := hm.at' i (by omega)
    have h3 := hpw t htm i hi
    refine ⟨by split <;> omega, by split <;> omega, fun u hu => ?_⟩
    have := hm.le i (by omega) u hu
    split <;> omega
  intro r hr
  obtain ⟨G3, e3, l3, h3⟩ := nwS hr (.lst (low.map .int))
  simp only [e3]
  have l13 : Le S G3 := l1.trans (l2.trans l3)
  refine ⟨q, ts, .ref a, .ref r, ns, low, e, 24, c, rfl, l3 _ _ h2, ha.le l13, .inl h3, e0, htl, hn1, by omega, hll, fun t htm => ⟨hf.len t htm, (ht t htm).1, fun i hi => ?_⟩, fun n hnn => (hn n hnn).2, by decide, ?_, ?_⟩
  · have a1 := hlo i hi
    have a2 := hpw t htm i hi
    have a3 := a1.2.2 t htm
    omega
  · have : e * 24 * ns.length = 2 * (e * 12 * ns.length) := by
      rw [show (24 : Nat) = 12 * 2 from rfl, ← Nat.mul_assoc, Nat.mul_right_comm, Nat.mul_comm _ 2]
    have : e ≤ e * 12 * ns.length := by
      rw [Nat.mul_assoc]; exact Nat.le_mul_of_pos_right _ (by omega)
    omega
  walk_at "v"
  have okz : Paired (itemsD G3) [.ref a, .ref r] [ns.map .int, low.map .int] := .cons (ha.le l13) (.cons (.inl h3) .nil)
  have heN : e * 12 ≤ e * 12 * ns.length := Nat.le_mul_of_pos_right _ hn1
  have heE : e ≤ e * 12 := Nat.le_mul_of_pos_right _ (by decide)
  have hwb : ∀ j : Nat, (wt (ns.take j) (low.take j) ((zrs ns.length).take j)).natAbs ≤ 2 ^ (e * 12 * ns.length) := fun j => by
    refine abs_up (wt_bound (e := e) (d := 12) (fun n hn' => (hn n (List.mem_of_mem_take hn')).2) fun i => ?_) (Nat.mul_le_mul_left _ (by rw [List.length_take]; omega))
    rw [List.getD_eq_getElem?_getD, List.getD_eq_getElem?_getD, List.getElem?_take, List.getElem?_take]
    split
    · rw [← List.getD_eq_getElem?_getD, ← List.getD_eq_getElem?_getD]
      rcases Nat.lt_or_ge i ns.length with hi | hi
      · have := hlo i hi
        unfold zrs
        rw [rep_at hi]; omega
      · unfold zrs
        rw [rep_off hi, off_getD (by omega)]; omega
    · simp
  refine ⟨[ns.map .int, low.map .int], ns.length, okz, by simp [hll], ?_⟩
  refine for_inv (fun i τ S2 => ∃ x7 x8 x9 x10, τ = [some (sumD ts), some (.ref a), some (.int (Nat.cast ns.length)), some (.ref q), some (.ref r), some (.int (wsum ns low ts)), some (.int (wt (ns.take i) (low.take i) ((zrs ns.length).take i))), x7, x8, x9, x10] ∧ S2 = G3)
    ⟨none, none, none, none, rfl, rfl⟩ (fun i τ S2 h => by obtain ⟨_, _, _, _, _, rfl⟩ := h; exact okz) ?_ ?_
  · rintro i z τ S2 D1 hz ⟨x7, x8, x9, x10, rfl, rfl⟩ hrt hbk hnx hct
    obtain ⟨hi, rfl⟩ := zip2_at hz
    rw [mapD_at hi, mapD_at (by omega)]
    have hli := hlo i hi
    have hni : (ns.getD i 0).natAbs ≤ 2 ^ e := by
      have e1 : ns[i]? = some ns[i] := List.getElem?_eq_getElem hi
      rw [getD_of e1]; exact (hn _ (List.getElem_mem _)).2
    have e9 : wt (ns.take (i + 1)) (low.take (i + 1)) ((zrs ns.length).take (i + 1)) = wt (ns.take i) (low.take i) ((zrs ns.length).take i) * ns.getD i 0 ^ (-(low.getD i 0)).toNat := by
      have hzl : (zrs ns.length).length = ns.length := List.length_replicate
      rw [take_of hi, take_of (xs := low) (by omega), take_of (xs := zrs ns.length) (by omega), wt_snoc (by rw [List.length_take, List.length_take]; omega) (by rw [List.length_take, List.length_take]; omega)]
      unfold zrs
      rw [rep_at hi, Int.zero_sub]
    have hb := hwb i
    simp only [rd_value_b2_eq]
    walk_at "v"
    refine ⟨by omega, ?_⟩
    refine for_inv (fun j τ S3 => ∃ x10, τ = [some (sumD ts), some (.ref a), some (.int (Nat.cast ns.length)), some (.ref q), some (.ref r), some (.int (wsum ns low ts)), some (.int (wt (ns.take i) (low.take i) ((zrs ns.length).take i) * ns.getD i 0 ^ j)), x7, some (.int (ns.getD i 0)), some (.int (low.getD i 0)), x10] ∧ S3 = S2)
      ⟨x10, by simp, rfl⟩ (fun _ _ _ _ => trivial) ?_ ?_
    · rintro j z τ S3 D2 hz2 ⟨x10, rfl, rfl⟩ hrt2 hbk2 hnx2 hct2
      obtain ⟨hj, rfl⟩ := intsD_at hz2
      simp only [rd_value_b1_eq]
      walk_at "v"
      have hpb : (ns.getD i 0 ^ j).natAbs ≤ 2 ^ (e * 12) := abs_up (abs_pow_le hni j) (Nat.mul_le_mul_left e (by omega))
      refine ⟨fits_le (abs_mul_le hb hpb) hni (by omega), ?_⟩
      rw [Int.mul_assoc, ← Int.pow_succ]
      exact hnx2 _ _ _ _ ⟨_, rfl, rfl⟩ (VLe.refl _) (Le.refl _)
    · rintro τ S3 ⟨x10, rfl, rfl⟩
      rw [intsD_len, ← e9]
      exact hnx _ _ _ _ ⟨_, _, _, _, rfl, rfl⟩ (VLe.refl _) (Le.refl _)
  · rintro τ S2 ⟨x7, x8, x9, x10, rfl, rfl⟩
    have hbt := hwb ns.length
    rw [zipD_len (List.cons_ne_nil _ _)]
    have hzl : (zrs ns.length).length = ns.length := List.length_replicate
    rw [List.take_length, List.take_of_length_le (l := low) (by omega), List.take_of_length_le (l := zrs ns.length) (by omega)] at hbt ⊢
    have hbz : wt ns low (zrs ns.length) ≠ 0 := wt_nz fun n hnn => (hn n hnn).1
    have hlen12 : (lo12 ns.length).length = low.length := by unfold lo12; rw [List.length_replicate, hll]
    have hk : valR ns ts = lowF (wsum ns low ts) (wt ns low (zrs ns.length)) := by
      unfold valR
      rw [if_neg e0]
      have c12 : ∀ i : Nat, (lo12 ns.length).getD i 0 ≤ low.getD i 0 := fun i => by
        unfold lo12
        rcases Nat.lt_or_ge i ns.length with hi | hi
        · rw [rep_at hi]; exact (hlo i hi).1
        · rw [rep_off hi, off_getD (by omega)]; omega
      rw [wsum_shift (l1 := low) hlen12 fun t htm => ⟨by rw [hf.len t htm, hll], fun i => ⟨c12 i, ?_⟩⟩, wt_shift (l1 := low) (ps := zrs ns.length) hlen12 (by omega) fun i => ⟨c12 i, ?_⟩]
      · exact lowF_mul (wt_nz fun n hnn => (hn n hnn).1) hbz
      · rcases Nat.lt_or_ge i ns.length with hi | hi
        · unfold zrs; rw [rep_at hi]; exact (hlo i hi).2.1
        · unfold zrs; rw [rep_off hi, off_getD (by omega)]; omega
      · rcases Nat.lt_or_ge i ns.length with hi | hi
        · exact (hlo i hi).2.2 t htm
        · rw [off_getD (xs := low) (by omega), off_getD (by rw [hf.len t htm]; exact hi)]; omega
    rw [hk] at h
    generalize wsum ns low ts = top at h ⊢
    generalize wt ns low (zrs ns.length) = bot at h hbz hbt ⊢
    simp only [rd_value_k2_eq]
    walk_at "v"
    have hs := sgD_nz (a := top) hbz
    have hsl : (sgD top bot).natAbs.log2 < 9000 := by
      refine log2_fits' hs ?_
      exact Nat.le_trans (sgD_le hbz) (Nat.le_trans hbt (Nat.pow_le_pow_right (by decide) he))
    have fin : ∀ τ, sl τ 5 = some (.int top) → sl τ 6 = some (.int bot) → sl τ 7 = some (.int (sgD top bot)) → ∀ D0 : En, D0.rt = (fun d S' => ∃ S'', Le S'' S' ∧ Q d S'') → rd_value_k1 D0 τ S2 := fun τ t5 t6 t7 D0 hD => by
      simp only [rd_value_k1_eq, sRet, eTup, eArgs, eBin, eVar, t5, t6, t7, hD]
      refine ⟨⟨hs, hsl⟩, ⟨hs, hsl⟩, S, l13, h⟩
    by_cases hneg : bot < 0
    · rw [if_pos hneg]
      refine fin _ rfl rfl ?_ _ rfl
      show some (D.int (-((Nat.gcd top.natAbs bot.natAbs : Nat) : Int))) = _
      unfold sgD
      rw [if_pos hneg]; rfl
    · rw [if_neg hneg]
      refine fin _ rfl rfl ?_ _ rfl
      show some (D.int ((Nat.gcd top.natAbs bot.natAbs : Nat) : Int)) = _
      unfold sgD
      rw [if_neg hneg]; rfl
theorem ok_value {P : Program} {w : World} {K : PySem.W.Frag} {mg : Str → Option Value} {base : Heap} (T : Tp K mg) : FnOk P w K mg base CX0 4 T.a_value T.d_value ["one", "numbers"] (lowSp K sp_value) :=
  fnV T.F_value sc_value (fun ds S Q E h => len_value h) fun cdv A outer s H E en E0 hr hx =>
    ⟨rd_value, vss_cons (vs_set (i := 2) sc_value.nd rfl (.inl rfl) (ve_call (ok_checked_sums T) (hr.mono (by decide)) (by rfl) T.g_checked_sums T.F_checked_sums.kp (bi_checked_sums T) (pass0 (X := _)) XE0.no (va_cons (ve_lst (va_cons (ve_var 0) va_nil)) va_nil))) (vss_cons (vs_if (vt_cmp (op_eqAny hr.units) ov_eq (ve_var 0) (ve_tup va_nil)) (vss_one (vs_ret (ve_tup (va_cons ve_int (va_cons ve_int va_nil))))) vss_nil) (vss_cons (vs_if (vt_bool (vw_or (vt_cmp (op_neAny hr.units) ov_ne (ve_callB call_len ca_len (by rfl) T.z_len (by decide +kernel) (va_cons (ve_var 1) va_nil)) (ve_var 2)) (vw_or1 (vt_cmp (op_inE (hu_of hr)) ov_in ve_int (ve_var 1))))) (vss_one vs_never) vss_nil) (vss_cons (vs_set (i := 3) sc_value.nd rfl (.inl rfl) (ve_call (ok_counted T) (hr.mono (by decide)) (by rfl) T.g_counted T.F_counted.kp (bi_counted T) (pass0 (X := _)) XE0.no (va_cons (ve_var 0) va_nil))) (vss_cons (vs_setLc (i := 4) (own := [("least", 9)]) (t := (.nm 9)) rfl sc_value.nd rfl rfl (sw_true rfl rfl rfl (by decide +kernel)) (vi_tup (ve_call (ok_least_of T) (hr.mono (by decide)) (by rfl) T.g_least_of T.F_least_of.kp (bi_least_of T) (pass0 (X := _)) XE0.no (va_cons (ve_var 3) va_nil))) (blkOk_by (N := ["one", "numbers", "many", "terms", "low", "top", "bottom", "shared", "number", "least", "_"]) (sc := defScope s_value) (by decide +kernel)) ⟨fun _ _ _ _ _ => pg_name (i := 9) sc_value.nd rfl (Or.inl rfl), fun _ _ _ _ _ => vts_nil, fun _ _ _ _ _ => ve_callB (call_min2 rfl) ca_min2 (by rfl) T.z_min (by decide +kernel) (va_cons ve_int (va_cons (ve_var 9) va_nil))⟩ (by decide)) (vss_cons (vs_set (i := 5) sc_value.nd rfl (.inl rfl) (ve_call (ok_worth_above T) (hr.mono (by decide)) (by rfl) T.g_worth_above T.F_worth_above.kp (bi_worth_above T) (pass0 (X := _)) XE0.no (va_cons (ve_var 3) (va_cons (ve_var 1) (va_cons (ve_var 4) va_nil))))) (vss_cons (vs_set (i := 6) sc_value.nd rfl (.inl rfl) ve_int) (vss_cons (vs_for PassesOwn.never rfl (vi_zip (by rfl) T.z_zip (va_cons (ve_var 1) (va_cons (ve_var 4) va_nil))) (vg_tup rfl (vgs_cons (vg_name (i := 8) sc_value.nd rfl (.inl rfl)) (vgs_cons (vg_name (i := 9) sc_value.nd rfl (.inl rfl)) (vgs_nil)))) (vss_one (vs_for PassesOwn.never rfl (vi_rng1 (by rfl) T.z_range (va_cons (ve_un un_neg uv_neg (ve_var 9)) va_nil)) (vg_name (i := 10) sc_value.nd rfl (.inl rfl)) (vss_one (vs_set (i := 6) sc_value.nd rfl (.inl rfl) (ve_op op_mulAny ov_mul (ve_var 6) (ve_var 8))))))) (vss_cons (vs_set (i := 7) sc_value.nd rfl (.inl rfl) (ve_callG cr_gcd ca_gcd (by rfl) T.z_gcd (va_cons (ve_var 5) (va_cons (ve_var 6) va_nil)))) (vss_cons (vs_if (vt_cmp (op_ltAny hr.units0) ov_lt (ve_var 6) ve_int) (vss_one (vs_set (i := 7) sc_value.nd rfl (.inl rfl) (ve_un un_neg uv_neg (ve_var 7)))) vss_nil) (vss_one (vs_ret (ve_tup (va_cons (ve_op op_fdivX ov_int (ve_var 5) (ve_var 7)) (va_cons (ve_op op_fdivX ov_int (ve_var 6) (ve_var 7)) va_nil)))))))))))))), fun ds S Q h => vc_value h⟩
theorem kw_value_0_numbers_one {K : PySem.W.Frag} {mg : Str → Option Value} (T : Tp K mg) : KwOk K T.d_value ["one", "numbers"] ["numbers", "one"] (kwg 0 2 [1, 0]) := kwok (by decide) fun s us ws h1 h2 => by
  obtain ⟨oc, od, kV, doc, pm, an, cdv, ct, osl, e, lk, hcd⟩ := T.F_value.ex
  rw [e]
  match us, ws, h1, h2 with
  | [], [w0, w1], _, _ => exact .of_eq rfl
end LW
namespace LW
open PySem PySem.Spec PyProof.Rows L2 VL
local macro_rules | `(tactic| walk_at "v") => `(tactic| simp only [sSeq, sAsg, sFor, sRet, sRetN, sIf, sNext, sDrop, sPar, sAug, VL.sDPut, eVar, eC, eBin, eUn, eCB, eCall, eCallK, eArgs, eTup, eLst, eIf, eNot, eAnd, eOr, eDNew, eDGet2, eSl, oNone, oSome, eRev, eM0, eM, eLc, eLcF, Tg.R, tVal, VL.tNot, VL.tAnd, VL.tOr, VL.tYes, sl, wipeV, VL.gName, VL.gTupN, VL.gSub, gAll, VL.iTup, iLst, iScr, VL.iRng1, VL.iRng2, vAdd_int, vAdd_ib, vAdd_str, vAdd_tup, vAdd_tI, vAdd_ref, VL.vInt, VL.vInt0, vMul_int, vMul_ref, vMul_tup, vNeg, vCmp, vEq_int, vEq_bl, vEq_str, vNe_int, vNe_bl, vNe_str, vLt_int, vIsN_non, vNotN_non, vIsN_int, vNotN_int, vIsN_bl, vNotN_bl, vIsN_str, vNotN_str, vIsN_ref, vNotN_ref, vIsN_tup, vNotN_tup, vIsN_tI, vNotN_tI, vLt_tI, cLen_tI, vDGet_tI, vDPut_tI, vDGet2_tI, cLen_tup, cLen_scr, cLen_str, cLen_ref, cLenD_ref, ci_non_bool, ci_non_int, ci_non_str, ci_non_list, ci_non_tuple, ci_non_dict, ci_bl_bool, ci_bl_int, ci_bl_str, ci_bl_list, ci_bl_tuple, ci_bl_dict, ci_int_bool, ci_int_int, ci_int_str, ci_int_list, ci_int_tuple, ci_int_dict, ci_str_bool, ci_str_int, ci_str_str, ci_str_list, ci_str_tuple, ci_str_dict, ci_tup_bool, ci_tup_int, ci_tup_str, ci_tup_list, ci_tup_tuple, ci_tup_dict, vIn_tI, vIn_int, vDDel_tI, VL.sDDelT, VL.eDc, VL.sLock, VL.eLock, VL.unE, VL.iZip, VL.iZipD, VL.iEnum, VL.iKeyT, VL.eLRg1, VL.eD1, VL.iItemsT, VL.cGcd, eArgs, cList_tI, cInt_int, cInt_bl, cAbs, cMax2_int, cMin2_int, isT, mPop, mAppend, vIx_p0, vIx_p1, vSl_tI, vIx_stk0, vIx_stk1, vIx_stk2, vIx_stk3, vLSet_stk1, vLSet_stk2, vLSet_stk3, stk_a, List.set, startV, List.map_cons, List.map_nil, List.replicate, List.append_eq, List.nil_append, List.cons_append, List.length_cons, List.length_nil, List.length_map, if_true, Bool.false_eq_true, if_false, reduceIte, Bool.not_true, Bool.not_false, true_and, and_true, false_or, or_false, Bool.not_eq_eq_eq_not, decide_eq_true_eq, decide_eq_false_iff_not, reduceCtorEq])
/-! ### the law's own dicts of terms -/
theorem lc_filter2 {α : Type} {ok : Sto → Prop} {g : RG} {tt : RT} {te : RE} {τw : VS} {S : Sto} {h f : α → D} {p : α → Bool} (hok : ok S) : ∀ {xs : List α} {Q : List D → Sto → Prop},
    (∀ x ∈ xs, ∀ K' : KE, ∀ J : Sto → Prop, (p x = true → K' (f x) S) → (p x = false → J S) → g (h x) τw S fun τ2 S2 => tt τ2 S2 fun b S3 => if b = true then te τ2 S3 K' else J S3) → Q ((xs.filter p).map f) S → lcR ok g tt te τw (xs.map h) S Q
  | [], Q, _, hd => ⟨hok, hd⟩
  | x :: r, Q, hs, hd => by
    refine ⟨hok, hs x List.mem_cons_self _ _ (fun hp => ⟨S, Le.refl S, lc_filter2 hok (fun y hy => hs y (List.mem_cons_of_mem _ hy)) ?_⟩) fun hp => lc_filter2 hok (fun y hy => hs y (List.mem_cons_of_mem _ hy)) ?_⟩
    · rw [List.filter_cons, if_pos hp] at hd; exact hd
    · rw [List.filter_cons, if_neg (by rw [hp]; decide)] at hd; exact hd
def sp_l_written : SpV := fun ds S Q _ => ∃ p L, ds = [.ref p] ∧ S p = some (.dI (dD L)) ∧ List.length L ≤ 1000000 ∧ (∀ t ∈ L, t.1 ≠ [] ∧ List.length t.1 ≤ 1000000) ∧ Q (sumD (wrL L)) S
theorem len_l_written {ds S Q E} (h : sp_l_written ds S Q E) : ds.length = 1 := by
  obtain ⟨_, _, rfl, _⟩ := h; rfl
def rd_l_written : RS := sRet (eLcF (fun xs S Q => Q (.tup xs) S) (iLst (eCB cSort [eVar 0])) (.nm 1) (tVal (eBin vNe (eBin vDGet (eVar 0) (eVar 1)) (eC (.int 0)))) (eTup [eVar 1, eBin vDGet (eVar 0) (eVar 1)]) [1])
theorem rd_l_written_eq (D0 : En) (τ : VS) (S : Sto) : rd_l_written D0 τ S = (sRet (eLcF (fun xs S Q => Q (.tup xs) S) (iLst (eCB cSort [eVar 0])) (.nm 1) (tVal (eBin vNe (eBin vDGet (eVar 0) (eVar 1)) (eC (.int 0)))) (eTup [eVar 1, eBin vDGet (eVar 0) (eVar 1)]) [1]) : RS) D0 τ S := rfl
theorem vc_l_written {ds S Q E} (h : sp_l_written ds S Q E) : BodyV N_l_written ds S Q rd_l_written := by
  obtain ⟨p, L, rfl, hp, hz, hk, h⟩ := h
  rw [BodyV, rd_l_written_eq]
  walk_at "v"
  refine cSort_dict hp (by rw [dD_length]; omega) (fun e he => ?_) fun q hq => ?_
  · obtain ⟨t, ht, rfl⟩ := List.mem_map.mp he
    exact ⟨(hk t ht).1, by have := (hk t ht).2; show t.1.length ≤ _; omega⟩
  have hq0 : p ≠ q := sne hp hq
  refine ⟨_, .inl put_same, ?_⟩
  rw [dD_keys]
  refine lc_filter2 (p := fun k => decide (vaL L k ≠ 0)) (f := fun k => terD (k, vaL L k)) (.inl put_same) (fun k hk K' J hK hJ => ?_) ?_
  · have hm := lkL_mem.mp (srt_mem.mp hk)
    obtain ⟨v, hv⟩ := Option.isSome_iff_exists.mp hm
    have e : vaL L k = v := by unfold vaL; rw [hv]; rfl
    rw [e] at hK hJ
    walk_at "v"
    refine ⟨dD L, _, .inl (by rw [put_ne hq0]; exact hp), by rw [lkD_dD, hv]; rfl, ?_⟩
    walk_at "v"
    by_cases h0 : v = 0
    · rw [if_neg (by simpa using h0)]
      exact hJ (by simpa using h0)
    · rw [if_pos (by simpa using h0)]
      refine ⟨dD L, _, .inl (by rw [put_ne hq0]; exact hp), by rw [lkD_dD, hv]; rfl, ?_⟩
      exact hK (by simpa using h0)
  · have e : (((srt (keys L)).filter fun k => decide (vaL L k ≠ 0)).map fun k => terD (k, vaL L k)) = (wrL L).map terD := by unfold wrL; rw [List.map_map]; rfl
    rw [e]
    exact ⟨S, (Le.refl S).new hq, h⟩
theorem ok_l_written {P : Program} {w : World} {K : PySem.W.Frag} {mg : Str → Option Value} {base : Heap} (T : Tp K mg) : FnOk P w K mg base CX0 1 T.a_l_written T.d_l_written ["_law_terms_here"] (lowSp K sp_l_written) :=
  fnV T.F_l_written sc_l_written (fun ds S Q E h => len_l_written h) fun cdv A outer s H E en E0 hr hx =>
    ⟨rd_l_written, vss_one (vs_ret (ve_callTyL call_tuple_of cl_tuple (by rfl) T.z_tuple (by decide +kernel) (own := [("_law_powers", 1)]) (t := (.nm 1)) rfl sc_l_written.nd (vi_lst (ve_callB (call_sortedT rfl hr.units) ca_sort (by rfl) T.z_sorted (by decide +kernel) (va_cons (ve_var 0) va_nil))) (blkOk_by (N := ["_law_terms_here", "_law_powers"]) (sc := defScope s_l_written) (by decide +kernel)) ⟨fun _ _ _ _ _ => pg_name (i := 1) sc_l_written.nd rfl (Or.inl rfl), fun _ _ _ _ _ => vts_one (vt_cmp (op_neAny hr.units) ov_ne (ve_dget (hu_of hr) (ve_var 0) (ve_var 1)) ve_int), fun _ _ _ _ _ => ve_tup (va_cons (ve_var 1) (va_cons (ve_dget (hu_of hr) (ve_var 0) (ve_var 1)) va_nil))⟩ (by decide))), fun ds S Q h => vc_l_written h⟩
end LW
namespace LW
open PySem PySem.Spec PyProof.Rows L2 VL
local macro_rules | `(tactic| walk_at "v") => `(tactic| simp only [sSeq, sAsg, sFor, sRet, sRetN, sIf, sNext, sDrop, sPar, sAug, VL.sDPut, eVar, eC, eBin, eUn, eCB, eCall, eCallK, eArgs, eTup, eLst, eIf, eNot, eAnd, eOr, eDNew, eDGet2, eSl, oNone, oSome, eRev, eM0, eM, eLc, eLcF, Tg.R, tVal, VL.tNot, VL.tAnd, VL.tOr, VL.tYes, sl, wipeV, VL.gName, VL.gTupN, VL.gSub, gAll, VL.iTup, iLst, iScr, VL.iRng1, VL.iRng2, vAdd_int, vAdd_ib, vAdd_str, vAdd_tup, vAdd_tI, vAdd_ref, VL.vInt, VL.vInt0, vMul_int, vMul_ref, vMul_tup, vNeg, vCmp, vEq_int, vEq_bl, vEq_str, vNe_int, vNe_bl, vNe_str, vLt_int, vIsN_non, vNotN_non, vIsN_int, vNotN_int, vIsN_bl, vNotN_bl, vIsN_str, vNotN_str, vIsN_ref, vNotN_ref, vIsN_tup, vNotN_tup, vIsN_tI, vNotN_tI, vLt_tI, cLen_tI, vDGet_tI, vDPut_tI, vDGet2_tI, cLen_tup, cLen_scr, cLen_str, cLen_ref, cLenD_ref, ci_non_bool, ci_non_int, ci_non_str, ci_non_list, ci_non_tuple, ci_non_dict, ci_bl_bool, ci_bl_int, ci_bl_str, ci_bl_list, ci_bl_tuple, ci_bl_dict, ci_int_bool, ci_int_int, ci_int_str, ci_int_list, ci_int_tuple, ci_int_dict, ci_str_bool, ci_str_int, ci_str_str, ci_str_list, ci_str_tuple, ci_str_dict, ci_tup_bool, ci_tup_int, ci_tup_str, ci_tup_list, ci_tup_tuple, ci_tup_dict, vIn_tI, vIn_int, vDDel_tI, VL.sDDelT, VL.eDc, VL.sLock, VL.eLock, VL.unE, VL.iZip, VL.iZipD, VL.iEnum, VL.iKeyT, VL.eLRg1, VL.eD1, VL.iItemsT, VL.cGcd, eArgs, cList_tI, cInt_int, cInt_bl, cAbs, cMax2_int, cMin2_int, isT, mPop, mAppend, vIx_p0, vIx_p1, vSl_tI, vIx_stk0, vIx_stk1, vIx_stk2, vIx_stk3, vLSet_stk1, vLSet_stk2, vLSet_stk3, stk_a, List.set, startV, List.map_cons, List.map_nil, List.replicate, List.append_eq, List.nil_append, List.cons_append, List.length_cons, List.length_nil, List.length_map, if_true, Bool.false_eq_true, if_false, reduceIte, Bool.not_true, Bool.not_false, true_and, and_true, false_or, or_false, Bool.not_eq_eq_eq_not, decide_eq_true_eq, decide_eq_false_iff_not, reduceCtorEq])
/-! ### drawn dicts of terms -/
theorem put_self {S : Sto} {p : Addr} {o : MO} (h : S p = some o) : put S p o = S := by
  funext b; unfold put
  by_cases e : b = p
  · rw [if_pos e, e, h]
  · rw [if_neg e]
structure TermsOk (many : Nat) (most span great : Int) (L : List Tr) : Prop where
  nd : Nd L
  len : ∀ t ∈ L, t.1.length = many
  n : (L.length : Int) ≤ most
  pw : ∀ t ∈ L, ∀ z ∈ t.1, -span ≤ z ∧ z ≤ span
  nz : ∀ t ∈ L, t.2 ≠ 0 ∧ -great ≤ t.2 ∧ t.2 ≤ great
def sp_l_terms : SpV := fun ds S Q _ => ∃ F a c w n many most span great, ds = [.ref a, .int many, .int most, .int span, .int great] ∧ S = stk F a c w ∧ Ap F a c ∧ Wok w n ∧ n < 9000000 ∧ 1 ≤ many ∧ many ≤ 12 ∧ 0 ≤ most ∧ most ≤ 1000 ∧ 1 ≤ span ∧ span ≤ 1000 ∧ 1 ≤ great ∧ great < 2 ^ 200 ∧
  ∀ q w' L, F q = none → q ≠ a → q ≠ c → TermsOk many.toNat most span great L → Wok w' (n + 1 + 20 * most) → Q (.ref q) (stk (put F q (.dI (dD L))) a c w')
theorem len_l_terms {ds S Q E} (h : sp_l_terms ds S Q E) : ds.length = 5 := by
  obtain ⟨F, a, c, w, n, many, most, span, great, rfl, _⟩ := h; rfl
def rd_l_terms_b1 : RS := sSeq (sAsg (eLcF (fun xs S Q => Q (.tup xs) S) (iRng1 [eVar 1]) (.nm 8) tYes (eBin vSub (eCall sp_l_pick E0n [eVar 0, eBin vAdd (eBin vMul (eC (.int 2)) (eVar 3)) (eC (.int 1))]) (eVar 3)) [8]) (gName 7)) (sDPut (eVar 5) (eVar 7) (eBin vMul (eBin vAdd (eC (.int 1)) (eCall sp_l_wide E0n [eVar 0, eVar 4])) (eBin vSub (eC (.int 1)) (eBin vMul (eC (.int 2)) (eCall sp_l_pick E0n [eVar 0, eC (.int 2)])))))
theorem rd_l_terms_b1_eq (D0 : En) (τ : VS) (S : Sto) : rd_l_terms_b1 D0 τ S = (sSeq (sAsg (eLcF (fun xs S Q => Q (.tup xs) S) (iRng1 [eVar 1]) (.nm 8) tYes (eBin vSub (eCall sp_l_pick E0n [eVar 0, eBin vAdd (eBin vMul (eC (.int 2)) (eVar 3)) (eC (.int 1))]) (eVar 3)) [8]) (gName 7)) (sDPut (eVar 5) (eVar 7) (eBin vMul (eBin vAdd (eC (.int 1)) (eCall sp_l_wide E0n [eVar 0, eVar 4])) (eBin vSub (eC (.int 1)) (eBin vMul (eC (.int 2)) (eCall sp_l_pick E0n [eVar 0, eC (.int 2)]))))) : RS) D0 τ S := rfl
def rd_l_terms_k1 : RS := sRet (eVar 5)
theorem rd_l_terms_k1_eq (D0 : En) (τ : VS) (S : Sto) : rd_l_terms_k1 D0 τ S = (sRet (eVar 5) : RS) D0 τ S := rfl
def rd_l_terms : RS := sSeq (sAsg eDNew (gName 5)) (sSeq (sFor (iRng1 [eCall sp_l_pick E0n [eVar 0, eBin vAdd (eVar 2) (eC (.int 1))]]) (gName 6) rd_l_terms_b1) rd_l_terms_k1)
theorem rd_l_terms_eq (D0 : En) (τ : VS) (S : Sto) : rd_l_terms D0 τ S = (sSeq (sAsg eDNew (gName 5)) (sSeq (sFor (iRng1 [eCall sp_l_pick E0n [eVar 0, eBin vAdd (eVar 2) (eC (.int 1))]]) (gName 6) rd_l_terms_b1) rd_l_terms_k1) : RS) D0 τ S := rfl
theorem vc_l_terms {ds S Q E} (h : sp_l_terms ds S Q E) : BodyV N_l_terms ds S Q rd_l_terms := by
  obtain ⟨F, a, c, w, n, many, most, span, great, rfl, rfl, ap, wk, hn, hm1, hm2, ho1, ho2, hs1, hs2, hg1, hg2, h⟩ := h
  rw [BodyV, rd_l_terms_eq]
  walk_at "v"
  intro q hq
  obtain ⟨hqF, hqa, hqc⟩ := stk_none ap hq
  simp only [put_stk ap hqa hqc]
  have ap1 := ap.nw (o := .dI []) hqa hqc
  refine pick_to ap1 wk (by omega) (by omega) (by omega) fun r w1 r0 r1 wk1 => ?_
  walk_at "v"
  refine ⟨by omega, ?_⟩
  refine for_inv (fun i τ S' => ∃ w L x6 x7 x8, τ = [some (.ref a), some (.int many), some (.int most), some (.int span), some (.int great), some (.ref q), x6, x7, x8] ∧ S' = stk (put F q (.dI (dD L))) a c w ∧ TermsOk many.toNat i span great L ∧ Wok w (n + 1 + 20 * i))
    ⟨w1, [], none, none, none, rfl, rfl, ⟨List.nodup_nil, (fun _ h => by cases h), Int.le_refl _, (fun _ h => by cases h), (fun _ h => by cases h)⟩, wk1.mono (by omega)⟩ (fun _ _ _ _ => trivial) ?_ ?_
  · rintro i x τ S' D1 hx ⟨w, L, x6, x7, x8, rfl, rfl, tk, wk⟩ hrt hbk hnx hct
    obtain ⟨hi, rfl⟩ := intsD_at hx
    have hi9 : (i : Int) < most := by omega
    simp only [rd_l_terms_b1_eq]
    have apL : Ap (put F q (.dI (dD L))) a c := ap.nw hqa hqc
    walk_at "v"
    refine ⟨by omega, lc_inv (fun j acc S' => ∃ w ns, S' = stk (put F q (.dI (dD L))) a c w ∧ Wok w (n + 1 + 20 * i + j) ∧ acc = List.map .int ns ∧ ns.length = j ∧ ∀ z ∈ ns, -span ≤ z ∧ z ≤ span) ⟨w, [], rfl, wk.mono (by omega), rfl, rfl, (fun _ h => by cases h)⟩ (fun _ _ _ _ => trivial) ?_ ?_⟩
    · rintro j x acc S' K' hx ⟨w', ns, rfl, wk', rfl, hj, hz⟩ hk
      obtain ⟨hj2, rfl⟩ := intsD_at hx
      walk_at "v"
      refine ⟨mul_fits (a := 20) (b := 20) (by decide) (by omega), pick_to apL wk' (by omega) (by omega) (by omega) fun r w2 r0 r1 wk2 => ?_⟩
      exact hk _ _ _ (Le.refl _) ⟨w2, ns ++ [r - span], rfl, wk2.mono (by omega), by rw [List.map_append]; rfl, by rw [List.length_append, hj]; rfl, fun z hz' => by
        rcases List.mem_append.mp hz' with hz' | hz'
        · exact hz z hz'
        · rw [List.mem_singleton.mp hz']; omega⟩
    · rintro acc S' ⟨w', ns, rfl, wk', rfl, hns, hz⟩
      have hns : ns.length = many.toNat := by rw [intsD_len] at hns; exact hns
      have hlen12 : (intsD 0 many.toNat).length ≤ 12 := by rw [intsD_len]; omega
      have wk' := wk'.mono (m := n + 1 + 20 * i + 12) (by omega)
      refine wide_to apL wk' (by omega) hg1 fun r6 w6 r60 r61 wk6 => ?_
      walk_at "v"
      refine pick_to apL wk6 (by omega) (by omega) (by omega) fun r7 w7 r70 r71 wk7 => ?_
      walk_at "v"
      refine ⟨mul_fits (a := 20) (b := 20) (by decide) (by omega), mul_fits (a := 210) (b := 20) (by omega) (by omega), ?_⟩
      show vDPut (.ref q) (tI ns) _ _ _
      rw [vDPut_tI]
      have tn := tk.n
      refine ⟨dD L, stk_at apL put_same, by rw [dD_length]; omega, ?_⟩
      rw [puD_dD, stk_put apL put_same, put_put]
      refine hnx _ _ _ _ ⟨w7, _, _, _, _, rfl, rfl, ⟨tk.nd.puL _ _, fun t ht => ?_, ?_, fun t ht => ?_, fun t ht => ?_⟩, wk7.mono (by omega)⟩ (VLe.refl _) (Le.refl _)
      · rcases puL_mem ht with rfl | ht
        · exact hns
        · exact tk.len t ht
      · have := puL_length L ns ((1 + r6) * (1 - 2 * r7))
        omega
      · rcases puL_mem ht with rfl | ht
        · exact hz
        · exact tk.pw t ht
      · rcases puL_mem ht with rfl | ht
        · show (1 + r6) * (1 - 2 * r7) ≠ 0 ∧ -great ≤ (1 + r6) * (1 - 2 * r7) ∧ (1 + r6) * (1 - 2 * r7) ≤ great
          rcases (by omega : r7 = 0 ∨ r7 = 1) with rfl | rfl
          · omega
          · omega
        · exact tk.nz t ht
  · rintro τ S' ⟨w, L, x6, x7, x8, rfl, rfl, tk, wk⟩
    simp only [rd_l_terms_k1_eq]
    walk_at "v"
    rw [intsD_len] at tk wk
    refine ⟨_, Le.refl _, h q w L hqF hqa hqc ⟨tk.nd, tk.len, ?_, tk.pw, tk.nz⟩ (wk.mono (by omega))⟩
    have := tk.n
    omega
theorem ok_l_terms {P : Program} {w : World} {K : PySem.W.Frag} {mg : Str → Option Value} {base : Heap} (T : Tp K mg) : FnOk P w K mg base CX0 3 T.a_l_terms T.d_l_terms ["_law_stock_here", "_law_many", "_law_most", "_law_span", "_law_great"] (lowSp K sp_l_terms) :=
  fnV T.F_l_terms sc_l_terms (fun ds S Q E h => len_l_terms h) fun cdv A outer s H E en E0 hr hx =>
    ⟨rd_l_terms, vss_cons (vs_set (i := 5) sc_l_terms.nd rfl (.inl rfl) ve_dnew) (vss_cons (vs_for PassesOwn.never rfl (vi_rng1 (by rfl) T.z_range (va_cons (ve_call (ok_l_pick T) (hr.mono (by decide)) (by rfl) T.g_l_pick T.F_l_pick.kp (bi_l_pick T) (pass0 (X := _)) XE0.no (va_cons (ve_var 0) (va_cons (ve_op op_addAny ov_add (ve_var 2) ve_int) va_nil))) va_nil)) (vg_name (i := 6) sc_l_terms.nd rfl (.inl rfl)) (vss_cons (vs_set (i := 7) sc_l_terms.nd rfl (.inl rfl) (ve_callTyL call_tuple_of cl_tuple (by rfl) T.z_tuple (by decide +kernel) (own := [("_law_j", 8)]) (t := (.nm 8)) rfl sc_l_terms.nd (vi_rng1 (by rfl) T.z_range (va_cons (ve_var 1) va_nil)) (blkOk_by (N := ["_law_stock_here", "_law_many", "_law_most", "_law_span", "_law_great", "_law_terms_here", "_law_k", "_law_powers", "_law_j"]) (sc := defScope s_l_terms) (by decide +kernel)) ⟨fun _ _ _ _ _ => pg_name (i := 8) sc_l_terms.nd rfl (Or.inl rfl), fun _ _ _ _ _ => vts_nil, fun _ _ _ _ _ => ve_op op_sub ov_int0 (ve_call (ok_l_pick T) (hr.mono (by decide)) (by rfl) T.g_l_pick T.F_l_pick.kp (bi_l_pick T) (pass0 (X := _)) XE0.no (va_cons (ve_var 0) (va_cons (ve_op op_addAny ov_add (ve_op op_mulAny ov_mul ve_int (ve_var 3)) ve_int) va_nil))) (ve_var 3)⟩ (by decide))) (vss_one (vs_dput (hu_of hr) (ve_var 5) (ve_var 7) (ve_op op_mulAny ov_mul (ve_op op_addAny ov_add ve_int (ve_call (ok_l_wide T) (hr.mono (by decide)) (by rfl) T.g_l_wide T.F_l_wide.kp (bi_l_wide T) (pass0 (X := _)) XE0.no (va_cons (ve_var 0) (va_cons (ve_var 4) va_nil)))) (ve_op op_sub ov_int0 ve_int (ve_op op_mulAny ov_mul ve_int (ve_call (ok_l_pick T) (hr.mono (by decide)) (by rfl) T.g_l_pick T.F_l_pick.kp (bi_l_pick T) (pass0 (X := _)) XE0.no (va_cons (ve_var 0) (va_cons ve_int va_nil)))))))))) (vss_one (vs_ret (ve_var 5)))), fun ds S Q h => vc_l_terms h⟩
end LW
namespace LW
open PySem PySem.Spec PyProof.Rows L2 VL
local macro_rules | `(tactic| walk_at "v") => `(tactic| simp only [sSeq, sAsg, sFor, sRet, sRetN, sIf, sNext, sDrop, sPar, sAug, VL.sDPut, eVar, eC, eBin, eUn, eCB, eCall, eCallK, eArgs, eTup, eLst, eIf, eNot, eAnd, eOr, eDNew, eDGet2, eSl, oNone, oSome, eRev, eM0, eM, eLc, eLcF, Tg.R, tVal, VL.tNot, VL.tAnd, VL.tOr, VL.tYes, sl, wipeV, VL.gName, VL.gTupN, VL.gSub, gAll, VL.iTup, iLst, iScr, VL.iRng1, VL.iRng2, vAdd_int, vAdd_ib, vAdd_str, vAdd_tup, vAdd_tI, vAdd_ref, VL.vInt, VL.vInt0, vMul_int, vMul_ref, vMul_tup, vNeg, vCmp, vEq_int, vEq_bl, vEq_str, vNe_int, vNe_bl, vNe_str, vLt_int, vIsN_non, vNotN_non, vIsN_int, vNotN_int, vIsN_bl, vNotN_bl, vIsN_str, vNotN_str, vIsN_ref, vNotN_ref, vIsN_tup, vNotN_tup, vIsN_tI, vNotN_tI, vLt_tI, cLen_tI, vDGet_tI, vDPut_tI, vDGet2_tI, cLen_tup, cLen_scr, cLen_str, cLen_ref, cLenD_ref, ci_non_bool, ci_non_int, ci_non_str, ci_non_list, ci_non_tuple, ci_non_dict, ci_bl_bool, ci_bl_int, ci_bl_str, ci_bl_list, ci_bl_tuple, ci_bl_dict, ci_int_bool, ci_int_int, ci_int_str, ci_int_list, ci_int_tuple, ci_int_dict, ci_str_bool, ci_str_int, ci_str_str, ci_str_list, ci_str_tuple, ci_str_dict, ci_tup_bool, ci_tup_int, ci_tup_str, ci_tup_list, ci_tup_tuple, ci_tup_dict, vIn_tI, vIn_int, vDDel_tI, VL.sDDelT, VL.eDc, VL.sLock, VL.eLock, VL.unE, VL.iZip, VL.iZipD, VL.iEnum, VL.iKeyT, VL.eLRg1, VL.eD1, VL.iItemsT, VL.cGcd, eArgs, cList_tI, cInt_int, cInt_bl, cAbs, cMax2_int, cMin2_int, isT, mPop, mAppend, vIx_p0, vIx_p1, vSl_tI, vIx_stk0, vIx_stk1, vIx_stk2, vIx_stk3, vLSet_stk1, vLSet_stk2, vLSet_stk3, stk_a, List.set, startV, List.map_cons, List.map_nil, List.replicate, List.append_eq, List.nil_append, List.cons_append, List.length_cons, List.length_nil, List.length_map, if_true, Bool.false_eq_true, if_false, reduceIte, Bool.not_true, Bool.not_false, true_and, and_true, false_or, or_false, Bool.not_eq_eq_eq_not, decide_eq_true_eq, decide_eq_false_iff_not, reduceCtorEq])
/-! ### dicts added -/
def sp_l_plus : SpV := fun ds S Q _ => ∃ p q L M many, ds = [.ref p, .ref q] ∧ S p = some (.dI (dD L)) ∧ S q = some (.dI (dD M)) ∧ Nd L ∧ Nd M ∧ List.length L + List.length M ≤ 1000000 ∧ many ≤ 100000 ∧ (∀ t ∈ L, List.length t.1 = many) ∧ (∀ t ∈ M, List.length t.1 = many) ∧
  ∀ r R, S r = none → Nd R → List.length R ≤ List.length L + List.length M → (∀ t ∈ R, List.length t.1 = many) → (∀ k, vaL R k = vaL L k + vaL M k) → (∀ t ∈ R, t.1 ∈ keys L ∨ t.1 ∈ keys M) → Q (.ref r) (put S r (.dI (dD R)))
theorem len_l_plus {ds S Q E} (h : sp_l_plus ds S Q E) : ds.length = 2 := by
  obtain ⟨_, _, _, _, _, rfl, _⟩ := h; rfl
def rd_l_plus_b1 : RS := sDPut (eVar 2) (eVar 4) (eBin vAdd (eDGet2 (eVar 2) (eVar 4) (eC (.int 0))) (eBin vDGet (eVar 3) (eVar 4)))
theorem rd_l_plus_b1_eq (D0 : En) (τ : VS) (S : Sto) : rd_l_plus_b1 D0 τ S = (sDPut (eVar 2) (eVar 4) (eBin vAdd (eDGet2 (eVar 2) (eVar 4) (eC (.int 0))) (eBin vDGet (eVar 3) (eVar 4))) : RS) D0 τ S := rfl
def rd_l_plus_b2 : RS := sLock (sFor (iKeyT (eVar 3)) (gName 4) rd_l_plus_b1)
theorem rd_l_plus_b2_eq (D0 : En) (τ : VS) (S : Sto) : rd_l_plus_b2 D0 τ S = (sLock (sFor (iKeyT (eVar 3)) (gName 4) rd_l_plus_b1) : RS) D0 τ S := rfl
def rd_l_plus_k1 : RS := sRet (eVar 2)
theorem rd_l_plus_k1_eq (D0 : En) (τ : VS) (S : Sto) : rd_l_plus_k1 D0 τ S = (sRet (eVar 2) : RS) D0 τ S := rfl
def rd_l_plus : RS := sSeq (sAsg eDNew (gName 2)) (sSeq (sFor (iLst (eLst [eVar 0, eVar 1])) (gName 3) rd_l_plus_b2) rd_l_plus_k1)
theorem rd_l_plus_eq (D0 : En) (τ : VS) (S : Sto) : rd_l_plus D0 τ S = (sSeq (sAsg eDNew (gName 2)) (sSeq (sFor (iLst (eLst [eVar 0, eVar 1])) (gName 3) rd_l_plus_b2) rd_l_plus_k1) : RS) D0 τ S := rfl
theorem sum_key {K : List Tr} (nd : Nd K) (k : List Int) : (K.map fun t => if t.1 = k then t.2 else 0).sum = vaL K k := by
  induction K with
  | nil => rfl
  | cons t r ih =>
    have nd' := nd
    unfold Nd keys at nd'
    rw [List.map_cons, List.nodup_cons] at nd'
    have ih := ih nd'.2
    rw [List.map_cons, List.sum_cons, ih]
    unfold vaL lkL
    by_cases e : t.1 = k
    · subst e
      have : r.find? (fun u => decide (u.1 = t.1)) = none := by
        rw [List.find?_eq_none]
        intro u hu z
        simp only [decide_eq_true_eq] at z
        exact nd'.1 (by rw [← z]; exact List.mem_map_of_mem hu)
      rw [this]; simp
    · simp [e]
theorem vc_l_plus {ds S Q E} (h : sp_l_plus ds S Q E) : BodyV N_l_plus ds S Q rd_l_plus := by
  obtain ⟨p, q, L, M, many, rfl, hp, hq, ndL, ndM, hlm, hm, hL, hM, h⟩ := h
  rw [BodyV, rd_l_plus_eq]
  walk_at "v"
  intro r hr
  obtain ⟨G1, e1, l1, h1⟩ := nwS hr (.dI [])
  simp only [e1]
  intro w hw
  have hwr : r ≠ w := sne h1 hw
  have hwS : S w = none := l1.nope hw
  obtain ⟨G2, e2, l2, h2⟩ := nwS hw (.lst [.ref p, .ref q])
  simp only [e2]
  have l12 : Le S G2 := l1.trans l2
  obtain ⟨Ks, hKs⟩ : ∃ Ks, Ks = [(p, L), (q, M)] := ⟨_, rfl⟩
  have hit : [D.ref p, D.ref q] = Ks.map fun u => D.ref u.1 := by rw [hKs]; rfl
  have hKa : ∀ u ∈ Ks, S u.1 = some (.dI (dD u.2)) ∧ Nd u.2 ∧ (∀ t ∈ u.2, t.1.length = many) ∧ ∀ t ∈ u.2, t.1 ∈ keys L ∨ t.1 ∈ keys M := fun u hu => by
    rw [hKs] at hu
    rcases List.mem_cons.mp hu with rfl | hu
    · exact ⟨hp, ndL, hL, fun t ht => .inl (List.mem_map_of_mem ht)⟩
    · rw [List.mem_singleton.mp hu]; exact ⟨hq, ndM, hM, fun t ht => .inr (List.mem_map_of_mem ht)⟩
  have hKl : (Ks.map fun u => u.2.length).sum = L.length + M.length := by rw [hKs]; simp
  refine ⟨_, .inl h2, ?_⟩
  have hlen : ∀ i : Nat, ((Ks.take i).map fun u => u.2.length).sum ≤ L.length + M.length := fun i => by
    rw [← hKl]
    conv => rhs; rw [← List.take_append_drop i Ks, List.map_append, List.sum_append]
    omega
  rw [hit]
  refine for_inv (fun i τ S' => ∃ R x3 x4, τ = [some (.ref p), some (.ref q), some (.ref r), x3, x4] ∧ S' = put G2 r (.dI (dD R)) ∧ Nd R ∧ R.length ≤ ((Ks.take i).map fun u => u.2.length).sum ∧ (∀ t ∈ R, t.1.length = many ∧ (t.1 ∈ keys L ∨ t.1 ∈ keys M)) ∧ ∀ k, vaL R k = ((Ks.take i).map fun u => vaL u.2 k).sum)
    ⟨[], none, none, rfl, by rw [put_self]; exact l2 _ _ h1, List.nodup_nil, Nat.le_refl _, (fun _ h => by cases h), fun k => rfl⟩ (fun i τ S' h => by
      obtain ⟨R, _, _, _, rfl, _⟩ := h
      exact .inl (by rw [put_ne hwr.symm, h2, hit])) ?_ ?_
  · rintro i z τ S' D1 hz ⟨R, x3, x4, rfl, rfl, ndR, hRl, hRk, hRv⟩ hrt hbk hnx hct
    obtain ⟨⟨d, K⟩, hu, rfl⟩ := map_at hz
    obtain ⟨hd, ndK, hK, hKk⟩ := hKa _ (List.mem_of_getElem? hu)
    simp only at hd ndK hK hKk
    have hdr : d ≠ r := sne hd hr
    have hdG : G2 d = some (.dI (dD K)) := l12 _ _ hd
    have hs1 : ((Ks.take (i + 1)).map fun u => u.2.length).sum = ((Ks.take i).map fun u => u.2.length).sum + K.length := by rw [take_snoc hu, List.map_append, List.sum_append]; simp
    have hs2 := hlen (i + 1)
    simp only [rd_l_plus_b2_eq]
    walk_at "v"
    refine ⟨d, dD K, by rw [put_ne hdr]; exact hdG, fun l => ?_⟩
    refine ⟨dD K, l, put_same, fun kv hkv => ?_, ?_⟩
    · obtain ⟨t, ht, rfl⟩ := List.mem_map.mp hkv
      have := hK t ht
      show t.1.length ≤ _; omega
    rw [dD_tI]
    refine for_inv (fun j τ S2 => ∃ R2 x4, τ = [some (.ref p), some (.ref q), some (.ref r), some (.ref d), x4] ∧ S2 = put (put G2 r (.dI (dD R2))) d (.fD (dD K) l) ∧ Nd R2 ∧ R2.length ≤ R.length + j ∧ (∀ t ∈ R2, t.1.length = many ∧ (t.1 ∈ keys L ∨ t.1 ∈ keys M)) ∧ ∀ k, vaL R2 k = vaL R k + ((K.take j).map fun t => if t.1 = k then t.2 else 0).sum)
      ⟨R, x4, rfl, rfl, ndR, Nat.le_refl _, hRk, fun k => by simp⟩ (fun j τ S2 h => by obtain ⟨_, _, _, rfl, _⟩ := h; exact put_same) ?_ ?_
    · rintro j z τ S2 D2 hz2 ⟨R2, x4, rfl, rfl, nd2, hl2, hk2, hv2⟩ hrt2 hbk2 hnx2 hct2
      obtain ⟨t, ht, rfl⟩ := map_at hz2
      have htm := List.mem_of_getElem? ht
      have hj := (List.getElem?_eq_some_iff.mp ht).1
      simp only [rd_l_plus_b1_eq]
      walk_at "v"
      have hBr : put (put G2 r (.dI (dD R2))) d (.fD (dD K) l) r = some (.dI (dD R2)) := by rw [put_ne hdr.symm, put_same]
      refine ⟨⟨r, rfl, _, .inl hBr⟩, _, .inl hBr, ?_⟩
      rw [getD_dD]
      refine ⟨dD K, _, .inr ⟨l, put_same⟩, by rw [lkD_dD, lkL_of_mem ndK htm]; rfl, ?_⟩
      walk_at "v"
      refine ⟨_, hBr, by rw [dD_length]; omega, ?_⟩
      rw [puD_dD, put_comm hdr, put_put]
      refine hnx2 _ _ _ _ ⟨puL R2 t.1 (vaL R2 t.1 + t.2), _, rfl, rfl, nd2.puL _ _, Nat.le_trans (puL_length _ _ _) (by omega), fun u hu => ?_, fun k => ?_⟩ (VLe.refl _) (Le.refl _)
      · rcases puL_mem hu with rfl | hu
        · exact ⟨hK t htm, hKk t htm⟩
        · exact hk2 u hu
      · rw [vaL_puL, take_snoc ht, List.map_append, List.sum_append, ← Int.add_assoc, ← hv2 k]
        have e0 : (([t] : List Tr).map fun t => if t.1 = k then t.2 else 0).sum = if t.1 = k then t.2 else 0 := by simp
        rw [e0]
        by_cases e : t.1 = k
        · rw [if_pos e, if_pos e, e]
        · rw [if_neg e, if_neg e]; omega
    · rintro τ S2 ⟨R2, x4, rfl, rfl, nd2, hl2, hk2, hv2⟩
      rw [List.length_map] at hl2 hv2
      rw [List.take_length] at hv2
      refine ⟨put_same, ?_⟩
      rw [put_put, put_self (by rw [put_ne hdr]; exact hdG)]
      refine hnx _ _ _ _ ⟨R2, _, _, rfl, rfl, nd2, by omega, hk2, fun k => ?_⟩ (VLe.refl _) (Le.refl _)
      rw [hv2 k, sum_key ndK, hRv k, take_snoc hu, List.map_append, List.sum_append]; simp
  · rintro τ S' ⟨R, x3, x4, rfl, rfl, ndR, hRl, hRk, hRv⟩
    simp only [rd_l_plus_k1_eq]
    walk_at "v"
    rw [List.length_map] at hRl hRv
    rw [List.take_length] at hRl hRv
    refine ⟨put S r (.dI (dD R)), ?_, h r R hr ndR (by omega) (fun t ht => (hRk t ht).1) (fun k => ?_) fun t ht => (hRk t ht).2⟩
    · rw [← e2, ← e1, put_comm hwr.symm, put_put]
      exact (Le.refl _).new (by rw [put_ne hwr.symm]; exact hwS)
    · rw [hRv k, hKs]; simp
theorem ok_l_plus {P : Program} {w : World} {K : PySem.W.Frag} {mg : Str → Option Value} {base : Heap} (T : Tp K mg) : FnOk P w K mg base CX0 1 T.a_l_plus T.d_l_plus ["_law_one", "_law_other"] (lowSp K sp_l_plus) :=
  fnV T.F_l_plus sc_l_plus (fun ds S Q E h => len_l_plus h) fun cdv A outer s H E en E0 hr hx =>
    ⟨rd_l_plus, vss_cons (vs_set (i := 2) sc_l_plus.nd rfl (.inl rfl) ve_dnew) (vss_cons (vs_for PassesOwn.never rfl (vi_lst (ve_lst (va_cons (ve_var 0) (va_cons (ve_var 1) va_nil)))) (vg_name (i := 3) sc_l_plus.nd rfl (.inl rfl)) (vss_one (vs_lock (vs_for PassesOwn.never rfl (vi_keyT (ve_var 3)) (vg_name (i := 4) sc_l_plus.nd rfl (.inl rfl)) (vss_one (vs_dput (hu_of hr) (ve_var 2) (ve_var 4) (ve_op op_addAny ov_add (ve_dget2 (hu_of hr) (ve_var 2) (ve_var 4) ve_int ⟨rfl, rfl, rfl, rfl⟩) (ve_dget (hu_of hr) (ve_var 3) (ve_var 4))))))))) (vss_one (vs_ret (ve_var 2)))), fun ds S Q h => vc_l_plus h⟩
end LW
namespace LW
open PySem PySem.Spec PyProof.Rows L2 VL
local macro_rules | `(tactic| walk_at "v") => `(tactic| simp only [sSeq, sAsg, sFor, sRet, sRetN, sIf, sNext, sDrop, sPar, sAug, VL.sDPut, eVar, eC, eBin, eUn, eCB, eCall, eCallK, eArgs, eTup, eLst, eIf, eNot, eAnd, eOr, eDNew, eDGet2, eSl, oNone, oSome, eRev, eM0, eM, eLc, eLcF, Tg.R, tVal, VL.tNot, VL.tAnd, VL.tOr, VL.tYes, sl, wipeV, VL.gName, VL.gTupN, VL.gSub, gAll, VL.iTup, iLst, iScr, VL.iRng1, VL.iRng2, vAdd_int, vAdd_ib, vAdd_str, vAdd_tup, vAdd_tI, vAdd_ref, VL.vInt, VL.vInt0, vMul_int, vMul_ref, vMul_tup, vNeg, vCmp, vEq_int, vEq_bl, vEq_str, vNe_int, vNe_bl, vNe_str, vLt_int, vIsN_non, vNotN_non, vIsN_int, vNotN_int, vIsN_bl, vNotN_bl, vIsN_str, vNotN_str, vIsN_ref, vNotN_ref, vIsN_tup, vNotN_tup, vIsN_tI, vNotN_tI, vLt_tI, cLen_tI, vDGet_tI, vDPut_tI, vDGet2_tI, cLen_tup, cLen_scr, cLen_str, cLen_ref, cLenD_ref, ci_non_bool, ci_non_int, ci_non_str, ci_non_list, ci_non_tuple, ci_non_dict, ci_bl_bool, ci_bl_int, ci_bl_str, ci_bl_list, ci_bl_tuple, ci_bl_dict, ci_int_bool, ci_int_int, ci_int_str, ci_int_list, ci_int_tuple, ci_int_dict, ci_str_bool, ci_str_int, ci_str_str, ci_str_list, ci_str_tuple, ci_str_dict, ci_tup_bool, ci_tup_int, ci_tup_str, ci_tup_list, ci_tup_tuple, ci_tup_dict, vIn_tI, vIn_int, vDDel_tI, VL.sDDelT, VL.eDc, VL.sLock, VL.eLock, VL.unE, VL.iZip, VL.iZipD, VL.iEnum, VL.iKeyT, VL.eLRg1, VL.eD1, VL.iItemsT, VL.cGcd, eArgs, cList_tI, cInt_int, cInt_bl, cAbs, cMax2_int, cMin2_int, isT, mPop, mAppend, vIx_p0, vIx_p1, vSl_tI, vIx_stk0, vIx_stk1, vIx_stk2, vIx_stk3, vLSet_stk1, vLSet_stk2, vLSet_stk3, stk_a, List.set, startV, List.map_cons, List.map_nil, List.replicate, List.append_eq, List.nil_append, List.cons_append, List.length_cons, List.length_nil, List.length_map, if_true, Bool.false_eq_true, if_false, reduceIte, Bool.not_true, Bool.not_false, true_and, and_true, false_or, or_false, Bool.not_eq_eq_eq_not, decide_eq_true_eq, decide_eq_false_iff_not, reduceCtorEq])
/-! ### the law's own fractions -/
def sp_l_gcd : SpV := fun ds S Q _ => ∃ a b : Int, ds = [.int a, .int b] ∧ Q (.int (Int.gcd a b)) S
theorem len_l_gcd {ds S Q E} (h : sp_l_gcd ds S Q E) : ds.length = 2 := by
  obtain ⟨_, _, rfl, _⟩ := h; rfl
def rd_l_gcd_b1 : RS := sPar 0 1 (eVar 1) (eBin vMod (eCB cInt [eVar 0]) (eVar 1))
theorem rd_l_gcd_b1_eq (D0 : En) (τ : VS) (S : Sto) : rd_l_gcd_b1 D0 τ S = (sPar 0 1 (eVar 1) (eBin vMod (eCB cInt [eVar 0]) (eVar 1)) : RS) D0 τ S := rfl
def rd_l_gcd_k1 : RS := sRet (eVar 0)
theorem rd_l_gcd_k1_eq (D0 : En) (τ : VS) (S : Sto) : rd_l_gcd_k1 D0 τ S = (sRet (eVar 0) : RS) D0 τ S := rfl
def rd_l_gcd : RS := sSeq (sPar 0 1 (eCB cAbs [eVar 0]) (eCB cAbs [eVar 1])) (sSeq (sWhile (tVal (eBin vNe (eVar 1) (eC (.int 0)))) rd_l_gcd_b1) rd_l_gcd_k1)
theorem rd_l_gcd_eq (D0 : En) (τ : VS) (S : Sto) : rd_l_gcd D0 τ S = (sSeq (sPar 0 1 (eCB cAbs [eVar 0]) (eCB cAbs [eVar 1])) (sSeq (sWhile (tVal (eBin vNe (eVar 1) (eC (.int 0)))) rd_l_gcd_b1) rd_l_gcd_k1) : RS) D0 τ S := rfl
theorem abs_nat (a : Int) : (if a < 0 then -a else a) = (a.natAbs : Int) := by split <;> omega
theorem vc_l_gcd {ds S Q E} (h : sp_l_gcd ds S Q E) : BodyV N_l_gcd ds S Q rd_l_gcd := by
  obtain ⟨a, b, rfl, h⟩ := h
  rw [BodyV, rd_l_gcd_eq]
  walk_at "v"
  rw [abs_nat, abs_nat]
  simp only [sWhile]
  refine ⟨fun m τ S' => ∃ x y : Nat, τ = [some (.int x), some (.int y)] ∧ S' = S ∧ m = y ∧ Nat.gcd x y = Int.gcd a b, ⟨_, a.natAbs, b.natAbs, rfl, rfl, rfl, rfl⟩, ?_⟩
  rintro m τ S' ⟨x, y, rfl, rfl, rfl, hg⟩
  walk_at "v"
  by_cases hy : m = 0
  · subst hy
    rw [if_neg (by simp)]
    simp only [rd_l_gcd_k1_eq]
    walk_at "v"
    rw [Nat.gcd_zero_right] at hg
    rw [hg]
    exact ⟨S', Le.refl _, h⟩
  · rw [if_pos (by simpa using hy)]
    simp only [rd_l_gcd_b1_eq]
    walk_at "v"
    refine ⟨by simpa using hy, x % m, [some (.int m), some (.int ((x % m : Nat) : Int))], S', Nat.mod_lt _ (by omega), ?_, Le.refl _, m, x % m, rfl, rfl, rfl, ?_⟩
    · rw [show (x : Int).fmod (m : Int) = ((x % m : Nat) : Int) from by rw [Int.fmod_eq_emod_of_nonneg _ (by omega)]; rfl]
      exact VLe.refl _
    · rw [← hg, Nat.gcd_comm x m, Nat.gcd_rec m x, Nat.gcd_comm]
theorem ok_l_gcd {P : Program} {w : World} {K : PySem.W.Frag} {mg : Str → Option Value} {base : Heap} (T : Tp K mg) : FnOk P w K mg base CX0 1 T.a_l_gcd T.d_l_gcd ["_law_one", "_law_other"] (lowSp K sp_l_gcd) :=
  fnV T.F_l_gcd sc_l_gcd (fun ds S Q E h => len_l_gcd h) fun cdv A outer s H E en E0 hr hx =>
    ⟨rd_l_gcd, vss_cons (vs_par (i := 0) (j := 1) rfl sc_l_gcd.nd rfl rfl (by decide) rfl rfl (ve_callB call_abs ca_abs (by rfl) T.z_abs (by decide +kernel) (va_cons (ve_var 0) va_nil)) (ve_callB call_abs ca_abs (by rfl) T.z_abs (by decide +kernel) (va_cons (ve_var 1) va_nil)) (by rfl)) (vss_cons (vs_while PassesOwn.never (vt_cmp (op_neAny hr.units) ov_ne (ve_var 1) ve_int) (vss_one (vs_par (i := 0) (j := 1) rfl sc_l_gcd.nd rfl rfl (by decide) rfl rfl (ve_var 1) (ve_op op_modN ov_int (ve_callTy call_int1 ca_int (by rfl) T.z_int (by decide +kernel) (va_cons (ve_var 0) va_nil)) (ve_var 1)) (by rfl)))) (vss_one (vs_ret (ve_var 0)))), fun ds S Q h => vc_l_gcd h⟩
def sp_l_lowest : SpV := fun ds S Q _ => ∃ a b : Int, ds = [.int a, .int b] ∧ b ≠ 0 ∧ b.natAbs ≤ 2 ^ 8900 ∧ Q (.tup [.int (lowF a b).1, .int (lowF a b).2]) S
theorem len_l_lowest {ds S Q E} (h : sp_l_lowest ds S Q E) : ds.length = 2 := by
  obtain ⟨_, _, rfl, _⟩ := h; rfl
def rd_l_lowest_k1 : RS := sRet (eTup [eBin vFdiv (eVar 0) (eVar 2), eBin vFdiv (eVar 1) (eVar 2)])
theorem rd_l_lowest_k1_eq (D0 : En) (τ : VS) (S : Sto) : rd_l_lowest_k1 D0 τ S = (sRet (eTup [eBin vFdiv (eVar 0) (eVar 2), eBin vFdiv (eVar 1) (eVar 2)]) : RS) D0 τ S := rfl
def rd_l_lowest : RS := sSeq (sAsg (eCall sp_l_gcd E0n [eVar 0, eVar 1]) (gName 2)) (sSeq (sIf (tVal (eBin vLt (eVar 1) (eC (.int 0)))) (sAsg (eBin vSub (eC (.int 0)) (eVar 2)) (gName 2)) sNext) rd_l_lowest_k1)
theorem rd_l_lowest_eq (D0 : En) (τ : VS) (S : Sto) : rd_l_lowest D0 τ S = (sSeq (sAsg (eCall sp_l_gcd E0n [eVar 0, eVar 1]) (gName 2)) (sSeq (sIf (tVal (eBin vLt (eVar 1) (eC (.int 0)))) (sAsg (eBin vSub (eC (.int 0)) (eVar 2)) (gName 2)) sNext) rd_l_lowest_k1) : RS) D0 τ S := rfl
theorem vc_l_lowest {ds S Q E} (h : sp_l_lowest ds S Q E) : BodyV N_l_lowest ds S Q rd_l_lowest := by
  obtain ⟨a, b, rfl, hb, hl, h⟩ := h
  rw [BodyV, rd_l_lowest_eq]
  walk_at "v"
  refine ⟨a, b, rfl, ?_⟩
  walk_at "v"
  have hs := sgD_nz (a := a) hb
  have hsl : (sgD a b).natAbs.log2 < 9000 := log2_fits' hs (Nat.le_trans (sgD_le hb) hl)
  have fin : ∀ τ, sl τ 0 = some (.int a) → sl τ 1 = some (.int b) → sl τ 2 = some (.int (sgD a b)) → ∀ D0 : En, D0.rt = (fun d S' => ∃ S'', Le S'' S' ∧ Q d S'') → rd_l_lowest_k1 D0 τ S := fun τ t5 t6 t7 D0 hD => by
    simp only [rd_l_lowest_k1_eq, sRet, eTup, eArgs, eBin, eVar, t5, t6, t7, hD]
    exact ⟨⟨hs, hsl⟩, ⟨hs, hsl⟩, S, Le.refl S, h⟩
  by_cases hneg : b < 0
  · rw [if_pos hneg]
    refine fin _ rfl rfl ?_ _ rfl
    show some (D.int (0 - (Int.gcd a b : Int))) = _
    unfold sgD
    rw [if_pos hneg, Int.zero_sub]
  · rw [if_neg hneg]
    refine fin _ rfl rfl ?_ _ rfl
    show some (D.int (Int.gcd a b : Int)) = _
    unfold sgD
    rw [if_neg hneg]
theorem ok_l_lowest {P : Program} {w : World} {K : PySem.W.Frag} {mg : Str → Option Value} {base : Heap} (T : Tp K mg) : FnOk P w K mg base CX0 2 T.a_l_lowest T.d_l_lowest ["_law_top", "_law_bottom"] (lowSp K sp_l_lowest) :=
  fnV T.F_l_lowest sc_l_lowest (fun ds S Q E h => len_l_lowest h) fun cdv A outer s H E en E0 hr hx =>
    ⟨rd_l_lowest, vss_cons (vs_set (i := 2) sc_l_lowest.nd rfl (.inl rfl) (ve_call (ok_l_gcd T) (hr.mono (by decide)) (by rfl) T.g_l_gcd T.F_l_gcd.kp (bi_l_gcd T) (pass0 (X := _)) XE0.no (va_cons (ve_var 0) (va_cons (ve_var 1) va_nil)))) (vss_cons (vs_if (vt_cmp (op_ltAny hr.units0) ov_lt (ve_var 1) ve_int) (vss_one (vs_set (i := 2) sc_l_lowest.nd rfl (.inl rfl) (ve_op op_sub ov_int0 ve_int (ve_var 2)))) vss_nil) (vss_one (vs_ret (ve_tup (va_cons (ve_op op_fdivX ov_int (ve_var 0) (ve_var 2)) (va_cons (ve_op op_fdivX ov_int (ve_var 1) (ve_var 2)) va_nil)))))), fun ds S Q h => vc_l_lowest h⟩
def sp_l_worth : SpV := fun ds S Q _ => ∃ p L a ns, ∃ e c : Nat, ds = [.ref p, .ref a] ∧ S p = some (.dI (dD L)) ∧ rdL S a (List.map .int ns) ∧ Nd L ∧ List.length L ≤ 100000 ∧ 1 ≤ List.length ns ∧ List.length ns ≤ 12 ∧ (∀ n ∈ ns, n ≠ 0 ∧ n.natAbs ≤ 2 ^ e) ∧ e * 12 * List.length ns ≤ 8900 ∧ c ≤ 10000000 ∧
  (∀ t ∈ L, List.length t.1 = List.length ns ∧ t.2.natAbs ≤ 2 ^ c ∧ ∀ z ∈ t.1, -12 ≤ z ∧ z ≤ 12) ∧
  Q (.tup [.int (lowF (wsum ns (lo12 (List.length ns)) L) (wt ns (lo12 (List.length ns)) (zrs (List.length ns)))).1, .int (lowF (wsum ns (lo12 (List.length ns)) L) (wt ns (lo12 (List.length ns)) (zrs (List.length ns)))).2]) S
theorem len_l_worth {ds S Q E} (h : sp_l_worth ds S Q E) : ds.length = 2 := by
  obtain ⟨_, _, _, _, _, _, rfl, _⟩ := h; rfl
def rd_l_worth_b1 : RS := sDrop (eM "list" mAppend (eVar 4) [eBin vMul (eBin vIx (eVar 4) (eUn vNeg (eC (.int 1)))) (eVar 3)])
theorem rd_l_worth_b1_eq (D0 : En) (τ : VS) (S : Sto) : rd_l_worth_b1 D0 τ S = (sDrop (eM "list" mAppend (eVar 4) [eBin vMul (eBin vIx (eVar 4) (eUn vNeg (eC (.int 1)))) (eVar 3)]) : RS) D0 τ S := rfl
def rd_l_worth_k1 : RS := sDrop (eM "list" mAppend (eVar 2) [eVar 4])
theorem rd_l_worth_k1_eq (D0 : En) (τ : VS) (S : Sto) : rd_l_worth_k1 D0 τ S = (sDrop (eM "list" mAppend (eVar 2) [eVar 4]) : RS) D0 τ S := rfl
def rd_l_worth_b2 : RS := sSeq (sAsg (eLst [eC (.int 1)]) (gName 4)) (sSeq (sFor (iRng1 [eC (.int 24)]) (gName 6) rd_l_worth_b1) rd_l_worth_k1)
theorem rd_l_worth_b2_eq (D0 : En) (τ : VS) (S : Sto) : rd_l_worth_b2 D0 τ S = (sSeq (sAsg (eLst [eC (.int 1)]) (gName 4)) (sSeq (sFor (iRng1 [eC (.int 24)]) (gName 6) rd_l_worth_b1) rd_l_worth_k1) : RS) D0 τ S := rfl
def rd_l_worth_b3 : RS := sAsg (eBin vMul (eVar 8) (eBin vIx (eVar 4) (eC (.int 12)))) (gName 8)
theorem rd_l_worth_b3_eq (D0 : En) (τ : VS) (S : Sto) : rd_l_worth_b3 D0 τ S = (sAsg (eBin vMul (eVar 8) (eBin vIx (eVar 4) (eC (.int 12)))) (gName 8) : RS) D0 τ S := rfl
def rd_l_worth_b4 : RS := sAsg (eBin vMul (eVar 9) (eBin vIx (eVar 4) (eBin vAdd (eVar 10) (eC (.int 12))))) (gName 9)
theorem rd_l_worth_b4_eq (D0 : En) (τ : VS) (S : Sto) : rd_l_worth_b4 D0 τ S = (sAsg (eBin vMul (eVar 9) (eBin vIx (eVar 4) (eBin vAdd (eVar 10) (eC (.int 12))))) (gName 9) : RS) D0 τ S := rfl
def rd_l_worth_k2 : RS := sAsg (eBin vAdd (eVar 7) (eVar 9)) (gName 7)
theorem rd_l_worth_k2_eq (D0 : En) (τ : VS) (S : Sto) : rd_l_worth_k2 D0 τ S = (sAsg (eBin vAdd (eVar 7) (eVar 9)) (gName 7) : RS) D0 τ S := rfl
def rd_l_worth_b5 : RS := sSeq (sAsg (eBin vDGet (eVar 0) (eVar 5)) (gName 9)) (sSeq (sFor (iZip [eVar 2, eVar 5]) (gTupN 2 [(gName 4), (gName 10)]) rd_l_worth_b4) rd_l_worth_k2)
theorem rd_l_worth_b5_eq (D0 : En) (τ : VS) (S : Sto) : rd_l_worth_b5 D0 τ S = (sSeq (sAsg (eBin vDGet (eVar 0) (eVar 5)) (gName 9)) (sSeq (sFor (iZip [eVar 2, eVar 5]) (gTupN 2 [(gName 4), (gName 10)]) rd_l_worth_b4) rd_l_worth_k2) : RS) D0 τ S := rfl
def rd_l_worth_k3 : RS := sRet (eCall sp_l_lowest E0n [eVar 7, eVar 8])
theorem rd_l_worth_k3_eq (D0 : En) (τ : VS) (S : Sto) : rd_l_worth_k3 D0 τ S = (sRet (eCall sp_l_lowest E0n [eVar 7, eVar 8]) : RS) D0 τ S := rfl
def rd_l_worth_k4 : RS := sSeq (sLock (sFor (iKeyT (eVar 0)) (gName 5) rd_l_worth_b5)) rd_l_worth_k3
theorem rd_l_worth_k4_eq (D0 : En) (τ : VS) (S : Sto) : rd_l_worth_k4 D0 τ S = (sSeq (sLock (sFor (iKeyT (eVar 0)) (gName 5) rd_l_worth_b5)) rd_l_worth_k3 : RS) D0 τ S := rfl
def rd_l_worth_k5 : RS := sSeq (sAsg (eTup [eC (.int 0), eC (.int 1)]) (gTupN 2 [(gName 7), (gName 8)])) (sSeq (sFor (iLst (eVar 2)) (gName 4) rd_l_worth_b3) rd_l_worth_k4)
theorem rd_l_worth_k5_eq (D0 : En) (τ : VS) (S : Sto) : rd_l_worth_k5 D0 τ S = (sSeq (sAsg (eTup [eC (.int 0), eC (.int 1)]) (gTupN 2 [(gName 7), (gName 8)])) (sSeq (sFor (iLst (eVar 2)) (gName 4) rd_l_worth_b3) rd_l_worth_k4) : RS) D0 τ S := rfl
def rd_l_worth : RS := sSeq (sAsg (eLst []) (gName 2)) (sSeq (sFor (iLst (eVar 1)) (gName 3) rd_l_worth_b2) rd_l_worth_k5)
theorem rd_l_worth_eq (D0 : En) (τ : VS) (S : Sto) : rd_l_worth D0 τ S = (sSeq (sAsg (eLst []) (gName 2)) (sSeq (sFor (iLst (eVar 1)) (gName 3) rd_l_worth_b2) rd_l_worth_k5) : RS) D0 τ S := rfl
theorem vc_l_worth {ds S Q E} (h : sp_l_worth ds S Q E) : BodyV N_l_worth ds S Q rd_l_worth := by
  obtain ⟨d, L, a, ns, e, c, rfl, hd, ha, nd, hLl, hn1, hn2, hn, he, hc, ht, h⟩ := h
  have heN : e * 12 ≤ e * 12 * ns.length := Nat.le_mul_of_pos_right _ hn1
  have heE : e ≤ e * 12 := Nat.le_mul_of_pos_right _ (by decide)
  have e24 : e * 24 = 2 * (e * 12) := by rw [show (24 : Nat) = 12 * 2 from rfl, ← Nat.mul_assoc, Nat.mul_comm _ 2]
  have e24N : e * 24 * ns.length = 2 * (e * 12 * ns.length) := by rw [e24, Nat.mul_assoc 2]
  have hnb : ∀ i : Nat, i < ns.length → (ns.getD i 0).natAbs ≤ 2 ^ e := fun i hi => by
    have e1 : ns[i]? = some ns[i] := List.getElem?_eq_getElem hi
    rw [getD_of e1]; exact (hn _ (List.getElem_mem _)).2
  obtain ⟨ms, hms⟩ : ∃ ms : List Nat, ms = List.replicate ns.length 24 := ⟨_, rfl⟩
  have hmsl : ms.length = ns.length := by rw [hms, List.length_replicate]
  have hmsi : ∀ i : Nat, i < ns.length → ms.getD i 0 = 24 := fun i hi => by
    rw [hms, List.getD_eq_getElem?_getD, List.getElem?_replicate, if_pos hi]; rfl
  have hl12 : (lo12 ns.length).length = ns.length := List.length_replicate
  have hzl : (zrs ns.length).length = ns.length := List.length_replicate
  have l12 : ∀ i : Nat, i < ns.length → (lo12 ns.length).getD i 0 = -12 := fun i hi => rep_at hi
  have z12 : ∀ i : Nat, i < ns.length → (zrs ns.length).getD i 0 = 0 := fun i hi => rep_at hi
  rw [BodyV, rd_l_worth_eq]
  walk_at "v"
  intro r hr
  have hdr : d ≠ r := sne hd hr
  obtain ⟨B, eB, lB, hB⟩ := nwS hr (.lst [])
  simp only [eB]
  refine ⟨_, ha.le lB, ?_⟩
  refine for_inv (fun i τ S' => ∃ as x3 x4 x6, τ = [some (.ref d), some (.ref a), some (.ref r), x3, x4, none, x6, none, none, none, none] ∧ Le S S' ∧ Rw S' r as ((rowsF ns ms).take i))
    ⟨[], none, none, none, rfl, lB, ⟨hB, rfl, fun j a z => by cases z⟩⟩ (fun i τ S' h => by obtain ⟨_, _, _, _, _, l, _⟩ := h; exact ha.le l) ?_ ?_
  · rintro i z τ S' D1 hz ⟨as, x3, x4, x6, rfl, lS, hrw⟩ hrt hbk hnx hct
    obtain ⟨n, hzn, rfl⟩ := map_at hz
    have hi := (List.getElem?_eq_some_iff.mp hzn).1
    have hnb' := hnb i hi
    have hrow := rowsF_at (ms := ms) hi (by omega)
    rw [hmsi i hi] at hrow
    rw [getD_of hzn] at hrow hnb'
    simp only [rd_l_worth_b2_eq]
    walk_at "v"
    intro w hw
    refine ⟨by decide, ?_⟩
    refine for_inv (fun j τ S2 => ∃ x6, τ = [some (.ref d), some (.ref a), some (.ref r), some (.int n), some (.ref w), none, x6, none, none, none, none] ∧ S2 = put S' w (.lst ((pwL n j).map .int)))
      ⟨x6, rfl, by rw [pwL_zero]; rfl⟩ (fun _ _ _ _ => trivial) ?_ ?_
    · rintro j z τ S2 D2 hz2 ⟨x6, rfl, rfl⟩ hrt2 hbk2 hnx2 hct2
      obtain ⟨hj, rfl⟩ := intsD_at hz2
      have hj : j < 24 := hj
      simp only [rd_l_worth_b1_eq]
      walk_at "v"
      refine ⟨.inl ⟨_, .inl put_same⟩, ?_⟩
      refine pw_last put_same ?_
      have hb : (n ^ j).natAbs ≤ 2 ^ (e * 24) := abs_up (abs_pow_le hnb' j) (Nat.mul_le_mul_left e (by omega))
      walk_at "v"
      refine ⟨fits_le hb hnb' (by omega), ?_⟩
      refine ⟨_, put_same, by rw [List.length_map, pwL_length]; omega, ?_⟩
      rw [put_put]
      refine hnx2 _ _ _ _ ⟨_, rfl, ?_⟩ (VLe.refl _) (Le.refl _)
      rw [pwL_succ, List.map_append]; rfl
    · rintro τ S2 ⟨x6, rfl, rfl⟩
      rw [intsD_len]
      simp only [rd_l_worth_k1_eq]
      walk_at "v"
      have hwr : w ≠ r := fun z => by rw [z, hrw.rr] at hw; cases hw
      have hr2 : put S' w (.lst ((pwL n (24 : Int).toNat).map .int)) r = some (.lst (as.map .ref)) := by rw [put_ne hwr.symm]; exact hrw.rr
      have hal : as.length ≤ 1000 := by rw [hrw.len, List.length_take]; omega
      refine ⟨.inl ⟨_, .inl hr2⟩, _, hr2, by rw [List.length_map]; omega, ?_⟩
      refine hnx _ _ _ _ ⟨as ++ [w], _, _, _, rfl, ?_, ?_⟩ (VLe.refl _) (Le.refl _)
      · exact (upS hr2 _).choose_spec.1 ▸ (upS hr2 _).choose_spec.2.2.2 S hr ((Le.refl S').new hw |> lS.trans)
      · rw [take_snoc hrow]; exact hrw.push hw _
  · rintro τ S' ⟨as, x3, x4, x6, rfl, lS, hrw⟩
    rw [List.length_map, List.take_of_length_le (by rw [rowsF_length hmsl.symm]; exact Nat.le_refl _)] at hrw
    simp only [rd_l_worth_k5_eq]
    walk_at "v"
    have hwz : ∀ j : Nat, (wt (ns.take j) ((lo12 ns.length).take j) ((zrs ns.length).take j)).natAbs ≤ 2 ^ (e * 12 * ns.length) := fun j => by
      refine abs_up (wt_bound (e := e) (d := 12) (fun n hn' => (hn n (List.mem_of_mem_take hn')).2) fun i => ?_) (Nat.mul_le_mul_left _ (by rw [List.length_take]; omega))
      rw [List.getD_eq_getElem?_getD, List.getD_eq_getElem?_getD, List.getElem?_take, List.getElem?_take]
      split
      · rw [← List.getD_eq_getElem?_getD, ← List.getD_eq_getElem?_getD]
        rcases Nat.lt_or_ge i ns.length with hi | hi
        · rw [z12 i hi, l12 i hi]; omega
        · rw [off_getD (by omega), off_getD (by omega)]; omega
      · simp
    refine ⟨_, .inl hrw.rr, ?_⟩
    refine for_inv (fun i τ S2 => ∃ x4, τ = [some (.ref d), some (.ref a), some (.ref r), x3, x4, none, x6, some (.int 0), some (.int (wt (ns.take i) ((lo12 ns.length).take i) ((zrs ns.length).take i))), none, none] ∧ S2 = S')
      ⟨x4, rfl, rfl⟩ (fun i τ S2 h => by obtain ⟨_, _, rfl⟩ := h; exact .inl hrw.rr) ?_ ?_
    · rintro j z τ S2 D2 hz ⟨x4, rfl, rfl⟩ hrt hbk hnx hct
      obtain ⟨b, hb, rfl⟩ := map_at hz
      have hj : j < ns.length := by
        have := (List.getElem?_eq_some_iff.mp hb).1
        rw [hrw.len, rowsF_length hmsl.symm] at this; exact this
      obtain ⟨_, f, hf1, hf2⟩ := hrw.at' j _ hb
      rw [rowsF_at hj (by omega), hmsi j hj] at hf1
      have hf1 := Option.some.inj hf1
      subst hf1
      have e9 : wt (ns.take (j + 1)) ((lo12 ns.length).take (j + 1)) ((zrs ns.length).take (j + 1)) = wt (ns.take j) ((lo12 ns.length).take j) ((zrs ns.length).take j) * ns.getD j 0 ^ (12 : Int).toNat := by
        rw [take_of hj, take_of (xs := lo12 ns.length) (by omega), take_of (xs := zrs ns.length) (by omega), wt_snoc (by rw [List.length_take, List.length_take]; omega) (by rw [List.length_take, List.length_take]; omega), z12 j hj, l12 j hj]; rfl
      simp only [rd_l_worth_b3_eq]
      walk_at "v"
      refine pw_at hf2 (by decide) (by decide) ?_
      walk_at "v"
      have hpb : (ns.getD j 0 ^ (12 : Int).toNat).natAbs ≤ 2 ^ (e * 12) := abs_pow_le (hnb j hj) _
      refine ⟨fits_le (hwz j) hpb (by omega), ?_⟩
      rw [← e9]
      exact hnx _ _ _ _ ⟨_, rfl, rfl⟩ (VLe.refl _) (Le.refl _)
    · rintro τ S2 ⟨x4, rfl, rfl⟩
      rw [List.length_map, hrw.len, rowsF_length hmsl.symm, List.take_length, List.take_of_length_le (l := lo12 ns.length) (by omega), List.take_of_length_le (l := zrs ns.length) (by omega)]
      have hbt := hwz ns.length
      rw [List.take_length, List.take_of_length_le (l := lo12 ns.length) (by omega), List.take_of_length_le (l := zrs ns.length) (by omega)] at hbt
      have hbz : wt ns (lo12 ns.length) (zrs ns.length) ≠ 0 := wt_nz fun n hnn => (hn n hnn).1
      generalize wt ns (lo12 ns.length) (zrs ns.length) = bot at h hbt hbz ⊢
      simp only [rd_l_worth_k4_eq]
      walk_at "v"
      have hd' := lS _ _ hd
      refine ⟨d, dD L, hd', fun l => ?_⟩
      refine ⟨dD L, l, put_same, fun kv hkv => ?_, ?_⟩
      · obtain ⟨t, htm, rfl⟩ := List.mem_map.mp hkv
        have := (ht t htm).1
        show t.1.length ≤ _
        omega
      rw [dD_tI]
      have hrwB : Rw (put S2 d (.fD (dD L) l)) r as (rowsF ns ms) := hrw.put hd' fun _ z => by cases z
      obtain ⟨BB, hBB⟩ : ∃ BB, put S2 d (.fD (dD L) l) = BB := ⟨_, rfl⟩
      rw [hBB] at hrwB ⊢
      have hBBd : BB d = some (.fD (dD L) l) := by rw [← hBB]; exact put_same
      refine for_inv (fun i τ S3 => ∃ x4 x5 x9 x10, τ = [some (.ref d), some (.ref a), some (.ref r), x3, x4, x5, x6, some (.int (wsum ns (lo12 ns.length) (L.take i))), some (.int bot), x9, x10] ∧ S3 = BB)
        ⟨x4, none, none, none, rfl, rfl⟩ (fun i τ S3 h => by obtain ⟨_, _, _, _, _, rfl⟩ := h; exact hBBd) ?_ ?_
      · rintro i z τ S3 D1 hz ⟨x4, x5, x9, x10, rfl, rfl⟩ hrt hbk hnx hct
        obtain ⟨t, htt, rfl⟩ := map_at hz
        have htm := List.mem_of_getElem? htt
        obtain ⟨ht1, ht2, ht3⟩ := ht t htm
        have hti : ∀ j : Nat, j < ns.length → -12 ≤ t.1.getD j 0 ∧ t.1.getD j 0 ≤ 12 := fun j hj => by
          have e1 : t.1[j]? = some (t.1[j]'(by omega)) := List.getElem?_eq_getElem _
          rw [getD_of e1]; exact ht3 _ (List.getElem_mem _)
        simp only [rd_l_worth_b5_eq]
        walk_at "v"
        refine ⟨dD L, _, .inr ⟨l, hBBd⟩, by rw [lkD_dD, lkL_of_mem nd htm]; rfl, ?_⟩
        have okz2 : Paired (itemsD S3) [.ref r, tI t.1] [as.map .ref, t.1.map .int] := .cons (.inl hrwB.rr) (.cons rfl .nil)
        refine ⟨[as.map .ref, t.1.map .int], ns.length, okz2, ?_, ?_⟩
        · simp [hrwB.len, rowsF_length hmsl.symm, ht1]
        refine for_inv (fun j τ S4 => ∃ x4 x10, τ = [some (.ref d), some (.ref a), some (.ref r), x3, x4, some (tI t.1), x6, some (.int (wsum ns (lo12 ns.length) (L.take i))), some (.int bot), some (.int (t.2 * wt (ns.take j) ((lo12 ns.length).take j) (t.1.take j))), x10] ∧ S4 = S3)
          ⟨x4, x10, by simp [wt], rfl⟩ (fun i τ S2 h => by obtain ⟨_, _, _, rfl⟩ := h; exact okz2) ?_ ?_
        · rintro j z τ S4 D2 hz2 ⟨x4, x10, rfl, rfl⟩ hrt2 hbk2 hnx2 hct2
          obtain ⟨hj, rfl⟩ := zip2_at hz2
          have hja : j < as.length := by rw [hrwB.len, rowsF_length hmsl.symm]; exact hj
          have ea : as[j]? = some as[j] := List.getElem?_eq_getElem hja
          have ea2 : (as.map D.ref).getD j .non = .ref as[j] := by rw [List.getD_eq_getElem?_getD, List.getElem?_map, ea]; rfl
          rw [ea2, mapD_at (by omega)]
          obtain ⟨_, f, hf1, hf2⟩ := hrwB.at' j _ ea
          rw [rowsF_at hj (by omega), hmsi j hj] at hf1
          have hf1 := Option.some.inj hf1
          subst hf1
          have hq := hti j hj
          have e9 : t.2 * wt (ns.take (j + 1)) ((lo12 ns.length).take (j + 1)) (t.1.take (j + 1)) = t.2 * wt (ns.take j) ((lo12 ns.length).take j) (t.1.take j) * ns.getD j 0 ^ (t.1.getD j 0 + 12).toNat := by
            rw [take_of hj, take_of (xs := lo12 ns.length) (by omega), take_of (xs := t.1) (by omega), wt_snoc (by rw [List.length_take, List.length_take]; omega) (by rw [List.length_take, List.length_take]; omega), Int.mul_assoc, l12 j hj]; rfl
          simp only [rd_l_worth_b4_eq]
          walk_at "v"
          refine pw_at hf2 (by omega) (by omega) ?_
          walk_at "v"
          have hwb : (wt (ns.take j) ((lo12 ns.length).take j) (t.1.take j)).natAbs ≤ 2 ^ (e * 24 * ns.length) := by
            refine abs_up (wt_bound (e := e) (d := 24) (fun n hn' => (hn n (List.mem_of_mem_take hn')).2) fun i => ?_) (Nat.mul_le_mul_left _ (by rw [List.length_take]; omega))
            rw [List.getD_eq_getElem?_getD, List.getD_eq_getElem?_getD, List.getElem?_take, List.getElem?_take]
            split
            · rw [← List.getD_eq_getElem?_getD, ← List.getD_eq_getElem?_getD]
              rcases Nat.lt_or_ge i ns.length with hi | hi
              · have := hti i hi
                rw [l12 i hi]; omega
              · rw [off_getD (by omega), off_getD (by omega)]; omega
            · simp
          have hpb : (ns.getD j 0 ^ (t.1.getD j 0 + 12).toNat).natAbs ≤ 2 ^ (e * 24) := abs_up (abs_pow_le (hnb j hj) _) (Nat.mul_le_mul_left e (by omega))
          refine ⟨fits_le (abs_mul_le ht2 hwb) hpb (by omega), ?_⟩
          rw [← e9]
          exact hnx2 _ _ _ _ ⟨_, _, rfl, rfl⟩ (VLe.refl _) (Le.refl _)
        · rintro τ S4 ⟨x4, x10, rfl, rfl⟩
          rw [zipD_len (List.cons_ne_nil _ _), List.take_length, List.take_of_length_le (l := lo12 ns.length) (by omega), List.take_of_length_le (l := t.1) (by omega)]
          simp only [rd_l_worth_k2_eq]
          walk_at "v"
          have e9 : wsum ns (lo12 ns.length) (L.take (i + 1)) = wsum ns (lo12 ns.length) (L.take i) + t.2 * wt ns (lo12 ns.length) t.1 := by
            rw [take_snoc htt]
            unfold wsum
            rw [List.map_append, List.sum_append]; simp
          rw [← e9]
          exact hnx _ _ _ _ ⟨_, _, _, _, rfl, rfl⟩ (VLe.refl _) (Le.refl _)
      · rintro τ S3 ⟨x4, x5, x9, x10, rfl, rfl⟩
        rw [List.length_map, List.take_length]
        refine ⟨hBBd, ?_⟩
        rw [← hBB, put_put, put_self hd']
        simp only [rd_l_worth_k3_eq]
        walk_at "v"
        exact ⟨_, _, rfl, hbz, Nat.le_trans hbt (Nat.pow_le_pow_right (by decide) he), S, lS, h⟩
theorem ok_l_worth {P : Program} {w : World} {K : PySem.W.Frag} {mg : Str → Option Value} {base : Heap} (T : Tp K mg) : FnOk P w K mg base CX0 3 T.a_l_worth T.d_l_worth ["_law_terms_here", "_law_numbers_here"] (lowSp K sp_l_worth) :=
  fnV T.F_l_worth sc_l_worth (fun ds S Q E h => len_l_worth h) fun cdv A outer s H E en E0 hr hx =>
    ⟨rd_l_worth, vss_cons (vs_set (i := 2) sc_l_worth.nd rfl (.inl rfl) (ve_lst va_nil)) (vss_cons (vs_for PassesOwn.never rfl (vi_lst (ve_var 1)) (vg_name (i := 3) sc_l_worth.nd rfl (.inl rfl)) (vss_cons (vs_set (i := 4) sc_l_worth.nd rfl (.inl rfl) (ve_lst (va_cons ve_int va_nil))) (vss_cons (vs_for PassesOwn.never rfl (vi_rng1 (by rfl) T.z_range (va_cons ve_int va_nil)) (vg_name (i := 6) sc_l_worth.nd rfl (.inl rfl)) (vss_one (vs_expr (ve_bm PySem.F.plainAttrs_list PySem.F.slot_list_append PySem.F.type_list_append mt_append me_append (ve_var 4) (va_cons (ve_op op_mulAny ov_mul (ve_ix ix_seq ov_ix (ve_var 4) (ve_un un_neg uv_neg ve_int)) (ve_var 3)) va_nil))))) (vss_one (vs_expr (ve_bm PySem.F.plainAttrs_list PySem.F.slot_list_append PySem.F.type_list_append mt_append me_append (ve_var 2) (va_cons (ve_var 4) va_nil))))))) (vss_cons (vs_asg (ve_tup (va_cons ve_int (va_cons ve_int va_nil))) (vg_tup rfl (vgs_cons (vg_name (i := 7) sc_l_worth.nd rfl (.inl rfl)) (vgs_cons (vg_name (i := 8) sc_l_worth.nd rfl (.inl rfl)) (vgs_nil))))) (vss_cons (vs_for PassesOwn.never rfl (vi_lst (ve_var 2)) (vg_name (i := 4) sc_l_worth.nd rfl (.inl rfl)) (vss_one (vs_set (i := 8) sc_l_worth.nd rfl (.inl rfl) (ve_op op_mulAny ov_mul (ve_var 8) (ve_ix ix_seq ov_ix (ve_var 4) ve_int))))) (vss_cons (vs_lock (vs_for PassesOwn.never rfl (vi_keyT (ve_var 0)) (vg_name (i := 5) sc_l_worth.nd rfl (.inl rfl)) (vss_cons (vs_set (i := 9) sc_l_worth.nd rfl (.inl rfl) (ve_dget (hu_of hr) (ve_var 0) (ve_var 5))) (vss_cons (vs_for PassesOwn.never rfl (vi_zip (by rfl) T.z_zip (va_cons (ve_var 2) (va_cons (ve_var 5) va_nil))) (vg_tup rfl (vgs_cons (vg_name (i := 4) sc_l_worth.nd rfl (.inl rfl)) (vgs_cons (vg_name (i := 10) sc_l_worth.nd rfl (.inl rfl)) (vgs_nil)))) (vss_one (vs_set (i := 9) sc_l_worth.nd rfl (.inl rfl) (ve_op op_mulAny ov_mul (ve_var 9) (ve_ix ix_seq ov_ix (ve_var 4) (ve_op op_addAny ov_add (ve_var 10) ve_int)))))) (vss_one (vs_set (i := 7) sc_l_worth.nd rfl (.inl rfl) (ve_op op_addAny ov_add (ve_var 7) (ve_var 9)))))))) (vss_one (vs_ret (ve_call (ok_l_lowest T) (hr.mono (by decide)) (by rfl) T.g_l_lowest T.F_l_lowest.kp (bi_l_lowest T) (pass0 (X := _)) XE0.no (va_cons (ve_var 7) (va_cons (ve_var 8) va_nil))))))))), fun ds S Q h => vc_l_worth h⟩
end LW
namespace LW
open PySem PySem.Spec PyProof.Rows L2 VL
local macro_rules | `(tactic| walk_at "v") => `(tactic| simp only [sSeq, sAsg, sFor, sRet, sRetN, sIf, sNext, sDrop, sPar, sAug, VL.sDPut, eVar, eC, eBin, eUn, eCB, eCall, eCallK, eArgs, eTup, eLst, eIf, eNot, eAnd, eOr, eDNew, eDGet2, eSl, oNone, oSome, eRev, eM0, eM, eLc, eLcF, Tg.R, tVal, VL.tNot, VL.tAnd, VL.tOr, VL.tYes, sl, wipeV, VL.gName, VL.gTupN, VL.gSub, gAll, VL.iTup, iLst, iScr, VL.iRng1, VL.iRng2, vAdd_int, vAdd_ib, vAdd_str, vAdd_tup, vAdd_tI, vAdd_ref, VL.vInt, VL.vInt0, vMul_int, vMul_ref, vMul_tup, vNeg, vCmp, vEq_int, vEq_bl, vEq_str, vNe_int, vNe_bl, vNe_str, vLt_int, vIsN_non, vNotN_non, vIsN_int, vNotN_int, vIsN_bl, vNotN_bl, vIsN_str, vNotN_str, vIsN_ref, vNotN_ref, vIsN_tup, vNotN_tup, vIsN_tI, vNotN_tI, vLt_tI, cLen_tI, vDGet_tI, vDPut_tI, vDGet2_tI, cLen_tup, cLen_scr, cLen_str, cLen_ref, cLenD_ref, ci_non_bool, ci_non_int, ci_non_str, ci_non_list, ci_non_tuple, ci_non_dict, ci_bl_bool, ci_bl_int, ci_bl_str, ci_bl_list, ci_bl_tuple, ci_bl_dict, ci_int_bool, ci_int_int, ci_int_str, ci_int_list, ci_int_tuple, ci_int_dict, ci_str_bool, ci_str_int, ci_str_str, ci_str_list, ci_str_tuple, ci_str_dict, ci_tup_bool, ci_tup_int, ci_tup_str, ci_tup_list, ci_tup_tuple, ci_tup_dict, vIn_tI, vIn_int, vDDel_tI, VL.sDDelT, VL.eDc, VL.sLock, VL.eLock, VL.unE, VL.iZip, VL.iZipD, VL.iEnum, VL.iKeyT, VL.eLRg1, VL.eD1, VL.iItemsT, VL.cGcd, eArgs, cList_tI, cInt_int, cInt_bl, cAbs, cMax2_int, cMin2_int, isT, mPop, mAppend, vIx_p0, vIx_p1, vSl_tI, vIx_stk0, vIx_stk1, vIx_stk2, vIx_stk3, vLSet_stk1, vLSet_stk2, vLSet_stk3, stk_a, List.set, startV, List.map_cons, List.map_nil, List.replicate, List.append_eq, List.nil_append, List.cons_append, List.length_cons, List.length_nil, List.length_map, if_true, Bool.false_eq_true, if_false, reduceIte, Bool.not_true, Bool.not_false, true_and, and_true, false_or, or_false, Bool.not_eq_eq_eq_not, decide_eq_true_eq, decide_eq_false_iff_not, reduceCtorEq])
local macro_rules | `(tactic| walk_at "w") => `(tactic| simp only [sSeq, sAsg, sFor, sRet, sRetN, sIf, sNext, sDrop, sPar, sAug, VL.sDPut, eVar, eC, eBin_ap, eUn, eCB, eCall, eCallK, eArgs, eTup, eLst, eIf, eNot, eAnd, eOr, eDNew, eDGet2, eSl, oNone, oSome, eRev, eM0, eM, eLc, eLcF, Tg.R, tVal, VL.tNot, VL.tAnd, VL.tOr, VL.tYes, sl, wipeV, VL.gName, VL.gTupN, VL.gSub, gAll, VL.iTup, iLst, iScr, VL.iRng1, VL.iRng2, vAdd_int, vAdd_ib, vAdd_str, vAdd_tup, vAdd_tI, vAdd_ref, VL.vInt, VL.vInt0, vMul_int, vMul_ref, vMul_tup, vNeg, vCmp, vEq_int, vEq_bl, vEq_str, vNe_int, vNe_bl, vNe_str, vLt_int, vIsN_non, vNotN_non, vIsN_int, vNotN_int, vIsN_bl, vNotN_bl, vIsN_str, vNotN_str, vIsN_ref, vNotN_ref, vIsN_tup, vNotN_tup, vIsN_tI, vNotN_tI, vLt_tI, cLen_tI, vDGet_tI, vDPut_tI, vDGet2_tI, cLen_tup, cLen_scr, cLen_str, cLen_ref, cLenD_ref, ci_non_bool, ci_non_int, ci_non_str, ci_non_list, ci_non_tuple, ci_non_dict, ci_bl_bool, ci_bl_int, ci_bl_str, ci_bl_list, ci_bl_tuple, ci_bl_dict, ci_int_bool, ci_int_int, ci_int_str, ci_int_list, ci_int_tuple, ci_int_dict, ci_str_bool, ci_str_int, ci_str_str, ci_str_list, ci_str_tuple, ci_str_dict, ci_tup_bool, ci_tup_int, ci_tup_str, ci_tup_list, ci_tup_tuple, ci_tup_dict, vIn_tI, vIn_int, vDDel_tI, VL.sDDelT, VL.eDc, VL.sLock, VL.eLock, VL.unE, VL.iZip, VL.iZipD, VL.iEnum, VL.iKeyT, VL.eLRg1, VL.eD1, VL.iItemsT, VL.cGcd, eArgs, cList_tI, cInt_int, cInt_b2, cAbs, cMax2_int, cMin2_int, isT, mPop, mAppend, vIx_p0, vIx_p1, vSl_tI, vIx_stk0, vIx_stk1, vIx_stk2, vIx_stk3, vLSet_stk1, vLSet_stk2, vLSet_stk3, stk_a, List.set, startV, List.map_cons, List.map_nil, List.replicate, List.append_eq, List.nil_append, List.cons_append, List.length_cons, List.length_nil, List.length_map, if_true, Bool.false_eq_true, if_false, reduceIte, Bool.not_true, Bool.not_false, true_and, and_true, false_or, or_false, Bool.not_eq_eq_eq_not, decide_eq_true_eq, decide_eq_false_iff_not, reduceCtorEq])
/-! ### drawn numbers, long sums -/
def rd_l_numbers_b1 : RS := sSeq (sAsg (eBin vIx (eLst [eC (.int 1), eBin vAdd (eC (.int 2)) (eCall sp_l_pick E0n [eVar 0, eC (.int 9)]), eBin vAdd (eC (.int 1)) (eCall sp_l_pick E0n [eVar 0, eBin vSub (eBin vPow (eC (.int 10)) (eC (.int 30))) (eC (.int 1))]), eBin vPow (eC (.int 6)) (eC (.int 3))]) (eCall sp_l_pick E0n [eVar 0, eC (.int 4)])) (gName 4)) (sDrop (eM "list" mAppend (eVar 2) [eBin vMul (eVar 4) (eBin vSub (eC (.int 1)) (eBin vMul (eC (.int 2)) (eCall sp_l_pick E0n [eVar 0, eC (.int 2)])))]))
theorem rd_l_numbers_b1_eq (D0 : En) (τ : VS) (S : Sto) : rd_l_numbers_b1 D0 τ S = (sSeq (sAsg (eBin vIx (eLst [eC (.int 1), eBin vAdd (eC (.int 2)) (eCall sp_l_pick E0n [eVar 0, eC (.int 9)]), eBin vAdd (eC (.int 1)) (eCall sp_l_pick E0n [eVar 0, eBin vSub (eBin vPow (eC (.int 10)) (eC (.int 30))) (eC (.int 1))]), eBin vPow (eC (.int 6)) (eC (.int 3))]) (eCall sp_l_pick E0n [eVar 0, eC (.int 4)])) (gName 4)) (sDrop (eM "list" mAppend (eVar 2) [eBin vMul (eVar 4) (eBin vSub (eC (.int 1)) (eBin vMul (eC (.int 2)) (eCall sp_l_pick E0n [eVar 0, eC (.int 2)])))])) : RS) D0 τ S := rfl
def rd_l_numbers_k1 : RS := sRet (eVar 2)
theorem rd_l_numbers_k1_eq (D0 : En) (τ : VS) (S : Sto) : rd_l_numbers_k1 D0 τ S = (sRet (eVar 2) : RS) D0 τ S := rfl
def rd_l_numbers : RS := sSeq (sAsg (eLst []) (gName 2)) (sSeq (sFor (iRng1 [eVar 1]) (gName 3) rd_l_numbers_b1) rd_l_numbers_k1)
theorem rd_l_numbers_eq (D0 : En) (τ : VS) (S : Sto) : rd_l_numbers D0 τ S = (sSeq (sAsg (eLst []) (gName 2)) (sSeq (sFor (iRng1 [eVar 1]) (gName 3) rd_l_numbers_b1) rd_l_numbers_k1) : RS) D0 τ S := rfl
def sp_l_numbers : SpV := fun ds S Q _ => ∃ F a c w n many, ds = [.ref a, .int (Nat.cast many)] ∧ S = stk F a c w ∧ Ap F a c ∧ Wok w n ∧ n < 9000000 ∧ 1 ≤ many ∧ many ≤ 12 ∧
  ∀ q w' ns, F q = none → q ≠ a → q ≠ c → List.length ns = many → (∀ z ∈ ns, z ≠ 0 ∧ Int.natAbs z ≤ 2 ^ 100) → Wok w' (n + 200) → Q (.ref q) (stk (put F q (.lst (List.map .int ns))) a c w')
theorem len_l_numbers {ds S Q E} (h : sp_l_numbers ds S Q E) : ds.length = 2 := by
  obtain ⟨_, _, _, _, _, _, rfl, _⟩ := h; rfl
theorem vc_l_numbers {ds S Q E} (h : sp_l_numbers ds S Q E) : BodyV N_l_numbers ds S Q rd_l_numbers := by
  obtain ⟨F, a, c, w, n, many, rfl, rfl, ap, wk, hn, hm1, hm2, h⟩ := h
  rw [BodyV, rd_l_numbers_eq]
  walk_at "v"
  intro q hq
  obtain ⟨G0, e0, ap0, l0, h0, hqF, ⟨hqa, hqc⟩, _⟩ := nwo ap hq (.lst [])
  simp only [e0]
  refine ⟨by omega, ?_⟩
  refine for_inv (fun i τ S' => ∃ w G ns x3 x4, τ = [some (.ref a), some (.int (Nat.cast many)), some (.ref q), x3, x4] ∧ S' = stk G a c w ∧ Ap G a c ∧ Le F G ∧ G q = some (.lst (List.map .int ns)) ∧ List.length ns = i ∧ (∀ z ∈ ns, z ≠ 0 ∧ Int.natAbs z ≤ 2 ^ 100) ∧ Wok w (n + 10 * i))
    ⟨w, G0, [], none, none, rfl, rfl, ap0, l0, h0, rfl, (fun _ h => by cases h), wk.mono (by omega)⟩ (fun _ _ _ _ => trivial) ?_ ?_
  · rintro i x τ S' D1 hx ⟨w, G, ns, x3, x4, rfl, rfl, apG, lG, hG, hl, hz, wk⟩ hrt hbk hnx hct
    obtain ⟨hi, rfl⟩ := intsD_at hx
    simp only [rd_l_numbers_b1_eq]
    walk_at "v"
    refine pick_to apG wk (by omega) (by omega) (by omega) fun r1 w1 r10 r11 wk1 => ?_
    walk_at "v"
    refine ⟨⟨by decide, by decide, by decide⟩, ?_⟩
    refine pick_to apG wk1 (by omega) (by decide) (by decide) fun r2 w2 r20 r21 wk2 => ?_
    walk_at "v"
    refine ⟨⟨by decide, by decide, by decide⟩, fun u hu => ?_⟩
    obtain ⟨G1, e1, ap1, l1, h1, hu1, _, _⟩ := nwo apG hu (.lst [.int 1, .int (2 + r1), .int (1 + r2), .int (6 ^ Int.toNat 3)])
    simp only [e1]
    refine pick_to ap1 wk2 (by omega) (by omega) (by omega) fun r3 w3 r30 r31 wk3 => ?_
    have hlim : (10 : Int) ^ Int.toNat 30 - 1 < 2 ^ 100 - 1 := by decide
    obtain ⟨z, hz1, hz2, hz3⟩ : ∃ z : Int, [D.int 1, .int (2 + r1), .int (1 + r2), .int (6 ^ Int.toNat 3)][r3.toNat]? = some (.int z) ∧ 1 ≤ z ∧ z ≤ 2 ^ 100 := by
      rcases (by omega : r3 = 0 ∨ r3 = 1 ∨ r3 = 2 ∨ r3 = 3) with rfl | rfl | rfl | rfl
      · exact ⟨1, rfl, by decide, by decide⟩
      · exact ⟨2 + r1, rfl, by omega, by omega⟩
      · exact ⟨1 + r2, rfl, by omega, by omega⟩
      · exact ⟨_, rfl, by decide, by decide⟩
    refine vIx_ref (stk_at ap1 h1) r30 hz1 ?_
    have hq1 := l1 _ _ hG
    refine ⟨.inl ⟨_, .inl (stk_at ap1 hq1)⟩, ?_⟩
    refine pick_to ap1 wk3 (by omega) (by omega) (by omega) fun r4 w4 r40 r41 wk4 => ?_
    walk_at "v"
    refine ⟨mul_fits (a := 20) (b := 20) (by decide) (by omega), mul_fits (a := 110) (b := 20) (by omega) (by omega), ?_⟩
    refine ⟨_, stk_at ap1 hq1, by rw [List.length_map]; omega, ?_⟩
    obtain ⟨G2, e2, ap2, h2, _, l2⟩ := upo (w := w4) ap1 hq1 (.lst (List.map .int ns ++ [.int (z * (1 - 2 * r4))]))
    rw [e2]
    refine hnx _ _ _ _ ⟨w4, G2, ns ++ [z * (1 - 2 * r4)], _, _, rfl, rfl, ap2, l2 F hqF (lG.trans l1), by rw [h2, List.map_append]; rfl, by rw [List.length_append, hl]; rfl, fun y hy => ?_, wk4.mono (by omega)⟩ (VLe.refl _) (Le.refl _)
    rcases List.mem_append.mp hy with hy | hy
    · exact hz y hy
    · rw [List.mem_singleton.mp hy]
      have hr4 : r4 = 0 ∨ r4 = 1 := by omega
      rcases hr4 with rfl | rfl
      · exact ⟨by omega, by omega⟩
      · exact ⟨by omega, by omega⟩
  · rintro τ S' ⟨w, G, ns, x3, x4, rfl, rfl, apG, lG, hG, hl, hz, wk⟩
    rw [intsD_len] at hl wk
    simp only [rd_l_numbers_k1_eq]
    walk_at "v"
    exact ⟨_, stk_mono (le_put lG hG), h q w ns hqF hqa hqc (by omega) hz (wk.mono (by omega))⟩
theorem ok_l_numbers {P : Program} {w : World} {K : PySem.W.Frag} {mg : Str → Option Value} {base : Heap} (T : Tp K mg) : FnOk P w K mg base CX0 2 T.a_l_numbers T.d_l_numbers ["_law_stock_here", "_law_many"] (lowSp K sp_l_numbers) :=
  fnV T.F_l_numbers sc_l_numbers (fun ds S Q E h => len_l_numbers h) fun cdv A outer s H E en E0 hr hx =>
    ⟨rd_l_numbers, vss_cons (vs_set (i := 2) sc_l_numbers.nd rfl (.inl rfl) (ve_lst va_nil)) (vss_cons (vs_for PassesOwn.never rfl (vi_rng1 (by rfl) T.z_range (va_cons (ve_var 1) va_nil)) (vg_name (i := 3) sc_l_numbers.nd rfl (.inl rfl)) (vss_cons (vs_set (i := 4) sc_l_numbers.nd rfl (.inl rfl) (ve_ix ix_seq ov_ix (ve_lst (va_cons ve_int (va_cons (ve_op op_addAny ov_add ve_int (ve_call (ok_l_pick T) (hr.mono (by decide)) (by rfl) T.g_l_pick T.F_l_pick.kp (bi_l_pick T) (pass0 (X := _)) XE0.no (va_cons (ve_var 0) (va_cons ve_int va_nil)))) (va_cons (ve_op op_addAny ov_add ve_int (ve_call (ok_l_pick T) (hr.mono (by decide)) (by rfl) T.g_l_pick T.F_l_pick.kp (bi_l_pick T) (pass0 (X := _)) XE0.no (va_cons (ve_var 0) (va_cons (ve_op op_sub ov_int0 (ve_op op_pow ov_int ve_int ve_int) ve_int) va_nil)))) (va_cons (ve_op op_pow ov_int ve_int ve_int) va_nil))))) (ve_call (ok_l_pick T) (hr.mono (by decide)) (by rfl) T.g_l_pick T.F_l_pick.kp (bi_l_pick T) (pass0 (X := _)) XE0.no (va_cons (ve_var 0) (va_cons ve_int va_nil))))) (vss_one (vs_expr (ve_bm PySem.F.plainAttrs_list PySem.F.slot_list_append PySem.F.type_list_append mt_append me_append (ve_var 2) (va_cons (ve_op op_mulAny ov_mul (ve_var 4) (ve_op op_sub ov_int0 ve_int (ve_op op_mulAny ov_mul ve_int (ve_call (ok_l_pick T) (hr.mono (by decide)) (by rfl) T.g_l_pick T.F_l_pick.kp (bi_l_pick T) (pass0 (X := _)) XE0.no (va_cons (ve_var 0) (va_cons ve_int va_nil)))))) va_nil)))))) (vss_one (vs_ret (ve_var 2)))), fun ds S Q h => vc_l_numbers h⟩
def triD (t : Int × Int × Int) : D := .tup [.int t.1, .int t.2.1, .int t.2.2]
def sp_l_long : SpV := fun ds S Q _ => ∃ F a c w n many, ds = [.ref a, .int (Nat.cast many)] ∧ S = stk F a c w ∧ Ap F a c ∧ Wok w n ∧ n < 9000000 ∧ 1 ≤ many ∧ many ≤ 12 ∧
  ∀ q w' L, F q = none → q ≠ a → q ≠ c → TermsOk many 300 12 (10 ^ 30) L → Wok w' (n + 200) → Q (.ref q) (stk (put F q (.dI (dD L))) a c w')
theorem len_l_long {ds S Q E} (h : sp_l_long ds S Q E) : ds.length = 2 := by
  obtain ⟨_, _, _, _, _, _, rfl, _⟩ := h; rfl
def rx_l_long_sg : RE := eBin vSub (eC (.int 1)) (eBin vMul (eC (.int 2)) (eCB cInt [eBin vEq (eBin vMod (eVar 3) (eC (.int 3))) (eC (.int 1))]))
theorem rx_l_long_sg_eq (τ : VS) (S : Sto) (Q : KE) : rx_l_long_sg τ S Q = (eBin vSub (eC (.int 1)) (eBin vMul (eC (.int 2)) (eCB cInt [eBin vEq (eBin vMod (eVar 3) (eC (.int 3))) (eC (.int 1))])) : RE) τ S Q := rfl
def rx_l_long_co : RE := eBin vMul (eBin vAdd (eVar 5) (eVar 3)) rx_l_long_sg
theorem rx_l_long_co_eq (τ : VS) (S : Sto) (Q : KE) : rx_l_long_co τ S Q = (eBin vMul (eBin vAdd (eVar 5) (eVar 3)) rx_l_long_sg : RE) τ S Q := rfl
def rd_l_long_b1 : RS := sSeq (sAsg (eLcF (fun xs S Q => Q (.tup xs) S) (iLst (eVar 2)) (.tp [8, 9, 10]) tYes (eBin vSub (eBin vMod (eCB cInt [eBin vAdd (eBin vAdd (eBin vMul (eVar 3) (eVar 8)) (eVar 10)) (eBin vFdiv (eVar 3) (eBin vMul (eVar 9) (eC (.int 7))))]) (eC (.int 25))) (eC (.int 12))) [8, 9, 10]) (gName 6)) (sDPut (eVar 4) (eVar 6) rx_l_long_co)
theorem rd_l_long_b1_eq (D0 : En) (τ : VS) (S : Sto) : rd_l_long_b1 D0 τ S = (sSeq (sAsg (eLcF (fun xs S Q => Q (.tup xs) S) (iLst (eVar 2)) (.tp [8, 9, 10]) tYes (eBin vSub (eBin vMod (eCB cInt [eBin vAdd (eBin vAdd (eBin vMul (eVar 3) (eVar 8)) (eVar 10)) (eBin vFdiv (eVar 3) (eBin vMul (eVar 9) (eC (.int 7))))]) (eC (.int 25))) (eC (.int 12))) [8, 9, 10]) (gName 6)) (sDPut (eVar 4) (eVar 6) rx_l_long_co) : RS) D0 τ S := rfl
def rd_l_long_k1 : RS := sRet (eVar 4)
theorem rd_l_long_k1_eq (D0 : En) (τ : VS) (S : Sto) : rd_l_long_k1 D0 τ S = (sRet (eVar 4) : RS) D0 τ S := rfl
def rd_l_long : RS := sSeq (sAsg (eLc (iRng1 [eVar 1]) (Tg.R (.nm 7)) tYes (eTup [eBin vAdd (eC (.int 1)) (eCall sp_l_pick E0n [eVar 0, eC (.int 24)]), eBin vAdd (eC (.int 1)) (eCall sp_l_pick E0n [eVar 0, eC (.int 9)]), eCall sp_l_pick E0n [eVar 0, eC (.int 25)]]) [7]) (gName 2)) (sSeq (sPar 5 4 (eBin vAdd (eC (.int 1)) (eCall sp_l_wide E0n [eVar 0, eBin vPow (eC (.int 10)) (eC (.int 28))])) eDNew) (sSeq (sFor (iRng1 [eC (.int 300)]) (gName 3) rd_l_long_b1) rd_l_long_k1))
theorem rd_l_long_eq (D0 : En) (τ : VS) (S : Sto) : rd_l_long D0 τ S = (sSeq (sAsg (eLc (iRng1 [eVar 1]) (Tg.R (.nm 7)) tYes (eTup [eBin vAdd (eC (.int 1)) (eCall sp_l_pick E0n [eVar 0, eC (.int 24)]), eBin vAdd (eC (.int 1)) (eCall sp_l_pick E0n [eVar 0, eC (.int 9)]), eCall sp_l_pick E0n [eVar 0, eC (.int 25)]]) [7]) (gName 2)) (sSeq (sPar 5 4 (eBin vAdd (eC (.int 1)) (eCall sp_l_wide E0n [eVar 0, eBin vPow (eC (.int 10)) (eC (.int 28))])) eDNew) (sSeq (sFor (iRng1 [eC (.int 300)]) (gName 3) rd_l_long_b1) rd_l_long_k1)) : RS) D0 τ S := rfl
theorem sg_to {S : Sto} {Q : KE} {x0 x1 x2 x4 x5 x6 x7 x8 x9 x10 : Option D} {i : Int} (q : ∀ sg : Int, sg = 1 ∨ sg = -1 → Q (.int sg) S) : rx_l_long_sg [x0, x1, x2, some (.int i), x4, x5, x6, x7, x8, x9, x10] S Q := by
  rw [rx_l_long_sg_eq]
  walk_at "w"
  refine ⟨by decide, ?_⟩
  by_cases hb : i.fmod 3 = 1
  · rw [decide_eq_true hb]
    exact ⟨mul_fits (a := 20) (b := 20) (by decide) (by decide), q _ (.inr rfl)⟩
  · rw [decide_eq_false hb]
    exact ⟨mul_fits (a := 20) (b := 20) (by decide) (by decide), q _ (.inl rfl)⟩
theorem co_to {S : Sto} {Q : KE} {x0 x1 x2 x4 x6 x7 x8 x9 x10 : Option D} {i g : Int} (hg : (g + i).natAbs < 2 ^ 110) (q : ∀ sg : Int, sg = 1 ∨ sg = -1 → Q (.int ((g + i) * sg)) S) : rx_l_long_co [x0, x1, x2, some (.int i), x4, some (.int g), x6, x7, x8, x9, x10] S Q := by
  rw [rx_l_long_co_eq, eBin_ap, eBin_ap]
  walk_at "w"
  refine sg_to fun sg hsg => ?_
  rw [vMul_int]
  exact ⟨mul_fits (a := 110) (b := 20) hg (by rcases hsg with rfl | rfl <;> decide), q sg hsg⟩
theorem vc_l_long {ds S Q E} (h : sp_l_long ds S Q E) : BodyV N_l_long ds S Q rd_l_long := by
  obtain ⟨F, a, c, w, n, many, rfl, rfl, ap, wk, hn, hm1, hm2, h⟩ := h
  rw [BodyV, rd_l_long_eq]
  walk_at "v"
  refine ⟨by omega, lc_inv (fun j acc S' => ∃ w ts, S' = stk F a c w ∧ Wok w (n + 3 * j) ∧ acc = List.map triD ts ∧ List.length ts = j ∧ ∀ t ∈ ts, 1 ≤ t.1 ∧ t.1 ≤ 24 ∧ 1 ≤ t.2.1 ∧ t.2.1 ≤ 9) ⟨w, [], rfl, wk.mono (by omega), rfl, rfl, (fun _ h => by cases h)⟩ (fun _ _ _ _ => trivial) ?_ ?_⟩
  · rintro j x acc S' K' hx ⟨w', ts, rfl, wk', rfl, hj, hz⟩ hk
    obtain ⟨hj2, rfl⟩ := intsD_at hx
    walk_at "v"
    refine pick_to ap wk' (by omega) (by omega) (by omega) fun r1 w1 r10 r11 wk1 => ?_
    walk_at "v"
    refine pick_to ap wk1 (by omega) (by omega) (by omega) fun r2 w2 r20 r21 wk2 => ?_
    walk_at "v"
    refine pick_to ap wk2 (by omega) (by omega) (by omega) fun r3 w3 r30 r31 wk3 => ?_
    exact hk _ _ _ (Le.refl _) ⟨w3, ts ++ [(1 + r1, 1 + r2, r3)], rfl, wk3.mono (by omega), by rw [List.map_append]; rfl, by rw [List.length_append, hj]; rfl, fun t ht => by
      rcases List.mem_append.mp ht with ht | ht
      · exact hz t ht
      · rw [List.mem_singleton.mp ht]; exact ⟨by show 1 ≤ 1 + r1; omega, by show 1 + r1 ≤ 24; omega, by show 1 ≤ 1 + r2; omega, by show 1 + r2 ≤ 9; omega⟩⟩
  · rintro acc S' ⟨w', ts, rfl, wk', rfl, hj, hz⟩
    rw [intsD_len] at hj wk'
    intro s hs
    obtain ⟨G1, e1, ap1, l1, h1, hs1, _, _⟩ := nwo ap hs (.lst (List.map triD ts))
    simp only [e1]
    refine ⟨⟨by decide, by decide, by decide⟩, ?_⟩
    refine wide_to ap1 wk' (by omega) (by decide) fun r6 w6 r60 r61 wk6 => ?_
    have hlim : (10 : Int) ^ Int.toNat 28 < 10 ^ 29 := by decide
    walk_at "v"
    intro q hq
    obtain ⟨G2, e2, ap2, l2, h2, hq1, ⟨hqa, hqc⟩, _⟩ := nwo ap1 hq (.dI [])
    simp only [e2]
    have hqF : F q = none := l1.nope hq1
    have hs2 : G2 s = some (.lst (List.map triD ts)) := l2 _ _ h1
    have hqs : q ≠ s := fun z => by rw [z, h1] at hq1; cases hq1
    refine ⟨by decide, ?_⟩
    refine for_inv (fun i τ S' => ∃ L G x3 x6 x7 x8 x9 x10, τ = [some (.ref a), some (.int (Nat.cast many)), some (.ref s), x3, some (.ref q), some (.int (1 + r6)), x6, x7, x8, x9, x10] ∧ S' = stk G a c w6 ∧ Ap G a c ∧ Le F G ∧ G q = some (.dI (dD L)) ∧ G s = some (.lst (List.map triD ts)) ∧ TermsOk many i 12 (10 ^ 30) L)
      ⟨[], G2, none, none, none, none, none, none, rfl, rfl, ap2, l1.trans l2, h2, hs2, ⟨List.nodup_nil, (fun _ h => by cases h), Int.le_refl _, (fun _ h => by cases h), (fun _ h => by cases h)⟩⟩ (fun _ _ _ _ => trivial) ?_ ?_
    · rintro i x τ S' D1 hx ⟨L, G, x3, x6, x7, x8, x9, x10, rfl, rfl, apG, lG, hG, hGs, tk⟩ hrt hbk hnx hct
      obtain ⟨hi, rfl⟩ := intsD_at hx
      have hi : i < 300 := by omega
      simp only [rd_l_long_b1_eq]
      walk_at "w"
      refine ⟨_, .inl (stk_at apG hGs), ?_⟩
      refine lc_map2 (f := fun t : Int × Int × Int => D.int (((0 + (i : Int)) * t.1 + t.2.2 + (0 + (i : Int)).fdiv (t.2.1 * 7)).fmod 25 - 12)) (.inl (stk_at apG hGs)) (fun t ht K' hK => ?_) ?_
      · obtain ⟨a1, a2, a3, a4⟩ := hz t ht
        simp only [triD]
        walk_at "v"
        have h7 : t.2.1 * 7 ≠ 0 := by omega
        exact ⟨mul_fits (a := 20) (b := 20) (by omega) (by omega), mul_fits (a := 20) (b := 20) (by omega) (by decide), ⟨h7, log2_fits (a := 20) (by omega) (by omega)⟩, by decide, hK⟩
      · obtain ⟨ps, hps⟩ : ∃ ps : List Int, ps = ts.map fun t : Int × Int × Int => ((0 + (i : Int)) * t.1 + t.2.2 + (0 + (i : Int)).fdiv (t.2.1 * 7)).fmod 25 - 12 := ⟨_, rfl⟩
        have eps : (ts.map fun t : Int × Int × Int => D.int (((0 + (i : Int)) * t.1 + t.2.2 + (0 + (i : Int)).fdiv (t.2.1 * 7)).fmod 25 - 12)) = ps.map .int := by rw [hps, List.map_map]; rfl
        have hpl : ps.length = many := by rw [hps, List.length_map, hj]; omega
        have hpb : ∀ z ∈ ps, -12 ≤ z ∧ z ≤ 12 := fun z hz' => by
          rw [hps] at hz'
          obtain ⟨t, _, rfl⟩ := List.mem_map.mp hz'
          have := fmod_range (i := (0 + (i : Int)) * t.1 + t.2.2 + (0 + (i : Int)).fdiv (t.2.1 * 7)) (j := 25) (by decide)
          omega
        rw [eps]
        have fin : ∀ sg : Int, sg = 1 ∨ sg = -1 → vDPut (.ref q) (tI ps) (.int ((1 + r6 + (0 + (i : Int))) * sg)) (stk G a c w6) fun S3 => D1.nx [some (.ref a), some (.int (Nat.cast many)), some (.ref s), some (.int (0 + (i : Int))), some (.ref q), some (.int (1 + r6)), some (.tup (ps.map .int)), x7, x8, x9, x10] S3 := fun sg hsg => by
          rw [vDPut_tI]
          have tn := tk.n
          refine ⟨dD L, stk_at apG hG, by rw [dD_length]; omega, ?_⟩
          rw [puD_dD]
          obtain ⟨G4, e4, ap4, h4, n4, l4⟩ := upo (w := w6) apG hG (.dI (dD (puL L ps ((1 + r6 + (0 + (i : Int))) * sg))))
          rw [e4]
          refine hnx _ _ _ _ ⟨_, G4, _, _, _, _, _, _, rfl, rfl, ap4, l4 F hqF lG, h4, by rw [n4 s hqs.symm]; exact hGs, ⟨tk.nd.puL _ _, fun t ht => ?_, ?_, fun t ht => ?_, fun t ht => ?_⟩⟩ (VLe.refl _) (Le.refl _)
          · rcases puL_mem ht with rfl | ht
            · exact hpl
            · exact tk.len t ht
          · have := puL_length L ps ((1 + r6 + (0 + (i : Int))) * sg)
            omega
          · rcases puL_mem ht with rfl | ht
            · exact hpb
            · exact tk.pw t ht
          · rcases puL_mem ht with rfl | ht
            · show (1 + r6 + (0 + (i : Int))) * sg ≠ 0 ∧ -10 ^ 30 ≤ (1 + r6 + (0 + (i : Int))) * sg ∧ (1 + r6 + (0 + (i : Int))) * sg ≤ 10 ^ 30
              rcases hsg with rfl | rfl
              · refine ⟨by omega, by omega, by omega⟩
              · refine ⟨by omega, by omega, by omega⟩
            · exact tk.nz t ht
        exact co_to (by omega) fun sg hsg => fin sg hsg
    · rintro τ S' ⟨L, G, x3, x6, x7, x8, x9, x10, rfl, rfl, apG, lG, hG, hGs, tk⟩
      rw [intsD_len] at tk
      simp only [rd_l_long_k1_eq]
      walk_at "v"
      exact ⟨_, stk_mono (le_put lG hG), h q w6 L hqF hqa hqc tk (wk6.mono (by omega))⟩
theorem ok_l_long {P : Program} {w : World} {K : PySem.W.Frag} {mg : Str → Option Value} {base : Heap} (T : Tp K mg) : FnOk P w K mg base CX0 3 T.a_l_long T.d_l_long ["_law_stock_here", "_law_many"] (lowSp K sp_l_long) :=
  fnV T.F_l_long sc_l_long (fun ds S Q E h => len_l_long h) fun cdv A outer s H E en E0 hr hx =>
    ⟨rd_l_long, vss_cons (vs_setLc (i := 2) (own := [("_law_j", 7)]) (t := (.nm 7)) rfl sc_l_long.nd rfl rfl (sw_true rfl rfl rfl (by decide +kernel)) (vi_rng1 (by rfl) T.z_range (va_cons (ve_var 1) va_nil)) (blkOk_by (N := ["_law_stock_here", "_law_many", "_law_steps", "_law_k", "_law_terms_here", "_law_great", "_law_powers", "_law_j", "_law_a", "_law_b", "_law_c"]) (sc := defScope s_l_long) (by decide +kernel)) ⟨fun _ _ _ _ _ => pg_name (i := 7) sc_l_long.nd rfl (Or.inl rfl), fun _ _ _ _ _ => vts_nil, fun _ _ _ _ _ => ve_tup (va_cons (ve_op op_addAny ov_add ve_int (ve_call (ok_l_pick T) (hr.mono (by decide)) (by rfl) T.g_l_pick T.F_l_pick.kp (bi_l_pick T) (pass0 (X := _)) XE0.no (va_cons (ve_var 0) (va_cons ve_int va_nil)))) (va_cons (ve_op op_addAny ov_add ve_int (ve_call (ok_l_pick T) (hr.mono (by decide)) (by rfl) T.g_l_pick T.F_l_pick.kp (bi_l_pick T) (pass0 (X := _)) XE0.no (va_cons (ve_var 0) (va_cons ve_int va_nil)))) (va_cons (ve_call (ok_l_pick T) (hr.mono (by decide)) (by rfl) T.g_l_pick T.F_l_pick.kp (bi_l_pick T) (pass0 (X := _)) XE0.no (va_cons (ve_var 0) (va_cons ve_int va_nil))) va_nil)))⟩ (by decide)) (vss_cons (vs_par (i := 5) (j := 4) rfl sc_l_long.nd rfl rfl (by decide) rfl rfl (ve_op op_addAny ov_add ve_int (ve_call (ok_l_wide T) (hr.mono (by decide)) (by rfl) T.g_l_wide T.F_l_wide.kp (bi_l_wide T) (pass0 (X := _)) XE0.no (va_cons (ve_var 0) (va_cons (ve_op op_pow ov_int ve_int ve_int) va_nil)))) ve_dnew (by rfl)) (vss_cons (vs_for PassesOwn.never rfl (vi_rng1 (by rfl) T.z_range (va_cons ve_int va_nil)) (vg_name (i := 3) sc_l_long.nd rfl (.inr rfl)) (vss_cons (vs_set (i := 6) sc_l_long.nd rfl (.inl rfl) (ve_callTyL call_tuple_of cl_tuple (by rfl) T.z_tuple (by decide +kernel) (own := [("_law_a", 8), ("_law_b", 9), ("_law_c", 10)]) (t := (.tp [8, 9, 10])) rfl sc_l_long.nd (vi_lst (ve_var 2)) (blkOk_by (N := ["_law_stock_here", "_law_many", "_law_steps", "_law_k", "_law_terms_here", "_law_great", "_law_powers", "_law_j", "_law_a", "_law_b", "_law_c"]) (sc := defScope s_l_long) (by decide +kernel)) ⟨fun _ _ _ _ _ => pg_tup rfl (pgs_cons (pg_name (i := 8) sc_l_long.nd rfl (Or.inl rfl)) (pgs_cons (pg_name (i := 9) sc_l_long.nd rfl (Or.inl rfl)) (pgs_cons (pg_name (i := 10) sc_l_long.nd rfl (Or.inl rfl)) (pgs_nil)))), fun _ _ _ _ _ => vts_nil, fun _ _ _ _ _ => ve_op op_sub ov_int0 (ve_op op_modN ov_int (ve_callTy call_int1 ca_int (by rfl) T.z_int (by decide +kernel) (va_cons (ve_op op_addAny ov_add (ve_op op_addAny ov_add (ve_op op_mulAny ov_mul (ve_var 3) (ve_var 8)) (ve_var 10)) (ve_op op_fdivX ov_int (ve_var 3) (ve_op op_mulAny ov_mul (ve_var 9) ve_int))) va_nil)) ve_int) ve_int⟩ (by decide))) (vss_one (vs_dput (hu_of hr) (ve_var 4) (ve_var 6) (ve_op op_mulAny ov_mul (ve_op op_addAny ov_add (ve_var 5) (ve_var 3)) (ve_op op_sub ov_int0 ve_int (ve_op op_mulAny ov_mul ve_int (ve_callTy call_int1 ca_int (by rfl) T.z_int (by decide +kernel) (va_cons (ve_cmp (op_eqAny hr.units) ov_eq (ve_op op_modN ov_int (ve_var 3) ve_int) ve_int) va_nil))))))))) (vss_one (vs_ret (ve_var 4))))), fun ds S Q h => vc_l_long h⟩
end LW
namespace LW
open PySem PySem.Spec PyProof.Rows L2 VL
local macro_rules | `(tactic| walk_at "v") => `(tactic| simp only [sSeq, sAsg, sFor, sRet, sRetN, sIf, sNext, sDrop, sPar, sAug, VL.sDPut, eVar, eC, eBin, eUn, eCB, eCall, eCallK, eArgs, eTup, eLst, eIf, eNot, eAnd, eOr, eDNew, eDGet2, eSl, oNone, oSome, eRev, eM0, eM, eLc, eLcF, Tg.R, tVal, VL.tNot, VL.tAnd, VL.tOr, VL.tYes, sl, wipeV, VL.gName, VL.gTupN, VL.gSub, gAll, VL.iTup, iLst, iScr, VL.iRng1, VL.iRng2, vAdd_int, vAdd_ib, vAdd_str, vAdd_tup, vAdd_tI, vAdd_ref, VL.vInt, VL.vInt0, vMul_int, vMul_ref, vMul_tup, vNeg, vCmp, vEq_int, vEq_bl, vEq_str, vNe_int, vNe_bl, vNe_str, vLt_int, vIsN_non, vNotN_non, vIsN_int, vNotN_int, vIsN_bl, vNotN_bl, vIsN_str, vNotN_str, vIsN_ref, vNotN_ref, vIsN_tup, vNotN_tup, vIsN_tI, vNotN_tI, vLt_tI, cLen_tI, vDGet_tI, vDPut_tI, vDGet2_tI, cLen_tup, cLen_scr, cLen_str, cLen_ref, cLenD_ref, ci_non_bool, ci_non_int, ci_non_str, ci_non_list, ci_non_tuple, ci_non_dict, ci_bl_bool, ci_bl_int, ci_bl_str, ci_bl_list, ci_bl_tuple, ci_bl_dict, ci_int_bool, ci_int_int, ci_int_str, ci_int_list, ci_int_tuple, ci_int_dict, ci_str_bool, ci_str_int, ci_str_str, ci_str_list, ci_str_tuple, ci_str_dict, ci_tup_bool, ci_tup_int, ci_tup_str, ci_tup_list, ci_tup_tuple, ci_tup_dict, vIn_tI, vIn_int, vDDel_tI, VL.sDDelT, VL.eDc, VL.sLock, VL.eLock, VL.unE, VL.iZip, VL.iZipD, VL.iEnum, VL.iKeyT, VL.eLRg1, VL.eD1, VL.iItemsT, VL.cGcd, eArgs, cList_tI, cInt_int, cInt_bl, cAbs, cMax2_int, cMin2_int, isT, mPop, mAppend, vIx_p0, vIx_p1, vSl_tI, vIx_stk0, vIx_stk1, vIx_stk2, vIx_stk3, vLSet_stk1, vLSet_stk2, vLSet_stk3, stk_a, List.set, startV, List.map_cons, List.map_nil, List.replicate, List.append_eq, List.nil_append, List.cons_append, List.length_cons, List.length_nil, List.length_map, if_true, Bool.false_eq_true, if_false, reduceIte, Bool.not_true, Bool.not_false, true_and, and_true, false_or, or_false, Bool.not_eq_eq_eq_not, decide_eq_true_eq, decide_eq_false_iff_not, reduceCtorEq])
local macro_rules | `(tactic| walk_at "w") => `(tactic| simp only [sSeq, sAsg, sFor, sRet, sRetN, sIf, sNext, sDrop, sPar, sAug, VL.sDPut, eVar, eC, eBin_ap, eUn, eCB, eCall, eCallK, eArgs, eTup, eLst, eIf, eNot, eAnd, eOr, eDNew, eDGet2, eSl, oNone, oSome, eRev, eM0, eM, eLc, eLcF, Tg.R, tVal, VL.tNot, VL.tAnd, VL.tOr, VL.tYes, sl, wipeV, VL.gName, VL.gTupN, VL.gSub, gAll, VL.iTup, iLst, iScr, VL.iRng1, VL.iRng2, vAdd_int, vAdd_ib, vAdd_str, vAdd_tup, vAdd_tI, vAdd_ref, VL.vInt, VL.vInt0, vMul_int, vMul_ref, vMul_tup, vNeg, vCmp, vEq_int, vEq_bl, vEq_str, vNe_int, vNe_bl, vNe_str, vLt_int, vIsN_non, vNotN_non, vIsN_int, vNotN_int, vIsN_bl, vNotN_bl, vIsN_str, vNotN_str, vIsN_ref, vNotN_ref, vIsN_tup, vNotN_tup, vIsN_tI, vNotN_tI, vLt_tI, cLen_tI, vDGet_tI, vDPut_tI, vDGet2_tI, cLen_tup, cLen_scr, cLen_str, cLen_ref, cLenD_ref, ci_non_bool, ci_non_int, ci_non_str, ci_non_list, ci_non_tuple, ci_non_dict, ci_bl_bool, ci_bl_int, ci_bl_str, ci_bl_list, ci_bl_tuple, ci_bl_dict, ci_int_bool, ci_int_int, ci_int_str, ci_int_list, ci_int_tuple, ci_int_dict, ci_str_bool, ci_str_int, ci_str_str, ci_str_list, ci_str_tuple, ci_str_dict, ci_tup_bool, ci_tup_int, ci_tup_str, ci_tup_list, ci_tup_tuple, ci_tup_dict, vIn_tI, vIn_int, vDDel_tI, VL.sDDelT, VL.eDc, VL.sLock, VL.eLock, VL.unE, VL.iZip, VL.iZipD, VL.iEnum, VL.iKeyT, VL.eLRg1, VL.eD1, VL.iItemsT, VL.cGcd, eArgs, cList_tI, cInt_int, cInt_b2, cAbs, cMax2_int, cMin2_int, isT, mPop, mAppend, vIx_p0, vIx_p1, vSl_tI, vIx_stk0, vIx_stk1, vIx_stk2, vIx_stk3, vLSet_stk1, vLSet_stk2, vLSet_stk3, stk_a, List.set, startV, List.map_cons, List.map_nil, List.replicate, List.append_eq, List.nil_append, List.cons_append, List.length_cons, List.length_nil, List.length_map, if_true, Bool.false_eq_true, if_false, reduceIte, Bool.not_true, Bool.not_false, true_and, and_true, false_or, or_false, Bool.not_eq_eq_eq_not, decide_eq_true_eq, decide_eq_false_iff_not, reduceCtorEq])
/-! ### sums that are balanced -/
theorem va_bound {L : List Tr} {B : Nat} (h : ∀ t ∈ L, t.2.natAbs ≤ B) (k : List Int) : (vaL L k).natAbs ≤ B := by
  unfold vaL lkL
  cases q : L.find? fun t => decide (t.1 = k) with
  | none => exact Nat.zero_le _
  | some t => exact h t (List.mem_of_find?_eq_some q)
theorem va_mem {L : List Tr} (nd : Nd L) {t : Tr} (h : t ∈ L) : t.2 = vaL L t.1 := by unfold vaL; rw [lkL_of_mem nd h]; rfl
theorem sc_nd {L : List Tr} (nd : Nd L) (b : Int) : Nd (L.map fun t => (t.1, t.2 * b)) := by
  unfold Nd keys at *
  rw [List.map_map]; exact nd
theorem sc_take {L : List Tr} (nd : Nd L) (b : Int) {i : Nat} {t : Tr} (h : L[i]? = some t) : puL ((L.take i).map fun t => (t.1, t.2 * b)) t.1 (t.2 * b) = (L.take (i + 1)).map fun t => (t.1, t.2 * b) := by
  rw [puL_new, take_snoc h, List.map_append]
  · rfl
  · have := nd_take_new nd h
    unfold keys at this ⊢
    rw [List.map_map]; exact this
structure NumOk (many e : Nat) (ns : List Int) : Prop where
  len : ns.length = many
  ok : ∀ z ∈ ns, z ≠ 0 ∧ z.natAbs ≤ 2 ^ e
structure SumOk (many c : Nat) (L : List Tr) : Prop where
  nd : Nd L
  n : L.length ≤ 1000
  ok : ∀ t ∈ L, t.1.length = many ∧ t.2.natAbs ≤ 2 ^ c ∧ ∀ z ∈ t.1, -12 ≤ z ∧ z ≤ 12
def sp_l_balanced : SpV := fun ds S Q _ => ∃ F a c w n many more, ds = [.ref a, .int (Nat.cast many), .int more] ∧ S = stk F a c w ∧ Ap F a c ∧ Wok w n ∧ n < 9000000 ∧ 1 ≤ many ∧ many ≤ 6 ∧ 0 ≤ more ∧ more ≤ 3 ∧
  ∀ G p L b ns w', Ap G a c → Le F G → G p = some (.dI (dD L)) → SumOk many 3000 L → G b = some (.lst (List.map .int ns)) → NumOk many 100 ns → Wok w' (n + 300) → Q (.tup [.ref p, .ref b]) (stk G a c w')
theorem len_l_balanced {ds S Q E} (h : sp_l_balanced ds S Q E) : ds.length = 3 := by
  obtain ⟨_, _, _, _, _, _, _, rfl, _⟩ := h; rfl
def rd_l_balanced_b1 : RS := sDPut (eVar 5) (eVar 6) (eBin vMul (eBin vDGet (eVar 3) (eVar 6)) (eVar 8))
theorem rd_l_balanced_b1_eq (D0 : En) (τ : VS) (S : Sto) : rd_l_balanced_b1 D0 τ S = (sDPut (eVar 5) (eVar 6) (eBin vMul (eBin vDGet (eVar 3) (eVar 6)) (eVar 8)) : RS) D0 τ S := rfl
def rd_l_balanced_k1 : RS := sRet (eTup [eCall sp_l_plus E0n [eVar 5, eD1 (eCB cTuple [eBin vMul (eLst [eC (.int 0)]) (eVar 1)]) (eBin vSub (eVar 2) (eVar 7))], eVar 4])
theorem rd_l_balanced_k1_eq (D0 : En) (τ : VS) (S : Sto) : rd_l_balanced_k1 D0 τ S = (sRet (eTup [eCall sp_l_plus E0n [eVar 5, eD1 (eCB cTuple [eBin vMul (eLst [eC (.int 0)]) (eVar 1)]) (eBin vSub (eVar 2) (eVar 7))], eVar 4]) : RS) D0 τ S := rfl
def rd_l_balanced : RS := sSeq (sAsg (eCall sp_l_terms E0n [eVar 0, eVar 1, eC (.int 5), eC (.int 1), eC (.int 9)]) (gName 3)) (sSeq (sAsg (eLc (iRng1 [eVar 1]) (Tg.R (.nm 9)) tYes (eBin vMul (eBin vAdd (eC (.int 1)) (eCall sp_l_pick E0n [eVar 0, eC (.int 12)])) (eBin vSub (eC (.int 1)) (eBin vMul (eC (.int 2)) (eCall sp_l_pick E0n [eVar 0, eC (.int 2)])))) [9]) (gName 4)) (sSeq (sAsg (eCall sp_l_worth E0n [eVar 3, eVar 4]) (gTupN 2 [(gName 7), (gName 8)])) (sSeq (sAsg eDNew (gName 5)) (sSeq (sLock (sFor (iKeyT (eVar 3)) (gName 6) rd_l_balanced_b1)) rd_l_balanced_k1))))
theorem rd_l_balanced_eq (D0 : En) (τ : VS) (S : Sto) : rd_l_balanced D0 τ S = (sSeq (sAsg (eCall sp_l_terms E0n [eVar 0, eVar 1, eC (.int 5), eC (.int 1), eC (.int 9)]) (gName 3)) (sSeq (sAsg (eLc (iRng1 [eVar 1]) (Tg.R (.nm 9)) tYes (eBin vMul (eBin vAdd (eC (.int 1)) (eCall sp_l_pick E0n [eVar 0, eC (.int 12)])) (eBin vSub (eC (.int 1)) (eBin vMul (eC (.int 2)) (eCall sp_l_pick E0n [eVar 0, eC (.int 2)])))) [9]) (gName 4)) (sSeq (sAsg (eCall sp_l_worth E0n [eVar 3, eVar 4]) (gTupN 2 [(gName 7), (gName 8)])) (sSeq (sAsg eDNew (gName 5)) (sSeq (sLock (sFor (iKeyT (eVar 3)) (gName 6) rd_l_balanced_b1)) rd_l_balanced_k1)))) : RS) D0 τ S := rfl
theorem vc_l_balanced {ds S Q E} (h : sp_l_balanced ds S Q E) : BodyV N_l_balanced ds S Q rd_l_balanced := by
  obtain ⟨F, a, c, w, n, many, more, rfl, rfl, ap, wk, hn, hm1, hm2, hr1, hr2, h⟩ := h
  rw [BodyV, rd_l_balanced_eq]
  walk_at "w"
  refine ⟨F, a, c, w, n, (many : Int), 5, 1, 9, rfl, rfl, ap, wk, hn, by omega, by omega, by decide, by decide, by decide, by decide, by decide, by decide, fun p w1 L pF pa pc tk wk1 => ?_⟩
  have ap1 : Ap (put F p (.dI (dD L))) a c := ap.nw pa pc
  obtain ⟨G1, e1, l1, h1⟩ := nwS pF (.dI (dD L))
  rw [e1] at ap1 ⊢
  refine ⟨by omega, lc_inv (fun j acc S' => ∃ w ns, S' = stk G1 a c w ∧ Wok w (n + 101 + 2 * j) ∧ acc = List.map D.int ns ∧ List.length ns = j ∧ ∀ z ∈ ns, z ≠ 0 ∧ Int.natAbs z ≤ 2 ^ 4) ⟨w1, [], rfl, wk1.mono (by omega), rfl, rfl, (fun _ h => by cases h)⟩ (fun _ _ _ _ => trivial) ?_ ?_⟩
  · rintro j x acc S' K' hx ⟨w', ns, rfl, wk', rfl, hj, hz⟩ hk
    obtain ⟨hj2, rfl⟩ := intsD_at hx
    walk_at "w"
    refine pick_to ap1 wk' (by omega) (by omega) (by omega) fun r2 w2 r20 r21 wk2 => ?_
    walk_at "w"
    refine pick_to ap1 wk2 (by omega) (by omega) (by omega) fun r3 w3 r30 r31 wk3 => ?_
    walk_at "w"
    refine ⟨mul_fits (a := 20) (b := 20) (by decide) (by omega), mul_fits (a := 20) (b := 20) (by omega) (by omega), ?_⟩
    exact hk _ _ _ (Le.refl _) ⟨w3, ns ++ [(1 + r2) * (1 - 2 * r3)], rfl, wk3.mono (by omega), by rw [List.map_append]; rfl, by rw [List.length_append, hj]; rfl, fun z hz' => by
      rcases List.mem_append.mp hz' with hz' | hz'
      · exact hz z hz'
      · rw [List.mem_singleton.mp hz']
        have h3 : r3 = 0 ∨ r3 = 1 := by omega
        rcases h3 with rfl | rfl
        · exact ⟨by omega, by omega⟩
        · exact ⟨by omega, by omega⟩⟩
  · rintro acc S' ⟨w', ns, rfl, wk', rfl, hns, hz⟩
    rw [intsD_len] at hns wk'
    have hns : ns.length = many := by omega
    have hnn : ∀ z ∈ ns, z.natAbs ≤ 2 ^ 4 := fun z hz' => (hz z hz').2
    intro b hb
    obtain ⟨G2, e2, ap2, l2, h2, hb1, ⟨hba, hbc⟩, _⟩ := nwo ap1 hb (.lst (List.map .int ns))
    simp only [e2]
    have tn := tk.n
    have hmm : (many : Int).toNat = many := by omega
    have htl : ∀ t ∈ L, t.1.length = ns.length := fun t ht => by rw [tk.len t ht, hns, hmm]
    have hpw : ∀ t ∈ L, ∀ z ∈ t.1, -1 ≤ z ∧ z ≤ 1 := tk.pw
    have h2p : G2 p = some (.dI (dD L)) := l2 _ _ h1
    refine ⟨p, L, b, ns, 4, 4, rfl, stk_at ap2 h2p, .inl (stk_at ap2 h2), tk.nd, by omega, by omega, by omega, hz, by omega, by decide, fun t ht => ⟨htl t ht, ?_, fun z hz' => ?_⟩, ?_⟩
    · have := tk.nz t ht; omega
    · have := hpw t ht z hz'; omega
    obtain ⟨tp, htp⟩ : ∃ tp, tp = (lowF (wsum ns (lo12 ns.length) L) (wt ns (lo12 ns.length) (zrs ns.length))).1 := ⟨_, rfl⟩
    obtain ⟨bt, hbt⟩ : ∃ bt, bt = (lowF (wsum ns (lo12 ns.length) L) (wt ns (lo12 ns.length) (zrs ns.length))).2 := ⟨_, rfl⟩
    rw [← htp, ← hbt]
    have wz : wt ns (lo12 ns.length) (zrs ns.length) ≠ 0 := wt_nz fun n hnn => (hz n hnn).1
    have dz : ∀ i : Nat, (zrs ns.length).getD i 0 - (lo12 ns.length).getD i 0 ≤ (12 : Nat) := fun i => by
      unfold zrs lo12
      rcases Nat.lt_or_ge i ns.length with hi | hi
      · rw [rep_at hi, rep_at hi]; decide
      · rw [rep_off hi, rep_off hi]; decide
    have hbt2 : bt.natAbs ≤ 2 ^ 1000 := by
      rw [hbt]
      exact Nat.le_trans (lowF_snd wz).2 (abs_up (wt_bound hnn dz) (by rw [hns]; omega))
    have htp2 : tp.natAbs ≤ 2 ^ 2000 := by
      rw [htp]
      refine Nat.le_trans (lowF_fst wz) (abs_up (wsum_bound (c := 4) (e := 4) (d := 24) (k := 3) hnn (fun t ht => ⟨?_, fun i => ?_⟩) (by omega)) (by rw [hns]; omega))
      · have := tk.nz t ht; omega
      · unfold lo12
        rcases Nat.lt_or_ge i ns.length with hi | hi
        · have e1 : t.1[i]? = some (t.1[i]'(by rw [htl t ht]; exact hi)) := List.getElem?_eq_getElem _
          have := hpw t ht _ (List.getElem_mem (by rw [htl t ht]; exact hi))
          rw [rep_at hi, getD_of e1]; omega
        · rw [rep_off hi, off_getD (by rw [htl t ht]; exact hi)]; decide
    clear htp hbt
    walk_at "w"
    intro r hr
    obtain ⟨G3, e3, ap3, l3, h3, hr1', ⟨hra, hrc⟩, _⟩ := nwo ap2 hr (.dI [])
    simp only [e3]
    have h3p := l3 _ _ h2p
    have hrp : p ≠ r := fun z => by rw [z, hr1'] at h2p; cases h2p
    refine ⟨p, dD L, stk_at ap3 h3p, fun l => ?_⟩
    refine ⟨dD L, l, put_same, fun kv hkv => ?_, ?_⟩
    · obtain ⟨t, ht, rfl⟩ := List.mem_map.mp hkv
      have := htl t ht
      show t.1.length ≤ _; omega
    rw [dD_tI, stk_put ap3 h3p]
    refine for_inv (fun i τ S' => ∃ G x6, τ = [some (.ref a), some (.int (Nat.cast many)), some (.int more), some (.ref p), some (.ref b), some (.ref r), x6, some (.int tp), some (.int bt), none] ∧ S' = stk (put G p (.fD (dD L) l)) a c w' ∧ Ap G a c ∧ Le G2 G ∧ G r = some (.dI (dD ((L.take i).map fun t => (t.1, t.2 * bt)))))
      ⟨G3, none, rfl, rfl, ap3, l3, h3⟩ (fun i τ S' h => by
        obtain ⟨G, _, _, rfl, apG, lG, _⟩ := h
        exact stk_at (apG.upd (lG _ _ h2p)) put_same) ?_ ?_
    · rintro i x τ S' D1 hx ⟨G, x6, rfl, rfl, apG, lG, hGr⟩ hrt hbk hnx hct
      obtain ⟨t, ht, rfl⟩ := map_at hx
      have htm := List.mem_of_getElem? ht
      have hi := (List.getElem?_eq_some_iff.mp ht).1
      have hGp := lG _ _ h2p
      have apL := apG.upd (u := .fD (dD L) l) hGp
      have hrL : put G p (.fD (dD L) l) r = some (.dI (dD ((L.take i).map fun t => (t.1, t.2 * bt)))) := by rw [put_ne hrp.symm]; exact hGr
      simp only [rd_l_balanced_b1_eq]
      walk_at "w"
      refine ⟨dD L, _, .inr ⟨l, stk_at apL put_same⟩, by rw [lkD_dD, lkL_of_mem tk.nd htm]; rfl, ?_⟩
      walk_at "w"
      have htc : t.2.natAbs ≤ 2 ^ 4 := by have := tk.nz t htm; omega
      refine ⟨fits_le htc hbt2 (by decide), ?_⟩
      refine ⟨_, stk_at apL hrL, by rw [dD_length, List.length_map, List.length_take]; omega, ?_⟩
      rw [puD_dD, sc_take tk.nd bt ht, stk_put apL hrL, put_comm hrp]
      obtain ⟨G', eG', hG'1, hG'2, hG'3⟩ := upS hGr (.dI (dD ((L.take (i + 1)).map fun t => (t.1, t.2 * bt))))
      rw [eG']
      exact hnx _ _ _ _ ⟨G', _, rfl, rfl, by rw [← eG']; exact apG.upd hGr, hG'3 G2 hr1' lG, hG'1⟩ (VLe.refl _) (Le.refl _)
    · rintro τ S' ⟨G, x6, rfl, rfl, apG, lG, hGr⟩
      rw [List.length_map, List.take_length] at hGr
      have hGp := lG _ _ h2p
      have apL := apG.upd (u := .fD (dD L) l) hGp
      refine ⟨stk_at apL put_same, ?_⟩
      rw [stk_put apL put_same, put_put, put_self hGp]
      simp only [rd_l_balanced_k1_eq]
      walk_at "w"
      intro u hu
      obtain ⟨G4, e4, ap4, l4, h4, _⟩ := nwo apG hu (.lst [.int 0])
      simp only [e4]
      refine ⟨_, stk_at ap4 h4, ⟨by omega, by omega, by simp; omega⟩, fun u1 hu1 => ?_⟩
      have ez : (List.replicate (Nat.cast many : Int).toNat [D.int 0]).flatten = List.map .int (List.replicate many 0) := by
        rw [hmm, List.map_replicate]; simp
      simp only [ez]
      obtain ⟨G5, e5, ap5, l5, h5, _⟩ := nwo ap4 hu1 (.lst (List.map .int (List.replicate many 0)))
      simp only [e5]
      refine ⟨_, .inl (stk_at ap5 h5), ?_⟩
      refine ⟨List.replicate many 0, rfl, fun v hv => ?_⟩
      obtain ⟨G6, e6, ap6, l6, h6, _⟩ := nwo ap5 hv (.dI [(List.replicate many 0, .int (more - tp))])
      simp only [e6]
      have l46 := l4.trans (l5.trans l6)
      have ndM : Nd [((List.replicate many (0 : Int), more - tp) : Tr)] := by unfold Nd keys; simp
      have hm3 : (more - tp).natAbs ≤ 2 ^ 2001 := by
        have h1 : more.natAbs ≤ 2 ^ 2000 := abs_up (m := 2) (by omega) (by decide)
        have h2 := Int.natAbs_sub_le more tp
        have h3 : 2 ^ 2001 = 2 ^ 2000 * 2 := Nat.pow_succ ..
        generalize 2 ^ 2000 = Z at *
        omega
      refine ⟨r, v, _, [(List.replicate many 0, more - tp)], many, rfl, stk_at ap6 (l46 _ _ hGr), stk_at ap6 h6, sc_nd tk.nd bt, ndM, by rw [List.length_map]; simp; omega, by omega, fun t ht => ?_, fun t ht => ?_, fun z R hz0 ndR hRl hRk hRv hRm => ?_⟩
      · obtain ⟨s, hs, rfl⟩ := List.mem_map.mp ht
        show s.1.length = many
        rw [htl s hs, hns]
      · rw [List.mem_singleton.mp ht]; simp
      · obtain ⟨G7, e7, ap7, l7, h7, _⟩ := nwo ap6 hz0 (.dI (dD R))
        rw [e7]
        refine ⟨_, Le.refl _, h G7 z R b ns w' ap7 ?_ h7 ⟨ndR, ?_, fun t ht => ⟨hRk t ht, ?_, ?_⟩⟩ ?_ ⟨hns, fun z hz' => ⟨(hz z hz').1, abs_up (hz z hz').2 (by decide)⟩⟩ (wk'.mono (by omega))⟩
        · exact l1.trans (l2.trans (lG.trans (l46.trans l7)))
        · refine Nat.le_trans hRl ?_
          rw [List.length_map]; simp; omega
        · rw [va_mem ndR ht, hRv]
          have b1 : (vaL (L.map fun t => (t.1, t.2 * bt)) t.1).natAbs ≤ 2 ^ 2001 := va_bound (fun s hs => by
            obtain ⟨q, hq, rfl⟩ := List.mem_map.mp hs
            have hqc : q.2.natAbs ≤ 2 ^ 4 := by have := tk.nz q hq; omega
            exact abs_up (abs_mul_le hqc hbt2) (by decide)) _
          have b2 : (vaL [((List.replicate many (0 : Int), more - tp) : Tr)] t.1).natAbs ≤ 2 ^ 2001 := va_bound (fun s hs => by rw [List.mem_singleton.mp hs]; exact hm3) _
          have h2 := Int.natAbs_add_le (vaL (L.map fun t => (t.1, t.2 * bt)) t.1) (vaL [((List.replicate many (0 : Int), more - tp) : Tr)] t.1)
          have h3 : 2 ^ 2002 = 2 ^ 2001 * 2 := Nat.pow_succ ..
          have h4 : (2 : Nat) ^ 2002 ≤ 2 ^ 3000 := Nat.pow_le_pow_right (by decide) (by decide)
          generalize 2 ^ 2001 = Z at *
          generalize 2 ^ 2002 = Y at *
          generalize 2 ^ 3000 = X at *
          omega
        · rcases hRm t ht with hk | hk
          · obtain ⟨s, hs, e⟩ := List.mem_map.mp hk
            obtain ⟨q, hq, rfl⟩ := List.mem_map.mp hs
            have e : q.1 = t.1 := e
            rw [← e]
            intro z hz'
            have := hpw q hq z hz'
            omega
          · have : t.1 = List.replicate many 0 := by simpa [keys] using hk
            rw [this]
            intro z hz'
            rw [List.eq_of_mem_replicate hz']; decide
        · exact l7 _ _ (l46 _ _ (lG _ _ h2))
theorem ok_l_balanced {P : Program} {w : World} {K : PySem.W.Frag} {mg : Str → Option Value} {base : Heap} (T : Tp K mg) : FnOk P w K mg base CX0 4 T.a_l_balanced T.d_l_balanced ["_law_stock_here", "_law_many", "_law_more"] (lowSp K sp_l_balanced) :=
  fnV T.F_l_balanced sc_l_balanced (fun ds S Q E h => len_l_balanced h) fun cdv A outer s H E en E0 hr hx =>
    ⟨rd_l_balanced, vss_cons (vs_set (i := 3) sc_l_balanced.nd rfl (.inl rfl) (ve_call (ok_l_terms T) (hr.mono (by decide)) (by rfl) T.g_l_terms T.F_l_terms.kp (bi_l_terms T) (pass0 (X := _)) XE0.no (va_cons (ve_var 0) (va_cons (ve_var 1) (va_cons ve_int (va_cons ve_int (va_cons ve_int va_nil))))))) (vss_cons (vs_setLc (i := 4) (own := [("_law_j", 9)]) (t := (.nm 9)) rfl sc_l_balanced.nd rfl rfl (sw_true rfl rfl rfl (by decide +kernel)) (vi_rng1 (by rfl) T.z_range (va_cons (ve_var 1) va_nil)) (blkOk_by (N := ["_law_stock_here", "_law_many", "_law_more", "_law_terms_here", "_law_numbers_here", "_law_result", "_law_powers", "_law_top", "_law_bottom", "_law_j"]) (sc := defScope s_l_balanced) (by decide +kernel)) ⟨fun _ _ _ _ _ => pg_name (i := 9) sc_l_balanced.nd rfl (Or.inl rfl), fun _ _ _ _ _ => vts_nil, fun _ _ _ _ _ => ve_op op_mulAny ov_mul (ve_op op_addAny ov_add ve_int (ve_call (ok_l_pick T) (hr.mono (by decide)) (by rfl) T.g_l_pick T.F_l_pick.kp (bi_l_pick T) (pass0 (X := _)) XE0.no (va_cons (ve_var 0) (va_cons ve_int va_nil)))) (ve_op op_sub ov_int0 ve_int (ve_op op_mulAny ov_mul ve_int (ve_call (ok_l_pick T) (hr.mono (by decide)) (by rfl) T.g_l_pick T.F_l_pick.kp (bi_l_pick T) (pass0 (X := _)) XE0.no (va_cons (ve_var 0) (va_cons ve_int va_nil)))))⟩ (by decide)) (vss_cons (vs_asg (ve_call (ok_l_worth T) (hr.mono (by decide)) (by rfl) T.g_l_worth T.F_l_worth.kp (bi_l_worth T) (pass0 (X := _)) XE0.no (va_cons (ve_var 3) (va_cons (ve_var 4) va_nil))) (vg_tup rfl (vgs_cons (vg_name (i := 7) sc_l_balanced.nd rfl (.inl rfl)) (vgs_cons (vg_name (i := 8) sc_l_balanced.nd rfl (.inl rfl)) (vgs_nil))))) (vss_cons (vs_set (i := 5) sc_l_balanced.nd rfl (.inl rfl) ve_dnew) (vss_cons (vs_lock (vs_for PassesOwn.never rfl (vi_keyT (ve_var 3)) (vg_name (i := 6) sc_l_balanced.nd rfl (.inl rfl)) (vss_one (vs_dput (hu_of hr) (ve_var 5) (ve_var 6) (ve_op op_mulAny ov_mul (ve_dget (hu_of hr) (ve_var 3) (ve_var 6)) (ve_var 8)))))) (vss_one (vs_ret (ve_tup (va_cons (ve_call (ok_l_plus T) (hr.mono (by decide)) (by rfl) T.g_l_plus T.F_l_plus.kp (bi_l_plus T) (pass0 (X := _)) XE0.no (va_cons (ve_var 5) (va_cons (ve_d1 hr.units0 (ve_callTy call_tuple_of ca_tuple (by rfl) T.z_tuple (by decide +kernel) (va_cons (ve_op op_mulAny ov_mul (ve_lst (va_cons ve_int va_nil)) (ve_var 1)) va_nil)) (ve_op op_sub ov_int0 (ve_var 2) (ve_var 7))) va_nil))) (va_cons (ve_var 4) va_nil))))))))), fun ds S Q h => vc_l_balanced h⟩
end LW
namespace LW
open PySem PySem.Spec PyProof.Rows L2 VL
local macro_rules | `(tactic| walk_at "v") => `(tactic| simp only [sSeq, sAsg, sFor, sRet, sRetN, sIf, sNext, sDrop, sPar, sAug, VL.sDPut, eVar, eC, eBin, eUn, eCB, eCall, eCallK, eArgs, eTup, eLst, eIf, eNot, eAnd, eOr, eDNew, eDGet2, eSl, oNone, oSome, eRev, eM0, eM, eLc, eLcF, Tg.R, tVal, VL.tNot, VL.tAnd, VL.tOr, VL.tYes, sl, wipeV, VL.gName, VL.gTupN, VL.gSub, gAll, VL.iTup, iLst, iScr, VL.iRng1, VL.iRng2, vAdd_int, vAdd_ib, vAdd_str, vAdd_tup, vAdd_tI, vAdd_ref, VL.vInt, VL.vInt0, vMul_int, vMul_ref, vMul_tup, vNeg, vCmp, vEq_int, vEq_bl, vEq_str, vNe_int, vNe_bl, vNe_str, vLt_int, vIsN_non, vNotN_non, vIsN_int, vNotN_int, vIsN_bl, vNotN_bl, vIsN_str, vNotN_str, vIsN_ref, vNotN_ref, vIsN_tup, vNotN_tup, vIsN_tI, vNotN_tI, vLt_tI, cLen_tI, vDGet_tI, vDPut_tI, vDGet2_tI, cLen_tup, cLen_scr, cLen_str, cLen_ref, cLenD_ref, ci_non_bool, ci_non_int, ci_non_str, ci_non_list, ci_non_tuple, ci_non_dict, ci_bl_bool, ci_bl_int, ci_bl_str, ci_bl_list, ci_bl_tuple, ci_bl_dict, ci_int_bool, ci_int_int, ci_int_str, ci_int_list, ci_int_tuple, ci_int_dict, ci_str_bool, ci_str_int, ci_str_str, ci_str_list, ci_str_tuple, ci_str_dict, ci_tup_bool, ci_tup_int, ci_tup_str, ci_tup_list, ci_tup_tuple, ci_tup_dict, vIn_tI, vIn_int, vDDel_tI, VL.sDDelT, VL.eDc, VL.sLock, VL.eLock, VL.unE, VL.iZip, VL.iZipD, VL.iEnum, VL.iKeyT, VL.eLRg1, VL.eD1, VL.iItemsT, VL.cGcd, eArgs, cList_tI, cInt_int, cInt_bl, cAbs, cMax2_int, cMin2_int, isT, mPop, mAppend, vIx_p0, vIx_p1, vSl_tI, vIx_stk0, vIx_stk1, vIx_stk2, vIx_stk3, vLSet_stk1, vLSet_stk2, vLSet_stk3, stk_a, List.set, startV, List.map_cons, List.map_nil, List.replicate, List.append_eq, List.nil_append, List.cons_append, List.length_cons, List.length_nil, List.length_map, if_true, Bool.false_eq_true, if_false, reduceIte, Bool.not_true, Bool.not_false, true_and, and_true, false_or, or_false, Bool.not_eq_eq_eq_not, decide_eq_true_eq, decide_eq_false_iff_not, reduceCtorEq])
local macro_rules | `(tactic| walk_at "w") => `(tactic| simp only [sSeq, sAsg, sFor, sRet, sRetN, sIf, sNext, sDrop, sPar, sAug, VL.sDPut, eVar, eC, eBin_ap, eUn, eCB, eCall, eCallK, eArgs, eTup, eLst, eIf, eNot, eAnd, eOr, eDNew, eDGet2, eSl, oNone, oSome, eRev, eM0, eM, eLc, eLcF, Tg.R, tVal, VL.tNot, VL.tAnd, VL.tOr, VL.tYes, sl, wipeV, VL.gName, VL.gTupN, VL.gSub, gAll, VL.iTup, iLst, iScr, VL.iRng1, VL.iRng2, vAdd_int, vAdd_ib, vAdd_str, vAdd_tup, vAdd_tI, vAdd_ref, VL.vInt, VL.vInt0, vMul_int, vMul_ref, vMul_tup, vNeg, vCmp, vEq_int, vEq_bl, vEq_str, vNe_int, vNe_bl, vNe_str, vLt_int, vIsN_non, vNotN_non, vIsN_int, vNotN_int, vIsN_bl, vNotN_bl, vIsN_str, vNotN_str, vIsN_ref, vNotN_ref, vIsN_tup, vNotN_tup, vIsN_tI, vNotN_tI, vLt_tI, cLen_tI, vDGet_tI, vDPut_tI, vDGet2_tI, cLen_tup, cLen_scr, cLen_str, cLen_ref, cLenD_ref, ci_non_bool, ci_non_int, ci_non_str, ci_non_list, ci_non_tuple, ci_non_dict, ci_bl_bool, ci_bl_int, ci_bl_str, ci_bl_list, ci_bl_tuple, ci_bl_dict, ci_int_bool, ci_int_int, ci_int_str, ci_int_list, ci_int_tuple, ci_int_dict, ci_str_bool, ci_str_int, ci_str_str, ci_str_list, ci_str_tuple, ci_str_dict, ci_tup_bool, ci_tup_int, ci_tup_str, ci_tup_list, ci_tup_tuple, ci_tup_dict, vIn_tI, vIn_int, vDDel_tI, VL.sDDelT, VL.eDc, VL.sLock, VL.eLock, VL.unE, VL.iZip, VL.iZipD, VL.iEnum, VL.iKeyT, VL.eLRg1, VL.eD1, VL.iItemsT, VL.cGcd, eArgs, cList_tI, cInt_int, cInt_b2, cAbs, cMax2_int, cMin2_int, isT, mPop, mAppend, vIx_p0, vIx_p1, vSl_tI, vIx_stk0, vIx_stk1, vIx_stk2, vIx_stk3, vLSet_stk1, vLSet_stk2, vLSet_stk3, stk_a, List.set, startV, List.map_cons, List.map_nil, List.replicate, List.append_eq, List.nil_append, List.cons_append, List.length_cons, List.length_nil, List.length_map, if_true, Bool.false_eq_true, if_false, reduceIte, Bool.not_true, Bool.not_false, true_and, and_true, false_or, or_false, Bool.not_eq_eq_eq_not, decide_eq_true_eq, decide_eq_false_iff_not, reduceCtorEq])
/-! ### is it told, the law -/
def sp_l_is_told : SpV := fun ds S Q _ => ∃ p L b ns many, ds = [.ref p, .ref b] ∧ S p = some (.dI (dD L)) ∧ S b = some (.lst (List.map .int ns)) ∧ SumOk many 3000 L ∧ NumOk many 100 ns ∧ 1 ≤ many ∧ many ≤ 6 ∧ Q (.bl true) S
theorem len_l_is_told {ds S Q E} (h : sp_l_is_told ds S Q E) : ds.length = 2 := by
  obtain ⟨_, _, _, _, _, rfl, _⟩ := h; rfl
def rd_l_is_told_k1 : RS := sRet (eBin vEq (eVar 4) (eVar 1))
theorem rd_l_is_told_k1_eq (D0 : En) (τ : VS) (S : Sto) : rd_l_is_told_k1 D0 τ S = (sRet (eBin vEq (eVar 4) (eVar 1)) : RS) D0 τ S := rfl
def rd_l_is_told_k2 : RS := sSeq (sIf (tOr (tNot (tVal (eCall (sp_l_same 5) E0n [eCall sp_value E0n [eVar 3, eVar 4], eVar 2]))) (tNot (tVal (eCall (sp_l_same 5) E0n [eCallK sp_value (kwg 0 2 [1, 0]) E0n [] [eVar 4, eVar 3], eVar 2])))) (sRet (eC (.bl false))) sNext) rd_l_is_told_k1
theorem rd_l_is_told_k2_eq (D0 : En) (τ : VS) (S : Sto) : rd_l_is_told_k2 D0 τ S = (sSeq (sIf (tOr (tNot (tVal (eCall (sp_l_same 5) E0n [eCall sp_value E0n [eVar 3, eVar 4], eVar 2]))) (tNot (tVal (eCall (sp_l_same 5) E0n [eCallK sp_value (kwg 0 2 [1, 0]) E0n [] [eVar 4, eVar 3], eVar 2])))) (sRet (eC (.bl false))) sNext) rd_l_is_told_k1 : RS) D0 τ S := rfl
def rd_l_is_told : RS := sSeq (sPar 3 4 (eCall sp_l_written E0n [eVar 0]) (eCB cList [eVar 1])) (sSeq (sAsg (eCall sp_l_worth E0n [eVar 0, eVar 1]) (gName 2)) (sSeq (sIf (tVal (eBin vEq (eVar 3) (eTup []))) (sAsg (eTup [eC (.int 0), eC (.int 1)]) (gName 2)) sNext) rd_l_is_told_k2))
theorem rd_l_is_told_eq (D0 : En) (τ : VS) (S : Sto) : rd_l_is_told D0 τ S = (sSeq (sPar 3 4 (eCall sp_l_written E0n [eVar 0]) (eCB cList [eVar 1])) (sSeq (sAsg (eCall sp_l_worth E0n [eVar 0, eVar 1]) (gName 2)) (sSeq (sIf (tVal (eBin vEq (eVar 3) (eTup []))) (sAsg (eTup [eC (.int 0), eC (.int 1)]) (gName 2)) sNext) rd_l_is_told_k2)) : RS) D0 τ S := rfl
theorem vc_l_is_told {ds S Q E} (h : sp_l_is_told ds S Q E) : BodyV N_l_is_told ds S Q rd_l_is_told := by
  obtain ⟨p, L, b, ns, many, rfl, hp, hb, sk, nk, hm1, hm2, h⟩ := h
  have hln := sk.n
  have hnl := nk.len
  have hfm : Fm ns.length (wrL L) := wrL_fm sk.nd fun t ht => by rw [(sk.ok t ht).1, hnl]
  have hwl := wr_length L
  have hwt : ∀ t ∈ wrL L, t.2.natAbs ≤ 2 ^ 3000 ∧ ∀ z ∈ t.1, -12 ≤ z ∧ z ≤ 12 := fun t ht => (sk.ok t (wr_at sk.nd ht).1).2
  rw [BodyV, rd_l_is_told_eq]
  walk_at "w"
  refine ⟨p, L, rfl, hp, by omega, fun t ht => ?_, ?_⟩
  · have := (sk.ok t ht).1
    refine ⟨fun z => ?_, by omega⟩
    rw [z] at this; simp only [List.length_nil] at this; omega
  refine ⟨_, .inl hb, fun g hg => ?_⟩
  obtain ⟨G1, e1, l1, h1⟩ := nwS hg (.lst (List.map .int ns))
  simp only [e1]
  refine ⟨p, L, b, ns, 100, 3000, rfl, l1 _ _ hp, .inl (l1 _ _ hb), sk.nd, by omega, by omega, by omega, nk.ok, by omega, by decide, fun t ht => ⟨by rw [(sk.ok t ht).1, hnl], (sk.ok t ht).2⟩, ?_⟩
  obtain ⟨v, hv⟩ : ∃ v, v = valR ns (wrL L) := ⟨_, rfl⟩
  have rest : ∀ D0 : En, D0.rt = (fun d S' => ∃ S'', Le S'' S' ∧ Q d S'') → rd_l_is_told_k2 D0 [some (.ref p), some (.ref b), some (.tup [.int v.1, .int v.2]), some (sumD (wrL L)), some (.ref g)] G1 := fun D0 hD => by
    have fl : Flat 5 (.tup [.int v.1, .int v.2]) := (flat_tI [v.1, v.2]).mono (by decide)
    simp only [rd_l_is_told_k2_eq]
    walk_at "w"
    refine ⟨wrL L, g, ns, 100, 3000, rfl, .inl h1, by omega, by omega, hfm, by omega, nk.ok, by omega, by decide, hwt, ?_⟩
    rw [← hv]
    refine ⟨_, _, rfl, fl.sm _, ?_⟩
    walk_at "w"
    refine ⟨wrL L, g, ns, 100, 3000, rfl, .inl h1, by omega, by omega, hfm, by omega, nk.ok, by omega, by decide, hwt, ?_⟩
    rw [← hv]
    refine ⟨_, _, rfl, fl.sm _, ?_⟩
    walk_at "w"
    simp only [rd_l_is_told_k1_eq]
    walk_at "w"
    rw [hD]
    refine vEq_refs repInt (xs := ns) (ys := ns) (.inl h1) (.inl (l1 _ _ hb)) (by decide) ?_
    simp only [decide_true]
    exact ⟨S, l1, h⟩
  refine vEq_tups repTerm (xs := wrL L) (ys := []) (by decide) ?_
  by_cases e0 : wrL L = []
  · rw [decide_eq_true e0]
    walk_at "w"
    have : v = (0, 1) := by rw [hv]; unfold valR; rw [if_pos e0]
    rw [this] at rest
    exact rest _ rfl
  · rw [decide_eq_false e0]
    walk_at "w"
    have : v = lowF (wsum ns (lo12 ns.length) L) (wt ns (lo12 ns.length) (zrs ns.length)) := by rw [hv]; unfold valR; rw [if_neg e0, wsum_wr sk.nd]
    rw [← this]
    exact rest _ rfl
theorem ok_l_is_told {P : Program} {w : World} {K : PySem.W.Frag} {mg : Str → Option Value} {base : Heap} (T : Tp K mg) : FnOk P w K mg base CX0 7 T.a_l_is_told T.d_l_is_told ["_law_terms_here", "_law_numbers_here"] (lowSp K sp_l_is_told) :=
  fnV T.F_l_is_told sc_l_is_told (fun ds S Q E h => len_l_is_told h) fun cdv A outer s H E en E0 hr hx =>
    ⟨rd_l_is_told, vss_cons (vs_par (i := 3) (j := 4) rfl sc_l_is_told.nd rfl rfl (by decide) rfl rfl (ve_call (ok_l_written T) (hr.mono (by decide)) (by rfl) T.g_l_written T.F_l_written.kp (bi_l_written T) (pass0 (X := _)) XE0.no (va_cons (ve_var 0) va_nil)) (ve_callTy call_list_of ca_list (by rfl) T.z_list (by decide +kernel) (va_cons (ve_var 1) va_nil)) (by rfl)) (vss_cons (vs_set (i := 2) sc_l_is_told.nd rfl (.inl rfl) (ve_call (ok_l_worth T) (hr.mono (by decide)) (by rfl) T.g_l_worth T.F_l_worth.kp (bi_l_worth T) (pass0 (X := _)) XE0.no (va_cons (ve_var 0) (va_cons (ve_var 1) va_nil)))) (vss_cons (vs_if (vt_cmp (op_eqAny hr.units) ov_eq (ve_var 3) (ve_tup va_nil)) (vss_one (vs_set (i := 2) sc_l_is_told.nd rfl (.inl rfl) (ve_tup (va_cons ve_int (va_cons ve_int va_nil))))) vss_nil) (vss_cons (vs_if (vt_bool (vw_or (vt_not (vt_val (ve_call (ok_l_same_5 T) (hr.mono (by decide)) (by rfl) T.g_l_same T.F_l_same.kp (bi_l_same T) (pass0 (X := _)) XE0.no (va_cons (ve_call (ok_value T) (hr.mono (by decide)) (by rfl) T.g_value T.F_value.kp (bi_value T) (pass0 (X := _)) XE0.no (va_cons (ve_var 3) (va_cons (ve_var 4) va_nil))) (va_cons (ve_var 2) va_nil))))) (vw_or1 (vt_not (vt_val (ve_call (ok_l_same_5 T) (hr.mono (by decide)) (by rfl) T.g_l_same T.F_l_same.kp (bi_l_same T) (pass0 (X := _)) XE0.no (va_cons (ve_callKw0 (g := (kwg 0 2 [1, 0])) (ok_value T) (hr.mono (by decide)) (by rfl) T.g_value T.F_value.kp (kw_value_0_numbers_one T) (pass0 (X := _)) XE0.no (vk_cons (ve_var 4) (vk_cons (ve_var 3) vk_nil))) (va_cons (ve_var 2) va_nil)))))))) (vss_one (vs_ret ve_bl)) vss_nil) (vss_one (vs_ret (ve_cmp (op_eqAny hr.units) ov_eq (ve_var 4) (ve_var 1))))))), fun ds S Q h => vc_l_is_told h⟩
theorem tk_sum {many : Nat} {most span great : Int} {L : List Tr} (tk : TermsOk many most span great L) (h1 : most ≤ 1000) (h2 : span ≤ 12) (h3 : great < 2 ^ 200) : SumOk many 3000 L := by
  refine ⟨tk.nd, by have := tk.n; omega, fun t ht => ⟨tk.len t ht, abs_up (m := 200) (by have := tk.nz t ht; omega) (by decide), fun z hz => by have := tk.pw t ht z hz; omega⟩⟩
abbrev sp_law := spLawV
def rd_law_b1 : RS := sIf (tNot (tVal (eCall sp_l_is_told E0n [eVar 8, eVar 4]))) (sRet (eC (.bl false))) sNext
theorem rd_law_b1_eq (D0 : En) (τ : VS) (S : Sto) : rd_law_b1 D0 τ S = (sIf (tNot (tVal (eCall sp_l_is_told E0n [eVar 8, eVar 4]))) (sRet (eC (.bl false))) sNext : RS) D0 τ S := rfl
def rd_law_k1 : RS := sFor (iLst (eLst [eVar 9, eLc (iLst (eVar 9)) (Tg.R (.nm 11)) tYes (eBin vSub (eC (.int 0)) (eVar 11)) [11], eRev (eVar 9)])) (gName 4) rd_law_b1
theorem rd_law_k1_eq (D0 : En) (τ : VS) (S : Sto) : rd_law_k1 D0 τ S = (sFor (iLst (eLst [eVar 9, eLc (iLst (eVar 9)) (Tg.R (.nm 11)) tYes (eBin vSub (eC (.int 0)) (eVar 11)) [11], eRev (eVar 9)])) (gName 4) rd_law_b1 : RS) D0 τ S := rfl
def rd_law_k2 : RS := sSeq (sIf (tVal (eBin vEq (eVar 5) (eC (.int 2)))) (sAsg (eCall sp_l_balanced E0n [eVar 1, eVar 3, eCall sp_l_pick E0n [eVar 1, eC (.int 3)]]) (gTupN 2 [(gName 8), (gName 9)])) sNext) rd_law_k1
theorem rd_law_k2_eq (D0 : En) (τ : VS) (S : Sto) : rd_law_k2 D0 τ S = (sSeq (sIf (tVal (eBin vEq (eVar 5) (eC (.int 2)))) (sAsg (eCall sp_l_balanced E0n [eVar 1, eVar 3, eCall sp_l_pick E0n [eVar 1, eC (.int 3)]]) (gTupN 2 [(gName 8), (gName 9)])) sNext) rd_law_k1 : RS) D0 τ S := rfl
def rd_law_k3 : RS := sSeq (sIf (tVal (eBin vEq (eVar 5) (eC (.int 1)))) (sAsg (eBin vMul (eLst [eBin vIx (eVar 9) (eC (.int 0))]) (eVar 3)) (gName 9)) sNext) rd_law_k2
theorem rd_law_k3_eq (D0 : En) (τ : VS) (S : Sto) : rd_law_k3 D0 τ S = (sSeq (sIf (tVal (eBin vEq (eVar 5) (eC (.int 1)))) (sAsg (eBin vMul (eLst [eBin vIx (eVar 9) (eC (.int 0))]) (eVar 3)) (gName 9)) sNext) rd_law_k2 : RS) D0 τ S := rfl
def rd_law_b2 : RS := sSeq (sPar 3 5 (eBin vAdd (eC (.int 1)) (eCall sp_l_pick E0n [eVar 1, eC (.int 5)])) (eCall sp_l_pick E0n [eVar 1, eC (.int 6)])) (sSeq (sPar 6 7 (eBin vIx (eLst [eC (.int 1), eC (.int 12), eC (.int 2), eC (.int 4)]) (eCall sp_l_pick E0n [eVar 1, eC (.int 4)])) (eBin vIx (eLst [eC (.int 2), eBin vSub (eBin vPow (eC (.int 10)) (eC (.int 30))) (eC (.int 1)), eC (.int 12)]) (eCall sp_l_pick E0n [eVar 1, eC (.int 3)]))) (sSeq (sPar 8 9 (eCall sp_l_terms E0n [eVar 1, eVar 3, eC (.int 8), eVar 6, eVar 7]) (eCall sp_l_numbers E0n [eVar 1, eVar 3])) (sSeq (sIf (tVal (eBin vEq (eVar 5) (eC (.int 0)))) (sAsg (eLc (iRng1 [eVar 3]) (Tg.R (.nm 10)) tYes (eBin vSub (eC (.int 1)) (eBin vMul (eC (.int 2)) (eCall sp_l_pick E0n [eVar 1, eC (.int 2)]))) [10]) (gName 9)) sNext) rd_law_k3)))
theorem rd_law_b2_eq (D0 : En) (τ : VS) (S : Sto) : rd_law_b2 D0 τ S = (sSeq (sPar 3 5 (eBin vAdd (eC (.int 1)) (eCall sp_l_pick E0n [eVar 1, eC (.int 5)])) (eCall sp_l_pick E0n [eVar 1, eC (.int 6)])) (sSeq (sPar 6 7 (eBin vIx (eLst [eC (.int 1), eC (.int 12), eC (.int 2), eC (.int 4)]) (eCall sp_l_pick E0n [eVar 1, eC (.int 4)])) (eBin vIx (eLst [eC (.int 2), eBin vSub (eBin vPow (eC (.int 10)) (eC (.int 30))) (eC (.int 1)), eC (.int 12)]) (eCall sp_l_pick E0n [eVar 1, eC (.int 3)]))) (sSeq (sPar 8 9 (eCall sp_l_terms E0n [eVar 1, eVar 3, eC (.int 8), eVar 6, eVar 7]) (eCall sp_l_numbers E0n [eVar 1, eVar 3])) (sSeq (sIf (tVal (eBin vEq (eVar 5) (eC (.int 0)))) (sAsg (eLc (iRng1 [eVar 3]) (Tg.R (.nm 10)) tYes (eBin vSub (eC (.int 1)) (eBin vMul (eC (.int 2)) (eCall sp_l_pick E0n [eVar 1, eC (.int 2)]))) [10]) (gName 9)) sNext) rd_law_k3))) : RS) D0 τ S := rfl
def rd_law_k4 : RS := sSeq (sAsg (eBin vAdd (eC (.int 1)) (eCall sp_l_pick E0n [eVar 1, eC (.int 3)])) (gName 3)) (sRet (eCall sp_l_is_told E0n [eCall sp_l_long E0n [eVar 1, eVar 3], eLc (iRng1 [eVar 3]) (Tg.R (.nm 10)) tYes (eBin vIx (eLst [eC (.int 2), eUn vNeg (eC (.int 3)), eC (.int 5)]) (eVar 10)) [10]]))
theorem rd_law_k4_eq (D0 : En) (τ : VS) (S : Sto) : rd_law_k4 D0 τ S = (sSeq (sAsg (eBin vAdd (eC (.int 1)) (eCall sp_l_pick E0n [eVar 1, eC (.int 3)])) (gName 3)) (sRet (eCall sp_l_is_told E0n [eCall sp_l_long E0n [eVar 1, eVar 3], eLc (iRng1 [eVar 3]) (Tg.R (.nm 10)) tYes (eBin vIx (eLst [eC (.int 2), eUn vNeg (eC (.int 3)), eC (.int 5)]) (eVar 10)) [10]])) : RS) D0 τ S := rfl
def rd_law : RS := sSeq (sAsg (eCall sp_l_stock E0n [eVar 0]) (gName 1)) (sSeq (sFor (iRng1 [eC (.int 8)]) (gName 2) rd_law_b2) rd_law_k4)
theorem rd_law_eq (D0 : En) (τ : VS) (S : Sto) : rd_law D0 τ S = (sSeq (sAsg (eCall sp_l_stock E0n [eVar 0]) (gName 1)) (sSeq (sFor (iRng1 [eC (.int 8)]) (gName 2) rd_law_b2) rd_law_k4) : RS) D0 τ S := rfl
theorem vc_law {ds S Q E} (h : spLawV ds S Q E) : BodyV N_law ds S Q rd_law := by
  obtain ⟨ns, rfl, hns, h⟩ := h
  rw [BodyV, rd_law_eq]
  walk_at "w"
  refine ⟨ns, rfl, hns, fun a c w ap wk => ⟨by decide, ?_⟩⟩
  have fin : ∀ S', ∃ S'', Le S'' S' ∧ Q (.bl true) S'' := fun S' => ⟨S', Le.refl _, h S'⟩
  refine for_inv (fun i τ S' => ∃ w F x2 x3 x4 x5 x6 x7 x8 x9 x10 x11, τ = [some (.scr ns), some (.ref a), x2, x3, x4, x5, x6, x7, x8, x9, x10, x11] ∧ S' = stk F a c w ∧ Ap F a c ∧ Wok w (2000 * i)) ⟨w, S, none, none, none, none, none, none, none, none, none, none, rfl, rfl, ap, wk.mono (by decide)⟩ (fun _ _ _ _ => trivial) ?_ ?_
  · rintro i x τ S' D1 hx ⟨w, F, x2, x3, x4, x5, x6, x7, x8, x9, x10, x11, rfl, rfl, ap, wk⟩ hrt hbk hnx hct
    obtain ⟨hi, rfl⟩ := intsD_at hx
    have hi8 : i < 8 := by omega
    simp only [rd_law_b2_eq]
    walk_at "w"
    refine pick_to ap wk (by omega) (by omega) (by omega) fun r w1 r0 r1 wk1 => ?_
    walk_at "w"
    refine pick_to ap wk1 (by omega) (by omega) (by omega) fun way w2 y0 y1 wk2 => ?_
    intro u hu
    obtain ⟨G1, e1, ap1, l1, h1, _⟩ := nwo ap hu (.lst [.int 1, .int 12, .int 2, .int 4])
    simp only [e1]
    refine pick_to ap1 wk2 (by omega) (by omega) (by omega) fun r3 w3 r30 r31 wk3 => ?_
    obtain ⟨sp, hs1, hs2, hs3⟩ : ∃ sp : Int, [D.int 1, D.int 12, D.int 2, D.int 4][r3.toNat]? = some (.int sp) ∧ 1 ≤ sp ∧ sp ≤ 12 := by
      rcases (by omega : r3 = 0 ∨ r3 = 1 ∨ r3 = 2 ∨ r3 = 3) with rfl | rfl | rfl | rfl
      · exact ⟨1, rfl, by decide, by decide⟩
      · exact ⟨12, rfl, by decide, by decide⟩
      · exact ⟨2, rfl, by decide, by decide⟩
      · exact ⟨4, rfl, by decide, by decide⟩
    refine vIx_ref (stk_at ap1 h1) r30 hs1 ?_
    refine ⟨⟨by decide, by decide, by decide⟩, fun v hv => ?_⟩
    obtain ⟨G2, e2, ap2, l2, h2, _⟩ := nwo ap1 hv (.lst [.int 2, .int (10 ^ Int.toNat 30 - 1), .int 12])
    simp only [e2]
    refine pick_to ap2 wk3 (by omega) (by omega) (by omega) fun r4 w4 r40 r41 wk4 => ?_
    obtain ⟨gr, hl1, hl2, hl3⟩ : ∃ lim : Int, [D.int 2, D.int (10 ^ Int.toNat 30 - 1), D.int 12][r4.toNat]? = some (.int lim) ∧ 1 ≤ lim ∧ lim < 2 ^ 100 := by
      rcases (by omega : r4 = 0 ∨ r4 = 1 ∨ r4 = 2) with rfl | rfl | rfl
      · exact ⟨2, rfl, by decide, by decide⟩
      · exact ⟨_, rfl, by decide, by decide⟩
      · exact ⟨12, rfl, by decide, by decide⟩
    refine vIx_ref (stk_at ap2 h2) r40 hl1 ?_
    walk_at "w"
    obtain ⟨mn, hmn⟩ : ∃ mn : Nat, 1 + r = (mn : Int) := ⟨(1 + r).toNat, by omega⟩
    rw [hmn]
    have hmn' : (mn : Int).toNat = mn := by omega
    refine ⟨G2, a, c, w4, _, (mn : Int), 8, sp, gr, rfl, rfl, ap2, wk4, by omega, by omega, by omega, by omega, by omega, hs2, by omega, hl2, by omega, fun q w5 L qF qa qc tk wk5 => ?_⟩
    have sk0 : SumOk mn 3000 L := by
      have := tk_sum tk (by decide) hs3 (by omega)
      rw [hmn'] at this; exact this
    have ap3 : Ap (put G2 q (.dI (dD L))) a c := ap2.nw qa qc
    have hq3 : put G2 q (.dI (dD L)) q = some (.dI (dD L)) := put_same
    refine ⟨_, a, c, w5, _, mn, rfl, rfl, ap3, wk5, by omega, by omega, by omega, fun b w6 nums bF ba bc nl nz wk6 => ?_⟩
    have ap4 : Ap (put (put G2 q (.dI (dD L))) b (.lst (List.map .int nums))) a c := ap3.nw ba bc
    have hq4 : put (put G2 q (.dI (dD L))) b (.lst (List.map .int nums)) q = some (.dI (dD L)) := by rw [put_ne (sne hq3 bF)]; exact hq3
    have hb4 : put (put G2 q (.dI (dD L))) b (.lst (List.map .int nums)) b = some (.lst (List.map .int nums)) := put_same
    generalize put (put G2 q (.dI (dD L))) b (.lst (List.map .int nums)) = G at ap4 hq4 hb4 ⊢
    have nk0 : NumOk mn 100 nums := ⟨nl, nz⟩
    have k1 : ∀ (G : Sto) (q b : Addr) (L : List Tr) (nums : List Int) (w : Wd) (x4 x10 x11 : Option D), Ap G a c → G q = some (.dI (dD L)) → G b = some (.lst (List.map .int nums)) → SumOk mn 3000 L → NumOk mn 100 nums → Wok w (2000 * i + 1500) →
        rd_law_k1 D1 [some (.scr ns), some (.ref a), some (.int (0 + (i : Int))), some (.int (Nat.cast mn)), x4, some (.int way), some (.int sp), some (.int gr), some (.ref q), some (.ref b), x10, x11] (stk G a c w) := by
      intro G q b L nums w x4 x10 x11 apG hq hb sk nk wk
      simp only [rd_law_k1_eq]
      walk_at "w"
      refine ⟨_, .inl (stk_at apG hb), ?_⟩
      refine lc_map2 (f := fun n : Int => D.int (0 - n)) (.inl (stk_at apG hb)) (fun n _ K' hK => ?_) ?_
      · walk_at "w"
        exact hK
      have eneg : (nums.map fun n : Int => D.int (0 - n)) = List.map .int (nums.map fun n => 0 - n) := by rw [List.map_map]; rfl
      rw [eneg]
      intro s1 hs1
      obtain ⟨G5, e5, ap5, l5, h5, _⟩ := nwo apG hs1 (.lst (List.map .int (nums.map fun n => 0 - n)))
      simp only [e5]
      refine ⟨_, .inl (stk_at ap5 (l5 _ _ hb)), fun s2 hs2 => ?_⟩
      rw [← List.map_reverse]
      obtain ⟨G6, e6, ap6, l6, h6, _⟩ := nwo ap5 hs2 (.lst (List.map .int nums.reverse))
      simp only [e6]
      intro s3 hs3
      obtain ⟨G7, e7, ap7, l7, h7, _⟩ := nwo ap6 hs3 (.lst [.ref b, .ref s1, .ref s2])
      simp only [e7]
      have hit : ∀ x, x ∈ [D.ref b, .ref s1, .ref s2] → ∃ y ys, x = .ref y ∧ G7 y = some (.lst (List.map .int ys)) ∧ NumOk mn 100 ys := fun x hx => by
        simp only [List.mem_cons, List.not_mem_nil, or_false] at hx
        rcases hx with rfl | rfl | rfl
        · exact ⟨b, nums, rfl, l7 _ _ (l6 _ _ (l5 _ _ hb)), nk⟩
        · refine ⟨s1, _, rfl, l7 _ _ (l6 _ _ h5), by rw [List.length_map]; exact nk.len, fun z hz => ?_⟩
          obtain ⟨y, hy, rfl⟩ := List.mem_map.mp hz
          have := nk.ok y hy
          rw [Int.zero_sub, Int.natAbs_neg]
          exact ⟨by omega, this.2⟩
        · exact ⟨s2, _, rfl, l7 _ _ h6, by rw [List.length_reverse]; exact nk.len, fun z hz => nk.ok z (List.mem_reverse.mp hz)⟩
      refine ⟨_, .inl (stk_at ap7 h7), ?_⟩
      refine for_inv (fun j τ S' => ∃ x4, τ = [some (.scr ns), some (.ref a), some (.int (0 + (i : Int))), some (.int (Nat.cast mn)), x4, some (.int way), some (.int sp), some (.int gr), some (.ref q), some (.ref b), x10, x11] ∧ S' = stk G7 a c w) ⟨x4, rfl, rfl⟩ (fun i τ S' h => by obtain ⟨_, _, rfl⟩ := h; exact .inl (stk_at ap7 h7)) ?_ ?_
      · rintro j x τ S' D2 hx ⟨x4, rfl, rfl⟩ hrt2 hbk2 hnx2 hct2
        obtain ⟨y, ys, rfl, hy, yk⟩ := hit x (List.mem_of_getElem? hx)
        simp only [rd_law_b1_eq]
        walk_at "w"
        refine ⟨q, L, y, ys, mn, rfl, stk_at ap7 (l7 _ _ (l6 _ _ (l5 _ _ hq))), stk_at ap7 hy, sk, yk, by omega, by omega, ?_⟩
        walk_at "w"
        exact hnx2 _ _ _ _ ⟨_, rfl, rfl⟩ (VLe.refl _) (Le.refl _)
      · rintro τ S' ⟨x4, rfl, rfl⟩
        exact hnx _ _ _ _ ⟨w, G7, _, _, _, _, _, _, _, _, _, _, rfl, rfl, ap7, wk.mono (by omega)⟩ (VLe.refl _) (Le.refl _)
    have k2 : ∀ (G : Sto) (q b : Addr) (L : List Tr) (nums : List Int) (w : Wd) (x10 : Option D), Ap G a c → G q = some (.dI (dD L)) → G b = some (.lst (List.map .int nums)) → SumOk mn 3000 L → NumOk mn 100 nums → Wok w (2000 * i + 1100) →
        rd_law_k2 D1 [some (.scr ns), some (.ref a), some (.int (0 + (i : Int))), some (.int (Nat.cast mn)), x4, some (.int way), some (.int sp), some (.int gr), some (.ref q), some (.ref b), x10, x11] (stk G a c w) := by
      intro G q b L nums w x10 apG hq hb sk nk wk
      simp only [rd_law_k2_eq]
      walk_at "w"
      by_cases h2 : way = 2
      · rw [if_pos h2]
        refine pick_to apG wk (by omega) (by omega) (by omega) fun r6 w7 r60 r61 wk7 => ?_
        refine ⟨G, a, c, w7, _, mn, r6, rfl, rfl, apG, wk7, by omega, by omega, by omega, by omega, by omega, fun G' p' L' b' ns' w' ap' lG' hp' sk' hb' nk' wk' => ?_⟩
        walk_at "w"
        exact k1 G' p' b' L' ns' w' _ _ _ ap' hp' hb' sk' nk' (wk'.mono (by omega))
      · rw [if_neg h2]
        exact k1 G q b L nums w _ _ _ apG hq hb sk nk (wk.mono (by omega))
    have k3 : ∀ (G : Sto) (b : Addr) (nums : List Int) (w : Wd) (x10 : Option D), Ap G a c → G q = some (.dI (dD L)) → G b = some (.lst (List.map .int nums)) → NumOk mn 100 nums → Wok w (2000 * i + 1000) →
        rd_law_k3 D1 [some (.scr ns), some (.ref a), some (.int (0 + (i : Int))), some (.int (Nat.cast mn)), x4, some (.int way), some (.int sp), some (.int gr), some (.ref q), some (.ref b), x10, x11] (stk G a c w) := by
      intro G b nums w x10 apG hq hb nk wk
      simp only [rd_law_k3_eq]
      walk_at "w"
      by_cases h1 : way = 1
      · rw [if_pos h1]
        have hn0 : 0 < nums.length := by rw [nk.len]; omega
        refine vIx_ref (stk_at apG hb) (by decide) (d := .int nums[0]) (by rw [List.getElem?_map]; show (nums[0]?).map D.int = _; rw [List.getElem?_eq_getElem hn0]; rfl) ?_
        intro s hs
        obtain ⟨G5, e5, ap5, l5, h5, _⟩ := nwo apG hs (.lst [.int nums[0]])
        simp only [e5]
        refine ⟨_, stk_at ap5 h5, ⟨by omega, by omega, by simp; omega⟩, fun s1 hs1 => ?_⟩
        have ez : (List.replicate (Nat.cast mn : Int).toNat [D.int nums[0]]).flatten = List.map .int (List.replicate mn nums[0]) := by
          rw [hmn', List.map_replicate]; simp
        simp only [ez]
        obtain ⟨G6, e6, ap6, l6, h6, _⟩ := nwo ap5 hs1 (.lst (List.map .int (List.replicate mn nums[0])))
        simp only [e6]
        exact k2 G6 q s1 L _ w _ ap6 (l6 _ _ (l5 _ _ hq)) h6 sk0 ⟨List.length_replicate, fun z hz => by rw [List.eq_of_mem_replicate hz]; exact nk.ok _ (List.getElem_mem _)⟩ (wk.mono (by omega))
      · rw [if_neg h1]
        exact k2 G q b L nums w _ apG hq hb sk0 nk (wk.mono (by omega))
    walk_at "w"
    by_cases h0 : way = 0
    · rw [if_pos h0]
      refine ⟨by omega, lc_inv (fun j acc S' => ∃ w ys, S' = stk G a c w ∧ Wok w (2000 * i + 600 + j) ∧ acc = List.map D.int ys ∧ List.length ys = j ∧ ∀ z ∈ ys, z = 1 ∨ z = -1) ⟨w6, [], rfl, wk6.mono (by omega), rfl, rfl, (fun _ h => by cases h)⟩ (fun _ _ _ _ => trivial) ?_ ?_⟩
      · rintro j x acc S' K' hx ⟨w', ys, rfl, wk', rfl, hj, hz⟩ hk
        obtain ⟨hj2, rfl⟩ := intsD_at hx
        walk_at "w"
        refine pick_to ap4 wk' (by omega) (by omega) (by omega) fun r2 w2 r20 r21 wk2 => ?_
        walk_at "w"
        refine ⟨mul_fits (a := 20) (b := 20) (by decide) (by omega), ?_⟩
        exact hk _ _ _ (Le.refl _) ⟨w2, ys ++ [1 - 2 * r2], rfl, wk2.mono (by omega), by rw [List.map_append]; rfl, by rw [List.length_append, hj]; rfl, fun z hz' => by
          rcases List.mem_append.mp hz' with hz' | hz'
          · exact hz z hz'
          · rw [List.mem_singleton.mp hz']; omega⟩
      · rintro acc S' ⟨w', ys, rfl, wk', rfl, hj, hz⟩
        rw [intsD_len] at hj wk'
        intro s hs
        obtain ⟨G5, e5, ap5, l5, h5, _⟩ := nwo ap4 hs (.lst (List.map .int ys))
        simp only [e5]
        refine k3 G5 s ys w' _ ap5 (l5 _ _ hq4) h5 ⟨by omega, fun z hz' => ?_⟩ (wk'.mono (by omega))
        rcases hz z hz' with rfl | rfl
        · exact ⟨by decide, by decide⟩
        · exact ⟨by decide, by decide⟩
    · rw [if_neg h0]
      exact k3 G b nums w6 _ ap4 hq4 hb4 nk0 (wk6.mono (by omega))
  · rintro τ S' ⟨w, F, x2, x3, x4, x5, x6, x7, x8, x9, x10, x11, rfl, rfl, ap, wk⟩
    rw [intsD_len] at wk
    simp only [rd_law_k4_eq]
    walk_at "w"
    refine pick_to ap wk (by omega) (by omega) (by omega) fun r w1 r0 r1 wk1 => ?_
    walk_at "w"
    obtain ⟨mn, hmn⟩ : ∃ mn : Nat, 1 + r = (mn : Int) := ⟨(1 + r).toNat, by omega⟩
    rw [hmn]
    refine ⟨F, a, c, w1, _, mn, rfl, rfl, ap, wk1, by omega, by omega, by omega, fun q w2 L qF qa qc tk wk2 => ?_⟩
    have ap3 : Ap (put F q (.dI (dD L))) a c := ap.nw qa qc
    refine ⟨by omega, lc_inv (fun j acc S' => ∃ G ys, S' = stk G a c w2 ∧ Ap G a c ∧ Le (put F q (.dI (dD L))) G ∧ acc = List.map D.int ys ∧ List.length ys = j ∧ ∀ z ∈ ys, z ≠ 0 ∧ Int.natAbs z ≤ 2 ^ 100) ⟨_, [], rfl, ap3, Le.refl _, rfl, rfl, (fun _ h => by cases h)⟩ (fun _ _ _ _ => trivial) ?_ ?_⟩
    · rintro j x acc S' K' hx ⟨G, ys, rfl, apG, lG, rfl, hj, hz⟩ hk
      obtain ⟨hj2, rfl⟩ := intsD_at hx
      have hj3 : j < 3 := by omega
      walk_at "w"
      intro u hu
      obtain ⟨G5, e5, ap5, l5, h5, _⟩ := nwo apG hu (.lst [.int 2, .int (-3), .int 5])
      simp only [e5]
      obtain ⟨z, hz1, hz2⟩ : ∃ z : Int, [D.int 2, .int (-3), .int 5][(0 + (j : Int)).toNat]? = some (.int z) ∧ (z = 2 ∨ z = -3 ∨ z = 5) := by
        rcases (by omega : j = 0 ∨ j = 1 ∨ j = 2) with rfl | rfl | rfl
        · exact ⟨2, rfl, .inl rfl⟩
        · exact ⟨-3, rfl, .inr (.inl rfl)⟩
        · exact ⟨5, rfl, .inr (.inr rfl)⟩
      refine vIx_ref (stk_at ap5 h5) (by omega) hz1 ?_
      exact hk _ _ _ (Le.refl _) ⟨G5, ys ++ [z], rfl, ap5, lG.trans l5, by rw [List.map_append]; rfl, by rw [List.length_append, hj]; rfl, fun y hy => by
        rcases List.mem_append.mp hy with hy | hy
        · exact hz y hy
        · rw [List.mem_singleton.mp hy]
          rcases hz2 with rfl | rfl | rfl
          · exact ⟨by decide, by decide⟩
          · exact ⟨by decide, by decide⟩
          · exact ⟨by decide, by decide⟩⟩
    · rintro acc S' ⟨G, ys, rfl, apG, lG, rfl, hj, hz⟩
      rw [intsD_len] at hj
      intro s hs
      obtain ⟨G5, e5, ap5, l5, h5, _⟩ := nwo apG hs (.lst (List.map .int ys))
      simp only [e5]
      refine ⟨q, L, s, ys, mn, rfl, stk_at ap5 (l5 _ _ (lG _ _ put_same)), stk_at ap5 h5, tk_sum tk (by decide) (by decide) (by decide), ⟨by omega, hz⟩, by omega, by omega, fin _⟩
theorem len_law {ds S Q E} (h : spLawV ds S Q E) : ds.length = 1 := by
  obtain ⟨_, rfl, _⟩ := h; rfl
theorem ok_law {P : Program} {w : World} {K : PySem.W.Frag} {mg : Str → Option Value} {base : Heap} (T : Tp K mg) : FnOk P w K mg base CX0 8 T.a_law T.d_law ["_law_script"] (lowSp K sp_law) :=
  fnV T.F_law sc_law (fun ds S Q E h => len_law h) fun cdv A outer s H E en E0 hr hx =>
    ⟨rd_law, vss_cons (vs_set (i := 1) sc_law.nd rfl (.inr rfl) (ve_call (ok_l_stock T) (hr.mono (by decide)) (by rfl) T.g_l_stock T.F_l_stock.kp (bi_l_stock T) (pass0 (X := _)) XE0.no (va_cons (ve_var 0) va_nil))) (vss_cons (vs_for PassesOwn.never rfl (vi_rng1 (by rfl) T.z_range (va_cons ve_int va_nil)) (vg_name (i := 2) sc_law.nd rfl (.inl rfl)) (vss_cons (vs_par (i := 3) (j := 5) rfl sc_law.nd rfl rfl (by decide) rfl rfl (ve_op op_addAny ov_add ve_int (ve_call (ok_l_pick T) (hr.mono (by decide)) (by rfl) T.g_l_pick T.F_l_pick.kp (bi_l_pick T) (pass0 (X := _)) XE0.no (va_cons (ve_var 1) (va_cons ve_int va_nil)))) (ve_call (ok_l_pick T) (hr.mono (by decide)) (by rfl) T.g_l_pick T.F_l_pick.kp (bi_l_pick T) (pass0 (X := _)) XE0.no (va_cons (ve_var 1) (va_cons ve_int va_nil))) (by rfl)) (vss_cons (vs_par (i := 6) (j := 7) rfl sc_law.nd rfl rfl (by decide) rfl rfl (ve_ix ix_seq ov_ix (ve_lst (va_cons ve_int (va_cons ve_int (va_cons ve_int (va_cons ve_int va_nil))))) (ve_call (ok_l_pick T) (hr.mono (by decide)) (by rfl) T.g_l_pick T.F_l_pick.kp (bi_l_pick T) (pass0 (X := _)) XE0.no (va_cons (ve_var 1) (va_cons ve_int va_nil)))) (ve_ix ix_seq ov_ix (ve_lst (va_cons ve_int (va_cons (ve_op op_sub ov_int0 (ve_op op_pow ov_int ve_int ve_int) ve_int) (va_cons ve_int va_nil)))) (ve_call (ok_l_pick T) (hr.mono (by decide)) (by rfl) T.g_l_pick T.F_l_pick.kp (bi_l_pick T) (pass0 (X := _)) XE0.no (va_cons (ve_var 1) (va_cons ve_int va_nil)))) (by rfl)) (vss_cons (vs_par (i := 8) (j := 9) rfl sc_law.nd rfl rfl (by decide) rfl rfl (ve_call (ok_l_terms T) (hr.mono (by decide)) (by rfl) T.g_l_terms T.F_l_terms.kp (bi_l_terms T) (pass0 (X := _)) XE0.no (va_cons (ve_var 1) (va_cons (ve_var 3) (va_cons ve_int (va_cons (ve_var 6) (va_cons (ve_var 7) va_nil)))))) (ve_call (ok_l_numbers T) (hr.mono (by decide)) (by rfl) T.g_l_numbers T.F_l_numbers.kp (bi_l_numbers T) (pass0 (X := _)) XE0.no (va_cons (ve_var 1) (va_cons (ve_var 3) va_nil))) (by rfl)) (vss_cons (vs_if (vt_cmp (op_eqAny hr.units) ov_eq (ve_var 5) ve_int) (vss_one (vs_setLc (i := 9) (own := [("_law_j", 10)]) (t := (.nm 10)) rfl sc_law.nd rfl rfl (sw_true rfl rfl rfl (by decide +kernel)) (vi_rng1 (by rfl) T.z_range (va_cons (ve_var 3) va_nil)) (blkOk_by (N := ["_law_script", "_law_stock_here", "_law_turn", "_law_many", "_law_given", "_law_way", "_law_span", "_law_great", "_law_terms_here", "_law_numbers_here", "_law_j", "_law_number"]) (sc := defScope s_law) (by decide +kernel)) ⟨fun _ _ _ _ _ => pg_name (i := 10) sc_law.nd rfl (Or.inl rfl), fun _ _ _ _ _ => vts_nil, fun _ _ _ _ _ => ve_op op_sub ov_int0 ve_int (ve_op op_mulAny ov_mul ve_int (ve_call (ok_l_pick T) (hr.mono (by decide)) (by rfl) T.g_l_pick T.F_l_pick.kp (bi_l_pick T) (pass0 (X := _)) XE0.no (va_cons (ve_var 1) (va_cons ve_int va_nil))))⟩ (by decide))) vss_nil) (vss_cons (vs_if (vt_cmp (op_eqAny hr.units) ov_eq (ve_var 5) ve_int) (vss_one (vs_set (i := 9) sc_law.nd rfl (.inl rfl) (ve_op op_mulAny ov_mul (ve_lst (va_cons (ve_ix ix_seq ov_ix (ve_var 9) ve_int) va_nil)) (ve_var 3)))) vss_nil) (vss_cons (vs_if (vt_cmp (op_eqAny hr.units) ov_eq (ve_var 5) ve_int) (vss_one (vs_asg (ve_call (ok_l_balanced T) (hr.mono (by decide)) (by rfl) T.g_l_balanced T.F_l_balanced.kp (bi_l_balanced T) (pass0 (X := _)) XE0.no (va_cons (ve_var 1) (va_cons (ve_var 3) (va_cons (ve_call (ok_l_pick T) (hr.mono (by decide)) (by rfl) T.g_l_pick T.F_l_pick.kp (bi_l_pick T) (pass0 (X := _)) XE0.no (va_cons (ve_var 1) (va_cons ve_int va_nil))) va_nil)))) (vg_tup rfl (vgs_cons (vg_name (i := 8) sc_law.nd rfl (.inl rfl)) (vgs_cons (vg_name (i := 9) sc_law.nd rfl (.inl rfl)) (vgs_nil)))))) vss_nil) (vss_one (vs_for PassesOwn.never rfl (vi_lst (ve_lst (va_cons (ve_var 9) (va_cons (ve_lc (own := [("_law_number", 11)]) (t := (.nm 11)) rfl sc_law.nd (vi_lst (ve_var 9)) (blkOk_by (N := ["_law_script", "_law_stock_here", "_law_turn", "_law_many", "_law_given", "_law_way", "_law_span", "_law_great", "_law_terms_here", "_law_numbers_here", "_law_j", "_law_number"]) (sc := defScope s_law) (by decide +kernel)) ⟨fun _ _ _ _ _ => pg_name (i := 11) sc_law.nd rfl (Or.inl rfl), fun _ _ _ _ _ => vts_nil, fun _ _ _ _ _ => ve_op op_sub ov_int0 ve_int (ve_var 11)⟩ (by decide)) (va_cons (ve_rev (ve_var 9)) va_nil))))) (vg_name (i := 4) sc_law.nd rfl (.inl rfl)) (vss_one (vs_if (vt_not (vt_val (ve_call (ok_l_is_told T) (hr.mono (by decide)) (by rfl) T.g_l_is_told T.F_l_is_told.kp (bi_l_is_told T) (pass0 (X := _)) XE0.no (va_cons (ve_var 8) (va_cons (ve_var 4) va_nil))))) (vss_one (vs_ret ve_bl)) vss_nil))))))))))) (vss_cons (vs_set (i := 3) sc_law.nd rfl (.inl rfl) (ve_op op_addAny ov_add ve_int (ve_call (ok_l_pick T) (hr.mono (by decide)) (by rfl) T.g_l_pick T.F_l_pick.kp (bi_l_pick T) (pass0 (X := _)) XE0.no (va_cons (ve_var 1) (va_cons ve_int va_nil))))) (vss_one (vs_ret (ve_call (ok_l_is_told T) (hr.mono (by decide)) (by rfl) T.g_l_is_told T.F_l_is_told.kp (bi_l_is_told T) (pass0 (X := _)) XE0.no (va_cons (ve_call (ok_l_long T) (hr.mono (by decide)) (by rfl) T.g_l_long T.F_l_long.kp (bi_l_long T) (pass0 (X := _)) XE0.no (va_cons (ve_var 1) (va_cons (ve_var 3) va_nil))) (va_cons (ve_lc (own := [("_law_j", 10)]) (t := (.nm 10)) rfl sc_law.nd (vi_rng1 (by rfl) T.z_range (va_cons (ve_var 3) va_nil)) (blkOk_by (N := ["_law_script", "_law_stock_here", "_law_turn", "_law_many", "_law_given", "_law_way", "_law_span", "_law_great", "_law_terms_here", "_law_numbers_here", "_law_j", "_law_number"]) (sc := defScope s_law) (by decide +kernel)) ⟨fun _ _ _ _ _ => pg_name (i := 10) sc_law.nd rfl (Or.inl rfl), fun _ _ _ _ _ => vts_nil, fun _ _ _ _ _ => ve_ix ix_seq ov_ix (ve_lst (va_cons ve_int (va_cons (ve_un un_neg uv_neg ve_int) (va_cons ve_int va_nil)))) (ve_var 10)⟩ (by decide)) va_nil))))))), fun ds S Q h => vc_law h⟩
end LW
namespace LW
open PySem PySem.Spec PyProof.Rows L2 VL
theorem all_mk {l : PySem.W.OpenLaw} {w : World} {K : PySem.W.Frag} {h : Heap} {mg : Str → Option Value} {fa : Addr} (X : K.In h) (G : h.Ns mainGlobals mg) (hfa : mg "law" = some (.ref fa))
    {f0 : Addr} {od0 an0 : Option Addr} {sl0 : Array (Option Value)} {oc0 kV0 dc0 pm0 cd0 ct0 : Value}
    {f1 : Addr} {od1 an1 : Option Addr} {sl1 : Array (Option Value)} {oc1 kV1 dc1 pm1 cd1 ct1 : Value}
    {f2 : Addr} {od2 an2 : Option Addr} {sl2 : Array (Option Value)} {oc2 kV2 dc2 pm2 cd2 ct2 : Value}
    {f3 : Addr} {od3 an3 : Option Addr} {sl3 : Array (Option Value)} {oc3 kV3 dc3 pm3 cd3 ct3 : Value}
    {f4 : Addr} {od4 an4 : Option Addr} {sl4 : Array (Option Value)} {oc4 kV4 dc4 pm4 cd4 ct4 : Value}
    {f5 : Addr} {od5 an5 : Option Addr} {sl5 : Array (Option Value)} {oc5 kV5 dc5 pm5 cd5 ct5 : Value}
    {f6 : Addr} {od6 an6 : Option Addr} {sl6 : Array (Option Value)} {oc6 kV6 dc6 pm6 cd6 ct6 : Value}
    {f7 : Addr} {od7 an7 : Option Addr} {sl7 : Array (Option Value)} {oc7 kV7 dc7 pm7 cd7 ct7 : Value}
    {f8 : Addr} {od8 an8 : Option Addr} {sl8 : Array (Option Value)} {oc8 kV8 dc8 pm8 cd8 ct8 : Value}
    {f9 : Addr} {od9 an9 : Option Addr} {sl9 : Array (Option Value)} {oc9 kV9 dc9 pm9 cd9 ct9 : Value}
    {f10 : Addr} {od10 an10 : Option Addr} {sl10 : Array (Option Value)} {oc10 kV10 dc10 pm10 cd10 ct10 : Value}
    {f11 : Addr} {od11 an11 : Option Addr} {sl11 : Array (Option Value)} {oc11 kV11 dc11 pm11 cd11 ct11 : Value}
    {f12 : Addr} {od12 an12 : Option Addr} {sl12 : Array (Option Value)} {oc12 kV12 dc12 pm12 cd12 ct12 : Value}
    {f13 : Addr} {od13 an13 : Option Addr} {sl13 : Array (Option Value)} {oc13 kV13 dc13 pm13 cd13 ct13 : Value}
    {f14 : Addr} {od14 an14 : Option Addr} {sl14 : Array (Option Value)} {oc14 kV14 dc14 pm14 cd14 ct14 : Value}
    {f15 : Addr} {od15 an15 : Option Addr} {sl15 : Array (Option Value)} {oc15 kV15 dc15 pm15 cd15 ct15 : Value}
    {f16 : Addr} {od16 an16 : Option Addr} {sl16 : Array (Option Value)} {oc16 kV16 dc16 pm16 cd16 ct16 : Value}
    {f17 : Addr} {od17 an17 : Option Addr} {sl17 : Array (Option Value)} {oc17 kV17 dc17 pm17 cd17 ct17 : Value}
    {f18 : Addr} {od18 an18 : Option Addr} {sl18 : Array (Option Value)} {oc18 kV18 dc18 pm18 cd18 ct18 : Value}
    {f19 : Addr} {od19 an19 : Option Addr} {sl19 : Array (Option Value)} {oc19 kV19 dc19 pm19 cd19 ct19 : Value}
    {f20 : Addr} {od20 an20 : Option Addr} {sl20 : Array (Option Value)} {oc20 kV20 dc20 pm20 cd20 ct20 : Value}
    {f21 : Addr} {od21 an21 : Option Addr} {sl21 : Array (Option Value)} {oc21 kV21 dc21 pm21 cd21 ct21 : Value}
    {f22 : Addr} {od22 an22 : Option Addr} {sl22 : Array (Option Value)} {oc22 kV22 dc22 pm22 cd22 ct22 : Value}
    (a0 : PySem.W.nsIn K mainGlobals "counted" = some (some (.ref f0))) (l0 : K.lookup f0 = some ⟨oc0, od0, .func (PySem.W.fnOf "counted" "counted" (defArgs s_counted) (defBody s_counted) (defScope s_counted) .none kV0 dc0 pm0 an0 cd0 ct0), sl0⟩) (c0 : PySem.W.codeIn K cd0 "counted" = true) (k0 : PySem.W.keepIn K (.ref f0) = true)
    (a1 : PySem.W.nsIn K mainGlobals "looks_right" = some (some (.ref f1))) (l1 : K.lookup f1 = some ⟨oc1, od1, .func (PySem.W.fnOf "looks_right" "looks_right" (defArgs s_looks_right) (defBody s_looks_right) (defScope s_looks_right) .none kV1 dc1 pm1 an1 cd1 ct1), sl1⟩) (c1 : PySem.W.codeIn K cd1 "looks_right" = true) (k1 : PySem.W.keepIn K (.ref f1) = true)
    (a2 : PySem.W.nsIn K mainGlobals "checked_sum" = some (some (.ref f2))) (l2 : K.lookup f2 = some ⟨oc2, od2, .func (PySem.W.fnOf "checked_sum" "checked_sum" (defArgs s_checked_sum) (defBody s_checked_sum) (defScope s_checked_sum) .none kV2 dc2 pm2 an2 cd2 ct2), sl2⟩) (c2 : PySem.W.codeIn K cd2 "checked_sum" = true) (k2 : PySem.W.keepIn K (.ref f2) = true)
    (a3 : PySem.W.nsIn K mainGlobals "checked_sums" = some (some (.ref f3))) (l3 : K.lookup f3 = some ⟨oc3, od3, .func (PySem.W.fnOf "checked_sums" "checked_sums" (defArgs s_checked_sums) (defBody s_checked_sums) (defScope s_checked_sums) .none kV3 dc3 pm3 an3 cd3 ct3), sl3⟩) (c3 : PySem.W.codeIn K cd3 "checked_sums" = true) (k3 : PySem.W.keepIn K (.ref f3) = true)
    (a4 : PySem.W.nsIn K mainGlobals "least_of" = some (some (.ref f4))) (l4 : K.lookup f4 = some ⟨oc4, od4, .func (PySem.W.fnOf "least_of" "least_of" (defArgs s_least_of) (defBody s_least_of) (defScope s_least_of) .none kV4 dc4 pm4 an4 cd4 ct4), sl4⟩) (c4 : PySem.W.codeIn K cd4 "least_of" = true) (k4 : PySem.W.keepIn K (.ref f4) = true)
    (a5 : PySem.W.nsIn K mainGlobals "greatest_of" = some (some (.ref f5))) (l5 : K.lookup f5 = some ⟨oc5, od5, .func (PySem.W.fnOf "greatest_of" "greatest_of" (defArgs s_greatest_of) (defBody s_greatest_of) (defScope s_greatest_of) .none kV5 dc5 pm5 an5 cd5 ct5), sl5⟩) (c5 : PySem.W.codeIn K cd5 "greatest_of" = true) (k5 : PySem.W.keepIn K (.ref f5) = true)
    (a6 : PySem.W.nsIn K mainGlobals "worth_above" = some (some (.ref f6))) (l6 : K.lookup f6 = some ⟨oc6, od6, .func (PySem.W.fnOf "worth_above" "worth_above" (defArgs s_worth_above) (defBody s_worth_above) (defScope s_worth_above) .none kV6 dc6 pm6 an6 cd6 ct6), sl6⟩) (c6 : PySem.W.codeIn K cd6 "worth_above" = true) (k6 : PySem.W.keepIn K (.ref f6) = true)
    (a7 : PySem.W.nsIn K mainGlobals "value" = some (some (.ref f7))) (l7 : K.lookup f7 = some ⟨oc7, od7, .func (PySem.W.fnOf "value" "value" (defArgs s_value) (defBody s_value) (defScope s_value) .none kV7 dc7 pm7 an7 cd7 ct7), sl7⟩) (c7 : PySem.W.codeIn K cd7 "value" = true) (k7 : PySem.W.keepIn K (.ref f7) = true)
    (a8 : PySem.W.nsIn K mainGlobals "_law_stock" = some (some (.ref f8))) (l8 : K.lookup f8 = some ⟨oc8, od8, .func (PySem.W.fnOf "_law_stock" "_law_stock" (defArgs s_l_stock) (defBody s_l_stock) (defScope s_l_stock) .none kV8 dc8 pm8 an8 cd8 ct8), sl8⟩) (c8 : PySem.W.codeIn K cd8 "_law_stock" = true) (k8 : PySem.W.keepIn K (.ref f8) = true)
    (a9 : PySem.W.nsIn K mainGlobals "_law_pick" = some (some (.ref f9))) (l9 : K.lookup f9 = some ⟨oc9, od9, .func (PySem.W.fnOf "_law_pick" "_law_pick" (defArgs s_l_pick) (defBody s_l_pick) (defScope s_l_pick) .none kV9 dc9 pm9 an9 cd9 ct9), sl9⟩) (c9 : PySem.W.codeIn K cd9 "_law_pick" = true) (k9 : PySem.W.keepIn K (.ref f9) = true)
    (a10 : PySem.W.nsIn K mainGlobals "_law_wide" = some (some (.ref f10))) (l10 : K.lookup f10 = some ⟨oc10, od10, .func (PySem.W.fnOf "_law_wide" "_law_wide" (defArgs s_l_wide) (defBody s_l_wide) (defScope s_l_wide) .none kV10 dc10 pm10 an10 cd10 ct10), sl10⟩) (c10 : PySem.W.codeIn K cd10 "_law_wide" = true) (k10 : PySem.W.keepIn K (.ref f10) = true)
    (a11 : PySem.W.nsIn K mainGlobals "_law_same" = some (some (.ref f11))) (l11 : K.lookup f11 = some ⟨oc11, od11, .func (PySem.W.fnOf "_law_same" "_law_same" (defArgs s_l_same) (defBody s_l_same) (defScope s_l_same) .none kV11 dc11 pm11 an11 cd11 ct11), sl11⟩) (c11 : PySem.W.codeIn K cd11 "_law_same" = true) (k11 : PySem.W.keepIn K (.ref f11) = true)
    (a12 : PySem.W.nsIn K mainGlobals "_law_written" = some (some (.ref f12))) (l12 : K.lookup f12 = some ⟨oc12, od12, .func (PySem.W.fnOf "_law_written" "_law_written" (defArgs s_l_written) (defBody s_l_written) (defScope s_l_written) .none kV12 dc12 pm12 an12 cd12 ct12), sl12⟩) (c12 : PySem.W.codeIn K cd12 "_law_written" = true) (k12 : PySem.W.keepIn K (.ref f12) = true)
    (a13 : PySem.W.nsIn K mainGlobals "_law_plus" = some (some (.ref f13))) (l13 : K.lookup f13 = some ⟨oc13, od13, .func (PySem.W.fnOf "_law_plus" "_law_plus" (defArgs s_l_plus) (defBody s_l_plus) (defScope s_l_plus) .none kV13 dc13 pm13 an13 cd13 ct13), sl13⟩) (c13 : PySem.W.codeIn K cd13 "_law_plus" = true) (k13 : PySem.W.keepIn K (.ref f13) = true)
    (a14 : PySem.W.nsIn K mainGlobals "_law_terms" = some (some (.ref f14))) (l14 : K.lookup f14 = some ⟨oc14, od14, .func (PySem.W.fnOf "_law_terms" "_law_terms" (defArgs s_l_terms) (defBody s_l_terms) (defScope s_l_terms) .none kV14 dc14 pm14 an14 cd14 ct14), sl14⟩) (c14 : PySem.W.codeIn K cd14 "_law_terms" = true) (k14 : PySem.W.keepIn K (.ref f14) = true)
    (a15 : PySem.W.nsIn K mainGlobals "_law_gcd" = some (some (.ref f15))) (l15 : K.lookup f15 = some ⟨oc15, od15, .func (PySem.W.fnOf "_law_gcd" "_law_gcd" (defArgs s_l_gcd) (defBody s_l_gcd) (defScope s_l_gcd) .none kV15 dc15 pm15 an15 cd15 ct15), sl15⟩) (c15 : PySem.W.codeIn K cd15 "_law_gcd" = true) (k15 : PySem.W.keepIn K (.ref f15) = true)
    (a16 : PySem.W.nsIn K mainGlobals "_law_lowest" = some (some (.ref f16))) (l16 : K.lookup f16 = some ⟨oc16, od16, .func (PySem.W.fnOf "_law_lowest" "_law_lowest" (defArgs s_l_lowest) (defBody s_l_lowest) (defScope s_l_lowest) .none kV16 dc16 pm16 an16 cd16 ct16), sl16⟩) (c16 : PySem.W.codeIn K cd16 "_law_lowest" = true) (k16 : PySem.W.keepIn K (.ref f16) = true)
    (a17 : PySem.W.nsIn K mainGlobals "_law_worth" = some (some (.ref f17))) (l17 : K.lookup f17 = some ⟨oc17, od17, .func (PySem.W.fnOf "_law_worth" "_law_worth" (defArgs s_l_worth) (defBody s_l_worth) (defScope s_l_worth) .none kV17 dc17 pm17 an17 cd17 ct17), sl17⟩) (c17 : PySem.W.codeIn K cd17 "_law_worth" = true) (k17 : PySem.W.keepIn K (.ref f17) = true)
    (a18 : PySem.W.nsIn K mainGlobals "_law_numbers" = some (some (.ref f18))) (l18 : K.lookup f18 = some ⟨oc18, od18, .func (PySem.W.fnOf "_law_numbers" "_law_numbers" (defArgs s_l_numbers) (defBody s_l_numbers) (defScope s_l_numbers) .none kV18 dc18 pm18 an18 cd18 ct18), sl18⟩) (c18 : PySem.W.codeIn K cd18 "_law_numbers" = true) (k18 : PySem.W.keepIn K (.ref f18) = true)
    (a19 : PySem.W.nsIn K mainGlobals "_law_balanced" = some (some (.ref f19))) (l19 : K.lookup f19 = some ⟨oc19, od19, .func (PySem.W.fnOf "_law_balanced" "_law_balanced" (defArgs s_l_balanced) (defBody s_l_balanced) (defScope s_l_balanced) .none kV19 dc19 pm19 an19 cd19 ct19), sl19⟩) (c19 : PySem.W.codeIn K cd19 "_law_balanced" = true) (k19 : PySem.W.keepIn K (.ref f19) = true)
    (a20 : PySem.W.nsIn K mainGlobals "_law_long" = some (some (.ref f20))) (l20 : K.lookup f20 = some ⟨oc20, od20, .func (PySem.W.fnOf "_law_long" "_law_long" (defArgs s_l_long) (defBody s_l_long) (defScope s_l_long) .none kV20 dc20 pm20 an20 cd20 ct20), sl20⟩) (c20 : PySem.W.codeIn K cd20 "_law_long" = true) (k20 : PySem.W.keepIn K (.ref f20) = true)
    (a21 : PySem.W.nsIn K mainGlobals "_law_is_told" = some (some (.ref f21))) (l21 : K.lookup f21 = some ⟨oc21, od21, .func (PySem.W.fnOf "_law_is_told" "_law_is_told" (defArgs s_l_is_told) (defBody s_l_is_told) (defScope s_l_is_told) .none kV21 dc21 pm21 an21 cd21 ct21), sl21⟩) (c21 : PySem.W.codeIn K cd21 "_law_is_told" = true) (k21 : PySem.W.keepIn K (.ref f21) = true)
    (a22 : PySem.W.nsIn K mainGlobals "law" = some (some (.ref f22))) (l22 : K.lookup f22 = some ⟨oc22, od22, .func (PySem.W.fnOf "law" "law" (defArgs s_law) (defBody s_law) (defScope s_law) .none kV22 dc22 pm22 an22 cd22 ct22), sl22⟩) (c22 : PySem.W.codeIn K cd22 "law" = true) (k22 : PySem.W.keepIn K (.ref f22) = true)
    (z_abs : PySem.W.nsIn K mainGlobals "abs" = some none)
    (z_bool : PySem.W.nsIn K mainGlobals "bool" = some none)
    (z_gcd : PySem.W.nsIn K mainGlobals "gcd" = some (some (.builtin "math.gcd")))
    (z_int : PySem.W.nsIn K mainGlobals "int" = some none)
    (z_isinstance : PySem.W.nsIn K mainGlobals "isinstance" = some none)
    (z_len : PySem.W.nsIn K mainGlobals "len" = some none)
    (z_list : PySem.W.nsIn K mainGlobals "list" = some none)
    (z_max : PySem.W.nsIn K mainGlobals "max" = some none)
    (z_min : PySem.W.nsIn K mainGlobals "min" = some none)
    (z_range : PySem.W.nsIn K mainGlobals "range" = some none)
    (z_sorted : PySem.W.nsIn K mainGlobals "sorted" = some none)
    (z_str : PySem.W.nsIn K mainGlobals "str" = some none)
    (z_tuple : PySem.W.nsIn K mainGlobals "tuple" = some none)
    (z_zip : PySem.W.nsIn K mainGlobals "zip" = some none) :
    ∃ fd : FuncData, (∀ (s : Shared) (v : Value), BindsTo s fd ⟨[v], []⟩ [("_law_script", v)]) ∧ ∀ base : Heap, K.In base → base.Ns mainGlobals mg → FnOk l.prog w K mg base CX0 8 fa fd ["_law_script"] (lowSp K spLawV) := by
  have e := hfa.symm.trans (PySem.W.mg_of X G a22)
  cases e
  exact ⟨PySem.W.fnOf "law" "law" (defArgs s_law) (defBody s_law) (defScope s_law) .none kV22 dc22 pm22 an22 cd22 ct22, fun s v => .of_eq rfl, fun base _ _ => ok_law { a_counted := f0, d_counted := _, F_counted := fun_mk (st := s_counted) l0 c0 k0, g_counted := PySem.W.mg_of X G a0, a_looks_right := f1, d_looks_right := _, F_looks_right := fun_mk (st := s_looks_right) l1 c1 k1, g_looks_right := PySem.W.mg_of X G a1, a_checked_sum := f2, d_checked_sum := _, F_checked_sum := fun_mk (st := s_checked_sum) l2 c2 k2, g_checked_sum := PySem.W.mg_of X G a2, a_checked_sums := f3, d_checked_sums := _, F_checked_sums := fun_mk (st := s_checked_sums) l3 c3 k3, g_checked_sums := PySem.W.mg_of X G a3, a_least_of := f4, d_least_of := _, F_least_of := fun_mk (st := s_least_of) l4 c4 k4, g_least_of := PySem.W.mg_of X G a4, a_greatest_of := f5, d_greatest_of := _, F_greatest_of := fun_mk (st := s_greatest_of) l5 c5 k5, g_greatest_of := PySem.W.mg_of X G a5, a_worth_above := f6, d_worth_above := _, F_worth_above := fun_mk (st := s_worth_above) l6 c6 k6, g_worth_above := PySem.W.mg_of X G a6, a_value := f7, d_value := _, F_value := fun_mk (st := s_value) l7 c7 k7, g_value := PySem.W.mg_of X G a7, a_l_stock := f8, d_l_stock := _, F_l_stock := fun_mk (st := s_l_stock) l8 c8 k8, g_l_stock := PySem.W.mg_of X G a8, a_l_pick := f9, d_l_pick := _, F_l_pick := fun_mk (st := s_l_pick) l9 c9 k9, g_l_pick := PySem.W.mg_of X G a9, a_l_wide := f10, d_l_wide := _, F_l_wide := fun_mk (st := s_l_wide) l10 c10 k10, g_l_wide := PySem.W.mg_of X G a10, a_l_same := f11, d_l_same := _, F_l_same := fun_mk (st := s_l_same) l11 c11 k11, g_l_same := PySem.W.mg_of X G a11, a_l_written := f12, d_l_written := _, F_l_written := fun_mk (st := s_l_written) l12 c12 k12, g_l_written := PySem.W.mg_of X G a12, a_l_plus := f13, d_l_plus := _, F_l_plus := fun_mk (st := s_l_plus) l13 c13 k13, g_l_plus := PySem.W.mg_of X G a13, a_l_terms := f14, d_l_terms := _, F_l_terms := fun_mk (st := s_l_terms) l14 c14 k14, g_l_terms := PySem.W.mg_of X G a14, a_l_gcd := f15, d_l_gcd := _, F_l_gcd := fun_mk (st := s_l_gcd) l15 c15 k15, g_l_gcd := PySem.W.mg_of X G a15, a_l_lowest := f16, d_l_lowest := _, F_l_lowest := fun_mk (st := s_l_lowest) l16 c16 k16, g_l_lowest := PySem.W.mg_of X G a16, a_l_worth := f17, d_l_worth := _, F_l_worth := fun_mk (st := s_l_worth) l17 c17 k17, g_l_worth := PySem.W.mg_of X G a17, a_l_numbers := f18, d_l_numbers := _, F_l_numbers := fun_mk (st := s_l_numbers) l18 c18 k18, g_l_numbers := PySem.W.mg_of X G a18, a_l_balanced := f19, d_l_balanced := _, F_l_balanced := fun_mk (st := s_l_balanced) l19 c19 k19, g_l_balanced := PySem.W.mg_of X G a19, a_l_long := f20, d_l_long := _, F_l_long := fun_mk (st := s_l_long) l20 c20 k20, g_l_long := PySem.W.mg_of X G a20, a_l_is_told := f21, d_l_is_told := _, F_l_is_told := fun_mk (st := s_l_is_told) l21 c21 k21, g_l_is_told := PySem.W.mg_of X G a21, a_law := fa, d_law := _, F_law := fun_mk (st := s_law) l22 c22 k22, g_law := hfa, z_abs := PySem.W.mg_none_of X G z_abs, z_bool := PySem.W.mg_none_of X G z_bool, z_gcd := PySem.W.mg_of X G z_gcd, z_int := PySem.W.mg_none_of X G z_int, z_isinstance := PySem.W.mg_none_of X G z_isinstance, z_len := PySem.W.mg_none_of X G z_len, z_list := PySem.W.mg_none_of X G z_list, z_max := PySem.W.mg_none_of X G z_max, z_min := PySem.W.mg_none_of X G z_min, z_range := PySem.W.mg_none_of X G z_range, z_sorted := PySem.W.mg_none_of X G z_sorted, z_str := PySem.W.mg_none_of X G z_str, z_tuple := PySem.W.mg_none_of X G z_tuple, z_zip := PySem.W.mg_none_of X G z_zip }⟩
end LW
open PySem PySem.W PyProof.Rows
set_option maxHeartbeats 0 in
theorem PySem.Challenge.cw_neverhalves_k03_whole_values_as_fraction_holds : PySem.Challenge.rw_neverhalves_k03_whole_values_as_fraction.Holds := by
  w_on; o_law; k_head; (case hw => w_witness2)
  k_fill
  refine L2.walk_of (l := PySem.Challenge.rw_neverhalves_k03_whole_values_as_fraction) (n := 63) (k := 8) (x := "_law_script") (CX := fun _ => L2.CX0) (sp := fun w => VL.lowSp _ VL.spLawV) rfl (by decide) rfl ⟨rfl, by decide, by decide⟩ (fun w h Y => PySem.W.kIn_of Y) ?F (fun _ _ a ns hl hO hS => VL.law_low hl hO hS) (fun _ _ _ _ _ h => h)
  case F =>
    intro w mg fa h KX G hmg
    refine' LW.all_mk KX G hmg ?a0 ?l0 ?c0 ?k0 ?a1 ?l1 ?c1 ?k1 ?a2 ?l2 ?c2 ?k2 ?a3 ?l3 ?c3 ?k3 ?a4 ?l4 ?c4 ?k4 ?a5 ?l5 ?c5 ?k5 ?a6 ?l6 ?c6 ?k6 ?a7 ?l7 ?c7 ?k7 ?a8 ?l8 ?c8 ?k8 ?a9 ?l9 ?c9 ?k9 ?a10 ?l10 ?c10 ?k10 ?a11 ?l11 ?c11 ?k11 ?a12 ?l12 ?c12 ?k12 ?a13 ?l13 ?c13 ?k13 ?a14 ?l14 ?c14 ?k14 ?a15 ?l15 ?c15 ?k15 ?a16 ?l16 ?c16 ?k16 ?a17 ?l17 ?c17 ?k17 ?a18 ?l18 ?c18 ?k18 ?a19 ?l19 ?c19 ?k19 ?a20 ?l20 ?c20 ?k20 ?a21 ?l21 ?c21 ?k21 ?a22 ?l22 ?c22 ?k22 ?z_abs ?z_bool ?z_gcd ?z_int ?z_isinstance ?z_len ?z_list ?z_max ?z_min ?z_range ?z_sorted ?z_str ?z_tuple ?z_zip
    (case a0 => k_is); (case l0 => k_is); (case c0 => k_is); (case k0 => k_is)
    (case a1 => k_is); (case l1 => k_is); (case c1 => k_is); (case k1 => k_is)
    (case a2 => k_is); (case l2 => k_is); (case c2 => k_is); (case k2 => k_is)
    (case a3 => k_is); (case l3 => k_is); (case c3 => k_is); (case k3 => k_is)
    (case a4 => k_is); (case l4 => k_is); (case c4 => k_is); (case k4 => k_is)
    (case a5 => k_is); (case l5 => k_is); (case c5 => k_is); (case k5 => k_is)
    (case a6 => k_is); (case l6 => k_is); (case c6 => k_is); (case k6 => k_is)
    (case a7 => k_is); (case l7 => k_is); (case c7 => k_is); (case k7 => k_is)
    (case a8 => k_is); (case l8 => k_is); (case c8 => k_is); (case k8 => k_is)
    (case a9 => k_is); (case l9 => k_is); (case c9 => k_is); (case k9 => k_is)
    (case a10 => k_is); (case l10 => k_is); (case c10 => k_is); (case k10 => k_is)
    (case a11 => k_is); (case l11 => k_is); (case c11 => k_is); (case k11 => k_is)
    (case a12 => k_is); (case l12 => k_is); (case c12 => k_is); (case k12 => k_is)
    (case a13 => k_is); (case l13 => k_is); (case c13 => k_is); (case k13 => k_is)
    (case a14 => k_is); (case l14 => k_is); (case c14 => k_is); (case k14 => k_is)
    (case a15 => k_is); (case l15 => k_is); (case c15 => k_is); (case k15 => k_is)
    (case a16 => k_is); (case l16 => k_is); (case c16 => k_is); (case k16 => k_is)
    (case a17 => k_is); (case l17 => k_is); (case c17 => k_is); (case k17 => k_is)
    (case a18 => k_is); (case l18 => k_is); (case c18 => k_is); (case k18 => k_is)
    (case a19 => k_is); (case l19 => k_is); (case c19 => k_is); (case k19 => k_is)
    (case a20 => k_is); (case l20 => k_is); (case c20 => k_is); (case k20 => k_is)
    (case a21 => k_is); (case l21 => k_is); (case c21 => k_is); (case k21 => k_is)
    (case a22 => k_is); (case l22 => k_is); (case c22 => k_is); (case k22 => k_is)
    (case z_abs => k_is)
    (case z_bool => k_is)
    (case z_gcd => k_is)
    (case z_int => k_is)
    (case z_isinstance => k_is)
    (case z_len => k_is)
    (case z_list => k_is)
    (case z_max => k_is)
    (case z_min => k_is)
    (case z_range => k_is)
    (case z_sorted => k_is)
    (case z_str => k_is)
    (case z_tuple => k_is)
    (case z_zip => k_is)
