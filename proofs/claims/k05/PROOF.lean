import PyProof.Rows.All
import Wide.All
import OpenK.AllK
import Wide.FinOn
import HandS.ForMost
import HandS.ForExc
import HandS.CallSlots
import HandS.IsInst
import HandS.Wide
import HandS.TupAny
import HandS.Defaults
import HandS.MakeKwOnly
import HandS.Flow
import KE.DataEq
import KE.GoesEnum
import HandS.More
import HandS.MakeKw
import HandS.OwnEq
import HandS.ExcOwn
import KE.KFmtOwn
import KE.KStateDown
import HandS.Head0
import HandS.Head1
import HandS.Head2
import HandS.HeadEnd
import HandS.HeadHook1
import HandS.HeadHook2
import PySem.Challenge.RW_gridlanes_k05_whole_grids_made
set_option Elab.async false
set_option linter.all false
set_option maxRecDepth 100000
set_option maxHeartbeats 4000000
namespace PL
open PySem PySem.Spec PyProof.Rows L2

inductive D where
  | non | bl (b : Bool) | int (i : Int) | str (x : Str)
  | tup (ds : List D) | lst (ds : List D) | ins (c : Nat) (ds : List D)
  | cell (i : Nat) | dic | ty (n : String) | cls (c : Nat)
structure TB where
  fl : Nat → List Str
  ins : Nat → Bool
structure Tab extends TB where
  C : Nat → Addr
def TupR (K : PySem.W.Frag) (G : Hp) (a : Addr) (xs : List V) : Prop :=
  G a = some (.tup xs) ∨ ∃ (o : Obj) (its : Array Value) (n : Nat), K.lookup a = some o ∧ o.cls = .type "tuple" ∧ o.data = .seq its n ∧ its.size ≤ sizeLine ∧ Vals xs its.toList
theorem TupR.sq {K : PySem.W.Frag} {G : Hp} {a : Addr} {xs : List V} (h : TupR K G a xs) : SqT K G a xs := h.elim (fun h => .inl (.inl h)) .inr

section
variable (K : PySem.W.Frag) (T : Tab) (G : Hp) (ρ : List Addr)
mutual
def Rep : D → V → Prop
  | .non, v => v = .non
  | .bl b, v => v = .bl b
  | .int i, v => v = .int i
  | .str x, v => v = .str x
  | .tup ds, v => ∃ a vs, v = .ref a ∧ TupR K G a vs ∧ RepL ds vs
  | .lst ds, v => ∃ a vs, v = .ref a ∧ SqL K G a vs ∧ RepL ds vs
  | .ins c ds, v => ∃ a dx vs, v = .ref a ∧ G a = some (.ins (T.C c) dx ((T.fl c).zip vs)) ∧ vs.length = (T.fl c).length ∧ RepL ds vs
  | .cell i, v => ∃ a, ρ[i]? = some a ∧ v = .ref a
  | .dic, v => ∃ a, v = .ref a ∧ G a = some (.dK [])
  | .ty n, v => v = .ty n
  | .cls c, v => v = .ref (T.C c)
def RepL : List D → List V → Prop
  | [], vs => vs = []
  | d :: ds, vs => ∃ v r, vs = v :: r ∧ Rep d v ∧ RepL ds r
end
def RepF : List (Str × D) → List (Str × V) → Prop
  | [], vs => vs = []
  | (n, d) :: fs, vs => ∃ v r, vs = (n, v) :: r ∧ Rep K T G ρ d v ∧ RepF fs r
end

def Ge (G G' : Hp) : Prop := ∀ b o, G b = some o → G' b = some o
theorem Ge.rfl' {G : Hp} : Ge G G := fun _ _ h => h
theorem Ge.trans {G G1 G2 : Hp} (a : Ge G G1) (b : Ge G1 G2) : Ge G G2 := fun c o h => b c o (a c o h)
theorem Ge.upd {G : Hp} {p : Addr} {o : HO} (h : G p = none) : Ge G (upd G p o) := fun b u e => by rw [upd_ne (ne_of_none e h)]; exact e
theorem Rd.ge {G G' : Hp} {a : Addr} {u : HO} (h : Rd G a u) (e : Ge G G') : Rd G' a u := by
  rcases h with h | ⟨o, h⟩
  · exact .inl (e _ _ h)
  · exact .inr ⟨o, e _ _ h⟩
theorem SqL.ge {K : PySem.W.Frag} {G G' : Hp} {a : Addr} {xs : List V} (h : SqL K G a xs) (e : Ge G G') : SqL K G' a xs := h.elim (fun h => .inl (Rd.ge h e)) .inr
theorem SqT.ge {K : PySem.W.Frag} {G G' : Hp} {a : Addr} {xs : List V} (h : SqT K G a xs) (e : Ge G G') : SqT K G' a xs := h.elim (fun h => .inl (Rd.ge h e)) .inr
theorem TupR.ge {K : PySem.W.Frag} {G G' : Hp} {a : Addr} {xs : List V} (h : TupR K G a xs) (e : Ge G G') : TupR K G' a xs := h.elim (fun h => .inl (e _ _ h)) .inr
theorem pre_get {α : Type} {l l' : List α} {i : Nat} {x : α} (h : l <+: l') (e : l[i]? = some x) : l'[i]? = some x := by
  obtain ⟨r, rfl⟩ := h
  rw [List.getElem?_append_left (List.getElem?_eq_some_iff.mp e).1]
  exact e

section
variable {K : PySem.W.Frag} {T : Tab} {G G' : Hp} {ρ ρ' : List Addr}
mutual
theorem Rep.ge (g : Ge G G') (p : ρ <+: ρ') : ∀ (d : D) (v : V), Rep K T G ρ d v → Rep K T G' ρ' d v
  | .non, _, h => by unfold Rep at *; exact h
  | .bl _, _, h => by unfold Rep at *; exact h
  | .int _, _, h => by unfold Rep at *; exact h
  | .str _, _, h => by unfold Rep at *; exact h
  | .tup ds, v, h => by
    unfold Rep at *
    obtain ⟨a, vs, e, s, r⟩ := h
    exact ⟨a, vs, e, TupR.ge s g, RepL.ge g p ds vs r⟩
  | .lst ds, v, h => by
    unfold Rep at *
    obtain ⟨a, vs, e, s, r⟩ := h
    exact ⟨a, vs, e, SqL.ge s g, RepL.ge g p ds vs r⟩
  | .ins c ds, v, h => by
    unfold Rep at *
    obtain ⟨a, dx, vs, e, s, l, r⟩ := h
    exact ⟨a, dx, vs, e, g _ _ s, l, RepL.ge g p ds vs r⟩
  | .cell i, v, h => by
    unfold Rep at *
    obtain ⟨a, e, q⟩ := h
    exact ⟨a, pre_get p e, q⟩
  | .dic, v, h => by
    unfold Rep at *
    obtain ⟨a, e, s⟩ := h
    exact ⟨a, e, g _ _ s⟩
  | .ty _, _, h => by unfold Rep at *; exact h
  | .cls _, _, h => by unfold Rep at *; exact h
theorem RepL.ge (g : Ge G G') (p : ρ <+: ρ') : ∀ (ds : List D) (vs : List V), RepL K T G ρ ds vs → RepL K T G' ρ' ds vs
  | [], _, h => by unfold RepL at *; exact h
  | d :: ds, _, h => by
    unfold RepL at *
    obtain ⟨v, r, e, a, b⟩ := h
    exact ⟨v, r, e, Rep.ge g p d v a, RepL.ge g p ds r b⟩
end
theorem RepF.ge (g : Ge G G') (p : ρ <+: ρ') : ∀ (ds : List (Str × D)) (vs : List (Str × V)), RepF K T G ρ ds vs → RepF K T G' ρ' ds vs
  | [], _, h => by unfold RepF at *; exact h
  | (n, d) :: ds, _, h => by
    unfold RepF at *
    obtain ⟨v, r, e, a, b⟩ := h
    exact ⟨v, r, e, Rep.ge g p d v a, RepF.ge g p ds r b⟩

theorem RepL.nil : RepL K T G ρ [] [] := by unfold RepL; rfl
theorem RepL.cons {d : D} {v : V} {ds : List D} {vs : List V} (h : Rep K T G ρ d v) (t : RepL K T G ρ ds vs) : RepL K T G ρ (d :: ds) (v :: vs) := by unfold RepL; exact ⟨v, vs, rfl, h, t⟩
theorem RepL.inv {d : D} {ds : List D} {vs : List V} (h : RepL K T G ρ (d :: ds) vs) : ∃ v r, vs = v :: r ∧ Rep K T G ρ d v ∧ RepL K T G ρ ds r := by unfold RepL at h; exact h
theorem RepL.inv0 {vs : List V} (h : RepL K T G ρ [] vs) : vs = [] := by unfold RepL at h; exact h
theorem RepL.len : ∀ {ds : List D} {vs : List V}, RepL K T G ρ ds vs → vs.length = ds.length
  | [], _, h => by rw [h.inv0]; rfl
  | _ :: _, _, h => by
    obtain ⟨v, r, e, _, t⟩ := h.inv
    rw [e, List.length_cons, List.length_cons, t.len]
theorem RepL.app : ∀ {ds es : List D} {vs ws : List V}, RepL K T G ρ ds vs → RepL K T G ρ es ws → RepL K T G ρ (ds ++ es) (vs ++ ws)
  | [], _, _, _, h, t => by rw [h.inv0]; exact t
  | _ :: _, _, _, _, h, t => by
    obtain ⟨v, r, e, a, b⟩ := h.inv
    rw [e]
    exact RepL.cons a (RepL.app b t)
theorem RepL.get : ∀ {ds : List D} {vs : List V} {i : Nat} {d : D}, RepL K T G ρ ds vs → ds[i]? = some d → ∃ v, vs[i]? = some v ∧ Rep K T G ρ d v
  | [], _, _, _, _, e => by simp at e
  | _ :: _, _, 0, _, h, e => by
    obtain ⟨v, r, q, a, b⟩ := h.inv
    simp at e
    subst e q
    exact ⟨v, rfl, a⟩
  | _ :: _, _, i + 1, d, h, e => by
    obtain ⟨v, r, q, a, b⟩ := h.inv
    subst q
    obtain ⟨w, h1, h2⟩ := RepL.get (i := i) (d := d) b (by simpa using e)
    exact ⟨w, by simpa using h1, h2⟩
theorem RepL.set : ∀ {ds : List D} {vs : List V} (i : Nat) {d : D} {v : V}, RepL K T G ρ ds vs → Rep K T G ρ d v → RepL K T G ρ (ds.set i d) (vs.set i v)
  | [], _, _, _, _, h, _ => by rw [h.inv0]; exact RepL.nil
  | _ :: _, _, 0, _, _, h, x => by
    obtain ⟨v, r, q, a, b⟩ := h.inv
    subst q
    exact RepL.cons x b
  | _ :: _, _, i + 1, _, _, h, x => by
    obtain ⟨v, r, q, a, b⟩ := h.inv
    subst q
    exact RepL.cons a (RepL.set i b x)
theorem RepL.drop : ∀ {ds : List D} {vs : List V} (n : Nat), RepL K T G ρ ds vs → RepL K T G ρ (ds.drop n) (vs.drop n)
  | _, _, 0, h => h
  | [], _, _ + 1, h => by rw [h.inv0]; exact RepL.nil
  | _ :: _, _, n + 1, h => by
    obtain ⟨v, r, q, a, b⟩ := h.inv
    subst q
    exact RepL.drop n b
theorem RepL.take : ∀ {ds : List D} {vs : List V} (n : Nat), RepL K T G ρ ds vs → RepL K T G ρ (ds.take n) (vs.take n)
  | _, _, 0, _ => RepL.nil
  | [], _, _ + 1, h => by rw [h.inv0]; exact RepL.nil
  | _ :: _, _, n + 1, h => by
    obtain ⟨v, r, q, a, b⟩ := h.inv
    subst q
    exact RepL.cons a (RepL.take n b)
theorem RepL.rep {ds : List D} {vs : List V} (h : RepL K T G ρ ds vs) : ∀ k : Nat, RepL K T G ρ (List.replicate k ds).flatten (List.replicate k vs).flatten
  | 0 => RepL.nil
  | k + 1 => by
    rw [List.replicate_succ, List.replicate_succ, List.flatten_cons, List.flatten_cons]
    exact RepL.app h (RepL.rep h k)
theorem RepL.ints : ∀ {ns : List Int} {vs : List V}, RepL K T G ρ (ns.map D.int) vs → vs = ns.map V.int
  | [], _, h => by rw [h.inv0]; rfl
  | n :: ns, _, h => by
    obtain ⟨v, r, q, a, b⟩ := h.inv
    unfold Rep at a
    rw [q, a, b.ints]
    rfl
theorem RepL.bls : ∀ {ns : List Bool} {vs : List V}, RepL K T G ρ (ns.map D.bl) vs → vs = ns.map V.bl
  | [], _, h => by rw [h.inv0]; rfl
  | n :: ns, _, h => by
    obtain ⟨v, r, q, a, b⟩ := h.inv
    unfold Rep at a
    rw [q, a, b.bls]
    rfl
end

inductive Slot where
  | emp | val (d : D) | own (ds : List D) | obj (c : Nat) (fs : List (Str × D))
inductive Cell where
  | lst (ds : List D) | obj (c : Nat) (fs : List (Str × D))
structure AS where
  sl : List Slot
  st : List Cell
structure En where
  H0 : Hp
  G0 : Hp
  ρ0 : List Addr
  sf : Option Addr

section
variable (K : PySem.W.Frag) (T : Tab) (E : En)
def SlotR (G : Hp) (ρ : List Addr) (H : Hp) : Slot → Option V → Prop
  | .emp, _ => True
  | .val d, o => ∃ v, o = some v ∧ Rep K T G ρ d v
  | .own ds, o => ∃ b vs, o = some (.ref b) ∧ H b = some (.lst vs) ∧ RepL K T G ρ ds vs ∧ G b = none ∧ b ∉ ρ ∧ E.H0 b = none
  | .obj c fs, o => ∃ b dx fvs, o = some (.ref b) ∧ H b = some (.ins (T.C c) dx fvs) ∧ RepF K T G ρ fs fvs ∧ E.sf = some b
def CellR (G : Hp) (ρ : List Addr) (H : Hp) (b : Addr) : Cell → Prop
  | .lst ds => ∃ vs, H b = some (.lst vs) ∧ RepL K T G ρ ds vs
  | .obj c fs => ∃ dx fvs, H b = some (.ins (T.C c) dx fvs) ∧ RepF K T G ρ fs fvs
structure AR (G : Hp) (ρ : List Addr) (a : AS) (σ : L2.St) (H : Hp) : Prop where
  sub : ∀ b o, G b = some o → H b = some o
  len : a.sl.length = σ.length
  sl : ∀ (i : Nat) (s : Slot) (v : Option V), a.sl[i]? = some s → σ[i]? = some v → SlotR K T E G ρ H s v
  nd : ∀ (i j : Nat) (b : Addr) (ds es : List D), i ≠ j → a.sl[i]? = some (.own ds) → a.sl[j]? = some (.own es) → σ[i]? = some (some (.ref b)) → σ[j]? = some (some (.ref b)) → False
  clen : a.st.length = ρ.length
  cl : ∀ (i : Nat) (b : Addr) (c : Cell), ρ[i]? = some b → a.st[i]? = some c → CellR K T G ρ H b c
  cnd : ρ.Nodup
  cG : ∀ b ∈ ρ, G b = none
  fr : ∀ b o, E.H0 b = some o → b ∉ E.ρ0 → E.sf ≠ some b → H b = some o
  gnew : ∀ b o, G b = some o → E.G0 b = some o ∨ E.H0 b = none
  gext : ∀ b o, E.G0 b = some o → G b = some o
  rext : E.ρ0 <+: ρ
  rnew : ∀ b ∈ ρ, b ∈ E.ρ0 ∨ E.H0 b = none
  sfH : ∀ b, E.sf = some b → E.H0 b ≠ none ∧ H b ≠ none ∧ G b = none ∧ b ∉ ρ
end
def Slot.isOwn : Slot → Bool
  | .own _ => true
  | _ => false

section
variable {K : PySem.W.Frag} {T : Tab} {E : En} {G : Hp} {ρ : List Addr} {a : AS} {σ : L2.St} {H : Hp}

theorem AR.cellH (r : AR K T E G ρ a σ H) {b : Addr} (hb : b ∈ ρ) : H b ≠ none := by
  obtain ⟨i, hi⟩ := List.getElem?_of_mem hb
  have hl : i < a.st.length := by rw [r.clen]; exact (List.getElem?_eq_some_iff.mp hi).1
  have hc := r.cl i b _ hi (List.getElem?_eq_getElem hl)
  cases e : a.st[i] with
  | lst ds =>
    rw [e] at hc
    obtain ⟨vs, q, _⟩ := hc
    rw [q]
    exact fun z => nomatch z
  | obj c fs =>
    rw [e] at hc
    obtain ⟨dx, vs, q, _⟩ := hc
    rw [q]
    exact fun z => nomatch z
theorem AR.fresh (r : AR K T E G ρ a σ H) {p : Addr} (hp : H p = none) : E.H0 p = none ∧ G p = none ∧ p ∉ ρ := by
  have h1 : G p = none := by
    cases e : G p with
    | none => rfl
    | some o => rw [r.sub p o e] at hp; cases hp
  have h2 : p ∉ ρ := fun z => r.cellH z hp
  refine ⟨?_, h1, h2⟩
  cases e : E.H0 p with
  | none => rfl
  | some o =>
    by_cases z : p ∈ E.ρ0
    · exact absurd (r.rext.subset z) h2
    · by_cases y : E.sf = some p
      · exact absurd hp (r.sfH p y).2.1
      · rw [r.fr p o e z y] at hp; cases hp
theorem SlotR.ge {G' : Hp} {ρ' : List Addr} {H' : Hp} {s : Slot} {v : Option V} (h : SlotR K T E G ρ H s v) (g : Ge G G') (p : ρ <+: ρ') (hH : ∀ b o, H b = some o → H' b = some o)
    (hG : ∀ b, H b ≠ none → G b = none → G' b = none) (hr : ∀ b, H b ≠ none → b ∉ ρ → b ∉ ρ') : SlotR K T E G' ρ' H' s v := by
  cases s with
  | emp => trivial
  | val d => obtain ⟨x, e, q⟩ := h; exact ⟨x, e, Rep.ge g p _ _ q⟩
  | own ds =>
    obtain ⟨b, vs, e, hb, q, h1, h2, h3⟩ := h
    have nn : H b ≠ none := by rw [hb]; exact fun z => nomatch z
    exact ⟨b, vs, e, hH _ _ hb, RepL.ge g p _ _ q, hG b nn h1, hr b nn h2, h3⟩
  | obj c fs =>
    obtain ⟨b, dx, fvs, e, hb, q, h3⟩ := h
    exact ⟨b, dx, fvs, e, hH _ _ hb, RepF.ge g p _ _ q, h3⟩
theorem CellR.ge {G' : Hp} {ρ' : List Addr} {H' : Hp} {b : Addr} {c : Cell} (h : CellR K T G ρ H b c) (g : Ge G G') (p : ρ <+: ρ') (hH : ∀ o, H b = some o → H' b = some o) : CellR K T G' ρ' H' b c := by
  cases c with
  | lst ds => obtain ⟨vs, e, q⟩ := h; exact ⟨vs, hH _ e, RepL.ge g p _ _ q⟩
  | obj k fs => obtain ⟨dx, vs, e, q⟩ := h; exact ⟨dx, vs, hH _ e, RepF.ge g p _ _ q⟩

theorem AR.lay (r : AR K T E G ρ a σ H) {p : Addr} {o : HO} (hp : H p = none) : Ge G (upd G p o) ∧ AR K T E (upd G p o) ρ a σ (upd H p o) := by
  obtain ⟨h0, hG, hr⟩ := r.fresh hp
  have g : Ge G (upd G p o) := Ge.upd hG
  have keep : ∀ b u, H b = some u → upd H p o b = some u := fun b u e => by rw [upd_ne (ne_of_none e hp)]; exact e
  have nG : ∀ b, H b ≠ none → G b = none → upd G p o b = none := fun b nn e => by
    have nb : b ≠ p := fun z => nn (z ▸ hp)
    rw [upd_ne nb]
    exact e
  refine ⟨g, ⟨fun b u e => ?_, r.len, fun i s v e1 e2 => (r.sl i s v e1 e2).ge g (List.prefix_refl _) keep nG (fun _ _ z => z), r.nd, r.clen, fun i b c e1 e2 => (r.cl i b c e1 e2).ge g (List.prefix_refl _) (fun u e => keep b u e), r.cnd,
    fun b hb => nG b (r.cellH hb) (r.cG b hb), fun b u e h1 h2 => keep b u (r.fr b u e h1 h2), fun b u e => ?_, fun b u e => g b u (r.gext b u e), r.rext, r.rnew, fun b e => ?_⟩⟩
  · by_cases hb : b = p
    · subst hb; rw [upd_same] at e ⊢; exact e
    · rw [upd_ne hb] at e ⊢; exact r.sub b u e
  · by_cases hb : b = p
    · subst hb; exact .inr h0
    · rw [upd_ne hb] at e; exact r.gnew b u e
  · obtain ⟨q1, q2, q3, q4⟩ := r.sfH b e
    have nb : b ≠ p := fun z => q2 (z ▸ hp)
    exact ⟨q1, by rw [upd_ne nb]; exact q2, by rw [upd_ne nb]; exact q3, q4⟩
theorem AR.junk (r : AR K T E G ρ a σ H) {p : Addr} {o : HO} (hp : H p = none) : AR K T E G ρ a σ (upd H p o) := by
  obtain ⟨h0, hG, hr⟩ := r.fresh hp
  have keep : ∀ b u, H b = some u → upd H p o b = some u := fun b u e => by rw [upd_ne (ne_of_none e hp)]; exact e
  refine ⟨fun b u e => keep b u (r.sub b u e), r.len, fun i s v e1 e2 => (r.sl i s v e1 e2).ge Ge.rfl' (List.prefix_refl _) keep (fun _ _ z => z) (fun _ _ z => z), r.nd, r.clen, fun i b c e1 e2 => (r.cl i b c e1 e2).ge Ge.rfl' (List.prefix_refl _) (fun u e => keep b u e), r.cnd,
    r.cG, fun b u e h1 h2 => keep b u (r.fr b u e h1 h2), r.gnew, r.gext, r.rext, r.rnew, fun b e => ?_⟩
  obtain ⟨q1, q2, q3, q4⟩ := r.sfH b e
  have nb : b ≠ p := fun z => q2 (z ▸ hp)
  exact ⟨q1, by rw [upd_ne nb]; exact q2, q3, q4⟩
theorem AR.slen (r : AR K T E G ρ a σ H) {i : Nat} {s : Slot} (h : a.sl[i]? = some s) : ∃ v, σ[i]? = some v := by
  have : i < σ.length := by rw [← r.len]; exact (List.getElem?_eq_some_iff.mp h).1
  exact ⟨_, List.getElem?_eq_getElem this⟩
theorem AR.val (r : AR K T E G ρ a σ H) {i : Nat} {d : D} (h : a.sl[i]? = some (.val d)) : ∃ v, σ[i]? = some (some v) ∧ Rep K T G ρ d v := by
  obtain ⟨v, e⟩ := r.slen h
  obtain ⟨x, e2, q⟩ := r.sl i _ v h e
  exact ⟨x, by rw [e, e2], q⟩
theorem AR.setV (r : AR K T E G ρ a σ H) {d : D} {v : V} (i : Nat) (h : Rep K T G ρ d v) : AR K T E G ρ { a with sl := a.sl.set i (.val d) } (σ.set i (some v)) H := by
  refine ⟨r.sub, by simp [r.len], fun j s w e1 e2 => ?_, fun j k b ds es hjk e1 e2 e3 e4 => ?_, r.clen, r.cl, r.cnd, r.cG, r.fr, r.gnew, r.gext, r.rext, r.rnew, r.sfH⟩
  · by_cases hj : i = j
    · subst hj
      have l1 : i < a.sl.length := by have := (List.getElem?_eq_some_iff.mp e1).1; simpa using this
      have l2 : i < σ.length := by rw [← r.len]; exact l1
      rw [List.getElem?_set_self l1] at e1
      rw [List.getElem?_set_self l2] at e2
      cases e1; cases e2
      exact ⟨v, rfl, h⟩
    · rw [List.getElem?_set_ne hj] at e1 e2
      exact r.sl j s w e1 e2
  · have f : ∀ {m : Nat} {ds : List D}, (a.sl.set i (.val d))[m]? = some (.own ds) → i ≠ m := fun {m ds} e z => by
      subst z
      have l1 : i < a.sl.length := by have := (List.getElem?_eq_some_iff.mp e).1; simpa using this
      rw [List.getElem?_set_self l1] at e
      cases e
    have n1 := f e1
    have n2 := f e2
    rw [List.getElem?_set_ne n1] at e1 e3
    rw [List.getElem?_set_ne n2] at e2 e4
    exact r.nd j k b ds es hjk e1 e2 e3 e4
theorem AR.setE (r : AR K T E G ρ a σ H) (i : Nat) (o : Option V) : AR K T E G ρ { a with sl := a.sl.set i .emp } (σ.set i o) H := by
  refine ⟨r.sub, by simp [r.len], fun j s w e1 e2 => ?_, fun j k b ds es hjk e1 e2 e3 e4 => ?_, r.clen, r.cl, r.cnd, r.cG, r.fr, r.gnew, r.gext, r.rext, r.rnew, r.sfH⟩
  · by_cases hj : i = j
    · subst hj
      have l1 : i < a.sl.length := by have := (List.getElem?_eq_some_iff.mp e1).1; simpa using this
      rw [List.getElem?_set_self l1] at e1
      cases e1
      trivial
    · rw [List.getElem?_set_ne hj] at e1 e2
      exact r.sl j s w e1 e2
  · have f : ∀ {m : Nat} {ds : List D}, (a.sl.set i .emp)[m]? = some (.own ds) → i ≠ m := fun {m ds} e z => by
      subst z
      have l1 : i < a.sl.length := by have := (List.getElem?_eq_some_iff.mp e).1; simpa using this
      rw [List.getElem?_set_self l1] at e
      cases e
    have n1 := f e1
    have n2 := f e2
    rw [List.getElem?_set_ne n1] at e1 e3
    rw [List.getElem?_set_ne n2] at e2 e4
    exact r.nd j k b ds es hjk e1 e2 e3 e4
def Free (K : PySem.W.Frag) (T : Tab) (E : En) (G : Hp) (ρ : List Addr) (a : AS) (σ : L2.St) (b : Addr) : Prop :=
  G b = none ∧ b ∉ ρ ∧ E.H0 b = none ∧ ∀ (j : Nat) (ds : List D), a.sl[j]? = some (.own ds) → σ[j]? ≠ some (some (.ref b))
theorem AR.freeOf (r : AR K T E G ρ a σ H) {p : Addr} (hp : H p = none) : Free K T E G ρ a σ p := by
  obtain ⟨h0, hG, hr⟩ := r.fresh hp
  refine ⟨hG, hr, h0, fun j ds e1 e2 => ?_⟩
  obtain ⟨b, vs, e, hb, _⟩ := r.sl j _ _ e1 e2
  cases e
  rw [hb] at hp
  cases hp
theorem AR.setO (r : AR K T E G ρ a σ H) {ds : List D} {vs : List V} {p : Addr} (i : Nat) (f : Free K T E G ρ a σ p) (hp : H p = some (.lst vs)) (h : RepL K T G ρ ds vs) :
    AR K T E G ρ { a with sl := a.sl.set i (.own ds) } (σ.set i (some (.ref p))) H := by
  obtain ⟨f1, f2, f3, f4⟩ := f
  refine ⟨r.sub, by simp [r.len], fun j s w e1 e2 => ?_, fun j k b es fs hjk e1 e2 e3 e4 => ?_, r.clen, r.cl, r.cnd, r.cG, r.fr, r.gnew, r.gext, r.rext, r.rnew, r.sfH⟩
  · by_cases hj : i = j
    · subst hj
      have l1 : i < a.sl.length := by have := (List.getElem?_eq_some_iff.mp e1).1; simpa using this
      have l2 : i < σ.length := by rw [← r.len]; exact l1
      rw [List.getElem?_set_self l1] at e1
      rw [List.getElem?_set_self l2] at e2
      cases e1; cases e2
      exact ⟨p, vs, rfl, hp, h, f1, f2, f3⟩
    · rw [List.getElem?_set_ne hj] at e1 e2
      exact r.sl j s w e1 e2
  · by_cases hij : i = j
    · subst hij
      have l1 : i < a.sl.length := by have := (List.getElem?_eq_some_iff.mp e1).1; simpa using this
      have l2 : i < σ.length := by rw [← r.len]; exact l1
      rw [List.getElem?_set_self l2] at e3
      rw [List.getElem?_set_ne hjk] at e2 e4
      cases e3
      exact f4 k _ e2 e4
    · rw [List.getElem?_set_ne hij] at e1 e3
      by_cases hik : i = k
      · subst hik
        have l1 : i < a.sl.length := by have := (List.getElem?_eq_some_iff.mp e2).1; simpa using this
        have l2 : i < σ.length := by rw [← r.len]; exact l1
        rw [List.getElem?_set_self l2] at e4
        cases e4
        exact f4 j _ e1 e3
      · rw [List.getElem?_set_ne hik] at e2 e4
        exact r.nd j k b es fs hjk e1 e2 e3 e4
theorem AR.hold (r : AR K T E G ρ a σ H) {o : HO} {p : Addr} (f : Free K T E G ρ a σ p) (hp : H p = some o) (ns : E.sf ≠ some p) : Ge G (upd G p o) ∧ AR K T E (upd G p o) ρ a σ H := by
  obtain ⟨f1, f2, f3, f4⟩ := f
  have g : Ge G (upd G p o) := Ge.upd f1
  refine ⟨g, ⟨fun b u e => ?_, r.len, fun i s v e1 e2 => ?_, r.nd, r.clen, fun i b c e1 e2 => (r.cl i b c e1 e2).ge g (List.prefix_refl _) (fun u e => e), r.cnd, fun b hb => ?_, r.fr, fun b u e => ?_, fun b u e => g b u (r.gext b u e), r.rext, r.rnew, fun b e => ?_⟩⟩
  · by_cases hb : b = p
    · subst hb; rw [upd_same] at e; cases e; exact hp
    · rw [upd_ne hb] at e; exact r.sub b u e
  · have h := r.sl i s v e1 e2
    cases s with
    | emp => trivial
    | val d => obtain ⟨x, e, q⟩ := h; exact ⟨x, e, Rep.ge g (List.prefix_refl _) _ _ q⟩
    | own ds =>
      obtain ⟨b, ws, e, hb, q, h1, h2, h3⟩ := h
      have nb : b ≠ p := fun z => f4 i ds e1 (by rw [e2, e, z])
      exact ⟨b, ws, e, hb, RepL.ge g (List.prefix_refl _) _ _ q, by rw [upd_ne nb]; exact h1, h2, h3⟩
    | obj c fs => obtain ⟨b, dx, fvs, e, hb, q, h3⟩ := h; exact ⟨b, dx, fvs, e, hb, RepF.ge g (List.prefix_refl _) _ _ q, h3⟩
  · have nb : b ≠ p := fun z => f2 (z ▸ hb)
    rw [upd_ne nb]; exact r.cG b hb
  · by_cases hb : b = p
    · subst hb; exact .inr f3
    · rw [upd_ne hb] at e; exact r.gnew b u e
  · obtain ⟨q1, q2, q3, q4⟩ := r.sfH b e
    have nb : b ≠ p := fun z => ns (z ▸ e)
    exact ⟨q1, q2, by rw [upd_ne nb]; exact q3, q4⟩
theorem AR.own_sf (r : AR K T E G ρ a σ H) {p : Addr} (h : E.H0 p = none) : E.sf ≠ some p := fun z => (r.sfH p z).1 h
theorem AR.freeze (r : AR K T E G ρ a σ H) {i : Nat} {ds : List D} (h : a.sl[i]? = some (.own ds)) :
    ∃ b vs, σ[i]? = some (some (.ref b)) ∧ H b = some (.lst vs) ∧ RepL K T G ρ ds vs ∧ Ge G (upd G b (.lst vs)) ∧ AR K T E (upd G b (.lst vs)) ρ { a with sl := a.sl.set i (.val (.lst ds)) } σ H := by
  obtain ⟨v, e⟩ := r.slen h
  obtain ⟨b, vs, e2, hb, q, h1, h2, h3⟩ := r.sl i _ v h e
  subst e2
  refine ⟨b, vs, e, hb, q, Ge.upd h1, ?_⟩
  -- first forget the name, then hold, then set it
  have r1 := r.setE i (some (.ref b))
  have f : Free K T E G ρ { a with sl := a.sl.set i .emp } (σ.set i (some (.ref b))) b := by
    refine ⟨h1, h2, h3, fun j es e1 e3 => ?_⟩
    by_cases hj : i = j
    · subst hj
      have l1 : i < a.sl.length := by have := (List.getElem?_eq_some_iff.mp e1).1; simpa using this
      rw [List.getElem?_set_self l1] at e1
      cases e1
    · rw [List.getElem?_set_ne hj] at e1 e3
      exact r.nd i j b ds es hj h e1 e e3
  obtain ⟨g, r2⟩ := r1.hold f hb (r.own_sf h3)
  have r3 := r2.setV (d := .lst ds) (v := .ref b) i (by unfold Rep; exact ⟨b, vs, rfl, .inl (.inl upd_same), RepL.ge g (List.prefix_refl _) _ _ q⟩)
  have es : (σ.set i (some (V.ref b))).set i (some (.ref b)) = σ := by
    rw [List.set_set]
    apply List.ext_getElem?
    intro j
    by_cases hj : i = j
    · subst hj
      have l2 : i < σ.length := (List.getElem?_eq_some_iff.mp e).1
      rw [List.getElem?_set_self l2, e]
    · rw [List.getElem?_set_ne hj]
  rw [es] at r3
  have ea : ({ a with sl := a.sl.set i (.val (.lst ds)) } : AS) = { ({ a with sl := a.sl.set i .emp } : AS) with sl := (a.sl.set i .emp).set i (.val (.lst ds)) } := by
    simp [List.set_set]
  rw [ea]
  exact r3
theorem AR.newCellX (r : AR K T E G ρ a σ H) {cl : Cell} {p : Addr} (f : Free K T E G ρ a σ p) (hcl : CellR K T G (ρ ++ [p]) H p cl) :
    AR K T E G (ρ ++ [p]) { a with st := a.st ++ [cl] } σ H := by
  obtain ⟨f1, f2, f3, f4⟩ := f
  have pr : ρ <+: ρ ++ [p] := List.prefix_append _ _
  refine ⟨r.sub, r.len, fun i s v e1 e2 => ?_, r.nd, by simp [r.clen], fun i b c e1 e2 => ?_, ?_, fun b hb => ?_, r.fr, r.gnew, r.gext, r.rext.trans pr, fun b hb => ?_, fun b e => ?_⟩
  · have h := r.sl i s v e1 e2
    cases s with
    | emp => trivial
    | val d => obtain ⟨x, e, q⟩ := h; exact ⟨x, e, Rep.ge Ge.rfl' pr _ _ q⟩
    | own es =>
      obtain ⟨b, ws, e, hb, q, h1, h2, h3⟩ := h
      have nb : b ≠ p := fun z => f4 i es e1 (by rw [e2, e, z])
      exact ⟨b, ws, e, hb, RepL.ge Ge.rfl' pr _ _ q, h1, by simp [h2, nb], h3⟩
    | obj c fs => obtain ⟨b, dx, fvs, e, hb, q, h3⟩ := h; exact ⟨b, dx, fvs, e, hb, RepF.ge Ge.rfl' pr _ _ q, h3⟩
  · by_cases hi : i < ρ.length
    · rw [List.getElem?_append_left hi] at e1
      rw [List.getElem?_append_left (by rw [r.clen]; exact hi)] at e2
      exact (r.cl i b c e1 e2).ge Ge.rfl' pr (fun u e => e)
    · have l : i < (ρ ++ [p]).length := (List.getElem?_eq_some_iff.mp e1).1
      have ei : i = ρ.length := by simp at l; omega
      subst ei
      rw [List.getElem?_append_right (Nat.le_refl _)] at e1
      rw [← r.clen, List.getElem?_append_right (Nat.le_refl _)] at e2
      simp at e1 e2
      subst e1 e2
      exact hcl
  · rw [List.nodup_append]
    exact ⟨r.cnd, by simp, fun x hx y hy => by simp at hy; subst hy; exact fun z => f2 (z ▸ hx)⟩
  · rcases List.mem_append.mp hb with hb | hb
    · exact r.cG b hb
    · simp at hb; subst hb; exact f1
  · rcases List.mem_append.mp hb with hb | hb
    · exact r.rnew b hb
    · simp at hb; subst hb; exact .inr f3
  · obtain ⟨q1, q2, q3, q4⟩ := r.sfH b e
    exact ⟨q1, q2, q3, by simp only [List.mem_append, List.mem_singleton, not_or]; exact ⟨q4, fun z => q1 (z ▸ f3)⟩⟩
theorem AR.newCell (r : AR K T E G ρ a σ H) {ds : List D} {vs : List V} {p : Addr} (f : Free K T E G ρ a σ p) (hp : H p = some (.lst vs)) (h : RepL K T G ρ ds vs) :
    AR K T E G (ρ ++ [p]) { a with st := a.st ++ [.lst ds] } σ H := r.newCellX f ⟨vs, hp, RepL.ge Ge.rfl' (List.prefix_append _ _) _ _ h⟩
theorem AR.updO (r : AR K T E G ρ a σ H) {i : Nat} {ds es : List D} {ws : List V} (h : a.sl[i]? = some (.own ds)) {b : Addr} (hb : σ[i]? = some (some (.ref b))) (q : RepL K T G ρ es ws) :
    AR K T E G ρ { a with sl := a.sl.set i (.own es) } σ (upd H b (.lst ws)) := by
  obtain ⟨b', vs, e2, hb', _, h1, h2, h3⟩ := r.sl i _ _ h hb
  cases e2
  have l1 : i < a.sl.length := (List.getElem?_eq_some_iff.mp h).1
  have nsf := r.own_sf h3
  have oth : ∀ j s w, i ≠ j → a.sl[j]? = some s → σ[j]? = some w → SlotR K T E G ρ (upd H b (.lst ws)) s w := fun j s w hj e1 e3 => by
    have z := r.sl j s w e1 e3
    cases s with
    | emp => trivial
    | val d => exact z
    | own fs =>
      obtain ⟨c, us, e, hc, y⟩ := z
      have nb : c ≠ b := fun z => r.nd i j b ds fs hj h e1 hb (by rw [e3, e, z])
      exact ⟨c, us, e, by rw [upd_ne nb]; exact hc, y⟩
    | obj c fs =>
      obtain ⟨c', dx, fvs, e, hc, y1, y2⟩ := z
      have nb : c' ≠ b := fun z => nsf (z ▸ y2)
      exact ⟨c', dx, fvs, e, by rw [upd_ne nb]; exact hc, y1, y2⟩
  refine ⟨fun c u e => ?_, by simp [r.len], fun j s w e1 e3 => ?_, fun j k c xs ys hjk e1 e2 e3 e4 => ?_, r.clen, fun j c u e1 e3 => ?_, r.cnd, r.cG, fun c u e z1 z2 => ?_, r.gnew, r.gext, r.rext, r.rnew, fun c e => ?_⟩
  · rw [upd_ne (ne_of_none e h1)]; exact r.sub c u e
  · by_cases hj : i = j
    · subst hj
      rw [List.getElem?_set_self l1] at e1
      rw [hb] at e3
      cases e1; cases e3
      exact ⟨b, ws, rfl, upd_same, q, h1, h2, h3⟩
    · rw [List.getElem?_set_ne hj] at e1
      exact oth j s w hj e1 e3
  · have own_of : ∀ {m : Nat} {xs : List D}, (a.sl.set i (.own es))[m]? = some (.own xs) → ∃ ys, a.sl[m]? = some (.own ys) := fun {m xs} e => by
      by_cases hm : i = m
      · subst hm; exact ⟨ds, h⟩
      · rw [List.getElem?_set_ne hm] at e; exact ⟨xs, e⟩
    obtain ⟨x1, y1⟩ := own_of e1
    obtain ⟨x2, y2⟩ := own_of e2
    exact r.nd j k c x1 x2 hjk y1 y2 e3 e4
  · refine (r.cl j c u e1 e3).ge Ge.rfl' (List.prefix_refl _) fun o e => ?_
    have nb : c ≠ b := fun z => h2 (z ▸ List.mem_of_getElem? e1)
    rw [upd_ne nb]; exact e
  · rw [upd_ne (ne_of_none e h3)]; exact r.fr c u e z1 z2
  · obtain ⟨q1, q2, q3, q4⟩ := r.sfH c e
    have nb : c ≠ b := fun z => nsf (z ▸ e)
    exact ⟨q1, by rw [upd_ne nb]; exact q2, q3, q4⟩
theorem AR.updCX (r : AR K T E G ρ a σ H) {i : Nat} {c cl : Cell} {o' : HO} (h : a.st[i]? = some c) {b : Addr} (hb : ρ[i]? = some b) (q : CellR K T G ρ (upd H b o') b cl) :
    AR K T E G ρ { a with st := a.st.set i cl } σ (upd H b o') := by
  have hm : b ∈ ρ := List.mem_of_getElem? hb
  have h1 := r.cG b hm
  have l1 : i < a.st.length := (List.getElem?_eq_some_iff.mp h).1
  have nsf : E.sf ≠ some b := fun z => (r.sfH b z).2.2.2 hm
  refine ⟨fun c u e => ?_, r.len, fun j s w e1 e3 => ?_, r.nd, by simp [r.clen], fun j c u e1 e3 => ?_, r.cnd, r.cG, fun c u e z1 z2 => ?_, r.gnew, r.gext, r.rext, r.rnew, fun c e => ?_⟩
  · rw [upd_ne (ne_of_none e h1)]; exact r.sub c u e
  · have z := r.sl j s w e1 e3
    cases s with
    | emp => trivial
    | val d => exact z
    | own fs =>
      obtain ⟨c, us, e, hc, y1, y2, y3, y4⟩ := z
      have nb : c ≠ b := fun z => y3 (z ▸ hm)
      exact ⟨c, us, e, by rw [upd_ne nb]; exact hc, y1, y2, y3, y4⟩
    | obj c fs =>
      obtain ⟨c', dx, fvs, e, hc, y1, y2⟩ := z
      have nb : c' ≠ b := fun z => nsf (z ▸ y2)
      exact ⟨c', dx, fvs, e, by rw [upd_ne nb]; exact hc, y1, y2⟩
  · by_cases hj : i = j
    · subst hj
      rw [List.getElem?_set_self l1] at e3
      rw [hb] at e1
      cases e1; cases e3
      exact q
    · rw [List.getElem?_set_ne hj] at e3
      refine (r.cl j c u e1 e3).ge Ge.rfl' (List.prefix_refl _) fun o e => ?_
      have nb : c ≠ b := fun z => hj ((List.getElem?_inj (List.getElem?_eq_some_iff.mp hb).1 r.cnd).mp (by rw [hb, e1, z]))
      rw [upd_ne nb]; exact e
  · have nb : c ≠ b := fun z => by
      subst z
      rcases r.rnew c hm with y | y
      · exact z1 y
      · rw [y] at e; cases e
    rw [upd_ne nb]; exact r.fr c u e z1 z2
  · obtain ⟨q1, q2, q3, q4⟩ := r.sfH c e
    have nb : c ≠ b := fun z => nsf (z ▸ e)
    exact ⟨q1, by rw [upd_ne nb]; exact q2, q3, q4⟩
theorem AR.updC (r : AR K T E G ρ a σ H) {i : Nat} {c : Cell} {es : List D} {ws : List V} (h : a.st[i]? = some c) {b : Addr} (hb : ρ[i]? = some b) (q : RepL K T G ρ es ws) :
    AR K T E G ρ { a with st := a.st.set i (.lst es) } σ (upd H b (.lst ws)) := r.updCX h hb ⟨ws, upd_same, q⟩
theorem AR.updS (r : AR K T E G ρ a σ H) {i cc : Nat} {fs gs : List (Str × D)} {gvs : List (Str × V)} {dx : Addr} (h : a.sl[i]? = some (.obj cc fs)) (uniq : ∀ j, j ≠ i → ∀ c' f', a.sl[j]? ≠ some (.obj c' f')) {b : Addr} (hb : σ[i]? = some (some (.ref b)))
    (q : RepF K T G ρ gs gvs) : AR K T E G ρ { a with sl := a.sl.set i (.obj cc gs) } σ (upd H b (.ins (T.C cc) dx gvs)) := by
  obtain ⟨b', dx', fvs, e2, hb', _, h3⟩ := r.sl i _ _ h hb
  cases e2
  obtain ⟨s1, s2, s3, s4⟩ := r.sfH b h3
  have l1 : i < a.sl.length := (List.getElem?_eq_some_iff.mp h).1
  refine ⟨fun c u e => ?_, by simp [r.len], fun j s w e1 e3 => ?_, fun j k c xs ys hjk e1 e2 e3 e4 => ?_, r.clen, fun j c u e1 e3 => ?_, r.cnd, r.cG, fun c u e z1 z2 => ?_, r.gnew, r.gext, r.rext, r.rnew, fun c e => ?_⟩
  · rw [upd_ne (ne_of_none e s3)]; exact r.sub c u e
  · by_cases hj : i = j
    · subst hj
      rw [List.getElem?_set_self l1] at e1
      rw [hb] at e3
      cases e1; cases e3
      exact ⟨b, dx, gvs, rfl, upd_same, q, h3⟩
    · rw [List.getElem?_set_ne hj] at e1
      have z := r.sl j s w e1 e3
      cases s with
      | emp => trivial
      | val d => exact z
      | own fs =>
        obtain ⟨c, us, e, hc, y1, y2, y3, y4⟩ := z
        have nb : c ≠ b := fun z => s1 (z ▸ y4)
        exact ⟨c, us, e, by rw [upd_ne nb]; exact hc, y1, y2, y3, y4⟩
      | obj c fs => exact absurd e1 (uniq j (Ne.symm hj) c fs)
  · have own_of : ∀ {m : Nat} {xs : List D}, (a.sl.set i (.obj cc gs))[m]? = some (.own xs) → i ≠ m := fun {m xs} e z => by
      subst z
      rw [List.getElem?_set_self l1] at e
      cases e
    rw [List.getElem?_set_ne (own_of e1)] at e1
    rw [List.getElem?_set_ne (own_of e2)] at e2
    exact r.nd j k _ xs ys hjk e1 e2 e3 e4
  · refine (r.cl j c u e1 e3).ge Ge.rfl' (List.prefix_refl _) fun o e => ?_
    have nb : c ≠ b := fun z => s4 (z ▸ List.mem_of_getElem? e1)
    rw [upd_ne nb]; exact e
  · have nb : c ≠ b := fun z => z2 (z ▸ h3)
    rw [upd_ne nb]; exact r.fr c u e z1 z2
  · have ec : c = b := by rw [h3] at e; exact (Option.some.inj e).symm
    subst ec
    exact ⟨s1, (by rw [upd_same]; exact (fun z => nomatch z)), s3, s4⟩
end
end PL

namespace PL
open PySem PySem.Spec PyProof.Rows L2

inductive Out (α : Type) where
  | stuck
  | ok (x : α) (a : AS)
  | exc (c : Nat) (fs : List (Str × D)) (a : AS)
abbrev M (α : Type) := AS → Out α
def Out.bind {α β : Type} (o : Out α) (f : α → AS → Out β) : Out β := match o with
  | .stuck => .stuck
  | .ok x a => f x a
  | .exc c fs a => .exc c fs a
def ret {α : Type} (x : α) : M α := fun a => .ok x a
def no {α : Type} : M α := fun _ => .stuck
def bd {α β : Type} (m : M α) (f : α → M β) : M β := fun a => (m a).bind f
def opt {α : Type} : Option α → M α
  | some x => ret x
  | none => no
@[simp] theorem bind_ok {α β : Type} (x : α) (a : AS) (f : α → AS → Out β) : (Out.ok x a).bind f = f x a := rfl
@[simp] theorem bind_stuck {α β : Type} (f : α → AS → Out β) : (Out.stuck : Out α).bind f = .stuck := rfl
@[simp] theorem bind_exc {α β : Type} (c : Nat) (fs : List (Str × D)) (a : AS) (f : α → AS → Out β) : (Out.exc c fs a : Out α).bind f = .exc c fs a := rfl

section
variable (K : PySem.W.Frag) (T : Tab) (W : WX)
def ExR (G : Hp) (ρ : List Addr) (H : Hp) (fs : List (Str × D)) (od : Option Addr) : Prop := (fs = [] ∧ od = none) ∨ ∃ dd fvs, od = some dd ∧ H dd = some (.xd fvs) ∧ RepF K T G ρ fs fvs
def Post {α β : Type} (E : En) (σ : L2.St) (G : Hp) (ρ : List Addr) (R : Hp → List Addr → α → β → Prop) (o : Out α) (Q : β → Hp → Prop) : Prop := match o with
  | .stuck => False
  | .ok x a' => ∀ G' ρ' H' v, Ge G G' → ρ <+: ρ' → AR K T E G' ρ' a' σ H' → R G' ρ' x v → Q v H'
  | .exc c fs a' => ∀ G' ρ' H' dd, Ge G G' → ρ <+: ρ' → AR K T E G' ρ' a' σ H' → ExR K T G' ρ' H' fs dd → W (.ref (T.C c)) dd σ H'
def tX {α β : Type} (R : Hp → List Addr → α → β → Prop) (m : M α) : L2.St → Hp → (β → Hp → Prop) → Prop := fun σ H Q => ∃ E G ρ a, AR K T E G ρ a σ H ∧ Post K T W E σ G ρ R (m a) Q
abbrev EqR {α : Type} : Hp → List Addr → α → α → Prop := fun _ _ x y => x = y
abbrev tE (m : M D) : TE := tX K T W (Rep K T) m
abbrev tT (m : M Bool) : TT := tX K T W EqR m
abbrev tA (m : M (List D)) : TA := tX K T W (RepL K T) m
end

section
variable {K : PySem.W.Frag} {T : Tab} {W : WX} {α β γ δ : Type} {E : En} {σ : L2.St} {G G' : Hp} {ρ ρ' : List Addr} {H : Hp} {a : AS}
theorem Post.ext {R : Hp → List Addr → α → β → Prop} {o : Out α} {Q : β → Hp → Prop} (h : Post K T W E σ G ρ R o Q) (g : Ge G G') (p : ρ <+: ρ') : Post K T W E σ G' ρ' R o Q := by
  cases o with
  | stuck => exact h
  | ok x a => exact fun G2 ρ2 H2 v e1 e2 r q => h G2 ρ2 H2 v (g.trans e1) (p.trans e2) r q
  | exc c fs a => exact fun G2 ρ2 H2 v e1 e2 r q => h G2 ρ2 H2 v (g.trans e1) (p.trans e2) r q
theorem Post.mono {R : Hp → List Addr → α → β → Prop} {o : Out α} {Q Q' : β → Hp → Prop} (h : Post K T W E σ G ρ R o Q) (k : ∀ v H, Q v H → Q' v H) : Post K T W E σ G ρ R o Q' := by
  cases o with
  | stuck => exact h
  | ok x a => exact fun G2 ρ2 H2 v e1 e2 r q => k _ _ (h G2 ρ2 H2 v e1 e2 r q)
  | exc c fs a => exact h
theorem Post.bind {R1 : Hp → List Addr → α → β → Prop} {R2 : Hp → List Addr → γ → δ → Prop} {o : Out α} {f : α → AS → Out γ} {Q : δ → Hp → Prop} {Q1 : β → Hp → Prop} (h : Post K T W E σ G ρ R2 (o.bind f) Q)
    (k : ∀ x a' G' ρ' H' v, Ge G G' → ρ <+: ρ' → AR K T E G' ρ' a' σ H' → R1 G' ρ' x v → Post K T W E σ G' ρ' R2 (f x a') Q → Q1 v H') : Post K T W E σ G ρ R1 o Q1 := by
  cases o with
  | stuck => exact h
  | ok x a => exact fun G2 ρ2 H2 v e1 e2 r q => k x a G2 ρ2 H2 v e1 e2 r q (Post.ext (o := f x a) h e1 e2)
  | exc c fs a => exact h
theorem tX.bind {R1 : Hp → List Addr → α → β → Prop} {R2 : Hp → List Addr → γ → δ → Prop} {m : M α} {f : α → M γ} {Q : δ → Hp → Prop} {Q1 : β → Hp → Prop} (h : tX K T W R2 (bd m f) σ H Q)
    (k : ∀ E x a' G' ρ' H' v, AR K T E G' ρ' a' σ H' → R1 G' ρ' x v → Post K T W E σ G' ρ' R2 (f x a') Q → Q1 v H') : tX K T W R1 m σ H Q1 := by
  obtain ⟨E, G, ρ, a, r, p⟩ := h
  exact ⟨E, G, ρ, a, r, Post.bind p fun x a' G' ρ' H' v _ _ r q z => k E x a' G' ρ' H' v r q z⟩
theorem PE.imp {X : Cx} {e : Expr} {t t' : TE} (h : PE X e t) (i : ∀ σ H Q, t' σ H Q → t σ H Q) : PE X e t' := ⟨fun pins s σ H Q I q => h.run pins s σ H Q I (i σ H Q q)⟩
theorem PT.imp {X : Cx} {e : Expr} {t t' : TT} (h : PT X e t) (i : ∀ σ H Q, t' σ H Q → t σ H Q) : PT X e t' := ⟨fun pins s σ H Q I q => h.run pins s σ H Q I (i σ H Q q)⟩
theorem PW.imp {X : Cx} {e : Expr} {t t' : TT} (h : PW X e t) (i : ∀ σ H Q, t' σ H Q → t σ H Q) : PW X e t' := ⟨fun w pins s σ H Q I q => h.run w pins s σ H Q I (i σ H Q q)⟩
theorem PA.imp {X : Cx} {e : List Expr} {t t' : TA} (h : PA X e t) (i : ∀ σ H Q, t' σ H Q → t σ H Q) : PA X e t' := ⟨fun p pins s σ H Q I q => h.run p pins s σ H Q I (i σ H Q q)⟩
theorem PS.imp {X : Cx} {e : Stmt} {t t' : TS} (h : PS X e t) (i : ∀ D σ H, t' D σ H → t D σ H) : PS X e t' := ⟨fun pins s σ H Q I q => h.run pins s σ H Q I (i Q σ H q)⟩
theorem PSs.imp {X : Cx} {e : List Stmt} {t t' : TS} (h : PSs X e t) (i : ∀ D σ H, t' D σ H → t D σ H) : PSs X e t' := ⟨fun pins s σ H Q I q => h.run pins s σ H Q I (i Q σ H q)⟩
theorem Post.here {R : Hp → List Addr → α → β → Prop} {x : α} {v : β} {Q : β → Hp → Prop} (h : Post K T W E σ G ρ R (ret x a) Q) (r : AR K T E G ρ a σ H) (q : R G ρ x v) : Q v H :=
  h G ρ H v Ge.rfl' (List.prefix_refl _) r q
theorem Post.laid {R : Hp → List Addr → α → β → Prop} {x : α} {v : β} {p : Addr} {o : HO} {Q : β → Hp → Prop} (h : Post K T W E σ G ρ R (ret x a) Q) (r : AR K T E G ρ a σ H) (hp : H p = none) (q : R (upd G p o) ρ x v) : Q v (upd H p o) := by
  obtain ⟨g, r2⟩ := r.lay (o := o) hp
  exact h _ ρ _ v g (List.prefix_refl _) r2 q
end

section
variable {X : Cx} {T : Tab} {W : WX}
def varM (i : Nat) : M D := fun a => match a.sl.getD i .emp with
  | .val d => .ok d a
  | .own ds => .ok (.lst ds) { a with sl := a.sl.set i (.val (.lst ds)) }
  | _ => .stuck
theorem getD_some {l : List Slot} {i : Nat} {s : Slot} (h : l.getD i .emp = s) (n : s ≠ .emp) : l[i]? = some s := by
  rw [List.getD_eq_getElem?_getD] at h
  cases e : l[i]? with
  | none => rw [e] at h; exact absurd h.symm n
  | some x => rw [e] at h; rw [← h]; rfl
theorem px_var (i : Nat) {x : Str} {pos : Pos} (hN : X.N[i]? = some x := by rfl) (hv : Vis X.env.scope x := by first | exact Or.inl rfl | exact Or.inr (Or.inl rfl) | exact Or.inr (Or.inr rfl)) (hd : (x == ("__debug__" : Str)) = false := by decide)
    (hcd : (x == ("__classdict__" : Str)) = false := by decide) : PE X (.Name x pos) (tE X.K T W (varM i)) := by
  refine PE.imp (pe_var hN hv hd hcd) fun σ H Q ⟨E, G, ρ, a, r, p⟩ => ?_
  unfold varM at p
  split at p
  · rename_i d e
    obtain ⟨v, e1, q⟩ := r.val (getD_some e (fun z => nomatch z))
    exact ⟨v, e1, Post.here p r q⟩
  · rename_i ds e
    obtain ⟨b, vs, e1, hb, q, g, r2⟩ := r.freeze (getD_some e (fun z => nomatch z))
    refine ⟨.ref b, e1, p _ ρ H (.ref b) g (List.prefix_refl _) r2 ?_⟩
    unfold Rep
    exact ⟨b, vs, rfl, .inl (.inl upd_same), RepL.ge g (List.prefix_refl _) _ _ q⟩
  · exact p.elim
theorem px_const {e : Expr} {v : V} (d : D) (h : PE X e (tC v)) (hd : ∀ G ρ, Rep X.K T G ρ d v) : PE X e (tE X.K T W (ret d)) :=
  PE.imp h fun σ H Q ⟨E, G, ρ, a, r, p⟩ => Post.here p r (hd G ρ)
theorem px_int {i : Int} {j pos} : PE X (.Constant (.int i) j pos) (tE X.K T W (ret (.int i))) := px_const _ pe_int fun G ρ => by unfold Rep; rfl
theorem px_bl {i : Bool} {j pos} : PE X (.Constant (.bool i) j pos) (tE X.K T W (ret (.bl i))) := px_const _ pe_bl fun G ρ => by unfold Rep; rfl
theorem px_non {j pos} : PE X (.Constant .none j pos) (tE X.K T W (ret .non)) := px_const _ pe_non fun G ρ => by unfold Rep; rfl
theorem px_str {x : Str} {j pos} : PE X (.Constant (.str x) j pos) (tE X.K T W (ret (.str x))) := px_const _ pe_str fun G ρ => by unfold Rep; rfl
theorem px_glob {x : Str} {v : V} {u : Value} {pos : Pos} (d : D) (hm : X.mg x = some u) (r : RelV v u) (hd : ∀ G ρ, Rep X.K T G ρ d v) (hg : Gl X x := by rfl) (hdb : (x == ("__debug__" : Str)) = false := by decide) :
    PE X (.Name x pos) (tE X.K T W (ret d)) := px_const d (pe_glob hg hm r hdb) hd
theorem px_ty {x : Str} {pos : Pos} (n : String) (hm : X.mg x = none) (hv : bootBuiltins x = some (.type n)) (hg : Gl X x := by rfl) (hn : x ≠ "__name__" := by decide) (hdb : (x == ("__debug__" : Str)) = false := by decide) :
    PE X (.Name x pos) (tE X.K T W (ret (.ty n))) := px_const (v := .ty n) _ (pe_bltn hg hm hv rfl hn hdb) fun G ρ => by unfold Rep; rfl
theorem px_cls {x : Str} {pos : Pos} (c : Nat) (hm : X.mg x = some (.ref (T.C c))) (hg : Gl X x := by rfl) (hdb : (x == ("__debug__" : Str)) = false := by decide) :
    PE X (.Name x pos) (tE X.K T W (ret (.cls c))) := px_const (v := .ref (T.C c)) _ (pe_glob hg hm rfl hdb) fun G ρ => by unfold Rep; rfl

def consM (m : M D) (ms : M (List D)) : M (List D) := bd m fun x => bd ms fun xs => ret (x :: xs)
def nilM : M (List D) := ret []
theorem px_nil : PA X [] (tA X.K T W nilM) := PA.imp pa_nil fun σ H Q ⟨E, G, ρ, a, r, p⟩ => Post.here p r RepL.nil
theorem px_cons {e : Expr} {es : List Expr} {m : M D} {ms : M (List D)} (h : PE X e (tE X.K T W m)) (t : PA X es (tA X.K T W ms)) (hs : starEach (e :: es) X.env = (false, eval e X.env) :: starEach es X.env := by rfl) :
    PA X (e :: es) (tA X.K T W (consM m ms)) := by
  refine PA.imp (pa_cons h t hs) fun σ H Q h => ?_
  refine tX.bind h fun E x a1 G1 ρ1 H1 v r1 q1 p1 => ?_
  refine ⟨E, G1, ρ1, a1, r1, Post.bind p1 fun xs a2 G2 ρ2 H2 vs g2 l2 r2 q2 p2 => ?_⟩
  exact Post.here p2 r2 (RepL.cons (Rep.ge g2 l2 _ _ q1) q2)
theorem px_tup {es : List Expr} {ms : M (List D)} {x1 pos} (h : PA X es (tA X.K T W ms)) (hl : es.length ≤ 1000 := by decide) : PE X (.Tuple es x1 pos) (tE X.K T W (bd ms fun xs => if xs.length ≤ 1000 then ret (.tup xs) else no)) := by
  refine PE.imp (pe_tup h) fun σ H Q h => ?_
  refine tX.bind h fun E xs a1 G1 ρ1 H1 vs r1 q1 p1 => ?_
  split at p1
  · rename_i hz
    refine ⟨by rw [q1.len, sizeLine_eq]; omega, fun p hp => ?_⟩
    refine Post.laid p1 r1 hp ?_
    obtain ⟨g, _⟩ := r1.lay (o := HO.tup vs) hp
    unfold Rep
    exact ⟨p, vs, rfl, .inl upd_same, RepL.ge g (List.prefix_refl _) _ _ q1⟩
  · exact p1.elim

def PostF (K : PySem.W.Frag) (T : Tab) (W : WX) (E : En) (σ : L2.St) (G : Hp) (ρ : List Addr) (o : Out (List D)) (Q : VK) : Prop := match o with
  | .stuck => False
  | .ok ds a' => ∀ G' ρ' H' p vs, Ge G G' → ρ <+: ρ' → AR K T E G' ρ' a' σ H' → Free K T E G' ρ' a' σ p → H' p = some (.lst vs) → RepL K T G' ρ' ds vs → Q (.ref p) H'
  | .exc c fs a' => ∀ G' ρ' H' dd, Ge G G' → ρ <+: ρ' → AR K T E G' ρ' a' σ H' → ExR K T G' ρ' H' fs dd → W (.ref (T.C c)) dd σ H'
def tF (K : PySem.W.Frag) (T : Tab) (W : WX) (m : M (List D)) : TE := fun σ H Q => ∃ E G ρ a, AR K T E G ρ a σ H ∧ PostF K T W E σ G ρ (m a) Q
theorem PostF.ext {K : PySem.W.Frag} {W : WX} {E : En} {σ : L2.St} {G G' : Hp} {ρ ρ' : List Addr} {o : Out (List D)} {Q : VK} (h : PostF K T W E σ G ρ o Q) (g : Ge G G') (p : ρ <+: ρ') : PostF K T W E σ G' ρ' o Q := by
  cases o with
  | stuck => exact h
  | ok x a => exact fun G2 ρ2 H2 v vs e1 e2 r f q => h G2 ρ2 H2 v vs (g.trans e1) (p.trans e2) r f q
  | exc c fs a => exact fun G2 ρ2 H2 v e1 e2 r q => h G2 ρ2 H2 v (g.trans e1) (p.trans e2) r q
theorem PostF.bind {K : PySem.W.Frag} {W : WX} {α β : Type} {E : En} {σ : L2.St} {G : Hp} {ρ : List Addr} {R1 : Hp → List Addr → α → β → Prop} {o : Out α} {f : α → AS → Out (List D)} {Q : VK} {Q1 : β → Hp → Prop} (h : PostF K T W E σ G ρ (o.bind f) Q)
    (k : ∀ x a' G' ρ' H' v, Ge G G' → ρ <+: ρ' → AR K T E G' ρ' a' σ H' → R1 G' ρ' x v → PostF K T W E σ G' ρ' (f x a') Q → Q1 v H') : Post K T W E σ G ρ R1 o Q1 := by
  cases o with
  | stuck => exact h
  | ok x a => exact fun G2 ρ2 H2 v e1 e2 r q => k x a G2 ρ2 H2 v e1 e2 r q (PostF.ext (o := f x a) h e1 e2)
  | exc c fs a => exact h
theorem PostF.new {K : PySem.W.Frag} {W : WX} {E : En} {σ : L2.St} {G : Hp} {ρ : List Addr} {a : AS} {H : Hp} {ds : List D} {vs : List V} {p : Addr} {Q : VK} (h : PostF K T W E σ G ρ (ret ds a) Q) (r : AR K T E G ρ a σ H) (hp : H p = none) (q : RepL K T G ρ ds vs) :
    Q (.ref p) (upd H p (.lst vs)) := by
  refine h G ρ _ p vs Ge.rfl' (List.prefix_refl _) (r.junk hp) (r.freeOf hp) upd_same q
theorem pf_lst {es : List Expr} {ms : M (List D)} {pos} (h : PA X es (tA X.K T W ms)) : PE X (.List es pos) (tF X.K T W (bd ms fun xs => if xs.length ≤ 1000 then ret xs else no)) := by
  refine PE.imp (pe_lst h) fun σ H Q ⟨E, G, ρ, a, r, p⟩ => ?_
  refine ⟨E, G, ρ, a, r, PostF.bind p fun xs a1 G1 ρ1 H1 vs g1 l1 r1 q1 p1 => ?_⟩
  split at p1
  · refine ⟨by rw [q1.len, sizeLine_eq]; omega, fun p hp => ?_⟩
    exact PostF.new p1 r1 hp q1
  · exact p1.elim
theorem px_new {e : Expr} {m : M (List D)} (h : PE X e (tF X.K T W m)) : PE X e (tE X.K T W (bd m fun ds => ret (.lst ds))) := by
  refine PE.imp h fun σ H Q ⟨E, G, ρ, a, r, p⟩ => ⟨E, G, ρ, a, r, ?_⟩
  unfold bd at p
  cases e1 : m a with
  | stuck => rw [e1] at p; exact p
  | exc c fs a1 => rw [e1] at p; exact p
  | ok ds a1 =>
    rw [e1] at p
    refine fun G1 ρ1 H1 b vs g l r1 f hb q => ?_
    obtain ⟨g2, r2⟩ := r1.hold f hb (r1.own_sf f.2.2.1)
    refine p _ ρ1 H1 (.ref b) (g.trans g2) l r2 ?_
    unfold Rep
    exact ⟨b, vs, rfl, .inl (.inl upd_same), RepL.ge g2 (List.prefix_refl _) _ _ q⟩
end
end PL

namespace PL
open PySem PySem.Spec PyProof.Rows L2

mutual
def D.pl : D → Bool
  | .non => true
  | .bl _ => true
  | .int _ => true
  | .str _ => true
  | .tup ds => plL ds
  | .lst ds => plL ds
  | _ => false
def plL : List D → Bool
  | [] => true
  | d :: ds => d.pl && plL ds
end
mutual
def toPy : D → PyData
  | .non => .none
  | .bl b => .bool b
  | .int i => .int i
  | .str x => .str x
  | .tup ds => .tuple (toPyL ds)
  | .lst ds => .list (toPyL ds)
  | _ => .none
def toPyL : List D → List PyData
  | [] => []
  | d :: ds => toPy d :: toPyL ds
end
def D.dep (d : D) : Nat := (toPy d).depth
def depL (ds : List D) : Nat := PyData.depthAll (toPyL ds)
def eqB (x y : D) : Bool := PyData.eqv (toPy x) (toPy y)
def eqM (x y : D) : Option Bool := if (x.pl && y.pl && decide (min x.dep y.dep ≤ 60)) = true then some (eqB x y) else none
def neM (x y : D) : Option Bool := if (x.pl && y.pl && decide (min x.dep y.dep ≤ 60)) = true then some (!eqB x y) else none
mutual
theorem plain_toPy : ∀ d : D, d.pl = true → (toPy d).plain = true
  | .non, _ => rfl
  | .bl _, _ => rfl
  | .int _, _ => rfl
  | .str _, _ => rfl
  | .tup ds, h => by unfold toPy PyData.plain; exact plain_toPyL ds (by unfold D.pl at h; exact h)
  | .lst ds, h => by unfold toPy PyData.plain; exact plain_toPyL ds (by unfold D.pl at h; exact h)
  | .ins _ _, h => by simp [D.pl] at h
  | .cell _, h => by simp [D.pl] at h
  | .dic, h => by simp [D.pl] at h
  | .ty _, h => by simp [D.pl] at h
  | .cls _, h => by simp [D.pl] at h
theorem plain_toPyL : ∀ ds : List D, plL ds = true → PyData.plainAll (toPyL ds) = true
  | [], _ => rfl
  | d :: ds, h => by
    unfold plL at h
    rw [Bool.and_eq_true] at h
    unfold toPyL PyData.plainAll
    rw [plain_toPy d h.1, plain_toPyL ds h.2]
    rfl
end
section
variable {K : PySem.W.Frag} {T : Tab} {G H : Hp} {ρ : List Addr}
mutual
theorem Rep.dp (g : ∀ b o, G b = some o → H b = some o) : ∀ (d : D) (v : V), d.pl = true → Rep K T G ρ d v → Dp K H v (toPy d)
  | .non, v, _, h => by unfold Rep at h; subst h; exact .non
  | .bl b, v, _, h => by unfold Rep at h; subst h; exact .bl b
  | .int b, v, _, h => by unfold Rep at h; subst h; exact .int b
  | .str b, v, _, h => by unfold Rep at h; subst h; exact .str b
  | .tup ds, v, p, h => by
    unfold Rep at h
    obtain ⟨a, vs, e, s, r⟩ := h
    subst e
    unfold toPy
    exact .tup (TupR.ge s g).sq (RepL.dp g ds vs (by unfold D.pl at p; exact p) r)
  | .lst ds, v, p, h => by
    unfold Rep at h
    obtain ⟨a, vs, e, s, r⟩ := h
    subst e
    unfold toPy
    exact .lst (SqL.ge s g) (RepL.dp g ds vs (by unfold D.pl at p; exact p) r)
  | .ins _ _, _, h, _ => by simp [D.pl] at h
  | .cell _, _, h, _ => by simp [D.pl] at h
  | .dic, _, h, _ => by simp [D.pl] at h
  | .ty _, _, h, _ => by simp [D.pl] at h
  | .cls _, _, h, _ => by simp [D.pl] at h
theorem RepL.dp (g : ∀ b o, G b = some o → H b = some o) : ∀ (ds : List D) (vs : List V), plL ds = true → RepL K T G ρ ds vs → DpAll K H vs (toPyL ds)
  | [], vs, _, h => by rw [h.inv0]; exact .nil
  | d :: ds, vs, p, h => by
    unfold plL at p
    rw [Bool.and_eq_true] at p
    obtain ⟨v, r, e, a, b⟩ := h.inv
    subst e
    unfold toPyL
    exact .cons (Rep.dp g d v p.1 a) (RepL.dp g ds r p.2 b)
end
end

structure CmpR (X : Cx) (T : Tab) (op : CmpOp) (f : D → D → Option Bool) : Prop where
  ex : ∃ r : R2, OpR X (compareOp op) r ∧ ∀ (x y : D) (b : Bool), f x y = some b → ∀ (G : Hp) (ρ : List Addr) (H : Hp) (v w : V) (Q : VK), (∀ b o, G b = some o → H b = some o) → Rep X.K T G ρ x v → Rep X.K T G ρ y w → Q (.bl b) H → r v w H Q
section
variable {X : Cx} {T : Tab} {W : WX}
theorem op_eqP (hu : X.A.units + 64 < cLine) : OpR X (compareOp .Eq) (fun x y H Q => ∃ d e, Dp X.K H x d ∧ Dp X.K H y e ∧ d.plain = true ∧ e.plain = true ∧ min d.depth e.depth ≤ 60 ∧ Q (.bl (PyData.eqv d e)) H) := by
  intro pins s σ H x y v u Q I rx ry h
  obtain ⟨d, e, hd, he, sd, se, hm, q⟩ := h
  obtain ⟨as, r1⟩ := Dp.reads I d x v hd rx
  obtain ⟨bs, r2⟩ := Dp.reads I e y u he ry
  exact SeqAt.eq_plain r1 r2 sd se (by omega) ⟨.bl _, H, I, rfl, q⟩
theorem op_neP (hu : X.A.units + 64 < cLine) : OpR X (compareOp .NotEq) (fun x y H Q => ∃ d e, Dp X.K H x d ∧ Dp X.K H y e ∧ d.plain = true ∧ e.plain = true ∧ min d.depth e.depth ≤ 60 ∧ Q (.bl (!PyData.eqv d e)) H) := by
  intro pins s σ H x y v u Q I rx ry h
  obtain ⟨d, e, hd, he, sd, se, hm, q⟩ := h
  obtain ⟨as, r1⟩ := Dp.reads I d x v hd rx
  obtain ⟨bs, r2⟩ := Dp.reads I e y u he ry
  exact SeqAt.ne_plain r1 r2 sd se (by omega) ⟨.bl _, H, I, rfl, q⟩
theorem eq_parts {x y : D} (h : (x.pl && y.pl && decide (min x.dep y.dep ≤ 60)) = true) : x.pl = true ∧ y.pl = true ∧ min x.dep y.dep ≤ 60 := by
  rw [Bool.and_eq_true, Bool.and_eq_true] at h
  exact ⟨h.1.1, h.1.2, of_decide_eq_true h.2⟩
theorem cm_eq (hu : X.A.units + 64 < cLine) : CmpR X T .Eq eqM := ⟨_, op_eqP hu, fun x y b e G ρ H v w Q g r1 r2 q => by
  unfold eqM at e
  split at e
  · rename_i h
    obtain ⟨p1, p2, p3⟩ := eq_parts h
    cases e
    exact ⟨_, _, Rep.dp g x v p1 r1, Rep.dp g y w p2 r2, plain_toPy x p1, plain_toPy y p2, p3, q⟩
  · cases e⟩
theorem cm_ne (hu : X.A.units + 64 < cLine) : CmpR X T .NotEq neM := ⟨_, op_neP hu, fun x y b e G ρ H v w Q g r1 r2 q => by
  unfold neM at e
  split at e
  · rename_i h
    obtain ⟨p1, p2, p3⟩ := eq_parts h
    cases e
    exact ⟨_, _, Rep.dp g x v p1 r1, Rep.dp g y w p2 r2, plain_toPy x p1, plain_toPy y p2, p3, q⟩
  · cases e⟩
def cmpI (f : Int → Int → Bool) : D → D → Option Bool
  | .int i, .int j => some (f i j)
  | _, _ => none
theorem cm_int {op : CmpOp} {f : Int → Int → Bool} (h : OpR X (compareOp op) (rI0 fun i j => .bl (f i j))) : CmpR X T op (cmpI f) := ⟨_, h, fun x y b e G ρ H v w Q g r1 r2 q => by
  unfold cmpI at e
  split at e
  · rename_i i j
    cases e
    unfold Rep at r1 r2
    exact ⟨i, j, r1, r2, q⟩
  · cases e⟩
abbrev ltM := cmpI fun i j => decide (i < j)
abbrev leM := cmpI fun i j => decide (i ≤ j)
abbrev gtM := cmpI fun i j => decide (j < i)
abbrev geM := cmpI fun i j => decide (j ≤ i)
theorem cm_lt : CmpR X T .Lt ltM := cm_int op_lt
theorem cm_le : CmpR X T .LtE leM := cm_int op_le
theorem cm_gt : CmpR X T .Gt gtM := cm_int op_gt
theorem cm_ge : CmpR X T .GtE geM := cm_int op_ge
def D.isNon : D → Bool
  | .non => true
  | _ => false
theorem Rep.isNon {K : PySem.W.Frag} {G : Hp} {ρ : List Addr} {d : D} {v : V} (h : Rep K T G ρ d v) : decide (v = .non) = d.isNon := by
  cases d with
  | non => unfold Rep at h; subst h; rfl
  | bl b => unfold Rep at h; subst h; rfl
  | int b => unfold Rep at h; subst h; rfl
  | str b => unfold Rep at h; subst h; rfl
  | tup b => unfold Rep at h; obtain ⟨_, _, e, _⟩ := h; subst e; rfl
  | lst b => unfold Rep at h; obtain ⟨_, _, e, _⟩ := h; subst e; rfl
  | ins c b => unfold Rep at h; obtain ⟨_, _, _, e, _⟩ := h; subst e; rfl
  | cell b => unfold Rep at h; obtain ⟨_, _, e⟩ := h; subst e; rfl
  | dic => unfold Rep at h; obtain ⟨_, e, _⟩ := h; subst e; rfl
  | ty b => unfold Rep at h; subst h; rfl
  | cls b => unfold Rep at h; subst h; rfl
def isM : D → D → Option Bool
  | x, .non => some x.isNon
  | _, _ => none
def isnotM : D → D → Option Bool
  | x, .non => some (!x.isNon)
  | _, _ => none
theorem cm_is : CmpR X T .Is isM := ⟨_, op_isN, fun x y b e G ρ H v w Q g r1 r2 q => by
  unfold isM at e
  split at e
  · cases e
    unfold Rep at r2
    exact ⟨r2, by rw [r1.isNon]; exact q⟩
  · cases e⟩
theorem cm_isnot : CmpR X T .IsNot isnotM := ⟨_, op_notN, fun x y b e G ρ H v w Q g r1 r2 q => by
  unfold isnotM at e
  split at e
  · cases e
    unfold Rep at r2
    exact ⟨r2, by rw [r1.isNon]; exact q⟩
  · cases e⟩
def inB (x : D) (ys : List D) : Bool := ys.any fun y => eqB y x
def inOk (x : D) (ys : List D) : Bool := x.pl && plL ys && decide (min (depL ys) x.dep ≤ 60)
def inM (x c : D) : Option Bool := match c with
  | .tup ys => if inOk x ys = true then some (inB x ys) else none
  | .lst ys => if inOk x ys = true then some (inB x ys) else none
  | .str z => match x with
    | .str y => match y.cps.toList with
      | [k] => some (decide (k ∈ z.cps.toList))
      | _ => none
    | _ => none
  | _ => none
def notInM (x c : D) : Option Bool := (inM x c).map (!·)
theorem any_toPy (x : D) : ∀ ys : List D, ((toPyL ys).any fun y => PyData.eqv y (toPy x)) = inB x ys
  | [] => rfl
  | y :: ys => by
    unfold toPyL inB
    rw [List.any_cons, List.any_cons, any_toPy x ys]
    rfl
def rInP (K : PySem.W.Frag) (neg : Bool) : R2 := fun x y H Q =>
  (∃ d ds, Dp K H x d ∧ (Dp K H y (.tuple ds) ∨ Dp K H y (.list ds)) ∧ d.plain = true ∧ PyData.plainAll ds = true ∧ min (PyData.depthAll ds) d.depth ≤ 60 ∧ Q (.bl (if neg then !(ds.any fun z => PyData.eqv z d) else ds.any fun z => PyData.eqv z d)) H) ∨
  (∃ (c : Nat) (z : Str), x = .str ⟨#[c]⟩ ∧ y = .str z ∧ Q (.bl (if neg then !decide (c ∈ z.cps.toList) else decide (c ∈ z.cps.toList))) H)
theorem op_inP (hu : X.A.units + 64 < cLine) : OpR X (compareOp .In) (rInP X.K false) := by
  intro pins s σ H x y v u Q I rx ry h
  rcases h with ⟨d, ds, hd, he, sd, se, hm, q⟩ | ⟨c, z, e1, e2, q⟩
  · obtain ⟨as, r1⟩ := Dp.reads I d x v hd rx
    rcases he with he | he
    · obtain ⟨bs, r2⟩ := Dp.reads I _ y u he ry
      exact SeqAt.in_tuple_data r2 r1 se sd (by omega) ⟨.bl _, H, I, rfl, q⟩
    · obtain ⟨bs, r2⟩ := Dp.reads I _ y u he ry
      exact SeqAt.in_list_data r2 r1 se sd (by omega) ⟨.bl _, H, I, rfl, q⟩
  · exact op_in_sign pins s σ H x y v u Q I rx ry ⟨c, z, e1, e2, q⟩
theorem op_notInP (hu : X.A.units + 64 < cLine) : OpR X (compareOp .NotIn) (rInP X.K true) := by
  intro pins s σ H x y v u Q I rx ry h
  rcases h with ⟨d, ds, hd, he, sd, se, hm, q⟩ | ⟨c, z, e1, e2, q⟩
  · obtain ⟨as, r1⟩ := Dp.reads I d x v hd rx
    rcases he with he | he
    · obtain ⟨bs, r2⟩ := Dp.reads I _ y u he ry
      exact SeqAt.notIn_tuple_data r2 r1 se sd (by omega) ⟨.bl _, H, I, rfl, q⟩
    · obtain ⟨bs, r2⟩ := Dp.reads I _ y u he ry
      exact SeqAt.notIn_list_data r2 r1 se sd (by omega) ⟨.bl _, H, I, rfl, q⟩
  · exact op_notIn_sign pins s σ H x y v u Q I rx ry ⟨c, z, e1, e2, q⟩
theorem in_read {neg : Bool} {x y : D} {b : Bool} (e : inM x y = some b) {G : Hp} {ρ : List Addr} {H : Hp} {v w : V} {Q : VK} (g : ∀ b o, G b = some o → H b = some o) (r1 : Rep X.K T G ρ x v) (r2 : Rep X.K T G ρ y w)
    (q : Q (.bl (if neg then !b else b)) H) : rInP X.K neg v w H Q := by
  have sq : ∀ ys : List D, inOk x ys = true → some (inB x ys) = some b → (Dp X.K H w (.tuple (toPyL ys)) ∨ Dp X.K H w (.list (toPyL ys))) → rInP X.K neg v w H Q := fun ys h1 h2 h3 => by
    unfold inOk at h1
    rw [Bool.and_eq_true, Bool.and_eq_true] at h1
    cases h2
    rw [← any_toPy] at q
    exact .inl ⟨toPy x, toPyL ys, Rep.dp g x v h1.1.1 r1, h3, plain_toPy x h1.1.1, plain_toPyL ys h1.1.2, of_decide_eq_true h1.2, q⟩
  unfold inM at e
  split at e
  · rename_i ys
    split at e
    · rename_i h
      refine sq ys h e (.inl ?_)
      have := Rep.dp g (.tup ys) w (by unfold D.pl; unfold inOk at h; rw [Bool.and_eq_true, Bool.and_eq_true] at h; exact h.1.2) r2
      unfold toPy at this
      exact this
    · cases e
  · rename_i ys
    split at e
    · rename_i h
      refine sq ys h e (.inr ?_)
      have := Rep.dp g (.lst ys) w (by unfold D.pl; unfold inOk at h; rw [Bool.and_eq_true, Bool.and_eq_true] at h; exact h.1.2) r2
      unfold toPy at this
      exact this
    · cases e
  · rename_i z
    split at e
    · rename_i y
      split at e
      · rename_i k hk
        cases e
        unfold Rep at r1 r2
        have hy : y = ⟨#[k]⟩ := by
          obtain ⟨cps⟩ := y
          congr
          apply Array.ext'
          simpa using hk
        exact .inr ⟨k, z, by rw [r1, hy], r2, q⟩
      · cases e
    · cases e
  · cases e
theorem cm_in (hu : X.A.units + 64 < cLine) : CmpR X T .In inM := ⟨_, op_inP hu, fun x y b e G ρ H v w Q g r1 r2 q => in_read e g r1 r2 q⟩
theorem cm_notIn (hu : X.A.units + 64 < cLine) : CmpR X T .NotIn notInM := ⟨_, op_notInP hu, fun x y b e G ρ H v w Q g r1 r2 q => by
  unfold notInM at e
  cases e2 : inM x y with
  | none => rw [e2] at e; cases e
  | some k =>
    rw [e2] at e
    cases e
    exact in_read (neg := true) e2 g r1 r2 q⟩

def op2 (f : D → D → Option Bool) (ma mb : M D) : M Bool := bd ma fun x => bd mb fun y => opt (f x y)
def blM (m : M Bool) : M D := bd m fun b => ret (.bl b)
theorem px_cmp {op : CmpOp} {f : D → D → Option Bool} {a b : Expr} {ma mb : M D} {pos : Pos} (c : CmpR X T op f) (ha : PE X a (tE X.K T W ma)) (hb : PE X b (tE X.K T W mb)) (hm : behindInMarks op b = false := by first | exact nomark _ | rfl) :
    PE X (.Compare a [op] [b] pos) (tE X.K T W (blM (op2 f ma mb))) := by
  obtain ⟨r, ho, hr⟩ := c.ex
  refine PE.imp (pe_cmpR ho ha hb hm) fun σ H Q h => ?_
  unfold blM op2 at h
  obtain ⟨E, G, ρ, a, r0, p⟩ := h
  unfold bd at p
  refine ⟨E, G, ρ, a, r0, ?_⟩
  cases e1 : ma a with
  | stuck => rw [e1] at p; exact p
  | exc c fs a1 => rw [e1] at p; exact p
  | ok x a1 =>
    rw [e1] at p
    simp only [bind_ok] at p
    refine fun G1 ρ1 H1 v g1 l1 r1 q1 => ⟨E, G1, ρ1, a1, r1, ?_⟩
    replace p := Post.ext (o := _) p g1 l1
    cases e2 : mb a1 with
    | stuck => rw [e2] at p; exact p
    | exc c fs a2 => rw [e2] at p; exact p
    | ok y a2 =>
      rw [e2] at p
      simp only [bind_ok] at p
      refine fun G2 ρ2 H2 w g2 l2 r2 q2 => ?_
      cases e3 : f x y with
      | none => rw [e3] at p; exact p.elim
      | some k =>
        rw [e3] at p
        refine hr x y k e3 G2 ρ2 H2 v w Q r2.sub (Rep.ge g2 l2 _ _ q1) q2 ?_
        exact p G2 ρ2 H2 (.bl k) g2 l2 r2 (by unfold Rep; rfl)
def asB : D → Option Bool
  | .bl b => some b
  | _ => none
def tstM (m : M D) : M Bool := bd m fun x => opt (asB x)
theorem px_tst {e : Expr} {m : M D} (h : PE X e (tE X.K T W m)) (he : ∀ whole, isTrue e X.env whole = (do let v ← whole; standAt e.pos; holding [v] (truthy v)) := by intro _; rfl) : PT X e (tT X.K T W (tstM m)) := by
  refine PT.imp (pt_val h he) fun σ H Q h => ?_
  refine tX.bind h fun E x a1 G1 ρ1 H1 v r1 q1 p1 => ?_
  cases e1 : asB x with
  | none => rw [e1] at p1; exact p1.elim
  | some b =>
    rw [e1] at p1
    have ex : x = .bl b := by
      unfold asB at e1
      split at e1
      · cases e1; rfl
      · cases e1
    subst ex
    unfold Rep at q1
    exact ⟨b, q1, Post.here p1 r1 rfl⟩
theorem pt_cm {op : CmpOp} {f : D → D → Option Bool} {a b : Expr} {ma mb : M D} {pos : Pos} (c : CmpR X T op f) (ha : PE X a (tE X.K T W ma)) (hb : PE X b (tE X.K T W mb)) (hm : behindInMarks op b = false := by first | exact nomark _ | rfl) :
    PT X (.Compare a [op] [b] pos) (tT X.K T W (op2 f ma mb)) := by
  obtain ⟨r, ho, hr⟩ := c.ex
  refine PT.imp (pt_cmpR ho ha hb hm) fun σ H Q h => ?_
  refine tX.bind h fun E x a1 G1 ρ1 H1 v r1 q1 p1 => ?_
  refine ⟨E, G1, ρ1, a1, r1, Post.bind p1 fun y a2 G2 ρ2 H2 w g2 l2 r2 q2 p2 => ?_⟩
  cases e3 : f x y with
  | none => rw [e3] at p2; exact p2.elim
  | some k =>
    rw [e3] at p2
    exact hr x y k e3 G2 ρ2 H2 v w _ r2.sub (Rep.ge g2 l2 _ _ q1) q2 ⟨k, rfl, Post.here p2 r2 rfl⟩
def chM (f g : D → D → Option Bool) (ma mb mc : M D) : M Bool := bd ma fun x => bd mb fun y => bd (opt (f x y)) fun k => if k = true then bd mc fun z => opt (g y z) else ret false
theorem ch_read {op op' : CmpOp} {f g : D → D → Option Bool} {r r' : R2} {a b c : Expr} {ma mb mc : M D}
    (hr : ∀ (x y : D) (b : Bool), f x y = some b → ∀ (G : Hp) (ρ : List Addr) (H : Hp) (v w : V) (Q : VK), (∀ b o, G b = some o → H b = some o) → Rep X.K T G ρ x v → Rep X.K T G ρ y w → Q (.bl b) H → r v w H Q)
    (hr' : ∀ (x y : D) (b : Bool), g x y = some b → ∀ (G : Hp) (ρ : List Addr) (H : Hp) (v w : V) (Q : VK), (∀ b o, G b = some o → H b = some o) → Rep X.K T G ρ x v → Rep X.K T G ρ y w → Q (.bl b) H → r' v w H Q)
    {σ : L2.St} {H : Hp} {Q : Bool → Hp → Prop} (h : tT X.K T W (chM f g ma mb mc) σ H Q) : tChain r r' (tE X.K T W ma) (tE X.K T W mb) (tE X.K T W mc) σ H fun v H' => ∃ k, v = .bl k ∧ Q k H' := by
  refine tX.bind h fun E x a1 G1 ρ1 H1 v r1 q1 p1 => ?_
  refine ⟨E, G1, ρ1, a1, r1, Post.bind p1 fun y a2 G2 ρ2 H2 w g2 l2 r2 q2 p2 => ?_⟩
  cases e3 : f x y with
  | none => rw [e3] at p2; exact p2.elim
  | some k =>
    rw [e3] at p2
    refine hr x y k e3 G2 ρ2 H2 v w _ r2.sub (Rep.ge g2 l2 _ _ q1) q2 ⟨k, rfl, ?_⟩
    cases k with
    | false => exact iteF ⟨false, rfl, Post.here p2 r2 rfl⟩
    | true =>
      refine iteT ⟨E, G2, ρ2, a2, r2, Post.bind p2 fun z a3 G3 ρ3 H3 w' g3 l3 r3 q3 p3 => ?_⟩
      cases e4 : g y z with
      | none => rw [e4] at p3; exact p3.elim
      | some k =>
        rw [e4] at p3
        exact hr' y z k e4 G3 ρ3 H3 w w' _ r3.sub (Rep.ge g3 l3 _ _ q2) q3 ⟨k, rfl, Post.here p3 r3 rfl⟩
theorem pt_ch {op op' : CmpOp} {f g : D → D → Option Bool} {a b c : Expr} {ma mb mc : M D} {pos : Pos} (c1 : CmpR X T op f) (c2 : CmpR X T op' g) (ha : PE X a (tE X.K T W ma)) (hb : PE X b (tE X.K T W mb)) (hc : PE X c (tE X.K T W mc))
    (hm : lastMarks [op, op'] [b, c] = false := by with_unfolding_all rfl) : PT X (.Compare a [op, op'] [b, c] pos) (tT X.K T W (chM f g ma mb mc)) := by
  obtain ⟨r, ho, hr⟩ := c1.ex
  obtain ⟨r', ho', hr'⟩ := c2.ex
  exact PT.imp (pt_chain ho ho' ha hb hc hm) fun σ H Q h => ch_read (op := op) (op' := op') (a := a) (b := b) (c := c) hr hr' h
def chV (f g : D → D → Option Bool) (ma mb mc : M D) : M D := bd ma fun x => bd mb fun y => bd (opt (f x y)) fun k => if k = true then bd mc fun z => bd (opt (g y z)) fun b => ret (.bl b) else ret (.bl false)
theorem px_ch {op op' : CmpOp} {f g : D → D → Option Bool} {a b c : Expr} {ma mb mc : M D} {pos : Pos} (c1 : CmpR X T op f) (c2 : CmpR X T op' g) (ha : PE X a (tE X.K T W ma)) (hb : PE X b (tE X.K T W mb)) (hc : PE X c (tE X.K T W mc))
    (hm : lastMarks [op, op'] [b, c] = false := by with_unfolding_all rfl) : PE X (.Compare a [op, op'] [b, c] pos) (tE X.K T W (chV f g ma mb mc)) := by
  obtain ⟨r, ho, hr⟩ := c1.ex
  obtain ⟨r', ho', hr'⟩ := c2.ex
  refine PE.imp (pe_chain ho ho' ha hb hc hm) fun σ H Q h => ?_
  refine tX.bind h fun E x a1 G1 ρ1 H1 v r1 q1 p1 => ?_
  refine ⟨E, G1, ρ1, a1, r1, Post.bind p1 fun y a2 G2 ρ2 H2 w g2 l2 r2 q2 p2 => ?_⟩
  cases e3 : f x y with
  | none => rw [e3] at p2; exact p2.elim
  | some k =>
    rw [e3] at p2
    refine hr x y k e3 G2 ρ2 H2 v w _ r2.sub (Rep.ge g2 l2 _ _ q1) q2 ⟨k, rfl, ?_⟩
    cases k with
    | false => exact iteF (Post.here p2 r2 (by unfold Rep; rfl))
    | true =>
      refine iteT ⟨E, G2, ρ2, a2, r2, Post.bind p2 fun z a3 G3 ρ3 H3 w' g3 l3 r3 q3 p3 => ?_⟩
      cases e4 : g y z with
      | none => rw [e4] at p3; exact p3.elim
      | some k =>
        rw [e4] at p3
        exact hr' y z k e4 G3 ρ3 H3 w w' _ r3.sub (Rep.ge g3 l3 _ _ q2) q3 (Post.here p3 r3 (by unfold Rep; rfl))

def andM (m n : M Bool) : M Bool := bd m fun c => if c = true then n else ret false
def orM (m n : M Bool) : M Bool := bd m fun c => if c = true then ret true else n
def notM (m : M Bool) : M Bool := bd m fun c => ret (!c)
def ifM {α : Type} (c : M Bool) (m n : M α) : M α := bd c fun b => if b = true then m else n
theorem pw_and1X {a : Expr} {m : M Bool} {pos : Pos} (h : PT X a (tT X.K T W m)) : PW X (.BoolOp .And [a] pos) (tT X.K T W m) := pw_and1 h
theorem pw_or1X {a : Expr} {m : M Bool} {pos : Pos} (h : PT X a (tT X.K T W m)) : PW X (.BoolOp .Or [a] pos) (tT X.K T W m) := pw_or1 h
theorem pw_andX {a b : Expr} {rest : List Expr} {m n : M Bool} {pos : Pos} (h : PT X a (tT X.K T W m)) (t : PW X (.BoolOp .And (b :: rest) pos) (tT X.K T W n)) : PW X (.BoolOp .And (a :: b :: rest) pos) (tT X.K T W (andM m n)) := by
  refine PW.imp (pw_and h t) fun σ H Q h => ?_
  refine tX.bind h fun E c a1 G1 ρ1 H1 v r1 q1 p1 => ?_
  cases q1
  cases c with
  | false => exact iteF (Post.here p1 r1 rfl)
  | true => exact iteT ⟨E, G1, ρ1, a1, r1, p1⟩
theorem pw_orX {a b : Expr} {rest : List Expr} {m n : M Bool} {pos : Pos} (h : PT X a (tT X.K T W m)) (t : PW X (.BoolOp .Or (b :: rest) pos) (tT X.K T W n)) : PW X (.BoolOp .Or (a :: b :: rest) pos) (tT X.K T W (orM m n)) := by
  refine PW.imp (pw_or h t) fun σ H Q h => ?_
  refine tX.bind h fun E c a1 G1 ρ1 H1 v r1 q1 p1 => ?_
  cases q1
  cases c with
  | false => exact iteF ⟨E, G1, ρ1, a1, r1, p1⟩
  | true => exact iteT (Post.here p1 r1 rfl)
theorem pt_notX {a : Expr} {m : M Bool} {pos : Pos} (h : PT X a (tT X.K T W m)) : PT X (.UnaryOp .Not a pos) (tT X.K T W (notM m)) := by
  refine PT.imp (pt_not h) fun σ H Q h => ?_
  refine tX.bind h fun E c a1 G1 ρ1 H1 v r1 q1 p1 => ?_
  cases q1
  exact Post.here p1 r1 rfl
theorem px_oneX {op : BoolOp} {a : Expr} {m : M D} {pos : Pos} (h : PE X a (tE X.K T W m)) : PE X (.BoolOp op [a] pos) (tE X.K T W m) := pe_one h
def andV (m n : M D) : M D := bd m fun x => bd (opt (asB x)) fun c => if c = true then n else ret (.bl false)
def orV (m n : M D) : M D := bd m fun x => bd (opt (asB x)) fun c => if c = true then ret (.bl true) else n
def notV (m : M D) : M D := bd m fun x => bd (opt (asB x)) fun c => ret (.bl (!c))
theorem asB_of {x : D} {b : Bool} (h : asB x = some b) : x = .bl b := by
  unfold asB at h
  split at h
  · cases h; rfl
  · cases h
theorem px_andX {a b : Expr} {rest : List Expr} {m n : M D} {pos : Pos} (h : PE X a (tE X.K T W m)) (t : PE X (.BoolOp .And (b :: rest) pos) (tE X.K T W n)) : PE X (.BoolOp .And (a :: b :: rest) pos) (tE X.K T W (andV m n)) := by
  refine PE.imp (pe_and h t) fun σ H Q h => ?_
  refine tX.bind h fun E x a1 G1 ρ1 H1 v r1 q1 p1 => ?_
  cases e1 : asB x with
  | none => rw [e1] at p1; exact p1.elim
  | some c =>
    rw [e1] at p1
    rw [asB_of e1] at q1
    unfold Rep at q1
    refine ⟨c, q1, ?_⟩
    cases c with
    | false => exact iteF (Post.here p1 r1 (by unfold Rep; rfl))
    | true => exact iteT ⟨E, G1, ρ1, a1, r1, p1⟩
theorem px_orX {a b : Expr} {rest : List Expr} {m n : M D} {pos : Pos} (h : PE X a (tE X.K T W m)) (t : PE X (.BoolOp .Or (b :: rest) pos) (tE X.K T W n)) : PE X (.BoolOp .Or (a :: b :: rest) pos) (tE X.K T W (orV m n)) := by
  refine PE.imp (pe_or h t) fun σ H Q h => ?_
  refine tX.bind h fun E x a1 G1 ρ1 H1 v r1 q1 p1 => ?_
  cases e1 : asB x with
  | none => rw [e1] at p1; exact p1.elim
  | some c =>
    rw [e1] at p1
    rw [asB_of e1] at q1
    unfold Rep at q1
    refine ⟨c, q1, ?_⟩
    cases c with
    | false => exact iteF ⟨E, G1, ρ1, a1, r1, p1⟩
    | true => exact iteT (Post.here p1 r1 (by unfold Rep; rfl))
theorem px_notX {a : Expr} {m : M D} {pos : Pos} (h : PE X a (tE X.K T W m)) : PE X (.UnaryOp .Not a pos) (tE X.K T W (notV m)) := by
  refine PE.imp (pe_not h) fun σ H Q h => ?_
  refine tX.bind h fun E x a1 G1 ρ1 H1 v r1 q1 p1 => ?_
  cases e1 : asB x with
  | none => rw [e1] at p1; exact p1.elim
  | some c =>
    rw [e1] at p1
    rw [asB_of e1] at q1
    unfold Rep at q1
    exact ⟨c, q1, Post.here p1 r1 (by unfold Rep; rfl)⟩
theorem px_if {c a b : Expr} {mc : M Bool} {ma mb : M D} {pos : Pos} (hc : PT X c (tT X.K T W mc)) (ha : PE X a (tE X.K T W ma)) (hb : PE X b (tE X.K T W mb)) : PE X (.IfExp c a b pos) (tE X.K T W (ifM mc ma mb)) := by
  refine PE.imp (pe_ifExp hc ha hb) fun σ H Q h => ?_
  refine tX.bind h fun E c a1 G1 ρ1 H1 v r1 q1 p1 => ?_
  cases q1
  cases c with
  | false => exact iteF ⟨E, G1, ρ1, a1, r1, p1⟩
  | true => exact iteT ⟨E, G1, ρ1, a1, r1, p1⟩
end
end PL

namespace PL
open PySem PySem.Spec PyProof.Rows L2

structure BinR (X : Cx) (T : Tab) (op : Operator) (f : D → D → Option D) : Prop where
  ex : ∃ r : R2, OpR X (binaryOp op) r ∧ ∀ (x y z : D), f x y = some z → ∀ (W : WX) (E : En) (G : Hp) (ρ : List Addr) (a : AS) (σ : L2.St) (H : Hp) (v w : V) (Q : VK), AR X.K T E G ρ a σ H → Rep X.K T G ρ x v → Rep X.K T G ρ y w →
    Post X.K T W E σ G ρ (Rep X.K T) (ret z a) Q → r v w H Q
def mulOk (i j : Int) : Bool := decide (-(2 ^ 64) < i ∧ i < 2 ^ 64) || decide (-(2 ^ 64) < j ∧ j < 2 ^ 64) || decide (i.natAbs.log2 + j.natAbs.log2 < 1000000)
def addM : D → D → Option D
  | .int i, .int j => some (.int (i + j))
  | .str x, .str y => if x.length + y.length ≤ 100000 then some (.str (x ++ y)) else none
  | .tup xs, .tup ys => if xs.length + ys.length ≤ 1000 then some (.tup (xs ++ ys)) else none
  | _, _ => none
def subM : D → D → Option D
  | .int i, .int j => some (.int (i - j))
  | _, _ => none
def mulM : D → D → Option D
  | .int i, .int j => if mulOk i j = true then some (.int (i * j)) else none
  | _, _ => none
def fdivM : D → D → Option D
  | .int i, .int j => if (decide (0 < j) && decide (j.natAbs.log2 < 9000)) = true then some (.int (i / j)) else none
  | _, _ => none
def modM : D → D → Option D
  | .int i, .int j => if decide (0 < j) = true then some (.int (i % j)) else none
  | _, _ => none
def powM : D → D → Option D
  | .int i, .int j => if decide (0 ≤ j ∧ j ≤ 1000000 ∧ i.natAbs < 2 ^ 64) = true then some (.int (i ^ j.toNat)) else none
  | _, _ => none
section
variable {X : Cx} {T : Tab} {W : WX}
theorem rep_int {K : PySem.W.Frag} {G : Hp} {ρ : List Addr} {i : Int} {v : V} (h : Rep K T G ρ (.int i) v) : v = .int i := by unfold Rep at h; exact h
theorem rep_str {K : PySem.W.Frag} {G : Hp} {ρ : List Addr} {i : Str} {v : V} (h : Rep K T G ρ (.str i) v) : v = .str i := by unfold Rep at h; exact h
theorem rep_bl {K : PySem.W.Frag} {G : Hp} {ρ : List Addr} {i : Bool} {v : V} (h : Rep K T G ρ (.bl i) v) : v = .bl i := by unfold Rep at h; exact h
theorem to_int {K : PySem.W.Frag} {G : Hp} {ρ : List Addr} {i : Int} : Rep K T G ρ (.int i) (.int i) := by unfold Rep; rfl
theorem to_str {K : PySem.W.Frag} {G : Hp} {ρ : List Addr} {i : Str} : Rep K T G ρ (.str i) (.str i) := by unfold Rep; rfl
theorem to_bl {K : PySem.W.Frag} {G : Hp} {ρ : List Addr} {i : Bool} : Rep K T G ρ (.bl i) (.bl i) := by unfold Rep; rfl
theorem to_non {K : PySem.W.Frag} {G : Hp} {ρ : List Addr} : Rep K T G ρ .non .non := by unfold Rep; rfl
theorem bn_add : BinR X T .Add addM := ⟨_, op_add.or (op_add_str.or op_catA), fun x y z e W E G ρ a σ H v w Q r q1 q2 p => by
  unfold addM at e
  split at e
  · cases e
    rw [rep_int q1, rep_int q2]
    exact .inl ⟨_, _, rfl, rfl, Post.here p r to_int⟩
  · split at e
    · rename_i hz
      cases e
      rw [rep_str q1, rep_str q2]
      exact .inr (.inl ⟨_, _, rfl, rfl, by rw [sizeLine_eq]; omega, Post.here p r to_str⟩)
    · cases e
  · rename_i xs ys
    split at e
    · rename_i hz
      cases e
      unfold Rep at q1 q2
      obtain ⟨b, vs, rfl, t1, l1⟩ := q1
      obtain ⟨c, ws, rfl, t2, l2⟩ := q2
      refine .inr (.inr ⟨b, c, vs, ws, rfl, rfl, (t1.ge r.sub).sq, (t2.ge r.sub).sq, by rw [l1.len, l2.len, sizeLine_eq]; omega, fun h => ?_, fun _ h => ?_, fun _ _ b hb => ?_⟩)
      · have : xs = [] := by have := l1.len; rw [h] at this; exact List.eq_nil_of_length_eq_zero this.symm
        subst this
        refine Post.here p r ?_
        unfold Rep
        exact ⟨c, ws, rfl, t2, l2⟩
      · have : ys = [] := by have := l2.len; rw [h] at this; exact List.eq_nil_of_length_eq_zero this.symm
        subst this
        refine Post.here p r ?_
        unfold Rep
        exact ⟨b, vs, rfl, t1, by rw [List.append_nil]; exact l1⟩
      · refine Post.laid p r hb ?_
        obtain ⟨g, _⟩ := r.lay (o := HO.tup (vs ++ ws)) hb
        unfold Rep
        exact ⟨b, vs ++ ws, rfl, .inl upd_same, RepL.ge g (List.prefix_refl _) _ _ (l1.app l2)⟩
    · cases e
  · cases e⟩
theorem bn_sub : BinR X T .Sub subM := ⟨_, op_sub, fun x y z e W E G ρ a σ H v w Q r q1 q2 p => by
  unfold subM at e
  split at e
  · cases e
    rw [rep_int q1, rep_int q2]
    exact ⟨_, _, rfl, rfl, Post.here p r to_int⟩
  · cases e⟩
theorem bn_mul : BinR X T .Mult mulM := ⟨_, op_mul.or op_mulW, fun x y z e W E G ρ a σ H v w Q r q1 q2 p => by
  unfold mulM at e
  split at e
  · split at e
    · rename_i i j h
      cases e
      rw [rep_int q1, rep_int q2]
      unfold mulOk at h
      rw [Bool.or_eq_true, Bool.or_eq_true] at h
      rcases h with (h | h) | h
      · exact .inl ⟨_, _, rfl, rfl, .inl (of_decide_eq_true h), Post.here p r to_int⟩
      · exact .inl ⟨_, _, rfl, rfl, .inr (of_decide_eq_true h), Post.here p r to_int⟩
      · have h' : i.natAbs.log2 + j.natAbs.log2 < 1000000 := of_decide_eq_true h
        exact .inr ⟨_, _, rfl, rfl, h', Post.here p r to_int⟩
    · cases e
  · cases e⟩
theorem bn_fdiv : BinR X T .FloorDiv fdivM := ⟨_, op_fdivW, fun x y z e W E G ρ a σ H v w Q r q1 q2 p => by
  unfold fdivM at e
  split at e
  · split at e
    · rename_i h
      cases e
      rw [rep_int q1, rep_int q2]
      rw [Bool.and_eq_true] at h
      exact ⟨_, _, rfl, rfl, ⟨of_decide_eq_true h.1, of_decide_eq_true h.2⟩, Post.here p r to_int⟩
    · cases e
  · cases e⟩
theorem bn_mod : BinR X T .Mod modM := ⟨_, op_mod, fun x y z e W E G ρ a σ H v w Q r q1 q2 p => by
  unfold modM at e
  split at e
  · split at e
    · rename_i h
      cases e
      rw [rep_int q1, rep_int q2]
      exact ⟨_, _, rfl, rfl, of_decide_eq_true h, Post.here p r to_int⟩
    · cases e
  · cases e⟩
theorem bn_pow : BinR X T .Pow powM := ⟨_, op_pow, fun x y z e W E G ρ a σ H v w Q r q1 q2 p => by
  unfold powM at e
  split at e
  · split at e
    · rename_i i j h
      cases e
      rw [rep_int q1, rep_int q2]
      have h' : 0 ≤ j ∧ j ≤ 1000000 ∧ i.natAbs < 2 ^ 64 := of_decide_eq_true h
      exact ⟨_, _, rfl, rfl, h', Post.here p r to_int⟩
    · cases e
  · cases e⟩
def opM (f : D → D → Option D) (ma mb : M D) : M D := bd ma fun x => bd mb fun y => opt (f x y)
theorem px_bin {op : Operator} {f : D → D → Option D} {a b : Expr} {ma mb : M D} {pos : Pos} (c : BinR X T op f) (ha : PE X a (tE X.K T W ma)) (hb : PE X b (tE X.K T W mb)) : PE X (.BinOp a op b pos) (tE X.K T W (opM f ma mb)) := by
  obtain ⟨r, ho, hr⟩ := c.ex
  refine PE.imp (pe_op ho ha hb) fun σ H Q h => ?_
  refine tX.bind h fun E x a1 G1 ρ1 H1 v r1 q1 p1 => ?_
  refine ⟨E, G1, ρ1, a1, r1, Post.bind p1 fun y a2 G2 ρ2 H2 w g2 l2 r2 q2 p2 => ?_⟩
  cases e3 : f x y with
  | none => rw [e3] at p2; exact p2.elim
  | some k =>
    rw [e3] at p2
    exact hr x y k e3 W E G2 ρ2 a2 σ H2 v w Q r2 (Rep.ge g2 l2 _ _ q1) q2 p2
def negM : D → Option D
  | .int i => some (.int (-i))
  | _ => none
theorem px_neg {a : Expr} {m : M D} {pos : Pos} (h : PE X a (tE X.K T W m)) : PE X (.UnaryOp .USub a pos) (tE X.K T W (bd m fun x => opt (negM x))) := by
  refine PE.imp (pe_un un_neg h) fun σ H Q h => ?_
  refine tX.bind h fun E x a1 G1 ρ1 H1 v r1 q1 p1 => ?_
  cases x with
  | int i => exact ⟨i, rep_int q1, Post.here p1 r1 to_int⟩
  | _ => exact p1.elim
end

def lstOf (st : List Cell) : D → Option (List D)
  | .lst ds => some ds
  | .cell i => (st[i]?).bind fun c => match c with | .lst ds => some ds | _ => none
  | _ => none
section
variable {K : PySem.W.Frag} {T : Tab} {E : En} {G : Hp} {ρ : List Addr} {a : AS} {σ : L2.St} {H : Hp}
theorem AR.lst (r : AR K T E G ρ a σ H) {d : D} {ds : List D} {v : V} (h : lstOf a.st d = some ds) (q : Rep K T G ρ d v) : ∃ b vs, v = .ref b ∧ SqL K H b vs ∧ RepL K T G ρ ds vs := by
  unfold lstOf at h
  split at h
  · cases h
    unfold Rep at q
    obtain ⟨b, vs, e, x, y⟩ := q
    exact ⟨b, vs, e, SqL.ge x r.sub, y⟩
  · rename_i i
    unfold Rep at q
    obtain ⟨b, e1, e2⟩ := q
    cases e3 : a.st[i]? with
    | none => rw [e3] at h; cases h
    | some c =>
      rw [e3] at h
      have z := r.cl i b c e1 e3
      cases c with
      | lst es =>
        cases h
        obtain ⟨vs, hb, y⟩ := z
        exact ⟨b, vs, e2, .inl (.inl hb), y⟩
      | obj k fs => cases h
  · cases h
theorem Rep.tup {ds : List D} {v : V} (q : Rep K T G ρ (.tup ds) v) : ∃ b vs, v = .ref b ∧ TupR K G b vs ∧ RepL K T G ρ ds vs := by unfold Rep at q; exact q
theorem RepL.atI {ds : List D} {vs : List V} {i : Int} {d : D} (r : RepL K T G ρ ds vs) (h : L2.atI ds i = some d) : ∃ v, L2.atI vs i = some v ∧ Rep K T G ρ d v := by
  unfold L2.atI at h ⊢
  rw [r.len]
  cases e : L2.ixN ds.length i with
  | none => rw [e] at h; cases h
  | some j =>
    rw [e] at h
    obtain ⟨v, h1, h2⟩ := r.get h
    exact ⟨v, h1, h2⟩
end
def ixM (st : List Cell) (x i : D) : Option D := match i with
  | .int i => match x with
    | .tup ds => L2.atI ds i
    | .str z => if z.length ≤ 100000 then (L2.atI z.cps.toList i).map fun c => .str ⟨#[c]⟩ else none
    | x => (lstOf st x).bind fun ds => L2.atI ds i
  | _ => none
def rdM {α : Type} (f : List Cell → Option α) : M α := fun a => opt (f a.st) a
section
variable {X : Cx} {T : Tab} {W : WX}
theorem px_ix {a b : Expr} {ma mb : M D} {pos : Pos} (ha : PE X a (tE X.K T W ma)) (hb : PE X b (tE X.K T W mb)) (hs : PlainIx b := by intro _ _; rfl) : PE X (.Subscript a b pos) (tE X.K T W (bd ma fun x => bd mb fun i => rdM fun st => ixM st x i)) := by
  refine PE.imp (pe_ix ix_seq ha hb hs) fun σ H Q h => ?_
  refine tX.bind h fun E x a1 G1 ρ1 H1 v r1 q1 p1 => ?_
  refine ⟨E, G1, ρ1, a1, r1, Post.bind p1 fun y a2 G2 ρ2 H2 w g2 l2 r2 q2 p2 => ?_⟩
  unfold rdM at p2
  dsimp only at p2
  cases e3 : ixM a2.st x y with
  | none => rw [e3] at p2; exact p2.elim
  | some k =>
    rw [e3] at p2
    have q1' := Rep.ge g2 l2 _ _ q1
    have lcase : ∀ {i : Int}, w = .int i → ((lstOf a2.st x).bind fun ds => L2.atI ds i) = some k → rIx X.K v w H2 Q := fun {i} ew e => by
      cases e4 : lstOf a2.st x with
      | none => rw [e4] at e; cases e
      | some ds =>
        rw [e4] at e
        obtain ⟨b, vs, ev, hR, rl⟩ := r2.lst e4 q1'
        obtain ⟨u, hu, ru⟩ := rl.atI e
        exact .inl ⟨b, vs, i, u, ev, ew, hR, hu, Post.here p2 r2 ru⟩
    unfold ixM at e3
    split at e3
    · rename_i i
      split at e3
      · rename_i ds
        obtain ⟨b, vs, ev, tR, rl⟩ := q1'.tup
        obtain ⟨u, hu, ru⟩ := rl.atI e3
        exact .inr (.inl ⟨b, vs, i, u, ev, rep_int q2, (tR.ge r2.sub).sq, hu, Post.here p2 r2 ru⟩)
      · rename_i z
        split at e3
        · rename_i hz
          cases e4 : L2.atI z.cps.toList i with
          | none => rw [e4] at e3; cases e3
          | some c =>
            rw [e4] at e3
            cases e3
            exact .inr (.inr ⟨z, i, c, rep_str q1', rep_int q2, by rw [sizeLine_eq]; omega, e4, Post.here p2 r2 to_str⟩)
        · cases e3
      · exact lcase (rep_int q2) e3
    · cases e3

def asI : D → Option Int
  | .int i => some i
  | _ => none
def someM (m : M D) : M (Option Int) := bd m fun x => bd (opt (asI x)) fun i => ret (some i)
def noneM : M (Option Int) := ret none
theorem po_noneX : PO X none (tX X.K T W EqR noneM) := ⟨fun pins s σ H Q I ⟨E, G, ρ, a, r, p⟩ => po_none.run pins s σ H Q I (Post.here p r rfl)⟩
theorem po_someX {e : Expr} {m : M D} (h : PE X e (tE X.K T W m)) : PO X (some e) (tX X.K T W EqR (someM m)) := ⟨fun pins s σ H Q I hq => (po_some h).run pins s σ H Q I (by
  refine tX.bind hq fun E x a1 G1 ρ1 H1 v r1 q1 p1 => ?_
  cases x with
  | int i => exact ⟨i, rep_int q1, Post.here p1 r1 rfl⟩
  | _ => exact p1.elim)⟩
def cutD (xs : List D) (lo hi : Option Int) : List D := (xs.drop (HT.sIx xs.length 0 lo)).take (HT.sIx xs.length xs.length hi - HT.sIx xs.length 0 lo)
theorem RepL.cut {K : PySem.W.Frag} {G : Hp} {ρ : List Addr} {ds : List D} {vs : List V} (r : RepL K T G ρ ds vs) (lo hi : Option Int) : RepL K T G ρ (cutD ds lo hi) (cutV vs lo hi) := by
  unfold cutD cutV
  rw [r.len]
  exact (r.drop _).take _
theorem pf_slice {e : Expr} {lo hi : Option Expr} {m : M D} {ml mh : M (Option Int)} {p2 pos : Pos} (he : PE X e (tE X.K T W m)) (hl : PO X lo (tX X.K T W EqR ml)) (hu : PO X hi (tX X.K T W EqR mh)) :
    PE X (.Subscript e (.Slice lo hi none p2) pos) (tF X.K T W (bd m fun x => bd ml fun l => bd mh fun h => rdM fun st => (lstOf st x).map fun ds => cutD ds l h)) := by
  refine PE.imp (pe_slice sl_list he hl hu) fun σ H Q ⟨E, G, ρ, a, r, p⟩ => ?_
  refine ⟨E, G, ρ, a, r, PostF.bind p fun x a1 G1 ρ1 H1 v g1 l1 r1 q1 p1 => ?_⟩
  refine ⟨E, G1, ρ1, a1, r1, PostF.bind p1 fun l a2 G2 ρ2 H2 w g2 l2 r2 q2 p2 => ?_⟩
  cases q2
  refine ⟨E, G2, ρ2, a2, r2, PostF.bind p2 fun h a3 G3 ρ3 H3 w g3 l3 r3 q3 p3 => ?_⟩
  cases q3
  unfold rdM at p3
  dsimp only at p3
  cases e4 : lstOf a3.st x with
  | none => rw [e4] at p3; exact p3.elim
  | some ds =>
    rw [e4] at p3
    obtain ⟨b, vs, ev, hR, rl⟩ := r3.lst e4 (Rep.ge g3 l3 _ _ (Rep.ge g2 l2 _ _ q1))
    exact ⟨b, vs, ev, hR, fun p hp => PostF.new p3 r3 hp (rl.cut l h)⟩
def tupOf : D → Option (List D)
  | .tup ds => some ds
  | _ => none
theorem tupOf_eq {d : D} {ds : List D} (h : tupOf d = some ds) : d = .tup ds := by
  unfold tupOf at h
  split at h
  · cases h; rfl
  · cases h
theorem px_sliceT {e : Expr} {lo hi : Option Expr} {m : M D} {ml mh : M (Option Int)} {p2 pos : Pos} (he : PE X e (tE X.K T W m)) (hl : PO X lo (tX X.K T W EqR ml)) (hu : PO X hi (tX X.K T W EqR mh)) :
    PE X (.Subscript e (.Slice lo hi none p2) pos) (tE X.K T W (bd m fun x => bd ml fun l => bd mh fun h => opt ((tupOf x).map fun ds => .tup (cutD ds l h)))) := by
  refine PE.imp (pe_slice sl_tupA he hl hu) fun σ H Q h => ?_
  refine tX.bind h fun E x a1 G1 ρ1 H1 v r1 q1 p1 => ?_
  refine ⟨E, G1, ρ1, a1, r1, Post.bind p1 fun l a2 G2 ρ2 H2 w g2 l2 r2 q2 p2 => ?_⟩
  cases q2
  refine ⟨E, G2, ρ2, a2, r2, Post.bind p2 fun h a3 G3 ρ3 H3 w g3 l3 r3 q3 p3 => ?_⟩
  cases q3
  cases e4 : tupOf x with
  | none => rw [e4] at p3; exact p3.elim
  | some ds =>
    rw [e4] at p3
    rw [tupOf_eq e4] at q1
    obtain ⟨b, vs, ev, tR, rl⟩ := (Rep.ge g3 l3 _ _ (Rep.ge g2 l2 _ _ q1)).tup
    refine ⟨b, vs, ev, (tR.ge r3.sub).sq, fun hw => ?_, fun hw p hp => ?_⟩
    · refine Post.here p3 r3 ?_
      have : cutD ds l h = ds := by
        unfold cutD
        rw [← rl.len, hw.1, hw.2]
        simp [rl.len]
      dsimp only
      rw [this]
      unfold Rep
      exact ⟨b, vs, rfl, tR, rl⟩
    · refine Post.laid p3 r3 hp ?_
      obtain ⟨g, _⟩ := r3.lay (o := HO.tup (cutV vs l h)) hp
      unfold Rep
      exact ⟨p, _, rfl, .inl upd_same, RepL.ge g (List.prefix_refl _) _ _ (rl.cut l h)⟩

theorem list_add_any (l : Addr) (items : Array Value) (n : Nat) (sl : Array (Option Value)) (b : Addr) (items2 : Array Value) (n2 : Nat) (sl2 : Array (Option Value)) (hc0 : items.size + items2.size ≤ sizeLine) :
    Meets (Builtin.«list.__add__» ⟨[.ref l, .ref b], []⟩) (fun _ R s => s.heap.get? l = some { cls := .type "list", dict := none, data := .seq items n, slots := sl } ∧ s.heap.get? b = some { cls := .type "list", dict := none, data := .seq items2 n2, slots := sl2 } ∧ R (.ok (.ret (Value.ref s.heap.objs.size))) { s with heap := s.heap.push { cls := Value.type "list", data := Data.seq (items ++ items2) }, toks := s.toks }) :=
  .of_wp fun prog w A R s h => by obtain ⟨hp, g, d, tk, os⟩ := s; obtain ⟨hl, hb, h⟩ := h; have f1 := AutoSeq1.idx_int; have f2 := AutoSeq1.sub_tuple_tuple; have f3 := AutoSeq1.sub_list_list; have f4 := AutoSeq1.sub_tuple_list; have f5 := AutoSeq1.sub_list_tuple; wp_walk using AutoSeq1.wpAny_loadPart' hl, AutoSeq1.wpAny_loadPart' hb; exact ⟨_, rfl, h⟩
theorem list_mul_any (l : Addr) (items : Array Value) (n : Nat) (sl : Array (Option Value)) (x : Int) (u : Tok) (hc0 : ¬(!Builtin.List.listFitsIndex x) = true) (hc1 : ¬items.size * x.toNat > (2 ^ 63 - 1) / 8) (hc2 : ¬Builtin.List.listTooLong (items.size * x.toNat) = true) :
    Meets (Builtin.«list.__mul__» ⟨[.ref l, .int x u], []⟩) (fun _ R s => s.heap.get? l = some { cls := .type "list", dict := none, data := .seq items n, slots := sl } ∧ R (.ok (.ret (Value.ref s.heap.objs.size))) { s with heap := s.heap.push { cls := Value.type "list", data := Data.seq (List.foldl (fun x1 x2 => x1 ++ x2) #[] (List.replicate (if items.isEmpty = true then 0 else x.toNat) items)) }, toks := s.toks }) :=
  .of_wp fun prog w A R s h => by
    obtain ⟨hp, g, d, tk, os⟩ := s; obtain ⟨hl, h⟩ := h
    have hsz := AutoListH.joined_fits hc2
    wp_walk; refine wpAny_ite_false (decide_eq_false (Nat.not_lt.mpr hsz)) ?_; wp_walk; exact ⟨_, rfl, h⟩
theorem int_rmul_any (a : Int) (t : Tok) (l : Addr) (items : Array Value) (n : Nat) (sl : Array (Option Value)) :
    Meets (Builtin.«int.__rmul__» ⟨[.int a t, .ref l], []⟩) (fun _ R s => s.heap.get? l = some { cls := .type "list", dict := none, data := .seq items n, slots := sl } ∧ R (.ok (.ret Value.notImplemented)) s) :=
  .of_wp fun prog w A R s h => by obtain ⟨hp, g, d, tk, os⟩ := s; obtain ⟨hl, h⟩ := h; wp_walk; exact ⟨_, rfl, h⟩
theorem sq_at {X : Cx} {pins : List (Addr × Obj)} {σ : L2.St} {H : Hp} {s : Shared} {a : Addr} {xs : List V} (I : Inv X pins σ H s) (h : SqL X.K H a xs) : ∃ (its : List Value) (n : Nat) (sl : Array (Option Value)), Vals xs its ∧ s.heap.get? a = some { cls := .type "list", dict := none, data := .seq its.toArray n, slots := sl } ∧ xs.length ≤ sizeLine := by
  obtain ⟨its, r, ⟨o, n, hg, hc, hd, hs⟩, z⟩ := I.list h
  obtain ⟨oc, od, dt, sl⟩ := o
  simp only at hc hd hs
  subst hc hd hs
  exact ⟨its, n, sl, r, hg, z⟩
theorem op_catR : OpR X (binaryOp .Add) (fun x y H Q => ∃ l b xs zs, x = .ref l ∧ y = .ref b ∧ SqL X.K H l xs ∧ SqL X.K H b zs ∧ xs.length + zs.length ≤ sizeLine ∧ ∀ p, H p = none → Q (.ref p) (upd H p (.lst (xs ++ zs)))) := by
  intro pins s σ H x y v u Q I rx ry h
  obtain ⟨l, b, xs, zs, rfl, rfl, hH, hB, hz, q⟩ := h
  cases rx
  cases ry
  obtain ⟨its, n, sl, r, e, z⟩ := sq_at I hH
  obtain ⟨its2, n2, sl2, r2, e2, z2⟩ := sq_at I hB
  have hl := r.length
  have hl2 := r2.length
  have ea : its.toArray ++ its2.toArray = (its ++ its2).toArray := by simp
  refine concat_meets ⟨_, e, rfl⟩ ⟨_, e2, rfl⟩ noFill_list_add seq_list_add F.slot_list_add F.entry_list_add (F.args_list_add_2 _ _) (list_add_any l its.toArray n sl b its2.toArray n2 sl2 (by rw [List.size_toArray, List.size_toArray]; omega)) ⟨e, e2, ?_⟩
  rw [ea]
  exact ⟨.ref _, _, I.lnew (t' := s.toks) (r.append r2) (by rw [List.length_append]; omega), rfl, q _ I.fresh⟩
def catM (ma mb : M D) : M (List D) := bd ma fun x => bd mb fun y => rdM fun st => (lstOf st x).bind fun xs => (lstOf st y).bind fun ys => if xs.length + ys.length ≤ 100000 then some (xs ++ ys) else none
theorem pf_cat {a b : Expr} {ma mb : M D} {pos : Pos} (ha : PE X a (tE X.K T W ma)) (hb : PE X b (tE X.K T W mb)) : PE X (.BinOp a .Add b pos) (tF X.K T W (catM ma mb)) := by
  refine PE.imp (pe_op op_catR ha hb) fun σ H Q ⟨E, G, ρ, a, r, p⟩ => ?_
  refine ⟨E, G, ρ, a, r, PostF.bind p fun x a1 G1 ρ1 H1 v g1 l1 r1 q1 p1 => ?_⟩
  refine ⟨E, G1, ρ1, a1, r1, PostF.bind p1 fun y a2 G2 ρ2 H2 w g2 l2 r2 q2 p2 => ?_⟩
  unfold rdM at p2
  dsimp only at p2
  cases e3 : lstOf a2.st x with
  | none => rw [e3] at p2; exact p2.elim
  | some xs =>
    cases e4 : lstOf a2.st y with
    | none => rw [e3, e4] at p2; exact p2.elim
    | some ys =>
      rw [e3, e4] at p2
      simp only [Option.bind_some] at p2
      split at p2
      · rename_i hz
        obtain ⟨b1, vs, ev, hR, rl⟩ := r2.lst e3 (Rep.ge g2 l2 _ _ q1)
        obtain ⟨b2, ws, ew, hR2, rl2⟩ := r2.lst e4 q2
        exact ⟨b1, b2, vs, ws, ev, ew, hR, hR2, by rw [rl.len, rl2.len, sizeLine_eq]; omega, fun p hp => PostF.new p2 r2 hp (rl.app rl2)⟩
      · exact p2.elim
def repM (ma mb : M D) : M (List D) := bd ma fun x => bd mb fun y => match x, y with
  | .lst xs, .int k => if xs.length * k.toNat ≤ 100000 ∧ -1000000 ≤ k ∧ k ≤ 1000000 then ret (List.replicate k.toNat xs).flatten else no
  | _, _ => no
theorem op_repR : OpR X (binaryOp .Mult) (fun x y H Q => ∃ l k xs, x = .ref l ∧ y = .int k ∧ SqL X.K H l xs ∧ -(2 ^ 63) ≤ k ∧ k < 2 ^ 63 ∧ xs.length * k.toNat ≤ sizeLine ∧ ∀ p, H p = none → Q (.ref p) (upd H p (.lst (List.replicate k.toNat xs).flatten))) := by
  intro pins s σ H x y v u Q I rx ry h
  obtain ⟨l, k, xs, rfl, rfl, hH, h1, h2, hz, q⟩ := h
  cases rx
  obtain ⟨t, rfl⟩ := ry
  obtain ⟨its, n, sl, r, e, z⟩ := sq_at I hH
  have hl := r.length
  have hlen : its.toArray.size * k.toNat ≤ sizeLine := by rw [List.size_toArray, ← hl]; exact hz
  have hcap : ¬ its.toArray.size * k.toNat > (2 ^ 63 - 1) / 8 := by
    have : (sizeLine : Nat) ≤ (2 ^ 63 - 1) / 8 := by decide
    omega
  have hfit : ¬ (!Builtin.List.listFitsIndex k) = true := by
    rw [fitsIndex_both h1 h2]
    exact Bool.false_ne_true
  have hlong : ¬ Builtin.List.listTooLong (its.toArray.size * k.toNat) = true := by
    rw [notLongL hlen]
    exact Bool.false_ne_true
  have hnew : List.foldl (fun x1 x2 => x1 ++ x2) #[] (List.replicate (if its.toArray.isEmpty = true then 0 else k.toNat) its.toArray) = (List.replicate k.toNat its).flatten.toArray := by
    have f0 : ∀ m : Nat, List.foldl (fun x1 x2 => x1 ++ x2) #[] (List.replicate m its.toArray) = (List.replicate m its).flatten.toArray := fun m => by
      have := foldl_rep its m []
      rw [List.nil_append] at this
      exact this
    rw [f0]
    cases its with
    | nil => simp
    | cons a r' => rw [if_neg (by simp)]
  refine wpAny_binaryOp_repeat_ref (T := "list") (U := "int") (by decide) ⟨_, e, rfl⟩ (fun s' => typeIs_int s' k t) noFill_list_mul F.fills_int_mul F.slot_int_rmul repeat_list F.slot_int_index.lookup
    (call_meets F.slot_int_rmul (typeIs_int s k t) F.entry_int_rmul (F.args_int_rmul_2 _ _) (int_rmul_any k t l its.toArray n sl)
      ⟨e, rfl, ⟨_, e, rfl⟩, call_meets F.slot_list_mul ⟨_, e, rfl⟩ F.entry_list_mul (F.args_list_mul_2 _ _) (list_mul_any l its.toArray n sl k t hfit hcap hlong) ⟨e, ?_⟩⟩)
  rw [hnew]
  exact ⟨.ref _, _, I.lnew (t' := s.toks) (r.rep k.toNat) (by rw [PyProof.Rows.lm_len_rep_flat, Nat.mul_comm]; exact hz), rfl, q _ I.fresh⟩
theorem pf_rep {a b : Expr} {ma mb : M D} {pos : Pos} (ha : PE X a (tE X.K T W ma)) (hb : PE X b (tE X.K T W mb)) : PE X (.BinOp a .Mult b pos) (tF X.K T W (repM ma mb)) := by
  refine PE.imp (pe_op op_repR ha hb) fun σ H Q ⟨E, G, ρ, a, r, p⟩ => ?_
  refine ⟨E, G, ρ, a, r, PostF.bind p fun x a1 G1 ρ1 H1 v g1 l1 r1 q1 p1 => ?_⟩
  refine ⟨E, G1, ρ1, a1, r1, PostF.bind p1 fun y a2 G2 ρ2 H2 w g2 l2 r2 q2 p2 => ?_⟩
  split at p2
  · rename_i xs k
    split at p2
    · rename_i hz
      have q1' := Rep.ge g2 l2 _ _ q1
      unfold Rep at q1'
      obtain ⟨b, vs, ev, hR, rl⟩ := q1'
      exact ⟨b, k, vs, ev, rep_int q2, SqL.ge hR r2.sub, by omega, by omega, by rw [rl.len, sizeLine_eq]; omega, fun p hp => PostF.new p2 r2 hp (rl.rep _)⟩
    · exact p2.elim
  · exact p2.elim
end

structure CalR (X : Cx) (T : Tab) (fv : Value) (f : List Cell → List D → Option D) : Prop where
  ex : ∃ r : List V → Hp → VK → Prop, CallR X fv r ∧ ∀ (st : List Cell) (xs : List D) (z : D), f st xs = some z → ∀ (W : WX) (E : En) (G : Hp) (ρ : List Addr) (a : AS) (σ : L2.St) (H : Hp) (vs : List V) (Q : VK), a.st = st → AR X.K T E G ρ a σ H → RepL X.K T G ρ xs vs →
    Post X.K T W E σ G ρ (Rep X.K T) (ret z a) Q → r vs H Q
def calM (f : List Cell → List D → Option D) (ms : M (List D)) : M D := bd ms fun xs => rdM fun st => f st xs
section
variable {X : Cx} {T : Tab} {W : WX}
theorem cal_read {fv : Value} {f : List Cell → List D → Option D} {ms : M (List D)} {r : List V → Hp → VK → Prop}
    (hr : ∀ (st : List Cell) (xs : List D) (z : D), f st xs = some z → ∀ (W : WX) (E : En) (G : Hp) (ρ : List Addr) (a : AS) (σ : L2.St) (H : Hp) (vs : List V) (Q : VK), a.st = st → AR X.K T E G ρ a σ H → RepL X.K T G ρ xs vs → Post X.K T W E σ G ρ (Rep X.K T) (ret z a) Q → r vs H Q)
    {σ : L2.St} {H : Hp} {Q : VK} (h : tE X.K T W (calM f ms) σ H Q) : tCB r (tA X.K T W ms) σ H Q := by
  refine tX.bind h fun E xs a1 G1 ρ1 H1 vs r1 q1 p1 => ?_
  unfold rdM at p1
  dsimp only at p1
  cases e : f a1.st xs with
  | none => rw [e] at p1; exact p1.elim
  | some z =>
    rw [e] at p1
    exact hr a1.st xs z e W E G1 ρ1 a1 σ H1 vs Q rfl r1 q1 p1
theorem px_calB {x : Str} {p pos : Pos} {e : Expr} {es : List Expr} {id : String} {f : List Cell → List D → Option D} {ms : M (List D)} (c : CalR X T (.builtin id) f) (hm : X.mg x = none) (ha : PA X (e :: es) (tA X.K T W ms)) (hv : bootBuiltins x = some (.builtin id) := by decide +kernel) (hg : Gl X x := by rfl)
    (hn : x ≠ "__name__" := by decide) (hdb : (x == ("__debug__" : Str)) = false := by decide)
    (he : starEach (e :: es) X.env = (false, eval e X.env) :: starEach es X.env := by rfl) (hpl : (backTo pos (starEach es X.env)).any (·.1) = false := by rfl) : PE X (.Call (.Name x p) (e :: es) [] pos) (tE X.K T W (calM f ms)) := by
  obtain ⟨r, hc, hr⟩ := c.ex
  exact PE.imp (pe_callB hc hg hm hv ha hn hdb he hpl) fun σ H Q h => cal_read (fv := .builtin id) hr h
theorem px_calT {x : Str} {p pos : Pos} {e : Expr} {es : List Expr} {id : String} {f : List Cell → List D → Option D} {ms : M (List D)} (c : CalR X T (.type id) f) (hm : X.mg x = none) (ha : PA X (e :: es) (tA X.K T W ms)) (hv : bootBuiltins x = some (.type id) := by decide +kernel) (hg : Gl X x := by rfl)
    (hn : x ≠ "__name__" := by decide) (hdb : (x == ("__debug__" : Str)) = false := by decide)
    (he : starEach (e :: es) X.env = (false, eval e X.env) :: starEach es X.env := by rfl) (hpl : (backTo pos (starEach es X.env)).any (·.1) = false := by rfl) : PE X (.Call (.Name x p) (e :: es) [] pos) (tE X.K T W (calM f ms)) := by
  obtain ⟨r, hc, hr⟩ := c.ex
  exact PE.imp (pe_callTy hc hg hm hv ha hn hdb he hpl) fun σ H Q h => cal_read (fv := .type id) hr h
theorem RepL.one {K : PySem.W.Frag} {G : Hp} {ρ : List Addr} {d : D} {vs : List V} (h : RepL K T G ρ [d] vs) : ∃ v, vs = [v] ∧ Rep K T G ρ d v := by
  obtain ⟨v, r, e, q, t⟩ := h.inv
  rw [t.inv0] at e
  exact ⟨v, e, q⟩
theorem RepL.two {K : PySem.W.Frag} {G : Hp} {ρ : List Addr} {d d' : D} {vs : List V} (h : RepL K T G ρ [d, d'] vs) : ∃ v w, vs = [v, w] ∧ Rep K T G ρ d v ∧ Rep K T G ρ d' w := by
  obtain ⟨v, r, e, q, t⟩ := h.inv
  obtain ⟨w, e2, q2⟩ := t.one
  rw [e2] at e
  exact ⟨v, w, e, q, q2⟩
def lenM (st : List Cell) : List D → Option D
  | [.tup ds] => some (.int ds.length)
  | [.str z] => if z.length ≤ 100000 then some (.int z.length) else none
  | [x] => (lstOf st x).map fun ds => .int ds.length
  | _ => none
theorem cl_len : CalR X T (.builtin "len") lenM := ⟨_, call_len, fun st xs z e W E G ρ a σ H vs Q hst r q p => by
  subst hst
  unfold lenM at e
  split at e
  · cases e
    obtain ⟨v, ev, q1⟩ := q.one
    obtain ⟨b, us, eb, tR, rl⟩ := q1.tup
    subst ev eb
    exact ⟨.ref b, us.length, rfl, .inr ⟨us, (tR.ge r.sub).sq, rfl⟩, Post.here p r (by rw [rl.len]; exact to_int)⟩
  · split at e
    · rename_i hz
      cases e
      obtain ⟨v, ev, q1⟩ := q.one
      rw [rep_str q1] at ev
      exact ⟨.str _, _, ev, ⟨by rw [sizeLine_eq]; omega, rfl⟩, Post.here p r to_int⟩
    · cases e
  · rename_i x _ _
    cases e2 : lstOf a.st x with
    | none => rw [e2] at e; cases e
    | some ds =>
      rw [e2] at e
      cases e
      obtain ⟨v, ev, q1⟩ := q.one
      obtain ⟨b, us, eb, hR, rl⟩ := r.lst e2 q1
      subst ev eb
      exact ⟨.ref b, us.length, rfl, .inl ⟨us, hR, rfl⟩, Post.here p r (by rw [rl.len]; exact to_int)⟩
  · cases e⟩
def absM (_ : List Cell) : List D → Option D
  | [.int i] => some (.int (if i < 0 then -i else i))
  | _ => none
theorem cl_abs : CalR X T (.builtin "abs") absM := ⟨_, call_abs, fun st xs z e W E G ρ a σ H vs Q hst r q p => by
  unfold absM at e
  split at e
  · cases e
    obtain ⟨v, ev, q1⟩ := q.one
    rw [rep_int q1] at ev
    exact ⟨_, ev, Post.here p r to_int⟩
  · cases e⟩
def maxM2 (_ : List Cell) : List D → Option D
  | [.int i, .int j] => some (.int (if j > i then j else i))
  | _ => none
def minM2 (_ : List Cell) : List D → Option D
  | [.int i, .int j] => some (.int (if j < i then j else i))
  | _ => none
theorem cl_max2 (hc : X.calm = true) : CalR X T (.builtin "max") maxM2 := ⟨_, call_max2 hc, fun st xs z e W E G ρ a σ H vs Q hst r q p => by
  unfold maxM2 at e
  split at e
  · cases e
    obtain ⟨v, w, ev, q1, q2⟩ := q.two
    rw [rep_int q1, rep_int q2] at ev
    exact ⟨_, _, ev, Post.here p r to_int⟩
  · cases e⟩
theorem cl_min2 (hc : X.calm = true) : CalR X T (.builtin "min") minM2 := ⟨_, call_min2 hc, fun st xs z e W E G ρ a σ H vs Q hst r q p => by
  unfold minM2 at e
  split at e
  · cases e
    obtain ⟨v, w, ev, q1, q2⟩ := q.two
    rw [rep_int q1, rep_int q2] at ev
    exact ⟨_, _, ev, Post.here p r to_int⟩
  · cases e⟩
def intM (_ : List Cell) : List D → Option D
  | [.int i] => some (.int i)
  | [.bl k] => some (.int (if k then 1 else 0))
  | _ => none
theorem cl_int : CalR X T (.type "int") intM := ⟨_, call_int1, fun st xs z e W E G ρ a σ H vs Q hst r q p => by
  unfold intM at e
  split at e
  · cases e
    obtain ⟨v, ev, q1⟩ := q.one
    rw [rep_int q1] at ev
    exact .inl ⟨_, ev, Post.here p r to_int⟩
  · cases e
    obtain ⟨v, ev, q1⟩ := q.one
    rw [rep_bl q1] at ev
    exact .inr ⟨_, ev, Post.here p r to_int⟩
  · cases e⟩
def tupleM (st : List Cell) : List D → Option D
  | [.tup ds] => some (.tup ds)
  | [x] => (lstOf st x).map fun ds => .tup ds
  | _ => none
theorem cl_tuple : CalR X T (.type "tuple") tupleM := ⟨_, call_tuple_of, fun st xs z e W E G ρ a σ H vs Q hst r q p => by
  subst hst
  unfold tupleM at e
  split at e
  · cases e
    obtain ⟨v, ev, q1⟩ := q.one
    obtain ⟨b, us, eb, tR, rl⟩ := q1.tup
    subst ev eb
    exact ⟨b, us, rfl, .inr ⟨(tR.ge r.sub).sq, Post.here p r q1⟩⟩
  · rename_i x _
    cases e2 : lstOf a.st x with
    | none => rw [e2] at e; cases e
    | some ds =>
      rw [e2] at e
      cases e
      obtain ⟨v, ev, q1⟩ := q.one
      obtain ⟨b, us, eb, hR, rl⟩ := r.lst e2 q1
      subst ev eb
      refine ⟨b, us, rfl, .inl ⟨hR, fun l hl => ?_⟩⟩
      refine Post.laid p r hl ?_
      obtain ⟨g, _⟩ := r.lay (o := HO.tup us) hl
      unfold Rep
      exact ⟨l, us, rfl, .inl upd_same, RepL.ge g (List.prefix_refl _) _ _ rl⟩
  · cases e⟩
def blsOf : List D → Option (List Bool)
  | [] => some []
  | .bl b :: ds => (blsOf ds).map (b :: ·)
  | _ => none
theorem blsOf_eq : ∀ {ds : List D} {bs : List Bool}, blsOf ds = some bs → ds = bs.map D.bl
  | [], _, h => by unfold blsOf at h; cases h; rfl
  | d :: ds, bs, h => by
    cases d with
    | bl b =>
      unfold blsOf at h
      cases e : blsOf ds with
      | none => rw [e] at h; cases h
      | some cs => rw [e] at h; cases h; rw [blsOf_eq e]; rfl
    | _ => unfold blsOf at h; cases h
def allM (st : List Cell) : List D → Option D
  | [x] => (lstOf st x).bind fun ds => (blsOf ds).map fun bs => .bl (bs.all id)
  | _ => none
def anyM (st : List Cell) : List D → Option D
  | [x] => (lstOf st x).bind fun ds => (blsOf ds).map fun bs => .bl (bs.any id)
  | _ => none
theorem cl_all (hc : X.calm = true) : CalR X T (.builtin "all") allM := ⟨_, cr_all hc, fun st xs z e W E G ρ a σ H vs Q hst r q p => by
  subst hst
  unfold allM at e
  split at e
  · rename_i x
    cases e2 : lstOf a.st x with
    | none => rw [e2] at e; cases e
    | some ds =>
      rw [e2] at e
      simp only [Option.bind_some] at e
      cases e3 : blsOf ds with
      | none => rw [e3] at e; cases e
      | some bs =>
        rw [e3] at e
        cases e
        obtain ⟨v, ev, q1⟩ := q.one
        obtain ⟨b, us, eb, hR, rl⟩ := r.lst e2 q1
        subst ev eb
        rw [blsOf_eq e3] at rl
        rw [rl.bls] at hR
        exact ⟨b, bs, rfl, hR, Post.here p r to_bl⟩
  · cases e⟩
theorem cl_any (hc : X.calm = true) : CalR X T (.builtin "any") anyM := ⟨_, cr_any hc, fun st xs z e W E G ρ a σ H vs Q hst r q p => by
  subst hst
  unfold anyM at e
  split at e
  · rename_i x
    cases e2 : lstOf a.st x with
    | none => rw [e2] at e; cases e
    | some ds =>
      rw [e2] at e
      simp only [Option.bind_some] at e
      cases e3 : blsOf ds with
      | none => rw [e3] at e; cases e
      | some bs =>
        rw [e3] at e
        cases e
        obtain ⟨v, ev, q1⟩ := q.one
        obtain ⟨b, us, eb, hR, rl⟩ := r.lst e2 q1
        subst ev eb
        rw [blsOf_eq e3] at rl
        rw [rl.bls] at hR
        exact ⟨b, bs, rfl, hR, Post.here p r to_bl⟩
  · cases e⟩
def listM (ms : M (List D)) : M (List D) := bd ms fun xs => match xs with
  | [.tup ds] => ret ds
  | [x] => rdM fun st => lstOf st x
  | _ => no
theorem pf_list {x : Str} {p pos : Pos} {e : Expr} {ms : M (List D)} (hm : X.mg x = none) (ha : PA X [e] (tA X.K T W ms)) (hv : bootBuiltins x = some (.type "list") := by decide +kernel) (hg : Gl X x := by rfl) (hn : x ≠ "__name__" := by decide) (hdb : (x == ("__debug__" : Str)) = false := by decide)
    (he : starEach [e] X.env = (false, eval e X.env) :: starEach [] X.env := by rfl) (hpl : (backTo pos (starEach [] X.env)).any (·.1) = false := by rfl) : PE X (.Call (.Name x p) [e] [] pos) (tF X.K T W (listM ms)) := by
  refine PE.imp (pe_callTy call_list_of hg hm hv ha hn hdb he hpl) fun σ H Q ⟨E, G, ρ, a, r, p⟩ => ?_
  refine ⟨E, G, ρ, a, r, PostF.bind p fun xs a1 G1 ρ1 H1 vs g1 l1 r1 q1 p1 => ?_⟩
  split at p1
  · rename_i ds
    obtain ⟨v, ev, q1⟩ := q1.one
    obtain ⟨b, us, eb, tR, rl⟩ := q1.tup
    subst ev eb
    exact ⟨b, us, rfl, .inr (tR.ge r1.sub).sq, fun p hp => PostF.new p1 r1 hp rl⟩
  · rename_i x _
    unfold rdM at p1
    dsimp only at p1
    cases e2 : lstOf a1.st x with
    | none => rw [e2] at p1; exact p1.elim
    | some ds =>
      rw [e2] at p1
      obtain ⟨v, ev, q1⟩ := q1.one
      obtain ⟨b, us, eb, hR, rl⟩ := r1.lst e2 q1
      subst ev eb
      exact ⟨b, us, rfl, .inl hR, fun p hp => PostF.new p1 r1 hp rl⟩
  · exact p1.elim
end

structure ClsF (K : PySem.W.Frag) (C : Addr) : Prop where
  cl : Cls K C
  ha : PySem.W.findIn K (.ref C) "__class__" = some (some (.builtin "object.__class__"))
  hn : PySem.W.specialIn K (.builtin "object.__class__") "__get__" = some (some (.builtin "getset_descriptor.__get__"))
  htk : PySem.W.takesIn K (.builtin "object.__class__") = some true
  hm : PySem.W.mroIn K C (.type "object") = some true
def tyD (T : Tab) : D → Option Value
  | .non => some (.type "NoneType")
  | .bl _ => some (.type "bool")
  | .int _ => some (.type "int")
  | .str _ => some (.type "str")
  | .tup _ => some (.type "tuple")
  | .lst _ => some (.type "list")
  | .cell _ => none
  | .dic => some (.type "dict")
  | .ins c _ => if T.ins c = true then some (.ref (T.C c)) else none
  | _ => none
def deC (st : List Cell) : D → Option D
  | .cell i => match st[i]? with
    | some (.lst _) => some (.lst [])
    | some (.obj c _) => some (.ins c [])
    | none => none
  | d => some d
def okX (ins : Nat → Bool) : D → Bool
  | .ins c _ => ins c
  | .ty _ => false
  | .cls _ => false
  | .cell _ => false
  | _ => true
def okC : D → Bool
  | .ty _ => true
  | .cls _ => true
  | _ => false
theorem okX_ty {T : Tab} {x : D} (h : okX T.ins x = true) : ∃ t, tyD T x = some t := by
  cases x with
  | ins c ds => unfold okX at h; dsimp only at h; exact ⟨_, by unfold tyD; dsimp only; rw [if_pos h]⟩
  | ty n => cases h
  | cls n => cases h
  | cell n => cases h
  | _ => exact ⟨_, rfl⟩
def kindD (T : Tab) : D → Option Value
  | .ty n => some (.type n)
  | .cls c => some (.ref (T.C c))
  | _ => none
theorem okC_kind {T : Tab} {x : D} (h : okC x = true) : ∃ u, kindD T x = some u := by
  cases x with
  | ty n => exact ⟨_, rfl⟩
  | cls n => exact ⟨_, rfl⟩
  | _ => cases h
def tyN : D → Option String
  | .non => some "NoneType"
  | .bl _ => some "bool"
  | .int _ => some "int"
  | .str _ => some "str"
  | .tup _ => some "tuple"
  | .lst _ => some "list"
  | .dic => some "dict"
  | _ => none
def known : List String := ["bool", "int", "str", "tuple", "list", "dict"]
def isB (ins : Nat → Bool) (x c : D) : Option Bool := match c with
  | .ty n => if known.contains n = true then (match x with
    | .ins _ _ => some false
    | .ty _ => none
    | .cls _ => none
    | .bl _ => some (n == "bool" || n == "int")
    | x => some (tyN x == some n)) else none
  | .cls k => if ins k = true then (match x with
    | .ins c _ => some (c == k)
    | .ty _ => none
    | .cls _ => none
    | .cell _ => none
    | _ => some false) else none
  | _ => none
def isAny (ins : Nat → Bool) (x : D) : List D → Option Bool
  | [] => some false
  | c :: cs => match isB ins x c with
    | some true => some true
    | some false => isAny ins x cs
    | none => none
structure Fx (K : PySem.W.Frag) (T : Tab) : Prop where
  cls : ∀ c, T.ins c = true → ClsF K (T.C c)
  na : ∀ c f, T.ins c = true → f ∈ T.fl c → NoAttr K (T.C c) f
  isi : ∀ (x c : D) (t u : Value) (b : Bool), tyD T x = some t → kindD T c = some u → isB T.ins x c = some b → PySem.W.kitOne K t u = some b
section
variable {K : PySem.W.Frag} {T : Tab} {E : En} {G : Hp} {ρ : List Addr} {a : AS} {σ : L2.St} {H : Hp}
theorem AR.ty (F : Fx K T) (r : AR K T E G ρ a σ H) {d d' : D} {t : Value} {v : V} (hd : deC a.st d = some d') (h : tyD T d' = some t) (q : Rep K T G ρ d v) : TyX K H v t := by
  cases d with
  | cell i =>
    unfold Rep at q
    obtain ⟨b, e1, e2⟩ := q
    subst e2
    unfold deC at hd
    dsimp only at hd
    cases e : a.st[i]? with
    | none => rw [e] at hd; cases hd
    | some c0 =>
      have z := r.cl i b _ e1 e
      rw [e] at hd
      cases c0 with
      | lst ds =>
        cases hd
        cases h
        obtain ⟨vs, hb, _⟩ := z
        exact .base (.lst hb)
      | obj c fs =>
        cases hd
        unfold tyD at h
        dsimp only at h
        split at h
        · rename_i hi
          cases h
          obtain ⟨dx, us, hb, _⟩ := z
          have Z := F.cls c hi
          exact .base (.ins hb Z.cl Z.ha Z.hn Z.htk Z.hm)
        · cases h
  | non => unfold Rep at q; cases hd; cases h; subst q; exact .base .non
  | bl b => unfold Rep at q; cases hd; cases h; subst q; exact .base (.bl b)
  | int b => unfold Rep at q; cases hd; cases h; subst q; exact .base (.int b)
  | str b => unfold Rep at q; cases hd; cases h; subst q; exact .base (.str b)
  | tup ds =>
    obtain ⟨b, us, e, tR, _⟩ := q.tup
    cases hd
    cases h
    subst e
    rcases tR with tR | ⟨o, its, n, hk, hc, _⟩
    · exact .base (.tup (r.sub _ _ tR))
    · exact .kTuple hk hc
  | lst ds =>
    unfold Rep at q
    obtain ⟨b, us, e, hR, _⟩ := q
    cases hd
    cases h
    subst e
    rcases hR with (hR | ⟨o, hR⟩) | ⟨o, its, n, hk, hc, _⟩
    · exact .base (.lst (r.sub _ _ hR))
    · exact .base (.frz (r.sub _ _ hR))
    · exact .kList hk hc
  | dic =>
    unfold Rep at q
    obtain ⟨b, e, hb⟩ := q
    cases hd
    cases h
    subst e
    exact .base (.dK (r.sub _ _ hb))
  | ins c ds =>
    unfold Rep at q
    obtain ⟨b, dx, us, e, hb, _⟩ := q
    cases hd
    unfold tyD at h
    dsimp only at h
    split at h
    · rename_i hi
      cases h
      subst e
      have Z := F.cls c hi
      exact .base (.ins (r.sub _ _ hb) Z.cl Z.ha Z.hn Z.htk Z.hm)
    · cases h
  | ty n => cases hd; cases h
  | cls c => cases hd; cases h
theorem rep_kind {c : D} {u : Value} {v : V} (h : kindD T c = some u) (q : Rep K T G ρ c v) : ClsV v u := by
  unfold kindD at h
  split at h
  · cases h; unfold Rep at q; subst q; exact .ty _
  · cases h; unfold Rep at q; subst q; exact .own _
  · cases h
theorem kinds_of : ∀ {cs : List D} {vs : List V}, (∀ c ∈ cs, okC c = true) → RepL K T G ρ cs vs → ∃ us, Paired ClsV vs us ∧ Paired (fun c u => kindD T c = some u) cs us
  | [], _, _, h => by rw [h.inv0]; exact ⟨[], .nil, .nil⟩
  | c :: cs, _, k, h => by
    obtain ⟨v, r, e, q, t⟩ := h.inv
    subst e
    obtain ⟨us, p1, p2⟩ := kinds_of (cs := cs) (fun c hc => k c (List.mem_cons_of_mem _ hc)) t
    obtain ⟨u, hu⟩ := okC_kind (T := T) (k c List.mem_cons_self)
    exact ⟨u :: us, .cons (rep_kind hu q) p1, .cons hu p2⟩
theorem kit_any (F : Fx K T) {x : D} {t : Value} (ht : tyD T x = some t) : ∀ {cs : List D} {us : List Value} {b : Bool}, Paired (fun c u => kindD T c = some u) cs us → isAny T.ins x cs = some b → PySem.W.kitAny K t us = some b
  | [], _, _, .nil, h => by unfold isAny at h; cases h; rfl
  | c :: cs, _, b, .cons hu p, h => by
    unfold isAny at h
    cases e : isB T.ins x c with
    | none => rw [e] at h; cases h
    | some k =>
      rw [e] at h
      have z := F.isi x c t _ k ht hu e
      cases k with
      | true => cases h; exact kitAny_cons z (fun q => nomatch q) (fun _ => rfl)
      | false => exact kitAny_cons z (fun _ => kit_any F ht p h) (fun q => nomatch q)
end
def isiM (ins : Nat → Bool) (st : List Cell) : List D → Option D
  | [x, .tup cs] => (deC st x).bind fun x => if (okX ins x && cs.all okC) = true then (isAny ins x cs).map .bl else none
  | [x, c] => (deC st x).bind fun x => if (okX ins x && okC c) = true then (isB ins x c).map .bl else none
  | _ => none
section
variable {X : Cx} {T : Tab} {W : WX}
theorem cl_isi {ins : Nat → Bool} (F : Fx X.K T) (hT : T.ins = ins) : CalR X T (.builtin "isinstance") (isiM ins) := ⟨_, call_isi.or (call_isiT.or call_isiK), fun st xs z e W E G ρ a σ H vs Q hst r q p => by
  subst hT hst
  unfold isiM at e
  split at e
  · rename_i x cs
    cases e0 : deC a.st x with
    | none => rw [e0] at e; cases e
    | some x' =>
    rw [e0] at e
    simp only [Option.bind_some] at e
    split at e
    · rename_i h
      rw [Bool.and_eq_true] at h
      obtain ⟨t, ht⟩ := okX_ty (T := T) h.1
      cases e2 : isAny T.ins x' cs with
      | none => rw [e2] at e; cases e
      | some b =>
        rw [e2] at e
        cases e
        obtain ⟨v, w, ev, q1, q2⟩ := q.two
        obtain ⟨tp, ws, ew, tR, rl⟩ := q2.tup
        obtain ⟨us, p1, p2⟩ := kinds_of (fun c hc => List.all_eq_true.mp h.2 c hc) rl
        have k := kit_any F ht p2 e2
        have ty := r.ty F e0 ht q1
        subst ev ew
        rcases tR with tR | ⟨o, its, n, hk, hc, hs, _, hv⟩
        · exact .inr (.inl ⟨v, tp, ws, t, us, b, rfl, r.sub _ _ tR, p1, ty, k, Post.here p r to_bl⟩)
        · have e3 := ClsV.all p1 hv
          obtain ⟨oc, od, dt, sl⟩ := o
          simp only at hc hs
          subst hc hs
          exact .inr (.inr ⟨v, tp, od, us, n, sl, t, b, rfl, by rw [hk, ← e3], ty, k, Post.here p r to_bl⟩)
    · cases e
  · rename_i x c _
    cases e0 : deC a.st x with
    | none => rw [e0] at e; cases e
    | some x' =>
    rw [e0] at e
    simp only [Option.bind_some] at e
    split at e
    · rename_i h
      rw [Bool.and_eq_true] at h
      obtain ⟨t, ht⟩ := okX_ty (T := T) h.1
      obtain ⟨u, hu⟩ := okC_kind (T := T) h.2
      cases e2 : isB T.ins x' c with
      | none => rw [e2] at e; cases e
      | some b =>
        rw [e2] at e
        cases e
        obtain ⟨v, w, ev, q1, q2⟩ := q.two
        exact .inl ⟨v, w, t, u, b, ev, rep_kind hu q2, r.ty F e0 ht q1, F.isi x' c t u b ht hu e2, Post.here p r to_bl⟩
    · cases e
  · cases e⟩
end
end PL

namespace PL
open PySem PySem.Spec PyProof.Rows L2

inductive Fl where
  | nx | ret (d : D) | bk | ct
section
variable (K : PySem.W.Frag) (T : Tab) (W : WX)
def PostS (E : En) (G : Hp) (ρ : List Addr) (o : Out Fl) (D : Ends) : Prop := match o with
  | .stuck => False
  | .ok f a' => match f with
    | .nx => ∀ G' ρ' σ' H', Ge G G' → ρ <+: ρ' → AR K T E G' ρ' a' σ' H' → D.nx σ' H'
    | .ret d => ∀ G' ρ' σ' H' v, Ge G G' → ρ <+: ρ' → AR K T E G' ρ' a' σ' H' → Rep K T G' ρ' d v → D.rt v H'
    | .bk => ∀ G' ρ' σ' H', Ge G G' → ρ <+: ρ' → AR K T E G' ρ' a' σ' H' → D.bk σ' H'
    | .ct => ∀ G' ρ' σ' H', Ge G G' → ρ <+: ρ' → AR K T E G' ρ' a' σ' H' → D.ct σ' H'
  | .exc c fs a' => ∀ G' ρ' σ' H' dd, Ge G G' → ρ <+: ρ' → AR K T E G' ρ' a' σ' H' → ExR K T G' ρ' H' fs dd → W (.ref (T.C c)) dd σ' H'
def tS (m : M Fl) : TS := fun D σ H => ∃ E G ρ a, AR K T E G ρ a σ H ∧ PostS K T W E G ρ (m a) D
end
def seqM (m n : M Fl) : M Fl := fun a => match m a with
  | .ok .nx a' => n a'
  | o => o
section
variable {K : PySem.W.Frag} {T : Tab} {W : WX} {E : En} {G G' : Hp} {ρ ρ' : List Addr} {α β : Type}
theorem PostS.ext {o : Out Fl} {D : Ends} (h : PostS K T W E G ρ o D) (g : Ge G G') (p : ρ <+: ρ') : PostS K T W E G' ρ' o D := by
  cases o with
  | stuck => exact h
  | exc c fs a => exact fun G2 ρ2 σ2 H2 v e1 e2 r q => h G2 ρ2 σ2 H2 v (g.trans e1) (p.trans e2) r q
  | ok f a =>
    cases f with
    | nx => exact fun G2 ρ2 σ2 H2 e1 e2 r => h G2 ρ2 σ2 H2 (g.trans e1) (p.trans e2) r
    | ret d => exact fun G2 ρ2 σ2 H2 v e1 e2 r q => h G2 ρ2 σ2 H2 v (g.trans e1) (p.trans e2) r q
    | bk => exact fun G2 ρ2 σ2 H2 e1 e2 r => h G2 ρ2 σ2 H2 (g.trans e1) (p.trans e2) r
    | ct => exact fun G2 ρ2 σ2 H2 e1 e2 r => h G2 ρ2 σ2 H2 (g.trans e1) (p.trans e2) r
theorem PostS.bind {R1 : Hp → List Addr → α → β → Prop} {o : Out α} {f : α → AS → Out Fl} {D : Ends} {σ : L2.St} {Q1 : β → Hp → Prop} (h : PostS K T W E G ρ (o.bind f) D)
    (k : ∀ x a' G' ρ' H' v, Ge G G' → ρ <+: ρ' → AR K T E G' ρ' a' σ H' → R1 G' ρ' x v → PostS K T W E G' ρ' (f x a') D → Q1 v H') : Post K T W E σ G ρ R1 o Q1 := by
  cases o with
  | stuck => exact h
  | ok x a => exact fun G2 ρ2 H2 v e1 e2 r q => k x a G2 ρ2 H2 v e1 e2 r q (PostS.ext (o := f x a) h e1 e2)
  | exc c fs a => exact fun G2 ρ2 H2 dd e1 e2 r q => h G2 ρ2 σ H2 dd e1 e2 r q
theorem PostS.bindF {o : Out (List D)} {f : List D → AS → Out Fl} {De : Ends} {σ : L2.St} {Q1 : VK} (h : PostS K T W E G ρ (o.bind f) De)
    (k : ∀ ds a' G' ρ' H' p vs, Ge G G' → ρ <+: ρ' → AR K T E G' ρ' a' σ H' → Free K T E G' ρ' a' σ p → H' p = some (.lst vs) → RepL K T G' ρ' ds vs → PostS K T W E G' ρ' (f ds a') De → Q1 (.ref p) H') : PostF K T W E σ G ρ o Q1 := by
  cases o with
  | stuck => exact h
  | ok x a => exact fun G2 ρ2 H2 p vs e1 e2 r fr hp q => k x a G2 ρ2 H2 p vs e1 e2 r fr hp q (PostS.ext (o := f x a) h e1 e2)
  | exc c fs a => exact fun G2 ρ2 H2 dd e1 e2 r q => h G2 ρ2 σ H2 dd e1 e2 r q
theorem tS.bind {R1 : Hp → List Addr → α → β → Prop} {m : M α} {f : α → M Fl} {De : Ends} {σ : L2.St} {H : Hp} {Q1 : β → Hp → Prop} (h : tS K T W (bd m f) De σ H)
    (k : ∀ E x a' G' ρ' H' v, AR K T E G' ρ' a' σ H' → R1 G' ρ' x v → PostS K T W E G' ρ' (f x a') De → Q1 v H') : tX K T W R1 m σ H Q1 := by
  obtain ⟨E, G, ρ, a, r, p⟩ := h
  exact ⟨E, G, ρ, a, r, PostS.bind p fun x a' G' ρ' H' v _ _ r q z => k E x a' G' ρ' H' v r q z⟩
theorem tS.bindF {m : M (List D)} {f : List D → M Fl} {De : Ends} {σ : L2.St} {H : Hp} {Q1 : VK} (h : tS K T W (bd m f) De σ H)
    (k : ∀ E ds a' G' ρ' H' p vs, AR K T E G' ρ' a' σ H' → Free K T E G' ρ' a' σ p → H' p = some (.lst vs) → RepL K T G' ρ' ds vs → PostS K T W E G' ρ' (f ds a') De → Q1 (.ref p) H') : tF K T W m σ H Q1 := by
  obtain ⟨E, G, ρ, a, r, p⟩ := h
  exact ⟨E, G, ρ, a, r, PostS.bindF p fun x a' G' ρ' H' b vs _ _ r f hb q z => k E x a' G' ρ' H' b vs r f hb q z⟩
theorem PostS.here {a : AS} {De : Ends} {σ : L2.St} {H : Hp} (h : PostS K T W E G ρ (ret .nx a) De) (r : AR K T E G ρ a σ H) : De.nx σ H := h G ρ σ H Ge.rfl' (List.prefix_refl _) r
end

section
variable {X : Cx} {T : Tab} {W : WX}
def nxM : M Fl := ret .nx
theorem pss_nilX : PSs X [] (tS X.K T W nxM) := PSs.imp pss_nil fun D σ H ⟨E, G, ρ, a, r, p⟩ => PostS.here p r
theorem seq_read {m n : M Fl} {D : Ends} {σ : L2.St} {H : Hp} (h : tS X.K T W (seqM m n) D σ H) : tS X.K T W m { D with nx := (tS X.K T W n) D } σ H := by
  obtain ⟨E, G, ρ, a, r, p⟩ := h
  refine ⟨E, G, ρ, a, r, ?_⟩
  unfold seqM at p
  cases e : m a with
  | stuck => rw [e] at p; exact p
  | exc c fs a1 => rw [e] at p; exact p
  | ok f a1 =>
    rw [e] at p
    cases f with
    | nx => exact fun G1 ρ1 σ1 H1 g1 l1 r1 => ⟨E, G1, ρ1, a1, r1, PostS.ext (o := n a1) p g1 l1⟩
    | ret d => exact p
    | bk => exact p
    | ct => exact p
theorem pss_consX {st : Stmt} {rest : List Stmt} {m n : M Fl} (h : PS X st (tS X.K T W m)) (t : PSs X rest (tS X.K T W n)) : PSs X (st :: rest) (tS X.K T W (seqM m n)) :=
  PSs.imp (pss_cons h t) fun D σ H q => seq_read q
theorem pss_oneX {st : Stmt} {m : M Fl} (h : PS X st (tS X.K T W m)) : PSs X [st] (tS X.K T W m) := pss_one h

theorem ps_passX {pos} : PS X (.Pass pos) (tS X.K T W nxM) := PS.imp ps_pass fun D σ H ⟨E, G, ρ, a, r, p⟩ => PostS.here p r
theorem ps_brkX {pos} : PS X (.Break pos) (tS X.K T W (ret .bk)) := PS.imp ps_break fun D σ H ⟨E, G, ρ, a, r, p⟩ => p G ρ σ H Ge.rfl' (List.prefix_refl _) r
theorem ps_ctX {pos} : PS X (.Continue pos) (tS X.K T W (ret .ct)) := PS.imp ps_continue fun D σ H ⟨E, G, ρ, a, r, p⟩ => p G ρ σ H Ge.rfl' (List.prefix_refl _) r
def exprM (m : M D) : M Fl := bd m fun _ => ret .nx
theorem ps_exprX {e : Expr} {m : M D} {pos : Pos} (h : PE X e (tE X.K T W m)) (hs : swapsWith e none pos.line X.env = pure false := by rfl) : PS X (.Expr e pos) (tS X.K T W (exprM m)) := by
  refine PS.imp (ps_expr h hs) fun D σ H h => ?_
  exact tS.bind h fun E x a1 G1 ρ1 H1 v r1 q1 p1 => PostS.here p1 r1
def retM (m : M D) : M Fl := bd m fun d => ret (.ret d)
theorem ps_retX {e : Expr} {m : M D} {pos : Pos} (h : PE X e (tE X.K T W m)) : PS X (.Return (some e) pos) (tS X.K T W (retM m)) := by
  refine PS.imp (ps_ret h) fun D σ H h => ?_
  exact tS.bind h fun E x a1 G1 ρ1 H1 v r1 q1 p1 => p1 G1 ρ1 σ H1 v Ge.rfl' (List.prefix_refl _) r1 q1
theorem ps_retNX {pos : Pos} : PS X (.Return none pos) (tS X.K T W (ret (.ret .non))) := by
  refine PS.imp ps_retN fun D σ H ⟨E, G, ρ, a, r, p⟩ => ?_
  exact p G ρ σ H .non Ge.rfl' (List.prefix_refl _) r to_non
theorem ps_ifX {c : Expr} {s t : List Stmt} {mc : M Bool} {m n : M Fl} {pos : Pos} (hc : PT X c (tT X.K T W mc)) (hs : PSs X s (tS X.K T W m)) (ht : PSs X t (tS X.K T W n)) : PS X (.If c s t pos) (tS X.K T W (ifM mc m n)) := by
  refine PS.imp (ps_if hc hs ht) fun D σ H h => ?_
  refine tS.bind h fun E c a1 G1 ρ1 H1 v r1 q1 p1 => ?_
  cases q1
  cases c with
  | false => exact iteF ⟨E, G1, ρ1, a1, r1, p1⟩
  | true => exact iteT ⟨E, G1, ρ1, a1, r1, p1⟩
def setM (i : Nat) (m : M D) : M Fl := bd m fun d => fun a => .ok .nx { a with sl := a.sl.set i (.val d) }
theorem ps_setX (i : Nat) {x : Str} {e : Expr} {m : M D} {pos pos' : Pos} (h : PE X e (tE X.K T W m)) (hN : X.N.Nodup) (hi : X.N[i]? = some x := by rfl) (hx : Loc X.env.scope x := by first | exact Or.inl rfl | exact Or.inr rfl)
    (hs : swapsWith e (some (.Name x pos')) pos.line X.env = pure false := by rfl) (hf : X.fn x = true ∨ X.env.scope.names.lookup x = some .local := by first | exact .inl rfl | exact .inr rfl) :
    PS X (.Assign [.Name x pos'] e pos) (tS X.K T W (setM i m)) := by
  refine PS.imp (ps_set hN hi hx h hs hf) fun D σ H h => ?_
  exact tS.bind h fun E x a1 G1 ρ1 H1 v r1 q1 p1 => p1 G1 ρ1 _ H1 Ge.rfl' (List.prefix_refl _) (r1.setV i q1)
def ownM (i : Nat) (m : M (List D)) : M Fl := bd m fun ds => fun a => .ok .nx { a with sl := a.sl.set i (.own ds) }
theorem ps_ownX (i : Nat) {x : Str} {e : Expr} {m : M (List D)} {pos pos' : Pos} (h : PE X e (tF X.K T W m)) (hN : X.N.Nodup) (hi : X.N[i]? = some x := by rfl) (hx : Loc X.env.scope x := by first | exact Or.inl rfl | exact Or.inr rfl)
    (hs : swapsWith e (some (.Name x pos')) pos.line X.env = pure false := by rfl) (hf : X.fn x = true ∨ X.env.scope.names.lookup x = some .local := by first | exact .inl rfl | exact .inr rfl) :
    PS X (.Assign [.Name x pos'] e pos) (tS X.K T W (ownM i m)) := by
  refine PS.imp (ps_set hN hi hx h hs hf) fun D σ H h => ?_
  exact tS.bindF h fun E ds a1 G1 ρ1 H1 p vs r1 f hp q1 p1 => p1 G1 ρ1 _ H1 Ge.rfl' (List.prefix_refl _) (r1.setO i f hp q1)
def cellM (i : Nat) (m : M (List D)) : M Fl := bd m fun ds => fun a => .ok .nx ⟨a.sl.set i (.val (.cell a.st.length)), a.st ++ [.lst ds]⟩
theorem ps_cellX (i : Nat) {x : Str} {e : Expr} {m : M (List D)} {pos pos' : Pos} (h : PE X e (tF X.K T W m)) (hN : X.N.Nodup) (hi : X.N[i]? = some x := by rfl) (hx : Loc X.env.scope x := by first | exact Or.inl rfl | exact Or.inr rfl)
    (hs : swapsWith e (some (.Name x pos')) pos.line X.env = pure false := by rfl) (hf : X.fn x = true ∨ X.env.scope.names.lookup x = some .local := by first | exact .inl rfl | exact .inr rfl) :
    PS X (.Assign [.Name x pos'] e pos) (tS X.K T W (cellM i m)) := by
  refine PS.imp (ps_set hN hi hx h hs hf) fun D σ H h => ?_
  refine tS.bindF h fun E ds a1 G1 ρ1 H1 p vs r1 f hp q1 p1 => ?_
  have r2 := r1.newCell f hp q1
  have r3 := r2.setV (d := .cell a1.st.length) (v := .ref p) i (by
    unfold Rep
    refine ⟨p, ?_, rfl⟩
    rw [r1.clen, List.getElem?_append_right (Nat.le_refl _)]
    simp)
  exact p1 G1 (ρ1 ++ [p]) _ H1 Ge.rfl' (List.prefix_append _ _) r3
def intAt (i : Nat) : M Int := fun a => match a.sl.getD i .emp with
  | .val (.int k) => .ok k a
  | _ => .stuck
def augM (i : Nat) (g : Int → Int → Int) (m : M D) : M Fl := bd (intAt i) fun k => bd m fun y => match y with
  | .int j => fun a => .ok .nx { a with sl := a.sl.set i (.val (.int (g k j))) }
  | _ => no
theorem ip_of {op : Operator} {g : Int → Int → Int} (h : OpR X (inplaceOp op) (rI0 fun i j => .int (g i j))) : PIp X op (ipI g) := fun pins s σ H x y v u Q I rx ry q => h pins s σ H x y v u Q I rx ry q
theorem ps_augI (i : Nat) {x : Str} {e : Expr} {m : M D} {op : Operator} {g : Int → Int → Int} {pos pos' : Pos} (ho : PIp X op (ipI g)) (h : PE X e (tE X.K T W m)) (hN : X.N.Nodup) (hi : X.N[i]? = some x := by rfl) (hx : Loc X.env.scope x := by first | exact Or.inl rfl | exact Or.inr rfl)
    (hf : X.fn x = true ∨ X.env.scope.names.lookup x = some .local := by first | exact .inl rfl | exact .inr rfl) :
    PS X (.AugAssign (.Name x pos') op e pos) (tS X.K T W (augM i g m)) := by
  refine PS.imp (ps_aug hN hi hx h ho hf) fun De σ H h => ?_
  obtain ⟨E, G, ρ, a, r, p⟩ := h
  unfold augM bd intAt at p
  split at p
  · rename_i k e1
    obtain ⟨v, hv, q⟩ := r.val (getD_some e1 (fun z => nomatch z))
    refine ⟨v, hv, ⟨E, G, ρ, a, r, ?_⟩⟩
    simp only [bind_ok] at p
    refine PostS.bind p fun y a1 G1 ρ1 H1 w g1 l1 r1 q1 p1 => ?_
    cases y with
    | int j => exact ⟨_, _, rep_int q, rep_int q1, p1 G1 ρ1 _ H1 Ge.rfl' (List.prefix_refl _) (r1.setV i to_int)⟩
    | _ => exact p1.elim
  · exact p.elim
end
end PL

namespace PL
open PySem PySem.Spec PyProof.Rows L2

abbrev FD := List D → List Cell → Out D
def finish : Out Fl → Out D
  | .ok .nx a => .ok .non a
  | .ok (.ret d) a => .ok d a
  | .exc c fs a => .exc c fs a
  | _ => .stuck
def fram (n : Nat) (ds : List D) (st : List Cell) : AS := ⟨ds.map Slot.val ++ List.replicate (n - ds.length) .emp, st⟩
def mkF (n : Nat) (m : M Fl) : FD := fun ds st => finish (m (fram n ds st))

section
variable (K : PySem.W.Frag) (T : Tab)
structure StR (G : Hp) (ρ : List Addr) (st : List Cell) (H : Hp) : Prop where
  sub : ∀ b o, G b = some o → H b = some o
  clen : st.length = ρ.length
  cl : ∀ (i : Nat) (b : Addr) (c : Cell), ρ[i]? = some b → st[i]? = some c → CellR K T G ρ H b c
  cnd : ρ.Nodup
  cG : ∀ b ∈ ρ, G b = none
structure Aft (G : Hp) (ρ : List Addr) (H : Hp) (G' : Hp) (ρ' : List Addr) (H' : Hp) (st' : List Cell) : Prop where
  g : Ge G G'
  l : ρ <+: ρ'
  s : StR K T G' ρ' st' H'
  fr : ∀ b o, H b = some o → b ∉ ρ → H' b = some o
  gnew : ∀ b o, G' b = some o → G b = some o ∨ H b = none
  rnew : ∀ b ∈ ρ', b ∈ ρ ∨ H b = none
def PostC (G : Hp) (ρ : List Addr) (H : Hp) (o : Out D) (Q : VK) (Ex : XK) : Prop := match o with
  | .stuck => False
  | .ok d a' => ∀ G' ρ' H' v, Aft K T G ρ H G' ρ' H' a'.st → Rep K T G' ρ' d v → Q v H'
  | .exc c fs a' => ∀ G' ρ' H' dd, Aft K T G ρ H G' ρ' H' a'.st → ExR K T G' ρ' H' fs dd → Ex (.ref (T.C c)) dd H'
def spM (np : Nat) (f : FD) : Sp := fun vs H Q Ex => ∃ G ρ ds st, StR K T G ρ st H ∧ RepL K T G ρ ds vs ∧ ds.length = np ∧ PostC K T G ρ H (f ds st) Q Ex
end

section
variable {K : PySem.W.Frag} {T : Tab} {E : En} {G G' : Hp} {ρ ρ' : List Addr} {a : AS} {σ : L2.St} {H H' : Hp} {st' : List Cell}
theorem AR.st (r : AR K T E G ρ a σ H) : StR K T G ρ a.st H := ⟨r.sub, r.clen, r.cl, r.cnd, r.cG⟩
theorem AR.after (r : AR K T E G ρ a σ H) (f : Aft K T G ρ H G' ρ' H' st') : AR K T E G' ρ' { a with st := st' } σ H' := by
  obtain ⟨g, l, s, fr, gnew, rnew⟩ := f
  have kp : ∀ b o, b ∉ ρ → H b = some o → H' b = some o := fun b o h e => fr b o e h
  have nG : ∀ b, H b ≠ none → G b = none → G' b = none := fun b h e => by
    cases q : G' b with
    | none => rfl
    | some o => rcases gnew b o q with z | z
                · rw [e] at z; cases z
                · exact absurd z h
  have nr : ∀ b, H b ≠ none → b ∉ ρ → b ∉ ρ' := fun b h e z => by
    rcases rnew b z with y | y
    · exact e y
    · exact h y
  have h0 : ∀ b, H b = none → E.H0 b = none := fun b e => (r.fresh e).1
  refine ⟨s.sub, r.len, fun i t v e1 e2 => ?_, r.nd, s.clen, s.cl, s.cnd, s.cG, fun b o e h1 h2 => ?_, fun b o e => ?_, fun b o e => g b o (r.gext b o e), r.rext.trans l, fun b hb => ?_, fun b e => ?_⟩
  · have z := r.sl i t v e1 e2
    cases t with
    | emp => trivial
    | val d => obtain ⟨x, e, q⟩ := z; exact ⟨x, e, Rep.ge g l _ _ q⟩
    | own ds =>
      obtain ⟨b, vs, e, hb, q, y1, y2, y3⟩ := z
      have nn : H b ≠ none := by rw [hb]; exact (fun z => nomatch z)
      exact ⟨b, vs, e, kp b _ y2 hb, RepL.ge g l _ _ q, nG b nn y1, nr b nn y2, y3⟩
    | obj c fs =>
      obtain ⟨b, dx, fvs, e, hb, q, y3⟩ := z
      exact ⟨b, dx, fvs, e, kp b _ (r.sfH b y3).2.2.2 hb, RepF.ge g l _ _ q, y3⟩
  · have hb := r.fr b o e h1 h2
    refine kp b o (fun z => ?_) hb
    rcases r.rnew b z with y | y
    · exact h1 y
    · rw [y] at e; cases e
  · rcases gnew b o e with y | y
    · exact r.gnew b o y
    · exact .inr (h0 b y)
  · rcases rnew b hb with y | y
    · exact r.rnew b y
    · exact .inr (h0 b y)
  · obtain ⟨q1, q2, q3, q4⟩ := r.sfH b e
    cases hb : H b with
    | none => exact absurd hb q2
    | some o => exact ⟨q1, (by rw [kp b o q4 hb]; exact (fun z => nomatch z)), nG b q2 q3, nr b q2 q4⟩
theorem AR.start {N : List Str} {ds : List D} {vs : List V} {st : List Cell} (s : StR K T G ρ st H) (q : RepL K T G ρ ds vs) (hl : ds.length ≤ N.length) : AR K T ⟨H, G, ρ, none⟩ G ρ (fram N.length ds st) (L2.start N vs) H := by
  have hv := q.len
  refine ⟨s.sub, ?_, fun i t v e1 e2 => ?_, fun i j b es fs hij e1 e2 _ _ => ?_, s.clen, s.cl, s.cnd, s.cG, fun b o e _ _ => e, fun b o e => .inl e, fun b o e => e, List.prefix_refl _, fun b hb => .inl hb, fun b e => nomatch e⟩
  · unfold fram L2.start
    simp [hv]
  · unfold fram at e1
    unfold L2.start at e2
    by_cases hi : i < ds.length
    · rw [List.getElem?_append_left (by simpa using hi)] at e1
      rw [List.getElem?_append_left (by simpa [hv] using hi)] at e2
      rw [List.getElem?_map] at e1 e2
      cases e3 : ds[i]? with
      | none => rw [e3] at e1; cases e1
      | some d =>
        rw [e3] at e1
        cases e1
        obtain ⟨w, h1, h2⟩ := q.get e3
        rw [h1] at e2
        cases e2
        exact ⟨w, rfl, h2⟩
    · rw [List.getElem?_append_right (by simpa using hi)] at e1
      rw [List.getElem?_replicate] at e1
      split at e1
      · cases e1; trivial
      · cases e1
  · exfalso
    unfold fram at e1
    by_cases hi : i < ds.length
    · rw [List.getElem?_append_left (by simpa using hi), List.getElem?_map] at e1
      cases e3 : ds[i]? with
      | none => rw [e3] at e1; cases e1
      | some d => rw [e3] at e1; cases e1
    · rw [List.getElem?_append_right (by simpa using hi), List.getElem?_replicate] at e1
      split at e1 <;> cases e1
theorem AR.aft (r : AR K T E G' ρ' a σ H') (hs : E.sf = none) : Aft K T E.G0 E.ρ0 E.H0 G' ρ' H' a.st :=
  ⟨r.gext, r.rext, r.st, fun b o e h => r.fr b o e h (by rw [hs]; exact (fun z => nomatch z)), r.gnew, r.rnew⟩
end

section
variable {P : Program} {w : World} {K : PySem.W.Frag} {mg : Str → Option Value} {base : Heap} {T : Tab} {x qual : Str} {params : Arguments} {body : List Stmt} {scope : Scope} {dvs : List V} {kws : List (Str × V)} {f : Addr} {fd : FuncData}
theorem fn_okX {N ps : List Str} {k : Nat} {m : M Fl} (F : FunD K x qual params body scope dvs kws f fd) (S : FnScope N ps scope)
    (hb : ∀ (cdv : Value) (A : Around) (outer : List Env) (s : Shared) (H : Hp) (Ex : XK), Room k (A.deeper (envOfC qual scope s.heap.objs.size f cdv)) →
      PSs (cxOf (CX P w) P w K mg base N qual scope f cdv A outer s H Ex) body (tS K T (fun cls d _ H => Ex cls d H) m)) :
    FnOk P w K mg base (CX P w) (k + 1) f fd ps (spM K T ps.length (mkF N.length m)) := by
  refine FunD.ok F S (fun vs H Q Ex ⟨G, ρ, ds, st, s, q, hl, _⟩ => by rw [q.len, hl]) fun cdv A outer s H vs Q Ex hr ⟨G, ρ, ds, st, hs, q, hl, p⟩ => ?_
  refine ⟨_, hb cdv A outer s H Ex hr, ⟨⟨H, G, ρ, none⟩, G, ρ, fram N.length ds st, ?_, ?_⟩⟩
  · refine AR.start hs q ?_
    have := congrArg List.length S.pre
    rw [List.length_take] at this
    omega
  · unfold mkF at p
    cases e : m (fram N.length ds st) with
    | stuck => rw [e] at p; exact p.elim
    | exc c fs a1 => rw [e] at p; exact fun G1 ρ1 σ1 H1 dd g1 l1 r1 q1 => p G1 ρ1 H1 dd (r1.aft rfl) q1
    | ok fl a1 =>
      rw [e] at p
      cases fl with
      | nx => exact fun G1 ρ1 σ1 H1 g1 l1 r1 => p G1 ρ1 H1 .non (r1.aft rfl) to_non
      | ret d => exact fun G1 ρ1 σ1 H1 v g1 l1 r1 q1 => p G1 ρ1 H1 v (r1.aft rfl) q1
      | bk => exact p.elim
      | ct => exact p.elim
end

def callM (np : Nat) (f : FD) (ds : List D) : M D := fun a => if ds.length = np then (match f ds a.st with
  | .stuck => .stuck
  | .ok d a' => .ok d { a with st := a'.st }
  | .exc c fs a' => .exc c fs { a with st := a'.st }) else .stuck
section
variable {X : Cx} {T : Tab} {W : WX}
theorem call_read {E : En} {σ : L2.St} {G : Hp} {ρ : List Addr} {a : AS} {H : Hp} {np : Nat} {f : FD} {ds : List D} {vs : List V} {Q : VK} (r : AR X.K T E G ρ a σ H) (q : RepL X.K T G ρ ds vs) (p : Post X.K T W E σ G ρ (Rep X.K T) (callM np f ds a) Q) :
    spM X.K T np f vs H Q (fun cls d H' => W cls d σ H') := by
  unfold callM at p
  split at p
  · rename_i hl
    refine ⟨G, ρ, ds, a.st, r.st, q, hl, ?_⟩
    cases e : f ds a.st with
    | stuck => rw [e] at p; exact p
    | ok d a1 => rw [e] at p; exact fun G1 ρ1 H1 v h1 q1 => p G1 ρ1 H1 v h1.g h1.l (r.after h1) q1
    | exc c fs a1 => rw [e] at p; exact fun G1 ρ1 H1 v h1 q1 => p G1 ρ1 H1 v h1.g h1.l (r.after h1) q1
  · exact p.elim
variable {k np : Nat} {f : Addr} {fd : FuncData} {ps : List Str} {g : FD} {dvs : List V} {ds : List Value} {dds : List D} {x : Str} {p pos : Pos} {e : Expr} {es : List Expr} {ms : M (List D)}
def callA (np : Nat) (f : FD) (dds : List D) (ms : M (List D)) : M D := bd ms fun xs => callM np f (xs ++ dds)
theorem px_call (F : FnOk X.prog X.w X.K X.mg X.base (CX X.prog X.w) k f fd ps (spM X.K T np g)) (hr : Room k X.A) (hm : X.mg x = some (.ref f)) (hk : PySem.W.keepIn X.K (.ref f) = true) (hb : Binds X.K fd ps ds) (hd : Vals dvs ds) (hdd : ∀ G ρ, RepL X.K T G ρ dds dvs) (tk : Takes X W)
    (ha : PA X (e :: es) (tA X.K T W ms)) (hg : Gl X x := by rfl) (hdb : (x == ("__debug__" : Str)) = false := by decide) (he : starEach (e :: es) X.env = (false, eval e X.env) :: starEach es X.env := by rfl) (hpl : (backTo pos (starEach es X.env)).any (·.1) = false := by rfl) :
    PE X (.Call (.Name x p) (e :: es) [] pos) (tE X.K T W (callA np g dds ms)) := by
  refine PE.imp (pe_callSD (E := fun σ cls d H' => W cls d σ H') F hr hg hm hk hb hd (fun σ => passAt tk σ) ha hdb he hpl) fun σ H Q h => ?_
  refine tX.bind h fun E xs a1 G1 ρ1 H1 vs r1 q1 p1 => ?_
  exact call_read r1 (q1.app (hdd _ _)) p1
theorem px_call0 (F : FnOk X.prog X.w X.K X.mg X.base (CX X.prog X.w) k f fd ps (spM X.K T np g)) (hr : Room k X.A) (hm : X.mg x = some (.ref f)) (hk : PySem.W.keepIn X.K (.ref f) = true) (hb : Binds X.K fd ps ds) (hd : Vals dvs ds) (hdd : ∀ G ρ, RepL X.K T G ρ dds dvs) (tk : Takes X W)
    (hg : Gl X x := by rfl) (hdb : (x == ("__debug__" : Str)) = false := by decide) : PE X (.Call (.Name x p) [] [] pos) (tE X.K T W (callM np g dds)) := by
  refine ⟨fun pins s σ H Q I ⟨E, G, ρ, a, r, pp⟩ => ?_⟩
  refine wpAny_Call_Name_kw (ld_glob I hg hm ?_ hdb)
  exact PySem.W.callWith_K0 I.kIn hk (run_fnSD (E := fun σ cls d H' => W cls d σ H') (us := []) F hr hb hd (passAt tk σ) I .nil (call_read r (hdd _ _) pp))
end
end PL

namespace PL
open PySem PySem.Spec PyProof.Rows L2

set_option maxHeartbeats 4000000 in
theorem meets_enumerate_newT (t : Addr) (items : Array Value) :
    Meets (Builtin.«enumerate.__new__» ⟨[.type "enumerate", .ref t], []⟩) (fun _ R s => s.heap.IsTuple t items ∧
      R (.ok (.ret (.ref (s.heap.push { cls := .type "tuple_iterator", data := .fields #[.ref t, .int 0 0] }).objs.size)))
        { s with heap := (s.heap.push { cls := .type "tuple_iterator", data := .fields #[.ref t, .int 0 0] }).push { cls := .type "enumerate", data := .fields #[.none, .bool false, .ref s.heap.objs.size, rawInt 0, .none, .none] } }) :=
  .of_wp fun prog w A R s h => by
    obtain ⟨hp, g, d, tk, os⟩ := s; obtain ⟨h1, h⟩ := h
    have hsub := sub_enumerate
    have q1 : ∀ {A' : Around} {E : Value → Shared → Prop} {Q : Value → Shared → Prop}, Q (.ref hp.objs.size) ⟨hp.push { cls := .type "tuple_iterator", data := .fields #[.ref t, .int 0 0] }, g, d, tk, os⟩ → wpAny (model prog w) A' (pyIter (.ref t)) Q E ⟨hp, g, d, tk, os⟩ :=
      fun q => (begins_tuple t items).iter prog w _ _ ⟨hp, g, d, tk, os⟩ _ h1 q
    wp_walk using q1
    refine wpAny_stack_any fun st => wpAny_pure ?_
    split
    · rename_i c _ _ _ _ _
      cases (c == Value.type "enumerate")
      · wp_walk using q1
        exact ⟨_, rfl, h⟩
      · wp_walk using q1
        exact ⟨_, rfl, h⟩
    · wp_walk using q1
      exact ⟨_, rfl, h⟩
theorem call_enumerate_tuple {prog : Program} {w : World} {A : Around} {E : Value → Shared → Prop} {s : Shared} {l : Addr} {items : Array Value} {Q : Value → Shared → Prop} (hL : s.heap.IsTuple l items)
    (h : ∀ h', IsEnum h' (s.heap.objs.size + 1) s.heap.objs.size 0 .none → h'.IsTupleIter s.heap.objs.size l 0 → h'.objs.size = s.heap.objs.size + 2 →
      (∀ b o, s.heap.get? b = some o → h'.get? b = some o) → Q (.ref (s.heap.objs.size + 1)) { s with heap := h' }) :
    wpAny (model prog w) A (call (.type "enumerate") [.ref l]) Q E s := by
  refine callType_new F.called_enumerate (by decide) (F.typeCall_enumerate_1 _) (F.newCall_enumerate_1 _) (fun obj => F.args_object_init_2 obj _) F.entry_enumerate_new
    (meets_enumerate_newT l items) ⟨hL, ?_⟩
  have hz : (s.heap.push { cls := .type "tuple_iterator", data := .fields #[.ref l, .int 0 0] }).objs.size = s.heap.objs.size + 1 := Heap.size_push ..
  show _ ∧ _
  rw [hz]
  have he : IsEnum ((s.heap.push { cls := .type "tuple_iterator", data := .fields #[.ref l, .int 0 0] }).push
      { cls := .type "enumerate", data := .fields #[.none, .bool false, .ref s.heap.objs.size, rawInt 0, .none, .none] }) (s.heap.objs.size + 1) s.heap.objs.size 0 .none := by
    have := Heap.get?_push_size (s.heap.push { cls := .type "tuple_iterator", data := .fields #[.ref l, .int 0 0] })
      (o := { cls := .type "enumerate", data := .fields #[.none, .bool false, .ref s.heap.objs.size, rawInt 0, .none, .none] }) rfl
    rw [hz] at this; exact this
  refine ⟨⟨_, he, rfl⟩, h _ he ⟨_, Heap.get?_push_of_some _ (Heap.get?_push_size _ rfl), rfl, rfl⟩ (by rw [Heap.size_push, hz]) fun b o x => Heap.get?_push_of_some _ (Heap.get?_push_of_some _ x)⟩
def IteT (K : PySem.W.Frag) (a : Addr) : It :=
  ⟨fun i H => ∃ (xs : List V) (x : V), SqT K H a xs ∧ xs[i]? = some x, fun i H v H' => ∃ T x, v = .ref T ∧ H T = none ∧ H' = upd H T (.tup [.int (i : Nat), x]) ∧ ∀ xs, SqT K H a xs → xs[i]? = some x, fun i H => ∃ xs : List V, SqT K H a xs ∧ xs.length ≤ i⟩
theorem turn_enumT {P : Program} {w : World} {K : PySem.W.Frag} {elts : List Expr} {kk : Nat} {tpos : Pos} (a e it : Addr) :
    Turn P w K (.Tuple elts kk tpos) (IteT K a) [e, it] e (fun i h => (∃ old, IsEnum h e it ((i : Nat) : Int) old) ∧ h.IsTupleIter it a i ∧ e ≠ it) where
  mem := by simp
  obj := fun i h st b hb => by
    obtain ⟨⟨old, he⟩, ⟨o, ho, hc, hd⟩, _⟩ := st
    have e' : b = e ∨ b = it := by simpa using hb
    rcases e' with z | z
    · rw [z]; exact ⟨_, he, fun v q => nomatch q⟩
    · rw [z]; exact ⟨o, ho, fun v q => by rw [hd] at q; cases q⟩
  keep := fun i h h' st k => let ⟨⟨old, he⟩, hi, hne⟩ := st; ⟨⟨old, k e (by simp) _ he⟩, hi.at fun o q => k it (by simp) o q, hne⟩
  item := by
    intro X hP hw hK hc i pins s σ H E I hf st hg
    subst hP hw hK
    obtain ⟨⟨old, he⟩, hit, hne⟩ := st
    obtain ⟨xs, x, hq, hx⟩ := hg
    obtain ⟨its, rv, p, hz⟩ := I.tuple hq
    obtain ⟨u, hu, ru⟩ := rv.get hx
    have hT : s.heap.IsTuple a its.toArray := p
    have nit : a ≠ it := fun z => by
      obtain ⟨o, ho, hc1, _⟩ := hit
      obtain ⟨o2, ho2, hc2, _⟩ := hT
      rw [z, ho] at ho2
      cases ho2
      rw [hc1] at hc2
      exact absurd hc2 (by decide +kernel)
    have ne : a ≠ e := fun z => by
      obtain ⟨o2, ho2, hc2, _⟩ := hT
      rw [z] at ho2
      have he' := he
      unfold IsEnum at he'
      rw [he'] at ho2
      cases ho2
      have h3 : Value.type "enumerate" = Value.type "tuple" := hc2
      exact absurd h3 (by decide +kernel)
    have hel : e < s.heap.objs.size := Heap.lt_size he
    have hil : it < s.heap.objs.size := by obtain ⟨_, q, _⟩ := hit; exact Heap.lt_size q
    have hi : i < its.toArray.size := by
      have := (List.getElem?_eq_some_iff.mp hu).1
      simpa using this
    refine wpAny_pyNext_enum_itemD (Draws.tuple (A := X.A.in1) (I.ok.hd hc) it a nit its.toArray) he ⟨hit, hT⟩ hi hne (by simp [hne, Ne.symm ne]) fun x' h' tk hP' ho hst' hT' hsz hk => ?_
    have ex : x' = u := by
      have h1 : its.toArray[i]? = some x' := hP'
      have h2 : its.toArray[i]? = some u := by simpa using hu
      rw [h1] at h2
      exact Option.some.inj h2
    subst ex
    refine ⟨_, rfl, wpAny_letOwnedTupleGo_enum (s := { s with heap := h', toks := tk + 1 }) ho fun h'' he' sb => ?_⟩
    have hT2 : h''.get? s.heap.objs.size = some { cls := .type "tuple", data := .seq #[.int i tk, x'] } := (sb.2 _ (Nat.ne_of_gt hel)).trans hT'
    have new : ObjOk X.prog X.w (upd H s.heap.objs.size (.tup [.int (i : Nat), x])) h'' s.heap.objs.size (.tup [.int (i : Nat), x]) :=
      ⟨by show 2 ≤ sizeLine; decide, [.int i tk, x'], .cons ⟨_, rfl⟩ (.cons ru .nil), ⟨_, hT2, rfl, _, rfl⟩⟩
    have I1 : Inv X pins σ (upd H s.heap.objs.size (.tup [.int (i : Nat), x])) { s with heap := h'', toks := tk + 1 } :=
      I.turnedNew (ch := [e, it]) (fun b ob hb q => (sb.2 b (fun z => hb (by simp [z]))).trans (hk b ob (fun z => hb (by simp [z])) (fun z => hb (by simp [z])) q)) hf (Nat.le_refl _) new
    refine ⟨.ref s.heap.objs.size, _, I1, rfl, ⟨_, x, rfl, I.hok.fresh (Nat.le_refl _), rfl, fun ys hy => by rw [I.tuple_inj hy hq]; exact hx⟩, ⟨⟨x', ?_⟩, hst'.1.at fun o q => (sb.2 it (Ne.symm hne)).trans q, hne⟩, fun b hb => ?_⟩
    · have e1 : ((i + 1 : Nat) : Int) = (i : Int) + 1 := by omega
      rw [e1]; exact he'
    · have hb' : b < s.heap.objs.size := by
        have e' : b = e ∨ b = it := by simpa using hb
        rcases e' with z | z
        · rw [z]; exact hel
        · rw [z]; exact hil
      rw [upd_ne (Nat.ne_of_lt hb')]
      exact (hf b hb).1
  done := by
    intro X hP hw hK hc i pins s σ H E I hf st hg
    subst hP hw hK
    obtain ⟨⟨old, he⟩, hit, hne⟩ := st
    obtain ⟨xs, hq, hx⟩ := hg
    obtain ⟨its, rv, p, hz⟩ := I.tuple hq
    obtain ⟨f0, f1, f2, f3, f4, f5⟩ := hf it (by simp)
    have hl := rv.length
    have hT : s.heap.IsTuple a its.toArray := p
    have hT0 : s.TypeIs (.ref e) "enumerate" := ⟨_, he, rfl⟩
    unfold pyNext
    refine wpAny_bind (wpAny_attempt (wpAny_callSpecial?_slot (name := Str.ofString "__next__") hT0 F.slot_enumerate_next
      (wpAny_call_entry F.slot_enumerate_next hT0 F.entry_enumerate_next ?_ (F.args_enumerate_next_1 _))))
    show wpAny _ _ (field (.ref e) 2 >>= _) _ _ _
    refine wpAny_bind (wpAny_field he rfl (x := .ref it) rfl ?_)
    refine wpAny_bind (wpAny_nextOf_tuple_end (I.ok.hd hc) hit hT (by simp; omega) fun h' x he' hx' => ?_)
    obtain ⟨o, ho, hcl⟩ := hx'
    refine wpAny_bind (wpAny_isInstance (T := "StopIteration") (b := true) ⟨o, ho, hcl⟩ isSubtype_stop ?_)
    exact wpAny_pure ⟨rfl, I.turned (t' := s.toks) (fun b o hb q => he' b o hb q) f0 f1 f3 f4 f5⟩
  self := fun A i s Q E st h => let ⟨⟨_, he⟩, _⟩ := st; wpAny_pyIter_enum he h
def iEnumT (K : PySem.W.Frag) (ta : TA) : TI := fun σ H R => ta σ H fun vs H1 => ∃ a xs, vs = [.ref a] ∧ SqT K H1 a xs ∧ R (IteT K a) H1
theorem pi_enumT {X : Cx} {e : Expr} {ta : TA} {p pos tpos : Pos} {elts : List Expr} {kk : Nat} (hg : Gl X "enumerate") (hm : X.mg "enumerate" = none) (ha : PA X [e] ta) (hs : starEach [e] X.env = [(false, eval e X.env)] := by rfl) :
    PI X (.Tuple elts kk tpos) (.Call (.Name "enumerate" p) [e] [] pos) (iEnumT X.K ta) := by
  refine ⟨fun pins s σ H R I h => ?_⟩
  refine Call_ (ld_blt I hg hm boot_enumerate (PyProof.Rows.callWith_type1 (thn (ha.run pos pins s σ H _ I h) fun us s1 ⟨vs, H1, I1, r1, q1⟩ => ?_) hs rfl))
  obtain ⟨a, xs, ex, hq, q⟩ := q1
  subst ex
  cases r1 with
  | cons r rr =>
    cases rr
    cases r
    obtain ⟨its, rv, p', hz⟩ := I1.tuple hq
    refine call_enumerate_tuple (show s1.heap.IsTuple a its.toArray from p') fun h' he hit hsz hk => wpAny_pyIter_enum he ?_
    have I2 : Inv X pins σ H1 { s1 with heap := h' } := I1.kept (t' := s1.toks) hk
    refine ⟨s1.heap.objs.size + 1, [s1.heap.objs.size + 1, s1.heap.objs.size], _, _, H1, rfl, I2, turn_enumT a (s1.heap.objs.size + 1) s1.heap.objs.size, ⟨⟨.none, he⟩, hit, Nat.succ_ne_self _⟩, fun b hb => ?_, q⟩
    have e' : b = s1.heap.objs.size + 1 ∨ b = s1.heap.objs.size := by simpa using hb
    have hle : s1.heap.objs.size ≤ b := by
      rcases e' with z | z
      · rw [z]; exact Nat.le_add_right _ _
      · rw [z]; exact Nat.le_refl _
    exact I1.fpOk hle (I1.hok.fresh hle)

def Yields (K : PySem.W.Frag) (T : Tab) (G : Hp) (ρ : List Addr) (J : It) (ds : List D) : Prop :=
  ∀ G1 ρ1, Ge G G1 → ρ <+: ρ1 → ∀ E a σ H, AR K T E G1 ρ1 a σ H →
    (∀ (i : Nat) (d : D), ds[i]? = some d → J.go i H ∧ ∀ x H', J.yld i H x H' → ∃ G2, Ge G1 G2 ∧ AR K T E G2 ρ1 a σ H' ∧ Rep K T G2 ρ1 d x) ∧ J.stop ds.length H
def PostI (K : PySem.W.Frag) (T : Tab) (W : WX) (E : En) (σ : L2.St) (G : Hp) (ρ : List Addr) (o : Out (List D)) (R : It → Hp → Prop) : Prop := match o with
  | .stuck => False
  | .ok ds a' => ∀ G' ρ' H' J, Ge G G' → ρ <+: ρ' → AR K T E G' ρ' a' σ H' → Yields K T G' ρ' J ds → R J H'
  | .exc c fs a' => ∀ G' ρ' H' dd, Ge G G' → ρ <+: ρ' → AR K T E G' ρ' a' σ H' → ExR K T G' ρ' H' fs dd → W (.ref (T.C c)) dd σ H'
def tI (K : PySem.W.Frag) (T : Tab) (W : WX) (m : M (List D)) : TI := fun σ H R => ∃ E G ρ a, AR K T E G ρ a σ H ∧ PostI K T W E σ G ρ (m a) R
section
variable {K : PySem.W.Frag} {T : Tab} {W : WX} {E : En} {σ : L2.St} {G G' : Hp} {ρ ρ' : List Addr} {α β : Type}
theorem PostI.ext {o : Out (List D)} {R : It → Hp → Prop} (h : PostI K T W E σ G ρ o R) (g : Ge G G') (p : ρ <+: ρ') : PostI K T W E σ G' ρ' o R := by
  cases o with
  | stuck => exact h
  | ok x a => exact fun G2 ρ2 H2 v e1 e2 r q => h G2 ρ2 H2 v (g.trans e1) (p.trans e2) r q
  | exc c fs a => exact fun G2 ρ2 H2 v e1 e2 r q => h G2 ρ2 H2 v (g.trans e1) (p.trans e2) r q
theorem PostI.bind {R1 : Hp → List Addr → α → β → Prop} {o : Out α} {f : α → AS → Out (List D)} {R : It → Hp → Prop} {Q1 : β → Hp → Prop} (h : PostI K T W E σ G ρ (o.bind f) R)
    (k : ∀ x a' G' ρ' H' v, Ge G G' → ρ <+: ρ' → AR K T E G' ρ' a' σ H' → R1 G' ρ' x v → PostI K T W E σ G' ρ' (f x a') R → Q1 v H') : Post K T W E σ G ρ R1 o Q1 := by
  cases o with
  | stuck => exact h
  | ok x a => exact fun G2 ρ2 H2 v e1 e2 r q => k x a G2 ρ2 H2 v e1 e2 r q (PostI.ext (o := f x a) h e1 e2)
  | exc c fs a => exact h
theorem Yields.ext {J : It} {ds : List D} (h : Yields K T G ρ J ds) (g : Ge G G') (p : ρ <+: ρ') : Yields K T G' ρ' J ds := fun G1 ρ1 g1 l1 => h G1 ρ1 (g.trans g1) (p.trans l1)
theorem yields_list {b : Addr} {vs : List V} {ds : List D} (hb : SqL K G b vs) (q : RepL K T G ρ ds vs) : Yields K T G ρ (Itl K b) ds := fun G1 ρ1 g l E a σ H r => by
  have hR : SqL K H b vs := SqL.ge (SqL.ge hb g) r.sub
  refine ⟨fun i d hd => ?_, vs, hR, by rw [q.len]; exact Nat.le_refl _⟩
  obtain ⟨v, hv, rv⟩ := q.get hd
  refine ⟨⟨vs, v, hR, hv⟩, fun x H' ⟨e, h⟩ => ?_⟩
  subst e
  have ex := h vs hR
  rw [hv] at ex
  cases ex
  exact ⟨G1, Ge.rfl', r, Rep.ge g l _ _ rv⟩
theorem yields_tup {b : Addr} {vs : List V} {ds : List D} (hb : TupR K G b vs) (q : RepL K T G ρ ds vs) : Yields K T G ρ (Itt K b) ds := fun G1 ρ1 g l E a σ H r => by
  have hR : SqT K H b vs := ((hb.ge g).ge r.sub).sq
  refine ⟨fun i d hd => ?_, vs, hR, by rw [q.len]; exact Nat.le_refl _⟩
  obtain ⟨v, hv, rv⟩ := q.get hd
  refine ⟨⟨vs, v, hR, hv⟩, fun x H' ⟨e, h⟩ => ?_⟩
  subst e
  have ex := h vs hR
  rw [hv] at ex
  cases ex
  exact ⟨G1, Ge.rfl', r, Rep.ge g l _ _ rv⟩
def rangeD (lo : Int) (n : Nat) : List D := (List.range n).map fun (k : Nat) => .int (lo + (k : Int))
theorem yields_range {lo : Int} {n : Nat} : Yields K T G ρ (Itr lo n) (rangeD lo n) := fun G1 ρ1 g l E a σ H r => by
  refine ⟨fun i d hd => ?_, by show n ≤ _; simp [rangeD]⟩
  have hi : i < n := by have := (List.getElem?_eq_some_iff.mp hd).1; simpa [rangeD] using this
  have ed : d = .int (lo + (i : Int)) := by
    unfold rangeD at hd
    rw [List.getElem?_map, List.getElem?_range hi] at hd
    exact (Option.some.inj hd).symm
  refine ⟨hi, fun x H' ⟨e1, e2⟩ => ?_⟩
  subst e1 e2 ed
  exact ⟨G1, Ge.rfl', r, to_int⟩
def enumD (ds : List D) : List D := ds.mapIdx fun k d => .tup [.int (k : Int), d]
theorem enum_get {ds : List D} {i : Nat} {z : D} (h : (enumD ds)[i]? = some z) : ∃ d, ds[i]? = some d ∧ z = .tup [.int (i : Int), d] := by
  unfold enumD at h
  rw [List.getElem?_mapIdx] at h
  cases e : ds[i]? with
  | none => rw [e] at h; cases h
  | some d => rw [e] at h; exact ⟨d, rfl, (Option.some.inj h).symm⟩
theorem pair_rep {E : En} {a : AS} {H : Hp} {p : Addr} {v w : V} {d d' : D} (r : AR K T E G ρ a σ H) (hp : H p = none) (h1 : Rep K T G ρ d v) (h2 : Rep K T G ρ d' w) :
    ∃ G2, Ge G G2 ∧ AR K T E G2 ρ a σ (upd H p (.tup [v, w])) ∧ Rep K T G2 ρ (.tup [d, d']) (.ref p) := by
  obtain ⟨g, r2⟩ := r.lay (o := HO.tup [v, w]) hp
  refine ⟨_, g, r2, ?_⟩
  unfold Rep
  exact ⟨p, [v, w], rfl, .inl upd_same, RepL.cons (Rep.ge g (List.prefix_refl _) _ _ h1) (RepL.cons (Rep.ge g (List.prefix_refl _) _ _ h2) RepL.nil)⟩
theorem yields_enumL {b : Addr} {vs : List V} {ds : List D} (hb : SqL K G b vs) (q : RepL K T G ρ ds vs) : Yields K T G ρ (Ite K b) (enumD ds) := fun G1 ρ1 g l E a σ H r => by
  have hR : SqL K H b vs := SqL.ge (SqL.ge hb g) r.sub
  refine ⟨fun i d hd => ?_, vs, hR, by rw [q.len]; simp [enumD]⟩
  obtain ⟨d', hd', rfl⟩ := enum_get hd
  obtain ⟨v, hv, rv⟩ := q.get hd'
  refine ⟨⟨vs, v, hR, hv⟩, fun x H' ⟨p, u, e1, hp, e2, h⟩ => ?_⟩
  subst e1 e2
  have ex := h vs hR
  rw [hv] at ex
  cases ex
  exact pair_rep r hp to_int (Rep.ge g l _ _ rv)
theorem yields_enumT {b : Addr} {vs : List V} {ds : List D} (hb : TupR K G b vs) (q : RepL K T G ρ ds vs) : Yields K T G ρ (IteT K b) (enumD ds) := fun G1 ρ1 g l E a σ H r => by
  have hR : SqT K H b vs := ((hb.ge g).ge r.sub).sq
  refine ⟨fun i d hd => ?_, vs, hR, by rw [q.len]; simp [enumD]⟩
  obtain ⟨d', hd', rfl⟩ := enum_get hd
  obtain ⟨v, hv, rv⟩ := q.get hd'
  refine ⟨⟨vs, v, hR, hv⟩, fun x H' ⟨p, u, e1, hp, e2, h⟩ => ?_⟩
  subst e1 e2
  have ex := h vs hR
  rw [hv] at ex
  cases ex
  exact pair_rep r hp to_int (Rep.ge g l _ _ rv)
def signsD (z : Str) : List D := z.cps.toList.map fun c => .str ⟨#[c]⟩
theorem yields_str {z : Str} : Yields K T G ρ (Its z) (signsD z) := fun G1 ρ1 g l E a σ H r => by
  refine ⟨fun i d hd => ?_, by show z.cps.size ≤ _; simp [signsD]⟩
  have hi : i < z.cps.size := by have := (List.getElem?_eq_some_iff.mp hd).1; simpa [signsD] using this
  unfold signsD at hd
  rw [List.getElem?_map, Array.getElem?_toList] at hd
  refine ⟨hi, fun x H' ⟨e1, c, e2, e3⟩ => ?_⟩
  subst e1 e3
  rw [e2] at hd
  cases hd
  exact ⟨G1, Ge.rfl', r, to_str⟩
end
def frzOf : D → Option (List D)
  | .lst ds => some ds
  | .tup ds => some ds
  | .str z => some (signsD z)
  | _ => none
section
variable {X : Cx} {T : Tab} {W : WX}
theorem pi_or {tg e : Expr} {w1 w2 : TI} (h1 : PI X tg e w1) (h2 : PI X tg e w2) : PI X tg e (fun σ H R => w1 σ H R ∨ w2 σ H R) :=
  ⟨fun pins s σ H R I h => h.elim (h1.run pins s σ H R I) (h2.run pins s σ H R I)⟩
theorem PI.imp {tg e : Expr} {w w' : TI} (h : PI X tg e w) (i : ∀ σ H R, w' σ H R → w σ H R) : PI X tg e w' := ⟨fun pins s σ H R I q => h.run pins s σ H R I (i σ H R q)⟩
def seqM' (m : M D) : M (List D) := bd m fun x => opt (frzOf x)
theorem pi_seqX {tg e : Expr} {m : M D} (h : PE X e (tE X.K T W m)) : PI X tg e (tI X.K T W (seqM' m)) := by
  refine PI.imp (pi_or (pi_list h) (pi_or (pi_tup h) (pi_str h))) fun σ H R ⟨E, G, ρ, a, r, p⟩ => ?_
  unfold seqM' bd at p
  cases e1 : m a with
  | stuck => rw [e1] at p; exact p.elim
  | exc c fs a1 => rw [e1] at p; exact .inl ⟨E, G, ρ, a, r, by rw [e1]; exact p⟩
  | ok x a1 =>
    rw [e1] at p
    simp only [bind_ok] at p
    cases x with
    | lst ds =>
      refine .inl ⟨E, G, ρ, a, r, ?_⟩
      rw [e1]
      refine fun G1 ρ1 H1 v g1 l1 r1 q1 => ?_
      unfold Rep at q1
      obtain ⟨b, vs, ev, hb, rl⟩ := q1
      exact ⟨b, ev, ⟨vs, SqL.ge hb r1.sub⟩, p G1 ρ1 H1 _ g1 l1 r1 (yields_list hb rl)⟩
    | tup ds =>
      refine .inr (.inl ⟨E, G, ρ, a, r, ?_⟩)
      rw [e1]
      refine fun G1 ρ1 H1 v g1 l1 r1 q1 => ?_
      obtain ⟨b, vs, ev, hb, rl⟩ := q1.tup
      exact ⟨b, ev, ⟨vs, (hb.ge r1.sub).sq⟩, p G1 ρ1 H1 _ g1 l1 r1 (yields_tup hb rl)⟩
    | str z =>
      refine .inr (.inr ⟨E, G, ρ, a, r, ?_⟩)
      rw [e1]
      refine fun G1 ρ1 H1 v g1 l1 r1 q1 => ?_
      exact ⟨z, rep_str q1, p G1 ρ1 H1 _ g1 l1 r1 yields_str⟩
    | _ => exact p.elim
def okR (i : Int) : Bool := decide (-(2 ^ 62) ≤ i ∧ i < 2 ^ 62)
def range1M (ms : M (List D)) : M (List D) := bd ms fun xs => match xs with
  | [.int j] => if okR j = true then ret (rangeD 0 j.toNat) else no
  | _ => no
def range2M (ms : M (List D)) : M (List D) := bd ms fun xs => match xs with
  | [.int i, .int j] => if (okR i && okR j) = true then ret (rangeD i (j - i).toNat) else no
  | _ => no
theorem pi_range1X {tg a : Expr} {ms : M (List D)} {p pos : Pos} (hm : X.mg "range" = none) (ha : PA X [a] (tA X.K T W ms)) (hg : Gl X "range" := by rfl) (hs : starEach [a] X.env = [(false, eval a X.env)] := by rfl) :
    PI X tg (.Call (.Name "range" p) [a] [] pos) (tI X.K T W (range1M ms)) := by
  refine PI.imp (pi_range1 hg hm ha hs) fun σ H R ⟨E, G, ρ, a, r, p⟩ => ?_
  refine ⟨E, G, ρ, a, r, PostI.bind p fun xs a1 G1 ρ1 H1 vs g1 l1 r1 q1 p1 => ?_⟩
  split at p1
  · rename_i j
    split at p1
    · rename_i hj
      obtain ⟨v, ev, q1⟩ := q1.one
      rw [rep_int q1] at ev
      have hj' := of_decide_eq_true hj
      exact ⟨j, ev, hj'.1, hj'.2, p1 G1 ρ1 H1 _ Ge.rfl' (List.prefix_refl _) r1 yields_range⟩
    · exact p1.elim
  · exact p1.elim
theorem pi_range2X {tg a b : Expr} {ms : M (List D)} {p pos : Pos} (hm : X.mg "range" = none) (ha : PA X [a, b] (tA X.K T W ms)) (hg : Gl X "range" := by rfl) (hs : starEach [a, b] X.env = [(false, eval a X.env), (false, eval b X.env)] := by rfl)
    (hs2 : starEach [b] X.env = [(false, eval b X.env)] := by rfl) : PI X tg (.Call (.Name "range" p) [a, b] [] pos) (tI X.K T W (range2M ms)) := by
  refine PI.imp (pi_range2 hg hm ha hs hs2) fun σ H R ⟨E, G, ρ, a, r, p⟩ => ?_
  refine ⟨E, G, ρ, a, r, PostI.bind p fun xs a1 G1 ρ1 H1 vs g1 l1 r1 q1 p1 => ?_⟩
  split at p1
  · rename_i i j
    split at p1
    · rename_i hj
      obtain ⟨v, w, ev, q1, q2⟩ := q1.two
      rw [rep_int q1, rep_int q2] at ev
      rw [Bool.and_eq_true] at hj
      have h1 := of_decide_eq_true hj.1
      have h2 := of_decide_eq_true hj.2
      exact ⟨i, j, ev, ⟨h1.1, h1.2, h2.1, h2.2⟩, p1 G1 ρ1 H1 _ Ge.rfl' (List.prefix_refl _) r1 yields_range⟩
    · exact p1.elim
  · exact p1.elim
def enumM (ms : M (List D)) : M (List D) := bd ms fun xs => match xs with
  | [.lst ds] => ret (enumD ds)
  | [.tup ds] => ret (enumD ds)
  | _ => no
theorem pi_enumX {e : Expr} {ms : M (List D)} {p pos tpos : Pos} {elts : List Expr} {kk : Nat} (hm : X.mg "enumerate" = none) (ha : PA X [e] (tA X.K T W ms)) (hg : Gl X "enumerate" := by rfl) (hs : starEach [e] X.env = [(false, eval e X.env)] := by rfl) :
    PI X (.Tuple elts kk tpos) (.Call (.Name "enumerate" p) [e] [] pos) (tI X.K T W (enumM ms)) := by
  refine PI.imp (pi_or (pi_enum hg hm ha hs) (pi_enumT hg hm ha hs)) fun σ H R ⟨E, G, ρ, a, r, p⟩ => ?_
  unfold enumM bd at p
  cases e1 : ms a with
  | stuck => rw [e1] at p; exact p.elim
  | exc c fs a1 => rw [e1] at p; exact .inl ⟨E, G, ρ, a, r, by rw [e1]; exact p⟩
  | ok xs a1 =>
    rw [e1] at p
    simp only [bind_ok] at p
    split at p
    · rename_i ds
      refine .inl ⟨E, G, ρ, a, r, ?_⟩
      rw [e1]
      refine fun G1 ρ1 H1 vs g1 l1 r1 q1 => ?_
      obtain ⟨v, ev, q1⟩ := q1.one
      unfold Rep at q1
      obtain ⟨b, us, eb, hb, rl⟩ := q1
      subst ev eb
      exact ⟨b, us, rfl, SqL.ge hb r1.sub, p G1 ρ1 H1 _ g1 l1 r1 (yields_enumL hb rl)⟩
    · rename_i ds
      refine .inr ⟨E, G, ρ, a, r, ?_⟩
      rw [e1]
      refine fun G1 ρ1 H1 vs g1 l1 r1 q1 => ?_
      obtain ⟨v, ev, q1⟩ := q1.one
      obtain ⟨b, us, eb, hb, rl⟩ := q1.tup
      subst ev eb
      exact ⟨b, us, rfl, (hb.ge r1.sub).sq, p G1 ρ1 H1 _ g1 l1 r1 (yields_enumT hb rl)⟩
    · exact p.elim

abbrev TgM := D → AS → Option AS
structure Off (js : List Nat) (σ σ' : L2.St) : Prop where
  len : σ'.length = σ.length
  at_ : ∀ j, j ∉ js → σ'[j]? = σ[j]?
theorem Off.refl {js : List Nat} {σ : L2.St} : Off js σ σ := ⟨rfl, fun _ _ => rfl⟩
theorem Off.trans {js ks : List Nat} {σ σ1 σ2 : L2.St} (a : Off js σ σ1) (b : Off ks σ1 σ2) : Off (js ++ ks) σ σ2 :=
  ⟨b.len.trans a.len, fun j h => (b.at_ j (fun z => h (List.mem_append_right _ z))).trans (a.at_ j (fun z => h (List.mem_append_left _ z)))⟩
def TgR (K : PySem.W.Frag) (T : Tab) (g : TG) (t : TgM) (js : List Nat) : Prop := ∀ (d : D) (a a' : AS), t d a = some a' → ∀ (E : En) (G : Hp) (ρ : List Addr) (σ : L2.St) (H : Hp) (v : V) (Q : L2.St → Hp → Prop), AR K T E G ρ a σ H → Rep K T G ρ d v →
  (∀ σ', Off js σ σ' → AR K T E G ρ a' σ' H → Q σ' H) → g v σ H Q
def tgN (i : Nat) : TgM := fun d a => some { a with sl := a.sl.set i (.val d) }
theorem tr_name {K : PySem.W.Frag} {T : Tab} (i : Nat) : TgR K T (gName i) (tgN i) [i] := fun d a a' e E G ρ σ H v Q r q k => by
  cases e
  exact k _ ⟨by simp, fun j h => by rw [List.getElem?_set_ne (by intro z; exact h (by simp [z]))]⟩ (r.setV i q)
def TgsR (K : PySem.W.Frag) (T : Tab) (g : TGs) (t : List D → AS → Option AS) (js : List Nat) : Prop := ∀ (ds : List D) (a a' : AS), t ds a = some a' → ∀ (E : En) (G : Hp) (ρ : List Addr) (σ : L2.St) (H : Hp) (vs : List V) (Q : L2.St → Hp → Prop), AR K T E G ρ a σ H → RepL K T G ρ ds vs →
  (∀ σ', Off js σ σ' → AR K T E G ρ a' σ' H → Q σ' H) → g vs σ H Q
def tgNil : List D → AS → Option AS
  | [], a => some a
  | _, _ => none
def tgCons (t : TgM) (u : List D → AS → Option AS) : List D → AS → Option AS
  | d :: ds, a => (t d a).bind (u ds)
  | _, _ => none
theorem trs_nil {K : PySem.W.Frag} {T : Tab} : TgsR K T gNil tgNil [] := fun ds a a' e E G ρ σ H vs Q r q k => by
  cases ds with
  | nil => cases e; exact ⟨q.inv0, k σ Off.refl r⟩
  | cons d ds => cases e
theorem trs_cons {K : PySem.W.Frag} {T : Tab} {g : TG} {gs : TGs} {t : TgM} {u : List D → AS → Option AS} {js ks : List Nat} (h : TgR K T g t js) (hs : TgsR K T gs u ks) : TgsR K T (gCons g gs) (tgCons t u) (js ++ ks) := fun ds a a' e E G ρ σ H vs Q r rl k => by
  cases ds with
  | nil => cases e
  | cons d ds =>
    obtain ⟨v, us, ev, h1, h2⟩ := rl.inv
    replace e : (t d a).bind (u ds) = some a' := e
    cases e1 : t d a with
    | none => rw [e1] at e; cases e
    | some a1 =>
      rw [e1] at e
      exact ⟨v, us, ev, h d a a1 e1 E G ρ σ H v _ r h1 fun σ' o1 r' => hs ds a1 a' e E G ρ σ' H us Q r' h2 fun σ2 o2 r2 => k σ2 (o1.trans o2) r2⟩
def tgTup (n : Nat) (u : List D → AS → Option AS) : TgM := fun d a => match d with
  | .tup ds => if ds.length = n then u ds a else none
  | _ => none
theorem tr_tup {K : PySem.W.Frag} {T : Tab} {gs : TGs} {u : List D → AS → Option AS} {js : List Nat} (n : Nat) (hs : TgsR K T gs u js) : TgR K T (gTup K n gs) (tgTup n u) js := fun d a a' e E G ρ σ H v Q r rv k => by
  unfold tgTup at e
  split at e
  · rename_i ds
    split at e
    · rename_i hl
      obtain ⟨b, vs, ev, hb, rl⟩ := rv.tup
      exact ⟨b, vs, ev, (hb.ge r.sub).sq, by rw [rl.len, hl], hs ds a a' e E G ρ σ H vs Q r rl k⟩
    · cases e
  · cases e
def asgM (t : TgM) (m : M D) : M Fl := bd m fun d => fun a => match t d a with
  | some a' => .ok .nx a'
  | none => .stuck
theorem ps_asgX {tg e : Expr} {m : M D} {g : TG} {t : TgM} {js : List Nat} {pos : Pos} (h : PE X e (tE X.K T W m)) (p : PG X tg g) (q : TgR X.K T g t js) (hs : swapsWithSole [tg] e pos.line X.env = pure false := by rfl) (hw : swappedStores [tg] e X.env = pure none := by rfl)
    (h1 : (assignEach [tg] X.env).map (·.2) = [assign tg X.env] := by rfl) : PS X (.Assign [tg] e pos) (tS X.K T W (asgM t m)) := by
  refine PS.imp (ps_asg h p hs hw h1) fun De σ H h => ?_
  refine tS.bind h fun E x a1 G1 ρ1 H1 v r1 q1 p1 => ?_
  split at p1
  · rename_i a' e
    exact q x a1 a' e E G1 ρ1 σ H1 v _ r1 q1 fun σ' _ r' => p1 G1 ρ1 σ' H1 Ge.rfl' (List.prefix_refl _) r'
  · exact p1.elim
def parM (i j : Nat) (ma mb : M D) : M Fl := bd ma fun x => bd mb fun y => fun a => .ok .nx { a with sl := (a.sl.set i (.val x)).set j (.val y) }
theorem ps_parX (i j : Nat) {x y : Str} {a b : Expr} {ma mb : M D} {px py pt : Pos} {kt k2 pt2 pos} (hc : X.calm = true) (hN : X.N.Nodup) (ha : PE X a (tE X.K T W ma)) (hb : PE X b (tE X.K T W mb)) (hps : ∀ ta, PA X [a, b] ta → PS X (.Assign [.Tuple [.Name x px, .Name y py] kt pt] (.Tuple [a, b] k2 pt2) pos) (tPar i j ta))
    (hs : starEach [a, b] X.env = (false, eval a X.env) :: starEach [b] X.env := by rfl) (hs2 : starEach [b] X.env = (false, eval b X.env) :: starEach [] X.env := by rfl) :
    PS X (.Assign [.Tuple [.Name x px, .Name y py] kt pt] (.Tuple [a, b] k2 pt2) pos) (tS X.K T W (parM i j ma mb)) := by
  refine PS.imp (hps _ (px_cons ha (px_cons hb px_nil hs2) hs)) fun De σ H h => ?_
  obtain ⟨E, G, ρ, a0, r, p⟩ := h
  refine ⟨E, G, ρ, a0, r, ?_⟩
  unfold consM nilM bd
  unfold parM bd at p
  cases e1 : ma a0 with
  | stuck => rw [e1] at p; exact p
  | exc c fs a1 => rw [e1] at p; exact fun G1 ρ1 H1 dd g1 l1 r1 q1 => p G1 ρ1 σ H1 dd g1 l1 r1 q1
  | ok d1 a1 =>
    rw [e1] at p
    simp only [bind_ok] at p ⊢
    cases e2 : mb a1 with
    | stuck => rw [e2] at p; exact p
    | exc c fs a2 => rw [e2] at p; exact fun G1 ρ1 H1 dd g1 l1 r1 q1 => p G1 ρ1 σ H1 dd g1 l1 r1 q1
    | ok d2 a2 =>
      rw [e2] at p
      simp only [bind_ok] at p ⊢
      refine fun G1 ρ1 H1 vs g1 l1 r1 q1 => ?_
      obtain ⟨v, w, ev, h1, h2⟩ := q1.two
      exact ⟨v, w, ev, p G1 ρ1 _ H1 g1 l1 ((r1.setV i h1).setV j h2)⟩

def forL (t : TgM) (body : M Fl) : List D → M Fl
  | [], a => .ok .nx a
  | d :: ds, a => match t d a with
    | none => .stuck
    | some a1 => match body a1 with
      | .ok .nx a2 => forL t body ds a2
      | .ok .ct a2 => forL t body ds a2
      | .ok .bk a2 => .ok .nx a2
      | o => o
def forM (mi : M (List D)) (t : TgM) (body : M Fl) : M Fl := bd mi fun ds => forL t body ds
theorem ps_forX {tg iter : Expr} {body : List Stmt} {mi : M (List D)} {g : TG} {t : TgM} {js : List Nat} {m : M Fl} {pos : Pos} (hp : PassesOwn (model X.prog X.w) X.A X.env X.xe) (hc : X.calm = true) (hi : PI X tg iter (tI X.K T W mi)) (p : PG X tg g) (q : TgR X.K T g t js) (hb : PSs X body (tS X.K T W m))
    (hs : ∀ x, foldedSetIterable iter X.env x = pure x := by intro _; rfl) : PS X (.For tg iter body [] pos) (tS X.K T W (forM mi t m)) := by
  refine PS.imp (ps_for hp hc hi p hb hs) fun De σ H h => ?_
  obtain ⟨E, G, ρ, a, r, pp⟩ := h
  refine ⟨E, G, ρ, a, r, ?_⟩
  unfold forM bd at pp
  cases e1 : mi a with
  | stuck => rw [e1] at pp; exact pp
  | exc c fs a1 => rw [e1] at pp; exact fun G1 ρ1 H1 dd g1 l1 r1 q1 => pp G1 ρ1 σ H1 dd g1 l1 r1 q1
  | ok ds a1 =>
    rw [e1] at pp
    simp only [bind_ok] at pp
    refine fun G1 ρ1 H1 J g1 l1 r1 Y => ?_
    replace pp := PostS.ext (o := forL t m ds a1) pp g1 l1
    refine ⟨fun i n σ' H' => n = ds.length - i ∧ i ≤ ds.length ∧ ∃ E G' ρ' a', Ge G1 G' ∧ ρ1 <+: ρ' ∧ AR X.K T E G' ρ' a' σ' H' ∧ PostS X.K T W E G' ρ' (forL t m (ds.drop i) a') De, ⟨ds.length, by simp, Nat.zero_le _, E, G1, ρ1, a1, Ge.rfl', List.prefix_refl _, r1, pp⟩, ?_⟩
    rintro i n σ' H' ⟨rfl, hi, E', G', ρ', a', g', l', r', p'⟩
    obtain ⟨y1, y2⟩ := Y G' ρ' g' l' E' a' σ' H' r'
    by_cases hlt : i < ds.length
    · have hd : ds[i]? = some ds[i] := List.getElem?_eq_getElem hlt
      obtain ⟨z1, z2⟩ := y1 i _ hd
      rw [List.drop_eq_getElem_cons hlt] at p'
      unfold forL at p'
      refine .inr ⟨z1, fun σ2 H2 => ∃ E G' ρ' a', Ge G1 G' ∧ ρ1 <+: ρ' ∧ AR X.K T E G' ρ' a' σ2 H2 ∧ PostS X.K T W E G' ρ' (forL t m (ds.drop (i + 1)) a') De, fun σ2 H2 h => ⟨ds.length - (i + 1), by omega, rfl, hlt, h⟩, fun x H2 hy => ?_⟩
      obtain ⟨G2, g2, r2, rx⟩ := z2 x H2 hy
      cases e2 : t ds[i] a' with
      | none => rw [e2] at p'; exact p'.elim
      | some a2 =>
        rw [e2] at p'
        simp only at p'
        refine q ds[i] a' a2 e2 E' G2 ρ' σ' H2 x _ r2 rx fun σ3 _ r3 => ⟨E', G2, ρ', a2, r3, ?_⟩
        cases e3 : m a2 with
        | stuck => rw [e3] at p'; exact p'
        | exc c fs a3 => rw [e3] at p'; exact fun G3 ρ3 σ4 H3 dd g3 l3 r4 q4 => p' G3 ρ3 σ4 H3 dd (g2.trans g3) l3 r4 q4
        | ok f a3 =>
          rw [e3] at p'
          cases f with
          | nx => exact fun G3 ρ3 σ4 H3 g3 l3 r4 => ⟨E', G3, ρ3, a3, g'.trans (g2.trans g3), l'.trans l3, r4, PostS.ext (o := forL t m _ a3) p' (g2.trans g3) l3⟩
          | ct => exact fun G3 ρ3 σ4 H3 g3 l3 r4 => ⟨E', G3, ρ3, a3, g'.trans (g2.trans g3), l'.trans l3, r4, PostS.ext (o := forL t m _ a3) p' (g2.trans g3) l3⟩
          | bk => exact fun G3 ρ3 σ4 H3 g3 l3 r4 => p' G3 ρ3 σ4 H3 (g2.trans g3) l3 r4
          | ret d => exact fun G3 ρ3 σ4 H3 v g3 l3 r4 q4 => p' G3 ρ3 σ4 H3 v (g2.trans g3) l3 r4 q4
    · have e : i = ds.length := by omega
      subst e
      rw [List.drop_length] at p'
      unfold forL at p'
      exact .inl ⟨y2, p' G' ρ' σ' H' Ge.rfl' (List.prefix_refl _) r'⟩
def whileN (c : M Bool) (body : M Fl) : Nat → M Fl
  | 0, _ => .stuck
  | n + 1, a => match c a with
    | .stuck => .stuck
    | .exc e fs a1 => .exc e fs a1
    | .ok b a1 => if b = true then (match body a1 with
      | .ok .nx a2 => whileN c body n a2
      | .ok .ct a2 => whileN c body n a2
      | .ok .bk a2 => .ok .nx a2
      | o => o) else .ok .nx a1
def whileM (n : AS → Nat) (c : M Bool) (body : M Fl) : M Fl := fun a => whileN c body (n a) a
theorem ps_whileX {c : Expr} {body : List Stmt} {mc : M Bool} {m : M Fl} {pos : Pos} (n : AS → Nat) (hp : PassesOwn (model X.prog X.w) X.A X.env X.xe) (hc : PT X c (tT X.K T W mc)) (hb : PSs X body (tS X.K T W m)) : PS X (.While c body [] pos) (tS X.K T W (whileM n mc m)) := by
  refine PS.imp (ps_while hp hc hb) fun De σ H h => ?_
  obtain ⟨E, G, ρ, a, r, p⟩ := h
  unfold whileM at p
  refine ⟨fun n σ' H' => ∃ E G' ρ' a', AR X.K T E G' ρ' a' σ' H' ∧ PostS X.K T W E G' ρ' (whileN mc m n a') De, ⟨n a, E, G, ρ, a, r, p⟩, ?_⟩
  rintro n σ' H' ⟨E', G', ρ', a', r', p'⟩
  cases n with
  | zero => exact p'.elim
  | succ n =>
    unfold whileN at p'
    refine ⟨E', G', ρ', a', r', ?_⟩
    cases e1 : mc a' with
    | stuck => rw [e1] at p'; exact p'
    | exc e fs a1 => rw [e1] at p'; exact fun G1 ρ1 H1 dd g1 l1 r1 q1 => p' G1 ρ1 σ' H1 dd g1 l1 r1 q1
    | ok b a1 =>
      rw [e1] at p'
      simp only at p'
      refine fun G1 ρ1 H1 v g1 l1 r1 q1 => ?_
      cases q1
      cases b with
      | false =>
        rw [if_neg Bool.false_ne_true] at p' ⊢
        exact p' G1 ρ1 σ' H1 g1 l1 r1
      | true =>
        rw [if_pos rfl] at p' ⊢
        refine ⟨fun σ2 H2 => ∃ E G' ρ' a', AR X.K T E G' ρ' a' σ2 H2 ∧ PostS X.K T W E G' ρ' (whileN mc m n a') De, fun σ2 H2 h => ⟨n, Nat.lt_succ_self _, h⟩, E', G1, ρ1, a1, r1, ?_⟩
        cases e3 : m a1 with
        | stuck => rw [e3] at p'; exact p'
        | exc c fs a3 => rw [e3] at p'; exact fun G3 ρ3 σ4 H3 dd g3 l3 r4 q4 => p' G3 ρ3 σ4 H3 dd (g1.trans g3) (l1.trans l3) r4 q4
        | ok f a3 =>
          rw [e3] at p'
          cases f with
          | nx => exact fun G3 ρ3 σ4 H3 g3 l3 r4 => ⟨E', G3, ρ3, a3, r4, PostS.ext (o := whileN mc m n a3) p' (g1.trans g3) (l1.trans l3)⟩
          | ct => exact fun G3 ρ3 σ4 H3 g3 l3 r4 => ⟨E', G3, ρ3, a3, r4, PostS.ext (o := whileN mc m n a3) p' (g1.trans g3) (l1.trans l3)⟩
          | bk => exact fun G3 ρ3 σ4 H3 g3 l3 r4 => p' G3 ρ3 σ4 H3 (g1.trans g3) (l1.trans l3) r4
          | ret d => exact fun G3 ρ3 σ4 H3 v g3 l3 r4 q4 => p' G3 ρ3 σ4 H3 v (g1.trans g3) (l1.trans l3) r4 q4
end
end PL

namespace PL
open PySem PySem.Spec PyProof.Rows L2

theorem wipe_in {σ : L2.St} {i : Nat} : ∀ {vs : List Nat}, i ∈ vs → i < σ.length → (wipe σ vs)[i]? = some none
  | v :: vs, h, hl => by
    unfold wipe
    by_cases e : v = i
    · subst e
      rw [List.getElem?_set_self (by rw [wipe_length]; exact hl)]
    · rw [List.getElem?_set_ne e]
      rcases List.mem_cons.mp h with z | z
      · exact absurd z.symm e
      · exact wipe_in z hl
theorem wipe_agree {σ σ' : L2.St} {vs : List Nat} (hl : σ'.length = σ.length) (h : ∀ j, j ∉ vs → σ'[j]? = σ[j]?) : wipe σ' vs = wipe σ vs := by
  apply List.ext_getElem?
  intro j
  by_cases hj : j ∈ vs
  · by_cases hl2 : j < σ.length
    · rw [wipe_in hj hl2, wipe_in hj (by rw [hl]; exact hl2)]
    · rw [List.getElem?_eq_none (by rw [wipe_length, hl]; omega), List.getElem?_eq_none (by rw [wipe_length]; omega)]
  · rw [wipe_out hj, wipe_out hj, h j hj]
def hide1 : Slot → Slot
  | .val d => .val d
  | _ => .emp
def hideL (vs : List Nat) (sl : List Slot) : List Slot := sl.mapIdx fun i s => if vs.contains i = true then .emp else hide1 s
theorem hide_get {vs : List Nat} {sl : List Slot} {i : Nat} {s : Slot} (h : (hideL vs sl)[i]? = some s) : s = .emp ∨ ∃ d, s = .val d ∧ sl[i]? = some (.val d) ∧ i ∉ vs := by
  unfold hideL at h
  rw [List.getElem?_mapIdx] at h
  cases e : sl[i]? with
  | none => rw [e] at h; cases h
  | some t =>
    rw [e] at h
    simp only [Option.map_some] at h
    have h := Option.some.inj h
    split at h
    · exact .inl h.symm
    · rename_i hn
      cases t with
      | val d => exact .inr ⟨d, h.symm, rfl, fun z => hn (by simpa using z)⟩
      | _ => exact .inl h.symm

section
variable {K : PySem.W.Frag} {T : Tab} {E : En} {G G' G2 : Hp} {ρ ρ' ρ2 : List Addr} {a : AS} {σ : L2.St} {H H' H2 : Hp} {st' st2 : List Cell}
theorem Aft.trans (x : Aft K T G ρ H G' ρ' H' st') (y : Aft K T G' ρ' H' G2 ρ2 H2 st2) : Aft K T G ρ H G2 ρ2 H2 st2 := by
  refine ⟨x.g.trans y.g, x.l.trans y.l, y.s, fun b o e h => ?_, fun b o e => ?_, fun b hb => ?_⟩
  · refine y.fr b o (x.fr b o e h) fun z => ?_
    rcases x.rnew b z with q | q
    · exact h q
    · rw [q] at e; cases e
  · rcases y.gnew b o e with q | q
    · exact x.gnew b o q
    · cases hb : H b with
      | none => exact .inr rfl
      | some u =>
        by_cases hr : b ∈ ρ
        · -- a cell: it is a cell still, so H' has it
          obtain ⟨i, hi⟩ := List.getElem?_of_mem hr
          have hi2 := pre_get x.l hi
          have hl : i < st'.length := by rw [x.s.clen]; exact (List.getElem?_eq_some_iff.mp hi2).1
          have c := x.s.cl i b _ hi2 (List.getElem?_eq_getElem hl)
          cases e2 : st'[i] with
          | lst ds =>
            rw [e2] at c
            obtain ⟨vs, z, _⟩ := c
            rw [z] at q; cases q
          | obj k fs =>
            rw [e2] at c
            obtain ⟨dx, vs, z, _⟩ := c
            rw [z] at q; cases q
        · have := x.fr b u hb hr
          rw [this] at q; cases q
  · rcases y.rnew b hb with q | q
    · exact x.rnew b q
    · cases hb : H b with
      | none => exact .inr rfl
      | some u =>
        by_cases hr : b ∈ ρ
        · exact .inl hr
        · have := x.fr b u hb hr
          rw [this] at q; cases q
theorem AR.aft0 (r : AR K T E G ρ a σ H) : Aft K T G ρ H G ρ H a.st := ⟨Ge.rfl', List.prefix_refl _, r.st, fun b o e _ => e, fun b o e => .inl e, fun b hb => .inl hb⟩
theorem Aft.junk (x : Aft K T G ρ H G' ρ' H' st') {D : Addr} {o : HO} (h0 : H D = none) (hG : G' D = none) (hr : D ∉ ρ') : Aft K T G ρ H G' ρ' (upd H' D o) st' := by
  refine ⟨x.g, x.l, ⟨fun b u e => ?_, x.s.clen, fun i b c e1 e2 => ?_, x.s.cnd, x.s.cG⟩, fun b u e h => ?_, x.gnew, x.rnew⟩
  · rw [upd_ne (ne_of_none e hG)]; exact x.s.sub b u e
  · refine (x.s.cl i b c e1 e2).ge Ge.rfl' (List.prefix_refl _) fun o e => ?_
    have nb : b ≠ D := fun z => hr (z ▸ List.mem_of_getElem? e1)
    rw [upd_ne nb]; exact e
  · rw [upd_ne (ne_of_none e h0)]; exact x.fr b u e h
theorem AR.blk (r : AR K T E G ρ a σ H) (x : Aft K T G ρ H G' ρ' H' st') (vs : List Nat) : AR K T ⟨H', G', ρ', none⟩ G' ρ' ⟨hideL vs a.sl, st'⟩ (wipe σ vs) H' := by
  refine ⟨x.s.sub, by rw [wipe_length]; simp [hideL, r.len], fun i s v e1 e2 => ?_, fun i j b ds es _ e1 _ _ _ => ?_, x.s.clen, x.s.cl, x.s.cnd, x.s.cG, fun b o e _ _ => e, fun b o e => .inl e, fun b o e => e, List.prefix_refl _, fun b hb => .inl hb, fun b e => nomatch e⟩
  · rcases hide_get e1 with z | ⟨d, z, h1, h2⟩
    · subst z; trivial
    · subst z
      rw [wipe_out h2] at e2
      obtain ⟨u, e3, q⟩ := r.sl i _ v h1 e2
      exact ⟨u, e3, Rep.ge x.g x.l _ _ q⟩
  · rcases hide_get e1 with z | ⟨d, z, _⟩ <;> cases z
end

def lcL (t : TgM) (test : M Bool) (elt : M D) (sl : List Slot) : List D → List Cell → List D → Out (List D)
  | [], st, acc => .ok acc ⟨[], st⟩
  | d :: ds, st, acc => match t d ⟨sl, st⟩ with
    | none => .stuck
    | some b1 => match test b1 with
      | .ok true b2 => match elt b2 with
        | .ok y b3 => if acc.length < 100000 then lcL t test elt sl ds b3.st (acc ++ [y]) else .stuck
        | _ => .stuck
      | .ok false b2 => lcL t test elt sl ds b2.st acc
      | _ => .stuck
def lcM (vs : List Nat) (mi : M (List D)) (t : TgM) (test : M Bool) (elt : M D) : M (List D) := bd mi fun ds => fun a => match lcL t test elt (hideL vs a.sl) ds a.st [] with
  | .ok acc b => .ok acc { a with st := b.st }
  | _ => .stuck
def yesM : M Bool := ret true
section
variable {X : Cx} {T : Tab} {W : WX}
abbrev WN : WX := fun _ _ _ _ => False
theorem pts_nilX {X : Cx} : PTs X [] (tT X.K T W yesM) := ⟨fun pins s σ H Q I ⟨E, G, ρ, a, r, p⟩ => pts_nil.run pins s σ H Q I (Post.here p r rfl)⟩
theorem lc_read {wi : TI} {g : TG} {t : TgM} {js vs : List Nat} {mi : M (List D)} {test : M Bool} {elt : M D} (q : TgR X.K T g t js) (hj : ∀ j ∈ js, j ∈ vs) {σ : L2.St} {H : Hp} {Q : VK} (h : tF X.K T W (lcM vs mi t test elt) σ H Q) :
    tLc (tI X.K T W mi) g (tT X.K T WN test) (tE X.K T WN elt) vs σ H Q := by
  obtain ⟨E, G, ρ, a, r, p⟩ := h
  refine ⟨E, G, ρ, a, r, ?_⟩
  unfold lcM bd at p
  cases e1 : mi a with
  | stuck => rw [e1] at p; exact p
  | exc c fs a1 => rw [e1] at p; exact p
  | ok ds a1 =>
    rw [e1] at p
    simp only [bind_ok] at p
    refine fun G1 ρ1 H1 J g1 l1 r1 Y => fun L hL => ?_
    replace p := PostF.ext (o := match lcL t test elt (hideL vs a1.sl) ds a1.st [] with
      | .ok acc b => .ok acc { a1 with st := b.st }
      | _ => .stuck) p g1 l1
    obtain ⟨f1, f2, f3⟩ := r1.fresh hL
    refine ⟨fun i m H' => m = ds.length - i ∧ i ≤ ds.length ∧ ∃ acc accV G' ρ' st', Aft X.K T G1 ρ1 H1 G' ρ' H' st' ∧ G' L = none ∧ L ∉ ρ' ∧ H' L = some (.lst accV) ∧ RepL X.K T G' ρ' acc accV ∧
      PostF X.K T W E σ G1 ρ1 (match lcL t test elt (hideL vs a1.sl) (ds.drop i) st' acc with
        | .ok acc b => .ok acc { a1 with st := b.st }
        | _ => .stuck) Q, ⟨ds.length, by simp, Nat.zero_le _, [], [], G1, ρ1, a1.st, r1.aft0.junk hL f2 f3, f2, f3, upd_same, RepL.nil, p⟩, ?_⟩
    rintro i m H' ⟨rfl, hi, acc, accV, G', ρ', st', af, hG, hr, hD, rl, pp⟩
    have rb := r1.blk af vs
    obtain ⟨y1, y2⟩ := Y G' ρ' af.g af.l _ _ _ H' rb
    by_cases hlt : i < ds.length
    · have hd : ds[i]? = some ds[i] := List.getElem?_eq_getElem hlt
      obtain ⟨z1, z2⟩ := y1 i _ hd
      rw [List.drop_eq_getElem_cons hlt] at pp
      unfold lcL at pp
      refine .inr ⟨z1, fun H' => ∃ acc accV G' ρ' st', Aft X.K T G1 ρ1 H1 G' ρ' H' st' ∧ G' L = none ∧ L ∉ ρ' ∧ H' L = some (.lst accV) ∧ RepL X.K T G' ρ' acc accV ∧
        PostF X.K T W E σ G1 ρ1 (match lcL t test elt (hideL vs a1.sl) (ds.drop (i + 1)) st' acc with
          | .ok acc b => .ok acc { a1 with st := b.st }
          | _ => .stuck) Q, fun H' h => ⟨ds.length - (i + 1), by omega, rfl, hlt, h⟩, fun x H2 hy => ?_⟩
      obtain ⟨G2, g2, r2, rx⟩ := z2 x H2 hy
      cases e2 : t ds[i] ⟨hideL vs a1.sl, st'⟩ with
      | none => rw [e2] at pp; exact pp.elim
      | some b1 =>
        rw [e2] at pp
        simp only at pp
        refine q ds[i] _ b1 e2 _ G2 ρ' (wipe σ vs) H2 x _ r2 rx fun σ3 off r3 => ⟨?_, ?_⟩
        · have h1 : wipe σ3 vs = wipe (wipe σ vs) vs := wipe_agree off.len fun j hj' => off.at_ j fun z => hj' (hj j z)
          rw [h1]
          exact wipe_agree (wipe_length _ _) fun j hj' => wipe_out hj'
        -- the new state behind the element
        have fin : ∀ {G4 : Hp} {ρ4 : List Addr} {b : AS} {H4 : Hp}, AR X.K T ⟨H', G', ρ', none⟩ G4 ρ4 b σ3 H4 → Aft X.K T G1 ρ1 H1 G4 ρ4 H4 b.st ∧ G4 L = none ∧ L ∉ ρ4 ∧ H4 L = some (.lst accV) ∧ RepL X.K T G4 ρ4 acc accV := fun {G4 ρ4 b H4} r4 => by
          have af4 : Aft X.K T G' ρ' H' G4 ρ4 H4 b.st := r4.aft rfl
          refine ⟨af.trans af4, ?_, ?_, af4.fr L _ hD hr, RepL.ge af4.g af4.l _ _ rl⟩
          · cases z : G4 L with
            | none => rfl
            | some o =>
              rcases af4.gnew L o z with y | y
              · rw [hG] at y; cases y
              · rw [hD] at y; cases y
          · intro z
            rcases af4.rnew L z with y | y
            · exact hr y
            · rw [hD] at y; cases y
        refine ⟨_, G2, ρ', b1, r3, ?_⟩
        cases e3 : test b1 with
        | stuck => rw [e3] at pp; exact pp.elim
        | exc c fs b2 => rw [e3] at pp; exact pp.elim
        | ok k b2 =>
          rw [e3] at pp
          refine fun G3 ρ3 H3 v g3 l3 r4 q4 => ?_
          cases q4
          cases k with
          | false =>
            obtain ⟨f1, f2, f3, f4, f5⟩ := fin r4
            exact iteF ⟨acc, accV, G3, ρ3, b2.st, f1, f2, f3, f4, f5, pp⟩
          | true =>
            refine iteT ⟨_, G3, ρ3, b2, r4, ?_⟩
            simp only at pp
            cases e4 : elt b2 with
            | stuck => rw [e4] at pp; exact pp.elim
            | exc c fs b2 => rw [e4] at pp; exact pp.elim
            | ok y b3 =>
              rw [e4] at pp
              simp only at pp
              refine fun G4 ρ4 H4 v g4 l4 r5 q5 => ?_
              obtain ⟨f1, f2, f3, f4, f5⟩ := fin r5
              by_cases hz : acc.length < 100000
              · rw [if_pos hz] at pp
                have hz' : accV.length = acc.length := f5.len
                exact ⟨accV, f4, by rw [hz', sizeLine_eq]; omega, acc ++ [y], accV ++ [v], G4, ρ4, b3.st, f1.junk hL f2 f3, f2, f3, upd_same, f5.app (RepL.cons q5 RepL.nil), pp⟩
              · rw [if_neg hz] at pp
                exact pp.elim
    · have e : i = ds.length := by omega
      subst e
      rw [List.drop_length] at pp
      unfold lcL at pp
      refine .inl ⟨y2, ?_⟩
      simp only at pp
      have r5 := r1.after af
      refine pp G' ρ' H' L accV af.g af.l r5 ⟨hG, hr, f1, fun j es e3 e4 => ?_⟩ hD rl
      obtain ⟨b, ws, e5, hb, _⟩ := r1.sl j _ _ e3 e4
      cases e5
      rw [hb] at hL
      cases hL
theorem pf_lc {elt tg iter : Expr} {ifs : List Expr} {scope : Scope} {own : List (Str × Nat)} {pos : Pos} {mi : M (List D)} {g : TG} {t : TgM} {js : List Nat} {test : M Bool} {me : M D} (hc : X.calm = true) (hN : X.N.Nodup) (hi : PI X tg iter (tI X.K T W mi)) (ok : BlkOk X.N X.env.scope scope own)
    (hg : ∀ (s : Shared) (H : Hp) (C : Addr) (cl : List (Str × Addr)) (fp : List Addr), PG (X.blk s H scope (compEnvC scope cl C X.env) fp) tg g) (q : TgR X.K T g t js)
    (ht : ∀ (s : Shared) (H : Hp) (C : Addr) (cl : List (Str × Addr)) (fp : List Addr), PTs (X.blk s H scope (compEnvC scope cl C X.env) fp) ifs (tT X.K T WN test))
    (he : ∀ (s : Shared) (H : Hp) (C : Addr) (cl : List (Str × Addr)) (fp : List Addr), PE (X.blk s H scope (compEnvC scope cl C X.env) fp) elt (tE X.K T WN me)) (hj : ∀ j ∈ js, j ∈ own.map (·.2) := by decide) (hs : ∀ x, foldedSetIterable iter X.env x = pure x := by intro _; rfl) :
    PE X (.ListComp elt [⟨tg, iter, ifs, 0⟩] scope pos) (tF X.K T W (lcM (own.map (·.2)) mi t test me)) :=
  PE.imp (pe_lc hc hN hi ok hg ht he hs) fun σ H Q h => lc_read (wi := tI X.K T W mi) q hj h
theorem ps_ownLc {i : Nat} {y : Str} {py : Pos} {elt tg iter : Expr} {ifs : List Expr} {scope : Scope} {own : List (Str × Nat)} {pos spos : Pos} {mi : M (List D)} {g : TG} {t : TgM} {js : List Nat} {test : M Bool} {me : M D} (hc : X.calm = true) (hN : X.N.Nodup) (hy : X.N[i]? = some y) (hyl : X.env.scope.names.lookup y = some .local)
    (hsw : swapsWith (.ListComp elt [⟨tg, iter, ifs, 0⟩] scope pos) (some (.Name y py)) spos.line X.env = pure true) (hi : PI X tg iter (tI X.K T W mi)) (ok : BlkOk X.N X.env.scope scope own)
    (hg : ∀ (s : Shared) (H : Hp) (C : Addr) (cl : List (Str × Addr)) (fp : List Addr), PG (X.blk s H scope (compEnvC scope cl C X.env) fp) tg g) (q : TgR X.K T g t js)
    (ht : ∀ (s : Shared) (H : Hp) (C : Addr) (cl : List (Str × Addr)) (fp : List Addr), PTs (X.blk s H scope (compEnvC scope cl C X.env) fp) ifs (tT X.K T WN test))
    (he : ∀ (s : Shared) (H : Hp) (C : Addr) (cl : List (Str × Addr)) (fp : List Addr), PE (X.blk s H scope (compEnvC scope cl C X.env) fp) elt (tE X.K T WN me)) (hj : ∀ j ∈ js, j ∈ own.map (·.2) := by decide) (hs : ∀ x, foldedSetIterable iter X.env x = pure x := by intro _; rfl) :
    PS X (.Assign [.Name y py] (.ListComp elt [⟨tg, iter, ifs, 0⟩] scope pos) spos) (tS X.K T W (ownM i (lcM (own.map (·.2)) mi t test me))) := by
  refine PS.imp (ps_setLc hc hN hy hyl hsw hi ok hg ht he hs) fun De σ H h => ?_
  refine lc_read (W := W) (wi := tI X.K T W mi) q hj ?_
  exact tS.bindF h fun E ds a1 G1 ρ1 H1 p vs r1 f hp q1 p1 => p1 G1 ρ1 _ H1 Ge.rfl' (List.prefix_refl _) (r1.setO i f hp q1)
theorem ps_setLcX {i : Nat} {y : Str} {py : Pos} {elt tg iter : Expr} {ifs : List Expr} {scope : Scope} {own : List (Str × Nat)} {pos spos : Pos} {mi : M (List D)} {g : TG} {t : TgM} {js : List Nat} {test : M Bool} {me : M D} (hc : X.calm = true) (hN : X.N.Nodup) (hy : X.N[i]? = some y) (hyl : X.env.scope.names.lookup y = some .local)
    (hsw : swapsWith (.ListComp elt [⟨tg, iter, ifs, 0⟩] scope pos) (some (.Name y py)) spos.line X.env = pure true) (hi : PI X tg iter (tI X.K T W mi)) (ok : BlkOk X.N X.env.scope scope own)
    (hg : ∀ (s : Shared) (H : Hp) (C : Addr) (cl : List (Str × Addr)) (fp : List Addr), PG (X.blk s H scope (compEnvC scope cl C X.env) fp) tg g) (q : TgR X.K T g t js)
    (ht : ∀ (s : Shared) (H : Hp) (C : Addr) (cl : List (Str × Addr)) (fp : List Addr), PTs (X.blk s H scope (compEnvC scope cl C X.env) fp) ifs (tT X.K T WN test))
    (he : ∀ (s : Shared) (H : Hp) (C : Addr) (cl : List (Str × Addr)) (fp : List Addr), PE (X.blk s H scope (compEnvC scope cl C X.env) fp) elt (tE X.K T WN me)) (hj : ∀ j ∈ js, j ∈ own.map (·.2) := by decide) (hs : ∀ x, foldedSetIterable iter X.env x = pure x := by intro _; rfl) :
    PS X (.Assign [.Name y py] (.ListComp elt [⟨tg, iter, ifs, 0⟩] scope pos) spos) (tS X.K T W (setM i (bd (lcM (own.map (·.2)) mi t test me) fun ds => ret (.lst ds)))) := by
  refine PS.imp (ps_setLc hc hN hy hyl hsw hi ok hg ht he hs) fun De σ H h => ?_
  refine lc_read (W := W) (wi := tI X.K T W mi) q hj ?_
  obtain ⟨E, G, ρ, a, r, p⟩ := h
  refine ⟨E, G, ρ, a, r, ?_⟩
  unfold setM bd at p
  cases e1 : lcM (own.map (·.2)) mi t test me a with
  | stuck => rw [e1] at p; exact p
  | exc c fs a1 => rw [e1] at p; exact fun G1 ρ1 H1 dd g1 l1 r1 q1 => p G1 ρ1 σ H1 dd g1 l1 r1 q1
  | ok ds a1 =>
    rw [e1] at p
    refine fun G1 ρ1 H1 b vs g1 l r1 f hb rl => ?_
    obtain ⟨g2, r2⟩ := r1.hold f hb (r1.own_sf f.2.2.1)
    refine p _ ρ1 _ H1 (g1.trans g2) l (r2.setV (d := .lst ds) i ?_)
    unfold Rep
    exact ⟨b, vs, rfl, .inl (.inl upd_same), RepL.ge g2 (List.prefix_refl _) _ _ rl⟩

def ownAt (i : Nat) (a : AS) : Option (List D) := match a.sl.getD i .emp with
  | .own ds => some ds
  | _ => none
theorem ownAt_some {i : Nat} {a : AS} {ds : List D} (h : ownAt i a = some ds) : a.sl[i]? = some (.own ds) := by
  unfold ownAt at h
  split at h
  · rename_i e
    cases h
    exact getD_some e (fun z => nomatch z)
  · cases h
def methO (i : Nat) (f : List Cell → List D → List D → Option (List D)) (ms : M (List D)) : M D := fun a => match ownAt i a with
  | none => .stuck
  | some _ => (ms a).bind fun xs a1 => match ownAt i a1 with
    | none => .stuck
    | some ds => match f a1.st ds xs with
      | none => .stuck
      | some es => .ok .non { a1 with sl := a1.sl.set i (.own es) }
def methC (i : Nat) (f : List Cell → List D → List D → Option (List D)) (ms : M (List D)) : M D := fun a => match a.sl.getD i .emp with
  | .val (.cell k) => match a.st[k]? with
    | some (.lst _) => (ms a).bind fun xs a1 => match a1.st[k]? with
      | some (.lst ds) => match f a1.st ds xs with
        | none => .stuck
        | some es => .ok .non { a1 with st := a1.st.set k (.lst es) }
      | _ => .stuck
    | _ => .stuck
  | _ => .stuck
structure MetR (X : Cx) (T : Tab) (id : String) (f : List Cell → List D → List D → Option (List D)) : Prop where
  ex : ∃ r : V → List V → Hp → VK → Prop, MtR X id r ∧ ∀ (st : List Cell) (ds xs es : List D), f st ds xs = some es → ∀ (E : En) (G : Hp) (ρ : List Addr) (a : AS) (σ : L2.St) (H : Hp) (b : Addr) (us vs : List V) (Q : VK), a.st = st → AR X.K T E G ρ a σ H → H b = some (.lst us) →
    RepL X.K T G ρ ds us → RepL X.K T G ρ xs vs → (∀ ws, RepL X.K T G ρ es ws → Q .non (upd H b (.lst ws))) → r (.ref b) vs H Q
theorem px_methO {id : String} {name : Str} {f : List Cell → List D → List D → Option (List D)} {x : Str} {e : Expr} {es : List Expr} {ms : M (List D)} {p0 apos cpos : Pos} (i : Nat) (slot : PySem.Slot "list" name id) (hty : typeOf (.builtin id) = pure (.type "method_descriptor")) (c : MetR X T id f) (ha : PA X (e :: es) (tA X.K T W ms))
    (hN : X.N[i]? = some x := by rfl) (hv : Vis X.env.scope x := by first | exact Or.inl rfl | exact Or.inr (Or.inl rfl) | exact Or.inr (Or.inr rfl)) (hd : (x == ("__debug__" : Str)) = false := by decide) (hcd : (x == ("__classdict__" : Str)) = false := by decide)
    (hbase : attributeBase (.Name x p0) name X.env (eval (.Name x p0) X.env) = eval (.Name x p0) X.env := by rfl)
    (hfew : ((backTo cpos (starEach (e :: es) X.env)).all (fun x => !x.1) && (backToKw cpos (keywordEach [] X.env)).all (fun x => x.1.isSome)
      && decide ((e :: es).length + ([] : List Keyword).length + (if ([] : List Keyword).isEmpty then 0 else 1) < 30)) = true := by rfl)
    (hline : (apos.endLine == cpos.line) = true := by rfl) (hs : starEach (e :: es) X.env = (false, eval e X.env) :: starEach es X.env := by rfl) (hplain : (backTo cpos (starEach es X.env)).any (·.1) = false := by rfl) :
    PE X (.Call (.Attribute (.Name x p0) name apos) (e :: es) [] cpos) (tE X.K T W (methO i f ms)) := by
  obtain ⟨r, hm, hr⟩ := c.ex
  refine PE.imp (pe_bm PySem.F.plainAttrs_list slot hty hm (pe_var hN hv hd hcd) ha hbase hfew hline hs hplain) fun σ H Q ⟨E, G, ρ, a, r0, p⟩ => ?_
  unfold methO at p
  cases e1 : ownAt i a with
  | none => rw [e1] at p; exact p.elim
  | some ds0 =>
    rw [e1] at p
    simp only at p
    have h0 := ownAt_some e1
    obtain ⟨v, hσ⟩ := r0.slen h0
    obtain ⟨b, us, e2, hb, rl, _⟩ := r0.sl i _ v h0 hσ
    subst e2
    refine ⟨.ref b, hσ, .inl ⟨rfl, us, SqL.of hb⟩, E, G, ρ, a, r0, Post.bind p fun xs a1 G1 ρ1 H1 vs g1 l1 r1 q1 p1 => ?_⟩
    cases e3 : ownAt i a1 with
    | none => rw [e3] at p1; exact p1.elim
    | some ds =>
      rw [e3] at p1
      simp only at p1
      have h1 := ownAt_some e3
      obtain ⟨b', us', e4, hb', rl', _⟩ := r1.sl i _ _ h1 hσ
      cases e4
      cases e5 : f a1.st ds xs with
      | none => rw [e5] at p1; exact p1.elim
      | some es =>
        rw [e5] at p1
        exact hr a1.st ds xs es e5 E G1 ρ1 a1 σ H1 b us' vs Q rfl r1 hb' rl' q1 fun ws rw' => p1 G1 ρ1 _ .non Ge.rfl' (List.prefix_refl _) (r1.updO h1 hσ rw') to_non
theorem px_methC {id : String} {name : Str} {f : List Cell → List D → List D → Option (List D)} {x : Str} {e : Expr} {es : List Expr} {ms : M (List D)} {p0 apos cpos : Pos} (i : Nat) (slot : PySem.Slot "list" name id) (hty : typeOf (.builtin id) = pure (.type "method_descriptor")) (c : MetR X T id f) (ha : PA X (e :: es) (tA X.K T W ms))
    (hN : X.N[i]? = some x := by rfl) (hv : Vis X.env.scope x := by first | exact Or.inl rfl | exact Or.inr (Or.inl rfl) | exact Or.inr (Or.inr rfl)) (hd : (x == ("__debug__" : Str)) = false := by decide) (hcd : (x == ("__classdict__" : Str)) = false := by decide)
    (hbase : attributeBase (.Name x p0) name X.env (eval (.Name x p0) X.env) = eval (.Name x p0) X.env := by rfl)
    (hfew : ((backTo cpos (starEach (e :: es) X.env)).all (fun x => !x.1) && (backToKw cpos (keywordEach [] X.env)).all (fun x => x.1.isSome)
      && decide ((e :: es).length + ([] : List Keyword).length + (if ([] : List Keyword).isEmpty then 0 else 1) < 30)) = true := by rfl)
    (hline : (apos.endLine == cpos.line) = true := by rfl) (hs : starEach (e :: es) X.env = (false, eval e X.env) :: starEach es X.env := by rfl) (hplain : (backTo cpos (starEach es X.env)).any (·.1) = false := by rfl) :
    PE X (.Call (.Attribute (.Name x p0) name apos) (e :: es) [] cpos) (tE X.K T W (methC i f ms)) := by
  obtain ⟨r, hm, hr⟩ := c.ex
  refine PE.imp (pe_bm PySem.F.plainAttrs_list slot hty hm (pe_var hN hv hd hcd) ha hbase hfew hline hs hplain) fun σ H Q ⟨E, G, ρ, a, r0, p⟩ => ?_
  unfold methC at p
  split at p
  · rename_i k e1
    obtain ⟨v, hσ, q⟩ := r0.val (getD_some e1 (fun z => nomatch z))
    unfold Rep at q
    obtain ⟨b, hρ, ev⟩ := q
    subst ev
    have hl : k < a.st.length := by rw [r0.clen]; exact (List.getElem?_eq_some_iff.mp hρ).1
    have z := r0.cl k b _ hρ (List.getElem?_eq_getElem hl)
    cases e2 : a.st[k]? with
    | none => rw [List.getElem?_eq_none_iff] at e2; omega
    | some c0 =>
    have e2' : a.st[k] = c0 := by rw [List.getElem?_eq_getElem hl] at e2; exact Option.some.inj e2
    rw [e2] at p
    cases c0 with
    | obj c fs => exact p.elim
    | lst ds0 =>
    simp only at p
    have hlist : ∃ us, H b = some (.lst us) := by
      rw [e2'] at z; obtain ⟨us, hb, _⟩ := z; exact ⟨us, hb⟩
    obtain ⟨us, hb⟩ := hlist
    refine ⟨.ref b, hσ, .inl ⟨rfl, us, SqL.of hb⟩, E, G, ρ, a, r0, Post.bind p fun xs a1 G1 ρ1 H1 vs g1 l1 r1 q1 p1 => ?_⟩
    have hρ1 := pre_get l1 hρ
    cases e3 : a1.st[k]? with
    | none => rw [e3] at p1; exact p1.elim
    | some c =>
      cases c with
      | obj k fs => rw [e3] at p1; exact p1.elim
      | lst ds =>
        rw [e3] at p1
        simp only at p1
        obtain ⟨us', hb', rl'⟩ := r1.cl k b _ hρ1 e3
        cases e5 : f a1.st ds xs with
        | none => rw [e5] at p1; exact p1.elim
        | some es =>
          rw [e5] at p1
          exact hr a1.st ds xs es e5 E G1 ρ1 a1 σ H1 b us' vs Q rfl r1 hb' rl' q1 fun ws rw' => p1 G1 ρ1 _ .non Ge.rfl' (List.prefix_refl _) (r1.updC e3 hρ1 rw') to_non
  · exact p.elim
def appF (_ : List Cell) (ds : List D) : List D → Option (List D)
  | [x] => if ds.length < 100000 then some (ds ++ [x]) else none
  | _ => none
theorem me_append : MetR X T "list.append" appF := ⟨_, mt_append, fun st ds xs es e E G ρ a σ H b us vs Q hst r hb rl q k => by
  unfold appF at e
  split at e
  · split at e
    · rename_i hz
      cases e
      obtain ⟨v, ev, q1⟩ := q.one
      exact ⟨b, us, v, rfl, ev, hb, by rw [rl.len, sizeLine_eq]; omega, k _ (rl.app (RepL.cons q1 RepL.nil))⟩
    · cases e
  · cases e⟩
theorem list_extend_any (l : Addr) (items : Array Value) (n : Nat) (b : Addr) (items2 : Array Value) (n2 : Nat) (sl2 : Array (Option Value)) (hc0 : ¬(!items.isEmpty && Builtin.List.listTooLong (items.size + items2.size)) = true) (hc1 : items.size ≤ sizeLine) (hs2 : items.size + items2.size ≤ sizeLine + 1) :
    Meets (Builtin.«list.extend» ⟨[.ref l, .ref b], []⟩) (fun _ R s => s.heap.get? l = some { cls := .type "list", dict := none, data := .seq items n, slots := #[] } ∧ s.heap.get? b = some { cls := .type "list", dict := none, data := .seq items2 n2, slots := sl2 } ∧ R (.ok (.ret Value.none)) { s with heap := s.heap.update l (Obj.mapSeq fun x => x ++ items2), toks := s.toks }) :=
  .of_wp fun prog w A R s h => by
    obtain ⟨hp, g, d, tk, os⟩ := s; obtain ⟨hl, hb, h⟩ := h; have f1 := AutoSeq1.idx_int; have f2 := AutoSeq1.sub_tuple_tuple; have f3 := AutoSeq1.sub_list_list; have f4 := AutoSeq1.sub_tuple_list; have f5 := AutoSeq1.sub_list_tuple;
    have hz' : (items ++ items2).size ≤ sizeLine + 1 := by rw [Array.size_append]; exact hs2
    wp_walk using (wpAny_updateSeq hl rfl (hz := hc1) (_hz' := hz')), AutoSeq1.wpAny_loadPart' hl, AutoSeq1.wpAny_loadPart' hb; exact ⟨_, rfl, h⟩
theorem mt_extendR : MtM X "list.extend" (fun x vs H Q => ∃ l b xs zs, x = .ref l ∧ vs = [.ref b] ∧ H l = some (.lst xs) ∧ SqL X.K H b zs ∧ xs.length + zs.length ≤ sizeLine ∧ Q .non (upd H l (.lst (xs ++ zs)))) := by
  intro pins s σ H x vs v us Q I rx rv h
  obtain ⟨l, b, xs, zs, rfl, rfl, hH, hB, hz, q⟩ := h
  cases rx
  obtain ⟨u, rfl, ru⟩ := rv.one
  cases ru
  obtain ⟨z, its, n, r, hl, e⟩ := I.lstM hH
  obtain ⟨its2, n2, sl2, r2, e2, z2⟩ := sq_at I hB
  have hl2 := r2.length
  have hsz : its.toArray.size + its2.toArray.size ≤ sizeLine := by rw [List.size_toArray, List.size_toArray]; omega
  have hlong : ¬ (!its.toArray.isEmpty && Builtin.List.listTooLong (its.toArray.size + its2.toArray.size)) = true := by
    rw [notLongL hsz, Bool.and_false]
    exact Bool.false_ne_true
  refine call_meets F.slot_list_extend ⟨_, e, rfl⟩ F.entry_list_extend (F.args_list_extend_2 _ _)
    (list_extend_any l its.toArray n b its2.toArray n2 sl2 hlong (by rw [List.size_toArray]; omega) (by omega)) ⟨e, e2, ?_⟩
  refine ⟨.non, _, I.lset (its' := its ++ its2) hH e (by simp) (r.append r2) ?_, rfl, q⟩
  rw [List.length_append]
  omega
def extF (st : List Cell) (ds : List D) : List D → Option (List D)
  | [x] => (lstOf st x).bind fun es => if ds.length + es.length ≤ 100000 then some (ds ++ es) else none
  | _ => none
theorem me_extend : MetR X T "list.extend" extF := ⟨_, mt_extendR, fun st ds xs es e E G ρ a σ H b us vs Q hst r hb rl q k => by
  subst hst
  unfold extF at e
  split at e
  · rename_i x
    cases e2 : lstOf a.st x with
    | none => rw [e2] at e; cases e
    | some fs =>
      rw [e2] at e
      simp only [Option.bind_some] at e
      split at e
      · rename_i hz
        cases e
        obtain ⟨v, ev, q1⟩ := q.one
        obtain ⟨c, ws, ec, hc, rc⟩ := r.lst e2 q1
        subst ec
        exact ⟨b, c, us, ws, rfl, ev, hb, hc, by rw [rl.len, rc.len, sizeLine_eq]; omega, k _ (rl.app rc)⟩
      · cases e
  · cases e⟩
def insF (_ : List Cell) (ds : List D) : List D → Option (List D)
  | [.int i, x] => if ds.length < 100000 ∧ 0 ≤ i ∧ i < 1000000 then some (ds.take i.toNat ++ [x] ++ ds.drop i.toNat) else none
  | _ => none
theorem me_insert : MetR X T "list.insert" insF := ⟨_, mt_insert, fun st ds xs es e E G ρ a σ H b us vs Q hst r hb rl q k => by
  unfold insF at e
  split at e
  · split at e
    · rename_i hz
      cases e
      obtain ⟨v, w, ev, q1, q2⟩ := q.two
      rw [rep_int q1] at ev
      exact ⟨b, us, _, w, rfl, ev, hb, by rw [rl.len, sizeLine_eq]; omega, hz.2.1, by omega, k _ (((rl.take _).app (RepL.cons q2 RepL.nil)).app (rl.drop _))⟩
    · cases e
  · cases e⟩

def subO (i : Nat) (mx m : M D) : M Fl := bd m fun d => fun a => match ownAt i a with
  | none => .stuck
  | some _ => (mx a).bind fun k a1 => match k with
    | .int k => match ownAt i a1 with
      | none => .stuck
      | some ds => match L2.ixN ds.length k with
        | none => .stuck
        | some j => .ok .nx { a1 with sl := a1.sl.set i (.own (ds.set j d)) }
    | _ => .stuck
theorem ps_subO {x : Str} {ix e : Expr} {mx m : M D} {p0 p1 pos : Pos} (i : Nat) (h : PE X e (tE X.K T W m)) (hx : PE X ix (tE X.K T W mx))
    (hN : X.N[i]? = some x := by rfl) (hv : Vis X.env.scope x := by first | exact Or.inl rfl | exact Or.inr (Or.inl rfl) | exact Or.inr (Or.inr rfl)) (hd : (x == ("__debug__" : Str)) = false := by decide) (hcd : (x == ("__classdict__" : Str)) = false := by decide)
    (ha : ∀ v, assign (.Subscript (.Name x p0) ix p1) X.env v = (do
      let ov ← holding [v] (eval (.Name x p0) X.env)
      let iv ← holding [v, ov] (eval ix X.env)
      standAt p1
      holding [v, ov, iv] (setItem ov iv v)
      release [v, ov, iv] []) := by intro _; rfl)
    (hs : swapsWithSole [.Subscript (.Name x p0) ix p1] e pos.line X.env = pure false := by rfl) (hw : swappedStores [.Subscript (.Name x p0) ix p1] e X.env = pure none := by rfl)
    (h1 : (assignEach [.Subscript (.Name x p0) ix p1] X.env).map (·.2) = [assign (.Subscript (.Name x p0) ix p1) X.env] := by rfl) :
    PS X (.Assign [.Subscript (.Name x p0) ix p1] e pos) (tS X.K T W (subO i mx m)) := by
  refine PS.imp (ps_asg h (pg_sub (pe_var hN hv hd hcd) hx set_list ha) hs hw h1) fun De σ H h => ?_
  refine tS.bind h fun E d a0 G0 ρ0 H0 v r0 q0 p => ?_
  cases e1 : ownAt i a0 with
  | none => rw [e1] at p; exact p.elim
  | some ds0 =>
    rw [e1] at p
    simp only at p
    have h0 := ownAt_some e1
    obtain ⟨v0, hσ⟩ := r0.slen h0
    obtain ⟨b, us, e2, hb, rl, _⟩ := r0.sl i _ v0 h0 hσ
    subst e2
    refine ⟨.ref b, hσ, E, G0, ρ0, a0, r0, PostS.bind p fun k a1 G1 ρ1 H1 w g1 l1 r1 q1 p1 => ?_⟩
    cases k with
    | int k =>
      simp only at p1
      cases e3 : ownAt i a1 with
      | none => rw [e3] at p1; exact p1.elim
      | some ds =>
        rw [e3] at p1
        simp only at p1
        have h1 := ownAt_some e3
        obtain ⟨b', us', e4, hb', rl', _⟩ := r1.sl i _ _ h1 hσ
        cases e4
        cases e5 : L2.ixN ds.length k with
        | none => rw [e5] at p1; exact p1.elim
        | some j =>
          rw [e5] at p1
          exact ⟨b, us', k, j, rfl, rep_int q1, hb', by rw [rl'.len]; exact e5, p1 G1 ρ1 σ _ Ge.rfl' (List.prefix_refl _) (r1.updO h1 hσ (rl'.set j (Rep.ge g1 l1 _ _ q0)))⟩
    | _ => exact p1.elim
def subC (mo mx m : M D) : M Fl := bd m fun d => bd mo fun o => bd mx fun k => fun a => match o, k with
  | .cell n, .int k => match a.st[n]? with
    | some (.lst ds) => match L2.ixN ds.length k with
      | none => .stuck
      | some j => .ok .nx { a with st := a.st.set n (.lst (ds.set j d)) }
    | _ => .stuck
  | _, _ => .stuck
theorem ps_subC {o ix e : Expr} {mo mx m : M D} {p1 pos : Pos} (h : PE X e (tE X.K T W m)) (ho : PE X o (tE X.K T W mo)) (hx : PE X ix (tE X.K T W mx))
    (ha : ∀ v, assign (.Subscript o ix p1) X.env v = (do
      let ov ← holding [v] (eval o X.env)
      let iv ← holding [v, ov] (eval ix X.env)
      standAt p1
      holding [v, ov, iv] (setItem ov iv v)
      release [v, ov, iv] []) := by intro _; rfl)
    (hs : swapsWithSole [.Subscript o ix p1] e pos.line X.env = pure false := by rfl) (hw : swappedStores [.Subscript o ix p1] e X.env = pure none := by rfl)
    (h1 : (assignEach [.Subscript o ix p1] X.env).map (·.2) = [assign (.Subscript o ix p1) X.env] := by rfl) :
    PS X (.Assign [.Subscript o ix p1] e pos) (tS X.K T W (subC mo mx m)) := by
  refine PS.imp (ps_asg h (pg_sub ho hx set_list ha) hs hw h1) fun De σ H h => ?_
  refine tS.bind h fun E d a0 G0 ρ0 H0 v r0 q0 p => ?_
  refine ⟨E, G0, ρ0, a0, r0, PostS.bind p fun o a1 G1 ρ1 H1 w1 g1 l1 r1 q1 p1 => ?_⟩
  refine ⟨E, G1, ρ1, a1, r1, PostS.bind p1 fun k a2 G2 ρ2 H2 w2 g2 l2 r2 q2 p2 => ?_⟩
  split at p2
  · rename_i n k
    cases e3 : a2.st[n]? with
    | none => rw [e3] at p2; exact p2.elim
    | some c =>
      cases c with
      | obj k fs => rw [e3] at p2; exact p2.elim
      | lst ds =>
        rw [e3] at p2
        simp only at p2
        have q1' := Rep.ge g2 l2 _ _ q1
        unfold Rep at q1'
        obtain ⟨b, hρ, ev⟩ := q1'
        obtain ⟨us, hb, rl⟩ := r2.cl n b _ hρ e3
        cases e5 : L2.ixN ds.length k with
        | none => rw [e5] at p2; exact p2.elim
        | some j =>
          rw [e5] at p2
          exact ⟨b, us, k, j, ev, rep_int q2, hb, by rw [rl.len]; exact e5, p2 G2 ρ2 σ _ Ge.rfl' (List.prefix_refl _) (r2.updC e3 hρ (rl.set j (Rep.ge g2 l2 _ _ (Rep.ge g1 l1 _ _ q0))))⟩
  · exact p2.elim
end
end PL

namespace PL
open PySem PySem.Spec PyProof.Rows L2

mutual
def deq : D → D → Bool
  | .non, .non => true
  | .bl a, .bl b => a == b
  | .int a, .int b => a == b
  | .str a, .str b => a == b
  | .tup a, .tup b => deqL a b
  | .lst a, .lst b => deqL a b
  | .ins c a, .ins d b => c == d && deqL a b
  | .cell i, .cell j => i == j
  | .dic, .dic => true
  | .ty a, .ty b => a == b
  | .cls a, .cls b => a == b
  | _, _ => false
def deqL : List D → List D → Bool
  | [], [] => true
  | x :: xs, y :: ys => deq x y && deqL xs ys
  | _, _ => false
end
mutual
theorem deq_eq : ∀ x y : D, deq x y = true → x = y
  | .non, y, h => by cases y <;> first | rfl | (unfold deq at h; cases h)
  | .dic, y, h => by cases y <;> first | rfl | (unfold deq at h; cases h)
  | .bl a, y, h => by cases y <;> first | (unfold deq at h; rw [eq_of_beq h]) | (unfold deq at h; cases h)
  | .int a, y, h => by cases y <;> first | (unfold deq at h; rw [eq_of_beq h]) | (unfold deq at h; cases h)
  | .str a, y, h => by cases y <;> first | (unfold deq at h; rw [eq_of_beq h]) | (unfold deq at h; cases h)
  | .cell a, y, h => by cases y <;> first | (unfold deq at h; rw [eq_of_beq h]) | (unfold deq at h; cases h)
  | .ty a, y, h => by cases y <;> first | (unfold deq at h; rw [eq_of_beq h]) | (unfold deq at h; cases h)
  | .cls a, y, h => by cases y <;> first | (unfold deq at h; rw [eq_of_beq h]) | (unfold deq at h; cases h)
  | .tup a, y, h => by cases y <;> first | (unfold deq at h; rw [deqL_eq a _ h]) | (unfold deq at h; cases h)
  | .lst a, y, h => by cases y <;> first | (unfold deq at h; rw [deqL_eq a _ h]) | (unfold deq at h; cases h)
  | .ins c a, y, h => by cases y <;> first | (unfold deq at h; rw [Bool.and_eq_true] at h; rw [eq_of_beq h.1, deqL_eq a _ h.2]) | (unfold deq at h; cases h)
theorem deqL_eq : ∀ x y : List D, deqL x y = true → x = y
  | [], y, h => by cases y with
    | nil => rfl
    | cons a b => unfold deqL at h; cases h
  | x :: xs, y, h => by cases y with
    | nil => unfold deqL at h; cases h
    | cons a b => unfold deqL at h; rw [Bool.and_eq_true] at h; rw [deq_eq x a h.1, deqL_eq xs b h.2]
end
mutual
theorem deq_self : ∀ x : D, deq x x = true
  | .non => rfl
  | .dic => rfl
  | .bl _ => by unfold deq; exact beq_self_eq_true _
  | .int _ => by unfold deq; exact beq_self_eq_true _
  | .str _ => by unfold deq; exact beq_self_eq_true _
  | .cell _ => by unfold deq; exact beq_self_eq_true _
  | .ty _ => by unfold deq; exact beq_self_eq_true _
  | .cls _ => by unfold deq; exact beq_self_eq_true _
  | .tup a => by unfold deq; exact deqL_self a
  | .lst a => by unfold deq; exact deqL_self a
  | .ins c a => by unfold deq; rw [deqL_self a, Bool.and_true]; exact beq_self_eq_true _
theorem deqL_self : ∀ x : List D, deqL x x = true
  | [] => rfl
  | x :: xs => by unfold deqL; rw [deq_self x, deqL_self xs]; rfl
end
def feq : List (Str × D) → List (Str × D) → Bool
  | [], [] => true
  | (f, x) :: xs, (g, y) :: ys => f == g && deq x y && feq xs ys
  | _, _ => false
theorem feq_eq : ∀ x y : List (Str × D), feq x y = true → x = y
  | [], y, h => by cases y with
    | nil => rfl
    | cons a b => unfold feq at h; cases h
  | (f, x) :: xs, y, h => by cases y with
    | nil => unfold feq at h; cases h
    | cons a b => obtain ⟨g, y⟩ := a; unfold feq at h; rw [Bool.and_eq_true, Bool.and_eq_true] at h; rw [eq_of_beq h.1.1, deq_eq x y h.1.2, feq_eq xs b h.2]
theorem feq_self : ∀ x : List (Str × D), feq x x = true
  | [] => rfl
  | (f, x) :: xs => by unfold feq; rw [deq_self x, feq_self xs, beq_self_eq_true]; rfl
def ceq : Cell → Cell → Bool
  | .lst a, .lst b => deqL a b
  | .obj c a, .obj d b => c == d && feq a b
  | _, _ => false
def ceqL : List Cell → List Cell → Bool
  | [], [] => true
  | x :: xs, y :: ys => ceq x y && ceqL xs ys
  | _, _ => false
theorem ceq_eq : ∀ x y : Cell, ceq x y = true → x = y
  | .lst a, y, h => by cases y with
    | lst b => unfold ceq at h; rw [deqL_eq a b h]
    | obj c b => unfold ceq at h; cases h
  | .obj c a, y, h => by cases y with
    | lst b => unfold ceq at h; cases h
    | obj d b => unfold ceq at h; rw [Bool.and_eq_true] at h; rw [eq_of_beq h.1, feq_eq a b h.2]
theorem ceq_self : ∀ x : Cell, ceq x x = true
  | .lst a => by unfold ceq; exact deqL_self a
  | .obj c a => by unfold ceq; dsimp only; rw [feq_self a, beq_self_eq_true]; rfl
theorem ceqL_eq : ∀ x y : List Cell, ceqL x y = true → x = y
  | [], y, h => by cases y with
    | nil => rfl
    | cons a b => unfold ceqL at h; cases h
  | x :: xs, y, h => by cases y with
    | nil => unfold ceqL at h; cases h
    | cons a b => unfold ceqL at h; rw [Bool.and_eq_true] at h; rw [ceq_eq x a h.1, ceqL_eq xs b h.2]
theorem ceqL_self : ∀ x : List Cell, ceqL x x = true
  | [] => rfl
  | x :: xs => by unfold ceqL; rw [ceq_self x, ceqL_self xs]; rfl

mutual
def D.bel (n : Nat) : D → Bool
  | .cell i => decide (i < n)
  | .tup ds => belL n ds
  | .lst ds => belL n ds
  | .ins _ ds => belL n ds
  | _ => true
def belL (n : Nat) : List D → Bool
  | [] => true
  | d :: ds => d.bel n && belL n ds
end
section
variable {K : PySem.W.Frag} {T : Tab} {G : Hp} {ρ ρ' : List Addr}
mutual
theorem Rep.less (p : ρ <+: ρ') : ∀ (d : D) (v : V), d.bel ρ.length = true → Rep K T G ρ' d v → Rep K T G ρ d v
  | .non, _, _, h => by unfold Rep at *; exact h
  | .bl _, _, _, h => by unfold Rep at *; exact h
  | .int _, _, _, h => by unfold Rep at *; exact h
  | .str _, _, _, h => by unfold Rep at *; exact h
  | .dic, _, _, h => by unfold Rep at *; exact h
  | .ty _, _, _, h => by unfold Rep at *; exact h
  | .cls _, _, _, h => by unfold Rep at *; exact h
  | .tup ds, _, b, h => by
    unfold D.bel at b
    unfold Rep at *
    obtain ⟨a, vs, e, s, r⟩ := h
    exact ⟨a, vs, e, s, RepL.less p ds vs b r⟩
  | .lst ds, _, b, h => by
    unfold D.bel at b
    unfold Rep at *
    obtain ⟨a, vs, e, s, r⟩ := h
    exact ⟨a, vs, e, s, RepL.less p ds vs b r⟩
  | .ins c ds, _, b, h => by
    unfold D.bel at b
    unfold Rep at *
    obtain ⟨a, dx, vs, e, s, l, r⟩ := h
    exact ⟨a, dx, vs, e, s, l, RepL.less p ds vs b r⟩
  | .cell i, _, b, h => by
    unfold D.bel at b
    unfold Rep at *
    obtain ⟨a, e, q⟩ := h
    obtain ⟨t, rfl⟩ := p
    rw [List.getElem?_append_left (of_decide_eq_true b)] at e
    exact ⟨a, e, q⟩
theorem RepL.less (p : ρ <+: ρ') : ∀ (ds : List D) (vs : List V), belL ρ.length ds = true → RepL K T G ρ' ds vs → RepL K T G ρ ds vs
  | [], _, _, h => by unfold RepL at *; exact h
  | d :: ds, _, b, h => by
    unfold belL at b
    rw [Bool.and_eq_true] at b
    unfold RepL at *
    obtain ⟨v, r, e, x, y⟩ := h
    exact ⟨v, r, e, Rep.less p d v b.1 x, RepL.less p ds r b.2 y⟩
end
end
mutual
theorem pl_bel (n : Nat) : ∀ d : D, d.pl = true → d.bel n = true
  | .non, _ => rfl
  | .bl _, _ => rfl
  | .int _, _ => rfl
  | .str _, _ => rfl
  | .dic, _ => rfl
  | .ty _, _ => rfl
  | .cls _, _ => rfl
  | .tup ds, h => by unfold D.bel; exact plL_bel n ds (by unfold D.pl at h; exact h)
  | .lst ds, h => by unfold D.bel; exact plL_bel n ds (by unfold D.pl at h; exact h)
  | .ins _ _, h => by simp [D.pl] at h
  | .cell _, h => by simp [D.pl] at h
theorem plL_bel (n : Nat) : ∀ d : List D, plL d = true → belL n d = true
  | [], _ => rfl
  | d :: ds, h => by unfold plL at h; rw [Bool.and_eq_true] at h; unfold belL; rw [pl_bel n d h.1, plL_bel n ds h.2]; rfl
end

section
variable {K : PySem.W.Frag} {T : Tab} {G : Hp} {ρ ρ' : List Addr}
mutual
theorem Rep.bel : ∀ (d : D) (v : V), Rep K T G ρ d v → d.bel ρ.length = true
  | .non, _, _ => rfl
  | .bl _, _, _ => rfl
  | .int _, _, _ => rfl
  | .str _, _, _ => rfl
  | .dic, _, _ => rfl
  | .ty _, _, _ => rfl
  | .cls _, _, _ => rfl
  | .tup ds, _, h => by unfold Rep at h; obtain ⟨a, vs, e, s, r⟩ := h; unfold D.bel; exact RepL.bel ds vs r
  | .lst ds, _, h => by unfold Rep at h; obtain ⟨a, vs, e, s, r⟩ := h; unfold D.bel; exact RepL.bel ds vs r
  | .ins c ds, _, h => by unfold Rep at h; obtain ⟨a, dx, vs, e, s, l, r⟩ := h; unfold D.bel; exact RepL.bel ds vs r
  | .cell i, _, h => by unfold Rep at h; obtain ⟨a, e, q⟩ := h; unfold D.bel; exact decide_eq_true (List.getElem?_eq_some_iff.mp e).1
theorem RepL.bel : ∀ (ds : List D) (vs : List V), RepL K T G ρ ds vs → belL ρ.length ds = true
  | [], _, _ => rfl
  | d :: ds, _, h => by obtain ⟨v, r, e, a, b⟩ := h.inv; unfold belL; rw [Rep.bel d v a, RepL.bel ds r b]; rfl
end
theorem RepF.bel : ∀ (fs : List (Str × D)) (vs : List (Str × V)), RepF K T G ρ fs vs → belL ρ.length (fs.map (·.2)) = true
  | [], _, _ => rfl
  | (n, d) :: fs, _, h => by unfold RepF at h; obtain ⟨v, r, e, a, b⟩ := h; show belL _ (d :: fs.map (·.2)) = true; unfold belL; rw [Rep.bel d v a, RepF.bel fs r b]; rfl
theorem RepF.less (p : ρ <+: ρ') : ∀ (fs : List (Str × D)) (vs : List (Str × V)), belL ρ.length (fs.map (·.2)) = true → RepF K T G ρ' fs vs → RepF K T G ρ fs vs
  | [], _, _, h => by unfold RepF at *; exact h
  | (n, d) :: fs, _, b, h => by
    rw [List.map_cons] at b
    unfold belL at b
    rw [Bool.and_eq_true] at b
    unfold RepF at *
    obtain ⟨v, r, e, x, y⟩ := h
    exact ⟨v, r, e, Rep.less p d v b.1 x, RepF.less p fs r b.2 y⟩
end

def putD (f : Str) (d : D) : List (Str × D) → List (Str × D)
  | [] => [(f, d)]
  | (g, x) :: r => if g = f then (g, d) :: r else (g, x) :: putD f d r
section
variable {K : PySem.W.Frag} {T : Tab} {G : Hp} {ρ : List Addr}
theorem RepF.put {f : Str} {d : D} {v : V} (h : Rep K T G ρ d v) : ∀ {fs : List (Str × D)} {vs : List (Str × V)}, RepF K T G ρ fs vs → RepF K T G ρ (putD f d fs) (putF f v vs)
  | [], _, q => by unfold RepF at q; subst q; unfold putD putF RepF; exact ⟨v, [], rfl, h, rfl⟩
  | (g, x) :: r, _, q => by
    unfold RepF at q
    obtain ⟨w, t, e, a, b⟩ := q
    subst e
    unfold putD putF
    by_cases hg : g = f
    · rw [if_pos hg, if_pos hg]
      unfold RepF
      exact ⟨v, t, rfl, h, b⟩
    · rw [if_neg hg, if_neg hg]
      unfold RepF
      exact ⟨w, _, rfl, a, RepF.put h b⟩
theorem RepF.look {f : Str} {d : D} : ∀ {fs : List (Str × D)} {vs : List (Str × V)}, RepF K T G ρ fs vs → fs.lookup f = some d → ∃ v, vs.lookup f = some v ∧ Rep K T G ρ d v
  | [], _, q, e => by cases e
  | (g, x) :: r, _, q, e => by
    unfold RepF at q
    obtain ⟨w, t, ev, a, b⟩ := q
    subst ev
    rw [List.lookup_cons] at e ⊢
    cases hb : f == g with
    | true => rw [hb] at e; cases e; exact ⟨w, rfl, a⟩
    | false => rw [hb] at e; exact RepF.look b e
theorem RepF.look0 {f : Str} : ∀ {fs : List (Str × D)} {vs : List (Str × V)}, RepF K T G ρ fs vs → fs.lookup f = none → vs.lookup f = none
  | [], _, q, e => by unfold RepF at q; subst q; rfl
  | (g, x) :: r, _, q, e => by
    unfold RepF at q
    obtain ⟨w, t, ev, a, b⟩ := q
    subst ev
    rw [List.lookup_cons] at e ⊢
    cases hb : f == g with
    | true => rw [hb] at e; cases e
    | false => rw [hb] at e; exact RepF.look0 b e
theorem RepF.len : ∀ {fs : List (Str × D)} {vs : List (Str × V)}, RepF K T G ρ fs vs → vs.length = fs.length
  | [], _, q => by unfold RepF at q; subst q; rfl
  | (g, x) :: r, _, q => by
    unfold RepF at q
    obtain ⟨w, t, ev, a, b⟩ := q
    subst ev
    rw [List.length_cons, List.length_cons, b.len]
theorem RepF.split : ∀ {fs : List (Str × D)} {vs : List (Str × V)}, RepF K T G ρ fs vs → ∃ ws, vs = (fs.map (·.1)).zip ws ∧ ws.length = fs.length ∧ RepL K T G ρ (fs.map (·.2)) ws
  | [], _, q => by unfold RepF at q; subst q; exact ⟨[], rfl, rfl, RepL.nil⟩
  | (g, x) :: r, _, q => by
    unfold RepF at q
    obtain ⟨w, t, ev, a, b⟩ := q
    obtain ⟨ws, e, l, rl⟩ := b.split
    subst ev e
    exact ⟨w :: ws, rfl, by simp [l], RepL.cons a rl⟩
theorem RepL.zip : ∀ {ns : List Str} {ds : List D} {vs : List V}, vs.length = ns.length → RepL K T G ρ ds vs → RepF K T G ρ (ns.zip ds) (ns.zip vs)
  | [], ds, vs, e, h => by simp only [List.zip_nil_left]; unfold RepF; rfl
  | n :: ns, [], vs, e, h => by rw [h.inv0] at e; cases e
  | n :: ns, d :: ds, vs, e, h => by
    obtain ⟨v, r, ev, a, b⟩ := h.inv
    subst ev
    rw [List.zip_cons_cons, List.zip_cons_cons]
    unfold RepF
    exact ⟨v, _, rfl, a, RepL.zip (by simpa using e) b⟩
end
def objOf (tb : TB) (st : List Cell) : D → Option (Nat × List (Str × D))
  | .ins c ds => some (c, (tb.fl c).zip ds)
  | .cell i => match st[i]? with
    | some (.obj c fs) => some (c, fs)
    | _ => none
  | _ => none
theorem AR.obj {K : PySem.W.Frag} {T : Tab} {E : En} {G : Hp} {ρ : List Addr} {a : AS} {σ : L2.St} {H : Hp} (r : AR K T E G ρ a σ H) {d : D} {c : Nat} {fs : List (Str × D)} {v : V} (h : objOf T.toTB a.st d = some (c, fs)) (q : Rep K T G ρ d v) :
    ∃ b dx fvs, v = .ref b ∧ H b = some (.ins (T.C c) dx fvs) ∧ RepF K T G ρ fs fvs := by
  unfold objOf at h
  split at h
  · cases h
    unfold Rep at q
    obtain ⟨b, dx, vs, e, hb, l, rl⟩ := q
    exact ⟨b, dx, _, e, r.sub _ _ hb, RepL.zip l rl⟩
  · rename_i i
    split at h
    · rename_i c' fs' e
      cases h
      unfold Rep at q
      obtain ⟨b, e1, e2⟩ := q
      obtain ⟨dx, fvs, hb, rf⟩ := r.cl i b _ e1 e
      exact ⟨b, dx, fvs, e2, hb, rf⟩
    · cases h
  · cases h
def fldM (tb : TB) (f : Str) (st : List Cell) (x : D) : Option D := (objOf tb st x).bind fun p => if (tb.ins p.1 && (tb.fl p.1).contains f) = true then p.2.lookup f else none
def attrM (tb : TB) (f : Str) (m : M D) : M D := bd m fun x => rdM fun st => fldM tb f st x
section
variable {X : Cx} {T : Tab} {W : WX}
theorem px_attr {tb : TB} {e : Expr} {f : Str} {m : M D} {pos : Pos} (F : Fx X.K T) (hT : T.toTB = tb) (he : PE X e (tE X.K T W m)) (hb : attributeBase e f X.env (eval e X.env) = eval e X.env := by rfl) : PE X (.Attribute e f pos) (tE X.K T W (attrM tb f m)) := by
  refine PE.imp (pe_fld he hb) fun σ H Q h => ?_
  refine tX.bind h fun E x a1 G1 ρ1 H1 v r1 q1 p1 => ?_
  subst hT
  unfold rdM fldM at p1
  dsimp only at p1
  cases e1 : objOf T.toTB a1.st x with
  | none => rw [e1] at p1; exact p1.elim
  | some p =>
    obtain ⟨c, fs⟩ := p
    rw [e1] at p1
    simp only [Option.bind_some] at p1
    split at p1
    · rename_i hc
      rw [Bool.and_eq_true] at hc
      cases e2 : fs.lookup f with
      | none => rw [e2] at p1; exact p1.elim
      | some d =>
        rw [e2] at p1
        obtain ⟨b, dx, fvs, ev, hb, rf⟩ := r1.obj e1 q1
        obtain ⟨w, hw, rw'⟩ := rf.look e2
        exact ⟨b, _, dx, fvs, w, ev, hb, (F.cls c hc.1).cl, F.na c f hc.1 (by simpa using hc.2), hw, Post.here p1 r1 rw'⟩
    · exact p1.elim
def putM (tb : TB) (f : Str) (mo m : M D) : M Fl := bd m fun d => bd mo fun o => fun a => match o with
  | .cell i => match a.st[i]? with
    | some (.obj c fs) => if (tb.ins c && (tb.fl c).contains f && decide (fs.length < 1000)) = true then .ok .nx { a with st := a.st.set i (.obj c (putD f d fs)) } else .stuck
    | _ => .stuck
  | _ => .stuck
theorem ps_put {tb : TB} {o e : Expr} {f : Str} {mo m : M D} {pos pos' : Pos} (F : Fx X.K T) (hT : T.toTB = tb) (ho : PE X o (tE X.K T W mo)) (he : PE X e (tE X.K T W m)) (hs : swapsWith e (some (.Attribute o f pos')) pos.line X.env = pure false := by rfl) :
    PS X (.Assign [.Attribute o f pos'] e pos) (tS X.K T W (putM tb f mo m)) := by
  refine PS.imp (ps_fld ho he hs) fun De σ H h => ?_
  subst hT
  refine tS.bind h fun E d a0 G0 ρ0 H0 v r0 q0 p => ?_
  refine ⟨E, G0, ρ0, a0, r0, PostS.bind p fun o a1 G1 ρ1 H1 w1 g1 l1 r1 q1 p1 => ?_⟩
  cases o with
  | cell i =>
    simp only at p1
    cases e3 : a1.st[i]? with
    | none => rw [e3] at p1; exact p1.elim
    | some c0 =>
      cases c0 with
      | lst ds => rw [e3] at p1; exact p1.elim
      | obj c fs =>
        rw [e3] at p1
        simp only at p1
        split at p1
        · rename_i hc
          rw [Bool.and_eq_true, Bool.and_eq_true] at hc
          unfold Rep at q1
          obtain ⟨b, hρ, ev⟩ := q1
          obtain ⟨dx, fvs, hb, rf⟩ := r1.cl i b _ hρ e3
          refine ⟨b, _, dx, fvs, ev, hb, (F.cls c hc.1.1).cl, F.na c f hc.1.1 (by simpa using hc.1.2), by rw [rf.len]; exact of_decide_eq_true hc.2, ?_⟩
          exact p1 G1 ρ1 σ _ Ge.rfl' (List.prefix_refl _) (r1.updCX e3 hρ ⟨dx, _, upd_same, rf.put (Rep.ge g1 l1 _ _ q0)⟩)
        · exact p1.elim
  | _ => exact p1.elim
end
section
variable {K : PySem.W.Frag} {T : Tab} {E : En} {G G' : Hp} {ρ ρ' : List Addr} {a : AS} {σ : L2.St} {H H' : Hp}
theorem AR.made (r : AR K T E G ρ a σ H) {c : Nat} {x dx : Addr} (hx : H x = none) (hd : H dx = none) (ne : dx ≠ x) :
    x ∉ ρ ∧ E.H0 x = none ∧ G x = none ∧ AR K T E G (ρ ++ [x]) { a with st := a.st ++ [.obj c []] } σ (upd (upd H dx (.own x)) x (.ins (T.C c) dx [])) := by
  have r1 := r.junk (o := .own x) hd
  have hx1 : (upd H dx (.own x)) x = none := by rw [upd_ne (Ne.symm ne)]; exact hx
  obtain ⟨h0, hG, hr⟩ := r1.fresh hx1
  have f := r1.freeOf hx1
  have r2 := r1.junk (o := .ins (T.C c) dx []) hx1
  exact ⟨hr, h0, hG, r2.newCellX f ⟨dx, [], upd_same, by unfold RepF; rfl⟩⟩
theorem AR.pop (r0 : AR K T E G ρ a σ H) {x : Addr} {c : Nat} {fs : List (Str × D)} {st1 : List Cell} (hx : H x = none) (hf : x ∉ ρ ∧ E.H0 x = none ∧ G x = none) (g : Ge G G') (l : ρ ++ [x] <+: ρ')
    (r : AR K T E G' ρ' { a with st := st1 } σ H') (hst : st1 = a.st ++ [.obj c fs]) (hn : fs.map (·.1) = T.fl c) (hb : belL ρ.length (fs.map (·.2)) = true) :
    ∃ o, H' x = some o ∧ Ge G (upd G' x o) ∧ AR K T E (upd G' x o) ρ a σ H' ∧ Rep K T (upd G' x o) ρ (.ins c (fs.map (·.2))) (.ref x) := by
  have hl : ρ' = ρ ++ [x] := by
    obtain ⟨t, ht⟩ := l
    have e1 := r.clen
    have e2 := r0.clen
    rw [hst] at e1
    rw [← ht] at e1
    simp at e1
    have : t = [] := List.eq_nil_of_length_eq_zero (by omega)
    rw [← ht, this, List.append_nil]
  subst hl
  obtain ⟨hf1, hf2, hf3⟩ := hf
  have hlast : (ρ ++ [x])[ρ.length]? = some x := by rw [List.getElem?_append_right (Nat.le_refl _)]; simp
  have hst' : st1[ρ.length]? = some (.obj c fs) := by rw [hst, ← r0.clen, List.getElem?_append_right (Nat.le_refl _)]; simp
  obtain ⟨dx, fvs, hb', rf⟩ := r.cl ρ.length x _ hlast hst'
  refine ⟨_, hb', ?_⟩
  have hG' : G' x = none := r.cG x (by simp)
  have pr : ρ <+: ρ ++ [x] := List.prefix_append _ _
  have g1 : Ge G' (upd G' x (.ins (T.C c) dx fvs)) := Ge.upd hG'
  have g2 := g.trans g1
  have hold : ∀ {b : Addr} {o : HO}, H b = some o → b ≠ x := fun {b o} e z => by rw [z, hx] at e; cases e
  obtain ⟨ws, ew, lw, rl⟩ := rf.split
  refine ⟨g2, ⟨fun b u e => ?_, r0.len, fun i s v e1 e2 => ?_, r0.nd, r0.clen, fun i b k e1 e2 => ?_, r0.cnd, fun b hb => ?_, r.fr, fun b u e => ?_, fun b u e => g1 b u (r.gext b u e), r0.rext, r0.rnew, fun b e => ?_⟩, ?_⟩
  · by_cases z : b = x
    · subst z; rw [upd_same] at e; cases e; exact hb'
    · rw [upd_ne z] at e; exact r.sub b u e
  · have z0 := r0.sl i s v e1 e2
    have z := r.sl i s v e1 e2
    cases s with
    | emp => trivial
    | val d => obtain ⟨y, e, q⟩ := z0; exact ⟨y, e, Rep.ge g2 (List.prefix_refl _) _ _ q⟩
    | own ds =>
      obtain ⟨b, vs, e, hH, q, y1, y2, y3⟩ := z
      obtain ⟨b', vs', e', hH', q', y1', y2', y3'⟩ := z0
      rw [e] at e'
      cases e'
      exact ⟨b, vs, e, hH, RepL.ge g1 (List.prefix_refl _) _ _ (RepL.less pr _ _ (RepL.bel _ _ q') q), by rw [upd_ne (hold hH')]; exact y1, y2', y3⟩
    | obj k gs =>
      obtain ⟨b, dx', gvs, e, hH, q, y3⟩ := z
      obtain ⟨b', dx'', gvs', e', hH', q', y3'⟩ := z0
      exact ⟨b, dx', gvs, e, hH, RepF.ge g1 (List.prefix_refl _) _ _ (RepF.less pr _ _ (RepF.bel _ _ q') q), y3⟩
  · have z0 := r0.cl i b k e1 e2
    have li : i < ρ.length := (List.getElem?_eq_some_iff.mp e1).1
    have z := r.cl i b k (by rw [List.getElem?_append_left li]; exact e1) (by show st1[i]? = _; rw [hst, List.getElem?_append_left (by rw [r0.clen]; exact li)]; exact e2)
    cases k with
    | lst ds =>
      obtain ⟨vs, hH, q⟩ := z
      obtain ⟨vs', hH', q'⟩ := z0
      exact ⟨vs, hH, RepL.ge g1 (List.prefix_refl _) _ _ (RepL.less pr _ _ (RepL.bel _ _ q') q)⟩
    | obj c fs =>
      obtain ⟨dy, vs, hH, q⟩ := z
      obtain ⟨dy', vs', hH', q'⟩ := z0
      exact ⟨dy, vs, hH, RepF.ge g1 (List.prefix_refl _) _ _ (RepF.less pr _ _ (RepF.bel _ _ q') q)⟩
  · have nb : b ≠ x := fun z => hf1 (z ▸ hb)
    rw [upd_ne nb]; exact r.cG b (by simp [hb])
  · by_cases z : b = x
    · subst z; exact .inr hf2
    · rw [upd_ne z] at e; exact r.gnew b u e
  · obtain ⟨q1, q2, q3, q4⟩ := r.sfH b e
    have nb : b ≠ x := fun z => q4 (by simp [z])
    exact ⟨q1, q2, by rw [upd_ne nb]; exact q3, fun z => q4 (by simp [z])⟩
  · unfold Rep
    refine ⟨x, dx, ws, rfl, by rw [upd_same, ew, hn], by rw [lw, ← hn, List.length_map], ?_⟩
    exact RepL.ge g1 (List.prefix_refl _) _ _ (RepL.less pr _ _ hb rl)
end
def mkC (c np : Nat) (f : FD) (ds : List D) : M D := fun a => if ds.length + 1 = np then (match f (.cell a.st.length :: ds) (a.st ++ [.obj c []]) with
  | .ok .non a' => .ok (.cell a.st.length) { a with st := a'.st }
  | .exc k fs a' => .exc k fs { a with st := a'.st }
  | _ => .stuck) else .stuck
def popO (tb : TB) (c : Nat) (st st1 : List Cell) : Option (List D) := match st1[st.length]? with
  | some (.obj k fs) => if (k == c && ceqL st1 (st ++ [.obj c fs]) && (fs.map (·.1) == tb.fl c) && belL st.length (fs.map (·.2))) = true then some (fs.map (·.2)) else none
  | _ => none
def mkI (tb : TB) (c np : Nat) (f : FD) (ds : List D) : M D := fun a => (mkC c np f ds a).bind fun _ a1 => match popO tb c a.st a1.st with
  | some ds => .ok (.ins c ds) a
  | none => .stuck
section
variable {X : Cx} {T : Tab} {W : WX}
theorem run_makeS {CX : CXT} {k : Nat} {f C : Addr} {fd : FuncData} {ps ks : List Str} {sp : Sp} {Ex : XK} {n : Nat} {g : List Value → List Value → List Value} {gV : List V → List V → List V}
    {pins : List (Addr × Obj)} {σ : L2.St} {H : Hp} {s : Shared} {Q : VK} {us ws : List Value} {vs zs : List V} (M : Mk X.K C f) (F : FnOk X.prog X.w X.K X.mg X.base CX k f fd ps sp) (hr : Room (k + 1) X.A) (hb : KBn X.K fd ps (n + 1) ks g gV) (hx : PassesAt CX X σ Ex)
    (I : Inv X pins σ H s) (r : Vals vs us) (rz : Vals zs ws) (l1 : vs.length = n) (l2 : zs.length = ks.length)
    (h : ∀ x dx, H x = none → H dx = none → dx ≠ x → sp (gV (.ref x :: vs) zs) (upd (upd H dx (.own x)) x (.ins C dx [])) (fun v H2 => v = .non ∧ Q (.ref x) H2) Ex) :
    wpAny (model X.prog X.w) X.A (call (.ref C) us (ks.zip ws)) (EP X pins σ Q) X.xe s := by
  have hq := h (s.heap.objs.size + 1) s.heap.objs.size (I.hok.fresh (Nat.le_succ _)) (I.hok.fresh (Nat.le_refl _)) (Nat.ne_of_lt (Nat.lt_succ_self _))
  have I2 := Inv.made (C := C) I
  have r1 : Vals (V.ref (s.heap.objs.size + 1) :: vs) (Value.ref (s.heap.objs.size + 1) :: us) := .cons rfl r
  have r2 := hb.rel r1 rz
  have n1 : (Value.ref (s.heap.objs.size + 1) :: us).length = n + 1 := by
    rw [List.length_cons, ← r.length, l1]
  refine wpAny_call (make_map (f := f) I.kIn M.makes M.init (beq_iff_eq.mp M.fn) (codeAny_mono (F.run _ X.stack _ _ ⟨Value.ref (s.heap.objs.size + 1) :: us, ks.zip ws⟩ (g (Value.ref (s.heap.objs.size + 1) :: us) ws) _ _ Ex (hr.make C us (ks.zip ws))
    (I2.env0.make C us (ks.zip ws)) (hb.to _ (Value.ref (s.heap.objs.size + 1) :: us) ws I2.kIn n1 (rz.length.symm.trans l2)) r2 hq) fun r s' hq' => ?_))
  cases r with
  | error e => exact hx pins _ _ e s' I2 hq'
  | ok fl =>
    cases fl with
    | ret u =>
      obtain ⟨v, H', I3, rv, ev, q3⟩ := I2.after hq'
      subst ev
      exact ⟨rv, ⟨V.ref (s.heap.objs.size + 1), H', I3, rfl, q3⟩⟩
    | next => exact False.elim hq'
    | brk => exact False.elim hq'
    | cont => exact False.elim hq'
theorem mkC_read {E : En} {σ : L2.St} {G : Hp} {ρ : List Addr} {a : AS} {H : Hp} {c np : Nat} {f : FD} {ds : List D} {vs : List V} {Q : VK} (r : AR X.K T E G ρ a σ H) (q : RepL X.K T G ρ ds vs) (p : Post X.K T W E σ G ρ (Rep X.K T) (mkC c np f ds a) Q)
    {x dx : Addr} (hx : H x = none) (hd : H dx = none) (ne : dx ≠ x) : spM X.K T np f (.ref x :: vs) (upd (upd H dx (.own x)) x (.ins (T.C c) dx [])) (fun v H2 => v = .non ∧ Q (.ref x) H2) (fun cls d H' => W cls d σ H') := by
  obtain ⟨hf1, hf2, hf3, r1⟩ := r.made (c := c) hx hd ne
  unfold mkC at p
  split at p
  · rename_i hl
    have hlast : (ρ ++ [x])[a.st.length]? = some x := by rw [r.clen, List.getElem?_append_right (Nat.le_refl _)]; simp
    refine ⟨G, ρ ++ [x], .cell a.st.length :: ds, a.st ++ [.obj c []], r1.st, RepL.cons (by unfold Rep; exact ⟨x, hlast, rfl⟩) (RepL.ge Ge.rfl' (List.prefix_append _ _) _ _ q), hl, ?_⟩
    cases e : f (.cell a.st.length :: ds) (a.st ++ [.obj c []]) with
    | stuck => rw [e] at p; exact p.elim
    | exc k fs a1 => rw [e] at p; exact fun G1 ρ1 H1 v h1 q1 => p G1 ρ1 H1 v h1.g ((List.prefix_append _ _).trans h1.l) (r1.after h1) q1
    | ok d a1 =>
      rw [e] at p
      cases d with
      | non =>
        refine fun G1 ρ1 H1 v h1 q1 => ?_
        unfold Rep at q1
        refine ⟨q1, p G1 ρ1 H1 (.ref x) h1.g ((List.prefix_append _ _).trans h1.l) (r1.after h1) ?_⟩
        unfold Rep
        exact ⟨x, pre_get h1.l hlast, rfl⟩
      | _ => exact p.elim
  · exact p.elim
theorem mkI_read {E : En} {σ : L2.St} {G : Hp} {ρ : List Addr} {a : AS} {H : Hp} {c np : Nat} {f : FD} {ds : List D} {vs : List V} {Q : VK} (r : AR X.K T E G ρ a σ H) (q : RepL X.K T G ρ ds vs) (p : Post X.K T W E σ G ρ (Rep X.K T) (mkI T.toTB c np f ds a) Q)
    {x dx : Addr} (hx : H x = none) (hd : H dx = none) (ne : dx ≠ x) : spM X.K T np f (.ref x :: vs) (upd (upd H dx (.own x)) x (.ins (T.C c) dx [])) (fun v H2 => v = .non ∧ Q (.ref x) H2) (fun cls d H' => W cls d σ H') := by
  obtain ⟨hf1, hf2, hf3, r1⟩ := r.made (c := c) hx hd ne
  unfold mkI mkC at p
  split at p
  · rename_i hl
    have hlast : (ρ ++ [x])[a.st.length]? = some x := by rw [r.clen, List.getElem?_append_right (Nat.le_refl _)]; simp
    refine ⟨G, ρ ++ [x], .cell a.st.length :: ds, a.st ++ [.obj c []], r1.st, RepL.cons (by unfold Rep; exact ⟨x, hlast, rfl⟩) (RepL.ge Ge.rfl' (List.prefix_append _ _) _ _ q), hl, ?_⟩
    cases e : f (.cell a.st.length :: ds) (a.st ++ [.obj c []]) with
    | stuck => rw [e] at p; exact p.elim
    | exc k fs a1 => rw [e] at p; exact fun G1 ρ1 H1 v h1 q1 => p G1 ρ1 H1 v h1.g ((List.prefix_append _ _).trans h1.l) (r1.after h1) q1
    | ok d a1 =>
      rw [e] at p
      cases d with
      | non =>
        refine fun G1 ρ1 H1 v h1 q1 => ?_
        unfold Rep at q1
        refine ⟨q1, ?_⟩
        dsimp only [bind_ok] at p
        unfold popO at p
        split at p
        · rename_i ds' ed
          split at ed
          · rename_i k fs est
            split at ed
            · rename_i hc
              rw [Bool.and_eq_true, Bool.and_eq_true, Bool.and_eq_true] at hc
              obtain ⟨⟨⟨c1, c2⟩, c3⟩, c4⟩ := hc
              cases ed
              obtain ⟨o, hH, g2, r2, rr⟩ := r.pop hx ⟨hf1, hf2, hf3⟩ h1.g h1.l (r1.after h1) (ceqL_eq _ _ c2) (eq_of_beq c3) (by rw [← r.clen]; exact c4)
              exact p _ ρ H1 (.ref x) g2 (List.prefix_refl _) r2 rr
            · cases ed
          · cases ed
        · exact p.elim
      | _ => exact p.elim
  · exact p.elim
end

inductive Src where
  | p (i : Nat) | d (i : Nat) | m (i : Nat) | k (i : Nat)
def Src.get {α : Type} (us its mv ws : List α) : Src → List α
  | .p i => (us.drop i).take 1
  | .d i => (its.drop i).take 1
  | .m i => (mv.drop i).take 1
  | .k i => (ws.drop i).take 1
def arr {α : Type} (ss : List Src) (us its mv ws : List α) : List α := match ss with
  | [] => []
  | s :: ss => s.get us its mv ws ++ arr ss us its mv ws
theorem vals_arr {vs ds mz zs : List V} {us its mv ws : List Value} (a : Vals vs us) (b : Vals ds its) (c : Vals mz mv) (d : Vals zs ws) : ∀ ss : List Src, Vals (arr ss vs ds mz zs) (arr ss us its mv ws)
  | [] => .nil
  | s :: ss => by
    unfold arr
    refine Vals.append ?_ (vals_arr a b c d ss)
    cases s with
    | p i => exact Vals.take 1 (Vals.drop i a)
    | d i => exact Vals.take 1 (Vals.drop i b)
    | m i => exact Vals.take 1 (Vals.drop i c)
    | k i => exact Vals.take 1 (Vals.drop i d)
theorem repL_arr {K : PySem.W.Frag} {T : Tab} {G : Hp} {ρ : List Addr} {vs ds mz zs : List V} {us its mv ws : List D} (a : RepL K T G ρ us vs) (b : RepL K T G ρ its ds) (c : RepL K T G ρ mv mz) (d : RepL K T G ρ ws zs) : ∀ ss : List Src, RepL K T G ρ (arr ss us its mv ws) (arr ss vs ds mz zs)
  | [] => RepL.nil
  | s :: ss => by
    unfold arr
    refine RepL.app ?_ (repL_arr a b c d ss)
    cases s with
    | p i => exact (a.drop i).take 1
    | d i => exact (b.drop i).take 1
    | m i => exact (c.drop i).take 1
    | k i => exact (d.drop i).take 1
structure KB (K : PySem.W.Frag) (T : Tab) (fd : FuncData) (ps : List Str) (n : Nat) (ks : List Str) (ar : List D → List D → List D) : Prop where
  ex : ∃ (gA : List Value → List Value → List Value) (gV : List V → List V → List V), KBn K fd ps (n + 1) ks gA gV ∧ ∀ (G : Hp) (ρ : List Addr) (x : V) (ds zs : List D) (vs ws : List V), RepL K T G ρ ds vs → RepL K T G ρ zs ws → ∃ rest, gV (x :: vs) ws = x :: rest ∧ RepL K T G ρ (ar ds zs) rest
structure KBf (K : PySem.W.Frag) (T : Tab) (fd : FuncData) (ps : List Str) (n : Nat) (ks : List Str) (ar : List D → List D → List D) : Prop where
  ex : ∃ (gA : List Value → List Value → List Value) (gV : List V → List V → List V), KBn K fd ps n ks gA gV ∧ ∀ (G : Hp) (ρ : List Addr) (ds zs : List D) (vs ws : List V), RepL K T G ρ ds vs → RepL K T G ρ zs ws → RepL K T G ρ (ar ds zs) (gV vs ws)
section
variable {K : PySem.W.Frag} {T : Tab} {x qual : Str} {params : Arguments} {body : List Stmt} {scope : Scope} {dvs : List V} {kws : List (Str × V)} {f : Addr} {fd : FuncData} {ps : List Str}
abbrev gSelf (ss : List Src) {α : Type} (us its mv ws : List α) : List α := us.take 1 ++ arr ss (us.drop 1) its mv ws
theorem gSelf_rel (ss : List Src) {vs ds mz zs : List V} {us its mv ws : List Value} (a : Vals vs us) (b : Vals ds its) (c : Vals mz mv) (d : Vals zs ws) : Vals (gSelf ss vs ds mz zs) (gSelf ss us its mv ws) :=
  Vals.append (Vals.take 1 a) (vals_arr (Vals.drop 1 a) b c d ss)
theorem kb_both (F : FunD K x qual params body scope dvs kws f fd) (n : Nat) (ks : List Str) (ms : List (Str × V)) (ss : List Src) (dds mds : List D) (hd : dvs ≠ []) (hk : kws ≠ []) (hms : ∀ q ∈ ms, q ∈ kws) (hdd : ∀ G ρ, RepL K T G ρ dds dvs) (hmd : ∀ G ρ, RepL K T G ρ mds (ms.map (·.2)))
    (h : ∀ (Ta Da : Addr) (doc pm : Value) (an : Option Addr) (cdv ct : Value) (us its mv ws : List Value), us.length = n + 1 → its.length = dvs.length → mv.length = ms.length → ws.length = ks.length →
      ∃ k, bindArgs (PySem.W.fnOf x qual params body scope (.ref Ta) (.ref Da) doc pm an cdv ct) ⟨us, ks.zip ws⟩ = seqItems? (.ref Ta) >>= k ∧ KwChain Da ((ms.map (·.1)).zip mv) (k (some its.toArray)) (ps.zip (gSelf ss us its mv ws))) :
    KB K T fd ps n ks (fun ds zs => arr ss ds dds mds zs) := by
  obtain ⟨its, mv, B⟩ := FunD.kbinds F (n + 1) ks ms (fun us its mv ws => gSelf ss us its mv ws) hd hk hms (gSelf_rel ss) h
  exact ⟨_, _, B, fun G ρ x ds zs vs ws r1 r2 => ⟨_, rfl, repL_arr r1 (hdd G ρ) (hmd G ρ) r2 ss⟩⟩
theorem kb_kwo (F : FunD K x qual params body scope [] kws f fd) (n : Nat) (ks : List Str) (ms : List (Str × V)) (ss : List Src) (mds : List D) (hk : kws ≠ []) (hms : ∀ q ∈ ms, q ∈ kws) (hmd : ∀ G ρ, RepL K T G ρ mds (ms.map (·.2)))
    (h : ∀ (Da : Addr) (doc pm : Value) (an : Option Addr) (cdv ct : Value) (us mv ws : List Value), us.length = n + 1 → mv.length = ms.length → ws.length = ks.length →
      KwChain Da ((ms.map (·.1)).zip mv) (bindArgs (PySem.W.fnOf x qual params body scope .none (.ref Da) doc pm an cdv ct) ⟨us, ks.zip ws⟩) (ps.zip (gSelf ss us [] mv ws))) :
    KB K T fd ps n ks (fun ds zs => arr ss ds [] mds zs) := by
  obtain ⟨mv, B⟩ := FunD.kbinds0 F (n + 1) ks ms (fun us mv ws => gSelf ss us [] mv ws) hk hms (fun a c d => gSelf_rel ss a .nil c d) h
  exact ⟨_, _, B, fun G ρ x ds zs vs ws r1 r2 => ⟨_, rfl, repL_arr r1 RepL.nil (hmd G ρ) r2 ss⟩⟩
theorem kb_def (F : FunD K x qual params body scope dvs kws f fd) (n : Nat) (ks : List Str) (ss : List Src) (dds : List D) (hd : dvs ≠ []) (hdd : ∀ G ρ, RepL K T G ρ dds dvs)
    (h : ∀ (Ta : Addr) (kV doc pm : Value) (an : Option Addr) (cdv ct : Value) (us its ws : List Value), us.length = n + 1 → its.length = dvs.length → ws.length = ks.length →
      ∃ k, bindArgs (PySem.W.fnOf x qual params body scope (.ref Ta) kV doc pm an cdv ct) ⟨us, ks.zip ws⟩ = seqItems? (.ref Ta) >>= k ∧ k (some its.toArray) = pure (ps.zip (gSelf ss us its [] ws))) :
    KB K T fd ps n ks (fun ds zs => arr ss ds dds [] zs) := by
  obtain ⟨its, B⟩ := FunD.kbindsD F (n + 1) ks (fun us its ws => gSelf ss us its [] ws) hd (fun a b d => gSelf_rel ss a b .nil d) h
  exact ⟨_, _, B, fun G ρ x ds zs vs ws r1 r2 => ⟨_, rfl, repL_arr r1 (hdd G ρ) RepL.nil r2 ss⟩⟩
theorem kb_pos {p : Str} (F : FunD K x qual params body scope [] kws f fd) (h : ∀ (kV doc pm : Value) (an : Option Addr) (cdv ct : Value) (us : List Value), us.length = (p :: ps).length → bindArgs (PySem.W.fnOf x qual params body scope .none kV doc pm an cdv ct) ⟨us, []⟩ = pure ((p :: ps).zip us)) :
    KB K T fd (p :: ps) ps.length [] (fun ds _ => ds) :=
  ⟨fun us _ => us, fun vs _ => vs, ⟨fun s us ws X l1 l2 => by
    have : ws = [] := List.eq_nil_of_length_eq_zero (by simpa using l2)
    subst this
    exact FunD.bindsA F h s us (by simpa using l1), fun r1 _ => r1⟩, fun G ρ x ds zs vs ws r1 r2 => ⟨vs, rfl, r1⟩⟩
end
section
variable {X : Cx} {T : Tab} {W : WX}
def MkR (X : Cx) (T : Tab) (W : WX) (c np : Nat) (f : FD) (mk : List D → M D) : Prop := ∀ {E : En} {σ : L2.St} {G : Hp} {ρ : List Addr} {a : AS} {H : Hp} {ds : List D} {vs : List V} {Q : VK}, AR X.K T E G ρ a σ H → RepL X.K T G ρ ds vs → Post X.K T W E σ G ρ (Rep X.K T) (mk ds a) Q →
  ∀ {x dx : Addr}, H x = none → H dx = none → dx ≠ x → spM X.K T np f (.ref x :: vs) (upd (upd H dx (.own x)) x (.ins (T.C c) dx [])) (fun v H2 => v = .non ∧ Q (.ref x) H2) (fun cls d H' => W cls d σ H')
theorem mkr_C {c np : Nat} {f : FD} : MkR X T W c np f (mkC c np f) := fun r q p => mkC_read r q p
theorem mkr_I {tb : TB} {c np : Nat} {f : FD} (hT : T.toTB = tb) : MkR X T W c np f (mkI tb c np f) := by subst hT; exact fun r q p => mkI_read r q p
def makeM (n m : Nat) (ar : List D → List D → List D) (mk : List D → M D) (ms mk2 : M (List D)) : M D := bd ms fun ds => bd mk2 fun zs => if (ds.length == n && zs.length == m) = true then mk (ar ds zs) else no
theorem make_end {k n np c : Nat} {f : Addr} {fd : FuncData} {ps ks : List Str} {g : FD} {ar : List D → List D → List D} {mk : List D → M D} {E : En} {σ : L2.St} {G : Hp} {ρ : List Addr} {a : AS} {pins : List (Addr × Obj)} {H : Hp} {s : Shared} {Q : VK} {us ws : List Value} {vs zs : List V} {ds es : List D}
    (Mc : Mk X.K (T.C c) f) (F : FnOk X.prog X.w X.K X.mg X.base (CX X.prog X.w) k f fd ps (spM X.K T np g)) (hr : Room (k + 1) X.A) (hb : KB X.K T fd ps n ks ar) (hm : MkR X T W c np g mk) (tk : Takes X W) (I : Inv X pins σ H s) (r1 : Vals vs us) (r2 : Vals zs ws)
    (r : AR X.K T E G ρ a σ H) (q1 : RepL X.K T G ρ ds vs) (q2 : RepL X.K T G ρ es zs) (p : Post X.K T W E σ G ρ (Rep X.K T) ((if (ds.length == n && es.length == ks.length) = true then mk (ar ds es) else no) a) Q) :
    wpAny (model X.prog X.w) X.A (call (.ref (T.C c)) us (ks.zip ws)) (EP X pins σ Q) X.xe s := by
  obtain ⟨gA, gV, B, hv⟩ := hb.ex
  split at p
  · rename_i hl
    rw [Bool.and_eq_true, beq_iff_eq, beq_iff_eq] at hl
    refine run_makeS (Ex := fun cls d H' => W cls d σ H') Mc F hr B (passAt tk σ) I r1 r2 (by rw [q1.len, hl.1]) (by rw [q2.len, hl.2]) fun x dx hx hd ne => ?_
    obtain ⟨rest, e, rl⟩ := hv G ρ (.ref x) ds es vs zs q1 q2
    rw [e]
    exact hm r rl p hx hd ne
  · exact p.elim
end
end PL

namespace PL
open PySem PySem.Spec PyProof.Rows L2

section
variable {X : Cx} {T : Tab} {W : WX} {k n np c : Nat} {f : Addr} {fd : FuncData} {ps ks : List Str} {g : FD} {ar : List D → List D → List D} {mk : List D → M D} {x : Str} {p pos : Pos} {e : Expr} {es : List Expr} {kws : List Keyword} {ms mk2 : M (List D)}
abbrev PKD (X : Cx) (T : Tab) (W : WX) (kws : List Keyword) (m : M (List D)) : Prop := PK X kws (tA X.K T W m)
theorem PK.imp {kws : List Keyword} {t t' : TA} (h : PK X kws t) (i : ∀ σ H Q, t' σ H Q → t σ H Q) : PK X kws t' := ⟨fun pos pins s σ H Q I q => h.run pos pins s σ H Q I (i σ H Q q)⟩
theorem pk_nilD : PKD X T W [] nilM := PK.imp pk_nil fun σ H Q ⟨E, G, ρ, a, r, p⟩ => Post.here p r RepL.nil
theorem pk_consD {nm : Option Str} {e : Expr} {kws : List Keyword} {kpos : Pos} {m : M D} {ms : M (List D)} (h : PE X e (tE X.K T W m)) (t : PKD X T W kws ms) : PKD X T W (⟨nm, e, kpos⟩ :: kws) (consM m ms) := by
  refine PK.imp (pk_cons h t) fun σ H Q h => ?_
  refine tX.bind h fun E x a1 G1 ρ1 H1 v r1 q1 p1 => ?_
  refine ⟨E, G1, ρ1, a1, r1, Post.bind p1 fun xs a2 G2 ρ2 H2 vs g2 l2 r2 q2 p2 => ?_⟩
  exact Post.here p2 r2 (RepL.cons (Rep.ge g2 l2 _ _ q1) q2)

theorem px_makeK (Mc : Mk X.K (T.C c) f) (F : FnOk X.prog X.w X.K X.mg X.base (CX X.prog X.w) k f fd ps (spM X.K T np g)) (hr : Room (k + 1) X.A) (hm : X.mg x = some (.ref (T.C c))) (hb : KB X.K T fd ps n ks ar) (hk : MkR X T W c np g mk) (tk : Takes X W)
    (ha : PA X (e :: es) (tA X.K T W ms)) (hkw : PKD X T W kws mk2) (hg : Gl X x := by rfl)
    (hall : (backToKw pos (keywordEach kws X.env)).all (·.1.isSome) = true := by rfl) (hks : (backToKw pos (keywordEach kws X.env)).filterMap (·.1) = ks := by rfl) (hdb : (x == ("__debug__" : Str)) = false := by decide)
    (he : starEach (e :: es) X.env = (false, eval e X.env) :: starEach es X.env := by rfl) (hpl : ((backTo pos (starEach (e :: es) X.env)).any (·.1) || (backToKw pos (keywordEach kws X.env)).any (·.1.isNone)) = false := by rfl) :
    PE X (.Call (.Name x p) (e :: es) kws pos) (tE X.K T W (makeM n ks.length ar mk ms mk2)) := by
  refine ⟨fun pins s σ H Q I h => ?_⟩
  refine wpAny_Call_Name_kw (ld_glob I hg hm ?_ hdb)
  refine PySem.W.callWith_KW (h₀ := X.base) I.ok.mod.kin Mc.kp hall (thn (ha.run pos pins s σ H (fun vs H1 => tX X.K T W (RepL X.K T) mk2 σ H1 fun zs H2 => ∃ E G ρ a ds es, AR X.K T E G ρ a σ H2 ∧ RepL X.K T G ρ ds vs ∧ RepL X.K T G ρ es zs ∧ Post X.K T W E σ G ρ (Rep X.K T) ((if (ds.length == n && es.length == ks.length) = true then mk (ar ds es) else no) a) Q) I ?_) fun us s1 ⟨vs, H1, I1, r, q⟩ => ?_) hpl he
  · refine tX.bind h fun E ds a1 G1 ρ1 H1 vs r1 q1 p1 => ?_
    refine ⟨E, G1, ρ1, a1, r1, Post.bind p1 fun es a2 G2 ρ2 H2 zs g2 l2 r2 q2 p2 => ?_⟩
    exact ⟨E, G2, ρ2, a2, ds, es, r2, RepL.ge g2 l2 _ _ q1, q2, p2⟩
  · refine thn (hkw.run pos pins s1 σ H1 _ I1 q) fun ws s2 ⟨zs, H2, I2, rz, E, G, ρ, a, ds, es, r2, q1, q2, p2⟩ => ⟨I2.kIn, ?_⟩
    rw [hks]
    exact make_end Mc F hr hb hk tk I2 r rz r2 q1 q2 p2
theorem px_makeK0 (Mc : Mk X.K (T.C c) f) (F : FnOk X.prog X.w X.K X.mg X.base (CX X.prog X.w) k f fd ps (spM X.K T np g)) (hr : Room (k + 1) X.A) (hm : X.mg x = some (.ref (T.C c))) (hb : KB X.K T fd ps n ks ar) (hk : MkR X T W c np g mk) (tk : Takes X W)
    (hkw : PKD X T W kws mk2) (hg : Gl X x := by rfl)
    (hall : (backToKw pos (keywordEach kws X.env)).all (·.1.isSome) = true := by rfl) (hks : (backToKw pos (keywordEach kws X.env)).filterMap (·.1) = ks := by rfl) (hdb : (x == ("__debug__" : Str)) = false := by decide)
    (hpl : ((backTo pos (starEach [] X.env)).any (·.1) || (backToKw pos (keywordEach kws X.env)).any (·.1.isNone)) = false := by rfl) :
    PE X (.Call (.Name x p) [] kws pos) (tE X.K T W (makeM n ks.length ar mk nilM mk2)) := by
  refine ⟨fun pins s σ H Q I h => ?_⟩
  refine wpAny_Call_Name_kw (ld_glob I hg hm ?_ hdb)
  refine PySem.W.callWith_KW0 (h₀ := X.base) I.ok.mod.kin Mc.kp hall ?_ hpl
  refine thn (hkw.run pos pins s σ H (fun zs H2 => ∃ E G ρ a es, AR X.K T E G ρ a σ H2 ∧ RepL X.K T G ρ es zs ∧ Post X.K T W E σ G ρ (Rep X.K T) ((if (([] : List D).length == n && es.length == ks.length) = true then mk (ar [] es) else no) a) Q) I ?_) fun ws s2 ⟨zs, H2, I2, rz, E, G, ρ, a, es, r2, q2, p2⟩ => ⟨I2.kIn, ?_⟩
  · refine tX.bind (f := fun es => if (([] : List D).length == n && es.length == ks.length) = true then mk (ar [] es) else no) h fun E es a2 G2 ρ2 H2 zs r2 q2 p2 => ?_
    exact ⟨E, G2, ρ2, a2, es, r2, q2, p2⟩
  · rw [hks]
    exact make_end (us := []) (vs := []) (ds := []) Mc F hr hb hk tk I2 .nil rz r2 RepL.nil q2 p2
theorem px_makeP (Mc : Mk X.K (T.C c) f) (F : FnOk X.prog X.w X.K X.mg X.base (CX X.prog X.w) k f fd ps (spM X.K T np g)) (hr : Room (k + 1) X.A) (hm : X.mg x = some (.ref (T.C c))) (hb : KB X.K T fd ps n [] ar) (hk : MkR X T W c np g mk) (tk : Takes X W)
    (ha : PA X (e :: es) (tA X.K T W ms)) (hg : Gl X x := by rfl) (hdb : (x == ("__debug__" : Str)) = false := by decide)
    (he : starEach (e :: es) X.env = (false, eval e X.env) :: starEach es X.env := by rfl) (hpl : (backTo pos (starEach es X.env)).any (·.1) = false := by rfl) :
    PE X (.Call (.Name x p) (e :: es) [] pos) (tE X.K T W (makeM n 0 ar mk ms nilM)) := by
  refine ⟨fun pins s σ H Q I h => ?_⟩
  refine wpAny_Call_Name_kw (ld_glob I hg hm ?_ hdb)
  refine PySem.W.callWith_K (h₀ := X.base) I.ok.mod.kin Mc.kp (thn (ha.run pos pins s σ H (fun vs H2 => ∃ E G ρ a ds, AR X.K T E G ρ a σ H2 ∧ RepL X.K T G ρ ds vs ∧ Post X.K T W E σ G ρ (Rep X.K T) ((if (ds.length == n && ([] : List D).length == ([] : List Str).length) = true then mk (ar ds []) else no) a) Q) I ?_) fun us s1 ⟨vs, H1, I1, r, E, G, ρ, a, ds, r2, q2, p2⟩ => ⟨I1.kIn, ?_⟩) he hpl
  · refine tX.bind (f := fun ds => if (ds.length == n && ([] : List D).length == 0) = true then mk (ar ds []) else no) h fun E es a2 G2 ρ2 H2 zs r2 q2 p2 => ?_
    exact ⟨E, G2, ρ2, a2, es, r2, q2, p2⟩
  · exact make_end (ks := []) (ws := []) (zs := []) (es := []) Mc F hr hb hk tk I1 r .nil r2 q2 RepL.nil p2
theorem px_make0 (Mc : Mk X.K (T.C c) f) (F : FnOk X.prog X.w X.K X.mg X.base (CX X.prog X.w) k f fd ps (spM X.K T np g)) (hr : Room (k + 1) X.A) (hm : X.mg x = some (.ref (T.C c))) (hb : KB X.K T fd ps n [] ar) (hk : MkR X T W c np g mk) (tk : Takes X W)
    (hg : Gl X x := by rfl) (hdb : (x == ("__debug__" : Str)) = false := by decide) :
    PE X (.Call (.Name x p) [] [] pos) (tE X.K T W (makeM n 0 ar mk nilM nilM)) := by
  refine ⟨fun pins s σ H Q I h => ?_⟩
  refine wpAny_Call_Name_kw (ld_glob I hg hm ?_ hdb)
  obtain ⟨E, G, ρ, a, r2, p2⟩ := h
  exact PySem.W.callWith_K0 I.kIn Mc.kp (make_end (ks := []) (ws := []) (zs := []) (es := []) (us := []) (vs := []) (ds := []) Mc F hr hb hk tk I .nil .nil r2 RepL.nil RepL.nil p2)

def callKM (n m : Nat) (ar : List D → List D → List D) (np : Nat) (g : FD) (ms mk2 : M (List D)) : M D := bd ms fun ds => bd mk2 fun zs => if (ds.length == n && zs.length == m) = true then callM np g (ar ds zs) else no
theorem px_callK (F : FnOk X.prog X.w X.K X.mg X.base (CX X.prog X.w) k f fd ps (spM X.K T np g)) (hr : Room k X.A) (hm : X.mg x = some (.ref f)) (hkp : PySem.W.keepIn X.K (.ref f) = true) (hb : KBf X.K T fd ps n ks ar) (tk : Takes X W)
    (ha : PA X (e :: es) (tA X.K T W ms)) (hkw : PKD X T W kws mk2) (hg : Gl X x := by rfl)
    (hall : (backToKw pos (keywordEach kws X.env)).all (·.1.isSome) = true := by rfl) (hks : (backToKw pos (keywordEach kws X.env)).filterMap (·.1) = ks := by rfl) (hdb : (x == ("__debug__" : Str)) = false := by decide)
    (he : starEach (e :: es) X.env = (false, eval e X.env) :: starEach es X.env := by rfl) (hpl : ((backTo pos (starEach (e :: es) X.env)).any (·.1) || (backToKw pos (keywordEach kws X.env)).any (·.1.isNone)) = false := by rfl) :
    PE X (.Call (.Name x p) (e :: es) kws pos) (tE X.K T W (callKM n ks.length ar np g ms mk2)) := by
  refine ⟨fun pins s σ H Q I h => ?_⟩
  refine wpAny_Call_Name_kw (ld_glob I hg hm ?_ hdb)
  refine PySem.W.callWith_KW (h₀ := X.base) I.ok.mod.kin hkp hall (thn (ha.run pos pins s σ H (fun vs H1 => tX X.K T W (RepL X.K T) mk2 σ H1 fun zs H2 => ∃ E G ρ a ds es, AR X.K T E G ρ a σ H2 ∧ RepL X.K T G ρ ds vs ∧ RepL X.K T G ρ es zs ∧ Post X.K T W E σ G ρ (Rep X.K T) ((if (ds.length == n && es.length == ks.length) = true then callM np g (ar ds es) else no) a) Q) I ?_) fun us s1 ⟨vs, H1, I1, r, q⟩ => ?_) hpl he
  · refine tX.bind h fun E ds a1 G1 ρ1 H1 vs r1 q1 p1 => ?_
    refine ⟨E, G1, ρ1, a1, r1, Post.bind p1 fun es a2 G2 ρ2 H2 zs g2 l2 r2 q2 p2 => ?_⟩
    exact ⟨E, G2, ρ2, a2, ds, es, r2, RepL.ge g2 l2 _ _ q1, q2, p2⟩
  · refine thn (hkw.run pos pins s1 σ H1 _ I1 q) fun ws s2 ⟨zs, H2, I2, rz, E, G, ρ, a, ds, es, r2, q1, q2, p2⟩ => ⟨I2.kIn, ?_⟩
    rw [hks]
    obtain ⟨gA, gV, B, hv⟩ := hb.ex
    split at p2
    · rename_i hl
      rw [Bool.and_eq_true, beq_iff_eq, beq_iff_eq] at hl
      have l1 : vs.length = n := by rw [q1.len, hl.1]
      have l2 : zs.length = ks.length := by rw [q2.len, hl.2]
      have hsp := call_read r2 (hv G ρ ds es vs zs q1 q2) p2
      refine wpAny_call (codeAny_mono (F.run X.A X.stack s2 H2 ⟨us, ks.zip ws⟩ (gA us ws) (gV vs zs) Q _ hr I2.env0 (B.to s2 us ws I2.kIn (r.length.symm.trans l1) (rz.length.symm.trans l2)) (B.rel r rz) hsp) fun r s' hq => ?_)
      cases r with
      | error e => exact passAt tk σ pins H2 s2 e s' I2 hq
      | ok fl =>
        cases fl with
        | ret u => exact I2.after hq
        | next => exact False.elim hq
        | brk => exact False.elim hq
        | cont => exact False.elim hq
    · exact p2.elim
end

def methM (tb : TB) (c : Nat) (m : Str) (np : Nat) (g : FD) (dds : List D) (mo : M D) (ms : M (List D)) : M D := bd mo fun o => fun a => match objOf tb a.st o with
  | some (k, fs) => if (k == c && tb.ins k && (fs.lookup m).isNone) = true then (bd ms fun xs => callM np g (o :: (xs ++ dds))) a else .stuck
  | none => .stuck
section
variable {X : Cx} {T : Tab} {W : WX} {k np c : Nat} {f : Addr} {fd : FuncData} {ps : List Str} {g : FD} {dvs : List V} {ds : List Value} {dds : List D} {m : Str} {apos cpos : Pos} {o e : Expr} {es : List Expr} {mo : M D} {ms : M (List D)}
theorem px_meth {tb : TB} (Fc : Fx X.K T) (hT : T.toTB = tb) (F : FnOk X.prog X.w X.K X.mg X.base (CX X.prog X.w) k f fd ps (spM X.K T np g)) (hr : Room k X.A) (hM : Meth X.K (T.C c) m f) (hb : Binds X.K fd ps ds) (hd : Vals dvs ds) (hdd : ∀ G ρ, RepL X.K T G ρ dds dvs) (tk : Takes X W)
    (ho : PE X o (tE X.K T W mo)) (ha : PA X (e :: es) (tA X.K T W ms)) (pl : Sem Bool)
    (ht : eval (.Call (.Attribute o m apos) (e :: es) [] cpos) X.env = (do
      let ov ← eval o X.env
      standAt apos.atName
      let (f, first) ← holding [ov] (getMethod ov m pl)
      callWith cpos f first (backTo cpos (starEach (e :: es) X.env)) (backToKw cpos (keywordEach [] X.env))) := by rfl)
    (he : starEach (e :: es) X.env = (false, eval e X.env) :: starEach es X.env := by rfl) (hpl : (backTo cpos (starEach es X.env)).any (·.1) = false := by rfl) :
    PE X (.Call (.Attribute o m apos) (e :: es) [] cpos) (tE X.K T W (methM tb c m np g dds mo ms)) := by
  subst hT
  refine ⟨fun pins s σ H Q I h => ?_⟩
  refine methcall_of ho I (tX.bind h fun E o a1 G1 ρ1 H1 v r1 q1 p1 => ?_) ht
  cases e1 : objOf T.toTB a1.st o with
  | none => rw [e1] at p1; exact p1.elim
  | some q =>
    obtain ⟨kk, fs⟩ := q
    rw [e1] at p1
    simp only at p1
    split at p1
    · rename_i hc
      rw [Bool.and_eq_true, Bool.and_eq_true, beq_iff_eq] at hc
      obtain ⟨⟨c1, c2⟩, c3⟩ := hc
      subst c1
      obtain ⟨b, dx, fvs, ev, hb', rf⟩ := r1.obj e1 q1
      refine ⟨b, T.C kk, dx, fvs, f, ev, hb', (Fc.cls kk c2).cl, hM, rf.look0 (Option.isNone_iff_eq_none.mp c3), fun s1 I1 => ?_⟩
      refine PySem.W.callWith_K (h₀ := X.base) I1.ok.mod.kin hM.kp (thn (ha.run cpos pins s1 σ H1 (fun vs H2 => ∃ E G ρ a ds, AR X.K T E G ρ a σ H2 ∧ RepL X.K T G ρ ds vs ∧ Rep X.K T G ρ o v ∧ Post X.K T W E σ G ρ (Rep X.K T) (callM np g (o :: (ds ++ dds)) a) Q) I1 ⟨E, G1, ρ1, a1, r1, Post.bind p1 fun xs a2 G2 ρ2 H2 vs g2 l2 r2 q2 p2 => ⟨E, G2, ρ2, a2, xs, r2, q2, Rep.ge g2 l2 _ _ q1, p2⟩⟩) fun us s2 ⟨vs, H2, I2, rz, E, G, ρ, a, ds, r2, q2, q3, p2⟩ => ⟨I2.kIn, ?_⟩) he hpl
      subst ev
      exact run_fnSD (E := fun σ cls d H' => W cls d σ H') (us := .ref b :: us) (vs := .ref b :: vs) F hr hb hd (passAt tk σ) I2 (.cons rfl rz) (call_read r2 (RepL.cons q3 (q2.app (hdd _ _))) p2)
    · exact p1.elim
end
end PL

namespace PL
open PySem PySem.Spec PyProof.Rows L2

abbrev NoX : XK := fun _ _ _ => False
theorem passN {X : Cx} : Passes (L2.CX X.prog X.w) X NoX := fun pins σ H s e s' I c => by
  have tk : ∀ (e : Value) (s' : Shared), False → X.xe e s' := fun _ _ h => h.elim
  unfold L2.CX at c
  exact (by
    first
    | exact c.elim
    | (obtain ⟨_, h⟩ := c; exact h.elim)
    | (simp at c))

structure EqF (K : PySem.W.Frag) (T : Tab) (c : Nat) (f : Addr) : Prop where
  eq : PySem.W.findIn K (.ref (T.C c)) "__eq__" = some (some (.ref f))
  ne : PySem.W.findIn K (.ref (T.C c)) "__ne__" = some (some (.builtin "object.__ne__"))
  fn : PySem.W.isFn K (.ref f) = true
  nf : ∀ d t, tyD T d = some t → PySem.W.notFirst K (T.C c) t = true
section
variable {X : Cx} {pins : List (Addr × Obj)} {σ : L2.St} {H : Hp} {s : Shared}
theorem ty_looks {M : Model} {v : V} {u t : Value} (I : Inv X pins σ H s) (rx : RelV v u) (ty : TyX X.K H v t) : PySem.W.Looks M s.heap (typeOf u) t := by
  obtain ⟨P, kx, hP, _⟩ := kit_of I rx ty
  exact kx.ty M s.heap I.kIn hP
end
theorem run_at {X : Cx} {k : Nat} {f : Addr} {fd : FuncData} {ps : List Str} {sp : Sp} {pins : List (Addr × Obj)} {σ : L2.St} {H : Hp} {s : Shared} {A : Around} {Q : VK} {us : List Value} {vs : List V} (F : FnOk X.prog X.w X.K X.mg X.base (L2.CX X.prog X.w) k f fd ps sp) (hr : Room k A) (hA : A.frames = X.A.frames)
    (hb : Binds X.K fd ps []) (I : Inv X pins σ H s) (r : Vals vs us) (h : sp vs H Q NoX) : wpAny (model X.prog X.w) A (call (.ref f) us) (EP X pins σ Q) X.xe s := by
  have hl := F.len _ _ _ _ h
  have e0 : Env0 X.prog X.w X.K X.mg X.base A X.stack s H := by
    have e := I.env0
    exact ⟨by rw [hA]; exact e.frames, e.mod, e.bs, e.bsz, e.funs, e.frf, e.hok, e.bare⟩
  have b := hb s us I.kIn (by rw [List.append_nil, ← r.length]; exact hl)
  rw [List.append_nil] at b
  refine wpAny_call (codeAny_mono (F.run A X.stack s H ⟨us, []⟩ us vs Q NoX hr e0 b r h) fun r s' hq => ?_)
  cases r with
  | error e => exact passN pins σ H s e s' I hq
  | ok fl =>
    cases fl with
    | ret w => exact I.after hq
    | next => exact False.elim hq
    | brk => exact False.elim hq
    | cont => exact False.elim hq
section
open PySem.W
variable {prog : Program} {w : World} {A : Around} {E : Value → Shared → Prop} {s : Shared} {K : Frag} {x C f : Addr} {ox : Obj} {od : Option Obj} {b : Value}
theorem one_ne {Q : Value → Shared → Prop} (hu : A.in1.units < cLine) (X : K.In s.heap) (I : InstAt s.heap x ox C od) (hm : mroIn K C (.type "object") = some true) (hr : findIn K (.ref C) "__eq__" = some (some (.ref f))) (hf : isFn K (.ref f) = true)
    (h : wpAny (model prog w) A.in1 (call (.ref f) [.ref x, b]) (fun v s' => ∃ k, v = .bool k ∧ Q (.bool (!k)) s') E s) : wpAny (model prog w) A (call (.builtin "object.__ne__") [.ref x, b]) Q E s := by
  refine wpAny_call (codeAny_call_builtin F.cmp_object.ne.plain F.cmpEntry_ne (check_slot (i := "object.__ne__") (owner := "object") (n := "__ne__") F.cmpKind_ne F.cmpSplit_ne (I.type.andThen (looks_mroIn X hm)) (F.cmpArgs_ne _ _) ?_))
  unfold Builtin.«object.__ne__»
  refine wpAny_bind (m := slotArgs "__ne__" 1 _) (wpAny_pure ?_)
  refine wpAny_bind (m := cRoomFor _ _) (wpAny_cRoomFor hu ?_)
  refine wpAny_bind (m := callSpecialIfBound? (.ref x) (Str.ofString "__eq__") _) (ifBound_K X I hr hf (wpAny_mono h (fun r s' hq => ?_) fun _ _ y => y))
  obtain ⟨k, rfl, hq⟩ := hq
  exact wpAny_bind (m := truthy (.bool k)) (wpAny_truthy_bool (wpAny_pure hq))
theorem cmp_neK {Q : Value → Shared → Prop} {tb : Value} {h₀ : Heap} {L : Addr} {m : Str → Option Value} (hu : A.units < cLine) (hu1 : A.in1.units < cLine) (F : Fr h₀ L s.heap m) (X₀ : K.In h₀) (I : InstAt s.heap x ox C od) (hb : Looks (model prog w) s.heap (typeOf b) tb) (hn : notFirst K C tb = true)
    (hne : findIn K (.ref C) "__ne__" = some (some (.builtin "object.__ne__"))) (hm : mroIn K C (.type "object") = some true) (hr : findIn K (.ref C) "__eq__" = some (some (.ref f))) (hf : isFn K (.ref f) = true)
    (h : wpAny (model prog w) A.in1 (call (.ref f) [.ref x, b]) (fun v s' => ∃ k, v = .bool k ∧ Q (.bool (!k)) s') E s) : wpAny (model prog w) A (richCompare .NotEq (.ref x) b) Q E s := by
  have X := X₀.keeps F.keep
  have one : wpAny (model prog w) A (tryCompare (.ref x) "__ne__" b) (fun r s' => ∃ v, r = some v ∧ Q v s') E s := by
    unfold tryCompare
    have c : wpAny (model prog w) A (callSpecialIfBound? (.ref x) "__ne__" [b]) (fun r s' => ∃ k, r = some (.bool k) ∧ Q (.bool k) s') E s := by
      simp only [callSpecialIfBound?, bindSpecialIfBound?]
      refine wpAny_holding (wpAny_bind (wpAny_bind (wpAny_bind (I.type.here ((looks_findIn X hne).here ?_)))))
      refine wpAny_bind (wpAny_askSetting (wpAny_ite ?_))
      have fin : wpAny (model prog w) A (call (.builtin "object.__ne__") ([.ref x] ++ [b]) >>= fun v => pure (some v)) (fun r s' => ∃ k, r = some (.bool k) ∧ Q (.bool k) s') E s :=
        wpAny_bind (wpAny_mono (one_ne (Q := fun v s' => ∃ k, v = .bool k ∧ Q (.bool k) s') hu1 X I hm hr hf (wpAny_mono h (fun v s' hv => by obtain ⟨k, e, q⟩ := hv; exact ⟨k, e, _, rfl, q⟩) fun _ _ e => e)) (fun v s' hv => by obtain ⟨k, e, q⟩ := hv; exact wpAny_pure ⟨k, by rw [e], q⟩) fun _ _ e => e)
      have bnd : bindSpecial (.builtin "object.__ne__") (.ref x) = pure (.builtin "object.__ne__", [.ref x]) := PySem.F.cmp_object.ne.bind (.ref x)
      split
      · exact wpAny_bind ((Looks.of_pure bnd).here (wpAny_pure (by exact fin)))
      · exact wpAny_tryCatch (wpAny_bind ((Looks.of_pure bnd).here (wpAny_pure (by exact fin))))
    refine wpAny_bind (wpAny_mono c (fun r s' hv => ?_) fun _ _ e => e)
    obtain ⟨k, rfl, q⟩ := hv
    exact wpAny_pure ⟨_, rfl, q⟩
  unfold richCompare
  simp only [oneThing_ref]
  refine wpAny_holding (wpAny_bind (wpAny_cRoomFor hu ?_))
  refine wpAny_bind (I.type.here (wpAny_bind (hb.here ?_)))
  split
  · rename_i q
    have e : subIn K tb (.ref C) = some false := by
      rcases Bool.or_eq_true_iff.mp hn with e | e
      · rw [beq_iff_eq.mp e] at q; simp at q
      · exact beq_iff_eq.mp e
    refine wpAny_bind ((looks_subIn X e).here ?_)
    simp only [Bool.false_eq_true, if_false]
    refine wpAny_bind (wpAny_mono one (fun r s' z => ?_) fun _ _ e => e)
    obtain ⟨v, rfl, hq⟩ := z
    exact wpAny_pure hq
  · refine wpAny_bind (wpAny_pure ?_)
    simp only [Bool.false_eq_true, if_false]
    refine wpAny_bind (wpAny_mono one (fun r s' z => ?_) fun _ _ e => e)
    obtain ⟨v, rfl, hq⟩ := z
    exact wpAny_pure hq
end
def rOwn (K : PySem.W.Frag) (T : Tab) (c : Nat) (g : FD) (neg : Bool) : R2 := fun x y H Q => ∃ a dx fs t, x = .ref a ∧ H a = some (.ins (T.C c) dx fs) ∧ TyX K H y t ∧ PySem.W.notFirst K (T.C c) t = true ∧
  spM K T 2 g [x, y] H (fun v H' => ∃ b, v = .bl b ∧ Q (.bl (if neg then !b else b)) H') NoX
section
variable {X : Cx} {T : Tab} {k c : Nat} {f : Addr} {fd : FuncData} {ps : List Str} {g : FD}
theorem op_eqOwn (F : FnOk X.prog X.w X.K X.mg X.base (L2.CX X.prog X.w) k f fd ps (spM X.K T 2 g)) (hr : Room k X.A) (hE : EqF X.K T c f) (hb : Binds X.K fd ps []) : OpR X (compareOp .Eq) (rOwn X.K T c g false) := by
  intro pins s σ H x y v u Q I rx ry h
  obtain ⟨a, dx, fs, t, rfl, ha, ty, nf, sp⟩ := h
  cases rx
  obtain ⟨mA, J, _⟩ := ins_get I.hok ha
  obtain ⟨od, J, _⟩ := J.look
  obtain ⟨m, hF⟩ := I.fr
  show wpAny _ _ (richCompare .Eq (.ref a) u) _ _ _
  refine PySem.W.cmp_K (op := .Eq) hr.units0 hF I.ok.mod.kin J (ty_looks I ry ty) nf hE.eq hE.fn ?_
  refine wpAny_mono (run_at (us := [.ref a, u]) F hr rfl hb I (show Vals [V.ref a, y] [Value.ref a, u] from .cons rfl (.cons ry .nil)) sp) (fun w s' hw => ?_) fun _ _ e => e
  obtain ⟨z, H', I', rz, b, ez, q⟩ := hw
  subst ez
  cases rz
  exact ⟨.bl b, H', I', rfl, q⟩
theorem op_neOwn (Fc : Fx X.K T) (hc : T.ins c = true) (F : FnOk X.prog X.w X.K X.mg X.base (L2.CX X.prog X.w) k f fd ps (spM X.K T 2 g)) (hr : Room (k + 1) X.A) (hE : EqF X.K T c f) (hb : Binds X.K fd ps []) : OpR X (compareOp .NotEq) (rOwn X.K T c g true) := by
  intro pins s σ H x y v u Q I rx ry h
  obtain ⟨a, dx, fs, t, rfl, ha, ty, nf, sp⟩ := h
  cases rx
  obtain ⟨mA, J, _⟩ := ins_get I.hok ha
  obtain ⟨od, J, _⟩ := J.look
  obtain ⟨m, hF⟩ := I.fr
  show wpAny _ _ (richCompare .NotEq (.ref a) u) _ _ _
  refine cmp_neK hr.units0 hr.in1.units0 hF I.ok.mod.kin J (ty_looks I ry ty) nf hE.ne (Fc.cls c hc).hm hE.eq hE.fn ?_
  refine wpAny_mono (run_at (us := [.ref a, u]) F hr.in1 rfl hb I (show Vals [V.ref a, y] [Value.ref a, u] from .cons rfl (.cons ry .nil)) sp) (fun w s' hw => ?_) fun _ _ e => e
  obtain ⟨z, H', I', rz, b, ez, q⟩ := hw
  subst ez
  cases rz
  exact ⟨_, rfl, .bl (!b), H', I', rfl, q⟩
end
structure CmpS (X : Cx) (T : Tab) (W : WX) (op : CmpOp) (f : D → D → M Bool) : Prop where
  ex : ∃ r : R2, OpR X (compareOp op) r ∧ ∀ (x y : D) (E : En) (G : Hp) (ρ : List Addr) (a : AS) (σ : L2.St) (H : Hp) (v w : V) (Q : VK), AR X.K T E G ρ a σ H → Rep X.K T G ρ x v → Rep X.K T G ρ y w → Post X.K T W E σ G ρ EqR (f x y a) (fun b H => Q (.bl b) H) → r v w H Q
def ownB (tb : TB) (c : Nat) (g : FD) (neg : Bool) (x y : D) : M Bool := fun a => match deC a.st y with
  | some y' => if okX tb.ins y' = true then (match g [x, y] a.st with
    | .ok (.bl b) a1 => .ok (if neg then !b else b) { a with st := a1.st }
    | _ => .stuck) else .stuck
  | none => .stuck
def eqO (tb : TB) (c : Nat) (g : FD) (x y : D) : M Bool := fun a => match objOf tb a.st x with
  | some (k, _) => if (k == c && tb.ins c) = true then ownB tb c g false x y a else .stuck
  | none => opt (eqM x y) a
def neO (tb : TB) (c : Nat) (g : FD) (x y : D) : M Bool := fun a => match objOf tb a.st x with
  | some (k, _) => if (k == c && tb.ins c) = true then ownB tb c g true x y a else .stuck
  | none => opt (neM x y) a
section
variable {X : Cx} {T : Tab} {W : WX} {k c : Nat} {f : Addr} {fd : FuncData} {ps : List Str} {g : FD}
theorem ownB_read (Fc : Fx X.K T) {neg : Bool} (hE : EqF X.K T c f) {E : En} {G : Hp} {ρ : List Addr} {a : AS} {σ : L2.St} {H : Hp} {x y : D} {v w : V} {fs : List (Str × D)} {Q : VK} (r : AR X.K T E G ρ a σ H) (q1 : Rep X.K T G ρ x v) (q2 : Rep X.K T G ρ y w)
    (e : objOf T.toTB a.st x = some (c, fs)) (p : Post X.K T W E σ G ρ EqR (ownB T.toTB c g neg x y a) (fun b H => Q (.bl b) H)) : rOwn X.K T c g neg v w H Q := by
  obtain ⟨b, dx, fvs, ev, hb, rf⟩ := r.obj e q1
  unfold ownB at p
  split at p
  · rename_i y' ey
    split at p
    · rename_i hy
      obtain ⟨t, ht⟩ := okX_ty (T := T) hy
      refine ⟨b, dx, fvs, t, ev, hb, r.ty Fc ey ht q2, hE.nf _ _ ht, G, ρ, [x, y], a.st, r.st, RepL.cons q1 (RepL.cons q2 RepL.nil), rfl, ?_⟩
      cases e3 : g [x, y] a.st with
      | stuck => rw [e3] at p; exact p.elim
      | exc c fs a1 => rw [e3] at p; exact p.elim
      | ok d a1 =>
        rw [e3] at p
        cases d with
        | bl b => exact fun G1 ρ1 H1 v1 h1 z1 => ⟨b, rep_bl z1, p G1 ρ1 H1 _ h1.g h1.l (r.after h1) rfl⟩
        | _ => exact p.elim
    · exact p.elim
  · exact p.elim
theorem cs_eq {tb : TB} (hT : T.toTB = tb) (Fc : Fx X.K T) (hu : X.A.units + 64 < cLine) (F : FnOk X.prog X.w X.K X.mg X.base (L2.CX X.prog X.w) k f fd ps (spM X.K T 2 g)) (hr : Room k X.A) (hE : EqF X.K T c f) (hb : Binds X.K fd ps []) : CmpS X T W .Eq (eqO tb c g) := by
  obtain ⟨r0, o0, h0⟩ := (cm_eq (T := T) hu).ex
  refine ⟨_, o0.or (op_eqOwn F hr hE hb), fun x y E G ρ a σ H v w Q r q1 q2 p => ?_⟩
  subst hT
  unfold eqO at p
  split at p
  · rename_i kk fs e
    split at p
    · rename_i hc
      rw [Bool.and_eq_true, beq_iff_eq] at hc
      obtain ⟨rfl, _⟩ := hc
      exact .inr (ownB_read Fc hE r q1 q2 e p)
    · exact p.elim
  · cases e3 : eqM x y with
    | none => rw [e3] at p; exact p.elim
    | some b => rw [e3] at p; exact .inl (h0 x y b e3 G ρ H v w Q r.sub q1 q2 (p G ρ H b Ge.rfl' (List.prefix_refl _) r rfl))
theorem cs_ne {tb : TB} (hT : T.toTB = tb) (Fc : Fx X.K T) (hu : X.A.units + 64 < cLine) (F : FnOk X.prog X.w X.K X.mg X.base (L2.CX X.prog X.w) k f fd ps (spM X.K T 2 g)) (hr : Room (k + 1) X.A) (hc : T.ins c = true) (hE : EqF X.K T c f) (hb : Binds X.K fd ps []) : CmpS X T W .NotEq (neO tb c g) := by
  obtain ⟨r0, o0, h0⟩ := (cm_ne (T := T) hu).ex
  refine ⟨_, o0.or (op_neOwn Fc hc F hr hE hb), fun x y E G ρ a σ H v w Q r q1 q2 p => ?_⟩
  subst hT
  unfold neO at p
  split at p
  · rename_i kk fs e
    split at p
    · rename_i hc
      rw [Bool.and_eq_true, beq_iff_eq] at hc
      obtain ⟨rfl, _⟩ := hc
      exact .inr (ownB_read Fc hE r q1 q2 e p)
    · exact p.elim
  · cases e3 : neM x y with
    | none => rw [e3] at p; exact p.elim
    | some b => rw [e3] at p; exact .inl (h0 x y b e3 G ρ H v w Q r.sub q1 q2 (p G ρ H b Ge.rfl' (List.prefix_refl _) r rfl))
def op2S (f : D → D → M Bool) (ma mb : M D) : M Bool := bd ma fun x => bd mb fun y => f x y
theorem px_cmpS {op : CmpOp} {f : D → D → M Bool} {a b : Expr} {ma mb : M D} {pos : Pos} (c : CmpS X T W op f) (ha : PE X a (tE X.K T W ma)) (hb : PE X b (tE X.K T W mb)) (hm : behindInMarks op b = false := by first | exact nomark _ | rfl) :
    PE X (.Compare a [op] [b] pos) (tE X.K T W (blM (op2S f ma mb))) := by
  obtain ⟨r, ho, hr⟩ := c.ex
  refine PE.imp (pe_cmpR ho ha hb hm) fun σ H Q h => ?_
  have h : tE X.K T W (bd ma fun x => bd mb fun y => bd (f x y) fun b => ret (.bl b)) σ H Q := by
    have e : blM (op2S f ma mb) = bd ma fun x => bd mb fun y => bd (f x y) fun b => ret (.bl b) := by
      funext a
      unfold blM op2S bd
      cases ma a with
      | stuck => rfl
      | exc c fs a1 => rfl
      | ok x a1 =>
        simp only [bind_ok]
        cases mb a1 <;> rfl
    rw [e] at h
    exact h
  refine tX.bind h fun E x a1 G1 ρ1 H1 v r1 q1 p1 => ?_
  refine ⟨E, G1, ρ1, a1, r1, Post.bind p1 fun y a2 G2 ρ2 H2 w g2 l2 r2 q2 p2 => ?_⟩
  refine hr x y E G2 ρ2 a2 σ H2 v w Q r2 (Rep.ge g2 l2 _ _ q1) q2 (Post.bind p2 fun b a3 G3 ρ3 H3 z g3 l3 r3 q3 p3 => ?_)
  cases q3
  exact Post.here p3 r3 to_bl
theorem pt_cmpS {op : CmpOp} {f : D → D → M Bool} {a b : Expr} {ma mb : M D} {pos : Pos} (c : CmpS X T W op f) (ha : PE X a (tE X.K T W ma)) (hb : PE X b (tE X.K T W mb)) (hm : behindInMarks op b = false := by first | exact nomark _ | rfl) :
    PT X (.Compare a [op] [b] pos) (tT X.K T W (op2S f ma mb)) := by
  obtain ⟨r, ho, hr⟩ := c.ex
  refine PT.imp (pt_cmpR ho ha hb hm) fun σ H Q h => ?_
  refine tX.bind h fun E x a1 G1 ρ1 H1 v r1 q1 p1 => ?_
  refine ⟨E, G1, ρ1, a1, r1, Post.bind p1 fun y a2 G2 ρ2 H2 w g2 l2 r2 q2 p2 => ?_⟩
  exact hr x y E G2 ρ2 a2 σ H2 v w _ r2 (Rep.ge g2 l2 _ _ q1) q2 (p2.mono fun b H q => ⟨b, rfl, q⟩)
end
end PL

namespace PL
open PySem PySem.Spec PyProof.Rows L2

section
variable {X : Cx} {T : Tab} {W : WX}
theorem px_no {e : Expr} : PE X e (tE X.K T W no) := ⟨fun pins s σ H Q I ⟨E, G, ρ, a, r, p⟩ => p.elim⟩
theorem pf_no {e : Expr} : PE X e (tF X.K T W no) := ⟨fun pins s σ H Q I ⟨E, G, ρ, a, r, p⟩ => p.elim⟩
theorem pt_no {e : Expr} : PT X e (tT X.K T W no) := ⟨fun pins s σ H Q I ⟨E, G, ρ, a, r, p⟩ => p.elim⟩
theorem ps_no {e : Stmt} : PS X e (tS X.K T W no) := ⟨fun pins s σ H Q I ⟨E, G, ρ, a, r, p⟩ => p.elim⟩
theorem pss_no {e : List Stmt} : PSs X e (tS X.K T W no) := ⟨fun pins s σ H Q I ⟨E, G, ρ, a, r, p⟩ => p.elim⟩
theorem pf_if {c a b : Expr} {mc : M Bool} {ma mb : M (List D)} {pos : Pos} (hc : PT X c (tT X.K T W mc)) (ha : PE X a (tF X.K T W ma)) (hb : PE X b (tF X.K T W mb)) : PE X (.IfExp c a b pos) (tF X.K T W (ifM mc ma mb)) := by
  refine PE.imp (pe_ifExp hc ha hb) fun σ H Q ⟨E, G, ρ, a0, r, p⟩ => ?_
  refine ⟨E, G, ρ, a0, r, PostF.bind p fun c a1 G1 ρ1 H1 v g1 l1 r1 q1 p1 => ?_⟩
  cases q1
  cases c with
  | false => exact iteF ⟨E, G1, ρ1, a1, r1, p1⟩
  | true => exact iteT ⟨E, G1, ρ1, a1, r1, p1⟩
def slotL (i : Nat) (a : AS) : Option (List D) := match a.sl.getD i .emp with
  | .own ds => some ds
  | .val d => lstOf a.st d
  | _ => none
theorem slotL_read {K : PySem.W.Frag} {E : En} {G : Hp} {ρ : List Addr} {a : AS} {σ : L2.St} {H : Hp} (r : AR K T E G ρ a σ H) {i : Nat} {ds : List D} (h : slotL i a = some ds) : ∃ b vs, σ[i]? = some (some (.ref b)) ∧ SqL K H b vs ∧ RepL K T G ρ ds vs := by
  unfold slotL at h
  split at h
  · rename_i ds' e
    cases h
    obtain ⟨v, hσ⟩ := r.slen (getD_some e (fun z => nomatch z))
    obtain ⟨b, us, e2, hb, rl, _⟩ := r.sl i _ v (getD_some e (fun z => nomatch z)) hσ
    subst e2
    exact ⟨b, us, hσ, .inl (.inl hb), rl⟩
  · rename_i d e
    obtain ⟨v, hσ, q⟩ := r.val (getD_some e (fun z => nomatch z))
    obtain ⟨b, vs, ev, hR, rl⟩ := r.lst h q
    subst ev
    exact ⟨b, vs, hσ, hR, rl⟩
  · cases h
def lenO (i : Nat) : M D := fun a => match slotL i a with
  | some ds => .ok (.int ds.length) a
  | none => .stuck
theorem px_lenO {x : Str} {p p1 pos : Pos} (i : Nat) (hm : X.mg "len" = none) (hN : X.N[i]? = some x := by rfl) (hv : Vis X.env.scope x := by first | exact Or.inl rfl | exact Or.inr (Or.inl rfl) | exact Or.inr (Or.inr rfl)) (hd : (x == ("__debug__" : Str)) = false := by decide)
    (hcd : (x == ("__classdict__" : Str)) = false := by decide) (hg : Gl X "len" := by rfl) (he : starEach [.Name x p1] X.env = (false, eval (.Name x p1) X.env) :: starEach [] X.env := by rfl) :
    PE X (.Call (.Name "len" p) [.Name x p1] [] pos) (tE X.K T W (lenO i)) := by
  refine PE.imp (pe_callB call_len hg hm boot_len (pa_cons (pe_var hN hv hd hcd) pa_nil he)) fun σ H Q ⟨E, G, ρ, a, r, p⟩ => ?_
  unfold lenO at p
  split at p
  · rename_i ds e
    obtain ⟨b, vs, hσ, hR, rl⟩ := slotL_read r e
    refine ⟨.ref b, hσ, .ref b, vs.length, rfl, .inl ⟨vs, hR, rfl⟩, ?_⟩
    exact Post.here p r (by rw [rl.len]; exact to_int)
  · exact p.elim
def ixO (i : Nat) (m : M D) : M D := fun a => match slotL i a with
  | some _ => (m a).bind fun k a1 => match slotL i a1, k with
    | some ds, .int k => match L2.atI ds k with
      | some d => .ok d a1
      | none => .stuck
    | _, _ => .stuck
  | none => .stuck
theorem px_ixO {x : Str} {e : Expr} {m : M D} {p1 pos : Pos} (i : Nat) (h : PE X e (tE X.K T W m)) (hN : X.N[i]? = some x := by rfl) (hv : Vis X.env.scope x := by first | exact Or.inl rfl | exact Or.inr (Or.inl rfl) | exact Or.inr (Or.inr rfl)) (hd : (x == ("__debug__" : Str)) = false := by decide)
    (hcd : (x == ("__classdict__" : Str)) = false := by decide) (hs : PlainIx e := by intro _ _; rfl) : PE X (.Subscript (.Name x p1) e pos) (tE X.K T W (ixO i m)) := by
  refine PE.imp (pe_ix ix_seq (pe_var hN hv hd hcd) h hs) fun σ H Q ⟨E, G, ρ, a, r, p⟩ => ?_
  unfold ixO at p
  split at p
  · rename_i ds0 e0
    obtain ⟨b, vs, hσ, _, _⟩ := slotL_read r e0
    refine ⟨.ref b, hσ, E, G, ρ, a, r, Post.bind p fun y a1 G1 ρ1 H1 w g1 l1 r1 q1 p1 => ?_⟩
    split at p1
    · rename_i ds k e1
      split at p1
      · rename_i d e2
        obtain ⟨b', vs', hσ', hR, rl⟩ := slotL_read r1 e1
        rw [hσ] at hσ'
        cases hσ'
        obtain ⟨u, hu, ru⟩ := rl.atI e2
        exact .inl ⟨b, vs', k, u, rfl, rep_int q1, hR, hu, Post.here p1 r1 ru⟩
      · exact p1.elim
    · exact p1.elim
  · exact p.elim
end

def hookY (n : Nat) (fa : List He.Fa) (fn : List He.DefD) (ex : PySem.W.Frag → Bool) : PySem.W.Hook where
  α := He.AlD × Bool
  obs := fun s => (He.obsD fa fn (He.frG s.heap.get? (He.asD s.heap.get? n)), ex (He.frG s.heap.get? (He.asD s.heap.get? n)))
  val := fun _ => (He.valD fn, true)
  says := fun _ h => ∃ K : PySem.W.Frag, K.In h ∧ He.SaysD fa fn K ∧ ex K = true
  of := fun _ _ e => ⟨_, He.frG_in, congrArg (fun z : He.AlD × Bool => z.1) e, congrArg (fun z : He.AlD × Bool => z.2) e⟩
  keeps := fun _ _ _ ⟨K, hK, c⟩ k => ⟨K, PySem.W.Frag.In.keeps hK k, c⟩
def obsY (n : Nat) (fa : List He.Fa) (fn : List He.DefD) (ex : PySem.W.Frag → Bool) (g : Addr → Option Obj) : He.AlD × Bool := (He.obsD fa fn (He.frG g (He.asD g n)), ex (He.frG g (He.asD g n)))
theorem obsY_eq {n : Nat} {fa : List He.Fa} {fn : List He.DefD} {ex : PySem.W.Frag → Bool} {g : Addr → Option Obj} {s : Shared} (h : ∀ a, g a = s.heap.get? a) : obsY n fa fn ex g = (hookY n fa fn ex).obs s := by
  have e : g = s.heap.get? := funext h
  rw [e] <;> rfl
def clsB (K : PySem.W.Frag) (x : Str) : Bool := (He.Fa.cls x).ok K && (He.eqO (PySem.W.findIn K (.ref (He.ga K x)) "__class__") (some (some (.builtin "object.__class__"))) && (He.eqO (PySem.W.specialIn K (.builtin "object.__class__") "__get__") (some (some (.builtin "getset_descriptor.__get__"))) &&
  (decide (PySem.W.takesIn K (.builtin "object.__class__") = some true) && decide (PySem.W.mroIn K (He.ga K x) (.type "object") = some true))))
theorem clsB_ok {K : PySem.W.Frag} {x : Str} (h : clsB K x = true) : ClsF K (He.ga K x) := by
  obtain ⟨h1, h⟩ := He.ba h
  obtain ⟨h2, h⟩ := He.ba h
  obtain ⟨h3, h⟩ := He.ba h
  obtain ⟨h4, h5⟩ := He.ba h
  exact ⟨He.cls_ok h1, He.eqO_ok h2, He.eqO_ok h3, of_decide_eq_true h4, of_decide_eq_true h5⟩
def mkTB (n : Nat) (fls : List (List Str)) : TB := ⟨fun c => fls.getD c [], fun c => decide (c < n)⟩
def mkT (K : PySem.W.Frag) (xs : List Str) (n : Nat) (fls : List (List Str)) : Tab := ⟨mkTB n fls, fun c => He.ga K (xs.getD c Str.empty)⟩
def tyNs : List String := ["NoneType", "bool", "int", "str", "tuple", "list", "dict"]
def isTT (a b : String) : Bool := a == b || (a == "bool" && b == "int")
def isiB (K : PySem.W.Frag) (xs : List Str) (n : Nat) : Bool :=
  (tyNs.all fun a => known.all fun b => decide (PySem.W.kitOne K (.type a) (.type b) = some (isTT a b))) && ((List.range n).all fun c =>
    (tyNs.all fun a => decide (PySem.W.kitOne K (.type a) (.ref (He.ga K (xs.getD c Str.empty))) = some false)) && ((known.all fun b => decide (PySem.W.kitOne K (.ref (He.ga K (xs.getD c Str.empty))) (.type b) = some false)) &&
      (List.range n).all fun k => decide (PySem.W.kitOne K (.ref (He.ga K (xs.getD c Str.empty))) (.ref (He.ga K (xs.getD k Str.empty))) = some (c == k))))
def fxB (K : PySem.W.Frag) (xs : List Str) (n : Nat) (fls : List (List Str)) : Bool := isiB K xs n && (List.range n).all fun c => clsB K (xs.getD c Str.empty) && (fls.getD c []).all fun f => (He.Fa.noat (xs.getD c Str.empty) f).ok K
theorem tyD_cases {T : Tab} {x : D} {t : Value} (h : tyD T x = some t) : (∃ c ds, x = .ins c ds ∧ T.ins c = true ∧ t = .ref (T.C c)) ∨ ∃ a, a ∈ tyNs ∧ t = .type a ∧ tyN x = some a := by
  cases x with
  | ins c ds =>
    unfold tyD at h
    dsimp only at h
    split at h
    · rename_i hi; cases h; exact .inl ⟨c, ds, rfl, hi, rfl⟩
    · cases h
  | ty n => cases h
  | cls n => cases h
  | cell n => cases h
  | non => cases h; exact .inr ⟨_, by decide, rfl, rfl⟩
  | bl b => cases h; exact .inr ⟨_, by decide, rfl, rfl⟩
  | int b => cases h; exact .inr ⟨_, by decide, rfl, rfl⟩
  | str b => cases h; exact .inr ⟨_, by decide, rfl, rfl⟩
  | tup b => cases h; exact .inr ⟨_, by decide, rfl, rfl⟩
  | lst b => cases h; exact .inr ⟨_, by decide, rfl, rfl⟩
  | dic => cases h; exact .inr ⟨_, by decide, rfl, rfl⟩
theorem isB_ty {ins : Nat → Bool} {x : D} {a n : String} {b : Bool} (ha : tyN x = some a) (h : isB ins x (.ty n) = some b) : n ∈ known ∧ isTT a n = b := by
  unfold isB at h
  dsimp only at h
  split at h
  · rename_i hk
    refine ⟨by simpa using hk, ?_⟩
    have hk' : n ∈ known := by simpa using hk
    unfold known at hk'
    simp only [List.mem_cons, List.not_mem_nil, or_false] at hk'
    cases x with
    | ins c ds => cases ha
    | ty m => cases ha
    | cls m => cases ha
    | cell m => cases ha
    | _ =>
      cases ha
      cases h
      rcases hk' with rfl | rfl | rfl | rfl | rfl | rfl <;> rfl
  · cases h
theorem fx_ok {K : PySem.W.Frag} {xs : List Str} {n : Nat} {fls : List (List Str)} (h : fxB K xs n fls = true) : Fx K (mkT K xs n fls) := by
  obtain ⟨h1, h2⟩ := He.ba h
  obtain ⟨h3, h4⟩ := He.ba h1
  have hc : ∀ c, decide (c < n) = true → clsB K (xs.getD c Str.empty) = true ∧ (fls.getD c []).all (fun f => (He.Fa.noat (xs.getD c Str.empty) f).ok K) = true := fun c hc => He.ba (List.all_eq_true.mp h2 c (List.mem_range.mpr (of_decide_eq_true hc)))
  refine ⟨fun c i => clsB_ok (hc c i).1, fun c f i m => He.noat_ok (List.all_eq_true.mp (hc c i).2 f m), fun x c t u b ht hu hb => ?_⟩
  unfold kindD at hu
  split at hu
  · rename_i nm
    cases hu
    rcases tyD_cases ht with ⟨k, ds, rfl, hi, rfl⟩ | ⟨a, ha, rfl, hn⟩
    · obtain ⟨_, h5⟩ := He.ba (List.all_eq_true.mp h4 k (List.mem_range.mpr (of_decide_eq_true hi)))
      obtain ⟨h6, _⟩ := He.ba h5
      unfold isB at hb
      dsimp only at hb
      split at hb
      · rename_i hk
        cases hb
        exact of_decide_eq_true (List.all_eq_true.mp h6 nm (by simpa using hk))
      · cases hb
    · obtain ⟨hk, e⟩ := isB_ty hn hb
      rw [← e]
      exact of_decide_eq_true (List.all_eq_true.mp (List.all_eq_true.mp h3 a ha) nm hk)
  · rename_i kc
    cases hu
    unfold isB at hb
    dsimp only at hb
    split at hb
    · rename_i hk
      obtain ⟨g1, g2⟩ := He.ba (List.all_eq_true.mp h4 kc (List.mem_range.mpr (of_decide_eq_true hk)))
      rcases tyD_cases ht with ⟨k, ds, rfl, hi, rfl⟩ | ⟨a, ha, rfl, hn⟩
      · cases hb
        obtain ⟨_, h5⟩ := He.ba (List.all_eq_true.mp h4 k (List.mem_range.mpr (of_decide_eq_true hi)))
        obtain ⟨_, h6⟩ := He.ba h5
        exact of_decide_eq_true (List.all_eq_true.mp h6 kc (List.mem_range.mpr (of_decide_eq_true hk)))
      · have e : b = false := by
          cases x <;> first | (cases hb; rfl) | cases hn | cases hb
        rw [e]
        exact of_decide_eq_true (List.all_eq_true.mp g1 a ha)
    · cases hb
  · cases hu
def eqB' (K : PySem.W.Frag) (x : Str) (xs : List Str) (n : Nat) : Bool := (He.Fa.meth x "__eq__").ok K && (He.eqO (PySem.W.findIn K (.ref (He.ga K x)) "__ne__") (some (some (.builtin "object.__ne__"))) &&
  ((tyNs.all fun a => PySem.W.notFirst K (He.ga K x) (.type a)) && (List.range n).all fun k => PySem.W.notFirst K (He.ga K x) (.ref (He.ga K (xs.getD k Str.empty)))))
theorem eqF_ok {K : PySem.W.Frag} {xs : List Str} {n : Nat} {fls : List (List Str)} (c : Nat) (h : eqB' K (xs.getD c Str.empty) xs n = true) : EqF K (mkT K xs n fls) c (He.ma K (He.ga K (xs.getD c Str.empty)) "__eq__") := by
  obtain ⟨h1, h⟩ := He.ba h
  obtain ⟨h2, h⟩ := He.ba h
  obtain ⟨h3, h4⟩ := He.ba h
  have m := He.meth_ok h1
  refine ⟨m.at_, He.eqO_ok h2, m.fn, fun d t ht => ?_⟩
  rcases tyD_cases ht with ⟨k, ds, rfl, hi, rfl⟩ | ⟨a, ha, rfl, hn⟩
  · exact List.all_eq_true.mp h4 k (List.mem_range.mpr (of_decide_eq_true hi))
  · exact List.all_eq_true.mp h3 a ha
def tupAt (K : PySem.W.Frag) (a : Addr) (vs : List He.Dv) : Bool := match K.lookup a with
  | some ⟨.type c, _, .seq its _, _⟩ => decide (c = "tuple") && (decide (its.size ≤ sizeLine) && He.relAll (vs.map (He.Dv.v K)) its.toList)
  | _ => false
theorem tupAt_ok {K : PySem.W.Frag} {a : Addr} {vs : List He.Dv} (h : tupAt K a vs = true) (G : Hp) : TupR K G a (vs.map (He.Dv.v K)) := by
  unfold tupAt at h
  cases q : K.lookup a with
  | none => rw [q] at h; cases h
  | some o =>
    obtain ⟨oc, od, dt, osl⟩ := o
    rw [q] at h
    cases oc with
    | type c =>
      cases dt with
      | seq its n =>
        obtain ⟨h1, h2⟩ := He.ba (show (decide (c = "tuple") && (decide (its.size ≤ sizeLine) && He.relAll (vs.map (He.Dv.v K)) its.toList)) = true from h)
        obtain ⟨h3, h4⟩ := He.ba h2
        exact .inr ⟨_, its, n, q, congrArg Value.type (of_decide_eq_true h1), rfl, of_decide_eq_true h3, He.relAll_ok h4⟩
      | _ => cases h
    | _ => cases dt <;> cases h
def kwdAt (f : Str × Option Str) (x : Str) (K : PySem.W.Frag) : Addr := match K.lookup (He.fAd K f) with
  | some ⟨_, _, .func fd, _⟩ => (match fd.kwdefaults with
    | .ref d => (match PySem.W.nsIn K d x with
      | some (some (.ref a)) => a
      | _ => 0)
    | _ => 0)
  | _ => 0
end PL

namespace PL
open PySem PySem.Spec PyProof.Rows L2

def dvD : He.Dv → Option D
  | .non => some .non
  | .bl b => some (.bl b)
  | .int i => some (.int i)
  | .str x => some (.str x)
  | _ => none
def dvDs : List He.Dv → Option (List D)
  | [] => some []
  | v :: vs => (dvD v).bind fun d => (dvDs vs).map (d :: ·)
section
variable {K : PySem.W.Frag} {T : Tab} {G : Hp} {ρ : List Addr}
theorem lit_rep (v : He.Dv) {d : D} (h : dvD v = some d) : Rep K T G ρ d (v.v K) := by
  cases v <;> first | (cases h; unfold Rep; rfl) | cases h
theorem lits_rep : ∀ {vs : List He.Dv} {ds : List D}, dvDs vs = some ds → RepL K T G ρ ds (vs.map (He.Dv.v K))
  | [], ds, h => by cases h; exact RepL.nil
  | v :: vs, ds, h => by
    unfold dvDs at h
    cases e : dvD v with
    | none => rw [e] at h; cases h
    | some d =>
      rw [e] at h
      simp only [Option.bind_some] at h
      cases e2 : dvDs vs with
      | none => rw [e2] at h; cases h
      | some ds' => rw [e2] at h; cases h; exact RepL.cons (lit_rep v e) (lits_rep e2)
theorem tup_rep {a : Addr} (vs : List He.Dv) {ds : List D} (h : tupAt K a vs = true) (e : dvDs vs = some ds) : Rep K T G ρ (.tup ds) (.ref a) := by
  unfold Rep
  exact ⟨a, _, rfl, tupAt_ok h G, lits_rep e⟩
end
section
variable {X : Cx} {T : Tab} {W : WX}
theorem px_gInt {x : Str} {pos : Pos} (i : Int) (h : ∃ t, X.mg x = some (.int i t)) (hg : Gl X x := by rfl) (hdb : (x == ("__debug__" : Str)) = false := by decide) : PE X (.Name x pos) (tE X.K T W (ret (.int i))) := by
  obtain ⟨t, hm⟩ := h
  exact px_glob (v := .int i) (.int i) hm ⟨t, rfl⟩ (fun G ρ => to_int) hg hdb
theorem px_gStr {x : Str} {pos : Pos} (i : Str) (h : ∃ t, X.mg x = some (.str i t)) (hg : Gl X x := by rfl) (hdb : (x == ("__debug__" : Str)) = false := by decide) : PE X (.Name x pos) (tE X.K T W (ret (.str i))) := by
  obtain ⟨t, hm⟩ := h
  exact px_glob (v := .str i) (.str i) hm ⟨t, rfl⟩ (fun G ρ => to_str) hg hdb
theorem px_gTup {x : Str} {pos : Pos} {a : Addr} {ds : List D} (vs : List He.Dv) (hm : X.mg x = some (.ref a)) (ht : tupAt X.K a vs = true) (e : dvDs vs = some ds) (hg : Gl X x := by rfl) (hdb : (x == ("__debug__" : Str)) = false := by decide) :
    PE X (.Name x pos) (tE X.K T W (ret (.tup ds))) := px_glob (v := .ref a) (.tup ds) hm rfl (fun G ρ => tup_rep vs ht e) hg hdb
theorem takes_blk {s : Shared} {H : Hp} {scope : Scope} {cenv : Env} {fp : List Addr} : Takes (X.blk s H scope cenv fp) WN := fun u s' ⟨a, B, sI, pins, σ, H, cls, d, e, I, nb, up, sky, na, os, ag, w⟩ => w.elim

def maxI (n : Int) : List Int → Int
  | [] => n
  | m :: ms => maxI (if m > n then m else n) ms
def minI (n : Int) : List Int → Int
  | [] => n
  | m :: ms => minI (if m < n then m else n) ms
theorem maxI_is : ∀ (ns : List Int) (n m : Int), m ∈ n :: ns → (∀ y, y ∈ n :: ns → y ≤ m) → maxI n ns = m
  | [], n, m, h, _ => by simp at h; unfold maxI; exact h.symm
  | k :: ns, n, m, h, g => by
    unfold maxI
    refine maxI_is ns _ m ?_ fun y hy => ?_
    · have h1 := g n (by simp)
      have h2 := g k (by simp)
      rcases List.mem_cons.mp h with e | h
      · subst e; have : ¬ k > m := by omega
        rw [if_neg this]; simp
      · rcases List.mem_cons.mp h with e | h
        · subst e
          by_cases z : m > n
          · rw [if_pos z]; simp
          · have : n = m := by omega
            rw [if_neg z, this]; simp
        · exact List.mem_cons_of_mem _ h
    · rcases List.mem_cons.mp hy with e | hy
      · rw [e]; split
        · exact g k (by simp)
        · exact g n (by simp)
      · exact g y (by simp [hy])
theorem minI_is : ∀ (ns : List Int) (n m : Int), m ∈ n :: ns → (∀ y, y ∈ n :: ns → m ≤ y) → minI n ns = m
  | [], n, m, h, _ => by simp at h; unfold minI; exact h.symm
  | k :: ns, n, m, h, g => by
    unfold minI
    refine minI_is ns _ m ?_ fun y hy => ?_
    · have h1 := g n (by simp)
      have h2 := g k (by simp)
      rcases List.mem_cons.mp h with e | h
      · subst e; have : ¬ k < m := by omega
        rw [if_neg this]; simp
      · rcases List.mem_cons.mp h with e | h
        · subst e
          by_cases z : m < n
          · rw [if_pos z]; simp
          · have : n = m := by omega
            rw [if_neg z, this]; simp
        · exact List.mem_cons_of_mem _ h
    · rcases List.mem_cons.mp hy with e | hy
      · rw [e]; split
        · exact g k (by simp)
        · exact g n (by simp)
      · exact g y (by simp [hy])
def intsOf : List D → Option (List Int)
  | [] => some []
  | .int i :: ds => (intsOf ds).map (i :: ·)
  | _ => none
theorem intsOf_eq : ∀ {ds : List D} {ns : List Int}, intsOf ds = some ns → ds = ns.map D.int
  | [], ns, h => by cases h; rfl
  | d :: ds, ns, h => by
    cases d with
    | int i =>
      unfold intsOf at h
      cases e : intsOf ds with
      | none => rw [e] at h; cases h
      | some ms => rw [e] at h; cases h; rw [intsOf_eq e]; rfl
    | _ => cases h
def maxL (st : List Cell) : List D → Option D
  | [x] => (lstOf st x).bind fun ds => (intsOf ds).bind fun ns => match ns with
    | [] => none
    | n :: ns => some (.int (maxI n ns))
  | _ => none
def minL (st : List Cell) : List D → Option D
  | [x] => (lstOf st x).bind fun ds => (intsOf ds).bind fun ns => match ns with
    | [] => none
    | n :: ns => some (.int (minI n ns))
  | _ => none
theorem cl_maxL (hc : X.calm = true) : CalR X T (.builtin "max") maxL := ⟨_, cr_max hc, fun st xs z e W E G ρ a σ H vs Q hst r q p => by
  subst hst
  unfold maxL at e
  split at e
  · rename_i x
    cases e2 : lstOf a.st x with
    | none => rw [e2] at e; cases e
    | some ds =>
      rw [e2] at e
      simp only [Option.bind_some] at e
      cases e3 : intsOf ds with
      | none => rw [e3] at e; cases e
      | some ns =>
        rw [e3] at e
        simp only [Option.bind_some] at e
        cases ns with
        | nil => cases e
        | cons n ns =>
          cases e
          obtain ⟨v, ev, q1⟩ := q.one
          obtain ⟨b, us, eb, hR, rl⟩ := r.lst e2 q1
          subst ev eb
          rw [intsOf_eq e3] at rl
          rw [rl.ints] at hR
          exact ⟨b, n :: ns, rfl, hR, by simp, fun m h1 h2 => by rw [← maxI_is ns n m h1 h2]; exact Post.here p r to_int⟩
  · cases e⟩
theorem cl_minL (hc : X.calm = true) : CalR X T (.builtin "min") minL := ⟨_, cr_min hc, fun st xs z e W E G ρ a σ H vs Q hst r q p => by
  subst hst
  unfold minL at e
  split at e
  · rename_i x
    cases e2 : lstOf a.st x with
    | none => rw [e2] at e; cases e
    | some ds =>
      rw [e2] at e
      simp only [Option.bind_some] at e
      cases e3 : intsOf ds with
      | none => rw [e3] at e; cases e
      | some ns =>
        rw [e3] at e
        simp only [Option.bind_some] at e
        cases ns with
        | nil => cases e
        | cons n ns =>
          cases e
          obtain ⟨v, ev, q1⟩ := q.one
          obtain ⟨b, us, eb, hR, rl⟩ := r.lst e2 q1
          subst ev eb
          rw [intsOf_eq e3] at rl
          rw [rl.ints] at hR
          exact ⟨b, n :: ns, rfl, hR, by simp, fun m h1 h2 => by rw [← minI_is ns n m h1 h2]; exact Post.here p r to_int⟩
  · cases e⟩
end
def meth0M (tb : TB) (c : Nat) (m : Str) (np : Nat) (g : FD) (dds : List D) (mo : M D) : M D := bd mo fun o => fun a => match objOf tb a.st o with
  | some (k, fs) => if (k == c && tb.ins k && (fs.lookup m).isNone) = true then callM np g (o :: dds) a else .stuck
  | none => .stuck
section
variable {X : Cx} {T : Tab} {W : WX} {k np c : Nat} {f : Addr} {fd : FuncData} {ps : List Str} {g : FD} {dvs : List V} {ds : List Value} {dds : List D} {m : Str} {apos cpos : Pos} {o : Expr} {mo : M D}
theorem px_meth0 {tb : TB} (Fc : Fx X.K T) (hT : T.toTB = tb) (F : FnOk X.prog X.w X.K X.mg X.base (CX X.prog X.w) k f fd ps (spM X.K T np g)) (hr : Room k X.A) (hM : Meth X.K (T.C c) m f) (hb : Binds X.K fd ps ds) (hd : Vals dvs ds) (hdd : ∀ G ρ, RepL X.K T G ρ dds dvs) (tk : Takes X W)
    (ho : PE X o (tE X.K T W mo)) (pl : Sem Bool)
    (ht : eval (.Call (.Attribute o m apos) [] [] cpos) X.env = (do
      let ov ← eval o X.env
      standAt apos.atName
      let (f, first) ← holding [ov] (getMethod ov m pl)
      callWith cpos f first (backTo cpos (starEach [] X.env)) (backToKw cpos (keywordEach [] X.env))) := by rfl) :
    PE X (.Call (.Attribute o m apos) [] [] cpos) (tE X.K T W (meth0M tb c m np g dds mo)) := by
  subst hT
  refine ⟨fun pins s σ H Q I h => ?_⟩
  refine methcall_of ho I (tX.bind h fun E o a1 G1 ρ1 H1 v r1 q1 p1 => ?_) ht
  cases e1 : objOf T.toTB a1.st o with
  | none => rw [e1] at p1; exact p1.elim
  | some q =>
    obtain ⟨kk, fs⟩ := q
    rw [e1] at p1
    simp only at p1
    split at p1
    · rename_i hc
      rw [Bool.and_eq_true, Bool.and_eq_true, beq_iff_eq] at hc
      obtain ⟨⟨c1, c2⟩, c3⟩ := hc
      subst c1
      obtain ⟨b, dx, fvs, ev, hb', rf⟩ := r1.obj e1 q1
      refine ⟨b, T.C kk, dx, fvs, f, ev, hb', (Fc.cls kk c2).cl, hM, rf.look0 (Option.isNone_iff_eq_none.mp c3), fun s1 I1 => ?_⟩
      refine PySem.W.callWith_K0 I1.kIn hM.kp ?_
      subst ev
      exact run_fnSD (E := fun σ cls d H' => W cls d σ H') (us := [.ref b]) (vs := [.ref b]) F hr hb hd (passAt tk σ) I1 (.cons rfl .nil) (call_read r1 (RepL.cons q1 (hdd _ _)) p1)
    · exact p1.elim
end
end PL
namespace PL
theorem len_cons {α : Type} {l : List α} {n : Nat} (h : l.length = n + 1) : ∃ a t, l = a :: t ∧ t.length = n := by
  cases l with
  | nil => cases h
  | cons a t => exact ⟨a, t, rfl, Nat.succ.inj h⟩
theorem len_nil {α : Type} {l : List α} (h : l.length = 0) : l = [] := List.eq_nil_of_length_eq_zero h
end PL

namespace PL
open PySem PySem.Spec PyProof.Rows L2

section
variable {M : Model} {h : Heap}
theorem looks_for {α β : Type} {f : α → β → Sem (ForInStep β)} : ∀ (l : List α) (b : β) (tr : List β) (r : β), (tr.length = l.length) →
    (∀ (i : Nat) (a : α) (x y : β), l[i]? = some a → (b :: tr)[i]? = some x → (b :: tr)[i + 1]? = some y → PySem.W.Looks M h (f a x) (.yield y)) → (b :: tr).getLast? = some r → PySem.W.Looks M h (forIn l b f) r
  | [], b, [], r, _, _, e => by
    cases e
    exact PySem.W.Looks.of_pure (by simp)
  | [], b, _ :: _, r, hl, _, e => by cases hl
  | a :: l, b, [], r, hl, _, e => by cases hl
  | a :: l, b, c :: tr, r, hl, hs, e => by
    rw [List.forIn_cons]
    refine PySem.W.Looks.andThen (hs 0 a b c rfl rfl rfl) ?_
    exact looks_for l c tr r (by simpa using hl) (fun i a' x y e1 e2 e3 => hs (i + 1) a' x y (by simpa using e1) (by simpa using e2) (by simpa using e3)) (by rw [List.getLast?_cons_cons] at e; exact e)
end
abbrev Bs := List (Str × Value)
def chk1 (nm : List Str) : Bs → Bs → Bool
  | _, [] => true
  | sl, q :: r => nm.contains q.1 && !(sl.lookup q.1).isSome && chk1 nm (sl ++ [q]) r
def fold2 : Bs → Bs → Bs
  | sl, [] => sl
  | sl, q :: r => fold2 (if (sl.lookup q.1).isNone = true then sl ++ [q] else sl) r
def fold3 (vals : Bs) : Bs → List Str → Option Bs
  | sl, [] => some sl
  | sl, n :: r => if (sl.lookup n).isNone = true then (match vals.lookup n with
    | some v => fold3 vals (sl ++ [(n, v)]) r
    | none => none) else fold3 vals sl r
section
variable {M : Model} {h : Heap}
theorem loop1 {normal kwonly : List Str} {F : Str × Value → Bs × Bs → Sem (ForInStep (Bs × Bs))} (hF : ∀ (q : Str × Value) (sl ex : Bs), (normal ++ kwonly).contains q.1 = true → (sl.lookup q.1).isSome = false → F q (sl, ex) = pure (.yield (sl ++ [q], ex))) :
    ∀ (kw sl ex : Bs), chk1 (normal ++ kwonly) sl kw = true → PySem.W.Looks M h (forIn kw (sl, ex) F) (sl ++ kw, ex)
  | [], sl, ex, _ => PySem.W.Looks.of_pure (by simp)
  | q :: r, sl, ex, e => by
    unfold chk1 at e
    rw [Bool.and_eq_true, Bool.and_eq_true] at e
    rw [List.forIn_cons, hF q sl ex e.1.1 (by simpa using e.1.2)]
    refine PySem.W.Looks.andThen .now ?_
    have := loop1 hF r (sl ++ [q]) ex e.2
    rw [List.append_assoc, List.singleton_append] at this
    exact this
theorem loop2 {F : Str × Value → Bs → Sem (ForInStep Bs)} (hF : ∀ (q : Str × Value) (sl : Bs), F q sl = pure (.yield (if (sl.lookup q.1).isNone = true then sl ++ [q] else sl))) : ∀ (l sl : Bs), PySem.W.Looks M h (forIn l sl F) (fold2 sl l)
  | [], sl => PySem.W.Looks.of_pure (by simp [fold2])
  | q :: r, sl => by
    rw [List.forIn_cons, hF q sl]
    exact PySem.W.Looks.andThen .now (loop2 hF r _)
theorem loop3 {vals : Bs} {F : Str → Bs × List Str → Sem (ForInStep (Bs × List Str))} (hF : ∀ (n : Str) (sl : Bs), (sl.lookup n).isNone = false → F n (sl, []) = pure (.yield (sl, [])))
    (hG : ∀ (n : Str) (sl : Bs) (v : Value), (sl.lookup n).isNone = true → vals.lookup n = some v → PySem.W.Looks M h (F n (sl, [])) (.yield (sl ++ [(n, v)], []))) : ∀ (l : List Str) (sl r : Bs), fold3 vals sl l = some r → PySem.W.Looks M h (forIn l (sl, []) F) (r, [])
  | [], sl, r, e => by cases e; exact PySem.W.Looks.of_pure (by simp)
  | n :: l, sl, r, e => by
    rw [List.forIn_cons]
    unfold fold3 at e
    split at e
    · rename_i hn
      cases e2 : vals.lookup n with
      | none => rw [e2] at e; cases e
      | some v =>
        rw [e2] at e
        exact PySem.W.Looks.andThen (hG n sl v hn e2) (loop3 hF hG l _ r e)
    · rename_i hn
      rw [hF n sl (by simpa using hn)]
      exact PySem.W.Looks.andThen .now (loop3 hF hG l _ r e)
end
def bindOk (normal kwonly : List Str) (us its : List Value) (vals kw : Bs) : Option Bs :=
  if (chk1 (normal ++ kwonly) (normal.zip us) kw && Nat.ble us.length normal.length && Nat.ble its.length normal.length && ((normal.take (normal.length - its.length)).filter fun n => ((normal.zip us ++ kw).lookup n).isNone).isEmpty) = true then
    (fold3 vals (fold2 (normal.zip us ++ kw) ((normal.drop (normal.length - its.length)).zip its)) kwonly).map fun sl => (normal ++ kwonly).filterMap fun n => (sl.lookup n).map (n, ·)
  else none
theorem looks_bind {K : PySem.W.Frag} {M : Model} {h : Heap} (X : K.In h) {fd : FuncData} {us : List Value} {kw vals r : Bs} {o : Option (Array Value)} (h1 : fd.params.posonlyargs = []) (h2 : fd.params.vararg = none) (h3 : fd.params.kwarg = none) (hd : PySem.W.Looks M h (seqItems? fd.defaults) o)
    (hk : ∀ n v, vals.lookup n = some v → ∃ D, fd.kwdefaults = .ref D ∧ PySem.W.nsIn K D n = some (some v)) (hb : bindOk (fd.params.args.map (·.arg)) (fd.params.kwonlyargs.map (·.arg)) us (o.getD #[]).toList vals kw = some r) : PySem.W.Looks M h (bindArgs fd ⟨us, kw⟩) r := by
  unfold bindOk at hb
  split at hb
  · rename_i hc
    rw [Bool.and_eq_true, Bool.and_eq_true, Bool.and_eq_true] at hc
    obtain ⟨⟨⟨c1, c2⟩, c3⟩, c4⟩ := hc
    have c2 := Nat.le_of_ble_eq_true c2
    have c3 := Nat.le_of_ble_eq_true c3
    cases e3 : fold3 vals (fold2 ((fd.params.args.map (·.arg)).zip us ++ kw) (((fd.params.args.map (·.arg)).drop ((fd.params.args.map (·.arg)).length - (o.getD #[]).toList.length)).zip (o.getD #[]).toList)) (fd.params.kwonlyargs.map (·.arg)) with
    | none => rw [e3] at hb; cases hb
    | some sl =>
      rw [e3] at hb
      cases hb
      unfold bindArgs
      dsimp only
      rw [h1, h2, h3]
      simp only [List.map_nil, List.nil_append]
      refine PySem.W.Looks.andThen (loop1 (normal := fd.params.args.map (·.arg)) (kwonly := fd.params.kwonlyargs.map (·.arg)) (fun q sl ex g1 g2 => ?_) kw _ [] c1) ?_
      · obtain ⟨k, v⟩ := q
        have g1' : ((fd.params.args.map (·.arg)).contains k || (fd.params.kwonlyargs.map (·.arg)).contains k) = true := by
          simpa using g1
        dsimp only
        rw [if_pos g1', if_neg (by rw [g2]; exact Bool.false_ne_true)]
      dsimp only
      refine PySem.W.Looks.andThen hd ?_
      have n1 : ¬ ((us.length > (fd.params.args.map (·.arg)).length ∧ (none : Option Arg).isNone = true)) := fun z => absurd z.1 (Nat.not_lt.mpr c2)
      have d0 : List.drop ((o.getD #[]).toList.length - (fd.params.args.map (·.arg)).length) (o.getD #[]).toList = (o.getD #[]).toList := by
        rw [Nat.sub_eq_zero_of_le c3, List.drop_zero]
      have c4' : List.filter (fun n => (List.lookup n ((fd.params.args.map (·.arg)).zip us ++ kw)).isNone) (List.take ((fd.params.args.map (·.arg)).length - (o.getD #[]).toList.length) (fd.params.args.map (·.arg))) = [] := by
        simpa using c4
      simp only [d0, c4', List.isEmpty_nil, Bool.not_true, Bool.false_eq_true, if_false]
      have n2 : ((decide (us.length > (fd.params.args.map (·.arg)).length) && (none : Option Arg).isNone) = true) = False := by
        simp only [Option.isNone_none, Bool.and_true, decide_eq_true_eq, eq_iff_iff, iff_false]
        omega
      have n3 : (us.length > (fd.params.args.map (·.arg)).length) = False := by
        simp only [eq_iff_iff, iff_false]
        omega
      simp only [n2, n3, false_and, if_false, Option.isNone_none, and_true]
      refine PySem.W.Looks.andThen (loop2 (fun q sl => ?_) _ _) ?_
      · obtain ⟨k, v⟩ := q
        dsimp only
        by_cases z : (List.lookup k sl).isNone = true
        · rw [if_pos z, if_pos z]
        · rw [if_neg z, if_neg z]
      refine PySem.W.Looks.andThen (loop3 (vals := vals) (fun n sl g => ?_) (fun n sl v g1 g2 => ?_) _ _ _ e3) ?_
      · dsimp only
        rw [if_neg (by rw [g]; exact Bool.false_ne_true)]
      · dsimp only
        rw [if_pos g1]
        obtain ⟨D, ed, en⟩ := hk n v g2
        rw [ed]
        dsimp only
        exact PySem.W.Looks.andThen (PySem.W.looks_nsIn X en) .now
      simp only [List.isEmpty_nil, Bool.not_true, Bool.false_eq_true, if_false]
      exact PySem.W.Looks.of_pure rfl
  · cases hb

theorem vals_lookup {K : PySem.W.Frag} {D : Addr} {u : Value} : ∀ {ms : List (Str × V)} {mv : List Value}, (∀ q ∈ (ms.map (·.1)).zip mv, PySem.W.nsIn K D q.1 = some (some q.2)) → ∀ n v, ((ms.map (·.1)).zip mv).lookup n = some v → PySem.W.nsIn K D n = some (some v) := fun h n v e => h (n, v) (PySem.mem_of_lookup e)
section
variable {K : PySem.W.Frag} {T : Tab} {x qual : Str} {params : Arguments} {body : List Stmt} {scope : Scope} {dvs : List V} {kws : List (Str × V)} {f : Addr} {fd : FuncData} {ps : List Str}
theorem kbn_gen (F : FunD K x qual params body scope dvs kws f fd) (n : Nat) (ks : List Str) (g : {α : Type} → List α → List α → List α → List α → List α) (hrel : ∀ {vs ds mz zs : List V} {us its mv ws : List Value}, Vals vs us → Vals ds its → Vals mz mv → Vals zs ws → Vals (g vs ds mz zs) (g us its mv ws))
    (h1 : params.posonlyargs = []) (h2 : params.vararg = none) (h3 : params.kwarg = none)
    (h : ∀ us its mv ws : List Value, us.length = n → its.length = dvs.length → mv.length = kws.length → ws.length = ks.length → bindOk (params.args.map (·.arg)) (params.kwonlyargs.map (·.arg)) us its ((kws.map (·.1)).zip mv) (ks.zip ws) = some (ps.zip (g us its mv ws))) :
    ∃ its mv : List Value, KBn K fd ps n ks (fun us ws => g us its mv ws) (fun vs zs => g vs dvs (kws.map (·.2)) zs) := by
  obtain ⟨oc, od, dV, kV, doc, pm, an, cdv, ct, osl, rfl, lk, hcd, hD, hK⟩ := F.ex
  obtain ⟨its, rT, hdl⟩ : ∃ its : List Value, Vals dvs its ∧ ∃ o : Option (Array Value), (o.getD #[]).toList = its ∧ ∀ (M : Model) (hp : Heap), K.In hp → PySem.W.Looks M hp (seqItems? dV) o := by
    rcases hD with ⟨rfl, rfl⟩ | ⟨_, Ta, o, its, m, rfl, lT, oT, rT⟩
    · exact ⟨[], .nil, none, rfl, fun M hp X => PySem.W.Looks.of_pure rfl⟩
    · refine ⟨its, rT, some its.toArray, by simp, fun M hp X => ?_⟩
      have := looks_items (k := fun r => pure r) (r := some its.toArray) (M := M) X lT oT .now
      rw [bind_pure] at this
      exact this
  obtain ⟨o, eo, hl⟩ := hdl
  obtain ⟨mv, hm, rk, hks⟩ : ∃ mv : List Value, mv.length = kws.length ∧ Vals (kws.map (·.2)) mv ∧ ∀ nm v, ((kws.map (·.1)).zip mv).lookup nm = some v → ∃ D, kV = .ref D ∧ PySem.W.nsIn K D nm = some (some v) := by
    rcases hK with rfl | ⟨D, rfl, hq⟩
    · exact ⟨[], rfl, .nil, fun nm v e => by cases e⟩
    · obtain ⟨mv, hm, rk, hks⟩ := kwd_vals hq
      exact ⟨mv, hm, rk, fun nm v e => ⟨D, rfl, hks (nm, v) (PySem.mem_of_lookup e)⟩⟩
  refine ⟨its, mv, ⟨fun s us ws X l1 l2 => BindsTo.of_looks fun M => ?_, fun r1 r2 => hrel r1 rT rk r2⟩⟩
  exact looks_bind (fd := PySem.W.fnOf x qual params body scope dV kV doc pm an cdv ct) X h1 h2 h3 (hl M s.heap X) hks (by rw [eo]; exact h us its mv ws l1 rT.length.symm hm l2)
theorem kb_gen (F : FunD K x qual params body scope dvs kws f fd) (n : Nat) (ks : List Str) (ss : List Src) (dds mds : List D) (hdd : ∀ G ρ, RepL K T G ρ dds dvs) (hmd : ∀ G ρ, RepL K T G ρ mds (kws.map (·.2))) (h1 : params.posonlyargs = []) (h2 : params.vararg = none) (h3 : params.kwarg = none)
    (h : ∀ us its mv ws : List Value, us.length = n + 1 → its.length = dvs.length → mv.length = kws.length → ws.length = ks.length → bindOk (params.args.map (·.arg)) (params.kwonlyargs.map (·.arg)) us its ((kws.map (·.1)).zip mv) (ks.zip ws) = some (ps.zip (gSelf ss us its mv ws))) :
    KB K T fd ps n ks (fun ds zs => arr ss ds dds mds zs) := by
  obtain ⟨its, mv, B⟩ := kbn_gen F (n + 1) ks (fun us its mv ws => gSelf ss us its mv ws) (gSelf_rel ss) h1 h2 h3 h
  exact ⟨_, _, B, fun G ρ x ds zs vs ws r1 r2 => ⟨_, rfl, repL_arr r1 (hdd G ρ) (hmd G ρ) r2 ss⟩⟩
theorem kbf_gen (F : FunD K x qual params body scope dvs kws f fd) (n : Nat) (ks : List Str) (ss : List Src) (dds mds : List D) (hdd : ∀ G ρ, RepL K T G ρ dds dvs) (hmd : ∀ G ρ, RepL K T G ρ mds (kws.map (·.2))) (h1 : params.posonlyargs = []) (h2 : params.vararg = none) (h3 : params.kwarg = none)
    (h : ∀ us its mv ws : List Value, us.length = n → its.length = dvs.length → mv.length = kws.length → ws.length = ks.length → bindOk (params.args.map (·.arg)) (params.kwonlyargs.map (·.arg)) us its ((kws.map (·.1)).zip mv) (ks.zip ws) = some (ps.zip (arr ss us its mv ws))) :
    KBf K T fd ps n ks (fun ds zs => arr ss ds dds mds zs) := by
  obtain ⟨its, mv, B⟩ := kbn_gen F n ks (fun us its mv ws => arr ss us its mv ws) (fun a b c d => vals_arr a b c d ss) h1 h2 h3 h
  exact ⟨_, _, B, fun G ρ ds zs vs ws r1 r2 => repL_arr r1 (hdd G ρ) (hmd G ρ) r2 ss⟩
end
end PL

namespace PL
open PySem PySem.Spec PyProof.Rows L2
theorem FunD_uniq {K : PySem.W.Frag} {x qual : Str} {params : Arguments} {body : List Stmt} {scope : Scope} {dvs : List V} {kws : List (Str × V)} {f : Addr} {fd fd' : FuncData} (F : FunD K x qual params body scope dvs kws f fd) (F' : FunD K x qual params body scope dvs kws f fd') : fd' = fd := by
  obtain ⟨oc, od, dV, kV, doc, pm, an, cdv, ct, osl, e, lk, _⟩ := F.ex
  obtain ⟨oc', od', dV', kV', doc', pm', an', cdv', ct', osl', e', lk', _⟩ := F'.ex
  rw [lk] at lk'
  injection lk' with h
  injection h with _ _ h _
  injection h with h
  exact h.symm
theorem FnOk_close {P : Program} {w : World} {K : PySem.W.Frag} {mg : Str → Option Value} {base : Heap} {k : Nat} {f : Addr} {fd : FuncData} {ps : List Str} {sp : Sp} (F : FnOk P w K mg base (L2.CX P w) k f fd ps sp) : FnOk P w K mg base L2.CX0 k f fd ps (fun vs H Q _ => sp vs H Q NoX) := by
  refine ⟨fun vs H Q E h => F.len vs H Q NoX h, fun A outer s H args us vs Q E hr e0 hb hv h => codeAny_mono (F.run A outer s H args us vs Q NoX hr e0 hb hv h) fun r s' hq => ?_⟩
  cases r with
  | error e => exact (by
      obtain ⟨a, B, H', cls, d, _, _, _, _, _, _, _, hE⟩ := (show L2.CX P w outer H s NoX e s' from hq)
      exact hE.elim)
  | ok fl =>
    cases fl with
    | ret u => exact hq
    | next => exact hq
    | brk => exact hq
    | cont => exact hq
theorem ints_rep {K : PySem.W.Frag} {T : Tab} {G : Hp} {ρ : List Addr} : ∀ ns : List Int, RepL K T G ρ (ns.map D.int) (ns.map V.int)
  | [] => RepL.nil
  | n :: ns => RepL.cons to_int (ints_rep ns)
theorem law_sp {K : PySem.W.Frag} {T : Tab} {f : FD} {ns : List Int} {H : Hp} {a : Addr} (h : ∃ st, f [.lst (ns.map D.int)] [] = .ok (.bl true) st) (hS : SqL K H a (ns.map V.int)) : spM K T 1 f [.ref a] H (fun v _ => v = .bl true) NoX := by
  obtain ⟨st, e⟩ := h
  refine ⟨H, [], [.lst (ns.map D.int)], [], ⟨fun _ _ e => e, rfl, fun i b c e => by simp at e, List.nodup_nil, fun b hb => by simp at hb⟩, RepL.cons (by unfold Rep; exact ⟨a, _, rfl, hS, ints_rep ns⟩) RepL.nil, rfl, ?_⟩
  rw [e]
  exact fun G' ρ' H' v _ q => rep_bl q
end PL

namespace PL
open PySem

def Ok {α : Type} (m : M α) (a : AS) (Q : α → AS → Prop) : Prop := ∃ x a', m a = .ok x a' ∧ Q x a'
def OkF (f : FD) (ds : List D) (st : List Cell) (Q : D → List Cell → Prop) : Prop := ∃ d a', f ds st = .ok d a' ∧ Q d a'.st
section
variable {α β : Type} {m : M α} {a : AS}
theorem Ok.imp {Q Q' : α → AS → Prop} (h : Ok m a Q) (k : ∀ x a', Q x a' → Q' x a') : Ok m a Q' := let ⟨x, a', e, q⟩ := h; ⟨x, a', e, k _ _ q⟩
theorem OkF.imp {f : FD} {ds : List D} {st : List Cell} {Q Q' : D → List Cell → Prop} (h : OkF f ds st Q) (k : ∀ x a', Q x a' → Q' x a') : OkF f ds st Q' := let ⟨x, a', e, q⟩ := h; ⟨x, a', e, k _ _ q⟩
@[simp] theorem ok_bd {f : α → M β} {Q : β → AS → Prop} : Ok (bd m f) a Q ↔ Ok m a fun x a' => Ok (f x) a' Q := by
  constructor
  · rintro ⟨y, a2, e, q⟩
    unfold bd at e
    cases h : m a with
    | stuck => rw [h] at e; cases e
    | exc c fs a1 => rw [h] at e; cases e
    | ok x a1 => rw [h] at e; exact ⟨x, a1, h, y, a2, e, q⟩
  · rintro ⟨x, a1, h, y, a2, e, q⟩
    exact ⟨y, a2, by unfold bd; rw [h]; exact e, q⟩
@[simp] theorem ok_ret {x : α} {Q : α → AS → Prop} : Ok (ret x) a Q ↔ Q x a := ⟨fun ⟨y, a', e, q⟩ => by cases e; exact q, fun q => ⟨x, a, rfl, q⟩⟩
@[simp] theorem ok_no {Q : α → AS → Prop} : Ok (no : M α) a Q ↔ False := ⟨fun ⟨y, a', e, q⟩ => (by cases e), fun q => False.elim q⟩
@[simp] theorem ok_opt_some {x : α} {Q : α → AS → Prop} : Ok (opt (some x)) a Q ↔ Q x a := ok_ret
@[simp] theorem ok_opt_none {Q : α → AS → Prop} : Ok (opt (none : Option α)) a Q ↔ False := ok_no
theorem ok_opt {o : Option α} {Q : α → AS → Prop} {x : α} (h : o = some x) : Ok (opt o) a Q ↔ Q x a := by rw [h]; exact ok_ret
@[simp] theorem ok_rdM {f : List Cell → Option α} {sl : List Slot} {st : List Cell} {Q : α → AS → Prop} : Ok (rdM f) ⟨sl, st⟩ Q ↔ Ok (opt (f st)) ⟨sl, st⟩ Q := Iff.rfl
@[simp] theorem ok_ite {c : Prop} [Decidable c] {m n : M α} {Q : α → AS → Prop} : Ok (if c then m else n) a Q ↔ (if c then Ok m a Q else Ok n a Q) := by split <;> exact Iff.rfl
theorem ok_fun_ok {f : AS → Out α} {x : α} {a' : AS} {Q : α → AS → Prop} (h : f a = .ok x a') : Ok f a Q ↔ Q x a' := ⟨fun ⟨y, a2, e, q⟩ => by rw [h] at e; cases e; exact q, fun q => ⟨x, a', h, q⟩⟩
end
section
variable {a : AS}
def varQ (i : Nat) (sl : List Slot) (st : List Cell) (Q : D → AS → Prop) : Prop := match sl.getD i .emp with
  | .val d => Q d ⟨sl, st⟩
  | .own ds => Q (.lst ds) ⟨sl.set i (.val (.lst ds)), st⟩
  | _ => False
theorem ok_varM {i : Nat} {sl : List Slot} {st : List Cell} {Q : D → AS → Prop} : Ok (varM i) ⟨sl, st⟩ Q ↔ varQ i sl st Q := by
  unfold varQ Ok varM
  dsimp only
  cases e : sl.getD i .emp with
  | val d => exact ⟨fun ⟨x, a', h, q⟩ => (by cases h; exact q), fun q => ⟨_, _, rfl, q⟩⟩
  | own ds => exact ⟨fun ⟨x, a', h, q⟩ => (by cases h; exact q), fun q => ⟨_, _, rfl, q⟩⟩
  | emp => exact ⟨fun ⟨x, a', h, q⟩ => (by cases h), fun q => False.elim q⟩
  | obj c fs => exact ⟨fun ⟨x, a', h, q⟩ => (by cases h), fun q => False.elim q⟩
@[simp] theorem varQ_0 {d : D} {sl : List Slot} {st : List Cell} {Q : D → AS → Prop} {i : Nat} (h : sl[i]? = some (.val d)) : varQ i sl st Q ↔ Q d ⟨sl, st⟩ := by
  unfold varQ
  rw [List.getD_eq_getElem?_getD, h]
  exact Iff.rfl
theorem varQ_own {ds : List D} {sl : List Slot} {st : List Cell} {Q : D → AS → Prop} {i : Nat} (h : sl[i]? = some (.own ds)) : varQ i sl st Q ↔ Q (.lst ds) ⟨sl.set i (.val (.lst ds)), st⟩ := by
  unfold varQ
  rw [List.getD_eq_getElem?_getD, h]
  exact Iff.rfl
theorem ok_setM {i : Nat} {m : M D} {Q : Fl → AS → Prop} : Ok (setM i m) a Q ↔ Ok m a fun d a' => Q .nx ⟨a'.sl.set i (.val d), a'.st⟩ := by
  unfold setM
  rw [ok_bd]
  exact ⟨fun h => h.imp fun x a' ⟨_, _, e, q⟩ => by cases e; exact q, fun h => h.imp fun x a' q => ⟨_, _, rfl, q⟩⟩
theorem ok_ownM {i : Nat} {m : M (List D)} {Q : Fl → AS → Prop} : Ok (ownM i m) a Q ↔ Ok m a fun d a' => Q .nx ⟨a'.sl.set i (.own d), a'.st⟩ := by
  unfold ownM
  rw [ok_bd]
  exact ⟨fun h => h.imp fun x a' ⟨_, _, e, q⟩ => by cases e; exact q, fun h => h.imp fun x a' q => ⟨_, _, rfl, q⟩⟩
theorem ok_cellM {i : Nat} {m : M (List D)} {Q : Fl → AS → Prop} : Ok (cellM i m) a Q ↔ Ok m a fun d a' => Q .nx ⟨a'.sl.set i (.val (.cell a'.st.length)), a'.st ++ [.lst d]⟩ := by
  unfold cellM
  rw [ok_bd]
  exact ⟨fun h => h.imp fun x a' ⟨_, _, e, q⟩ => by cases e; exact q, fun h => h.imp fun x a' q => ⟨_, _, rfl, q⟩⟩
theorem ok_parM {i j : Nat} {m n : M D} {Q : Fl → AS → Prop} : Ok (parM i j m n) a Q ↔ Ok m a fun x a1 => Ok n a1 fun y a2 => Q .nx ⟨(a2.sl.set i (.val x)).set j (.val y), a2.st⟩ := by
  unfold parM
  rw [ok_bd]
  simp only [ok_bd]
  exact ⟨fun h => h.imp fun x a' h => h.imp fun y a2 ⟨_, _, e, q⟩ => by cases e; exact q, fun h => h.imp fun x a' h => h.imp fun y a2 q => ⟨_, _, rfl, q⟩⟩
theorem ok_asgM {t : TgM} {m : M D} {Q : Fl → AS → Prop} : Ok (asgM t m) a Q ↔ Ok m a fun d a' => ∃ a2, t d a' = some a2 ∧ Q .nx a2 := by
  unfold asgM
  rw [ok_bd]
  constructor
  · intro h
    refine h.imp fun x a' ⟨_, _, e, q⟩ => ?_
    cases h2 : t x a' with
    | none => dsimp only at e; rw [h2] at e; cases e
    | some a2 => dsimp only at e; rw [h2] at e; cases e; exact ⟨_, rfl, q⟩
  · intro h
    refine h.imp fun x a' ⟨a2, e, q⟩ => ⟨.nx, a2, ?_, q⟩
    dsimp only
    rw [e]
theorem ok_retM {m : M D} {Q : Fl → AS → Prop} : Ok (retM m) a Q ↔ Ok m a fun d a' => Q (.ret d) a' := by unfold retM; simp only [ok_bd, ok_ret]
theorem ok_exprM {m : M D} {Q : Fl → AS → Prop} : Ok (exprM m) a Q ↔ Ok m a fun _ a' => Q .nx a' := by unfold exprM; simp only [ok_bd, ok_ret]
def seqQ (n : M Fl) (Q : Fl → AS → Prop) : Fl → AS → Prop
  | .nx, a => Ok n a Q
  | f, a => Q f a
theorem ok_seqM {m n : M Fl} {Q : Fl → AS → Prop} : Ok (seqM m n) a Q ↔ Ok m a (seqQ n Q) := by
  constructor
  · intro ⟨x, a2, e, q⟩
    unfold seqM at e
    cases h : m a with
    | stuck => rw [h] at e; cases e
    | exc c fs a1 => rw [h] at e; cases e
    | ok f a1 =>
      rw [h] at e
      cases f with
      | nx => exact ⟨.nx, a1, h, x, a2, e, q⟩
      | ret d => cases e; exact ⟨.ret d, a2, h, q⟩
      | bk => cases e; exact ⟨.bk, a2, h, q⟩
      | ct => cases e; exact ⟨.ct, a2, h, q⟩
  · rintro ⟨f, a1, h, q⟩
    unfold Ok seqM
    rw [h]
    cases f with
    | nx => exact q
    | ret d => exact ⟨_, _, rfl, q⟩
    | bk => exact ⟨_, _, rfl, q⟩
    | ct => exact ⟨_, _, rfl, q⟩
@[simp] theorem seqQ_nx {n : M Fl} {Q : Fl → AS → Prop} : seqQ n Q .nx a ↔ Ok n a Q := Iff.rfl
@[simp] theorem seqQ_ret {n : M Fl} {Q : Fl → AS → Prop} {d : D} : seqQ n Q (.ret d) a ↔ Q (.ret d) a := Iff.rfl
@[simp] theorem seqQ_bk {n : M Fl} {Q : Fl → AS → Prop} : seqQ n Q .bk a ↔ Q .bk a := Iff.rfl
@[simp] theorem seqQ_ct {n : M Fl} {Q : Fl → AS → Prop} : seqQ n Q .ct a ↔ Q .ct a := Iff.rfl
theorem ok_nxM {Q : Fl → AS → Prop} : Ok nxM a Q ↔ Q .nx a := ok_ret
theorem ok_callM {np : Nat} {f : FD} {ds : List D} {sl : List Slot} {st : List Cell} {Q : D → AS → Prop} (h : ds.length = np) : Ok (callM np f ds) ⟨sl, st⟩ Q ↔ OkF f ds st fun d st' => Q d ⟨sl, st'⟩ := by
  unfold Ok OkF callM
  rw [if_pos h]
  dsimp only
  constructor
  · rintro ⟨x, a', e, q⟩
    cases h2 : f ds st with
    | stuck => rw [h2] at e; cases e
    | exc c fs a1 => rw [h2] at e; cases e
    | ok d a1 => rw [h2] at e; cases e; exact ⟨_, _, rfl, q⟩
  · rintro ⟨d, a1, e, q⟩
    exact ⟨d, _, by rw [e], q⟩
theorem ok_callA {np : Nat} {f : FD} {dds : List D} {ms : M (List D)} {Q : D → AS → Prop} : Ok (callA np f dds ms) a Q ↔ Ok ms a fun xs a' => Ok (callM np f (xs ++ dds)) a' Q := by unfold callA; exact ok_bd
def finQ (Q : D → List Cell → Prop) : Fl → AS → Prop
  | .nx, a => Q .non a.st
  | .ret d, a => Q d a.st
  | _, _ => False
@[simp] theorem finQ_nx {Q : D → List Cell → Prop} : finQ Q .nx a ↔ Q .non a.st := Iff.rfl
@[simp] theorem finQ_ret {Q : D → List Cell → Prop} {d : D} : finQ Q (.ret d) a ↔ Q d a.st := Iff.rfl
theorem okF_mkF {n : Nat} {m : M Fl} {ds : List D} {st : List Cell} {Q : D → List Cell → Prop} : OkF (mkF n m) ds st Q ↔ Ok m (fram n ds st) (finQ Q) := by
  unfold OkF Ok mkF
  constructor
  · rintro ⟨d, a', e, q⟩
    cases h : m (fram n ds st) with
    | stuck => rw [h] at e; cases e
    | exc c fs a1 => rw [h] at e; cases e
    | ok f a1 =>
      rw [h] at e
      cases f with
      | nx => cases e; exact ⟨_, _, rfl, q⟩
      | ret d => cases e; exact ⟨_, _, rfl, q⟩
      | bk => cases e
      | ct => cases e
  · rintro ⟨f, a1, h, q⟩
    rw [h]
    cases f with
    | nx => exact ⟨_, _, rfl, q⟩
    | ret d => exact ⟨_, _, rfl, q⟩
    | bk => exact q.elim
    | ct => exact q.elim
theorem ok_forL {t : TgM} {body : M Fl} {Q : Fl → AS → Prop} (I : List D → AS → Prop) (stop : ∀ a, I [] a → Q .nx a) (step : ∀ d ds a, I (d :: ds) a → ∃ a1, t d a = some a1 ∧ Ok body a1 fun f a2 => match f with
    | .nx => I ds a2
    | .ct => I ds a2
    | .bk => Q .nx a2
    | .ret r => Q (.ret r) a2) : ∀ (ds : List D) (a : AS), I ds a → Ok (forL t body ds) a Q
  | [], a, h => ⟨_, _, rfl, stop a h⟩
  | d :: ds, a, h => by
    obtain ⟨a1, e, f, a2, e2, q⟩ := step d ds a h
    unfold Ok forL
    simp only [e, e2]
    cases f with
    | nx => exact ok_forL I stop step ds a2 q
    | ct => exact ok_forL I stop step ds a2 q
    | bk => exact ⟨_, _, rfl, q⟩
    | ret r => exact ⟨_, _, rfl, q⟩
theorem ok_forM {mi : M (List D)} {t : TgM} {body : M Fl} {Q : Fl → AS → Prop} : Ok (forM mi t body) a Q ↔ Ok mi a fun ds a' => Ok (forL t body ds) a' Q := by unfold forM; exact ok_bd
theorem ok_lcL {t : TgM} {test : M Bool} {elt : M D} {sl : List Slot} {Q : List D → List Cell → Prop} (I : List D → List Cell → List D → Prop) (stop : ∀ st acc, I [] st acc → Q acc st)
    (step : ∀ d ds st acc, I (d :: ds) st acc → ∃ a1, t d ⟨sl, st⟩ = some a1 ∧ Ok test a1 fun b a2 => if b = true then Ok elt a2 fun x a3 => I ds a3.st (acc ++ [x]) ∧ acc.length < 100000 else I ds a2.st acc) :
    ∀ (ds : List D) (st : List Cell) (acc : List D), I ds st acc → ∃ xs a', lcL t test elt sl ds st acc = .ok xs a' ∧ Q xs a'.st
  | [], st, acc, h => ⟨_, _, rfl, stop st acc h⟩
  | d :: ds, st, acc, h => by
    obtain ⟨a1, e, b, a2, e2, q⟩ := step d ds st acc h
    unfold lcL
    rw [e]
    dsimp only
    rw [e2]
    cases b with
    | false => exact ok_lcL I stop step ds _ _ (by simpa using q)
    | true =>
      obtain ⟨x, a3, e3, q, hl⟩ := (show Ok elt a2 fun x a3 => I ds a3.st (acc ++ [x]) ∧ acc.length < 100000 by simpa using q)
      dsimp only
      rw [e3]
      dsimp only
      rw [if_pos hl]
      exact ok_lcL I stop step ds _ _ q
theorem ok_lcM {vs : List Nat} {mi : M (List D)} {t : TgM} {test : M Bool} {elt : M D} {Q : List D → AS → Prop} : Ok (lcM vs mi t test elt) a Q ↔ Ok mi a fun ds a' => ∃ xs a2, lcL t test elt (hideL vs a'.sl) ds a'.st [] = .ok xs a2 ∧ Q xs ⟨a'.sl, a2.st⟩ := by
  unfold lcM
  rw [ok_bd]
  constructor
  · intro h
    refine h.imp fun ds a' ⟨x, a2, e, q⟩ => ?_
    dsimp only at e
    cases h2 : lcL t test elt (hideL vs a'.sl) ds a'.st [] with
    | stuck => rw [h2] at e; cases e
    | exc c fs a1 => rw [h2] at e; cases e
    | ok xs a1 => rw [h2] at e; cases e; exact ⟨_, _, rfl, q⟩
  · intro h
    refine h.imp fun ds a' ⟨xs, a2, e, q⟩ => ?_
    exact ⟨xs, ⟨a'.sl, a2.st⟩, by dsimp only; rw [e], q⟩
end
end PL

namespace PL.k05
open PySem PySem.Spec PyProof.Rows L2
def xs : List Str := ["Amount", "Grid", "LaneError", "NoGrid"]
def nI : Nat := 2
def fls : List (List Str) := [["top", "bottom", "slope", "clock"], ["columns", "rows", "fields", "more_columns", "more_rows", "flow", "dense", "column_gap", "row_gap", "justify", "align", "items_justify", "items_align"]]
def tb : TB := mkTB nI fls

def M__law_draw : M Fl := seqM (ifM (op2 gtM (bd (varM 0) fun x => bd (ret (.int 0)) fun i => rdM fun st => ixM st x i) (ret (.int 0)))
    (seqM (setM 2 (opM modM (calM intM (consM (bd (varM 0) fun x => bd (ret (.int 0)) fun i => rdM fun st => ixM st x i) nilM)) (varM 1)))
    (seqM (subC (varM 0) (ret (.int 0)) (opM fdivM (bd (varM 0) fun x => bd (ret (.int 0)) fun i => rdM fun st => ixM st x i) (varM 1)))
    (retM (varM 2))))
    (nxM))
    (seqM (subC (varM 0) (ret (.int 2)) (opM addM (bd (varM 0) fun x => bd (ret (.int 2)) fun i => rdM fun st => ixM st x i) (ret (.int 1))))
    (seqM (setM 3 (opM modM (calM intM (consM (opM mulM (opM addM (opM addM (bd (varM 0) fun x => bd (ret (.int 1)) fun i => rdM fun st => ixM st x i) (opM mulM (ret (.int 104729)) (bd (varM 0) fun x => bd (ret (.int 2)) fun i => rdM fun st => ixM st x i))) (ret (.int 1))) (ret (.int 48271))) nilM)) (ret (.int 2147483647))))
    (seqM (setM 3 (opM modM (calM intM (consM (opM mulM (varM 3) (opM addM (opM fdivM (varM 3) (ret (.int 1009))) (ret (.int 69621)))) nilM)) (ret (.int 2147483647))))
    (retM (opM modM (calM intM (consM (opM modM (calM intM (consM (opM mulM (varM 3) (opM addM (opM fdivM (varM 3) (ret (.int 2003))) (ret (.int 40692)))) nilM)) (ret (.int 2147483399))) nilM)) (varM 1))))))
def f__law_draw : FD := mkF 4 M__law_draw
def M__law_fixed : M Fl := seqM (setM 1 (bd (bd (consM (ret (.int 0)) (consM (ret (.int 10)) (consM (ret (.int 25)) (consM (bd (consM (ret (.int 1)) (consM (ret (.int 2)) nilM)) fun xs => if xs.length ≤ 1000 then ret (.tup xs) else no) (consM (ret (.int 100)) (consM (callA 2 f__law_draw [] (consM (varM 0) (consM (ret (.int 80)) nilM))) (consM (bd (consM (ret (.str "part")) (consM (bd (consM (ret (.int 1)) (consM (ret (.int 2)) nilM)) fun xs => if xs.length ≤ 1000 then ret (.tup xs) else no) nilM)) fun xs => if xs.length ≤ 1000 then ret (.tup xs) else no) (consM (bd (consM (ret (.str "part")) (consM (bd (consM (ret (.int 1)) (consM (ret (.int 3)) nilM)) fun xs => if xs.length ≤ 1000 then ret (.tup xs) else no) nilM)) fun xs => if xs.length ≤ 1000 then ret (.tup xs) else no) (consM (bd (consM (ret (.str "part")) (consM (ret (.int 0)) nilM)) fun xs => if xs.length ≤ 1000 then ret (.tup xs) else no) (consM (bd (consM (ret (.str "part")) (consM (ret (.int 1)) nilM)) fun xs => if xs.length ≤ 1000 then ret (.tup xs) else no) nilM)))))))))) fun xs => if xs.length ≤ 1000 then ret xs else no) fun ds => ret (.lst ds)))
    (retM (bd (varM 1) fun x => bd (callA 2 f__law_draw [] (consM (varM 0) (consM (ret (.int 10)) nilM))) fun i => rdM fun st => ixM st x i))
def f__law_fixed : FD := mkF 2 M__law_fixed
def M__law_one : M Fl := retM (bd (varM 1) fun x => bd (callA 2 f__law_draw [] (consM (varM 0) (consM (calM lenM (consM (varM 1) nilM)) nilM))) fun i => rdM fun st => ixM st x i)
def f__law_one : FD := mkF 2 M__law_one
def M__law_share : M Fl := retM (bd (consM (ret (.str "share")) (consM (bd (bd (bd (consM (ret (.int 1)) (consM (ret (.int 1)) (consM (ret (.int 2)) (consM (ret (.int 0)) (consM (bd (consM (ret (.int 1)) (consM (ret (.int 2)) nilM)) fun xs => if xs.length ≤ 1000 then ret (.tup xs) else no) (consM (bd (consM (ret (.int 1)) (consM (ret (.int 3)) nilM)) fun xs => if xs.length ≤ 1000 then ret (.tup xs) else no) (consM (ret (.int 7)) nilM))))))) fun xs => if xs.length ≤ 1000 then ret xs else no) fun ds => ret (.lst ds)) fun x => bd (callA 2 f__law_draw [] (consM (varM 0) (consM (ret (.int 7)) nilM))) fun i => rdM fun st => ixM st x i) nilM)) fun xs => if xs.length ≤ 1000 then ret (.tup xs) else no)
def f__law_share : FD := mkF 1 M__law_share
def M__law_counted : M Fl := seqM (setM 1 (bd (bd (consM (ret (.str "auto")) (consM (ret (.str "least")) (consM (ret (.str "most")) nilM))) fun xs => if xs.length ≤ 1000 then ret xs else no) fun ds => ret (.lst ds)))
    (seqM (setM 2 (callA 2 f__law_draw [] (consM (varM 0) (consM (ret (.int 3)) nilM))))
    (seqM (ifM (op2 eqM (varM 2) (ret (.int 0)))
    (retM (callA 1 f__law_fixed [] (consM (varM 0) nilM)))
    (nxM))
    (seqM (ifM (op2 eqM (varM 2) (ret (.int 1)))
    (retM (bd (consM (ret (.str "between")) (consM (callA 1 f__law_fixed [] (consM (varM 0) nilM)) (consM (callA 2 f__law_one [] (consM (varM 0) (consM (bd (catM (varM 1) (bd (bd (consM (callA 1 f__law_fixed [] (consM (varM 0) nilM)) (consM (callA 1 f__law_share [] (consM (varM 0) nilM)) nilM)) fun xs => if xs.length ≤ 1000 then ret xs else no) fun ds => ret (.lst ds))) fun ds => ret (.lst ds)) nilM))) nilM))) fun xs => if xs.length ≤ 1000 then ret (.tup xs) else no))
    (nxM))
    (retM (bd (consM (ret (.str "between")) (consM (callA 2 f__law_one [] (consM (varM 0) (consM (varM 1) nilM))) (consM (callA 1 f__law_fixed [] (consM (varM 0) nilM)) nilM))) fun xs => if xs.length ≤ 1000 then ret (.tup xs) else no)))))
def f__law_counted : FD := mkF 3 M__law_counted
def M__law_size : M Fl := seqM (setM 1 (bd (bd (consM (ret (.str "auto")) (consM (ret (.str "least")) (consM (ret (.str "most")) nilM))) fun xs => if xs.length ≤ 1000 then ret xs else no) fun ds => ret (.lst ds)))
    (seqM (setM 2 (callA 2 f__law_draw [] (consM (varM 0) (consM (ret (.int 8)) nilM))))
    (seqM (ifM (op2 ltM (varM 2) (ret (.int 2)))
    (retM (callA 1 f__law_fixed [] (consM (varM 0) nilM)))
    (nxM))
    (seqM (ifM (op2 eqM (varM 2) (ret (.int 2)))
    (retM (callA 1 f__law_share [] (consM (varM 0) nilM)))
    (nxM))
    (seqM (ifM (op2 ltM (varM 2) (ret (.int 5)))
    (retM (callA 2 f__law_one [] (consM (varM 0) (consM (varM 1) nilM))))
    (nxM))
    (seqM (ifM (op2 eqM (varM 2) (ret (.int 5)))
    (retM (bd (consM (ret (.str "upto")) (consM (callA 1 f__law_fixed [] (consM (varM 0) nilM)) nilM)) fun xs => if xs.length ≤ 1000 then ret (.tup xs) else no))
    (nxM))
    (seqM (setM 3 (callA 2 f__law_one [] (consM (varM 0) (consM (bd (catM (varM 1) (bd (bd (consM (callA 1 f__law_fixed [] (consM (varM 0) nilM)) (consM (callA 1 f__law_fixed [] (consM (varM 0) nilM)) nilM)) fun xs => if xs.length ≤ 1000 then ret xs else no) fun ds => ret (.lst ds))) fun ds => ret (.lst ds)) nilM))))
    (retM (bd (consM (ret (.str "between")) (consM (varM 3) (consM (callA 2 f__law_one [] (consM (varM 0) (consM (bd (catM (varM 1) (bd (bd (consM (callA 1 f__law_fixed [] (consM (varM 0) nilM)) (consM (callA 1 f__law_share [] (consM (varM 0) nilM)) nilM)) fun xs => if xs.length ≤ 1000 then ret xs else no) fun ds => ret (.lst ds))) fun ds => ret (.lst ds)) nilM))) nilM))) fun xs => if xs.length ≤ 1000 then ret (.tup xs) else no))))))))
def f__law_size : FD := mkF 4 M__law_size
def M__law_names : M Fl := seqM (setM 1 (bd (bd (consM (ret (.str "a")) (consM (ret (.str "b")) (consM (ret (.str "main")) (consM (ret (.str "side-start")) (consM (ret (.str "side-end")) (consM (ret (.str "x9")) nilM)))))) fun xs => if xs.length ≤ 1000 then ret xs else no) fun ds => ret (.lst ds)))
    (retM (calM tupleM (consM (bd (lcM [2] (range1M (consM (callA 2 f__law_draw [] (consM (varM 0) (consM (ret (.int 3)) nilM))) nilM)) (tgN 2) yesM (callA 2 f__law_one [] (consM (varM 0) (consM (varM 1) nilM)))) fun ds => ret (.lst ds)) nilM)))
def f__law_names : FD := mkF 3 M__law_names
def M__law_plain : M Fl := seqM (ownM 3 (bd nilM fun xs => if xs.length ≤ 1000 then ret xs else no))
    (seqM (forM (range1M (consM (opM addM (ret (.int 1)) (callA 2 f__law_draw [] (consM (varM 0) (consM (varM 1) nilM)))) nilM)) (tgN 4)
    (seqM (ifM (op2 eqM (callA 2 f__law_draw [] (consM (varM 0) (consM (ret (.int 3)) nilM))) (ret (.int 0)))
    (exprM (methO 3 appF (consM (bd (consM (ret (.str "names")) (consM (callA 1 f__law_names [] (consM (varM 0) nilM)) nilM)) fun xs => if xs.length ≤ 1000 then ret (.tup xs) else no) nilM)))
    (nxM))
    (exprM (methO 3 appF (consM (ifM (tstM (varM 2)) (callA 1 f__law_counted [] (consM (varM 0) nilM)) (callA 1 f__law_size [] (consM (varM 0) nilM))) nilM)))))
    (retM (calM tupleM (consM (varM 3) nilM))))
def f__law_plain : FD := mkF 5 M__law_plain
def M__law_template : M Fl := seqM (ownM 2 (ifM (op2 gtM (callA 2 f__law_draw [] (consM (varM 0) (consM (ret (.int 4)) nilM))) (ret (.int 0))) (listM (consM (callA 3 f__law_plain [] (consM (varM 0) (consM (ret (.int 3)) (consM (varM 1) nilM)))) nilM)) (bd nilM fun xs => if xs.length ≤ 1000 then ret xs else no)))
    (seqM (ifM (op2 eqM (callA 2 f__law_draw [] (consM (varM 0) (consM (ret (.int 3)) nilM))) (ret (.int 0)))
    (exprM (methO 2 appF (consM (bd (consM (ret (.str "repeat")) (consM (opM addM (ret (.int 1)) (callA 2 f__law_draw [] (consM (varM 0) (consM (ret (.int 3)) nilM)))) (consM (callA 3 f__law_plain [] (consM (varM 0) (consM (ret (.int 2)) (consM (varM 1) nilM)))) nilM))) fun xs => if xs.length ≤ 1000 then ret (.tup xs) else no) nilM)))
    (nxM))
    (seqM (ifM (tstM (varM 1))
    (exprM (methO 2 insF (consM (callA 2 f__law_draw [] (consM (varM 0) (consM (opM addM (lenO 2) (ret (.int 1))) nilM))) (consM (bd (consM (callA 2 f__law_one [] (consM (varM 0) (consM (bd (bd (consM (ret (.str "fill")) (consM (ret (.str "fit")) nilM)) fun xs => if xs.length ≤ 1000 then ret xs else no) fun ds => ret (.lst ds)) nilM))) (consM (callA 3 f__law_plain [] (consM (varM 0) (consM (ret (.int 2)) (consM (ret (.bl true)) nilM)))) nilM)) fun xs => if xs.length ≤ 1000 then ret (.tup xs) else no) nilM))))
    (nxM))
    (retM (calM tupleM (consM (varM 2) nilM)))))
def f__law_template : FD := mkF 3 M__law_template
def M__law_fields : M Fl := seqM (parM 1 2 (opM addM (ret (.int 1)) (callA 2 f__law_draw [] (consM (varM 0) (consM (ret (.int 4)) nilM)))) (callA 2 f__law_draw [] (consM (varM 0) (consM (ret (.int 4)) nilM))))
    (seqM (asgM (tgTup 2 (tgCons (tgN 3) (tgCons (tgN 4) tgNil))) (bd (consM (callA 2 f__law_draw [] (consM (varM 0) (consM (varM 1) nilM))) (consM (callA 2 f__law_draw [] (consM (varM 0) (consM (opM addM (varM 2) (ret (.int 1))) nilM))) nilM)) fun xs => if xs.length ≤ 1000 then ret (.tup xs) else no))
    (seqM (ownM 5 (bd nilM fun xs => if xs.length ≤ 1000 then ret xs else no))
    (seqM (forM (range1M (consM (varM 2) nilM)) (tgN 6)
    (exprM (methO 5 appF (consM (calM tupleM (consM (bd (lcM [7] (range1M (consM (varM 1) nilM)) (tgN 7) yesM (ifM (andM (op2 geM (varM 6) (varM 4)) (op2 geM (varM 7) (varM 3))) (ret (.str "main")) (ret (.str ".")))) fun ds => ret (.lst ds)) nilM)) nilM))))
    (retM (calM tupleM (consM (varM 5) nilM))))))
def f__law_fields : FD := mkF 8 M__law_fields
def M__law_values : M Fl := seqM (setM 1 (bd (bd (consM (ret (.str "start")) (consM (ret (.str "end")) (consM (ret (.str "center")) (consM (ret (.str "stretch")) (consM (ret (.str "between")) (consM (ret (.str "around")) (consM (ret (.str "evenly")) nilM))))))) fun xs => if xs.length ≤ 1000 then ret xs else no) fun ds => ret (.lst ds)))
    (seqM (ownM 2 (bd (consM (callA 2 f__law_template [] (consM (varM 0) (consM (blM (op2 eqM (callA 2 f__law_draw [] (consM (varM 0) (consM (ret (.int 2)) nilM))) (ret (.int 0)))) nilM))) (consM (callA 2 f__law_template [] (consM (varM 0) (consM (blM (op2 eqM (callA 2 f__law_draw [] (consM (varM 0) (consM (ret (.int 3)) nilM))) (ret (.int 0)))) nilM))) nilM)) fun xs => if xs.length ≤ 1000 then ret xs else no))
    (seqM (exprM (methO 2 appF (consM (callA 1 f__law_fields [] (consM (varM 0) nilM)) nilM)))
    (seqM (ifM (op2 eqM (callA 2 f__law_draw [] (consM (varM 0) (consM (ret (.int 5)) nilM))) (ret (.int 0)))
    (subO 2 (callA 2 f__law_draw [] (consM (varM 0) (consM (ret (.int 2)) nilM))) (bd (consM (ret (.str "inherited")) (consM (calM tupleM (consM (bd (lcM [3] (range1M (consM (callA 2 f__law_draw [] (consM (varM 0) (consM (ret (.int 4)) nilM))) nilM)) (tgN 3) yesM (callA 1 f__law_names [] (consM (varM 0) nilM))) fun ds => ret (.lst ds)) nilM)) nilM)) fun xs => if xs.length ≤ 1000 then ret (.tup xs) else no))
    (nxM))
    (seqM (forM (range1M (consM (ret (.int 2)) nilM)) (tgN 3)
    (exprM (methO 2 appF (consM (calM tupleM (consM (bd (lcM [4] (range1M (consM (opM addM (ret (.int 1)) (callA 2 f__law_draw [] (consM (varM 0) (consM (ret (.int 8)) nilM)))) nilM)) (tgN 4) yesM (callA 1 f__law_size [] (consM (varM 0) nilM))) fun ds => ret (.lst ds)) nilM)) nilM))))
    (seqM (ownM 2 (catM (varM 2) (bd (bd (consM (callA 2 f__law_one [] (consM (varM 0) (consM (bd (bd (consM (ret (.str "row")) (consM (ret (.str "column")) nilM)) fun xs => if xs.length ≤ 1000 then ret xs else no) fun ds => ret (.lst ds)) nilM))) (consM (blM (op2 eqM (callA 2 f__law_draw [] (consM (varM 0) (consM (ret (.int 2)) nilM))) (ret (.int 0)))) (consM (callA 1 f__law_fixed [] (consM (varM 0) nilM)) (consM (callA 1 f__law_fixed [] (consM (varM 0) nilM)) nilM)))) fun xs => if xs.length ≤ 1000 then ret xs else no) fun ds => ret (.lst ds))))
    (seqM (ownM 2 (catM (varM 2) (bd (bd (consM (callA 2 f__law_one [] (consM (varM 0) (consM (varM 1) nilM))) (consM (callA 2 f__law_one [] (consM (varM 0) (consM (varM 1) nilM))) nilM)) fun xs => if xs.length ≤ 1000 then ret xs else no) fun ds => ret (.lst ds))))
    (retM (bd (catM (varM 2) (bd (bd (consM (callA 2 f__law_one [] (consM (varM 0) (consM (bd (bd (consM (ret (.str "start")) (consM (ret (.str "end")) (consM (ret (.str "center")) (consM (ret (.str "stretch")) nilM)))) fun xs => if xs.length ≤ 1000 then ret xs else no) fun ds => ret (.lst ds)) nilM))) (consM (callA 2 f__law_one [] (consM (varM 0) (consM (bd (catM (bd (bd (varM 1) fun x => bd noneM fun l => bd (someM (ret (.int 4))) fun h => rdM fun st => (lstOf st x).map fun ds => cutD ds l h) fun ds => ret (.lst ds)) (bd (bd (consM (ret (.str "baseline")) nilM) fun xs => if xs.length ≤ 1000 then ret xs else no) fun ds => ret (.lst ds))) fun ds => ret (.lst ds)) nilM))) nilM)) fun xs => if xs.length ≤ 1000 then ret xs else no) fun ds => ret (.lst ds))) fun ds => ret (.lst ds)))))))))
def f__law_values : FD := mkF 5 M__law_values
def M_is_name : M Fl := seqM (ifM (orM (notM (tstM (calM (isiM tb.ins) (consM (varM 0) (consM (ret (.ty "str")) nilM))))) (orM (notM (chM leM leM (ret (.int 1)) (calM lenM (consM (varM 0) nilM)) (ret (.int 16)))) (op2 eqM (varM 0) (ret (.str "span")))))
    (retM (ret (.bl false)))
    (nxM))
    (retM (andV (blM (op2 inM (bd (varM 0) fun x => bd (ret (.int 0)) fun i => rdM fun st => ixM st x i) (ret (.str "abcdefghijklmnopqrstuvwxyz")))) (calM allM (consM (bd (lcM [1] (seqM' (varM 0)) (tgN 1) yesM (blM (op2 inM (varM 1) (ret (.str "abcdefghijklmnopqrstuvwxyz0123456789-"))))) fun ds => ret (.lst ds)) nilM))))
def f_is_name : FD := mkF 2 M_is_name
def M_are_names : M Fl := retM (andV (calM (isiM tb.ins) (consM (varM 0) (consM (ret (.ty "tuple")) nilM))) (calM allM (consM (bd (lcM [1] (seqM' (varM 0)) (tgN 1) yesM (callA 1 f_is_name [] (consM (varM 1) nilM))) fun ds => ret (.lst ds)) nilM)))
def f_are_names : FD := mkF 2 M_are_names
def M_is_inherited : M Fl := seqM (ifM (orM (notM (tstM (calM (isiM tb.ins) (consM (varM 0) (consM (ret (.ty "tuple")) nilM))))) (orM (op2 neM (calM lenM (consM (varM 0) nilM)) (ret (.int 2))) (op2 neM (bd (varM 0) fun x => bd (ret (.int 0)) fun i => rdM fun st => ixM st x i) (ret (.str "inherited")))))
    (retM (ret (.bl false)))
    (nxM))
    (retM (andV (calM (isiM tb.ins) (consM (bd (varM 0) fun x => bd (ret (.int 1)) fun i => rdM fun st => ixM st x i) (consM (ret (.ty "tuple")) nilM))) (andV (blM (op2 leM (calM lenM (consM (bd (varM 0) fun x => bd (ret (.int 1)) fun i => rdM fun st => ixM st x i) nilM)) (ret (.int 40)))) (calM allM (consM (bd (lcM [1] (seqM' (bd (varM 0) fun x => bd (ret (.int 1)) fun i => rdM fun st => ixM st x i)) (tgN 1) yesM (callA 1 f_are_names [] (consM (varM 1) nilM))) fun ds => ret (.lst ds)) nilM)))))
def f_is_inherited : FD := mkF 2 M_is_inherited
def M_is_int : M Fl := retM (andV (calM (isiM tb.ins) (consM (varM 0) (consM (ret (.ty "int")) nilM))) (notV (calM (isiM tb.ins) (consM (varM 0) (consM (ret (.ty "bool")) nilM)))))
def f_is_int : FD := mkF 1 M_is_int
def M_divisor_of : M Fl := seqM (parM 0 1 (calM absM (consM (varM 0) nilM)) (calM absM (consM (varM 1) nilM)))
    (seqM (whileM (fun a => match a.sl.getD 1 .emp with | .val (.int k) => k.natAbs + 1 | _ => 0) (op2 neM (varM 1) (ret (.int 0)))
    (parM 0 1 (varM 1) (opM modM (varM 0) (varM 1))))
    (retM (varM 0)))
def f_divisor_of : FD := mkF 2 M_divisor_of
def M_is_number : M Fl := seqM (ifM (orM (tstM (callA 1 f_is_int [] (consM (varM 0) nilM))) (tstM (calM (isiM tb.ins) (consM (varM 0) (consM (ret (.cls 0)) nilM)))))
    (retM (ret (.bl true)))
    (nxM))
    (seqM (ifM (orM (notM (tstM (calM (isiM tb.ins) (consM (varM 0) (consM (ret (.ty "tuple")) nilM))))) (orM (op2 neM (calM lenM (consM (varM 0) nilM)) (ret (.int 2))) (orM (notM (tstM (callA 1 f_is_int [] (consM (bd (varM 0) fun x => bd (ret (.int 0)) fun i => rdM fun st => ixM st x i) nilM)))) (notM (tstM (callA 1 f_is_int [] (consM (bd (varM 0) fun x => bd (ret (.int 1)) fun i => rdM fun st => ixM st x i) nilM)))))))
    (retM (ret (.bl false)))
    (nxM))
    (retM (andV (blM (op2 gtM (bd (varM 0) fun x => bd (ret (.int 1)) fun i => rdM fun st => ixM st x i) (ret (.int 1)))) (blM (op2 eqM (callA 2 f_divisor_of [] (consM (bd (varM 0) fun x => bd (ret (.int 0)) fun i => rdM fun st => ixM st x i) (consM (bd (varM 0) fun x => bd (ret (.int 1)) fun i => rdM fun st => ixM st x i) nilM))) (ret (.int 1)))))))
def f_is_number : FD := mkF 1 M_is_number
def M_halves_of : M Fl := retM (ifM (tstM (callA 1 f_is_int [] (consM (varM 0) nilM))) (bd (consM (varM 0) (consM (ret (.int 1)) nilM)) fun xs => if xs.length ≤ 1000 then ret (.tup xs) else no) (varM 0))
def f_halves_of : FD := mkF 1 M_halves_of
def M_is_length : M Fl := seqM (ifM (tstM (calM (isiM tb.ins) (consM (varM 0) (consM (ret (.cls 0)) nilM))))
    (retM (ret (.bl true)))
    (nxM))
    (retM (andV (callA 1 f_is_number [] (consM (varM 0) nilM)) (blM (op2 geM (bd (callA 1 f_halves_of [] (consM (varM 0) nilM)) fun x => bd (ret (.int 0)) fun i => rdM fun st => ixM st x i) (ret (.int 0))))))
def f_is_length : FD := mkF 1 M_is_length
def M_is_part : M Fl := seqM (ifM (orM (notM (tstM (calM (isiM tb.ins) (consM (varM 0) (consM (ret (.ty "tuple")) nilM))))) (orM (op2 neM (calM lenM (consM (varM 0) nilM)) (ret (.int 2))) (op2 neM (bd (varM 0) fun x => bd (ret (.int 0)) fun i => rdM fun st => ixM st x i) (ret (.str "part")))))
    (retM (ret (.bl false)))
    (nxM))
    (retM (callA 1 f_is_length [] (consM (bd (varM 0) fun x => bd (ret (.int 1)) fun i => rdM fun st => ixM st x i) nilM)))
def f_is_part : FD := mkF 1 M_is_part
def M_is_fixed : M Fl := retM (orV (callA 1 f_is_length [] (consM (varM 0) nilM)) (callA 1 f_is_part [] (consM (varM 0) nilM)))
def f_is_fixed : FD := mkF 1 M_is_fixed
def M_is_share : M Fl := seqM (ifM (orM (notM (tstM (calM (isiM tb.ins) (consM (varM 0) (consM (ret (.ty "tuple")) nilM))))) (orM (op2 neM (calM lenM (consM (varM 0) nilM)) (ret (.int 2))) (op2 neM (bd (varM 0) fun x => bd (ret (.int 0)) fun i => rdM fun st => ixM st x i) (ret (.str "share")))))
    (retM (ret (.bl false)))
    (nxM))
    (retM (callA 1 f_is_length [] (consM (bd (varM 0) fun x => bd (ret (.int 1)) fun i => rdM fun st => ixM st x i) nilM)))
def f_is_share : FD := mkF 1 M_is_share
def M_is_word : M Fl := retM (andV (calM (isiM tb.ins) (consM (varM 0) (consM (ret (.ty "str")) nilM))) (blM (op2 inM (varM 0) (ret (.tup ([.str "auto", .str "least", .str "most"]))))))
def f_is_word : FD := mkF 1 M_is_word
def M_is_upto : M Fl := retM (andV (calM (isiM tb.ins) (consM (varM 0) (consM (ret (.ty "tuple")) nilM))) (andV (blM (op2 eqM (calM lenM (consM (varM 0) nilM)) (ret (.int 2)))) (andV (blM (op2 eqM (bd (varM 0) fun x => bd (ret (.int 0)) fun i => rdM fun st => ixM st x i) (ret (.str "upto")))) (callA 1 f_is_fixed [] (consM (bd (varM 0) fun x => bd (ret (.int 1)) fun i => rdM fun st => ixM st x i) nilM)))))
def f_is_upto : FD := mkF 1 M_is_upto
def M_is_between : M Fl := seqM (ifM (orM (notM (tstM (calM (isiM tb.ins) (consM (varM 0) (consM (ret (.ty "tuple")) nilM))))) (orM (op2 neM (calM lenM (consM (varM 0) nilM)) (ret (.int 3))) (op2 neM (bd (varM 0) fun x => bd (ret (.int 0)) fun i => rdM fun st => ixM st x i) (ret (.str "between")))))
    (retM (ret (.bl false)))
    (nxM))
    (seqM (parM 1 2 (bd (varM 0) fun x => bd (ret (.int 1)) fun i => rdM fun st => ixM st x i) (bd (varM 0) fun x => bd (ret (.int 2)) fun i => rdM fun st => ixM st x i))
    (retM (andV (orV (callA 1 f_is_fixed [] (consM (varM 1) nilM)) (callA 1 f_is_word [] (consM (varM 1) nilM))) (orV (callA 1 f_is_fixed [] (consM (varM 2) nilM)) (orV (callA 1 f_is_word [] (consM (varM 2) nilM)) (callA 1 f_is_share [] (consM (varM 2) nilM)))))))
def f_is_between : FD := mkF 3 M_is_between
def M_is_size : M Fl := retM (orV (callA 1 f_is_fixed [] (consM (varM 0) nilM)) (orV (callA 1 f_is_share [] (consM (varM 0) nilM)) (orV (callA 1 f_is_word [] (consM (varM 0) nilM)) (orV (callA 1 f_is_upto [] (consM (varM 0) nilM)) (callA 1 f_is_between [] (consM (varM 0) nilM))))))
def f_is_size : FD := mkF 1 M_is_size
def M_is_plain_entry : M Fl := seqM (ifM (andM (tstM (calM (isiM tb.ins) (consM (varM 0) (consM (ret (.ty "tuple")) nilM)))) (andM (op2 eqM (calM lenM (consM (varM 0) nilM)) (ret (.int 2))) (op2 eqM (bd (varM 0) fun x => bd (ret (.int 0)) fun i => rdM fun st => ixM st x i) (ret (.str "names")))))
    (retM (callA 1 f_are_names [] (consM (bd (varM 0) fun x => bd (ret (.int 1)) fun i => rdM fun st => ixM st x i) nilM)))
    (nxM))
    (retM (callA 1 f_is_size [] (consM (varM 0) nilM)))
def f_is_plain_entry : FD := mkF 1 M_is_plain_entry
def M_sizes_in : M Fl := retM (bd (lcM [1] (seqM' (varM 0)) (tgN 1) (tstM (callA 1 f_is_size [] (consM (varM 1) nilM))) (varM 1)) fun ds => ret (.lst ds))
def f_sizes_in : FD := mkF 2 M_sizes_in
def M_are_plain : M Fl := seqM (ifM (orM (notM (tstM (calM (isiM tb.ins) (consM (varM 0) (consM (ret (.ty "tuple")) nilM))))) (notM (tstM (calM allM (consM (bd (lcM [1] (seqM' (varM 0)) (tgN 1) yesM (callA 1 f_is_plain_entry [] (consM (varM 1) nilM))) fun ds => ret (.lst ds)) nilM)))))
    (retM (ret (.bl false)))
    (nxM))
    (retM (blM (op2 neM (callA 1 f_sizes_in [] (consM (varM 0) nilM)) (bd (bd nilM fun xs => if xs.length ≤ 1000 then ret xs else no) fun ds => ret (.lst ds)))))
def f_are_plain : FD := mkF 2 M_are_plain
def M_is_repeat : M Fl := seqM (ifM (orM (notM (tstM (calM (isiM tb.ins) (consM (varM 0) (consM (ret (.ty "tuple")) nilM))))) (orM (op2 neM (calM lenM (consM (varM 0) nilM)) (ret (.int 3))) (op2 neM (bd (varM 0) fun x => bd (ret (.int 0)) fun i => rdM fun st => ixM st x i) (ret (.str "repeat")))))
    (retM (ret (.bl false)))
    (nxM))
    (retM (andV (callA 1 f_is_int [] (consM (bd (varM 0) fun x => bd (ret (.int 1)) fun i => rdM fun st => ixM st x i) nilM)) (andV (chV leM leM (ret (.int 1)) (bd (varM 0) fun x => bd (ret (.int 1)) fun i => rdM fun st => ixM st x i) (ret (.int 20))) (callA 1 f_are_plain [] (consM (bd (varM 0) fun x => bd (ret (.int 2)) fun i => rdM fun st => ixM st x i) nilM)))))
def f_is_repeat : FD := mkF 1 M_is_repeat
def M_is_filling : M Fl := seqM (ifM (orM (notM (tstM (calM (isiM tb.ins) (consM (varM 0) (consM (ret (.ty "tuple")) nilM))))) (orM (op2 neM (calM lenM (consM (varM 0) nilM)) (ret (.int 2))) (op2 notInM (bd (varM 0) fun x => bd (ret (.int 0)) fun i => rdM fun st => ixM st x i) (bd (consM (ret (.str "fill")) (consM (ret (.str "fit")) nilM)) fun xs => if xs.length ≤ 1000 then ret (.tup xs) else no))))
    (retM (ret (.bl false)))
    (nxM))
    (retM (callA 1 f_are_plain [] (consM (bd (varM 0) fun x => bd (ret (.int 1)) fun i => rdM fun st => ixM st x i) nilM)))
def f_is_filling : FD := mkF 1 M_is_filling
def M_sizes_of : M Fl := seqM (ownM 1 (bd nilM fun xs => if xs.length ≤ 1000 then ret xs else no))
    (seqM (forM (seqM' (varM 0)) (tgN 2)
    (ifM (tstM (callA 1 f_is_repeat [] (consM (varM 2) nilM)))
    (exprM (methO 1 extF (consM (bd (repM (callA 1 f_sizes_in [] (consM (bd (varM 2) fun x => bd (ret (.int 2)) fun i => rdM fun st => ixM st x i) nilM)) (bd (varM 2) fun x => bd (ret (.int 1)) fun i => rdM fun st => ixM st x i)) fun ds => ret (.lst ds)) nilM)))
    (ifM (tstM (callA 1 f_is_filling [] (consM (varM 2) nilM)))
    (exprM (methO 1 extF (consM (callA 1 f_sizes_in [] (consM (bd (varM 2) fun x => bd (ret (.int 1)) fun i => rdM fun st => ixM st x i) nilM)) nilM)))
    (ifM (tstM (callA 1 f_is_size [] (consM (varM 2) nilM)))
    (exprM (methO 1 appF (consM (varM 2) nilM)))
    (nxM)))))
    (retM (varM 1)))
def f_sizes_of : FD := mkF 3 M_sizes_of
def M_low_of : M Fl := seqM (ifM (orM (tstM (callA 1 f_is_fixed [] (consM (varM 0) nilM))) (tstM (callA 1 f_is_word [] (consM (varM 0) nilM))))
    (retM (varM 0))
    (nxM))
    (retM (ifM (tstM (callA 1 f_is_between [] (consM (varM 0) nilM))) (bd (varM 0) fun x => bd (ret (.int 1)) fun i => rdM fun st => ixM st x i) (ret (.str "auto"))))
def f_low_of : FD := mkF 1 M_low_of
def M_high_of : M Fl := seqM (ifM (tstM (callA 1 f_is_between [] (consM (varM 0) nilM)))
    (retM (bd (varM 0) fun x => bd (ret (.int 2)) fun i => rdM fun st => ixM st x i))
    (nxM))
    (retM (ifM (tstM (callA 1 f_is_upto [] (consM (varM 0) nilM))) (ret (.str "most")) (varM 0)))
def f_high_of : FD := mkF 1 M_high_of
def M_is_counted : M Fl := retM (andV (notV (callA 1 f_is_upto [] (consM (varM 0) nilM))) (orV (callA 1 f_is_fixed [] (consM (callA 1 f_low_of [] (consM (varM 0) nilM)) nilM)) (callA 1 f_is_fixed [] (consM (callA 1 f_high_of [] (consM (varM 0) nilM)) nilM))))
def f_is_counted : FD := mkF 1 M_is_counted
def M_is_template : M Fl := seqM (ifM (tstM (callA 1 f_is_inherited [] (consM (varM 0) nilM)))
    (retM (ret (.bl true)))
    (nxM))
    (seqM (ifM (notM (tstM (calM (isiM tb.ins) (consM (varM 0) (consM (ret (.ty "tuple")) nilM)))))
    (retM (ret (.bl false)))
    (nxM))
    (seqM (ifM (notM (tstM (calM allM (consM (bd (lcM [2] (seqM' (varM 0)) (tgN 2) yesM (orV (callA 1 f_is_plain_entry [] (consM (varM 2) nilM)) (orV (callA 1 f_is_repeat [] (consM (varM 2) nilM)) (callA 1 f_is_filling [] (consM (varM 2) nilM))))) fun ds => ret (.lst ds)) nilM))))
    (retM (ret (.bl false)))
    (nxM))
    (seqM (setM 1 (bd (lcM [2] (seqM' (varM 0)) (tgN 2) (tstM (callA 1 f_is_filling [] (consM (varM 2) nilM))) (varM 2)) fun ds => ret (.lst ds)))
    (seqM (ifM (orM (op2 gtM (calM lenM (consM (callA 1 f_sizes_of [] (consM (varM 0) nilM)) nilM)) (ret (.int 40))) (op2 gtM (calM lenM (consM (varM 1) nilM)) (ret (.int 1))))
    (retM (ret (.bl false)))
    (nxM))
    (retM (orV (blM (op2 eqM (varM 1) (bd (bd nilM fun xs => if xs.length ≤ 1000 then ret xs else no) fun ds => ret (.lst ds)))) (calM allM (consM (bd (lcM [3] (seqM' (callA 1 f_sizes_of [] (consM (varM 0) nilM))) (tgN 3) yesM (callA 1 f_is_counted [] (consM (varM 3) nilM))) fun ds => ret (.lst ds)) nilM))))))))
def f_is_template : FD := mkF 4 M_is_template
def M_is_field_row : M Fl := seqM (ifM (orM (notM (tstM (calM (isiM tb.ins) (consM (varM 0) (consM (ret (.ty "tuple")) nilM))))) (op2 neM (calM lenM (consM (varM 0) nilM)) (varM 1)))
    (retM (ret (.bl false)))
    (nxM))
    (retM (calM allM (consM (bd (lcM [2] (seqM' (varM 0)) (tgN 2) yesM (orV (callA 1 f_is_name [] (consM (varM 2) nilM)) (andV (blM (op2 eqM (varM 2) (ret (.str ".")))) (calM (isiM tb.ins) (consM (varM 2) (consM (ret (.ty "str")) nilM)))))) fun ds => ret (.lst ds)) nilM)))
def f_is_field_row : FD := mkF 3 M_is_field_row
def M_is_rectangle : M Fl := seqM (parM 1 2 (bd (lcM [3] (seqM' (varM 0)) (tgN 3) yesM (bd (varM 3) fun x => bd (ret (.int 0)) fun i => rdM fun st => ixM st x i)) fun ds => ret (.lst ds)) (bd (lcM [3] (seqM' (varM 0)) (tgN 3) yesM (bd (varM 3) fun x => bd (ret (.int 1)) fun i => rdM fun st => ixM st x i)) fun ds => ret (.lst ds)))
    (retM (blM (op2 eqM (calM lenM (consM (varM 0) nilM)) (opM mulM (opM addM (opM subM (calM maxL (consM (varM 1) nilM)) (calM minL (consM (varM 1) nilM))) (ret (.int 1))) (opM addM (opM subM (calM maxL (consM (varM 2) nilM)) (calM minL (consM (varM 2) nilM))) (ret (.int 1)))))))
def f_is_rectangle : FD := mkF 4 M_is_rectangle
def M_cells_of : M Fl := seqM (ownM 2 (bd nilM fun xs => if xs.length ≤ 1000 then ret xs else no))
    (seqM (forM (enumM (consM (varM 0) nilM)) (tgTup 2 (tgCons (tgN 3) (tgCons (tgN 4) tgNil)))
    (exprM (methO 2 extF (consM (bd (lcM [6, 5] (enumM (consM (varM 4) nilM)) (tgTup 2 (tgCons (tgN 6) (tgCons (tgN 5) tgNil))) (op2 eqM (varM 5) (varM 1)) (bd (consM (varM 3) (consM (varM 6) nilM)) fun xs => if xs.length ≤ 1000 then ret (.tup xs) else no)) fun ds => ret (.lst ds)) nilM))))
    (retM (varM 2)))
def f_cells_of : FD := mkF 7 M_cells_of
def M_check_fields : M Fl := seqM (ifM (orM (notM (tstM (calM (isiM tb.ins) (consM (varM 0) (consM (ret (.ty "tuple")) nilM))))) (op2 gtM (calM lenM (consM (varM 0) nilM)) (ret (.int 20))))
    (no)
    (nxM))
    (seqM (forM (enumM (consM (varM 0) nilM)) (tgTup 2 (tgCons (tgN 1) (tgCons (tgN 2) tgNil)))
    (seqM (setM 3 (ifM (tstM (calM (isiM tb.ins) (consM (bd (varM 0) fun x => bd (ret (.int 0)) fun i => rdM fun st => ixM st x i) (consM (ret (.ty "tuple")) nilM)))) (calM lenM (consM (bd (varM 0) fun x => bd (ret (.int 0)) fun i => rdM fun st => ixM st x i) nilM)) (bd (ret (.int 1)) fun x => opt (negM x))))
    (ifM (orM (notM (tstM (callA 2 f_is_field_row [] (consM (varM 2) (consM (varM 3) nilM))))) (notM (chM leM leM (ret (.int 1)) (varM 3) (ret (.int 20)))))
    (no)
    (nxM))))
    (forM (enumM (consM (varM 0) nilM)) (tgTup 2 (tgCons (tgN 1) (tgCons (tgN 2) tgNil)))
    (forM (seqM' (varM 2)) (tgN 4)
    (ifM (andM (op2 neM (varM 4) (ret (.str "."))) (notM (tstM (callA 1 f_is_rectangle [] (consM (callA 2 f_cells_of [] (consM (varM 0) (consM (varM 4) nilM))) nilM)))))
    (no)
    (nxM)))))
def f_check_fields : FD := mkF 5 M_check_fields
def M_check_more : M Fl := seqM (ifM (orM (notM (tstM (calM (isiM tb.ins) (consM (varM 1) (consM (ret (.ty "tuple")) nilM))))) (notM (chM leM leM (ret (.int 1)) (calM lenM (consM (varM 1) nilM)) (ret (.int 8)))))
    (no)
    (nxM))
    (forM (enumM (consM (varM 1) nilM)) (tgTup 2 (tgCons (tgN 2) (tgCons (tgN 3) tgNil)))
    (ifM (notM (tstM (callA 1 f_is_size [] (consM (varM 3) nilM))))
    (no)
    (nxM)))
def f_check_more : FD := mkF 4 M_check_more
def M_is_one_of : M Fl := retM (andV (calM (isiM tb.ins) (consM (varM 0) (consM (ret (.ty "str")) nilM))) (blM (op2 inM (varM 0) (varM 1))))
def f_is_one_of : FD := mkF 2 M_is_one_of
def M_Grid_init : M Fl := seqM (forM (seqM' (bd (bd (consM (bd (consM (ret (.str "columns")) (consM (varM 1) nilM)) fun xs => if xs.length ≤ 1000 then ret (.tup xs) else no) (consM (bd (consM (ret (.str "rows")) (consM (varM 2) nilM)) fun xs => if xs.length ≤ 1000 then ret (.tup xs) else no) nilM)) fun xs => if xs.length ≤ 1000 then ret xs else no) fun ds => ret (.lst ds))) (tgTup 2 (tgCons (tgN 14) (tgCons (tgN 15) tgNil)))
    (ifM (notM (tstM (callA 1 f_is_template [] (consM (varM 15) nilM))))
    (no)
    (nxM)))
    (seqM (exprM (callA 1 f_check_fields [] (consM (varM 3) nilM)))
    (seqM (exprM (callA 2 f_check_more [] (consM (ret (.str "more_columns")) (consM (varM 4) nilM))))
    (seqM (exprM (callA 2 f_check_more [] (consM (ret (.str "more_rows")) (consM (varM 5) nilM))))
    (seqM (ifM (notM (tstM (callA 2 f_is_one_of [] (consM (varM 6) (consM (bd (consM (ret (.str "row")) (consM (ret (.str "column")) nilM)) fun xs => if xs.length ≤ 1000 then ret (.tup xs) else no) nilM)))))
    (no)
    (nxM))
    (seqM (ifM (notM (tstM (calM (isiM tb.ins) (consM (varM 7) (consM (ret (.ty "bool")) nilM)))))
    (no)
    (nxM))
    (seqM (forM (seqM' (bd (bd (consM (bd (consM (ret (.str "column_gap")) (consM (varM 8) nilM)) fun xs => if xs.length ≤ 1000 then ret (.tup xs) else no) (consM (bd (consM (ret (.str "row_gap")) (consM (varM 9) nilM)) fun xs => if xs.length ≤ 1000 then ret (.tup xs) else no) nilM)) fun xs => if xs.length ≤ 1000 then ret xs else no) fun ds => ret (.lst ds))) (tgTup 2 (tgCons (tgN 14) (tgCons (tgN 16) tgNil)))
    (ifM (notM (tstM (callA 1 f_is_fixed [] (consM (varM 16) nilM))))
    (no)
    (nxM)))
    (seqM (forM (seqM' (bd (bd (consM (bd (consM (ret (.str "justify")) (consM (varM 10) nilM)) fun xs => if xs.length ≤ 1000 then ret (.tup xs) else no) (consM (bd (consM (ret (.str "align")) (consM (varM 11) nilM)) fun xs => if xs.length ≤ 1000 then ret (.tup xs) else no) nilM)) fun xs => if xs.length ≤ 1000 then ret xs else no) fun ds => ret (.lst ds))) (tgTup 2 (tgCons (tgN 14) (tgCons (tgN 17) tgNil)))
    (ifM (notM (tstM (callA 2 f_is_one_of [] (consM (varM 17) (consM (ret (.tup ([.str "start", .str "end", .str "center", .str "stretch", .str "between", .str "around", .str "evenly"]))) nilM)))))
    (no)
    (nxM)))
    (seqM (ifM (notM (tstM (callA 2 f_is_one_of [] (consM (varM 12) (consM (ret (.tup ([.str "start", .str "end", .str "center", .str "stretch"]))) nilM)))))
    (no)
    (nxM))
    (seqM (ifM (notM (tstM (callA 2 f_is_one_of [] (consM (varM 13) (consM (opM addM (ret (.tup ([.str "start", .str "end", .str "center", .str "stretch"]))) (bd (consM (ret (.str "baseline")) nilM) fun xs => if xs.length ≤ 1000 then ret (.tup xs) else no)) nilM)))))
    (no)
    (nxM))
    (seqM (putM tb "columns" (varM 0) (varM 1))
    (seqM (putM tb "rows" (varM 0) (varM 2))
    (seqM (putM tb "fields" (varM 0) (varM 3))
    (seqM (putM tb "more_columns" (varM 0) (varM 4))
    (seqM (putM tb "more_rows" (varM 0) (varM 5))
    (seqM (putM tb "flow" (varM 0) (varM 6))
    (seqM (putM tb "dense" (varM 0) (varM 7))
    (seqM (putM tb "column_gap" (varM 0) (varM 8))
    (seqM (putM tb "row_gap" (varM 0) (varM 9))
    (seqM (putM tb "justify" (varM 0) (varM 10))
    (seqM (putM tb "align" (varM 0) (varM 11))
    (seqM (putM tb "items_justify" (varM 0) (varM 12))
    (putM tb "items_align" (varM 0) (varM 13)))))))))))))))))))))))
def f_Grid_init : FD := mkF 18 M_Grid_init
def M__law_made : M Fl := retM (makeM 0 13 (fun ds zs => arr [.k 12, .k 11, .k 10, .k 9, .k 8, .k 7, .k 6, .k 5, .k 4, .k 3, .k 2, .k 1, .k 0] ds [.tup [], .tup []] [.tup [], .tup [.str "auto"], .tup [.str "auto"], .str "row", .bl false, .int 0, .int 0, .str "stretch", .str "stretch", .str "stretch", .str "stretch"] zs) (mkI tb 1 14 f_Grid_init) nilM (consM (bd (varM 0) fun x => bd (ret (.int 12)) fun i => rdM fun st => ixM st x i) (consM (bd (varM 0) fun x => bd (ret (.int 11)) fun i => rdM fun st => ixM st x i) (consM (bd (varM 0) fun x => bd (ret (.int 10)) fun i => rdM fun st => ixM st x i) (consM (bd (varM 0) fun x => bd (ret (.int 9)) fun i => rdM fun st => ixM st x i) (consM (bd (varM 0) fun x => bd (ret (.int 8)) fun i => rdM fun st => ixM st x i) (consM (bd (varM 0) fun x => bd (ret (.int 7)) fun i => rdM fun st => ixM st x i) (consM (bd (varM 0) fun x => bd (ret (.int 6)) fun i => rdM fun st => ixM st x i) (consM (bd (varM 0) fun x => bd (ret (.int 5)) fun i => rdM fun st => ixM st x i) (consM (bd (varM 0) fun x => bd (ret (.int 4)) fun i => rdM fun st => ixM st x i) (consM (bd (varM 0) fun x => bd (ret (.int 3)) fun i => rdM fun st => ixM st x i) (consM (bd (varM 0) fun x => bd (ret (.int 2)) fun i => rdM fun st => ixM st x i) (consM (bd (varM 0) fun x => bd (ret (.int 1)) fun i => rdM fun st => ixM st x i) (consM (bd (varM 0) fun x => bd (ret (.int 0)) fun i => rdM fun st => ixM st x i) nilM))))))))))))))
def f__law_made : FD := mkF 1 M__law_made
def M__law_parts : M Fl := seqM (setM 1 (bd (bd (consM (attrM tb "columns" (varM 0)) (consM (attrM tb "rows" (varM 0)) (consM (attrM tb "fields" (varM 0)) (consM (attrM tb "more_columns" (varM 0)) (consM (attrM tb "more_rows" (varM 0)) (consM (attrM tb "flow" (varM 0)) (consM (attrM tb "dense" (varM 0)) nilM))))))) fun xs => if xs.length ≤ 1000 then ret xs else no) fun ds => ret (.lst ds)))
    (seqM (setM 1 (bd (catM (varM 1) (bd (bd (consM (attrM tb "column_gap" (varM 0)) (consM (attrM tb "row_gap" (varM 0)) (consM (attrM tb "justify" (varM 0)) (consM (attrM tb "align" (varM 0)) nilM)))) fun xs => if xs.length ≤ 1000 then ret xs else no) fun ds => ret (.lst ds))) fun ds => ret (.lst ds)))
    (retM (bd (catM (varM 1) (bd (bd (consM (attrM tb "items_justify" (varM 0)) (consM (attrM tb "items_align" (varM 0)) nilM)) fun xs => if xs.length ≤ 1000 then ret xs else no) fun ds => ret (.lst ds))) fun ds => ret (.lst ds))))
def f__law_parts : FD := mkF 2 M__law_parts
def M_Grid_all_parts : M Fl := seqM (setM 1 (bd (consM (attrM tb "columns" (varM 0)) (consM (attrM tb "rows" (varM 0)) (consM (attrM tb "fields" (varM 0)) (consM (attrM tb "more_columns" (varM 0)) (consM (attrM tb "more_rows" (varM 0)) (consM (attrM tb "flow" (varM 0)) (consM (attrM tb "dense" (varM 0)) nilM))))))) fun xs => if xs.length ≤ 1000 then ret (.tup xs) else no))
    (seqM (setM 2 (bd (consM (attrM tb "column_gap" (varM 0)) (consM (attrM tb "row_gap" (varM 0)) (consM (attrM tb "justify" (varM 0)) (consM (attrM tb "align" (varM 0)) (consM (attrM tb "items_justify" (varM 0)) (consM (attrM tb "items_align" (varM 0)) nilM)))))) fun xs => if xs.length ≤ 1000 then ret (.tup xs) else no))
    (retM (opM addM (varM 1) (varM 2))))
def f_Grid_all_parts : FD := mkF 3 M_Grid_all_parts
def M_Grid_eq : M Fl := retM (andV (calM (isiM tb.ins) (consM (varM 1) (consM (ret (.cls 1)) nilM))) (blM (op2 eqM (meth0M tb 1 "all_parts" 1 f_Grid_all_parts [] (varM 0)) (meth0M tb 1 "all_parts" 1 f_Grid_all_parts [] (varM 1)))))
def f_Grid_eq : FD := mkF 2 M_Grid_eq
def M__law_right : M Fl := seqM (parM 1 2 (callA 1 f__law_values [] (consM (varM 0) nilM)) (callA 1 f__law_values [] (consM (varM 0) nilM)))
    (seqM (setM 3 (callA 1 f__law_made [] (consM (varM 1) nilM)))
    (seqM (ifM (orM (op2 neM (callA 1 f__law_parts [] (consM (varM 3) nilM)) (varM 1)) (orM (op2 notInM (attrM tb "dense" (varM 3)) (bd (consM (ret (.bl true)) (consM (ret (.bl false)) nilM)) fun xs => if xs.length ≤ 1000 then ret (.tup xs) else no)) (op2S (neO tb 1 f_Grid_eq) (varM 3) (callA 1 f__law_made [] (consM (bd (listM (consM (varM 1) nilM)) fun ds => ret (.lst ds)) nilM)))))
    (retM (ret (.bl false)))
    (nxM))
    (seqM (forM (range1M (consM (ret (.int 13)) nilM)) (tgN 4)
    (seqM (setM 5 (bd (catM (bd (catM (bd (bd (varM 1) fun x => bd noneM fun l => bd (someM (varM 4)) fun h => rdM fun st => (lstOf st x).map fun ds => cutD ds l h) fun ds => ret (.lst ds)) (bd (bd (consM (bd (varM 2) fun x => bd (varM 4) fun i => rdM fun st => ixM st x i) nilM) fun xs => if xs.length ≤ 1000 then ret xs else no) fun ds => ret (.lst ds))) fun ds => ret (.lst ds)) (bd (bd (varM 1) fun x => bd (someM (opM addM (varM 4) (ret (.int 1)))) fun l => bd noneM fun h => rdM fun st => (lstOf st x).map fun ds => cutD ds l h) fun ds => ret (.lst ds))) fun ds => ret (.lst ds)))
    (ifM (orM (op2 neM (blM (op2S (eqO tb 1 f_Grid_eq) (varM 3) (callA 1 f__law_made [] (consM (varM 5) nilM)))) (blM (op2 eqM (bd (varM 1) fun x => bd (varM 4) fun i => rdM fun st => ixM st x i) (bd (varM 2) fun x => bd (varM 4) fun i => rdM fun st => ixM st x i)))) (op2S (eqO tb 1 f_Grid_eq) (varM 3) (varM 5)))
    (retM (ret (.bl false)))
    (nxM))))
    (seqM (setM 6 (bd (repM (bd (bd (consM (ret (.str "stretch")) nilM) fun xs => if xs.length ≤ 1000 then ret xs else no) fun ds => ret (.lst ds)) (ret (.int 4))) fun ds => ret (.lst ds)))
    (seqM (ifM (op2 neM (callA 1 f__law_parts [] (consM (makeM 0 0 (fun ds zs => arr [.d 0, .d 1, .m 0, .m 1, .m 2, .m 3, .m 4, .m 5, .m 6, .m 7, .m 8, .m 9, .m 10] ds [.tup [], .tup []] [.tup [], .tup [.str "auto"], .tup [.str "auto"], .str "row", .bl false, .int 0, .int 0, .str "stretch", .str "stretch", .str "stretch", .str "stretch"] zs) (mkI tb 1 14 f_Grid_init) nilM nilM) nilM)) (bd (catM (bd (bd (consM (bd nilM fun xs => if xs.length ≤ 1000 then ret (.tup xs) else no) (consM (bd nilM fun xs => if xs.length ≤ 1000 then ret (.tup xs) else no) (consM (bd nilM fun xs => if xs.length ≤ 1000 then ret (.tup xs) else no) (consM (bd (consM (ret (.str "auto")) nilM) fun xs => if xs.length ≤ 1000 then ret (.tup xs) else no) (consM (bd (consM (ret (.str "auto")) nilM) fun xs => if xs.length ≤ 1000 then ret (.tup xs) else no) (consM (ret (.str "row")) (consM (ret (.bl false)) (consM (ret (.int 0)) (consM (ret (.int 0)) nilM))))))))) fun xs => if xs.length ≤ 1000 then ret xs else no) fun ds => ret (.lst ds)) (varM 6)) fun ds => ret (.lst ds)))
    (retM (ret (.bl false)))
    (nxM))
    (retM (blM (op2 eqM (callA 1 f__law_parts [] (consM (makeM 2 0 (fun ds zs => arr [.p 0, .p 1, .m 0, .m 1, .m 2, .m 3, .m 4, .m 5, .m 6, .m 7, .m 8, .m 9, .m 10] ds [.tup [], .tup []] [.tup [], .tup [.str "auto"], .tup [.str "auto"], .str "row", .bl false, .int 0, .int 0, .str "stretch", .str "stretch", .str "stretch", .str "stretch"] zs) (mkI tb 1 14 f_Grid_init) (consM (bd (varM 1) fun x => bd (ret (.int 0)) fun i => rdM fun st => ixM st x i) (consM (bd (varM 1) fun x => bd (ret (.int 1)) fun i => rdM fun st => ixM st x i) nilM)) nilM) nilM)) (bd (catM (bd (bd (varM 1) fun x => bd noneM fun l => bd (someM (ret (.int 2))) fun h => rdM fun st => (lstOf st x).map fun ds => cutD ds l h) fun ds => ret (.lst ds)) (bd (bd (callA 1 f__law_parts [] (consM (makeM 0 0 (fun ds zs => arr [.d 0, .d 1, .m 0, .m 1, .m 2, .m 3, .m 4, .m 5, .m 6, .m 7, .m 8, .m 9, .m 10] ds [.tup [], .tup []] [.tup [], .tup [.str "auto"], .tup [.str "auto"], .str "row", .bl false, .int 0, .int 0, .str "stretch", .str "stretch", .str "stretch", .str "stretch"] zs) (mkI tb 1 14 f_Grid_init) nilM nilM) nilM)) fun x => bd (someM (ret (.int 2))) fun l => bd noneM fun h => rdM fun st => (lstOf st x).map fun ds => cutD ds l h) fun ds => ret (.lst ds))) fun ds => ret (.lst ds))))))))))
def f__law_right : FD := mkF 7 M__law_right
def M_law : M Fl := seqM (forM (enumM (consM (bd (bd (bd (catM (varM 0) (bd (bd (consM (ret (.int 0)) nilM) fun xs => if xs.length ≤ 1000 then ret xs else no) fun ds => ret (.lst ds))) fun ds => ret (.lst ds)) fun x => bd noneM fun l => bd (someM (ret (.int 5))) fun h => rdM fun st => (lstOf st x).map fun ds => cutD ds l h) fun ds => ret (.lst ds)) nilM)) (tgTup 2 (tgCons (tgN 1) (tgCons (tgN 2) tgNil)))
    (seqM (cellM 3 (bd (consM (opM mulM (varM 2) (calM intM (consM (blM (op2 geM (varM 2) (opM powM (ret (.int 10)) (ret (.int 18))))) nilM))) (consM (opM addM (opM modM (calM intM (consM (varM 2) nilM)) (ret (.int 2147483647))) (opM mulM (ret (.int 7919)) (varM 1))) (consM (ret (.int 0)) nilM))) fun xs => if xs.length ≤ 1000 then ret xs else no))
    (ifM (notM (tstM (callA 1 f__law_right [] (consM (varM 3) nilM))))
    (retM (ret (.bl false)))
    (nxM))))
    (retM (ret (.bl true)))
def f_law : FD := mkF 4 M_law
end PL.k05

namespace PL.k05
open PySem PySem.Spec PyProof.Rows L2
def top (i : Nat) : Stmt := PySem.Challenge.pw_gridlanes_k05_whole_grids_made.main.body.getD i (.Pass ⟨0, 0, 0, 0⟩)
abbrev TT (K : PySem.W.Frag) : Tab := mkT K xs nI fls

abbrev s__law_draw : Stmt := top 51
abbrev N__law_draw : List Str := ["well", "many", "found", "number"]
abbrev P__law_draw : List Str := ["well", "many"]
def d__law_draw : He.DefD := ⟨("_law_draw", none), "_law_draw", "_law_draw", defArgs s__law_draw, defBody s__law_draw, defScope s__law_draw, [], []⟩
theorem sc__law_draw : FnScope N__law_draw P__law_draw (defScope s__law_draw) := ⟨rfl, rfl, rfl, by decide +kernel, rfl, by decide +kernel, by decide +kernel⟩
abbrev s__law_fixed : Stmt := top 54
abbrev N__law_fixed : List Str := ["well", "some"]
abbrev P__law_fixed : List Str := ["well"]
def d__law_fixed : He.DefD := ⟨("_law_fixed", none), "_law_fixed", "_law_fixed", defArgs s__law_fixed, defBody s__law_fixed, defScope s__law_fixed, [], []⟩
theorem sc__law_fixed : FnScope N__law_fixed P__law_fixed (defScope s__law_fixed) := ⟨rfl, rfl, rfl, by decide +kernel, rfl, by decide +kernel, by decide +kernel⟩
abbrev s__law_one : Stmt := top 52
abbrev N__law_one : List Str := ["well", "some"]
abbrev P__law_one : List Str := ["well", "some"]
def d__law_one : He.DefD := ⟨("_law_one", none), "_law_one", "_law_one", defArgs s__law_one, defBody s__law_one, defScope s__law_one, [], []⟩
theorem sc__law_one : FnScope N__law_one P__law_one (defScope s__law_one) := ⟨rfl, rfl, rfl, by decide +kernel, rfl, by decide +kernel, by decide +kernel⟩
abbrev s__law_share : Stmt := top 55
abbrev N__law_share : List Str := ["well"]
abbrev P__law_share : List Str := ["well"]
def d__law_share : He.DefD := ⟨("_law_share", none), "_law_share", "_law_share", defArgs s__law_share, defBody s__law_share, defScope s__law_share, [], []⟩
theorem sc__law_share : FnScope N__law_share P__law_share (defScope s__law_share) := ⟨rfl, rfl, rfl, by decide +kernel, rfl, by decide +kernel, by decide +kernel⟩
abbrev s__law_counted : Stmt := top 57
abbrev N__law_counted : List Str := ["well", "words", "way"]
abbrev P__law_counted : List Str := ["well"]
def d__law_counted : He.DefD := ⟨("_law_counted", none), "_law_counted", "_law_counted", defArgs s__law_counted, defBody s__law_counted, defScope s__law_counted, [], []⟩
theorem sc__law_counted : FnScope N__law_counted P__law_counted (defScope s__law_counted) := ⟨rfl, rfl, rfl, by decide +kernel, rfl, by decide +kernel, by decide +kernel⟩
abbrev s__law_size : Stmt := top 56
abbrev N__law_size : List Str := ["well", "words", "way", "low"]
abbrev P__law_size : List Str := ["well"]
def d__law_size : He.DefD := ⟨("_law_size", none), "_law_size", "_law_size", defArgs s__law_size, defBody s__law_size, defScope s__law_size, [], []⟩
theorem sc__law_size : FnScope N__law_size P__law_size (defScope s__law_size) := ⟨rfl, rfl, rfl, by decide +kernel, rfl, by decide +kernel, by decide +kernel⟩
abbrev s__law_names : Stmt := top 58
abbrev N__law_names : List Str := ["well", "some", "turn"]
abbrev P__law_names : List Str := ["well"]
def d__law_names : He.DefD := ⟨("_law_names", none), "_law_names", "_law_names", defArgs s__law_names, defBody s__law_names, defScope s__law_names, [], []⟩
theorem sc__law_names : FnScope N__law_names P__law_names (defScope s__law_names) := ⟨rfl, rfl, rfl, by decide +kernel, rfl, by decide +kernel, by decide +kernel⟩
abbrev s__law_plain : Stmt := top 59
abbrev N__law_plain : List Str := ["well", "many", "with_fixed", "found", "turn"]
abbrev P__law_plain : List Str := ["well", "many", "with_fixed"]
def d__law_plain : He.DefD := ⟨("_law_plain", none), "_law_plain", "_law_plain", defArgs s__law_plain, defBody s__law_plain, defScope s__law_plain, [], []⟩
theorem sc__law_plain : FnScope N__law_plain P__law_plain (defScope s__law_plain) := ⟨rfl, rfl, rfl, by decide +kernel, rfl, by decide +kernel, by decide +kernel⟩
abbrev s__law_template : Stmt := top 60
abbrev N__law_template : List Str := ["well", "with_fill", "found"]
abbrev P__law_template : List Str := ["well", "with_fill"]
def d__law_template : He.DefD := ⟨("_law_template", none), "_law_template", "_law_template", defArgs s__law_template, defBody s__law_template, defScope s__law_template, [], []⟩
theorem sc__law_template : FnScope N__law_template P__law_template (defScope s__law_template) := ⟨rfl, rfl, rfl, by decide +kernel, rfl, by decide +kernel, by decide +kernel⟩
abbrev s__law_fields : Stmt := top 61
abbrev N__law_fields : List Str := ["well", "wide", "tall", "left", "top", "rows_so", "at", "spot"]
abbrev P__law_fields : List Str := ["well"]
def d__law_fields : He.DefD := ⟨("_law_fields", none), "_law_fields", "_law_fields", defArgs s__law_fields, defBody s__law_fields, defScope s__law_fields, [], []⟩
theorem sc__law_fields : FnScope N__law_fields P__law_fields (defScope s__law_fields) := ⟨rfl, rfl, rfl, by decide +kernel, rfl, by decide +kernel, by decide +kernel⟩
abbrev s__law_values : Stmt := top 62
abbrev N__law_values : List Str := ["well", "lanes", "some", "turn", "k"]
abbrev P__law_values : List Str := ["well"]
def d__law_values : He.DefD := ⟨("_law_values", none), "_law_values", "_law_values", defArgs s__law_values, defBody s__law_values, defScope s__law_values, [], []⟩
theorem sc__law_values : FnScope N__law_values P__law_values (defScope s__law_values) := ⟨rfl, rfl, rfl, by decide +kernel, rfl, by decide +kernel, by decide +kernel⟩
abbrev s_is_name : Stmt := top 18
abbrev N_is_name : List Str := ["value", "sign"]
abbrev P_is_name : List Str := ["value"]
def d_is_name : He.DefD := ⟨("is_name", none), "is_name", "is_name", defArgs s_is_name, defBody s_is_name, defScope s_is_name, [], []⟩
theorem sc_is_name : FnScope N_is_name P_is_name (defScope s_is_name) := ⟨rfl, rfl, rfl, by decide +kernel, rfl, by decide +kernel, by decide +kernel⟩
abbrev s_are_names : Stmt := top 19
abbrev N_are_names : List Str := ["value", "one"]
abbrev P_are_names : List Str := ["value"]
def d_are_names : He.DefD := ⟨("are_names", none), "are_names", "are_names", defArgs s_are_names, defBody s_are_names, defScope s_are_names, [], []⟩
theorem sc_are_names : FnScope N_are_names P_are_names (defScope s_are_names) := ⟨rfl, rfl, rfl, by decide +kernel, rfl, by decide +kernel, by decide +kernel⟩
abbrev s_is_inherited : Stmt := top 35
abbrev N_is_inherited : List Str := ["value", "one"]
abbrev P_is_inherited : List Str := ["value"]
def d_is_inherited : He.DefD := ⟨("is_inherited", none), "is_inherited", "is_inherited", defArgs s_is_inherited, defBody s_is_inherited, defScope s_is_inherited, [], []⟩
theorem sc_is_inherited : FnScope N_is_inherited P_is_inherited (defScope s_is_inherited) := ⟨rfl, rfl, rfl, by decide +kernel, rfl, by decide +kernel, by decide +kernel⟩
abbrev s_is_int : Stmt := top 5
abbrev N_is_int : List Str := ["value"]
abbrev P_is_int : List Str := ["value"]
def d_is_int : He.DefD := ⟨("is_int", none), "is_int", "is_int", defArgs s_is_int, defBody s_is_int, defScope s_is_int, [], []⟩
theorem sc_is_int : FnScope N_is_int P_is_int (defScope s_is_int) := ⟨rfl, rfl, rfl, by decide +kernel, rfl, by decide +kernel, by decide +kernel⟩
abbrev s_divisor_of : Stmt := top 6
abbrev N_divisor_of : List Str := ["one", "other"]
abbrev P_divisor_of : List Str := ["one", "other"]
def d_divisor_of : He.DefD := ⟨("divisor_of", none), "divisor_of", "divisor_of", defArgs s_divisor_of, defBody s_divisor_of, defScope s_divisor_of, [], []⟩
theorem sc_divisor_of : FnScope N_divisor_of P_divisor_of (defScope s_divisor_of) := ⟨rfl, rfl, rfl, by decide +kernel, rfl, by decide +kernel, by decide +kernel⟩
abbrev s_is_number : Stmt := top 7
abbrev N_is_number : List Str := ["value"]
abbrev P_is_number : List Str := ["value"]
def d_is_number : He.DefD := ⟨("is_number", none), "is_number", "is_number", defArgs s_is_number, defBody s_is_number, defScope s_is_number, [], []⟩
theorem sc_is_number : FnScope N_is_number P_is_number (defScope s_is_number) := ⟨rfl, rfl, rfl, by decide +kernel, rfl, by decide +kernel, by decide +kernel⟩
abbrev s_halves_of : Stmt := top 8
abbrev N_halves_of : List Str := ["number"]
abbrev P_halves_of : List Str := ["number"]
def d_halves_of : He.DefD := ⟨("halves_of", none), "halves_of", "halves_of", defArgs s_halves_of, defBody s_halves_of, defScope s_halves_of, [], []⟩
theorem sc_halves_of : FnScope N_halves_of P_halves_of (defScope s_halves_of) := ⟨rfl, rfl, rfl, by decide +kernel, rfl, by decide +kernel, by decide +kernel⟩
abbrev s_is_length : Stmt := top 9
abbrev N_is_length : List Str := ["value"]
abbrev P_is_length : List Str := ["value"]
def d_is_length : He.DefD := ⟨("is_length", none), "is_length", "is_length", defArgs s_is_length, defBody s_is_length, defScope s_is_length, [], []⟩
theorem sc_is_length : FnScope N_is_length P_is_length (defScope s_is_length) := ⟨rfl, rfl, rfl, by decide +kernel, rfl, by decide +kernel, by decide +kernel⟩
abbrev s_is_part : Stmt := top 20
abbrev N_is_part : List Str := ["value"]
abbrev P_is_part : List Str := ["value"]
def d_is_part : He.DefD := ⟨("is_part", none), "is_part", "is_part", defArgs s_is_part, defBody s_is_part, defScope s_is_part, [], []⟩
theorem sc_is_part : FnScope N_is_part P_is_part (defScope s_is_part) := ⟨rfl, rfl, rfl, by decide +kernel, rfl, by decide +kernel, by decide +kernel⟩
abbrev s_is_fixed : Stmt := top 21
abbrev N_is_fixed : List Str := ["value"]
abbrev P_is_fixed : List Str := ["value"]
def d_is_fixed : He.DefD := ⟨("is_fixed", none), "is_fixed", "is_fixed", defArgs s_is_fixed, defBody s_is_fixed, defScope s_is_fixed, [], []⟩
theorem sc_is_fixed : FnScope N_is_fixed P_is_fixed (defScope s_is_fixed) := ⟨rfl, rfl, rfl, by decide +kernel, rfl, by decide +kernel, by decide +kernel⟩
abbrev s_is_share : Stmt := top 22
abbrev N_is_share : List Str := ["value"]
abbrev P_is_share : List Str := ["value"]
def d_is_share : He.DefD := ⟨("is_share", none), "is_share", "is_share", defArgs s_is_share, defBody s_is_share, defScope s_is_share, [], []⟩
theorem sc_is_share : FnScope N_is_share P_is_share (defScope s_is_share) := ⟨rfl, rfl, rfl, by decide +kernel, rfl, by decide +kernel, by decide +kernel⟩
abbrev s_is_word : Stmt := top 23
abbrev N_is_word : List Str := ["value"]
abbrev P_is_word : List Str := ["value"]
def d_is_word : He.DefD := ⟨("is_word", none), "is_word", "is_word", defArgs s_is_word, defBody s_is_word, defScope s_is_word, [], []⟩
theorem sc_is_word : FnScope N_is_word P_is_word (defScope s_is_word) := ⟨rfl, rfl, rfl, by decide +kernel, rfl, by decide +kernel, by decide +kernel⟩
abbrev s_is_upto : Stmt := top 24
abbrev N_is_upto : List Str := ["value"]
abbrev P_is_upto : List Str := ["value"]
def d_is_upto : He.DefD := ⟨("is_upto", none), "is_upto", "is_upto", defArgs s_is_upto, defBody s_is_upto, defScope s_is_upto, [], []⟩
theorem sc_is_upto : FnScope N_is_upto P_is_upto (defScope s_is_upto) := ⟨rfl, rfl, rfl, by decide +kernel, rfl, by decide +kernel, by decide +kernel⟩
abbrev s_is_between : Stmt := top 25
abbrev N_is_between : List Str := ["value", "low", "high"]
abbrev P_is_between : List Str := ["value"]
def d_is_between : He.DefD := ⟨("is_between", none), "is_between", "is_between", defArgs s_is_between, defBody s_is_between, defScope s_is_between, [], []⟩
theorem sc_is_between : FnScope N_is_between P_is_between (defScope s_is_between) := ⟨rfl, rfl, rfl, by decide +kernel, rfl, by decide +kernel, by decide +kernel⟩
abbrev s_is_size : Stmt := top 26
abbrev N_is_size : List Str := ["value"]
abbrev P_is_size : List Str := ["value"]
def d_is_size : He.DefD := ⟨("is_size", none), "is_size", "is_size", defArgs s_is_size, defBody s_is_size, defScope s_is_size, [], []⟩
theorem sc_is_size : FnScope N_is_size P_is_size (defScope s_is_size) := ⟨rfl, rfl, rfl, by decide +kernel, rfl, by decide +kernel, by decide +kernel⟩
abbrev s_is_plain_entry : Stmt := top 30
abbrev N_is_plain_entry : List Str := ["entry"]
abbrev P_is_plain_entry : List Str := ["entry"]
def d_is_plain_entry : He.DefD := ⟨("is_plain_entry", none), "is_plain_entry", "is_plain_entry", defArgs s_is_plain_entry, defBody s_is_plain_entry, defScope s_is_plain_entry, [], []⟩
theorem sc_is_plain_entry : FnScope N_is_plain_entry P_is_plain_entry (defScope s_is_plain_entry) := ⟨rfl, rfl, rfl, by decide +kernel, rfl, by decide +kernel, by decide +kernel⟩
abbrev s_sizes_in : Stmt := top 32
abbrev N_sizes_in : List Str := ["entries", "one"]
abbrev P_sizes_in : List Str := ["entries"]
def d_sizes_in : He.DefD := ⟨("sizes_in", none), "sizes_in", "sizes_in", defArgs s_sizes_in, defBody s_sizes_in, defScope s_sizes_in, [], []⟩
theorem sc_sizes_in : FnScope N_sizes_in P_sizes_in (defScope s_sizes_in) := ⟨rfl, rfl, rfl, by decide +kernel, rfl, by decide +kernel, by decide +kernel⟩
abbrev s_are_plain : Stmt := top 31
abbrev N_are_plain : List Str := ["entries", "one"]
abbrev P_are_plain : List Str := ["entries"]
def d_are_plain : He.DefD := ⟨("are_plain", none), "are_plain", "are_plain", defArgs s_are_plain, defBody s_are_plain, defScope s_are_plain, [], []⟩
theorem sc_are_plain : FnScope N_are_plain P_are_plain (defScope s_are_plain) := ⟨rfl, rfl, rfl, by decide +kernel, rfl, by decide +kernel, by decide +kernel⟩
abbrev s_is_repeat : Stmt := top 33
abbrev N_is_repeat : List Str := ["entry"]
abbrev P_is_repeat : List Str := ["entry"]
def d_is_repeat : He.DefD := ⟨("is_repeat", none), "is_repeat", "is_repeat", defArgs s_is_repeat, defBody s_is_repeat, defScope s_is_repeat, [], []⟩
theorem sc_is_repeat : FnScope N_is_repeat P_is_repeat (defScope s_is_repeat) := ⟨rfl, rfl, rfl, by decide +kernel, rfl, by decide +kernel, by decide +kernel⟩
abbrev s_is_filling : Stmt := top 34
abbrev N_is_filling : List Str := ["entry"]
abbrev P_is_filling : List Str := ["entry"]
def d_is_filling : He.DefD := ⟨("is_filling", none), "is_filling", "is_filling", defArgs s_is_filling, defBody s_is_filling, defScope s_is_filling, [], []⟩
theorem sc_is_filling : FnScope N_is_filling P_is_filling (defScope s_is_filling) := ⟨rfl, rfl, rfl, by decide +kernel, rfl, by decide +kernel, by decide +kernel⟩
abbrev s_sizes_of : Stmt := top 36
abbrev N_sizes_of : List Str := ["template", "found", "entry"]
abbrev P_sizes_of : List Str := ["template"]
def d_sizes_of : He.DefD := ⟨("sizes_of", none), "sizes_of", "sizes_of", defArgs s_sizes_of, defBody s_sizes_of, defScope s_sizes_of, [], []⟩
theorem sc_sizes_of : FnScope N_sizes_of P_sizes_of (defScope s_sizes_of) := ⟨rfl, rfl, rfl, by decide +kernel, rfl, by decide +kernel, by decide +kernel⟩
abbrev s_low_of : Stmt := top 27
abbrev N_low_of : List Str := ["size"]
abbrev P_low_of : List Str := ["size"]
def d_low_of : He.DefD := ⟨("low_of", none), "low_of", "low_of", defArgs s_low_of, defBody s_low_of, defScope s_low_of, [], []⟩
theorem sc_low_of : FnScope N_low_of P_low_of (defScope s_low_of) := ⟨rfl, rfl, rfl, by decide +kernel, rfl, by decide +kernel, by decide +kernel⟩
abbrev s_high_of : Stmt := top 28
abbrev N_high_of : List Str := ["size"]
abbrev P_high_of : List Str := ["size"]
def d_high_of : He.DefD := ⟨("high_of", none), "high_of", "high_of", defArgs s_high_of, defBody s_high_of, defScope s_high_of, [], []⟩
theorem sc_high_of : FnScope N_high_of P_high_of (defScope s_high_of) := ⟨rfl, rfl, rfl, by decide +kernel, rfl, by decide +kernel, by decide +kernel⟩
abbrev s_is_counted : Stmt := top 29
abbrev N_is_counted : List Str := ["size"]
abbrev P_is_counted : List Str := ["size"]
def d_is_counted : He.DefD := ⟨("is_counted", none), "is_counted", "is_counted", defArgs s_is_counted, defBody s_is_counted, defScope s_is_counted, [], []⟩
theorem sc_is_counted : FnScope N_is_counted P_is_counted (defScope s_is_counted) := ⟨rfl, rfl, rfl, by decide +kernel, rfl, by decide +kernel, by decide +kernel⟩
abbrev s_is_template : Stmt := top 37
abbrev N_is_template : List Str := ["value", "fillings", "one", "size"]
abbrev P_is_template : List Str := ["value"]
def d_is_template : He.DefD := ⟨("is_template", none), "is_template", "is_template", defArgs s_is_template, defBody s_is_template, defScope s_is_template, [], []⟩
theorem sc_is_template : FnScope N_is_template P_is_template (defScope s_is_template) := ⟨rfl, rfl, rfl, by decide +kernel, rfl, by decide +kernel, by decide +kernel⟩
abbrev s_is_field_row : Stmt := top 44
abbrev N_is_field_row : List Str := ["row", "wide", "one"]
abbrev P_is_field_row : List Str := ["row", "wide"]
def d_is_field_row : He.DefD := ⟨("is_field_row", none), "is_field_row", "is_field_row", defArgs s_is_field_row, defBody s_is_field_row, defScope s_is_field_row, [], []⟩
theorem sc_is_field_row : FnScope N_is_field_row P_is_field_row (defScope s_is_field_row) := ⟨rfl, rfl, rfl, by decide +kernel, rfl, by decide +kernel, by decide +kernel⟩
abbrev s_is_rectangle : Stmt := top 46
abbrev N_is_rectangle : List Str := ["cells", "rows", "columns", "cell"]
abbrev P_is_rectangle : List Str := ["cells"]
def d_is_rectangle : He.DefD := ⟨("is_rectangle", none), "is_rectangle", "is_rectangle", defArgs s_is_rectangle, defBody s_is_rectangle, defScope s_is_rectangle, [], []⟩
theorem sc_is_rectangle : FnScope N_is_rectangle P_is_rectangle (defScope s_is_rectangle) := ⟨rfl, rfl, rfl, by decide +kernel, rfl, by decide +kernel, by decide +kernel⟩
abbrev s_cells_of : Stmt := top 45
abbrev N_cells_of : List Str := ["fields", "name", "found", "at", "row", "one", "spot"]
abbrev P_cells_of : List Str := ["fields", "name"]
def d_cells_of : He.DefD := ⟨("cells_of", none), "cells_of", "cells_of", defArgs s_cells_of, defBody s_cells_of, defScope s_cells_of, [], []⟩
theorem sc_cells_of : FnScope N_cells_of P_cells_of (defScope s_cells_of) := ⟨rfl, rfl, rfl, by decide +kernel, rfl, by decide +kernel, by decide +kernel⟩
abbrev s_check_fields : Stmt := top 47
abbrev N_check_fields : List Str := ["fields", "index", "row", "wide", "name"]
abbrev P_check_fields : List Str := ["fields"]
def d_check_fields : He.DefD := ⟨("check_fields", none), "check_fields", "check_fields", defArgs s_check_fields, defBody s_check_fields, defScope s_check_fields, [], []⟩
theorem sc_check_fields : FnScope N_check_fields P_check_fields (defScope s_check_fields) := ⟨rfl, rfl, rfl, by decide +kernel, rfl, by decide +kernel, by decide +kernel⟩
abbrev s_check_more : Stmt := top 48
abbrev N_check_more : List Str := ["part", "sizes", "index", "size"]
abbrev P_check_more : List Str := ["part", "sizes"]
def d_check_more : He.DefD := ⟨("check_more", none), "check_more", "check_more", defArgs s_check_more, defBody s_check_more, defScope s_check_more, [], []⟩
theorem sc_check_more : FnScope N_check_more P_check_more (defScope s_check_more) := ⟨rfl, rfl, rfl, by decide +kernel, rfl, by decide +kernel, by decide +kernel⟩
abbrev s_is_one_of : Stmt := top 43
abbrev N_is_one_of : List Str := ["value", "words"]
abbrev P_is_one_of : List Str := ["value", "words"]
def d_is_one_of : He.DefD := ⟨("is_one_of", none), "is_one_of", "is_one_of", defArgs s_is_one_of, defBody s_is_one_of, defScope s_is_one_of, [], []⟩
theorem sc_is_one_of : FnScope N_is_one_of P_is_one_of (defScope s_is_one_of) := ⟨rfl, rfl, rfl, by decide +kernel, rfl, by decide +kernel, by decide +kernel⟩
abbrev s_Grid_init : Stmt := inClass (top 49) 0
abbrev N_Grid_init : List Str := ["self", "columns", "rows", "fields", "more_columns", "more_rows", "flow", "dense", "column_gap", "row_gap", "justify", "align", "items_justify", "items_align", "part", "template", "gap", "word"]
abbrev P_Grid_init : List Str := ["self", "columns", "rows", "fields", "more_columns", "more_rows", "flow", "dense", "column_gap", "row_gap", "justify", "align", "items_justify", "items_align"]
def d_Grid_init : He.DefD := ⟨("Grid", some "__init__"), "__init__", "Grid.__init__", defArgs s_Grid_init, defBody s_Grid_init, defScope s_Grid_init, [.adr (He.dflAt ("Grid", some "__init__") 0), .adr (He.dflAt ("Grid", some "__init__") 1)], [("fields", .adr (kwdAt ("Grid", some "__init__") "fields")), ("more_columns", .adr (kwdAt ("Grid", some "__init__") "more_columns")), ("more_rows", .adr (kwdAt ("Grid", some "__init__") "more_rows")), ("flow", .str "row"), ("dense", .bl false), ("column_gap", .int 0), ("row_gap", .int 0), ("justify", .str "stretch"), ("align", .str "stretch"), ("items_justify", .str "stretch"), ("items_align", .str "stretch")]⟩
theorem sc_Grid_init : FnScope N_Grid_init P_Grid_init (defScope s_Grid_init) := ⟨rfl, rfl, rfl, by decide +kernel, rfl, by decide +kernel, by decide +kernel⟩
abbrev s__law_made : Stmt := top 63
abbrev N__law_made : List Str := ["v"]
abbrev P__law_made : List Str := ["v"]
def d__law_made : He.DefD := ⟨("_law_made", none), "_law_made", "_law_made", defArgs s__law_made, defBody s__law_made, defScope s__law_made, [], []⟩
theorem sc__law_made : FnScope N__law_made P__law_made (defScope s__law_made) := ⟨rfl, rfl, rfl, by decide +kernel, rfl, by decide +kernel, by decide +kernel⟩
abbrev s__law_parts : Stmt := top 64
abbrev N__law_parts : List Str := ["grid", "found"]
abbrev P__law_parts : List Str := ["grid"]
def d__law_parts : He.DefD := ⟨("_law_parts", none), "_law_parts", "_law_parts", defArgs s__law_parts, defBody s__law_parts, defScope s__law_parts, [], []⟩
theorem sc__law_parts : FnScope N__law_parts P__law_parts (defScope s__law_parts) := ⟨rfl, rfl, rfl, by decide +kernel, rfl, by decide +kernel, by decide +kernel⟩
abbrev s_Grid_all_parts : Stmt := inClass (top 49) 2
abbrev N_Grid_all_parts : List Str := ["self", "one", "two"]
abbrev P_Grid_all_parts : List Str := ["self"]
def d_Grid_all_parts : He.DefD := ⟨("Grid", some "all_parts"), "all_parts", "Grid.all_parts", defArgs s_Grid_all_parts, defBody s_Grid_all_parts, defScope s_Grid_all_parts, [], []⟩
theorem sc_Grid_all_parts : FnScope N_Grid_all_parts P_Grid_all_parts (defScope s_Grid_all_parts) := ⟨rfl, rfl, rfl, by decide +kernel, rfl, by decide +kernel, by decide +kernel⟩
abbrev s_Grid_eq : Stmt := inClass (top 49) 1
abbrev N_Grid_eq : List Str := ["self", "other"]
abbrev P_Grid_eq : List Str := ["self", "other"]
def d_Grid_eq : He.DefD := ⟨("Grid", some "__eq__"), "__eq__", "Grid.__eq__", defArgs s_Grid_eq, defBody s_Grid_eq, defScope s_Grid_eq, [], []⟩
theorem sc_Grid_eq : FnScope N_Grid_eq P_Grid_eq (defScope s_Grid_eq) := ⟨rfl, rfl, rfl, by decide +kernel, rfl, by decide +kernel, by decide +kernel⟩
abbrev s__law_right : Stmt := top 65
abbrev N__law_right : List Str := ["well", "one", "other", "grid", "at", "mixed", "plain"]
abbrev P__law_right : List Str := ["well"]
def d__law_right : He.DefD := ⟨("_law_right", none), "_law_right", "_law_right", defArgs s__law_right, defBody s__law_right, defScope s__law_right, [], []⟩
theorem sc__law_right : FnScope N__law_right P__law_right (defScope s__law_right) := ⟨rfl, rfl, rfl, by decide +kernel, rfl, by decide +kernel, by decide +kernel⟩
abbrev s_law : Stmt := top 66
abbrev N_law : List Str := ["script", "k", "cell", "well"]
abbrev P_law : List Str := ["script"]
def d_law : He.DefD := ⟨("law", none), "law", "law", defArgs s_law, defBody s_law, defScope s_law, [], []⟩
theorem sc_law : FnScope N_law P_law (defScope s_law) := ⟨rfl, rfl, rfl, by decide +kernel, rfl, by decide +kernel, by decide +kernel⟩
def fn : List He.DefD := [d__law_draw, d__law_fixed, d__law_one, d__law_share, d__law_counted, d__law_size, d__law_names, d__law_plain, d__law_template, d__law_fields, d__law_values, d_is_name, d_are_names, d_is_inherited, d_is_int, d_divisor_of, d_is_number, d_halves_of, d_is_length, d_is_part, d_is_fixed, d_is_share, d_is_word, d_is_upto, d_is_between, d_is_size, d_is_plain_entry, d_sizes_in, d_are_plain, d_is_repeat, d_is_filling, d_sizes_of, d_low_of, d_high_of, d_is_counted, d_is_template, d_is_field_row, d_is_rectangle, d_cells_of, d_check_fields, d_check_more, d_is_one_of, d_Grid_init, d__law_made, d__law_parts, d_Grid_all_parts, d_Grid_eq, d__law_right, d_law]
def fa : List He.Fa := [.glo "law", .free "int", .glo "_law_draw", .free "len", .glo "_law_fixed", .glo "_law_one", .glo "_law_share", .free "tuple", .free "range", .glo "_law_names", .glo "_law_counted", .glo "_law_size", .free "list", .glo "_law_plain", .glo "_law_template", .glo "_law_fields", .free "isinstance", .free "str", .int "MAX_NAME" 16, .str "LETTERS" "abcdefghijklmnopqrstuvwxyz", .free "all", .str "SIGNS" "abcdefghijklmnopqrstuvwxyz0123456789-", .glo "is_name", .int "MAX_LANES" 40, .glo "are_names", .free "bool", .free "abs", .glo "is_int", .glo "Amount", .glo "divisor_of", .glo "is_number", .glo "halves_of", .glo "is_length", .glo "is_part", .glo "WORDS", .glo "is_fixed", .glo "is_word", .glo "is_share", .glo "is_upto", .glo "is_between", .glo "is_size", .glo "is_plain_entry", .glo "sizes_in", .int "MAX_COUNT" 20, .glo "are_plain", .glo "is_repeat", .glo "is_filling", .glo "low_of", .glo "high_of", .glo "is_inherited", .glo "sizes_of", .glo "is_counted", .free "max", .free "min", .free "enumerate", .int "MAX_FIELDS" 20, .glo "is_field_row", .glo "is_rectangle", .glo "cells_of", .int "MAX_MORE" 8, .glo "is_template", .glo "check_fields", .glo "check_more", .glo "is_one_of", .glo "LANES_STAND", .glo "ITEMS_STAND", .glo "Grid", .mkr "Grid", .meth "Grid" "all_parts", .glo "_law_values", .glo "_law_made", .glo "_law_parts", .glo "_law_right"]
def exs : List (PySem.W.Frag → Bool) := [(fun K => fxB K xs nI fls), (fun K => tupAt K (He.ga K "WORDS") [.str "auto", .str "least", .str "most"]), (fun K => tupAt K (He.ga K "LANES_STAND") [.str "start", .str "end", .str "center", .str "stretch", .str "between", .str "around", .str "evenly"]), (fun K => tupAt K (He.ga K "ITEMS_STAND") [.str "start", .str "end", .str "center", .str "stretch"]), (fun K => tupAt K (He.dflAt ("Grid", some "__init__") 1 K) []), (fun K => tupAt K (He.dflAt ("Grid", some "__init__") 0 K) []), (fun K => tupAt K (kwdAt ("Grid", some "__init__") "more_rows" K) [.str "auto"]), (fun K => tupAt K (kwdAt ("Grid", some "__init__") "more_columns" K) [.str "auto"]), (fun K => tupAt K (kwdAt ("Grid", some "__init__") "fields" K) []), (fun K => eqB' K "Grid" xs nI)]
def exB (K : PySem.W.Frag) : Bool := exs.all fun f => f K
structure Fs (K : PySem.W.Frag) (mg : Str → Option Value) : Prop where
  ns : ∃ h : Heap, K.In h ∧ h.Ns mainGlobals mg
  says : He.SaysD fa fn K
  ex : exB K = true
section
variable {K : PySem.W.Frag} {mg : Str → Option Value}
theorem Fs.fact (Z : Fs K mg) (i : Nat) {f : He.Fa} (h : fa[i]? = some f) : f.ok K = true := Z.says.fact i h
theorem Fs.glo (Z : Fs K mg) (i : Nat) {x : Str} (h : fa[i]? = some (.glo x) := by rfl) : mg x = some (.ref (He.ga K x)) := by obtain ⟨_, a, b⟩ := Z.ns; exact He.glo_ok a b (Z.says.fact i h)
theorem Fs.free (Z : Fs K mg) (i : Nat) {x : Str} (h : fa[i]? = some (.free x) := by rfl) : mg x = none := by obtain ⟨_, a, b⟩ := Z.ns; exact He.free_ok a b (Z.says.fact i h)
theorem Fs.int (Z : Fs K mg) (i : Nat) {x : Str} {n : Int} (h : fa[i]? = some (.int x n) := by rfl) : ∃ t, mg x = some (.int n t) := by obtain ⟨_, a, b⟩ := Z.ns; exact He.int_ok a b (Z.says.fact i h)
theorem Fs.str (Z : Fs K mg) (i : Nat) {x n : Str} (h : fa[i]? = some (.str x n) := by rfl) : ∃ t, mg x = some (.str n t) := by obtain ⟨_, a, b⟩ := Z.ns; exact He.str_ok a b (Z.says.fact i h)
theorem Fs.ex_ (Z : Fs K mg) (i : Nat) {f : PySem.W.Frag → Bool} (h : exs[i]? = some f) : f K = true := List.all_eq_true.mp Z.ex f (List.mem_of_getElem? h)
theorem Fs.fx (Z : Fs K mg) : Fx K (TT K) := fx_ok (Z.ex_ 0 rfl)
end

theorem kb_Grid_init_0_12_11_10_9_8_7_6_5_4_3_2_1_0 {K : PySem.W.Frag} {mg : Str → Option Value} (Z : Fs K mg) {fd : FuncData} (F : FunD K d_Grid_init.name d_Grid_init.qual d_Grid_init.params d_Grid_init.body d_Grid_init.scope (d_Grid_init.dvs K) (d_Grid_init.kws K) (He.fAd K d_Grid_init.at_) fd) : KB K (TT K) fd P_Grid_init 0 ["items_align", "items_justify", "align", "justify", "row_gap", "column_gap", "dense", "flow", "more_rows", "more_columns", "fields", "rows", "columns"] (fun ds zs => arr [.k 12, .k 11, .k 10, .k 9, .k 8, .k 7, .k 6, .k 5, .k 4, .k 3, .k 2, .k 1, .k 0] ds [.tup [], .tup []] [.tup [], .tup [.str "auto"], .tup [.str "auto"], .str "row", .bl false, .int 0, .int 0, .str "stretch", .str "stretch", .str "stretch", .str "stretch"] zs) := by
  refine kb_gen F 0 ["items_align", "items_justify", "align", "justify", "row_gap", "column_gap", "dense", "flow", "more_rows", "more_columns", "fields", "rows", "columns"] [.k 12, .k 11, .k 10, .k 9, .k 8, .k 7, .k 6, .k 5, .k 4, .k 3, .k 2, .k 1, .k 0] [.tup [], .tup []] [.tup [], .tup [.str "auto"], .tup [.str "auto"], .str "row", .bl false, .int 0, .int 0, .str "stretch", .str "stretch", .str "stretch", .str "stretch"] (fun G ρ => RepL.cons (tup_rep [] (Z.ex_ 5 rfl) rfl) (RepL.cons (tup_rep [] (Z.ex_ 4 rfl) rfl) (RepL.nil))) (fun G ρ => RepL.cons (tup_rep [] (Z.ex_ 8 rfl) rfl) (RepL.cons (tup_rep [.str "auto"] (Z.ex_ 7 rfl) rfl) (RepL.cons (tup_rep [.str "auto"] (Z.ex_ 6 rfl) rfl) (RepL.cons (lit_rep (.str "row") rfl) (RepL.cons (lit_rep (.bl false) rfl) (RepL.cons (lit_rep (.int 0) rfl) (RepL.cons (lit_rep (.int 0) rfl) (RepL.cons (lit_rep (.str "stretch") rfl) (RepL.cons (lit_rep (.str "stretch") rfl) (RepL.cons (lit_rep (.str "stretch") rfl) (RepL.cons (lit_rep (.str "stretch") rfl) (RepL.nil)))))))))))) rfl rfl rfl ?_
  intro us its mv ws h1 h2 h3 h4
  have h1_us0 : us.length = 1 := h1; clear h1; obtain ⟨us_0, ust0, e_us0, h1_us1⟩ := len_cons h1_us0; subst e_us0; have e_us := len_nil h1_us1; subst e_us; have h2_its0 : its.length = 2 := h2; clear h2; obtain ⟨its_0, itst0, e_its0, h2_its1⟩ := len_cons h2_its0; subst e_its0; obtain ⟨its_1, itst1, e_its1, h2_its2⟩ := len_cons h2_its1; subst e_its1; have e_its := len_nil h2_its2; subst e_its; have h3_mv0 : mv.length = 11 := h3; clear h3; obtain ⟨mv_0, mvt0, e_mv0, h3_mv1⟩ := len_cons h3_mv0; subst e_mv0; obtain ⟨mv_1, mvt1, e_mv1, h3_mv2⟩ := len_cons h3_mv1; subst e_mv1; obtain ⟨mv_2, mvt2, e_mv2, h3_mv3⟩ := len_cons h3_mv2; subst e_mv2; obtain ⟨mv_3, mvt3, e_mv3, h3_mv4⟩ := len_cons h3_mv3; subst e_mv3; obtain ⟨mv_4, mvt4, e_mv4, h3_mv5⟩ := len_cons h3_mv4; subst e_mv4; obtain ⟨mv_5, mvt5, e_mv5, h3_mv6⟩ := len_cons h3_mv5; subst e_mv5; obtain ⟨mv_6, mvt6, e_mv6, h3_mv7⟩ := len_cons h3_mv6; subst e_mv6; obtain ⟨mv_7, mvt7, e_mv7, h3_mv8⟩ := len_cons h3_mv7; subst e_mv7; obtain ⟨mv_8, mvt8, e_mv8, h3_mv9⟩ := len_cons h3_mv8; subst e_mv8; obtain ⟨mv_9, mvt9, e_mv9, h3_mv10⟩ := len_cons h3_mv9; subst e_mv9; obtain ⟨mv_10, mvt10, e_mv10, h3_mv11⟩ := len_cons h3_mv10; subst e_mv10; have e_mv := len_nil h3_mv11; subst e_mv; have h4_ws0 : ws.length = 13 := h4; clear h4; obtain ⟨ws_0, wst0, e_ws0, h4_ws1⟩ := len_cons h4_ws0; subst e_ws0; obtain ⟨ws_1, wst1, e_ws1, h4_ws2⟩ := len_cons h4_ws1; subst e_ws1; obtain ⟨ws_2, wst2, e_ws2, h4_ws3⟩ := len_cons h4_ws2; subst e_ws2; obtain ⟨ws_3, wst3, e_ws3, h4_ws4⟩ := len_cons h4_ws3; subst e_ws3; obtain ⟨ws_4, wst4, e_ws4, h4_ws5⟩ := len_cons h4_ws4; subst e_ws4; obtain ⟨ws_5, wst5, e_ws5, h4_ws6⟩ := len_cons h4_ws5; subst e_ws5; obtain ⟨ws_6, wst6, e_ws6, h4_ws7⟩ := len_cons h4_ws6; subst e_ws6; obtain ⟨ws_7, wst7, e_ws7, h4_ws8⟩ := len_cons h4_ws7; subst e_ws7; obtain ⟨ws_8, wst8, e_ws8, h4_ws9⟩ := len_cons h4_ws8; subst e_ws8; obtain ⟨ws_9, wst9, e_ws9, h4_ws10⟩ := len_cons h4_ws9; subst e_ws9; obtain ⟨ws_10, wst10, e_ws10, h4_ws11⟩ := len_cons h4_ws10; subst e_ws10; obtain ⟨ws_11, wst11, e_ws11, h4_ws12⟩ := len_cons h4_ws11; subst e_ws11; obtain ⟨ws_12, wst12, e_ws12, h4_ws13⟩ := len_cons h4_ws12; subst e_ws12; have e_ws := len_nil h4_ws13; subst e_ws; 
  kernel_rfl
theorem kb_Grid_init_0_z {K : PySem.W.Frag} {mg : Str → Option Value} (Z : Fs K mg) {fd : FuncData} (F : FunD K d_Grid_init.name d_Grid_init.qual d_Grid_init.params d_Grid_init.body d_Grid_init.scope (d_Grid_init.dvs K) (d_Grid_init.kws K) (He.fAd K d_Grid_init.at_) fd) : KB K (TT K) fd P_Grid_init 0 [] (fun ds zs => arr [.d 0, .d 1, .m 0, .m 1, .m 2, .m 3, .m 4, .m 5, .m 6, .m 7, .m 8, .m 9, .m 10] ds [.tup [], .tup []] [.tup [], .tup [.str "auto"], .tup [.str "auto"], .str "row", .bl false, .int 0, .int 0, .str "stretch", .str "stretch", .str "stretch", .str "stretch"] zs) := by
  refine kb_gen F 0 [] [.d 0, .d 1, .m 0, .m 1, .m 2, .m 3, .m 4, .m 5, .m 6, .m 7, .m 8, .m 9, .m 10] [.tup [], .tup []] [.tup [], .tup [.str "auto"], .tup [.str "auto"], .str "row", .bl false, .int 0, .int 0, .str "stretch", .str "stretch", .str "stretch", .str "stretch"] (fun G ρ => RepL.cons (tup_rep [] (Z.ex_ 5 rfl) rfl) (RepL.cons (tup_rep [] (Z.ex_ 4 rfl) rfl) (RepL.nil))) (fun G ρ => RepL.cons (tup_rep [] (Z.ex_ 8 rfl) rfl) (RepL.cons (tup_rep [.str "auto"] (Z.ex_ 7 rfl) rfl) (RepL.cons (tup_rep [.str "auto"] (Z.ex_ 6 rfl) rfl) (RepL.cons (lit_rep (.str "row") rfl) (RepL.cons (lit_rep (.bl false) rfl) (RepL.cons (lit_rep (.int 0) rfl) (RepL.cons (lit_rep (.int 0) rfl) (RepL.cons (lit_rep (.str "stretch") rfl) (RepL.cons (lit_rep (.str "stretch") rfl) (RepL.cons (lit_rep (.str "stretch") rfl) (RepL.cons (lit_rep (.str "stretch") rfl) (RepL.nil)))))))))))) rfl rfl rfl ?_
  intro us its mv ws h1 h2 h3 h4
  have h1_us0 : us.length = 1 := h1; clear h1; obtain ⟨us_0, ust0, e_us0, h1_us1⟩ := len_cons h1_us0; subst e_us0; have e_us := len_nil h1_us1; subst e_us; have h2_its0 : its.length = 2 := h2; clear h2; obtain ⟨its_0, itst0, e_its0, h2_its1⟩ := len_cons h2_its0; subst e_its0; obtain ⟨its_1, itst1, e_its1, h2_its2⟩ := len_cons h2_its1; subst e_its1; have e_its := len_nil h2_its2; subst e_its; have h3_mv0 : mv.length = 11 := h3; clear h3; obtain ⟨mv_0, mvt0, e_mv0, h3_mv1⟩ := len_cons h3_mv0; subst e_mv0; obtain ⟨mv_1, mvt1, e_mv1, h3_mv2⟩ := len_cons h3_mv1; subst e_mv1; obtain ⟨mv_2, mvt2, e_mv2, h3_mv3⟩ := len_cons h3_mv2; subst e_mv2; obtain ⟨mv_3, mvt3, e_mv3, h3_mv4⟩ := len_cons h3_mv3; subst e_mv3; obtain ⟨mv_4, mvt4, e_mv4, h3_mv5⟩ := len_cons h3_mv4; subst e_mv4; obtain ⟨mv_5, mvt5, e_mv5, h3_mv6⟩ := len_cons h3_mv5; subst e_mv5; obtain ⟨mv_6, mvt6, e_mv6, h3_mv7⟩ := len_cons h3_mv6; subst e_mv6; obtain ⟨mv_7, mvt7, e_mv7, h3_mv8⟩ := len_cons h3_mv7; subst e_mv7; obtain ⟨mv_8, mvt8, e_mv8, h3_mv9⟩ := len_cons h3_mv8; subst e_mv8; obtain ⟨mv_9, mvt9, e_mv9, h3_mv10⟩ := len_cons h3_mv9; subst e_mv9; obtain ⟨mv_10, mvt10, e_mv10, h3_mv11⟩ := len_cons h3_mv10; subst e_mv10; have e_mv := len_nil h3_mv11; subst e_mv; have h4_ws0 : ws.length = 0 := h4; clear h4; have e_ws := len_nil h4_ws0; subst e_ws; 
  kernel_rfl
theorem kb_Grid_init_2_z {K : PySem.W.Frag} {mg : Str → Option Value} (Z : Fs K mg) {fd : FuncData} (F : FunD K d_Grid_init.name d_Grid_init.qual d_Grid_init.params d_Grid_init.body d_Grid_init.scope (d_Grid_init.dvs K) (d_Grid_init.kws K) (He.fAd K d_Grid_init.at_) fd) : KB K (TT K) fd P_Grid_init 2 [] (fun ds zs => arr [.p 0, .p 1, .m 0, .m 1, .m 2, .m 3, .m 4, .m 5, .m 6, .m 7, .m 8, .m 9, .m 10] ds [.tup [], .tup []] [.tup [], .tup [.str "auto"], .tup [.str "auto"], .str "row", .bl false, .int 0, .int 0, .str "stretch", .str "stretch", .str "stretch", .str "stretch"] zs) := by
  refine kb_gen F 2 [] [.p 0, .p 1, .m 0, .m 1, .m 2, .m 3, .m 4, .m 5, .m 6, .m 7, .m 8, .m 9, .m 10] [.tup [], .tup []] [.tup [], .tup [.str "auto"], .tup [.str "auto"], .str "row", .bl false, .int 0, .int 0, .str "stretch", .str "stretch", .str "stretch", .str "stretch"] (fun G ρ => RepL.cons (tup_rep [] (Z.ex_ 5 rfl) rfl) (RepL.cons (tup_rep [] (Z.ex_ 4 rfl) rfl) (RepL.nil))) (fun G ρ => RepL.cons (tup_rep [] (Z.ex_ 8 rfl) rfl) (RepL.cons (tup_rep [.str "auto"] (Z.ex_ 7 rfl) rfl) (RepL.cons (tup_rep [.str "auto"] (Z.ex_ 6 rfl) rfl) (RepL.cons (lit_rep (.str "row") rfl) (RepL.cons (lit_rep (.bl false) rfl) (RepL.cons (lit_rep (.int 0) rfl) (RepL.cons (lit_rep (.int 0) rfl) (RepL.cons (lit_rep (.str "stretch") rfl) (RepL.cons (lit_rep (.str "stretch") rfl) (RepL.cons (lit_rep (.str "stretch") rfl) (RepL.cons (lit_rep (.str "stretch") rfl) (RepL.nil)))))))))))) rfl rfl rfl ?_
  intro us its mv ws h1 h2 h3 h4
  have h1_us0 : us.length = 3 := h1; clear h1; obtain ⟨us_0, ust0, e_us0, h1_us1⟩ := len_cons h1_us0; subst e_us0; obtain ⟨us_1, ust1, e_us1, h1_us2⟩ := len_cons h1_us1; subst e_us1; obtain ⟨us_2, ust2, e_us2, h1_us3⟩ := len_cons h1_us2; subst e_us2; have e_us := len_nil h1_us3; subst e_us; have h2_its0 : its.length = 2 := h2; clear h2; obtain ⟨its_0, itst0, e_its0, h2_its1⟩ := len_cons h2_its0; subst e_its0; obtain ⟨its_1, itst1, e_its1, h2_its2⟩ := len_cons h2_its1; subst e_its1; have e_its := len_nil h2_its2; subst e_its; have h3_mv0 : mv.length = 11 := h3; clear h3; obtain ⟨mv_0, mvt0, e_mv0, h3_mv1⟩ := len_cons h3_mv0; subst e_mv0; obtain ⟨mv_1, mvt1, e_mv1, h3_mv2⟩ := len_cons h3_mv1; subst e_mv1; obtain ⟨mv_2, mvt2, e_mv2, h3_mv3⟩ := len_cons h3_mv2; subst e_mv2; obtain ⟨mv_3, mvt3, e_mv3, h3_mv4⟩ := len_cons h3_mv3; subst e_mv3; obtain ⟨mv_4, mvt4, e_mv4, h3_mv5⟩ := len_cons h3_mv4; subst e_mv4; obtain ⟨mv_5, mvt5, e_mv5, h3_mv6⟩ := len_cons h3_mv5; subst e_mv5; obtain ⟨mv_6, mvt6, e_mv6, h3_mv7⟩ := len_cons h3_mv6; subst e_mv6; obtain ⟨mv_7, mvt7, e_mv7, h3_mv8⟩ := len_cons h3_mv7; subst e_mv7; obtain ⟨mv_8, mvt8, e_mv8, h3_mv9⟩ := len_cons h3_mv8; subst e_mv8; obtain ⟨mv_9, mvt9, e_mv9, h3_mv10⟩ := len_cons h3_mv9; subst e_mv9; obtain ⟨mv_10, mvt10, e_mv10, h3_mv11⟩ := len_cons h3_mv10; subst e_mv10; have e_mv := len_nil h3_mv11; subst e_mv; have h4_ws0 : ws.length = 0 := h4; clear h4; have e_ws := len_nil h4_ws0; subst e_ws; 
  kernel_rfl
theorem ok__law_draw {P : Program} {w : World} {K : PySem.W.Frag} {mg : Str → Option Value} {base : Heap} (Z : Fs K mg) :
    ∃ fd, FunD K d__law_draw.name d__law_draw.qual d__law_draw.params d__law_draw.body d__law_draw.scope (d__law_draw.dvs K) (d__law_draw.kws K) (He.fAd K d__law_draw.at_) fd ∧ FnOk P w K mg base (CX P w) 1 (He.fAd K d__law_draw.at_) fd P__law_draw (spM K (TT K) 2 f__law_draw) ∧ Binds K fd P__law_draw [] := by
  obtain ⟨fd, F⟩ := Z.says.def_ 0 (d := d__law_draw) rfl
  refine ⟨fd, F, fn_okX F sc__law_draw fun cdv A outer s H Ex hr => ?_, F.bindsN fun _ _ _ _ _ _ us hl => match us, hl with | [_, _], _ => rfl⟩
  have hu := hr.units
  have tk := takes_of (X := cxOf (CX P w) P w K mg base N__law_draw d__law_draw.qual (defScope s__law_draw) (He.fAd K d__law_draw.at_) cdv A outer s H Ex) rfl rfl rfl rfl
  have hp := passes_of (X := cxOf (CX P w) P w K mg base N__law_draw d__law_draw.qual (defScope s__law_draw) (He.fAd K d__law_draw.at_) cdv A outer s H Ex) rfl
  unfold M__law_draw
  exact pss_consX (ps_ifX (pt_cm cm_gt (px_ix (px_var 0) px_int) px_int)
    (pss_consX (ps_setX 2 (px_bin bn_mod (px_calT cl_int (Z.free 1) (px_cons (px_ix (px_var 0) px_int) px_nil)) (px_var 1)) sc__law_draw.nd)
    (pss_consX (ps_subC (px_bin bn_fdiv (px_ix (px_var 0) px_int) (px_var 1)) (px_var 0) px_int)
    (pss_oneX (ps_retX (px_var 2)))))
    (pss_nilX))
    (pss_consX (ps_subC (px_bin bn_add (px_ix (px_var 0) px_int) px_int) (px_var 0) px_int)
    (pss_consX (ps_setX 3 (px_bin bn_mod (px_calT cl_int (Z.free 1) (px_cons (px_bin bn_mul (px_bin bn_add (px_bin bn_add (px_ix (px_var 0) px_int) (px_bin bn_mul px_int (px_ix (px_var 0) px_int))) px_int) px_int) px_nil)) px_int) sc__law_draw.nd)
    (pss_consX (ps_setX 3 (px_bin bn_mod (px_calT cl_int (Z.free 1) (px_cons (px_bin bn_mul (px_var 3) (px_bin bn_add (px_bin bn_fdiv (px_var 3) px_int) px_int)) px_nil)) px_int) sc__law_draw.nd)
    (pss_oneX (ps_retX (px_bin bn_mod (px_calT cl_int (Z.free 1) (px_cons (px_bin bn_mod (px_calT cl_int (Z.free 1) (px_cons (px_bin bn_mul (px_var 3) (px_bin bn_add (px_bin bn_fdiv (px_var 3) px_int) px_int)) px_nil)) px_int) px_nil)) (px_var 1)))))))
theorem ok__law_fixed {P : Program} {w : World} {K : PySem.W.Frag} {mg : Str → Option Value} {base : Heap} (Z : Fs K mg) :
    ∃ fd, FunD K d__law_fixed.name d__law_fixed.qual d__law_fixed.params d__law_fixed.body d__law_fixed.scope (d__law_fixed.dvs K) (d__law_fixed.kws K) (He.fAd K d__law_fixed.at_) fd ∧ FnOk P w K mg base (CX P w) 2 (He.fAd K d__law_fixed.at_) fd P__law_fixed (spM K (TT K) 1 f__law_fixed) ∧ Binds K fd P__law_fixed [] := by
  obtain ⟨fd, F⟩ := Z.says.def_ 1 (d := d__law_fixed) rfl
  obtain ⟨fd__law_draw, F__law_draw, O__law_draw, B__law_draw⟩ := ok__law_draw (P := P) (w := w) (base := base) Z
  refine ⟨fd, F, fn_okX F sc__law_fixed fun cdv A outer s H Ex hr => ?_, F.bindsN fun _ _ _ _ _ _ us hl => match us, hl with | [_], _ => rfl⟩
  have hu := hr.units
  have tk := takes_of (X := cxOf (CX P w) P w K mg base N__law_fixed d__law_fixed.qual (defScope s__law_fixed) (He.fAd K d__law_fixed.at_) cdv A outer s H Ex) rfl rfl rfl rfl
  have hp := passes_of (X := cxOf (CX P w) P w K mg base N__law_fixed d__law_fixed.qual (defScope s__law_fixed) (He.fAd K d__law_fixed.at_) cdv A outer s H Ex) rfl
  unfold M__law_fixed
  exact pss_consX (ps_setX 1 (px_new (pf_lst (px_cons px_int (px_cons px_int (px_cons px_int (px_cons (px_tup (px_cons px_int (px_cons px_int px_nil))) (px_cons px_int (px_cons (px_call O__law_draw (hr.mono (by decide)) (Z.glo 2) F__law_draw.kp B__law_draw .nil (fun _ _ => RepL.nil) tk (px_cons (px_var 0) (px_cons px_int px_nil))) (px_cons (px_tup (px_cons px_str (px_cons (px_tup (px_cons px_int (px_cons px_int px_nil))) px_nil))) (px_cons (px_tup (px_cons px_str (px_cons (px_tup (px_cons px_int (px_cons px_int px_nil))) px_nil))) (px_cons (px_tup (px_cons px_str (px_cons px_int px_nil))) (px_cons (px_tup (px_cons px_str (px_cons px_int px_nil))) px_nil)))))))))))) sc__law_fixed.nd)
    (pss_oneX (ps_retX (px_ix (px_var 1) (px_call O__law_draw (hr.mono (by decide)) (Z.glo 2) F__law_draw.kp B__law_draw .nil (fun _ _ => RepL.nil) tk (px_cons (px_var 0) (px_cons px_int px_nil))))))
theorem ok__law_one {P : Program} {w : World} {K : PySem.W.Frag} {mg : Str → Option Value} {base : Heap} (Z : Fs K mg) :
    ∃ fd, FunD K d__law_one.name d__law_one.qual d__law_one.params d__law_one.body d__law_one.scope (d__law_one.dvs K) (d__law_one.kws K) (He.fAd K d__law_one.at_) fd ∧ FnOk P w K mg base (CX P w) 2 (He.fAd K d__law_one.at_) fd P__law_one (spM K (TT K) 2 f__law_one) ∧ Binds K fd P__law_one [] := by
  obtain ⟨fd, F⟩ := Z.says.def_ 2 (d := d__law_one) rfl
  obtain ⟨fd__law_draw, F__law_draw, O__law_draw, B__law_draw⟩ := ok__law_draw (P := P) (w := w) (base := base) Z
  refine ⟨fd, F, fn_okX F sc__law_one fun cdv A outer s H Ex hr => ?_, F.bindsN fun _ _ _ _ _ _ us hl => match us, hl with | [_, _], _ => rfl⟩
  have hu := hr.units
  have tk := takes_of (X := cxOf (CX P w) P w K mg base N__law_one d__law_one.qual (defScope s__law_one) (He.fAd K d__law_one.at_) cdv A outer s H Ex) rfl rfl rfl rfl
  have hp := passes_of (X := cxOf (CX P w) P w K mg base N__law_one d__law_one.qual (defScope s__law_one) (He.fAd K d__law_one.at_) cdv A outer s H Ex) rfl
  unfold M__law_one
  exact pss_oneX (ps_retX (px_ix (px_var 1) (px_call O__law_draw (hr.mono (by decide)) (Z.glo 2) F__law_draw.kp B__law_draw .nil (fun _ _ => RepL.nil) tk (px_cons (px_var 0) (px_cons (px_calB cl_len (Z.free 3) (px_cons (px_var 1) px_nil)) px_nil)))))
theorem ok__law_share {P : Program} {w : World} {K : PySem.W.Frag} {mg : Str → Option Value} {base : Heap} (Z : Fs K mg) :
    ∃ fd, FunD K d__law_share.name d__law_share.qual d__law_share.params d__law_share.body d__law_share.scope (d__law_share.dvs K) (d__law_share.kws K) (He.fAd K d__law_share.at_) fd ∧ FnOk P w K mg base (CX P w) 2 (He.fAd K d__law_share.at_) fd P__law_share (spM K (TT K) 1 f__law_share) ∧ Binds K fd P__law_share [] := by
  obtain ⟨fd, F⟩ := Z.says.def_ 3 (d := d__law_share) rfl
  obtain ⟨fd__law_draw, F__law_draw, O__law_draw, B__law_draw⟩ := ok__law_draw (P := P) (w := w) (base := base) Z
  refine ⟨fd, F, fn_okX F sc__law_share fun cdv A outer s H Ex hr => ?_, F.bindsN fun _ _ _ _ _ _ us hl => match us, hl with | [_], _ => rfl⟩
  have hu := hr.units
  have tk := takes_of (X := cxOf (CX P w) P w K mg base N__law_share d__law_share.qual (defScope s__law_share) (He.fAd K d__law_share.at_) cdv A outer s H Ex) rfl rfl rfl rfl
  have hp := passes_of (X := cxOf (CX P w) P w K mg base N__law_share d__law_share.qual (defScope s__law_share) (He.fAd K d__law_share.at_) cdv A outer s H Ex) rfl
  unfold M__law_share
  exact pss_oneX (ps_retX (px_tup (px_cons px_str (px_cons (px_ix (px_new (pf_lst (px_cons px_int (px_cons px_int (px_cons px_int (px_cons px_int (px_cons (px_tup (px_cons px_int (px_cons px_int px_nil))) (px_cons (px_tup (px_cons px_int (px_cons px_int px_nil))) (px_cons px_int px_nil))))))))) (px_call O__law_draw (hr.mono (by decide)) (Z.glo 2) F__law_draw.kp B__law_draw .nil (fun _ _ => RepL.nil) tk (px_cons (px_var 0) (px_cons px_int px_nil)))) px_nil))))
theorem ok__law_counted {P : Program} {w : World} {K : PySem.W.Frag} {mg : Str → Option Value} {base : Heap} (Z : Fs K mg) :
    ∃ fd, FunD K d__law_counted.name d__law_counted.qual d__law_counted.params d__law_counted.body d__law_counted.scope (d__law_counted.dvs K) (d__law_counted.kws K) (He.fAd K d__law_counted.at_) fd ∧ FnOk P w K mg base (CX P w) 3 (He.fAd K d__law_counted.at_) fd P__law_counted (spM K (TT K) 1 f__law_counted) ∧ Binds K fd P__law_counted [] := by
  obtain ⟨fd, F⟩ := Z.says.def_ 4 (d := d__law_counted) rfl
  obtain ⟨fd__law_draw, F__law_draw, O__law_draw, B__law_draw⟩ := ok__law_draw (P := P) (w := w) (base := base) Z
  obtain ⟨fd__law_fixed, F__law_fixed, O__law_fixed, B__law_fixed⟩ := ok__law_fixed (P := P) (w := w) (base := base) Z
  obtain ⟨fd__law_one, F__law_one, O__law_one, B__law_one⟩ := ok__law_one (P := P) (w := w) (base := base) Z
  obtain ⟨fd__law_share, F__law_share, O__law_share, B__law_share⟩ := ok__law_share (P := P) (w := w) (base := base) Z
  refine ⟨fd, F, fn_okX F sc__law_counted fun cdv A outer s H Ex hr => ?_, F.bindsN fun _ _ _ _ _ _ us hl => match us, hl with | [_], _ => rfl⟩
  have hu := hr.units
  have tk := takes_of (X := cxOf (CX P w) P w K mg base N__law_counted d__law_counted.qual (defScope s__law_counted) (He.fAd K d__law_counted.at_) cdv A outer s H Ex) rfl rfl rfl rfl
  have hp := passes_of (X := cxOf (CX P w) P w K mg base N__law_counted d__law_counted.qual (defScope s__law_counted) (He.fAd K d__law_counted.at_) cdv A outer s H Ex) rfl
  unfold M__law_counted
  exact pss_consX (ps_setX 1 (px_new (pf_lst (px_cons px_str (px_cons px_str (px_cons px_str px_nil))))) sc__law_counted.nd)
    (pss_consX (ps_setX 2 (px_call O__law_draw (hr.mono (by decide)) (Z.glo 2) F__law_draw.kp B__law_draw .nil (fun _ _ => RepL.nil) tk (px_cons (px_var 0) (px_cons px_int px_nil))) sc__law_counted.nd)
    (pss_consX (ps_ifX (pt_cm (cm_eq hu) (px_var 2) px_int)
    (pss_oneX (ps_retX (px_call O__law_fixed (hr.mono (by decide)) (Z.glo 4) F__law_fixed.kp B__law_fixed .nil (fun _ _ => RepL.nil) tk (px_cons (px_var 0) px_nil))))
    (pss_nilX))
    (pss_consX (ps_ifX (pt_cm (cm_eq hu) (px_var 2) px_int)
    (pss_oneX (ps_retX (px_tup (px_cons px_str (px_cons (px_call O__law_fixed (hr.mono (by decide)) (Z.glo 4) F__law_fixed.kp B__law_fixed .nil (fun _ _ => RepL.nil) tk (px_cons (px_var 0) px_nil)) (px_cons (px_call O__law_one (hr.mono (by decide)) (Z.glo 5) F__law_one.kp B__law_one .nil (fun _ _ => RepL.nil) tk (px_cons (px_var 0) (px_cons (px_new (pf_cat (px_var 1) (px_new (pf_lst (px_cons (px_call O__law_fixed (hr.mono (by decide)) (Z.glo 4) F__law_fixed.kp B__law_fixed .nil (fun _ _ => RepL.nil) tk (px_cons (px_var 0) px_nil)) (px_cons (px_call O__law_share (hr.mono (by decide)) (Z.glo 6) F__law_share.kp B__law_share .nil (fun _ _ => RepL.nil) tk (px_cons (px_var 0) px_nil)) px_nil)))))) px_nil))) px_nil))))))
    (pss_nilX))
    (pss_oneX (ps_retX (px_tup (px_cons px_str (px_cons (px_call O__law_one (hr.mono (by decide)) (Z.glo 5) F__law_one.kp B__law_one .nil (fun _ _ => RepL.nil) tk (px_cons (px_var 0) (px_cons (px_var 1) px_nil))) (px_cons (px_call O__law_fixed (hr.mono (by decide)) (Z.glo 4) F__law_fixed.kp B__law_fixed .nil (fun _ _ => RepL.nil) tk (px_cons (px_var 0) px_nil)) px_nil)))))))))
theorem ok__law_size {P : Program} {w : World} {K : PySem.W.Frag} {mg : Str → Option Value} {base : Heap} (Z : Fs K mg) :
    ∃ fd, FunD K d__law_size.name d__law_size.qual d__law_size.params d__law_size.body d__law_size.scope (d__law_size.dvs K) (d__law_size.kws K) (He.fAd K d__law_size.at_) fd ∧ FnOk P w K mg base (CX P w) 3 (He.fAd K d__law_size.at_) fd P__law_size (spM K (TT K) 1 f__law_size) ∧ Binds K fd P__law_size [] := by
  obtain ⟨fd, F⟩ := Z.says.def_ 5 (d := d__law_size) rfl
  obtain ⟨fd__law_draw, F__law_draw, O__law_draw, B__law_draw⟩ := ok__law_draw (P := P) (w := w) (base := base) Z
  obtain ⟨fd__law_fixed, F__law_fixed, O__law_fixed, B__law_fixed⟩ := ok__law_fixed (P := P) (w := w) (base := base) Z
  obtain ⟨fd__law_share, F__law_share, O__law_share, B__law_share⟩ := ok__law_share (P := P) (w := w) (base := base) Z
  obtain ⟨fd__law_one, F__law_one, O__law_one, B__law_one⟩ := ok__law_one (P := P) (w := w) (base := base) Z
  refine ⟨fd, F, fn_okX F sc__law_size fun cdv A outer s H Ex hr => ?_, F.bindsN fun _ _ _ _ _ _ us hl => match us, hl with | [_], _ => rfl⟩
  have hu := hr.units
  have tk := takes_of (X := cxOf (CX P w) P w K mg base N__law_size d__law_size.qual (defScope s__law_size) (He.fAd K d__law_size.at_) cdv A outer s H Ex) rfl rfl rfl rfl
  have hp := passes_of (X := cxOf (CX P w) P w K mg base N__law_size d__law_size.qual (defScope s__law_size) (He.fAd K d__law_size.at_) cdv A outer s H Ex) rfl
  unfold M__law_size
  exact pss_consX (ps_setX 1 (px_new (pf_lst (px_cons px_str (px_cons px_str (px_cons px_str px_nil))))) sc__law_size.nd)
    (pss_consX (ps_setX 2 (px_call O__law_draw (hr.mono (by decide)) (Z.glo 2) F__law_draw.kp B__law_draw .nil (fun _ _ => RepL.nil) tk (px_cons (px_var 0) (px_cons px_int px_nil))) sc__law_size.nd)
    (pss_consX (ps_ifX (pt_cm cm_lt (px_var 2) px_int)
    (pss_oneX (ps_retX (px_call O__law_fixed (hr.mono (by decide)) (Z.glo 4) F__law_fixed.kp B__law_fixed .nil (fun _ _ => RepL.nil) tk (px_cons (px_var 0) px_nil))))
    (pss_nilX))
    (pss_consX (ps_ifX (pt_cm (cm_eq hu) (px_var 2) px_int)
    (pss_oneX (ps_retX (px_call O__law_share (hr.mono (by decide)) (Z.glo 6) F__law_share.kp B__law_share .nil (fun _ _ => RepL.nil) tk (px_cons (px_var 0) px_nil))))
    (pss_nilX))
    (pss_consX (ps_ifX (pt_cm cm_lt (px_var 2) px_int)
    (pss_oneX (ps_retX (px_call O__law_one (hr.mono (by decide)) (Z.glo 5) F__law_one.kp B__law_one .nil (fun _ _ => RepL.nil) tk (px_cons (px_var 0) (px_cons (px_var 1) px_nil)))))
    (pss_nilX))
    (pss_consX (ps_ifX (pt_cm (cm_eq hu) (px_var 2) px_int)
    (pss_oneX (ps_retX (px_tup (px_cons px_str (px_cons (px_call O__law_fixed (hr.mono (by decide)) (Z.glo 4) F__law_fixed.kp B__law_fixed .nil (fun _ _ => RepL.nil) tk (px_cons (px_var 0) px_nil)) px_nil)))))
    (pss_nilX))
    (pss_consX (ps_setX 3 (px_call O__law_one (hr.mono (by decide)) (Z.glo 5) F__law_one.kp B__law_one .nil (fun _ _ => RepL.nil) tk (px_cons (px_var 0) (px_cons (px_new (pf_cat (px_var 1) (px_new (pf_lst (px_cons (px_call O__law_fixed (hr.mono (by decide)) (Z.glo 4) F__law_fixed.kp B__law_fixed .nil (fun _ _ => RepL.nil) tk (px_cons (px_var 0) px_nil)) (px_cons (px_call O__law_fixed (hr.mono (by decide)) (Z.glo 4) F__law_fixed.kp B__law_fixed .nil (fun _ _ => RepL.nil) tk (px_cons (px_var 0) px_nil)) px_nil)))))) px_nil))) sc__law_size.nd)
    (pss_oneX (ps_retX (px_tup (px_cons px_str (px_cons (px_var 3) (px_cons (px_call O__law_one (hr.mono (by decide)) (Z.glo 5) F__law_one.kp B__law_one .nil (fun _ _ => RepL.nil) tk (px_cons (px_var 0) (px_cons (px_new (pf_cat (px_var 1) (px_new (pf_lst (px_cons (px_call O__law_fixed (hr.mono (by decide)) (Z.glo 4) F__law_fixed.kp B__law_fixed .nil (fun _ _ => RepL.nil) tk (px_cons (px_var 0) px_nil)) (px_cons (px_call O__law_share (hr.mono (by decide)) (Z.glo 6) F__law_share.kp B__law_share .nil (fun _ _ => RepL.nil) tk (px_cons (px_var 0) px_nil)) px_nil)))))) px_nil))) px_nil))))))))))))
theorem ok__law_names {P : Program} {w : World} {K : PySem.W.Frag} {mg : Str → Option Value} {base : Heap} (Z : Fs K mg) :
    ∃ fd, FunD K d__law_names.name d__law_names.qual d__law_names.params d__law_names.body d__law_names.scope (d__law_names.dvs K) (d__law_names.kws K) (He.fAd K d__law_names.at_) fd ∧ FnOk P w K mg base (CX P w) 3 (He.fAd K d__law_names.at_) fd P__law_names (spM K (TT K) 1 f__law_names) ∧ Binds K fd P__law_names [] := by
  obtain ⟨fd, F⟩ := Z.says.def_ 6 (d := d__law_names) rfl
  obtain ⟨fd__law_draw, F__law_draw, O__law_draw, B__law_draw⟩ := ok__law_draw (P := P) (w := w) (base := base) Z
  obtain ⟨fd__law_one, F__law_one, O__law_one, B__law_one⟩ := ok__law_one (P := P) (w := w) (base := base) Z
  refine ⟨fd, F, fn_okX F sc__law_names fun cdv A outer s H Ex hr => ?_, F.bindsN fun _ _ _ _ _ _ us hl => match us, hl with | [_], _ => rfl⟩
  have hu := hr.units
  have tk := takes_of (X := cxOf (CX P w) P w K mg base N__law_names d__law_names.qual (defScope s__law_names) (He.fAd K d__law_names.at_) cdv A outer s H Ex) rfl rfl rfl rfl
  have hp := passes_of (X := cxOf (CX P w) P w K mg base N__law_names d__law_names.qual (defScope s__law_names) (He.fAd K d__law_names.at_) cdv A outer s H Ex) rfl
  unfold M__law_names
  exact pss_consX (ps_setX 1 (px_new (pf_lst (px_cons px_str (px_cons px_str (px_cons px_str (px_cons px_str (px_cons px_str (px_cons px_str px_nil)))))))) sc__law_names.nd)
    (pss_oneX (ps_retX (px_calT cl_tuple (Z.free 7) (px_cons (px_new (by exact pf_lc (own := [("turn", 2)]) rfl sc__law_names.nd (pi_range1X (Z.free 8) (px_cons (px_call O__law_draw (hr.mono (by decide)) (Z.glo 2) F__law_draw.kp B__law_draw .nil (fun _ _ => RepL.nil) tk (px_cons (px_var 0) (px_cons px_int px_nil))) px_nil)) (blkOk_by (own := [("turn", 2)]) (N := N__law_names) (sc := defScope s__law_names) (by decide +kernel)) (fun s_ H_ C_ cl_ fp_ => pg_name (i := 2) sc__law_names.nd rfl (by first | exact Or.inl rfl | exact Or.inr rfl)) (tr_name 2) (fun s_ H_ C_ cl_ fp_ => pts_nilX) (fun s_ H_ C_ cl_ fp_ => px_call O__law_one (hr.mono (by decide)) (Z.glo 5) F__law_one.kp B__law_one .nil (fun _ _ => RepL.nil) takes_blk (px_cons (px_var 0) (px_cons (px_var 1) px_nil))))) px_nil))))
theorem ok__law_plain {P : Program} {w : World} {K : PySem.W.Frag} {mg : Str → Option Value} {base : Heap} (Z : Fs K mg) :
    ∃ fd, FunD K d__law_plain.name d__law_plain.qual d__law_plain.params d__law_plain.body d__law_plain.scope (d__law_plain.dvs K) (d__law_plain.kws K) (He.fAd K d__law_plain.at_) fd ∧ FnOk P w K mg base (CX P w) 4 (He.fAd K d__law_plain.at_) fd P__law_plain (spM K (TT K) 3 f__law_plain) ∧ Binds K fd P__law_plain [] := by
  obtain ⟨fd, F⟩ := Z.says.def_ 7 (d := d__law_plain) rfl
  obtain ⟨fd__law_draw, F__law_draw, O__law_draw, B__law_draw⟩ := ok__law_draw (P := P) (w := w) (base := base) Z
  obtain ⟨fd__law_names, F__law_names, O__law_names, B__law_names⟩ := ok__law_names (P := P) (w := w) (base := base) Z
  obtain ⟨fd__law_counted, F__law_counted, O__law_counted, B__law_counted⟩ := ok__law_counted (P := P) (w := w) (base := base) Z
  obtain ⟨fd__law_size, F__law_size, O__law_size, B__law_size⟩ := ok__law_size (P := P) (w := w) (base := base) Z
  refine ⟨fd, F, fn_okX F sc__law_plain fun cdv A outer s H Ex hr => ?_, F.bindsN fun _ _ _ _ _ _ us hl => match us, hl with | [_, _, _], _ => rfl⟩
  have hu := hr.units
  have tk := takes_of (X := cxOf (CX P w) P w K mg base N__law_plain d__law_plain.qual (defScope s__law_plain) (He.fAd K d__law_plain.at_) cdv A outer s H Ex) rfl rfl rfl rfl
  have hp := passes_of (X := cxOf (CX P w) P w K mg base N__law_plain d__law_plain.qual (defScope s__law_plain) (He.fAd K d__law_plain.at_) cdv A outer s H Ex) rfl
  unfold M__law_plain
  exact pss_consX (ps_ownX 3 (pf_lst px_nil) sc__law_plain.nd)
    (pss_consX (ps_forX hp rfl (pi_range1X (Z.free 8) (px_cons (px_bin bn_add px_int (px_call O__law_draw (hr.mono (by decide)) (Z.glo 2) F__law_draw.kp B__law_draw .nil (fun _ _ => RepL.nil) tk (px_cons (px_var 0) (px_cons (px_var 1) px_nil)))) px_nil)) (pg_name (i := 4) sc__law_plain.nd rfl (by first | exact Or.inl rfl | exact Or.inr rfl)) (tr_name 4)
    (pss_consX (ps_ifX (pt_cm (cm_eq hu) (px_call O__law_draw (hr.mono (by decide)) (Z.glo 2) F__law_draw.kp B__law_draw .nil (fun _ _ => RepL.nil) tk (px_cons (px_var 0) (px_cons px_int px_nil))) px_int)
    (pss_oneX (ps_exprX (px_methO 3 PySem.F.slot_list_append PySem.F.type_list_append me_append (px_cons (px_tup (px_cons px_str (px_cons (px_call O__law_names (hr.mono (by decide)) (Z.glo 9) F__law_names.kp B__law_names .nil (fun _ _ => RepL.nil) tk (px_cons (px_var 0) px_nil)) px_nil))) px_nil))))
    (pss_nilX))
    (pss_oneX (ps_exprX (px_methO 3 PySem.F.slot_list_append PySem.F.type_list_append me_append (px_cons (px_if (px_tst (px_var 2)) (px_call O__law_counted (hr.mono (by decide)) (Z.glo 10) F__law_counted.kp B__law_counted .nil (fun _ _ => RepL.nil) tk (px_cons (px_var 0) px_nil)) (px_call O__law_size (hr.mono (by decide)) (Z.glo 11) F__law_size.kp B__law_size .nil (fun _ _ => RepL.nil) tk (px_cons (px_var 0) px_nil))) px_nil))))))
    (pss_oneX (ps_retX (px_calT cl_tuple (Z.free 7) (px_cons (px_var 3) px_nil)))))
theorem ok__law_template {P : Program} {w : World} {K : PySem.W.Frag} {mg : Str → Option Value} {base : Heap} (Z : Fs K mg) :
    ∃ fd, FunD K d__law_template.name d__law_template.qual d__law_template.params d__law_template.body d__law_template.scope (d__law_template.dvs K) (d__law_template.kws K) (He.fAd K d__law_template.at_) fd ∧ FnOk P w K mg base (CX P w) 5 (He.fAd K d__law_template.at_) fd P__law_template (spM K (TT K) 2 f__law_template) ∧ Binds K fd P__law_template [] := by
  obtain ⟨fd, F⟩ := Z.says.def_ 8 (d := d__law_template) rfl
  obtain ⟨fd__law_draw, F__law_draw, O__law_draw, B__law_draw⟩ := ok__law_draw (P := P) (w := w) (base := base) Z
  obtain ⟨fd__law_plain, F__law_plain, O__law_plain, B__law_plain⟩ := ok__law_plain (P := P) (w := w) (base := base) Z
  obtain ⟨fd__law_one, F__law_one, O__law_one, B__law_one⟩ := ok__law_one (P := P) (w := w) (base := base) Z
  refine ⟨fd, F, fn_okX F sc__law_template fun cdv A outer s H Ex hr => ?_, F.bindsN fun _ _ _ _ _ _ us hl => match us, hl with | [_, _], _ => rfl⟩
  have hu := hr.units
  have tk := takes_of (X := cxOf (CX P w) P w K mg base N__law_template d__law_template.qual (defScope s__law_template) (He.fAd K d__law_template.at_) cdv A outer s H Ex) rfl rfl rfl rfl
  have hp := passes_of (X := cxOf (CX P w) P w K mg base N__law_template d__law_template.qual (defScope s__law_template) (He.fAd K d__law_template.at_) cdv A outer s H Ex) rfl
  unfold M__law_template
  exact pss_consX (ps_ownX 2 (pf_if (pt_cm cm_gt (px_call O__law_draw (hr.mono (by decide)) (Z.glo 2) F__law_draw.kp B__law_draw .nil (fun _ _ => RepL.nil) tk (px_cons (px_var 0) (px_cons px_int px_nil))) px_int) (pf_list (Z.free 12) (px_cons (px_call O__law_plain (hr.mono (by decide)) (Z.glo 13) F__law_plain.kp B__law_plain .nil (fun _ _ => RepL.nil) tk (px_cons (px_var 0) (px_cons px_int (px_cons (px_var 1) px_nil)))) px_nil)) (pf_lst px_nil)) sc__law_template.nd)
    (pss_consX (ps_ifX (pt_cm (cm_eq hu) (px_call O__law_draw (hr.mono (by decide)) (Z.glo 2) F__law_draw.kp B__law_draw .nil (fun _ _ => RepL.nil) tk (px_cons (px_var 0) (px_cons px_int px_nil))) px_int)
    (pss_oneX (ps_exprX (px_methO 2 PySem.F.slot_list_append PySem.F.type_list_append me_append (px_cons (px_tup (px_cons px_str (px_cons (px_bin bn_add px_int (px_call O__law_draw (hr.mono (by decide)) (Z.glo 2) F__law_draw.kp B__law_draw .nil (fun _ _ => RepL.nil) tk (px_cons (px_var 0) (px_cons px_int px_nil)))) (px_cons (px_call O__law_plain (hr.mono (by decide)) (Z.glo 13) F__law_plain.kp B__law_plain .nil (fun _ _ => RepL.nil) tk (px_cons (px_var 0) (px_cons px_int (px_cons (px_var 1) px_nil)))) px_nil)))) px_nil))))
    (pss_nilX))
    (pss_consX (ps_ifX (px_tst (px_var 1))
    (pss_oneX (ps_exprX (px_methO 2 PySem.F.slot_list_insert PySem.F.type_list_insert me_insert (px_cons (px_call O__law_draw (hr.mono (by decide)) (Z.glo 2) F__law_draw.kp B__law_draw .nil (fun _ _ => RepL.nil) tk (px_cons (px_var 0) (px_cons (px_bin bn_add (px_lenO 2 (Z.free 3)) px_int) px_nil))) (px_cons (px_tup (px_cons (px_call O__law_one (hr.mono (by decide)) (Z.glo 5) F__law_one.kp B__law_one .nil (fun _ _ => RepL.nil) tk (px_cons (px_var 0) (px_cons (px_new (pf_lst (px_cons px_str (px_cons px_str px_nil)))) px_nil))) (px_cons (px_call O__law_plain (hr.mono (by decide)) (Z.glo 13) F__law_plain.kp B__law_plain .nil (fun _ _ => RepL.nil) tk (px_cons (px_var 0) (px_cons px_int (px_cons px_bl px_nil)))) px_nil))) px_nil)))))
    (pss_nilX))
    (pss_oneX (ps_retX (px_calT cl_tuple (Z.free 7) (px_cons (px_var 2) px_nil))))))
theorem ok__law_fields {P : Program} {w : World} {K : PySem.W.Frag} {mg : Str → Option Value} {base : Heap} (Z : Fs K mg) :
    ∃ fd, FunD K d__law_fields.name d__law_fields.qual d__law_fields.params d__law_fields.body d__law_fields.scope (d__law_fields.dvs K) (d__law_fields.kws K) (He.fAd K d__law_fields.at_) fd ∧ FnOk P w K mg base (CX P w) 2 (He.fAd K d__law_fields.at_) fd P__law_fields (spM K (TT K) 1 f__law_fields) ∧ Binds K fd P__law_fields [] := by
  obtain ⟨fd, F⟩ := Z.says.def_ 9 (d := d__law_fields) rfl
  obtain ⟨fd__law_draw, F__law_draw, O__law_draw, B__law_draw⟩ := ok__law_draw (P := P) (w := w) (base := base) Z
  refine ⟨fd, F, fn_okX F sc__law_fields fun cdv A outer s H Ex hr => ?_, F.bindsN fun _ _ _ _ _ _ us hl => match us, hl with | [_], _ => rfl⟩
  have hu := hr.units
  have tk := takes_of (X := cxOf (CX P w) P w K mg base N__law_fields d__law_fields.qual (defScope s__law_fields) (He.fAd K d__law_fields.at_) cdv A outer s H Ex) rfl rfl rfl rfl
  have hp := passes_of (X := cxOf (CX P w) P w K mg base N__law_fields d__law_fields.qual (defScope s__law_fields) (He.fAd K d__law_fields.at_) cdv A outer s H Ex) rfl
  unfold M__law_fields
  exact pss_consX (ps_parX 1 2 rfl sc__law_fields.nd (px_bin bn_add px_int (px_call O__law_draw (hr.mono (by decide)) (Z.glo 2) F__law_draw.kp B__law_draw .nil (fun _ _ => RepL.nil) tk (px_cons (px_var 0) (px_cons px_int px_nil)))) (px_call O__law_draw (hr.mono (by decide)) (Z.glo 2) F__law_draw.kp B__law_draw .nil (fun _ _ => RepL.nil) tk (px_cons (px_var 0) (px_cons px_int px_nil))) (fun _ h => ps_par rfl sc__law_fields.nd rfl rfl (by decide) rfl rfl h rfl))
    (pss_consX (ps_asgX (px_tup (px_cons (px_call O__law_draw (hr.mono (by decide)) (Z.glo 2) F__law_draw.kp B__law_draw .nil (fun _ _ => RepL.nil) tk (px_cons (px_var 0) (px_cons (px_var 1) px_nil))) (px_cons (px_call O__law_draw (hr.mono (by decide)) (Z.glo 2) F__law_draw.kp B__law_draw .nil (fun _ _ => RepL.nil) tk (px_cons (px_var 0) (px_cons (px_bin bn_add (px_var 2) px_int) px_nil))) px_nil))) (pg_tup rfl (pgs_cons (pg_name (i := 3) sc__law_fields.nd rfl (by first | exact Or.inl rfl | exact Or.inr rfl)) (pgs_cons (pg_name (i := 4) sc__law_fields.nd rfl (by first | exact Or.inl rfl | exact Or.inr rfl)) pgs_nil))) (tr_tup 2 (trs_cons (tr_name 3) (trs_cons (tr_name 4) trs_nil))))
    (pss_consX (ps_ownX 5 (pf_lst px_nil) sc__law_fields.nd)
    (pss_consX (ps_forX hp rfl (pi_range1X (Z.free 8) (px_cons (px_var 2) px_nil)) (pg_name (i := 6) sc__law_fields.nd rfl (by first | exact Or.inl rfl | exact Or.inr rfl)) (tr_name 6)
    (pss_oneX (ps_exprX (px_methO 5 PySem.F.slot_list_append PySem.F.type_list_append me_append (px_cons (px_calT cl_tuple (Z.free 7) (px_cons (px_new (by exact pf_lc (own := [("spot", 7)]) rfl sc__law_fields.nd (pi_range1X (Z.free 8) (px_cons (px_var 1) px_nil)) (blkOk_by (own := [("spot", 7)]) (N := N__law_fields) (sc := defScope s__law_fields) (by decide +kernel)) (fun s_ H_ C_ cl_ fp_ => pg_name (i := 7) sc__law_fields.nd rfl (by first | exact Or.inl rfl | exact Or.inr rfl)) (tr_name 7) (fun s_ H_ C_ cl_ fp_ => pts_nilX) (fun s_ H_ C_ cl_ fp_ => px_if (PW.pt (pw_andX (pt_cm cm_ge (px_var 6) (px_var 4)) (pw_and1X (pt_cm cm_ge (px_var 7) (px_var 3))))) px_str px_str))) px_nil)) px_nil)))))
    (pss_oneX (ps_retX (px_calT cl_tuple (Z.free 7) (px_cons (px_var 5) px_nil)))))))
theorem ok__law_values {P : Program} {w : World} {K : PySem.W.Frag} {mg : Str → Option Value} {base : Heap} (Z : Fs K mg) :
    ∃ fd, FunD K d__law_values.name d__law_values.qual d__law_values.params d__law_values.body d__law_values.scope (d__law_values.dvs K) (d__law_values.kws K) (He.fAd K d__law_values.at_) fd ∧ FnOk P w K mg base (CX P w) 6 (He.fAd K d__law_values.at_) fd P__law_values (spM K (TT K) 1 f__law_values) ∧ Binds K fd P__law_values [] := by
  obtain ⟨fd, F⟩ := Z.says.def_ 10 (d := d__law_values) rfl
  obtain ⟨fd__law_template, F__law_template, O__law_template, B__law_template⟩ := ok__law_template (P := P) (w := w) (base := base) Z
  obtain ⟨fd__law_draw, F__law_draw, O__law_draw, B__law_draw⟩ := ok__law_draw (P := P) (w := w) (base := base) Z
  obtain ⟨fd__law_fields, F__law_fields, O__law_fields, B__law_fields⟩ := ok__law_fields (P := P) (w := w) (base := base) Z
  obtain ⟨fd__law_names, F__law_names, O__law_names, B__law_names⟩ := ok__law_names (P := P) (w := w) (base := base) Z
  obtain ⟨fd__law_size, F__law_size, O__law_size, B__law_size⟩ := ok__law_size (P := P) (w := w) (base := base) Z
  obtain ⟨fd__law_one, F__law_one, O__law_one, B__law_one⟩ := ok__law_one (P := P) (w := w) (base := base) Z
  obtain ⟨fd__law_fixed, F__law_fixed, O__law_fixed, B__law_fixed⟩ := ok__law_fixed (P := P) (w := w) (base := base) Z
  refine ⟨fd, F, fn_okX F sc__law_values fun cdv A outer s H Ex hr => ?_, F.bindsN fun _ _ _ _ _ _ us hl => match us, hl with | [_], _ => rfl⟩
  have hu := hr.units
  have tk := takes_of (X := cxOf (CX P w) P w K mg base N__law_values d__law_values.qual (defScope s__law_values) (He.fAd K d__law_values.at_) cdv A outer s H Ex) rfl rfl rfl rfl
  have hp := passes_of (X := cxOf (CX P w) P w K mg base N__law_values d__law_values.qual (defScope s__law_values) (He.fAd K d__law_values.at_) cdv A outer s H Ex) rfl
  unfold M__law_values
  exact pss_consX (ps_setX 1 (px_new (pf_lst (px_cons px_str (px_cons px_str (px_cons px_str (px_cons px_str (px_cons px_str (px_cons px_str (px_cons px_str px_nil))))))))) sc__law_values.nd)
    (pss_consX (ps_ownX 2 (pf_lst (px_cons (px_call O__law_template (hr.mono (by decide)) (Z.glo 14) F__law_template.kp B__law_template .nil (fun _ _ => RepL.nil) tk (px_cons (px_var 0) (px_cons (px_cmp (cm_eq hu) (px_call O__law_draw (hr.mono (by decide)) (Z.glo 2) F__law_draw.kp B__law_draw .nil (fun _ _ => RepL.nil) tk (px_cons (px_var 0) (px_cons px_int px_nil))) px_int) px_nil))) (px_cons (px_call O__law_template (hr.mono (by decide)) (Z.glo 14) F__law_template.kp B__law_template .nil (fun _ _ => RepL.nil) tk (px_cons (px_var 0) (px_cons (px_cmp (cm_eq hu) (px_call O__law_draw (hr.mono (by decide)) (Z.glo 2) F__law_draw.kp B__law_draw .nil (fun _ _ => RepL.nil) tk (px_cons (px_var 0) (px_cons px_int px_nil))) px_int) px_nil))) px_nil))) sc__law_values.nd)
    (pss_consX (ps_exprX (px_methO 2 PySem.F.slot_list_append PySem.F.type_list_append me_append (px_cons (px_call O__law_fields (hr.mono (by decide)) (Z.glo 15) F__law_fields.kp B__law_fields .nil (fun _ _ => RepL.nil) tk (px_cons (px_var 0) px_nil)) px_nil)))
    (pss_consX (ps_ifX (pt_cm (cm_eq hu) (px_call O__law_draw (hr.mono (by decide)) (Z.glo 2) F__law_draw.kp B__law_draw .nil (fun _ _ => RepL.nil) tk (px_cons (px_var 0) (px_cons px_int px_nil))) px_int)
    (pss_oneX (ps_subO 2 (px_tup (px_cons px_str (px_cons (px_calT cl_tuple (Z.free 7) (px_cons (px_new (by exact pf_lc (own := [("turn", 3)]) rfl sc__law_values.nd (pi_range1X (Z.free 8) (px_cons (px_call O__law_draw (hr.mono (by decide)) (Z.glo 2) F__law_draw.kp B__law_draw .nil (fun _ _ => RepL.nil) tk (px_cons (px_var 0) (px_cons px_int px_nil))) px_nil)) (blkOk_by (own := [("turn", 3)]) (N := N__law_values) (sc := defScope s__law_values) (by decide +kernel)) (fun s_ H_ C_ cl_ fp_ => pg_name (i := 3) sc__law_values.nd rfl (by first | exact Or.inl rfl | exact Or.inr rfl)) (tr_name 3) (fun s_ H_ C_ cl_ fp_ => pts_nilX) (fun s_ H_ C_ cl_ fp_ => px_call O__law_names (hr.mono (by decide)) (Z.glo 9) F__law_names.kp B__law_names .nil (fun _ _ => RepL.nil) takes_blk (px_cons (px_var 0) px_nil)))) px_nil)) px_nil))) (px_call O__law_draw (hr.mono (by decide)) (Z.glo 2) F__law_draw.kp B__law_draw .nil (fun _ _ => RepL.nil) tk (px_cons (px_var 0) (px_cons px_int px_nil)))))
    (pss_nilX))
    (pss_consX (ps_forX hp rfl (pi_range1X (Z.free 8) (px_cons px_int px_nil)) (pg_name (i := 3) sc__law_values.nd rfl (by first | exact Or.inl rfl | exact Or.inr rfl)) (tr_name 3)
    (pss_oneX (ps_exprX (px_methO 2 PySem.F.slot_list_append PySem.F.type_list_append me_append (px_cons (px_calT cl_tuple (Z.free 7) (px_cons (px_new (by exact pf_lc (own := [("k", 4)]) rfl sc__law_values.nd (pi_range1X (Z.free 8) (px_cons (px_bin bn_add px_int (px_call O__law_draw (hr.mono (by decide)) (Z.glo 2) F__law_draw.kp B__law_draw .nil (fun _ _ => RepL.nil) tk (px_cons (px_var 0) (px_cons px_int px_nil)))) px_nil)) (blkOk_by (own := [("k", 4)]) (N := N__law_values) (sc := defScope s__law_values) (by decide +kernel)) (fun s_ H_ C_ cl_ fp_ => pg_name (i := 4) sc__law_values.nd rfl (by first | exact Or.inl rfl | exact Or.inr rfl)) (tr_name 4) (fun s_ H_ C_ cl_ fp_ => pts_nilX) (fun s_ H_ C_ cl_ fp_ => px_call O__law_size (hr.mono (by decide)) (Z.glo 11) F__law_size.kp B__law_size .nil (fun _ _ => RepL.nil) takes_blk (px_cons (px_var 0) px_nil)))) px_nil)) px_nil)))))
    (pss_consX (ps_ownX 2 (pf_cat (px_var 2) (px_new (pf_lst (px_cons (px_call O__law_one (hr.mono (by decide)) (Z.glo 5) F__law_one.kp B__law_one .nil (fun _ _ => RepL.nil) tk (px_cons (px_var 0) (px_cons (px_new (pf_lst (px_cons px_str (px_cons px_str px_nil)))) px_nil))) (px_cons (px_cmp (cm_eq hu) (px_call O__law_draw (hr.mono (by decide)) (Z.glo 2) F__law_draw.kp B__law_draw .nil (fun _ _ => RepL.nil) tk (px_cons (px_var 0) (px_cons px_int px_nil))) px_int) (px_cons (px_call O__law_fixed (hr.mono (by decide)) (Z.glo 4) F__law_fixed.kp B__law_fixed .nil (fun _ _ => RepL.nil) tk (px_cons (px_var 0) px_nil)) (px_cons (px_call O__law_fixed (hr.mono (by decide)) (Z.glo 4) F__law_fixed.kp B__law_fixed .nil (fun _ _ => RepL.nil) tk (px_cons (px_var 0) px_nil)) px_nil))))))) sc__law_values.nd)
    (pss_consX (ps_ownX 2 (pf_cat (px_var 2) (px_new (pf_lst (px_cons (px_call O__law_one (hr.mono (by decide)) (Z.glo 5) F__law_one.kp B__law_one .nil (fun _ _ => RepL.nil) tk (px_cons (px_var 0) (px_cons (px_var 1) px_nil))) (px_cons (px_call O__law_one (hr.mono (by decide)) (Z.glo 5) F__law_one.kp B__law_one .nil (fun _ _ => RepL.nil) tk (px_cons (px_var 0) (px_cons (px_var 1) px_nil))) px_nil))))) sc__law_values.nd)
    (pss_oneX (ps_retX (px_new (pf_cat (px_var 2) (px_new (pf_lst (px_cons (px_call O__law_one (hr.mono (by decide)) (Z.glo 5) F__law_one.kp B__law_one .nil (fun _ _ => RepL.nil) tk (px_cons (px_var 0) (px_cons (px_new (pf_lst (px_cons px_str (px_cons px_str (px_cons px_str (px_cons px_str px_nil)))))) px_nil))) (px_cons (px_call O__law_one (hr.mono (by decide)) (Z.glo 5) F__law_one.kp B__law_one .nil (fun _ _ => RepL.nil) tk (px_cons (px_var 0) (px_cons (px_new (pf_cat (px_new (pf_slice (px_var 1) po_noneX (po_someX px_int))) (px_new (pf_lst (px_cons px_str px_nil))))) px_nil))) px_nil))))))))))))))
theorem ok_is_name {P : Program} {w : World} {K : PySem.W.Frag} {mg : Str → Option Value} {base : Heap} (Z : Fs K mg) :
    ∃ fd, FunD K d_is_name.name d_is_name.qual d_is_name.params d_is_name.body d_is_name.scope (d_is_name.dvs K) (d_is_name.kws K) (He.fAd K d_is_name.at_) fd ∧ FnOk P w K mg base (CX P w) 1 (He.fAd K d_is_name.at_) fd P_is_name (spM K (TT K) 1 f_is_name) ∧ Binds K fd P_is_name [] := by
  obtain ⟨fd, F⟩ := Z.says.def_ 11 (d := d_is_name) rfl
  refine ⟨fd, F, fn_okX F sc_is_name fun cdv A outer s H Ex hr => ?_, F.bindsN fun _ _ _ _ _ _ us hl => match us, hl with | [_], _ => rfl⟩
  have hu := hr.units
  have tk := takes_of (X := cxOf (CX P w) P w K mg base N_is_name d_is_name.qual (defScope s_is_name) (He.fAd K d_is_name.at_) cdv A outer s H Ex) rfl rfl rfl rfl
  have hp := passes_of (X := cxOf (CX P w) P w K mg base N_is_name d_is_name.qual (defScope s_is_name) (He.fAd K d_is_name.at_) cdv A outer s H Ex) rfl
  unfold M_is_name
  exact pss_consX (ps_ifX (PW.pt (pw_orX (pt_notX (px_tst (px_calB (cl_isi Z.fx rfl) (Z.free 16) (px_cons (px_var 0) (px_cons (px_ty "str" (Z.free 17) rfl) px_nil))))) (pw_orX (pt_notX (pt_ch cm_le cm_le px_int (px_calB cl_len (Z.free 3) (px_cons (px_var 0) px_nil)) (px_gInt 16 (Z.int 18)))) (pw_or1X (pt_cm (cm_eq hu) (px_var 0) px_str)))))
    (pss_oneX (ps_retX px_bl))
    (pss_nilX))
    (pss_oneX (ps_retX (px_andX (px_cmp (cm_in hu) (px_ix (px_var 0) px_int) (px_gStr "abcdefghijklmnopqrstuvwxyz" (Z.str 19)) (by with_unfolding_all rfl)) (px_oneX (px_calB (cl_all rfl) (Z.free 20) (px_cons (px_new (by exact pf_lc (own := [("sign", 1)]) rfl sc_is_name.nd (pi_seqX (px_var 0)) (blkOk_by (own := [("sign", 1)]) (N := N_is_name) (sc := defScope s_is_name) (by decide +kernel)) (fun s_ H_ C_ cl_ fp_ => pg_name (i := 1) sc_is_name.nd rfl (by first | exact Or.inl rfl | exact Or.inr rfl)) (tr_name 1) (fun s_ H_ C_ cl_ fp_ => pts_nilX) (fun s_ H_ C_ cl_ fp_ => px_cmp (cm_in hu) (px_var 1) (px_gStr "abcdefghijklmnopqrstuvwxyz0123456789-" (Z.str 21)) (by with_unfolding_all rfl)))) px_nil))))))
theorem ok_are_names {P : Program} {w : World} {K : PySem.W.Frag} {mg : Str → Option Value} {base : Heap} (Z : Fs K mg) :
    ∃ fd, FunD K d_are_names.name d_are_names.qual d_are_names.params d_are_names.body d_are_names.scope (d_are_names.dvs K) (d_are_names.kws K) (He.fAd K d_are_names.at_) fd ∧ FnOk P w K mg base (CX P w) 2 (He.fAd K d_are_names.at_) fd P_are_names (spM K (TT K) 1 f_are_names) ∧ Binds K fd P_are_names [] := by
  obtain ⟨fd, F⟩ := Z.says.def_ 12 (d := d_are_names) rfl
  obtain ⟨fd_is_name, F_is_name, O_is_name, B_is_name⟩ := ok_is_name (P := P) (w := w) (base := base) Z
  refine ⟨fd, F, fn_okX F sc_are_names fun cdv A outer s H Ex hr => ?_, F.bindsN fun _ _ _ _ _ _ us hl => match us, hl with | [_], _ => rfl⟩
  have hu := hr.units
  have tk := takes_of (X := cxOf (CX P w) P w K mg base N_are_names d_are_names.qual (defScope s_are_names) (He.fAd K d_are_names.at_) cdv A outer s H Ex) rfl rfl rfl rfl
  have hp := passes_of (X := cxOf (CX P w) P w K mg base N_are_names d_are_names.qual (defScope s_are_names) (He.fAd K d_are_names.at_) cdv A outer s H Ex) rfl
  unfold M_are_names
  exact pss_oneX (ps_retX (px_andX (px_calB (cl_isi Z.fx rfl) (Z.free 16) (px_cons (px_var 0) (px_cons (px_ty "tuple" (Z.free 7) rfl) px_nil))) (px_oneX (px_calB (cl_all rfl) (Z.free 20) (px_cons (px_new (by exact pf_lc (own := [("one", 1)]) rfl sc_are_names.nd (pi_seqX (px_var 0)) (blkOk_by (own := [("one", 1)]) (N := N_are_names) (sc := defScope s_are_names) (by decide +kernel)) (fun s_ H_ C_ cl_ fp_ => pg_name (i := 1) sc_are_names.nd rfl (by first | exact Or.inl rfl | exact Or.inr rfl)) (tr_name 1) (fun s_ H_ C_ cl_ fp_ => pts_nilX) (fun s_ H_ C_ cl_ fp_ => px_call O_is_name (hr.mono (by decide)) (Z.glo 22) F_is_name.kp B_is_name .nil (fun _ _ => RepL.nil) takes_blk (px_cons (px_var 1) px_nil)))) px_nil)))))
theorem ok_is_inherited {P : Program} {w : World} {K : PySem.W.Frag} {mg : Str → Option Value} {base : Heap} (Z : Fs K mg) :
    ∃ fd, FunD K d_is_inherited.name d_is_inherited.qual d_is_inherited.params d_is_inherited.body d_is_inherited.scope (d_is_inherited.dvs K) (d_is_inherited.kws K) (He.fAd K d_is_inherited.at_) fd ∧ FnOk P w K mg base (CX P w) 3 (He.fAd K d_is_inherited.at_) fd P_is_inherited (spM K (TT K) 1 f_is_inherited) ∧ Binds K fd P_is_inherited [] := by
  obtain ⟨fd, F⟩ := Z.says.def_ 13 (d := d_is_inherited) rfl
  obtain ⟨fd_are_names, F_are_names, O_are_names, B_are_names⟩ := ok_are_names (P := P) (w := w) (base := base) Z
  refine ⟨fd, F, fn_okX F sc_is_inherited fun cdv A outer s H Ex hr => ?_, F.bindsN fun _ _ _ _ _ _ us hl => match us, hl with | [_], _ => rfl⟩
  have hu := hr.units
  have tk := takes_of (X := cxOf (CX P w) P w K mg base N_is_inherited d_is_inherited.qual (defScope s_is_inherited) (He.fAd K d_is_inherited.at_) cdv A outer s H Ex) rfl rfl rfl rfl
  have hp := passes_of (X := cxOf (CX P w) P w K mg base N_is_inherited d_is_inherited.qual (defScope s_is_inherited) (He.fAd K d_is_inherited.at_) cdv A outer s H Ex) rfl
  unfold M_is_inherited
  exact pss_consX (ps_ifX (PW.pt (pw_orX (pt_notX (px_tst (px_calB (cl_isi Z.fx rfl) (Z.free 16) (px_cons (px_var 0) (px_cons (px_ty "tuple" (Z.free 7) rfl) px_nil))))) (pw_orX (pt_cm (cm_ne hu) (px_calB cl_len (Z.free 3) (px_cons (px_var 0) px_nil)) px_int) (pw_or1X (pt_cm (cm_ne hu) (px_ix (px_var 0) px_int) px_str)))))
    (pss_oneX (ps_retX px_bl))
    (pss_nilX))
    (pss_oneX (ps_retX (px_andX (px_calB (cl_isi Z.fx rfl) (Z.free 16) (px_cons (px_ix (px_var 0) px_int) (px_cons (px_ty "tuple" (Z.free 7) rfl) px_nil))) (px_andX (px_cmp cm_le (px_calB cl_len (Z.free 3) (px_cons (px_ix (px_var 0) px_int) px_nil)) (px_gInt 40 (Z.int 23))) (px_oneX (px_calB (cl_all rfl) (Z.free 20) (px_cons (px_new (by exact pf_lc (own := [("one", 1)]) rfl sc_is_inherited.nd (pi_seqX (px_ix (px_var 0) px_int)) (blkOk_by (own := [("one", 1)]) (N := N_is_inherited) (sc := defScope s_is_inherited) (by decide +kernel)) (fun s_ H_ C_ cl_ fp_ => pg_name (i := 1) sc_is_inherited.nd rfl (by first | exact Or.inl rfl | exact Or.inr rfl)) (tr_name 1) (fun s_ H_ C_ cl_ fp_ => pts_nilX) (fun s_ H_ C_ cl_ fp_ => px_call O_are_names (hr.mono (by decide)) (Z.glo 24) F_are_names.kp B_are_names .nil (fun _ _ => RepL.nil) takes_blk (px_cons (px_var 1) px_nil)))) px_nil)))))))
theorem ok_is_int {P : Program} {w : World} {K : PySem.W.Frag} {mg : Str → Option Value} {base : Heap} (Z : Fs K mg) :
    ∃ fd, FunD K d_is_int.name d_is_int.qual d_is_int.params d_is_int.body d_is_int.scope (d_is_int.dvs K) (d_is_int.kws K) (He.fAd K d_is_int.at_) fd ∧ FnOk P w K mg base (CX P w) 1 (He.fAd K d_is_int.at_) fd P_is_int (spM K (TT K) 1 f_is_int) ∧ Binds K fd P_is_int [] := by
  obtain ⟨fd, F⟩ := Z.says.def_ 14 (d := d_is_int) rfl
  refine ⟨fd, F, fn_okX F sc_is_int fun cdv A outer s H Ex hr => ?_, F.bindsN fun _ _ _ _ _ _ us hl => match us, hl with | [_], _ => rfl⟩
  have hu := hr.units
  have tk := takes_of (X := cxOf (CX P w) P w K mg base N_is_int d_is_int.qual (defScope s_is_int) (He.fAd K d_is_int.at_) cdv A outer s H Ex) rfl rfl rfl rfl
  have hp := passes_of (X := cxOf (CX P w) P w K mg base N_is_int d_is_int.qual (defScope s_is_int) (He.fAd K d_is_int.at_) cdv A outer s H Ex) rfl
  unfold M_is_int
  exact pss_oneX (ps_retX (px_andX (px_calB (cl_isi Z.fx rfl) (Z.free 16) (px_cons (px_var 0) (px_cons (px_ty "int" (Z.free 1) rfl) px_nil))) (px_oneX (px_notX (px_calB (cl_isi Z.fx rfl) (Z.free 16) (px_cons (px_var 0) (px_cons (px_ty "bool" (Z.free 25) rfl) px_nil)))))))
theorem ok_divisor_of {P : Program} {w : World} {K : PySem.W.Frag} {mg : Str → Option Value} {base : Heap} (Z : Fs K mg) :
    ∃ fd, FunD K d_divisor_of.name d_divisor_of.qual d_divisor_of.params d_divisor_of.body d_divisor_of.scope (d_divisor_of.dvs K) (d_divisor_of.kws K) (He.fAd K d_divisor_of.at_) fd ∧ FnOk P w K mg base (CX P w) 1 (He.fAd K d_divisor_of.at_) fd P_divisor_of (spM K (TT K) 2 f_divisor_of) ∧ Binds K fd P_divisor_of [] := by
  obtain ⟨fd, F⟩ := Z.says.def_ 15 (d := d_divisor_of) rfl
  refine ⟨fd, F, fn_okX F sc_divisor_of fun cdv A outer s H Ex hr => ?_, F.bindsN fun _ _ _ _ _ _ us hl => match us, hl with | [_, _], _ => rfl⟩
  have hu := hr.units
  have tk := takes_of (X := cxOf (CX P w) P w K mg base N_divisor_of d_divisor_of.qual (defScope s_divisor_of) (He.fAd K d_divisor_of.at_) cdv A outer s H Ex) rfl rfl rfl rfl
  have hp := passes_of (X := cxOf (CX P w) P w K mg base N_divisor_of d_divisor_of.qual (defScope s_divisor_of) (He.fAd K d_divisor_of.at_) cdv A outer s H Ex) rfl
  unfold M_divisor_of
  exact pss_consX (ps_parX 0 1 rfl sc_divisor_of.nd (px_calB cl_abs (Z.free 26) (px_cons (px_var 0) px_nil)) (px_calB cl_abs (Z.free 26) (px_cons (px_var 1) px_nil)) (fun _ h => ps_par rfl sc_divisor_of.nd rfl rfl (by decide) rfl rfl h rfl))
    (pss_consX (ps_whileX (fun a => match a.sl.getD 1 .emp with | .val (.int k) => k.natAbs + 1 | _ => 0) hp (pt_cm (cm_ne hu) (px_var 1) px_int)
    (pss_oneX (ps_parX 0 1 rfl sc_divisor_of.nd (px_var 1) (px_bin bn_mod (px_var 0) (px_var 1)) (fun _ h => ps_par rfl sc_divisor_of.nd rfl rfl (by decide) rfl rfl h rfl))))
    (pss_oneX (ps_retX (px_var 0))))
theorem ok_is_number {P : Program} {w : World} {K : PySem.W.Frag} {mg : Str → Option Value} {base : Heap} (Z : Fs K mg) :
    ∃ fd, FunD K d_is_number.name d_is_number.qual d_is_number.params d_is_number.body d_is_number.scope (d_is_number.dvs K) (d_is_number.kws K) (He.fAd K d_is_number.at_) fd ∧ FnOk P w K mg base (CX P w) 2 (He.fAd K d_is_number.at_) fd P_is_number (spM K (TT K) 1 f_is_number) ∧ Binds K fd P_is_number [] := by
  obtain ⟨fd, F⟩ := Z.says.def_ 16 (d := d_is_number) rfl
  obtain ⟨fd_is_int, F_is_int, O_is_int, B_is_int⟩ := ok_is_int (P := P) (w := w) (base := base) Z
  obtain ⟨fd_divisor_of, F_divisor_of, O_divisor_of, B_divisor_of⟩ := ok_divisor_of (P := P) (w := w) (base := base) Z
  refine ⟨fd, F, fn_okX F sc_is_number fun cdv A outer s H Ex hr => ?_, F.bindsN fun _ _ _ _ _ _ us hl => match us, hl with | [_], _ => rfl⟩
  have hu := hr.units
  have tk := takes_of (X := cxOf (CX P w) P w K mg base N_is_number d_is_number.qual (defScope s_is_number) (He.fAd K d_is_number.at_) cdv A outer s H Ex) rfl rfl rfl rfl
  have hp := passes_of (X := cxOf (CX P w) P w K mg base N_is_number d_is_number.qual (defScope s_is_number) (He.fAd K d_is_number.at_) cdv A outer s H Ex) rfl
  unfold M_is_number
  exact pss_consX (ps_ifX (PW.pt (pw_orX (px_tst (px_call O_is_int (hr.mono (by decide)) (Z.glo 27) F_is_int.kp B_is_int .nil (fun _ _ => RepL.nil) tk (px_cons (px_var 0) px_nil))) (pw_or1X (px_tst (px_calB (cl_isi Z.fx rfl) (Z.free 16) (px_cons (px_var 0) (px_cons (px_cls 0 (Z.glo 28)) px_nil)))))))
    (pss_oneX (ps_retX px_bl))
    (pss_nilX))
    (pss_consX (ps_ifX (PW.pt (pw_orX (pt_notX (px_tst (px_calB (cl_isi Z.fx rfl) (Z.free 16) (px_cons (px_var 0) (px_cons (px_ty "tuple" (Z.free 7) rfl) px_nil))))) (pw_orX (pt_cm (cm_ne hu) (px_calB cl_len (Z.free 3) (px_cons (px_var 0) px_nil)) px_int) (pw_orX (pt_notX (px_tst (px_call O_is_int (hr.mono (by decide)) (Z.glo 27) F_is_int.kp B_is_int .nil (fun _ _ => RepL.nil) tk (px_cons (px_ix (px_var 0) px_int) px_nil)))) (pw_or1X (pt_notX (px_tst (px_call O_is_int (hr.mono (by decide)) (Z.glo 27) F_is_int.kp B_is_int .nil (fun _ _ => RepL.nil) tk (px_cons (px_ix (px_var 0) px_int) px_nil)))))))))
    (pss_oneX (ps_retX px_bl))
    (pss_nilX))
    (pss_oneX (ps_retX (px_andX (px_cmp cm_gt (px_ix (px_var 0) px_int) px_int) (px_oneX (px_cmp (cm_eq hu) (px_call O_divisor_of (hr.mono (by decide)) (Z.glo 29) F_divisor_of.kp B_divisor_of .nil (fun _ _ => RepL.nil) tk (px_cons (px_ix (px_var 0) px_int) (px_cons (px_ix (px_var 0) px_int) px_nil))) px_int))))))
theorem ok_halves_of {P : Program} {w : World} {K : PySem.W.Frag} {mg : Str → Option Value} {base : Heap} (Z : Fs K mg) :
    ∃ fd, FunD K d_halves_of.name d_halves_of.qual d_halves_of.params d_halves_of.body d_halves_of.scope (d_halves_of.dvs K) (d_halves_of.kws K) (He.fAd K d_halves_of.at_) fd ∧ FnOk P w K mg base (CX P w) 2 (He.fAd K d_halves_of.at_) fd P_halves_of (spM K (TT K) 1 f_halves_of) ∧ Binds K fd P_halves_of [] := by
  obtain ⟨fd, F⟩ := Z.says.def_ 17 (d := d_halves_of) rfl
  obtain ⟨fd_is_int, F_is_int, O_is_int, B_is_int⟩ := ok_is_int (P := P) (w := w) (base := base) Z
  refine ⟨fd, F, fn_okX F sc_halves_of fun cdv A outer s H Ex hr => ?_, F.bindsN fun _ _ _ _ _ _ us hl => match us, hl with | [_], _ => rfl⟩
  have hu := hr.units
  have tk := takes_of (X := cxOf (CX P w) P w K mg base N_halves_of d_halves_of.qual (defScope s_halves_of) (He.fAd K d_halves_of.at_) cdv A outer s H Ex) rfl rfl rfl rfl
  have hp := passes_of (X := cxOf (CX P w) P w K mg base N_halves_of d_halves_of.qual (defScope s_halves_of) (He.fAd K d_halves_of.at_) cdv A outer s H Ex) rfl
  unfold M_halves_of
  exact pss_oneX (ps_retX (px_if (px_tst (px_call O_is_int (hr.mono (by decide)) (Z.glo 27) F_is_int.kp B_is_int .nil (fun _ _ => RepL.nil) tk (px_cons (px_var 0) px_nil))) (px_tup (px_cons (px_var 0) (px_cons px_int px_nil))) (px_var 0)))
theorem ok_is_length {P : Program} {w : World} {K : PySem.W.Frag} {mg : Str → Option Value} {base : Heap} (Z : Fs K mg) :
    ∃ fd, FunD K d_is_length.name d_is_length.qual d_is_length.params d_is_length.body d_is_length.scope (d_is_length.dvs K) (d_is_length.kws K) (He.fAd K d_is_length.at_) fd ∧ FnOk P w K mg base (CX P w) 3 (He.fAd K d_is_length.at_) fd P_is_length (spM K (TT K) 1 f_is_length) ∧ Binds K fd P_is_length [] := by
  obtain ⟨fd, F⟩ := Z.says.def_ 18 (d := d_is_length) rfl
  obtain ⟨fd_is_number, F_is_number, O_is_number, B_is_number⟩ := ok_is_number (P := P) (w := w) (base := base) Z
  obtain ⟨fd_halves_of, F_halves_of, O_halves_of, B_halves_of⟩ := ok_halves_of (P := P) (w := w) (base := base) Z
  refine ⟨fd, F, fn_okX F sc_is_length fun cdv A outer s H Ex hr => ?_, F.bindsN fun _ _ _ _ _ _ us hl => match us, hl with | [_], _ => rfl⟩
  have hu := hr.units
  have tk := takes_of (X := cxOf (CX P w) P w K mg base N_is_length d_is_length.qual (defScope s_is_length) (He.fAd K d_is_length.at_) cdv A outer s H Ex) rfl rfl rfl rfl
  have hp := passes_of (X := cxOf (CX P w) P w K mg base N_is_length d_is_length.qual (defScope s_is_length) (He.fAd K d_is_length.at_) cdv A outer s H Ex) rfl
  unfold M_is_length
  exact pss_consX (ps_ifX (px_tst (px_calB (cl_isi Z.fx rfl) (Z.free 16) (px_cons (px_var 0) (px_cons (px_cls 0 (Z.glo 28)) px_nil))))
    (pss_oneX (ps_retX px_bl))
    (pss_nilX))
    (pss_oneX (ps_retX (px_andX (px_call O_is_number (hr.mono (by decide)) (Z.glo 30) F_is_number.kp B_is_number .nil (fun _ _ => RepL.nil) tk (px_cons (px_var 0) px_nil)) (px_oneX (px_cmp cm_ge (px_ix (px_call O_halves_of (hr.mono (by decide)) (Z.glo 31) F_halves_of.kp B_halves_of .nil (fun _ _ => RepL.nil) tk (px_cons (px_var 0) px_nil)) px_int) px_int)))))
theorem ok_is_part {P : Program} {w : World} {K : PySem.W.Frag} {mg : Str → Option Value} {base : Heap} (Z : Fs K mg) :
    ∃ fd, FunD K d_is_part.name d_is_part.qual d_is_part.params d_is_part.body d_is_part.scope (d_is_part.dvs K) (d_is_part.kws K) (He.fAd K d_is_part.at_) fd ∧ FnOk P w K mg base (CX P w) 4 (He.fAd K d_is_part.at_) fd P_is_part (spM K (TT K) 1 f_is_part) ∧ Binds K fd P_is_part [] := by
  obtain ⟨fd, F⟩ := Z.says.def_ 19 (d := d_is_part) rfl
  obtain ⟨fd_is_length, F_is_length, O_is_length, B_is_length⟩ := ok_is_length (P := P) (w := w) (base := base) Z
  refine ⟨fd, F, fn_okX F sc_is_part fun cdv A outer s H Ex hr => ?_, F.bindsN fun _ _ _ _ _ _ us hl => match us, hl with | [_], _ => rfl⟩
  have hu := hr.units
  have tk := takes_of (X := cxOf (CX P w) P w K mg base N_is_part d_is_part.qual (defScope s_is_part) (He.fAd K d_is_part.at_) cdv A outer s H Ex) rfl rfl rfl rfl
  have hp := passes_of (X := cxOf (CX P w) P w K mg base N_is_part d_is_part.qual (defScope s_is_part) (He.fAd K d_is_part.at_) cdv A outer s H Ex) rfl
  unfold M_is_part
  exact pss_consX (ps_ifX (PW.pt (pw_orX (pt_notX (px_tst (px_calB (cl_isi Z.fx rfl) (Z.free 16) (px_cons (px_var 0) (px_cons (px_ty "tuple" (Z.free 7) rfl) px_nil))))) (pw_orX (pt_cm (cm_ne hu) (px_calB cl_len (Z.free 3) (px_cons (px_var 0) px_nil)) px_int) (pw_or1X (pt_cm (cm_ne hu) (px_ix (px_var 0) px_int) px_str)))))
    (pss_oneX (ps_retX px_bl))
    (pss_nilX))
    (pss_oneX (ps_retX (px_call O_is_length (hr.mono (by decide)) (Z.glo 32) F_is_length.kp B_is_length .nil (fun _ _ => RepL.nil) tk (px_cons (px_ix (px_var 0) px_int) px_nil))))
theorem ok_is_fixed {P : Program} {w : World} {K : PySem.W.Frag} {mg : Str → Option Value} {base : Heap} (Z : Fs K mg) :
    ∃ fd, FunD K d_is_fixed.name d_is_fixed.qual d_is_fixed.params d_is_fixed.body d_is_fixed.scope (d_is_fixed.dvs K) (d_is_fixed.kws K) (He.fAd K d_is_fixed.at_) fd ∧ FnOk P w K mg base (CX P w) 5 (He.fAd K d_is_fixed.at_) fd P_is_fixed (spM K (TT K) 1 f_is_fixed) ∧ Binds K fd P_is_fixed [] := by
  obtain ⟨fd, F⟩ := Z.says.def_ 20 (d := d_is_fixed) rfl
  obtain ⟨fd_is_length, F_is_length, O_is_length, B_is_length⟩ := ok_is_length (P := P) (w := w) (base := base) Z
  obtain ⟨fd_is_part, F_is_part, O_is_part, B_is_part⟩ := ok_is_part (P := P) (w := w) (base := base) Z
  refine ⟨fd, F, fn_okX F sc_is_fixed fun cdv A outer s H Ex hr => ?_, F.bindsN fun _ _ _ _ _ _ us hl => match us, hl with | [_], _ => rfl⟩
  have hu := hr.units
  have tk := takes_of (X := cxOf (CX P w) P w K mg base N_is_fixed d_is_fixed.qual (defScope s_is_fixed) (He.fAd K d_is_fixed.at_) cdv A outer s H Ex) rfl rfl rfl rfl
  have hp := passes_of (X := cxOf (CX P w) P w K mg base N_is_fixed d_is_fixed.qual (defScope s_is_fixed) (He.fAd K d_is_fixed.at_) cdv A outer s H Ex) rfl
  unfold M_is_fixed
  exact pss_oneX (ps_retX (px_orX (px_call O_is_length (hr.mono (by decide)) (Z.glo 32) F_is_length.kp B_is_length .nil (fun _ _ => RepL.nil) tk (px_cons (px_var 0) px_nil)) (px_oneX (px_call O_is_part (hr.mono (by decide)) (Z.glo 33) F_is_part.kp B_is_part .nil (fun _ _ => RepL.nil) tk (px_cons (px_var 0) px_nil)))))
theorem ok_is_share {P : Program} {w : World} {K : PySem.W.Frag} {mg : Str → Option Value} {base : Heap} (Z : Fs K mg) :
    ∃ fd, FunD K d_is_share.name d_is_share.qual d_is_share.params d_is_share.body d_is_share.scope (d_is_share.dvs K) (d_is_share.kws K) (He.fAd K d_is_share.at_) fd ∧ FnOk P w K mg base (CX P w) 4 (He.fAd K d_is_share.at_) fd P_is_share (spM K (TT K) 1 f_is_share) ∧ Binds K fd P_is_share [] := by
  obtain ⟨fd, F⟩ := Z.says.def_ 21 (d := d_is_share) rfl
  obtain ⟨fd_is_length, F_is_length, O_is_length, B_is_length⟩ := ok_is_length (P := P) (w := w) (base := base) Z
  refine ⟨fd, F, fn_okX F sc_is_share fun cdv A outer s H Ex hr => ?_, F.bindsN fun _ _ _ _ _ _ us hl => match us, hl with | [_], _ => rfl⟩
  have hu := hr.units
  have tk := takes_of (X := cxOf (CX P w) P w K mg base N_is_share d_is_share.qual (defScope s_is_share) (He.fAd K d_is_share.at_) cdv A outer s H Ex) rfl rfl rfl rfl
  have hp := passes_of (X := cxOf (CX P w) P w K mg base N_is_share d_is_share.qual (defScope s_is_share) (He.fAd K d_is_share.at_) cdv A outer s H Ex) rfl
  unfold M_is_share
  exact pss_consX (ps_ifX (PW.pt (pw_orX (pt_notX (px_tst (px_calB (cl_isi Z.fx rfl) (Z.free 16) (px_cons (px_var 0) (px_cons (px_ty "tuple" (Z.free 7) rfl) px_nil))))) (pw_orX (pt_cm (cm_ne hu) (px_calB cl_len (Z.free 3) (px_cons (px_var 0) px_nil)) px_int) (pw_or1X (pt_cm (cm_ne hu) (px_ix (px_var 0) px_int) px_str)))))
    (pss_oneX (ps_retX px_bl))
    (pss_nilX))
    (pss_oneX (ps_retX (px_call O_is_length (hr.mono (by decide)) (Z.glo 32) F_is_length.kp B_is_length .nil (fun _ _ => RepL.nil) tk (px_cons (px_ix (px_var 0) px_int) px_nil))))
theorem ok_is_word {P : Program} {w : World} {K : PySem.W.Frag} {mg : Str → Option Value} {base : Heap} (Z : Fs K mg) :
    ∃ fd, FunD K d_is_word.name d_is_word.qual d_is_word.params d_is_word.body d_is_word.scope (d_is_word.dvs K) (d_is_word.kws K) (He.fAd K d_is_word.at_) fd ∧ FnOk P w K mg base (CX P w) 1 (He.fAd K d_is_word.at_) fd P_is_word (spM K (TT K) 1 f_is_word) ∧ Binds K fd P_is_word [] := by
  obtain ⟨fd, F⟩ := Z.says.def_ 22 (d := d_is_word) rfl
  refine ⟨fd, F, fn_okX F sc_is_word fun cdv A outer s H Ex hr => ?_, F.bindsN fun _ _ _ _ _ _ us hl => match us, hl with | [_], _ => rfl⟩
  have hu := hr.units
  have tk := takes_of (X := cxOf (CX P w) P w K mg base N_is_word d_is_word.qual (defScope s_is_word) (He.fAd K d_is_word.at_) cdv A outer s H Ex) rfl rfl rfl rfl
  have hp := passes_of (X := cxOf (CX P w) P w K mg base N_is_word d_is_word.qual (defScope s_is_word) (He.fAd K d_is_word.at_) cdv A outer s H Ex) rfl
  unfold M_is_word
  exact pss_oneX (ps_retX (px_andX (px_calB (cl_isi Z.fx rfl) (Z.free 16) (px_cons (px_var 0) (px_cons (px_ty "str" (Z.free 17) rfl) px_nil))) (px_oneX (px_cmp (cm_in hu) (px_var 0) (px_gTup [.str "auto", .str "least", .str "most"] (Z.glo 34) (Z.ex_ 1 rfl) rfl) (by with_unfolding_all rfl)))))
theorem ok_is_upto {P : Program} {w : World} {K : PySem.W.Frag} {mg : Str → Option Value} {base : Heap} (Z : Fs K mg) :
    ∃ fd, FunD K d_is_upto.name d_is_upto.qual d_is_upto.params d_is_upto.body d_is_upto.scope (d_is_upto.dvs K) (d_is_upto.kws K) (He.fAd K d_is_upto.at_) fd ∧ FnOk P w K mg base (CX P w) 6 (He.fAd K d_is_upto.at_) fd P_is_upto (spM K (TT K) 1 f_is_upto) ∧ Binds K fd P_is_upto [] := by
  obtain ⟨fd, F⟩ := Z.says.def_ 23 (d := d_is_upto) rfl
  obtain ⟨fd_is_fixed, F_is_fixed, O_is_fixed, B_is_fixed⟩ := ok_is_fixed (P := P) (w := w) (base := base) Z
  refine ⟨fd, F, fn_okX F sc_is_upto fun cdv A outer s H Ex hr => ?_, F.bindsN fun _ _ _ _ _ _ us hl => match us, hl with | [_], _ => rfl⟩
  have hu := hr.units
  have tk := takes_of (X := cxOf (CX P w) P w K mg base N_is_upto d_is_upto.qual (defScope s_is_upto) (He.fAd K d_is_upto.at_) cdv A outer s H Ex) rfl rfl rfl rfl
  have hp := passes_of (X := cxOf (CX P w) P w K mg base N_is_upto d_is_upto.qual (defScope s_is_upto) (He.fAd K d_is_upto.at_) cdv A outer s H Ex) rfl
  unfold M_is_upto
  exact pss_oneX (ps_retX (px_andX (px_calB (cl_isi Z.fx rfl) (Z.free 16) (px_cons (px_var 0) (px_cons (px_ty "tuple" (Z.free 7) rfl) px_nil))) (px_andX (px_cmp (cm_eq hu) (px_calB cl_len (Z.free 3) (px_cons (px_var 0) px_nil)) px_int) (px_andX (px_cmp (cm_eq hu) (px_ix (px_var 0) px_int) px_str) (px_oneX (px_call O_is_fixed (hr.mono (by decide)) (Z.glo 35) F_is_fixed.kp B_is_fixed .nil (fun _ _ => RepL.nil) tk (px_cons (px_ix (px_var 0) px_int) px_nil)))))))
theorem ok_is_between {P : Program} {w : World} {K : PySem.W.Frag} {mg : Str → Option Value} {base : Heap} (Z : Fs K mg) :
    ∃ fd, FunD K d_is_between.name d_is_between.qual d_is_between.params d_is_between.body d_is_between.scope (d_is_between.dvs K) (d_is_between.kws K) (He.fAd K d_is_between.at_) fd ∧ FnOk P w K mg base (CX P w) 6 (He.fAd K d_is_between.at_) fd P_is_between (spM K (TT K) 1 f_is_between) ∧ Binds K fd P_is_between [] := by
  obtain ⟨fd, F⟩ := Z.says.def_ 24 (d := d_is_between) rfl
  obtain ⟨fd_is_fixed, F_is_fixed, O_is_fixed, B_is_fixed⟩ := ok_is_fixed (P := P) (w := w) (base := base) Z
  obtain ⟨fd_is_word, F_is_word, O_is_word, B_is_word⟩ := ok_is_word (P := P) (w := w) (base := base) Z
  obtain ⟨fd_is_share, F_is_share, O_is_share, B_is_share⟩ := ok_is_share (P := P) (w := w) (base := base) Z
  refine ⟨fd, F, fn_okX F sc_is_between fun cdv A outer s H Ex hr => ?_, F.bindsN fun _ _ _ _ _ _ us hl => match us, hl with | [_], _ => rfl⟩
  have hu := hr.units
  have tk := takes_of (X := cxOf (CX P w) P w K mg base N_is_between d_is_between.qual (defScope s_is_between) (He.fAd K d_is_between.at_) cdv A outer s H Ex) rfl rfl rfl rfl
  have hp := passes_of (X := cxOf (CX P w) P w K mg base N_is_between d_is_between.qual (defScope s_is_between) (He.fAd K d_is_between.at_) cdv A outer s H Ex) rfl
  unfold M_is_between
  exact pss_consX (ps_ifX (PW.pt (pw_orX (pt_notX (px_tst (px_calB (cl_isi Z.fx rfl) (Z.free 16) (px_cons (px_var 0) (px_cons (px_ty "tuple" (Z.free 7) rfl) px_nil))))) (pw_orX (pt_cm (cm_ne hu) (px_calB cl_len (Z.free 3) (px_cons (px_var 0) px_nil)) px_int) (pw_or1X (pt_cm (cm_ne hu) (px_ix (px_var 0) px_int) px_str)))))
    (pss_oneX (ps_retX px_bl))
    (pss_nilX))
    (pss_consX (ps_parX 1 2 rfl sc_is_between.nd (px_ix (px_var 0) px_int) (px_ix (px_var 0) px_int) (fun _ h => ps_par rfl sc_is_between.nd rfl rfl (by decide) rfl rfl h rfl))
    (pss_oneX (ps_retX (px_andX (px_orX (px_call O_is_fixed (hr.mono (by decide)) (Z.glo 35) F_is_fixed.kp B_is_fixed .nil (fun _ _ => RepL.nil) tk (px_cons (px_var 1) px_nil)) (px_oneX (px_call O_is_word (hr.mono (by decide)) (Z.glo 36) F_is_word.kp B_is_word .nil (fun _ _ => RepL.nil) tk (px_cons (px_var 1) px_nil)))) (px_oneX (px_orX (px_call O_is_fixed (hr.mono (by decide)) (Z.glo 35) F_is_fixed.kp B_is_fixed .nil (fun _ _ => RepL.nil) tk (px_cons (px_var 2) px_nil)) (px_orX (px_call O_is_word (hr.mono (by decide)) (Z.glo 36) F_is_word.kp B_is_word .nil (fun _ _ => RepL.nil) tk (px_cons (px_var 2) px_nil)) (px_oneX (px_call O_is_share (hr.mono (by decide)) (Z.glo 37) F_is_share.kp B_is_share .nil (fun _ _ => RepL.nil) tk (px_cons (px_var 2) px_nil))))))))))
theorem ok_is_size {P : Program} {w : World} {K : PySem.W.Frag} {mg : Str → Option Value} {base : Heap} (Z : Fs K mg) :
    ∃ fd, FunD K d_is_size.name d_is_size.qual d_is_size.params d_is_size.body d_is_size.scope (d_is_size.dvs K) (d_is_size.kws K) (He.fAd K d_is_size.at_) fd ∧ FnOk P w K mg base (CX P w) 7 (He.fAd K d_is_size.at_) fd P_is_size (spM K (TT K) 1 f_is_size) ∧ Binds K fd P_is_size [] := by
  obtain ⟨fd, F⟩ := Z.says.def_ 25 (d := d_is_size) rfl
  obtain ⟨fd_is_fixed, F_is_fixed, O_is_fixed, B_is_fixed⟩ := ok_is_fixed (P := P) (w := w) (base := base) Z
  obtain ⟨fd_is_share, F_is_share, O_is_share, B_is_share⟩ := ok_is_share (P := P) (w := w) (base := base) Z
  obtain ⟨fd_is_word, F_is_word, O_is_word, B_is_word⟩ := ok_is_word (P := P) (w := w) (base := base) Z
  obtain ⟨fd_is_upto, F_is_upto, O_is_upto, B_is_upto⟩ := ok_is_upto (P := P) (w := w) (base := base) Z
  obtain ⟨fd_is_between, F_is_between, O_is_between, B_is_between⟩ := ok_is_between (P := P) (w := w) (base := base) Z
  refine ⟨fd, F, fn_okX F sc_is_size fun cdv A outer s H Ex hr => ?_, F.bindsN fun _ _ _ _ _ _ us hl => match us, hl with | [_], _ => rfl⟩
  have hu := hr.units
  have tk := takes_of (X := cxOf (CX P w) P w K mg base N_is_size d_is_size.qual (defScope s_is_size) (He.fAd K d_is_size.at_) cdv A outer s H Ex) rfl rfl rfl rfl
  have hp := passes_of (X := cxOf (CX P w) P w K mg base N_is_size d_is_size.qual (defScope s_is_size) (He.fAd K d_is_size.at_) cdv A outer s H Ex) rfl
  unfold M_is_size
  exact pss_oneX (ps_retX (px_orX (px_call O_is_fixed (hr.mono (by decide)) (Z.glo 35) F_is_fixed.kp B_is_fixed .nil (fun _ _ => RepL.nil) tk (px_cons (px_var 0) px_nil)) (px_orX (px_call O_is_share (hr.mono (by decide)) (Z.glo 37) F_is_share.kp B_is_share .nil (fun _ _ => RepL.nil) tk (px_cons (px_var 0) px_nil)) (px_orX (px_call O_is_word (hr.mono (by decide)) (Z.glo 36) F_is_word.kp B_is_word .nil (fun _ _ => RepL.nil) tk (px_cons (px_var 0) px_nil)) (px_orX (px_call O_is_upto (hr.mono (by decide)) (Z.glo 38) F_is_upto.kp B_is_upto .nil (fun _ _ => RepL.nil) tk (px_cons (px_var 0) px_nil)) (px_oneX (px_call O_is_between (hr.mono (by decide)) (Z.glo 39) F_is_between.kp B_is_between .nil (fun _ _ => RepL.nil) tk (px_cons (px_var 0) px_nil))))))))
theorem ok_is_plain_entry {P : Program} {w : World} {K : PySem.W.Frag} {mg : Str → Option Value} {base : Heap} (Z : Fs K mg) :
    ∃ fd, FunD K d_is_plain_entry.name d_is_plain_entry.qual d_is_plain_entry.params d_is_plain_entry.body d_is_plain_entry.scope (d_is_plain_entry.dvs K) (d_is_plain_entry.kws K) (He.fAd K d_is_plain_entry.at_) fd ∧ FnOk P w K mg base (CX P w) 8 (He.fAd K d_is_plain_entry.at_) fd P_is_plain_entry (spM K (TT K) 1 f_is_plain_entry) ∧ Binds K fd P_is_plain_entry [] := by
  obtain ⟨fd, F⟩ := Z.says.def_ 26 (d := d_is_plain_entry) rfl
  obtain ⟨fd_are_names, F_are_names, O_are_names, B_are_names⟩ := ok_are_names (P := P) (w := w) (base := base) Z
  obtain ⟨fd_is_size, F_is_size, O_is_size, B_is_size⟩ := ok_is_size (P := P) (w := w) (base := base) Z
  refine ⟨fd, F, fn_okX F sc_is_plain_entry fun cdv A outer s H Ex hr => ?_, F.bindsN fun _ _ _ _ _ _ us hl => match us, hl with | [_], _ => rfl⟩
  have hu := hr.units
  have tk := takes_of (X := cxOf (CX P w) P w K mg base N_is_plain_entry d_is_plain_entry.qual (defScope s_is_plain_entry) (He.fAd K d_is_plain_entry.at_) cdv A outer s H Ex) rfl rfl rfl rfl
  have hp := passes_of (X := cxOf (CX P w) P w K mg base N_is_plain_entry d_is_plain_entry.qual (defScope s_is_plain_entry) (He.fAd K d_is_plain_entry.at_) cdv A outer s H Ex) rfl
  unfold M_is_plain_entry
  exact pss_consX (ps_ifX (PW.pt (pw_andX (px_tst (px_calB (cl_isi Z.fx rfl) (Z.free 16) (px_cons (px_var 0) (px_cons (px_ty "tuple" (Z.free 7) rfl) px_nil)))) (pw_andX (pt_cm (cm_eq hu) (px_calB cl_len (Z.free 3) (px_cons (px_var 0) px_nil)) px_int) (pw_and1X (pt_cm (cm_eq hu) (px_ix (px_var 0) px_int) px_str)))))
    (pss_oneX (ps_retX (px_call O_are_names (hr.mono (by decide)) (Z.glo 24) F_are_names.kp B_are_names .nil (fun _ _ => RepL.nil) tk (px_cons (px_ix (px_var 0) px_int) px_nil))))
    (pss_nilX))
    (pss_oneX (ps_retX (px_call O_is_size (hr.mono (by decide)) (Z.glo 40) F_is_size.kp B_is_size .nil (fun _ _ => RepL.nil) tk (px_cons (px_var 0) px_nil))))
theorem ok_sizes_in {P : Program} {w : World} {K : PySem.W.Frag} {mg : Str → Option Value} {base : Heap} (Z : Fs K mg) :
    ∃ fd, FunD K d_sizes_in.name d_sizes_in.qual d_sizes_in.params d_sizes_in.body d_sizes_in.scope (d_sizes_in.dvs K) (d_sizes_in.kws K) (He.fAd K d_sizes_in.at_) fd ∧ FnOk P w K mg base (CX P w) 8 (He.fAd K d_sizes_in.at_) fd P_sizes_in (spM K (TT K) 1 f_sizes_in) ∧ Binds K fd P_sizes_in [] := by
  obtain ⟨fd, F⟩ := Z.says.def_ 27 (d := d_sizes_in) rfl
  obtain ⟨fd_is_size, F_is_size, O_is_size, B_is_size⟩ := ok_is_size (P := P) (w := w) (base := base) Z
  refine ⟨fd, F, fn_okX F sc_sizes_in fun cdv A outer s H Ex hr => ?_, F.bindsN fun _ _ _ _ _ _ us hl => match us, hl with | [_], _ => rfl⟩
  have hu := hr.units
  have tk := takes_of (X := cxOf (CX P w) P w K mg base N_sizes_in d_sizes_in.qual (defScope s_sizes_in) (He.fAd K d_sizes_in.at_) cdv A outer s H Ex) rfl rfl rfl rfl
  have hp := passes_of (X := cxOf (CX P w) P w K mg base N_sizes_in d_sizes_in.qual (defScope s_sizes_in) (He.fAd K d_sizes_in.at_) cdv A outer s H Ex) rfl
  unfold M_sizes_in
  exact pss_oneX (ps_retX (px_new (by exact pf_lc (own := [("one", 1)]) rfl sc_sizes_in.nd (pi_seqX (px_var 0)) (blkOk_by (own := [("one", 1)]) (N := N_sizes_in) (sc := defScope s_sizes_in) (by decide +kernel)) (fun s_ H_ C_ cl_ fp_ => pg_name (i := 1) sc_sizes_in.nd rfl (by first | exact Or.inl rfl | exact Or.inr rfl)) (tr_name 1) (fun s_ H_ C_ cl_ fp_ => pts_one (px_tst (px_call O_is_size (hr.mono (by decide)) (Z.glo 40) F_is_size.kp B_is_size .nil (fun _ _ => RepL.nil) takes_blk (px_cons (px_var 1) px_nil)))) (fun s_ H_ C_ cl_ fp_ => px_var 1))))
theorem ok_are_plain {P : Program} {w : World} {K : PySem.W.Frag} {mg : Str → Option Value} {base : Heap} (Z : Fs K mg) :
    ∃ fd, FunD K d_are_plain.name d_are_plain.qual d_are_plain.params d_are_plain.body d_are_plain.scope (d_are_plain.dvs K) (d_are_plain.kws K) (He.fAd K d_are_plain.at_) fd ∧ FnOk P w K mg base (CX P w) 9 (He.fAd K d_are_plain.at_) fd P_are_plain (spM K (TT K) 1 f_are_plain) ∧ Binds K fd P_are_plain [] := by
  obtain ⟨fd, F⟩ := Z.says.def_ 28 (d := d_are_plain) rfl
  obtain ⟨fd_is_plain_entry, F_is_plain_entry, O_is_plain_entry, B_is_plain_entry⟩ := ok_is_plain_entry (P := P) (w := w) (base := base) Z
  obtain ⟨fd_sizes_in, F_sizes_in, O_sizes_in, B_sizes_in⟩ := ok_sizes_in (P := P) (w := w) (base := base) Z
  refine ⟨fd, F, fn_okX F sc_are_plain fun cdv A outer s H Ex hr => ?_, F.bindsN fun _ _ _ _ _ _ us hl => match us, hl with | [_], _ => rfl⟩
  have hu := hr.units
  have tk := takes_of (X := cxOf (CX P w) P w K mg base N_are_plain d_are_plain.qual (defScope s_are_plain) (He.fAd K d_are_plain.at_) cdv A outer s H Ex) rfl rfl rfl rfl
  have hp := passes_of (X := cxOf (CX P w) P w K mg base N_are_plain d_are_plain.qual (defScope s_are_plain) (He.fAd K d_are_plain.at_) cdv A outer s H Ex) rfl
  unfold M_are_plain
  exact pss_consX (ps_ifX (PW.pt (pw_orX (pt_notX (px_tst (px_calB (cl_isi Z.fx rfl) (Z.free 16) (px_cons (px_var 0) (px_cons (px_ty "tuple" (Z.free 7) rfl) px_nil))))) (pw_or1X (pt_notX (px_tst (px_calB (cl_all rfl) (Z.free 20) (px_cons (px_new (by exact pf_lc (own := [("one", 1)]) rfl sc_are_plain.nd (pi_seqX (px_var 0)) (blkOk_by (own := [("one", 1)]) (N := N_are_plain) (sc := defScope s_are_plain) (by decide +kernel)) (fun s_ H_ C_ cl_ fp_ => pg_name (i := 1) sc_are_plain.nd rfl (by first | exact Or.inl rfl | exact Or.inr rfl)) (tr_name 1) (fun s_ H_ C_ cl_ fp_ => pts_nilX) (fun s_ H_ C_ cl_ fp_ => px_call O_is_plain_entry (hr.mono (by decide)) (Z.glo 41) F_is_plain_entry.kp B_is_plain_entry .nil (fun _ _ => RepL.nil) takes_blk (px_cons (px_var 1) px_nil)))) px_nil)))))))
    (pss_oneX (ps_retX px_bl))
    (pss_nilX))
    (pss_oneX (ps_retX (px_cmp (cm_ne hu) (px_call O_sizes_in (hr.mono (by decide)) (Z.glo 42) F_sizes_in.kp B_sizes_in .nil (fun _ _ => RepL.nil) tk (px_cons (px_var 0) px_nil)) (px_new (pf_lst px_nil)))))
theorem ok_is_repeat {P : Program} {w : World} {K : PySem.W.Frag} {mg : Str → Option Value} {base : Heap} (Z : Fs K mg) :
    ∃ fd, FunD K d_is_repeat.name d_is_repeat.qual d_is_repeat.params d_is_repeat.body d_is_repeat.scope (d_is_repeat.dvs K) (d_is_repeat.kws K) (He.fAd K d_is_repeat.at_) fd ∧ FnOk P w K mg base (CX P w) 10 (He.fAd K d_is_repeat.at_) fd P_is_repeat (spM K (TT K) 1 f_is_repeat) ∧ Binds K fd P_is_repeat [] := by
  obtain ⟨fd, F⟩ := Z.says.def_ 29 (d := d_is_repeat) rfl
  obtain ⟨fd_is_int, F_is_int, O_is_int, B_is_int⟩ := ok_is_int (P := P) (w := w) (base := base) Z
  obtain ⟨fd_are_plain, F_are_plain, O_are_plain, B_are_plain⟩ := ok_are_plain (P := P) (w := w) (base := base) Z
  refine ⟨fd, F, fn_okX F sc_is_repeat fun cdv A outer s H Ex hr => ?_, F.bindsN fun _ _ _ _ _ _ us hl => match us, hl with | [_], _ => rfl⟩
  have hu := hr.units
  have tk := takes_of (X := cxOf (CX P w) P w K mg base N_is_repeat d_is_repeat.qual (defScope s_is_repeat) (He.fAd K d_is_repeat.at_) cdv A outer s H Ex) rfl rfl rfl rfl
  have hp := passes_of (X := cxOf (CX P w) P w K mg base N_is_repeat d_is_repeat.qual (defScope s_is_repeat) (He.fAd K d_is_repeat.at_) cdv A outer s H Ex) rfl
  unfold M_is_repeat
  exact pss_consX (ps_ifX (PW.pt (pw_orX (pt_notX (px_tst (px_calB (cl_isi Z.fx rfl) (Z.free 16) (px_cons (px_var 0) (px_cons (px_ty "tuple" (Z.free 7) rfl) px_nil))))) (pw_orX (pt_cm (cm_ne hu) (px_calB cl_len (Z.free 3) (px_cons (px_var 0) px_nil)) px_int) (pw_or1X (pt_cm (cm_ne hu) (px_ix (px_var 0) px_int) px_str)))))
    (pss_oneX (ps_retX px_bl))
    (pss_nilX))
    (pss_oneX (ps_retX (px_andX (px_call O_is_int (hr.mono (by decide)) (Z.glo 27) F_is_int.kp B_is_int .nil (fun _ _ => RepL.nil) tk (px_cons (px_ix (px_var 0) px_int) px_nil)) (px_andX (px_ch cm_le cm_le px_int (px_ix (px_var 0) px_int) (px_gInt 20 (Z.int 43))) (px_oneX (px_call O_are_plain (hr.mono (by decide)) (Z.glo 44) F_are_plain.kp B_are_plain .nil (fun _ _ => RepL.nil) tk (px_cons (px_ix (px_var 0) px_int) px_nil)))))))
theorem ok_is_filling {P : Program} {w : World} {K : PySem.W.Frag} {mg : Str → Option Value} {base : Heap} (Z : Fs K mg) :
    ∃ fd, FunD K d_is_filling.name d_is_filling.qual d_is_filling.params d_is_filling.body d_is_filling.scope (d_is_filling.dvs K) (d_is_filling.kws K) (He.fAd K d_is_filling.at_) fd ∧ FnOk P w K mg base (CX P w) 10 (He.fAd K d_is_filling.at_) fd P_is_filling (spM K (TT K) 1 f_is_filling) ∧ Binds K fd P_is_filling [] := by
  obtain ⟨fd, F⟩ := Z.says.def_ 30 (d := d_is_filling) rfl
  obtain ⟨fd_are_plain, F_are_plain, O_are_plain, B_are_plain⟩ := ok_are_plain (P := P) (w := w) (base := base) Z
  refine ⟨fd, F, fn_okX F sc_is_filling fun cdv A outer s H Ex hr => ?_, F.bindsN fun _ _ _ _ _ _ us hl => match us, hl with | [_], _ => rfl⟩
  have hu := hr.units
  have tk := takes_of (X := cxOf (CX P w) P w K mg base N_is_filling d_is_filling.qual (defScope s_is_filling) (He.fAd K d_is_filling.at_) cdv A outer s H Ex) rfl rfl rfl rfl
  have hp := passes_of (X := cxOf (CX P w) P w K mg base N_is_filling d_is_filling.qual (defScope s_is_filling) (He.fAd K d_is_filling.at_) cdv A outer s H Ex) rfl
  unfold M_is_filling
  exact pss_consX (ps_ifX (PW.pt (pw_orX (pt_notX (px_tst (px_calB (cl_isi Z.fx rfl) (Z.free 16) (px_cons (px_var 0) (px_cons (px_ty "tuple" (Z.free 7) rfl) px_nil))))) (pw_orX (pt_cm (cm_ne hu) (px_calB cl_len (Z.free 3) (px_cons (px_var 0) px_nil)) px_int) (pw_or1X (pt_cm (cm_notIn hu) (px_ix (px_var 0) px_int) (px_tup (px_cons px_str (px_cons px_str px_nil))) (by with_unfolding_all rfl))))))
    (pss_oneX (ps_retX px_bl))
    (pss_nilX))
    (pss_oneX (ps_retX (px_call O_are_plain (hr.mono (by decide)) (Z.glo 44) F_are_plain.kp B_are_plain .nil (fun _ _ => RepL.nil) tk (px_cons (px_ix (px_var 0) px_int) px_nil))))
theorem ok_sizes_of {P : Program} {w : World} {K : PySem.W.Frag} {mg : Str → Option Value} {base : Heap} (Z : Fs K mg) :
    ∃ fd, FunD K d_sizes_of.name d_sizes_of.qual d_sizes_of.params d_sizes_of.body d_sizes_of.scope (d_sizes_of.dvs K) (d_sizes_of.kws K) (He.fAd K d_sizes_of.at_) fd ∧ FnOk P w K mg base (CX P w) 11 (He.fAd K d_sizes_of.at_) fd P_sizes_of (spM K (TT K) 1 f_sizes_of) ∧ Binds K fd P_sizes_of [] := by
  obtain ⟨fd, F⟩ := Z.says.def_ 31 (d := d_sizes_of) rfl
  obtain ⟨fd_is_repeat, F_is_repeat, O_is_repeat, B_is_repeat⟩ := ok_is_repeat (P := P) (w := w) (base := base) Z
  obtain ⟨fd_sizes_in, F_sizes_in, O_sizes_in, B_sizes_in⟩ := ok_sizes_in (P := P) (w := w) (base := base) Z
  obtain ⟨fd_is_filling, F_is_filling, O_is_filling, B_is_filling⟩ := ok_is_filling (P := P) (w := w) (base := base) Z
  obtain ⟨fd_is_size, F_is_size, O_is_size, B_is_size⟩ := ok_is_size (P := P) (w := w) (base := base) Z
  refine ⟨fd, F, fn_okX F sc_sizes_of fun cdv A outer s H Ex hr => ?_, F.bindsN fun _ _ _ _ _ _ us hl => match us, hl with | [_], _ => rfl⟩
  have hu := hr.units
  have tk := takes_of (X := cxOf (CX P w) P w K mg base N_sizes_of d_sizes_of.qual (defScope s_sizes_of) (He.fAd K d_sizes_of.at_) cdv A outer s H Ex) rfl rfl rfl rfl
  have hp := passes_of (X := cxOf (CX P w) P w K mg base N_sizes_of d_sizes_of.qual (defScope s_sizes_of) (He.fAd K d_sizes_of.at_) cdv A outer s H Ex) rfl
  unfold M_sizes_of
  exact pss_consX (ps_ownX 1 (pf_lst px_nil) sc_sizes_of.nd)
    (pss_consX (ps_forX hp rfl (pi_seqX (px_var 0)) (pg_name (i := 2) sc_sizes_of.nd rfl (by first | exact Or.inl rfl | exact Or.inr rfl)) (tr_name 2)
    (pss_oneX (ps_ifX (px_tst (px_call O_is_repeat (hr.mono (by decide)) (Z.glo 45) F_is_repeat.kp B_is_repeat .nil (fun _ _ => RepL.nil) tk (px_cons (px_var 2) px_nil)))
    (pss_oneX (ps_exprX (px_methO 1 PySem.F.slot_list_extend PySem.F.type_list_extend me_extend (px_cons (px_new (pf_rep (px_call O_sizes_in (hr.mono (by decide)) (Z.glo 42) F_sizes_in.kp B_sizes_in .nil (fun _ _ => RepL.nil) tk (px_cons (px_ix (px_var 2) px_int) px_nil)) (px_ix (px_var 2) px_int))) px_nil))))
    (pss_oneX (ps_ifX (px_tst (px_call O_is_filling (hr.mono (by decide)) (Z.glo 46) F_is_filling.kp B_is_filling .nil (fun _ _ => RepL.nil) tk (px_cons (px_var 2) px_nil)))
    (pss_oneX (ps_exprX (px_methO 1 PySem.F.slot_list_extend PySem.F.type_list_extend me_extend (px_cons (px_call O_sizes_in (hr.mono (by decide)) (Z.glo 42) F_sizes_in.kp B_sizes_in .nil (fun _ _ => RepL.nil) tk (px_cons (px_ix (px_var 2) px_int) px_nil)) px_nil))))
    (pss_oneX (ps_ifX (px_tst (px_call O_is_size (hr.mono (by decide)) (Z.glo 40) F_is_size.kp B_is_size .nil (fun _ _ => RepL.nil) tk (px_cons (px_var 2) px_nil)))
    (pss_oneX (ps_exprX (px_methO 1 PySem.F.slot_list_append PySem.F.type_list_append me_append (px_cons (px_var 2) px_nil))))
    (pss_nilX))))))))
    (pss_oneX (ps_retX (px_var 1))))
theorem ok_low_of {P : Program} {w : World} {K : PySem.W.Frag} {mg : Str → Option Value} {base : Heap} (Z : Fs K mg) :
    ∃ fd, FunD K d_low_of.name d_low_of.qual d_low_of.params d_low_of.body d_low_of.scope (d_low_of.dvs K) (d_low_of.kws K) (He.fAd K d_low_of.at_) fd ∧ FnOk P w K mg base (CX P w) 7 (He.fAd K d_low_of.at_) fd P_low_of (spM K (TT K) 1 f_low_of) ∧ Binds K fd P_low_of [] := by
  obtain ⟨fd, F⟩ := Z.says.def_ 32 (d := d_low_of) rfl
  obtain ⟨fd_is_fixed, F_is_fixed, O_is_fixed, B_is_fixed⟩ := ok_is_fixed (P := P) (w := w) (base := base) Z
  obtain ⟨fd_is_word, F_is_word, O_is_word, B_is_word⟩ := ok_is_word (P := P) (w := w) (base := base) Z
  obtain ⟨fd_is_between, F_is_between, O_is_between, B_is_between⟩ := ok_is_between (P := P) (w := w) (base := base) Z
  refine ⟨fd, F, fn_okX F sc_low_of fun cdv A outer s H Ex hr => ?_, F.bindsN fun _ _ _ _ _ _ us hl => match us, hl with | [_], _ => rfl⟩
  have hu := hr.units
  have tk := takes_of (X := cxOf (CX P w) P w K mg base N_low_of d_low_of.qual (defScope s_low_of) (He.fAd K d_low_of.at_) cdv A outer s H Ex) rfl rfl rfl rfl
  have hp := passes_of (X := cxOf (CX P w) P w K mg base N_low_of d_low_of.qual (defScope s_low_of) (He.fAd K d_low_of.at_) cdv A outer s H Ex) rfl
  unfold M_low_of
  exact pss_consX (ps_ifX (PW.pt (pw_orX (px_tst (px_call O_is_fixed (hr.mono (by decide)) (Z.glo 35) F_is_fixed.kp B_is_fixed .nil (fun _ _ => RepL.nil) tk (px_cons (px_var 0) px_nil))) (pw_or1X (px_tst (px_call O_is_word (hr.mono (by decide)) (Z.glo 36) F_is_word.kp B_is_word .nil (fun _ _ => RepL.nil) tk (px_cons (px_var 0) px_nil))))))
    (pss_oneX (ps_retX (px_var 0)))
    (pss_nilX))
    (pss_oneX (ps_retX (px_if (px_tst (px_call O_is_between (hr.mono (by decide)) (Z.glo 39) F_is_between.kp B_is_between .nil (fun _ _ => RepL.nil) tk (px_cons (px_var 0) px_nil))) (px_ix (px_var 0) px_int) px_str)))
theorem ok_high_of {P : Program} {w : World} {K : PySem.W.Frag} {mg : Str → Option Value} {base : Heap} (Z : Fs K mg) :
    ∃ fd, FunD K d_high_of.name d_high_of.qual d_high_of.params d_high_of.body d_high_of.scope (d_high_of.dvs K) (d_high_of.kws K) (He.fAd K d_high_of.at_) fd ∧ FnOk P w K mg base (CX P w) 7 (He.fAd K d_high_of.at_) fd P_high_of (spM K (TT K) 1 f_high_of) ∧ Binds K fd P_high_of [] := by
  obtain ⟨fd, F⟩ := Z.says.def_ 33 (d := d_high_of) rfl
  obtain ⟨fd_is_between, F_is_between, O_is_between, B_is_between⟩ := ok_is_between (P := P) (w := w) (base := base) Z
  obtain ⟨fd_is_upto, F_is_upto, O_is_upto, B_is_upto⟩ := ok_is_upto (P := P) (w := w) (base := base) Z
  refine ⟨fd, F, fn_okX F sc_high_of fun cdv A outer s H Ex hr => ?_, F.bindsN fun _ _ _ _ _ _ us hl => match us, hl with | [_], _ => rfl⟩
  have hu := hr.units
  have tk := takes_of (X := cxOf (CX P w) P w K mg base N_high_of d_high_of.qual (defScope s_high_of) (He.fAd K d_high_of.at_) cdv A outer s H Ex) rfl rfl rfl rfl
  have hp := passes_of (X := cxOf (CX P w) P w K mg base N_high_of d_high_of.qual (defScope s_high_of) (He.fAd K d_high_of.at_) cdv A outer s H Ex) rfl
  unfold M_high_of
  exact pss_consX (ps_ifX (px_tst (px_call O_is_between (hr.mono (by decide)) (Z.glo 39) F_is_between.kp B_is_between .nil (fun _ _ => RepL.nil) tk (px_cons (px_var 0) px_nil)))
    (pss_oneX (ps_retX (px_ix (px_var 0) px_int)))
    (pss_nilX))
    (pss_oneX (ps_retX (px_if (px_tst (px_call O_is_upto (hr.mono (by decide)) (Z.glo 38) F_is_upto.kp B_is_upto .nil (fun _ _ => RepL.nil) tk (px_cons (px_var 0) px_nil))) px_str (px_var 0))))
theorem ok_is_counted {P : Program} {w : World} {K : PySem.W.Frag} {mg : Str → Option Value} {base : Heap} (Z : Fs K mg) :
    ∃ fd, FunD K d_is_counted.name d_is_counted.qual d_is_counted.params d_is_counted.body d_is_counted.scope (d_is_counted.dvs K) (d_is_counted.kws K) (He.fAd K d_is_counted.at_) fd ∧ FnOk P w K mg base (CX P w) 8 (He.fAd K d_is_counted.at_) fd P_is_counted (spM K (TT K) 1 f_is_counted) ∧ Binds K fd P_is_counted [] := by
  obtain ⟨fd, F⟩ := Z.says.def_ 34 (d := d_is_counted) rfl
  obtain ⟨fd_is_upto, F_is_upto, O_is_upto, B_is_upto⟩ := ok_is_upto (P := P) (w := w) (base := base) Z
  obtain ⟨fd_is_fixed, F_is_fixed, O_is_fixed, B_is_fixed⟩ := ok_is_fixed (P := P) (w := w) (base := base) Z
  obtain ⟨fd_low_of, F_low_of, O_low_of, B_low_of⟩ := ok_low_of (P := P) (w := w) (base := base) Z
  obtain ⟨fd_high_of, F_high_of, O_high_of, B_high_of⟩ := ok_high_of (P := P) (w := w) (base := base) Z
  refine ⟨fd, F, fn_okX F sc_is_counted fun cdv A outer s H Ex hr => ?_, F.bindsN fun _ _ _ _ _ _ us hl => match us, hl with | [_], _ => rfl⟩
  have hu := hr.units
  have tk := takes_of (X := cxOf (CX P w) P w K mg base N_is_counted d_is_counted.qual (defScope s_is_counted) (He.fAd K d_is_counted.at_) cdv A outer s H Ex) rfl rfl rfl rfl
  have hp := passes_of (X := cxOf (CX P w) P w K mg base N_is_counted d_is_counted.qual (defScope s_is_counted) (He.fAd K d_is_counted.at_) cdv A outer s H Ex) rfl
  unfold M_is_counted
  exact pss_oneX (ps_retX (px_andX (px_notX (px_call O_is_upto (hr.mono (by decide)) (Z.glo 38) F_is_upto.kp B_is_upto .nil (fun _ _ => RepL.nil) tk (px_cons (px_var 0) px_nil))) (px_oneX (px_orX (px_call O_is_fixed (hr.mono (by decide)) (Z.glo 35) F_is_fixed.kp B_is_fixed .nil (fun _ _ => RepL.nil) tk (px_cons (px_call O_low_of (hr.mono (by decide)) (Z.glo 47) F_low_of.kp B_low_of .nil (fun _ _ => RepL.nil) tk (px_cons (px_var 0) px_nil)) px_nil)) (px_oneX (px_call O_is_fixed (hr.mono (by decide)) (Z.glo 35) F_is_fixed.kp B_is_fixed .nil (fun _ _ => RepL.nil) tk (px_cons (px_call O_high_of (hr.mono (by decide)) (Z.glo 48) F_high_of.kp B_high_of .nil (fun _ _ => RepL.nil) tk (px_cons (px_var 0) px_nil)) px_nil)))))))
theorem ok_is_template {P : Program} {w : World} {K : PySem.W.Frag} {mg : Str → Option Value} {base : Heap} (Z : Fs K mg) :
    ∃ fd, FunD K d_is_template.name d_is_template.qual d_is_template.params d_is_template.body d_is_template.scope (d_is_template.dvs K) (d_is_template.kws K) (He.fAd K d_is_template.at_) fd ∧ FnOk P w K mg base (CX P w) 12 (He.fAd K d_is_template.at_) fd P_is_template (spM K (TT K) 1 f_is_template) ∧ Binds K fd P_is_template [] := by
  obtain ⟨fd, F⟩ := Z.says.def_ 35 (d := d_is_template) rfl
  obtain ⟨fd_is_inherited, F_is_inherited, O_is_inherited, B_is_inherited⟩ := ok_is_inherited (P := P) (w := w) (base := base) Z
  obtain ⟨fd_is_plain_entry, F_is_plain_entry, O_is_plain_entry, B_is_plain_entry⟩ := ok_is_plain_entry (P := P) (w := w) (base := base) Z
  obtain ⟨fd_is_repeat, F_is_repeat, O_is_repeat, B_is_repeat⟩ := ok_is_repeat (P := P) (w := w) (base := base) Z
  obtain ⟨fd_is_filling, F_is_filling, O_is_filling, B_is_filling⟩ := ok_is_filling (P := P) (w := w) (base := base) Z
  obtain ⟨fd_sizes_of, F_sizes_of, O_sizes_of, B_sizes_of⟩ := ok_sizes_of (P := P) (w := w) (base := base) Z
  obtain ⟨fd_is_counted, F_is_counted, O_is_counted, B_is_counted⟩ := ok_is_counted (P := P) (w := w) (base := base) Z
  refine ⟨fd, F, fn_okX F sc_is_template fun cdv A outer s H Ex hr => ?_, F.bindsN fun _ _ _ _ _ _ us hl => match us, hl with | [_], _ => rfl⟩
  have hu := hr.units
  have tk := takes_of (X := cxOf (CX P w) P w K mg base N_is_template d_is_template.qual (defScope s_is_template) (He.fAd K d_is_template.at_) cdv A outer s H Ex) rfl rfl rfl rfl
  have hp := passes_of (X := cxOf (CX P w) P w K mg base N_is_template d_is_template.qual (defScope s_is_template) (He.fAd K d_is_template.at_) cdv A outer s H Ex) rfl
  unfold M_is_template
  exact pss_consX (ps_ifX (px_tst (px_call O_is_inherited (hr.mono (by decide)) (Z.glo 49) F_is_inherited.kp B_is_inherited .nil (fun _ _ => RepL.nil) tk (px_cons (px_var 0) px_nil)))
    (pss_oneX (ps_retX px_bl))
    (pss_nilX))
    (pss_consX (ps_ifX (pt_notX (px_tst (px_calB (cl_isi Z.fx rfl) (Z.free 16) (px_cons (px_var 0) (px_cons (px_ty "tuple" (Z.free 7) rfl) px_nil)))))
    (pss_oneX (ps_retX px_bl))
    (pss_nilX))
    (pss_consX (ps_ifX (pt_notX (px_tst (px_calB (cl_all rfl) (Z.free 20) (px_cons (px_new (by exact pf_lc (own := [("one", 2)]) rfl sc_is_template.nd (pi_seqX (px_var 0)) (blkOk_by (own := [("one", 2)]) (N := N_is_template) (sc := defScope s_is_template) (by decide +kernel)) (fun s_ H_ C_ cl_ fp_ => pg_name (i := 2) sc_is_template.nd rfl (by first | exact Or.inl rfl | exact Or.inr rfl)) (tr_name 2) (fun s_ H_ C_ cl_ fp_ => pts_nilX) (fun s_ H_ C_ cl_ fp_ => px_orX (px_call O_is_plain_entry (hr.mono (by decide)) (Z.glo 41) F_is_plain_entry.kp B_is_plain_entry .nil (fun _ _ => RepL.nil) takes_blk (px_cons (px_var 2) px_nil)) (px_orX (px_call O_is_repeat (hr.mono (by decide)) (Z.glo 45) F_is_repeat.kp B_is_repeat .nil (fun _ _ => RepL.nil) takes_blk (px_cons (px_var 2) px_nil)) (px_oneX (px_call O_is_filling (hr.mono (by decide)) (Z.glo 46) F_is_filling.kp B_is_filling .nil (fun _ _ => RepL.nil) takes_blk (px_cons (px_var 2) px_nil))))))) px_nil))))
    (pss_oneX (ps_retX px_bl))
    (pss_nilX))
    (pss_consX (ps_setLcX (i := 1) (own := [("one", 2)]) rfl sc_is_template.nd rfl rfl (sw_true rfl rfl rfl (by decide +kernel)) (pi_seqX (px_var 0)) (blkOk_by (own := [("one", 2)]) (N := N_is_template) (sc := defScope s_is_template) (by decide +kernel)) (fun s_ H_ C_ cl_ fp_ => pg_name (i := 2) sc_is_template.nd rfl (by first | exact Or.inl rfl | exact Or.inr rfl)) (tr_name 2) (fun s_ H_ C_ cl_ fp_ => pts_one (px_tst (px_call O_is_filling (hr.mono (by decide)) (Z.glo 46) F_is_filling.kp B_is_filling .nil (fun _ _ => RepL.nil) takes_blk (px_cons (px_var 2) px_nil)))) (fun s_ H_ C_ cl_ fp_ => px_var 2))
    (pss_consX (ps_ifX (PW.pt (pw_orX (pt_cm cm_gt (px_calB cl_len (Z.free 3) (px_cons (px_call O_sizes_of (hr.mono (by decide)) (Z.glo 50) F_sizes_of.kp B_sizes_of .nil (fun _ _ => RepL.nil) tk (px_cons (px_var 0) px_nil)) px_nil)) (px_gInt 40 (Z.int 23))) (pw_or1X (pt_cm cm_gt (px_calB cl_len (Z.free 3) (px_cons (px_var 1) px_nil)) px_int))))
    (pss_oneX (ps_retX px_bl))
    (pss_nilX))
    (pss_oneX (ps_retX (px_orX (px_cmp (cm_eq hu) (px_var 1) (px_new (pf_lst px_nil))) (px_oneX (px_calB (cl_all rfl) (Z.free 20) (px_cons (px_new (by exact pf_lc (own := [("size", 3)]) rfl sc_is_template.nd (pi_seqX (px_call O_sizes_of (hr.mono (by decide)) (Z.glo 50) F_sizes_of.kp B_sizes_of .nil (fun _ _ => RepL.nil) tk (px_cons (px_var 0) px_nil))) (blkOk_by (own := [("size", 3)]) (N := N_is_template) (sc := defScope s_is_template) (by decide +kernel)) (fun s_ H_ C_ cl_ fp_ => pg_name (i := 3) sc_is_template.nd rfl (by first | exact Or.inl rfl | exact Or.inr rfl)) (tr_name 3) (fun s_ H_ C_ cl_ fp_ => pts_nilX) (fun s_ H_ C_ cl_ fp_ => px_call O_is_counted (hr.mono (by decide)) (Z.glo 51) F_is_counted.kp B_is_counted .nil (fun _ _ => RepL.nil) takes_blk (px_cons (px_var 3) px_nil)))) px_nil))))))))))
theorem ok_is_field_row {P : Program} {w : World} {K : PySem.W.Frag} {mg : Str → Option Value} {base : Heap} (Z : Fs K mg) :
    ∃ fd, FunD K d_is_field_row.name d_is_field_row.qual d_is_field_row.params d_is_field_row.body d_is_field_row.scope (d_is_field_row.dvs K) (d_is_field_row.kws K) (He.fAd K d_is_field_row.at_) fd ∧ FnOk P w K mg base (CX P w) 2 (He.fAd K d_is_field_row.at_) fd P_is_field_row (spM K (TT K) 2 f_is_field_row) ∧ Binds K fd P_is_field_row [] := by
  obtain ⟨fd, F⟩ := Z.says.def_ 36 (d := d_is_field_row) rfl
  obtain ⟨fd_is_name, F_is_name, O_is_name, B_is_name⟩ := ok_is_name (P := P) (w := w) (base := base) Z
  refine ⟨fd, F, fn_okX F sc_is_field_row fun cdv A outer s H Ex hr => ?_, F.bindsN fun _ _ _ _ _ _ us hl => match us, hl with | [_, _], _ => rfl⟩
  have hu := hr.units
  have tk := takes_of (X := cxOf (CX P w) P w K mg base N_is_field_row d_is_field_row.qual (defScope s_is_field_row) (He.fAd K d_is_field_row.at_) cdv A outer s H Ex) rfl rfl rfl rfl
  have hp := passes_of (X := cxOf (CX P w) P w K mg base N_is_field_row d_is_field_row.qual (defScope s_is_field_row) (He.fAd K d_is_field_row.at_) cdv A outer s H Ex) rfl
  unfold M_is_field_row
  exact pss_consX (ps_ifX (PW.pt (pw_orX (pt_notX (px_tst (px_calB (cl_isi Z.fx rfl) (Z.free 16) (px_cons (px_var 0) (px_cons (px_ty "tuple" (Z.free 7) rfl) px_nil))))) (pw_or1X (pt_cm (cm_ne hu) (px_calB cl_len (Z.free 3) (px_cons (px_var 0) px_nil)) (px_var 1)))))
    (pss_oneX (ps_retX px_bl))
    (pss_nilX))
    (pss_oneX (ps_retX (px_calB (cl_all rfl) (Z.free 20) (px_cons (px_new (by exact pf_lc (own := [("one", 2)]) rfl sc_is_field_row.nd (pi_seqX (px_var 0)) (blkOk_by (own := [("one", 2)]) (N := N_is_field_row) (sc := defScope s_is_field_row) (by decide +kernel)) (fun s_ H_ C_ cl_ fp_ => pg_name (i := 2) sc_is_field_row.nd rfl (by first | exact Or.inl rfl | exact Or.inr rfl)) (tr_name 2) (fun s_ H_ C_ cl_ fp_ => pts_nilX) (fun s_ H_ C_ cl_ fp_ => px_orX (px_call O_is_name (hr.mono (by decide)) (Z.glo 22) F_is_name.kp B_is_name .nil (fun _ _ => RepL.nil) takes_blk (px_cons (px_var 2) px_nil)) (px_oneX (px_andX (px_cmp (cm_eq hu) (px_var 2) px_str) (px_oneX (px_calB (cl_isi Z.fx rfl) (Z.free 16) (px_cons (px_var 2) (px_cons (px_ty "str" (Z.free 17) rfl) px_nil))))))))) px_nil))))
theorem ok_is_rectangle {P : Program} {w : World} {K : PySem.W.Frag} {mg : Str → Option Value} {base : Heap} (Z : Fs K mg) :
    ∃ fd, FunD K d_is_rectangle.name d_is_rectangle.qual d_is_rectangle.params d_is_rectangle.body d_is_rectangle.scope (d_is_rectangle.dvs K) (d_is_rectangle.kws K) (He.fAd K d_is_rectangle.at_) fd ∧ FnOk P w K mg base (CX P w) 1 (He.fAd K d_is_rectangle.at_) fd P_is_rectangle (spM K (TT K) 1 f_is_rectangle) ∧ Binds K fd P_is_rectangle [] := by
  obtain ⟨fd, F⟩ := Z.says.def_ 37 (d := d_is_rectangle) rfl
  refine ⟨fd, F, fn_okX F sc_is_rectangle fun cdv A outer s H Ex hr => ?_, F.bindsN fun _ _ _ _ _ _ us hl => match us, hl with | [_], _ => rfl⟩
  have hu := hr.units
  have tk := takes_of (X := cxOf (CX P w) P w K mg base N_is_rectangle d_is_rectangle.qual (defScope s_is_rectangle) (He.fAd K d_is_rectangle.at_) cdv A outer s H Ex) rfl rfl rfl rfl
  have hp := passes_of (X := cxOf (CX P w) P w K mg base N_is_rectangle d_is_rectangle.qual (defScope s_is_rectangle) (He.fAd K d_is_rectangle.at_) cdv A outer s H Ex) rfl
  unfold M_is_rectangle
  exact pss_consX (ps_parX 1 2 rfl sc_is_rectangle.nd (px_new (by exact pf_lc (own := [("cell", 3)]) rfl sc_is_rectangle.nd (pi_seqX (px_var 0)) (blkOk_by (own := [("cell", 3)]) (N := N_is_rectangle) (sc := defScope s_is_rectangle) (by decide +kernel)) (fun s_ H_ C_ cl_ fp_ => pg_name (i := 3) sc_is_rectangle.nd rfl (by first | exact Or.inl rfl | exact Or.inr rfl)) (tr_name 3) (fun s_ H_ C_ cl_ fp_ => pts_nilX) (fun s_ H_ C_ cl_ fp_ => px_ix (px_var 3) px_int))) (px_new (by exact pf_lc (own := [("cell", 3)]) rfl sc_is_rectangle.nd (pi_seqX (px_var 0)) (blkOk_by (own := [("cell", 3)]) (N := N_is_rectangle) (sc := defScope s_is_rectangle) (by decide +kernel)) (fun s_ H_ C_ cl_ fp_ => pg_name (i := 3) sc_is_rectangle.nd rfl (by first | exact Or.inl rfl | exact Or.inr rfl)) (tr_name 3) (fun s_ H_ C_ cl_ fp_ => pts_nilX) (fun s_ H_ C_ cl_ fp_ => px_ix (px_var 3) px_int))) (fun _ h => ps_par rfl sc_is_rectangle.nd rfl rfl (by decide) rfl rfl h rfl))
    (pss_oneX (ps_retX (px_cmp (cm_eq hu) (px_calB cl_len (Z.free 3) (px_cons (px_var 0) px_nil)) (px_bin bn_mul (px_bin bn_add (px_bin bn_sub (px_calB (cl_maxL rfl) (Z.free 52) (px_cons (px_var 1) px_nil)) (px_calB (cl_minL rfl) (Z.free 53) (px_cons (px_var 1) px_nil))) px_int) (px_bin bn_add (px_bin bn_sub (px_calB (cl_maxL rfl) (Z.free 52) (px_cons (px_var 2) px_nil)) (px_calB (cl_minL rfl) (Z.free 53) (px_cons (px_var 2) px_nil))) px_int)))))
theorem ok_cells_of {P : Program} {w : World} {K : PySem.W.Frag} {mg : Str → Option Value} {base : Heap} (Z : Fs K mg) :
    ∃ fd, FunD K d_cells_of.name d_cells_of.qual d_cells_of.params d_cells_of.body d_cells_of.scope (d_cells_of.dvs K) (d_cells_of.kws K) (He.fAd K d_cells_of.at_) fd ∧ FnOk P w K mg base (CX P w) 1 (He.fAd K d_cells_of.at_) fd P_cells_of (spM K (TT K) 2 f_cells_of) ∧ Binds K fd P_cells_of [] := by
  obtain ⟨fd, F⟩ := Z.says.def_ 38 (d := d_cells_of) rfl
  refine ⟨fd, F, fn_okX F sc_cells_of fun cdv A outer s H Ex hr => ?_, F.bindsN fun _ _ _ _ _ _ us hl => match us, hl with | [_, _], _ => rfl⟩
  have hu := hr.units
  have tk := takes_of (X := cxOf (CX P w) P w K mg base N_cells_of d_cells_of.qual (defScope s_cells_of) (He.fAd K d_cells_of.at_) cdv A outer s H Ex) rfl rfl rfl rfl
  have hp := passes_of (X := cxOf (CX P w) P w K mg base N_cells_of d_cells_of.qual (defScope s_cells_of) (He.fAd K d_cells_of.at_) cdv A outer s H Ex) rfl
  unfold M_cells_of
  exact pss_consX (ps_ownX 2 (pf_lst px_nil) sc_cells_of.nd)
    (pss_consX (ps_forX hp rfl (pi_enumX (Z.free 54) (px_cons (px_var 0) px_nil)) (pg_tup rfl (pgs_cons (pg_name (i := 3) sc_cells_of.nd rfl (by first | exact Or.inl rfl | exact Or.inr rfl)) (pgs_cons (pg_name (i := 4) sc_cells_of.nd rfl (by first | exact Or.inl rfl | exact Or.inr rfl)) pgs_nil))) (tr_tup 2 (trs_cons (tr_name 3) (trs_cons (tr_name 4) trs_nil)))
    (pss_oneX (ps_exprX (px_methO 2 PySem.F.slot_list_extend PySem.F.type_list_extend me_extend (px_cons (px_new (by exact pf_lc (own := [("spot", 6), ("one", 5)]) rfl sc_cells_of.nd (pi_enumX (Z.free 54) (px_cons (px_var 4) px_nil)) (blkOk_by (own := [("spot", 6), ("one", 5)]) (N := N_cells_of) (sc := defScope s_cells_of) (by decide +kernel)) (fun s_ H_ C_ cl_ fp_ => pg_tup rfl (pgs_cons (pg_name (i := 6) sc_cells_of.nd rfl (by first | exact Or.inl rfl | exact Or.inr rfl)) (pgs_cons (pg_name (i := 5) sc_cells_of.nd rfl (by first | exact Or.inl rfl | exact Or.inr rfl)) pgs_nil))) (tr_tup 2 (trs_cons (tr_name 6) (trs_cons (tr_name 5) trs_nil))) (fun s_ H_ C_ cl_ fp_ => pts_one (pt_cm (cm_eq hu) (px_var 5) (px_var 1))) (fun s_ H_ C_ cl_ fp_ => px_tup (px_cons (px_var 3) (px_cons (px_var 6) px_nil))))) px_nil)))))
    (pss_oneX (ps_retX (px_var 2))))
theorem ok_check_fields {P : Program} {w : World} {K : PySem.W.Frag} {mg : Str → Option Value} {base : Heap} (Z : Fs K mg) :
    ∃ fd, FunD K d_check_fields.name d_check_fields.qual d_check_fields.params d_check_fields.body d_check_fields.scope (d_check_fields.dvs K) (d_check_fields.kws K) (He.fAd K d_check_fields.at_) fd ∧ FnOk P w K mg base (CX P w) 3 (He.fAd K d_check_fields.at_) fd P_check_fields (spM K (TT K) 1 f_check_fields) ∧ Binds K fd P_check_fields [] := by
  obtain ⟨fd, F⟩ := Z.says.def_ 39 (d := d_check_fields) rfl
  obtain ⟨fd_is_field_row, F_is_field_row, O_is_field_row, B_is_field_row⟩ := ok_is_field_row (P := P) (w := w) (base := base) Z
  obtain ⟨fd_is_rectangle, F_is_rectangle, O_is_rectangle, B_is_rectangle⟩ := ok_is_rectangle (P := P) (w := w) (base := base) Z
  obtain ⟨fd_cells_of, F_cells_of, O_cells_of, B_cells_of⟩ := ok_cells_of (P := P) (w := w) (base := base) Z
  refine ⟨fd, F, fn_okX F sc_check_fields fun cdv A outer s H Ex hr => ?_, F.bindsN fun _ _ _ _ _ _ us hl => match us, hl with | [_], _ => rfl⟩
  have hu := hr.units
  have tk := takes_of (X := cxOf (CX P w) P w K mg base N_check_fields d_check_fields.qual (defScope s_check_fields) (He.fAd K d_check_fields.at_) cdv A outer s H Ex) rfl rfl rfl rfl
  have hp := passes_of (X := cxOf (CX P w) P w K mg base N_check_fields d_check_fields.qual (defScope s_check_fields) (He.fAd K d_check_fields.at_) cdv A outer s H Ex) rfl
  unfold M_check_fields
  exact pss_consX (ps_ifX (PW.pt (pw_orX (pt_notX (px_tst (px_calB (cl_isi Z.fx rfl) (Z.free 16) (px_cons (px_var 0) (px_cons (px_ty "tuple" (Z.free 7) rfl) px_nil))))) (pw_or1X (pt_cm cm_gt (px_calB cl_len (Z.free 3) (px_cons (px_var 0) px_nil)) (px_gInt 20 (Z.int 55))))))
    (pss_oneX ps_no)
    (pss_nilX))
    (pss_consX (ps_forX hp rfl (pi_enumX (Z.free 54) (px_cons (px_var 0) px_nil)) (pg_tup rfl (pgs_cons (pg_name (i := 1) sc_check_fields.nd rfl (by first | exact Or.inl rfl | exact Or.inr rfl)) (pgs_cons (pg_name (i := 2) sc_check_fields.nd rfl (by first | exact Or.inl rfl | exact Or.inr rfl)) pgs_nil))) (tr_tup 2 (trs_cons (tr_name 1) (trs_cons (tr_name 2) trs_nil)))
    (pss_consX (ps_setX 3 (px_if (px_tst (px_calB (cl_isi Z.fx rfl) (Z.free 16) (px_cons (px_ix (px_var 0) px_int) (px_cons (px_ty "tuple" (Z.free 7) rfl) px_nil)))) (px_calB cl_len (Z.free 3) (px_cons (px_ix (px_var 0) px_int) px_nil)) (px_neg px_int)) sc_check_fields.nd)
    (pss_oneX (ps_ifX (PW.pt (pw_orX (pt_notX (px_tst (px_call O_is_field_row (hr.mono (by decide)) (Z.glo 56) F_is_field_row.kp B_is_field_row .nil (fun _ _ => RepL.nil) tk (px_cons (px_var 2) (px_cons (px_var 3) px_nil))))) (pw_or1X (pt_notX (pt_ch cm_le cm_le px_int (px_var 3) (px_gInt 20 (Z.int 55)))))))
    (pss_oneX ps_no)
    (pss_nilX)))))
    (pss_oneX (ps_forX hp rfl (pi_enumX (Z.free 54) (px_cons (px_var 0) px_nil)) (pg_tup rfl (pgs_cons (pg_name (i := 1) sc_check_fields.nd rfl (by first | exact Or.inl rfl | exact Or.inr rfl)) (pgs_cons (pg_name (i := 2) sc_check_fields.nd rfl (by first | exact Or.inl rfl | exact Or.inr rfl)) pgs_nil))) (tr_tup 2 (trs_cons (tr_name 1) (trs_cons (tr_name 2) trs_nil)))
    (pss_oneX (ps_forX hp rfl (pi_seqX (px_var 2)) (pg_name (i := 4) sc_check_fields.nd rfl (by first | exact Or.inl rfl | exact Or.inr rfl)) (tr_name 4)
    (pss_oneX (ps_ifX (PW.pt (pw_andX (pt_cm (cm_ne hu) (px_var 4) px_str) (pw_and1X (pt_notX (px_tst (px_call O_is_rectangle (hr.mono (by decide)) (Z.glo 57) F_is_rectangle.kp B_is_rectangle .nil (fun _ _ => RepL.nil) tk (px_cons (px_call O_cells_of (hr.mono (by decide)) (Z.glo 58) F_cells_of.kp B_cells_of .nil (fun _ _ => RepL.nil) tk (px_cons (px_var 0) (px_cons (px_var 4) px_nil))) px_nil)))))))
    (pss_oneX ps_no)
    (pss_nilX))))))))
theorem ok_check_more {P : Program} {w : World} {K : PySem.W.Frag} {mg : Str → Option Value} {base : Heap} (Z : Fs K mg) :
    ∃ fd, FunD K d_check_more.name d_check_more.qual d_check_more.params d_check_more.body d_check_more.scope (d_check_more.dvs K) (d_check_more.kws K) (He.fAd K d_check_more.at_) fd ∧ FnOk P w K mg base (CX P w) 8 (He.fAd K d_check_more.at_) fd P_check_more (spM K (TT K) 2 f_check_more) ∧ Binds K fd P_check_more [] := by
  obtain ⟨fd, F⟩ := Z.says.def_ 40 (d := d_check_more) rfl
  obtain ⟨fd_is_size, F_is_size, O_is_size, B_is_size⟩ := ok_is_size (P := P) (w := w) (base := base) Z
  refine ⟨fd, F, fn_okX F sc_check_more fun cdv A outer s H Ex hr => ?_, F.bindsN fun _ _ _ _ _ _ us hl => match us, hl with | [_, _], _ => rfl⟩
  have hu := hr.units
  have tk := takes_of (X := cxOf (CX P w) P w K mg base N_check_more d_check_more.qual (defScope s_check_more) (He.fAd K d_check_more.at_) cdv A outer s H Ex) rfl rfl rfl rfl
  have hp := passes_of (X := cxOf (CX P w) P w K mg base N_check_more d_check_more.qual (defScope s_check_more) (He.fAd K d_check_more.at_) cdv A outer s H Ex) rfl
  unfold M_check_more
  exact pss_consX (ps_ifX (PW.pt (pw_orX (pt_notX (px_tst (px_calB (cl_isi Z.fx rfl) (Z.free 16) (px_cons (px_var 1) (px_cons (px_ty "tuple" (Z.free 7) rfl) px_nil))))) (pw_or1X (pt_notX (pt_ch cm_le cm_le px_int (px_calB cl_len (Z.free 3) (px_cons (px_var 1) px_nil)) (px_gInt 8 (Z.int 59)))))))
    (pss_oneX ps_no)
    (pss_nilX))
    (pss_oneX (ps_forX hp rfl (pi_enumX (Z.free 54) (px_cons (px_var 1) px_nil)) (pg_tup rfl (pgs_cons (pg_name (i := 2) sc_check_more.nd rfl (by first | exact Or.inl rfl | exact Or.inr rfl)) (pgs_cons (pg_name (i := 3) sc_check_more.nd rfl (by first | exact Or.inl rfl | exact Or.inr rfl)) pgs_nil))) (tr_tup 2 (trs_cons (tr_name 2) (trs_cons (tr_name 3) trs_nil)))
    (pss_oneX (ps_ifX (pt_notX (px_tst (px_call O_is_size (hr.mono (by decide)) (Z.glo 40) F_is_size.kp B_is_size .nil (fun _ _ => RepL.nil) tk (px_cons (px_var 3) px_nil))))
    (pss_oneX ps_no)
    (pss_nilX)))))
theorem ok_is_one_of {P : Program} {w : World} {K : PySem.W.Frag} {mg : Str → Option Value} {base : Heap} (Z : Fs K mg) :
    ∃ fd, FunD K d_is_one_of.name d_is_one_of.qual d_is_one_of.params d_is_one_of.body d_is_one_of.scope (d_is_one_of.dvs K) (d_is_one_of.kws K) (He.fAd K d_is_one_of.at_) fd ∧ FnOk P w K mg base (CX P w) 1 (He.fAd K d_is_one_of.at_) fd P_is_one_of (spM K (TT K) 2 f_is_one_of) ∧ Binds K fd P_is_one_of [] := by
  obtain ⟨fd, F⟩ := Z.says.def_ 41 (d := d_is_one_of) rfl
  refine ⟨fd, F, fn_okX F sc_is_one_of fun cdv A outer s H Ex hr => ?_, F.bindsN fun _ _ _ _ _ _ us hl => match us, hl with | [_, _], _ => rfl⟩
  have hu := hr.units
  have tk := takes_of (X := cxOf (CX P w) P w K mg base N_is_one_of d_is_one_of.qual (defScope s_is_one_of) (He.fAd K d_is_one_of.at_) cdv A outer s H Ex) rfl rfl rfl rfl
  have hp := passes_of (X := cxOf (CX P w) P w K mg base N_is_one_of d_is_one_of.qual (defScope s_is_one_of) (He.fAd K d_is_one_of.at_) cdv A outer s H Ex) rfl
  unfold M_is_one_of
  exact pss_oneX (ps_retX (px_andX (px_calB (cl_isi Z.fx rfl) (Z.free 16) (px_cons (px_var 0) (px_cons (px_ty "str" (Z.free 17) rfl) px_nil))) (px_oneX (px_cmp (cm_in hu) (px_var 0) (px_var 1) (by with_unfolding_all rfl)))))
theorem ok_Grid_init {P : Program} {w : World} {K : PySem.W.Frag} {mg : Str → Option Value} {base : Heap} (Z : Fs K mg) :
    ∃ fd, FunD K d_Grid_init.name d_Grid_init.qual d_Grid_init.params d_Grid_init.body d_Grid_init.scope (d_Grid_init.dvs K) (d_Grid_init.kws K) (He.fAd K d_Grid_init.at_) fd ∧ FnOk P w K mg base (CX P w) 13 (He.fAd K d_Grid_init.at_) fd P_Grid_init (spM K (TT K) 14 f_Grid_init) ∧ True := by
  obtain ⟨fd, F⟩ := Z.says.def_ 42 (d := d_Grid_init) rfl
  obtain ⟨fd_is_template, F_is_template, O_is_template, B_is_template⟩ := ok_is_template (P := P) (w := w) (base := base) Z
  obtain ⟨fd_check_fields, F_check_fields, O_check_fields, B_check_fields⟩ := ok_check_fields (P := P) (w := w) (base := base) Z
  obtain ⟨fd_check_more, F_check_more, O_check_more, B_check_more⟩ := ok_check_more (P := P) (w := w) (base := base) Z
  obtain ⟨fd_is_one_of, F_is_one_of, O_is_one_of, B_is_one_of⟩ := ok_is_one_of (P := P) (w := w) (base := base) Z
  obtain ⟨fd_is_fixed, F_is_fixed, O_is_fixed, B_is_fixed⟩ := ok_is_fixed (P := P) (w := w) (base := base) Z
  refine ⟨fd, F, fn_okX F sc_Grid_init fun cdv A outer s H Ex hr => ?_, trivial⟩
  have hu := hr.units
  have tk := takes_of (X := cxOf (CX P w) P w K mg base N_Grid_init d_Grid_init.qual (defScope s_Grid_init) (He.fAd K d_Grid_init.at_) cdv A outer s H Ex) rfl rfl rfl rfl
  have hp := passes_of (X := cxOf (CX P w) P w K mg base N_Grid_init d_Grid_init.qual (defScope s_Grid_init) (He.fAd K d_Grid_init.at_) cdv A outer s H Ex) rfl
  unfold M_Grid_init
  exact pss_consX (ps_forX hp rfl (pi_seqX (px_new (pf_lst (px_cons (px_tup (px_cons px_str (px_cons (px_var 1) px_nil))) (px_cons (px_tup (px_cons px_str (px_cons (px_var 2) px_nil))) px_nil))))) (pg_tup rfl (pgs_cons (pg_name (i := 14) sc_Grid_init.nd rfl (by first | exact Or.inl rfl | exact Or.inr rfl)) (pgs_cons (pg_name (i := 15) sc_Grid_init.nd rfl (by first | exact Or.inl rfl | exact Or.inr rfl)) pgs_nil))) (tr_tup 2 (trs_cons (tr_name 14) (trs_cons (tr_name 15) trs_nil)))
    (pss_oneX (ps_ifX (pt_notX (px_tst (px_call O_is_template (hr.mono (by decide)) (Z.glo 60) F_is_template.kp B_is_template .nil (fun _ _ => RepL.nil) tk (px_cons (px_var 15) px_nil))))
    (pss_oneX ps_no)
    (pss_nilX))))
    (pss_consX (ps_exprX (px_call O_check_fields (hr.mono (by decide)) (Z.glo 61) F_check_fields.kp B_check_fields .nil (fun _ _ => RepL.nil) tk (px_cons (px_var 3) px_nil)))
    (pss_consX (ps_exprX (px_call O_check_more (hr.mono (by decide)) (Z.glo 62) F_check_more.kp B_check_more .nil (fun _ _ => RepL.nil) tk (px_cons px_str (px_cons (px_var 4) px_nil))))
    (pss_consX (ps_exprX (px_call O_check_more (hr.mono (by decide)) (Z.glo 62) F_check_more.kp B_check_more .nil (fun _ _ => RepL.nil) tk (px_cons px_str (px_cons (px_var 5) px_nil))))
    (pss_consX (ps_ifX (pt_notX (px_tst (px_call O_is_one_of (hr.mono (by decide)) (Z.glo 63) F_is_one_of.kp B_is_one_of .nil (fun _ _ => RepL.nil) tk (px_cons (px_var 6) (px_cons (px_tup (px_cons px_str (px_cons px_str px_nil))) px_nil)))))
    (pss_oneX ps_no)
    (pss_nilX))
    (pss_consX (ps_ifX (pt_notX (px_tst (px_calB (cl_isi Z.fx rfl) (Z.free 16) (px_cons (px_var 7) (px_cons (px_ty "bool" (Z.free 25) rfl) px_nil)))))
    (pss_oneX ps_no)
    (pss_nilX))
    (pss_consX (ps_forX hp rfl (pi_seqX (px_new (pf_lst (px_cons (px_tup (px_cons px_str (px_cons (px_var 8) px_nil))) (px_cons (px_tup (px_cons px_str (px_cons (px_var 9) px_nil))) px_nil))))) (pg_tup rfl (pgs_cons (pg_name (i := 14) sc_Grid_init.nd rfl (by first | exact Or.inl rfl | exact Or.inr rfl)) (pgs_cons (pg_name (i := 16) sc_Grid_init.nd rfl (by first | exact Or.inl rfl | exact Or.inr rfl)) pgs_nil))) (tr_tup 2 (trs_cons (tr_name 14) (trs_cons (tr_name 16) trs_nil)))
    (pss_oneX (ps_ifX (pt_notX (px_tst (px_call O_is_fixed (hr.mono (by decide)) (Z.glo 35) F_is_fixed.kp B_is_fixed .nil (fun _ _ => RepL.nil) tk (px_cons (px_var 16) px_nil))))
    (pss_oneX ps_no)
    (pss_nilX))))
    (pss_consX (ps_forX hp rfl (pi_seqX (px_new (pf_lst (px_cons (px_tup (px_cons px_str (px_cons (px_var 10) px_nil))) (px_cons (px_tup (px_cons px_str (px_cons (px_var 11) px_nil))) px_nil))))) (pg_tup rfl (pgs_cons (pg_name (i := 14) sc_Grid_init.nd rfl (by first | exact Or.inl rfl | exact Or.inr rfl)) (pgs_cons (pg_name (i := 17) sc_Grid_init.nd rfl (by first | exact Or.inl rfl | exact Or.inr rfl)) pgs_nil))) (tr_tup 2 (trs_cons (tr_name 14) (trs_cons (tr_name 17) trs_nil)))
    (pss_oneX (ps_ifX (pt_notX (px_tst (px_call O_is_one_of (hr.mono (by decide)) (Z.glo 63) F_is_one_of.kp B_is_one_of .nil (fun _ _ => RepL.nil) tk (px_cons (px_var 17) (px_cons (px_gTup [.str "start", .str "end", .str "center", .str "stretch", .str "between", .str "around", .str "evenly"] (Z.glo 64) (Z.ex_ 2 rfl) rfl) px_nil)))))
    (pss_oneX ps_no)
    (pss_nilX))))
    (pss_consX (ps_ifX (pt_notX (px_tst (px_call O_is_one_of (hr.mono (by decide)) (Z.glo 63) F_is_one_of.kp B_is_one_of .nil (fun _ _ => RepL.nil) tk (px_cons (px_var 12) (px_cons (px_gTup [.str "start", .str "end", .str "center", .str "stretch"] (Z.glo 65) (Z.ex_ 3 rfl) rfl) px_nil)))))
    (pss_oneX ps_no)
    (pss_nilX))
    (pss_consX (ps_ifX (pt_notX (px_tst (px_call O_is_one_of (hr.mono (by decide)) (Z.glo 63) F_is_one_of.kp B_is_one_of .nil (fun _ _ => RepL.nil) tk (px_cons (px_var 13) (px_cons (px_bin bn_add (px_gTup [.str "start", .str "end", .str "center", .str "stretch"] (Z.glo 65) (Z.ex_ 3 rfl) rfl) (px_tup (px_cons px_str px_nil))) px_nil)))))
    (pss_oneX ps_no)
    (pss_nilX))
    (pss_consX (ps_put Z.fx rfl (px_var 0) (px_var 1))
    (pss_consX (ps_put Z.fx rfl (px_var 0) (px_var 2))
    (pss_consX (ps_put Z.fx rfl (px_var 0) (px_var 3))
    (pss_consX (ps_put Z.fx rfl (px_var 0) (px_var 4))
    (pss_consX (ps_put Z.fx rfl (px_var 0) (px_var 5))
    (pss_consX (ps_put Z.fx rfl (px_var 0) (px_var 6))
    (pss_consX (ps_put Z.fx rfl (px_var 0) (px_var 7))
    (pss_consX (ps_put Z.fx rfl (px_var 0) (px_var 8))
    (pss_consX (ps_put Z.fx rfl (px_var 0) (px_var 9))
    (pss_consX (ps_put Z.fx rfl (px_var 0) (px_var 10))
    (pss_consX (ps_put Z.fx rfl (px_var 0) (px_var 11))
    (pss_consX (ps_put Z.fx rfl (px_var 0) (px_var 12))
    (pss_oneX (ps_put Z.fx rfl (px_var 0) (px_var 13))))))))))))))))))))))))
theorem ok__law_made {P : Program} {w : World} {K : PySem.W.Frag} {mg : Str → Option Value} {base : Heap} (Z : Fs K mg) :
    ∃ fd, FunD K d__law_made.name d__law_made.qual d__law_made.params d__law_made.body d__law_made.scope (d__law_made.dvs K) (d__law_made.kws K) (He.fAd K d__law_made.at_) fd ∧ FnOk P w K mg base (CX P w) 15 (He.fAd K d__law_made.at_) fd P__law_made (spM K (TT K) 1 f__law_made) ∧ Binds K fd P__law_made [] := by
  obtain ⟨fd, F⟩ := Z.says.def_ 43 (d := d__law_made) rfl
  obtain ⟨fd_Grid_init, F_Grid_init, O_Grid_init, B_Grid_init⟩ := ok_Grid_init (P := P) (w := w) (base := base) Z
  refine ⟨fd, F, fn_okX F sc__law_made fun cdv A outer s H Ex hr => ?_, F.bindsN fun _ _ _ _ _ _ us hl => match us, hl with | [_], _ => rfl⟩
  have hu := hr.units
  have tk := takes_of (X := cxOf (CX P w) P w K mg base N__law_made d__law_made.qual (defScope s__law_made) (He.fAd K d__law_made.at_) cdv A outer s H Ex) rfl rfl rfl rfl
  have hp := passes_of (X := cxOf (CX P w) P w K mg base N__law_made d__law_made.qual (defScope s__law_made) (He.fAd K d__law_made.at_) cdv A outer s H Ex) rfl
  unfold M__law_made
  exact pss_oneX (ps_retX (px_makeK0 (ks := ["items_align", "items_justify", "align", "justify", "row_gap", "column_gap", "dense", "flow", "more_rows", "more_columns", "fields", "rows", "columns"]) (c := 1) (He.mkr_ok (Z.fact 67 rfl)) O_Grid_init (hr.mono (by decide)) (Z.glo 66) (kb_Grid_init_0_12_11_10_9_8_7_6_5_4_3_2_1_0 Z F_Grid_init) (mkr_I rfl) tk (pk_consD (px_ix (px_var 0) px_int) (pk_consD (px_ix (px_var 0) px_int) (pk_consD (px_ix (px_var 0) px_int) (pk_consD (px_ix (px_var 0) px_int) (pk_consD (px_ix (px_var 0) px_int) (pk_consD (px_ix (px_var 0) px_int) (pk_consD (px_ix (px_var 0) px_int) (pk_consD (px_ix (px_var 0) px_int) (pk_consD (px_ix (px_var 0) px_int) (pk_consD (px_ix (px_var 0) px_int) (pk_consD (px_ix (px_var 0) px_int) (pk_consD (px_ix (px_var 0) px_int) (pk_consD (px_ix (px_var 0) px_int) pk_nilD)))))))))))))))
theorem ok__law_parts {P : Program} {w : World} {K : PySem.W.Frag} {mg : Str → Option Value} {base : Heap} (Z : Fs K mg) :
    ∃ fd, FunD K d__law_parts.name d__law_parts.qual d__law_parts.params d__law_parts.body d__law_parts.scope (d__law_parts.dvs K) (d__law_parts.kws K) (He.fAd K d__law_parts.at_) fd ∧ FnOk P w K mg base (CX P w) 1 (He.fAd K d__law_parts.at_) fd P__law_parts (spM K (TT K) 1 f__law_parts) ∧ Binds K fd P__law_parts [] := by
  obtain ⟨fd, F⟩ := Z.says.def_ 44 (d := d__law_parts) rfl
  refine ⟨fd, F, fn_okX F sc__law_parts fun cdv A outer s H Ex hr => ?_, F.bindsN fun _ _ _ _ _ _ us hl => match us, hl with | [_], _ => rfl⟩
  have hu := hr.units
  have tk := takes_of (X := cxOf (CX P w) P w K mg base N__law_parts d__law_parts.qual (defScope s__law_parts) (He.fAd K d__law_parts.at_) cdv A outer s H Ex) rfl rfl rfl rfl
  have hp := passes_of (X := cxOf (CX P w) P w K mg base N__law_parts d__law_parts.qual (defScope s__law_parts) (He.fAd K d__law_parts.at_) cdv A outer s H Ex) rfl
  unfold M__law_parts
  exact pss_consX (ps_setX 1 (px_new (pf_lst (px_cons (px_attr Z.fx rfl (px_var 0)) (px_cons (px_attr Z.fx rfl (px_var 0)) (px_cons (px_attr Z.fx rfl (px_var 0)) (px_cons (px_attr Z.fx rfl (px_var 0)) (px_cons (px_attr Z.fx rfl (px_var 0)) (px_cons (px_attr Z.fx rfl (px_var 0)) (px_cons (px_attr Z.fx rfl (px_var 0)) px_nil))))))))) sc__law_parts.nd)
    (pss_consX (ps_setX 1 (px_new (pf_cat (px_var 1) (px_new (pf_lst (px_cons (px_attr Z.fx rfl (px_var 0)) (px_cons (px_attr Z.fx rfl (px_var 0)) (px_cons (px_attr Z.fx rfl (px_var 0)) (px_cons (px_attr Z.fx rfl (px_var 0)) px_nil)))))))) sc__law_parts.nd)
    (pss_oneX (ps_retX (px_new (pf_cat (px_var 1) (px_new (pf_lst (px_cons (px_attr Z.fx rfl (px_var 0)) (px_cons (px_attr Z.fx rfl (px_var 0)) px_nil)))))))))
theorem ok_Grid_all_parts {P : Program} {w : World} {K : PySem.W.Frag} {mg : Str → Option Value} {base : Heap} (Z : Fs K mg) :
    ∃ fd, FunD K d_Grid_all_parts.name d_Grid_all_parts.qual d_Grid_all_parts.params d_Grid_all_parts.body d_Grid_all_parts.scope (d_Grid_all_parts.dvs K) (d_Grid_all_parts.kws K) (He.fAd K d_Grid_all_parts.at_) fd ∧ FnOk P w K mg base (CX P w) 1 (He.fAd K d_Grid_all_parts.at_) fd P_Grid_all_parts (spM K (TT K) 1 f_Grid_all_parts) ∧ Binds K fd P_Grid_all_parts [] := by
  obtain ⟨fd, F⟩ := Z.says.def_ 45 (d := d_Grid_all_parts) rfl
  refine ⟨fd, F, fn_okX F sc_Grid_all_parts fun cdv A outer s H Ex hr => ?_, F.bindsN fun _ _ _ _ _ _ us hl => match us, hl with | [_], _ => rfl⟩
  have hu := hr.units
  have tk := takes_of (X := cxOf (CX P w) P w K mg base N_Grid_all_parts d_Grid_all_parts.qual (defScope s_Grid_all_parts) (He.fAd K d_Grid_all_parts.at_) cdv A outer s H Ex) rfl rfl rfl rfl
  have hp := passes_of (X := cxOf (CX P w) P w K mg base N_Grid_all_parts d_Grid_all_parts.qual (defScope s_Grid_all_parts) (He.fAd K d_Grid_all_parts.at_) cdv A outer s H Ex) rfl
  unfold M_Grid_all_parts
  exact pss_consX (ps_setX 1 (px_tup (px_cons (px_attr Z.fx rfl (px_var 0)) (px_cons (px_attr Z.fx rfl (px_var 0)) (px_cons (px_attr Z.fx rfl (px_var 0)) (px_cons (px_attr Z.fx rfl (px_var 0)) (px_cons (px_attr Z.fx rfl (px_var 0)) (px_cons (px_attr Z.fx rfl (px_var 0)) (px_cons (px_attr Z.fx rfl (px_var 0)) px_nil)))))))) sc_Grid_all_parts.nd)
    (pss_consX (ps_setX 2 (px_tup (px_cons (px_attr Z.fx rfl (px_var 0)) (px_cons (px_attr Z.fx rfl (px_var 0)) (px_cons (px_attr Z.fx rfl (px_var 0)) (px_cons (px_attr Z.fx rfl (px_var 0)) (px_cons (px_attr Z.fx rfl (px_var 0)) (px_cons (px_attr Z.fx rfl (px_var 0)) px_nil))))))) sc_Grid_all_parts.nd)
    (pss_oneX (ps_retX (px_bin bn_add (px_var 1) (px_var 2)))))
theorem ok_Grid_eq {P : Program} {w : World} {K : PySem.W.Frag} {mg : Str → Option Value} {base : Heap} (Z : Fs K mg) :
    ∃ fd, FunD K d_Grid_eq.name d_Grid_eq.qual d_Grid_eq.params d_Grid_eq.body d_Grid_eq.scope (d_Grid_eq.dvs K) (d_Grid_eq.kws K) (He.fAd K d_Grid_eq.at_) fd ∧ FnOk P w K mg base (CX P w) 2 (He.fAd K d_Grid_eq.at_) fd P_Grid_eq (spM K (TT K) 2 f_Grid_eq) ∧ Binds K fd P_Grid_eq [] := by
  obtain ⟨fd, F⟩ := Z.says.def_ 46 (d := d_Grid_eq) rfl
  obtain ⟨fd_Grid_all_parts, F_Grid_all_parts, O_Grid_all_parts, B_Grid_all_parts⟩ := ok_Grid_all_parts (P := P) (w := w) (base := base) Z
  refine ⟨fd, F, fn_okX F sc_Grid_eq fun cdv A outer s H Ex hr => ?_, F.bindsN fun _ _ _ _ _ _ us hl => match us, hl with | [_, _], _ => rfl⟩
  have hu := hr.units
  have tk := takes_of (X := cxOf (CX P w) P w K mg base N_Grid_eq d_Grid_eq.qual (defScope s_Grid_eq) (He.fAd K d_Grid_eq.at_) cdv A outer s H Ex) rfl rfl rfl rfl
  have hp := passes_of (X := cxOf (CX P w) P w K mg base N_Grid_eq d_Grid_eq.qual (defScope s_Grid_eq) (He.fAd K d_Grid_eq.at_) cdv A outer s H Ex) rfl
  unfold M_Grid_eq
  exact pss_oneX (ps_retX (px_andX (px_calB (cl_isi Z.fx rfl) (Z.free 16) (px_cons (px_var 1) (px_cons (px_cls 1 (Z.glo 66)) px_nil))) (px_oneX (px_cmp (cm_eq hu) (px_meth0 Z.fx rfl O_Grid_all_parts (hr.mono (by decide)) (He.meth_ok (Z.fact 68 rfl)) B_Grid_all_parts .nil (fun _ _ => RepL.nil) tk (px_var 0) _) (px_meth0 Z.fx rfl O_Grid_all_parts (hr.mono (by decide)) (He.meth_ok (Z.fact 68 rfl)) B_Grid_all_parts .nil (fun _ _ => RepL.nil) tk (px_var 1) _)))))
theorem ok__law_right {P : Program} {w : World} {K : PySem.W.Frag} {mg : Str → Option Value} {base : Heap} (Z : Fs K mg) :
    ∃ fd, FunD K d__law_right.name d__law_right.qual d__law_right.params d__law_right.body d__law_right.scope (d__law_right.dvs K) (d__law_right.kws K) (He.fAd K d__law_right.at_) fd ∧ FnOk P w K mg base (CX P w) 16 (He.fAd K d__law_right.at_) fd P__law_right (spM K (TT K) 1 f__law_right) ∧ Binds K fd P__law_right [] := by
  obtain ⟨fd, F⟩ := Z.says.def_ 47 (d := d__law_right) rfl
  obtain ⟨fd__law_values, F__law_values, O__law_values, B__law_values⟩ := ok__law_values (P := P) (w := w) (base := base) Z
  obtain ⟨fd__law_made, F__law_made, O__law_made, B__law_made⟩ := ok__law_made (P := P) (w := w) (base := base) Z
  obtain ⟨fd__law_parts, F__law_parts, O__law_parts, B__law_parts⟩ := ok__law_parts (P := P) (w := w) (base := base) Z
  obtain ⟨fd_Grid_eq, F_Grid_eq, O_Grid_eq, B_Grid_eq⟩ := ok_Grid_eq (P := P) (w := w) (base := base) Z
  obtain ⟨fd_Grid_init, F_Grid_init, O_Grid_init, B_Grid_init⟩ := ok_Grid_init (P := P) (w := w) (base := base) Z
  refine ⟨fd, F, fn_okX F sc__law_right fun cdv A outer s H Ex hr => ?_, F.bindsN fun _ _ _ _ _ _ us hl => match us, hl with | [_], _ => rfl⟩
  have hu := hr.units
  have tk := takes_of (X := cxOf (CX P w) P w K mg base N__law_right d__law_right.qual (defScope s__law_right) (He.fAd K d__law_right.at_) cdv A outer s H Ex) rfl rfl rfl rfl
  have hp := passes_of (X := cxOf (CX P w) P w K mg base N__law_right d__law_right.qual (defScope s__law_right) (He.fAd K d__law_right.at_) cdv A outer s H Ex) rfl
  unfold M__law_right
  exact pss_consX (ps_parX 1 2 rfl sc__law_right.nd (px_call O__law_values (hr.mono (by decide)) (Z.glo 69) F__law_values.kp B__law_values .nil (fun _ _ => RepL.nil) tk (px_cons (px_var 0) px_nil)) (px_call O__law_values (hr.mono (by decide)) (Z.glo 69) F__law_values.kp B__law_values .nil (fun _ _ => RepL.nil) tk (px_cons (px_var 0) px_nil)) (fun _ h => ps_par rfl sc__law_right.nd rfl rfl (by decide) rfl rfl h rfl))
    (pss_consX (ps_setX 3 (px_call O__law_made (hr.mono (by decide)) (Z.glo 70) F__law_made.kp B__law_made .nil (fun _ _ => RepL.nil) tk (px_cons (px_var 1) px_nil)) sc__law_right.nd)
    (pss_consX (ps_ifX (PW.pt (pw_orX (pt_cm (cm_ne hu) (px_call O__law_parts (hr.mono (by decide)) (Z.glo 71) F__law_parts.kp B__law_parts .nil (fun _ _ => RepL.nil) tk (px_cons (px_var 3) px_nil)) (px_var 1)) (pw_orX (pt_cm (cm_notIn hu) (px_attr Z.fx rfl (px_var 3)) (px_tup (px_cons px_bl (px_cons px_bl px_nil))) (by with_unfolding_all rfl)) (pw_or1X (pt_cmpS (cs_ne rfl Z.fx hu O_Grid_eq (hr.mono (by decide)) rfl (eqF_ok 1 (Z.ex_ 9 rfl)) B_Grid_eq) (px_var 3) (px_call O__law_made (hr.mono (by decide)) (Z.glo 70) F__law_made.kp B__law_made .nil (fun _ _ => RepL.nil) tk (px_cons (px_new (pf_list (Z.free 12) (px_cons (px_var 1) px_nil))) px_nil)))))))
    (pss_oneX (ps_retX px_bl))
    (pss_nilX))
    (pss_consX (ps_forX hp rfl (pi_range1X (Z.free 8) (px_cons px_int px_nil)) (pg_name (i := 4) sc__law_right.nd rfl (by first | exact Or.inl rfl | exact Or.inr rfl)) (tr_name 4)
    (pss_consX (ps_setX 5 (px_new (pf_cat (px_new (pf_cat (px_new (pf_slice (px_var 1) po_noneX (po_someX (px_var 4)))) (px_new (pf_lst (px_cons (px_ix (px_var 2) (px_var 4)) px_nil))))) (px_new (pf_slice (px_var 1) (po_someX (px_bin bn_add (px_var 4) px_int)) po_noneX)))) sc__law_right.nd)
    (pss_oneX (ps_ifX (PW.pt (pw_orX (pt_cm (cm_ne hu) (px_cmpS (cs_eq rfl Z.fx hu O_Grid_eq (hr.mono (by decide)) (eqF_ok 1 (Z.ex_ 9 rfl)) B_Grid_eq) (px_var 3) (px_call O__law_made (hr.mono (by decide)) (Z.glo 70) F__law_made.kp B__law_made .nil (fun _ _ => RepL.nil) tk (px_cons (px_var 5) px_nil))) (px_cmp (cm_eq hu) (px_ix (px_var 1) (px_var 4)) (px_ix (px_var 2) (px_var 4)))) (pw_or1X (pt_cmpS (cs_eq rfl Z.fx hu O_Grid_eq (hr.mono (by decide)) (eqF_ok 1 (Z.ex_ 9 rfl)) B_Grid_eq) (px_var 3) (px_var 5)))))
    (pss_oneX (ps_retX px_bl))
    (pss_nilX)))))
    (pss_consX (ps_setX 6 (px_new (pf_rep (px_new (pf_lst (px_cons px_str px_nil))) px_int)) sc__law_right.nd)
    (pss_consX (ps_ifX (pt_cm (cm_ne hu) (px_call O__law_parts (hr.mono (by decide)) (Z.glo 71) F__law_parts.kp B__law_parts .nil (fun _ _ => RepL.nil) tk (px_cons (px_make0 (c := 1) (He.mkr_ok (Z.fact 67 rfl)) O_Grid_init (hr.mono (by decide)) (Z.glo 66) (kb_Grid_init_0_z Z F_Grid_init) (mkr_I rfl) tk) px_nil)) (px_new (pf_cat (px_new (pf_lst (px_cons (px_tup px_nil) (px_cons (px_tup px_nil) (px_cons (px_tup px_nil) (px_cons (px_tup (px_cons px_str px_nil)) (px_cons (px_tup (px_cons px_str px_nil)) (px_cons px_str (px_cons px_bl (px_cons px_int (px_cons px_int px_nil))))))))))) (px_var 6))))
    (pss_oneX (ps_retX px_bl))
    (pss_nilX))
    (pss_oneX (ps_retX (px_cmp (cm_eq hu) (px_call O__law_parts (hr.mono (by decide)) (Z.glo 71) F__law_parts.kp B__law_parts .nil (fun _ _ => RepL.nil) tk (px_cons (px_makeP (c := 1) (He.mkr_ok (Z.fact 67 rfl)) O_Grid_init (hr.mono (by decide)) (Z.glo 66) (kb_Grid_init_2_z Z F_Grid_init) (mkr_I rfl) tk (px_cons (px_ix (px_var 1) px_int) (px_cons (px_ix (px_var 1) px_int) px_nil))) px_nil)) (px_new (pf_cat (px_new (pf_slice (px_var 1) po_noneX (po_someX px_int))) (px_new (pf_slice (px_call O__law_parts (hr.mono (by decide)) (Z.glo 71) F__law_parts.kp B__law_parts .nil (fun _ _ => RepL.nil) tk (px_cons (px_make0 (c := 1) (He.mkr_ok (Z.fact 67 rfl)) O_Grid_init (hr.mono (by decide)) (Z.glo 66) (kb_Grid_init_0_z Z F_Grid_init) (mkr_I rfl) tk) px_nil)) (po_someX px_int) po_noneX))))))))))))
theorem ok_law {P : Program} {w : World} {K : PySem.W.Frag} {mg : Str → Option Value} {base : Heap} (Z : Fs K mg) :
    ∃ fd, FunD K d_law.name d_law.qual d_law.params d_law.body d_law.scope (d_law.dvs K) (d_law.kws K) (He.fAd K d_law.at_) fd ∧ FnOk P w K mg base (CX P w) 17 (He.fAd K d_law.at_) fd P_law (spM K (TT K) 1 f_law) ∧ Binds K fd P_law [] := by
  obtain ⟨fd, F⟩ := Z.says.def_ 48 (d := d_law) rfl
  obtain ⟨fd__law_right, F__law_right, O__law_right, B__law_right⟩ := ok__law_right (P := P) (w := w) (base := base) Z
  refine ⟨fd, F, fn_okX F sc_law fun cdv A outer s H Ex hr => ?_, F.bindsN fun _ _ _ _ _ _ us hl => match us, hl with | [_], _ => rfl⟩
  have hu := hr.units
  have tk := takes_of (X := cxOf (CX P w) P w K mg base N_law d_law.qual (defScope s_law) (He.fAd K d_law.at_) cdv A outer s H Ex) rfl rfl rfl rfl
  have hp := passes_of (X := cxOf (CX P w) P w K mg base N_law d_law.qual (defScope s_law) (He.fAd K d_law.at_) cdv A outer s H Ex) rfl
  unfold M_law
  exact pss_consX (ps_forX hp rfl (pi_enumX (Z.free 54) (px_cons (px_new (pf_slice (px_new (pf_cat (px_var 0) (px_new (pf_lst (px_cons px_int px_nil))))) po_noneX (po_someX px_int))) px_nil)) (pg_tup rfl (pgs_cons (pg_name (i := 1) sc_law.nd rfl (by first | exact Or.inl rfl | exact Or.inr rfl)) (pgs_cons (pg_name (i := 2) sc_law.nd rfl (by first | exact Or.inl rfl | exact Or.inr rfl)) pgs_nil))) (tr_tup 2 (trs_cons (tr_name 1) (trs_cons (tr_name 2) trs_nil)))
    (pss_consX (ps_cellX 3 (pf_lst (px_cons (px_bin bn_mul (px_var 2) (px_calT cl_int (Z.free 1) (px_cons (px_cmp cm_ge (px_var 2) (px_bin bn_pow px_int px_int)) px_nil))) (px_cons (px_bin bn_add (px_bin bn_mod (px_calT cl_int (Z.free 1) (px_cons (px_var 2) px_nil)) px_int) (px_bin bn_mul px_int (px_var 1))) (px_cons px_int px_nil)))) sc_law.nd)
    (pss_oneX (ps_ifX (pt_notX (px_tst (px_call O__law_right (hr.mono (by decide)) (Z.glo 72) F__law_right.kp B__law_right .nil (fun _ _ => RepL.nil) tk (px_cons (px_var 3) px_nil))))
    (pss_oneX (ps_retX px_bl))
    (pss_nilX)))))
    (pss_oneX (ps_retX px_bl))
end PL.k05

namespace PL.k05
open PySem PL

def Wl (i : Nat) (st : List Cell) : Prop := ∃ a b c : Int, st[i]? = some (.lst [.int a, .int b, .int c])
theorem Wl.lt {i : Nat} {st : List Cell} (h : Wl i st) : i < st.length := by
  obtain ⟨a, b, c, e⟩ := h
  exact (List.getElem?_eq_some_iff.mp e).1
theorem Wl.set {i : Nat} {st : List Cell} (h : i < st.length) (a b c : Int) : Wl i (st.set i (.lst [.int a, .int b, .int c])) := ⟨a, b, c, by rw [List.getElem?_set_self h]⟩
abbrev RD (k : Int) : M D := bd (varM 0) fun x => bd (ret (.int k)) fun i => rdM fun st => ixM st x i
theorem rd_eq {i : Nat} {st : List Cell} {l : List D} (e : st[i]? = some (.lst l)) {k : Int} {v : D} (hk : L2.atI l k = some v) (sl : List Slot) : RD k ⟨.val (.cell i) :: sl, st⟩ = .ok v ⟨.val (.cell i) :: sl, st⟩ := by
  show opt ((lstOf st (.cell i)).bind fun ds => L2.atI ds k) _ = _
  have hx : lstOf st (.cell i) = some l := by unfold lstOf; dsimp only; rw [e]; rfl
  rw [hx]
  show opt (L2.atI l k) _ = _
  rw [hk]
  rfl
theorem sub_eq {i : Nat} {st : List Cell} {l : List D} (e : st[i]? = some (.lst l)) {k : Int} {j : Nat} (hk : L2.ixN l.length k = some j) {m : M D} {v : D} {sl : List Slot} (hm : m ⟨.val (.cell i) :: sl, st⟩ = .ok v ⟨.val (.cell i) :: sl, st⟩) :
    subC (varM 0) (ret (.int k)) m ⟨.val (.cell i) :: sl, st⟩ = .ok .nx ⟨.val (.cell i) :: sl, st.set i (.lst (l.set j v))⟩ := by
  have hv : varM 0 ⟨.val (.cell i) :: sl, st⟩ = .ok (.cell i) ⟨.val (.cell i) :: sl, st⟩ := rfl
  unfold subC bd
  rw [hm]
  simp only [bind_ok]
  rw [hv]
  simp only [bind_ok, ret]
  rw [e]
  dsimp only
  rw [hk]
theorem op_eq {f : D → D → Option D} {m n : M D} {a : AS} {x y z : D} (h1 : m a = .ok x a) (h2 : n a = .ok y a) (h : f x y = some z) : opM f m n a = .ok z a := by
  unfold opM bd
  rw [h1]
  show (n a).bind _ = _
  rw [h2]
  show opt (f x y) a = _
  rw [h]
  rfl
theorem int_eq {m : M D} {a : AS} {k : Int} (h1 : m a = .ok (.int k) a) : calM intM (consM m nilM) a = .ok (.int k) a := by
  unfold calM consM bd
  rw [h1]
  rfl
theorem seq_eq {m n : M Fl} {a a' : AS} {o : Out Fl} (h1 : m a = .ok .nx a') (h : n a' = o) : seqM m n a = o := by
  unfold seqM
  rw [h1]
  exact h
theorem seq_ret {m n : M Fl} {a a' : AS} {d : D} (h1 : m a = .ok (.ret d) a') : seqM m n a = .ok (.ret d) a' := by
  unfold seqM
  rw [h1]
theorem set_eq {i : Nat} {m : M D} {a : AS} {d : D} (h : m a = .ok d a) : setM i m a = .ok .nx ⟨a.sl.set i (.val d), a.st⟩ := by
  unfold setM bd
  rw [h]
  rfl
theorem set_eq' {i : Nat} {m : M D} {a a' : AS} {d : D} (h : m a = .ok d a') : setM i m a = .ok .nx ⟨a'.sl.set i (.val d), a'.st⟩ := by
  unfold setM bd
  rw [h]
  rfl
theorem if_eq {α : Type} {c : M Bool} {m n : M α} {a a' : AS} {b : Bool} {o : Out α} (h : c a = .ok b a') (k : (if b = true then m else n) a' = o) : ifM c m n a = o := by
  unfold ifM bd
  rw [h]
  exact k
theorem op2_eq {f : D → D → Option Bool} {m n : M D} {a : AS} {x y : D} {z : Bool} (h1 : m a = .ok x a) (h2 : n a = .ok y a) (h : f x y = some z) : op2 f m n a = .ok z a := by
  unfold op2 bd
  rw [h1]
  show (n a).bind _ = _
  rw [h2]
  show opt (f x y) a = _
  rw [h]
  rfl
theorem ret_eq {m : M D} {a a' : AS} {d : D} (h : m a = .ok d a') : retM m a = .ok (.ret d) a' := by
  unfold retM bd
  rw [h]
  rfl
theorem mod_some {i j : Int} (h : 0 < j) : modM (.int i) (.int j) = some (.int (i % j)) := by unfold modM; dsimp only; rw [if_pos (decide_eq_true h)]
theorem fdiv_some {i j : Int} (h : 0 < j) (h2 : j < 2 ^ 64) : fdivM (.int i) (.int j) = some (.int (i / j)) := by
  unfold fdivM
  dsimp only
  have : j.natAbs.log2 < 9000 := by
    have hj : j.natAbs < 2 ^ 64 := by omega
    have h0 : j.natAbs ≠ 0 := by omega
    exact Nat.lt_trans ((Nat.log2_lt h0).mpr hj) (by decide)
  rw [decide_eq_true h, decide_eq_true this]
  rfl
theorem mul_some {i j : Int} (h : -(2 ^ 64) < j ∧ j < 2 ^ 64) : mulM (.int i) (.int j) = some (.int (i * j)) := by
  unfold mulM mulOk
  dsimp only
  rw [decide_eq_true h, Bool.or_true, Bool.true_or]
  rfl
theorem mul_some' {i j : Int} (h : -(2 ^ 64) < i ∧ i < 2 ^ 64) : mulM (.int i) (.int j) = some (.int (i * j)) := by
  unfold mulM mulOk
  dsimp only
  rw [decide_eq_true h, Bool.true_or, Bool.true_or]
  rfl
theorem draw_ok {i : Nat} {st : List Cell} {m : Int} (h : Wl i st) (hm : 0 < m) (hm2 : m < 1000) : OkF f__law_draw [.cell i, .int m] st fun d st' => ∃ r, d = .int r ∧ 0 ≤ r ∧ r < m ∧ Wl i st' := by
  obtain ⟨a, b, c, e⟩ := h
  have hl : i < st.length := (List.getElem?_eq_some_iff.mp e).1
  have md : ∀ x : Int, 0 ≤ x % m ∧ x % m < m := fun x => ⟨Int.emod_nonneg _ (by omega), Int.emod_lt_of_pos _ hm⟩
  by_cases ha : 0 < a
  · refine ⟨.int (a % m), ⟨[.val (.cell i), .val (.int m), .val (.int (a % m)), .emp], st.set i (.lst [.int (a / m), .int b, .int c])⟩, ?_, _, rfl, (md a).1, (md a).2, Wl.set hl _ _ _⟩
    show finish (M__law_draw ⟨[.val (.cell i), .val (.int m), .emp, .emp], st⟩) = _
    have : M__law_draw ⟨[.val (.cell i), .val (.int m), .emp, .emp], st⟩ = .ok (.ret (.int (a % m))) ⟨[.val (.cell i), .val (.int m), .val (.int (a % m)), .emp], st.set i (.lst [.int (a / m), .int b, .int c])⟩ := by
      unfold M__law_draw
      refine seq_ret (if_eq (op2_eq (rd_eq e rfl _) rfl (by show some (decide (0 < a)) = _; rw [decide_eq_true ha])) ?_)
      rw [if_pos rfl]
      refine seq_eq (set_eq (op_eq (int_eq (rd_eq e rfl _)) rfl (mod_some hm))) ?_
      exact seq_eq (sub_eq e rfl (op_eq (rd_eq e rfl _) rfl (fdiv_some hm (by omega)))) rfl
    rw [this]
    rfl
  · have e' : ∀ l, (st.set i (.lst l))[i]? = some (.lst l) := fun l => by rw [List.getElem?_set_self hl]
    have bnd : ∀ x y : Int, 0 < y → y < 2 ^ 40 → ∀ k z : Int, 0 < k → 0 ≤ z → z < 2 ^ 40 → -(2 ^ 64) < x % y / k + z ∧ x % y / k + z < 2 ^ 64 := fun x y hy hy2 k z hk hz hz2 => by
      have h1 := Int.emod_nonneg x (show y ≠ 0 by omega)
      have h2 := Int.emod_lt_of_pos x hy
      have h3 : 0 ≤ x % y / k := Int.ediv_nonneg h1 (by omega)
      have h4 : x % y / k ≤ x % y := Int.ediv_le_self _ h1
      omega
    obtain ⟨sl, r, this⟩ : ∃ (sl : List Slot) (r : Int), M__law_draw ⟨[.val (.cell i), .val (.int m), .emp, .emp], st⟩ = .ok (.ret (.int (r % m))) ⟨sl, st.set i (.lst [.int a, .int b, .int (c + 1)])⟩ := by
      unfold M__law_draw
      apply Exists.intro
      apply Exists.intro
      refine seq_eq (if_eq (op2_eq (rd_eq e rfl _) rfl (by show some (decide (0 < a)) = _; rw [decide_eq_false ha])) (by rw [if_neg Bool.false_ne_true]; rfl)) ?_
      refine seq_eq (sub_eq e rfl (op_eq (rd_eq e rfl _) rfl rfl)) ?_
      refine seq_eq (set_eq (op_eq (int_eq (op_eq (op_eq (op_eq (rd_eq (e' _) rfl _) (op_eq rfl (rd_eq (e' _) rfl _) (mul_some' (by decide))) rfl) rfl rfl) rfl (mul_some (by decide)))) rfl (mod_some (by decide)))) ?_
      refine seq_eq (set_eq (op_eq (int_eq (op_eq rfl (op_eq (op_eq rfl rfl (fdiv_some (by decide) (by decide))) rfl rfl) (mul_some (bnd _ _ (by decide) (by decide) _ _ (by decide) (by decide) (by decide))))) rfl (mod_some (by decide)))) ?_
      exact ret_eq (op_eq (int_eq (op_eq (int_eq (op_eq rfl (op_eq (op_eq rfl rfl (fdiv_some (by decide) (by decide))) rfl rfl) (mul_some (bnd _ _ (by decide) (by decide) _ _ (by decide) (by decide) (by decide))))) rfl (mod_some (by decide)))) rfl (mod_some hm))
    exact ⟨.int (r % m), ⟨sl, _⟩, by show finish (M__law_draw ⟨[.val (.cell i), .val (.int m), .emp, .emp], st⟩) = _; rw [this]; rfl, _, rfl, (md r).1, (md r).2, Wl.set hl a b (c + 1)⟩
theorem bd_eq {α β : Type} {m : M α} {f : α → M β} {a a' : AS} {x : α} {o : Out β} (h : m a = .ok x a') (k : f x a' = o) : bd m f a = o := by
  unfold bd
  rw [h]
  exact k
theorem cons_eq {m : M D} {ms : M (List D)} {a a1 a2 : AS} {x : D} {xs : List D} (h : m a = .ok x a1) (k : ms a1 = .ok xs a2) : consM m ms a = .ok (x :: xs) a2 := bd_eq h (bd_eq k rfl)
theorem nil_eq {a : AS} : nilM a = .ok [] a := rfl
theorem callM_eq {np : Nat} {f : FD} {ds : List D} {sl : List Slot} {st : List Cell} {d : D} {a' : AS} (h : ds.length = np) (k : f ds st = .ok d a') : callM np f ds ⟨sl, st⟩ = .ok d ⟨sl, a'.st⟩ := by
  unfold callM
  rw [if_pos h]
  dsimp only
  rw [k]
theorem callA_eq {np : Nat} {f : FD} {dds : List D} {ms : M (List D)} {a : AS} {xs : List D} {sl : List Slot} {st : List Cell} {d : D} {a' : AS} (h : ms a = .ok xs ⟨sl, st⟩) (hl : (xs ++ dds).length = np) (k : f (xs ++ dds) st = .ok d a') : callA np f dds ms a = .ok d ⟨sl, a'.st⟩ := bd_eq h (callM_eq hl k)
theorem cal_eq {f : List Cell → List D → Option D} {ms : M (List D)} {a a' : AS} {xs : List D} {d : D} (h : ms a = .ok xs a') (k : f a'.st xs = some d) : calM f ms a = .ok d a' := bd_eq h (by show opt (f a'.st xs) a' = _; rw [k]; rfl)
theorem ix_eq {m n : M D} {a a1 a2 : AS} {x v : D} {k : Int} (h : m a = .ok x a1) (h2 : n a1 = .ok (.int k) a2) (hv : ixM a2.st x (.int k) = some v) : (bd m fun x => bd n fun i => rdM fun st => ixM st x i) a = .ok v a2 :=
  bd_eq h (bd_eq h2 (by show opt (ixM a2.st x (.int k)) a2 = _; rw [hv]; rfl))
theorem fin_eq {n : Nat} {m : M Fl} {ds : List D} {st : List Cell} {d : D} {a' : AS} (h : m (fram n ds st) = .ok (.ret d) a') : mkF n m ds st = .ok d a' := by
  unfold mkF
  rw [h]
  rfl
theorem at_mem {l : List D} {k : Int} (h0 : 0 ≤ k) (h1 : k < l.length) : ∃ v, L2.atI l k = some v ∧ v ∈ l := by
  have hk : k.toNat < l.length := by omega
  refine ⟨l[k.toNat], ?_, List.getElem_mem hk⟩
  unfold L2.atI L2.ixN
  rw [if_pos h0, if_pos h1]
  exact List.getElem?_eq_getElem hk
theorem one_ok {i : Nat} {st : List Cell} {ds : List D} (h : Wl i st) (hd : 0 < ds.length) (hd2 : ds.length < 1000) : OkF f__law_one [.cell i, .lst ds] st fun d st' => d ∈ ds ∧ Wl i st' := by
  obtain ⟨_, a1, e1, r, rfl, h0, h1, w1⟩ := draw_ok h (m := ds.length) (by omega) (by omega)
  obtain ⟨v, hv, hm⟩ := at_mem h0 h1
  refine ⟨v, _, fin_eq (ret_eq (ix_eq rfl (callA_eq (cons_eq rfl (cons_eq (cal_eq (cons_eq rfl rfl) rfl) rfl)) rfl e1) ?_)), hm, w1⟩
  exact hv
theorem draw_at {i : Nat} {st : List Cell} {m : Int} (h : Wl i st) (hm : 0 < m) (hm2 : m < 1000) : ∃ (r : Int) (st' : List Cell), 0 ≤ r ∧ r < m ∧ Wl i st' ∧ ∀ sl, callA 2 f__law_draw [] (consM (varM 0) (consM (ret (.int m)) nilM)) ⟨.val (.cell i) :: sl, st⟩ = .ok (.int r) ⟨.val (.cell i) :: sl, st'⟩ := by
  obtain ⟨_, a1, e1, r, rfl, h0, h1, w1⟩ := draw_ok h hm hm2
  exact ⟨r, a1.st, h0, h1, w1, fun sl => callA_eq (cons_eq rfl (cons_eq rfl rfl)) rfl e1⟩

inductive Len : D → Prop where
  | int {i : Int} (h : 0 ≤ i) : Len (.int i)
  | h12 : Len (.tup [.int 1, .int 2])
  | h13 : Len (.tup [.int 1, .int 3])
inductive Fix : D → Prop where
  | len {d : D} (h : Len d) : Fix d
  | part {d : D} (h : Len d) : Fix (.tup [.str "part", d])
theorem fixed_ok {i : Nat} {st : List Cell} (h : Wl i st) : OkF f__law_fixed [.cell i] st fun d st' => Fix d ∧ Wl i st' := by
  obtain ⟨r, st1, h0, h1, w1, e1⟩ := draw_at h (m := 80) (by decide) (by decide)
  obtain ⟨k, st2, k0, k1, w2, e2⟩ := draw_at w1 (m := 10) (by decide) (by decide)
  obtain ⟨v, hv, hm⟩ := at_mem (l := [.int 0, .int 10, .int 25, .tup [.int 1, .int 2], .int 100, .int r, .tup [.str "part", .tup [.int 1, .int 2]], .tup [.str "part", .tup [.int 1, .int 3]], .tup [.str "part", .int 0], .tup [.str "part", .int 1]]) k0 k1
  refine ⟨v, _, fin_eq (seq_eq (set_eq' (bd_eq (bd_eq (cons_eq rfl (cons_eq rfl (cons_eq rfl (cons_eq rfl (cons_eq rfl (cons_eq (e1 _) rfl)))))) rfl) rfl)) (ret_eq (ix_eq rfl (e2 _) hv))), ?_, w2⟩
  simp only [List.mem_cons, List.not_mem_nil, or_false] at hm
  rcases hm with rfl | rfl | rfl | rfl | rfl | rfl | rfl | rfl | rfl | rfl
  · exact .len (.int (by decide))
  · exact .len (.int (by decide))
  · exact .len (.int (by decide))
  · exact .len .h12
  · exact .len (.int (by decide))
  · exact .len (.int h0)
  · exact .part .h12
  · exact .part .h13
  · exact .part (.int (by decide))
  · exact .part (.int (by decide))
theorem call1 {f : FD} {d : D} {i : Nat} {st st' : List Cell} {sl0 : List Slot} (e : f [.cell i] st = .ok d ⟨sl0, st'⟩) : ∀ sl, callA 1 f [] (consM (varM 0) nilM) ⟨.val (.cell i) :: sl, st⟩ = .ok d ⟨.val (.cell i) :: sl, st'⟩ := fun sl => callA_eq (a' := ⟨sl0, st'⟩) (cons_eq rfl rfl) rfl e
theorem one_at {i : Nat} {st : List Cell} {ds : List D} (h : Wl i st) (hd : 0 < ds.length) (hd2 : ds.length < 1000) : ∃ (v : D) (st' : List Cell), v ∈ ds ∧ Wl i st' ∧ ∀ (sl sl' : List Slot) (m : M D) (st0 : List Cell), m ⟨.val (.cell i) :: sl', st0⟩ = .ok (.lst ds) ⟨.val (.cell i) :: sl, st⟩ → callA 2 f__law_one [] (consM (varM 0) (consM m nilM)) ⟨.val (.cell i) :: sl', st0⟩ = .ok v ⟨.val (.cell i) :: sl, st'⟩ := by
  obtain ⟨v, a1, e1, hv, w1⟩ := one_ok h hd hd2
  exact ⟨v, a1.st, hv, w1, fun sl sl' m st0 hm => callA_eq (cons_eq rfl (cons_eq hm rfl)) rfl e1⟩
theorem fixed_at {i : Nat} {st : List Cell} (h : Wl i st) : ∃ (v : D) (st' : List Cell), Fix v ∧ Wl i st' ∧ ∀ sl, callA 1 f__law_fixed [] (consM (varM 0) nilM) ⟨.val (.cell i) :: sl, st⟩ = .ok v ⟨.val (.cell i) :: sl, st'⟩ := by
  obtain ⟨v, a1, e1, hv, w1⟩ := fixed_ok h
  exact ⟨v, a1.st, hv, w1, fun sl => callA_eq (cons_eq rfl rfl) rfl e1⟩
inductive Sha : D → Prop where
  | share {d : D} (h : Len d) : Sha (.tup [.str "share", d])
theorem share_at {i : Nat} {st : List Cell} (h : Wl i st) : ∃ (v : D) (st' : List Cell), Sha v ∧ Wl i st' ∧ ∀ sl, callA 1 f__law_share [] (consM (varM 0) nilM) ⟨.val (.cell i) :: sl, st⟩ = .ok v ⟨.val (.cell i) :: sl, st'⟩ := by
  obtain ⟨k, st1, k0, k1, w1, e1⟩ := draw_at h (m := 7) (by decide) (by decide)
  obtain ⟨v, hv, hm⟩ := at_mem (l := [.int 1, .int 1, .int 2, .int 0, .tup [.int 1, .int 2], .tup [.int 1, .int 3], .int 7]) k0 k1
  have e : f__law_share [.cell i] st = .ok (.tup [.str "share", v]) ⟨[.val (.cell i)], st1⟩ := fin_eq (ret_eq (bd_eq (cons_eq rfl (cons_eq (ix_eq rfl (e1 _) hv) rfl)) rfl))
  refine ⟨_, st1, ?_, w1, call1 e⟩
  simp only [List.mem_cons, List.not_mem_nil, or_false] at hm
  rcases hm with rfl | rfl | rfl | rfl | rfl | rfl | rfl
  · exact .share (.int (by decide))
  · exact .share (.int (by decide))
  · exact .share (.int (by decide))
  · exact .share (.int (by decide))
  · exact .share .h12
  · exact .share .h13
  · exact .share (.int (by decide))
inductive Wrd : D → Prop where
  | auto : Wrd (.str "auto")
  | least : Wrd (.str "least")
  | most : Wrd (.str "most")
inductive Siz : D → Prop where
  | fix {d : D} (h : Fix d) : Siz d
  | sha {d : D} (h : Sha d) : Siz d
  | wrd {d : D} (h : Wrd d) : Siz d
  | upto {d : D} (h : Fix d) : Siz (.tup [.str "upto", d])
  | between {x y : D} (hx : Fix x ∨ Wrd x) (hy : Fix y ∨ Wrd y ∨ Sha y) : Siz (.tup [.str "between", x, y])
inductive Cou : D → Prop where
  | fix {d : D} (h : Fix d) : Cou d
  | low {x y : D} (hx : Fix x) (hy : Fix y ∨ Wrd y ∨ Sha y) : Cou (.tup [.str "between", x, y])
  | high {x y : D} (hx : Wrd x) (hy : Fix y) : Cou (.tup [.str "between", x, y])
theorem Cou.siz {d : D} (h : Cou d) : Siz d := by
  cases h with
  | fix h => exact .fix h
  | low hx hy => exact .between (.inl hx) hy
  | high hx hy => exact .between (.inr hx) (.inl hy)
theorem words_mem {d : D} (h : d ∈ ([.str "auto", .str "least", .str "most"] : List D)) : Wrd d := by
  simp only [List.mem_cons, List.not_mem_nil, or_false] at h
  rcases h with rfl | rfl | rfl
  · exact .auto
  · exact .least
  · exact .most
abbrev wordsD : List D := [.str "auto", .str "least", .str "most"]
abbrev wordsM : M D := bd (bd (consM (ret (.str "auto")) (consM (ret (.str "least")) (consM (ret (.str "most")) nilM))) fun xs => if xs.length ≤ 1000 then ret xs else no) fun ds => ret (.lst ds)
theorem counted_at {i : Nat} {st : List Cell} (h : Wl i st) : ∃ (v : D) (st' : List Cell), Cou v ∧ Wl i st' ∧ ∀ sl, callA 1 f__law_counted [] (consM (varM 0) nilM) ⟨.val (.cell i) :: sl, st⟩ = .ok v ⟨.val (.cell i) :: sl, st'⟩ := by
  obtain ⟨k, st1, k0, k1, w1, e1⟩ := draw_at h (m := 3) (by decide) (by decide)
  have fin : ∀ {v : D} {st' : List Cell}, Cou v → Wl i st' → (∃ sl, f__law_counted [.cell i] st = .ok v ⟨sl, st'⟩) → ∃ (v : D) (st' : List Cell), Cou v ∧ Wl i st' ∧ ∀ sl, callA 1 f__law_counted [] (consM (varM 0) nilM) ⟨.val (.cell i) :: sl, st⟩ = .ok v ⟨.val (.cell i) :: sl, st'⟩ := fun hv w e => by
    obtain ⟨sl0, e⟩ := e
    exact ⟨_, _, hv, w, call1 e⟩
  obtain rfl | rfl | rfl : k = 0 ∨ k = 1 ∨ k = 2 := by omega
  · obtain ⟨v, st2, hv, w2, e2⟩ := fixed_at w1
    exact fin (.fix hv) w2 ⟨_, fin_eq (seq_eq rfl (seq_eq (set_eq' (e1 _)) (seq_ret (if_eq rfl (ret_eq (e2 _))))))⟩
  · obtain ⟨x, st2, hx, w2, e2⟩ := fixed_at w1
    obtain ⟨p, st3, hp, w3, e3⟩ := fixed_at w2
    obtain ⟨q, st4, hq, w4, e4⟩ := share_at w3
    obtain ⟨y, st5, hy, w5, e5⟩ := one_at (ds := wordsD ++ [p, q]) w4 (show (0 : Nat) < 5 by decide) (show (5 : Nat) < 1000 by decide)
    refine fin (.low hx ?_) w5 ⟨_, fin_eq (seq_eq rfl (seq_eq (set_eq' (e1 _)) (seq_eq rfl (seq_ret (if_eq rfl (ret_eq (bd_eq (cons_eq rfl (cons_eq (e2 _) (cons_eq (e5 _ _ _ _ (bd_eq (bd_eq rfl (bd_eq (bd_eq (bd_eq (cons_eq (e3 _) (cons_eq (e4 _) rfl)) rfl) rfl) rfl)) rfl)) rfl))) rfl)))))))⟩
    rcases List.mem_append.mp hy with hy | hy
    · exact .inr (.inl (words_mem hy))
    · simp only [List.mem_cons, List.not_mem_nil, or_false] at hy
      rcases hy with rfl | rfl
      · exact .inl hp
      · exact .inr (.inr hq)
  · obtain ⟨y, st3, hy, w3, e3⟩ := one_at (ds := wordsD) w1 (by decide) (by decide)
    obtain ⟨x, st2, hx, w2, e2⟩ := fixed_at w3
    exact fin (.high (words_mem hy) hx) w2 ⟨_, fin_eq (seq_eq rfl (seq_eq (set_eq' (e1 _)) (seq_eq rfl (seq_eq rfl (ret_eq (bd_eq (cons_eq rfl (cons_eq (e3 _ _ _ _ rfl) (cons_eq (e2 _) rfl))) rfl))))))⟩
theorem size_at {i : Nat} {st : List Cell} (h : Wl i st) : ∃ (v : D) (st' : List Cell), Siz v ∧ Wl i st' ∧ ∀ sl, callA 1 f__law_size [] (consM (varM 0) nilM) ⟨.val (.cell i) :: sl, st⟩ = .ok v ⟨.val (.cell i) :: sl, st'⟩ := by
  obtain ⟨k, st1, k0, k1, w1, e1⟩ := draw_at h (m := 8) (by decide) (by decide)
  have fin : ∀ {v : D} {st' : List Cell}, Siz v → Wl i st' → (∃ sl, f__law_size [.cell i] st = .ok v ⟨sl, st'⟩) → ∃ (v : D) (st' : List Cell), Siz v ∧ Wl i st' ∧ ∀ sl, callA 1 f__law_size [] (consM (varM 0) nilM) ⟨.val (.cell i) :: sl, st⟩ = .ok v ⟨.val (.cell i) :: sl, st'⟩ := fun hv w e => by
    obtain ⟨sl0, e⟩ := e
    exact ⟨_, _, hv, w, call1 e⟩
  obtain hk | rfl | hk | rfl | hk : (k = 0 ∨ k = 1) ∨ k = 2 ∨ (k = 3 ∨ k = 4) ∨ k = 5 ∨ (k = 6 ∨ k = 7) := by omega
  · obtain ⟨v, st2, hv, w2, e2⟩ := fixed_at w1
    refine fin (.fix hv) w2 ?_
    rcases hk with rfl | rfl
    · exact ⟨_, fin_eq (seq_eq rfl (seq_eq (set_eq' (e1 _)) (seq_ret (if_eq rfl (ret_eq (e2 _))))))⟩
    · exact ⟨_, fin_eq (seq_eq rfl (seq_eq (set_eq' (e1 _)) (seq_ret (if_eq rfl (ret_eq (e2 _))))))⟩
  · obtain ⟨v, st2, hv, w2, e2⟩ := share_at w1
    exact fin (.sha hv) w2 ⟨_, fin_eq (seq_eq rfl (seq_eq (set_eq' (e1 _)) (seq_eq rfl (seq_ret (if_eq rfl (ret_eq (e2 _)))))))⟩
  · obtain ⟨y, st3, hy, w3, e3⟩ := one_at (ds := wordsD) w1 (by decide) (by decide)
    refine fin (.wrd (words_mem hy)) w3 ?_
    rcases hk with rfl | rfl
    · exact ⟨_, fin_eq (seq_eq rfl (seq_eq (set_eq' (e1 _)) (seq_eq rfl (seq_eq rfl (seq_ret (if_eq rfl (ret_eq (e3 _ _ _ _ rfl))))))))⟩
    · exact ⟨_, fin_eq (seq_eq rfl (seq_eq (set_eq' (e1 _)) (seq_eq rfl (seq_eq rfl (seq_ret (if_eq rfl (ret_eq (e3 _ _ _ _ rfl))))))))⟩
  · obtain ⟨v, st2, hv, w2, e2⟩ := fixed_at w1
    exact fin (.upto hv) w2 ⟨_, fin_eq (seq_eq rfl (seq_eq (set_eq' (e1 _)) (seq_eq rfl (seq_eq rfl (seq_eq rfl (seq_ret (if_eq rfl (ret_eq (bd_eq (cons_eq rfl (cons_eq (e2 _) rfl)) rfl)))))))))⟩
  · obtain ⟨p, st2, hp, w2, e2⟩ := fixed_at w1
    obtain ⟨q, st3, hq, w3, e3⟩ := fixed_at w2
    obtain ⟨x, st4, hx, w4, e4⟩ := one_at (ds := wordsD ++ [p, q]) w3 (show (0 : Nat) < 5 by decide) (show (5 : Nat) < 1000 by decide)
    obtain ⟨p', st5, hp', w5, e5⟩ := fixed_at w4
    obtain ⟨q', st6, hq', w6, e6⟩ := share_at w5
    obtain ⟨y, st7, hy, w7, e7⟩ := one_at (ds := wordsD ++ [p', q']) w6 (show (0 : Nat) < 5 by decide) (show (5 : Nat) < 1000 by decide)
    have hx' : Fix x ∨ Wrd x := by
      rcases List.mem_append.mp hx with hx | hx
      · exact .inr (words_mem hx)
      · simp only [List.mem_cons, List.not_mem_nil, or_false] at hx
        rcases hx with rfl | rfl
        · exact .inl hp
        · exact .inl hq
    have hy' : Fix y ∨ Wrd y ∨ Sha y := by
      rcases List.mem_append.mp hy with hy | hy
      · exact .inr (.inl (words_mem hy))
      · simp only [List.mem_cons, List.not_mem_nil, or_false] at hy
        rcases hy with rfl | rfl
        · exact .inl hp'
        · exact .inr (.inr hq')
    refine fin (.between hx' hy') w7 ?_
    rcases hk with rfl | rfl
    · exact ⟨_, fin_eq (seq_eq rfl (seq_eq (set_eq' (e1 _)) (seq_eq rfl (seq_eq rfl (seq_eq rfl (seq_eq rfl (seq_eq (set_eq' (e4 _ _ _ _ (bd_eq (bd_eq rfl (bd_eq (bd_eq (bd_eq (cons_eq (e2 _) (cons_eq (e3 _) rfl)) rfl) rfl) rfl)) rfl))) (ret_eq (bd_eq (cons_eq rfl (cons_eq rfl (cons_eq (e7 _ _ _ _ (bd_eq (bd_eq rfl (bd_eq (bd_eq (bd_eq (cons_eq (e5 _) (cons_eq (e6 _) rfl)) rfl) rfl) rfl)) rfl)) rfl))) rfl)))))))))⟩
    · exact ⟨_, fin_eq (seq_eq rfl (seq_eq (set_eq' (e1 _)) (seq_eq rfl (seq_eq rfl (seq_eq rfl (seq_eq rfl (seq_eq (set_eq' (e4 _ _ _ _ (bd_eq (bd_eq rfl (bd_eq (bd_eq (bd_eq (cons_eq (e2 _) (cons_eq (e3 _) rfl)) rfl) rfl) rfl)) rfl))) (ret_eq (bd_eq (cons_eq rfl (cons_eq rfl (cons_eq (e7 _ _ _ _ (bd_eq (bd_eq rfl (bd_eq (bd_eq (bd_eq (cons_eq (e5 _) (cons_eq (e6 _) rfl)) rfl) rfl) rfl)) rfl)) rfl))) rfl)))))))))⟩
theorem rangeD_len : ∀ (i : Int) (n : Nat), (rangeD i n).length = n := by
  intro i n
  unfold rangeD
  simp
theorem range_eq {ms : M (List D)} {a a' : AS} {r : Int} (h : ms a = .ok [.int r] a') (h0 : 0 ≤ r) (h1 : r < 1000) : range1M ms a = .ok (rangeD 0 r.toNat) a' := bd_eq h (by
  show (if okR r = true then ret (rangeD 0 r.toNat) else no) a' = _
  rw [if_pos (by unfold okR; exact decide_eq_true (by omega))]
  rfl)
theorem lc_ok {i j : Nat} {P : D → Prop} {elt : M D} {sl : List Slot} (hE : ∀ (d : D) (st : List Cell), Wl i st → ∃ v a', P v ∧ Wl i a'.st ∧ elt ⟨sl.set j (.val d), st⟩ = .ok v a') : ∀ (ds : List D) (st : List Cell) (acc : List D), Wl i st → acc.length + ds.length < 100000 →
    ∃ vs a', lcL (tgN j) yesM elt sl ds st acc = .ok (acc ++ vs) a' ∧ Wl i a'.st ∧ vs.length = ds.length ∧ ∀ v ∈ vs, P v
  | [], st, acc, w, _ => ⟨[], ⟨[], st⟩, by rw [List.append_nil]; rfl, w, rfl, fun v hv => by simp at hv⟩
  | d :: ds, st, acc, w, hl => by
    obtain ⟨v, a1, hv, w1, e1⟩ := hE d st w
    rw [List.length_cons] at hl
    obtain ⟨vs, a2, e2, w2, l2, h2⟩ := lc_ok hE ds a1.st (acc ++ [v]) w1 (by rw [List.length_append, List.length_singleton]; omega)
    refine ⟨v :: vs, a2, ?_, w2, by rw [List.length_cons, List.length_cons, l2], fun x hx => by
      rcases List.mem_cons.mp hx with rfl | hx
      · exact hv
      · exact h2 x hx⟩
    unfold lcL
    show (match elt ⟨sl.set j (.val d), st⟩ with
      | .ok y b3 => if acc.length < 100000 then lcL (tgN j) yesM elt sl ds b3.st (acc ++ [y]) else Out.stuck
      | _ => Out.stuck) = _
    rw [e1]
    dsimp only
    rw [if_pos (by omega), e2, List.append_assoc]
    rfl
theorem lcM_eq {vs : List Nat} {mi : M (List D)} {t : TgM} {test : M Bool} {elt : M D} {a a' : AS} {ds xs : List D} {b : AS} (h : mi a = .ok ds a') (k : lcL t test elt (hideL vs a'.sl) ds a'.st [] = .ok xs b) : lcM vs mi t test elt a = .ok xs ⟨a'.sl, b.st⟩ := bd_eq h (by rw [k])
abbrev namesD : List D := [.str "a", .str "b", .str "main", .str "side-start", .str "side-end", .str "x9"]
def Nms (d : D) : Prop := ∃ ns, d = .tup ns ∧ ns.length ≤ 2 ∧ ∀ n ∈ ns, n ∈ namesD
theorem names_at {i : Nat} {st : List Cell} (h : Wl i st) : ∃ (v : D) (st' : List Cell), Nms v ∧ Wl i st' ∧ ∀ sl, callA 1 f__law_names [] (consM (varM 0) nilM) ⟨.val (.cell i) :: sl, st⟩ = .ok v ⟨.val (.cell i) :: sl, st'⟩ := by
  obtain ⟨k, st1, k0, k1, w1, e1⟩ := draw_at h (m := 3) (by decide) (by decide)
  obtain ⟨vs, a2, e2, w2, l2, h2⟩ := lc_ok (i := i) (j := 2) (P := fun d => d ∈ namesD) (sl := [.val (.cell i), .val (.lst namesD), .emp]) (elt := callA 2 f__law_one [] (consM (varM 0) (consM (varM 1) nilM)))
    (fun d st w => by
      obtain ⟨y, st3, hy, w3, e3⟩ := one_at (ds := namesD) w (by decide) (by decide)
      exact ⟨y, _, hy, w3, e3 [.val (.lst namesD), .val d] [.val (.lst namesD), .val d] (varM 1) st rfl⟩) (rangeD 0 k.toNat) st1 [] w1 (by rw [rangeD_len, List.length_nil]; omega)
  rw [rangeD_len] at l2
  refine ⟨.tup vs, a2.st, ⟨vs, rfl, by omega, h2⟩, w2, call1 (sl0 := [.val (.cell i), .val (.lst namesD), .emp]) (fin_eq (seq_eq rfl (ret_eq (cal_eq (cons_eq (bd_eq (lcM_eq (range_eq (cons_eq (e1 _) rfl) k0 (by omega)) e2) rfl) rfl) rfl))))⟩
def Nam (d : D) : Prop := ∃ x, d = .tup [.str "names", x] ∧ Nms x
theorem draw_gen {i : Nat} {st : List Cell} {m : Int} (h : Wl i st) (hm : 0 < m) (hm2 : m < 1000) : ∃ (r : Int) (st' : List Cell), 0 ≤ r ∧ r < m ∧ Wl i st' ∧ ∀ (sl : List Slot) (mm : M D), mm ⟨.val (.cell i) :: sl, st⟩ = .ok (.int m) ⟨.val (.cell i) :: sl, st⟩ → callA 2 f__law_draw [] (consM (varM 0) (consM mm nilM)) ⟨.val (.cell i) :: sl, st⟩ = .ok (.int r) ⟨.val (.cell i) :: sl, st'⟩ := by
  obtain ⟨_, a1, e1, r, rfl, h0, h1, w1⟩ := draw_ok h hm hm2
  exact ⟨r, a1.st, h0, h1, w1, fun sl mm hm => callA_eq (cons_eq rfl (cons_eq hm rfl)) rfl e1⟩
theorem meth_eq {i : Nat} {f : List Cell → List D → List D → Option (List D)} {ms : M (List D)} {a a1 : AS} {ds0 ds xs es : List D} (h0 : ownAt i a = some ds0) (h : ms a = .ok xs a1) (h1 : ownAt i a1 = some ds) (k : f a1.st ds xs = some es) : methO i f ms a = .ok .non ⟨a1.sl.set i (.own es), a1.st⟩ := by
  unfold methO
  rw [h0]
  dsimp only
  rw [h]
  simp only [bind_ok]
  rw [h1]
  dsimp only
  rw [k]
theorem app_some {st : List Cell} {ds : List D} {x : D} (h : ds.length < 1000) : appF st ds [x] = some (ds ++ [x]) := by
  unfold appF
  dsimp only
  rw [if_pos (by omega)]
theorem expr_eq {m : M D} {a a' : AS} {d : D} (h : m a = .ok d a') : exprM m a = .ok .nx a' := bd_eq h rfl
theorem for_cons {t : TgM} {body : M Fl} {d : D} {ds : List D} {a a1 a2 : AS} {o : Out Fl} (h : t d a = some a1) (k : body a1 = .ok .nx a2) (r : forL t body ds a2 = o) : forL t body (d :: ds) a = o := by
  unfold forL
  simp only [h, k]
  exact r
def Ent (b : Bool) (d : D) : Prop := if b = true then Cou d else Siz d
abbrev plainB : M Fl := seqM (ifM (op2 eqM (callA 2 f__law_draw [] (consM (varM 0) (consM (ret (.int 3)) nilM))) (ret (.int 0)))
    (exprM (methO 3 appF (consM (bd (consM (ret (.str "names")) (consM (callA 1 f__law_names [] (consM (varM 0) nilM)) nilM)) fun xs => if xs.length ≤ 1000 then ret (.tup xs) else no) nilM)))
    (nxM))
    (exprM (methO 3 appF (consM (ifM (tstM (varM 2)) (callA 1 f__law_counted [] (consM (varM 0) nilM)) (callA 1 f__law_size [] (consM (varM 0) nilM))) nilM)))
theorem entry_at {i : Nat} {st : List Cell} (b : Bool) (h : Wl i st) : ∃ (v : D) (st' : List Cell), Ent b v ∧ Wl i st' ∧ ∀ many s3 s4, ifM (tstM (varM 2)) (callA 1 f__law_counted [] (consM (varM 0) nilM)) (callA 1 f__law_size [] (consM (varM 0) nilM)) ⟨[.val (.cell i), .val many, .val (.bl b), s3, s4], st⟩ = .ok v ⟨[.val (.cell i), .val many, .val (.bl b), s3, s4], st'⟩ := by
  cases b with
  | true =>
    obtain ⟨v, st', hv, w, e⟩ := counted_at h
    exact ⟨v, st', hv, w, fun many s3 s4 => if_eq rfl (e _)⟩
  | false =>
    obtain ⟨v, st', hv, w, e⟩ := size_at h
    exact ⟨v, st', hv, w, fun many s3 s4 => if_eq rfl (e _)⟩
theorem plain_loop {i : Nat} {b : Bool} {many : D} : ∀ (ds : List D) (st : List Cell) (acc : List D) (t : Slot), Wl i st → acc.length + 2 * ds.length < 900 →
    ∃ es st' t', forL (tgN 4) plainB ds ⟨[.val (.cell i), .val many, .val (.bl b), .own acc, t], st⟩ = .ok .nx ⟨[.val (.cell i), .val many, .val (.bl b), .own (acc ++ es), t'], st'⟩ ∧ Wl i st' ∧ (∀ e ∈ es, Nam e ∨ Ent b e) ∧ (ds ≠ [] → ∃ e ∈ es, Ent b e) ∧ es.length ≤ 2 * ds.length
  | [], st, acc, t, w, _ => ⟨[], st, t, by rw [List.append_nil]; rfl, w, fun e he => by simp at he, fun h => absurd rfl h, by simp⟩
  | d :: ds, st, acc, t, w, hl => by
    rw [List.length_cons] at hl
    obtain ⟨k, st1, k0, k1, w1, e1⟩ := draw_at w (m := 3) (by decide) (by decide)
    by_cases hk : k = 0
    · subst hk
      obtain ⟨n, st2, hn, w2, e2⟩ := names_at w1
      obtain ⟨v, st3, hv, w3, e3⟩ := entry_at b w2
      obtain ⟨es, st4, t', e4, w4, h1, h2, h3⟩ := plain_loop (b := b) (many := many) ds st3 (acc ++ [.tup [.str "names", n]] ++ [v]) (.val d) w3 (by simp only [List.length_append, List.length_singleton]; omega)
      refine ⟨.tup [.str "names", n] :: v :: es, st4, t', ?_, w4, fun e he => ?_, fun _ => ⟨v, by simp, hv⟩, by simp only [List.length_cons]; omega⟩
      · refine for_cons rfl (seq_eq (if_eq (bd_eq (e1 _) rfl) (expr_eq (meth_eq rfl (cons_eq (bd_eq (cons_eq rfl (cons_eq (e2 _) rfl)) rfl) rfl) rfl (app_some (by omega))))) (expr_eq (meth_eq rfl (cons_eq (e3 _ _ _) rfl) rfl (app_some (by simp only [List.length_append, List.length_singleton]; omega))))) ?_
        refine e4.trans ?_
        simp only [List.append_assoc, List.cons_append, List.nil_append]
      · rcases List.mem_cons.mp he with rfl | he
        · exact .inl ⟨n, rfl, hn⟩
        · rcases List.mem_cons.mp he with rfl | he
          · exact .inr hv
          · exact h1 e he
    · obtain ⟨v, st3, hv, w3, e3⟩ := entry_at b w1
      obtain ⟨es, st4, t', e4, w4, h1, h2, h3⟩ := plain_loop (b := b) (many := many) ds st3 (acc ++ [v]) (.val d) w3 (by simp only [List.length_append, List.length_singleton]; omega)
      refine ⟨v :: es, st4, t', ?_, w4, fun e he => ?_, fun _ => ⟨v, by simp, hv⟩, by simp only [List.length_cons]; omega⟩
      · have hz : eqM (.int k) (.int 0) = some false := by
          obtain rfl | rfl : k = 1 ∨ k = 2 := by omega
          · rfl
          · rfl
        refine for_cons rfl (seq_eq (if_eq (bd_eq (e1 _) (bd_eq rfl (by show opt (eqM (.int k) (.int 0)) _ = _; rw [hz]; rfl))) (by rw [if_neg Bool.false_ne_true]; rfl)) (expr_eq (meth_eq rfl (cons_eq (e3 _ _ _) rfl) rfl (app_some (by omega))))) ?_
        refine e4.trans ?_
        simp only [List.append_assoc, List.cons_append, List.nil_append]
      · rcases List.mem_cons.mp he with rfl | he
        · exact .inr hv
        · exact h1 e he
def Pln (b : Bool) (n : Nat) (d : D) : Prop := ∃ es, d = .tup es ∧ (∀ e ∈ es, Nam e ∨ Ent b e) ∧ (∃ e ∈ es, Ent b e) ∧ es.length ≤ 2 * n
theorem plain_ok {i : Nat} {st : List Cell} (b : Bool) (n : Nat) (h : Wl i st) (hn : 0 < n) (hn2 : n < 100) : ∃ (v : D) (st' : List Cell) (sl : List Slot), Pln b n v ∧ Wl i st' ∧ f__law_plain [.cell i, .int n, .bl b] st = .ok v ⟨sl, st'⟩ := by
  obtain ⟨k, st1, k0, k1, w1, e1⟩ := draw_gen h (m := n) (by omega) (by omega)
  obtain ⟨es, st4, t', e4, w4, h1, h2, h3⟩ := plain_loop (b := b) (many := .int n) (rangeD 0 (1 + k).toNat) st1 [] .emp w1 (by rw [rangeD_len, List.length_nil]; omega)
  rw [rangeD_len] at h3
  refine ⟨.tup es, st4, _, ⟨es, rfl, h1, h2 fun z => ?_, by omega⟩, w4, fin_eq (seq_eq rfl (seq_eq (bd_eq (range_eq (cons_eq (bd_eq rfl (bd_eq (e1 _ _ rfl) rfl)) rfl) (by omega) (by omega)) e4) (ret_eq (cal_eq (cons_eq rfl rfl) rfl))))⟩
  have := congrArg List.length z
  rw [rangeD_len, List.length_nil] at this
  omega
def Rpt (b : Bool) (d : D) : Prop := ∃ (k : Int) (x : D), d = .tup [.str "repeat", .int k, x] ∧ 1 ≤ k ∧ k ≤ 3 ∧ Pln b 2 x
def Fil (d : D) : Prop := ∃ w x, d = .tup [w, x] ∧ (w = .str "fill" ∨ w = .str "fit") ∧ Pln true 2 x
inductive Tl (b : Bool) : Nat → Nat → List D → Prop where
  | nil : Tl b 0 0 []
  | nam {e : D} {es : List D} {w f : Nat} (h : Nam e) (t : Tl b w f es) : Tl b (w + 1) f (e :: es)
  | ent {e : D} {es : List D} {w f : Nat} (h : Ent b e) (t : Tl b w f es) : Tl b (w + 1) f (e :: es)
  | rpt {e : D} {es : List D} {w f : Nat} (h : Rpt b e) (t : Tl b w f es) : Tl b (w + 12) f (e :: es)
  | fil {e : D} {es : List D} {w f : Nat} (hb : b = true) (h : Fil e) (t : Tl b w f es) : Tl b (w + 4) (f + 1) (e :: es)
theorem Tl.app {b : Bool} {w f w' f' : Nat} {es es' : List D} (h : Tl b w f es) (h' : Tl b w' f' es') : Tl b (w + w') (f + f') (es ++ es') := by
  induction h with
  | nil => simpa using h'
  | nam h t ih => rw [show ∀ x : Nat, x + 1 + w' = x + w' + 1 by intro x; omega]; exact .nam h ih
  | ent h t ih => rw [show ∀ x : Nat, x + 1 + w' = x + w' + 1 by intro x; omega]; exact .ent h ih
  | rpt h t ih => rw [show ∀ x : Nat, x + 12 + w' = x + w' + 12 by intro x; omega]; exact .rpt h ih
  | fil hb h t ih => rw [show ∀ x : Nat, x + 4 + w' = x + w' + 4 by intro x; omega, show ∀ x : Nat, x + 1 + f' = x + f' + 1 by intro x; omega]; exact .fil hb h ih
theorem Tl.cut {b : Bool} {w f : Nat} {es : List D} (h : Tl b w f es) : ∀ k : Nat, ∃ w1 f1 w2 f2, Tl b w1 f1 (es.take k) ∧ Tl b w2 f2 (es.drop k) ∧ w1 + w2 = w ∧ f1 + f2 = f := by
  induction h with
  | nil => intro k; exact ⟨0, 0, 0, 0, by simpa using Tl.nil, by simpa using Tl.nil, rfl, rfl⟩
  | nam h t ih =>
    intro k
    cases k with
    | zero => exact ⟨0, 0, _, _, .nil, .nam h t, by omega, by omega⟩
    | succ k => obtain ⟨w1, f1, w2, f2, a, c, e1, e2⟩ := ih k; exact ⟨w1 + 1, f1, w2, f2, .nam h a, c, by omega, by omega⟩
  | ent h t ih =>
    intro k
    cases k with
    | zero => exact ⟨0, 0, _, _, .nil, .ent h t, by omega, by omega⟩
    | succ k => obtain ⟨w1, f1, w2, f2, a, c, e1, e2⟩ := ih k; exact ⟨w1 + 1, f1, w2, f2, .ent h a, c, by omega, by omega⟩
  | rpt h t ih =>
    intro k
    cases k with
    | zero => exact ⟨0, 0, _, _, .nil, .rpt h t, by omega, by omega⟩
    | succ k => obtain ⟨w1, f1, w2, f2, a, c, e1, e2⟩ := ih k; exact ⟨w1 + 12, f1, w2, f2, .rpt h a, c, by omega, by omega⟩
  | fil hb h t ih =>
    intro k
    cases k with
    | zero => exact ⟨0, 0, _, _, .nil, .fil hb h t, by omega, by omega⟩
    | succ k => obtain ⟨w1, f1, w2, f2, a, c, e1, e2⟩ := ih k; exact ⟨w1 + 4, f1 + 1, w2, f2, .fil hb h a, c, by omega, by omega⟩
theorem Tl.plain {b : Bool} : ∀ {es : List D}, (∀ e ∈ es, Nam e ∨ Ent b e) → Tl b es.length 0 es
  | [], _ => .nil
  | e :: es, h => by
    rcases h e (by simp) with z | z
    · exact .nam z (Tl.plain fun x hx => h x (by simp [hx]))
    · exact .ent z (Tl.plain fun x hx => h x (by simp [hx]))
theorem Tl.len {b : Bool} {w f : Nat} {es : List D} (h : Tl b w f es) : es.length ≤ w := by
  induction h with
  | nil => simp
  | nam h t ih => simp only [List.length_cons]; omega
  | ent h t ih => simp only [List.length_cons]; omega
  | rpt h t ih => simp only [List.length_cons]; omega
  | fil hb h t ih => simp only [List.length_cons]; omega
theorem plain_at {i : Nat} {st : List Cell} (b : Bool) (n : Nat) (h : Wl i st) (hn : 0 < n) (hn2 : n < 100) : ∃ (v : D) (st' : List Cell), Pln b n v ∧ Wl i st' ∧ ∀ (sl : List Slot) (m : M D), m ⟨.val (.cell i) :: sl, st⟩ = .ok (.bl b) ⟨.val (.cell i) :: sl, st⟩ →
    callA 3 f__law_plain [] (consM (varM 0) (consM (ret (.int n)) (consM m nilM))) ⟨.val (.cell i) :: sl, st⟩ = .ok v ⟨.val (.cell i) :: sl, st'⟩ := by
  obtain ⟨v, st', sl0, hv, w, e⟩ := plain_ok b n h hn hn2
  exact ⟨v, st', hv, w, fun sl m hm => callA_eq (a' := ⟨sl0, st'⟩) (cons_eq rfl (cons_eq rfl (cons_eq hm rfl))) rfl e⟩
def Tpl (d : D) : Prop := ∃ b es w f, d = .tup es ∧ Tl b w f es ∧ w ≤ 22 ∧ f ≤ 1 ∧ (f = 1 → b = true)
theorem own_eq {i : Nat} {m : M (List D)} {a a' : AS} {ds : List D} (h : m a = .ok ds a') : ownM i m a = .ok .nx ⟨a'.sl.set i (.own ds), a'.st⟩ := by
  unfold ownM bd
  rw [h]
  rfl
theorem ins_some {st : List Cell} {ds : List D} {k : Int} {x : D} (h : ds.length < 1000) (h0 : 0 ≤ k) (h1 : k < 1000) : insF st ds [.int k, x] = some (ds.take k.toNat ++ [x] ++ ds.drop k.toNat) := by
  unfold insF
  dsimp only
  rw [if_pos ⟨by omega, h0, by omega⟩]
theorem eq0_of {k : Int} (h : 0 ≤ k) (h2 : k < 5) : eqM (.int k) (.int 0) = some (decide (k = 0)) := by
  obtain rfl | rfl | rfl | rfl | rfl : k = 0 ∨ k = 1 ∨ k = 2 ∨ k = 3 ∨ k = 4 := by omega
  · rfl
  · rfl
  · rfl
  · rfl
  · rfl
theorem gt0_of {k : Int} : gtM (.int k) (.int 0) = some (decide (0 < k)) := rfl
theorem template_ok {i : Nat} {st : List Cell} (b : Bool) (h : Wl i st) : ∃ (v : D) (st' : List Cell) (sl : List Slot), Tpl v ∧ Wl i st' ∧ f__law_template [.cell i, .bl b] st = .ok v ⟨sl, st'⟩ := by
  -- the plain part
  obtain ⟨k, st1, k0, k1, w1, e1⟩ := draw_at h (m := 4) (by decide) (by decide)
  obtain ⟨pl, st2, w2, hp, hl, e2⟩ : ∃ pl st2, Wl i st2 ∧ (∀ e ∈ pl, Nam e ∨ Ent b e) ∧ pl.length ≤ 6 ∧ ifM (op2 gtM (callA 2 f__law_draw [] (consM (varM 0) (consM (ret (.int 4)) nilM))) (ret (.int 0))) (listM (consM (callA 3 f__law_plain [] (consM (varM 0) (consM (ret (.int 3)) (consM (varM 1) nilM)))) nilM)) (bd nilM fun xs => if xs.length ≤ 1000 then ret xs else no) ⟨[.val (.cell i), .val (.bl b), .emp], st⟩ = .ok pl ⟨[.val (.cell i), .val (.bl b), .emp], st2⟩ := by
    by_cases hk : 0 < k
    · obtain ⟨v, st2, ⟨es, rfl, h1, h2, h3⟩, w2, e2⟩ := plain_at b 3 w1 (by decide) (by decide)
      exact ⟨es, st2, w2, h1, h3, if_eq (bd_eq (e1 _) (bd_eq rfl (by show opt (gtM (.int k) (.int 0)) _ = _; rw [gt0_of, decide_eq_true hk]; rfl))) (by rw [if_pos rfl]; exact bd_eq (cons_eq (e2 _ _ rfl) rfl) rfl)⟩
    · exact ⟨[], st1, w1, fun e he => by simp at he, by simp, if_eq (bd_eq (e1 _) (bd_eq rfl (by show opt (gtM (.int k) (.int 0)) _ = _; rw [gt0_of, decide_eq_false hk]; rfl))) (by rw [if_neg Bool.false_ne_true]; rfl)⟩
  -- a repeat
  obtain ⟨q, st3, q0, q1, w3, e3⟩ := draw_at w2 (m := 3) (by decide) (by decide)
  obtain ⟨l, w, st4, w4, tl, hw, e4⟩ : ∃ l w st4, Wl i st4 ∧ Tl b w 0 l ∧ w ≤ 18 ∧ ifM (op2 eqM (callA 2 f__law_draw [] (consM (varM 0) (consM (ret (.int 3)) nilM))) (ret (.int 0)))
      (exprM (methO 2 appF (consM (bd (consM (ret (.str "repeat")) (consM (opM addM (ret (.int 1)) (callA 2 f__law_draw [] (consM (varM 0) (consM (ret (.int 3)) nilM)))) (consM (callA 3 f__law_plain [] (consM (varM 0) (consM (ret (.int 2)) (consM (varM 1) nilM)))) nilM))) fun xs => if xs.length ≤ 1000 then ret (.tup xs) else no) nilM)))
      (nxM) ⟨[.val (.cell i), .val (.bl b), .own pl], st2⟩ = .ok .nx ⟨[.val (.cell i), .val (.bl b), .own l], st4⟩ := by
    by_cases hq : q = 0
    · obtain ⟨r, st5, r0, r1, w5, e5⟩ := draw_at w3 (m := 3) (by decide) (by decide)
      obtain ⟨v, st6, hv, w6, e6⟩ := plain_at b 2 w5 (by decide) (by decide)
      refine ⟨pl ++ [.tup [.str "repeat", .int (1 + r), v]], pl.length + 12, st6, w6, (Tl.plain hp).app (.rpt ⟨1 + r, v, rfl, by omega, by omega, hv⟩ .nil), by omega, ?_⟩
      exact if_eq (bd_eq (e3 _) (bd_eq rfl (by show opt (eqM (.int q) (.int 0)) _ = _; rw [eq0_of q0 (by omega), decide_eq_true hq]; rfl))) (by rw [if_pos rfl]; exact expr_eq (meth_eq (a1 := ⟨[.val (.cell i), .val (.bl b), .own pl], st6⟩) rfl (cons_eq (bd_eq (cons_eq rfl (cons_eq (bd_eq rfl (bd_eq (e5 _) rfl)) (cons_eq (e6 _ _ rfl) rfl))) rfl) rfl) rfl (app_some (by omega))))
    · refine ⟨pl, pl.length, st3, w3, Tl.plain hp, by omega, ?_⟩
      exact if_eq (bd_eq (e3 _) (bd_eq rfl (by show opt (eqM (.int q) (.int 0)) _ = _; rw [eq0_of q0 (by omega), decide_eq_false hq]; rfl))) (by rw [if_neg Bool.false_ne_true]; rfl)
  -- a filling
  obtain ⟨l2, w', f, st7, w7, tl2, hw2, hf, hfb, e7⟩ : ∃ l2 w' f st7, Wl i st7 ∧ Tl b w' f l2 ∧ w' ≤ 22 ∧ f ≤ 1 ∧ (f = 1 → b = true) ∧ ifM (tstM (varM 1))
      (exprM (methO 2 insF (consM (callA 2 f__law_draw [] (consM (varM 0) (consM (opM addM (lenO 2) (ret (.int 1))) nilM))) (consM (bd (consM (callA 2 f__law_one [] (consM (varM 0) (consM (bd (bd (consM (ret (.str "fill")) (consM (ret (.str "fit")) nilM)) fun xs => if xs.length ≤ 1000 then ret xs else no) fun ds => ret (.lst ds)) nilM))) (consM (callA 3 f__law_plain [] (consM (varM 0) (consM (ret (.int 2)) (consM (ret (.bl true)) nilM)))) nilM)) fun xs => if xs.length ≤ 1000 then ret (.tup xs) else no) nilM))))
      (nxM) ⟨[.val (.cell i), .val (.bl b), .own l], st4⟩ = .ok .nx ⟨[.val (.cell i), .val (.bl b), .own l2], st7⟩ := by
    cases b with
    | false => exact ⟨l, w, 0, st4, w4, tl, by omega, by omega, fun z => by omega, if_eq rfl rfl⟩
    | true =>
      have hl := tl.len
      obtain ⟨r, st5, r0, r1, w5, e5⟩ := draw_gen w4 (m := (l.length : Int) + 1) (by omega) (by omega)
      obtain ⟨y, st6, hy, w6, e6⟩ := one_at (ds := [.str "fill", .str "fit"]) w5 (by decide) (by decide)
      obtain ⟨v, st7, hv, w7, e7⟩ := plain_at true 2 w6 (by decide) (by decide)
      obtain ⟨u1, g1, u2, g2, t1, t2, x1, x2⟩ := tl.cut r.toNat
      have hfil : Fil (.tup [y, v]) := ⟨y, v, rfl, by simpa using hy, hv⟩
      refine ⟨l.take r.toNat ++ [.tup [y, v]] ++ l.drop r.toNat, u1 + (0 + 4) + u2, g1 + (0 + 1) + g2, st7, w7, (t1.app (.fil rfl hfil .nil)).app t2, by omega, by omega, fun _ => rfl, ?_⟩
      refine if_eq rfl ?_
      rw [if_pos rfl]
      exact expr_eq (meth_eq (a1 := ⟨[.val (.cell i), .val (.bl true), .own l], st7⟩) rfl (cons_eq (e5 _ _ (bd_eq rfl rfl)) (cons_eq (bd_eq (cons_eq (e6 _ _ _ _ rfl) (cons_eq (e7 _ _ rfl) rfl)) rfl) rfl)) rfl (ins_some (by omega) r0 (by omega)))
  exact ⟨.tup l2, st7, _, ⟨b, l2, w', f, rfl, tl2, hw2, hf, hfb⟩, w7, fin_eq (seq_eq (own_eq e2) (seq_eq e4 (seq_eq e7 (ret_eq (cal_eq (cons_eq rfl rfl) rfl)))))⟩
theorem par_eq {i j : Nat} {m n : M D} {a a1 a2 : AS} {x y : D} (h : m a = .ok x a1) (k : n a1 = .ok y a2) : parM i j m n a = .ok .nx ⟨(a2.sl.set i (.val x)).set j (.val y), a2.st⟩ := bd_eq h (bd_eq k rfl)
theorem asg_eq {t : TgM} {m : M D} {a a1 a2 : AS} {d : D} (h : m a = .ok d a1) (k : t d a1 = some a2) : asgM t m a = .ok .nx a2 := bd_eq h (by rw [k])
def fieldsD (w t l p : Nat) : D := .tup ((List.range t).map fun a => .tup ((List.range w).map fun s => if p ≤ a ∧ l ≤ s then .str "main" else .str "."))
def Fld (d : D) : Prop := ∃ w t l p : Nat, d = fieldsD w t l p ∧ 1 ≤ w ∧ w ≤ 4 ∧ t ≤ 3 ∧ l < w ∧ p ≤ t
abbrev fieldsR : M Fl := seqM (ownM 5 (bd nilM fun xs => if xs.length ≤ 1000 then ret xs else no))
    (seqM (forM (range1M (consM (varM 2) nilM)) (tgN 6)
    (exprM (methO 5 appF (consM (calM tupleM (consM (bd (lcM [7] (range1M (consM (varM 1) nilM)) (tgN 7) yesM (ifM (andM (op2 geM (varM 6) (varM 4)) (op2 geM (varM 7) (varM 3))) (ret (.str "main")) (ret (.str ".")))) fun ds => ret (.lst ds)) nilM)) nilM))))
    (retM (calM tupleM (consM (varM 5) nilM))))
theorem lc_pure {j : Nat} {elt : M D} {sl : List Slot} {st : List Cell} {g : D → D} : ∀ (ds acc : List D), (∀ d ∈ ds, ∃ s', elt ⟨sl.set j (.val d), st⟩ = .ok (g d) ⟨s', st⟩) → acc.length + ds.length < 100000 → lcL (tgN j) yesM elt sl ds st acc = .ok (acc ++ ds.map g) ⟨[], st⟩
  | [], acc, _, _ => by rw [List.map_nil, List.append_nil]; rfl
  | d :: ds, acc, h, hl => by
    rw [List.length_cons] at hl
    obtain ⟨s', e⟩ := h d (by simp)
    have ih := lc_pure (j := j) (elt := elt) (sl := sl) (st := st) (g := g) ds (acc ++ [g d]) (fun x hx => h x (by simp [hx])) (by rw [List.length_append, List.length_singleton]; omega)
    unfold lcL
    show (match elt ⟨sl.set j (.val d), st⟩ with
      | .ok y b3 => if acc.length < 100000 then lcL (tgN j) yesM elt sl ds b3.st (acc ++ [y]) else Out.stuck
      | _ => Out.stuck) = _
    rw [e]
    dsimp only
    rw [if_pos (by omega), ih, List.append_assoc]
    rfl
theorem ge_dec (x y : Int) : geM (.int x) (.int y) = some (decide (y ≤ x)) := rfl
theorem and_eq {m n : M Bool} {a a1 : AS} {b : Bool} {o : Out Bool} (h : m a = .ok b a1) (k : (if b = true then n else ret false) a1 = o) : andM m n a = o := bd_eq h k
def cellD (l p a : Nat) : D → D
  | .int s => if p ≤ a ∧ (l : Int) ≤ s then .str "main" else .str "."
  | d => d
theorem rangeD_map (n : Nat) : rangeD 0 n = (List.range n).map fun k => .int (k : Int) := by
  unfold rangeD
  simp
abbrev rowM : M D := bd (lcM [7] (range1M (consM (varM 1) nilM)) (tgN 7) yesM (ifM (andM (op2 geM (varM 6) (varM 4)) (op2 geM (varM 7) (varM 3))) (ret (.str "main")) (ret (.str ".")))) fun ds => ret (.lst ds)
theorem row_ok (c : D) (st : List Cell) (w l p a : Nat) (x t : D) (s7 : Slot) (acc : List D) (hw : w < 1000) :
    rowM ⟨[.val c, .val (.int w), .val t, .val (.int l), .val (.int p), .own acc, .val (.int a), s7], st⟩ = .ok (.lst ((List.range w).map fun s => if p ≤ a ∧ l ≤ s then .str "main" else .str ".")) ⟨[.val c, .val (.int w), .val t, .val (.int l), .val (.int p), .own acc, .val (.int a), s7], st⟩ := by
  have h := lc_pure (j := 7) (elt := ifM (andM (op2 geM (varM 6) (varM 4)) (op2 geM (varM 7) (varM 3))) (ret (.str "main")) (ret (.str "."))) (sl := [.val c, .val (.int w), .val t, .val (.int l), .val (.int p), .emp, .val (.int a), .emp]) (st := st) (g := cellD l p a) (rangeD 0 w) [] (fun d hd => by
    rw [rangeD_map] at hd
    obtain ⟨s, _, rfl⟩ := List.mem_map.mp hd
    refine ⟨[.val c, .val (.int w), .val t, .val (.int l), .val (.int p), .emp, .val (.int a), .val (.int (s : Int))], ?_⟩
    by_cases h1 : p ≤ a
    · by_cases h2 : l ≤ s
      · refine if_eq (b := true) (and_eq (op2_eq rfl rfl (ge_dec _ _)) (by rw [decide_eq_true (show (p : Int) ≤ a by omega), if_pos rfl]; exact op2_eq rfl rfl (by rw [ge_dec, decide_eq_true (show (l : Int) ≤ s by omega)]))) ?_
        rw [if_pos rfl]
        show Out.ok (D.str "main") _ = Out.ok (if p ≤ a ∧ (l : Int) ≤ s then D.str "main" else D.str ".") _
        rw [if_pos ⟨h1, by omega⟩]
        rfl
      · refine if_eq (b := false) (and_eq (op2_eq rfl rfl (ge_dec _ _)) (by rw [decide_eq_true (show (p : Int) ≤ a by omega), if_pos rfl]; exact op2_eq rfl rfl (by rw [ge_dec, decide_eq_false (show ¬ (l : Int) ≤ s by omega)]))) ?_
        rw [if_neg Bool.false_ne_true]
        show Out.ok (D.str ".") _ = Out.ok (if p ≤ a ∧ (l : Int) ≤ s then D.str "main" else D.str ".") _
        rw [if_neg (fun z => h2 (by omega))]
        rfl
    · refine if_eq (b := false) (and_eq (op2_eq rfl rfl (ge_dec _ _)) (by rw [decide_eq_false (show ¬ (p : Int) ≤ a by omega), if_neg Bool.false_ne_true]; rfl)) ?_
      rw [if_neg Bool.false_ne_true]
      show Out.ok (D.str ".") _ = Out.ok (if p ≤ a ∧ (l : Int) ≤ s then D.str "main" else D.str ".") _
      rw [if_neg (fun z => h1 z.1)]
      rfl) (by rw [rangeD_len, List.length_nil]; omega)
  have hr : range1M (consM (varM 1) nilM) ⟨[.val c, .val (.int w), .val t, .val (.int l), .val (.int p), .own acc, .val (.int a), s7], st⟩ = .ok (rangeD 0 w) ⟨[.val c, .val (.int w), .val t, .val (.int l), .val (.int p), .own acc, .val (.int a), s7], st⟩ := by
    have e := range_eq (ms := consM (varM 1) nilM) (a := ⟨[.val c, .val (.int w), .val t, .val (.int l), .val (.int p), .own acc, .val (.int a), s7], st⟩) (a' := ⟨[.val c, .val (.int w), .val t, .val (.int l), .val (.int p), .own acc, .val (.int a), s7], st⟩) (r := (w : Int)) rfl (by omega) (by omega)
    rw [Int.toNat_natCast] at e
    exact e
  have h2 := lcM_eq (vs := [7]) (t := tgN 7) (test := yesM) (elt := ifM (andM (op2 geM (varM 6) (varM 4)) (op2 geM (varM 7) (varM 3))) (ret (.str "main")) (ret (.str "."))) hr h
  refine (bd_eq h2 rfl).trans ?_
  rw [rangeD_map, List.map_map, List.nil_append]
  have e : (List.range w).map (cellD l p a ∘ fun (k : Nat) => D.int (k : Int)) = (List.range w).map fun s => if p ≤ a ∧ l ≤ s then .str "main" else .str "." := by
    refine List.map_congr_left fun s _ => ?_
    show (if p ≤ a ∧ (l : Int) ≤ (s : Int) then (.str "main" : D) else .str ".") = _
    by_cases h1 : p ≤ a ∧ l ≤ s
    · rw [if_pos h1, if_pos ⟨h1.1, by omega⟩]
    · rw [if_neg h1, if_neg (fun z => h1 ⟨z.1, by omega⟩)]
  rw [e]
  rfl
theorem rows_loop (c : D) (st : List Cell) (w l p : Nat) (t : D) (hw : w < 1000) : ∀ (as : List Nat) (acc : List D) (s6 : Slot), acc.length + as.length < 900 →
    ∃ s6', forL (tgN 6) (exprM (methO 5 appF (consM (calM tupleM (consM rowM nilM)) nilM))) (as.map fun (k : Nat) => D.int (k : Int)) ⟨[.val c, .val (.int w), .val t, .val (.int l), .val (.int p), .own acc, s6, .emp], st⟩ =
      .ok .nx ⟨[.val c, .val (.int w), .val t, .val (.int l), .val (.int p), .own (acc ++ as.map fun a => .tup ((List.range w).map fun s => if p ≤ a ∧ l ≤ s then .str "main" else .str ".")), s6', .emp], st⟩
  | [], acc, s6, _ => ⟨s6, by rw [List.map_nil, List.map_nil, List.append_nil]; rfl⟩
  | a :: as, acc, s6, hl => by
    rw [List.length_cons] at hl
    obtain ⟨s6', e⟩ := rows_loop c st w l p t hw as (acc ++ [.tup ((List.range w).map fun s => if p ≤ a ∧ l ≤ s then .str "main" else .str ".")]) (.val (.int a)) (by rw [List.length_append, List.length_singleton]; omega)
    refine ⟨s6', ?_⟩
    rw [List.map_cons, List.map_cons]
    refine for_cons rfl (expr_eq (meth_eq (a1 := ⟨[.val c, .val (.int w), .val t, .val (.int l), .val (.int p), .own acc, .val (.int a), .emp], st⟩) rfl (cons_eq (cal_eq (cons_eq (row_ok c st w l p a t t .emp acc hw) rfl) rfl) rfl) rfl (app_some (by omega)))) ?_
    refine e.trans ?_
    rw [List.append_assoc]
    rfl
theorem fields_rest (c : D) (st : List Cell) (w t l p : Nat) (h2 : w ≤ 4) (h3 : t ≤ 3) : ∃ sl, fieldsR ⟨[.val c, .val (.int w), .val (.int t), .val (.int l), .val (.int p), .emp, .emp, .emp], st⟩ = .ok (.ret (fieldsD w t l p)) ⟨sl, st⟩ := by
  obtain ⟨s6', e⟩ := rows_loop c st w l p (.int t) (by omega) (List.range t) [] .emp (by rw [List.length_nil, List.length_range]; omega)
  refine ⟨_, seq_eq rfl (seq_eq (bd_eq (range_eq (r := (t : Int)) rfl (by omega) (by omega)) (by rw [Int.toNat_natCast, rangeD_map]; exact e)) (ret_eq (cal_eq (cons_eq rfl rfl) rfl)))⟩
theorem fields_at {i : Nat} {st : List Cell} (h : Wl i st) : ∃ (v : D) (st' : List Cell), Fld v ∧ Wl i st' ∧ ∀ sl, callA 1 f__law_fields [] (consM (varM 0) nilM) ⟨.val (.cell i) :: sl, st⟩ = .ok v ⟨.val (.cell i) :: sl, st'⟩ := by
  obtain ⟨a, st1, a0, a1, w1, e1⟩ := draw_at h (m := 4) (by decide) (by decide)
  obtain ⟨b, st2, b0, b1, w2, e2⟩ := draw_at w1 (m := 4) (by decide) (by decide)
  obtain ⟨c, st3, c0, c1, w3, e3⟩ := draw_gen w2 (m := 1 + a) (by omega) (by omega)
  obtain ⟨d, st4, d0, d1, w4, e4⟩ := draw_gen w3 (m := b + 1) (by omega) (by omega)
  obtain ⟨sl, e5⟩ := fields_rest (.cell i) st4 (1 + a).toNat b.toNat c.toNat d.toNat (by omega) (by omega)
  rw [Int.toNat_of_nonneg (show 0 ≤ 1 + a by omega), Int.toNat_of_nonneg b0, Int.toNat_of_nonneg c0, Int.toNat_of_nonneg d0] at e5
  refine ⟨_, st4, ⟨(1 + a).toNat, b.toNat, c.toNat, d.toNat, rfl, by omega, by omega, by omega, by omega, by omega⟩, w4, call1 (sl0 := sl) (fin_eq (seq_eq (par_eq (bd_eq rfl (bd_eq (e1 _) rfl)) (e2 _)) (seq_eq (asg_eq (bd_eq (cons_eq (e3 _ _ rfl) (cons_eq (e4 _ _ (bd_eq rfl rfl)) rfl)) rfl) rfl) e5)))⟩
theorem template_at {i : Nat} {st : List Cell} (b : Bool) (h : Wl i st) : ∃ (v : D) (st' : List Cell), Tpl v ∧ Wl i st' ∧ ∀ (sl sl' : List Slot) (m : M D) (st0 : List Cell), m ⟨.val (.cell i) :: sl', st0⟩ = .ok (.bl b) ⟨.val (.cell i) :: sl, st⟩ →
    callA 2 f__law_template [] (consM (varM 0) (consM m nilM)) ⟨.val (.cell i) :: sl', st0⟩ = .ok v ⟨.val (.cell i) :: sl, st'⟩ := by
  obtain ⟨v, st', sl0, hv, w, e⟩ := template_ok b h
  exact ⟨v, st', hv, w, fun sl sl' m st0 hm => callA_eq (a' := ⟨sl0, st'⟩) (cons_eq rfl (cons_eq hm rfl)) rfl e⟩
theorem isz_at {i : Nat} {st : List Cell} {m : Int} (h : Wl i st) (hm : 0 < m) (hm2 : m ≤ 5) : ∃ (b : Bool) (st' : List Cell), Wl i st' ∧ ∀ sl, op2 eqM (callA 2 f__law_draw [] (consM (varM 0) (consM (ret (.int m)) nilM))) (ret (.int 0)) ⟨.val (.cell i) :: sl, st⟩ = .ok b ⟨.val (.cell i) :: sl, st'⟩ := by
  obtain ⟨r, st1, r0, r1, w1, e1⟩ := draw_at h hm (by omega)
  refine ⟨decide (r = 0), st1, w1, fun sl => bd_eq (e1 _) (bd_eq rfl ?_)⟩
  show opt (eqM (.int r) (.int 0)) _ = _
  rw [eq0_of r0 (by omega)]
  rfl
theorem bl_eq {m : M Bool} {a a' : AS} {b : Bool} (h : m a = .ok b a') : blM m a = .ok (.bl b) a' := bd_eq h rfl
def Inh (d : D) : Prop := ∃ xs, d = .tup [.str "inherited", .tup xs] ∧ xs.length ≤ 3 ∧ ∀ x ∈ xs, Nms x
def Mor (d : D) : Prop := ∃ xs, d = .tup xs ∧ 1 ≤ xs.length ∧ xs.length ≤ 8 ∧ ∀ x ∈ xs, Siz x
def Col (d : D) : Prop := Tpl d ∨ Inh d
abbrev lanesD : List D := [.str "start", .str "end", .str "center", .str "stretch", .str "between", .str "around", .str "evenly"]
abbrev inhM : M D := bd (consM (ret (.str "inherited")) (consM (calM tupleM (consM (bd (lcM [3] (range1M (consM (callA 2 f__law_draw [] (consM (varM 0) (consM (ret (.int 4)) nilM))) nilM)) (tgN 3) yesM (callA 1 f__law_names [] (consM (varM 0) nilM))) fun ds => ret (.lst ds)) nilM)) nilM)) fun xs => if xs.length ≤ 1000 then ret (.tup xs) else no
theorem inh_at {i : Nat} {st : List Cell} {some : List D} (h : Wl i st) : ∃ (v : D) (st' : List Cell), Inh v ∧ Wl i st' ∧ inhM ⟨[.val (.cell i), .val (.lst lanesD), .own some, .emp, .emp], st⟩ = .ok v ⟨[.val (.cell i), .val (.lst lanesD), .own some, .emp, .emp], st'⟩ := by
  obtain ⟨r, st1, r0, r1, w1, e1⟩ := draw_at h (m := 4) (by decide) (by decide)
  obtain ⟨vs, a2, e2, w2, l2, h2⟩ := lc_ok (i := i) (j := 3) (P := Nms) (sl := [.val (.cell i), .val (.lst lanesD), .emp, .emp, .emp]) (elt := callA 1 f__law_names [] (consM (varM 0) nilM))
    (fun d st w => by
      obtain ⟨y, st3, hy, w3, e3⟩ := names_at w
      exact ⟨y, _, hy, w3, e3 [.val (.lst lanesD), .emp, .val d, .emp]⟩) (rangeD 0 r.toNat) st1 [] w1 (by rw [rangeD_len, List.length_nil]; omega)
  rw [rangeD_len] at l2
  exact ⟨.tup [.str "inherited", .tup vs], a2.st, ⟨vs, rfl, by omega, h2⟩, w2, bd_eq (cons_eq rfl (cons_eq (cal_eq (cons_eq (bd_eq (lcM_eq (range_eq (cons_eq (e1 _) rfl) r0 (by omega)) e2) rfl) rfl) rfl) rfl)) rfl⟩
abbrev morM : M D := calM tupleM (consM (bd (lcM [4] (range1M (consM (opM addM (ret (.int 1)) (callA 2 f__law_draw [] (consM (varM 0) (consM (ret (.int 8)) nilM)))) nilM)) (tgN 4) yesM (callA 1 f__law_size [] (consM (varM 0) nilM))) fun ds => ret (.lst ds)) nilM)
theorem mor_at {i : Nat} {st : List Cell} {some : List D} {t : D} (h : Wl i st) : ∃ (v : D) (st' : List Cell), Mor v ∧ Wl i st' ∧ morM ⟨[.val (.cell i), .val (.lst lanesD), .own some, .val t, .emp], st⟩ = .ok v ⟨[.val (.cell i), .val (.lst lanesD), .own some, .val t, .emp], st'⟩ := by
  obtain ⟨r, st1, r0, r1, w1, e1⟩ := draw_at h (m := 8) (by decide) (by decide)
  obtain ⟨vs, a2, e2, w2, l2, h2⟩ := lc_ok (i := i) (j := 4) (P := Siz) (sl := [.val (.cell i), .val (.lst lanesD), .emp, .val t, .emp]) (elt := callA 1 f__law_size [] (consM (varM 0) nilM))
    (fun d st w => by
      obtain ⟨y, st3, hy, w3, e3⟩ := size_at w
      exact ⟨y, _, hy, w3, e3 [.val (.lst lanesD), .emp, .val t, .val d]⟩) (rangeD 0 (1 + r).toNat) st1 [] w1 (by rw [rangeD_len, List.length_nil]; omega)
  rw [rangeD_len] at l2
  exact ⟨.tup vs, a2.st, ⟨vs, rfl, by omega, by omega, h2⟩, w2, cal_eq (cons_eq (bd_eq (lcM_eq (range_eq (r := 1 + r) (cons_eq (bd_eq rfl (bd_eq (e1 _) rfl)) rfl) (by omega) (by omega)) e2) rfl) rfl) rfl⟩
structure V13 (vs : List D) : Prop where
  ex : ∃ (c1 c2 f m1 m2 fl g1 g2 j1 j2 s1 s2 : D) (b : Bool), vs = [c1, c2, f, m1, m2, fl, .bl b, g1, g2, j1, j2, s1, s2] ∧ Col c1 ∧ Col c2 ∧ Fld f ∧ Mor m1 ∧ Mor m2 ∧ fl ∈ ([.str "row", .str "column"] : List D) ∧ Fix g1 ∧ Fix g2 ∧ j1 ∈ lanesD ∧ j2 ∈ lanesD ∧
    s1 ∈ ([.str "start", .str "end", .str "center", .str "stretch"] : List D) ∧ s2 ∈ ([.str "start", .str "end", .str "center", .str "stretch", .str "baseline"] : List D)
theorem cat_eq {m n : M D} {a a1 a2 : AS} {x y : D} {xs ys : List D} (h : m a = .ok x a1) (k : n a1 = .ok y a2) (hx : lstOf a2.st x = some xs) (hy : lstOf a2.st y = some ys) (hl : xs.length + ys.length ≤ 100000) : catM m n a = .ok (xs ++ ys) a2 := bd_eq h (bd_eq k (by
  show opt ((lstOf a2.st x).bind fun xs => (lstOf a2.st y).bind fun ys => if xs.length + ys.length ≤ 100000 then some (xs ++ ys) else none) a2 = _
  rw [hx, hy]
  simp only [Option.bind_some]
  rw [if_pos hl]
  rfl))
theorem values_at {i : Nat} {st : List Cell} (h : Wl i st) : ∃ (vs : List D) (st' : List Cell), V13 vs ∧ Wl i st' ∧ ∀ sl, callA 1 f__law_values [] (consM (varM 0) nilM) ⟨.val (.cell i) :: sl, st⟩ = .ok (.lst vs) ⟨.val (.cell i) :: sl, st'⟩ := by
  obtain ⟨b1, s1, w1, e1⟩ := isz_at h (m := 2) (by decide) (by decide)
  obtain ⟨t1, s2, ht1, w2, e2⟩ := template_at b1 w1
  obtain ⟨b2, s3, w3, e3⟩ := isz_at w2 (m := 3) (by decide) (by decide)
  obtain ⟨t2, s4, ht2, w4, e4⟩ := template_at b2 w3
  obtain ⟨f, s5, hf, w5, e5⟩ := fields_at w4
  obtain ⟨b3, s6, w6, e6⟩ := isz_at w5 (m := 5) (by decide) (by decide)
  obtain ⟨c1, c2, s7, hc1, hc2, w7, e7⟩ : ∃ c1 c2 s7, Col c1 ∧ Col c2 ∧ Wl i s7 ∧ ifM (op2 eqM (callA 2 f__law_draw [] (consM (varM 0) (consM (ret (.int 5)) nilM))) (ret (.int 0))) (subO 2 (callA 2 f__law_draw [] (consM (varM 0) (consM (ret (.int 2)) nilM))) inhM) (nxM)
      ⟨[.val (.cell i), .val (.lst lanesD), .own [t1, t2, f], .emp, .emp], s5⟩ = .ok .nx ⟨[.val (.cell i), .val (.lst lanesD), .own [c1, c2, f], .emp, .emp], s7⟩ := by
    cases b3 with
    | false => exact ⟨t1, t2, s6, .inl ht1, .inl ht2, w6, if_eq (e6 _) rfl⟩
    | true =>
      obtain ⟨n, u1, hn, x1, y1⟩ := inh_at (some := [t1, t2, f]) w6
      obtain ⟨k, u2, k0, k1, x2, y2⟩ := draw_at x1 (m := 2) (by decide) (by decide)
      obtain rfl | rfl : k = 0 ∨ k = 1 := by omega
      · refine ⟨n, t2, u2, .inr hn, .inl ht2, x2, if_eq (e6 _) ?_⟩
        rw [if_pos rfl]
        refine bd_eq y1 ?_
        show (match ownAt 2 ⟨[.val (.cell i), .val (.lst lanesD), .own [t1, t2, f], .emp, .emp], u1⟩ with
          | none => Out.stuck
          | some _ => (callA 2 f__law_draw [] (consM (varM 0) (consM (ret (.int 2)) nilM)) ⟨[.val (.cell i), .val (.lst lanesD), .own [t1, t2, f], .emp, .emp], u1⟩).bind _) = _
        rw [y2]
        rfl
      · refine ⟨t1, n, u2, .inl ht1, .inr hn, x2, if_eq (e6 _) ?_⟩
        rw [if_pos rfl]
        refine bd_eq y1 ?_
        show (match ownAt 2 ⟨[.val (.cell i), .val (.lst lanesD), .own [t1, t2, f], .emp, .emp], u1⟩ with
          | none => Out.stuck
          | some _ => (callA 2 f__law_draw [] (consM (varM 0) (consM (ret (.int 2)) nilM)) ⟨[.val (.cell i), .val (.lst lanesD), .own [t1, t2, f], .emp, .emp], u1⟩).bind _) = _
        rw [y2]
        rfl
  obtain ⟨m1, s8, hm1, w8, e8⟩ := mor_at (some := [c1, c2, f]) (t := .int (0 + ((0 : Nat) : Int))) w7
  obtain ⟨m2, s9, hm2, w9, e9⟩ := mor_at (some := [c1, c2, f, m1]) (t := .int (0 + ((1 : Nat) : Int))) w8
  obtain ⟨fl, s10, hfl, w10, e10⟩ := one_at (ds := [.str "row", .str "column"]) w9 (by decide) (by decide)
  obtain ⟨b, s11, w11, e11⟩ := isz_at w10 (m := 2) (by decide) (by decide)
  obtain ⟨g1, s12, hg1, w12, e12⟩ := fixed_at w11
  obtain ⟨g2, s13, hg2, w13, e13⟩ := fixed_at w12
  obtain ⟨j1, s14, hj1, w14, e14⟩ := one_at (ds := lanesD) w13 (by decide) (by decide)
  obtain ⟨j2, s15, hj2, w15, e15⟩ := one_at (ds := lanesD) w14 (by decide) (by decide)
  obtain ⟨k1, s16, hk1, w16, e16⟩ := one_at (ds := [.str "start", .str "end", .str "center", .str "stretch"]) w15 (by decide) (by decide)
  obtain ⟨k2, s17, hk2, w17, e17⟩ := one_at (ds := [.str "start", .str "end", .str "center", .str "stretch", .str "baseline"]) w16 (by decide) (by decide)
  have l : ∀ n : Nat, n < 100 → n < 1000 := fun n h => by omega
  have E1 : ownM 2 (bd (consM (callA 2 f__law_template [] (consM (varM 0) (consM (blM (op2 eqM (callA 2 f__law_draw [] (consM (varM 0) (consM (ret (.int 2)) nilM))) (ret (.int 0)))) nilM))) (consM (callA 2 f__law_template [] (consM (varM 0) (consM (blM (op2 eqM (callA 2 f__law_draw [] (consM (varM 0) (consM (ret (.int 3)) nilM))) (ret (.int 0)))) nilM))) nilM)) fun xs => if xs.length ≤ 1000 then ret xs else no)
      ⟨[.val (.cell i), .val (.lst lanesD), .emp, .emp, .emp], st⟩ = .ok .nx ⟨[.val (.cell i), .val (.lst lanesD), .own [t1, t2], .emp, .emp], s4⟩ :=
    own_eq (a' := ⟨[.val (.cell i), .val (.lst lanesD), .emp, .emp, .emp], s4⟩) (bd_eq (cons_eq (e2 _ _ _ _ (bl_eq (e1 _))) (cons_eq (e4 _ _ _ _ (bl_eq (e3 _))) rfl)) rfl)
  have E2 : exprM (methO 2 appF (consM (callA 1 f__law_fields [] (consM (varM 0) nilM)) nilM)) ⟨[.val (.cell i), .val (.lst lanesD), .own [t1, t2], .emp, .emp], s4⟩ = .ok .nx ⟨[.val (.cell i), .val (.lst lanesD), .own [t1, t2, f], .emp, .emp], s5⟩ :=
    expr_eq (meth_eq (a1 := ⟨[.val (.cell i), .val (.lst lanesD), .own [t1, t2], .emp, .emp], s5⟩) rfl (cons_eq (e5 _) rfl) rfl (app_some (l 2 (by decide))))
  have E3 : forM (range1M (consM (ret (.int 2)) nilM)) (tgN 3) (exprM (methO 2 appF (consM morM nilM))) ⟨[.val (.cell i), .val (.lst lanesD), .own [c1, c2, f], .emp, .emp], s7⟩ = .ok .nx ⟨[.val (.cell i), .val (.lst lanesD), .own [c1, c2, f, m1, m2], .val (.int (0 + ((1 : Nat) : Int))), .emp], s9⟩ :=
    bd_eq (x := [.int (0 + ((0 : Nat) : Int)), .int (0 + ((1 : Nat) : Int))]) rfl (for_cons rfl (expr_eq (meth_eq (a1 := ⟨[.val (.cell i), .val (.lst lanesD), .own [c1, c2, f], .val (.int (0 + ((0 : Nat) : Int))), .emp], s8⟩) rfl (cons_eq e8 rfl) rfl (app_some (l 3 (by decide)))))
      (for_cons rfl (expr_eq (meth_eq (a1 := ⟨[.val (.cell i), .val (.lst lanesD), .own [c1, c2, f, m1], .val (.int (0 + ((1 : Nat) : Int))), .emp], s9⟩) rfl (cons_eq e9 rfl) rfl (app_some (l 4 (by decide))))) rfl))
  have fin : f__law_values [.cell i] st = .ok (.lst [c1, c2, f, m1, m2, fl, .bl b, g1, g2, j1, j2, k1, k2]) ⟨[.val (.cell i), .val (.lst lanesD), .val (.lst [c1, c2, f, m1, m2, fl, .bl b, g1, g2, j1, j2]), .val (.int (0 + ((1 : Nat) : Int))), .emp], s17⟩ := by
    refine fin_eq (seq_eq rfl (seq_eq E1 (seq_eq E2 (seq_eq e7 (seq_eq E3 ?_)))))
    refine seq_eq (own_eq (cat_eq (xs := [c1, c2, f, m1, m2]) (ys := [fl, .bl b, g1, g2]) rfl (bd_eq (bd_eq (cons_eq (e10 _ _ _ _ rfl) (cons_eq (bl_eq (e11 _)) (cons_eq (e12 _) (cons_eq (e13 _) rfl)))) rfl) rfl) rfl rfl (show (5 : Nat) + 4 ≤ 100000 by decide))) ?_
    refine seq_eq (own_eq (cat_eq (xs := [c1, c2, f, m1, m2, fl, .bl b, g1, g2]) (ys := [j1, j2]) rfl (bd_eq (bd_eq (cons_eq (e14 _ _ _ _ rfl) (cons_eq (e15 _ _ _ _ rfl) rfl)) rfl) rfl) rfl rfl (show (9 : Nat) + 2 ≤ 100000 by decide))) ?_
    exact ret_eq (bd_eq (cat_eq (xs := [c1, c2, f, m1, m2, fl, .bl b, g1, g2, j1, j2]) (ys := [k1, k2]) rfl (bd_eq (bd_eq (cons_eq (e16 _ _ _ _ rfl) (cons_eq (e17 _ _ _ _ rfl) rfl)) rfl) rfl) rfl rfl (show (11 : Nat) + 2 ≤ 100000 by decide)) rfl)
  exact ⟨_, s17, ⟨c1, c2, f, m1, m2, fl, g1, g2, j1, j2, k1, k2, b, rfl, hc1, hc2, hf, hm1, hm2, hfl, hg1, hg2, hj1, hj2, hk1, hk2⟩, w17, call1 fin⟩
end PL.k05

namespace PL.k05
open PySem PL
def Is (f : FD) (d : D) (b : Bool) : Prop := ∀ st, ∃ sl, f [d] st = .ok (.bl b) ⟨sl, st⟩
theorem Is.at_ {f : FD} {d : D} {b : Bool} (h : Is f d b) {sl : List Slot} {st : List Cell} {m : M D} (hm : m ⟨sl, st⟩ = .ok d ⟨sl, st⟩) : callA 1 f [] (consM m nilM) ⟨sl, st⟩ = .ok (.bl b) ⟨sl, st⟩ := by
  obtain ⟨sl0, e⟩ := h st
  exact callA_eq (a' := ⟨sl0, st⟩) (cons_eq hm rfl) rfl e
theorem len_int (i : Int) : Is f_is_length (.int i) (decide (0 ≤ i)) := fun st => ⟨_, rfl⟩
theorem len_12 : Is f_is_length (.tup [.int 1, .int 2]) true := fun st => ⟨_, rfl⟩
theorem len_13 : Is f_is_length (.tup [.int 1, .int 3]) true := fun st => ⟨_, rfl⟩
theorem is_len {d : D} (h : Len d) : Is f_is_length d true := by
  cases h with
  | int h => have := len_int (by assumption); rw [decide_eq_true h] at this; exact this
  | h12 => exact len_12
  | h13 => exact len_13
theorem len_str (x : Str) : Is f_is_length (.str x) false := fun st => ⟨_, rfl⟩
theorem len_pair (x : Str) (d : D) : Is f_is_length (.tup [.str x, d]) false := fun st => ⟨_, rfl⟩
theorem len_three (x y z : D) : Is f_is_length (.tup [x, y, z]) false := fun st => ⟨_, rfl⟩
theorem or_t {m n : M D} {a a' : AS} (h : m a = .ok (.bl true) a') : orV m n a = .ok (.bl true) a' := bd_eq h rfl
theorem or_f {m n : M D} {a a' : AS} {o : Out D} (h : m a = .ok (.bl false) a') (k : n a' = o) : orV m n a = o := bd_eq h k
theorem an_f {m n : M D} {a a' : AS} (h : m a = .ok (.bl false) a') : andV m n a = .ok (.bl false) a' := bd_eq h rfl
theorem an_t {m n : M D} {a a' : AS} {o : Out D} (h : m a = .ok (.bl true) a') (k : n a' = o) : andV m n a = o := bd_eq h k
theorem part_of {d : D} {b : Bool} (h : Is f_is_length d b) : Is f_is_part (.tup [.str "part", d]) b := fun st => ⟨_, fin_eq (seq_eq rfl (ret_eq (h.at_ rfl)))⟩
theorem part_str (x : Str) : Is f_is_part (.str x) false := fun st => ⟨_, rfl⟩
theorem part_share (d : D) : Is f_is_part (.tup [.str "share", d]) false := fun st => ⟨_, rfl⟩
theorem part_upto (d : D) : Is f_is_part (.tup [.str "upto", d]) false := fun st => ⟨_, rfl⟩
theorem part_names (d : D) : Is f_is_part (.tup [.str "names", d]) false := fun st => ⟨_, rfl⟩
theorem part_three (x y z : D) : Is f_is_part (.tup [x, y, z]) false := fun st => ⟨_, rfl⟩
theorem fixed_of {d : D} {b c : Bool} (h : Is f_is_length d b) (k : Is f_is_part d c) : Is f_is_fixed d (b || c) := fun st => by
  cases b with
  | true => exact ⟨_, fin_eq (ret_eq (or_t (h.at_ rfl)))⟩
  | false => exact ⟨_, fin_eq (ret_eq (or_f (h.at_ rfl) (k.at_ rfl)))⟩
theorem is_fix {d : D} (h : Fix d) : Is f_is_fixed d true := by
  cases h with
  | len h => exact fun st => ⟨_, fin_eq (ret_eq (or_t ((is_len h).at_ rfl)))⟩
  | part h => exact fixed_of (len_pair _ _) (part_of (is_len h))
theorem fix_str (x : Str) : Is f_is_fixed (.str x) false := fixed_of (len_str x) (part_str x)
theorem fix_share (d : D) : Is f_is_fixed (.tup [.str "share", d]) false := fixed_of (len_pair _ _) (part_share d)
theorem fix_upto (d : D) : Is f_is_fixed (.tup [.str "upto", d]) false := fixed_of (len_pair _ _) (part_upto d)
theorem fix_names (d : D) : Is f_is_fixed (.tup [.str "names", d]) false := fixed_of (len_pair _ _) (part_names d)
theorem fix_three (x y z : D) : Is f_is_fixed (.tup [x, y, z]) false := fixed_of (len_three x y z) (part_three x y z)
theorem is_sha {d : D} (h : Sha d) : Is f_is_share d true := by
  cases h with
  | share h => exact fun st => ⟨_, fin_eq (seq_eq rfl (ret_eq ((is_len h).at_ rfl)))⟩
theorem sha_str (x : Str) : Is f_is_share (.str x) false := fun st => ⟨_, rfl⟩
theorem sha_upto (d : D) : Is f_is_share (.tup [.str "upto", d]) false := fun st => ⟨_, rfl⟩
theorem sha_names (d : D) : Is f_is_share (.tup [.str "names", d]) false := fun st => ⟨_, rfl⟩
theorem sha_three (x y z : D) : Is f_is_share (.tup [x, y, z]) false := fun st => ⟨_, rfl⟩
theorem is_wrd {d : D} (h : Wrd d) : Is f_is_word d true := by
  cases h <;> exact fun st => ⟨_, rfl⟩
theorem wrd_tup (ds : List D) : Is f_is_word (.tup ds) false := fun st => ⟨_, rfl⟩
theorem wrd_int (i : Int) : Is f_is_word (.int i) false := fun st => ⟨_, rfl⟩
theorem upto_str (x : Str) : Is f_is_upto (.str x) false := fun st => ⟨_, rfl⟩
theorem upto_three (x y z : D) : Is f_is_upto (.tup [x, y, z]) false := fun st => ⟨_, rfl⟩
theorem upto_names (d : D) : Is f_is_upto (.tup [.str "names", d]) false := fun st => ⟨_, rfl⟩
theorem is_upt {d : D} (h : Fix d) : Is f_is_upto (.tup [.str "upto", d]) true := fun st => ⟨_, fin_eq (ret_eq (an_t rfl (an_t rfl (an_t rfl ((is_fix h).at_ rfl)))))⟩
theorem btw_names (d : D) : Is f_is_between (.tup [.str "names", d]) false := fun st => ⟨_, rfl⟩
theorem fix_wrd {d : D} (h : Wrd d) : Is f_is_fixed d false := by cases h <;> exact fix_str _
theorem wrd_sha {d : D} (h : Sha d) : Is f_is_word d false := by cases h; exact wrd_tup _
theorem fix_sha {d : D} (h : Sha d) : Is f_is_fixed d false := by cases h; exact fix_share _
theorem is_btw {x y : D} (hx : Fix x ∨ Wrd x) (hy : Fix y ∨ Wrd y ∨ Sha y) : Is f_is_between (.tup [.str "between", x, y]) true := fun st => by
  have hlow : orV (callA 1 f_is_fixed [] (consM (varM 1) nilM)) (callA 1 f_is_word [] (consM (varM 1) nilM)) ⟨[.val (.tup [.str "between", x, y]), .val x, .val y], st⟩ = .ok (.bl true) ⟨[.val (.tup [.str "between", x, y]), .val x, .val y], st⟩ := by
    rcases hx with h | h
    · exact or_t ((is_fix h).at_ rfl)
    · exact or_f ((fix_wrd h).at_ rfl) ((is_wrd h).at_ rfl)
  have hhigh : orV (callA 1 f_is_fixed [] (consM (varM 2) nilM)) (orV (callA 1 f_is_word [] (consM (varM 2) nilM)) (callA 1 f_is_share [] (consM (varM 2) nilM))) ⟨[.val (.tup [.str "between", x, y]), .val x, .val y], st⟩ = .ok (.bl true) ⟨[.val (.tup [.str "between", x, y]), .val x, .val y], st⟩ := by
    rcases hy with h | h | h
    · exact or_t ((is_fix h).at_ rfl)
    · exact or_f ((fix_wrd h).at_ rfl) (or_t ((is_wrd h).at_ rfl))
    · exact or_f ((fix_sha h).at_ rfl) (or_f ((wrd_sha h).at_ rfl) ((is_sha h).at_ rfl))
  exact ⟨_, fin_eq (seq_eq rfl (seq_eq rfl (ret_eq (an_t hlow hhigh))))⟩
theorem is_siz {d : D} (h : Siz d) : Is f_is_size d true := by
  cases h with
  | fix h => exact fun st => ⟨_, fin_eq (ret_eq (or_t ((is_fix h).at_ rfl)))⟩
  | sha h => exact fun st => ⟨_, fin_eq (ret_eq (or_f ((fix_sha h).at_ rfl) (or_t ((is_sha h).at_ rfl))))⟩
  | wrd h => exact fun st => ⟨_, fin_eq (ret_eq (or_f ((fix_wrd h).at_ rfl) (or_f (Is.at_ (by cases h <;> exact sha_str _) rfl) (or_t ((is_wrd h).at_ rfl)))))⟩
  | upto h => exact fun st => ⟨_, fin_eq (ret_eq (or_f ((fix_upto _).at_ rfl) (or_f ((sha_upto _).at_ rfl) (or_f ((wrd_tup _).at_ rfl) (or_t ((is_upt h).at_ rfl))))))⟩
  | between hx hy => exact fun st => ⟨_, fin_eq (ret_eq (or_f ((fix_three _ _ _).at_ rfl) (or_f ((sha_three _ _ _).at_ rfl) (or_f ((wrd_tup _).at_ rfl) (or_f ((upto_three _ _ _).at_ rfl) ((is_btw hx hy).at_ rfl))))))⟩
theorem siz_names (d : D) : Is f_is_size (.tup [.str "names", d]) false := fun st => ⟨_, fin_eq (ret_eq (or_f ((fix_names _).at_ rfl) (or_f ((sha_names _).at_ rfl) (or_f ((wrd_tup _).at_ rfl) (or_f ((upto_names _).at_ rfl) ((btw_names _).at_ rfl))))))⟩
theorem is_nm {d : D} (h : d ∈ namesD) : Is f_is_name d true := by
  simp only [List.mem_cons, List.not_mem_nil, or_false] at h
  rcases h with rfl | rfl | rfl | rfl | rfl | rfl
  · exact fun st => ⟨_, rfl⟩
  · exact fun st => ⟨_, rfl⟩
  · exact fun st => ⟨_, rfl⟩
  · exact fun st => ⟨_, rfl⟩
  · exact fun st => ⟨_, rfl⟩
  · exact fun st => ⟨_, rfl⟩
theorem lc_is {j : Nat} {f : FD} {sl : List Slot} {st : List Cell} {g : D → Bool} (ds : List D) (h : ∀ d ∈ ds, Is f d (g d)) (hv : ∀ d, varM j ⟨sl.set j (.val d), st⟩ = .ok d ⟨sl.set j (.val d), st⟩) (hl : ds.length < 1000) :
    lcL (tgN j) yesM (callA 1 f [] (consM (varM j) nilM)) sl ds st [] = .ok (ds.map fun d => .bl (g d)) ⟨[], st⟩ := by
  have := lc_pure (j := j) (elt := callA 1 f [] (consM (varM j) nilM)) (sl := sl) (st := st) (g := fun d => .bl (g d)) ds [] (fun d hd => ⟨_, (h d hd).at_ (hv d)⟩) (by rw [List.length_nil]; omega)
  rw [List.nil_append] at this
  exact this
theorem all_true : ∀ ds : List D, blsOf (ds.map fun _ => D.bl true) = some (ds.map fun _ => true)
  | [] => rfl
  | d :: ds => by
    rw [List.map_cons, List.map_cons]
    unfold blsOf
    rw [all_true ds]
    rfl
theorem all_id : ∀ ds : List D, (ds.map fun _ => true).all id = true
  | [] => rfl
  | d :: ds => by rw [List.map_cons, List.all_cons, all_id ds]; rfl
theorem all_is {j : Nat} {f : FD} {sl : List Slot} {st : List Cell} {mi : M (List D)} {ds : List D} {vs : List Nat} (hm : mi ⟨sl, st⟩ = .ok ds ⟨sl, st⟩) (h : ∀ d ∈ ds, Is f d true) (hv : ∀ d, varM j ⟨(hideL vs sl).set j (.val d), st⟩ = .ok d ⟨(hideL vs sl).set j (.val d), st⟩) (hl : ds.length < 1000) :
    calM allM (consM (bd (lcM vs mi (tgN j) yesM (callA 1 f [] (consM (varM j) nilM))) fun ds => ret (.lst ds)) nilM) ⟨sl, st⟩ = .ok (.bl true) ⟨sl, st⟩ := by
  refine cal_eq (xs := [.lst (ds.map fun _ => .bl true)]) (cons_eq (bd_eq (lcM_eq hm (lc_is (g := fun _ => true) ds h hv hl)) rfl) rfl) ?_
  show (blsOf (ds.map fun _ => D.bl true)).map (fun bs => D.bl (bs.all id)) = _
  rw [all_true]
  show some (D.bl ((ds.map fun _ => true).all id)) = _
  rw [all_id]
theorem is_nms {d : D} (h : Nms d) : Is f_are_names d true := by
  obtain ⟨ns, rfl, hl, hn⟩ := h
  exact fun st => ⟨_, fin_eq (ret_eq (an_t rfl (all_is rfl (fun d hd => is_nm (hn d hd)) (fun d => rfl) (by omega))))⟩
theorem is_inh {d : D} (h : Inh d) : Is f_is_inherited d true := by
  obtain ⟨xs, rfl, hl, hn⟩ := h
  intro st
  refine ⟨_, fin_eq (seq_eq rfl (ret_eq (an_t rfl (an_t (bl_eq (b := true) (op2_eq (cal_eq (cons_eq rfl rfl) rfl) rfl (by show some (decide ((xs.length : Int) ≤ 40)) = _; rw [decide_eq_true (by omega)]))) (all_is rfl (fun d hd => is_nms (hn d hd)) (fun d => rfl) (by omega))))))⟩
theorem pe_nam {d : D} (h : Nam d) : Is f_is_plain_entry d true := by
  obtain ⟨x, rfl, hx⟩ := h
  exact fun st => ⟨_, fin_eq (seq_ret (if_eq rfl (ret_eq ((is_nms hx).at_ rfl))))⟩
theorem siz_shape {d : D} (h : Siz d) {P : D → Prop} (hi : ∀ i, P (.int i)) (hs : ∀ w, Wrd w → P w) (h2 : ∀ i j : Int, P (.tup [.int i, .int j])) (hp : ∀ x, P (.tup [.str "part", x])) (hh : ∀ x, P (.tup [.str "share", x])) (hu : ∀ x, P (.tup [.str "upto", x])) (h3 : ∀ x y, P (.tup [.str "between", x, y])) : P d := by
  cases h with
  | fix h =>
    cases h with
    | len h => cases h <;> first | exact hi _ | exact h2 _ _
    | part h => exact hp _
  | sha h => cases h; exact hh _
  | wrd h => exact hs _ h
  | upto h => exact hu _
  | between hx hy => exact h3 _ _
abbrev peC : M Fl := ifM (andM (tstM (calM (isiM tb.ins) (consM (varM 0) (consM (ret (.ty "tuple")) nilM)))) (andM (op2 eqM (calM lenM (consM (varM 0) nilM)) (ret (.int 2))) (op2 eqM (bd (varM 0) fun x => bd (ret (.int 0)) fun i => rdM fun st => ixM st x i) (ret (.str "names")))))
    (retM (callA 1 f_are_names [] (consM (bd (varM 0) fun x => bd (ret (.int 1)) fun i => rdM fun st => ixM st x i) nilM)))
    (nxM)
theorem pe_siz {d : D} (h : Siz d) : Is f_is_plain_entry d true := fun st => by
  have key : peC ⟨[.val d], st⟩ = .ok .nx ⟨[.val d], st⟩ := by
    refine siz_shape h (P := fun d => peC ⟨[.val d], st⟩ = .ok .nx ⟨[.val d], st⟩) (fun i => rfl) (fun w hw => ?_) (fun i j => rfl) (fun x => rfl) (fun x => rfl) (fun x => rfl) (fun x y => rfl)
    cases hw <;> rfl
  exact ⟨_, fin_eq (seq_eq key (ret_eq ((is_siz h).at_ rfl)))⟩
theorem len_pl {d : D} (h : Len d) : d.pl = true := by cases h <;> rfl
theorem fix_pl {d : D} (h : Fix d) : d.pl = true := by
  cases h with
  | len h => exact len_pl h
  | part h => unfold D.pl plL plL plL; rw [len_pl h]; rfl
theorem sha_pl {d : D} (h : Sha d) : d.pl = true := by
  cases h with
  | share h => unfold D.pl plL plL plL; rw [len_pl h]; rfl
theorem wrd_pl {d : D} (h : Wrd d) : d.pl = true := by cases h <;> rfl
theorem siz_pl {d : D} (h : Siz d) : d.pl = true := by
  cases h with
  | fix h => exact fix_pl h
  | sha h => exact sha_pl h
  | wrd h => exact wrd_pl h
  | upto h => unfold D.pl plL plL plL; rw [fix_pl h]; rfl
  | between hx hy =>
    have h1 : ∀ {z : D}, Fix z ∨ Wrd z → z.pl = true := fun h => h.elim fix_pl wrd_pl
    have h2 : ∀ {z : D}, Fix z ∨ Wrd z ∨ Sha z → z.pl = true := fun h => h.elim fix_pl fun h => h.elim wrd_pl sha_pl
    unfold D.pl plL plL plL plL
    rw [h1 hx, h2 hy]
    rfl
theorem lc_filter {j : Nat} {test : M Bool} {elt : M D} {sl : List Slot} {st : List Cell} {g : D → Bool} : ∀ (ds acc : List D), (∀ d ∈ ds, test ⟨sl.set j (.val d), st⟩ = .ok (g d) ⟨sl.set j (.val d), st⟩ ∧ elt ⟨sl.set j (.val d), st⟩ = .ok d ⟨sl.set j (.val d), st⟩) → acc.length + ds.length < 100000 → lcL (tgN j) test elt sl ds st acc = .ok (acc ++ ds.filter g) ⟨[], st⟩
  | [], acc, _, _ => by rw [List.filter_nil, List.append_nil]; rfl
  | d :: ds, acc, h, hl => by
    rw [List.length_cons] at hl
    obtain ⟨e1, e2⟩ := h d (by simp)
    unfold lcL
    show (match test ⟨sl.set j (.val d), st⟩ with
      | .ok true b2 => (match elt b2 with
        | .ok y b3 => if acc.length < 100000 then lcL (tgN j) test elt sl ds b3.st (acc ++ [y]) else Out.stuck
        | _ => Out.stuck)
      | .ok false b2 => lcL (tgN j) test elt sl ds b2.st acc
      | _ => Out.stuck) = _
    rw [e1]
    cases hg : g d with
    | true =>
      dsimp only
      rw [e2]
      dsimp only
      rw [if_pos (by omega), List.filter_cons_of_pos hg]
      have ih := lc_filter (j := j) (test := test) (elt := elt) (sl := sl) (st := st) (g := g) ds (acc ++ [d]) (fun x hx => h x (by simp [hx])) (by rw [List.length_append, List.length_singleton]; omega)
      rw [ih, List.append_assoc]
      rfl
    | false =>
      dsimp only
      rw [List.filter_cons_of_neg (by rw [hg]; exact Bool.false_ne_true)]
      exact lc_filter (j := j) (test := test) (elt := elt) (sl := sl) (st := st) (g := g) ds acc (fun x hx => h x (by simp [hx])) (by omega)
theorem Ent.siz {b : Bool} {d : D} (h : Ent b d) : Siz d := by
  unfold Ent at h
  split at h
  · exact h.siz
  · exact h
def isNamE : D → Bool
  | .tup [.str x, _] => x == "names"
  | _ => false
theorem nam_is {d : D} (h : Nam d) : isNamE d = true := by obtain ⟨x, rfl, _⟩ := h; rfl
theorem siz_isnt {d : D} (h : Siz d) : isNamE d = false := by
  refine siz_shape h (P := fun d => isNamE d = false) (fun i => rfl) (fun w hw => by cases hw <;> rfl) (fun i j => rfl) (fun x => rfl) (fun x => rfl) (fun x => rfl) (fun x y => rfl)
theorem size_of_ent {b : Bool} {d : D} (h : Nam d ∨ Ent b d) : Is f_is_size d (!isNamE d) := by
  rcases h with h | h
  · rw [nam_is h]
    obtain ⟨x, rfl, _⟩ := h
    exact siz_names x
  · rw [siz_isnt h.siz]
    exact is_siz h.siz
theorem sizes_in_ok {b : Bool} {es : List D} (h : ∀ e ∈ es, Nam e ∨ Ent b e) (hl : es.length < 1000) (st : List Cell) : ∃ sl, f_sizes_in [.tup es] st = .ok (.lst (es.filter fun e => !isNamE e)) ⟨sl, st⟩ := by
  have k := lc_filter (j := 1) (test := tstM (callA 1 f_is_size [] (consM (varM 1) nilM))) (elt := varM 1) (sl := [.val (.tup es), .emp]) (st := st) (g := fun e => !isNamE e) es [] (fun d hd => ⟨bd_eq ((size_of_ent (h d hd)).at_ rfl) rfl, rfl⟩) (by rw [List.length_nil]; omega)
  rw [List.nil_append] at k
  exact ⟨_, fin_eq (ret_eq (bd_eq (lcM_eq (vs := [1]) rfl k) rfl))⟩
theorem sizes_in_mem {b : Bool} {es : List D} (h : ∀ e ∈ es, Nam e ∨ Ent b e) : ∀ d ∈ es.filter (fun e => !isNamE e), Ent b d := fun d hd => by
  obtain ⟨h1, h2⟩ := List.mem_filter.mp hd
  rcases h d h1 with z | z
  · rw [nam_is z] at h2; cases h2
  · exact z
theorem sizes_pl : ∀ {ds : List D}, (∀ d ∈ ds, Siz d) → plL ds = true
  | [], _ => rfl
  | d :: ds, h => by unfold plL; rw [siz_pl (h d (by simp)), sizes_pl fun x hx => h x (by simp [hx])]; rfl
theorem ne_nil {ds : List D} (h : ds ≠ []) (hp : plL ds = true) : neM (.lst ds) (.lst []) = some true := by
  cases ds with
  | nil => exact absurd rfl h
  | cons d ds =>
    unfold neM
    rw [if_pos (by
      rw [Bool.and_eq_true, Bool.and_eq_true]
      refine ⟨⟨by unfold D.pl; exact hp, rfl⟩, decide_eq_true ?_⟩
      exact Nat.le_trans (Nat.min_le_right _ _) (by decide))]
    rfl
theorem is_pln {b : Bool} {n : Nat} {d : D} (h : Pln b n d) (hn : n < 100) : Is f_are_plain d true := by
  obtain ⟨es, rfl, h1, ⟨e, he, h2⟩, h3⟩ := h
  intro st
  obtain ⟨sl, k⟩ := sizes_in_ok h1 (by omega) st
  have hne : es.filter (fun e => !isNamE e) ≠ [] := fun z => by
    have : e ∈ es.filter (fun e => !isNamE e) := List.mem_filter.mpr ⟨he, by rw [siz_isnt h2.siz]; rfl⟩
    rw [z] at this
    cases this
  have hall : calM allM (consM (bd (lcM [1] (seqM' (varM 0)) (tgN 1) yesM (callA 1 f_is_plain_entry [] (consM (varM 1) nilM))) fun ds => ret (.lst ds)) nilM) ⟨[.val (.tup es), .emp], st⟩ = .ok (.bl true) ⟨[.val (.tup es), .emp], st⟩ :=
    all_is rfl (fun d hd => by
      rcases h1 d hd with z | z
      · exact pe_nam z
      · exact pe_siz z.siz) (fun d => rfl) (by omega)
  refine ⟨_, fin_eq (seq_eq (if_eq (b := false) (bd_eq rfl (bd_eq (bd_eq hall rfl) rfl)) rfl) (ret_eq (bl_eq (op2_eq (callA_eq (a' := ⟨sl, st⟩) (cons_eq rfl rfl) rfl k) rfl (ne_nil hne (sizes_pl fun d hd => (sizes_in_mem h1 d hd).siz))))))⟩
theorem rp_rpt {b : Bool} {d : D} (h : Rpt b d) : Is f_is_repeat d true := by
  obtain ⟨k, x, rfl, h1, h2, hx⟩ := h
  intro st
  obtain rfl | rfl | rfl : k = 1 ∨ k = 2 ∨ k = 3 := by omega
  · exact ⟨_, fin_eq (seq_eq rfl (ret_eq (an_t rfl (an_t rfl ((is_pln hx (by decide)).at_ rfl)))))⟩
  · exact ⟨_, fin_eq (seq_eq rfl (ret_eq (an_t rfl (an_t rfl ((is_pln hx (by decide)).at_ rfl)))))⟩
  · exact ⟨_, fin_eq (seq_eq rfl (ret_eq (an_t rfl (an_t rfl ((is_pln hx (by decide)).at_ rfl)))))⟩
theorem rp_nam {d : D} (h : Nam d) : Is f_is_repeat d false := by obtain ⟨x, rfl, _⟩ := h; exact fun st => ⟨_, rfl⟩
theorem rp_siz {d : D} (h : Siz d) : Is f_is_repeat d false := by
  refine siz_shape h (P := fun d => Is f_is_repeat d false) (fun i st => ⟨_, rfl⟩) (fun w hw => by cases hw <;> exact fun st => ⟨_, rfl⟩) (fun i j st => ⟨_, rfl⟩) (fun x st => ⟨_, rfl⟩) (fun x st => ⟨_, rfl⟩) (fun x st => ⟨_, rfl⟩) (fun x y st => ⟨_, rfl⟩)
theorem rp_fil {d : D} (h : Fil d) : Is f_is_repeat d false := by
  obtain ⟨w, x, rfl, hw, _⟩ := h
  rcases hw with rfl | rfl <;> exact fun st => ⟨_, rfl⟩
theorem fl_fil {d : D} (h : Fil d) : Is f_is_filling d true := by
  obtain ⟨w, x, rfl, hw, hx⟩ := h
  rcases hw with rfl | rfl
  · exact fun st => ⟨_, fin_eq (seq_eq rfl (ret_eq ((is_pln hx (by decide)).at_ rfl)))⟩
  · exact fun st => ⟨_, fin_eq (seq_eq rfl (ret_eq ((is_pln hx (by decide)).at_ rfl)))⟩
theorem fl_nam {d : D} (h : Nam d) : Is f_is_filling d false := by obtain ⟨x, rfl, _⟩ := h; exact fun st => ⟨_, rfl⟩
theorem fl_rpt {b : Bool} {d : D} (h : Rpt b d) : Is f_is_filling d false := by obtain ⟨k, x, rfl, _⟩ := h; exact fun st => ⟨_, rfl⟩
theorem fl_siz {d : D} (h : Siz d) : Is f_is_filling d false := by
  refine siz_shape h (P := fun d => Is f_is_filling d false) (fun i st => ⟨_, rfl⟩) (fun w hw => by cases hw <;> exact fun st => ⟨_, rfl⟩) (fun i j st => ⟨_, rfl⟩) (fun x st => ⟨_, rfl⟩) (fun x st => ⟨_, rfl⟩) (fun x st => ⟨_, rfl⟩) (fun x y st => ⟨_, rfl⟩)
theorem low_fix {d : D} (h : Is f_is_fixed d true) : ∀ st, ∃ sl, f_low_of [d] st = .ok d ⟨sl, st⟩ := fun st => ⟨_, fin_eq (seq_ret (if_eq (b := true) (bd_eq (bd_eq (h.at_ rfl) rfl) rfl) (ret_eq rfl)))⟩
theorem cou_fix {d : D} (h : Fix d) : Is f_is_counted d true := fun st => by
  have hu : Is f_is_upto d false := by
    cases h with
    | len h => cases h <;> exact fun st => ⟨_, rfl⟩
    | part h => exact fun st => ⟨_, rfl⟩
  obtain ⟨sl, e⟩ := low_fix (is_fix h) st
  exact ⟨_, fin_eq (ret_eq (an_t (bd_eq (hu.at_ rfl) rfl) (or_t ((is_fix h).at_ (callA_eq (a' := ⟨sl, st⟩) (cons_eq rfl rfl) rfl e)))))⟩
theorem orm_f {m n : M Bool} {a a' : AS} {o : Out Bool} (h : m a = .ok false a') (k : n a' = o) : orM m n a = o := bd_eq h k
theorem orm_t {m n : M Bool} {a a' : AS} (h : m a = .ok true a') : orM m n a = .ok true a' := bd_eq h rfl
theorem ifm_t {α : Type} {c : M Bool} {m n : M α} {a a' : AS} {o : Out α} (h : c a = .ok true a') (k : m a' = o) : ifM c m n a = o := bd_eq h k
theorem ifm_f {α : Type} {c : M Bool} {m n : M α} {a a' : AS} {o : Out α} (h : c a = .ok false a') (k : n a' = o) : ifM c m n a = o := bd_eq h k
theorem tst_eq {m : M D} {a a' : AS} {b : Bool} (h : m a = .ok (.bl b) a') : tstM m a = .ok b a' := bd_eq h rfl
theorem low_btw {x y : D} (hx : Fix x ∨ Wrd x) (hy : Fix y ∨ Wrd y ∨ Sha y) : ∀ st, ∃ sl, f_low_of [.tup [.str "between", x, y]] st = .ok x ⟨sl, st⟩ := fun st =>
  ⟨_, fin_eq (seq_eq (ifm_f (orm_f (tst_eq ((fix_three _ _ _).at_ rfl)) (tst_eq ((wrd_tup _).at_ rfl))) rfl) (ret_eq (ifm_t (tst_eq ((is_btw hx hy).at_ rfl)) rfl)))⟩
theorem high_btw {x y : D} (hx : Fix x ∨ Wrd x) (hy : Fix y ∨ Wrd y ∨ Sha y) : ∀ st, ∃ sl, f_high_of [.tup [.str "between", x, y]] st = .ok y ⟨sl, st⟩ := fun st =>
  ⟨_, fin_eq (seq_ret (if_eq (b := true) (bd_eq ((is_btw hx hy).at_ rfl) rfl) (ret_eq rfl)))⟩
theorem is_cou {d : D} (h : Cou d) : Is f_is_counted d true := by
  cases h with
  | fix h => exact cou_fix h
  | low hx hy =>
    intro st
    obtain ⟨sl, e⟩ := low_btw (.inl hx) hy st
    exact ⟨_, fin_eq (ret_eq (an_t (bd_eq ((upto_three _ _ _).at_ rfl) rfl) (or_t ((is_fix hx).at_ (callA_eq (a' := ⟨sl, st⟩) (cons_eq rfl rfl) rfl e)))))⟩
  | high hx hy =>
    intro st
    obtain ⟨sl, e⟩ := low_btw (.inr hx) (.inl hy) st
    obtain ⟨sl2, e2⟩ := high_btw (.inr hx) (.inl hy) st
    exact ⟨_, fin_eq (ret_eq (an_t (bd_eq ((upto_three _ _ _).at_ rfl) rfl) (or_f ((fix_wrd hx).at_ (callA_eq (a' := ⟨sl, st⟩) (cons_eq rfl rfl) rfl e)) ((is_fix hy).at_ (callA_eq (a' := ⟨sl2, st⟩) (cons_eq rfl rfl) rfl e2)))))⟩
abbrev szB : M Fl := ifM (tstM (callA 1 f_is_repeat [] (consM (varM 2) nilM)))
    (exprM (methO 1 extF (consM (bd (repM (callA 1 f_sizes_in [] (consM (bd (varM 2) fun x => bd (ret (.int 2)) fun i => rdM fun st => ixM st x i) nilM)) (bd (varM 2) fun x => bd (ret (.int 1)) fun i => rdM fun st => ixM st x i)) fun ds => ret (.lst ds)) nilM)))
    (ifM (tstM (callA 1 f_is_filling [] (consM (varM 2) nilM)))
    (exprM (methO 1 extF (consM (callA 1 f_sizes_in [] (consM (bd (varM 2) fun x => bd (ret (.int 1)) fun i => rdM fun st => ixM st x i) nilM)) nilM)))
    (ifM (tstM (callA 1 f_is_size [] (consM (varM 2) nilM)))
    (exprM (methO 1 appF (consM (varM 2) nilM)))
    (nxM)))
theorem ext_some {st : List Cell} {ds es : List D} (h : ds.length + es.length < 1000) : extF st ds [.lst es] = some (ds ++ es) := by
  unfold extF
  show ((some es).bind fun es => if ds.length + es.length ≤ 100000 then some (ds ++ es) else none) = _
  simp only [Option.bind_some]
  rw [if_pos (by omega)]
theorem sizes_loop {b : Bool} {c : D} {st : List Cell} {w f : Nat} {es : List D} (h : Tl b w f es) : ∀ (acc : List D) (t : Slot), acc.length + w < 900 → ∃ fs t', forL (tgN 2) szB es ⟨[.val c, .own acc, t], st⟩ = .ok .nx ⟨[.val c, .own (acc ++ fs), t'], st⟩ ∧ fs.length ≤ w ∧ ∀ d ∈ fs, Ent b d := by
  induction h with
  | nil => intro acc t _; exact ⟨[], t, by rw [List.append_nil]; rfl, by simp, fun d hd => by simp at hd⟩
  | @nam e es w f h tl ih =>
    intro acc t hl
    obtain ⟨fs, t', k, h1, h2⟩ := ih acc (.val e) (by omega)
    have hs : Is f_is_size e false := by obtain ⟨x, rfl, _⟩ := h; exact siz_names x
    exact ⟨fs, t', for_cons rfl (ifm_f (tst_eq ((rp_nam h).at_ rfl)) (ifm_f (tst_eq ((fl_nam h).at_ rfl)) (ifm_f (tst_eq (hs.at_ rfl)) rfl))) k, by omega, h2⟩
  | @ent e es w f h tl ih =>
    intro acc t hl
    obtain ⟨fs, t', k, h1, h2⟩ := ih (acc ++ [e]) (.val e) (by rw [List.length_append, List.length_singleton]; omega)
    refine ⟨e :: fs, t', for_cons rfl (ifm_f (tst_eq ((rp_siz h.siz).at_ rfl)) (ifm_f (tst_eq ((fl_siz h.siz).at_ rfl)) (ifm_t (tst_eq ((is_siz h.siz).at_ rfl)) (expr_eq (meth_eq (a1 := ⟨[.val c, .own acc, .val e], st⟩) rfl (cons_eq rfl rfl) rfl (app_some (by omega))))))) (by refine Eq.trans k ?_; rw [List.append_assoc]; rfl), by rw [List.length_cons]; omega, fun d hd => ?_⟩
    rcases List.mem_cons.mp hd with rfl | hd
    · exact h
    · exact h2 d hd
  | @rpt e es w f h tl ih =>
    intro acc t hl
    have h0 := h
    obtain ⟨k, x, rfl, k1, k2, xs, rfl, hx, _, hxl⟩ := h
    obtain ⟨sl, es1⟩ := sizes_in_ok hx (by omega) st
    have hle : (xs.filter fun e => !isNamE e).length ≤ 4 := Nat.le_trans (List.length_filter_le _ _) (by omega)
    have hfl : ((List.replicate k.toNat (xs.filter fun e => !isNamE e)).flatten).length ≤ 12 := by
      obtain rfl | rfl | rfl : k = 1 ∨ k = 2 ∨ k = 3 := by omega
      all_goals (show (List.flatten (List.replicate _ _)).length ≤ 12; simp [List.replicate, List.flatten]; omega)
    obtain ⟨fs, t', kk, h1, h2⟩ := ih (acc ++ (List.replicate k.toNat (xs.filter fun e => !isNamE e)).flatten) (.val (.tup [.str "repeat", .int k, .tup xs])) (by rw [List.length_append]; omega)
    have hrep : repM (callA 1 f_sizes_in [] (consM (bd (varM 2) fun x => bd (ret (.int 2)) fun i => rdM fun st => ixM st x i) nilM)) (bd (varM 2) fun x => bd (ret (.int 1)) fun i => rdM fun st => ixM st x i) ⟨[.val c, .own acc, .val (.tup [.str "repeat", .int k, .tup xs])], st⟩ = .ok (List.replicate k.toNat (xs.filter fun e => !isNamE e)).flatten ⟨[.val c, .own acc, .val (.tup [.str "repeat", .int k, .tup xs])], st⟩ := by
      refine bd_eq (callA_eq (a' := ⟨sl, st⟩) (cons_eq rfl rfl) rfl es1) (bd_eq (x := .int k) rfl ?_)
      dsimp only
      rw [if_pos ⟨Nat.le_trans (Nat.mul_le_mul hle (show k.toNat ≤ 3 by omega)) (by decide), by omega, by omega⟩]
      rfl
    refine ⟨(List.replicate k.toNat (xs.filter fun e => !isNamE e)).flatten ++ fs, t', for_cons rfl (ifm_t (tst_eq ((rp_rpt h0).at_ rfl)) (expr_eq (meth_eq (a1 := ⟨[.val c, .own acc, .val (.tup [.str "repeat", .int k, .tup xs])], st⟩) rfl (cons_eq (bd_eq hrep rfl) rfl) rfl (ext_some (by omega))))) (by refine Eq.trans kk ?_; rw [List.append_assoc]), by rw [List.length_append]; omega, fun d hd => ?_⟩
    rcases List.mem_append.mp hd with hd | hd
    · obtain ⟨l, hl1, hl2⟩ := List.mem_flatten.mp hd
      rw [(List.mem_replicate.mp hl1).2] at hl2
      exact sizes_in_mem hx d hl2
    · exact h2 d hd
  | @fil e es w f hb h tl ih =>
    intro acc t hl
    have h0 := h
    obtain ⟨wd, x, rfl, hw, xs, rfl, hx, _, hxl⟩ := h
    obtain ⟨sl, es1⟩ := sizes_in_ok hx (by omega) st
    have hle : (xs.filter fun e => !isNamE e).length ≤ 4 := Nat.le_trans (List.length_filter_le _ _) (by omega)
    obtain ⟨fs, t', kk, h1, h2⟩ := ih (acc ++ (xs.filter fun e => !isNamE e)) (.val (.tup [wd, .tup xs])) (by rw [List.length_append]; omega)
    refine ⟨(xs.filter fun e => !isNamE e) ++ fs, t', for_cons rfl (ifm_f (tst_eq ((rp_fil h0).at_ rfl)) (ifm_t (tst_eq ((fl_fil h0).at_ rfl)) (expr_eq (meth_eq (a1 := ⟨[.val c, .own acc, .val (.tup [wd, .tup xs])], st⟩) rfl (cons_eq (callA_eq (a' := ⟨sl, st⟩) (cons_eq rfl rfl) rfl es1) rfl) rfl (ext_some (by omega)))))) (by refine Eq.trans kk ?_; rw [List.append_assoc]), by rw [List.length_append]; omega, fun d hd => ?_⟩
    rcases List.mem_append.mp hd with hd | hd
    · rw [hb]
      exact sizes_in_mem hx d hd
    · exact h2 d hd
theorem sizes_of_ok {b : Bool} {w f : Nat} {es : List D} (h : Tl b w f es) (hw : w < 100) (st : List Cell) : ∃ fs sl, f_sizes_of [.tup es] st = .ok (.lst fs) ⟨sl, st⟩ ∧ fs.length ≤ w ∧ ∀ d ∈ fs, Ent b d := by
  obtain ⟨fs, t', k, h1, h2⟩ := sizes_loop (c := .tup es) (st := st) h [] .emp (by rw [List.length_nil]; omega)
  rw [List.nil_append] at k
  exact ⟨fs, _, fin_eq (seq_eq rfl (seq_eq (bd_eq rfl k) (ret_eq rfl))), h1, h2⟩
theorem tl_all {b : Bool} {w f : Nat} {es : List D} (h : Tl b w f es) : ∀ d ∈ es, Nam d ∨ Ent b d ∨ Rpt b d ∨ (b = true ∧ Fil d) := by
  induction h with
  | nil => intro d hd; simp at hd
  | nam h t ih => intro d hd; rcases List.mem_cons.mp hd with rfl | hd; exact .inl h; exact ih d hd
  | ent h t ih => intro d hd; rcases List.mem_cons.mp hd with rfl | hd; exact .inr (.inl h); exact ih d hd
  | rpt h t ih => intro d hd; rcases List.mem_cons.mp hd with rfl | hd; exact .inr (.inr (.inl h)); exact ih d hd
  | fil hb h t ih => intro d hd; rcases List.mem_cons.mp hd with rfl | hd; exact .inr (.inr (.inr ⟨hb, h⟩)); exact ih d hd
theorem strs_pl : ∀ {ns : List D}, (∀ n ∈ ns, n ∈ namesD) → plL ns = true
  | [], _ => rfl
  | n :: ns, h => by
    have h1 : n.pl = true := by
      have := h n (by simp)
      simp only [List.mem_cons, List.not_mem_nil, or_false] at this
      rcases this with rfl | rfl | rfl | rfl | rfl | rfl <;> rfl
    unfold plL
    rw [h1, strs_pl fun x hx => h x (by simp [hx])]
    rfl
theorem nms_pl {d : D} (h : Nms d) : d.pl = true := by
  obtain ⟨ns, rfl, _, hn⟩ := h
  unfold D.pl
  exact strs_pl hn
theorem nam_pl {d : D} (h : Nam d) : d.pl = true := by
  obtain ⟨x, rfl, hx⟩ := h
  unfold D.pl plL plL plL
  rw [nms_pl hx]
  rfl
theorem all_pl : ∀ {ds : List D}, (∀ d ∈ ds, d.pl = true) → plL ds = true
  | [], _ => rfl
  | d :: ds, h => by unfold plL; rw [h d (by simp), all_pl fun x hx => h x (by simp [hx])]; rfl
theorem pln_pl {b : Bool} {n : Nat} {d : D} (h : Pln b n d) : d.pl = true := by
  obtain ⟨es, rfl, h1, _⟩ := h
  unfold D.pl
  exact all_pl fun d hd => (h1 d hd).elim nam_pl fun z => siz_pl z.siz
theorem rpt_pl {b : Bool} {d : D} (h : Rpt b d) : d.pl = true := by
  obtain ⟨k, x, rfl, _, _, hx⟩ := h
  unfold D.pl plL plL plL plL
  rw [pln_pl hx]
  rfl
theorem fil_pl {d : D} (h : Fil d) : d.pl = true := by
  obtain ⟨w, x, rfl, hw, hx⟩ := h
  unfold D.pl plL plL plL
  rw [pln_pl hx]
  rcases hw with rfl | rfl <;> rfl
theorem entry_pl {b : Bool} {d : D} (h : Nam d ∨ Ent b d ∨ Rpt b d ∨ (b = true ∧ Fil d)) : d.pl = true := by
  rcases h with h | h | h | ⟨_, h⟩
  · exact nam_pl h
  · exact siz_pl h.siz
  · exact rpt_pl h
  · exact fil_pl h
theorem ne_str {d : D} {x : Str} (h : d.pl = true) (e : eqB d (.str x) = false) : neM d (.str x) = some true := by
  unfold neM
  rw [if_pos (by
    rw [Bool.and_eq_true, Bool.and_eq_true]
    exact ⟨⟨h, rfl⟩, decide_eq_true (Nat.le_trans (Nat.min_le_right _ _) (show (0 : Nat) ≤ 60 by decide))⟩), e]
  rfl
theorem entry_no {b : Bool} {d : D} (h : Nam d ∨ Ent b d ∨ Rpt b d ∨ (b = true ∧ Fil d)) : neM d (.str "inherited") = some true := by
  refine ne_str (entry_pl h) ?_
  rcases h with h | h | h | ⟨_, h⟩
  · obtain ⟨x, rfl, _⟩ := h; rfl
  · exact siz_shape h.siz (P := fun d => eqB d (.str "inherited") = false) (fun i => rfl) (fun w hw => by cases hw <;> rfl) (fun i j => rfl) (fun x => rfl) (fun x => rfl) (fun x => rfl) (fun x y => rfl)
  · obtain ⟨k, x, rfl, _⟩ := h; rfl
  · obtain ⟨w, x, rfl, _⟩ := h; rfl
theorem inh_no {b : Bool} {w f : Nat} {es : List D} (h : Tl b w f es) (hw : w < 100) : Is f_is_inherited (.tup es) false := fun st => by
  have ha := tl_all h
  have hl := h.len
  by_cases h2 : es.length = 2
  · obtain ⟨e, e', rfl⟩ : ∃ e e', es = [e, e'] := by
      cases es with
      | nil => cases h2
      | cons e es => cases es with
        | nil => cases h2
        | cons e' es => cases es with
          | nil => exact ⟨e, e', rfl⟩
          | cons _ _ => simp at h2
    exact ⟨_, fin_eq (seq_ret (ifm_t (orm_f rfl (orm_f rfl (op2_eq rfl rfl (entry_no (ha e (by simp)))))) rfl))⟩
  · have hne : neM (.int (es.length : Int)) (.int 2) = some true := by
      show some (!decide ((es.length : Int) = 2)) = _
      rw [decide_eq_false (by omega)]
      rfl
    exact ⟨_, fin_eq (seq_ret (ifm_t (orm_f rfl (orm_t (op2_eq rfl rfl hne))) rfl))⟩
end PL.k05

namespace PL.k05
open PySem PL
theorem btw_rep (y z : D) : Is f_is_between (.tup [.str "repeat", y, z]) false := fun st => ⟨_, rfl⟩
theorem size_rpt {b : Bool} {d : D} (h : Rpt b d) : Is f_is_size d false := by
  obtain ⟨k, x, rfl, _⟩ := h
  exact fun st => ⟨_, fin_eq (ret_eq (or_f ((fix_three _ _ _).at_ rfl) (or_f ((sha_three _ _ _).at_ rfl) (or_f ((wrd_tup _).at_ rfl) (or_f ((upto_three _ _ _).at_ rfl) ((btw_rep _ _).at_ rfl))))))⟩
theorem part_fill (d : D) : Is f_is_part (.tup [.str "fill", d]) false := fun st => ⟨_, rfl⟩
theorem part_fit (d : D) : Is f_is_part (.tup [.str "fit", d]) false := fun st => ⟨_, rfl⟩
theorem sha_fill (d : D) : Is f_is_share (.tup [.str "fill", d]) false := fun st => ⟨_, rfl⟩
theorem sha_fit (d : D) : Is f_is_share (.tup [.str "fit", d]) false := fun st => ⟨_, rfl⟩
theorem upto_fill (d : D) : Is f_is_upto (.tup [.str "fill", d]) false := fun st => ⟨_, rfl⟩
theorem upto_fit (d : D) : Is f_is_upto (.tup [.str "fit", d]) false := fun st => ⟨_, rfl⟩
theorem btw_two (x y : D) : Is f_is_between (.tup [x, y]) false := fun st => ⟨_, rfl⟩
theorem size_fil {d : D} (h : Fil d) : Is f_is_size d false := by
  obtain ⟨w, x, rfl, hw, _⟩ := h
  rcases hw with rfl | rfl
  · exact fun st => ⟨_, fin_eq (ret_eq (or_f ((fixed_of (len_pair _ _) (part_fill x)).at_ rfl) (or_f ((sha_fill _).at_ rfl) (or_f ((wrd_tup _).at_ rfl) (or_f ((upto_fill _).at_ rfl) ((btw_two _ _).at_ rfl))))))⟩
  · exact fun st => ⟨_, fin_eq (ret_eq (or_f ((fixed_of (len_pair _ _) (part_fit x)).at_ rfl) (or_f ((sha_fit _).at_ rfl) (or_f ((wrd_tup _).at_ rfl) (or_f ((upto_fit _).at_ rfl) ((btw_two _ _).at_ rfl))))))⟩
theorem pe_rpt {b : Bool} {d : D} (h : Rpt b d) : Is f_is_plain_entry d false := fun st => by
  have h0 := h
  obtain ⟨k, x, rfl, _⟩ := h
  exact ⟨_, fin_eq (seq_eq (show peC ⟨[.val _], st⟩ = .ok .nx ⟨[.val _], st⟩ from rfl) (ret_eq ((size_rpt h0).at_ rfl)))⟩
theorem pe_fil {d : D} (h : Fil d) : Is f_is_plain_entry d false := fun st => by
  have h0 := h
  obtain ⟨w, x, rfl, hw, _⟩ := h
  rcases hw with rfl | rfl
  · exact ⟨_, fin_eq (seq_eq (show peC ⟨[.val _], st⟩ = .ok .nx ⟨[.val _], st⟩ from rfl) (ret_eq ((size_fil h0).at_ rfl)))⟩
  · exact ⟨_, fin_eq (seq_eq (show peC ⟨[.val _], st⟩ = .ok .nx ⟨[.val _], st⟩ from rfl) (ret_eq ((size_fil h0).at_ rfl)))⟩
abbrev teE : M D := orV (callA 1 f_is_plain_entry [] (consM (varM 2) nilM)) (orV (callA 1 f_is_repeat [] (consM (varM 2) nilM)) (callA 1 f_is_filling [] (consM (varM 2) nilM)))
theorem te_ok {b : Bool} {d : D} (h : Nam d ∨ Ent b d ∨ Rpt b d ∨ (b = true ∧ Fil d)) {sl : List Slot} {st : List Cell} (hv : varM 2 ⟨sl, st⟩ = .ok d ⟨sl, st⟩) : teE ⟨sl, st⟩ = .ok (.bl true) ⟨sl, st⟩ := by
  rcases h with h | h | h | ⟨_, h⟩
  · exact or_t ((pe_nam h).at_ hv)
  · exact or_t ((pe_siz h.siz).at_ hv)
  · exact or_f ((pe_rpt h).at_ hv) (or_t ((rp_rpt h).at_ hv))
  · exact or_f ((pe_fil h).at_ hv) (or_f ((rp_fil h).at_ hv) ((fl_fil h).at_ hv))
def isFilE : D → Bool
  | .tup [.str x, _] => x == "fill" || x == "fit"
  | _ => false
theorem fil_of {b : Bool} {d : D} (h : Nam d ∨ Ent b d ∨ Rpt b d ∨ (b = true ∧ Fil d)) : Is f_is_filling d (isFilE d) := by
  rcases h with h | h | h | ⟨_, h⟩
  · have e : isFilE d = false := by obtain ⟨x, rfl, _⟩ := h; rfl
    rw [e]; exact fl_nam h
  · have e : isFilE d = false := siz_shape h.siz (P := fun d => isFilE d = false) (fun i => rfl) (fun w hw => by cases hw <;> rfl) (fun i j => rfl) (fun x => rfl) (fun x => rfl) (fun x => rfl) (fun x y => rfl)
    rw [e]; exact fl_siz h.siz
  · have e : isFilE d = false := by obtain ⟨k, x, rfl, _⟩ := h; rfl
    rw [e]; exact fl_rpt h
  · have e : isFilE d = true := by obtain ⟨w, x, rfl, hw, _⟩ := h; rcases hw with rfl | rfl <;> rfl
    rw [e]; exact fl_fil h
theorem nam_nofil {d : D} (h : Nam d) : isFilE d = false := by obtain ⟨x, rfl, _⟩ := h; rfl
theorem siz_nofil {d : D} (h : Siz d) : isFilE d = false := siz_shape h (P := fun d => isFilE d = false) (fun i => rfl) (fun w hw => by cases hw <;> rfl) (fun i j => rfl) (fun x => rfl) (fun x => rfl) (fun x => rfl) (fun x y => rfl)
theorem rpt_nofil {b : Bool} {d : D} (h : Rpt b d) : isFilE d = false := by obtain ⟨k, x, rfl, _⟩ := h; rfl
theorem fil_fil {d : D} (h : Fil d) : isFilE d = true := by obtain ⟨w, x, rfl, hw, _⟩ := h; rcases hw with rfl | rfl <;> rfl
theorem fil_count {b : Bool} {w f : Nat} {es : List D} (h : Tl b w f es) : (es.filter isFilE).length = f := by
  induction h with
  | nil => rfl
  | nam h t ih => rw [List.filter_cons_of_neg (by rw [nam_nofil h]; exact Bool.false_ne_true), ih]
  | ent h t ih => rw [List.filter_cons_of_neg (by rw [siz_nofil h.siz]; exact Bool.false_ne_true), ih]
  | rpt h t ih => rw [List.filter_cons_of_neg (by rw [rpt_nofil h]; exact Bool.false_ne_true), ih]
  | fil hb h t ih => rw [List.filter_cons_of_pos (fil_fil h), List.length_cons, ih]
theorem all_go {j : Nat} {elt : M D} {sl : List Slot} {st : List Cell} {mi : M (List D)} {ds : List D} {vs : List Nat} (hm : mi ⟨sl, st⟩ = .ok ds ⟨sl, st⟩) (h : ∀ d ∈ ds, ∃ s', elt ⟨(hideL vs sl).set j (.val d), st⟩ = .ok (.bl true) ⟨s', st⟩) (hl : ds.length < 1000) :
    calM allM (consM (bd (lcM vs mi (tgN j) yesM elt) fun ds => ret (.lst ds)) nilM) ⟨sl, st⟩ = .ok (.bl true) ⟨sl, st⟩ := by
  have k := lc_pure (j := j) (elt := elt) (sl := hideL vs sl) (st := st) (g := fun _ => .bl true) ds [] h (by rw [List.length_nil]; omega)
  rw [List.nil_append] at k
  refine cal_eq (xs := [.lst (ds.map fun _ => .bl true)]) (cons_eq (bd_eq (lcM_eq hm k) rfl) rfl) ?_
  show (blsOf (ds.map fun _ => D.bl true)).map (fun bs => D.bl (bs.all id)) = _
  rw [all_true]
  show some (D.bl ((ds.map fun _ => true).all id)) = _
  rw [all_id]
theorem not_eq {m : M Bool} {a a' : AS} {b : Bool} (h : m a = .ok b a') : notM m a = .ok (!b) a' := bd_eq h rfl
theorem eq_nil {ds : List D} (h : ds ≠ []) (hp : plL ds = true) : eqM (.lst ds) (.lst []) = some false := by
  cases ds with
  | nil => exact absurd rfl h
  | cons d ds =>
    unfold eqM
    rw [if_pos (by
      rw [Bool.and_eq_true, Bool.and_eq_true]
      refine ⟨⟨by unfold D.pl; exact hp, rfl⟩, decide_eq_true ?_⟩
      exact Nat.le_trans (Nat.min_le_right _ _) (by decide))]
    rfl
theorem tpl_is {d : D} (h : Tpl d) : Is f_is_template d true := by
  obtain ⟨b, es, w, f, rfl, ht, hw, hf, hb⟩ := h
  intro st
  obtain ⟨fs, sl, e1, h1, h2⟩ := sizes_of_ok ht (by omega) st
  have hel := ht.len
  have ha := tl_all ht
  have hall : calM allM (consM (bd (lcM [2] (seqM' (varM 0)) (tgN 2) yesM teE) fun ds => ret (.lst ds)) nilM) ⟨[.val (.tup es), .emp, .emp, .emp], st⟩ = .ok (.bl true) ⟨[.val (.tup es), .emp, .emp, .emp], st⟩ :=
    all_go rfl (fun d hd => ⟨_, te_ok (ha d hd) rfl⟩) (by omega)
  have hfil : lcM [2] (seqM' (varM 0)) (tgN 2) (tstM (callA 1 f_is_filling [] (consM (varM 2) nilM))) (varM 2) ⟨[.val (.tup es), .emp, .emp, .emp], st⟩ = .ok (es.filter isFilE) ⟨[.val (.tup es), .emp, .emp, .emp], st⟩ := by
    have k := lc_filter (j := 2) (test := tstM (callA 1 f_is_filling [] (consM (varM 2) nilM))) (elt := varM 2) (sl := [.val (.tup es), .emp, .emp, .emp]) (st := st) (g := isFilE) es [] (fun d hd => ⟨tst_eq ((fil_of (ha d hd)).at_ rfl), rfl⟩) (by rw [List.length_nil]; omega)
    rw [List.nil_append] at k
    exact lcM_eq (vs := [2]) (a' := ⟨[.val (.tup es), .emp, .emp, .emp], st⟩) (ds := es) rfl k
  have hcnt := fil_count ht
  have hpl : plL (es.filter isFilE) = true := all_pl fun d hd => entry_pl (ha d (List.mem_filter.mp hd).1)
  generalize es.filter isFilE = fi at hfil hcnt hpl
  have hso : callA 1 f_sizes_of [] (consM (varM 0) nilM) ⟨[.val (.tup es), .val (.lst fi), .emp, .emp], st⟩ = .ok (.lst fs) ⟨[.val (.tup es), .val (.lst fi), .emp, .emp], st⟩ := callA_eq (a' := ⟨sl, st⟩) (cons_eq rfl rfl) rfl e1
  refine ⟨[.val (.tup es), .val (.lst fi), .emp, .emp], fin_eq (seq_eq (ifm_f (tst_eq ((inh_no ht (by omega)).at_ rfl)) rfl) (seq_eq (ifm_f rfl rfl) (seq_eq (ifm_f (not_eq (tst_eq hall)) rfl) (seq_eq (set_eq (bd_eq hfil rfl)) (seq_eq (ifm_f (orm_f (op2_eq (cal_eq (cons_eq hso rfl) rfl) rfl (by show some (decide ((40 : Int) < (fs.length : Int))) = _; rw [decide_eq_false (by omega)])) (op2_eq (x := .int fi.length) rfl rfl (by show some (decide ((1 : Int) < (fi.length : Int))) = _; rw [decide_eq_false (by omega)]))) rfl) (ret_eq ?_))))))⟩
  by_cases hz : fi = []
  · subst hz
    exact or_t (bl_eq (b := true) (op2_eq rfl rfl rfl))
  · have hb1 : b = true := hb (by
      have : fi.length ≠ 0 := fun z => hz (List.length_eq_zero_iff.mp z)
      omega)
    subst hb1
    refine or_f (bl_eq (b := false) (op2_eq rfl rfl (eq_nil hz hpl))) ?_
    exact all_is (bd_eq hso rfl) (fun d hd => is_cou (by have := h2 d hd; unfold Ent at this; rw [if_pos rfl] at this; exact this)) (fun d => rfl) (by omega)
theorem col_is {d : D} (h : Col d) : Is f_is_template d true := by
  rcases h with h | h
  · exact tpl_is h
  · exact fun st => ⟨_, fin_eq (seq_ret (ifm_t (tst_eq ((is_inh h).at_ rfl)) (ret_eq rfl)))⟩
abbrev moB : M Fl := ifM (notM (tstM (callA 1 f_is_size [] (consM (varM 3) nilM)))) (no) (nxM)
theorem more_loop (p c : D) (st : List Cell) : ∀ (xs : List D), (∀ x ∈ xs, ∃ (k : Int) (d : D), x = .tup [.int k, d] ∧ Siz d) → ∀ (s2 s3 : Slot), ∃ s2' s3', forL (tgTup 2 (tgCons (tgN 2) (tgCons (tgN 3) tgNil))) moB xs ⟨[.val p, .val c, s2, s3], st⟩ = .ok .nx ⟨[.val p, .val c, s2', s3'], st⟩
  | [], _, s2, s3 => ⟨s2, s3, rfl⟩
  | x :: xs, h, s2, s3 => by
    obtain ⟨k, d, rfl, hd⟩ := h x (by simp)
    obtain ⟨s2', s3', e⟩ := more_loop p c st xs (fun x hx => h x (by simp [hx])) (.val (.int k)) (.val d)
    exact ⟨s2', s3', for_cons rfl (ifm_f (not_eq (tst_eq ((is_siz hd).at_ rfl))) rfl) e⟩
theorem ch_eq {f g : D → D → Option Bool} {ma mb mc : M D} {a : AS} {x y z : D} {k : Bool} (h1 : ma a = .ok x a) (h2 : mb a = .ok y a) (h3 : f x y = some true) (h4 : mc a = .ok z a) (h5 : g y z = some k) : chM f g ma mb mc a = .ok k a := by
  unfold chM
  exact bd_eq h1 (bd_eq h2 (bd_eq (x := true) (a' := a) (by rw [h3]; rfl) (bd_eq h4 (by rw [h5]; rfl))))
theorem mor_is {d : D} (h : Mor d) (p : D) (st : List Cell) : ∃ sl, f_check_more [p, d] st = .ok .non ⟨sl, st⟩ := by
  obtain ⟨xs, rfl, h1, h2, h3⟩ := h
  obtain ⟨s2, s3, e⟩ := more_loop p (.tup xs) st (enumD xs) (fun x hx => by
    unfold enumD at hx
    rw [List.mem_mapIdx] at hx
    obtain ⟨k, hk, rfl⟩ := hx
    exact ⟨k, _, rfl, h3 _ (List.getElem_mem hk)⟩) .emp .emp
  have key : M_check_more (fram 4 [p, .tup xs] st) = .ok .nx ⟨[.val p, .val (.tup xs), s2, s3], st⟩ := by
    unfold M_check_more
    refine seq_eq (ifm_f (orm_f rfl (not_eq (b := true) (ch_eq rfl (cal_eq (cons_eq rfl rfl) rfl) (by show some (decide ((1 : Int) ≤ (xs.length : Int))) = _; rw [decide_eq_true (by omega)]) rfl (by show some (decide ((xs.length : Int) ≤ (8 : Int))) = _; rw [decide_eq_true (by omega)])))) rfl) (bd_eq rfl e)
  exact ⟨_, by unfold f_check_more mkF; rw [key]; rfl⟩
end PL.k05

namespace PL.k05
open PySem PL
def resO : Out D → Option (D × List Cell)
  | .ok d a => some (d, a.st)
  | _ => none
theorem of_res {o : Out D} {d : D} {st : List Cell} (h : resO o = some (d, st)) : ∃ sl, o = .ok d ⟨sl, st⟩ := by
  cases o with
  | stuck => cases h
  | exc c fs a => cases h
  | ok x a => cases h; exact ⟨a.sl, rfl⟩
def combos : List (Nat × Nat × Nat × Nat) := ((List.range 5).flatMap fun w => (List.range 4).flatMap fun t => (List.range 5).flatMap fun l => (List.range 4).map fun p => (w, t, l, p)).filter fun ⟨w, t, l, p⟩ => decide (1 ≤ w ∧ l < w ∧ p ≤ t)
theorem combos_mem {w t l p : Nat} (h1 : 1 ≤ w) (h2 : w ≤ 4) (h3 : t ≤ 3) (h4 : l < w) (h5 : p ≤ t) : (w, t, l, p) ∈ combos := by
  unfold combos
  rw [List.mem_filter]
  refine ⟨?_, decide_eq_true ⟨h1, h4, h5⟩⟩
  rw [List.mem_flatMap]
  refine ⟨w, List.mem_range.mpr (by omega), ?_⟩
  rw [List.mem_flatMap]
  refine ⟨t, List.mem_range.mpr (by omega), ?_⟩
  rw [List.mem_flatMap]
  refine ⟨l, List.mem_range.mpr (by omega), ?_⟩
  rw [List.mem_map]
  exact ⟨p, List.mem_range.mpr (by omega), rfl⟩
theorem fields_all (st : List Cell) : (combos.map fun ⟨w, t, l, p⟩ => resO (f_check_fields [fieldsD w t l p] st)) = combos.map fun _ => some (.non, st) := by kernel_rfl
theorem map_all {α β : Type} {f g : α → β} : ∀ {l : List α}, l.map f = l.map g → ∀ x ∈ l, f x = g x
  | [], _, x, hx => by cases hx
  | a :: l, h, x, hx => by
    rw [List.map_cons, List.map_cons] at h
    injection h with h1 h2
    rcases List.mem_cons.mp hx with rfl | hx
    · exact h1
    · exact map_all h2 x hx
theorem fld_is {d : D} (h : Fld d) (st : List Cell) : ∃ sl, f_check_fields [d] st = .ok .non ⟨sl, st⟩ := by
  obtain ⟨w, t, l, p, rfl, h1, h2, h3, h4, h5⟩ := h
  exact of_res (map_all (fields_all st) _ (combos_mem h1 h2 h3 h4 h5))
end PL.k05

namespace PL.k05
open PySem PL
structure G (n : Nat) (d : D) : Prop where
  pl : d.pl = true
  dp : d.dep ≤ n
theorem G.mono {n m : Nat} {d : D} (h : G n d) (k : n ≤ m) : G m d := ⟨h.pl, Nat.le_trans h.dp k⟩
theorem depL_le : ∀ {ds : List D} {n : Nat}, (∀ d ∈ ds, d.dep ≤ n) → depL ds ≤ n
  | [], n, _ => Nat.zero_le n
  | d :: ds, n, h => Nat.max_le.mpr ⟨h d (by simp), depL_le fun x hx => h x (by simp [hx])⟩
theorem plL_of : ∀ {ds : List D}, (∀ d ∈ ds, d.pl = true) → plL ds = true
  | [], _ => rfl
  | d :: ds, h => by unfold plL; rw [h d (by simp), plL_of fun x hx => h x (by simp [hx])]; rfl
theorem G.tup {n : Nat} {ds : List D} (h : ∀ d ∈ ds, G n d) : G (n + 1) (.tup ds) := ⟨by unfold D.pl; exact plL_of fun d hd => (h d hd).pl, Nat.succ_le_succ (depL_le fun d hd => (h d hd).dp)⟩
theorem G.lst {n : Nat} {ds : List D} (h : ∀ d ∈ ds, G n d) : G (n + 1) (.lst ds) := ⟨by unfold D.pl; exact plL_of fun d hd => (h d hd).pl, Nat.succ_le_succ (depL_le fun d hd => (h d hd).dp)⟩
theorem G.str {n : Nat} (x : Str) : G n (.str x) := ⟨rfl, Nat.zero_le _⟩
theorem G.int {n : Nat} (x : Int) : G n (.int x) := ⟨rfl, Nat.zero_le _⟩
theorem G.bl {n : Nat} (x : Bool) : G n (.bl x) := ⟨rfl, Nat.zero_le _⟩
theorem all0 {P : D → Prop} : ∀ d ∈ ([] : List D), P d := fun d hd => by cases hd
theorem all1 {P : D → Prop} {x : D} {xs : List D} (h : P x) (k : ∀ d ∈ xs, P d) : ∀ d ∈ x :: xs, P d := fun d hd => by
  rcases List.mem_cons.mp hd with rfl | hd
  · exact h
  · exact k d hd
theorem G.len {d : D} (h : Len d) : G 1 d := by
  cases h with
  | int h => exact .int _
  | h12 => exact .tup (all1 (.int _) (all1 (.int _) all0))
  | h13 => exact .tup (all1 (.int _) (all1 (.int _) all0))
theorem G.fix {d : D} (h : Fix d) : G 2 d := by
  cases h with
  | len h => exact (G.len h).mono (by decide)
  | part h => exact .tup (all1 (.str _) (all1 (.len h) all0))
theorem G.sha {d : D} (h : Sha d) : G 2 d := by
  cases h with
  | share h => exact .tup (all1 (.str _) (all1 (.len h) all0))
theorem G.wrd {d : D} (h : Wrd d) : G 2 d := by cases h <;> exact .str _
theorem G.siz {d : D} (h : Siz d) : G 3 d := by
  cases h with
  | fix h => exact (G.fix h).mono (by decide)
  | sha h => exact (G.sha h).mono (by decide)
  | wrd h => exact (G.wrd h).mono (by decide)
  | upto h => exact .tup (all1 (.str _) (all1 (.fix h) all0))
  | between hx hy => exact .tup (all1 (.str _) (all1 (hx.elim .fix .wrd) (all1 (hy.elim .fix fun h => h.elim .wrd .sha) all0)))
theorem G.nm {d : D} (h : d ∈ namesD) : G 0 d := by
  simp only [List.mem_cons, List.not_mem_nil, or_false] at h
  rcases h with rfl | rfl | rfl | rfl | rfl | rfl <;> exact .str _
theorem G.nms {d : D} (h : Nms d) : G 1 d := by
  obtain ⟨ns, rfl, _, hn⟩ := h
  exact .tup fun d hd => .nm (hn d hd)
theorem G.nam {d : D} (h : Nam d) : G 2 d := by
  obtain ⟨x, rfl, hx⟩ := h
  exact .tup (all1 (.str _) (all1 (.nms hx) all0))
theorem G.pln {b : Bool} {n : Nat} {d : D} (h : Pln b n d) : G 4 d := by
  obtain ⟨es, rfl, h1, _⟩ := h
  exact .tup fun d hd => (h1 d hd).elim (fun z => (G.nam z).mono (by decide)) fun z => .siz z.siz
theorem G.entry {b : Bool} {d : D} (h : Nam d ∨ Ent b d ∨ Rpt b d ∨ (b = true ∧ Fil d)) : G 5 d := by
  rcases h with h | h | h | ⟨_, h⟩
  · exact (G.nam h).mono (by decide)
  · exact (G.siz h.siz).mono (by decide)
  · obtain ⟨k, x, rfl, _, _, hx⟩ := h
    exact .tup (all1 (.str _) (all1 (.int _) (all1 (.pln hx) all0)))
  · obtain ⟨w, x, rfl, hw, hx⟩ := h
    exact .tup (all1 (by rcases hw with rfl | rfl <;> exact .str _) (all1 (.pln hx) all0))
theorem G.col {d : D} (h : Col d) : G 6 d := by
  rcases h with h | h
  · obtain ⟨b, es, w, f, rfl, ht, _⟩ := h
    exact .tup fun d hd => .entry (tl_all ht d hd)
  · obtain ⟨xs, rfl, _, hn⟩ := h
    exact G.mono (n := 3) (.tup (all1 (.str _) (all1 (.tup fun d hd => .nms (hn d hd)) all0))) (by decide)
theorem G.fld {d : D} (h : Fld d) : G 2 d := by
  obtain ⟨w, t, l, p, rfl, _⟩ := h
  refine .tup fun d hd => ?_
  obtain ⟨a, _, rfl⟩ := List.mem_map.mp hd
  refine .tup fun d hd => ?_
  obtain ⟨s, _, rfl⟩ := List.mem_map.mp hd
  split <;> exact .str _
theorem G.mor {d : D} (h : Mor d) : G 4 d := by
  obtain ⟨xs, rfl, _, _, h⟩ := h
  exact .tup fun d hd => .siz (h d hd)
theorem G.fl {d : D} (h : d ∈ ([.str "row", .str "column"] : List D)) : G 0 d := by
  simp only [List.mem_cons, List.not_mem_nil, or_false] at h
  rcases h with rfl | rfl <;> exact .str _
theorem G.ln {d : D} (h : d ∈ lanesD) : G 0 d := by
  simp only [List.mem_cons, List.not_mem_nil, or_false] at h
  rcases h with rfl | rfl | rfl | rfl | rfl | rfl | rfl <;> exact .str _
theorem G.s1 {d : D} (h : d ∈ ([.str "start", .str "end", .str "center", .str "stretch"] : List D)) : G 0 d := by
  simp only [List.mem_cons, List.not_mem_nil, or_false] at h
  rcases h with rfl | rfl | rfl | rfl <;> exact .str _
theorem G.s2 {d : D} (h : d ∈ ([.str "start", .str "end", .str "center", .str "stretch", .str "baseline"] : List D)) : G 0 d := by
  simp only [List.mem_cons, List.not_mem_nil, or_false] at h
  rcases h with rfl | rfl | rfl | rfl | rfl <;> exact .str _
theorem V13.g {vs : List D} (h : V13 vs) : ∀ d ∈ vs, G 10 d := by
  obtain ⟨c1, c2, f, m1, m2, fl, g1, g2, j1, j2, s1, s2, b, rfl, hc1, hc2, hf, hm1, hm2, hfl, hg1, hg2, hj1, hj2, hs1, hs2⟩ := h.ex
  exact all1 ((G.col hc1).mono (by decide)) (all1 ((G.col hc2).mono (by decide)) (all1 ((G.fld hf).mono (by decide)) (all1 ((G.mor hm1).mono (by decide)) (all1 ((G.mor hm2).mono (by decide)) (all1 ((G.fl hfl).mono (by decide)) (all1 (.bl _) (all1 ((G.fix hg1).mono (by decide)) (all1 ((G.fix hg2).mono (by decide)) (all1 ((G.ln hj1).mono (by decide)) (all1 ((G.ln hj2).mono (by decide)) (all1 ((G.s1 hs1).mono (by decide)) (all1 ((G.s2 hs2).mono (by decide)) all0))))))))))))
theorem eqM_of {n m : Nat} {x y : D} (hx : G n x) (hy : G m y) (hn : n ≤ 60) : eqM x y = some (eqB x y) := by
  unfold eqM
  rw [if_pos (by rw [Bool.and_eq_true, Bool.and_eq_true]; exact ⟨⟨hx.pl, hy.pl⟩, decide_eq_true (Nat.le_trans (Nat.min_le_left _ _) (Nat.le_trans hx.dp hn))⟩)]
theorem neM_of {n m : Nat} {x y : D} (hx : G n x) (hy : G m y) (hn : n ≤ 60) : neM x y = some (!eqB x y) := by
  unfold neM
  rw [if_pos (by rw [Bool.and_eq_true, Bool.and_eq_true]; exact ⟨⟨hx.pl, hy.pl⟩, decide_eq_true (Nat.le_trans (Nat.min_le_left _ _) (Nat.le_trans hx.dp hn))⟩)]
mutual
theorem eqB_self : ∀ d : D, d.pl = true → eqB d d = true
  | .non, _ => rfl
  | .bl b, _ => by cases b <;> rfl
  | .int i, _ => beq_self_eq_true (α := Int) i
  | .str x, _ => beq_self_eq_true (α := Str) x
  | .tup ds, h => by
    unfold D.pl at h
    exact eqL_self ds h
  | .lst ds, h => by
    unfold D.pl at h
    exact eqL_self ds h
  | .ins _ _, h => by simp [D.pl] at h
  | .cell _, h => by simp [D.pl] at h
  | .dic, h => by simp [D.pl] at h
  | .ty _, h => by simp [D.pl] at h
  | .cls _, h => by simp [D.pl] at h
theorem eqL_self : ∀ ds : List D, plL ds = true → PyData.eqvAll (toPyL ds) (toPyL ds) = true
  | [], _ => rfl
  | d :: ds, h => by
    unfold plL at h
    rw [Bool.and_eq_true] at h
    show (eqB d d && PyData.eqvAll (toPyL ds) (toPyL ds)) = true
    rw [eqB_self d h.1, eqL_self ds h.2]
    rfl
end
theorem eqL_set : ∀ (ds : List D) (k : Nat) (y z : D), plL ds = true → ds[k]? = some z → PyData.eqvAll (toPyL ds) (toPyL (ds.set k y)) = eqB z y
  | [], k, y, z, _, e => by simp at e
  | d :: ds, 0, y, z, h, e => by
    unfold plL at h
    rw [Bool.and_eq_true] at h
    simp at e
    subst e
    show (eqB d y && PyData.eqvAll (toPyL ds) (toPyL ds)) = _
    rw [eqL_self ds h.2, Bool.and_true]
  | d :: ds, k + 1, y, z, h, e => by
    unfold plL at h
    rw [Bool.and_eq_true] at h
    simp at e
    show (eqB d d && PyData.eqvAll (toPyL ds) (toPyL (ds.set k y))) = _
    rw [eqB_self d h.1, eqL_set ds k y z h.2 e, Bool.true_and]
def Is2 (f : FD) (x y : D) (b : Bool) : Prop := ∀ st, ∃ sl, f [x, y] st = .ok (.bl b) ⟨sl, st⟩
theorem Is2.at_ {f : FD} {x y : D} {b : Bool} (h : Is2 f x y b) {sl : List Slot} {st : List Cell} {m n : M D} (hm : m ⟨sl, st⟩ = .ok x ⟨sl, st⟩) (hn : n ⟨sl, st⟩ = .ok y ⟨sl, st⟩) : callA 2 f [] (consM m (consM n nilM)) ⟨sl, st⟩ = .ok (.bl b) ⟨sl, st⟩ := by
  obtain ⟨sl0, e⟩ := h st
  exact callA_eq (a' := ⟨sl0, st⟩) (cons_eq hm (cons_eq hn rfl)) rfl e
theorem of_fl {d : D} (h : d ∈ ([.str "row", .str "column"] : List D)) : Is2 f_is_one_of d (.tup [.str "row", .str "column"]) true := by
  simp only [List.mem_cons, List.not_mem_nil, or_false] at h
  rcases h with rfl | rfl
  · exact fun st => of_res (by kernel_rfl)
  · exact fun st => of_res (by kernel_rfl)
theorem of_ln {d : D} (h : d ∈ ([.str "start", .str "end", .str "center", .str "stretch", .str "between", .str "around", .str "evenly"] : List D)) : Is2 f_is_one_of d (.tup [.str "start", .str "end", .str "center", .str "stretch", .str "between", .str "around", .str "evenly"]) true := by
  simp only [List.mem_cons, List.not_mem_nil, or_false] at h
  rcases h with rfl | rfl | rfl | rfl | rfl | rfl | rfl
  · exact fun st => of_res (by kernel_rfl)
  · exact fun st => of_res (by kernel_rfl)
  · exact fun st => of_res (by kernel_rfl)
  · exact fun st => of_res (by kernel_rfl)
  · exact fun st => of_res (by kernel_rfl)
  · exact fun st => of_res (by kernel_rfl)
  · exact fun st => of_res (by kernel_rfl)
theorem of_s1 {d : D} (h : d ∈ ([.str "start", .str "end", .str "center", .str "stretch"] : List D)) : Is2 f_is_one_of d (.tup [.str "start", .str "end", .str "center", .str "stretch"]) true := by
  simp only [List.mem_cons, List.not_mem_nil, or_false] at h
  rcases h with rfl | rfl | rfl | rfl
  · exact fun st => of_res (by kernel_rfl)
  · exact fun st => of_res (by kernel_rfl)
  · exact fun st => of_res (by kernel_rfl)
  · exact fun st => of_res (by kernel_rfl)
theorem of_s2 {d : D} (h : d ∈ ([.str "start", .str "end", .str "center", .str "stretch", .str "baseline"] : List D)) : Is2 f_is_one_of d (.tup [.str "start", .str "end", .str "center", .str "stretch", .str "baseline"]) true := by
  simp only [List.mem_cons, List.not_mem_nil, or_false] at h
  rcases h with rfl | rfl | rfl | rfl | rfl
  · exact fun st => of_res (by kernel_rfl)
  · exact fun st => of_res (by kernel_rfl)
  · exact fun st => of_res (by kernel_rfl)
  · exact fun st => of_res (by kernel_rfl)
  · exact fun st => of_res (by kernel_rfl)
theorem pl_bel (n : Nat) : ∀ d : D, d.pl = true → d.bel n = true
  | .non, _ => rfl
  | .bl _, _ => rfl
  | .int _, _ => rfl
  | .str _, _ => rfl
  | .tup ds, h => by
    unfold D.pl at h
    unfold D.bel
    exact plL_bel n ds h
  | .lst ds, h => by
    unfold D.pl at h
    unfold D.bel
    exact plL_bel n ds h
  | .ins _ _, h => by simp [D.pl] at h
  | .cell _, h => by simp [D.pl] at h
  | .dic, h => by simp [D.pl] at h
  | .ty _, h => by simp [D.pl] at h
  | .cls _, h => by simp [D.pl] at h
where plL_bel (n : Nat) : ∀ ds : List D, plL ds = true → belL n ds = true
  | [], _ => rfl
  | d :: ds, h => by
    unfold plL at h
    rw [Bool.and_eq_true] at h
    unfold belL
    rw [pl_bel n d h.1, plL_bel n ds h.2]
    rfl
theorem put_eq {c : Nat} {f : Str} {d : D} {fs gs : List (Str × D)} {sl : List Slot} {st : List Cell} {m : M D} (h : m ⟨sl, st ++ [.obj c fs]⟩ = .ok d ⟨sl, st ++ [.obj c fs]⟩) (h0 : varM 0 ⟨sl, st ++ [.obj c fs]⟩ = .ok (.cell st.length) ⟨sl, st ++ [.obj c fs]⟩)
    (hc : (tb.ins c && (tb.fl c).contains f && decide (fs.length < 1000)) = true) (hg : putD f d fs = gs) : putM tb f (varM 0) m ⟨sl, st ++ [.obj c fs]⟩ = .ok .nx ⟨sl, st ++ [.obj c gs]⟩ := by
  refine bd_eq h (bd_eq h0 ?_)
  have e : (st ++ [Cell.obj c fs])[st.length]? = some (Cell.obj c fs) := by simp
  dsimp only
  rw [e]
  dsimp only
  rw [if_pos hc, hg]
  have e2 : (st ++ [Cell.obj c fs]).set st.length (Cell.obj c gs) = st ++ [Cell.obj c gs] := by simp
  rw [e2]
theorem is_two {f : FD} {x : D} {sl : List Slot} {st : List Cell} (h : ∃ sl', f [x] st = .ok .non ⟨sl', st⟩) {m : M D} (hm : m ⟨sl, st⟩ = .ok x ⟨sl, st⟩) : callA 1 f [] (consM m nilM) ⟨sl, st⟩ = .ok .non ⟨sl, st⟩ := by
  obtain ⟨sl0, e⟩ := h
  exact callA_eq (a' := ⟨sl0, st⟩) (cons_eq hm rfl) rfl e
theorem is_two2 {f : FD} {x y : D} {sl : List Slot} {st : List Cell} (h : ∃ sl', f [x, y] st = .ok .non ⟨sl', st⟩) {m n : M D} (hm : m ⟨sl, st⟩ = .ok x ⟨sl, st⟩) (hn : n ⟨sl, st⟩ = .ok y ⟨sl, st⟩) : callA 2 f [] (consM m (consM n nilM)) ⟨sl, st⟩ = .ok .non ⟨sl, st⟩ := by
  obtain ⟨sl0, e⟩ := h
  exact callA_eq (a' := ⟨sl0, st⟩) (cons_eq hm (cons_eq hn rfl)) rfl e
end PL.k05

namespace PL.k05
open PySem PL
theorem init_ok (st : List Cell) {c1 c2 f m1 m2 fl g1 g2 j1 j2 s1 s2 : D} {b : Bool} (hc1 : Col c1) (hc2 : Col c2) (hf : Fld f) (hm1 : Mor m1) (hm2 : Mor m2) (hfl : fl ∈ ([.str "row", .str "column"] : List D)) (hg1 : Fix g1) (hg2 : Fix g2) (hj1 : j1 ∈ lanesD) (hj2 : j2 ∈ lanesD) (hs1 : s1 ∈ ([.str "start", .str "end", .str "center", .str "stretch"] : List D)) (hs2 : s2 ∈ ([.str "start", .str "end", .str "center", .str "stretch", .str "baseline"] : List D)) :
    M_Grid_init ⟨[.val (.cell st.length), .val c1, .val c2, .val f, .val m1, .val m2, .val fl, .val (.bl b), .val g1, .val g2, .val j1, .val j2, .val s1, .val s2, .emp, .emp, .emp, .emp], st ++ [.obj 1 []]⟩ = .ok .nx ⟨[.val (.cell st.length), .val c1, .val c2, .val f, .val m1, .val m2, .val fl, .val (.bl b), .val g1, .val g2, .val j1, .val j2, .val s1, .val s2, .val (.str "align"), .val c2, .val g2, .val j2], st ++ [.obj 1 [("columns", c1), ("rows", c2), ("fields", f), ("more_columns", m1), ("more_rows", m2), ("flow", fl), ("dense", .bl b), ("column_gap", g1), ("row_gap", g2), ("justify", j1), ("align", j2), ("items_justify", s1), ("items_align", s2)]]⟩ := by
  unfold M_Grid_init
  refine seq_eq (a' := ⟨[.val (.cell st.length), .val c1, .val c2, .val f, .val m1, .val m2, .val fl, .val (.bl b), .val g1, .val g2, .val j1, .val j2, .val s1, .val s2, .val (.str "rows"), .val c2, .emp, .emp], st ++ [.obj 1 []]⟩) (bd_eq rfl (for_cons rfl (ifm_f (not_eq (tst_eq ((col_is hc1).at_ rfl))) rfl) (for_cons rfl (ifm_f (not_eq (tst_eq ((col_is hc2).at_ rfl))) rfl) rfl))) ?_
  refine seq_eq (expr_eq (is_two (fld_is hf _) rfl)) ?_
  refine seq_eq (expr_eq (is_two2 (mor_is hm1 _ _) rfl rfl)) ?_
  refine seq_eq (expr_eq (is_two2 (mor_is hm2 _ _) rfl rfl)) ?_
  refine seq_eq (ifm_f (not_eq (tst_eq ((of_fl hfl).at_ rfl rfl))) rfl) ?_
  refine seq_eq (ifm_f rfl rfl) ?_
  refine seq_eq (a' := ⟨[.val (.cell st.length), .val c1, .val c2, .val f, .val m1, .val m2, .val fl, .val (.bl b), .val g1, .val g2, .val j1, .val j2, .val s1, .val s2, .val (.str "row_gap"), .val c2, .val g2, .emp], st ++ [.obj 1 []]⟩) (bd_eq rfl (for_cons rfl (ifm_f (not_eq (tst_eq ((is_fix hg1).at_ rfl))) rfl) (for_cons rfl (ifm_f (not_eq (tst_eq ((is_fix hg2).at_ rfl))) rfl) rfl))) ?_
  refine seq_eq (a' := ⟨[.val (.cell st.length), .val c1, .val c2, .val f, .val m1, .val m2, .val fl, .val (.bl b), .val g1, .val g2, .val j1, .val j2, .val s1, .val s2, .val (.str "align"), .val c2, .val g2, .val j2], st ++ [.obj 1 []]⟩) (bd_eq rfl (for_cons rfl (ifm_f (not_eq (tst_eq ((of_ln hj1).at_ rfl rfl))) rfl) (for_cons rfl (ifm_f (not_eq (tst_eq ((of_ln hj2).at_ rfl rfl))) rfl) rfl))) ?_
  refine seq_eq (ifm_f (not_eq (tst_eq ((of_s1 hs1).at_ rfl rfl))) rfl) ?_
  refine seq_eq (ifm_f (not_eq (tst_eq ((of_s2 hs2).at_ rfl rfl))) rfl) ?_
  exact (seq_eq (put_eq (fs := []) (gs := [("columns", c1)]) rfl rfl (by kernel_rfl) (by kernel_rfl)) (seq_eq (put_eq (fs := [("columns", c1)]) (gs := [("columns", c1), ("rows", c2)]) rfl rfl (by kernel_rfl) (by kernel_rfl)) (seq_eq (put_eq (fs := [("columns", c1), ("rows", c2)]) (gs := [("columns", c1), ("rows", c2), ("fields", f)]) rfl rfl (by kernel_rfl) (by kernel_rfl)) (seq_eq (put_eq (fs := [("columns", c1), ("rows", c2), ("fields", f)]) (gs := [("columns", c1), ("rows", c2), ("fields", f), ("more_columns", m1)]) rfl rfl (by kernel_rfl) (by kernel_rfl)) (seq_eq (put_eq (fs := [("columns", c1), ("rows", c2), ("fields", f), ("more_columns", m1)]) (gs := [("columns", c1), ("rows", c2), ("fields", f), ("more_columns", m1), ("more_rows", m2)]) rfl rfl (by kernel_rfl) (by kernel_rfl)) (seq_eq (put_eq (fs := [("columns", c1), ("rows", c2), ("fields", f), ("more_columns", m1), ("more_rows", m2)]) (gs := [("columns", c1), ("rows", c2), ("fields", f), ("more_columns", m1), ("more_rows", m2), ("flow", fl)]) rfl rfl (by kernel_rfl) (by kernel_rfl)) (seq_eq (put_eq (fs := [("columns", c1), ("rows", c2), ("fields", f), ("more_columns", m1), ("more_rows", m2), ("flow", fl)]) (gs := [("columns", c1), ("rows", c2), ("fields", f), ("more_columns", m1), ("more_rows", m2), ("flow", fl), ("dense", .bl b)]) rfl rfl (by kernel_rfl) (by kernel_rfl)) (seq_eq (put_eq (fs := [("columns", c1), ("rows", c2), ("fields", f), ("more_columns", m1), ("more_rows", m2), ("flow", fl), ("dense", .bl b)]) (gs := [("columns", c1), ("rows", c2), ("fields", f), ("more_columns", m1), ("more_rows", m2), ("flow", fl), ("dense", .bl b), ("column_gap", g1)]) rfl rfl (by kernel_rfl) (by kernel_rfl)) (seq_eq (put_eq (fs := [("columns", c1), ("rows", c2), ("fields", f), ("more_columns", m1), ("more_rows", m2), ("flow", fl), ("dense", .bl b), ("column_gap", g1)]) (gs := [("columns", c1), ("rows", c2), ("fields", f), ("more_columns", m1), ("more_rows", m2), ("flow", fl), ("dense", .bl b), ("column_gap", g1), ("row_gap", g2)]) rfl rfl (by kernel_rfl) (by kernel_rfl)) (seq_eq (put_eq (fs := [("columns", c1), ("rows", c2), ("fields", f), ("more_columns", m1), ("more_rows", m2), ("flow", fl), ("dense", .bl b), ("column_gap", g1), ("row_gap", g2)]) (gs := [("columns", c1), ("rows", c2), ("fields", f), ("more_columns", m1), ("more_rows", m2), ("flow", fl), ("dense", .bl b), ("column_gap", g1), ("row_gap", g2), ("justify", j1)]) rfl rfl (by kernel_rfl) (by kernel_rfl)) (seq_eq (put_eq (fs := [("columns", c1), ("rows", c2), ("fields", f), ("more_columns", m1), ("more_rows", m2), ("flow", fl), ("dense", .bl b), ("column_gap", g1), ("row_gap", g2), ("justify", j1)]) (gs := [("columns", c1), ("rows", c2), ("fields", f), ("more_columns", m1), ("more_rows", m2), ("flow", fl), ("dense", .bl b), ("column_gap", g1), ("row_gap", g2), ("justify", j1), ("align", j2)]) rfl rfl (by kernel_rfl) (by kernel_rfl)) (seq_eq (put_eq (fs := [("columns", c1), ("rows", c2), ("fields", f), ("more_columns", m1), ("more_rows", m2), ("flow", fl), ("dense", .bl b), ("column_gap", g1), ("row_gap", g2), ("justify", j1), ("align", j2)]) (gs := [("columns", c1), ("rows", c2), ("fields", f), ("more_columns", m1), ("more_rows", m2), ("flow", fl), ("dense", .bl b), ("column_gap", g1), ("row_gap", g2), ("justify", j1), ("align", j2), ("items_justify", s1)]) rfl rfl (by kernel_rfl) (by kernel_rfl)) (put_eq (fs := [("columns", c1), ("rows", c2), ("fields", f), ("more_columns", m1), ("more_rows", m2), ("flow", fl), ("dense", .bl b), ("column_gap", g1), ("row_gap", g2), ("justify", j1), ("align", j2), ("items_justify", s1)]) (gs := [("columns", c1), ("rows", c2), ("fields", f), ("more_columns", m1), ("more_rows", m2), ("flow", fl), ("dense", .bl b), ("column_gap", g1), ("row_gap", g2), ("justify", j1), ("align", j2), ("items_justify", s1), ("items_align", s2)]) rfl rfl (by kernel_rfl) (by kernel_rfl))))))))))))))
end PL.k05

namespace PL.k05
open PySem PL
theorem make_ok {vs : List D} (h : V13 vs) (sl : List Slot) (st : List Cell) : mkI tb 1 14 f_Grid_init vs ⟨sl, st⟩ = .ok (.ins 1 vs) ⟨sl, st⟩ := by
  have hp : plL vs = true := plL_of fun d hd => (h.g d hd).pl
  obtain ⟨c1, c2, f, m1, m2, fl, g1, g2, j1, j2, s1, s2, b, rfl, hc1, hc2, hf, hm1, hm2, hfl, hg1, hg2, hj1, hj2, hs1, hs2⟩ := h.ex
  have k := init_ok st (b := b) hc1 hc2 hf hm1 hm2 hfl hg1 hg2 hj1 hj2 hs1 hs2
  have k2 : f_Grid_init (.cell st.length :: [c1, c2, f, m1, m2, fl, .bl b, g1, g2, j1, j2, s1, s2]) (st ++ [.obj 1 []]) = .ok .non ⟨[.val (.cell st.length), .val c1, .val c2, .val f, .val m1, .val m2, .val fl, .val (.bl b), .val g1, .val g2, .val j1, .val j2, .val s1, .val s2, .val (.str "align"), .val c2, .val g2, .val j2], st ++ [.obj 1 [("columns", c1), ("rows", c2), ("fields", f), ("more_columns", m1), ("more_rows", m2), ("flow", fl), ("dense", .bl b), ("column_gap", g1), ("row_gap", g2), ("justify", j1), ("align", j2), ("items_justify", s1), ("items_align", s2)]]⟩ := by
    have e : fram 18 (.cell st.length :: [c1, c2, f, m1, m2, fl, .bl b, g1, g2, j1, j2, s1, s2]) (st ++ [.obj 1 []]) = ⟨[.val (.cell st.length), .val c1, .val c2, .val f, .val m1, .val m2, .val fl, .val (.bl b), .val g1, .val g2, .val j1, .val j2, .val s1, .val s2, .emp, .emp, .emp, .emp], st ++ [.obj 1 []]⟩ := rfl
    unfold f_Grid_init mkF
    rw [e, k]
    rfl
  have k3 : mkC 1 14 f_Grid_init [c1, c2, f, m1, m2, fl, .bl b, g1, g2, j1, j2, s1, s2] ⟨sl, st⟩ = .ok (.cell st.length) ⟨sl, st ++ [.obj 1 [("columns", c1), ("rows", c2), ("fields", f), ("more_columns", m1), ("more_rows", m2), ("flow", fl), ("dense", .bl b), ("column_gap", g1), ("row_gap", g2), ("justify", j1), ("align", j2), ("items_justify", s1), ("items_align", s2)]]⟩ := by
    unfold mkC
    dsimp only
    rw [if_pos (by rfl), k2]
  unfold mkI
  rw [k3]
  simp only [bind_ok]
  have k4 : popO tb 1 st (st ++ [.obj 1 [("columns", c1), ("rows", c2), ("fields", f), ("more_columns", m1), ("more_rows", m2), ("flow", fl), ("dense", .bl b), ("column_gap", g1), ("row_gap", g2), ("justify", j1), ("align", j2), ("items_justify", s1), ("items_align", s2)]]) = some [c1, c2, f, m1, m2, fl, .bl b, g1, g2, j1, j2, s1, s2] := by
    unfold popO
    have e : (st ++ [Cell.obj 1 [("columns", c1), ("rows", c2), ("fields", f), ("more_columns", m1), ("more_rows", m2), ("flow", fl), ("dense", .bl b), ("column_gap", g1), ("row_gap", g2), ("justify", j1), ("align", j2), ("items_justify", s1), ("items_align", s2)]])[st.length]? = some (Cell.obj 1 [("columns", c1), ("rows", c2), ("fields", f), ("more_columns", m1), ("more_rows", m2), ("flow", fl), ("dense", .bl b), ("column_gap", g1), ("row_gap", g2), ("justify", j1), ("align", j2), ("items_justify", s1), ("items_align", s2)]) := by simp
    rw [e]
    dsimp only
    rw [ceqL_self]
    have hb := pl_bel.plL_bel st.length _ hp
    have e2 : (([("columns", c1), ("rows", c2), ("fields", f), ("more_columns", m1), ("more_rows", m2), ("flow", fl), ("dense", .bl b), ("column_gap", g1), ("row_gap", g2), ("justify", j1), ("align", j2), ("items_justify", s1), ("items_align", s2)] : List (Str × D)).map (·.2)) = [c1, c2, f, m1, m2, fl, .bl b, g1, g2, j1, j2, s1, s2] := rfl
    rw [e2, hb]
    rw [if_pos (by kernel_rfl)]
  rw [k4]
theorem parts_ok (st : List Cell) (c1 c2 f m1 m2 fl d g1 g2 j1 j2 s1 s2 : D) : resO (f_Grid_all_parts [.ins 1 [c1, c2, f, m1, m2, fl, d, g1, g2, j1, j2, s1, s2]] st) = some (.tup [c1, c2, f, m1, m2, fl, d, g1, g2, j1, j2, s1, s2], st) := by kernel_rfl
theorem lparts_ok (st : List Cell) (c1 c2 f m1 m2 fl d g1 g2 j1 j2 s1 s2 : D) : resO (f__law_parts [.ins 1 [c1, c2, f, m1, m2, fl, d, g1, g2, j1, j2, s1, s2]] st) = some (.lst [c1, c2, f, m1, m2, fl, d, g1, g2, j1, j2, s1, s2], st) := by kernel_rfl
theorem V13.parts {vs : List D} (h : V13 vs) (st : List Cell) : ∃ sl, f_Grid_all_parts [.ins 1 vs] st = .ok (.tup vs) ⟨sl, st⟩ := by
  obtain ⟨c1, c2, f, m1, m2, fl, g1, g2, j1, j2, s1, s2, b, rfl, _⟩ := h.ex
  exact of_res (parts_ok ..)
theorem V13.lparts {vs : List D} (h : V13 vs) (st : List Cell) : ∃ sl, f__law_parts [.ins 1 vs] st = .ok (.lst vs) ⟨sl, st⟩ := by
  obtain ⟨c1, c2, f, m1, m2, fl, g1, g2, j1, j2, s1, s2, b, rfl, _⟩ := h.ex
  exact of_res (lparts_ok ..)
theorem made_res (st : List Cell) (c1 c2 f m1 m2 fl d g1 g2 j1 j2 s1 s2 : D) (h : ∀ sl, mkI tb 1 14 f_Grid_init [c1, c2, f, m1, m2, fl, d, g1, g2, j1, j2, s1, s2] ⟨sl, st⟩ = .ok (.ins 1 [c1, c2, f, m1, m2, fl, d, g1, g2, j1, j2, s1, s2]) ⟨sl, st⟩) : ∃ sl, f__law_made [.lst [c1, c2, f, m1, m2, fl, d, g1, g2, j1, j2, s1, s2]] st = .ok (.ins 1 [c1, c2, f, m1, m2, fl, d, g1, g2, j1, j2, s1, s2]) ⟨sl, st⟩ :=
  ⟨_, fin_eq (ret_eq (bd_eq (x := []) rfl (bd_eq (x := [s2, s1, j2, j1, g2, g1, d, fl, m2, m1, f, c2, c1]) rfl (h _))))⟩
theorem made_ok {vs : List D} (h : V13 vs) (st : List Cell) : ∃ sl, f__law_made [.lst vs] st = .ok (.ins 1 vs) ⟨sl, st⟩ := by
  have k := make_ok h
  obtain ⟨c1, c2, f, m1, m2, fl, g1, g2, j1, j2, s1, s2, b, rfl, _⟩ := h.ex
  exact made_res _ _ _ _ _ _ _ _ _ _ _ _ _ _ fun sl => k sl st
theorem geq_ok {vs ws : List D} (h : V13 vs) (k : V13 ws) (st : List Cell) : ∃ sl, f_Grid_eq [.ins 1 vs, .ins 1 ws] st = .ok (.bl (eqB (.tup vs) (.tup ws))) ⟨sl, st⟩ := by
  obtain ⟨sl1, e1⟩ := h.parts st
  obtain ⟨sl2, e2⟩ := k.parts st
  have m1 : meth0M tb 1 "all_parts" 1 f_Grid_all_parts [] (varM 0) ⟨[.val (.ins 1 vs), .val (.ins 1 ws)], st⟩ = .ok (.tup vs) ⟨[.val (.ins 1 vs), .val (.ins 1 ws)], st⟩ := by
    obtain ⟨c1, c2, f, m1, m2, fl, g1, g2, j1, j2, s1, s2, b, rfl, _⟩ := h.ex
    refine bd_eq (x := .ins 1 _) rfl ?_
    show (if (_ && _ && _) = true then callM 1 f_Grid_all_parts [_] _ else .stuck) = _
    rw [if_pos (by kernel_rfl)]
    exact callM_eq (a' := ⟨sl1, st⟩) rfl e1
  have m2 : meth0M tb 1 "all_parts" 1 f_Grid_all_parts [] (varM 1) ⟨[.val (.ins 1 vs), .val (.ins 1 ws)], st⟩ = .ok (.tup ws) ⟨[.val (.ins 1 vs), .val (.ins 1 ws)], st⟩ := by
    obtain ⟨c1, c2, f, m1, m2, fl, g1, g2, j1, j2, s1, s2, b, rfl, _⟩ := k.ex
    refine bd_eq (x := .ins 1 _) rfl ?_
    show (if (_ && _ && _) = true then callM 1 f_Grid_all_parts [_] _ else .stuck) = _
    rw [if_pos (by kernel_rfl)]
    exact callM_eq (a' := ⟨sl2, st⟩) rfl e2
  exact ⟨_, fin_eq (ret_eq (an_t rfl (bl_eq (op2_eq m1 m2 (eqM_of (.tup h.g) (.tup k.g) (by decide))))))⟩
end PL.k05

namespace PL.k05
open PySem PL
theorem eqO_ok {vs ws : List D} (h : V13 vs) (k : V13 ws) (sl : List Slot) (st : List Cell) : eqO tb 1 f_Grid_eq (.ins 1 vs) (.ins 1 ws) ⟨sl, st⟩ = .ok (eqB (.tup vs) (.tup ws)) ⟨sl, st⟩ := by
  obtain ⟨sl1, e⟩ := geq_ok h k st
  show (match f_Grid_eq [.ins 1 vs, .ins 1 ws] st with
    | .ok (.bl b) a1 => Out.ok (if false = true then !b else b) ⟨sl, a1.st⟩
    | _ => Out.stuck) = _
  rw [e]
  rfl
theorem neO_ok {vs ws : List D} (h : V13 vs) (k : V13 ws) (sl : List Slot) (st : List Cell) : neO tb 1 f_Grid_eq (.ins 1 vs) (.ins 1 ws) ⟨sl, st⟩ = .ok (!eqB (.tup vs) (.tup ws)) ⟨sl, st⟩ := by
  obtain ⟨sl1, e⟩ := geq_ok h k st
  show (match f_Grid_eq [.ins 1 vs, .ins 1 ws] st with
    | .ok (.bl b) a1 => Out.ok (if true = true then !b else b) ⟨sl, a1.st⟩
    | _ => Out.stuck) = _
  rw [e]
  rfl
theorem eqO_no (vs ws : List D) (sl : List Slot) (st : List Cell) : eqO tb 1 f_Grid_eq (.ins 1 vs) (.lst ws) ⟨sl, st⟩ = .ok false ⟨sl, st⟩ := rfl
theorem op2S_eq {f : D → D → M Bool} {m n : M D} {a a1 a2 : AS} {x y : D} {o : Out Bool} (h1 : m a = .ok x a1) (h2 : n a1 = .ok y a2) (h : f x y a2 = o) : op2S f m n a = o := bd_eq h1 (bd_eq h2 h)
theorem ne_self (b : Bool) : neM (.bl b) (.bl b) = some false := by cases b <;> rfl
theorem made_at {vs : List D} (h : V13 vs) {sl : List Slot} {st : List Cell} {m : M D} (hm : m ⟨sl, st⟩ = .ok (.lst vs) ⟨sl, st⟩) : callA 1 f__law_made [] (consM m nilM) ⟨sl, st⟩ = .ok (.ins 1 vs) ⟨sl, st⟩ := by
  obtain ⟨sl0, e⟩ := made_ok h st
  exact callA_eq (a' := ⟨sl0, st⟩) (cons_eq hm rfl) rfl e
theorem lparts_at {vs : List D} (h : V13 vs) {sl : List Slot} {st : List Cell} {m : M D} (hm : m ⟨sl, st⟩ = .ok (.ins 1 vs) ⟨sl, st⟩) : callA 1 f__law_parts [] (consM m nilM) ⟨sl, st⟩ = .ok (.lst vs) ⟨sl, st⟩ := by
  obtain ⟨sl0, e⟩ := h.lparts st
  exact callA_eq (a' := ⟨sl0, st⟩) (cons_eq hm rfl) rfl e
abbrev rtB : M Fl := seqM (setM 5 (bd (catM (bd (catM (bd (bd (varM 1) fun x => bd noneM fun l => bd (someM (varM 4)) fun h => rdM fun st => (lstOf st x).map fun ds => cutD ds l h) fun ds => ret (.lst ds)) (bd (bd (consM (bd (varM 2) fun x => bd (varM 4) fun i => rdM fun st => ixM st x i) nilM) fun xs => if xs.length ≤ 1000 then ret xs else no) fun ds => ret (.lst ds))) fun ds => ret (.lst ds)) (bd (bd (varM 1) fun x => bd (someM (opM addM (varM 4) (ret (.int 1)))) fun l => bd noneM fun h => rdM fun st => (lstOf st x).map fun ds => cutD ds l h) fun ds => ret (.lst ds))) fun ds => ret (.lst ds)))
    (ifM (orM (op2 neM (blM (op2S (eqO tb 1 f_Grid_eq) (varM 3) (callA 1 f__law_made [] (consM (varM 5) nilM)))) (blM (op2 eqM (bd (varM 1) fun x => bd (varM 4) fun i => rdM fun st => ixM st x i) (bd (varM 2) fun x => bd (varM 4) fun i => rdM fun st => ixM st x i)))) (op2S (eqO tb 1 f_Grid_eq) (varM 3) (varM 5)))
    (retM (ret (.bl false)))
    (nxM))
theorem rt_0 {xs ys : List D} (hx : V13 xs) (hy : V13 ys) (c : D) (s5 : Slot) (st : List Cell) : ∃ s5', rtB ⟨[.val c, .val (.lst xs), .val (.lst ys), .val (.ins 1 xs), .val (.int 0), s5, .emp], st⟩ = .ok .nx ⟨[.val c, .val (.lst xs), .val (.lst ys), .val (.ins 1 xs), .val (.int 0), s5', .emp], st⟩ := by
  have pl : plL xs = true := plL_of fun d hd => (hx.g d hd).pl
  have gx := hx.g
  have gy := hy.g
  have hx0 := hx
  obtain ⟨xc1, xc2, xf, xm1, xm2, xfl, xg1, xg2, xj1, xj2, xs1, xs2, xb, rfl, xhc1, xhc2, xhf, xhm1, xhm2, xhfl, xhg1, xhg2, xhj1, xhj2, xhs1, xhs2⟩ := hx.ex
  obtain ⟨yc1, yc2, yf, ym1, ym2, yfl, yg1, yg2, yj1, yj2, ys1, ys2, yb, rfl, yhc1, yhc2, yhf, yhm1, yhm2, yhfl, yhg1, yhg2, yhj1, yhj2, yhs1, yhs2⟩ := hy.ex
  have hm : V13 [yc1, xc2, xf, xm1, xm2, xfl, .bl xb, xg1, xg2, xj1, xj2, xs1, xs2] := ⟨⟨_, _, _, _, _, _, _, _, _, _, _, _, _, rfl, yhc1, xhc2, xhf, xhm1, xhm2, xhfl, xhg1, xhg2, xhj1, xhj2, xhs1, xhs2⟩⟩
  have e : eqB (.tup [xc1, xc2, xf, xm1, xm2, xfl, .bl xb, xg1, xg2, xj1, xj2, xs1, xs2]) (.tup [yc1, xc2, xf, xm1, xm2, xfl, .bl xb, xg1, xg2, xj1, xj2, xs1, xs2]) = eqB (xc1) (yc1) := eqL_set [xc1, xc2, xf, xm1, xm2, xfl, .bl xb, xg1, xg2, xj1, xj2, xs1, xs2] 0 (yc1) (xc1) pl rfl
  refine ⟨.val (.lst [yc1, xc2, xf, xm1, xm2, xfl, .bl xb, xg1, xg2, xj1, xj2, xs1, xs2]), seq_eq (set_eq (d := .lst [yc1, xc2, xf, xm1, xm2, xfl, .bl xb, xg1, xg2, xj1, xj2, xs1, xs2]) rfl) (ifm_f (orm_f (op2_eq (x := .bl (eqB (xc1) (yc1))) (bl_eq (op2S_eq rfl (made_at hm rfl) (by rw [eqO_ok hx0 hm, e]))) (bl_eq (op2_eq rfl rfl (eqM_of (gx (xc1) (by simp)) (gy (yc1) (by simp)) (by decide)))) (ne_self _)) (op2S_eq rfl rfl (eqO_no _ _ _ _))) rfl)⟩
theorem rt_1 {xs ys : List D} (hx : V13 xs) (hy : V13 ys) (c : D) (s5 : Slot) (st : List Cell) : ∃ s5', rtB ⟨[.val c, .val (.lst xs), .val (.lst ys), .val (.ins 1 xs), .val (.int 1), s5, .emp], st⟩ = .ok .nx ⟨[.val c, .val (.lst xs), .val (.lst ys), .val (.ins 1 xs), .val (.int 1), s5', .emp], st⟩ := by
  have pl : plL xs = true := plL_of fun d hd => (hx.g d hd).pl
  have gx := hx.g
  have gy := hy.g
  have hx0 := hx
  obtain ⟨xc1, xc2, xf, xm1, xm2, xfl, xg1, xg2, xj1, xj2, xs1, xs2, xb, rfl, xhc1, xhc2, xhf, xhm1, xhm2, xhfl, xhg1, xhg2, xhj1, xhj2, xhs1, xhs2⟩ := hx.ex
  obtain ⟨yc1, yc2, yf, ym1, ym2, yfl, yg1, yg2, yj1, yj2, ys1, ys2, yb, rfl, yhc1, yhc2, yhf, yhm1, yhm2, yhfl, yhg1, yhg2, yhj1, yhj2, yhs1, yhs2⟩ := hy.ex
  have hm : V13 [xc1, yc2, xf, xm1, xm2, xfl, .bl xb, xg1, xg2, xj1, xj2, xs1, xs2] := ⟨⟨_, _, _, _, _, _, _, _, _, _, _, _, _, rfl, xhc1, yhc2, xhf, xhm1, xhm2, xhfl, xhg1, xhg2, xhj1, xhj2, xhs1, xhs2⟩⟩
  have e : eqB (.tup [xc1, xc2, xf, xm1, xm2, xfl, .bl xb, xg1, xg2, xj1, xj2, xs1, xs2]) (.tup [xc1, yc2, xf, xm1, xm2, xfl, .bl xb, xg1, xg2, xj1, xj2, xs1, xs2]) = eqB (xc2) (yc2) := eqL_set [xc1, xc2, xf, xm1, xm2, xfl, .bl xb, xg1, xg2, xj1, xj2, xs1, xs2] 1 (yc2) (xc2) pl rfl
  refine ⟨.val (.lst [xc1, yc2, xf, xm1, xm2, xfl, .bl xb, xg1, xg2, xj1, xj2, xs1, xs2]), seq_eq (set_eq (d := .lst [xc1, yc2, xf, xm1, xm2, xfl, .bl xb, xg1, xg2, xj1, xj2, xs1, xs2]) rfl) (ifm_f (orm_f (op2_eq (x := .bl (eqB (xc2) (yc2))) (bl_eq (op2S_eq rfl (made_at hm rfl) (by rw [eqO_ok hx0 hm, e]))) (bl_eq (op2_eq rfl rfl (eqM_of (gx (xc2) (by simp)) (gy (yc2) (by simp)) (by decide)))) (ne_self _)) (op2S_eq rfl rfl (eqO_no _ _ _ _))) rfl)⟩
theorem rt_2 {xs ys : List D} (hx : V13 xs) (hy : V13 ys) (c : D) (s5 : Slot) (st : List Cell) : ∃ s5', rtB ⟨[.val c, .val (.lst xs), .val (.lst ys), .val (.ins 1 xs), .val (.int 2), s5, .emp], st⟩ = .ok .nx ⟨[.val c, .val (.lst xs), .val (.lst ys), .val (.ins 1 xs), .val (.int 2), s5', .emp], st⟩ := by
  have pl : plL xs = true := plL_of fun d hd => (hx.g d hd).pl
  have gx := hx.g
  have gy := hy.g
  have hx0 := hx
  obtain ⟨xc1, xc2, xf, xm1, xm2, xfl, xg1, xg2, xj1, xj2, xs1, xs2, xb, rfl, xhc1, xhc2, xhf, xhm1, xhm2, xhfl, xhg1, xhg2, xhj1, xhj2, xhs1, xhs2⟩ := hx.ex
  obtain ⟨yc1, yc2, yf, ym1, ym2, yfl, yg1, yg2, yj1, yj2, ys1, ys2, yb, rfl, yhc1, yhc2, yhf, yhm1, yhm2, yhfl, yhg1, yhg2, yhj1, yhj2, yhs1, yhs2⟩ := hy.ex
  have hm : V13 [xc1, xc2, yf, xm1, xm2, xfl, .bl xb, xg1, xg2, xj1, xj2, xs1, xs2] := ⟨⟨_, _, _, _, _, _, _, _, _, _, _, _, _, rfl, xhc1, xhc2, yhf, xhm1, xhm2, xhfl, xhg1, xhg2, xhj1, xhj2, xhs1, xhs2⟩⟩
  have e : eqB (.tup [xc1, xc2, xf, xm1, xm2, xfl, .bl xb, xg1, xg2, xj1, xj2, xs1, xs2]) (.tup [xc1, xc2, yf, xm1, xm2, xfl, .bl xb, xg1, xg2, xj1, xj2, xs1, xs2]) = eqB (xf) (yf) := eqL_set [xc1, xc2, xf, xm1, xm2, xfl, .bl xb, xg1, xg2, xj1, xj2, xs1, xs2] 2 (yf) (xf) pl rfl
  refine ⟨.val (.lst [xc1, xc2, yf, xm1, xm2, xfl, .bl xb, xg1, xg2, xj1, xj2, xs1, xs2]), seq_eq (set_eq (d := .lst [xc1, xc2, yf, xm1, xm2, xfl, .bl xb, xg1, xg2, xj1, xj2, xs1, xs2]) rfl) (ifm_f (orm_f (op2_eq (x := .bl (eqB (xf) (yf))) (bl_eq (op2S_eq rfl (made_at hm rfl) (by rw [eqO_ok hx0 hm, e]))) (bl_eq (op2_eq rfl rfl (eqM_of (gx (xf) (by simp)) (gy (yf) (by simp)) (by decide)))) (ne_self _)) (op2S_eq rfl rfl (eqO_no _ _ _ _))) rfl)⟩
theorem rt_3 {xs ys : List D} (hx : V13 xs) (hy : V13 ys) (c : D) (s5 : Slot) (st : List Cell) : ∃ s5', rtB ⟨[.val c, .val (.lst xs), .val (.lst ys), .val (.ins 1 xs), .val (.int 3), s5, .emp], st⟩ = .ok .nx ⟨[.val c, .val (.lst xs), .val (.lst ys), .val (.ins 1 xs), .val (.int 3), s5', .emp], st⟩ := by
  have pl : plL xs = true := plL_of fun d hd => (hx.g d hd).pl
  have gx := hx.g
  have gy := hy.g
  have hx0 := hx
  obtain ⟨xc1, xc2, xf, xm1, xm2, xfl, xg1, xg2, xj1, xj2, xs1, xs2, xb, rfl, xhc1, xhc2, xhf, xhm1, xhm2, xhfl, xhg1, xhg2, xhj1, xhj2, xhs1, xhs2⟩ := hx.ex
  obtain ⟨yc1, yc2, yf, ym1, ym2, yfl, yg1, yg2, yj1, yj2, ys1, ys2, yb, rfl, yhc1, yhc2, yhf, yhm1, yhm2, yhfl, yhg1, yhg2, yhj1, yhj2, yhs1, yhs2⟩ := hy.ex
  have hm : V13 [xc1, xc2, xf, ym1, xm2, xfl, .bl xb, xg1, xg2, xj1, xj2, xs1, xs2] := ⟨⟨_, _, _, _, _, _, _, _, _, _, _, _, _, rfl, xhc1, xhc2, xhf, yhm1, xhm2, xhfl, xhg1, xhg2, xhj1, xhj2, xhs1, xhs2⟩⟩
  have e : eqB (.tup [xc1, xc2, xf, xm1, xm2, xfl, .bl xb, xg1, xg2, xj1, xj2, xs1, xs2]) (.tup [xc1, xc2, xf, ym1, xm2, xfl, .bl xb, xg1, xg2, xj1, xj2, xs1, xs2]) = eqB (xm1) (ym1) := eqL_set [xc1, xc2, xf, xm1, xm2, xfl, .bl xb, xg1, xg2, xj1, xj2, xs1, xs2] 3 (ym1) (xm1) pl rfl
  refine ⟨.val (.lst [xc1, xc2, xf, ym1, xm2, xfl, .bl xb, xg1, xg2, xj1, xj2, xs1, xs2]), seq_eq (set_eq (d := .lst [xc1, xc2, xf, ym1, xm2, xfl, .bl xb, xg1, xg2, xj1, xj2, xs1, xs2]) rfl) (ifm_f (orm_f (op2_eq (x := .bl (eqB (xm1) (ym1))) (bl_eq (op2S_eq rfl (made_at hm rfl) (by rw [eqO_ok hx0 hm, e]))) (bl_eq (op2_eq rfl rfl (eqM_of (gx (xm1) (by simp)) (gy (ym1) (by simp)) (by decide)))) (ne_self _)) (op2S_eq rfl rfl (eqO_no _ _ _ _))) rfl)⟩
theorem rt_4 {xs ys : List D} (hx : V13 xs) (hy : V13 ys) (c : D) (s5 : Slot) (st : List Cell) : ∃ s5', rtB ⟨[.val c, .val (.lst xs), .val (.lst ys), .val (.ins 1 xs), .val (.int 4), s5, .emp], st⟩ = .ok .nx ⟨[.val c, .val (.lst xs), .val (.lst ys), .val (.ins 1 xs), .val (.int 4), s5', .emp], st⟩ := by
  have pl : plL xs = true := plL_of fun d hd => (hx.g d hd).pl
  have gx := hx.g
  have gy := hy.g
  have hx0 := hx
  obtain ⟨xc1, xc2, xf, xm1, xm2, xfl, xg1, xg2, xj1, xj2, xs1, xs2, xb, rfl, xhc1, xhc2, xhf, xhm1, xhm2, xhfl, xhg1, xhg2, xhj1, xhj2, xhs1, xhs2⟩ := hx.ex
  obtain ⟨yc1, yc2, yf, ym1, ym2, yfl, yg1, yg2, yj1, yj2, ys1, ys2, yb, rfl, yhc1, yhc2, yhf, yhm1, yhm2, yhfl, yhg1, yhg2, yhj1, yhj2, yhs1, yhs2⟩ := hy.ex
  have hm : V13 [xc1, xc2, xf, xm1, ym2, xfl, .bl xb, xg1, xg2, xj1, xj2, xs1, xs2] := ⟨⟨_, _, _, _, _, _, _, _, _, _, _, _, _, rfl, xhc1, xhc2, xhf, xhm1, yhm2, xhfl, xhg1, xhg2, xhj1, xhj2, xhs1, xhs2⟩⟩
  have e : eqB (.tup [xc1, xc2, xf, xm1, xm2, xfl, .bl xb, xg1, xg2, xj1, xj2, xs1, xs2]) (.tup [xc1, xc2, xf, xm1, ym2, xfl, .bl xb, xg1, xg2, xj1, xj2, xs1, xs2]) = eqB (xm2) (ym2) := eqL_set [xc1, xc2, xf, xm1, xm2, xfl, .bl xb, xg1, xg2, xj1, xj2, xs1, xs2] 4 (ym2) (xm2) pl rfl
  refine ⟨.val (.lst [xc1, xc2, xf, xm1, ym2, xfl, .bl xb, xg1, xg2, xj1, xj2, xs1, xs2]), seq_eq (set_eq (d := .lst [xc1, xc2, xf, xm1, ym2, xfl, .bl xb, xg1, xg2, xj1, xj2, xs1, xs2]) rfl) (ifm_f (orm_f (op2_eq (x := .bl (eqB (xm2) (ym2))) (bl_eq (op2S_eq rfl (made_at hm rfl) (by rw [eqO_ok hx0 hm, e]))) (bl_eq (op2_eq rfl rfl (eqM_of (gx (xm2) (by simp)) (gy (ym2) (by simp)) (by decide)))) (ne_self _)) (op2S_eq rfl rfl (eqO_no _ _ _ _))) rfl)⟩
theorem rt_5 {xs ys : List D} (hx : V13 xs) (hy : V13 ys) (c : D) (s5 : Slot) (st : List Cell) : ∃ s5', rtB ⟨[.val c, .val (.lst xs), .val (.lst ys), .val (.ins 1 xs), .val (.int 5), s5, .emp], st⟩ = .ok .nx ⟨[.val c, .val (.lst xs), .val (.lst ys), .val (.ins 1 xs), .val (.int 5), s5', .emp], st⟩ := by
  have pl : plL xs = true := plL_of fun d hd => (hx.g d hd).pl
  have gx := hx.g
  have gy := hy.g
  have hx0 := hx
  obtain ⟨xc1, xc2, xf, xm1, xm2, xfl, xg1, xg2, xj1, xj2, xs1, xs2, xb, rfl, xhc1, xhc2, xhf, xhm1, xhm2, xhfl, xhg1, xhg2, xhj1, xhj2, xhs1, xhs2⟩ := hx.ex
  obtain ⟨yc1, yc2, yf, ym1, ym2, yfl, yg1, yg2, yj1, yj2, ys1, ys2, yb, rfl, yhc1, yhc2, yhf, yhm1, yhm2, yhfl, yhg1, yhg2, yhj1, yhj2, yhs1, yhs2⟩ := hy.ex
  have hm : V13 [xc1, xc2, xf, xm1, xm2, yfl, .bl xb, xg1, xg2, xj1, xj2, xs1, xs2] := ⟨⟨_, _, _, _, _, _, _, _, _, _, _, _, _, rfl, xhc1, xhc2, xhf, xhm1, xhm2, yhfl, xhg1, xhg2, xhj1, xhj2, xhs1, xhs2⟩⟩
  have e : eqB (.tup [xc1, xc2, xf, xm1, xm2, xfl, .bl xb, xg1, xg2, xj1, xj2, xs1, xs2]) (.tup [xc1, xc2, xf, xm1, xm2, yfl, .bl xb, xg1, xg2, xj1, xj2, xs1, xs2]) = eqB (xfl) (yfl) := eqL_set [xc1, xc2, xf, xm1, xm2, xfl, .bl xb, xg1, xg2, xj1, xj2, xs1, xs2] 5 (yfl) (xfl) pl rfl
  refine ⟨.val (.lst [xc1, xc2, xf, xm1, xm2, yfl, .bl xb, xg1, xg2, xj1, xj2, xs1, xs2]), seq_eq (set_eq (d := .lst [xc1, xc2, xf, xm1, xm2, yfl, .bl xb, xg1, xg2, xj1, xj2, xs1, xs2]) rfl) (ifm_f (orm_f (op2_eq (x := .bl (eqB (xfl) (yfl))) (bl_eq (op2S_eq rfl (made_at hm rfl) (by rw [eqO_ok hx0 hm, e]))) (bl_eq (op2_eq rfl rfl (eqM_of (gx (xfl) (by simp)) (gy (yfl) (by simp)) (by decide)))) (ne_self _)) (op2S_eq rfl rfl (eqO_no _ _ _ _))) rfl)⟩
theorem rt_6 {xs ys : List D} (hx : V13 xs) (hy : V13 ys) (c : D) (s5 : Slot) (st : List Cell) : ∃ s5', rtB ⟨[.val c, .val (.lst xs), .val (.lst ys), .val (.ins 1 xs), .val (.int 6), s5, .emp], st⟩ = .ok .nx ⟨[.val c, .val (.lst xs), .val (.lst ys), .val (.ins 1 xs), .val (.int 6), s5', .emp], st⟩ := by
  have pl : plL xs = true := plL_of fun d hd => (hx.g d hd).pl
  have gx := hx.g
  have gy := hy.g
  have hx0 := hx
  obtain ⟨xc1, xc2, xf, xm1, xm2, xfl, xg1, xg2, xj1, xj2, xs1, xs2, xb, rfl, xhc1, xhc2, xhf, xhm1, xhm2, xhfl, xhg1, xhg2, xhj1, xhj2, xhs1, xhs2⟩ := hx.ex
  obtain ⟨yc1, yc2, yf, ym1, ym2, yfl, yg1, yg2, yj1, yj2, ys1, ys2, yb, rfl, yhc1, yhc2, yhf, yhm1, yhm2, yhfl, yhg1, yhg2, yhj1, yhj2, yhs1, yhs2⟩ := hy.ex
  have hm : V13 [xc1, xc2, xf, xm1, xm2, xfl, .bl yb, xg1, xg2, xj1, xj2, xs1, xs2] := ⟨⟨_, _, _, _, _, _, _, _, _, _, _, _, _, rfl, xhc1, xhc2, xhf, xhm1, xhm2, xhfl, xhg1, xhg2, xhj1, xhj2, xhs1, xhs2⟩⟩
  have e : eqB (.tup [xc1, xc2, xf, xm1, xm2, xfl, .bl xb, xg1, xg2, xj1, xj2, xs1, xs2]) (.tup [xc1, xc2, xf, xm1, xm2, xfl, .bl yb, xg1, xg2, xj1, xj2, xs1, xs2]) = eqB (.bl xb) (.bl yb) := eqL_set [xc1, xc2, xf, xm1, xm2, xfl, .bl xb, xg1, xg2, xj1, xj2, xs1, xs2] 6 (.bl yb) (.bl xb) pl rfl
  refine ⟨.val (.lst [xc1, xc2, xf, xm1, xm2, xfl, .bl yb, xg1, xg2, xj1, xj2, xs1, xs2]), seq_eq (set_eq (d := .lst [xc1, xc2, xf, xm1, xm2, xfl, .bl yb, xg1, xg2, xj1, xj2, xs1, xs2]) rfl) (ifm_f (orm_f (op2_eq (x := .bl (eqB (.bl xb) (.bl yb))) (bl_eq (op2S_eq rfl (made_at hm rfl) (by rw [eqO_ok hx0 hm, e]))) (bl_eq (op2_eq rfl rfl (eqM_of (gx (.bl xb) (by simp)) (gy (.bl yb) (by simp)) (by decide)))) (ne_self _)) (op2S_eq rfl rfl (eqO_no _ _ _ _))) rfl)⟩
theorem rt_7 {xs ys : List D} (hx : V13 xs) (hy : V13 ys) (c : D) (s5 : Slot) (st : List Cell) : ∃ s5', rtB ⟨[.val c, .val (.lst xs), .val (.lst ys), .val (.ins 1 xs), .val (.int 7), s5, .emp], st⟩ = .ok .nx ⟨[.val c, .val (.lst xs), .val (.lst ys), .val (.ins 1 xs), .val (.int 7), s5', .emp], st⟩ := by
  have pl : plL xs = true := plL_of fun d hd => (hx.g d hd).pl
  have gx := hx.g
  have gy := hy.g
  have hx0 := hx
  obtain ⟨xc1, xc2, xf, xm1, xm2, xfl, xg1, xg2, xj1, xj2, xs1, xs2, xb, rfl, xhc1, xhc2, xhf, xhm1, xhm2, xhfl, xhg1, xhg2, xhj1, xhj2, xhs1, xhs2⟩ := hx.ex
  obtain ⟨yc1, yc2, yf, ym1, ym2, yfl, yg1, yg2, yj1, yj2, ys1, ys2, yb, rfl, yhc1, yhc2, yhf, yhm1, yhm2, yhfl, yhg1, yhg2, yhj1, yhj2, yhs1, yhs2⟩ := hy.ex
  have hm : V13 [xc1, xc2, xf, xm1, xm2, xfl, .bl xb, yg1, xg2, xj1, xj2, xs1, xs2] := ⟨⟨_, _, _, _, _, _, _, _, _, _, _, _, _, rfl, xhc1, xhc2, xhf, xhm1, xhm2, xhfl, yhg1, xhg2, xhj1, xhj2, xhs1, xhs2⟩⟩
  have e : eqB (.tup [xc1, xc2, xf, xm1, xm2, xfl, .bl xb, xg1, xg2, xj1, xj2, xs1, xs2]) (.tup [xc1, xc2, xf, xm1, xm2, xfl, .bl xb, yg1, xg2, xj1, xj2, xs1, xs2]) = eqB (xg1) (yg1) := eqL_set [xc1, xc2, xf, xm1, xm2, xfl, .bl xb, xg1, xg2, xj1, xj2, xs1, xs2] 7 (yg1) (xg1) pl rfl
  refine ⟨.val (.lst [xc1, xc2, xf, xm1, xm2, xfl, .bl xb, yg1, xg2, xj1, xj2, xs1, xs2]), seq_eq (set_eq (d := .lst [xc1, xc2, xf, xm1, xm2, xfl, .bl xb, yg1, xg2, xj1, xj2, xs1, xs2]) rfl) (ifm_f (orm_f (op2_eq (x := .bl (eqB (xg1) (yg1))) (bl_eq (op2S_eq rfl (made_at hm rfl) (by rw [eqO_ok hx0 hm, e]))) (bl_eq (op2_eq rfl rfl (eqM_of (gx (xg1) (by simp)) (gy (yg1) (by simp)) (by decide)))) (ne_self _)) (op2S_eq rfl rfl (eqO_no _ _ _ _))) rfl)⟩
theorem rt_8 {xs ys : List D} (hx : V13 xs) (hy : V13 ys) (c : D) (s5 : Slot) (st : List Cell) : ∃ s5', rtB ⟨[.val c, .val (.lst xs), .val (.lst ys), .val (.ins 1 xs), .val (.int 8), s5, .emp], st⟩ = .ok .nx ⟨[.val c, .val (.lst xs), .val (.lst ys), .val (.ins 1 xs), .val (.int 8), s5', .emp], st⟩ := by
  have pl : plL xs = true := plL_of fun d hd => (hx.g d hd).pl
  have gx := hx.g
  have gy := hy.g
  have hx0 := hx
  obtain ⟨xc1, xc2, xf, xm1, xm2, xfl, xg1, xg2, xj1, xj2, xs1, xs2, xb, rfl, xhc1, xhc2, xhf, xhm1, xhm2, xhfl, xhg1, xhg2, xhj1, xhj2, xhs1, xhs2⟩ := hx.ex
  obtain ⟨yc1, yc2, yf, ym1, ym2, yfl, yg1, yg2, yj1, yj2, ys1, ys2, yb, rfl, yhc1, yhc2, yhf, yhm1, yhm2, yhfl, yhg1, yhg2, yhj1, yhj2, yhs1, yhs2⟩ := hy.ex
  have hm : V13 [xc1, xc2, xf, xm1, xm2, xfl, .bl xb, xg1, yg2, xj1, xj2, xs1, xs2] := ⟨⟨_, _, _, _, _, _, _, _, _, _, _, _, _, rfl, xhc1, xhc2, xhf, xhm1, xhm2, xhfl, xhg1, yhg2, xhj1, xhj2, xhs1, xhs2⟩⟩
  have e : eqB (.tup [xc1, xc2, xf, xm1, xm2, xfl, .bl xb, xg1, xg2, xj1, xj2, xs1, xs2]) (.tup [xc1, xc2, xf, xm1, xm2, xfl, .bl xb, xg1, yg2, xj1, xj2, xs1, xs2]) = eqB (xg2) (yg2) := eqL_set [xc1, xc2, xf, xm1, xm2, xfl, .bl xb, xg1, xg2, xj1, xj2, xs1, xs2] 8 (yg2) (xg2) pl rfl
  refine ⟨.val (.lst [xc1, xc2, xf, xm1, xm2, xfl, .bl xb, xg1, yg2, xj1, xj2, xs1, xs2]), seq_eq (set_eq (d := .lst [xc1, xc2, xf, xm1, xm2, xfl, .bl xb, xg1, yg2, xj1, xj2, xs1, xs2]) rfl) (ifm_f (orm_f (op2_eq (x := .bl (eqB (xg2) (yg2))) (bl_eq (op2S_eq rfl (made_at hm rfl) (by rw [eqO_ok hx0 hm, e]))) (bl_eq (op2_eq rfl rfl (eqM_of (gx (xg2) (by simp)) (gy (yg2) (by simp)) (by decide)))) (ne_self _)) (op2S_eq rfl rfl (eqO_no _ _ _ _))) rfl)⟩
theorem rt_9 {xs ys : List D} (hx : V13 xs) (hy : V13 ys) (c : D) (s5 : Slot) (st : List Cell) : ∃ s5', rtB ⟨[.val c, .val (.lst xs), .val (.lst ys), .val (.ins 1 xs), .val (.int 9), s5, .emp], st⟩ = .ok .nx ⟨[.val c, .val (.lst xs), .val (.lst ys), .val (.ins 1 xs), .val (.int 9), s5', .emp], st⟩ := by
  have pl : plL xs = true := plL_of fun d hd => (hx.g d hd).pl
  have gx := hx.g
  have gy := hy.g
  have hx0 := hx
  obtain ⟨xc1, xc2, xf, xm1, xm2, xfl, xg1, xg2, xj1, xj2, xs1, xs2, xb, rfl, xhc1, xhc2, xhf, xhm1, xhm2, xhfl, xhg1, xhg2, xhj1, xhj2, xhs1, xhs2⟩ := hx.ex
  obtain ⟨yc1, yc2, yf, ym1, ym2, yfl, yg1, yg2, yj1, yj2, ys1, ys2, yb, rfl, yhc1, yhc2, yhf, yhm1, yhm2, yhfl, yhg1, yhg2, yhj1, yhj2, yhs1, yhs2⟩ := hy.ex
  have hm : V13 [xc1, xc2, xf, xm1, xm2, xfl, .bl xb, xg1, xg2, yj1, xj2, xs1, xs2] := ⟨⟨_, _, _, _, _, _, _, _, _, _, _, _, _, rfl, xhc1, xhc2, xhf, xhm1, xhm2, xhfl, xhg1, xhg2, yhj1, xhj2, xhs1, xhs2⟩⟩
  have e : eqB (.tup [xc1, xc2, xf, xm1, xm2, xfl, .bl xb, xg1, xg2, xj1, xj2, xs1, xs2]) (.tup [xc1, xc2, xf, xm1, xm2, xfl, .bl xb, xg1, xg2, yj1, xj2, xs1, xs2]) = eqB (xj1) (yj1) := eqL_set [xc1, xc2, xf, xm1, xm2, xfl, .bl xb, xg1, xg2, xj1, xj2, xs1, xs2] 9 (yj1) (xj1) pl rfl
  refine ⟨.val (.lst [xc1, xc2, xf, xm1, xm2, xfl, .bl xb, xg1, xg2, yj1, xj2, xs1, xs2]), seq_eq (set_eq (d := .lst [xc1, xc2, xf, xm1, xm2, xfl, .bl xb, xg1, xg2, yj1, xj2, xs1, xs2]) rfl) (ifm_f (orm_f (op2_eq (x := .bl (eqB (xj1) (yj1))) (bl_eq (op2S_eq rfl (made_at hm rfl) (by rw [eqO_ok hx0 hm, e]))) (bl_eq (op2_eq rfl rfl (eqM_of (gx (xj1) (by simp)) (gy (yj1) (by simp)) (by decide)))) (ne_self _)) (op2S_eq rfl rfl (eqO_no _ _ _ _))) rfl)⟩
theorem rt_10 {xs ys : List D} (hx : V13 xs) (hy : V13 ys) (c : D) (s5 : Slot) (st : List Cell) : ∃ s5', rtB ⟨[.val c, .val (.lst xs), .val (.lst ys), .val (.ins 1 xs), .val (.int 10), s5, .emp], st⟩ = .ok .nx ⟨[.val c, .val (.lst xs), .val (.lst ys), .val (.ins 1 xs), .val (.int 10), s5', .emp], st⟩ := by
  have pl : plL xs = true := plL_of fun d hd => (hx.g d hd).pl
  have gx := hx.g
  have gy := hy.g
  have hx0 := hx
  obtain ⟨xc1, xc2, xf, xm1, xm2, xfl, xg1, xg2, xj1, xj2, xs1, xs2, xb, rfl, xhc1, xhc2, xhf, xhm1, xhm2, xhfl, xhg1, xhg2, xhj1, xhj2, xhs1, xhs2⟩ := hx.ex
  obtain ⟨yc1, yc2, yf, ym1, ym2, yfl, yg1, yg2, yj1, yj2, ys1, ys2, yb, rfl, yhc1, yhc2, yhf, yhm1, yhm2, yhfl, yhg1, yhg2, yhj1, yhj2, yhs1, yhs2⟩ := hy.ex
  have hm : V13 [xc1, xc2, xf, xm1, xm2, xfl, .bl xb, xg1, xg2, xj1, yj2, xs1, xs2] := ⟨⟨_, _, _, _, _, _, _, _, _, _, _, _, _, rfl, xhc1, xhc2, xhf, xhm1, xhm2, xhfl, xhg1, xhg2, xhj1, yhj2, xhs1, xhs2⟩⟩
  have e : eqB (.tup [xc1, xc2, xf, xm1, xm2, xfl, .bl xb, xg1, xg2, xj1, xj2, xs1, xs2]) (.tup [xc1, xc2, xf, xm1, xm2, xfl, .bl xb, xg1, xg2, xj1, yj2, xs1, xs2]) = eqB (xj2) (yj2) := eqL_set [xc1, xc2, xf, xm1, xm2, xfl, .bl xb, xg1, xg2, xj1, xj2, xs1, xs2] 10 (yj2) (xj2) pl rfl
  refine ⟨.val (.lst [xc1, xc2, xf, xm1, xm2, xfl, .bl xb, xg1, xg2, xj1, yj2, xs1, xs2]), seq_eq (set_eq (d := .lst [xc1, xc2, xf, xm1, xm2, xfl, .bl xb, xg1, xg2, xj1, yj2, xs1, xs2]) rfl) (ifm_f (orm_f (op2_eq (x := .bl (eqB (xj2) (yj2))) (bl_eq (op2S_eq rfl (made_at hm rfl) (by rw [eqO_ok hx0 hm, e]))) (bl_eq (op2_eq rfl rfl (eqM_of (gx (xj2) (by simp)) (gy (yj2) (by simp)) (by decide)))) (ne_self _)) (op2S_eq rfl rfl (eqO_no _ _ _ _))) rfl)⟩
theorem rt_11 {xs ys : List D} (hx : V13 xs) (hy : V13 ys) (c : D) (s5 : Slot) (st : List Cell) : ∃ s5', rtB ⟨[.val c, .val (.lst xs), .val (.lst ys), .val (.ins 1 xs), .val (.int 11), s5, .emp], st⟩ = .ok .nx ⟨[.val c, .val (.lst xs), .val (.lst ys), .val (.ins 1 xs), .val (.int 11), s5', .emp], st⟩ := by
  have pl : plL xs = true := plL_of fun d hd => (hx.g d hd).pl
  have gx := hx.g
  have gy := hy.g
  have hx0 := hx
  obtain ⟨xc1, xc2, xf, xm1, xm2, xfl, xg1, xg2, xj1, xj2, xs1, xs2, xb, rfl, xhc1, xhc2, xhf, xhm1, xhm2, xhfl, xhg1, xhg2, xhj1, xhj2, xhs1, xhs2⟩ := hx.ex
  obtain ⟨yc1, yc2, yf, ym1, ym2, yfl, yg1, yg2, yj1, yj2, ys1, ys2, yb, rfl, yhc1, yhc2, yhf, yhm1, yhm2, yhfl, yhg1, yhg2, yhj1, yhj2, yhs1, yhs2⟩ := hy.ex
  have hm : V13 [xc1, xc2, xf, xm1, xm2, xfl, .bl xb, xg1, xg2, xj1, xj2, ys1, xs2] := ⟨⟨_, _, _, _, _, _, _, _, _, _, _, _, _, rfl, xhc1, xhc2, xhf, xhm1, xhm2, xhfl, xhg1, xhg2, xhj1, xhj2, yhs1, xhs2⟩⟩
  have e : eqB (.tup [xc1, xc2, xf, xm1, xm2, xfl, .bl xb, xg1, xg2, xj1, xj2, xs1, xs2]) (.tup [xc1, xc2, xf, xm1, xm2, xfl, .bl xb, xg1, xg2, xj1, xj2, ys1, xs2]) = eqB (xs1) (ys1) := eqL_set [xc1, xc2, xf, xm1, xm2, xfl, .bl xb, xg1, xg2, xj1, xj2, xs1, xs2] 11 (ys1) (xs1) pl rfl
  refine ⟨.val (.lst [xc1, xc2, xf, xm1, xm2, xfl, .bl xb, xg1, xg2, xj1, xj2, ys1, xs2]), seq_eq (set_eq (d := .lst [xc1, xc2, xf, xm1, xm2, xfl, .bl xb, xg1, xg2, xj1, xj2, ys1, xs2]) rfl) (ifm_f (orm_f (op2_eq (x := .bl (eqB (xs1) (ys1))) (bl_eq (op2S_eq rfl (made_at hm rfl) (by rw [eqO_ok hx0 hm, e]))) (bl_eq (op2_eq rfl rfl (eqM_of (gx (xs1) (by simp)) (gy (ys1) (by simp)) (by decide)))) (ne_self _)) (op2S_eq rfl rfl (eqO_no _ _ _ _))) rfl)⟩
theorem rt_12 {xs ys : List D} (hx : V13 xs) (hy : V13 ys) (c : D) (s5 : Slot) (st : List Cell) : ∃ s5', rtB ⟨[.val c, .val (.lst xs), .val (.lst ys), .val (.ins 1 xs), .val (.int 12), s5, .emp], st⟩ = .ok .nx ⟨[.val c, .val (.lst xs), .val (.lst ys), .val (.ins 1 xs), .val (.int 12), s5', .emp], st⟩ := by
  have pl : plL xs = true := plL_of fun d hd => (hx.g d hd).pl
  have gx := hx.g
  have gy := hy.g
  have hx0 := hx
  obtain ⟨xc1, xc2, xf, xm1, xm2, xfl, xg1, xg2, xj1, xj2, xs1, xs2, xb, rfl, xhc1, xhc2, xhf, xhm1, xhm2, xhfl, xhg1, xhg2, xhj1, xhj2, xhs1, xhs2⟩ := hx.ex
  obtain ⟨yc1, yc2, yf, ym1, ym2, yfl, yg1, yg2, yj1, yj2, ys1, ys2, yb, rfl, yhc1, yhc2, yhf, yhm1, yhm2, yhfl, yhg1, yhg2, yhj1, yhj2, yhs1, yhs2⟩ := hy.ex
  have hm : V13 [xc1, xc2, xf, xm1, xm2, xfl, .bl xb, xg1, xg2, xj1, xj2, xs1, ys2] := ⟨⟨_, _, _, _, _, _, _, _, _, _, _, _, _, rfl, xhc1, xhc2, xhf, xhm1, xhm2, xhfl, xhg1, xhg2, xhj1, xhj2, xhs1, yhs2⟩⟩
  have e : eqB (.tup [xc1, xc2, xf, xm1, xm2, xfl, .bl xb, xg1, xg2, xj1, xj2, xs1, xs2]) (.tup [xc1, xc2, xf, xm1, xm2, xfl, .bl xb, xg1, xg2, xj1, xj2, xs1, ys2]) = eqB (xs2) (ys2) := eqL_set [xc1, xc2, xf, xm1, xm2, xfl, .bl xb, xg1, xg2, xj1, xj2, xs1, xs2] 12 (ys2) (xs2) pl rfl
  refine ⟨.val (.lst [xc1, xc2, xf, xm1, xm2, xfl, .bl xb, xg1, xg2, xj1, xj2, xs1, ys2]), seq_eq (set_eq (d := .lst [xc1, xc2, xf, xm1, xm2, xfl, .bl xb, xg1, xg2, xj1, xj2, xs1, ys2]) rfl) (ifm_f (orm_f (op2_eq (x := .bl (eqB (xs2) (ys2))) (bl_eq (op2S_eq rfl (made_at hm rfl) (by rw [eqO_ok hx0 hm, e]))) (bl_eq (op2_eq rfl rfl (eqM_of (gx (xs2) (by simp)) (gy (ys2) (by simp)) (by decide)))) (ne_self _)) (op2S_eq rfl rfl (eqO_no _ _ _ _))) rfl)⟩
theorem rt_at {xs ys : List D} (hx : V13 xs) (hy : V13 ys) (c : D) (s5 : Slot) (st : List Cell) {k : Nat} (hk : k < 13) : ∃ s5', rtB ⟨[.val c, .val (.lst xs), .val (.lst ys), .val (.ins 1 xs), .val (.int (k : Int)), s5, .emp], st⟩ = .ok .nx ⟨[.val c, .val (.lst xs), .val (.lst ys), .val (.ins 1 xs), .val (.int (k : Int)), s5', .emp], st⟩ := by
  match k, hk with
  | 0, _ => exact rt_0 hx hy c s5 st
  | 1, _ => exact rt_1 hx hy c s5 st
  | 2, _ => exact rt_2 hx hy c s5 st
  | 3, _ => exact rt_3 hx hy c s5 st
  | 4, _ => exact rt_4 hx hy c s5 st
  | 5, _ => exact rt_5 hx hy c s5 st
  | 6, _ => exact rt_6 hx hy c s5 st
  | 7, _ => exact rt_7 hx hy c s5 st
  | 8, _ => exact rt_8 hx hy c s5 st
  | 9, _ => exact rt_9 hx hy c s5 st
  | 10, _ => exact rt_10 hx hy c s5 st
  | 11, _ => exact rt_11 hx hy c s5 st
  | 12, _ => exact rt_12 hx hy c s5 st
  | n + 13, h => omega
theorem rt_loop {xs ys : List D} (hx : V13 xs) (hy : V13 ys) (c : D) (st : List Cell) : ∀ (ks : List Nat) (s4 s5 : Slot), (∀ k ∈ ks, k < 13) → ∃ s4' s5', forL (tgN 4) rtB (ks.map fun (k : Nat) => D.int (k : Int)) ⟨[.val c, .val (.lst xs), .val (.lst ys), .val (.ins 1 xs), s4, s5, .emp], st⟩ = .ok .nx ⟨[.val c, .val (.lst xs), .val (.lst ys), .val (.ins 1 xs), s4', s5', .emp], st⟩
  | [], s4, s5, _ => ⟨s4, s5, rfl⟩
  | k :: ks, s4, s5, h => by
    obtain ⟨s5a, e1⟩ := rt_at hx hy c s5 st (h k (by simp))
    obtain ⟨s4', s5', e2⟩ := rt_loop hx hy c st ks (.val (.int (k : Int))) s5a fun x hx => h x (by simp [hx])
    exact ⟨s4', s5', for_cons rfl e1 e2⟩
abbrev D0 : List D := [.tup [], .tup [], .tup [], .tup [.str "auto"], .tup [.str "auto"], .str "row", .bl false, .int 0, .int 0, .str "stretch", .str "stretch", .str "stretch", .str "stretch"]
theorem col0 : Col (.tup []) := .inl ⟨false, [], 0, 0, rfl, .nil, by decide, by decide, fun h => by cases h⟩
theorem fld0 : Fld (.tup []) := ⟨1, 0, 0, 0, rfl, by decide, by decide, by decide, by decide, by decide⟩
theorem mor0 : Mor (.tup [.str "auto"]) := ⟨[.str "auto"], rfl, by decide, by decide, all1 (.wrd .auto) all0⟩
theorem v0 {c1 c2 : D} (h1 : Col c1) (h2 : Col c2) : V13 [c1, c2, .tup [], .tup [.str "auto"], .tup [.str "auto"], .str "row", .bl false, .int 0, .int 0, .str "stretch", .str "stretch", .str "stretch", .str "stretch"] :=
  ⟨⟨_, _, _, _, _, _, _, _, _, _, _, _, _, rfl, h1, h2, fld0, mor0, mor0, by simp, .len (.int (by decide)), .len (.int (by decide)), by simp, by simp, by simp, by simp⟩⟩
theorem mk_eq {n m : Nat} {ar : List D → List D → List D} {mk : List D → M D} {ms mk2 : M (List D)} {a a1 a2 : AS} {ds zs vs : List D} {o : Out D} (h1 : ms a = .ok ds a1) (h2 : mk2 a1 = .ok zs a2) (hl : (ds.length == n && zs.length == m) = true) (hv : ar ds zs = vs) (h : mk vs a2 = o) : makeM n m ar mk ms mk2 a = o := by
  refine bd_eq h1 (bd_eq h2 ?_)
  rw [if_pos hl, hv]
  exact h
theorem right_ok {i : Nat} {st : List Cell} (h : Wl i st) : ∃ st' sl, f__law_right [.cell i] st = .ok (.bl true) ⟨sl, st'⟩ := by
  obtain ⟨xs, st1, hx, w1, e1⟩ := values_at h
  obtain ⟨ys, st2, hy, w2, e2⟩ := values_at w1
  obtain ⟨s4, s5, e3⟩ := rt_loop hx hy (.cell i) st2 (List.range 13) .emp .emp fun k hk => List.mem_range.mp hk
  rw [← rangeD_map] at e3
  have hx0 := hx
  have gx := G.lst hx.g
  have pl : plL xs = true := plL_of fun d hd => (hx.g d hd).pl
  obtain ⟨xc1, xc2, xf, xm1, xm2, xfl, xg1, xg2, xj1, xj2, xs1, xs2, xb, rfl, xhc1, xhc2, xhf, xhm1, xhm2, xhfl, xhg1, xhg2, xhj1, xhj2, xhs1, xhs2⟩ := hx.ex
  have hd := v0 col0 col0
  have hb := v0 xhc1 xhc2
  have nb : notInM (.bl xb) (.tup [.bl true, .bl false]) = some false := by cases xb <;> rfl
  have gs : G 12 (.lst [xc1, xc2, .tup [], .tup [.str "auto"], .tup [.str "auto"], .str "row", .bl false, .int 0, .int 0, .str "stretch", .str "stretch", .str "stretch", .str "stretch"]) := (G.lst hb.g).mono (by decide)
  refine ⟨st2, _, fin_eq (seq_eq (par_eq (e1 _) (e2 _)) (seq_eq (set_eq (made_at hx0 rfl)) (seq_eq (ifm_f (orm_f (op2_eq (lparts_at hx0 rfl) rfl (by rw [neM_of gx gx (by decide), eqB_self _ gx.pl]; rfl)) (orm_f (op2_eq (x := .bl xb) rfl rfl nb) (op2S_eq rfl (made_at hx0 rfl) (by rw [neO_ok hx0 hx0, show eqB (.tup _) (.tup _) = true from eqL_self _ pl]; rfl)))) rfl) (seq_eq (bd_eq rfl e3) (seq_eq (set_eq (d := .lst [.str "stretch", .str "stretch", .str "stretch", .str "stretch"]) rfl) (seq_eq (ifm_f (op2_eq (lparts_at hd (mk_eq rfl rfl rfl rfl (make_ok hd _ _))) (y := .lst D0) rfl (by kernel_rfl)) rfl) (ret_eq (bl_eq (op2_eq (lparts_at hb (mk_eq (ds := [xc1, xc2]) rfl rfl rfl rfl (make_ok hb _ _))) (bd_eq (cat_eq (xs := [xc1, xc2]) (ys := D0.drop 2) rfl (bd_eq (bd_eq (lparts_at hd (mk_eq rfl rfl rfl rfl (make_ok hd _ _))) rfl) rfl) rfl rfl (by show (2 : Nat) + 11 ≤ 100000; decide)) rfl) (by show eqM (.lst [xc1, xc2, .tup [], .tup [.str "auto"], .tup [.str "auto"], .str "row", .bl false, .int 0, .int 0, .str "stretch", .str "stretch", .str "stretch", .str "stretch"]) (.lst [xc1, xc2, .tup [], .tup [.str "auto"], .tup [.str "auto"], .str "row", .bl false, .int 0, .int 0, .str "stretch", .str "stretch", .str "stretch", .str "stretch"]) = some true; rw [eqM_of gs gs (by decide), eqB_self _ gs.pl]))))))))))⟩
abbrev lwB : M Fl := seqM (cellM 3 (bd (consM (opM mulM (varM 2) (calM intM (consM (blM (op2 geM (varM 2) (opM powM (ret (.int 10)) (ret (.int 18))))) nilM))) (consM (opM addM (opM modM (calM intM (consM (varM 2) nilM)) (ret (.int 2147483647))) (opM mulM (ret (.int 7919)) (varM 1))) (consM (ret (.int 0)) nilM))) fun xs => if xs.length ≤ 1000 then ret xs else no))
    (ifM (notM (tstM (callA 1 f__law_right [] (consM (varM 3) nilM))))
    (retM (ret (.bl false)))
    (nxM))
theorem cell_eq {i : Nat} {m : M (List D)} {a a' : AS} {ds : List D} (h : m a = .ok ds a') : cellM i m a = .ok .nx ⟨a'.sl.set i (.val (.cell a'.st.length)), a'.st ++ [.lst ds]⟩ := bd_eq h rfl
theorem law_body (n : Int) (k : Nat) (c : D) (s3 : Slot) (st : List Cell) : ∃ s3' st', lwB ⟨[.val c, .val (.int (k : Int)), .val (.int n), s3], st⟩ = .ok .nx ⟨[.val c, .val (.int (k : Int)), .val (.int n), s3'], st'⟩ := by
  obtain ⟨x, hx⟩ : ∃ x : Int, opM mulM (varM 2) (calM intM (consM (blM (op2 geM (varM 2) (opM powM (ret (.int 10)) (ret (.int 18))))) nilM)) ⟨[.val c, .val (.int (k : Int)), .val (.int n), s3], st⟩ = .ok (.int x) ⟨[.val c, .val (.int (k : Int)), .val (.int n), s3], st⟩ :=
    ⟨_, op_eq rfl (cal_eq (cons_eq (bl_eq (op2_eq rfl (op_eq (z := .int (10 ^ 18)) rfl rfl (by kernel_rfl)) rfl)) rfl) rfl) (mul_some (by split <;> decide))⟩
  have hl : st.length < (st ++ [Cell.lst [.int x, .int (n % 2147483647 + 7919 * (k : Int)), .int 0]]).length := by simp
  have w : Wl st.length (st ++ [.lst [.int x, .int (n % 2147483647 + 7919 * (k : Int)), .int 0]]) := ⟨x, n % 2147483647 + 7919 * (k : Int), 0, by simp⟩
  obtain ⟨st', sl0, e⟩ := right_ok w
  exact ⟨_, st', seq_eq (cell_eq (ds := [.int x, .int (n % 2147483647 + 7919 * (k : Int)), .int 0]) (bd_eq (cons_eq hx (cons_eq (op_eq (op_eq (int_eq rfl) rfl (mod_some (by decide))) (op_eq rfl rfl (mul_some' (by decide))) rfl) rfl)) rfl)) (ifm_f (not_eq (tst_eq (callA_eq (f := f__law_right) (dds := []) (xs := [.cell st.length]) (sl := [.val c, .val (.int (k : Int)), .val (.int n), .val (.cell st.length)]) (a' := ⟨sl0, st'⟩) rfl rfl e))) rfl)⟩
theorem law_loop (c : D) : ∀ (xs : List D), (∀ x ∈ xs, ∃ (k : Nat) (n : Int), x = .tup [.int (k : Int), .int n]) → ∀ (s1 s2 s3 : Slot) (st : List Cell), ∃ s1' s2' s3' st', forL (tgTup 2 (tgCons (tgN 1) (tgCons (tgN 2) tgNil))) lwB xs ⟨[.val c, s1, s2, s3], st⟩ = .ok .nx ⟨[.val c, s1', s2', s3'], st'⟩
  | [], _, s1, s2, s3, st => ⟨s1, s2, s3, st, rfl⟩
  | x :: xs, h, s1, s2, s3, st => by
    obtain ⟨k, n, rfl⟩ := h x (by simp)
    obtain ⟨s3a, sta, e1⟩ := law_body n k c s3 st
    obtain ⟨s1', s2', s3', st', e2⟩ := law_loop c xs (fun x hx => h x (by simp [hx])) (.val (.int (k : Int))) (.val (.int n)) s3a sta
    exact ⟨s1', s2', s3', st', for_cons rfl e1 e2⟩
theorem law_ok (ns : List Int) (hl : ns.length ≤ 63) : ∃ st, f_law [.lst (ns.map D.int)] [] = .ok (.bl true) st := by
  obtain ⟨s1, s2, s3, st, e⟩ := law_loop (.lst (ns.map D.int)) (enumD (cutD (ns.map D.int ++ [.int 0]) none (some 5))) (fun x hx => by
    unfold enumD at hx
    rw [List.mem_mapIdx] at hx
    obtain ⟨k, hk, rfl⟩ := hx
    have : (cutD (ns.map D.int ++ [.int 0]) none (some 5))[k] ∈ ns.map D.int ++ [.int 0] := by
      have h := List.getElem_mem hk
      exact List.mem_of_mem_drop (List.mem_of_mem_take h)
    have : ∃ n : Int, (cutD (ns.map D.int ++ [.int 0]) none (some 5))[k] = .int n := by
      rcases List.mem_append.mp this with z | z
      · obtain ⟨n, _, e⟩ := List.mem_map.mp z
        exact ⟨n, e.symm⟩
      · exact ⟨0, by simpa using z⟩
    obtain ⟨n, e⟩ := this
    exact ⟨k, n, by rw [e]⟩) .emp .emp .emp []
  exact ⟨_, fin_eq (seq_eq (bd_eq (bd_eq (cons_eq (bd_eq (bd_eq (bd_eq (cat_eq (xs := ns.map D.int) (ys := [.int 0]) rfl rfl rfl rfl (by rw [List.length_map]; simp; omega)) rfl) rfl) rfl) rfl) rfl) e) rfl)⟩
end PL.k05

namespace PL.k05
open PySem PySem.Spec PyProof.Rows L2
def sp_law (K : PySem.W.Frag) : Sp := fun vs H Q _ => spM K (TT K) 1 f_law vs H Q NoX
theorem fs_of {K : PySem.W.Frag} {mg : Str → Option Value} {h : Heap} (KX : K.In h) (G : h.Ns mainGlobals mg) (z1 : He.SaysD fa fn K) (z2 : exB K = true) : Fs K mg := ⟨⟨h, KX, G⟩, z1, z2⟩
theorem law_F {P : Program} {w : World} {K : PySem.W.Frag} {mg : Str → Option Value} {h : Heap} {a : Addr} (KX : K.In h) (G : h.Ns mainGlobals mg) (hmg : mg "law" = some (.ref a)) (z1 : He.SaysD fa fn K) (z2 : exB K = true) :
    ∃ fd : FuncData, (∀ (s : Shared) (u : Value), BindsTo s fd ⟨[u], []⟩ [("script", u)]) ∧ ∀ base : Heap, K.In base → base.Ns mainGlobals mg → FnOk P w K mg base L2.CX0 17 a fd ["script"] (sp_law K) := by
  have Z : Fs K mg := fs_of KX G z1 z2
  obtain ⟨fd, F⟩ := Z.says.def_ 48 (d := d_law) rfl
  have eg : a = He.ga K "law" := by
    have g := He.glo_ok KX G (Z.fact 0 rfl)
    rw [hmg] at g
    injection g with g
    injection g
  subst eg
  refine ⟨fd, fun s u => L2.FunD.bindsA (ps := ["script"]) F (fun _ _ _ _ _ _ us hl => match us, hl with | [_], _ => rfl) s [u] rfl, fun base _ _ => ?_⟩
  obtain ⟨fd', F', O, _⟩ := ok_law (P := P) (w := w) (base := base) Z
  have e2 := FunD_uniq F F'
  subst e2
  exact FnOk_close O
end PL.k05
open PySem PySem.W PyProof.Rows in
set_option maxRecDepth 100000 in
set_option maxHeartbeats 0 in
theorem PL.k05.holds : PySem.Challenge.rw_gridlanes_k05_whole_grids_made.Holds := by
  w_on; o_law; k_head; (case hw => w_witness2)
  k_fill
  refine L2.walk_ofK (l := PySem.Challenge.rw_gridlanes_k05_whole_grids_made) (n := 63) (k := 17) (x := "script") (CX := L2.CX0) (sp := PL.k05.sp_law) rfl (by decide) rfl ⟨rfl, by decide, by decide⟩ (fun w h Y => PySem.W.kIn_of Y) ?F (fun K H a ns hl _ hS => PL.law_sp (PL.k05.law_ok ns hl) hS) (fun _ _ _ _ z => z)
  case F =>
    intro w mg fa h KX G hmg
    exact PL.k05.law_F KX G hmg (by unfold He.SaysD; kernel_rfl) (by kernel_rfl)
set_option maxRecDepth 100000 in
set_option maxHeartbeats 8000000 in
theorem PySem.Challenge.cw_gridlanes_k05_whole_grids_made_holds : PySem.Challenge.rw_gridlanes_k05_whole_grids_made.Holds := by
  exact PL.k05.holds
