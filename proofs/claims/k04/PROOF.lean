import PyProof.Rows.All
import Wide.All
import OpenK.AllK
import Wide.FinOn
import HandS.ForMost
import HandS.ForExc
import HandS.CallSlots
import HandS.IsInst
import HandS.Wide
import HandS.TupAny
import HandS.Defaults
import HandS.MakeKwOnly
import HandS.Lambda
import HandS.ExcInit
import HandS.Flow
import KE.DataEq
import HandS.TupMul
import KE.GoesEnum
import HandS.More
import HandS.MakeKw
import HandS.OwnEq
import HandS.ExcOwn
import KE.KFmtOwn
import KE.KStateDown
import HandS.Head0
import HandS.Head1
import HandS.Head2
import HandS.HeadEnd
import HandS.HeadHook1
import HandS.HeadHook2
import HandS.Style
import HandS.TryOnly
import Open.Pieces
import HandS.Base
import HandS.Call
import HandS.Ends
import HandS.Words
import HandS.ExcField
import HandS.TryMany
import HandS.HeadWalk
import HandS.HeadHook4
import HandS.Dict
import HandS.Zip
import KE.KExcIs
import HandS.ExcBuiltin
import HandS.ExcValue
import HandS.ExcIs
import PySem.Challenge.RW_gridlanes_k04_exceptions
set_option Elab.async false
set_option linter.all false
set_option maxRecDepth 100000
set_option maxHeartbeats 4000000
set_option exponentiation.threshold 3000
namespace PL
open PySem PySem.Spec PyProof.Rows L2

inductive D where
  | non | bl (b : Bool) | int (i : Int) | str (x : Str)
  | tup (ds : List D) | lst (ds : List D) | ins (c : Nat) (ds : List D)
  | cell (i : Nat) | dic | ty (n : String) | cls (c : Nat) | fn (a : Addr) | dct (ks : List Str) (ds : List D) | exo (c : Nat) (ds : List D)
structure TB where
  fl : Nat → List Str
  ins : Nat → Bool
structure Tab extends TB where
  C : Nat → Addr
  tabs : List (Addr × Str) := []
def recK (ks : List Str) (vs : List V) : List (L2.Key × V) := (ks.zip vs).map fun p => (Sum.inr p.1, p.2)
def TupR (K : PySem.W.Frag) (G : Hp) (a : Addr) (xs : List V) : Prop :=
  G a = some (.tup xs) ∨ ∃ (o : Obj) (its : Array Value) (n : Nat), K.lookup a = some o ∧ o.cls = .type "tuple" ∧ o.data = .seq its n ∧ its.size ≤ sizeLine ∧ Vals xs its.toList
def ExoA (G : Hp) (a C : Addr) (fs : List (Str × V)) : Prop := (fs = [] ∧ G a = some (exo a C none)) ∨ ∃ d : Addr, G a = some (exo a C (some d)) ∧ G d = some (exd d fs.reverse)
theorem TupR.sq {K : PySem.W.Frag} {G : Hp} {a : Addr} {xs : List V} (h : TupR K G a xs) : SqT K G a xs := h.elim (fun h => .inl (.inl h)) .inr

section
variable (K : PySem.W.Frag) (T : Tab) (G : Hp) (ρ : List Addr)
mutual
def Rep : D → V → Prop
  | .non, v => v = .non
  | .bl b, v => v = .bl b
  | .int i, v => v = .int i
  | .str x, v => v = .str x
  | .tup ds, v => ∃ a vs, v = .ref a ∧ TupR K G a vs ∧ RepL ds vs
  | .lst ds, v => ∃ a vs, v = .ref a ∧ SqL K G a vs ∧ RepL ds vs
  | .ins c ds, v => ∃ a dx vs, v = .ref a ∧ G a = some (.ins (T.C c) dx ((T.fl c).zip vs)) ∧ vs.length = (T.fl c).length ∧ RepL ds vs
  | .cell i, v => ∃ a, ρ[i]? = some a ∧ v = .ref a
  | .dic, v => ∃ a, v = .ref a ∧ G a = some (.dK [])
  | .ty n, v => v = .ty n
  | .cls c, v => v = .ref (T.C c)
  | .fn a, v => v = .ref a
  | .dct ks ds, v => ∃ a vs, v = .ref a ∧ G a = some (.dK (recK ks vs)) ∧ vs.length = ks.length ∧ RepL ds vs
  | .exo c ds, v => ∃ a vs, v = .ref a ∧ ExoA G a (T.C c) ((T.fl c).zip vs) ∧ vs.length = (T.fl c).length ∧ RepL ds vs
def RepL : List D → List V → Prop
  | [], vs => vs = []
  | d :: ds, vs => ∃ v r, vs = v :: r ∧ Rep d v ∧ RepL ds r
end
def RepF : List (Str × D) → List (Str × V) → Prop
  | [], vs => vs = []
  | (n, d) :: fs, vs => ∃ v r, vs = (n, v) :: r ∧ Rep K T G ρ d v ∧ RepF fs r
end

def Ge (G G' : Hp) : Prop := ∀ b o, G b = some o → G' b = some o
theorem Ge.rfl' {G : Hp} : Ge G G := fun _ _ h => h
theorem Ge.trans {G G1 G2 : Hp} (a : Ge G G1) (b : Ge G1 G2) : Ge G G2 := fun c o h => b c o (a c o h)
theorem Ge.upd {G : Hp} {p : Addr} {o : HO} (h : G p = none) : Ge G (upd G p o) := fun b u e => by rw [upd_ne (ne_of_none e h)]; exact e
theorem Rd.ge {G G' : Hp} {a : Addr} {u : HO} (h : Rd G a u) (e : Ge G G') : Rd G' a u := by
  rcases h with h | ⟨o, h⟩
  · exact .inl (e _ _ h)
  · exact .inr ⟨o, e _ _ h⟩
theorem SqL.ge {K : PySem.W.Frag} {G G' : Hp} {a : Addr} {xs : List V} (h : SqL K G a xs) (e : Ge G G') : SqL K G' a xs := h.elim (fun h => .inl (Rd.ge h e)) .inr
theorem SqT.ge {K : PySem.W.Frag} {G G' : Hp} {a : Addr} {xs : List V} (h : SqT K G a xs) (e : Ge G G') : SqT K G' a xs := h.elim (fun h => .inl (Rd.ge h e)) .inr
theorem ExoA.ge {G G' : Hp} {a C : Addr} {fs : List (Str × V)} (h : ExoA G a C fs) (e : Ge G G') : ExoA G' a C fs := h.elim (fun h => .inl ⟨h.1, e _ _ h.2⟩) (fun ⟨d, h1, h2⟩ => .inr ⟨d, e _ _ h1, e _ _ h2⟩)
theorem TupR.ge {K : PySem.W.Frag} {G G' : Hp} {a : Addr} {xs : List V} (h : TupR K G a xs) (e : Ge G G') : TupR K G' a xs := h.elim (fun h => .inl (e _ _ h)) .inr
theorem pre_get {α : Type} {l l' : List α} {i : Nat} {x : α} (h : l <+: l') (e : l[i]? = some x) : l'[i]? = some x := by
  obtain ⟨r, rfl⟩ := h
  rw [List.getElem?_append_left (List.getElem?_eq_some_iff.mp e).1]
  exact e

section
variable {K : PySem.W.Frag} {T : Tab} {G G' : Hp} {ρ ρ' : List Addr}
mutual
theorem Rep.ge (g : Ge G G') (p : ρ <+: ρ') : ∀ (d : D) (v : V), Rep K T G ρ d v → Rep K T G' ρ' d v
  | .non, _, h => by unfold Rep at *; exact h
  | .bl _, _, h => by unfold Rep at *; exact h
  | .int _, _, h => by unfold Rep at *; exact h
  | .str _, _, h => by unfold Rep at *; exact h
  | .tup ds, v, h => by
    unfold Rep at *
    obtain ⟨a, vs, e, s, r⟩ := h
    exact ⟨a, vs, e, TupR.ge s g, RepL.ge g p ds vs r⟩
  | .lst ds, v, h => by
    unfold Rep at *
    obtain ⟨a, vs, e, s, r⟩ := h
    exact ⟨a, vs, e, SqL.ge s g, RepL.ge g p ds vs r⟩
  | .ins c ds, v, h => by
    unfold Rep at *
    obtain ⟨a, dx, vs, e, s, l, r⟩ := h
    exact ⟨a, dx, vs, e, g _ _ s, l, RepL.ge g p ds vs r⟩
  | .cell i, v, h => by
    unfold Rep at *
    obtain ⟨a, e, q⟩ := h
    exact ⟨a, pre_get p e, q⟩
  | .dic, v, h => by
    unfold Rep at *
    obtain ⟨a, e, s⟩ := h
    exact ⟨a, e, g _ _ s⟩
  | .ty _, _, h => by unfold Rep at *; exact h
  | .cls _, _, h => by unfold Rep at *; exact h
  | .fn _, _, h => by unfold Rep at *; exact h
  | .dct ks ds, v, h => by
    unfold Rep at *
    obtain ⟨a, vs, e, s, l, r⟩ := h
    exact ⟨a, vs, e, g _ _ s, l, RepL.ge g p ds vs r⟩
  | .exo c ds, v, h => by
    unfold Rep at *
    obtain ⟨a, vs, e, s, l, r⟩ := h
    exact ⟨a, vs, e, s.ge g, l, RepL.ge g p ds vs r⟩
theorem RepL.ge (g : Ge G G') (p : ρ <+: ρ') : ∀ (ds : List D) (vs : List V), RepL K T G ρ ds vs → RepL K T G' ρ' ds vs
  | [], _, h => by unfold RepL at *; exact h
  | d :: ds, _, h => by
    unfold RepL at *
    obtain ⟨v, r, e, a, b⟩ := h
    exact ⟨v, r, e, Rep.ge g p d v a, RepL.ge g p ds r b⟩
end
theorem RepF.ge (g : Ge G G') (p : ρ <+: ρ') : ∀ (ds : List (Str × D)) (vs : List (Str × V)), RepF K T G ρ ds vs → RepF K T G' ρ' ds vs
  | [], _, h => by unfold RepF at *; exact h
  | (n, d) :: ds, _, h => by
    unfold RepF at *
    obtain ⟨v, r, e, a, b⟩ := h
    exact ⟨v, r, e, Rep.ge g p d v a, RepF.ge g p ds r b⟩

theorem RepL.nil : RepL K T G ρ [] [] := by unfold RepL; rfl
theorem RepL.cons {d : D} {v : V} {ds : List D} {vs : List V} (h : Rep K T G ρ d v) (t : RepL K T G ρ ds vs) : RepL K T G ρ (d :: ds) (v :: vs) := by unfold RepL; exact ⟨v, vs, rfl, h, t⟩
theorem RepL.inv {d : D} {ds : List D} {vs : List V} (h : RepL K T G ρ (d :: ds) vs) : ∃ v r, vs = v :: r ∧ Rep K T G ρ d v ∧ RepL K T G ρ ds r := by unfold RepL at h; exact h
theorem RepL.inv0 {vs : List V} (h : RepL K T G ρ [] vs) : vs = [] := by unfold RepL at h; exact h
theorem RepL.len : ∀ {ds : List D} {vs : List V}, RepL K T G ρ ds vs → vs.length = ds.length
  | [], _, h => by rw [h.inv0]; rfl
  | _ :: _, _, h => by
    obtain ⟨v, r, e, _, t⟩ := h.inv
    rw [e, List.length_cons, List.length_cons, t.len]
theorem RepL.app : ∀ {ds es : List D} {vs ws : List V}, RepL K T G ρ ds vs → RepL K T G ρ es ws → RepL K T G ρ (ds ++ es) (vs ++ ws)
  | [], _, _, _, h, t => by rw [h.inv0]; exact t
  | _ :: _, _, _, _, h, t => by
    obtain ⟨v, r, e, a, b⟩ := h.inv
    rw [e]
    exact RepL.cons a (RepL.app b t)
theorem RepL.get : ∀ {ds : List D} {vs : List V} {i : Nat} {d : D}, RepL K T G ρ ds vs → ds[i]? = some d → ∃ v, vs[i]? = some v ∧ Rep K T G ρ d v
  | [], _, _, _, _, e => by simp at e
  | _ :: _, _, 0, _, h, e => by
    obtain ⟨v, r, q, a, b⟩ := h.inv
    simp at e
    subst e q
    exact ⟨v, rfl, a⟩
  | _ :: _, _, i + 1, d, h, e => by
    obtain ⟨v, r, q, a, b⟩ := h.inv
    subst q
    obtain ⟨w, h1, h2⟩ := RepL.get (i := i) (d := d) b (by simpa using e)
    exact ⟨w, by simpa using h1, h2⟩
theorem RepL.set : ∀ {ds : List D} {vs : List V} (i : Nat) {d : D} {v : V}, RepL K T G ρ ds vs → Rep K T G ρ d v → RepL K T G ρ (ds.set i d) (vs.set i v)
  | [], _, _, _, _, h, _ => by rw [h.inv0]; exact RepL.nil
  | _ :: _, _, 0, _, _, h, x => by
    obtain ⟨v, r, q, a, b⟩ := h.inv
    subst q
    exact RepL.cons x b
  | _ :: _, _, i + 1, _, _, h, x => by
    obtain ⟨v, r, q, a, b⟩ := h.inv
    subst q
    exact RepL.cons a (RepL.set i b x)
theorem RepL.drop : ∀ {ds : List D} {vs : List V} (n : Nat), RepL K T G ρ ds vs → RepL K T G ρ (ds.drop n) (vs.drop n)
  | _, _, 0, h => h
  | [], _, _ + 1, h => by rw [h.inv0]; exact RepL.nil
  | _ :: _, _, n + 1, h => by
    obtain ⟨v, r, q, a, b⟩ := h.inv
    subst q
    exact RepL.drop n b
theorem RepL.take : ∀ {ds : List D} {vs : List V} (n : Nat), RepL K T G ρ ds vs → RepL K T G ρ (ds.take n) (vs.take n)
  | _, _, 0, _ => RepL.nil
  | [], _, _ + 1, h => by rw [h.inv0]; exact RepL.nil
  | _ :: _, _, n + 1, h => by
    obtain ⟨v, r, q, a, b⟩ := h.inv
    subst q
    exact RepL.cons a (RepL.take n b)
theorem RepL.rep {ds : List D} {vs : List V} (h : RepL K T G ρ ds vs) : ∀ k : Nat, RepL K T G ρ (List.replicate k ds).flatten (List.replicate k vs).flatten
  | 0 => RepL.nil
  | k + 1 => by
    rw [List.replicate_succ, List.replicate_succ, List.flatten_cons, List.flatten_cons]
    exact RepL.app h (RepL.rep h k)
theorem RepL.ints : ∀ {ns : List Int} {vs : List V}, RepL K T G ρ (ns.map D.int) vs → vs = ns.map V.int
  | [], _, h => by rw [h.inv0]; rfl
  | n :: ns, _, h => by
    obtain ⟨v, r, q, a, b⟩ := h.inv
    unfold Rep at a
    rw [q, a, b.ints]
    rfl
theorem RepL.bls : ∀ {ns : List Bool} {vs : List V}, RepL K T G ρ (ns.map D.bl) vs → vs = ns.map V.bl
  | [], _, h => by rw [h.inv0]; rfl
  | n :: ns, _, h => by
    obtain ⟨v, r, q, a, b⟩ := h.inv
    unfold Rep at a
    rw [q, a, b.bls]
    rfl
end

def nt (H : Hp) : Hp := fun b => match H b with
  | some (.tbl _) => none
  | o => o
theorem nt_some {H : Hp} {b : Addr} {o : HO} (h : nt H b = some o) : H b = some o ∧ ∀ ps, o ≠ .tbl ps := by
  unfold nt at h
  cases e : H b with
  | none => rw [e] at h; cases h
  | some u =>
    rw [e] at h
    cases u <;> first | (cases h; done) | (cases h; exact ⟨rfl, fun _ z => nomatch z⟩)
theorem nt_of {H : Hp} {b : Addr} {o : HO} (h : H b = some o) (n : ∀ ps, o ≠ .tbl ps) : nt H b = some o := by
  unfold nt
  rw [h]
  cases o <;> first | rfl | exact absurd rfl (n _)
theorem nt_none {H : Hp} {b : Addr} (h : H b = none) : nt H b = none := by unfold nt; rw [h]
theorem nt_tbl {H : Hp} {b : Addr} {ps : Array Value} : nt H b ≠ some (.tbl ps) := fun h => (nt_some h).2 ps rfl
def NN (H : Hp) (b : Addr) : Prop := ∃ o, H b = some o ∧ ∀ ps, o ≠ .tbl ps
theorem NN.ne {H : Hp} {b : Addr} (h : NN H b) : H b ≠ none := by
  obtain ⟨o, e, _⟩ := h
  rw [e]
  exact fun z => nomatch z
theorem NN.nt {H : Hp} {b : Addr} (h : NN H b) : PL.nt H b ≠ none := by
  obtain ⟨o, e, n⟩ := h
  rw [nt_of e n]
  exact fun z => nomatch z
theorem NN.of {H : Hp} {b : Addr} (h : PL.nt H b ≠ none) : NN H b := by
  cases e : PL.nt H b with
  | none => exact absurd e h
  | some o => exact ⟨o, (nt_some e).1, (nt_some e).2⟩
def TbsOk (T : Tab) (G H : Hp) : Prop := (∀ p ∈ T.tabs, LamX.TabS H p.1 p.2) ∧ ∀ b ps, G b ≠ some (.tbl ps)
theorem TbsOk.ext {T : Tab} {G H H' : Hp} (h : TbsOk T G H) (e : ∀ b o, H b = some o → H' b = some o) : TbsOk T G H' := ⟨fun p hp => (h.1 p hp).ext e, h.2⟩
theorem TbsOk.put {T : Tab} {G H : Hp} {p : Addr} {o : HO} (h : TbsOk T G H) (n : ∀ ps, o ≠ .tbl ps) : TbsOk T (upd G p o) H := ⟨h.1, fun b ps z => by
  by_cases hb : b = p
  · subst hb; rw [upd_same] at z; exact n ps (Option.some.inj z)
  · rw [upd_ne hb] at z; exact h.2 b ps z⟩
theorem TbsOk.upd {T : Tab} {G H : Hp} {b : Addr} {u o : HO} (h : TbsOk T G H) (e : H b = some u) (n1 : ∀ ps, u ≠ .tbl ps) (n2 : ∀ φ, u ≠ .ext φ) : TbsOk T G (upd H b o) := ⟨fun p hp => by
  obtain ⟨ps, a1, a2, a3⟩ := h.1 p hp
  refine ⟨ps, by rw [upd_ne (fun z => by rw [z, e] at a1; exact n1 ps (Option.some.inj a1))]; exact a1, a2, fun pos cv hc => ?_⟩
  obtain ⟨c, e1, e2⟩ := a3 pos cv hc
  exact ⟨c, e1, by rw [upd_ne (fun z => by rw [z, e] at e2; exact n2 _ (Option.some.inj e2))]; exact e2⟩, h.2⟩
inductive Slot where
  | emp | val (d : D) | own (ds : List D) | obj (c : Nat) (fs : List (Str × D))
inductive Cell where
  | lst (ds : List D) | obj (c : Nat) (fs : List (Str × D))
structure AS where
  sl : List Slot
  st : List Cell
structure En where
  H0 : Hp
  G0 : Hp
  ρ0 : List Addr
  sf : Option Addr

section
variable (K : PySem.W.Frag) (T : Tab) (E : En)
def SlotR (G : Hp) (ρ : List Addr) (H : Hp) : Slot → Option V → Prop
  | .emp, _ => True
  | .val d, o => ∃ v, o = some v ∧ Rep K T G ρ d v
  | .own ds, o => ∃ b vs, o = some (.ref b) ∧ H b = some (.lst vs) ∧ RepL K T G ρ ds vs ∧ G b = none ∧ b ∉ ρ ∧ E.H0 b = none
  | .obj c fs, o => ∃ b dx fvs, o = some (.ref b) ∧ H b = some (.ins (T.C c) dx fvs) ∧ RepF K T G ρ fs fvs ∧ E.sf = some b
def CellR (G : Hp) (ρ : List Addr) (H : Hp) (b : Addr) : Cell → Prop
  | .lst ds => ∃ vs, H b = some (.lst vs) ∧ RepL K T G ρ ds vs
  | .obj c fs => ∃ dx fvs, H b = some (.ins (T.C c) dx fvs) ∧ RepF K T G ρ fs fvs
structure AR (G : Hp) (ρ : List Addr) (a : AS) (σ : L2.St) (H : Hp) : Prop where
  sub : ∀ b o, G b = some o → H b = some o
  len : a.sl.length = σ.length
  sl : ∀ (i : Nat) (s : Slot) (v : Option V), a.sl[i]? = some s → σ[i]? = some v → SlotR K T E G ρ H s v
  nd : ∀ (i j : Nat) (b : Addr) (ds es : List D), i ≠ j → a.sl[i]? = some (.own ds) → a.sl[j]? = some (.own es) → σ[i]? = some (some (.ref b)) → σ[j]? = some (some (.ref b)) → False
  clen : a.st.length = ρ.length
  cl : ∀ (i : Nat) (b : Addr) (c : Cell), ρ[i]? = some b → a.st[i]? = some c → CellR K T G ρ H b c
  cnd : ρ.Nodup
  cG : ∀ b ∈ ρ, G b = none
  fr : ∀ b o, E.H0 b = some o → b ∉ E.ρ0 → E.sf ≠ some b → H b = some o
  gnew : ∀ b o, G b = some o → E.G0 b = some o ∨ E.H0 b = none
  gext : ∀ b o, E.G0 b = some o → G b = some o
  rext : E.ρ0 <+: ρ
  rnew : ∀ b ∈ ρ, b ∈ E.ρ0 ∨ E.H0 b = none
  sfH : ∀ b, E.sf = some b → E.H0 b ≠ none ∧ NN H b ∧ G b = none ∧ b ∉ ρ
  h0t : ∀ b ps, E.H0 b ≠ some (.tbl ps)
  tb : TbsOk T G H
end
def Slot.isOwn : Slot → Bool
  | .own _ => true
  | _ => false

section
variable {K : PySem.W.Frag} {T : Tab} {E : En} {G : Hp} {ρ : List Addr} {a : AS} {σ : L2.St} {H : Hp}

theorem AR.cellH (r : AR K T E G ρ a σ H) {b : Addr} (hb : b ∈ ρ) : H b ≠ none := by
  obtain ⟨i, hi⟩ := List.getElem?_of_mem hb
  have hl : i < a.st.length := by rw [r.clen]; exact (List.getElem?_eq_some_iff.mp hi).1
  have hc := r.cl i b _ hi (List.getElem?_eq_getElem hl)
  cases e : a.st[i] with
  | lst ds =>
    rw [e] at hc
    obtain ⟨vs, q, _⟩ := hc
    rw [q]
    exact fun z => nomatch z
  | obj c fs =>
    rw [e] at hc
    obtain ⟨dx, vs, q, _⟩ := hc
    rw [q]
    exact fun z => nomatch z
theorem AR.fresh (r : AR K T E G ρ a σ H) {p : Addr} (hp : H p = none) : E.H0 p = none ∧ G p = none ∧ p ∉ ρ := by
  have h1 : G p = none := by
    cases e : G p with
    | none => rfl
    | some o => rw [r.sub p o e] at hp; cases hp
  have h2 : p ∉ ρ := fun z => r.cellH z hp
  refine ⟨?_, h1, h2⟩
  cases e : E.H0 p with
  | none => rfl
  | some o =>
    by_cases z : p ∈ E.ρ0
    · exact absurd (r.rext.subset z) h2
    · by_cases y : E.sf = some p
      · exact absurd hp (r.sfH p y).2.1.ne
      · rw [r.fr p o e z y] at hp; cases hp
theorem SlotR.ge {G' : Hp} {ρ' : List Addr} {H' : Hp} {s : Slot} {v : Option V} (h : SlotR K T E G ρ H s v) (g : Ge G G') (p : ρ <+: ρ') (hH : ∀ b o, H b = some o → H' b = some o)
    (hG : ∀ b, H b ≠ none → G b = none → G' b = none) (hr : ∀ b, H b ≠ none → b ∉ ρ → b ∉ ρ') : SlotR K T E G' ρ' H' s v := by
  cases s with
  | emp => trivial
  | val d => obtain ⟨x, e, q⟩ := h; exact ⟨x, e, Rep.ge g p _ _ q⟩
  | own ds =>
    obtain ⟨b, vs, e, hb, q, h1, h2, h3⟩ := h
    have nn : H b ≠ none := by rw [hb]; exact fun z => nomatch z
    exact ⟨b, vs, e, hH _ _ hb, RepL.ge g p _ _ q, hG b nn h1, hr b nn h2, h3⟩
  | obj c fs =>
    obtain ⟨b, dx, fvs, e, hb, q, h3⟩ := h
    exact ⟨b, dx, fvs, e, hH _ _ hb, RepF.ge g p _ _ q, h3⟩
theorem CellR.ge {G' : Hp} {ρ' : List Addr} {H' : Hp} {b : Addr} {c : Cell} (h : CellR K T G ρ H b c) (g : Ge G G') (p : ρ <+: ρ') (hH : ∀ o, H b = some o → H' b = some o) : CellR K T G' ρ' H' b c := by
  cases c with
  | lst ds => obtain ⟨vs, e, q⟩ := h; exact ⟨vs, hH _ e, RepL.ge g p _ _ q⟩
  | obj k fs => obtain ⟨dx, vs, e, q⟩ := h; exact ⟨dx, vs, hH _ e, RepF.ge g p _ _ q⟩

theorem AR.lay (r : AR K T E G ρ a σ H) {p : Addr} {o : HO} (hp : H p = none) (no : ∀ ps, o ≠ .tbl ps := by exact fun _ z => nomatch z) : Ge G (upd G p o) ∧ AR K T E (upd G p o) ρ a σ (upd H p o) := by
  obtain ⟨h0, hG, hr⟩ := r.fresh hp
  have g : Ge G (upd G p o) := Ge.upd hG
  have keep : ∀ b u, H b = some u → upd H p o b = some u := fun b u e => by rw [upd_ne (ne_of_none e hp)]; exact e
  have nG : ∀ b, H b ≠ none → G b = none → upd G p o b = none := fun b nn e => by
    have nb : b ≠ p := fun z => nn (z ▸ hp)
    rw [upd_ne nb]
    exact e
  refine ⟨g, ⟨fun b u e => ?_, r.len, fun i s v e1 e2 => (r.sl i s v e1 e2).ge g (List.prefix_refl _) keep nG (fun _ _ z => z), r.nd, r.clen, fun i b c e1 e2 => (r.cl i b c e1 e2).ge g (List.prefix_refl _) (fun u e => keep b u e), r.cnd,
    fun b hb => nG b (r.cellH hb) (r.cG b hb), fun b u e h1 h2 => keep b u (r.fr b u e h1 h2), fun b u e => ?_, fun b u e => g b u (r.gext b u e), r.rext, r.rnew, fun b e => ?_, r.h0t, (r.tb.ext keep).put no⟩⟩
  · by_cases hb : b = p
    · subst hb; rw [upd_same] at e ⊢; exact e
    · rw [upd_ne hb] at e ⊢; exact r.sub b u e
  · by_cases hb : b = p
    · subst hb; exact .inr h0
    · rw [upd_ne hb] at e; exact r.gnew b u e
  · obtain ⟨q1, q2, q3, q4⟩ := r.sfH b e
    have nb : b ≠ p := fun z => q2.ne (z ▸ hp)
    obtain ⟨u, e1, e2⟩ := q2
    exact ⟨q1, ⟨u, keep b u e1, e2⟩, by rw [upd_ne nb]; exact q3, q4⟩
theorem AR.junk (r : AR K T E G ρ a σ H) {p : Addr} {o : HO} (hp : H p = none) : AR K T E G ρ a σ (upd H p o) := by
  obtain ⟨h0, hG, hr⟩ := r.fresh hp
  have keep : ∀ b u, H b = some u → upd H p o b = some u := fun b u e => by rw [upd_ne (ne_of_none e hp)]; exact e
  refine ⟨fun b u e => keep b u (r.sub b u e), r.len, fun i s v e1 e2 => (r.sl i s v e1 e2).ge Ge.rfl' (List.prefix_refl _) keep (fun _ _ z => z) (fun _ _ z => z), r.nd, r.clen, fun i b c e1 e2 => (r.cl i b c e1 e2).ge Ge.rfl' (List.prefix_refl _) (fun u e => keep b u e), r.cnd,
    r.cG, fun b u e h1 h2 => keep b u (r.fr b u e h1 h2), r.gnew, r.gext, r.rext, r.rnew, fun b e => ?_, r.h0t, r.tb.ext keep⟩
  obtain ⟨q1, q2, q3, q4⟩ := r.sfH b e
  obtain ⟨u, e1, e2⟩ := q2
  exact ⟨q1, ⟨u, keep b u e1, e2⟩, q3, q4⟩
theorem AR.slen (r : AR K T E G ρ a σ H) {i : Nat} {s : Slot} (h : a.sl[i]? = some s) : ∃ v, σ[i]? = some v := by
  have : i < σ.length := by rw [← r.len]; exact (List.getElem?_eq_some_iff.mp h).1
  exact ⟨_, List.getElem?_eq_getElem this⟩
theorem AR.val (r : AR K T E G ρ a σ H) {i : Nat} {d : D} (h : a.sl[i]? = some (.val d)) : ∃ v, σ[i]? = some (some v) ∧ Rep K T G ρ d v := by
  obtain ⟨v, e⟩ := r.slen h
  obtain ⟨x, e2, q⟩ := r.sl i _ v h e
  exact ⟨x, by rw [e, e2], q⟩
theorem AR.setV (r : AR K T E G ρ a σ H) {d : D} {v : V} (i : Nat) (h : Rep K T G ρ d v) : AR K T E G ρ { a with sl := a.sl.set i (.val d) } (σ.set i (some v)) H := by
  refine ⟨r.sub, by simp [r.len], fun j s w e1 e2 => ?_, fun j k b ds es hjk e1 e2 e3 e4 => ?_, r.clen, r.cl, r.cnd, r.cG, r.fr, r.gnew, r.gext, r.rext, r.rnew, r.sfH, r.h0t, r.tb⟩
  · by_cases hj : i = j
    · subst hj
      have l1 : i < a.sl.length := by have := (List.getElem?_eq_some_iff.mp e1).1; simpa using this
      have l2 : i < σ.length := by rw [← r.len]; exact l1
      rw [List.getElem?_set_self l1] at e1
      rw [List.getElem?_set_self l2] at e2
      cases e1; cases e2
      exact ⟨v, rfl, h⟩
    · rw [List.getElem?_set_ne hj] at e1 e2
      exact r.sl j s w e1 e2
  · have f : ∀ {m : Nat} {ds : List D}, (a.sl.set i (.val d))[m]? = some (.own ds) → i ≠ m := fun {m ds} e z => by
      subst z
      have l1 : i < a.sl.length := by have := (List.getElem?_eq_some_iff.mp e).1; simpa using this
      rw [List.getElem?_set_self l1] at e
      cases e
    have n1 := f e1
    have n2 := f e2
    rw [List.getElem?_set_ne n1] at e1 e3
    rw [List.getElem?_set_ne n2] at e2 e4
    exact r.nd j k b ds es hjk e1 e2 e3 e4
theorem AR.setE (r : AR K T E G ρ a σ H) (i : Nat) (o : Option V) : AR K T E G ρ { a with sl := a.sl.set i .emp } (σ.set i o) H := by
  refine ⟨r.sub, by simp [r.len], fun j s w e1 e2 => ?_, fun j k b ds es hjk e1 e2 e3 e4 => ?_, r.clen, r.cl, r.cnd, r.cG, r.fr, r.gnew, r.gext, r.rext, r.rnew, r.sfH, r.h0t, r.tb⟩
  · by_cases hj : i = j
    · subst hj
      have l1 : i < a.sl.length := by have := (List.getElem?_eq_some_iff.mp e1).1; simpa using this
      rw [List.getElem?_set_self l1] at e1
      cases e1
      trivial
    · rw [List.getElem?_set_ne hj] at e1 e2
      exact r.sl j s w e1 e2
  · have f : ∀ {m : Nat} {ds : List D}, (a.sl.set i .emp)[m]? = some (.own ds) → i ≠ m := fun {m ds} e z => by
      subst z
      have l1 : i < a.sl.length := by have := (List.getElem?_eq_some_iff.mp e).1; simpa using this
      rw [List.getElem?_set_self l1] at e
      cases e
    have n1 := f e1
    have n2 := f e2
    rw [List.getElem?_set_ne n1] at e1 e3
    rw [List.getElem?_set_ne n2] at e2 e4
    exact r.nd j k b ds es hjk e1 e2 e3 e4
def Free (K : PySem.W.Frag) (T : Tab) (E : En) (G : Hp) (ρ : List Addr) (a : AS) (σ : L2.St) (b : Addr) : Prop :=
  G b = none ∧ b ∉ ρ ∧ E.H0 b = none ∧ ∀ (j : Nat) (ds : List D), a.sl[j]? = some (.own ds) → σ[j]? ≠ some (some (.ref b))
theorem AR.freeOf (r : AR K T E G ρ a σ H) {p : Addr} (hp : H p = none) : Free K T E G ρ a σ p := by
  obtain ⟨h0, hG, hr⟩ := r.fresh hp
  refine ⟨hG, hr, h0, fun j ds e1 e2 => ?_⟩
  obtain ⟨b, vs, e, hb, _⟩ := r.sl j _ _ e1 e2
  cases e
  rw [hb] at hp
  cases hp
theorem AR.setO (r : AR K T E G ρ a σ H) {ds : List D} {vs : List V} {p : Addr} (i : Nat) (f : Free K T E G ρ a σ p) (hp : H p = some (.lst vs)) (h : RepL K T G ρ ds vs) :
    AR K T E G ρ { a with sl := a.sl.set i (.own ds) } (σ.set i (some (.ref p))) H := by
  obtain ⟨f1, f2, f3, f4⟩ := f
  refine ⟨r.sub, by simp [r.len], fun j s w e1 e2 => ?_, fun j k b es fs hjk e1 e2 e3 e4 => ?_, r.clen, r.cl, r.cnd, r.cG, r.fr, r.gnew, r.gext, r.rext, r.rnew, r.sfH, r.h0t, r.tb⟩
  · by_cases hj : i = j
    · subst hj
      have l1 : i < a.sl.length := by have := (List.getElem?_eq_some_iff.mp e1).1; simpa using this
      have l2 : i < σ.length := by rw [← r.len]; exact l1
      rw [List.getElem?_set_self l1] at e1
      rw [List.getElem?_set_self l2] at e2
      cases e1; cases e2
      exact ⟨p, vs, rfl, hp, h, f1, f2, f3⟩
    · rw [List.getElem?_set_ne hj] at e1 e2
      exact r.sl j s w e1 e2
  · by_cases hij : i = j
    · subst hij
      have l1 : i < a.sl.length := by have := (List.getElem?_eq_some_iff.mp e1).1; simpa using this
      have l2 : i < σ.length := by rw [← r.len]; exact l1
      rw [List.getElem?_set_self l2] at e3
      rw [List.getElem?_set_ne hjk] at e2 e4
      cases e3
      exact f4 k _ e2 e4
    · rw [List.getElem?_set_ne hij] at e1 e3
      by_cases hik : i = k
      · subst hik
        have l1 : i < a.sl.length := by have := (List.getElem?_eq_some_iff.mp e2).1; simpa using this
        have l2 : i < σ.length := by rw [← r.len]; exact l1
        rw [List.getElem?_set_self l2] at e4
        cases e4
        exact f4 j _ e1 e3
      · rw [List.getElem?_set_ne hik] at e2 e4
        exact r.nd j k b es fs hjk e1 e2 e3 e4
theorem AR.hold (r : AR K T E G ρ a σ H) {o : HO} {p : Addr} (f : Free K T E G ρ a σ p) (hp : H p = some o) (ns : E.sf ≠ some p) (no : ∀ ps, o ≠ .tbl ps := by exact fun _ z => nomatch z) : Ge G (upd G p o) ∧ AR K T E (upd G p o) ρ a σ H := by
  obtain ⟨f1, f2, f3, f4⟩ := f
  have g : Ge G (upd G p o) := Ge.upd f1
  refine ⟨g, ⟨fun b u e => ?_, r.len, fun i s v e1 e2 => ?_, r.nd, r.clen, fun i b c e1 e2 => (r.cl i b c e1 e2).ge g (List.prefix_refl _) (fun u e => e), r.cnd, fun b hb => ?_, r.fr, fun b u e => ?_, fun b u e => g b u (r.gext b u e), r.rext, r.rnew, fun b e => ?_, r.h0t, r.tb.put no⟩⟩
  · by_cases hb : b = p
    · subst hb; rw [upd_same] at e; cases e; exact hp
    · rw [upd_ne hb] at e; exact r.sub b u e
  · have h := r.sl i s v e1 e2
    cases s with
    | emp => trivial
    | val d => obtain ⟨x, e, q⟩ := h; exact ⟨x, e, Rep.ge g (List.prefix_refl _) _ _ q⟩
    | own ds =>
      obtain ⟨b, ws, e, hb, q, h1, h2, h3⟩ := h
      have nb : b ≠ p := fun z => f4 i ds e1 (by rw [e2, e, z])
      exact ⟨b, ws, e, hb, RepL.ge g (List.prefix_refl _) _ _ q, by rw [upd_ne nb]; exact h1, h2, h3⟩
    | obj c fs => obtain ⟨b, dx, fvs, e, hb, q, h3⟩ := h; exact ⟨b, dx, fvs, e, hb, RepF.ge g (List.prefix_refl _) _ _ q, h3⟩
  · have nb : b ≠ p := fun z => f2 (z ▸ hb)
    rw [upd_ne nb]; exact r.cG b hb
  · by_cases hb : b = p
    · subst hb; exact .inr f3
    · rw [upd_ne hb] at e; exact r.gnew b u e
  · obtain ⟨q1, q2, q3, q4⟩ := r.sfH b e
    have nb : b ≠ p := fun z => ns (z ▸ e)
    exact ⟨q1, q2, by rw [upd_ne nb]; exact q3, q4⟩
theorem AR.own_sf (r : AR K T E G ρ a σ H) {p : Addr} (h : E.H0 p = none) : E.sf ≠ some p := fun z => (r.sfH p z).1 h
theorem AR.freeze (r : AR K T E G ρ a σ H) {i : Nat} {ds : List D} (h : a.sl[i]? = some (.own ds)) :
    ∃ b vs, σ[i]? = some (some (.ref b)) ∧ H b = some (.lst vs) ∧ RepL K T G ρ ds vs ∧ Ge G (upd G b (.lst vs)) ∧ AR K T E (upd G b (.lst vs)) ρ { a with sl := a.sl.set i (.val (.lst ds)) } σ H := by
  obtain ⟨v, e⟩ := r.slen h
  obtain ⟨b, vs, e2, hb, q, h1, h2, h3⟩ := r.sl i _ v h e
  subst e2
  refine ⟨b, vs, e, hb, q, Ge.upd h1, ?_⟩
  -- first forget the name, then hold, then set it
  have r1 := r.setE i (some (.ref b))
  have f : Free K T E G ρ { a with sl := a.sl.set i .emp } (σ.set i (some (.ref b))) b := by
    refine ⟨h1, h2, h3, fun j es e1 e3 => ?_⟩
    by_cases hj : i = j
    · subst hj
      have l1 : i < a.sl.length := by have := (List.getElem?_eq_some_iff.mp e1).1; simpa using this
      rw [List.getElem?_set_self l1] at e1
      cases e1
    · rw [List.getElem?_set_ne hj] at e1 e3
      exact r.nd i j b ds es hj h e1 e e3
  obtain ⟨g, r2⟩ := r1.hold f hb (r.own_sf h3)
  have r3 := r2.setV (d := .lst ds) (v := .ref b) i (by unfold Rep; exact ⟨b, vs, rfl, .inl (.inl upd_same), RepL.ge g (List.prefix_refl _) _ _ q⟩)
  have es : (σ.set i (some (V.ref b))).set i (some (.ref b)) = σ := by
    rw [List.set_set]
    apply List.ext_getElem?
    intro j
    by_cases hj : i = j
    · subst hj
      have l2 : i < σ.length := (List.getElem?_eq_some_iff.mp e).1
      rw [List.getElem?_set_self l2, e]
    · rw [List.getElem?_set_ne hj]
  rw [es] at r3
  have ea : ({ a with sl := a.sl.set i (.val (.lst ds)) } : AS) = { ({ a with sl := a.sl.set i .emp } : AS) with sl := (a.sl.set i .emp).set i (.val (.lst ds)) } := by
    simp [List.set_set]
  rw [ea]
  exact r3
theorem AR.newCellX (r : AR K T E G ρ a σ H) {cl : Cell} {p : Addr} (f : Free K T E G ρ a σ p) (hcl : CellR K T G (ρ ++ [p]) H p cl) :
    AR K T E G (ρ ++ [p]) { a with st := a.st ++ [cl] } σ H := by
  obtain ⟨f1, f2, f3, f4⟩ := f
  have pr : ρ <+: ρ ++ [p] := List.prefix_append _ _
  refine ⟨r.sub, r.len, fun i s v e1 e2 => ?_, r.nd, by simp [r.clen], fun i b c e1 e2 => ?_, ?_, fun b hb => ?_, r.fr, r.gnew, r.gext, r.rext.trans pr, fun b hb => ?_, fun b e => ?_, r.h0t, r.tb⟩
  · have h := r.sl i s v e1 e2
    cases s with
    | emp => trivial
    | val d => obtain ⟨x, e, q⟩ := h; exact ⟨x, e, Rep.ge Ge.rfl' pr _ _ q⟩
    | own es =>
      obtain ⟨b, ws, e, hb, q, h1, h2, h3⟩ := h
      have nb : b ≠ p := fun z => f4 i es e1 (by rw [e2, e, z])
      exact ⟨b, ws, e, hb, RepL.ge Ge.rfl' pr _ _ q, h1, by simp [h2, nb], h3⟩
    | obj c fs => obtain ⟨b, dx, fvs, e, hb, q, h3⟩ := h; exact ⟨b, dx, fvs, e, hb, RepF.ge Ge.rfl' pr _ _ q, h3⟩
  · by_cases hi : i < ρ.length
    · rw [List.getElem?_append_left hi] at e1
      rw [List.getElem?_append_left (by rw [r.clen]; exact hi)] at e2
      exact (r.cl i b c e1 e2).ge Ge.rfl' pr (fun u e => e)
    · have l : i < (ρ ++ [p]).length := (List.getElem?_eq_some_iff.mp e1).1
      have ei : i = ρ.length := by simp at l; omega
      subst ei
      rw [List.getElem?_append_right (Nat.le_refl _)] at e1
      rw [← r.clen, List.getElem?_append_right (Nat.le_refl _)] at e2
      simp at e1 e2
      subst e1 e2
      exact hcl
  · rw [List.nodup_append]
    exact ⟨r.cnd, by simp, fun x hx y hy => by simp at hy; subst hy; exact fun z => f2 (z ▸ hx)⟩
  · rcases List.mem_append.mp hb with hb | hb
    · exact r.cG b hb
    · simp at hb; subst hb; exact f1
  · rcases List.mem_append.mp hb with hb | hb
    · exact r.rnew b hb
    · simp at hb; subst hb; exact .inr f3
  · obtain ⟨q1, q2, q3, q4⟩ := r.sfH b e
    exact ⟨q1, q2, q3, by simp only [List.mem_append, List.mem_singleton, not_or]; exact ⟨q4, fun z => q1 (z ▸ f3)⟩⟩
theorem AR.newCell (r : AR K T E G ρ a σ H) {ds : List D} {vs : List V} {p : Addr} (f : Free K T E G ρ a σ p) (hp : H p = some (.lst vs)) (h : RepL K T G ρ ds vs) :
    AR K T E G (ρ ++ [p]) { a with st := a.st ++ [.lst ds] } σ H := r.newCellX f ⟨vs, hp, RepL.ge Ge.rfl' (List.prefix_append _ _) _ _ h⟩
theorem AR.updO (r : AR K T E G ρ a σ H) {i : Nat} {ds es : List D} {ws : List V} (h : a.sl[i]? = some (.own ds)) {b : Addr} (hb : σ[i]? = some (some (.ref b))) (q : RepL K T G ρ es ws) :
    AR K T E G ρ { a with sl := a.sl.set i (.own es) } σ (upd H b (.lst ws)) := by
  obtain ⟨b', vs, e2, hb', _, h1, h2, h3⟩ := r.sl i _ _ h hb
  cases e2
  have l1 : i < a.sl.length := (List.getElem?_eq_some_iff.mp h).1
  have nsf := r.own_sf h3
  have oth : ∀ j s w, i ≠ j → a.sl[j]? = some s → σ[j]? = some w → SlotR K T E G ρ (upd H b (.lst ws)) s w := fun j s w hj e1 e3 => by
    have z := r.sl j s w e1 e3
    cases s with
    | emp => trivial
    | val d => exact z
    | own fs =>
      obtain ⟨c, us, e, hc, y⟩ := z
      have nb : c ≠ b := fun z => r.nd i j b ds fs hj h e1 hb (by rw [e3, e, z])
      exact ⟨c, us, e, by rw [upd_ne nb]; exact hc, y⟩
    | obj c fs =>
      obtain ⟨c', dx, fvs, e, hc, y1, y2⟩ := z
      have nb : c' ≠ b := fun z => nsf (z ▸ y2)
      exact ⟨c', dx, fvs, e, by rw [upd_ne nb]; exact hc, y1, y2⟩
  refine ⟨fun c u e => ?_, by simp [r.len], fun j s w e1 e3 => ?_, fun j k c xs ys hjk e1 e2 e3 e4 => ?_, r.clen, fun j c u e1 e3 => ?_, r.cnd, r.cG, fun c u e z1 z2 => ?_, r.gnew, r.gext, r.rext, r.rnew, fun c e => ?_, r.h0t, r.tb.upd hb' (fun _ z => nomatch z) (fun _ z => nomatch z)⟩
  · rw [upd_ne (ne_of_none e h1)]; exact r.sub c u e
  · by_cases hj : i = j
    · subst hj
      rw [List.getElem?_set_self l1] at e1
      rw [hb] at e3
      cases e1; cases e3
      exact ⟨b, ws, rfl, upd_same, q, h1, h2, h3⟩
    · rw [List.getElem?_set_ne hj] at e1
      exact oth j s w hj e1 e3
  · have own_of : ∀ {m : Nat} {xs : List D}, (a.sl.set i (.own es))[m]? = some (.own xs) → ∃ ys, a.sl[m]? = some (.own ys) := fun {m xs} e => by
      by_cases hm : i = m
      · subst hm; exact ⟨ds, h⟩
      · rw [List.getElem?_set_ne hm] at e; exact ⟨xs, e⟩
    obtain ⟨x1, y1⟩ := own_of e1
    obtain ⟨x2, y2⟩ := own_of e2
    exact r.nd j k c x1 x2 hjk y1 y2 e3 e4
  · refine (r.cl j c u e1 e3).ge Ge.rfl' (List.prefix_refl _) fun o e => ?_
    have nb : c ≠ b := fun z => h2 (z ▸ List.mem_of_getElem? e1)
    rw [upd_ne nb]; exact e
  · rw [upd_ne (ne_of_none e h3)]; exact r.fr c u e z1 z2
  · obtain ⟨q1, q2, q3, q4⟩ := r.sfH c e
    have nb : c ≠ b := fun z => nsf (z ▸ e)
    obtain ⟨u, w1, w2⟩ := q2
    exact ⟨q1, ⟨u, by rw [upd_ne nb]; exact w1, w2⟩, q3, q4⟩
theorem AR.updCX (r : AR K T E G ρ a σ H) {i : Nat} {c cl : Cell} {o' : HO} (h : a.st[i]? = some c) {b : Addr} (hb : ρ[i]? = some b) (q : CellR K T G ρ (upd H b o') b cl) :
    AR K T E G ρ { a with st := a.st.set i cl } σ (upd H b o') := by
  have hm : b ∈ ρ := List.mem_of_getElem? hb
  have h1 := r.cG b hm
  have l1 : i < a.st.length := (List.getElem?_eq_some_iff.mp h).1
  have nsf : E.sf ≠ some b := fun z => (r.sfH b z).2.2.2 hm
  have htb : TbsOk T G (upd H b o') := by
    have z := r.cl i b c hb h
    cases c with
    | lst ds => obtain ⟨vs, e, _⟩ := z; exact r.tb.upd e (fun _ z => nomatch z) (fun _ z => nomatch z)
    | obj k fs => obtain ⟨dx, vs, e, _⟩ := z; exact r.tb.upd e (fun _ z => nomatch z) (fun _ z => nomatch z)
  refine ⟨fun c u e => ?_, r.len, fun j s w e1 e3 => ?_, r.nd, by simp [r.clen], fun j c u e1 e3 => ?_, r.cnd, r.cG, fun c u e z1 z2 => ?_, r.gnew, r.gext, r.rext, r.rnew, fun c e => ?_, r.h0t, htb⟩
  · rw [upd_ne (ne_of_none e h1)]; exact r.sub c u e
  · have z := r.sl j s w e1 e3
    cases s with
    | emp => trivial
    | val d => exact z
    | own fs =>
      obtain ⟨c, us, e, hc, y1, y2, y3, y4⟩ := z
      have nb : c ≠ b := fun z => y3 (z ▸ hm)
      exact ⟨c, us, e, by rw [upd_ne nb]; exact hc, y1, y2, y3, y4⟩
    | obj c fs =>
      obtain ⟨c', dx, fvs, e, hc, y1, y2⟩ := z
      have nb : c' ≠ b := fun z => nsf (z ▸ y2)
      exact ⟨c', dx, fvs, e, by rw [upd_ne nb]; exact hc, y1, y2⟩
  · by_cases hj : i = j
    · subst hj
      rw [List.getElem?_set_self l1] at e3
      rw [hb] at e1
      cases e1; cases e3
      exact q
    · rw [List.getElem?_set_ne hj] at e3
      refine (r.cl j c u e1 e3).ge Ge.rfl' (List.prefix_refl _) fun o e => ?_
      have nb : c ≠ b := fun z => hj ((List.getElem?_inj (List.getElem?_eq_some_iff.mp hb).1 r.cnd).mp (by rw [hb, e1, z]))
      rw [upd_ne nb]; exact e
  · have nb : c ≠ b := fun z => by
      subst z
      rcases r.rnew c hm with y | y
      · exact z1 y
      · rw [y] at e; cases e
    rw [upd_ne nb]; exact r.fr c u e z1 z2
  · obtain ⟨q1, q2, q3, q4⟩ := r.sfH c e
    have nb : c ≠ b := fun z => nsf (z ▸ e)
    obtain ⟨u, w1, w2⟩ := q2
    exact ⟨q1, ⟨u, by rw [upd_ne nb]; exact w1, w2⟩, q3, q4⟩
theorem AR.updC (r : AR K T E G ρ a σ H) {i : Nat} {c : Cell} {es : List D} {ws : List V} (h : a.st[i]? = some c) {b : Addr} (hb : ρ[i]? = some b) (q : RepL K T G ρ es ws) :
    AR K T E G ρ { a with st := a.st.set i (.lst es) } σ (upd H b (.lst ws)) := r.updCX h hb ⟨ws, upd_same, q⟩
theorem AR.updS (r : AR K T E G ρ a σ H) {i cc : Nat} {fs gs : List (Str × D)} {gvs : List (Str × V)} {dx : Addr} (h : a.sl[i]? = some (.obj cc fs)) (uniq : ∀ j, j ≠ i → ∀ c' f', a.sl[j]? ≠ some (.obj c' f')) {b : Addr} (hb : σ[i]? = some (some (.ref b)))
    (q : RepF K T G ρ gs gvs) : AR K T E G ρ { a with sl := a.sl.set i (.obj cc gs) } σ (upd H b (.ins (T.C cc) dx gvs)) := by
  obtain ⟨b', dx', fvs, e2, hb', _, h3⟩ := r.sl i _ _ h hb
  cases e2
  obtain ⟨s1, s2, s3, s4⟩ := r.sfH b h3
  have l1 : i < a.sl.length := (List.getElem?_eq_some_iff.mp h).1
  refine ⟨fun c u e => ?_, by simp [r.len], fun j s w e1 e3 => ?_, fun j k c xs ys hjk e1 e2 e3 e4 => ?_, r.clen, fun j c u e1 e3 => ?_, r.cnd, r.cG, fun c u e z1 z2 => ?_, r.gnew, r.gext, r.rext, r.rnew, fun c e => ?_, r.h0t, r.tb.upd hb' (fun _ z => nomatch z) (fun _ z => nomatch z)⟩
  · rw [upd_ne (ne_of_none e s3)]; exact r.sub c u e
  · by_cases hj : i = j
    · subst hj
      rw [List.getElem?_set_self l1] at e1
      rw [hb] at e3
      cases e1; cases e3
      exact ⟨b, dx, gvs, rfl, upd_same, q, h3⟩
    · rw [List.getElem?_set_ne hj] at e1
      have z := r.sl j s w e1 e3
      cases s with
      | emp => trivial
      | val d => exact z
      | own fs =>
        obtain ⟨c, us, e, hc, y1, y2, y3, y4⟩ := z
        have nb : c ≠ b := fun z => s1 (z ▸ y4)
        exact ⟨c, us, e, by rw [upd_ne nb]; exact hc, y1, y2, y3, y4⟩
      | obj c fs => exact absurd e1 (uniq j (Ne.symm hj) c fs)
  · have own_of : ∀ {m : Nat} {xs : List D}, (a.sl.set i (.obj cc gs))[m]? = some (.own xs) → i ≠ m := fun {m xs} e z => by
      subst z
      rw [List.getElem?_set_self l1] at e
      cases e
    rw [List.getElem?_set_ne (own_of e1)] at e1
    rw [List.getElem?_set_ne (own_of e2)] at e2
    exact r.nd j k _ xs ys hjk e1 e2 e3 e4
  · refine (r.cl j c u e1 e3).ge Ge.rfl' (List.prefix_refl _) fun o e => ?_
    have nb : c ≠ b := fun z => s4 (z ▸ List.mem_of_getElem? e1)
    rw [upd_ne nb]; exact e
  · have nb : c ≠ b := fun z => z2 (z ▸ h3)
    rw [upd_ne nb]; exact r.fr c u e z1 z2
  · have ec : c = b := by rw [h3] at e; exact (Option.some.inj e).symm
    subst ec
    exact ⟨s1, ⟨_, upd_same, fun _ z => nomatch z⟩, s3, s4⟩
end
end PL

namespace PL
open PySem PySem.Spec PyProof.Rows L2

inductive Out (α : Type) where
  | stuck
  | ok (x : α) (a : AS)
  | exc (c : Nat) (fs : List (Str × D)) (a : AS)
abbrev M (α : Type) := AS → Out α
def Out.bind {α β : Type} (o : Out α) (f : α → AS → Out β) : Out β := match o with
  | .stuck => .stuck
  | .ok x a => f x a
  | .exc c fs a => .exc c fs a
def ret {α : Type} (x : α) : M α := fun a => .ok x a
def no {α : Type} : M α := fun _ => .stuck
def bd {α β : Type} (m : M α) (f : α → M β) : M β := fun a => (m a).bind f
def opt {α : Type} : Option α → M α
  | some x => ret x
  | none => no
@[simp] theorem bind_ok {α β : Type} (x : α) (a : AS) (f : α → AS → Out β) : (Out.ok x a).bind f = f x a := rfl
@[simp] theorem bind_stuck {α β : Type} (f : α → AS → Out β) : (Out.stuck : Out α).bind f = .stuck := rfl
@[simp] theorem bind_exc {α β : Type} (c : Nat) (fs : List (Str × D)) (a : AS) (f : α → AS → Out β) : (Out.exc c fs a : Out α).bind f = .exc c fs a := rfl

section
variable (K : PySem.W.Frag) (T : Tab) (W : WX)
def ExR (G : Hp) (ρ : List Addr) (H : Hp) (fs : List (Str × D)) (od : Option Addr) : Prop := (fs = [] ∧ od = none) ∨ ∃ dd fvs, od = some dd ∧ H dd = some (.xd fvs) ∧ RepF K T G ρ fs fvs
def Post {α β : Type} (E : En) (σ : L2.St) (G : Hp) (ρ : List Addr) (R : Hp → List Addr → α → β → Prop) (o : Out α) (Q : β → Hp → Prop) : Prop := match o with
  | .stuck => False
  | .ok x a' => ∀ G' ρ' H' v, Ge G G' → ρ <+: ρ' → AR K T E G' ρ' a' σ H' → R G' ρ' x v → Q v H'
  | .exc c fs a' => ∀ G' ρ' H' dd, Ge G G' → ρ <+: ρ' → AR K T E G' ρ' a' σ H' → ExR K T G' ρ' H' fs dd → W (.ref (T.C c)) dd σ H'
def tX {α β : Type} (R : Hp → List Addr → α → β → Prop) (m : M α) : L2.St → Hp → (β → Hp → Prop) → Prop := fun σ H Q => ∃ E G ρ a, AR K T E G ρ a σ H ∧ Post K T W E σ G ρ R (m a) Q
abbrev EqR {α : Type} : Hp → List Addr → α → α → Prop := fun _ _ x y => x = y
abbrev tE (m : M D) : TE := tX K T W (Rep K T) m
abbrev tT (m : M Bool) : TT := tX K T W EqR m
abbrev tA (m : M (List D)) : TA := tX K T W (RepL K T) m
end

section
variable {K : PySem.W.Frag} {T : Tab} {W : WX} {α β γ δ : Type} {E : En} {σ : L2.St} {G G' : Hp} {ρ ρ' : List Addr} {H : Hp} {a : AS}
theorem Post.ext {R : Hp → List Addr → α → β → Prop} {o : Out α} {Q : β → Hp → Prop} (h : Post K T W E σ G ρ R o Q) (g : Ge G G') (p : ρ <+: ρ') : Post K T W E σ G' ρ' R o Q := by
  cases o with
  | stuck => exact h
  | ok x a => exact fun G2 ρ2 H2 v e1 e2 r q => h G2 ρ2 H2 v (g.trans e1) (p.trans e2) r q
  | exc c fs a => exact fun G2 ρ2 H2 v e1 e2 r q => h G2 ρ2 H2 v (g.trans e1) (p.trans e2) r q
theorem Post.mono {R : Hp → List Addr → α → β → Prop} {o : Out α} {Q Q' : β → Hp → Prop} (h : Post K T W E σ G ρ R o Q) (k : ∀ v H, Q v H → Q' v H) : Post K T W E σ G ρ R o Q' := by
  cases o with
  | stuck => exact h
  | ok x a => exact fun G2 ρ2 H2 v e1 e2 r q => k _ _ (h G2 ρ2 H2 v e1 e2 r q)
  | exc c fs a => exact h
theorem Post.bind {R1 : Hp → List Addr → α → β → Prop} {R2 : Hp → List Addr → γ → δ → Prop} {o : Out α} {f : α → AS → Out γ} {Q : δ → Hp → Prop} {Q1 : β → Hp → Prop} (h : Post K T W E σ G ρ R2 (o.bind f) Q)
    (k : ∀ x a' G' ρ' H' v, Ge G G' → ρ <+: ρ' → AR K T E G' ρ' a' σ H' → R1 G' ρ' x v → Post K T W E σ G' ρ' R2 (f x a') Q → Q1 v H') : Post K T W E σ G ρ R1 o Q1 := by
  cases o with
  | stuck => exact h
  | ok x a => exact fun G2 ρ2 H2 v e1 e2 r q => k x a G2 ρ2 H2 v e1 e2 r q (Post.ext (o := f x a) h e1 e2)
  | exc c fs a => exact h
theorem tX.bind {R1 : Hp → List Addr → α → β → Prop} {R2 : Hp → List Addr → γ → δ → Prop} {m : M α} {f : α → M γ} {Q : δ → Hp → Prop} {Q1 : β → Hp → Prop} (h : tX K T W R2 (bd m f) σ H Q)
    (k : ∀ E x a' G' ρ' H' v, AR K T E G' ρ' a' σ H' → R1 G' ρ' x v → Post K T W E σ G' ρ' R2 (f x a') Q → Q1 v H') : tX K T W R1 m σ H Q1 := by
  obtain ⟨E, G, ρ, a, r, p⟩ := h
  exact ⟨E, G, ρ, a, r, Post.bind p fun x a' G' ρ' H' v _ _ r q z => k E x a' G' ρ' H' v r q z⟩
theorem PE.imp {X : Cx} {e : Expr} {t t' : TE} (h : PE X e t) (i : ∀ σ H Q, t' σ H Q → t σ H Q) : PE X e t' := ⟨fun pins s σ H Q I q => h.run pins s σ H Q I (i σ H Q q)⟩
theorem PT.imp {X : Cx} {e : Expr} {t t' : TT} (h : PT X e t) (i : ∀ σ H Q, t' σ H Q → t σ H Q) : PT X e t' := ⟨fun pins s σ H Q I q => h.run pins s σ H Q I (i σ H Q q)⟩
theorem PW.imp {X : Cx} {e : Expr} {t t' : TT} (h : PW X e t) (i : ∀ σ H Q, t' σ H Q → t σ H Q) : PW X e t' := ⟨fun w pins s σ H Q I q => h.run w pins s σ H Q I (i σ H Q q)⟩
theorem PA.imp {X : Cx} {e : List Expr} {t t' : TA} (h : PA X e t) (i : ∀ σ H Q, t' σ H Q → t σ H Q) : PA X e t' := ⟨fun p pins s σ H Q I q => h.run p pins s σ H Q I (i σ H Q q)⟩
theorem PS.imp {X : Cx} {e : Stmt} {t t' : TS} (h : PS X e t) (i : ∀ D σ H, t' D σ H → t D σ H) : PS X e t' := ⟨fun pins s σ H Q I q => h.run pins s σ H Q I (i Q σ H q)⟩
theorem PSs.imp {X : Cx} {e : List Stmt} {t t' : TS} (h : PSs X e t) (i : ∀ D σ H, t' D σ H → t D σ H) : PSs X e t' := ⟨fun pins s σ H Q I q => h.run pins s σ H Q I (i Q σ H q)⟩
theorem Post.here {R : Hp → List Addr → α → β → Prop} {x : α} {v : β} {Q : β → Hp → Prop} (h : Post K T W E σ G ρ R (ret x a) Q) (r : AR K T E G ρ a σ H) (q : R G ρ x v) : Q v H :=
  h G ρ H v Ge.rfl' (List.prefix_refl _) r q
theorem Post.laid {R : Hp → List Addr → α → β → Prop} {x : α} {v : β} {p : Addr} {o : HO} {Q : β → Hp → Prop} (h : Post K T W E σ G ρ R (ret x a) Q) (r : AR K T E G ρ a σ H) (hp : H p = none) (q : R (upd G p o) ρ x v) (no : ∀ ps, o ≠ .tbl ps := by exact fun _ z => nomatch z) : Q v (upd H p o) := by
  obtain ⟨g, r2⟩ := r.lay (o := o) hp no
  exact h _ ρ _ v g (List.prefix_refl _) r2 q
end

section
variable {X : Cx} {T : Tab} {W : WX}
def varM (i : Nat) : M D := fun a => match a.sl.getD i .emp with
  | .val d => .ok d a
  | .own ds => .ok (.lst ds) { a with sl := a.sl.set i (.val (.lst ds)) }
  | _ => .stuck
theorem getD_some {l : List Slot} {i : Nat} {s : Slot} (h : l.getD i .emp = s) (n : s ≠ .emp) : l[i]? = some s := by
  rw [List.getD_eq_getElem?_getD] at h
  cases e : l[i]? with
  | none => rw [e] at h; exact absurd h.symm n
  | some x => rw [e] at h; rw [← h]; rfl
theorem px_var (i : Nat) {x : Str} {pos : Pos} (hN : X.N[i]? = some x := by rfl) (hv : Vis X.env.scope x := by first | exact Or.inl rfl | exact Or.inr (Or.inl rfl) | exact Or.inr (Or.inr rfl)) (hd : (x == ("__debug__" : Str)) = false := by decide)
    (hcd : (x == ("__classdict__" : Str)) = false := by decide) : PE X (.Name x pos) (tE X.K T W (varM i)) := by
  refine PE.imp (pe_var hN hv hd hcd) fun σ H Q ⟨E, G, ρ, a, r, p⟩ => ?_
  unfold varM at p
  split at p
  · rename_i d e
    obtain ⟨v, e1, q⟩ := r.val (getD_some e (fun z => nomatch z))
    exact ⟨v, e1, Post.here p r q⟩
  · rename_i ds e
    obtain ⟨b, vs, e1, hb, q, g, r2⟩ := r.freeze (getD_some e (fun z => nomatch z))
    refine ⟨.ref b, e1, p _ ρ H (.ref b) g (List.prefix_refl _) r2 ?_⟩
    unfold Rep
    exact ⟨b, vs, rfl, .inl (.inl upd_same), RepL.ge g (List.prefix_refl _) _ _ q⟩
  · exact p.elim
theorem px_const {e : Expr} {v : V} (d : D) (h : PE X e (tC v)) (hd : ∀ G ρ, Rep X.K T G ρ d v) : PE X e (tE X.K T W (ret d)) :=
  PE.imp h fun σ H Q ⟨E, G, ρ, a, r, p⟩ => Post.here p r (hd G ρ)
theorem px_int {i : Int} {j pos} : PE X (.Constant (.int i) j pos) (tE X.K T W (ret (.int i))) := px_const _ pe_int fun G ρ => by unfold Rep; rfl
theorem px_bl {i : Bool} {j pos} : PE X (.Constant (.bool i) j pos) (tE X.K T W (ret (.bl i))) := px_const _ pe_bl fun G ρ => by unfold Rep; rfl
theorem px_non {j pos} : PE X (.Constant .none j pos) (tE X.K T W (ret .non)) := px_const _ pe_non fun G ρ => by unfold Rep; rfl
theorem px_str {x : Str} {j pos} : PE X (.Constant (.str x) j pos) (tE X.K T W (ret (.str x))) := px_const _ pe_str fun G ρ => by unfold Rep; rfl
theorem px_glob {x : Str} {v : V} {u : Value} {pos : Pos} (d : D) (hm : X.mg x = some u) (r : RelV v u) (hd : ∀ G ρ, Rep X.K T G ρ d v) (hg : Gl X x := by rfl) (hdb : (x == ("__debug__" : Str)) = false := by decide) :
    PE X (.Name x pos) (tE X.K T W (ret d)) := px_const d (pe_glob hg hm r hdb) hd
theorem px_ty {x : Str} {pos : Pos} (n : String) (hm : X.mg x = none) (hv : bootBuiltins x = some (.type n)) (hg : Gl X x := by rfl) (hn : x ≠ "__name__" := by decide) (hdb : (x == ("__debug__" : Str)) = false := by decide) :
    PE X (.Name x pos) (tE X.K T W (ret (.ty n))) := px_const (v := .ty n) _ (pe_bltn hg hm hv rfl hn hdb) fun G ρ => by unfold Rep; rfl
theorem px_cls {x : Str} {pos : Pos} (c : Nat) (hm : X.mg x = some (.ref (T.C c))) (hg : Gl X x := by rfl) (hdb : (x == ("__debug__" : Str)) = false := by decide) :
    PE X (.Name x pos) (tE X.K T W (ret (.cls c))) := px_const (v := .ref (T.C c)) _ (pe_glob hg hm rfl hdb) fun G ρ => by unfold Rep; rfl

def consM (m : M D) (ms : M (List D)) : M (List D) := bd m fun x => bd ms fun xs => ret (x :: xs)
def nilM : M (List D) := ret []
theorem px_nil : PA X [] (tA X.K T W nilM) := PA.imp pa_nil fun σ H Q ⟨E, G, ρ, a, r, p⟩ => Post.here p r RepL.nil
theorem px_cons {e : Expr} {es : List Expr} {m : M D} {ms : M (List D)} (h : PE X e (tE X.K T W m)) (t : PA X es (tA X.K T W ms)) (hs : starEach (e :: es) X.env = (false, eval e X.env) :: starEach es X.env := by rfl) :
    PA X (e :: es) (tA X.K T W (consM m ms)) := by
  refine PA.imp (pa_cons h t hs) fun σ H Q h => ?_
  refine tX.bind h fun E x a1 G1 ρ1 H1 v r1 q1 p1 => ?_
  refine ⟨E, G1, ρ1, a1, r1, Post.bind p1 fun xs a2 G2 ρ2 H2 vs g2 l2 r2 q2 p2 => ?_⟩
  exact Post.here p2 r2 (RepL.cons (Rep.ge g2 l2 _ _ q1) q2)
theorem px_tup {es : List Expr} {ms : M (List D)} {x1 pos} (h : PA X es (tA X.K T W ms)) (hl : es.length ≤ 1000 := by decide) : PE X (.Tuple es x1 pos) (tE X.K T W (bd ms fun xs => if xs.length ≤ 1000 then ret (.tup xs) else no)) := by
  refine PE.imp (pe_tup h) fun σ H Q h => ?_
  refine tX.bind h fun E xs a1 G1 ρ1 H1 vs r1 q1 p1 => ?_
  split at p1
  · rename_i hz
    refine ⟨by rw [q1.len, sizeLine_eq]; omega, fun p hp => ?_⟩
    refine Post.laid p1 r1 hp ?_
    obtain ⟨g, _⟩ := r1.lay (o := HO.tup vs) hp
    unfold Rep
    exact ⟨p, vs, rfl, .inl upd_same, RepL.ge g (List.prefix_refl _) _ _ q1⟩
  · exact p1.elim

def PostF (K : PySem.W.Frag) (T : Tab) (W : WX) (E : En) (σ : L2.St) (G : Hp) (ρ : List Addr) (o : Out (List D)) (Q : VK) : Prop := match o with
  | .stuck => False
  | .ok ds a' => ∀ G' ρ' H' p vs, Ge G G' → ρ <+: ρ' → AR K T E G' ρ' a' σ H' → Free K T E G' ρ' a' σ p → H' p = some (.lst vs) → RepL K T G' ρ' ds vs → Q (.ref p) H'
  | .exc c fs a' => ∀ G' ρ' H' dd, Ge G G' → ρ <+: ρ' → AR K T E G' ρ' a' σ H' → ExR K T G' ρ' H' fs dd → W (.ref (T.C c)) dd σ H'
def tF (K : PySem.W.Frag) (T : Tab) (W : WX) (m : M (List D)) : TE := fun σ H Q => ∃ E G ρ a, AR K T E G ρ a σ H ∧ PostF K T W E σ G ρ (m a) Q
theorem PostF.ext {K : PySem.W.Frag} {W : WX} {E : En} {σ : L2.St} {G G' : Hp} {ρ ρ' : List Addr} {o : Out (List D)} {Q : VK} (h : PostF K T W E σ G ρ o Q) (g : Ge G G') (p : ρ <+: ρ') : PostF K T W E σ G' ρ' o Q := by
  cases o with
  | stuck => exact h
  | ok x a => exact fun G2 ρ2 H2 v vs e1 e2 r f q => h G2 ρ2 H2 v vs (g.trans e1) (p.trans e2) r f q
  | exc c fs a => exact fun G2 ρ2 H2 v e1 e2 r q => h G2 ρ2 H2 v (g.trans e1) (p.trans e2) r q
theorem PostF.bind {K : PySem.W.Frag} {W : WX} {α β : Type} {E : En} {σ : L2.St} {G : Hp} {ρ : List Addr} {R1 : Hp → List Addr → α → β → Prop} {o : Out α} {f : α → AS → Out (List D)} {Q : VK} {Q1 : β → Hp → Prop} (h : PostF K T W E σ G ρ (o.bind f) Q)
    (k : ∀ x a' G' ρ' H' v, Ge G G' → ρ <+: ρ' → AR K T E G' ρ' a' σ H' → R1 G' ρ' x v → PostF K T W E σ G' ρ' (f x a') Q → Q1 v H') : Post K T W E σ G ρ R1 o Q1 := by
  cases o with
  | stuck => exact h
  | ok x a => exact fun G2 ρ2 H2 v e1 e2 r q => k x a G2 ρ2 H2 v e1 e2 r q (PostF.ext (o := f x a) h e1 e2)
  | exc c fs a => exact h
theorem PostF.new {K : PySem.W.Frag} {W : WX} {E : En} {σ : L2.St} {G : Hp} {ρ : List Addr} {a : AS} {H : Hp} {ds : List D} {vs : List V} {p : Addr} {Q : VK} (h : PostF K T W E σ G ρ (ret ds a) Q) (r : AR K T E G ρ a σ H) (hp : H p = none) (q : RepL K T G ρ ds vs) :
    Q (.ref p) (upd H p (.lst vs)) := by
  refine h G ρ _ p vs Ge.rfl' (List.prefix_refl _) (r.junk hp) (r.freeOf hp) upd_same q
theorem pf_lst {es : List Expr} {ms : M (List D)} {pos} (h : PA X es (tA X.K T W ms)) : PE X (.List es pos) (tF X.K T W (bd ms fun xs => if xs.length ≤ 1000 then ret xs else no)) := by
  refine PE.imp (pe_lst h) fun σ H Q ⟨E, G, ρ, a, r, p⟩ => ?_
  refine ⟨E, G, ρ, a, r, PostF.bind p fun xs a1 G1 ρ1 H1 vs g1 l1 r1 q1 p1 => ?_⟩
  split at p1
  · refine ⟨by rw [q1.len, sizeLine_eq]; omega, fun p hp => ?_⟩
    exact PostF.new p1 r1 hp q1
  · exact p1.elim
theorem px_new {e : Expr} {m : M (List D)} (h : PE X e (tF X.K T W m)) : PE X e (tE X.K T W (bd m fun ds => ret (.lst ds))) := by
  refine PE.imp h fun σ H Q ⟨E, G, ρ, a, r, p⟩ => ⟨E, G, ρ, a, r, ?_⟩
  unfold bd at p
  cases e1 : m a with
  | stuck => rw [e1] at p; exact p
  | exc c fs a1 => rw [e1] at p; exact p
  | ok ds a1 =>
    rw [e1] at p
    refine fun G1 ρ1 H1 b vs g l r1 f hb q => ?_
    obtain ⟨g2, r2⟩ := r1.hold f hb (r1.own_sf f.2.2.1)
    refine p _ ρ1 H1 (.ref b) (g.trans g2) l r2 ?_
    unfold Rep
    exact ⟨b, vs, rfl, .inl (.inl upd_same), RepL.ge g2 (List.prefix_refl _) _ _ q⟩
end
end PL

namespace PL
open PySem PySem.Spec PyProof.Rows L2

mutual
def D.pl : D → Bool
  | .non => true
  | .bl _ => true
  | .int _ => true
  | .str _ => true
  | .tup ds => plL ds
  | .lst ds => plL ds
  | _ => false
def plL : List D → Bool
  | [] => true
  | d :: ds => d.pl && plL ds
end
mutual
def toPy : D → PyData
  | .non => .none
  | .bl b => .bool b
  | .int i => .int i
  | .str x => .str x
  | .tup ds => .tuple (toPyL ds)
  | .lst ds => .list (toPyL ds)
  | _ => .none
def toPyL : List D → List PyData
  | [] => []
  | d :: ds => toPy d :: toPyL ds
end
def D.dep (d : D) : Nat := (toPy d).depth
def depL (ds : List D) : Nat := PyData.depthAll (toPyL ds)
def eqB (x y : D) : Bool := PyData.eqv (toPy x) (toPy y)
def eqM (x y : D) : Option Bool := if (x.pl && y.pl && decide (min x.dep y.dep ≤ 60)) = true then some (eqB x y) else none
def neM (x y : D) : Option Bool := if (x.pl && y.pl && decide (min x.dep y.dep ≤ 60)) = true then some (!eqB x y) else none
mutual
theorem plain_toPy : ∀ d : D, d.pl = true → (toPy d).plain = true
  | .non, _ => rfl
  | .bl _, _ => rfl
  | .int _, _ => rfl
  | .str _, _ => rfl
  | .tup ds, h => by unfold toPy PyData.plain; exact plain_toPyL ds (by unfold D.pl at h; exact h)
  | .lst ds, h => by unfold toPy PyData.plain; exact plain_toPyL ds (by unfold D.pl at h; exact h)
  | .ins _ _, h => by simp [D.pl] at h
  | .cell _, h => by simp [D.pl] at h
  | .dic, h => by simp [D.pl] at h
  | .ty _, h => by simp [D.pl] at h
  | .cls _, h => by simp [D.pl] at h
  | .fn _, h => by simp [D.pl] at h
  | .dct _ _, h => by simp [D.pl] at h
  | .exo _ _, h => by simp [D.pl] at h
theorem plain_toPyL : ∀ ds : List D, plL ds = true → PyData.plainAll (toPyL ds) = true
  | [], _ => rfl
  | d :: ds, h => by
    unfold plL at h
    rw [Bool.and_eq_true] at h
    unfold toPyL PyData.plainAll
    rw [plain_toPy d h.1, plain_toPyL ds h.2]
    rfl
end
section
variable {K : PySem.W.Frag} {T : Tab} {G H : Hp} {ρ : List Addr}
mutual
theorem Rep.dp (g : ∀ b o, G b = some o → H b = some o) : ∀ (d : D) (v : V), d.pl = true → Rep K T G ρ d v → Dp K H v (toPy d)
  | .non, v, _, h => by unfold Rep at h; subst h; exact .non
  | .bl b, v, _, h => by unfold Rep at h; subst h; exact .bl b
  | .int b, v, _, h => by unfold Rep at h; subst h; exact .int b
  | .str b, v, _, h => by unfold Rep at h; subst h; exact .str b
  | .tup ds, v, p, h => by
    unfold Rep at h
    obtain ⟨a, vs, e, s, r⟩ := h
    subst e
    unfold toPy
    exact .tup (TupR.ge s g).sq (RepL.dp g ds vs (by unfold D.pl at p; exact p) r)
  | .lst ds, v, p, h => by
    unfold Rep at h
    obtain ⟨a, vs, e, s, r⟩ := h
    subst e
    unfold toPy
    exact .lst (SqL.ge s g) (RepL.dp g ds vs (by unfold D.pl at p; exact p) r)
  | .ins _ _, _, h, _ => by simp [D.pl] at h
  | .cell _, _, h, _ => by simp [D.pl] at h
  | .dic, _, h, _ => by simp [D.pl] at h
  | .ty _, _, h, _ => by simp [D.pl] at h
  | .cls _, _, h, _ => by simp [D.pl] at h
  | .fn _, _, h, _ => by simp [D.pl] at h
  | .dct _ _, _, h, _ => by simp [D.pl] at h
  | .exo _ _, _, h, _ => by simp [D.pl] at h
theorem RepL.dp (g : ∀ b o, G b = some o → H b = some o) : ∀ (ds : List D) (vs : List V), plL ds = true → RepL K T G ρ ds vs → DpAll K H vs (toPyL ds)
  | [], vs, _, h => by rw [h.inv0]; exact .nil
  | d :: ds, vs, p, h => by
    unfold plL at p
    rw [Bool.and_eq_true] at p
    obtain ⟨v, r, e, a, b⟩ := h.inv
    subst e
    unfold toPyL
    exact .cons (Rep.dp g d v p.1 a) (RepL.dp g ds r p.2 b)
end
end

structure CmpR (X : Cx) (T : Tab) (op : CmpOp) (f : D → D → Option Bool) : Prop where
  ex : ∃ r : R2, OpR X (compareOp op) r ∧ ∀ (x y : D) (b : Bool), f x y = some b → ∀ (G : Hp) (ρ : List Addr) (H : Hp) (v w : V) (Q : VK), (∀ b o, G b = some o → H b = some o) → Rep X.K T G ρ x v → Rep X.K T G ρ y w → Q (.bl b) H → r v w H Q
section
variable {X : Cx} {T : Tab} {W : WX}
theorem op_eqP (hu : X.A.units + 64 < cLine) : OpR X (compareOp .Eq) (fun x y H Q => ∃ d e, Dp X.K H x d ∧ Dp X.K H y e ∧ d.plain = true ∧ e.plain = true ∧ min d.depth e.depth ≤ 60 ∧ Q (.bl (PyData.eqv d e)) H) := by
  intro pins s σ H x y v u Q I rx ry h
  obtain ⟨d, e, hd, he, sd, se, hm, q⟩ := h
  obtain ⟨as, r1⟩ := Dp.reads I d x v hd rx
  obtain ⟨bs, r2⟩ := Dp.reads I e y u he ry
  exact SeqAt.eq_plain r1 r2 sd se (by omega) ⟨.bl _, H, I, rfl, q⟩
theorem op_neP (hu : X.A.units + 64 < cLine) : OpR X (compareOp .NotEq) (fun x y H Q => ∃ d e, Dp X.K H x d ∧ Dp X.K H y e ∧ d.plain = true ∧ e.plain = true ∧ min d.depth e.depth ≤ 60 ∧ Q (.bl (!PyData.eqv d e)) H) := by
  intro pins s σ H x y v u Q I rx ry h
  obtain ⟨d, e, hd, he, sd, se, hm, q⟩ := h
  obtain ⟨as, r1⟩ := Dp.reads I d x v hd rx
  obtain ⟨bs, r2⟩ := Dp.reads I e y u he ry
  exact SeqAt.ne_plain r1 r2 sd se (by omega) ⟨.bl _, H, I, rfl, q⟩
theorem eq_parts {x y : D} (h : (x.pl && y.pl && decide (min x.dep y.dep ≤ 60)) = true) : x.pl = true ∧ y.pl = true ∧ min x.dep y.dep ≤ 60 := by
  rw [Bool.and_eq_true, Bool.and_eq_true] at h
  exact ⟨h.1.1, h.1.2, of_decide_eq_true h.2⟩
theorem cm_eq (hu : X.A.units + 64 < cLine) : CmpR X T .Eq eqM := ⟨_, op_eqP hu, fun x y b e G ρ H v w Q g r1 r2 q => by
  unfold eqM at e
  split at e
  · rename_i h
    obtain ⟨p1, p2, p3⟩ := eq_parts h
    cases e
    exact ⟨_, _, Rep.dp g x v p1 r1, Rep.dp g y w p2 r2, plain_toPy x p1, plain_toPy y p2, p3, q⟩
  · cases e⟩
theorem cm_ne (hu : X.A.units + 64 < cLine) : CmpR X T .NotEq neM := ⟨_, op_neP hu, fun x y b e G ρ H v w Q g r1 r2 q => by
  unfold neM at e
  split at e
  · rename_i h
    obtain ⟨p1, p2, p3⟩ := eq_parts h
    cases e
    exact ⟨_, _, Rep.dp g x v p1 r1, Rep.dp g y w p2 r2, plain_toPy x p1, plain_toPy y p2, p3, q⟩
  · cases e⟩
def cmpI (f : Int → Int → Bool) : D → D → Option Bool
  | .int i, .int j => some (f i j)
  | _, _ => none
theorem cm_int {op : CmpOp} {f : Int → Int → Bool} (h : OpR X (compareOp op) (rI0 fun i j => .bl (f i j))) : CmpR X T op (cmpI f) := ⟨_, h, fun x y b e G ρ H v w Q g r1 r2 q => by
  unfold cmpI at e
  split at e
  · rename_i i j
    cases e
    unfold Rep at r1 r2
    exact ⟨i, j, r1, r2, q⟩
  · cases e⟩
abbrev ltM := cmpI fun i j => decide (i < j)
abbrev leM := cmpI fun i j => decide (i ≤ j)
abbrev gtM := cmpI fun i j => decide (j < i)
abbrev geM := cmpI fun i j => decide (j ≤ i)
theorem cm_lt : CmpR X T .Lt ltM := cm_int op_lt
theorem cm_le : CmpR X T .LtE leM := cm_int op_le
theorem cm_gt : CmpR X T .Gt gtM := cm_int op_gt
theorem cm_ge : CmpR X T .GtE geM := cm_int op_ge
def D.isNon : D → Bool
  | .non => true
  | _ => false
theorem Rep.isNon {K : PySem.W.Frag} {G : Hp} {ρ : List Addr} {d : D} {v : V} (h : Rep K T G ρ d v) : decide (v = .non) = d.isNon := by
  cases d with
  | non => unfold Rep at h; subst h; rfl
  | bl b => unfold Rep at h; subst h; rfl
  | int b => unfold Rep at h; subst h; rfl
  | str b => unfold Rep at h; subst h; rfl
  | tup b => unfold Rep at h; obtain ⟨_, _, e, _⟩ := h; subst e; rfl
  | lst b => unfold Rep at h; obtain ⟨_, _, e, _⟩ := h; subst e; rfl
  | ins c b => unfold Rep at h; obtain ⟨_, _, _, e, _⟩ := h; subst e; rfl
  | cell b => unfold Rep at h; obtain ⟨_, _, e⟩ := h; subst e; rfl
  | dic => unfold Rep at h; obtain ⟨_, e, _⟩ := h; subst e; rfl
  | dct ks b => unfold Rep at h; obtain ⟨_, _, e, _⟩ := h; subst e; rfl
  | exo ks b => unfold Rep at h; obtain ⟨_, _, e, _⟩ := h; subst e; rfl
  | ty b => unfold Rep at h; subst h; rfl
  | cls b => unfold Rep at h; subst h; rfl
  | fn b => unfold Rep at h; subst h; rfl
def isM : D → D → Option Bool
  | x, .non => some x.isNon
  | _, _ => none
def isnotM : D → D → Option Bool
  | x, .non => some (!x.isNon)
  | _, _ => none
theorem cm_is : CmpR X T .Is isM := ⟨_, op_isN, fun x y b e G ρ H v w Q g r1 r2 q => by
  unfold isM at e
  split at e
  · cases e
    unfold Rep at r2
    exact ⟨r2, by rw [r1.isNon]; exact q⟩
  · cases e⟩
theorem cm_isnot : CmpR X T .IsNot isnotM := ⟨_, op_notN, fun x y b e G ρ H v w Q g r1 r2 q => by
  unfold isnotM at e
  split at e
  · cases e
    unfold Rep at r2
    exact ⟨r2, by rw [r1.isNon]; exact q⟩
  · cases e⟩
def inB (x : D) (ys : List D) : Bool := ys.any fun y => eqB y x
def inOk (x : D) (ys : List D) : Bool := x.pl && plL ys && decide (min (depL ys) x.dep ≤ 60)
def inM (x c : D) : Option Bool := match c with
  | .tup ys => if inOk x ys = true then some (inB x ys) else none
  | .lst ys => if inOk x ys = true then some (inB x ys) else none
  | .str z => match x with
    | .str y => match y.cps.toList with
      | [k] => some (decide (k ∈ z.cps.toList))
      | _ => none
    | _ => none
  | _ => none
def notInM (x c : D) : Option Bool := (inM x c).map (!·)
theorem any_toPy (x : D) : ∀ ys : List D, ((toPyL ys).any fun y => PyData.eqv y (toPy x)) = inB x ys
  | [] => rfl
  | y :: ys => by
    unfold toPyL inB
    rw [List.any_cons, List.any_cons, any_toPy x ys]
    rfl
def rInP (K : PySem.W.Frag) (neg : Bool) : R2 := fun x y H Q =>
  (∃ d ds, Dp K H x d ∧ (Dp K H y (.tuple ds) ∨ Dp K H y (.list ds)) ∧ d.plain = true ∧ PyData.plainAll ds = true ∧ min (PyData.depthAll ds) d.depth ≤ 60 ∧ Q (.bl (if neg then !(ds.any fun z => PyData.eqv z d) else ds.any fun z => PyData.eqv z d)) H) ∨
  (∃ (c : Nat) (z : Str), x = .str ⟨#[c]⟩ ∧ y = .str z ∧ Q (.bl (if neg then !decide (c ∈ z.cps.toList) else decide (c ∈ z.cps.toList))) H)
theorem op_inP (hu : X.A.units + 64 < cLine) : OpR X (compareOp .In) (rInP X.K false) := by
  intro pins s σ H x y v u Q I rx ry h
  rcases h with ⟨d, ds, hd, he, sd, se, hm, q⟩ | ⟨c, z, e1, e2, q⟩
  · obtain ⟨as, r1⟩ := Dp.reads I d x v hd rx
    rcases he with he | he
    · obtain ⟨bs, r2⟩ := Dp.reads I _ y u he ry
      exact SeqAt.in_tuple_data r2 r1 se sd (by omega) ⟨.bl _, H, I, rfl, q⟩
    · obtain ⟨bs, r2⟩ := Dp.reads I _ y u he ry
      exact SeqAt.in_list_data r2 r1 se sd (by omega) ⟨.bl _, H, I, rfl, q⟩
  · exact op_in_sign pins s σ H x y v u Q I rx ry ⟨c, z, e1, e2, q⟩
theorem op_notInP (hu : X.A.units + 64 < cLine) : OpR X (compareOp .NotIn) (rInP X.K true) := by
  intro pins s σ H x y v u Q I rx ry h
  rcases h with ⟨d, ds, hd, he, sd, se, hm, q⟩ | ⟨c, z, e1, e2, q⟩
  · obtain ⟨as, r1⟩ := Dp.reads I d x v hd rx
    rcases he with he | he
    · obtain ⟨bs, r2⟩ := Dp.reads I _ y u he ry
      exact SeqAt.notIn_tuple_data r2 r1 se sd (by omega) ⟨.bl _, H, I, rfl, q⟩
    · obtain ⟨bs, r2⟩ := Dp.reads I _ y u he ry
      exact SeqAt.notIn_list_data r2 r1 se sd (by omega) ⟨.bl _, H, I, rfl, q⟩
  · exact op_notIn_sign pins s σ H x y v u Q I rx ry ⟨c, z, e1, e2, q⟩
theorem in_read {neg : Bool} {x y : D} {b : Bool} (e : inM x y = some b) {G : Hp} {ρ : List Addr} {H : Hp} {v w : V} {Q : VK} (g : ∀ b o, G b = some o → H b = some o) (r1 : Rep X.K T G ρ x v) (r2 : Rep X.K T G ρ y w)
    (q : Q (.bl (if neg then !b else b)) H) : rInP X.K neg v w H Q := by
  have sq : ∀ ys : List D, inOk x ys = true → some (inB x ys) = some b → (Dp X.K H w (.tuple (toPyL ys)) ∨ Dp X.K H w (.list (toPyL ys))) → rInP X.K neg v w H Q := fun ys h1 h2 h3 => by
    unfold inOk at h1
    rw [Bool.and_eq_true, Bool.and_eq_true] at h1
    cases h2
    rw [← any_toPy] at q
    exact .inl ⟨toPy x, toPyL ys, Rep.dp g x v h1.1.1 r1, h3, plain_toPy x h1.1.1, plain_toPyL ys h1.1.2, of_decide_eq_true h1.2, q⟩
  unfold inM at e
  split at e
  · rename_i ys
    split at e
    · rename_i h
      refine sq ys h e (.inl ?_)
      have := Rep.dp g (.tup ys) w (by unfold D.pl; unfold inOk at h; rw [Bool.and_eq_true, Bool.and_eq_true] at h; exact h.1.2) r2
      unfold toPy at this
      exact this
    · cases e
  · rename_i ys
    split at e
    · rename_i h
      refine sq ys h e (.inr ?_)
      have := Rep.dp g (.lst ys) w (by unfold D.pl; unfold inOk at h; rw [Bool.and_eq_true, Bool.and_eq_true] at h; exact h.1.2) r2
      unfold toPy at this
      exact this
    · cases e
  · rename_i z
    split at e
    · rename_i y
      split at e
      · rename_i k hk
        cases e
        unfold Rep at r1 r2
        have hy : y = ⟨#[k]⟩ := by
          obtain ⟨cps⟩ := y
          congr
          apply Array.ext'
          simpa using hk
        exact .inr ⟨k, z, by rw [r1, hy], r2, q⟩
      · cases e
    · cases e
  · cases e
theorem cm_in (hu : X.A.units + 64 < cLine) : CmpR X T .In inM := ⟨_, op_inP hu, fun x y b e G ρ H v w Q g r1 r2 q => in_read e g r1 r2 q⟩
theorem cm_notIn (hu : X.A.units + 64 < cLine) : CmpR X T .NotIn notInM := ⟨_, op_notInP hu, fun x y b e G ρ H v w Q g r1 r2 q => by
  unfold notInM at e
  cases e2 : inM x y with
  | none => rw [e2] at e; cases e
  | some k =>
    rw [e2] at e
    cases e
    exact in_read (neg := true) e2 g r1 r2 q⟩

def op2 (f : D → D → Option Bool) (ma mb : M D) : M Bool := bd ma fun x => bd mb fun y => opt (f x y)
def blM (m : M Bool) : M D := bd m fun b => ret (.bl b)
theorem px_cmp {op : CmpOp} {f : D → D → Option Bool} {a b : Expr} {ma mb : M D} {pos : Pos} (c : CmpR X T op f) (ha : PE X a (tE X.K T W ma)) (hb : PE X b (tE X.K T W mb)) (hm : behindInMarks op b = false := by first | exact nomark _ | rfl) :
    PE X (.Compare a [op] [b] pos) (tE X.K T W (blM (op2 f ma mb))) := by
  obtain ⟨r, ho, hr⟩ := c.ex
  refine PE.imp (pe_cmpR ho ha hb hm) fun σ H Q h => ?_
  unfold blM op2 at h
  obtain ⟨E, G, ρ, a, r0, p⟩ := h
  unfold bd at p
  refine ⟨E, G, ρ, a, r0, ?_⟩
  cases e1 : ma a with
  | stuck => rw [e1] at p; exact p
  | exc c fs a1 => rw [e1] at p; exact p
  | ok x a1 =>
    rw [e1] at p
    simp only [bind_ok] at p
    refine fun G1 ρ1 H1 v g1 l1 r1 q1 => ⟨E, G1, ρ1, a1, r1, ?_⟩
    replace p := Post.ext (o := _) p g1 l1
    cases e2 : mb a1 with
    | stuck => rw [e2] at p; exact p
    | exc c fs a2 => rw [e2] at p; exact p
    | ok y a2 =>
      rw [e2] at p
      simp only [bind_ok] at p
      refine fun G2 ρ2 H2 w g2 l2 r2 q2 => ?_
      cases e3 : f x y with
      | none => rw [e3] at p; exact p.elim
      | some k =>
        rw [e3] at p
        refine hr x y k e3 G2 ρ2 H2 v w Q r2.sub (Rep.ge g2 l2 _ _ q1) q2 ?_
        exact p G2 ρ2 H2 (.bl k) g2 l2 r2 (by unfold Rep; rfl)
def asB : D → Option Bool
  | .bl b => some b
  | _ => none
def tstM (m : M D) : M Bool := bd m fun x => opt (asB x)
theorem px_tst {e : Expr} {m : M D} (h : PE X e (tE X.K T W m)) (he : ∀ whole, isTrue e X.env whole = (do let v ← whole; standAt e.pos; holding [v] (truthy v)) := by intro _; rfl) : PT X e (tT X.K T W (tstM m)) := by
  refine PT.imp (pt_val h he) fun σ H Q h => ?_
  refine tX.bind h fun E x a1 G1 ρ1 H1 v r1 q1 p1 => ?_
  cases e1 : asB x with
  | none => rw [e1] at p1; exact p1.elim
  | some b =>
    rw [e1] at p1
    have ex : x = .bl b := by
      unfold asB at e1
      split at e1
      · cases e1; rfl
      · cases e1
    subst ex
    unfold Rep at q1
    exact ⟨b, q1, Post.here p1 r1 rfl⟩
theorem pt_cm {op : CmpOp} {f : D → D → Option Bool} {a b : Expr} {ma mb : M D} {pos : Pos} (c : CmpR X T op f) (ha : PE X a (tE X.K T W ma)) (hb : PE X b (tE X.K T W mb)) (hm : behindInMarks op b = false := by first | exact nomark _ | rfl) :
    PT X (.Compare a [op] [b] pos) (tT X.K T W (op2 f ma mb)) := by
  obtain ⟨r, ho, hr⟩ := c.ex
  refine PT.imp (pt_cmpR ho ha hb hm) fun σ H Q h => ?_
  refine tX.bind h fun E x a1 G1 ρ1 H1 v r1 q1 p1 => ?_
  refine ⟨E, G1, ρ1, a1, r1, Post.bind p1 fun y a2 G2 ρ2 H2 w g2 l2 r2 q2 p2 => ?_⟩
  cases e3 : f x y with
  | none => rw [e3] at p2; exact p2.elim
  | some k =>
    rw [e3] at p2
    exact hr x y k e3 G2 ρ2 H2 v w _ r2.sub (Rep.ge g2 l2 _ _ q1) q2 ⟨k, rfl, Post.here p2 r2 rfl⟩
def chM (f g : D → D → Option Bool) (ma mb mc : M D) : M Bool := bd ma fun x => bd mb fun y => bd (opt (f x y)) fun k => if k = true then bd mc fun z => opt (g y z) else ret false
theorem ch_read {op op' : CmpOp} {f g : D → D → Option Bool} {r r' : R2} {a b c : Expr} {ma mb mc : M D}
    (hr : ∀ (x y : D) (b : Bool), f x y = some b → ∀ (G : Hp) (ρ : List Addr) (H : Hp) (v w : V) (Q : VK), (∀ b o, G b = some o → H b = some o) → Rep X.K T G ρ x v → Rep X.K T G ρ y w → Q (.bl b) H → r v w H Q)
    (hr' : ∀ (x y : D) (b : Bool), g x y = some b → ∀ (G : Hp) (ρ : List Addr) (H : Hp) (v w : V) (Q : VK), (∀ b o, G b = some o → H b = some o) → Rep X.K T G ρ x v → Rep X.K T G ρ y w → Q (.bl b) H → r' v w H Q)
    {σ : L2.St} {H : Hp} {Q : Bool → Hp → Prop} (h : tT X.K T W (chM f g ma mb mc) σ H Q) : tChain r r' (tE X.K T W ma) (tE X.K T W mb) (tE X.K T W mc) σ H fun v H' => ∃ k, v = .bl k ∧ Q k H' := by
  refine tX.bind h fun E x a1 G1 ρ1 H1 v r1 q1 p1 => ?_
  refine ⟨E, G1, ρ1, a1, r1, Post.bind p1 fun y a2 G2 ρ2 H2 w g2 l2 r2 q2 p2 => ?_⟩
  cases e3 : f x y with
  | none => rw [e3] at p2; exact p2.elim
  | some k =>
    rw [e3] at p2
    refine hr x y k e3 G2 ρ2 H2 v w _ r2.sub (Rep.ge g2 l2 _ _ q1) q2 ⟨k, rfl, ?_⟩
    cases k with
    | false => exact iteF ⟨false, rfl, Post.here p2 r2 rfl⟩
    | true =>
      refine iteT ⟨E, G2, ρ2, a2, r2, Post.bind p2 fun z a3 G3 ρ3 H3 w' g3 l3 r3 q3 p3 => ?_⟩
      cases e4 : g y z with
      | none => rw [e4] at p3; exact p3.elim
      | some k =>
        rw [e4] at p3
        exact hr' y z k e4 G3 ρ3 H3 w w' _ r3.sub (Rep.ge g3 l3 _ _ q2) q3 ⟨k, rfl, Post.here p3 r3 rfl⟩
theorem pt_ch {op op' : CmpOp} {f g : D → D → Option Bool} {a b c : Expr} {ma mb mc : M D} {pos : Pos} (c1 : CmpR X T op f) (c2 : CmpR X T op' g) (ha : PE X a (tE X.K T W ma)) (hb : PE X b (tE X.K T W mb)) (hc : PE X c (tE X.K T W mc))
    (hm : lastMarks [op, op'] [b, c] = false := by with_unfolding_all rfl) : PT X (.Compare a [op, op'] [b, c] pos) (tT X.K T W (chM f g ma mb mc)) := by
  obtain ⟨r, ho, hr⟩ := c1.ex
  obtain ⟨r', ho', hr'⟩ := c2.ex
  exact PT.imp (pt_chain ho ho' ha hb hc hm) fun σ H Q h => ch_read (op := op) (op' := op') (a := a) (b := b) (c := c) hr hr' h
def chV (f g : D → D → Option Bool) (ma mb mc : M D) : M D := bd ma fun x => bd mb fun y => bd (opt (f x y)) fun k => if k = true then bd mc fun z => bd (opt (g y z)) fun b => ret (.bl b) else ret (.bl false)
theorem px_ch {op op' : CmpOp} {f g : D → D → Option Bool} {a b c : Expr} {ma mb mc : M D} {pos : Pos} (c1 : CmpR X T op f) (c2 : CmpR X T op' g) (ha : PE X a (tE X.K T W ma)) (hb : PE X b (tE X.K T W mb)) (hc : PE X c (tE X.K T W mc))
    (hm : lastMarks [op, op'] [b, c] = false := by with_unfolding_all rfl) : PE X (.Compare a [op, op'] [b, c] pos) (tE X.K T W (chV f g ma mb mc)) := by
  obtain ⟨r, ho, hr⟩ := c1.ex
  obtain ⟨r', ho', hr'⟩ := c2.ex
  refine PE.imp (pe_chain ho ho' ha hb hc hm) fun σ H Q h => ?_
  refine tX.bind h fun E x a1 G1 ρ1 H1 v r1 q1 p1 => ?_
  refine ⟨E, G1, ρ1, a1, r1, Post.bind p1 fun y a2 G2 ρ2 H2 w g2 l2 r2 q2 p2 => ?_⟩
  cases e3 : f x y with
  | none => rw [e3] at p2; exact p2.elim
  | some k =>
    rw [e3] at p2
    refine hr x y k e3 G2 ρ2 H2 v w _ r2.sub (Rep.ge g2 l2 _ _ q1) q2 ⟨k, rfl, ?_⟩
    cases k with
    | false => exact iteF (Post.here p2 r2 (by unfold Rep; rfl))
    | true =>
      refine iteT ⟨E, G2, ρ2, a2, r2, Post.bind p2 fun z a3 G3 ρ3 H3 w' g3 l3 r3 q3 p3 => ?_⟩
      cases e4 : g y z with
      | none => rw [e4] at p3; exact p3.elim
      | some k =>
        rw [e4] at p3
        exact hr' y z k e4 G3 ρ3 H3 w w' _ r3.sub (Rep.ge g3 l3 _ _ q2) q3 (Post.here p3 r3 (by unfold Rep; rfl))

def andM (m n : M Bool) : M Bool := bd m fun c => if c = true then n else ret false
def orM (m n : M Bool) : M Bool := bd m fun c => if c = true then ret true else n
def notM (m : M Bool) : M Bool := bd m fun c => ret (!c)
def ifM {α : Type} (c : M Bool) (m n : M α) : M α := bd c fun b => if b = true then m else n
theorem pw_and1X {a : Expr} {m : M Bool} {pos : Pos} (h : PT X a (tT X.K T W m)) : PW X (.BoolOp .And [a] pos) (tT X.K T W m) := pw_and1 h
theorem pw_or1X {a : Expr} {m : M Bool} {pos : Pos} (h : PT X a (tT X.K T W m)) : PW X (.BoolOp .Or [a] pos) (tT X.K T W m) := pw_or1 h
theorem pw_andX {a b : Expr} {rest : List Expr} {m n : M Bool} {pos : Pos} (h : PT X a (tT X.K T W m)) (t : PW X (.BoolOp .And (b :: rest) pos) (tT X.K T W n)) : PW X (.BoolOp .And (a :: b :: rest) pos) (tT X.K T W (andM m n)) := by
  refine PW.imp (pw_and h t) fun σ H Q h => ?_
  refine tX.bind h fun E c a1 G1 ρ1 H1 v r1 q1 p1 => ?_
  cases q1
  cases c with
  | false => exact iteF (Post.here p1 r1 rfl)
  | true => exact iteT ⟨E, G1, ρ1, a1, r1, p1⟩
theorem pw_orX {a b : Expr} {rest : List Expr} {m n : M Bool} {pos : Pos} (h : PT X a (tT X.K T W m)) (t : PW X (.BoolOp .Or (b :: rest) pos) (tT X.K T W n)) : PW X (.BoolOp .Or (a :: b :: rest) pos) (tT X.K T W (orM m n)) := by
  refine PW.imp (pw_or h t) fun σ H Q h => ?_
  refine tX.bind h fun E c a1 G1 ρ1 H1 v r1 q1 p1 => ?_
  cases q1
  cases c with
  | false => exact iteF ⟨E, G1, ρ1, a1, r1, p1⟩
  | true => exact iteT (Post.here p1 r1 rfl)
theorem pt_notX {a : Expr} {m : M Bool} {pos : Pos} (h : PT X a (tT X.K T W m)) : PT X (.UnaryOp .Not a pos) (tT X.K T W (notM m)) := by
  refine PT.imp (pt_not h) fun σ H Q h => ?_
  refine tX.bind h fun E c a1 G1 ρ1 H1 v r1 q1 p1 => ?_
  cases q1
  exact Post.here p1 r1 rfl
theorem px_oneX {op : BoolOp} {a : Expr} {m : M D} {pos : Pos} (h : PE X a (tE X.K T W m)) : PE X (.BoolOp op [a] pos) (tE X.K T W m) := pe_one h
def andV (m n : M D) : M D := bd m fun x => bd (opt (asB x)) fun c => if c = true then n else ret (.bl false)
def orV (m n : M D) : M D := bd m fun x => bd (opt (asB x)) fun c => if c = true then ret (.bl true) else n
def notV (m : M D) : M D := bd m fun x => bd (opt (asB x)) fun c => ret (.bl (!c))
theorem asB_of {x : D} {b : Bool} (h : asB x = some b) : x = .bl b := by
  unfold asB at h
  split at h
  · cases h; rfl
  · cases h
theorem px_andX {a b : Expr} {rest : List Expr} {m n : M D} {pos : Pos} (h : PE X a (tE X.K T W m)) (t : PE X (.BoolOp .And (b :: rest) pos) (tE X.K T W n)) : PE X (.BoolOp .And (a :: b :: rest) pos) (tE X.K T W (andV m n)) := by
  refine PE.imp (pe_and h t) fun σ H Q h => ?_
  refine tX.bind h fun E x a1 G1 ρ1 H1 v r1 q1 p1 => ?_
  cases e1 : asB x with
  | none => rw [e1] at p1; exact p1.elim
  | some c =>
    rw [e1] at p1
    rw [asB_of e1] at q1
    unfold Rep at q1
    refine ⟨c, q1, ?_⟩
    cases c with
    | false => exact iteF (Post.here p1 r1 (by unfold Rep; rfl))
    | true => exact iteT ⟨E, G1, ρ1, a1, r1, p1⟩
theorem px_orX {a b : Expr} {rest : List Expr} {m n : M D} {pos : Pos} (h : PE X a (tE X.K T W m)) (t : PE X (.BoolOp .Or (b :: rest) pos) (tE X.K T W n)) : PE X (.BoolOp .Or (a :: b :: rest) pos) (tE X.K T W (orV m n)) := by
  refine PE.imp (pe_or h t) fun σ H Q h => ?_
  refine tX.bind h fun E x a1 G1 ρ1 H1 v r1 q1 p1 => ?_
  cases e1 : asB x with
  | none => rw [e1] at p1; exact p1.elim
  | some c =>
    rw [e1] at p1
    rw [asB_of e1] at q1
    unfold Rep at q1
    refine ⟨c, q1, ?_⟩
    cases c with
    | false => exact iteF ⟨E, G1, ρ1, a1, r1, p1⟩
    | true => exact iteT (Post.here p1 r1 (by unfold Rep; rfl))
theorem px_notX {a : Expr} {m : M D} {pos : Pos} (h : PE X a (tE X.K T W m)) : PE X (.UnaryOp .Not a pos) (tE X.K T W (notV m)) := by
  refine PE.imp (pe_not h) fun σ H Q h => ?_
  refine tX.bind h fun E x a1 G1 ρ1 H1 v r1 q1 p1 => ?_
  cases e1 : asB x with
  | none => rw [e1] at p1; exact p1.elim
  | some c =>
    rw [e1] at p1
    rw [asB_of e1] at q1
    unfold Rep at q1
    exact ⟨c, q1, Post.here p1 r1 (by unfold Rep; rfl)⟩
theorem px_if {c a b : Expr} {mc : M Bool} {ma mb : M D} {pos : Pos} (hc : PT X c (tT X.K T W mc)) (ha : PE X a (tE X.K T W ma)) (hb : PE X b (tE X.K T W mb)) : PE X (.IfExp c a b pos) (tE X.K T W (ifM mc ma mb)) := by
  refine PE.imp (pe_ifExp hc ha hb) fun σ H Q h => ?_
  refine tX.bind h fun E c a1 G1 ρ1 H1 v r1 q1 p1 => ?_
  cases q1
  cases c with
  | false => exact iteF ⟨E, G1, ρ1, a1, r1, p1⟩
  | true => exact iteT ⟨E, G1, ρ1, a1, r1, p1⟩
end
end PL

namespace PL
open PySem PySem.Spec PyProof.Rows L2

structure BinR (X : Cx) (T : Tab) (op : Operator) (f : D → D → Option D) : Prop where
  ex : ∃ r : R2, OpR X (binaryOp op) r ∧ ∀ (x y z : D), f x y = some z → ∀ (W : WX) (E : En) (G : Hp) (ρ : List Addr) (a : AS) (σ : L2.St) (H : Hp) (v w : V) (Q : VK), AR X.K T E G ρ a σ H → Rep X.K T G ρ x v → Rep X.K T G ρ y w →
    Post X.K T W E σ G ρ (Rep X.K T) (ret z a) Q → r v w H Q
def mulOk (i j : Int) : Bool := decide (-(2 ^ 64) < i ∧ i < 2 ^ 64) || decide (-(2 ^ 64) < j ∧ j < 2 ^ 64) || decide (i.natAbs.log2 + j.natAbs.log2 < 1000000)
def addM : D → D → Option D
  | .int i, .int j => some (.int (i + j))
  | .str x, .str y => if x.length + y.length ≤ 100000 then some (.str (x ++ y)) else none
  | .tup xs, .tup ys => if xs.length + ys.length ≤ 1000 then some (.tup (xs ++ ys)) else none
  | _, _ => none
def subM : D → D → Option D
  | .int i, .int j => some (.int (i - j))
  | _, _ => none
def mulM : D → D → Option D
  | .int i, .int j => if mulOk i j = true then some (.int (i * j)) else none
  | .tup xs, .int k => if (!xs.isEmpty && decide (2 ≤ k ∧ k ≤ 1000) && decide (xs.length ≤ 1000)) = true then some (.tup (List.replicate k.toNat xs).flatten) else none
  | _, _ => none
def fdivM : D → D → Option D
  | .int i, .int j => if (decide (0 < j) && decide (j.natAbs.log2 < 9000)) = true then some (.int (i / j)) else none
  | _, _ => none
def modM : D → D → Option D
  | .int i, .int j => if decide (0 < j) = true then some (.int (i % j)) else none
  | _, _ => none
def powM : D → D → Option D
  | .int i, .int j => if decide (0 ≤ j ∧ j ≤ 1000000 ∧ i.natAbs < 2 ^ 64) = true then some (.int (i ^ j.toNat)) else none
  | _, _ => none
section
variable {X : Cx} {T : Tab} {W : WX}
theorem rep_int {K : PySem.W.Frag} {G : Hp} {ρ : List Addr} {i : Int} {v : V} (h : Rep K T G ρ (.int i) v) : v = .int i := by unfold Rep at h; exact h
theorem rep_str {K : PySem.W.Frag} {G : Hp} {ρ : List Addr} {i : Str} {v : V} (h : Rep K T G ρ (.str i) v) : v = .str i := by unfold Rep at h; exact h
theorem rep_bl {K : PySem.W.Frag} {G : Hp} {ρ : List Addr} {i : Bool} {v : V} (h : Rep K T G ρ (.bl i) v) : v = .bl i := by unfold Rep at h; exact h
theorem to_int {K : PySem.W.Frag} {G : Hp} {ρ : List Addr} {i : Int} : Rep K T G ρ (.int i) (.int i) := by unfold Rep; rfl
theorem to_str {K : PySem.W.Frag} {G : Hp} {ρ : List Addr} {i : Str} : Rep K T G ρ (.str i) (.str i) := by unfold Rep; rfl
theorem to_bl {K : PySem.W.Frag} {G : Hp} {ρ : List Addr} {i : Bool} : Rep K T G ρ (.bl i) (.bl i) := by unfold Rep; rfl
theorem to_non {K : PySem.W.Frag} {G : Hp} {ρ : List Addr} : Rep K T G ρ .non .non := by unfold Rep; rfl
theorem bn_add : BinR X T .Add addM := ⟨_, op_add.or (op_add_str.or op_catA), fun x y z e W E G ρ a σ H v w Q r q1 q2 p => by
  unfold addM at e
  split at e
  · cases e
    rw [rep_int q1, rep_int q2]
    exact .inl ⟨_, _, rfl, rfl, Post.here p r to_int⟩
  · split at e
    · rename_i hz
      cases e
      rw [rep_str q1, rep_str q2]
      exact .inr (.inl ⟨_, _, rfl, rfl, by rw [sizeLine_eq]; omega, Post.here p r to_str⟩)
    · cases e
  · rename_i xs ys
    split at e
    · rename_i hz
      cases e
      unfold Rep at q1 q2
      obtain ⟨b, vs, rfl, t1, l1⟩ := q1
      obtain ⟨c, ws, rfl, t2, l2⟩ := q2
      refine .inr (.inr ⟨b, c, vs, ws, rfl, rfl, (t1.ge r.sub).sq, (t2.ge r.sub).sq, by rw [l1.len, l2.len, sizeLine_eq]; omega, fun h => ?_, fun _ h => ?_, fun _ _ b hb => ?_⟩)
      · have : xs = [] := by have := l1.len; rw [h] at this; exact List.eq_nil_of_length_eq_zero this.symm
        subst this
        refine Post.here p r ?_
        unfold Rep
        exact ⟨c, ws, rfl, t2, l2⟩
      · have : ys = [] := by have := l2.len; rw [h] at this; exact List.eq_nil_of_length_eq_zero this.symm
        subst this
        refine Post.here p r ?_
        unfold Rep
        exact ⟨b, vs, rfl, t1, by rw [List.append_nil]; exact l1⟩
      · refine Post.laid p r hb ?_
        obtain ⟨g, _⟩ := r.lay (o := HO.tup (vs ++ ws)) hb
        unfold Rep
        exact ⟨b, vs ++ ws, rfl, .inl upd_same, RepL.ge g (List.prefix_refl _) _ _ (l1.app l2)⟩
    · cases e
  · cases e⟩
theorem bn_sub : BinR X T .Sub subM := ⟨_, op_sub, fun x y z e W E G ρ a σ H v w Q r q1 q2 p => by
  unfold subM at e
  split at e
  · cases e
    rw [rep_int q1, rep_int q2]
    exact ⟨_, _, rfl, rfl, Post.here p r to_int⟩
  · cases e⟩
theorem bn_mul : BinR X T .Mult mulM := ⟨_, (op_mul.or op_mulW).or op_repT, fun x y z e W E G ρ a σ H v w Q r q1 q2 p => by
  unfold mulM at e
  split at e
  · split at e
    · rename_i i j h
      cases e
      rw [rep_int q1, rep_int q2]
      unfold mulOk at h
      rw [Bool.or_eq_true, Bool.or_eq_true] at h
      rcases h with (h | h) | h
      · exact .inl (.inl ⟨_, _, rfl, rfl, .inl (of_decide_eq_true h), Post.here p r to_int⟩)
      · exact .inl (.inl ⟨_, _, rfl, rfl, .inr (of_decide_eq_true h), Post.here p r to_int⟩)
      · have h' : i.natAbs.log2 + j.natAbs.log2 < 1000000 := of_decide_eq_true h
        exact .inl (.inr ⟨_, _, rfl, rfl, h', Post.here p r to_int⟩)
    · cases e
  · split at e
    · rename_i xs k h
      cases e
      rw [Bool.and_eq_true, Bool.and_eq_true] at h
      obtain ⟨⟨h1, h2⟩, h3⟩ := h
      have h2 := of_decide_eq_true h2
      have h3 := of_decide_eq_true h3
      unfold Rep at q1
      obtain ⟨b, vs, ev, tR, rl⟩ := q1
      refine .inr ⟨b, k, vs, ev, rep_int q2, (tR.ge r.sub).sq, fun z => ?_, h2.1, h2.2, by rw [rl.len]; exact h3, fun p' hp => ?_⟩
      · have hl := rl.len
        rw [z] at hl
        cases xs with
        | nil => cases h1
        | cons d ds => cases hl
      · obtain ⟨g, _⟩ := r.lay (o := HO.tup (List.replicate k.toNat vs).flatten) hp
        refine Post.laid p r hp ?_
        unfold Rep
        exact ⟨p', _, rfl, .inl upd_same, RepL.ge g (List.prefix_refl _) _ _ (rl.rep _)⟩
    · cases e
  · cases e⟩
theorem bn_fdiv : BinR X T .FloorDiv fdivM := ⟨_, op_fdivW, fun x y z e W E G ρ a σ H v w Q r q1 q2 p => by
  unfold fdivM at e
  split at e
  · split at e
    · rename_i h
      cases e
      rw [rep_int q1, rep_int q2]
      rw [Bool.and_eq_true] at h
      exact ⟨_, _, rfl, rfl, ⟨of_decide_eq_true h.1, of_decide_eq_true h.2⟩, Post.here p r to_int⟩
    · cases e
  · cases e⟩
theorem bn_mod : BinR X T .Mod modM := ⟨_, op_mod, fun x y z e W E G ρ a σ H v w Q r q1 q2 p => by
  unfold modM at e
  split at e
  · split at e
    · rename_i h
      cases e
      rw [rep_int q1, rep_int q2]
      exact ⟨_, _, rfl, rfl, of_decide_eq_true h, Post.here p r to_int⟩
    · cases e
  · cases e⟩
theorem bn_pow : BinR X T .Pow powM := ⟨_, op_pow, fun x y z e W E G ρ a σ H v w Q r q1 q2 p => by
  unfold powM at e
  split at e
  · split at e
    · rename_i i j h
      cases e
      rw [rep_int q1, rep_int q2]
      have h' : 0 ≤ j ∧ j ≤ 1000000 ∧ i.natAbs < 2 ^ 64 := of_decide_eq_true h
      exact ⟨_, _, rfl, rfl, h', Post.here p r to_int⟩
    · cases e
  · cases e⟩
def opM (f : D → D → Option D) (ma mb : M D) : M D := bd ma fun x => bd mb fun y => opt (f x y)
theorem px_bin {op : Operator} {f : D → D → Option D} {a b : Expr} {ma mb : M D} {pos : Pos} (c : BinR X T op f) (ha : PE X a (tE X.K T W ma)) (hb : PE X b (tE X.K T W mb)) : PE X (.BinOp a op b pos) (tE X.K T W (opM f ma mb)) := by
  obtain ⟨r, ho, hr⟩ := c.ex
  refine PE.imp (pe_op ho ha hb) fun σ H Q h => ?_
  refine tX.bind h fun E x a1 G1 ρ1 H1 v r1 q1 p1 => ?_
  refine ⟨E, G1, ρ1, a1, r1, Post.bind p1 fun y a2 G2 ρ2 H2 w g2 l2 r2 q2 p2 => ?_⟩
  cases e3 : f x y with
  | none => rw [e3] at p2; exact p2.elim
  | some k =>
    rw [e3] at p2
    exact hr x y k e3 W E G2 ρ2 a2 σ H2 v w Q r2 (Rep.ge g2 l2 _ _ q1) q2 p2
def negM : D → Option D
  | .int i => some (.int (-i))
  | _ => none
theorem px_neg {a : Expr} {m : M D} {pos : Pos} (h : PE X a (tE X.K T W m)) : PE X (.UnaryOp .USub a pos) (tE X.K T W (bd m fun x => opt (negM x))) := by
  refine PE.imp (pe_un un_neg h) fun σ H Q h => ?_
  refine tX.bind h fun E x a1 G1 ρ1 H1 v r1 q1 p1 => ?_
  cases x with
  | int i => exact ⟨i, rep_int q1, Post.here p1 r1 to_int⟩
  | _ => exact p1.elim
end

def lstOf (st : List Cell) : D → Option (List D)
  | .lst ds => some ds
  | .cell i => (st[i]?).bind fun c => match c with | .lst ds => some ds | _ => none
  | _ => none
section
variable {K : PySem.W.Frag} {T : Tab} {E : En} {G : Hp} {ρ : List Addr} {a : AS} {σ : L2.St} {H : Hp}
theorem AR.lst (r : AR K T E G ρ a σ H) {d : D} {ds : List D} {v : V} (h : lstOf a.st d = some ds) (q : Rep K T G ρ d v) : ∃ b vs, v = .ref b ∧ SqL K H b vs ∧ RepL K T G ρ ds vs := by
  unfold lstOf at h
  split at h
  · cases h
    unfold Rep at q
    obtain ⟨b, vs, e, x, y⟩ := q
    exact ⟨b, vs, e, SqL.ge x r.sub, y⟩
  · rename_i i
    unfold Rep at q
    obtain ⟨b, e1, e2⟩ := q
    cases e3 : a.st[i]? with
    | none => rw [e3] at h; cases h
    | some c =>
      rw [e3] at h
      have z := r.cl i b c e1 e3
      cases c with
      | lst es =>
        cases h
        obtain ⟨vs, hb, y⟩ := z
        exact ⟨b, vs, e2, .inl (.inl hb), y⟩
      | obj k fs => cases h
  · cases h
theorem Rep.tup {ds : List D} {v : V} (q : Rep K T G ρ (.tup ds) v) : ∃ b vs, v = .ref b ∧ TupR K G b vs ∧ RepL K T G ρ ds vs := by unfold Rep at q; exact q
theorem RepL.atI {ds : List D} {vs : List V} {i : Int} {d : D} (r : RepL K T G ρ ds vs) (h : L2.atI ds i = some d) : ∃ v, L2.atI vs i = some v ∧ Rep K T G ρ d v := by
  unfold L2.atI at h ⊢
  rw [r.len]
  cases e : L2.ixN ds.length i with
  | none => rw [e] at h; cases h
  | some j =>
    rw [e] at h
    obtain ⟨v, h1, h2⟩ := r.get h
    exact ⟨v, h1, h2⟩
end
def ixM (st : List Cell) (x i : D) : Option D := match i with
  | .int i => match x with
    | .tup ds => L2.atI ds i
    | .str z => if z.length ≤ 100000 then (L2.atI z.cps.toList i).map fun c => .str ⟨#[c]⟩ else none
    | x => (lstOf st x).bind fun ds => L2.atI ds i
  | _ => none
def rdM {α : Type} (f : List Cell → Option α) : M α := fun a => opt (f a.st) a
section
variable {X : Cx} {T : Tab} {W : WX}
theorem px_ix {a b : Expr} {ma mb : M D} {pos : Pos} (ha : PE X a (tE X.K T W ma)) (hb : PE X b (tE X.K T W mb)) (hs : PlainIx b := by intro _ _; rfl) : PE X (.Subscript a b pos) (tE X.K T W (bd ma fun x => bd mb fun i => rdM fun st => ixM st x i)) := by
  refine PE.imp (pe_ix ix_seq ha hb hs) fun σ H Q h => ?_
  refine tX.bind h fun E x a1 G1 ρ1 H1 v r1 q1 p1 => ?_
  refine ⟨E, G1, ρ1, a1, r1, Post.bind p1 fun y a2 G2 ρ2 H2 w g2 l2 r2 q2 p2 => ?_⟩
  unfold rdM at p2
  dsimp only at p2
  cases e3 : ixM a2.st x y with
  | none => rw [e3] at p2; exact p2.elim
  | some k =>
    rw [e3] at p2
    have q1' := Rep.ge g2 l2 _ _ q1
    have lcase : ∀ {i : Int}, w = .int i → ((lstOf a2.st x).bind fun ds => L2.atI ds i) = some k → rIx X.K v w H2 Q := fun {i} ew e => by
      cases e4 : lstOf a2.st x with
      | none => rw [e4] at e; cases e
      | some ds =>
        rw [e4] at e
        obtain ⟨b, vs, ev, hR, rl⟩ := r2.lst e4 q1'
        obtain ⟨u, hu, ru⟩ := rl.atI e
        exact .inl ⟨b, vs, i, u, ev, ew, hR, hu, Post.here p2 r2 ru⟩
    unfold ixM at e3
    split at e3
    · rename_i i
      split at e3
      · rename_i ds
        obtain ⟨b, vs, ev, tR, rl⟩ := q1'.tup
        obtain ⟨u, hu, ru⟩ := rl.atI e3
        exact .inr (.inl ⟨b, vs, i, u, ev, rep_int q2, (tR.ge r2.sub).sq, hu, Post.here p2 r2 ru⟩)
      · rename_i z
        split at e3
        · rename_i hz
          cases e4 : L2.atI z.cps.toList i with
          | none => rw [e4] at e3; cases e3
          | some c =>
            rw [e4] at e3
            cases e3
            exact .inr (.inr ⟨z, i, c, rep_str q1', rep_int q2, by rw [sizeLine_eq]; omega, e4, Post.here p2 r2 to_str⟩)
        · cases e3
      · exact lcase (rep_int q2) e3
    · cases e3

def asI : D → Option Int
  | .int i => some i
  | _ => none
def someM (m : M D) : M (Option Int) := bd m fun x => bd (opt (asI x)) fun i => ret (some i)
def noneM : M (Option Int) := ret none
theorem po_noneX : PO X none (tX X.K T W EqR noneM) := ⟨fun pins s σ H Q I ⟨E, G, ρ, a, r, p⟩ => po_none.run pins s σ H Q I (Post.here p r rfl)⟩
theorem po_someX {e : Expr} {m : M D} (h : PE X e (tE X.K T W m)) : PO X (some e) (tX X.K T W EqR (someM m)) := ⟨fun pins s σ H Q I hq => (po_some h).run pins s σ H Q I (by
  refine tX.bind hq fun E x a1 G1 ρ1 H1 v r1 q1 p1 => ?_
  cases x with
  | int i => exact ⟨i, rep_int q1, Post.here p1 r1 rfl⟩
  | _ => exact p1.elim)⟩
def cutD (xs : List D) (lo hi : Option Int) : List D := (xs.drop (HT.sIx xs.length 0 lo)).take (HT.sIx xs.length xs.length hi - HT.sIx xs.length 0 lo)
theorem RepL.cut {K : PySem.W.Frag} {G : Hp} {ρ : List Addr} {ds : List D} {vs : List V} (r : RepL K T G ρ ds vs) (lo hi : Option Int) : RepL K T G ρ (cutD ds lo hi) (cutV vs lo hi) := by
  unfold cutD cutV
  rw [r.len]
  exact (r.drop _).take _
theorem pf_slice {e : Expr} {lo hi : Option Expr} {m : M D} {ml mh : M (Option Int)} {p2 pos : Pos} (he : PE X e (tE X.K T W m)) (hl : PO X lo (tX X.K T W EqR ml)) (hu : PO X hi (tX X.K T W EqR mh)) :
    PE X (.Subscript e (.Slice lo hi none p2) pos) (tF X.K T W (bd m fun x => bd ml fun l => bd mh fun h => rdM fun st => (lstOf st x).map fun ds => cutD ds l h)) := by
  refine PE.imp (pe_slice sl_list he hl hu) fun σ H Q ⟨E, G, ρ, a, r, p⟩ => ?_
  refine ⟨E, G, ρ, a, r, PostF.bind p fun x a1 G1 ρ1 H1 v g1 l1 r1 q1 p1 => ?_⟩
  refine ⟨E, G1, ρ1, a1, r1, PostF.bind p1 fun l a2 G2 ρ2 H2 w g2 l2 r2 q2 p2 => ?_⟩
  cases q2
  refine ⟨E, G2, ρ2, a2, r2, PostF.bind p2 fun h a3 G3 ρ3 H3 w g3 l3 r3 q3 p3 => ?_⟩
  cases q3
  unfold rdM at p3
  dsimp only at p3
  cases e4 : lstOf a3.st x with
  | none => rw [e4] at p3; exact p3.elim
  | some ds =>
    rw [e4] at p3
    obtain ⟨b, vs, ev, hR, rl⟩ := r3.lst e4 (Rep.ge g3 l3 _ _ (Rep.ge g2 l2 _ _ q1))
    exact ⟨b, vs, ev, hR, fun p hp => PostF.new p3 r3 hp (rl.cut l h)⟩
def tupOf : D → Option (List D)
  | .tup ds => some ds
  | _ => none
theorem tupOf_eq {d : D} {ds : List D} (h : tupOf d = some ds) : d = .tup ds := by
  unfold tupOf at h
  split at h
  · cases h; rfl
  · cases h
theorem px_sliceT {e : Expr} {lo hi : Option Expr} {m : M D} {ml mh : M (Option Int)} {p2 pos : Pos} (he : PE X e (tE X.K T W m)) (hl : PO X lo (tX X.K T W EqR ml)) (hu : PO X hi (tX X.K T W EqR mh)) :
    PE X (.Subscript e (.Slice lo hi none p2) pos) (tE X.K T W (bd m fun x => bd ml fun l => bd mh fun h => opt ((tupOf x).map fun ds => .tup (cutD ds l h)))) := by
  refine PE.imp (pe_slice sl_tupA he hl hu) fun σ H Q h => ?_
  refine tX.bind h fun E x a1 G1 ρ1 H1 v r1 q1 p1 => ?_
  refine ⟨E, G1, ρ1, a1, r1, Post.bind p1 fun l a2 G2 ρ2 H2 w g2 l2 r2 q2 p2 => ?_⟩
  cases q2
  refine ⟨E, G2, ρ2, a2, r2, Post.bind p2 fun h a3 G3 ρ3 H3 w g3 l3 r3 q3 p3 => ?_⟩
  cases q3
  cases e4 : tupOf x with
  | none => rw [e4] at p3; exact p3.elim
  | some ds =>
    rw [e4] at p3
    rw [tupOf_eq e4] at q1
    obtain ⟨b, vs, ev, tR, rl⟩ := (Rep.ge g3 l3 _ _ (Rep.ge g2 l2 _ _ q1)).tup
    refine ⟨b, vs, ev, (tR.ge r3.sub).sq, fun hw => ?_, fun hw p hp => ?_⟩
    · refine Post.here p3 r3 ?_
      have : cutD ds l h = ds := by
        unfold cutD
        rw [← rl.len, hw.1, hw.2]
        simp [rl.len]
      dsimp only
      rw [this]
      unfold Rep
      exact ⟨b, vs, rfl, tR, rl⟩
    · refine Post.laid p3 r3 hp ?_
      obtain ⟨g, _⟩ := r3.lay (o := HO.tup (cutV vs l h)) hp
      unfold Rep
      exact ⟨p, _, rfl, .inl upd_same, RepL.ge g (List.prefix_refl _) _ _ (rl.cut l h)⟩

theorem list_add_any (l : Addr) (items : Array Value) (n : Nat) (sl : Array (Option Value)) (b : Addr) (items2 : Array Value) (n2 : Nat) (sl2 : Array (Option Value)) (hc0 : items.size + items2.size ≤ sizeLine) :
    Meets (Builtin.«list.__add__» ⟨[.ref l, .ref b], []⟩) (fun _ R s => s.heap.get? l = some { cls := .type "list", dict := none, data := .seq items n, slots := sl } ∧ s.heap.get? b = some { cls := .type "list", dict := none, data := .seq items2 n2, slots := sl2 } ∧ R (.ok (.ret (Value.ref s.heap.objs.size))) { s with heap := s.heap.push { cls := Value.type "list", data := Data.seq (items ++ items2) }, toks := s.toks }) :=
  .of_wp fun prog w A R s h => by obtain ⟨hp, g, d, tk, os⟩ := s; obtain ⟨hl, hb, h⟩ := h; have f1 := AutoSeq1.idx_int; have f2 := AutoSeq1.sub_tuple_tuple; have f3 := AutoSeq1.sub_list_list; have f4 := AutoSeq1.sub_tuple_list; have f5 := AutoSeq1.sub_list_tuple; wp_walk using AutoSeq1.wpAny_loadPart' hl, AutoSeq1.wpAny_loadPart' hb; exact ⟨_, rfl, h⟩
theorem list_mul_any (l : Addr) (items : Array Value) (n : Nat) (sl : Array (Option Value)) (x : Int) (u : Tok) (hc0 : ¬(!Builtin.List.listFitsIndex x) = true) (hc1 : ¬items.size * x.toNat > (2 ^ 63 - 1) / 8) (hc2 : ¬Builtin.List.listTooLong (items.size * x.toNat) = true) :
    Meets (Builtin.«list.__mul__» ⟨[.ref l, .int x u], []⟩) (fun _ R s => s.heap.get? l = some { cls := .type "list", dict := none, data := .seq items n, slots := sl } ∧ R (.ok (.ret (Value.ref s.heap.objs.size))) { s with heap := s.heap.push { cls := Value.type "list", data := Data.seq (List.foldl (fun x1 x2 => x1 ++ x2) #[] (List.replicate (if items.isEmpty = true then 0 else x.toNat) items)) }, toks := s.toks }) :=
  .of_wp fun prog w A R s h => by
    obtain ⟨hp, g, d, tk, os⟩ := s; obtain ⟨hl, h⟩ := h
    have hsz := AutoListH.joined_fits hc2
    wp_walk; refine wpAny_ite_false (decide_eq_false (Nat.not_lt.mpr hsz)) ?_; wp_walk; exact ⟨_, rfl, h⟩
theorem int_rmul_any (a : Int) (t : Tok) (l : Addr) (items : Array Value) (n : Nat) (sl : Array (Option Value)) :
    Meets (Builtin.«int.__rmul__» ⟨[.int a t, .ref l], []⟩) (fun _ R s => s.heap.get? l = some { cls := .type "list", dict := none, data := .seq items n, slots := sl } ∧ R (.ok (.ret Value.notImplemented)) s) :=
  .of_wp fun prog w A R s h => by obtain ⟨hp, g, d, tk, os⟩ := s; obtain ⟨hl, h⟩ := h; wp_walk; exact ⟨_, rfl, h⟩
theorem sq_at {X : Cx} {pins : List (Addr × Obj)} {σ : L2.St} {H : Hp} {s : Shared} {a : Addr} {xs : List V} (I : Inv X pins σ H s) (h : SqL X.K H a xs) : ∃ (its : List Value) (n : Nat) (sl : Array (Option Value)), Vals xs its ∧ s.heap.get? a = some { cls := .type "list", dict := none, data := .seq its.toArray n, slots := sl } ∧ xs.length ≤ sizeLine := by
  obtain ⟨its, r, ⟨o, n, hg, hc, hd, hs⟩, z⟩ := I.list h
  obtain ⟨oc, od, dt, sl⟩ := o
  simp only at hc hd hs
  subst hc hd hs
  exact ⟨its, n, sl, r, hg, z⟩
theorem op_catR : OpR X (binaryOp .Add) (fun x y H Q => ∃ l b xs zs, x = .ref l ∧ y = .ref b ∧ SqL X.K H l xs ∧ SqL X.K H b zs ∧ xs.length + zs.length ≤ sizeLine ∧ ∀ p, H p = none → Q (.ref p) (upd H p (.lst (xs ++ zs)))) := by
  intro pins s σ H x y v u Q I rx ry h
  obtain ⟨l, b, xs, zs, rfl, rfl, hH, hB, hz, q⟩ := h
  cases rx
  cases ry
  obtain ⟨its, n, sl, r, e, z⟩ := sq_at I hH
  obtain ⟨its2, n2, sl2, r2, e2, z2⟩ := sq_at I hB
  have hl := r.length
  have hl2 := r2.length
  have ea : its.toArray ++ its2.toArray = (its ++ its2).toArray := by simp
  refine concat_meets ⟨_, e, rfl⟩ ⟨_, e2, rfl⟩ noFill_list_add seq_list_add F.slot_list_add F.entry_list_add (F.args_list_add_2 _ _) (list_add_any l its.toArray n sl b its2.toArray n2 sl2 (by rw [List.size_toArray, List.size_toArray]; omega)) ⟨e, e2, ?_⟩
  rw [ea]
  exact ⟨.ref _, _, I.lnew (t' := s.toks) (r.append r2) (by rw [List.length_append]; omega), rfl, q _ I.fresh⟩
def catM (ma mb : M D) : M (List D) := bd ma fun x => bd mb fun y => rdM fun st => (lstOf st x).bind fun xs => (lstOf st y).bind fun ys => if xs.length + ys.length ≤ 100000 then some (xs ++ ys) else none
theorem pf_cat {a b : Expr} {ma mb : M D} {pos : Pos} (ha : PE X a (tE X.K T W ma)) (hb : PE X b (tE X.K T W mb)) : PE X (.BinOp a .Add b pos) (tF X.K T W (catM ma mb)) := by
  refine PE.imp (pe_op op_catR ha hb) fun σ H Q ⟨E, G, ρ, a, r, p⟩ => ?_
  refine ⟨E, G, ρ, a, r, PostF.bind p fun x a1 G1 ρ1 H1 v g1 l1 r1 q1 p1 => ?_⟩
  refine ⟨E, G1, ρ1, a1, r1, PostF.bind p1 fun y a2 G2 ρ2 H2 w g2 l2 r2 q2 p2 => ?_⟩
  unfold rdM at p2
  dsimp only at p2
  cases e3 : lstOf a2.st x with
  | none => rw [e3] at p2; exact p2.elim
  | some xs =>
    cases e4 : lstOf a2.st y with
    | none => rw [e3, e4] at p2; exact p2.elim
    | some ys =>
      rw [e3, e4] at p2
      simp only [Option.bind_some] at p2
      split at p2
      · rename_i hz
        obtain ⟨b1, vs, ev, hR, rl⟩ := r2.lst e3 (Rep.ge g2 l2 _ _ q1)
        obtain ⟨b2, ws, ew, hR2, rl2⟩ := r2.lst e4 q2
        exact ⟨b1, b2, vs, ws, ev, ew, hR, hR2, by rw [rl.len, rl2.len, sizeLine_eq]; omega, fun p hp => PostF.new p2 r2 hp (rl.app rl2)⟩
      · exact p2.elim
def repM (ma mb : M D) : M (List D) := bd ma fun x => bd mb fun y => match x, y with
  | .lst xs, .int k => if xs.length * k.toNat ≤ 100000 ∧ -1000000 ≤ k ∧ k ≤ 1000000 then ret (List.replicate k.toNat xs).flatten else no
  | _, _ => no
theorem op_repR : OpR X (binaryOp .Mult) (fun x y H Q => ∃ l k xs, x = .ref l ∧ y = .int k ∧ SqL X.K H l xs ∧ -(2 ^ 63) ≤ k ∧ k < 2 ^ 63 ∧ xs.length * k.toNat ≤ sizeLine ∧ ∀ p, H p = none → Q (.ref p) (upd H p (.lst (List.replicate k.toNat xs).flatten))) := by
  intro pins s σ H x y v u Q I rx ry h
  obtain ⟨l, k, xs, rfl, rfl, hH, h1, h2, hz, q⟩ := h
  cases rx
  obtain ⟨t, rfl⟩ := ry
  obtain ⟨its, n, sl, r, e, z⟩ := sq_at I hH
  have hl := r.length
  have hlen : its.toArray.size * k.toNat ≤ sizeLine := by rw [List.size_toArray, ← hl]; exact hz
  have hcap : ¬ its.toArray.size * k.toNat > (2 ^ 63 - 1) / 8 := by
    have : (sizeLine : Nat) ≤ (2 ^ 63 - 1) / 8 := by decide
    omega
  have hfit : ¬ (!Builtin.List.listFitsIndex k) = true := by
    rw [fitsIndex_both h1 h2]
    exact Bool.false_ne_true
  have hlong : ¬ Builtin.List.listTooLong (its.toArray.size * k.toNat) = true := by
    rw [notLongL hlen]
    exact Bool.false_ne_true
  have hnew : List.foldl (fun x1 x2 => x1 ++ x2) #[] (List.replicate (if its.toArray.isEmpty = true then 0 else k.toNat) its.toArray) = (List.replicate k.toNat its).flatten.toArray := by
    have f0 : ∀ m : Nat, List.foldl (fun x1 x2 => x1 ++ x2) #[] (List.replicate m its.toArray) = (List.replicate m its).flatten.toArray := fun m => by
      have := foldl_rep its m []
      rw [List.nil_append] at this
      exact this
    rw [f0]
    cases its with
    | nil => simp
    | cons a r' => rw [if_neg (by simp)]
  refine wpAny_binaryOp_repeat_ref (T := "list") (U := "int") (by decide) ⟨_, e, rfl⟩ (fun s' => typeIs_int s' k t) noFill_list_mul F.fills_int_mul F.slot_int_rmul repeat_list F.slot_int_index.lookup
    (call_meets F.slot_int_rmul (typeIs_int s k t) F.entry_int_rmul (F.args_int_rmul_2 _ _) (int_rmul_any k t l its.toArray n sl)
      ⟨e, rfl, ⟨_, e, rfl⟩, call_meets F.slot_list_mul ⟨_, e, rfl⟩ F.entry_list_mul (F.args_list_mul_2 _ _) (list_mul_any l its.toArray n sl k t hfit hcap hlong) ⟨e, ?_⟩⟩)
  rw [hnew]
  exact ⟨.ref _, _, I.lnew (t' := s.toks) (r.rep k.toNat) (by rw [PyProof.Rows.lm_len_rep_flat, Nat.mul_comm]; exact hz), rfl, q _ I.fresh⟩
theorem pf_rep {a b : Expr} {ma mb : M D} {pos : Pos} (ha : PE X a (tE X.K T W ma)) (hb : PE X b (tE X.K T W mb)) : PE X (.BinOp a .Mult b pos) (tF X.K T W (repM ma mb)) := by
  refine PE.imp (pe_op op_repR ha hb) fun σ H Q ⟨E, G, ρ, a, r, p⟩ => ?_
  refine ⟨E, G, ρ, a, r, PostF.bind p fun x a1 G1 ρ1 H1 v g1 l1 r1 q1 p1 => ?_⟩
  refine ⟨E, G1, ρ1, a1, r1, PostF.bind p1 fun y a2 G2 ρ2 H2 w g2 l2 r2 q2 p2 => ?_⟩
  split at p2
  · rename_i xs k
    split at p2
    · rename_i hz
      have q1' := Rep.ge g2 l2 _ _ q1
      unfold Rep at q1'
      obtain ⟨b, vs, ev, hR, rl⟩ := q1'
      exact ⟨b, k, vs, ev, rep_int q2, SqL.ge hR r2.sub, by omega, by omega, by rw [rl.len, sizeLine_eq]; omega, fun p hp => PostF.new p2 r2 hp (rl.rep _)⟩
    · exact p2.elim
  · exact p2.elim
end

structure CalR (X : Cx) (T : Tab) (fv : Value) (f : List Cell → List D → Option D) : Prop where
  ex : ∃ r : List V → Hp → VK → Prop, CallR X fv r ∧ ∀ (st : List Cell) (xs : List D) (z : D), f st xs = some z → ∀ (W : WX) (E : En) (G : Hp) (ρ : List Addr) (a : AS) (σ : L2.St) (H : Hp) (vs : List V) (Q : VK), a.st = st → AR X.K T E G ρ a σ H → RepL X.K T G ρ xs vs →
    Post X.K T W E σ G ρ (Rep X.K T) (ret z a) Q → r vs H Q
def calM (f : List Cell → List D → Option D) (ms : M (List D)) : M D := bd ms fun xs => rdM fun st => f st xs
section
variable {X : Cx} {T : Tab} {W : WX}
theorem cal_read {fv : Value} {f : List Cell → List D → Option D} {ms : M (List D)} {r : List V → Hp → VK → Prop}
    (hr : ∀ (st : List Cell) (xs : List D) (z : D), f st xs = some z → ∀ (W : WX) (E : En) (G : Hp) (ρ : List Addr) (a : AS) (σ : L2.St) (H : Hp) (vs : List V) (Q : VK), a.st = st → AR X.K T E G ρ a σ H → RepL X.K T G ρ xs vs → Post X.K T W E σ G ρ (Rep X.K T) (ret z a) Q → r vs H Q)
    {σ : L2.St} {H : Hp} {Q : VK} (h : tE X.K T W (calM f ms) σ H Q) : tCB r (tA X.K T W ms) σ H Q := by
  refine tX.bind h fun E xs a1 G1 ρ1 H1 vs r1 q1 p1 => ?_
  unfold rdM at p1
  dsimp only at p1
  cases e : f a1.st xs with
  | none => rw [e] at p1; exact p1.elim
  | some z =>
    rw [e] at p1
    exact hr a1.st xs z e W E G1 ρ1 a1 σ H1 vs Q rfl r1 q1 p1
theorem px_calB {x : Str} {p pos : Pos} {e : Expr} {es : List Expr} {id : String} {f : List Cell → List D → Option D} {ms : M (List D)} (c : CalR X T (.builtin id) f) (hm : X.mg x = none) (ha : PA X (e :: es) (tA X.K T W ms)) (hv : bootBuiltins x = some (.builtin id) := by decide +kernel) (hg : Gl X x := by rfl)
    (hn : x ≠ "__name__" := by decide) (hdb : (x == ("__debug__" : Str)) = false := by decide)
    (he : starEach (e :: es) X.env = (false, eval e X.env) :: starEach es X.env := by rfl) (hpl : (backTo pos (starEach es X.env)).any (·.1) = false := by rfl) : PE X (.Call (.Name x p) (e :: es) [] pos) (tE X.K T W (calM f ms)) := by
  obtain ⟨r, hc, hr⟩ := c.ex
  exact PE.imp (pe_callB hc hg hm hv ha hn hdb he hpl) fun σ H Q h => cal_read (fv := .builtin id) hr h
theorem px_calT {x : Str} {p pos : Pos} {e : Expr} {es : List Expr} {id : String} {f : List Cell → List D → Option D} {ms : M (List D)} (c : CalR X T (.type id) f) (hm : X.mg x = none) (ha : PA X (e :: es) (tA X.K T W ms)) (hv : bootBuiltins x = some (.type id) := by decide +kernel) (hg : Gl X x := by rfl)
    (hn : x ≠ "__name__" := by decide) (hdb : (x == ("__debug__" : Str)) = false := by decide)
    (he : starEach (e :: es) X.env = (false, eval e X.env) :: starEach es X.env := by rfl) (hpl : (backTo pos (starEach es X.env)).any (·.1) = false := by rfl) : PE X (.Call (.Name x p) (e :: es) [] pos) (tE X.K T W (calM f ms)) := by
  obtain ⟨r, hc, hr⟩ := c.ex
  exact PE.imp (pe_callTy hc hg hm hv ha hn hdb he hpl) fun σ H Q h => cal_read (fv := .type id) hr h
theorem RepL.one {K : PySem.W.Frag} {G : Hp} {ρ : List Addr} {d : D} {vs : List V} (h : RepL K T G ρ [d] vs) : ∃ v, vs = [v] ∧ Rep K T G ρ d v := by
  obtain ⟨v, r, e, q, t⟩ := h.inv
  rw [t.inv0] at e
  exact ⟨v, e, q⟩
theorem RepL.two {K : PySem.W.Frag} {G : Hp} {ρ : List Addr} {d d' : D} {vs : List V} (h : RepL K T G ρ [d, d'] vs) : ∃ v w, vs = [v, w] ∧ Rep K T G ρ d v ∧ Rep K T G ρ d' w := by
  obtain ⟨v, r, e, q, t⟩ := h.inv
  obtain ⟨w, e2, q2⟩ := t.one
  rw [e2] at e
  exact ⟨v, w, e, q, q2⟩
def lenM (st : List Cell) : List D → Option D
  | [.tup ds] => some (.int ds.length)
  | [.str z] => if z.length ≤ 100000 then some (.int z.length) else none
  | [x] => (lstOf st x).map fun ds => .int ds.length
  | _ => none
theorem cl_len : CalR X T (.builtin "len") lenM := ⟨_, call_len, fun st xs z e W E G ρ a σ H vs Q hst r q p => by
  subst hst
  unfold lenM at e
  split at e
  · cases e
    obtain ⟨v, ev, q1⟩ := q.one
    obtain ⟨b, us, eb, tR, rl⟩ := q1.tup
    subst ev eb
    exact ⟨.ref b, us.length, rfl, .inr ⟨us, (tR.ge r.sub).sq, rfl⟩, Post.here p r (by rw [rl.len]; exact to_int)⟩
  · split at e
    · rename_i hz
      cases e
      obtain ⟨v, ev, q1⟩ := q.one
      rw [rep_str q1] at ev
      exact ⟨.str _, _, ev, ⟨by rw [sizeLine_eq]; omega, rfl⟩, Post.here p r to_int⟩
    · cases e
  · rename_i x _ _
    cases e2 : lstOf a.st x with
    | none => rw [e2] at e; cases e
    | some ds =>
      rw [e2] at e
      cases e
      obtain ⟨v, ev, q1⟩ := q.one
      obtain ⟨b, us, eb, hR, rl⟩ := r.lst e2 q1
      subst ev eb
      exact ⟨.ref b, us.length, rfl, .inl ⟨us, hR, rfl⟩, Post.here p r (by rw [rl.len]; exact to_int)⟩
  · cases e⟩
def absM (_ : List Cell) : List D → Option D
  | [.int i] => some (.int (if i < 0 then -i else i))
  | _ => none
theorem cl_abs : CalR X T (.builtin "abs") absM := ⟨_, call_abs, fun st xs z e W E G ρ a σ H vs Q hst r q p => by
  unfold absM at e
  split at e
  · cases e
    obtain ⟨v, ev, q1⟩ := q.one
    rw [rep_int q1] at ev
    exact ⟨_, ev, Post.here p r to_int⟩
  · cases e⟩
def maxM2 (_ : List Cell) : List D → Option D
  | [.int i, .int j] => some (.int (if j > i then j else i))
  | _ => none
def minM2 (_ : List Cell) : List D → Option D
  | [.int i, .int j] => some (.int (if j < i then j else i))
  | _ => none
theorem cl_max2 (hc : X.calm = true) : CalR X T (.builtin "max") maxM2 := ⟨_, call_max2 hc, fun st xs z e W E G ρ a σ H vs Q hst r q p => by
  unfold maxM2 at e
  split at e
  · cases e
    obtain ⟨v, w, ev, q1, q2⟩ := q.two
    rw [rep_int q1, rep_int q2] at ev
    exact ⟨_, _, ev, Post.here p r to_int⟩
  · cases e⟩
theorem cl_min2 (hc : X.calm = true) : CalR X T (.builtin "min") minM2 := ⟨_, call_min2 hc, fun st xs z e W E G ρ a σ H vs Q hst r q p => by
  unfold minM2 at e
  split at e
  · cases e
    obtain ⟨v, w, ev, q1, q2⟩ := q.two
    rw [rep_int q1, rep_int q2] at ev
    exact ⟨_, _, ev, Post.here p r to_int⟩
  · cases e⟩
def intM (_ : List Cell) : List D → Option D
  | [.int i] => some (.int i)
  | [.bl k] => some (.int (if k then 1 else 0))
  | _ => none
theorem cl_int : CalR X T (.type "int") intM := ⟨_, call_int1, fun st xs z e W E G ρ a σ H vs Q hst r q p => by
  unfold intM at e
  split at e
  · cases e
    obtain ⟨v, ev, q1⟩ := q.one
    rw [rep_int q1] at ev
    exact .inl ⟨_, ev, Post.here p r to_int⟩
  · cases e
    obtain ⟨v, ev, q1⟩ := q.one
    rw [rep_bl q1] at ev
    exact .inr ⟨_, ev, Post.here p r to_int⟩
  · cases e⟩
def tupleM (st : List Cell) : List D → Option D
  | [.tup ds] => some (.tup ds)
  | [x] => (lstOf st x).map fun ds => .tup ds
  | _ => none
theorem cl_tuple : CalR X T (.type "tuple") tupleM := ⟨_, call_tuple_of, fun st xs z e W E G ρ a σ H vs Q hst r q p => by
  subst hst
  unfold tupleM at e
  split at e
  · cases e
    obtain ⟨v, ev, q1⟩ := q.one
    obtain ⟨b, us, eb, tR, rl⟩ := q1.tup
    subst ev eb
    exact ⟨b, us, rfl, .inr ⟨(tR.ge r.sub).sq, Post.here p r q1⟩⟩
  · rename_i x _
    cases e2 : lstOf a.st x with
    | none => rw [e2] at e; cases e
    | some ds =>
      rw [e2] at e
      cases e
      obtain ⟨v, ev, q1⟩ := q.one
      obtain ⟨b, us, eb, hR, rl⟩ := r.lst e2 q1
      subst ev eb
      refine ⟨b, us, rfl, .inl ⟨hR, fun l hl => ?_⟩⟩
      refine Post.laid p r hl ?_
      obtain ⟨g, _⟩ := r.lay (o := HO.tup us) hl
      unfold Rep
      exact ⟨l, us, rfl, .inl upd_same, RepL.ge g (List.prefix_refl _) _ _ rl⟩
  · cases e⟩
def blsOf : List D → Option (List Bool)
  | [] => some []
  | .bl b :: ds => (blsOf ds).map (b :: ·)
  | _ => none
theorem blsOf_eq : ∀ {ds : List D} {bs : List Bool}, blsOf ds = some bs → ds = bs.map D.bl
  | [], _, h => by unfold blsOf at h; cases h; rfl
  | d :: ds, bs, h => by
    cases d with
    | bl b =>
      unfold blsOf at h
      cases e : blsOf ds with
      | none => rw [e] at h; cases h
      | some cs => rw [e] at h; cases h; rw [blsOf_eq e]; rfl
    | _ => unfold blsOf at h; cases h
def allM (st : List Cell) : List D → Option D
  | [x] => (lstOf st x).bind fun ds => (blsOf ds).map fun bs => .bl (bs.all id)
  | _ => none
def anyM (st : List Cell) : List D → Option D
  | [x] => (lstOf st x).bind fun ds => (blsOf ds).map fun bs => .bl (bs.any id)
  | _ => none
theorem cl_all (hc : X.calm = true) : CalR X T (.builtin "all") allM := ⟨_, cr_all hc, fun st xs z e W E G ρ a σ H vs Q hst r q p => by
  subst hst
  unfold allM at e
  split at e
  · rename_i x
    cases e2 : lstOf a.st x with
    | none => rw [e2] at e; cases e
    | some ds =>
      rw [e2] at e
      simp only [Option.bind_some] at e
      cases e3 : blsOf ds with
      | none => rw [e3] at e; cases e
      | some bs =>
        rw [e3] at e
        cases e
        obtain ⟨v, ev, q1⟩ := q.one
        obtain ⟨b, us, eb, hR, rl⟩ := r.lst e2 q1
        subst ev eb
        rw [blsOf_eq e3] at rl
        rw [rl.bls] at hR
        exact ⟨b, bs, rfl, hR, Post.here p r to_bl⟩
  · cases e⟩
theorem cl_any (hc : X.calm = true) : CalR X T (.builtin "any") anyM := ⟨_, cr_any hc, fun st xs z e W E G ρ a σ H vs Q hst r q p => by
  subst hst
  unfold anyM at e
  split at e
  · rename_i x
    cases e2 : lstOf a.st x with
    | none => rw [e2] at e; cases e
    | some ds =>
      rw [e2] at e
      simp only [Option.bind_some] at e
      cases e3 : blsOf ds with
      | none => rw [e3] at e; cases e
      | some bs =>
        rw [e3] at e
        cases e
        obtain ⟨v, ev, q1⟩ := q.one
        obtain ⟨b, us, eb, hR, rl⟩ := r.lst e2 q1
        subst ev eb
        rw [blsOf_eq e3] at rl
        rw [rl.bls] at hR
        exact ⟨b, bs, rfl, hR, Post.here p r to_bl⟩
  · cases e⟩
def listM (ms : M (List D)) : M (List D) := bd ms fun xs => match xs with
  | [.tup ds] => ret ds
  | [x] => rdM fun st => lstOf st x
  | _ => no
theorem pf_list {x : Str} {p pos : Pos} {e : Expr} {ms : M (List D)} (hm : X.mg x = none) (ha : PA X [e] (tA X.K T W ms)) (hv : bootBuiltins x = some (.type "list") := by decide +kernel) (hg : Gl X x := by rfl) (hn : x ≠ "__name__" := by decide) (hdb : (x == ("__debug__" : Str)) = false := by decide)
    (he : starEach [e] X.env = (false, eval e X.env) :: starEach [] X.env := by rfl) (hpl : (backTo pos (starEach [] X.env)).any (·.1) = false := by rfl) : PE X (.Call (.Name x p) [e] [] pos) (tF X.K T W (listM ms)) := by
  refine PE.imp (pe_callTy call_list_of hg hm hv ha hn hdb he hpl) fun σ H Q ⟨E, G, ρ, a, r, p⟩ => ?_
  refine ⟨E, G, ρ, a, r, PostF.bind p fun xs a1 G1 ρ1 H1 vs g1 l1 r1 q1 p1 => ?_⟩
  split at p1
  · rename_i ds
    obtain ⟨v, ev, q1⟩ := q1.one
    obtain ⟨b, us, eb, tR, rl⟩ := q1.tup
    subst ev eb
    exact ⟨b, us, rfl, .inr (tR.ge r1.sub).sq, fun p hp => PostF.new p1 r1 hp rl⟩
  · rename_i x _
    unfold rdM at p1
    dsimp only at p1
    cases e2 : lstOf a1.st x with
    | none => rw [e2] at p1; exact p1.elim
    | some ds =>
      rw [e2] at p1
      obtain ⟨v, ev, q1⟩ := q1.one
      obtain ⟨b, us, eb, hR, rl⟩ := r1.lst e2 q1
      subst ev eb
      exact ⟨b, us, rfl, .inl hR, fun p hp => PostF.new p1 r1 hp rl⟩
  · exact p1.elim
end

structure ClsF (K : PySem.W.Frag) (C : Addr) : Prop where
  cl : Cls K C
  ha : PySem.W.findIn K (.ref C) "__class__" = some (some (.builtin "object.__class__"))
  hn : PySem.W.specialIn K (.builtin "object.__class__") "__get__" = some (some (.builtin "getset_descriptor.__get__"))
  htk : PySem.W.takesIn K (.builtin "object.__class__") = some true
  hm : PySem.W.mroIn K C (.type "object") = some true
def tyD (T : Tab) : D → Option Value
  | .non => some (.type "NoneType")
  | .bl _ => some (.type "bool")
  | .int _ => some (.type "int")
  | .str _ => some (.type "str")
  | .tup _ => some (.type "tuple")
  | .lst _ => some (.type "list")
  | .cell _ => none
  | .dic => some (.type "dict")
  | .dct _ _ => some (.type "dict")
  | .ins c _ => if T.ins c = true then some (.ref (T.C c)) else none
  | _ => none
def deC (st : List Cell) : D → Option D
  | .cell i => match st[i]? with
    | some (.lst _) => some (.lst [])
    | some (.obj c _) => some (.ins c [])
    | none => none
  | d => some d
def okX (ins : Nat → Bool) : D → Bool
  | .ins c _ => ins c
  | .exo _ _ => false
  | .ty _ => false
  | .cls _ => false
  | .fn _ => false
  | .cell _ => false
  | _ => true
def okC : D → Bool
  | .ty _ => true
  | .cls _ => true
  | _ => false
theorem okX_ty {T : Tab} {x : D} (h : okX T.ins x = true) : ∃ t, tyD T x = some t := by
  cases x with
  | ins c ds => unfold okX at h; dsimp only at h; exact ⟨_, by unfold tyD; dsimp only; rw [if_pos h]⟩
  | ty n => cases h
  | cls n => cases h
  | fn n => cases h
  | cell n => cases h
  | exo c n => cases h
  | _ => exact ⟨_, rfl⟩
def kindD (T : Tab) : D → Option Value
  | .ty n => some (.type n)
  | .cls c => some (.ref (T.C c))
  | _ => none
theorem okC_kind {T : Tab} {x : D} (h : okC x = true) : ∃ u, kindD T x = some u := by
  cases x with
  | ty n => exact ⟨_, rfl⟩
  | cls n => exact ⟨_, rfl⟩
  | _ => cases h
def tyN : D → Option String
  | .non => some "NoneType"
  | .bl _ => some "bool"
  | .int _ => some "int"
  | .str _ => some "str"
  | .tup _ => some "tuple"
  | .lst _ => some "list"
  | .dic => some "dict"
  | .dct _ _ => some "dict"
  | _ => none
def known : List String := ["bool", "int", "str", "tuple", "list", "dict"]
def isB (ins : Nat → Bool) (x c : D) : Option Bool := match c with
  | .ty n => if known.contains n = true then (match x with
    | .ins _ _ => some false
    | .ty _ => none
    | .cls _ => none
    | .fn _ => none
    | .bl _ => some (n == "bool" || n == "int")
    | x => some (tyN x == some n)) else none
  | .cls k => if ins k = true then (match x with
    | .ins c _ => some (c == k)
    | .ty _ => none
    | .cls _ => none
    | .fn _ => none
    | .cell _ => none
    | _ => some false) else none
  | _ => none
def isAny (ins : Nat → Bool) (x : D) : List D → Option Bool
  | [] => some false
  | c :: cs => match isB ins x c with
    | some true => some true
    | some false => isAny ins x cs
    | none => none
structure Fx (K : PySem.W.Frag) (T : Tab) : Prop where
  cls : ∀ c, T.ins c = true → ClsF K (T.C c)
  na : ∀ c f, T.ins c = true → f ∈ T.fl c → NoAttr K (T.C c) f
  isi : ∀ (x c : D) (t u : Value) (b : Bool), tyD T x = some t → kindD T c = some u → isB T.ins x c = some b → PySem.W.kitOne K t u = some b
section
variable {K : PySem.W.Frag} {T : Tab} {E : En} {G : Hp} {ρ : List Addr} {a : AS} {σ : L2.St} {H : Hp}
theorem AR.ty (F : Fx K T) (r : AR K T E G ρ a σ H) {d d' : D} {t : Value} {v : V} (hd : deC a.st d = some d') (h : tyD T d' = some t) (q : Rep K T G ρ d v) : TyX K H v t := by
  cases d with
  | cell i =>
    unfold Rep at q
    obtain ⟨b, e1, e2⟩ := q
    subst e2
    unfold deC at hd
    dsimp only at hd
    cases e : a.st[i]? with
    | none => rw [e] at hd; cases hd
    | some c0 =>
      have z := r.cl i b _ e1 e
      rw [e] at hd
      cases c0 with
      | lst ds =>
        cases hd
        cases h
        obtain ⟨vs, hb, _⟩ := z
        exact .base (.lst hb)
      | obj c fs =>
        cases hd
        unfold tyD at h
        dsimp only at h
        split at h
        · rename_i hi
          cases h
          obtain ⟨dx, us, hb, _⟩ := z
          have Z := F.cls c hi
          exact .base (.ins hb Z.cl Z.ha Z.hn Z.htk Z.hm)
        · cases h
  | non => unfold Rep at q; cases hd; cases h; subst q; exact .base .non
  | bl b => unfold Rep at q; cases hd; cases h; subst q; exact .base (.bl b)
  | int b => unfold Rep at q; cases hd; cases h; subst q; exact .base (.int b)
  | str b => unfold Rep at q; cases hd; cases h; subst q; exact .base (.str b)
  | tup ds =>
    obtain ⟨b, us, e, tR, _⟩ := q.tup
    cases hd
    cases h
    subst e
    rcases tR with tR | ⟨o, its, n, hk, hc, _⟩
    · exact .base (.tup (r.sub _ _ tR))
    · exact .kTuple hk hc
  | lst ds =>
    unfold Rep at q
    obtain ⟨b, us, e, hR, _⟩ := q
    cases hd
    cases h
    subst e
    rcases hR with (hR | ⟨o, hR⟩) | ⟨o, its, n, hk, hc, _⟩
    · exact .base (.lst (r.sub _ _ hR))
    · exact .base (.frz (r.sub _ _ hR))
    · exact .kList hk hc
  | fn n => cases hd; cases h
  | exo c n => cases hd; cases h
  | dct ks ds =>
    unfold Rep at q
    obtain ⟨b, vs, e, hb, _⟩ := q
    cases hd
    cases h
    subst e
    exact .base (.dK (r.sub _ _ hb))
  | dic =>
    unfold Rep at q
    obtain ⟨b, e, hb⟩ := q
    cases hd
    cases h
    subst e
    exact .base (.dK (r.sub _ _ hb))
  | ins c ds =>
    unfold Rep at q
    obtain ⟨b, dx, us, e, hb, _⟩ := q
    cases hd
    unfold tyD at h
    dsimp only at h
    split at h
    · rename_i hi
      cases h
      subst e
      have Z := F.cls c hi
      exact .base (.ins (r.sub _ _ hb) Z.cl Z.ha Z.hn Z.htk Z.hm)
    · cases h
  | ty n => cases hd; cases h
  | cls c => cases hd; cases h
theorem rep_kind {c : D} {u : Value} {v : V} (h : kindD T c = some u) (q : Rep K T G ρ c v) : ClsV v u := by
  unfold kindD at h
  split at h
  · cases h; unfold Rep at q; subst q; exact .ty _
  · cases h; unfold Rep at q; subst q; exact .own _
  · cases h
theorem kinds_of : ∀ {cs : List D} {vs : List V}, (∀ c ∈ cs, okC c = true) → RepL K T G ρ cs vs → ∃ us, Paired ClsV vs us ∧ Paired (fun c u => kindD T c = some u) cs us
  | [], _, _, h => by rw [h.inv0]; exact ⟨[], .nil, .nil⟩
  | c :: cs, _, k, h => by
    obtain ⟨v, r, e, q, t⟩ := h.inv
    subst e
    obtain ⟨us, p1, p2⟩ := kinds_of (cs := cs) (fun c hc => k c (List.mem_cons_of_mem _ hc)) t
    obtain ⟨u, hu⟩ := okC_kind (T := T) (k c List.mem_cons_self)
    exact ⟨u :: us, .cons (rep_kind hu q) p1, .cons hu p2⟩
theorem kit_any (F : Fx K T) {x : D} {t : Value} (ht : tyD T x = some t) : ∀ {cs : List D} {us : List Value} {b : Bool}, Paired (fun c u => kindD T c = some u) cs us → isAny T.ins x cs = some b → PySem.W.kitAny K t us = some b
  | [], _, _, .nil, h => by unfold isAny at h; cases h; rfl
  | c :: cs, _, b, .cons hu p, h => by
    unfold isAny at h
    cases e : isB T.ins x c with
    | none => rw [e] at h; cases h
    | some k =>
      rw [e] at h
      have z := F.isi x c t _ k ht hu e
      cases k with
      | true => cases h; exact kitAny_cons z (fun q => nomatch q) (fun _ => rfl)
      | false => exact kitAny_cons z (fun _ => kit_any F ht p h) (fun q => nomatch q)
end
def isiM (ins : Nat → Bool) (st : List Cell) : List D → Option D
  | [x, .tup cs] => (deC st x).bind fun x => if (okX ins x && cs.all okC) = true then (isAny ins x cs).map .bl else none
  | [x, c] => (deC st x).bind fun x => if (okX ins x && okC c) = true then (isB ins x c).map .bl else none
  | _ => none
section
variable {X : Cx} {T : Tab} {W : WX}
theorem cl_isi {ins : Nat → Bool} (F : Fx X.K T) (hT : T.ins = ins) : CalR X T (.builtin "isinstance") (isiM ins) := ⟨_, call_isi.or (call_isiT.or call_isiK), fun st xs z e W E G ρ a σ H vs Q hst r q p => by
  subst hT hst
  unfold isiM at e
  split at e
  · rename_i x cs
    cases e0 : deC a.st x with
    | none => rw [e0] at e; cases e
    | some x' =>
    rw [e0] at e
    simp only [Option.bind_some] at e
    split at e
    · rename_i h
      rw [Bool.and_eq_true] at h
      obtain ⟨t, ht⟩ := okX_ty (T := T) h.1
      cases e2 : isAny T.ins x' cs with
      | none => rw [e2] at e; cases e
      | some b =>
        rw [e2] at e
        cases e
        obtain ⟨v, w, ev, q1, q2⟩ := q.two
        obtain ⟨tp, ws, ew, tR, rl⟩ := q2.tup
        obtain ⟨us, p1, p2⟩ := kinds_of (fun c hc => List.all_eq_true.mp h.2 c hc) rl
        have k := kit_any F ht p2 e2
        have ty := r.ty F e0 ht q1
        subst ev ew
        rcases tR with tR | ⟨o, its, n, hk, hc, hs, _, hv⟩
        · exact .inr (.inl ⟨v, tp, ws, t, us, b, rfl, r.sub _ _ tR, p1, ty, k, Post.here p r to_bl⟩)
        · have e3 := ClsV.all p1 hv
          obtain ⟨oc, od, dt, sl⟩ := o
          simp only at hc hs
          subst hc hs
          exact .inr (.inr ⟨v, tp, od, us, n, sl, t, b, rfl, by rw [hk, ← e3], ty, k, Post.here p r to_bl⟩)
    · cases e
  · rename_i x c _
    cases e0 : deC a.st x with
    | none => rw [e0] at e; cases e
    | some x' =>
    rw [e0] at e
    simp only [Option.bind_some] at e
    split at e
    · rename_i h
      rw [Bool.and_eq_true] at h
      obtain ⟨t, ht⟩ := okX_ty (T := T) h.1
      obtain ⟨u, hu⟩ := okC_kind (T := T) h.2
      cases e2 : isB T.ins x' c with
      | none => rw [e2] at e; cases e
      | some b =>
        rw [e2] at e
        cases e
        obtain ⟨v, w, ev, q1, q2⟩ := q.two
        exact .inl ⟨v, w, t, u, b, ev, rep_kind hu q2, r.ty F e0 ht q1, F.isi x' c t u b ht hu e2, Post.here p r to_bl⟩
    · cases e
  · cases e⟩
end
end PL

namespace PL
open PySem PySem.Spec PyProof.Rows L2

inductive Fl where
  | nx | ret (d : D) | bk | ct
section
variable (K : PySem.W.Frag) (T : Tab) (W : WX)
def PostS (E : En) (G : Hp) (ρ : List Addr) (o : Out Fl) (D : Ends) : Prop := match o with
  | .stuck => False
  | .ok f a' => match f with
    | .nx => ∀ G' ρ' σ' H', Ge G G' → ρ <+: ρ' → AR K T E G' ρ' a' σ' H' → D.nx σ' H'
    | .ret d => ∀ G' ρ' σ' H' v, Ge G G' → ρ <+: ρ' → AR K T E G' ρ' a' σ' H' → Rep K T G' ρ' d v → D.rt v H'
    | .bk => ∀ G' ρ' σ' H', Ge G G' → ρ <+: ρ' → AR K T E G' ρ' a' σ' H' → D.bk σ' H'
    | .ct => ∀ G' ρ' σ' H', Ge G G' → ρ <+: ρ' → AR K T E G' ρ' a' σ' H' → D.ct σ' H'
  | .exc c fs a' => ∀ G' ρ' σ' H' dd, Ge G G' → ρ <+: ρ' → AR K T E G' ρ' a' σ' H' → ExR K T G' ρ' H' fs dd → W (.ref (T.C c)) dd σ' H'
def tS (m : M Fl) : TS := fun D σ H => ∃ E G ρ a, AR K T E G ρ a σ H ∧ PostS K T W E G ρ (m a) D
end
def seqM (m n : M Fl) : M Fl := fun a => match m a with
  | .ok .nx a' => n a'
  | o => o
section
variable {K : PySem.W.Frag} {T : Tab} {W : WX} {E : En} {G G' : Hp} {ρ ρ' : List Addr} {α β : Type}
theorem PostS.ext {o : Out Fl} {D : Ends} (h : PostS K T W E G ρ o D) (g : Ge G G') (p : ρ <+: ρ') : PostS K T W E G' ρ' o D := by
  cases o with
  | stuck => exact h
  | exc c fs a => exact fun G2 ρ2 σ2 H2 v e1 e2 r q => h G2 ρ2 σ2 H2 v (g.trans e1) (p.trans e2) r q
  | ok f a =>
    cases f with
    | nx => exact fun G2 ρ2 σ2 H2 e1 e2 r => h G2 ρ2 σ2 H2 (g.trans e1) (p.trans e2) r
    | ret d => exact fun G2 ρ2 σ2 H2 v e1 e2 r q => h G2 ρ2 σ2 H2 v (g.trans e1) (p.trans e2) r q
    | bk => exact fun G2 ρ2 σ2 H2 e1 e2 r => h G2 ρ2 σ2 H2 (g.trans e1) (p.trans e2) r
    | ct => exact fun G2 ρ2 σ2 H2 e1 e2 r => h G2 ρ2 σ2 H2 (g.trans e1) (p.trans e2) r
theorem PostS.bind {R1 : Hp → List Addr → α → β → Prop} {o : Out α} {f : α → AS → Out Fl} {D : Ends} {σ : L2.St} {Q1 : β → Hp → Prop} (h : PostS K T W E G ρ (o.bind f) D)
    (k : ∀ x a' G' ρ' H' v, Ge G G' → ρ <+: ρ' → AR K T E G' ρ' a' σ H' → R1 G' ρ' x v → PostS K T W E G' ρ' (f x a') D → Q1 v H') : Post K T W E σ G ρ R1 o Q1 := by
  cases o with
  | stuck => exact h
  | ok x a => exact fun G2 ρ2 H2 v e1 e2 r q => k x a G2 ρ2 H2 v e1 e2 r q (PostS.ext (o := f x a) h e1 e2)
  | exc c fs a => exact fun G2 ρ2 H2 dd e1 e2 r q => h G2 ρ2 σ H2 dd e1 e2 r q
theorem PostS.bindF {o : Out (List D)} {f : List D → AS → Out Fl} {De : Ends} {σ : L2.St} {Q1 : VK} (h : PostS K T W E G ρ (o.bind f) De)
    (k : ∀ ds a' G' ρ' H' p vs, Ge G G' → ρ <+: ρ' → AR K T E G' ρ' a' σ H' → Free K T E G' ρ' a' σ p → H' p = some (.lst vs) → RepL K T G' ρ' ds vs → PostS K T W E G' ρ' (f ds a') De → Q1 (.ref p) H') : PostF K T W E σ G ρ o Q1 := by
  cases o with
  | stuck => exact h
  | ok x a => exact fun G2 ρ2 H2 p vs e1 e2 r fr hp q => k x a G2 ρ2 H2 p vs e1 e2 r fr hp q (PostS.ext (o := f x a) h e1 e2)
  | exc c fs a => exact fun G2 ρ2 H2 dd e1 e2 r q => h G2 ρ2 σ H2 dd e1 e2 r q
theorem tS.bind {R1 : Hp → List Addr → α → β → Prop} {m : M α} {f : α → M Fl} {De : Ends} {σ : L2.St} {H : Hp} {Q1 : β → Hp → Prop} (h : tS K T W (bd m f) De σ H)
    (k : ∀ E x a' G' ρ' H' v, AR K T E G' ρ' a' σ H' → R1 G' ρ' x v → PostS K T W E G' ρ' (f x a') De → Q1 v H') : tX K T W R1 m σ H Q1 := by
  obtain ⟨E, G, ρ, a, r, p⟩ := h
  exact ⟨E, G, ρ, a, r, PostS.bind p fun x a' G' ρ' H' v _ _ r q z => k E x a' G' ρ' H' v r q z⟩
theorem tS.bindF {m : M (List D)} {f : List D → M Fl} {De : Ends} {σ : L2.St} {H : Hp} {Q1 : VK} (h : tS K T W (bd m f) De σ H)
    (k : ∀ E ds a' G' ρ' H' p vs, AR K T E G' ρ' a' σ H' → Free K T E G' ρ' a' σ p → H' p = some (.lst vs) → RepL K T G' ρ' ds vs → PostS K T W E G' ρ' (f ds a') De → Q1 (.ref p) H') : tF K T W m σ H Q1 := by
  obtain ⟨E, G, ρ, a, r, p⟩ := h
  exact ⟨E, G, ρ, a, r, PostS.bindF p fun x a' G' ρ' H' b vs _ _ r f hb q z => k E x a' G' ρ' H' b vs r f hb q z⟩
theorem PostS.here {a : AS} {De : Ends} {σ : L2.St} {H : Hp} (h : PostS K T W E G ρ (ret .nx a) De) (r : AR K T E G ρ a σ H) : De.nx σ H := h G ρ σ H Ge.rfl' (List.prefix_refl _) r
end

section
variable {X : Cx} {T : Tab} {W : WX}
def nxM : M Fl := ret .nx
theorem pss_nilX : PSs X [] (tS X.K T W nxM) := PSs.imp pss_nil fun D σ H ⟨E, G, ρ, a, r, p⟩ => PostS.here p r
theorem seq_read {m n : M Fl} {D : Ends} {σ : L2.St} {H : Hp} (h : tS X.K T W (seqM m n) D σ H) : tS X.K T W m { D with nx := (tS X.K T W n) D } σ H := by
  obtain ⟨E, G, ρ, a, r, p⟩ := h
  refine ⟨E, G, ρ, a, r, ?_⟩
  unfold seqM at p
  cases e : m a with
  | stuck => rw [e] at p; exact p
  | exc c fs a1 => rw [e] at p; exact p
  | ok f a1 =>
    rw [e] at p
    cases f with
    | nx => exact fun G1 ρ1 σ1 H1 g1 l1 r1 => ⟨E, G1, ρ1, a1, r1, PostS.ext (o := n a1) p g1 l1⟩
    | ret d => exact p
    | bk => exact p
    | ct => exact p
theorem pss_consX {st : Stmt} {rest : List Stmt} {m n : M Fl} (h : PS X st (tS X.K T W m)) (t : PSs X rest (tS X.K T W n)) : PSs X (st :: rest) (tS X.K T W (seqM m n)) :=
  PSs.imp (pss_cons h t) fun D σ H q => seq_read q
theorem pss_oneX {st : Stmt} {m : M Fl} (h : PS X st (tS X.K T W m)) : PSs X [st] (tS X.K T W m) := pss_one h

theorem ps_passX {pos} : PS X (.Pass pos) (tS X.K T W nxM) := PS.imp ps_pass fun D σ H ⟨E, G, ρ, a, r, p⟩ => PostS.here p r
theorem ps_brkX {pos} : PS X (.Break pos) (tS X.K T W (ret .bk)) := PS.imp ps_break fun D σ H ⟨E, G, ρ, a, r, p⟩ => p G ρ σ H Ge.rfl' (List.prefix_refl _) r
theorem ps_ctX {pos} : PS X (.Continue pos) (tS X.K T W (ret .ct)) := PS.imp ps_continue fun D σ H ⟨E, G, ρ, a, r, p⟩ => p G ρ σ H Ge.rfl' (List.prefix_refl _) r
def exprM (m : M D) : M Fl := bd m fun _ => ret .nx
theorem ps_exprX {e : Expr} {m : M D} {pos : Pos} (h : PE X e (tE X.K T W m)) (hs : swapsWith e none pos.line X.env = pure false := by rfl) : PS X (.Expr e pos) (tS X.K T W (exprM m)) := by
  refine PS.imp (ps_expr h hs) fun D σ H h => ?_
  exact tS.bind h fun E x a1 G1 ρ1 H1 v r1 q1 p1 => PostS.here p1 r1
def retM (m : M D) : M Fl := bd m fun d => ret (.ret d)
theorem ps_retX {e : Expr} {m : M D} {pos : Pos} (h : PE X e (tE X.K T W m)) : PS X (.Return (some e) pos) (tS X.K T W (retM m)) := by
  refine PS.imp (ps_ret h) fun D σ H h => ?_
  exact tS.bind h fun E x a1 G1 ρ1 H1 v r1 q1 p1 => p1 G1 ρ1 σ H1 v Ge.rfl' (List.prefix_refl _) r1 q1
theorem ps_retNX {pos : Pos} : PS X (.Return none pos) (tS X.K T W (ret (.ret .non))) := by
  refine PS.imp ps_retN fun D σ H ⟨E, G, ρ, a, r, p⟩ => ?_
  exact p G ρ σ H .non Ge.rfl' (List.prefix_refl _) r to_non
theorem ps_ifX {c : Expr} {s t : List Stmt} {mc : M Bool} {m n : M Fl} {pos : Pos} (hc : PT X c (tT X.K T W mc)) (hs : PSs X s (tS X.K T W m)) (ht : PSs X t (tS X.K T W n)) : PS X (.If c s t pos) (tS X.K T W (ifM mc m n)) := by
  refine PS.imp (ps_if hc hs ht) fun D σ H h => ?_
  refine tS.bind h fun E c a1 G1 ρ1 H1 v r1 q1 p1 => ?_
  cases q1
  cases c with
  | false => exact iteF ⟨E, G1, ρ1, a1, r1, p1⟩
  | true => exact iteT ⟨E, G1, ρ1, a1, r1, p1⟩
def setM (i : Nat) (m : M D) : M Fl := bd m fun d => fun a => .ok .nx { a with sl := a.sl.set i (.val d) }
theorem ps_setX (i : Nat) {x : Str} {e : Expr} {m : M D} {pos pos' : Pos} (h : PE X e (tE X.K T W m)) (hN : X.N.Nodup) (hi : X.N[i]? = some x := by rfl) (hx : Loc X.env.scope x := by first | exact Or.inl rfl | exact Or.inr rfl)
    (hs : swapsWith e (some (.Name x pos')) pos.line X.env = pure false := by rfl) (hf : X.fn x = true ∨ X.env.scope.names.lookup x = some .local := by first | exact .inl rfl | exact .inr rfl) :
    PS X (.Assign [.Name x pos'] e pos) (tS X.K T W (setM i m)) := by
  refine PS.imp (ps_set hN hi hx h hs hf) fun D σ H h => ?_
  exact tS.bind h fun E x a1 G1 ρ1 H1 v r1 q1 p1 => p1 G1 ρ1 _ H1 Ge.rfl' (List.prefix_refl _) (r1.setV i q1)
def ownM (i : Nat) (m : M (List D)) : M Fl := bd m fun ds => fun a => .ok .nx { a with sl := a.sl.set i (.own ds) }
theorem ps_ownX (i : Nat) {x : Str} {e : Expr} {m : M (List D)} {pos pos' : Pos} (h : PE X e (tF X.K T W m)) (hN : X.N.Nodup) (hi : X.N[i]? = some x := by rfl) (hx : Loc X.env.scope x := by first | exact Or.inl rfl | exact Or.inr rfl)
    (hs : swapsWith e (some (.Name x pos')) pos.line X.env = pure false := by rfl) (hf : X.fn x = true ∨ X.env.scope.names.lookup x = some .local := by first | exact .inl rfl | exact .inr rfl) :
    PS X (.Assign [.Name x pos'] e pos) (tS X.K T W (ownM i m)) := by
  refine PS.imp (ps_set hN hi hx h hs hf) fun D σ H h => ?_
  exact tS.bindF h fun E ds a1 G1 ρ1 H1 p vs r1 f hp q1 p1 => p1 G1 ρ1 _ H1 Ge.rfl' (List.prefix_refl _) (r1.setO i f hp q1)
def cellM (i : Nat) (m : M (List D)) : M Fl := bd m fun ds => fun a => .ok .nx ⟨a.sl.set i (.val (.cell a.st.length)), a.st ++ [.lst ds]⟩
theorem ps_cellX (i : Nat) {x : Str} {e : Expr} {m : M (List D)} {pos pos' : Pos} (h : PE X e (tF X.K T W m)) (hN : X.N.Nodup) (hi : X.N[i]? = some x := by rfl) (hx : Loc X.env.scope x := by first | exact Or.inl rfl | exact Or.inr rfl)
    (hs : swapsWith e (some (.Name x pos')) pos.line X.env = pure false := by rfl) (hf : X.fn x = true ∨ X.env.scope.names.lookup x = some .local := by first | exact .inl rfl | exact .inr rfl) :
    PS X (.Assign [.Name x pos'] e pos) (tS X.K T W (cellM i m)) := by
  refine PS.imp (ps_set hN hi hx h hs hf) fun D σ H h => ?_
  refine tS.bindF h fun E ds a1 G1 ρ1 H1 p vs r1 f hp q1 p1 => ?_
  have r2 := r1.newCell f hp q1
  have r3 := r2.setV (d := .cell a1.st.length) (v := .ref p) i (by
    unfold Rep
    refine ⟨p, ?_, rfl⟩
    rw [r1.clen, List.getElem?_append_right (Nat.le_refl _)]
    simp)
  exact p1 G1 (ρ1 ++ [p]) _ H1 Ge.rfl' (List.prefix_append _ _) r3
def intAt (i : Nat) : M Int := fun a => match a.sl.getD i .emp with
  | .val (.int k) => .ok k a
  | _ => .stuck
def augM (i : Nat) (g : Int → Int → Int) (m : M D) : M Fl := bd (intAt i) fun k => bd m fun y => match y with
  | .int j => fun a => .ok .nx { a with sl := a.sl.set i (.val (.int (g k j))) }
  | _ => no
theorem ip_of {op : Operator} {g : Int → Int → Int} (h : OpR X (inplaceOp op) (rI0 fun i j => .int (g i j))) : PIp X op (ipI g) := fun pins s σ H x y v u Q I rx ry q => h pins s σ H x y v u Q I rx ry q
theorem ps_augI (i : Nat) {x : Str} {e : Expr} {m : M D} {op : Operator} {g : Int → Int → Int} {pos pos' : Pos} (ho : PIp X op (ipI g)) (h : PE X e (tE X.K T W m)) (hN : X.N.Nodup) (hi : X.N[i]? = some x := by rfl) (hx : Loc X.env.scope x := by first | exact Or.inl rfl | exact Or.inr rfl)
    (hf : X.fn x = true ∨ X.env.scope.names.lookup x = some .local := by first | exact .inl rfl | exact .inr rfl) :
    PS X (.AugAssign (.Name x pos') op e pos) (tS X.K T W (augM i g m)) := by
  refine PS.imp (ps_aug hN hi hx h ho hf) fun De σ H h => ?_
  obtain ⟨E, G, ρ, a, r, p⟩ := h
  unfold augM bd intAt at p
  split at p
  · rename_i k e1
    obtain ⟨v, hv, q⟩ := r.val (getD_some e1 (fun z => nomatch z))
    refine ⟨v, hv, ⟨E, G, ρ, a, r, ?_⟩⟩
    simp only [bind_ok] at p
    refine PostS.bind p fun y a1 G1 ρ1 H1 w g1 l1 r1 q1 p1 => ?_
    cases y with
    | int j => exact ⟨_, _, rep_int q, rep_int q1, p1 G1 ρ1 _ H1 Ge.rfl' (List.prefix_refl _) (r1.setV i to_int)⟩
    | _ => exact p1.elim
  · exact p.elim
end
end PL

namespace PL
open PySem PySem.Spec PyProof.Rows L2

abbrev FD := List D → List Cell → Out D
def finish : Out Fl → Out D
  | .ok .nx a => .ok .non a
  | .ok (.ret d) a => .ok d a
  | .exc c fs a => .exc c fs a
  | _ => .stuck
def fram (n : Nat) (ds : List D) (st : List Cell) : AS := ⟨ds.map Slot.val ++ List.replicate (n - ds.length) .emp, st⟩
def mkF (n : Nat) (m : M Fl) : FD := fun ds st => finish (m (fram n ds st))

section
variable (K : PySem.W.Frag) (T : Tab)
structure StR (G : Hp) (ρ : List Addr) (st : List Cell) (H : Hp) : Prop where
  sub : ∀ b o, G b = some o → H b = some o
  clen : st.length = ρ.length
  cl : ∀ (i : Nat) (b : Addr) (c : Cell), ρ[i]? = some b → st[i]? = some c → CellR K T G ρ H b c
  cnd : ρ.Nodup
  cG : ∀ b ∈ ρ, G b = none
  tb : TbsOk T G H
structure Aft (G : Hp) (ρ : List Addr) (H : Hp) (G' : Hp) (ρ' : List Addr) (H' : Hp) (st' : List Cell) : Prop where
  g : Ge G G'
  l : ρ <+: ρ'
  s : StR K T G' ρ' st' H'
  fr : ∀ b o, nt H b = some o → b ∉ ρ → H' b = some o
  gnew : ∀ b o, G' b = some o → G b = some o ∨ nt H b = none
  rnew : ∀ b ∈ ρ', b ∈ ρ ∨ nt H b = none
def PostC (G : Hp) (ρ : List Addr) (H : Hp) (o : Out D) (Q : VK) (Ex : XK) : Prop := match o with
  | .stuck => False
  | .ok d a' => ∀ G' ρ' H' v, Aft K T G ρ H G' ρ' H' a'.st → Rep K T G' ρ' d v → Q v H'
  | .exc c fs a' => ∀ G' ρ' H' dd, Aft K T G ρ H G' ρ' H' a'.st → ExR K T G' ρ' H' fs dd → Ex (.ref (T.C c)) dd H'
def spM (np : Nat) (f : FD) : Sp := fun vs H Q Ex => ∃ G ρ ds st, StR K T G ρ st H ∧ RepL K T G ρ ds vs ∧ ds.length = np ∧ PostC K T G ρ H (f ds st) Q Ex
end

section
variable {K : PySem.W.Frag} {T : Tab} {E : En} {G G' : Hp} {ρ ρ' : List Addr} {a : AS} {σ : L2.St} {H H' : Hp} {st' : List Cell}
theorem AR.st (r : AR K T E G ρ a σ H) : StR K T G ρ a.st H := ⟨r.sub, r.clen, r.cl, r.cnd, r.cG, r.tb⟩
theorem AR.after (r : AR K T E G ρ a σ H) (f : Aft K T G ρ H G' ρ' H' st') : AR K T E G' ρ' { a with st := st' } σ H' := by
  obtain ⟨g, l, s, fr, gnew, rnew⟩ := f
  have kp : ∀ b o, b ∉ ρ → H b = some o → (∀ ps, o ≠ .tbl ps) → H' b = some o := fun b o h e n => fr b o (nt_of e n) h
  have nG : ∀ b, NN H b → G b = none → G' b = none := fun b h e => by
    cases q : G' b with
    | none => rfl
    | some o => rcases gnew b o q with z | z
                · rw [e] at z; cases z
                · exact absurd z h.nt
  have nr : ∀ b, NN H b → b ∉ ρ → b ∉ ρ' := fun b h e z => by
    rcases rnew b z with y | y
    · exact e y
    · exact h.nt y
  have h0 : ∀ b, nt H b = none → E.H0 b = none := fun b e => by
    cases q : E.H0 b with
    | none => rfl
    | some o =>
      by_cases z : b ∈ E.ρ0
      · have := r.rext.subset z
        obtain ⟨i, hi⟩ := List.getElem?_of_mem this
        have hl : i < a.st.length := by rw [r.clen]; exact (List.getElem?_eq_some_iff.mp hi).1
        have hc := r.cl i b _ hi (List.getElem?_eq_getElem hl)
        have nn : NN H b := by
          cases e2 : a.st[i] with
          | lst ds => rw [e2] at hc; obtain ⟨vs, y, _⟩ := hc; exact ⟨_, y, fun _ z => nomatch z⟩
          | obj c fs => rw [e2] at hc; obtain ⟨dx, vs, y, _⟩ := hc; exact ⟨_, y, fun _ z => nomatch z⟩
        exact absurd e nn.nt
      · by_cases y : E.sf = some b
        · exact absurd e (r.sfH b y).2.1.nt
        · rw [nt_of (r.fr b o q z y) (fun ps w => r.h0t b ps (by rw [q, w]))] at e; cases e
  refine ⟨s.sub, r.len, fun i t v e1 e2 => ?_, r.nd, s.clen, s.cl, s.cnd, s.cG, fun b o e h1 h2 => ?_, fun b o e => ?_, fun b o e => g b o (r.gext b o e), r.rext.trans l, fun b hb => ?_, fun b e => ?_, r.h0t, s.tb⟩
  · have z := r.sl i t v e1 e2
    cases t with
    | emp => trivial
    | val d => obtain ⟨x, e, q⟩ := z; exact ⟨x, e, Rep.ge g l _ _ q⟩
    | own ds =>
      obtain ⟨b, vs, e, hb, q, y1, y2, y3⟩ := z
      have nn : NN H b := ⟨_, hb, fun _ z => nomatch z⟩
      exact ⟨b, vs, e, kp b _ y2 hb (fun _ z => nomatch z), RepL.ge g l _ _ q, nG b nn y1, nr b nn y2, y3⟩
    | obj c fs =>
      obtain ⟨b, dx, fvs, e, hb, q, y3⟩ := z
      exact ⟨b, dx, fvs, e, kp b _ (r.sfH b y3).2.2.2 hb (fun _ z => nomatch z), RepF.ge g l _ _ q, y3⟩
  · have hb := r.fr b o e h1 h2
    refine kp b o (fun z => ?_) hb (fun ps w => r.h0t b ps (by rw [e, w]))
    rcases r.rnew b z with y | y
    · exact h1 y
    · rw [y] at e; cases e
  · rcases gnew b o e with y | y
    · exact r.gnew b o y
    · exact .inr (h0 b y)
  · rcases rnew b hb with y | y
    · exact r.rnew b y
    · exact .inr (h0 b y)
  · obtain ⟨q1, q2, q3, q4⟩ := r.sfH b e
    have q2' := q2
    obtain ⟨o, w1, w2⟩ := q2
    exact ⟨q1, ⟨o, kp b o q4 w1 w2, w2⟩, nG b q2' q3, nr b q2' q4⟩
theorem AR.start {N : List Str} {ds : List D} {vs : List V} {st : List Cell} (s : StR K T G ρ st H) (q : RepL K T G ρ ds vs) (hl : ds.length ≤ N.length) : AR K T ⟨nt H, G, ρ, none⟩ G ρ (fram N.length ds st) (L2.start N vs) H := by
  have hv := q.len
  refine ⟨s.sub, ?_, fun i t v e1 e2 => ?_, fun i j b es fs hij e1 e2 _ _ => ?_, s.clen, s.cl, s.cnd, s.cG, fun b o e _ _ => (nt_some e).1, fun b o e => .inl e, fun b o e => e, List.prefix_refl _, fun b hb => .inl hb, fun b e => (nomatch e), fun b ps => nt_tbl, s.tb⟩
  · unfold fram L2.start
    simp [hv]
  · unfold fram at e1
    unfold L2.start at e2
    by_cases hi : i < ds.length
    · rw [List.getElem?_append_left (by simpa using hi)] at e1
      rw [List.getElem?_append_left (by simpa [hv] using hi)] at e2
      rw [List.getElem?_map] at e1 e2
      cases e3 : ds[i]? with
      | none => rw [e3] at e1; cases e1
      | some d =>
        rw [e3] at e1
        cases e1
        obtain ⟨w, h1, h2⟩ := q.get e3
        rw [h1] at e2
        cases e2
        exact ⟨w, rfl, h2⟩
    · rw [List.getElem?_append_right (by simpa using hi)] at e1
      rw [List.getElem?_replicate] at e1
      split at e1
      · cases e1; trivial
      · cases e1
  · exfalso
    unfold fram at e1
    by_cases hi : i < ds.length
    · rw [List.getElem?_append_left (by simpa using hi), List.getElem?_map] at e1
      cases e3 : ds[i]? with
      | none => rw [e3] at e1; cases e1
      | some d => rw [e3] at e1; cases e1
    · rw [List.getElem?_append_right (by simpa using hi), List.getElem?_replicate] at e1
      split at e1 <;> cases e1
theorem AR.aft {H0 : Hp} (r : AR K T E G' ρ' a σ H') (hs : E.sf = none) (h0 : E.H0 = nt H0) : Aft K T E.G0 E.ρ0 H0 G' ρ' H' a.st :=
  ⟨r.gext, r.rext, r.st, fun b o e h => r.fr b o (by rw [h0]; exact e) h (by rw [hs]; exact (fun z => nomatch z)), fun b o e => by have z := r.gnew b o e; rw [h0] at z; exact z, fun b hb => by have z := r.rnew b hb; rw [h0] at z; exact z⟩
end

section
variable {P : Program} {w : World} {K : PySem.W.Frag} {mg : Str → Option Value} {base : Heap} {T : Tab} {x qual : Str} {params : Arguments} {body : List Stmt} {scope : Scope} {dvs : List V} {kws : List (Str × V)} {f : Addr} {fd : FuncData}
theorem fn_okX {N ps : List Str} {k : Nat} {m : M Fl} (F : FunD K x qual params body scope dvs kws f fd) (S : FnScope N ps scope)
    (hb : ∀ (cdv : Value) (A : Around) (outer : List Env) (s : Shared) (H : Hp) (Ex : XK), Room k (A.deeper (envOfC qual scope s.heap.objs.size f cdv)) →
      PSs (cxOf (CX P w) P w K mg base N qual scope f cdv A outer s H Ex) body (tS K T (fun cls d _ H => Ex cls d H) m)) :
    FnOk P w K mg base (CX P w) (k + 1) f fd ps (spM K T ps.length (mkF N.length m)) := by
  refine FunD.ok F S (fun vs H Q Ex ⟨G, ρ, ds, st, s, q, hl, _⟩ => by rw [q.len, hl]) fun cdv A outer s H vs Q Ex hr ⟨G, ρ, ds, st, hs, q, hl, p⟩ => ?_
  refine ⟨_, hb cdv A outer s H Ex hr, ⟨⟨nt H, G, ρ, none⟩, G, ρ, fram N.length ds st, ?_, ?_⟩⟩
  · refine AR.start hs q ?_
    have := congrArg List.length S.pre
    rw [List.length_take] at this
    omega
  · unfold mkF at p
    cases e : m (fram N.length ds st) with
    | stuck => rw [e] at p; exact p.elim
    | exc c fs a1 => rw [e] at p; exact fun G1 ρ1 σ1 H1 dd g1 l1 r1 q1 => p G1 ρ1 H1 dd (r1.aft rfl rfl) q1
    | ok fl a1 =>
      rw [e] at p
      cases fl with
      | nx => exact fun G1 ρ1 σ1 H1 g1 l1 r1 => p G1 ρ1 H1 .non (r1.aft rfl rfl) to_non
      | ret d => exact fun G1 ρ1 σ1 H1 v g1 l1 r1 q1 => p G1 ρ1 H1 v (r1.aft rfl rfl) q1
      | bk => exact p.elim
      | ct => exact p.elim
end

def callM (np : Nat) (f : FD) (ds : List D) : M D := fun a => if ds.length = np then (match f ds a.st with
  | .stuck => .stuck
  | .ok d a' => .ok d { a with st := a'.st }
  | .exc c fs a' => .exc c fs { a with st := a'.st }) else .stuck
section
variable {X : Cx} {T : Tab} {W : WX}
theorem call_read {E : En} {σ : L2.St} {G : Hp} {ρ : List Addr} {a : AS} {H : Hp} {np : Nat} {f : FD} {ds : List D} {vs : List V} {Q : VK} (r : AR X.K T E G ρ a σ H) (q : RepL X.K T G ρ ds vs) (p : Post X.K T W E σ G ρ (Rep X.K T) (callM np f ds a) Q) :
    spM X.K T np f vs H Q (fun cls d H' => W cls d σ H') := by
  unfold callM at p
  split at p
  · rename_i hl
    refine ⟨G, ρ, ds, a.st, r.st, q, hl, ?_⟩
    cases e : f ds a.st with
    | stuck => rw [e] at p; exact p
    | ok d a1 => rw [e] at p; exact fun G1 ρ1 H1 v h1 q1 => p G1 ρ1 H1 v h1.g h1.l (r.after h1) q1
    | exc c fs a1 => rw [e] at p; exact fun G1 ρ1 H1 v h1 q1 => p G1 ρ1 H1 v h1.g h1.l (r.after h1) q1
  · exact p.elim
variable {k np : Nat} {f : Addr} {fd : FuncData} {ps : List Str} {g : FD} {dvs : List V} {ds : List Value} {dds : List D} {x : Str} {p pos : Pos} {e : Expr} {es : List Expr} {ms : M (List D)}
def callA (np : Nat) (f : FD) (dds : List D) (ms : M (List D)) : M D := bd ms fun xs => callM np f (xs ++ dds)
theorem px_call (F : FnOk X.prog X.w X.K X.mg X.base (CX X.prog X.w) k f fd ps (spM X.K T np g)) (hr : Room k X.A) (hm : X.mg x = some (.ref f)) (hk : PySem.W.keepIn X.K (.ref f) = true) (hb : Binds X.K fd ps ds) (hd : Vals dvs ds) (hdd : ∀ G ρ, RepL X.K T G ρ dds dvs) (tk : Takes X W)
    (ha : PA X (e :: es) (tA X.K T W ms)) (hg : Gl X x := by rfl) (hdb : (x == ("__debug__" : Str)) = false := by decide) (he : starEach (e :: es) X.env = (false, eval e X.env) :: starEach es X.env := by rfl) (hpl : (backTo pos (starEach es X.env)).any (·.1) = false := by rfl) :
    PE X (.Call (.Name x p) (e :: es) [] pos) (tE X.K T W (callA np g dds ms)) := by
  refine PE.imp (pe_callSD (E := fun σ cls d H' => W cls d σ H') F hr hg hm hk hb hd (fun σ => passAt tk σ) ha hdb he hpl) fun σ H Q h => ?_
  refine tX.bind h fun E xs a1 G1 ρ1 H1 vs r1 q1 p1 => ?_
  exact call_read r1 (q1.app (hdd _ _)) p1
theorem px_call0 (F : FnOk X.prog X.w X.K X.mg X.base (CX X.prog X.w) k f fd ps (spM X.K T np g)) (hr : Room k X.A) (hm : X.mg x = some (.ref f)) (hk : PySem.W.keepIn X.K (.ref f) = true) (hb : Binds X.K fd ps ds) (hd : Vals dvs ds) (hdd : ∀ G ρ, RepL X.K T G ρ dds dvs) (tk : Takes X W)
    (hg : Gl X x := by rfl) (hdb : (x == ("__debug__" : Str)) = false := by decide) : PE X (.Call (.Name x p) [] [] pos) (tE X.K T W (callM np g dds)) := by
  refine ⟨fun pins s σ H Q I ⟨E, G, ρ, a, r, pp⟩ => ?_⟩
  refine wpAny_Call_Name_kw (ld_glob I hg hm ?_ hdb)
  exact PySem.W.callWith_K0 I.kIn hk (run_fnSD (E := fun σ cls d H' => W cls d σ H') (us := []) F hr hb hd (passAt tk σ) I .nil (call_read r (hdd _ _) pp))
end
end PL

namespace PL
open PySem PySem.Spec PyProof.Rows L2

set_option maxHeartbeats 4000000 in
theorem meets_enumerate_newT (t : Addr) (items : Array Value) :
    Meets (Builtin.«enumerate.__new__» ⟨[.type "enumerate", .ref t], []⟩) (fun _ R s => s.heap.IsTuple t items ∧
      R (.ok (.ret (.ref (s.heap.push { cls := .type "tuple_iterator", data := .fields #[.ref t, .int 0 0] }).objs.size)))
        { s with heap := (s.heap.push { cls := .type "tuple_iterator", data := .fields #[.ref t, .int 0 0] }).push { cls := .type "enumerate", data := .fields #[.none, .bool false, .ref s.heap.objs.size, rawInt 0, .none, .none] } }) :=
  .of_wp fun prog w A R s h => by
    obtain ⟨hp, g, d, tk, os⟩ := s; obtain ⟨h1, h⟩ := h
    have hsub := sub_enumerate
    have q1 : ∀ {A' : Around} {E : Value → Shared → Prop} {Q : Value → Shared → Prop}, Q (.ref hp.objs.size) ⟨hp.push { cls := .type "tuple_iterator", data := .fields #[.ref t, .int 0 0] }, g, d, tk, os⟩ → wpAny (model prog w) A' (pyIter (.ref t)) Q E ⟨hp, g, d, tk, os⟩ :=
      fun q => (begins_tuple t items).iter prog w _ _ ⟨hp, g, d, tk, os⟩ _ h1 q
    wp_walk using q1
    refine wpAny_stack_any fun st => wpAny_pure ?_
    split
    · rename_i c _ _ _ _ _
      cases (c == Value.type "enumerate")
      · wp_walk using q1
        exact ⟨_, rfl, h⟩
      · wp_walk using q1
        exact ⟨_, rfl, h⟩
    · wp_walk using q1
      exact ⟨_, rfl, h⟩
theorem call_enumerate_tuple {prog : Program} {w : World} {A : Around} {E : Value → Shared → Prop} {s : Shared} {l : Addr} {items : Array Value} {Q : Value → Shared → Prop} (hL : s.heap.IsTuple l items)
    (h : ∀ h', IsEnum h' (s.heap.objs.size + 1) s.heap.objs.size 0 .none → h'.IsTupleIter s.heap.objs.size l 0 → h'.objs.size = s.heap.objs.size + 2 →
      (∀ b o, s.heap.get? b = some o → h'.get? b = some o) → Q (.ref (s.heap.objs.size + 1)) { s with heap := h' }) :
    wpAny (model prog w) A (call (.type "enumerate") [.ref l]) Q E s := by
  refine callType_new F.called_enumerate (by decide) (F.typeCall_enumerate_1 _) (F.newCall_enumerate_1 _) (fun obj => F.args_object_init_2 obj _) F.entry_enumerate_new
    (meets_enumerate_newT l items) ⟨hL, ?_⟩
  have hz : (s.heap.push { cls := .type "tuple_iterator", data := .fields #[.ref l, .int 0 0] }).objs.size = s.heap.objs.size + 1 := Heap.size_push ..
  show _ ∧ _
  rw [hz]
  have he : IsEnum ((s.heap.push { cls := .type "tuple_iterator", data := .fields #[.ref l, .int 0 0] }).push
      { cls := .type "enumerate", data := .fields #[.none, .bool false, .ref s.heap.objs.size, rawInt 0, .none, .none] }) (s.heap.objs.size + 1) s.heap.objs.size 0 .none := by
    have := Heap.get?_push_size (s.heap.push { cls := .type "tuple_iterator", data := .fields #[.ref l, .int 0 0] })
      (o := { cls := .type "enumerate", data := .fields #[.none, .bool false, .ref s.heap.objs.size, rawInt 0, .none, .none] }) rfl
    rw [hz] at this; exact this
  refine ⟨⟨_, he, rfl⟩, h _ he ⟨_, Heap.get?_push_of_some _ (Heap.get?_push_size _ rfl), rfl, rfl⟩ (by rw [Heap.size_push, hz]) fun b o x => Heap.get?_push_of_some _ (Heap.get?_push_of_some _ x)⟩
def IteT (K : PySem.W.Frag) (a : Addr) : It :=
  ⟨fun i H => ∃ (xs : List V) (x : V), SqT K H a xs ∧ xs[i]? = some x, fun i H v H' => ∃ T x, v = .ref T ∧ H T = none ∧ H' = upd H T (.tup [.int (i : Nat), x]) ∧ ∀ xs, SqT K H a xs → xs[i]? = some x, fun i H => ∃ xs : List V, SqT K H a xs ∧ xs.length ≤ i⟩
theorem turn_enumT {P : Program} {w : World} {K : PySem.W.Frag} {elts : List Expr} {kk : Nat} {tpos : Pos} (a e it : Addr) :
    Turn P w K (.Tuple elts kk tpos) (IteT K a) [e, it] e (fun i h => (∃ old, IsEnum h e it ((i : Nat) : Int) old) ∧ h.IsTupleIter it a i ∧ e ≠ it) where
  mem := by simp
  obj := fun i h st b hb => by
    obtain ⟨⟨old, he⟩, ⟨o, ho, hc, hd⟩, _⟩ := st
    have e' : b = e ∨ b = it := by simpa using hb
    rcases e' with z | z
    · rw [z]; exact ⟨_, he, fun v q => nomatch q⟩
    · rw [z]; exact ⟨o, ho, fun v q => by rw [hd] at q; cases q⟩
  keep := fun i h h' st k => let ⟨⟨old, he⟩, hi, hne⟩ := st; ⟨⟨old, k e (by simp) _ he⟩, hi.at fun o q => k it (by simp) o q, hne⟩
  item := by
    intro X hP hw hK hc i pins s σ H E I hf st hg
    subst hP hw hK
    obtain ⟨⟨old, he⟩, hit, hne⟩ := st
    obtain ⟨xs, x, hq, hx⟩ := hg
    obtain ⟨its, rv, p, hz⟩ := I.tuple hq
    obtain ⟨u, hu, ru⟩ := rv.get hx
    have hT : s.heap.IsTuple a its.toArray := p
    have nit : a ≠ it := fun z => by
      obtain ⟨o, ho, hc1, _⟩ := hit
      obtain ⟨o2, ho2, hc2, _⟩ := hT
      rw [z, ho] at ho2
      cases ho2
      rw [hc1] at hc2
      exact absurd hc2 (by decide +kernel)
    have ne : a ≠ e := fun z => by
      obtain ⟨o2, ho2, hc2, _⟩ := hT
      rw [z] at ho2
      have he' := he
      unfold IsEnum at he'
      rw [he'] at ho2
      cases ho2
      have h3 : Value.type "enumerate" = Value.type "tuple" := hc2
      exact absurd h3 (by decide +kernel)
    have hel : e < s.heap.objs.size := Heap.lt_size he
    have hil : it < s.heap.objs.size := by obtain ⟨_, q, _⟩ := hit; exact Heap.lt_size q
    have hi : i < its.toArray.size := by
      have := (List.getElem?_eq_some_iff.mp hu).1
      simpa using this
    refine wpAny_pyNext_enum_itemD (Draws.tuple (A := X.A.in1) (I.ok.hd hc) it a nit its.toArray) he ⟨hit, hT⟩ hi hne (by simp [hne, Ne.symm ne]) fun x' h' tk hP' ho hst' hT' hsz hk => ?_
    have ex : x' = u := by
      have h1 : its.toArray[i]? = some x' := hP'
      have h2 : its.toArray[i]? = some u := by simpa using hu
      rw [h1] at h2
      exact Option.some.inj h2
    subst ex
    refine ⟨_, rfl, wpAny_letOwnedTupleGo_enum (s := { s with heap := h', toks := tk + 1 }) ho fun h'' he' sb => ?_⟩
    have hT2 : h''.get? s.heap.objs.size = some { cls := .type "tuple", data := .seq #[.int i tk, x'] } := (sb.2 _ (Nat.ne_of_gt hel)).trans hT'
    have new : ObjOk X.prog X.w (upd H s.heap.objs.size (.tup [.int (i : Nat), x])) h'' s.heap.objs.size (.tup [.int (i : Nat), x]) :=
      ⟨by show 2 ≤ sizeLine; decide, [.int i tk, x'], .cons ⟨_, rfl⟩ (.cons ru .nil), ⟨_, hT2, rfl, _, rfl⟩⟩
    have I1 : Inv X pins σ (upd H s.heap.objs.size (.tup [.int (i : Nat), x])) { s with heap := h'', toks := tk + 1 } :=
      I.turnedNew (ch := [e, it]) (fun b ob hb q => (sb.2 b (fun z => hb (by simp [z]))).trans (hk b ob (fun z => hb (by simp [z])) (fun z => hb (by simp [z])) q)) hf (Nat.le_refl _) new
    refine ⟨.ref s.heap.objs.size, _, I1, rfl, ⟨_, x, rfl, I.hok.fresh (Nat.le_refl _), rfl, fun ys hy => by rw [I.tuple_inj hy hq]; exact hx⟩, ⟨⟨x', ?_⟩, hst'.1.at fun o q => (sb.2 it (Ne.symm hne)).trans q, hne⟩, fun b hb => ?_⟩
    · have e1 : ((i + 1 : Nat) : Int) = (i : Int) + 1 := by omega
      rw [e1]; exact he'
    · have hb' : b < s.heap.objs.size := by
        have e' : b = e ∨ b = it := by simpa using hb
        rcases e' with z | z
        · rw [z]; exact hel
        · rw [z]; exact hil
      rw [upd_ne (Nat.ne_of_lt hb')]
      exact (hf b hb).1
  done := by
    intro X hP hw hK hc i pins s σ H E I hf st hg
    subst hP hw hK
    obtain ⟨⟨old, he⟩, hit, hne⟩ := st
    obtain ⟨xs, hq, hx⟩ := hg
    obtain ⟨its, rv, p, hz⟩ := I.tuple hq
    obtain ⟨f0, f1, f2, f3, f4, f5⟩ := hf it (by simp)
    have hl := rv.length
    have hT : s.heap.IsTuple a its.toArray := p
    have hT0 : s.TypeIs (.ref e) "enumerate" := ⟨_, he, rfl⟩
    unfold pyNext
    refine wpAny_bind (wpAny_attempt (wpAny_callSpecial?_slot (name := Str.ofString "__next__") hT0 F.slot_enumerate_next
      (wpAny_call_entry F.slot_enumerate_next hT0 F.entry_enumerate_next ?_ (F.args_enumerate_next_1 _))))
    show wpAny _ _ (field (.ref e) 2 >>= _) _ _ _
    refine wpAny_bind (wpAny_field he rfl (x := .ref it) rfl ?_)
    refine wpAny_bind (wpAny_nextOf_tuple_end (I.ok.hd hc) hit hT (by simp; omega) fun h' x he' hx' => ?_)
    obtain ⟨o, ho, hcl⟩ := hx'
    refine wpAny_bind (wpAny_isInstance (T := "StopIteration") (b := true) ⟨o, ho, hcl⟩ isSubtype_stop ?_)
    exact wpAny_pure ⟨rfl, I.turned (t' := s.toks) (fun b o hb q => he' b o hb q) f0 f1 f3 f4 f5⟩
  self := fun A i s Q E st h => let ⟨⟨_, he⟩, _⟩ := st; wpAny_pyIter_enum he h
def iEnumT (K : PySem.W.Frag) (ta : TA) : TI := fun σ H R => ta σ H fun vs H1 => ∃ a xs, vs = [.ref a] ∧ SqT K H1 a xs ∧ R (IteT K a) H1
theorem pi_enumT {X : Cx} {e : Expr} {ta : TA} {p pos tpos : Pos} {elts : List Expr} {kk : Nat} (hg : Gl X "enumerate") (hm : X.mg "enumerate" = none) (ha : PA X [e] ta) (hs : starEach [e] X.env = [(false, eval e X.env)] := by rfl) :
    PI X (.Tuple elts kk tpos) (.Call (.Name "enumerate" p) [e] [] pos) (iEnumT X.K ta) := by
  refine ⟨fun pins s σ H R I h => ?_⟩
  refine Call_ (ld_blt I hg hm boot_enumerate (PyProof.Rows.callWith_type1 (thn (ha.run pos pins s σ H _ I h) fun us s1 ⟨vs, H1, I1, r1, q1⟩ => ?_) hs rfl))
  obtain ⟨a, xs, ex, hq, q⟩ := q1
  subst ex
  cases r1 with
  | cons r rr =>
    cases rr
    cases r
    obtain ⟨its, rv, p', hz⟩ := I1.tuple hq
    refine call_enumerate_tuple (show s1.heap.IsTuple a its.toArray from p') fun h' he hit hsz hk => wpAny_pyIter_enum he ?_
    have I2 : Inv X pins σ H1 { s1 with heap := h' } := I1.kept (t' := s1.toks) hk
    refine ⟨s1.heap.objs.size + 1, [s1.heap.objs.size + 1, s1.heap.objs.size], _, _, H1, rfl, I2, turn_enumT a (s1.heap.objs.size + 1) s1.heap.objs.size, ⟨⟨.none, he⟩, hit, Nat.succ_ne_self _⟩, fun b hb => ?_, q⟩
    have e' : b = s1.heap.objs.size + 1 ∨ b = s1.heap.objs.size := by simpa using hb
    have hle : s1.heap.objs.size ≤ b := by
      rcases e' with z | z
      · rw [z]; exact Nat.le_add_right _ _
      · rw [z]; exact Nat.le_refl _
    exact I1.fpOk hle (I1.hok.fresh hle)

def Yields (K : PySem.W.Frag) (T : Tab) (G : Hp) (ρ : List Addr) (J : It) (ds : List D) : Prop :=
  ∀ G1 ρ1, Ge G G1 → ρ <+: ρ1 → ∀ E a σ H, AR K T E G1 ρ1 a σ H →
    (∀ (i : Nat) (d : D), ds[i]? = some d → J.go i H ∧ ∀ x H', J.yld i H x H' → ∃ G2, Ge G1 G2 ∧ AR K T E G2 ρ1 a σ H' ∧ Rep K T G2 ρ1 d x) ∧ J.stop ds.length H
def PostI (K : PySem.W.Frag) (T : Tab) (W : WX) (E : En) (σ : L2.St) (G : Hp) (ρ : List Addr) (o : Out (List D)) (R : It → Hp → Prop) : Prop := match o with
  | .stuck => False
  | .ok ds a' => ∀ G' ρ' H' J, Ge G G' → ρ <+: ρ' → AR K T E G' ρ' a' σ H' → Yields K T G' ρ' J ds → R J H'
  | .exc c fs a' => ∀ G' ρ' H' dd, Ge G G' → ρ <+: ρ' → AR K T E G' ρ' a' σ H' → ExR K T G' ρ' H' fs dd → W (.ref (T.C c)) dd σ H'
def tI (K : PySem.W.Frag) (T : Tab) (W : WX) (m : M (List D)) : TI := fun σ H R => ∃ E G ρ a, AR K T E G ρ a σ H ∧ PostI K T W E σ G ρ (m a) R
section
variable {K : PySem.W.Frag} {T : Tab} {W : WX} {E : En} {σ : L2.St} {G G' : Hp} {ρ ρ' : List Addr} {α β : Type}
theorem PostI.ext {o : Out (List D)} {R : It → Hp → Prop} (h : PostI K T W E σ G ρ o R) (g : Ge G G') (p : ρ <+: ρ') : PostI K T W E σ G' ρ' o R := by
  cases o with
  | stuck => exact h
  | ok x a => exact fun G2 ρ2 H2 v e1 e2 r q => h G2 ρ2 H2 v (g.trans e1) (p.trans e2) r q
  | exc c fs a => exact fun G2 ρ2 H2 v e1 e2 r q => h G2 ρ2 H2 v (g.trans e1) (p.trans e2) r q
theorem PostI.bind {R1 : Hp → List Addr → α → β → Prop} {o : Out α} {f : α → AS → Out (List D)} {R : It → Hp → Prop} {Q1 : β → Hp → Prop} (h : PostI K T W E σ G ρ (o.bind f) R)
    (k : ∀ x a' G' ρ' H' v, Ge G G' → ρ <+: ρ' → AR K T E G' ρ' a' σ H' → R1 G' ρ' x v → PostI K T W E σ G' ρ' (f x a') R → Q1 v H') : Post K T W E σ G ρ R1 o Q1 := by
  cases o with
  | stuck => exact h
  | ok x a => exact fun G2 ρ2 H2 v e1 e2 r q => k x a G2 ρ2 H2 v e1 e2 r q (PostI.ext (o := f x a) h e1 e2)
  | exc c fs a => exact h
theorem Yields.ext {J : It} {ds : List D} (h : Yields K T G ρ J ds) (g : Ge G G') (p : ρ <+: ρ') : Yields K T G' ρ' J ds := fun G1 ρ1 g1 l1 => h G1 ρ1 (g.trans g1) (p.trans l1)
theorem yields_list {b : Addr} {vs : List V} {ds : List D} (hb : SqL K G b vs) (q : RepL K T G ρ ds vs) : Yields K T G ρ (Itl K b) ds := fun G1 ρ1 g l E a σ H r => by
  have hR : SqL K H b vs := SqL.ge (SqL.ge hb g) r.sub
  refine ⟨fun i d hd => ?_, vs, hR, by rw [q.len]; exact Nat.le_refl _⟩
  obtain ⟨v, hv, rv⟩ := q.get hd
  refine ⟨⟨vs, v, hR, hv⟩, fun x H' ⟨e, h⟩ => ?_⟩
  subst e
  have ex := h vs hR
  rw [hv] at ex
  cases ex
  exact ⟨G1, Ge.rfl', r, Rep.ge g l _ _ rv⟩
theorem yields_tup {b : Addr} {vs : List V} {ds : List D} (hb : TupR K G b vs) (q : RepL K T G ρ ds vs) : Yields K T G ρ (Itt K b) ds := fun G1 ρ1 g l E a σ H r => by
  have hR : SqT K H b vs := ((hb.ge g).ge r.sub).sq
  refine ⟨fun i d hd => ?_, vs, hR, by rw [q.len]; exact Nat.le_refl _⟩
  obtain ⟨v, hv, rv⟩ := q.get hd
  refine ⟨⟨vs, v, hR, hv⟩, fun x H' ⟨e, h⟩ => ?_⟩
  subst e
  have ex := h vs hR
  rw [hv] at ex
  cases ex
  exact ⟨G1, Ge.rfl', r, Rep.ge g l _ _ rv⟩
def rangeD (lo : Int) (n : Nat) : List D := (List.range n).map fun (k : Nat) => .int (lo + (k : Int))
theorem yields_range {lo : Int} {n : Nat} : Yields K T G ρ (Itr lo n) (rangeD lo n) := fun G1 ρ1 g l E a σ H r => by
  refine ⟨fun i d hd => ?_, by show n ≤ _; simp [rangeD]⟩
  have hi : i < n := by have := (List.getElem?_eq_some_iff.mp hd).1; simpa [rangeD] using this
  have ed : d = .int (lo + (i : Int)) := by
    unfold rangeD at hd
    rw [List.getElem?_map, List.getElem?_range hi] at hd
    exact (Option.some.inj hd).symm
  refine ⟨hi, fun x H' ⟨e1, e2⟩ => ?_⟩
  subst e1 e2 ed
  exact ⟨G1, Ge.rfl', r, to_int⟩
def enumD (ds : List D) : List D := ds.mapIdx fun k d => .tup [.int (k : Int), d]
theorem enum_get {ds : List D} {i : Nat} {z : D} (h : (enumD ds)[i]? = some z) : ∃ d, ds[i]? = some d ∧ z = .tup [.int (i : Int), d] := by
  unfold enumD at h
  rw [List.getElem?_mapIdx] at h
  cases e : ds[i]? with
  | none => rw [e] at h; cases h
  | some d => rw [e] at h; exact ⟨d, rfl, (Option.some.inj h).symm⟩
theorem pair_rep {E : En} {a : AS} {H : Hp} {p : Addr} {v w : V} {d d' : D} (r : AR K T E G ρ a σ H) (hp : H p = none) (h1 : Rep K T G ρ d v) (h2 : Rep K T G ρ d' w) :
    ∃ G2, Ge G G2 ∧ AR K T E G2 ρ a σ (upd H p (.tup [v, w])) ∧ Rep K T G2 ρ (.tup [d, d']) (.ref p) := by
  obtain ⟨g, r2⟩ := r.lay (o := HO.tup [v, w]) hp
  refine ⟨_, g, r2, ?_⟩
  unfold Rep
  exact ⟨p, [v, w], rfl, .inl upd_same, RepL.cons (Rep.ge g (List.prefix_refl _) _ _ h1) (RepL.cons (Rep.ge g (List.prefix_refl _) _ _ h2) RepL.nil)⟩
theorem yields_enumL {b : Addr} {vs : List V} {ds : List D} (hb : SqL K G b vs) (q : RepL K T G ρ ds vs) : Yields K T G ρ (Ite K b) (enumD ds) := fun G1 ρ1 g l E a σ H r => by
  have hR : SqL K H b vs := SqL.ge (SqL.ge hb g) r.sub
  refine ⟨fun i d hd => ?_, vs, hR, by rw [q.len]; simp [enumD]⟩
  obtain ⟨d', hd', rfl⟩ := enum_get hd
  obtain ⟨v, hv, rv⟩ := q.get hd'
  refine ⟨⟨vs, v, hR, hv⟩, fun x H' ⟨p, u, e1, hp, e2, h⟩ => ?_⟩
  subst e1 e2
  have ex := h vs hR
  rw [hv] at ex
  cases ex
  exact pair_rep r hp to_int (Rep.ge g l _ _ rv)
theorem yields_enumT {b : Addr} {vs : List V} {ds : List D} (hb : TupR K G b vs) (q : RepL K T G ρ ds vs) : Yields K T G ρ (IteT K b) (enumD ds) := fun G1 ρ1 g l E a σ H r => by
  have hR : SqT K H b vs := ((hb.ge g).ge r.sub).sq
  refine ⟨fun i d hd => ?_, vs, hR, by rw [q.len]; simp [enumD]⟩
  obtain ⟨d', hd', rfl⟩ := enum_get hd
  obtain ⟨v, hv, rv⟩ := q.get hd'
  refine ⟨⟨vs, v, hR, hv⟩, fun x H' ⟨p, u, e1, hp, e2, h⟩ => ?_⟩
  subst e1 e2
  have ex := h vs hR
  rw [hv] at ex
  cases ex
  exact pair_rep r hp to_int (Rep.ge g l _ _ rv)
def signsD (z : Str) : List D := z.cps.toList.map fun c => .str ⟨#[c]⟩
theorem yields_str {z : Str} : Yields K T G ρ (Its z) (signsD z) := fun G1 ρ1 g l E a σ H r => by
  refine ⟨fun i d hd => ?_, by show z.cps.size ≤ _; simp [signsD]⟩
  have hi : i < z.cps.size := by have := (List.getElem?_eq_some_iff.mp hd).1; simpa [signsD] using this
  unfold signsD at hd
  rw [List.getElem?_map, Array.getElem?_toList] at hd
  refine ⟨hi, fun x H' ⟨e1, c, e2, e3⟩ => ?_⟩
  subst e1 e3
  rw [e2] at hd
  cases hd
  exact ⟨G1, Ge.rfl', r, to_str⟩
end
def frzOf : D → Option (List D)
  | .lst ds => some ds
  | .tup ds => some ds
  | .str z => some (signsD z)
  | _ => none
section
variable {X : Cx} {T : Tab} {W : WX}
theorem pi_or {tg e : Expr} {w1 w2 : TI} (h1 : PI X tg e w1) (h2 : PI X tg e w2) : PI X tg e (fun σ H R => w1 σ H R ∨ w2 σ H R) :=
  ⟨fun pins s σ H R I h => h.elim (h1.run pins s σ H R I) (h2.run pins s σ H R I)⟩
theorem PI.imp {tg e : Expr} {w w' : TI} (h : PI X tg e w) (i : ∀ σ H R, w' σ H R → w σ H R) : PI X tg e w' := ⟨fun pins s σ H R I q => h.run pins s σ H R I (i σ H R q)⟩
def seqM' (m : M D) : M (List D) := bd m fun x => opt (frzOf x)
theorem pi_seqX {tg e : Expr} {m : M D} (h : PE X e (tE X.K T W m)) : PI X tg e (tI X.K T W (seqM' m)) := by
  refine PI.imp (pi_or (pi_list h) (pi_or (pi_tup h) (pi_str h))) fun σ H R ⟨E, G, ρ, a, r, p⟩ => ?_
  unfold seqM' bd at p
  cases e1 : m a with
  | stuck => rw [e1] at p; exact p.elim
  | exc c fs a1 => rw [e1] at p; exact .inl ⟨E, G, ρ, a, r, by rw [e1]; exact p⟩
  | ok x a1 =>
    rw [e1] at p
    simp only [bind_ok] at p
    cases x with
    | lst ds =>
      refine .inl ⟨E, G, ρ, a, r, ?_⟩
      rw [e1]
      refine fun G1 ρ1 H1 v g1 l1 r1 q1 => ?_
      unfold Rep at q1
      obtain ⟨b, vs, ev, hb, rl⟩ := q1
      exact ⟨b, ev, ⟨vs, SqL.ge hb r1.sub⟩, p G1 ρ1 H1 _ g1 l1 r1 (yields_list hb rl)⟩
    | tup ds =>
      refine .inr (.inl ⟨E, G, ρ, a, r, ?_⟩)
      rw [e1]
      refine fun G1 ρ1 H1 v g1 l1 r1 q1 => ?_
      obtain ⟨b, vs, ev, hb, rl⟩ := q1.tup
      exact ⟨b, ev, ⟨vs, (hb.ge r1.sub).sq⟩, p G1 ρ1 H1 _ g1 l1 r1 (yields_tup hb rl)⟩
    | str z =>
      refine .inr (.inr ⟨E, G, ρ, a, r, ?_⟩)
      rw [e1]
      refine fun G1 ρ1 H1 v g1 l1 r1 q1 => ?_
      exact ⟨z, rep_str q1, p G1 ρ1 H1 _ g1 l1 r1 yields_str⟩
    | _ => exact p.elim
def okR (i : Int) : Bool := decide (-(2 ^ 62) ≤ i ∧ i < 2 ^ 62)
def range1M (ms : M (List D)) : M (List D) := bd ms fun xs => match xs with
  | [.int j] => if okR j = true then ret (rangeD 0 j.toNat) else no
  | _ => no
def range2M (ms : M (List D)) : M (List D) := bd ms fun xs => match xs with
  | [.int i, .int j] => if (okR i && okR j) = true then ret (rangeD i (j - i).toNat) else no
  | _ => no
theorem pi_range1X {tg a : Expr} {ms : M (List D)} {p pos : Pos} (hm : X.mg "range" = none) (ha : PA X [a] (tA X.K T W ms)) (hg : Gl X "range" := by rfl) (hs : starEach [a] X.env = [(false, eval a X.env)] := by rfl) :
    PI X tg (.Call (.Name "range" p) [a] [] pos) (tI X.K T W (range1M ms)) := by
  refine PI.imp (pi_range1 hg hm ha hs) fun σ H R ⟨E, G, ρ, a, r, p⟩ => ?_
  refine ⟨E, G, ρ, a, r, PostI.bind p fun xs a1 G1 ρ1 H1 vs g1 l1 r1 q1 p1 => ?_⟩
  split at p1
  · rename_i j
    split at p1
    · rename_i hj
      obtain ⟨v, ev, q1⟩ := q1.one
      rw [rep_int q1] at ev
      have hj' := of_decide_eq_true hj
      exact ⟨j, ev, hj'.1, hj'.2, p1 G1 ρ1 H1 _ Ge.rfl' (List.prefix_refl _) r1 yields_range⟩
    · exact p1.elim
  · exact p1.elim
theorem pi_range2X {tg a b : Expr} {ms : M (List D)} {p pos : Pos} (hm : X.mg "range" = none) (ha : PA X [a, b] (tA X.K T W ms)) (hg : Gl X "range" := by rfl) (hs : starEach [a, b] X.env = [(false, eval a X.env), (false, eval b X.env)] := by rfl)
    (hs2 : starEach [b] X.env = [(false, eval b X.env)] := by rfl) : PI X tg (.Call (.Name "range" p) [a, b] [] pos) (tI X.K T W (range2M ms)) := by
  refine PI.imp (pi_range2 hg hm ha hs hs2) fun σ H R ⟨E, G, ρ, a, r, p⟩ => ?_
  refine ⟨E, G, ρ, a, r, PostI.bind p fun xs a1 G1 ρ1 H1 vs g1 l1 r1 q1 p1 => ?_⟩
  split at p1
  · rename_i i j
    split at p1
    · rename_i hj
      obtain ⟨v, w, ev, q1, q2⟩ := q1.two
      rw [rep_int q1, rep_int q2] at ev
      rw [Bool.and_eq_true] at hj
      have h1 := of_decide_eq_true hj.1
      have h2 := of_decide_eq_true hj.2
      exact ⟨i, j, ev, ⟨h1.1, h1.2, h2.1, h2.2⟩, p1 G1 ρ1 H1 _ Ge.rfl' (List.prefix_refl _) r1 yields_range⟩
    · exact p1.elim
  · exact p1.elim
def enumM (ms : M (List D)) : M (List D) := bd ms fun xs => match xs with
  | [.lst ds] => ret (enumD ds)
  | [.tup ds] => ret (enumD ds)
  | _ => no
theorem pi_enumX {e : Expr} {ms : M (List D)} {p pos tpos : Pos} {elts : List Expr} {kk : Nat} (hm : X.mg "enumerate" = none) (ha : PA X [e] (tA X.K T W ms)) (hg : Gl X "enumerate" := by rfl) (hs : starEach [e] X.env = [(false, eval e X.env)] := by rfl) :
    PI X (.Tuple elts kk tpos) (.Call (.Name "enumerate" p) [e] [] pos) (tI X.K T W (enumM ms)) := by
  refine PI.imp (pi_or (pi_enum hg hm ha hs) (pi_enumT hg hm ha hs)) fun σ H R ⟨E, G, ρ, a, r, p⟩ => ?_
  unfold enumM bd at p
  cases e1 : ms a with
  | stuck => rw [e1] at p; exact p.elim
  | exc c fs a1 => rw [e1] at p; exact .inl ⟨E, G, ρ, a, r, by rw [e1]; exact p⟩
  | ok xs a1 =>
    rw [e1] at p
    simp only [bind_ok] at p
    split at p
    · rename_i ds
      refine .inl ⟨E, G, ρ, a, r, ?_⟩
      rw [e1]
      refine fun G1 ρ1 H1 vs g1 l1 r1 q1 => ?_
      obtain ⟨v, ev, q1⟩ := q1.one
      unfold Rep at q1
      obtain ⟨b, us, eb, hb, rl⟩ := q1
      subst ev eb
      exact ⟨b, us, rfl, SqL.ge hb r1.sub, p G1 ρ1 H1 _ g1 l1 r1 (yields_enumL hb rl)⟩
    · rename_i ds
      refine .inr ⟨E, G, ρ, a, r, ?_⟩
      rw [e1]
      refine fun G1 ρ1 H1 vs g1 l1 r1 q1 => ?_
      obtain ⟨v, ev, q1⟩ := q1.one
      obtain ⟨b, us, eb, hb, rl⟩ := q1.tup
      subst ev eb
      exact ⟨b, us, rfl, (hb.ge r1.sub).sq, p G1 ρ1 H1 _ g1 l1 r1 (yields_enumT hb rl)⟩
    · exact p.elim

abbrev TgM := D → AS → Option AS
structure Off (js : List Nat) (σ σ' : L2.St) : Prop where
  len : σ'.length = σ.length
  at_ : ∀ j, j ∉ js → σ'[j]? = σ[j]?
theorem Off.refl {js : List Nat} {σ : L2.St} : Off js σ σ := ⟨rfl, fun _ _ => rfl⟩
theorem Off.trans {js ks : List Nat} {σ σ1 σ2 : L2.St} (a : Off js σ σ1) (b : Off ks σ1 σ2) : Off (js ++ ks) σ σ2 :=
  ⟨b.len.trans a.len, fun j h => (b.at_ j (fun z => h (List.mem_append_right _ z))).trans (a.at_ j (fun z => h (List.mem_append_left _ z)))⟩
def TgR (K : PySem.W.Frag) (T : Tab) (g : TG) (t : TgM) (js : List Nat) : Prop := ∀ (d : D) (a a' : AS), t d a = some a' → ∀ (E : En) (G : Hp) (ρ : List Addr) (σ : L2.St) (H : Hp) (v : V) (Q : L2.St → Hp → Prop), AR K T E G ρ a σ H → Rep K T G ρ d v →
  (∀ σ', Off js σ σ' → AR K T E G ρ a' σ' H → Q σ' H) → g v σ H Q
def tgN (i : Nat) : TgM := fun d a => some { a with sl := a.sl.set i (.val d) }
theorem tr_name {K : PySem.W.Frag} {T : Tab} (i : Nat) : TgR K T (gName i) (tgN i) [i] := fun d a a' e E G ρ σ H v Q r q k => by
  cases e
  exact k _ ⟨by simp, fun j h => by rw [List.getElem?_set_ne (by intro z; exact h (by simp [z]))]⟩ (r.setV i q)
def TgsR (K : PySem.W.Frag) (T : Tab) (g : TGs) (t : List D → AS → Option AS) (js : List Nat) : Prop := ∀ (ds : List D) (a a' : AS), t ds a = some a' → ∀ (E : En) (G : Hp) (ρ : List Addr) (σ : L2.St) (H : Hp) (vs : List V) (Q : L2.St → Hp → Prop), AR K T E G ρ a σ H → RepL K T G ρ ds vs →
  (∀ σ', Off js σ σ' → AR K T E G ρ a' σ' H → Q σ' H) → g vs σ H Q
def tgNil : List D → AS → Option AS
  | [], a => some a
  | _, _ => none
def tgCons (t : TgM) (u : List D → AS → Option AS) : List D → AS → Option AS
  | d :: ds, a => (t d a).bind (u ds)
  | _, _ => none
theorem trs_nil {K : PySem.W.Frag} {T : Tab} : TgsR K T gNil tgNil [] := fun ds a a' e E G ρ σ H vs Q r q k => by
  cases ds with
  | nil => cases e; exact ⟨q.inv0, k σ Off.refl r⟩
  | cons d ds => cases e
theorem trs_cons {K : PySem.W.Frag} {T : Tab} {g : TG} {gs : TGs} {t : TgM} {u : List D → AS → Option AS} {js ks : List Nat} (h : TgR K T g t js) (hs : TgsR K T gs u ks) : TgsR K T (gCons g gs) (tgCons t u) (js ++ ks) := fun ds a a' e E G ρ σ H vs Q r rl k => by
  cases ds with
  | nil => cases e
  | cons d ds =>
    obtain ⟨v, us, ev, h1, h2⟩ := rl.inv
    replace e : (t d a).bind (u ds) = some a' := e
    cases e1 : t d a with
    | none => rw [e1] at e; cases e
    | some a1 =>
      rw [e1] at e
      exact ⟨v, us, ev, h d a a1 e1 E G ρ σ H v _ r h1 fun σ' o1 r' => hs ds a1 a' e E G ρ σ' H us Q r' h2 fun σ2 o2 r2 => k σ2 (o1.trans o2) r2⟩
def tgTup (n : Nat) (u : List D → AS → Option AS) : TgM := fun d a => match d with
  | .tup ds => if ds.length = n then u ds a else none
  | _ => none
theorem tr_tup {K : PySem.W.Frag} {T : Tab} {gs : TGs} {u : List D → AS → Option AS} {js : List Nat} (n : Nat) (hs : TgsR K T gs u js) : TgR K T (gTup K n gs) (tgTup n u) js := fun d a a' e E G ρ σ H v Q r rv k => by
  unfold tgTup at e
  split at e
  · rename_i ds
    split at e
    · rename_i hl
      obtain ⟨b, vs, ev, hb, rl⟩ := rv.tup
      exact ⟨b, vs, ev, (hb.ge r.sub).sq, by rw [rl.len, hl], hs ds a a' e E G ρ σ H vs Q r rl k⟩
    · cases e
  · cases e
def asgM (t : TgM) (m : M D) : M Fl := bd m fun d => fun a => match t d a with
  | some a' => .ok .nx a'
  | none => .stuck
theorem ps_asgX {tg e : Expr} {m : M D} {g : TG} {t : TgM} {js : List Nat} {pos : Pos} (h : PE X e (tE X.K T W m)) (p : PG X tg g) (q : TgR X.K T g t js) (hs : swapsWithSole [tg] e pos.line X.env = pure false := by rfl) (hw : swappedStores [tg] e X.env = pure none := by rfl)
    (h1 : (assignEach [tg] X.env).map (·.2) = [assign tg X.env] := by rfl) : PS X (.Assign [tg] e pos) (tS X.K T W (asgM t m)) := by
  refine PS.imp (ps_asg h p hs hw h1) fun De σ H h => ?_
  refine tS.bind h fun E x a1 G1 ρ1 H1 v r1 q1 p1 => ?_
  split at p1
  · rename_i a' e
    exact q x a1 a' e E G1 ρ1 σ H1 v _ r1 q1 fun σ' _ r' => p1 G1 ρ1 σ' H1 Ge.rfl' (List.prefix_refl _) r'
  · exact p1.elim
def parM (i j : Nat) (ma mb : M D) : M Fl := bd ma fun x => bd mb fun y => fun a => .ok .nx { a with sl := (a.sl.set i (.val x)).set j (.val y) }
theorem ps_parX (i j : Nat) {x y : Str} {a b : Expr} {ma mb : M D} {px py pt : Pos} {kt k2 pt2 pos} (hc : X.calm = true) (hN : X.N.Nodup) (ha : PE X a (tE X.K T W ma)) (hb : PE X b (tE X.K T W mb)) (hps : ∀ ta, PA X [a, b] ta → PS X (.Assign [.Tuple [.Name x px, .Name y py] kt pt] (.Tuple [a, b] k2 pt2) pos) (tPar i j ta))
    (hs : starEach [a, b] X.env = (false, eval a X.env) :: starEach [b] X.env := by rfl) (hs2 : starEach [b] X.env = (false, eval b X.env) :: starEach [] X.env := by rfl) :
    PS X (.Assign [.Tuple [.Name x px, .Name y py] kt pt] (.Tuple [a, b] k2 pt2) pos) (tS X.K T W (parM i j ma mb)) := by
  refine PS.imp (hps _ (px_cons ha (px_cons hb px_nil hs2) hs)) fun De σ H h => ?_
  obtain ⟨E, G, ρ, a0, r, p⟩ := h
  refine ⟨E, G, ρ, a0, r, ?_⟩
  unfold consM nilM bd
  unfold parM bd at p
  cases e1 : ma a0 with
  | stuck => rw [e1] at p; exact p
  | exc c fs a1 => rw [e1] at p; exact fun G1 ρ1 H1 dd g1 l1 r1 q1 => p G1 ρ1 σ H1 dd g1 l1 r1 q1
  | ok d1 a1 =>
    rw [e1] at p
    simp only [bind_ok] at p ⊢
    cases e2 : mb a1 with
    | stuck => rw [e2] at p; exact p
    | exc c fs a2 => rw [e2] at p; exact fun G1 ρ1 H1 dd g1 l1 r1 q1 => p G1 ρ1 σ H1 dd g1 l1 r1 q1
    | ok d2 a2 =>
      rw [e2] at p
      simp only [bind_ok] at p ⊢
      refine fun G1 ρ1 H1 vs g1 l1 r1 q1 => ?_
      obtain ⟨v, w, ev, h1, h2⟩ := q1.two
      exact ⟨v, w, ev, p G1 ρ1 _ H1 g1 l1 ((r1.setV i h1).setV j h2)⟩

def forL (t : TgM) (body : M Fl) : List D → M Fl
  | [], a => .ok .nx a
  | d :: ds, a => match t d a with
    | none => .stuck
    | some a1 => match body a1 with
      | .ok .nx a2 => forL t body ds a2
      | .ok .ct a2 => forL t body ds a2
      | .ok .bk a2 => .ok .nx a2
      | o => o
def forM (mi : M (List D)) (t : TgM) (body : M Fl) : M Fl := bd mi fun ds => forL t body ds
theorem ps_forX {tg iter : Expr} {body : List Stmt} {mi : M (List D)} {g : TG} {t : TgM} {js : List Nat} {m : M Fl} {pos : Pos} (hp : PassesOwn (model X.prog X.w) X.A X.env X.xe) (hc : X.calm = true) (hi : PI X tg iter (tI X.K T W mi)) (p : PG X tg g) (q : TgR X.K T g t js) (hb : PSs X body (tS X.K T W m))
    (hs : ∀ x, foldedSetIterable iter X.env x = pure x := by intro _; rfl) : PS X (.For tg iter body [] pos) (tS X.K T W (forM mi t m)) := by
  refine PS.imp (ps_for hp hc hi p hb hs) fun De σ H h => ?_
  obtain ⟨E, G, ρ, a, r, pp⟩ := h
  refine ⟨E, G, ρ, a, r, ?_⟩
  unfold forM bd at pp
  cases e1 : mi a with
  | stuck => rw [e1] at pp; exact pp
  | exc c fs a1 => rw [e1] at pp; exact fun G1 ρ1 H1 dd g1 l1 r1 q1 => pp G1 ρ1 σ H1 dd g1 l1 r1 q1
  | ok ds a1 =>
    rw [e1] at pp
    simp only [bind_ok] at pp
    refine fun G1 ρ1 H1 J g1 l1 r1 Y => ?_
    replace pp := PostS.ext (o := forL t m ds a1) pp g1 l1
    refine ⟨fun i n σ' H' => n = ds.length - i ∧ i ≤ ds.length ∧ ∃ E G' ρ' a', Ge G1 G' ∧ ρ1 <+: ρ' ∧ AR X.K T E G' ρ' a' σ' H' ∧ PostS X.K T W E G' ρ' (forL t m (ds.drop i) a') De, ⟨ds.length, by simp, Nat.zero_le _, E, G1, ρ1, a1, Ge.rfl', List.prefix_refl _, r1, pp⟩, ?_⟩
    rintro i n σ' H' ⟨rfl, hi, E', G', ρ', a', g', l', r', p'⟩
    obtain ⟨y1, y2⟩ := Y G' ρ' g' l' E' a' σ' H' r'
    by_cases hlt : i < ds.length
    · have hd : ds[i]? = some ds[i] := List.getElem?_eq_getElem hlt
      obtain ⟨z1, z2⟩ := y1 i _ hd
      rw [List.drop_eq_getElem_cons hlt] at p'
      unfold forL at p'
      refine .inr ⟨z1, fun σ2 H2 => ∃ E G' ρ' a', Ge G1 G' ∧ ρ1 <+: ρ' ∧ AR X.K T E G' ρ' a' σ2 H2 ∧ PostS X.K T W E G' ρ' (forL t m (ds.drop (i + 1)) a') De, fun σ2 H2 h => ⟨ds.length - (i + 1), by omega, rfl, hlt, h⟩, fun x H2 hy => ?_⟩
      obtain ⟨G2, g2, r2, rx⟩ := z2 x H2 hy
      cases e2 : t ds[i] a' with
      | none => rw [e2] at p'; exact p'.elim
      | some a2 =>
        rw [e2] at p'
        simp only at p'
        refine q ds[i] a' a2 e2 E' G2 ρ' σ' H2 x _ r2 rx fun σ3 _ r3 => ⟨E', G2, ρ', a2, r3, ?_⟩
        cases e3 : m a2 with
        | stuck => rw [e3] at p'; exact p'
        | exc c fs a3 => rw [e3] at p'; exact fun G3 ρ3 σ4 H3 dd g3 l3 r4 q4 => p' G3 ρ3 σ4 H3 dd (g2.trans g3) l3 r4 q4
        | ok f a3 =>
          rw [e3] at p'
          cases f with
          | nx => exact fun G3 ρ3 σ4 H3 g3 l3 r4 => ⟨E', G3, ρ3, a3, g'.trans (g2.trans g3), l'.trans l3, r4, PostS.ext (o := forL t m _ a3) p' (g2.trans g3) l3⟩
          | ct => exact fun G3 ρ3 σ4 H3 g3 l3 r4 => ⟨E', G3, ρ3, a3, g'.trans (g2.trans g3), l'.trans l3, r4, PostS.ext (o := forL t m _ a3) p' (g2.trans g3) l3⟩
          | bk => exact fun G3 ρ3 σ4 H3 g3 l3 r4 => p' G3 ρ3 σ4 H3 (g2.trans g3) l3 r4
          | ret d => exact fun G3 ρ3 σ4 H3 v g3 l3 r4 q4 => p' G3 ρ3 σ4 H3 v (g2.trans g3) l3 r4 q4
    · have e : i = ds.length := by omega
      subst e
      rw [List.drop_length] at p'
      unfold forL at p'
      exact .inl ⟨y2, p' G' ρ' σ' H' Ge.rfl' (List.prefix_refl _) r'⟩
def whileN (c : M Bool) (body : M Fl) : Nat → M Fl
  | 0, _ => .stuck
  | n + 1, a => match c a with
    | .stuck => .stuck
    | .exc e fs a1 => .exc e fs a1
    | .ok b a1 => if b = true then (match body a1 with
      | .ok .nx a2 => whileN c body n a2
      | .ok .ct a2 => whileN c body n a2
      | .ok .bk a2 => .ok .nx a2
      | o => o) else .ok .nx a1
def whileM (n : AS → Nat) (c : M Bool) (body : M Fl) : M Fl := fun a => whileN c body (n a) a
theorem ps_whileX {c : Expr} {body : List Stmt} {mc : M Bool} {m : M Fl} {pos : Pos} (n : AS → Nat) (hp : PassesOwn (model X.prog X.w) X.A X.env X.xe) (hc : PT X c (tT X.K T W mc)) (hb : PSs X body (tS X.K T W m)) : PS X (.While c body [] pos) (tS X.K T W (whileM n mc m)) := by
  refine PS.imp (ps_while hp hc hb) fun De σ H h => ?_
  obtain ⟨E, G, ρ, a, r, p⟩ := h
  unfold whileM at p
  refine ⟨fun n σ' H' => ∃ E G' ρ' a', AR X.K T E G' ρ' a' σ' H' ∧ PostS X.K T W E G' ρ' (whileN mc m n a') De, ⟨n a, E, G, ρ, a, r, p⟩, ?_⟩
  rintro n σ' H' ⟨E', G', ρ', a', r', p'⟩
  cases n with
  | zero => exact p'.elim
  | succ n =>
    unfold whileN at p'
    refine ⟨E', G', ρ', a', r', ?_⟩
    cases e1 : mc a' with
    | stuck => rw [e1] at p'; exact p'
    | exc e fs a1 => rw [e1] at p'; exact fun G1 ρ1 H1 dd g1 l1 r1 q1 => p' G1 ρ1 σ' H1 dd g1 l1 r1 q1
    | ok b a1 =>
      rw [e1] at p'
      simp only at p'
      refine fun G1 ρ1 H1 v g1 l1 r1 q1 => ?_
      cases q1
      cases b with
      | false =>
        rw [if_neg Bool.false_ne_true] at p' ⊢
        exact p' G1 ρ1 σ' H1 g1 l1 r1
      | true =>
        rw [if_pos rfl] at p' ⊢
        refine ⟨fun σ2 H2 => ∃ E G' ρ' a', AR X.K T E G' ρ' a' σ2 H2 ∧ PostS X.K T W E G' ρ' (whileN mc m n a') De, fun σ2 H2 h => ⟨n, Nat.lt_succ_self _, h⟩, E', G1, ρ1, a1, r1, ?_⟩
        cases e3 : m a1 with
        | stuck => rw [e3] at p'; exact p'
        | exc c fs a3 => rw [e3] at p'; exact fun G3 ρ3 σ4 H3 dd g3 l3 r4 q4 => p' G3 ρ3 σ4 H3 dd (g1.trans g3) (l1.trans l3) r4 q4
        | ok f a3 =>
          rw [e3] at p'
          cases f with
          | nx => exact fun G3 ρ3 σ4 H3 g3 l3 r4 => ⟨E', G3, ρ3, a3, r4, PostS.ext (o := whileN mc m n a3) p' (g1.trans g3) (l1.trans l3)⟩
          | ct => exact fun G3 ρ3 σ4 H3 g3 l3 r4 => ⟨E', G3, ρ3, a3, r4, PostS.ext (o := whileN mc m n a3) p' (g1.trans g3) (l1.trans l3)⟩
          | bk => exact fun G3 ρ3 σ4 H3 g3 l3 r4 => p' G3 ρ3 σ4 H3 (g1.trans g3) (l1.trans l3) r4
          | ret d => exact fun G3 ρ3 σ4 H3 v g3 l3 r4 q4 => p' G3 ρ3 σ4 H3 v (g1.trans g3) (l1.trans l3) r4 q4
end
end PL

namespace PL
open PySem PySem.Spec PyProof.Rows L2

theorem wipe_in {σ : L2.St} {i : Nat} : ∀ {vs : List Nat}, i ∈ vs → i < σ.length → (wipe σ vs)[i]? = some none
  | v :: vs, h, hl => by
    unfold wipe
    by_cases e : v = i
    · subst e
      rw [List.getElem?_set_self (by rw [wipe_length]; exact hl)]
    · rw [List.getElem?_set_ne e]
      rcases List.mem_cons.mp h with z | z
      · exact absurd z.symm e
      · exact wipe_in z hl
theorem wipe_agree {σ σ' : L2.St} {vs : List Nat} (hl : σ'.length = σ.length) (h : ∀ j, j ∉ vs → σ'[j]? = σ[j]?) : wipe σ' vs = wipe σ vs := by
  apply List.ext_getElem?
  intro j
  by_cases hj : j ∈ vs
  · by_cases hl2 : j < σ.length
    · rw [wipe_in hj hl2, wipe_in hj (by rw [hl]; exact hl2)]
    · rw [List.getElem?_eq_none (by rw [wipe_length, hl]; omega), List.getElem?_eq_none (by rw [wipe_length]; omega)]
  · rw [wipe_out hj, wipe_out hj, h j hj]
def hide1 : Slot → Slot
  | .val d => .val d
  | _ => .emp
def hideL (vs : List Nat) (sl : List Slot) : List Slot := sl.mapIdx fun i s => if vs.contains i = true then .emp else hide1 s
theorem hide_get {vs : List Nat} {sl : List Slot} {i : Nat} {s : Slot} (h : (hideL vs sl)[i]? = some s) : s = .emp ∨ ∃ d, s = .val d ∧ sl[i]? = some (.val d) ∧ i ∉ vs := by
  unfold hideL at h
  rw [List.getElem?_mapIdx] at h
  cases e : sl[i]? with
  | none => rw [e] at h; cases h
  | some t =>
    rw [e] at h
    simp only [Option.map_some] at h
    have h := Option.some.inj h
    split at h
    · exact .inl h.symm
    · rename_i hn
      cases t with
      | val d => exact .inr ⟨d, h.symm, rfl, fun z => hn (by simpa using z)⟩
      | _ => exact .inl h.symm

section
variable {K : PySem.W.Frag} {T : Tab} {E : En} {G G' G2 : Hp} {ρ ρ' ρ2 : List Addr} {a : AS} {σ : L2.St} {H H' H2 : Hp} {st' st2 : List Cell}
theorem Aft.trans (x : Aft K T G ρ H G' ρ' H' st') (y : Aft K T G' ρ' H' G2 ρ2 H2 st2) : Aft K T G ρ H G2 ρ2 H2 st2 := by
  refine ⟨x.g.trans y.g, x.l.trans y.l, y.s, fun b o e h => ?_, fun b o e => ?_, fun b hb => ?_⟩
  · have k := nt_of (x.fr b o e h) (nt_some e).2
    refine y.fr b o k fun z => ?_
    rcases x.rnew b z with q | q
    · exact h q
    · rw [q] at e; cases e
  · rcases y.gnew b o e with q | q
    · exact x.gnew b o q
    · cases hb : nt H b with
      | none => exact .inr rfl
      | some u =>
        by_cases hr : b ∈ ρ
        · -- a cell: it is a cell still, so H' has it
          obtain ⟨i, hi⟩ := List.getElem?_of_mem hr
          have hi2 := pre_get x.l hi
          have hl : i < st'.length := by rw [x.s.clen]; exact (List.getElem?_eq_some_iff.mp hi2).1
          have c := x.s.cl i b _ hi2 (List.getElem?_eq_getElem hl)
          cases e2 : st'[i] with
          | lst ds =>
            rw [e2] at c
            obtain ⟨vs, z, _⟩ := c
            rw [nt_of z (fun _ z => nomatch z)] at q; cases q
          | obj k fs =>
            rw [e2] at c
            obtain ⟨dx, vs, z, _⟩ := c
            rw [nt_of z (fun _ z => nomatch z)] at q; cases q
        · have := nt_of (x.fr b u hb hr) (nt_some hb).2
          rw [this] at q; cases q
  · rcases y.rnew b hb with q | q
    · exact x.rnew b q
    · cases hb : nt H b with
      | none => exact .inr rfl
      | some u =>
        by_cases hr : b ∈ ρ
        · exact .inl hr
        · have := nt_of (x.fr b u hb hr) (nt_some hb).2
          rw [this] at q; cases q
theorem AR.aft0 (r : AR K T E G ρ a σ H) : Aft K T G ρ H G ρ H a.st := ⟨Ge.rfl', List.prefix_refl _, r.st, fun b o e _ => (nt_some e).1, fun b o e => .inl e, fun b hb => .inl hb⟩
theorem Aft.junk (x : Aft K T G ρ H G' ρ' H' st') {D : Addr} {o : HO} (h0 : H D = none) (hG : G' D = none) (hr : D ∉ ρ') (hx : H' D = none ∨ ∃ vs, H' D = some (.lst vs)) : Aft K T G ρ H G' ρ' (upd H' D o) st' := by
  have htb : TbsOk T G' (upd H' D o) := by
    rcases hx with hx | ⟨vs, hx⟩
    · exact x.s.tb.ext fun b u e => by rw [upd_ne (ne_of_none e hx)]; exact e
    · exact x.s.tb.upd hx (fun _ z => nomatch z) (fun _ z => nomatch z)
  refine ⟨x.g, x.l, ⟨fun b u e => ?_, x.s.clen, fun i b c e1 e2 => ?_, x.s.cnd, x.s.cG, htb⟩, fun b u e h => ?_, x.gnew, x.rnew⟩
  · rw [upd_ne (ne_of_none e hG)]; exact x.s.sub b u e
  · refine (x.s.cl i b c e1 e2).ge Ge.rfl' (List.prefix_refl _) fun o e => ?_
    have nb : b ≠ D := fun z => hr (z ▸ List.mem_of_getElem? e1)
    rw [upd_ne nb]; exact e
  · rw [upd_ne (ne_of_none (nt_some e).1 h0)]; exact x.fr b u e h
theorem AR.blk (r : AR K T E G ρ a σ H) (x : Aft K T G ρ H G' ρ' H' st') (vs : List Nat) : AR K T ⟨nt H', G', ρ', none⟩ G' ρ' ⟨hideL vs a.sl, st'⟩ (wipe σ vs) H' := by
  refine ⟨x.s.sub, by rw [wipe_length]; simp [hideL, r.len], fun i s v e1 e2 => ?_, fun i j b ds es _ e1 _ _ _ => ?_, x.s.clen, x.s.cl, x.s.cnd, x.s.cG, fun b o e _ _ => (nt_some e).1, fun b o e => .inl e, fun b o e => e, List.prefix_refl _, fun b hb => .inl hb, fun b e => (nomatch e), fun b ps => nt_tbl, x.s.tb⟩
  · rcases hide_get e1 with z | ⟨d, z, h1, h2⟩
    · subst z; trivial
    · subst z
      rw [wipe_out h2] at e2
      obtain ⟨u, e3, q⟩ := r.sl i _ v h1 e2
      exact ⟨u, e3, Rep.ge x.g x.l _ _ q⟩
  · rcases hide_get e1 with z | ⟨d, z, _⟩ <;> cases z
end

def lcL (t : TgM) (test : M Bool) (elt : M D) (sl : List Slot) : List D → List Cell → List D → Out (List D)
  | [], st, acc => .ok acc ⟨[], st⟩
  | d :: ds, st, acc => match t d ⟨sl, st⟩ with
    | none => .stuck
    | some b1 => match test b1 with
      | .ok true b2 => match elt b2 with
        | .ok y b3 => if acc.length < 100000 then lcL t test elt sl ds b3.st (acc ++ [y]) else .stuck
        | _ => .stuck
      | .ok false b2 => lcL t test elt sl ds b2.st acc
      | _ => .stuck
def lcM (vs : List Nat) (mi : M (List D)) (t : TgM) (test : M Bool) (elt : M D) : M (List D) := bd mi fun ds => fun a => match lcL t test elt (hideL vs a.sl) ds a.st [] with
  | .ok acc b => .ok acc { a with st := b.st }
  | _ => .stuck
def yesM : M Bool := ret true
section
variable {X : Cx} {T : Tab} {W : WX}
abbrev WN : WX := fun _ _ _ _ => False
theorem pts_nilX {X : Cx} : PTs X [] (tT X.K T W yesM) := ⟨fun pins s σ H Q I ⟨E, G, ρ, a, r, p⟩ => pts_nil.run pins s σ H Q I (Post.here p r rfl)⟩
theorem lc_read {wi : TI} {g : TG} {t : TgM} {js vs : List Nat} {mi : M (List D)} {test : M Bool} {elt : M D} (q : TgR X.K T g t js) (hj : ∀ j ∈ js, j ∈ vs) {σ : L2.St} {H : Hp} {Q : VK} (h : tF X.K T W (lcM vs mi t test elt) σ H Q) :
    tLc (tI X.K T W mi) g (tT X.K T WN test) (tE X.K T WN elt) vs σ H Q := by
  obtain ⟨E, G, ρ, a, r, p⟩ := h
  refine ⟨E, G, ρ, a, r, ?_⟩
  unfold lcM bd at p
  cases e1 : mi a with
  | stuck => rw [e1] at p; exact p
  | exc c fs a1 => rw [e1] at p; exact p
  | ok ds a1 =>
    rw [e1] at p
    simp only [bind_ok] at p
    refine fun G1 ρ1 H1 J g1 l1 r1 Y => fun L hL => ?_
    replace p := PostF.ext (o := match lcL t test elt (hideL vs a1.sl) ds a1.st [] with
      | .ok acc b => .ok acc { a1 with st := b.st }
      | _ => .stuck) p g1 l1
    obtain ⟨f1, f2, f3⟩ := r1.fresh hL
    refine ⟨fun i m H' => m = ds.length - i ∧ i ≤ ds.length ∧ ∃ acc accV G' ρ' st', Aft X.K T G1 ρ1 H1 G' ρ' H' st' ∧ G' L = none ∧ L ∉ ρ' ∧ H' L = some (.lst accV) ∧ RepL X.K T G' ρ' acc accV ∧
      PostF X.K T W E σ G1 ρ1 (match lcL t test elt (hideL vs a1.sl) (ds.drop i) st' acc with
        | .ok acc b => .ok acc { a1 with st := b.st }
        | _ => .stuck) Q, ⟨ds.length, by simp, Nat.zero_le _, [], [], G1, ρ1, a1.st, r1.aft0.junk hL f2 f3 (.inl hL), f2, f3, upd_same, RepL.nil, p⟩, ?_⟩
    rintro i m H' ⟨rfl, hi, acc, accV, G', ρ', st', af, hG, hr, hD, rl, pp⟩
    have rb := r1.blk af vs
    obtain ⟨y1, y2⟩ := Y G' ρ' af.g af.l _ _ _ H' rb
    by_cases hlt : i < ds.length
    · have hd : ds[i]? = some ds[i] := List.getElem?_eq_getElem hlt
      obtain ⟨z1, z2⟩ := y1 i _ hd
      rw [List.drop_eq_getElem_cons hlt] at pp
      unfold lcL at pp
      refine .inr ⟨z1, fun H' => ∃ acc accV G' ρ' st', Aft X.K T G1 ρ1 H1 G' ρ' H' st' ∧ G' L = none ∧ L ∉ ρ' ∧ H' L = some (.lst accV) ∧ RepL X.K T G' ρ' acc accV ∧
        PostF X.K T W E σ G1 ρ1 (match lcL t test elt (hideL vs a1.sl) (ds.drop (i + 1)) st' acc with
          | .ok acc b => .ok acc { a1 with st := b.st }
          | _ => .stuck) Q, fun H' h => ⟨ds.length - (i + 1), by omega, rfl, hlt, h⟩, fun x H2 hy => ?_⟩
      obtain ⟨G2, g2, r2, rx⟩ := z2 x H2 hy
      cases e2 : t ds[i] ⟨hideL vs a1.sl, st'⟩ with
      | none => rw [e2] at pp; exact pp.elim
      | some b1 =>
        rw [e2] at pp
        simp only at pp
        refine q ds[i] _ b1 e2 _ G2 ρ' (wipe σ vs) H2 x _ r2 rx fun σ3 off r3 => ⟨?_, ?_⟩
        · have h1 : wipe σ3 vs = wipe (wipe σ vs) vs := wipe_agree off.len fun j hj' => off.at_ j fun z => hj' (hj j z)
          rw [h1]
          exact wipe_agree (wipe_length _ _) fun j hj' => wipe_out hj'
        -- the new state behind the element
        have fin : ∀ {G4 : Hp} {ρ4 : List Addr} {b : AS} {H4 : Hp}, AR X.K T ⟨nt H', G', ρ', none⟩ G4 ρ4 b σ3 H4 → Aft X.K T G1 ρ1 H1 G4 ρ4 H4 b.st ∧ G4 L = none ∧ L ∉ ρ4 ∧ H4 L = some (.lst accV) ∧ RepL X.K T G4 ρ4 acc accV := fun {G4 ρ4 b H4} r4 => by
          have af4 : Aft X.K T G' ρ' H' G4 ρ4 H4 b.st := r4.aft rfl rfl
          have hN : nt H' L = some (.lst accV) := nt_of hD (fun _ z => nomatch z)
          refine ⟨af.trans af4, ?_, ?_, af4.fr L _ hN hr, RepL.ge af4.g af4.l _ _ rl⟩
          · cases z : G4 L with
            | none => rfl
            | some o =>
              rcases af4.gnew L o z with y | y
              · rw [hG] at y; cases y
              · rw [hN] at y; cases y
          · intro z
            rcases af4.rnew L z with y | y
            · exact hr y
            · rw [hN] at y; cases y
        refine ⟨_, G2, ρ', b1, r3, ?_⟩
        cases e3 : test b1 with
        | stuck => rw [e3] at pp; exact pp.elim
        | exc c fs b2 => rw [e3] at pp; exact pp.elim
        | ok k b2 =>
          rw [e3] at pp
          refine fun G3 ρ3 H3 v g3 l3 r4 q4 => ?_
          cases q4
          cases k with
          | false =>
            obtain ⟨f1, f2, f3, f4, f5⟩ := fin r4
            exact iteF ⟨acc, accV, G3, ρ3, b2.st, f1, f2, f3, f4, f5, pp⟩
          | true =>
            refine iteT ⟨_, G3, ρ3, b2, r4, ?_⟩
            simp only at pp
            cases e4 : elt b2 with
            | stuck => rw [e4] at pp; exact pp.elim
            | exc c fs b2 => rw [e4] at pp; exact pp.elim
            | ok y b3 =>
              rw [e4] at pp
              simp only at pp
              refine fun G4 ρ4 H4 v g4 l4 r5 q5 => ?_
              obtain ⟨f1, f2, f3, f4, f5⟩ := fin r5
              by_cases hz : acc.length < 100000
              · rw [if_pos hz] at pp
                have hz' : accV.length = acc.length := f5.len
                exact ⟨accV, f4, by rw [hz', sizeLine_eq]; omega, acc ++ [y], accV ++ [v], G4, ρ4, b3.st, f1.junk hL f2 f3 (.inr ⟨_, f4⟩), f2, f3, upd_same, f5.app (RepL.cons q5 RepL.nil), pp⟩
              · rw [if_neg hz] at pp
                exact pp.elim
    · have e : i = ds.length := by omega
      subst e
      rw [List.drop_length] at pp
      unfold lcL at pp
      refine .inl ⟨y2, ?_⟩
      simp only at pp
      have r5 := r1.after af
      refine pp G' ρ' H' L accV af.g af.l r5 ⟨hG, hr, f1, fun j es e3 e4 => ?_⟩ hD rl
      obtain ⟨b, ws, e5, hb, _⟩ := r1.sl j _ _ e3 e4
      cases e5
      rw [hb] at hL
      cases hL
theorem pf_lc {elt tg iter : Expr} {ifs : List Expr} {scope : Scope} {own : List (Str × Nat)} {pos : Pos} {mi : M (List D)} {g : TG} {t : TgM} {js : List Nat} {test : M Bool} {me : M D} (hc : X.calm = true) (hN : X.N.Nodup) (hi : PI X tg iter (tI X.K T W mi)) (ok : BlkOk X.N X.env.scope scope own)
    (hg : ∀ (s : Shared) (H : Hp) (C : Addr) (cl : List (Str × Addr)) (fp : List Addr), PG (X.blk s H scope (compEnvC scope cl C X.env) fp) tg g) (q : TgR X.K T g t js)
    (ht : ∀ (s : Shared) (H : Hp) (C : Addr) (cl : List (Str × Addr)) (fp : List Addr), PTs (X.blk s H scope (compEnvC scope cl C X.env) fp) ifs (tT X.K T WN test))
    (he : ∀ (s : Shared) (H : Hp) (C : Addr) (cl : List (Str × Addr)) (fp : List Addr), PE (X.blk s H scope (compEnvC scope cl C X.env) fp) elt (tE X.K T WN me)) (hj : ∀ j ∈ js, j ∈ own.map (·.2) := by decide) (hs : ∀ x, foldedSetIterable iter X.env x = pure x := by intro _; rfl) :
    PE X (.ListComp elt [⟨tg, iter, ifs, 0⟩] scope pos) (tF X.K T W (lcM (own.map (·.2)) mi t test me)) :=
  PE.imp (pe_lc hc hN hi ok hg ht he hs) fun σ H Q h => lc_read (wi := tI X.K T W mi) q hj h
theorem ps_ownLc {i : Nat} {y : Str} {py : Pos} {elt tg iter : Expr} {ifs : List Expr} {scope : Scope} {own : List (Str × Nat)} {pos spos : Pos} {mi : M (List D)} {g : TG} {t : TgM} {js : List Nat} {test : M Bool} {me : M D} (hc : X.calm = true) (hN : X.N.Nodup) (hy : X.N[i]? = some y) (hyl : X.env.scope.names.lookup y = some .local)
    (hsw : swapsWith (.ListComp elt [⟨tg, iter, ifs, 0⟩] scope pos) (some (.Name y py)) spos.line X.env = pure true) (hi : PI X tg iter (tI X.K T W mi)) (ok : BlkOk X.N X.env.scope scope own)
    (hg : ∀ (s : Shared) (H : Hp) (C : Addr) (cl : List (Str × Addr)) (fp : List Addr), PG (X.blk s H scope (compEnvC scope cl C X.env) fp) tg g) (q : TgR X.K T g t js)
    (ht : ∀ (s : Shared) (H : Hp) (C : Addr) (cl : List (Str × Addr)) (fp : List Addr), PTs (X.blk s H scope (compEnvC scope cl C X.env) fp) ifs (tT X.K T WN test))
    (he : ∀ (s : Shared) (H : Hp) (C : Addr) (cl : List (Str × Addr)) (fp : List Addr), PE (X.blk s H scope (compEnvC scope cl C X.env) fp) elt (tE X.K T WN me)) (hj : ∀ j ∈ js, j ∈ own.map (·.2) := by decide) (hs : ∀ x, foldedSetIterable iter X.env x = pure x := by intro _; rfl) :
    PS X (.Assign [.Name y py] (.ListComp elt [⟨tg, iter, ifs, 0⟩] scope pos) spos) (tS X.K T W (ownM i (lcM (own.map (·.2)) mi t test me))) := by
  refine PS.imp (ps_setLc hc hN hy hyl hsw hi ok hg ht he hs) fun De σ H h => ?_
  refine lc_read (W := W) (wi := tI X.K T W mi) q hj ?_
  exact tS.bindF h fun E ds a1 G1 ρ1 H1 p vs r1 f hp q1 p1 => p1 G1 ρ1 _ H1 Ge.rfl' (List.prefix_refl _) (r1.setO i f hp q1)
theorem ps_setLcX {i : Nat} {y : Str} {py : Pos} {elt tg iter : Expr} {ifs : List Expr} {scope : Scope} {own : List (Str × Nat)} {pos spos : Pos} {mi : M (List D)} {g : TG} {t : TgM} {js : List Nat} {test : M Bool} {me : M D} (hc : X.calm = true) (hN : X.N.Nodup) (hy : X.N[i]? = some y) (hyl : X.env.scope.names.lookup y = some .local)
    (hsw : swapsWith (.ListComp elt [⟨tg, iter, ifs, 0⟩] scope pos) (some (.Name y py)) spos.line X.env = pure true) (hi : PI X tg iter (tI X.K T W mi)) (ok : BlkOk X.N X.env.scope scope own)
    (hg : ∀ (s : Shared) (H : Hp) (C : Addr) (cl : List (Str × Addr)) (fp : List Addr), PG (X.blk s H scope (compEnvC scope cl C X.env) fp) tg g) (q : TgR X.K T g t js)
    (ht : ∀ (s : Shared) (H : Hp) (C : Addr) (cl : List (Str × Addr)) (fp : List Addr), PTs (X.blk s H scope (compEnvC scope cl C X.env) fp) ifs (tT X.K T WN test))
    (he : ∀ (s : Shared) (H : Hp) (C : Addr) (cl : List (Str × Addr)) (fp : List Addr), PE (X.blk s H scope (compEnvC scope cl C X.env) fp) elt (tE X.K T WN me)) (hj : ∀ j ∈ js, j ∈ own.map (·.2) := by decide) (hs : ∀ x, foldedSetIterable iter X.env x = pure x := by intro _; rfl) :
    PS X (.Assign [.Name y py] (.ListComp elt [⟨tg, iter, ifs, 0⟩] scope pos) spos) (tS X.K T W (setM i (bd (lcM (own.map (·.2)) mi t test me) fun ds => ret (.lst ds)))) := by
  refine PS.imp (ps_setLc hc hN hy hyl hsw hi ok hg ht he hs) fun De σ H h => ?_
  refine lc_read (W := W) (wi := tI X.K T W mi) q hj ?_
  obtain ⟨E, G, ρ, a, r, p⟩ := h
  refine ⟨E, G, ρ, a, r, ?_⟩
  unfold setM bd at p
  cases e1 : lcM (own.map (·.2)) mi t test me a with
  | stuck => rw [e1] at p; exact p
  | exc c fs a1 => rw [e1] at p; exact fun G1 ρ1 H1 dd g1 l1 r1 q1 => p G1 ρ1 σ H1 dd g1 l1 r1 q1
  | ok ds a1 =>
    rw [e1] at p
    refine fun G1 ρ1 H1 b vs g1 l r1 f hb rl => ?_
    obtain ⟨g2, r2⟩ := r1.hold f hb (r1.own_sf f.2.2.1)
    refine p _ ρ1 _ H1 (g1.trans g2) l (r2.setV (d := .lst ds) i ?_)
    unfold Rep
    exact ⟨b, vs, rfl, .inl (.inl upd_same), RepL.ge g2 (List.prefix_refl _) _ _ rl⟩

def ownAt (i : Nat) (a : AS) : Option (List D) := match a.sl.getD i .emp with
  | .own ds => some ds
  | _ => none
theorem ownAt_some {i : Nat} {a : AS} {ds : List D} (h : ownAt i a = some ds) : a.sl[i]? = some (.own ds) := by
  unfold ownAt at h
  split at h
  · rename_i e
    cases h
    exact getD_some e (fun z => nomatch z)
  · cases h
def methO (i : Nat) (f : List Cell → List D → List D → Option (List D)) (ms : M (List D)) : M D := fun a => match ownAt i a with
  | none => .stuck
  | some _ => (ms a).bind fun xs a1 => match ownAt i a1 with
    | none => .stuck
    | some ds => match f a1.st ds xs with
      | none => .stuck
      | some es => .ok .non { a1 with sl := a1.sl.set i (.own es) }
def methC (i : Nat) (f : List Cell → List D → List D → Option (List D)) (ms : M (List D)) : M D := fun a => match a.sl.getD i .emp with
  | .val (.cell k) => match a.st[k]? with
    | some (.lst _) => (ms a).bind fun xs a1 => match a1.st[k]? with
      | some (.lst ds) => match f a1.st ds xs with
        | none => .stuck
        | some es => .ok .non { a1 with st := a1.st.set k (.lst es) }
      | _ => .stuck
    | _ => .stuck
  | _ => .stuck
structure MetR (X : Cx) (T : Tab) (id : String) (f : List Cell → List D → List D → Option (List D)) : Prop where
  ex : ∃ r : V → List V → Hp → VK → Prop, MtR X id r ∧ ∀ (st : List Cell) (ds xs es : List D), f st ds xs = some es → ∀ (E : En) (G : Hp) (ρ : List Addr) (a : AS) (σ : L2.St) (H : Hp) (b : Addr) (us vs : List V) (Q : VK), a.st = st → AR X.K T E G ρ a σ H → H b = some (.lst us) →
    RepL X.K T G ρ ds us → RepL X.K T G ρ xs vs → (∀ ws, RepL X.K T G ρ es ws → Q .non (upd H b (.lst ws))) → r (.ref b) vs H Q
theorem px_methO {id : String} {name : Str} {f : List Cell → List D → List D → Option (List D)} {x : Str} {e : Expr} {es : List Expr} {ms : M (List D)} {p0 apos cpos : Pos} (i : Nat) (slot : PySem.Slot "list" name id) (hty : typeOf (.builtin id) = pure (.type "method_descriptor")) (c : MetR X T id f) (ha : PA X (e :: es) (tA X.K T W ms))
    (hN : X.N[i]? = some x := by rfl) (hv : Vis X.env.scope x := by first | exact Or.inl rfl | exact Or.inr (Or.inl rfl) | exact Or.inr (Or.inr rfl)) (hd : (x == ("__debug__" : Str)) = false := by decide) (hcd : (x == ("__classdict__" : Str)) = false := by decide)
    (hbase : attributeBase (.Name x p0) name X.env (eval (.Name x p0) X.env) = eval (.Name x p0) X.env := by rfl)
    (hfew : ((backTo cpos (starEach (e :: es) X.env)).all (fun x => !x.1) && (backToKw cpos (keywordEach [] X.env)).all (fun x => x.1.isSome)
      && decide ((e :: es).length + ([] : List Keyword).length + (if ([] : List Keyword).isEmpty then 0 else 1) < 30)) = true := by rfl)
    (hline : (apos.endLine == cpos.line) = true := by rfl) (hs : starEach (e :: es) X.env = (false, eval e X.env) :: starEach es X.env := by rfl) (hplain : (backTo cpos (starEach es X.env)).any (·.1) = false := by rfl) :
    PE X (.Call (.Attribute (.Name x p0) name apos) (e :: es) [] cpos) (tE X.K T W (methO i f ms)) := by
  obtain ⟨r, hm, hr⟩ := c.ex
  refine PE.imp (pe_bm PySem.F.plainAttrs_list slot hty hm (pe_var hN hv hd hcd) ha hbase hfew hline hs hplain) fun σ H Q ⟨E, G, ρ, a, r0, p⟩ => ?_
  unfold methO at p
  cases e1 : ownAt i a with
  | none => rw [e1] at p; exact p.elim
  | some ds0 =>
    rw [e1] at p
    simp only at p
    have h0 := ownAt_some e1
    obtain ⟨v, hσ⟩ := r0.slen h0
    obtain ⟨b, us, e2, hb, rl, _⟩ := r0.sl i _ v h0 hσ
    subst e2
    refine ⟨.ref b, hσ, .inl ⟨rfl, us, SqL.of hb⟩, E, G, ρ, a, r0, Post.bind p fun xs a1 G1 ρ1 H1 vs g1 l1 r1 q1 p1 => ?_⟩
    cases e3 : ownAt i a1 with
    | none => rw [e3] at p1; exact p1.elim
    | some ds =>
      rw [e3] at p1
      simp only at p1
      have h1 := ownAt_some e3
      obtain ⟨b', us', e4, hb', rl', _⟩ := r1.sl i _ _ h1 hσ
      cases e4
      cases e5 : f a1.st ds xs with
      | none => rw [e5] at p1; exact p1.elim
      | some es =>
        rw [e5] at p1
        exact hr a1.st ds xs es e5 E G1 ρ1 a1 σ H1 b us' vs Q rfl r1 hb' rl' q1 fun ws rw' => p1 G1 ρ1 _ .non Ge.rfl' (List.prefix_refl _) (r1.updO h1 hσ rw') to_non
theorem px_methC {id : String} {name : Str} {f : List Cell → List D → List D → Option (List D)} {x : Str} {e : Expr} {es : List Expr} {ms : M (List D)} {p0 apos cpos : Pos} (i : Nat) (slot : PySem.Slot "list" name id) (hty : typeOf (.builtin id) = pure (.type "method_descriptor")) (c : MetR X T id f) (ha : PA X (e :: es) (tA X.K T W ms))
    (hN : X.N[i]? = some x := by rfl) (hv : Vis X.env.scope x := by first | exact Or.inl rfl | exact Or.inr (Or.inl rfl) | exact Or.inr (Or.inr rfl)) (hd : (x == ("__debug__" : Str)) = false := by decide) (hcd : (x == ("__classdict__" : Str)) = false := by decide)
    (hbase : attributeBase (.Name x p0) name X.env (eval (.Name x p0) X.env) = eval (.Name x p0) X.env := by rfl)
    (hfew : ((backTo cpos (starEach (e :: es) X.env)).all (fun x => !x.1) && (backToKw cpos (keywordEach [] X.env)).all (fun x => x.1.isSome)
      && decide ((e :: es).length + ([] : List Keyword).length + (if ([] : List Keyword).isEmpty then 0 else 1) < 30)) = true := by rfl)
    (hline : (apos.endLine == cpos.line) = true := by rfl) (hs : starEach (e :: es) X.env = (false, eval e X.env) :: starEach es X.env := by rfl) (hplain : (backTo cpos (starEach es X.env)).any (·.1) = false := by rfl) :
    PE X (.Call (.Attribute (.Name x p0) name apos) (e :: es) [] cpos) (tE X.K T W (methC i f ms)) := by
  obtain ⟨r, hm, hr⟩ := c.ex
  refine PE.imp (pe_bm PySem.F.plainAttrs_list slot hty hm (pe_var hN hv hd hcd) ha hbase hfew hline hs hplain) fun σ H Q ⟨E, G, ρ, a, r0, p⟩ => ?_
  unfold methC at p
  split at p
  · rename_i k e1
    obtain ⟨v, hσ, q⟩ := r0.val (getD_some e1 (fun z => nomatch z))
    unfold Rep at q
    obtain ⟨b, hρ, ev⟩ := q
    subst ev
    have hl : k < a.st.length := by rw [r0.clen]; exact (List.getElem?_eq_some_iff.mp hρ).1
    have z := r0.cl k b _ hρ (List.getElem?_eq_getElem hl)
    cases e2 : a.st[k]? with
    | none => rw [List.getElem?_eq_none_iff] at e2; omega
    | some c0 =>
    have e2' : a.st[k] = c0 := by rw [List.getElem?_eq_getElem hl] at e2; exact Option.some.inj e2
    rw [e2] at p
    cases c0 with
    | obj c fs => exact p.elim
    | lst ds0 =>
    simp only at p
    have hlist : ∃ us, H b = some (.lst us) := by
      rw [e2'] at z; obtain ⟨us, hb, _⟩ := z; exact ⟨us, hb⟩
    obtain ⟨us, hb⟩ := hlist
    refine ⟨.ref b, hσ, .inl ⟨rfl, us, SqL.of hb⟩, E, G, ρ, a, r0, Post.bind p fun xs a1 G1 ρ1 H1 vs g1 l1 r1 q1 p1 => ?_⟩
    have hρ1 := pre_get l1 hρ
    cases e3 : a1.st[k]? with
    | none => rw [e3] at p1; exact p1.elim
    | some c =>
      cases c with
      | obj k fs => rw [e3] at p1; exact p1.elim
      | lst ds =>
        rw [e3] at p1
        simp only at p1
        obtain ⟨us', hb', rl'⟩ := r1.cl k b _ hρ1 e3
        cases e5 : f a1.st ds xs with
        | none => rw [e5] at p1; exact p1.elim
        | some es =>
          rw [e5] at p1
          exact hr a1.st ds xs es e5 E G1 ρ1 a1 σ H1 b us' vs Q rfl r1 hb' rl' q1 fun ws rw' => p1 G1 ρ1 _ .non Ge.rfl' (List.prefix_refl _) (r1.updC e3 hρ1 rw') to_non
  · exact p.elim
def appF (_ : List Cell) (ds : List D) : List D → Option (List D)
  | [x] => if ds.length < 100000 then some (ds ++ [x]) else none
  | _ => none
theorem me_append : MetR X T "list.append" appF := ⟨_, mt_append, fun st ds xs es e E G ρ a σ H b us vs Q hst r hb rl q k => by
  unfold appF at e
  split at e
  · split at e
    · rename_i hz
      cases e
      obtain ⟨v, ev, q1⟩ := q.one
      exact ⟨b, us, v, rfl, ev, hb, by rw [rl.len, sizeLine_eq]; omega, k _ (rl.app (RepL.cons q1 RepL.nil))⟩
    · cases e
  · cases e⟩
theorem list_extend_any (l : Addr) (items : Array Value) (n : Nat) (b : Addr) (items2 : Array Value) (n2 : Nat) (sl2 : Array (Option Value)) (hc0 : ¬(!items.isEmpty && Builtin.List.listTooLong (items.size + items2.size)) = true) (hc1 : items.size ≤ sizeLine) (hs2 : items.size + items2.size ≤ sizeLine + 1) :
    Meets (Builtin.«list.extend» ⟨[.ref l, .ref b], []⟩) (fun _ R s => s.heap.get? l = some { cls := .type "list", dict := none, data := .seq items n, slots := #[] } ∧ s.heap.get? b = some { cls := .type "list", dict := none, data := .seq items2 n2, slots := sl2 } ∧ R (.ok (.ret Value.none)) { s with heap := s.heap.update l (Obj.mapSeq fun x => x ++ items2), toks := s.toks }) :=
  .of_wp fun prog w A R s h => by
    obtain ⟨hp, g, d, tk, os⟩ := s; obtain ⟨hl, hb, h⟩ := h; have f1 := AutoSeq1.idx_int; have f2 := AutoSeq1.sub_tuple_tuple; have f3 := AutoSeq1.sub_list_list; have f4 := AutoSeq1.sub_tuple_list; have f5 := AutoSeq1.sub_list_tuple;
    have hz' : (items ++ items2).size ≤ sizeLine + 1 := by rw [Array.size_append]; exact hs2
    wp_walk using (wpAny_updateSeq hl rfl (hz := hc1) (_hz' := hz')), AutoSeq1.wpAny_loadPart' hl, AutoSeq1.wpAny_loadPart' hb; exact ⟨_, rfl, h⟩
theorem mt_extendR : MtM X "list.extend" (fun x vs H Q => ∃ l b xs zs, x = .ref l ∧ vs = [.ref b] ∧ H l = some (.lst xs) ∧ SqL X.K H b zs ∧ xs.length + zs.length ≤ sizeLine ∧ Q .non (upd H l (.lst (xs ++ zs)))) := by
  intro pins s σ H x vs v us Q I rx rv h
  obtain ⟨l, b, xs, zs, rfl, rfl, hH, hB, hz, q⟩ := h
  cases rx
  obtain ⟨u, rfl, ru⟩ := rv.one
  cases ru
  obtain ⟨z, its, n, r, hl, e⟩ := I.lstM hH
  obtain ⟨its2, n2, sl2, r2, e2, z2⟩ := sq_at I hB
  have hl2 := r2.length
  have hsz : its.toArray.size + its2.toArray.size ≤ sizeLine := by rw [List.size_toArray, List.size_toArray]; omega
  have hlong : ¬ (!its.toArray.isEmpty && Builtin.List.listTooLong (its.toArray.size + its2.toArray.size)) = true := by
    rw [notLongL hsz, Bool.and_false]
    exact Bool.false_ne_true
  refine call_meets F.slot_list_extend ⟨_, e, rfl⟩ F.entry_list_extend (F.args_list_extend_2 _ _)
    (list_extend_any l its.toArray n b its2.toArray n2 sl2 hlong (by rw [List.size_toArray]; omega) (by omega)) ⟨e, e2, ?_⟩
  refine ⟨.non, _, I.lset (its' := its ++ its2) hH e (by simp) (r.append r2) ?_, rfl, q⟩
  rw [List.length_append]
  omega
def extF (st : List Cell) (ds : List D) : List D → Option (List D)
  | [x] => (lstOf st x).bind fun es => if ds.length + es.length ≤ 100000 then some (ds ++ es) else none
  | _ => none
theorem me_extend : MetR X T "list.extend" extF := ⟨_, mt_extendR, fun st ds xs es e E G ρ a σ H b us vs Q hst r hb rl q k => by
  subst hst
  unfold extF at e
  split at e
  · rename_i x
    cases e2 : lstOf a.st x with
    | none => rw [e2] at e; cases e
    | some fs =>
      rw [e2] at e
      simp only [Option.bind_some] at e
      split at e
      · rename_i hz
        cases e
        obtain ⟨v, ev, q1⟩ := q.one
        obtain ⟨c, ws, ec, hc, rc⟩ := r.lst e2 q1
        subst ec
        exact ⟨b, c, us, ws, rfl, ev, hb, hc, by rw [rl.len, rc.len, sizeLine_eq]; omega, k _ (rl.app rc)⟩
      · cases e
  · cases e⟩
def insF (_ : List Cell) (ds : List D) : List D → Option (List D)
  | [.int i, x] => if ds.length < 100000 ∧ 0 ≤ i ∧ i < 1000000 then some (ds.take i.toNat ++ [x] ++ ds.drop i.toNat) else none
  | _ => none
theorem me_insert : MetR X T "list.insert" insF := ⟨_, mt_insert, fun st ds xs es e E G ρ a σ H b us vs Q hst r hb rl q k => by
  unfold insF at e
  split at e
  · split at e
    · rename_i hz
      cases e
      obtain ⟨v, w, ev, q1, q2⟩ := q.two
      rw [rep_int q1] at ev
      exact ⟨b, us, _, w, rfl, ev, hb, by rw [rl.len, sizeLine_eq]; omega, hz.2.1, by omega, k _ (((rl.take _).app (RepL.cons q2 RepL.nil)).app (rl.drop _))⟩
    · cases e
  · cases e⟩

def subO (i : Nat) (mx m : M D) : M Fl := bd m fun d => fun a => match ownAt i a with
  | none => .stuck
  | some _ => (mx a).bind fun k a1 => match k with
    | .int k => match ownAt i a1 with
      | none => .stuck
      | some ds => match L2.ixN ds.length k with
        | none => .stuck
        | some j => .ok .nx { a1 with sl := a1.sl.set i (.own (ds.set j d)) }
    | _ => .stuck
theorem ps_subO {x : Str} {ix e : Expr} {mx m : M D} {p0 p1 pos : Pos} (i : Nat) (h : PE X e (tE X.K T W m)) (hx : PE X ix (tE X.K T W mx))
    (hN : X.N[i]? = some x := by rfl) (hv : Vis X.env.scope x := by first | exact Or.inl rfl | exact Or.inr (Or.inl rfl) | exact Or.inr (Or.inr rfl)) (hd : (x == ("__debug__" : Str)) = false := by decide) (hcd : (x == ("__classdict__" : Str)) = false := by decide)
    (ha : ∀ v, assign (.Subscript (.Name x p0) ix p1) X.env v = (do
      let ov ← holding [v] (eval (.Name x p0) X.env)
      let iv ← holding [v, ov] (eval ix X.env)
      standAt p1
      holding [v, ov, iv] (setItem ov iv v)
      release [v, ov, iv] []) := by intro _; rfl)
    (hs : swapsWithSole [.Subscript (.Name x p0) ix p1] e pos.line X.env = pure false := by rfl) (hw : swappedStores [.Subscript (.Name x p0) ix p1] e X.env = pure none := by rfl)
    (h1 : (assignEach [.Subscript (.Name x p0) ix p1] X.env).map (·.2) = [assign (.Subscript (.Name x p0) ix p1) X.env] := by rfl) :
    PS X (.Assign [.Subscript (.Name x p0) ix p1] e pos) (tS X.K T W (subO i mx m)) := by
  refine PS.imp (ps_asg h (pg_sub (pe_var hN hv hd hcd) hx set_list ha) hs hw h1) fun De σ H h => ?_
  refine tS.bind h fun E d a0 G0 ρ0 H0 v r0 q0 p => ?_
  cases e1 : ownAt i a0 with
  | none => rw [e1] at p; exact p.elim
  | some ds0 =>
    rw [e1] at p
    simp only at p
    have h0 := ownAt_some e1
    obtain ⟨v0, hσ⟩ := r0.slen h0
    obtain ⟨b, us, e2, hb, rl, _⟩ := r0.sl i _ v0 h0 hσ
    subst e2
    refine ⟨.ref b, hσ, E, G0, ρ0, a0, r0, PostS.bind p fun k a1 G1 ρ1 H1 w g1 l1 r1 q1 p1 => ?_⟩
    cases k with
    | int k =>
      simp only at p1
      cases e3 : ownAt i a1 with
      | none => rw [e3] at p1; exact p1.elim
      | some ds =>
        rw [e3] at p1
        simp only at p1
        have h1 := ownAt_some e3
        obtain ⟨b', us', e4, hb', rl', _⟩ := r1.sl i _ _ h1 hσ
        cases e4
        cases e5 : L2.ixN ds.length k with
        | none => rw [e5] at p1; exact p1.elim
        | some j =>
          rw [e5] at p1
          exact ⟨b, us', k, j, rfl, rep_int q1, hb', by rw [rl'.len]; exact e5, p1 G1 ρ1 σ _ Ge.rfl' (List.prefix_refl _) (r1.updO h1 hσ (rl'.set j (Rep.ge g1 l1 _ _ q0)))⟩
    | _ => exact p1.elim
def subC (mo mx m : M D) : M Fl := bd m fun d => bd mo fun o => bd mx fun k => fun a => match o, k with
  | .cell n, .int k => match a.st[n]? with
    | some (.lst ds) => match L2.ixN ds.length k with
      | none => .stuck
      | some j => .ok .nx { a with st := a.st.set n (.lst (ds.set j d)) }
    | _ => .stuck
  | _, _ => .stuck
theorem ps_subC {o ix e : Expr} {mo mx m : M D} {p1 pos : Pos} (h : PE X e (tE X.K T W m)) (ho : PE X o (tE X.K T W mo)) (hx : PE X ix (tE X.K T W mx))
    (ha : ∀ v, assign (.Subscript o ix p1) X.env v = (do
      let ov ← holding [v] (eval o X.env)
      let iv ← holding [v, ov] (eval ix X.env)
      standAt p1
      holding [v, ov, iv] (setItem ov iv v)
      release [v, ov, iv] []) := by intro _; rfl)
    (hs : swapsWithSole [.Subscript o ix p1] e pos.line X.env = pure false := by rfl) (hw : swappedStores [.Subscript o ix p1] e X.env = pure none := by rfl)
    (h1 : (assignEach [.Subscript o ix p1] X.env).map (·.2) = [assign (.Subscript o ix p1) X.env] := by rfl) :
    PS X (.Assign [.Subscript o ix p1] e pos) (tS X.K T W (subC mo mx m)) := by
  refine PS.imp (ps_asg h (pg_sub ho hx set_list ha) hs hw h1) fun De σ H h => ?_
  refine tS.bind h fun E d a0 G0 ρ0 H0 v r0 q0 p => ?_
  refine ⟨E, G0, ρ0, a0, r0, PostS.bind p fun o a1 G1 ρ1 H1 w1 g1 l1 r1 q1 p1 => ?_⟩
  refine ⟨E, G1, ρ1, a1, r1, PostS.bind p1 fun k a2 G2 ρ2 H2 w2 g2 l2 r2 q2 p2 => ?_⟩
  split at p2
  · rename_i n k
    cases e3 : a2.st[n]? with
    | none => rw [e3] at p2; exact p2.elim
    | some c =>
      cases c with
      | obj k fs => rw [e3] at p2; exact p2.elim
      | lst ds =>
        rw [e3] at p2
        simp only at p2
        have q1' := Rep.ge g2 l2 _ _ q1
        unfold Rep at q1'
        obtain ⟨b, hρ, ev⟩ := q1'
        obtain ⟨us, hb, rl⟩ := r2.cl n b _ hρ e3
        cases e5 : L2.ixN ds.length k with
        | none => rw [e5] at p2; exact p2.elim
        | some j =>
          rw [e5] at p2
          exact ⟨b, us, k, j, ev, rep_int q2, hb, by rw [rl.len]; exact e5, p2 G2 ρ2 σ _ Ge.rfl' (List.prefix_refl _) (r2.updC e3 hρ (rl.set j (Rep.ge g2 l2 _ _ (Rep.ge g1 l1 _ _ q0))))⟩
  · exact p2.elim
end
end PL

namespace PL
open PySem PySem.Spec PyProof.Rows L2

mutual
def deq : D → D → Bool
  | .non, .non => true
  | .bl a, .bl b => a == b
  | .int a, .int b => a == b
  | .str a, .str b => a == b
  | .tup a, .tup b => deqL a b
  | .lst a, .lst b => deqL a b
  | .ins c a, .ins d b => c == d && deqL a b
  | .cell i, .cell j => i == j
  | .dic, .dic => true
  | .ty a, .ty b => a == b
  | .cls a, .cls b => a == b
  | .fn a, .fn b => a == b
  | .dct k a, .dct l b => k == l && deqL a b
  | .exo c a, .exo d b => c == d && deqL a b
  | _, _ => false
def deqL : List D → List D → Bool
  | [], [] => true
  | x :: xs, y :: ys => deq x y && deqL xs ys
  | _, _ => false
end
mutual
theorem deq_eq : ∀ x y : D, deq x y = true → x = y
  | .non, y, h => by cases y <;> first | rfl | (unfold deq at h; cases h)
  | .dic, y, h => by cases y <;> first | rfl | (unfold deq at h; cases h)
  | .bl a, y, h => by cases y <;> first | (unfold deq at h; rw [eq_of_beq h]) | (unfold deq at h; cases h)
  | .int a, y, h => by cases y <;> first | (unfold deq at h; rw [eq_of_beq h]) | (unfold deq at h; cases h)
  | .str a, y, h => by cases y <;> first | (unfold deq at h; rw [eq_of_beq h]) | (unfold deq at h; cases h)
  | .cell a, y, h => by cases y <;> first | (unfold deq at h; rw [eq_of_beq h]) | (unfold deq at h; cases h)
  | .ty a, y, h => by cases y <;> first | (unfold deq at h; rw [eq_of_beq h]) | (unfold deq at h; cases h)
  | .cls a, y, h => by cases y <;> first | (unfold deq at h; rw [eq_of_beq h]) | (unfold deq at h; cases h)
  | .fn a, y, h => by cases y <;> first | (unfold deq at h; rw [eq_of_beq h]) | (unfold deq at h; cases h)
  | .tup a, y, h => by cases y <;> first | (unfold deq at h; rw [deqL_eq a _ h]) | (unfold deq at h; cases h)
  | .lst a, y, h => by cases y <;> first | (unfold deq at h; rw [deqL_eq a _ h]) | (unfold deq at h; cases h)
  | .ins c a, y, h => by cases y <;> first | (unfold deq at h; rw [Bool.and_eq_true] at h; rw [eq_of_beq h.1, deqL_eq a _ h.2]) | (unfold deq at h; cases h)
  | .dct c a, y, h => by cases y <;> first | (unfold deq at h; rw [Bool.and_eq_true] at h; rw [eq_of_beq h.1, deqL_eq a _ h.2]) | (unfold deq at h; cases h)
  | .exo c a, y, h => by cases y <;> first | (unfold deq at h; rw [Bool.and_eq_true] at h; rw [eq_of_beq h.1, deqL_eq a _ h.2]) | (unfold deq at h; cases h)
theorem deqL_eq : ∀ x y : List D, deqL x y = true → x = y
  | [], y, h => by cases y with
    | nil => rfl
    | cons a b => unfold deqL at h; cases h
  | x :: xs, y, h => by cases y with
    | nil => unfold deqL at h; cases h
    | cons a b => unfold deqL at h; rw [Bool.and_eq_true] at h; rw [deq_eq x a h.1, deqL_eq xs b h.2]
end
mutual
theorem deq_self : ∀ x : D, deq x x = true
  | .non => rfl
  | .dic => rfl
  | .bl _ => by unfold deq; exact beq_self_eq_true _
  | .int _ => by unfold deq; exact beq_self_eq_true _
  | .str _ => by unfold deq; exact beq_self_eq_true _
  | .cell _ => by unfold deq; exact beq_self_eq_true _
  | .ty _ => by unfold deq; exact beq_self_eq_true _
  | .cls _ => by unfold deq; exact beq_self_eq_true _
  | .fn _ => by unfold deq; exact beq_self_eq_true _
  | .tup a => by unfold deq; exact deqL_self a
  | .lst a => by unfold deq; exact deqL_self a
  | .ins c a => by unfold deq; rw [deqL_self a, Bool.and_true]; exact beq_self_eq_true _
  | .dct c a => by unfold deq; rw [deqL_self a, Bool.and_true]; exact beq_self_eq_true _
  | .exo c a => by unfold deq; rw [deqL_self a, Bool.and_true]; exact beq_self_eq_true _
theorem deqL_self : ∀ x : List D, deqL x x = true
  | [] => rfl
  | x :: xs => by unfold deqL; rw [deq_self x, deqL_self xs]; rfl
end
def feq : List (Str × D) → List (Str × D) → Bool
  | [], [] => true
  | (f, x) :: xs, (g, y) :: ys => f == g && deq x y && feq xs ys
  | _, _ => false
theorem feq_eq : ∀ x y : List (Str × D), feq x y = true → x = y
  | [], y, h => by cases y with
    | nil => rfl
    | cons a b => unfold feq at h; cases h
  | (f, x) :: xs, y, h => by cases y with
    | nil => unfold feq at h; cases h
    | cons a b => obtain ⟨g, y⟩ := a; unfold feq at h; rw [Bool.and_eq_true, Bool.and_eq_true] at h; rw [eq_of_beq h.1.1, deq_eq x y h.1.2, feq_eq xs b h.2]
theorem feq_self : ∀ x : List (Str × D), feq x x = true
  | [] => rfl
  | (f, x) :: xs => by unfold feq; rw [deq_self x, feq_self xs, beq_self_eq_true]; rfl
def ceq : Cell → Cell → Bool
  | .lst a, .lst b => deqL a b
  | .obj c a, .obj d b => c == d && feq a b
  | _, _ => false
def ceqL : List Cell → List Cell → Bool
  | [], [] => true
  | x :: xs, y :: ys => ceq x y && ceqL xs ys
  | _, _ => false
theorem ceq_eq : ∀ x y : Cell, ceq x y = true → x = y
  | .lst a, y, h => by cases y with
    | lst b => unfold ceq at h; rw [deqL_eq a b h]
    | obj c b => unfold ceq at h; cases h
  | .obj c a, y, h => by cases y with
    | lst b => unfold ceq at h; cases h
    | obj d b => unfold ceq at h; rw [Bool.and_eq_true] at h; rw [eq_of_beq h.1, feq_eq a b h.2]
theorem ceq_self : ∀ x : Cell, ceq x x = true
  | .lst a => by unfold ceq; exact deqL_self a
  | .obj c a => by unfold ceq; dsimp only; rw [feq_self a, beq_self_eq_true]; rfl
theorem ceqL_eq : ∀ x y : List Cell, ceqL x y = true → x = y
  | [], y, h => by cases y with
    | nil => rfl
    | cons a b => unfold ceqL at h; cases h
  | x :: xs, y, h => by cases y with
    | nil => unfold ceqL at h; cases h
    | cons a b => unfold ceqL at h; rw [Bool.and_eq_true] at h; rw [ceq_eq x a h.1, ceqL_eq xs b h.2]
theorem ceqL_self : ∀ x : List Cell, ceqL x x = true
  | [] => rfl
  | x :: xs => by unfold ceqL; rw [ceq_self x, ceqL_self xs]; rfl

mutual
def D.bel (n : Nat) : D → Bool
  | .cell i => decide (i < n)
  | .tup ds => belL n ds
  | .lst ds => belL n ds
  | .ins _ ds => belL n ds
  | .dct _ ds => belL n ds
  | .exo _ ds => belL n ds
  | _ => true
def belL (n : Nat) : List D → Bool
  | [] => true
  | d :: ds => d.bel n && belL n ds
end
section
variable {K : PySem.W.Frag} {T : Tab} {G : Hp} {ρ ρ' : List Addr}
mutual
theorem Rep.less (p : ρ <+: ρ') : ∀ (d : D) (v : V), d.bel ρ.length = true → Rep K T G ρ' d v → Rep K T G ρ d v
  | .non, _, _, h => by unfold Rep at *; exact h
  | .bl _, _, _, h => by unfold Rep at *; exact h
  | .int _, _, _, h => by unfold Rep at *; exact h
  | .str _, _, _, h => by unfold Rep at *; exact h
  | .dic, _, _, h => by unfold Rep at *; exact h
  | .ty _, _, _, h => by unfold Rep at *; exact h
  | .cls _, _, _, h => by unfold Rep at *; exact h
  | .fn _, _, _, h => by unfold Rep at *; exact h
  | .dct ks ds, _, b, h => by
    unfold D.bel at b
    unfold Rep at *
    obtain ⟨a, vs, e, s, l, r⟩ := h
    exact ⟨a, vs, e, s, l, RepL.less p ds vs b r⟩
  | .exo c ds, _, b, h => by
    unfold D.bel at b
    unfold Rep at *
    obtain ⟨a, vs, e, s, l, r⟩ := h
    exact ⟨a, vs, e, s, l, RepL.less p ds vs b r⟩
  | .tup ds, _, b, h => by
    unfold D.bel at b
    unfold Rep at *
    obtain ⟨a, vs, e, s, r⟩ := h
    exact ⟨a, vs, e, s, RepL.less p ds vs b r⟩
  | .lst ds, _, b, h => by
    unfold D.bel at b
    unfold Rep at *
    obtain ⟨a, vs, e, s, r⟩ := h
    exact ⟨a, vs, e, s, RepL.less p ds vs b r⟩
  | .ins c ds, _, b, h => by
    unfold D.bel at b
    unfold Rep at *
    obtain ⟨a, dx, vs, e, s, l, r⟩ := h
    exact ⟨a, dx, vs, e, s, l, RepL.less p ds vs b r⟩
  | .cell i, _, b, h => by
    unfold D.bel at b
    unfold Rep at *
    obtain ⟨a, e, q⟩ := h
    obtain ⟨t, rfl⟩ := p
    rw [List.getElem?_append_left (of_decide_eq_true b)] at e
    exact ⟨a, e, q⟩
theorem RepL.less (p : ρ <+: ρ') : ∀ (ds : List D) (vs : List V), belL ρ.length ds = true → RepL K T G ρ' ds vs → RepL K T G ρ ds vs
  | [], _, _, h => by unfold RepL at *; exact h
  | d :: ds, _, b, h => by
    unfold belL at b
    rw [Bool.and_eq_true] at b
    unfold RepL at *
    obtain ⟨v, r, e, x, y⟩ := h
    exact ⟨v, r, e, Rep.less p d v b.1 x, RepL.less p ds r b.2 y⟩
end
end
mutual
theorem pl_bel (n : Nat) : ∀ d : D, d.pl = true → d.bel n = true
  | .non, _ => rfl
  | .bl _, _ => rfl
  | .int _, _ => rfl
  | .str _, _ => rfl
  | .dic, _ => rfl
  | .ty _, _ => rfl
  | .cls _, _ => rfl
  | .fn _, _ => rfl
  | .tup ds, h => by unfold D.bel; exact plL_bel n ds (by unfold D.pl at h; exact h)
  | .lst ds, h => by unfold D.bel; exact plL_bel n ds (by unfold D.pl at h; exact h)
  | .ins _ _, h => by simp [D.pl] at h
  | .dct _ _, h => by simp [D.pl] at h
  | .exo _ _, h => by simp [D.pl] at h
  | .cell _, h => by simp [D.pl] at h
theorem plL_bel (n : Nat) : ∀ d : List D, plL d = true → belL n d = true
  | [], _ => rfl
  | d :: ds, h => by unfold plL at h; rw [Bool.and_eq_true] at h; unfold belL; rw [pl_bel n d h.1, plL_bel n ds h.2]; rfl
end

section
variable {K : PySem.W.Frag} {T : Tab} {G : Hp} {ρ ρ' : List Addr}
mutual
theorem Rep.bel : ∀ (d : D) (v : V), Rep K T G ρ d v → d.bel ρ.length = true
  | .non, _, _ => rfl
  | .bl _, _, _ => rfl
  | .int _, _, _ => rfl
  | .str _, _, _ => rfl
  | .dic, _, _ => rfl
  | .ty _, _, _ => rfl
  | .cls _, _, _ => rfl
  | .fn _, _, _ => rfl
  | .tup ds, _, h => by unfold Rep at h; obtain ⟨a, vs, e, s, r⟩ := h; unfold D.bel; exact RepL.bel ds vs r
  | .lst ds, _, h => by unfold Rep at h; obtain ⟨a, vs, e, s, r⟩ := h; unfold D.bel; exact RepL.bel ds vs r
  | .ins c ds, _, h => by unfold Rep at h; obtain ⟨a, dx, vs, e, s, l, r⟩ := h; unfold D.bel; exact RepL.bel ds vs r
  | .dct ks ds, _, h => by unfold Rep at h; obtain ⟨a, vs, e, s, l, r⟩ := h; unfold D.bel; exact RepL.bel ds vs r
  | .exo c ds, _, h => by unfold Rep at h; obtain ⟨a, vs, e, s, l, r⟩ := h; unfold D.bel; exact RepL.bel ds vs r
  | .cell i, _, h => by unfold Rep at h; obtain ⟨a, e, q⟩ := h; unfold D.bel; exact decide_eq_true (List.getElem?_eq_some_iff.mp e).1
theorem RepL.bel : ∀ (ds : List D) (vs : List V), RepL K T G ρ ds vs → belL ρ.length ds = true
  | [], _, _ => rfl
  | d :: ds, _, h => by obtain ⟨v, r, e, a, b⟩ := h.inv; unfold belL; rw [Rep.bel d v a, RepL.bel ds r b]; rfl
end
theorem RepF.bel : ∀ (fs : List (Str × D)) (vs : List (Str × V)), RepF K T G ρ fs vs → belL ρ.length (fs.map (·.2)) = true
  | [], _, _ => rfl
  | (n, d) :: fs, _, h => by unfold RepF at h; obtain ⟨v, r, e, a, b⟩ := h; show belL _ (d :: fs.map (·.2)) = true; unfold belL; rw [Rep.bel d v a, RepF.bel fs r b]; rfl
theorem RepF.less (p : ρ <+: ρ') : ∀ (fs : List (Str × D)) (vs : List (Str × V)), belL ρ.length (fs.map (·.2)) = true → RepF K T G ρ' fs vs → RepF K T G ρ fs vs
  | [], _, _, h => by unfold RepF at *; exact h
  | (n, d) :: fs, _, b, h => by
    rw [List.map_cons] at b
    unfold belL at b
    rw [Bool.and_eq_true] at b
    unfold RepF at *
    obtain ⟨v, r, e, x, y⟩ := h
    exact ⟨v, r, e, Rep.less p d v b.1 x, RepF.less p fs r b.2 y⟩
end

def putD (f : Str) (d : D) : List (Str × D) → List (Str × D)
  | [] => [(f, d)]
  | (g, x) :: r => if g = f then (g, d) :: r else (g, x) :: putD f d r
section
variable {K : PySem.W.Frag} {T : Tab} {G : Hp} {ρ : List Addr}
theorem RepF.put {f : Str} {d : D} {v : V} (h : Rep K T G ρ d v) : ∀ {fs : List (Str × D)} {vs : List (Str × V)}, RepF K T G ρ fs vs → RepF K T G ρ (putD f d fs) (putF f v vs)
  | [], _, q => by unfold RepF at q; subst q; unfold putD putF RepF; exact ⟨v, [], rfl, h, rfl⟩
  | (g, x) :: r, _, q => by
    unfold RepF at q
    obtain ⟨w, t, e, a, b⟩ := q
    subst e
    unfold putD putF
    by_cases hg : g = f
    · rw [if_pos hg, if_pos hg]
      unfold RepF
      exact ⟨v, t, rfl, h, b⟩
    · rw [if_neg hg, if_neg hg]
      unfold RepF
      exact ⟨w, _, rfl, a, RepF.put h b⟩
theorem RepF.look {f : Str} {d : D} : ∀ {fs : List (Str × D)} {vs : List (Str × V)}, RepF K T G ρ fs vs → fs.lookup f = some d → ∃ v, vs.lookup f = some v ∧ Rep K T G ρ d v
  | [], _, q, e => by cases e
  | (g, x) :: r, _, q, e => by
    unfold RepF at q
    obtain ⟨w, t, ev, a, b⟩ := q
    subst ev
    rw [List.lookup_cons] at e ⊢
    cases hb : f == g with
    | true => rw [hb] at e; cases e; exact ⟨w, rfl, a⟩
    | false => rw [hb] at e; exact RepF.look b e
theorem RepF.look0 {f : Str} : ∀ {fs : List (Str × D)} {vs : List (Str × V)}, RepF K T G ρ fs vs → fs.lookup f = none → vs.lookup f = none
  | [], _, q, e => by unfold RepF at q; subst q; rfl
  | (g, x) :: r, _, q, e => by
    unfold RepF at q
    obtain ⟨w, t, ev, a, b⟩ := q
    subst ev
    rw [List.lookup_cons] at e ⊢
    cases hb : f == g with
    | true => rw [hb] at e; cases e
    | false => rw [hb] at e; exact RepF.look0 b e
theorem RepF.len : ∀ {fs : List (Str × D)} {vs : List (Str × V)}, RepF K T G ρ fs vs → vs.length = fs.length
  | [], _, q => by unfold RepF at q; subst q; rfl
  | (g, x) :: r, _, q => by
    unfold RepF at q
    obtain ⟨w, t, ev, a, b⟩ := q
    subst ev
    rw [List.length_cons, List.length_cons, b.len]
theorem RepF.split : ∀ {fs : List (Str × D)} {vs : List (Str × V)}, RepF K T G ρ fs vs → ∃ ws, vs = (fs.map (·.1)).zip ws ∧ ws.length = fs.length ∧ RepL K T G ρ (fs.map (·.2)) ws
  | [], _, q => by unfold RepF at q; subst q; exact ⟨[], rfl, rfl, RepL.nil⟩
  | (g, x) :: r, _, q => by
    unfold RepF at q
    obtain ⟨w, t, ev, a, b⟩ := q
    obtain ⟨ws, e, l, rl⟩ := b.split
    subst ev e
    exact ⟨w :: ws, rfl, by simp [l], RepL.cons a rl⟩
theorem RepL.zip : ∀ {ns : List Str} {ds : List D} {vs : List V}, vs.length = ns.length → RepL K T G ρ ds vs → RepF K T G ρ (ns.zip ds) (ns.zip vs)
  | [], ds, vs, e, h => by simp only [List.zip_nil_left]; unfold RepF; rfl
  | n :: ns, [], vs, e, h => by rw [h.inv0] at e; cases e
  | n :: ns, d :: ds, vs, e, h => by
    obtain ⟨v, r, ev, a, b⟩ := h.inv
    subst ev
    rw [List.zip_cons_cons, List.zip_cons_cons]
    unfold RepF
    exact ⟨v, _, rfl, a, RepL.zip (by simpa using e) b⟩
end
def objOf (tb : TB) (st : List Cell) : D → Option (Nat × List (Str × D))
  | .ins c ds => some (c, (tb.fl c).zip ds)
  | .cell i => match st[i]? with
    | some (.obj c fs) => some (c, fs)
    | _ => none
  | _ => none
theorem AR.obj {K : PySem.W.Frag} {T : Tab} {E : En} {G : Hp} {ρ : List Addr} {a : AS} {σ : L2.St} {H : Hp} (r : AR K T E G ρ a σ H) {d : D} {c : Nat} {fs : List (Str × D)} {v : V} (h : objOf T.toTB a.st d = some (c, fs)) (q : Rep K T G ρ d v) :
    ∃ b dx fvs, v = .ref b ∧ H b = some (.ins (T.C c) dx fvs) ∧ RepF K T G ρ fs fvs := by
  unfold objOf at h
  split at h
  · cases h
    unfold Rep at q
    obtain ⟨b, dx, vs, e, hb, l, rl⟩ := q
    exact ⟨b, dx, _, e, r.sub _ _ hb, RepL.zip l rl⟩
  · rename_i i
    split at h
    · rename_i c' fs' e
      cases h
      unfold Rep at q
      obtain ⟨b, e1, e2⟩ := q
      obtain ⟨dx, fvs, hb, rf⟩ := r.cl i b _ e1 e
      exact ⟨b, dx, fvs, e2, hb, rf⟩
    · cases h
  · cases h
def fldM (tb : TB) (f : Str) (st : List Cell) (x : D) : Option D := (objOf tb st x).bind fun p => if (tb.ins p.1 && (tb.fl p.1).contains f) = true then p.2.lookup f else none
def attrM (tb : TB) (f : Str) (m : M D) : M D := bd m fun x => rdM fun st => fldM tb f st x
section
variable {X : Cx} {T : Tab} {W : WX}
theorem px_attr {tb : TB} {e : Expr} {f : Str} {m : M D} {pos : Pos} (F : Fx X.K T) (hT : T.toTB = tb) (he : PE X e (tE X.K T W m)) (hb : attributeBase e f X.env (eval e X.env) = eval e X.env := by rfl) : PE X (.Attribute e f pos) (tE X.K T W (attrM tb f m)) := by
  refine PE.imp (pe_fld he hb) fun σ H Q h => ?_
  refine tX.bind h fun E x a1 G1 ρ1 H1 v r1 q1 p1 => ?_
  subst hT
  unfold rdM fldM at p1
  dsimp only at p1
  cases e1 : objOf T.toTB a1.st x with
  | none => rw [e1] at p1; exact p1.elim
  | some p =>
    obtain ⟨c, fs⟩ := p
    rw [e1] at p1
    simp only [Option.bind_some] at p1
    split at p1
    · rename_i hc
      rw [Bool.and_eq_true] at hc
      cases e2 : fs.lookup f with
      | none => rw [e2] at p1; exact p1.elim
      | some d =>
        rw [e2] at p1
        obtain ⟨b, dx, fvs, ev, hb, rf⟩ := r1.obj e1 q1
        obtain ⟨w, hw, rw'⟩ := rf.look e2
        exact ⟨b, _, dx, fvs, w, ev, hb, (F.cls c hc.1).cl, F.na c f hc.1 (by simpa using hc.2), hw, Post.here p1 r1 rw'⟩
    · exact p1.elim
def putM (tb : TB) (f : Str) (mo m : M D) : M Fl := bd m fun d => bd mo fun o => fun a => match o with
  | .cell i => match a.st[i]? with
    | some (.obj c fs) => if (tb.ins c && (tb.fl c).contains f && decide (fs.length < 1000)) = true then .ok .nx { a with st := a.st.set i (.obj c (putD f d fs)) } else .stuck
    | _ => .stuck
  | _ => .stuck
theorem ps_put {tb : TB} {o e : Expr} {f : Str} {mo m : M D} {pos pos' : Pos} (F : Fx X.K T) (hT : T.toTB = tb) (ho : PE X o (tE X.K T W mo)) (he : PE X e (tE X.K T W m)) (hs : swapsWith e (some (.Attribute o f pos')) pos.line X.env = pure false := by rfl) :
    PS X (.Assign [.Attribute o f pos'] e pos) (tS X.K T W (putM tb f mo m)) := by
  refine PS.imp (ps_fld ho he hs) fun De σ H h => ?_
  subst hT
  refine tS.bind h fun E d a0 G0 ρ0 H0 v r0 q0 p => ?_
  refine ⟨E, G0, ρ0, a0, r0, PostS.bind p fun o a1 G1 ρ1 H1 w1 g1 l1 r1 q1 p1 => ?_⟩
  cases o with
  | cell i =>
    simp only at p1
    cases e3 : a1.st[i]? with
    | none => rw [e3] at p1; exact p1.elim
    | some c0 =>
      cases c0 with
      | lst ds => rw [e3] at p1; exact p1.elim
      | obj c fs =>
        rw [e3] at p1
        simp only at p1
        split at p1
        · rename_i hc
          rw [Bool.and_eq_true, Bool.and_eq_true] at hc
          unfold Rep at q1
          obtain ⟨b, hρ, ev⟩ := q1
          obtain ⟨dx, fvs, hb, rf⟩ := r1.cl i b _ hρ e3
          refine ⟨b, _, dx, fvs, ev, hb, (F.cls c hc.1.1).cl, F.na c f hc.1.1 (by simpa using hc.1.2), by rw [rf.len]; exact of_decide_eq_true hc.2, ?_⟩
          exact p1 G1 ρ1 σ _ Ge.rfl' (List.prefix_refl _) (r1.updCX e3 hρ ⟨dx, _, upd_same, rf.put (Rep.ge g1 l1 _ _ q0)⟩)
        · exact p1.elim
  | _ => exact p1.elim
end
section
variable {K : PySem.W.Frag} {T : Tab} {E : En} {G G' : Hp} {ρ ρ' : List Addr} {a : AS} {σ : L2.St} {H H' : Hp}
theorem AR.made (r : AR K T E G ρ a σ H) {c : Nat} {x dx : Addr} (hx : H x = none) (hd : H dx = none) (ne : dx ≠ x) :
    x ∉ ρ ∧ E.H0 x = none ∧ G x = none ∧ AR K T E G (ρ ++ [x]) { a with st := a.st ++ [.obj c []] } σ (upd (upd H dx (.own x)) x (.ins (T.C c) dx [])) := by
  have r1 := r.junk (o := .own x) hd
  have hx1 : (upd H dx (.own x)) x = none := by rw [upd_ne (Ne.symm ne)]; exact hx
  obtain ⟨h0, hG, hr⟩ := r1.fresh hx1
  have f := r1.freeOf hx1
  have r2 := r1.junk (o := .ins (T.C c) dx []) hx1
  exact ⟨hr, h0, hG, r2.newCellX f ⟨dx, [], upd_same, by unfold RepF; rfl⟩⟩
theorem AR.pop (r0 : AR K T E G ρ a σ H) {x : Addr} {c : Nat} {fs : List (Str × D)} {st1 : List Cell} (hx : H x = none) (hf : x ∉ ρ ∧ E.H0 x = none ∧ G x = none) (g : Ge G G') (l : ρ ++ [x] <+: ρ')
    (r : AR K T E G' ρ' { a with st := st1 } σ H') (hst : st1 = a.st ++ [.obj c fs]) (hn : fs.map (·.1) = T.fl c) (hb : belL ρ.length (fs.map (·.2)) = true) :
    ∃ o, H' x = some o ∧ Ge G (upd G' x o) ∧ AR K T E (upd G' x o) ρ a σ H' ∧ Rep K T (upd G' x o) ρ (.ins c (fs.map (·.2))) (.ref x) := by
  have hl : ρ' = ρ ++ [x] := by
    obtain ⟨t, ht⟩ := l
    have e1 := r.clen
    have e2 := r0.clen
    rw [hst] at e1
    rw [← ht] at e1
    simp at e1
    have : t = [] := List.eq_nil_of_length_eq_zero (by omega)
    rw [← ht, this, List.append_nil]
  subst hl
  obtain ⟨hf1, hf2, hf3⟩ := hf
  have hlast : (ρ ++ [x])[ρ.length]? = some x := by rw [List.getElem?_append_right (Nat.le_refl _)]; simp
  have hst' : st1[ρ.length]? = some (.obj c fs) := by rw [hst, ← r0.clen, List.getElem?_append_right (Nat.le_refl _)]; simp
  obtain ⟨dx, fvs, hb', rf⟩ := r.cl ρ.length x _ hlast hst'
  refine ⟨_, hb', ?_⟩
  have hG' : G' x = none := r.cG x (by simp)
  have pr : ρ <+: ρ ++ [x] := List.prefix_append _ _
  have g1 : Ge G' (upd G' x (.ins (T.C c) dx fvs)) := Ge.upd hG'
  have g2 := g.trans g1
  have hold : ∀ {b : Addr} {o : HO}, H b = some o → b ≠ x := fun {b o} e z => by rw [z, hx] at e; cases e
  obtain ⟨ws, ew, lw, rl⟩ := rf.split
  refine ⟨g2, ⟨fun b u e => ?_, r0.len, fun i s v e1 e2 => ?_, r0.nd, r0.clen, fun i b k e1 e2 => ?_, r0.cnd, fun b hb => ?_, r.fr, fun b u e => ?_, fun b u e => g1 b u (r.gext b u e), r0.rext, r0.rnew, fun b e => ?_, r0.h0t, r.tb.put (fun _ z => nomatch z)⟩, ?_⟩
  · by_cases z : b = x
    · subst z; rw [upd_same] at e; cases e; exact hb'
    · rw [upd_ne z] at e; exact r.sub b u e
  · have z0 := r0.sl i s v e1 e2
    have z := r.sl i s v e1 e2
    cases s with
    | emp => trivial
    | val d => obtain ⟨y, e, q⟩ := z0; exact ⟨y, e, Rep.ge g2 (List.prefix_refl _) _ _ q⟩
    | own ds =>
      obtain ⟨b, vs, e, hH, q, y1, y2, y3⟩ := z
      obtain ⟨b', vs', e', hH', q', y1', y2', y3'⟩ := z0
      rw [e] at e'
      cases e'
      exact ⟨b, vs, e, hH, RepL.ge g1 (List.prefix_refl _) _ _ (RepL.less pr _ _ (RepL.bel _ _ q') q), by rw [upd_ne (hold hH')]; exact y1, y2', y3⟩
    | obj k gs =>
      obtain ⟨b, dx', gvs, e, hH, q, y3⟩ := z
      obtain ⟨b', dx'', gvs', e', hH', q', y3'⟩ := z0
      exact ⟨b, dx', gvs, e, hH, RepF.ge g1 (List.prefix_refl _) _ _ (RepF.less pr _ _ (RepF.bel _ _ q') q), y3⟩
  · have z0 := r0.cl i b k e1 e2
    have li : i < ρ.length := (List.getElem?_eq_some_iff.mp e1).1
    have z := r.cl i b k (by rw [List.getElem?_append_left li]; exact e1) (by show st1[i]? = _; rw [hst, List.getElem?_append_left (by rw [r0.clen]; exact li)]; exact e2)
    cases k with
    | lst ds =>
      obtain ⟨vs, hH, q⟩ := z
      obtain ⟨vs', hH', q'⟩ := z0
      exact ⟨vs, hH, RepL.ge g1 (List.prefix_refl _) _ _ (RepL.less pr _ _ (RepL.bel _ _ q') q)⟩
    | obj c fs =>
      obtain ⟨dy, vs, hH, q⟩ := z
      obtain ⟨dy', vs', hH', q'⟩ := z0
      exact ⟨dy, vs, hH, RepF.ge g1 (List.prefix_refl _) _ _ (RepF.less pr _ _ (RepF.bel _ _ q') q)⟩
  · have nb : b ≠ x := fun z => hf1 (z ▸ hb)
    rw [upd_ne nb]; exact r.cG b (by simp [hb])
  · by_cases z : b = x
    · subst z; exact .inr hf2
    · rw [upd_ne z] at e; exact r.gnew b u e
  · obtain ⟨q1, q2, q3, q4⟩ := r.sfH b e
    have nb : b ≠ x := fun z => q4 (by simp [z])
    exact ⟨q1, q2, by rw [upd_ne nb]; exact q3, fun z => q4 (by simp [z])⟩
  · unfold Rep
    refine ⟨x, dx, ws, rfl, by rw [upd_same, ew, hn], by rw [lw, ← hn, List.length_map], ?_⟩
    exact RepL.ge g1 (List.prefix_refl _) _ _ (RepL.less pr _ _ hb rl)
end
def mkC (c np : Nat) (f : FD) (ds : List D) : M D := fun a => if ds.length + 1 = np then (match f (.cell a.st.length :: ds) (a.st ++ [.obj c []]) with
  | .ok .non a' => .ok (.cell a.st.length) { a with st := a'.st }
  | .exc k fs a' => .exc k fs { a with st := a'.st }
  | _ => .stuck) else .stuck
def popO (tb : TB) (c : Nat) (st st1 : List Cell) : Option (List D) := match st1[st.length]? with
  | some (.obj k fs) => if (k == c && ceqL st1 (st ++ [.obj c fs]) && (fs.map (·.1) == tb.fl c) && belL st.length (fs.map (·.2))) = true then some (fs.map (·.2)) else none
  | _ => none
def mkI (tb : TB) (c np : Nat) (f : FD) (ds : List D) : M D := fun a => (mkC c np f ds a).bind fun _ a1 => match popO tb c a.st a1.st with
  | some ds => .ok (.ins c ds) a
  | none => .stuck
section
variable {X : Cx} {T : Tab} {W : WX}
theorem run_makeS {CX : CXT} {k : Nat} {f C : Addr} {fd : FuncData} {ps ks : List Str} {sp : Sp} {Ex : XK} {n : Nat} {g : List Value → List Value → List Value} {gV : List V → List V → List V}
    {pins : List (Addr × Obj)} {σ : L2.St} {H : Hp} {s : Shared} {Q : VK} {us ws : List Value} {vs zs : List V} (M : Mk X.K C f) (F : FnOk X.prog X.w X.K X.mg X.base CX k f fd ps sp) (hr : Room (k + 1) X.A) (hb : KBn X.K fd ps (n + 1) ks g gV) (hx : PassesAt CX X σ Ex)
    (I : Inv X pins σ H s) (r : Vals vs us) (rz : Vals zs ws) (l1 : vs.length = n) (l2 : zs.length = ks.length)
    (h : ∀ x dx, H x = none → H dx = none → dx ≠ x → sp (gV (.ref x :: vs) zs) (upd (upd H dx (.own x)) x (.ins C dx [])) (fun v H2 => v = .non ∧ Q (.ref x) H2) Ex) :
    wpAny (model X.prog X.w) X.A (call (.ref C) us (ks.zip ws)) (EP X pins σ Q) X.xe s := by
  have hq := h (s.heap.objs.size + 1) s.heap.objs.size (I.hok.fresh (Nat.le_succ _)) (I.hok.fresh (Nat.le_refl _)) (Nat.ne_of_lt (Nat.lt_succ_self _))
  have I2 := Inv.made (C := C) I
  have r1 : Vals (V.ref (s.heap.objs.size + 1) :: vs) (Value.ref (s.heap.objs.size + 1) :: us) := .cons rfl r
  have r2 := hb.rel r1 rz
  have n1 : (Value.ref (s.heap.objs.size + 1) :: us).length = n + 1 := by
    rw [List.length_cons, ← r.length, l1]
  refine wpAny_call (make_map (f := f) I.kIn M.makes M.init (beq_iff_eq.mp M.fn) (codeAny_mono (F.run _ X.stack _ _ ⟨Value.ref (s.heap.objs.size + 1) :: us, ks.zip ws⟩ (g (Value.ref (s.heap.objs.size + 1) :: us) ws) _ _ Ex (hr.make C us (ks.zip ws))
    (I2.env0.make C us (ks.zip ws)) (hb.to _ (Value.ref (s.heap.objs.size + 1) :: us) ws I2.kIn n1 (rz.length.symm.trans l2)) r2 hq) fun r s' hq' => ?_))
  cases r with
  | error e => exact hx pins _ _ e s' I2 hq'
  | ok fl =>
    cases fl with
    | ret u =>
      obtain ⟨v, H', I3, rv, ev, q3⟩ := I2.after hq'
      subst ev
      exact ⟨rv, ⟨V.ref (s.heap.objs.size + 1), H', I3, rfl, q3⟩⟩
    | next => exact False.elim hq'
    | brk => exact False.elim hq'
    | cont => exact False.elim hq'
theorem mkC_read {E : En} {σ : L2.St} {G : Hp} {ρ : List Addr} {a : AS} {H : Hp} {c np : Nat} {f : FD} {ds : List D} {vs : List V} {Q : VK} (r : AR X.K T E G ρ a σ H) (q : RepL X.K T G ρ ds vs) (p : Post X.K T W E σ G ρ (Rep X.K T) (mkC c np f ds a) Q)
    {x dx : Addr} (hx : H x = none) (hd : H dx = none) (ne : dx ≠ x) : spM X.K T np f (.ref x :: vs) (upd (upd H dx (.own x)) x (.ins (T.C c) dx [])) (fun v H2 => v = .non ∧ Q (.ref x) H2) (fun cls d H' => W cls d σ H') := by
  obtain ⟨hf1, hf2, hf3, r1⟩ := r.made (c := c) hx hd ne
  unfold mkC at p
  split at p
  · rename_i hl
    have hlast : (ρ ++ [x])[a.st.length]? = some x := by rw [r.clen, List.getElem?_append_right (Nat.le_refl _)]; simp
    refine ⟨G, ρ ++ [x], .cell a.st.length :: ds, a.st ++ [.obj c []], r1.st, RepL.cons (by unfold Rep; exact ⟨x, hlast, rfl⟩) (RepL.ge Ge.rfl' (List.prefix_append _ _) _ _ q), hl, ?_⟩
    cases e : f (.cell a.st.length :: ds) (a.st ++ [.obj c []]) with
    | stuck => rw [e] at p; exact p.elim
    | exc k fs a1 => rw [e] at p; exact fun G1 ρ1 H1 v h1 q1 => p G1 ρ1 H1 v h1.g ((List.prefix_append _ _).trans h1.l) (r1.after h1) q1
    | ok d a1 =>
      rw [e] at p
      cases d with
      | non =>
        refine fun G1 ρ1 H1 v h1 q1 => ?_
        unfold Rep at q1
        refine ⟨q1, p G1 ρ1 H1 (.ref x) h1.g ((List.prefix_append _ _).trans h1.l) (r1.after h1) ?_⟩
        unfold Rep
        exact ⟨x, pre_get h1.l hlast, rfl⟩
      | _ => exact p.elim
  · exact p.elim
theorem mkI_read {E : En} {σ : L2.St} {G : Hp} {ρ : List Addr} {a : AS} {H : Hp} {c np : Nat} {f : FD} {ds : List D} {vs : List V} {Q : VK} (r : AR X.K T E G ρ a σ H) (q : RepL X.K T G ρ ds vs) (p : Post X.K T W E σ G ρ (Rep X.K T) (mkI T.toTB c np f ds a) Q)
    {x dx : Addr} (hx : H x = none) (hd : H dx = none) (ne : dx ≠ x) : spM X.K T np f (.ref x :: vs) (upd (upd H dx (.own x)) x (.ins (T.C c) dx [])) (fun v H2 => v = .non ∧ Q (.ref x) H2) (fun cls d H' => W cls d σ H') := by
  obtain ⟨hf1, hf2, hf3, r1⟩ := r.made (c := c) hx hd ne
  unfold mkI mkC at p
  split at p
  · rename_i hl
    have hlast : (ρ ++ [x])[a.st.length]? = some x := by rw [r.clen, List.getElem?_append_right (Nat.le_refl _)]; simp
    refine ⟨G, ρ ++ [x], .cell a.st.length :: ds, a.st ++ [.obj c []], r1.st, RepL.cons (by unfold Rep; exact ⟨x, hlast, rfl⟩) (RepL.ge Ge.rfl' (List.prefix_append _ _) _ _ q), hl, ?_⟩
    cases e : f (.cell a.st.length :: ds) (a.st ++ [.obj c []]) with
    | stuck => rw [e] at p; exact p.elim
    | exc k fs a1 => rw [e] at p; exact fun G1 ρ1 H1 v h1 q1 => p G1 ρ1 H1 v h1.g ((List.prefix_append _ _).trans h1.l) (r1.after h1) q1
    | ok d a1 =>
      rw [e] at p
      cases d with
      | non =>
        refine fun G1 ρ1 H1 v h1 q1 => ?_
        unfold Rep at q1
        refine ⟨q1, ?_⟩
        dsimp only [bind_ok] at p
        unfold popO at p
        split at p
        · rename_i ds' ed
          split at ed
          · rename_i k fs est
            split at ed
            · rename_i hc
              rw [Bool.and_eq_true, Bool.and_eq_true, Bool.and_eq_true] at hc
              obtain ⟨⟨⟨c1, c2⟩, c3⟩, c4⟩ := hc
              cases ed
              obtain ⟨o, hH, g2, r2, rr⟩ := r.pop hx ⟨hf1, hf2, hf3⟩ h1.g h1.l (r1.after h1) (ceqL_eq _ _ c2) (eq_of_beq c3) (by rw [← r.clen]; exact c4)
              exact p _ ρ H1 (.ref x) g2 (List.prefix_refl _) r2 rr
            · cases ed
          · cases ed
        · exact p.elim
      | _ => exact p.elim
  · exact p.elim
end

inductive Src where
  | p (i : Nat) | d (i : Nat) | m (i : Nat) | k (i : Nat)
def Src.get {α : Type} (us its mv ws : List α) : Src → List α
  | .p i => (us.drop i).take 1
  | .d i => (its.drop i).take 1
  | .m i => (mv.drop i).take 1
  | .k i => (ws.drop i).take 1
def arr {α : Type} (ss : List Src) (us its mv ws : List α) : List α := match ss with
  | [] => []
  | s :: ss => s.get us its mv ws ++ arr ss us its mv ws
theorem vals_arr {vs ds mz zs : List V} {us its mv ws : List Value} (a : Vals vs us) (b : Vals ds its) (c : Vals mz mv) (d : Vals zs ws) : ∀ ss : List Src, Vals (arr ss vs ds mz zs) (arr ss us its mv ws)
  | [] => .nil
  | s :: ss => by
    unfold arr
    refine Vals.append ?_ (vals_arr a b c d ss)
    cases s with
    | p i => exact Vals.take 1 (Vals.drop i a)
    | d i => exact Vals.take 1 (Vals.drop i b)
    | m i => exact Vals.take 1 (Vals.drop i c)
    | k i => exact Vals.take 1 (Vals.drop i d)
theorem repL_arr {K : PySem.W.Frag} {T : Tab} {G : Hp} {ρ : List Addr} {vs ds mz zs : List V} {us its mv ws : List D} (a : RepL K T G ρ us vs) (b : RepL K T G ρ its ds) (c : RepL K T G ρ mv mz) (d : RepL K T G ρ ws zs) : ∀ ss : List Src, RepL K T G ρ (arr ss us its mv ws) (arr ss vs ds mz zs)
  | [] => RepL.nil
  | s :: ss => by
    unfold arr
    refine RepL.app ?_ (repL_arr a b c d ss)
    cases s with
    | p i => exact (a.drop i).take 1
    | d i => exact (b.drop i).take 1
    | m i => exact (c.drop i).take 1
    | k i => exact (d.drop i).take 1
structure KB (K : PySem.W.Frag) (T : Tab) (fd : FuncData) (ps : List Str) (n : Nat) (ks : List Str) (ar : List D → List D → List D) : Prop where
  ex : ∃ (gA : List Value → List Value → List Value) (gV : List V → List V → List V), KBn K fd ps (n + 1) ks gA gV ∧ ∀ (G : Hp) (ρ : List Addr) (x : V) (ds zs : List D) (vs ws : List V), RepL K T G ρ ds vs → RepL K T G ρ zs ws → ∃ rest, gV (x :: vs) ws = x :: rest ∧ RepL K T G ρ (ar ds zs) rest
structure KBf (K : PySem.W.Frag) (T : Tab) (fd : FuncData) (ps : List Str) (n : Nat) (ks : List Str) (ar : List D → List D → List D) : Prop where
  ex : ∃ (gA : List Value → List Value → List Value) (gV : List V → List V → List V), KBn K fd ps n ks gA gV ∧ ∀ (G : Hp) (ρ : List Addr) (ds zs : List D) (vs ws : List V), RepL K T G ρ ds vs → RepL K T G ρ zs ws → RepL K T G ρ (ar ds zs) (gV vs ws)
section
variable {K : PySem.W.Frag} {T : Tab} {x qual : Str} {params : Arguments} {body : List Stmt} {scope : Scope} {dvs : List V} {kws : List (Str × V)} {f : Addr} {fd : FuncData} {ps : List Str}
abbrev gSelf (ss : List Src) {α : Type} (us its mv ws : List α) : List α := us.take 1 ++ arr ss (us.drop 1) its mv ws
theorem gSelf_rel (ss : List Src) {vs ds mz zs : List V} {us its mv ws : List Value} (a : Vals vs us) (b : Vals ds its) (c : Vals mz mv) (d : Vals zs ws) : Vals (gSelf ss vs ds mz zs) (gSelf ss us its mv ws) :=
  Vals.append (Vals.take 1 a) (vals_arr (Vals.drop 1 a) b c d ss)
theorem kb_both (F : FunD K x qual params body scope dvs kws f fd) (n : Nat) (ks : List Str) (ms : List (Str × V)) (ss : List Src) (dds mds : List D) (hd : dvs ≠ []) (hk : kws ≠ []) (hms : ∀ q ∈ ms, q ∈ kws) (hdd : ∀ G ρ, RepL K T G ρ dds dvs) (hmd : ∀ G ρ, RepL K T G ρ mds (ms.map (·.2)))
    (h : ∀ (Ta Da : Addr) (doc pm : Value) (an : Option Addr) (cdv ct : Value) (us its mv ws : List Value), us.length = n + 1 → its.length = dvs.length → mv.length = ms.length → ws.length = ks.length →
      ∃ k, bindArgs (PySem.W.fnOf x qual params body scope (.ref Ta) (.ref Da) doc pm an cdv ct) ⟨us, ks.zip ws⟩ = seqItems? (.ref Ta) >>= k ∧ KwChain Da ((ms.map (·.1)).zip mv) (k (some its.toArray)) (ps.zip (gSelf ss us its mv ws))) :
    KB K T fd ps n ks (fun ds zs => arr ss ds dds mds zs) := by
  obtain ⟨its, mv, B⟩ := FunD.kbinds F (n + 1) ks ms (fun us its mv ws => gSelf ss us its mv ws) hd hk hms (gSelf_rel ss) h
  exact ⟨_, _, B, fun G ρ x ds zs vs ws r1 r2 => ⟨_, rfl, repL_arr r1 (hdd G ρ) (hmd G ρ) r2 ss⟩⟩
theorem kb_kwo (F : FunD K x qual params body scope [] kws f fd) (n : Nat) (ks : List Str) (ms : List (Str × V)) (ss : List Src) (mds : List D) (hk : kws ≠ []) (hms : ∀ q ∈ ms, q ∈ kws) (hmd : ∀ G ρ, RepL K T G ρ mds (ms.map (·.2)))
    (h : ∀ (Da : Addr) (doc pm : Value) (an : Option Addr) (cdv ct : Value) (us mv ws : List Value), us.length = n + 1 → mv.length = ms.length → ws.length = ks.length →
      KwChain Da ((ms.map (·.1)).zip mv) (bindArgs (PySem.W.fnOf x qual params body scope .none (.ref Da) doc pm an cdv ct) ⟨us, ks.zip ws⟩) (ps.zip (gSelf ss us [] mv ws))) :
    KB K T fd ps n ks (fun ds zs => arr ss ds [] mds zs) := by
  obtain ⟨mv, B⟩ := FunD.kbinds0 F (n + 1) ks ms (fun us mv ws => gSelf ss us [] mv ws) hk hms (fun a c d => gSelf_rel ss a .nil c d) h
  exact ⟨_, _, B, fun G ρ x ds zs vs ws r1 r2 => ⟨_, rfl, repL_arr r1 RepL.nil (hmd G ρ) r2 ss⟩⟩
theorem kb_def (F : FunD K x qual params body scope dvs kws f fd) (n : Nat) (ks : List Str) (ss : List Src) (dds : List D) (hd : dvs ≠ []) (hdd : ∀ G ρ, RepL K T G ρ dds dvs)
    (h : ∀ (Ta : Addr) (kV doc pm : Value) (an : Option Addr) (cdv ct : Value) (us its ws : List Value), us.length = n + 1 → its.length = dvs.length → ws.length = ks.length →
      ∃ k, bindArgs (PySem.W.fnOf x qual params body scope (.ref Ta) kV doc pm an cdv ct) ⟨us, ks.zip ws⟩ = seqItems? (.ref Ta) >>= k ∧ k (some its.toArray) = pure (ps.zip (gSelf ss us its [] ws))) :
    KB K T fd ps n ks (fun ds zs => arr ss ds dds [] zs) := by
  obtain ⟨its, B⟩ := FunD.kbindsD F (n + 1) ks (fun us its ws => gSelf ss us its [] ws) hd (fun a b d => gSelf_rel ss a b .nil d) h
  exact ⟨_, _, B, fun G ρ x ds zs vs ws r1 r2 => ⟨_, rfl, repL_arr r1 (hdd G ρ) RepL.nil r2 ss⟩⟩
theorem kb_pos {p : Str} (F : FunD K x qual params body scope [] kws f fd) (h : ∀ (kV doc pm : Value) (an : Option Addr) (cdv ct : Value) (us : List Value), us.length = (p :: ps).length → bindArgs (PySem.W.fnOf x qual params body scope .none kV doc pm an cdv ct) ⟨us, []⟩ = pure ((p :: ps).zip us)) :
    KB K T fd (p :: ps) ps.length [] (fun ds _ => ds) :=
  ⟨fun us _ => us, fun vs _ => vs, ⟨fun s us ws X l1 l2 => by
    have : ws = [] := List.eq_nil_of_length_eq_zero (by simpa using l2)
    subst this
    exact FunD.bindsA F h s us (by simpa using l1), fun r1 _ => r1⟩, fun G ρ x ds zs vs ws r1 r2 => ⟨vs, rfl, r1⟩⟩
end
section
variable {X : Cx} {T : Tab} {W : WX}
def MkR (X : Cx) (T : Tab) (W : WX) (c np : Nat) (f : FD) (mk : List D → M D) : Prop := ∀ {E : En} {σ : L2.St} {G : Hp} {ρ : List Addr} {a : AS} {H : Hp} {ds : List D} {vs : List V} {Q : VK}, AR X.K T E G ρ a σ H → RepL X.K T G ρ ds vs → Post X.K T W E σ G ρ (Rep X.K T) (mk ds a) Q →
  ∀ {x dx : Addr}, H x = none → H dx = none → dx ≠ x → spM X.K T np f (.ref x :: vs) (upd (upd H dx (.own x)) x (.ins (T.C c) dx [])) (fun v H2 => v = .non ∧ Q (.ref x) H2) (fun cls d H' => W cls d σ H')
theorem mkr_C {c np : Nat} {f : FD} : MkR X T W c np f (mkC c np f) := fun r q p => mkC_read r q p
theorem mkr_I {tb : TB} {c np : Nat} {f : FD} (hT : T.toTB = tb) : MkR X T W c np f (mkI tb c np f) := by subst hT; exact fun r q p => mkI_read r q p
def makeM (n m : Nat) (ar : List D → List D → List D) (mk : List D → M D) (ms mk2 : M (List D)) : M D := bd ms fun ds => bd mk2 fun zs => if (ds.length == n && zs.length == m) = true then mk (ar ds zs) else no
theorem make_end {k n np c : Nat} {f : Addr} {fd : FuncData} {ps ks : List Str} {g : FD} {ar : List D → List D → List D} {mk : List D → M D} {E : En} {σ : L2.St} {G : Hp} {ρ : List Addr} {a : AS} {pins : List (Addr × Obj)} {H : Hp} {s : Shared} {Q : VK} {us ws : List Value} {vs zs : List V} {ds es : List D}
    (Mc : Mk X.K (T.C c) f) (F : FnOk X.prog X.w X.K X.mg X.base (CX X.prog X.w) k f fd ps (spM X.K T np g)) (hr : Room (k + 1) X.A) (hb : KB X.K T fd ps n ks ar) (hm : MkR X T W c np g mk) (tk : Takes X W) (I : Inv X pins σ H s) (r1 : Vals vs us) (r2 : Vals zs ws)
    (r : AR X.K T E G ρ a σ H) (q1 : RepL X.K T G ρ ds vs) (q2 : RepL X.K T G ρ es zs) (p : Post X.K T W E σ G ρ (Rep X.K T) ((if (ds.length == n && es.length == ks.length) = true then mk (ar ds es) else no) a) Q) :
    wpAny (model X.prog X.w) X.A (call (.ref (T.C c)) us (ks.zip ws)) (EP X pins σ Q) X.xe s := by
  obtain ⟨gA, gV, B, hv⟩ := hb.ex
  split at p
  · rename_i hl
    rw [Bool.and_eq_true, beq_iff_eq, beq_iff_eq] at hl
    refine run_makeS (Ex := fun cls d H' => W cls d σ H') Mc F hr B (passAt tk σ) I r1 r2 (by rw [q1.len, hl.1]) (by rw [q2.len, hl.2]) fun x dx hx hd ne => ?_
    obtain ⟨rest, e, rl⟩ := hv G ρ (.ref x) ds es vs zs q1 q2
    rw [e]
    exact hm r rl p hx hd ne
  · exact p.elim
end
end PL

namespace PL
open PySem PySem.Spec PyProof.Rows L2

section
variable {X : Cx} {T : Tab} {W : WX} {k n np c : Nat} {f : Addr} {fd : FuncData} {ps ks : List Str} {g : FD} {ar : List D → List D → List D} {mk : List D → M D} {x : Str} {p pos : Pos} {e : Expr} {es : List Expr} {kws : List Keyword} {ms mk2 : M (List D)}
abbrev PKD (X : Cx) (T : Tab) (W : WX) (kws : List Keyword) (m : M (List D)) : Prop := PK X kws (tA X.K T W m)
theorem PK.imp {kws : List Keyword} {t t' : TA} (h : PK X kws t) (i : ∀ σ H Q, t' σ H Q → t σ H Q) : PK X kws t' := ⟨fun pos pins s σ H Q I q => h.run pos pins s σ H Q I (i σ H Q q)⟩
theorem pk_nilD : PKD X T W [] nilM := PK.imp pk_nil fun σ H Q ⟨E, G, ρ, a, r, p⟩ => Post.here p r RepL.nil
theorem pk_consD {nm : Option Str} {e : Expr} {kws : List Keyword} {kpos : Pos} {m : M D} {ms : M (List D)} (h : PE X e (tE X.K T W m)) (t : PKD X T W kws ms) : PKD X T W (⟨nm, e, kpos⟩ :: kws) (consM m ms) := by
  refine PK.imp (pk_cons h t) fun σ H Q h => ?_
  refine tX.bind h fun E x a1 G1 ρ1 H1 v r1 q1 p1 => ?_
  refine ⟨E, G1, ρ1, a1, r1, Post.bind p1 fun xs a2 G2 ρ2 H2 vs g2 l2 r2 q2 p2 => ?_⟩
  exact Post.here p2 r2 (RepL.cons (Rep.ge g2 l2 _ _ q1) q2)

theorem px_makeK (Mc : Mk X.K (T.C c) f) (F : FnOk X.prog X.w X.K X.mg X.base (CX X.prog X.w) k f fd ps (spM X.K T np g)) (hr : Room (k + 1) X.A) (hm : X.mg x = some (.ref (T.C c))) (hb : KB X.K T fd ps n ks ar) (hk : MkR X T W c np g mk) (tk : Takes X W)
    (ha : PA X (e :: es) (tA X.K T W ms)) (hkw : PKD X T W kws mk2) (hg : Gl X x := by rfl)
    (hall : (backToKw pos (keywordEach kws X.env)).all (·.1.isSome) = true := by rfl) (hks : (backToKw pos (keywordEach kws X.env)).filterMap (·.1) = ks := by rfl) (hdb : (x == ("__debug__" : Str)) = false := by decide)
    (he : starEach (e :: es) X.env = (false, eval e X.env) :: starEach es X.env := by rfl) (hpl : ((backTo pos (starEach (e :: es) X.env)).any (·.1) || (backToKw pos (keywordEach kws X.env)).any (·.1.isNone)) = false := by rfl) :
    PE X (.Call (.Name x p) (e :: es) kws pos) (tE X.K T W (makeM n ks.length ar mk ms mk2)) := by
  refine ⟨fun pins s σ H Q I h => ?_⟩
  refine wpAny_Call_Name_kw (ld_glob I hg hm ?_ hdb)
  refine PySem.W.callWith_KW (h₀ := X.base) I.ok.mod.kin Mc.kp hall (thn (ha.run pos pins s σ H (fun vs H1 => tX X.K T W (RepL X.K T) mk2 σ H1 fun zs H2 => ∃ E G ρ a ds es, AR X.K T E G ρ a σ H2 ∧ RepL X.K T G ρ ds vs ∧ RepL X.K T G ρ es zs ∧ Post X.K T W E σ G ρ (Rep X.K T) ((if (ds.length == n && es.length == ks.length) = true then mk (ar ds es) else no) a) Q) I ?_) fun us s1 ⟨vs, H1, I1, r, q⟩ => ?_) hpl he
  · refine tX.bind h fun E ds a1 G1 ρ1 H1 vs r1 q1 p1 => ?_
    refine ⟨E, G1, ρ1, a1, r1, Post.bind p1 fun es a2 G2 ρ2 H2 zs g2 l2 r2 q2 p2 => ?_⟩
    exact ⟨E, G2, ρ2, a2, ds, es, r2, RepL.ge g2 l2 _ _ q1, q2, p2⟩
  · refine thn (hkw.run pos pins s1 σ H1 _ I1 q) fun ws s2 ⟨zs, H2, I2, rz, E, G, ρ, a, ds, es, r2, q1, q2, p2⟩ => ⟨I2.kIn, ?_⟩
    rw [hks]
    exact make_end Mc F hr hb hk tk I2 r rz r2 q1 q2 p2
theorem px_makeK0 (Mc : Mk X.K (T.C c) f) (F : FnOk X.prog X.w X.K X.mg X.base (CX X.prog X.w) k f fd ps (spM X.K T np g)) (hr : Room (k + 1) X.A) (hm : X.mg x = some (.ref (T.C c))) (hb : KB X.K T fd ps n ks ar) (hk : MkR X T W c np g mk) (tk : Takes X W)
    (hkw : PKD X T W kws mk2) (hg : Gl X x := by rfl)
    (hall : (backToKw pos (keywordEach kws X.env)).all (·.1.isSome) = true := by rfl) (hks : (backToKw pos (keywordEach kws X.env)).filterMap (·.1) = ks := by rfl) (hdb : (x == ("__debug__" : Str)) = false := by decide)
    (hpl : ((backTo pos (starEach [] X.env)).any (·.1) || (backToKw pos (keywordEach kws X.env)).any (·.1.isNone)) = false := by rfl) :
    PE X (.Call (.Name x p) [] kws pos) (tE X.K T W (makeM n ks.length ar mk nilM mk2)) := by
  refine ⟨fun pins s σ H Q I h => ?_⟩
  refine wpAny_Call_Name_kw (ld_glob I hg hm ?_ hdb)
  refine PySem.W.callWith_KW0 (h₀ := X.base) I.ok.mod.kin Mc.kp hall ?_ hpl
  refine thn (hkw.run pos pins s σ H (fun zs H2 => ∃ E G ρ a es, AR X.K T E G ρ a σ H2 ∧ RepL X.K T G ρ es zs ∧ Post X.K T W E σ G ρ (Rep X.K T) ((if (([] : List D).length == n && es.length == ks.length) = true then mk (ar [] es) else no) a) Q) I ?_) fun ws s2 ⟨zs, H2, I2, rz, E, G, ρ, a, es, r2, q2, p2⟩ => ⟨I2.kIn, ?_⟩
  · refine tX.bind (f := fun es => if (([] : List D).length == n && es.length == ks.length) = true then mk (ar [] es) else no) h fun E es a2 G2 ρ2 H2 zs r2 q2 p2 => ?_
    exact ⟨E, G2, ρ2, a2, es, r2, q2, p2⟩
  · rw [hks]
    exact make_end (us := []) (vs := []) (ds := []) Mc F hr hb hk tk I2 .nil rz r2 RepL.nil q2 p2
theorem px_makeP (Mc : Mk X.K (T.C c) f) (F : FnOk X.prog X.w X.K X.mg X.base (CX X.prog X.w) k f fd ps (spM X.K T np g)) (hr : Room (k + 1) X.A) (hm : X.mg x = some (.ref (T.C c))) (hb : KB X.K T fd ps n [] ar) (hk : MkR X T W c np g mk) (tk : Takes X W)
    (ha : PA X (e :: es) (tA X.K T W ms)) (hg : Gl X x := by rfl) (hdb : (x == ("__debug__" : Str)) = false := by decide)
    (he : starEach (e :: es) X.env = (false, eval e X.env) :: starEach es X.env := by rfl) (hpl : (backTo pos (starEach es X.env)).any (·.1) = false := by rfl) :
    PE X (.Call (.Name x p) (e :: es) [] pos) (tE X.K T W (makeM n 0 ar mk ms nilM)) := by
  refine ⟨fun pins s σ H Q I h => ?_⟩
  refine wpAny_Call_Name_kw (ld_glob I hg hm ?_ hdb)
  refine PySem.W.callWith_K (h₀ := X.base) I.ok.mod.kin Mc.kp (thn (ha.run pos pins s σ H (fun vs H2 => ∃ E G ρ a ds, AR X.K T E G ρ a σ H2 ∧ RepL X.K T G ρ ds vs ∧ Post X.K T W E σ G ρ (Rep X.K T) ((if (ds.length == n && ([] : List D).length == ([] : List Str).length) = true then mk (ar ds []) else no) a) Q) I ?_) fun us s1 ⟨vs, H1, I1, r, E, G, ρ, a, ds, r2, q2, p2⟩ => ⟨I1.kIn, ?_⟩) he hpl
  · refine tX.bind (f := fun ds => if (ds.length == n && ([] : List D).length == 0) = true then mk (ar ds []) else no) h fun E es a2 G2 ρ2 H2 zs r2 q2 p2 => ?_
    exact ⟨E, G2, ρ2, a2, es, r2, q2, p2⟩
  · exact make_end (ks := []) (ws := []) (zs := []) (es := []) Mc F hr hb hk tk I1 r .nil r2 q2 RepL.nil p2
theorem px_make0 (Mc : Mk X.K (T.C c) f) (F : FnOk X.prog X.w X.K X.mg X.base (CX X.prog X.w) k f fd ps (spM X.K T np g)) (hr : Room (k + 1) X.A) (hm : X.mg x = some (.ref (T.C c))) (hb : KB X.K T fd ps n [] ar) (hk : MkR X T W c np g mk) (tk : Takes X W)
    (hg : Gl X x := by rfl) (hdb : (x == ("__debug__" : Str)) = false := by decide) :
    PE X (.Call (.Name x p) [] [] pos) (tE X.K T W (makeM n 0 ar mk nilM nilM)) := by
  refine ⟨fun pins s σ H Q I h => ?_⟩
  refine wpAny_Call_Name_kw (ld_glob I hg hm ?_ hdb)
  obtain ⟨E, G, ρ, a, r2, p2⟩ := h
  exact PySem.W.callWith_K0 I.kIn Mc.kp (make_end (ks := []) (ws := []) (zs := []) (es := []) (us := []) (vs := []) (ds := []) Mc F hr hb hk tk I .nil .nil r2 RepL.nil RepL.nil p2)

def callKM (n m : Nat) (ar : List D → List D → List D) (np : Nat) (g : FD) (ms mk2 : M (List D)) : M D := bd ms fun ds => bd mk2 fun zs => if (ds.length == n && zs.length == m) = true then callM np g (ar ds zs) else no
theorem px_callK (F : FnOk X.prog X.w X.K X.mg X.base (CX X.prog X.w) k f fd ps (spM X.K T np g)) (hr : Room k X.A) (hm : X.mg x = some (.ref f)) (hkp : PySem.W.keepIn X.K (.ref f) = true) (hb : KBf X.K T fd ps n ks ar) (tk : Takes X W)
    (ha : PA X (e :: es) (tA X.K T W ms)) (hkw : PKD X T W kws mk2) (hg : Gl X x := by rfl)
    (hall : (backToKw pos (keywordEach kws X.env)).all (·.1.isSome) = true := by rfl) (hks : (backToKw pos (keywordEach kws X.env)).filterMap (·.1) = ks := by rfl) (hdb : (x == ("__debug__" : Str)) = false := by decide)
    (he : starEach (e :: es) X.env = (false, eval e X.env) :: starEach es X.env := by rfl) (hpl : ((backTo pos (starEach (e :: es) X.env)).any (·.1) || (backToKw pos (keywordEach kws X.env)).any (·.1.isNone)) = false := by rfl) :
    PE X (.Call (.Name x p) (e :: es) kws pos) (tE X.K T W (callKM n ks.length ar np g ms mk2)) := by
  refine ⟨fun pins s σ H Q I h => ?_⟩
  refine wpAny_Call_Name_kw (ld_glob I hg hm ?_ hdb)
  refine PySem.W.callWith_KW (h₀ := X.base) I.ok.mod.kin hkp hall (thn (ha.run pos pins s σ H (fun vs H1 => tX X.K T W (RepL X.K T) mk2 σ H1 fun zs H2 => ∃ E G ρ a ds es, AR X.K T E G ρ a σ H2 ∧ RepL X.K T G ρ ds vs ∧ RepL X.K T G ρ es zs ∧ Post X.K T W E σ G ρ (Rep X.K T) ((if (ds.length == n && es.length == ks.length) = true then callM np g (ar ds es) else no) a) Q) I ?_) fun us s1 ⟨vs, H1, I1, r, q⟩ => ?_) hpl he
  · refine tX.bind h fun E ds a1 G1 ρ1 H1 vs r1 q1 p1 => ?_
    refine ⟨E, G1, ρ1, a1, r1, Post.bind p1 fun es a2 G2 ρ2 H2 zs g2 l2 r2 q2 p2 => ?_⟩
    exact ⟨E, G2, ρ2, a2, ds, es, r2, RepL.ge g2 l2 _ _ q1, q2, p2⟩
  · refine thn (hkw.run pos pins s1 σ H1 _ I1 q) fun ws s2 ⟨zs, H2, I2, rz, E, G, ρ, a, ds, es, r2, q1, q2, p2⟩ => ⟨I2.kIn, ?_⟩
    rw [hks]
    obtain ⟨gA, gV, B, hv⟩ := hb.ex
    split at p2
    · rename_i hl
      rw [Bool.and_eq_true, beq_iff_eq, beq_iff_eq] at hl
      have l1 : vs.length = n := by rw [q1.len, hl.1]
      have l2 : zs.length = ks.length := by rw [q2.len, hl.2]
      have hsp := call_read r2 (hv G ρ ds es vs zs q1 q2) p2
      refine wpAny_call (codeAny_mono (F.run X.A X.stack s2 H2 ⟨us, ks.zip ws⟩ (gA us ws) (gV vs zs) Q _ hr I2.env0 (B.to s2 us ws I2.kIn (r.length.symm.trans l1) (rz.length.symm.trans l2)) (B.rel r rz) hsp) fun r s' hq => ?_)
      cases r with
      | error e => exact passAt tk σ pins H2 s2 e s' I2 hq
      | ok fl =>
        cases fl with
        | ret u => exact I2.after hq
        | next => exact False.elim hq
        | brk => exact False.elim hq
        | cont => exact False.elim hq
    · exact p2.elim
end

def methM (tb : TB) (c : Nat) (m : Str) (np : Nat) (g : FD) (dds : List D) (mo : M D) (ms : M (List D)) : M D := bd mo fun o => fun a => match objOf tb a.st o with
  | some (k, fs) => if (k == c && tb.ins k && (fs.lookup m).isNone) = true then (bd ms fun xs => callM np g (o :: (xs ++ dds))) a else .stuck
  | none => .stuck
section
variable {X : Cx} {T : Tab} {W : WX} {k np c : Nat} {f : Addr} {fd : FuncData} {ps : List Str} {g : FD} {dvs : List V} {ds : List Value} {dds : List D} {m : Str} {apos cpos : Pos} {o e : Expr} {es : List Expr} {mo : M D} {ms : M (List D)}
theorem px_meth {tb : TB} (Fc : Fx X.K T) (hT : T.toTB = tb) (F : FnOk X.prog X.w X.K X.mg X.base (CX X.prog X.w) k f fd ps (spM X.K T np g)) (hr : Room k X.A) (hM : Meth X.K (T.C c) m f) (hb : Binds X.K fd ps ds) (hd : Vals dvs ds) (hdd : ∀ G ρ, RepL X.K T G ρ dds dvs) (tk : Takes X W)
    (ho : PE X o (tE X.K T W mo)) (ha : PA X (e :: es) (tA X.K T W ms)) (pl : Sem Bool)
    (ht : eval (.Call (.Attribute o m apos) (e :: es) [] cpos) X.env = (do
      let ov ← eval o X.env
      standAt apos.atName
      let (f, first) ← holding [ov] (getMethod ov m pl)
      callWith cpos f first (backTo cpos (starEach (e :: es) X.env)) (backToKw cpos (keywordEach [] X.env))) := by rfl)
    (he : starEach (e :: es) X.env = (false, eval e X.env) :: starEach es X.env := by rfl) (hpl : (backTo cpos (starEach es X.env)).any (·.1) = false := by rfl) :
    PE X (.Call (.Attribute o m apos) (e :: es) [] cpos) (tE X.K T W (methM tb c m np g dds mo ms)) := by
  subst hT
  refine ⟨fun pins s σ H Q I h => ?_⟩
  refine methcall_of ho I (tX.bind h fun E o a1 G1 ρ1 H1 v r1 q1 p1 => ?_) ht
  cases e1 : objOf T.toTB a1.st o with
  | none => rw [e1] at p1; exact p1.elim
  | some q =>
    obtain ⟨kk, fs⟩ := q
    rw [e1] at p1
    simp only at p1
    split at p1
    · rename_i hc
      rw [Bool.and_eq_true, Bool.and_eq_true, beq_iff_eq] at hc
      obtain ⟨⟨c1, c2⟩, c3⟩ := hc
      subst c1
      obtain ⟨b, dx, fvs, ev, hb', rf⟩ := r1.obj e1 q1
      refine ⟨b, T.C kk, dx, fvs, f, ev, hb', (Fc.cls kk c2).cl, hM, rf.look0 (Option.isNone_iff_eq_none.mp c3), fun s1 I1 => ?_⟩
      refine PySem.W.callWith_K (h₀ := X.base) I1.ok.mod.kin hM.kp (thn (ha.run cpos pins s1 σ H1 (fun vs H2 => ∃ E G ρ a ds, AR X.K T E G ρ a σ H2 ∧ RepL X.K T G ρ ds vs ∧ Rep X.K T G ρ o v ∧ Post X.K T W E σ G ρ (Rep X.K T) (callM np g (o :: (ds ++ dds)) a) Q) I1 ⟨E, G1, ρ1, a1, r1, Post.bind p1 fun xs a2 G2 ρ2 H2 vs g2 l2 r2 q2 p2 => ⟨E, G2, ρ2, a2, xs, r2, q2, Rep.ge g2 l2 _ _ q1, p2⟩⟩) fun us s2 ⟨vs, H2, I2, rz, E, G, ρ, a, ds, r2, q2, q3, p2⟩ => ⟨I2.kIn, ?_⟩) he hpl
      subst ev
      exact run_fnSD (E := fun σ cls d H' => W cls d σ H') (us := .ref b :: us) (vs := .ref b :: vs) F hr hb hd (passAt tk σ) I2 (.cons rfl rz) (call_read r2 (RepL.cons q3 (q2.app (hdd _ _))) p2)
    · exact p1.elim
end
end PL

namespace PL
open PySem PySem.Spec PyProof.Rows L2

abbrev NoX : XK := fun _ _ _ => False
theorem passN {X : Cx} : Passes (L2.CX X.prog X.w) X NoX := fun pins σ H s e s' I c => by
  have tk : ∀ (e : Value) (s' : Shared), False → X.xe e s' := fun _ _ h => h.elim
  unfold L2.CX at c
  exact (by
    first
    | exact c.elim
    | (obtain ⟨_, h⟩ := c; exact h.elim)
    | (simp at c))

structure EqF (K : PySem.W.Frag) (T : Tab) (c : Nat) (f : Addr) : Prop where
  eq : PySem.W.findIn K (.ref (T.C c)) "__eq__" = some (some (.ref f))
  ne : PySem.W.findIn K (.ref (T.C c)) "__ne__" = some (some (.builtin "object.__ne__"))
  fn : PySem.W.isFn K (.ref f) = true
  nf : ∀ d t, tyD T d = some t → PySem.W.notFirst K (T.C c) t = true
section
variable {X : Cx} {pins : List (Addr × Obj)} {σ : L2.St} {H : Hp} {s : Shared}
theorem ty_looks {M : Model} {v : V} {u t : Value} (I : Inv X pins σ H s) (rx : RelV v u) (ty : TyX X.K H v t) : PySem.W.Looks M s.heap (typeOf u) t := by
  obtain ⟨P, kx, hP, _⟩ := kit_of I rx ty
  exact kx.ty M s.heap I.kIn hP
end
theorem run_at {X : Cx} {k : Nat} {f : Addr} {fd : FuncData} {ps : List Str} {sp : Sp} {pins : List (Addr × Obj)} {σ : L2.St} {H : Hp} {s : Shared} {A : Around} {Q : VK} {us : List Value} {vs : List V} (F : FnOk X.prog X.w X.K X.mg X.base (L2.CX X.prog X.w) k f fd ps sp) (hr : Room k A) (hA : A.frames = X.A.frames)
    (hb : Binds X.K fd ps []) (I : Inv X pins σ H s) (r : Vals vs us) (h : sp vs H Q NoX) : wpAny (model X.prog X.w) A (call (.ref f) us) (EP X pins σ Q) X.xe s := by
  have hl := F.len _ _ _ _ h
  have e0 : Env0 X.prog X.w X.K X.mg X.base A X.stack s H := by
    have e := I.env0
    exact ⟨by rw [hA]; exact e.frames, e.mod, e.bs, e.bsz, e.funs, e.frf, e.hok, e.bare⟩
  have b := hb s us I.kIn (by rw [List.append_nil, ← r.length]; exact hl)
  rw [List.append_nil] at b
  refine wpAny_call (codeAny_mono (F.run A X.stack s H ⟨us, []⟩ us vs Q NoX hr e0 b r h) fun r s' hq => ?_)
  cases r with
  | error e => exact passN pins σ H s e s' I hq
  | ok fl =>
    cases fl with
    | ret w => exact I.after hq
    | next => exact False.elim hq
    | brk => exact False.elim hq
    | cont => exact False.elim hq
section
open PySem.W
variable {prog : Program} {w : World} {A : Around} {E : Value → Shared → Prop} {s : Shared} {K : Frag} {x C f : Addr} {ox : Obj} {od : Option Obj} {b : Value}
theorem one_ne {Q : Value → Shared → Prop} (hu : A.in1.units < cLine) (X : K.In s.heap) (I : InstAt s.heap x ox C od) (hm : mroIn K C (.type "object") = some true) (hr : findIn K (.ref C) "__eq__" = some (some (.ref f))) (hf : isFn K (.ref f) = true)
    (h : wpAny (model prog w) A.in1 (call (.ref f) [.ref x, b]) (fun v s' => ∃ k, v = .bool k ∧ Q (.bool (!k)) s') E s) : wpAny (model prog w) A (call (.builtin "object.__ne__") [.ref x, b]) Q E s := by
  refine wpAny_call (codeAny_call_builtin F.cmp_object.ne.plain F.cmpEntry_ne (check_slot (i := "object.__ne__") (owner := "object") (n := "__ne__") F.cmpKind_ne F.cmpSplit_ne (I.type.andThen (looks_mroIn X hm)) (F.cmpArgs_ne _ _) ?_))
  unfold Builtin.«object.__ne__»
  refine wpAny_bind (m := slotArgs "__ne__" 1 _) (wpAny_pure ?_)
  refine wpAny_bind (m := cRoomFor _ _) (wpAny_cRoomFor hu ?_)
  refine wpAny_bind (m := callSpecialIfBound? (.ref x) (Str.ofString "__eq__") _) (ifBound_K X I hr hf (wpAny_mono h (fun r s' hq => ?_) fun _ _ y => y))
  obtain ⟨k, rfl, hq⟩ := hq
  exact wpAny_bind (m := truthy (.bool k)) (wpAny_truthy_bool (wpAny_pure hq))
theorem cmp_neK {Q : Value → Shared → Prop} {tb : Value} {h₀ : Heap} {L : Addr} {m : Str → Option Value} (hu : A.units < cLine) (hu1 : A.in1.units < cLine) (F : Fr h₀ L s.heap m) (X₀ : K.In h₀) (I : InstAt s.heap x ox C od) (hb : Looks (model prog w) s.heap (typeOf b) tb) (hn : notFirst K C tb = true)
    (hne : findIn K (.ref C) "__ne__" = some (some (.builtin "object.__ne__"))) (hm : mroIn K C (.type "object") = some true) (hr : findIn K (.ref C) "__eq__" = some (some (.ref f))) (hf : isFn K (.ref f) = true)
    (h : wpAny (model prog w) A.in1 (call (.ref f) [.ref x, b]) (fun v s' => ∃ k, v = .bool k ∧ Q (.bool (!k)) s') E s) : wpAny (model prog w) A (richCompare .NotEq (.ref x) b) Q E s := by
  have X := X₀.keeps F.keep
  have one : wpAny (model prog w) A (tryCompare (.ref x) "__ne__" b) (fun r s' => ∃ v, r = some v ∧ Q v s') E s := by
    unfold tryCompare
    have c : wpAny (model prog w) A (callSpecialIfBound? (.ref x) "__ne__" [b]) (fun r s' => ∃ k, r = some (.bool k) ∧ Q (.bool k) s') E s := by
      simp only [callSpecialIfBound?, bindSpecialIfBound?]
      refine wpAny_holding (wpAny_bind (wpAny_bind (wpAny_bind (I.type.here ((looks_findIn X hne).here ?_)))))
      refine wpAny_bind (wpAny_askSetting (wpAny_ite ?_))
      have fin : wpAny (model prog w) A (call (.builtin "object.__ne__") ([.ref x] ++ [b]) >>= fun v => pure (some v)) (fun r s' => ∃ k, r = some (.bool k) ∧ Q (.bool k) s') E s :=
        wpAny_bind (wpAny_mono (one_ne (Q := fun v s' => ∃ k, v = .bool k ∧ Q (.bool k) s') hu1 X I hm hr hf (wpAny_mono h (fun v s' hv => by obtain ⟨k, e, q⟩ := hv; exact ⟨k, e, _, rfl, q⟩) fun _ _ e => e)) (fun v s' hv => by obtain ⟨k, e, q⟩ := hv; exact wpAny_pure ⟨k, by rw [e], q⟩) fun _ _ e => e)
      have bnd : bindSpecial (.builtin "object.__ne__") (.ref x) = pure (.builtin "object.__ne__", [.ref x]) := PySem.F.cmp_object.ne.bind (.ref x)
      split
      · exact wpAny_bind ((Looks.of_pure bnd).here (wpAny_pure (by exact fin)))
      · exact wpAny_tryCatch (wpAny_bind ((Looks.of_pure bnd).here (wpAny_pure (by exact fin))))
    refine wpAny_bind (wpAny_mono c (fun r s' hv => ?_) fun _ _ e => e)
    obtain ⟨k, rfl, q⟩ := hv
    exact wpAny_pure ⟨_, rfl, q⟩
  unfold richCompare
  simp only [oneThing_ref]
  refine wpAny_holding (wpAny_bind (wpAny_cRoomFor hu ?_))
  refine wpAny_bind (I.type.here (wpAny_bind (hb.here ?_)))
  split
  · rename_i q
    have e : subIn K tb (.ref C) = some false := by
      rcases Bool.or_eq_true_iff.mp hn with e | e
      · rw [beq_iff_eq.mp e] at q; simp at q
      · exact beq_iff_eq.mp e
    refine wpAny_bind ((looks_subIn X e).here ?_)
    simp only [Bool.false_eq_true, if_false]
    refine wpAny_bind (wpAny_mono one (fun r s' z => ?_) fun _ _ e => e)
    obtain ⟨v, rfl, hq⟩ := z
    exact wpAny_pure hq
  · refine wpAny_bind (wpAny_pure ?_)
    simp only [Bool.false_eq_true, if_false]
    refine wpAny_bind (wpAny_mono one (fun r s' z => ?_) fun _ _ e => e)
    obtain ⟨v, rfl, hq⟩ := z
    exact wpAny_pure hq
end
def rOwn (K : PySem.W.Frag) (T : Tab) (c : Nat) (g : FD) (neg : Bool) : R2 := fun x y H Q => ∃ a dx fs t, x = .ref a ∧ H a = some (.ins (T.C c) dx fs) ∧ TyX K H y t ∧ PySem.W.notFirst K (T.C c) t = true ∧
  spM K T 2 g [x, y] H (fun v H' => ∃ b, v = .bl b ∧ Q (.bl (if neg then !b else b)) H') NoX
section
variable {X : Cx} {T : Tab} {k c : Nat} {f : Addr} {fd : FuncData} {ps : List Str} {g : FD}
theorem op_eqOwn (F : FnOk X.prog X.w X.K X.mg X.base (L2.CX X.prog X.w) k f fd ps (spM X.K T 2 g)) (hr : Room k X.A) (hE : EqF X.K T c f) (hb : Binds X.K fd ps []) : OpR X (compareOp .Eq) (rOwn X.K T c g false) := by
  intro pins s σ H x y v u Q I rx ry h
  obtain ⟨a, dx, fs, t, rfl, ha, ty, nf, sp⟩ := h
  cases rx
  obtain ⟨mA, J, _⟩ := ins_get I.hok ha
  obtain ⟨od, J, _⟩ := J.look
  obtain ⟨m, hF⟩ := I.fr
  show wpAny _ _ (richCompare .Eq (.ref a) u) _ _ _
  refine PySem.W.cmp_K (op := .Eq) hr.units0 hF I.ok.mod.kin J (ty_looks I ry ty) nf hE.eq hE.fn ?_
  refine wpAny_mono (run_at (us := [.ref a, u]) F hr rfl hb I (show Vals [V.ref a, y] [Value.ref a, u] from .cons rfl (.cons ry .nil)) sp) (fun w s' hw => ?_) fun _ _ e => e
  obtain ⟨z, H', I', rz, b, ez, q⟩ := hw
  subst ez
  cases rz
  exact ⟨.bl b, H', I', rfl, q⟩
theorem op_neOwn (Fc : Fx X.K T) (hc : T.ins c = true) (F : FnOk X.prog X.w X.K X.mg X.base (L2.CX X.prog X.w) k f fd ps (spM X.K T 2 g)) (hr : Room (k + 1) X.A) (hE : EqF X.K T c f) (hb : Binds X.K fd ps []) : OpR X (compareOp .NotEq) (rOwn X.K T c g true) := by
  intro pins s σ H x y v u Q I rx ry h
  obtain ⟨a, dx, fs, t, rfl, ha, ty, nf, sp⟩ := h
  cases rx
  obtain ⟨mA, J, _⟩ := ins_get I.hok ha
  obtain ⟨od, J, _⟩ := J.look
  obtain ⟨m, hF⟩ := I.fr
  show wpAny _ _ (richCompare .NotEq (.ref a) u) _ _ _
  refine cmp_neK hr.units0 hr.in1.units0 hF I.ok.mod.kin J (ty_looks I ry ty) nf hE.ne (Fc.cls c hc).hm hE.eq hE.fn ?_
  refine wpAny_mono (run_at (us := [.ref a, u]) F hr.in1 rfl hb I (show Vals [V.ref a, y] [Value.ref a, u] from .cons rfl (.cons ry .nil)) sp) (fun w s' hw => ?_) fun _ _ e => e
  obtain ⟨z, H', I', rz, b, ez, q⟩ := hw
  subst ez
  cases rz
  exact ⟨_, rfl, .bl (!b), H', I', rfl, q⟩
end
structure CmpS (X : Cx) (T : Tab) (W : WX) (op : CmpOp) (f : D → D → M Bool) : Prop where
  ex : ∃ r : R2, OpR X (compareOp op) r ∧ ∀ (x y : D) (E : En) (G : Hp) (ρ : List Addr) (a : AS) (σ : L2.St) (H : Hp) (v w : V) (Q : VK), AR X.K T E G ρ a σ H → Rep X.K T G ρ x v → Rep X.K T G ρ y w → Post X.K T W E σ G ρ EqR (f x y a) (fun b H => Q (.bl b) H) → r v w H Q
def ownB (tb : TB) (c : Nat) (g : FD) (neg : Bool) (x y : D) : M Bool := fun a => match deC a.st y with
  | some y' => if okX tb.ins y' = true then (match g [x, y] a.st with
    | .ok (.bl b) a1 => .ok (if neg then !b else b) { a with st := a1.st }
    | _ => .stuck) else .stuck
  | none => .stuck
def eqO (tb : TB) (c : Nat) (g : FD) (x y : D) : M Bool := fun a => match objOf tb a.st x with
  | some (k, _) => if (k == c && tb.ins c) = true then ownB tb c g false x y a else .stuck
  | none => opt (eqM x y) a
def neO (tb : TB) (c : Nat) (g : FD) (x y : D) : M Bool := fun a => match objOf tb a.st x with
  | some (k, _) => if (k == c && tb.ins c) = true then ownB tb c g true x y a else .stuck
  | none => opt (neM x y) a
section
variable {X : Cx} {T : Tab} {W : WX} {k c : Nat} {f : Addr} {fd : FuncData} {ps : List Str} {g : FD}
theorem ownB_read (Fc : Fx X.K T) {neg : Bool} (hE : EqF X.K T c f) {E : En} {G : Hp} {ρ : List Addr} {a : AS} {σ : L2.St} {H : Hp} {x y : D} {v w : V} {fs : List (Str × D)} {Q : VK} (r : AR X.K T E G ρ a σ H) (q1 : Rep X.K T G ρ x v) (q2 : Rep X.K T G ρ y w)
    (e : objOf T.toTB a.st x = some (c, fs)) (p : Post X.K T W E σ G ρ EqR (ownB T.toTB c g neg x y a) (fun b H => Q (.bl b) H)) : rOwn X.K T c g neg v w H Q := by
  obtain ⟨b, dx, fvs, ev, hb, rf⟩ := r.obj e q1
  unfold ownB at p
  split at p
  · rename_i y' ey
    split at p
    · rename_i hy
      obtain ⟨t, ht⟩ := okX_ty (T := T) hy
      refine ⟨b, dx, fvs, t, ev, hb, r.ty Fc ey ht q2, hE.nf _ _ ht, G, ρ, [x, y], a.st, r.st, RepL.cons q1 (RepL.cons q2 RepL.nil), rfl, ?_⟩
      cases e3 : g [x, y] a.st with
      | stuck => rw [e3] at p; exact p.elim
      | exc c fs a1 => rw [e3] at p; exact p.elim
      | ok d a1 =>
        rw [e3] at p
        cases d with
        | bl b => exact fun G1 ρ1 H1 v1 h1 z1 => ⟨b, rep_bl z1, p G1 ρ1 H1 _ h1.g h1.l (r.after h1) rfl⟩
        | _ => exact p.elim
    · exact p.elim
  · exact p.elim
theorem cs_eq {tb : TB} (hT : T.toTB = tb) (Fc : Fx X.K T) (hu : X.A.units + 64 < cLine) (F : FnOk X.prog X.w X.K X.mg X.base (L2.CX X.prog X.w) k f fd ps (spM X.K T 2 g)) (hr : Room k X.A) (hE : EqF X.K T c f) (hb : Binds X.K fd ps []) : CmpS X T W .Eq (eqO tb c g) := by
  obtain ⟨r0, o0, h0⟩ := (cm_eq (T := T) hu).ex
  refine ⟨_, o0.or (op_eqOwn F hr hE hb), fun x y E G ρ a σ H v w Q r q1 q2 p => ?_⟩
  subst hT
  unfold eqO at p
  split at p
  · rename_i kk fs e
    split at p
    · rename_i hc
      rw [Bool.and_eq_true, beq_iff_eq] at hc
      obtain ⟨rfl, _⟩ := hc
      exact .inr (ownB_read Fc hE r q1 q2 e p)
    · exact p.elim
  · cases e3 : eqM x y with
    | none => rw [e3] at p; exact p.elim
    | some b => rw [e3] at p; exact .inl (h0 x y b e3 G ρ H v w Q r.sub q1 q2 (p G ρ H b Ge.rfl' (List.prefix_refl _) r rfl))
theorem cs_ne {tb : TB} (hT : T.toTB = tb) (Fc : Fx X.K T) (hu : X.A.units + 64 < cLine) (F : FnOk X.prog X.w X.K X.mg X.base (L2.CX X.prog X.w) k f fd ps (spM X.K T 2 g)) (hr : Room (k + 1) X.A) (hc : T.ins c = true) (hE : EqF X.K T c f) (hb : Binds X.K fd ps []) : CmpS X T W .NotEq (neO tb c g) := by
  obtain ⟨r0, o0, h0⟩ := (cm_ne (T := T) hu).ex
  refine ⟨_, o0.or (op_neOwn Fc hc F hr hE hb), fun x y E G ρ a σ H v w Q r q1 q2 p => ?_⟩
  subst hT
  unfold neO at p
  split at p
  · rename_i kk fs e
    split at p
    · rename_i hc
      rw [Bool.and_eq_true, beq_iff_eq] at hc
      obtain ⟨rfl, _⟩ := hc
      exact .inr (ownB_read Fc hE r q1 q2 e p)
    · exact p.elim
  · cases e3 : neM x y with
    | none => rw [e3] at p; exact p.elim
    | some b => rw [e3] at p; exact .inl (h0 x y b e3 G ρ H v w Q r.sub q1 q2 (p G ρ H b Ge.rfl' (List.prefix_refl _) r rfl))
def op2S (f : D → D → M Bool) (ma mb : M D) : M Bool := bd ma fun x => bd mb fun y => f x y
theorem px_cmpS {op : CmpOp} {f : D → D → M Bool} {a b : Expr} {ma mb : M D} {pos : Pos} (c : CmpS X T W op f) (ha : PE X a (tE X.K T W ma)) (hb : PE X b (tE X.K T W mb)) (hm : behindInMarks op b = false := by first | exact nomark _ | rfl) :
    PE X (.Compare a [op] [b] pos) (tE X.K T W (blM (op2S f ma mb))) := by
  obtain ⟨r, ho, hr⟩ := c.ex
  refine PE.imp (pe_cmpR ho ha hb hm) fun σ H Q h => ?_
  have h : tE X.K T W (bd ma fun x => bd mb fun y => bd (f x y) fun b => ret (.bl b)) σ H Q := by
    have e : blM (op2S f ma mb) = bd ma fun x => bd mb fun y => bd (f x y) fun b => ret (.bl b) := by
      funext a
      unfold blM op2S bd
      cases ma a with
      | stuck => rfl
      | exc c fs a1 => rfl
      | ok x a1 =>
        simp only [bind_ok]
        cases mb a1 <;> rfl
    rw [e] at h
    exact h
  refine tX.bind h fun E x a1 G1 ρ1 H1 v r1 q1 p1 => ?_
  refine ⟨E, G1, ρ1, a1, r1, Post.bind p1 fun y a2 G2 ρ2 H2 w g2 l2 r2 q2 p2 => ?_⟩
  refine hr x y E G2 ρ2 a2 σ H2 v w Q r2 (Rep.ge g2 l2 _ _ q1) q2 (Post.bind p2 fun b a3 G3 ρ3 H3 z g3 l3 r3 q3 p3 => ?_)
  cases q3
  exact Post.here p3 r3 to_bl
theorem pt_cmpS {op : CmpOp} {f : D → D → M Bool} {a b : Expr} {ma mb : M D} {pos : Pos} (c : CmpS X T W op f) (ha : PE X a (tE X.K T W ma)) (hb : PE X b (tE X.K T W mb)) (hm : behindInMarks op b = false := by first | exact nomark _ | rfl) :
    PT X (.Compare a [op] [b] pos) (tT X.K T W (op2S f ma mb)) := by
  obtain ⟨r, ho, hr⟩ := c.ex
  refine PT.imp (pt_cmpR ho ha hb hm) fun σ H Q h => ?_
  refine tX.bind h fun E x a1 G1 ρ1 H1 v r1 q1 p1 => ?_
  refine ⟨E, G1, ρ1, a1, r1, Post.bind p1 fun y a2 G2 ρ2 H2 w g2 l2 r2 q2 p2 => ?_⟩
  exact hr x y E G2 ρ2 a2 σ H2 v w _ r2 (Rep.ge g2 l2 _ _ q1) q2 (p2.mono fun b H q => ⟨b, rfl, q⟩)
end
end PL

namespace PL
open PySem PySem.Spec PyProof.Rows L2

section
variable {X : Cx} {T : Tab} {W : WX}
theorem px_no {e : Expr} : PE X e (tE X.K T W no) := ⟨fun pins s σ H Q I ⟨E, G, ρ, a, r, p⟩ => p.elim⟩
theorem pf_no {e : Expr} : PE X e (tF X.K T W no) := ⟨fun pins s σ H Q I ⟨E, G, ρ, a, r, p⟩ => p.elim⟩
theorem pt_no {e : Expr} : PT X e (tT X.K T W no) := ⟨fun pins s σ H Q I ⟨E, G, ρ, a, r, p⟩ => p.elim⟩
theorem ps_no {e : Stmt} : PS X e (tS X.K T W no) := ⟨fun pins s σ H Q I ⟨E, G, ρ, a, r, p⟩ => p.elim⟩
theorem pss_no {e : List Stmt} : PSs X e (tS X.K T W no) := ⟨fun pins s σ H Q I ⟨E, G, ρ, a, r, p⟩ => p.elim⟩
theorem pf_if {c a b : Expr} {mc : M Bool} {ma mb : M (List D)} {pos : Pos} (hc : PT X c (tT X.K T W mc)) (ha : PE X a (tF X.K T W ma)) (hb : PE X b (tF X.K T W mb)) : PE X (.IfExp c a b pos) (tF X.K T W (ifM mc ma mb)) := by
  refine PE.imp (pe_ifExp hc ha hb) fun σ H Q ⟨E, G, ρ, a0, r, p⟩ => ?_
  refine ⟨E, G, ρ, a0, r, PostF.bind p fun c a1 G1 ρ1 H1 v g1 l1 r1 q1 p1 => ?_⟩
  cases q1
  cases c with
  | false => exact iteF ⟨E, G1, ρ1, a1, r1, p1⟩
  | true => exact iteT ⟨E, G1, ρ1, a1, r1, p1⟩
def slotL (i : Nat) (a : AS) : Option (List D) := match a.sl.getD i .emp with
  | .own ds => some ds
  | .val d => lstOf a.st d
  | _ => none
theorem slotL_read {K : PySem.W.Frag} {E : En} {G : Hp} {ρ : List Addr} {a : AS} {σ : L2.St} {H : Hp} (r : AR K T E G ρ a σ H) {i : Nat} {ds : List D} (h : slotL i a = some ds) : ∃ b vs, σ[i]? = some (some (.ref b)) ∧ SqL K H b vs ∧ RepL K T G ρ ds vs := by
  unfold slotL at h
  split at h
  · rename_i ds' e
    cases h
    obtain ⟨v, hσ⟩ := r.slen (getD_some e (fun z => nomatch z))
    obtain ⟨b, us, e2, hb, rl, _⟩ := r.sl i _ v (getD_some e (fun z => nomatch z)) hσ
    subst e2
    exact ⟨b, us, hσ, .inl (.inl hb), rl⟩
  · rename_i d e
    obtain ⟨v, hσ, q⟩ := r.val (getD_some e (fun z => nomatch z))
    obtain ⟨b, vs, ev, hR, rl⟩ := r.lst h q
    subst ev
    exact ⟨b, vs, hσ, hR, rl⟩
  · cases h
def lenO (i : Nat) : M D := fun a => match slotL i a with
  | some ds => .ok (.int ds.length) a
  | none => .stuck
theorem px_lenO {x : Str} {p p1 pos : Pos} (i : Nat) (hm : X.mg "len" = none) (hN : X.N[i]? = some x := by rfl) (hv : Vis X.env.scope x := by first | exact Or.inl rfl | exact Or.inr (Or.inl rfl) | exact Or.inr (Or.inr rfl)) (hd : (x == ("__debug__" : Str)) = false := by decide)
    (hcd : (x == ("__classdict__" : Str)) = false := by decide) (hg : Gl X "len" := by rfl) (he : starEach [.Name x p1] X.env = (false, eval (.Name x p1) X.env) :: starEach [] X.env := by rfl) :
    PE X (.Call (.Name "len" p) [.Name x p1] [] pos) (tE X.K T W (lenO i)) := by
  refine PE.imp (pe_callB call_len hg hm boot_len (pa_cons (pe_var hN hv hd hcd) pa_nil he)) fun σ H Q ⟨E, G, ρ, a, r, p⟩ => ?_
  unfold lenO at p
  split at p
  · rename_i ds e
    obtain ⟨b, vs, hσ, hR, rl⟩ := slotL_read r e
    refine ⟨.ref b, hσ, .ref b, vs.length, rfl, .inl ⟨vs, hR, rfl⟩, ?_⟩
    exact Post.here p r (by rw [rl.len]; exact to_int)
  · exact p.elim
def ixO (i : Nat) (m : M D) : M D := fun a => match slotL i a with
  | some _ => (m a).bind fun k a1 => match slotL i a1, k with
    | some ds, .int k => match L2.atI ds k with
      | some d => .ok d a1
      | none => .stuck
    | _, _ => .stuck
  | none => .stuck
theorem px_ixO {x : Str} {e : Expr} {m : M D} {p1 pos : Pos} (i : Nat) (h : PE X e (tE X.K T W m)) (hN : X.N[i]? = some x := by rfl) (hv : Vis X.env.scope x := by first | exact Or.inl rfl | exact Or.inr (Or.inl rfl) | exact Or.inr (Or.inr rfl)) (hd : (x == ("__debug__" : Str)) = false := by decide)
    (hcd : (x == ("__classdict__" : Str)) = false := by decide) (hs : PlainIx e := by intro _ _; rfl) : PE X (.Subscript (.Name x p1) e pos) (tE X.K T W (ixO i m)) := by
  refine PE.imp (pe_ix ix_seq (pe_var hN hv hd hcd) h hs) fun σ H Q ⟨E, G, ρ, a, r, p⟩ => ?_
  unfold ixO at p
  split at p
  · rename_i ds0 e0
    obtain ⟨b, vs, hσ, _, _⟩ := slotL_read r e0
    refine ⟨.ref b, hσ, E, G, ρ, a, r, Post.bind p fun y a1 G1 ρ1 H1 w g1 l1 r1 q1 p1 => ?_⟩
    split at p1
    · rename_i ds k e1
      split at p1
      · rename_i d e2
        obtain ⟨b', vs', hσ', hR, rl⟩ := slotL_read r1 e1
        rw [hσ] at hσ'
        cases hσ'
        obtain ⟨u, hu, ru⟩ := rl.atI e2
        exact .inl ⟨b, vs', k, u, rfl, rep_int q1, hR, hu, Post.here p1 r1 ru⟩
      · exact p1.elim
    · exact p1.elim
  · exact p.elim
end

def hookY (n : Nat) (fa : List He.Fa) (fn : List He.DefD) (ex : PySem.W.Frag → Bool) : PySem.W.Hook where
  α := He.AlD × Bool
  obs := fun s => (He.obsD fa fn (He.frG s.heap.get? (He.asD s.heap.get? n)), ex (He.frG s.heap.get? (He.asD s.heap.get? n)))
  val := fun _ => (He.valD fn, true)
  says := fun _ h => ∃ K : PySem.W.Frag, K.In h ∧ He.SaysD fa fn K ∧ ex K = true
  of := fun _ _ e => ⟨_, He.frG_in, congrArg (fun z : He.AlD × Bool => z.1) e, congrArg (fun z : He.AlD × Bool => z.2) e⟩
  keeps := fun _ _ _ ⟨K, hK, c⟩ k => ⟨K, PySem.W.Frag.In.keeps hK k, c⟩
def obsY (n : Nat) (fa : List He.Fa) (fn : List He.DefD) (ex : PySem.W.Frag → Bool) (g : Addr → Option Obj) : He.AlD × Bool := (He.obsD fa fn (He.frG g (He.asD g n)), ex (He.frG g (He.asD g n)))
theorem obsY_eq {n : Nat} {fa : List He.Fa} {fn : List He.DefD} {ex : PySem.W.Frag → Bool} {g : Addr → Option Obj} {s : Shared} (h : ∀ a, g a = s.heap.get? a) : obsY n fa fn ex g = (hookY n fa fn ex).obs s := by
  have e : g = s.heap.get? := funext h
  rw [e] <;> rfl
def clsB (K : PySem.W.Frag) (x : Str) : Bool := (He.Fa.cls x).ok K && (He.eqO (PySem.W.findIn K (.ref (He.ga K x)) "__class__") (some (some (.builtin "object.__class__"))) && (He.eqO (PySem.W.specialIn K (.builtin "object.__class__") "__get__") (some (some (.builtin "getset_descriptor.__get__"))) &&
  (decide (PySem.W.takesIn K (.builtin "object.__class__") = some true) && decide (PySem.W.mroIn K (He.ga K x) (.type "object") = some true))))
theorem clsB_ok {K : PySem.W.Frag} {x : Str} (h : clsB K x = true) : ClsF K (He.ga K x) := by
  obtain ⟨h1, h⟩ := He.ba h
  obtain ⟨h2, h⟩ := He.ba h
  obtain ⟨h3, h⟩ := He.ba h
  obtain ⟨h4, h5⟩ := He.ba h
  exact ⟨He.cls_ok h1, He.eqO_ok h2, He.eqO_ok h3, of_decide_eq_true h4, of_decide_eq_true h5⟩
def mkTB (n : Nat) (fls : List (List Str)) : TB := ⟨fun c => fls.getD c [], fun c => decide (c < n)⟩
def mkT (K : PySem.W.Frag) (xs : List Str) (n : Nat) (fls : List (List Str)) (ts : List (Addr × Str) := []) : Tab := ⟨mkTB n fls, fun c => He.ga K (xs.getD c Str.empty), ts⟩
def tyNs : List String := ["NoneType", "bool", "int", "str", "tuple", "list", "dict"]
def isTT (a b : String) : Bool := a == b || (a == "bool" && b == "int")
def isiB (K : PySem.W.Frag) (xs : List Str) (n : Nat) : Bool :=
  (tyNs.all fun a => known.all fun b => decide (PySem.W.kitOne K (.type a) (.type b) = some (isTT a b))) && ((List.range n).all fun c =>
    (tyNs.all fun a => decide (PySem.W.kitOne K (.type a) (.ref (He.ga K (xs.getD c Str.empty))) = some false)) && ((known.all fun b => decide (PySem.W.kitOne K (.ref (He.ga K (xs.getD c Str.empty))) (.type b) = some false)) &&
      (List.range n).all fun k => decide (PySem.W.kitOne K (.ref (He.ga K (xs.getD c Str.empty))) (.ref (He.ga K (xs.getD k Str.empty))) = some (c == k))))
def fxB (K : PySem.W.Frag) (xs : List Str) (n : Nat) (fls : List (List Str)) : Bool := isiB K xs n && (List.range n).all fun c => clsB K (xs.getD c Str.empty) && (fls.getD c []).all fun f => (He.Fa.noat (xs.getD c Str.empty) f).ok K
theorem tyD_cases {T : Tab} {x : D} {t : Value} (h : tyD T x = some t) : (∃ c ds, x = .ins c ds ∧ T.ins c = true ∧ t = .ref (T.C c)) ∨ ∃ a, a ∈ tyNs ∧ t = .type a ∧ tyN x = some a := by
  cases x with
  | ins c ds =>
    unfold tyD at h
    dsimp only at h
    split at h
    · rename_i hi; cases h; exact .inl ⟨c, ds, rfl, hi, rfl⟩
    · cases h
  | ty n => cases h
  | cls n => cases h
  | cell n => cases h
  | fn n => cases h
  | exo c n => cases h
  | non => cases h; exact .inr ⟨_, by decide, rfl, rfl⟩
  | bl b => cases h; exact .inr ⟨_, by decide, rfl, rfl⟩
  | int b => cases h; exact .inr ⟨_, by decide, rfl, rfl⟩
  | str b => cases h; exact .inr ⟨_, by decide, rfl, rfl⟩
  | tup b => cases h; exact .inr ⟨_, by decide, rfl, rfl⟩
  | lst b => cases h; exact .inr ⟨_, by decide, rfl, rfl⟩
  | dic => cases h; exact .inr ⟨_, by decide, rfl, rfl⟩
  | dct _ _ => cases h; exact .inr ⟨_, by decide, rfl, rfl⟩
theorem isB_ty {ins : Nat → Bool} {x : D} {a n : String} {b : Bool} (ha : tyN x = some a) (h : isB ins x (.ty n) = some b) : n ∈ known ∧ isTT a n = b := by
  unfold isB at h
  dsimp only at h
  split at h
  · rename_i hk
    refine ⟨by simpa using hk, ?_⟩
    have hk' : n ∈ known := by simpa using hk
    unfold known at hk'
    simp only [List.mem_cons, List.not_mem_nil, or_false] at hk'
    cases x with
    | ins c ds => cases ha
    | ty m => cases ha
    | cls m => cases ha
    | cell m => cases ha
    | fn m => cases ha
    | exo c m => cases ha
    | _ =>
      cases ha
      cases h
      rcases hk' with rfl | rfl | rfl | rfl | rfl | rfl <;> rfl
  · cases h
theorem fx_ok {K : PySem.W.Frag} {xs : List Str} {n : Nat} {fls : List (List Str)} {ts : List (Addr × Str)} (h : fxB K xs n fls = true) : Fx K (mkT K xs n fls ts) := by
  obtain ⟨h1, h2⟩ := He.ba h
  obtain ⟨h3, h4⟩ := He.ba h1
  have hc : ∀ c, decide (c < n) = true → clsB K (xs.getD c Str.empty) = true ∧ (fls.getD c []).all (fun f => (He.Fa.noat (xs.getD c Str.empty) f).ok K) = true := fun c hc => He.ba (List.all_eq_true.mp h2 c (List.mem_range.mpr (of_decide_eq_true hc)))
  refine ⟨fun c i => clsB_ok (hc c i).1, fun c f i m => He.noat_ok (List.all_eq_true.mp (hc c i).2 f m), fun x c t u b ht hu hb => ?_⟩
  unfold kindD at hu
  split at hu
  · rename_i nm
    cases hu
    rcases tyD_cases ht with ⟨k, ds, rfl, hi, rfl⟩ | ⟨a, ha, rfl, hn⟩
    · obtain ⟨_, h5⟩ := He.ba (List.all_eq_true.mp h4 k (List.mem_range.mpr (of_decide_eq_true hi)))
      obtain ⟨h6, _⟩ := He.ba h5
      unfold isB at hb
      dsimp only at hb
      split at hb
      · rename_i hk
        cases hb
        exact of_decide_eq_true (List.all_eq_true.mp h6 nm (by simpa using hk))
      · cases hb
    · obtain ⟨hk, e⟩ := isB_ty hn hb
      rw [← e]
      exact of_decide_eq_true (List.all_eq_true.mp (List.all_eq_true.mp h3 a ha) nm hk)
  · rename_i kc
    cases hu
    unfold isB at hb
    dsimp only at hb
    split at hb
    · rename_i hk
      obtain ⟨g1, g2⟩ := He.ba (List.all_eq_true.mp h4 kc (List.mem_range.mpr (of_decide_eq_true hk)))
      rcases tyD_cases ht with ⟨k, ds, rfl, hi, rfl⟩ | ⟨a, ha, rfl, hn⟩
      · cases hb
        obtain ⟨_, h5⟩ := He.ba (List.all_eq_true.mp h4 k (List.mem_range.mpr (of_decide_eq_true hi)))
        obtain ⟨_, h6⟩ := He.ba h5
        exact of_decide_eq_true (List.all_eq_true.mp h6 kc (List.mem_range.mpr (of_decide_eq_true hk)))
      · have e : b = false := by
          cases x <;> first | (cases hb; rfl) | cases hn | cases hb
        rw [e]
        exact of_decide_eq_true (List.all_eq_true.mp g1 a ha)
    · cases hb
  · cases hu
def eqB' (K : PySem.W.Frag) (x : Str) (xs : List Str) (n : Nat) : Bool := (He.Fa.meth x "__eq__").ok K && (He.eqO (PySem.W.findIn K (.ref (He.ga K x)) "__ne__") (some (some (.builtin "object.__ne__"))) &&
  ((tyNs.all fun a => PySem.W.notFirst K (He.ga K x) (.type a)) && (List.range n).all fun k => PySem.W.notFirst K (He.ga K x) (.ref (He.ga K (xs.getD k Str.empty)))))
theorem eqF_ok {K : PySem.W.Frag} {xs : List Str} {n : Nat} {fls : List (List Str)} {ts : List (Addr × Str)} (c : Nat) (h : eqB' K (xs.getD c Str.empty) xs n = true) : EqF K (mkT K xs n fls ts) c (He.ma K (He.ga K (xs.getD c Str.empty)) "__eq__") := by
  obtain ⟨h1, h⟩ := He.ba h
  obtain ⟨h2, h⟩ := He.ba h
  obtain ⟨h3, h4⟩ := He.ba h
  have m := He.meth_ok h1
  refine ⟨m.at_, He.eqO_ok h2, m.fn, fun d t ht => ?_⟩
  rcases tyD_cases ht with ⟨k, ds, rfl, hi, rfl⟩ | ⟨a, ha, rfl, hn⟩
  · exact List.all_eq_true.mp h4 k (List.mem_range.mpr (of_decide_eq_true hi))
  · exact List.all_eq_true.mp h3 a ha
def tupAt (K : PySem.W.Frag) (a : Addr) (vs : List He.Dv) : Bool := match K.lookup a with
  | some ⟨.type c, _, .seq its _, _⟩ => decide (c = "tuple") && (decide (its.size ≤ sizeLine) && He.relAll (vs.map (He.Dv.v K)) its.toList)
  | _ => false
theorem tupAt_ok {K : PySem.W.Frag} {a : Addr} {vs : List He.Dv} (h : tupAt K a vs = true) (G : Hp) : TupR K G a (vs.map (He.Dv.v K)) := by
  unfold tupAt at h
  cases q : K.lookup a with
  | none => rw [q] at h; cases h
  | some o =>
    obtain ⟨oc, od, dt, osl⟩ := o
    rw [q] at h
    cases oc with
    | type c =>
      cases dt with
      | seq its n =>
        obtain ⟨h1, h2⟩ := He.ba (show (decide (c = "tuple") && (decide (its.size ≤ sizeLine) && He.relAll (vs.map (He.Dv.v K)) its.toList)) = true from h)
        obtain ⟨h3, h4⟩ := He.ba h2
        exact .inr ⟨_, its, n, q, congrArg Value.type (of_decide_eq_true h1), rfl, of_decide_eq_true h3, He.relAll_ok h4⟩
      | _ => cases h
    | _ => cases dt <;> cases h
def kwdAt (f : Str × Option Str) (x : Str) (K : PySem.W.Frag) : Addr := match K.lookup (He.fAd K f) with
  | some ⟨_, _, .func fd, _⟩ => (match fd.kwdefaults with
    | .ref d => (match PySem.W.nsIn K d x with
      | some (some (.ref a)) => a
      | _ => 0)
    | _ => 0)
  | _ => 0
end PL

namespace PL
open PySem PySem.Spec PyProof.Rows L2

def dvD : He.Dv → Option D
  | .non => some .non
  | .bl b => some (.bl b)
  | .int i => some (.int i)
  | .str x => some (.str x)
  | _ => none
def dvDs : List He.Dv → Option (List D)
  | [] => some []
  | v :: vs => (dvD v).bind fun d => (dvDs vs).map (d :: ·)
section
variable {K : PySem.W.Frag} {T : Tab} {G : Hp} {ρ : List Addr}
theorem lit_rep (v : He.Dv) {d : D} (h : dvD v = some d) : Rep K T G ρ d (v.v K) := by
  cases v <;> first | (cases h; unfold Rep; rfl) | cases h
theorem lits_rep : ∀ {vs : List He.Dv} {ds : List D}, dvDs vs = some ds → RepL K T G ρ ds (vs.map (He.Dv.v K))
  | [], ds, h => by cases h; exact RepL.nil
  | v :: vs, ds, h => by
    unfold dvDs at h
    cases e : dvD v with
    | none => rw [e] at h; cases h
    | some d =>
      rw [e] at h
      simp only [Option.bind_some] at h
      cases e2 : dvDs vs with
      | none => rw [e2] at h; cases h
      | some ds' => rw [e2] at h; cases h; exact RepL.cons (lit_rep v e) (lits_rep e2)
theorem tup_rep {a : Addr} (vs : List He.Dv) {ds : List D} (h : tupAt K a vs = true) (e : dvDs vs = some ds) : Rep K T G ρ (.tup ds) (.ref a) := by
  unfold Rep
  exact ⟨a, _, rfl, tupAt_ok h G, lits_rep e⟩
end
section
variable {X : Cx} {T : Tab} {W : WX}
theorem px_gInt {x : Str} {pos : Pos} (i : Int) (h : ∃ t, X.mg x = some (.int i t)) (hg : Gl X x := by rfl) (hdb : (x == ("__debug__" : Str)) = false := by decide) : PE X (.Name x pos) (tE X.K T W (ret (.int i))) := by
  obtain ⟨t, hm⟩ := h
  exact px_glob (v := .int i) (.int i) hm ⟨t, rfl⟩ (fun G ρ => to_int) hg hdb
theorem px_gStr {x : Str} {pos : Pos} (i : Str) (h : ∃ t, X.mg x = some (.str i t)) (hg : Gl X x := by rfl) (hdb : (x == ("__debug__" : Str)) = false := by decide) : PE X (.Name x pos) (tE X.K T W (ret (.str i))) := by
  obtain ⟨t, hm⟩ := h
  exact px_glob (v := .str i) (.str i) hm ⟨t, rfl⟩ (fun G ρ => to_str) hg hdb
theorem px_gTup {x : Str} {pos : Pos} {a : Addr} {ds : List D} (vs : List He.Dv) (hm : X.mg x = some (.ref a)) (ht : tupAt X.K a vs = true) (e : dvDs vs = some ds) (hg : Gl X x := by rfl) (hdb : (x == ("__debug__" : Str)) = false := by decide) :
    PE X (.Name x pos) (tE X.K T W (ret (.tup ds))) := px_glob (v := .ref a) (.tup ds) hm rfl (fun G ρ => tup_rep vs ht e) hg hdb
theorem takes_blk {s : Shared} {H : Hp} {scope : Scope} {cenv : Env} {fp : List Addr} : Takes (X.blk s H scope cenv fp) WN := fun u s' ⟨a, B, sI, pins, σ, H, cls, d, e, I, nb, up, sky, na, os, ag, w⟩ => w.elim

def maxI (n : Int) : List Int → Int
  | [] => n
  | m :: ms => maxI (if m > n then m else n) ms
def minI (n : Int) : List Int → Int
  | [] => n
  | m :: ms => minI (if m < n then m else n) ms
theorem maxI_is : ∀ (ns : List Int) (n m : Int), m ∈ n :: ns → (∀ y, y ∈ n :: ns → y ≤ m) → maxI n ns = m
  | [], n, m, h, _ => by simp at h; unfold maxI; exact h.symm
  | k :: ns, n, m, h, g => by
    unfold maxI
    refine maxI_is ns _ m ?_ fun y hy => ?_
    · have h1 := g n (by simp)
      have h2 := g k (by simp)
      rcases List.mem_cons.mp h with e | h
      · subst e; have : ¬ k > m := by omega
        rw [if_neg this]; simp
      · rcases List.mem_cons.mp h with e | h
        · subst e
          by_cases z : m > n
          · rw [if_pos z]; simp
          · have : n = m := by omega
            rw [if_neg z, this]; simp
        · exact List.mem_cons_of_mem _ h
    · rcases List.mem_cons.mp hy with e | hy
      · rw [e]; split
        · exact g k (by simp)
        · exact g n (by simp)
      · exact g y (by simp [hy])
theorem minI_is : ∀ (ns : List Int) (n m : Int), m ∈ n :: ns → (∀ y, y ∈ n :: ns → m ≤ y) → minI n ns = m
  | [], n, m, h, _ => by simp at h; unfold minI; exact h.symm
  | k :: ns, n, m, h, g => by
    unfold minI
    refine minI_is ns _ m ?_ fun y hy => ?_
    · have h1 := g n (by simp)
      have h2 := g k (by simp)
      rcases List.mem_cons.mp h with e | h
      · subst e; have : ¬ k < m := by omega
        rw [if_neg this]; simp
      · rcases List.mem_cons.mp h with e | h
        · subst e
          by_cases z : m < n
          · rw [if_pos z]; simp
          · have : n = m := by omega
            rw [if_neg z, this]; simp
        · exact List.mem_cons_of_mem _ h
    · rcases List.mem_cons.mp hy with e | hy
      · rw [e]; split
        · exact g k (by simp)
        · exact g n (by simp)
      · exact g y (by simp [hy])
def intsOf : List D → Option (List Int)
  | [] => some []
  | .int i :: ds => (intsOf ds).map (i :: ·)
  | _ => none
theorem intsOf_eq : ∀ {ds : List D} {ns : List Int}, intsOf ds = some ns → ds = ns.map D.int
  | [], ns, h => by cases h; rfl
  | d :: ds, ns, h => by
    cases d with
    | int i =>
      unfold intsOf at h
      cases e : intsOf ds with
      | none => rw [e] at h; cases h
      | some ms => rw [e] at h; cases h; rw [intsOf_eq e]; rfl
    | _ => cases h
def maxL (st : List Cell) : List D → Option D
  | [x] => (lstOf st x).bind fun ds => (intsOf ds).bind fun ns => match ns with
    | [] => none
    | n :: ns => some (.int (maxI n ns))
  | _ => none
def minL (st : List Cell) : List D → Option D
  | [x] => (lstOf st x).bind fun ds => (intsOf ds).bind fun ns => match ns with
    | [] => none
    | n :: ns => some (.int (minI n ns))
  | _ => none
theorem cl_maxL (hc : X.calm = true) : CalR X T (.builtin "max") maxL := ⟨_, cr_max hc, fun st xs z e W E G ρ a σ H vs Q hst r q p => by
  subst hst
  unfold maxL at e
  split at e
  · rename_i x
    cases e2 : lstOf a.st x with
    | none => rw [e2] at e; cases e
    | some ds =>
      rw [e2] at e
      simp only [Option.bind_some] at e
      cases e3 : intsOf ds with
      | none => rw [e3] at e; cases e
      | some ns =>
        rw [e3] at e
        simp only [Option.bind_some] at e
        cases ns with
        | nil => cases e
        | cons n ns =>
          cases e
          obtain ⟨v, ev, q1⟩ := q.one
          obtain ⟨b, us, eb, hR, rl⟩ := r.lst e2 q1
          subst ev eb
          rw [intsOf_eq e3] at rl
          rw [rl.ints] at hR
          exact ⟨b, n :: ns, rfl, hR, by simp, fun m h1 h2 => by rw [← maxI_is ns n m h1 h2]; exact Post.here p r to_int⟩
  · cases e⟩
theorem cl_minL (hc : X.calm = true) : CalR X T (.builtin "min") minL := ⟨_, cr_min hc, fun st xs z e W E G ρ a σ H vs Q hst r q p => by
  subst hst
  unfold minL at e
  split at e
  · rename_i x
    cases e2 : lstOf a.st x with
    | none => rw [e2] at e; cases e
    | some ds =>
      rw [e2] at e
      simp only [Option.bind_some] at e
      cases e3 : intsOf ds with
      | none => rw [e3] at e; cases e
      | some ns =>
        rw [e3] at e
        simp only [Option.bind_some] at e
        cases ns with
        | nil => cases e
        | cons n ns =>
          cases e
          obtain ⟨v, ev, q1⟩ := q.one
          obtain ⟨b, us, eb, hR, rl⟩ := r.lst e2 q1
          subst ev eb
          rw [intsOf_eq e3] at rl
          rw [rl.ints] at hR
          exact ⟨b, n :: ns, rfl, hR, by simp, fun m h1 h2 => by rw [← minI_is ns n m h1 h2]; exact Post.here p r to_int⟩
  · cases e⟩
end
def meth0M (tb : TB) (c : Nat) (m : Str) (np : Nat) (g : FD) (dds : List D) (mo : M D) : M D := bd mo fun o => fun a => match objOf tb a.st o with
  | some (k, fs) => if (k == c && tb.ins k && (fs.lookup m).isNone) = true then callM np g (o :: dds) a else .stuck
  | none => .stuck
section
variable {X : Cx} {T : Tab} {W : WX} {k np c : Nat} {f : Addr} {fd : FuncData} {ps : List Str} {g : FD} {dvs : List V} {ds : List Value} {dds : List D} {m : Str} {apos cpos : Pos} {o : Expr} {mo : M D}
theorem px_meth0 {tb : TB} (Fc : Fx X.K T) (hT : T.toTB = tb) (F : FnOk X.prog X.w X.K X.mg X.base (CX X.prog X.w) k f fd ps (spM X.K T np g)) (hr : Room k X.A) (hM : Meth X.K (T.C c) m f) (hb : Binds X.K fd ps ds) (hd : Vals dvs ds) (hdd : ∀ G ρ, RepL X.K T G ρ dds dvs) (tk : Takes X W)
    (ho : PE X o (tE X.K T W mo)) (pl : Sem Bool)
    (ht : eval (.Call (.Attribute o m apos) [] [] cpos) X.env = (do
      let ov ← eval o X.env
      standAt apos.atName
      let (f, first) ← holding [ov] (getMethod ov m pl)
      callWith cpos f first (backTo cpos (starEach [] X.env)) (backToKw cpos (keywordEach [] X.env))) := by rfl) :
    PE X (.Call (.Attribute o m apos) [] [] cpos) (tE X.K T W (meth0M tb c m np g dds mo)) := by
  subst hT
  refine ⟨fun pins s σ H Q I h => ?_⟩
  refine methcall_of ho I (tX.bind h fun E o a1 G1 ρ1 H1 v r1 q1 p1 => ?_) ht
  cases e1 : objOf T.toTB a1.st o with
  | none => rw [e1] at p1; exact p1.elim
  | some q =>
    obtain ⟨kk, fs⟩ := q
    rw [e1] at p1
    simp only at p1
    split at p1
    · rename_i hc
      rw [Bool.and_eq_true, Bool.and_eq_true, beq_iff_eq] at hc
      obtain ⟨⟨c1, c2⟩, c3⟩ := hc
      subst c1
      obtain ⟨b, dx, fvs, ev, hb', rf⟩ := r1.obj e1 q1
      refine ⟨b, T.C kk, dx, fvs, f, ev, hb', (Fc.cls kk c2).cl, hM, rf.look0 (Option.isNone_iff_eq_none.mp c3), fun s1 I1 => ?_⟩
      refine PySem.W.callWith_K0 I1.kIn hM.kp ?_
      subst ev
      exact run_fnSD (E := fun σ cls d H' => W cls d σ H') (us := [.ref b]) (vs := [.ref b]) F hr hb hd (passAt tk σ) I1 (.cons rfl .nil) (call_read r1 (RepL.cons q1 (hdd _ _)) p1)
    · exact p1.elim
end
end PL
namespace PL
theorem len_cons {α : Type} {l : List α} {n : Nat} (h : l.length = n + 1) : ∃ a t, l = a :: t ∧ t.length = n := by
  cases l with
  | nil => cases h
  | cons a t => exact ⟨a, t, rfl, Nat.succ.inj h⟩
theorem len_nil {α : Type} {l : List α} (h : l.length = 0) : l = [] := List.eq_nil_of_length_eq_zero h
end PL

namespace PL
open PySem PySem.Spec PyProof.Rows L2

section
variable {M : Model} {h : Heap}
theorem looks_for {α β : Type} {f : α → β → Sem (ForInStep β)} : ∀ (l : List α) (b : β) (tr : List β) (r : β), (tr.length = l.length) →
    (∀ (i : Nat) (a : α) (x y : β), l[i]? = some a → (b :: tr)[i]? = some x → (b :: tr)[i + 1]? = some y → PySem.W.Looks M h (f a x) (.yield y)) → (b :: tr).getLast? = some r → PySem.W.Looks M h (forIn l b f) r
  | [], b, [], r, _, _, e => by
    cases e
    exact PySem.W.Looks.of_pure (by simp)
  | [], b, _ :: _, r, hl, _, e => by cases hl
  | a :: l, b, [], r, hl, _, e => by cases hl
  | a :: l, b, c :: tr, r, hl, hs, e => by
    rw [List.forIn_cons]
    refine PySem.W.Looks.andThen (hs 0 a b c rfl rfl rfl) ?_
    exact looks_for l c tr r (by simpa using hl) (fun i a' x y e1 e2 e3 => hs (i + 1) a' x y (by simpa using e1) (by simpa using e2) (by simpa using e3)) (by rw [List.getLast?_cons_cons] at e; exact e)
end
abbrev Bs := List (Str × Value)
def chk1 (nm : List Str) : Bs → Bs → Bool
  | _, [] => true
  | sl, q :: r => nm.contains q.1 && !(sl.lookup q.1).isSome && chk1 nm (sl ++ [q]) r
def fold2 : Bs → Bs → Bs
  | sl, [] => sl
  | sl, q :: r => fold2 (if (sl.lookup q.1).isNone = true then sl ++ [q] else sl) r
def fold3 (vals : Bs) : Bs → List Str → Option Bs
  | sl, [] => some sl
  | sl, n :: r => if (sl.lookup n).isNone = true then (match vals.lookup n with
    | some v => fold3 vals (sl ++ [(n, v)]) r
    | none => none) else fold3 vals sl r
section
variable {M : Model} {h : Heap}
theorem loop1 {normal kwonly : List Str} {F : Str × Value → Bs × Bs → Sem (ForInStep (Bs × Bs))} (hF : ∀ (q : Str × Value) (sl ex : Bs), (normal ++ kwonly).contains q.1 = true → (sl.lookup q.1).isSome = false → F q (sl, ex) = pure (.yield (sl ++ [q], ex))) :
    ∀ (kw sl ex : Bs), chk1 (normal ++ kwonly) sl kw = true → PySem.W.Looks M h (forIn kw (sl, ex) F) (sl ++ kw, ex)
  | [], sl, ex, _ => PySem.W.Looks.of_pure (by simp)
  | q :: r, sl, ex, e => by
    unfold chk1 at e
    rw [Bool.and_eq_true, Bool.and_eq_true] at e
    rw [List.forIn_cons, hF q sl ex e.1.1 (by simpa using e.1.2)]
    refine PySem.W.Looks.andThen .now ?_
    have := loop1 hF r (sl ++ [q]) ex e.2
    rw [List.append_assoc, List.singleton_append] at this
    exact this
theorem loop2 {F : Str × Value → Bs → Sem (ForInStep Bs)} (hF : ∀ (q : Str × Value) (sl : Bs), F q sl = pure (.yield (if (sl.lookup q.1).isNone = true then sl ++ [q] else sl))) : ∀ (l sl : Bs), PySem.W.Looks M h (forIn l sl F) (fold2 sl l)
  | [], sl => PySem.W.Looks.of_pure (by simp [fold2])
  | q :: r, sl => by
    rw [List.forIn_cons, hF q sl]
    exact PySem.W.Looks.andThen .now (loop2 hF r _)
theorem loop3 {vals : Bs} {F : Str → Bs × List Str → Sem (ForInStep (Bs × List Str))} (hF : ∀ (n : Str) (sl : Bs), (sl.lookup n).isNone = false → F n (sl, []) = pure (.yield (sl, [])))
    (hG : ∀ (n : Str) (sl : Bs) (v : Value), (sl.lookup n).isNone = true → vals.lookup n = some v → PySem.W.Looks M h (F n (sl, [])) (.yield (sl ++ [(n, v)], []))) : ∀ (l : List Str) (sl r : Bs), fold3 vals sl l = some r → PySem.W.Looks M h (forIn l (sl, []) F) (r, [])
  | [], sl, r, e => by cases e; exact PySem.W.Looks.of_pure (by simp)
  | n :: l, sl, r, e => by
    rw [List.forIn_cons]
    unfold fold3 at e
    split at e
    · rename_i hn
      cases e2 : vals.lookup n with
      | none => rw [e2] at e; cases e
      | some v =>
        rw [e2] at e
        exact PySem.W.Looks.andThen (hG n sl v hn e2) (loop3 hF hG l _ r e)
    · rename_i hn
      rw [hF n sl (by simpa using hn)]
      exact PySem.W.Looks.andThen .now (loop3 hF hG l _ r e)
end
def bindOk (normal kwonly : List Str) (us its : List Value) (vals kw : Bs) : Option Bs :=
  if (chk1 (normal ++ kwonly) (normal.zip us) kw && Nat.ble us.length normal.length && Nat.ble its.length normal.length && ((normal.take (normal.length - its.length)).filter fun n => ((normal.zip us ++ kw).lookup n).isNone).isEmpty) = true then
    (fold3 vals (fold2 (normal.zip us ++ kw) ((normal.drop (normal.length - its.length)).zip its)) kwonly).map fun sl => (normal ++ kwonly).filterMap fun n => (sl.lookup n).map (n, ·)
  else none
theorem looks_bind {K : PySem.W.Frag} {M : Model} {h : Heap} (X : K.In h) {fd : FuncData} {us : List Value} {kw vals r : Bs} {o : Option (Array Value)} (h1 : fd.params.posonlyargs = []) (h2 : fd.params.vararg = none) (h3 : fd.params.kwarg = none) (hd : PySem.W.Looks M h (seqItems? fd.defaults) o)
    (hk : ∀ n v, vals.lookup n = some v → ∃ D, fd.kwdefaults = .ref D ∧ PySem.W.nsIn K D n = some (some v)) (hb : bindOk (fd.params.args.map (·.arg)) (fd.params.kwonlyargs.map (·.arg)) us (o.getD #[]).toList vals kw = some r) : PySem.W.Looks M h (bindArgs fd ⟨us, kw⟩) r := by
  unfold bindOk at hb
  split at hb
  · rename_i hc
    rw [Bool.and_eq_true, Bool.and_eq_true, Bool.and_eq_true] at hc
    obtain ⟨⟨⟨c1, c2⟩, c3⟩, c4⟩ := hc
    have c2 := Nat.le_of_ble_eq_true c2
    have c3 := Nat.le_of_ble_eq_true c3
    cases e3 : fold3 vals (fold2 ((fd.params.args.map (·.arg)).zip us ++ kw) (((fd.params.args.map (·.arg)).drop ((fd.params.args.map (·.arg)).length - (o.getD #[]).toList.length)).zip (o.getD #[]).toList)) (fd.params.kwonlyargs.map (·.arg)) with
    | none => rw [e3] at hb; cases hb
    | some sl =>
      rw [e3] at hb
      cases hb
      unfold bindArgs
      dsimp only
      rw [h1, h2, h3]
      simp only [List.map_nil, List.nil_append]
      refine PySem.W.Looks.andThen (loop1 (normal := fd.params.args.map (·.arg)) (kwonly := fd.params.kwonlyargs.map (·.arg)) (fun q sl ex g1 g2 => ?_) kw _ [] c1) ?_
      · obtain ⟨k, v⟩ := q
        have g1' : ((fd.params.args.map (·.arg)).contains k || (fd.params.kwonlyargs.map (·.arg)).contains k) = true := by
          simpa using g1
        dsimp only
        rw [if_pos g1', if_neg (by rw [g2]; exact Bool.false_ne_true)]
      dsimp only
      refine PySem.W.Looks.andThen hd ?_
      have n1 : ¬ ((us.length > (fd.params.args.map (·.arg)).length ∧ (none : Option Arg).isNone = true)) := fun z => absurd z.1 (Nat.not_lt.mpr c2)
      have d0 : List.drop ((o.getD #[]).toList.length - (fd.params.args.map (·.arg)).length) (o.getD #[]).toList = (o.getD #[]).toList := by
        rw [Nat.sub_eq_zero_of_le c3, List.drop_zero]
      have c4' : List.filter (fun n => (List.lookup n ((fd.params.args.map (·.arg)).zip us ++ kw)).isNone) (List.take ((fd.params.args.map (·.arg)).length - (o.getD #[]).toList.length) (fd.params.args.map (·.arg))) = [] := by
        simpa using c4
      simp only [d0, c4', List.isEmpty_nil, Bool.not_true, Bool.false_eq_true, if_false]
      have n2 : ((decide (us.length > (fd.params.args.map (·.arg)).length) && (none : Option Arg).isNone) = true) = False := by
        simp only [Option.isNone_none, Bool.and_true, decide_eq_true_eq, eq_iff_iff, iff_false]
        omega
      have n3 : (us.length > (fd.params.args.map (·.arg)).length) = False := by
        simp only [eq_iff_iff, iff_false]
        omega
      simp only [n2, n3, false_and, if_false, Option.isNone_none, and_true]
      refine PySem.W.Looks.andThen (loop2 (fun q sl => ?_) _ _) ?_
      · obtain ⟨k, v⟩ := q
        dsimp only
        by_cases z : (List.lookup k sl).isNone = true
        · rw [if_pos z, if_pos z]
        · rw [if_neg z, if_neg z]
      refine PySem.W.Looks.andThen (loop3 (vals := vals) (fun n sl g => ?_) (fun n sl v g1 g2 => ?_) _ _ _ e3) ?_
      · dsimp only
        rw [if_neg (by rw [g]; exact Bool.false_ne_true)]
      · dsimp only
        rw [if_pos g1]
        obtain ⟨D, ed, en⟩ := hk n v g2
        rw [ed]
        dsimp only
        exact PySem.W.Looks.andThen (PySem.W.looks_nsIn X en) .now
      simp only [List.isEmpty_nil, Bool.not_true, Bool.false_eq_true, if_false]
      exact PySem.W.Looks.of_pure rfl
  · cases hb

theorem vals_lookup {K : PySem.W.Frag} {D : Addr} {u : Value} : ∀ {ms : List (Str × V)} {mv : List Value}, (∀ q ∈ (ms.map (·.1)).zip mv, PySem.W.nsIn K D q.1 = some (some q.2)) → ∀ n v, ((ms.map (·.1)).zip mv).lookup n = some v → PySem.W.nsIn K D n = some (some v) := fun h n v e => h (n, v) (PySem.mem_of_lookup e)
section
variable {K : PySem.W.Frag} {T : Tab} {x qual : Str} {params : Arguments} {body : List Stmt} {scope : Scope} {dvs : List V} {kws : List (Str × V)} {f : Addr} {fd : FuncData} {ps : List Str}
theorem kbn_gen (F : FunD K x qual params body scope dvs kws f fd) (n : Nat) (ks : List Str) (g : {α : Type} → List α → List α → List α → List α → List α) (hrel : ∀ {vs ds mz zs : List V} {us its mv ws : List Value}, Vals vs us → Vals ds its → Vals mz mv → Vals zs ws → Vals (g vs ds mz zs) (g us its mv ws))
    (h1 : params.posonlyargs = []) (h2 : params.vararg = none) (h3 : params.kwarg = none)
    (h : ∀ us its mv ws : List Value, us.length = n → its.length = dvs.length → mv.length = kws.length → ws.length = ks.length → bindOk (params.args.map (·.arg)) (params.kwonlyargs.map (·.arg)) us its ((kws.map (·.1)).zip mv) (ks.zip ws) = some (ps.zip (g us its mv ws))) :
    ∃ its mv : List Value, KBn K fd ps n ks (fun us ws => g us its mv ws) (fun vs zs => g vs dvs (kws.map (·.2)) zs) := by
  obtain ⟨oc, od, dV, kV, doc, pm, an, cdv, ct, osl, rfl, lk, hcd, hD, hK⟩ := F.ex
  obtain ⟨its, rT, hdl⟩ : ∃ its : List Value, Vals dvs its ∧ ∃ o : Option (Array Value), (o.getD #[]).toList = its ∧ ∀ (M : Model) (hp : Heap), K.In hp → PySem.W.Looks M hp (seqItems? dV) o := by
    rcases hD with ⟨rfl, rfl⟩ | ⟨_, Ta, o, its, m, rfl, lT, oT, rT⟩
    · exact ⟨[], .nil, none, rfl, fun M hp X => PySem.W.Looks.of_pure rfl⟩
    · refine ⟨its, rT, some its.toArray, by simp, fun M hp X => ?_⟩
      have := looks_items (k := fun r => pure r) (r := some its.toArray) (M := M) X lT oT .now
      rw [bind_pure] at this
      exact this
  obtain ⟨o, eo, hl⟩ := hdl
  obtain ⟨mv, hm, rk, hks⟩ : ∃ mv : List Value, mv.length = kws.length ∧ Vals (kws.map (·.2)) mv ∧ ∀ nm v, ((kws.map (·.1)).zip mv).lookup nm = some v → ∃ D, kV = .ref D ∧ PySem.W.nsIn K D nm = some (some v) := by
    rcases hK with rfl | ⟨D, rfl, hq⟩
    · exact ⟨[], rfl, .nil, fun nm v e => by cases e⟩
    · obtain ⟨mv, hm, rk, hks⟩ := kwd_vals hq
      exact ⟨mv, hm, rk, fun nm v e => ⟨D, rfl, hks (nm, v) (PySem.mem_of_lookup e)⟩⟩
  refine ⟨its, mv, ⟨fun s us ws X l1 l2 => BindsTo.of_looks fun M => ?_, fun r1 r2 => hrel r1 rT rk r2⟩⟩
  exact looks_bind (fd := PySem.W.fnOf x qual params body scope dV kV doc pm an cdv ct) X h1 h2 h3 (hl M s.heap X) hks (by rw [eo]; exact h us its mv ws l1 rT.length.symm hm l2)
theorem kb_gen (F : FunD K x qual params body scope dvs kws f fd) (n : Nat) (ks : List Str) (ss : List Src) (dds mds : List D) (hdd : ∀ G ρ, RepL K T G ρ dds dvs) (hmd : ∀ G ρ, RepL K T G ρ mds (kws.map (·.2))) (h1 : params.posonlyargs = []) (h2 : params.vararg = none) (h3 : params.kwarg = none)
    (h : ∀ us its mv ws : List Value, us.length = n + 1 → its.length = dvs.length → mv.length = kws.length → ws.length = ks.length → bindOk (params.args.map (·.arg)) (params.kwonlyargs.map (·.arg)) us its ((kws.map (·.1)).zip mv) (ks.zip ws) = some (ps.zip (gSelf ss us its mv ws))) :
    KB K T fd ps n ks (fun ds zs => arr ss ds dds mds zs) := by
  obtain ⟨its, mv, B⟩ := kbn_gen F (n + 1) ks (fun us its mv ws => gSelf ss us its mv ws) (gSelf_rel ss) h1 h2 h3 h
  exact ⟨_, _, B, fun G ρ x ds zs vs ws r1 r2 => ⟨_, rfl, repL_arr r1 (hdd G ρ) (hmd G ρ) r2 ss⟩⟩
theorem kbf_gen (F : FunD K x qual params body scope dvs kws f fd) (n : Nat) (ks : List Str) (ss : List Src) (dds mds : List D) (hdd : ∀ G ρ, RepL K T G ρ dds dvs) (hmd : ∀ G ρ, RepL K T G ρ mds (kws.map (·.2))) (h1 : params.posonlyargs = []) (h2 : params.vararg = none) (h3 : params.kwarg = none)
    (h : ∀ us its mv ws : List Value, us.length = n → its.length = dvs.length → mv.length = kws.length → ws.length = ks.length → bindOk (params.args.map (·.arg)) (params.kwonlyargs.map (·.arg)) us its ((kws.map (·.1)).zip mv) (ks.zip ws) = some (ps.zip (arr ss us its mv ws))) :
    KBf K T fd ps n ks (fun ds zs => arr ss ds dds mds zs) := by
  obtain ⟨its, mv, B⟩ := kbn_gen F n ks (fun us its mv ws => arr ss us its mv ws) (fun a b c d => vals_arr a b c d ss) h1 h2 h3 h
  exact ⟨_, _, B, fun G ρ ds zs vs ws r1 r2 => repL_arr r1 (hdd G ρ) (hmd G ρ) r2 ss⟩
end
end PL

namespace PL
open PySem PySem.Spec PyProof.Rows L2
theorem FunD_uniq {K : PySem.W.Frag} {x qual : Str} {params : Arguments} {body : List Stmt} {scope : Scope} {dvs : List V} {kws : List (Str × V)} {f : Addr} {fd fd' : FuncData} (F : FunD K x qual params body scope dvs kws f fd) (F' : FunD K x qual params body scope dvs kws f fd') : fd' = fd := by
  obtain ⟨oc, od, dV, kV, doc, pm, an, cdv, ct, osl, e, lk, _⟩ := F.ex
  obtain ⟨oc', od', dV', kV', doc', pm', an', cdv', ct', osl', e', lk', _⟩ := F'.ex
  rw [lk] at lk'
  injection lk' with h
  injection h with _ _ h _
  injection h with h
  exact h.symm
theorem FnOk_close {P : Program} {w : World} {K : PySem.W.Frag} {mg : Str → Option Value} {base : Heap} {k : Nat} {f : Addr} {fd : FuncData} {ps : List Str} {sp : Sp} (F : FnOk P w K mg base (L2.CX P w) k f fd ps sp) : FnOk P w K mg base L2.CX0 k f fd ps (fun vs H Q _ => sp vs H Q NoX) := by
  refine ⟨fun vs H Q E h => F.len vs H Q NoX h, fun A outer s H args us vs Q E hr e0 hb hv h => codeAny_mono (F.run A outer s H args us vs Q NoX hr e0 hb hv h) fun r s' hq => ?_⟩
  cases r with
  | error e => exact (by
      obtain ⟨a, B, H', cls, d, _, _, _, _, _, _, _, hE⟩ := (show L2.CX P w outer H s NoX e s' from hq)
      exact hE.elim)
  | ok fl =>
    cases fl with
    | ret u => exact hq
    | next => exact hq
    | brk => exact hq
    | cont => exact hq
theorem ints_rep {K : PySem.W.Frag} {T : Tab} {G : Hp} {ρ : List Addr} : ∀ ns : List Int, RepL K T G ρ (ns.map D.int) (ns.map V.int)
  | [] => RepL.nil
  | n :: ns => RepL.cons to_int (ints_rep ns)
theorem SqL_nt {K : PySem.W.Frag} {H : Hp} {a : Addr} {us : List V} (h : SqL K H a us) : SqL K (nt H) a us := by
  rcases h with (h | ⟨o, h⟩) | h
  · exact .inl (.inl (nt_of h (fun _ z => nomatch z)))
  · exact .inl (.inr ⟨o, nt_of h (fun _ z => nomatch z)⟩)
  · exact .inr h
theorem law_sp {K : PySem.W.Frag} {T : Tab} {f : FD} {ns : List Int} {H : Hp} {a : Addr} (h : ∃ st, f [.lst (ns.map D.int)] [] = .ok (.bl true) st) (hS : SqL K H a (ns.map V.int)) (ht : ∀ p ∈ T.tabs, LamX.TabS H p.1 p.2 := by exact fun _ z => nomatch z) : spM K T 1 f [.ref a] H (fun v _ => v = .bl true) NoX := by
  obtain ⟨st, e⟩ := h
  refine ⟨nt H, [], [.lst (ns.map D.int)], [], ⟨fun _ _ e => (nt_some e).1, rfl, fun i b c e => by simp at e, List.nodup_nil, fun b hb => by simp at hb, ht, fun _ _ => nt_tbl⟩, RepL.cons (by unfold Rep; exact ⟨a, _, rfl, SqL_nt hS, ints_rep ns⟩) RepL.nil, rfl, ?_⟩
  rw [e]
  exact fun G' ρ' H' v _ q => rep_bl q
end PL

namespace PL
open PySem PySem.Spec PyProof.Rows L2

structure OpF (K : PySem.W.Frag) (T : Tab) (op : Operator) (c : Nat) (f : Addr) : Prop where
  at_ : PySem.W.findIn K (.ref (T.C c)) (PySem.dunder op.info.2) = some (some (.ref f))
  fn : PySem.W.isFn K (.ref f) = true
  sf : PySem.W.selfFirst K (T.C c) = true
def rBin (K : PySem.W.Frag) (T : Tab) (c : Nat) (g : FD) : R2 := fun x y H Q => ∃ a dx fs b dy gs, x = .ref a ∧ H a = some (.ins (T.C c) dx fs) ∧ y = .ref b ∧ H b = some (.ins (T.C c) dy gs) ∧ spM K T 2 g [x, y] H (fun v H' => (∃ p, v = .ref p) ∧ Q v H') NoX
section
variable {X : Cx} {T : Tab} {k c : Nat} {f : Addr} {fd : FuncData} {ps : List Str} {g : FD}
theorem op_own {op : Operator} (F : FnOk X.prog X.w X.K X.mg X.base (L2.CX X.prog X.w) k f fd ps (spM X.K T 2 g)) (hr : Room k X.A) (hE : OpF X.K T op c f) (hb : Binds X.K fd ps []) : OpR X (binaryOp op) (rBin X.K T c g) := by
  intro pins s σ H x y v u Q I rx ry h
  obtain ⟨a, dx, fs, b, dy, gs, rfl, ha, rfl, hbb, sp⟩ := h
  cases rx
  cases ry
  obtain ⟨mA, J, _⟩ := ins_get I.hok ha
  obtain ⟨od, J, _⟩ := J.look
  obtain ⟨mB, J2, _⟩ := ins_get I.hok hbb
  obtain ⟨od2, J2, _⟩ := J2.look
  obtain ⟨m, hF⟩ := I.fr
  refine PySem.W.binop_K hF I.ok.mod.kin J J2.type hE.sf hE.at_ hE.fn ?_
  refine wpAny_mono (run_at (us := [.ref a, .ref b]) F hr rfl hb I (show Vals [V.ref a, V.ref b] [Value.ref a, Value.ref b] from .cons rfl (.cons rfl .nil)) sp) (fun w s' hw => ?_) fun _ _ e => e
  obtain ⟨z, H', I', rz, ⟨p, ez⟩, q⟩ := hw
  subst ez
  cases rz
  exact ⟨.ref p, H', I', rfl, q⟩
end
def isI (c : Nat) : D → Bool
  | .ins k _ => k == c
  | _ => false
def refD : D → Bool
  | .ins _ _ => true
  | .tup _ => true
  | .lst _ => true
  | .cell _ => true
  | _ => false
theorem refD_of {K : PySem.W.Frag} {T : Tab} {G : Hp} {ρ : List Addr} {d : D} {v : V} (h : refD d = true) (q : Rep K T G ρ d v) : ∃ p, v = .ref p := by
  cases d with
  | ins c ds => unfold Rep at q; obtain ⟨a, dx, vs, e, _⟩ := q; exact ⟨a, e⟩
  | tup ds => unfold Rep at q; obtain ⟨a, vs, e, _⟩ := q; exact ⟨a, e⟩
  | lst ds => unfold Rep at q; obtain ⟨a, vs, e, _⟩ := q; exact ⟨a, e⟩
  | cell i => unfold Rep at q; obtain ⟨a, _, e⟩ := q; exact ⟨a, e⟩
  | _ => cases h
def binO (c : Nat) (g : FD) (x y : D) : M D := fun a => if (isI c x && isI c y) = true then (match g [x, y] a.st with
  | .ok d a1 => if refD d = true then .ok d { a with st := a1.st } else .stuck
  | _ => .stuck) else .stuck
def opS (f : D → D → M D) (ma mb : M D) : M D := bd ma fun x => bd mb fun y => f x y
theorem ins_rep {K : PySem.W.Frag} {T : Tab} {G : Hp} {ρ : List Addr} {c : Nat} {d : D} {v : V} (h : isI c d = true) (q : Rep K T G ρ d v) : ∃ a dx fs, v = .ref a ∧ G a = some (.ins (T.C c) dx fs) := by
  cases d with
  | ins k ds =>
    unfold isI at h
    rw [beq_iff_eq] at h
    subst h
    unfold Rep at q
    obtain ⟨a, dx, vs, e, g, _⟩ := q
    exact ⟨a, dx, _, e, g⟩
  | _ => cases h
section
variable {X : Cx} {T : Tab} {W : WX} {k c : Nat} {f : Addr} {fd : FuncData} {ps : List Str} {g : FD}
theorem px_binO {op : Operator} {a b : Expr} {ma mb : M D} {pos : Pos} (F : FnOk X.prog X.w X.K X.mg X.base (L2.CX X.prog X.w) k f fd ps (spM X.K T 2 g)) (hr : Room k X.A) (hE : OpF X.K T op c f) (hb : Binds X.K fd ps [])
    (h1 : PE X a (tE X.K T W ma)) (h2 : PE X b (tE X.K T W mb)) : PE X (.BinOp a op b pos) (tE X.K T W (opS (binO c g) ma mb)) := by
  refine PE.imp (pe_op (op_own F hr hE hb) h1 h2) fun σ H Q h => ?_
  refine tX.bind h fun E x a1 G1 ρ1 H1 v r1 q1 p1 => ?_
  refine ⟨E, G1, ρ1, a1, r1, Post.bind p1 fun y a2 G2 ρ2 H2 w g2 l2 r2 q2 p2 => ?_⟩
  have q1' := Rep.ge g2 l2 _ _ q1
  unfold binO at p2
  split at p2
  · rename_i hc
    obtain ⟨hx, hy⟩ := Bool.and_eq_true_iff.mp hc
    obtain ⟨p, dx, fs, ep, gp⟩ := ins_rep hx q1'
    obtain ⟨p', dx', fs', ep', gp'⟩ := ins_rep hy q2
    refine ⟨p, dx, fs, p', dx', fs', ep, r2.sub _ _ gp, ep', r2.sub _ _ gp', G2, ρ2, [x, y], a2.st, r2.st, RepL.cons q1' (RepL.cons q2 RepL.nil), rfl, ?_⟩
    cases e3 : g [x, y] a2.st with
    | stuck => rw [e3] at p2; exact p2.elim
    | exc c fs a1 => rw [e3] at p2; exact p2.elim
    | ok d a3 =>
      rw [e3] at p2
      dsimp only at p2
      split at p2
      · rename_i hd
        exact fun G3 ρ3 H3 v1 h3 z3 => ⟨refD_of hd z3, p2 G3 ρ3 H3 _ h3.g h3.l (r2.after h3) z3⟩
      · exact p2.elim
  · exact p2.elim
end
def opB' (K : PySem.W.Frag) (x m : Str) : Bool := (He.Fa.meth x m).ok K && PySem.W.selfFirst K (He.ga K x)
theorem opF_ok {K : PySem.W.Frag} {xs : List Str} {n : Nat} {fls : List (List Str)} {ts : List (Addr × Str)} (c : Nat) {op : Operator} {m : Str} (hm : PySem.dunder op.info.2 = m) (h : opB' K (xs.getD c Str.empty) m = true) : OpF K (mkT K xs n fls ts) op c (He.ma K (He.ga K (xs.getD c Str.empty)) m) := by
  obtain ⟨h1, h2⟩ := He.ba h
  have M := He.meth_ok h1
  exact ⟨by rw [hm]; exact M.at_, M.fn, h2⟩

def truD (st : List Cell) : D → Option Bool
  | .non => some false
  | .bl b => some b
  | .int i => some (i != 0)
  | .tup ds => some (!ds.isEmpty)
  | .lst ds => some (!ds.isEmpty)
  | _ => none
theorem isEmpty_rep {K : PySem.W.Frag} {T : Tab} {G : Hp} {ρ : List Addr} {ds : List D} {vs : List V} (h : RepL K T G ρ ds vs) : ds.isEmpty = vs.isEmpty := by
  cases ds with
  | nil => rw [h.inv0]; rfl
  | cons d ds => obtain ⟨v, r, e, _⟩ := h.inv; rw [e]; rfl
theorem truD_ok {K : PySem.W.Frag} {T : Tab} {E : En} {G : Hp} {ρ : List Addr} {a : AS} {σ : L2.St} {H : Hp} {d : D} {v : V} {b : Bool} (r : AR K T E G ρ a σ H) (q : Rep K T G ρ d v) (h : truD a.st d = some b) : TruV K v H b := by
  unfold truD at h
  split at h
  · cases h; unfold Rep at q; rw [q]; rfl
  · cases h; unfold Rep at q; rw [q]; rfl
  · cases h; unfold Rep at q; rw [q]; rfl
  · cases h
    unfold Rep at q
    obtain ⟨p, vs, e, t, l⟩ := q
    rw [e]
    exact .inr (.inl ⟨vs, SqT.ge t.sq r.sub, by rw [isEmpty_rep l]⟩)
  · cases h
    unfold Rep at q
    obtain ⟨p, vs, e, t, l⟩ := q
    rw [e]
    exact .inl ⟨vs, SqL.ge t r.sub, by rw [isEmpty_rep l]⟩
  · cases h
def orG (m n : M D) : M D := bd m fun x => bd (rdM fun st => truD st x) fun c => if c = true then ret x else n
def andG (m n : M D) : M D := bd m fun x => bd (rdM fun st => truD st x) fun c => if c = true then n else ret x
section
variable {X : Cx} {T : Tab} {W : WX}
theorem px_orG {a b : Expr} {rest : List Expr} {m n : M D} {pos : Pos} (h : PE X a (tE X.K T W m)) (t : PE X (.BoolOp .Or (b :: rest) pos) (tE X.K T W n)) : PE X (.BoolOp .Or (a :: b :: rest) pos) (tE X.K T W (orG m n)) := by
  refine PE.imp (pe_orT h t) fun σ H Q h => ?_
  refine tX.bind h fun E x a1 G1 ρ1 H1 v r1 q1 p1 => ?_
  unfold bd rdM at p1
  dsimp only at p1
  cases e1 : truD a1.st x with
  | none => rw [e1] at p1; exact p1.elim
  | some c =>
    rw [e1] at p1
    refine ⟨c, truD_ok r1 q1 e1, ?_⟩
    cases c with
    | false => exact iteF ⟨E, G1, ρ1, a1, r1, p1⟩
    | true => exact iteT (Post.here p1 r1 q1)
theorem px_andG {a b : Expr} {rest : List Expr} {m n : M D} {pos : Pos} (h : PE X a (tE X.K T W m)) (t : PE X (.BoolOp .And (b :: rest) pos) (tE X.K T W n)) : PE X (.BoolOp .And (a :: b :: rest) pos) (tE X.K T W (andG m n)) := by
  refine PE.imp (pe_andT h t) fun σ H Q h => ?_
  refine tX.bind h fun E x a1 G1 ρ1 H1 v r1 q1 p1 => ?_
  unfold bd rdM at p1
  dsimp only at p1
  cases e1 : truD a1.st x with
  | none => rw [e1] at p1; exact p1.elim
  | some c =>
    rw [e1] at p1
    refine ⟨c, truD_ok r1 q1 e1, ?_⟩
    cases c with
    | true => exact iteT ⟨E, G1, ρ1, a1, r1, p1⟩
    | false => exact iteF (Post.here p1 r1 q1)
end

theorem RepL.three {K : PySem.W.Frag} {T : Tab} {G : Hp} {ρ : List Addr} {d d' d2 : D} {vs : List V} (h : RepL K T G ρ [d, d', d2] vs) : ∃ u v w, vs = [u, v, w] ∧ Rep K T G ρ d u ∧ Rep K T G ρ d' v ∧ Rep K T G ρ d2 w := by
  obtain ⟨v, r, e, q, t⟩ := h.inv
  obtain ⟨u, w, e2, q2, q3⟩ := t.two
  rw [e2] at e
  exact ⟨v, u, w, e, q, q2, q3⟩
def par3M (i j l : Nat) (ma mb mc : M D) : M Fl := bd (consM ma (consM mb (consM mc nilM))) fun xs => fun a => match xs with
  | [x, y, z] => .ok .nx { a with sl := ((a.sl.set i (.val x)).set j (.val y)).set l (.val z) }
  | _ => .stuck
section
variable {X : Cx} {T : Tab} {W : WX}
theorem ps_par3X (i j l : Nat) {x y z : Str} {a b c : Expr} {ma mb mc : M D} {px py pz pt : Pos} {kt k2 pt2 pos} (ha : PE X a (tE X.K T W ma)) (hb : PE X b (tE X.K T W mb)) (hc : PE X c (tE X.K T W mc))
    (hps : ∀ ta, PA X [a, b, c] ta → PS X (.Assign [.Tuple [.Name x px, .Name y py, .Name z pz] kt pt] (.Tuple [a, b, c] k2 pt2) pos) (tPar3 i j l ta))
    (hs : starEach [a, b, c] X.env = (false, eval a X.env) :: starEach [b, c] X.env := by rfl) (hs2 : starEach [b, c] X.env = (false, eval b X.env) :: starEach [c] X.env := by rfl) (hs3 : starEach [c] X.env = (false, eval c X.env) :: starEach [] X.env := by rfl) :
    PS X (.Assign [.Tuple [.Name x px, .Name y py, .Name z pz] kt pt] (.Tuple [a, b, c] k2 pt2) pos) (tS X.K T W (par3M i j l ma mb mc)) := by
  refine PS.imp (hps _ (px_cons ha (px_cons hb (px_cons hc px_nil hs3) hs2) hs)) fun De σ H h => ?_
  refine tS.bind h fun E xs a1 G1 ρ1 H1 vs r1 q1 p1 => ?_
  split at p1
  · obtain ⟨u, v, w, ev, h1, h2, h3⟩ := q1.three
    exact ⟨u, v, w, ev, p1 G1 ρ1 _ H1 Ge.rfl' (List.prefix_refl _) (((r1.setV i h1).setV j h2).setV l h3)⟩
  · exact p1.elim
structure Cst (X : Cx) (e : Expr) (d : D) : Prop where
  ex : ∃ v : V, PE X e (tC v) ∧ ∀ (T : Tab) G ρ, Rep X.K T G ρ d v
theorem cst_int {i : Int} {j pos} : Cst X (.Constant (.int i) j pos) (.int i) := ⟨_, pe_int, fun T G ρ => by unfold Rep; rfl⟩
theorem cst_non {j pos} : Cst X (.Constant .none j pos) .non := ⟨_, pe_non, fun T G ρ => by unfold Rep; rfl⟩
theorem cst_bl {i : Bool} {j pos} : Cst X (.Constant (.bool i) j pos) (.bl i) := ⟨_, pe_bl, fun T G ρ => by unfold Rep; rfl⟩
theorem cst_str {i : Str} {j pos} : Cst X (.Constant (.str i) j pos) (.str i) := ⟨_, pe_str, fun T G ρ => by unfold Rep; rfl⟩
def parO2 (i j : Nat) (m : M (List D)) (d : D) : M Fl := bd m fun ds => fun a => .ok .nx { a with sl := (a.sl.set i (.own ds)).set j (.val d) }
def parO3 (i j l : Nat) (m : M (List D)) (d e : D) : M Fl := bd m fun ds => fun a => .ok .nx { a with sl := ((a.sl.set i (.own ds)).set j (.val d)).set l (.val e) }
theorem ps_parO2 (i j : Nat) {x y : Str} {a b : Expr} {m : M (List D)} {d : D} {px py pt : Pos} {kt k2 pt2 pos} (ha : PE X a (tF X.K T W m)) (hb : Cst X b d)
    (hps : ∀ ta, PA X [a, b] ta → PS X (.Assign [.Tuple [.Name x px, .Name y py] kt pt] (.Tuple [a, b] k2 pt2) pos) (tPar i j ta))
    (hs : starEach [a, b] X.env = (false, eval a X.env) :: starEach [b] X.env := by rfl) (hs2 : starEach [b] X.env = (false, eval b X.env) :: starEach [] X.env := by rfl) :
    PS X (.Assign [.Tuple [.Name x px, .Name y py] kt pt] (.Tuple [a, b] k2 pt2) pos) (tS X.K T W (parO2 i j m d)) := by
  obtain ⟨vb, pb, rb⟩ := hb.ex
  refine PS.imp (hps _ (pa_cons ha (pa_cons pb pa_nil hs2) hs)) fun De σ H h => ?_
  refine tS.bindF h fun E ds a1 G1 ρ1 H1 p vs r1 f hp q1 p1 => ?_
  exact ⟨_, _, rfl, p1 G1 ρ1 _ H1 Ge.rfl' (List.prefix_refl _) ((r1.setO i f hp q1).setV j (rb _ _ _))⟩
theorem ps_parO3 (i j l : Nat) {x y z : Str} {a b c : Expr} {m : M (List D)} {d e : D} {px py pz pt : Pos} {kt k2 pt2 pos} (ha : PE X a (tF X.K T W m)) (hb : Cst X b d) (hc : Cst X c e)
    (hps : ∀ ta, PA X [a, b, c] ta → PS X (.Assign [.Tuple [.Name x px, .Name y py, .Name z pz] kt pt] (.Tuple [a, b, c] k2 pt2) pos) (tPar3 i j l ta))
    (hs : starEach [a, b, c] X.env = (false, eval a X.env) :: starEach [b, c] X.env := by rfl) (hs2 : starEach [b, c] X.env = (false, eval b X.env) :: starEach [c] X.env := by rfl) (hs3 : starEach [c] X.env = (false, eval c X.env) :: starEach [] X.env := by rfl) :
    PS X (.Assign [.Tuple [.Name x px, .Name y py, .Name z pz] kt pt] (.Tuple [a, b, c] k2 pt2) pos) (tS X.K T W (parO3 i j l m d e)) := by
  obtain ⟨vb, pb, rb⟩ := hb.ex
  obtain ⟨vc, pc, rc⟩ := hc.ex
  refine PS.imp (hps _ (pa_cons ha (pa_cons pb (pa_cons pc pa_nil hs3) hs2) hs)) fun De σ H h => ?_
  refine tS.bindF h fun E ds a1 G1 ρ1 H1 p vs r1 f hp q1 p1 => ?_
  exact ⟨_, _, _, rfl, p1 G1 ρ1 _ H1 Ge.rfl' (List.prefix_refl _) (((r1.setO i f hp q1).setV j (rb _ _ _)).setV l (rc _ _ _))⟩
end
end PL

namespace PL
open PySem PySem.Spec PyProof.Rows L2

def stillM (j : Option Nat) (ds : List D) (a : AS) : Bool := match j with
  | none => true
  | some j => match a.st[j]? with
    | some (.lst es) => deqL es ds
    | _ => false
theorem still_of {j : Nat} {ds : List D} {a : AS} (h : stillM (some j) ds a = true) : a.st[j]? = some (.lst ds) := by
  unfold stillM at h
  dsimp only at h
  split at h
  · rename_i es e
    rw [e, deqL_eq _ _ h]
  · cases h
def YieldsC (K : PySem.W.Frag) (T : Tab) (G : Hp) (ρ : List Addr) (J : It) (j : Option Nat) (ds zs : List D) : Prop :=
  ∀ G1 ρ1, Ge G G1 → ρ <+: ρ1 → ∀ E a σ H, AR K T E G1 ρ1 a σ H → stillM j ds a = true →
    (∀ (i : Nat) (d : D), zs[i]? = some d → J.go i H ∧ ∀ x H', J.yld i H x H' → ∃ G2, Ge G1 G2 ∧ AR K T E G2 ρ1 a σ H' ∧ Rep K T G2 ρ1 d x) ∧ J.stop zs.length H
def PostIC (K : PySem.W.Frag) (T : Tab) (W : WX) (E : En) (σ : L2.St) (G : Hp) (ρ : List Addr) (o : Out (Option Nat × List D × List D)) (R : It → Hp → Prop) : Prop := match o with
  | .stuck => False
  | .ok (j, ds, zs) a' => ∀ G' ρ' H' J, Ge G G' → ρ <+: ρ' → AR K T E G' ρ' a' σ H' → YieldsC K T G' ρ' J j ds zs → R J H'
  | .exc c fs a' => ∀ G' ρ' H' dd, Ge G G' → ρ <+: ρ' → AR K T E G' ρ' a' σ H' → ExR K T G' ρ' H' fs dd → W (.ref (T.C c)) dd σ H'
def tIC (K : PySem.W.Frag) (T : Tab) (W : WX) (m : M (Option Nat × List D × List D)) : TI := fun σ H R => ∃ E G ρ a, AR K T E G ρ a σ H ∧ PostIC K T W E σ G ρ (m a) R
theorem yields_c {K : PySem.W.Frag} {T : Tab} {G : Hp} {ρ : List Addr} {J : It} {ds zs : List D} (h : Yields K T G ρ J zs) : YieldsC K T G ρ J none ds zs := fun G1 ρ1 g l E a σ H r _ => h G1 ρ1 g l E a σ H r
theorem cell_get {K : PySem.W.Frag} {T : Tab} {E : En} {G : Hp} {ρ ρ0 : List Addr} {a : AS} {σ : L2.St} {H : Hp} {j : Nat} {b : Addr} {ds : List D} (r : AR K T E G ρ a σ H) (e : a.st[j]? = some (.lst ds)) (hb : ρ0[j]? = some b) (p : ρ0 <+: ρ) : ∃ vs, H b = some (.lst vs) ∧ RepL K T G ρ ds vs := r.cl j b _ (pre_get p hb) e
theorem yields_cellE {K : PySem.W.Frag} {T : Tab} {G : Hp} {ρ : List Addr} {j : Nat} {b : Addr} {ds : List D} (hb : ρ[j]? = some b) : YieldsC K T G ρ (Ite K b) (some j) ds (enumD ds) := fun G1 ρ1 g l E a σ H r hs => by
  obtain ⟨vs, hv, q⟩ := cell_get r (still_of hs) hb l
  have hR : SqL K H b vs := .inl (.inl hv)
  refine ⟨fun i d hd => ?_, vs, hR, by rw [q.len]; simp [enumD]⟩
  obtain ⟨d', hd', rfl⟩ := enum_get hd
  obtain ⟨v, hv', rv⟩ := q.get hd'
  refine ⟨⟨vs, v, hR, hv'⟩, fun x H' ⟨p, u, e1, hp, e2, h⟩ => ?_⟩
  subst e1 e2
  have ex := h vs hR
  rw [hv'] at ex
  cases ex
  exact pair_rep r hp to_int rv
theorem yields_cellL {K : PySem.W.Frag} {T : Tab} {G : Hp} {ρ : List Addr} {j : Nat} {b : Addr} {ds : List D} (hb : ρ[j]? = some b) : YieldsC K T G ρ (Itl K b) (some j) ds ds := fun G1 ρ1 g l E a σ H r hs => by
  obtain ⟨vs, hv, q⟩ := cell_get r (still_of hs) hb l
  have hR : SqL K H b vs := .inl (.inl hv)
  refine ⟨fun i d hd => ?_, vs, hR, by rw [q.len]; exact Nat.le_refl _⟩
  obtain ⟨v, hv', rv⟩ := q.get hd
  refine ⟨⟨vs, v, hR, hv'⟩, fun x H' ⟨e, h⟩ => ?_⟩
  subst e
  have ex := h vs hR
  rw [hv'] at ex
  cases ex
  exact ⟨G1, Ge.rfl', r, rv⟩
def enumC (ms : M (List D)) : M (Option Nat × List D × List D) := bd ms fun xs => match xs with
  | [.lst ds] => ret (none, ds, enumD ds)
  | [.tup ds] => ret (none, ds, enumD ds)
  | [.cell j] => bd (rdM fun st => lstOf st (.cell j)) fun ds => ret (some j, ds, enumD ds)
  | _ => no
section
variable {X : Cx} {T : Tab} {W : WX}
theorem pi_enumC {e : Expr} {ms : M (List D)} {p pos tpos : Pos} {elts : List Expr} {kk : Nat} (hm : X.mg "enumerate" = none) (ha : PA X [e] (tA X.K T W ms)) (hg : Gl X "enumerate" := by rfl) (hs : starEach [e] X.env = [(false, eval e X.env)] := by rfl) :
    PI X (.Tuple elts kk tpos) (.Call (.Name "enumerate" p) [e] [] pos) (tIC X.K T W (enumC ms)) := by
  refine PI.imp (pi_or (pi_enum hg hm ha hs) (pi_enumT hg hm ha hs)) fun σ H R ⟨E, G, ρ, a, r, p⟩ => ?_
  unfold enumC bd at p
  cases e1 : ms a with
  | stuck => rw [e1] at p; exact p.elim
  | exc c fs a1 => rw [e1] at p; exact .inl ⟨E, G, ρ, a, r, by rw [e1]; exact p⟩
  | ok xs a1 =>
    rw [e1] at p
    simp only [bind_ok] at p
    split at p
    · rename_i ds
      refine .inl ⟨E, G, ρ, a, r, ?_⟩
      rw [e1]
      refine fun G1 ρ1 H1 vs g1 l1 r1 q1 => ?_
      obtain ⟨v, ev, q1⟩ := q1.one
      unfold Rep at q1
      obtain ⟨b, us, eb, hb, rl⟩ := q1
      subst ev eb
      exact ⟨b, us, rfl, SqL.ge hb r1.sub, p G1 ρ1 H1 _ g1 l1 r1 (yields_c (yields_enumL hb rl))⟩
    · rename_i ds
      refine .inr ⟨E, G, ρ, a, r, ?_⟩
      rw [e1]
      refine fun G1 ρ1 H1 vs g1 l1 r1 q1 => ?_
      obtain ⟨v, ev, q1⟩ := q1.one
      obtain ⟨b, us, eb, hb, rl⟩ := q1.tup
      subst ev eb
      exact ⟨b, us, rfl, (hb.ge r1.sub).sq, p G1 ρ1 H1 _ g1 l1 r1 (yields_c (yields_enumT hb rl))⟩
    · rename_i j
      unfold rdM at p
      dsimp only at p
      cases e2 : lstOf a1.st (.cell j) with
      | none => rw [e2] at p; exact p.elim
      | some ds =>
        rw [e2] at p
        refine .inl ⟨E, G, ρ, a, r, ?_⟩
        rw [e1]
        refine fun G1 ρ1 H1 vs g1 l1 r1 q1 => ?_
        obtain ⟨v, ev, q1⟩ := q1.one
        unfold Rep at q1
        obtain ⟨b, hb, eb⟩ := q1
        subst ev eb
        have e3 : a1.st[j]? = some (.lst ds) := by
          unfold lstOf at e2
          dsimp only at e2
          cases e4 : a1.st[j]? with
          | none => rw [e4] at e2; cases e2
          | some c =>
            rw [e4] at e2
            cases c with
            | lst es => cases e2; rfl
            | obj c fs => cases e2
        obtain ⟨us, hv, rl⟩ := r1.cl j b _ hb e3
        exact ⟨b, us, rfl, .inl (.inl hv), p G1 ρ1 H1 _ g1 l1 r1 (yields_cellE hb)⟩
    · exact p.elim
def forLC (j : Option Nat) (ds : List D) (t : TgM) (body : M Fl) : List D → M Fl
  | [], a => if stillM j ds a = true then .ok .nx a else .stuck
  | d :: zs, a => if stillM j ds a = true then (match t d a with
    | none => .stuck
    | some a1 => match body a1 with
      | .ok .nx a2 => forLC j ds t body zs a2
      | .ok .ct a2 => forLC j ds t body zs a2
      | .ok .bk a2 => .ok .nx a2
      | o => o) else .stuck
def forMC (mi : M (Option Nat × List D × List D)) (t : TgM) (body : M Fl) : M Fl := bd mi fun q => forLC q.1 q.2.1 t body q.2.2
theorem ps_forC {tg iter : Expr} {body : List Stmt} {mi : M (Option Nat × List D × List D)} {g : TG} {t : TgM} {js : List Nat} {m : M Fl} {pos : Pos} (hp : PassesOwn (model X.prog X.w) X.A X.env X.xe) (hc : X.calm = true) (hi : PI X tg iter (tIC X.K T W mi)) (p : PG X tg g) (q : TgR X.K T g t js) (hb : PSs X body (tS X.K T W m))
    (hs : ∀ x, foldedSetIterable iter X.env x = pure x := by intro _; rfl) : PS X (.For tg iter body [] pos) (tS X.K T W (forMC mi t m)) := by
  refine PS.imp (ps_for hp hc hi p hb hs) fun De σ H h => ?_
  obtain ⟨E, G, ρ, a, r, pp⟩ := h
  refine ⟨E, G, ρ, a, r, ?_⟩
  unfold forMC bd at pp
  cases e1 : mi a with
  | stuck => rw [e1] at pp; exact pp
  | exc c fs a1 => rw [e1] at pp; exact fun G1 ρ1 H1 dd g1 l1 r1 q1 => pp G1 ρ1 σ H1 dd g1 l1 r1 q1
  | ok jz a1 =>
    obtain ⟨j, ls, ds⟩ := jz
    rw [e1] at pp
    simp only [bind_ok] at pp
    refine fun G1 ρ1 H1 J g1 l1 r1 Y => ?_
    replace pp := PostS.ext (o := forLC j ls t m ds a1) pp g1 l1
    refine ⟨fun i n σ' H' => n = ds.length - i ∧ i ≤ ds.length ∧ ∃ E G' ρ' a', Ge G1 G' ∧ ρ1 <+: ρ' ∧ AR X.K T E G' ρ' a' σ' H' ∧ PostS X.K T W E G' ρ' (forLC j ls t m (ds.drop i) a') De, ⟨ds.length, by simp, Nat.zero_le _, E, G1, ρ1, a1, Ge.rfl', List.prefix_refl _, r1, pp⟩, ?_⟩
    rintro i n σ' H' ⟨rfl, hi, E', G', ρ', a', g', l', r', p'⟩
    by_cases hs : stillM j ls a' = true
    · obtain ⟨y1, y2⟩ := Y G' ρ' g' l' E' a' σ' H' r' hs
      by_cases hlt : i < ds.length
      · have hd : ds[i]? = some ds[i] := List.getElem?_eq_getElem hlt
        obtain ⟨z1, z2⟩ := y1 i _ hd
        rw [List.drop_eq_getElem_cons hlt] at p'
        unfold forLC at p'
        rw [if_pos hs] at p'
        refine .inr ⟨z1, fun σ2 H2 => ∃ E G' ρ' a', Ge G1 G' ∧ ρ1 <+: ρ' ∧ AR X.K T E G' ρ' a' σ2 H2 ∧ PostS X.K T W E G' ρ' (forLC j ls t m (ds.drop (i + 1)) a') De, fun σ2 H2 h => ⟨ds.length - (i + 1), by omega, rfl, hlt, h⟩, fun x H2 hy => ?_⟩
        obtain ⟨G2, g2, r2, rx⟩ := z2 x H2 hy
        cases e2 : t ds[i] a' with
        | none => rw [e2] at p'; exact p'.elim
        | some a2 =>
          rw [e2] at p'
          simp only at p'
          refine q ds[i] a' a2 e2 E' G2 ρ' σ' H2 x _ r2 rx fun σ3 _ r3 => ⟨E', G2, ρ', a2, r3, ?_⟩
          cases e3 : m a2 with
          | stuck => rw [e3] at p'; exact p'
          | exc c fs a3 => rw [e3] at p'; exact fun G3 ρ3 σ4 H3 dd g3 l3 r4 q4 => p' G3 ρ3 σ4 H3 dd (g2.trans g3) l3 r4 q4
          | ok f a3 =>
            rw [e3] at p'
            cases f with
            | nx => exact fun G3 ρ3 σ4 H3 g3 l3 r4 => ⟨E', G3, ρ3, a3, g'.trans (g2.trans g3), l'.trans l3, r4, PostS.ext (o := forLC j ls t m _ a3) p' (g2.trans g3) l3⟩
            | ct => exact fun G3 ρ3 σ4 H3 g3 l3 r4 => ⟨E', G3, ρ3, a3, g'.trans (g2.trans g3), l'.trans l3, r4, PostS.ext (o := forLC j ls t m _ a3) p' (g2.trans g3) l3⟩
            | bk => exact fun G3 ρ3 σ4 H3 g3 l3 r4 => p' G3 ρ3 σ4 H3 (g2.trans g3) l3 r4
            | ret d => exact fun G3 ρ3 σ4 H3 v g3 l3 r4 q4 => p' G3 ρ3 σ4 H3 v (g2.trans g3) l3 r4 q4
      · have e : i = ds.length := by omega
        subst e
        rw [List.drop_length] at p'
        unfold forLC at p'
        rw [if_pos hs] at p'
        exact .inl ⟨y2, p' G' ρ' σ' H' Ge.rfl' (List.prefix_refl _) r'⟩
    · exfalso
      cases e5 : ds.drop i with
      | nil => rw [e5] at p'; unfold forLC at p'; rw [if_neg hs] at p'; exact p'
      | cons z zs => rw [e5] at p'; unfold forLC at p'; rw [if_neg hs] at p'; exact p'
end
def newCM (m : M (List D)) : M D := bd m fun ds => fun a => .ok (.cell a.st.length) { a with st := a.st ++ [.lst ds] }
section
variable {X : Cx} {T : Tab} {W : WX}
theorem px_newC {e : Expr} {m : M (List D)} (h : PE X e (tF X.K T W m)) : PE X e (tE X.K T W (newCM m)) := by
  refine PE.imp h fun σ H Q ⟨E, G, ρ, a, r, p⟩ => ⟨E, G, ρ, a, r, ?_⟩
  unfold newCM bd at p
  cases e1 : m a with
  | stuck => rw [e1] at p; exact p
  | exc c fs a1 => rw [e1] at p; exact p
  | ok ds a1 =>
    rw [e1] at p
    refine fun G1 ρ1 H1 b vs g l r1 f hb q => ?_
    have r2 := r1.newCell f hb q
    refine p G1 (ρ1 ++ [b]) H1 (.ref b) g (l.trans (List.prefix_append _ _)) r2 ?_
    unfold Rep
    refine ⟨b, ?_, rfl⟩
    rw [r1.clen, List.getElem?_append_right (Nat.le_refl _)]
    simp
end
def tgLst (n : Nat) (u : List D → AS → Option AS) : TgM := fun d a => match d with
  | .lst ds => if ds.length = n then u ds a else none
  | _ => none
theorem tr_lst {K : PySem.W.Frag} {T : Tab} {gs : TGs} {u : List D → AS → Option AS} {js : List Nat} (n : Nat) (hs : TgsR K T gs u js) : TgR K T (gLst K n gs) (tgLst n u) js := fun d a a' e E G ρ σ H v Q r rv k => by
  unfold tgLst at e
  split at e
  · rename_i ds
    split at e
    · rename_i hl
      unfold Rep at rv
      obtain ⟨b, vs, ev, hb, rl⟩ := rv
      exact ⟨b, vs, ev, SqL.ge hb r.sub, by rw [rl.len, hl], hs ds a a' e E G ρ σ H vs Q r rl k⟩
    · cases e
  · cases e
end PL

namespace PL
open PySem

def Ok {α : Type} (m : M α) (a : AS) (Q : α → AS → Prop) : Prop := ∃ x a', m a = .ok x a' ∧ Q x a'
def OkF (f : FD) (ds : List D) (st : List Cell) (Q : D → List Cell → Prop) : Prop := ∃ d a', f ds st = .ok d a' ∧ Q d a'.st
section
variable {α β : Type} {m : M α} {a : AS}
theorem Ok.imp {Q Q' : α → AS → Prop} (h : Ok m a Q) (k : ∀ x a', Q x a' → Q' x a') : Ok m a Q' := let ⟨x, a', e, q⟩ := h; ⟨x, a', e, k _ _ q⟩
theorem OkF.imp {f : FD} {ds : List D} {st : List Cell} {Q Q' : D → List Cell → Prop} (h : OkF f ds st Q) (k : ∀ x a', Q x a' → Q' x a') : OkF f ds st Q' := let ⟨x, a', e, q⟩ := h; ⟨x, a', e, k _ _ q⟩
@[simp] theorem ok_bd {f : α → M β} {Q : β → AS → Prop} : Ok (bd m f) a Q ↔ Ok m a fun x a' => Ok (f x) a' Q := by
  constructor
  · rintro ⟨y, a2, e, q⟩
    unfold bd at e
    cases h : m a with
    | stuck => rw [h] at e; cases e
    | exc c fs a1 => rw [h] at e; cases e
    | ok x a1 => rw [h] at e; exact ⟨x, a1, h, y, a2, e, q⟩
  · rintro ⟨x, a1, h, y, a2, e, q⟩
    exact ⟨y, a2, by unfold bd; rw [h]; exact e, q⟩
@[simp] theorem ok_ret {x : α} {Q : α → AS → Prop} : Ok (ret x) a Q ↔ Q x a := ⟨fun ⟨y, a', e, q⟩ => by cases e; exact q, fun q => ⟨x, a, rfl, q⟩⟩
@[simp] theorem ok_no {Q : α → AS → Prop} : Ok (no : M α) a Q ↔ False := ⟨fun ⟨y, a', e, q⟩ => (by cases e), fun q => False.elim q⟩
@[simp] theorem ok_opt_some {x : α} {Q : α → AS → Prop} : Ok (opt (some x)) a Q ↔ Q x a := ok_ret
@[simp] theorem ok_opt_none {Q : α → AS → Prop} : Ok (opt (none : Option α)) a Q ↔ False := ok_no
theorem ok_opt {o : Option α} {Q : α → AS → Prop} {x : α} (h : o = some x) : Ok (opt o) a Q ↔ Q x a := by rw [h]; exact ok_ret
@[simp] theorem ok_rdM {f : List Cell → Option α} {sl : List Slot} {st : List Cell} {Q : α → AS → Prop} : Ok (rdM f) ⟨sl, st⟩ Q ↔ Ok (opt (f st)) ⟨sl, st⟩ Q := Iff.rfl
@[simp] theorem ok_ite {c : Prop} [Decidable c] {m n : M α} {Q : α → AS → Prop} : Ok (if c then m else n) a Q ↔ (if c then Ok m a Q else Ok n a Q) := by split <;> exact Iff.rfl
theorem ok_fun_ok {f : AS → Out α} {x : α} {a' : AS} {Q : α → AS → Prop} (h : f a = .ok x a') : Ok f a Q ↔ Q x a' := ⟨fun ⟨y, a2, e, q⟩ => by rw [h] at e; cases e; exact q, fun q => ⟨x, a', h, q⟩⟩
end
section
variable {a : AS}
def varQ (i : Nat) (sl : List Slot) (st : List Cell) (Q : D → AS → Prop) : Prop := match sl.getD i .emp with
  | .val d => Q d ⟨sl, st⟩
  | .own ds => Q (.lst ds) ⟨sl.set i (.val (.lst ds)), st⟩
  | _ => False
theorem ok_varM {i : Nat} {sl : List Slot} {st : List Cell} {Q : D → AS → Prop} : Ok (varM i) ⟨sl, st⟩ Q ↔ varQ i sl st Q := by
  unfold varQ Ok varM
  dsimp only
  cases e : sl.getD i .emp with
  | val d => exact ⟨fun ⟨x, a', h, q⟩ => (by cases h; exact q), fun q => ⟨_, _, rfl, q⟩⟩
  | own ds => exact ⟨fun ⟨x, a', h, q⟩ => (by cases h; exact q), fun q => ⟨_, _, rfl, q⟩⟩
  | emp => exact ⟨fun ⟨x, a', h, q⟩ => (by cases h), fun q => False.elim q⟩
  | obj c fs => exact ⟨fun ⟨x, a', h, q⟩ => (by cases h), fun q => False.elim q⟩
@[simp] theorem varQ_0 {d : D} {sl : List Slot} {st : List Cell} {Q : D → AS → Prop} {i : Nat} (h : sl[i]? = some (.val d)) : varQ i sl st Q ↔ Q d ⟨sl, st⟩ := by
  unfold varQ
  rw [List.getD_eq_getElem?_getD, h]
  exact Iff.rfl
theorem varQ_own {ds : List D} {sl : List Slot} {st : List Cell} {Q : D → AS → Prop} {i : Nat} (h : sl[i]? = some (.own ds)) : varQ i sl st Q ↔ Q (.lst ds) ⟨sl.set i (.val (.lst ds)), st⟩ := by
  unfold varQ
  rw [List.getD_eq_getElem?_getD, h]
  exact Iff.rfl
theorem ok_setM {i : Nat} {m : M D} {Q : Fl → AS → Prop} : Ok (setM i m) a Q ↔ Ok m a fun d a' => Q .nx ⟨a'.sl.set i (.val d), a'.st⟩ := by
  unfold setM
  rw [ok_bd]
  exact ⟨fun h => h.imp fun x a' ⟨_, _, e, q⟩ => by cases e; exact q, fun h => h.imp fun x a' q => ⟨_, _, rfl, q⟩⟩
theorem ok_ownM {i : Nat} {m : M (List D)} {Q : Fl → AS → Prop} : Ok (ownM i m) a Q ↔ Ok m a fun d a' => Q .nx ⟨a'.sl.set i (.own d), a'.st⟩ := by
  unfold ownM
  rw [ok_bd]
  exact ⟨fun h => h.imp fun x a' ⟨_, _, e, q⟩ => by cases e; exact q, fun h => h.imp fun x a' q => ⟨_, _, rfl, q⟩⟩
theorem ok_cellM {i : Nat} {m : M (List D)} {Q : Fl → AS → Prop} : Ok (cellM i m) a Q ↔ Ok m a fun d a' => Q .nx ⟨a'.sl.set i (.val (.cell a'.st.length)), a'.st ++ [.lst d]⟩ := by
  unfold cellM
  rw [ok_bd]
  exact ⟨fun h => h.imp fun x a' ⟨_, _, e, q⟩ => by cases e; exact q, fun h => h.imp fun x a' q => ⟨_, _, rfl, q⟩⟩
theorem ok_parM {i j : Nat} {m n : M D} {Q : Fl → AS → Prop} : Ok (parM i j m n) a Q ↔ Ok m a fun x a1 => Ok n a1 fun y a2 => Q .nx ⟨(a2.sl.set i (.val x)).set j (.val y), a2.st⟩ := by
  unfold parM
  rw [ok_bd]
  simp only [ok_bd]
  exact ⟨fun h => h.imp fun x a' h => h.imp fun y a2 ⟨_, _, e, q⟩ => by cases e; exact q, fun h => h.imp fun x a' h => h.imp fun y a2 q => ⟨_, _, rfl, q⟩⟩
theorem ok_asgM {t : TgM} {m : M D} {Q : Fl → AS → Prop} : Ok (asgM t m) a Q ↔ Ok m a fun d a' => ∃ a2, t d a' = some a2 ∧ Q .nx a2 := by
  unfold asgM
  rw [ok_bd]
  constructor
  · intro h
    refine h.imp fun x a' ⟨_, _, e, q⟩ => ?_
    cases h2 : t x a' with
    | none => dsimp only at e; rw [h2] at e; cases e
    | some a2 => dsimp only at e; rw [h2] at e; cases e; exact ⟨_, rfl, q⟩
  · intro h
    refine h.imp fun x a' ⟨a2, e, q⟩ => ⟨.nx, a2, ?_, q⟩
    dsimp only
    rw [e]
theorem ok_retM {m : M D} {Q : Fl → AS → Prop} : Ok (retM m) a Q ↔ Ok m a fun d a' => Q (.ret d) a' := by unfold retM; simp only [ok_bd, ok_ret]
theorem ok_exprM {m : M D} {Q : Fl → AS → Prop} : Ok (exprM m) a Q ↔ Ok m a fun _ a' => Q .nx a' := by unfold exprM; simp only [ok_bd, ok_ret]
def seqQ (n : M Fl) (Q : Fl → AS → Prop) : Fl → AS → Prop
  | .nx, a => Ok n a Q
  | f, a => Q f a
theorem ok_seqM {m n : M Fl} {Q : Fl → AS → Prop} : Ok (seqM m n) a Q ↔ Ok m a (seqQ n Q) := by
  constructor
  · intro ⟨x, a2, e, q⟩
    unfold seqM at e
    cases h : m a with
    | stuck => rw [h] at e; cases e
    | exc c fs a1 => rw [h] at e; cases e
    | ok f a1 =>
      rw [h] at e
      cases f with
      | nx => exact ⟨.nx, a1, h, x, a2, e, q⟩
      | ret d => cases e; exact ⟨.ret d, a2, h, q⟩
      | bk => cases e; exact ⟨.bk, a2, h, q⟩
      | ct => cases e; exact ⟨.ct, a2, h, q⟩
  · rintro ⟨f, a1, h, q⟩
    unfold Ok seqM
    rw [h]
    cases f with
    | nx => exact q
    | ret d => exact ⟨_, _, rfl, q⟩
    | bk => exact ⟨_, _, rfl, q⟩
    | ct => exact ⟨_, _, rfl, q⟩
@[simp] theorem seqQ_nx {n : M Fl} {Q : Fl → AS → Prop} : seqQ n Q .nx a ↔ Ok n a Q := Iff.rfl
@[simp] theorem seqQ_ret {n : M Fl} {Q : Fl → AS → Prop} {d : D} : seqQ n Q (.ret d) a ↔ Q (.ret d) a := Iff.rfl
@[simp] theorem seqQ_bk {n : M Fl} {Q : Fl → AS → Prop} : seqQ n Q .bk a ↔ Q .bk a := Iff.rfl
@[simp] theorem seqQ_ct {n : M Fl} {Q : Fl → AS → Prop} : seqQ n Q .ct a ↔ Q .ct a := Iff.rfl
theorem ok_nxM {Q : Fl → AS → Prop} : Ok nxM a Q ↔ Q .nx a := ok_ret
theorem ok_callM {np : Nat} {f : FD} {ds : List D} {sl : List Slot} {st : List Cell} {Q : D → AS → Prop} (h : ds.length = np) : Ok (callM np f ds) ⟨sl, st⟩ Q ↔ OkF f ds st fun d st' => Q d ⟨sl, st'⟩ := by
  unfold Ok OkF callM
  rw [if_pos h]
  dsimp only
  constructor
  · rintro ⟨x, a', e, q⟩
    cases h2 : f ds st with
    | stuck => rw [h2] at e; cases e
    | exc c fs a1 => rw [h2] at e; cases e
    | ok d a1 => rw [h2] at e; cases e; exact ⟨_, _, rfl, q⟩
  · rintro ⟨d, a1, e, q⟩
    exact ⟨d, _, by rw [e], q⟩
theorem ok_callA {np : Nat} {f : FD} {dds : List D} {ms : M (List D)} {Q : D → AS → Prop} : Ok (callA np f dds ms) a Q ↔ Ok ms a fun xs a' => Ok (callM np f (xs ++ dds)) a' Q := by unfold callA; exact ok_bd
def finQ (Q : D → List Cell → Prop) : Fl → AS → Prop
  | .nx, a => Q .non a.st
  | .ret d, a => Q d a.st
  | _, _ => False
@[simp] theorem finQ_nx {Q : D → List Cell → Prop} : finQ Q .nx a ↔ Q .non a.st := Iff.rfl
@[simp] theorem finQ_ret {Q : D → List Cell → Prop} {d : D} : finQ Q (.ret d) a ↔ Q d a.st := Iff.rfl
theorem okF_mkF {n : Nat} {m : M Fl} {ds : List D} {st : List Cell} {Q : D → List Cell → Prop} : OkF (mkF n m) ds st Q ↔ Ok m (fram n ds st) (finQ Q) := by
  unfold OkF Ok mkF
  constructor
  · rintro ⟨d, a', e, q⟩
    cases h : m (fram n ds st) with
    | stuck => rw [h] at e; cases e
    | exc c fs a1 => rw [h] at e; cases e
    | ok f a1 =>
      rw [h] at e
      cases f with
      | nx => cases e; exact ⟨_, _, rfl, q⟩
      | ret d => cases e; exact ⟨_, _, rfl, q⟩
      | bk => cases e
      | ct => cases e
  · rintro ⟨f, a1, h, q⟩
    rw [h]
    cases f with
    | nx => exact ⟨_, _, rfl, q⟩
    | ret d => exact ⟨_, _, rfl, q⟩
    | bk => exact q.elim
    | ct => exact q.elim
theorem ok_forL {t : TgM} {body : M Fl} {Q : Fl → AS → Prop} (I : List D → AS → Prop) (stop : ∀ a, I [] a → Q .nx a) (step : ∀ d ds a, I (d :: ds) a → ∃ a1, t d a = some a1 ∧ Ok body a1 fun f a2 => match f with
    | .nx => I ds a2
    | .ct => I ds a2
    | .bk => Q .nx a2
    | .ret r => Q (.ret r) a2) : ∀ (ds : List D) (a : AS), I ds a → Ok (forL t body ds) a Q
  | [], a, h => ⟨_, _, rfl, stop a h⟩
  | d :: ds, a, h => by
    obtain ⟨a1, e, f, a2, e2, q⟩ := step d ds a h
    unfold Ok forL
    simp only [e, e2]
    cases f with
    | nx => exact ok_forL I stop step ds a2 q
    | ct => exact ok_forL I stop step ds a2 q
    | bk => exact ⟨_, _, rfl, q⟩
    | ret r => exact ⟨_, _, rfl, q⟩
theorem ok_forM {mi : M (List D)} {t : TgM} {body : M Fl} {Q : Fl → AS → Prop} : Ok (forM mi t body) a Q ↔ Ok mi a fun ds a' => Ok (forL t body ds) a' Q := by unfold forM; exact ok_bd
theorem ok_lcL {t : TgM} {test : M Bool} {elt : M D} {sl : List Slot} {Q : List D → List Cell → Prop} (I : List D → List Cell → List D → Prop) (stop : ∀ st acc, I [] st acc → Q acc st)
    (step : ∀ d ds st acc, I (d :: ds) st acc → ∃ a1, t d ⟨sl, st⟩ = some a1 ∧ Ok test a1 fun b a2 => if b = true then Ok elt a2 fun x a3 => I ds a3.st (acc ++ [x]) ∧ acc.length < 100000 else I ds a2.st acc) :
    ∀ (ds : List D) (st : List Cell) (acc : List D), I ds st acc → ∃ xs a', lcL t test elt sl ds st acc = .ok xs a' ∧ Q xs a'.st
  | [], st, acc, h => ⟨_, _, rfl, stop st acc h⟩
  | d :: ds, st, acc, h => by
    obtain ⟨a1, e, b, a2, e2, q⟩ := step d ds st acc h
    unfold lcL
    rw [e]
    dsimp only
    rw [e2]
    cases b with
    | false => exact ok_lcL I stop step ds _ _ (by simpa using q)
    | true =>
      obtain ⟨x, a3, e3, q, hl⟩ := (show Ok elt a2 fun x a3 => I ds a3.st (acc ++ [x]) ∧ acc.length < 100000 by simpa using q)
      dsimp only
      rw [e3]
      dsimp only
      rw [if_pos hl]
      exact ok_lcL I stop step ds _ _ q
theorem ok_lcM {vs : List Nat} {mi : M (List D)} {t : TgM} {test : M Bool} {elt : M D} {Q : List D → AS → Prop} : Ok (lcM vs mi t test elt) a Q ↔ Ok mi a fun ds a' => ∃ xs a2, lcL t test elt (hideL vs a'.sl) ds a'.st [] = .ok xs a2 ∧ Q xs ⟨a'.sl, a2.st⟩ := by
  unfold lcM
  rw [ok_bd]
  constructor
  · intro h
    refine h.imp fun ds a' ⟨x, a2, e, q⟩ => ?_
    dsimp only at e
    cases h2 : lcL t test elt (hideL vs a'.sl) ds a'.st [] with
    | stuck => rw [h2] at e; cases e
    | exc c fs a1 => rw [h2] at e; cases e
    | ok xs a1 => rw [h2] at e; cases e; exact ⟨_, _, rfl, q⟩
  · intro h
    refine h.imp fun ds a' ⟨xs, a2, e, q⟩ => ?_
    exact ⟨xs, ⟨a'.sl, a2.st⟩, by dsimp only; rw [e], q⟩
end
end PL

namespace PL
open PySem

def FOk (f : FD) (ds : List D) (st : List Cell) (d : D) (st' : List Cell) : Prop := ∃ sl, f ds st = .ok d ⟨sl, st'⟩
def Pu (f : FD) (ds : List D) (d : D) : Prop := ∀ st, FOk f ds st d st
section
variable {α β : Type} {a a' a1 a2 : AS}
theorem bd_go {m : M α} {f : α → M β} {x : α} {o : Out β} (h : m a = .ok x a') (k : f x a' = o) : bd m f a = o := by
  unfold bd
  rw [h]
  exact k
def seqK (f : Fl) (n : M Fl) (a' : AS) : Out Fl := match f with
  | .nx => n a'
  | f => .ok f a'
theorem seq_go {m n : M Fl} {f : Fl} {o : Out Fl} (h : m a = .ok f a') (k : seqK f n a' = o) : seqM m n a = o := by
  unfold seqM
  rw [h]
  cases f <;> exact k
theorem seqK_nx {n : M Fl} {o : Out Fl} (k : n a = o) : seqK .nx n a = o := k
theorem seqK_ret {n : M Fl} {d : D} : seqK (.ret d) n a = .ok (.ret d) a := rfl
theorem set_go {i : Nat} {m : M D} {d : D} (h : m a = .ok d a') : setM i m a = .ok .nx ⟨a'.sl.set i (.val d), a'.st⟩ := bd_go h rfl
theorem own_go {i : Nat} {m : M (List D)} {d : List D} (h : m a = .ok d a') : ownM i m a = .ok .nx ⟨a'.sl.set i (.own d), a'.st⟩ := bd_go h rfl
theorem cell_go {i : Nat} {m : M (List D)} {d : List D} (h : m a = .ok d a') : cellM i m a = .ok .nx ⟨a'.sl.set i (.val (.cell a'.st.length)), a'.st ++ [.lst d]⟩ := bd_go h rfl
theorem par_go {i j : Nat} {m n : M D} {x y : D} (h : m a = .ok x a1) (k : n a1 = .ok y a2) : parM i j m n a = .ok .nx ⟨(a2.sl.set i (.val x)).set j (.val y), a2.st⟩ := bd_go h (bd_go k rfl)
theorem cons_go {m : M D} {ms : M (List D)} {x : D} {xs : List D} (h : m a = .ok x a1) (k : ms a1 = .ok xs a2) : consM m ms a = .ok (x :: xs) a2 := bd_go h (bd_go k rfl)
theorem nil_go : nilM a = .ok [] a := rfl
theorem par3_go {i j l : Nat} {m n r : M D} {x y z : D} {a3 : AS} (h : m a = .ok x a1) (k : n a1 = .ok y a2) (q : r a2 = .ok z a3) : par3M i j l m n r a = .ok .nx ⟨((a3.sl.set i (.val x)).set j (.val y)).set l (.val z), a3.st⟩ := bd_go (cons_go h (cons_go k (cons_go q rfl))) rfl
theorem parO2_go {i j : Nat} {m : M (List D)} {d : D} {ds : List D} (h : m a = .ok ds a') : parO2 i j m d a = .ok .nx ⟨(a'.sl.set i (.own ds)).set j (.val d), a'.st⟩ := bd_go h rfl
theorem parO3_go {i j l : Nat} {m : M (List D)} {d e : D} {ds : List D} (h : m a = .ok ds a') : parO3 i j l m d e a = .ok .nx ⟨((a'.sl.set i (.own ds)).set j (.val d)).set l (.val e), a'.st⟩ := bd_go h rfl
theorem asg_go {t : TgM} {m : M D} {d : D} (h : m a = .ok d a1) (k : t d a1 = some a2) : asgM t m a = .ok .nx a2 := bd_go h (by rw [k])
theorem expr_go {m : M D} {d : D} (h : m a = .ok d a') : exprM m a = .ok .nx a' := bd_go h rfl
theorem ret_go {m : M D} {d : D} (h : m a = .ok d a') : retM m a = .ok (.ret d) a' := bd_go h rfl
def ifK (b : Bool) (m n : M α) (a : AS) : Out α := (if b = true then m else n) a
theorem if_go {c : M Bool} {m n : M α} {b : Bool} {o : Out α} (h : c a = .ok b a') (k : ifK b m n a' = o) : ifM c m n a = o := bd_go h k
theorem ifK_t {m n : M α} {o : Out α} (k : m a = o) : ifK true m n a = o := k
theorem ifK_f {m n : M α} {o : Out α} (k : n a = o) : ifK false m n a = o := k
theorem ifK_of {b : Bool} {m n : M α} {o : Out α} (c : Bool) (h : b = c) (k : ifK c m n a = o) : ifK b m n a = o := by rw [h]; exact k
theorem tst_go {m : M D} {b : Bool} (h : m a = .ok (.bl b) a') : tstM m a = .ok b a' := bd_go h rfl
theorem not_go {m : M Bool} {b : Bool} (h : m a = .ok b a') : notM m a = .ok (!b) a' := bd_go h rfl
theorem notV_go {m : M D} {b : Bool} (h : m a = .ok (.bl b) a') : notV m a = .ok (.bl (!b)) a' := bd_go h rfl
theorem bl_go {m : M Bool} {b : Bool} (h : m a = .ok b a') : blM m a = .ok (.bl b) a' := bd_go h rfl
def andK (b : Bool) (n : M Bool) (a : AS) : Out Bool := (if b = true then n else ret false) a
def orK (b : Bool) (n : M Bool) (a : AS) : Out Bool := (if b = true then ret true else n) a
theorem and_go {m n : M Bool} {b : Bool} {o : Out Bool} (h : m a = .ok b a') (k : andK b n a' = o) : andM m n a = o := bd_go h k
theorem or_go {m n : M Bool} {b : Bool} {o : Out Bool} (h : m a = .ok b a') (k : orK b n a' = o) : orM m n a = o := bd_go h k
theorem andK_t {n : M Bool} {o : Out Bool} (k : n a = o) : andK true n a = o := k
theorem andK_f {n : M Bool} : andK false n a = .ok false a := rfl
theorem orK_t {n : M Bool} : orK true n a = .ok true a := rfl
theorem orK_f {n : M Bool} {o : Out Bool} (k : n a = o) : orK false n a = o := k
def andVK (b : Bool) (n : M D) (a : AS) : Out D := (if b = true then n else ret (.bl false)) a
def orVK (b : Bool) (n : M D) (a : AS) : Out D := (if b = true then ret (.bl true) else n) a
theorem andV_go {m n : M D} {b : Bool} {o : Out D} (h : m a = .ok (.bl b) a') (k : andVK b n a' = o) : andV m n a = o := bd_go h (bd_go (x := b) (a' := a') rfl k)
theorem orV_go {m n : M D} {b : Bool} {o : Out D} (h : m a = .ok (.bl b) a') (k : orVK b n a' = o) : orV m n a = o := bd_go h (bd_go (x := b) (a' := a') rfl k)
theorem andVK_t {n : M D} {o : Out D} (k : n a = o) : andVK true n a = o := k
theorem andVK_f {n : M D} : andVK false n a = .ok (.bl false) a := rfl
theorem orVK_t {n : M D} : orVK true n a = .ok (.bl true) a := rfl
theorem orVK_f {n : M D} {o : Out D} (k : n a = o) : orVK false n a = o := k
def orGK (b : Bool) (x : D) (n : M D) (a : AS) : Out D := (if b = true then ret x else n) a
theorem orG_go {m n : M D} {x : D} {b : Bool} {o : Out D} (h : m a = .ok x a') (e : truD a'.st x = some b) (k : orGK b x n a' = o) : orG m n a = o := bd_go h (bd_go (x := b) (a' := a') (by show opt (truD a'.st x) a' = _; rw [e]; rfl) k)
theorem orGK_t {n : M D} {x : D} : orGK true x n a = .ok x a := rfl
theorem orGK_f {n : M D} {x : D} {o : Out D} (k : n a = o) : orGK false x n a = o := k
theorem op2_go {f : D → D → Option Bool} {m n : M D} {x y : D} {z : Bool} (h1 : m a = .ok x a1) (h2 : n a1 = .ok y a2) (h : f x y = some z) : op2 f m n a = .ok z a2 := bd_go h1 (bd_go h2 (by rw [h]; rfl))
theorem op_go {f : D → D → Option D} {m n : M D} {x y z : D} (h1 : m a = .ok x a1) (h2 : n a1 = .ok y a2) (h : f x y = some z) : opM f m n a = .ok z a2 := bd_go h1 (bd_go h2 (by rw [h]; rfl))
theorem opS_go {f : D → D → M D} {m n : M D} {x y : D} {o : Out D} (h1 : m a = .ok x a1) (h2 : n a1 = .ok y a2) (h : f x y a2 = o) : opS f m n a = o := bd_go h1 (bd_go h2 h)
theorem op2S_go {f : D → D → M Bool} {m n : M D} {x y : D} {o : Out Bool} (h1 : m a = .ok x a1) (h2 : n a1 = .ok y a2) (h : f x y a2 = o) : op2S f m n a = o := bd_go h1 (bd_go h2 h)
theorem binO_go {c : Nat} {g : FD} {x y d : D} {sl : List Slot} {st st' : List Cell} (hc : (isI c x && isI c y) = true) (h : FOk g [x, y] st d st') (hd : refD d = true) : binO c g x y ⟨sl, st⟩ = .ok d ⟨sl, st'⟩ := by
  obtain ⟨sl0, e⟩ := h
  unfold binO
  rw [if_pos hc]
  dsimp only
  rw [e]
  dsimp only
  rw [if_pos hd]
theorem neg_go {m : M D} {i : Int} (h : m a = .ok (.int i) a') : (bd m fun x => opt (negM x)) a = .ok (.int (-i)) a' := bd_go h rfl
theorem neg1_go : (bd (ret (D.int 1)) fun x => opt (negM x)) a = .ok (.int (-1)) a := rfl
theorem tup_go {m : M (List D)} {xs : List D} (h : m a = .ok xs a') (hl : xs.length ≤ 1000) : (bd m fun xs => if xs.length ≤ 1000 then ret (D.tup xs) else no) a = .ok (.tup xs) a' := bd_go h (by rw [if_pos hl]; rfl)
theorem lst_go {m : M (List D)} {xs : List D} (h : m a = .ok xs a') (hl : xs.length ≤ 1000) : (bd m fun xs => if xs.length ≤ 1000 then ret xs else no) a = .ok xs a' := bd_go h (by rw [if_pos hl]; rfl)
theorem new_go {m : M (List D)} {xs : List D} (h : m a = .ok xs a') : (bd m fun ds => ret (D.lst ds)) a = .ok (.lst xs) a' := bd_go h rfl
theorem ix_go {m n : M D} {x v k : D} (h : m a = .ok x a1) (h2 : n a1 = .ok k a2) (hv : ixM a2.st x k = some v) : (bd m fun x => bd n fun i => rdM fun st => ixM st x i) a = .ok v a2 := bd_go h (bd_go h2 (by show opt (ixM a2.st x k) a2 = _; rw [hv]; rfl))
theorem cal_go {f : List Cell → List D → Option D} {ms : M (List D)} {xs : List D} {d : D} (h : ms a = .ok xs a') (k : f a'.st xs = some d) : calM f ms a = .ok d a' := bd_go h (by show opt (f a'.st xs) a' = _; rw [k]; rfl)
theorem cat_go {m n : M D} {x y : D} {xs ys : List D} (h : m a = .ok x a1) (k : n a1 = .ok y a2) (hx : lstOf a2.st x = some xs) (hy : lstOf a2.st y = some ys) (hl : xs.length + ys.length ≤ 100000) : catM m n a = .ok (xs ++ ys) a2 := bd_go h (bd_go k (by
  show opt ((lstOf a2.st x).bind fun xs => (lstOf a2.st y).bind fun ys => if xs.length + ys.length ≤ 100000 then some (xs ++ ys) else none) a2 = _
  rw [hx, hy]
  simp only [Option.bind_some]
  rw [if_pos hl]
  rfl))
theorem callM_go {np : Nat} {f : FD} {ds : List D} {sl : List Slot} {st st' : List Cell} {d : D} (hl : ds.length = np) (k : FOk f ds st d st') : callM np f ds ⟨sl, st⟩ = .ok d ⟨sl, st'⟩ := by
  obtain ⟨sl0, e⟩ := k
  unfold callM
  rw [if_pos hl]
  rw [e]
theorem call_go {np : Nat} {f : FD} {ms : M (List D)} {xs : List D} {sl : List Slot} {st st' : List Cell} {d : D} (h : ms a = .ok xs ⟨sl, st⟩) (hl : xs.length = np) (k : FOk f xs st d st') : callA np f [] ms a = .ok d ⟨sl, st'⟩ := bd_go h (by
  rw [List.append_nil]
  exact callM_go hl k)
theorem callK_go {n m np : Nat} {ar : List D → List D → List D} {f : FD} {ms mk2 : M (List D)} {ds zs xs : List D} {sl : List Slot} {st st' : List Cell} {d : D} (h : ms a = .ok ds a1) (h2 : mk2 a1 = .ok zs ⟨sl, st⟩) (hl : (ds.length == n && zs.length == m) = true) (hx : ar ds zs = xs) (hn : xs.length = np) (k : FOk f xs st d st') : callKM n m ar np f ms mk2 a = .ok d ⟨sl, st'⟩ := by
  refine bd_go h (bd_go h2 ?_)
  rw [if_pos hl, hx]
  exact callM_go hn k
theorem make_go {n m : Nat} {ar : List D → List D → List D} {mk : List D → M D} {ms mk2 : M (List D)} {ds zs vs : List D} {o : Out D} (h1 : ms a = .ok ds a1) (h2 : mk2 a1 = .ok zs a2) (hl : (ds.length == n && zs.length == m) = true) (hv : ar ds zs = vs) (h : mk vs a2 = o) : makeM n m ar mk ms mk2 a = o := by
  refine bd_go h1 (bd_go h2 ?_)
  rw [if_pos hl, hv]
  exact h
theorem attr_go {tb : TB} {f : Str} {m : M D} {x d : D} (h : m a = .ok x a') (k : fldM tb f a'.st x = some d) : attrM tb f m a = .ok d a' := bd_go h (by show opt (fldM tb f a'.st x) a' = _; rw [k]; rfl)
theorem meth_go {tb : TB} {c : Nat} {m : Str} {np : Nat} {g : FD} {mo : M D} {ms : M (List D)} {o d : D} {xs : List D} {fs : List (Str × D)} {sl : List Slot} {st st' : List Cell} (h : mo a = .ok o a1) (h2 : objOf tb a1.st o = some (c, fs)) (h3 : (c == c && tb.ins c && (fs.lookup m).isNone) = true) (h4 : ms a1 = .ok xs ⟨sl, st⟩) (hl : (o :: xs).length = np) (k : FOk g (o :: xs) st d st') :
    methM tb c m np g [] mo ms a = .ok d ⟨sl, st'⟩ := by
  refine bd_go h ?_
  rw [h2]
  dsimp only
  rw [if_pos h3]
  refine bd_go h4 ?_
  rw [List.append_nil]
  exact callM_go hl k
theorem meth0_go {tb : TB} {c : Nat} {m : Str} {np : Nat} {g : FD} {mo : M D} {o d : D} {fs : List (Str × D)} {sl : List Slot} {st st' : List Cell} (h : mo a = .ok o ⟨sl, st⟩) (h2 : objOf tb st o = some (c, fs)) (h3 : (c == c && tb.ins c && (fs.lookup m).isNone) = true) (hl : [o].length = np) (k : FOk g [o] st d st') :
    meth0M tb c m np g [] mo a = .ok d ⟨sl, st'⟩ := by
  refine bd_go h ?_
  dsimp only
  rw [h2]
  dsimp only
  rw [if_pos h3]
  exact callM_go hl k
theorem methO_go {i : Nat} {f : List Cell → List D → List D → Option (List D)} {ms : M (List D)} {ds0 ds xs es : List D} (h0 : ownAt i a = some ds0) (h : ms a = .ok xs a1) (h1 : ownAt i a1 = some ds) (k : f a1.st ds xs = some es) : methO i f ms a = .ok .non ⟨a1.sl.set i (.own es), a1.st⟩ := by
  unfold methO
  rw [h0]
  dsimp only
  rw [h]
  simp only [bind_ok]
  rw [h1]
  dsimp only
  rw [k]
theorem fin_go {n : Nat} {m : M Fl} {ds : List D} {st st' : List Cell} {sl : List Slot} {d : D} (h : m (fram n ds st) = .ok (.ret d) ⟨sl, st'⟩) : FOk (mkF n m) ds st d st' := ⟨sl, by
  unfold mkF
  rw [h]
  rfl⟩
theorem finN_go {n : Nat} {m : M Fl} {ds : List D} {st st' : List Cell} {sl : List Slot} (h : m (fram n ds st) = .ok .nx ⟨sl, st'⟩) : FOk (mkF n m) ds st .non st' := ⟨sl, by
  unfold mkF
  rw [h]
  rfl⟩
theorem for_go {mi : M (List D)} {t : TgM} {body : M Fl} {ds : List D} {o : Out Fl} (h : mi a = .ok ds a') (k : forL t body ds a' = o) : forM mi t body a = o := bd_go h k
theorem for_nil {t : TgM} {body : M Fl} : forL t body [] a = .ok .nx a := rfl
theorem for_one {t : TgM} {body : M Fl} {d : D} {ds : List D} {o : Out Fl} (h : t d a = some a1) (k : body a1 = .ok .nx a2) (r : forL t body ds a2 = o) : forL t body (d :: ds) a = o := by
  unfold forL
  simp only [h, k]
  exact r
theorem ch_go {f g : D → D → Option Bool} {ma mb mc : M D} {x y z : D} {k : Bool} {a3 : AS} (h1 : ma a = .ok x a1) (h2 : mb a1 = .ok y a2) (h3 : f x y = some true) (h4 : mc a2 = .ok z a3) (h5 : g y z = some k) : chM f g ma mb mc a = .ok k a3 :=
  bd_go h1 (bd_go h2 (bd_go (x := true) (a' := a2) (by rw [h3]; rfl) (bd_go h4 (by rw [h5]; rfl))))
theorem FOk.pu {f : FD} {ds : List D} {d : D} (h : Pu f ds d) {st : List Cell} : FOk f ds st d st := h st
end
theorem lc_go {vs : List Nat} {mi : M (List D)} {t : TgM} {test : M Bool} {elt : M D} {a a' b : AS} {ds xs : List D} (h : mi a = .ok ds a') (k : lcL t test elt (hideL vs a'.sl) ds a'.st [] = .ok xs b) : lcM vs mi t test elt a = .ok xs ⟨a'.sl, b.st⟩ := bd_go h (by rw [k])
theorem lc_map {j : Nat} {elt : M D} {sl : List Slot} {st : List Cell} {g : D → D} : ∀ (ds acc : List D), (∀ d ∈ ds, ∃ s', elt ⟨sl.set j (.val d), st⟩ = .ok (g d) ⟨s', st⟩) → acc.length + ds.length < 100000 → lcL (tgN j) yesM elt sl ds st acc = .ok (acc ++ ds.map g) ⟨[], st⟩
  | [], acc, _, _ => by rw [List.map_nil, List.append_nil]; rfl
  | d :: ds, acc, h, hl => by
    rw [List.length_cons] at hl
    obtain ⟨s', e⟩ := h d (by simp)
    unfold lcL
    show (match elt ⟨sl.set j (.val d), st⟩ with
      | .ok y b3 => if acc.length < 100000 then lcL (tgN j) yesM elt sl ds b3.st (acc ++ [y]) else Out.stuck
      | _ => Out.stuck) = _
    rw [e]
    dsimp only
    rw [if_pos (by omega)]
    have ih := lc_map (j := j) (elt := elt) (sl := sl) (st := st) (g := g) ds (acc ++ [g d]) (fun x hx => h x (by simp [hx])) (by rw [List.length_append, List.length_singleton]; omega)
    rw [ih, List.append_assoc]
    rfl
theorem lc_draw {j : Nat} {P : D → Prop} {I : List Cell → Prop} {elt : M D} {sl : List Slot} (hE : ∀ (d : D) (st : List Cell), I st → ∃ v a', P v ∧ I a'.st ∧ elt ⟨sl.set j (.val d), st⟩ = .ok v a') : ∀ (ds : List D) (st : List Cell) (acc : List D), I st → acc.length + ds.length < 100000 →
    ∃ vs a', lcL (tgN j) yesM elt sl ds st acc = .ok (acc ++ vs) a' ∧ I a'.st ∧ vs.length = ds.length ∧ ∀ v ∈ vs, P v
  | [], st, acc, w, _ => ⟨[], ⟨[], st⟩, by rw [List.append_nil]; rfl, w, rfl, fun v hv => by simp at hv⟩
  | d :: ds, st, acc, w, hl => by
    obtain ⟨v, a1, hv, w1, e1⟩ := hE d st w
    rw [List.length_cons] at hl
    obtain ⟨vs, a2, e2, w2, l2, h2⟩ := lc_draw hE ds a1.st (acc ++ [v]) w1 (by rw [List.length_append, List.length_singleton]; omega)
    refine ⟨v :: vs, a2, ?_, w2, by rw [List.length_cons, List.length_cons, l2], fun x hx => by
      rcases List.mem_cons.mp hx with rfl | hx
      · exact hv
      · exact h2 x hx⟩
    unfold lcL
    show (match elt ⟨sl.set j (.val d), st⟩ with
      | .ok y b3 => if acc.length < 100000 then lcL (tgN j) yesM elt sl ds b3.st (acc ++ [y]) else Out.stuck
      | _ => Out.stuck) = _
    rw [e1]
    dsimp only
    rw [if_pos (by omega), e2, List.append_assoc]
    rfl
theorem rangeD_len : ∀ (i : Int) (n : Nat), (rangeD i n).length = n := by
  intro i n
  unfold rangeD
  simp
theorem range_go {ms : M (List D)} {a a' : AS} {r : Int} (h : ms a = .ok [.int r] a') (h0 : 0 ≤ r) (h1 : r < 1000) : range1M ms a = .ok (rangeD 0 r.toNat) a' := bd_go h (by
  show (if okR r = true then ret (rangeD 0 r.toNat) else no) a' = _
  rw [if_pos (by unfold okR; exact decide_eq_true (by omega))]
  rfl)
mutual
theorem bel_pl (n : Nat) : ∀ d : D, d.pl = true → d.bel n = true
  | .non, _ => rfl
  | .bl _, _ => rfl
  | .int _, _ => rfl
  | .str _, _ => rfl
  | .tup ds, h => by
    unfold D.pl at h
    unfold D.bel
    exact belL_pl n ds h
  | .lst ds, h => by
    unfold D.pl at h
    unfold D.bel
    exact belL_pl n ds h
  | .ins _ _, h => by simp [D.pl] at h
  | .cell _, h => by simp [D.pl] at h
  | .dic, h => by simp [D.pl] at h
  | .ty _, h => by simp [D.pl] at h
  | .cls _, h => by simp [D.pl] at h
theorem belL_pl (n : Nat) : ∀ ds : List D, plL ds = true → belL n ds = true
  | [], _ => rfl
  | d :: ds, h => by
    unfold plL at h
    rw [Bool.and_eq_true] at h
    unfold belL
    rw [bel_pl n d h.1, belL_pl n ds h.2]
    rfl
end
theorem put_go {tb : TB} {c : Nat} {f : Str} {d : D} {fs gs : List (Str × D)} {sl : List Slot} {st : List Cell} {m : M D} (h : m ⟨sl, st ++ [.obj c fs]⟩ = .ok d ⟨sl, st ++ [.obj c fs]⟩) (h0 : varM 0 ⟨sl, st ++ [.obj c fs]⟩ = .ok (.cell st.length) ⟨sl, st ++ [.obj c fs]⟩)
    (hc : (tb.ins c && (tb.fl c).contains f && decide (fs.length < 1000)) = true) (hg : putD f d fs = gs) : putM tb f (varM 0) m ⟨sl, st ++ [.obj c fs]⟩ = .ok .nx ⟨sl, st ++ [.obj c gs]⟩ := by
  refine bd_go h (bd_go h0 ?_)
  have e : (st ++ [Cell.obj c fs])[st.length]? = some (Cell.obj c fs) := by simp
  dsimp only
  rw [e]
  dsimp only
  rw [if_pos hc, hg]
  have e2 : (st ++ [Cell.obj c fs]).set st.length (Cell.obj c gs) = st ++ [Cell.obj c gs] := by simp
  rw [e2]
theorem mkI_go {tb : TB} {c np : Nat} {f : FD} {ds vs : List D} {fs : List (Str × D)} {sl : List Slot} {st : List Cell} (hn : ds.length + 1 = np) (h : FOk f (.cell st.length :: ds) (st ++ [.obj c []]) .non (st ++ [.obj c fs])) (hv : fs.map (·.2) = vs) (hb : belL st.length vs = true) (hf : (fs.map (·.1) == tb.fl c) = true) :
    mkI tb c np f ds ⟨sl, st⟩ = .ok (.ins c vs) ⟨sl, st⟩ := by
  obtain ⟨sl0, e⟩ := h
  have k3 : mkC c np f ds ⟨sl, st⟩ = .ok (.cell st.length) ⟨sl, st ++ [.obj c fs]⟩ := by
    unfold mkC
    dsimp only
    rw [if_pos hn, e]
  unfold mkI
  rw [k3]
  simp only [bind_ok]
  have k4 : popO tb c st (st ++ [.obj c fs]) = some vs := by
    unfold popO
    have e : (st ++ [Cell.obj c fs])[st.length]? = some (Cell.obj c fs) := by simp
    rw [e]
    dsimp only
    rw [ceqL_self, hv, hb, hf]
    rw [if_pos (by rw [beq_self_eq_true]; rfl)]
  rw [k4]
def Wl (i : Nat) (st : List Cell) : Prop := ∃ a b c : Int, st[i]? = some (.lst [.int a, .int b, .int c])
theorem Wl.set {i : Nat} {st : List Cell} (h : i < st.length) (a b c : Int) : Wl i (st.set i (.lst [.int a, .int b, .int c])) := ⟨a, b, c, by rw [List.getElem?_set_self h]⟩
theorem mod_some {i j : Int} (h : 0 < j) : modM (.int i) (.int j) = some (.int (i % j)) := by unfold modM; dsimp only; rw [if_pos (decide_eq_true h)]
theorem log_lt {j : Nat} {k : Nat} (hk : 0 < k) (h : j < 2 ^ k) : j.log2 < k := by
  by_cases h0 : j = 0
  · subst h0; simpa using hk
  · exact (Nat.log2_lt h0).mpr h
theorem fdiv_some {i j : Int} (h : 0 < j) (h2 : j.natAbs < 2 ^ 2000) : fdivM (.int i) (.int j) = some (.int (i / j)) := by
  unfold fdivM
  dsimp only
  have : j.natAbs.log2 < 9000 := Nat.lt_trans (log_lt (by decide) h2) (by decide)
  rw [decide_eq_true h, decide_eq_true this]
  rfl
theorem mul_some {i j : Int} (h1 : i.natAbs < 2 ^ 2000) (h2 : j.natAbs < 2 ^ 2000) : mulM (.int i) (.int j) = some (.int (i * j)) := by
  have l1 := log_lt (by decide) h1
  have l2 := log_lt (by decide) h2
  unfold mulM mulOk
  dsimp only
  rw [decide_eq_true (show i.natAbs.log2 + j.natAbs.log2 < 1000000 by omega), Bool.or_true]
  rfl
theorem mul_right {i j : Int} (h : -(2 ^ 64) < j ∧ j < 2 ^ 64) : mulM (.int i) (.int j) = some (.int (i * j)) := by
  unfold mulM mulOk
  dsimp only
  rw [decide_eq_true h, Bool.or_true, Bool.true_or]
  rfl
theorem mul_left {i j : Int} (h : -(2 ^ 64) < i ∧ i < 2 ^ 64) : mulM (.int i) (.int j) = some (.int (i * j)) := by
  unfold mulM mulOk
  dsimp only
  rw [decide_eq_true h, Bool.true_or, Bool.true_or]
  rfl
theorem at_mem {l : List D} {k : Int} (h0 : 0 ≤ k) (h1 : k < l.length) : ∃ v, L2.atI l k = some v ∧ v ∈ l := by
  have hk : k.toNat < l.length := by omega
  refine ⟨l[k.toNat], ?_, List.getElem_mem hk⟩
  unfold L2.atI L2.ixN
  rw [if_pos h0, if_pos h1]
  exact List.getElem?_eq_getElem hk
theorem app_some {st : List Cell} {ds : List D} {x : D} (h : ds.length < 1000) : appF st ds [x] = some (ds ++ [x]) := by
  unfold appF
  dsimp only
  rw [if_pos (by omega)]
structure G (n : Nat) (d : D) : Prop where
  pl : d.pl = true
  dp : d.dep ≤ n
theorem G.mono {n m : Nat} {d : D} (h : G n d) (k : n ≤ m) : G m d := ⟨h.pl, Nat.le_trans h.dp k⟩
theorem depL_le : ∀ {ds : List D} {n : Nat}, (∀ d ∈ ds, d.dep ≤ n) → depL ds ≤ n
  | [], n, _ => Nat.zero_le n
  | d :: ds, n, h => Nat.max_le.mpr ⟨h d (by simp), depL_le fun x hx => h x (by simp [hx])⟩
theorem plL_of : ∀ {ds : List D}, (∀ d ∈ ds, d.pl = true) → plL ds = true
  | [], _ => rfl
  | d :: ds, h => by unfold plL; rw [h d (by simp), plL_of fun x hx => h x (by simp [hx])]; rfl
theorem G.tup {n : Nat} {ds : List D} (h : ∀ d ∈ ds, G n d) : G (n + 1) (.tup ds) := ⟨by unfold D.pl; exact plL_of fun d hd => (h d hd).pl, Nat.succ_le_succ (depL_le fun d hd => (h d hd).dp)⟩
theorem G.lst {n : Nat} {ds : List D} (h : ∀ d ∈ ds, G n d) : G (n + 1) (.lst ds) := ⟨by unfold D.pl; exact plL_of fun d hd => (h d hd).pl, Nat.succ_le_succ (depL_le fun d hd => (h d hd).dp)⟩
theorem G.str {n : Nat} (x : Str) : G n (.str x) := ⟨rfl, Nat.zero_le _⟩
theorem G.int {n : Nat} (x : Int) : G n (.int x) := ⟨rfl, Nat.zero_le _⟩
theorem G.bl {n : Nat} (x : Bool) : G n (.bl x) := ⟨rfl, Nat.zero_le _⟩
theorem all0 {P : D → Prop} : ∀ d ∈ ([] : List D), P d := fun d hd => by cases hd
theorem all1 {P : D → Prop} {x : D} {xs : List D} (h : P x) (k : ∀ d ∈ xs, P d) : ∀ d ∈ x :: xs, P d := fun d hd => by
  rcases List.mem_cons.mp hd with rfl | hd
  · exact h
  · exact k d hd
theorem eqM_of {n m : Nat} {x y : D} (hx : G n x) (hy : G m y) (hn : n ≤ 60) : eqM x y = some (eqB x y) := by
  unfold eqM
  rw [if_pos (by rw [Bool.and_eq_true, Bool.and_eq_true]; exact ⟨⟨hx.pl, hy.pl⟩, decide_eq_true (Nat.le_trans (Nat.min_le_left _ _) (Nat.le_trans hx.dp hn))⟩)]
theorem neM_of {n m : Nat} {x y : D} (hx : G n x) (hy : G m y) (hn : n ≤ 60) : neM x y = some (!eqB x y) := by
  unfold neM
  rw [if_pos (by rw [Bool.and_eq_true, Bool.and_eq_true]; exact ⟨⟨hx.pl, hy.pl⟩, decide_eq_true (Nat.le_trans (Nat.min_le_left _ _) (Nat.le_trans hx.dp hn))⟩)]
mutual
theorem eqB_self : ∀ d : D, d.pl = true → eqB d d = true
  | .non, _ => rfl
  | .bl b, _ => by cases b <;> rfl
  | .int i, _ => beq_self_eq_true (α := Int) i
  | .str x, _ => beq_self_eq_true (α := Str) x
  | .tup ds, h => by
    unfold D.pl at h
    exact eqL_self ds h
  | .lst ds, h => by
    unfold D.pl at h
    exact eqL_self ds h
  | .ins _ _, h => by simp [D.pl] at h
  | .cell _, h => by simp [D.pl] at h
  | .dic, h => by simp [D.pl] at h
  | .ty _, h => by simp [D.pl] at h
  | .cls _, h => by simp [D.pl] at h
theorem eqL_self : ∀ ds : List D, plL ds = true → PyData.eqvAll (toPyL ds) (toPyL ds) = true
  | [], _ => rfl
  | d :: ds, h => by
    unfold plL at h
    rw [Bool.and_eq_true] at h
    show (eqB d d && PyData.eqvAll (toPyL ds) (toPyL ds)) = true
    rw [eqB_self d h.1, eqL_self ds h.2]
    rfl
end
theorem ne_self {n : Nat} {d : D} (h : G n d) (hn : n ≤ 60) : neM d d = some false := by rw [neM_of h h hn, eqB_self _ h.pl]; rfl
theorem eq_self {n : Nat} {d : D} (h : G n d) (hn : n ≤ 60) : eqM d d = some true := by rw [eqM_of h h hn, eqB_self _ h.pl]
theorem eqi (i j : Int) : eqM (.int i) (.int j) = some (decide (i = j)) := by
  rw [eqM_of (G.int (n := 0) i) (G.int (n := 0) j) (by decide)]
  show some (i == j) = _
  by_cases h : i = j <;> simp [h]
theorem nei (i j : Int) : neM (.int i) (.int j) = some (!decide (i = j)) := by
  rw [neM_of (G.int (n := 0) i) (G.int (n := 0) j) (by decide)]
  show some (!(i == j)) = _
  by_cases h : i = j <;> simp [h]
def resO : Out D → Option (D × List Cell)
  | .ok d a => some (d, a.st)
  | _ => none
theorem of_res {f : FD} {ds : List D} {st st' : List Cell} {d : D} (h : resO (f ds st) = some (d, st')) : FOk f ds st d st' := by
  cases e : f ds st with
  | stuck => rw [e] at h; cases h
  | exc c fs a => rw [e] at h; cases h
  | ok x a => rw [e] at h; cases h; exact ⟨a.sl, e⟩
end PL

namespace PL
open PySem
section
variable {α β : Type}
def clr : Out α → Out α
  | .ok d a => .ok d ⟨[], a.st⟩
  | .exc c fs a => .exc c fs ⟨[], a.st⟩
  | .stuck => .stuck
def ev (f : FD) (ds : List D) (st : List Cell) : Out D := clr (f ds st)
def putS (sl : List Slot) : Out α → Out α
  | .ok d a => .ok d ⟨sl, a.st⟩
  | .exc c fs a => .exc c fs ⟨sl, a.st⟩
  | .stuck => .stuck
@[simp] theorem putS_ok (sl : List Slot) (x : α) (a : AS) : putS sl (.ok x a) = .ok x ⟨sl, a.st⟩ := rfl
@[simp] theorem putS_exc (sl : List Slot) (c : Nat) (fs : List (Str × D)) (a : AS) : putS sl (.exc c fs a : Out α) = .exc c fs ⟨sl, a.st⟩ := rfl
@[simp] theorem clr_ok (x : α) (a : AS) : clr (.ok x a) = .ok x ⟨[], a.st⟩ := rfl
@[simp] theorem clr_exc (c : Nat) (fs : List (Str × D)) (a : AS) : clr (.exc c fs a : Out α) = .exc c fs ⟨[], a.st⟩ := rfl
theorem fok_ev {f : FD} {ds : List D} {st st' : List Cell} {d : D} (h : FOk f ds st d st') : ev f ds st = .ok d ⟨[], st'⟩ := by
  obtain ⟨sl, e⟩ := h
  unfold ev
  rw [e]
  rfl
theorem ev_fok {f : FD} {ds : List D} {st st' : List Cell} {d : D} (h : ev f ds st = .ok d ⟨[], st'⟩) : FOk f ds st d st' := by
  unfold ev at h
  cases e : f ds st with
  | stuck => rw [e] at h; cases h
  | exc c fs a => rw [e] at h; cases h
  | ok x a => rw [e] at h; cases h; exact ⟨a.sl, e⟩
theorem pu_ev {f : FD} {ds : List D} {d : D} (h : Pu f ds d) (st : List Cell) : ev f ds st = .ok d ⟨[], st⟩ := fok_ev (h st)
theorem ev_pu {f : FD} {ds : List D} {d : D} (h : ∀ st, ev f ds st = .ok d ⟨[], st⟩) : Pu f ds d := fun st => ev_fok (h st)
theorem bind_cg {o o' : Out α} {f : α → AS → Out β} (h : o = o') : o.bind f = o'.bind f := by rw [h]
@[simp] theorem x_bd (m : M α) (f : α → M β) (a : AS) : bd m f a = (m a).bind f := rfl
@[simp] theorem x_ret (x : α) (a : AS) : ret x a = .ok x a := rfl
@[simp] theorem x_no (a : AS) : (no : M α) a = .stuck := rfl
@[simp] theorem x_opt (x : α) (a : AS) : opt (some x) a = .ok x a := rfl
@[simp] theorem x_rd (f : List Cell → Option α) (sl : List Slot) (st : List Cell) : rdM f ⟨sl, st⟩ = opt (f st) ⟨sl, st⟩ := rfl
def seqB (o : Out Fl) (n : M Fl) : Out Fl := match o with
  | .ok .nx a' => n a'
  | o => o
theorem seqB_cg {o o' : Out Fl} {n : M Fl} (h : o = o') : seqB o n = seqB o' n := by rw [h]
@[simp] theorem seqB_nx (a : AS) (n : M Fl) : seqB (.ok .nx a) n = n a := rfl
@[simp] theorem seqB_ret (d : D) (a : AS) (n : M Fl) : seqB (.ok (.ret d) a) n = .ok (.ret d) a := rfl
@[simp] theorem seqB_exc (c : Nat) (fs : List (Str × D)) (a : AS) (n : M Fl) : seqB (.exc c fs a) n = .exc c fs a := rfl
@[simp] theorem x_seq (m n : M Fl) (a : AS) : seqM m n a = seqB (m a) n := rfl
@[simp] theorem x_nx (a : AS) : nxM a = .ok .nx a := rfl
def ifB (o : Out Bool) (m n : M α) : Out α := o.bind fun b => if b = true then m else n
theorem ifB_cg {o o' : Out Bool} {m n : M α} (h : o = o') : ifB o m n = ifB o' m n := by rw [h]
@[simp] theorem ifB_t (a : AS) (m n : M α) : ifB (.ok true a) m n = m a := rfl
@[simp] theorem ifB_f (a : AS) (m n : M α) : ifB (.ok false a) m n = n a := rfl
@[simp] theorem x_if (c : M Bool) (m n : M α) (a : AS) : ifM c m n a = ifB (c a) m n := rfl
@[simp] theorem x_and (m n : M Bool) (a : AS) : andM m n a = ifB (m a) n (ret false) := rfl
@[simp] theorem x_or (m n : M Bool) (a : AS) : orM m n a = ifB (m a) (ret true) n := rfl
@[simp] theorem x_not (m : M Bool) (a : AS) : notM m a = (m a).bind fun c => ret (!c) := rfl
@[simp] theorem x_andV (m n : M D) (a : AS) : andV m n a = (m a).bind fun x => bd (opt (asB x)) fun c => ifM (ret c) n (ret (.bl false)) := rfl
@[simp] theorem x_orV (m n : M D) (a : AS) : orV m n a = (m a).bind fun x => bd (opt (asB x)) fun c => ifM (ret c) (ret (.bl true)) n := rfl
@[simp] theorem x_notV (m : M D) (a : AS) : notV m a = (m a).bind fun x => bd (opt (asB x)) fun c => ret (.bl (!c)) := rfl
@[simp] theorem x_tst (m : M D) (a : AS) : tstM m a = (m a).bind fun x => opt (asB x) := rfl
@[simp] theorem asB_bl (b : Bool) : asB (.bl b) = some b := rfl
@[simp] theorem x_blM (m : M Bool) (a : AS) : blM m a = (m a).bind fun b => ret (.bl b) := rfl
@[simp] theorem x_orG (m n : M D) (a : AS) : orG m n a = (m a).bind fun x => bd (rdM fun st => truD st x) fun c => ifM (ret c) (ret x) n := rfl
@[simp] theorem x_andG (m n : M D) (a : AS) : andG m n a = (m a).bind fun x => bd (rdM fun st => truD st x) fun c => ifM (ret c) n (ret x) := rfl
@[simp] theorem x_op2 (f : D → D → Option Bool) (m n : M D) (a : AS) : op2 f m n a = (m a).bind fun x => bd n fun y => opt (f x y) := rfl
@[simp] theorem x_op (f : D → D → Option D) (m n : M D) (a : AS) : opM f m n a = (m a).bind fun x => bd n fun y => opt (f x y) := rfl
@[simp] theorem x_op2S (f : D → D → M Bool) (m n : M D) (a : AS) : op2S f m n a = (m a).bind fun x => bd n fun y => f x y := rfl
@[simp] theorem x_opS (f : D → D → M D) (m n : M D) (a : AS) : opS f m n a = (m a).bind fun x => bd n fun y => f x y := rfl
@[simp] theorem x_ch (f g : D → D → Option Bool) (ma mb mc : M D) (a : AS) : chM f g ma mb mc a = (ma a).bind fun x => bd mb fun y => bd (opt (f x y)) fun k => ifM (ret k) (bd mc fun z => opt (g y z)) (ret false) := rfl
@[simp] theorem x_chV (f g : D → D → Option Bool) (ma mb mc : M D) (a : AS) : chV f g ma mb mc a = (ma a).bind fun x => bd mb fun y => bd (opt (f x y)) fun k => ifM (ret k) (bd mc fun z => bd (opt (g y z)) fun b => ret (.bl b)) (ret (.bl false)) := rfl
def varB (s : Slot) (i : Nat) (sl : List Slot) (st : List Cell) : Out D := match s with
  | .val d => .ok d ⟨sl, st⟩
  | .own ds => .ok (.lst ds) ⟨sl.set i (.val (.lst ds)), st⟩
  | _ => .stuck
@[simp] theorem x_var (i : Nat) (sl : List Slot) (st : List Cell) : varM i ⟨sl, st⟩ = varB (sl.getD i .emp) i sl st := by
  unfold varM varB
  (try dsimp only) <;> (cases sl.getD i .emp <;> rfl)
@[simp] theorem varB_val (d : D) (i : Nat) (sl : List Slot) (st : List Cell) : varB (.val d) i sl st = .ok d ⟨sl, st⟩ := rfl
@[simp] theorem varB_own (ds : List D) (i : Nat) (sl : List Slot) (st : List Cell) : varB (.own ds) i sl st = .ok (.lst ds) ⟨sl.set i (.val (.lst ds)), st⟩ := rfl
@[simp] theorem x_set (i : Nat) (m : M D) (a : AS) : setM i m a = (m a).bind fun d a => .ok .nx ⟨a.sl.set i (.val d), a.st⟩ := rfl
@[simp] theorem x_own (i : Nat) (m : M (List D)) (a : AS) : ownM i m a = (m a).bind fun d a => .ok .nx ⟨a.sl.set i (.own d), a.st⟩ := rfl
@[simp] theorem x_cell (i : Nat) (m : M (List D)) (a : AS) : cellM i m a = (m a).bind fun d a => .ok .nx ⟨a.sl.set i (.val (.cell a.st.length)), a.st ++ [.lst d]⟩ := rfl
@[simp] theorem x_newC (m : M (List D)) (a : AS) : newCM m a = (m a).bind fun d a => .ok (.cell a.st.length) ⟨a.sl, a.st ++ [.lst d]⟩ := rfl
@[simp] theorem x_par (i j : Nat) (m n : M D) (a : AS) : parM i j m n a = (m a).bind fun x => bd n fun y a => .ok .nx ⟨(a.sl.set i (.val x)).set j (.val y), a.st⟩ := rfl
def par3K (i j l : Nat) : List D → M Fl
  | [x, y, z] => fun a => .ok .nx ⟨((a.sl.set i (.val x)).set j (.val y)).set l (.val z), a.st⟩
  | _ => no
@[simp] theorem par3K_3 (i j l : Nat) (x y z : D) (a : AS) : par3K i j l [x, y, z] a = .ok .nx ⟨((a.sl.set i (.val x)).set j (.val y)).set l (.val z), a.st⟩ := rfl
@[simp] theorem x_par3 (i j l : Nat) (m n r : M D) (a : AS) : par3M i j l m n r a = bd (consM m (consM n (consM r nilM))) (par3K i j l) a := by
  unfold par3M
  congr 1
  funext xs a
  rcases xs with _ | ⟨x, _ | ⟨y, _ | ⟨z, _ | ⟨u, w⟩⟩⟩⟩ <;> rfl
def asgK (t : TgM) (d : D) (a : AS) : Out Fl := match t d a with
  | some a' => .ok .nx a'
  | none => .stuck
@[simp] theorem x_asg (t : TgM) (m : M D) (a : AS) : asgM t m a = (m a).bind (asgK t) := rfl
@[simp] theorem asgK_tup (n : Nat) (u : List D → AS → Option AS) (ds : List D) (a : AS) (h : ds.length = n) : asgK (tgTup n u) (.tup ds) a = (match u ds a with
  | some a' => .ok .nx a'
  | none => .stuck) := by
  unfold asgK tgTup
  dsimp only
  rw [if_pos h]
@[simp] theorem tgN_e (i : Nat) (d : D) (a : AS) : tgN i d a = some ⟨a.sl.set i (.val d), a.st⟩ := rfl
@[simp] theorem tgTup_e (n : Nat) (u : List D → AS → Option AS) (ds : List D) (a : AS) (h : ds.length = n) : tgTup n u (.tup ds) a = u ds a := by
  unfold tgTup
  dsimp only
  rw [if_pos h]
@[simp] theorem tgCons_e (t : TgM) (u : List D → AS → Option AS) (d : D) (ds : List D) (a : AS) : tgCons t u (d :: ds) a = (t d a).bind (u ds) := rfl
@[simp] theorem tgNil_e (a : AS) : tgNil [] a = some a := rfl
@[simp] theorem x_expr (m : M D) (a : AS) : exprM m a = (m a).bind fun _ => ret .nx := rfl
@[simp] theorem x_retM (m : M D) (a : AS) : retM m a = (m a).bind fun d => ret (.ret d) := rfl
@[simp] theorem x_cons (m : M D) (ms : M (List D)) (a : AS) : consM m ms a = (m a).bind fun x => bd ms fun xs => ret (x :: xs) := rfl
@[simp] theorem x_nil (a : AS) : nilM a = .ok [] a := rfl
@[simp] theorem x_some (m : M D) (a : AS) : someM m a = (m a).bind fun x => bd (opt (asI x)) fun i => ret (some i) := rfl
@[simp] theorem x_none (a : AS) : noneM a = .ok none a := rfl
@[simp] theorem asI_int (i : Int) : asI (.int i) = some i := rfl
@[simp] theorem x_if_ret (p : Prop) [Decidable p] (m n : M α) (a : AS) (h : p) : (if p then m else n) a = m a := by rw [if_pos h]
@[simp] theorem lstOf_lst (st : List Cell) (ds : List D) : lstOf st (.lst ds) = some ds := rfl
@[simp] theorem x_cat (m n : M D) (a : AS) : catM m n a = (m a).bind fun x => bd n fun y => rdM fun st => (lstOf st x).bind fun xs => (lstOf st y).bind fun ys => if xs.length + ys.length ≤ 100000 then some (xs ++ ys) else none := rfl
def methK (i : Nat) (f : List Cell → List D → List D → Option (List D)) (xs : List D) (a1 : AS) : Out D := match ownAt i a1 with
  | none => .stuck
  | some ds => match f a1.st ds xs with
    | none => .stuck
    | some es => .ok .non { a1 with sl := a1.sl.set i (.own es) }
@[simp] theorem ownAt_e (i : Nat) (sl : List Slot) (st : List Cell) (ds : List D) (h : sl.getD i .emp = .own ds) : ownAt i ⟨sl, st⟩ = some ds := by unfold ownAt; dsimp only; rw [h]
@[simp] theorem x_meth (i : Nat) (f : List Cell → List D → List D → Option (List D)) (ms : M (List D)) (sl : List Slot) (st : List Cell) (ds : List D) (h : sl.getD i .emp = .own ds) : methO i f ms ⟨sl, st⟩ = (ms ⟨sl, st⟩).bind (methK i f) := by
  unfold methO
  rw [ownAt_e i sl st ds h]
  rfl
@[simp] theorem methK_e (i : Nat) (f : List Cell → List D → List D → Option (List D)) (xs : List D) (sl : List Slot) (st : List Cell) (ds es : List D) (h : sl.getD i .emp = .own ds) (k : f st ds xs = some es) : methK i f xs ⟨sl, st⟩ = .ok .non ⟨sl.set i (.own es), st⟩ := by
  unfold methK
  rw [ownAt_e i sl st ds h]
  dsimp only
  rw [k]
@[simp] theorem app_e (st : List Cell) (ds : List D) (x : D) (h : ds.length < 100000) : appF st ds [x] = some (ds ++ [x]) := by
  unfold appF
  dsimp only
  rw [if_pos h]
theorem x_callM (np : Nat) (f : FD) (ds : List D) (sl : List Slot) (st : List Cell) (h : ds.length = np) : callM np f ds ⟨sl, st⟩ = putS sl (ev f ds st) := by
  unfold callM ev
  rw [if_pos h]
  cases f ds st <;> rfl
@[simp] theorem x_callA (np : Nat) (f : FD) (ms : M (List D)) (a : AS) : callA np f [] ms a = (ms a).bind fun xs => callM np f xs := by
  unfold callA
  simp only [List.append_nil]
  rfl
@[simp] theorem x_callM0 (f : FD) (sl : List Slot) (st : List Cell) : callM 0 f [] ⟨sl, st⟩ = putS sl (ev f [] st) := x_callM _ _ _ _ _ rfl
@[simp] theorem x_callM1 (f : FD) (x : D) (sl : List Slot) (st : List Cell) : callM 1 f [x] ⟨sl, st⟩ = putS sl (ev f [x] st) := x_callM _ _ _ _ _ rfl
@[simp] theorem x_callM2 (f : FD) (x y : D) (sl : List Slot) (st : List Cell) : callM 2 f [x, y] ⟨sl, st⟩ = putS sl (ev f [x, y] st) := x_callM _ _ _ _ _ rfl
@[simp] theorem x_callM3 (f : FD) (x y z : D) (sl : List Slot) (st : List Cell) : callM 3 f [x, y, z] ⟨sl, st⟩ = putS sl (ev f [x, y, z] st) := x_callM _ _ _ _ _ rfl
@[simp] theorem x_callM4 (f : FD) (x y z u : D) (sl : List Slot) (st : List Cell) : callM 4 f [x, y, z, u] ⟨sl, st⟩ = putS sl (ev f [x, y, z, u] st) := x_callM _ _ _ _ _ rfl
@[simp] theorem x_callM5 (f : FD) (x y z u v : D) (sl : List Slot) (st : List Cell) : callM 5 f [x, y, z, u, v] ⟨sl, st⟩ = putS sl (ev f [x, y, z, u, v] st) := x_callM _ _ _ _ _ rfl
@[simp] theorem x_callM6 (f : FD) (x y z u v w : D) (sl : List Slot) (st : List Cell) : callM 6 f [x, y, z, u, v, w] ⟨sl, st⟩ = putS sl (ev f [x, y, z, u, v, w] st) := x_callM _ _ _ _ _ rfl
@[simp] theorem x_callM7 (f : FD) (x y z u v w t : D) (sl : List Slot) (st : List Cell) : callM 7 f [x, y, z, u, v, w, t] ⟨sl, st⟩ = putS sl (ev f [x, y, z, u, v, w, t] st) := x_callM _ _ _ _ _ rfl
@[simp] theorem x_callK (n m : Nat) (ar : List D → List D → List D) (np : Nat) (g : FD) (ms mk2 : M (List D)) (a : AS) : callKM n m ar np g ms mk2 a = (ms a).bind fun ds => bd mk2 fun zs => ifM (ret (ds.length == n && zs.length == m)) (callM np g (ar ds zs)) no := rfl
@[simp] theorem x_make (n m : Nat) (ar : List D → List D → List D) (mk : List D → M D) (ms mk2 : M (List D)) (a : AS) : makeM n m ar mk ms mk2 a = (ms a).bind fun ds => bd mk2 fun zs => ifM (ret (ds.length == n && zs.length == m)) (mk (ar ds zs)) no := rfl
@[simp] theorem x_cal (f : List Cell → List D → Option D) (ms : M (List D)) (a : AS) : calM f ms a = (ms a).bind fun xs => rdM fun st => f st xs := rfl
@[simp] theorem x_attr (tb : TB) (f : Str) (m : M D) (a : AS) : attrM tb f m a = (m a).bind fun x => rdM fun st => fldM tb f st x := rfl
@[simp] theorem fram_e (n : Nat) (ds : List D) (st : List Cell) : fram n ds st = ⟨ds.map Slot.val ++ List.replicate (n - ds.length) .emp, st⟩ := rfl
def finE : Out Fl → Out D
  | .ok .nx a => .ok .non ⟨[], a.st⟩
  | .ok (.ret d) a => .ok d ⟨[], a.st⟩
  | .exc c fs a => .exc c fs ⟨[], a.st⟩
  | _ => .stuck
@[simp] theorem finE_nx (a : AS) : finE (.ok .nx a) = .ok .non ⟨[], a.st⟩ := rfl
@[simp] theorem finE_ret (d : D) (a : AS) : finE (.ok (.ret d) a) = .ok d ⟨[], a.st⟩ := rfl
@[simp] theorem finE_exc (c : Nat) (fs : List (Str × D)) (a : AS) : finE (.exc c fs a) = .exc c fs ⟨[], a.st⟩ := rfl
theorem ev_mk (n : Nat) (m : M Fl) (ds : List D) (st : List Cell) : ev (mkF n m) ds st = finE (m (fram n ds st)) := by
  unfold ev mkF
  generalize m (fram n ds st) = o
  cases o with
  | stuck => rfl
  | exc c fs a => rfl
  | ok f a => cases f <;> rfl
@[simp] theorem add_e (i j : Int) : addM (.int i) (.int j) = some (.int (i + j)) := rfl
@[simp] theorem sub_e (i j : Int) : subM (.int i) (.int j) = some (.int (i - j)) := rfl
@[simp] theorem neg_e (i : Int) : negM (.int i) = some (.int (-i)) := rfl
@[simp] theorem lt_e (i j : Int) : ltM (.int i) (.int j) = some (decide (i < j)) := rfl
@[simp] theorem le_e (i j : Int) : leM (.int i) (.int j) = some (decide (i ≤ j)) := rfl
@[simp] theorem gt_e (i j : Int) : gtM (.int i) (.int j) = some (decide (j < i)) := rfl
@[simp] theorem ge_e (i j : Int) : geM (.int i) (.int j) = some (decide (j ≤ i)) := rfl
@[simp] theorem eqi_e (i j : Int) : eqM (.int i) (.int j) = some (decide (i = j)) := eqi i j
@[simp] theorem nei_e (i j : Int) : neM (.int i) (.int j) = some (!decide (i = j)) := nei i j
theorem ofs_inj (x y : String) : (Str.ofString x = Str.ofString y) = (x = y) := propext ⟨fun h => by
  rw [Str.ofString_eq_toList, Str.ofString_eq_toList] at h
  have h1 := congrArg Array.toList (congrArg Str.cps h)
  simp only [List.toList_toArray] at h1
  have h2 : x.toList = y.toList := List.map_inj_right (fun a b e => Char.toNat_inj.mp e) |>.mp h1
  exact String.toList_inj.mp h2, fun h => by rw [h]⟩
@[simp] theorem eqs_e (x y : String) : eqM (.str (Str.ofString x)) (.str (Str.ofString y)) = some (decide (x = y)) := by
  rw [eqM_of (G.str (n := 0) _) (G.str (n := 0) _) (by decide)]
  show some (decide (Str.ofString x = Str.ofString y)) = _
  simp only [ofs_inj]
@[simp] theorem nes_e (x y : String) : neM (.str (Str.ofString x)) (.str (Str.ofString y)) = some (!decide (x = y)) := by
  rw [neM_of (G.str (n := 0) _) (G.str (n := 0) _) (by decide)]
  show some (!decide (Str.ofString x = Str.ofString y)) = _
  simp only [ofs_inj]
@[simp] theorem is_e (x : D) : isM x .non = some x.isNon := rfl
@[simp] theorem isnot_e (x : D) : isnotM x .non = some (!x.isNon) := rfl
@[simp] theorem non_t : D.isNon .non = true := rfl
@[simp] theorem non_int (i : Int) : D.isNon (.int i) = false := rfl
@[simp] theorem non_str (i : Str) : D.isNon (.str i) = false := rfl
@[simp] theorem non_tup (i : List D) : D.isNon (.tup i) = false := rfl
@[simp] theorem non_lst (i : List D) : D.isNon (.lst i) = false := rfl
@[simp] theorem non_ins (c : Nat) (i : List D) : D.isNon (.ins c i) = false := rfl
@[simp] theorem len_tup (st : List Cell) (ds : List D) : lenM st [.tup ds] = some (.int ds.length) := rfl
@[simp] theorem len_lst (st : List Cell) (ds : List D) : lenM st [.lst ds] = some (.int ds.length) := rfl
@[simp] theorem max_e (st : List Cell) (i j : Int) : maxM2 st [.int i, .int j] = some (.int (max i j)) := by
  show some (D.int (if j > i then j else i)) = _
  congr 2
  split <;> omega
@[simp] theorem min_e (st : List Cell) (i j : Int) : minM2 st [.int i, .int j] = some (.int (min i j)) := by
  show some (D.int (if j < i then j else i)) = _
  congr 2
  split <;> omega
@[simp] theorem int_e (st : List Cell) (i : Int) : intM st [.int i] = some (.int i) := rfl
@[simp] theorem intb_e (st : List Cell) (b : Bool) : intM st [.bl b] = some (.int (if b then 1 else 0)) := rfl
theorem ix_tup (st : List Cell) (ds : List D) (i : Int) : ixM st (.tup ds) (.int i) = L2.atI ds i := rfl
theorem ix_lst (st : List Cell) (ds : List D) (i : Int) : ixM st (.lst ds) (.int i) = L2.atI ds i := rfl
@[simp] theorem ix0 (st : List Cell) (x : D) (ds : List D) : ixM st (.tup (x :: ds)) (.int 0) = some x := by
  show L2.atI (x :: ds) 0 = _
  unfold L2.atI L2.ixN
  rw [if_pos (by decide), if_pos (by simp <;> omega)]
  rfl
@[simp] theorem ix1 (st : List Cell) (x y : D) (ds : List D) : ixM st (.tup (x :: y :: ds)) (.int 1) = some y := by
  show L2.atI (x :: y :: ds) 1 = _
  unfold L2.atI L2.ixN
  rw [if_pos (by decide), if_pos (by simp <;> omega)]
  rfl
@[simp] theorem ix2 (st : List Cell) (x y z : D) (ds : List D) : ixM st (.tup (x :: y :: z :: ds)) (.int 2) = some z := by
  show L2.atI (x :: y :: z :: ds) 2 = _
  unfold L2.atI L2.ixN
  rw [if_pos (by decide), if_pos (by simp <;> omega)]
  rfl
@[simp] theorem ixl0 (st : List Cell) (x : D) (ds : List D) : ixM st (.lst (x :: ds)) (.int 0) = some x := by
  show L2.atI (x :: ds) 0 = _
  unfold L2.atI L2.ixN
  rw [if_pos (by decide), if_pos (by simp <;> omega)]
  rfl
@[simp] theorem ixl1 (st : List Cell) (x y : D) (ds : List D) : ixM st (.lst (x :: y :: ds)) (.int 1) = some y := by
  show L2.atI (x :: y :: ds) 1 = _
  unfold L2.atI L2.ixN
  rw [if_pos (by decide), if_pos (by simp <;> omega)]
  rfl
@[simp] theorem ixl2 (st : List Cell) (x y z : D) (ds : List D) : ixM st (.lst (x :: y :: z :: ds)) (.int 2) = some z := by
  show L2.atI (x :: y :: z :: ds) 2 = _
  unfold L2.atI L2.ixN
  rw [if_pos (by decide), if_pos (by simp <;> omega)]
  rfl
@[simp] theorem iter_tup (ds : List D) : frzOf (.tup ds) = some ds := rfl
@[simp] theorem iter_lst (ds : List D) : frzOf (.lst ds) = some ds := rfl
@[simp] theorem x_iter (m : M D) (a : AS) : seqM' m a = (m a).bind fun x => opt (frzOf x) := rfl
@[simp] theorem mul_l (i j : Int) (h : -(2 ^ 64) < i ∧ i < 2 ^ 64) : mulM (.int i) (.int j) = some (.int (i * j)) := mul_left h
@[simp] theorem mul_r (i j : Int) (h : -(2 ^ 64) < j ∧ j < 2 ^ 64) : mulM (.int i) (.int j) = some (.int (i * j)) := mul_right h
@[simp] theorem mul_t (xs : List D) (k : Int) (h : (!xs.isEmpty && decide (2 ≤ k ∧ k ≤ 1000) && decide (xs.length ≤ 1000)) = true) : mulM (.tup xs) (.int k) = some (.tup (List.replicate k.toNat xs).flatten) := by
  unfold mulM
  dsimp only
  rw [if_pos h]
@[simp] theorem cat_t (xs ys : List D) (h : xs.length + ys.length ≤ 1000) : addM (.tup xs) (.tup ys) = some (.tup (xs ++ ys)) := by
  unfold addM
  dsimp only
  rw [if_pos h]
@[simp] theorem mod_e (i j : Int) (h : 0 < j) : modM (.int i) (.int j) = some (.int (i % j)) := mod_some h
@[simp] theorem fdiv_e (i j : Int) (h : 0 < j) (h2 : j.natAbs < 2 ^ 2000) : fdivM (.int i) (.int j) = some (.int (i / j)) := fdiv_some h h2
@[simp] theorem tupOf_e (ds : List D) : tupOf (.tup ds) = some ds := rfl
theorem gInts : ∀ (is : List Int), G 1 (.tup (is.map D.int)) := fun is => G.tup fun d hd => by
  obtain ⟨i, _, rfl⟩ := List.mem_map.mp hd
  exact G.int i
theorem eqv_ints : ∀ is js : List Int, PyData.eqvAll (toPyL (is.map D.int)) (toPyL (js.map D.int)) = decide (is = js)
  | [], [] => rfl
  | [], _ :: _ => rfl
  | _ :: _, [] => rfl
  | i :: is, j :: js => by
    show (i == j && PyData.eqvAll (toPyL (is.map D.int)) (toPyL (js.map D.int))) = _
    rw [eqv_ints is js]
    by_cases h : i = j <;> by_cases h2 : is = js <;> simp [h, h2]
theorem eq_ints (is js : List Int) : eqM (.tup (is.map D.int)) (.tup (js.map D.int)) = some (decide (is = js)) := by
  rw [eqM_of (gInts is) (gInts js) (by decide)]
  show some (PyData.eqvAll (toPyL (is.map D.int)) (toPyL (js.map D.int))) = _
  rw [eqv_ints]
theorem ne_ints (is js : List Int) : neM (.tup (is.map D.int)) (.tup (js.map D.int)) = some (!decide (is = js)) := by
  rw [neM_of (gInts is) (gInts js) (by decide)]
  show some (!PyData.eqvAll (toPyL (is.map D.int)) (toPyL (js.map D.int))) = _
  rw [eqv_ints]
@[simp] theorem eq_i2 (a b x y : Int) : eqM (.tup [.int a, .int b]) (.tup [.int x, .int y]) = some (decide ([a, b] = [x, y])) := eq_ints [a, b] [x, y]
@[simp] theorem eq_i3 (a b c x y z : Int) : eqM (.tup [.int a, .int b, .int c]) (.tup [.int x, .int y, .int z]) = some (decide ([a, b, c] = [x, y, z])) := eq_ints [a, b, c] [x, y, z]
@[simp] theorem ne_i2 (a b x y : Int) : neM (.tup [.int a, .int b]) (.tup [.int x, .int y]) = some (!decide ([a, b] = [x, y])) := ne_ints [a, b] [x, y]
@[simp] theorem ne_i3 (a b c x y z : Int) : neM (.tup [.int a, .int b, .int c]) (.tup [.int x, .int y, .int z]) = some (!decide ([a, b, c] = [x, y, z])) := ne_ints [a, b, c] [x, y, z]
@[simp] theorem eq_i5 (a b c d e x y z u v : Int) : eqM (.tup [.int a, .int b, .int c, .int d, .int e]) (.tup [.int x, .int y, .int z, .int u, .int v]) = some (decide ([a, b, c, d, e] = [x, y, z, u, v])) := eq_ints [a, b, c, d, e] [x, y, z, u, v]
@[simp] theorem cut_5_3 (a b c d e : D) : cutD [a, b, c, d, e] none (some 3) = [a, b, c] := rfl
def putK (tb : TB) (f : Str) (d o : D) (a : AS) : Out Fl := match o with
  | .cell i => match a.st[i]? with
    | some (.obj c fs) => if (tb.ins c && (tb.fl c).contains f && decide (fs.length < 1000)) = true then .ok .nx { a with st := a.st.set i (.obj c (putD f d fs)) } else .stuck
    | _ => .stuck
  | _ => .stuck
@[simp] theorem x_put (tb : TB) (f : Str) (mo m : M D) (a : AS) : putM tb f mo m a = (m a).bind fun d => bd mo fun o => putK tb f d o := rfl
theorem putK_e {tb : TB} {f : Str} {d : D} {c : Nat} {fs : List (Str × D)} (h : (tb.ins c && (tb.fl c).contains f && decide (fs.length < 1000)) = true) (gs : List (Str × D)) (hg : putD f d fs = gs) (sl : List Slot) (st : List Cell) : putK tb f d (.cell st.length) ⟨sl, st ++ [.obj c fs]⟩ = .ok .nx ⟨sl, st ++ [.obj c gs]⟩ := by
  have e : (st ++ [Cell.obj c fs])[st.length]? = some (Cell.obj c fs) := by simp
  unfold putK
  dsimp only
  rw [e]
  dsimp only
  rw [if_pos h, hg]
  have e2 : (st ++ [Cell.obj c fs]).set st.length (Cell.obj c gs) = st ++ [Cell.obj c gs] := by simp
  rw [e2]
theorem mkI_ev {tb : TB} {c np : Nat} {f : FD} {ds : List D} {st : List Cell} (fs : List (Str × D)) (h : ev f (.cell st.length :: ds) (st ++ [.obj c []]) = .ok .non ⟨[], st ++ [.obj c fs]⟩) (hn : ds.length + 1 = np) (vs : List D) (hv : fs.map (·.2) = vs) (hb : belL st.length vs = true) (hf : (fs.map (·.1) == tb.fl c) = true) (sl : List Slot) :
    mkI tb c np f ds ⟨sl, st⟩ = .ok (.ins c vs) ⟨sl, st⟩ := mkI_go hn (ev_fok h) hv hb hf
def enumK (xs : List D) : M (List D) := enumM (ret xs)
@[simp] theorem x_enum (ms : M (List D)) (a : AS) : enumM ms a = (ms a).bind enumK := rfl
def rangeK (xs : List D) : M (List D) := range1M (ret xs)
@[simp] theorem x_range (ms : M (List D)) (a : AS) : range1M ms a = (ms a).bind rangeK := rfl
theorem rangeK_e {r : Int} (h0 : 0 ≤ r) (h1 : r < 1000) (a : AS) : rangeK [.int r] a = .ok (rangeD 0 r.toNat) a := range_go rfl h0 h1
def forB (o : Out Fl) (t : TgM) (body : M Fl) (ds : List D) : Out Fl := match o with
  | .ok .nx a2 => forL t body ds a2
  | .ok .ct a2 => forL t body ds a2
  | .ok .bk a2 => .ok .nx a2
  | o => o
def forT (o : Option AS) (t : TgM) (body : M Fl) (ds : List D) : Out Fl := match o with
  | none => .stuck
  | some a1 => forB (body a1) t body ds
theorem forB_cg {o o' : Out Fl} {t : TgM} {body : M Fl} {ds : List D} (h : o = o') : forB o t body ds = forB o' t body ds := by rw [h]
theorem forT_cg {o o' : Option AS} {t : TgM} {body : M Fl} {ds : List D} (h : o = o') : forT o t body ds = forT o' t body ds := by rw [h]
@[simp] theorem x_for (mi : M (List D)) (t : TgM) (body : M Fl) (a : AS) : forM mi t body a = (mi a).bind fun ds => forL t body ds := rfl
@[simp] theorem x_forn (t : TgM) (body : M Fl) (a : AS) : forL t body [] a = .ok .nx a := rfl
theorem x_forc (t : TgM) (body : M Fl) (d : D) (ds : List D) (a : AS) : forL t body (d :: ds) a = forT (t d a) t body ds := by
  rw [forL]
  unfold forT
  cases t d a with
  | none => rfl
  | some a1 =>
    dsimp only
    unfold forB
    cases body a1 with
    | stuck => rfl
    | exc c fs a2 => rfl
    | ok f a2 => cases f <;> rfl
@[simp] theorem forT_some (a1 : AS) (t : TgM) (body : M Fl) (ds : List D) : forT (some a1) t body ds = forB (body a1) t body ds := rfl
@[simp] theorem forB_nx (a : AS) (t : TgM) (body : M Fl) (ds : List D) : forB (.ok .nx a) t body ds = forL t body ds a := rfl
@[simp] theorem forB_ct (a : AS) (t : TgM) (body : M Fl) (ds : List D) : forB (.ok .ct a) t body ds = forL t body ds a := rfl
@[simp] theorem forB_bk (a : AS) (t : TgM) (body : M Fl) (ds : List D) : forB (.ok .bk a) t body ds = .ok .nx a := rfl
@[simp] theorem forB_ret (d : D) (a : AS) (t : TgM) (body : M Fl) (ds : List D) : forB (.ok (.ret d) a) t body ds = .ok (.ret d) a := rfl
@[simp] theorem forB_exc (c : Nat) (fs : List (Str × D)) (a : AS) (t : TgM) (body : M Fl) (ds : List D) : forB (.exc c fs a) t body ds = .exc c fs a := rfl
end
end PL

namespace PL
open PySem

def numD (q : Rat) : D := if q.den = 1 then .int q.num else .tup [.int q.num, .int (q.den : Int)]
theorem numD_int {q : Rat} (h : q.den = 1) : numD q = .int q.num := if_pos h
theorem numD_tup {q : Rat} (h : q.den ≠ 1) : numD q = .tup [.int q.num, .int (q.den : Int)] := if_neg h
theorem numD_ofInt (i : Int) : numD (i : Rat) = .int i := rfl
theorem G.num (q : Rat) : G 1 (numD q) := by
  unfold numD
  split
  · exact .int _
  · exact .tup (all1 (.int _) (all1 (.int _) all0))
theorem den_pos (q : Rat) : 0 < (q.den : Int) := by have := q.den_nz; omega
theorem divInt_num {t b : Int} (hb : 0 < b) : (Rat.divInt t b).num = t / (Int.gcd t b : Int) := by
  rw [Rat.num_divInt, Int.sign_eq_one_of_pos hb, Int.one_mul, Int.gcd_comm]
theorem divInt_den {t b : Int} (hb : 0 < b) : ((Rat.divInt t b).den : Int) = b / (Int.gcd t b : Int) := by
  rw [Rat.den_divInt, if_neg (by omega), Int.gcd_comm, Int.natCast_ediv, Int.natAbs_of_nonneg (by omega)]
theorem gcd_pos {t b : Int} (hb : 0 < b) : 0 < (Int.gcd t b : Int) := by
  have : Int.gcd t b ≠ 0 := fun z => by
    have := (Int.gcd_eq_zero_iff.mp z).2
    omega
  omega
theorem gcd_le {t b : Int} (hb : 0 < b) : (Int.gcd t b : Int) ≤ b := by
  have h : (Int.gcd t b : Int) ∣ b := Int.gcd_dvd_right t b
  exact Int.le_of_dvd hb h
theorem divInt_self (q : Rat) : Rat.divInt q.num (q.den : Int) = q := Rat.num_divInt_den q
theorem rat_gcd (q : Rat) : Int.gcd q.num (q.den : Int) = 1 := by
  have := q.reduced
  unfold Int.gcd
  rw [Int.natAbs_natCast]
  exact this
theorem add_divInt (p q : Rat) : Rat.divInt (p.num * q.den + q.num * p.den) (p.den * q.den) = p + q := by
  rw [← Rat.divInt_add_divInt _ _ (by have := p.den_nz; omega) (by have := q.den_nz; omega), divInt_self, divInt_self]
theorem add_divInt' {p q : Rat} (h : p.den = q.den) : Rat.divInt (p.num + q.num) p.den = p + q := by
  have hp : (p.den : Int) ≠ 0 := by have := p.den_nz; omega
  rw [← add_divInt, ← h, ← Int.add_mul, Rat.divInt_mul_right hp]
theorem mul_divInt (p q : Rat) : Rat.divInt (p.num * q.num) (p.den * q.den) = p * q := by
  rw [← Rat.divInt_mul_divInt, divInt_self, divInt_self]
def Bd (K B : Nat) (q : Rat) : Prop := ∃ z : Int, q = Rat.divInt z K ∧ z.natAbs ≤ B
theorem Bd.mono {K B B' : Nat} {q : Rat} (h : Bd K B q) (k : B ≤ B') : Bd K B' q := let ⟨z, e, l⟩ := h; ⟨z, e, Nat.le_trans l k⟩
theorem Bd.add {K B B' : Nat} {p q : Rat} (hK : 0 < K) (h : Bd K B p) (k : Bd K B' q) : Bd K (B + B') (p + q) := by
  obtain ⟨z, e, l⟩ := h
  obtain ⟨y, f, m⟩ := k
  have hk : (K : Int) ≠ 0 := by omega
  refine ⟨z + y, ?_, by omega⟩
  rw [e, f, Rat.divInt_add_divInt _ _ hk hk, ← Int.add_mul, Rat.divInt_mul_right hk]
theorem Bd.neg {K B : Nat} {p : Rat} (h : Bd K B p) : Bd K B (-p) := by
  obtain ⟨z, e, l⟩ := h
  exact ⟨-z, by rw [e, Rat.neg_divInt], by omega⟩
theorem Bd.mulInt {K B n : Nat} {p : Rat} (h : Bd K B p) : Bd K (B * n) (p * (n : Int)) := by
  obtain ⟨z, e, l⟩ := h
  refine ⟨z * n, ?_, ?_⟩
  · have : ((n : Int) : Rat) = Rat.divInt n 1 := by rw [← divInt_self ((n : Int) : Rat)]; rfl
    rw [e, this, Rat.divInt_mul_divInt, Int.mul_one]
  · rw [Int.natAbs_mul, Int.natAbs_natCast]
    exact Nat.mul_le_mul_right n l
theorem Bd.num {K B : Nat} {q : Rat} (hK : 0 < K) (h : Bd K B q) : q.num.natAbs ≤ B := by
  obtain ⟨z, e, l⟩ := h
  subst e
  rw [divInt_num (by omega), Int.natAbs_ediv_of_dvd (Int.gcd_dvd_left ..)]
  exact Nat.le_trans (Nat.div_le_self _ _) l
theorem Bd.den {K B : Nat} {q : Rat} (hK : 0 < K) (h : Bd K B q) : q.den ≤ K := by
  obtain ⟨z, e, l⟩ := h
  subst e
  have h1 := divInt_den (t := z) (b := (K : Int)) (by omega)
  have h2 : (K : Int) / (Int.gcd z K : Int) ≤ K := Int.ediv_le_self _ (by omega)
  omega
structure Sm (q : Rat) : Prop where
  num : q.num.natAbs < 2 ^ 900
  den : q.den < 2 ^ 90
theorem Bd.sm {K B : Nat} {q : Rat} (hK : 0 < K) (h : Bd K B q) (hB : B < 2 ^ 900) (hK2 : K < 2 ^ 90) : Sm q := ⟨Nat.lt_of_le_of_lt (h.num hK) hB, Nat.lt_of_le_of_lt (h.den hK) hK2⟩
theorem mul_lt {a b m n : Nat} (h : a < 2 ^ m) (k : b < 2 ^ n) : a * b < 2 ^ (m + n) := by
  rw [Nat.pow_add]
  exact Nat.mul_lt_mul'' h k
theorem sm_lt {x k m : Nat} (h : x < 2 ^ k) (l : k ≤ m) : x < 2 ^ m := Nat.lt_of_lt_of_le h (Nat.pow_le_pow_right (by decide) l)
theorem Sm.neg {q : Rat} (h : Sm q) : Sm (-q) := ⟨by rw [Rat.neg_num, Int.natAbs_neg]; exact h.num, by rw [Rat.neg_den]; exact h.den⟩
theorem Sm.numB {q : Rat} (h : Sm q) : q.num.natAbs < 2 ^ 2000 := sm_lt h.num (by decide)
theorem Sm.denB {q : Rat} (h : Sm q) : ((q.den : Int)).natAbs < 2 ^ 2000 := by rw [Int.natAbs_natCast]; exact sm_lt h.den (by decide)
theorem Sm.dd {p q : Rat} (h : Sm p) (k : Sm q) : ((p.den : Int) * (q.den : Int)).natAbs < 2 ^ 2000 := by
  rw [Int.natAbs_mul, Int.natAbs_natCast, Int.natAbs_natCast]
  exact sm_lt (mul_lt h.den k.den) (by decide)
theorem dd_pos (p q : Rat) : 0 < (p.den : Int) * (q.den : Int) := Int.mul_pos (den_pos p) (den_pos q)
theorem Sm.dn {q : Rat} (h : Sm q) : ((q.den : Int)).natAbs < 2 ^ 90 := by rw [Int.natAbs_natCast]; exact h.den
theorem sm_int {i : Int} (h : i.natAbs < 2 ^ 900) : Sm (i : Rat) := ⟨h, by show 1 < 2 ^ 90; decide⟩
theorem mod_half {a b : Nat} (hb : 0 < b) (h : 0 < a % b) : 2 * (b % (a % b)) < b := by
  have h1 : a % b < b := Nat.mod_lt _ hb
  have h2 : b % (a % b) < a % b := Nat.mod_lt _ h
  by_cases h3 : 2 * (a % b) ≤ b
  · omega
  · have h4 : b % (a % b) = b - a % b := by
      rw [Nat.mod_eq_sub_mod (by omega), Nat.mod_eq_of_lt (by omega)]
    omega
end PL

namespace PL.Hd
open PySem PySem.W PySem.Calls PyProof.Rows
section
variable (st : SharedT → Thread → Option (SharedT × Thread)) (n0 : Nat) (ann : Option Value)
def segF (b : Nat) : Nat → SharedT → Thread → Option (Flow × SharedT × Code × Pos)
  | 0, _, _ => none
  | m + 1, s, t => match endAt b t with
    | some f => some (f, s, t.code, t.pos)
    | none => match stepOk n0 ann t with
      | false => none
      | true => match st s t with
        | some (s1, t1) => HandSHeadRun.frS s1 fun s1 => segF b m s1 t1
        | none => none
def topF : Nat → SharedT → Thread → Option (SharedT × Thread)
  | 0, s, t => some (s, t)
  | m + 1, s, t => match through t with
    | true => none
    | false => match stepOk n0 ann t with
      | false => none
      | true => match st s t with
        | some (s1, t1) => HandSHeadRun.frS s1 fun s1 => topF m s1 t1
        | none => none
end
section
variable {tb : String → Option Builtin} {p : Program} {w : World} {n0 : Nat} {ann : Option Value} {b : Nat}
theorem segF_T : ∀ {m : Nat} {s s1 : SharedT} {t : Thread} {f : Flow} {c : Code} {q : Pos}, segF (stepT (denote tb) p w) n0 ann b m s t = some (f, s1, c, q) → segRun tb p w n0 ann b m s.abs t = some (f, s1.abs, c, q)
  | 0, _, _, _, _, _, _, h => by cases h
  | m + 1, s, s1, t, f, c, q, h => by
    unfold segF at h
    unfold segRun
    cases e1 : endAt b t with
    | some x => rw [e1] at h; cases h; rfl
    | none =>
      rw [e1] at h
      cases e2 : stepOk n0 ann t with
      | false => rw [e2] at h; cases h
      | true =>
        rw [e2] at h
        cases e3 : stepT (denote tb) p w s t with
        | none => rw [e3] at h; cases h
        | some r =>
          obtain ⟨s2, t2⟩ := r
          rw [e3] at h
          dsimp only at h
          rw [HandSHeadRun.frS_eq] at h
          have ih := segF_T h
          dsimp only
          rw [stepT_spec e3]
          exact ih
theorem topF_T : ∀ {m : Nat} {s s1 : SharedT} {t t1 : Thread}, topF (stepT (denote tb) p w) n0 ann m s t = some (s1, t1) → topGo tb p w n0 ann m s.abs t = some (s1.abs, t1)
  | 0, _, _, _, _, h => by cases h; rfl
  | m + 1, s, s1, t, t1, h => by
    unfold topF at h
    unfold topGo
    cases e1 : through t with
    | true => rw [e1] at h; cases h
    | false =>
      rw [e1] at h
      cases e2 : stepOk n0 ann t with
      | false => rw [e2] at h; cases h
      | true =>
        rw [e2] at h
        cases e3 : stepT (denote tb) p w s t with
        | none => rw [e3] at h; cases h
        | some r =>
          obtain ⟨s2, t2⟩ := r
          rw [e3] at h
          dsimp only at h
          rw [HandSHeadRun.frS_eq] at h
          have ih := topF_T h
          dsimp only
          rw [stepT_spec e3]
          exact ih
end
section
variable {p : Program} {w : World} {n0 : Nat} {ann : Option Value}
theorem st_eq : stepT (denote treeTable) p w = HandSHeadRun.stepQ (HandSHeadRun.denQ HandSHeadRun.tabQ) p w := by
  rw [HandSHeadRun.stepQ_eq, HandSHeadRun.denQ_eq, HandSHeadRun.tabQ_eq]
theorem segF_run {m b : Nat} {s s1 : SharedT} {t : Thread} {f : Flow} {c : Code} {q : Pos} (h : segF (HandSHeadRun.stepQ (HandSHeadRun.denQ HandSHeadRun.tabQ) p w) n0 ann b m s t = some (f, s1, c, q)) : segRun treeTable p w n0 ann b m s.abs t = some (f, s1.abs, c, q) := by
  rw [← st_eq] at h
  exact segF_T h
theorem topF_ok {m : Nat} {s s1 : SharedT} {t t1 : Thread} (h : topF (HandSHeadRun.stepQ (HandSHeadRun.denQ HandSHeadRun.tabQ) p w) n0 ann m s t = some (s1, t1)) : topGo treeTable p w n0 ann m s.abs t = some (s1.abs, t1) := by
  rw [← st_eq] at h
  exact topF_T h
theorem den_eq : denote treeTable = HandSHeadRun.denQ HandSHeadRun.tabQ := by
  rw [HandSHeadRun.denQ_eq, HandSHeadRun.tabQ_eq]
theorem topF_den {m : Nat} {s s1 : SharedT} {t : Thread} {c c1 : Code} {pos : Pos} {B : List Frame} (h : topF (HandSHeadRun.stepQ (HandSHeadRun.denQ HandSHeadRun.tabQ) p w) n0 ann m s t = some (s1, ⟨HandSHeadRun.denQ HandSHeadRun.tabQ c, c1, pos, B⟩)) : topGo treeTable p w n0 ann m s.abs t = some (s1.abs, ⟨denote treeTable c, c1, pos, B⟩) := by
  rw [den_eq]
  exact topF_ok h
theorem goQ {m : Nat} {s s1 : SharedT} {t : Thread} (h : HandSHeadRun.goF (HandSHeadRun.stepQ (HandSHeadRun.denQ HandSHeadRun.tabQ) p w) n0 ann m s t = some s1) : HandSHeadRun.goF (stepT (denote treeTable) p w) n0 ann m s t = some s1 := by
  rw [st_eq]
  exact h
theorem cut_rest {tb : String → Option Builtin} {b l : List Stmt} (e : b = l) {N : Nat} {s r : Shared} {env : Env} {c : Code} {pos : Pos} {B : List Frame} (k : topRun tb p w n0 ann N s (restOf l env c pos B) = some r) : topRun tb p w n0 ann N s (restOf b env c pos B) = some r := by
  subst e
  exact k
end
theorem left_cut {p q : Program} {loose : List Str} {Xt : Shared → Bool} {α : Type} {Yf : Shared → α} {Ya : World → α} {N M n0 : Nat} {ann : Option Value} {SF : Params → OsState → SharedT}
    (e : opening p = plainProg p.main.scope.names) (hN : Nat.ble 600 N = true) (f : ∀ s, fenceModules? p s = some s) (le : Nat.ble M N = true)
    (h0 : ∀ w : World, (boot_heap w.params).objs.size = n0) (ha : ∀ w : World, HandSHeadRun.bootAnn w = ann)
    (run : ∀ (w : World) (os : OsState), topRun treeTable p w n0 ann M ⟨boot_heap w.params, #[], boot_drawn, boot_toks, os⟩ (topStub p) = some (SF w.params os).abs)
    (l1 : ∀ (w : World) (os : OsState), HandSHeadRun.looksF p (boot_heap w.params) (SF w.params os).abs = true)
    (l2 : ∀ (w : World) (os : OsState), HandSHeadRun.seenQ q loose (importedModules p.main.body) Xt (SF w.params os).abs = openGood q loose)
    (l3 : ∀ (w : World) (os : OsState), Yf (SF w.params os).abs = Ya w) :
    LeftO p q loose Xt Yf Ya N true := fun w => by
  obtain ⟨⟨h, gs, d, k, os⟩, a, a'⟩ := Option.map_eq_some_iff.mp (boot_open e hN f w)
  obtain ⟨rfl, rfl, rfl, rfl⟩ : h = boot_heap w.params ∧ gs = Array.mk [] ∧ d = boot_drawn ∧ k = boot_toks := by simpa using a'
  have r := topRun_mono (N - M) _ _ _ _ (run w os)
  rw [show M + (N - M) = N by have := Nat.le_of_ble_eq_true le; omega, ← h0 w, ← ha w] at r
  have z1 := l1 w os
  have z2 := l2 w os
  rw [← HandSHeadRun.seenQ_eq] at z2
  have z3 := l3 w os
  unfold HandSHeadRun.looksF at z1
  have t : topFrom treeTable p w N ⟨boot_heap w.params, Array.mk [], boot_drawn, boot_toks, os⟩ = some (SF w.params os).abs := by
    unfold topFrom
    dsimp only
    rw [HandSHeadRun.boot_ns]
    show (topRun treeTable p w (boot_heap w.params).objs.size (HandSHeadRun.bootAnn w) N ⟨boot_heap w.params, #[], boot_drawn, boot_toks, os⟩ (topStub p)).bind _ = _
    rw [r]
    show (match staticsOk (importedModules p.main.body) (boot_heap w.params) (SF w.params os).abs.heap && namesBound p (SF w.params os).abs.heap && gensDone (SF w.params os).abs && laidKept (boot_heap w.params) (SF w.params os).abs.heap with | true => some (SF w.params os).abs | false => none) = _
    rw [z1]
  unfold openEnds
  rw [a]
  show (topFrom treeTable p w N _).map _ = _
  rw [t]
  exact congrArg some (Prod.ext z2 z3)
theorem head_cut {r : OpenRow} {q : Program} {H : Hook} {ob : SharedT → H.α} {M n0 : Nat} {ann : Option Value} {loose : List PySem.Str} {d : DefRec} {kwd : List (PySem.Str × PySem.Expr)} {SF : Params → OsState → SharedT} (ho : ∀ s : SharedT, ob s = H.obs s.abs)
    (e : opening r.prog = plainProg r.prog.main.scope.names) (f : ∀ s, fenceModules? r.prog s = some s)
    (h0 : ∀ w : World, (boot_heap w.params).objs.size = n0) (ha : ∀ w : World, HandSHeadRun.bootAnn w = ann)
    (run : ∀ (w : World) (os : OsState), topRun treeTable r.prog w n0 ann M ⟨boot_heap w.params, #[], boot_drawn, boot_toks, os⟩ (topStub r.prog) = some (SF w.params os).abs)
    (l1 : ∀ (w : World) (os : OsState), HandSHeadRun.looksF r.prog (boot_heap w.params) (SF w.params os).abs = true)
    (l2 : ∀ (w : World) (os : OsState), HandSHeadRun.seenQ q loose (importedModules r.prog.main.body) (fun s => xlAt q [] s && recOk r.toRowW.records s) (SF w.params os).abs = openGood q loose)
    (l3 : ∀ (w : World) (os : OsState), ob (SF w.params os) = H.val w)
    (hdef : defOf q r.name = some (d, kwd)) (hp : r.prog.theDef r.name = some (d.params, d.body, d.scope)) (hk : kwWritten? d.params.kwonlyargs d.params.kw_defaults = some kwd)
    (hwr : (!r.writes || r.records.isEmpty) = true) (k1 : r.wellSaid = true) (ok : (chainsOk q && opensWell r.prog && (frees r.toRowW && r.within.isEmpty)) = true) (hb : r.prog.bare) (hw : r.toRowW.promised)
    (call : WalkO q loose (XL q []) H.says r.toRowW d kwd fun f vs => PySem.call f vs) : r.Holds := by
  have left : LeftO r.prog q loose (fun s => xlAt q [] s && recOk r.toRowW.records s) H.obs H.val (M + 600) true :=
    left_cut (M := M) (SF := SF) e (Nat.ble_eq_true_of_le (by omega)) f (Nat.ble_eq_true_of_le (by omega)) h0 ha run l1 l2 fun w os => (ho _).symm.trans (l3 w os)
  exact holds_open (r := r) (q := q) (loose := loose) (XP := XL q []) (YP := H.says) (d := d) (kwd := kwd) left H.of H.keeps (fun s z => xl_of s (Bool.and_eq_true_iff.mp z).1) XL.keeps hdef hp hk (fun s z => recFacts_of (Bool.and_eq_true_iff.mp z).2) hwr k1 ok hb hw call
theorem at_lookup {a : Addr} {o : Obj} : ∀ {K : List (Addr × Obj)}, K.lookup a = some o → ∃ i : Nat, K[i]? = some (a, o)
  | [], h => by cases h
  | (b, u) :: r, h => by
    rw [List.lookup_cons] at h
    cases e : (a == b) with
    | true =>
      rw [e] at h
      cases h
      exact ⟨0, by rw [beq_iff_eq.mp e]; rfl⟩
    | false =>
      rw [e] at h
      obtain ⟨i, q⟩ := at_lookup (K := r) h
      exact ⟨i + 1, q⟩
def hookE (KF : Params → Frag) (as : List Addr) (ek : ∀ P, (KF P).map (·.1) = as) : Hook where
  α := List (Option Obj)
  obs := fun s => as.map s.heap.get?
  val := fun w => (KF w.params).map fun x => some x.2
  says := fun w h => (KF w.params).In h
  of := fun w s e a o h => by
    obtain ⟨i, q⟩ := at_lookup (K := KF w.params) h
    have e1 : as[i]? = some a := by rw [← ek w.params, List.getElem?_map, q]; rfl
    have e2 := congrArg (fun l : List (Option Obj) => l[i]?) e
    rw [List.getElem?_map, List.getElem?_map, e1, q] at e2
    exact Option.some.inj e2
  keeps := fun _ _ _ hK k => Frag.In.keeps hK k
theorem obE_eq {as : List Addr} {KF : Params → Frag} {ek : ∀ P, (KF P).map (·.1) = as} (s : SharedT) : as.map (HandSHeadRun.getT s) = (hookE KF as ek).obs s.abs := by
  have e : HandSHeadRun.getT s = s.abs.heap.get? := funext (HandSHeadRun.getT_eq s)
  rw [e]
  rfl
theorem all_cut {α : Type} {l : List α} {f : α → Bool} (n : Nat) (h : (l.take n).all f = true) (k : (l.drop n).all f = true) : l.all f = true := by
  rw [← List.take_append_drop n l, List.all_append, h, k]
  rfl
theorem map_cut {α β : Type} {l : List α} {f g : α → β} (n : Nat) (h : (l.take n).map f = (l.take n).map g) (k : (l.drop n).map f = (l.drop n).map g) : l.map f = l.map g := by
  rw [← List.take_append_drop n l, List.map_append, List.map_append, h, k]
theorem says_of {fa : List He.Fa} {fn : List He.DefD} {K : Frag} (h1 : (fa.all fun f => f.ok K) = true) (h2 : (fn.all fun d => d.ok K) = true) (h3 : fn.map (fun d => He.fnW K d.at_) = fn.map He.DefD.val) : He.SaysD fa fn K := by
  unfold He.SaysD He.obsD He.valD
  rw [h1, h2, h3]
  rfl
end PL.Hd

namespace PL
open PySem PySem.Spec PyProof.Rows L2

structure BaI (K : PySem.W.Frag) (C0 : Addr) : Prop where
  sg : PySem.W.specialIn K (.ref C0) "__getattribute__" = some (some (.builtin "type.__getattribute__"))
  rd : PySem.W.readsIn K C0 (.type "type") = true
  fc : PySem.W.findCls K (.ref C0) (.type "type") "__init__" = some (.val (.builtin "ValueError.__init__"))
def baB (K : PySem.W.Frag) (C0 : Addr) : Bool := decide (PySem.W.specialIn K (.ref C0) "__getattribute__" = some (some (.builtin "type.__getattribute__"))) && (PySem.W.readsIn K C0 (.type "type") &&
  (match PySem.W.findCls K (.ref C0) (.type "type") "__init__" with | some (.val (.builtin n)) => n == "ValueError.__init__" | _ => false))
theorem baB_ok {K : PySem.W.Frag} {C0 : Addr} (h : baB K C0 = true) : BaI K C0 := by
  obtain ⟨h1, h⟩ := He.ba h
  obtain ⟨h2, h3⟩ := He.ba h
  refine ⟨of_decide_eq_true h1, h2, ?_⟩
  split at h3
  · rename_i n e
    rw [e, eq_of_beq h3]
  · cases h3

section
variable {X : Cx} {e : Expr} {es : List Expr} {ta : TA} {x : Str} {C0 : Addr} {p p1 p2 pos : Pos}
def OneL (o : Expr) (m : Str) (p2 : Pos) (es : List Expr) (pos : Pos) : Prop := ∀ env : Env, ∃ pl : Sem Bool,
  eval (.Call (.Attribute o m p2) es [] pos) env = (do let ov ← eval o env; standAt p2.atName; let (f, first) ← holding [ov] (getMethod ov m pl); callWith pos f first (backTo pos (starEach es env)) (backToKw pos (keywordEach [] env)))
theorem pe_bainit (B : BaI X.K C0) (hm : X.mg x = some (.ref C0)) (ha : PA X (e :: es) ta) (hc : OneL (.Name x p1) "__init__" p2 (e :: es) pos) (hg : Gl X x := by rfl) (hdb : (x == ("__debug__" : Str)) = false := by decide)
    (he : starEach (e :: es) X.env = (false, eval e X.env) :: starEach es X.env := by rfl) (hpl : (backTo pos (starEach es X.env)).any (·.1) = false := by rfl) :
    PE X (.Call (.Attribute (.Name x p1) "__init__" p2) (e :: es) [] pos) (tVeI X.K ta) := by
  obtain ⟨pl, hc⟩ := hc X.env
  refine ⟨fun pins s σ H Q I h => PySem.W.methodCall_KW (pl := pl) (ld_glob I hg hm ?_ hdb) hc⟩
  refine PySem.W.method_cls I.kIn B.sg (PySem.W.cls_value I.kIn B.rd B.fc (by decide +kernel) ?_)
  show wpAny _ _ (callWith pos (Value.builtin "ValueError.__init__") [] (backTo pos (starEach (e :: es) X.env)) []) _ _ _
  refine PyProof.Rows.callWith_method1 (thn (ha.run pos pins _ σ H _ (I.tok _) h) fun us s1 q => ?_) he hpl
  obtain ⟨vs, H1, I1, r1, a, C, ws, ev, hl, T, ea, q⟩ := q
  subst ev
  cases r1 with
  | @cons _ u0 _ ur ra rw' =>
    obtain rfl : u0 = Value.ref a := ra
    exact oinit_ok T I1 ea (by rw [← Paired.length rw', sizeLine_eq]; omega) fun s' J => ⟨.non, H1, J, rfl, q⟩
end

def updX (H : Hp) (a C d : Addr) (fs : List (Str × V)) : Hp := upd (upd H d (exd d fs)) a (exo a C (some d))
def spI (K : PySem.W.Frag) (fs : List Str) : Sp := fun vs H Q _ => ∃ (a C : Addr) (ws : List V), vs = .ref a :: ws ∧ ws.length = fs.length ∧ OexC K C ∧ H a = some (exo a C none) ∧ (∀ f ∈ fs, PySem.W.findIn K (.ref C) f = some none) ∧
  (fs = [] → Q .non H) ∧ (fs ≠ [] → ∀ d, H d = none → d ≠ a → Q .non (updX H a C d (fs.zip ws).reverse))
theorem updX_more {H : Hp} {a C d : Addr} {fs : List (Str × V)} {y : Str × V} (n : d ≠ a) : upd (updX H a C d fs) d (exd d (y :: fs)) = updX H a C d (y :: fs) := by
  unfold updX
  funext b
  by_cases hd : b = d
  · subst hd; rw [upd_same, upd_ne n, upd_same]
  · rw [upd_ne hd]
    by_cases ha : b = a
    · subst ha; rw [upd_same, upd_same]
    · rw [upd_ne ha, upd_ne ha, upd_ne hd, upd_ne hd]
section
variable {P : Program} {w : World} {K : PySem.W.Frag} {mg : Str → Option Value} {base : Heap} {x qual : Str} {params : Arguments} {scope : Scope} {dvs : List V} {kws : List (Str × V)} {f C0 : Addr} {fd : FuncData} {k : Nat} {t0 : Str} {p1 p2 p3 p4 p5 p6 q1 q2 q3 q4 r1 r2 r3 r4 : Pos} {j0 : Nat}
abbrev supI (t0 : Str) (j0 : Nat) (p1 p2 p3 p4 p5 p6 : Pos) : Stmt := .Expr (.Call (.Attribute (.Name "LaneError" p1) "__init__" p2) [.Name "self" p3, .Constant (.str t0) j0 p4] [] p5) p6
abbrev setI (n : Str) (q1 q2 q3 q4 : Pos) : Stmt := .Assign [.Attribute (.Name "self" q1) n q2] (.Name n q3) q4
theorem init0_ok (F : FunD K x qual params [supI t0 j0 p1 p2 p3 p4 p5 p6] scope dvs kws f fd) (S : FnScope ["self"] ["self"] scope) (B : BaI K C0) (hm : mg "LaneError" = some (.ref C0)) (hg : List.lookup ("LaneError" : Str) scope.names = some .globalImplicit) (hv : Vis scope "self") (hc : OneL (.Name "LaneError" p1) "__init__" p2 [.Name "self" p3, .Constant (.str t0) j0 p4] p5) : FnOk P w K mg base (CX P w) (k + 1) f fd ["self"] (spI K []) := by
  refine FunD.ok F S (fun vs H Q _ ⟨a, C, ws, e, l, _⟩ => by rw [e, List.length_cons, l]; rfl) fun cdv A outer s H vs Q Ex hr ⟨a, C, ws, e, l, T, ea, _, q0, _⟩ => ?_
  refine ⟨_, pss_one (ps_expr (pe_bainit B hm (pa_cons (pe_var (i := 0) rfl hv) (pa_cons pe_str pa_nil)) hc hg)), ?_⟩
  obtain rfl : ws = [] := List.eq_nil_of_length_eq_zero l
  subst e
  exact ⟨_, rfl, a, C, [.str t0], rfl, Nat.le_of_ble_eq_true rfl, T, ea, q0 rfl⟩
theorem init1_ok {n : Str} (F : FunD K x qual params [supI t0 j0 p1 p2 p3 p4 p5 p6, setI n q1 q2 q3 q4] scope dvs kws f fd) (S : FnScope ["self", n] ["self", n] scope) (B : BaI K C0) (hm : mg "LaneError" = some (.ref C0)) (hg : List.lookup ("LaneError" : Str) scope.names = some .globalImplicit) (hv : Vis scope "self")
    (hc : OneL (.Name "LaneError" p1) "__init__" p2 [.Name "self" p3, .Constant (.str t0) j0 p4] p5) (hvn : Vis scope n) (hd : (n == ("__debug__" : Str)) = false) (hcd : (n == ("__classdict__" : Str)) = false) : FnOk P w K mg base (CX P w) (k + 1) f fd ["self", n] (spI K [n]) := by
  refine FunD.ok F S (fun vs H Q _ ⟨a, C, ws, e, l, _⟩ => by rw [e, List.length_cons, l]; rfl) fun cdv A outer s H vs Q Ex hr ⟨a, C, ws, e, l, T, ea, hf, _, q1'⟩ => ?_
  refine ⟨_, pss_cons (ps_expr (pe_bainit B hm (pa_cons (pe_var (i := 0) rfl hv) (pa_cons pe_str pa_nil)) hc hg)) (pss_one (ps_ost (pe_var (i := 0) rfl hv) (pe_var (i := 1) rfl hvn hd hcd))), ?_⟩
  obtain ⟨y, rfl⟩ : ∃ y, ws = [y] := by
    cases ws with
    | nil => cases l
    | cons y r => cases r with
      | nil => exact ⟨y, rfl⟩
      | cons z r => cases l
  subst e
  refine ⟨_, rfl, a, C, [.str t0], rfl, Nat.le_of_ble_eq_true rfl, T, ea, y, rfl, .ref a, rfl, a, C, rfl, T, hf n (List.mem_singleton.mpr rfl), .inl ⟨ea, fun dx h1 h2 => ?_⟩⟩
  exact q1' (fun z => nomatch z) dx h1 h2
theorem init2_ok {n m : Str} (F : FunD K x qual params [supI t0 j0 p1 p2 p3 p4 p5 p6, setI n q1 q2 q3 q4, setI m r1 r2 r3 r4] scope dvs kws f fd) (S : FnScope ["self", n, m] ["self", n, m] scope) (B : BaI K C0) (hm : mg "LaneError" = some (.ref C0)) (hg : List.lookup ("LaneError" : Str) scope.names = some .globalImplicit) (hv : Vis scope "self")
    (hc : OneL (.Name "LaneError" p1) "__init__" p2 [.Name "self" p3, .Constant (.str t0) j0 p4] p5) (hvn : Vis scope n) (hd : (n == ("__debug__" : Str)) = false) (hcd : (n == ("__classdict__" : Str)) = false) (hvm : Vis scope m) (hdm : (m == ("__debug__" : Str)) = false) (hcdm : (m == ("__classdict__" : Str)) = false) :
    FnOk P w K mg base (CX P w) (k + 1) f fd ["self", n, m] (spI K [n, m]) := by
  refine FunD.ok F S (fun vs H Q _ ⟨a, C, ws, e, l, _⟩ => by rw [e, List.length_cons, l]; rfl) fun cdv A outer s H vs Q Ex hr ⟨a, C, ws, e, l, T, ea, hf, _, q1'⟩ => ?_
  refine ⟨_, pss_cons (ps_expr (pe_bainit B hm (pa_cons (pe_var (i := 0) rfl hv) (pa_cons pe_str pa_nil)) hc hg)) (pss_cons (ps_ost (pe_var (i := 0) rfl hv) (pe_var (i := 1) rfl hvn hd hcd)) (pss_one (ps_ost (pe_var (i := 0) rfl hv) (pe_var (i := 2) rfl hvm hdm hcdm)))), ?_⟩
  obtain ⟨y, z, rfl⟩ : ∃ y z, ws = [y, z] := by
    cases ws with
    | nil => cases l
    | cons y r => cases r with
      | nil => cases l
      | cons z r => cases r with
        | nil => exact ⟨y, z, rfl⟩
        | cons z r => cases l
  subst e
  refine ⟨_, rfl, a, C, [.str t0], rfl, Nat.le_of_ble_eq_true rfl, T, ea, y, rfl, .ref a, rfl, a, C, rfl, T, hf n (by simp), .inl ⟨ea, fun dx h1 h2 => ?_⟩⟩
  have e1 : updX H a C dx [(n, y)] a = some (exo a C (some dx)) := by unfold updX; rw [upd_same]
  have e2 : updX H a C dx [(n, y)] dx = some (exd dx [(n, y)]) := by unfold updX; rw [upd_ne h2, upd_same]
  refine ⟨z, rfl, .ref a, rfl, a, C, rfl, T, hf m (by simp), .inr ⟨dx, [(n, y)], e1, e2, Nat.le_of_ble_eq_true rfl, ?_⟩⟩
  show Q .non (upd (updX H a C dx [(n, y)]) dx (exd dx [(m, z), (n, y)]))
  rw [updX_more h2]
  exact q1' (fun z => nomatch z) dx h1 h2
end

section
variable {X : Cx} {pins : List (Addr × Obj)} {σ : L2.St}
theorem bare_end {H1 H2 : Hp} {hp hp2 h2 : Heap} {g1 g2 : Array GenState} {d1 d2 : Drawn} {t1 t2 : Nat} {os1 os2 : OsState} {a C : Addr} {Q : XK} (T : Raises X (.ref C)) (I1 : Inv X pins σ H1 ⟨hp, g1, d1, t1, os1⟩) (ha : hp.objs.size ≤ a) (k : ∀ b o, hp.get? b = some o → hp2.get? b = some o)
    (un : Un (frs X.stack) [] (upd H1 a (exo a C none)) H2 hp2 h2) (hok : HOk X.prog X.w H2 h2) (ho : os2 = os1) (hb : AllBare g2) (ea : H2 a = some (exo a C none)) (q : Q (.ref C) none (del H2 a)) : MkP X pins σ Q (.ref a) ⟨h2, g2, d2, t2, os2⟩ := by
  obtain ⟨t0, hoe⟩ := exo_at hok ea
  have hn : H1 a = none := I1.hok.fresh ha
  obtain ⟨G, y1, y2⟩ := restrict h2 fun b => decide (b ≠ a)
  have gk : ∀ b, b ≠ a → G.get? b = h2.get? b := fun b n => y1 b (decide_eq_true n)
  have ge : G.get? a = none := y2 a (by simp)
  have nha : ∀ {b : Addr} {o : Obj}, hp.get? b = some o → b ≠ a := fun z => Nat.ne_of_lt (Nat.lt_of_lt_of_le (Heap.lt_size z) ha)
  have up : ∀ {b : Addr}, b ≠ a → upd H1 a (exo a C none) b = H1 b := fun n => upd_ne n
  have hs : ∀ {b : Addr} {o : HO}, H1 b = some o → b ≠ a := fun z => ne_of_none z hn
  have U : Un (frs X.stack) [] H1 (del H2 a) hp G := ⟨fun b o z n hf hx => (gk b (nha z)).trans (un.keep b o (k b o z) ((up (nha z)).trans n) hf hx), fun b o z n hf hx => by
      obtain ⟨sl, e⟩ := un.slot b o (k b o z) ((up (nha z)).trans n) hf hx
      exact ⟨sl, (gk b (nha z)).trans e⟩, fun b o z n hx => (del_ne (nha z)).trans (un.free b o (k b o z) ((up (nha z)).trans n) hx), fun b o z hx => by
      obtain ⟨o', e⟩ := un.there b o (k b o z) hx
      exact ⟨o', (gk b (nha z)).trans e⟩, fun b xs z => (del_ne (hs z)).trans (un.tups b xs ((up (hs z)).trans z)), fun b o v z => (del_ne (hs z)).trans (un.frzs b o v ((up (hs z)).trans z)), fun b ps z => by
      rw [del_ne (hs z)]
      exact un.tbls b ps ((up (hs z)).trans z)⟩
  have hok3 : HOk X.prog X.w (del H2 a) G := fun b o z => by
    have hba : b ≠ a := fun e => by rw [e, del_same] at z; cases z
    rw [del_ne hba] at z
    have noa : ∀ {c : Addr}, H2 c = some (.own b) → c ≠ a := fun hc => at_ne ea hc exo_own
    refine (hok b o z).stay (fun c v hc y => ?_) (fun c hc => (del_ne (noa hc)).trans hc) (fun c xs hc => (del_ne (at_ne ea hc exo_tup)).trans hc)
    rcases hc with hc | hc
    · rw [gk c (by rw [hc]; exact hba)]; exact y
    · rw [gk c (noa hc)]; exact y
  have J : Inv X pins σ (del H2 a) ⟨G, g2, d2, t2, os2⟩ := I1.call' (ch := []) ho U hok3 hb (fun b z => absurd z (by simp))
  exact ⟨a, _, _, ⟨G, g2, d2, t2, os2⟩, _, .ref C, none, rfl, J, fun b o z => by
    by_cases hba : b = a
    · rw [hba, ge] at z; cases z
    · exact (gk b hba).symm.trans z, ge, hoe, ⟨rfl, rfl⟩, rfl, rfl, del_same, rfl, hb, T, q⟩
def tMk0 (C : Addr) (sp : Sp) : L2.St → Hp → XK → Prop := fun σ H1 Q => ∀ a, H1 a = none → sp [.ref a] (upd H1 a (exo a C none)) (fun v H2 => v = .non ∧ H2 a = some (exo a C none) ∧ Q (.ref C) none (del H2 a)) (fun _ _ _ => False)
theorem pmk_oex0 {CX : CXT} {x : Str} {C fI : Addr} {k : Nat} {fd : FuncData} {ps : List Str} {sp : Sp} {p pos : Pos} (T : OexC X.K C) (iC : PySem.W.findIn X.K (.ref C) "__init__" = some (some (.ref fI))) (tI : PySem.W.typeIn X.K (.ref fI) = some (.type "function"))
    (F1 : FnOk X.prog X.w X.K X.mg X.base CX k fI fd ps sp) (hr : Room (k + 1) X.A) (hb : Binds X.K fd ps []) (hx : Passes CX X (fun _ _ _ => False)) (hm : X.mg x = some (.ref C)) (hg : Gl X x := by rfl) (hdb : (x == ("__debug__" : Str)) = false := by decide) :
    PMk X (.Call (.Name x p) [] [] pos) (tMk0 C sp) := by
  intro pins s σ H1 Q I1 q1
  obtain ⟨nm, q, N, bs, bm, sn, sub, ab, col, dd, k0, k1, k2, k3, k5, hC, hbm⟩ := T.cls
  refine wpAny_Call_Name_kw (ld_glob I1 hg hm ?_ hdb)
  refine PySem.W.callWith_K0 I1.kIn T.kC ?_
  obtain ⟨hp, g, dr, tk, os⟩ := s
  have hsz := Nat.le_succ hp.objs.size
  have hn : H1 (hp.objs.size + 1) = none := I1.hok.fresh hsz
  have hq := q1 (hp.objs.size + 1) hn
  have kk : ∀ b o, hp.get? b = some o → ((hp.push (PySem.W.kdv_tup [])).push (PySem.HandSPX.excO C hp.objs.size)).get? b = some o := fun b o e => Heap.get?_push_of_some _ (Heap.get?_push_of_some _ e)
  have I2 := I1.laid (t' := tk) (a := hp.objs.size + 1) (o := exo (hp.objs.size + 1) C none) (h' := (hp.push (PySem.W.kdv_tup [])).push (PySem.HandSPX.excO C hp.objs.size)) kk hsz (exo_ok (by heap_get))
  have hl : [Value.ref (hp.objs.size + 1)].length = ps.length := F1.len _ _ _ _ hq
  have hv : Vals [V.ref (hp.objs.size + 1)] [Value.ref (hp.objs.size + 1)] := .cons rfl .nil
  refine wpAny_call (PySem.HandSPX.call_own F.excBase_ValueError (fun Y => PySem.HandSPX.refsVE_contains Y bm hbm) (I1.kIn _ _ hC) (PySem.W.looks_findIn I1.kIn iC) (fun self => PySem.W.bind_fn I1.kIn self tI) (rest := []) (Nat.zero_le _)
    (codeAny_mono (F1.run _ X.stack _ _ ⟨Value.ref (hp.objs.size + 1) :: [], []⟩ [Value.ref (hp.objs.size + 1)] _ _ (fun _ _ _ => False) (hr.make C [] []) (I2.env0.make C [] []) (hb _ [Value.ref (hp.objs.size + 1)] I2.kIn hl) hv hq) fun r s' hq' => ?_))
  cases r with
  | error er => exact hx pins σ _ _ er s' I2 hq'
  | ok fl => cases fl with
    | ret u =>
      obtain ⟨v, H2, os2, bare2, un2, hok2, rv, ev, ea, q2⟩ := hq'
      subst ev
      exact ⟨rv, bare_end (raises_own T.exC T.tyC) I1 hsz kk un2 hok2 os2 bare2 ea q2⟩
    | next => exact False.elim hq'
    | brk => exact False.elim hq'
    | cont => exact False.elim hq'
end

section
variable {K : PySem.W.Frag} {T : Tab} {G : Hp} {ρ : List Addr}
theorem RepF.app : ∀ {a b : List (Str × D)} {u v : List (Str × V)}, RepF K T G ρ a u → RepF K T G ρ b v → RepF K T G ρ (a ++ b) (u ++ v)
  | [], _, _, _, h, k => by unfold RepF at h; subst h; exact k
  | (n, d) :: a, _, _, _, h, k => by
    unfold RepF at h
    obtain ⟨x, r, rfl, h1, h2⟩ := h
    rw [List.cons_append, List.cons_append]
    unfold RepF
    exact ⟨x, _, rfl, h1, h2.app k⟩
theorem RepF.rev : ∀ {a : List (Str × D)} {u : List (Str × V)}, RepF K T G ρ a u → RepF K T G ρ a.reverse u.reverse
  | [], _, h => by unfold RepF at h; subst h; exact (by unfold RepF; rfl)
  | (n, d) :: a, _, h => by
    unfold RepF at h
    obtain ⟨x, r, rfl, h1, h2⟩ := h
    rw [List.reverse_cons, List.reverse_cons]
    exact h2.rev.app (by unfold RepF; exact ⟨x, [], rfl, h1, by unfold RepF; rfl⟩)
theorem RepF.zip : ∀ {fs : List Str} {ds : List D} {vs : List V}, RepL K T G ρ ds vs → RepF K T G ρ (fs.zip ds) (fs.zip vs)
  | [], _, _, _ => by unfold RepF; rfl
  | _ :: _, [], _, h => by rw [h.inv0]; unfold RepF; rfl
  | f :: fs, d :: ds, _, h => by
    obtain ⟨v, r, rfl, h1, h2⟩ := h.inv
    rw [List.zip_cons_cons, List.zip_cons_cons]
    unfold RepF
    exact ⟨v, _, rfl, h1, RepF.zip h2⟩
end
structure ExK (P : Program) (w : World) (K : PySem.W.Frag) (mg : Str → Option Value) (base : Heap) (C : Addr) (k : Nat) (fs : List Str) : Prop where
  oc : OexC K C
  at_ : ∀ f ∈ fs, PySem.W.findIn K (.ref C) f = some none
  ini : ∃ (fI : Addr) (fd : FuncData) (ps : List Str), PySem.W.findIn K (.ref C) "__init__" = some (some (.ref fI)) ∧ PySem.W.typeIn K (.ref fI) = some (.type "function") ∧ FnOk P w K mg base (CX P w) k fI fd ps (spI K fs) ∧ Binds K fd ps []
def raiM (c : Nat) (fs : List Str) (ms : M (List D)) : M Fl := bd ms fun ds => fun a => if ds.length = fs.length then .exc c (fs.zip ds).reverse a else .stuck
section
variable {X : Cx} {T : Tab} {W : WX} {c k : Nat} {fs : List Str} {x : Str} {p pos pos' : Pos} {e : Expr} {es : List Expr} {ms : M (List D)}
theorem PostS.exc {α β : Type} {K : PySem.W.Frag} {E : En} {σ : L2.St} {G : Hp} {ρ : List Addr} {R1 : Hp → List Addr → α → β → Prop} {o : Out α} {f : α → AS → Out Fl} {D : Ends} {Q1 : β → Hp → Prop} (h : PostS K T W E G ρ (o.bind f) D)
    (k : ∀ x a' G' ρ' H' v, Ge G G' → ρ <+: ρ' → AR K T E G' ρ' a' σ H' → R1 G' ρ' x v → PostS K T W E G' ρ' (f x a') D → Q1 v H') : Post K T W E σ G ρ R1 o Q1 := by
  cases o with
  | stuck => exact h
  | ok x a => exact fun G2 ρ2 H2 v e1 e2 r q => k x a G2 ρ2 H2 v e1 e2 r q (PostS.ext (o := f x a) h e1 e2)
  | exc c fs a => exact fun G2 ρ2 H2 dd e1 e2 r q => h G2 ρ2 σ H2 dd e1 e2 r q
theorem px_raise (hc : X.calm = true) (tk : Takes X W) (x0 : ExK X.prog X.w X.K X.mg X.base (T.C c) k fs) (hr : Room (k + 1) X.A) (hm : X.mg x = some (.ref (T.C c))) (ha : PA X (e :: es) (tA X.K T W ms)) (hz : fs.length ≤ 900 := by decide) (hn : fs ≠ [] := by decide) (hg : Gl X x := by rfl) (hdb : (x == ("__debug__" : Str)) = false := by decide)
    (he : starEach (e :: es) X.env = (false, eval e X.env) :: starEach es X.env := by rfl) (hpl : (backTo pos (starEach es X.env)).any (·.1) = false := by rfl) : PS X (.Raise (some (.Call (.Name x p) (e :: es) [] pos)) none pos') (tS X.K T W (raiM c fs ms)) := by
  obtain ⟨fI, fd, ps, h1, h2, h3, h4⟩ := x0.ini
  refine PS.imp (ps_raise hc tk (pmk_oex (dvs := []) (ds := []) x0.oc h1 h2 h3 hr h4 .nil (passes_call tk (fun _ _ _ _ z => z.elim)) hg hm ha hdb he hpl)) fun D σ H ⟨E, G, ρ, a, r, p⟩ => ?_
  refine ⟨E, G, ρ, a, r, PostS.exc p fun ds a1 G1 ρ1 H1 vs g1 l1 r1 q1 p1 => ?_⟩
  split at p1
  · rename_i hl
    have hv := q1.len
    refine ⟨by omega, fun y hy => ⟨y, T.C c, vs, by rw [List.append_nil], by omega, x0.oc, upd_same, x0.at_, fun z => absurd z hn, fun _ d hd nd => ?_⟩⟩
    have hd1 : H1 d = none := by rw [upd_ne nd] at hd; exact hd
    refine ⟨rfl, d, _, by unfold updX; rw [upd_same], by unfold updX; rw [upd_ne nd, upd_same], hd1, ?_⟩
    have eH : upd (del (updX (upd H1 y (exo y (T.C c) none)) y (T.C c) d (fs.zip vs).reverse) y) d (.xd (fs.zip vs).reverse) = upd H1 d (.xd (fs.zip vs).reverse) := by
      funext b
      by_cases hb : b = d
      · subst hb; rw [upd_same, upd_same]
      · rw [upd_ne hb, upd_ne hb]
        by_cases hy' : b = y
        · subst hy'; rw [del_same, hy]
        · rw [del_ne hy']
          unfold updX
          rw [upd_ne hy', upd_ne hb, upd_ne hy']
    rw [eH]
    exact p1 G1 ρ1 σ _ (some d) Ge.rfl' (List.prefix_refl _) (r1.junk hd1) (.inr ⟨d, _, rfl, upd_same, (RepF.zip q1).rev⟩)
  · exact p1.elim
theorem px_raise0 (hc : X.calm = true) (tk : Takes X W) (x0 : ExK X.prog X.w X.K X.mg X.base (T.C c) k []) (hr : Room (k + 1) X.A) (hm : X.mg x = some (.ref (T.C c))) (hg : Gl X x := by rfl) (hdb : (x == ("__debug__" : Str)) = false := by decide) :
    PS X (.Raise (some (.Call (.Name x p) [] [] pos)) none pos') (tS X.K T W (raiM c [] nilM)) := by
  obtain ⟨fI, fd, ps, h1, h2, h3, h4⟩ := x0.ini
  refine PS.imp (ps_raise hc tk (pmk_oex0 x0.oc h1 h2 h3 hr h4 (passes_call tk (fun _ _ _ _ z => z.elim)) hm hg hdb)) fun D σ H ⟨E, G, ρ, a, r, p⟩ => ?_
  refine fun y hy => ⟨y, T.C c, [], rfl, rfl, x0.oc, upd_same, x0.at_, fun _ => ⟨rfl, upd_same, ?_⟩, fun z => absurd rfl z⟩
  have eH : del (upd H y (exo y (T.C c) none)) y = H := by
    funext b
    by_cases hy' : b = y
    · subst hy'; rw [del_same, hy]
    · rw [del_ne hy', upd_ne hy']
  rw [eH]
  exact p G ρ σ H none Ge.rfl' (List.prefix_refl _) r (.inl ⟨rfl, rfl⟩)
end
end PL

namespace PL
open PySem PySem.Spec PyProof.Rows L2

abbrev ClT := Value × Option Nat × (Addr → Value → Option Addr → TS)
def goneD (i : Nat) (D : Ends) : Ends := { nx := fun σ H => D.nx (σ.set i none) H, rt := D.rt, bk := fun σ H => D.bk (σ.set i none) H, ct := fun σ H => D.ct (σ.set i none) H }
def clW (D : Ends) (o : Option Nat) (ts : Addr → Value → Option Addr → TS) : WX := fun cls d σ H => ∀ a, H a = none → match o with
  | none => ts a cls d D σ H
  | some i => ts a cls d (goneD i D) (σ.set i (some (.ref a))) H
def wAll (K : PySem.W.Frag) (Wout : WX) (D : Ends) : List ClT → WX
  | [] => Wout
  | (c, o, ts) :: r => fun cls d σ H => ∃ b, PySem.W.exmOne K cls c = some b ∧ (b = true → clW D o ts cls d σ H) ∧ (b = false → wAll K Wout D r cls d σ H)
def SuiteOk (X : Cx) (sts : List Stmt) (ts : Addr → Value → Option Addr → TS) : Prop := ∀ (a : Addr) (oe : Obj) (cls : Value) (d : Option Addr) (pn : List (Addr × Obj)), Zc cls d oe → (∃ vs, oe.data = .fields vs) → PSs (X.suite a ((a, oe) :: pn)) sts (ts a cls d)
inductive ClsOk (X : Cx) : List ExceptHandler → List ClT → Prop
  | nil : ClsOk X [] []
  | bare {x : Str} {c : Value} {ts : Addr → Value → Option Addr → TS} {b : Stmt} {sts : List Stmt} {p q : Pos} {hs : List ExceptHandler} {l : List ClT} (hc : Names X x c) (h : SuiteOk X (b :: sts) ts) (r : ClsOk X hs l) :
      ClsOk X (.ExceptHandler (some (.Name x p)) none (b :: sts) q :: hs) ((c, none, ts) :: l)
  | as {x n : Str} {c : Value} {i : Nat} {ts : Addr → Value → Option Addr → TS} {b : Stmt} {sts : List Stmt} {p q : Pos} {hs : List ExceptHandler} {l : List ClT} (hc : Names X x c) (hi : X.N[i]? = some n) (hl : X.env.kindOf n = some .local) (h : SuiteOk X (b :: sts) ts) (r : ClsOk X hs l) :
      ClsOk X (.ExceptHandler (some (.Name x p)) (some n) (b :: sts) q :: hs) ((c, some i, ts) :: l)
section
variable {X : Cx} {body : List Stmt} {h0 : ExceptHandler} {hs : List ExceptHandler} {l : List ClT} {pos : Pos} {tb : WX → TS} {Wout : WX}
theorem ps_try_all (st : X.stack = X.env :: X.outer) (hf : X.env.frame = some X.env.locals) (hN : X.N.Nodup) (tk : Takes X Wout)
    (hb : ∀ (W : WX) (pn : List (Addr × Obj)) (xe : Value → Shared → Prop), Takes (X.tr pn xe) W → PSs (X.tr pn xe) body (tb W)) (hh : ClsOk X (h0 :: hs) l) : PS X (.Try body (h0 :: hs) [] [] pos) (fun D σ H => tb (wAll X.K Wout D l) D σ H) := by
  refine ⟨fun pins s σ H D I h => ?_⟩
  have ok := I.ok
  have fr0 : X.A.frames = some (X.env :: X.outer) := ok.frames.trans (congrArg some st)
  refine wpAny_Try_except (wpAny_mono ((hb (wAll X.K Wout D l) (X.pn ++ pins) (fun e s1 => wpAny (model X.prog X.w) X.A (noteFrame e X.env) (fun _ s2 => wpAny (model X.prog X.w) X.A (setFlight e none) (fun _ s3 => wpAny (model X.prog X.w) X.A (handleBy e X.env (h0 :: hs)) (SP X pins D) X.xe s3) X.xe s2) X.xe s1)
    (fun u s' xx => ?_)).run [] s σ H D (I.toTry _) h) (fun f s1 q => ?_) (fun e s1 z => z))
  · obtain ⟨a, B, sI, pins', σ', H', cls, d, rfl, J', nb, up, sky, na, os, ag, w⟩ := xx
    have J : Inv X pins σ' H' sI := J'.ofTry ok
    show wpAny (model X.prog X.w) X.A (noteFrame (.ref a) X.env) _ X.xe s'
    refine Sky.land Zc.steady fr0 hf (show Sky B (X.env :: X.outer) a (Zc cls d) X.env.locals s'.heap from st ▸ sky) fun h3 fl3 up3 => ?_
    obtain ⟨oe3, vs3, he3, hz3, hd3⟩ := fl3.there
    have nfr : a ∉ frs (X.env :: X.outer) := fun hm => by
      obtain ⟨_, o', e', hnf⟩ := fl3.2.2.1.mem hm
      obtain rfl := Option.some.inj (he3.symm.trans e')
      exact hnf _ hd3
    have nL : a ≠ X.env.locals := fun z => nfr (List.mem_filterMap.mpr ⟨X.env, .head _, hf.trans (congrArg some z.symm)⟩)
    have nF : a ∉ X.fs := fun hm => (List.mem_filterMap.mp hm).elim fun e he => nfr (List.mem_filterMap.mpr ⟨e, .tail _ he.1, he.2⟩)
    have J3 : Inv X pins σ' H' { s' with heap := h3 } := J.landed nb fl3.1 (up.trans up3) os ag
    have S3 := J3.suite he3 hd3 na nL nF
    have LT : PySem.W.Looks (model X.prog X.w) h3 (typeOf (.ref a)) cls := fun _ _ _ _ k q => wpAny_typeOf_ref (k _ _ he3) (by rw [hz3.1]; exact q)
    have ask : ∀ {x : Str} {c : Value} {p : Pos} {Q E : Value → Shared → Prop}, Names X x c → Q c { s' with heap := h3 } → wpAny (model X.prog X.w) (X.A.mark (some (.ref a))) (eval (.Name x p) X.env) Q E { s' with heap := h3 } := fun hc q => by
      rcases hc with ⟨hg, hdb, hm | ⟨hm, hv, hn⟩⟩
      · exact ld_glob (X := X.suite a ((a, oe3) :: (X.pn ++ pins))) S3 hg hm q hdb
      · exact ld_blt (X := X.suite a ((a, oe3) :: (X.pn ++ pins))) S3 hg hm hv q hn hdb
    have go : ∀ {hs' : List ExceptHandler} {l' : List ClT}, ClsOk X hs' l' → wAll X.K Wout D l' cls d σ' H' → wpAny (model X.prog X.w) X.A (handleBy (.ref a) X.env hs') (SP X pins D) X.xe { s' with heap := h3 } := by
      intro hs' l' hk
      induction hk with
      | nil =>
        intro w
        obtain ⟨_, _, _, _, _, T, _, _, he, _, hd, h1, _⟩ := id fl3
        refine wpAny_handleBy_nil ?_
        unfold PySem.passOn
        refine wpAny_bind (wpAny_field he hd h1 ?_)
        rw [if_neg (show ¬ ((Value.ref T == Value.none) = true) by simp)]
        have fin : wpAny (model X.prog X.w) X.A (setFlight (.ref a) X.env.frame) (fun _ s4 => wpAny (model X.prog X.w) X.A (throw (.ref a) : Sem Flow) (SP X pins D) X.xe s4) X.xe { s' with heap := h3 } := by
          rw [hf]
          exact HandSPX.setFlight_upZ fl3 fun h4 hh4 up4 => wpAny_throw (tk _ _ ⟨a, B, sI, pins, σ', H', cls, d, rfl, J, nb, (up.trans up3).trans up4, .inr (.inr (st.symm ▸ hh4)), na, os, ag, w⟩)
        first
          | exact wpAny_bind (wpAny_pure (wpAny_bind fin))
          | exact wpAny_bind fin
      | @bare x c ts b sts p q hs2 l2 hc hsu r ih =>
        intro ⟨y, hb1, hyes, hno⟩
        refine wpAny_handleBy_cons (codeAny_handlers_test (ask hc ((PySem.W.exm_one (M := model X.prog X.w) J3.kIn LT hb1).here ?_))) (by intro q; cases q)
        cases y with
        | false => exact ih (hno rfl)
        | true =>
          refine codeAny_handlers_suite (HandSPX.lands_againZ fl3 fun h4 fl4 up4 => ?_)
          obtain ⟨oe4, vs4, he4, hz4, hd4⟩ := fl4.there
          have J4 : Inv X pins σ' H' { s' with heap := h4 } := J.landed nb fl4.1 (up.trans (up3.trans up4)) os ag
          have S4 := J4.suite he4 hd4 na nL nF
          refine wpAny_mono ((hsu a oe4 cls d (X.pn ++ pins) hz4 ⟨_, hd4⟩).run [] _ _ H' _ S4 (hyes rfl a na)) (fun f s6 q => ?_) (fun _ _ z => z.elim)
          cases f with
          | ret u => obtain ⟨v, σ6, H6, S6, r6, q6⟩ := q; exact ⟨v, σ6, H6, S6.unsuite ok, r6, q6⟩
          | next => obtain ⟨σ6, H6, S6, q6⟩ := q; exact ⟨σ6, H6, S6.unsuite ok, q6⟩
          | brk => obtain ⟨σ6, H6, S6, q6⟩ := q; exact ⟨σ6, H6, S6.unsuite ok, q6⟩
          | cont => obtain ⟨σ6, H6, S6, q6⟩ := q; exact ⟨σ6, H6, S6.unsuite ok, q6⟩
      | @as x n c i ts b sts p q hs2 l2 hc hi hln hsu r ih =>
        intro ⟨y, hb1, hyes, hno⟩
        refine wpAny_handleBy_cons (codeAny_handlers_test (ask hc ((PySem.W.exm_one (M := model X.prog X.w) J3.kIn LT hb1).here ?_))) (by intro q; cases q)
        cases y with
        | false => exact ih (hno rfl)
        | true =>
          refine codeAny_handlers_suite_as (HandSPX.lands_againZ fl3 fun h4 fl4 up4 => ?_)
          obtain ⟨oe4, vs4, he4, hz4, hd4⟩ := fl4.there
          have J4 : Inv X pins σ' H' { s' with heap := h4 } := J.landed nb fl4.1 (up.trans (up3.trans up4)) os ag
          have S4 := J4.suite he4 hd4 na nL nF
          refine store_ok (X := X.suite a ((a, oe4) :: (X.pn ++ pins))) (v := .ref a) S4 hN hi (.inl hln) rfl (fun s5 S5 => ?_) (.inr hln)
          refine wpAny_mono ((hsu a oe4 cls d (X.pn ++ pins) hz4 ⟨_, hd4⟩).run [] s5 _ H' _ S5 (hyes rfl a na)) (fun f s6 q => ?_) (fun _ _ z => z.elim)
          cases f with
          | ret u => obtain ⟨v, σ6, H6, S6, r6, q6⟩ := q; exact gone_ok (S6.unsuite ok) hN hi hln fun s7 J7 => ⟨v, _, H6, J7, r6, q6⟩
          | next => obtain ⟨σ6, H6, S6, q6⟩ := q; exact gone_ok (S6.unsuite ok) hN hi hln fun s7 J7 => ⟨_, H6, J7, q6⟩
          | brk => obtain ⟨σ6, H6, S6, q6⟩ := q; exact gone_ok (S6.unsuite ok) hN hi hln fun s7 J7 => ⟨_, H6, J7, q6⟩
          | cont => obtain ⟨σ6, H6, S6, q6⟩ := q; exact gone_ok (S6.unsuite ok) hN hi hln fun s7 J7 => ⟨_, H6, J7, q6⟩
    exact go hh w
  · cases f with
    | ret u => obtain ⟨v, σ', H', J', r, q⟩ := q; exact ⟨v, σ', H', J'.ofTry ok, r, q⟩
    | next => obtain ⟨σ', H', J', q⟩ := q; exact wpAny_execs_nil ⟨σ', H', J'.ofTry ok, q⟩
    | brk => obtain ⟨σ', H', J', q⟩ := q; exact ⟨σ', H', J'.ofTry ok, q⟩
    | cont => obtain ⟨σ', H', J', q⟩ := q; exact ⟨σ', H', J'.ofTry ok, q⟩
end

inductive HI where
  | c (d : D) | f (n : Str)
inductive HX where
  | one (i : HI) | tup (l : List HI)
structure HC where
  k : Nat
  nm : Bool
  x : HX
def conV : D → Option V
  | .non => some .non
  | .bl b => some (.bl b)
  | .int i => some (.int i)
  | .str x => some (.str x)
  | _ => none
theorem con_rep {K : PySem.W.Frag} {T : Tab} {G : Hp} {ρ : List Addr} {d : D} {v : V} (h : conV d = some v) : Rep K T G ρ d v := by
  cases d <;> first | (cases h; done) | (cases h; unfold Rep; rfl)
section
variable (C : Addr) (cls : Value) (d : Option Addr)
def hiW (H : Hp) : HI → V → Prop
  | .c x, v => conV x = some v
  | .f n, v => cls = .ref C ∧ ∃ dd fs, d = some dd ∧ H dd = some (.xd fs) ∧ fs.lookup n = some v
def hlW (H : Hp) : List HI → List V → Prop
  | [], vs => vs = []
  | i :: l, vs => ∃ v r, vs = v :: r ∧ hiW C cls d H i v ∧ hlW H l r
def hxW (x : HX) (H : Hp) (Q : VK) : Prop := match x with
  | .one i => ∃ v, hiW C cls d H i v ∧ Q v H
  | .tup l => ∃ vs, hlW C cls d H l vs ∧ vs.length ≤ 1000 ∧ ∀ p, H p = none → Q (.ref p) (upd H p (.tup vs))
end
def atN (i : Option Nat) (a : Addr) (σ : L2.St) : Prop := ∀ j, i = some j → σ[j]? = some (some (.ref a))
def tHI (C : Addr) (i : Option Nat) (a : Addr) (cls : Value) (d : Option Addr) (x : HI) : TE := fun σ H Q => atN i a σ ∧ ∃ v, hiW C cls d H x v ∧ Q v H
def tHL (C : Addr) (i : Option Nat) (a : Addr) (cls : Value) (d : Option Addr) (x : List HI) : TA := fun σ H Q => atN i a σ ∧ ∃ v, hlW C cls d H x v ∧ Q v H
def tHX (C : Addr) (i : Option Nat) (a : Addr) (cls : Value) (d : Option Addr) (x : HX) : TE := fun σ H Q => atN i a σ ∧ hxW C cls d x H Q
section
variable {X : Cx} {C : Addr} {i : Option Nat} {a : Addr} {cls : Value} {d : Option Addr} {e : Expr} {es : List Expr}
theorem ph_c {x : D} {v : V} (h : PE X e (tC v)) (hv : conV x = some v) : PE X e (tHI C i a cls d (.c x)) := PE.imp h fun σ H Q ⟨_, v', e1, q⟩ => by
  obtain rfl : v = v' := Option.some.inj (hv.symm.trans e1)
  exact q
theorem ph_f {j : Nat} {oe : Obj} {pn : List (Addr × Obj)} {n x : Str} {p q : Pos} (T : XfC X.K C) (hno : PySem.W.findIn X.K (.ref C) n = some none) (hz : Zc cls d oe) (hf : ∃ vs, oe.data = .fields vs) (hN : X.N[j]? = some x := by rfl) (hv : Vis X.env.scope x := by first | exact Or.inl rfl | exact Or.inr (Or.inl rfl) | exact Or.inr (Or.inr rfl))
    (hd : (x == ("__debug__" : Str)) = false := by decide) (hcd : (x == ("__classdict__" : Str)) = false := by decide) (hb : attributeBase (.Name x p) n X.env (eval (.Name x p) X.env) = eval (.Name x p) X.env := by rfl) :
    PE (X.suite a ((a, oe) :: pn)) (.Attribute (.Name x p) n q) (tHI C (some j) a cls d (.f n)) := PE.imp (pe_xf T hno hz hf (pe_var (i := j) hN hv hd hcd) hb) fun σ H Q ⟨hs, v, ⟨h1, dd, fs, h2, h3, h4⟩, q⟩ => ⟨.ref a, hs j rfl, rfl, h1, dd, fs, v, h2, h3, h4, q⟩
theorem ph_nil : PA X [] (tHL C i a cls d []) := PA.imp pa_nil fun σ H Q ⟨_, v, e, q⟩ => by subst e; exact q
theorem ph_cons {x : HI} {l : List HI} (h : PE X e (tHI C i a cls d x)) (t : PA X es (tHL C i a cls d l)) (hs : starEach (e :: es) X.env = (false, eval e X.env) :: starEach es X.env := by rfl) :
    PA X (e :: es) (tHL C i a cls d (x :: l)) := PA.imp (pa_cons h t hs) fun σ H Q ⟨h0, vs, ⟨v, r, e1, h1, h2⟩, q⟩ => ⟨h0, v, h1, h0, r, h2, by subst e1; exact q⟩
theorem ph_one {x : HI} (h : PE X e (tHI C i a cls d x)) : PE X e (tHX C i a cls d (.one x)) := PE.imp h fun σ H Q ⟨h0, v, h1, q⟩ => ⟨h0, v, h1, q⟩
theorem ph_tup {l : List HI} {x1 pos} (h : PA X es (tHL C i a cls d l)) : PE X (.Tuple es x1 pos) (tHX C i a cls d (.tup l)) := PE.imp (pe_tup h) fun σ H Q ⟨h0, vs, h1, h2, q⟩ => ⟨h0, vs, h1, by rw [sizeLine_eq]; omega, q⟩
end
def hiD (same : Bool) (fs : List (Str × D)) : HI → Option D
  | .c d => (conV d).map fun _ => d
  | .f n => if same then fs.lookup n else none
def hlD (same : Bool) (fs : List (Str × D)) : List HI → Option (List D)
  | [] => some []
  | i :: l => (hiD same fs i).bind fun d => (hlD same fs l).map fun ds => d :: ds
def hxD (same : Bool) (fs : List (Str × D)) : HX → Option D
  | .one i => hiD same fs i
  | .tup l => if l.length ≤ 1000 then (hlD same fs l).map D.tup else none
def hFind (sub : Nat → Nat → Option Bool) (c : Nat) (fs : List (Str × D)) : List HC → Option D
  | [] => none
  | h :: r => match sub c h.k with
    | some true => hxD (c == h.k) fs h.x
    | some false => hFind sub c fs r
    | none => none
section
variable {K : PySem.W.Frag} {T : Tab} {G : Hp} {ρ : List Addr} {H : Hp} {c k : Nat} {fs : List (Str × D)} {dd : Option Addr}
theorem hi_rep (hx : ExR K T G ρ H fs dd) {i : HI} {d : D} (h : hiD (c == k) fs i = some d) : ∃ v, hiW (T.C k) (.ref (T.C c)) dd H i v ∧ Rep K T G ρ d v := by
  cases i with
  | c x =>
    unfold hiD at h
    dsimp only at h
    cases e : conV x with
    | none => rw [e] at h; cases h
    | some v => rw [e] at h; cases h; exact ⟨v, e, con_rep e⟩
  | f n =>
    unfold hiD at h
    dsimp only at h
    split at h
    · rename_i hs
      obtain rfl : c = k := by simpa using hs
      rcases hx with ⟨rfl, _⟩ | ⟨b, fvs, e1, e2, r⟩
      · cases h
      · obtain ⟨v, e3, r3⟩ := r.look h
        exact ⟨v, ⟨rfl, b, fvs, e1, e2, e3⟩, r3⟩
    · cases h
theorem hl_rep (hx : ExR K T G ρ H fs dd) : ∀ {l : List HI} {ds : List D}, hlD (c == k) fs l = some ds → ∃ vs, hlW (T.C k) (.ref (T.C c)) dd H l vs ∧ RepL K T G ρ ds vs ∧ vs.length = l.length
  | [], ds, h => by cases h; exact ⟨[], rfl, RepL.nil, rfl⟩
  | i :: l, ds, h => by
    unfold hlD at h
    cases e : hiD (c == k) fs i with
    | none => rw [e] at h; cases h
    | some d =>
      rw [e, Option.bind_some] at h
      cases e2 : hlD (c == k) fs l with
      | none => rw [e2] at h; cases h
      | some es =>
        rw [e2] at h
        cases h
        obtain ⟨v, h1, h2⟩ := hi_rep hx e
        obtain ⟨vs, h3, h4, h5⟩ := hl_rep hx e2
        exact ⟨v :: vs, ⟨v, vs, rfl, h1, h3⟩, RepL.cons h2 h4, by rw [List.length_cons, List.length_cons, h5]⟩
theorem hx_rep {W : WX} {E : En} {σ : L2.St} {a : AS} {Q : VK} (hx : ExR K T G ρ H fs dd) {x : HX} {d : D} (h : hxD (c == k) fs x = some d) (r : AR K T E G ρ a σ H) (p : Post K T W E σ G ρ (Rep K T) (.ok d a) Q) : hxW (T.C k) (.ref (T.C c)) dd x H Q := by
  cases x with
  | one i =>
    obtain ⟨v, h1, h2⟩ := hi_rep hx h
    exact ⟨v, h1, Post.here p r h2⟩
  | tup l =>
    unfold hxD at h
    dsimp only at h
    split at h
    · rename_i hz
      cases e : hlD (c == k) fs l with
      | none => rw [e] at h; cases h
      | some ds =>
        rw [e] at h
        cases h
        obtain ⟨vs, h1, h2, h3⟩ := hl_rep hx e
        refine ⟨vs, h1, by omega, fun y hy => Post.laid p r hy ?_⟩
        obtain ⟨g, _⟩ := r.lay (o := HO.tup vs) hy
        unfold Rep
        exact ⟨y, vs, rfl, .inl upd_same, RepL.ge g (List.prefix_refl _) _ _ h2⟩
    · cases h
def hW (K : PySem.W.Frag) (T : Tab) (cls : Value) (d : Option Addr) (H : Hp) (Q : VK) : List HC → Prop
  | [] => False
  | h :: r => ∃ b, PySem.W.exmOne K cls (.ref (T.C h.k)) = some b ∧ (b = true → hxW (T.C h.k) cls d h.x H Q) ∧ (b = false → hW K T cls d H Q r)
theorem hW_of {W : WX} {E : En} {σ : L2.St} {a : AS} {Q : VK} {sub : Nat → Nat → Option Bool} (hs : ∀ c k b, sub c k = some b → PySem.W.exmOne K (.ref (T.C c)) (.ref (T.C k)) = some b) (hx : ExR K T G ρ H fs dd) (r : AR K T E G ρ a σ H) : ∀ {l : List HC} {d : D}, hFind sub c fs l = some d → Post K T W E σ G ρ (Rep K T) (.ok d a) Q → hW K T (.ref (T.C c)) dd H Q l
  | [], _, h, _ => by cases h
  | y :: l, d, h, p => by
    unfold hFind at h
    split at h
    · rename_i e
      exact ⟨true, hs _ _ _ e, fun _ => hx_rep hx h r p, by intro z; cases z⟩
    · rename_i e
      exact ⟨false, hs _ _ _ e, (fun z => by cases z), fun _ => hW_of hs hx r h p⟩
    · cases h
end

def TTS (K : PySem.W.Frag) (T : Tab) (hs : List HC) (x0 : HX) : (XK → Hp → VK → Prop) → Hp → VK → Prop := fun tl H Q => tl (fun cls d H' => hW K T cls d H' Q hs) H fun _ H' => hxW 0 .none none x0 H' Q
def nmI (i : Nat) (b : Bool) : Option Nat := if b then some i else none
def clR (T : Tab) (i : Nat) (h : HC) : ClT := (.ref (T.C h.k), nmI i h.nm, fun a cls d => tRet (tHX (T.C h.k) (nmI i h.nm) a cls d h.x))
def clK (T : Tab) (i j : Nat) (h : HC) : ClT := (.ref (T.C h.k), nmI i h.nm, fun a cls d => tAsg (tHX (T.C h.k) (nmI i h.nm) a cls d h.x) (gName j))
theorem hxW.mono {C : Addr} {cls : Value} {d : Option Addr} {x : HX} {H : Hp} {Q Q' : VK} (h : hxW C cls d x H Q) (k : ∀ v H, Q v H → Q' v H) : hxW C cls d x H Q' := by
  cases x with
  | one i => obtain ⟨v, h1, h2⟩ := h; exact ⟨v, h1, k _ _ h2⟩
  | tup l => obtain ⟨vs, h1, h2, h3⟩ := h; exact ⟨vs, h1, h2, fun p hp => k _ _ (h3 p hp)⟩
section
variable {K : PySem.W.Frag} {T : Tab} {cls : Value} {d : Option Addr} {H : Hp} {Q : VK} {σ : L2.St} {i j : Nat} {D : Ends} {W : WX}
theorem wAll_R (hi : i < σ.length) (hD : D.rt = Q) : ∀ {hs : List HC}, hW K T cls d H Q hs → wAll K W D (hs.map (clR T i)) cls d σ H
  | [], h => h.elim
  | y :: hs, ⟨b, h1, h2, h3⟩ => ⟨b, h1, fun e a _ => by
    have hx := h2 e
    subst hD
    cases hn : y.nm with
    | false =>
      show tRet (tHX (T.C y.k) none a cls d y.x) D σ H
      exact ⟨fun _ z => (nomatch z), hx⟩
    | true =>
      show tRet (tHX (T.C y.k) (some i) a cls d y.x) (goneD i D) (σ.set i (some (.ref a))) H
      exact ⟨fun _ z => by cases z; rw [List.getElem?_set_self hi], hx⟩, fun e => wAll_R hi hD (h3 e)⟩
theorem wAll_K (hi : i < σ.length) (hj : j < σ.length) (ne : i ≠ j) (hD : ∀ v σ' H', σ'[j]? = some (some v) → Q v H' → D.nx σ' H') : ∀ {hs : List HC}, hW K T cls d H Q hs → wAll K W D (hs.map (clK T i j)) cls d σ H
  | [], h => h.elim
  | y :: hs, ⟨b, h1, h2, h3⟩ => ⟨b, h1, fun e a _ => by
    have hx := h2 e
    cases hn : y.nm with
    | false =>
      show tAsg (tHX (T.C y.k) none a cls d y.x) (gName j) D σ H
      exact ⟨fun _ z => (nomatch z), hx.mono fun v H' q => hD v _ H' (List.getElem?_set_self hj) q⟩
    | true =>
      show tAsg (tHX (T.C y.k) (some i) a cls d y.x) (gName j) (goneD i D) (σ.set i (some (.ref a))) H
      refine ⟨fun _ z => by cases z; rw [List.getElem?_set_self hi], hx.mono fun v H' q => hD v _ H' ?_ q⟩
      rw [List.getElem?_set_ne ne, List.getElem?_set_self (by simpa using hj)], fun e => wAll_K hi hj ne hD (h3 e)⟩
end
def tH0 (x0 : HX) : TE := fun _ H Q => hxW 0 .none none x0 H Q
theorem ph_0 {X : Cx} {e : Expr} {x0 : HX} (h : PE X e (tHX 0 none 0 .none none x0)) : PE X e (tH0 x0) := PE.imp h fun _ _ _ q => ⟨fun _ z => (nomatch z), q⟩
abbrev gCx (X : Cx) (Ng : List Str) (x : Str) (sg : Scope) (g : Addr) (cdg : Value) (s : Shared) (H : Hp) : Cx := (cxOf C8.CX0 X.prog X.w X.K X.mg X.base Ng x sg g cdg X.A X.stack s H C8.E0).nox
section
variable {X : Cx} {T : Tab} {Ng : List Str} {x a q : Str} {sg : Scope} {g : Addr} {cdg : Value} {h0 : ExceptHandler} {hds : List ExceptHandler} {hs : List HC} {x0 : HX} {e0 : Expr} {i j : Nat} {p1 p2 p3 p8 p9 p9' p4 p5 : Pos} {nf : Str}
theorem takes_len {Y : Cx} {W W' : WX} (t : Takes Y W) (h : ∀ c d σ H, σ.length = Y.N.length → W' c d σ H → W c d σ H) : Takes Y W' := fun u s' ⟨a, B, sI, pins, σ, H, cls, d, e, I, nb, up, sky, na, os, ag, w⟩ => t u s' ⟨a, B, sI, pins, σ, H, cls, d, e, I, nb, up, sky, na, os, ag, h _ _ _ _ I.len w⟩
theorem gives_R (hN : Ng.Nodup) (hh : ∀ s H, ClsOk (gCx X Ng x sg g cdg s H) (h0 :: hds) (hs.map (clR T i))) (he : ∀ s H, PE (gCx X Ng x sg g cdg s H) e0 (tH0 x0)) (hl : 0 < Ng.length) (hi : i < Ng.length)
    (hsw : ∀ s H, swapsWith (.Call (.Name a p1) [] [] p2) none p3.line (gCx X Ng x sg g cdg s H).env = pure false) :
    LamX.GivesTo X Ng x sg g cdg [.Try [.Expr (.Call (.Name a p1) [] [] p2) p3] (h0 :: hds) [] [] p8, .Return (some e0) p9] a q (TTS X.K T hs x0) := by
  intro f c' s H Q tl act hc h
  refine ⟨_, pss_cons (ps_try_all (X := gCx X Ng x sg g cdg s H) (Wout := fun _ _ _ _ => False)
    (tb := fun W D σ H => ∃ Ech : XK, (∀ cls d σ' H', σ'.length = Ng.length → Ech cls d H' → W cls d σ' H') ∧ σ[0]? = some (some (.ref f)) ∧ H c' = some (LamX.CodeO c' q) ∧ tl Ech H fun _ H1 => D.nx σ H1) rfl rfl hN LamX.takes0 (fun W pn xe tk => ?_) (hh s H)) (pss_one (ps_ret (he s H))), ?_⟩
  · refine ⟨fun pins s' σ H' D I ⟨Ech, hW, h1, h2, h3⟩ => ?_⟩
    exact (pss_one (ps_expr (act (fun cls d _ H => Ech cls d H) pn xe Ech p1 p2 (takes_len tk hW) (fun _ _ _ _ z => z)) (hsw s H))).run pins s' σ H' D I ⟨h1, h2, h3⟩
  · have g0 : (L2.start Ng [V.ref f])[0]? = some (some (.ref f)) := by unfold L2.start; simp
    refine ⟨fun cls d H' => hW X.K T cls d H' Q hs, fun cls d σ' H' l z => wAll_R (by rw [l]; exact hi) rfl z, g0, hc, ?_⟩
    exact h
theorem gives_K {d0 : D} {v0 : V} (hN : Ng.Nodup) (hj : Ng[j]? = some nf) (hv : Vis sg nf) (hd : (nf == ("__debug__" : Str)) = false) (hcd : (nf == ("__classdict__" : Str)) = false) (hlo : sg.names.lookup nf = some .local) (hh : ∀ s H, ClsOk (gCx X Ng x sg g cdg s H) (h0 :: hds) (hs.map (clK T i j))) (he : ∀ s H, PE (gCx X Ng x sg g cdg s H) e0 (tC v0)) (hc0 : conV d0 = some v0)
    (hi : i < Ng.length) (ne : i ≠ j) (j0 : j ≠ 0) (hsw : ∀ s H, swapsWith (.Call (.Name a p1) [] [] p2) none p3.line (gCx X Ng x sg g cdg s H).env = pure false) (hsw2 : ∀ s H, swapsWith e0 (some (.Name nf p4)) p5.line (gCx X Ng x sg g cdg s H).env = pure false) :
    LamX.GivesTo X Ng x sg g cdg [.Assign [.Name nf p4] e0 p5, .Try [.Expr (.Call (.Name a p1) [] [] p2) p3] (h0 :: hds) [] [] p8, .Return (some (.Name nf p9)) p9'] a q (TTS X.K T hs (.one (.c d0))) := by
  intro f c' s H Q tl act hc h
  have jl : j < Ng.length := (List.getElem?_eq_some_iff.mp hj).1
  refine ⟨_, pss_cons (ps_set hN hj (.inl hlo) (he s H) (hsw2 s H) (.inr hlo)) (pss_cons (ps_try_all (X := gCx X Ng x sg g cdg s H) (Wout := fun _ _ _ _ => False)
    (tb := fun W D σ H => ∃ Ech : XK, (∀ cls d σ' H', σ'.length = Ng.length → Ech cls d H' → W cls d σ' H') ∧ σ[0]? = some (some (.ref f)) ∧ H c' = some (LamX.CodeO c' q) ∧ tl Ech H fun _ H1 => D.nx σ H1) rfl rfl hN LamX.takes0 (fun W pn xe tk => ?_) (hh s H)) (pss_one (ps_ret (pe_var (i := j) hj hv hd hcd)))), ?_⟩
  · refine ⟨fun pins s' σ H' D I ⟨Ech, hW, h1, h2, h3⟩ => ?_⟩
    exact (pss_one (ps_expr (act (fun cls d _ H => Ech cls d H) pn xe Ech p1 p2 (takes_len tk hW) (fun _ _ _ _ z => z)) (hsw s H))).run pins s' σ H' D I ⟨h1, h2, h3⟩
  · have l0 : (L2.start Ng [V.ref f]).length = Ng.length := by unfold L2.start; simp; omega
    have g0 : ((L2.start Ng [V.ref f]).set j (some v0))[0]? = some (some (.ref f)) := by
      rw [List.getElem?_set_ne j0]
      unfold L2.start; simp
    have gj : ((L2.start Ng [V.ref f]).set j (some v0))[j]? = some (some v0) := List.getElem?_set_self (by rw [l0]; exact jl)
    refine ⟨fun cls d H' => hW X.K T cls d H' Q hs, fun cls d σ' H' l z => ?_, g0, hc, ?_⟩
    · refine wAll_K (by rw [l]; exact hi) (by rw [l]; exact jl) ne ?_ z
      exact fun v σ2 H2 e q => ⟨v, e, q⟩
    · refine cast (congrArg (tl _ H) (funext fun _ => funext fun H' => propext ⟨fun ⟨v, e, q⟩ => ?_, fun ⟨v, e, q⟩ => ?_⟩)) h
      · obtain rfl : v0 = v := Option.some.inj (hc0.symm.trans e)
        exact ⟨v0, gj, q⟩
      · obtain rfl : v0 = v := Option.some.inj (Option.some.inj (gj.symm.trans e))
        exact ⟨v0, hc0, q⟩
end

def frz1 (a : AS) (i : Nat) : AS := match a.sl.getD i .emp with
  | .own ds => { a with sl := a.sl.set i (.val (.lst ds)) }
  | _ => a
def frzL (caps : List Nat) (a : AS) : AS := caps.foldl frz1 a
def lamM (sub : Nat → Nat → Option Bool) (caps : List Nat) (hs : List HC) (x0 : HX) (m : M D) : M D := fun a => match m ⟨hideL [] (frzL caps a).sl, (frzL caps a).st⟩ with
  | .stuck => .stuck
  | .ok _ b => match hxD false [] x0 with
    | some d => .ok d { frzL caps a with st := b.st }
    | none => .stuck
  | .exc c fs b => match hFind sub c fs hs with
    | some d => .ok d { frzL caps a with st := b.st }
    | none => .stuck
section
variable {K : PySem.W.Frag} {T : Tab} {E : En} {G : Hp} {ρ : List Addr} {a : AS} {σ : L2.St} {H H1 : Hp}
theorem AR.frz (r : AR K T E G ρ a σ H) : ∀ caps : List Nat, ∃ G', Ge G G' ∧ AR K T E G' ρ (frzL caps a) σ H := by
  intro caps
  induction caps generalizing G a with
  | nil => exact ⟨G, Ge.rfl', r⟩
  | cons i l ih =>
    show ∃ G', Ge G G' ∧ AR K T E G' ρ (frzL l (frz1 a i)) σ H
    unfold frz1
    split
    · rename_i ds e
      obtain ⟨b, vs, e1, hb, q, g, r2⟩ := r.freeze (getD_some e (fun z => nomatch z))
      obtain ⟨G', g', r'⟩ := ih r2
      exact ⟨G', g.trans g', r'⟩
    · exact ih r
theorem AR.tabs (r : AR K T E G ρ a σ H) (e : LamX.ExtN H H1) (t : LamX.Tabs T.tabs H1) : Aft K T G ρ H G ρ H1 a.st := by
  refine ⟨Ge.rfl', List.prefix_refl _, ⟨fun b o h => e b o (r.sub b o h) (fun ps z => r.tb.2 b ps (z ▸ h)), r.clen, fun i b c h1 h2 => ?_, r.cnd, r.cG, t, r.tb.2⟩, fun b o h _ => e b o (nt_some h).1 (nt_some h).2, fun b o h => .inl h, fun b h => .inl h⟩
  have z := r.cl i b c h1 h2
  cases c with
  | lst ds => obtain ⟨vs, h3, q⟩ := z; exact ⟨vs, e _ _ h3 (fun _ z => nomatch z), q⟩
  | obj k fs => obtain ⟨dx, vs, h3, q⟩ := z; exact ⟨dx, vs, e _ _ h3 (fun _ z => nomatch z), q⟩
end
section
variable {K : PySem.W.Frag} {T : Tab} {G : Hp} {ρ : List Addr} {H : Hp} {fs : List (Str × D)} {dd : Option Addr} {C : Addr} {cls : Value}
theorem hi_rep0 {i : HI} {d : D} (h : hiD false fs i = some d) : ∃ v, hiW C cls dd H i v ∧ Rep K T G ρ d v := by
  cases i with
  | c x =>
    unfold hiD at h
    dsimp only at h
    cases e : conV x with
    | none => rw [e] at h; cases h
    | some v => rw [e] at h; cases h; exact ⟨v, e, con_rep e⟩
  | f n =>
    unfold hiD at h
    dsimp only at h
    rw [if_neg Bool.false_ne_true] at h
    cases h
theorem hl_rep0 : ∀ {l : List HI} {ds : List D}, hlD false fs l = some ds → ∃ vs, hlW C cls dd H l vs ∧ RepL K T G ρ ds vs ∧ vs.length = l.length
  | [], ds, h => by cases h; exact ⟨[], rfl, RepL.nil, rfl⟩
  | i :: l, ds, h => by
    unfold hlD at h
    cases e : hiD false fs i with
    | none => rw [e] at h; cases h
    | some d =>
      rw [e, Option.bind_some] at h
      cases e2 : hlD false fs l with
      | none => rw [e2] at h; cases h
      | some es =>
        rw [e2] at h
        cases h
        obtain ⟨v, h1, h2⟩ := hi_rep0 (G := G) (ρ := ρ) (K := K) (T := T) (C := C) (cls := cls) (dd := dd) (H := H) e
        obtain ⟨vs, h3, h4, h5⟩ := hl_rep0 e2
        exact ⟨v :: vs, ⟨v, vs, rfl, h1, h3⟩, RepL.cons h2 h4, by rw [List.length_cons, List.length_cons, h5]⟩
theorem hx_rep0 {W : WX} {E : En} {σ : L2.St} {a : AS} {Q : VK} {x : HX} {d : D} (h : hxD false fs x = some d) (r : AR K T E G ρ a σ H) (p : Post K T W E σ G ρ (Rep K T) (.ok d a) Q) : hxW C cls dd x H Q := by
  cases x with
  | one i =>
    obtain ⟨v, h1, h2⟩ := hi_rep0 (C := C) (cls := cls) (dd := dd) (H := H) h
    exact ⟨v, h1, Post.here p r h2⟩
  | tup l =>
    unfold hxD at h
    dsimp only at h
    split at h
    · rename_i hz
      cases e : hlD false fs l with
      | none => rw [e] at h; cases h
      | some ds =>
        rw [e] at h
        cases h
        obtain ⟨vs, h1, h2, h3⟩ := hl_rep0 (C := C) (cls := cls) (dd := dd) (H := H) (K := K) (T := T) (G := G) (ρ := ρ) e
        refine ⟨vs, h1, by omega, fun y hy => Post.laid p r hy ?_⟩
        obtain ⟨g, _⟩ := r.lay (o := HO.tup vs) hy
        unfold Rep
        exact ⟨y, vs, rfl, .inl upd_same, RepL.ge g (List.prefix_refl _) _ _ h2⟩
    · cases h
end
theorem hW_mono {K : PySem.W.Frag} {T : Tab} {cls : Value} {d : Option Addr} {H : Hp} {Q Q' : VK} (k : ∀ v H, Q v H → Q' v H) : ∀ {l : List HC}, hW K T cls d H Q l → hW K T cls d H Q' l
  | [], h => h
  | _ :: _, ⟨b, h1, h2, h3⟩ => ⟨b, h1, fun e => (h2 e).mono k, fun e => hW_mono k (h3 e)⟩
section
variable {X : Cx} {T : Tab} {W : WX}
theorem lam_read {sub : Nat → Nat → Option Bool} {caps : List Nat} {hs : List HC} {x0 : HX} {m : M D} {σ : L2.St} {H : Hp} {Q : VK} (hsub : ∀ c k b, sub c k = some b → PySem.W.exmOne X.K (.ref (T.C c)) (.ref (T.C k)) = some b)
    (h : tE X.K T W (lamM sub caps hs x0 m) σ H Q) : LamX.tLam T.tabs (TTS X.K T hs x0) (fun E => tE X.K T (fun cls d _ H => E cls d H) m) σ H Q := by
  obtain ⟨E, G, ρ, a, r, p⟩ := h
  refine ⟨r.tb.1, fun H1 eN T1 => ?_⟩
  obtain ⟨G2, g2, r2⟩ := r.frz caps
  have x1 := r2.tabs eN T1
  have r3 := r2.blk x1 []
  refine ⟨_, G2, ρ, _, r3, ?_⟩
  unfold lamM at p
  cases e : m ⟨hideL [] (frzL caps a).sl, (frzL caps a).st⟩ with
  | stuck => rw [e] at p; exact p.elim
  | ok y b =>
    rw [e] at p
    intro G' ρ' H' v g' l' r' q'
    have r4 := r2.after (x1.trans (r'.aft rfl rfl))
    dsimp only at p
    split at p
    · rename_i d hd
      exact hx_rep0 hd r4 (Post.ext p (g2.trans g') l')
    · exact p.elim
  | exc c fs b =>
    rw [e] at p
    intro G' ρ' H' dd g' l' r' q'
    have r4 := r2.after (x1.trans (r'.aft rfl rfl))
    dsimp only at p
    split at p
    · rename_i d hd
      exact hW_of hsub q' r4 hd (Post.ext p (g2.trans g') l')
    · exact p.elim
theorem px_lam {sub : Nat → Nat → Option Bool} (caps : List Nat) {hs : List HC} {x0 : HX} {m : M D} {x a : Str} {g c P : Addr} {k : Nat} {pg : Arguments} {bg : List Stmt} {sg : Scope} {fd : FuncData} {Ng : List Str} {params : Arguments} {body : Expr} {scope : Scope} {p lpos pos : Pos}
    (hsub : ∀ c k b, sub c k = some b → PySem.W.exmOne X.K (.ref (T.C c)) (.ref (T.C k)) = some b) (hm : X.mg x = some (.ref g)) (F : FunD X.K x x pg bg sg [] [] g fd) (hb : Binds X.K fd [a] []) (Sg : FnScope Ng [a] sg) (hG : ∀ cdg, LamX.GivesTo X Ng x sg g cdg bg a (X.env.qual ++ "<lambda>") (TTS X.K T hs x0))
    (TB : LamX.TabB X.base X.mg c P) (hcode : X.env.code = .ref c) (hmT : (P, X.env.qual ++ "<lambda>") ∈ T.tabs) (hu : ∀ p ∈ T.tabs, p.1 = P → p.2 = X.env.qual ++ "<lambda>") (hr : Room (k + 2) X.A)
    (hbody : ∀ (A : Around) (outer : List Env) (s : Shared) (H : Hp) (E : XK) (f c' : Addr), Room k (A.deeper (LamX.lamEnv X scope s.heap.objs.size f c')) → PE (LamX.lamCx X A outer s H E scope f c') body (tE X.K T (fun cls d _ H => E cls d H) m))
    (L : LamX.LamS X.env.scope scope := by exact LamX.lamS_by (by kernel_rfl)) (hNg : Ng[0]? = some a := by rfl) (hva : Vis sg a := by first | exact Or.inl rfl | exact Or.inr (Or.inl rfl)) (hg : Gl X x := by rfl) (hdef : defaultsOf params X.env = ([], []) := by rfl)
    (hbind : ∀ (q : Str) (cl : List (Str × Addr)) (pm cv ctv : Value), bindArgs (PySem.W.kla_fn "<lambda>" q params body scope cl pm cv ctv) ⟨[], []⟩ = pure [] := by intros; rfl)
    (hdb : (x == ("__debug__" : Str)) = false := by decide) (hd : (a == ("__debug__" : Str)) = false := by decide) (hcd : (a == ("__classdict__" : Str)) = false := by decide) :
    PE X (.Call (.Name x p) [.Lambda params body scope lpos] [] pos) (tE X.K T W (lamM sub caps hs x0 m)) := by
  obtain ⟨oc, od, dV, kV, doc, pm, an, cdv, ct, osl, rfl, lk, hcd', _, _⟩ := F.ex
  exact PE.imp (LamX.pe_lamcall hg hm F.kp lk hcd' hb Sg hNg hva (hG cdv) TB hcode hmT hu hr L hdef hbind hbody hdb hd hcd) fun σ H Q h => lam_read hsub h
end
end PL

namespace PL
open PySem PySem.Spec PyProof.Rows L2
def oexB (K : PySem.W.Frag) (C : Addr) : Bool := (match K.lookup C with
  | some ⟨.type "type", _, .cls cd, sl⟩ => (match cd.mro, sl.toList with
    | .ref C' :: bm, [_, _, _, _, some (.builtin n), _] => C' == C && (n == "ValueError.__new__" && (cd.hasDict && (!cd.hasDel && PySem.HandSPX.refsVE bm)))
    | _, _ => false)
  | _ => false) && (He.eqO (PySem.W.findIn K (.ref C) "__setattr__") (some (some (.builtin "object.__setattr__"))) && (decide (PySem.W.subIn K (.ref C) (.type "BaseException") = some true) && (decide (PySem.W.typeIn K (.ref C) = some (.type "type")) && PySem.W.keepIn K (.ref C))))
theorem oexB_ok {K : PySem.W.Frag} {C : Addr} (h : oexB K C = true) : OexC K C := by
  obtain ⟨h1, h⟩ := He.ba h
  obtain ⟨h2, h⟩ := He.ba h
  obtain ⟨h3, h⟩ := He.ba h
  obtain ⟨h4, h5⟩ := He.ba h
  refine ⟨?_, He.eqO_ok h2, of_decide_eq_true h3, of_decide_eq_true h4, h5⟩
  split at h1
  · rename_i dd cd sl ho
    split at h1
    · rename_i C' bm k0 k1 k2 k3 n k5 hm hs
      simp only [Bool.and_eq_true, beq_iff_eq, Bool.not_eq_true'] at h1
      obtain ⟨rfl, rfl, hd, hdel, hr⟩ := h1
      obtain ⟨nm, bs, mro, ns, qn, hd', sn, sub, ab, col, del⟩ := cd
      dsimp only at hm hdel hd
      subst hm hdel hd
      have hsl : sl = #[k0, k1, k2, k3, some (.builtin "ValueError.__new__"), k5] := by
        obtain ⟨l⟩ := sl
        simp only at hs
        rw [hs]
      subst hsl
      exact ⟨nm, qn, ns, bs, bm, sn, sub, ab, col, dd, k0, k1, k2, k3, k5, ho, hr⟩
    · cases h1
  · cases h1
def exkB (K : PySem.W.Frag) (x : Str) (fs : List Str) : Bool := oexB K (He.ga K x) && fs.all fun f => He.eqO (PySem.W.findIn K (.ref (He.ga K x)) f) (some none)
theorem exkB_ok {P : Program} {w : World} {K : PySem.W.Frag} {mg : Str → Option Value} {base : Heap} {x : Str} {k : Nat} {fs ps : List Str} {fd : FuncData} (h : exkB K x fs = true) (hm : Meth K (He.ga K x) "__init__" (He.fAd K (x, some "__init__"))) (F : FnOk P w K mg base (CX P w) k (He.fAd K (x, some "__init__")) fd ps (spI K fs)) (hb : Binds K fd ps []) : ExK P w K mg base (He.ga K x) k fs := by
  obtain ⟨h1, h2⟩ := He.ba h
  exact ⟨oexB_ok h1, fun f hf => He.eqO_ok (List.all_eq_true.mp h2 f hf), _, fd, ps, hm.at_, beq_iff_eq.mp hm.fn, F, hb⟩
def subX (lo hi b : Nat) (c k : Nat) : Option Bool := if lo ≤ c ∧ c < hi ∧ lo ≤ k ∧ k < hi then some (c == k || k == b) else none
def subB (K : PySem.W.Frag) (xs : List Str) (lo hi b : Nat) : Bool := (List.range hi).all fun c => (List.range hi).all fun k => match subX lo hi b c k with
  | some y => decide (PySem.W.exmOne K (.ref (He.ga K (xs.getD c Str.empty))) (.ref (He.ga K (xs.getD k Str.empty))) = some y)
  | none => true
theorem subB_ok {K : PySem.W.Frag} {xs : List Str} {lo hi b n : Nat} {fls : List (List Str)} {ts : List (Addr × Str)} (h : subB K xs lo hi b = true) (c k : Nat) (y : Bool) (e : subX lo hi b c k = some y) : PySem.W.exmOne K (.ref ((mkT K xs n fls ts).C c)) (.ref ((mkT K xs n fls ts).C k)) = some y := by
  have hr : c < hi ∧ k < hi := by
    unfold subX at e
    split at e
    · omega
    · cases e
  have h2 := List.all_eq_true.mp (List.all_eq_true.mp h c (List.mem_range.mpr hr.1)) k (List.mem_range.mpr hr.2)
  rw [e] at h2
  exact of_decide_eq_true h2
def fldB (K : PySem.W.Frag) (x : Str) (fs : List Str) : Bool := xfB K (He.ga K x) && fs.all fun f => He.eqO (PySem.W.findIn K (.ref (He.ga K x)) f) (some none)
theorem fldB_x {K : PySem.W.Frag} {x : Str} {fs : List Str} (h : fldB K x fs = true) : XfC K (He.ga K x) := xfB_ok (He.ba h).1
theorem fldB_f {K : PySem.W.Frag} {x f : Str} {fs : List Str} (h : fldB K x fs = true) (hf : f ∈ fs) : PySem.W.findIn K (.ref (He.ga K x)) f = some none := He.eqO_ok (List.all_eq_true.mp (He.ba h).2 f hf)

def codeAt (K : PySem.W.Frag) (f : Addr) : Addr := match K.lookup f with
  | some ⟨_, _, .func fd, _⟩ => (match fd.code with | .ref c => c | _ => 0)
  | _ => 0
def tabAt (K : PySem.W.Frag) (c : Addr) : Addr := match K.lookup c with
  | some ⟨_, _, .fields vs, _⟩ => (match (vs[11]? : Option Value) with | some (.ref P) => P | _ => 0)
  | _ => 0
def cP (K : PySem.W.Frag) (at_ : Str × Option Str) : Addr × Addr := (codeAt K (He.fAd K at_), tabAt K (codeAt K (He.fAd K at_)))
section
variable {P : Program} {w : World} {K : PySem.W.Frag} {mg : Str → Option Value} {base : Heap} {T : Tab} {x qual : Str} {params : Arguments} {body : List Stmt} {scope : Scope} {dvs : List V} {kws : List (Str × V)} {f : Addr} {fd : FuncData}
theorem fn_okC {N ps : List Str} {k : Nat} {m : M Fl} (F : FunD K x qual params body scope dvs kws f fd) (S : FnScope N ps scope)
    (hb : ∀ (cdv : Value) (A : Around) (outer : List Env) (s : Shared) (H : Hp) (Ex : XK), cdv = .ref (codeAt K f) → Room k (A.deeper (envOfC qual scope s.heap.objs.size f cdv)) →
      PSs (cxOf (CX P w) P w K mg base N qual scope f cdv A outer s H Ex) body (tS K T (fun cls d _ H => Ex cls d H) m)) :
    FnOk P w K mg base (CX P w) (k + 1) f fd ps (spM K T ps.length (mkF N.length m)) := by
  obtain ⟨oc, od, dV, kV, doc, pm, an, cdv, ct, osl, rfl, lk, hcd, _, _⟩ := F.ex
  have hc : cdv = .ref (codeAt K f) := by
    cases cdv with
    | ref c =>
      unfold codeAt
      rw [lk] <;> rfl
    | _ => cases hcd
  refine fn_of lk hcd S (fun vs H Q Ex ⟨G, ρ, ds, st, s, q, hl, _⟩ => by rw [q.len, hl]) fun A outer s H vs Q Ex hr ⟨G, ρ, ds, st, hs, q, hl, p⟩ => ?_
  refine ⟨_, hb cdv A outer s H Ex hc hr, ⟨⟨nt H, G, ρ, none⟩, G, ρ, fram N.length ds st, ?_, ?_⟩⟩
  · refine AR.start hs q ?_
    have := congrArg List.length S.pre
    rw [List.length_take] at this
    omega
  · unfold mkF at p
    cases e : m (fram N.length ds st) with
    | stuck => rw [e] at p; exact p.elim
    | exc c fs a1 => rw [e] at p; exact fun G1 ρ1 σ1 H1 dd g1 l1 r1 q1 => p G1 ρ1 H1 dd (r1.aft rfl rfl) q1
    | ok fl a1 =>
      rw [e] at p
      cases fl with
      | nx => exact fun G1 ρ1 σ1 H1 g1 l1 r1 => p G1 ρ1 H1 .non (r1.aft rfl rfl) to_non
      | ret d => exact fun G1 ρ1 σ1 H1 v g1 l1 r1 q1 => p G1 ρ1 H1 v (r1.aft rfl rfl) q1
      | bk => exact p.elim
      | ct => exact p.elim
end
section
variable {X : Cx} {T : Tab} {W : WX}
theorem px_dic {pos : Pos} : PE X (.Dict [] [] pos) (tE X.K T W (ret .dic)) := by
  refine PE.imp pe_dnewK fun σ H Q ⟨E, G, ρ, a, r, p⟩ q hq => ?_
  refine Post.laid p r hq ?_
  unfold Rep
  exact ⟨q, rfl, upd_same⟩
theorem takes_lam {A : Around} {outer : List Env} {s : Shared} {H : Hp} {E : XK} {scope : Scope} {f c' : Addr} : Takes (LamX.lamCx X A outer s H E scope f c') (fun cls d _ H => E cls d H) := takes_of rfl rfl rfl rfl
end
abbrev TBs (mks : List ((Str × Option Str) × Str)) (K : PySem.W.Frag) (mg : Str → Option Value) (base : Heap) : Prop := ∀ p ∈ mks, LamX.TabB base mg (cP K p.1).1 (cP K p.1).2
def tabL (mks : List ((Str × Option Str) × Str)) (K : PySem.W.Frag) : List (Addr × Str) := mks.map fun p => ((cP K p.1).2, p.2)
def tabsB (mks : List ((Str × Option Str) × Str)) (K : PySem.W.Frag) : Bool := (tabL mks K).all fun p => (tabL mks K).all fun q => (p.1 != q.1) || p.2 == q.2
theorem tab_mem {mks : List ((Str × Option Str) × Str)} {K : PySem.W.Frag} (i : Nat) {p : Str × Option Str} {q : Str} (h : mks[i]? = some (p, q)) : ((cP K p).2, q) ∈ tabL mks K := List.mem_map.mpr ⟨(p, q), List.mem_of_getElem? h, rfl⟩
theorem tab_one {mks : List ((Str × Option Str) × Str)} {K : PySem.W.Frag} (h : tabsB mks K = true) (i : Nat) {p : Str × Option Str} {q : Str} (e : mks[i]? = some (p, q)) : ∀ y ∈ tabL mks K, y.1 = (cP K p).2 → y.2 = q := fun y hy e2 => by
  have z := List.all_eq_true.mp (List.all_eq_true.mp h y hy) _ (tab_mem i e)
  simp only [Bool.or_eq_true, bne_iff_ne, ne_eq, beq_iff_eq] at z
  rcases z with z | z
  · exact absurd e2 z
  · exact z
end PL

namespace PL.Hd
open PySem PySem.W PySem.Calls PyProof.Rows
theorem lookup_out {l : List (Addr × Obj)} {ts : List Addr} {a : Addr} {o : Obj} : (l.filter fun x => !ts.contains x.1).lookup a = some o → l.lookup a = some o := by
  induction l with
  | nil => exact fun h => h
  | cons x r ih =>
    obtain ⟨b, u⟩ := x
    intro h
    rw [List.filter_cons] at h
    rw [List.lookup_cons]
    cases e : (a == b) with
    | true =>
      dsimp only
      split at h
      · rw [List.lookup_cons, e] at h
        exact h
      · rename_i hb
        have : a = b := beq_iff_eq.mp e
        subst this
        exfalso
        have key : ∀ l : List (Addr × Obj), (l.filter fun x => !ts.contains x.1).lookup a = none := fun l => by
          induction l with
          | nil => rfl
          | cons y l ih2 =>
            rw [List.filter_cons]
            split
            · rename_i hy
              rw [List.lookup_cons]
              cases e3 : (a == y.1) with
              | true => rw [← beq_iff_eq.mp e3] at hy; exact absurd hy hb
              | false => exact ih2
            · exact ih2
        rw [key r] at h
        cases h
    | false =>
      dsimp only
      split at h
      · rw [List.lookup_cons, e] at h
        exact ih h
      · exact ih h
theorem in_out {K K' : Frag} {ts : List Addr} {h : Heap} (e : K' = K.filter fun x => !ts.contains x.1) (X : K.In h) : K'.In h := fun a o z => X a o (lookup_out (ts := ts) (by rw [← e]; exact z))
def endB (KF K : Frag) (mks : List ((PySem.Str × Option PySem.Str) × PySem.Str)) : Bool := mks.all fun p => codeHdIn K (PL.cP K p.1).1 (PL.cP K p.1).2 && ((match KF.lookup (PL.cP K p.1).2 with | some o => He.emptyTab o | none => false) && (K.lookup (PL.cP K p.1).2).isNone)
section
variable {KF K : Frag} {mks : List ((PySem.Str × Option PySem.Str) × PySem.Str)} {h : Heap}
def csL (K : Frag) (mks : List ((PySem.Str × Option PySem.Str) × PySem.Str)) : List (Addr × Addr) := mks.map fun p => PL.cP K p.1
theorem end_hT (X : KF.In h) (e : endB KF K mks = true) : ∀ p ∈ csL K mks, h.get? p.2 = some { cls := .none, data := .fields #[] } := fun p hp => by
  obtain ⟨y, hy, rfl⟩ := List.mem_map.mp hp
  obtain ⟨_, e2⟩ := He.ba (List.all_eq_true.mp e y hy)
  obtain ⟨e3, _⟩ := He.ba e2
  split at e3
  · rename_i o q
    rw [X _ _ q, He.emptyTab_eq e3]
  · cases e3
theorem end_nT (e : endB KF K mks = true) : ∀ p ∈ csL K mks, K.lookup p.2 = none := fun p hp => by
  obtain ⟨y, hy, rfl⟩ := List.mem_map.mp hp
  obtain ⟨_, e2⟩ := He.ba (List.all_eq_true.mp e y hy)
  exact Option.isNone_iff_eq_none.mp (He.ba e2).2
theorem end_C (X : K.In h) (e : endB KF K mks = true) : ∀ p ∈ csL K mks, CodeHd h p.1 p.2 := fun p hp => by
  obtain ⟨y, hy, rfl⟩ := List.mem_map.mp hp
  exact codeHd_of_K X (He.ba (List.all_eq_true.mp e y hy)).1
theorem end_TB {mg : PySem.Str → Option Value} {base : Heap} (t : ∀ p ∈ csL K mks, LamX.TabB base mg p.1 p.2) : PL.TBs mks K mg base := fun p hp => t _ (List.mem_map.mpr ⟨p, hp, rfl⟩)
theorem end_tabs {H : L2.Hp} (t : ∀ p ∈ csL K mks, H p.2 = some (.tbl #[])) : ∀ p ∈ PL.tabL mks K, LamX.TabS H p.1 p.2 := fun p hp => by
  obtain ⟨y, hy, rfl⟩ := List.mem_map.mp hp
  exact LamX.TabS.nil (t _ (List.mem_map.mpr ⟨y, hy, rfl⟩))
end
end PL.Hd

namespace PySem.SeqAt
open AutoSeq1 (wpAny_loadPart')
open MeetsSeq
section
variable {A : Around} {s : Shared}
theorem str_no_dict (b : Str) (u : Tok) (l : Addr) (es : Array DictEntry) (n : Nat) (dd : Option Addr) (sl : Array (Option Value)) :
    Meets (Builtin.«str.__eq__» ⟨[.str b u, .ref l], []⟩) (fun _ R s => s.heap.get? l = some { cls := .type "dict", dict := dd, data := .dict es n, slots := sl } ∧ R (.ok (.ret .notImplemented)) s) :=
  .of_wp fun prog w A R s h => by obtain ⟨hp, g, d, tk, os⟩ := s; obtain ⟨hl, k⟩ := h; wp_walk using wpAny_loadPart' hl, wpAny_load hl; exact ⟨_, rfl, k⟩
theorem dict_no_str (b : Str) (u : Tok) (l : Addr) (es : Array DictEntry) (n : Nat) (dd : Option Addr) (sl : Array (Option Value)) :
    Meets (Builtin.«dict.__eq__» ⟨[.ref l, .str b u], []⟩) (fun _ R s => s.heap.get? l = some { cls := .type "dict", dict := dd, data := .dict es n, slots := sl } ∧ R (.ok (.ret .notImplemented)) s) :=
  .of_wp fun prog w A R s h => by obtain ⟨hp, g, d, tk, os⟩ := s; obtain ⟨hl, k⟩ := h; wp_walk using wpAny_loadPart' hl, wpAny_load hl; refine wpAny_of_eq F.sub_str_dict ?_; wp_walk; exact ⟨_, rfl, k⟩
theorem EqAt.str_dict {l : Addr} {es : Array DictEntry} {n : Nat} {dd : Option Addr} {sl : Array (Option Value)} (b : Str) (u : Tok) (ho : s.heap.get? l = some { cls := .type "dict", dict := dd, data := .dict es n, slots := sl }) (hu : A.units < cLine) : EqAt A s (.str b u) (.ref l) false := fun prog w E Q h => by
  unfold eqBool
  refine wpAny_holding (wpAny_ite_split (fun hab => absurd (eq_of_beq hab) nofun) fun _ => wpAny_bind ?_)
  exact rc_eq_decline_or (k := false) (typeIs_str s b u) ⟨_, ho, rfl⟩ (by decide) F.sub_dict_str F.slot_str_eq F.slot_dict_eq_refl (fun _ hq => call_meets F.slot_str_eq (typeIs_str s b u) F.entry_str_eq (F.args_str_eq_2 _ _) (str_no_dict b u l es n dd sl) ⟨ho, hq⟩)
    (fun _ hq => call_meets F.slot_dict_eq_refl ⟨_, ho, rfl⟩ F.entry_dict_eq (F.args_dict_eq_2 _ _) (dict_no_str b u l es n dd sl) ⟨ho, hq⟩) (fun _ hq => wpAny_of_eq (rfl : isSame (.str b u) (.ref l) = pure false) hq) (.inr hu) (wpAny_truthy_bool h)
end
end PySem.SeqAt
namespace PL
open PySem PySem.Spec PyProof.Rows L2
def D.isStr : D → Bool
  | .str _ => true
  | _ => false
def inD (x c : D) : Option Bool := match x, c with
  | .dic, .tup ys => if ys.all D.isStr = true then some false else none
  | x, c => inM x c
def notInD (x c : D) : Option Bool := (inD x c).map (!·)
def rDicP (K : PySem.W.Frag) (b : Bool) : R2 := fun x y H Q => ∃ (a c : Addr) (xs : List V), x = .ref a ∧ H a = some (.dK []) ∧ y = .ref c ∧ SqT K H c xs ∧ (∀ v ∈ xs, ∃ z, v = .str z) ∧ Q (.bl b) H
section
variable {X : Cx} {T : Tab} {G : Hp} {ρ : List Addr}
theorem paired_at {α β : Type} {R : α → β → Prop} {y : β} : ∀ {xs : List α} {its : List β}, Paired R xs its → y ∈ its → ∃ v, v ∈ xs ∧ R v y
  | _, _, .nil, h => by cases h
  | _, _, .cons r t, h => by
    rcases List.mem_cons.mp h with rfl | h
    · exact ⟨_, .head _, r⟩
    · obtain ⟨v, h1, h2⟩ := paired_at t h
      exact ⟨v, .tail _ h1, h2⟩
theorem dic_items {pins : List (Addr × Obj)} {σ : L2.St} {H : Hp} {s : Shared} {a c : Addr} {xs : List V} (hu : X.A.units + 64 < cLine) (I : Inv X pins σ H s) (ha : H a = some (.dK [])) (hc : SqT X.K H c xs) (hs : ∀ v ∈ xs, ∃ z, v = .str z) :
    ∃ its : Array Value, s.heap.IsTuple c its ∧ ∀ y, y ∈ its → PySem.SeqAt.EqAt X.A.in1 s y (.ref a) false := by
  obtain ⟨its, r, t, _⟩ := I.tuple hc
  obtain ⟨_, _, vs, _, o, es, ep, e, ⟨c1, c2, c3⟩, d, _⟩ := I.hok a _ ha
  obtain ⟨oc, od, dt, sl⟩ := o
  simp only at c1 c2 c3 d
  subst c1 c2 c3 d
  refine ⟨its.toArray, t, fun y hy => ?_⟩
  obtain ⟨v, hv, rv⟩ := paired_at r (show y ∈ its by simpa using hy)
  obtain ⟨z, rfl⟩ := hs v hv
  obtain ⟨tk, rfl⟩ := (show ∃ tk, y = Value.str z tk from rv)
  exact PySem.SeqAt.EqAt.str_dict z tk e (show X.A.units + 1 < cLine by omega)
theorem any_no (its : Array Value) : (its.any fun _ => false) = false := by
  cases e : its.any fun _ => false with
  | false => rfl
  | true =>
    obtain ⟨_, _, z⟩ := Array.any_eq_true.mp e
    exact absurd z Bool.false_ne_true
theorem op_inQ (hu : X.A.units + 64 < cLine) : OpR X (compareOp .In) fun x y H Q => rInP X.K false x y H Q ∨ rDicP X.K false x y H Q := by
  intro pins s σ H x y v u Q I rx ry h
  rcases h with h | ⟨a, c, xs, rfl, ha, rfl, hc, hs, q⟩
  · exact op_inP hu pins s σ H x y v u Q I rx ry h
  · cases rx
    cases ry
    obtain ⟨its, h1, h2⟩ := dic_items hu I ha hc hs
    exact PySem.SeqAt.in_tupleAt (fun _ => false) h1 h2 ⟨.bl _, H, I, rfl, by rw [any_no]; exact q⟩
theorem op_notInQ (hu : X.A.units + 64 < cLine) : OpR X (compareOp .NotIn) fun x y H Q => rInP X.K true x y H Q ∨ rDicP X.K true x y H Q := by
  intro pins s σ H x y v u Q I rx ry h
  rcases h with h | ⟨a, c, xs, rfl, ha, rfl, hc, hs, q⟩
  · exact op_notInP hu pins s σ H x y v u Q I rx ry h
  · cases rx
    cases ry
    obtain ⟨its, h1, h2⟩ := dic_items hu I ha hc hs
    exact PySem.SeqAt.notIn_tupleAt (fun _ => false) h1 h2 ⟨.bl _, H, I, rfl, by rw [any_no]; exact q⟩
theorem strs_of {K : PySem.W.Frag} {T : Tab} {G : Hp} {ρ : List Addr} : ∀ {ys : List D} {vs : List V}, ys.all D.isStr = true → RepL K T G ρ ys vs → ∀ v ∈ vs, ∃ z, v = .str z
  | [], _, _, h => by rw [h.inv0]; exact fun _ z => nomatch z
  | y :: ys, _, e, h => by
    obtain ⟨v, r, rfl, h1, h2⟩ := h.inv
    rw [List.all_cons, Bool.and_eq_true] at e
    intro w hw
    rcases List.mem_cons.mp hw with rfl | hw
    · cases y with
      | str z => unfold Rep at h1; exact ⟨z, h1⟩
      | _ => cases e.1
    · exact strs_of e.2 h2 w hw
theorem inD_read {neg : Bool} {x y : D} {b : Bool} (e : inD x y = some b) {H : Hp} {v w : V} {Q : VK} (g : ∀ b o, G b = some o → H b = some o) (r1 : Rep X.K T G ρ x v) (r2 : Rep X.K T G ρ y w) (q : Q (.bl (if neg then !b else b)) H) : rInP X.K neg v w H Q ∨ rDicP X.K neg v w H Q := by
  unfold inD at e
  split at e
  · split at e
    · rename_i ys hs
      cases e
      unfold Rep at r1 r2
      obtain ⟨a, rfl, ha⟩ := r1
      obtain ⟨c, xs, rfl, hc, hx⟩ := r2
      exact .inr ⟨a, c, xs, rfl, g _ _ ha, rfl, (TupR.ge hc g).sq, strs_of hs hx, by cases neg <;> exact q⟩
    · cases e
  · exact .inl (in_read e g r1 r2 q)
theorem cm_inD (hu : X.A.units + 64 < cLine) : CmpR X T .In inD := ⟨_, op_inQ hu, fun x y b e G ρ H v w Q g r1 r2 q => inD_read e g r1 r2 q⟩
theorem cm_notInD (hu : X.A.units + 64 < cLine) : CmpR X T .NotIn notInD := ⟨_, op_notInQ hu, fun x y b e G ρ H v w Q g r1 r2 q => by
  unfold notInD at e
  cases e2 : inD x y with
  | none => rw [e2] at e; cases e
  | some k => rw [e2] at e; cases e; exact inD_read e2 g r1 r2 q⟩
def eqE (x y : D) : Option Bool := match x, y with
  | .tup (_ :: _), .tup [] => some false
  | x, y => eqM x y
def rNilP (K : PySem.W.Frag) : R2 := fun x y H Q => ∃ (a c : Addr) (xs : List V), x = .ref a ∧ y = .ref c ∧ SqT K H a xs ∧ xs ≠ [] ∧ SqT K H c [] ∧ Q (.bl false) H
theorem op_eqE (hu : X.A.units + 64 < cLine) : OpR X (compareOp .Eq) fun x y H Q => (∃ d e, Dp X.K H x d ∧ Dp X.K H y e ∧ d.plain = true ∧ e.plain = true ∧ min d.depth e.depth ≤ 60 ∧ Q (.bl (PyData.eqv d e)) H) ∨ rNilP X.K x y H Q := by
  intro pins s σ H x y v u Q I rx ry h
  rcases h with h | ⟨a, c, xs, rfl, rfl, ha, hn, hc, q⟩
  · exact op_eqP hu pins s σ H x y v u Q I rx ry h
  · cases rx
    cases ry
    obtain ⟨its, r, t, _⟩ := I.tuple ha
    obtain ⟨its2, r2, t2, _⟩ := I.tuple hc
    cases r2
    refine PySem.SeqAt.eq_tupleAt (e := fun _ => false) t t2 (by omega) (fun j h1 h2 => absurd h2 (Nat.not_lt_zero _)) ⟨.bl _, H, I, rfl, ?_⟩
    cases r with
    | nil => exact absurd rfl hn
    | cons _ _ => simpa using q
theorem cm_eqE (hu : X.A.units + 64 < cLine) : CmpR X T .Eq eqE := ⟨_, op_eqE hu, fun x y b e G ρ H v w Q g r1 r2 q => by
  unfold eqE at e
  split at e
  · cases e
    unfold Rep at r1 r2
    obtain ⟨a, xs, rfl, ha, hx⟩ := r1
    obtain ⟨c, ys, rfl, hc, hy⟩ := r2
    obtain ⟨_, _, rfl, _, _⟩ := hx.inv
    rw [hy.inv0] at hc
    exact .inr ⟨a, c, _, rfl, rfl, (TupR.ge ha g).sq, List.cons_ne_nil _ _, (TupR.ge hc g).sq, q⟩
  · unfold eqM at e
    split at e
    · rename_i h
      obtain ⟨p1, p2, p3⟩ := eq_parts h
      cases e
      exact .inl ⟨_, _, Rep.dp g x v p1 r1, Rep.dp g y w p2 r2, plain_toPy x p1, plain_toPy y p2, p3, q⟩
    · cases e⟩
end
end PL

namespace PL
open PySem
def noOwn : List Slot → Bool
  | [] => true
  | .val _ :: r => noOwn r
  | .emp :: r => noOwn r
  | _ :: _ => false
@[simp] theorem noOwn_nil : noOwn [] = true := by decide
@[simp] theorem noOwn_val (d : D) (r : List Slot) : noOwn (.val d :: r) = noOwn r := by cases r <;> rfl
@[simp] theorem noOwn_emp (r : List Slot) : noOwn (.emp :: r) = noOwn r := by cases r <;> rfl
theorem noOwn_get : ∀ {sl : List Slot} {i : Nat} {s : Slot}, noOwn sl = true → sl[i]? = some s → hide1 s = s
  | [], i, s, _, e => by simp at e
  | .val d :: r, 0, s, h, e => by simp at e; subst e; rfl
  | .emp :: r, 0, s, h, e => by simp at e; subst e; rfl
  | .val d :: r, i + 1, s, h, e => noOwn_get (sl := r) (i := i) h (by simpa using e)
  | .emp :: r, i + 1, s, h, e => noOwn_get (sl := r) (i := i) h (by simpa using e)
  | .own _ :: r, _, s, h, e => by cases h
  | .obj _ _ :: r, _, s, h, e => by cases h
theorem hide_set (j : Nat) (sl : List Slot) (h : noOwn sl = true) : hideL [j] sl = sl.set j .emp := by
  apply List.ext_getElem?
  intro i
  unfold hideL
  rw [List.getElem?_mapIdx, List.getElem?_set]
  by_cases hij : j = i
  · subst hij
    cases e : sl[j]? with
    | none =>
      have : ¬ j < sl.length := fun z => by rw [List.getElem?_eq_getElem z] at e; cases e
      simp [this]
    | some s =>
      have : j < sl.length := (List.getElem?_eq_some_iff.mp e).1
      simp [this]
  · have hc : [j].contains i = false := by simp [Ne.symm hij]
    rw [if_neg hij]
    cases e : sl[i]? with
    | none => rfl
    | some s => simp only [Option.map_some, hc, Bool.false_eq_true, if_false, noOwn_get h e]
theorem hide_nil (sl : List Slot) (h : noOwn sl = true) : hideL [] sl = sl := by
  apply List.ext_getElem?
  intro i
  unfold hideL
  rw [List.getElem?_mapIdx]
  cases e : sl[i]? with
  | none => rfl
  | some s => simp only [Option.map_some, List.contains_nil, Bool.false_eq_true, if_false, noOwn_get h e]
def lcE (sl : List Slot) : Out (List D) → Out (List D)
  | .ok acc b => .ok acc ⟨sl, b.st⟩
  | _ => .stuck
def lcK (vs : List Nat) (t : TgM) (test : M Bool) (elt : M D) (ds : List D) (a : AS) : Out (List D) := lcE a.sl (lcL t test elt (hideL vs a.sl) ds a.st [])
@[simp] theorem lcE_ok (sl : List Slot) (acc : List D) (b : AS) : lcE sl (.ok acc b) = .ok acc ⟨sl, b.st⟩ := rfl
@[simp] theorem x_lc (vs : List Nat) (mi : M (List D)) (t : TgM) (test : M Bool) (elt : M D) (a : AS) : lcM vs mi t test elt a = (mi a).bind (lcK vs t test elt) := by
  unfold lcM bd
  cases mi a with
  | stuck => rfl
  | exc c fs b => rfl
  | ok ds b =>
    show (match lcL t test elt (hideL vs b.sl) ds b.st [] with | .ok acc b' => .ok acc { b with st := b'.st } | _ => .stuck) = lcE b.sl (lcL t test elt (hideL vs b.sl) ds b.st [])
    cases lcL t test elt (hideL vs b.sl) ds b.st [] <;> rfl
@[simp] theorem lcK_1 (j : Nat) (t : TgM) (test : M Bool) (elt : M D) (ds : List D) (sl : List Slot) (st : List Cell) (h : noOwn sl = true) : lcK [j] t test elt ds ⟨sl, st⟩ = lcE sl (lcL t test elt (sl.set j .emp) ds st []) := by
  unfold lcK
  rw [hide_set j sl h]
def lcC (t : TgM) (test : M Bool) (elt : M D) (sl : List Slot) (ds : List D) (acc : List D) : Out D → Out (List D)
  | .ok y b => if acc.length < 100000 then lcL t test elt sl ds b.st (acc ++ [y]) else .stuck
  | _ => .stuck
def lcB (t : TgM) (test : M Bool) (elt : M D) (sl : List Slot) (ds : List D) (acc : List D) : Out Bool → Out (List D)
  | .ok true b => lcC t test elt sl ds acc (elt b)
  | .ok false b => lcL t test elt sl ds b.st acc
  | _ => .stuck
def lcT (t : TgM) (test : M Bool) (elt : M D) (sl : List Slot) (ds : List D) (acc : List D) : Option AS → Out (List D)
  | none => .stuck
  | some b => lcB t test elt sl ds acc (test b)
theorem x_lcc (t : TgM) (test : M Bool) (elt : M D) (sl : List Slot) (d : D) (ds : List D) (st : List Cell) (acc : List D) : lcL t test elt sl (d :: ds) st acc = lcT t test elt sl ds acc (t d ⟨sl, st⟩) := by
  rw [lcL]
  unfold lcT
  cases t d ⟨sl, st⟩ with
  | none => rfl
  | some b =>
    dsimp only
    unfold lcB
    cases test b with
    | stuck => rfl
    | exc c fs b => rfl
    | ok x b1 => cases x with
      | false => rfl
      | true =>
        dsimp only
        unfold lcC
        cases elt b1 <;> rfl
@[simp] theorem x_lcn (t : TgM) (test : M Bool) (elt : M D) (sl : List Slot) (st : List Cell) (acc : List D) : lcL t test elt sl [] st acc = .ok acc ⟨[], st⟩ := rfl
@[simp] theorem lcT_some (t : TgM) (test : M Bool) (elt : M D) (sl : List Slot) (ds acc : List D) (b : AS) : lcT t test elt sl ds acc (some b) = lcB t test elt sl ds acc (test b) := rfl
@[simp] theorem lcB_t (t : TgM) (test : M Bool) (elt : M D) (sl : List Slot) (ds acc : List D) (b : AS) : lcB t test elt sl ds acc (.ok true b) = lcC t test elt sl ds acc (elt b) := rfl
@[simp] theorem lcB_f (t : TgM) (test : M Bool) (elt : M D) (sl : List Slot) (ds acc : List D) (b : AS) : lcB t test elt sl ds acc (.ok false b) = lcL t test elt sl ds b.st acc := rfl
@[simp] theorem lcC_ok (t : TgM) (test : M Bool) (elt : M D) (sl : List Slot) (ds acc : List D) (y : D) (b : AS) (h : acc.length < 100000) : lcC t test elt sl ds acc (.ok y b) = lcL t test elt sl ds b.st (acc ++ [y]) := if_pos h
@[simp] theorem x_yes (a : AS) : yesM a = .ok true a := rfl
@[simp] theorem x_rai (c : Nat) (fs : List Str) (ms : M (List D)) (a : AS) : raiM c fs ms a = (ms a).bind fun ds a => if ds.length = fs.length then .exc c (fs.zip ds).reverse a else .stuck := rfl
def lamR (sl : List Slot) (st : List Cell) : Option D → Out D
  | some d => .ok d ⟨sl, st⟩
  | none => .stuck
def lamB (sub : Nat → Nat → Option Bool) (hs : List HC) (x0 : HX) (sl : List Slot) : Out D → Out D
  | .stuck => .stuck
  | .ok _ b => lamR sl b.st (hxD false [] x0)
  | .exc c fs b => lamR sl b.st (hFind sub c fs hs)
def lamK (sub : Nat → Nat → Option Bool) (hs : List HC) (x0 : HX) (m : M D) (a : AS) : Out D := lamB sub hs x0 a.sl (m ⟨hideL [] a.sl, a.st⟩)
@[simp] theorem x_lam (sub : Nat → Nat → Option Bool) (caps : List Nat) (hs : List HC) (x0 : HX) (m : M D) (a : AS) : lamM sub caps hs x0 m a = lamK sub hs x0 m (frzL caps a) := by
  unfold lamM lamK
  cases m ⟨hideL [] (frzL caps a).sl, (frzL caps a).st⟩ with
  | stuck => rfl
  | ok d b =>
    show _ = lamR (frzL caps a).sl b.st (hxD false [] x0)
    cases hxD false [] x0 <;> rfl
  | exc c fs b =>
    dsimp only [lamB]
    cases hFind sub c fs hs <;> rfl
@[simp] theorem lamK_e (sub : Nat → Nat → Option Bool) (hs : List HC) (x0 : HX) (m : M D) (sl : List Slot) (st : List Cell) (h : noOwn sl = true) : lamK sub hs x0 m ⟨sl, st⟩ = lamB sub hs x0 sl (m ⟨sl, st⟩) := by
  unfold lamK
  rw [hide_nil sl h]
theorem frz_id (caps : List Nat) (sl : List Slot) (st : List Cell) (h : noOwn sl = true) : frzL caps ⟨sl, st⟩ = ⟨sl, st⟩ := by
  induction caps with
  | nil => rfl
  | cons i l ih =>
    show frzL l (frz1 ⟨sl, st⟩ i) = _
    have : frz1 ⟨sl, st⟩ i = ⟨sl, st⟩ := by
      unfold frz1
      dsimp only
      split
      · rename_i ds e
        have e2 := getD_some e (fun z => nomatch z)
        have := noOwn_get h e2
        cases this
      · rfl
    rw [this]
    exact ih
@[simp] theorem lamK_f (sub : Nat → Nat → Option Bool) (caps : List Nat) (hs : List HC) (x0 : HX) (m : M D) (sl : List Slot) (st : List Cell) (h : noOwn sl = true) : lamK sub hs x0 m (frzL caps ⟨sl, st⟩) = lamB sub hs x0 sl (m ⟨sl, st⟩) := by
  rw [frz_id caps sl st h, lamK_e _ _ _ _ _ _ h]
@[simp] theorem lamB_ok (sub : Nat → Nat → Option Bool) (hs : List HC) (x0 : HX) (sl : List Slot) (d : D) (b : AS) : lamB sub hs x0 sl (.ok d b) = lamR sl b.st (hxD false [] x0) := rfl
@[simp] theorem lamB_exc (sub : Nat → Nat → Option Bool) (hs : List HC) (x0 : HX) (sl : List Slot) (c : Nat) (fs : List (Str × D)) (b : AS) : lamB sub hs x0 sl (.exc c fs b) = lamR sl b.st (hFind sub c fs hs) := rfl
@[simp] theorem lamR_some (sl : List Slot) (st : List Cell) (d : D) : lamR sl st (some d) = .ok d ⟨sl, st⟩ := rfl
end PL

namespace PL
open PySem PySem.Spec PyProof.Rows L2
section
variable {X : Cx} {T : Tab} {W : WX} {k np n : Nat} {f : Addr} {fd : FuncData} {ps ks : List Str} {g : FD} {x : Str} {p pos : Pos} {mk2 : M (List D)} {kws : List Keyword} {ar : List D → List D → List D}
theorem px_callK0 (F : FnOk X.prog X.w X.K X.mg X.base (CX X.prog X.w) k f fd ps (spM X.K T np g)) (hr : Room k X.A) (hm : X.mg x = some (.ref f)) (hkp : PySem.W.keepIn X.K (.ref f) = true) (hb : KBf X.K T fd ps n ks ar) (tk : Takes X W)
    (hkw : PKD X T W kws mk2) (hg : Gl X x := by rfl)
    (hall : (backToKw pos (keywordEach kws X.env)).all (·.1.isSome) = true := by rfl) (hks : (backToKw pos (keywordEach kws X.env)).filterMap (·.1) = ks := by rfl) (hdb : (x == ("__debug__" : Str)) = false := by decide)
    (hpl : ((backTo pos (starEach [] X.env)).any (·.1) || (backToKw pos (keywordEach kws X.env)).any (·.1.isNone)) = false := by rfl) :
    PE X (.Call (.Name x p) [] kws pos) (tE X.K T W (callKM n ks.length ar np g nilM mk2)) := by
  refine ⟨fun pins s σ H Q I h => ?_⟩
  refine wpAny_Call_Name_kw (ld_glob I hg hm ?_ hdb)
  refine PySem.W.callWith_KW0 (h₀ := X.base) I.ok.mod.kin hkp hall ?_ hpl
  refine thn (hkw.run pos pins s σ H (fun zs H2 => ∃ E G ρ a es, AR X.K T E G ρ a σ H2 ∧ RepL X.K T G ρ es zs ∧ Post X.K T W E σ G ρ (Rep X.K T) ((if (([] : List D).length == n && es.length == ks.length) = true then callM np g (ar [] es) else no) a) Q) I ?_) fun ws s2 ⟨zs, H2, I2, rz, E, G, ρ, a, es, r2, q2, p2⟩ => ⟨I2.kIn, ?_⟩
  · refine tX.bind (f := fun es => if (([] : List D).length == n && es.length == ks.length) = true then callM np g (ar [] es) else no) h fun E es a2 G2 ρ2 H2 zs r2 q2 p2 => ?_
    exact ⟨E, G2, ρ2, a2, es, r2, q2, p2⟩
  · rw [hks]
    obtain ⟨gA, gV, B, hv⟩ := hb.ex
    split at p2
    · rename_i hl
      rw [Bool.and_eq_true, beq_iff_eq, beq_iff_eq] at hl
      have l2 : zs.length = ks.length := by rw [q2.len, hl.2]
      have hsp := call_read r2 (hv G ρ [] es [] zs RepL.nil q2) p2
      refine wpAny_call (codeAny_mono (F.run X.A X.stack s2 H2 ⟨[], ks.zip ws⟩ (gA [] ws) (gV [] zs) Q _ hr I2.env0 (B.to s2 [] ws I2.kIn hl.1 (rz.length.symm.trans l2)) (B.rel .nil rz) hsp) fun r s' hq => ?_)
      cases r with
      | error e => exact passAt tk σ pins H2 s2 e s' I2 hq
      | ok fl =>
        cases fl with
        | ret u => exact I2.after hq
        | next => exact False.elim hq
        | brk => exact False.elim hq
        | cont => exact False.elim hq
    · exact p2.elim
end
section
variable {X : Cx} {T : Tab} {W : WX}
def parV2 (i j : Nat) (m : M D) (mb : M (List D)) : M Fl := bd m fun d => bd mb fun ds => fun a => .ok .nx { a with sl := (a.sl.set i (.val d)).set j (.own ds) }
theorem ps_parV2 (i j : Nat) {x y : Str} {a b : Expr} {m : M D} {mb : M (List D)} {px py pt : Pos} {kt k2 pt2 pos} (hij : i ≠ j) (ha : PE X a (tE X.K T W m)) (hb : PE X b (tF X.K T W mb))
    (hps : ∀ ta, PA X [a, b] ta → PS X (.Assign [.Tuple [.Name x px, .Name y py] kt pt] (.Tuple [a, b] k2 pt2) pos) (tPar i j ta))
    (hs : starEach [a, b] X.env = (false, eval a X.env) :: starEach [b] X.env := by rfl) (hs2 : starEach [b] X.env = (false, eval b X.env) :: starEach [] X.env := by rfl) :
    PS X (.Assign [.Tuple [.Name x px, .Name y py] kt pt] (.Tuple [a, b] k2 pt2) pos) (tS X.K T W (parV2 i j m mb)) := by
  refine PS.imp (hps _ (pa_cons ha (pa_cons hb pa_nil hs2) hs)) fun De σ H h => ?_
  refine tS.bind h fun E d a1 G1 ρ1 H1 v r1 q1 p1 => ?_
  refine ⟨E, G1, ρ1, a1, r1, PostS.bindF p1 fun ds a2 G2 ρ2 H2 p vs g2 l2 r2 f hp q2 p2 => ?_⟩
  refine ⟨v, .ref p, rfl, ?_⟩
  have r3 := (r2.setO j f hp q2).setV i (Rep.ge g2 l2 _ _ q1)
  have e1 : ∀ l : List Slot, (l.set j (.own ds)).set i (.val d) = (l.set i (.val d)).set j (.own ds) := fun l => List.set_comm _ _ (Ne.symm hij)
  have e2 : (σ.set j (some (.ref p))).set i (some v) = (σ.set i (some v)).set j (some (.ref p)) := List.set_comm _ _ (Ne.symm hij)
  rw [e2] at r3
  dsimp only at r3
  rw [e1] at r3
  exact p2 G2 ρ2 _ H2 Ge.rfl' (List.prefix_refl _) r3
def parO0 (i j : Nat) (m : M (List D)) : M Fl := bd m fun ds => fun a => .ok .nx { a with sl := (a.sl.set i (.own ds)).set j (.own []) }
theorem ps_parO0 (i j : Nat) {x y : Str} {a : Expr} {m : M (List D)} {px py pt lp : Pos} {kt k2 pt2 pos} (ha : PE X a (tF X.K T W m))
    (hps : ∀ ta, PA X [a, .List [] lp] ta → PS X (.Assign [.Tuple [.Name x px, .Name y py] kt pt] (.Tuple [a, .List [] lp] k2 pt2) pos) (tPar i j ta))
    (hs : starEach [a, .List [] lp] X.env = (false, eval a X.env) :: starEach [.List [] lp] X.env := by rfl) (hs2 : starEach [.List [] lp] X.env = (false, eval (.List [] lp) X.env) :: starEach [] X.env := by rfl) :
    PS X (.Assign [.Tuple [.Name x px, .Name y py] kt pt] (.Tuple [a, .List [] lp] k2 pt2) pos) (tS X.K T W (parO0 i j m)) := by
  refine PS.imp (hps _ (pa_cons ha (pa_cons (pe_lst pa_nil) pa_nil hs2) hs)) fun De σ H h => ?_
  refine tS.bindF h fun E ds a1 G1 ρ1 H1 p vs r1 f hp q1 p1 => ?_
  refine ⟨Nat.zero_le _, fun q hq => ⟨_, _, rfl, ?_⟩⟩
  have npq : p ≠ q := fun z => by rw [z, hq] at hp; cases hp
  have r2 := r1.junk (o := .lst []) hq
  have hp2 : upd H1 q (.lst []) p = some (.lst vs) := by rw [upd_ne npq]; exact hp
  have r3 := r2.setO i f hp2 q1
  obtain ⟨h0, hG, hr⟩ := r1.fresh hq
  have fq : Free X.K T E G1 ρ1 { a1 with sl := a1.sl.set i (.own ds) } (σ.set i (some (.ref p))) q := by
    refine ⟨hG, hr, h0, fun k es e1 e2 => ?_⟩
    by_cases hk : i = k
    · subst hk
      have l2 : i < σ.length := by
        have := (List.getElem?_eq_some_iff.mp e2).1
        simpa using this
      rw [List.getElem?_set_self l2] at e2
      injection e2 with e2
      injection e2 with e2
      injection e2 with e2
      exact npq e2
    · rw [List.getElem?_set_ne hk] at e2
      have e1' : a1.sl[k]? = some (.own es) := by
        have e1 : (a1.sl.set i (.own ds))[k]? = some (.own es) := e1
        rw [List.getElem?_set_ne hk] at e1
        exact e1
      exact (r1.freeOf hq).2.2.2 k es e1' e2
  exact p1 G1 ρ1 _ _ Ge.rfl' (List.prefix_refl _) (r3.setO j fq upd_same RepL.nil)
end
section
variable {X : Cx} {T : Tab}
def sumL (st : List Cell) : List D → Option D
  | [x] => (lstOf st x).bind fun ds => (intsOf ds).bind fun ns => some (.int ns.sum)
  | _ => none
theorem cl_sumL (hc : X.calm = true) : CalR X T (.builtin "sum") sumL := ⟨_, cr_sum hc, fun st xs z e W E G ρ a σ H vs Q hst r q p => by
  subst hst
  unfold sumL at e
  split at e
  · rename_i x
    cases e2 : lstOf a.st x with
    | none => rw [e2] at e; cases e
    | some ds =>
      rw [e2] at e
      simp only [Option.bind_some] at e
      cases e3 : intsOf ds with
      | none => rw [e3] at e; cases e
      | some ns =>
        rw [e3] at e
        simp only [Option.bind_some] at e
        cases e
        obtain ⟨v, ev, q1⟩ := q.one
        obtain ⟨b, us, eb, hR, rl⟩ := r.lst e2 q1
        subst ev eb
        rw [intsOf_eq e3] at rl
        rw [rl.ints] at hR
        exact ⟨b, ns, rfl, hR, Post.here p r to_int⟩
  · cases e⟩
end
end PL

namespace PL
open PySem PySem.Spec PyProof.Rows L2
section
variable {K : PySem.W.Frag} {T : Tab} {E : En} {G : Hp} {ρ : List Addr} {a : AS} {σ : L2.St} {H : Hp}
theorem AR.rest (r : AR K T E G ρ a σ H) {p : Addr} {u o : HO} (hG : G p = none) (hr : p ∉ ρ) (h0 : E.H0 p = none) (hu : H p = some u) (nl : ∀ vs, u ≠ .lst vs) (n1 : ∀ ps, u ≠ .tbl ps) (n2 : ∀ φ, u ≠ .ext φ) (no : ∀ ps, o ≠ .tbl ps) : Ge G (upd G p o) ∧ AR K T E (upd G p o) ρ a σ (upd H p o) := by
  have g : Ge G (upd G p o) := Ge.upd hG
  have at_ : ∀ b, b ≠ p → upd H p o b = H b := fun b n => upd_ne n
  refine ⟨g, ⟨fun b v e => ?_, r.len, fun i s v e1 e2 => ?_, r.nd, r.clen, fun i b c e1 e2 => ?_, r.cnd, fun b hb => ?_, fun b v e h1 h2 => ?_, fun b v e => ?_, fun b v e => g b v (r.gext b v e), r.rext, r.rnew, fun b e => ?_, r.h0t, (r.tb.upd hu n1 n2).put no⟩⟩
  · by_cases hb : b = p
    · subst hb; rw [upd_same] at e ⊢; exact e
    · rw [upd_ne hb] at e ⊢; exact r.sub b v e
  · have z := r.sl i s v e1 e2
    cases s with
    | emp => trivial
    | val d => obtain ⟨x, e, q⟩ := z; exact ⟨x, e, Rep.ge g (List.prefix_refl _) _ _ q⟩
    | own ds =>
      obtain ⟨b, vs, e, hb, q, y1, y2, y3⟩ := z
      have nb : b ≠ p := fun z => by rw [z, hu] at hb; exact nl _ (Option.some.inj hb)
      exact ⟨b, vs, e, by rw [at_ b nb]; exact hb, RepL.ge g (List.prefix_refl _) _ _ q, by rw [upd_ne nb]; exact y1, y2, y3⟩
    | obj c fs =>
      obtain ⟨b, dx, fvs, e, hb, q, y3⟩ := z
      have nb : b ≠ p := fun z => (r.sfH b y3).1 (z ▸ h0)
      exact ⟨b, dx, fvs, e, by rw [at_ b nb]; exact hb, RepF.ge g (List.prefix_refl _) _ _ q, y3⟩
  · refine (r.cl i b c e1 e2).ge g (List.prefix_refl _) fun u e => ?_
    have nb : b ≠ p := fun z => hr (z ▸ List.mem_of_getElem? e1)
    rw [at_ b nb]; exact e
  · have nb : b ≠ p := fun z => hr (z ▸ hb)
    rw [upd_ne nb]; exact r.cG b hb
  · have nb : b ≠ p := fun z => by rw [z, h0] at e; cases e
    rw [at_ b nb]; exact r.fr b v e h1 h2
  · by_cases hb : b = p
    · subst hb; exact .inr h0
    · rw [upd_ne hb] at e; exact r.gnew b v e
  · obtain ⟨q1, ⟨w, q2, q2'⟩, q3, q4⟩ := r.sfH b e
    have nb : b ≠ p := fun z => q1 (z ▸ h0)
    exact ⟨q1, ⟨w, by rw [at_ b nb]; exact q2, q2'⟩, by rw [upd_ne nb]; exact q3, q4⟩
end
theorem putK_new {kvs : List (Key × V)} {k : Key} {v : V} (h : ∀ p ∈ kvs, p.1 ≠ k) : L2.putK kvs k v = kvs ++ [(k, v)] := by
  unfold L2.putK
  rw [if_neg]
  intro z
  obtain ⟨p, hp, e⟩ := List.any_eq_true.mp z
  exact h p hp (of_decide_eq_true e)
theorem merge_new : ∀ {more kvs : List (Key × V)}, (∀ p ∈ kvs, ∀ q ∈ more, p.1 ≠ q.1) → (more.map (·.1)).Nodup → mergeK kvs more = kvs ++ more
  | [], kvs, _, _ => by show kvs = _; rw [List.append_nil]
  | m :: more, kvs, h, n => by
    rw [List.map_cons, List.nodup_cons] at n
    show mergeK (L2.putK kvs m.1 m.2) more = _
    rw [putK_new fun p hp => h p hp m (by simp), merge_new (fun p hp q hq => ?_) n.2, List.append_assoc]
    · rfl
    · rcases List.mem_append.mp hp with hp | hp
      · exact h p hp q (by simp [hq])
      · rw [List.mem_singleton] at hp
        subst hp
        exact fun z => n.1 (List.mem_map.mpr ⟨q, hq, z.symm⟩)
theorem recK_keys : ∀ {ks : List Str} {vs : List V}, vs.length = ks.length → (recK ks vs).map (·.1) = ks.map Sum.inr
  | [], vs, _ => by cases vs <;> rfl
  | k :: ks, [], h => by cases h
  | k :: ks, v :: vs, h => by
    have := recK_keys (ks := ks) (vs := vs) (by simpa using h)
    unfold recK at this ⊢
    rw [List.zip_cons_cons, List.map_cons, List.map_cons, List.map_cons, this]
theorem merge_rec {ks : List Str} {vs : List V} (h : vs.length = ks.length) (n : ks.Nodup) : mergeK [] (recK ks vs) = recK ks vs := by
  rw [merge_new (fun p hp => by cases hp) ?_, List.nil_append]
  rw [recK_keys h]
  exact List.Pairwise.map _ (fun (a b : Str) (e : a ≠ b) (z : (Sum.inr a : Key) = Sum.inr b) => e (Sum.inr.inj z)) n
theorem val_rec {K : PySem.W.Frag} {T : Tab} {G : Hp} {ρ : List Addr} {k : Str} {d : D} : ∀ {ks : List Str} {ds : List D} {vs : List V}, RepL K T G ρ ds vs → (ks.zip ds).lookup k = some d → ∃ v, valV (recK ks vs) (Sum.inr k) = some v ∧ Rep K T G ρ d v
  | [], _, _, _, e => by cases e
  | _ :: _, [], _, _, e => by cases e
  | x :: ks, y :: ds, vs, h, e => by
    obtain ⟨v, r, rfl, h1, h2⟩ := h.inv
    rw [List.zip_cons_cons, List.lookup_cons] at e
    cases hx : k == x with
    | true =>
      rw [hx] at e
      cases e
      exact ⟨v, valV_pos (p := (Sum.inr x, v)) (by rw [eq_of_beq hx]), h1⟩
    | false =>
      rw [hx] at e
      obtain ⟨w, e2, q⟩ := val_rec (ks := ks) h2 e
      refine ⟨w, ?_, q⟩
      show valV ((Sum.inr x, v) :: recK ks r) (Sum.inr k) = some w
      rw [valV_neg]
      · exact e2
      · intro z
        have : x = k := Sum.inr.inj z
        rw [this, beq_self_eq_true] at hx
        cases hx
theorem lt64 {u c : Nat} (h : u + 64 < c) : u + 1 < c := by omega
def getM (k : Str) (m : M D) : M D := bd m fun x => opt (match x with | .dct ks ds => (ks.zip ds).lookup k | _ => none)
section
variable {X : Cx} {T : Tab} {W : WX}
theorem px_get {o : Expr} {k : Str} {m : M D} {j : Nat} {p pos : Pos} (hu : X.A.units + 1 < cLine) (ho : PE X o (tE X.K T W m)) (hs : NoSl (.Constant (.str k) j p) := by intro _ _; rfl) : PE X (.Subscript o (.Constant (.str k) j p) pos) (tE X.K T W (getM k m)) := by
  refine PE.imp (pe_dget hu ho pe_str hs) fun σ H Q h => ?_
  refine tX.bind h fun E x a1 G1 ρ1 H1 v r1 q1 p1 => ?_
  cases x with
  | dct ks ds =>
    unfold Rep at q1
    obtain ⟨b, vs, rfl, hb, hl, hr⟩ := q1
    dsimp only at p1
    cases e : (ks.zip ds).lookup k with
    | none => rw [e] at p1; exact p1.elim
    | some d =>
      rw [e] at p1
      obtain ⟨w, e2, rw'⟩ := val_rec hr e
      refine ⟨b, w, rfl, ?_, Post.here p1 r1 rw'⟩
      have := DGet.k (k := Sum.inr k) (r1.sub _ _ hb)
      rw [e2] at this
      exact this
  | _ => exact p1.elim
end
def consAll : List (M D) → M (List D)
  | [] => ret []
  | m :: ms => bd m fun x => bd (consAll ms) fun xs => ret (x :: xs)
def recM (ks : List Str) (ms : List (M D)) : M D := fun a => match consAll ms ⟨hideL [] a.sl, a.st⟩ with
  | .ok ds b => .ok (.dct ks ds) { a with st := b.st }
  | _ => .stuck
def recTr (K : PySem.W.Frag) (T : Tab) (W : WX) (ks : List Str) (ms : List (M D)) : List (TE × TE) := (ks.zip ms).map fun p => (tC (.str p.1), tE K T W p.2)
section
variable {K : PySem.W.Frag} {T : Tab} {W : WX} {E : En} {σ : L2.St}
theorem consAll_len : ∀ {ms : List (M D)} {a b : AS} {ds : List D}, consAll ms a = .ok ds b → ds.length = ms.length
  | [], a, b, ds, e => by cases e; rfl
  | m :: ms, a, b, ds, e => by
    have e' : (m a).bind (fun x => bd (consAll ms) fun xs => ret (x :: xs)) = .ok ds b := e
    cases e1 : m a with
    | stuck => rw [e1] at e'; cases e'
    | exc c fs a1 => rw [e1] at e'; cases e'
    | ok d a1 =>
      rw [e1] at e'
      have e' : (consAll ms a1).bind (fun xs => ret (d :: xs)) = .ok ds b := e'
      cases e2 : consAll ms a1 with
      | stuck => rw [e2] at e'; cases e'
      | exc c fs a2 => rw [e2] at e'; cases e'
      | ok es a2 =>
        rw [e2] at e'
        cases e'
        rw [List.length_cons, List.length_cons, consAll_len e2]
theorem pairs_read : ∀ {ks : List Str} {ms : List (M D)} {G : Hp} {ρ : List Addr} {a b : AS} {H : Hp} {ds : List D} {Q : List (V × V) → Hp → Prop}, ks.length = ms.length → AR K T E G ρ a σ H → consAll ms a = .ok ds b →
    (∀ G' ρ' H' vs, Ge G G' → ρ <+: ρ' → AR K T E G' ρ' b σ H' → RepL K T G' ρ' ds vs → Q ((ks.zip vs).map fun p => (V.str p.1, p.2)) H') → tPairs (recTr K T W ks ms) σ H Q
  | [], [], G, ρ, a, b, H, ds, Q, _, r, e, k => by
    cases e
    exact k G ρ H [] Ge.rfl' (List.prefix_refl _) r RepL.nil
  | [], _ :: _, _, _, _, _, _, _, _, h, _, _, _ => by cases h
  | _ :: _, [], _, _, _, _, _, _, _, h, _, _, _ => by cases h
  | x :: ks, m :: ms, G, ρ, a, b, H, ds, Q, hl, r, e, k => by
    have e' : (m a).bind (fun x => bd (consAll ms) fun xs => ret (x :: xs)) = .ok ds b := e
    cases e1 : m a with
    | stuck => rw [e1] at e'; cases e'
    | exc c fs a1 => rw [e1] at e'; cases e'
    | ok d a1 =>
      rw [e1] at e'
      have e' : (consAll ms a1).bind (fun xs => ret (d :: xs)) = .ok ds b := e'
      cases e2 : consAll ms a1 with
      | stuck => rw [e2] at e'; cases e'
      | exc c fs a2 => rw [e2] at e'; cases e'
      | ok es a2 =>
        rw [e2] at e'
        cases e'
        refine ⟨E, G, ρ, a, r, ?_⟩
        dsimp only
        rw [e1]
        intro G1 ρ1 H1 v g1 l1 r1 q1
        refine pairs_read (by simpa using hl) r1 e2 fun G2 ρ2 H2 vs g2 l2 r2 q2 => ?_
        exact k G2 ρ2 H2 (v :: vs) (g1.trans g2) (l1.trans l2) r2 (RepL.cons (Rep.ge g2 l2 _ _ q1) q2)
end
section
variable {X : Cx} {T : Tab} {W : WX}
theorem px_rec {keys : List (Option Expr)} {values : List Expr} {ks : List Str} {ms : List (M D)} {pos : Pos} (h : PPs X pos keys values (recTr X.K T W ks ms)) (hn : ks.Nodup) (hl : ks.length = ms.length) (h15 : ks.length ≤ 15)
    (hall : keys.all (·.isSome) = true := by rfl) (hkl : keys.length = values.length := by rfl) (h0 : keys ≠ [] := by exact List.cons_ne_nil _ _) (hk15 : keys.length ≤ 15 := by decide) : PE X (.Dict keys values pos) (tE X.K T W (recM ks ms)) := by
  refine PE.imp (pe_disp h hall hkl h0 hk15) fun σ H Q ⟨E, G, ρ, a, r, p⟩ q hq => ?_
  unfold recM at p
  obtain ⟨z0, zG, zr⟩ := r.fresh hq
  have x1 := r.aft0.junk (o := .dK []) hq zG zr (.inl hq)
  have rb := r.blk x1 []
  cases e : consAll ms ⟨hideL [] a.sl, a.st⟩ with
  | stuck => rw [e] at p; exact p.elim
  | exc c fs b => rw [e] at p; exact p.elim
  | ok ds b =>
    rw [e] at p
    refine pairs_read hl rb e fun G' ρ' H' vs g l r2 hv => ?_
    have hH : H' q = some (.dK []) := r2.fr q _ (nt_of upd_same (fun _ z => nomatch z)) zr (fun z => nomatch z)
    have nG : G' q = none := by
      cases y : G' q with
      | none => rfl
      | some o =>
        rcases r2.gnew q o y with w | w
        · have w : G q = some o := w
          rw [zG] at w; cases w
        · have w : nt (upd H q (.dK [])) q = none := w
          rw [nt_of (o := .dK []) upd_same (fun _ z => nomatch z)] at w
          cases w
    have nr : q ∉ ρ' := fun y => by
      rcases r2.rnew q y with w | w
      · exact zr w
      · have w : nt (upd H q (.dK [])) q = none := w
        rw [nt_of (o := .dK []) upd_same (fun _ z => nomatch z)] at w
        cases w
    have r3 := r.after (x1.trans (r2.aft rfl rfl))
    have hvl : vs.length = ks.length := by
      rw [hv.len, consAll_len e, hl]
    obtain ⟨g4, r4⟩ := r3.rest (o := .dK (recK ks vs)) nG nr z0 hH (fun _ z => nomatch z) (fun _ z => nomatch z) (fun _ z => nomatch z) (fun _ z => nomatch z)
    refine ⟨hH, recK ks vs, ?_, ?_, ?_⟩
    · unfold recK
      rw [List.map_map]
      rfl
    · unfold recK
      rw [List.length_map, List.length_zip]
      omega
    · rw [merge_rec hvl hn]
      refine p _ ρ' _ (.ref q) (g.trans g4) l r4 ?_
      unfold Rep
      exact ⟨q, vs, rfl, upd_same, hvl, RepL.ge g4 (List.prefix_refl _) _ _ hv⟩
end
end PL

namespace PL
open PySem
theorem q_int_int (ins : Nat → Bool) (st : List Cell) (i : Int) : isiM ins st [.int i, .ty "int"] = some (.bl true) := rfl
theorem q_int_bool (ins : Nat → Bool) (st : List Cell) (i : Int) : isiM ins st [.int i, .ty "bool"] = some (.bl false) := rfl
theorem q_int_str (ins : Nat → Bool) (st : List Cell) (i : Int) : isiM ins st [.int i, .ty "str"] = some (.bl false) := rfl
theorem q_int_tup (ins : Nat → Bool) (st : List Cell) (i : Int) : isiM ins st [.int i, .ty "tuple"] = some (.bl false) := rfl
theorem q_int_lst (ins : Nat → Bool) (st : List Cell) (i : Int) : isiM ins st [.int i, .ty "list"] = some (.bl false) := rfl
theorem q_str_int (ins : Nat → Bool) (st : List Cell) (i : Str) : isiM ins st [.str i, .ty "int"] = some (.bl false) := rfl
theorem q_str_bool (ins : Nat → Bool) (st : List Cell) (i : Str) : isiM ins st [.str i, .ty "bool"] = some (.bl false) := rfl
theorem q_str_str (ins : Nat → Bool) (st : List Cell) (i : Str) : isiM ins st [.str i, .ty "str"] = some (.bl true) := rfl
theorem q_str_tup (ins : Nat → Bool) (st : List Cell) (i : Str) : isiM ins st [.str i, .ty "tuple"] = some (.bl false) := rfl
theorem q_str_lst (ins : Nat → Bool) (st : List Cell) (i : Str) : isiM ins st [.str i, .ty "list"] = some (.bl false) := rfl
theorem q_tup_int (ins : Nat → Bool) (st : List Cell) (i : List D) : isiM ins st [.tup i, .ty "int"] = some (.bl false) := rfl
theorem q_tup_bool (ins : Nat → Bool) (st : List Cell) (i : List D) : isiM ins st [.tup i, .ty "bool"] = some (.bl false) := rfl
theorem q_tup_str (ins : Nat → Bool) (st : List Cell) (i : List D) : isiM ins st [.tup i, .ty "str"] = some (.bl false) := rfl
theorem q_tup_tup (ins : Nat → Bool) (st : List Cell) (i : List D) : isiM ins st [.tup i, .ty "tuple"] = some (.bl true) := rfl
theorem q_tup_lst (ins : Nat → Bool) (st : List Cell) (i : List D) : isiM ins st [.tup i, .ty "list"] = some (.bl false) := rfl
theorem q_non_int (ins : Nat → Bool) (st : List Cell) : isiM ins st [.non, .ty "int"] = some (.bl false) := rfl
theorem q_non_str (ins : Nat → Bool) (st : List Cell) : isiM ins st [.non, .ty "str"] = some (.bl false) := rfl
theorem q_non_tup (ins : Nat → Bool) (st : List Cell) : isiM ins st [.non, .ty "tuple"] = some (.bl false) := rfl
theorem q_lst_lst (ins : Nat → Bool) (st : List Cell) (i : List D) : isiM ins st [.lst i, .ty "list"] = some (.bl true) := rfl
theorem q_lst_tup (ins : Nat → Bool) (st : List Cell) (i : List D) : isiM ins st [.lst i, .ty "tuple"] = some (.bl false) := rfl
theorem q_lst_int (ins : Nat → Bool) (st : List Cell) (i : List D) : isiM ins st [.lst i, .ty "int"] = some (.bl false) := rfl
theorem q_lst_str (ins : Nat → Bool) (st : List Cell) (i : List D) : isiM ins st [.lst i, .ty "str"] = some (.bl false) := rfl
theorem q_ls_t (ins : Nat → Bool) (st : List Cell) (i : List D) : isiM ins st [.lst i, .tup [.ty "list", .ty "tuple"]] = some (.bl true) := rfl
theorem q_tu_t (ins : Nat → Bool) (st : List Cell) (i : List D) : isiM ins st [.tup i, .tup [.ty "list", .ty "tuple"]] = some (.bl true) := rfl
theorem isi_cls {ins : Nat → Bool} {k : Nat} (h : ins k = true) (st : List Cell) {x : D} (hx : okX ins x = true) (n : ∀ c ds, x ≠ .ins c ds) (m : ∀ i, x ≠ .cell i) : isiM ins st [x, .cls k] = some (.bl false) := by
  unfold isiM
  cases x with
  | ins c ds => exact absurd rfl (n c ds)
  | cell i => exact absurd rfl (m i)
  | ty _ => cases hx
  | cls _ => cases hx
  | fn _ => cases hx
  | _ => simp [deC, hx, okC, isB, h]
@[simp] theorem ix3 (st : List Cell) (a b c d : D) (ds : List D) : ixM st (.tup (a :: b :: c :: d :: ds)) (.int 3) = some d := by
  show L2.atI (a :: b :: c :: d :: ds) 3 = _
  unfold L2.atI L2.ixN
  rw [if_pos (by decide), if_pos (by simp <;> omega)]
  rfl
@[simp] theorem ix4 (st : List Cell) (a b c d e : D) (ds : List D) : ixM st (.tup (a :: b :: c :: d :: e :: ds)) (.int 4) = some e := by
  show L2.atI (a :: b :: c :: d :: e :: ds) 4 = _
  unfold L2.atI L2.ixN
  rw [if_pos (by decide), if_pos (by simp <;> omega)]
  rfl
@[simp] theorem ix5 (st : List Cell) (a b c d e f : D) (ds : List D) : ixM st (.tup (a :: b :: c :: d :: e :: f :: ds)) (.int 5) = some f := by
  show L2.atI (a :: b :: c :: d :: e :: f :: ds) 5 = _
  unfold L2.atI L2.ixN
  rw [if_pos (by decide), if_pos (by simp <;> omega)]
  rfl
@[simp] theorem ix6 (st : List Cell) (a b c d e f g : D) (ds : List D) : ixM st (.tup (a :: b :: c :: d :: e :: f :: g :: ds)) (.int 6) = some g := by
  show L2.atI (a :: b :: c :: d :: e :: f :: g :: ds) 6 = _
  unfold L2.atI L2.ixN
  rw [if_pos (by decide), if_pos (by simp <;> omega)]
  rfl
@[simp] theorem ix7 (st : List Cell) (a b c d e f g h : D) (ds : List D) : ixM st (.tup (a :: b :: c :: d :: e :: f :: g :: h :: ds)) (.int 7) = some h := by
  show L2.atI (a :: b :: c :: d :: e :: f :: g :: h :: ds) 7 = _
  unfold L2.atI L2.ixN
  rw [if_pos (by decide), if_pos (by simp <;> omega)]
  rfl
@[simp] theorem ix8 (st : List Cell) (a b c d e f g h i : D) (ds : List D) : ixM st (.tup (a :: b :: c :: d :: e :: f :: g :: h :: i :: ds)) (.int 8) = some i := by
  show L2.atI (a :: b :: c :: d :: e :: f :: g :: h :: i :: ds) 8 = _
  unfold L2.atI L2.ixN
  rw [if_pos (by decide), if_pos (by simp <;> omega)]
  rfl
@[simp] theorem ixl3 (st : List Cell) (a b c d : D) (ds : List D) : ixM st (.lst (a :: b :: c :: d :: ds)) (.int 3) = some d := by
  show L2.atI (a :: b :: c :: d :: ds) 3 = _
  unfold L2.atI L2.ixN
  rw [if_pos (by decide), if_pos (by simp <;> omega)]
  rfl
@[simp] theorem ixl4 (st : List Cell) (a b c d e : D) (ds : List D) : ixM st (.lst (a :: b :: c :: d :: e :: ds)) (.int 4) = some e := by
  show L2.atI (a :: b :: c :: d :: e :: ds) 4 = _
  unfold L2.atI L2.ixN
  rw [if_pos (by decide), if_pos (by simp <;> omega)]
  rfl
@[simp] theorem ixl5 (st : List Cell) (a b c d e f : D) (ds : List D) : ixM st (.lst (a :: b :: c :: d :: e :: f :: ds)) (.int 5) = some f := by
  show L2.atI (a :: b :: c :: d :: e :: f :: ds) 5 = _
  unfold L2.atI L2.ixN
  rw [if_pos (by decide), if_pos (by simp <;> omega)]
  rfl
@[simp] theorem ixl6 (st : List Cell) (a b c d e f g : D) (ds : List D) : ixM st (.lst (a :: b :: c :: d :: e :: f :: g :: ds)) (.int 6) = some g := by
  show L2.atI (a :: b :: c :: d :: e :: f :: g :: ds) 6 = _
  unfold L2.atI L2.ixN
  rw [if_pos (by decide), if_pos (by simp <;> omega)]
  rfl
@[simp] theorem ixl7 (st : List Cell) (a b c d e f g h : D) (ds : List D) : ixM st (.lst (a :: b :: c :: d :: e :: f :: g :: h :: ds)) (.int 7) = some h := by
  show L2.atI (a :: b :: c :: d :: e :: f :: g :: h :: ds) 7 = _
  unfold L2.atI L2.ixN
  rw [if_pos (by decide), if_pos (by simp <;> omega)]
  rfl
@[simp] theorem ixl8 (st : List Cell) (a b c d e f g h i : D) (ds : List D) : ixM st (.lst (a :: b :: c :: d :: e :: f :: g :: h :: i :: ds)) (.int 8) = some i := by
  show L2.atI (a :: b :: c :: d :: e :: f :: g :: h :: i :: ds) 8 = _
  unfold L2.atI L2.ixN
  rw [if_pos (by decide), if_pos (by simp <;> omega)]
  rfl
@[simp] theorem plL_nil : plL [] = true := rfl
@[simp] theorem plL_cons (d : D) (ds : List D) : plL (d :: ds) = (d.pl && plL ds) := rfl
@[simp] theorem pl_str (s : Str) : (D.str s).pl = true := rfl
@[simp] theorem pl_int (s : Int) : (D.int s).pl = true := rfl
@[simp] theorem pl_non : D.non.pl = true := rfl
@[simp] theorem pl_tup (ds : List D) : (D.tup ds).pl = plL ds := by unfold D.pl; rfl
@[simp] theorem dep_int (i : Int) : (D.int i).dep = 0 := rfl
@[simp] theorem dep_str (i : Str) : (D.str i).dep = 0 := rfl
@[simp] theorem dep_non : D.non.dep = 0 := rfl
@[simp] theorem eq_is (i : Int) (s : Str) : eqM (.int i) (.str s) = some false := rfl
@[simp] theorem ne_is (i : Int) (s : Str) : neM (.int i) (.str s) = some true := rfl
@[simp] theorem eq_ns (s : Str) : eqM .non (.str s) = some false := rfl
@[simp] theorem ne_ns (s : Str) : neM .non (.str s) = some true := rfl
theorem eq_ts {ds : List D} (h : plL ds = true) (s : Str) : eqM (.tup ds) (.str s) = some false := by
  unfold eqM
  rw [if_pos (by simp [h])]
  rfl
theorem ne_ts {ds : List D} (h : plL ds = true) (s : Str) : neM (.tup ds) (.str s) = some true := by
  unfold neM
  rw [if_pos (by simp [h])]
  rfl
theorem pl_lst (ds : List D) : (D.lst ds).pl = plL ds := by unfold D.pl; rfl
theorem dep_l0 : (D.lst []).dep = 1 := by kernel_rfl
theorem eq_l0 {ds : List D} (h : plL ds = true) : eqM (.lst ds) (.lst []) = some ds.isEmpty := by
  unfold eqM
  have e : decide (min (D.lst ds).dep (D.lst []).dep ≤ 60) = true := decide_eq_true (by rw [dep_l0]; omega)
  rw [if_pos (by rw [pl_lst, pl_lst, h, e]; rfl)]
  cases ds <;> rfl
theorem ne_l0 {ds : List D} (h : plL ds = true) : neM (.lst ds) (.lst []) = some (!ds.isEmpty) := by
  unfold neM
  have e : decide (min (D.lst ds).dep (D.lst []).dep ≤ 60) = true := decide_eq_true (by rw [dep_l0]; omega)
  rw [if_pos (by rw [pl_lst, pl_lst, h, e]; rfl)]
  cases ds <;> rfl
def getK (k : Str) : D → Option D
  | .dct ks ds => (ks.zip ds).lookup k
  | _ => none
@[simp] theorem x_get (k : Str) (m : M D) (a : AS) : getM k m a = (m a).bind fun x => opt (getK k x) := by
  unfold getM
  show (m a).bind _ = _
  apply congrArg
  funext x
  cases x <;> rfl
@[simp] theorem x_all0 (a : AS) : consAll [] a = .ok [] a := rfl
@[simp] theorem x_all (m : M D) (ms : List (M D)) (a : AS) : consAll (m :: ms) a = (m a).bind fun x => bd (consAll ms) fun xs => ret (x :: xs) := rfl
def recE (ks : List Str) (sl : List Slot) : Out (List D) → Out D
  | .ok ds b => .ok (.dct ks ds) ⟨sl, b.st⟩
  | _ => .stuck
@[simp] theorem recE_ok (ks : List Str) (sl : List Slot) (ds : List D) (b : AS) : recE ks sl (.ok ds b) = .ok (.dct ks ds) ⟨sl, b.st⟩ := rfl
@[simp] theorem x_rec (ks : List Str) (ms : List (M D)) (sl : List Slot) (st : List Cell) (h : noOwn sl = true) : recM ks ms ⟨sl, st⟩ = recE ks sl (consAll ms ⟨sl, st⟩) := by
  unfold recM
  dsimp only
  rw [hide_nil sl h]
  cases consAll ms ⟨sl, st⟩ <;> rfl
theorem hide_cons (j : Nat) (vs : List Nat) (sl : List Slot) (h : noOwn sl = true) : hideL (j :: vs) sl = (hideL vs sl).set j .emp := by
  apply List.ext_getElem?
  intro i
  unfold hideL
  rw [List.getElem?_mapIdx, List.getElem?_set, List.getElem?_mapIdx]
  by_cases hij : j = i
  · subst hij
    cases e : sl[j]? with
    | none =>
      have : ¬ j < sl.length := fun z => by rw [List.getElem?_eq_getElem z] at e; cases e
      simp [this]
    | some s =>
      have : j < sl.length := (List.getElem?_eq_some_iff.mp e).1
      simp [this]
  · rw [if_neg hij]
    cases e : sl[i]? with
    | none => rfl
    | some s =>
      have hc : (j :: vs).contains i = vs.contains i := by simp [Ne.symm hij]
      simp only [Option.map_some, hc]
@[simp] theorem lcK_2 (j k : Nat) (t : TgM) (test : M Bool) (elt : M D) (ds : List D) (sl : List Slot) (st : List Cell) (h : noOwn sl = true) : lcK [j, k] t test elt ds ⟨sl, st⟩ = lcE sl (lcL t test elt ((sl.set k .emp).set j .emp) ds st []) := by
  unfold lcK
  rw [hide_cons j [k] sl h, hide_set k sl h]
@[simp] theorem lcK_3 (i j k : Nat) (t : TgM) (test : M Bool) (elt : M D) (ds : List D) (sl : List Slot) (st : List Cell) (h : noOwn sl = true) : lcK [i, j, k] t test elt ds ⟨sl, st⟩ = lcE sl (lcL t test elt (((sl.set k .emp).set j .emp).set i .emp) ds st []) := by
  unfold lcK
  rw [hide_cons i [j, k] sl h, hide_cons j [k] sl h, hide_set k sl h]
@[simp] theorem x_parV2 (i j : Nat) (m : M D) (mb : M (List D)) (a : AS) : parV2 i j m mb a = (m a).bind fun d => bd mb fun ds => fun a => .ok .nx ⟨(a.sl.set i (.val d)).set j (.own ds), a.st⟩ := rfl
@[simp] theorem x_parO3 (i j l : Nat) (m : M (List D)) (d e : D) (a : AS) : parO3 i j l m d e a = (m a).bind fun ds a => .ok .nx ⟨((a.sl.set i (.own ds)).set j (.val d)).set l (.val e), a.st⟩ := rfl
@[simp] theorem x_parO2 (i j : Nat) (m : M (List D)) (d : D) (a : AS) : parO2 i j m d a = (m a).bind fun ds a => .ok .nx ⟨(a.sl.set i (.own ds)).set j (.val d), a.st⟩ := rfl
@[simp] theorem x_parO0 (i j : Nat) (m : M (List D)) (a : AS) : parO0 i j m a = (m a).bind fun ds a => .ok .nx ⟨(a.sl.set i (.own ds)).set j (.own []), a.st⟩ := rfl
theorem ints_map : ∀ ns : List Int, intsOf (ns.map D.int) = some ns
  | [] => rfl
  | n :: ns => by
    show (intsOf (ns.map D.int)).map (n :: ·) = _
    rw [ints_map ns]
    rfl
theorem sum_ints (st : List Cell) (ns : List Int) : sumL st [.lst (ns.map D.int)] = some (.int ns.sum) := by
  show (intsOf (ns.map D.int)).bind _ = _
  rw [ints_map]
  rfl
end PL

namespace PL
open PySem PySem.Spec PyProof.Rows L2
def zipD : List D → List D → List D
  | x :: xs, y :: ys => .tup [x, y] :: zipD xs ys
  | _, _ => []
theorem zip_get : ∀ {xs ys : List D} {i : Nat} {z : D}, (zipD xs ys)[i]? = some z → ∃ x y, xs[i]? = some x ∧ ys[i]? = some y ∧ z = .tup [x, y]
  | [], _, _, _, h => by simp [zipD] at h
  | _ :: _, [], _, _, h => by simp [zipD] at h
  | x :: xs, y :: ys, 0, z, h => by simp [zipD] at h; exact ⟨x, y, rfl, rfl, h.symm⟩
  | x :: xs, y :: ys, i + 1, z, h => by
    obtain ⟨a, b, h1, h2, h3⟩ := zip_get (xs := xs) (ys := ys) (i := i) (z := z) (by simpa [zipD] using h)
    exact ⟨a, b, by simpa using h1, by simpa using h2, h3⟩
theorem zip_end : ∀ (xs ys : List D), xs.length ≤ (zipD xs ys).length ∨ ys.length ≤ (zipD xs ys).length
  | [], _ => .inl (Nat.zero_le _)
  | _ :: _, [] => .inr (Nat.zero_le _)
  | x :: xs, y :: ys => by
    rcases zip_end xs ys with h | h
    · exact .inl (Nat.succ_le_succ h)
    · exact .inr (Nat.succ_le_succ h)
section
variable {K : PySem.W.Frag} {T : Tab} {G : Hp} {ρ : List Addr}
theorem yields_zipL {b c : Addr} {vs ws : List V} {ds es : List D} (hb : SqL K G b vs) (hc : SqL K G c ws) (q : RepL K T G ρ ds vs) (q2 : RepL K T G ρ es ws) : Yields K T G ρ (Itz K b c) (zipD ds es) := fun G1 ρ1 g l E a σ H r => by
  have hR : SqL K H b vs := SqL.ge (SqL.ge hb g) r.sub
  have hS : SqL K H c ws := SqL.ge (SqL.ge hc g) r.sub
  refine ⟨fun i d hd => ?_, vs, ws, hR, hS, by rw [q.len, q2.len]; exact zip_end ds es⟩
  obtain ⟨x, y, hx, hy, rfl⟩ := zip_get hd
  obtain ⟨v, hv, rv⟩ := q.get hx
  obtain ⟨w, hw, rw'⟩ := q2.get hy
  refine ⟨⟨vs, ws, v, w, hR, hS, hv, hw⟩, fun x H' ⟨p, v', w', e1, hp, e2, h1, h2⟩ => ?_⟩
  subst e1 e2
  have e1 := h1 vs hR
  have e2 := h2 ws hS
  rw [hv] at e1
  rw [hw] at e2
  cases e1
  cases e2
  exact pair_rep r hp (Rep.ge g l _ _ rv) (Rep.ge g l _ _ rw')
theorem yields_zipT {b c : Addr} {vs ws : List V} {ds es : List D} (hb : TupR K G b vs) (hc : TupR K G c ws) (q : RepL K T G ρ ds vs) (q2 : RepL K T G ρ es ws) : Yields K T G ρ (RZ.ItzT K b c) (zipD ds es) := fun G1 ρ1 g l E a σ H r => by
  have hR : SqT K H b vs := ((hb.ge g).ge r.sub).sq
  have hS : SqT K H c ws := ((hc.ge g).ge r.sub).sq
  refine ⟨fun i d hd => ?_, vs, ws, hR, hS, by rw [q.len, q2.len]; exact zip_end ds es⟩
  obtain ⟨x, y, hx, hy, rfl⟩ := zip_get hd
  obtain ⟨v, hv, rv⟩ := q.get hx
  obtain ⟨w, hw, rw'⟩ := q2.get hy
  refine ⟨⟨vs, ws, v, w, hR, hS, hv, hw⟩, fun x H' ⟨p, v', w', e1, hp, e2, h1, h2⟩ => ?_⟩
  subst e1 e2
  have e1 := h1 vs hR
  have e2 := h2 ws hS
  rw [hv] at e1
  rw [hw] at e2
  cases e1
  cases e2
  exact pair_rep r hp (Rep.ge g l _ _ rv) (Rep.ge g l _ _ rw')
end
def zipK : List D → M (List D)
  | [.lst a, .lst b] => ret (zipD a b)
  | [.tup a, .tup b] => ret (zipD a b)
  | _ => no
def zipM (ms : M (List D)) : M (List D) := bd ms zipK
section
variable {X : Cx} {T : Tab} {W : WX}
theorem pi_zipX {e e2 : Expr} {ms : M (List D)} {p pos tpos : Pos} {elts : List Expr} {kk : Nat} (hm : X.mg "zip" = none) (ha : PA X [e, e2] (tA X.K T W ms)) (hg : Gl X "zip" := by rfl)
    (hs : starEach [e, e2] X.env = (false, eval e X.env) :: starEach [e2] X.env := by rfl) (hpl : (backTo pos (starEach [e2] X.env)).any (·.1) = false := by rfl) :
    PI X (.Tuple elts kk tpos) (.Call (.Name "zip" p) [e, e2] [] pos) (tI X.K T W (zipM ms)) := by
  refine PI.imp (RZ.pi_zipA hg hm ha hs hpl) fun σ H R ⟨E, G, ρ, a, r, p⟩ => ?_
  refine ⟨E, G, ρ, a, r, PostI.bind p fun xs a1 G1 ρ1 H1 vs g1 l1 r1 q1 p1 => ?_⟩
  unfold zipK at p1
  split at p1
  · rename_i ds es
    obtain ⟨v, w, ev, q1, q2⟩ := q1.two
    unfold Rep at q1 q2
    obtain ⟨b, us, eb, hb, rl⟩ := q1
    obtain ⟨c, ws, ec, hc, rm⟩ := q2
    subst ev eb ec
    exact ⟨b, c, us, ws, rfl, .inl ⟨SqL.ge hb r1.sub, SqL.ge hc r1.sub, p1 G1 ρ1 H1 _ Ge.rfl' (List.prefix_refl _) r1 (yields_zipL hb hc rl rm)⟩⟩
  · rename_i ds es
    obtain ⟨v, w, ev, q1, q2⟩ := q1.two
    obtain ⟨b, us, eb, hb, rl⟩ := q1.tup
    obtain ⟨c, ws, ec, hc, rm⟩ := q2.tup
    subst ev eb ec
    exact ⟨b, c, us, ws, rfl, .inr ⟨(hb.ge r1.sub).sq, (hc.ge r1.sub).sq, p1 G1 ρ1 H1 _ Ge.rfl' (List.prefix_refl _) r1 (yields_zipT hb hc rl rm)⟩⟩
  · exact p1.elim
@[simp] theorem x_zip (ms : M (List D)) (a : AS) : zipM ms a = (ms a).bind zipK := rfl
@[simp] theorem zipK_t (xs ys : List D) : zipK [.tup xs, .tup ys] = ret (zipD xs ys) := rfl
@[simp] theorem zipK_l (xs ys : List D) : zipK [.lst xs, .lst ys] = ret (zipD xs ys) := rfl
def chN : List (D → D → Option Bool) → List (M D) → D → M Bool
  | [], _, _ => no
  | _ :: _, [], _ => no
  | [f], [m], x => bd m fun y => opt (f x y)
  | [_], _ :: _ :: _, _ => no
  | f :: g :: fs, m :: ms, x => bd m fun y => bd (opt (f x y)) fun k => if k = true then chN (g :: fs) ms y else ret false
structure PCh (X : Cx) (T : Tab) (W : WX) (ops : List CmpOp) (es : List Expr) (fs : List (D → D → Option Bool)) (ms : List (M D)) : Prop where
  run : ∀ (pos : Pos) (pins : List (Addr × Obj)) (s : Shared) (σ : L2.St) (H : Hp) (x : D) (v : V) (u : Value) (Q : Bool → Hp → Prop) (E : En) (G : Hp) (ρ : List Addr) (a : AS), Inv X pins σ H s → RelV v u → AR X.K T E G ρ a σ H → Rep X.K T G ρ x v →
    Post X.K T W E σ G ρ EqR (chN fs ms x a) Q → wpAny (model X.prog X.w) X.A (testChain pos u ops (evalEach es X.env)) (TP X pins σ Q) X.xe s
theorem pch_last {op : CmpOp} {e : Expr} {f : D → D → Option Bool} {m : M D} (c : CmpR X T op f) (he : PE X e (tE X.K T W m)) : PCh X T W [op] [e] [f] [m] := by
  obtain ⟨r, ho, hr⟩ := c.ex
  refine ⟨fun pos pins s σ H x v u Q E G ρ a I rv ar rx p => ?_⟩
  have z := he.run pins s σ H (fun w H2 => r v w H2 fun z H3 => ∃ k, z = .bl k ∧ Q k H3) I ⟨E, G, ρ, a, ar, Post.bind p fun y a2 G2 ρ2 H2 w g2 l2 r2 q2 p2 => by
    cases e3 : f x y with
    | none => rw [e3] at p2; exact p2.elim
    | some k =>
      rw [e3] at p2
      exact hr x y k e3 G2 ρ2 H2 v w _ r2.sub (Rep.ge g2 l2 _ _ rx) q2 ⟨k, rfl, Post.here p2 r2 rfl⟩⟩
  refine test_last (thn z fun u2 s2 ⟨w, H2, I2, rw2, q2⟩ => ?_)
  refine thn (ho pins s2 σ H2 v w u u2 _ I2 rv rw2 q2) fun d' s5 ⟨z2, H5, I5, r5, k2, e2, q5⟩ => ?_
  subst e2
  cases r5
  exact wpAny_truthy_bool ⟨H5, I5, q5⟩
theorem pch_cons {op op' : CmpOp} {ops : List CmpOp} {e e' : Expr} {es : List Expr} {f g : D → D → Option Bool} {fs : List (D → D → Option Bool)} {m m' : M D} {ms : List (M D)} (c : CmpR X T op f) (he : PE X e (tE X.K T W m)) (h : PCh X T W (op' :: ops) (e' :: es) (g :: fs) (m' :: ms)) :
    PCh X T W (op :: op' :: ops) (e :: e' :: es) (f :: g :: fs) (m :: m' :: ms) := by
  obtain ⟨r, ho, hr⟩ := c.ex
  refine ⟨fun pos pins s σ H x v u Q E G ρ a I rv ar rx p => ?_⟩
  have z := he.run pins s σ H (fun w H2 => r v w H2 fun z H3 => ∃ k y E G ρ a, z = .bl k ∧ AR X.K T E G ρ a σ H3 ∧ Rep X.K T G ρ y w ∧ Post X.K T W E σ G ρ EqR ((if k = true then chN (g :: fs) (m' :: ms) y else ret false) a) Q) I ⟨E, G, ρ, a, ar, Post.bind p fun y a2 G2 ρ2 H2 w g2 l2 r2 q2 p2 => by
    cases e3 : f x y with
    | none => rw [e3] at p2; exact p2.elim
    | some k =>
      rw [e3] at p2
      exact hr x y k e3 G2 ρ2 H2 v w _ r2.sub (Rep.ge g2 l2 _ _ rx) q2 ⟨k, y, E, G2, ρ2, a2, rfl, r2, q2, p2⟩⟩
  refine test_link (thn z fun u2 s2 ⟨w, H2, I2, rw2, q2⟩ => ?_)
  refine thn (ho pins s2 σ H2 v w u u2 _ I2 rv rw2 q2) fun d' s5 ⟨z2, H5, I5, r5, k, y, E5, G5, ρ5, a5, e2, ar5, ry, p5⟩ => ?_
  subst e2
  cases r5
  refine wpAny_truthy_bool ?_
  cases k with
  | false => exact ite_ff ⟨H5, I5, Post.here p5 ar5 rfl⟩
  | true => exact ite_tt (h.run pos pins s5 σ H5 y w u2 Q E5 G5 ρ5 a5 I5 rw2 ar5 ry p5)
theorem pt_chN {op op' : CmpOp} {ops : List CmpOp} {l e e' : Expr} {es : List Expr} {fs : List (D → D → Option Bool)} {m : M D} {ms : List (M D)} {pos : Pos} (hl : PE X l (tE X.K T W m)) (h : PCh X T W (op :: op' :: ops) (e :: e' :: es) fs ms)
    (hm : lastMarks (op :: op' :: ops) (e :: e' :: es) = false := by with_unfolding_all rfl) : PT X (.Compare l (op :: op' :: ops) (e :: e' :: es) pos) (tT X.K T W (bd m fun x => chN fs ms x)) := by
  refine ⟨fun pins s σ H Q I ⟨E, G, ρ, a, ar, p⟩ => ?_⟩
  have z := hl.run pins s σ H (fun v H2 => ∃ x E G ρ a, AR X.K T E G ρ a σ H2 ∧ Rep X.K T G ρ x v ∧ Post X.K T W E σ G ρ EqR (chN fs ms x a) Q) I ⟨E, G, ρ, a, ar, Post.bind p fun x a2 G2 ρ2 H2 v g2 l2 r2 q2 p2 => ⟨x, E, G2, ρ2, a2, r2, q2, p2⟩⟩
  exact isTrue_chain (thn z fun u s1 ⟨v, H1, I1, r1, x, E1, G1, ρ1, a1, ar1, rx, p1⟩ => h.run pos pins s1 σ H1 x v u Q E1 G1 ρ1 a1 I1 r1 ar1 rx p1) hm
end
theorem fn_ok0 {P : Program} {w : World} {K : PySem.W.Frag} {mg : Str → Option Value} {base : Heap} {T : Tab} {k : Nat} {f : Addr} {fd : FuncData} {ps : List Str} {np : Nat} : FnOk P w K mg base (CX P w) k f fd ps (spM K T np fun _ _ => .stuck) :=
  ⟨fun _ _ _ _ ⟨_, _, _, _, _, _, _, p⟩ => p.elim, fun _ _ _ _ _ _ _ _ _ _ _ _ _ ⟨_, _, _, _, _, _, _, p⟩ => p.elim⟩
end PL

namespace PySem
namespace PLX
open PySem.Calls PyProof.Rows PySem.HandSPX
section
variable {M : Model} {A : Around} {E : Value → Shared → Prop} {h : Heap} {g : Array GenState} {d : Drawn} {t : Nat} {os : OsState}
variable {nm q : Str} {C N : Addr} {bs bm bmB : List Value} {hdct : Bool} {sn : List Str} {sub : List Value} {ab : Bool} {col : Option Bool} {dd : Option Addr} {k0 k1 k2 k3 k5 : Option Value} {B newId initId : String} {kw : List (Str × Value)}
theorem check_new_ownK (F : ExcBaseFacts B newId initId bmB) (hT : ∀ X : String, bm.contains (.type X) = bmB.contains (.type X)) {rest : List Value} {Q : Unit → Shared → Prop}
    (hC : h.get? C = some (excClassObj nm q C N bs bm hdct sn sub ab col dd k0 k1 k2 k3 k5 newId)) (hq : Q () ⟨h, g, d, t, os⟩) : wpAny M A (checkBuiltinCall newId ⟨.ref C :: rest, kw⟩) Q E ⟨h, g, d, t, os⟩ := by
  have hcont : (Value.ref C :: bm).contains (.type B) = true := by rw [List.contains_cons, hT, F.hasB, Bool.or_true]
  have hstar := F.noStar
  simp only [checkBuiltinCall, F.newKind, F.newSplit, F.newRow]
  repeat (first | refine wpAny_loadPart_at hC ?_ | (refine wpAny_isSubtype_exc hC ?_; rw [hcont]) | refine wpAny_staticBase_exc hC ?_ | refine wpAny_madeBy_exc hC ?_ | simp only [bne_self_eq_false, Bool.false_eq_true, if_false] | wp_step)
  exact hq
end
section
variable {prog : Program} {w : World} {A : Around} {E : Value → Shared → Prop} {R : Result → Shared → Prop} {h : Heap} {g : Array GenState} {d : Drawn} {t : Nat} {os : OsState}
variable {nm q : Str} {C N : Addr} {bs bm bmB : List Value} {hdct : Bool} {sn : List Str} {sub : List Value} {ab : Bool} {col : Option Bool} {dd : Option Addr} {k0 k1 k2 k3 k5 : Option Value} {B newId initId : String} {kw : List (Str × Value)}
theorem new_ownK (F : ExcBaseFacts B newId initId bmB) (hT : ∀ X : String, bm.contains (.type X) = bmB.contains (.type X)) {rest : List Value}
    (hC : h.get? C = some (excClassObj nm q C N bs bm hdct sn sub ab col dd k0 k1 k2 k3 k5 newId))
    (hq : R (.ok (.ret (.ref (h.objs.size + 1)))) ⟨(h.push { cls := .type "tuple", data := .seq rest.toArray }).push
      { cls := .ref C, data := .fields #[.ref h.objs.size, .none, .none, .none, .bool false, .none] }, g, d, t, os⟩) (hrest : rest.length ≤ sizeLine) :
    codeAny (model prog w) A (.builtin newId ⟨.ref C :: rest, kw⟩) R ⟨h, g, d, t, os⟩ := by
  have hends := F.ends
  have hcB : (Value.ref C :: bm).contains (.type B) = true := by rw [List.contains_cons, hT, F.hasB, Bool.or_true]
  have hcA : (Value.ref C :: bm).contains (.type "AttributeError") = false := by rw [List.contains_cons, hT, F.noAttr]; rfl
  have hcN : (Value.ref C :: bm).contains (.type "NameError") = false := by rw [List.contains_cons, hT, F.noName]; rfl
  refine codeAny_builtinAt F.entry ?_
  unfold Builtin.«BaseException.__new__»
  refine wpAt_bind ?_
  show wpAt _ _ _ (stack >>= _) _ _ _
  refine wpAt_bind (wpAt_stack fun p below => wpAt_of_wpAny ?_)
  wp_walk
  refine wpAt_of_wpAny ?_
  rw [F.owner]
  repeat (first | with_reducible refine wpAny_madeHere_exc F.canon hC ?_ | with_reducible refine wpAny_loadPart_at hC ?_ | (with_reducible refine wpAny_isSubtype_exc hC ?_; first | rw [hcB] | rw [hcA] | rw [hcN]) | wp_step)
  show R _ _
  rw [Heap.size_push]
  exact hq
theorem type_call_ownK (F : ExcBaseFacts B newId initId bmB) (hT : ∀ X : String, bm.contains (.type X) = bmB.contains (.type X)) {rest : List Value} {fI : Addr} {Q : Fin → Shared → Prop}
    (hC : h.get? C = some (excClassObj nm q C N bs bm hdct sn sub ab col dd k0 k1 k2 k3 k5 newId))
    (hi : W.Looks (model prog w) h (typeLookup (.ref C) "__init__") (some (.ref fI))) (hb : ∀ self, W.Looks (model prog w) h (bindSpecial (.ref fI) self) (.ref fI, [self])) (hrest : rest.length ≤ sizeLine)
    (hq : codeAny (model prog w) A (.call (.ref fI) ⟨.ref (h.objs.size + 1) :: rest, kw⟩)
      (fun r s' => match r with | .ok (.ret v) => v = .none ∧ Q (.done (.ret (.ref (h.objs.size + 1)))) s' | .ok _ => False | .error e => E e s')
      ⟨(h.push (W.kdv_tup rest)).push (excO C h.objs.size), g, d, t, os⟩) :
    wpAny (model prog w) A (Builtin.«type.__call__» ⟨.ref C :: rest, kw⟩) Q E ⟨h, g, d, t, os⟩ := by
  repeat (first | with_reducible refine wpAny_loadPart_at hC ?_ | with_reducible refine wpAny_madeBy_exc hC ?_ | wp_step)
  refine codeAny_call_builtin_code (Code.quiet_builtin _ F.quiet) (check_new_ownK F hT hC ?_)
  refine new_ownK F hT hC ?_ hrest
  show wpAny _ _ _ _ _ _
  have k : ∀ b o, h.get? b = some o → ((h.push (W.kdv_tup rest)).push (excO C h.objs.size)).get? b = some o := fun b o e => Heap.get?_push_of_some _ (Heap.get?_push_of_some _ e)
  have hC₁ := k _ _ hC
  have hget : ((h.push (W.kdv_tup rest)).push (excO C h.objs.size)).get? (h.objs.size + 1) = some (excO C h.objs.size) := by heap_get
  have hcC : (Value.ref C :: bm).contains (.ref C) = true := by simp
  have i1 := hi.keeps k
  have b1 := (hb (.ref (h.objs.size + 1))).keeps k
  unfold isInstance
  repeat (first | with_reducible refine wpAny_loadPart_at hget ?_ | (with_reducible refine wpAny_isSubtype_exc hC₁ ?_; rw [hcC]) | wp_step)
  show wpAny _ _ (typeLookup (.ref C) _) _ _ _
  refine i1.at ?_
  refine wpAny_holding (wpAny_bind (b1.at ?_))
  refine wpAny_bind (wpAny_call (codeAny_mono hq fun r s' z => ?_))
  rcases r with e | (v | _ | _ | _) <;> first | exact z | exact z.elim | skip
  obtain ⟨rfl, z⟩ := z
  first
    | exact wpAny_pure (wpAny_pure z)
    | (wp_walk; exact z)
theorem check_type_callK {M : Model} {A : Around} {rest : List Value} {Q : Unit → Shared → Prop} (hC : h.get? C = some (excClassObj nm q C N bs bm hdct sn sub ab col dd k0 k1 k2 k3 k5 newId))
    (hq : Q () ⟨h, g, d, t, os⟩) : wpAny M A (checkBuiltinCall "type.__call__" ⟨.ref C :: rest, kw⟩) Q E ⟨h, g, d, t, os⟩ := by
  have f3 := tc_sub
  have hT : (⟨h, g, d, t, os⟩ : Shared).TypeIs (.ref C) "type" := ⟨_, hC, rfl⟩
  simp only [checkBuiltinCall, tc_kind, tc_split]
  repeat (any_goals (first | assumption | with_reducible refine wpAny_loadPart_at hC ?_ | with_reducible refine wpAny_onRaise ?_ | with_reducible refine wpAny_map ?_ | wp_step))
theorem call_ownK (F : ExcBaseFacts B newId initId bmB) (hT : ∀ X : String, bm.contains (.type X) = bmB.contains (.type X)) {rest : List Value} {fI : Addr}
    (hC : h.get? C = some (excClassObj nm q C N bs bm hdct sn sub ab col dd k0 k1 k2 k3 k5 newId))
    (hi : W.Looks (model prog w) h (typeLookup (.ref C) "__init__") (some (.ref fI))) (hb : ∀ self, W.Looks (model prog w) h (bindSpecial (.ref fI) self) (.ref fI, [self])) (hrest : rest.length ≤ sizeLine)
    (hq : codeAny (model prog w) (A.under (.builtin "type.__call__" ⟨.ref C :: rest, kw⟩)) (.call (.ref fI) ⟨.ref (h.objs.size + 1) :: rest, kw⟩) (W.InitBack (h.objs.size + 1) R)
      ⟨(h.push (W.kdv_tup rest)).push (excO C h.objs.size), g, d, t, os⟩) :
    codeAny (model prog w) A (.call (.ref C) ⟨rest, kw⟩) R ⟨h, g, d, t, os⟩ := by
  have f1 := tc_lookup
  have f2 := tc_bind (.ref C)
  have hTy : (⟨h, g, d, t, os⟩ : Shared).TypeIs (.ref C) "type" := ⟨_, hC, rfl⟩
  refine codeAny_of_tree ?_
  show wpAny _ _ (callAny (.ref C) _) _ _ _
  repeat (any_goals (first | assumption | with_reducible refine wpAny_loadPart_at hC ?_ | wp_step))
  refine ⟨rfl, ?_⟩
  refine codeAny_call_builtin_at (Code.quiet_builtin _ (by decide +kernel)) entry_typeCall (check_type_callK hC (type_call_ownK F hT hC hi hb hrest ?_))
  refine codeAny_mono hq fun r s' z => ?_
  rcases r with e | (v | _ | _ | _) <;> exact z
end
end PLX
end PySem

namespace PL
open PySem PySem.Spec PyProof.Rows L2
section
variable {X : Cx} {T : Tab} {W : WX} {k n c : Nat} {f C : Addr} {fd : FuncData} {fs ps ks : List Str} {ar : List D → List D → List D} {x : Str} {p pos : Pos} {e : Expr} {es : List Expr} {kws : List Keyword} {ms mk2 : M (List D)}
structure ExV (P : Program) (w : World) (K : PySem.W.Frag) (T : Tab) (mg : Str → Option Value) (base : Heap) (C : Addr) (k : Nat) (fs : List Str) (n : Nat) (ks : List Str) (ar : List D → List D → List D) : Prop where
  oc : OexC K C
  at_ : ∀ f ∈ fs, PySem.W.findIn K (.ref C) f = some none
  ini : ∃ (fI : Addr) (fd : FuncData) (ps : List Str), PySem.W.findIn K (.ref C) "__init__" = some (some (.ref fI)) ∧ PySem.W.typeIn K (.ref fI) = some (.type "function") ∧ FnOk P w K mg base (CX P w) k fI fd ps (spI K fs) ∧ KB K T fd ps n ks ar
def exoM (n m c : Nat) (fs : List Str) (ar : List D → List D → List D) (ms mk2 : M (List D)) : M D := bd ms fun ds => bd mk2 fun zs => fun a => if (ds.length == n && (zs.length == m && (ar ds zs).length == fs.length)) = true then .ok (.exo c (ar ds zs)) a else .stuck
theorem exo_end {E : En} {σ : L2.St} {G : Hp} {ρ : List Addr} {a : AS} {pins : List (Addr × Obj)} {H : Hp} {s : Shared} {Q : VK} {us ws : List Value} {vs zs : List V} {ds es : List D} (hfl : T.fl c = fs) (hfs : fs.length ≤ 900) (hn : n ≤ 1000)
    (V0 : ExV X.prog X.w X.K T X.mg X.base (T.C c) k fs n ks ar) (hr : Room (k + 1) X.A) (tk : Takes X W) (I : Inv X pins σ H s) (r1 : Vals vs us) (r2 : Vals zs ws)
    (r : AR X.K T E G ρ a σ H) (q1 : RepL X.K T G ρ ds vs) (q2 : RepL X.K T G ρ es zs) (p : Post X.K T W E σ G ρ (Rep X.K T) ((if (ds.length == n && (es.length == ks.length && (ar ds es).length == fs.length)) = true then Out.ok (D.exo c (ar ds es)) a else .stuck)) Q) :
    wpAny (model X.prog X.w) X.A (call (.ref (T.C c)) us (ks.zip ws)) (EP X pins σ Q) X.xe s := by
  obtain ⟨T0, at_, fI, fd, ps, iC, tI, F1, hb⟩ := V0
  obtain ⟨gA, gV, B, hv⟩ := hb.ex
  split at p
  · rename_i hl
    rw [Bool.and_eq_true, Bool.and_eq_true, beq_iff_eq, beq_iff_eq, beq_iff_eq] at hl
    obtain ⟨nm, q, N, bs, bm, sn, sub, ab, col, dd, k0, k1, k2, k3, k5, hC, hbm⟩ := T0.cls
    obtain ⟨hp, g, dr, tk', os⟩ := s
    have hsz : hp.objs.size ≤ hp.objs.size + 1 := Nat.le_succ _
    have hn1 : H (hp.objs.size + 1) = none := I.hok.fresh hsz
    obtain ⟨rest, eg, rl⟩ := hv G ρ (.ref (hp.objs.size + 1)) ds es vs zs q1 q2
    have lr : rest.length = fs.length := by rw [rl.len]; exact hl.2.2
    have ew : H (hp.objs.size + 1) = none := hn1
    have hq : spI X.K fs (gV (.ref (hp.objs.size + 1) :: vs) zs) (upd H (hp.objs.size + 1) (exo (hp.objs.size + 1) (T.C c) none)) (fun v H2 => v = .non ∧ Q (.ref (hp.objs.size + 1)) H2) (fun _ _ _ => False) := by
      rw [eg]
      refine ⟨_, T.C c, rest, rfl, lr, T0, upd_same, at_, fun hz => ⟨rfl, ?_⟩, fun hz d hd nd => ⟨rfl, ?_⟩⟩
      · obtain ⟨g1, r3⟩ := r.lay (o := exo (hp.objs.size + 1) (T.C c) none) hn1 (fun _ => exo_tbl)
        refine p _ ρ _ _ g1 (List.prefix_refl _) r3 ?_
        unfold Rep
        refine ⟨_, rest, rfl, .inl ⟨by rw [hfl, hz]; rfl, upd_same⟩, by rw [hfl]; exact lr, RepL.ge g1 (List.prefix_refl _) _ _ rl⟩
      · have hd1 : H d = none := by rw [upd_ne nd] at hd; exact hd
        obtain ⟨g1, r3⟩ := r.lay (o := exd d (fs.zip rest).reverse) hd1 (fun ps z => by have z' : HO.ext _ = HO.tbl ps := z; cases z')
        have hn2 : upd H d (exd d (fs.zip rest).reverse) (hp.objs.size + 1) = none := by rw [upd_ne (Ne.symm nd)]; exact hn1
        obtain ⟨g2, r4⟩ := r3.lay (o := exo (hp.objs.size + 1) (T.C c) (some d)) hn2 (fun _ => exo_tbl)
        have eH : updX (upd H (hp.objs.size + 1) (exo (hp.objs.size + 1) (T.C c) none)) (hp.objs.size + 1) (T.C c) d (fs.zip rest).reverse = upd (upd H d (exd d (fs.zip rest).reverse)) (hp.objs.size + 1) (exo (hp.objs.size + 1) (T.C c) (some d)) := by
          unfold updX
          funext b
          by_cases hb : b = hp.objs.size + 1
          · subst hb; rw [upd_same, upd_same]
          · rw [upd_ne hb, upd_ne hb]
            by_cases hd' : b = d
            · subst hd'; rw [upd_same, upd_same]
            · rw [upd_ne hd', upd_ne hd', upd_ne hb]
        rw [eH]
        refine p _ ρ _ _ (g1.trans g2) (List.prefix_refl _) r4 ?_
        unfold Rep
        refine ⟨_, rest, rfl, .inr ⟨d, upd_same, ?_⟩, by rw [hfl]; exact lr, RepL.ge (g1.trans g2) (List.prefix_refl _) _ _ rl⟩
        rw [upd_ne nd, upd_same, hfl]
    have kk : ∀ b o, hp.get? b = some o → ((hp.push (PySem.W.kdv_tup us)).push (PySem.HandSPX.excO (T.C c) hp.objs.size)).get? b = some o := fun b o e => Heap.get?_push_of_some _ (Heap.get?_push_of_some _ e)
    have hget : ((hp.push (PySem.W.kdv_tup us)).push (PySem.HandSPX.excO (T.C c) hp.objs.size)).get? (hp.objs.size + 1) = some (PySem.HandSPX.excO (T.C c) hp.objs.size) := by heap_get
    have I2 : Inv X pins σ (upd H (hp.objs.size + 1) (exo (hp.objs.size + 1) (T.C c) none)) ⟨(hp.push (PySem.W.kdv_tup us)).push (PySem.HandSPX.excO (T.C c) hp.objs.size), g, dr, tk', os⟩ :=
      I.laid (t' := tk') (a := hp.objs.size + 1) (o := exo (hp.objs.size + 1) (T.C c) none) (h' := (hp.push (PySem.W.kdv_tup us)).push (PySem.HandSPX.excO (T.C c) hp.objs.size)) kk hsz (exo_ok hget)
    have r3 : Vals (V.ref (hp.objs.size + 1) :: vs) (Value.ref (hp.objs.size + 1) :: us) := .cons rfl r1
    have l1 : (Value.ref (hp.objs.size + 1) :: us).length = n + 1 := by rw [List.length_cons, ← r1.length, q1.len, hl.1]
    have l2 : ws.length = ks.length := by rw [← r2.length, q2.len, hl.2.1]
    have hus : us.length ≤ sizeLine := by
      rw [← r1.length, q1.len, hl.1, sizeLine_eq]
      omega
    refine wpAny_call (PySem.PLX.call_ownK F.excBase_ValueError (fun Y => PySem.HandSPX.refsVE_contains Y bm hbm) (I.kIn _ _ hC) (PySem.W.looks_findIn I.kIn iC) (fun self => PySem.W.bind_fn I.kIn self tI) hus
      (codeAny_mono (F1.run _ X.stack _ _ ⟨Value.ref (hp.objs.size + 1) :: us, ks.zip ws⟩ (gA (Value.ref (hp.objs.size + 1) :: us) ws) _ _ (fun _ _ _ => False) (hr.make (T.C c) us (ks.zip ws)) (I2.env0.make (T.C c) us (ks.zip ws))
        (B.to _ (Value.ref (hp.objs.size + 1) :: us) ws I2.kIn l1 l2) (B.rel r3 r2) hq) fun r' s' hq' => ?_))
    cases r' with
    | error er => exact (passes_call tk (fun _ _ _ _ z => z.elim)) pins σ _ _ er s' I2 hq'
    | ok fl =>
      cases fl with
      | ret u =>
        obtain ⟨v, H', I3, rv, ev, q3⟩ := I2.after hq'
        subst ev
        exact ⟨rv, ⟨V.ref (hp.objs.size + 1), H', I3, rfl, q3⟩⟩
      | next => exact False.elim hq'
      | brk => exact False.elim hq'
      | cont => exact False.elim hq'
  · exact p.elim
theorem px_exo (hfl : T.fl c = fs) (V0 : ExV X.prog X.w X.K T X.mg X.base (T.C c) k fs n ks ar) (hr : Room (k + 1) X.A) (hm : X.mg x = some (.ref (T.C c))) (tk : Takes X W)
    (ha : PA X (e :: es) (tA X.K T W ms)) (hkw : PKD X T W kws mk2) (hfs : fs.length ≤ 900 := by decide) (hn : n ≤ 1000 := by decide) (hg : Gl X x := by rfl)
    (hall : (backToKw pos (keywordEach kws X.env)).all (·.1.isSome) = true := by rfl) (hks : (backToKw pos (keywordEach kws X.env)).filterMap (·.1) = ks := by rfl) (hdb : (x == ("__debug__" : Str)) = false := by decide)
    (he : starEach (e :: es) X.env = (false, eval e X.env) :: starEach es X.env := by rfl) (hpl : ((backTo pos (starEach (e :: es) X.env)).any (·.1) || (backToKw pos (keywordEach kws X.env)).any (·.1.isNone)) = false := by rfl) :
    PE X (.Call (.Name x p) (e :: es) kws pos) (tE X.K T W (exoM n ks.length c fs ar ms mk2)) := by
  refine ⟨fun pins s σ H Q I h => ?_⟩
  refine wpAny_Call_Name_kw (ld_glob I hg hm ?_ hdb)
  refine PySem.W.callWith_KW (h₀ := X.base) I.ok.mod.kin V0.oc.kC hall (thn (ha.run pos pins s σ H (fun vs H1 => tX X.K T W (RepL X.K T) mk2 σ H1 fun zs H2 => ∃ E G ρ a ds es, AR X.K T E G ρ a σ H2 ∧ RepL X.K T G ρ ds vs ∧ RepL X.K T G ρ es zs ∧ Post X.K T W E σ G ρ (Rep X.K T) ((if (ds.length == n && (es.length == ks.length && (ar ds es).length == fs.length)) = true then Out.ok (D.exo c (ar ds es)) a else .stuck)) Q) I ?_) fun us s1 ⟨vs, H1, I1, r, q⟩ => ?_) hpl he
  · refine tX.bind h fun E ds a1 G1 ρ1 H1 vs r1 q1 p1 => ?_
    refine ⟨E, G1, ρ1, a1, r1, Post.bind p1 fun es a2 G2 ρ2 H2 zs g2 l2 r2 q2 p2 => ?_⟩
    exact ⟨E, G2, ρ2, a2, ds, es, r2, RepL.ge g2 l2 _ _ q1, q2, p2⟩
  · refine thn (hkw.run pos pins s1 σ H1 _ I1 q) fun ws s2 ⟨zs, H2, I2, rz, E, G, ρ, a, ds, es, r2, q1, q2, p2⟩ => ⟨I2.kIn, ?_⟩
    rw [hks]
    exact exo_end hfl hfs hn V0 hr tk I2 r rz r2 q1 q2 p2
theorem px_exoK0 (hfl : T.fl c = fs) (V0 : ExV X.prog X.w X.K T X.mg X.base (T.C c) k fs n ks ar) (hr : Room (k + 1) X.A) (hm : X.mg x = some (.ref (T.C c))) (tk : Takes X W)
    (hkw : PKD X T W kws mk2) (hfs : fs.length ≤ 900 := by decide) (hn : n ≤ 1000 := by decide) (hg : Gl X x := by rfl)
    (hall : (backToKw pos (keywordEach kws X.env)).all (·.1.isSome) = true := by rfl) (hks : (backToKw pos (keywordEach kws X.env)).filterMap (·.1) = ks := by rfl) (hdb : (x == ("__debug__" : Str)) = false := by decide)
    (hpl : ((backTo pos (starEach [] X.env)).any (·.1) || (backToKw pos (keywordEach kws X.env)).any (·.1.isNone)) = false := by rfl) :
    PE X (.Call (.Name x p) [] kws pos) (tE X.K T W (exoM n ks.length c fs ar nilM mk2)) := by
  refine ⟨fun pins s σ H Q I h => ?_⟩
  refine wpAny_Call_Name_kw (ld_glob I hg hm ?_ hdb)
  refine PySem.W.callWith_KW0 (h₀ := X.base) I.ok.mod.kin V0.oc.kC hall ?_ hpl
  refine thn (hkw.run pos pins s σ H (fun zs H2 => ∃ E G ρ a es, AR X.K T E G ρ a σ H2 ∧ RepL X.K T G ρ es zs ∧ Post X.K T W E σ G ρ (Rep X.K T) ((if (([] : List D).length == n && (es.length == ks.length && (ar [] es).length == fs.length)) = true then Out.ok (D.exo c (ar [] es)) a else .stuck)) Q) I ?_) fun ws s2 ⟨zs, H2, I2, rz, E, G, ρ, a, es, r2, q2, p2⟩ => ⟨I2.kIn, ?_⟩
  · refine tX.bind (f := fun es => fun a => (if (([] : List D).length == n && (es.length == ks.length && (ar [] es).length == fs.length)) = true then Out.ok (D.exo c (ar [] es)) a else .stuck)) h fun E es a2 G2 ρ2 H2 zs r2 q2 p2 => ?_
    exact ⟨E, G2, ρ2, a2, es, r2, q2, p2⟩
  · rw [hks]
    exact exo_end hfl hfs hn V0 hr tk I2 .nil rz r2 RepL.nil q2 p2
end
end PL

namespace PL
open PySem PySem.Spec PyProof.Rows L2
def XcF (K : PySem.W.Frag) (T : Tab) (xc : Nat → Bool) : Prop := ∀ c, xc c = true → XfC K (T.C c) ∧ ∀ f ∈ T.fl c, PySem.W.findIn K (.ref (T.C c)) f = some none
def xatD (tb : TB) (xc : Nat → Bool) (f : Str) : D → Option D
  | .exo c ds => if (xc c && (tb.fl c).contains f) = true then (((tb.fl c).zip ds).reverse).lookup f else none
  | _ => none
def xatM (tb : TB) (xc : Nat → Bool) (f : Str) (m : M D) : M D := bd m fun x => rdM fun _ => xatD tb xc f x
section
variable {X : Cx} {T : Tab} {W : WX}
theorem px_xat {tb : TB} {xc : Nat → Bool} {e : Expr} {f : Str} {m : M D} {pos : Pos} (F : XcF X.K T xc) (hT : T.toTB = tb) (he : PE X e (tE X.K T W m)) (hb : attributeBase e f X.env (eval e X.env) = eval e X.env := by rfl) : PE X (.Attribute e f pos) (tE X.K T W (xatM tb xc f m)) := by
  refine ⟨fun pins s σ H Q I h => ?_⟩
  subst hT
  refine attr_of hb (thn (he.run pins s σ H (fun x H1 => ∃ E G ρ a d, AR X.K T E G ρ a σ H1 ∧ Rep X.K T G ρ d x ∧ Post X.K T W E σ G ρ (Rep X.K T) (rdM (fun _ => xatD T.toTB xc f d) a) Q) I ?_) fun u s1 hh => ?_)
  · exact tX.bind h fun E x a1 G1 ρ1 H1 v r1 q1 p1 => ⟨E, G1, ρ1, a1, x, r1, q1, p1⟩
  · obtain ⟨x, H1, I1, rx, E, G, ρ, a, d, r, q, p⟩ := hh
    cases d with
    | exo c ds =>
      unfold rdM xatD at p
      dsimp only at p
      split at p
      · rename_i hc
        rw [Bool.and_eq_true] at hc
        cases ey : List.lookup f ((T.fl c).zip ds).reverse with
        | none => rw [ey] at p; exact p.elim
        | some y =>
          rw [ey] at p
          obtain ⟨F1, F2⟩ := F c hc.1
          unfold Rep at q
          obtain ⟨b, vs, rfl, ea, lv, rl⟩ := q
          obtain rfl : u = Value.ref b := rx
          have rz := (RepF.zip (K := X.K) (T := T) (G := G) (ρ := ρ) (fs := T.fl c) rl).rev
          obtain ⟨w, hw, rw'⟩ := rz.look ey
          rcases ea with ⟨e0, _⟩ | ⟨d, ea, ed⟩
          · rw [e0] at hw
            cases hw
          · obtain ⟨t1, ho⟩ := exo_at I1.hok (r.sub _ _ ea)
            obtain ⟨mA, hns, hr⟩ := exd_at I1.hok (r.sub _ _ ed)
            obtain ⟨od, ho2, hl⟩ := lookIn_ns hns
            obtain ⟨u2, hu, ru⟩ := RelO.some_of (v := w) (o := mA f) (by rw [← hw]; exact hr f)
            have J : PySem.W.InstAt s1.heap b { cls := .ref (T.C c), dict := some d, data := .fields #[.ref t1, .none, .none, .none, .bool false, .none] } (T.C c) (some od) := ⟨ho, rfl, rfl, ho2⟩
            refine HandSPX.exc_get I1.kIn J F1.ga F1.gg F1.exC (PySem.W.findObj_own F1.hdC (F2 f (by simpa using hc.2)) rfl (by rw [hl, hu])) (handed_of ru) ⟨w, H1, I1.tok _, ru, ?_⟩
            exact p G ρ H1 w Ge.rfl' (List.prefix_refl _) r rw'
      · exact p.elim
    | _ => exact p.elim
end
def XcI (K : PySem.W.Frag) (T : Tab) (sub : Nat → D → Option Bool) : Prop := ∀ c k b, sub c k = some b → ∃ u, kindD T k = some u ∧ ExcC K (T.C c) ∧ PySem.W.kitOne K (.ref (T.C c)) u = some b
def isxM (sub : Nat → D → Option Bool) : List Cell → List D → Option D
  | _, [.exo c _, k] => (sub c k).map .bl
  | _, _ => none
def rIsX (K : PySem.W.Frag) : List V → Hp → VK → Prop := fun xs H Q => ∃ (a C : Addr) (fs : List (Str × V)) (c : V) (cv : Value) (b : Bool), xs = [.ref a, c] ∧ ExoA H a C fs ∧ ClsV c cv ∧ ExcC K C ∧ PySem.W.kitOne K (.ref C) cv = some b ∧ Q (.bl b) H
section
variable {X : Cx} {T : Tab} {W : WX}
theorem call_isX : CallR X (.builtin "isinstance") (rIsX X.K) := by
  intro pins s σ H xs us Q I r h
  obtain ⟨a, C, fs, c, cv, b, rfl, ea, k, Z, e, q⟩ := h
  obtain ⟨u1, u2, rfl, r1, r2⟩ := vals2 r
  cases (show u1 = Value.ref a from r1)
  have e2 := k.eq r2
  subst e2
  have hcl : (PySem.W.clsIn X.K C).isSome = true := by
    obtain ⟨cd, hc, _⟩ := PySem.W.any_some Z.hd
    rw [hc]
    rfl
  have J : ∃ ox od, PySem.W.InstAt s.heap a ox C od := by
    rcases ea with ⟨_, ea⟩ | ⟨d, ea, ed⟩
    · obtain ⟨t1, ho⟩ := exo_at I.hok ea
      exact ⟨_, none, ho, rfl, rfl, trivial⟩
    · obtain ⟨t1, ho⟩ := exo_at I.hok ea
      obtain ⟨mA, hns, hr⟩ := exd_at I.hok ed
      obtain ⟨od, ho2, hl⟩ := lookIn_ns hns
      exact ⟨_, some od, ho, rfl, rfl, ho2⟩
  obtain ⟨ox, od, J⟩ := J
  exact PySem.W.kia_one (PySem.W.kitx_exc hcl Z.hg Z.hk Z.hs Z.ha Z.hn Z.ht Z.hm) I.kIn J e (fun z => nomatch z) fun tk => ⟨.bl b, H, I.tok tk, rfl, q⟩
theorem cl_isx {sub : Nat → D → Option Bool} (F : XcI X.K T sub) : CalR X T (.builtin "isinstance") (isxM sub) := ⟨_, call_isX, fun st xs z e W E G ρ a σ H vs Q hst r q p => by
  unfold isxM at e
  split at e
  · rename_i c ds k
    cases e1 : sub c k with
    | none => rw [e1] at e; cases e
    | some b =>
      rw [e1] at e
      cases e
      obtain ⟨u, hu, Z, hk⟩ := F c k b e1
      obtain ⟨v, w, ev, q1, q2⟩ := q.two
      unfold Rep at q1
      obtain ⟨b', vs', ev', ea, _, _⟩ := q1
      subst ev'
      exact ⟨b', _, _, w, u, b, ev, ea.elim (fun z => .inl ⟨z.1, r.sub _ _ z.2⟩) (fun ⟨d, z1, z2⟩ => .inr ⟨d, r.sub _ _ z1, r.sub _ _ z2⟩), rep_kind hu q2, Z, hk, Post.here p r to_bl⟩
  · cases e⟩
def tVe : TE := fun σ H Q => ∀ a, H a = none → Q (.ref a) (upd H a (ExO (.type "ValueError") a))
theorem pe_ve {m : Str} {j : Nat} {p p2 pos : Pos} (hm : X.mg "ValueError" = none) (hg : Gl X "ValueError" := by rfl) (hv : bootBuiltins "ValueError" = some (.type "ValueError") := by decide +kernel) : PE X (.Call (.Name "ValueError" p) [.Constant (.str m) j p2] [] pos) tVe := by
  refine ⟨fun pins s σ H Q J h => ?_⟩
  refine wpAny_Call_Name_kw (ld_blt J hg hm hv ?_ (by decide) (by decide))
  have ha : PA X [.Constant (.str m) j p2] (tCons (tC (.str m)) tNil) := pa_cons pe_str pa_nil
  refine PyProof.Rows.callWith_type1 (thn (ha.run pos pins s σ H (fun vs H1 => vs = [V.str m] ∧ H = H1) J ⟨rfl, rfl⟩) fun us s1 hh => ?_) rfl rfl
  obtain ⟨vs, H1, I1, r1, q0, q1⟩ := hh
  subst q0
  subst q1
  obtain ⟨hp1, g1, d1, tk1, os1⟩ := s1
  refine wpAny_call_exc exb_ValueError.call (fun h' a mk => ?_) (Nat.le_trans (Nat.le_of_eq r1.length.symm) (by show 1 ≤ sizeLine; rw [sizeLine_eq]; omega))
  have mk2 := PySem.Heap.MadeExc.of mk
  have hn : H a = none := I1.hok.gone mk2.new
  obtain ⟨t, ht, _, _⟩ := mk2.there
  exact ⟨.ref a, upd H a (ExO (.type "ValueError") a), I1.laidN mk2.keeps mk2.new hn (exO_ok ht ⟨rfl, rfl⟩ rfl rfl rfl (show 4 < 6 by decide)), rfl, h a hn⟩
def rIsV (K : PySem.W.Frag) : List V → Hp → VK → Prop := fun xs H Q => ∃ (a : Addr) (c : V) (cv : Value) (b : Bool), xs = [.ref a, c] ∧ H a = some (ExO (.type "ValueError") a) ∧ ClsV c cv ∧ PySem.W.kitOne K (.type "ValueError") cv = some b ∧ Q (.bl b) H
theorem call_isV : CallR X (.builtin "isinstance") (rIsV X.K) := by
  intro pins s σ H xs us Q I r h
  obtain ⟨a, c, cv, b, rfl, ea, k, e, q⟩ := h
  obtain ⟨u1, u2, rfl, r1, r2⟩ := vals2 r
  cases (show u1 = Value.ref a from r1)
  have e2 := k.eq r2
  subst e2
  obtain ⟨⟨oe, vs, ho, hz, _⟩, _, _⟩ := I.hok a _ ea
  exact PySem.W.kia_one (PySem.W.kitx_bexc PySem.F.excAttr_ValueError PySem.F.lkClass_ValueError PySem.F.soClass_ValueError (by decide +kernel)) I.kIn ⟨oe, ho, hz.1⟩ e (fun z => nomatch z) fun tk => ⟨.bl b, H, I.tok tk, rfl, q⟩
theorem px_isve {x m : Str} {C : Addr} {j : Nat} {b : Bool} {p1 p2 p3 p4 p5 pos : Pos} (hm : X.mg "isinstance" = none) (hv : X.mg "ValueError" = none) (hC : X.mg x = some (.ref C)) (hk : PySem.W.kitOne X.K (.type "ValueError") (.ref C) = some b) (hg : Gl X x := by rfl) (hdb : (x == ("__debug__" : Str)) = false := by decide)
    (hg1 : Gl X "isinstance" := by rfl) (hg2 : Gl X "ValueError" := by rfl) (hb : bootBuiltins "isinstance" = some (.builtin "isinstance") := by decide +kernel) :
    PE X (.Call (.Name "isinstance" p1) [.Call (.Name "ValueError" p2) [.Constant (.str m) j p3] [] p4, .Name x p5] [] pos) (tE X.K T W (ret (.bl b))) := by
  refine PE.imp (pe_callB (r := rIsV X.K) call_isV hg1 hm hb (pa_cons (pe_ve hv hg2) (pa_cons (pe_glob (v := .ref C) hg hC rfl hdb) pa_nil))) fun σ H Q ⟨E, G, ρ, a, r, p⟩ => ?_
  intro y hy
  show rIsV X.K [V.ref y, V.ref C] (upd H y (ExO (.type "ValueError") y)) Q
  refine ⟨y, .ref C, .ref C, b, rfl, upd_same, .own C, hk, ?_⟩
  exact p G ρ _ _ Ge.rfl' (List.prefix_refl _) (r.junk hy) (by unfold Rep; rfl)
end
theorem exv_ok {P : Program} {w : World} {K : PySem.W.Frag} {T : Tab} {mg : Str → Option Value} {base : Heap} {x : Str} {k n : Nat} {fs ps ks : List Str} {ar : List D → List D → List D} {fd : FuncData} (h : exkB K x fs = true) (hm : Meth K (He.ga K x) "__init__" (He.fAd K (x, some "__init__"))) (F : FnOk P w K mg base (CX P w) k (He.fAd K (x, some "__init__")) fd ps (spI K fs)) (hb : KB K T fd ps n ks ar) : ExV P w K T mg base (He.ga K x) k fs n ks ar := by
  obtain ⟨h1, h2⟩ := He.ba h
  exact ⟨oexB_ok h1, fun f hf => He.eqO_ok (List.all_eq_true.mp h2 f hf), _, fd, ps, hm.at_, beq_iff_eq.mp hm.fn, F, hb⟩
def xcT (lo hi c : Nat) : Bool := decide (lo ≤ c) && decide (c < hi)
def xcB (K : PySem.W.Frag) (xs : List Str) (fls : List (List Str)) (lo hi : Nat) : Bool := (List.range hi).all fun c => decide (c < lo) || fldB K (xs.getD c Str.empty) (fls.getD c [])
theorem xcB_ok {K : PySem.W.Frag} {xs : List Str} {lo hi n : Nat} {fls : List (List Str)} {ts : List (Addr × Str)} (h : xcB K xs fls lo hi = true) : XcF K (mkT K xs n fls ts) (xcT lo hi) := fun c hc => by
  unfold xcT at hc
  rw [Bool.and_eq_true, decide_eq_true_eq, decide_eq_true_eq] at hc
  have h2 := List.all_eq_true.mp h c (List.mem_range.mpr hc.2)
  rw [Bool.or_eq_true, decide_eq_true_eq] at h2
  rcases h2 with h2 | h2
  · omega
  · exact ⟨fldB_x h2, fun f hf => fldB_f h2 hf⟩
def exccB (K : PySem.W.Frag) (D : Addr) : Bool := He.eqO (PySem.W.findIn K (.ref D) "__getattribute__") (some (some (.builtin "BaseException.__getattribute__"))) && (He.eqO (PySem.W.findIn K (.ref D) "__getattr__") (some none) && (decide (PySem.W.subIn K (.ref D) (.type "BaseException") = some true) && (PySem.W.hasDictIn K D && (He.eqO (PySem.W.findIn K (.ref D) "__class__") (some (some (.builtin "object.__class__"))) &&
  (He.eqO (PySem.W.specialIn K (.builtin "object.__class__") "__get__") (some (some (.builtin "getset_descriptor.__get__"))) && (decide (PySem.W.takesIn K (.builtin "object.__class__") = some true) && decide (PySem.W.mroIn K D (.type "object") = some true)))))))
theorem exccB_ok {K : PySem.W.Frag} {D : Addr} (h : exccB K D = true) : ExcC K D := by
  obtain ⟨h1, h⟩ := He.ba h
  obtain ⟨h2, h⟩ := He.ba h
  obtain ⟨h3, h⟩ := He.ba h
  obtain ⟨h4, h⟩ := He.ba h
  obtain ⟨h5, h⟩ := He.ba h
  obtain ⟨h6, h⟩ := He.ba h
  obtain ⟨h7, h8⟩ := He.ba h
  exact ⟨He.eqO_ok h1, He.eqO_ok h2, of_decide_eq_true h3, h4, He.eqO_ok h5, He.eqO_ok h6, of_decide_eq_true h7, of_decide_eq_true h8⟩
def subI (lo hi b : Nat) (c : Nat) : D → Option Bool
  | .cls k => if (xcT lo hi c && xcT lo hi k) = true then some (c == k || k == b) else none
  | .ty n => if (xcT lo hi c && n == "ValueError") = true then some true else none
  | _ => none
def isxB (K : PySem.W.Frag) (xs : List Str) (lo hi b : Nat) : Bool := (List.range hi).all fun c => decide (c < lo) || (exccB K (He.ga K (xs.getD c Str.empty)) && (decide (PySem.W.kitOne K (.ref (He.ga K (xs.getD c Str.empty))) (.type "ValueError") = some true) &&
  (List.range hi).all fun k => decide (k < lo) || decide (PySem.W.kitOne K (.ref (He.ga K (xs.getD c Str.empty))) (.ref (He.ga K (xs.getD k Str.empty))) = some (c == k || k == b))))
theorem isxB_ok {K : PySem.W.Frag} {xs : List Str} {lo hi b n : Nat} {fls : List (List Str)} {ts : List (Addr × Str)} (h : isxB K xs lo hi b = true) : XcI K (mkT K xs n fls ts) (subI lo hi b) := fun c k y e => by
  have key : ∀ c, xcT lo hi c = true → lo ≤ c ∧ c < hi := fun c hc => by
    unfold xcT at hc
    rwa [Bool.and_eq_true, decide_eq_true_eq, decide_eq_true_eq] at hc
  have at_ : ∀ c, xcT lo hi c = true → (exccB K (He.ga K (xs.getD c Str.empty)) && (decide (PySem.W.kitOne K (.ref (He.ga K (xs.getD c Str.empty))) (.type "ValueError") = some true) &&
      (List.range hi).all fun k => decide (k < lo) || decide (PySem.W.kitOne K (.ref (He.ga K (xs.getD c Str.empty))) (.ref (He.ga K (xs.getD k Str.empty))) = some (c == k || k == b)))) = true := fun c hc => by
    obtain ⟨h1, h2⟩ := key c hc
    have h3 := List.all_eq_true.mp h c (List.mem_range.mpr h2)
    rw [Bool.or_eq_true, decide_eq_true_eq] at h3
    rcases h3 with h3 | h3
    · omega
    · exact h3
  unfold subI at e
  split at e
  · rename_i k
    split at e
    · rename_i hc
      rw [Bool.and_eq_true] at hc
      cases e
      obtain ⟨g1, g2⟩ := He.ba (at_ c hc.1)
      obtain ⟨g3, g4⟩ := He.ba g2
      obtain ⟨k1, k2⟩ := key k hc.2
      have g5 := List.all_eq_true.mp g4 k (List.mem_range.mpr k2)
      rw [Bool.or_eq_true, decide_eq_true_eq] at g5
      rcases g5 with g5 | g5
      · omega
      · exact ⟨_, rfl, exccB_ok g1, of_decide_eq_true g5⟩
    · cases e
  · rename_i m
    split at e
    · rename_i hc
      rw [Bool.and_eq_true] at hc
      cases e
      obtain ⟨g1, g2⟩ := He.ba (at_ c hc.1)
      obtain ⟨g3, g4⟩ := He.ba g2
      have em := eq_of_beq hc.2
      subst em
      exact ⟨_, rfl, exccB_ok g1, of_decide_eq_true g3⟩
    · cases e
  · cases e
end PL

namespace PL.k04
open PySem PySem.Spec PyProof.Rows L2
def xs : List Str := ["LaneError", "NoNumber", "NoContent", "NoGrid", "NoItem", "NoPage", "ManyLanes", "NoPath", "NoRange", "TooMany", "NoWish", "OtherBoxes", "NoAxis", "NoArea", "NoSizes", "NoCrossings", "NoOrder", "NoText", "NoStates"]
def nI : Nat := 0
def fls : List (List Str) := [[], ["part"], ["part", "index"], ["part", "index"], ["part"], ["part", "index"], ["axis"], ["path"], ["part"], ["most"], ["wish"], ["one", "other"], [], ["index"], ["index"], ["index"], ["index"], ["line"], []]
def tb : TB := mkTB nI fls
def subT : Nat → Nat → Option Bool := subX 0 19 0
def subIT : Nat → D → Option Bool := subI 0 19 0
def xcTT : Nat → Bool := xcT 0 19

def M__law_draw : M Fl := seqM (ifM (op2 gtM (bd (varM 0) fun x => bd (ret (.int 0)) fun i => rdM fun st => ixM st x i) (ret (.int 0)))
    (seqM (setM 2 (opM modM (calM intM (consM (bd (varM 0) fun x => bd (ret (.int 0)) fun i => rdM fun st => ixM st x i) nilM)) (varM 1)))
    (seqM (subC (varM 0) (ret (.int 0)) (opM fdivM (bd (varM 0) fun x => bd (ret (.int 0)) fun i => rdM fun st => ixM st x i) (varM 1)))
    (retM (varM 2))))
    (nxM))
    (seqM (subC (varM 0) (ret (.int 2)) (opM addM (bd (varM 0) fun x => bd (ret (.int 2)) fun i => rdM fun st => ixM st x i) (ret (.int 1))))
    (seqM (setM 3 (opM modM (calM intM (consM (opM mulM (opM addM (opM addM (bd (varM 0) fun x => bd (ret (.int 1)) fun i => rdM fun st => ixM st x i) (opM mulM (ret (.int 104729)) (bd (varM 0) fun x => bd (ret (.int 2)) fun i => rdM fun st => ixM st x i))) (ret (.int 1))) (ret (.int 48271))) nilM)) (ret (.int 2147483647))))
    (seqM (setM 3 (opM modM (calM intM (consM (opM mulM (varM 3) (opM addM (opM fdivM (varM 3) (ret (.int 1009))) (ret (.int 69621)))) nilM)) (ret (.int 2147483647))))
    (retM (opM modM (calM intM (consM (opM modM (calM intM (consM (opM mulM (varM 3) (opM addM (opM fdivM (varM 3) (ret (.int 2003))) (ret (.int 40692)))) nilM)) (ret (.int 2147483399))) nilM)) (varM 1))))))
def f__law_draw : FD := mkF 4 M__law_draw
def M__law_one : M Fl := retM (bd (varM 1) fun x => bd (callA 2 f__law_draw [] (consM (varM 0) (consM (calM lenM (consM (varM 1) nilM)) nilM))) fun i => rdM fun st => ixM st x i)
def f__law_one : FD := mkF 2 M__law_one
def M__law_by_place : M Fl := seqM (setM 1 (bd (bd (consM (exoM 1 0 1 ["part"] (fun ds zs => arr [.p 0] ds [] [] zs) (consM (varM 0) nilM) nilM) (consM (exoM 2 0 2 ["part", "index"] (fun ds zs => arr [.p 0, .p 1] ds [] [] zs) (consM (varM 0) (consM (ret (.int 7)) nilM)) nilM) (consM (exoM 2 0 3 ["part", "index"] (fun ds zs => arr [.p 0, .p 1] ds [] [] zs) (consM (varM 0) (consM (ret (.int 7)) nilM)) nilM) (consM (exoM 1 0 4 ["part"] (fun ds zs => arr [.p 0] ds [] [] zs) (consM (varM 0) nilM) nilM) nilM)))) fun xs => if xs.length ≤ 1000 then ret xs else no) fun ds => ret (.lst ds)))
    (seqM (setM 1 (bd (catM (varM 1) (bd (bd (consM (exoM 2 0 5 ["part", "index"] (fun ds zs => arr [.p 0, .p 1] ds [] [] zs) (consM (varM 0) (consM (ret (.int 7)) nilM)) nilM) (consM (exoM 1 0 6 ["axis"] (fun ds zs => arr [.p 0] ds [] [] zs) (consM (varM 0) nilM) nilM) (consM (exoM 1 0 7 ["path"] (fun ds zs => arr [.p 0] ds [] [] zs) (consM (varM 0) nilM) nilM) (consM (exoM 1 0 8 ["part"] (fun ds zs => arr [.p 0] ds [] [] zs) (consM (varM 0) nilM) nilM) nilM)))) fun xs => if xs.length ≤ 1000 then ret xs else no) fun ds => ret (.lst ds))) fun ds => ret (.lst ds)))
    (seqM (setM 1 (bd (catM (varM 1) (bd (bd (consM (exoM 1 0 9 ["most"] (fun ds zs => arr [.p 0] ds [] [] zs) (consM (varM 0) nilM) nilM) (consM (exoM 1 0 10 ["wish"] (fun ds zs => arr [.p 0] ds [] [] zs) (consM (varM 0) nilM) nilM) (consM (exoM 2 0 11 ["one", "other"] (fun ds zs => arr [.p 0, .p 1] ds [] [] zs) (consM (varM 0) (consM (ret (.int 7)) nilM)) nilM) (consM (exoM 1 0 13 ["index"] (fun ds zs => arr [.p 0] ds [] [] zs) (consM (varM 0) nilM) nilM) nilM)))) fun xs => if xs.length ≤ 1000 then ret xs else no) fun ds => ret (.lst ds))) fun ds => ret (.lst ds)))
    (seqM (setM 1 (bd (catM (varM 1) (bd (bd (consM (exoM 1 0 14 ["index"] (fun ds zs => arr [.p 0] ds [] [] zs) (consM (varM 0) nilM) nilM) (consM (exoM 1 0 15 ["index"] (fun ds zs => arr [.p 0] ds [] [] zs) (consM (varM 0) nilM) nilM) (consM (exoM 1 0 16 ["index"] (fun ds zs => arr [.p 0] ds [] [] zs) (consM (varM 0) nilM) nilM) (consM (exoM 1 0 17 ["line"] (fun ds zs => arr [.p 0] ds [] [] zs) (consM (varM 0) nilM) nilM) nilM)))) fun xs => if xs.length ≤ 1000 then ret xs else no) fun ds => ret (.lst ds))) fun ds => ret (.lst ds)))
    (retM (varM 1)))))
def f__law_by_place : FD := mkF 2 M__law_by_place
def M__law_by_name : M Fl := seqM (setM 1 (bd (bd (consM (exoM 0 1 1 ["part"] (fun ds zs => arr [.k 0] ds [] [] zs) nilM (consM (varM 0) nilM)) (consM (exoM 0 2 2 ["part", "index"] (fun ds zs => arr [.k 1, .k 0] ds [] [] zs) nilM (consM (ret (.int 7)) (consM (varM 0) nilM))) (consM (exoM 0 2 3 ["part", "index"] (fun ds zs => arr [.k 1, .k 0] ds [] [] zs) nilM (consM (ret (.int 7)) (consM (varM 0) nilM))) nilM))) fun xs => if xs.length ≤ 1000 then ret xs else no) fun ds => ret (.lst ds)))
    (seqM (setM 1 (bd (catM (varM 1) (bd (bd (consM (exoM 0 1 4 ["part"] (fun ds zs => arr [.k 0] ds [] [] zs) nilM (consM (varM 0) nilM)) (consM (exoM 0 2 5 ["part", "index"] (fun ds zs => arr [.k 1, .k 0] ds [] [] zs) nilM (consM (ret (.int 7)) (consM (varM 0) nilM))) (consM (exoM 0 1 6 ["axis"] (fun ds zs => arr [.k 0] ds [] [] zs) nilM (consM (varM 0) nilM)) nilM))) fun xs => if xs.length ≤ 1000 then ret xs else no) fun ds => ret (.lst ds))) fun ds => ret (.lst ds)))
    (seqM (setM 1 (bd (catM (varM 1) (bd (bd (consM (exoM 0 1 7 ["path"] (fun ds zs => arr [.k 0] ds [] [] zs) nilM (consM (varM 0) nilM)) (consM (exoM 0 1 8 ["part"] (fun ds zs => arr [.k 0] ds [] [] zs) nilM (consM (varM 0) nilM)) (consM (exoM 0 1 9 ["most"] (fun ds zs => arr [.k 0] ds [] [] zs) nilM (consM (varM 0) nilM)) nilM))) fun xs => if xs.length ≤ 1000 then ret xs else no) fun ds => ret (.lst ds))) fun ds => ret (.lst ds)))
    (seqM (setM 1 (bd (catM (varM 1) (bd (bd (consM (exoM 0 1 10 ["wish"] (fun ds zs => arr [.k 0] ds [] [] zs) nilM (consM (varM 0) nilM)) (consM (exoM 0 2 11 ["one", "other"] (fun ds zs => arr [.k 1, .k 0] ds [] [] zs) nilM (consM (ret (.int 7)) (consM (varM 0) nilM))) (consM (exoM 0 1 13 ["index"] (fun ds zs => arr [.k 0] ds [] [] zs) nilM (consM (varM 0) nilM)) nilM))) fun xs => if xs.length ≤ 1000 then ret xs else no) fun ds => ret (.lst ds))) fun ds => ret (.lst ds)))
    (seqM (setM 1 (bd (catM (varM 1) (bd (bd (consM (exoM 0 1 14 ["index"] (fun ds zs => arr [.k 0] ds [] [] zs) nilM (consM (varM 0) nilM)) (consM (exoM 0 1 15 ["index"] (fun ds zs => arr [.k 0] ds [] [] zs) nilM (consM (varM 0) nilM)) (consM (exoM 0 1 16 ["index"] (fun ds zs => arr [.k 0] ds [] [] zs) nilM (consM (varM 0) nilM)) nilM))) fun xs => if xs.length ≤ 1000 then ret xs else no) fun ds => ret (.lst ds))) fun ds => ret (.lst ds)))
    (seqM (setM 1 (bd (catM (varM 1) (bd (bd (consM (exoM 0 1 17 ["line"] (fun ds zs => arr [.k 0] ds [] [] zs) nilM (consM (varM 0) nilM)) nilM) fun xs => if xs.length ≤ 1000 then ret xs else no) fun ds => ret (.lst ds))) fun ds => ret (.lst ds)))
    (retM (varM 1)))))))
def f__law_by_name : FD := mkF 2 M__law_by_name
def M__law_fields : M Fl := seqM (setM 1 (bd (bd (consM (xatM tb xcTT "part" (bd (varM 0) fun x => bd (ret (.int 0)) fun i => rdM fun st => ixM st x i)) (consM (xatM tb xcTT "part" (bd (varM 0) fun x => bd (ret (.int 1)) fun i => rdM fun st => ixM st x i)) (consM (xatM tb xcTT "index" (bd (varM 0) fun x => bd (ret (.int 1)) fun i => rdM fun st => ixM st x i)) (consM (xatM tb xcTT "part" (bd (varM 0) fun x => bd (ret (.int 2)) fun i => rdM fun st => ixM st x i)) nilM)))) fun xs => if xs.length ≤ 1000 then ret xs else no) fun ds => ret (.lst ds)))
    (seqM (setM 1 (bd (catM (varM 1) (bd (bd (consM (xatM tb xcTT "index" (bd (varM 0) fun x => bd (ret (.int 2)) fun i => rdM fun st => ixM st x i)) (consM (xatM tb xcTT "part" (bd (varM 0) fun x => bd (ret (.int 3)) fun i => rdM fun st => ixM st x i)) (consM (xatM tb xcTT "part" (bd (varM 0) fun x => bd (ret (.int 4)) fun i => rdM fun st => ixM st x i)) (consM (xatM tb xcTT "index" (bd (varM 0) fun x => bd (ret (.int 4)) fun i => rdM fun st => ixM st x i)) nilM)))) fun xs => if xs.length ≤ 1000 then ret xs else no) fun ds => ret (.lst ds))) fun ds => ret (.lst ds)))
    (seqM (setM 1 (bd (catM (varM 1) (bd (bd (consM (xatM tb xcTT "axis" (bd (varM 0) fun x => bd (ret (.int 5)) fun i => rdM fun st => ixM st x i)) (consM (xatM tb xcTT "path" (bd (varM 0) fun x => bd (ret (.int 6)) fun i => rdM fun st => ixM st x i)) (consM (xatM tb xcTT "part" (bd (varM 0) fun x => bd (ret (.int 7)) fun i => rdM fun st => ixM st x i)) (consM (xatM tb xcTT "most" (bd (varM 0) fun x => bd (ret (.int 8)) fun i => rdM fun st => ixM st x i)) nilM)))) fun xs => if xs.length ≤ 1000 then ret xs else no) fun ds => ret (.lst ds))) fun ds => ret (.lst ds)))
    (seqM (setM 1 (bd (catM (varM 1) (bd (bd (consM (xatM tb xcTT "wish" (bd (varM 0) fun x => bd (ret (.int 9)) fun i => rdM fun st => ixM st x i)) (consM (xatM tb xcTT "one" (bd (varM 0) fun x => bd (ret (.int 10)) fun i => rdM fun st => ixM st x i)) (consM (xatM tb xcTT "other" (bd (varM 0) fun x => bd (ret (.int 10)) fun i => rdM fun st => ixM st x i)) (consM (xatM tb xcTT "index" (bd (varM 0) fun x => bd (ret (.int 11)) fun i => rdM fun st => ixM st x i)) nilM)))) fun xs => if xs.length ≤ 1000 then ret xs else no) fun ds => ret (.lst ds))) fun ds => ret (.lst ds)))
    (seqM (setM 1 (bd (catM (varM 1) (bd (bd (consM (xatM tb xcTT "index" (bd (varM 0) fun x => bd (ret (.int 12)) fun i => rdM fun st => ixM st x i)) (consM (xatM tb xcTT "index" (bd (varM 0) fun x => bd (ret (.int 13)) fun i => rdM fun st => ixM st x i)) (consM (xatM tb xcTT "index" (bd (varM 0) fun x => bd (ret (.int 14)) fun i => rdM fun st => ixM st x i)) (consM (xatM tb xcTT "line" (bd (varM 0) fun x => bd (ret (.int 15)) fun i => rdM fun st => ixM st x i)) nilM)))) fun xs => if xs.length ≤ 1000 then ret xs else no) fun ds => ret (.lst ds))) fun ds => ret (.lst ds)))
    (retM (varM 1))))))
def f__law_fields : FD := mkF 2 M__law_fields
def M__law_taken : M Fl := seqM (setM 1 (bd (bd (consM (calM (isxM subIT) (consM (varM 0) (consM (ret (.cls 1)) nilM))) (consM (calM (isxM subIT) (consM (varM 0) (consM (ret (.cls 2)) nilM))) (consM (calM (isxM subIT) (consM (varM 0) (consM (ret (.cls 3)) nilM))) nilM))) fun xs => if xs.length ≤ 1000 then ret xs else no) fun ds => ret (.lst ds)))
    (seqM (setM 1 (bd (catM (varM 1) (bd (bd (consM (calM (isxM subIT) (consM (varM 0) (consM (ret (.cls 4)) nilM))) (consM (calM (isxM subIT) (consM (varM 0) (consM (ret (.cls 5)) nilM))) (consM (calM (isxM subIT) (consM (varM 0) (consM (ret (.cls 6)) nilM))) nilM))) fun xs => if xs.length ≤ 1000 then ret xs else no) fun ds => ret (.lst ds))) fun ds => ret (.lst ds)))
    (seqM (setM 1 (bd (catM (varM 1) (bd (bd (consM (calM (isxM subIT) (consM (varM 0) (consM (ret (.cls 7)) nilM))) (consM (calM (isxM subIT) (consM (varM 0) (consM (ret (.cls 8)) nilM))) (consM (calM (isxM subIT) (consM (varM 0) (consM (ret (.cls 9)) nilM))) nilM))) fun xs => if xs.length ≤ 1000 then ret xs else no) fun ds => ret (.lst ds))) fun ds => ret (.lst ds)))
    (seqM (setM 1 (bd (catM (varM 1) (bd (bd (consM (calM (isxM subIT) (consM (varM 0) (consM (ret (.cls 10)) nilM))) (consM (calM (isxM subIT) (consM (varM 0) (consM (ret (.cls 11)) nilM))) (consM (calM (isxM subIT) (consM (varM 0) (consM (ret (.cls 13)) nilM))) nilM))) fun xs => if xs.length ≤ 1000 then ret xs else no) fun ds => ret (.lst ds))) fun ds => ret (.lst ds)))
    (seqM (setM 1 (bd (catM (varM 1) (bd (bd (consM (calM (isxM subIT) (consM (varM 0) (consM (ret (.cls 14)) nilM))) (consM (calM (isxM subIT) (consM (varM 0) (consM (ret (.cls 15)) nilM))) (consM (calM (isxM subIT) (consM (varM 0) (consM (ret (.cls 16)) nilM))) nilM))) fun xs => if xs.length ≤ 1000 then ret xs else no) fun ds => ret (.lst ds))) fun ds => ret (.lst ds)))
    (seqM (setM 1 (bd (catM (varM 1) (bd (bd (consM (calM (isxM subIT) (consM (varM 0) (consM (ret (.cls 17)) nilM))) nilM) fun xs => if xs.length ≤ 1000 then ret xs else no) fun ds => ret (.lst ds))) fun ds => ret (.lst ds)))
    (retM (varM 1)))))))
def f__law_taken : FD := mkF 2 M__law_taken
def B__law_right_0 : M Fl := seqM (ifM (op2 neM (callA 1 f__law_taken [] (consM (varM 5) nilM)) (bd (lcM [6] (range1M (consM (calM lenM (consM (varM 3) nilM)) nilM)) (tgN 6) yesM (blM (op2 eqM (varM 6) (varM 4)))) fun ds => ret (.lst ds)))
    (retM (ret (.bl false)))
    (nxM))
    (ifM (orM (notM (tstM (calM (isxM subIT) (consM (varM 5) (consM (ret (.cls 0)) nilM))))) (notM (tstM (calM (isxM subIT) (consM (varM 5) (consM (ret (.ty "ValueError")) nilM))))))
    (retM (ret (.bl false)))
    (nxM))
def B__law_right_1 : M Fl := seqM (ifM (op2 neM (callA 1 f__law_fields [] (consM (varM 3) nilM)) (varM 2))
    (retM (ret (.bl false)))
    (nxM))
    (forM (enumM (consM (varM 3) nilM)) (tgTup 2 (tgCons (tgN 4) (tgCons (tgN 5) tgNil)))
    (B__law_right_0))
def B__law_right_2 : M Fl := ifM (orM (op2 inM (ret (.bl true)) (callA 1 f__law_taken [] (consM (varM 5) nilM))) (notM (tstM (calM (isxM subIT) (consM (varM 5) (consM (ret (.cls 0)) nilM))))))
    (retM (ret (.bl false)))
    (nxM)
def M__law_right : M Fl := seqM (setM 1 (callA 2 f__law_one [] (consM (varM 0) (consM (bd (bd (consM (callA 2 f__law_draw [] (consM (varM 0) (consM (ret (.int 1000)) nilM))) (consM (bd (ret (.int 1)) fun x => opt (negM x)) (consM (ret .non) (consM (ret (.str "v")) (consM (bd (consM (ret (.int 0)) (consM (ret (.int 1)) nilM)) fun xs => if xs.length ≤ 1000 then ret (.tup xs) else no) nilM))))) fun xs => if xs.length ≤ 1000 then ret xs else no) fun ds => ret (.lst ds)) nilM))))
    (seqM (setM 2 (bd (bd (consM (varM 1) (consM (varM 1) (consM (ret (.int 7)) (consM (varM 1) (consM (ret (.int 7)) (consM (varM 1) (consM (varM 1) (consM (ret (.int 7)) (consM (varM 1) (consM (varM 1) (consM (varM 1) (consM (varM 1) (consM (varM 1) (consM (varM 1) (consM (ret (.int 7)) (consM (varM 1) (consM (varM 1) (consM (varM 1) (consM (varM 1) (consM (varM 1) nilM)))))))))))))))))))) fun xs => if xs.length ≤ 1000 then ret xs else no) fun ds => ret (.lst ds)))
    (seqM (forM (seqM' (bd (bd (consM (callA 1 f__law_by_place [] (consM (varM 1) nilM)) (consM (callA 1 f__law_by_name [] (consM (varM 1) nilM)) nilM)) fun xs => if xs.length ≤ 1000 then ret xs else no) fun ds => ret (.lst ds))) (tgN 3)
    (B__law_right_1))
    (seqM (forM (seqM' (bd (bd (consM (exoM 0 0 12 [] (fun ds zs => arr [] ds [] [] zs) nilM nilM) (consM (exoM 0 0 18 [] (fun ds zs => arr [] ds [] [] zs) nilM nilM) nilM)) fun xs => if xs.length ≤ 1000 then ret xs else no) fun ds => ret (.lst ds))) (tgN 5)
    (B__law_right_2))
    (retM (notV (ret (.bl false)))))))
def f__law_right : FD := mkF 7 M__law_right
def B_law_0 : M Fl := seqM (cellM 3 (bd (consM (opM mulM (varM 2) (calM intM (consM (blM (op2 geM (varM 2) (opM powM (ret (.int 10)) (ret (.int 18))))) nilM))) (consM (opM addM (opM modM (calM intM (consM (varM 2) nilM)) (ret (.int 2147483647))) (opM mulM (ret (.int 7919)) (varM 1))) (consM (ret (.int 0)) nilM))) fun xs => if xs.length ≤ 1000 then ret xs else no))
    (ifM (notM (tstM (callA 1 f__law_right [] (consM (varM 3) nilM))))
    (retM (ret (.bl false)))
    (nxM))
def M_law : M Fl := seqM (forM (enumM (consM (bd (bd (bd (catM (varM 0) (bd (bd (consM (ret (.int 0)) nilM) fun xs => if xs.length ≤ 1000 then ret xs else no) fun ds => ret (.lst ds))) fun ds => ret (.lst ds)) fun x => bd noneM fun l => bd (someM (ret (.int 4))) fun h => rdM fun st => (lstOf st x).map fun ds => cutD ds l h) fun ds => ret (.lst ds)) nilM)) (tgTup 2 (tgCons (tgN 1) (tgCons (tgN 2) tgNil)))
    (B_law_0))
    (retM (ret (.bl true)))
def f_law : FD := mkF 4 M_law
end PL.k04

namespace PL.k04
open PySem PySem.Spec PyProof.Rows L2
def top (i : Nat) : Stmt := PySem.Challenge.pw_gridlanes_k04_exceptions.main.body.getD i (.Pass ⟨0, 0, 0, 0⟩)

abbrev s__law_draw : Stmt := top 21
abbrev N__law_draw : List Str := ["well", "many", "found", "figure"]
abbrev P__law_draw : List Str := ["well", "many"]
def d__law_draw : He.DefD := ⟨("_law_draw", none), "_law_draw", "_law_draw", defArgs s__law_draw, defBody s__law_draw, defScope s__law_draw, [], []⟩
theorem sc__law_draw : FnScope N__law_draw P__law_draw (defScope s__law_draw) := ⟨rfl, rfl, rfl, by decide +kernel, rfl, by decide +kernel, by decide +kernel⟩
abbrev s__law_one : Stmt := top 22
abbrev N__law_one : List Str := ["well", "some"]
abbrev P__law_one : List Str := ["well", "some"]
def d__law_one : He.DefD := ⟨("_law_one", none), "_law_one", "_law_one", defArgs s__law_one, defBody s__law_one, defScope s__law_one, [], []⟩
theorem sc__law_one : FnScope N__law_one P__law_one (defScope s__law_one) := ⟨rfl, rfl, rfl, by decide +kernel, rfl, by decide +kernel, by decide +kernel⟩
abbrev s__law_by_place : Stmt := top 24
abbrev N__law_by_place : List Str := ["x", "some"]
abbrev P__law_by_place : List Str := ["x"]
def d__law_by_place : He.DefD := ⟨("_law_by_place", none), "_law_by_place", "_law_by_place", defArgs s__law_by_place, defBody s__law_by_place, defScope s__law_by_place, [], []⟩
theorem sc__law_by_place : FnScope N__law_by_place P__law_by_place (defScope s__law_by_place) := ⟨rfl, rfl, rfl, by decide +kernel, rfl, by decide +kernel, by decide +kernel⟩
abbrev s__law_by_name : Stmt := top 25
abbrev N__law_by_name : List Str := ["x", "some"]
abbrev P__law_by_name : List Str := ["x"]
def d__law_by_name : He.DefD := ⟨("_law_by_name", none), "_law_by_name", "_law_by_name", defArgs s__law_by_name, defBody s__law_by_name, defScope s__law_by_name, [], []⟩
theorem sc__law_by_name : FnScope N__law_by_name P__law_by_name (defScope s__law_by_name) := ⟨rfl, rfl, rfl, by decide +kernel, rfl, by decide +kernel, by decide +kernel⟩
abbrev s__law_fields : Stmt := top 26
abbrev N__law_fields : List Str := ["some", "found"]
abbrev P__law_fields : List Str := ["some"]
def d__law_fields : He.DefD := ⟨("_law_fields", none), "_law_fields", "_law_fields", defArgs s__law_fields, defBody s__law_fields, defScope s__law_fields, [], []⟩
theorem sc__law_fields : FnScope N__law_fields P__law_fields (defScope s__law_fields) := ⟨rfl, rfl, rfl, by decide +kernel, rfl, by decide +kernel, by decide +kernel⟩
abbrev s__law_taken : Stmt := top 23
abbrev N__law_taken : List Str := ["e", "found"]
abbrev P__law_taken : List Str := ["e"]
def d__law_taken : He.DefD := ⟨("_law_taken", none), "_law_taken", "_law_taken", defArgs s__law_taken, defBody s__law_taken, defScope s__law_taken, [], []⟩
theorem sc__law_taken : FnScope N__law_taken P__law_taken (defScope s__law_taken) := ⟨rfl, rfl, rfl, by decide +kernel, rfl, by decide +kernel, by decide +kernel⟩
abbrev s__law_right : Stmt := top 27
abbrev N__law_right : List Str := ["well", "x", "due", "some", "spot", "e", "k"]
abbrev P__law_right : List Str := ["well"]
def d__law_right : He.DefD := ⟨("_law_right", none), "_law_right", "_law_right", defArgs s__law_right, defBody s__law_right, defScope s__law_right, [], []⟩
theorem sc__law_right : FnScope N__law_right P__law_right (defScope s__law_right) := ⟨rfl, rfl, rfl, by decide +kernel, rfl, by decide +kernel, by decide +kernel⟩
abbrev s_law : Stmt := top 28
abbrev N_law : List Str := ["script", "k", "cell", "well"]
abbrev P_law : List Str := ["script"]
def d_law : He.DefD := ⟨("law", none), "law", "law", defArgs s_law, defBody s_law, defScope s_law, [], []⟩
theorem sc_law : FnScope N_law P_law (defScope s_law) := ⟨rfl, rfl, rfl, by decide +kernel, rfl, by decide +kernel, by decide +kernel⟩
abbrev s_NoNumber_init : Stmt := inClass (top 2) 0
abbrev N_NoNumber_init : List Str := ["self", "part"]
abbrev P_NoNumber_init : List Str := ["self", "part"]
def d_NoNumber_init : He.DefD := ⟨("NoNumber", some "__init__"), "__init__", "NoNumber.__init__", defArgs s_NoNumber_init, defBody s_NoNumber_init, defScope s_NoNumber_init, [], []⟩
theorem sc_NoNumber_init : FnScope N_NoNumber_init P_NoNumber_init (defScope s_NoNumber_init) := ⟨rfl, rfl, rfl, by decide +kernel, rfl, by decide +kernel, by decide +kernel⟩
abbrev s_NoContent_init : Stmt := inClass (top 3) 0
abbrev N_NoContent_init : List Str := ["self", "part", "index"]
abbrev P_NoContent_init : List Str := ["self", "part", "index"]
def d_NoContent_init : He.DefD := ⟨("NoContent", some "__init__"), "__init__", "NoContent.__init__", defArgs s_NoContent_init, defBody s_NoContent_init, defScope s_NoContent_init, [], []⟩
theorem sc_NoContent_init : FnScope N_NoContent_init P_NoContent_init (defScope s_NoContent_init) := ⟨rfl, rfl, rfl, by decide +kernel, rfl, by decide +kernel, by decide +kernel⟩
abbrev s_NoGrid_init : Stmt := inClass (top 4) 0
abbrev N_NoGrid_init : List Str := ["self", "part", "index"]
abbrev P_NoGrid_init : List Str := ["self", "part", "index"]
def d_NoGrid_init : He.DefD := ⟨("NoGrid", some "__init__"), "__init__", "NoGrid.__init__", defArgs s_NoGrid_init, defBody s_NoGrid_init, defScope s_NoGrid_init, [], []⟩
theorem sc_NoGrid_init : FnScope N_NoGrid_init P_NoGrid_init (defScope s_NoGrid_init) := ⟨rfl, rfl, rfl, by decide +kernel, rfl, by decide +kernel, by decide +kernel⟩
abbrev s_NoItem_init : Stmt := inClass (top 5) 0
abbrev N_NoItem_init : List Str := ["self", "part"]
abbrev P_NoItem_init : List Str := ["self", "part"]
def d_NoItem_init : He.DefD := ⟨("NoItem", some "__init__"), "__init__", "NoItem.__init__", defArgs s_NoItem_init, defBody s_NoItem_init, defScope s_NoItem_init, [], []⟩
theorem sc_NoItem_init : FnScope N_NoItem_init P_NoItem_init (defScope s_NoItem_init) := ⟨rfl, rfl, rfl, by decide +kernel, rfl, by decide +kernel, by decide +kernel⟩
abbrev s_NoPage_init : Stmt := inClass (top 6) 0
abbrev N_NoPage_init : List Str := ["self", "part", "index"]
abbrev P_NoPage_init : List Str := ["self", "part", "index"]
def d_NoPage_init : He.DefD := ⟨("NoPage", some "__init__"), "__init__", "NoPage.__init__", defArgs s_NoPage_init, defBody s_NoPage_init, defScope s_NoPage_init, [], []⟩
theorem sc_NoPage_init : FnScope N_NoPage_init P_NoPage_init (defScope s_NoPage_init) := ⟨rfl, rfl, rfl, by decide +kernel, rfl, by decide +kernel, by decide +kernel⟩
abbrev s_ManyLanes_init : Stmt := inClass (top 7) 0
abbrev N_ManyLanes_init : List Str := ["self", "axis"]
abbrev P_ManyLanes_init : List Str := ["self", "axis"]
def d_ManyLanes_init : He.DefD := ⟨("ManyLanes", some "__init__"), "__init__", "ManyLanes.__init__", defArgs s_ManyLanes_init, defBody s_ManyLanes_init, defScope s_ManyLanes_init, [], []⟩
theorem sc_ManyLanes_init : FnScope N_ManyLanes_init P_ManyLanes_init (defScope s_ManyLanes_init) := ⟨rfl, rfl, rfl, by decide +kernel, rfl, by decide +kernel, by decide +kernel⟩
abbrev s_NoPath_init : Stmt := inClass (top 8) 0
abbrev N_NoPath_init : List Str := ["self", "path"]
abbrev P_NoPath_init : List Str := ["self", "path"]
def d_NoPath_init : He.DefD := ⟨("NoPath", some "__init__"), "__init__", "NoPath.__init__", defArgs s_NoPath_init, defBody s_NoPath_init, defScope s_NoPath_init, [], []⟩
theorem sc_NoPath_init : FnScope N_NoPath_init P_NoPath_init (defScope s_NoPath_init) := ⟨rfl, rfl, rfl, by decide +kernel, rfl, by decide +kernel, by decide +kernel⟩
abbrev s_NoRange_init : Stmt := inClass (top 9) 0
abbrev N_NoRange_init : List Str := ["self", "part"]
abbrev P_NoRange_init : List Str := ["self", "part"]
def d_NoRange_init : He.DefD := ⟨("NoRange", some "__init__"), "__init__", "NoRange.__init__", defArgs s_NoRange_init, defBody s_NoRange_init, defScope s_NoRange_init, [], []⟩
theorem sc_NoRange_init : FnScope N_NoRange_init P_NoRange_init (defScope s_NoRange_init) := ⟨rfl, rfl, rfl, by decide +kernel, rfl, by decide +kernel, by decide +kernel⟩
abbrev s_TooMany_init : Stmt := inClass (top 10) 0
abbrev N_TooMany_init : List Str := ["self", "most"]
abbrev P_TooMany_init : List Str := ["self", "most"]
def d_TooMany_init : He.DefD := ⟨("TooMany", some "__init__"), "__init__", "TooMany.__init__", defArgs s_TooMany_init, defBody s_TooMany_init, defScope s_TooMany_init, [], []⟩
theorem sc_TooMany_init : FnScope N_TooMany_init P_TooMany_init (defScope s_TooMany_init) := ⟨rfl, rfl, rfl, by decide +kernel, rfl, by decide +kernel, by decide +kernel⟩
abbrev s_NoWish_init : Stmt := inClass (top 11) 0
abbrev N_NoWish_init : List Str := ["self", "wish"]
abbrev P_NoWish_init : List Str := ["self", "wish"]
def d_NoWish_init : He.DefD := ⟨("NoWish", some "__init__"), "__init__", "NoWish.__init__", defArgs s_NoWish_init, defBody s_NoWish_init, defScope s_NoWish_init, [], []⟩
theorem sc_NoWish_init : FnScope N_NoWish_init P_NoWish_init (defScope s_NoWish_init) := ⟨rfl, rfl, rfl, by decide +kernel, rfl, by decide +kernel, by decide +kernel⟩
abbrev s_OtherBoxes_init : Stmt := inClass (top 12) 0
abbrev N_OtherBoxes_init : List Str := ["self", "one", "other"]
abbrev P_OtherBoxes_init : List Str := ["self", "one", "other"]
def d_OtherBoxes_init : He.DefD := ⟨("OtherBoxes", some "__init__"), "__init__", "OtherBoxes.__init__", defArgs s_OtherBoxes_init, defBody s_OtherBoxes_init, defScope s_OtherBoxes_init, [], []⟩
theorem sc_OtherBoxes_init : FnScope N_OtherBoxes_init P_OtherBoxes_init (defScope s_OtherBoxes_init) := ⟨rfl, rfl, rfl, by decide +kernel, rfl, by decide +kernel, by decide +kernel⟩
abbrev s_NoArea_init : Stmt := inClass (top 14) 0
abbrev N_NoArea_init : List Str := ["self", "index"]
abbrev P_NoArea_init : List Str := ["self", "index"]
def d_NoArea_init : He.DefD := ⟨("NoArea", some "__init__"), "__init__", "NoArea.__init__", defArgs s_NoArea_init, defBody s_NoArea_init, defScope s_NoArea_init, [], []⟩
theorem sc_NoArea_init : FnScope N_NoArea_init P_NoArea_init (defScope s_NoArea_init) := ⟨rfl, rfl, rfl, by decide +kernel, rfl, by decide +kernel, by decide +kernel⟩
abbrev s_NoSizes_init : Stmt := inClass (top 15) 0
abbrev N_NoSizes_init : List Str := ["self", "index"]
abbrev P_NoSizes_init : List Str := ["self", "index"]
def d_NoSizes_init : He.DefD := ⟨("NoSizes", some "__init__"), "__init__", "NoSizes.__init__", defArgs s_NoSizes_init, defBody s_NoSizes_init, defScope s_NoSizes_init, [], []⟩
theorem sc_NoSizes_init : FnScope N_NoSizes_init P_NoSizes_init (defScope s_NoSizes_init) := ⟨rfl, rfl, rfl, by decide +kernel, rfl, by decide +kernel, by decide +kernel⟩
abbrev s_NoCrossings_init : Stmt := inClass (top 16) 0
abbrev N_NoCrossings_init : List Str := ["self", "index"]
abbrev P_NoCrossings_init : List Str := ["self", "index"]
def d_NoCrossings_init : He.DefD := ⟨("NoCrossings", some "__init__"), "__init__", "NoCrossings.__init__", defArgs s_NoCrossings_init, defBody s_NoCrossings_init, defScope s_NoCrossings_init, [], []⟩
theorem sc_NoCrossings_init : FnScope N_NoCrossings_init P_NoCrossings_init (defScope s_NoCrossings_init) := ⟨rfl, rfl, rfl, by decide +kernel, rfl, by decide +kernel, by decide +kernel⟩
abbrev s_NoOrder_init : Stmt := inClass (top 17) 0
abbrev N_NoOrder_init : List Str := ["self", "index"]
abbrev P_NoOrder_init : List Str := ["self", "index"]
def d_NoOrder_init : He.DefD := ⟨("NoOrder", some "__init__"), "__init__", "NoOrder.__init__", defArgs s_NoOrder_init, defBody s_NoOrder_init, defScope s_NoOrder_init, [], []⟩
theorem sc_NoOrder_init : FnScope N_NoOrder_init P_NoOrder_init (defScope s_NoOrder_init) := ⟨rfl, rfl, rfl, by decide +kernel, rfl, by decide +kernel, by decide +kernel⟩
abbrev s_NoText_init : Stmt := inClass (top 18) 0
abbrev N_NoText_init : List Str := ["self", "line"]
abbrev P_NoText_init : List Str := ["self", "line"]
def d_NoText_init : He.DefD := ⟨("NoText", some "__init__"), "__init__", "NoText.__init__", defArgs s_NoText_init, defBody s_NoText_init, defScope s_NoText_init, [], []⟩
theorem sc_NoText_init : FnScope N_NoText_init P_NoText_init (defScope s_NoText_init) := ⟨rfl, rfl, rfl, by decide +kernel, rfl, by decide +kernel, by decide +kernel⟩
abbrev s_NoAxis_init : Stmt := inClass (top 13) 0
abbrev N_NoAxis_init : List Str := ["self"]
abbrev P_NoAxis_init : List Str := ["self"]
def d_NoAxis_init : He.DefD := ⟨("NoAxis", some "__init__"), "__init__", "NoAxis.__init__", defArgs s_NoAxis_init, defBody s_NoAxis_init, defScope s_NoAxis_init, [], []⟩
theorem sc_NoAxis_init : FnScope N_NoAxis_init P_NoAxis_init (defScope s_NoAxis_init) := ⟨rfl, rfl, rfl, by decide +kernel, rfl, by decide +kernel, by decide +kernel⟩
abbrev s_NoStates_init : Stmt := inClass (top 19) 0
abbrev N_NoStates_init : List Str := ["self"]
abbrev P_NoStates_init : List Str := ["self"]
def d_NoStates_init : He.DefD := ⟨("NoStates", some "__init__"), "__init__", "NoStates.__init__", defArgs s_NoStates_init, defBody s_NoStates_init, defScope s_NoStates_init, [], []⟩
theorem sc_NoStates_init : FnScope N_NoStates_init P_NoStates_init (defScope s_NoStates_init) := ⟨rfl, rfl, rfl, by decide +kernel, rfl, by decide +kernel, by decide +kernel⟩
def mks : List ((Str × Option Str) × Str) := []
abbrev TT (K : PySem.W.Frag) : Tab := mkT K xs nI fls (tabL mks K)
def fn : List He.DefD := [d__law_draw, d__law_one, d__law_by_place, d__law_by_name, d__law_fields, d__law_taken, d__law_right, d_law, d_NoNumber_init, d_NoContent_init, d_NoGrid_init, d_NoItem_init, d_NoPage_init, d_ManyLanes_init, d_NoPath_init, d_NoRange_init, d_TooMany_init, d_NoWish_init, d_OtherBoxes_init, d_NoArea_init, d_NoSizes_init, d_NoCrossings_init, d_NoOrder_init, d_NoText_init, d_NoAxis_init, d_NoStates_init]
def fa : List He.Fa := [.glo "law", .free "int", .glo "_law_draw", .free "len", .glo "NoNumber", .glo "NoContent", .glo "NoGrid", .glo "NoItem", .glo "NoPage", .glo "ManyLanes", .glo "NoPath", .glo "NoRange", .glo "TooMany", .glo "NoWish", .glo "OtherBoxes", .glo "NoArea", .glo "NoSizes", .glo "NoCrossings", .glo "NoOrder", .glo "NoText", .free "isinstance", .glo "_law_one", .glo "_law_by_place", .glo "_law_by_name", .glo "_law_fields", .free "enumerate", .glo "_law_taken", .free "range", .glo "LaneError", .free "ValueError", .glo "NoAxis", .glo "NoStates", .glo "_law_right", .meth "NoNumber" "__init__", .meth "NoContent" "__init__", .meth "NoGrid" "__init__", .meth "NoItem" "__init__", .meth "NoPage" "__init__", .meth "ManyLanes" "__init__", .meth "NoPath" "__init__", .meth "NoRange" "__init__", .meth "TooMany" "__init__", .meth "NoWish" "__init__", .meth "OtherBoxes" "__init__", .meth "NoArea" "__init__", .meth "NoSizes" "__init__", .meth "NoCrossings" "__init__", .meth "NoOrder" "__init__", .meth "NoText" "__init__", .meth "NoAxis" "__init__", .meth "NoStates" "__init__"]
def exs : List (PySem.W.Frag → Bool) := [(fun K => fxB K xs nI fls), (fun K => decide (PySem.W.kitOne K (.type "ValueError") (.ref (He.ga K "LaneError")) = some false)), (fun K => xcB K xs fls 0 19), (fun K => isxB K xs 0 19 0), (fun K => exkB K "NoNumber" ["part"]), (fun K => baB K (He.ga K "LaneError")), (fun K => exkB K "NoContent" ["part", "index"]), (fun K => exkB K "NoGrid" ["part", "index"]), (fun K => exkB K "NoItem" ["part"]), (fun K => exkB K "NoPage" ["part", "index"]), (fun K => exkB K "ManyLanes" ["axis"]), (fun K => exkB K "NoPath" ["path"]), (fun K => exkB K "NoRange" ["part"]), (fun K => exkB K "TooMany" ["most"]), (fun K => exkB K "NoWish" ["wish"]), (fun K => exkB K "OtherBoxes" ["one", "other"]), (fun K => exkB K "NoArea" ["index"]), (fun K => exkB K "NoSizes" ["index"]), (fun K => exkB K "NoCrossings" ["index"]), (fun K => exkB K "NoOrder" ["index"]), (fun K => exkB K "NoText" ["line"]), (fun K => exkB K "NoAxis" []), (fun K => exkB K "NoStates" [])]
def exB (K : PySem.W.Frag) : Bool := exs.all fun f => f K
structure Fs (K : PySem.W.Frag) (mg : Str → Option Value) : Prop where
  ns : ∃ h : Heap, K.In h ∧ h.Ns mainGlobals mg
  says : He.SaysD fa fn K
  ex : exB K = true
section
variable {K : PySem.W.Frag} {mg : Str → Option Value}
theorem Fs.fact (Z : Fs K mg) (i : Nat) {f : He.Fa} (h : fa[i]? = some f) : f.ok K = true := Z.says.fact i h
theorem Fs.glo (Z : Fs K mg) (i : Nat) {x : Str} (h : fa[i]? = some (.glo x) := by rfl) : mg x = some (.ref (He.ga K x)) := by obtain ⟨_, a, b⟩ := Z.ns; exact He.glo_ok a b (Z.says.fact i h)
theorem Fs.free (Z : Fs K mg) (i : Nat) {x : Str} (h : fa[i]? = some (.free x) := by rfl) : mg x = none := by obtain ⟨_, a, b⟩ := Z.ns; exact He.free_ok a b (Z.says.fact i h)
theorem Fs.int (Z : Fs K mg) (i : Nat) {x : Str} {n : Int} (h : fa[i]? = some (.int x n) := by rfl) : ∃ t, mg x = some (.int n t) := by obtain ⟨_, a, b⟩ := Z.ns; exact He.int_ok a b (Z.says.fact i h)
theorem Fs.str (Z : Fs K mg) (i : Nat) {x n : Str} (h : fa[i]? = some (.str x n) := by rfl) : ∃ t, mg x = some (.str n t) := by obtain ⟨_, a, b⟩ := Z.ns; exact He.str_ok a b (Z.says.fact i h)
theorem Fs.ex_ (Z : Fs K mg) (i : Nat) {f : PySem.W.Frag → Bool} (h : exs[i]? = some f) : f K = true := List.all_eq_true.mp Z.ex f (List.mem_of_getElem? h)
theorem Fs.fx (Z : Fs K mg) : Fx K (TT K) := fx_ok (Z.ex_ 0 rfl)
end

theorem Fs.xc {K : PySem.W.Frag} {mg : Str → Option Value} (Z : Fs K mg) : XcF K (TT K) xcTT := xcB_ok (Z.ex_ 2 rfl)
theorem Fs.xi {K : PySem.W.Frag} {mg : Str → Option Value} (Z : Fs K mg) : XcI K (TT K) subIT := isxB_ok (Z.ex_ 3 rfl)

theorem kb_NoNumber_init_1_z {K : PySem.W.Frag} {mg : Str → Option Value} (Z : Fs K mg) {fd : FuncData} (F : FunD K d_NoNumber_init.name d_NoNumber_init.qual d_NoNumber_init.params d_NoNumber_init.body d_NoNumber_init.scope (d_NoNumber_init.dvs K) (d_NoNumber_init.kws K) (He.fAd K d_NoNumber_init.at_) fd) : KB K (TT K) fd P_NoNumber_init 1 [] (fun ds zs => arr [.p 0] ds [] [] zs) := by
  refine kb_gen F 1 [] [.p 0] [] [] (fun G ρ => RepL.nil) (fun G ρ => RepL.nil) rfl rfl rfl ?_
  intro us its mv ws h1 h2 h3 h4
  have h1_us0 : us.length = 2 := h1; clear h1; obtain ⟨us_0, ust0, e_us0, h1_us1⟩ := len_cons h1_us0; subst e_us0; obtain ⟨us_1, ust1, e_us1, h1_us2⟩ := len_cons h1_us1; subst e_us1; have e_us := len_nil h1_us2; subst e_us; have h2_its0 : its.length = 0 := h2; clear h2; have e_its := len_nil h2_its0; subst e_its; have h3_mv0 : mv.length = 0 := h3; clear h3; have e_mv := len_nil h3_mv0; subst e_mv; have h4_ws0 : ws.length = 0 := h4; clear h4; have e_ws := len_nil h4_ws0; subst e_ws; 
  kernel_rfl
theorem kb_NoContent_init_2_z {K : PySem.W.Frag} {mg : Str → Option Value} (Z : Fs K mg) {fd : FuncData} (F : FunD K d_NoContent_init.name d_NoContent_init.qual d_NoContent_init.params d_NoContent_init.body d_NoContent_init.scope (d_NoContent_init.dvs K) (d_NoContent_init.kws K) (He.fAd K d_NoContent_init.at_) fd) : KB K (TT K) fd P_NoContent_init 2 [] (fun ds zs => arr [.p 0, .p 1] ds [] [] zs) := by
  refine kb_gen F 2 [] [.p 0, .p 1] [] [] (fun G ρ => RepL.nil) (fun G ρ => RepL.nil) rfl rfl rfl ?_
  intro us its mv ws h1 h2 h3 h4
  have h1_us0 : us.length = 3 := h1; clear h1; obtain ⟨us_0, ust0, e_us0, h1_us1⟩ := len_cons h1_us0; subst e_us0; obtain ⟨us_1, ust1, e_us1, h1_us2⟩ := len_cons h1_us1; subst e_us1; obtain ⟨us_2, ust2, e_us2, h1_us3⟩ := len_cons h1_us2; subst e_us2; have e_us := len_nil h1_us3; subst e_us; have h2_its0 : its.length = 0 := h2; clear h2; have e_its := len_nil h2_its0; subst e_its; have h3_mv0 : mv.length = 0 := h3; clear h3; have e_mv := len_nil h3_mv0; subst e_mv; have h4_ws0 : ws.length = 0 := h4; clear h4; have e_ws := len_nil h4_ws0; subst e_ws; 
  kernel_rfl
theorem kb_NoGrid_init_2_z {K : PySem.W.Frag} {mg : Str → Option Value} (Z : Fs K mg) {fd : FuncData} (F : FunD K d_NoGrid_init.name d_NoGrid_init.qual d_NoGrid_init.params d_NoGrid_init.body d_NoGrid_init.scope (d_NoGrid_init.dvs K) (d_NoGrid_init.kws K) (He.fAd K d_NoGrid_init.at_) fd) : KB K (TT K) fd P_NoGrid_init 2 [] (fun ds zs => arr [.p 0, .p 1] ds [] [] zs) := by
  refine kb_gen F 2 [] [.p 0, .p 1] [] [] (fun G ρ => RepL.nil) (fun G ρ => RepL.nil) rfl rfl rfl ?_
  intro us its mv ws h1 h2 h3 h4
  have h1_us0 : us.length = 3 := h1; clear h1; obtain ⟨us_0, ust0, e_us0, h1_us1⟩ := len_cons h1_us0; subst e_us0; obtain ⟨us_1, ust1, e_us1, h1_us2⟩ := len_cons h1_us1; subst e_us1; obtain ⟨us_2, ust2, e_us2, h1_us3⟩ := len_cons h1_us2; subst e_us2; have e_us := len_nil h1_us3; subst e_us; have h2_its0 : its.length = 0 := h2; clear h2; have e_its := len_nil h2_its0; subst e_its; have h3_mv0 : mv.length = 0 := h3; clear h3; have e_mv := len_nil h3_mv0; subst e_mv; have h4_ws0 : ws.length = 0 := h4; clear h4; have e_ws := len_nil h4_ws0; subst e_ws; 
  kernel_rfl
theorem kb_NoItem_init_1_z {K : PySem.W.Frag} {mg : Str → Option Value} (Z : Fs K mg) {fd : FuncData} (F : FunD K d_NoItem_init.name d_NoItem_init.qual d_NoItem_init.params d_NoItem_init.body d_NoItem_init.scope (d_NoItem_init.dvs K) (d_NoItem_init.kws K) (He.fAd K d_NoItem_init.at_) fd) : KB K (TT K) fd P_NoItem_init 1 [] (fun ds zs => arr [.p 0] ds [] [] zs) := by
  refine kb_gen F 1 [] [.p 0] [] [] (fun G ρ => RepL.nil) (fun G ρ => RepL.nil) rfl rfl rfl ?_
  intro us its mv ws h1 h2 h3 h4
  have h1_us0 : us.length = 2 := h1; clear h1; obtain ⟨us_0, ust0, e_us0, h1_us1⟩ := len_cons h1_us0; subst e_us0; obtain ⟨us_1, ust1, e_us1, h1_us2⟩ := len_cons h1_us1; subst e_us1; have e_us := len_nil h1_us2; subst e_us; have h2_its0 : its.length = 0 := h2; clear h2; have e_its := len_nil h2_its0; subst e_its; have h3_mv0 : mv.length = 0 := h3; clear h3; have e_mv := len_nil h3_mv0; subst e_mv; have h4_ws0 : ws.length = 0 := h4; clear h4; have e_ws := len_nil h4_ws0; subst e_ws; 
  kernel_rfl
theorem kb_NoPage_init_2_z {K : PySem.W.Frag} {mg : Str → Option Value} (Z : Fs K mg) {fd : FuncData} (F : FunD K d_NoPage_init.name d_NoPage_init.qual d_NoPage_init.params d_NoPage_init.body d_NoPage_init.scope (d_NoPage_init.dvs K) (d_NoPage_init.kws K) (He.fAd K d_NoPage_init.at_) fd) : KB K (TT K) fd P_NoPage_init 2 [] (fun ds zs => arr [.p 0, .p 1] ds [] [] zs) := by
  refine kb_gen F 2 [] [.p 0, .p 1] [] [] (fun G ρ => RepL.nil) (fun G ρ => RepL.nil) rfl rfl rfl ?_
  intro us its mv ws h1 h2 h3 h4
  have h1_us0 : us.length = 3 := h1; clear h1; obtain ⟨us_0, ust0, e_us0, h1_us1⟩ := len_cons h1_us0; subst e_us0; obtain ⟨us_1, ust1, e_us1, h1_us2⟩ := len_cons h1_us1; subst e_us1; obtain ⟨us_2, ust2, e_us2, h1_us3⟩ := len_cons h1_us2; subst e_us2; have e_us := len_nil h1_us3; subst e_us; have h2_its0 : its.length = 0 := h2; clear h2; have e_its := len_nil h2_its0; subst e_its; have h3_mv0 : mv.length = 0 := h3; clear h3; have e_mv := len_nil h3_mv0; subst e_mv; have h4_ws0 : ws.length = 0 := h4; clear h4; have e_ws := len_nil h4_ws0; subst e_ws; 
  kernel_rfl
theorem kb_ManyLanes_init_1_z {K : PySem.W.Frag} {mg : Str → Option Value} (Z : Fs K mg) {fd : FuncData} (F : FunD K d_ManyLanes_init.name d_ManyLanes_init.qual d_ManyLanes_init.params d_ManyLanes_init.body d_ManyLanes_init.scope (d_ManyLanes_init.dvs K) (d_ManyLanes_init.kws K) (He.fAd K d_ManyLanes_init.at_) fd) : KB K (TT K) fd P_ManyLanes_init 1 [] (fun ds zs => arr [.p 0] ds [] [] zs) := by
  refine kb_gen F 1 [] [.p 0] [] [] (fun G ρ => RepL.nil) (fun G ρ => RepL.nil) rfl rfl rfl ?_
  intro us its mv ws h1 h2 h3 h4
  have h1_us0 : us.length = 2 := h1; clear h1; obtain ⟨us_0, ust0, e_us0, h1_us1⟩ := len_cons h1_us0; subst e_us0; obtain ⟨us_1, ust1, e_us1, h1_us2⟩ := len_cons h1_us1; subst e_us1; have e_us := len_nil h1_us2; subst e_us; have h2_its0 : its.length = 0 := h2; clear h2; have e_its := len_nil h2_its0; subst e_its; have h3_mv0 : mv.length = 0 := h3; clear h3; have e_mv := len_nil h3_mv0; subst e_mv; have h4_ws0 : ws.length = 0 := h4; clear h4; have e_ws := len_nil h4_ws0; subst e_ws; 
  kernel_rfl
theorem kb_NoPath_init_1_z {K : PySem.W.Frag} {mg : Str → Option Value} (Z : Fs K mg) {fd : FuncData} (F : FunD K d_NoPath_init.name d_NoPath_init.qual d_NoPath_init.params d_NoPath_init.body d_NoPath_init.scope (d_NoPath_init.dvs K) (d_NoPath_init.kws K) (He.fAd K d_NoPath_init.at_) fd) : KB K (TT K) fd P_NoPath_init 1 [] (fun ds zs => arr [.p 0] ds [] [] zs) := by
  refine kb_gen F 1 [] [.p 0] [] [] (fun G ρ => RepL.nil) (fun G ρ => RepL.nil) rfl rfl rfl ?_
  intro us its mv ws h1 h2 h3 h4
  have h1_us0 : us.length = 2 := h1; clear h1; obtain ⟨us_0, ust0, e_us0, h1_us1⟩ := len_cons h1_us0; subst e_us0; obtain ⟨us_1, ust1, e_us1, h1_us2⟩ := len_cons h1_us1; subst e_us1; have e_us := len_nil h1_us2; subst e_us; have h2_its0 : its.length = 0 := h2; clear h2; have e_its := len_nil h2_its0; subst e_its; have h3_mv0 : mv.length = 0 := h3; clear h3; have e_mv := len_nil h3_mv0; subst e_mv; have h4_ws0 : ws.length = 0 := h4; clear h4; have e_ws := len_nil h4_ws0; subst e_ws; 
  kernel_rfl
theorem kb_NoRange_init_1_z {K : PySem.W.Frag} {mg : Str → Option Value} (Z : Fs K mg) {fd : FuncData} (F : FunD K d_NoRange_init.name d_NoRange_init.qual d_NoRange_init.params d_NoRange_init.body d_NoRange_init.scope (d_NoRange_init.dvs K) (d_NoRange_init.kws K) (He.fAd K d_NoRange_init.at_) fd) : KB K (TT K) fd P_NoRange_init 1 [] (fun ds zs => arr [.p 0] ds [] [] zs) := by
  refine kb_gen F 1 [] [.p 0] [] [] (fun G ρ => RepL.nil) (fun G ρ => RepL.nil) rfl rfl rfl ?_
  intro us its mv ws h1 h2 h3 h4
  have h1_us0 : us.length = 2 := h1; clear h1; obtain ⟨us_0, ust0, e_us0, h1_us1⟩ := len_cons h1_us0; subst e_us0; obtain ⟨us_1, ust1, e_us1, h1_us2⟩ := len_cons h1_us1; subst e_us1; have e_us := len_nil h1_us2; subst e_us; have h2_its0 : its.length = 0 := h2; clear h2; have e_its := len_nil h2_its0; subst e_its; have h3_mv0 : mv.length = 0 := h3; clear h3; have e_mv := len_nil h3_mv0; subst e_mv; have h4_ws0 : ws.length = 0 := h4; clear h4; have e_ws := len_nil h4_ws0; subst e_ws; 
  kernel_rfl
theorem kb_TooMany_init_1_z {K : PySem.W.Frag} {mg : Str → Option Value} (Z : Fs K mg) {fd : FuncData} (F : FunD K d_TooMany_init.name d_TooMany_init.qual d_TooMany_init.params d_TooMany_init.body d_TooMany_init.scope (d_TooMany_init.dvs K) (d_TooMany_init.kws K) (He.fAd K d_TooMany_init.at_) fd) : KB K (TT K) fd P_TooMany_init 1 [] (fun ds zs => arr [.p 0] ds [] [] zs) := by
  refine kb_gen F 1 [] [.p 0] [] [] (fun G ρ => RepL.nil) (fun G ρ => RepL.nil) rfl rfl rfl ?_
  intro us its mv ws h1 h2 h3 h4
  have h1_us0 : us.length = 2 := h1; clear h1; obtain ⟨us_0, ust0, e_us0, h1_us1⟩ := len_cons h1_us0; subst e_us0; obtain ⟨us_1, ust1, e_us1, h1_us2⟩ := len_cons h1_us1; subst e_us1; have e_us := len_nil h1_us2; subst e_us; have h2_its0 : its.length = 0 := h2; clear h2; have e_its := len_nil h2_its0; subst e_its; have h3_mv0 : mv.length = 0 := h3; clear h3; have e_mv := len_nil h3_mv0; subst e_mv; have h4_ws0 : ws.length = 0 := h4; clear h4; have e_ws := len_nil h4_ws0; subst e_ws; 
  kernel_rfl
theorem kb_NoWish_init_1_z {K : PySem.W.Frag} {mg : Str → Option Value} (Z : Fs K mg) {fd : FuncData} (F : FunD K d_NoWish_init.name d_NoWish_init.qual d_NoWish_init.params d_NoWish_init.body d_NoWish_init.scope (d_NoWish_init.dvs K) (d_NoWish_init.kws K) (He.fAd K d_NoWish_init.at_) fd) : KB K (TT K) fd P_NoWish_init 1 [] (fun ds zs => arr [.p 0] ds [] [] zs) := by
  refine kb_gen F 1 [] [.p 0] [] [] (fun G ρ => RepL.nil) (fun G ρ => RepL.nil) rfl rfl rfl ?_
  intro us its mv ws h1 h2 h3 h4
  have h1_us0 : us.length = 2 := h1; clear h1; obtain ⟨us_0, ust0, e_us0, h1_us1⟩ := len_cons h1_us0; subst e_us0; obtain ⟨us_1, ust1, e_us1, h1_us2⟩ := len_cons h1_us1; subst e_us1; have e_us := len_nil h1_us2; subst e_us; have h2_its0 : its.length = 0 := h2; clear h2; have e_its := len_nil h2_its0; subst e_its; have h3_mv0 : mv.length = 0 := h3; clear h3; have e_mv := len_nil h3_mv0; subst e_mv; have h4_ws0 : ws.length = 0 := h4; clear h4; have e_ws := len_nil h4_ws0; subst e_ws; 
  kernel_rfl
theorem kb_OtherBoxes_init_2_z {K : PySem.W.Frag} {mg : Str → Option Value} (Z : Fs K mg) {fd : FuncData} (F : FunD K d_OtherBoxes_init.name d_OtherBoxes_init.qual d_OtherBoxes_init.params d_OtherBoxes_init.body d_OtherBoxes_init.scope (d_OtherBoxes_init.dvs K) (d_OtherBoxes_init.kws K) (He.fAd K d_OtherBoxes_init.at_) fd) : KB K (TT K) fd P_OtherBoxes_init 2 [] (fun ds zs => arr [.p 0, .p 1] ds [] [] zs) := by
  refine kb_gen F 2 [] [.p 0, .p 1] [] [] (fun G ρ => RepL.nil) (fun G ρ => RepL.nil) rfl rfl rfl ?_
  intro us its mv ws h1 h2 h3 h4
  have h1_us0 : us.length = 3 := h1; clear h1; obtain ⟨us_0, ust0, e_us0, h1_us1⟩ := len_cons h1_us0; subst e_us0; obtain ⟨us_1, ust1, e_us1, h1_us2⟩ := len_cons h1_us1; subst e_us1; obtain ⟨us_2, ust2, e_us2, h1_us3⟩ := len_cons h1_us2; subst e_us2; have e_us := len_nil h1_us3; subst e_us; have h2_its0 : its.length = 0 := h2; clear h2; have e_its := len_nil h2_its0; subst e_its; have h3_mv0 : mv.length = 0 := h3; clear h3; have e_mv := len_nil h3_mv0; subst e_mv; have h4_ws0 : ws.length = 0 := h4; clear h4; have e_ws := len_nil h4_ws0; subst e_ws; 
  kernel_rfl
theorem kb_NoArea_init_1_z {K : PySem.W.Frag} {mg : Str → Option Value} (Z : Fs K mg) {fd : FuncData} (F : FunD K d_NoArea_init.name d_NoArea_init.qual d_NoArea_init.params d_NoArea_init.body d_NoArea_init.scope (d_NoArea_init.dvs K) (d_NoArea_init.kws K) (He.fAd K d_NoArea_init.at_) fd) : KB K (TT K) fd P_NoArea_init 1 [] (fun ds zs => arr [.p 0] ds [] [] zs) := by
  refine kb_gen F 1 [] [.p 0] [] [] (fun G ρ => RepL.nil) (fun G ρ => RepL.nil) rfl rfl rfl ?_
  intro us its mv ws h1 h2 h3 h4
  have h1_us0 : us.length = 2 := h1; clear h1; obtain ⟨us_0, ust0, e_us0, h1_us1⟩ := len_cons h1_us0; subst e_us0; obtain ⟨us_1, ust1, e_us1, h1_us2⟩ := len_cons h1_us1; subst e_us1; have e_us := len_nil h1_us2; subst e_us; have h2_its0 : its.length = 0 := h2; clear h2; have e_its := len_nil h2_its0; subst e_its; have h3_mv0 : mv.length = 0 := h3; clear h3; have e_mv := len_nil h3_mv0; subst e_mv; have h4_ws0 : ws.length = 0 := h4; clear h4; have e_ws := len_nil h4_ws0; subst e_ws; 
  kernel_rfl
theorem kb_NoSizes_init_1_z {K : PySem.W.Frag} {mg : Str → Option Value} (Z : Fs K mg) {fd : FuncData} (F : FunD K d_NoSizes_init.name d_NoSizes_init.qual d_NoSizes_init.params d_NoSizes_init.body d_NoSizes_init.scope (d_NoSizes_init.dvs K) (d_NoSizes_init.kws K) (He.fAd K d_NoSizes_init.at_) fd) : KB K (TT K) fd P_NoSizes_init 1 [] (fun ds zs => arr [.p 0] ds [] [] zs) := by
  refine kb_gen F 1 [] [.p 0] [] [] (fun G ρ => RepL.nil) (fun G ρ => RepL.nil) rfl rfl rfl ?_
  intro us its mv ws h1 h2 h3 h4
  have h1_us0 : us.length = 2 := h1; clear h1; obtain ⟨us_0, ust0, e_us0, h1_us1⟩ := len_cons h1_us0; subst e_us0; obtain ⟨us_1, ust1, e_us1, h1_us2⟩ := len_cons h1_us1; subst e_us1; have e_us := len_nil h1_us2; subst e_us; have h2_its0 : its.length = 0 := h2; clear h2; have e_its := len_nil h2_its0; subst e_its; have h3_mv0 : mv.length = 0 := h3; clear h3; have e_mv := len_nil h3_mv0; subst e_mv; have h4_ws0 : ws.length = 0 := h4; clear h4; have e_ws := len_nil h4_ws0; subst e_ws; 
  kernel_rfl
theorem kb_NoCrossings_init_1_z {K : PySem.W.Frag} {mg : Str → Option Value} (Z : Fs K mg) {fd : FuncData} (F : FunD K d_NoCrossings_init.name d_NoCrossings_init.qual d_NoCrossings_init.params d_NoCrossings_init.body d_NoCrossings_init.scope (d_NoCrossings_init.dvs K) (d_NoCrossings_init.kws K) (He.fAd K d_NoCrossings_init.at_) fd) : KB K (TT K) fd P_NoCrossings_init 1 [] (fun ds zs => arr [.p 0] ds [] [] zs) := by
  refine kb_gen F 1 [] [.p 0] [] [] (fun G ρ => RepL.nil) (fun G ρ => RepL.nil) rfl rfl rfl ?_
  intro us its mv ws h1 h2 h3 h4
  have h1_us0 : us.length = 2 := h1; clear h1; obtain ⟨us_0, ust0, e_us0, h1_us1⟩ := len_cons h1_us0; subst e_us0; obtain ⟨us_1, ust1, e_us1, h1_us2⟩ := len_cons h1_us1; subst e_us1; have e_us := len_nil h1_us2; subst e_us; have h2_its0 : its.length = 0 := h2; clear h2; have e_its := len_nil h2_its0; subst e_its; have h3_mv0 : mv.length = 0 := h3; clear h3; have e_mv := len_nil h3_mv0; subst e_mv; have h4_ws0 : ws.length = 0 := h4; clear h4; have e_ws := len_nil h4_ws0; subst e_ws; 
  kernel_rfl
theorem kb_NoOrder_init_1_z {K : PySem.W.Frag} {mg : Str → Option Value} (Z : Fs K mg) {fd : FuncData} (F : FunD K d_NoOrder_init.name d_NoOrder_init.qual d_NoOrder_init.params d_NoOrder_init.body d_NoOrder_init.scope (d_NoOrder_init.dvs K) (d_NoOrder_init.kws K) (He.fAd K d_NoOrder_init.at_) fd) : KB K (TT K) fd P_NoOrder_init 1 [] (fun ds zs => arr [.p 0] ds [] [] zs) := by
  refine kb_gen F 1 [] [.p 0] [] [] (fun G ρ => RepL.nil) (fun G ρ => RepL.nil) rfl rfl rfl ?_
  intro us its mv ws h1 h2 h3 h4
  have h1_us0 : us.length = 2 := h1; clear h1; obtain ⟨us_0, ust0, e_us0, h1_us1⟩ := len_cons h1_us0; subst e_us0; obtain ⟨us_1, ust1, e_us1, h1_us2⟩ := len_cons h1_us1; subst e_us1; have e_us := len_nil h1_us2; subst e_us; have h2_its0 : its.length = 0 := h2; clear h2; have e_its := len_nil h2_its0; subst e_its; have h3_mv0 : mv.length = 0 := h3; clear h3; have e_mv := len_nil h3_mv0; subst e_mv; have h4_ws0 : ws.length = 0 := h4; clear h4; have e_ws := len_nil h4_ws0; subst e_ws; 
  kernel_rfl
theorem kb_NoText_init_1_z {K : PySem.W.Frag} {mg : Str → Option Value} (Z : Fs K mg) {fd : FuncData} (F : FunD K d_NoText_init.name d_NoText_init.qual d_NoText_init.params d_NoText_init.body d_NoText_init.scope (d_NoText_init.dvs K) (d_NoText_init.kws K) (He.fAd K d_NoText_init.at_) fd) : KB K (TT K) fd P_NoText_init 1 [] (fun ds zs => arr [.p 0] ds [] [] zs) := by
  refine kb_gen F 1 [] [.p 0] [] [] (fun G ρ => RepL.nil) (fun G ρ => RepL.nil) rfl rfl rfl ?_
  intro us its mv ws h1 h2 h3 h4
  have h1_us0 : us.length = 2 := h1; clear h1; obtain ⟨us_0, ust0, e_us0, h1_us1⟩ := len_cons h1_us0; subst e_us0; obtain ⟨us_1, ust1, e_us1, h1_us2⟩ := len_cons h1_us1; subst e_us1; have e_us := len_nil h1_us2; subst e_us; have h2_its0 : its.length = 0 := h2; clear h2; have e_its := len_nil h2_its0; subst e_its; have h3_mv0 : mv.length = 0 := h3; clear h3; have e_mv := len_nil h3_mv0; subst e_mv; have h4_ws0 : ws.length = 0 := h4; clear h4; have e_ws := len_nil h4_ws0; subst e_ws; 
  kernel_rfl
theorem kb_NoNumber_init_0_0 {K : PySem.W.Frag} {mg : Str → Option Value} (Z : Fs K mg) {fd : FuncData} (F : FunD K d_NoNumber_init.name d_NoNumber_init.qual d_NoNumber_init.params d_NoNumber_init.body d_NoNumber_init.scope (d_NoNumber_init.dvs K) (d_NoNumber_init.kws K) (He.fAd K d_NoNumber_init.at_) fd) : KB K (TT K) fd P_NoNumber_init 0 ["part"] (fun ds zs => arr [.k 0] ds [] [] zs) := by
  refine kb_gen F 0 ["part"] [.k 0] [] [] (fun G ρ => RepL.nil) (fun G ρ => RepL.nil) rfl rfl rfl ?_
  intro us its mv ws h1 h2 h3 h4
  have h1_us0 : us.length = 1 := h1; clear h1; obtain ⟨us_0, ust0, e_us0, h1_us1⟩ := len_cons h1_us0; subst e_us0; have e_us := len_nil h1_us1; subst e_us; have h2_its0 : its.length = 0 := h2; clear h2; have e_its := len_nil h2_its0; subst e_its; have h3_mv0 : mv.length = 0 := h3; clear h3; have e_mv := len_nil h3_mv0; subst e_mv; have h4_ws0 : ws.length = 1 := h4; clear h4; obtain ⟨ws_0, wst0, e_ws0, h4_ws1⟩ := len_cons h4_ws0; subst e_ws0; have e_ws := len_nil h4_ws1; subst e_ws; 
  kernel_rfl
theorem kb_NoContent_init_0_1_0 {K : PySem.W.Frag} {mg : Str → Option Value} (Z : Fs K mg) {fd : FuncData} (F : FunD K d_NoContent_init.name d_NoContent_init.qual d_NoContent_init.params d_NoContent_init.body d_NoContent_init.scope (d_NoContent_init.dvs K) (d_NoContent_init.kws K) (He.fAd K d_NoContent_init.at_) fd) : KB K (TT K) fd P_NoContent_init 0 ["index", "part"] (fun ds zs => arr [.k 1, .k 0] ds [] [] zs) := by
  refine kb_gen F 0 ["index", "part"] [.k 1, .k 0] [] [] (fun G ρ => RepL.nil) (fun G ρ => RepL.nil) rfl rfl rfl ?_
  intro us its mv ws h1 h2 h3 h4
  have h1_us0 : us.length = 1 := h1; clear h1; obtain ⟨us_0, ust0, e_us0, h1_us1⟩ := len_cons h1_us0; subst e_us0; have e_us := len_nil h1_us1; subst e_us; have h2_its0 : its.length = 0 := h2; clear h2; have e_its := len_nil h2_its0; subst e_its; have h3_mv0 : mv.length = 0 := h3; clear h3; have e_mv := len_nil h3_mv0; subst e_mv; have h4_ws0 : ws.length = 2 := h4; clear h4; obtain ⟨ws_0, wst0, e_ws0, h4_ws1⟩ := len_cons h4_ws0; subst e_ws0; obtain ⟨ws_1, wst1, e_ws1, h4_ws2⟩ := len_cons h4_ws1; subst e_ws1; have e_ws := len_nil h4_ws2; subst e_ws; 
  kernel_rfl
theorem kb_NoGrid_init_0_1_0 {K : PySem.W.Frag} {mg : Str → Option Value} (Z : Fs K mg) {fd : FuncData} (F : FunD K d_NoGrid_init.name d_NoGrid_init.qual d_NoGrid_init.params d_NoGrid_init.body d_NoGrid_init.scope (d_NoGrid_init.dvs K) (d_NoGrid_init.kws K) (He.fAd K d_NoGrid_init.at_) fd) : KB K (TT K) fd P_NoGrid_init 0 ["index", "part"] (fun ds zs => arr [.k 1, .k 0] ds [] [] zs) := by
  refine kb_gen F 0 ["index", "part"] [.k 1, .k 0] [] [] (fun G ρ => RepL.nil) (fun G ρ => RepL.nil) rfl rfl rfl ?_
  intro us its mv ws h1 h2 h3 h4
  have h1_us0 : us.length = 1 := h1; clear h1; obtain ⟨us_0, ust0, e_us0, h1_us1⟩ := len_cons h1_us0; subst e_us0; have e_us := len_nil h1_us1; subst e_us; have h2_its0 : its.length = 0 := h2; clear h2; have e_its := len_nil h2_its0; subst e_its; have h3_mv0 : mv.length = 0 := h3; clear h3; have e_mv := len_nil h3_mv0; subst e_mv; have h4_ws0 : ws.length = 2 := h4; clear h4; obtain ⟨ws_0, wst0, e_ws0, h4_ws1⟩ := len_cons h4_ws0; subst e_ws0; obtain ⟨ws_1, wst1, e_ws1, h4_ws2⟩ := len_cons h4_ws1; subst e_ws1; have e_ws := len_nil h4_ws2; subst e_ws; 
  kernel_rfl
theorem kb_NoItem_init_0_0 {K : PySem.W.Frag} {mg : Str → Option Value} (Z : Fs K mg) {fd : FuncData} (F : FunD K d_NoItem_init.name d_NoItem_init.qual d_NoItem_init.params d_NoItem_init.body d_NoItem_init.scope (d_NoItem_init.dvs K) (d_NoItem_init.kws K) (He.fAd K d_NoItem_init.at_) fd) : KB K (TT K) fd P_NoItem_init 0 ["part"] (fun ds zs => arr [.k 0] ds [] [] zs) := by
  refine kb_gen F 0 ["part"] [.k 0] [] [] (fun G ρ => RepL.nil) (fun G ρ => RepL.nil) rfl rfl rfl ?_
  intro us its mv ws h1 h2 h3 h4
  have h1_us0 : us.length = 1 := h1; clear h1; obtain ⟨us_0, ust0, e_us0, h1_us1⟩ := len_cons h1_us0; subst e_us0; have e_us := len_nil h1_us1; subst e_us; have h2_its0 : its.length = 0 := h2; clear h2; have e_its := len_nil h2_its0; subst e_its; have h3_mv0 : mv.length = 0 := h3; clear h3; have e_mv := len_nil h3_mv0; subst e_mv; have h4_ws0 : ws.length = 1 := h4; clear h4; obtain ⟨ws_0, wst0, e_ws0, h4_ws1⟩ := len_cons h4_ws0; subst e_ws0; have e_ws := len_nil h4_ws1; subst e_ws; 
  kernel_rfl
theorem kb_NoPage_init_0_1_0 {K : PySem.W.Frag} {mg : Str → Option Value} (Z : Fs K mg) {fd : FuncData} (F : FunD K d_NoPage_init.name d_NoPage_init.qual d_NoPage_init.params d_NoPage_init.body d_NoPage_init.scope (d_NoPage_init.dvs K) (d_NoPage_init.kws K) (He.fAd K d_NoPage_init.at_) fd) : KB K (TT K) fd P_NoPage_init 0 ["index", "part"] (fun ds zs => arr [.k 1, .k 0] ds [] [] zs) := by
  refine kb_gen F 0 ["index", "part"] [.k 1, .k 0] [] [] (fun G ρ => RepL.nil) (fun G ρ => RepL.nil) rfl rfl rfl ?_
  intro us its mv ws h1 h2 h3 h4
  have h1_us0 : us.length = 1 := h1; clear h1; obtain ⟨us_0, ust0, e_us0, h1_us1⟩ := len_cons h1_us0; subst e_us0; have e_us := len_nil h1_us1; subst e_us; have h2_its0 : its.length = 0 := h2; clear h2; have e_its := len_nil h2_its0; subst e_its; have h3_mv0 : mv.length = 0 := h3; clear h3; have e_mv := len_nil h3_mv0; subst e_mv; have h4_ws0 : ws.length = 2 := h4; clear h4; obtain ⟨ws_0, wst0, e_ws0, h4_ws1⟩ := len_cons h4_ws0; subst e_ws0; obtain ⟨ws_1, wst1, e_ws1, h4_ws2⟩ := len_cons h4_ws1; subst e_ws1; have e_ws := len_nil h4_ws2; subst e_ws; 
  kernel_rfl
theorem kb_ManyLanes_init_0_0 {K : PySem.W.Frag} {mg : Str → Option Value} (Z : Fs K mg) {fd : FuncData} (F : FunD K d_ManyLanes_init.name d_ManyLanes_init.qual d_ManyLanes_init.params d_ManyLanes_init.body d_ManyLanes_init.scope (d_ManyLanes_init.dvs K) (d_ManyLanes_init.kws K) (He.fAd K d_ManyLanes_init.at_) fd) : KB K (TT K) fd P_ManyLanes_init 0 ["axis"] (fun ds zs => arr [.k 0] ds [] [] zs) := by
  refine kb_gen F 0 ["axis"] [.k 0] [] [] (fun G ρ => RepL.nil) (fun G ρ => RepL.nil) rfl rfl rfl ?_
  intro us its mv ws h1 h2 h3 h4
  have h1_us0 : us.length = 1 := h1; clear h1; obtain ⟨us_0, ust0, e_us0, h1_us1⟩ := len_cons h1_us0; subst e_us0; have e_us := len_nil h1_us1; subst e_us; have h2_its0 : its.length = 0 := h2; clear h2; have e_its := len_nil h2_its0; subst e_its; have h3_mv0 : mv.length = 0 := h3; clear h3; have e_mv := len_nil h3_mv0; subst e_mv; have h4_ws0 : ws.length = 1 := h4; clear h4; obtain ⟨ws_0, wst0, e_ws0, h4_ws1⟩ := len_cons h4_ws0; subst e_ws0; have e_ws := len_nil h4_ws1; subst e_ws; 
  kernel_rfl
theorem kb_NoPath_init_0_0 {K : PySem.W.Frag} {mg : Str → Option Value} (Z : Fs K mg) {fd : FuncData} (F : FunD K d_NoPath_init.name d_NoPath_init.qual d_NoPath_init.params d_NoPath_init.body d_NoPath_init.scope (d_NoPath_init.dvs K) (d_NoPath_init.kws K) (He.fAd K d_NoPath_init.at_) fd) : KB K (TT K) fd P_NoPath_init 0 ["path"] (fun ds zs => arr [.k 0] ds [] [] zs) := by
  refine kb_gen F 0 ["path"] [.k 0] [] [] (fun G ρ => RepL.nil) (fun G ρ => RepL.nil) rfl rfl rfl ?_
  intro us its mv ws h1 h2 h3 h4
  have h1_us0 : us.length = 1 := h1; clear h1; obtain ⟨us_0, ust0, e_us0, h1_us1⟩ := len_cons h1_us0; subst e_us0; have e_us := len_nil h1_us1; subst e_us; have h2_its0 : its.length = 0 := h2; clear h2; have e_its := len_nil h2_its0; subst e_its; have h3_mv0 : mv.length = 0 := h3; clear h3; have e_mv := len_nil h3_mv0; subst e_mv; have h4_ws0 : ws.length = 1 := h4; clear h4; obtain ⟨ws_0, wst0, e_ws0, h4_ws1⟩ := len_cons h4_ws0; subst e_ws0; have e_ws := len_nil h4_ws1; subst e_ws; 
  kernel_rfl
theorem kb_NoRange_init_0_0 {K : PySem.W.Frag} {mg : Str → Option Value} (Z : Fs K mg) {fd : FuncData} (F : FunD K d_NoRange_init.name d_NoRange_init.qual d_NoRange_init.params d_NoRange_init.body d_NoRange_init.scope (d_NoRange_init.dvs K) (d_NoRange_init.kws K) (He.fAd K d_NoRange_init.at_) fd) : KB K (TT K) fd P_NoRange_init 0 ["part"] (fun ds zs => arr [.k 0] ds [] [] zs) := by
  refine kb_gen F 0 ["part"] [.k 0] [] [] (fun G ρ => RepL.nil) (fun G ρ => RepL.nil) rfl rfl rfl ?_
  intro us its mv ws h1 h2 h3 h4
  have h1_us0 : us.length = 1 := h1; clear h1; obtain ⟨us_0, ust0, e_us0, h1_us1⟩ := len_cons h1_us0; subst e_us0; have e_us := len_nil h1_us1; subst e_us; have h2_its0 : its.length = 0 := h2; clear h2; have e_its := len_nil h2_its0; subst e_its; have h3_mv0 : mv.length = 0 := h3; clear h3; have e_mv := len_nil h3_mv0; subst e_mv; have h4_ws0 : ws.length = 1 := h4; clear h4; obtain ⟨ws_0, wst0, e_ws0, h4_ws1⟩ := len_cons h4_ws0; subst e_ws0; have e_ws := len_nil h4_ws1; subst e_ws; 
  kernel_rfl
theorem kb_TooMany_init_0_0 {K : PySem.W.Frag} {mg : Str → Option Value} (Z : Fs K mg) {fd : FuncData} (F : FunD K d_TooMany_init.name d_TooMany_init.qual d_TooMany_init.params d_TooMany_init.body d_TooMany_init.scope (d_TooMany_init.dvs K) (d_TooMany_init.kws K) (He.fAd K d_TooMany_init.at_) fd) : KB K (TT K) fd P_TooMany_init 0 ["most"] (fun ds zs => arr [.k 0] ds [] [] zs) := by
  refine kb_gen F 0 ["most"] [.k 0] [] [] (fun G ρ => RepL.nil) (fun G ρ => RepL.nil) rfl rfl rfl ?_
  intro us its mv ws h1 h2 h3 h4
  have h1_us0 : us.length = 1 := h1; clear h1; obtain ⟨us_0, ust0, e_us0, h1_us1⟩ := len_cons h1_us0; subst e_us0; have e_us := len_nil h1_us1; subst e_us; have h2_its0 : its.length = 0 := h2; clear h2; have e_its := len_nil h2_its0; subst e_its; have h3_mv0 : mv.length = 0 := h3; clear h3; have e_mv := len_nil h3_mv0; subst e_mv; have h4_ws0 : ws.length = 1 := h4; clear h4; obtain ⟨ws_0, wst0, e_ws0, h4_ws1⟩ := len_cons h4_ws0; subst e_ws0; have e_ws := len_nil h4_ws1; subst e_ws; 
  kernel_rfl
theorem kb_NoWish_init_0_0 {K : PySem.W.Frag} {mg : Str → Option Value} (Z : Fs K mg) {fd : FuncData} (F : FunD K d_NoWish_init.name d_NoWish_init.qual d_NoWish_init.params d_NoWish_init.body d_NoWish_init.scope (d_NoWish_init.dvs K) (d_NoWish_init.kws K) (He.fAd K d_NoWish_init.at_) fd) : KB K (TT K) fd P_NoWish_init 0 ["wish"] (fun ds zs => arr [.k 0] ds [] [] zs) := by
  refine kb_gen F 0 ["wish"] [.k 0] [] [] (fun G ρ => RepL.nil) (fun G ρ => RepL.nil) rfl rfl rfl ?_
  intro us its mv ws h1 h2 h3 h4
  have h1_us0 : us.length = 1 := h1; clear h1; obtain ⟨us_0, ust0, e_us0, h1_us1⟩ := len_cons h1_us0; subst e_us0; have e_us := len_nil h1_us1; subst e_us; have h2_its0 : its.length = 0 := h2; clear h2; have e_its := len_nil h2_its0; subst e_its; have h3_mv0 : mv.length = 0 := h3; clear h3; have e_mv := len_nil h3_mv0; subst e_mv; have h4_ws0 : ws.length = 1 := h4; clear h4; obtain ⟨ws_0, wst0, e_ws0, h4_ws1⟩ := len_cons h4_ws0; subst e_ws0; have e_ws := len_nil h4_ws1; subst e_ws; 
  kernel_rfl
theorem kb_OtherBoxes_init_0_1_0 {K : PySem.W.Frag} {mg : Str → Option Value} (Z : Fs K mg) {fd : FuncData} (F : FunD K d_OtherBoxes_init.name d_OtherBoxes_init.qual d_OtherBoxes_init.params d_OtherBoxes_init.body d_OtherBoxes_init.scope (d_OtherBoxes_init.dvs K) (d_OtherBoxes_init.kws K) (He.fAd K d_OtherBoxes_init.at_) fd) : KB K (TT K) fd P_OtherBoxes_init 0 ["other", "one"] (fun ds zs => arr [.k 1, .k 0] ds [] [] zs) := by
  refine kb_gen F 0 ["other", "one"] [.k 1, .k 0] [] [] (fun G ρ => RepL.nil) (fun G ρ => RepL.nil) rfl rfl rfl ?_
  intro us its mv ws h1 h2 h3 h4
  have h1_us0 : us.length = 1 := h1; clear h1; obtain ⟨us_0, ust0, e_us0, h1_us1⟩ := len_cons h1_us0; subst e_us0; have e_us := len_nil h1_us1; subst e_us; have h2_its0 : its.length = 0 := h2; clear h2; have e_its := len_nil h2_its0; subst e_its; have h3_mv0 : mv.length = 0 := h3; clear h3; have e_mv := len_nil h3_mv0; subst e_mv; have h4_ws0 : ws.length = 2 := h4; clear h4; obtain ⟨ws_0, wst0, e_ws0, h4_ws1⟩ := len_cons h4_ws0; subst e_ws0; obtain ⟨ws_1, wst1, e_ws1, h4_ws2⟩ := len_cons h4_ws1; subst e_ws1; have e_ws := len_nil h4_ws2; subst e_ws; 
  kernel_rfl
theorem kb_NoArea_init_0_0 {K : PySem.W.Frag} {mg : Str → Option Value} (Z : Fs K mg) {fd : FuncData} (F : FunD K d_NoArea_init.name d_NoArea_init.qual d_NoArea_init.params d_NoArea_init.body d_NoArea_init.scope (d_NoArea_init.dvs K) (d_NoArea_init.kws K) (He.fAd K d_NoArea_init.at_) fd) : KB K (TT K) fd P_NoArea_init 0 ["index"] (fun ds zs => arr [.k 0] ds [] [] zs) := by
  refine kb_gen F 0 ["index"] [.k 0] [] [] (fun G ρ => RepL.nil) (fun G ρ => RepL.nil) rfl rfl rfl ?_
  intro us its mv ws h1 h2 h3 h4
  have h1_us0 : us.length = 1 := h1; clear h1; obtain ⟨us_0, ust0, e_us0, h1_us1⟩ := len_cons h1_us0; subst e_us0; have e_us := len_nil h1_us1; subst e_us; have h2_its0 : its.length = 0 := h2; clear h2; have e_its := len_nil h2_its0; subst e_its; have h3_mv0 : mv.length = 0 := h3; clear h3; have e_mv := len_nil h3_mv0; subst e_mv; have h4_ws0 : ws.length = 1 := h4; clear h4; obtain ⟨ws_0, wst0, e_ws0, h4_ws1⟩ := len_cons h4_ws0; subst e_ws0; have e_ws := len_nil h4_ws1; subst e_ws; 
  kernel_rfl
theorem kb_NoSizes_init_0_0 {K : PySem.W.Frag} {mg : Str → Option Value} (Z : Fs K mg) {fd : FuncData} (F : FunD K d_NoSizes_init.name d_NoSizes_init.qual d_NoSizes_init.params d_NoSizes_init.body d_NoSizes_init.scope (d_NoSizes_init.dvs K) (d_NoSizes_init.kws K) (He.fAd K d_NoSizes_init.at_) fd) : KB K (TT K) fd P_NoSizes_init 0 ["index"] (fun ds zs => arr [.k 0] ds [] [] zs) := by
  refine kb_gen F 0 ["index"] [.k 0] [] [] (fun G ρ => RepL.nil) (fun G ρ => RepL.nil) rfl rfl rfl ?_
  intro us its mv ws h1 h2 h3 h4
  have h1_us0 : us.length = 1 := h1; clear h1; obtain ⟨us_0, ust0, e_us0, h1_us1⟩ := len_cons h1_us0; subst e_us0; have e_us := len_nil h1_us1; subst e_us; have h2_its0 : its.length = 0 := h2; clear h2; have e_its := len_nil h2_its0; subst e_its; have h3_mv0 : mv.length = 0 := h3; clear h3; have e_mv := len_nil h3_mv0; subst e_mv; have h4_ws0 : ws.length = 1 := h4; clear h4; obtain ⟨ws_0, wst0, e_ws0, h4_ws1⟩ := len_cons h4_ws0; subst e_ws0; have e_ws := len_nil h4_ws1; subst e_ws; 
  kernel_rfl
theorem kb_NoCrossings_init_0_0 {K : PySem.W.Frag} {mg : Str → Option Value} (Z : Fs K mg) {fd : FuncData} (F : FunD K d_NoCrossings_init.name d_NoCrossings_init.qual d_NoCrossings_init.params d_NoCrossings_init.body d_NoCrossings_init.scope (d_NoCrossings_init.dvs K) (d_NoCrossings_init.kws K) (He.fAd K d_NoCrossings_init.at_) fd) : KB K (TT K) fd P_NoCrossings_init 0 ["index"] (fun ds zs => arr [.k 0] ds [] [] zs) := by
  refine kb_gen F 0 ["index"] [.k 0] [] [] (fun G ρ => RepL.nil) (fun G ρ => RepL.nil) rfl rfl rfl ?_
  intro us its mv ws h1 h2 h3 h4
  have h1_us0 : us.length = 1 := h1; clear h1; obtain ⟨us_0, ust0, e_us0, h1_us1⟩ := len_cons h1_us0; subst e_us0; have e_us := len_nil h1_us1; subst e_us; have h2_its0 : its.length = 0 := h2; clear h2; have e_its := len_nil h2_its0; subst e_its; have h3_mv0 : mv.length = 0 := h3; clear h3; have e_mv := len_nil h3_mv0; subst e_mv; have h4_ws0 : ws.length = 1 := h4; clear h4; obtain ⟨ws_0, wst0, e_ws0, h4_ws1⟩ := len_cons h4_ws0; subst e_ws0; have e_ws := len_nil h4_ws1; subst e_ws; 
  kernel_rfl
theorem kb_NoOrder_init_0_0 {K : PySem.W.Frag} {mg : Str → Option Value} (Z : Fs K mg) {fd : FuncData} (F : FunD K d_NoOrder_init.name d_NoOrder_init.qual d_NoOrder_init.params d_NoOrder_init.body d_NoOrder_init.scope (d_NoOrder_init.dvs K) (d_NoOrder_init.kws K) (He.fAd K d_NoOrder_init.at_) fd) : KB K (TT K) fd P_NoOrder_init 0 ["index"] (fun ds zs => arr [.k 0] ds [] [] zs) := by
  refine kb_gen F 0 ["index"] [.k 0] [] [] (fun G ρ => RepL.nil) (fun G ρ => RepL.nil) rfl rfl rfl ?_
  intro us its mv ws h1 h2 h3 h4
  have h1_us0 : us.length = 1 := h1; clear h1; obtain ⟨us_0, ust0, e_us0, h1_us1⟩ := len_cons h1_us0; subst e_us0; have e_us := len_nil h1_us1; subst e_us; have h2_its0 : its.length = 0 := h2; clear h2; have e_its := len_nil h2_its0; subst e_its; have h3_mv0 : mv.length = 0 := h3; clear h3; have e_mv := len_nil h3_mv0; subst e_mv; have h4_ws0 : ws.length = 1 := h4; clear h4; obtain ⟨ws_0, wst0, e_ws0, h4_ws1⟩ := len_cons h4_ws0; subst e_ws0; have e_ws := len_nil h4_ws1; subst e_ws; 
  kernel_rfl
theorem kb_NoText_init_0_0 {K : PySem.W.Frag} {mg : Str → Option Value} (Z : Fs K mg) {fd : FuncData} (F : FunD K d_NoText_init.name d_NoText_init.qual d_NoText_init.params d_NoText_init.body d_NoText_init.scope (d_NoText_init.dvs K) (d_NoText_init.kws K) (He.fAd K d_NoText_init.at_) fd) : KB K (TT K) fd P_NoText_init 0 ["line"] (fun ds zs => arr [.k 0] ds [] [] zs) := by
  refine kb_gen F 0 ["line"] [.k 0] [] [] (fun G ρ => RepL.nil) (fun G ρ => RepL.nil) rfl rfl rfl ?_
  intro us its mv ws h1 h2 h3 h4
  have h1_us0 : us.length = 1 := h1; clear h1; obtain ⟨us_0, ust0, e_us0, h1_us1⟩ := len_cons h1_us0; subst e_us0; have e_us := len_nil h1_us1; subst e_us; have h2_its0 : its.length = 0 := h2; clear h2; have e_its := len_nil h2_its0; subst e_its; have h3_mv0 : mv.length = 0 := h3; clear h3; have e_mv := len_nil h3_mv0; subst e_mv; have h4_ws0 : ws.length = 1 := h4; clear h4; obtain ⟨ws_0, wst0, e_ws0, h4_ws1⟩ := len_cons h4_ws0; subst e_ws0; have e_ws := len_nil h4_ws1; subst e_ws; 
  kernel_rfl
theorem kb_NoAxis_init_0_z {K : PySem.W.Frag} {mg : Str → Option Value} (Z : Fs K mg) {fd : FuncData} (F : FunD K d_NoAxis_init.name d_NoAxis_init.qual d_NoAxis_init.params d_NoAxis_init.body d_NoAxis_init.scope (d_NoAxis_init.dvs K) (d_NoAxis_init.kws K) (He.fAd K d_NoAxis_init.at_) fd) : KB K (TT K) fd P_NoAxis_init 0 [] (fun ds zs => arr [] ds [] [] zs) := by
  refine kb_gen F 0 [] [] [] [] (fun G ρ => RepL.nil) (fun G ρ => RepL.nil) rfl rfl rfl ?_
  intro us its mv ws h1 h2 h3 h4
  have h1_us0 : us.length = 1 := h1; clear h1; obtain ⟨us_0, ust0, e_us0, h1_us1⟩ := len_cons h1_us0; subst e_us0; have e_us := len_nil h1_us1; subst e_us; have h2_its0 : its.length = 0 := h2; clear h2; have e_its := len_nil h2_its0; subst e_its; have h3_mv0 : mv.length = 0 := h3; clear h3; have e_mv := len_nil h3_mv0; subst e_mv; have h4_ws0 : ws.length = 0 := h4; clear h4; have e_ws := len_nil h4_ws0; subst e_ws; 
  kernel_rfl
theorem kb_NoStates_init_0_z {K : PySem.W.Frag} {mg : Str → Option Value} (Z : Fs K mg) {fd : FuncData} (F : FunD K d_NoStates_init.name d_NoStates_init.qual d_NoStates_init.params d_NoStates_init.body d_NoStates_init.scope (d_NoStates_init.dvs K) (d_NoStates_init.kws K) (He.fAd K d_NoStates_init.at_) fd) : KB K (TT K) fd P_NoStates_init 0 [] (fun ds zs => arr [] ds [] [] zs) := by
  refine kb_gen F 0 [] [] [] [] (fun G ρ => RepL.nil) (fun G ρ => RepL.nil) rfl rfl rfl ?_
  intro us its mv ws h1 h2 h3 h4
  have h1_us0 : us.length = 1 := h1; clear h1; obtain ⟨us_0, ust0, e_us0, h1_us1⟩ := len_cons h1_us0; subst e_us0; have e_us := len_nil h1_us1; subst e_us; have h2_its0 : its.length = 0 := h2; clear h2; have e_its := len_nil h2_its0; subst e_its; have h3_mv0 : mv.length = 0 := h3; clear h3; have e_mv := len_nil h3_mv0; subst e_mv; have h4_ws0 : ws.length = 0 := h4; clear h4; have e_ws := len_nil h4_ws0; subst e_ws; 
  kernel_rfl
theorem V_NoNumber_init_1_z {P : Program} {w : World} {K : PySem.W.Frag} {mg : Str → Option Value} {base : Heap} (Z : Fs K mg) : ExV P w K (TT K) mg base (He.ga K "NoNumber") 1 ["part"] 1 [] (fun ds zs => arr [.p 0] ds [] [] zs) := by
  obtain ⟨fd, F⟩ := Z.says.def_ 8 (d := d_NoNumber_init) rfl
  exact exv_ok (Z.ex_ 4 rfl) (He.meth_ok (Z.fact 33 rfl)) (init1_ok F sc_NoNumber_init (baB_ok (Z.ex_ 5 rfl)) (Z.glo 28) rfl (Or.inl rfl) (fun _ => ⟨_, rfl⟩) (Or.inl rfl) rfl rfl) (kb_NoNumber_init_1_z Z F)
theorem V_NoContent_init_2_z {P : Program} {w : World} {K : PySem.W.Frag} {mg : Str → Option Value} {base : Heap} (Z : Fs K mg) : ExV P w K (TT K) mg base (He.ga K "NoContent") 1 ["part", "index"] 2 [] (fun ds zs => arr [.p 0, .p 1] ds [] [] zs) := by
  obtain ⟨fd, F⟩ := Z.says.def_ 9 (d := d_NoContent_init) rfl
  exact exv_ok (Z.ex_ 6 rfl) (He.meth_ok (Z.fact 34 rfl)) (init2_ok F sc_NoContent_init (baB_ok (Z.ex_ 5 rfl)) (Z.glo 28) rfl (Or.inl rfl) (fun _ => ⟨_, rfl⟩) (Or.inl rfl) rfl rfl (Or.inl rfl) rfl rfl) (kb_NoContent_init_2_z Z F)
theorem V_NoGrid_init_2_z {P : Program} {w : World} {K : PySem.W.Frag} {mg : Str → Option Value} {base : Heap} (Z : Fs K mg) : ExV P w K (TT K) mg base (He.ga K "NoGrid") 1 ["part", "index"] 2 [] (fun ds zs => arr [.p 0, .p 1] ds [] [] zs) := by
  obtain ⟨fd, F⟩ := Z.says.def_ 10 (d := d_NoGrid_init) rfl
  exact exv_ok (Z.ex_ 7 rfl) (He.meth_ok (Z.fact 35 rfl)) (init2_ok F sc_NoGrid_init (baB_ok (Z.ex_ 5 rfl)) (Z.glo 28) rfl (Or.inl rfl) (fun _ => ⟨_, rfl⟩) (Or.inl rfl) rfl rfl (Or.inl rfl) rfl rfl) (kb_NoGrid_init_2_z Z F)
theorem V_NoItem_init_1_z {P : Program} {w : World} {K : PySem.W.Frag} {mg : Str → Option Value} {base : Heap} (Z : Fs K mg) : ExV P w K (TT K) mg base (He.ga K "NoItem") 1 ["part"] 1 [] (fun ds zs => arr [.p 0] ds [] [] zs) := by
  obtain ⟨fd, F⟩ := Z.says.def_ 11 (d := d_NoItem_init) rfl
  exact exv_ok (Z.ex_ 8 rfl) (He.meth_ok (Z.fact 36 rfl)) (init1_ok F sc_NoItem_init (baB_ok (Z.ex_ 5 rfl)) (Z.glo 28) rfl (Or.inl rfl) (fun _ => ⟨_, rfl⟩) (Or.inl rfl) rfl rfl) (kb_NoItem_init_1_z Z F)
theorem V_NoPage_init_2_z {P : Program} {w : World} {K : PySem.W.Frag} {mg : Str → Option Value} {base : Heap} (Z : Fs K mg) : ExV P w K (TT K) mg base (He.ga K "NoPage") 1 ["part", "index"] 2 [] (fun ds zs => arr [.p 0, .p 1] ds [] [] zs) := by
  obtain ⟨fd, F⟩ := Z.says.def_ 12 (d := d_NoPage_init) rfl
  exact exv_ok (Z.ex_ 9 rfl) (He.meth_ok (Z.fact 37 rfl)) (init2_ok F sc_NoPage_init (baB_ok (Z.ex_ 5 rfl)) (Z.glo 28) rfl (Or.inl rfl) (fun _ => ⟨_, rfl⟩) (Or.inl rfl) rfl rfl (Or.inl rfl) rfl rfl) (kb_NoPage_init_2_z Z F)
theorem V_ManyLanes_init_1_z {P : Program} {w : World} {K : PySem.W.Frag} {mg : Str → Option Value} {base : Heap} (Z : Fs K mg) : ExV P w K (TT K) mg base (He.ga K "ManyLanes") 1 ["axis"] 1 [] (fun ds zs => arr [.p 0] ds [] [] zs) := by
  obtain ⟨fd, F⟩ := Z.says.def_ 13 (d := d_ManyLanes_init) rfl
  exact exv_ok (Z.ex_ 10 rfl) (He.meth_ok (Z.fact 38 rfl)) (init1_ok F sc_ManyLanes_init (baB_ok (Z.ex_ 5 rfl)) (Z.glo 28) rfl (Or.inl rfl) (fun _ => ⟨_, rfl⟩) (Or.inl rfl) rfl rfl) (kb_ManyLanes_init_1_z Z F)
theorem V_NoPath_init_1_z {P : Program} {w : World} {K : PySem.W.Frag} {mg : Str → Option Value} {base : Heap} (Z : Fs K mg) : ExV P w K (TT K) mg base (He.ga K "NoPath") 1 ["path"] 1 [] (fun ds zs => arr [.p 0] ds [] [] zs) := by
  obtain ⟨fd, F⟩ := Z.says.def_ 14 (d := d_NoPath_init) rfl
  exact exv_ok (Z.ex_ 11 rfl) (He.meth_ok (Z.fact 39 rfl)) (init1_ok F sc_NoPath_init (baB_ok (Z.ex_ 5 rfl)) (Z.glo 28) rfl (Or.inl rfl) (fun _ => ⟨_, rfl⟩) (Or.inl rfl) rfl rfl) (kb_NoPath_init_1_z Z F)
theorem V_NoRange_init_1_z {P : Program} {w : World} {K : PySem.W.Frag} {mg : Str → Option Value} {base : Heap} (Z : Fs K mg) : ExV P w K (TT K) mg base (He.ga K "NoRange") 1 ["part"] 1 [] (fun ds zs => arr [.p 0] ds [] [] zs) := by
  obtain ⟨fd, F⟩ := Z.says.def_ 15 (d := d_NoRange_init) rfl
  exact exv_ok (Z.ex_ 12 rfl) (He.meth_ok (Z.fact 40 rfl)) (init1_ok F sc_NoRange_init (baB_ok (Z.ex_ 5 rfl)) (Z.glo 28) rfl (Or.inl rfl) (fun _ => ⟨_, rfl⟩) (Or.inl rfl) rfl rfl) (kb_NoRange_init_1_z Z F)
theorem V_TooMany_init_1_z {P : Program} {w : World} {K : PySem.W.Frag} {mg : Str → Option Value} {base : Heap} (Z : Fs K mg) : ExV P w K (TT K) mg base (He.ga K "TooMany") 1 ["most"] 1 [] (fun ds zs => arr [.p 0] ds [] [] zs) := by
  obtain ⟨fd, F⟩ := Z.says.def_ 16 (d := d_TooMany_init) rfl
  exact exv_ok (Z.ex_ 13 rfl) (He.meth_ok (Z.fact 41 rfl)) (init1_ok F sc_TooMany_init (baB_ok (Z.ex_ 5 rfl)) (Z.glo 28) rfl (Or.inl rfl) (fun _ => ⟨_, rfl⟩) (Or.inl rfl) rfl rfl) (kb_TooMany_init_1_z Z F)
theorem V_NoWish_init_1_z {P : Program} {w : World} {K : PySem.W.Frag} {mg : Str → Option Value} {base : Heap} (Z : Fs K mg) : ExV P w K (TT K) mg base (He.ga K "NoWish") 1 ["wish"] 1 [] (fun ds zs => arr [.p 0] ds [] [] zs) := by
  obtain ⟨fd, F⟩ := Z.says.def_ 17 (d := d_NoWish_init) rfl
  exact exv_ok (Z.ex_ 14 rfl) (He.meth_ok (Z.fact 42 rfl)) (init1_ok F sc_NoWish_init (baB_ok (Z.ex_ 5 rfl)) (Z.glo 28) rfl (Or.inl rfl) (fun _ => ⟨_, rfl⟩) (Or.inl rfl) rfl rfl) (kb_NoWish_init_1_z Z F)
theorem V_OtherBoxes_init_2_z {P : Program} {w : World} {K : PySem.W.Frag} {mg : Str → Option Value} {base : Heap} (Z : Fs K mg) : ExV P w K (TT K) mg base (He.ga K "OtherBoxes") 1 ["one", "other"] 2 [] (fun ds zs => arr [.p 0, .p 1] ds [] [] zs) := by
  obtain ⟨fd, F⟩ := Z.says.def_ 18 (d := d_OtherBoxes_init) rfl
  exact exv_ok (Z.ex_ 15 rfl) (He.meth_ok (Z.fact 43 rfl)) (init2_ok F sc_OtherBoxes_init (baB_ok (Z.ex_ 5 rfl)) (Z.glo 28) rfl (Or.inl rfl) (fun _ => ⟨_, rfl⟩) (Or.inl rfl) rfl rfl (Or.inl rfl) rfl rfl) (kb_OtherBoxes_init_2_z Z F)
theorem V_NoArea_init_1_z {P : Program} {w : World} {K : PySem.W.Frag} {mg : Str → Option Value} {base : Heap} (Z : Fs K mg) : ExV P w K (TT K) mg base (He.ga K "NoArea") 1 ["index"] 1 [] (fun ds zs => arr [.p 0] ds [] [] zs) := by
  obtain ⟨fd, F⟩ := Z.says.def_ 19 (d := d_NoArea_init) rfl
  exact exv_ok (Z.ex_ 16 rfl) (He.meth_ok (Z.fact 44 rfl)) (init1_ok F sc_NoArea_init (baB_ok (Z.ex_ 5 rfl)) (Z.glo 28) rfl (Or.inl rfl) (fun _ => ⟨_, rfl⟩) (Or.inl rfl) rfl rfl) (kb_NoArea_init_1_z Z F)
theorem V_NoSizes_init_1_z {P : Program} {w : World} {K : PySem.W.Frag} {mg : Str → Option Value} {base : Heap} (Z : Fs K mg) : ExV P w K (TT K) mg base (He.ga K "NoSizes") 1 ["index"] 1 [] (fun ds zs => arr [.p 0] ds [] [] zs) := by
  obtain ⟨fd, F⟩ := Z.says.def_ 20 (d := d_NoSizes_init) rfl
  exact exv_ok (Z.ex_ 17 rfl) (He.meth_ok (Z.fact 45 rfl)) (init1_ok F sc_NoSizes_init (baB_ok (Z.ex_ 5 rfl)) (Z.glo 28) rfl (Or.inl rfl) (fun _ => ⟨_, rfl⟩) (Or.inl rfl) rfl rfl) (kb_NoSizes_init_1_z Z F)
theorem V_NoCrossings_init_1_z {P : Program} {w : World} {K : PySem.W.Frag} {mg : Str → Option Value} {base : Heap} (Z : Fs K mg) : ExV P w K (TT K) mg base (He.ga K "NoCrossings") 1 ["index"] 1 [] (fun ds zs => arr [.p 0] ds [] [] zs) := by
  obtain ⟨fd, F⟩ := Z.says.def_ 21 (d := d_NoCrossings_init) rfl
  exact exv_ok (Z.ex_ 18 rfl) (He.meth_ok (Z.fact 46 rfl)) (init1_ok F sc_NoCrossings_init (baB_ok (Z.ex_ 5 rfl)) (Z.glo 28) rfl (Or.inl rfl) (fun _ => ⟨_, rfl⟩) (Or.inl rfl) rfl rfl) (kb_NoCrossings_init_1_z Z F)
theorem V_NoOrder_init_1_z {P : Program} {w : World} {K : PySem.W.Frag} {mg : Str → Option Value} {base : Heap} (Z : Fs K mg) : ExV P w K (TT K) mg base (He.ga K "NoOrder") 1 ["index"] 1 [] (fun ds zs => arr [.p 0] ds [] [] zs) := by
  obtain ⟨fd, F⟩ := Z.says.def_ 22 (d := d_NoOrder_init) rfl
  exact exv_ok (Z.ex_ 19 rfl) (He.meth_ok (Z.fact 47 rfl)) (init1_ok F sc_NoOrder_init (baB_ok (Z.ex_ 5 rfl)) (Z.glo 28) rfl (Or.inl rfl) (fun _ => ⟨_, rfl⟩) (Or.inl rfl) rfl rfl) (kb_NoOrder_init_1_z Z F)
theorem V_NoText_init_1_z {P : Program} {w : World} {K : PySem.W.Frag} {mg : Str → Option Value} {base : Heap} (Z : Fs K mg) : ExV P w K (TT K) mg base (He.ga K "NoText") 1 ["line"] 1 [] (fun ds zs => arr [.p 0] ds [] [] zs) := by
  obtain ⟨fd, F⟩ := Z.says.def_ 23 (d := d_NoText_init) rfl
  exact exv_ok (Z.ex_ 20 rfl) (He.meth_ok (Z.fact 48 rfl)) (init1_ok F sc_NoText_init (baB_ok (Z.ex_ 5 rfl)) (Z.glo 28) rfl (Or.inl rfl) (fun _ => ⟨_, rfl⟩) (Or.inl rfl) rfl rfl) (kb_NoText_init_1_z Z F)
theorem V_NoNumber_init_0_0 {P : Program} {w : World} {K : PySem.W.Frag} {mg : Str → Option Value} {base : Heap} (Z : Fs K mg) : ExV P w K (TT K) mg base (He.ga K "NoNumber") 1 ["part"] 0 ["part"] (fun ds zs => arr [.k 0] ds [] [] zs) := by
  obtain ⟨fd, F⟩ := Z.says.def_ 8 (d := d_NoNumber_init) rfl
  exact exv_ok (Z.ex_ 4 rfl) (He.meth_ok (Z.fact 33 rfl)) (init1_ok F sc_NoNumber_init (baB_ok (Z.ex_ 5 rfl)) (Z.glo 28) rfl (Or.inl rfl) (fun _ => ⟨_, rfl⟩) (Or.inl rfl) rfl rfl) (kb_NoNumber_init_0_0 Z F)
theorem V_NoContent_init_0_1_0 {P : Program} {w : World} {K : PySem.W.Frag} {mg : Str → Option Value} {base : Heap} (Z : Fs K mg) : ExV P w K (TT K) mg base (He.ga K "NoContent") 1 ["part", "index"] 0 ["index", "part"] (fun ds zs => arr [.k 1, .k 0] ds [] [] zs) := by
  obtain ⟨fd, F⟩ := Z.says.def_ 9 (d := d_NoContent_init) rfl
  exact exv_ok (Z.ex_ 6 rfl) (He.meth_ok (Z.fact 34 rfl)) (init2_ok F sc_NoContent_init (baB_ok (Z.ex_ 5 rfl)) (Z.glo 28) rfl (Or.inl rfl) (fun _ => ⟨_, rfl⟩) (Or.inl rfl) rfl rfl (Or.inl rfl) rfl rfl) (kb_NoContent_init_0_1_0 Z F)
theorem V_NoGrid_init_0_1_0 {P : Program} {w : World} {K : PySem.W.Frag} {mg : Str → Option Value} {base : Heap} (Z : Fs K mg) : ExV P w K (TT K) mg base (He.ga K "NoGrid") 1 ["part", "index"] 0 ["index", "part"] (fun ds zs => arr [.k 1, .k 0] ds [] [] zs) := by
  obtain ⟨fd, F⟩ := Z.says.def_ 10 (d := d_NoGrid_init) rfl
  exact exv_ok (Z.ex_ 7 rfl) (He.meth_ok (Z.fact 35 rfl)) (init2_ok F sc_NoGrid_init (baB_ok (Z.ex_ 5 rfl)) (Z.glo 28) rfl (Or.inl rfl) (fun _ => ⟨_, rfl⟩) (Or.inl rfl) rfl rfl (Or.inl rfl) rfl rfl) (kb_NoGrid_init_0_1_0 Z F)
theorem V_NoItem_init_0_0 {P : Program} {w : World} {K : PySem.W.Frag} {mg : Str → Option Value} {base : Heap} (Z : Fs K mg) : ExV P w K (TT K) mg base (He.ga K "NoItem") 1 ["part"] 0 ["part"] (fun ds zs => arr [.k 0] ds [] [] zs) := by
  obtain ⟨fd, F⟩ := Z.says.def_ 11 (d := d_NoItem_init) rfl
  exact exv_ok (Z.ex_ 8 rfl) (He.meth_ok (Z.fact 36 rfl)) (init1_ok F sc_NoItem_init (baB_ok (Z.ex_ 5 rfl)) (Z.glo 28) rfl (Or.inl rfl) (fun _ => ⟨_, rfl⟩) (Or.inl rfl) rfl rfl) (kb_NoItem_init_0_0 Z F)
theorem V_NoPage_init_0_1_0 {P : Program} {w : World} {K : PySem.W.Frag} {mg : Str → Option Value} {base : Heap} (Z : Fs K mg) : ExV P w K (TT K) mg base (He.ga K "NoPage") 1 ["part", "index"] 0 ["index", "part"] (fun ds zs => arr [.k 1, .k 0] ds [] [] zs) := by
  obtain ⟨fd, F⟩ := Z.says.def_ 12 (d := d_NoPage_init) rfl
  exact exv_ok (Z.ex_ 9 rfl) (He.meth_ok (Z.fact 37 rfl)) (init2_ok F sc_NoPage_init (baB_ok (Z.ex_ 5 rfl)) (Z.glo 28) rfl (Or.inl rfl) (fun _ => ⟨_, rfl⟩) (Or.inl rfl) rfl rfl (Or.inl rfl) rfl rfl) (kb_NoPage_init_0_1_0 Z F)
theorem V_ManyLanes_init_0_0 {P : Program} {w : World} {K : PySem.W.Frag} {mg : Str → Option Value} {base : Heap} (Z : Fs K mg) : ExV P w K (TT K) mg base (He.ga K "ManyLanes") 1 ["axis"] 0 ["axis"] (fun ds zs => arr [.k 0] ds [] [] zs) := by
  obtain ⟨fd, F⟩ := Z.says.def_ 13 (d := d_ManyLanes_init) rfl
  exact exv_ok (Z.ex_ 10 rfl) (He.meth_ok (Z.fact 38 rfl)) (init1_ok F sc_ManyLanes_init (baB_ok (Z.ex_ 5 rfl)) (Z.glo 28) rfl (Or.inl rfl) (fun _ => ⟨_, rfl⟩) (Or.inl rfl) rfl rfl) (kb_ManyLanes_init_0_0 Z F)
theorem V_NoPath_init_0_0 {P : Program} {w : World} {K : PySem.W.Frag} {mg : Str → Option Value} {base : Heap} (Z : Fs K mg) : ExV P w K (TT K) mg base (He.ga K "NoPath") 1 ["path"] 0 ["path"] (fun ds zs => arr [.k 0] ds [] [] zs) := by
  obtain ⟨fd, F⟩ := Z.says.def_ 14 (d := d_NoPath_init) rfl
  exact exv_ok (Z.ex_ 11 rfl) (He.meth_ok (Z.fact 39 rfl)) (init1_ok F sc_NoPath_init (baB_ok (Z.ex_ 5 rfl)) (Z.glo 28) rfl (Or.inl rfl) (fun _ => ⟨_, rfl⟩) (Or.inl rfl) rfl rfl) (kb_NoPath_init_0_0 Z F)
theorem V_NoRange_init_0_0 {P : Program} {w : World} {K : PySem.W.Frag} {mg : Str → Option Value} {base : Heap} (Z : Fs K mg) : ExV P w K (TT K) mg base (He.ga K "NoRange") 1 ["part"] 0 ["part"] (fun ds zs => arr [.k 0] ds [] [] zs) := by
  obtain ⟨fd, F⟩ := Z.says.def_ 15 (d := d_NoRange_init) rfl
  exact exv_ok (Z.ex_ 12 rfl) (He.meth_ok (Z.fact 40 rfl)) (init1_ok F sc_NoRange_init (baB_ok (Z.ex_ 5 rfl)) (Z.glo 28) rfl (Or.inl rfl) (fun _ => ⟨_, rfl⟩) (Or.inl rfl) rfl rfl) (kb_NoRange_init_0_0 Z F)
theorem V_TooMany_init_0_0 {P : Program} {w : World} {K : PySem.W.Frag} {mg : Str → Option Value} {base : Heap} (Z : Fs K mg) : ExV P w K (TT K) mg base (He.ga K "TooMany") 1 ["most"] 0 ["most"] (fun ds zs => arr [.k 0] ds [] [] zs) := by
  obtain ⟨fd, F⟩ := Z.says.def_ 16 (d := d_TooMany_init) rfl
  exact exv_ok (Z.ex_ 13 rfl) (He.meth_ok (Z.fact 41 rfl)) (init1_ok F sc_TooMany_init (baB_ok (Z.ex_ 5 rfl)) (Z.glo 28) rfl (Or.inl rfl) (fun _ => ⟨_, rfl⟩) (Or.inl rfl) rfl rfl) (kb_TooMany_init_0_0 Z F)
theorem V_NoWish_init_0_0 {P : Program} {w : World} {K : PySem.W.Frag} {mg : Str → Option Value} {base : Heap} (Z : Fs K mg) : ExV P w K (TT K) mg base (He.ga K "NoWish") 1 ["wish"] 0 ["wish"] (fun ds zs => arr [.k 0] ds [] [] zs) := by
  obtain ⟨fd, F⟩ := Z.says.def_ 17 (d := d_NoWish_init) rfl
  exact exv_ok (Z.ex_ 14 rfl) (He.meth_ok (Z.fact 42 rfl)) (init1_ok F sc_NoWish_init (baB_ok (Z.ex_ 5 rfl)) (Z.glo 28) rfl (Or.inl rfl) (fun _ => ⟨_, rfl⟩) (Or.inl rfl) rfl rfl) (kb_NoWish_init_0_0 Z F)
theorem V_OtherBoxes_init_0_1_0 {P : Program} {w : World} {K : PySem.W.Frag} {mg : Str → Option Value} {base : Heap} (Z : Fs K mg) : ExV P w K (TT K) mg base (He.ga K "OtherBoxes") 1 ["one", "other"] 0 ["other", "one"] (fun ds zs => arr [.k 1, .k 0] ds [] [] zs) := by
  obtain ⟨fd, F⟩ := Z.says.def_ 18 (d := d_OtherBoxes_init) rfl
  exact exv_ok (Z.ex_ 15 rfl) (He.meth_ok (Z.fact 43 rfl)) (init2_ok F sc_OtherBoxes_init (baB_ok (Z.ex_ 5 rfl)) (Z.glo 28) rfl (Or.inl rfl) (fun _ => ⟨_, rfl⟩) (Or.inl rfl) rfl rfl (Or.inl rfl) rfl rfl) (kb_OtherBoxes_init_0_1_0 Z F)
theorem V_NoArea_init_0_0 {P : Program} {w : World} {K : PySem.W.Frag} {mg : Str → Option Value} {base : Heap} (Z : Fs K mg) : ExV P w K (TT K) mg base (He.ga K "NoArea") 1 ["index"] 0 ["index"] (fun ds zs => arr [.k 0] ds [] [] zs) := by
  obtain ⟨fd, F⟩ := Z.says.def_ 19 (d := d_NoArea_init) rfl
  exact exv_ok (Z.ex_ 16 rfl) (He.meth_ok (Z.fact 44 rfl)) (init1_ok F sc_NoArea_init (baB_ok (Z.ex_ 5 rfl)) (Z.glo 28) rfl (Or.inl rfl) (fun _ => ⟨_, rfl⟩) (Or.inl rfl) rfl rfl) (kb_NoArea_init_0_0 Z F)
theorem V_NoSizes_init_0_0 {P : Program} {w : World} {K : PySem.W.Frag} {mg : Str → Option Value} {base : Heap} (Z : Fs K mg) : ExV P w K (TT K) mg base (He.ga K "NoSizes") 1 ["index"] 0 ["index"] (fun ds zs => arr [.k 0] ds [] [] zs) := by
  obtain ⟨fd, F⟩ := Z.says.def_ 20 (d := d_NoSizes_init) rfl
  exact exv_ok (Z.ex_ 17 rfl) (He.meth_ok (Z.fact 45 rfl)) (init1_ok F sc_NoSizes_init (baB_ok (Z.ex_ 5 rfl)) (Z.glo 28) rfl (Or.inl rfl) (fun _ => ⟨_, rfl⟩) (Or.inl rfl) rfl rfl) (kb_NoSizes_init_0_0 Z F)
theorem V_NoCrossings_init_0_0 {P : Program} {w : World} {K : PySem.W.Frag} {mg : Str → Option Value} {base : Heap} (Z : Fs K mg) : ExV P w K (TT K) mg base (He.ga K "NoCrossings") 1 ["index"] 0 ["index"] (fun ds zs => arr [.k 0] ds [] [] zs) := by
  obtain ⟨fd, F⟩ := Z.says.def_ 21 (d := d_NoCrossings_init) rfl
  exact exv_ok (Z.ex_ 18 rfl) (He.meth_ok (Z.fact 46 rfl)) (init1_ok F sc_NoCrossings_init (baB_ok (Z.ex_ 5 rfl)) (Z.glo 28) rfl (Or.inl rfl) (fun _ => ⟨_, rfl⟩) (Or.inl rfl) rfl rfl) (kb_NoCrossings_init_0_0 Z F)
theorem V_NoOrder_init_0_0 {P : Program} {w : World} {K : PySem.W.Frag} {mg : Str → Option Value} {base : Heap} (Z : Fs K mg) : ExV P w K (TT K) mg base (He.ga K "NoOrder") 1 ["index"] 0 ["index"] (fun ds zs => arr [.k 0] ds [] [] zs) := by
  obtain ⟨fd, F⟩ := Z.says.def_ 22 (d := d_NoOrder_init) rfl
  exact exv_ok (Z.ex_ 19 rfl) (He.meth_ok (Z.fact 47 rfl)) (init1_ok F sc_NoOrder_init (baB_ok (Z.ex_ 5 rfl)) (Z.glo 28) rfl (Or.inl rfl) (fun _ => ⟨_, rfl⟩) (Or.inl rfl) rfl rfl) (kb_NoOrder_init_0_0 Z F)
theorem V_NoText_init_0_0 {P : Program} {w : World} {K : PySem.W.Frag} {mg : Str → Option Value} {base : Heap} (Z : Fs K mg) : ExV P w K (TT K) mg base (He.ga K "NoText") 1 ["line"] 0 ["line"] (fun ds zs => arr [.k 0] ds [] [] zs) := by
  obtain ⟨fd, F⟩ := Z.says.def_ 23 (d := d_NoText_init) rfl
  exact exv_ok (Z.ex_ 20 rfl) (He.meth_ok (Z.fact 48 rfl)) (init1_ok F sc_NoText_init (baB_ok (Z.ex_ 5 rfl)) (Z.glo 28) rfl (Or.inl rfl) (fun _ => ⟨_, rfl⟩) (Or.inl rfl) rfl rfl) (kb_NoText_init_0_0 Z F)
theorem V_NoAxis_init_0_z {P : Program} {w : World} {K : PySem.W.Frag} {mg : Str → Option Value} {base : Heap} (Z : Fs K mg) : ExV P w K (TT K) mg base (He.ga K "NoAxis") 1 [] 0 [] (fun ds zs => arr [] ds [] [] zs) := by
  obtain ⟨fd, F⟩ := Z.says.def_ 24 (d := d_NoAxis_init) rfl
  exact exv_ok (Z.ex_ 21 rfl) (He.meth_ok (Z.fact 49 rfl)) (init0_ok F sc_NoAxis_init (baB_ok (Z.ex_ 5 rfl)) (Z.glo 28) rfl (Or.inl rfl) (fun _ => ⟨_, rfl⟩) ) (kb_NoAxis_init_0_z Z F)
theorem V_NoStates_init_0_z {P : Program} {w : World} {K : PySem.W.Frag} {mg : Str → Option Value} {base : Heap} (Z : Fs K mg) : ExV P w K (TT K) mg base (He.ga K "NoStates") 1 [] 0 [] (fun ds zs => arr [] ds [] [] zs) := by
  obtain ⟨fd, F⟩ := Z.says.def_ 25 (d := d_NoStates_init) rfl
  exact exv_ok (Z.ex_ 22 rfl) (He.meth_ok (Z.fact 50 rfl)) (init0_ok F sc_NoStates_init (baB_ok (Z.ex_ 5 rfl)) (Z.glo 28) rfl (Or.inl rfl) (fun _ => ⟨_, rfl⟩) ) (kb_NoStates_init_0_z Z F)
theorem ok__law_draw {P : Program} {w : World} {K : PySem.W.Frag} {mg : Str → Option Value} {base : Heap} (Z : Fs K mg) (Tb : TBs mks K mg base) :
    ∃ fd, FunD K d__law_draw.name d__law_draw.qual d__law_draw.params d__law_draw.body d__law_draw.scope (d__law_draw.dvs K) (d__law_draw.kws K) (He.fAd K d__law_draw.at_) fd ∧ FnOk P w K mg base (CX P w) 1 (He.fAd K d__law_draw.at_) fd P__law_draw (spM K (TT K) 2 f__law_draw) ∧ Binds K fd P__law_draw [] := by
  obtain ⟨fd, F⟩ := Z.says.def_ 0 (d := d__law_draw) rfl
  refine ⟨fd, F, fn_okC (k := 0) (N := N__law_draw) (ps := P__law_draw) (m := M__law_draw) F sc__law_draw fun cdv A outer s H Ex hcode hr => ?_, F.bindsN fun _ _ _ _ _ _ us hl => match us, hl with | [_, _], _ => rfl⟩
  have hu := hr.units
  have tk := takes_of (X := cxOf (CX P w) P w K mg base N__law_draw d__law_draw.qual (defScope s__law_draw) (He.fAd K d__law_draw.at_) cdv A outer s H Ex) rfl rfl rfl rfl
  have hp := passes_of (X := cxOf (CX P w) P w K mg base N__law_draw d__law_draw.qual (defScope s__law_draw) (He.fAd K d__law_draw.at_) cdv A outer s H Ex) rfl
  delta M__law_draw
  exact pss_consX (ps_ifX (pt_cm cm_gt (px_ix (px_var 0) px_int) px_int)
    (pss_consX (ps_setX 2 (px_bin bn_mod (px_calT cl_int (Z.free 1) (px_cons (px_ix (px_var 0) px_int) px_nil)) (px_var 1)) sc__law_draw.nd)
    (pss_consX (ps_subC (px_bin bn_fdiv (px_ix (px_var 0) px_int) (px_var 1)) (px_var 0) px_int)
    (pss_oneX (ps_retX (px_var 2)))))
    (pss_nilX))
    (pss_consX (ps_subC (px_bin bn_add (px_ix (px_var 0) px_int) px_int) (px_var 0) px_int)
    (pss_consX (ps_setX 3 (px_bin bn_mod (px_calT cl_int (Z.free 1) (px_cons (px_bin bn_mul (px_bin bn_add (px_bin bn_add (px_ix (px_var 0) px_int) (px_bin bn_mul px_int (px_ix (px_var 0) px_int))) px_int) px_int) px_nil)) px_int) sc__law_draw.nd)
    (pss_consX (ps_setX 3 (px_bin bn_mod (px_calT cl_int (Z.free 1) (px_cons (px_bin bn_mul (px_var 3) (px_bin bn_add (px_bin bn_fdiv (px_var 3) px_int) px_int)) px_nil)) px_int) sc__law_draw.nd)
    (pss_oneX (ps_retX (px_bin bn_mod (px_calT cl_int (Z.free 1) (px_cons (px_bin bn_mod (px_calT cl_int (Z.free 1) (px_cons (px_bin bn_mul (px_var 3) (px_bin bn_add (px_bin bn_fdiv (px_var 3) px_int) px_int)) px_nil)) px_int) px_nil)) (px_var 1)))))))
theorem ok__law_one {P : Program} {w : World} {K : PySem.W.Frag} {mg : Str → Option Value} {base : Heap} (Z : Fs K mg) (Tb : TBs mks K mg base) :
    ∃ fd, FunD K d__law_one.name d__law_one.qual d__law_one.params d__law_one.body d__law_one.scope (d__law_one.dvs K) (d__law_one.kws K) (He.fAd K d__law_one.at_) fd ∧ FnOk P w K mg base (CX P w) 2 (He.fAd K d__law_one.at_) fd P__law_one (spM K (TT K) 2 f__law_one) ∧ Binds K fd P__law_one [] := by
  obtain ⟨fd, F⟩ := Z.says.def_ 1 (d := d__law_one) rfl
  obtain ⟨fd__law_draw, F__law_draw, O__law_draw, B__law_draw⟩ := ok__law_draw (P := P) (w := w) (base := base) Z Tb
  refine ⟨fd, F, fn_okC (k := 1) (N := N__law_one) (ps := P__law_one) (m := M__law_one) F sc__law_one fun cdv A outer s H Ex hcode hr => ?_, F.bindsN fun _ _ _ _ _ _ us hl => match us, hl with | [_, _], _ => rfl⟩
  have hu := hr.units
  have tk := takes_of (X := cxOf (CX P w) P w K mg base N__law_one d__law_one.qual (defScope s__law_one) (He.fAd K d__law_one.at_) cdv A outer s H Ex) rfl rfl rfl rfl
  have hp := passes_of (X := cxOf (CX P w) P w K mg base N__law_one d__law_one.qual (defScope s__law_one) (He.fAd K d__law_one.at_) cdv A outer s H Ex) rfl
  delta M__law_one
  exact pss_oneX (ps_retX (px_ix (px_var 1) (px_call O__law_draw (hr.mono (by decide)) (Z.glo 2) F__law_draw.kp B__law_draw .nil (fun _ _ => RepL.nil) tk (px_cons (px_var 0) (px_cons (px_calB cl_len (Z.free 3) (px_cons (px_var 1) px_nil)) px_nil)))))
theorem ok__law_by_place {P : Program} {w : World} {K : PySem.W.Frag} {mg : Str → Option Value} {base : Heap} (Z : Fs K mg) (Tb : TBs mks K mg base) :
    ∃ fd, FunD K d__law_by_place.name d__law_by_place.qual d__law_by_place.params d__law_by_place.body d__law_by_place.scope (d__law_by_place.dvs K) (d__law_by_place.kws K) (He.fAd K d__law_by_place.at_) fd ∧ FnOk P w K mg base (CX P w) 3 (He.fAd K d__law_by_place.at_) fd P__law_by_place (spM K (TT K) 1 f__law_by_place) ∧ Binds K fd P__law_by_place [] := by
  obtain ⟨fd, F⟩ := Z.says.def_ 2 (d := d__law_by_place) rfl
  have V_ManyLanes_init_1_z := V_ManyLanes_init_1_z (P := P) (w := w) (base := base) Z
  have V_NoArea_init_1_z := V_NoArea_init_1_z (P := P) (w := w) (base := base) Z
  have V_NoContent_init_2_z := V_NoContent_init_2_z (P := P) (w := w) (base := base) Z
  have V_NoCrossings_init_1_z := V_NoCrossings_init_1_z (P := P) (w := w) (base := base) Z
  have V_NoGrid_init_2_z := V_NoGrid_init_2_z (P := P) (w := w) (base := base) Z
  have V_NoItem_init_1_z := V_NoItem_init_1_z (P := P) (w := w) (base := base) Z
  have V_NoNumber_init_1_z := V_NoNumber_init_1_z (P := P) (w := w) (base := base) Z
  have V_NoOrder_init_1_z := V_NoOrder_init_1_z (P := P) (w := w) (base := base) Z
  have V_NoPage_init_2_z := V_NoPage_init_2_z (P := P) (w := w) (base := base) Z
  have V_NoPath_init_1_z := V_NoPath_init_1_z (P := P) (w := w) (base := base) Z
  have V_NoRange_init_1_z := V_NoRange_init_1_z (P := P) (w := w) (base := base) Z
  have V_NoSizes_init_1_z := V_NoSizes_init_1_z (P := P) (w := w) (base := base) Z
  have V_NoText_init_1_z := V_NoText_init_1_z (P := P) (w := w) (base := base) Z
  have V_NoWish_init_1_z := V_NoWish_init_1_z (P := P) (w := w) (base := base) Z
  have V_OtherBoxes_init_2_z := V_OtherBoxes_init_2_z (P := P) (w := w) (base := base) Z
  have V_TooMany_init_1_z := V_TooMany_init_1_z (P := P) (w := w) (base := base) Z
  refine ⟨fd, F, fn_okC (k := 2) (N := N__law_by_place) (ps := P__law_by_place) (m := M__law_by_place) F sc__law_by_place fun cdv A outer s H Ex hcode hr => ?_, F.bindsN fun _ _ _ _ _ _ us hl => match us, hl with | [_], _ => rfl⟩
  have hu := hr.units
  have tk := takes_of (X := cxOf (CX P w) P w K mg base N__law_by_place d__law_by_place.qual (defScope s__law_by_place) (He.fAd K d__law_by_place.at_) cdv A outer s H Ex) rfl rfl rfl rfl
  have hp := passes_of (X := cxOf (CX P w) P w K mg base N__law_by_place d__law_by_place.qual (defScope s__law_by_place) (He.fAd K d__law_by_place.at_) cdv A outer s H Ex) rfl
  delta M__law_by_place
  exact pss_consX (ps_setX 1 (px_new (pf_lst (px_cons (px_exo (c := 1) (fs := ["part"]) (ks := []) rfl V_NoNumber_init_1_z (hr.mono (by decide)) (Z.glo 4) tk (px_cons (px_var 0) px_nil) pk_nilD) (px_cons (px_exo (c := 2) (fs := ["part", "index"]) (ks := []) rfl V_NoContent_init_2_z (hr.mono (by decide)) (Z.glo 5) tk (px_cons (px_var 0) (px_cons px_int px_nil)) pk_nilD) (px_cons (px_exo (c := 3) (fs := ["part", "index"]) (ks := []) rfl V_NoGrid_init_2_z (hr.mono (by decide)) (Z.glo 6) tk (px_cons (px_var 0) (px_cons px_int px_nil)) pk_nilD) (px_cons (px_exo (c := 4) (fs := ["part"]) (ks := []) rfl V_NoItem_init_1_z (hr.mono (by decide)) (Z.glo 7) tk (px_cons (px_var 0) px_nil) pk_nilD) px_nil)))))) sc__law_by_place.nd)
    (pss_consX (ps_setX 1 (px_new (pf_cat (px_var 1) (px_new (pf_lst (px_cons (px_exo (c := 5) (fs := ["part", "index"]) (ks := []) rfl V_NoPage_init_2_z (hr.mono (by decide)) (Z.glo 8) tk (px_cons (px_var 0) (px_cons px_int px_nil)) pk_nilD) (px_cons (px_exo (c := 6) (fs := ["axis"]) (ks := []) rfl V_ManyLanes_init_1_z (hr.mono (by decide)) (Z.glo 9) tk (px_cons (px_var 0) px_nil) pk_nilD) (px_cons (px_exo (c := 7) (fs := ["path"]) (ks := []) rfl V_NoPath_init_1_z (hr.mono (by decide)) (Z.glo 10) tk (px_cons (px_var 0) px_nil) pk_nilD) (px_cons (px_exo (c := 8) (fs := ["part"]) (ks := []) rfl V_NoRange_init_1_z (hr.mono (by decide)) (Z.glo 11) tk (px_cons (px_var 0) px_nil) pk_nilD) px_nil)))))))) sc__law_by_place.nd)
    (pss_consX (ps_setX 1 (px_new (pf_cat (px_var 1) (px_new (pf_lst (px_cons (px_exo (c := 9) (fs := ["most"]) (ks := []) rfl V_TooMany_init_1_z (hr.mono (by decide)) (Z.glo 12) tk (px_cons (px_var 0) px_nil) pk_nilD) (px_cons (px_exo (c := 10) (fs := ["wish"]) (ks := []) rfl V_NoWish_init_1_z (hr.mono (by decide)) (Z.glo 13) tk (px_cons (px_var 0) px_nil) pk_nilD) (px_cons (px_exo (c := 11) (fs := ["one", "other"]) (ks := []) rfl V_OtherBoxes_init_2_z (hr.mono (by decide)) (Z.glo 14) tk (px_cons (px_var 0) (px_cons px_int px_nil)) pk_nilD) (px_cons (px_exo (c := 13) (fs := ["index"]) (ks := []) rfl V_NoArea_init_1_z (hr.mono (by decide)) (Z.glo 15) tk (px_cons (px_var 0) px_nil) pk_nilD) px_nil)))))))) sc__law_by_place.nd)
    (pss_consX (ps_setX 1 (px_new (pf_cat (px_var 1) (px_new (pf_lst (px_cons (px_exo (c := 14) (fs := ["index"]) (ks := []) rfl V_NoSizes_init_1_z (hr.mono (by decide)) (Z.glo 16) tk (px_cons (px_var 0) px_nil) pk_nilD) (px_cons (px_exo (c := 15) (fs := ["index"]) (ks := []) rfl V_NoCrossings_init_1_z (hr.mono (by decide)) (Z.glo 17) tk (px_cons (px_var 0) px_nil) pk_nilD) (px_cons (px_exo (c := 16) (fs := ["index"]) (ks := []) rfl V_NoOrder_init_1_z (hr.mono (by decide)) (Z.glo 18) tk (px_cons (px_var 0) px_nil) pk_nilD) (px_cons (px_exo (c := 17) (fs := ["line"]) (ks := []) rfl V_NoText_init_1_z (hr.mono (by decide)) (Z.glo 19) tk (px_cons (px_var 0) px_nil) pk_nilD) px_nil)))))))) sc__law_by_place.nd)
    (pss_oneX (ps_retX (px_var 1))))))
theorem ok__law_by_name {P : Program} {w : World} {K : PySem.W.Frag} {mg : Str → Option Value} {base : Heap} (Z : Fs K mg) (Tb : TBs mks K mg base) :
    ∃ fd, FunD K d__law_by_name.name d__law_by_name.qual d__law_by_name.params d__law_by_name.body d__law_by_name.scope (d__law_by_name.dvs K) (d__law_by_name.kws K) (He.fAd K d__law_by_name.at_) fd ∧ FnOk P w K mg base (CX P w) 3 (He.fAd K d__law_by_name.at_) fd P__law_by_name (spM K (TT K) 1 f__law_by_name) ∧ Binds K fd P__law_by_name [] := by
  obtain ⟨fd, F⟩ := Z.says.def_ 3 (d := d__law_by_name) rfl
  have V_ManyLanes_init_0_0 := V_ManyLanes_init_0_0 (P := P) (w := w) (base := base) Z
  have V_NoArea_init_0_0 := V_NoArea_init_0_0 (P := P) (w := w) (base := base) Z
  have V_NoContent_init_0_1_0 := V_NoContent_init_0_1_0 (P := P) (w := w) (base := base) Z
  have V_NoCrossings_init_0_0 := V_NoCrossings_init_0_0 (P := P) (w := w) (base := base) Z
  have V_NoGrid_init_0_1_0 := V_NoGrid_init_0_1_0 (P := P) (w := w) (base := base) Z
  have V_NoItem_init_0_0 := V_NoItem_init_0_0 (P := P) (w := w) (base := base) Z
  have V_NoNumber_init_0_0 := V_NoNumber_init_0_0 (P := P) (w := w) (base := base) Z
  have V_NoOrder_init_0_0 := V_NoOrder_init_0_0 (P := P) (w := w) (base := base) Z
  have V_NoPage_init_0_1_0 := V_NoPage_init_0_1_0 (P := P) (w := w) (base := base) Z
  have V_NoPath_init_0_0 := V_NoPath_init_0_0 (P := P) (w := w) (base := base) Z
  have V_NoRange_init_0_0 := V_NoRange_init_0_0 (P := P) (w := w) (base := base) Z
  have V_NoSizes_init_0_0 := V_NoSizes_init_0_0 (P := P) (w := w) (base := base) Z
  have V_NoText_init_0_0 := V_NoText_init_0_0 (P := P) (w := w) (base := base) Z
  have V_NoWish_init_0_0 := V_NoWish_init_0_0 (P := P) (w := w) (base := base) Z
  have V_OtherBoxes_init_0_1_0 := V_OtherBoxes_init_0_1_0 (P := P) (w := w) (base := base) Z
  have V_TooMany_init_0_0 := V_TooMany_init_0_0 (P := P) (w := w) (base := base) Z
  refine ⟨fd, F, fn_okC (k := 2) (N := N__law_by_name) (ps := P__law_by_name) (m := M__law_by_name) F sc__law_by_name fun cdv A outer s H Ex hcode hr => ?_, F.bindsN fun _ _ _ _ _ _ us hl => match us, hl with | [_], _ => rfl⟩
  have hu := hr.units
  have tk := takes_of (X := cxOf (CX P w) P w K mg base N__law_by_name d__law_by_name.qual (defScope s__law_by_name) (He.fAd K d__law_by_name.at_) cdv A outer s H Ex) rfl rfl rfl rfl
  have hp := passes_of (X := cxOf (CX P w) P w K mg base N__law_by_name d__law_by_name.qual (defScope s__law_by_name) (He.fAd K d__law_by_name.at_) cdv A outer s H Ex) rfl
  delta M__law_by_name
  exact pss_consX (ps_setX 1 (px_new (pf_lst (px_cons (px_exoK0 (c := 1) (fs := ["part"]) (ks := ["part"]) rfl V_NoNumber_init_0_0 (hr.mono (by decide)) (Z.glo 4) tk (pk_consD (px_var 0) pk_nilD)) (px_cons (px_exoK0 (c := 2) (fs := ["part", "index"]) (ks := ["index", "part"]) rfl V_NoContent_init_0_1_0 (hr.mono (by decide)) (Z.glo 5) tk (pk_consD px_int (pk_consD (px_var 0) pk_nilD))) (px_cons (px_exoK0 (c := 3) (fs := ["part", "index"]) (ks := ["index", "part"]) rfl V_NoGrid_init_0_1_0 (hr.mono (by decide)) (Z.glo 6) tk (pk_consD px_int (pk_consD (px_var 0) pk_nilD))) px_nil))))) sc__law_by_name.nd)
    (pss_consX (ps_setX 1 (px_new (pf_cat (px_var 1) (px_new (pf_lst (px_cons (px_exoK0 (c := 4) (fs := ["part"]) (ks := ["part"]) rfl V_NoItem_init_0_0 (hr.mono (by decide)) (Z.glo 7) tk (pk_consD (px_var 0) pk_nilD)) (px_cons (px_exoK0 (c := 5) (fs := ["part", "index"]) (ks := ["index", "part"]) rfl V_NoPage_init_0_1_0 (hr.mono (by decide)) (Z.glo 8) tk (pk_consD px_int (pk_consD (px_var 0) pk_nilD))) (px_cons (px_exoK0 (c := 6) (fs := ["axis"]) (ks := ["axis"]) rfl V_ManyLanes_init_0_0 (hr.mono (by decide)) (Z.glo 9) tk (pk_consD (px_var 0) pk_nilD)) px_nil))))))) sc__law_by_name.nd)
    (pss_consX (ps_setX 1 (px_new (pf_cat (px_var 1) (px_new (pf_lst (px_cons (px_exoK0 (c := 7) (fs := ["path"]) (ks := ["path"]) rfl V_NoPath_init_0_0 (hr.mono (by decide)) (Z.glo 10) tk (pk_consD (px_var 0) pk_nilD)) (px_cons (px_exoK0 (c := 8) (fs := ["part"]) (ks := ["part"]) rfl V_NoRange_init_0_0 (hr.mono (by decide)) (Z.glo 11) tk (pk_consD (px_var 0) pk_nilD)) (px_cons (px_exoK0 (c := 9) (fs := ["most"]) (ks := ["most"]) rfl V_TooMany_init_0_0 (hr.mono (by decide)) (Z.glo 12) tk (pk_consD (px_var 0) pk_nilD)) px_nil))))))) sc__law_by_name.nd)
    (pss_consX (ps_setX 1 (px_new (pf_cat (px_var 1) (px_new (pf_lst (px_cons (px_exoK0 (c := 10) (fs := ["wish"]) (ks := ["wish"]) rfl V_NoWish_init_0_0 (hr.mono (by decide)) (Z.glo 13) tk (pk_consD (px_var 0) pk_nilD)) (px_cons (px_exoK0 (c := 11) (fs := ["one", "other"]) (ks := ["other", "one"]) rfl V_OtherBoxes_init_0_1_0 (hr.mono (by decide)) (Z.glo 14) tk (pk_consD px_int (pk_consD (px_var 0) pk_nilD))) (px_cons (px_exoK0 (c := 13) (fs := ["index"]) (ks := ["index"]) rfl V_NoArea_init_0_0 (hr.mono (by decide)) (Z.glo 15) tk (pk_consD (px_var 0) pk_nilD)) px_nil))))))) sc__law_by_name.nd)
    (pss_consX (ps_setX 1 (px_new (pf_cat (px_var 1) (px_new (pf_lst (px_cons (px_exoK0 (c := 14) (fs := ["index"]) (ks := ["index"]) rfl V_NoSizes_init_0_0 (hr.mono (by decide)) (Z.glo 16) tk (pk_consD (px_var 0) pk_nilD)) (px_cons (px_exoK0 (c := 15) (fs := ["index"]) (ks := ["index"]) rfl V_NoCrossings_init_0_0 (hr.mono (by decide)) (Z.glo 17) tk (pk_consD (px_var 0) pk_nilD)) (px_cons (px_exoK0 (c := 16) (fs := ["index"]) (ks := ["index"]) rfl V_NoOrder_init_0_0 (hr.mono (by decide)) (Z.glo 18) tk (pk_consD (px_var 0) pk_nilD)) px_nil))))))) sc__law_by_name.nd)
    (pss_consX (ps_setX 1 (px_new (pf_cat (px_var 1) (px_new (pf_lst (px_cons (px_exoK0 (c := 17) (fs := ["line"]) (ks := ["line"]) rfl V_NoText_init_0_0 (hr.mono (by decide)) (Z.glo 19) tk (pk_consD (px_var 0) pk_nilD)) px_nil))))) sc__law_by_name.nd)
    (pss_oneX (ps_retX (px_var 1))))))))
theorem ok__law_fields {P : Program} {w : World} {K : PySem.W.Frag} {mg : Str → Option Value} {base : Heap} (Z : Fs K mg) (Tb : TBs mks K mg base) :
    ∃ fd, FunD K d__law_fields.name d__law_fields.qual d__law_fields.params d__law_fields.body d__law_fields.scope (d__law_fields.dvs K) (d__law_fields.kws K) (He.fAd K d__law_fields.at_) fd ∧ FnOk P w K mg base (CX P w) 1 (He.fAd K d__law_fields.at_) fd P__law_fields (spM K (TT K) 1 f__law_fields) ∧ Binds K fd P__law_fields [] := by
  obtain ⟨fd, F⟩ := Z.says.def_ 4 (d := d__law_fields) rfl
  refine ⟨fd, F, fn_okC (k := 0) (N := N__law_fields) (ps := P__law_fields) (m := M__law_fields) F sc__law_fields fun cdv A outer s H Ex hcode hr => ?_, F.bindsN fun _ _ _ _ _ _ us hl => match us, hl with | [_], _ => rfl⟩
  have hu := hr.units
  have tk := takes_of (X := cxOf (CX P w) P w K mg base N__law_fields d__law_fields.qual (defScope s__law_fields) (He.fAd K d__law_fields.at_) cdv A outer s H Ex) rfl rfl rfl rfl
  have hp := passes_of (X := cxOf (CX P w) P w K mg base N__law_fields d__law_fields.qual (defScope s__law_fields) (He.fAd K d__law_fields.at_) cdv A outer s H Ex) rfl
  delta M__law_fields
  exact pss_consX (ps_setX 1 (px_new (pf_lst (px_cons (px_xat Z.xc rfl (px_ix (px_var 0) px_int)) (px_cons (px_xat Z.xc rfl (px_ix (px_var 0) px_int)) (px_cons (px_xat Z.xc rfl (px_ix (px_var 0) px_int)) (px_cons (px_xat Z.xc rfl (px_ix (px_var 0) px_int)) px_nil)))))) sc__law_fields.nd)
    (pss_consX (ps_setX 1 (px_new (pf_cat (px_var 1) (px_new (pf_lst (px_cons (px_xat Z.xc rfl (px_ix (px_var 0) px_int)) (px_cons (px_xat Z.xc rfl (px_ix (px_var 0) px_int)) (px_cons (px_xat Z.xc rfl (px_ix (px_var 0) px_int)) (px_cons (px_xat Z.xc rfl (px_ix (px_var 0) px_int)) px_nil)))))))) sc__law_fields.nd)
    (pss_consX (ps_setX 1 (px_new (pf_cat (px_var 1) (px_new (pf_lst (px_cons (px_xat Z.xc rfl (px_ix (px_var 0) px_int)) (px_cons (px_xat Z.xc rfl (px_ix (px_var 0) px_int)) (px_cons (px_xat Z.xc rfl (px_ix (px_var 0) px_int)) (px_cons (px_xat Z.xc rfl (px_ix (px_var 0) px_int)) px_nil)))))))) sc__law_fields.nd)
    (pss_consX (ps_setX 1 (px_new (pf_cat (px_var 1) (px_new (pf_lst (px_cons (px_xat Z.xc rfl (px_ix (px_var 0) px_int)) (px_cons (px_xat Z.xc rfl (px_ix (px_var 0) px_int)) (px_cons (px_xat Z.xc rfl (px_ix (px_var 0) px_int)) (px_cons (px_xat Z.xc rfl (px_ix (px_var 0) px_int)) px_nil)))))))) sc__law_fields.nd)
    (pss_consX (ps_setX 1 (px_new (pf_cat (px_var 1) (px_new (pf_lst (px_cons (px_xat Z.xc rfl (px_ix (px_var 0) px_int)) (px_cons (px_xat Z.xc rfl (px_ix (px_var 0) px_int)) (px_cons (px_xat Z.xc rfl (px_ix (px_var 0) px_int)) (px_cons (px_xat Z.xc rfl (px_ix (px_var 0) px_int)) px_nil)))))))) sc__law_fields.nd)
    (pss_oneX (ps_retX (px_var 1)))))))
theorem ok__law_taken {P : Program} {w : World} {K : PySem.W.Frag} {mg : Str → Option Value} {base : Heap} (Z : Fs K mg) (Tb : TBs mks K mg base) :
    ∃ fd, FunD K d__law_taken.name d__law_taken.qual d__law_taken.params d__law_taken.body d__law_taken.scope (d__law_taken.dvs K) (d__law_taken.kws K) (He.fAd K d__law_taken.at_) fd ∧ FnOk P w K mg base (CX P w) 1 (He.fAd K d__law_taken.at_) fd P__law_taken (spM K (TT K) 1 f__law_taken) ∧ Binds K fd P__law_taken [] := by
  obtain ⟨fd, F⟩ := Z.says.def_ 5 (d := d__law_taken) rfl
  refine ⟨fd, F, fn_okC (k := 0) (N := N__law_taken) (ps := P__law_taken) (m := M__law_taken) F sc__law_taken fun cdv A outer s H Ex hcode hr => ?_, F.bindsN fun _ _ _ _ _ _ us hl => match us, hl with | [_], _ => rfl⟩
  have hu := hr.units
  have tk := takes_of (X := cxOf (CX P w) P w K mg base N__law_taken d__law_taken.qual (defScope s__law_taken) (He.fAd K d__law_taken.at_) cdv A outer s H Ex) rfl rfl rfl rfl
  have hp := passes_of (X := cxOf (CX P w) P w K mg base N__law_taken d__law_taken.qual (defScope s__law_taken) (He.fAd K d__law_taken.at_) cdv A outer s H Ex) rfl
  delta M__law_taken
  exact pss_consX (ps_setX 1 (px_new (pf_lst (px_cons (px_calB (cl_isx Z.xi) (Z.free 20) (px_cons (px_var 0) (px_cons (px_cls 1 (Z.glo 4)) px_nil))) (px_cons (px_calB (cl_isx Z.xi) (Z.free 20) (px_cons (px_var 0) (px_cons (px_cls 2 (Z.glo 5)) px_nil))) (px_cons (px_calB (cl_isx Z.xi) (Z.free 20) (px_cons (px_var 0) (px_cons (px_cls 3 (Z.glo 6)) px_nil))) px_nil))))) sc__law_taken.nd)
    (pss_consX (ps_setX 1 (px_new (pf_cat (px_var 1) (px_new (pf_lst (px_cons (px_calB (cl_isx Z.xi) (Z.free 20) (px_cons (px_var 0) (px_cons (px_cls 4 (Z.glo 7)) px_nil))) (px_cons (px_calB (cl_isx Z.xi) (Z.free 20) (px_cons (px_var 0) (px_cons (px_cls 5 (Z.glo 8)) px_nil))) (px_cons (px_calB (cl_isx Z.xi) (Z.free 20) (px_cons (px_var 0) (px_cons (px_cls 6 (Z.glo 9)) px_nil))) px_nil))))))) sc__law_taken.nd)
    (pss_consX (ps_setX 1 (px_new (pf_cat (px_var 1) (px_new (pf_lst (px_cons (px_calB (cl_isx Z.xi) (Z.free 20) (px_cons (px_var 0) (px_cons (px_cls 7 (Z.glo 10)) px_nil))) (px_cons (px_calB (cl_isx Z.xi) (Z.free 20) (px_cons (px_var 0) (px_cons (px_cls 8 (Z.glo 11)) px_nil))) (px_cons (px_calB (cl_isx Z.xi) (Z.free 20) (px_cons (px_var 0) (px_cons (px_cls 9 (Z.glo 12)) px_nil))) px_nil))))))) sc__law_taken.nd)
    (pss_consX (ps_setX 1 (px_new (pf_cat (px_var 1) (px_new (pf_lst (px_cons (px_calB (cl_isx Z.xi) (Z.free 20) (px_cons (px_var 0) (px_cons (px_cls 10 (Z.glo 13)) px_nil))) (px_cons (px_calB (cl_isx Z.xi) (Z.free 20) (px_cons (px_var 0) (px_cons (px_cls 11 (Z.glo 14)) px_nil))) (px_cons (px_calB (cl_isx Z.xi) (Z.free 20) (px_cons (px_var 0) (px_cons (px_cls 13 (Z.glo 15)) px_nil))) px_nil))))))) sc__law_taken.nd)
    (pss_consX (ps_setX 1 (px_new (pf_cat (px_var 1) (px_new (pf_lst (px_cons (px_calB (cl_isx Z.xi) (Z.free 20) (px_cons (px_var 0) (px_cons (px_cls 14 (Z.glo 16)) px_nil))) (px_cons (px_calB (cl_isx Z.xi) (Z.free 20) (px_cons (px_var 0) (px_cons (px_cls 15 (Z.glo 17)) px_nil))) (px_cons (px_calB (cl_isx Z.xi) (Z.free 20) (px_cons (px_var 0) (px_cons (px_cls 16 (Z.glo 18)) px_nil))) px_nil))))))) sc__law_taken.nd)
    (pss_consX (ps_setX 1 (px_new (pf_cat (px_var 1) (px_new (pf_lst (px_cons (px_calB (cl_isx Z.xi) (Z.free 20) (px_cons (px_var 0) (px_cons (px_cls 17 (Z.glo 19)) px_nil))) px_nil))))) sc__law_taken.nd)
    (pss_oneX (ps_retX (px_var 1))))))))
theorem ok__law_right {P : Program} {w : World} {K : PySem.W.Frag} {mg : Str → Option Value} {base : Heap} (Z : Fs K mg) (Tb : TBs mks K mg base) :
    ∃ fd, FunD K d__law_right.name d__law_right.qual d__law_right.params d__law_right.body d__law_right.scope (d__law_right.dvs K) (d__law_right.kws K) (He.fAd K d__law_right.at_) fd ∧ FnOk P w K mg base (CX P w) 4 (He.fAd K d__law_right.at_) fd P__law_right (spM K (TT K) 1 f__law_right) ∧ Binds K fd P__law_right [] := by
  obtain ⟨fd, F⟩ := Z.says.def_ 6 (d := d__law_right) rfl
  obtain ⟨fd__law_one, F__law_one, O__law_one, B__law_one⟩ := ok__law_one (P := P) (w := w) (base := base) Z Tb
  obtain ⟨fd__law_draw, F__law_draw, O__law_draw, B__law_draw⟩ := ok__law_draw (P := P) (w := w) (base := base) Z Tb
  obtain ⟨fd__law_by_place, F__law_by_place, O__law_by_place, B__law_by_place⟩ := ok__law_by_place (P := P) (w := w) (base := base) Z Tb
  obtain ⟨fd__law_by_name, F__law_by_name, O__law_by_name, B__law_by_name⟩ := ok__law_by_name (P := P) (w := w) (base := base) Z Tb
  obtain ⟨fd__law_fields, F__law_fields, O__law_fields, B__law_fields⟩ := ok__law_fields (P := P) (w := w) (base := base) Z Tb
  obtain ⟨fd__law_taken, F__law_taken, O__law_taken, B__law_taken⟩ := ok__law_taken (P := P) (w := w) (base := base) Z Tb
  have V_NoAxis_init_0_z := V_NoAxis_init_0_z (P := P) (w := w) (base := base) Z
  have V_NoStates_init_0_z := V_NoStates_init_0_z (P := P) (w := w) (base := base) Z
  refine ⟨fd, F, fn_okC (k := 3) (N := N__law_right) (ps := P__law_right) (m := M__law_right) F sc__law_right fun cdv A outer s H Ex hcode hr => ?_, F.bindsN fun _ _ _ _ _ _ us hl => match us, hl with | [_], _ => rfl⟩
  have hu := hr.units
  have tk := takes_of (X := cxOf (CX P w) P w K mg base N__law_right d__law_right.qual (defScope s__law_right) (He.fAd K d__law_right.at_) cdv A outer s H Ex) rfl rfl rfl rfl
  have hp := passes_of (X := cxOf (CX P w) P w K mg base N__law_right d__law_right.qual (defScope s__law_right) (He.fAd K d__law_right.at_) cdv A outer s H Ex) rfl
  delta M__law_right
  delta B__law_right_2
  delta B__law_right_1
  delta B__law_right_0
  exact pss_consX (ps_setX 1 (px_call O__law_one (hr.mono (by decide)) (Z.glo 21) F__law_one.kp B__law_one .nil (fun _ _ => RepL.nil) tk (px_cons (px_var 0) (px_cons (px_new (pf_lst (px_cons (px_call O__law_draw (hr.mono (by decide)) (Z.glo 2) F__law_draw.kp B__law_draw .nil (fun _ _ => RepL.nil) tk (px_cons (px_var 0) (px_cons px_int px_nil))) (px_cons (px_neg px_int) (px_cons px_non (px_cons px_str (px_cons (px_tup (px_cons px_int (px_cons px_int px_nil))) px_nil))))))) px_nil))) sc__law_right.nd)
    (pss_consX (ps_setX 2 (px_new (pf_lst (px_cons (px_var 1) (px_cons (px_var 1) (px_cons px_int (px_cons (px_var 1) (px_cons px_int (px_cons (px_var 1) (px_cons (px_var 1) (px_cons px_int (px_cons (px_var 1) (px_cons (px_var 1) (px_cons (px_var 1) (px_cons (px_var 1) (px_cons (px_var 1) (px_cons (px_var 1) (px_cons px_int (px_cons (px_var 1) (px_cons (px_var 1) (px_cons (px_var 1) (px_cons (px_var 1) (px_cons (px_var 1) px_nil)))))))))))))))))))))) sc__law_right.nd)
    (pss_consX (ps_forX hp rfl (pi_seqX (px_new (pf_lst (px_cons (px_call O__law_by_place (hr.mono (by decide)) (Z.glo 22) F__law_by_place.kp B__law_by_place .nil (fun _ _ => RepL.nil) tk (px_cons (px_var 1) px_nil)) (px_cons (px_call O__law_by_name (hr.mono (by decide)) (Z.glo 23) F__law_by_name.kp B__law_by_name .nil (fun _ _ => RepL.nil) tk (px_cons (px_var 1) px_nil)) px_nil))))) (pg_name (i := 3) sc__law_right.nd rfl (by first | exact Or.inl rfl | exact Or.inr rfl)) (tr_name 3)
    (pss_consX (ps_ifX (pt_cm (cm_ne hu) (px_call O__law_fields (hr.mono (by decide)) (Z.glo 24) F__law_fields.kp B__law_fields .nil (fun _ _ => RepL.nil) tk (px_cons (px_var 3) px_nil)) (px_var 2))
    (pss_oneX (ps_retX px_bl))
    (pss_nilX))
    (pss_oneX (ps_forX hp rfl (pi_enumX (Z.free 25) (px_cons (px_var 3) px_nil)) (pg_tup rfl (pgs_cons (pg_name (i := 4) sc__law_right.nd rfl (by first | exact Or.inl rfl | exact Or.inr rfl)) (pgs_cons (pg_name (i := 5) sc__law_right.nd rfl (by first | exact Or.inl rfl | exact Or.inr rfl)) pgs_nil))) (tr_tup 2 (trs_cons (tr_name 4) (trs_cons (tr_name 5) trs_nil)))
    (pss_consX (ps_ifX (pt_cm (cm_ne hu) (px_call O__law_taken (hr.mono (by decide)) (Z.glo 26) F__law_taken.kp B__law_taken .nil (fun _ _ => RepL.nil) tk (px_cons (px_var 5) px_nil)) (px_new (by exact pf_lc (own := [("k", 6)]) rfl sc__law_right.nd (pi_range1X (Z.free 27) (px_cons (px_calB cl_len (Z.free 3) (px_cons (px_var 3) px_nil)) px_nil)) (blkOk_by (own := [("k", 6)]) (N := N__law_right) (sc := defScope s__law_right) (by decide +kernel)) (fun s_ H_ C_ cl_ fp_ => pg_name (i := 6) sc__law_right.nd rfl (by first | exact Or.inl rfl | exact Or.inr rfl)) (tr_name 6) (fun s_ H_ C_ cl_ fp_ => pts_nilX) (fun s_ H_ C_ cl_ fp_ => px_cmp (cm_eq hu) (px_var 6) (px_var 4)))))
    (pss_oneX (ps_retX px_bl))
    (pss_nilX))
    (pss_oneX (ps_ifX (PW.pt (pw_orX (pt_notX (px_tst (px_calB (cl_isx Z.xi) (Z.free 20) (px_cons (px_var 5) (px_cons (px_cls 0 (Z.glo 28)) px_nil))))) (pw_or1X (pt_notX (px_tst (px_calB (cl_isx Z.xi) (Z.free 20) (px_cons (px_var 5) (px_cons (px_ty "ValueError" (Z.free 29) rfl) px_nil))))))))
    (pss_oneX (ps_retX px_bl))
    (pss_nilX))))))))
    (pss_consX (ps_forX hp rfl (pi_seqX (px_new (pf_lst (px_cons (px_exoK0 (c := 12) (fs := []) (ks := []) rfl V_NoAxis_init_0_z (hr.mono (by decide)) (Z.glo 30) tk pk_nilD) (px_cons (px_exoK0 (c := 18) (fs := []) (ks := []) rfl V_NoStates_init_0_z (hr.mono (by decide)) (Z.glo 31) tk pk_nilD) px_nil))))) (pg_name (i := 5) sc__law_right.nd rfl (by first | exact Or.inl rfl | exact Or.inr rfl)) (tr_name 5)
    (pss_oneX (ps_ifX (PW.pt (pw_orX (pt_cm (cm_in hu) px_bl (px_call O__law_taken (hr.mono (by decide)) (Z.glo 26) F__law_taken.kp B__law_taken .nil (fun _ _ => RepL.nil) tk (px_cons (px_var 5) px_nil)) (by with_unfolding_all rfl)) (pw_or1X (pt_notX (px_tst (px_calB (cl_isx Z.xi) (Z.free 20) (px_cons (px_var 5) (px_cons (px_cls 0 (Z.glo 28)) px_nil))))))))
    (pss_oneX (ps_retX px_bl))
    (pss_nilX))))
    (pss_oneX (ps_retX (px_notX (px_isve (b := false) (Z.free 20) (Z.free 29) (Z.glo 28) (of_decide_eq_true (Z.ex_ 1 rfl)))))))))
theorem ok_law {P : Program} {w : World} {K : PySem.W.Frag} {mg : Str → Option Value} {base : Heap} (Z : Fs K mg) (Tb : TBs mks K mg base) :
    ∃ fd, FunD K d_law.name d_law.qual d_law.params d_law.body d_law.scope (d_law.dvs K) (d_law.kws K) (He.fAd K d_law.at_) fd ∧ FnOk P w K mg base (CX P w) 5 (He.fAd K d_law.at_) fd P_law (spM K (TT K) 1 f_law) ∧ Binds K fd P_law [] := by
  obtain ⟨fd, F⟩ := Z.says.def_ 7 (d := d_law) rfl
  obtain ⟨fd__law_right, F__law_right, O__law_right, B__law_right⟩ := ok__law_right (P := P) (w := w) (base := base) Z Tb
  refine ⟨fd, F, fn_okC (k := 4) (N := N_law) (ps := P_law) (m := M_law) F sc_law fun cdv A outer s H Ex hcode hr => ?_, F.bindsN fun _ _ _ _ _ _ us hl => match us, hl with | [_], _ => rfl⟩
  have hu := hr.units
  have tk := takes_of (X := cxOf (CX P w) P w K mg base N_law d_law.qual (defScope s_law) (He.fAd K d_law.at_) cdv A outer s H Ex) rfl rfl rfl rfl
  have hp := passes_of (X := cxOf (CX P w) P w K mg base N_law d_law.qual (defScope s_law) (He.fAd K d_law.at_) cdv A outer s H Ex) rfl
  delta M_law
  delta B_law_0
  exact pss_consX (ps_forX hp rfl (pi_enumX (Z.free 25) (px_cons (px_new (pf_slice (px_new (pf_cat (px_var 0) (px_new (pf_lst (px_cons px_int px_nil))))) po_noneX (po_someX px_int))) px_nil)) (pg_tup rfl (pgs_cons (pg_name (i := 1) sc_law.nd rfl (by first | exact Or.inl rfl | exact Or.inr rfl)) (pgs_cons (pg_name (i := 2) sc_law.nd rfl (by first | exact Or.inl rfl | exact Or.inr rfl)) pgs_nil))) (tr_tup 2 (trs_cons (tr_name 1) (trs_cons (tr_name 2) trs_nil)))
    (pss_consX (ps_cellX 3 (pf_lst (px_cons (px_bin bn_mul (px_var 2) (px_calT cl_int (Z.free 1) (px_cons (px_cmp cm_ge (px_var 2) (px_bin bn_pow px_int px_int)) px_nil))) (px_cons (px_bin bn_add (px_bin bn_mod (px_calT cl_int (Z.free 1) (px_cons (px_var 2) px_nil)) px_int) (px_bin bn_mul px_int (px_var 1))) (px_cons px_int px_nil)))) sc_law.nd)
    (pss_oneX (ps_ifX (pt_notX (px_tst (px_call O__law_right (hr.mono (by decide)) (Z.glo 32) F__law_right.kp B__law_right .nil (fun _ _ => RepL.nil) tk (px_cons (px_var 3) px_nil))))
    (pss_oneX (ps_retX px_bl))
    (pss_nilX)))))
    (pss_oneX (ps_retX px_bl))
end PL.k04

namespace PL.k04
open PySem PL
abbrev RD (k : Int) : M D := bd (varM 0) fun x => bd (ret (.int k)) fun i => rdM fun st => ixM st x i
theorem rd_eq {i : Nat} {st : List Cell} {l : List D} (e : st[i]? = some (.lst l)) {k : Int} {v : D} (hk : L2.atI l k = some v) (sl : List Slot) : RD k ⟨.val (.cell i) :: sl, st⟩ = .ok v ⟨.val (.cell i) :: sl, st⟩ := by
  show opt ((lstOf st (.cell i)).bind fun ds => L2.atI ds k) _ = _
  have hx : lstOf st (.cell i) = some l := by unfold lstOf; dsimp only; rw [e]; rfl
  rw [hx]
  show opt (L2.atI l k) _ = _
  rw [hk]
  rfl
theorem sub_eq {i : Nat} {st : List Cell} {l : List D} (e : st[i]? = some (.lst l)) {k : Int} {j : Nat} (hk : L2.ixN l.length k = some j) {m : M D} {v : D} {sl : List Slot} (hm : m ⟨.val (.cell i) :: sl, st⟩ = .ok v ⟨.val (.cell i) :: sl, st⟩) :
    subC (varM 0) (ret (.int k)) m ⟨.val (.cell i) :: sl, st⟩ = .ok .nx ⟨.val (.cell i) :: sl, st.set i (.lst (l.set j v))⟩ := by
  have hv : varM 0 ⟨.val (.cell i) :: sl, st⟩ = .ok (.cell i) ⟨.val (.cell i) :: sl, st⟩ := rfl
  unfold subC bd
  rw [hm]
  simp only [bind_ok]
  rw [hv]
  simp only [bind_ok, ret]
  rw [e]
  dsimp only
  rw [hk]
theorem op_eq {f : D → D → Option D} {m n : M D} {a : AS} {x y z : D} (h1 : m a = .ok x a) (h2 : n a = .ok y a) (h : f x y = some z) : opM f m n a = .ok z a := by
  unfold opM bd
  rw [h1]
  show (n a).bind _ = _
  rw [h2]
  show opt (f x y) a = _
  rw [h]
  rfl
theorem int_eq {m : M D} {a : AS} {k : Int} (h1 : m a = .ok (.int k) a) : calM intM (consM m nilM) a = .ok (.int k) a := by
  unfold calM consM bd
  rw [h1]
  rfl
theorem seq_eq {m n : M Fl} {a a' : AS} {o : Out Fl} (h1 : m a = .ok .nx a') (h : n a' = o) : seqM m n a = o := by
  unfold seqM
  rw [h1]
  exact h
theorem seq_ret {m n : M Fl} {a a' : AS} {d : D} (h1 : m a = .ok (.ret d) a') : seqM m n a = .ok (.ret d) a' := by
  unfold seqM
  rw [h1]
theorem set_eq {i : Nat} {m : M D} {a : AS} {d : D} (h : m a = .ok d a) : setM i m a = .ok .nx ⟨a.sl.set i (.val d), a.st⟩ := by
  unfold setM bd
  rw [h]
  rfl
theorem set_eq' {i : Nat} {m : M D} {a a' : AS} {d : D} (h : m a = .ok d a') : setM i m a = .ok .nx ⟨a'.sl.set i (.val d), a'.st⟩ := by
  unfold setM bd
  rw [h]
  rfl
theorem if_eq {α : Type} {c : M Bool} {m n : M α} {a a' : AS} {b : Bool} {o : Out α} (h : c a = .ok b a') (k : (if b = true then m else n) a' = o) : ifM c m n a = o := by
  unfold ifM bd
  rw [h]
  exact k
theorem op2_eq {f : D → D → Option Bool} {m n : M D} {a : AS} {x y : D} {z : Bool} (h1 : m a = .ok x a) (h2 : n a = .ok y a) (h : f x y = some z) : op2 f m n a = .ok z a := by
  unfold op2 bd
  rw [h1]
  show (n a).bind _ = _
  rw [h2]
  show opt (f x y) a = _
  rw [h]
  rfl
theorem ret_eq {m : M D} {a a' : AS} {d : D} (h : m a = .ok d a') : retM m a = .ok (.ret d) a' := by
  unfold retM bd
  rw [h]
  rfl
theorem fdv {i j : Int} (h : 0 < j) (h2 : j < 2 ^ 64) : fdivM (.int i) (.int j) = some (.int (i / j)) := by
  unfold fdivM
  dsimp only
  have : j.natAbs.log2 < 9000 := by
    have hj : j.natAbs < 2 ^ 64 := by omega
    have h0 : j.natAbs ≠ 0 := by omega
    exact Nat.lt_trans ((Nat.log2_lt h0).mpr hj) (by decide)
  rw [decide_eq_true h, decide_eq_true this]
  rfl
theorem mlr {i j : Int} (h : -(2 ^ 64) < j ∧ j < 2 ^ 64) : mulM (.int i) (.int j) = some (.int (i * j)) := by
  unfold mulM mulOk
  dsimp only
  rw [decide_eq_true h, Bool.or_true, Bool.true_or]
  rfl
theorem mll {i j : Int} (h : -(2 ^ 64) < i ∧ i < 2 ^ 64) : mulM (.int i) (.int j) = some (.int (i * j)) := by
  unfold mulM mulOk
  dsimp only
  rw [decide_eq_true h, Bool.true_or, Bool.true_or]
  rfl
theorem draw_ok {i : Nat} {st : List Cell} {m : Int} (h : Wl i st) (hm : 0 < m) (hm2 : m < 100000) : ∃ (r : Int) (a' : AS), f__law_draw [.cell i, .int m] st = .ok (.int r) a' ∧ 0 ≤ r ∧ r < m ∧ Wl i a'.st := by
  obtain ⟨a, b, c, e⟩ := h
  have hl : i < st.length := (List.getElem?_eq_some_iff.mp e).1
  have md : ∀ x : Int, 0 ≤ x % m ∧ x % m < m := fun x => ⟨Int.emod_nonneg _ (by omega), Int.emod_lt_of_pos _ hm⟩
  by_cases ha : 0 < a
  · refine ⟨a % m, ⟨[.val (.cell i), .val (.int m), .val (.int (a % m)), .emp], st.set i (.lst [.int (a / m), .int b, .int c])⟩, ?_, (md a).1, (md a).2, Wl.set hl _ _ _⟩
    show finish (M__law_draw ⟨[.val (.cell i), .val (.int m), .emp, .emp], st⟩) = _
    have : M__law_draw ⟨[.val (.cell i), .val (.int m), .emp, .emp], st⟩ = .ok (.ret (.int (a % m))) ⟨[.val (.cell i), .val (.int m), .val (.int (a % m)), .emp], st.set i (.lst [.int (a / m), .int b, .int c])⟩ := by
      unfold M__law_draw
      refine seq_ret (if_eq (op2_eq (rd_eq e rfl _) rfl (by show some (decide (0 < a)) = _; rw [decide_eq_true ha])) ?_)
      rw [if_pos rfl]
      refine seq_eq (set_eq (op_eq (int_eq (rd_eq e rfl _)) rfl (mod_some hm))) ?_
      exact seq_eq (sub_eq e rfl (op_eq (rd_eq e rfl _) rfl (fdv hm (by omega)))) rfl
    rw [this]
    rfl
  · have e' : ∀ l, (st.set i (.lst l))[i]? = some (.lst l) := fun l => by rw [List.getElem?_set_self hl]
    have bnd : ∀ x y : Int, 0 < y → y < 2 ^ 40 → ∀ k z : Int, 0 < k → 0 ≤ z → z < 2 ^ 40 → -(2 ^ 64) < x % y / k + z ∧ x % y / k + z < 2 ^ 64 := fun x y hy hy2 k z hk hz hz2 => by
      have h1 := Int.emod_nonneg x (show y ≠ 0 by omega)
      have h2 := Int.emod_lt_of_pos x hy
      have h3 : 0 ≤ x % y / k := Int.ediv_nonneg h1 (by omega)
      have h4 : x % y / k ≤ x % y := Int.ediv_le_self _ h1
      omega
    obtain ⟨sl, r, this⟩ : ∃ (sl : List Slot) (r : Int), M__law_draw ⟨[.val (.cell i), .val (.int m), .emp, .emp], st⟩ = .ok (.ret (.int (r % m))) ⟨sl, st.set i (.lst [.int a, .int b, .int (c + 1)])⟩ := by
      unfold M__law_draw
      apply Exists.intro
      apply Exists.intro
      refine seq_eq (if_eq (op2_eq (rd_eq e rfl _) rfl (by show some (decide (0 < a)) = _; rw [decide_eq_false ha])) (by rw [if_neg Bool.false_ne_true]; rfl)) ?_
      refine seq_eq (sub_eq e rfl (op_eq (rd_eq e rfl _) rfl rfl)) ?_
      refine seq_eq (set_eq (op_eq (int_eq (op_eq (op_eq (op_eq (rd_eq (e' _) rfl _) (op_eq rfl (rd_eq (e' _) rfl _) (mll (by decide))) rfl) rfl rfl) rfl (mlr (by decide)))) rfl (mod_some (by decide)))) ?_
      refine seq_eq (set_eq (op_eq (int_eq (op_eq rfl (op_eq (op_eq rfl rfl (fdv (by decide) (by decide))) rfl rfl) (mlr (bnd _ _ (by decide) (by decide) _ _ (by decide) (by decide) (by decide))))) rfl (mod_some (by decide)))) ?_
      exact ret_eq (op_eq (int_eq (op_eq (int_eq (op_eq rfl (op_eq (op_eq rfl rfl (fdv (by decide) (by decide))) rfl rfl) (mlr (bnd _ _ (by decide) (by decide) _ _ (by decide) (by decide) (by decide))))) rfl (mod_some (by decide)))) rfl (mod_some hm))
    exact ⟨r % m, ⟨sl, _⟩, by show finish (M__law_draw ⟨[.val (.cell i), .val (.int m), .emp, .emp], st⟩) = _; rw [this]; rfl, (md r).1, (md r).2, Wl.set hl a b (c + 1)⟩

theorem draw_e {i : Nat} {st : List Cell} {m : Int} (h : Wl i st) (hm : 0 < m) (hm2 : m < 100000) : ∃ (r : Int) (st' : List Cell), 0 ≤ r ∧ r < m ∧ Wl i st' ∧ ev f__law_draw [.cell i, .int m] st = .ok (.int r) ⟨[], st'⟩ := by
  obtain ⟨r, a', e, h0, h1, w⟩ := draw_ok h hm hm2
  exact ⟨r, a'.st, h0, h1, w, fok_ev ⟨a'.sl, e⟩⟩
def Ex (x : D) : List D := [.exo 1 [x], .exo 2 [x, .int 7], .exo 3 [x, .int 7], .exo 4 [x], .exo 5 [x, .int 7], .exo 6 [x], .exo 7 [x], .exo 8 [x], .exo 9 [x], .exo 10 [x], .exo 11 [x, .int 7], .exo 13 [x], .exo 14 [x], .exo 15 [x], .exo 16 [x], .exo 17 [x]]
def due (x : D) : List D := [x, x, .int 7, x, .int 7, x, x, .int 7, x, x, x, x, x, x, .int 7, x, x, x, x, x]
theorem place_e (x : D) (st : List Cell) : ev f__law_by_place [x] st = .ok (.lst (Ex x)) ⟨[], st⟩ := by kernel_rfl
theorem name_e (x : D) (st : List Cell) : ev f__law_by_name [x] st = .ok (.lst (Ex x)) ⟨[], st⟩ := by kernel_rfl
theorem fields_e (x : D) (st : List Cell) : ev f__law_fields [.lst (Ex x)] st = .ok (.lst (due x)) ⟨[], st⟩ := by kernel_rfl
def bits (k : Nat) : List D := (List.range 16).map fun j => .bl (j == k)
def cls : List Nat := [1, 2, 3, 4, 5, 6, 7, 8, 9, 10, 11, 13, 14, 15, 16, 17]
theorem taken1 (ds : List D) (st : List Cell) : ev f__law_taken [.exo 1 ds] st = .ok (.lst (bits 0)) ⟨[], st⟩ := by kernel_rfl
theorem taken2 (ds : List D) (st : List Cell) : ev f__law_taken [.exo 2 ds] st = .ok (.lst (bits 1)) ⟨[], st⟩ := by kernel_rfl
theorem taken3 (ds : List D) (st : List Cell) : ev f__law_taken [.exo 3 ds] st = .ok (.lst (bits 2)) ⟨[], st⟩ := by kernel_rfl
theorem taken4 (ds : List D) (st : List Cell) : ev f__law_taken [.exo 4 ds] st = .ok (.lst (bits 3)) ⟨[], st⟩ := by kernel_rfl
theorem taken5 (ds : List D) (st : List Cell) : ev f__law_taken [.exo 5 ds] st = .ok (.lst (bits 4)) ⟨[], st⟩ := by kernel_rfl
theorem taken6 (ds : List D) (st : List Cell) : ev f__law_taken [.exo 6 ds] st = .ok (.lst (bits 5)) ⟨[], st⟩ := by kernel_rfl
theorem taken7 (ds : List D) (st : List Cell) : ev f__law_taken [.exo 7 ds] st = .ok (.lst (bits 6)) ⟨[], st⟩ := by kernel_rfl
theorem taken8 (ds : List D) (st : List Cell) : ev f__law_taken [.exo 8 ds] st = .ok (.lst (bits 7)) ⟨[], st⟩ := by kernel_rfl
theorem taken9 (ds : List D) (st : List Cell) : ev f__law_taken [.exo 9 ds] st = .ok (.lst (bits 8)) ⟨[], st⟩ := by kernel_rfl
theorem taken10 (ds : List D) (st : List Cell) : ev f__law_taken [.exo 10 ds] st = .ok (.lst (bits 9)) ⟨[], st⟩ := by kernel_rfl
theorem taken11 (ds : List D) (st : List Cell) : ev f__law_taken [.exo 11 ds] st = .ok (.lst (bits 10)) ⟨[], st⟩ := by kernel_rfl
theorem taken13 (ds : List D) (st : List Cell) : ev f__law_taken [.exo 13 ds] st = .ok (.lst (bits 11)) ⟨[], st⟩ := by kernel_rfl
theorem taken14 (ds : List D) (st : List Cell) : ev f__law_taken [.exo 14 ds] st = .ok (.lst (bits 12)) ⟨[], st⟩ := by kernel_rfl
theorem taken15 (ds : List D) (st : List Cell) : ev f__law_taken [.exo 15 ds] st = .ok (.lst (bits 13)) ⟨[], st⟩ := by kernel_rfl
theorem taken16 (ds : List D) (st : List Cell) : ev f__law_taken [.exo 16 ds] st = .ok (.lst (bits 14)) ⟨[], st⟩ := by kernel_rfl
theorem taken17 (ds : List D) (st : List Cell) : ev f__law_taken [.exo 17 ds] st = .ok (.lst (bits 15)) ⟨[], st⟩ := by kernel_rfl
theorem taken12 (ds : List D) (st : List Cell) : ev f__law_taken [.exo 12 ds] st = .ok (.lst (bits 16)) ⟨[], st⟩ := by kernel_rfl
theorem taken18 (ds : List D) (st : List Cell) : ev f__law_taken [.exo 18 ds] st = .ok (.lst (bits 16)) ⟨[], st⟩ := by kernel_rfl
end PL.k04

namespace PL.k04
open PySem PL
theorem case5 {r : Int} (h0 : 0 ≤ r) (h1 : r < 5) : r = 0 ∨ r = 1 ∨ r = 2 ∨ r = 3 ∨ r = 4 := by omega
def okx (x : D) : Prop := neM (.lst (due x)) (.lst (due x)) = some false
theorem one_e {i : Nat} {st : List Cell} (u : Int) (w : Wl i st) : ∃ (x : D) (st' : List Cell), okx x ∧ Wl i st' ∧ ev f__law_one [.cell i, .lst [.int u, .int (-1), .non, .str "v", .tup [.int 0, .int 1]]] st = .ok x ⟨[], st'⟩ := by
  obtain ⟨r, st1, h0, h1, w1, e1⟩ := draw_e w (m := 5) (by decide) (by decide)
  rcases case5 h0 h1 with rfl | rfl | rfl | rfl | rfl
  · exact ⟨.int u, st1, by unfold okx neM eqB due; simp [D.pl, plL, toPy, toPyL, PyData.eqv, PyData.eqvAll, D.dep, PyData.depth, PyData.depthAll], w1, by simp [f__law_one, ev_mk, M__law_one, e1]⟩
  · exact ⟨.int (-1), st1, by unfold okx; kernel_rfl, w1, by simp [f__law_one, ev_mk, M__law_one, e1]⟩
  · exact ⟨.non, st1, by unfold okx; kernel_rfl, w1, by simp [f__law_one, ev_mk, M__law_one, e1]⟩
  · exact ⟨.str "v", st1, by unfold okx; kernel_rfl, w1, by simp [f__law_one, ev_mk, M__law_one, e1]⟩
  · exact ⟨.tup [.int 0, .int 1], st1, by unfold okx; kernel_rfl, w1, by simp [f__law_one, ev_mk, M__law_one, e1]⟩
def W_en : M Fl := forM (enumM (consM (varM 3) nilM)) (tgTup 2 (tgCons (tgN 4) (tgCons (tgN 5) tgNil))) B__law_right_0
theorem en_e (x : D) (i : Nat) (s4 s5 : Slot) (st : List Cell) : W_en ⟨[.val (.cell i), .val x, .val (.lst (due x)), .val (.lst (Ex x)), s4, s5, .emp], st⟩ = .ok .nx ⟨[.val (.cell i), .val x, .val (.lst (due x)), .val (.lst (Ex x)), .val (.int 15), .val (.exo 17 [x]), .emp], st⟩ := by kernel_rfl
theorem b1_e {x : D} (hx : okx x) (i : Nat) (s4 s5 : Slot) (st : List Cell) : B__law_right_1 ⟨[.val (.cell i), .val x, .val (.lst (due x)), .val (.lst (Ex x)), s4, s5, .emp], st⟩ = .ok .nx ⟨[.val (.cell i), .val x, .val (.lst (due x)), .val (.lst (Ex x)), .val (.int 15), .val (.exo 17 [x]), .emp], st⟩ := by
  have e : B__law_right_1 = seqM (ifM (op2 neM (callA 1 f__law_fields [] (consM (varM 3) nilM)) (varM 2)) (retM (ret (.bl false))) nxM) W_en := rfl
  have e1 := fields_e x st
  have e2 := en_e x i s4 s5 st
  unfold okx at hx
  rw [e]
  simp [e1, hx, e2]
def W_2 : M Fl := forM (seqM' (bd (bd (consM (exoM 0 0 12 [] (fun ds zs => arr [] ds [] [] zs) nilM nilM) (consM (exoM 0 0 18 [] (fun ds zs => arr [] ds [] [] zs) nilM nilM) nilM)) fun xs => if xs.length ≤ 1000 then ret xs else no) fun ds => ret (.lst ds))) (tgN 5) B__law_right_2
theorem w2_e (x : D) (i : Nat) (s4 s5 : Slot) (st : List Cell) : W_2 ⟨[.val (.cell i), .val x, .val (.lst (due x)), .val (.lst (Ex x)), s4, s5, .emp], st⟩ = .ok .nx ⟨[.val (.cell i), .val x, .val (.lst (due x)), .val (.lst (Ex x)), s4, .val (.exo 18 []), .emp], st⟩ := by kernel_rfl
def W_1 : M Fl := forM (seqM' (bd (bd (consM (callA 1 f__law_by_place [] (consM (varM 1) nilM)) (consM (callA 1 f__law_by_name [] (consM (varM 1) nilM)) nilM)) fun xs => if xs.length ≤ 1000 then ret xs else no) fun ds => ret (.lst ds))) (tgN 3) B__law_right_1
theorem w1_e {x : D} (hx : okx x) (i : Nat) (st : List Cell) : W_1 ⟨[.val (.cell i), .val x, .val (.lst (due x)), .emp, .emp, .emp, .emp], st⟩ = .ok .nx ⟨[.val (.cell i), .val x, .val (.lst (due x)), .val (.lst (Ex x)), .val (.int 15), .val (.exo 17 [x]), .emp], st⟩ := by
  have e1 := place_e x st
  have e2 := name_e x st
  have e3 := fun s4 s5 => b1_e hx i s4 s5 st
  simp [W_1, e1, e2, x_forc, e3]
def W_d : M Fl := setM 2 (bd (bd (consM (varM 1) (consM (varM 1) (consM (ret (.int 7)) (consM (varM 1) (consM (ret (.int 7)) (consM (varM 1) (consM (varM 1) (consM (ret (.int 7)) (consM (varM 1) (consM (varM 1) (consM (varM 1) (consM (varM 1) (consM (varM 1) (consM (varM 1) (consM (ret (.int 7)) (consM (varM 1) (consM (varM 1) (consM (varM 1) (consM (varM 1) (consM (varM 1) nilM)))))))))))))))))))) fun xs => if xs.length ≤ 1000 then ret xs else no) fun ds => ret (.lst ds))
theorem wd_e (x : D) (i : Nat) (st : List Cell) : W_d ⟨[.val (.cell i), .val x, .emp, .emp, .emp, .emp, .emp], st⟩ = .ok .nx ⟨[.val (.cell i), .val x, .val (.lst (due x)), .emp, .emp, .emp, .emp], st⟩ := by kernel_rfl
theorem right_e {i : Nat} {st : List Cell} (w : Wl i st) : ∃ st', Wl i st' ∧ ev f__law_right [.cell i] st = .ok (.bl true) ⟨[], st'⟩ := by
  obtain ⟨u, st1, h0, h1, w1, e1⟩ := draw_e w (m := 1000) (by decide) (by decide)
  obtain ⟨x, st2, hx, w2, e2⟩ := one_e u w1
  refine ⟨st2, w2, ?_⟩
  have e : M__law_right = seqM (setM 1 (callA 2 f__law_one [] (consM (varM 0) (consM (bd (bd (consM (callA 2 f__law_draw [] (consM (varM 0) (consM (ret (.int 1000)) nilM))) (consM (bd (ret (.int 1)) fun x => opt (negM x)) (consM (ret .non) (consM (ret (.str "v")) (consM (bd (consM (ret (.int 0)) (consM (ret (.int 1)) nilM)) fun xs => if xs.length ≤ 1000 then ret (.tup xs) else no) nilM))))) fun xs => if xs.length ≤ 1000 then ret xs else no) fun ds => ret (.lst ds)) nilM)))) (seqM W_d (seqM W_1 (seqM W_2 (retM (notV (ret (.bl false))))))) := rfl
  have e3 := wd_e x i st2
  have e4 := w1_e hx i st2
  have e5 := fun s4 s5 => w2_e x i s4 s5 st2
  rw [f__law_right, ev_mk, e]
  simp [e1, e2, e3, e4, e5]
end PL.k04

namespace PL.k04
open PySem PL
theorem bd_eq {α β : Type} {m : M α} {f : α → M β} {a a' : AS} {x : α} {o : Out β} (h : m a = .ok x a') (k : f x a' = o) : bd m f a = o := by
  unfold bd
  rw [h]
  exact k
theorem cons_eq {m : M D} {ms : M (List D)} {a a1 a2 : AS} {x : D} {xs : List D} (h : m a = .ok x a1) (k : ms a1 = .ok xs a2) : consM m ms a = .ok (x :: xs) a2 := bd_eq h (bd_eq k rfl)
theorem nil_eq {a : AS} : nilM a = .ok [] a := rfl
theorem callM_eq {np : Nat} {f : FD} {ds : List D} {sl : List Slot} {st : List Cell} {d : D} {a' : AS} (h : ds.length = np) (k : f ds st = .ok d a') : callM np f ds ⟨sl, st⟩ = .ok d ⟨sl, a'.st⟩ := by
  unfold callM
  rw [if_pos h]
  dsimp only
  rw [k]
theorem callA_eq {np : Nat} {f : FD} {dds : List D} {ms : M (List D)} {a : AS} {xs : List D} {sl : List Slot} {st : List Cell} {d : D} {a' : AS} (h : ms a = .ok xs ⟨sl, st⟩) (hl : (xs ++ dds).length = np) (k : f (xs ++ dds) st = .ok d a') : callA np f dds ms a = .ok d ⟨sl, a'.st⟩ := bd_eq h (callM_eq hl k)
theorem cal_eq {f : List Cell → List D → Option D} {ms : M (List D)} {a a' : AS} {xs : List D} {d : D} (h : ms a = .ok xs a') (k : f a'.st xs = some d) : calM f ms a = .ok d a' := bd_eq h (by show opt (f a'.st xs) a' = _; rw [k]; rfl)
theorem ix_eq {m n : M D} {a a1 a2 : AS} {x v : D} {k : Int} (h : m a = .ok x a1) (h2 : n a1 = .ok (.int k) a2) (hv : ixM a2.st x (.int k) = some v) : (bd m fun x => bd n fun i => rdM fun st => ixM st x i) a = .ok v a2 :=
  bd_eq h (bd_eq h2 (by show opt (ixM a2.st x (.int k)) a2 = _; rw [hv]; rfl))
theorem fin_eq {n : Nat} {m : M Fl} {ds : List D} {st : List Cell} {d : D} {a' : AS} (h : m (fram n ds st) = .ok (.ret d) a') : mkF n m ds st = .ok d a' := by
  unfold mkF
  rw [h]
  rfl
abbrev lwB : M Fl := seqM (cellM 3 (bd (consM (opM mulM (varM 2) (calM intM (consM (blM (op2 geM (varM 2) (opM powM (ret (.int 10)) (ret (.int 18))))) nilM))) (consM (opM addM (opM modM (calM intM (consM (varM 2) nilM)) (ret (.int 2147483647))) (opM mulM (ret (.int 7919)) (varM 1))) (consM (ret (.int 0)) nilM))) fun xs => if xs.length ≤ 1000 then ret xs else no))
    (ifM (notM (tstM (callA 1 f__law_right [] (consM (varM 3) nilM))))
    (retM (ret (.bl false)))
    (nxM))
theorem law_body (n : Int) (k : Nat) (c : D) (s3 : Slot) (st : List Cell) : ∃ s3' st', lwB ⟨[.val c, .val (.int (k : Int)), .val (.int n), s3], st⟩ = .ok .nx ⟨[.val c, .val (.int (k : Int)), .val (.int n), s3'], st'⟩ := by
  obtain ⟨x, hx⟩ : ∃ x : Int, opM mulM (varM 2) (calM intM (consM (blM (op2 geM (varM 2) (opM powM (ret (.int 10)) (ret (.int 18))))) nilM)) ⟨[.val c, .val (.int (k : Int)), .val (.int n), s3], st⟩ = .ok (.int x) ⟨[.val c, .val (.int (k : Int)), .val (.int n), s3], st⟩ :=
    ⟨_, op_eq rfl (cal_eq (cons_eq (bd_eq (op2_eq rfl (op_eq (z := .int (10 ^ 18)) rfl rfl (by kernel_rfl)) rfl) rfl) rfl) rfl) (PL.mul_right (by split <;> decide))⟩
  have w : Wl st.length (st ++ [.lst [.int x, .int (n % 2147483647 + 7919 * (k : Int)), .int 0]]) := ⟨x, n % 2147483647 + 7919 * (k : Int), 0, by simp⟩
  obtain ⟨st', _, e⟩ := right_e w
  have e := ev_fok e
  exact ⟨_, st', seq_eq (cell_go (d := [.int x, .int (n % 2147483647 + 7919 * (k : Int)), .int 0]) (bd_eq (cons_eq hx (cons_eq (op_eq (op_eq (int_eq rfl) rfl (mod_some (by decide))) (op_eq rfl rfl (PL.mul_left (by decide))) rfl) rfl)) rfl)) (if_go (b := false) (not_go (b := true) (tst_go (call_go (xs := [.cell st.length]) (sl := [.val c, .val (.int (k : Int)), .val (.int n), .val (.cell st.length)]) rfl rfl e))) (ifK_f rfl))⟩
theorem law_loop (c : D) : ∀ (xs : List D), (∀ x ∈ xs, ∃ (k : Nat) (n : Int), x = .tup [.int (k : Int), .int n]) → ∀ (s1 s2 s3 : Slot) (st : List Cell), ∃ s1' s2' s3' st', forL (tgTup 2 (tgCons (tgN 1) (tgCons (tgN 2) tgNil))) lwB xs ⟨[.val c, s1, s2, s3], st⟩ = .ok .nx ⟨[.val c, s1', s2', s3'], st'⟩
  | [], _, s1, s2, s3, st => ⟨s1, s2, s3, st, rfl⟩
  | x :: xs, h, s1, s2, s3, st => by
    obtain ⟨k, n, rfl⟩ := h x (by simp)
    obtain ⟨s3a, sta, e1⟩ := law_body n k c s3 st
    obtain ⟨s1', s2', s3', st', e2⟩ := law_loop c xs (fun x hx => h x (by simp [hx])) (.val (.int (k : Int))) (.val (.int n)) s3a sta
    exact ⟨s1', s2', s3', st', for_one rfl e1 e2⟩
theorem law_ok (ns : List Int) (hl : ns.length ≤ 63) : ∃ st, f_law [.lst (ns.map D.int)] [] = .ok (.bl true) st := by
  obtain ⟨s1, s2, s3, st, e⟩ := law_loop (.lst (ns.map D.int)) (enumD (cutD (ns.map D.int ++ [.int 0]) none (some 4))) (fun x hx => by
    unfold enumD at hx
    rw [List.mem_mapIdx] at hx
    obtain ⟨k, hk, rfl⟩ := hx
    have : (cutD (ns.map D.int ++ [.int 0]) none (some 4))[k] ∈ ns.map D.int ++ [.int 0] := by
      have h := List.getElem_mem hk
      exact List.mem_of_mem_drop (List.mem_of_mem_take h)
    have : ∃ n : Int, (cutD (ns.map D.int ++ [.int 0]) none (some 4))[k] = .int n := by
      rcases List.mem_append.mp this with z | z
      · obtain ⟨n, _, e⟩ := List.mem_map.mp z
        exact ⟨n, e.symm⟩
      · exact ⟨0, by simpa using z⟩
    obtain ⟨n, e⟩ := this
    exact ⟨k, n, by rw [e]⟩) .emp .emp .emp []
  exact ⟨_, fin_eq (seq_eq (bd_eq (bd_eq (cons_eq (bd_eq (bd_eq (bd_eq (cat_go (xs := ns.map D.int) (ys := [.int 0]) rfl rfl rfl rfl (by rw [List.length_map]; simp; omega)) rfl) rfl) rfl) rfl) rfl) e) rfl)⟩
end PL.k04


namespace PL.k04.hd
open PySem PySem.W PySem.Calls PyProof.Rows PL.Hd
open L2 (inClass defArgs defBody defScope)
noncomputable abbrev pp : Program := PySem.Challenge.pw_gridlanes_k04_exceptions
noncomputable def tp (i : Nat) : Stmt := pp.main.body.getD i (.Pass ⟨0, 0, 0, 0⟩)
def n0 : Nat := 11
def ann : Option Value := some (.ref 6)
abbrev q0 : Pos := ⟨0, 0, 0, 0⟩
noncomputable abbrev env : Env := { scope := pp.main.scope, locals := mainNs, globals := mainNs, cells := [], code := (.ref 13), frame := some 14 }
noncomputable def o0 (P : Params) : Obj := ⟨(.type "dict"), none, .dict #[⟨PyData.keyHash P (.ofString "__name__"), (.str (.ofString "__name__") 1), (.str (.ofString "builtins") 160)⟩, ⟨PyData.keyHash P (.ofString "__doc__"), (.str (.ofString "__doc__") 2), (.builtin "builtins.__doc__:str#opaque")⟩, ⟨PyData.keyHash P (.ofString "__package__"), (.str (.ofString "__package__") 3), (.builtin "builtins.__package__:str#opaque")⟩, ⟨PyData.keyHash P (.ofString "__loader__"), (.str (.ofString "__loader__") 4), (.builtin "builtins.__loader__:shared#opaque")⟩, ⟨PyData.keyHash P (.ofString "__spec__"), (.str (.ofString "__spec__") 5), (.builtin "builtins.__spec__#opaque")⟩, ⟨PyData.keyHash P (.ofString "__build_class__"), (.str (.ofString "__build_class__") 6), (.builtin "__build_class__")⟩, ⟨PyData.keyHash P (.ofString "__import__"), (.str (.ofString "__import__") 7), (.builtin "__import__")⟩, ⟨PyData.keyHash P (.ofString "abs"), (.str (.ofString "abs") 8), (.builtin "abs")⟩, ⟨PyData.keyHash P (.ofString "all"), (.str (.ofString "all") 9), (.builtin "all")⟩, ⟨PyData.keyHash P (.ofString "any"), (.str (.ofString "any") 10), (.builtin "any")⟩, ⟨PyData.keyHash P (.ofString "ascii"), (.str (.ofString "ascii") 11), (.builtin "ascii")⟩, ⟨PyData.keyHash P (.ofString "bin"), (.str (.ofString "bin") 12), (.builtin "bin")⟩, ⟨PyData.keyHash P (.ofString "breakpoint"), (.str (.ofString "breakpoint") 13), (.builtin "breakpoint")⟩, ⟨PyData.keyHash P (.ofString "callable"), (.str (.ofString "callable") 14), (.builtin "callable")⟩, ⟨PyData.keyHash P (.ofString "chr"), (.str (.ofString "chr") 15), (.builtin "chr")⟩, ⟨PyData.keyHash P (.ofString "compile"), (.str (.ofString "compile") 16), (.builtin "compile")⟩, ⟨PyData.keyHash P (.ofString "delattr"), (.str (.ofString "delattr") 17), (.builtin "delattr")⟩, ⟨PyData.keyHash P (.ofString "dir"), (.str (.ofString "dir") 18), (.builtin "dir")⟩, ⟨PyData.keyHash P (.ofString "divmod"), (.str (.ofString "divmod") 19), (.builtin "divmod")⟩, ⟨PyData.keyHash P (.ofString "eval"), (.str (.ofString "eval") 20), (.builtin "eval")⟩, ⟨PyData.keyHash P (.ofString "exec"), (.str (.ofString "exec") 21), (.builtin "exec")⟩, ⟨PyData.keyHash P (.ofString "format"), (.str (.ofString "format") 22), (.builtin "format")⟩, ⟨PyData.keyHash P (.ofString "getattr"), (.str (.ofString "getattr") 23), (.builtin "getattr")⟩, ⟨PyData.keyHash P (.ofString "globals"), (.str (.ofString "globals") 24), (.builtin "globals")⟩, ⟨PyData.keyHash P (.ofString "hasattr"), (.str (.ofString "hasattr") 25), (.builtin "hasattr")⟩, ⟨PyData.keyHash P (.ofString "hash"), (.str (.ofString "hash") 26), (.builtin "hash")⟩, ⟨PyData.keyHash P (.ofString "hex"), (.str (.ofString "hex") 27), (.builtin "hex")⟩, ⟨PyData.keyHash P (.ofString "id"), (.str (.ofString "id") 28), (.builtin "id")⟩, ⟨PyData.keyHash P (.ofString "input"), (.str (.ofString "input") 29), (.builtin "input")⟩, ⟨PyData.keyHash P (.ofString "isinstance"), (.str (.ofString "isinstance") 30), (.builtin "isinstance")⟩, ⟨PyData.keyHash P (.ofString "issubclass"), (.str (.ofString "issubclass") 31), (.builtin "issubclass")⟩, ⟨PyData.keyHash P (.ofString "iter"), (.str (.ofString "iter") 32), (.builtin "iter")⟩, ⟨PyData.keyHash P (.ofString "aiter"), (.str (.ofString "aiter") 33), (.builtin "aiter")⟩, ⟨PyData.keyHash P (.ofString "len"), (.str (.ofString "len") 34), (.builtin "len")⟩, ⟨PyData.keyHash P (.ofString "locals"), (.str (.ofString "locals") 35), (.builtin "locals")⟩, ⟨PyData.keyHash P (.ofString "max"), (.str (.ofString "max") 36), (.builtin "max")⟩, ⟨PyData.keyHash P (.ofString "min"), (.str (.ofString "min") 37), (.builtin "min")⟩, ⟨PyData.keyHash P (.ofString "next"), (.str (.ofString "next") 38), (.builtin "next")⟩, ⟨PyData.keyHash P (.ofString "anext"), (.str (.ofString "anext") 39), (.builtin "anext")⟩, ⟨PyData.keyHash P (.ofString "oct"), (.str (.ofString "oct") 40), (.builtin "oct")⟩, ⟨PyData.keyHash P (.ofString "ord"), (.str (.ofString "ord") 41), (.builtin "ord")⟩, ⟨PyData.keyHash P (.ofString "pow"), (.str (.ofString "pow") 42), (.builtin "pow")⟩, ⟨PyData.keyHash P (.ofString "print"), (.str (.ofString "print") 43), (.builtin "print")⟩, ⟨PyData.keyHash P (.ofString "repr"), (.str (.ofString "repr") 44), (.builtin "repr")⟩, ⟨PyData.keyHash P (.ofString "round"), (.str (.ofString "round") 45), (.builtin "round")⟩, ⟨PyData.keyHash P (.ofString "setattr"), (.str (.ofString "setattr") 46), (.builtin "setattr")⟩, ⟨PyData.keyHash P (.ofString "sorted"), (.str (.ofString "sorted") 47), (.builtin "sorted")⟩, ⟨PyData.keyHash P (.ofString "sum"), (.str (.ofString "sum") 48), (.builtin "sum")⟩, ⟨PyData.keyHash P (.ofString "vars"), (.str (.ofString "vars") 49), (.builtin "vars")⟩, ⟨PyData.keyHash P (.ofString "None"), (.str (.ofString "None") 50), .none⟩, ⟨PyData.keyHash P (.ofString "Ellipsis"), (.str (.ofString "Ellipsis") 51), .ellipsis⟩, ⟨PyData.keyHash P (.ofString "NotImplemented"), (.str (.ofString "NotImplemented") 52), .notImplemented⟩, ⟨PyData.keyHash P (.ofString "False"), (.str (.ofString "False") 53), (.bool false)⟩, ⟨PyData.keyHash P (.ofString "True"), (.str (.ofString "True") 54), (.bool true)⟩, ⟨PyData.keyHash P (.ofString "bool"), (.str (.ofString "bool") 55), (.type "bool")⟩, ⟨PyData.keyHash P (.ofString "memoryview"), (.str (.ofString "memoryview") 56), (.type "memoryview")⟩, ⟨PyData.keyHash P (.ofString "bytearray"), (.str (.ofString "bytearray") 57), (.type "bytearray")⟩, ⟨PyData.keyHash P (.ofString "bytes"), (.str (.ofString "bytes") 58), (.type "bytes")⟩, ⟨PyData.keyHash P (.ofString "classmethod"), (.str (.ofString "classmethod") 59), (.type "classmethod")⟩, ⟨PyData.keyHash P (.ofString "complex"), (.str (.ofString "complex") 60), (.type "complex")⟩, ⟨PyData.keyHash P (.ofString "dict"), (.str (.ofString "dict") 61), (.type "dict")⟩, ⟨PyData.keyHash P (.ofString "enumerate"), (.str (.ofString "enumerate") 62), (.type "enumerate")⟩, ⟨PyData.keyHash P (.ofString "filter"), (.str (.ofString "filter") 63), (.type "filter")⟩, ⟨PyData.keyHash P (.ofString "float"), (.str (.ofString "float") 64), (.type "float")⟩, ⟨PyData.keyHash P (.ofString "frozenset"), (.str (.ofString "frozenset") 65), (.type "frozenset")⟩, ⟨PyData.keyHash P (.ofString "property"), (.str (.ofString "property") 66), (.type "property")⟩, ⟨PyData.keyHash P (.ofString "int"), (.str (.ofString "int") 67), (.type "int")⟩, ⟨PyData.keyHash P (.ofString "list"), (.str (.ofString "list") 68), (.type "list")⟩, ⟨PyData.keyHash P (.ofString "map"), (.str (.ofString "map") 69), (.type "map")⟩, ⟨PyData.keyHash P (.ofString "object"), (.str (.ofString "object") 70), (.type "object")⟩, ⟨PyData.keyHash P (.ofString "range"), (.str (.ofString "range") 71), (.type "range")⟩, ⟨PyData.keyHash P (.ofString "reversed"), (.str (.ofString "reversed") 72), (.type "reversed")⟩, ⟨PyData.keyHash P (.ofString "set"), (.str (.ofString "set") 73), (.type "set")⟩, ⟨PyData.keyHash P (.ofString "slice"), (.str (.ofString "slice") 74), (.type "slice")⟩, ⟨PyData.keyHash P (.ofString "staticmethod"), (.str (.ofString "staticmethod") 75), (.type "staticmethod")⟩, ⟨PyData.keyHash P (.ofString "str"), (.str (.ofString "str") 76), (.type "str")⟩, ⟨PyData.keyHash P (.ofString "super"), (.str (.ofString "super") 77), (.type "super")⟩, ⟨PyData.keyHash P (.ofString "tuple"), (.str (.ofString "tuple") 78), (.type "tuple")⟩, ⟨PyData.keyHash P (.ofString "type"), (.str (.ofString "type") 79), (.type "type")⟩, ⟨PyData.keyHash P (.ofString "zip"), (.str (.ofString "zip") 80), (.type "zip")⟩, ⟨PyData.keyHash P (.ofString "__debug__"), (.str (.ofString "__debug__") 81), (.bool true)⟩, ⟨PyData.keyHash P (.ofString "BaseException"), (.str (.ofString "BaseException") 82), (.type "BaseException")⟩, ⟨PyData.keyHash P (.ofString "BaseExceptionGroup"), (.str (.ofString "BaseExceptionGroup") 83), (.type "BaseExceptionGroup")⟩, ⟨PyData.keyHash P (.ofString "Exception"), (.str (.ofString "Exception") 84), (.type "Exception")⟩, ⟨PyData.keyHash P (.ofString "GeneratorExit"), (.str (.ofString "GeneratorExit") 85), (.type "GeneratorExit")⟩, ⟨PyData.keyHash P (.ofString "KeyboardInterrupt"), (.str (.ofString "KeyboardInterrupt") 86), (.type "KeyboardInterrupt")⟩, ⟨PyData.keyHash P (.ofString "SystemExit"), (.str (.ofString "SystemExit") 87), (.type "SystemExit")⟩, ⟨PyData.keyHash P (.ofString "ArithmeticError"), (.str (.ofString "ArithmeticError") 88), (.type "ArithmeticError")⟩, ⟨PyData.keyHash P (.ofString "AssertionError"), (.str (.ofString "AssertionError") 89), (.type "AssertionError")⟩, ⟨PyData.keyHash P (.ofString "AttributeError"), (.str (.ofString "AttributeError") 90), (.type "AttributeError")⟩, ⟨PyData.keyHash P (.ofString "BufferError"), (.str (.ofString "BufferError") 91), (.type "BufferError")⟩, ⟨PyData.keyHash P (.ofString "EOFError"), (.str (.ofString "EOFError") 92), (.type "EOFError")⟩, ⟨PyData.keyHash P (.ofString "ImportError"), (.str (.ofString "ImportError") 93), (.type "ImportError")⟩, ⟨PyData.keyHash P (.ofString "LookupError"), (.str (.ofString "LookupError") 94), (.type "LookupError")⟩, ⟨PyData.keyHash P (.ofString "MemoryError"), (.str (.ofString "MemoryError") 95), (.type "MemoryError")⟩, ⟨PyData.keyHash P (.ofString "NameError"), (.str (.ofString "NameError") 96), (.type "NameError")⟩, ⟨PyData.keyHash P (.ofString "OSError"), (.str (.ofString "OSError") 97), (.type "OSError")⟩, ⟨PyData.keyHash P (.ofString "ReferenceError"), (.str (.ofString "ReferenceError") 98), (.type "ReferenceError")⟩, ⟨PyData.keyHash P (.ofString "RuntimeError"), (.str (.ofString "RuntimeError") 99), (.type "RuntimeError")⟩, ⟨PyData.keyHash P (.ofString "StopAsyncIteration"), (.str (.ofString "StopAsyncIteration") 100), (.type "StopAsyncIteration")⟩, ⟨PyData.keyHash P (.ofString "StopIteration"), (.str (.ofString "StopIteration") 101), (.type "StopIteration")⟩, ⟨PyData.keyHash P (.ofString "SyntaxError"), (.str (.ofString "SyntaxError") 102), (.type "SyntaxError")⟩, ⟨PyData.keyHash P (.ofString "SystemError"), (.str (.ofString "SystemError") 103), (.type "SystemError")⟩, ⟨PyData.keyHash P (.ofString "TypeError"), (.str (.ofString "TypeError") 104), (.type "TypeError")⟩, ⟨PyData.keyHash P (.ofString "ValueError"), (.str (.ofString "ValueError") 105), (.type "ValueError")⟩, ⟨PyData.keyHash P (.ofString "Warning"), (.str (.ofString "Warning") 106), (.type "Warning")⟩, ⟨PyData.keyHash P (.ofString "FloatingPointError"), (.str (.ofString "FloatingPointError") 107), (.type "FloatingPointError")⟩, ⟨PyData.keyHash P (.ofString "OverflowError"), (.str (.ofString "OverflowError") 108), (.type "OverflowError")⟩, ⟨PyData.keyHash P (.ofString "ZeroDivisionError"), (.str (.ofString "ZeroDivisionError") 109), (.type "ZeroDivisionError")⟩, ⟨PyData.keyHash P (.ofString "BytesWarning"), (.str (.ofString "BytesWarning") 110), (.type "BytesWarning")⟩, ⟨PyData.keyHash P (.ofString "DeprecationWarning"), (.str (.ofString "DeprecationWarning") 111), (.type "DeprecationWarning")⟩, ⟨PyData.keyHash P (.ofString "EncodingWarning"), (.str (.ofString "EncodingWarning") 112), (.type "EncodingWarning")⟩, ⟨PyData.keyHash P (.ofString "FutureWarning"), (.str (.ofString "FutureWarning") 113), (.type "FutureWarning")⟩, ⟨PyData.keyHash P (.ofString "ImportWarning"), (.str (.ofString "ImportWarning") 114), (.type "ImportWarning")⟩, ⟨PyData.keyHash P (.ofString "PendingDeprecationWarning"), (.str (.ofString "PendingDeprecationWarning") 115), (.type "PendingDeprecationWarning")⟩, ⟨PyData.keyHash P (.ofString "ResourceWarning"), (.str (.ofString "ResourceWarning") 116), (.type "ResourceWarning")⟩, ⟨PyData.keyHash P (.ofString "RuntimeWarning"), (.str (.ofString "RuntimeWarning") 117), (.type "RuntimeWarning")⟩, ⟨PyData.keyHash P (.ofString "SyntaxWarning"), (.str (.ofString "SyntaxWarning") 118), (.type "SyntaxWarning")⟩, ⟨PyData.keyHash P (.ofString "UnicodeWarning"), (.str (.ofString "UnicodeWarning") 119), (.type "UnicodeWarning")⟩, ⟨PyData.keyHash P (.ofString "UserWarning"), (.str (.ofString "UserWarning") 120), (.type "UserWarning")⟩, ⟨PyData.keyHash P (.ofString "BlockingIOError"), (.str (.ofString "BlockingIOError") 121), (.type "BlockingIOError")⟩, ⟨PyData.keyHash P (.ofString "ChildProcessError"), (.str (.ofString "ChildProcessError") 122), (.type "ChildProcessError")⟩, ⟨PyData.keyHash P (.ofString "ConnectionError"), (.str (.ofString "ConnectionError") 123), (.type "ConnectionError")⟩, ⟨PyData.keyHash P (.ofString "FileExistsError"), (.str (.ofString "FileExistsError") 124), (.type "FileExistsError")⟩, ⟨PyData.keyHash P (.ofString "FileNotFoundError"), (.str (.ofString "FileNotFoundError") 125), (.type "FileNotFoundError")⟩, ⟨PyData.keyHash P (.ofString "InterruptedError"), (.str (.ofString "InterruptedError") 126), (.type "InterruptedError")⟩, ⟨PyData.keyHash P (.ofString "IsADirectoryError"), (.str (.ofString "IsADirectoryError") 127), (.type "IsADirectoryError")⟩, ⟨PyData.keyHash P (.ofString "NotADirectoryError"), (.str (.ofString "NotADirectoryError") 128), (.type "NotADirectoryError")⟩, ⟨PyData.keyHash P (.ofString "PermissionError"), (.str (.ofString "PermissionError") 129), (.type "PermissionError")⟩, ⟨PyData.keyHash P (.ofString "ProcessLookupError"), (.str (.ofString "ProcessLookupError") 130), (.type "ProcessLookupError")⟩, ⟨PyData.keyHash P (.ofString "TimeoutError"), (.str (.ofString "TimeoutError") 131), (.type "TimeoutError")⟩, ⟨PyData.keyHash P (.ofString "IndentationError"), (.str (.ofString "IndentationError") 132), (.type "IndentationError")⟩, ⟨PyData.keyHash P (.ofString "_IncompleteInputError"), (.str (.ofString "_IncompleteInputError") 133), (.type "_IncompleteInputError")⟩, ⟨PyData.keyHash P (.ofString "IndexError"), (.str (.ofString "IndexError") 134), (.type "IndexError")⟩, ⟨PyData.keyHash P (.ofString "KeyError"), (.str (.ofString "KeyError") 135), (.type "KeyError")⟩, ⟨PyData.keyHash P (.ofString "ModuleNotFoundError"), (.str (.ofString "ModuleNotFoundError") 136), (.type "ModuleNotFoundError")⟩, ⟨PyData.keyHash P (.ofString "NotImplementedError"), (.str (.ofString "NotImplementedError") 137), (.type "NotImplementedError")⟩, ⟨PyData.keyHash P (.ofString "PythonFinalizationError"), (.str (.ofString "PythonFinalizationError") 138), (.type "PythonFinalizationError")⟩, ⟨PyData.keyHash P (.ofString "RecursionError"), (.str (.ofString "RecursionError") 139), (.type "RecursionError")⟩, ⟨PyData.keyHash P (.ofString "UnboundLocalError"), (.str (.ofString "UnboundLocalError") 140), (.type "UnboundLocalError")⟩, ⟨PyData.keyHash P (.ofString "UnicodeError"), (.str (.ofString "UnicodeError") 141), (.type "UnicodeError")⟩, ⟨PyData.keyHash P (.ofString "BrokenPipeError"), (.str (.ofString "BrokenPipeError") 142), (.type "BrokenPipeError")⟩, ⟨PyData.keyHash P (.ofString "ConnectionAbortedError"), (.str (.ofString "ConnectionAbortedError") 143), (.type "ConnectionAbortedError")⟩, ⟨PyData.keyHash P (.ofString "ConnectionRefusedError"), (.str (.ofString "ConnectionRefusedError") 144), (.type "ConnectionRefusedError")⟩, ⟨PyData.keyHash P (.ofString "ConnectionResetError"), (.str (.ofString "ConnectionResetError") 145), (.type "ConnectionResetError")⟩, ⟨PyData.keyHash P (.ofString "TabError"), (.str (.ofString "TabError") 146), (.type "TabError")⟩, ⟨PyData.keyHash P (.ofString "UnicodeDecodeError"), (.str (.ofString "UnicodeDecodeError") 147), (.type "UnicodeDecodeError")⟩, ⟨PyData.keyHash P (.ofString "UnicodeEncodeError"), (.str (.ofString "UnicodeEncodeError") 148), (.type "UnicodeEncodeError")⟩, ⟨PyData.keyHash P (.ofString "UnicodeTranslateError"), (.str (.ofString "UnicodeTranslateError") 149), (.type "UnicodeTranslateError")⟩, ⟨PyData.keyHash P (.ofString "ExceptionGroup"), (.str (.ofString "ExceptionGroup") 150), (.type "ExceptionGroup")⟩, ⟨PyData.keyHash P (.ofString "EnvironmentError"), (.str (.ofString "EnvironmentError") 151), (.type "OSError")⟩, ⟨PyData.keyHash P (.ofString "IOError"), (.str (.ofString "IOError") 152), (.type "OSError")⟩, ⟨PyData.keyHash P (.ofString "open"), (.str (.ofString "open") 153), (.builtin "open")⟩, ⟨PyData.keyHash P (.ofString "quit"), (.str (.ofString "quit") 154), (.builtin "builtins.quit#opaque")⟩, ⟨PyData.keyHash P (.ofString "exit"), (.str (.ofString "exit") 155), (.builtin "builtins.exit#opaque")⟩, ⟨PyData.keyHash P (.ofString "copyright"), (.str (.ofString "copyright") 156), (.builtin "builtins.copyright#opaque")⟩, ⟨PyData.keyHash P (.ofString "credits"), (.str (.ofString "credits") 157), (.builtin "builtins.credits#opaque")⟩, ⟨PyData.keyHash P (.ofString "license"), (.str (.ofString "license") 158), (.builtin "builtins.license#opaque")⟩, ⟨PyData.keyHash P (.ofString "help"), (.str (.ofString "help") 159), (.builtin "builtins.help#opaque")⟩] 159, #[]⟩
noncomputable def o1 (P : Params) : Obj := ⟨(.type "dict"), none, .dict #[⟨PyData.keyHash P (.ofString "builtins"), (.str (.ofString "builtins") 162), (.ref 4)⟩, ⟨PyData.keyHash P (.ofString "__main__"), (.str (.ofString "__main__") 163), (.ref 5)⟩] 2, #[]⟩
noncomputable def o2 (P : Params) : Obj := ⟨.none, none, .dict #[] 0, #[]⟩
noncomputable def o3 (P : Params) : Obj := ⟨(.type "dict"), none, .dict #[⟨PyData.keyHash P (.ofString "__name__"), (.str (.ofString "__name__") 165), (.str (.ofString "__main__") 164)⟩, ⟨PyData.keyHash P (.ofString "__doc__"), (.str (.ofString "__doc__") 166), .none⟩, ⟨PyData.keyHash P (.ofString "__package__"), (.str (.ofString "__package__") 167), .none⟩, ⟨PyData.keyHash P (.ofString "__loader__"), (.str (.ofString "__loader__") 168), (.builtin "__main__.__loader__#opaque")⟩, ⟨PyData.keyHash P (.ofString "__spec__"), (.str (.ofString "__spec__") 169), .none⟩, ⟨PyData.keyHash P (.ofString "__annotations__"), (.str (.ofString "__annotations__") 170), (.ref 6)⟩, ⟨PyData.keyHash P (.ofString "__builtins__"), (.str (.ofString "__builtins__") 171), (.ref 4)⟩, ⟨PyData.keyHash P (.ofString "__file__"), (.str (.ofString "__file__") 173), (.str (.ofString "/claim/cut.py") 172)⟩, ⟨PyData.keyHash P (.ofString "__cached__"), (.str (.ofString "__cached__") 174), .none⟩] 9, #[]⟩
noncomputable def o4 (P : Params) : Obj := ⟨(.type "module"), (some 0), .plain, #[]⟩
noncomputable def o5 (P : Params) : Obj := ⟨(.type "module"), (some 3), .plain, #[]⟩
noncomputable def o6 (P : Params) : Obj := ⟨(.type "dict"), none, .dict #[] 0, #[]⟩
noncomputable def o7 (P : Params) : Obj := ⟨(.type "tuple"), none, .seq #[] 0, #[]⟩
noncomputable def o8 (P : Params) : Obj := ⟨.none, none, .fields #[], #[]⟩
noncomputable def o9 (P : Params) : Obj := ⟨(.type "code"), none, .fields #[(.str (.ofString "<module>") 176), (.str (.ofString "<module>") 177), (.str (.ofString "/claim/cut.py") 178), (.int 1 0), (.int 0 0), (.int 0 0), (.int 0 0), (.int 0 0), (.ref 7), (.bool false), (.int 175 0), (.ref 8), .none, .none, .none, .none, (.int 179 0), (.int 1 0), (.str (.ofString "/claim/cut.py") 180)], #[]⟩
noncomputable def o10 (P : Params) : Obj := ⟨(.type "frame"), none, .plain, #[(some (.ref 9)), (some (.ref 3)), (some (.ref 3)), none, (some (.str (.ofString "__main__") 164)), none, (some (.ref 0))]⟩
noncomputable def t0 (P : Params) : BT := (.node (o0 P) (.node (o1 P) (.node (o3 P) (.node (o7 P) .nil .nil) .nil) (.node (o5 P) (.node (o9 P) .nil .nil) .nil)) (.node (o2 P) (.node (o4 P) (.node (o8 P) .nil .nil) .nil) (.node (o6 P) (.node (o10 P) .nil .nil) .nil)))
noncomputable def s0 (P : Params) (os : OsState) : SharedT := ⟨t0 P, 11, {}, #[], boot_drawn, 181, os⟩
noncomputable def o11 (P : Params) : Obj := ⟨(.type "tuple"), none, .seq #[] 0, #[]⟩
noncomputable def o12 (P : Params) : Obj := ⟨.none, none, .fields #[], #[]⟩
noncomputable def o13 (P : Params) : Obj := ⟨(.type "code"), none, .fields #[(.str (.ofString "<module>") 182), (.str (.ofString "<module>") 183), (.str (.ofString "/claim/cut.py") 184), (.int 1 0), (.int 0 0), (.int 0 0), (.int 0 0), (.int 0 0), (.ref 11), (.bool false), (.int 181 0), (.ref 12), .none, .none, .none, .none, (.int 185 0), (.int 1 0), (.str (.ofString "/claim/cut.py") 186)], #[]⟩
noncomputable def o14 (P : Params) : Obj := ⟨(.type "frame"), none, .plain, #[(some (.ref 13)), (some (.ref 3)), (some (.ref 3)), none, (some (.str (.ofString "__main__") 164)), none, (some (.ref 0))]⟩
noncomputable def t1 (P : Params) : BT := (.node (o0 P) (.node (o1 P) (.node (o3 P) (.node (o7 P) .nil .nil) (.node (o11 P) .nil .nil)) (.node (o5 P) (.node (o9 P) .nil .nil) (.node (o13 P) .nil .nil))) (.node (o2 P) (.node (o4 P) (.node (o8 P) .nil .nil) (.node (o12 P) .nil .nil)) (.node (o6 P) (.node (o10 P) .nil .nil) (.node (o14 P) .nil .nil))))
noncomputable def s1 (P : Params) (os : OsState) : SharedT := ⟨t1 P, 15, {}, #[], boot_drawn, 187, os⟩
noncomputable def o15 (P : Params) : Obj := ⟨(.type "dict"), none, .dict #[⟨PyData.keyHash P (.ofString "__name__"), (.str (.ofString "__name__") 165), (.str (.ofString "gridlanes.errors") 187)⟩, ⟨PyData.keyHash P (.ofString "__doc__"), (.str (.ofString "__doc__") 166), .none⟩, ⟨PyData.keyHash P (.ofString "__package__"), (.str (.ofString "__package__") 167), .none⟩, ⟨PyData.keyHash P (.ofString "__loader__"), (.str (.ofString "__loader__") 168), (.builtin "__main__.__loader__#opaque")⟩, ⟨PyData.keyHash P (.ofString "__spec__"), (.str (.ofString "__spec__") 169), .none⟩, ⟨PyData.keyHash P (.ofString "__annotations__"), (.str (.ofString "__annotations__") 170), (.ref 6)⟩, ⟨PyData.keyHash P (.ofString "__builtins__"), (.str (.ofString "__builtins__") 171), (.ref 4)⟩, ⟨PyData.keyHash P (.ofString "__file__"), (.str (.ofString "__file__") 173), (.str (.ofString "/claim/cut.py") 172)⟩, ⟨PyData.keyHash P (.ofString "__cached__"), (.str (.ofString "__cached__") 174), .none⟩, ⟨PyData.keyHash P (.ofString "LaneError"), (.str (.ofString "LaneError") 206), (.ref 24)⟩, ⟨PyData.keyHash P (.ofString "NoNumber"), (.str (.ofString "NoNumber") 231), (.ref 44)⟩] 11, #[]⟩
noncomputable def o16 (P : Params) : Obj := ⟨.none, none, .fields #[(.int 2 0), (.int 0 0), (.ref 20), (.int 4 0), (.int 0 0), (.ref 33)], #[]⟩
noncomputable def o17 (P : Params) : Obj := ⟨(.type "tuple"), none, .seq #[(.type "ValueError")] 0, #[]⟩
noncomputable def o18 (P : Params) : Obj := ⟨(.type "builtin_function_or_method"), none, .fields #[(.builtin "type.__prepare__"), (.type "type")], #[]⟩
noncomputable def o19 (P : Params) : Obj := ⟨(.type "dict"), none, .dict #[⟨PyData.keyHash P (.ofString "__module__"), (.str (.ofString "__module__") 196), (.str (.ofString "gridlanes.errors") 187)⟩, ⟨PyData.keyHash P (.ofString "__qualname__"), (.str (.ofString "__qualname__") 198), (.str (.ofString "LaneError") 197)⟩, ⟨PyData.keyHash P (.ofString "__firstlineno__"), (.str (.ofString "__firstlineno__") 200), (.int 2 199)⟩, ⟨PyData.keyHash P (.ofString "__static_attributes__"), (.str (.ofString "__static_attributes__") 201), (.ref 22)⟩] 4, #[]⟩
noncomputable def o20 (P : Params) : Obj := ⟨(.type "tuple"), none, .seq #[] 0, #[]⟩
noncomputable def o21 (P : Params) : Obj := ⟨.none, none, .fields #[], #[]⟩
noncomputable def o22 (P : Params) : Obj := ⟨(.type "code"), none, .fields #[(.str (.ofString "LaneError") 191), (.str (.ofString "LaneError") 192), (.str (.ofString "/claim/cut.py") 193), (.int 2 0), (.int 0 0), (.int 0 0), (.int 0 0), (.int 0 0), (.ref 18), (.bool false), (.int 181 0), (.ref 19), .none, .none, .none, .none, (.int 194 0), (.int 2 0), (.str (.ofString "/claim/cut.py") 195)], #[]⟩
noncomputable def o23 (P : Params) : Obj := ⟨(.type "frame"), none, .plain, #[(some (.ref 20)), (some (.ref 3)), (some (.ref 17)), none, (some (.str (.ofString "gridlanes.errors") 187)), none, (some (.ref 0))]⟩
noncomputable def o24 (P : Params) : Obj := ⟨(.type "tuple"), none, .seq #[] 0, #[]⟩
noncomputable def o25 (P : Params) : Obj := ⟨(.type "dict"), none, .dict #[⟨PyData.keyHash P (.ofString "__module__"), (.str (.ofString "__module__") 196), (.str (.ofString "gridlanes.errors") 187)⟩, ⟨PyData.keyHash P (.ofString "__firstlineno__"), (.str (.ofString "__firstlineno__") 200), (.int 2 199)⟩, ⟨PyData.keyHash P (.ofString "__static_attributes__"), (.str (.ofString "__static_attributes__") 201), (.ref 22)⟩, ⟨PyData.keyHash P (.ofString "__weakref__"), (.str (.ofString "__weakref__") 203), (.ref 25)⟩, ⟨PyData.keyHash P (.ofString "__doc__"), (.str (.ofString "__doc__") 204), .none⟩] 3, #[]⟩
noncomputable def o26 (P : Params) : Obj := ⟨(.type "type"), none, .cls ⟨(.ofString "LaneError"), [(.type "ValueError")], [(.ref 24), (.type "ValueError"), (.type "Exception"), (.type "BaseException"), (.type "object")], 23, (.ofString "LaneError"), true, [], [(.ref 44)], false, none, false⟩, #[(some (.ref 15)), none, (some (.str (.ofString "LaneError") 189)), (some (.str (.ofString "LaneError") 197)), (some (.builtin "ValueError.__new__")), (some (.bool true))]⟩
noncomputable def o27 (P : Params) : Obj := ⟨(.type "getset_descriptor"), none, .fields #[(.str (.ofString "__weakref__") 202), (.ref 24), (.builtin "ExceptionGroup.__weakref__"), .none], #[]⟩
noncomputable def o28 (P : Params) : Obj := ⟨(.type "super"), none, .fields #[(.ref 24), (.ref 24), (.ref 24)], #[]⟩
noncomputable def o29 (P : Params) : Obj := ⟨(.type "builtin_function_or_method"), none, .fields #[(.builtin "object.__init_subclass__"), (.ref 24)], #[]⟩
noncomputable def o30 (P : Params) : Obj := ⟨(.type "tuple"), none, .seq #[(.ref 24)] 0, #[]⟩
noncomputable def o31 (P : Params) : Obj := ⟨(.type "builtin_function_or_method"), none, .fields #[(.builtin "type.__prepare__"), (.type "type")], #[]⟩
noncomputable def o32 (P : Params) : Obj := ⟨(.type "dict"), none, .dict #[⟨PyData.keyHash P (.ofString "__module__"), (.str (.ofString "__module__") 214), (.str (.ofString "gridlanes.errors") 187)⟩, ⟨PyData.keyHash P (.ofString "__qualname__"), (.str (.ofString "__qualname__") 216), (.str (.ofString "NoNumber") 215)⟩, ⟨PyData.keyHash P (.ofString "__firstlineno__"), (.str (.ofString "__firstlineno__") 218), (.int 4 217)⟩, ⟨PyData.keyHash P (.ofString "__init__"), (.str (.ofString "__init__") 226), (.ref 41)⟩, ⟨PyData.keyHash P (.ofString "__static_attributes__"), (.str (.ofString "__static_attributes__") 228), (.ref 42)⟩] 5, #[]⟩
noncomputable def o33 (P : Params) : Obj := ⟨(.type "tuple"), none, .seq #[] 0, #[]⟩
noncomputable def o34 (P : Params) : Obj := ⟨.none, none, .fields #[(.int 6 0), (.int 4 0), (.ref 40)], #[]⟩
noncomputable def o35 (P : Params) : Obj := ⟨(.type "code"), none, .fields #[(.str (.ofString "NoNumber") 209), (.str (.ofString "NoNumber") 210), (.str (.ofString "/claim/cut.py") 211), (.int 4 0), (.int 0 0), (.int 0 0), (.int 0 0), (.int 0 0), (.ref 31), (.bool false), (.int 181 0), (.ref 32), .none, .none, .none, .none, (.int 212 0), (.int 4 0), (.str (.ofString "/claim/cut.py") 213)], #[]⟩
noncomputable def o36 (P : Params) : Obj := ⟨(.type "frame"), none, .plain, #[(some (.ref 33)), (some (.ref 3)), (some (.ref 30)), none, (some (.str (.ofString "gridlanes.errors") 187)), none, (some (.ref 0))]⟩
noncomputable def o37 (P : Params) : Obj := ⟨(.type "tuple"), none, .seq #[] 0, #[]⟩
noncomputable def o38 (P : Params) : Obj := ⟨.none, none, .fields #[], #[]⟩
noncomputable def o39 (P : Params) : Obj := ⟨(.type "tuple"), none, .seq #[(.str (.ofString "self") 222), (.str (.ofString "part") 223)] 0, #[]⟩
noncomputable def o40 (P : Params) : Obj := ⟨(.type "tuple"), none, .seq #[] 0, #[]⟩
noncomputable def o41 (P : Params) : Obj := ⟨.none, none, .func ⟨(.ofString "__init__"), (.ofString "NoNumber.__init__"), defArgs (inClass (tp 2) 0), .stmts (defBody (inClass (tp 2) 0)), defScope (inClass (tp 2) 0), 0, [], .none, .none, .none, .none, none, .none, .none, 0⟩, #[]⟩
noncomputable def o42 (P : Params) : Obj := ⟨(.type "code"), none, .fields #[(.str (.ofString "__init__") 219), (.str (.ofString "NoNumber.__init__") 220), (.str (.ofString "/claim/cut.py") 221), (.int 6 0), (.int 2 0), (.int 0 0), (.int 0 0), (.int 3 0), (.ref 35), (.bool true), (.int 181 0), (.ref 36), .none, (.ref 37), (.ref 38), (.ref 39), (.int 224 0), (.int 6 0), (.str (.ofString "/claim/cut.py") 225)], #[]⟩
noncomputable def o43 (P : Params) : Obj := ⟨(.type "function"), none, .func ⟨(.ofString "__init__"), (.ofString "NoNumber.__init__"), defArgs (inClass (tp 2) 0), .stmts (defBody (inClass (tp 2) 0)), defScope (inClass (tp 2) 0), 3, [], .none, .none, .none, (.str (.ofString "gridlanes.errors") 187), none, (.ref 40), .none, 0⟩, #[]⟩
noncomputable def o44 (P : Params) : Obj := ⟨(.type "tuple"), none, .seq #[(.str (.ofString "part") 227)] 0, #[]⟩
noncomputable def o45 (P : Params) : Obj := ⟨(.type "dict"), none, .dict #[⟨PyData.keyHash P (.ofString "__module__"), (.str (.ofString "__module__") 214), (.str (.ofString "gridlanes.errors") 187)⟩, ⟨PyData.keyHash P (.ofString "__firstlineno__"), (.str (.ofString "__firstlineno__") 218), (.int 4 217)⟩, ⟨PyData.keyHash P (.ofString "__init__"), (.str (.ofString "__init__") 226), (.ref 41)⟩, ⟨PyData.keyHash P (.ofString "__static_attributes__"), (.str (.ofString "__static_attributes__") 228), (.ref 42)⟩, ⟨PyData.keyHash P (.ofString "__doc__"), (.str (.ofString "__doc__") 229), .none⟩] 2, #[]⟩
noncomputable def o46 (P : Params) : Obj := ⟨(.type "type"), none, .cls ⟨(.ofString "NoNumber"), [(.ref 24)], [(.ref 44), (.ref 24), (.type "ValueError"), (.type "Exception"), (.type "BaseException"), (.type "object")], 43, (.ofString "NoNumber"), true, [], [], false, none, false⟩, #[(some (.ref 28)), none, (some (.str (.ofString "NoNumber") 207)), (some (.str (.ofString "NoNumber") 215)), (some (.builtin "ValueError.__new__")), (some (.bool true))]⟩
noncomputable def o47 (P : Params) : Obj := ⟨(.type "super"), none, .fields #[(.ref 44), (.ref 44), (.ref 44)], #[]⟩
noncomputable def o48 (P : Params) : Obj := ⟨(.type "builtin_function_or_method"), none, .fields #[(.builtin "object.__init_subclass__"), (.ref 44)], #[]⟩
noncomputable def t2 (P : Params) : BT := (.node (o0 P) (.node (o1 P) (.node (o15 P) (.node (o7 P) (.node (o17 P) (.node (o33 P) .nil .nil) .nil) (.node (o25 P) (.node (o41 P) .nil .nil) .nil)) (.node (o11 P) (.node (o21 P) (.node (o37 P) .nil .nil) .nil) (.node (o29 P) (.node (o45 P) .nil .nil) .nil))) (.node (o5 P) (.node (o9 P) (.node (o19 P) (.node (o35 P) .nil .nil) .nil) (.node (o27 P) (.node (o43 P) .nil .nil) .nil)) (.node (o13 P) (.node (o23 P) (.node (o39 P) .nil .nil) .nil) (.node (o31 P) (.node (o47 P) .nil .nil) .nil)))) (.node (o2 P) (.node (o4 P) (.node (o8 P) (.node (o18 P) (.node (o34 P) .nil .nil) .nil) (.node (o26 P) (.node (o42 P) .nil .nil) .nil)) (.node (o16 P) (.node (o22 P) (.node (o38 P) .nil .nil) .nil) (.node (o30 P) (.node (o46 P) .nil .nil) .nil))) (.node (o6 P) (.node (o10 P) (.node (o20 P) (.node (o36 P) .nil .nil) .nil) (.node (o28 P) (.node (o44 P) .nil .nil) .nil)) (.node (o14 P) (.node (o24 P) (.node (o40 P) .nil .nil) .nil) (.node (o32 P) (.node (o48 P) .nil .nil) .nil)))))
noncomputable def s2 (P : Params) (os : OsState) : SharedT := ⟨t2 P, 47, {}, #[], boot_drawn, 232, os⟩
noncomputable def o49 (P : Params) : Obj := ⟨(.type "dict"), none, .dict #[⟨PyData.keyHash P (.ofString "__name__"), (.str (.ofString "__name__") 165), (.str (.ofString "gridlanes.errors") 187)⟩, ⟨PyData.keyHash P (.ofString "__doc__"), (.str (.ofString "__doc__") 166), .none⟩, ⟨PyData.keyHash P (.ofString "__package__"), (.str (.ofString "__package__") 167), .none⟩, ⟨PyData.keyHash P (.ofString "__loader__"), (.str (.ofString "__loader__") 168), (.builtin "__main__.__loader__#opaque")⟩, ⟨PyData.keyHash P (.ofString "__spec__"), (.str (.ofString "__spec__") 169), .none⟩, ⟨PyData.keyHash P (.ofString "__annotations__"), (.str (.ofString "__annotations__") 170), (.ref 6)⟩, ⟨PyData.keyHash P (.ofString "__builtins__"), (.str (.ofString "__builtins__") 171), (.ref 4)⟩, ⟨PyData.keyHash P (.ofString "__file__"), (.str (.ofString "__file__") 173), (.str (.ofString "/claim/cut.py") 172)⟩, ⟨PyData.keyHash P (.ofString "__cached__"), (.str (.ofString "__cached__") 174), .none⟩, ⟨PyData.keyHash P (.ofString "LaneError"), (.str (.ofString "LaneError") 206), (.ref 24)⟩, ⟨PyData.keyHash P (.ofString "NoNumber"), (.str (.ofString "NoNumber") 231), (.ref 44)⟩, ⟨PyData.keyHash P (.ofString "NoContent"), (.str (.ofString "NoContent") 258), (.ref 63)⟩, ⟨PyData.keyHash P (.ofString "NoGrid"), (.str (.ofString "NoGrid") 285), (.ref 82)⟩] 13, #[]⟩
noncomputable def o50 (P : Params) : Obj := ⟨.none, none, .fields #[(.int 2 0), (.int 0 0), (.ref 20), (.int 4 0), (.int 0 0), (.ref 33), (.int 9 0), (.int 0 0), (.ref 52), (.int 15 0), (.int 0 0), (.ref 71)], #[]⟩
noncomputable def o51 (P : Params) : Obj := ⟨(.type "type"), none, .cls ⟨(.ofString "LaneError"), [(.type "ValueError")], [(.ref 24), (.type "ValueError"), (.type "Exception"), (.type "BaseException"), (.type "object")], 23, (.ofString "LaneError"), true, [], [(.ref 44), (.ref 63), (.ref 82)], false, none, false⟩, #[(some (.ref 15)), none, (some (.str (.ofString "LaneError") 189)), (some (.str (.ofString "LaneError") 197)), (some (.builtin "ValueError.__new__")), (some (.bool true))]⟩
noncomputable def o52 (P : Params) : Obj := ⟨(.type "tuple"), none, .seq #[(.ref 24)] 0, #[]⟩
noncomputable def o53 (P : Params) : Obj := ⟨(.type "builtin_function_or_method"), none, .fields #[(.builtin "type.__prepare__"), (.type "type")], #[]⟩
noncomputable def o54 (P : Params) : Obj := ⟨(.type "dict"), none, .dict #[⟨PyData.keyHash P (.ofString "__module__"), (.str (.ofString "__module__") 239), (.str (.ofString "gridlanes.errors") 187)⟩, ⟨PyData.keyHash P (.ofString "__qualname__"), (.str (.ofString "__qualname__") 241), (.str (.ofString "NoContent") 240)⟩, ⟨PyData.keyHash P (.ofString "__firstlineno__"), (.str (.ofString "__firstlineno__") 243), (.int 9 242)⟩, ⟨PyData.keyHash P (.ofString "__init__"), (.str (.ofString "__init__") 252), (.ref 60)⟩, ⟨PyData.keyHash P (.ofString "__static_attributes__"), (.str (.ofString "__static_attributes__") 255), (.ref 61)⟩] 5, #[]⟩
noncomputable def o55 (P : Params) : Obj := ⟨(.type "tuple"), none, .seq #[] 0, #[]⟩
noncomputable def o56 (P : Params) : Obj := ⟨.none, none, .fields #[(.int 11 0), (.int 4 0), (.ref 59)], #[]⟩
noncomputable def o57 (P : Params) : Obj := ⟨(.type "code"), none, .fields #[(.str (.ofString "NoContent") 234), (.str (.ofString "NoContent") 235), (.str (.ofString "/claim/cut.py") 236), (.int 9 0), (.int 0 0), (.int 0 0), (.int 0 0), (.int 0 0), (.ref 50), (.bool false), (.int 181 0), (.ref 51), .none, .none, .none, .none, (.int 237 0), (.int 9 0), (.str (.ofString "/claim/cut.py") 238)], #[]⟩
noncomputable def o58 (P : Params) : Obj := ⟨(.type "frame"), none, .plain, #[(some (.ref 52)), (some (.ref 3)), (some (.ref 49)), none, (some (.str (.ofString "gridlanes.errors") 187)), none, (some (.ref 0))]⟩
noncomputable def o59 (P : Params) : Obj := ⟨(.type "tuple"), none, .seq #[] 0, #[]⟩
noncomputable def o60 (P : Params) : Obj := ⟨.none, none, .fields #[], #[]⟩
noncomputable def o61 (P : Params) : Obj := ⟨(.type "tuple"), none, .seq #[(.str (.ofString "self") 247), (.str (.ofString "part") 248), (.str (.ofString "index") 249)] 0, #[]⟩
noncomputable def o62 (P : Params) : Obj := ⟨(.type "tuple"), none, .seq #[] 0, #[]⟩
noncomputable def o63 (P : Params) : Obj := ⟨.none, none, .func ⟨(.ofString "__init__"), (.ofString "NoContent.__init__"), defArgs (inClass (tp 3) 0), .stmts (defBody (inClass (tp 3) 0)), defScope (inClass (tp 3) 0), 0, [], .none, .none, .none, .none, none, .none, .none, 0⟩, #[]⟩
noncomputable def o64 (P : Params) : Obj := ⟨(.type "code"), none, .fields #[(.str (.ofString "__init__") 244), (.str (.ofString "NoContent.__init__") 245), (.str (.ofString "/claim/cut.py") 246), (.int 11 0), (.int 3 0), (.int 0 0), (.int 0 0), (.int 3 0), (.ref 54), (.bool true), (.int 181 0), (.ref 55), .none, (.ref 56), (.ref 57), (.ref 58), (.int 250 0), (.int 11 0), (.str (.ofString "/claim/cut.py") 251)], #[]⟩
noncomputable def o65 (P : Params) : Obj := ⟨(.type "function"), none, .func ⟨(.ofString "__init__"), (.ofString "NoContent.__init__"), defArgs (inClass (tp 3) 0), .stmts (defBody (inClass (tp 3) 0)), defScope (inClass (tp 3) 0), 3, [], .none, .none, .none, (.str (.ofString "gridlanes.errors") 187), none, (.ref 59), .none, 0⟩, #[]⟩
noncomputable def o66 (P : Params) : Obj := ⟨(.type "tuple"), none, .seq #[(.str (.ofString "index") 253), (.str (.ofString "part") 254)] 0, #[]⟩
noncomputable def o67 (P : Params) : Obj := ⟨(.type "dict"), none, .dict #[⟨PyData.keyHash P (.ofString "__module__"), (.str (.ofString "__module__") 239), (.str (.ofString "gridlanes.errors") 187)⟩, ⟨PyData.keyHash P (.ofString "__firstlineno__"), (.str (.ofString "__firstlineno__") 243), (.int 9 242)⟩, ⟨PyData.keyHash P (.ofString "__init__"), (.str (.ofString "__init__") 252), (.ref 60)⟩, ⟨PyData.keyHash P (.ofString "__static_attributes__"), (.str (.ofString "__static_attributes__") 255), (.ref 61)⟩, ⟨PyData.keyHash P (.ofString "__doc__"), (.str (.ofString "__doc__") 256), .none⟩] 2, #[]⟩
noncomputable def o68 (P : Params) : Obj := ⟨(.type "type"), none, .cls ⟨(.ofString "NoContent"), [(.ref 24)], [(.ref 63), (.ref 24), (.type "ValueError"), (.type "Exception"), (.type "BaseException"), (.type "object")], 62, (.ofString "NoContent"), true, [], [], false, none, false⟩, #[(some (.ref 47)), none, (some (.str (.ofString "NoContent") 232)), (some (.str (.ofString "NoContent") 240)), (some (.builtin "ValueError.__new__")), (some (.bool true))]⟩
noncomputable def o69 (P : Params) : Obj := ⟨(.type "super"), none, .fields #[(.ref 63), (.ref 63), (.ref 63)], #[]⟩
noncomputable def o70 (P : Params) : Obj := ⟨(.type "builtin_function_or_method"), none, .fields #[(.builtin "object.__init_subclass__"), (.ref 63)], #[]⟩
noncomputable def o71 (P : Params) : Obj := ⟨(.type "tuple"), none, .seq #[(.ref 24)] 0, #[]⟩
noncomputable def o72 (P : Params) : Obj := ⟨(.type "builtin_function_or_method"), none, .fields #[(.builtin "type.__prepare__"), (.type "type")], #[]⟩
noncomputable def o73 (P : Params) : Obj := ⟨(.type "dict"), none, .dict #[⟨PyData.keyHash P (.ofString "__module__"), (.str (.ofString "__module__") 266), (.str (.ofString "gridlanes.errors") 187)⟩, ⟨PyData.keyHash P (.ofString "__qualname__"), (.str (.ofString "__qualname__") 268), (.str (.ofString "NoGrid") 267)⟩, ⟨PyData.keyHash P (.ofString "__firstlineno__"), (.str (.ofString "__firstlineno__") 270), (.int 15 269)⟩, ⟨PyData.keyHash P (.ofString "__init__"), (.str (.ofString "__init__") 279), (.ref 79)⟩, ⟨PyData.keyHash P (.ofString "__static_attributes__"), (.str (.ofString "__static_attributes__") 282), (.ref 80)⟩] 5, #[]⟩
noncomputable def o74 (P : Params) : Obj := ⟨(.type "tuple"), none, .seq #[] 0, #[]⟩
noncomputable def o75 (P : Params) : Obj := ⟨.none, none, .fields #[(.int 17 0), (.int 4 0), (.ref 78)], #[]⟩
noncomputable def o76 (P : Params) : Obj := ⟨(.type "code"), none, .fields #[(.str (.ofString "NoGrid") 261), (.str (.ofString "NoGrid") 262), (.str (.ofString "/claim/cut.py") 263), (.int 15 0), (.int 0 0), (.int 0 0), (.int 0 0), (.int 0 0), (.ref 69), (.bool false), (.int 181 0), (.ref 70), .none, .none, .none, .none, (.int 264 0), (.int 15 0), (.str (.ofString "/claim/cut.py") 265)], #[]⟩
noncomputable def o77 (P : Params) : Obj := ⟨(.type "frame"), none, .plain, #[(some (.ref 71)), (some (.ref 3)), (some (.ref 68)), none, (some (.str (.ofString "gridlanes.errors") 187)), none, (some (.ref 0))]⟩
noncomputable def o78 (P : Params) : Obj := ⟨(.type "tuple"), none, .seq #[] 0, #[]⟩
noncomputable def o79 (P : Params) : Obj := ⟨.none, none, .fields #[], #[]⟩
noncomputable def o80 (P : Params) : Obj := ⟨(.type "tuple"), none, .seq #[(.str (.ofString "self") 274), (.str (.ofString "part") 275), (.str (.ofString "index") 276)] 0, #[]⟩
noncomputable def o81 (P : Params) : Obj := ⟨(.type "tuple"), none, .seq #[] 0, #[]⟩
noncomputable def o82 (P : Params) : Obj := ⟨.none, none, .func ⟨(.ofString "__init__"), (.ofString "NoGrid.__init__"), defArgs (inClass (tp 4) 0), .stmts (defBody (inClass (tp 4) 0)), defScope (inClass (tp 4) 0), 0, [], .none, .none, .none, .none, none, .none, .none, 0⟩, #[]⟩
noncomputable def o83 (P : Params) : Obj := ⟨(.type "code"), none, .fields #[(.str (.ofString "__init__") 271), (.str (.ofString "NoGrid.__init__") 272), (.str (.ofString "/claim/cut.py") 273), (.int 17 0), (.int 3 0), (.int 0 0), (.int 0 0), (.int 3 0), (.ref 73), (.bool true), (.int 181 0), (.ref 74), .none, (.ref 75), (.ref 76), (.ref 77), (.int 277 0), (.int 17 0), (.str (.ofString "/claim/cut.py") 278)], #[]⟩
noncomputable def o84 (P : Params) : Obj := ⟨(.type "function"), none, .func ⟨(.ofString "__init__"), (.ofString "NoGrid.__init__"), defArgs (inClass (tp 4) 0), .stmts (defBody (inClass (tp 4) 0)), defScope (inClass (tp 4) 0), 3, [], .none, .none, .none, (.str (.ofString "gridlanes.errors") 187), none, (.ref 78), .none, 0⟩, #[]⟩
noncomputable def o85 (P : Params) : Obj := ⟨(.type "tuple"), none, .seq #[(.str (.ofString "index") 280), (.str (.ofString "part") 281)] 0, #[]⟩
noncomputable def o86 (P : Params) : Obj := ⟨(.type "dict"), none, .dict #[⟨PyData.keyHash P (.ofString "__module__"), (.str (.ofString "__module__") 266), (.str (.ofString "gridlanes.errors") 187)⟩, ⟨PyData.keyHash P (.ofString "__firstlineno__"), (.str (.ofString "__firstlineno__") 270), (.int 15 269)⟩, ⟨PyData.keyHash P (.ofString "__init__"), (.str (.ofString "__init__") 279), (.ref 79)⟩, ⟨PyData.keyHash P (.ofString "__static_attributes__"), (.str (.ofString "__static_attributes__") 282), (.ref 80)⟩, ⟨PyData.keyHash P (.ofString "__doc__"), (.str (.ofString "__doc__") 283), .none⟩] 2, #[]⟩
noncomputable def o87 (P : Params) : Obj := ⟨(.type "type"), none, .cls ⟨(.ofString "NoGrid"), [(.ref 24)], [(.ref 82), (.ref 24), (.type "ValueError"), (.type "Exception"), (.type "BaseException"), (.type "object")], 81, (.ofString "NoGrid"), true, [], [], false, none, false⟩, #[(some (.ref 66)), none, (some (.str (.ofString "NoGrid") 259)), (some (.str (.ofString "NoGrid") 267)), (some (.builtin "ValueError.__new__")), (some (.bool true))]⟩
noncomputable def o88 (P : Params) : Obj := ⟨(.type "super"), none, .fields #[(.ref 82), (.ref 82), (.ref 82)], #[]⟩
noncomputable def o89 (P : Params) : Obj := ⟨(.type "builtin_function_or_method"), none, .fields #[(.builtin "object.__init_subclass__"), (.ref 82)], #[]⟩
noncomputable def t3 (P : Params) : BT := (.node (o0 P) (.node (o1 P) (.node (o49 P) (.node (o7 P) (.node (o17 P) (.node (o33 P) (.node (o68 P) .nil .nil) .nil) (.node (o52 P) (.node (o84 P) .nil .nil) .nil)) (.node (o25 P) (.node (o41 P) (.node (o76 P) .nil .nil) .nil) (.node (o60 P) .nil .nil))) (.node (o11 P) (.node (o21 P) (.node (o37 P) (.node (o72 P) .nil .nil) .nil) (.node (o56 P) (.node (o88 P) .nil .nil) .nil)) (.node (o29 P) (.node (o45 P) (.node (o80 P) .nil .nil) .nil) (.node (o64 P) .nil .nil)))) (.node (o5 P) (.node (o9 P) (.node (o19 P) (.node (o35 P) (.node (o70 P) .nil .nil) .nil) (.node (o54 P) (.node (o86 P) .nil .nil) .nil)) (.node (o27 P) (.node (o43 P) (.node (o78 P) .nil .nil) .nil) (.node (o62 P) .nil .nil))) (.node (o13 P) (.node (o23 P) (.node (o39 P) (.node (o74 P) .nil .nil) .nil) (.node (o58 P) .nil .nil)) (.node (o31 P) (.node (o47 P) (.node (o82 P) .nil .nil) .nil) (.node (o66 P) .nil .nil))))) (.node (o2 P) (.node (o4 P) (.node (o8 P) (.node (o18 P) (.node (o34 P) (.node (o69 P) .nil .nil) .nil) (.node (o53 P) (.node (o85 P) .nil .nil) .nil)) (.node (o51 P) (.node (o42 P) (.node (o77 P) .nil .nil) .nil) (.node (o61 P) .nil .nil))) (.node (o50 P) (.node (o22 P) (.node (o38 P) (.node (o73 P) .nil .nil) .nil) (.node (o57 P) (.node (o89 P) .nil .nil) .nil)) (.node (o30 P) (.node (o46 P) (.node (o81 P) .nil .nil) .nil) (.node (o65 P) .nil .nil)))) (.node (o6 P) (.node (o10 P) (.node (o20 P) (.node (o36 P) (.node (o71 P) .nil .nil) .nil) (.node (o55 P) (.node (o87 P) .nil .nil) .nil)) (.node (o28 P) (.node (o44 P) (.node (o79 P) .nil .nil) .nil) (.node (o63 P) .nil .nil))) (.node (o14 P) (.node (o24 P) (.node (o40 P) (.node (o75 P) .nil .nil) .nil) (.node (o59 P) .nil .nil)) (.node (o32 P) (.node (o48 P) (.node (o83 P) .nil .nil) .nil) (.node (o67 P) .nil .nil))))))
noncomputable def s3 (P : Params) (os : OsState) : SharedT := ⟨t3 P, 85, {}, #[], boot_drawn, 286, os⟩
noncomputable def o90 (P : Params) : Obj := ⟨(.type "dict"), none, .dict #[⟨PyData.keyHash P (.ofString "__name__"), (.str (.ofString "__name__") 165), (.str (.ofString "gridlanes.errors") 187)⟩, ⟨PyData.keyHash P (.ofString "__doc__"), (.str (.ofString "__doc__") 166), .none⟩, ⟨PyData.keyHash P (.ofString "__package__"), (.str (.ofString "__package__") 167), .none⟩, ⟨PyData.keyHash P (.ofString "__loader__"), (.str (.ofString "__loader__") 168), (.builtin "__main__.__loader__#opaque")⟩, ⟨PyData.keyHash P (.ofString "__spec__"), (.str (.ofString "__spec__") 169), .none⟩, ⟨PyData.keyHash P (.ofString "__annotations__"), (.str (.ofString "__annotations__") 170), (.ref 6)⟩, ⟨PyData.keyHash P (.ofString "__builtins__"), (.str (.ofString "__builtins__") 171), (.ref 4)⟩, ⟨PyData.keyHash P (.ofString "__file__"), (.str (.ofString "__file__") 173), (.str (.ofString "/claim/cut.py") 172)⟩, ⟨PyData.keyHash P (.ofString "__cached__"), (.str (.ofString "__cached__") 174), .none⟩, ⟨PyData.keyHash P (.ofString "LaneError"), (.str (.ofString "LaneError") 206), (.ref 24)⟩, ⟨PyData.keyHash P (.ofString "NoNumber"), (.str (.ofString "NoNumber") 231), (.ref 44)⟩, ⟨PyData.keyHash P (.ofString "NoContent"), (.str (.ofString "NoContent") 258), (.ref 63)⟩, ⟨PyData.keyHash P (.ofString "NoGrid"), (.str (.ofString "NoGrid") 285), (.ref 82)⟩, ⟨PyData.keyHash P (.ofString "NoItem"), (.str (.ofString "NoItem") 310), (.ref 101)⟩, ⟨PyData.keyHash P (.ofString "NoPage"), (.str (.ofString "NoPage") 337), (.ref 120)⟩] 15, #[]⟩
noncomputable def o91 (P : Params) : Obj := ⟨.none, none, .fields #[(.int 2 0), (.int 0 0), (.ref 20), (.int 4 0), (.int 0 0), (.ref 33), (.int 9 0), (.int 0 0), (.ref 52), (.int 15 0), (.int 0 0), (.ref 71), (.int 21 0), (.int 0 0), (.ref 90), (.int 26 0), (.int 0 0), (.ref 109)], #[]⟩
noncomputable def o92 (P : Params) : Obj := ⟨(.type "type"), none, .cls ⟨(.ofString "LaneError"), [(.type "ValueError")], [(.ref 24), (.type "ValueError"), (.type "Exception"), (.type "BaseException"), (.type "object")], 23, (.ofString "LaneError"), true, [], [(.ref 44), (.ref 63), (.ref 82), (.ref 101), (.ref 120)], false, none, false⟩, #[(some (.ref 15)), none, (some (.str (.ofString "LaneError") 189)), (some (.str (.ofString "LaneError") 197)), (some (.builtin "ValueError.__new__")), (some (.bool true))]⟩
noncomputable def o93 (P : Params) : Obj := ⟨(.type "tuple"), none, .seq #[(.ref 24)] 0, #[]⟩
noncomputable def o94 (P : Params) : Obj := ⟨(.type "builtin_function_or_method"), none, .fields #[(.builtin "type.__prepare__"), (.type "type")], #[]⟩
noncomputable def o95 (P : Params) : Obj := ⟨(.type "dict"), none, .dict #[⟨PyData.keyHash P (.ofString "__module__"), (.str (.ofString "__module__") 293), (.str (.ofString "gridlanes.errors") 187)⟩, ⟨PyData.keyHash P (.ofString "__qualname__"), (.str (.ofString "__qualname__") 295), (.str (.ofString "NoItem") 294)⟩, ⟨PyData.keyHash P (.ofString "__firstlineno__"), (.str (.ofString "__firstlineno__") 297), (.int 21 296)⟩, ⟨PyData.keyHash P (.ofString "__init__"), (.str (.ofString "__init__") 305), (.ref 98)⟩, ⟨PyData.keyHash P (.ofString "__static_attributes__"), (.str (.ofString "__static_attributes__") 307), (.ref 99)⟩] 5, #[]⟩
noncomputable def o96 (P : Params) : Obj := ⟨(.type "tuple"), none, .seq #[] 0, #[]⟩
noncomputable def o97 (P : Params) : Obj := ⟨.none, none, .fields #[(.int 23 0), (.int 4 0), (.ref 97)], #[]⟩
noncomputable def o98 (P : Params) : Obj := ⟨(.type "code"), none, .fields #[(.str (.ofString "NoItem") 288), (.str (.ofString "NoItem") 289), (.str (.ofString "/claim/cut.py") 290), (.int 21 0), (.int 0 0), (.int 0 0), (.int 0 0), (.int 0 0), (.ref 88), (.bool false), (.int 181 0), (.ref 89), .none, .none, .none, .none, (.int 291 0), (.int 21 0), (.str (.ofString "/claim/cut.py") 292)], #[]⟩
noncomputable def o99 (P : Params) : Obj := ⟨(.type "frame"), none, .plain, #[(some (.ref 90)), (some (.ref 3)), (some (.ref 87)), none, (some (.str (.ofString "gridlanes.errors") 187)), none, (some (.ref 0))]⟩
noncomputable def o100 (P : Params) : Obj := ⟨(.type "tuple"), none, .seq #[] 0, #[]⟩
noncomputable def o101 (P : Params) : Obj := ⟨.none, none, .fields #[], #[]⟩
noncomputable def o102 (P : Params) : Obj := ⟨(.type "tuple"), none, .seq #[(.str (.ofString "self") 301), (.str (.ofString "part") 302)] 0, #[]⟩
noncomputable def o103 (P : Params) : Obj := ⟨(.type "tuple"), none, .seq #[] 0, #[]⟩
noncomputable def o104 (P : Params) : Obj := ⟨.none, none, .func ⟨(.ofString "__init__"), (.ofString "NoItem.__init__"), defArgs (inClass (tp 5) 0), .stmts (defBody (inClass (tp 5) 0)), defScope (inClass (tp 5) 0), 0, [], .none, .none, .none, .none, none, .none, .none, 0⟩, #[]⟩
noncomputable def o105 (P : Params) : Obj := ⟨(.type "code"), none, .fields #[(.str (.ofString "__init__") 298), (.str (.ofString "NoItem.__init__") 299), (.str (.ofString "/claim/cut.py") 300), (.int 23 0), (.int 2 0), (.int 0 0), (.int 0 0), (.int 3 0), (.ref 92), (.bool true), (.int 181 0), (.ref 93), .none, (.ref 94), (.ref 95), (.ref 96), (.int 303 0), (.int 23 0), (.str (.ofString "/claim/cut.py") 304)], #[]⟩
noncomputable def o106 (P : Params) : Obj := ⟨(.type "function"), none, .func ⟨(.ofString "__init__"), (.ofString "NoItem.__init__"), defArgs (inClass (tp 5) 0), .stmts (defBody (inClass (tp 5) 0)), defScope (inClass (tp 5) 0), 3, [], .none, .none, .none, (.str (.ofString "gridlanes.errors") 187), none, (.ref 97), .none, 0⟩, #[]⟩
noncomputable def o107 (P : Params) : Obj := ⟨(.type "tuple"), none, .seq #[(.str (.ofString "part") 306)] 0, #[]⟩
noncomputable def o108 (P : Params) : Obj := ⟨(.type "dict"), none, .dict #[⟨PyData.keyHash P (.ofString "__module__"), (.str (.ofString "__module__") 293), (.str (.ofString "gridlanes.errors") 187)⟩, ⟨PyData.keyHash P (.ofString "__firstlineno__"), (.str (.ofString "__firstlineno__") 297), (.int 21 296)⟩, ⟨PyData.keyHash P (.ofString "__init__"), (.str (.ofString "__init__") 305), (.ref 98)⟩, ⟨PyData.keyHash P (.ofString "__static_attributes__"), (.str (.ofString "__static_attributes__") 307), (.ref 99)⟩, ⟨PyData.keyHash P (.ofString "__doc__"), (.str (.ofString "__doc__") 308), .none⟩] 2, #[]⟩
noncomputable def o109 (P : Params) : Obj := ⟨(.type "type"), none, .cls ⟨(.ofString "NoItem"), [(.ref 24)], [(.ref 101), (.ref 24), (.type "ValueError"), (.type "Exception"), (.type "BaseException"), (.type "object")], 100, (.ofString "NoItem"), true, [], [], false, none, false⟩, #[(some (.ref 85)), none, (some (.str (.ofString "NoItem") 286)), (some (.str (.ofString "NoItem") 294)), (some (.builtin "ValueError.__new__")), (some (.bool true))]⟩
noncomputable def o110 (P : Params) : Obj := ⟨(.type "super"), none, .fields #[(.ref 101), (.ref 101), (.ref 101)], #[]⟩
noncomputable def o111 (P : Params) : Obj := ⟨(.type "builtin_function_or_method"), none, .fields #[(.builtin "object.__init_subclass__"), (.ref 101)], #[]⟩
noncomputable def o112 (P : Params) : Obj := ⟨(.type "tuple"), none, .seq #[(.ref 24)] 0, #[]⟩
noncomputable def o113 (P : Params) : Obj := ⟨(.type "builtin_function_or_method"), none, .fields #[(.builtin "type.__prepare__"), (.type "type")], #[]⟩
noncomputable def o114 (P : Params) : Obj := ⟨(.type "dict"), none, .dict #[⟨PyData.keyHash P (.ofString "__module__"), (.str (.ofString "__module__") 318), (.str (.ofString "gridlanes.errors") 187)⟩, ⟨PyData.keyHash P (.ofString "__qualname__"), (.str (.ofString "__qualname__") 320), (.str (.ofString "NoPage") 319)⟩, ⟨PyData.keyHash P (.ofString "__firstlineno__"), (.str (.ofString "__firstlineno__") 322), (.int 26 321)⟩, ⟨PyData.keyHash P (.ofString "__init__"), (.str (.ofString "__init__") 331), (.ref 117)⟩, ⟨PyData.keyHash P (.ofString "__static_attributes__"), (.str (.ofString "__static_attributes__") 334), (.ref 118)⟩] 5, #[]⟩
noncomputable def o115 (P : Params) : Obj := ⟨(.type "tuple"), none, .seq #[] 0, #[]⟩
noncomputable def o116 (P : Params) : Obj := ⟨.none, none, .fields #[(.int 28 0), (.int 4 0), (.ref 116)], #[]⟩
noncomputable def o117 (P : Params) : Obj := ⟨(.type "code"), none, .fields #[(.str (.ofString "NoPage") 313), (.str (.ofString "NoPage") 314), (.str (.ofString "/claim/cut.py") 315), (.int 26 0), (.int 0 0), (.int 0 0), (.int 0 0), (.int 0 0), (.ref 107), (.bool false), (.int 181 0), (.ref 108), .none, .none, .none, .none, (.int 316 0), (.int 26 0), (.str (.ofString "/claim/cut.py") 317)], #[]⟩
noncomputable def o118 (P : Params) : Obj := ⟨(.type "frame"), none, .plain, #[(some (.ref 109)), (some (.ref 3)), (some (.ref 106)), none, (some (.str (.ofString "gridlanes.errors") 187)), none, (some (.ref 0))]⟩
noncomputable def o119 (P : Params) : Obj := ⟨(.type "tuple"), none, .seq #[] 0, #[]⟩
noncomputable def o120 (P : Params) : Obj := ⟨.none, none, .fields #[], #[]⟩
noncomputable def o121 (P : Params) : Obj := ⟨(.type "tuple"), none, .seq #[(.str (.ofString "self") 326), (.str (.ofString "part") 327), (.str (.ofString "index") 328)] 0, #[]⟩
noncomputable def o122 (P : Params) : Obj := ⟨(.type "tuple"), none, .seq #[] 0, #[]⟩
noncomputable def o123 (P : Params) : Obj := ⟨.none, none, .func ⟨(.ofString "__init__"), (.ofString "NoPage.__init__"), defArgs (inClass (tp 6) 0), .stmts (defBody (inClass (tp 6) 0)), defScope (inClass (tp 6) 0), 0, [], .none, .none, .none, .none, none, .none, .none, 0⟩, #[]⟩
noncomputable def o124 (P : Params) : Obj := ⟨(.type "code"), none, .fields #[(.str (.ofString "__init__") 323), (.str (.ofString "NoPage.__init__") 324), (.str (.ofString "/claim/cut.py") 325), (.int 28 0), (.int 3 0), (.int 0 0), (.int 0 0), (.int 3 0), (.ref 111), (.bool true), (.int 181 0), (.ref 112), .none, (.ref 113), (.ref 114), (.ref 115), (.int 329 0), (.int 28 0), (.str (.ofString "/claim/cut.py") 330)], #[]⟩
noncomputable def o125 (P : Params) : Obj := ⟨(.type "function"), none, .func ⟨(.ofString "__init__"), (.ofString "NoPage.__init__"), defArgs (inClass (tp 6) 0), .stmts (defBody (inClass (tp 6) 0)), defScope (inClass (tp 6) 0), 3, [], .none, .none, .none, (.str (.ofString "gridlanes.errors") 187), none, (.ref 116), .none, 0⟩, #[]⟩
noncomputable def o126 (P : Params) : Obj := ⟨(.type "tuple"), none, .seq #[(.str (.ofString "index") 332), (.str (.ofString "part") 333)] 0, #[]⟩
noncomputable def o127 (P : Params) : Obj := ⟨(.type "dict"), none, .dict #[⟨PyData.keyHash P (.ofString "__module__"), (.str (.ofString "__module__") 318), (.str (.ofString "gridlanes.errors") 187)⟩, ⟨PyData.keyHash P (.ofString "__firstlineno__"), (.str (.ofString "__firstlineno__") 322), (.int 26 321)⟩, ⟨PyData.keyHash P (.ofString "__init__"), (.str (.ofString "__init__") 331), (.ref 117)⟩, ⟨PyData.keyHash P (.ofString "__static_attributes__"), (.str (.ofString "__static_attributes__") 334), (.ref 118)⟩, ⟨PyData.keyHash P (.ofString "__doc__"), (.str (.ofString "__doc__") 335), .none⟩] 2, #[]⟩
noncomputable def o128 (P : Params) : Obj := ⟨(.type "type"), none, .cls ⟨(.ofString "NoPage"), [(.ref 24)], [(.ref 120), (.ref 24), (.type "ValueError"), (.type "Exception"), (.type "BaseException"), (.type "object")], 119, (.ofString "NoPage"), true, [], [], false, none, false⟩, #[(some (.ref 104)), none, (some (.str (.ofString "NoPage") 311)), (some (.str (.ofString "NoPage") 319)), (some (.builtin "ValueError.__new__")), (some (.bool true))]⟩
noncomputable def o129 (P : Params) : Obj := ⟨(.type "super"), none, .fields #[(.ref 120), (.ref 120), (.ref 120)], #[]⟩
noncomputable def o130 (P : Params) : Obj := ⟨(.type "builtin_function_or_method"), none, .fields #[(.builtin "object.__init_subclass__"), (.ref 120)], #[]⟩
noncomputable def t4 (P : Params) : BT := (.node (o0 P) (.node (o1 P) (.node (o90 P) (.node (o7 P) (.node (o17 P) (.node (o33 P) (.node (o68 P) .nil .nil) (.node (o103 P) .nil .nil)) (.node (o52 P) (.node (o84 P) .nil .nil) (.node (o119 P) .nil .nil))) (.node (o25 P) (.node (o41 P) (.node (o76 P) .nil .nil) (.node (o111 P) .nil .nil)) (.node (o60 P) (.node (o95 P) .nil .nil) (.node (o127 P) .nil .nil)))) (.node (o11 P) (.node (o21 P) (.node (o37 P) (.node (o72 P) .nil .nil) (.node (o107 P) .nil .nil)) (.node (o56 P) (.node (o88 P) .nil .nil) (.node (o123 P) .nil .nil))) (.node (o29 P) (.node (o45 P) (.node (o80 P) .nil .nil) (.node (o115 P) .nil .nil)) (.node (o64 P) (.node (o99 P) .nil .nil) .nil)))) (.node (o5 P) (.node (o9 P) (.node (o19 P) (.node (o35 P) (.node (o70 P) .nil .nil) (.node (o105 P) .nil .nil)) (.node (o54 P) (.node (o86 P) .nil .nil) (.node (o121 P) .nil .nil))) (.node (o27 P) (.node (o43 P) (.node (o78 P) .nil .nil) (.node (o113 P) .nil .nil)) (.node (o62 P) (.node (o97 P) .nil .nil) (.node (o129 P) .nil .nil)))) (.node (o13 P) (.node (o23 P) (.node (o39 P) (.node (o74 P) .nil .nil) (.node (o109 P) .nil .nil)) (.node (o58 P) (.node (o93 P) .nil .nil) (.node (o125 P) .nil .nil))) (.node (o31 P) (.node (o47 P) (.node (o82 P) .nil .nil) (.node (o117 P) .nil .nil)) (.node (o66 P) (.node (o101 P) .nil .nil) .nil))))) (.node (o2 P) (.node (o4 P) (.node (o8 P) (.node (o18 P) (.node (o34 P) (.node (o69 P) .nil .nil) (.node (o104 P) .nil .nil)) (.node (o53 P) (.node (o85 P) .nil .nil) (.node (o120 P) .nil .nil))) (.node (o92 P) (.node (o42 P) (.node (o77 P) .nil .nil) (.node (o112 P) .nil .nil)) (.node (o61 P) (.node (o96 P) .nil .nil) (.node (o128 P) .nil .nil)))) (.node (o91 P) (.node (o22 P) (.node (o38 P) (.node (o73 P) .nil .nil) (.node (o108 P) .nil .nil)) (.node (o57 P) (.node (o89 P) .nil .nil) (.node (o124 P) .nil .nil))) (.node (o30 P) (.node (o46 P) (.node (o81 P) .nil .nil) (.node (o116 P) .nil .nil)) (.node (o65 P) (.node (o100 P) .nil .nil) .nil)))) (.node (o6 P) (.node (o10 P) (.node (o20 P) (.node (o36 P) (.node (o71 P) .nil .nil) (.node (o106 P) .nil .nil)) (.node (o55 P) (.node (o87 P) .nil .nil) (.node (o122 P) .nil .nil))) (.node (o28 P) (.node (o44 P) (.node (o79 P) .nil .nil) (.node (o114 P) .nil .nil)) (.node (o63 P) (.node (o98 P) .nil .nil) (.node (o130 P) .nil .nil)))) (.node (o14 P) (.node (o24 P) (.node (o40 P) (.node (o75 P) .nil .nil) (.node (o110 P) .nil .nil)) (.node (o59 P) (.node (o94 P) .nil .nil) (.node (o126 P) .nil .nil))) (.node (o32 P) (.node (o48 P) (.node (o83 P) .nil .nil) (.node (o118 P) .nil .nil)) (.node (o67 P) (.node (o102 P) .nil .nil) .nil))))))
noncomputable def s4 (P : Params) (os : OsState) : SharedT := ⟨t4 P, 123, {}, #[], boot_drawn, 338, os⟩
noncomputable def o131 (P : Params) : Obj := ⟨(.type "dict"), none, .dict #[⟨PyData.keyHash P (.ofString "__name__"), (.str (.ofString "__name__") 165), (.str (.ofString "gridlanes.errors") 187)⟩, ⟨PyData.keyHash P (.ofString "__doc__"), (.str (.ofString "__doc__") 166), .none⟩, ⟨PyData.keyHash P (.ofString "__package__"), (.str (.ofString "__package__") 167), .none⟩, ⟨PyData.keyHash P (.ofString "__loader__"), (.str (.ofString "__loader__") 168), (.builtin "__main__.__loader__#opaque")⟩, ⟨PyData.keyHash P (.ofString "__spec__"), (.str (.ofString "__spec__") 169), .none⟩, ⟨PyData.keyHash P (.ofString "__annotations__"), (.str (.ofString "__annotations__") 170), (.ref 6)⟩, ⟨PyData.keyHash P (.ofString "__builtins__"), (.str (.ofString "__builtins__") 171), (.ref 4)⟩, ⟨PyData.keyHash P (.ofString "__file__"), (.str (.ofString "__file__") 173), (.str (.ofString "/claim/cut.py") 172)⟩, ⟨PyData.keyHash P (.ofString "__cached__"), (.str (.ofString "__cached__") 174), .none⟩, ⟨PyData.keyHash P (.ofString "LaneError"), (.str (.ofString "LaneError") 206), (.ref 24)⟩, ⟨PyData.keyHash P (.ofString "NoNumber"), (.str (.ofString "NoNumber") 231), (.ref 44)⟩, ⟨PyData.keyHash P (.ofString "NoContent"), (.str (.ofString "NoContent") 258), (.ref 63)⟩, ⟨PyData.keyHash P (.ofString "NoGrid"), (.str (.ofString "NoGrid") 285), (.ref 82)⟩, ⟨PyData.keyHash P (.ofString "NoItem"), (.str (.ofString "NoItem") 310), (.ref 101)⟩, ⟨PyData.keyHash P (.ofString "NoPage"), (.str (.ofString "NoPage") 337), (.ref 120)⟩, ⟨PyData.keyHash P (.ofString "ManyLanes"), (.str (.ofString "ManyLanes") 362), (.ref 139)⟩, ⟨PyData.keyHash P (.ofString "NoPath"), (.str (.ofString "NoPath") 387), (.ref 158)⟩] 17, #[]⟩
noncomputable def o132 (P : Params) : Obj := ⟨.none, none, .fields #[(.int 2 0), (.int 0 0), (.ref 20), (.int 4 0), (.int 0 0), (.ref 33), (.int 9 0), (.int 0 0), (.ref 52), (.int 15 0), (.int 0 0), (.ref 71), (.int 21 0), (.int 0 0), (.ref 90), (.int 26 0), (.int 0 0), (.ref 109), (.int 32 0), (.int 0 0), (.ref 128), (.int 37 0), (.int 0 0), (.ref 147)], #[]⟩
noncomputable def o133 (P : Params) : Obj := ⟨(.type "type"), none, .cls ⟨(.ofString "LaneError"), [(.type "ValueError")], [(.ref 24), (.type "ValueError"), (.type "Exception"), (.type "BaseException"), (.type "object")], 23, (.ofString "LaneError"), true, [], [(.ref 44), (.ref 63), (.ref 82), (.ref 101), (.ref 120), (.ref 139), (.ref 158)], false, none, false⟩, #[(some (.ref 15)), none, (some (.str (.ofString "LaneError") 189)), (some (.str (.ofString "LaneError") 197)), (some (.builtin "ValueError.__new__")), (some (.bool true))]⟩
noncomputable def o134 (P : Params) : Obj := ⟨(.type "tuple"), none, .seq #[(.ref 24)] 0, #[]⟩
noncomputable def o135 (P : Params) : Obj := ⟨(.type "builtin_function_or_method"), none, .fields #[(.builtin "type.__prepare__"), (.type "type")], #[]⟩
noncomputable def o136 (P : Params) : Obj := ⟨(.type "dict"), none, .dict #[⟨PyData.keyHash P (.ofString "__module__"), (.str (.ofString "__module__") 345), (.str (.ofString "gridlanes.errors") 187)⟩, ⟨PyData.keyHash P (.ofString "__qualname__"), (.str (.ofString "__qualname__") 347), (.str (.ofString "ManyLanes") 346)⟩, ⟨PyData.keyHash P (.ofString "__firstlineno__"), (.str (.ofString "__firstlineno__") 349), (.int 32 348)⟩, ⟨PyData.keyHash P (.ofString "__init__"), (.str (.ofString "__init__") 357), (.ref 136)⟩, ⟨PyData.keyHash P (.ofString "__static_attributes__"), (.str (.ofString "__static_attributes__") 359), (.ref 137)⟩] 5, #[]⟩
noncomputable def o137 (P : Params) : Obj := ⟨(.type "tuple"), none, .seq #[] 0, #[]⟩
noncomputable def o138 (P : Params) : Obj := ⟨.none, none, .fields #[(.int 34 0), (.int 4 0), (.ref 135)], #[]⟩
noncomputable def o139 (P : Params) : Obj := ⟨(.type "code"), none, .fields #[(.str (.ofString "ManyLanes") 340), (.str (.ofString "ManyLanes") 341), (.str (.ofString "/claim/cut.py") 342), (.int 32 0), (.int 0 0), (.int 0 0), (.int 0 0), (.int 0 0), (.ref 126), (.bool false), (.int 181 0), (.ref 127), .none, .none, .none, .none, (.int 343 0), (.int 32 0), (.str (.ofString "/claim/cut.py") 344)], #[]⟩
noncomputable def o140 (P : Params) : Obj := ⟨(.type "frame"), none, .plain, #[(some (.ref 128)), (some (.ref 3)), (some (.ref 125)), none, (some (.str (.ofString "gridlanes.errors") 187)), none, (some (.ref 0))]⟩
noncomputable def o141 (P : Params) : Obj := ⟨(.type "tuple"), none, .seq #[] 0, #[]⟩
noncomputable def o142 (P : Params) : Obj := ⟨.none, none, .fields #[], #[]⟩
noncomputable def o143 (P : Params) : Obj := ⟨(.type "tuple"), none, .seq #[(.str (.ofString "self") 353), (.str (.ofString "axis") 354)] 0, #[]⟩
noncomputable def o144 (P : Params) : Obj := ⟨(.type "tuple"), none, .seq #[] 0, #[]⟩
noncomputable def o145 (P : Params) : Obj := ⟨.none, none, .func ⟨(.ofString "__init__"), (.ofString "ManyLanes.__init__"), defArgs (inClass (tp 7) 0), .stmts (defBody (inClass (tp 7) 0)), defScope (inClass (tp 7) 0), 0, [], .none, .none, .none, .none, none, .none, .none, 0⟩, #[]⟩
noncomputable def o146 (P : Params) : Obj := ⟨(.type "code"), none, .fields #[(.str (.ofString "__init__") 350), (.str (.ofString "ManyLanes.__init__") 351), (.str (.ofString "/claim/cut.py") 352), (.int 34 0), (.int 2 0), (.int 0 0), (.int 0 0), (.int 3 0), (.ref 130), (.bool true), (.int 181 0), (.ref 131), .none, (.ref 132), (.ref 133), (.ref 134), (.int 355 0), (.int 34 0), (.str (.ofString "/claim/cut.py") 356)], #[]⟩
noncomputable def o147 (P : Params) : Obj := ⟨(.type "function"), none, .func ⟨(.ofString "__init__"), (.ofString "ManyLanes.__init__"), defArgs (inClass (tp 7) 0), .stmts (defBody (inClass (tp 7) 0)), defScope (inClass (tp 7) 0), 3, [], .none, .none, .none, (.str (.ofString "gridlanes.errors") 187), none, (.ref 135), .none, 0⟩, #[]⟩
noncomputable def o148 (P : Params) : Obj := ⟨(.type "tuple"), none, .seq #[(.str (.ofString "axis") 358)] 0, #[]⟩
noncomputable def o149 (P : Params) : Obj := ⟨(.type "dict"), none, .dict #[⟨PyData.keyHash P (.ofString "__module__"), (.str (.ofString "__module__") 345), (.str (.ofString "gridlanes.errors") 187)⟩, ⟨PyData.keyHash P (.ofString "__firstlineno__"), (.str (.ofString "__firstlineno__") 349), (.int 32 348)⟩, ⟨PyData.keyHash P (.ofString "__init__"), (.str (.ofString "__init__") 357), (.ref 136)⟩, ⟨PyData.keyHash P (.ofString "__static_attributes__"), (.str (.ofString "__static_attributes__") 359), (.ref 137)⟩, ⟨PyData.keyHash P (.ofString "__doc__"), (.str (.ofString "__doc__") 360), .none⟩] 2, #[]⟩
noncomputable def o150 (P : Params) : Obj := ⟨(.type "type"), none, .cls ⟨(.ofString "ManyLanes"), [(.ref 24)], [(.ref 139), (.ref 24), (.type "ValueError"), (.type "Exception"), (.type "BaseException"), (.type "object")], 138, (.ofString "ManyLanes"), true, [], [], false, none, false⟩, #[(some (.ref 123)), none, (some (.str (.ofString "ManyLanes") 338)), (some (.str (.ofString "ManyLanes") 346)), (some (.builtin "ValueError.__new__")), (some (.bool true))]⟩
noncomputable def o151 (P : Params) : Obj := ⟨(.type "super"), none, .fields #[(.ref 139), (.ref 139), (.ref 139)], #[]⟩
noncomputable def o152 (P : Params) : Obj := ⟨(.type "builtin_function_or_method"), none, .fields #[(.builtin "object.__init_subclass__"), (.ref 139)], #[]⟩
noncomputable def o153 (P : Params) : Obj := ⟨(.type "tuple"), none, .seq #[(.ref 24)] 0, #[]⟩
noncomputable def o154 (P : Params) : Obj := ⟨(.type "builtin_function_or_method"), none, .fields #[(.builtin "type.__prepare__"), (.type "type")], #[]⟩
noncomputable def o155 (P : Params) : Obj := ⟨(.type "dict"), none, .dict #[⟨PyData.keyHash P (.ofString "__module__"), (.str (.ofString "__module__") 370), (.str (.ofString "gridlanes.errors") 187)⟩, ⟨PyData.keyHash P (.ofString "__qualname__"), (.str (.ofString "__qualname__") 372), (.str (.ofString "NoPath") 371)⟩, ⟨PyData.keyHash P (.ofString "__firstlineno__"), (.str (.ofString "__firstlineno__") 374), (.int 37 373)⟩, ⟨PyData.keyHash P (.ofString "__init__"), (.str (.ofString "__init__") 382), (.ref 155)⟩, ⟨PyData.keyHash P (.ofString "__static_attributes__"), (.str (.ofString "__static_attributes__") 384), (.ref 156)⟩] 5, #[]⟩
noncomputable def o156 (P : Params) : Obj := ⟨(.type "tuple"), none, .seq #[] 0, #[]⟩
noncomputable def o157 (P : Params) : Obj := ⟨.none, none, .fields #[(.int 39 0), (.int 4 0), (.ref 154)], #[]⟩
noncomputable def o158 (P : Params) : Obj := ⟨(.type "code"), none, .fields #[(.str (.ofString "NoPath") 365), (.str (.ofString "NoPath") 366), (.str (.ofString "/claim/cut.py") 367), (.int 37 0), (.int 0 0), (.int 0 0), (.int 0 0), (.int 0 0), (.ref 145), (.bool false), (.int 181 0), (.ref 146), .none, .none, .none, .none, (.int 368 0), (.int 37 0), (.str (.ofString "/claim/cut.py") 369)], #[]⟩
noncomputable def o159 (P : Params) : Obj := ⟨(.type "frame"), none, .plain, #[(some (.ref 147)), (some (.ref 3)), (some (.ref 144)), none, (some (.str (.ofString "gridlanes.errors") 187)), none, (some (.ref 0))]⟩
noncomputable def o160 (P : Params) : Obj := ⟨(.type "tuple"), none, .seq #[] 0, #[]⟩
noncomputable def o161 (P : Params) : Obj := ⟨.none, none, .fields #[], #[]⟩
noncomputable def o162 (P : Params) : Obj := ⟨(.type "tuple"), none, .seq #[(.str (.ofString "self") 378), (.str (.ofString "path") 379)] 0, #[]⟩
noncomputable def o163 (P : Params) : Obj := ⟨(.type "tuple"), none, .seq #[] 0, #[]⟩
noncomputable def o164 (P : Params) : Obj := ⟨.none, none, .func ⟨(.ofString "__init__"), (.ofString "NoPath.__init__"), defArgs (inClass (tp 8) 0), .stmts (defBody (inClass (tp 8) 0)), defScope (inClass (tp 8) 0), 0, [], .none, .none, .none, .none, none, .none, .none, 0⟩, #[]⟩
noncomputable def o165 (P : Params) : Obj := ⟨(.type "code"), none, .fields #[(.str (.ofString "__init__") 375), (.str (.ofString "NoPath.__init__") 376), (.str (.ofString "/claim/cut.py") 377), (.int 39 0), (.int 2 0), (.int 0 0), (.int 0 0), (.int 3 0), (.ref 149), (.bool true), (.int 181 0), (.ref 150), .none, (.ref 151), (.ref 152), (.ref 153), (.int 380 0), (.int 39 0), (.str (.ofString "/claim/cut.py") 381)], #[]⟩
noncomputable def o166 (P : Params) : Obj := ⟨(.type "function"), none, .func ⟨(.ofString "__init__"), (.ofString "NoPath.__init__"), defArgs (inClass (tp 8) 0), .stmts (defBody (inClass (tp 8) 0)), defScope (inClass (tp 8) 0), 3, [], .none, .none, .none, (.str (.ofString "gridlanes.errors") 187), none, (.ref 154), .none, 0⟩, #[]⟩
noncomputable def o167 (P : Params) : Obj := ⟨(.type "tuple"), none, .seq #[(.str (.ofString "path") 383)] 0, #[]⟩
noncomputable def o168 (P : Params) : Obj := ⟨(.type "dict"), none, .dict #[⟨PyData.keyHash P (.ofString "__module__"), (.str (.ofString "__module__") 370), (.str (.ofString "gridlanes.errors") 187)⟩, ⟨PyData.keyHash P (.ofString "__firstlineno__"), (.str (.ofString "__firstlineno__") 374), (.int 37 373)⟩, ⟨PyData.keyHash P (.ofString "__init__"), (.str (.ofString "__init__") 382), (.ref 155)⟩, ⟨PyData.keyHash P (.ofString "__static_attributes__"), (.str (.ofString "__static_attributes__") 384), (.ref 156)⟩, ⟨PyData.keyHash P (.ofString "__doc__"), (.str (.ofString "__doc__") 385), .none⟩] 2, #[]⟩
noncomputable def o169 (P : Params) : Obj := ⟨(.type "type"), none, .cls ⟨(.ofString "NoPath"), [(.ref 24)], [(.ref 158), (.ref 24), (.type "ValueError"), (.type "Exception"), (.type "BaseException"), (.type "object")], 157, (.ofString "NoPath"), true, [], [], false, none, false⟩, #[(some (.ref 142)), none, (some (.str (.ofString "NoPath") 363)), (some (.str (.ofString "NoPath") 371)), (some (.builtin "ValueError.__new__")), (some (.bool true))]⟩
noncomputable def o170 (P : Params) : Obj := ⟨(.type "super"), none, .fields #[(.ref 158), (.ref 158), (.ref 158)], #[]⟩
noncomputable def o171 (P : Params) : Obj := ⟨(.type "builtin_function_or_method"), none, .fields #[(.builtin "object.__init_subclass__"), (.ref 158)], #[]⟩
noncomputable def t5 (P : Params) : BT := (.node (o0 P) (.node (o1 P) (.node (o131 P) (.node (o7 P) (.node (o17 P) (.node (o33 P) (.node (o68 P) (.node (o138 P) .nil .nil) .nil) (.node (o103 P) (.node (o170 P) .nil .nil) .nil)) (.node (o52 P) (.node (o84 P) (.node (o154 P) .nil .nil) .nil) (.node (o119 P) .nil .nil))) (.node (o25 P) (.node (o41 P) (.node (o76 P) (.node (o146 P) .nil .nil) .nil) (.node (o111 P) .nil .nil)) (.node (o60 P) (.node (o95 P) (.node (o162 P) .nil .nil) .nil) (.node (o127 P) .nil .nil)))) (.node (o11 P) (.node (o21 P) (.node (o37 P) (.node (o72 P) (.node (o142 P) .nil .nil) .nil) (.node (o107 P) .nil .nil)) (.node (o56 P) (.node (o88 P) (.node (o158 P) .nil .nil) .nil) (.node (o123 P) .nil .nil))) (.node (o29 P) (.node (o45 P) (.node (o80 P) (.node (o150 P) .nil .nil) .nil) (.node (o115 P) .nil .nil)) (.node (o64 P) (.node (o99 P) (.node (o166 P) .nil .nil) .nil) (.node (o134 P) .nil .nil))))) (.node (o5 P) (.node (o9 P) (.node (o19 P) (.node (o35 P) (.node (o70 P) (.node (o140 P) .nil .nil) .nil) (.node (o105 P) .nil .nil)) (.node (o54 P) (.node (o86 P) (.node (o156 P) .nil .nil) .nil) (.node (o121 P) .nil .nil))) (.node (o27 P) (.node (o43 P) (.node (o78 P) (.node (o148 P) .nil .nil) .nil) (.node (o113 P) .nil .nil)) (.node (o62 P) (.node (o97 P) (.node (o164 P) .nil .nil) .nil) (.node (o129 P) .nil .nil)))) (.node (o13 P) (.node (o23 P) (.node (o39 P) (.node (o74 P) (.node (o144 P) .nil .nil) .nil) (.node (o109 P) .nil .nil)) (.node (o58 P) (.node (o93 P) (.node (o160 P) .nil .nil) .nil) (.node (o125 P) .nil .nil))) (.node (o31 P) (.node (o47 P) (.node (o82 P) (.node (o152 P) .nil .nil) .nil) (.node (o117 P) .nil .nil)) (.node (o66 P) (.node (o101 P) (.node (o168 P) .nil .nil) .nil) (.node (o136 P) .nil .nil)))))) (.node (o2 P) (.node (o4 P) (.node (o8 P) (.node (o18 P) (.node (o34 P) (.node (o69 P) (.node (o139 P) .nil .nil) .nil) (.node (o104 P) (.node (o171 P) .nil .nil) .nil)) (.node (o53 P) (.node (o85 P) (.node (o155 P) .nil .nil) .nil) (.node (o120 P) .nil .nil))) (.node (o133 P) (.node (o42 P) (.node (o77 P) (.node (o147 P) .nil .nil) .nil) (.node (o112 P) .nil .nil)) (.node (o61 P) (.node (o96 P) (.node (o163 P) .nil .nil) .nil) (.node (o128 P) .nil .nil)))) (.node (o132 P) (.node (o22 P) (.node (o38 P) (.node (o73 P) (.node (o143 P) .nil .nil) .nil) (.node (o108 P) .nil .nil)) (.node (o57 P) (.node (o89 P) (.node (o159 P) .nil .nil) .nil) (.node (o124 P) .nil .nil))) (.node (o30 P) (.node (o46 P) (.node (o81 P) (.node (o151 P) .nil .nil) .nil) (.node (o116 P) .nil .nil)) (.node (o65 P) (.node (o100 P) (.node (o167 P) .nil .nil) .nil) (.node (o135 P) .nil .nil))))) (.node (o6 P) (.node (o10 P) (.node (o20 P) (.node (o36 P) (.node (o71 P) (.node (o141 P) .nil .nil) .nil) (.node (o106 P) .nil .nil)) (.node (o55 P) (.node (o87 P) (.node (o157 P) .nil .nil) .nil) (.node (o122 P) .nil .nil))) (.node (o28 P) (.node (o44 P) (.node (o79 P) (.node (o149 P) .nil .nil) .nil) (.node (o114 P) .nil .nil)) (.node (o63 P) (.node (o98 P) (.node (o165 P) .nil .nil) .nil) (.node (o130 P) .nil .nil)))) (.node (o14 P) (.node (o24 P) (.node (o40 P) (.node (o75 P) (.node (o145 P) .nil .nil) .nil) (.node (o110 P) .nil .nil)) (.node (o59 P) (.node (o94 P) (.node (o161 P) .nil .nil) .nil) (.node (o126 P) .nil .nil))) (.node (o32 P) (.node (o48 P) (.node (o83 P) (.node (o153 P) .nil .nil) .nil) (.node (o118 P) .nil .nil)) (.node (o67 P) (.node (o102 P) (.node (o169 P) .nil .nil) .nil) (.node (o137 P) .nil .nil)))))))
noncomputable def s5 (P : Params) (os : OsState) : SharedT := ⟨t5 P, 161, {}, #[], boot_drawn, 388, os⟩
noncomputable def o172 (P : Params) : Obj := ⟨(.type "dict"), none, .dict #[⟨PyData.keyHash P (.ofString "__name__"), (.str (.ofString "__name__") 165), (.str (.ofString "gridlanes.errors") 187)⟩, ⟨PyData.keyHash P (.ofString "__doc__"), (.str (.ofString "__doc__") 166), .none⟩, ⟨PyData.keyHash P (.ofString "__package__"), (.str (.ofString "__package__") 167), .none⟩, ⟨PyData.keyHash P (.ofString "__loader__"), (.str (.ofString "__loader__") 168), (.builtin "__main__.__loader__#opaque")⟩, ⟨PyData.keyHash P (.ofString "__spec__"), (.str (.ofString "__spec__") 169), .none⟩, ⟨PyData.keyHash P (.ofString "__annotations__"), (.str (.ofString "__annotations__") 170), (.ref 6)⟩, ⟨PyData.keyHash P (.ofString "__builtins__"), (.str (.ofString "__builtins__") 171), (.ref 4)⟩, ⟨PyData.keyHash P (.ofString "__file__"), (.str (.ofString "__file__") 173), (.str (.ofString "/claim/cut.py") 172)⟩, ⟨PyData.keyHash P (.ofString "__cached__"), (.str (.ofString "__cached__") 174), .none⟩, ⟨PyData.keyHash P (.ofString "LaneError"), (.str (.ofString "LaneError") 206), (.ref 24)⟩, ⟨PyData.keyHash P (.ofString "NoNumber"), (.str (.ofString "NoNumber") 231), (.ref 44)⟩, ⟨PyData.keyHash P (.ofString "NoContent"), (.str (.ofString "NoContent") 258), (.ref 63)⟩, ⟨PyData.keyHash P (.ofString "NoGrid"), (.str (.ofString "NoGrid") 285), (.ref 82)⟩, ⟨PyData.keyHash P (.ofString "NoItem"), (.str (.ofString "NoItem") 310), (.ref 101)⟩, ⟨PyData.keyHash P (.ofString "NoPage"), (.str (.ofString "NoPage") 337), (.ref 120)⟩, ⟨PyData.keyHash P (.ofString "ManyLanes"), (.str (.ofString "ManyLanes") 362), (.ref 139)⟩, ⟨PyData.keyHash P (.ofString "NoPath"), (.str (.ofString "NoPath") 387), (.ref 158)⟩, ⟨PyData.keyHash P (.ofString "NoRange"), (.str (.ofString "NoRange") 412), (.ref 177)⟩, ⟨PyData.keyHash P (.ofString "TooMany"), (.str (.ofString "TooMany") 437), (.ref 196)⟩] 19, #[]⟩
noncomputable def o173 (P : Params) : Obj := ⟨.none, none, .fields #[(.int 2 0), (.int 0 0), (.ref 20), (.int 4 0), (.int 0 0), (.ref 33), (.int 9 0), (.int 0 0), (.ref 52), (.int 15 0), (.int 0 0), (.ref 71), (.int 21 0), (.int 0 0), (.ref 90), (.int 26 0), (.int 0 0), (.ref 109), (.int 32 0), (.int 0 0), (.ref 128), (.int 37 0), (.int 0 0), (.ref 147), (.int 42 0), (.int 0 0), (.ref 166), (.int 47 0), (.int 0 0), (.ref 185)], #[]⟩
noncomputable def o174 (P : Params) : Obj := ⟨(.type "type"), none, .cls ⟨(.ofString "LaneError"), [(.type "ValueError")], [(.ref 24), (.type "ValueError"), (.type "Exception"), (.type "BaseException"), (.type "object")], 23, (.ofString "LaneError"), true, [], [(.ref 44), (.ref 63), (.ref 82), (.ref 101), (.ref 120), (.ref 139), (.ref 158), (.ref 177), (.ref 196)], false, none, false⟩, #[(some (.ref 15)), none, (some (.str (.ofString "LaneError") 189)), (some (.str (.ofString "LaneError") 197)), (some (.builtin "ValueError.__new__")), (some (.bool true))]⟩
noncomputable def o175 (P : Params) : Obj := ⟨(.type "tuple"), none, .seq #[(.ref 24)] 0, #[]⟩
noncomputable def o176 (P : Params) : Obj := ⟨(.type "builtin_function_or_method"), none, .fields #[(.builtin "type.__prepare__"), (.type "type")], #[]⟩
noncomputable def o177 (P : Params) : Obj := ⟨(.type "dict"), none, .dict #[⟨PyData.keyHash P (.ofString "__module__"), (.str (.ofString "__module__") 395), (.str (.ofString "gridlanes.errors") 187)⟩, ⟨PyData.keyHash P (.ofString "__qualname__"), (.str (.ofString "__qualname__") 397), (.str (.ofString "NoRange") 396)⟩, ⟨PyData.keyHash P (.ofString "__firstlineno__"), (.str (.ofString "__firstlineno__") 399), (.int 42 398)⟩, ⟨PyData.keyHash P (.ofString "__init__"), (.str (.ofString "__init__") 407), (.ref 174)⟩, ⟨PyData.keyHash P (.ofString "__static_attributes__"), (.str (.ofString "__static_attributes__") 409), (.ref 175)⟩] 5, #[]⟩
noncomputable def o178 (P : Params) : Obj := ⟨(.type "tuple"), none, .seq #[] 0, #[]⟩
noncomputable def o179 (P : Params) : Obj := ⟨.none, none, .fields #[(.int 44 0), (.int 4 0), (.ref 173)], #[]⟩
noncomputable def o180 (P : Params) : Obj := ⟨(.type "code"), none, .fields #[(.str (.ofString "NoRange") 390), (.str (.ofString "NoRange") 391), (.str (.ofString "/claim/cut.py") 392), (.int 42 0), (.int 0 0), (.int 0 0), (.int 0 0), (.int 0 0), (.ref 164), (.bool false), (.int 181 0), (.ref 165), .none, .none, .none, .none, (.int 393 0), (.int 42 0), (.str (.ofString "/claim/cut.py") 394)], #[]⟩
noncomputable def o181 (P : Params) : Obj := ⟨(.type "frame"), none, .plain, #[(some (.ref 166)), (some (.ref 3)), (some (.ref 163)), none, (some (.str (.ofString "gridlanes.errors") 187)), none, (some (.ref 0))]⟩
noncomputable def o182 (P : Params) : Obj := ⟨(.type "tuple"), none, .seq #[] 0, #[]⟩
noncomputable def o183 (P : Params) : Obj := ⟨.none, none, .fields #[], #[]⟩
noncomputable def o184 (P : Params) : Obj := ⟨(.type "tuple"), none, .seq #[(.str (.ofString "self") 403), (.str (.ofString "part") 404)] 0, #[]⟩
noncomputable def o185 (P : Params) : Obj := ⟨(.type "tuple"), none, .seq #[] 0, #[]⟩
noncomputable def o186 (P : Params) : Obj := ⟨.none, none, .func ⟨(.ofString "__init__"), (.ofString "NoRange.__init__"), defArgs (inClass (tp 9) 0), .stmts (defBody (inClass (tp 9) 0)), defScope (inClass (tp 9) 0), 0, [], .none, .none, .none, .none, none, .none, .none, 0⟩, #[]⟩
noncomputable def o187 (P : Params) : Obj := ⟨(.type "code"), none, .fields #[(.str (.ofString "__init__") 400), (.str (.ofString "NoRange.__init__") 401), (.str (.ofString "/claim/cut.py") 402), (.int 44 0), (.int 2 0), (.int 0 0), (.int 0 0), (.int 3 0), (.ref 168), (.bool true), (.int 181 0), (.ref 169), .none, (.ref 170), (.ref 171), (.ref 172), (.int 405 0), (.int 44 0), (.str (.ofString "/claim/cut.py") 406)], #[]⟩
noncomputable def o188 (P : Params) : Obj := ⟨(.type "function"), none, .func ⟨(.ofString "__init__"), (.ofString "NoRange.__init__"), defArgs (inClass (tp 9) 0), .stmts (defBody (inClass (tp 9) 0)), defScope (inClass (tp 9) 0), 3, [], .none, .none, .none, (.str (.ofString "gridlanes.errors") 187), none, (.ref 173), .none, 0⟩, #[]⟩
noncomputable def o189 (P : Params) : Obj := ⟨(.type "tuple"), none, .seq #[(.str (.ofString "part") 408)] 0, #[]⟩
noncomputable def o190 (P : Params) : Obj := ⟨(.type "dict"), none, .dict #[⟨PyData.keyHash P (.ofString "__module__"), (.str (.ofString "__module__") 395), (.str (.ofString "gridlanes.errors") 187)⟩, ⟨PyData.keyHash P (.ofString "__firstlineno__"), (.str (.ofString "__firstlineno__") 399), (.int 42 398)⟩, ⟨PyData.keyHash P (.ofString "__init__"), (.str (.ofString "__init__") 407), (.ref 174)⟩, ⟨PyData.keyHash P (.ofString "__static_attributes__"), (.str (.ofString "__static_attributes__") 409), (.ref 175)⟩, ⟨PyData.keyHash P (.ofString "__doc__"), (.str (.ofString "__doc__") 410), .none⟩] 2, #[]⟩
noncomputable def o191 (P : Params) : Obj := ⟨(.type "type"), none, .cls ⟨(.ofString "NoRange"), [(.ref 24)], [(.ref 177), (.ref 24), (.type "ValueError"), (.type "Exception"), (.type "BaseException"), (.type "object")], 176, (.ofString "NoRange"), true, [], [], false, none, false⟩, #[(some (.ref 161)), none, (some (.str (.ofString "NoRange") 388)), (some (.str (.ofString "NoRange") 396)), (some (.builtin "ValueError.__new__")), (some (.bool true))]⟩
noncomputable def o192 (P : Params) : Obj := ⟨(.type "super"), none, .fields #[(.ref 177), (.ref 177), (.ref 177)], #[]⟩
noncomputable def o193 (P : Params) : Obj := ⟨(.type "builtin_function_or_method"), none, .fields #[(.builtin "object.__init_subclass__"), (.ref 177)], #[]⟩
noncomputable def o194 (P : Params) : Obj := ⟨(.type "tuple"), none, .seq #[(.ref 24)] 0, #[]⟩
noncomputable def o195 (P : Params) : Obj := ⟨(.type "builtin_function_or_method"), none, .fields #[(.builtin "type.__prepare__"), (.type "type")], #[]⟩
noncomputable def o196 (P : Params) : Obj := ⟨(.type "dict"), none, .dict #[⟨PyData.keyHash P (.ofString "__module__"), (.str (.ofString "__module__") 420), (.str (.ofString "gridlanes.errors") 187)⟩, ⟨PyData.keyHash P (.ofString "__qualname__"), (.str (.ofString "__qualname__") 422), (.str (.ofString "TooMany") 421)⟩, ⟨PyData.keyHash P (.ofString "__firstlineno__"), (.str (.ofString "__firstlineno__") 424), (.int 47 423)⟩, ⟨PyData.keyHash P (.ofString "__init__"), (.str (.ofString "__init__") 432), (.ref 193)⟩, ⟨PyData.keyHash P (.ofString "__static_attributes__"), (.str (.ofString "__static_attributes__") 434), (.ref 194)⟩] 5, #[]⟩
noncomputable def o197 (P : Params) : Obj := ⟨(.type "tuple"), none, .seq #[] 0, #[]⟩
noncomputable def o198 (P : Params) : Obj := ⟨.none, none, .fields #[(.int 49 0), (.int 4 0), (.ref 192)], #[]⟩
noncomputable def o199 (P : Params) : Obj := ⟨(.type "code"), none, .fields #[(.str (.ofString "TooMany") 415), (.str (.ofString "TooMany") 416), (.str (.ofString "/claim/cut.py") 417), (.int 47 0), (.int 0 0), (.int 0 0), (.int 0 0), (.int 0 0), (.ref 183), (.bool false), (.int 181 0), (.ref 184), .none, .none, .none, .none, (.int 418 0), (.int 47 0), (.str (.ofString "/claim/cut.py") 419)], #[]⟩
noncomputable def o200 (P : Params) : Obj := ⟨(.type "frame"), none, .plain, #[(some (.ref 185)), (some (.ref 3)), (some (.ref 182)), none, (some (.str (.ofString "gridlanes.errors") 187)), none, (some (.ref 0))]⟩
noncomputable def o201 (P : Params) : Obj := ⟨(.type "tuple"), none, .seq #[] 0, #[]⟩
noncomputable def o202 (P : Params) : Obj := ⟨.none, none, .fields #[], #[]⟩
noncomputable def o203 (P : Params) : Obj := ⟨(.type "tuple"), none, .seq #[(.str (.ofString "self") 428), (.str (.ofString "most") 429)] 0, #[]⟩
noncomputable def o204 (P : Params) : Obj := ⟨(.type "tuple"), none, .seq #[] 0, #[]⟩
noncomputable def o205 (P : Params) : Obj := ⟨.none, none, .func ⟨(.ofString "__init__"), (.ofString "TooMany.__init__"), defArgs (inClass (tp 10) 0), .stmts (defBody (inClass (tp 10) 0)), defScope (inClass (tp 10) 0), 0, [], .none, .none, .none, .none, none, .none, .none, 0⟩, #[]⟩
noncomputable def o206 (P : Params) : Obj := ⟨(.type "code"), none, .fields #[(.str (.ofString "__init__") 425), (.str (.ofString "TooMany.__init__") 426), (.str (.ofString "/claim/cut.py") 427), (.int 49 0), (.int 2 0), (.int 0 0), (.int 0 0), (.int 3 0), (.ref 187), (.bool true), (.int 181 0), (.ref 188), .none, (.ref 189), (.ref 190), (.ref 191), (.int 430 0), (.int 49 0), (.str (.ofString "/claim/cut.py") 431)], #[]⟩
noncomputable def o207 (P : Params) : Obj := ⟨(.type "function"), none, .func ⟨(.ofString "__init__"), (.ofString "TooMany.__init__"), defArgs (inClass (tp 10) 0), .stmts (defBody (inClass (tp 10) 0)), defScope (inClass (tp 10) 0), 3, [], .none, .none, .none, (.str (.ofString "gridlanes.errors") 187), none, (.ref 192), .none, 0⟩, #[]⟩
noncomputable def o208 (P : Params) : Obj := ⟨(.type "tuple"), none, .seq #[(.str (.ofString "most") 433)] 0, #[]⟩
noncomputable def o209 (P : Params) : Obj := ⟨(.type "dict"), none, .dict #[⟨PyData.keyHash P (.ofString "__module__"), (.str (.ofString "__module__") 420), (.str (.ofString "gridlanes.errors") 187)⟩, ⟨PyData.keyHash P (.ofString "__firstlineno__"), (.str (.ofString "__firstlineno__") 424), (.int 47 423)⟩, ⟨PyData.keyHash P (.ofString "__init__"), (.str (.ofString "__init__") 432), (.ref 193)⟩, ⟨PyData.keyHash P (.ofString "__static_attributes__"), (.str (.ofString "__static_attributes__") 434), (.ref 194)⟩, ⟨PyData.keyHash P (.ofString "__doc__"), (.str (.ofString "__doc__") 435), .none⟩] 2, #[]⟩
noncomputable def o210 (P : Params) : Obj := ⟨(.type "type"), none, .cls ⟨(.ofString "TooMany"), [(.ref 24)], [(.ref 196), (.ref 24), (.type "ValueError"), (.type "Exception"), (.type "BaseException"), (.type "object")], 195, (.ofString "TooMany"), true, [], [], false, none, false⟩, #[(some (.ref 180)), none, (some (.str (.ofString "TooMany") 413)), (some (.str (.ofString "TooMany") 421)), (some (.builtin "ValueError.__new__")), (some (.bool true))]⟩
noncomputable def o211 (P : Params) : Obj := ⟨(.type "super"), none, .fields #[(.ref 196), (.ref 196), (.ref 196)], #[]⟩
noncomputable def o212 (P : Params) : Obj := ⟨(.type "builtin_function_or_method"), none, .fields #[(.builtin "object.__init_subclass__"), (.ref 196)], #[]⟩
noncomputable def t6 (P : Params) : BT := (.node (o0 P) (.node (o1 P) (.node (o172 P) (.node (o7 P) (.node (o17 P) (.node (o33 P) (.node (o68 P) (.node (o138 P) .nil .nil) (.node (o205 P) .nil .nil)) (.node (o103 P) (.node (o170 P) .nil .nil) .nil)) (.node (o52 P) (.node (o84 P) (.node (o154 P) .nil .nil) .nil) (.node (o119 P) (.node (o189 P) .nil .nil) .nil))) (.node (o25 P) (.node (o41 P) (.node (o76 P) (.node (o146 P) .nil .nil) .nil) (.node (o111 P) (.node (o181 P) .nil .nil) .nil)) (.node (o60 P) (.node (o95 P) (.node (o162 P) .nil .nil) .nil) (.node (o127 P) (.node (o197 P) .nil .nil) .nil)))) (.node (o11 P) (.node (o21 P) (.node (o37 P) (.node (o72 P) (.node (o142 P) .nil .nil) (.node (o209 P) .nil .nil)) (.node (o107 P) (.node (o177 P) .nil .nil) .nil)) (.node (o56 P) (.node (o88 P) (.node (o158 P) .nil .nil) .nil) (.node (o123 P) (.node (o193 P) .nil .nil) .nil))) (.node (o29 P) (.node (o45 P) (.node (o80 P) (.node (o150 P) .nil .nil) .nil) (.node (o115 P) (.node (o185 P) .nil .nil) .nil)) (.node (o64 P) (.node (o99 P) (.node (o166 P) .nil .nil) .nil) (.node (o134 P) (.node (o201 P) .nil .nil) .nil))))) (.node (o5 P) (.node (o9 P) (.node (o19 P) (.node (o35 P) (.node (o70 P) (.node (o140 P) .nil .nil) (.node (o207 P) .nil .nil)) (.node (o105 P) (.node (o175 P) .nil .nil) .nil)) (.node (o54 P) (.node (o86 P) (.node (o156 P) .nil .nil) .nil) (.node (o121 P) (.node (o191 P) .nil .nil) .nil))) (.node (o27 P) (.node (o43 P) (.node (o78 P) (.node (o148 P) .nil .nil) .nil) (.node (o113 P) (.node (o183 P) .nil .nil) .nil)) (.node (o62 P) (.node (o97 P) (.node (o164 P) .nil .nil) .nil) (.node (o129 P) (.node (o199 P) .nil .nil) .nil)))) (.node (o13 P) (.node (o23 P) (.node (o39 P) (.node (o74 P) (.node (o144 P) .nil .nil) (.node (o211 P) .nil .nil)) (.node (o109 P) (.node (o179 P) .nil .nil) .nil)) (.node (o58 P) (.node (o93 P) (.node (o160 P) .nil .nil) .nil) (.node (o125 P) (.node (o195 P) .nil .nil) .nil))) (.node (o31 P) (.node (o47 P) (.node (o82 P) (.node (o152 P) .nil .nil) .nil) (.node (o117 P) (.node (o187 P) .nil .nil) .nil)) (.node (o66 P) (.node (o101 P) (.node (o168 P) .nil .nil) .nil) (.node (o136 P) (.node (o203 P) .nil .nil) .nil)))))) (.node (o2 P) (.node (o4 P) (.node (o8 P) (.node (o18 P) (.node (o34 P) (.node (o69 P) (.node (o139 P) .nil .nil) (.node (o206 P) .nil .nil)) (.node (o104 P) (.node (o171 P) .nil .nil) .nil)) (.node (o53 P) (.node (o85 P) (.node (o155 P) .nil .nil) .nil) (.node (o120 P) (.node (o190 P) .nil .nil) .nil))) (.node (o174 P) (.node (o42 P) (.node (o77 P) (.node (o147 P) .nil .nil) .nil) (.node (o112 P) (.node (o182 P) .nil .nil) .nil)) (.node (o61 P) (.node (o96 P) (.node (o163 P) .nil .nil) .nil) (.node (o128 P) (.node (o198 P) .nil .nil) .nil)))) (.node (o173 P) (.node (o22 P) (.node (o38 P) (.node (o73 P) (.node (o143 P) .nil .nil) (.node (o210 P) .nil .nil)) (.node (o108 P) (.node (o178 P) .nil .nil) .nil)) (.node (o57 P) (.node (o89 P) (.node (o159 P) .nil .nil) .nil) (.node (o124 P) (.node (o194 P) .nil .nil) .nil))) (.node (o30 P) (.node (o46 P) (.node (o81 P) (.node (o151 P) .nil .nil) .nil) (.node (o116 P) (.node (o186 P) .nil .nil) .nil)) (.node (o65 P) (.node (o100 P) (.node (o167 P) .nil .nil) .nil) (.node (o135 P) (.node (o202 P) .nil .nil) .nil))))) (.node (o6 P) (.node (o10 P) (.node (o20 P) (.node (o36 P) (.node (o71 P) (.node (o141 P) .nil .nil) (.node (o208 P) .nil .nil)) (.node (o106 P) (.node (o176 P) .nil .nil) .nil)) (.node (o55 P) (.node (o87 P) (.node (o157 P) .nil .nil) .nil) (.node (o122 P) (.node (o192 P) .nil .nil) .nil))) (.node (o28 P) (.node (o44 P) (.node (o79 P) (.node (o149 P) .nil .nil) .nil) (.node (o114 P) (.node (o184 P) .nil .nil) .nil)) (.node (o63 P) (.node (o98 P) (.node (o165 P) .nil .nil) .nil) (.node (o130 P) (.node (o200 P) .nil .nil) .nil)))) (.node (o14 P) (.node (o24 P) (.node (o40 P) (.node (o75 P) (.node (o145 P) .nil .nil) (.node (o212 P) .nil .nil)) (.node (o110 P) (.node (o180 P) .nil .nil) .nil)) (.node (o59 P) (.node (o94 P) (.node (o161 P) .nil .nil) .nil) (.node (o126 P) (.node (o196 P) .nil .nil) .nil))) (.node (o32 P) (.node (o48 P) (.node (o83 P) (.node (o153 P) .nil .nil) .nil) (.node (o118 P) (.node (o188 P) .nil .nil) .nil)) (.node (o67 P) (.node (o102 P) (.node (o169 P) .nil .nil) .nil) (.node (o137 P) (.node (o204 P) .nil .nil) .nil)))))))
noncomputable def s6 (P : Params) (os : OsState) : SharedT := ⟨t6 P, 199, {}, #[], boot_drawn, 438, os⟩
noncomputable def o213 (P : Params) : Obj := ⟨(.type "dict"), none, .dict #[⟨PyData.keyHash P (.ofString "__name__"), (.str (.ofString "__name__") 165), (.str (.ofString "gridlanes.errors") 187)⟩, ⟨PyData.keyHash P (.ofString "__doc__"), (.str (.ofString "__doc__") 166), .none⟩, ⟨PyData.keyHash P (.ofString "__package__"), (.str (.ofString "__package__") 167), .none⟩, ⟨PyData.keyHash P (.ofString "__loader__"), (.str (.ofString "__loader__") 168), (.builtin "__main__.__loader__#opaque")⟩, ⟨PyData.keyHash P (.ofString "__spec__"), (.str (.ofString "__spec__") 169), .none⟩, ⟨PyData.keyHash P (.ofString "__annotations__"), (.str (.ofString "__annotations__") 170), (.ref 6)⟩, ⟨PyData.keyHash P (.ofString "__builtins__"), (.str (.ofString "__builtins__") 171), (.ref 4)⟩, ⟨PyData.keyHash P (.ofString "__file__"), (.str (.ofString "__file__") 173), (.str (.ofString "/claim/cut.py") 172)⟩, ⟨PyData.keyHash P (.ofString "__cached__"), (.str (.ofString "__cached__") 174), .none⟩, ⟨PyData.keyHash P (.ofString "LaneError"), (.str (.ofString "LaneError") 206), (.ref 24)⟩, ⟨PyData.keyHash P (.ofString "NoNumber"), (.str (.ofString "NoNumber") 231), (.ref 44)⟩, ⟨PyData.keyHash P (.ofString "NoContent"), (.str (.ofString "NoContent") 258), (.ref 63)⟩, ⟨PyData.keyHash P (.ofString "NoGrid"), (.str (.ofString "NoGrid") 285), (.ref 82)⟩, ⟨PyData.keyHash P (.ofString "NoItem"), (.str (.ofString "NoItem") 310), (.ref 101)⟩, ⟨PyData.keyHash P (.ofString "NoPage"), (.str (.ofString "NoPage") 337), (.ref 120)⟩, ⟨PyData.keyHash P (.ofString "ManyLanes"), (.str (.ofString "ManyLanes") 362), (.ref 139)⟩, ⟨PyData.keyHash P (.ofString "NoPath"), (.str (.ofString "NoPath") 387), (.ref 158)⟩, ⟨PyData.keyHash P (.ofString "NoRange"), (.str (.ofString "NoRange") 412), (.ref 177)⟩, ⟨PyData.keyHash P (.ofString "TooMany"), (.str (.ofString "TooMany") 437), (.ref 196)⟩, ⟨PyData.keyHash P (.ofString "NoWish"), (.str (.ofString "NoWish") 462), (.ref 215)⟩, ⟨PyData.keyHash P (.ofString "OtherBoxes"), (.str (.ofString "OtherBoxes") 489), (.ref 234)⟩] 21, #[]⟩
noncomputable def o214 (P : Params) : Obj := ⟨.none, none, .fields #[(.int 2 0), (.int 0 0), (.ref 20), (.int 4 0), (.int 0 0), (.ref 33), (.int 9 0), (.int 0 0), (.ref 52), (.int 15 0), (.int 0 0), (.ref 71), (.int 21 0), (.int 0 0), (.ref 90), (.int 26 0), (.int 0 0), (.ref 109), (.int 32 0), (.int 0 0), (.ref 128), (.int 37 0), (.int 0 0), (.ref 147), (.int 42 0), (.int 0 0), (.ref 166), (.int 47 0), (.int 0 0), (.ref 185), (.int 52 0), (.int 0 0), (.ref 204), (.int 57 0), (.int 0 0), (.ref 223)], #[]⟩
noncomputable def o215 (P : Params) : Obj := ⟨(.type "type"), none, .cls ⟨(.ofString "LaneError"), [(.type "ValueError")], [(.ref 24), (.type "ValueError"), (.type "Exception"), (.type "BaseException"), (.type "object")], 23, (.ofString "LaneError"), true, [], [(.ref 44), (.ref 63), (.ref 82), (.ref 101), (.ref 120), (.ref 139), (.ref 158), (.ref 177), (.ref 196), (.ref 215), (.ref 234)], false, none, false⟩, #[(some (.ref 15)), none, (some (.str (.ofString "LaneError") 189)), (some (.str (.ofString "LaneError") 197)), (some (.builtin "ValueError.__new__")), (some (.bool true))]⟩
noncomputable def o216 (P : Params) : Obj := ⟨(.type "tuple"), none, .seq #[(.ref 24)] 0, #[]⟩
noncomputable def o217 (P : Params) : Obj := ⟨(.type "builtin_function_or_method"), none, .fields #[(.builtin "type.__prepare__"), (.type "type")], #[]⟩
noncomputable def o218 (P : Params) : Obj := ⟨(.type "dict"), none, .dict #[⟨PyData.keyHash P (.ofString "__module__"), (.str (.ofString "__module__") 445), (.str (.ofString "gridlanes.errors") 187)⟩, ⟨PyData.keyHash P (.ofString "__qualname__"), (.str (.ofString "__qualname__") 447), (.str (.ofString "NoWish") 446)⟩, ⟨PyData.keyHash P (.ofString "__firstlineno__"), (.str (.ofString "__firstlineno__") 449), (.int 52 448)⟩, ⟨PyData.keyHash P (.ofString "__init__"), (.str (.ofString "__init__") 457), (.ref 212)⟩, ⟨PyData.keyHash P (.ofString "__static_attributes__"), (.str (.ofString "__static_attributes__") 459), (.ref 213)⟩] 5, #[]⟩
noncomputable def o219 (P : Params) : Obj := ⟨(.type "tuple"), none, .seq #[] 0, #[]⟩
noncomputable def o220 (P : Params) : Obj := ⟨.none, none, .fields #[(.int 54 0), (.int 4 0), (.ref 211)], #[]⟩
noncomputable def o221 (P : Params) : Obj := ⟨(.type "code"), none, .fields #[(.str (.ofString "NoWish") 440), (.str (.ofString "NoWish") 441), (.str (.ofString "/claim/cut.py") 442), (.int 52 0), (.int 0 0), (.int 0 0), (.int 0 0), (.int 0 0), (.ref 202), (.bool false), (.int 181 0), (.ref 203), .none, .none, .none, .none, (.int 443 0), (.int 52 0), (.str (.ofString "/claim/cut.py") 444)], #[]⟩
noncomputable def o222 (P : Params) : Obj := ⟨(.type "frame"), none, .plain, #[(some (.ref 204)), (some (.ref 3)), (some (.ref 201)), none, (some (.str (.ofString "gridlanes.errors") 187)), none, (some (.ref 0))]⟩
noncomputable def o223 (P : Params) : Obj := ⟨(.type "tuple"), none, .seq #[] 0, #[]⟩
noncomputable def o224 (P : Params) : Obj := ⟨.none, none, .fields #[], #[]⟩
noncomputable def o225 (P : Params) : Obj := ⟨(.type "tuple"), none, .seq #[(.str (.ofString "self") 453), (.str (.ofString "wish") 454)] 0, #[]⟩
noncomputable def o226 (P : Params) : Obj := ⟨(.type "tuple"), none, .seq #[] 0, #[]⟩
noncomputable def o227 (P : Params) : Obj := ⟨.none, none, .func ⟨(.ofString "__init__"), (.ofString "NoWish.__init__"), defArgs (inClass (tp 11) 0), .stmts (defBody (inClass (tp 11) 0)), defScope (inClass (tp 11) 0), 0, [], .none, .none, .none, .none, none, .none, .none, 0⟩, #[]⟩
noncomputable def o228 (P : Params) : Obj := ⟨(.type "code"), none, .fields #[(.str (.ofString "__init__") 450), (.str (.ofString "NoWish.__init__") 451), (.str (.ofString "/claim/cut.py") 452), (.int 54 0), (.int 2 0), (.int 0 0), (.int 0 0), (.int 3 0), (.ref 206), (.bool true), (.int 181 0), (.ref 207), .none, (.ref 208), (.ref 209), (.ref 210), (.int 455 0), (.int 54 0), (.str (.ofString "/claim/cut.py") 456)], #[]⟩
noncomputable def o229 (P : Params) : Obj := ⟨(.type "function"), none, .func ⟨(.ofString "__init__"), (.ofString "NoWish.__init__"), defArgs (inClass (tp 11) 0), .stmts (defBody (inClass (tp 11) 0)), defScope (inClass (tp 11) 0), 3, [], .none, .none, .none, (.str (.ofString "gridlanes.errors") 187), none, (.ref 211), .none, 0⟩, #[]⟩
noncomputable def o230 (P : Params) : Obj := ⟨(.type "tuple"), none, .seq #[(.str (.ofString "wish") 458)] 0, #[]⟩
noncomputable def o231 (P : Params) : Obj := ⟨(.type "dict"), none, .dict #[⟨PyData.keyHash P (.ofString "__module__"), (.str (.ofString "__module__") 445), (.str (.ofString "gridlanes.errors") 187)⟩, ⟨PyData.keyHash P (.ofString "__firstlineno__"), (.str (.ofString "__firstlineno__") 449), (.int 52 448)⟩, ⟨PyData.keyHash P (.ofString "__init__"), (.str (.ofString "__init__") 457), (.ref 212)⟩, ⟨PyData.keyHash P (.ofString "__static_attributes__"), (.str (.ofString "__static_attributes__") 459), (.ref 213)⟩, ⟨PyData.keyHash P (.ofString "__doc__"), (.str (.ofString "__doc__") 460), .none⟩] 2, #[]⟩
noncomputable def o232 (P : Params) : Obj := ⟨(.type "type"), none, .cls ⟨(.ofString "NoWish"), [(.ref 24)], [(.ref 215), (.ref 24), (.type "ValueError"), (.type "Exception"), (.type "BaseException"), (.type "object")], 214, (.ofString "NoWish"), true, [], [], false, none, false⟩, #[(some (.ref 199)), none, (some (.str (.ofString "NoWish") 438)), (some (.str (.ofString "NoWish") 446)), (some (.builtin "ValueError.__new__")), (some (.bool true))]⟩
noncomputable def o233 (P : Params) : Obj := ⟨(.type "super"), none, .fields #[(.ref 215), (.ref 215), (.ref 215)], #[]⟩
noncomputable def o234 (P : Params) : Obj := ⟨(.type "builtin_function_or_method"), none, .fields #[(.builtin "object.__init_subclass__"), (.ref 215)], #[]⟩
noncomputable def o235 (P : Params) : Obj := ⟨(.type "tuple"), none, .seq #[(.ref 24)] 0, #[]⟩
noncomputable def o236 (P : Params) : Obj := ⟨(.type "builtin_function_or_method"), none, .fields #[(.builtin "type.__prepare__"), (.type "type")], #[]⟩
noncomputable def o237 (P : Params) : Obj := ⟨(.type "dict"), none, .dict #[⟨PyData.keyHash P (.ofString "__module__"), (.str (.ofString "__module__") 470), (.str (.ofString "gridlanes.errors") 187)⟩, ⟨PyData.keyHash P (.ofString "__qualname__"), (.str (.ofString "__qualname__") 472), (.str (.ofString "OtherBoxes") 471)⟩, ⟨PyData.keyHash P (.ofString "__firstlineno__"), (.str (.ofString "__firstlineno__") 474), (.int 57 473)⟩, ⟨PyData.keyHash P (.ofString "__init__"), (.str (.ofString "__init__") 483), (.ref 231)⟩, ⟨PyData.keyHash P (.ofString "__static_attributes__"), (.str (.ofString "__static_attributes__") 486), (.ref 232)⟩] 5, #[]⟩
noncomputable def o238 (P : Params) : Obj := ⟨(.type "tuple"), none, .seq #[] 0, #[]⟩
noncomputable def o239 (P : Params) : Obj := ⟨.none, none, .fields #[(.int 59 0), (.int 4 0), (.ref 230)], #[]⟩
noncomputable def o240 (P : Params) : Obj := ⟨(.type "code"), none, .fields #[(.str (.ofString "OtherBoxes") 465), (.str (.ofString "OtherBoxes") 466), (.str (.ofString "/claim/cut.py") 467), (.int 57 0), (.int 0 0), (.int 0 0), (.int 0 0), (.int 0 0), (.ref 221), (.bool false), (.int 181 0), (.ref 222), .none, .none, .none, .none, (.int 468 0), (.int 57 0), (.str (.ofString "/claim/cut.py") 469)], #[]⟩
noncomputable def o241 (P : Params) : Obj := ⟨(.type "frame"), none, .plain, #[(some (.ref 223)), (some (.ref 3)), (some (.ref 220)), none, (some (.str (.ofString "gridlanes.errors") 187)), none, (some (.ref 0))]⟩
noncomputable def o242 (P : Params) : Obj := ⟨(.type "tuple"), none, .seq #[] 0, #[]⟩
noncomputable def o243 (P : Params) : Obj := ⟨.none, none, .fields #[], #[]⟩
noncomputable def o244 (P : Params) : Obj := ⟨(.type "tuple"), none, .seq #[(.str (.ofString "self") 478), (.str (.ofString "one") 479), (.str (.ofString "other") 480)] 0, #[]⟩
noncomputable def o245 (P : Params) : Obj := ⟨(.type "tuple"), none, .seq #[] 0, #[]⟩
noncomputable def o246 (P : Params) : Obj := ⟨.none, none, .func ⟨(.ofString "__init__"), (.ofString "OtherBoxes.__init__"), defArgs (inClass (tp 12) 0), .stmts (defBody (inClass (tp 12) 0)), defScope (inClass (tp 12) 0), 0, [], .none, .none, .none, .none, none, .none, .none, 0⟩, #[]⟩
noncomputable def o247 (P : Params) : Obj := ⟨(.type "code"), none, .fields #[(.str (.ofString "__init__") 475), (.str (.ofString "OtherBoxes.__init__") 476), (.str (.ofString "/claim/cut.py") 477), (.int 59 0), (.int 3 0), (.int 0 0), (.int 0 0), (.int 3 0), (.ref 225), (.bool true), (.int 181 0), (.ref 226), .none, (.ref 227), (.ref 228), (.ref 229), (.int 481 0), (.int 59 0), (.str (.ofString "/claim/cut.py") 482)], #[]⟩
noncomputable def o248 (P : Params) : Obj := ⟨(.type "function"), none, .func ⟨(.ofString "__init__"), (.ofString "OtherBoxes.__init__"), defArgs (inClass (tp 12) 0), .stmts (defBody (inClass (tp 12) 0)), defScope (inClass (tp 12) 0), 3, [], .none, .none, .none, (.str (.ofString "gridlanes.errors") 187), none, (.ref 230), .none, 0⟩, #[]⟩
noncomputable def o249 (P : Params) : Obj := ⟨(.type "tuple"), none, .seq #[(.str (.ofString "one") 484), (.str (.ofString "other") 485)] 0, #[]⟩
noncomputable def o250 (P : Params) : Obj := ⟨(.type "dict"), none, .dict #[⟨PyData.keyHash P (.ofString "__module__"), (.str (.ofString "__module__") 470), (.str (.ofString "gridlanes.errors") 187)⟩, ⟨PyData.keyHash P (.ofString "__firstlineno__"), (.str (.ofString "__firstlineno__") 474), (.int 57 473)⟩, ⟨PyData.keyHash P (.ofString "__init__"), (.str (.ofString "__init__") 483), (.ref 231)⟩, ⟨PyData.keyHash P (.ofString "__static_attributes__"), (.str (.ofString "__static_attributes__") 486), (.ref 232)⟩, ⟨PyData.keyHash P (.ofString "__doc__"), (.str (.ofString "__doc__") 487), .none⟩] 2, #[]⟩
noncomputable def o251 (P : Params) : Obj := ⟨(.type "type"), none, .cls ⟨(.ofString "OtherBoxes"), [(.ref 24)], [(.ref 234), (.ref 24), (.type "ValueError"), (.type "Exception"), (.type "BaseException"), (.type "object")], 233, (.ofString "OtherBoxes"), true, [], [], false, none, false⟩, #[(some (.ref 218)), none, (some (.str (.ofString "OtherBoxes") 463)), (some (.str (.ofString "OtherBoxes") 471)), (some (.builtin "ValueError.__new__")), (some (.bool true))]⟩
noncomputable def o252 (P : Params) : Obj := ⟨(.type "super"), none, .fields #[(.ref 234), (.ref 234), (.ref 234)], #[]⟩
noncomputable def o253 (P : Params) : Obj := ⟨(.type "builtin_function_or_method"), none, .fields #[(.builtin "object.__init_subclass__"), (.ref 234)], #[]⟩
noncomputable def t7 (P : Params) : BT := (.node (o0 P) (.node (o1 P) (.node (o213 P) (.node (o7 P) (.node (o17 P) (.node (o33 P) (.node (o68 P) (.node (o138 P) .nil .nil) (.node (o205 P) .nil .nil)) (.node (o103 P) (.node (o170 P) .nil .nil) (.node (o240 P) .nil .nil))) (.node (o52 P) (.node (o84 P) (.node (o154 P) .nil .nil) (.node (o224 P) .nil .nil)) (.node (o119 P) (.node (o189 P) .nil .nil) .nil))) (.node (o25 P) (.node (o41 P) (.node (o76 P) (.node (o146 P) .nil .nil) (.node (o216 P) .nil .nil)) (.node (o111 P) (.node (o181 P) .nil .nil) (.node (o248 P) .nil .nil))) (.node (o60 P) (.node (o95 P) (.node (o162 P) .nil .nil) (.node (o232 P) .nil .nil)) (.node (o127 P) (.node (o197 P) .nil .nil) .nil)))) (.node (o11 P) (.node (o21 P) (.node (o37 P) (.node (o72 P) (.node (o142 P) .nil .nil) (.node (o209 P) .nil .nil)) (.node (o107 P) (.node (o177 P) .nil .nil) (.node (o244 P) .nil .nil))) (.node (o56 P) (.node (o88 P) (.node (o158 P) .nil .nil) (.node (o228 P) .nil .nil)) (.node (o123 P) (.node (o193 P) .nil .nil) .nil))) (.node (o29 P) (.node (o45 P) (.node (o80 P) (.node (o150 P) .nil .nil) (.node (o220 P) .nil .nil)) (.node (o115 P) (.node (o185 P) .nil .nil) (.node (o252 P) .nil .nil))) (.node (o64 P) (.node (o99 P) (.node (o166 P) .nil .nil) (.node (o236 P) .nil .nil)) (.node (o134 P) (.node (o201 P) .nil .nil) .nil))))) (.node (o5 P) (.node (o9 P) (.node (o19 P) (.node (o35 P) (.node (o70 P) (.node (o140 P) .nil .nil) (.node (o207 P) .nil .nil)) (.node (o105 P) (.node (o175 P) .nil .nil) (.node (o242 P) .nil .nil))) (.node (o54 P) (.node (o86 P) (.node (o156 P) .nil .nil) (.node (o226 P) .nil .nil)) (.node (o121 P) (.node (o191 P) .nil .nil) .nil))) (.node (o27 P) (.node (o43 P) (.node (o78 P) (.node (o148 P) .nil .nil) (.node (o218 P) .nil .nil)) (.node (o113 P) (.node (o183 P) .nil .nil) (.node (o250 P) .nil .nil))) (.node (o62 P) (.node (o97 P) (.node (o164 P) .nil .nil) (.node (o234 P) .nil .nil)) (.node (o129 P) (.node (o199 P) .nil .nil) .nil)))) (.node (o13 P) (.node (o23 P) (.node (o39 P) (.node (o74 P) (.node (o144 P) .nil .nil) (.node (o211 P) .nil .nil)) (.node (o109 P) (.node (o179 P) .nil .nil) (.node (o246 P) .nil .nil))) (.node (o58 P) (.node (o93 P) (.node (o160 P) .nil .nil) (.node (o230 P) .nil .nil)) (.node (o125 P) (.node (o195 P) .nil .nil) .nil))) (.node (o31 P) (.node (o47 P) (.node (o82 P) (.node (o152 P) .nil .nil) (.node (o222 P) .nil .nil)) (.node (o117 P) (.node (o187 P) .nil .nil) .nil)) (.node (o66 P) (.node (o101 P) (.node (o168 P) .nil .nil) (.node (o238 P) .nil .nil)) (.node (o136 P) (.node (o203 P) .nil .nil) .nil)))))) (.node (o2 P) (.node (o4 P) (.node (o8 P) (.node (o18 P) (.node (o34 P) (.node (o69 P) (.node (o139 P) .nil .nil) (.node (o206 P) .nil .nil)) (.node (o104 P) (.node (o171 P) .nil .nil) (.node (o241 P) .nil .nil))) (.node (o53 P) (.node (o85 P) (.node (o155 P) .nil .nil) (.node (o225 P) .nil .nil)) (.node (o120 P) (.node (o190 P) .nil .nil) .nil))) (.node (o215 P) (.node (o42 P) (.node (o77 P) (.node (o147 P) .nil .nil) (.node (o217 P) .nil .nil)) (.node (o112 P) (.node (o182 P) .nil .nil) (.node (o249 P) .nil .nil))) (.node (o61 P) (.node (o96 P) (.node (o163 P) .nil .nil) (.node (o233 P) .nil .nil)) (.node (o128 P) (.node (o198 P) .nil .nil) .nil)))) (.node (o214 P) (.node (o22 P) (.node (o38 P) (.node (o73 P) (.node (o143 P) .nil .nil) (.node (o210 P) .nil .nil)) (.node (o108 P) (.node (o178 P) .nil .nil) (.node (o245 P) .nil .nil))) (.node (o57 P) (.node (o89 P) (.node (o159 P) .nil .nil) (.node (o229 P) .nil .nil)) (.node (o124 P) (.node (o194 P) .nil .nil) .nil))) (.node (o30 P) (.node (o46 P) (.node (o81 P) (.node (o151 P) .nil .nil) (.node (o221 P) .nil .nil)) (.node (o116 P) (.node (o186 P) .nil .nil) (.node (o253 P) .nil .nil))) (.node (o65 P) (.node (o100 P) (.node (o167 P) .nil .nil) (.node (o237 P) .nil .nil)) (.node (o135 P) (.node (o202 P) .nil .nil) .nil))))) (.node (o6 P) (.node (o10 P) (.node (o20 P) (.node (o36 P) (.node (o71 P) (.node (o141 P) .nil .nil) (.node (o208 P) .nil .nil)) (.node (o106 P) (.node (o176 P) .nil .nil) (.node (o243 P) .nil .nil))) (.node (o55 P) (.node (o87 P) (.node (o157 P) .nil .nil) (.node (o227 P) .nil .nil)) (.node (o122 P) (.node (o192 P) .nil .nil) .nil))) (.node (o28 P) (.node (o44 P) (.node (o79 P) (.node (o149 P) .nil .nil) (.node (o219 P) .nil .nil)) (.node (o114 P) (.node (o184 P) .nil .nil) (.node (o251 P) .nil .nil))) (.node (o63 P) (.node (o98 P) (.node (o165 P) .nil .nil) (.node (o235 P) .nil .nil)) (.node (o130 P) (.node (o200 P) .nil .nil) .nil)))) (.node (o14 P) (.node (o24 P) (.node (o40 P) (.node (o75 P) (.node (o145 P) .nil .nil) (.node (o212 P) .nil .nil)) (.node (o110 P) (.node (o180 P) .nil .nil) (.node (o247 P) .nil .nil))) (.node (o59 P) (.node (o94 P) (.node (o161 P) .nil .nil) (.node (o231 P) .nil .nil)) (.node (o126 P) (.node (o196 P) .nil .nil) .nil))) (.node (o32 P) (.node (o48 P) (.node (o83 P) (.node (o153 P) .nil .nil) (.node (o223 P) .nil .nil)) (.node (o118 P) (.node (o188 P) .nil .nil) .nil)) (.node (o67 P) (.node (o102 P) (.node (o169 P) .nil .nil) (.node (o239 P) .nil .nil)) (.node (o137 P) (.node (o204 P) .nil .nil) .nil)))))))
noncomputable def s7 (P : Params) (os : OsState) : SharedT := ⟨t7 P, 237, {}, #[], boot_drawn, 490, os⟩
noncomputable def o254 (P : Params) : Obj := ⟨(.type "dict"), none, .dict #[⟨PyData.keyHash P (.ofString "__name__"), (.str (.ofString "__name__") 165), (.str (.ofString "gridlanes.errors") 187)⟩, ⟨PyData.keyHash P (.ofString "__doc__"), (.str (.ofString "__doc__") 166), .none⟩, ⟨PyData.keyHash P (.ofString "__package__"), (.str (.ofString "__package__") 167), .none⟩, ⟨PyData.keyHash P (.ofString "__loader__"), (.str (.ofString "__loader__") 168), (.builtin "__main__.__loader__#opaque")⟩, ⟨PyData.keyHash P (.ofString "__spec__"), (.str (.ofString "__spec__") 169), .none⟩, ⟨PyData.keyHash P (.ofString "__annotations__"), (.str (.ofString "__annotations__") 170), (.ref 6)⟩, ⟨PyData.keyHash P (.ofString "__builtins__"), (.str (.ofString "__builtins__") 171), (.ref 4)⟩, ⟨PyData.keyHash P (.ofString "__file__"), (.str (.ofString "__file__") 173), (.str (.ofString "/claim/cut.py") 172)⟩, ⟨PyData.keyHash P (.ofString "__cached__"), (.str (.ofString "__cached__") 174), .none⟩, ⟨PyData.keyHash P (.ofString "LaneError"), (.str (.ofString "LaneError") 206), (.ref 24)⟩, ⟨PyData.keyHash P (.ofString "NoNumber"), (.str (.ofString "NoNumber") 231), (.ref 44)⟩, ⟨PyData.keyHash P (.ofString "NoContent"), (.str (.ofString "NoContent") 258), (.ref 63)⟩, ⟨PyData.keyHash P (.ofString "NoGrid"), (.str (.ofString "NoGrid") 285), (.ref 82)⟩, ⟨PyData.keyHash P (.ofString "NoItem"), (.str (.ofString "NoItem") 310), (.ref 101)⟩, ⟨PyData.keyHash P (.ofString "NoPage"), (.str (.ofString "NoPage") 337), (.ref 120)⟩, ⟨PyData.keyHash P (.ofString "ManyLanes"), (.str (.ofString "ManyLanes") 362), (.ref 139)⟩, ⟨PyData.keyHash P (.ofString "NoPath"), (.str (.ofString "NoPath") 387), (.ref 158)⟩, ⟨PyData.keyHash P (.ofString "NoRange"), (.str (.ofString "NoRange") 412), (.ref 177)⟩, ⟨PyData.keyHash P (.ofString "TooMany"), (.str (.ofString "TooMany") 437), (.ref 196)⟩, ⟨PyData.keyHash P (.ofString "NoWish"), (.str (.ofString "NoWish") 462), (.ref 215)⟩, ⟨PyData.keyHash P (.ofString "OtherBoxes"), (.str (.ofString "OtherBoxes") 489), (.ref 234)⟩, ⟨PyData.keyHash P (.ofString "NoAxis"), (.str (.ofString "NoAxis") 512), (.ref 253)⟩, ⟨PyData.keyHash P (.ofString "NoArea"), (.str (.ofString "NoArea") 537), (.ref 272)⟩] 23, #[]⟩
noncomputable def o255 (P : Params) : Obj := ⟨.none, none, .fields #[(.int 2 0), (.int 0 0), (.ref 20), (.int 4 0), (.int 0 0), (.ref 33), (.int 9 0), (.int 0 0), (.ref 52), (.int 15 0), (.int 0 0), (.ref 71), (.int 21 0), (.int 0 0), (.ref 90), (.int 26 0), (.int 0 0), (.ref 109), (.int 32 0), (.int 0 0), (.ref 128), (.int 37 0), (.int 0 0), (.ref 147), (.int 42 0), (.int 0 0), (.ref 166), (.int 47 0), (.int 0 0), (.ref 185), (.int 52 0), (.int 0 0), (.ref 204), (.int 57 0), (.int 0 0), (.ref 223), (.int 63 0), (.int 0 0), (.ref 242), (.int 67 0), (.int 0 0), (.ref 261)], #[]⟩
noncomputable def o256 (P : Params) : Obj := ⟨(.type "type"), none, .cls ⟨(.ofString "LaneError"), [(.type "ValueError")], [(.ref 24), (.type "ValueError"), (.type "Exception"), (.type "BaseException"), (.type "object")], 23, (.ofString "LaneError"), true, [], [(.ref 44), (.ref 63), (.ref 82), (.ref 101), (.ref 120), (.ref 139), (.ref 158), (.ref 177), (.ref 196), (.ref 215), (.ref 234), (.ref 253), (.ref 272)], false, none, false⟩, #[(some (.ref 15)), none, (some (.str (.ofString "LaneError") 189)), (some (.str (.ofString "LaneError") 197)), (some (.builtin "ValueError.__new__")), (some (.bool true))]⟩
noncomputable def o257 (P : Params) : Obj := ⟨(.type "tuple"), none, .seq #[(.ref 24)] 0, #[]⟩
noncomputable def o258 (P : Params) : Obj := ⟨(.type "builtin_function_or_method"), none, .fields #[(.builtin "type.__prepare__"), (.type "type")], #[]⟩
noncomputable def o259 (P : Params) : Obj := ⟨(.type "dict"), none, .dict #[⟨PyData.keyHash P (.ofString "__module__"), (.str (.ofString "__module__") 497), (.str (.ofString "gridlanes.errors") 187)⟩, ⟨PyData.keyHash P (.ofString "__qualname__"), (.str (.ofString "__qualname__") 499), (.str (.ofString "NoAxis") 498)⟩, ⟨PyData.keyHash P (.ofString "__firstlineno__"), (.str (.ofString "__firstlineno__") 501), (.int 63 500)⟩, ⟨PyData.keyHash P (.ofString "__init__"), (.str (.ofString "__init__") 508), (.ref 250)⟩, ⟨PyData.keyHash P (.ofString "__static_attributes__"), (.str (.ofString "__static_attributes__") 509), (.ref 251)⟩] 5, #[]⟩
noncomputable def o260 (P : Params) : Obj := ⟨(.type "tuple"), none, .seq #[] 0, #[]⟩
noncomputable def o261 (P : Params) : Obj := ⟨.none, none, .fields #[(.int 65 0), (.int 4 0), (.ref 249)], #[]⟩
noncomputable def o262 (P : Params) : Obj := ⟨(.type "code"), none, .fields #[(.str (.ofString "NoAxis") 492), (.str (.ofString "NoAxis") 493), (.str (.ofString "/claim/cut.py") 494), (.int 63 0), (.int 0 0), (.int 0 0), (.int 0 0), (.int 0 0), (.ref 240), (.bool false), (.int 181 0), (.ref 241), .none, .none, .none, .none, (.int 495 0), (.int 63 0), (.str (.ofString "/claim/cut.py") 496)], #[]⟩
noncomputable def o263 (P : Params) : Obj := ⟨(.type "frame"), none, .plain, #[(some (.ref 242)), (some (.ref 3)), (some (.ref 239)), none, (some (.str (.ofString "gridlanes.errors") 187)), none, (some (.ref 0))]⟩
noncomputable def o264 (P : Params) : Obj := ⟨(.type "tuple"), none, .seq #[] 0, #[]⟩
noncomputable def o265 (P : Params) : Obj := ⟨.none, none, .fields #[], #[]⟩
noncomputable def o266 (P : Params) : Obj := ⟨(.type "tuple"), none, .seq #[(.str (.ofString "self") 505)] 0, #[]⟩
noncomputable def o267 (P : Params) : Obj := ⟨(.type "tuple"), none, .seq #[] 0, #[]⟩
noncomputable def o268 (P : Params) : Obj := ⟨.none, none, .func ⟨(.ofString "__init__"), (.ofString "NoAxis.__init__"), defArgs (inClass (tp 13) 0), .stmts (defBody (inClass (tp 13) 0)), defScope (inClass (tp 13) 0), 0, [], .none, .none, .none, .none, none, .none, .none, 0⟩, #[]⟩
noncomputable def o269 (P : Params) : Obj := ⟨(.type "code"), none, .fields #[(.str (.ofString "__init__") 502), (.str (.ofString "NoAxis.__init__") 503), (.str (.ofString "/claim/cut.py") 504), (.int 65 0), (.int 1 0), (.int 0 0), (.int 0 0), (.int 3 0), (.ref 244), (.bool true), (.int 181 0), (.ref 245), .none, (.ref 246), (.ref 247), (.ref 248), (.int 506 0), (.int 65 0), (.str (.ofString "/claim/cut.py") 507)], #[]⟩
noncomputable def o270 (P : Params) : Obj := ⟨(.type "function"), none, .func ⟨(.ofString "__init__"), (.ofString "NoAxis.__init__"), defArgs (inClass (tp 13) 0), .stmts (defBody (inClass (tp 13) 0)), defScope (inClass (tp 13) 0), 3, [], .none, .none, .none, (.str (.ofString "gridlanes.errors") 187), none, (.ref 249), .none, 0⟩, #[]⟩
noncomputable def o271 (P : Params) : Obj := ⟨(.type "tuple"), none, .seq #[] 0, #[]⟩
noncomputable def o272 (P : Params) : Obj := ⟨(.type "dict"), none, .dict #[⟨PyData.keyHash P (.ofString "__module__"), (.str (.ofString "__module__") 497), (.str (.ofString "gridlanes.errors") 187)⟩, ⟨PyData.keyHash P (.ofString "__firstlineno__"), (.str (.ofString "__firstlineno__") 501), (.int 63 500)⟩, ⟨PyData.keyHash P (.ofString "__init__"), (.str (.ofString "__init__") 508), (.ref 250)⟩, ⟨PyData.keyHash P (.ofString "__static_attributes__"), (.str (.ofString "__static_attributes__") 509), (.ref 251)⟩, ⟨PyData.keyHash P (.ofString "__doc__"), (.str (.ofString "__doc__") 510), .none⟩] 2, #[]⟩
noncomputable def o273 (P : Params) : Obj := ⟨(.type "type"), none, .cls ⟨(.ofString "NoAxis"), [(.ref 24)], [(.ref 253), (.ref 24), (.type "ValueError"), (.type "Exception"), (.type "BaseException"), (.type "object")], 252, (.ofString "NoAxis"), true, [], [], false, none, false⟩, #[(some (.ref 237)), none, (some (.str (.ofString "NoAxis") 490)), (some (.str (.ofString "NoAxis") 498)), (some (.builtin "ValueError.__new__")), (some (.bool true))]⟩
noncomputable def o274 (P : Params) : Obj := ⟨(.type "super"), none, .fields #[(.ref 253), (.ref 253), (.ref 253)], #[]⟩
noncomputable def o275 (P : Params) : Obj := ⟨(.type "builtin_function_or_method"), none, .fields #[(.builtin "object.__init_subclass__"), (.ref 253)], #[]⟩
noncomputable def o276 (P : Params) : Obj := ⟨(.type "tuple"), none, .seq #[(.ref 24)] 0, #[]⟩
noncomputable def o277 (P : Params) : Obj := ⟨(.type "builtin_function_or_method"), none, .fields #[(.builtin "type.__prepare__"), (.type "type")], #[]⟩
noncomputable def o278 (P : Params) : Obj := ⟨(.type "dict"), none, .dict #[⟨PyData.keyHash P (.ofString "__module__"), (.str (.ofString "__module__") 520), (.str (.ofString "gridlanes.errors") 187)⟩, ⟨PyData.keyHash P (.ofString "__qualname__"), (.str (.ofString "__qualname__") 522), (.str (.ofString "NoArea") 521)⟩, ⟨PyData.keyHash P (.ofString "__firstlineno__"), (.str (.ofString "__firstlineno__") 524), (.int 67 523)⟩, ⟨PyData.keyHash P (.ofString "__init__"), (.str (.ofString "__init__") 532), (.ref 269)⟩, ⟨PyData.keyHash P (.ofString "__static_attributes__"), (.str (.ofString "__static_attributes__") 534), (.ref 270)⟩] 5, #[]⟩
noncomputable def o279 (P : Params) : Obj := ⟨(.type "tuple"), none, .seq #[] 0, #[]⟩
noncomputable def o280 (P : Params) : Obj := ⟨.none, none, .fields #[(.int 69 0), (.int 4 0), (.ref 268)], #[]⟩
noncomputable def o281 (P : Params) : Obj := ⟨(.type "code"), none, .fields #[(.str (.ofString "NoArea") 515), (.str (.ofString "NoArea") 516), (.str (.ofString "/claim/cut.py") 517), (.int 67 0), (.int 0 0), (.int 0 0), (.int 0 0), (.int 0 0), (.ref 259), (.bool false), (.int 181 0), (.ref 260), .none, .none, .none, .none, (.int 518 0), (.int 67 0), (.str (.ofString "/claim/cut.py") 519)], #[]⟩
noncomputable def o282 (P : Params) : Obj := ⟨(.type "frame"), none, .plain, #[(some (.ref 261)), (some (.ref 3)), (some (.ref 258)), none, (some (.str (.ofString "gridlanes.errors") 187)), none, (some (.ref 0))]⟩
noncomputable def o283 (P : Params) : Obj := ⟨(.type "tuple"), none, .seq #[] 0, #[]⟩
noncomputable def o284 (P : Params) : Obj := ⟨.none, none, .fields #[], #[]⟩
noncomputable def o285 (P : Params) : Obj := ⟨(.type "tuple"), none, .seq #[(.str (.ofString "self") 528), (.str (.ofString "index") 529)] 0, #[]⟩
noncomputable def o286 (P : Params) : Obj := ⟨(.type "tuple"), none, .seq #[] 0, #[]⟩
noncomputable def o287 (P : Params) : Obj := ⟨.none, none, .func ⟨(.ofString "__init__"), (.ofString "NoArea.__init__"), defArgs (inClass (tp 14) 0), .stmts (defBody (inClass (tp 14) 0)), defScope (inClass (tp 14) 0), 0, [], .none, .none, .none, .none, none, .none, .none, 0⟩, #[]⟩
noncomputable def o288 (P : Params) : Obj := ⟨(.type "code"), none, .fields #[(.str (.ofString "__init__") 525), (.str (.ofString "NoArea.__init__") 526), (.str (.ofString "/claim/cut.py") 527), (.int 69 0), (.int 2 0), (.int 0 0), (.int 0 0), (.int 3 0), (.ref 263), (.bool true), (.int 181 0), (.ref 264), .none, (.ref 265), (.ref 266), (.ref 267), (.int 530 0), (.int 69 0), (.str (.ofString "/claim/cut.py") 531)], #[]⟩
noncomputable def o289 (P : Params) : Obj := ⟨(.type "function"), none, .func ⟨(.ofString "__init__"), (.ofString "NoArea.__init__"), defArgs (inClass (tp 14) 0), .stmts (defBody (inClass (tp 14) 0)), defScope (inClass (tp 14) 0), 3, [], .none, .none, .none, (.str (.ofString "gridlanes.errors") 187), none, (.ref 268), .none, 0⟩, #[]⟩
noncomputable def o290 (P : Params) : Obj := ⟨(.type "tuple"), none, .seq #[(.str (.ofString "index") 533)] 0, #[]⟩
noncomputable def o291 (P : Params) : Obj := ⟨(.type "dict"), none, .dict #[⟨PyData.keyHash P (.ofString "__module__"), (.str (.ofString "__module__") 520), (.str (.ofString "gridlanes.errors") 187)⟩, ⟨PyData.keyHash P (.ofString "__firstlineno__"), (.str (.ofString "__firstlineno__") 524), (.int 67 523)⟩, ⟨PyData.keyHash P (.ofString "__init__"), (.str (.ofString "__init__") 532), (.ref 269)⟩, ⟨PyData.keyHash P (.ofString "__static_attributes__"), (.str (.ofString "__static_attributes__") 534), (.ref 270)⟩, ⟨PyData.keyHash P (.ofString "__doc__"), (.str (.ofString "__doc__") 535), .none⟩] 2, #[]⟩
noncomputable def o292 (P : Params) : Obj := ⟨(.type "type"), none, .cls ⟨(.ofString "NoArea"), [(.ref 24)], [(.ref 272), (.ref 24), (.type "ValueError"), (.type "Exception"), (.type "BaseException"), (.type "object")], 271, (.ofString "NoArea"), true, [], [], false, none, false⟩, #[(some (.ref 256)), none, (some (.str (.ofString "NoArea") 513)), (some (.str (.ofString "NoArea") 521)), (some (.builtin "ValueError.__new__")), (some (.bool true))]⟩
noncomputable def o293 (P : Params) : Obj := ⟨(.type "super"), none, .fields #[(.ref 272), (.ref 272), (.ref 272)], #[]⟩
noncomputable def o294 (P : Params) : Obj := ⟨(.type "builtin_function_or_method"), none, .fields #[(.builtin "object.__init_subclass__"), (.ref 272)], #[]⟩
noncomputable def t8 (P : Params) : BT := (.node (o0 P) (.node (o1 P) (.node (o254 P) (.node (o7 P) (.node (o17 P) (.node (o33 P) (.node (o68 P) (.node (o138 P) (.node (o275 P) .nil .nil) .nil) (.node (o205 P) .nil .nil)) (.node (o103 P) (.node (o170 P) .nil .nil) (.node (o240 P) .nil .nil))) (.node (o52 P) (.node (o84 P) (.node (o154 P) (.node (o291 P) .nil .nil) .nil) (.node (o224 P) .nil .nil)) (.node (o119 P) (.node (o189 P) .nil .nil) (.node (o259 P) .nil .nil)))) (.node (o25 P) (.node (o41 P) (.node (o76 P) (.node (o146 P) (.node (o283 P) .nil .nil) .nil) (.node (o216 P) .nil .nil)) (.node (o111 P) (.node (o181 P) .nil .nil) (.node (o248 P) .nil .nil))) (.node (o60 P) (.node (o95 P) (.node (o162 P) .nil .nil) (.node (o232 P) .nil .nil)) (.node (o127 P) (.node (o197 P) .nil .nil) (.node (o267 P) .nil .nil))))) (.node (o11 P) (.node (o21 P) (.node (o37 P) (.node (o72 P) (.node (o142 P) (.node (o279 P) .nil .nil) .nil) (.node (o209 P) .nil .nil)) (.node (o107 P) (.node (o177 P) .nil .nil) (.node (o244 P) .nil .nil))) (.node (o56 P) (.node (o88 P) (.node (o158 P) .nil .nil) (.node (o228 P) .nil .nil)) (.node (o123 P) (.node (o193 P) .nil .nil) (.node (o263 P) .nil .nil)))) (.node (o29 P) (.node (o45 P) (.node (o80 P) (.node (o150 P) (.node (o287 P) .nil .nil) .nil) (.node (o220 P) .nil .nil)) (.node (o115 P) (.node (o185 P) .nil .nil) (.node (o252 P) .nil .nil))) (.node (o64 P) (.node (o99 P) (.node (o166 P) .nil .nil) (.node (o236 P) .nil .nil)) (.node (o134 P) (.node (o201 P) .nil .nil) (.node (o271 P) .nil .nil)))))) (.node (o5 P) (.node (o9 P) (.node (o19 P) (.node (o35 P) (.node (o70 P) (.node (o140 P) (.node (o277 P) .nil .nil) .nil) (.node (o207 P) .nil .nil)) (.node (o105 P) (.node (o175 P) .nil .nil) (.node (o242 P) .nil .nil))) (.node (o54 P) (.node (o86 P) (.node (o156 P) (.node (o293 P) .nil .nil) .nil) (.node (o226 P) .nil .nil)) (.node (o121 P) (.node (o191 P) .nil .nil) (.node (o261 P) .nil .nil)))) (.node (o27 P) (.node (o43 P) (.node (o78 P) (.node (o148 P) (.node (o285 P) .nil .nil) .nil) (.node (o218 P) .nil .nil)) (.node (o113 P) (.node (o183 P) .nil .nil) (.node (o250 P) .nil .nil))) (.node (o62 P) (.node (o97 P) (.node (o164 P) .nil .nil) (.node (o234 P) .nil .nil)) (.node (o129 P) (.node (o199 P) .nil .nil) (.node (o269 P) .nil .nil))))) (.node (o13 P) (.node (o23 P) (.node (o39 P) (.node (o74 P) (.node (o144 P) (.node (o281 P) .nil .nil) .nil) (.node (o211 P) .nil .nil)) (.node (o109 P) (.node (o179 P) .nil .nil) (.node (o246 P) .nil .nil))) (.node (o58 P) (.node (o93 P) (.node (o160 P) .nil .nil) (.node (o230 P) .nil .nil)) (.node (o125 P) (.node (o195 P) .nil .nil) (.node (o265 P) .nil .nil)))) (.node (o31 P) (.node (o47 P) (.node (o82 P) (.node (o152 P) (.node (o289 P) .nil .nil) .nil) (.node (o222 P) .nil .nil)) (.node (o117 P) (.node (o187 P) .nil .nil) (.node (o257 P) .nil .nil))) (.node (o66 P) (.node (o101 P) (.node (o168 P) .nil .nil) (.node (o238 P) .nil .nil)) (.node (o136 P) (.node (o203 P) .nil .nil) (.node (o273 P) .nil .nil))))))) (.node (o2 P) (.node (o4 P) (.node (o8 P) (.node (o18 P) (.node (o34 P) (.node (o69 P) (.node (o139 P) (.node (o276 P) .nil .nil) .nil) (.node (o206 P) .nil .nil)) (.node (o104 P) (.node (o171 P) .nil .nil) (.node (o241 P) .nil .nil))) (.node (o53 P) (.node (o85 P) (.node (o155 P) (.node (o292 P) .nil .nil) .nil) (.node (o225 P) .nil .nil)) (.node (o120 P) (.node (o190 P) .nil .nil) (.node (o260 P) .nil .nil)))) (.node (o256 P) (.node (o42 P) (.node (o77 P) (.node (o147 P) (.node (o284 P) .nil .nil) .nil) (.node (o217 P) .nil .nil)) (.node (o112 P) (.node (o182 P) .nil .nil) (.node (o249 P) .nil .nil))) (.node (o61 P) (.node (o96 P) (.node (o163 P) .nil .nil) (.node (o233 P) .nil .nil)) (.node (o128 P) (.node (o198 P) .nil .nil) (.node (o268 P) .nil .nil))))) (.node (o255 P) (.node (o22 P) (.node (o38 P) (.node (o73 P) (.node (o143 P) (.node (o280 P) .nil .nil) .nil) (.node (o210 P) .nil .nil)) (.node (o108 P) (.node (o178 P) .nil .nil) (.node (o245 P) .nil .nil))) (.node (o57 P) (.node (o89 P) (.node (o159 P) .nil .nil) (.node (o229 P) .nil .nil)) (.node (o124 P) (.node (o194 P) .nil .nil) (.node (o264 P) .nil .nil)))) (.node (o30 P) (.node (o46 P) (.node (o81 P) (.node (o151 P) (.node (o288 P) .nil .nil) .nil) (.node (o221 P) .nil .nil)) (.node (o116 P) (.node (o186 P) .nil .nil) (.node (o253 P) .nil .nil))) (.node (o65 P) (.node (o100 P) (.node (o167 P) .nil .nil) (.node (o237 P) .nil .nil)) (.node (o135 P) (.node (o202 P) .nil .nil) (.node (o272 P) .nil .nil)))))) (.node (o6 P) (.node (o10 P) (.node (o20 P) (.node (o36 P) (.node (o71 P) (.node (o141 P) (.node (o278 P) .nil .nil) .nil) (.node (o208 P) .nil .nil)) (.node (o106 P) (.node (o176 P) .nil .nil) (.node (o243 P) .nil .nil))) (.node (o55 P) (.node (o87 P) (.node (o157 P) (.node (o294 P) .nil .nil) .nil) (.node (o227 P) .nil .nil)) (.node (o122 P) (.node (o192 P) .nil .nil) (.node (o262 P) .nil .nil)))) (.node (o28 P) (.node (o44 P) (.node (o79 P) (.node (o149 P) (.node (o286 P) .nil .nil) .nil) (.node (o219 P) .nil .nil)) (.node (o114 P) (.node (o184 P) .nil .nil) (.node (o251 P) .nil .nil))) (.node (o63 P) (.node (o98 P) (.node (o165 P) .nil .nil) (.node (o235 P) .nil .nil)) (.node (o130 P) (.node (o200 P) .nil .nil) (.node (o270 P) .nil .nil))))) (.node (o14 P) (.node (o24 P) (.node (o40 P) (.node (o75 P) (.node (o145 P) (.node (o282 P) .nil .nil) .nil) (.node (o212 P) .nil .nil)) (.node (o110 P) (.node (o180 P) .nil .nil) (.node (o247 P) .nil .nil))) (.node (o59 P) (.node (o94 P) (.node (o161 P) .nil .nil) (.node (o231 P) .nil .nil)) (.node (o126 P) (.node (o196 P) .nil .nil) (.node (o266 P) .nil .nil)))) (.node (o32 P) (.node (o48 P) (.node (o83 P) (.node (o153 P) (.node (o290 P) .nil .nil) .nil) (.node (o223 P) .nil .nil)) (.node (o118 P) (.node (o188 P) .nil .nil) (.node (o258 P) .nil .nil))) (.node (o67 P) (.node (o102 P) (.node (o169 P) .nil .nil) (.node (o239 P) .nil .nil)) (.node (o137 P) (.node (o204 P) .nil .nil) (.node (o274 P) .nil .nil))))))))
noncomputable def s8 (P : Params) (os : OsState) : SharedT := ⟨t8 P, 275, {}, #[], boot_drawn, 538, os⟩
noncomputable def o295 (P : Params) : Obj := ⟨(.type "dict"), none, .dict #[⟨PyData.keyHash P (.ofString "__name__"), (.str (.ofString "__name__") 165), (.str (.ofString "gridlanes.errors") 187)⟩, ⟨PyData.keyHash P (.ofString "__doc__"), (.str (.ofString "__doc__") 166), .none⟩, ⟨PyData.keyHash P (.ofString "__package__"), (.str (.ofString "__package__") 167), .none⟩, ⟨PyData.keyHash P (.ofString "__loader__"), (.str (.ofString "__loader__") 168), (.builtin "__main__.__loader__#opaque")⟩, ⟨PyData.keyHash P (.ofString "__spec__"), (.str (.ofString "__spec__") 169), .none⟩, ⟨PyData.keyHash P (.ofString "__annotations__"), (.str (.ofString "__annotations__") 170), (.ref 6)⟩, ⟨PyData.keyHash P (.ofString "__builtins__"), (.str (.ofString "__builtins__") 171), (.ref 4)⟩, ⟨PyData.keyHash P (.ofString "__file__"), (.str (.ofString "__file__") 173), (.str (.ofString "/claim/cut.py") 172)⟩, ⟨PyData.keyHash P (.ofString "__cached__"), (.str (.ofString "__cached__") 174), .none⟩, ⟨PyData.keyHash P (.ofString "LaneError"), (.str (.ofString "LaneError") 206), (.ref 24)⟩, ⟨PyData.keyHash P (.ofString "NoNumber"), (.str (.ofString "NoNumber") 231), (.ref 44)⟩, ⟨PyData.keyHash P (.ofString "NoContent"), (.str (.ofString "NoContent") 258), (.ref 63)⟩, ⟨PyData.keyHash P (.ofString "NoGrid"), (.str (.ofString "NoGrid") 285), (.ref 82)⟩, ⟨PyData.keyHash P (.ofString "NoItem"), (.str (.ofString "NoItem") 310), (.ref 101)⟩, ⟨PyData.keyHash P (.ofString "NoPage"), (.str (.ofString "NoPage") 337), (.ref 120)⟩, ⟨PyData.keyHash P (.ofString "ManyLanes"), (.str (.ofString "ManyLanes") 362), (.ref 139)⟩, ⟨PyData.keyHash P (.ofString "NoPath"), (.str (.ofString "NoPath") 387), (.ref 158)⟩, ⟨PyData.keyHash P (.ofString "NoRange"), (.str (.ofString "NoRange") 412), (.ref 177)⟩, ⟨PyData.keyHash P (.ofString "TooMany"), (.str (.ofString "TooMany") 437), (.ref 196)⟩, ⟨PyData.keyHash P (.ofString "NoWish"), (.str (.ofString "NoWish") 462), (.ref 215)⟩, ⟨PyData.keyHash P (.ofString "OtherBoxes"), (.str (.ofString "OtherBoxes") 489), (.ref 234)⟩, ⟨PyData.keyHash P (.ofString "NoAxis"), (.str (.ofString "NoAxis") 512), (.ref 253)⟩, ⟨PyData.keyHash P (.ofString "NoArea"), (.str (.ofString "NoArea") 537), (.ref 272)⟩, ⟨PyData.keyHash P (.ofString "NoSizes"), (.str (.ofString "NoSizes") 562), (.ref 291)⟩, ⟨PyData.keyHash P (.ofString "NoCrossings"), (.str (.ofString "NoCrossings") 587), (.ref 310)⟩] 25, #[]⟩
noncomputable def o296 (P : Params) : Obj := ⟨.none, none, .fields #[(.int 2 0), (.int 0 0), (.ref 20), (.int 4 0), (.int 0 0), (.ref 33), (.int 9 0), (.int 0 0), (.ref 52), (.int 15 0), (.int 0 0), (.ref 71), (.int 21 0), (.int 0 0), (.ref 90), (.int 26 0), (.int 0 0), (.ref 109), (.int 32 0), (.int 0 0), (.ref 128), (.int 37 0), (.int 0 0), (.ref 147), (.int 42 0), (.int 0 0), (.ref 166), (.int 47 0), (.int 0 0), (.ref 185), (.int 52 0), (.int 0 0), (.ref 204), (.int 57 0), (.int 0 0), (.ref 223), (.int 63 0), (.int 0 0), (.ref 242), (.int 67 0), (.int 0 0), (.ref 261), (.int 72 0), (.int 0 0), (.ref 280), (.int 77 0), (.int 0 0), (.ref 299)], #[]⟩
noncomputable def o297 (P : Params) : Obj := ⟨(.type "type"), none, .cls ⟨(.ofString "LaneError"), [(.type "ValueError")], [(.ref 24), (.type "ValueError"), (.type "Exception"), (.type "BaseException"), (.type "object")], 23, (.ofString "LaneError"), true, [], [(.ref 44), (.ref 63), (.ref 82), (.ref 101), (.ref 120), (.ref 139), (.ref 158), (.ref 177), (.ref 196), (.ref 215), (.ref 234), (.ref 253), (.ref 272), (.ref 291), (.ref 310)], false, none, false⟩, #[(some (.ref 15)), none, (some (.str (.ofString "LaneError") 189)), (some (.str (.ofString "LaneError") 197)), (some (.builtin "ValueError.__new__")), (some (.bool true))]⟩
noncomputable def o298 (P : Params) : Obj := ⟨(.type "tuple"), none, .seq #[(.ref 24)] 0, #[]⟩
noncomputable def o299 (P : Params) : Obj := ⟨(.type "builtin_function_or_method"), none, .fields #[(.builtin "type.__prepare__"), (.type "type")], #[]⟩
noncomputable def o300 (P : Params) : Obj := ⟨(.type "dict"), none, .dict #[⟨PyData.keyHash P (.ofString "__module__"), (.str (.ofString "__module__") 545), (.str (.ofString "gridlanes.errors") 187)⟩, ⟨PyData.keyHash P (.ofString "__qualname__"), (.str (.ofString "__qualname__") 547), (.str (.ofString "NoSizes") 546)⟩, ⟨PyData.keyHash P (.ofString "__firstlineno__"), (.str (.ofString "__firstlineno__") 549), (.int 72 548)⟩, ⟨PyData.keyHash P (.ofString "__init__"), (.str (.ofString "__init__") 557), (.ref 288)⟩, ⟨PyData.keyHash P (.ofString "__static_attributes__"), (.str (.ofString "__static_attributes__") 559), (.ref 289)⟩] 5, #[]⟩
noncomputable def o301 (P : Params) : Obj := ⟨(.type "tuple"), none, .seq #[] 0, #[]⟩
noncomputable def o302 (P : Params) : Obj := ⟨.none, none, .fields #[(.int 74 0), (.int 4 0), (.ref 287)], #[]⟩
noncomputable def o303 (P : Params) : Obj := ⟨(.type "code"), none, .fields #[(.str (.ofString "NoSizes") 540), (.str (.ofString "NoSizes") 541), (.str (.ofString "/claim/cut.py") 542), (.int 72 0), (.int 0 0), (.int 0 0), (.int 0 0), (.int 0 0), (.ref 278), (.bool false), (.int 181 0), (.ref 279), .none, .none, .none, .none, (.int 543 0), (.int 72 0), (.str (.ofString "/claim/cut.py") 544)], #[]⟩
noncomputable def o304 (P : Params) : Obj := ⟨(.type "frame"), none, .plain, #[(some (.ref 280)), (some (.ref 3)), (some (.ref 277)), none, (some (.str (.ofString "gridlanes.errors") 187)), none, (some (.ref 0))]⟩
noncomputable def o305 (P : Params) : Obj := ⟨(.type "tuple"), none, .seq #[] 0, #[]⟩
noncomputable def o306 (P : Params) : Obj := ⟨.none, none, .fields #[], #[]⟩
noncomputable def o307 (P : Params) : Obj := ⟨(.type "tuple"), none, .seq #[(.str (.ofString "self") 553), (.str (.ofString "index") 554)] 0, #[]⟩
noncomputable def o308 (P : Params) : Obj := ⟨(.type "tuple"), none, .seq #[] 0, #[]⟩
noncomputable def o309 (P : Params) : Obj := ⟨.none, none, .func ⟨(.ofString "__init__"), (.ofString "NoSizes.__init__"), defArgs (inClass (tp 15) 0), .stmts (defBody (inClass (tp 15) 0)), defScope (inClass (tp 15) 0), 0, [], .none, .none, .none, .none, none, .none, .none, 0⟩, #[]⟩
noncomputable def o310 (P : Params) : Obj := ⟨(.type "code"), none, .fields #[(.str (.ofString "__init__") 550), (.str (.ofString "NoSizes.__init__") 551), (.str (.ofString "/claim/cut.py") 552), (.int 74 0), (.int 2 0), (.int 0 0), (.int 0 0), (.int 3 0), (.ref 282), (.bool true), (.int 181 0), (.ref 283), .none, (.ref 284), (.ref 285), (.ref 286), (.int 555 0), (.int 74 0), (.str (.ofString "/claim/cut.py") 556)], #[]⟩
noncomputable def o311 (P : Params) : Obj := ⟨(.type "function"), none, .func ⟨(.ofString "__init__"), (.ofString "NoSizes.__init__"), defArgs (inClass (tp 15) 0), .stmts (defBody (inClass (tp 15) 0)), defScope (inClass (tp 15) 0), 3, [], .none, .none, .none, (.str (.ofString "gridlanes.errors") 187), none, (.ref 287), .none, 0⟩, #[]⟩
noncomputable def o312 (P : Params) : Obj := ⟨(.type "tuple"), none, .seq #[(.str (.ofString "index") 558)] 0, #[]⟩
noncomputable def o313 (P : Params) : Obj := ⟨(.type "dict"), none, .dict #[⟨PyData.keyHash P (.ofString "__module__"), (.str (.ofString "__module__") 545), (.str (.ofString "gridlanes.errors") 187)⟩, ⟨PyData.keyHash P (.ofString "__firstlineno__"), (.str (.ofString "__firstlineno__") 549), (.int 72 548)⟩, ⟨PyData.keyHash P (.ofString "__init__"), (.str (.ofString "__init__") 557), (.ref 288)⟩, ⟨PyData.keyHash P (.ofString "__static_attributes__"), (.str (.ofString "__static_attributes__") 559), (.ref 289)⟩, ⟨PyData.keyHash P (.ofString "__doc__"), (.str (.ofString "__doc__") 560), .none⟩] 2, #[]⟩
noncomputable def o314 (P : Params) : Obj := ⟨(.type "type"), none, .cls ⟨(.ofString "NoSizes"), [(.ref 24)], [(.ref 291), (.ref 24), (.type "ValueError"), (.type "Exception"), (.type "BaseException"), (.type "object")], 290, (.ofString "NoSizes"), true, [], [], false, none, false⟩, #[(some (.ref 275)), none, (some (.str (.ofString "NoSizes") 538)), (some (.str (.ofString "NoSizes") 546)), (some (.builtin "ValueError.__new__")), (some (.bool true))]⟩
noncomputable def o315 (P : Params) : Obj := ⟨(.type "super"), none, .fields #[(.ref 291), (.ref 291), (.ref 291)], #[]⟩
noncomputable def o316 (P : Params) : Obj := ⟨(.type "builtin_function_or_method"), none, .fields #[(.builtin "object.__init_subclass__"), (.ref 291)], #[]⟩
noncomputable def o317 (P : Params) : Obj := ⟨(.type "tuple"), none, .seq #[(.ref 24)] 0, #[]⟩
noncomputable def o318 (P : Params) : Obj := ⟨(.type "builtin_function_or_method"), none, .fields #[(.builtin "type.__prepare__"), (.type "type")], #[]⟩
noncomputable def o319 (P : Params) : Obj := ⟨(.type "dict"), none, .dict #[⟨PyData.keyHash P (.ofString "__module__"), (.str (.ofString "__module__") 570), (.str (.ofString "gridlanes.errors") 187)⟩, ⟨PyData.keyHash P (.ofString "__qualname__"), (.str (.ofString "__qualname__") 572), (.str (.ofString "NoCrossings") 571)⟩, ⟨PyData.keyHash P (.ofString "__firstlineno__"), (.str (.ofString "__firstlineno__") 574), (.int 77 573)⟩, ⟨PyData.keyHash P (.ofString "__init__"), (.str (.ofString "__init__") 582), (.ref 307)⟩, ⟨PyData.keyHash P (.ofString "__static_attributes__"), (.str (.ofString "__static_attributes__") 584), (.ref 308)⟩] 5, #[]⟩
noncomputable def o320 (P : Params) : Obj := ⟨(.type "tuple"), none, .seq #[] 0, #[]⟩
noncomputable def o321 (P : Params) : Obj := ⟨.none, none, .fields #[(.int 79 0), (.int 4 0), (.ref 306)], #[]⟩
noncomputable def o322 (P : Params) : Obj := ⟨(.type "code"), none, .fields #[(.str (.ofString "NoCrossings") 565), (.str (.ofString "NoCrossings") 566), (.str (.ofString "/claim/cut.py") 567), (.int 77 0), (.int 0 0), (.int 0 0), (.int 0 0), (.int 0 0), (.ref 297), (.bool false), (.int 181 0), (.ref 298), .none, .none, .none, .none, (.int 568 0), (.int 77 0), (.str (.ofString "/claim/cut.py") 569)], #[]⟩
noncomputable def o323 (P : Params) : Obj := ⟨(.type "frame"), none, .plain, #[(some (.ref 299)), (some (.ref 3)), (some (.ref 296)), none, (some (.str (.ofString "gridlanes.errors") 187)), none, (some (.ref 0))]⟩
noncomputable def o324 (P : Params) : Obj := ⟨(.type "tuple"), none, .seq #[] 0, #[]⟩
noncomputable def o325 (P : Params) : Obj := ⟨.none, none, .fields #[], #[]⟩
noncomputable def o326 (P : Params) : Obj := ⟨(.type "tuple"), none, .seq #[(.str (.ofString "self") 578), (.str (.ofString "index") 579)] 0, #[]⟩
noncomputable def o327 (P : Params) : Obj := ⟨(.type "tuple"), none, .seq #[] 0, #[]⟩
noncomputable def o328 (P : Params) : Obj := ⟨.none, none, .func ⟨(.ofString "__init__"), (.ofString "NoCrossings.__init__"), defArgs (inClass (tp 16) 0), .stmts (defBody (inClass (tp 16) 0)), defScope (inClass (tp 16) 0), 0, [], .none, .none, .none, .none, none, .none, .none, 0⟩, #[]⟩
noncomputable def o329 (P : Params) : Obj := ⟨(.type "code"), none, .fields #[(.str (.ofString "__init__") 575), (.str (.ofString "NoCrossings.__init__") 576), (.str (.ofString "/claim/cut.py") 577), (.int 79 0), (.int 2 0), (.int 0 0), (.int 0 0), (.int 3 0), (.ref 301), (.bool true), (.int 181 0), (.ref 302), .none, (.ref 303), (.ref 304), (.ref 305), (.int 580 0), (.int 79 0), (.str (.ofString "/claim/cut.py") 581)], #[]⟩
noncomputable def o330 (P : Params) : Obj := ⟨(.type "function"), none, .func ⟨(.ofString "__init__"), (.ofString "NoCrossings.__init__"), defArgs (inClass (tp 16) 0), .stmts (defBody (inClass (tp 16) 0)), defScope (inClass (tp 16) 0), 3, [], .none, .none, .none, (.str (.ofString "gridlanes.errors") 187), none, (.ref 306), .none, 0⟩, #[]⟩
noncomputable def o331 (P : Params) : Obj := ⟨(.type "tuple"), none, .seq #[(.str (.ofString "index") 583)] 0, #[]⟩
noncomputable def o332 (P : Params) : Obj := ⟨(.type "dict"), none, .dict #[⟨PyData.keyHash P (.ofString "__module__"), (.str (.ofString "__module__") 570), (.str (.ofString "gridlanes.errors") 187)⟩, ⟨PyData.keyHash P (.ofString "__firstlineno__"), (.str (.ofString "__firstlineno__") 574), (.int 77 573)⟩, ⟨PyData.keyHash P (.ofString "__init__"), (.str (.ofString "__init__") 582), (.ref 307)⟩, ⟨PyData.keyHash P (.ofString "__static_attributes__"), (.str (.ofString "__static_attributes__") 584), (.ref 308)⟩, ⟨PyData.keyHash P (.ofString "__doc__"), (.str (.ofString "__doc__") 585), .none⟩] 2, #[]⟩
noncomputable def o333 (P : Params) : Obj := ⟨(.type "type"), none, .cls ⟨(.ofString "NoCrossings"), [(.ref 24)], [(.ref 310), (.ref 24), (.type "ValueError"), (.type "Exception"), (.type "BaseException"), (.type "object")], 309, (.ofString "NoCrossings"), true, [], [], false, none, false⟩, #[(some (.ref 294)), none, (some (.str (.ofString "NoCrossings") 563)), (some (.str (.ofString "NoCrossings") 571)), (some (.builtin "ValueError.__new__")), (some (.bool true))]⟩
noncomputable def o334 (P : Params) : Obj := ⟨(.type "super"), none, .fields #[(.ref 310), (.ref 310), (.ref 310)], #[]⟩
noncomputable def o335 (P : Params) : Obj := ⟨(.type "builtin_function_or_method"), none, .fields #[(.builtin "object.__init_subclass__"), (.ref 310)], #[]⟩
noncomputable def t9 (P : Params) : BT := (.node (o0 P) (.node (o1 P) (.node (o295 P) (.node (o7 P) (.node (o17 P) (.node (o33 P) (.node (o68 P) (.node (o138 P) (.node (o275 P) .nil .nil) .nil) (.node (o205 P) .nil .nil)) (.node (o103 P) (.node (o170 P) (.node (o310 P) .nil .nil) .nil) (.node (o240 P) .nil .nil))) (.node (o52 P) (.node (o84 P) (.node (o154 P) (.node (o291 P) .nil .nil) .nil) (.node (o224 P) .nil .nil)) (.node (o119 P) (.node (o189 P) (.node (o326 P) .nil .nil) .nil) (.node (o259 P) .nil .nil)))) (.node (o25 P) (.node (o41 P) (.node (o76 P) (.node (o146 P) (.node (o283 P) .nil .nil) .nil) (.node (o216 P) .nil .nil)) (.node (o111 P) (.node (o181 P) (.node (o318 P) .nil .nil) .nil) (.node (o248 P) .nil .nil))) (.node (o60 P) (.node (o95 P) (.node (o162 P) (.node (o302 P) .nil .nil) .nil) (.node (o232 P) .nil .nil)) (.node (o127 P) (.node (o197 P) (.node (o334 P) .nil .nil) .nil) (.node (o267 P) .nil .nil))))) (.node (o11 P) (.node (o21 P) (.node (o37 P) (.node (o72 P) (.node (o142 P) (.node (o279 P) .nil .nil) .nil) (.node (o209 P) .nil .nil)) (.node (o107 P) (.node (o177 P) (.node (o314 P) .nil .nil) .nil) (.node (o244 P) .nil .nil))) (.node (o56 P) (.node (o88 P) (.node (o158 P) (.node (o298 P) .nil .nil) .nil) (.node (o228 P) .nil .nil)) (.node (o123 P) (.node (o193 P) (.node (o330 P) .nil .nil) .nil) (.node (o263 P) .nil .nil)))) (.node (o29 P) (.node (o45 P) (.node (o80 P) (.node (o150 P) (.node (o287 P) .nil .nil) .nil) (.node (o220 P) .nil .nil)) (.node (o115 P) (.node (o185 P) (.node (o322 P) .nil .nil) .nil) (.node (o252 P) .nil .nil))) (.node (o64 P) (.node (o99 P) (.node (o166 P) (.node (o306 P) .nil .nil) .nil) (.node (o236 P) .nil .nil)) (.node (o134 P) (.node (o201 P) .nil .nil) (.node (o271 P) .nil .nil)))))) (.node (o5 P) (.node (o9 P) (.node (o19 P) (.node (o35 P) (.node (o70 P) (.node (o140 P) (.node (o277 P) .nil .nil) .nil) (.node (o207 P) .nil .nil)) (.node (o105 P) (.node (o175 P) (.node (o312 P) .nil .nil) .nil) (.node (o242 P) .nil .nil))) (.node (o54 P) (.node (o86 P) (.node (o156 P) (.node (o293 P) .nil .nil) .nil) (.node (o226 P) .nil .nil)) (.node (o121 P) (.node (o191 P) (.node (o328 P) .nil .nil) .nil) (.node (o261 P) .nil .nil)))) (.node (o27 P) (.node (o43 P) (.node (o78 P) (.node (o148 P) (.node (o285 P) .nil .nil) .nil) (.node (o218 P) .nil .nil)) (.node (o113 P) (.node (o183 P) (.node (o320 P) .nil .nil) .nil) (.node (o250 P) .nil .nil))) (.node (o62 P) (.node (o97 P) (.node (o164 P) (.node (o304 P) .nil .nil) .nil) (.node (o234 P) .nil .nil)) (.node (o129 P) (.node (o199 P) .nil .nil) (.node (o269 P) .nil .nil))))) (.node (o13 P) (.node (o23 P) (.node (o39 P) (.node (o74 P) (.node (o144 P) (.node (o281 P) .nil .nil) .nil) (.node (o211 P) .nil .nil)) (.node (o109 P) (.node (o179 P) (.node (o316 P) .nil .nil) .nil) (.node (o246 P) .nil .nil))) (.node (o58 P) (.node (o93 P) (.node (o160 P) (.node (o300 P) .nil .nil) .nil) (.node (o230 P) .nil .nil)) (.node (o125 P) (.node (o195 P) (.node (o332 P) .nil .nil) .nil) (.node (o265 P) .nil .nil)))) (.node (o31 P) (.node (o47 P) (.node (o82 P) (.node (o152 P) (.node (o289 P) .nil .nil) .nil) (.node (o222 P) .nil .nil)) (.node (o117 P) (.node (o187 P) (.node (o324 P) .nil .nil) .nil) (.node (o257 P) .nil .nil))) (.node (o66 P) (.node (o101 P) (.node (o168 P) (.node (o308 P) .nil .nil) .nil) (.node (o238 P) .nil .nil)) (.node (o136 P) (.node (o203 P) .nil .nil) (.node (o273 P) .nil .nil))))))) (.node (o2 P) (.node (o4 P) (.node (o8 P) (.node (o18 P) (.node (o34 P) (.node (o69 P) (.node (o139 P) (.node (o276 P) .nil .nil) .nil) (.node (o206 P) .nil .nil)) (.node (o104 P) (.node (o171 P) (.node (o311 P) .nil .nil) .nil) (.node (o241 P) .nil .nil))) (.node (o53 P) (.node (o85 P) (.node (o155 P) (.node (o292 P) .nil .nil) .nil) (.node (o225 P) .nil .nil)) (.node (o120 P) (.node (o190 P) (.node (o327 P) .nil .nil) .nil) (.node (o260 P) .nil .nil)))) (.node (o297 P) (.node (o42 P) (.node (o77 P) (.node (o147 P) (.node (o284 P) .nil .nil) .nil) (.node (o217 P) .nil .nil)) (.node (o112 P) (.node (o182 P) (.node (o319 P) .nil .nil) .nil) (.node (o249 P) .nil .nil))) (.node (o61 P) (.node (o96 P) (.node (o163 P) (.node (o303 P) .nil .nil) .nil) (.node (o233 P) .nil .nil)) (.node (o128 P) (.node (o198 P) (.node (o335 P) .nil .nil) .nil) (.node (o268 P) .nil .nil))))) (.node (o296 P) (.node (o22 P) (.node (o38 P) (.node (o73 P) (.node (o143 P) (.node (o280 P) .nil .nil) .nil) (.node (o210 P) .nil .nil)) (.node (o108 P) (.node (o178 P) (.node (o315 P) .nil .nil) .nil) (.node (o245 P) .nil .nil))) (.node (o57 P) (.node (o89 P) (.node (o159 P) (.node (o299 P) .nil .nil) .nil) (.node (o229 P) .nil .nil)) (.node (o124 P) (.node (o194 P) (.node (o331 P) .nil .nil) .nil) (.node (o264 P) .nil .nil)))) (.node (o30 P) (.node (o46 P) (.node (o81 P) (.node (o151 P) (.node (o288 P) .nil .nil) .nil) (.node (o221 P) .nil .nil)) (.node (o116 P) (.node (o186 P) (.node (o323 P) .nil .nil) .nil) (.node (o253 P) .nil .nil))) (.node (o65 P) (.node (o100 P) (.node (o167 P) (.node (o307 P) .nil .nil) .nil) (.node (o237 P) .nil .nil)) (.node (o135 P) (.node (o202 P) .nil .nil) (.node (o272 P) .nil .nil)))))) (.node (o6 P) (.node (o10 P) (.node (o20 P) (.node (o36 P) (.node (o71 P) (.node (o141 P) (.node (o278 P) .nil .nil) .nil) (.node (o208 P) .nil .nil)) (.node (o106 P) (.node (o176 P) (.node (o313 P) .nil .nil) .nil) (.node (o243 P) .nil .nil))) (.node (o55 P) (.node (o87 P) (.node (o157 P) (.node (o294 P) .nil .nil) .nil) (.node (o227 P) .nil .nil)) (.node (o122 P) (.node (o192 P) (.node (o329 P) .nil .nil) .nil) (.node (o262 P) .nil .nil)))) (.node (o28 P) (.node (o44 P) (.node (o79 P) (.node (o149 P) (.node (o286 P) .nil .nil) .nil) (.node (o219 P) .nil .nil)) (.node (o114 P) (.node (o184 P) (.node (o321 P) .nil .nil) .nil) (.node (o251 P) .nil .nil))) (.node (o63 P) (.node (o98 P) (.node (o165 P) (.node (o305 P) .nil .nil) .nil) (.node (o235 P) .nil .nil)) (.node (o130 P) (.node (o200 P) .nil .nil) (.node (o270 P) .nil .nil))))) (.node (o14 P) (.node (o24 P) (.node (o40 P) (.node (o75 P) (.node (o145 P) (.node (o282 P) .nil .nil) .nil) (.node (o212 P) .nil .nil)) (.node (o110 P) (.node (o180 P) (.node (o317 P) .nil .nil) .nil) (.node (o247 P) .nil .nil))) (.node (o59 P) (.node (o94 P) (.node (o161 P) (.node (o301 P) .nil .nil) .nil) (.node (o231 P) .nil .nil)) (.node (o126 P) (.node (o196 P) (.node (o333 P) .nil .nil) .nil) (.node (o266 P) .nil .nil)))) (.node (o32 P) (.node (o48 P) (.node (o83 P) (.node (o153 P) (.node (o290 P) .nil .nil) .nil) (.node (o223 P) .nil .nil)) (.node (o118 P) (.node (o188 P) (.node (o325 P) .nil .nil) .nil) (.node (o258 P) .nil .nil))) (.node (o67 P) (.node (o102 P) (.node (o169 P) (.node (o309 P) .nil .nil) .nil) (.node (o239 P) .nil .nil)) (.node (o137 P) (.node (o204 P) .nil .nil) (.node (o274 P) .nil .nil))))))))
noncomputable def s9 (P : Params) (os : OsState) : SharedT := ⟨t9 P, 313, {}, #[], boot_drawn, 588, os⟩
noncomputable def o336 (P : Params) : Obj := ⟨(.type "dict"), none, .dict #[⟨PyData.keyHash P (.ofString "__name__"), (.str (.ofString "__name__") 165), (.str (.ofString "gridlanes.errors") 187)⟩, ⟨PyData.keyHash P (.ofString "__doc__"), (.str (.ofString "__doc__") 166), .none⟩, ⟨PyData.keyHash P (.ofString "__package__"), (.str (.ofString "__package__") 167), .none⟩, ⟨PyData.keyHash P (.ofString "__loader__"), (.str (.ofString "__loader__") 168), (.builtin "__main__.__loader__#opaque")⟩, ⟨PyData.keyHash P (.ofString "__spec__"), (.str (.ofString "__spec__") 169), .none⟩, ⟨PyData.keyHash P (.ofString "__annotations__"), (.str (.ofString "__annotations__") 170), (.ref 6)⟩, ⟨PyData.keyHash P (.ofString "__builtins__"), (.str (.ofString "__builtins__") 171), (.ref 4)⟩, ⟨PyData.keyHash P (.ofString "__file__"), (.str (.ofString "__file__") 173), (.str (.ofString "/claim/cut.py") 172)⟩, ⟨PyData.keyHash P (.ofString "__cached__"), (.str (.ofString "__cached__") 174), .none⟩, ⟨PyData.keyHash P (.ofString "LaneError"), (.str (.ofString "LaneError") 206), (.ref 24)⟩, ⟨PyData.keyHash P (.ofString "NoNumber"), (.str (.ofString "NoNumber") 231), (.ref 44)⟩, ⟨PyData.keyHash P (.ofString "NoContent"), (.str (.ofString "NoContent") 258), (.ref 63)⟩, ⟨PyData.keyHash P (.ofString "NoGrid"), (.str (.ofString "NoGrid") 285), (.ref 82)⟩, ⟨PyData.keyHash P (.ofString "NoItem"), (.str (.ofString "NoItem") 310), (.ref 101)⟩, ⟨PyData.keyHash P (.ofString "NoPage"), (.str (.ofString "NoPage") 337), (.ref 120)⟩, ⟨PyData.keyHash P (.ofString "ManyLanes"), (.str (.ofString "ManyLanes") 362), (.ref 139)⟩, ⟨PyData.keyHash P (.ofString "NoPath"), (.str (.ofString "NoPath") 387), (.ref 158)⟩, ⟨PyData.keyHash P (.ofString "NoRange"), (.str (.ofString "NoRange") 412), (.ref 177)⟩, ⟨PyData.keyHash P (.ofString "TooMany"), (.str (.ofString "TooMany") 437), (.ref 196)⟩, ⟨PyData.keyHash P (.ofString "NoWish"), (.str (.ofString "NoWish") 462), (.ref 215)⟩, ⟨PyData.keyHash P (.ofString "OtherBoxes"), (.str (.ofString "OtherBoxes") 489), (.ref 234)⟩, ⟨PyData.keyHash P (.ofString "NoAxis"), (.str (.ofString "NoAxis") 512), (.ref 253)⟩, ⟨PyData.keyHash P (.ofString "NoArea"), (.str (.ofString "NoArea") 537), (.ref 272)⟩, ⟨PyData.keyHash P (.ofString "NoSizes"), (.str (.ofString "NoSizes") 562), (.ref 291)⟩, ⟨PyData.keyHash P (.ofString "NoCrossings"), (.str (.ofString "NoCrossings") 587), (.ref 310)⟩, ⟨PyData.keyHash P (.ofString "NoOrder"), (.str (.ofString "NoOrder") 612), (.ref 329)⟩, ⟨PyData.keyHash P (.ofString "NoText"), (.str (.ofString "NoText") 637), (.ref 348)⟩] 27, #[]⟩
noncomputable def o337 (P : Params) : Obj := ⟨.none, none, .fields #[(.int 2 0), (.int 0 0), (.ref 20), (.int 4 0), (.int 0 0), (.ref 33), (.int 9 0), (.int 0 0), (.ref 52), (.int 15 0), (.int 0 0), (.ref 71), (.int 21 0), (.int 0 0), (.ref 90), (.int 26 0), (.int 0 0), (.ref 109), (.int 32 0), (.int 0 0), (.ref 128), (.int 37 0), (.int 0 0), (.ref 147), (.int 42 0), (.int 0 0), (.ref 166), (.int 47 0), (.int 0 0), (.ref 185), (.int 52 0), (.int 0 0), (.ref 204), (.int 57 0), (.int 0 0), (.ref 223), (.int 63 0), (.int 0 0), (.ref 242), (.int 67 0), (.int 0 0), (.ref 261), (.int 72 0), (.int 0 0), (.ref 280), (.int 77 0), (.int 0 0), (.ref 299), (.int 82 0), (.int 0 0), (.ref 318), (.int 87 0), (.int 0 0), (.ref 337)], #[]⟩
noncomputable def o338 (P : Params) : Obj := ⟨(.type "type"), none, .cls ⟨(.ofString "LaneError"), [(.type "ValueError")], [(.ref 24), (.type "ValueError"), (.type "Exception"), (.type "BaseException"), (.type "object")], 23, (.ofString "LaneError"), true, [], [(.ref 44), (.ref 63), (.ref 82), (.ref 101), (.ref 120), (.ref 139), (.ref 158), (.ref 177), (.ref 196), (.ref 215), (.ref 234), (.ref 253), (.ref 272), (.ref 291), (.ref 310), (.ref 329), (.ref 348)], false, none, false⟩, #[(some (.ref 15)), none, (some (.str (.ofString "LaneError") 189)), (some (.str (.ofString "LaneError") 197)), (some (.builtin "ValueError.__new__")), (some (.bool true))]⟩
noncomputable def o339 (P : Params) : Obj := ⟨(.type "tuple"), none, .seq #[(.ref 24)] 0, #[]⟩
noncomputable def o340 (P : Params) : Obj := ⟨(.type "builtin_function_or_method"), none, .fields #[(.builtin "type.__prepare__"), (.type "type")], #[]⟩
noncomputable def o341 (P : Params) : Obj := ⟨(.type "dict"), none, .dict #[⟨PyData.keyHash P (.ofString "__module__"), (.str (.ofString "__module__") 595), (.str (.ofString "gridlanes.errors") 187)⟩, ⟨PyData.keyHash P (.ofString "__qualname__"), (.str (.ofString "__qualname__") 597), (.str (.ofString "NoOrder") 596)⟩, ⟨PyData.keyHash P (.ofString "__firstlineno__"), (.str (.ofString "__firstlineno__") 599), (.int 82 598)⟩, ⟨PyData.keyHash P (.ofString "__init__"), (.str (.ofString "__init__") 607), (.ref 326)⟩, ⟨PyData.keyHash P (.ofString "__static_attributes__"), (.str (.ofString "__static_attributes__") 609), (.ref 327)⟩] 5, #[]⟩
noncomputable def o342 (P : Params) : Obj := ⟨(.type "tuple"), none, .seq #[] 0, #[]⟩
noncomputable def o343 (P : Params) : Obj := ⟨.none, none, .fields #[(.int 84 0), (.int 4 0), (.ref 325)], #[]⟩
noncomputable def o344 (P : Params) : Obj := ⟨(.type "code"), none, .fields #[(.str (.ofString "NoOrder") 590), (.str (.ofString "NoOrder") 591), (.str (.ofString "/claim/cut.py") 592), (.int 82 0), (.int 0 0), (.int 0 0), (.int 0 0), (.int 0 0), (.ref 316), (.bool false), (.int 181 0), (.ref 317), .none, .none, .none, .none, (.int 593 0), (.int 82 0), (.str (.ofString "/claim/cut.py") 594)], #[]⟩
noncomputable def o345 (P : Params) : Obj := ⟨(.type "frame"), none, .plain, #[(some (.ref 318)), (some (.ref 3)), (some (.ref 315)), none, (some (.str (.ofString "gridlanes.errors") 187)), none, (some (.ref 0))]⟩
noncomputable def o346 (P : Params) : Obj := ⟨(.type "tuple"), none, .seq #[] 0, #[]⟩
noncomputable def o347 (P : Params) : Obj := ⟨.none, none, .fields #[], #[]⟩
noncomputable def o348 (P : Params) : Obj := ⟨(.type "tuple"), none, .seq #[(.str (.ofString "self") 603), (.str (.ofString "index") 604)] 0, #[]⟩
noncomputable def o349 (P : Params) : Obj := ⟨(.type "tuple"), none, .seq #[] 0, #[]⟩
noncomputable def o350 (P : Params) : Obj := ⟨.none, none, .func ⟨(.ofString "__init__"), (.ofString "NoOrder.__init__"), defArgs (inClass (tp 17) 0), .stmts (defBody (inClass (tp 17) 0)), defScope (inClass (tp 17) 0), 0, [], .none, .none, .none, .none, none, .none, .none, 0⟩, #[]⟩
noncomputable def o351 (P : Params) : Obj := ⟨(.type "code"), none, .fields #[(.str (.ofString "__init__") 600), (.str (.ofString "NoOrder.__init__") 601), (.str (.ofString "/claim/cut.py") 602), (.int 84 0), (.int 2 0), (.int 0 0), (.int 0 0), (.int 3 0), (.ref 320), (.bool true), (.int 181 0), (.ref 321), .none, (.ref 322), (.ref 323), (.ref 324), (.int 605 0), (.int 84 0), (.str (.ofString "/claim/cut.py") 606)], #[]⟩
noncomputable def o352 (P : Params) : Obj := ⟨(.type "function"), none, .func ⟨(.ofString "__init__"), (.ofString "NoOrder.__init__"), defArgs (inClass (tp 17) 0), .stmts (defBody (inClass (tp 17) 0)), defScope (inClass (tp 17) 0), 3, [], .none, .none, .none, (.str (.ofString "gridlanes.errors") 187), none, (.ref 325), .none, 0⟩, #[]⟩
noncomputable def o353 (P : Params) : Obj := ⟨(.type "tuple"), none, .seq #[(.str (.ofString "index") 608)] 0, #[]⟩
noncomputable def o354 (P : Params) : Obj := ⟨(.type "dict"), none, .dict #[⟨PyData.keyHash P (.ofString "__module__"), (.str (.ofString "__module__") 595), (.str (.ofString "gridlanes.errors") 187)⟩, ⟨PyData.keyHash P (.ofString "__firstlineno__"), (.str (.ofString "__firstlineno__") 599), (.int 82 598)⟩, ⟨PyData.keyHash P (.ofString "__init__"), (.str (.ofString "__init__") 607), (.ref 326)⟩, ⟨PyData.keyHash P (.ofString "__static_attributes__"), (.str (.ofString "__static_attributes__") 609), (.ref 327)⟩, ⟨PyData.keyHash P (.ofString "__doc__"), (.str (.ofString "__doc__") 610), .none⟩] 2, #[]⟩
noncomputable def o355 (P : Params) : Obj := ⟨(.type "type"), none, .cls ⟨(.ofString "NoOrder"), [(.ref 24)], [(.ref 329), (.ref 24), (.type "ValueError"), (.type "Exception"), (.type "BaseException"), (.type "object")], 328, (.ofString "NoOrder"), true, [], [], false, none, false⟩, #[(some (.ref 313)), none, (some (.str (.ofString "NoOrder") 588)), (some (.str (.ofString "NoOrder") 596)), (some (.builtin "ValueError.__new__")), (some (.bool true))]⟩
noncomputable def o356 (P : Params) : Obj := ⟨(.type "super"), none, .fields #[(.ref 329), (.ref 329), (.ref 329)], #[]⟩
noncomputable def o357 (P : Params) : Obj := ⟨(.type "builtin_function_or_method"), none, .fields #[(.builtin "object.__init_subclass__"), (.ref 329)], #[]⟩
noncomputable def o358 (P : Params) : Obj := ⟨(.type "tuple"), none, .seq #[(.ref 24)] 0, #[]⟩
noncomputable def o359 (P : Params) : Obj := ⟨(.type "builtin_function_or_method"), none, .fields #[(.builtin "type.__prepare__"), (.type "type")], #[]⟩
noncomputable def o360 (P : Params) : Obj := ⟨(.type "dict"), none, .dict #[⟨PyData.keyHash P (.ofString "__module__"), (.str (.ofString "__module__") 620), (.str (.ofString "gridlanes.errors") 187)⟩, ⟨PyData.keyHash P (.ofString "__qualname__"), (.str (.ofString "__qualname__") 622), (.str (.ofString "NoText") 621)⟩, ⟨PyData.keyHash P (.ofString "__firstlineno__"), (.str (.ofString "__firstlineno__") 624), (.int 87 623)⟩, ⟨PyData.keyHash P (.ofString "__init__"), (.str (.ofString "__init__") 632), (.ref 345)⟩, ⟨PyData.keyHash P (.ofString "__static_attributes__"), (.str (.ofString "__static_attributes__") 634), (.ref 346)⟩] 5, #[]⟩
noncomputable def o361 (P : Params) : Obj := ⟨(.type "tuple"), none, .seq #[] 0, #[]⟩
noncomputable def o362 (P : Params) : Obj := ⟨.none, none, .fields #[(.int 89 0), (.int 4 0), (.ref 344)], #[]⟩
noncomputable def o363 (P : Params) : Obj := ⟨(.type "code"), none, .fields #[(.str (.ofString "NoText") 615), (.str (.ofString "NoText") 616), (.str (.ofString "/claim/cut.py") 617), (.int 87 0), (.int 0 0), (.int 0 0), (.int 0 0), (.int 0 0), (.ref 335), (.bool false), (.int 181 0), (.ref 336), .none, .none, .none, .none, (.int 618 0), (.int 87 0), (.str (.ofString "/claim/cut.py") 619)], #[]⟩
noncomputable def o364 (P : Params) : Obj := ⟨(.type "frame"), none, .plain, #[(some (.ref 337)), (some (.ref 3)), (some (.ref 334)), none, (some (.str (.ofString "gridlanes.errors") 187)), none, (some (.ref 0))]⟩
noncomputable def o365 (P : Params) : Obj := ⟨(.type "tuple"), none, .seq #[] 0, #[]⟩
noncomputable def o366 (P : Params) : Obj := ⟨.none, none, .fields #[], #[]⟩
noncomputable def o367 (P : Params) : Obj := ⟨(.type "tuple"), none, .seq #[(.str (.ofString "self") 628), (.str (.ofString "line") 629)] 0, #[]⟩
noncomputable def o368 (P : Params) : Obj := ⟨(.type "tuple"), none, .seq #[] 0, #[]⟩
noncomputable def o369 (P : Params) : Obj := ⟨.none, none, .func ⟨(.ofString "__init__"), (.ofString "NoText.__init__"), defArgs (inClass (tp 18) 0), .stmts (defBody (inClass (tp 18) 0)), defScope (inClass (tp 18) 0), 0, [], .none, .none, .none, .none, none, .none, .none, 0⟩, #[]⟩
noncomputable def o370 (P : Params) : Obj := ⟨(.type "code"), none, .fields #[(.str (.ofString "__init__") 625), (.str (.ofString "NoText.__init__") 626), (.str (.ofString "/claim/cut.py") 627), (.int 89 0), (.int 2 0), (.int 0 0), (.int 0 0), (.int 3 0), (.ref 339), (.bool true), (.int 181 0), (.ref 340), .none, (.ref 341), (.ref 342), (.ref 343), (.int 630 0), (.int 89 0), (.str (.ofString "/claim/cut.py") 631)], #[]⟩
noncomputable def o371 (P : Params) : Obj := ⟨(.type "function"), none, .func ⟨(.ofString "__init__"), (.ofString "NoText.__init__"), defArgs (inClass (tp 18) 0), .stmts (defBody (inClass (tp 18) 0)), defScope (inClass (tp 18) 0), 3, [], .none, .none, .none, (.str (.ofString "gridlanes.errors") 187), none, (.ref 344), .none, 0⟩, #[]⟩
noncomputable def o372 (P : Params) : Obj := ⟨(.type "tuple"), none, .seq #[(.str (.ofString "line") 633)] 0, #[]⟩
noncomputable def o373 (P : Params) : Obj := ⟨(.type "dict"), none, .dict #[⟨PyData.keyHash P (.ofString "__module__"), (.str (.ofString "__module__") 620), (.str (.ofString "gridlanes.errors") 187)⟩, ⟨PyData.keyHash P (.ofString "__firstlineno__"), (.str (.ofString "__firstlineno__") 624), (.int 87 623)⟩, ⟨PyData.keyHash P (.ofString "__init__"), (.str (.ofString "__init__") 632), (.ref 345)⟩, ⟨PyData.keyHash P (.ofString "__static_attributes__"), (.str (.ofString "__static_attributes__") 634), (.ref 346)⟩, ⟨PyData.keyHash P (.ofString "__doc__"), (.str (.ofString "__doc__") 635), .none⟩] 2, #[]⟩
noncomputable def o374 (P : Params) : Obj := ⟨(.type "type"), none, .cls ⟨(.ofString "NoText"), [(.ref 24)], [(.ref 348), (.ref 24), (.type "ValueError"), (.type "Exception"), (.type "BaseException"), (.type "object")], 347, (.ofString "NoText"), true, [], [], false, none, false⟩, #[(some (.ref 332)), none, (some (.str (.ofString "NoText") 613)), (some (.str (.ofString "NoText") 621)), (some (.builtin "ValueError.__new__")), (some (.bool true))]⟩
noncomputable def o375 (P : Params) : Obj := ⟨(.type "super"), none, .fields #[(.ref 348), (.ref 348), (.ref 348)], #[]⟩
noncomputable def o376 (P : Params) : Obj := ⟨(.type "builtin_function_or_method"), none, .fields #[(.builtin "object.__init_subclass__"), (.ref 348)], #[]⟩
noncomputable def t10 (P : Params) : BT := (.node (o0 P) (.node (o1 P) (.node (o336 P) (.node (o7 P) (.node (o17 P) (.node (o33 P) (.node (o68 P) (.node (o138 P) (.node (o275 P) .nil .nil) .nil) (.node (o205 P) (.node (o345 P) .nil .nil) .nil)) (.node (o103 P) (.node (o170 P) (.node (o310 P) .nil .nil) .nil) (.node (o240 P) .nil .nil))) (.node (o52 P) (.node (o84 P) (.node (o154 P) (.node (o291 P) .nil .nil) .nil) (.node (o224 P) (.node (o361 P) .nil .nil) .nil)) (.node (o119 P) (.node (o189 P) (.node (o326 P) .nil .nil) .nil) (.node (o259 P) .nil .nil)))) (.node (o25 P) (.node (o41 P) (.node (o76 P) (.node (o146 P) (.node (o283 P) .nil .nil) .nil) (.node (o216 P) (.node (o353 P) .nil .nil) .nil)) (.node (o111 P) (.node (o181 P) (.node (o318 P) .nil .nil) .nil) (.node (o248 P) .nil .nil))) (.node (o60 P) (.node (o95 P) (.node (o162 P) (.node (o302 P) .nil .nil) .nil) (.node (o232 P) (.node (o369 P) .nil .nil) .nil)) (.node (o127 P) (.node (o197 P) (.node (o334 P) .nil .nil) .nil) (.node (o267 P) .nil .nil))))) (.node (o11 P) (.node (o21 P) (.node (o37 P) (.node (o72 P) (.node (o142 P) (.node (o279 P) .nil .nil) .nil) (.node (o209 P) (.node (o349 P) .nil .nil) .nil)) (.node (o107 P) (.node (o177 P) (.node (o314 P) .nil .nil) .nil) (.node (o244 P) .nil .nil))) (.node (o56 P) (.node (o88 P) (.node (o158 P) (.node (o298 P) .nil .nil) .nil) (.node (o228 P) (.node (o365 P) .nil .nil) .nil)) (.node (o123 P) (.node (o193 P) (.node (o330 P) .nil .nil) .nil) (.node (o263 P) .nil .nil)))) (.node (o29 P) (.node (o45 P) (.node (o80 P) (.node (o150 P) (.node (o287 P) .nil .nil) .nil) (.node (o220 P) (.node (o357 P) .nil .nil) .nil)) (.node (o115 P) (.node (o185 P) (.node (o322 P) .nil .nil) .nil) (.node (o252 P) .nil .nil))) (.node (o64 P) (.node (o99 P) (.node (o166 P) (.node (o306 P) .nil .nil) .nil) (.node (o236 P) (.node (o373 P) .nil .nil) .nil)) (.node (o134 P) (.node (o201 P) (.node (o341 P) .nil .nil) .nil) (.node (o271 P) .nil .nil)))))) (.node (o5 P) (.node (o9 P) (.node (o19 P) (.node (o35 P) (.node (o70 P) (.node (o140 P) (.node (o277 P) .nil .nil) .nil) (.node (o207 P) (.node (o347 P) .nil .nil) .nil)) (.node (o105 P) (.node (o175 P) (.node (o312 P) .nil .nil) .nil) (.node (o242 P) .nil .nil))) (.node (o54 P) (.node (o86 P) (.node (o156 P) (.node (o293 P) .nil .nil) .nil) (.node (o226 P) (.node (o363 P) .nil .nil) .nil)) (.node (o121 P) (.node (o191 P) (.node (o328 P) .nil .nil) .nil) (.node (o261 P) .nil .nil)))) (.node (o27 P) (.node (o43 P) (.node (o78 P) (.node (o148 P) (.node (o285 P) .nil .nil) .nil) (.node (o218 P) (.node (o355 P) .nil .nil) .nil)) (.node (o113 P) (.node (o183 P) (.node (o320 P) .nil .nil) .nil) (.node (o250 P) .nil .nil))) (.node (o62 P) (.node (o97 P) (.node (o164 P) (.node (o304 P) .nil .nil) .nil) (.node (o234 P) (.node (o371 P) .nil .nil) .nil)) (.node (o129 P) (.node (o199 P) (.node (o339 P) .nil .nil) .nil) (.node (o269 P) .nil .nil))))) (.node (o13 P) (.node (o23 P) (.node (o39 P) (.node (o74 P) (.node (o144 P) (.node (o281 P) .nil .nil) .nil) (.node (o211 P) (.node (o351 P) .nil .nil) .nil)) (.node (o109 P) (.node (o179 P) (.node (o316 P) .nil .nil) .nil) (.node (o246 P) .nil .nil))) (.node (o58 P) (.node (o93 P) (.node (o160 P) (.node (o300 P) .nil .nil) .nil) (.node (o230 P) (.node (o367 P) .nil .nil) .nil)) (.node (o125 P) (.node (o195 P) (.node (o332 P) .nil .nil) .nil) (.node (o265 P) .nil .nil)))) (.node (o31 P) (.node (o47 P) (.node (o82 P) (.node (o152 P) (.node (o289 P) .nil .nil) .nil) (.node (o222 P) (.node (o359 P) .nil .nil) .nil)) (.node (o117 P) (.node (o187 P) (.node (o324 P) .nil .nil) .nil) (.node (o257 P) .nil .nil))) (.node (o66 P) (.node (o101 P) (.node (o168 P) (.node (o308 P) .nil .nil) .nil) (.node (o238 P) (.node (o375 P) .nil .nil) .nil)) (.node (o136 P) (.node (o203 P) (.node (o343 P) .nil .nil) .nil) (.node (o273 P) .nil .nil))))))) (.node (o2 P) (.node (o4 P) (.node (o8 P) (.node (o18 P) (.node (o34 P) (.node (o69 P) (.node (o139 P) (.node (o276 P) .nil .nil) .nil) (.node (o206 P) (.node (o346 P) .nil .nil) .nil)) (.node (o104 P) (.node (o171 P) (.node (o311 P) .nil .nil) .nil) (.node (o241 P) .nil .nil))) (.node (o53 P) (.node (o85 P) (.node (o155 P) (.node (o292 P) .nil .nil) .nil) (.node (o225 P) (.node (o362 P) .nil .nil) .nil)) (.node (o120 P) (.node (o190 P) (.node (o327 P) .nil .nil) .nil) (.node (o260 P) .nil .nil)))) (.node (o338 P) (.node (o42 P) (.node (o77 P) (.node (o147 P) (.node (o284 P) .nil .nil) .nil) (.node (o217 P) (.node (o354 P) .nil .nil) .nil)) (.node (o112 P) (.node (o182 P) (.node (o319 P) .nil .nil) .nil) (.node (o249 P) .nil .nil))) (.node (o61 P) (.node (o96 P) (.node (o163 P) (.node (o303 P) .nil .nil) .nil) (.node (o233 P) (.node (o370 P) .nil .nil) .nil)) (.node (o128 P) (.node (o198 P) (.node (o335 P) .nil .nil) .nil) (.node (o268 P) .nil .nil))))) (.node (o337 P) (.node (o22 P) (.node (o38 P) (.node (o73 P) (.node (o143 P) (.node (o280 P) .nil .nil) .nil) (.node (o210 P) (.node (o350 P) .nil .nil) .nil)) (.node (o108 P) (.node (o178 P) (.node (o315 P) .nil .nil) .nil) (.node (o245 P) .nil .nil))) (.node (o57 P) (.node (o89 P) (.node (o159 P) (.node (o299 P) .nil .nil) .nil) (.node (o229 P) (.node (o366 P) .nil .nil) .nil)) (.node (o124 P) (.node (o194 P) (.node (o331 P) .nil .nil) .nil) (.node (o264 P) .nil .nil)))) (.node (o30 P) (.node (o46 P) (.node (o81 P) (.node (o151 P) (.node (o288 P) .nil .nil) .nil) (.node (o221 P) (.node (o358 P) .nil .nil) .nil)) (.node (o116 P) (.node (o186 P) (.node (o323 P) .nil .nil) .nil) (.node (o253 P) .nil .nil))) (.node (o65 P) (.node (o100 P) (.node (o167 P) (.node (o307 P) .nil .nil) .nil) (.node (o237 P) (.node (o374 P) .nil .nil) .nil)) (.node (o135 P) (.node (o202 P) (.node (o342 P) .nil .nil) .nil) (.node (o272 P) .nil .nil)))))) (.node (o6 P) (.node (o10 P) (.node (o20 P) (.node (o36 P) (.node (o71 P) (.node (o141 P) (.node (o278 P) .nil .nil) .nil) (.node (o208 P) (.node (o348 P) .nil .nil) .nil)) (.node (o106 P) (.node (o176 P) (.node (o313 P) .nil .nil) .nil) (.node (o243 P) .nil .nil))) (.node (o55 P) (.node (o87 P) (.node (o157 P) (.node (o294 P) .nil .nil) .nil) (.node (o227 P) (.node (o364 P) .nil .nil) .nil)) (.node (o122 P) (.node (o192 P) (.node (o329 P) .nil .nil) .nil) (.node (o262 P) .nil .nil)))) (.node (o28 P) (.node (o44 P) (.node (o79 P) (.node (o149 P) (.node (o286 P) .nil .nil) .nil) (.node (o219 P) (.node (o356 P) .nil .nil) .nil)) (.node (o114 P) (.node (o184 P) (.node (o321 P) .nil .nil) .nil) (.node (o251 P) .nil .nil))) (.node (o63 P) (.node (o98 P) (.node (o165 P) (.node (o305 P) .nil .nil) .nil) (.node (o235 P) (.node (o372 P) .nil .nil) .nil)) (.node (o130 P) (.node (o200 P) (.node (o340 P) .nil .nil) .nil) (.node (o270 P) .nil .nil))))) (.node (o14 P) (.node (o24 P) (.node (o40 P) (.node (o75 P) (.node (o145 P) (.node (o282 P) .nil .nil) .nil) (.node (o212 P) (.node (o352 P) .nil .nil) .nil)) (.node (o110 P) (.node (o180 P) (.node (o317 P) .nil .nil) .nil) (.node (o247 P) .nil .nil))) (.node (o59 P) (.node (o94 P) (.node (o161 P) (.node (o301 P) .nil .nil) .nil) (.node (o231 P) (.node (o368 P) .nil .nil) .nil)) (.node (o126 P) (.node (o196 P) (.node (o333 P) .nil .nil) .nil) (.node (o266 P) .nil .nil)))) (.node (o32 P) (.node (o48 P) (.node (o83 P) (.node (o153 P) (.node (o290 P) .nil .nil) .nil) (.node (o223 P) (.node (o360 P) .nil .nil) .nil)) (.node (o118 P) (.node (o188 P) (.node (o325 P) .nil .nil) .nil) (.node (o258 P) .nil .nil))) (.node (o67 P) (.node (o102 P) (.node (o169 P) (.node (o309 P) .nil .nil) .nil) (.node (o239 P) (.node (o376 P) .nil .nil) .nil)) (.node (o137 P) (.node (o204 P) (.node (o344 P) .nil .nil) .nil) (.node (o274 P) .nil .nil))))))))
noncomputable def s10 (P : Params) (os : OsState) : SharedT := ⟨t10 P, 351, {}, #[], boot_drawn, 638, os⟩
noncomputable def o377 (P : Params) : Obj := ⟨(.type "dict"), none, .dict #[⟨PyData.keyHash P (.ofString "__name__"), (.str (.ofString "__name__") 165), (.str (.ofString "law_gridlanes_k04_exceptions") 661)⟩, ⟨PyData.keyHash P (.ofString "__doc__"), (.str (.ofString "__doc__") 166), .none⟩, ⟨PyData.keyHash P (.ofString "__package__"), (.str (.ofString "__package__") 167), .none⟩, ⟨PyData.keyHash P (.ofString "__loader__"), (.str (.ofString "__loader__") 168), (.builtin "__main__.__loader__#opaque")⟩, ⟨PyData.keyHash P (.ofString "__spec__"), (.str (.ofString "__spec__") 169), .none⟩, ⟨PyData.keyHash P (.ofString "__annotations__"), (.str (.ofString "__annotations__") 170), (.ref 6)⟩, ⟨PyData.keyHash P (.ofString "__builtins__"), (.str (.ofString "__builtins__") 171), (.ref 4)⟩, ⟨PyData.keyHash P (.ofString "__file__"), (.str (.ofString "__file__") 173), (.str (.ofString "/claim/cut.py") 172)⟩, ⟨PyData.keyHash P (.ofString "__cached__"), (.str (.ofString "__cached__") 174), .none⟩, ⟨PyData.keyHash P (.ofString "LaneError"), (.str (.ofString "LaneError") 206), (.ref 24)⟩, ⟨PyData.keyHash P (.ofString "NoNumber"), (.str (.ofString "NoNumber") 231), (.ref 44)⟩, ⟨PyData.keyHash P (.ofString "NoContent"), (.str (.ofString "NoContent") 258), (.ref 63)⟩, ⟨PyData.keyHash P (.ofString "NoGrid"), (.str (.ofString "NoGrid") 285), (.ref 82)⟩, ⟨PyData.keyHash P (.ofString "NoItem"), (.str (.ofString "NoItem") 310), (.ref 101)⟩, ⟨PyData.keyHash P (.ofString "NoPage"), (.str (.ofString "NoPage") 337), (.ref 120)⟩, ⟨PyData.keyHash P (.ofString "ManyLanes"), (.str (.ofString "ManyLanes") 362), (.ref 139)⟩, ⟨PyData.keyHash P (.ofString "NoPath"), (.str (.ofString "NoPath") 387), (.ref 158)⟩, ⟨PyData.keyHash P (.ofString "NoRange"), (.str (.ofString "NoRange") 412), (.ref 177)⟩, ⟨PyData.keyHash P (.ofString "TooMany"), (.str (.ofString "TooMany") 437), (.ref 196)⟩, ⟨PyData.keyHash P (.ofString "NoWish"), (.str (.ofString "NoWish") 462), (.ref 215)⟩, ⟨PyData.keyHash P (.ofString "OtherBoxes"), (.str (.ofString "OtherBoxes") 489), (.ref 234)⟩, ⟨PyData.keyHash P (.ofString "NoAxis"), (.str (.ofString "NoAxis") 512), (.ref 253)⟩, ⟨PyData.keyHash P (.ofString "NoArea"), (.str (.ofString "NoArea") 537), (.ref 272)⟩, ⟨PyData.keyHash P (.ofString "NoSizes"), (.str (.ofString "NoSizes") 562), (.ref 291)⟩, ⟨PyData.keyHash P (.ofString "NoCrossings"), (.str (.ofString "NoCrossings") 587), (.ref 310)⟩, ⟨PyData.keyHash P (.ofString "NoOrder"), (.str (.ofString "NoOrder") 612), (.ref 329)⟩, ⟨PyData.keyHash P (.ofString "NoText"), (.str (.ofString "NoText") 637), (.ref 348)⟩, ⟨PyData.keyHash P (.ofString "NoStates"), (.str (.ofString "NoStates") 660), (.ref 367)⟩, ⟨PyData.keyHash P (.ofString "_law_draw"), (.str (.ofString "_law_draw") 672), (.ref 376)⟩, ⟨PyData.keyHash P (.ofString "_law_one"), (.str (.ofString "_law_one") 680), (.ref 383)⟩, ⟨PyData.keyHash P (.ofString "_law_taken"), (.str (.ofString "_law_taken") 688), (.ref 390)⟩, ⟨PyData.keyHash P (.ofString "_law_by_place"), (.str (.ofString "_law_by_place") 696), (.ref 397)⟩, ⟨PyData.keyHash P (.ofString "_law_by_name"), (.str (.ofString "_law_by_name") 704), (.ref 404)⟩, ⟨PyData.keyHash P (.ofString "_law_fields"), (.str (.ofString "_law_fields") 712), (.ref 411)⟩, ⟨PyData.keyHash P (.ofString "_law_right"), (.str (.ofString "_law_right") 718), (.ref 416)⟩, ⟨PyData.keyHash P (.ofString "law"), (.str (.ofString "law") 728), (.ref 423)⟩] 36, #[]⟩
noncomputable def o378 (P : Params) : Obj := ⟨.none, none, .fields #[(.int 2 0), (.int 0 0), (.ref 20), (.int 4 0), (.int 0 0), (.ref 33), (.int 9 0), (.int 0 0), (.ref 52), (.int 15 0), (.int 0 0), (.ref 71), (.int 21 0), (.int 0 0), (.ref 90), (.int 26 0), (.int 0 0), (.ref 109), (.int 32 0), (.int 0 0), (.ref 128), (.int 37 0), (.int 0 0), (.ref 147), (.int 42 0), (.int 0 0), (.ref 166), (.int 47 0), (.int 0 0), (.ref 185), (.int 52 0), (.int 0 0), (.ref 204), (.int 57 0), (.int 0 0), (.ref 223), (.int 63 0), (.int 0 0), (.ref 242), (.int 67 0), (.int 0 0), (.ref 261), (.int 72 0), (.int 0 0), (.ref 280), (.int 77 0), (.int 0 0), (.ref 299), (.int 82 0), (.int 0 0), (.ref 318), (.int 87 0), (.int 0 0), (.ref 337), (.int 92 0), (.int 0 0), (.ref 356), (.int 97 0), (.int 0 0), (.ref 375), (.int 106 0), (.int 0 0), (.ref 382), (.int 108 0), (.int 0 0), (.ref 389), (.int 116 0), (.int 0 0), (.ref 396), (.int 122 0), (.int 0 0), (.ref 403), (.int 130 0), (.int 0 0), (.ref 410), (.int 137 0), (.int 0 0), (.ref 415), (.int 152 0), (.int 0 0), (.ref 422)], #[]⟩
noncomputable def o379 (P : Params) : Obj := ⟨(.type "type"), none, .cls ⟨(.ofString "LaneError"), [(.type "ValueError")], [(.ref 24), (.type "ValueError"), (.type "Exception"), (.type "BaseException"), (.type "object")], 23, (.ofString "LaneError"), true, [], [(.ref 44), (.ref 63), (.ref 82), (.ref 101), (.ref 120), (.ref 139), (.ref 158), (.ref 177), (.ref 196), (.ref 215), (.ref 234), (.ref 253), (.ref 272), (.ref 291), (.ref 310), (.ref 329), (.ref 348), (.ref 367)], false, none, false⟩, #[(some (.ref 15)), none, (some (.str (.ofString "LaneError") 189)), (some (.str (.ofString "LaneError") 197)), (some (.builtin "ValueError.__new__")), (some (.bool true))]⟩
noncomputable def o380 (P : Params) : Obj := ⟨(.type "tuple"), none, .seq #[(.ref 24)] 0, #[]⟩
noncomputable def o381 (P : Params) : Obj := ⟨(.type "builtin_function_or_method"), none, .fields #[(.builtin "type.__prepare__"), (.type "type")], #[]⟩
noncomputable def o382 (P : Params) : Obj := ⟨(.type "dict"), none, .dict #[⟨PyData.keyHash P (.ofString "__module__"), (.str (.ofString "__module__") 645), (.str (.ofString "gridlanes.errors") 187)⟩, ⟨PyData.keyHash P (.ofString "__qualname__"), (.str (.ofString "__qualname__") 647), (.str (.ofString "NoStates") 646)⟩, ⟨PyData.keyHash P (.ofString "__firstlineno__"), (.str (.ofString "__firstlineno__") 649), (.int 92 648)⟩, ⟨PyData.keyHash P (.ofString "__init__"), (.str (.ofString "__init__") 656), (.ref 364)⟩, ⟨PyData.keyHash P (.ofString "__static_attributes__"), (.str (.ofString "__static_attributes__") 657), (.ref 365)⟩] 5, #[]⟩
noncomputable def o383 (P : Params) : Obj := ⟨(.type "tuple"), none, .seq #[] 0, #[]⟩
noncomputable def o384 (P : Params) : Obj := ⟨.none, none, .fields #[(.int 94 0), (.int 4 0), (.ref 363)], #[]⟩
noncomputable def o385 (P : Params) : Obj := ⟨(.type "code"), none, .fields #[(.str (.ofString "NoStates") 640), (.str (.ofString "NoStates") 641), (.str (.ofString "/claim/cut.py") 642), (.int 92 0), (.int 0 0), (.int 0 0), (.int 0 0), (.int 0 0), (.ref 354), (.bool false), (.int 181 0), (.ref 355), .none, .none, .none, .none, (.int 643 0), (.int 92 0), (.str (.ofString "/claim/cut.py") 644)], #[]⟩
noncomputable def o386 (P : Params) : Obj := ⟨(.type "frame"), none, .plain, #[(some (.ref 356)), (some (.ref 3)), (some (.ref 353)), none, (some (.str (.ofString "gridlanes.errors") 187)), none, (some (.ref 0))]⟩
noncomputable def o387 (P : Params) : Obj := ⟨(.type "tuple"), none, .seq #[] 0, #[]⟩
noncomputable def o388 (P : Params) : Obj := ⟨.none, none, .fields #[], #[]⟩
noncomputable def o389 (P : Params) : Obj := ⟨(.type "tuple"), none, .seq #[(.str (.ofString "self") 653)] 0, #[]⟩
noncomputable def o390 (P : Params) : Obj := ⟨(.type "tuple"), none, .seq #[] 0, #[]⟩
noncomputable def o391 (P : Params) : Obj := ⟨.none, none, .func ⟨(.ofString "__init__"), (.ofString "NoStates.__init__"), defArgs (inClass (tp 19) 0), .stmts (defBody (inClass (tp 19) 0)), defScope (inClass (tp 19) 0), 0, [], .none, .none, .none, .none, none, .none, .none, 0⟩, #[]⟩
noncomputable def o392 (P : Params) : Obj := ⟨(.type "code"), none, .fields #[(.str (.ofString "__init__") 650), (.str (.ofString "NoStates.__init__") 651), (.str (.ofString "/claim/cut.py") 652), (.int 94 0), (.int 1 0), (.int 0 0), (.int 0 0), (.int 3 0), (.ref 358), (.bool true), (.int 181 0), (.ref 359), .none, (.ref 360), (.ref 361), (.ref 362), (.int 654 0), (.int 94 0), (.str (.ofString "/claim/cut.py") 655)], #[]⟩
noncomputable def o393 (P : Params) : Obj := ⟨(.type "function"), none, .func ⟨(.ofString "__init__"), (.ofString "NoStates.__init__"), defArgs (inClass (tp 19) 0), .stmts (defBody (inClass (tp 19) 0)), defScope (inClass (tp 19) 0), 3, [], .none, .none, .none, (.str (.ofString "gridlanes.errors") 187), none, (.ref 363), .none, 0⟩, #[]⟩
noncomputable def o394 (P : Params) : Obj := ⟨(.type "tuple"), none, .seq #[] 0, #[]⟩
noncomputable def o395 (P : Params) : Obj := ⟨(.type "dict"), none, .dict #[⟨PyData.keyHash P (.ofString "__module__"), (.str (.ofString "__module__") 645), (.str (.ofString "gridlanes.errors") 187)⟩, ⟨PyData.keyHash P (.ofString "__firstlineno__"), (.str (.ofString "__firstlineno__") 649), (.int 92 648)⟩, ⟨PyData.keyHash P (.ofString "__init__"), (.str (.ofString "__init__") 656), (.ref 364)⟩, ⟨PyData.keyHash P (.ofString "__static_attributes__"), (.str (.ofString "__static_attributes__") 657), (.ref 365)⟩, ⟨PyData.keyHash P (.ofString "__doc__"), (.str (.ofString "__doc__") 658), .none⟩] 2, #[]⟩
noncomputable def o396 (P : Params) : Obj := ⟨(.type "type"), none, .cls ⟨(.ofString "NoStates"), [(.ref 24)], [(.ref 367), (.ref 24), (.type "ValueError"), (.type "Exception"), (.type "BaseException"), (.type "object")], 366, (.ofString "NoStates"), true, [], [], false, none, false⟩, #[(some (.ref 351)), none, (some (.str (.ofString "NoStates") 638)), (some (.str (.ofString "NoStates") 646)), (some (.builtin "ValueError.__new__")), (some (.bool true))]⟩
noncomputable def o397 (P : Params) : Obj := ⟨(.type "super"), none, .fields #[(.ref 367), (.ref 367), (.ref 367)], #[]⟩
noncomputable def o398 (P : Params) : Obj := ⟨(.type "builtin_function_or_method"), none, .fields #[(.builtin "object.__init_subclass__"), (.ref 367)], #[]⟩
noncomputable def o399 (P : Params) : Obj := ⟨(.type "tuple"), none, .seq #[] 0, #[]⟩
noncomputable def o400 (P : Params) : Obj := ⟨.none, none, .fields #[], #[]⟩
noncomputable def o401 (P : Params) : Obj := ⟨(.type "tuple"), none, .seq #[(.str (.ofString "well") 666), (.str (.ofString "many") 667), (.str (.ofString "found") 668), (.str (.ofString "figure") 669)] 0, #[]⟩
noncomputable def o402 (P : Params) : Obj := ⟨(.type "tuple"), none, .seq #[] 0, #[]⟩
noncomputable def o403 (P : Params) : Obj := ⟨.none, none, .func ⟨(.ofString "_law_draw"), (.ofString "_law_draw"), defArgs (tp 21), .stmts (defBody (tp 21)), defScope (tp 21), 0, [], .none, .none, .none, .none, none, .none, .none, 0⟩, #[]⟩
noncomputable def o404 (P : Params) : Obj := ⟨(.type "code"), none, .fields #[(.str (.ofString "_law_draw") 663), (.str (.ofString "_law_draw") 664), (.str (.ofString "/claim/cut.py") 665), (.int 97 0), (.int 2 0), (.int 0 0), (.int 0 0), (.int 3 0), (.ref 370), (.bool true), (.int 181 0), (.ref 371), .none, (.ref 372), (.ref 373), (.ref 374), (.int 670 0), (.int 97 0), (.str (.ofString "/claim/cut.py") 671)], #[]⟩
noncomputable def o405 (P : Params) : Obj := ⟨(.type "function"), none, .func ⟨(.ofString "_law_draw"), (.ofString "_law_draw"), defArgs (tp 21), .stmts (defBody (tp 21)), defScope (tp 21), 3, [], .none, .none, .none, (.str (.ofString "law_gridlanes_k04_exceptions") 661), none, (.ref 375), .none, 0⟩, #[]⟩
noncomputable def o406 (P : Params) : Obj := ⟨(.type "tuple"), none, .seq #[] 0, #[]⟩
noncomputable def o407 (P : Params) : Obj := ⟨.none, none, .fields #[], #[]⟩
noncomputable def o408 (P : Params) : Obj := ⟨(.type "tuple"), none, .seq #[(.str (.ofString "well") 676), (.str (.ofString "some") 677)] 0, #[]⟩
noncomputable def o409 (P : Params) : Obj := ⟨(.type "tuple"), none, .seq #[] 0, #[]⟩
noncomputable def o410 (P : Params) : Obj := ⟨.none, none, .func ⟨(.ofString "_law_one"), (.ofString "_law_one"), defArgs (tp 22), .stmts (defBody (tp 22)), defScope (tp 22), 0, [], .none, .none, .none, .none, none, .none, .none, 0⟩, #[]⟩
noncomputable def o411 (P : Params) : Obj := ⟨(.type "code"), none, .fields #[(.str (.ofString "_law_one") 673), (.str (.ofString "_law_one") 674), (.str (.ofString "/claim/cut.py") 675), (.int 106 0), (.int 2 0), (.int 0 0), (.int 0 0), (.int 3 0), (.ref 377), (.bool true), (.int 181 0), (.ref 378), .none, (.ref 379), (.ref 380), (.ref 381), (.int 678 0), (.int 106 0), (.str (.ofString "/claim/cut.py") 679)], #[]⟩
noncomputable def o412 (P : Params) : Obj := ⟨(.type "function"), none, .func ⟨(.ofString "_law_one"), (.ofString "_law_one"), defArgs (tp 22), .stmts (defBody (tp 22)), defScope (tp 22), 3, [], .none, .none, .none, (.str (.ofString "law_gridlanes_k04_exceptions") 661), none, (.ref 382), .none, 0⟩, #[]⟩
noncomputable def o413 (P : Params) : Obj := ⟨(.type "tuple"), none, .seq #[] 0, #[]⟩
noncomputable def o414 (P : Params) : Obj := ⟨.none, none, .fields #[], #[]⟩
noncomputable def o415 (P : Params) : Obj := ⟨(.type "tuple"), none, .seq #[(.str (.ofString "e") 684), (.str (.ofString "found") 685)] 0, #[]⟩
noncomputable def o416 (P : Params) : Obj := ⟨(.type "tuple"), none, .seq #[] 0, #[]⟩
noncomputable def o417 (P : Params) : Obj := ⟨.none, none, .func ⟨(.ofString "_law_taken"), (.ofString "_law_taken"), defArgs (tp 23), .stmts (defBody (tp 23)), defScope (tp 23), 0, [], .none, .none, .none, .none, none, .none, .none, 0⟩, #[]⟩
noncomputable def o418 (P : Params) : Obj := ⟨(.type "code"), none, .fields #[(.str (.ofString "_law_taken") 681), (.str (.ofString "_law_taken") 682), (.str (.ofString "/claim/cut.py") 683), (.int 108 0), (.int 1 0), (.int 0 0), (.int 0 0), (.int 3 0), (.ref 384), (.bool true), (.int 181 0), (.ref 385), .none, (.ref 386), (.ref 387), (.ref 388), (.int 686 0), (.int 108 0), (.str (.ofString "/claim/cut.py") 687)], #[]⟩
noncomputable def o419 (P : Params) : Obj := ⟨(.type "function"), none, .func ⟨(.ofString "_law_taken"), (.ofString "_law_taken"), defArgs (tp 23), .stmts (defBody (tp 23)), defScope (tp 23), 3, [], .none, .none, .none, (.str (.ofString "law_gridlanes_k04_exceptions") 661), none, (.ref 389), .none, 0⟩, #[]⟩
noncomputable def o420 (P : Params) : Obj := ⟨(.type "tuple"), none, .seq #[] 0, #[]⟩
noncomputable def o421 (P : Params) : Obj := ⟨.none, none, .fields #[], #[]⟩
noncomputable def o422 (P : Params) : Obj := ⟨(.type "tuple"), none, .seq #[(.str (.ofString "x") 692), (.str (.ofString "some") 693)] 0, #[]⟩
noncomputable def o423 (P : Params) : Obj := ⟨(.type "tuple"), none, .seq #[] 0, #[]⟩
noncomputable def o424 (P : Params) : Obj := ⟨.none, none, .func ⟨(.ofString "_law_by_place"), (.ofString "_law_by_place"), defArgs (tp 24), .stmts (defBody (tp 24)), defScope (tp 24), 0, [], .none, .none, .none, .none, none, .none, .none, 0⟩, #[]⟩
noncomputable def o425 (P : Params) : Obj := ⟨(.type "code"), none, .fields #[(.str (.ofString "_law_by_place") 689), (.str (.ofString "_law_by_place") 690), (.str (.ofString "/claim/cut.py") 691), (.int 116 0), (.int 1 0), (.int 0 0), (.int 0 0), (.int 3 0), (.ref 391), (.bool true), (.int 181 0), (.ref 392), .none, (.ref 393), (.ref 394), (.ref 395), (.int 694 0), (.int 116 0), (.str (.ofString "/claim/cut.py") 695)], #[]⟩
noncomputable def o426 (P : Params) : Obj := ⟨(.type "function"), none, .func ⟨(.ofString "_law_by_place"), (.ofString "_law_by_place"), defArgs (tp 24), .stmts (defBody (tp 24)), defScope (tp 24), 3, [], .none, .none, .none, (.str (.ofString "law_gridlanes_k04_exceptions") 661), none, (.ref 396), .none, 0⟩, #[]⟩
noncomputable def o427 (P : Params) : Obj := ⟨(.type "tuple"), none, .seq #[] 0, #[]⟩
noncomputable def o428 (P : Params) : Obj := ⟨.none, none, .fields #[], #[]⟩
noncomputable def o429 (P : Params) : Obj := ⟨(.type "tuple"), none, .seq #[(.str (.ofString "x") 700), (.str (.ofString "some") 701)] 0, #[]⟩
noncomputable def o430 (P : Params) : Obj := ⟨(.type "tuple"), none, .seq #[] 0, #[]⟩
noncomputable def o431 (P : Params) : Obj := ⟨.none, none, .func ⟨(.ofString "_law_by_name"), (.ofString "_law_by_name"), defArgs (tp 25), .stmts (defBody (tp 25)), defScope (tp 25), 0, [], .none, .none, .none, .none, none, .none, .none, 0⟩, #[]⟩
noncomputable def o432 (P : Params) : Obj := ⟨(.type "code"), none, .fields #[(.str (.ofString "_law_by_name") 697), (.str (.ofString "_law_by_name") 698), (.str (.ofString "/claim/cut.py") 699), (.int 122 0), (.int 1 0), (.int 0 0), (.int 0 0), (.int 3 0), (.ref 398), (.bool true), (.int 181 0), (.ref 399), .none, (.ref 400), (.ref 401), (.ref 402), (.int 702 0), (.int 122 0), (.str (.ofString "/claim/cut.py") 703)], #[]⟩
noncomputable def o433 (P : Params) : Obj := ⟨(.type "function"), none, .func ⟨(.ofString "_law_by_name"), (.ofString "_law_by_name"), defArgs (tp 25), .stmts (defBody (tp 25)), defScope (tp 25), 3, [], .none, .none, .none, (.str (.ofString "law_gridlanes_k04_exceptions") 661), none, (.ref 403), .none, 0⟩, #[]⟩
noncomputable def o434 (P : Params) : Obj := ⟨(.type "tuple"), none, .seq #[] 0, #[]⟩
noncomputable def o435 (P : Params) : Obj := ⟨.none, none, .fields #[], #[]⟩
noncomputable def o436 (P : Params) : Obj := ⟨(.type "tuple"), none, .seq #[(.str (.ofString "some") 708), (.str (.ofString "found") 709)] 0, #[]⟩
noncomputable def o437 (P : Params) : Obj := ⟨(.type "tuple"), none, .seq #[] 0, #[]⟩
noncomputable def o438 (P : Params) : Obj := ⟨.none, none, .func ⟨(.ofString "_law_fields"), (.ofString "_law_fields"), defArgs (tp 26), .stmts (defBody (tp 26)), defScope (tp 26), 0, [], .none, .none, .none, .none, none, .none, .none, 0⟩, #[]⟩
noncomputable def o439 (P : Params) : Obj := ⟨(.type "code"), none, .fields #[(.str (.ofString "_law_fields") 705), (.str (.ofString "_law_fields") 706), (.str (.ofString "/claim/cut.py") 707), (.int 130 0), (.int 1 0), (.int 0 0), (.int 0 0), (.int 3 0), (.ref 405), (.bool true), (.int 181 0), (.ref 406), .none, (.ref 407), (.ref 408), (.ref 409), (.int 710 0), (.int 130 0), (.str (.ofString "/claim/cut.py") 711)], #[]⟩
noncomputable def o440 (P : Params) : Obj := ⟨(.type "function"), none, .func ⟨(.ofString "_law_fields"), (.ofString "_law_fields"), defArgs (tp 26), .stmts (defBody (tp 26)), defScope (tp 26), 3, [], .none, .none, .none, (.str (.ofString "law_gridlanes_k04_exceptions") 661), none, (.ref 410), .none, 0⟩, #[]⟩
noncomputable def o441 (P : Params) : Obj := ⟨(.type "tuple"), none, .seq #[] 0, #[]⟩
noncomputable def o442 (P : Params) : Obj := ⟨.none, none, .fields #[], #[]⟩
noncomputable def o443 (P : Params) : Obj := ⟨.none, none, .func ⟨(.ofString "_law_right"), (.ofString "_law_right"), defArgs (tp 27), .stmts (defBody (tp 27)), defScope (tp 27), 0, [], .none, .none, .none, .none, none, .none, .none, 0⟩, #[]⟩
noncomputable def o444 (P : Params) : Obj := ⟨(.type "code"), none, .fields #[(.str (.ofString "_law_right") 713), (.str (.ofString "_law_right") 714), (.str (.ofString "/claim/cut.py") 715), (.int 137 0), (.int 1 0), (.int 0 0), (.int 0 0), (.int 3 0), (.ref 412), (.bool true), (.int 181 0), (.ref 413), .none, .none, .none, (.ref 414), (.int 716 0), (.int 137 0), (.str (.ofString "/claim/cut.py") 717)], #[]⟩
noncomputable def o445 (P : Params) : Obj := ⟨(.type "function"), none, .func ⟨(.ofString "_law_right"), (.ofString "_law_right"), defArgs (tp 27), .stmts (defBody (tp 27)), defScope (tp 27), 3, [], .none, .none, .none, (.str (.ofString "law_gridlanes_k04_exceptions") 661), none, (.ref 415), .none, 0⟩, #[]⟩
noncomputable def o446 (P : Params) : Obj := ⟨(.type "tuple"), none, .seq #[] 0, #[]⟩
noncomputable def o447 (P : Params) : Obj := ⟨.none, none, .fields #[], #[]⟩
noncomputable def o448 (P : Params) : Obj := ⟨(.type "tuple"), none, .seq #[(.str (.ofString "script") 722), (.str (.ofString "k") 723), (.str (.ofString "cell") 724), (.str (.ofString "well") 725)] 0, #[]⟩
noncomputable def o449 (P : Params) : Obj := ⟨(.type "tuple"), none, .seq #[] 0, #[]⟩
noncomputable def o450 (P : Params) : Obj := ⟨.none, none, .func ⟨(.ofString "law"), (.ofString "law"), defArgs (tp 28), .stmts (defBody (tp 28)), defScope (tp 28), 0, [], .none, .none, .none, .none, none, .none, .none, 0⟩, #[]⟩
noncomputable def o451 (P : Params) : Obj := ⟨(.type "code"), none, .fields #[(.str (.ofString "law") 719), (.str (.ofString "law") 720), (.str (.ofString "/claim/cut.py") 721), (.int 152 0), (.int 1 0), (.int 0 0), (.int 0 0), (.int 3 0), (.ref 417), (.bool true), (.int 181 0), (.ref 418), .none, (.ref 419), (.ref 420), (.ref 421), (.int 726 0), (.int 152 0), (.str (.ofString "/claim/cut.py") 727)], #[]⟩
noncomputable def o452 (P : Params) : Obj := ⟨(.type "function"), none, .func ⟨(.ofString "law"), (.ofString "law"), defArgs (tp 28), .stmts (defBody (tp 28)), defScope (tp 28), 3, [], .none, .none, .none, (.str (.ofString "law_gridlanes_k04_exceptions") 661), none, (.ref 422), .none, 0⟩, #[]⟩
noncomputable def t11 (P : Params) : BT := (.node (o0 P) (.node (o1 P) (.node (o377 P) (.node (o7 P) (.node (o17 P) (.node (o33 P) (.node (o68 P) (.node (o138 P) (.node (o275 P) .nil .nil) (.node (o412 P) .nil .nil)) (.node (o205 P) (.node (o345 P) .nil .nil) .nil)) (.node (o103 P) (.node (o170 P) (.node (o310 P) .nil .nil) (.node (o444 P) .nil .nil)) (.node (o240 P) (.node (o380 P) .nil .nil) .nil))) (.node (o52 P) (.node (o84 P) (.node (o154 P) (.node (o291 P) .nil .nil) (.node (o428 P) .nil .nil)) (.node (o224 P) (.node (o361 P) .nil .nil) .nil)) (.node (o119 P) (.node (o189 P) (.node (o326 P) .nil .nil) .nil) (.node (o259 P) (.node (o396 P) .nil .nil) .nil)))) (.node (o25 P) (.node (o41 P) (.node (o76 P) (.node (o146 P) (.node (o283 P) .nil .nil) (.node (o420 P) .nil .nil)) (.node (o216 P) (.node (o353 P) .nil .nil) .nil)) (.node (o111 P) (.node (o181 P) (.node (o318 P) .nil .nil) (.node (o452 P) .nil .nil)) (.node (o248 P) (.node (o388 P) .nil .nil) .nil))) (.node (o60 P) (.node (o95 P) (.node (o162 P) (.node (o302 P) .nil .nil) (.node (o436 P) .nil .nil)) (.node (o232 P) (.node (o369 P) .nil .nil) .nil)) (.node (o127 P) (.node (o197 P) (.node (o334 P) .nil .nil) .nil) (.node (o267 P) (.node (o404 P) .nil .nil) .nil))))) (.node (o11 P) (.node (o21 P) (.node (o37 P) (.node (o72 P) (.node (o142 P) (.node (o279 P) .nil .nil) (.node (o416 P) .nil .nil)) (.node (o209 P) (.node (o349 P) .nil .nil) .nil)) (.node (o107 P) (.node (o177 P) (.node (o314 P) .nil .nil) (.node (o448 P) .nil .nil)) (.node (o244 P) (.node (o384 P) .nil .nil) .nil))) (.node (o56 P) (.node (o88 P) (.node (o158 P) (.node (o298 P) .nil .nil) (.node (o432 P) .nil .nil)) (.node (o228 P) (.node (o365 P) .nil .nil) .nil)) (.node (o123 P) (.node (o193 P) (.node (o330 P) .nil .nil) .nil) (.node (o263 P) (.node (o400 P) .nil .nil) .nil)))) (.node (o29 P) (.node (o45 P) (.node (o80 P) (.node (o150 P) (.node (o287 P) .nil .nil) (.node (o424 P) .nil .nil)) (.node (o220 P) (.node (o357 P) .nil .nil) .nil)) (.node (o115 P) (.node (o185 P) (.node (o322 P) .nil .nil) .nil) (.node (o252 P) (.node (o392 P) .nil .nil) .nil))) (.node (o64 P) (.node (o99 P) (.node (o166 P) (.node (o306 P) .nil .nil) (.node (o440 P) .nil .nil)) (.node (o236 P) (.node (o373 P) .nil .nil) .nil)) (.node (o134 P) (.node (o201 P) (.node (o341 P) .nil .nil) .nil) (.node (o271 P) (.node (o408 P) .nil .nil) .nil)))))) (.node (o5 P) (.node (o9 P) (.node (o19 P) (.node (o35 P) (.node (o70 P) (.node (o140 P) (.node (o277 P) .nil .nil) (.node (o414 P) .nil .nil)) (.node (o207 P) (.node (o347 P) .nil .nil) .nil)) (.node (o105 P) (.node (o175 P) (.node (o312 P) .nil .nil) (.node (o446 P) .nil .nil)) (.node (o242 P) (.node (o382 P) .nil .nil) .nil))) (.node (o54 P) (.node (o86 P) (.node (o156 P) (.node (o293 P) .nil .nil) (.node (o430 P) .nil .nil)) (.node (o226 P) (.node (o363 P) .nil .nil) .nil)) (.node (o121 P) (.node (o191 P) (.node (o328 P) .nil .nil) .nil) (.node (o261 P) (.node (o398 P) .nil .nil) .nil)))) (.node (o27 P) (.node (o43 P) (.node (o78 P) (.node (o148 P) (.node (o285 P) .nil .nil) (.node (o422 P) .nil .nil)) (.node (o218 P) (.node (o355 P) .nil .nil) .nil)) (.node (o113 P) (.node (o183 P) (.node (o320 P) .nil .nil) .nil) (.node (o250 P) (.node (o390 P) .nil .nil) .nil))) (.node (o62 P) (.node (o97 P) (.node (o164 P) (.node (o304 P) .nil .nil) (.node (o438 P) .nil .nil)) (.node (o234 P) (.node (o371 P) .nil .nil) .nil)) (.node (o129 P) (.node (o199 P) (.node (o339 P) .nil .nil) .nil) (.node (o269 P) (.node (o406 P) .nil .nil) .nil))))) (.node (o13 P) (.node (o23 P) (.node (o39 P) (.node (o74 P) (.node (o144 P) (.node (o281 P) .nil .nil) (.node (o418 P) .nil .nil)) (.node (o211 P) (.node (o351 P) .nil .nil) .nil)) (.node (o109 P) (.node (o179 P) (.node (o316 P) .nil .nil) (.node (o450 P) .nil .nil)) (.node (o246 P) (.node (o386 P) .nil .nil) .nil))) (.node (o58 P) (.node (o93 P) (.node (o160 P) (.node (o300 P) .nil .nil) (.node (o434 P) .nil .nil)) (.node (o230 P) (.node (o367 P) .nil .nil) .nil)) (.node (o125 P) (.node (o195 P) (.node (o332 P) .nil .nil) .nil) (.node (o265 P) (.node (o402 P) .nil .nil) .nil)))) (.node (o31 P) (.node (o47 P) (.node (o82 P) (.node (o152 P) (.node (o289 P) .nil .nil) (.node (o426 P) .nil .nil)) (.node (o222 P) (.node (o359 P) .nil .nil) .nil)) (.node (o117 P) (.node (o187 P) (.node (o324 P) .nil .nil) .nil) (.node (o257 P) (.node (o394 P) .nil .nil) .nil))) (.node (o66 P) (.node (o101 P) (.node (o168 P) (.node (o308 P) .nil .nil) (.node (o442 P) .nil .nil)) (.node (o238 P) (.node (o375 P) .nil .nil) .nil)) (.node (o136 P) (.node (o203 P) (.node (o343 P) .nil .nil) .nil) (.node (o273 P) (.node (o410 P) .nil .nil) .nil))))))) (.node (o2 P) (.node (o4 P) (.node (o8 P) (.node (o18 P) (.node (o34 P) (.node (o69 P) (.node (o139 P) (.node (o276 P) .nil .nil) (.node (o413 P) .nil .nil)) (.node (o206 P) (.node (o346 P) .nil .nil) .nil)) (.node (o104 P) (.node (o171 P) (.node (o311 P) .nil .nil) (.node (o445 P) .nil .nil)) (.node (o241 P) (.node (o381 P) .nil .nil) .nil))) (.node (o53 P) (.node (o85 P) (.node (o155 P) (.node (o292 P) .nil .nil) (.node (o429 P) .nil .nil)) (.node (o225 P) (.node (o362 P) .nil .nil) .nil)) (.node (o120 P) (.node (o190 P) (.node (o327 P) .nil .nil) .nil) (.node (o260 P) (.node (o397 P) .nil .nil) .nil)))) (.node (o379 P) (.node (o42 P) (.node (o77 P) (.node (o147 P) (.node (o284 P) .nil .nil) (.node (o421 P) .nil .nil)) (.node (o217 P) (.node (o354 P) .nil .nil) .nil)) (.node (o112 P) (.node (o182 P) (.node (o319 P) .nil .nil) .nil) (.node (o249 P) (.node (o389 P) .nil .nil) .nil))) (.node (o61 P) (.node (o96 P) (.node (o163 P) (.node (o303 P) .nil .nil) (.node (o437 P) .nil .nil)) (.node (o233 P) (.node (o370 P) .nil .nil) .nil)) (.node (o128 P) (.node (o198 P) (.node (o335 P) .nil .nil) .nil) (.node (o268 P) (.node (o405 P) .nil .nil) .nil))))) (.node (o378 P) (.node (o22 P) (.node (o38 P) (.node (o73 P) (.node (o143 P) (.node (o280 P) .nil .nil) (.node (o417 P) .nil .nil)) (.node (o210 P) (.node (o350 P) .nil .nil) .nil)) (.node (o108 P) (.node (o178 P) (.node (o315 P) .nil .nil) (.node (o449 P) .nil .nil)) (.node (o245 P) (.node (o385 P) .nil .nil) .nil))) (.node (o57 P) (.node (o89 P) (.node (o159 P) (.node (o299 P) .nil .nil) (.node (o433 P) .nil .nil)) (.node (o229 P) (.node (o366 P) .nil .nil) .nil)) (.node (o124 P) (.node (o194 P) (.node (o331 P) .nil .nil) .nil) (.node (o264 P) (.node (o401 P) .nil .nil) .nil)))) (.node (o30 P) (.node (o46 P) (.node (o81 P) (.node (o151 P) (.node (o288 P) .nil .nil) (.node (o425 P) .nil .nil)) (.node (o221 P) (.node (o358 P) .nil .nil) .nil)) (.node (o116 P) (.node (o186 P) (.node (o323 P) .nil .nil) .nil) (.node (o253 P) (.node (o393 P) .nil .nil) .nil))) (.node (o65 P) (.node (o100 P) (.node (o167 P) (.node (o307 P) .nil .nil) (.node (o441 P) .nil .nil)) (.node (o237 P) (.node (o374 P) .nil .nil) .nil)) (.node (o135 P) (.node (o202 P) (.node (o342 P) .nil .nil) .nil) (.node (o272 P) (.node (o409 P) .nil .nil) .nil)))))) (.node (o6 P) (.node (o10 P) (.node (o20 P) (.node (o36 P) (.node (o71 P) (.node (o141 P) (.node (o278 P) .nil .nil) (.node (o415 P) .nil .nil)) (.node (o208 P) (.node (o348 P) .nil .nil) .nil)) (.node (o106 P) (.node (o176 P) (.node (o313 P) .nil .nil) (.node (o447 P) .nil .nil)) (.node (o243 P) (.node (o383 P) .nil .nil) .nil))) (.node (o55 P) (.node (o87 P) (.node (o157 P) (.node (o294 P) .nil .nil) (.node (o431 P) .nil .nil)) (.node (o227 P) (.node (o364 P) .nil .nil) .nil)) (.node (o122 P) (.node (o192 P) (.node (o329 P) .nil .nil) .nil) (.node (o262 P) (.node (o399 P) .nil .nil) .nil)))) (.node (o28 P) (.node (o44 P) (.node (o79 P) (.node (o149 P) (.node (o286 P) .nil .nil) (.node (o423 P) .nil .nil)) (.node (o219 P) (.node (o356 P) .nil .nil) .nil)) (.node (o114 P) (.node (o184 P) (.node (o321 P) .nil .nil) .nil) (.node (o251 P) (.node (o391 P) .nil .nil) .nil))) (.node (o63 P) (.node (o98 P) (.node (o165 P) (.node (o305 P) .nil .nil) (.node (o439 P) .nil .nil)) (.node (o235 P) (.node (o372 P) .nil .nil) .nil)) (.node (o130 P) (.node (o200 P) (.node (o340 P) .nil .nil) .nil) (.node (o270 P) (.node (o407 P) .nil .nil) .nil))))) (.node (o14 P) (.node (o24 P) (.node (o40 P) (.node (o75 P) (.node (o145 P) (.node (o282 P) .nil .nil) (.node (o419 P) .nil .nil)) (.node (o212 P) (.node (o352 P) .nil .nil) .nil)) (.node (o110 P) (.node (o180 P) (.node (o317 P) .nil .nil) (.node (o451 P) .nil .nil)) (.node (o247 P) (.node (o387 P) .nil .nil) .nil))) (.node (o59 P) (.node (o94 P) (.node (o161 P) (.node (o301 P) .nil .nil) (.node (o435 P) .nil .nil)) (.node (o231 P) (.node (o368 P) .nil .nil) .nil)) (.node (o126 P) (.node (o196 P) (.node (o333 P) .nil .nil) .nil) (.node (o266 P) (.node (o403 P) .nil .nil) .nil)))) (.node (o32 P) (.node (o48 P) (.node (o83 P) (.node (o153 P) (.node (o290 P) .nil .nil) (.node (o427 P) .nil .nil)) (.node (o223 P) (.node (o360 P) .nil .nil) .nil)) (.node (o118 P) (.node (o188 P) (.node (o325 P) .nil .nil) .nil) (.node (o258 P) (.node (o395 P) .nil .nil) .nil))) (.node (o67 P) (.node (o102 P) (.node (o169 P) (.node (o309 P) .nil .nil) (.node (o443 P) .nil .nil)) (.node (o239 P) (.node (o376 P) .nil .nil) .nil)) (.node (o137 P) (.node (o204 P) (.node (o344 P) .nil .nil) .nil) (.node (o274 P) (.node (o411 P) .nil .nil) .nil))))))))
noncomputable def s11 (P : Params) (os : OsState) : SharedT := ⟨t11 P, 424, {}, #[], boot_drawn, 729, os⟩
theorem pre (w : World) : ∀ os : OsState, topF (HandSHeadRun.stepQ (HandSHeadRun.denQ HandSHeadRun.tabQ) pp w) n0 ann 12 (s0 w.params os) (topStub pp) = some (s1 w.params os, ⟨HandSHeadRun.denQ HandSHeadRun.tabQ (.body (behindTheImports pp) env), .body (behindTheImports pp) env, ⟨0, 0, 0, 0⟩, [topFrame q0]⟩) := by
  intro os
  kernel_rfl
theorem blk (w : World) : ∀ os : OsState, segF (HandSHeadRun.stepQ (HandSHeadRun.denQ HandSHeadRun.tabQ) pp w) n0 ann 1 1 (s1 w.params os) (blockOf (behindTheImports pp) env (.body (behindTheImports pp) env) ⟨0, 0, 0, 0⟩ [topFrame q0]) = some (.next, s1 w.params os, .body (behindTheImports pp) env, ⟨0, 0, 0, 0⟩) := by
  intro os
  kernel_rfl
theorem g1 (w : World) : ∀ os : OsState, segF (HandSHeadRun.stepQ (HandSHeadRun.denQ HandSHeadRun.tabQ) pp w) n0 ann 1 441 (s1 w.params os) (piecesOf (((behindTheImports pp).drop 0).take 3) env (.body (behindTheImports pp) env) ⟨0, 0, 0, 0⟩ [topFrame q0]) = some (.next, s2 w.params os, .body (behindTheImports pp) env, ⟨4, 0, 8, 24⟩) := by
  intro os
  kernel_rfl
theorem g2 (w : World) : ∀ os : OsState, segF (HandSHeadRun.stepQ (HandSHeadRun.denQ HandSHeadRun.tabQ) pp w) n0 ann 1 495 (s2 w.params os) (piecesOf (((behindTheImports pp).drop 3).take 2) env (.body (behindTheImports pp) env) ⟨4, 0, 8, 24⟩ [topFrame q0]) = some (.next, s3 w.params os, .body (behindTheImports pp) env, ⟨15, 0, 20, 26⟩) := by
  intro os
  kernel_rfl
theorem g3 (w : World) : ∀ os : OsState, segF (HandSHeadRun.stepQ (HandSHeadRun.denQ HandSHeadRun.tabQ) pp w) n0 ann 1 493 (s3 w.params os) (piecesOf (((behindTheImports pp).drop 5).take 2) env (.body (behindTheImports pp) env) ⟨15, 0, 20, 26⟩ [topFrame q0]) = some (.next, s4 w.params os, .body (behindTheImports pp) env, ⟨26, 0, 31, 26⟩) := by
  intro os
  kernel_rfl
theorem g4 (w : World) : ∀ os : OsState, segF (HandSHeadRun.stepQ (HandSHeadRun.denQ HandSHeadRun.tabQ) pp w) n0 ann 1 491 (s4 w.params os) (piecesOf (((behindTheImports pp).drop 7).take 2) env (.body (behindTheImports pp) env) ⟨26, 0, 31, 26⟩ [topFrame q0]) = some (.next, s5 w.params os, .body (behindTheImports pp) env, ⟨37, 0, 41, 24⟩) := by
  intro os
  kernel_rfl
theorem g5 (w : World) : ∀ os : OsState, segF (HandSHeadRun.stepQ (HandSHeadRun.denQ HandSHeadRun.tabQ) pp w) n0 ann 1 491 (s5 w.params os) (piecesOf (((behindTheImports pp).drop 9).take 2) env (.body (behindTheImports pp) env) ⟨37, 0, 41, 24⟩ [topFrame q0]) = some (.next, s6 w.params os, .body (behindTheImports pp) env, ⟨47, 0, 51, 24⟩) := by
  intro os
  kernel_rfl
theorem g6 (w : World) : ∀ os : OsState, segF (HandSHeadRun.stepQ (HandSHeadRun.denQ HandSHeadRun.tabQ) pp w) n0 ann 1 493 (s6 w.params os) (piecesOf (((behindTheImports pp).drop 11).take 2) env (.body (behindTheImports pp) env) ⟨47, 0, 51, 24⟩ [topFrame q0]) = some (.next, s7 w.params os, .body (behindTheImports pp) env, ⟨57, 0, 62, 26⟩) := by
  intro os
  kernel_rfl
theorem g7 (w : World) : ∀ os : OsState, segF (HandSHeadRun.stepQ (HandSHeadRun.denQ HandSHeadRun.tabQ) pp w) n0 ann 1 489 (s7 w.params os) (piecesOf (((behindTheImports pp).drop 13).take 2) env (.body (behindTheImports pp) env) ⟨57, 0, 62, 26⟩ [topFrame q0]) = some (.next, s8 w.params os, .body (behindTheImports pp) env, ⟨67, 0, 71, 26⟩) := by
  intro os
  kernel_rfl
theorem g8 (w : World) : ∀ os : OsState, segF (HandSHeadRun.stepQ (HandSHeadRun.denQ HandSHeadRun.tabQ) pp w) n0 ann 1 491 (s8 w.params os) (piecesOf (((behindTheImports pp).drop 15).take 2) env (.body (behindTheImports pp) env) ⟨67, 0, 71, 26⟩ [topFrame q0]) = some (.next, s9 w.params os, .body (behindTheImports pp) env, ⟨77, 0, 81, 26⟩) := by
  intro os
  kernel_rfl
theorem g9 (w : World) : ∀ os : OsState, segF (HandSHeadRun.stepQ (HandSHeadRun.denQ HandSHeadRun.tabQ) pp w) n0 ann 1 491 (s9 w.params os) (piecesOf (((behindTheImports pp).drop 17).take 2) env (.body (behindTheImports pp) env) ⟨77, 0, 81, 26⟩ [topFrame q0]) = some (.next, s10 w.params os, .body (behindTheImports pp) env, ⟨87, 0, 91, 24⟩) := by
  intro os
  kernel_rfl
theorem g10 (w : World) : ∀ os : OsState, segF (HandSHeadRun.stepQ (HandSHeadRun.denQ HandSHeadRun.tabQ) pp w) n0 ann 1 493 (s10 w.params os) (piecesOf (((behindTheImports pp).drop 19).take 10) env (.body (behindTheImports pp) env) ⟨87, 0, 91, 24⟩ [topFrame q0]) = some (.next, s11 w.params os, .body (behindTheImports pp) env, ⟨152, 0, 157, 15⟩) := by
  intro os
  kernel_rfl
theorem fin (w : World) : ∀ os : OsState, HandSHeadRun.goF (HandSHeadRun.stepQ (HandSHeadRun.denQ HandSHeadRun.tabQ) pp w) n0 ann 2 (s11 w.params os) ⟨doneF .next, .body (behindTheImports pp) env, ⟨152, 0, 157, 15⟩, [topFrame q0]⟩ = some (s11 w.params os) := by
  intro os
  kernel_rfl
theorem body_eq : behindTheImports pp = ((behindTheImports pp).drop 0).take 3 ++ (((behindTheImports pp).drop 3).take 2 ++ (((behindTheImports pp).drop 5).take 2 ++ (((behindTheImports pp).drop 7).take 2 ++ (((behindTheImports pp).drop 9).take 2 ++ (((behindTheImports pp).drop 11).take 2 ++ (((behindTheImports pp).drop 13).take 2 ++ (((behindTheImports pp).drop 15).take 2 ++ (((behindTheImports pp).drop 17).take 2 ++ (((behindTheImports pp).drop 19).take 10 ++ []))))))))) := by kernel_rfl
abbrev steps : Nat := 12 + (1 + (441 + (495 + (493 + (491 + (491 + (493 + (489 + (491 + (491 + (493 + (2))))))))))))
def as : List Addr := [3, 2, 6, 4, 24, 44, 63, 82, 101, 120, 139, 158, 177, 196, 215, 234, 253, 272, 291, 310, 329, 348, 367, 376, 383, 390, 397, 404, 411, 416, 423, 0, 23, 43, 62, 81, 100, 119, 138, 157, 176, 195, 214, 233, 252, 271, 290, 309, 328, 347, 366, 375, 382, 389, 396, 403, 410, 415, 422, 22, 25, 41, 42, 60, 61, 79, 80, 98, 99, 117, 118, 136, 137, 155, 156, 174, 175, 193, 194, 212, 213, 231, 232, 250, 251, 269, 270, 288, 289, 307, 308, 326, 327, 345, 346, 364, 365, 370, 371, 372, 373, 374, 377, 378, 379, 380, 381, 384, 385, 386, 387, 388, 391, 392, 393, 394, 395, 398, 399, 400, 401, 402, 405, 406, 407, 408, 409, 412, 413, 414, 417, 418, 419, 420, 421, 40, 59, 78, 97, 116, 135, 154, 173, 192, 211, 230, 249, 268, 287, 306, 325, 344, 363, 35, 36, 37, 38, 39, 54, 55, 56, 57, 58, 73, 74, 75, 76, 77, 92, 93, 94, 95, 96, 111, 112, 113, 114, 115, 130, 131, 132, 133, 134, 149, 150, 151, 152, 153, 168, 169, 170, 171, 172, 187, 188, 189, 190, 191, 206, 207, 208, 209, 210, 225, 226, 227, 228, 229, 244, 245, 246, 247, 248, 263, 264, 265, 266, 267, 282, 283, 284, 285, 286, 301, 302, 303, 304, 305, 320, 321, 322, 323, 324, 339, 340, 341, 342, 343, 358, 359, 360, 361, 362]
noncomputable def KF (P : Params) : Frag := [(3, o377 P), (2, o2 P), (6, o6 P), (4, o4 P), (24, o379 P), (44, o46 P), (63, o68 P), (82, o87 P), (101, o109 P), (120, o128 P), (139, o150 P), (158, o169 P), (177, o191 P), (196, o210 P), (215, o232 P), (234, o251 P), (253, o273 P), (272, o292 P), (291, o314 P), (310, o333 P), (329, o355 P), (348, o374 P), (367, o396 P), (376, o405 P), (383, o412 P), (390, o419 P), (397, o426 P), (404, o433 P), (411, o440 P), (416, o445 P), (423, o452 P), (0, o0 P), (23, o25 P), (43, o45 P), (62, o67 P), (81, o86 P), (100, o108 P), (119, o127 P), (138, o149 P), (157, o168 P), (176, o190 P), (195, o209 P), (214, o231 P), (233, o250 P), (252, o272 P), (271, o291 P), (290, o313 P), (309, o332 P), (328, o354 P), (347, o373 P), (366, o395 P), (375, o404 P), (382, o411 P), (389, o418 P), (396, o425 P), (403, o432 P), (410, o439 P), (415, o444 P), (422, o451 P), (22, o24 P), (25, o27 P), (41, o43 P), (42, o44 P), (60, o65 P), (61, o66 P), (79, o84 P), (80, o85 P), (98, o106 P), (99, o107 P), (117, o125 P), (118, o126 P), (136, o147 P), (137, o148 P), (155, o166 P), (156, o167 P), (174, o188 P), (175, o189 P), (193, o207 P), (194, o208 P), (212, o229 P), (213, o230 P), (231, o248 P), (232, o249 P), (250, o270 P), (251, o271 P), (269, o289 P), (270, o290 P), (288, o311 P), (289, o312 P), (307, o330 P), (308, o331 P), (326, o352 P), (327, o353 P), (345, o371 P), (346, o372 P), (364, o393 P), (365, o394 P), (370, o399 P), (371, o400 P), (372, o401 P), (373, o402 P), (374, o403 P), (377, o406 P), (378, o407 P), (379, o408 P), (380, o409 P), (381, o410 P), (384, o413 P), (385, o414 P), (386, o415 P), (387, o416 P), (388, o417 P), (391, o420 P), (392, o421 P), (393, o422 P), (394, o423 P), (395, o424 P), (398, o427 P), (399, o428 P), (400, o429 P), (401, o430 P), (402, o431 P), (405, o434 P), (406, o435 P), (407, o436 P), (408, o437 P), (409, o438 P), (412, o441 P), (413, o442 P), (414, o443 P), (417, o446 P), (418, o447 P), (419, o448 P), (420, o449 P), (421, o450 P), (40, o42 P), (59, o64 P), (78, o83 P), (97, o105 P), (116, o124 P), (135, o146 P), (154, o165 P), (173, o187 P), (192, o206 P), (211, o228 P), (230, o247 P), (249, o269 P), (268, o288 P), (287, o310 P), (306, o329 P), (325, o351 P), (344, o370 P), (363, o392 P), (35, o37 P), (36, o38 P), (37, o39 P), (38, o40 P), (39, o41 P), (54, o59 P), (55, o60 P), (56, o61 P), (57, o62 P), (58, o63 P), (73, o78 P), (74, o79 P), (75, o80 P), (76, o81 P), (77, o82 P), (92, o100 P), (93, o101 P), (94, o102 P), (95, o103 P), (96, o104 P), (111, o119 P), (112, o120 P), (113, o121 P), (114, o122 P), (115, o123 P), (130, o141 P), (131, o142 P), (132, o143 P), (133, o144 P), (134, o145 P), (149, o160 P), (150, o161 P), (151, o162 P), (152, o163 P), (153, o164 P), (168, o182 P), (169, o183 P), (170, o184 P), (171, o185 P), (172, o186 P), (187, o201 P), (188, o202 P), (189, o203 P), (190, o204 P), (191, o205 P), (206, o223 P), (207, o224 P), (208, o225 P), (209, o226 P), (210, o227 P), (225, o242 P), (226, o243 P), (227, o244 P), (228, o245 P), (229, o246 P), (244, o264 P), (245, o265 P), (246, o266 P), (247, o267 P), (248, o268 P), (263, o283 P), (264, o284 P), (265, o285 P), (266, o286 P), (267, o287 P), (282, o305 P), (283, o306 P), (284, o307 P), (285, o308 P), (286, o309 P), (301, o324 P), (302, o325 P), (303, o326 P), (304, o327 P), (305, o328 P), (320, o346 P), (321, o347 P), (322, o348 P), (323, o349 P), (324, o350 P), (339, o365 P), (340, o366 P), (341, o367 P), (342, o368 P), (343, o369 P), (358, o387 P), (359, o388 P), (360, o389 P), (361, o390 P), (362, o391 P)]
def tabsA : List Addr := [371, 378, 385, 392, 399, 406, 413, 418, 36, 55, 74, 93, 112, 131, 150, 169, 188, 207, 226, 245, 264, 283, 302, 321, 340, 359]
noncomputable def KG (P : Params) : Frag := [(3, o377 P), (2, o2 P), (6, o6 P), (4, o4 P), (24, o379 P), (44, o46 P), (63, o68 P), (82, o87 P), (101, o109 P), (120, o128 P), (139, o150 P), (158, o169 P), (177, o191 P), (196, o210 P), (215, o232 P), (234, o251 P), (253, o273 P), (272, o292 P), (291, o314 P), (310, o333 P), (329, o355 P), (348, o374 P), (367, o396 P), (376, o405 P), (383, o412 P), (390, o419 P), (397, o426 P), (404, o433 P), (411, o440 P), (416, o445 P), (423, o452 P), (0, o0 P), (23, o25 P), (43, o45 P), (62, o67 P), (81, o86 P), (100, o108 P), (119, o127 P), (138, o149 P), (157, o168 P), (176, o190 P), (195, o209 P), (214, o231 P), (233, o250 P), (252, o272 P), (271, o291 P), (290, o313 P), (309, o332 P), (328, o354 P), (347, o373 P), (366, o395 P), (375, o404 P), (382, o411 P), (389, o418 P), (396, o425 P), (403, o432 P), (410, o439 P), (415, o444 P), (422, o451 P), (22, o24 P), (25, o27 P), (41, o43 P), (42, o44 P), (60, o65 P), (61, o66 P), (79, o84 P), (80, o85 P), (98, o106 P), (99, o107 P), (117, o125 P), (118, o126 P), (136, o147 P), (137, o148 P), (155, o166 P), (156, o167 P), (174, o188 P), (175, o189 P), (193, o207 P), (194, o208 P), (212, o229 P), (213, o230 P), (231, o248 P), (232, o249 P), (250, o270 P), (251, o271 P), (269, o289 P), (270, o290 P), (288, o311 P), (289, o312 P), (307, o330 P), (308, o331 P), (326, o352 P), (327, o353 P), (345, o371 P), (346, o372 P), (364, o393 P), (365, o394 P), (370, o399 P), (372, o401 P), (373, o402 P), (374, o403 P), (377, o406 P), (379, o408 P), (380, o409 P), (381, o410 P), (384, o413 P), (386, o415 P), (387, o416 P), (388, o417 P), (391, o420 P), (393, o422 P), (394, o423 P), (395, o424 P), (398, o427 P), (400, o429 P), (401, o430 P), (402, o431 P), (405, o434 P), (407, o436 P), (408, o437 P), (409, o438 P), (412, o441 P), (414, o443 P), (417, o446 P), (419, o448 P), (420, o449 P), (421, o450 P), (40, o42 P), (59, o64 P), (78, o83 P), (97, o105 P), (116, o124 P), (135, o146 P), (154, o165 P), (173, o187 P), (192, o206 P), (211, o228 P), (230, o247 P), (249, o269 P), (268, o288 P), (287, o310 P), (306, o329 P), (325, o351 P), (344, o370 P), (363, o392 P), (35, o37 P), (37, o39 P), (38, o40 P), (39, o41 P), (54, o59 P), (56, o61 P), (57, o62 P), (58, o63 P), (73, o78 P), (75, o80 P), (76, o81 P), (77, o82 P), (92, o100 P), (94, o102 P), (95, o103 P), (96, o104 P), (111, o119 P), (113, o121 P), (114, o122 P), (115, o123 P), (130, o141 P), (132, o143 P), (133, o144 P), (134, o145 P), (149, o160 P), (151, o162 P), (152, o163 P), (153, o164 P), (168, o182 P), (170, o184 P), (171, o185 P), (172, o186 P), (187, o201 P), (189, o203 P), (190, o204 P), (191, o205 P), (206, o223 P), (208, o225 P), (209, o226 P), (210, o227 P), (225, o242 P), (227, o244 P), (228, o245 P), (229, o246 P), (244, o264 P), (246, o266 P), (247, o267 P), (248, o268 P), (263, o283 P), (265, o285 P), (266, o286 P), (267, o287 P), (282, o305 P), (284, o307 P), (285, o308 P), (286, o309 P), (301, o324 P), (303, o326 P), (304, o327 P), (305, o328 P), (320, o346 P), (322, o348 P), (323, o349 P), (324, o350 P), (339, o365 P), (341, o367 P), (342, o368 P), (343, o369 P), (358, o387 P), (360, o389 P), (361, o390 P), (362, o391 P)]
theorem kg_eq (P : Params) : KG P = (KF P).filter fun x => !tabsA.contains x.1 := by kernel_rfl
noncomputable abbrev SF (P : Params) (os : OsState) : SharedT := s11 P os
theorem boot (w : World) (os : OsState) : (s0 w.params os).abs = ⟨boot_heap w.params, #[], boot_drawn, boot_toks, os⟩ := by kernel_rfl
theorem all (w : World) (os : OsState) : topRun treeTable pp w n0 ann steps ⟨boot_heap w.params, #[], boot_drawn, boot_toks, os⟩ (topStub pp) = some (SF w.params os).abs := by
  rw [← boot]
  refine go_top (topF_den (pre w os)) (piece_block (segF_run (blk w os)) ?_)
  exact cut_rest body_eq (piece_app (segF_run (g1 w os)) (piece_app (segF_run (g2 w os)) (piece_app (segF_run (g3 w os)) (piece_app (segF_run (g4 w os)) (piece_app (segF_run (g5 w os)) (piece_app (segF_run (g6 w os)) (piece_app (segF_run (g7 w os)) (piece_app (segF_run (g8 w os)) (piece_app (segF_run (g9 w os)) (piece_app (segF_run (g10 w os)) (piece_nil (HandSHeadRun.goF_ok (goQ (fin w os))))))))))))))
end PL.k04.hd

namespace PL.k04
open PySem PySem.Spec PyProof.Rows L2
def sp_law (K : PySem.W.Frag) : Sp := fun vs H Q _ => spM K (TT K) 1 f_law vs H Q NoX
theorem law_F {P : Program} {w : World} {K : PySem.W.Frag} {mg : Str → Option Value} {h : Heap} {a : Addr} (KX : K.In h) (G : h.Ns mainGlobals mg) (hmg : mg "law" = some (.ref a)) (z1 : He.SaysD fa fn K) (z2 : exB K = true) :
    ∃ fd : FuncData, (∀ (s : Shared) (u : Value), BindsTo s fd ⟨[u], []⟩ [("script", u)]) ∧ ∀ base : Heap, K.In base → base.Ns mainGlobals mg → TBs mks K mg base → FnOk P w K mg base L2.CX0 5 a fd ["script"] (sp_law K) := by
  have Z : Fs K mg := ⟨⟨h, KX, G⟩, z1, z2⟩
  obtain ⟨fd, F⟩ := Z.says.def_ 7 (d := d_law) rfl
  have eg : a = He.ga K "law" := by
    have g := He.glo_ok KX G (Z.fact 0 rfl)
    rw [hmg] at g
    injection g with g
    injection g
  subst eg
  refine ⟨fd, fun s u => L2.FunD.bindsA (ps := ["script"]) F (fun _ _ _ _ _ _ us hl => match us, hl with | [_], _ => rfl) s [u] rfl, fun base _ _ Tb => ?_⟩
  obtain ⟨fd', F', O, _⟩ := ok_law (P := P) (w := w) (base := base) Z Tb
  have e2 := FunD_uniq F F'
  subst e2
  exact FnOk_close O
abbrev RR : PySem.W.OpenRow := PySem.W.OpenLaw.row PySem.Challenge.rw_gridlanes_k04_exceptions
abbrev qq : Program := PySem.W.view RR.prog [28]
theorem as_eq (P : Params) : (hd.KF P).map (·.1) = hd.as := by kernel_rfl
noncomputable abbrev hk : PySem.W.Hook := PL.Hd.hookE hd.KF hd.as as_eq
def ob (s : PySem.W.SharedT) : List (Option Obj) := hd.as.map (HandSHeadRun.getT s)
theorem ob_eq (s : PySem.W.SharedT) : ob s = hk.obs s.abs := PL.Hd.obE_eq s
theorem zf0 (P : Params) : ((fa.take 15).all fun f => f.ok (hd.KG P)) = true := by kernel_rfl
theorem zf1 (P : Params) : (((fa.drop 15).take 15).all fun f => f.ok (hd.KG P)) = true := by kernel_rfl
theorem zf2 (P : Params) : (((fa.drop 30).take 15).all fun f => f.ok (hd.KG P)) = true := by kernel_rfl
theorem zf3 (P : Params) : ((fa.drop 45).all fun f => f.ok (hd.KG P)) = true := by kernel_rfl
theorem zf (P : Params) : (fa.all fun f => f.ok (hd.KG P)) = true := PL.Hd.all_cut 15 (zf0 P) (PL.Hd.all_cut 15 (zf1 P) (by rw [List.drop_drop]; exact PL.Hd.all_cut 15 (zf2 P) (by rw [List.drop_drop]; exact zf3 P)))
theorem zd0 (P : Params) : ((fn.take 8).all fun d => d.ok (hd.KG P)) = true := by kernel_rfl
theorem zd1 (P : Params) : (((fn.drop 8).take 8).all fun d => d.ok (hd.KG P)) = true := by kernel_rfl
theorem zd2 (P : Params) : (((fn.drop 16).take 8).all fun d => d.ok (hd.KG P)) = true := by kernel_rfl
theorem zd3 (P : Params) : ((fn.drop 24).all fun d => d.ok (hd.KG P)) = true := by kernel_rfl
theorem zd (P : Params) : (fn.all fun d => d.ok (hd.KG P)) = true := PL.Hd.all_cut 8 (zd0 P) (PL.Hd.all_cut 8 (zd1 P) (by rw [List.drop_drop]; exact PL.Hd.all_cut 8 (zd2 P) (by rw [List.drop_drop]; exact zd3 P)))
theorem zm0 (P : Params) : (fn.take 8).map (fun d => He.fnW (hd.KG P) d.at_) = (fn.take 8).map He.DefD.val := by kernel_rfl
theorem zm1 (P : Params) : ((fn.drop 8).take 8).map (fun d => He.fnW (hd.KG P) d.at_) = ((fn.drop 8).take 8).map He.DefD.val := by kernel_rfl
theorem zm2 (P : Params) : ((fn.drop 16).take 8).map (fun d => He.fnW (hd.KG P) d.at_) = ((fn.drop 16).take 8).map He.DefD.val := by kernel_rfl
theorem zm3 (P : Params) : (fn.drop 24).map (fun d => He.fnW (hd.KG P) d.at_) = (fn.drop 24).map He.DefD.val := by kernel_rfl
theorem zm (P : Params) : fn.map (fun d => He.fnW (hd.KG P) d.at_) = fn.map He.DefD.val := PL.Hd.map_cut 8 (zm0 P) (PL.Hd.map_cut 8 (zm1 P) (by rw [List.drop_drop]; exact PL.Hd.map_cut 8 (zm2 P) (by rw [List.drop_drop]; exact zm3 P)))
theorem zx0 (P : Params) : ((exs.take 1).all fun f => f (hd.KG P)) = true := by kernel_rfl
theorem zx1 (P : Params) : (((exs.drop 1).take 1).all fun f => f (hd.KG P)) = true := by kernel_rfl
theorem zx2 (P : Params) : (((exs.drop 2).take 1).all fun f => f (hd.KG P)) = true := by kernel_rfl
theorem zx3 (P : Params) : (((exs.drop 3).take 1).all fun f => f (hd.KG P)) = true := by kernel_rfl
theorem zx4 (P : Params) : (((exs.drop 4).take 1).all fun f => f (hd.KG P)) = true := by kernel_rfl
theorem zx5 (P : Params) : (((exs.drop 5).take 1).all fun f => f (hd.KG P)) = true := by kernel_rfl
theorem zx6 (P : Params) : (((exs.drop 6).take 1).all fun f => f (hd.KG P)) = true := by kernel_rfl
theorem zx7 (P : Params) : (((exs.drop 7).take 1).all fun f => f (hd.KG P)) = true := by kernel_rfl
theorem zx8 (P : Params) : (((exs.drop 8).take 1).all fun f => f (hd.KG P)) = true := by kernel_rfl
theorem zx9 (P : Params) : (((exs.drop 9).take 1).all fun f => f (hd.KG P)) = true := by kernel_rfl
theorem zx10 (P : Params) : (((exs.drop 10).take 1).all fun f => f (hd.KG P)) = true := by kernel_rfl
theorem zx11 (P : Params) : (((exs.drop 11).take 1).all fun f => f (hd.KG P)) = true := by kernel_rfl
theorem zx12 (P : Params) : (((exs.drop 12).take 1).all fun f => f (hd.KG P)) = true := by kernel_rfl
theorem zx13 (P : Params) : (((exs.drop 13).take 1).all fun f => f (hd.KG P)) = true := by kernel_rfl
theorem zx14 (P : Params) : (((exs.drop 14).take 1).all fun f => f (hd.KG P)) = true := by kernel_rfl
theorem zx15 (P : Params) : (((exs.drop 15).take 1).all fun f => f (hd.KG P)) = true := by kernel_rfl
theorem zx16 (P : Params) : (((exs.drop 16).take 1).all fun f => f (hd.KG P)) = true := by kernel_rfl
theorem zx17 (P : Params) : (((exs.drop 17).take 1).all fun f => f (hd.KG P)) = true := by kernel_rfl
theorem zx18 (P : Params) : (((exs.drop 18).take 1).all fun f => f (hd.KG P)) = true := by kernel_rfl
theorem zx19 (P : Params) : (((exs.drop 19).take 1).all fun f => f (hd.KG P)) = true := by kernel_rfl
theorem zx20 (P : Params) : (((exs.drop 20).take 1).all fun f => f (hd.KG P)) = true := by kernel_rfl
theorem zx21 (P : Params) : (((exs.drop 21).take 1).all fun f => f (hd.KG P)) = true := by kernel_rfl
theorem zx22 (P : Params) : ((exs.drop 22).all fun f => f (hd.KG P)) = true := by kernel_rfl
theorem zx (P : Params) : (exs.all fun f => f (hd.KG P)) = true := PL.Hd.all_cut 1 (zx0 P) (PL.Hd.all_cut 1 (zx1 P) (by rw [List.drop_drop]; exact PL.Hd.all_cut 1 (zx2 P) (by rw [List.drop_drop]; exact PL.Hd.all_cut 1 (zx3 P) (by rw [List.drop_drop]; exact PL.Hd.all_cut 1 (zx4 P) (by rw [List.drop_drop]; exact PL.Hd.all_cut 1 (zx5 P) (by rw [List.drop_drop]; exact PL.Hd.all_cut 1 (zx6 P) (by rw [List.drop_drop]; exact PL.Hd.all_cut 1 (zx7 P) (by rw [List.drop_drop]; exact PL.Hd.all_cut 1 (zx8 P) (by rw [List.drop_drop]; exact PL.Hd.all_cut 1 (zx9 P) (by rw [List.drop_drop]; exact PL.Hd.all_cut 1 (zx10 P) (by rw [List.drop_drop]; exact PL.Hd.all_cut 1 (zx11 P) (by rw [List.drop_drop]; exact PL.Hd.all_cut 1 (zx12 P) (by rw [List.drop_drop]; exact PL.Hd.all_cut 1 (zx13 P) (by rw [List.drop_drop]; exact PL.Hd.all_cut 1 (zx14 P) (by rw [List.drop_drop]; exact PL.Hd.all_cut 1 (zx15 P) (by rw [List.drop_drop]; exact PL.Hd.all_cut 1 (zx16 P) (by rw [List.drop_drop]; exact PL.Hd.all_cut 1 (zx17 P) (by rw [List.drop_drop]; exact PL.Hd.all_cut 1 (zx18 P) (by rw [List.drop_drop]; exact PL.Hd.all_cut 1 (zx19 P) (by rw [List.drop_drop]; exact PL.Hd.all_cut 1 (zx20 P) (by rw [List.drop_drop]; exact PL.Hd.all_cut 1 (zx21 P) (by rw [List.drop_drop]; exact zx22 P))))))))))))))))))))))
theorem ze (P : Params) : PL.Hd.endB (hd.KF P) (hd.KG P) mks = true := by kernel_rfl
def loose : List Str := (["LaneError", "NoNumber", "NoContent", "NoGrid", "NoItem", "NoPage", "ManyLanes", "NoPath", "NoRange", "TooMany", "NoWish", "OtherBoxes", "NoAxis", "NoArea", "NoSizes", "NoCrossings", "NoOrder", "NoText", "NoStates", "_law_draw", "_law_one", "_law_taken", "_law_by_place", "_law_by_name", "_law_fields", "_law_right"] : List Str)
theorem look1 (w : World) (os : OsState) : HandSHeadRun.looksF RR.prog (PySem.W.boot_heap w.params) (hd.SF w.params os).abs = true := by kernel_rfl
theorem look2 (w : World) (os : OsState) : HandSHeadRun.seenQ qq loose (importedModules RR.prog.main.body) (fun s => PySem.W.xlAt qq [] s && PySem.W.recOk (PySem.W.OpenRow.toRowW RR).records s) (hd.SF w.params os).abs = PySem.W.openGood qq loose := by kernel_rfl
theorem look3 (w : World) (os : OsState) : ob (hd.SF w.params os) = hk.val w := by kernel_rfl
end PL.k04
open PySem PySem.W PySem.Calls PyProof.Rows in
set_option maxRecDepth 100000 in
set_option maxHeartbeats 0 in
theorem PL.k04.holds : PySem.Challenge.rw_gridlanes_k04_exceptions.Holds := by
  w_on; o_law
  refine PL.Hd.head_cut (r := OpenLaw.row PySem.Challenge.rw_gridlanes_k04_exceptions) (q := PL.k04.qq) (H := PL.k04.hk) (ob := PL.k04.ob) (M := PL.k04.hd.steps) (n0 := PL.k04.hd.n0) (ann := PL.k04.hd.ann) (SF := PL.k04.hd.SF) (loose := PL.k04.loose) (d := HandSHeadRun.topDef (OpenLaw.row PySem.Challenge.rw_gridlanes_k04_exceptions).prog 28) (kwd := []) PL.k04.ob_eq
    (by kernel_rfl) (fun s => by kernel_rfl) (fun w => by kernel_rfl) (fun w => by kernel_rfl) PL.k04.hd.all PL.k04.look1 PL.k04.look2 PL.k04.look3 (by kernel_rfl) (by kernel_rfl) (by kernel_rfl) (by rfl) (by first | assumption | decide +kernel) (by decide +kernel) ⟨rfl, rfl, rfl, rfl, rfl, by decide +kernel⟩ ?hw ?hc
  case hw => w_witness2
  case hc =>
    refine LamX.walk_ofTsE (l := PySem.Challenge.rw_gridlanes_k04_exceptions) (n := 63) (k := 5) (x := "script") (CX := fun _ => L2.CX0) rfl (by decide) (by kernel_rfl) ⟨rfl, by decide, by decide⟩ ?F (fun _ _ _ _ _ z => z)
    intro w mg fa h Y G hmg0
    have KX0 : (PL.k04.hd.KF w.params).In h := Y
    have KX : (PL.k04.hd.KG w.params).In h := PL.Hd.in_out (PL.k04.hd.kg_eq w.params) KX0
    have c := PL.Hd.says_of (PL.k04.zf w.params) (PL.k04.zd w.params) (PL.k04.zm w.params)
    have e := PL.k04.zx w.params
    have eb := PL.k04.ze w.params
    have hmg : mg ("law" : PySem.Str) = some (.ref fa) := by
      have e : (HandSHeadRun.topDef (OpenLaw.row PySem.Challenge.rw_gridlanes_k04_exceptions).prog 28).name = ("law" : PySem.Str) := by kernel_rfl
      rw [← e]
      exact hmg0
    obtain ⟨fd, hb, hF⟩ := PL.k04.law_F (P := (PySem.Challenge.rw_gridlanes_k04_exceptions).prog) (w := w) KX G hmg c e
    exact ⟨PL.k04.hd.KG w.params, KX, fd, PL.Hd.csL (PL.k04.hd.KG w.params) PL.k04.mks, PL.k04.sp_law _, PL.Hd.end_hT KX0 eb, PL.Hd.end_nT eb, PL.Hd.end_C KX eb, hb, fun H a ns hl _ hT hS => PL.law_sp (PL.k04.law_ok ns hl) hS (PL.Hd.end_tabs hT), fun base k1 k2 t => hF base k1 k2 (PL.Hd.end_TB t)⟩
set_option maxRecDepth 100000 in
set_option maxHeartbeats 8000000 in
theorem PySem.Challenge.cw_gridlanes_k04_exceptions_holds : PySem.Challenge.rw_gridlanes_k04_exceptions.Holds := by
  exact PL.k04.holds
